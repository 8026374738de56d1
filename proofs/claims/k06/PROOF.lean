import PyProof.Rows.All
import Wide.All
import OpenK.AllK
import Wide.FinOn
import HandS.ForMost
import HandS.ForExc
import HandS.Wide
import HandS.CallSlots
import HandS.IsInst
import HandS.HeadWalk
import HandS.HeadHook4
import HandS.HeadEnd
import HandS.TupAny
import HandS.TupLe
import HandS.TupMul
import KE.KStateDown
import HandS.Iter
import HandS.Zip
import KE.GoesEnum
import KE.KTupSum
import KE.KEqDeep
import PyProof.P3Eq
import HandS.Head0
import HandS.Head1
import HandS.Head2
import HandS.HeadHook2
import PyProof.ReprRoads
import HandS.Star
import HandS.RaiseMore
import HandS.Deep
import HandS.Style
import PyProof.P3In
import HandS.SortRule
import HandS.SortInts
import KE.GoesZip
import HandS.Lambda
import KE.KExcInit
import HandS.ExcInit
import HandS.ExcField
import HandS.ClsMeth
import HandS.TryMany
import HandS.DictComp
import HandS.WordsDict
import HandS.Conv
import HandS.More
import HandS.ExcValue
import KE.KExcIs
import HandS.Text
import KE.KDictList
import HandS.HeadHook3
import PyProof.ByEval2
import PyProof.Rows.StrSplitCount
import KE.KDictZip
import HandS.Zip0
import KE.DataMinMax
import PyProof.ExcBaseAll.RuntimeError
import HandS.Replace
import PyProof.Rows.StrReprFit
import PyProof.StrOps2
import PyProof.ExcBaseAll.LookupError
import HandS.DictTup
import KE.KDictCopyH
import KE.SortData
import PySem.Challenge.RW_nestletters_k06_whole_codes
set_option Elab.async false
set_option linter.all false
set_option maxRecDepth 100000
set_option maxHeartbeats 4000000
namespace PF
open PySem PySem.Spec PyProof.Rows L2
abbrev St := L2.St
inductive W where
  | non | bl (b : Bool) | int (i : Int) | str (x : Str)
  | tup (ws : List W) | lst (ws : List W)
  | dct (ks : List Key) (ws : List W)
  | scr (n : Nat) | stt
  | clo (x : Str) (p : List Nat) (ws : List W) | lam (x : Str) (p : List Nat) | exo (c : Nat) (fs : List W)
  | obj (i : Nat) | dcu (ks : List (List Key)) (ws : List W) | key (k : List Key)
inductive T (α : Type) where
  | ok (a : α) | exc (c : Nat) (fs : List W) | bad | ask (n : Nat) (k : Nat → T α)
  | get (i : Nat) (k : Nat → List W → T α) | put (i : Nat) (fs : List W) (k : T α) | new (c : Nat) (fs : List W) (k : Nat → T α)
/-- what a run changes: how many draws may come, the objects: their classes, their fields -/
structure Dw where
  n : Nat
  os : List (Nat × List W)
def T.bind {α β : Type} : T α → (α → T β) → T β
  | .ok a, f => f a
  | .exc c fs, _ => .exc c fs
  | .bad, _ => .bad
  | .ask n k, f => .ask n fun i => (k i).bind f
  | .get i k, f => .get i fun c fs => (k c fs).bind f
  | .put i fs k, f => .put i fs (k.bind f)
  | .new c fs k, f => .new c fs fun i => (k i).bind f
/-- d: how many draws may come; runs without objects -/
def T.AllB {α : Type} (P : Nat → α → Prop) (E : Nat → Nat → List W → Prop) : Nat → T α → Prop
  | d, .ok a => P d a
  | d, .exc c fs => E d c fs
  | d, .ask n k => ∃ e, d = e + 1 ∧ ∀ i, i < n → T.AllB P E e (k i)
  | _, _ => False
theorem T.AllB.imp {α : Type} {P P' : Nat → α → Prop} {E E' : Nat → Nat → List W → Prop} (h : ∀ d a, P d a → P' d a) (g : ∀ d c fs, E d c fs → E' d c fs) : ∀ {t : T α} {d : Nat}, t.AllB P E d → t.AllB P' E' d
  | .ok a, d, x => h d a x
  | .exc c fs, d, x => g d c fs x
  | .bad, _, x => x
  | .get _ _, _, x => x
  | .put _ _ _, _, x => x
  | .new _ _ _, _, x => x
  | .ask n k, d, x => by
    obtain ⟨e, he, x⟩ := x
    exact ⟨e, he, fun i hi => T.AllB.imp h g (x i hi)⟩
theorem T.allB_bind {α β : Type} {P : Nat → β → Prop} {E : Nat → Nat → List W → Prop} {f : α → T β} : ∀ {t : T α} {d : Nat}, (t.bind f).AllB P E d ↔ t.AllB (fun d a => (f a).AllB P E d) E d
  | .ok a, d => Iff.rfl
  | .exc c fs, d => Iff.rfl
  | .bad, _ => Iff.rfl
  | .get _ _, _ => Iff.rfl
  | .put _ _ _, _ => Iff.rfl
  | .new _ _ _, _ => Iff.rfl
  | .ask n k, d => by
    constructor
    · rintro ⟨e, he, x⟩
      exact ⟨e, he, fun i hi => T.allB_bind.mp (x i hi)⟩
    · rintro ⟨e, he, x⟩
      exact ⟨e, he, fun i hi => T.allB_bind.mpr (x i hi)⟩
/-- runs with objects -/
def T.AllW {α : Type} (P : Dw → α → Prop) (E : Dw → Nat → List W → Prop) : Dw → T α → Prop
  | d, .ok a => P d a
  | d, .exc c fs => E d c fs
  | _, .bad => False
  | d, .ask n k => ∃ e, d.n = e + 1 ∧ ∀ i, i < n → T.AllW P E ⟨e, d.os⟩ (k i)
  | d, .get i k => ∃ c fs, d.os[i]? = some (c, fs) ∧ T.AllW P E d (k c fs)
  | d, .put i fs k => ∃ c gs, d.os[i]? = some (c, gs) ∧ T.AllW P E ⟨d.n, d.os.set i (c, fs)⟩ k
  | d, .new c fs k => T.AllW P E ⟨d.n, d.os ++ [(c, fs)]⟩ (k d.os.length)
theorem T.AllW.imp {α : Type} {P P' : Dw → α → Prop} {E E' : Dw → Nat → List W → Prop} (h : ∀ d a, P d a → P' d a) (g : ∀ d c fs, E d c fs → E' d c fs) {t : T α} {d : Dw} (x : t.AllW P E d) : t.AllW P' E' d := by
  induction t generalizing d with
  | ok a => exact h d a x
  | exc c fs => exact g d c fs x
  | bad => exact x
  | ask n k ih =>
    obtain ⟨e, he, x⟩ := x
    exact ⟨e, he, fun i hi => ih i (x i hi)⟩
  | get i k ih =>
    obtain ⟨c, fs, e, x⟩ := x
    exact ⟨c, fs, e, ih c fs x⟩
  | put i fs k ih =>
    obtain ⟨c, gs, e, x⟩ := x
    exact ⟨c, gs, e, ih x⟩
  | new c fs k ih => exact ih _ x
theorem T.allW_bind {α β : Type} {P : Dw → β → Prop} {E : Dw → Nat → List W → Prop} {f : α → T β} {t : T α} {d : Dw} : (t.bind f).AllW P E d ↔ t.AllW (fun d a => (f a).AllW P E d) E d := by
  induction t generalizing d with
  | ok a => exact Iff.rfl
  | exc c fs => exact Iff.rfl
  | bad => exact Iff.rfl
  | ask n k ih =>
    constructor
    · rintro ⟨e, he, x⟩
      exact ⟨e, he, fun i hi => (ih i).mp (x i hi)⟩
    · rintro ⟨e, he, x⟩
      exact ⟨e, he, fun i hi => (ih i).mpr (x i hi)⟩
  | get i k ih =>
    constructor
    · rintro ⟨c, fs, e, x⟩
      exact ⟨c, fs, e, (ih c fs).mp x⟩
    · rintro ⟨c, fs, e, x⟩
      exact ⟨c, fs, e, (ih c fs).mpr x⟩
  | put i fs k ih =>
    constructor
    · rintro ⟨c, gs, e, x⟩
      exact ⟨c, gs, e, ih.mp x⟩
    · rintro ⟨c, gs, e, x⟩
      exact ⟨c, gs, e, ih.mpr x⟩
  | new c fs k ih => exact ih _
/-- a run without objects keeps them -/
theorem T.allW_of {α : Type} {P : Nat → α → Prop} {E : Nat → Nat → List W → Prop} {os : List (Nat × List W)} {t : T α} {n : Nat} (x : t.AllB P E n) : t.AllW (fun d a => d.os = os ∧ P d.n a) (fun d c fs => d.os = os ∧ E d.n c fs) ⟨n, os⟩ := by
  induction t generalizing n with
  | ok a => exact ⟨rfl, x⟩
  | exc c fs => exact ⟨rfl, x⟩
  | ask m k ih =>
    obtain ⟨e, he, x⟩ := x
    exact ⟨e, he, fun i hi => ih i (x i hi)⟩
  | bad => exact x.elim
  | _ => exact x.elim
/-- names and the cells that hold what they are -/
abbrev Cl := List (Str × Addr)
structure Cc where
  S : Addr
  ca : Addr
  la : Addr
  A : List Addr
  M : List Addr
  T : List (Addr × Str) := []
  C : Cl := []
  K : PySem.W.Frag := []
  O : List Addr := []
def kCells : Str := "cells"
def kLefts : Str := "lefts"
def kAt : Str := "at"
def kRoom : Str := "room"
/-- the state stands; so many draws may come -/
def St0 (c : Cc) (d : Nat) (H : Hp) : Prop :=
  ∃ (cells lefts : List Int) (k r : Int), H c.S = some (.dK [(.inr kCells, .ref c.ca), (.inr kLefts, .ref c.la), (.inr kAt, .int k), (.inr kRoom, .int r)]) ∧
    H c.ca = some (.lst (cells.map V.int)) ∧ H c.la = some (.lst (lefts.map V.int)) ∧ lefts.length = cells.length ∧ 0 < cells.length ∧ 0 ≤ k ∧ k + d ≤ 2 ^ 60 ∧ c.ca ≠ c.la ∧ LamX.Tabs c.T H
/-- no table of code objects -/
inductive IsTb : HO → Prop
  | tbl (ps : Array Value) : IsTb (.tbl ps)
  | ins (C dx : Addr) (fs : List (Str × V)) : IsTb (.ins C dx fs)
abbrev NoT (o : HO) : Prop := ¬ IsTb o
theorem NoT.t {o : HO} (h : NoT o) (ps : Array Value) : o ≠ .tbl ps := fun e => h (e ▸ .tbl ps)
theorem NoT.i {o : HO} (h : NoT o) (C dx : Addr) (fs : List (Str × V)) : o ≠ .ins C dx fs := fun e => h (e ▸ .ins C dx fs)
/-- all but the state's own two objects is kept; tables of code objects grow -/
structure Step (c : Cc) (H H' : Hp) : Prop where
  keep : ∀ b o, H b = some o → b ≠ c.S → b ≠ c.la → NoT o → H' b = some o
  tbl : ∀ b ps, H b = some (.tbl ps) → ∃ more, H' b = some (.tbl (ps ++ more))
  ins : ∀ b C dx fs, H b = some (.ins C dx fs) → ∃ gs, H' b = some (.ins C dx gs)
theorem Step.refl (c : Cc) (H : Hp) : Step c H H := ⟨fun _ _ e _ _ _ => e, fun _ ps e => ⟨#[], by rw [e]; simp⟩, fun _ _ _ fs e => ⟨fs, e⟩⟩
theorem Step.trans {c : Cc} {H H1 H2 : Hp} (a : Step c H H1) (b : Step c H1 H2) : Step c H H2 := ⟨fun x o e h1 h2 h3 => b.keep x o (a.keep x o e h1 h2 h3) h1 h2 h3, fun x ps e => by
  obtain ⟨m, e1⟩ := a.tbl x ps e
  obtain ⟨n, e2⟩ := b.tbl x _ e1
  exact ⟨m ++ n, by rw [e2, Array.append_assoc]⟩, fun x C dx fs e => by
  obtain ⟨gs, e1⟩ := a.ins x C dx fs e
  exact b.ins x C dx gs e1⟩
/-- all stays that stood -/
theorem Step.same {c : Cc} {H H' : Hp} (h : ∀ b o, H b = some o → H' b = some o) : Step c H H' := ⟨fun b o e _ _ _ => h b o e, fun b ps e => ⟨#[], by rw [h b _ e]; simp⟩, fun b C dx fs e => ⟨fs, h b _ e⟩⟩
theorem Step.new {c : Cc} {H : Hp} {p : Addr} {o : HO} (n : H p = none) : Step c H (upd H p o) := .same fun b u e => by
  rw [upd_ne (ne_of_none e n)]
  exact e
theorem Tabs.upd {T : List (Addr × Str)} {H : Hp} {p : Addr} {o u : HO} (t : LamX.Tabs T H) (h : H p = some o) (nt : NoT o) (nc : ∀ q, o ≠ LamX.CodeO p q) : LamX.Tabs T (L2.upd H p u) := fun x hx => by
  obtain ⟨ps, h1, h2, h3⟩ := t x hx
  refine ⟨ps, by rw [upd_ne (ne_of h1 h (Ne.symm (nt.t _)))]; exact h1, h2, fun pos cv hc => ?_⟩
  obtain ⟨c, e1, e2⟩ := h3 pos cv hc
  refine ⟨c, e1, ?_⟩
  rw [upd_ne]
  · exact e2
  · intro z
    subst z
    rw [h] at e2
    exact nc _ (Option.some.inj e2)
theorem St0.new {c : Cc} {d : Nat} {H : Hp} {p : Addr} {o : HO} (s : St0 c d H) (n : H p = none) : St0 c d (upd H p o) := by
  obtain ⟨cells, lefts, k, r, h1, h2, h3, h4, h5, h6, h7, h8, h9⟩ := s
  exact ⟨cells, lefts, k, r, by rw [upd_ne (ne_of_none h1 n)]; exact h1, by rw [upd_ne (ne_of_none h2 n)]; exact h2, by rw [upd_ne (ne_of_none h3 n)]; exact h3, h4, h5, h6, h7, h8, h9.ext fun b u e => by rw [upd_ne (ne_of_none e n)]; exact e⟩
theorem St0.tab {c : Cc} {d : Nat} {H : Hp} (s : St0 c d H) : LamX.Tabs c.T H := by
  obtain ⟨_, _, _, _, _, _, _, _, _, _, _, _, h9⟩ := s
  exact h9
theorem St0.S {c : Cc} {d : Nat} {H : Hp} (s : St0 c d H) : ∃ kvs, H c.S = some (.dK kvs) := by
  obtain ⟨_, _, _, _, h1, _⟩ := s
  exact ⟨_, h1⟩
theorem St0.la {c : Cc} {d : Nat} {H : Hp} (s : St0 c d H) : ∃ xs, H c.la = some (.lst xs) := by
  obtain ⟨_, _, _, _, _, _, h3, _⟩ := s
  exact ⟨_, h3⟩
/-- the errors' names and fields -/
def xAll : List (Str × List Str) := [("BadPaper", ["part"]), ("BadCode", ["part"]), ("BadFraction", ["given"]), ("BadNumber", ["given"]), ("BadPrime", ["given"]), ("BadMessage", ["given"]), ("BadLaying", ["given"]), ("BadMail", ["given"]), ("BadLot", ["given"]), ("BadStair", ["given"]),
  ("BadPoints", ["given"]), ("Unsound", ["need"]), ("BadChances", ["given"]), ("BadLetter", ["given"]), ("BadLabel", ["given"]), ("BadChannel", ["path"]), ("BadWorths", ["given"]), ("BadCost", ["given"]), ("BadRoom", ["given"]), ("BadList", ["given"]),
  ("BadLength", ["given"]), ("BadWishes", ["given"]), ("BadText", ["line", "word"]), ("Missing", ["given"]), ("NothingLeft", ["many"]), ("TooMany", ["most"]), ("NestError", [])]
def xName (n : Nat) : Str := (xAll.getD n ("", [])).1
def xFlds (n : Nat) : List Str := (xAll.getD n ("", [])).2
structure LamD where
  params : Arguments
  body : Expr
  scope : Scope
def kidE : Expr → Nat → Option Expr
  | .List es _, n => es[n]?
  | .Tuple es _ _, n => es[n]?
  | .Call _ es _ _, n => es[n]?
  | .BoolOp _ es _, n => es[n]?
  | .UnaryOp _ e _, _ => some e
  | .BinOp l _ r _, n => [l, r][n]?
  | .IfExp t a b _, n => [t, a, b][n]?
  | .Compare l _ cs _, n => (l :: cs)[n]?
  | .Subscript v i _, n => [v, i][n]?
  | _, _ => none
def atE : Expr → List Nat → Option Expr
  | e, [] => some e
  | e, n :: p => (kidE e n).bind fun e => atE e p
/-- the statements that a statement holds, the expressions that it holds -/
def subS : Stmt → Nat → List Stmt
  | .If _ b o _, n => [b, o].getD n []
  | .For _ _ b _ _, 0 => b
  | _, _ => []
def expS : Stmt → Option Expr
  | .Assign _ v _ => some v
  | .Return v _ => v
  | .Expr v _ => some v
  | .If t _ _ _ => some t
  | .For _ i _ _ _ => some i
  | _ => none
def atS : List Stmt → List (Nat × Nat) → Nat → List Nat → Option Expr
  | ss, [], n, p => (ss[n]?).bind fun st => (expS st).bind fun e => atE e p
  | ss, (n, k) :: r, m, p => (ss[n]?).bind fun st => atS (subS st k) r m p
/-- the lambda in the def x of the module at a path: n1, k1, n2, k2, .. (statements), n, then the way in the expression -/
def pathOf : List Nat → List (Nat × Nat) × Nat × List Nat
  | 0 :: n :: p => ([], n, p)
  | 1 :: n :: k :: p => let (a, m, q) := pathOf p; ((n, k) :: a, m, q)
  | _ => ([], 0, [])
def lamAt (ss : List Stmt) (p : List Nat) : Option LamD := match atS ss (pathOf p).1 (pathOf p).2.1 (pathOf p).2.2 with
  | some (.Lambda ps b sc _) => some ⟨ps, b, sc⟩
  | _ => none
def lamK (K : PySem.W.Frag) (x : Str) (p : List Nat) : Option LamD := match K.lookup (He.ga K x) with
  | some o => match o.data with
    | .func fd => match fd.body with
      | .stmts ss => lamAt ss p
      | _ => none
    | _ => none
  | none => none
/-- the function of a lambda, its defaults at dV -/
abbrev lfd (qual : Str) (params : Arguments) (body : Expr) (scope : Scope) (cl : List (Str × Addr)) (dV pm cdv ct : Value) : FuncData :=
  { name := "<lambda>", qualname := qual, params := params, body := .expr body, scope := scope, globals := mainGlobals, closure := cl, defaults := dV, kwdefaults := .none, doc := .none, pyModule := pm, annotations := none, code := cdv, closureTuple := ct, builtins := builtinsNs }
abbrev lob (qual : Str) (params : Arguments) (body : Expr) (scope : Scope) (cl : List (Str × Addr)) (dV pm : Value) (c' : Addr) (ctv : Value) : Obj := { cls := .type "function", data := .func (lfd qual params body scope cl dV pm (.ref c') ctv) }
/-- the very object o stands at a -/
def ObX (a : Addr) (o : Obj) : HO := .ext fun h => h.get? a = some o
/-- the parameters of a lambda: none, or one with an int as default -/
inductive ParOk : Option Str → Arguments → Prop
  | zero : ParOk none ⟨[], [], none, [], [], none, []⟩
  | one (x : Str) (p1 p2 : Pos) (i : Int) (j : Nat) : ParOk (some x) ⟨[], [⟨x, none, p1⟩], none, [], [], none, [.Constant (.int i) j p2]⟩
def lamQ (x : Str) : Str := x ++ ".<locals>." ++ "<lambda>"
/-- at f stands the lambda l, made with the cells cl -/
def LamAt (K : PySem.W.Frag) (H : Hp) (f : Addr) (x : Str) (p : List Nat) (l : LamD) (cl : Cl) : Prop := lamK K x p = some l ∧ ∃ (dV pm ctv : Value) (c' : Addr) (one : Option Str), H f = some (ObX f (lob (lamQ x) l.params l.body l.scope cl dV pm c' ctv)) ∧ H c' = some (LamX.CodeO c' (lamQ x)) ∧ ParOk one l.params ∧
  (one = none → dV = .none) ∧ (∀ y, one = some y → ∃ (D : Addr) (u : Value), dV = .ref D ∧ H D = some (ObX D { cls := .type "tuple", data := .seq #[u] }))
/-- the cells hold vs -/
inductive CapsAt (H : Hp) : Cl → List V → Prop
  | nil : CapsAt H [] []
  | cons {y : Str} {a : Addr} {o : Obj} {u : Value} {v : V} {cl : Cl} {vs : List V} : H a = some (ObX a o) → o.data = .cell (some u) → RelV v u → CapsAt H cl vs → CapsAt H ((y, a) :: cl) (v :: vs)
/-- an error at a, of a class, with a dict -/
def ExV (a : Addr) (cls : Value) (dx : Option Addr) : HO := .ext fun h => ∃ (oe : Obj) (vs : Array Value), h.get? a = some oe ∧ Zc cls dx oe ∧ oe.data = .fields vs
mutual
/-- no closure, no error in it -/
def plain : W → Bool
  | .clo _ _ _ => false
  | .lam _ _ => false
  | .exo _ _ => false
  | .tup ws => plainL ws
  | .lst ws => plainL ws
  | .dct _ ws => plainL ws
  | .dcu _ ws => plainL ws
  | _ => true
def plainL : List W → Bool
  | [] => true
  | w :: ws => plain w && plainL ws
end
/-- what closures and errors lean on is kept -/
structure Kp (H H' : Hp) : Prop where
  ext : ∀ b φ, H b = some (.ext φ) → H' b = some (.ext φ)
  xd : ∀ b fs, H b = some (.xd fs) → H' b = some (.xd fs)
theorem LamAt.kp {K : PySem.W.Frag} {H H' : Hp} {f : Addr} {x : Str} {p : List Nat} {l : LamD} {cl : Cl} (k : Kp H H') (h : LamAt K H f x p l cl) : LamAt K H' f x p l cl := by
  obtain ⟨h0, dV, pm, ctv, c', one, h1, h2, h3, h4, h5⟩ := h
  refine ⟨h0, dV, pm, ctv, c', one, k.ext _ _ h1, k.ext _ _ h2, h3, h4, fun y hy => ?_⟩
  obtain ⟨D, u, e, hD⟩ := h5 y hy
  exact ⟨D, u, e, k.ext _ _ hD⟩
theorem CapsAt.kp {H H' : Hp} (k : Kp H H') : ∀ {cl : Cl} {vs : List V}, CapsAt H cl vs → CapsAt H' cl vs
  | _, _, .nil => .nil
  | _, _, .cons h1 h2 h3 r => .cons (k.ext _ _ h1) h2 h3 (CapsAt.kp k r)
mutual
inductive Rep (K : PySem.W.Frag) (c : Cc) (H : Hp) : W → V → Prop
  | non : Rep K c H .non .non
  | bl (b : Bool) : Rep K c H (.bl b) (.bl b)
  | int (i : Int) : Rep K c H (.int i) (.int i)
  | str (x : Str) : Rep K c H (.str x) (.str x)
  | tup {a : Addr} {vs : List V} {ws : List W} : SqT K H a vs → RepL K c H ws vs → Rep K c H (.tup ws) (.ref a)
  | lst {a : Addr} {vs : List V} {ws : List W} : a ∉ c.A → H a = some (.lst vs) → RepL K c H ws vs → Rep K c H (.lst ws) (.ref a)
  | dct {a : Addr} {kvs : List (Key × V)} {ws : List W} : a ∉ c.A → H a = some (.dK kvs) → RepL K c H ws (kvs.map (·.2)) → Rep K c H (.dct (kvs.map (·.1)) ws) (.ref a)
  | scr {a : Addr} {ns : List Int} : (a ∉ c.A ∧ Rd H a (.lst (ns.map V.int))) ∨ SqL K (fun _ => none) a (ns.map V.int) → Rep K c H (.scr ns.length) (.ref a)
  | stt : Rep K c H .stt (.ref c.S)
  | lam {f : Addr} {x : Str} {p : List Nat} {l : LamD} : LamAt K H f x p l (cloFrom c.C l.scope.names []) → Rep K c H (.lam x p) (.ref f)
  | clo {f : Addr} {x : Str} {p : List Nat} {l : LamD} {cl : Cl} {ws : List W} {vs : List V} : LamAt K H f x p l cl → cl.map (·.1) = (cloFrom [] l.scope.names []).map (·.1) → (cl.map (·.2)).Nodup → CapsAt H cl vs → plainL ws = true → RepL K c H ws vs → Rep K c H (.clo x p ws) (.ref f)
  | exo {a d : Addr} {n : Nat} {fs : List W} {vs : List V} : H a = some (ExV a (.ref (He.ga K (xName n))) (some d)) → H d = some (.xd ((xFlds n).zip vs).reverse) → vs.length = (xFlds n).length → RepL K c H fs vs → Rep K c H (.exo n fs) (.ref a)
  | exn {a : Addr} {n : Nat} : H a = some (ExV a (.ref (He.ga K (xName n))) none) → Rep K c H (.exo n []) (.ref a)
  | key {a : Addr} {k : List Key} : H a = some (.tup (k.map kV)) → Rep K c H (.key k) (.ref a)
  | obj {i : Nat} {a : Addr} : c.O[i]? = some a → Rep K c H (.obj i) (.ref a)
  | dcu {a : Addr} {o : Obj} {kvs : List (List Key × V)} {ws : List W} : a ∉ c.A → H a = some (.frz o (.dT kvs)) → RepL K c H ws (kvs.map (·.2)) → Rep K c H (.dcu (kvs.map (·.1)) ws) (.ref a)
inductive RepL (K : PySem.W.Frag) (c : Cc) (H : Hp) : List W → List V → Prop
  | nil : RepL K c H [] []
  | cons {w : W} {v : V} {ws : List W} {vs : List V} : Rep K c H w v → RepL K c H ws vs → RepL K c H (w :: ws) (v :: vs)
end
theorem Step.sqT0 {K : PySem.W.Frag} {c : Cc} {d : Nat} {H H' : Hp} {a : Addr} {vs : List V} (st : Step c H H') (s : St0 c d H) (h : SqT K H a vs) : SqT K H' a vs := by
  obtain ⟨kvs, hS⟩ := s.S
  obtain ⟨xs, hl⟩ := s.la
  rcases h with (h | ⟨o, h⟩) | h
  · exact .inl (.inl (st.keep _ _ h (ne_of h hS (by intro z; cases z)) (ne_of h hl (by intro z; cases z)) nofun))
  · exact .inl (.inr ⟨o, st.keep _ _ h (ne_of h hS (by intro z; cases z)) (ne_of h hl (by intro z; cases z)) nofun⟩)
  · exact .inr h
/-- what is fixed through a run -/
structure CcOk (c : Cc) : Prop where
  inS : c.S ∈ c.A
  inla : c.la ∈ c.A
  inca : c.ca ∈ c.A
theorem CcOk.neS {c : Cc} (h : CcOk c) {a : Addr} (n : a ∉ c.A) : a ≠ c.S := fun e => n (e ▸ h.inS)
theorem CcOk.nela {c : Cc} (h : CcOk c) {a : Addr} (n : a ∉ c.A) : a ≠ c.la := fun e => n (e ▸ h.inla)
theorem sqL_split {K : PySem.W.Frag} {H : Hp} {a : Addr} {vs : List V} (h : SqL K H a vs) : Rd H a (.lst vs) ∨ SqL K (fun _ => none) a vs := by
  rcases h with h | h
  · exact .inl h
  · exact .inr (.inr h)
theorem sqL_of_none {K : PySem.W.Frag} {H : Hp} {a : Addr} {vs : List V} (h : SqL K (fun _ => none) a vs) : SqL K H a vs := by
  rcases h with (h | ⟨_, h⟩) | h
  · cases h
  · cases h
  · exact .inr h
section
variable {K : PySem.W.Frag} {c : Cc} {d : Nat} {H H' : Hp}
theorem Step.kp0 (st : Step c H H') (s : St0 c d H) : Kp H H' := by
  obtain ⟨kvs, hS⟩ := s.S
  obtain ⟨xs, hl⟩ := s.la
  exact ⟨fun b φ h => st.keep _ _ h (ne_of h hS nofun) (ne_of h hl nofun) nofun, fun b φ h => st.keep _ _ h (ne_of h hS nofun) (ne_of h hl nofun) nofun⟩
theorem Step.lst {a : Addr} {o : HO} (st : Step c H H') (ok : CcOk c) (n : a ∉ c.A) (h : H a = some o) (nt : NoT o := by nofun) : H' a = some o := st.keep a o h (ok.neS n) (ok.nela n) nt
mutual
theorem Rep.step0 (st : Step c H H') (s : St0 c d H) (ok : CcOk c) : ∀ {w : W} {v : V}, Rep K c H w v → Rep K c H' w v
  | _, _, .non => .non
  | _, _, .bl b => .bl b
  | _, _, .int i => .int i
  | _, _, .str x => .str x
  | _, _, .tup h r => .tup (st.sqT0 s h) (RepL.step0 st s ok r)
  | _, _, .lst n h r => .lst n (st.lst ok n h) (RepL.step0 st s ok r)
  | _, _, .dct n h r => .dct n (st.lst ok n h) (RepL.step0 st s ok r)
  | _, _, .scr h => .scr (h.imp (fun ⟨n, r⟩ => ⟨n, r.imp (fun e => st.lst ok n e) fun ⟨o, e⟩ => ⟨o, st.lst ok n e⟩⟩) id)
  | _, _, .stt => .stt
  | _, _, .obj h => .obj h
  | _, _, .dcu n h r => .dcu n (st.lst ok n h) (RepL.step0 st s ok r)
  | _, _, .lam h => .lam (h.kp (st.kp0 s))
  | _, _, .clo h g n k pl r => .clo (h.kp (st.kp0 s)) g n (k.kp (st.kp0 s)) pl (RepL.step0 st s ok r)
  | _, _, .exo h1 h2 h3 r => .exo ((st.kp0 s).ext _ _ h1) ((st.kp0 s).xd _ _ h2) h3 (RepL.step0 st s ok r)
  | _, _, .exn h1 => .exn ((st.kp0 s).ext _ _ h1)
  | _, _, .key h => .key (by
      obtain ⟨kvs, hS⟩ := s.S
      obtain ⟨xs, hl⟩ := s.la
      exact st.keep _ _ h (ne_of h hS nofun) (ne_of h hl nofun) nofun)
theorem RepL.step0 (st : Step c H H') (s : St0 c d H) (ok : CcOk c) : ∀ {ws : List W} {vs : List V}, RepL K c H ws vs → RepL K c H' ws vs
  | _, _, .nil => .nil
  | _, _, .cons h r => .cons (Rep.step0 st s ok h) (RepL.step0 st s ok r)
end
/-- the classes of the program whose objects may be made, with their fields in the order of their making -/
def yAll : List (Str × List Str) := [("Words", ["own_words", "own_line", "own_spot"]), ("Polish", ["own_line_words", "own_count"]), ("Task", ["own_size", "own_many", "own_measure", "own_base", "own_table"]), ("Trial", ["held_receiver", "kept_past"]),
  ("Receiver", ["own_prime", "own_laying", "own_past"]), ("Desk", ["own_receiver"]), ("Shelf", ["own_layings"])]
def yName (n : Nat) : Str := (yAll.getD n ("", [])).1
def yFlds (n : Nat) : List Str := (yAll.getD n ("", [])).2
/-- at a stands an object with these fields -/
def ObAt (K : PySem.W.Frag) (c : Cc) (H : Hp) (a : Addr) (cl : Nat) (fs : List W) : Prop := ∃ (dx : Addr) (vs : List V), H a = some (.ins (He.ga K (yName cl)) dx ((yFlds cl).zip vs)) ∧ RepL K c H fs vs ∧ vs.length ≤ (yFlds cl).length ∧ plainL fs = true
/-- the program has none of these classes -/
def noObj (K : PySem.W.Frag) : Bool := yAll.all fun y => match PySem.W.nsIn K mainGlobals y.1 with
  | some (some _) => false
  | _ => true
structure ObOk (c : Cc) (os : List (Nat × List W)) (H : Hp) : Prop where
  ok : CcOk c
  len : c.O.length = os.length
  nd : c.O.Nodup
  at_ : ∀ (i : Nat) (a : Addr) (o : Nat × List W), c.O[i]? = some a → os[i]? = some o → ObAt c.K c H a o.1 o.2
  no : noObj c.K = true → os = []
/-- objects more -/
structure Gr (c c' : Cc) : Prop where
  S : c'.S = c.S
  ca : c'.ca = c.ca
  la : c'.la = c.la
  A : c'.A = c.A
  M : c'.M = c.M
  T : c'.T = c.T
  C : c'.C = c.C
  KK : c'.K = c.K
  O : c.O <+: c'.O
theorem Gr.refl (c : Cc) : Gr c c := ⟨rfl, rfl, rfl, rfl, rfl, rfl, rfl, rfl, List.prefix_rfl⟩
theorem Gr.trans {a b c : Cc} (g : Gr a b) (h : Gr b c) : Gr a c := ⟨h.S.trans g.S, h.ca.trans g.ca, h.la.trans g.la, h.A.trans g.A, h.M.trans g.M, h.T.trans g.T, h.C.trans g.C, h.KK.trans g.KK, g.O.trans h.O⟩
theorem Gr.at {c c' : Cc} (g : Gr c c') {i : Nat} {a : Addr} (h : c.O[i]? = some a) : c'.O[i]? = some a := by
  obtain ⟨m, e⟩ := g.O
  rw [← e, List.getElem?_append_left (List.getElem?_eq_some_iff.mp h).1]
  exact h
mutual
theorem Rep.gr {c' : Cc} (g : Gr c c') : ∀ {w : W} {v : V}, Rep K c H w v → Rep K c' H w v
  | _, _, .non => .non
  | _, _, .bl b => .bl b
  | _, _, .int i => .int i
  | _, _, .str x => .str x
  | _, _, .tup h r => .tup h (RepL.gr g r)
  | _, _, .lst n h r => .lst (by rw [g.A]; exact n) h (RepL.gr g r)
  | _, _, .dct n h r => .dct (by rw [g.A]; exact n) h (RepL.gr g r)
  | _, _, .dcu n h r => .dcu (by rw [g.A]; exact n) h (RepL.gr g r)
  | _, _, .scr h => .scr (by rw [g.A]; exact h)
  | _, _, .stt => by rw [← g.S]; exact .stt
  | _, _, .lam h => .lam (by rw [g.C]; exact h)
  | _, _, .clo h q n k pl r => .clo h q n k pl (RepL.gr g r)
  | _, _, .exo h1 h2 h3 r => .exo h1 h2 h3 (RepL.gr g r)
  | _, _, .exn h1 => .exn h1
  | _, _, .key h => .key h
  | _, _, .obj h => .obj (g.at h)
theorem RepL.gr {c' : Cc} (g : Gr c c') : ∀ {ws : List W} {vs : List V}, RepL K c H ws vs → RepL K c' H ws vs
  | _, _, .nil => .nil
  | _, _, .cons h r => .cons (Rep.gr g h) (RepL.gr g r)
end
theorem Step.gr {c c' : Cc} {H H' : Hp} (g : Gr c c') (st : Step c' H H') : Step c H H' := ⟨fun b o e h1 h2 n => st.keep b o e (by rw [g.S]; exact h1) (by rw [g.la]; exact h2) n, st.tbl, st.ins⟩
theorem CcOk.gr {c c' : Cc} (g : Gr c c') (h : CcOk c) : CcOk c' := ⟨by rw [g.S, g.A]; exact h.inS, by rw [g.la, g.A]; exact h.inla, by rw [g.ca, g.A]; exact h.inca⟩
/-- a step, with objects more -/
structure SG (c c' : Cc) (H H' : Hp) : Prop where
  g : Gr c c'
  st : Step c H H'
theorem SG.refl (c : Cc) (H : Hp) : SG c c H H := ⟨.refl c, .refl c H⟩
theorem SG.of {c : Cc} {H H' : Hp} (st : Step c H H') : SG c c H H' := ⟨.refl c, st⟩
theorem SG.trans {a b c : Cc} {H H1 H2 : Hp} (x : SG a b H H1) (y : SG b c H1 H2) : SG a c H H2 := ⟨x.g.trans y.g, x.st.trans (y.st.gr x.g)⟩
theorem SG.new {c : Cc} {H : Hp} {p : Addr} {o : HO} (n : H p = none) : SG c c H (upd H p o) := .of (.new n)
theorem SG.same {c : Cc} {H H' : Hp} (h : ∀ b o, H b = some o → H' b = some o) : SG c c H H' := .of (.same h)
/-- the state and the objects stand -/
def StOk (c : Cc) (d : Dw) (H : Hp) : Prop := St0 c d.n H ∧ ObOk c d.os H
end
section
variable {K : PySem.W.Frag} {c : Cc} {d : Dw} {H H' : Hp}
theorem StOk.tab (s : StOk c d H) : LamX.Tabs c.T H := s.1.tab
theorem StOk.S (s : StOk c d H) : ∃ kvs, H c.S = some (.dK kvs) := s.1.S
theorem StOk.la (s : StOk c d H) : ∃ xs, H c.la = some (.lst xs) := s.1.la
theorem Step.sqT {a : Addr} {vs : List V} (st : Step c H H') (s : StOk c d H) (h : SqT K H a vs) : SqT K H' a vs := st.sqT0 s.1 h
theorem Step.kp (st : Step c H H') (s : StOk c d H) : Kp H H' := st.kp0 s.1
theorem Rep.step {w : W} {v : V} {c' : Cc} (h : Rep K c H w v) (st : SG c c' H H') (s : StOk c d H) (ok : CcOk c) : Rep K c' H' w v := (Rep.step0 st.st s.1 ok h).gr st.g
theorem RepL.step {w : List W} {v : List V} {c' : Cc} (h : RepL K c H w v) (st : SG c c' H H') (s : StOk c d H) (ok : CcOk c) : RepL K c' H' w v := (RepL.step0 st.st s.1 ok h).gr st.g
/-- objects whose heap does not change -/
theorem ObAt.same {a : Addr} {cl : Nat} {fs : List W} {c' : Cc} (h : ObAt K c H a cl fs) (e : H a = H' a) (r : ∀ ws vs, RepL K c H ws vs → RepL K c' H' ws vs) : ObAt K c' H' a cl fs := by
  obtain ⟨dx, vs, h1, h3, h4⟩ := h
  exact ⟨dx, vs, by rw [← e]; exact h1, r _ _ h3, h4⟩
theorem ObAt.some {a : Addr} {cl : Nat} {fs : List W} (h : ObAt K c H a cl fs) : ∃ C dx fl, H a = some (.ins C dx fl) := by
  obtain ⟨dx, vs, h1, _⟩ := h
  exact ⟨_, dx, _, h1⟩
theorem ObOk.same {c' : Cc} {os : List (Nat × List W)} (h : ObOk c os H) (ok : CcOk c') (eO : c'.O = c.O) (eK : c'.K = c.K) (e : ∀ a C dx fl, H a = Option.some (.ins C dx fl) → H' a = Option.some (.ins C dx fl)) (r : ∀ ws vs, RepL c.K c H ws vs → RepL c.K c' H' ws vs) : ObOk c' os H' := ⟨ok, by rw [eO]; exact h.len, by rw [eO]; exact h.nd, fun i a o h1 h2 => by
  rw [eO] at h1
  have q := h.at_ i a o h1 h2
  obtain ⟨C, dx, fl, h3⟩ := q.some
  rw [eK]
  exact q.same (h3.trans (e a C dx fl h3).symm) r, by rw [eK]; exact h.no⟩
theorem StOk.new {p : Addr} {o : HO} (s : StOk c d H) (n : H p = none) : StOk c d (upd H p o) := ⟨s.1.new n, s.2.same s.2.ok rfl rfl (fun a C dx fl h => by rw [upd_ne (ne_of_none h n)]; exact h) fun ws vs r => r.step (.new n) s s.2.ok⟩
end
section
variable {K : PySem.W.Frag} {c : Cc} {d : Dw} {H H' : Hp}
theorem RepL.length : ∀ {ws : List W} {vs : List V}, RepL K c H ws vs → ws.length = vs.length
  | _, _, .nil => rfl
  | _, _, .cons _ r => congrArg (· + 1) (RepL.length r)
theorem RepL.get : ∀ {ws : List W} {vs : List V}, RepL K c H ws vs → ∀ {i : Nat} {w : W}, ws[i]? = some w → ∃ v, vs[i]? = some v ∧ Rep K c H w v
  | _, _, .nil, i, w, e => by simp at e
  | _, _, .cons h r, 0, w, e => by
    simp at e
    subst e
    exact ⟨_, rfl, h⟩
  | _, _, .cons h r, i + 1, w, e => by
    obtain ⟨v, e1, e2⟩ := RepL.get r (i := i) (w := w) (by simpa using e)
    exact ⟨v, by simpa using e1, e2⟩
theorem RepL.append : ∀ {ws ws' : List W} {vs vs' : List V}, RepL K c H ws vs → RepL K c H ws' vs' → RepL K c H (ws ++ ws') (vs ++ vs')
  | _, _, _, _, .nil, h => h
  | _, _, _, _, .cons h r, h' => .cons h (RepL.append r h')
theorem RepL.take : ∀ {ws : List W} {vs : List V} (n : Nat), RepL K c H ws vs → RepL K c H (ws.take n) (vs.take n)
  | _, _, 0, _ => .nil
  | _, _, _ + 1, .nil => .nil
  | _, _, n + 1, .cons h r => .cons h (RepL.take n r)
theorem RepL.drop : ∀ {ws : List W} {vs : List V} (n : Nat), RepL K c H ws vs → RepL K c H (ws.drop n) (vs.drop n)
  | _, _, 0, r => r
  | _, _, _ + 1, .nil => .nil
  | _, _, n + 1, .cons _ r => RepL.drop n r
theorem RepL.set : ∀ {ws : List W} {vs : List V} {w : W} {v : V} (n : Nat), RepL K c H ws vs → Rep K c H w v → RepL K c H (ws.set n w) (vs.set n v)
  | _, _, _, _, _, .nil, _ => .nil
  | _, _, _, _, 0, .cons _ r, h => .cons h r
  | _, _, _, _, n + 1, .cons q r, h => .cons q (RepL.set n r h)
theorem RepL.reverse : ∀ {ws : List W} {vs : List V}, RepL K c H ws vs → RepL K c H ws.reverse vs.reverse
  | _, _, .nil => .nil
  | _, _, .cons h r => by
    rw [List.reverse_cons, List.reverse_cons]
    exact (RepL.reverse r).append (.cons h .nil)
/-- a list of ints, of bools, of texts: the values are told -/
theorem RepL.ints : ∀ {ns : List Int} {vs : List V}, RepL K c H (ns.map W.int) vs → vs = ns.map V.int
  | [], _, .nil => rfl
  | n :: ns, _, .cons h r => by
    cases h
    rw [RepL.ints r]
    rfl
theorem RepL.bls : ∀ {ns : List Bool} {vs : List V}, RepL K c H (ns.map W.bl) vs → vs = ns.map V.bl
  | [], _, .nil => rfl
  | n :: ns, _, .cons h r => by
    cases h
    rw [RepL.bls r]
    rfl
theorem RepL.ofInts : ∀ (ns : List Int), RepL K c H (ns.map W.int) (ns.map V.int)
  | [] => .nil
  | n :: ns => .cons (.int n) (RepL.ofInts ns)
end
theorem Step.there {c : Cc} {H H' : Hp} {b : Addr} {o : HO} (st : Step c H H') (h : H b = some o) (h1 : b ≠ c.S) (h2 : b ≠ c.la) : ∃ o', H' b = some o' := by
  cases o with
  | tbl ps =>
    obtain ⟨m, e⟩ := st.tbl b ps h
    exact ⟨_, e⟩
  | ins C dx fs =>
    obtain ⟨gs, e⟩ := st.ins b C dx fs h
    exact ⟨_, e⟩
  | _ => exact ⟨_, st.keep b _ h h1 h2 nofun⟩
def OwnO (o : HO) : Prop := (∃ xs, o = .lst xs) ∨ (∃ xs, o = .dK xs) ∨ ∃ xs, o = .dT xs
theorem OwnO.noT {o : HO} (h : OwnO o) : NoT o := by
  rcases h with ⟨xs, rfl⟩ | ⟨xs, rfl⟩ | ⟨xs, rfl⟩
  · exact nofun
  · exact nofun
  · exact nofun
/-- the world stands -/
structure Wd (c : Cc) (d : Dw) (H : Hp) : Prop where
  ok : CcOk c
  st : StOk c d H
  av : ∀ b ∈ c.A, ∃ o, H b = some o ∧ OwnO o
theorem Wd.fresh {c : Cc} {d : Dw} {H : Hp} {p : Addr} (w : Wd c d H) (n : H p = none) : p ∉ c.A := fun h => by
  obtain ⟨o, e, _⟩ := w.av p h
  rw [n] at e
  cases e
theorem Wd.step {c c' : Cc} {d d' : Dw} {H H' : Hp} (w : Wd c d H) (st : SG c c' H H') (s' : StOk c' d' H') : Wd c' d' H' := ⟨w.ok.gr st.g, s', fun b hb => by
    rw [st.g.A] at hb
    obtain ⟨o, h, w⟩ := w.av b hb
    by_cases h1 : b = c.S
    · obtain ⟨kvs, h2⟩ := s'.S
      rw [st.g.S] at h2
      exact ⟨_, h1 ▸ h2, .inr (.inl ⟨_, rfl⟩)⟩
    · by_cases h2 : b = c.la
      · obtain ⟨xs, h3⟩ := s'.la
        rw [st.g.la] at h3
        exact ⟨_, h2 ▸ h3, .inl ⟨_, rfl⟩⟩
      · exact ⟨o, st.st.keep b o h h1 h2 w.noT, w⟩⟩
theorem Wd.new {c : Cc} {d : Dw} {H : Hp} {p : Addr} {o : HO} (w : Wd c d H) (n : H p = none) : Wd c d (upd H p o) := w.step (.new n) (w.st.new n)
/-- of each function of the written part: the table of its code, the name of its lambdas -/
def tabL (K : PySem.W.Frag) : List (Addr × Str) := K.filterMap fun x => match x.2.data with
  | .func fd => (match fd.code with
    | .ref c => some (He.tabOf K c, fd.qualname ++ ".<locals>." ++ "<lambda>")
    | _ => none)
  | _ => none
inductive Sl where
  | un | val (w : W) | own (ws : List W) | odc (kvs : List (Key × W)) | odt (kvs : List (List Key × W))
abbrev En := List Sl
/-- pairs that stand for a dict's pairs -/
def RepD (K : PySem.W.Frag) (c : Cc) (H : Hp) (acc : List (Key × W)) (kvs : List (Key × V)) : Prop := acc.map (·.1) = kvs.map (·.1) ∧ RepL K c H (acc.map (·.2)) (kvs.map (·.2))
def RepDT (K : PySem.W.Frag) (c : Cc) (H : Hp) (acc : List (List Key × W)) (kvs : List (List Key × V)) : Prop := acc.map (·.1) = kvs.map (·.1) ∧ RepL K c H (acc.map (·.2)) (kvs.map (·.2))
/-- the frame's own lists -/
structure MOk (c : Cc) (H : Hp) : Prop where
  inA : ∀ b ∈ c.M, b ∈ c.A
  nst : ∀ b ∈ c.M, b ∉ [c.S, c.ca, c.la]
  ls : ∀ b ∈ c.M, ∃ o, H b = some o ∧ OwnO o
theorem MOk.step {c c' : Cc} {H H' : Hp} (m : MOk c H) (st : SG c c' H H') : MOk c' H' := ⟨fun b hb => by
  rw [st.g.A]
  rw [st.g.M] at hb
  exact m.inA b hb, fun b hb => by
  rw [st.g.M] at hb
  rw [st.g.S, st.g.ca, st.g.la]
  exact m.nst b hb, fun b hb => by
  rw [st.g.M] at hb
  obtain ⟨o, h, w⟩ := m.ls b hb
  have n := m.nst b hb
  simp only [List.mem_cons, not_or] at n
  exact ⟨o, st.st.keep b _ h n.1 n.2.2.1 w.noT, w⟩⟩
/-- oa: the addresses of the lists that the frame's own slots hold -/
structure EnvOk (K : PySem.W.Frag) (Γ : Cl) (c : Cc) (d : Dw) (oa : Nat → Addr) (ρ : En) (σ : St) (H : Hp) : Prop where
  ok : CcOk c
  st : StOk c d H
  av : ∀ b ∈ c.A, ∃ o, H b = some o ∧ OwnO o
  len : ρ.length = σ.length
  val : ∀ (i : Nat) (w : W), ρ[i]? = some (.val w) → ∃ v, σ[i]? = some (some v) ∧ Rep K c H w v
  m : MOk c H
  own : ∀ (i : Nat) (ws : List W), ρ[i]? = some (.own ws) → oa i ∈ c.M ∧ σ[i]? = some (some (.ref (oa i))) ∧ ∃ vs, H (oa i) = some (.lst vs) ∧ RepL K c H ws vs
  inj : ∀ (i j : Nat) (ws us : List W), ρ[i]? = some (.own ws) → ρ[j]? = some (.own us) → oa i = oa j → i = j
  odc : ∀ (i : Nat) (kvs : List (Key × W)), ρ[i]? = some (.odc kvs) → oa i ∈ c.M ∧ σ[i]? = some (some (.ref (oa i))) ∧ ∃ vs, H (oa i) = some (.dK vs) ∧ RepD K c H kvs vs
  ido : ∀ (i j : Nat) (ks ls : List (Key × W)), ρ[i]? = some (.odc ks) → ρ[j]? = some (.odc ls) → oa i = oa j → i = j
  odt : ∀ (i : Nat) (kvs : List (List Key × W)), ρ[i]? = some (.odt kvs) → oa i ∈ c.M ∧ σ[i]? = some (some (.ref (oa i))) ∧ ∃ vs, H (oa i) = some (.dT vs) ∧ RepDT K c H kvs vs
  idt : ∀ (i j : Nat) (ks ls : List (List Key × W)), ρ[i]? = some (.odt ks) → ρ[j]? = some (.odt ls) → oa i = oa j → i = j
  tT : c.T = tabL K
  cC : c.C = Γ
  kK : c.K = K
section
variable {K : PySem.W.Frag} {c : Cc} {d d' : Dw} {oa : Nat → Addr} {ρ : En} {σ : St} {H H' : Hp}
theorem EnvOk.wd (e : EnvOk K Γ c d oa ρ σ H) : Wd c d H := ⟨e.ok, e.st, e.av⟩
theorem EnvOk.step {c' : Cc} (e : EnvOk K Γ c d oa ρ σ H) (st : SG c c' H H') (s' : StOk c' d' H') : EnvOk K Γ c' d' oa ρ σ H' where
  ok := e.ok.gr st.g
  st := s'
  av := (e.wd.step st s').av
  len := e.len
  val := fun i w h => by
    obtain ⟨v, h1, h2⟩ := e.val i w h
    exact ⟨v, h1, h2.step st e.st e.ok⟩
  m := e.m.step st
  own := fun i ws h => by
    obtain ⟨h1, h3, vs, h4, h5⟩ := e.own i ws h
    have h2 := e.m.nst _ h1
    refine ⟨by rw [st.g.M]; exact h1, h3, vs, st.st.keep _ _ h4 ?_ ?_ nofun, h5.step st e.st e.ok⟩
    · intro z
      exact h2 (by rw [z]; simp)
    · intro z
      exact h2 (by rw [z]; simp)
  inj := e.inj
  odc := fun i ws h => by
    obtain ⟨h1, h3, vs, h4, h5⟩ := e.odc i ws h
    have h2 := e.m.nst _ h1
    refine ⟨by rw [st.g.M]; exact h1, h3, vs, st.st.keep _ _ h4 ?_ ?_ nofun, h5.1, h5.2.step st e.st e.ok⟩
    · intro z
      exact h2 (by rw [z]; simp)
    · intro z
      exact h2 (by rw [z]; simp)
  ido := e.ido
  odt := fun i ws h => by
    obtain ⟨h1, h3, vs, h4, h5⟩ := e.odt i ws h
    have h2 := e.m.nst _ h1
    refine ⟨by rw [st.g.M]; exact h1, h3, vs, st.st.keep _ _ h4 ?_ ?_ nofun, h5.1, h5.2.step st e.st e.ok⟩
    · intro z
      exact h2 (by rw [z]; simp)
    · intro z
      exact h2 (by rw [z]; simp)
  idt := e.idt
  tT := st.g.T.trans e.tT
  cC := st.g.C.trans e.cC
  kK := st.g.KK.trans e.kK
end
/-- an error's class is the module's n-th name; its dict holds the fields -/
def RepX (K : PySem.W.Frag) (c : Cc) (H : Hp) (n : Nat) (fs : List W) (cls : Value) (dx : Option Addr) : Prop :=
  cls = .ref (He.ga K (xName n)) ∧ ∃ (d : Addr) (vs : List V), dx = some d ∧ H d = some (.xd ((xFlds n).zip vs).reverse) ∧ vs.length = (xFlds n).length ∧ RepL K c H fs vs
/-- what is wanted of an expression's run -/
def PQ (K : PySem.W.Frag) (c : Cc) (H : Hp) (Q : VK) : Dw → W → Prop := fun d w => ∀ ⦃c' : Cc⦄ v H', SG c c' H H' → StOk c' d H' → Rep K c' H' w v → Q v H'
def PQL (K : PySem.W.Frag) (c : Cc) (H : Hp) (Q : List V → Hp → Prop) : Dw → List W → Prop := fun d ws => ∀ ⦃c' : Cc⦄ vs H', SG c c' H H' → StOk c' d H' → RepL K c' H' ws vs → Q vs H'
def PB (c : Cc) (H : Hp) (Q : Bool → Hp → Prop) : Dw → Bool → Prop := fun d b => ∀ ⦃c' : Cc⦄ H', SG c c' H H' → StOk c' d H' → Q b H'
theorem PB.later {c c1 : Cc} {H H1 : Hp} {Q : Bool → Hp → Prop} {d : Dw} {b : Bool} (s : SG c c1 H H1) (h : PB c H Q d b) : PB c1 H1 Q d b := fun _ H' st so => h H' (s.trans st) so
def PX (K : PySem.W.Frag) (c : Cc) (H : Hp) (E : XK) : Dw → Nat → List W → Prop := fun d n fs => ∀ ⦃c' : Cc⦄ cls dx H', SG c c' H H' → StOk c' d H' → RepX K c' H' n fs cls dx → E cls dx H'
theorem PQ.later {K : PySem.W.Frag} {c c1 : Cc} {H H1 : Hp} {Q : VK} {d : Dw} {w : W} (s : SG c c1 H H1) (h : PQ K c H Q d w) : PQ K c1 H1 Q d w := fun _ v H' st so r => h v H' (s.trans st) so r
theorem PQL.later {K : PySem.W.Frag} {c c1 : Cc} {H H1 : Hp} {Q : List V → Hp → Prop} {d : Dw} {w : List W} (s : SG c c1 H H1) (h : PQL K c H Q d w) : PQL K c1 H1 Q d w := fun _ v H' st so r => h v H' (s.trans st) so r
theorem PX.later {K : PySem.W.Frag} {c c1 : Cc} {H H1 : Hp} {E : XK} {n : Nat} {d : Dw} {fs : List W} (s : SG c c1 H H1) (h : PX K c H E d n fs) : PX K c1 H1 E d n fs := fun _ v dx H' st so r => h v dx H' (s.trans st) so r
def liftE (K : PySem.W.Frag) (Γ : Cl) (E : WX) (f : En → T W) : TE := fun σ H Q => ∃ c d oa ρ, EnvOk K Γ c d oa ρ σ H ∧ (f ρ).AllW (PQ K c H Q) (PX K c H fun cls dx H' => E cls dx σ H') d
def liftA (K : PySem.W.Frag) (Γ : Cl) (E : WX) (f : En → T (List W)) : TA := fun σ H Q => ∃ c d oa ρ, EnvOk K Γ c d oa ρ σ H ∧ (f ρ).AllW (PQL K c H Q) (PX K c H fun cls dx H' => E cls dx σ H') d
def liftB (K : PySem.W.Frag) (Γ : Cl) (E : WX) (f : En → T Bool) : TT := fun σ H Q => ∃ c d oa ρ, EnvOk K Γ c d oa ρ σ H ∧ (f ρ).AllW (PB c H Q) (PX K c H fun cls dx H' => E cls dx σ H') d
def TrE (Γ : Cl) (X : Cx) (E : WX) (e : Expr) (f : En → T W) : Prop := PE X e (liftE X.K Γ E f)
def TrA (Γ : Cl) (X : Cx) (E : WX) (es : List Expr) (f : En → T (List W)) : Prop := PA X es (liftA X.K Γ E f)
def TrB (Γ : Cl) (X : Cx) (E : WX) (e : Expr) (f : En → T Bool) : Prop := PT X e (liftB X.K Γ E f)
theorem pe_imp {X : Cx} {e : Expr} {t t' : TE} (h : PE X e t) (i : ∀ σ H Q, t' σ H Q → t σ H Q) : PE X e t' := ⟨fun pins s σ H Q I q => h.run pins s σ H Q I (i σ H Q q)⟩
theorem pa_imp {X : Cx} {e : List Expr} {t t' : TA} (h : PA X e t) (i : ∀ σ H Q, t' σ H Q → t σ H Q) : PA X e t' := ⟨fun pos pins s σ H Q I q => h.run pos pins s σ H Q I (i σ H Q q)⟩
theorem pt_imp {X : Cx} {e : Expr} {t t' : TT} (h : PT X e t) (i : ∀ σ H Q, t' σ H Q → t σ H Q) : PT X e t' := ⟨fun pins s σ H Q I q => h.run pins s σ H Q I (i σ H Q q)⟩
theorem pw_imp {X : Cx} {e : Expr} {t t' : TT} (h : PW X e t) (i : ∀ σ H Q, t' σ H Q → t σ H Q) : PW X e t' := ⟨fun wh pins s σ H Q I q => h.run wh pins s σ H Q I (i σ H Q q)⟩
theorem ps_imp {X : Cx} {e : Stmt} {t t' : TS} (h : PS X e t) (i : ∀ D σ H, t' D σ H → t D σ H) : PS X e t' := ⟨fun pins s σ H D I q => h.run pins s σ H D I (i D σ H q)⟩
theorem pss_imp {X : Cx} {e : List Stmt} {t t' : TS} (h : PSs X e t) (i : ∀ D σ H, t' D σ H → t D σ H) : PSs X e t' := ⟨fun pins s σ H D I q => h.run pins s σ H D I (i D σ H q)⟩
section
variable {K : PySem.W.Frag} {E : WX} {f : En → T W} {g : W → T W} {c : Cc} {d : Dw} {oa : Nat → Addr} {ρ : En} {σ : St} {H : Hp} {Q : VK}
/-- a run, then something of its value -/
theorem lift_then {β : Type} {P : Cc → Hp → Dw → β → Prop} {G : W → T β} {R : V → Hp → Prop} (e : EnvOk K Γ c d oa ρ σ H) (h : ((f ρ).bind G).AllW (P c H) (PX K c H fun cls dx H' => E cls dx σ H') d)
    (lt : ∀ {c1 H1 d' b}, SG c c1 H H1 → P c H d' b → P c1 H1 d' b)
    (go : ∀ {c1 : Cc} w v H1 d1, SG c c1 H H1 → Rep K c1 H1 w v → EnvOk K Γ c1 d1 oa ρ σ H1 → (G w).AllW (P c1 H1) (PX K c1 H1 fun cls dx H' => E cls dx σ H') d1 → R v H1) : liftE K Γ E f σ H R := by
  refine ⟨c, d, oa, ρ, e, T.AllW.imp (fun d1 w x => ?_) (fun _ _ _ x => x) (T.allW_bind.mp h)⟩
  intro c1 v H1 st so r
  exact go w v H1 d1 st r (e.step st so) (T.AllW.imp (fun _ _ y => lt st y) (fun _ _ _ y => y.later st) x)
theorem liftB_then {β : Type} {fb : En → T Bool} {P : Cc → Hp → Dw → β → Prop} {G : Bool → T β} {R : Bool → Hp → Prop} (e : EnvOk K Γ c d oa ρ σ H) (h : ((fb ρ).bind G).AllW (P c H) (PX K c H fun cls dx H' => E cls dx σ H') d)
    (lt : ∀ {c1 H1 d' b}, SG c c1 H H1 → P c H d' b → P c1 H1 d' b)
    (go : ∀ {c1 : Cc} b H1 d1, SG c c1 H H1 → EnvOk K Γ c1 d1 oa ρ σ H1 → (G b).AllW (P c1 H1) (PX K c1 H1 fun cls dx H' => E cls dx σ H') d1 → R b H1) : liftB K Γ E fb σ H R := by
  refine ⟨c, d, oa, ρ, e, T.AllW.imp (fun d1 w x => ?_) (fun _ _ _ x => x) (T.allW_bind.mp h)⟩
  intro c1 H1 st so
  exact go w H1 d1 st (e.step st so) (T.AllW.imp (fun _ _ y => lt st y) (fun _ _ _ y => y.later st) x)
theorem liftA_then {β : Type} {fs : En → T (List W)} {P : Cc → Hp → Dw → β → Prop} {G : List W → T β} {R : List V → Hp → Prop} (e : EnvOk K Γ c d oa ρ σ H) (h : ((fs ρ).bind G).AllW (P c H) (PX K c H fun cls dx H' => E cls dx σ H') d)
    (lt : ∀ {c1 H1 d' b}, SG c c1 H H1 → P c H d' b → P c1 H1 d' b)
    (go : ∀ {c1 : Cc} w v H1 d1, SG c c1 H H1 → RepL K c1 H1 w v → EnvOk K Γ c1 d1 oa ρ σ H1 → (G w).AllW (P c1 H1) (PX K c1 H1 fun cls dx H' => E cls dx σ H') d1 → R v H1) : liftA K Γ E fs σ H R := by
  refine ⟨c, d, oa, ρ, e, T.AllW.imp (fun d1 w x => ?_) (fun _ _ _ x => x) (T.allW_bind.mp h)⟩
  intro c1 v H1 st so r
  exact go w v H1 d1 st r (e.step st so) (T.AllW.imp (fun _ _ y => lt st y) (fun _ _ _ y => y.later st) x)
end
end PF
namespace PF
open PySem PySem.Spec PyProof.Rows L2
section
variable {K : PySem.W.Frag} {c : Cc} {d : Dw} {H : Hp} {Q : VK} {E' : Dw → Nat → List W → Prop}
theorem PQ.now {w : W} {v : V} (wd : Wd c d H) (h : PQ K c H Q d w) (r : Rep K c H w v) : Q v H := h v H (.refl _ H) wd.st r
theorem PQ.tup {ws : List W} {vs : List V} {p : Addr} (wd : Wd c d H) (h : PQ K c H Q d (.tup ws)) (r : RepL K c H ws vs) (n : H p = none) : Q (.ref p) (upd H p (.tup vs)) :=
  h _ _ (.new n) (wd.st.new n) (.tup (.of upd_same) (r.step (.new n) wd.st wd.ok))
theorem PQ.lst {ws : List W} {vs : List V} {p : Addr} (wd : Wd c d H) (h : PQ K c H Q d (.lst ws)) (r : RepL K c H ws vs) (n : H p = none) : Q (.ref p) (upd H p (.lst vs)) :=
  h _ _ (.new n) (wd.st.new n) (.lst (wd.fresh n) upd_same (r.step (.new n) wd.st wd.ok))
end
def gV (i : Nat) (ρ : En) : T W := match ρ[i]? with
  | some (.val w) => .ok w
  | _ => .bad
section
variable {X : Cx} {E : WX}
theorem gV_ok {K : PySem.W.Frag} {c : Cc} {d : Dw} {oa : Nat → Addr} {ρ : En} {σ : St} {H : Hp} {i : Nat} {P : Dw → W → Prop} {E' : Dw → Nat → List W → Prop} (e : EnvOk K Γ c d oa ρ σ H) (h : (gV i ρ).AllW P E' d) :
    ∃ w v, σ[i]? = some (some v) ∧ Rep K c H w v ∧ P d w := by
  unfold gV at h
  split at h
  · rename_i w hw
    obtain ⟨v, h1, h2⟩ := e.val i w hw
    exact ⟨w, v, h1, h2, h⟩
  · exact h.elim
theorem tr_var (i : Nat) {x : Str} {pos : Pos} (hN : X.N[i]? = some x := by rfl) (hv : Vis X.env.scope x := by first | exact Or.inl rfl | exact Or.inr (Or.inl rfl) | exact Or.inr (Or.inr rfl)) (hd : (x == ("__debug__" : Str)) = false := by decide)
    (hcd : (x == ("__classdict__" : Str)) = false := by decide) : TrE Γ X E (.Name x pos) (gV i) := pe_imp (pe_var hN hv hd hcd) fun σ H Q h => by
  obtain ⟨c, d, oa, ρ, e, h⟩ := h
  obtain ⟨w, v, h1, h2, h3⟩ := gV_ok e h
  exact ⟨v, h1, PQ.now e.wd h3 h2⟩
theorem tr_const {e : Expr} {v : V} {w : W} (h : PE X e (tC v)) (r : ∀ c H, Rep X.K c H w v) : TrE Γ X E e (fun _ => .ok w) := pe_imp h fun σ H Q h => by
  obtain ⟨c, d, oa, ρ, e, h⟩ := h
  exact PQ.now e.wd h (r c H)
theorem tr_int {i j pos} : TrE Γ X E (.Constant (.int i) j pos) (fun _ => .ok (.int i)) := tr_const pe_int fun _ _ => .int i
theorem tr_bl {b j pos} : TrE Γ X E (.Constant (.bool b) j pos) (fun _ => .ok (.bl b)) := tr_const pe_bl fun _ _ => .bl b
theorem tr_non {j pos} : TrE Γ X E (.Constant .none j pos) (fun _ => .ok .non) := tr_const pe_non fun _ _ => .non
theorem tr_glob {x : Str} {v : V} {u : Value} {w : W} {pos : Pos} (hg : Gl X x) (hm : X.mg x = some u) (r : RelV v u) (rw_ : ∀ c H, Rep X.K c H w v) (hd : (x == ("__debug__" : Str)) = false := by decide) : TrE Γ X E (.Name x pos) (fun _ => .ok w) :=
  tr_const (pe_glob hg hm r hd) rw_
end
def f2 (g : W → W → T W) (fa fb : En → T W) : En → T W := fun ρ => (fa ρ).bind fun x => (fb ρ).bind fun y => g x y
def f1 (g : W → T W) (fa : En → T W) : En → T W := fun ρ => (fa ρ).bind g
def Sem2 (K : PySem.W.Frag) (r : R2) (g : W → W → T W) : Prop := ∀ (c : Cc) (d : Dw) (H : Hp) (x y : W) (v u : V) (Q : VK) (E' : Dw → Nat → List W → Prop), Wd c d H → Rep K c H x v → Rep K c H y u → (g x y).AllW (PQ K c H Q) E' d → r v u H Q
def Sem1 (K : PySem.W.Frag) (r : V → Hp → VK → Prop) (g : W → T W) : Prop := ∀ (c : Cc) (d : Dw) (H : Hp) (x : W) (v : V) (Q : VK) (E' : Dw → Nat → List W → Prop), Wd c d H → Rep K c H x v → (g x).AllW (PQ K c H Q) E' d → r v H Q
def SemL (K : PySem.W.Frag) (r : List V → Hp → VK → Prop) (g : List W → T W) : Prop := ∀ (c : Cc) (d : Dw) (H : Hp) (x : List W) (v : List V) (Q : VK) (E' : Dw → Nat → List W → Prop), Wd c d H → RepL K c H x v → (g x).AllW (PQ K c H Q) E' d → r v H Q
section
variable {X : Cx} {E : WX} {a b cc : Expr} {fa fb fc : En → T W} {g : W → W → T W} {g1 : W → T W} {r r' : R2} {pos : Pos}
theorem two (hs : Sem2 X.K r g) : ∀ σ H Q, liftE X.K Γ E (f2 g fa fb) σ H Q → tOp r (liftE X.K Γ E fa) (liftE X.K Γ E fb) σ H Q := fun σ H Q h => by
  obtain ⟨c, d, oa, ρ, e, h⟩ := h
  refine lift_then (P := fun c H => PQ X.K c H Q) e h (fun st p => p.later st) fun w v H1 d1 _ r1 e1 h1 => ?_
  refine lift_then (P := fun c H => PQ X.K c H Q) e1 h1 (fun st p => p.later st) fun w2 v2 H2 d2 st2 r2 e2 h2 => ?_
  exact hs _ d2 H2 w w2 v v2 Q _ e2.wd (r1.step st2 e1.st e1.ok) r2 h2
theorem one {r1 : V → Hp → VK → Prop} (hs : Sem1 X.K r1 g1) : ∀ σ H Q, liftE X.K Γ E (f1 g1 fa) σ H Q → tUn r1 (liftE X.K Γ E fa) σ H Q := fun σ H Q h => by
  obtain ⟨c, d, oa, ρ, e, h⟩ := h
  refine lift_then (P := fun c H => PQ X.K c H Q) e h (fun st p => p.later st) fun w v H1 d1 _ r1 e1 h1 => ?_
  exact hs _ d1 H1 w v Q _ e1.wd r1 h1
theorem tr_op {op : Operator} (ho : OpR X (binaryOp op) r) (hs : Sem2 X.K r g) (ha : TrE Γ X E a fa) (hb : TrE Γ X E b fb) : TrE Γ X E (.BinOp a op b pos) (f2 g fa fb) := pe_imp (pe_op ho ha hb) (two hs)
theorem tr_cmp {op : CmpOp} (ho : OpR X (compareOp op) r) (hs : Sem2 X.K r g) (ha : TrE Γ X E a fa) (hb : TrE Γ X E b fb) (hm : behindInMarks op b = false) : TrE Γ X E (.Compare a [op] [b] pos) (f2 g fa fb) := pe_imp (pe_cmpR ho ha hb hm) (two hs)
theorem tr_ix (ho : IxR X r) (hs : Sem2 X.K r g) (ha : TrE Γ X E a fa) (hb : TrE Γ X E b fb) (hp : PlainIx b := by exact fun _ _ => rfl) : TrE Γ X E (.Subscript a b pos) (f2 g fa fb) := pe_imp (pe_ix ho ha hb hp) (two hs)
/-- a op b op' c -/
def fCh (g g' : W → W → T W) (fa fb fc : En → T W) : En → T W := fun ρ => (fa ρ).bind fun x => (fb ρ).bind fun y => (g x y).bind fun z => match z with
  | .bl true => (fc ρ).bind fun w => g' y w
  | .bl false => .ok (.bl false)
  | _ => .bad
theorem tr_chain {op op' : CmpOp} {g' : W → W → T W} (ho : OpR X (compareOp op) r) (ho' : OpR X (compareOp op') r') (hs : Sem2 X.K r g) (hs' : Sem2 X.K r' g') (ha : TrE Γ X E a fa) (hb : TrE Γ X E b fb) (hc : TrE Γ X E cc fc)
    (hm : lastMarks [op, op'] [b, cc] = false := by with_unfolding_all rfl) : TrE Γ X E (.Compare a [op, op'] [b, cc] pos) (fCh g g' fa fb fc) := pe_imp (pe_chain ho ho' ha hb hc hm) fun σ H Q h => by
  obtain ⟨c, d, oa, ρ, e, h⟩ := h
  refine lift_then (P := fun c H => PQ X.K c H Q) e h (fun st p => p.later st) fun w v H1 d1 _ r1 e1 h1 => ?_
  refine lift_then (P := fun c H => PQ X.K c H Q) e1 h1 (fun st p => p.later st) fun w2 v2 H2 d2 st2 r2 e2 h2 => ?_
  refine hs _ d2 H2 w w2 v v2 _ _ e2.wd (r1.step st2 e1.st e1.ok) r2 (T.AllW.imp (fun d3 z hz => ?_) (fun _ _ _ y => y) (T.allW_bind.mp h2))
  intro _ vz H3 st3 so3 rz
  have e3 := e2.step st3 so3
  cases z with
  | bl k =>
    cases rz
    refine ⟨k, rfl, ?_⟩
    cases k with
    | false => exact iteF (PQ.now e3.wd (PQ.later st3 hz) (.bl false))
    | true =>
      refine iteT (lift_then (P := fun c H => PQ X.K c H Q) e3 (T.AllW.imp (fun _ _ y => y.later st3) (fun _ _ _ y => y.later st3) hz) (fun st p => p.later st) fun w4 v4 H4 d4 st4 r4 e4 h4 => ?_)
      exact hs' _ d4 H4 w2 w4 v2 v4 Q _ e4.wd ((r2.step st3 e2.st e2.ok).step st4 e3.st e3.ok) r4 h4
  | _ => exact hz.elim
end
theorem T.AllW.ite {α : Type} {P : Dw → α → Prop} {E : Dw → Nat → List W → Prop} {d : Dw} {b : Bool} {t : T α} (h : (if b then t else .bad).AllW P E d) : b = true ∧ t.AllW P E d := by
  cases b with
  | true => exact ⟨rfl, h⟩
  | false => exact h.elim
@[irreducible] def strOk (x : Str) : Bool := decide (x.length ≤ 16777216)
theorem strOk_of {x : Str} (h : strOk x = true) : x.length ≤ sizeLine := by
  rw [sizeLine_eq]
  unfold strOk at h
  exact of_decide_eq_true h
def truW : W → T Bool
  | .non => .ok false
  | .bl b => .ok b
  | .int i => .ok (i != 0)
  | .str y => if strOk y then .ok ((y.length : Int) != 0) else .bad
  | .tup ws => .ok !ws.isEmpty
  | .lst ws => .ok !ws.isEmpty
  | .dct ks _ => .ok !ks.isEmpty
  | _ => .bad
/-- a bool alone -/
def blW : W → T Bool
  | .bl b => .ok b
  | _ => .bad
def fTru (fa : En → T W) : En → T Bool := fun ρ => (fa ρ).bind truW
def fBl (fa : En → T W) : En → T Bool := fun ρ => (fa ρ).bind blW
theorem RepL.empty {K : PySem.W.Frag} {c : Cc} {H : Hp} {ws : List W} {vs : List V} (r : RepL K c H ws vs) : (!ws.isEmpty) = !vs.isEmpty := by
  cases r <;> rfl
section
variable {X : Cx} {E : WX} {a b cc : Expr} {fa fb fc : En → T W} {ta tb : En → T Bool} {g g' : W → W → T W} {r r' : R2} {pos : Pos} {rest : List Expr}
theorem trb_tru (ha : TrE Γ X E a fa) (he : ∀ whole, isTrue a X.env whole = (do let v ← whole; standAt a.pos; holding [v] (truthy v)) := by intro _; rfl) : TrB Γ X E a (fTru fa) := pt_imp (pt_truth ha he) fun σ H Q h => by
  obtain ⟨c, d, oa, ρ, e, h⟩ := h
  refine lift_then (P := fun c H => PB c H Q) e h (fun st p => p.later st) @fun c1 w v H1 d1 _ r1 e1 h1 => ?_
  have now : ∀ {b : Bool}, PB c1 H1 Q d1 b → Q b H1 := fun h => h H1 (.refl c1 H1) e1.st
  cases r1 with
  | non => exact ⟨false, rfl, now h1⟩
  | bl b => exact ⟨b, rfl, now h1⟩
  | int i => exact ⟨i != 0, rfl, now h1⟩
  | str x =>
    obtain ⟨hz, h1⟩ := T.AllW.ite h1
    exact ⟨_, ⟨strOk_of hz, rfl⟩, now h1⟩
  | tup h rl => exact ⟨_, .inr (.inl ⟨_, h, rl.empty⟩), now h1⟩
  | lst n h rl => exact ⟨_, .inl ⟨_, SqL.of h, rl.empty⟩, now h1⟩
  | dct n h rl => exact ⟨_, .inr (.inr ⟨_, h, by simp⟩), now h1⟩
  | scr h => exact h1.elim
  | stt => exact h1.elim
  | lam _ => exact h1.elim
  | clo _ _ _ _ _ _ => exact h1.elim
  | exo _ _ _ _ => exact h1.elim
  | exn _ => exact h1.elim
  | key _ => exact h1.elim
  | obj _ => exact h1.elim
  | dcu _ _ _ => exact h1.elim
theorem bl_then {Q : Bool → Hp → Prop} : ∀ σ H, liftB X.K Γ E (fBl fa) σ H Q → liftE X.K Γ E fa σ H fun x H' => ∃ k, x = .bl k ∧ Q k H' := fun σ H h => by
  obtain ⟨c, d, oa, ρ, e, h⟩ := h
  refine lift_then (P := fun c H => PB c H Q) e h (fun st p => p.later st) fun w v H1 d1 _ r1 e1 h1 => ?_
  cases r1 with
  | bl b => exact ⟨b, rfl, h1 H1 (.refl _ H1) e1.st⟩
  | _ => exact h1.elim
/-- a comparison's test, by the test's own form of the reading -/
theorem trb_of {t : TE} (hp : PT X a (tTest t)) (i : ∀ σ H Q, liftE X.K Γ E fa σ H Q → t σ H Q) : TrB Γ X E a (fBl fa) := pt_imp hp fun σ H Q h => i σ H _ (bl_then σ H h)
theorem trb_cmp {op : CmpOp} (ho : OpR X (compareOp op) r) (hs : Sem2 X.K r g) (ha : TrE Γ X E a fa) (hb : TrE Γ X E b fb) (hm : behindInMarks op b = false) : TrB Γ X E (.Compare a [op] [b] pos) (fBl (f2 g fa fb)) := trb_of (pt_cmpR ho ha hb hm) (two hs)
def fNot (ta : En → T Bool) : En → T Bool := fun ρ => (ta ρ).bind fun b => .ok !b
def fAnd (ta tb : En → T Bool) : En → T Bool := fun ρ => (ta ρ).bind fun b => if b then tb ρ else .ok false
def fOr (ta tb : En → T Bool) : En → T Bool := fun ρ => (ta ρ).bind fun b => if b then .ok true else tb ρ
theorem PB.now {c : Cc} {d : Dw} {H : Hp} {Q : Bool → Hp → Prop} {b : Bool} (wd : Wd c d H) (h : PB c H Q d b) : Q b H := h H (.refl _ H) wd.st
theorem trb_not (ha : TrB Γ X E a ta) : TrB Γ X E (.UnaryOp .Not a pos) (fNot ta) := pt_imp (pt_not ha) fun σ H Q h => by
  obtain ⟨c, d, oa, ρ, e, h⟩ := h
  exact liftB_then (P := fun c H => PB c H Q) e h (fun st p => p.later st) fun b H1 d1 _ e1 h1 => PB.now e1.wd h1
def TrW (Γ : Cl) (X : Cx) (E : WX) (e : Expr) (f : En → T Bool) : Prop := PW X e (liftB X.K Γ E f)
theorem TrW.toB (h : TrW Γ X E a ta) : TrB Γ X E a ta := PW.pt h
theorem trw_and1 (ha : TrB Γ X E a ta) : TrW Γ X E (.BoolOp .And [a] pos) ta := pw_and1 ha
theorem trw_or1 (ha : TrB Γ X E a ta) : TrW Γ X E (.BoolOp .Or [a] pos) ta := pw_or1 ha
theorem trw_and (ha : TrB Γ X E a ta) (hb : TrW Γ X E (.BoolOp .And (b :: rest) pos) tb) : TrW Γ X E (.BoolOp .And (a :: b :: rest) pos) (fAnd ta tb) := pw_imp (pw_and ha hb) fun σ H Q h => by
  obtain ⟨c, d, oa, ρ, e, h⟩ := h
  refine liftB_then (P := fun c H => PB c H Q) e h (fun st p => p.later st) fun b H1 d1 _ e1 h1 => ?_
  cases b with
  | true => exact iteT ⟨_, d1, oa, ρ, e1, h1⟩
  | false => exact iteF (PB.now e1.wd h1)
theorem trw_or (ha : TrB Γ X E a ta) (hb : TrW Γ X E (.BoolOp .Or (b :: rest) pos) tb) : TrW Γ X E (.BoolOp .Or (a :: b :: rest) pos) (fOr ta tb) := pw_imp (pw_or ha hb) fun σ H Q h => by
  obtain ⟨c, d, oa, ρ, e, h⟩ := h
  refine liftB_then (P := fun c H => PB c H Q) e h (fun st p => p.later st) fun b H1 d1 _ e1 h1 => ?_
  cases b with
  | false => exact iteF ⟨_, d1, oa, ρ, e1, h1⟩
  | true => exact iteT (PB.now e1.wd h1)
def fAndV (fa fb : En → T W) : En → T W := fun ρ => (fa ρ).bind fun x => match x with
  | .bl true => fb ρ
  | .bl false => .ok (.bl false)
  | _ => .bad
def fOrV (fa fb : En → T W) : En → T W := fun ρ => (fa ρ).bind fun x => match x with
  | .bl false => fb ρ
  | .bl true => .ok (.bl true)
  | _ => .bad
def fNotV (fa : En → T W) : En → T W := fun ρ => (fa ρ).bind fun x => match x with
  | .bl b => .ok (.bl !b)
  | _ => .bad
def fIf (t : En → T Bool) (fa fb : En → T W) : En → T W := fun ρ => (t ρ).bind fun b => if b then fa ρ else fb ρ
theorem tr_one {op} (h : TrE Γ X E a fa) : TrE Γ X E (.BoolOp op [a] pos) fa := pe_one h
theorem tr_and (ha : TrE Γ X E a fa) (hb : TrE Γ X E (.BoolOp .And (b :: rest) pos) fb) : TrE Γ X E (.BoolOp .And (a :: b :: rest) pos) (fAndV fa fb) := pe_imp (pe_and ha hb) fun σ H Q h => by
  obtain ⟨c, d, oa, ρ, e, h⟩ := h
  refine lift_then (P := fun c H => PQ X.K c H Q) e h (fun st p => p.later st) fun w v H1 d1 _ r1 e1 h1 => ?_
  cases r1 with
  | bl b =>
    refine ⟨b, rfl, ?_⟩
    cases b with
    | true => exact iteT ⟨_, d1, oa, ρ, e1, h1⟩
    | false => exact iteF (PQ.now e1.wd h1 (.bl false))
  | _ => exact h1.elim
theorem tr_not (ha : TrE Γ X E a fa) : TrE Γ X E (.UnaryOp .Not a pos) (fNotV fa) := pe_imp (pe_not ha) fun σ H Q h => by
  obtain ⟨c, d, oa, ρ, e, h⟩ := h
  refine lift_then (P := fun c H => PQ X.K c H Q) e h (fun st p => p.later st) fun w v H1 d1 _ r1 e1 h1 => ?_
  cases r1 with
  | bl b => exact ⟨b, rfl, PQ.now e1.wd h1 (.bl _)⟩
  | _ => exact h1.elim
theorem tr_if (ht : TrB Γ X E cc ta) (ha : TrE Γ X E a fa) (hb : TrE Γ X E b fb) : TrE Γ X E (.IfExp cc a b pos) (fIf ta fa fb) := pe_imp (pe_ifExp ht ha hb) fun σ H Q h => by
  obtain ⟨c, d, oa, ρ, e, h⟩ := h
  refine liftB_then (P := fun c H => PQ X.K c H Q) e h (fun st p => p.later st) fun b H1 d1 _ e1 h1 => ?_
  cases b with
  | true => exact iteT ⟨_, d1, oa, ρ, e1, h1⟩
  | false => exact iteF ⟨_, d1, oa, ρ, e1, h1⟩
end
def fNil : En → T (List W) := fun _ => .ok []
def fCons (fa : En → T W) (fs : En → T (List W)) : En → T (List W) := fun ρ => (fa ρ).bind fun x => (fs ρ).bind fun xs => .ok (x :: xs)
@[irreducible] def sizeOk (ws : List W) : Bool := decide (ws.length ≤ 16777216)
theorem sizeOk_of {ws : List W} (h : sizeOk ws = true) : ws.length ≤ sizeLine := by
  rw [sizeLine_eq]
  unfold sizeOk at h
  exact of_decide_eq_true h
def mkTup (ws : List W) : T W := if sizeOk ws then .ok (.tup ws) else .bad
def mkLst (ws : List W) : T W := if sizeOk ws then .ok (.lst ws) else .bad
def fL (fs : En → T (List W)) (g : List W → T W) : En → T W := fun ρ => (fs ρ).bind g
section
variable {X : Cx} {E : WX} {e : Expr} {es : List Expr} {fa : En → T W} {fs : En → T (List W)} {pos : Pos}
theorem tra_nil : TrA Γ X E [] fNil := pa_imp pa_nil fun σ H Q h => by
  obtain ⟨c, d, oa, ρ, e, h⟩ := h
  exact h [] H (.refl _ H) e.st .nil
theorem tra_cons (ha : TrE Γ X E e fa) (hr : TrA Γ X E es fs) (hs : starEach (e :: es) X.env = (false, eval e X.env) :: starEach es X.env := by rfl) : TrA Γ X E (e :: es) (fCons fa fs) := pa_imp (pa_cons ha hr hs) fun σ H Q h => by
  obtain ⟨c, d, oa, ρ, e, h⟩ := h
  refine lift_then (P := fun c H => PQL X.K c H Q) e h (fun st p => p.later st) fun w v H1 d1 _ r1 e1 h1 => ?_
  refine liftA_then (P := fun c H => PQL X.K c H Q) e1 h1 (fun st p => p.later st) fun w2 v2 H2 d2 st2 r2 e2 h2 => ?_
  exact h2 _ H2 (.refl _ H2) e2.st (.cons (r1.step st2 e1.st e1.ok) r2)
theorem tr_tup {x1} (h : TrA Γ X E es fs) : TrE Γ X E (.Tuple es x1 pos) (fL fs mkTup) := pe_imp (pe_tup h) fun σ H Q h => by
  obtain ⟨c, d, oa, ρ, e, h⟩ := h
  refine liftA_then (P := fun c H => PQ X.K c H Q) e h (fun st p => p.later st) fun w v H1 d1 _ r1 e1 h1 => ?_
  obtain ⟨h2, h1⟩ := T.AllW.ite h1
  exact ⟨by rw [← r1.length]; exact sizeOk_of h2, fun p n => PQ.tup e1.wd h1 r1 n⟩
theorem tr_lst (h : TrA Γ X E es fs) : TrE Γ X E (.List es pos) (fL fs mkLst) := pe_imp (pe_lst h) fun σ H Q h => by
  obtain ⟨c, d, oa, ρ, e, h⟩ := h
  refine liftA_then (P := fun c H => PQ X.K c H Q) e h (fun st p => p.later st) fun w v H1 d1 _ r1 e1 h1 => ?_
  obtain ⟨h2, h1⟩ := T.AllW.ite h1
  exact ⟨by rw [← r1.length]; exact sizeOk_of h2, fun p n => PQ.lst e1.wd h1 r1 n⟩
theorem callL {r : List V → Hp → VK → Prop} {g : List W → T W} (hs : SemL X.K r g) : ∀ σ H Q, liftE X.K Γ E (fL fs g) σ H Q → tCB r (liftA X.K Γ E fs) σ H Q := fun σ H Q h => by
  obtain ⟨c, d, oa, ρ, e, h⟩ := h
  refine liftA_then (P := fun c H => PQ X.K c H Q) e h (fun st p => p.later st) fun w v H1 d1 _ r1 e1 h1 => ?_
  exact hs _ d1 H1 w v Q _ e1.wd r1 h1
/-- a built-in function, a built-in type, called -/
theorem tr_callB {r : List V → Hp → VK → Prop} {g : List W → T W} {x : Str} {p : Pos} {id : String} (hc : CallR X (.builtin id) r) (hs : SemL X.K r g) (hg : Gl X x) (hm : X.mg x = none) (hv : bootBuiltins x = some (.builtin id)) (ha : TrA Γ X E (e :: es) fs) (hn : x ≠ "__name__" := by decide) (hdb : (x == ("__debug__" : Str)) = false := by decide)
    (he : starEach (e :: es) X.env = (false, eval e X.env) :: starEach es X.env := by rfl) (hpl : (backTo pos (starEach es X.env)).any (·.1) = false := by rfl) : TrE Γ X E (.Call (.Name x p) (e :: es) [] pos) (fL fs g) :=
  pe_imp (pe_callB hc hg hm hv ha hn hdb he hpl) (callL hs)
theorem tr_callTy {r : List V → Hp → VK → Prop} {g : List W → T W} {x : Str} {p : Pos} {id : String} (hc : CallR X (.type id) r) (hs : SemL X.K r g) (hg : Gl X x) (hm : X.mg x = none) (hv : bootBuiltins x = some (.type id)) (ha : TrA Γ X E (e :: es) fs) (hn : x ≠ "__name__" := by decide) (hdb : (x == ("__debug__" : Str)) = false := by decide)
    (he : starEach (e :: es) X.env = (false, eval e X.env) :: starEach es X.env := by rfl) (hpl : (backTo pos (starEach es X.env)).any (·.1) = false := by rfl) : TrE Γ X E (.Call (.Name x p) (e :: es) [] pos) (fL fs g) :=
  pe_imp (pe_callTy hc hg hm hv ha hn hdb he hpl) (callL hs)
end
def SpF (K : PySem.W.Frag) (F : List W → T W) : Sp := fun vs H Q E => ∃ c d ws, (c.T = tabL K ∧ c.K = K) ∧ Wd c d H ∧ RepL K c H ws vs ∧ (F ws).AllW (PQ K c H Q) (PX K c H E) d
section
variable {X : Cx} {E : WX} {e : Expr} {es : List Expr} {fs : En → T (List W)} {pos p : Pos} {F : List W → T W} {k : Nat} {f : Addr} {fd : FuncData} {ps : List Str} {x : Str}
end
end PF
namespace PF
open PySem PySem.Spec PyProof.Rows L2
structure Fwd (K : PySem.W.Frag) (c : Cc) (H : Hp) (c' : Cc) (H' : Hp) : Prop where
  S : c'.S = c.S
  ca : c'.ca = c.ca
  la : c'.la = c.la
  T : c'.T = c.T
  C : c'.C = c.C
  KK : c'.K = c.K
  O : c.O <+: c'.O
  sub : ∀ b ∈ c.A, b ∉ c.M → b ∈ c'.A
  fr : ∀ b ∈ c'.M, b ∈ c.M ∨ (b ∉ c.A ∧ b ≠ c.S ∧ b ≠ c.la ∧ H b = none)
  step : ∀ b o, H b = some o → b ≠ c.S → b ≠ c.la → b ∉ c.M → NoT o → H' b = some o
  tbl : ∀ b ps, H b = some (.tbl ps) → b ∉ c.M → ∃ more, H' b = some (.tbl (ps ++ more))
  rep : ∀ w v, Rep K c H w v → Rep K c' H' w v
  sq : ∀ a vs, SqT K H a vs → SqT K H' a vs
  ins : ∀ b C dx fs, H b = some (.ins C dx fs) → b ∉ c.M → ∃ gs, H' b = some (.ins C dx gs)
section
variable {K : PySem.W.Frag} {c c1 c2 : Cc} {d : Dw} {H H1 H2 : Hp}
theorem Fwd.refl : Fwd K c H c H := ⟨rfl, rfl, rfl, rfl, rfl, rfl, List.prefix_rfl, fun _ h _ => h, fun _ h => .inl h, fun _ _ h _ _ _ _ => h, fun _ ps h _ => ⟨#[], by rw [h]; simp⟩, fun _ _ h => h, fun _ _ h => h, fun _ _ _ fs h _ => ⟨fs, h⟩⟩
theorem Step.to (st : Step c1 H1 H2) (hS : c1.S = c.S) (hl : c1.la = c.la) : Step c H1 H2 := ⟨fun b o e h1 h2 h3 => st.keep b o e (by rw [hS]; exact h1) (by rw [hl]; exact h2) h3, st.tbl, st.ins⟩
theorem Fwd.there {b : Addr} {o : HO} (f : Fwd K c H c1 H1) (h : H b = some o) (h1 : b ≠ c.S) (h2 : b ≠ c.la) (n : b ∉ c.M) : ∃ o', H1 b = some o' := by
  cases o with
  | tbl ps =>
    obtain ⟨m, e⟩ := f.tbl b ps h n
    exact ⟨_, e⟩
  | ins C dx fs =>
    obtain ⟨gs, e⟩ := f.ins b C dx fs h n
    exact ⟨_, e⟩
  | _ => exact ⟨_, f.step b _ h h1 h2 n nofun⟩
theorem Fwd.trans (a : Fwd K c H c1 H1) (b : Fwd K c1 H1 c2 H2) : Fwd K c H c2 H2 where
  S := b.S.trans a.S
  ca := b.ca.trans a.ca
  la := b.la.trans a.la
  T := b.T.trans a.T
  C := b.C.trans a.C
  KK := b.KK.trans a.KK
  O := a.O.trans b.O
  sub := fun x h n => b.sub x (a.sub x h n) fun z => by
    rcases a.fr x z with z | z
    · exact n z
    · exact z.1 h
  fr := fun x h => by
    rcases b.fr x h with z | ⟨z1, z2, z3, z4⟩
    · exact a.fr x z
    · rw [a.S] at z2
      rw [a.la] at z3
      by_cases hm : x ∈ c.M
      · exact .inl hm
      · refine .inr ⟨fun hA => z1 (a.sub x hA hm), z2, z3, ?_⟩
        cases hx : H x with
        | none => rfl
        | some o =>
          obtain ⟨o', e⟩ := a.there hx z2 z3 hm
          rw [e] at z4
          cases z4
  step := fun x o h h1 h2 n nt => b.step x o (a.step x o h h1 h2 n nt) (by rw [a.S]; exact h1) (by rw [a.la]; exact h2) (fun z => by
    rcases a.fr x z with z | z
    · exact n z
    · rw [h] at z
      cases z.2.2.2) nt
  tbl := fun x ps h n => by
    obtain ⟨m, e1⟩ := a.tbl x ps h n
    obtain ⟨m', e2⟩ := b.tbl x _ e1 (fun z => by
      rcases a.fr x z with z | z
      · exact n z
      · rw [h] at z
        cases z.2.2.2)
    exact ⟨m ++ m', by rw [e2, Array.append_assoc]⟩
  rep := fun w v h => b.rep w v (a.rep w v h)
  sq := fun x vs h => b.sq x vs (a.sq x vs h)
  ins := fun x C dx fs h n => by
    obtain ⟨gs, e1⟩ := a.ins x C dx fs h n
    exact b.ins x C dx gs e1 (fun z => by
      rcases a.fr x z with z | z
      · exact n z
      · rw [h] at z
        cases z.2.2.2)
theorem Fwd.of (st : SG c c1 H H1) (wd : Wd c d H) : Fwd K c H c1 H1 where
  S := st.g.S
  ca := st.g.ca
  la := st.g.la
  T := st.g.T
  C := st.g.C
  KK := st.g.KK
  O := st.g.O
  sub := fun b h _ => by
    rw [st.g.A]
    exact h
  fr := fun b h => by
    rw [st.g.M] at h
    exact .inl h
  step := fun b o h h1 h2 _ nt => st.st.keep b o h h1 h2 nt
  tbl := fun b ps h _ => st.st.tbl b ps h
  rep := fun _ _ h => h.step st wd.st wd.ok
  sq := fun _ _ h => st.st.sqT wd.st h
  ins := fun b C dx fs h _ => st.st.ins b C dx fs h
mutual
theorem Rep.weak0 (hS : c1.S = c.S) (hC : c1.C = c.C) (hO : c1.O = c.O) (sub : ∀ b ∈ c.A, b ∈ c1.A) : ∀ {w : W} {v : V}, Rep K c1 H w v → Rep K c H w v
  | _, _, .non => .non
  | _, _, .bl b => .bl b
  | _, _, .int i => .int i
  | _, _, .str x => .str x
  | _, _, .tup h r => .tup h (RepL.weak0 hS hC hO sub r)
  | _, _, .lst n h r => .lst (fun z => n (sub _ z)) h (RepL.weak0 hS hC hO sub r)
  | _, _, .dct n h r => .dct (fun z => n (sub _ z)) h (RepL.weak0 hS hC hO sub r)
  | _, _, .scr h => .scr (h.imp (fun ⟨n, r⟩ => ⟨fun z => n (sub _ z), r⟩) id)
  | _, _, .stt => by rw [hS]; exact .stt
  | _, _, .lam h => .lam (by rw [← hC]; exact h)
  | _, _, .clo h g n k pl r => .clo h g n k pl (RepL.weak0 hS hC hO sub r)
  | _, _, .exo h1 h2 h3 r => .exo h1 h2 h3 (RepL.weak0 hS hC hO sub r)
  | _, _, .exn h1 => .exn h1
  | _, _, .key h => .key h
  | _, _, .obj h => .obj (by rw [← hO]; exact h)
  | _, _, .dcu n h r => .dcu (fun z => n (sub _ z)) h (RepL.weak0 hS hC hO sub r)
theorem RepL.weak0 (hS : c1.S = c.S) (hC : c1.C = c.C) (hO : c1.O = c.O) (sub : ∀ b ∈ c.A, b ∈ c1.A) : ∀ {ws : List W} {vs : List V}, RepL K c1 H ws vs → RepL K c H ws vs
  | _, _, .nil => .nil
  | _, _, .cons h r => .cons (Rep.weak0 hS hC hO sub h) (RepL.weak0 hS hC hO sub r)
end
theorem Rep.weak (hS : c1.S = c.S) (hC : c1.C = c.C) (sub : ∀ b ∈ c.A, b ∈ c1.A) {w : W} {v : V} (h : Rep K c1 H w v) (hO : c1.O = c.O := by rfl) : Rep K c H w v := Rep.weak0 hS hC hO sub h
theorem RepL.weak (hS : c1.S = c.S) (hC : c1.C = c.C) (sub : ∀ b ∈ c.A, b ∈ c1.A) {w : List W} {v : List V} (h : RepL K c1 H w v) (hO : c1.O = c.O := by rfl) : RepL K c H w v := RepL.weak0 hS hC hO sub h
theorem RepL.fwd (f : Fwd K c H c1 H1) : ∀ {ws : List W} {vs : List V}, RepL K c H ws vs → RepL K c1 H1 ws vs
  | _, _, .nil => .nil
  | _, _, .cons h r => .cons (f.rep _ _ h) (RepL.fwd f r)
theorem Fwd.sqT {a : Addr} {vs : List V} (f : Fwd K c H c1 H1) (wd : Wd c d H) (h : SqT K H a vs) : SqT K H1 a vs := f.sq a vs h
end
inductive Fl where
  | nx | rt (w : W) | bk | ct | rn (ws : List W)
def PSq (K : PySem.W.Frag) (Γ : Cl) (c : Cc) (H : Hp) (D : Ends) : Dw → Fl × En → Prop := fun d x => ∀ c' oa' σ' H', Fwd K c H c' H' → EnvOk K Γ c' d oa' x.2 σ' H' → match x.1 with
  | .nx => D.nx σ' H'
  | .bk => D.bk σ' H'
  | .ct => D.ct σ' H'
  | .rt w => ∀ v, Rep K c' H' w v → D.rt v H'
  | .rn ws => ∀ p vs, p ∈ c'.M → H' p = some (.lst vs) → RepL K c' H' ws vs → D.rt (.ref p) H'
theorem PSq.later {K : PySem.W.Frag} {c c1 : Cc} {H H1 : Hp} {D : Ends} {d : Dw} {x : Fl × En} (f : Fwd K c H c1 H1) (h : PSq K Γ c H D d x) : PSq K Γ c1 H1 D d x := fun c' oa' σ' H' g e => h c' oa' σ' H' (f.trans g) e
/-- what is wanted of an error that leaves a statement -/
def PXs (K : PySem.W.Frag) (c : Cc) (H : Hp) (E : XK) : Dw → Nat → List W → Prop := fun d n fs => ∀ c' cls dx H', Fwd K c H c' H' → StOk c' d H' → RepX K c' H' n fs cls dx → E cls dx H'
theorem PXs.fwd {K : PySem.W.Frag} {c c1 : Cc} {H H1 : Hp} {E : XK} {d : Dw} {n : Nat} {fs : List W} (f : Fwd K c H c1 H1) (h : PXs K c H E d n fs) : PXs K c1 H1 E d n fs := fun c' cls dx H' g so r => h c' cls dx H' (f.trans g) so r
theorem PXs.later {K : PySem.W.Frag} {c c1 : Cc} {d0 : Dw} {H H1 : Hp} {E : XK} {d : Dw} {n : Nat} {fs : List W} (wd : Wd c d0 H) (st : SG c c1 H H1) (h : PXs K c H E d n fs) : PXs K c1 H1 E d n fs := h.fwd (.of st wd)
theorem PXs.toX {K : PySem.W.Frag} {c : Cc} {d0 : Dw} {H : Hp} {E : XK} {d : Dw} {n : Nat} {fs : List W} (wd : Wd c d0 H) (h : PXs K c H E d n fs) : PX K c H E d n fs := fun _ cls dx H' st so r => h _ cls dx H' (.of st wd) so r
section
variable {K : PySem.W.Frag} {E : XK} {f : En → T W} {c : Cc} {d : Dw} {oa : Nat → Addr} {ρ : En} {σ : St} {H : Hp}
abbrev wOf (E : XK) : WX := fun cls dx _ H => E cls dx H
theorem lift_thenS {β : Type} {P : Cc → Hp → Dw → β → Prop} {G : W → T β} {R : V → Hp → Prop} (e : EnvOk K Γ c d oa ρ σ H) (h : ((f ρ).bind G).AllW (P c H) (PXs K c H E) d)
    (lt : ∀ {c1 H1 d' b}, SG c c1 H H1 → P c H d' b → P c1 H1 d' b)
    (go : ∀ {c1 : Cc} w v H1 d1, SG c c1 H H1 → Rep K c1 H1 w v → EnvOk K Γ c1 d1 oa ρ σ H1 → (G w).AllW (P c1 H1) (PXs K c1 H1 E) d1 → R v H1) : liftE K Γ (wOf E) f σ H R := by
  refine ⟨c, d, oa, ρ, e, T.AllW.imp (fun d1 w x => ?_) (fun _ _ _ x => x.toX e.wd) (T.allW_bind.mp h)⟩
  intro _ v H1 st so r
  exact go w v H1 d1 st r (e.step st so) (T.AllW.imp (fun _ _ y => lt st y) (fun _ _ _ y => y.later e.wd st) x)
theorem liftB_thenS {β : Type} {fb : En → T Bool} {P : Cc → Hp → Dw → β → Prop} {G : Bool → T β} {R : Bool → Hp → Prop} (e : EnvOk K Γ c d oa ρ σ H) (h : ((fb ρ).bind G).AllW (P c H) (PXs K c H E) d)
    (lt : ∀ {c1 H1 d' b}, SG c c1 H H1 → P c H d' b → P c1 H1 d' b)
    (go : ∀ {c1 : Cc} b H1 d1, SG c c1 H H1 → EnvOk K Γ c1 d1 oa ρ σ H1 → (G b).AllW (P c1 H1) (PXs K c1 H1 E) d1 → R b H1) : liftB K Γ (wOf E) fb σ H R := by
  refine ⟨c, d, oa, ρ, e, T.AllW.imp (fun d1 w x => ?_) (fun _ _ _ x => x.toX e.wd) (T.allW_bind.mp h)⟩
  intro _ H1 st so
  exact go w H1 d1 st (e.step st so) (T.AllW.imp (fun _ _ y => lt st y) (fun _ _ _ y => y.later e.wd st) x)
theorem liftA_thenS {β : Type} {fs : En → T (List W)} {P : Cc → Hp → Dw → β → Prop} {G : List W → T β} {R : List V → Hp → Prop} (e : EnvOk K Γ c d oa ρ σ H) (h : ((fs ρ).bind G).AllW (P c H) (PXs K c H E) d)
    (lt : ∀ {c1 H1 d' b}, SG c c1 H H1 → P c H d' b → P c1 H1 d' b)
    (go : ∀ {c1 : Cc} w v H1 d1, SG c c1 H H1 → RepL K c1 H1 w v → EnvOk K Γ c1 d1 oa ρ σ H1 → (G w).AllW (P c1 H1) (PXs K c1 H1 E) d1 → R v H1) : liftA K Γ (wOf E) fs σ H R := by
  refine ⟨c, d, oa, ρ, e, T.AllW.imp (fun d1 w x => ?_) (fun _ _ _ x => x.toX e.wd) (T.allW_bind.mp h)⟩
  intro _ v H1 st so r
  exact go w v H1 d1 st r (e.step st so) (T.AllW.imp (fun _ _ y => lt st y) (fun _ _ _ y => y.later e.wd st) x)
end
/-- E is wanted of what is raised, at any slots -/
def liftS (K : PySem.W.Frag) (Γ : Cl) (E : XK) (g : En → T (Fl × En)) : TS := fun D σ H => ∃ c d oa ρ, EnvOk K Γ c d oa ρ σ H ∧ (g ρ).AllW (PSq K Γ c H D) (PXs K c H E) d
def TrS (Γ : Cl) (X : Cx) (E : XK) (st : Stmt) (g : En → T (Fl × En)) : Prop := PS X st (liftS X.K Γ E g)
def TrSs (Γ : Cl) (X : Cx) (E : XK) (sts : List Stmt) (g : En → T (Fl × En)) : Prop := PSs X sts (liftS X.K Γ E g)
section
variable {K : PySem.W.Frag} {c : Cc} {d : Dw} {oa : Nat → Addr} {ρ : En} {σ : St} {H : Hp}
theorem getElem?_set_or {α : Type} {l : List α} {i j : Nat} {a x : α} (h : (l.set i a)[j]? = some x) : (j = i ∧ x = a) ∨ (j ≠ i ∧ l[j]? = some x) := by
  by_cases e : i = j
  · subst e
    by_cases hl : i < l.length
    · rw [List.getElem?_set_self hl] at h
      exact .inl ⟨rfl, (Option.some.inj h).symm⟩
    · rw [List.getElem?_eq_none (by simpa using hl)] at h
      cases h
  · rw [List.getElem?_set_ne e] at h
    exact .inr ⟨fun z => e z.symm, h⟩
theorem EnvOk.set {i : Nat} {w : W} {v : V} (e : EnvOk K Γ c d oa ρ σ H) (r : Rep K c H w v) : EnvOk K Γ c d oa (ρ.set i (.val w)) (σ.set i (some v)) H where
  ok := e.ok
  st := e.st
  av := e.av
  len := by rw [List.length_set, List.length_set]; exact e.len
  val := fun j x h => by
    rcases getElem?_set_or h with ⟨ej, ex⟩ | ⟨n, h'⟩
    · cases ex
      subst ej
      refine ⟨v, ?_, r⟩
      have hl : j < ρ.length := by
        by_cases hl : j < ρ.length
        · exact hl
        · rw [List.getElem?_eq_none (by simpa using hl)] at h
          cases h
      rw [List.getElem?_set_self (by rw [← e.len]; exact hl)]
    · obtain ⟨u, h1, h2⟩ := e.val j x h'
      exact ⟨u, by rw [List.getElem?_set_ne (Ne.symm n)]; exact h1, h2⟩
  m := e.m
  own := fun j x h => by
    rcases getElem?_set_or h with ⟨ej, ex⟩ | ⟨n, h'⟩
    · cases ex
    · obtain ⟨h1, h3, h4⟩ := e.own j x h'
      exact ⟨h1, by rw [List.getElem?_set_ne (Ne.symm n)]; exact h3, h4⟩
  inj := fun a b x y h1 h2 => by
    rcases getElem?_set_or h1 with ⟨ej, ex⟩ | ⟨n1, h1'⟩
    · cases ex
    · rcases getElem?_set_or h2 with ⟨ej, ex⟩ | ⟨n2, h2'⟩
      · cases ex
      · exact e.inj a b x y h1' h2'
  odc := fun j x h => by
    rcases getElem?_set_or h with ⟨ej, ex⟩ | ⟨n, h'⟩
    · cases ex
    · obtain ⟨h1, h3, h4⟩ := e.odc j x h'
      exact ⟨h1, by rw [List.getElem?_set_ne (Ne.symm n)]; exact h3, h4⟩
  ido := fun a b x y h1 h2 => by
    rcases getElem?_set_or h1 with ⟨ej, ex⟩ | ⟨n1, h1'⟩
    · cases ex
    · rcases getElem?_set_or h2 with ⟨ej, ex⟩ | ⟨n2, h2'⟩
      · cases ex
      · exact e.ido a b x y h1' h2'
  odt := fun j x h => by
    rcases getElem?_set_or h with ⟨ej, ex⟩ | ⟨n, h'⟩
    · cases ex
    · obtain ⟨h1, h3, h4⟩ := e.odt j x h'
      exact ⟨h1, by rw [List.getElem?_set_ne (Ne.symm n)]; exact h3, h4⟩
  idt := fun a b x y h1 h2 => by
    rcases getElem?_set_or h1 with ⟨ej, ex⟩ | ⟨n1, h1'⟩
    · cases ex
    · rcases getElem?_set_or h2 with ⟨ej, ex⟩ | ⟨n2, h2'⟩
      · cases ex
      · exact e.idt a b x y h1' h2'
  tT := e.tT
  cC := e.cC
  kK := e.kK
end
def sNil : En → T (Fl × En) := fun ρ => .ok (.nx, ρ)
def sSeq (g h : En → T (Fl × En)) : En → T (Fl × En) := fun ρ => (g ρ).bind fun x => match x with
  | (.nx, ρ') => h ρ'
  | x => .ok x
def sRet (f : En → T W) : En → T (Fl × En) := fun ρ => (f ρ).bind fun w => .ok (.rt w, ρ)
def sRetN : En → T (Fl × En) := fun ρ => .ok (.rt .non, ρ)
def sExpr (f : En → T W) : En → T (Fl × En) := fun ρ => (f ρ).bind fun _ => .ok (.nx, ρ)
def sSet (i : Nat) (f : En → T W) : En → T (Fl × En) := fun ρ => (f ρ).bind fun w => .ok (.nx, ρ.set i (.val w))
def sIf (t : En → T Bool) (g h : En → T (Fl × En)) : En → T (Fl × En) := fun ρ => (t ρ).bind fun b => if b then g ρ else h ρ
def sNever : En → T (Fl × En) := fun _ => .bad
def sPar (i j : Nat) (fs : En → T (List W)) : En → T (Fl × En) := fun ρ => (fs ρ).bind fun xs => match xs with
  | [x, y] => .ok (.nx, (ρ.set i (.val x)).set j (.val y))
  | _ => .bad
section
variable {X : Cx} {E : XK} {st : Stmt} {sts : List Stmt} {g h : En → T (Fl × En)} {f : En → T W} {e a b : Expr} {fs : En → T (List W)} {t : En → T Bool} {pos : Pos}
theorem trs_nil : TrSs Γ X E [] sNil := pss_imp pss_nil fun D σ H q => by
  obtain ⟨c, d, oa, ρ, e, q⟩ := q
  exact q _ oa σ H .refl e
theorem trs_cons (h1 : TrS Γ X E st g) (h2 : TrSs Γ X E sts h) : TrSs Γ X E (st :: sts) (sSeq g h) := pss_imp (pss_cons h1 h2) fun D σ H q => by
  obtain ⟨c, d, oa, ρ, e, q⟩ := q
  refine ⟨c, d, oa, ρ, e, T.AllW.imp (fun d1 x hx => ?_) (fun _ _ _ y => y) (T.allW_bind.mp q)⟩
  obtain ⟨fl, ρ'⟩ := x
  intro c' oa' σ' H' fw e'
  cases fl with
  | nx => exact ⟨c', d1, oa', ρ', e', T.AllW.imp (fun _ _ y => y.later fw) (fun _ _ _ y => y.fwd fw) hx⟩
  | rt w => exact hx c' oa' σ' H' fw e'
  | bk => exact hx c' oa' σ' H' fw e'
  | ct => exact hx c' oa' σ' H' fw e'
  | rn ws => exact hx c' oa' σ' H' fw e'
theorem trs_one (h1 : TrS Γ X E st g) : TrSs Γ X E [st] g := pss_one h1
theorem tr_ret (he : TrE Γ X (wOf E) e f) : TrS Γ X E (.Return (some e) pos) (sRet f) := ps_imp (ps_ret he) fun D σ H q => by
  obtain ⟨c, d, oa, ρ, e, q⟩ := q
  refine lift_thenS (P := fun c H => PSq X.K Γ c H D) e q (fun st p => p.later (.of st e.wd)) fun w v H1 d1 _ r1 e1 h1 => ?_
  exact h1 _ oa σ H1 .refl e1 v r1
theorem tr_expr (he : TrE Γ X (wOf E) e f) (hs : swapsWith e none pos.line X.env = pure false := by rfl) : TrS Γ X E (.Expr e pos) (sExpr f) := ps_imp (ps_expr he hs) fun D σ H q => by
  obtain ⟨c, d, oa, ρ, e, q⟩ := q
  refine lift_thenS (P := fun c H => PSq X.K Γ c H D) e q (fun st p => p.later (.of st e.wd)) fun w v H1 d1 _ r1 e1 h1 => ?_
  exact h1 _ oa σ H1 .refl e1
theorem tr_set {i : Nat} {x : Str} {pos' : Pos} (hN : X.N.Nodup) (hi : X.N[i]? = some x) (hx : Loc X.env.scope x) (he : TrE Γ X (wOf E) e f) (hs : swapsWith e (some (.Name x pos')) pos.line X.env = pure false := by rfl)
    (hf : X.fn x = true ∨ X.env.scope.names.lookup x = some .local := by first | exact .inl rfl | exact .inr rfl | assumption) : TrS Γ X E (.Assign [.Name x pos'] e pos) (sSet i f) := ps_imp (ps_set hN hi hx he hs hf) fun D σ H q => by
  obtain ⟨c, d, oa, ρ, e, q⟩ := q
  refine lift_thenS (P := fun c H => PSq X.K Γ c H D) e q (fun st p => p.later (.of st e.wd)) fun w v H1 d1 _ r1 e1 h1 => ?_
  exact h1 _ oa _ H1 .refl (e1.set r1)
theorem tr_ifs {sa sb : List Stmt} (hc : TrB Γ X (wOf E) e t) (ha : TrSs Γ X E sa g) (hb : TrSs Γ X E sb h) : TrS Γ X E (.If e sa sb pos) (sIf t g h) := ps_imp (ps_if hc ha hb) fun D σ H q => by
  obtain ⟨c, d, oa, ρ, e, q⟩ := q
  refine liftB_thenS (P := fun c H => PSq X.K Γ c H D) e q (fun st p => p.later (.of st e.wd)) fun b H1 d1 _ e1 h1 => ?_
  cases b with
  | true => exact iteT ⟨_, d1, oa, ρ, e1, h1⟩
  | false => exact iteF ⟨_, d1, oa, ρ, e1, h1⟩
theorem tr_never : TrS Γ X E st sNever := ps_imp ps_never fun D σ H q => by
  obtain ⟨c, d, oa, ρ, e, q⟩ := q
  exact q
theorem tr_par {i j : Nat} (hp : PS X st (tPar i j (liftA X.K Γ (wOf E) fs))) : TrS Γ X E st (sPar i j fs) := ps_imp hp fun D σ H q => by
  obtain ⟨c, d, oa, ρ, e, q⟩ := q
  refine liftA_thenS (P := fun c H => PSq X.K Γ c H D) e q (fun st p => p.later (.of st e.wd)) fun w v H1 d1 _ r1 e1 h1 => ?_
  cases r1 with
  | nil => exact h1.elim
  | cons r1 r2 =>
    cases r2 with
    | nil => exact h1.elim
    | cons r2 r3 =>
      cases r3 with
      | nil => exact ⟨_, _, rfl, h1 _ oa _ H1 .refl ((e1.set r1).set r2)⟩
      | cons _ _ => exact h1.elim
end
end PF
namespace PF
open PySem PySem.Spec PyProof.Rows L2
/-- the slots at ns alone may have changed -/
def ButAt (ns : List Nat) (σ σ' : St) : Prop := σ'.length = σ.length ∧ ∀ j : Nat, j ∉ ns → σ'[j]? = σ[j]?
theorem ButAt.trans {ns ms : List Nat} {σ σ1 σ2 : St} (a : ButAt ns σ σ1) (b : ButAt ms σ1 σ2) : ButAt (ns ++ ms) σ σ2 := ⟨b.1.trans a.1, fun j h => by
  rw [List.mem_append, not_or] at h
  rw [b.2 j h.2, a.2 j h.1]⟩
def liftG (K : PySem.W.Frag) (Γ : Cl) (ns : List Nat) (G : W → En → Option En) : TG := fun v σ H Q => ∃ c d oa ρ w ρ', EnvOk K Γ c d oa ρ σ H ∧ Rep K c H w v ∧ G w ρ = some ρ' ∧ ∀ σ', ButAt ns σ σ' → EnvOk K Γ c d oa ρ' σ' H → Q σ' H
def liftGs (K : PySem.W.Frag) (Γ : Cl) (ns : List Nat) (G : List W → En → Option En) : TGs := fun vs σ H Q => ∃ c d oa ρ ws ρ', EnvOk K Γ c d oa ρ σ H ∧ RepL K c H ws vs ∧ G ws ρ = some ρ' ∧ ∀ σ', ButAt ns σ σ' → EnvOk K Γ c d oa ρ' σ' H → Q σ' H
def TrG (Γ : Cl) (X : Cx) (e : Expr) (ns : List Nat) (G : W → En → Option En) : Prop := PG X e (liftG X.K Γ ns G)
def TrGs (Γ : Cl) (X : Cx) (es : List Expr) (ns : List Nat) (G : List W → En → Option En) : Prop := PGs X es (liftGs X.K Γ ns G)
def goName (i : Nat) : W → En → Option En := fun w ρ => some (ρ.set i (.val w))
def goNil : List W → En → Option En := fun ws ρ => match ws with
  | [] => some ρ
  | _ => none
def goCons (G : W → En → Option En) (Gs : List W → En → Option En) : List W → En → Option En := fun ws ρ => match ws with
  | w :: ws => (G w ρ).bind (Gs ws)
  | [] => none
def goTup (n : Nat) (Gs : List W → En → Option En) : W → En → Option En := fun w ρ => match w with
  | .tup ws => if ws.length == n then Gs ws ρ else none
  | _ => none
theorem pg_imp {X : Cx} {e : Expr} {t t' : TG} (h : PG X e t) (i : ∀ v σ H Q, t' v σ H Q → t v σ H Q) : PG X e t' := ⟨fun pins s σ H v u Q I r q => h.run pins s σ H v u Q I r (i v σ H Q q)⟩
theorem pgs_imp {X : Cx} {e : List Expr} {t t' : TGs} (h : PGs X e t) (i : ∀ v σ H Q, t' v σ H Q → t v σ H Q) : PGs X e t' := ⟨fun pins s σ H v u Q I r q => h.run pins s σ H v u Q I r (i v σ H Q q)⟩
section
variable {X : Cx} {e : Expr} {es : List Expr} {ns ms : List Nat} {G : W → En → Option En} {Gs : List W → En → Option En} {pos : Pos}
theorem trg_name {i : Nat} {x : Str} (hN : X.N.Nodup) (hi : X.N[i]? = some x) (hx : Loc X.env.scope x) (hf : X.fn x = true ∨ X.env.scope.names.lookup x = some .local := by first | exact .inl rfl | exact .inr rfl | assumption) : TrG Γ X (.Name x pos) [i] (goName i) := pg_imp (pg_name hN hi hx hf) fun v σ H Q h => by
  obtain ⟨c, d, oa, ρ, w, ρ', e, r, g, q⟩ := h
  cases g
  exact q _ ⟨by rw [List.length_set], fun j h => by rw [List.getElem?_set_ne (fun z => h (by simp [z]))]⟩ (e.set r)
theorem trgs_nil : TrGs Γ X [] [] goNil := pgs_imp pgs_nil fun v σ H Q h => by
  obtain ⟨c, d, oa, ρ, w, ρ', e, r, g, q⟩ := h
  cases r with
  | nil =>
    cases g
    exact ⟨rfl, q σ ⟨rfl, fun _ _ => rfl⟩ e⟩
  | cons _ _ => cases g
theorem trgs_cons (h1 : TrG Γ X e ns G) (h2 : TrGs Γ X es ms Gs) (hs : (assignEach (e :: es) X.env).map (·.2) = assign e X.env :: (assignEach es X.env).map (·.2) := by rfl) : TrGs Γ X (e :: es) (ns ++ ms) (goCons G Gs) := pgs_imp (pgs_cons h1 h2 hs) fun v σ H Q h => by
  obtain ⟨c, d, oa, ρ, w, ρ', e, r, g, q⟩ := h
  cases r with
  | nil => cases g
  | cons r rr =>
    rename_i w1 v1 ws1 vs1
    have g' : (G w1 ρ).bind (Gs ws1) = some ρ' := g
    cases g1 : G w1 ρ with
    | none =>
      rw [g1] at g'
      cases g'
    | some ρ1 =>
      rw [g1] at g'
      exact ⟨v1, vs1, rfl, c, d, oa, ρ, w1, ρ1, e, r, g1, fun σ1 b1 e1 => ⟨c, d, oa, ρ1, ws1, ρ', e1, rr, g', fun σ2 b2 e2 => q σ2 (b1.trans b2) e2⟩⟩
theorem trg_tup {k n : Nat} (hc : X.calm = true) (h : TrGs Γ X es ns Gs) (hn : (assignEach es X.env).length = n := by rfl) (hst : (assignEach es X.env).findIdx? (·.1) = none := by rfl) : TrG Γ X (.Tuple es k pos) ns (goTup n Gs) := pg_imp (pg_tup hc h hn hst) fun v σ H Q h => by
  obtain ⟨c, d, oa, ρ, w, ρ', e, r, g, q⟩ := h
  cases r with
  | tup hq rl =>
    rename_i a vs ws
    have g' : (if ws.length == n then Gs ws ρ else none) = some ρ' := g
    cases hl : (ws.length == n) with
    | false =>
      rw [hl] at g'
      cases g'
    | true =>
      rw [hl] at g'
      exact ⟨a, vs, rfl, hq, by rw [← rl.length]; exact eq_of_beq hl, c, d, oa, ρ, ws, ρ', e, rl, g', q⟩
  | _ => cases g
end
/-- target = value, for any target -/
def sAsg (f : En → T W) (G : W → En → Option En) : En → T (Fl × En) := fun ρ => (f ρ).bind fun w => match G w ρ with
  | some ρ' => .ok (.nx, ρ')
  | none => .bad
theorem tr_asg {X : Cx} {E : XK} {e tg : Expr} {f : En → T W} {ns : List Nat} {G : W → En → Option En} {pos : Pos} (he : TrE Γ X (wOf E) e f) (hg : TrG Γ X tg ns G) (hs : swapsWithSole [tg] e pos.line X.env = pure false := by rfl) (hw : swappedStores [tg] e X.env = pure none := by rfl)
    (h1 : (assignEach [tg] X.env).map (·.2) = [assign tg X.env] := by rfl) : TrS Γ X E (.Assign [tg] e pos) (sAsg f G) := ps_imp (ps_asg he hg hs hw h1) fun D σ H q => by
  obtain ⟨c, d, oa, ρ, e, q⟩ := q
  refine lift_thenS (P := fun c H => PSq X.K Γ c H D) e q (fun st p => p.later (.of st e.wd)) fun w v H1 d1 _ r1 e1 h1 => ?_
  cases g : G w ρ with
  | none =>
    rw [g] at h1
    exact h1.elim
  | some ρ' =>
    rw [g] at h1
    exact ⟨_, d1, oa, ρ, w, ρ', e1, r1, g, fun σ' _ e' => h1 _ oa σ' H1 .refl e'⟩
def whileL (t : En → T Bool) (gb : En → T (Fl × En)) : Nat → En → T (Fl × En)
  | 0, _ => .bad
  | n + 1, ρ => (t ρ).bind fun b => if b then (gb ρ).bind fun x => match x with
      | (.nx, ρ') => whileL t gb n ρ'
      | (.ct, ρ') => whileL t gb n ρ'
      | (.bk, ρ') => .ok (.nx, ρ')
      | (.rt w, ρ') => .ok (.rt w, ρ')
      | (.rn ws, ρ') => .ok (.rn ws, ρ') else .ok (.nx, ρ)
def sWhile (μ : En → Nat) (t : En → T Bool) (gb : En → T (Fl × En)) : En → T (Fl × En) := fun ρ => whileL t gb (μ ρ) ρ
theorem tr_while {X : Cx} {E : XK} {e : Expr} {body : List Stmt} {t : En → T Bool} {gb : En → T (Fl × En)} {pos : Pos} (μ : En → Nat) (hp : PassesOwn (model X.prog X.w) X.A X.env X.xe) (hc : TrB Γ X (wOf E) e t) (hb : TrSs Γ X E body gb) : TrS Γ X E (.While e body [] pos) (sWhile μ t gb) :=
  ps_imp (ps_while hp hc hb) fun D σ H q => by
  obtain ⟨c, d, oa, ρ, e, q⟩ := q
  refine ⟨fun m σ H => ∃ c d oa ρ, EnvOk X.K Γ c d oa ρ σ H ∧ (whileL t gb m ρ).AllW (PSq X.K Γ c H D) (PXs X.K c H E) d, ⟨_, c, d, oa, ρ, e, q⟩, ?_⟩
  rintro m σ H ⟨c, d, oa, ρ, e, q⟩
  cases m with
  | zero => exact q.elim
  | succ m =>
    refine liftB_thenS (P := fun c H => PSq X.K Γ c H D) e q (fun st p => p.later (.of st e.wd)) fun b H1 d1 _ e1 h1 => ?_
    cases b with
    | false => exact iteF (h1 _ oa σ H1 .refl e1)
    | true =>
      refine iteT ⟨fun σ H => ∃ c d oa ρ, EnvOk X.K Γ c d oa ρ σ H ∧ (whileL t gb m ρ).AllW (PSq X.K Γ c H D) (PXs X.K c H E) d, fun σ' H' h => ⟨m, Nat.lt_succ_self m, h⟩, _, d1, oa, ρ, e1, ?_⟩
      refine T.AllW.imp (fun d2 x hx => ?_) (fun _ _ _ y => y) (T.allW_bind.mp h1)
      obtain ⟨fl, ρ2⟩ := x
      intro c2 oa2 σ2 H2 fw e2
      cases fl with
      | nx => exact ⟨c2, d2, oa2, ρ2, e2, T.AllW.imp (fun _ _ y => y.later fw) (fun _ _ _ y => y.fwd fw) hx⟩
      | ct => exact ⟨c2, d2, oa2, ρ2, e2, T.AllW.imp (fun _ _ y => y.later fw) (fun _ _ _ y => y.fwd fw) hx⟩
      | bk => exact hx c2 oa2 σ2 H2 fw e2
      | rt w => exact hx c2 oa2 σ2 H2 fw e2
      | rn ws => exact hx c2 oa2 σ2 H2 fw e2
/-- the iterator J yields ws, as long as the world goes on -/
def ItOk (K : PySem.W.Frag) (c : Cc) (H : Hp) (J : It) (ws : List W) : Prop := ∀ (c' : Cc) (H' : Hp) (d' : Dw) (i : Nat), Fwd K c H c' H' → Wd c' d' H' →
  (∀ w, ws[i]? = some w → J.go i H' ∧ ∀ x H2, J.yld i H' x H2 → SG c' c' H' H2 ∧ StOk c' d' H2 ∧ Rep K c' H2 w x) ∧ (ws.length ≤ i → J.stop i H')
def PJ (K : PySem.W.Frag) (c : Cc) (H : Hp) (R : It → Hp → Prop) : Dw → List W → Prop := fun d ws => ∀ ⦃c' : Cc⦄ J H1, SG c c' H H1 → StOk c' d H1 → ItOk K c' H1 J ws → R J H1
def liftI (K : PySem.W.Frag) (Γ : Cl) (E : WX) (f : En → T (List W)) : TI := fun σ H R => ∃ c d oa ρ, EnvOk K Γ c d oa ρ σ H ∧ (f ρ).AllW (PJ K c H R) (PX K c H fun cls dx H' => E cls dx σ H') d
theorem PJ.later {K : PySem.W.Frag} {c c1 : Cc} {H H1 : Hp} {R : It → Hp → Prop} {d : Dw} {ws : List W} (s : SG c c1 H H1) (h : PJ K c H R d ws) : PJ K c1 H1 R d ws := fun _ J H' st so r => h J H' (s.trans st) so r
def TrI (Γ : Cl) (X : Cx) (E : WX) (tg iter : Expr) (f : En → T (List W)) : Prop := PI X tg iter (liftI X.K Γ E f)
theorem pi_imp {X : Cx} {tg e : Expr} {t t' : TI} (h : PI X tg e t) (i : ∀ σ H Q, t' σ H Q → t σ H Q) : PI X tg e t' := ⟨fun pins s σ H Q I q => h.run pins s σ H Q I (i σ H Q q)⟩
def tupW : W → T (List W)
  | .tup ws => .ok ws
  | _ => .bad
def lstW : W → T (List W)
  | .lst ws => .ok ws
  | _ => .bad
def iOf (g : W → T (List W)) (f : En → T W) : En → T (List W) := fun ρ => (f ρ).bind g
def intsFrom (lo : Int) : Nat → List W
  | 0 => []
  | n + 1 => .int lo :: intsFrom (lo + 1) n
theorem intsFrom_get : ∀ (n : Nat) (lo : Int) (i : Nat), (intsFrom lo n)[i]? = if i < n then some (.int (lo + i)) else none
  | 0, lo, i => by simp [intsFrom]
  | n + 1, lo, 0 => by simp [intsFrom]
  | n + 1, lo, i + 1 => by
    simp only [intsFrom, List.getElem?_cons_succ]
    rw [intsFrom_get n (lo + 1) i]
    by_cases h : i < n
    · rw [if_pos h, if_pos (by omega)]
      have e : lo + 1 + (i : Int) = lo + ((i + 1 : Nat) : Int) := by omega
      rw [e]
    · rw [if_neg h, if_neg (by omega)]
theorem intsFrom_length : ∀ (n : Nat) (lo : Int), (intsFrom lo n).length = n
  | 0, _ => rfl
  | n + 1, lo => congrArg (· + 1) (intsFrom_length n (lo + 1))
@[irreducible] def rngOk (n : Int) : Bool := decide (n.natAbs.log2 < 61)
theorem rngOk_of {n : Int} (h : rngOk n = true) : -(2 ^ 62) ≤ n ∧ n < 2 ^ 62 := by
  unfold rngOk at h
  have h := of_decide_eq_true h
  by_cases h0 : n.natAbs = 0
  · omega
  · have := (Nat.log2_lt h0).mp h
    omega
theorem rngOk_is {n : Int} (h : -(2 ^ 60) ≤ n) (h1 : n ≤ 2 ^ 60) : rngOk n = true := by
  unfold rngOk
  refine decide_eq_true ?_
  by_cases h0 : n.natAbs = 0
  · rw [h0]
    decide
  · exact (Nat.log2_lt h0).mpr (by omega)
def rng1 : List W → T (List W)
  | [.int n] => if rngOk n then .ok (intsFrom 0 n.toNat) else .bad
  | _ => .bad
def rng2 : List W → T (List W)
  | [.int a, .int b] => if rngOk a && rngOk b then .ok (intsFrom a (b - a).toNat) else .bad
  | _ => .bad
def iL (g : List W → T (List W)) (f : En → T (List W)) : En → T (List W) := fun ρ => (f ρ).bind g
section
variable {X : Cx} {E : WX} {tg e a b : Expr} {f : En → T W} {fs : En → T (List W)} {p pos : Pos}
theorem PJ.now {K : PySem.W.Frag} {c : Cc} {H : Hp} {R : It → Hp → Prop} {d : Dw} {ws : List W} {J : It} (wd : Wd c d H) (h : PJ K c H R d ws) (j : ItOk K c H J ws) : R J H := h J H (.refl _ H) wd.st j
theorem tri_tup (h : TrE Γ X E e f) : TrI Γ X E tg e (iOf tupW f) := pi_imp (pi_tup h) fun σ H R q => by
  obtain ⟨c, d, oa, ρ, e, q⟩ := q
  refine lift_then (P := fun c H => PJ X.K c H R) e q (fun st p => p.later st) fun w v H1 d1 _ r1 e1 h1 => ?_
  cases r1 with
  | tup hq rl =>
    rename_i a vs ws
    refine ⟨a, rfl, ⟨_, hq⟩, PJ.now e1.wd h1 fun c' H' d' i fw wd => ⟨fun w hw => ?_, fun hi => ?_⟩⟩
    · obtain ⟨v, hv, rv⟩ := rl.get hw
      have hq' := fw.sqT e1.wd hq
      refine ⟨⟨vs, v, hq', hv⟩, fun x H2 y => ?_⟩
      obtain ⟨rfl, y⟩ := y
      have ex := y vs hq'
      rw [hv] at ex
      cases ex
      exact ⟨.refl _ _, wd.st, fw.rep _ _ rv⟩
    · exact ⟨vs, fw.sqT e1.wd hq, by rw [← rl.length]; exact hi⟩
  | _ => exact h1.elim
theorem tri_lst (h : TrE Γ X E e f) : TrI Γ X E tg e (iOf lstW f) := pi_imp (pi_list h) fun σ H R q => by
  obtain ⟨c, d, oa, ρ, e, q⟩ := q
  refine lift_then (P := fun c H => PJ X.K c H R) e q (fun st p => p.later st) fun w v H1 d1 _ r1 e1 h1 => ?_
  cases r1 with
  | lst n hq rl =>
    rename_i a vs ws
    refine ⟨a, rfl, ⟨_, SqL.of hq⟩, PJ.now e1.wd h1 fun c' H' d' i fw wd => ?_⟩
    have hq' : H' a = some (.lst vs) := fw.step _ _ hq (e1.ok.neS n) (e1.ok.nela n) (fun z => n (e1.m.inA _ z)) nofun
    have uq : ∀ xs, SqL X.K H' a xs → Rd H' a (.lst xs) ∨ SqL X.K (fun _ => none) a xs := fun xs h => sqL_split h
    refine ⟨fun w hw => ?_, fun hi => ?_⟩
    · obtain ⟨v, hv, rv⟩ := rl.get hw
      refine ⟨⟨vs, v, SqL.of hq', hv⟩, fun x H2 y => ?_⟩
      obtain ⟨rfl, y⟩ := y
      have ex := y vs (SqL.of hq')
      rw [hv] at ex
      cases ex
      exact ⟨.refl _ _, wd.st, fw.rep _ _ rv⟩
    · exact ⟨vs, SqL.of hq', by rw [← rl.length]; exact hi⟩
  | _ => exact h1.elim
theorem itr_ok {K : PySem.W.Frag} {c : Cc} {H : Hp} (lo : Int) (n : Nat) : ItOk K c H (Itr lo n) (intsFrom lo n) := fun c' H' d' i fw wd => by
  refine ⟨fun w hw => ?_, fun hi => ?_⟩
  · rw [intsFrom_get] at hw
    by_cases hi : i < n
    · rw [if_pos hi] at hw
      cases hw
      refine ⟨hi, fun x H2 y => ?_⟩
      obtain ⟨rfl, rfl⟩ := y
      exact ⟨.refl _ _, wd.st, .int _⟩
    · rw [if_neg hi] at hw
      cases hw
  · rw [intsFrom_length] at hi
    exact hi
theorem tri_rng1 (hg : Gl X "range") (hm : X.mg "range" = none) (ha : TrA Γ X E [a] fs) (hs : starEach [a] X.env = [(false, eval a X.env)] := by rfl) : TrI Γ X E tg (.Call (.Name "range" p) [a] [] pos) (iL rng1 fs) := pi_imp (pi_range1 hg hm ha hs) fun σ H R q => by
  obtain ⟨c, d, oa, ρ, e, q⟩ := q
  refine liftA_then (P := fun c H => PJ X.K c H R) e q (fun st p => p.later st) fun w v H1 d1 _ r1 e1 h1 => ?_
  cases r1 with
  | nil => exact h1.elim
  | cons r rr =>
    cases rr with
    | cons _ _ =>
      cases r <;> exact h1.elim
    | nil =>
      cases r with
      | int n =>
        obtain ⟨hb, h1⟩ := T.AllW.ite h1
        obtain ⟨h2, h3⟩ := rngOk_of hb
        exact ⟨n, rfl, h2, h3, PJ.now e1.wd h1 (itr_ok 0 n.toNat)⟩
      | _ => exact h1.elim
theorem tri_rng2 (hg : Gl X "range") (hm : X.mg "range" = none) (ha : TrA Γ X E [a, b] fs) (hs : starEach [a, b] X.env = [(false, eval a X.env), (false, eval b X.env)] := by rfl) (hs2 : starEach [b] X.env = [(false, eval b X.env)] := by rfl) : TrI Γ X E tg (.Call (.Name "range" p) [a, b] [] pos) (iL rng2 fs) := pi_imp (pi_range2 hg hm ha hs hs2) fun σ H R q => by
  obtain ⟨c, d, oa, ρ, e, q⟩ := q
  refine liftA_then (P := fun c H => PJ X.K c H R) e q (fun st p => p.later st) fun w v H1 d1 _ r1 e1 h1 => ?_
  cases r1 with
  | nil => exact h1.elim
  | cons r rr =>
    cases rr with
    | nil => cases r <;> exact h1.elim
    | cons r2 rr =>
      cases rr with
      | cons _ _ => cases r <;> cases r2 <;> exact h1.elim
      | nil =>
        cases r with
        | int x =>
          cases r2 with
          | int y =>
            obtain ⟨hb, h1⟩ := T.AllW.ite h1
            obtain ⟨ha, hb⟩ := Bool.and_eq_true_iff.mp hb
            obtain ⟨a1, a2⟩ := rngOk_of ha
            obtain ⟨b1, b2⟩ := rngOk_of hb
            exact ⟨x, y, rfl, ⟨a1, a2, b1, b2⟩, PJ.now e1.wd h1 (itr_ok x (y - x).toNat)⟩
          | _ => exact h1.elim
        | _ => exact h1.elim
end
def forL (G : W → En → Option En) (gb : En → T (Fl × En)) : List W → En → T (Fl × En)
  | [], ρ => .ok (.nx, ρ)
  | w :: ws, ρ => match G w ρ with
    | none => .bad
    | some ρ1 => (gb ρ1).bind fun x => match x with
      | (.nx, ρ2) => forL G gb ws ρ2
      | (.ct, ρ2) => forL G gb ws ρ2
      | (.bk, ρ2) => .ok (.nx, ρ2)
      | (.rt w, ρ2) => .ok (.rt w, ρ2)
      | (.rn ws, ρ2) => .ok (.rn ws, ρ2)
def sFor (fi : En → T (List W)) (G : W → En → Option En) (gb : En → T (Fl × En)) : En → T (Fl × En) := fun ρ => (fi ρ).bind fun ws => forL G gb ws ρ
theorem tr_for {X : Cx} {E : XK} {tg iter : Expr} {body : List Stmt} {fi : En → T (List W)} {ns : List Nat} {G : W → En → Option En} {gb : En → T (Fl × En)} {pos : Pos} (hp : PassesOwn (model X.prog X.w) X.A X.env X.xe) (hc : X.calm = true) (hi : TrI Γ X (wOf E) tg iter fi) (hg : TrG Γ X tg ns G) (hb : TrSs Γ X E body gb)
    (hs : ∀ x, foldedSetIterable iter X.env x = pure x := by intro _; rfl) : TrS Γ X E (.For tg iter body [] pos) (sFor fi G gb) := ps_imp (ps_for hp hc hi hg hb hs) fun D σ H q => by
  obtain ⟨c, d, oa, ρ, e, q⟩ := q
  refine ⟨c, d, oa, ρ, e, T.AllW.imp (fun d1 ws hx => ?_) (fun _ _ _ y => y.toX e.wd) (T.allW_bind.mp q)⟩
  intro c1 J H1 st1 so1 jo
  have e1 := e.step st1 so1
  refine ⟨fun i m σ H' => m = ws.length - i ∧ ∃ c' d' oa' ρ', Fwd X.K c1 H1 c' H' ∧ EnvOk X.K Γ c' d' oa' ρ' σ H' ∧ (forL G gb (ws.drop i) ρ').AllW (PSq X.K Γ c' H' D) (PXs X.K c' H' E) d', ⟨_, rfl, c1, d1, oa, ρ, .refl, e1, T.AllW.imp (fun _ _ y => y.later (.of st1 e.wd)) (fun _ _ _ y => y.later e.wd st1) hx⟩, ?_⟩
  rintro i m σ' H' ⟨rfl, c', d', oa', ρ', fw, e', h'⟩
  obtain ⟨ji, js⟩ := jo c' H' d' i fw e'.wd
  by_cases hi : i < ws.length
  · have hw : ws[i]? = some ws[i] := List.getElem?_eq_getElem hi
    have hd : ws.drop i = ws[i] :: ws.drop (i + 1) := List.drop_eq_getElem_cons hi
    rw [hd] at h'
    obtain ⟨jg, jy⟩ := ji _ hw
    refine .inr ⟨jg, fun σ2 H2 => ∃ c2 d2 oa2 ρ2, Fwd X.K c1 H1 c2 H2 ∧ EnvOk X.K Γ c2 d2 oa2 ρ2 σ2 H2 ∧ (forL G gb (ws.drop (i + 1)) ρ2).AllW (PSq X.K Γ c2 H2 D) (PXs X.K c2 H2 E) d2, fun σ2 H2 h2 => ⟨ws.length - (i + 1), by omega, rfl, h2⟩, fun x H2 y => ?_⟩
    obtain ⟨st2, so2, rx⟩ := jy x H2 y
    have fw2 : Fwd X.K c' H' c' H2 := .of st2 e'.wd
    have e2 := e'.step st2 so2
    unfold forL at h'
    cases g : G ws[i] ρ' with
    | none =>
      rw [g] at h'
      exact h'.elim
    | some ρ1 =>
      rw [g] at h'
      refine ⟨c', d', oa', ρ', ws[i], ρ1, e2, rx, g, fun σ3 _ e3 => ⟨c', d', oa', ρ1, e3, ?_⟩⟩
      refine T.AllW.imp (fun d4 x4 hx4 => ?_) (fun _ _ _ y => y.fwd fw2) (T.allW_bind.mp h')
      obtain ⟨fl, ρ4⟩ := x4
      intro c4 oa4 σ4 H4 fw4 e4
      have fw5 : Fwd X.K c' H' c4 H4 := fw2.trans fw4
      cases fl with
      | nx => exact ⟨c4, d4, oa4, ρ4, fw.trans fw5, e4, T.AllW.imp (fun _ _ y => y.later fw5) (fun _ _ _ y => y.fwd fw5) hx4⟩
      | ct => exact ⟨c4, d4, oa4, ρ4, fw.trans fw5, e4, T.AllW.imp (fun _ _ y => y.later fw5) (fun _ _ _ y => y.fwd fw5) hx4⟩
      | bk => exact hx4 c4 oa4 σ4 H4 fw5 e4
      | rt w => exact hx4 c4 oa4 σ4 H4 fw5 e4
      | rn ws => exact hx4 c4 oa4 σ4 H4 fw5 e4
  · rw [List.drop_eq_nil_of_le (by omega)] at h'
    exact .inl ⟨js (by omega), h' c' oa' σ' H' .refl e'⟩
end PF
namespace PF
open PySem PySem.Spec PyProof.Rows L2
abbrev Cc.more (c : Cc) (D : Addr) : Cc := { c with A := D :: c.A }
section
variable {K : PySem.W.Frag} {c : Cc} {d : Dw} {oa : Nat → Addr} {ρ : En} {σ : St} {H H' : Hp} {D : Addr}
mutual
theorem Rep.more (n : H D = none) (st : Step c H H') (s : StOk c d H) (ok : CcOk c) : ∀ {w : W} {v : V}, Rep K c H w v → Rep K (c.more D) H' w v
  | _, _, .non => .non
  | _, _, .bl b => .bl b
  | _, _, .int i => .int i
  | _, _, .str x => .str x
  | _, _, .tup h r => .tup (st.sqT s h) (RepL.more n st s ok r)
  | _, _, .lst m h r => .lst (by
      simp only [List.mem_cons, not_or]
      exact ⟨ne_of_none h n, m⟩) (st.lst ok m h) (RepL.more n st s ok r)
  | _, _, .dct m h r => .dct (by
      simp only [List.mem_cons, not_or]
      exact ⟨ne_of_none h n, m⟩) (st.lst ok m h) (RepL.more n st s ok r)
  | _, _, .scr h => .scr (by
      rcases h with ⟨m, r⟩ | h
      · refine .inl ⟨?_, r.imp (fun e => st.lst ok m e) fun ⟨o, e⟩ => ⟨o, st.lst ok m e⟩⟩
        simp only [List.mem_cons, not_or]
        refine ⟨?_, m⟩
        rcases r with r | ⟨o, r⟩
        · exact ne_of_none r n
        · exact ne_of_none r n
      · exact .inr h)
  | _, _, .stt => .stt
  | _, _, .lam h => .lam (h.kp (st.kp s))
  | _, _, .clo h g m k pl r => .clo (h.kp (st.kp s)) g m (k.kp (st.kp s)) pl (RepL.more n st s ok r)
  | _, _, .exo h1 h2 h3 r => .exo ((st.kp s).ext _ _ h1) ((st.kp s).xd _ _ h2) h3 (RepL.more n st s ok r)
  | _, _, .exn h1 => .exn ((st.kp s).ext _ _ h1)
  | _, _, .key h => .key (by
      obtain ⟨kvs, hS⟩ := s.S
      obtain ⟨xs, hl⟩ := s.la
      exact st.keep _ _ h (ne_of h hS nofun) (ne_of h hl nofun) nofun)
  | _, _, .obj h => .obj h
  | _, _, .dcu m h r => .dcu (by
      simp only [List.mem_cons, not_or]
      exact ⟨ne_of_none h n, m⟩) (st.lst ok m h) (RepL.more n st s ok r)
theorem RepL.more (n : H D = none) (st : Step c H H') (s : StOk c d H) (ok : CcOk c) : ∀ {ws : List W} {vs : List V}, RepL K c H ws vs → RepL K (c.more D) H' ws vs
  | _, _, .nil => .nil
  | _, _, .cons h r => .cons (Rep.more n st s ok h) (RepL.more n st s ok r)
end
theorem Fwd.more (n : H D = none) (st : Step c H H') (wd : Wd c d H) : Fwd K c H (c.more D) H' := ⟨rfl, rfl, rfl, rfl, rfl, rfl, List.prefix_rfl, fun b h _ => List.mem_cons_of_mem _ h, fun _ h => .inl h, fun b o h h1 h2 _ nt => st.keep b o h h1 h2 nt, fun b ps h _ => st.tbl b ps h, fun w v r => r.more n st wd.st wd.ok, fun _ _ h => st.sqT wd.st h, fun b C dx fs h _ => st.ins b C dx fs h⟩
theorem CcOk.more (ok : CcOk c) : CcOk (c.more D) := ⟨List.mem_cons_of_mem _ ok.inS, List.mem_cons_of_mem _ ok.inla, List.mem_cons_of_mem _ ok.inca⟩
theorem StOk.more {o : HO} (s : StOk c d H) (n : H D = none) : StOk (c.more D) d (upd H D o) := ⟨s.1.new n, s.2.same s.2.ok.more rfl rfl (fun a C dx fl h => by rw [upd_ne (ne_of_none h n)]; exact h) fun ws vs r => r.more n (.new n) s s.2.ok⟩
/-- an object of the frame's own is laid -/
theorem EnvOk.more {o : HO} (e : EnvOk K Γ c d oa ρ σ H) (n : H D = none) (ow : OwnO o := by first | exact .inl ⟨_, rfl⟩ | exact .inr (.inl ⟨_, rfl⟩) | exact .inr (.inr ⟨_, rfl⟩)) : EnvOk K Γ (c.more D) d oa ρ σ (upd H D o) where
  ok := ⟨List.mem_cons_of_mem _ e.ok.inS, List.mem_cons_of_mem _ e.ok.inla, List.mem_cons_of_mem _ e.ok.inca⟩
  st := e.st.more n
  av := fun b hb => by
    rcases List.mem_cons.mp hb with rfl | hb
    · exact ⟨_, upd_same, ow⟩
    · exact (e.wd.new n).av b hb
  len := e.len
  val := fun i w h => by
    obtain ⟨v, h1, h2⟩ := e.val i w h
    exact ⟨v, h1, h2.more n (.new n) e.st e.ok⟩
  m := ⟨fun b hb => List.mem_cons_of_mem _ (e.m.inA b hb), e.m.nst, fun b hb => by
    obtain ⟨o', h, w⟩ := e.m.ls b hb
    exact ⟨o', by rw [upd_ne (ne_of_none h n)]; exact h, w⟩⟩
  own := fun i ws h => by
    obtain ⟨h1, h3, vs, h4, h5⟩ := e.own i ws h
    exact ⟨h1, h3, vs, by rw [upd_ne (ne_of_none h4 n)]; exact h4, h5.more n (.new n) e.st e.ok⟩
  inj := e.inj
  odc := fun i ws h => by
    obtain ⟨h1, h3, vs, h4, h5⟩ := e.odc i ws h
    exact ⟨h1, h3, vs, by rw [upd_ne (ne_of_none h4 n)]; exact h4, h5.1, h5.2.more n (.new n) e.st e.ok⟩
  ido := e.ido
  odt := fun i ws h => by
    obtain ⟨h1, h3, vs, h4, h5⟩ := e.odt i ws h
    exact ⟨h1, h3, vs, by rw [upd_ne (ne_of_none h4 n)]; exact h4, h5.1, h5.2.more n (.new n) e.st e.ok⟩
  idt := e.idt
  tT := e.tT
  cC := e.cC
  kK := e.kK
theorem sqT_upd {a : Addr} {vs : List V} {o u : HO} (hl : H D = some o) (nt : ∀ xs, o ≠ .tup xs) (nf : ∀ b u, o ≠ .frz b u) (h : SqT K H a vs) : SqT K (upd H D u) a vs := by
  rcases h with (h | ⟨b, h⟩) | h
  · exact .inl (.inl (by rw [upd_ne (ne_of h hl (Ne.symm (nt _)))]; exact h))
  · exact .inl (.inr ⟨b, by rw [upd_ne (ne_of h hl (Ne.symm (nf _ _)))]; exact h⟩)
  · exact .inr h
theorem kp_upd {o u : HO} (hl : H D = some o) (nx : (∀ φ, o ≠ .ext φ) ∧ ∀ fs, o ≠ .xd fs) : Kp H (L2.upd H D u) := ⟨fun b φ h => by rw [upd_ne (ne_of h hl (Ne.symm (nx.1 _)))]; exact h, fun b φ h => by rw [upd_ne (ne_of h hl (Ne.symm (nx.2 _)))]; exact h⟩
mutual
theorem Rep.upd {o u : HO} (hA : D ∈ c.A) (hl : H D = some o) (nt : ∀ xs, o ≠ .tup xs) (nf : ∀ b u, o ≠ .frz b u) (nx : (∀ φ, o ≠ .ext φ) ∧ ∀ fs, o ≠ .xd fs := by exact ⟨nofun, nofun⟩) : ∀ {w : W} {v : V}, Rep K c H w v → Rep K c (L2.upd H D u) w v
  | _, _, .non => .non
  | _, _, .bl b => .bl b
  | _, _, .int i => .int i
  | _, _, .str x => .str x
  | _, _, .tup h r => .tup (sqT_upd hl nt nf h) (RepL.upd hA hl nt nf nx r)
  | _, _, .lst m h r => .lst m (by rw [upd_ne (fun z => m (by rw [z]; exact hA))]; exact h) (RepL.upd hA hl nt nf nx r)
  | _, _, .dct m h r => .dct m (by rw [upd_ne (fun z => m (by rw [z]; exact hA))]; exact h) (RepL.upd hA hl nt nf nx r)
  | _, _, .scr h => .scr (by
      rcases h with ⟨m, r⟩ | h
      · have ne : ∀ b, b ∉ c.A → b ≠ D := fun b hb z => hb (by rw [z]; exact hA)
        exact .inl ⟨m, r.imp (fun e => by rw [upd_ne (ne _ m)]; exact e) fun ⟨o, e⟩ => ⟨o, by rw [upd_ne (ne _ m)]; exact e⟩⟩
      · exact .inr h)
  | _, _, .stt => .stt
  | _, _, .lam h => .lam (h.kp (kp_upd hl nx))
  | _, _, .clo h g m k pl r => .clo (h.kp (kp_upd hl nx)) g m (k.kp (kp_upd hl nx)) pl (RepL.upd hA hl nt nf nx r)
  | _, _, .exo h1 h2 h3 r => .exo ((kp_upd hl nx).ext _ _ h1) ((kp_upd hl nx).xd _ _ h2) h3 (RepL.upd hA hl nt nf nx r)
  | _, _, .exn h1 => .exn ((kp_upd hl nx).ext _ _ h1)
  | _, _, .key h => .key (by rw [upd_ne (ne_of h hl (Ne.symm (nt _)))]; exact h)
  | _, _, .obj h => .obj h
  | _, _, .dcu m h r => .dcu m (by rw [upd_ne (fun z => m (by rw [z]; exact hA))]; exact h) (RepL.upd hA hl nt nf nx r)
theorem RepL.upd {o u : HO} (hA : D ∈ c.A) (hl : H D = some o) (nt : ∀ xs, o ≠ .tup xs) (nf : ∀ b u, o ≠ .frz b u) (nx : (∀ φ, o ≠ .ext φ) ∧ ∀ fs, o ≠ .xd fs := by exact ⟨nofun, nofun⟩) : ∀ {ws : List W} {vs : List V}, RepL K c H ws vs → RepL K c (L2.upd H D u) ws vs
  | _, _, .nil => .nil
  | _, _, .cons h r => .cons (Rep.upd hA hl nt nf nx h) (RepL.upd hA hl nt nf nx r)
end
theorem lst_noC {xs : List V} {p : Addr} (q : Str) : HO.lst xs ≠ LamX.CodeO p q := fun z => by
  unfold LamX.CodeO at z
  cases z
theorem StOk.upd {u : HO} {xs : List V} (s : StOk c d H) (hA : D ∈ c.A) (hn : D ∉ [c.S, c.ca, c.la]) (hl : H D = some (.lst xs)) : StOk c d (L2.upd H D u) := by
  obtain ⟨⟨cells, lefts, k, r, h1, h2, h3, h4, h5, h6, h7, h8, h9⟩, ob⟩ := s
  simp only [List.mem_cons, not_or, List.not_mem_nil, not_false_eq_true, and_true] at hn
  exact ⟨⟨cells, lefts, k, r, by rw [upd_ne (Ne.symm hn.1)]; exact h1, by rw [upd_ne (Ne.symm hn.2.1)]; exact h2, by rw [upd_ne (Ne.symm hn.2.2)]; exact h3, h4, h5, h6, h7, h8, Tabs.upd h9 hl nofun lst_noC⟩,
    ob.same ob.ok rfl rfl (fun a C dx fl h => by rw [upd_ne (ne_of h hl nofun)]; exact h) fun ws vs r => r.upd hA hl (fun _ z => by cases z) (fun _ _ z => by cases z)⟩
theorem EnvOk.upd {xs ys : List V} (e : EnvOk K Γ c d oa ρ σ H) (hA : D ∈ c.A) (hn : D ∉ [c.S, c.ca, c.la]) (hl : H D = some (.lst xs)) (ho : ∀ (i : Nat) (ws : List W), ρ[i]? = some (.own ws) → oa i ≠ D) : EnvOk K Γ c d oa ρ σ (L2.upd H D (.lst ys)) where
  ok := e.ok
  st := e.st.upd hA hn hl
  av := fun b hb => by
    by_cases hb' : b = D
    · rw [hb']
      exact ⟨_, upd_same, .inl ⟨_, rfl⟩⟩
    · obtain ⟨o, h, w⟩ := e.av b hb
      exact ⟨o, by rw [upd_ne hb']; exact h, w⟩
  len := e.len
  val := fun i w h => by
    obtain ⟨v, h1, h2⟩ := e.val i w h
    exact ⟨v, h1, h2.upd hA hl (fun _ z => by cases z) (fun _ _ z => by cases z)⟩
  m := ⟨e.m.inA, e.m.nst, fun b hb => by
    by_cases hb' : b = D
    · rw [hb']
      exact ⟨_, upd_same, .inl ⟨_, rfl⟩⟩
    · obtain ⟨xs, h, w⟩ := e.m.ls b hb
      exact ⟨xs, by rw [upd_ne hb']; exact h, w⟩⟩
  own := fun i ws h => by
    obtain ⟨h1, h3, vs, h4, h5⟩ := e.own i ws h
    exact ⟨h1, h3, vs, by rw [upd_ne (ho i ws h)]; exact h4, h5.upd hA hl (fun _ z => by cases z) (fun _ _ z => by cases z)⟩
  inj := e.inj
  odc := fun i ws h => by
    obtain ⟨h1, h3, vs, h4, h5⟩ := e.odc i ws h
    have ne : oa i ≠ D := fun z => by
      rw [z, hl] at h4
      cases h4
    exact ⟨h1, h3, vs, by rw [upd_ne ne]; exact h4, h5.1, h5.2.upd hA hl (fun _ z => by cases z) (fun _ _ z => by cases z)⟩
  ido := e.ido
  odt := fun i ws h => by
    obtain ⟨h1, h3, vs, h4, h5⟩ := e.odt i ws h
    have ne : oa i ≠ D := fun z => by
      rw [z, hl] at h4
      cases h4
    exact ⟨h1, h3, vs, by rw [upd_ne ne]; exact h4, h5.1, h5.2.upd hA hl (fun _ z => by cases z) (fun _ _ z => by cases z)⟩
  idt := e.idt
  tT := e.tT
  cC := e.cC
  kK := e.kK
end
/-- a step, then an object that is new since then is changed -/
theorem Step.past {c : Cc} {H H' : Hp} {D : Addr} {u : HO} (st : Step c H H') (n : H D = none) : Step c H (L2.upd H' D u) := ⟨fun b o hb h1 h2 h3 => by
    rw [upd_ne (ne_of_none hb n)]
    exact st.keep b o hb h1 h2 h3, fun b ps hb => by
    rw [upd_ne (ne_of_none hb n)]
    exact st.tbl b ps hb, fun b C dx fs hb => by
    obtain ⟨gs, q⟩ := st.ins b C dx fs hb
    exact ⟨gs, by rw [upd_ne (ne_of_none hb n)]; exact q⟩⟩
def noX {α : Type} : T α → T α
  | .ok a => .ok a
  | .exc _ _ => .bad
  | .bad => .bad
  | .ask n k => .ask n fun i => noX (k i)
  | .get i k => .get i fun c fs => noX (k c fs)
  | .put i fs k => .put i fs (noX k)
  | .new c fs k => .new c fs fun i => noX (k i)
theorem noX_all {α : Type} {P : Dw → α → Prop} {E E' : Dw → Nat → List W → Prop} {t : T α} {d : Dw} (h : (noX t).AllW P E d) : t.AllW P E' d := by
  induction t generalizing d with
  | ok a => exact h
  | exc _ _ => exact h.elim
  | bad => exact h
  | ask n k ih =>
    obtain ⟨e, he, x⟩ := h
    exact ⟨e, he, fun i hi => ih i (x i hi)⟩
  | get i k ih =>
    obtain ⟨c, fs, e, x⟩ := h
    exact ⟨c, fs, e, ih c fs x⟩
  | put i fs k ih =>
    obtain ⟨c, gs, e, x⟩ := h
    exact ⟨c, gs, e, ih x⟩
  | new c fs k ih => exact ih _ h
def wipeE (ρ : En) : List Nat → En
  | [] => ρ
  | v :: vs => (wipeE ρ vs).set v .un
def compL (G : W → En → Option En) (tt : En → T Bool) (fe : En → T W) (ρ : En) : List W → T (List W)
  | [] => .ok []
  | w :: ws => match G w ρ with
    | none => .bad
    | some ρ1 => (noX (tt ρ1)).bind fun b => if b then (noX (fe ρ1)).bind fun x => (compL G tt fe ρ ws).bind fun xs => .ok (x :: xs) else compL G tt fe ρ ws
def fComp (vs : List Nat) (fi : En → T (List W)) (G : W → En → Option En) (tt : En → T Bool) (fe : En → T W) : En → T W := fun ρ => (fi ρ).bind fun ws => if sizeOk ws then (compL G tt fe (wipeE ρ vs) ws).bind fun xs => .ok (.lst xs) else .bad
abbrev noW : WX := fun _ _ _ _ => False
section
variable {K : PySem.W.Frag} {c : Cc} {d : Dw} {oa : Nat → Addr} {ρ : En} {σ : St} {H : Hp}
theorem EnvOk.un {v : Nat} (e : EnvOk K Γ c d oa ρ σ H) : EnvOk K Γ c d oa (ρ.set v .un) (σ.set v none) H where
  ok := e.ok
  st := e.st
  av := e.av
  len := by rw [List.length_set, List.length_set]; exact e.len
  val := fun j x h => by
    rcases getElem?_set_or h with ⟨ej, ex⟩ | ⟨n, h'⟩
    · cases ex
    · obtain ⟨u, h1, h2⟩ := e.val j x h'
      exact ⟨u, by rw [List.getElem?_set_ne (Ne.symm n)]; exact h1, h2⟩
  m := e.m
  own := fun j x h => by
    rcases getElem?_set_or h with ⟨ej, ex⟩ | ⟨n, h'⟩
    · cases ex
    · obtain ⟨h1, h3, h4⟩ := e.own j x h'
      exact ⟨h1, by rw [List.getElem?_set_ne (Ne.symm n)]; exact h3, h4⟩
  inj := fun a b x y h1 h2 => by
    rcases getElem?_set_or h1 with ⟨ej, ex⟩ | ⟨n1, h1'⟩
    · cases ex
    · rcases getElem?_set_or h2 with ⟨ej, ex⟩ | ⟨n2, h2'⟩
      · cases ex
      · exact e.inj a b x y h1' h2'
  odc := fun j x h => by
    rcases getElem?_set_or h with ⟨ej, ex⟩ | ⟨n, h'⟩
    · cases ex
    · obtain ⟨h1, h3, h4⟩ := e.odc j x h'
      exact ⟨h1, by rw [List.getElem?_set_ne (Ne.symm n)]; exact h3, h4⟩
  ido := fun a b x y h1 h2 => by
    rcases getElem?_set_or h1 with ⟨ej, ex⟩ | ⟨n1, h1'⟩
    · cases ex
    · rcases getElem?_set_or h2 with ⟨ej, ex⟩ | ⟨n2, h2'⟩
      · cases ex
      · exact e.ido a b x y h1' h2'
  odt := fun j x h => by
    rcases getElem?_set_or h with ⟨ej, ex⟩ | ⟨n, h'⟩
    · cases ex
    · obtain ⟨h1, h3, h4⟩ := e.odt j x h'
      exact ⟨h1, by rw [List.getElem?_set_ne (Ne.symm n)]; exact h3, h4⟩
  idt := fun a b x y h1 h2 => by
    rcases getElem?_set_or h1 with ⟨ej, ex⟩ | ⟨n1, h1'⟩
    · cases ex
    · rcases getElem?_set_or h2 with ⟨ej, ex⟩ | ⟨n2, h2'⟩
      · cases ex
      · exact e.idt a b x y h1' h2'
  tT := e.tT
  cC := e.cC
  kK := e.kK
theorem EnvOk.wipe (e : EnvOk K Γ c d oa ρ σ H) : ∀ vs : List Nat, EnvOk K Γ c d oa (wipeE ρ vs) (L2.wipe σ vs) H
  | [] => e
  | v :: vs => (EnvOk.wipe e vs).un
theorem wipeE_own {j : Nat} {xs : List W} : ∀ {vs : List Nat}, (wipeE ρ vs)[j]? = some (.own xs) → ρ[j]? = some (.own xs)
  | [], h => h
  | v :: vs, h => by
    rcases getElem?_set_or h with ⟨_, ex⟩ | ⟨_, h⟩
    · cases ex
    · exact wipeE_own h
theorem wipe_len (σ : St) : ∀ vs : List Nat, (L2.wipe σ vs).length = σ.length
  | [] => rfl
  | v :: vs => by
    unfold L2.wipe
    rw [List.length_set, wipe_len σ vs]
theorem wipe_at (σ : St) : ∀ (vs : List Nat) (j : Nat), (L2.wipe σ vs)[j]? = if j ∈ vs then (if j < σ.length then some none else none) else σ[j]?
  | [], j => by
    rw [if_neg (by simp)]
    rfl
  | v :: vs, j => by
    unfold L2.wipe
    by_cases e : v = j
    · subst e
      rw [if_pos (List.mem_cons_self ..), List.getElem?_set]
      simp only [if_true, wipe_len]
    · rw [List.getElem?_set_ne e, wipe_at σ vs j]
      have e' : (j ∈ v :: vs) ↔ j ∈ vs := by
        simp only [List.mem_cons]
        exact ⟨fun h => h.elim (fun z => absurd z.symm e) id, .inr⟩
      simp only [e']
theorem wipe_but {ns vs : List Nat} {σ2 : St} (h : ButAt ns (L2.wipe σ vs) σ2) (hs : ∀ i ∈ ns, i ∈ vs) : L2.wipe σ2 vs = L2.wipe σ vs := by
  refine List.ext_getElem? fun j => ?_
  rw [wipe_at, wipe_at]
  have hl : σ2.length = σ.length := by rw [h.1, wipe_len]
  by_cases hj : j ∈ vs
  · rw [if_pos hj, if_pos hj, hl]
  · rw [if_neg hj, if_neg hj, h.2 j (fun z => hj (hs j z)), wipe_at, if_neg hj]
end
section
variable {X : Cx} {E : WX} {elt tg iter : Expr} {ifs : List Expr} {scope : Scope} {own : List (Str × Nat)} {pos : Pos} {fi : En → T (List W)} {ns : List Nat} {G : W → En → Option En} {tt : En → T Bool} {fe : En → T W}
theorem Gr.back {c cm : Cc} {D : Addr} (g : Gr (c.more D) cm) : Gr c { cm with A := c.A } := ⟨g.S, g.ca, g.la, rfl, g.M, g.T, g.C, g.KK, g.O⟩
theorem ObAt.weak {K : PySem.W.Frag} {c c1 : Cc} {H : Hp} {a : Addr} {cl : Nat} {fs : List W} (h : ObAt K c1 H a cl fs) (hS : c1.S = c.S) (hC : c1.C = c.C) (hO : c1.O = c.O) (sub : ∀ b ∈ c.A, b ∈ c1.A) : ObAt K c H a cl fs := h.same rfl fun _ _ r => r.weak hS hC sub hO
theorem StOk.weak {c c1 : Cc} {d : Dw} {H : Hp} (s : StOk c1 d H) (hS : c1.S = c.S) (hca : c1.ca = c.ca) (hla : c1.la = c.la) (hT : c1.T = c.T) (hC : c1.C = c.C) (hK : c1.K = c.K) (hO : c1.O = c.O) (sub : ∀ b ∈ c.A, b ∈ c1.A) (ok : CcOk c) : StOk c d H := by
  obtain ⟨⟨cells, lefts, k, r, h1, h2, h3, h4, h5, h6, h7, h8, h9⟩, ob⟩ := s
  rw [hS, hca, hla] at h1
  rw [hca] at h2
  rw [hla] at h3
  rw [hca, hla] at h8
  rw [hT] at h9
  exact ⟨⟨cells, lefts, k, r, h1, h2, h3, h4, h5, h6, h7, h8, h9⟩, ok, by rw [← hO]; exact ob.len, by rw [← hO]; exact ob.nd, fun i a o q1 q2 => by
    rw [← hK]
    exact (ob.at_ i a o (by rw [hO]; exact q1) q2).weak hS hC hO sub, by rw [← hK]; exact ob.no⟩
theorem StOk.back {c cm : Cc} {d : Dw} {D : Addr} {H : Hp} (g : Gr (c.more D) cm) (ok : CcOk c) (s : StOk cm d H) : StOk { cm with A := c.A } d H := s.weak rfl rfl rfl rfl rfl rfl rfl (fun b hb => by rw [g.A]; exact List.mem_cons_of_mem _ hb) (ok.gr g.back)
theorem Fwd.gr {K : PySem.W.Frag} {c c1 c2 : Cc} {H H1 : Hp} (f : Fwd K c H c1 H1) (g : Gr c1 c2) : Fwd K c H c2 H1 where
  S := g.S.trans f.S
  ca := g.ca.trans f.ca
  la := g.la.trans f.la
  T := g.T.trans f.T
  C := g.C.trans f.C
  KK := g.KK.trans f.KK
  O := f.O.trans g.O
  sub := fun b h n => by
    rw [g.A]
    exact f.sub b h n
  fr := fun b h => by
    rw [g.M] at h
    exact f.fr b h
  step := f.step
  tbl := f.tbl
  rep := fun w v h => (f.rep w v h).gr g
  sq := f.sq
  ins := f.ins
theorem comp_ok (hs : ∀ i ∈ ns, i ∈ own.map (·.2)) : ∀ σ H Q, liftE X.K Γ E (fComp (own.map (·.2)) fi G tt fe) σ H Q → tLc (liftI X.K Γ E fi) (liftG X.K Γ ns G) (liftB X.K Γ noW tt) (liftE X.K Γ noW fe) (own.map (·.2)) σ H Q := fun σ H Q h => by
  obtain ⟨c, d, oa, ρ, e, h⟩ := h
  refine ⟨c, d, oa, ρ, e, T.AllW.imp (fun d1 ws hx => ?_) (fun _ _ _ y => y) (T.allW_bind.mp h)⟩
  intro c1 J H1 st1 so1 jo D nD
  have e1 := e.step st1 so1
  obtain ⟨hz, hx⟩ := T.AllW.ite hx
  have hz := sizeOk_of hz
  generalize hvs : own.map (·.2) = vs at hs hx
  have hx : ((compL G tt fe (wipeE ρ vs) ws).bind fun xs => T.ok (W.lst xs)).AllW (PQ X.K c1 H1 Q) (PX X.K c1 H1 fun cls dx H' => E cls dx σ H') d1 := T.AllW.imp (fun _ _ y => y.later st1) (fun _ _ _ y => y.later st1) hx
  -- the turn's word
  refine ⟨fun i m H' => m = ws.length - i ∧ ∃ cm d' acc us, Gr (c1.more D) cm ∧ Step c1 H1 H' ∧ EnvOk X.K Γ cm d' oa (wipeE ρ vs) (wipe σ vs) H' ∧ H' D = some (.lst us) ∧ RepL X.K cm H' acc us ∧ us.length ≤ i ∧
    ((compL G tt fe (wipeE ρ vs) (ws.drop i)).bind fun xs => T.ok (W.lst (acc ++ xs))).AllW (PQ X.K c1 H1 Q) (PX X.K c1 H1 fun cls dx H' => E cls dx σ H') d',
    ⟨_, rfl, _, d1, [], [], .refl _, .new nD, (e1.more nD).wipe vs, upd_same, .nil, Nat.le_refl _, hx⟩, ?_⟩
  rintro i m H' ⟨rfl, cm, d', acc, us, gm, st', e', hD, ra, hl, h'⟩
  have fw : Fwd X.K c1 H1 cm H' := (Fwd.more nD st' e1.wd).gr gm
  obtain ⟨ji, js⟩ := jo cm H' d' i fw e'.wd
  have nst : D ∉ [cm.S, cm.ca, cm.la] := by
    rw [gm.S, gm.ca, gm.la]
    obtain ⟨⟨cells, lefts, k, r, h1, h2, h3, _⟩, _⟩ := so1
    simp only [List.mem_cons, not_or, List.not_mem_nil, not_false_eq_true, and_true]
    exact ⟨Ne.symm (ne_of_none h1 nD), Ne.symm (ne_of_none h2 nD), Ne.symm (ne_of_none h3 nD)⟩
  have inA : ∀ {ck : Cc}, Gr cm ck → D ∈ ck.A := fun g => by
    rw [g.A, gm.A]
    exact List.mem_cons_self ..
  have nstg : ∀ {ck : Cc}, Gr cm ck → D ∉ [ck.S, ck.ca, ck.la] := fun g => by
    rw [g.S, g.ca, g.la]
    exact nst
  have ho : ∀ (j : Nat) (xs : List W), (wipeE ρ vs)[j]? = some (.own xs) → oa j ≠ D := fun j xs hj => by
    obtain ⟨_, _, zs, h4, _⟩ := e1.own j xs (wipeE_own hj)
    exact ne_of_none h4 nD
  have c1m : ∀ {Ha Hb : Hp} {ck ck' : Cc}, Gr cm ck → SG ck ck' Ha Hb → Step c1 Ha Hb := fun g st => Step.to st.st (g.S.trans gm.S) (g.la.trans gm.la)
  by_cases hi : i < ws.length
  · have hw : ws[i]? = some ws[i] := List.getElem?_eq_getElem hi
    rw [List.drop_eq_getElem_cons hi] at h'
    obtain ⟨jg, jy⟩ := ji _ hw
    refine .inr ⟨jg, fun H2 => ∃ cm d' acc us, Gr (c1.more D) cm ∧ Step c1 H1 H2 ∧ EnvOk X.K Γ cm d' oa (wipeE ρ vs) (wipe σ vs) H2 ∧ H2 D = some (.lst us) ∧ RepL X.K cm H2 acc us ∧ us.length ≤ i + 1 ∧
      ((compL G tt fe (wipeE ρ vs) (ws.drop (i + 1))).bind fun xs => T.ok (W.lst (acc ++ xs))).AllW (PQ X.K c1 H1 Q) (PX X.K c1 H1 fun cls dx H' => E cls dx σ H') d', fun H2 h2 => ⟨ws.length - (i + 1), by omega, rfl, h2⟩, fun x H2 y => ?_⟩
    obtain ⟨st2, so2, rx⟩ := jy x H2 y
    have e2 := e'.step st2 so2
    have keep : ∀ {Ha Hb : Hp} {ck ck' : Cc}, Gr cm ck → SG ck ck' Ha Hb → ∀ {us}, Ha D = some (.lst us) → Hb D = some (.lst us) := fun g st us h => by
      have n0 := nstg g
      simp only [List.mem_cons, not_or] at n0
      exact st.st.keep _ _ h n0.1 n0.2.2.1 nofun
    unfold compL at h'
    cases g : G ws[i] (wipeE ρ vs) with
    | none =>
      rw [g] at h'
      exact h'.elim
    | some ρ1 =>
      rw [g] at h'
      refine ⟨cm, d', oa, wipeE ρ vs, ws[i], ρ1, e2, rx, g, fun σ3 b3 e3 => ⟨wipe_but b3 hs, cm, d', oa, ρ1, e3, ?_⟩⟩
      refine noX_all (T.AllW.imp (fun d4 b hb => ?_) (fun _ _ _ y => y) (T.allW_bind.mp (T.allW_bind.mp h')))
      intro c4 H4 st4 so4
      have e4 := e3.step st4 so4
      have e4' := e2.step st4 so4
      have hD4 := keep st4.g (.refl c4 H4) (keep (.refl cm) st4 (keep (.refl cm) st2 hD))
      have ra4 := (ra.step st2 e'.st e'.ok).step st4 e2.st e2.ok
      have stt4 : Step c1 H1 H4 := st'.trans ((c1m (.refl cm) st2).trans (c1m (.refl cm) st4))
      cases b with
      | false => exact iteF ⟨c4, d4, acc, us, gm.trans st4.g, stt4, e4', hD4, ra4, Nat.le_succ_of_le hl, T.allW_bind.mpr (show (compL G tt fe (wipeE ρ vs) (ws.drop (i + 1))).AllW _ _ d4 from hb)⟩
      | true =>
        refine iteT ⟨c4, d4, oa, ρ1, e4, ?_⟩
        refine noX_all (T.AllW.imp (fun d5 w5 h5 => ?_) (fun _ _ _ y => y) (T.allW_bind.mp (show ((noX (fe ρ1)).bind fun x => (compL G tt fe (wipeE ρ vs) (ws.drop (i + 1))).bind fun xs => .ok (x :: xs)).AllW _ _ d4 from hb)))
        intro c5 v5 H5 st5 so5 r5
        have e5 := e4'.step st5 so5
        have g5 := st4.g.trans st5.g
        have hD5 := keep st4.g st5 hD4
        have ra5 := ra4.step st5 e4'.st e4'.ok
        refine ⟨us, hD5, by omega, c5, d5, acc ++ [w5], us ++ [v5], gm.trans g5, (stt4.trans (c1m st4.g st5)).past nD, e5.upd (inA g5) (nstg g5) hD5 ho, upd_same, ?_, by rw [List.length_append]; exact Nat.succ_le_succ hl, ?_⟩
        · exact (ra5.append (.cons r5 .nil)).upd (inA g5) hD5 (fun _ z => by cases z) (fun _ _ z => by cases z)
        · have h6 := T.allW_bind.mp h5
          refine T.allW_bind.mpr (T.AllW.imp (fun d6 xs h7 => ?_) (fun _ _ _ y => y) h6)
          have e7 : acc ++ [w5] ++ xs = acc ++ w5 :: xs := by simp
          rw [e7]
          exact h7
  · rw [List.drop_eq_nil_of_le (by omega)] at h'
    refine .inl ⟨js (by omega), ?_⟩
    have h8 : PQ X.K c1 H1 Q d' (.lst (acc ++ [])) := h'
    rw [List.append_nil] at h8
    refine h8 _ H' ⟨gm.back, st'⟩ (e'.st.back gm e1.ok) (.lst (c := { cm with A := c1.A }) (e1.wd.fresh nD) hD ?_)
    exact RepL.weak (c := { cm with A := c1.A }) (c1 := cm) rfl rfl (fun b hb => by rw [gm.A]; exact List.mem_cons_of_mem _ hb) ra
/-- the clause's tests -/
def TrTs (Γ : Cl) (X : Cx) (ifs : List Expr) (t : En → T Bool) : Prop := PTs X ifs (liftB X.K Γ noW t)
def fYes : En → T Bool := fun _ => .ok true
theorem trt_nil {X : Cx} : TrTs Γ X [] fYes := ⟨fun pins s σ H Q I h => pts_nil.run pins s σ H Q I (by
  obtain ⟨c, d, oa, ρ, e, h⟩ := h
  exact h H (.refl _ H) e.st)⟩
theorem trt_one {X : Cx} {e : Expr} {t : En → T Bool} (h : TrB Γ X noW e t) : TrTs Γ X [e] t := pts_one h
theorem tr_lc (hc : X.calm = true) (hN : X.N.Nodup) (hi : TrI Γ X E tg iter fi) (ok : BlkOk X.N X.env.scope scope own) (hs : ∀ i ∈ ns, i ∈ own.map (·.2))
    (hg : ∀ (s : Shared) (H : Hp) (C : Addr) (cl : List (Str × Addr)) (fp : List Addr), TrG Γ (X.blk s H scope (compEnvC scope cl C X.env) fp) tg ns G) (ht : ∀ (s : Shared) (H : Hp) (C : Addr) (cl : List (Str × Addr)) (fp : List Addr), TrTs Γ (X.blk s H scope (compEnvC scope cl C X.env) fp) ifs tt)
    (he : ∀ (s : Shared) (H : Hp) (C : Addr) (cl : List (Str × Addr)) (fp : List Addr), TrE Γ (X.blk s H scope (compEnvC scope cl C X.env) fp) noW elt fe) (hf : ∀ x, foldedSetIterable iter X.env x = pure x := by intro _; rfl) :
    TrE Γ X E (.ListComp elt [⟨tg, iter, ifs, 0⟩] scope pos) (fComp (own.map (·.2)) fi G tt fe) := pe_imp (pe_lc (g := liftG X.K Γ ns G) (tt := liftB X.K Γ noW tt) (te := liftE X.K Γ noW fe) hc hN hi ok hg ht he hf) (comp_ok hs)
end
def startE (n : Nat) (ws : List W) : En := ws.map Sl.val ++ List.replicate (n - ws.length) .un
def endOf : Fl × En → T W
  | (.rt w, _) => .ok w
  | (.nx, _) => .ok .non
  | _ => .bad
def defF (n np : Nat) (g : En → T (Fl × En)) : List W → T W := fun ws => if ws.length == np then (g (startE n ws)).bind endOf else .bad
/-- a frame begins with no list of its own -/
abbrev Cc.bare (c : Cc) : Cc := { c with M := [] }
theorem start_ok {K : PySem.W.Frag} {c : Cc} {d : Dw} {H : Hp} {ws : List W} {vs : List V} {N : List Str} (wd : Wd c d H) (hT : c.T = tabL K ∧ c.K = K) (hM : c.M = []) (r : RepL K c H ws vs) : EnvOk K c.C c d (fun _ => 0) (startE N.length ws) (L2.start N vs) H where
  ok := wd.ok
  st := wd.st
  av := wd.av
  len := by
    unfold startE L2.start
    rw [List.length_append, List.length_append, List.length_map, List.length_map, List.length_replicate, List.length_replicate, r.length]
  val := fun i w h => by
    unfold startE at h
    unfold L2.start
    rw [List.getElem?_append] at h
    split at h
    · rename_i hi
      rw [List.length_map] at hi
      rw [List.getElem?_map] at h
      cases hw : ws[i]? with
      | none =>
        rw [hw] at h
        cases h
      | some w' =>
        rw [hw] at h
        cases h
        obtain ⟨v, h1, h2⟩ := r.get hw
        refine ⟨v, ?_, h2⟩
        rw [List.getElem?_append_left (by rw [List.length_map, ← r.length]; exact hi), List.getElem?_map, h1]
        rfl
    · rw [List.getElem?_replicate] at h
      split at h <;> cases h
  m := ⟨fun b hb => (by rw [hM] at hb; cases hb), fun b hb => (by rw [hM] at hb; cases hb), fun b hb => (by rw [hM] at hb; cases hb)⟩
  own := fun i w h => by
    unfold startE at h
    rw [List.getElem?_append] at h
    split at h
    · rw [List.getElem?_map] at h
      cases hw : ws[i]? with
      | none =>
        rw [hw] at h
        cases h
      | some w' =>
        rw [hw] at h
        cases h
    · rw [List.getElem?_replicate] at h
      split at h <;> cases h
  inj := fun i j x y h _ => by
    unfold startE at h
    rw [List.getElem?_append] at h
    split at h
    · rw [List.getElem?_map] at h
      cases hw : ws[i]? with
      | none =>
        rw [hw] at h
        cases h
      | some w' =>
        rw [hw] at h
        cases h
    · rw [List.getElem?_replicate] at h
      split at h <;> cases h
  odc := fun i w h => by
    unfold startE at h
    rw [List.getElem?_append] at h
    split at h
    · rw [List.getElem?_map] at h
      cases hw : ws[i]? with
      | none =>
        rw [hw] at h
        cases h
      | some w' =>
        rw [hw] at h
        cases h
    · rw [List.getElem?_replicate] at h
      split at h <;> cases h
  ido := fun i j x y h _ => by
    unfold startE at h
    rw [List.getElem?_append] at h
    split at h
    · rw [List.getElem?_map] at h
      cases hw : ws[i]? with
      | none =>
        rw [hw] at h
        cases h
      | some w' =>
        rw [hw] at h
        cases h
    · rw [List.getElem?_replicate] at h
      split at h <;> cases h
  odt := fun i w h => by
    unfold startE at h
    rw [List.getElem?_append] at h
    split at h
    · rw [List.getElem?_map] at h
      cases hw : ws[i]? with
      | none =>
        rw [hw] at h
        cases h
      | some w' =>
        rw [hw] at h
        cases h
    · rw [List.getElem?_replicate] at h
      split at h <;> cases h
  idt := fun i j x y h _ => by
    unfold startE at h
    rw [List.getElem?_append] at h
    split at h
    · rw [List.getElem?_map] at h
      cases hw : ws[i]? with
      | none =>
        rw [hw] at h
        cases h
      | some w' =>
        rw [hw] at h
        cases h
    · rw [List.getElem?_replicate] at h
      split at h <;> cases h
  tT := hT.1
  cC := rfl
  kK := hT.2
/-- back to the caller's world, with the objects that came -/
abbrev Cc.wide (c : Cc) (c' : Cc) : Cc := { c with O := c'.O }
theorem Fwd.wide {K : PySem.W.Frag} {c c' : Cc} {H H' : Hp} (fw : Fwd K c.bare H c' H') : Gr c (c.wide c') := ⟨rfl, rfl, rfl, rfl, rfl, rfl, rfl, rfl, fw.O⟩
theorem StOk.to {K : PySem.W.Frag} {c c' : Cc} {d : Dw} {H H' : Hp} (so : StOk c' d H') (fw : Fwd K c.bare H c' H') (ok : CcOk c) : StOk (c.wide c') d H' := so.weak fw.S fw.ca fw.la fw.T fw.C fw.KK rfl (fun b hb => fw.sub b hb fun z => by cases z) (ok.gr fw.wide)
theorem Fwd.back {K : PySem.W.Frag} {c c' : Cc} {H H' : Hp} (fw : Fwd K c.bare H c' H') : SG c (c.wide c') H H' := ⟨fw.wide, fun b o hb h1 h2 h3 => fw.step b o hb h1 h2 (fun z => (by cases z)) h3, fun b ps hb => fw.tbl b ps hb fun z => (by cases z), fun b C dx fs hb => fw.ins b C dx fs hb fun z => (by cases z)⟩
theorem Rep.back {K : PySem.W.Frag} {c c' : Cc} {H H' : Hp} {w : W} {v : V} (fw : Fwd K c.bare H c' H') (r : Rep K c' H' w v) : Rep K (c.wide c') H' w v := Rep.weak (c := c.wide c') (c1 := c') fw.S fw.C (fun b hb => fw.sub b hb fun z => by cases z) r
theorem RepL.back {K : PySem.W.Frag} {c c' : Cc} {H H' : Hp} {w : List W} {v : List V} (fw : Fwd K c.bare H c' H') (r : RepL K c' H' w v) : RepL K (c.wide c') H' w v := RepL.weak (c := c.wide c') (c1 := c') fw.S fw.C (fun b hb => fw.sub b hb fun z => by cases z) r
theorem StOk.bare {c : Cc} {d : Dw} {H : Hp} (s : StOk c d H) : StOk c.bare d H := s.weak rfl rfl rfl rfl rfl rfl rfl (fun _ h => h) ⟨s.2.ok.inS, s.2.ok.inla, s.2.ok.inca⟩
/-- an error that leaves a def -/
theorem PX.ofBare {K : PySem.W.Frag} {c : Cc} {H : Hp} {E : XK} {d : Dw} {n : Nat} {fs : List W} (ok : CcOk c) (h : PX K c H E d n fs) : PXs K c.bare H E d n fs := fun c' cls dx H' fw so r => by
  obtain ⟨r1, dd, vs, r2, r3, r4, r5⟩ := r
  exact h cls dx H' fw.back (so.to fw ok) ⟨r1, dd, vs, r2, r3, r4, RepL.back fw r5⟩
theorem SpF.len {K : PySem.W.Frag} {F : List W → T W} {np : Nat} (hF : ∀ ws, ws.length ≠ np → F ws = .bad) : ∀ vs H Q E, SpF K F vs H Q E → vs.length = np := fun vs H Q E h => by
  obtain ⟨c, d, ws, hT, wd, r, h⟩ := h
  by_cases e : ws.length = np
  · rw [← r.length]
    exact e
  · rw [hF ws e] at h
    exact h.elim
/-- THE RULE: a def of the text does what its body's run does -/
theorem fn_tr {P : Program} {w : World} {K : PySem.W.Frag} {mg : Str → Option Value} {base : Heap} {k : Nat} {f : Addr} {fd : FuncData} {x qual : Str} {params : Arguments} {body : List Stmt} {scope : Scope} {N ps : List Str} {g : En → T (Fl × En)}
    (F : FunD K x qual params body scope [] [] f fd) (S : FnScope N ps scope)
    (hb : ∀ (Γ : Cl) (cdv : Value) (A : Around) (outer : List PySem.Env) (s : Shared) (H : Hp) (E : XK), Room k (A.deeper (envOfC qual scope s.heap.objs.size f cdv)) → TrSs Γ (cxOf (L2.CX P w) P w K mg base N qual scope f cdv A outer s H E) E body g) :
    FnOk P w K mg base (L2.CX P w) (k + 1) f fd ps (SpF K (defF N.length ps.length g)) := by
  refine F.ok S (SpF.len fun ws h => ?_) fun cdv A outer s H vs Q E hr h => ?_
  · unfold defF
    rw [if_neg]
    intro z
    exact h (eq_of_beq z)
  · obtain ⟨c, d, ws, hT, wd, r, h⟩ := h
    obtain ⟨_, h⟩ := T.AllW.ite h
    refine ⟨_, hb c.C cdv A outer s H E hr, ?_⟩
    refine ⟨c.bare, d, fun _ => 0, startE N.length ws, start_ok (c := c.bare) ⟨⟨wd.ok.inS, wd.ok.inla, wd.ok.inca⟩, wd.st.bare, wd.av⟩ hT rfl (RepL.weak (c := c.bare) (c1 := c) rfl rfl (fun _ h => h) r), T.AllW.imp (fun d1 x hx => ?_) (fun _ _ _ y => y.ofBare wd.ok) (T.allW_bind.mp h)⟩
    obtain ⟨fl, ρ'⟩ := x
    intro c' oa' σ' H' fw e'
    have so := e'.st.to fw wd.ok
    cases fl with
    | nx => exact hx _ H' fw.back so .non
    | rt w => exact fun v rv => hx v H' fw.back so (Rep.back fw rv)
    | bk => exact hx.elim
    | ct => exact hx.elim
    | rn ws => exact hx.elim
end PF
namespace PF
open PySem PySem.Spec PyProof.Rows L2
@[irreducible] def sz2 (a b : Nat) : Bool := decide (a + b ≤ 16777216)
theorem sz2_of {a b : Nat} (h : sz2 a b = true) : a + b ≤ 16777216 := by
  unfold sz2 at h
  exact of_decide_eq_true h
def addW : W → W → T W
  | .int i, .int j => .ok (.int (i + j))
  | .str x, .str y => if sz2 x.length y.length then .ok (.str (x ++ y)) else .bad
  | .tup xs, .tup ys => if sz2 xs.length ys.length then .ok (.tup (xs ++ ys)) else .bad
  | .lst xs, .lst ys => if sz2 xs.length ys.length then .ok (.lst (xs ++ ys)) else .bad
  | _, _ => .bad
def subW : W → W → T W
  | .int i, .int j => .ok (.int (i - j))
  | _, _ => .bad
@[irreducible] def mulOk (i j : Int) : Bool := decide (i.natAbs.log2 + j.natAbs.log2 < 1000000)
def mulW : W → W → T W
  | .int i, .int j => if mulOk i j then .ok (.int (i * j)) else .bad
  | _, _ => .bad
@[irreducible] def divOk (j : Int) : Bool := decide (0 < j) && decide (j.natAbs.log2 < 9000)
def fdivW : W → W → T W
  | .int i, .int j => if divOk j then .ok (.int (i / j)) else .bad
  | _, _ => .bad
def modW : W → W → T W
  | .int i, .int j => if decide (0 < j) then .ok (.int (i % j)) else .bad
  | _, _ => .bad
@[irreducible] def powOk (i j : Int) : Bool := decide (0 ≤ j ∧ j ≤ 1000000 ∧ i.natAbs < 2 ^ 64)
def ltW : W → W → T W
  | .int i, .int j => .ok (.bl (decide (i < j)))
  | _, _ => .bad
def leW : W → W → T W
  | .int i, .int j => .ok (.bl (decide (i ≤ j)))
  | _, _ => .bad
def gtW : W → W → T W
  | .int i, .int j => .ok (.bl (decide (j < i)))
  | _, _ => .bad
def geW : W → W → T W
  | .int i, .int j => .ok (.bl (decide (j ≤ i)))
  | _, _ => .bad
section
variable {K : PySem.W.Frag}
theorem RepL.sizes {c : Cc} {H : Hp} {xs ys : List W} {us vs : List V} (r : RepL K c H xs us) (q : RepL K c H ys vs) (h : sz2 xs.length ys.length = true) : us.length + vs.length ≤ sizeLine := by
  rw [sizeLine_eq, ← r.length, ← q.length]
  exact sz2_of h
theorem sem_int0 {g : W → W → T W} {f : Int → Int → V} {k : Int → Int → W} (hk : ∀ c H i j, Rep K c H (k i j) (f i j)) (h : ∀ x y, (∃ i j, x = .int i ∧ y = .int j ∧ g x y = .ok (k i j)) ∨ g x y = .bad) : Sem2 K (rI0 f) g := fun c d H x y v u Q E' wd rx ry q => by
  rcases h x y with ⟨i, j, rfl, rfl, e⟩ | e
  · rw [e] at q
    cases rx
    cases ry
    exact ⟨i, j, rfl, rfl, PQ.now wd q (hk c H i j)⟩
  · rw [e] at q
    exact q.elim
theorem sem_intC {g : W → W → T W} {C : Int → Int → Prop} {B : Int → Int → Bool} {f : Int → Int → V} {k : Int → Int → W} (hk : ∀ c H i j, Rep K c H (k i j) (f i j)) (hC : ∀ i j, B i j = true → C i j) (h : ∀ x y, (∃ i j, x = .int i ∧ y = .int j ∧ g x y = if B i j then .ok (k i j) else .bad) ∨ g x y = .bad) : Sem2 K (rI C f) g := fun c d H x y v u Q E' wd rx ry q => by
  rcases h x y with ⟨i, j, rfl, rfl, e⟩ | e
  · rw [e] at q
    cases rx
    cases ry
    obtain ⟨hb, q⟩ := T.AllW.ite q
    exact ⟨i, j, rfl, rfl, hC i j hb, PQ.now wd q (hk c H i j)⟩
  · rw [e] at q
    exact q.elim
theorem sem_or1 {r r' : R2} {g g1 g2 : W → W → T W} (h1 : Sem2 K r g1) (h2 : Sem2 K r' g2) (h : ∀ x y, g x y = g1 x y ∨ g x y = g2 x y) : Sem2 K (fun x y H Q => r x y H Q ∨ r' x y H Q) g := fun c d H x y v u Q E' wd rx ry q => by
  rcases h x y with e | e
  · rw [e] at q
    exact .inl (h1 c d H x y v u Q E' wd rx ry q)
  · rw [e] at q
    exact .inr (h2 c d H x y v u Q E' wd rx ry q)
def addI : W → W → T W
  | .int i, .int j => .ok (.int (i + j))
  | _, _ => .bad
def addS : W → W → T W
  | .str x, .str y => if sz2 x.length y.length then .ok (.str (x ++ y)) else .bad
  | _, _ => .bad
def addT : W → W → T W
  | .tup xs, .tup ys => if sz2 xs.length ys.length then .ok (.tup (xs ++ ys)) else .bad
  | _, _ => .bad
def addL : W → W → T W
  | .lst xs, .lst ys => if sz2 xs.length ys.length then .ok (.lst (xs ++ ys)) else .bad
  | _, _ => .bad
theorem sem_addI : Sem2 K (rI0 fun i j => .int (i + j)) addI := sem_int0 (k := fun i j => .int (i + j)) (fun _ _ _ _ => .int _) fun x y => by
  cases x <;> cases y <;> first | exact .inl ⟨_, _, rfl, rfl, rfl⟩ | exact .inr rfl
theorem sem_addS : Sem2 K (fun x y H Q => ∃ i j, x = .str i ∧ y = .str j ∧ i.length + j.length ≤ sizeLine ∧ Q (.str (i ++ j)) H) addS := fun c d H x y v u Q E' wd rx ry q => by
  cases rx <;> try exact q.elim
  cases ry <;> try exact q.elim
  obtain ⟨hz, q⟩ := T.AllW.ite q
  exact ⟨_, _, rfl, rfl, by rw [sizeLine_eq]; exact sz2_of hz, PQ.now wd q (.str _)⟩
theorem sem_addT : Sem2 K (rCatA K) addT := fun c d H x y v u Q E' wd rx ry q => by
  cases rx <;> try exact q.elim
  cases ry <;> try exact q.elim
  rename_i a xs ws h1 r1 b ys us h2 r2
  obtain ⟨hz, q⟩ := T.AllW.ite q
  refine ⟨_, _, _, _, rfl, rfl, h1, h2, r1.sizes r2 hz, fun e => ?_, fun _ e => ?_, fun _ _ p n => PQ.tup wd q (r1.append r2) n⟩
  · subst e
    cases r1
    exact PQ.now wd q (.tup h2 r2)
  · subst e
    cases r2
    rw [List.append_nil] at q
    exact PQ.now wd q (.tup h1 r1)
theorem sem_addL : Sem2 K rCat addL := fun c d H x y v u Q E' wd rx ry q => by
  cases rx <;> try exact q.elim
  cases ry <;> try exact q.elim
  rename_i a xs ws n1 h1 r1 b ys us n2 h2 r2
  obtain ⟨hz, q⟩ := T.AllW.ite q
  exact ⟨_, _, _, _, rfl, rfl, h1, h2, r1.sizes r2 hz, fun p n => PQ.lst wd q (r1.append r2) n⟩
/-- a + b of ints, texts, tuples, lists -/
abbrev rAddW (K : PySem.W.Frag) : R2 := fun x y H Q => rI0 (fun i j => .int (i + j)) x y H Q ∨ ((∃ i j, x = .str i ∧ y = .str j ∧ i.length + j.length ≤ sizeLine ∧ Q (.str (i ++ j)) H) ∨ (rCatA K x y H Q ∨ rCat x y H Q))
def addX : W → W → T W
  | .tup xs, y => addT (.tup xs) y
  | x, y => addL x y
def addY : W → W → T W
  | .str xs, y => addS (.str xs) y
  | x, y => addX x y
theorem addW_eq (x y : W) : addW x y = addI x y ∨ addW x y = addY x y := by
  cases x <;> cases y <;> first | exact .inl rfl | exact .inr rfl
theorem sem_add : Sem2 K (rAddW K) addW := sem_or1 sem_addI (sem_or1 (g := addY) sem_addS (sem_or1 (g := addX) sem_addT sem_addL fun x y => by
    cases x <;> first | exact .inr rfl | exact .inl rfl) fun x y => by
    cases x <;> first | exact .inr rfl | exact .inl rfl) addW_eq
theorem sem_sub : Sem2 K (rI0 fun i j => .int (i - j)) subW := sem_int0 (k := fun i j => .int (i - j)) (fun _ _ _ _ => .int _) fun x y => by
  cases x <;> cases y <;> first | exact .inl ⟨_, _, rfl, rfl, rfl⟩ | exact .inr rfl
theorem sem_mul : Sem2 K (rI CMulW fun i j => .int (i * j)) mulW := sem_intC (B := mulOk) (k := fun i j => .int (i * j)) (fun _ _ _ _ => .int _) (fun i j h => by
    unfold mulOk at h
    show i.natAbs.log2 + j.natAbs.log2 < 1000000
    exact of_decide_eq_true h) fun x y => by
  cases x <;> cases y <;> first | exact .inl ⟨_, _, rfl, rfl, rfl⟩ | exact .inr rfl
theorem sem_mod : Sem2 K (rI (fun _ j => 0 < j) fun i j => .int (i % j)) modW := sem_intC (B := fun _ j => decide (0 < j)) (k := fun i j => .int (i % j)) (fun _ _ _ _ => .int _) (fun i j h => of_decide_eq_true h) fun x y => by
  cases x <;> cases y <;> first | exact .inl ⟨_, _, rfl, rfl, rfl⟩ | exact .inr rfl
theorem sem_lt : Sem2 K (rI0 fun i j => .bl (decide (i < j))) ltW := sem_int0 (k := fun i j => .bl (decide (i < j))) (fun _ _ _ _ => .bl _) fun x y => by
  cases x <;> cases y <;> first | exact .inl ⟨_, _, rfl, rfl, rfl⟩ | exact .inr rfl
theorem sem_le : Sem2 K (rI0 fun i j => .bl (decide (i ≤ j))) leW := sem_int0 (k := fun i j => .bl (decide (i ≤ j))) (fun _ _ _ _ => .bl _) fun x y => by
  cases x <;> cases y <;> first | exact .inl ⟨_, _, rfl, rfl, rfl⟩ | exact .inr rfl
theorem sem_gt : Sem2 K (rI0 fun i j => .bl (decide (j < i))) gtW := sem_int0 (k := fun i j => .bl (decide (j < i))) (fun _ _ _ _ => .bl _) fun x y => by
  cases x <;> cases y <;> first | exact .inl ⟨_, _, rfl, rfl, rfl⟩ | exact .inr rfl
end
section
variable {X : Cx}
theorem op_addW : OpR X (binaryOp .Add) (rAddW X.K) := op_add.or (op_add_str.or (op_catA.or op_cat))
end
mutual
def W.toD : W → Option PyData
  | .non => some .none
  | .bl b => some (.bool b)
  | .int i => some (.int i)
  | .str x => some (.str x)
  | .tup ws => (toDs ws).map .tuple
  | .lst ws => (toDs ws).map .list
  | _ => none
def toDs : List W → Option (List PyData)
  | [] => some []
  | w :: ws => match W.toD w, toDs ws with
    | some d, some ds => some (d :: ds)
    | _, _ => none
end
section
variable {K : PySem.W.Frag} {c : Cc} {H : Hp}
theorem toD_tup {ws : List W} {d : PyData} (e : (W.tup ws).toD = some d) : ∃ ds, toDs ws = some ds ∧ d = .tuple ds := by
  unfold W.toD at e
  cases q : toDs ws with
  | none =>
    rw [q] at e
    cases e
  | some ds =>
    rw [q] at e
    exact ⟨ds, rfl, (Option.some.inj e).symm⟩
theorem toD_lst {ws : List W} {d : PyData} (e : (W.lst ws).toD = some d) : ∃ ds, toDs ws = some ds ∧ d = .list ds := by
  unfold W.toD at e
  cases q : toDs ws with
  | none =>
    rw [q] at e
    cases e
  | some ds =>
    rw [q] at e
    exact ⟨ds, rfl, (Option.some.inj e).symm⟩
theorem toDs_cons {w : W} {ws : List W} {ds : List PyData} (e : toDs (w :: ws) = some ds) : ∃ d es, w.toD = some d ∧ toDs ws = some es ∧ ds = d :: es := by
  unfold toDs at e
  split at e
  · rename_i d es h1 h2
    exact ⟨d, es, h1, h2, (Option.some.inj e).symm⟩
  · cases e
theorem toD_non {d : PyData} (e : W.non.toD = some d) : d = .none := by
  unfold W.toD at e
  exact (Option.some.inj e).symm
theorem toD_bl {b : Bool} {d : PyData} (e : (W.bl b).toD = some d) : d = .bool b := by
  unfold W.toD at e
  exact (Option.some.inj e).symm
theorem toD_int {b : Int} {d : PyData} (e : (W.int b).toD = some d) : d = .int b := by
  unfold W.toD at e
  exact (Option.some.inj e).symm
theorem toD_str {b : Str} {d : PyData} (e : (W.str b).toD = some d) : d = .str b := by
  unfold W.toD at e
  exact (Option.some.inj e).symm
theorem toD_dct {ks : List Key} {ws : List W} {d : PyData} (e : (W.dct ks ws).toD = some d) : False := by
  unfold W.toD at e
  cases e
theorem toD_scr {n : Nat} {d : PyData} (e : (W.scr n).toD = some d) : False := by
  unfold W.toD at e
  cases e
theorem toD_stt {d : PyData} (e : W.stt.toD = some d) : False := by
  unfold W.toD at e
  cases e
theorem toD_lam {x : Str} {p : List Nat} {d : PyData} (e : (W.lam x p).toD = some d) : False := by
  unfold W.toD at e
  cases e
theorem toD_clo {x : Str} {p : List Nat} {ws : List W} {d : PyData} (e : (W.clo x p ws).toD = some d) : False := by
  unfold W.toD at e
  cases e
theorem toD_exo {n : Nat} {ws : List W} {d : PyData} (e : (W.exo n ws).toD = some d) : False := by
  unfold W.toD at e
  cases e
theorem toD_obj {n : Nat} {d : PyData} (e : (W.obj n).toD = some d) : False := by
  unfold W.toD at e
  cases e
theorem toD_dcu {n : List (List Key)} {ws : List W} {d : PyData} (e : (W.dcu n ws).toD = some d) : False := by
  unfold W.toD at e
  cases e
theorem toD_key {n : List Key} {d : PyData} (e : (W.key n).toD = some d) : False := by
  unfold W.toD at e
  cases e
mutual
theorem Rep.dp {w : W} {v : V} (r : Rep K c H w v) : ∀ {d : PyData}, w.toD = some d → Dp K H v d := by
  intro d e
  cases r with
  | non => rw [toD_non e]; exact .non
  | bl b => rw [toD_bl e]; exact .bl b
  | int i => rw [toD_int e]; exact .int i
  | str x => rw [toD_str e]; exact .str x
  | tup h r =>
    obtain ⟨ds, e1, rfl⟩ := toD_tup e
    exact .tup h (RepL.dp r e1)
  | lst n h r =>
    obtain ⟨ds, e1, rfl⟩ := toD_lst e
    exact .lst (SqL.of h) (RepL.dp r e1)
  | dct n h r => exact (toD_dct e).elim
  | scr h => exact (toD_scr e).elim
  | stt => exact (toD_stt e).elim
  | lam _ => exact (toD_lam e).elim
  | clo _ _ _ _ _ _ => exact (toD_clo e).elim
  | exo _ _ _ _ => exact (toD_exo e).elim
  | exn _ => exact (toD_exo e).elim
  | key _ => exact (toD_key e).elim
  | obj _ => exact (toD_obj e).elim
  | dcu _ _ _ => exact (toD_dcu e).elim
theorem RepL.dp {ws : List W} {vs : List V} (r : RepL K c H ws vs) : ∀ {ds : List PyData}, toDs ws = some ds → DpAll K H vs ds := by
  intro ds e
  cases r with
  | nil =>
    unfold toDs at e
    cases e
    exact .nil
  | cons h r =>
    obtain ⟨d, es, e1, e2, rfl⟩ := toDs_cons e
    exact .cons (Rep.dp h e1) (RepL.dp r e2)
end
end
def eqO (x y : W) : Option Bool := match x.toD, y.toD with
  | some d, some e => if SeqAt.shaped d && SeqAt.shaped e then some (PyData.eqv d e) else none
  | _, _ => none
def eqW (x y : W) : T W := match eqO x y with
  | some b => .ok (.bl b)
  | none => .bad
def neW (x y : W) : T W := match eqO x y with
  | some b => .ok (.bl !b)
  | none => .bad
section
variable {K : PySem.W.Frag}
theorem eqO_some {x y : W} {b : Bool} (h : eqO x y = some b) : ∃ d e, x.toD = some d ∧ y.toD = some e ∧ SeqAt.shaped d = true ∧ SeqAt.shaped e = true ∧ PyData.eqv d e = b := by
  unfold eqO at h
  split at h
  · rename_i d e h1 h2
    split at h
    · rename_i hs
      obtain ⟨h3, h4⟩ := Bool.and_eq_true_iff.mp hs
      exact ⟨d, e, h1, h2, h3, h4, Option.some.inj h⟩
    · cases h
  · cases h
theorem sem_eq : Sem2 K (rEqD K) eqW := fun c d H x y v u Q E' wd rx ry q => by
  unfold eqW at q
  cases e : eqO x y with
  | none =>
    rw [e] at q
    exact q.elim
  | some b =>
    rw [e] at q
    obtain ⟨d1, d2, h1, h2, h3, h4, rfl⟩ := eqO_some e
    exact ⟨d1, d2, rx.dp h1, ry.dp h2, h3, h4, PQ.now wd q (.bl _)⟩
theorem sem_ne : Sem2 K (rNeD K) neW := fun c d H x y v u Q E' wd rx ry q => by
  unfold neW at q
  cases e : eqO x y with
  | none =>
    rw [e] at q
    exact q.elim
  | some b =>
    rw [e] at q
    obtain ⟨d1, d2, h1, h2, h3, h4, rfl⟩ := eqO_some e
    exact ⟨d1, d2, rx.dp h1, ry.dp h2, h3, h4, PQ.now wd q (.bl _)⟩
def isNon : W → Bool
  | .non => true
  | _ => false
def isW : W → W → T W
  | x, .non => .ok (.bl (isNon x))
  | .bl a, .bl b => .ok (.bl (decide (a = b)))
  | _, _ => .bad
def isntW : W → W → T W
  | x, .non => .ok (.bl !(isNon x))
  | .bl a, .bl b => .ok (.bl !(decide (a = b)))
  | _, _ => .bad
theorem Rep.isN {c : Cc} {H : Hp} {x : W} {v : V} (r : Rep K c H x v) : isNon x = decide (v = .non) := by
  cases r <;> rfl
abbrev rIsW : R2 := fun x y H Q => (y = .non ∧ Q (.bl (decide (x = .non))) H) ∨ ∃ a b, x = .bl a ∧ y = .bl b ∧ Q (.bl (decide (a = b))) H
abbrev rIsntW : R2 := fun x y H Q => (y = .non ∧ Q (.bl (!decide (x = .non))) H) ∨ ∃ a b, x = .bl a ∧ y = .bl b ∧ Q (.bl (!decide (a = b))) H
theorem sem_is : Sem2 K rIsW isW := fun c d H x y v u Q E' wd rx ry q => by
  cases ry with
  | non =>
    have q : PQ K c H Q d (.bl (isNon x)) := by cases x <;> exact q
    rw [rx.isN] at q
    exact .inl ⟨rfl, PQ.now wd q (.bl _)⟩
  | bl b =>
    cases rx <;> try exact q.elim
    exact .inr ⟨_, _, rfl, rfl, PQ.now wd q (.bl _)⟩
  | _ => cases x <;> exact q.elim
theorem sem_isnt : Sem2 K rIsntW isntW := fun c d H x y v u Q E' wd rx ry q => by
  cases ry with
  | non =>
    have q : PQ K c H Q d (.bl !(isNon x)) := by cases x <;> exact q
    rw [rx.isN] at q
    exact .inl ⟨rfl, PQ.now wd q (.bl _)⟩
  | bl b =>
    cases rx <;> try exact q.elim
    exact .inr ⟨_, _, rfl, rfl, PQ.now wd q (.bl _)⟩
  | _ => cases x <;> exact q.elim
theorem op_isW {X : Cx} : OpR X (compareOp .Is) rIsW := op_isN.or op_is_bl
theorem op_isntW {X : Cx} : OpR X (compareOp .IsNot) rIsntW := op_notN.or op_isnot_bl
def ixW : W → W → T W
  | .tup ws, .int i => match atI ws i with
    | some w => .ok w
    | none => .bad
  | .lst ws, .int i => match atI ws i with
    | some w => .ok w
    | none => .bad
  | .str z, .int i => if strOk z then (match atI z.cps.toList i with
    | some c => .ok (.str ⟨#[c]⟩)
    | none => .bad) else .bad
  | _, _ => .bad
theorem RepL.atI {c : Cc} {H : Hp} {ws : List W} {vs : List V} {i : Int} {w : W} (r : RepL K c H ws vs) (h : L2.atI ws i = some w) : ∃ v, L2.atI vs i = some v ∧ Rep K c H w v := by
  unfold L2.atI at h ⊢
  rw [← r.length]
  cases e : ixN ws.length i with
  | none =>
    rw [e] at h
    cases h
  | some j =>
    rw [e] at h
    exact r.get h
theorem sem_ix : Sem2 K (rIx K) ixW := fun c d H x y v u Q E' wd rx ry q => by
  cases rx <;> try exact q.elim
  · cases ry <;> try exact q.elim
    rename_i z i
    obtain ⟨hz, q⟩ := T.AllW.ite q
    cases e : L2.atI z.cps.toList i with
    | none =>
      rw [e] at q
      exact q.elim
    | some k =>
      rw [e] at q
      exact .inr (.inr ⟨z, i, k, rfl, rfl, strOk_of hz, e, PQ.now wd q (.str _)⟩)
  · cases ry <;> try exact q.elim
    rename_i a vs ws hq r i
    unfold ixW at q
    simp only at q
    cases e : L2.atI ws i with
    | none =>
      rw [e] at q
      exact q.elim
    | some w =>
      rw [e] at q
      obtain ⟨v, h1, h2⟩ := r.atI e
      exact .inr (.inl ⟨a, vs, i, v, rfl, rfl, hq, h1, PQ.now wd q h2⟩)
  · cases ry <;> try exact q.elim
    rename_i a vs ws n hq r i
    unfold ixW at q
    simp only at q
    cases e : L2.atI ws i with
    | none =>
      rw [e] at q
      exact q.elim
    | some w =>
      rw [e] at q
      obtain ⟨v, h1, h2⟩ := r.atI e
      exact .inl ⟨a, vs, i, v, rfl, rfl, SqL.of hq, h1, PQ.now wd q h2⟩
def absW : List W → T W
  | [.int i] => .ok (.int (if i < 0 then -i else i))
  | _ => .bad
def intW : List W → T W
  | [.int i] => .ok (.int i)
  | [.bl b] => .ok (.int (if b then 1 else 0))
  | _ => .bad
theorem sem_int1 : SemL K (fun xs H Q => (∃ i, xs = [.int i] ∧ Q (.int i) H) ∨ ∃ k, xs = [.bl k] ∧ Q (.int (if k then 1 else 0)) H) intW := fun c d H x v Q E' wd rx q => by
  cases rx with
  | nil => exact q.elim
  | cons r rr =>
    cases rr with
    | cons _ _ => cases r <;> exact q.elim
    | nil =>
      cases r <;> try exact q.elim
      · exact .inr ⟨_, rfl, PQ.now wd q (.int _)⟩
      · exact .inl ⟨_, rfl, PQ.now wd q (.int _)⟩
def lenW : List W → T W
  | [.tup ws] => .ok (.int ws.length)
  | [.lst ws] => .ok (.int ws.length)
  | [.scr n] => .ok (.int n)
  | [.str x] => if strOk x then .ok (.int x.length) else .bad
  | _ => .bad
theorem sem_len : SemL K (fun xs H Q => ∃ x n, xs = [x] ∧ LenV K x H n ∧ Q (.int n) H) lenW := fun c d H x v Q E' wd rx q => by
  cases rx with
  | nil => exact q.elim
  | cons r rr =>
    cases rr with
    | cons _ _ => cases r <;> exact q.elim
    | nil =>
      cases r with
      | str x =>
        obtain ⟨hz, q⟩ := T.AllW.ite q
        exact ⟨_, _, rfl, ⟨strOk_of hz, rfl⟩, PQ.now wd q (.int _)⟩
      | tup h rl => exact ⟨_, _, rfl, .inr ⟨_, h, rl.length⟩, PQ.now wd q (.int _)⟩
      | lst n h rl => exact ⟨_, _, rfl, .inl ⟨_, SqL.of h, rl.length⟩, PQ.now wd q (.int _)⟩
      | @scr a ns h =>
        refine ⟨_, ns.length, rfl, .inl ⟨ns.map V.int, ?_, (List.length_map ..).symm⟩, PQ.now wd q (.int _)⟩
        rcases h with ⟨_, h⟩ | h
        · exact .inl h
        · exact sqL_of_none h
      | _ => exact q.elim
def blsW : List W → Option (List Bool)
  | [] => some []
  | .bl b :: ws => (blsW ws).map (b :: ·)
  | _ => none
theorem blsW_some : ∀ {ws : List W} {bs : List Bool}, blsW ws = some bs → ws = bs.map W.bl
  | [], _, h => by cases h; rfl
  | .bl b :: ws, bs, h => by
    have h : (blsW ws).map (b :: ·) = some bs := h
    cases e : blsW ws with
    | none =>
      rw [e] at h
      cases h
    | some cs =>
      rw [e] at h
      cases h
      rw [blsW_some e]
      rfl
  | .non :: ws, _, h => by cases h
  | .int _ :: ws, _, h => by cases h
  | .str _ :: ws, _, h => by cases h
  | .tup _ :: ws, _, h => by cases h
  | .lst _ :: ws, _, h => by cases h
  | .dct _ _ :: ws, _, h => by cases h
  | .scr _ :: ws, _, h => by cases h
  | .stt :: ws, _, h => by cases h
  | .clo _ _ _ :: ws, _, h => by cases h
  | .exo _ _ :: ws, _, h => by cases h
  | .lam _ _ :: ws, _, h => by cases h
def allW : List W → T W
  | [.lst ws] => match blsW ws with
    | some bs => .ok (.bl (bs.all id))
    | none => .bad
  | _ => .bad
def anyW : List W → T W
  | [.lst ws] => match blsW ws with
    | some bs => .ok (.bl (bs.any id))
    | none => .bad
  | _ => .bad
theorem sem_all : SemL K (rAll K) allW := fun c d H x v Q E' wd rx q => by
  cases rx with
  | nil => exact q.elim
  | cons r rr =>
    cases rr with
    | cons _ _ => cases r <;> exact q.elim
    | nil =>
      cases r <;> try exact q.elim
      rename_i a vs ws n h rl
      unfold allW at q
      simp only at q
      cases e : blsW ws with
      | none =>
        rw [e] at q
        exact q.elim
      | some bs =>
        rw [e] at q
        have e2 := blsW_some e
        subst e2
        have e3 := rl.bls
        subst e3
        exact ⟨a, bs, rfl, SqL.of h, PQ.now wd q (.bl _)⟩
def tyW : W → Option String
  | .non => some "NoneType"
  | .bl _ => some "bool"
  | .int _ => some "int"
  | .str _ => some "str"
  | .tup _ => some "tuple"
  | .lst _ => some "list"
  | .dct _ _ => some "dict"
  | _ => none
theorem Rep.ty {c : Cc} {H : Hp} {w : W} {v : V} {s : String} (r : Rep K c H w v) (h : tyW w = some s) : TyX K H v (.type s) := by
  cases r with
  | non => cases h; exact .base .non
  | bl b => cases h; exact .base (.bl b)
  | int i => cases h; exact .base (.int i)
  | str x => cases h; exact .base (.str x)
  | tup hq _ =>
    cases h
    rcases hq with (e | ⟨o, e⟩) | ⟨o, its, n, e, cl, _⟩
    · exact .base (.tup e)
    · exact .fTuple e
    · exact .kTuple e cl
  | lst n e _ => cases h; exact .base (.lst e)
  | dct n e _ => cases h; exact .base (.dK e)
  | scr _ => cases h
  | stt => cases h
  | lam _ => cases h
  | clo _ _ _ _ _ _ => cases h
  | exo _ _ _ _ => cases h
  | exn _ => cases h
  | key _ => cases h
  | obj _ => cases h
  | dcu _ _ _ => cases h
end
/-- isT: which of the types are a T -/
def isiW (isT : String → Option Bool) (x : W) : T W := match (tyW x).bind isT with
  | some b => .ok (.bl b)
  | none => .bad
def isInt (s : String) : Option Bool := match s with
  | "NoneType" => some false | "bool" => some true | "int" => some true | "str" => some false | "tuple" => some false | "list" => some false | "dict" => some false | _ => none
def isOnly (t : String) (s : String) : Option Bool := if ["NoneType", "bool", "int", "str", "tuple", "list", "dict"].contains s then some (s == t) else none
theorem tr_isi {X : Cx} {E : WX} {a : Expr} {fa : En → T W} {T : Str} {t : String} {p p2 pos : Pos} {isT : String → Option Bool} (hi : ∀ s b, isT s = some b → kitB s t = some b) (hg : Gl X "isinstance") (hm : X.mg "isinstance" = none) (hgT : Gl X T) (hmT : X.mg T = none) (hT : bootBuiltins T = some (.type t)) (ha : TrE Γ X E a fa)
    (hn : T ≠ "__name__" := by decide) (hd : (T == ("__debug__" : Str)) = false := by decide)
    (hs1 : starEach [a, .Name T p2] X.env = (false, eval a X.env) :: starEach [.Name T p2] X.env := by rfl) (hs2 : starEach [.Name T p2] X.env = (false, eval (.Name T p2) X.env) :: starEach [] X.env := by rfl) (hpl : (backTo pos (starEach [.Name T p2] X.env)).any (·.1) = false := by rfl) :
    TrE Γ X E (.Call (.Name "isinstance" p) [a, .Name T p2] [] pos) (f1 (isiW isT) fa) := pe_imp (pe_callB (id := "isinstance") call_isi hg hm (by decide +kernel) (pa_cons ha (pa_cons (pe_bltn (v := .ty t) hgT hmT hT rfl hn hd) pa_nil hs2) hs1) (by decide) (by decide) hs1 hpl) fun σ H Q h => by
  obtain ⟨c, d, oa, ρ, e, h⟩ := h
  refine lift_then (P := fun c H => PQ X.K c H Q) e h (fun st p => p.later st) fun w v H1 d1 _ r1 e1 h1 => ?_
  unfold isiW at h1
  cases e2 : (tyW w).bind isT with
  | none =>
    rw [e2] at h1
    exact h1.elim
  | some b =>
    rw [e2] at h1
    cases e3 : tyW w with
    | none =>
      rw [e3] at e2
      cases e2
    | some s =>
      rw [e3] at e2
      exact ⟨v, .ty t, .type s, .type t, b, rfl, .ty t, r1.ty e3, kit_ty (hi s b e2), PQ.now e1.wd h1 (.bl _)⟩
end PF
namespace PF
open PySem PySem.Spec PyProof.Rows L2
/-- the module's name x is a def that does what the run F does -/
def FnIs (P : Program) (w : World) (K : PySem.W.Frag) (mg : Str → Option Value) (base : Heap) (k : Nat) (x : Str) (ps : List Str) (F : List W → T W) : Prop :=
  ∃ f fd, FnOk P w K mg base (L2.CX P w) k f fd ps (SpF K F) ∧ mg x = some (.ref f) ∧ PySem.W.keepIn K (.ref f) = true ∧ Binds K fd ps []
section
variable {X : Cx} {E : WX} {e : Expr} {es : List Expr} {fs : En → T (List W)} {pos p : Pos} {F : List W → T W} {k : Nat} {ps : List Str} {x : Str}
end
/-- the module's name x stands for the data w -/
def CsIs (K : PySem.W.Frag) (mg : Str → Option Value) (x : Str) (w : W) : Prop := ∃ (v : V) (u : Value), mg x = some u ∧ RelV v u ∧ ∀ c H, Rep K c H w v
theorem tr_cs {X : Cx} {E : WX} {x : Str} {w : W} {pos : Pos} (h : CsIs X.K X.mg x w) (hg : Gl X x) (hd : (x == ("__debug__" : Str)) = false := by decide) : TrE Γ X E (.Name x pos) (fun _ => .ok w) := by
  obtain ⟨v, u, hm, r, q⟩ := h
  exact tr_glob hg hm r q hd
theorem isi_int : ∀ s b, isInt s = some b → kitB s "int" = some b := fun s b h => by
  unfold isInt at h
  split at h <;> first | (cases h; decide +kernel) | cases h
theorem isOnly_mem {t s : String} {b : Bool} (h : isOnly t s = some b) : s ∈ ["NoneType", "bool", "int", "str", "tuple", "list", "dict"] ∧ b = (s == t) := by
  unfold isOnly at h
  split at h
  · rename_i hc
    exact ⟨List.contains_iff_mem.mp hc, (Option.some.inj h).symm⟩
  · cases h
theorem isOnly_all {t : String} (h : ∀ s ∈ ["NoneType", "bool", "int", "str", "tuple", "list", "dict"], kitB s t = some (s == t)) : ∀ s b, isOnly t s = some b → kitB s t = some b := fun s b q => by
  obtain ⟨h1, h2⟩ := isOnly_mem q
  rw [h2]
  exact h s h1
theorem isi_bool : ∀ s b, isOnly "bool" s = some b → kitB s "bool" = some b := isOnly_all (by decide +kernel)
theorem isi_tuple : ∀ s b, isOnly "tuple" s = some b → kitB s "tuple" = some b := isOnly_all (by decide +kernel)
theorem boot_ty_int : bootBuiltins "int" = some (.type "int") := by decide +kernel
theorem boot_ty_bool : bootBuiltins "bool" = some (.type "bool") := by decide +kernel
theorem boot_ty_tuple : bootBuiltins "tuple" = some (.type "tuple") := by decide +kernel
theorem boot_ty_list : bootBuiltins "list" = some (.type "list") := by decide +kernel
theorem bo_int : bootBuiltins "int" = some (.type "int") := boot_ty_int
theorem bo_len : bootBuiltins "len" = some (.builtin "len") := by decide +kernel
theorem bo_all : bootBuiltins "all" = some (.builtin "all") := by decide +kernel
theorem bo_min : bootBuiltins "min" = some (.builtin "min") := by decide +kernel
theorem bo_sum : bootBuiltins "sum" = some (.builtin "sum") := by decide +kernel
theorem bo_tuple : bootBuiltins "tuple" = some (.type "tuple") := boot_ty_tuple
theorem bo_list : bootBuiltins "list" = some (.type "list") := boot_ty_list
abbrev stK (ca la : Addr) (k r : Int) : List (Key × V) := [(.inr kCells, .ref ca), (.inr kLefts, .ref la), (.inr kAt, .int k), (.inr kRoom, .int r)]
section
variable {ca la : Addr} {k r : Int}
theorem ne_ca : ¬ kCells = kAt := by decide +kernel
theorem ne_la : ¬ kLefts = kAt := by decide +kernel
theorem ne_cl : ¬ kCells = kLefts := by decide +kernel
theorem ne_ra : ¬ kRoom = kAt := by decide +kernel
theorem st_at : valV (stK ca la k r) (.inr kAt) = some (.int k) := by
  simp [valV, List.find?_cons, ne_ca, ne_la]
theorem st_cells : valV (stK ca la k r) (.inr kCells) = some (.ref ca) := by
  simp [valV, List.find?_cons]
theorem st_lefts : valV (stK ca la k r) (.inr kLefts) = some (.ref la) := by
  simp [valV, List.find?_cons, ne_cl]
theorem st_put {k' : Int} : putK (stK ca la k r) (.inr kAt) (.int k') = stK ca la k' r := by
  simp [putK, ne_ca, ne_la, ne_ra]
theorem DGet.st {H : Hp} {S : Addr} {x : Key} {v : V} (h : H S = some (.dK (stK ca la k r))) (e : valV (stK ca la k r) x = some v) : DGet H S (kV x) (some v) := by
  rw [← e]
  exact DGet.k h
end
@[irreducible] def manyOk (n : Int) : Bool := decide (0 < n) && decide (n.natAbs.log2 < 9000)
theorem manyOk_of {n : Int} (h : manyOk n = true) : 0 < n ∧ n.natAbs.log2 < 9000 := by
  unfold manyOk at h
  obtain ⟨h1, h2⟩ := Bool.and_eq_true_iff.mp h
  exact ⟨of_decide_eq_true h1, of_decide_eq_true h2⟩
def F__law_draw : List W → T W
  | [.stt, .int n] => if manyOk n then .ask n.toNat fun i => .ok (.int i) else .bad
  | _ => .bad
theorem dK_noC {xs : List (Key × V)} {p : Addr} (q : Str) : HO.dK xs ≠ LamX.CodeO p q := fun z => by
  unfold LamX.CodeO at z
  cases z
/-- what the state's step leaves: the place is one more, the lefts may have changed -/
theorem StOk.drawn {c : Cc} {e : Nat} {d : Dw} {H H' : Hp} {cells lefts' : List Int} {k r : Int} (s : StOk c d H) (st : Step c H H') (sm : ∀ b C dx fl, H b = some (.ins C dx fl) → H' b = some (.ins C dx fl)) (hk : 0 ≤ k) (hb : k + ((e + 1 : Nat) : Int) ≤ 2 ^ 60) (hne : c.ca ≠ c.la) (hz : lefts'.length = cells.length) (h0 : 0 < cells.length)
    (h1 : H' c.S = some (.dK [(.inr kCells, .ref c.ca), (.inr kLefts, .ref c.la), (.inr kAt, .int (k + 1)), (.inr kRoom, .int r)])) (h2 : H' c.ca = some (.lst (cells.map V.int))) (h3 : H' c.la = some (.lst (lefts'.map V.int))) (h4 : LamX.Tabs c.T H') : StOk c ⟨e, d.os⟩ H' :=
  ⟨⟨cells, lefts', k + 1, r, h1, h2, h3, hz, h0, by omega, by show k + 1 + (e : Int) ≤ 2 ^ 60; omega, hne, h4⟩, s.2.same s.2.ok rfl rfl sm fun ws vs r => r.step (.of st) s s.2.ok⟩
/-- ints that stand for a draw -/
theorem draw_all {K : PySem.W.Frag} {c : Cc} {d : Dw} {H : Hp} {Q : VK} {E' : Dw → Nat → List W → Prop} {n : Int} (h : (F__law_draw [.stt, .int n]).AllW (PQ K c H Q) E' d) :
    (0 < n ∧ n.natAbs.log2 < 9000) ∧ ∃ e, d.n = e + 1 ∧ ∀ ⦃c' : Cc⦄ (i : Int) (H' : Hp), 0 ≤ i → i < n → SG c c' H H' → StOk c' ⟨e, d.os⟩ H' → Q (.int i) H' := by
  obtain ⟨h1, h⟩ := T.AllW.ite h
  have hn := manyOk_of h1
  obtain ⟨e, he, h⟩ := h
  refine ⟨hn, e, he, fun c' i H' hi0 hi st so => ?_⟩
  have q := h i.toNat (by omega)
  have ei : ((i.toNat : Nat) : Int) = i := by omega
  have q : PQ K c H Q ⟨e, d.os⟩ (.int ((i.toNat : Nat) : Int)) := q
  rw [ei] at q
  exact q _ H' st so (.int i)
theorem F_draw_bad {ws : List W} (h : ∀ n, ws ≠ [.stt, .int n]) : F__law_draw ws = .bad := by
  unfold F__law_draw
  split
  · exact absurd rfl (h _)
  · rfl
end PF
namespace PF
open PySem PySem.Spec PyProof.Rows L2
section
variable {α β : Type}
@[simp] theorem T.bind_ok (a : α) (f : α → T β) : (T.ok a).bind f = f a := rfl
@[simp] theorem T.bind_bad (f : α → T β) : (T.bad : T α).bind f = .bad := rfl
@[simp] theorem T.bind_exc (c : Nat) (fs : List W) (f : α → T β) : (T.exc c fs : T α).bind f = .exc c fs := rfl
@[simp] theorem T.bind_ask (n : Nat) (k : Nat → T α) (f : α → T β) : (T.ask n k).bind f = .ask n fun i => (k i).bind f := rfl
@[simp] theorem T.bind_get (i : Nat) (k : Nat → List W → T α) (f : α → T β) : (T.get i k : T α).bind f = .get i fun c fs => (k c fs).bind f := rfl
@[simp] theorem T.bind_put (i : Nat) (fs : List W) (k : T α) (f : α → T β) : (T.put i fs k : T α).bind f = .put i fs (k.bind f) := rfl
@[simp] theorem T.bind_new (c : Nat) (fs : List W) (k : Nat → T α) (f : α → T β) : (T.new c fs k : T α).bind f = .new c fs fun i => (k i).bind f := rfl
theorem T.bind_assoc {γ : Type} (t : T α) (f : α → T β) (g : β → T γ) : (t.bind f).bind g = t.bind fun a => (f a).bind g := by
  induction t with
  | ok a => rfl
  | exc c fs => rfl
  | bad => rfl
  | ask n k ih =>
    simp only [T.bind_ask]
    congr 1
    funext i
    exact ih i
  | get i k ih =>
    simp only [T.bind_get]
    congr 1
    funext c fs
    exact ih c fs
  | put i fs k ih =>
    simp only [T.bind_put]
    congr 1
  | new c fs k ih =>
    simp only [T.bind_new]
    congr 1
    funext i
    exact ih i
end
@[simp] theorem gV_eq (i : Nat) (ρ : En) : gV i ρ = match ρ[i]? with
  | some (.val w) => .ok w
  | _ => .bad := rfl
section
variable (g g' : W → W → T W) (h : W → T W) (fa fb fc : En → T W) (fs : En → T (List W)) (gl : List W → T W) (ta tb : En → T Bool) (sa sb : En → T (Fl × En)) (ρ : En)
@[simp] theorem f2_eq : f2 g fa fb ρ = (fa ρ).bind fun x => (fb ρ).bind fun y => g x y := rfl
@[simp] theorem f1_eq : f1 h fa ρ = (fa ρ).bind h := rfl
@[simp] theorem fL_eq : fL fs gl ρ = (fs ρ).bind gl := rfl
@[simp] theorem fNil_eq : fNil ρ = .ok [] := rfl
@[simp] theorem fCons_eq : fCons fa fs ρ = (fa ρ).bind fun x => (fs ρ).bind fun xs => .ok (x :: xs) := rfl
@[simp] theorem fTru_eq : fTru fa ρ = (fa ρ).bind truW := rfl
@[simp] theorem fBl_eq : fBl fa ρ = (fa ρ).bind blW := rfl
@[simp] theorem fNot_eq : fNot ta ρ = (ta ρ).bind fun b => .ok !b := rfl
@[simp] theorem fAnd_eq : fAnd ta tb ρ = (ta ρ).bind fun b => if b then tb ρ else .ok false := rfl
@[simp] theorem fOr_eq : fOr ta tb ρ = (ta ρ).bind fun b => if b then .ok true else tb ρ := rfl
@[simp] theorem fAndV_eq : fAndV fa fb ρ = (fa ρ).bind fun x => match x with
  | .bl true => fb ρ
  | .bl false => .ok (.bl false)
  | _ => .bad := rfl
@[simp] theorem fOrV_eq : fOrV fa fb ρ = (fa ρ).bind fun x => match x with
  | .bl false => fb ρ
  | .bl true => .ok (.bl true)
  | _ => .bad := rfl
@[simp] theorem fNotV_eq : fNotV fa ρ = (fa ρ).bind fun x => match x with
  | .bl b => .ok (.bl !b)
  | _ => .bad := rfl
@[simp] theorem fIf_eq : fIf ta fa fb ρ = (ta ρ).bind fun b => if b then fa ρ else fb ρ := rfl
@[simp] theorem fYes_eq : fYes ρ = .ok true := rfl
@[simp] theorem sNil_eq : sNil ρ = .ok (.nx, ρ) := rfl
@[simp] theorem sSeq_eq : sSeq sa sb ρ = (sa ρ).bind fun x => match x with
  | (.nx, ρ') => sb ρ'
  | x => .ok x := rfl
@[simp] theorem sRet_eq : sRet fa ρ = (fa ρ).bind fun w => .ok (.rt w, ρ) := rfl
@[simp] theorem sRetN_eq : sRetN ρ = .ok (.rt .non, ρ) := rfl
@[simp] theorem sExpr_eq : sExpr fa ρ = (fa ρ).bind fun _ => .ok (.nx, ρ) := rfl
@[simp] theorem sSet_eq (i : Nat) : sSet i fa ρ = (fa ρ).bind fun w => .ok (.nx, ρ.set i (.val w)) := rfl
@[simp] theorem sIf_eq : sIf ta sa sb ρ = (ta ρ).bind fun b => if b then sa ρ else sb ρ := rfl
@[simp] theorem sNever_eq : sNever ρ = .bad := rfl
@[simp] theorem sPar_eq (i j : Nat) : sPar i j fs ρ = (fs ρ).bind fun xs => match xs with
  | [x, y] => .ok (.nx, (ρ.set i (.val x)).set j (.val y))
  | _ => .bad := rfl
@[simp] theorem sAsg_eq (G : W → En → Option En) : sAsg fa G ρ = (fa ρ).bind fun w => match G w ρ with
  | some ρ' => .ok (.nx, ρ')
  | none => .bad := rfl
@[simp] theorem goName_eq (i : Nat) (w : W) : goName i w ρ = some (ρ.set i (.val w)) := rfl
@[simp] theorem iL_eq (q : List W → T (List W)) : iL q fs ρ = (fs ρ).bind q := rfl
@[simp] theorem iOf_eq (q : W → T (List W)) : iOf q fa ρ = (fa ρ).bind q := rfl
end
@[simp] theorem addW_int (i j : Int) : addW (.int i) (.int j) = .ok (.int (i + j)) := rfl
@[simp] theorem subW_int (i j : Int) : subW (.int i) (.int j) = .ok (.int (i - j)) := rfl
@[simp] theorem mulW_int (i j : Int) : mulW (.int i) (.int j) = if mulOk i j then .ok (.int (i * j)) else .bad := rfl
@[simp] theorem fdivW_int (i j : Int) : fdivW (.int i) (.int j) = if divOk j then .ok (.int (i / j)) else .bad := rfl
@[simp] theorem modW_int (i j : Int) : modW (.int i) (.int j) = if decide (0 < j) then .ok (.int (i % j)) else .bad := rfl
@[simp] theorem ltW_int (i j : Int) : ltW (.int i) (.int j) = .ok (.bl (decide (i < j))) := rfl
@[simp] theorem leW_int (i j : Int) : leW (.int i) (.int j) = .ok (.bl (decide (i ≤ j))) := rfl
@[simp] theorem gtW_int (i j : Int) : gtW (.int i) (.int j) = .ok (.bl (decide (j < i))) := rfl
@[simp] theorem geW_int (i j : Int) : geW (.int i) (.int j) = .ok (.bl (decide (j ≤ i))) := rfl
@[simp] theorem intW_int (i : Int) : intW [.int i] = .ok (.int i) := rfl
@[simp] theorem intW_bl (b : Bool) : intW [.bl b] = .ok (.int (if b then 1 else 0)) := rfl
@[simp] theorem absW_int (i : Int) : absW [.int i] = .ok (.int (if i < 0 then -i else i)) := rfl
@[simp] theorem blW_bl (b : Bool) : blW (.bl b) = .ok b := rfl
@[simp] theorem truW_bl (b : Bool) : truW (.bl b) = .ok b := rfl
@[simp] theorem lenW_tup (ws : List W) : lenW [.tup ws] = .ok (.int ws.length) := rfl
@[simp] theorem lenW_lst (ws : List W) : lenW [.lst ws] = .ok (.int ws.length) := rfl
@[simp] theorem lenW_scr (n : Nat) : lenW [.scr n] = .ok (.int n) := rfl
theorem mulOk_of {i j : Int} {a b : Nat} (ha : i.natAbs < 2 ^ a) (hb : j.natAbs < 2 ^ b) (h0 : 0 < a) (h1 : 0 < b) (h : a + b ≤ 1000000) : mulOk i j = true := by
  unfold mulOk
  exact decide_eq_true (wide_mul ha hb h0 h1 h)
theorem manyOk_is {n : Int} {b : Nat} (h : 0 < n) (hb : n.natAbs < 2 ^ b) (h0 : 0 < b) (h9 : b ≤ 9000) : manyOk n = true := by
  unfold manyOk
  obtain ⟨h1, h2⟩ := wide_div (i := 0) h hb h0 h9
  rw [decide_eq_true h1, decide_eq_true h2]
  rfl
theorem sizeOk_is {ws : List W} (h : ws.length ≤ 16777216) : sizeOk ws = true := by
  unfold sizeOk
  exact decide_eq_true h
@[simp] theorem mkTup_eq (ws : List W) : mkTup ws = if sizeOk ws then .ok (.tup ws) else .bad := rfl
@[simp] theorem mkLst_eq (ws : List W) : mkLst ws = if sizeOk ws then .ok (.lst ws) else .bad := rfl
@[simp] theorem sizeOk_nil : sizeOk [] = true := sizeOk_is (by simp)
@[simp] theorem sizeOk_1 (a : W) : sizeOk [a] = true := sizeOk_is (by simp)
@[simp] theorem sizeOk_2 (a b : W) : sizeOk [a, b] = true := sizeOk_is (by simp)
@[simp] theorem sizeOk_3 (a b c : W) : sizeOk [a, b, c] = true := sizeOk_is (by simp)
@[simp] theorem sizeOk_4 (a b c d : W) : sizeOk [a, b, c, d] = true := sizeOk_is (by simp)
@[simp] theorem sizeOk_5 (a b c d e : W) : sizeOk [a, b, c, d, e] = true := sizeOk_is (by simp)
end PF
namespace PF
end PF
namespace PF
open PySem PySem.Spec PyProof.Rows L2 He
structure SaysF (fa : List Fa) (fn : List DefD) (ex : PySem.W.Frag → Bool) (K : PySem.W.Frag) : Prop where
  d : SaysD fa fn K
  more : ex K = true
/-- a fact by its place -/
theorem SaysF.fact {fa : List Fa} {fn : List DefD} {ex : PySem.W.Frag → Bool} {K : PySem.W.Frag} (c : SaysF fa fn ex K) (i : Nat) {f : Fa} (h : fa[i]? = some f := by rfl) : f.ok K = true := c.d.fact i h
/-- a module's name that stands for a tuple of ints and texts -/
def flatW : Dv → Option W
  | .non => some .non
  | .bl b => some (.bl b)
  | .int i => some (.int i)
  | .str x => some (.str x)
  | _ => none
theorem flatW_rep {K : PySem.W.Frag} {d : Dv} {w : W} (h : flatW d = some w) (c : Cc) (H : Hp) : Rep K c H w (d.v K) := by
  cases d <;> first | (cases h; done) | (cases h; constructor)
theorem flatL_rep {K : PySem.W.Frag} (c : Cc) (H : Hp) : ∀ {ds : List Dv} {ws : List W}, ds.mapM flatW = some ws → RepL K c H ws (ds.map (Dv.v K))
  | [], ws, h => by
    simp at h
    subst h
    exact .nil
  | d :: ds, ws, h => by
    rw [List.mapM_cons] at h
    cases e1 : flatW d with
    | none =>
      rw [e1] at h
      cases h
    | some w =>
      rw [e1] at h
      cases e2 : ds.mapM flatW with
      | none =>
        rw [e2] at h
        cases h
      | some us =>
        rw [e2] at h
        cases h
        exact .cons (flatW_rep e1 c H) (flatL_rep c H e2)
theorem cs_tup {K : PySem.W.Frag} {h : Heap} {mg : Str → Option Value} {x : Str} {ds : List Dv} {ws : List W} (X : K.In h) (G : h.Ns mainGlobals mg) (hg : (Fa.glo x).ok K = true) (ht : tupB K x ds = true) (hw : ds.mapM flatW = some ws) : CsIs K mg x (.tup ws) :=
  ⟨.ref (ga K x), _, glo_ok X G hg, rfl, fun c H => .tup (tupB_ok ht H) (flatL_rep c H hw)⟩
theorem cs_int {K : PySem.W.Frag} {h : Heap} {mg : Str → Option Value} {x : Str} {i : Int} (X : K.In h) (G : h.Ns mainGlobals mg) (hg : (Fa.int x i).ok K = true) : CsIs K mg x (.int i) := by
  obtain ⟨t, e⟩ := int_ok X G hg
  exact ⟨.int i, _, e, ⟨t, rfl⟩, fun c H => .int i⟩
end PF
namespace PF
open PySem PySem.Spec PyProof.Rows L2
def spBegin (K : PySem.W.Frag) : Sp := fun vs H Q _ => ∃ (a : Addr) (ns : List Int), vs = [.ref a] ∧ SqL K H a (ns.map V.int) ∧ ns.length ≤ 63 ∧ ∀ (S ca la : Addr) (H' : Hp) (cells lefts : List Int), Same H H' → H S = none → H ca = none → H la = none →
  H' S = some (.dK (stK ca la 0 0)) → H' ca = some (.lst (cells.map V.int)) → H' la = some (.lst (lefts.map V.int)) → lefts.length = cells.length → 0 < cells.length → ca ≠ la → Q (.ref S) H'
def spLaw (K : PySem.W.Frag) : Sp := fun vs H Q _ => ∃ (a : Addr) (ns : List Int), vs = [.ref a] ∧ SqL K H a (ns.map V.int) ∧ ns.length ≤ 63 ∧ LamX.Tabs (tabL K) H ∧ ∀ H', Q (.bl true) H'
section
variable {K : PySem.W.Frag}
theorem dp_ints {H : Hp} : ∀ ns : List Int, DpAll K H (ns.map V.int) (ns.map PyData.int)
  | [] => .nil
  | n :: ns => .cons (.int n) (dp_ints ns)
theorem lay_ints : ∀ ns : List Int, PyData.canLayAll0 (ns.map PyData.int) = true
  | [] => rfl
  | n :: ns => lay_ints ns
theorem dep_ints : ∀ ns : List Int, PyData.depthAll (ns.map PyData.int) ≤ 1
  | [] => by decide
  | n :: ns => by
    have h := dep_ints ns
    simp only [List.map_cons, PyData.depthAll, PyData.depth]
    omega
theorem shaped_ints (ns : List Int) : SeqAt.shaped (.list (ns.map PyData.int)) = true := by
  have h := dep_ints ns
  unfold SeqAt.shaped
  rw [Bool.and_eq_true]
  exact ⟨lay_ints ns, decide_eq_true (by simp only [PyData.depth]; omega)⟩
/-- the state is laid -/
theorem begin_ret {H H1 : Hp} {Q : VK} {nx : L2.St → Hp → Prop} {v0 : V} {l : Addr} {cells : List Int} (sm : Same H H1) (nl : H l = none) (hl : H1 l = some (.lst (cells.map V.int))) (h0 : 0 < cells.length) (hz : cells.length ≤ 1000)
    (q : ∀ (S ca la : Addr) (H' : Hp) (cells lefts : List Int), Same H H' → H S = none → H ca = none → H la = none → H' S = some (.dK (stK ca la 0 0)) → H' ca = some (.lst (cells.map V.int)) → H' la = some (.lst (lefts.map V.int)) → lefts.length = cells.length → 0 < cells.length → ca ≠ la → Q (.ref S) H') :
    tRet (tDisp [(tC (.str kCells), tVar 1), (tC (.str kLefts), tLc (iList K (tVar 1)) (gName 2) tYes (tIf (tTest (tOp (rI0 fun i j => .bl (decide (j ≤ i))) (tVar 2) (tOp (rI CPow fun i j => .int (i ^ j.toNat)) (tC (.int 10)) (tC (.int 18))))) (tVar 2) (tC (.int 0))) [2]), (tC (.str kAt), tC (.int 0)), (tC (.str kRoom), tC (.int 0))])
      { nx := nx, rt := Q } [some v0, some (.ref l), none] H1 := by
  intro p np
  have nlp : l ≠ p := ne_of_none hl np
  have hl1 : (upd H1 p (.dK [])) l = some (.lst (cells.map V.int)) := by rw [upd_ne nlp]; exact hl
  refine ⟨.ref l, rfl, .ref l, rfl, l, rfl, ⟨_, SqL.of hl1⟩, fun D nD => ?_⟩
  have npD : D ≠ p := fun z => by rw [z, upd_same] at nD; cases nD
  have nlD : l ≠ D := fun z => by rw [← z, hl1] at nD; cases nD
  have nD1 : H1 D = none := by rw [upd_ne npD] at nD; exact nD
  let lf : Int → Int := fun c => if (10 : Int) ^ (18 : Int).toNat ≤ c then c else 0
  refine lc_list (K := K) (a := l) (xs := cells.map V.int) (fun i H2 => (∀ b, b ≠ D → H2 b = (upd H1 p (.dK [])) b) ∧ H2 D = some (.lst (((cells.take i).map lf).map V.int))) ⟨fun b hb => upd_ne hb, upd_same⟩ (fun i H2 hi h => ?_) (fun i x H2 hx h => ?_) (fun H2 h => ?_)
  · exact SqL.of (by rw [h.1 l nlD]; exact hl1)
  · obtain ⟨o, hD⟩ := h
    rw [List.getElem?_map] at hx
    cases ec : cells[i]? with
    | none =>
      rw [ec] at hx
      cases hx
    | some c =>
      rw [ec] at hx
      cases hx
      have hi : i < cells.length := (List.getElem?_eq_some_iff.mp ec).1
      have et : cells.take (i + 1) = cells.take i ++ [c] := by rw [List.take_add_one, ec]; rfl
      refine ⟨rfl, iteT (B := True) ⟨.int c, rfl, 10, 18, rfl, rfl, ⟨by decide, by decide, by decide⟩, c, _, rfl, rfl, _, rfl, ?_⟩⟩
      have fin : ∀ y : Int, y = lf c → ∃ acc, H2 D = some (.lst acc) ∧ acc.length < sizeLine ∧ ((∀ b, b ≠ D → (upd H2 D (.lst (acc ++ [V.int y]))) b = (upd H1 p (.dK [])) b) ∧ (upd H2 D (.lst (acc ++ [V.int y]))) D = some (.lst (((cells.take (i + 1)).map lf).map V.int))) := fun y ey => by
        refine ⟨_, hD, ?_, fun b hb => by rw [upd_ne hb]; exact o b hb, ?_⟩
        · rw [List.length_map, List.length_map, List.length_take]
          exact Nat.lt_of_le_of_lt (Nat.min_le_right _ _) (small1000 hz)
        · rw [upd_same, et, List.map_append, List.map_append, ey]
          rfl
      by_cases hc : (10 : Int) ^ (18 : Int).toNat ≤ c
      · have e : decide ((10 : Int) ^ (18 : Int).toNat ≤ c) = true := decide_eq_true hc
        show if decide ((10 : Int) ^ (18 : Int).toNat ≤ c) = true then _ else _
        rw [e]
        refine iteT ⟨.int c, rfl, fin c ?_⟩
        show c = if (10 : Int) ^ (18 : Int).toNat ≤ c then c else 0
        rw [if_pos hc]
      · have e : decide ((10 : Int) ^ (18 : Int).toNat ≤ c) = false := decide_eq_false hc
        show if decide ((10 : Int) ^ (18 : Int).toNat ≤ c) = true then _ else _
        rw [e]
        refine iteF (fin 0 ?_)
        show (0 : Int) = if (10 : Int) ^ (18 : Int).toNat ≤ c then c else 0
        rw [if_neg hc]
  · obtain ⟨o, hD⟩ := h
    have hp : H2 p = some (.dK []) := by rw [o p (Ne.symm npD), upd_same]
    refine ⟨hp, [(.inr kCells, .ref l), (.inr kLefts, .ref D), (.inr kAt, .int 0), (.inr kRoom, .int 0)], rfl, by show 4 ≤ 15; decide, ?_⟩
    have em : mergeK [] [(Sum.inr kCells, V.ref l), (.inr kLefts, .ref D), (.inr kAt, .int 0), (.inr kRoom, .int 0)] = stK l D 0 0 := by
      simp [mergeK, putK, ne_ca, ne_la, ne_cl, show ¬ kCells = kRoom by decide +kernel, show ¬ kLefts = kRoom by decide +kernel, show ¬ kAt = kRoom by decide +kernel]
    rw [em]
    refine q p l D _ cells (cells.map lf) (fun b u hb => ?_) ?_ nl ?_ upd_same ?_ ?_ (List.length_map ..) h0 nlD
    · have h1 := sm b u hb
      have nb : b ≠ p := ne_of_none h1 np
      have nbD : b ≠ D := ne_of_none h1 nD1
      rw [upd_ne nb, o b nbD, upd_ne nb]
      exact h1
    · exact sm.free np
    · exact sm.free nD1
    · rw [upd_ne nlp, o l nlD]
      exact hl1
    · rw [upd_ne npD, hD, List.length_map, List.take_length]
theorem begin_read {H : Hp} {Q : VK} {nx : L2.St → Hp → Prop} {a : Addr} {ns : List Int} (hS : SqL K H a (ns.map V.int)) (hz : ns.length ≤ 63)
    (q : ∀ (S ca la : Addr) (H' : Hp) (cells lefts : List Int), Same H H' → H S = none → H ca = none → H la = none → H' S = some (.dK (stK ca la 0 0)) → H' ca = some (.lst (cells.map V.int)) → H' la = some (.lst (lefts.map V.int)) → lefts.length = cells.length → 0 < cells.length → ca ≠ la → Q (.ref S) H') :
    tSeq (tAsg (tIf (tTest (tOp (rNeD K) (tVar 0) (tLst tNil))) (tCB (fun xs H Q => ∃ p ys, xs = [.ref p] ∧ (SqL K H p ys ∨ SqT K H p ys) ∧ ∀ l, H l = none → Q (.ref l) (upd H l (.lst ys))) (tCons (tVar 0) tNil)) (tLst (tCons (tC (.int 0)) tNil))) (gName 1))
      (tRet (tDisp [(tC (.str kCells), tVar 1), (tC (.str kLefts), tLc (iList K (tVar 1)) (gName 2) tYes (tIf (tTest (tOp (rI0 fun i j => .bl (decide (j ≤ i))) (tVar 2) (tOp (rI CPow fun i j => .int (i ^ j.toNat)) (tC (.int 10)) (tC (.int 18))))) (tVar 2) (tC (.int 0))) [2]), (tC (.str kAt), tC (.int 0)), (tC (.str kRoom), tC (.int 0))]))
      { nx := nx, rt := Q } [some (.ref a), none, none] H := by
  refine ⟨.ref a, rfl, by decide, fun p np => ?_⟩
  have sm : Same H (upd H p (.lst [])) := fun b u e => by rw [upd_ne (ne_of_none e np)]; exact e
  have hS1 : SqL K (upd H p (.lst [])) a (ns.map V.int) := sm.seq hS
  refine ⟨.list (ns.map .int), .list [], .lst hS1 (dp_ints ns), .lst (SqL.of upd_same) .nil, shaped_ints ns, rfl, _, rfl, ?_⟩
  cases ns with
  | nil =>
    refine iteF ⟨by decide, fun l nl => ?_⟩
    exact begin_ret (cells := [0]) (fun b u e => by rw [upd_ne (ne_of_none (sm b u e) nl)]; exact sm b u e) (sm.free nl) upd_same (by decide) (by decide) q
  | cons n ns =>
    refine iteT ⟨.ref a, rfl, a, _, rfl, .inl hS1, fun l nl => ?_⟩
    exact begin_ret (cells := n :: ns) (fun b u e => by rw [upd_ne (ne_of_none (sm b u e) nl)]; exact sm b u e) (sm.free nl) upd_same (by simp) (Nat.le_trans hz (by decide)) q
end
/-- the law's frame when the state stands -/
def lawE (n m : Nat) : En := .val (.scr n) :: .val .stt :: List.replicate m .un
theorem law_env {K : PySem.W.Frag} {H H' : Hp} {a S ca la : Addr} {ns cells lefts : List Int} {m : Nat} (hS : SqL K H a (ns.map V.int)) (sm : Same H H') (nS : H S = none) (nca : H ca = none) (nla : H la = none)
    (h1 : H' S = some (.dK (stK ca la 0 0))) (h2 : H' ca = some (.lst (cells.map V.int))) (h3 : H' la = some (.lst (lefts.map V.int))) (hl : lefts.length = cells.length) (h0 : 0 < cells.length) (hne : ca ≠ la) (hT : LamX.Tabs (tabL K) H) :
    EnvOk K Γ ⟨S, ca, la, [S, ca, la], [], tabL K, Γ, K, []⟩ ⟨2 ^ 60, []⟩ (fun _ => 0) (lawE ns.length m) (some (.ref a) :: some (.ref S) :: List.replicate m none) H' where
  ok := ⟨by simp, by simp, by simp⟩
  st := ⟨⟨cells, lefts, 0, 0, h1, h2, h3, hl, h0, by decide, by decide, hne, hT.ext fun b o e => sm b o e⟩, ⟨by simp, by simp, by simp⟩, rfl, List.nodup_nil, (fun i a o h => by simp at h), fun _ => rfl⟩
  av := fun b hb => by
    simp only [List.mem_cons, List.not_mem_nil, or_false] at hb
    rcases hb with rfl | rfl | rfl
    · exact ⟨_, h1, .inr (.inl ⟨_, rfl⟩)⟩
    · exact ⟨_, h2, .inl ⟨_, rfl⟩⟩
    · exact ⟨_, h3, .inl ⟨_, rfl⟩⟩
  len := by simp [lawE]
  val := fun i w h => by
    unfold lawE at h
    match i, h with
    | 0, h =>
      simp at h
      subst h
      refine ⟨.ref a, rfl, .scr ?_⟩
      rcases sqL_split hS with r | r
      · have na : ∀ b, H b = none → a ≠ b := fun b hb => by
          rcases r with r | ⟨o, r⟩
          · exact ne_of_none r hb
          · exact ne_of_none r hb
        refine .inl ⟨?_, ?_⟩
        · simp only [List.mem_cons, List.not_mem_nil, or_false, not_or]
          exact ⟨na S nS, na ca nca, na la nla⟩
        · rcases r with r | ⟨o, r⟩
          · exact .inl (sm _ _ r)
          · exact .inr ⟨o, sm _ _ r⟩
      · exact .inr r
    | 1, h =>
      simp at h
      subst h
      exact ⟨.ref S, rfl, .stt⟩
    | i + 2, h =>
      simp only [List.getElem?_cons_succ, List.getElem?_replicate] at h
      split at h <;> cases h
  m := ⟨fun b hb => (by cases hb), fun b hb => (by cases hb), fun b hb => (by cases hb)⟩
  own := fun i ws h => by
    unfold lawE at h
    match i, h with
    | 0, h => simp at h
    | 1, h => simp at h
    | i + 2, h =>
      simp only [List.getElem?_cons_succ, List.getElem?_replicate] at h
      split at h <;> cases h
  inj := fun i j ws us h _ => by
    unfold lawE at h
    match i, h with
    | 0, h => simp at h
    | 1, h => simp at h
    | i + 2, h =>
      simp only [List.getElem?_cons_succ, List.getElem?_replicate] at h
      split at h <;> cases h
  odc := fun i ws h => by
    unfold lawE at h
    match i, h with
    | 0, h => simp at h
    | 1, h => simp at h
    | i + 2, h =>
      simp only [List.getElem?_cons_succ, List.getElem?_replicate] at h
      split at h <;> cases h
  ido := fun i j ws us h _ => by
    unfold lawE at h
    match i, h with
    | 0, h => simp at h
    | 1, h => simp at h
    | i + 2, h =>
      simp only [List.getElem?_cons_succ, List.getElem?_replicate] at h
      split at h <;> cases h
  odt := fun i ws h => by
    unfold lawE at h
    match i, h with
    | 0, h => simp at h
    | 1, h => simp at h
    | i + 2, h =>
      simp only [List.getElem?_cons_succ, List.getElem?_replicate] at h
      split at h <;> cases h
  idt := fun i j ws us h _ => by
    unfold lawE at h
    match i, h with
    | 0, h => simp at h
    | 1, h => simp at h
    | i + 2, h =>
      simp only [List.getElem?_cons_succ, List.getElem?_replicate] at h
      split at h <;> cases h
  tT := rfl
  cC := rfl
  kK := rfl
/-- a law's run ends and gives True -/
def LawEnds (g : En → T (Fl × En)) (m : Nat) : Prop := ∀ n, n ≤ 63 → (g (lawE n m)).AllB (fun _ x => ∃ ρ, x = (.rt (.bl true), ρ)) (fun _ _ _ => False) (2 ^ 60)
/-- with objects -/
def LawEndsW (g : En → T (Fl × En)) (m : Nat) : Prop := ∀ n, n ≤ 63 → (g (lawE n m)).AllW (fun _ x => ∃ ρ, x = (.rt (.bl true), ρ)) (fun _ _ _ => False) ⟨2 ^ 60, []⟩
theorem LawEnds.w {g : En → T (Fl × En)} {m : Nat} (h : LawEnds g m) : LawEndsW g m := fun n hn => T.AllW.imp (fun _ _ x => x.2) (fun _ _ _ x => x.2) (T.allW_of (os := []) (h n hn))
theorem law_restW {K : PySem.W.Frag} {E : XK} {H H' : Hp} {a S ca la : Addr} {ns cells lefts : List Int} {m : Nat} {g : En → T (Fl × En)} {Q : VK} {nx : L2.St → Hp → Prop} (en : LawEndsW g m) (hn : ns.length ≤ 63) (q : ∀ H', Q (.bl true) H') (hS : SqL K H a (ns.map V.int)) (sm : Same H H') (nS : H S = none) (nca : H ca = none) (nla : H la = none)
    (h1 : H' S = some (.dK (stK ca la 0 0))) (h2 : H' ca = some (.lst (cells.map V.int))) (h3 : H' la = some (.lst (lefts.map V.int))) (hl : lefts.length = cells.length) (h0 : 0 < cells.length) (hne : ca ≠ la) (hT : LamX.Tabs (tabL K) H) :
    liftS K Γ E g { nx := nx, rt := Q } (some (.ref a) :: some (.ref S) :: List.replicate m none) H' := by
  refine ⟨_, _, _, _, law_env hS sm nS nca nla h1 h2 h3 hl h0 hne hT, T.AllW.imp (fun d x hx => ?_) (fun _ _ _ z => z.elim) (en ns.length hn)⟩
  obtain ⟨ρ, rfl⟩ := hx
  intro c' oa' σ' H2 fw e' v r
  cases r
  exact q H2
theorem law_rest {K : PySem.W.Frag} {E : XK} {H H' : Hp} {a S ca la : Addr} {ns cells lefts : List Int} {m : Nat} {g : En → T (Fl × En)} {Q : VK} {nx : L2.St → Hp → Prop} (en : LawEnds g m) (hn : ns.length ≤ 63) (q : ∀ H', Q (.bl true) H') (hS : SqL K H a (ns.map V.int)) (sm : Same H H') (nS : H S = none) (nca : H ca = none) (nla : H la = none)
    (h1 : H' S = some (.dK (stK ca la 0 0))) (h2 : H' ca = some (.lst (cells.map V.int))) (h3 : H' la = some (.lst (lefts.map V.int))) (hl : lefts.length = cells.length) (h0 : 0 < cells.length) (hne : ca ≠ la) (hT : LamX.Tabs (tabL K) H) :
    liftS K Γ E g { nx := nx, rt := Q } (some (.ref a) :: some (.ref S) :: List.replicate m none) H' := law_restW en.w hn q hS sm nS nca nla h1 h2 h3 hl h0 hne hT
theorem cx_none {P : Program} {w : World} {l : List PySem.Env} {H : Hp} {s : Shared} {e : Value} {s' : Shared} (h : L2.CX P w l H s (fun _ _ _ => False) e s') : False := by
  obtain ⟨_, _, _, _, _, _, _, _, _, _, _, _, z⟩ := h
  exact z
end PF
namespace PF
open PySem PySem.Spec PyProof.Rows L2
set_option maxHeartbeats 1000000 in
theorem meets_enum1 {v : Value} {o : Obj} {H : Heap → Prop} (B : Begins v o H) :
    Meets (Builtin.«enumerate.__new__» ⟨[.type "enumerate", v], []⟩) (fun _ R s => H s.heap ∧
      R (.ok (.ret (.ref (s.heap.push o).objs.size))) { s with heap := (s.heap.push o).push { cls := .type "enumerate", data := .fields #[.none, .bool false, .ref s.heap.objs.size, rawInt 0, .none, .none] } }) := .of_wp fun prog w A R s h => by
  obtain ⟨hp, g, d, tk, os⟩ := s
  obtain ⟨h1, h⟩ := h
  have hsub := sub_enumerate
  have q1 : ∀ {A' : Around} {E : Value → Shared → Prop} {Q : Value → Shared → Prop}, Q (.ref hp.objs.size) ⟨hp.push o, g, d, tk, os⟩ → wpAny (model prog w) A' (pyIter v) Q E ⟨hp, g, d, tk, os⟩ := fun q => B.iter prog w _ _ ⟨hp, g, d, tk, os⟩ _ h1 q
  wp_walk using q1
  refine wpAny_stack_any fun st => wpAny_pure ?_
  split
  · rename_i c _ _ _ _ _
    cases (c == Value.type "enumerate")
    · wp_walk using q1
      exact ⟨_, rfl, h⟩
    · wp_walk using q1
      exact ⟨_, rfl, h⟩
  · wp_walk using q1
    exact ⟨_, rfl, h⟩
theorem enum_begins1 {prog : Program} {w : World} {A : Around} {E : Value → Shared → Prop} {s : Shared} {v : Value} {o : Obj} {H : Heap → Prop} {Q : Value → Shared → Prop} (B : Begins v o H) (h1 : H s.heap)
    (h : ∀ h', IsEnum h' (s.heap.objs.size + 1) s.heap.objs.size 0 .none → h'.get? s.heap.objs.size = some o → h'.objs.size = s.heap.objs.size + 2 → (∀ b o, s.heap.get? b = some o → h'.get? b = some o) → Q (.ref (s.heap.objs.size + 1)) { s with heap := h' }) :
    wpAny (model prog w) A (call (.type "enumerate") [v]) Q E s := by
  refine callType_new F.called_enumerate (by decide) (F.typeCall_enumerate_1 _) (F.newCall_enumerate_1 _) (fun obj => F.args_object_init_2 obj _) F.entry_enumerate_new (meets_enum1 B) ⟨h1, ?_⟩
  have hz : (s.heap.push o).objs.size = s.heap.objs.size + 1 := Heap.size_push ..
  show _ ∧ _
  rw [hz]
  have he : IsEnum ((s.heap.push o).push { cls := .type "enumerate", data := .fields #[.none, .bool false, .ref s.heap.objs.size, rawInt 0, .none, .none] }) (s.heap.objs.size + 1) s.heap.objs.size 0 .none := by
    have := Heap.get?_push_size (s.heap.push o) (o := { cls := .type "enumerate", data := .fields #[.none, .bool false, .ref s.heap.objs.size, rawInt 0, .none, .none] }) rfl
    rw [hz] at this
    exact this
  exact ⟨⟨_, he, rfl⟩, h _ he (Heap.get?_push_of_some _ (Heap.get?_push_size _ B.free)) (by rw [Heap.size_push, hz]) fun b o x => Heap.get?_push_of_some _ (Heap.get?_push_of_some _ x)⟩
/-- the tuple at a (n items), each item in a new pair with its count from k -/
def ItNT (K : PySem.W.Frag) (a : Addr) (k : Int) (n : Nat) : It :=
  ⟨fun i H => i < n ∧ ∃ (xs : List V) (x : V), SqT K H a xs ∧ xs.length = n ∧ xs[i]? = some x,
    fun i H v H' => ∃ T x, v = .ref T ∧ H T = none ∧ H' = upd H T (.tup [.int (k + (i : Nat)), x]) ∧ ∀ xs, SqT K H a xs → xs[i]? = some x,
    fun i H => n ≤ i ∧ ∃ xs : List V, SqT K H a xs ∧ xs.length = n⟩
theorem turn_nT {P : Program} {w : World} {K : PySem.W.Frag} {elts : List Expr} {kk : Nat} {tpos : Pos} (a e it : Addr) (k : Int) (n : Nat) :
    Turn P w K (.Tuple elts kk tpos) (ItNT K a k n) [e, it] e (fun i h => (∃ old, IsEnum h e it (k + (i : Nat)) old) ∧ h.IsTupleIter it a i ∧ e ≠ it ∧ a ≠ it ∧ a ≠ e ∧ i ≤ n) where
  mem := by simp
  obj := fun i h st b hb => by
    obtain ⟨⟨old, he⟩, ⟨o, ho, hc, hd⟩, _⟩ := st
    have e' : b = e ∨ b = it := by simpa using hb
    rcases e' with z | z
    · rw [z]
      exact ⟨_, he, fun v q => nomatch q⟩
    · rw [z]
      exact ⟨o, ho, fun v q => by rw [hd] at q; cases q⟩
  keep := fun i h h' st k => let ⟨⟨old, he⟩, hi, hne⟩ := st; ⟨⟨old, k e (by simp) _ he⟩, hi.at fun o q => k it (by simp) o q, hne⟩
  item := by
    intro X hP hw hK hc i pins s σ H E I hf st hg
    subst hP hw hK
    obtain ⟨⟨old, he⟩, hit, hne, nai, nae, _⟩ := st
    obtain ⟨hin, xs, x, hq, hxn, hx⟩ := hg
    obtain ⟨its, rv, p, hz⟩ := I.tuple hq
    obtain ⟨u, hu, ru⟩ := rv.get hx
    have hil0 : i < its.length := (List.getElem?_eq_some_iff.mp hu).1
    have hel : e < s.heap.objs.size := Heap.lt_size he
    have hil : it < s.heap.objs.size := by obtain ⟨_, q, _⟩ := hit; exact Heap.lt_size q
    have D := Draws.tuple (prog := X.prog) (w := X.w) (A := X.A.in1) (I.ok.hd hc) it a nai its.toArray
    refine wpAny_pyNext_enum_itemC D he ⟨hit, p⟩ (by simpa using hil0) hne (by simp [hne, Ne.symm nae]) fun x' h' tk hP ho hst hT hsz hk => ?_
    have hxu : x' = u := by
      have : its[i]? = some x' := by simpa using hP
      rw [hu] at this
      exact (Option.some.inj this).symm
    subst hxu
    obtain ⟨hit', _⟩ := hst
    refine ⟨_, rfl, wpAny_letOwnedTupleGo_enum (s := { s with heap := h', toks := tk + 1 }) ho fun h'' he' sb => ?_⟩
    have hT2 : h''.get? s.heap.objs.size = some { cls := .type "tuple", data := .seq #[.int (k + (i : Nat)) tk, x'] } := (sb.2 _ (Nat.ne_of_gt hel)).trans hT
    have new : ObjOk X.prog X.w (upd H s.heap.objs.size (.tup [.int (k + (i : Nat)), x])) h'' s.heap.objs.size (.tup [.int (k + (i : Nat)), x]) := ⟨by show 2 ≤ sizeLine; decide, [.int (k + (i : Nat)) tk, x'], .cons ⟨_, rfl⟩ (.cons ru .nil), ⟨_, hT2, rfl, _, rfl⟩⟩
    have I1 : Inv X pins σ (upd H s.heap.objs.size (.tup [.int (k + (i : Nat)), x])) { s with heap := h'', toks := tk + 1 } := I.turnedNew (ch := [e, it]) (fun b ob hb q => (sb.2 b (fun z => hb (by simp [z]))).trans (hk b ob (fun z => hb (by simp [z])) (fun z => hb (by simp [z])) q)) hf (Nat.le_refl _) new
    refine ⟨.ref s.heap.objs.size, _, I1, rfl, ⟨_, x, rfl, I.hok.fresh (Nat.le_refl _), rfl, fun ys hy => by rw [I.tuple_inj hy hq]; exact hx⟩, ⟨⟨x', ?_⟩, hit'.at fun o q => (sb.2 it (Ne.symm hne)).trans q, hne, nai, nae, hin⟩, fun b hb => ?_⟩
    · have e1 : k + ((i + 1 : Nat) : Int) = k + (i : Int) + 1 := by omega
      rw [e1]
      exact he'
    · have hb' : b < s.heap.objs.size := by
        have e' : b = e ∨ b = it := by simpa using hb
        rcases e' with z | z
        · rw [z]; exact hel
        · rw [z]; exact hil
      rw [upd_ne (Nat.ne_of_lt hb')]
      exact (hf b hb).1
  done := by
    intro X hP hw hK hc i pins s σ H E I hf st hg
    subst hP hw hK
    obtain ⟨⟨old, he⟩, hit, hne, nai, nae, hin⟩ := st
    obtain ⟨hni, xs, hq, hx⟩ := hg
    obtain ⟨its, rv, p, hz⟩ := I.tuple hq
    obtain ⟨f0, f1, f2, f3, f4, f5⟩ := hf it (by simp)
    have hl := rv.length
    have D := Draws.tuple (prog := X.prog) (w := X.w) (A := X.A.in1) (I.ok.hd hc) it a nai its.toArray
    have en : its.toArray.size = i := by simp; omega
    exact wpAny_pyNext_enum_endD D he (by rw [en]; exact ⟨hit, p⟩) fun h' eb => ⟨rfl, I.turned (t' := s.toks) (fun b o hb q => eb b o hb q) f0 f1 f3 f4 f5⟩
  self := fun A i s Q E st h => let ⟨⟨_, he⟩, _⟩ := st; wpAny_pyIter_enum he h
def iEnT (K : PySem.W.Frag) (ta : TA) : TI := fun σ H R => ta σ H fun vs H1 => ∃ a xs k, (vs = [.ref a] ∧ k = 0 ∨ vs = [.ref a, .int k] ∧ -(2 ^ 63) ≤ k ∧ k < 2 ^ 63) ∧ SqT K H1 a xs ∧ R (ItNT K a k xs.length) H1
theorem en_fin_T {X : Cx} {tpos : Pos} {elts : List Expr} {kk : Nat} {pins : List (Addr × Obj)} {σ : St} {H1 : Hp} {s1 : Shared} {R : It → Hp → Prop} {a : Addr} {xs : List V} {k : Int} {h' : Heap} (I1 : Inv X pins σ H1 s1) (al : a < s1.heap.objs.size) (he : IsEnum h' (s1.heap.objs.size + 1) s1.heap.objs.size k .none)
    (hit : h'.get? s1.heap.objs.size = some { cls := .type "tuple_iterator", data := .fields #[.ref a, .int 0 0] }) (hk : ∀ b o, s1.heap.get? b = some o → h'.get? b = some o) (q : R (ItNT X.K a k xs.length) H1) :
    wpAny (model X.prog X.w) X.A (pyIter (.ref (s1.heap.objs.size + 1))) (PIE X pins σ (.Tuple elts kk tpos) R) X.xe { s1 with heap := h' } := by
  refine wpAny_pyIter_enum he ?_
  have I2 : Inv X pins σ H1 { s1 with heap := h' } := I1.kept (t' := s1.toks) hk
  refine ⟨s1.heap.objs.size + 1, [s1.heap.objs.size + 1, s1.heap.objs.size], _, _, H1, rfl, I2, turn_nT a (s1.heap.objs.size + 1) s1.heap.objs.size k xs.length, ⟨⟨.none, ?_⟩, ⟨_, hit, rfl, rfl⟩, Nat.succ_ne_self _, Nat.ne_of_lt al, Nat.ne_of_lt (Nat.lt_succ_of_lt al), Nat.zero_le _⟩, fun b hb => ?_, q⟩
  · have e0 : k + ((0 : Nat) : Int) = k := by simp
    rw [e0]
    exact he
  have e' : b = s1.heap.objs.size + 1 ∨ b = s1.heap.objs.size := by simpa using hb
  have hle : s1.heap.objs.size ≤ b := by
    rcases e' with z | z
    · rw [z]; exact Nat.le_add_right _ _
    · rw [z]; exact Nat.le_refl _
  exact I1.fpOk hle (I1.hok.fresh hle)
theorem pi_enT {X : Cx} {e : Expr} {ta : TA} {p pos tpos : Pos} {elts : List Expr} {kk : Nat} (hg : Gl X "enumerate") (hm : X.mg "enumerate" = none) (ha : PA X [e] ta) (hs : starEach [e] X.env = [(false, eval e X.env)] := by rfl) :
    PI X (.Tuple elts kk tpos) (.Call (.Name "enumerate" p) [e] [] pos) (iEnT X.K ta) := by
  refine ⟨fun pins s σ H R I h => ?_⟩
  refine Call_ (ld_blt I hg hm boot_enumerate (PyProof.Rows.callWith_type1 (thn (ha.run pos pins s σ H _ I h) fun us s1 ⟨vs, H1, I1, r1, q1⟩ => ?_) hs rfl))
  obtain ⟨a, xs, k, ex, hq, q⟩ := q1
  rcases ex with ⟨ex, rfl⟩ | ⟨ex, _, _⟩
  · subst ex
    cases r1 with
    | cons r rr =>
      cases rr
      cases r
      obtain ⟨its, rv, p', hz⟩ := I1.tuple hq
      have al : a < s1.heap.objs.size := by
        obtain ⟨o1, ho1, _⟩ := id p'
        exact Heap.lt_size ho1
      exact enum_begins1 (begins_tuple a its.toArray) p' fun h' he hit hsz hk => en_fin_T I1 al he hit hk q
  · subst ex
    cases r1 with
    | cons r rr =>
      cases rr with
      | cons r' rr =>
        cases rr
        cases r
        obtain ⟨tk, rfl⟩ := r'
        obtain ⟨its, rv, p', hz⟩ := I1.tuple hq
        have al : a < s1.heap.objs.size := by
          obtain ⟨o1, ho1, _⟩ := id p'
          exact Heap.lt_size ho1
        exact enum_begins (begins_tuple a its.toArray) p' (by assumption) (by assumption) fun h' he hit hsz hk => en_fin_T I1 al he hit hk q
/-- the list at a (n items), each item in a new pair with its count from k -/
def ItNL (K : PySem.W.Frag) (a : Addr) (k : Int) (n : Nat) : It :=
  ⟨fun i H => i < n ∧ ∃ (xs : List V) (x : V), SqL K H a xs ∧ xs.length = n ∧ xs[i]? = some x,
    fun i H v H' => ∃ T x, v = .ref T ∧ H T = none ∧ H' = upd H T (.tup [.int (k + (i : Nat)), x]) ∧ ∀ xs, SqL K H a xs → xs[i]? = some x,
    fun i H => n ≤ i ∧ ∃ xs : List V, SqL K H a xs ∧ xs.length = n⟩
theorem turn_nL {P : Program} {w : World} {K : PySem.W.Frag} {elts : List Expr} {kk : Nat} {tpos : Pos} (a e it : Addr) (k : Int) (n : Nat) :
    Turn P w K (.Tuple elts kk tpos) (ItNL K a k n) [e, it] e (fun i h => (∃ old, IsEnum h e it (k + (i : Nat)) old) ∧ h.IsListIter it a i ∧ e ≠ it ∧ a ≠ it ∧ a ≠ e ∧ i ≤ n) where
  mem := by simp
  obj := fun i h st b hb => by
    obtain ⟨⟨old, he⟩, ⟨o, ho, hc, hd⟩, _⟩ := st
    have e' : b = e ∨ b = it := by simpa using hb
    rcases e' with z | z
    · rw [z]
      exact ⟨_, he, fun v q => nomatch q⟩
    · rw [z]
      exact ⟨o, ho, fun v q => by rw [hd] at q; cases q⟩
  keep := fun i h h' st k => let ⟨⟨old, he⟩, hi, hne⟩ := st; ⟨⟨old, k e (by simp) _ he⟩, hi.at fun o q => k it (by simp) o q, hne⟩
  item := by
    intro X hP hw hK hc i pins s σ H E I hf st hg
    subst hP hw hK
    obtain ⟨⟨old, he⟩, hit, hne, nai, nae, _⟩ := st
    obtain ⟨hin, xs, x, hq, hxn, hx⟩ := hg
    obtain ⟨its, rv, p, hz⟩ := I.list hq
    obtain ⟨u, hu, ru⟩ := rv.get hx
    have hil0 : i < its.length := (List.getElem?_eq_some_iff.mp hu).1
    have hel : e < s.heap.objs.size := Heap.lt_size he
    have hil : it < s.heap.objs.size := by obtain ⟨_, q, _⟩ := hit; exact Heap.lt_size q
    have D := Draws.list (prog := X.prog) (w := X.w) (A := X.A.in1) (I.ok.hd hc) it a nai its.toArray
    refine wpAny_pyNext_enum_itemC D he ⟨hit, p.isList⟩ (by simpa using hil0) hne (by simp [hne, Ne.symm nae]) fun x' h' tk hP ho hst hT hsz hk => ?_
    have hxu : x' = u := by
      have : its[i]? = some x' := by simpa using hP
      rw [hu] at this
      exact (Option.some.inj this).symm
    subst hxu
    obtain ⟨hit', _⟩ := hst
    refine ⟨_, rfl, wpAny_letOwnedTupleGo_enum (s := { s with heap := h', toks := tk + 1 }) ho fun h'' he' sb => ?_⟩
    have hT2 : h''.get? s.heap.objs.size = some { cls := .type "tuple", data := .seq #[.int (k + (i : Nat)) tk, x'] } := (sb.2 _ (Nat.ne_of_gt hel)).trans hT
    have new : ObjOk X.prog X.w (upd H s.heap.objs.size (.tup [.int (k + (i : Nat)), x])) h'' s.heap.objs.size (.tup [.int (k + (i : Nat)), x]) := ⟨by show 2 ≤ sizeLine; decide, [.int (k + (i : Nat)) tk, x'], .cons ⟨_, rfl⟩ (.cons ru .nil), ⟨_, hT2, rfl, _, rfl⟩⟩
    have I1 : Inv X pins σ (upd H s.heap.objs.size (.tup [.int (k + (i : Nat)), x])) { s with heap := h'', toks := tk + 1 } := I.turnedNew (ch := [e, it]) (fun b ob hb q => (sb.2 b (fun z => hb (by simp [z]))).trans (hk b ob (fun z => hb (by simp [z])) (fun z => hb (by simp [z])) q)) hf (Nat.le_refl _) new
    refine ⟨.ref s.heap.objs.size, _, I1, rfl, ⟨_, x, rfl, I.hok.fresh (Nat.le_refl _), rfl, fun ys hy => by rw [I.list_inj hy hq]; exact hx⟩, ⟨⟨x', ?_⟩, hit'.at fun o q => (sb.2 it (Ne.symm hne)).trans q, hne, nai, nae, hin⟩, fun b hb => ?_⟩
    · have e1 : k + ((i + 1 : Nat) : Int) = k + (i : Int) + 1 := by omega
      rw [e1]
      exact he'
    · have hb' : b < s.heap.objs.size := by
        have e' : b = e ∨ b = it := by simpa using hb
        rcases e' with z | z
        · rw [z]; exact hel
        · rw [z]; exact hil
      rw [upd_ne (Nat.ne_of_lt hb')]
      exact (hf b hb).1
  done := by
    intro X hP hw hK hc i pins s σ H E I hf st hg
    subst hP hw hK
    obtain ⟨⟨old, he⟩, hit, hne, nai, nae, hin⟩ := st
    obtain ⟨hni, xs, hq, hx⟩ := hg
    obtain ⟨its, rv, p, hz⟩ := I.list hq
    obtain ⟨f0, f1, f2, f3, f4, f5⟩ := hf it (by simp)
    have hl := rv.length
    have D := Draws.list (prog := X.prog) (w := X.w) (A := X.A.in1) (I.ok.hd hc) it a nai its.toArray
    have en : its.toArray.size = i := by simp; omega
    exact wpAny_pyNext_enum_endD D he (by rw [en]; exact ⟨hit, p.isList⟩) fun h' eb => ⟨rfl, I.turned (t' := s.toks) (fun b o hb q => eb b o hb q) f0 f1 f3 f4 f5⟩
  self := fun A i s Q E st h => let ⟨⟨_, he⟩, _⟩ := st; wpAny_pyIter_enum he h
def iEnL (K : PySem.W.Frag) (ta : TA) : TI := fun σ H R => ta σ H fun vs H1 => ∃ a xs k, (vs = [.ref a] ∧ k = 0 ∨ vs = [.ref a, .int k] ∧ -(2 ^ 63) ≤ k ∧ k < 2 ^ 63) ∧ SqL K H1 a xs ∧ R (ItNL K a k xs.length) H1
theorem en_fin_L {X : Cx} {tpos : Pos} {elts : List Expr} {kk : Nat} {pins : List (Addr × Obj)} {σ : St} {H1 : Hp} {s1 : Shared} {R : It → Hp → Prop} {a : Addr} {xs : List V} {k : Int} {h' : Heap} (I1 : Inv X pins σ H1 s1) (al : a < s1.heap.objs.size) (he : IsEnum h' (s1.heap.objs.size + 1) s1.heap.objs.size k .none)
    (hit : h'.get? s1.heap.objs.size = some { cls := .type "list_iterator", data := .fields #[.ref a, .int 0 0] }) (hk : ∀ b o, s1.heap.get? b = some o → h'.get? b = some o) (q : R (ItNL X.K a k xs.length) H1) :
    wpAny (model X.prog X.w) X.A (pyIter (.ref (s1.heap.objs.size + 1))) (PIE X pins σ (.Tuple elts kk tpos) R) X.xe { s1 with heap := h' } := by
  refine wpAny_pyIter_enum he ?_
  have I2 : Inv X pins σ H1 { s1 with heap := h' } := I1.kept (t' := s1.toks) hk
  refine ⟨s1.heap.objs.size + 1, [s1.heap.objs.size + 1, s1.heap.objs.size], _, _, H1, rfl, I2, turn_nL a (s1.heap.objs.size + 1) s1.heap.objs.size k xs.length, ⟨⟨.none, ?_⟩, ⟨_, hit, rfl, rfl⟩, Nat.succ_ne_self _, Nat.ne_of_lt al, Nat.ne_of_lt (Nat.lt_succ_of_lt al), Nat.zero_le _⟩, fun b hb => ?_, q⟩
  · have e0 : k + ((0 : Nat) : Int) = k := by simp
    rw [e0]
    exact he
  have e' : b = s1.heap.objs.size + 1 ∨ b = s1.heap.objs.size := by simpa using hb
  have hle : s1.heap.objs.size ≤ b := by
    rcases e' with z | z
    · rw [z]; exact Nat.le_add_right _ _
    · rw [z]; exact Nat.le_refl _
  exact I1.fpOk hle (I1.hok.fresh hle)
theorem pi_enL {X : Cx} {e : Expr} {ta : TA} {p pos tpos : Pos} {elts : List Expr} {kk : Nat} (hg : Gl X "enumerate") (hm : X.mg "enumerate" = none) (ha : PA X [e] ta) (hs : starEach [e] X.env = [(false, eval e X.env)] := by rfl) :
    PI X (.Tuple elts kk tpos) (.Call (.Name "enumerate" p) [e] [] pos) (iEnL X.K ta) := by
  refine ⟨fun pins s σ H R I h => ?_⟩
  refine Call_ (ld_blt I hg hm boot_enumerate (PyProof.Rows.callWith_type1 (thn (ha.run pos pins s σ H _ I h) fun us s1 ⟨vs, H1, I1, r1, q1⟩ => ?_) hs rfl))
  obtain ⟨a, xs, k, ex, hq, q⟩ := q1
  rcases ex with ⟨ex, rfl⟩ | ⟨ex, _, _⟩
  · subst ex
    cases r1 with
    | cons r rr =>
      cases rr
      cases r
      obtain ⟨its, rv, p', hz⟩ := I1.list hq
      have al : a < s1.heap.objs.size := by
        obtain ⟨o1, ho1, _⟩ := id p'.isList
        exact Heap.lt_size ho1
      exact enum_begins1 (begins_list a its.toArray) p'.isList fun h' he hit hsz hk => en_fin_L I1 al he hit hk q
  · subst ex
    cases r1 with
    | cons r rr =>
      cases rr with
      | cons r' rr =>
        cases rr
        cases r
        obtain ⟨tk, rfl⟩ := r'
        obtain ⟨its, rv, p', hz⟩ := I1.list hq
        have al : a < s1.heap.objs.size := by
          obtain ⟨o1, ho1, _⟩ := id p'.isList
          exact Heap.lt_size ho1
        exact enum_begins (begins_list a its.toArray) p'.isList (by assumption) (by assumption) fun h' he hit hsz hk => en_fin_L I1 al he hit hk q
def enumF (k : Int) : List W → List W
  | [] => []
  | w :: ws => .tup [.int k, w] :: enumF (k + 1) ws
theorem enumF_get : ∀ (ws : List W) (k : Int) (i : Nat), (enumF k ws)[i]? = (ws[i]?).map fun w => .tup [.int (k + (i : Nat)), w]
  | [], k, i => by simp [enumF]
  | w :: ws, k, 0 => by simp [enumF]
  | w :: ws, k, i + 1 => by
    have e : k + 1 + (i : Int) = k + ((i + 1 : Nat) : Int) := by omega
    simp only [enumF, List.getElem?_cons_succ, enumF_get ws (k + 1) i, e]
theorem enumF_length : ∀ (ws : List W) (k : Int), (enumF k ws).length = ws.length
  | [], k => rfl
  | w :: ws, k => by simp [enumF, enumF_length ws (k + 1)]
def zipF : List W → List W → List W
  | w :: ws, u :: us => .tup [w, u] :: zipF ws us
  | _, _ => []
theorem zipF_get : ∀ (ws us : List W) (i : Nat) (x : W), (zipF ws us)[i]? = some x → ∃ w u, ws[i]? = some w ∧ us[i]? = some u ∧ x = .tup [w, u]
  | [], us, i, x, h => by simp [zipF] at h
  | w :: ws, [], i, x, h => by simp [zipF] at h
  | w :: ws, u :: us, 0, x, h => by
    simp [zipF] at h
    exact ⟨w, u, rfl, rfl, h.symm⟩
  | w :: ws, u :: us, i + 1, x, h => by
    simp only [zipF, List.getElem?_cons_succ] at h
    exact zipF_get ws us i x h
theorem zipF_length : ∀ (ws us : List W), (zipF ws us).length = min ws.length us.length
  | [], us => by simp [zipF]
  | w :: ws, [] => by simp [zipF]
  | w :: ws, u :: us => by simp [zipF, zipF_length ws us]
def enW : List W → T (List W)
  | [.tup ws] => .ok (enumF 0 ws)
  | [.lst ws] => .ok (enumF 0 ws)
  | [.tup ws, .int k] => if rngOk k then .ok (enumF k ws) else .bad
  | [.lst ws, .int k] => if rngOk k then .ok (enumF k ws) else .bad
  | _ => .bad
def isT : List W → Bool
  | .tup _ :: _ => true
  | _ => false
def enT (xs : List W) : T (List W) := if isT xs then enW xs else .bad
def enL (xs : List W) : T (List W) := if isT xs then .bad else enW xs
def zpW : List W → T (List W)
  | [.tup ws, .tup us] => .ok (zipF ws us)
  | [.lst ws, .lst us] => .ok (zipF ws us)
  | _ => .bad
section
variable {K : PySem.W.Frag} {c : Cc} {d : Dw} {H H1 : Hp}
theorem new_pair {c : Cc} {d : Dw} {H : Hp} {T : Addr} {a b : W} {x y : V} (wd : Wd c d H) (hT : H T = none) (ra : Rep K c H a x) (rb : Rep K c H b y) :
    SG c c H (upd H T (.tup [x, y])) ∧ StOk c d (upd H T (.tup [x, y])) ∧ Rep K c (upd H T (.tup [x, y])) (.tup [a, b]) (.ref T) :=
  ⟨.new hT, wd.st.new hT, .tup (SqT.of upd_same) (.cons (ra.step (.new hT) wd.st wd.ok) (.cons (rb.step (.new hT) wd.st wd.ok) .nil))⟩
theorem it_enT {a : Addr} {vs : List V} {ws : List W} (k : Int) (hq : SqT K H a vs) (rl : RepL K c H ws vs) : ItOk K c H (ItNT K a k vs.length) (enumF k ws) := fun c' H' d' i fw wd => by
  have hq' : SqT K H' a vs := fw.sq a vs hq
  refine ⟨fun w hw => ?_, fun hi => ?_⟩
  · rw [enumF_get] at hw
    cases hu : ws[i]? with
    | none =>
      rw [hu] at hw
      cases hw
    | some u =>
      rw [hu] at hw
      cases hw
      obtain ⟨v, hv, rv⟩ := rl.get hu
      refine ⟨⟨(List.getElem?_eq_some_iff.mp hv).1, vs, v, hq', rfl, hv⟩, fun x H2 y => ?_⟩
      obtain ⟨T, x', rfl, hT, rfl, y⟩ := y
      have ex := y vs hq'
      rw [hv] at ex
      cases ex
      exact new_pair wd hT (.int _) (fw.rep _ _ rv)
  · rw [enumF_length, rl.length] at hi
    exact ⟨hi, vs, hq', rfl⟩
theorem it_enL {a : Addr} {vs : List V} {ws : List W} (k : Int) (ok : CcOk c) (mo : MOk c H) (n : a ∉ c.A) (hq : H a = some (.lst vs)) (rl : RepL K c H ws vs) : ItOk K c H (ItNL K a k vs.length) (enumF k ws) := fun c' H' d' i fw wd => by
  have hq' : SqL K H' a vs := SqL.of (fw.step _ _ hq (ok.neS n) (ok.nela n) (fun z => n (mo.inA _ z)) nofun)
  refine ⟨fun w hw => ?_, fun hi => ?_⟩
  · rw [enumF_get] at hw
    cases hu : ws[i]? with
    | none =>
      rw [hu] at hw
      cases hw
    | some u =>
      rw [hu] at hw
      cases hw
      obtain ⟨v, hv, rv⟩ := rl.get hu
      refine ⟨⟨(List.getElem?_eq_some_iff.mp hv).1, vs, v, hq', rfl, hv⟩, fun x H2 y => ?_⟩
      obtain ⟨T, x', rfl, hT, rfl, y⟩ := y
      have ex := y vs hq'
      rw [hv] at ex
      cases ex
      exact new_pair wd hT (.int _) (fw.rep _ _ rv)
  · rw [enumF_length, rl.length] at hi
    exact ⟨hi, vs, hq', rfl⟩
theorem it_zpT {a b : Addr} {vs us : List V} {ws zs : List W} (hq : SqT K H a vs) (rl : RepL K c H ws vs) (hp : SqT K H b us) (rm : RepL K c H zs us) : ItOk K c H (RZ.ItzT K a b) (zipF ws zs) := fun c' H' d' i fw wd => by
  have hq' : SqT K H' a vs := fw.sq a vs hq
  have hp' : SqT K H' b us := fw.sq b us hp
  refine ⟨fun w hw => ?_, fun hi => ?_⟩
  · obtain ⟨w1, w2, h1, h2, rfl⟩ := zipF_get _ _ _ _ hw
    obtain ⟨v, hv, rv⟩ := rl.get h1
    obtain ⟨u, hu, ru⟩ := rm.get h2
    refine ⟨⟨vs, us, v, u, hq', hp', hv, hu⟩, fun x H2 y => ?_⟩
    obtain ⟨T, x', y', rfl, hT, rfl, y1, y2⟩ := y
    have ex := y1 vs hq'
    have ey := y2 us hp'
    rw [hv] at ex
    rw [hu] at ey
    cases ex
    cases ey
    exact new_pair wd hT (fw.rep _ _ rv) (fw.rep _ _ ru)
  · rw [zipF_length, rl.length, rm.length] at hi
    exact ⟨vs, us, hq', hp', by omega⟩
theorem it_zpL {a b : Addr} {vs us : List V} {ws zs : List W} (ok : CcOk c) (mo : MOk c H) (na : a ∉ c.A) (hq : H a = some (.lst vs)) (rl : RepL K c H ws vs) (nb : b ∉ c.A) (hp : H b = some (.lst us)) (rm : RepL K c H zs us) : ItOk K c H (Itz K a b) (zipF ws zs) := fun c' H' d' i fw wd => by
  have hq' : SqL K H' a vs := SqL.of (fw.step _ _ hq (ok.neS na) (ok.nela na) (fun z => na (mo.inA _ z)) nofun)
  have hp' : SqL K H' b us := SqL.of (fw.step _ _ hp (ok.neS nb) (ok.nela nb) (fun z => nb (mo.inA _ z)) nofun)
  refine ⟨fun w hw => ?_, fun hi => ?_⟩
  · obtain ⟨w1, w2, h1, h2, rfl⟩ := zipF_get _ _ _ _ hw
    obtain ⟨v, hv, rv⟩ := rl.get h1
    obtain ⟨u, hu, ru⟩ := rm.get h2
    refine ⟨⟨vs, us, v, u, hq', hp', hv, hu⟩, fun x H2 y => ?_⟩
    obtain ⟨T, x', y', rfl, hT, rfl, y1, y2⟩ := y
    have ex := y1 vs hq'
    have ey := y2 us hp'
    rw [hv] at ex
    rw [hu] at ey
    cases ex
    cases ey
    exact new_pair wd hT (fw.rep _ _ rv) (fw.rep _ _ ru)
  · rw [zipF_length, rl.length, rm.length] at hi
    exact ⟨vs, us, hq', hp', by omega⟩
end
section
variable {X : Cx} {E : WX} {e e2 : Expr} {fs : En → T (List W)} {p pos tpos : Pos} {elts : List Expr} {kk : Nat}
theorem enT_lift {ta : TA} (hl : ta = liftA X.K Γ E fs) : ∀ σ H R, liftI X.K Γ E (iL enT fs) σ H R → iEnT X.K ta σ H R := fun σ H R q => by
  subst hl
  obtain ⟨c, d, oa, ρ, e, q⟩ := q
  refine liftA_then (P := fun c H => PJ X.K c H R) e q (fun st p => p.later st) fun w v H1 d1 _ r1 e1 h1 => ?_
  cases r1 with
  | nil => exact h1.elim
  | cons r rr =>
    cases r with
    | tup hq rl =>
      cases rr with
      | nil => exact ⟨_, _, 0, .inl ⟨rfl, rfl⟩, hq, PJ.now e1.wd h1 (it_enT 0 hq rl)⟩
      | cons r2 rr =>
        cases rr with
        | cons _ _ => cases r2 <;> exact h1.elim
        | nil =>
          cases r2 with
          | int k =>
            obtain ⟨hb, h1⟩ := T.AllW.ite (show (if rngOk k then T.ok (enumF k _) else .bad).AllW _ _ _ from h1)
            exact ⟨_, _, k, .inr ⟨rfl, by have := rngOk_of hb; omega, by have := rngOk_of hb; omega⟩, hq, PJ.now e1.wd h1 (it_enT k hq rl)⟩
          | _ => exact h1.elim
    | _ => exact h1.elim
theorem enL_lift {ta : TA} (hl : ta = liftA X.K Γ E fs) : ∀ σ H R, liftI X.K Γ E (iL enL fs) σ H R → iEnL X.K ta σ H R := fun σ H R q => by
  subst hl
  obtain ⟨c, d, oa, ρ, e, q⟩ := q
  refine liftA_then (P := fun c H => PJ X.K c H R) e q (fun st p => p.later st) fun w v H1 d1 _ r1 e1 h1 => ?_
  cases r1 with
  | nil => exact h1.elim
  | cons r rr =>
    cases r with
    | lst n hq rl =>
      cases rr with
      | nil => exact ⟨_, _, 0, .inl ⟨rfl, rfl⟩, SqL.of hq, PJ.now e1.wd h1 (it_enL 0 e1.ok e1.m n hq rl)⟩
      | cons r2 rr =>
        cases rr with
        | cons _ _ => cases r2 <;> exact h1.elim
        | nil =>
          cases r2 with
          | int k =>
            obtain ⟨hb, h1⟩ := T.AllW.ite (show (if rngOk k then T.ok (enumF k _) else .bad).AllW _ _ _ from h1)
            exact ⟨_, _, k, .inr ⟨rfl, by have := rngOk_of hb; omega, by have := rngOk_of hb; omega⟩, SqL.of hq, PJ.now e1.wd h1 (it_enL k e1.ok e1.m n hq rl)⟩
          | _ => exact h1.elim
    | _ => exact h1.elim
theorem tri_enT (hg : Gl X "enumerate") (hm : X.mg "enumerate" = none) (ha : TrA Γ X E [e] fs) (hs : starEach [e] X.env = [(false, eval e X.env)] := by rfl) : TrI Γ X E (.Tuple elts kk tpos) (.Call (.Name "enumerate" p) [e] [] pos) (iL enT fs) := pi_imp (pi_enT hg hm ha hs) (enT_lift rfl)
theorem tri_enL (hg : Gl X "enumerate") (hm : X.mg "enumerate" = none) (ha : TrA Γ X E [e] fs) (hs : starEach [e] X.env = [(false, eval e X.env)] := by rfl) : TrI Γ X E (.Tuple elts kk tpos) (.Call (.Name "enumerate" p) [e] [] pos) (iL enL fs) := pi_imp (pi_enL hg hm ha hs) (enL_lift rfl)
theorem tri_zip (hg : Gl X "zip") (hm : X.mg "zip" = none) (ha : TrA Γ X E [e, e2] fs) (hs : starEach [e, e2] X.env = (false, eval e X.env) :: starEach [e2] X.env := by rfl) (hpl : (backTo pos (starEach [e2] X.env)).any (·.1) = false := by rfl) :
    TrI Γ X E (.Tuple elts kk tpos) (.Call (.Name "zip" p) [e, e2] [] pos) (iL zpW fs) := pi_imp (RZ.pi_zipA hg hm ha hs hpl) fun σ H R q => by
  obtain ⟨c, d, oa, ρ, e, q⟩ := q
  refine liftA_then (P := fun c H => PJ X.K c H R) e q (fun st p => p.later st) fun w v H1 d1 _ r1 e1 h1 => ?_
  cases r1 with
  | nil => exact h1.elim
  | cons r rr =>
    cases rr with
    | nil => cases r <;> exact h1.elim
    | cons r2 rr =>
      cases rr with
      | cons _ _ => cases r <;> cases r2 <;> exact h1.elim
      | nil =>
        cases r with
        | tup hq rl =>
          cases r2 with
          | tup hp rm => exact ⟨_, _, _, _, rfl, .inr ⟨hq, hp, PJ.now e1.wd h1 (it_zpT hq rl hp rm)⟩⟩
          | _ => exact h1.elim
        | lst n hq rl =>
          cases r2 with
          | lst n2 hp rm => exact ⟨_, _, _, _, rfl, .inl ⟨SqL.of hq, SqL.of hp, PJ.now e1.wd h1 (it_zpL e1.ok e1.m n hq rl n2 hp rm)⟩⟩
          | _ => exact h1.elim
        | _ => cases r2 <;> exact h1.elim
end
end PF
namespace PF
open PySem PySem.Spec PyProof.Rows L2
section
variable {X : Cx}
theorem callR_or {f : Value} {r r' : List V → Hp → VK → Prop} (h1 : CallR X f r) (h2 : CallR X f r') : CallR X f (fun vs H Q => r vs H Q ∨ r' vs H Q) := fun pins s σ H xs us Q I rv h => h.elim (h1 pins s σ H xs us Q I rv) (h2 pins s σ H xs us Q I rv)
theorem opR_or {f : Value → Value → Sem Value} {r r' : R2} (h1 : OpR X f r) (h2 : OpR X f r') : OpR X f (fun x y H Q => r x y H Q ∨ r' x y H Q) := fun pins s σ H x y v u Q I rx ry h => h.elim (h1 pins s σ H x y v u Q I rx ry) (h2 pins s σ H x y v u Q I rx ry)
def rSumT (K : PySem.W.Frag) : List V → Hp → VK → Prop := fun vs H Q => ∃ (a : Addr) (ns : List Int), vs = [V.ref a] ∧ SqT K H a (ns.map V.int) ∧ Q (.int ns.sum) H
theorem cr_sumT (hc : X.calm = true) : CallR X (.builtin "sum") (rSumT X.K) := by
  intro pins s σ H vs us Q I r h
  obtain ⟨a, ns, rfl, hs, q⟩ := h
  obtain ⟨its, rv, hl, _⟩ := I.tuple hs
  rw [Vals.ref1 r]
  have hi := rv.ints
  obtain ⟨xs, e⟩ := hi.allInts.items
  have hn : numsOf (intItems xs).toList = ns := by rw [← e]; exact hi.numsOf
  rw [nums_intItems] at hn
  rw [e] at hl
  refine PySem.W.ktm_sumG (I.ok.hd hc) hl fun h' tk t' hk => ⟨.int _, H, I.kept hk, ⟨_, rfl⟩, ?_⟩
  rw [preSum_eq, List.take_of_length_le (by simp), hn]
  exact q
theorem slR_or {r r' : V → Option Int → Option Int → Hp → VK → Prop} (h1 : L2.SlR X r) (h2 : L2.SlR X r') : L2.SlR X (fun x l u H Q => r x l u H Q ∨ r' x l u H Q) := fun pins s σ H x v vl vu lo hi sl Q I rx hs pl pu h => h.elim (h1 pins s σ H x v vl vu lo hi sl Q I rx hs pl pu) (h2 pins s σ H x v vl vu lo hi sl Q I rx hs pl pu)
end
theorem tuple_mul1 (l : Addr) (items : Array Value) (n : Nat) (dd : Option Addr) (sl : Array (Option Value)) (u : Tok) :
    Meets (Builtin.«tuple.__mul__» ⟨[.ref l, .int 1 u], []⟩) (fun _ R s => s.heap.get? l = some { cls := .type "tuple", dict := dd, data := .seq items n, slots := sl } ∧ R (.ok (.ret (Value.ref l))) s) :=
  .of_wp fun prog w A R s h => by
    obtain ⟨hp, g, d, tk, os⟩ := s
    obtain ⟨hl, h⟩ := h
    have f1 := AutoSeq1.idx_int
    wp_walk using wpAny_loadPart' hl
    exact ⟨_, rfl, h⟩
def rRep1 (K : PySem.W.Frag) : R2 := fun x y H Q => ∃ l xs, x = .ref l ∧ y = .int 1 ∧ SqT K H l xs ∧ Q (.ref l) H
theorem op_rep1 {X : Cx} : OpR X (binaryOp .Mult) (rRep1 X.K) := by
  intro pins s σ H x y v u Q I rx ry h
  obtain ⟨l, xs, rfl, rfl, hT, q⟩ := h
  cases rx
  obtain ⟨t, rfl⟩ := ry
  obtain ⟨its, r, ⟨⟨cls, dd, data, sl⟩, ho, hc, n, hd⟩, hs⟩ := I.tuple hT
  simp only at hc hd
  subst hc hd
  exact wpAny_binaryOp_repeat_ref (T := "tuple") (U := "int") (by decide) ⟨_, ho, rfl⟩ (fun s' => typeIs_int s' 1 t) noFill_tuple_mul F.fills_int_mul F.slot_int_rmul repeat_tuple F.slot_int_index.lookup
    (call_meets F.slot_int_rmul (typeIs_int s 1 t) F.entry_int_rmul (F.args_int_rmul_2 _ _) (int_rmul_tuple 1 t l its.toArray n dd sl)
      ⟨ho, rfl, ⟨_, ho, rfl⟩, call_meets F.slot_tuple_mul ⟨_, ho, rfl⟩ F.entry_tuple_mul (F.args_tuple_mul_2 _ _) (tuple_mul1 l its.toArray n dd sl t) ⟨ho, ⟨.ref l, H, I, rfl, q⟩⟩⟩)
def intsW : List W → Option (List Int)
  | [] => some []
  | .int b :: ws => (intsW ws).map (b :: ·)
  | _ => none
theorem intsW_map : ∀ {ws : List W} {ns : List Int}, intsW ws = some ns → ws = ns.map W.int
  | [], ns, h => by
    cases h
    rfl
  | w :: ws, ns, h => by
    cases w with
    | int b =>
      simp only [intsW] at h
      cases e : intsW ws with
      | none =>
        rw [e] at h
        cases h
      | some ms =>
        rw [e] at h
        cases h
        rw [intsW_map e]
        rfl
    | _ => cases h
@[simp] theorem intsW_of : ∀ (ns : List Int), intsW (ns.map W.int) = some ns
  | [] => rfl
  | n :: ns => by simp [intsW, intsW_of ns]
def sumW : List W → T W
  | [.lst ws] => match intsW ws with
    | some ns => .ok (.int ns.sum)
    | none => .bad
  | [.tup ws] => match intsW ws with
    | some ns => .ok (.int ns.sum)
    | none => .bad
  | _ => .bad
def greatest : List Int → Int
  | [] => 0
  | n :: ns => ns.foldl max n
def least : List Int → Int
  | [] => 0
  | n :: ns => ns.foldl min n
def maxW : List W → T W
  | [.int i, .int j] => .ok (.int (if j > i then j else i))
  | [.lst ws] => match intsW ws with
    | some (n :: ns) => .ok (.int (greatest (n :: ns)))
    | _ => .bad
  | _ => .bad
def minW : List W → T W
  | [.int i, .int j] => .ok (.int (if j < i then j else i))
  | [.lst ws] => match intsW ws with
    | some (n :: ns) => .ok (.int (least (n :: ns)))
    | _ => .bad
  | _ => .bad
theorem foldl_min_le : ∀ (ns : List Int) (n : Int), ns.foldl min n ≤ n ∧ (∀ y ∈ ns, ns.foldl min n ≤ y) ∧ (ns.foldl min n = n ∨ ns.foldl min n ∈ ns)
  | [], n => ⟨Int.le_refl _, fun y h => (by cases h), .inl rfl⟩
  | m :: ns, n => by
    obtain ⟨h1, h2, h3⟩ := foldl_min_le ns (min n m)
    rw [List.foldl_cons]
    refine ⟨by omega, fun y hy => ?_, ?_⟩
    · rcases List.mem_cons.mp hy with rfl | hy
      · omega
      · exact h2 y hy
    · rcases h3 with h3 | h3
      · rw [h3]
        by_cases h : m ≤ n
        · exact .inr (by rw [Int.min_eq_right h]; exact List.mem_cons_self ..)
        · exact .inl (Int.min_eq_left (by omega))
      · exact .inr (List.mem_cons_of_mem _ h3)
theorem least_is {ns : List Int} {m : Int} (h0 : 0 < ns.length) (h1 : m ∈ ns) (h2 : ∀ y, y ∈ ns → m ≤ y) : least ns = m := by
  cases ns with
  | nil => cases h1
  | cons n ns =>
    obtain ⟨a, b, c⟩ := foldl_min_le ns n
    show ns.foldl min n = m
    have x1 : m ≤ ns.foldl min n := by
      rcases c with c | c
      · rw [c]
        exact h2 n (List.mem_cons_self ..)
      · exact h2 _ (List.mem_cons_of_mem _ c)
    have x2 : ns.foldl min n ≤ m := by
      rcases List.mem_cons.mp h1 with rfl | h1
      · exact a
      · exact b m h1
    omega
def tupOfW : List W → T W
  | [.lst ws] => .ok (.tup ws)
  | [.tup ws] => .ok (.tup ws)
  | _ => .bad
def lstOfW : List W → T W
  | [.lst ws] => .ok (.lst ws)
  | [.tup ws] => .ok (.lst ws)
  | _ => .bad
section
variable {K : PySem.W.Frag}
theorem sem_sum : SemL K (fun vs H Q => rSum K vs H Q ∨ rSumT K vs H Q) sumW := fun c d H x v Q E' wd rx q => by
  cases rx with
  | nil => exact q.elim
  | cons r rr =>
    cases rr with
    | cons _ _ => cases r <;> exact q.elim
    | nil =>
      cases r with
      | lst n h rl =>
        simp only [sumW] at q
        split at q
        · rename_i ns hi
          rw [intsW_map hi] at rl
          rw [rl.ints] at h
          exact .inl ⟨_, ns, rfl, SqL.of h, PQ.now wd q (.int _)⟩
        · exact q.elim
      | tup h rl =>
        simp only [sumW] at q
        split at q
        · rename_i ns hi
          rw [intsW_map hi] at rl
          rw [rl.ints] at h
          exact .inr ⟨_, ns, rfl, h, PQ.now wd q (.int _)⟩
        · exact q.elim
      | _ => exact q.elim
theorem sem_min : SemL K (fun vs H Q => (∃ i j, vs = [.int i, .int j] ∧ Q (.int (if j < i then j else i)) H) ∨ rMin K vs H Q) minW := fun c d H x v Q E' wd rx q => by
  cases rx with
  | nil => exact q.elim
  | cons r rr =>
    cases rr with
    | cons r2 rr =>
      cases rr with
      | cons _ _ => cases r <;> cases r2 <;> exact q.elim
      | nil => cases r <;> cases r2 <;> first | exact q.elim | exact .inl ⟨_, _, rfl, PQ.now wd q (.int _)⟩
    | nil =>
      cases r with
      | lst n h rl =>
        simp only [minW] at q
        split at q
        · rename_i m ns hi
          rw [intsW_map hi] at rl
          rw [rl.ints] at h
          refine .inr ⟨_, m :: ns, rfl, SqL.of h, Nat.succ_pos _, fun z h1 h2 => ?_⟩
          rw [← least_is (ns := m :: ns) (Nat.succ_pos _) h1 h2]
          exact PQ.now wd q (.int _)
        · exact q.elim
      | _ => exact q.elim
theorem sem_tupOf : SemL K (fun xs H Q => ∃ p ys, xs = [.ref p] ∧ ((SqL K H p ys ∧ ∀ l, H l = none → Q (.ref l) (upd H l (.tup ys))) ∨ (SqT K H p ys ∧ Q (.ref p) H))) tupOfW := fun c d H x v Q E' wd rx q => by
  cases rx with
  | nil => exact q.elim
  | cons r rr =>
    cases rr with
    | cons _ _ => cases r <;> exact q.elim
    | nil =>
      cases r with
      | lst n h rl => exact ⟨_, _, rfl, .inl ⟨SqL.of h, fun l hl => q _ _ (.new hl) (wd.st.new hl) (.tup (SqT.of upd_same) (rl.step (.new hl) wd.st wd.ok))⟩⟩
      | tup h rl => exact ⟨_, _, rfl, .inr ⟨h, PQ.now wd q (.tup h rl)⟩⟩
      | _ => exact q.elim
theorem sem_lstOf : SemL K (fun xs H Q => ∃ p ys, xs = [.ref p] ∧ (SqL K H p ys ∨ SqT K H p ys) ∧ ∀ l, H l = none → Q (.ref l) (upd H l (.lst ys))) lstOfW := fun c d H x v Q E' wd rx q => by
  cases rx with
  | nil => exact q.elim
  | cons r rr =>
    cases rr with
    | cons _ _ => cases r <;> exact q.elim
    | nil =>
      cases r with
      | lst n h rl => exact ⟨_, _, rfl, .inl (SqL.of h), fun l hl => q _ _ (.new hl) (wd.st.new hl) (.lst (wd.fresh hl) upd_same (rl.step (.new hl) wd.st wd.ok))⟩
      | tup h rl => exact ⟨_, _, rfl, .inr h, fun l hl => q _ _ (.new hl) (wd.st.new hl) (.lst (wd.fresh hl) upd_same (rl.step (.new hl) wd.st wd.ok))⟩
      | _ => exact q.elim
def cutW (ws : List W) (lo hi : Option Int) : List W := (ws.drop (HT.sIx ws.length 0 lo)).take (HT.sIx ws.length ws.length hi - HT.sIx ws.length 0 lo)
theorem RepL.cut {c : Cc} {H : Hp} {ws : List W} {vs : List V} (r : RepL K c H ws vs) (lo hi : Option Int) : RepL K c H (cutW ws lo hi) (cutV vs lo hi) := by
  unfold cutW cutV
  rw [r.length]
  exact (r.drop _).take _
def slW (x : W) (lo hi : Option Int) : T W := match x with
  | .tup ws => .ok (.tup (cutW ws lo hi))
  | .lst ws => .ok (.lst (cutW ws lo hi))
  | _ => .bad
def pInt : W → T Int
  | .int i => .ok i
  | _ => .bad
def fSl (fa : En → T W) (fl fh : En → T (Option Int)) : En → T W := fun ρ => (fa ρ).bind fun x => (fl ρ).bind fun l => (fh ρ).bind fun u => slW x l u
def pNo : En → T (Option Int) := fun _ => .ok none
def pSome (f : En → T W) : En → T (Option Int) := fun ρ => (f ρ).bind fun x => (pInt x).bind fun i => .ok (some i)
def PO1 (c : Cc) (H : Hp) (Q : Option Int → Hp → Prop) : Dw → Option Int → Prop := fun d o => ∀ ⦃c' : Cc⦄ H', SG c c' H H' → StOk c' d H' → Q o H'
theorem PO1.later {c c1 : Cc} {H H1 : Hp} {Q : Option Int → Hp → Prop} {d : Dw} {o : Option Int} (s : SG c c1 H H1) (h : PO1 c H Q d o) : PO1 c1 H1 Q d o := fun _ H' st so => h H' (s.trans st) so
def liftO (K : PySem.W.Frag) (Γ : Cl) (E : WX) (f : En → T (Option Int)) : TO := fun σ H Q => ∃ c d oa ρ, EnvOk K Γ c d oa ρ σ H ∧ (f ρ).AllW (PO1 c H Q) (PX K c H fun cls dx H' => E cls dx σ H') d
def TrO (Γ : Cl) (X : Cx) (E : WX) (e : Option Expr) (f : En → T (Option Int)) : Prop := PO X e (liftO X.K Γ E f)
theorem po_imp {X : Cx} {e : Option Expr} {t t' : TO} (h : PO X e t) (i : ∀ σ H Q, t' σ H Q → t σ H Q) : PO X e t' := ⟨fun pins s σ H Q I q => h.run pins s σ H Q I (i σ H Q q)⟩
theorem tro_no {X : Cx} {E : WX} : TrO Γ X E none pNo := po_imp po_none fun σ H Q q => by
  obtain ⟨c, d, oa, ρ, e, q⟩ := q
  exact q H (.refl _ H) e.st
theorem tro_some {X : Cx} {E : WX} {e : Expr} {f : En → T W} (h : TrE Γ X E e f) : TrO Γ X E (some e) (pSome f) := po_imp (po_some h) fun σ H Q q => by
  obtain ⟨c, d, oa, ρ, e, q⟩ := q
  refine lift_then (P := fun c H => PO1 c H Q) e q (fun st p => p.later st) fun w v H1 d1 _ r1 e1 h1 => ?_
  cases r1 with
  | int i => exact ⟨i, rfl, h1 H1 (.refl _ H1) e1.st⟩
  | _ => exact h1.elim
theorem liftO_then {E : WX} {c : Cc} {d : Dw} {oa : Nat → Addr} {ρ : En} {σ : L2.St} {H : Hp} {β : Type} {fo : En → T (Option Int)} {P : Cc → Hp → Dw → β → Prop} {G : Option Int → T β} {R : Option Int → Hp → Prop} (e : EnvOk K Γ c d oa ρ σ H) (h : ((fo ρ).bind G).AllW (P c H) (PX K c H fun cls dx H' => E cls dx σ H') d)
    (lt : ∀ {c1 H1 d a}, SG c c1 H H1 → P c H d a → P c1 H1 d a) (go : ∀ {c1 : Cc} b H1 d1, SG c c1 H H1 → EnvOk K Γ c1 d1 oa ρ σ H1 → (G b).AllW (P c1 H1) (PX K c1 H1 fun cls dx H' => E cls dx σ H') d1 → R b H1) : liftO K Γ E fo σ H R := by
  refine ⟨c, d, oa, ρ, e, T.AllW.imp (fun d1 w x => ?_) (fun _ _ _ x => x) (T.allW_bind.mp h)⟩
  intro _ H1 st so
  exact go w H1 d1 st (e.step st so) (T.AllW.imp (fun _ _ y => lt st y) (fun _ _ _ y => y.later st) x)
theorem cut_all {ws : List W} {lo hi : Option Int} {n : Nat} (hn : ws.length = n) (h : HT.sIx n 0 lo = 0 ∧ HT.sIx n n hi = n) : cutW ws lo hi = ws := by
  unfold cutW
  rw [hn, h.1, h.2]
  simp [← hn]
theorem tr_slice {X : Cx} {E : WX} {e : Expr} {lo hi : Option Expr} {fa : En → T W} {fl fh : En → T (Option Int)} {pos p2 : Pos} (ha : TrE Γ X E e fa) (hl : TrO Γ X E lo fl) (hh : TrO Γ X E hi fh) : TrE Γ X E (.Subscript e (.Slice lo hi none p2) pos) (fSl fa fl fh) :=
  pe_imp (pe_slice (slR_or sl_tupA sl_list) ha hl hh) fun σ H Q q => by
  obtain ⟨c, d, oa, ρ, e, q⟩ := q
  refine lift_then (P := fun c H => PQ X.K c H Q) e q (fun st p => p.later st) fun w v H1 d1 st1 r1 e1 h1 => ?_
  refine liftO_then (P := fun c H => PQ X.K c H Q) e1 h1 (fun st p => p.later st) fun l H2 d2 st2 e2 h2 => ?_
  refine liftO_then (P := fun c H => PQ X.K c H Q) e2 h2 (fun st p => p.later st) @fun c3 u H3 d3 st3 e3 h3 => ?_
  have r3 := (r1.step st2 e1.st e1.ok).step st3 e2.st e2.ok
  cases r3 with
  | tup hq rl =>
    refine .inl ⟨_, _, rfl, hq, fun z => ?_, fun z p hp => ?_⟩
    · rw [← rl.length] at z
      have h4 : PQ X.K c3 H3 Q d3 (.tup (cutW _ l u)) := h3
      rw [cut_all rfl z] at h4
      exact PQ.now e3.wd h4 (.tup hq rl)
    · exact h3 _ _ (.new hp) (e3.st.new hp) (.tup (SqT.of upd_same) ((rl.cut l u).step (.new hp) e3.st e3.ok))
  | lst n hq rl => exact .inr ⟨_, _, rfl, SqL.of hq, fun p hp => h3 _ _ (.new hp) (e3.st.new hp) (.lst (e3.wd.fresh hp) upd_same ((rl.cut l u).step (.new hp) e3.st e3.ok))⟩
  | _ => exact h3.elim
def manyW (k : Nat) (ws : List W) : List W := (List.replicate k ws).flatten
theorem RepL.many {c : Cc} {H : Hp} {ws : List W} {vs : List V} (r : RepL K c H ws vs) : ∀ (k : Nat), RepL K c H (manyW k ws) (List.replicate k vs).flatten
  | 0 => by
    unfold manyW
    simp only [List.replicate_zero, List.flatten_nil]
    exact .nil
  | k + 1 => by
    have := RepL.many r k
    unfold manyW at *
    rw [List.replicate_succ, List.replicate_succ, List.flatten_cons, List.flatten_cons]
    exact r.append this
@[irreducible] def tmulOk (n : Nat) (k : Int) : Bool := decide (0 < n ∧ n ≤ 1000 ∧ 2 ≤ k ∧ k ≤ 1000)
@[irreducible] def lmulOk (n : Nat) (k : Int) : Bool := rngOk k && decide (n * k.toNat ≤ 16777216)
def mulT : W → W → T W
  | .tup ws, .int k => if tmulOk ws.length k then .ok (.tup (manyW k.toNat ws)) else .bad
  | _, _ => .bad
def mul1 : W → W → T W
  | .tup ws, .int 1 => .ok (.tup ws)
  | _, _ => .bad
def mulL : W → W → T W
  | .lst ws, .int k => if lmulOk ws.length k then .ok (.lst (manyW k.toNat ws)) else .bad
  | _, _ => .bad
theorem sem_mulT : Sem2 K (rRepT K) mulT := fun c d H x y v u Q E' wd rx ry q => by
  cases rx with
  | tup hq rl =>
    cases ry with
    | int k =>
      obtain ⟨h, q⟩ := T.AllW.ite q
      unfold tmulOk at h
      obtain ⟨h0, h1, h2, h3⟩ := of_decide_eq_true h
      refine ⟨_, k, _, rfl, rfl, hq, fun z => ?_, h2, h3, by rw [← rl.length]; exact h1, fun p hp => q _ _ (.new hp) (wd.st.new hp) (.tup (SqT.of upd_same) ((rl.many _).step (.new hp) wd.st wd.ok))⟩
      rw [rl.length, z] at h0
      cases h0
    | _ => exact q.elim
  | _ => cases ry <;> exact q.elim
theorem sem_mul1 : Sem2 K (rRep1 K) mul1 := fun c d H x y v u Q E' wd rx ry q => by
  cases rx with
  | tup hq rl =>
    cases ry with
    | int k =>
      unfold mul1 at q
      split at q
      · rename_i e1 e2
        cases e1
        cases e2
        exact ⟨_, _, rfl, rfl, hq, PQ.now wd q (.tup hq rl)⟩
      · exact q.elim
    | _ => exact q.elim
  | _ => cases ry <;> exact q.elim
end
end PF
namespace PF
open PySem PySem.Spec PyProof.Rows L2
abbrev Cc.mine (c : Cc) (D : Addr) : Cc := { c with A := D :: c.A, M := D :: c.M }
abbrev Cc.less (c : Cc) (D : Addr) : Cc := { c with A := c.A.filter (fun b => decide (b ≠ D)), M := c.M.filter (fun b => decide (b ≠ D)) }
section
variable {K : PySem.W.Frag} {c : Cc} {d : Dw} {oa : Nat → Addr} {ρ : En} {σ : L2.St} {H H' : Hp} {D : Addr} {i : Nat}
theorem Rep.mine {w : W} {v : V} (h : Rep K (c.more D) H w v) : Rep K (c.mine D) H w v := Rep.weak (c := c.mine D) (c1 := c.more D) rfl rfl (fun _ h => h) h
theorem RepL.mine {w : List W} {v : List V} (h : RepL K (c.more D) H w v) : RepL K (c.mine D) H w v := RepL.weak (c := c.mine D) (c1 := c.more D) rfl rfl (fun _ h => h) h
theorem st_ne (so : StOk c d H) (n : H D = none) : D ∉ [c.S, c.ca, c.la] := by
  obtain ⟨⟨cells, lefts, k, r, h1, h2, h3, _⟩, _⟩ := so
  simp only [List.mem_cons, not_or, List.not_mem_nil, not_false_eq_true, and_true]
  exact ⟨Ne.symm (ne_of_none h1 n), Ne.symm (ne_of_none h2 n), Ne.symm (ne_of_none h3 n)⟩
theorem StOk.mine {o : HO} (s : StOk c d H) (n : H D = none) : StOk (c.mine D) d (L2.upd H D o) := (s.more n).weak rfl rfl rfl rfl rfl rfl rfl (fun _ h => h) ⟨List.mem_cons_of_mem _ s.2.ok.inS, List.mem_cons_of_mem _ s.2.ok.inla, List.mem_cons_of_mem _ s.2.ok.inca⟩
/-- a list of the frame's own is laid -/
theorem EnvOk.mine {xs : List V} (e : EnvOk K Γ c d oa ρ σ H) (n : H D = none) : EnvOk K Γ (c.mine D) d oa ρ σ (L2.upd H D (.lst xs)) where
  ok := ⟨List.mem_cons_of_mem _ e.ok.inS, List.mem_cons_of_mem _ e.ok.inla, List.mem_cons_of_mem _ e.ok.inca⟩
  st := e.st.mine n
  av := (e.more n).av
  len := e.len
  val := fun i w h => by
    obtain ⟨v, h1, h2⟩ := e.val i w h
    exact ⟨v, h1, (h2.more n (.new n) e.st e.ok).mine⟩
  m := ⟨fun b hb => by
      rcases List.mem_cons.mp hb with rfl | hb
      · exact List.mem_cons_self ..
      · exact List.mem_cons_of_mem _ (e.m.inA b hb), fun b hb => by
      rcases List.mem_cons.mp hb with rfl | hb
      · exact st_ne (c := c) e.st n
      · exact e.m.nst b hb, fun b hb => by
      rcases List.mem_cons.mp hb with rfl | hb
      · exact ⟨_, upd_same, .inl ⟨_, rfl⟩⟩
      · obtain ⟨ys, h, w⟩ := e.m.ls b hb
        exact ⟨ys, by rw [upd_ne (ne_of_none h n)]; exact h, w⟩⟩
  own := fun i ws h => by
    obtain ⟨h1, h3, vs, h4, h5⟩ := e.own i ws h
    exact ⟨List.mem_cons_of_mem _ h1, h3, vs, by rw [upd_ne (ne_of_none h4 n)]; exact h4, (h5.more n (.new n) e.st e.ok).mine⟩
  inj := e.inj
  odc := fun i ws h => by
    obtain ⟨h1, h3, vs, h4, h5⟩ := e.odc i ws h
    exact ⟨List.mem_cons_of_mem _ h1, h3, vs, by rw [upd_ne (ne_of_none h4 n)]; exact h4, h5.1, (h5.2.more n (.new n) e.st e.ok).mine⟩
  ido := e.ido
  odt := fun i ws h => by
    obtain ⟨h1, h3, vs, h4, h5⟩ := e.odt i ws h
    exact ⟨List.mem_cons_of_mem _ h1, h3, vs, by rw [upd_ne (ne_of_none h4 n)]; exact h4, h5.1, (h5.2.more n (.new n) e.st e.ok).mine⟩
  idt := e.idt
  tT := e.tT
  cC := e.cC
  kK := e.kK
theorem Fwd.mine {o : HO} (n : H D = none) (wd : Wd c d H) : Fwd K c H (c.mine D) (L2.upd H D o) where
  S := rfl
  ca := rfl
  la := rfl
  T := rfl
  C := rfl
  KK := rfl
  O := List.prefix_rfl
  sub := fun b h _ => List.mem_cons_of_mem _ h
  fr := fun b h => by
    rcases List.mem_cons.mp h with rfl | h
    · have h0 := st_ne wd.st n
      simp only [List.mem_cons, not_or] at h0
      exact .inr ⟨wd.fresh n, h0.1, h0.2.2.1, n⟩
    · exact .inl h
  step := fun b o h _ _ _ _ => by
    rw [upd_ne (ne_of_none h n)]
    exact h
  tbl := fun b ps h _ => ⟨#[], by rw [upd_ne (ne_of_none h n), h]; simp⟩
  rep := fun w v r => (r.more n (.new n) wd.st wd.ok).mine
  sq := fun a vs h => (Step.new (c := c) n).sqT wd.st h
  ins := fun b C dx fs h _ => ⟨fs, by rw [upd_ne (ne_of_none h n)]; exact h⟩
/-- a slot takes a list of the frame's own -/
theorem EnvOk.ownSet {ws : List W} {vs : List V} (e : EnvOk K Γ c d oa ρ σ H) (hm : D ∈ c.M) (hl : H D = some (.lst vs)) (rl : RepL K c H ws vs) (ho : ∀ (j : Nat) (us : List W), j ≠ i → ρ[j]? = some (.own us) → oa j ≠ D) :
    EnvOk K Γ c d (fun j => if j = i then D else oa j) (ρ.set i (.own ws)) (σ.set i (some (.ref D))) H where
  ok := e.ok
  st := e.st
  av := e.av
  m := e.m
  len := by rw [List.length_set, List.length_set]; exact e.len
  val := fun j x h => by
    rcases getElem?_set_or h with ⟨ej, ex⟩ | ⟨n, h'⟩
    · cases ex
    · obtain ⟨u, h1, h2⟩ := e.val j x h'
      exact ⟨u, by rw [List.getElem?_set_ne (Ne.symm n)]; exact h1, h2⟩
  own := fun j x h => by
    rcases getElem?_set_or h with ⟨ej, ex⟩ | ⟨n, h'⟩
    · cases ex
      subst ej
      have hj : j < σ.length := by
        by_cases hl : j < ρ.length
        · rw [← e.len]
          exact hl
        · rw [List.getElem?_eq_none (by simpa using hl)] at h
          cases h
      rw [if_pos rfl]
      exact ⟨hm, by rw [List.getElem?_set_self hj], vs, hl, rl⟩
    · obtain ⟨h1, h3, h4⟩ := e.own j x h'
      rw [if_neg n]
      exact ⟨h1, by rw [List.getElem?_set_ne (Ne.symm n)]; exact h3, h4⟩
  inj := fun a b x y h1 h2 he => by
    rcases getElem?_set_or h1 with ⟨ea, _⟩ | ⟨na, h1'⟩
    · rcases getElem?_set_or h2 with ⟨eb, _⟩ | ⟨nb, h2'⟩
      · rw [ea, eb]
      · rw [ea, if_pos rfl, if_neg nb] at he
        exact absurd he.symm (ho b y nb h2')
    · rcases getElem?_set_or h2 with ⟨eb, _⟩ | ⟨nb, h2'⟩
      · rw [eb, if_pos rfl, if_neg na] at he
        exact absurd he (ho a x na h1')
      · rw [if_neg na, if_neg nb] at he
        exact e.inj a b x y h1' h2' he
  odc := fun j x h => by
    rcases getElem?_set_or h with ⟨ej, ex⟩ | ⟨n, h'⟩
    · cases ex
    · obtain ⟨h1, h3, h4⟩ := e.odc j x h'
      rw [if_neg n]
      exact ⟨h1, by rw [List.getElem?_set_ne (Ne.symm n)]; exact h3, h4⟩
  ido := fun a b x y h1 h2 he => by
    rcases getElem?_set_or h1 with ⟨ea, ex⟩ | ⟨na, h1'⟩
    · cases ex
    · rcases getElem?_set_or h2 with ⟨eb, ex⟩ | ⟨nb, h2'⟩
      · cases ex
      · rw [if_neg na, if_neg nb] at he
        exact e.ido a b x y h1' h2' he
  odt := fun j x h => by
    rcases getElem?_set_or h with ⟨ej, ex⟩ | ⟨n, h'⟩
    · cases ex
    · obtain ⟨h1, h3, h4⟩ := e.odt j x h'
      rw [if_neg n]
      exact ⟨h1, by rw [List.getElem?_set_ne (Ne.symm n)]; exact h3, h4⟩
  idt := fun a b x y h1 h2 he => by
    rcases getElem?_set_or h1 with ⟨ea, ex⟩ | ⟨na, h1'⟩
    · cases ex
    · rcases getElem?_set_or h2 with ⟨eb, ex⟩ | ⟨nb, h2'⟩
      · cases ex
      · rw [if_neg na, if_neg nb] at he
        exact e.idt a b x y h1' h2' he
  tT := e.tT
  cC := e.cC
  kK := e.kK
theorem EnvOk.ownNe {a : Addr} (e : EnvOk K Γ c d oa ρ σ H) (n : H a = none) : ∀ (j : Nat) (us : List W), j ≠ i → ρ[j]? = some (.own us) → oa j ≠ a := fun j us _ h => by
  obtain ⟨_, _, zs, h4, _⟩ := e.own j us h
  exact ne_of_none h4 n
/-- one of them is changed -/
theorem EnvOk.ownUpd {ws us : List W} {ys : List V} (e : EnvOk K Γ c d oa ρ σ H) (h : ρ[i]? = some (.own ws)) (rl : RepL K c H us ys) :
    EnvOk K Γ c d oa (ρ.set i (.own us)) σ (L2.upd H (oa i) (.lst ys)) ∧ Fwd K c H c (L2.upd H (oa i) (.lst ys)) := by
  obtain ⟨h1, h3, vs, h4, h5⟩ := e.own i ws h
  have hA := e.m.inA _ h1
  have hn := e.m.nst _ h1
  have up : ∀ {w : W} {v : V}, Rep K c H w v → Rep K c (L2.upd H (oa i) (.lst ys)) w v := fun r => r.upd hA h4 (fun _ z => by cases z) (fun _ _ z => by cases z)
  have upl : ∀ {w : List W} {v : List V}, RepL K c H w v → RepL K c (L2.upd H (oa i) (.lst ys)) w v := fun r => r.upd hA h4 (fun _ z => by cases z) (fun _ _ z => by cases z)
  refine ⟨?_, rfl, rfl, rfl, rfl, rfl, rfl, List.prefix_rfl, fun b hb _ => hb, fun b hb => .inl hb, fun b o hb _ _ nm _ => ?_, fun b ps hb nm => ⟨#[], by rw [upd_ne (fun z => nm (by rw [z]; exact h1)), hb]; simp⟩, fun w v r => up r, fun a vs h => sqT_upd h4 (fun _ z => by cases z) (fun _ _ z => by cases z) h, fun b C dx fs hb _ => ⟨fs, by rw [upd_ne (ne_of hb h4 nofun)]; exact hb⟩⟩
  · exact {
      ok := e.ok
      st := e.st.upd hA hn h4
      av := fun b hb => by
        by_cases hb' : b = oa i
        · rw [hb']
          exact ⟨_, upd_same, .inl ⟨_, rfl⟩⟩
        · obtain ⟨o, h, w⟩ := e.av b hb
          exact ⟨o, by rw [upd_ne hb']; exact h, w⟩
      m := ⟨e.m.inA, e.m.nst, fun b hb => by
        by_cases hb' : b = oa i
        · rw [hb']
          exact ⟨_, upd_same, .inl ⟨_, rfl⟩⟩
        · obtain ⟨xs, h, w⟩ := e.m.ls b hb
          exact ⟨xs, by rw [upd_ne hb']; exact h, w⟩⟩
      len := by rw [List.length_set]; exact e.len
      val := fun j x hx => by
        rcases getElem?_set_or hx with ⟨ej, ex⟩ | ⟨n, h'⟩
        · cases ex
        · obtain ⟨u, g1, g2⟩ := e.val j x h'
          exact ⟨u, g1, up g2⟩
      own := fun j x hx => by
        rcases getElem?_set_or hx with ⟨ej, ex⟩ | ⟨n, h'⟩
        · cases ex
          subst ej
          exact ⟨h1, h3, ys, upd_same, upl rl⟩
        · obtain ⟨g1, g3, zs, g4, g5⟩ := e.own j x h'
          exact ⟨g1, g3, zs, by rw [upd_ne (fun z => n (e.inj j i x ws h' h z))]; exact g4, upl g5⟩
      inj := fun a b x y g1 g2 he => by
        have f : ∀ {a : Nat} {x : List W}, (ρ.set i (.own us))[a]? = some (.own x) → ∃ x', ρ[a]? = some (.own x') := fun g => by
          rcases getElem?_set_or g with ⟨ea, _⟩ | ⟨_, g'⟩
          · exact ⟨ws, by rw [ea]; exact h⟩
          · exact ⟨_, g'⟩
        obtain ⟨x', f1⟩ := f g1
        obtain ⟨y', f2⟩ := f g2
        exact e.inj a b x' y' f1 f2 he
      odc := fun j x hx => by
        rcases getElem?_set_or hx with ⟨ej, ex⟩ | ⟨n, h'⟩
        · cases ex
        · obtain ⟨g1, g3, zs, g4, g5⟩ := e.odc j x h'
          have ne : oa j ≠ oa i := fun z => by
            rw [z, h4] at g4
            cases g4
          exact ⟨g1, g3, zs, by rw [upd_ne ne]; exact g4, g5.1, upl g5.2⟩
      ido := fun a b x y g1 g2 he => by
        rcases getElem?_set_or g1 with ⟨_, ex⟩ | ⟨_, g1'⟩
        · cases ex
        · rcases getElem?_set_or g2 with ⟨_, ex⟩ | ⟨_, g2'⟩
          · cases ex
          · exact e.ido a b x y g1' g2' he
      odt := fun j x hx => by
        rcases getElem?_set_or hx with ⟨ej, ex⟩ | ⟨n, h'⟩
        · cases ex
        · obtain ⟨g1, g3, zs, g4, g5⟩ := e.odt j x h'
          have ne : oa j ≠ oa i := fun z => by
            rw [z, h4] at g4
            cases g4
          exact ⟨g1, g3, zs, by rw [upd_ne ne]; exact g4, g5.1, upl g5.2⟩
      idt := fun a b x y g1 g2 he => by
        rcases getElem?_set_or g1 with ⟨_, ex⟩ | ⟨_, g1'⟩
        · cases ex
        · rcases getElem?_set_or g2 with ⟨_, ex⟩ | ⟨_, g2'⟩
          · cases ex
          · exact e.idt a b x y g1' g2' he
      tT := e.tT
      cC := e.cC
      kK := e.kK }
  · rw [upd_ne (fun z => nm (by rw [z]; exact h1))]
    exact hb
/-- one of them becomes plain data -/
theorem Fwd.less (m : MOk c H) (hm : D ∈ c.M) : Fwd K c H (c.less D) H where
  S := rfl
  ca := rfl
  la := rfl
  T := rfl
  C := rfl
  KK := rfl
  O := List.prefix_rfl
  sub := fun b h n => List.mem_filter.mpr ⟨h, decide_eq_true (fun z => n (by rw [z]; exact hm))⟩
  fr := fun b h => .inl (List.mem_filter.mp h).1
  step := fun b o h _ _ _ _ => h
  tbl := fun b ps h _ => ⟨#[], by rw [h]; simp⟩
  rep := fun w v r => Rep.weak (c := c.less D) (c1 := c) rfl rfl (fun b hb => (List.mem_filter.mp hb).1) r
  sq := fun a vs h => h
  ins := fun b C dx fs h _ => ⟨fs, h⟩
def frz (i : Nat) (ρ : En) : En := match ρ[i]? with
  | some (.own ws) => ρ.set i (.val (.lst ws))
  | some (.odc kvs) => ρ.set i (.val (.dct (kvs.map (·.1)) (kvs.map (·.2))))
  | _ => ρ
theorem EnvOk.frz (e : EnvOk K Γ c d oa ρ σ H) (i : Nat) : ∃ c', EnvOk K Γ c' d oa (frz i ρ) σ H ∧ Fwd K c H c' H ∧ c'.S = c.S ∧ c'.ca = c.ca ∧ c'.la = c.la ∧ c'.T = c.T ∧ c'.K = c.K ∧ c'.O = c.O := by
  unfold PF.frz
  split
  · rename_i ws h
    obtain ⟨h1, h3, vs, h4, h5⟩ := e.own i ws h
    have hn := e.m.nst _ h1
    simp only [List.mem_cons, not_or] at hn
    have wk : ∀ {w : W} {v : V}, Rep K c H w v → Rep K (c.less (oa i)) H w v := fun r => Rep.weak (c := c.less (oa i)) (c1 := c) rfl rfl (fun b hb => (List.mem_filter.mp hb).1) r
    have wkl : ∀ {w : List W} {v : List V}, RepL K c H w v → RepL K (c.less (oa i)) H w v := fun r => RepL.weak (c := c.less (oa i)) (c1 := c) rfl rfl (fun b hb => (List.mem_filter.mp hb).1) r
    refine ⟨c.less (oa i), ?_, Fwd.less e.m h1, rfl, rfl, rfl, rfl, rfl, rfl⟩
    exact {
      ok := ⟨List.mem_filter.mpr ⟨e.ok.inS, decide_eq_true (Ne.symm hn.1)⟩, List.mem_filter.mpr ⟨e.ok.inla, decide_eq_true (Ne.symm hn.2.2.1)⟩, List.mem_filter.mpr ⟨e.ok.inca, decide_eq_true (Ne.symm hn.2.1)⟩⟩
      st := e.st.weak rfl rfl rfl rfl rfl rfl rfl (fun b hb => (List.mem_filter.mp hb).1) ⟨List.mem_filter.mpr ⟨e.ok.inS, decide_eq_true (Ne.symm hn.1)⟩, List.mem_filter.mpr ⟨e.ok.inla, decide_eq_true (Ne.symm hn.2.2.1)⟩, List.mem_filter.mpr ⟨e.ok.inca, decide_eq_true (Ne.symm hn.2.1)⟩⟩
      av := fun b hb => e.av b (List.mem_filter.mp hb).1
      m := ⟨fun b hb => List.mem_filter.mpr ⟨e.m.inA b (List.mem_filter.mp hb).1, (List.mem_filter.mp hb).2⟩, fun b hb => e.m.nst b (List.mem_filter.mp hb).1, fun b hb => e.m.ls b (List.mem_filter.mp hb).1⟩
      len := by rw [List.length_set]; exact e.len
      val := fun j x hx => by
        rcases getElem?_set_or hx with ⟨ej, ex⟩ | ⟨n, h'⟩
        · cases ex
          subst ej
          exact ⟨_, h3, .lst (fun z => of_decide_eq_true (List.mem_filter.mp z).2 rfl) h4 (wkl h5)⟩
        · obtain ⟨u, g1, g2⟩ := e.val j x h'
          exact ⟨u, g1, wk g2⟩
      own := fun j x hx => by
        rcases getElem?_set_or hx with ⟨ej, ex⟩ | ⟨n, h'⟩
        · cases ex
        · obtain ⟨g1, g3, zs, g4, g5⟩ := e.own j x h'
          exact ⟨List.mem_filter.mpr ⟨g1, decide_eq_true fun z => n (e.inj j i x ws h' h z)⟩, g3, zs, g4, wkl g5⟩
      inj := fun a b x y g1 g2 he => by
        rcases getElem?_set_or g1 with ⟨_, ex⟩ | ⟨_, g1'⟩
        · cases ex
        · rcases getElem?_set_or g2 with ⟨_, ex⟩ | ⟨_, g2'⟩
          · cases ex
          · exact e.inj a b x y g1' g2' he
      odc := fun j x hx => by
        rcases getElem?_set_or hx with ⟨ej, ex⟩ | ⟨n, h'⟩
        · cases ex
        · obtain ⟨g1, g3, zs, g4, g5⟩ := e.odc j x h'
          exact ⟨List.mem_filter.mpr ⟨g1, decide_eq_true fun z => by
            rw [z, h4] at g4
            cases g4⟩, g3, zs, g4, g5.1, wkl g5.2⟩
      ido := fun a b x y g1 g2 he => by
        rcases getElem?_set_or g1 with ⟨_, ex⟩ | ⟨_, g1'⟩
        · cases ex
        · rcases getElem?_set_or g2 with ⟨_, ex⟩ | ⟨_, g2'⟩
          · cases ex
          · exact e.ido a b x y g1' g2' he
      odt := fun j x hx => by
        rcases getElem?_set_or hx with ⟨ej, ex⟩ | ⟨n, h'⟩
        · cases ex
        · obtain ⟨g1, g3, zs, g4, g5⟩ := e.odt j x h'
          exact ⟨List.mem_filter.mpr ⟨g1, decide_eq_true fun z => by
            rw [z, h4] at g4
            cases g4⟩, g3, zs, g4, g5.1, wkl g5.2⟩
      idt := fun a b x y g1 g2 he => by
        rcases getElem?_set_or g1 with ⟨_, ex⟩ | ⟨_, g1'⟩
        · cases ex
        · rcases getElem?_set_or g2 with ⟨_, ex⟩ | ⟨_, g2'⟩
          · cases ex
          · exact e.idt a b x y g1' g2' he
      tT := e.tT
      cC := e.cC
      kK := e.kK }
  · rename_i kvs h
    obtain ⟨h1, h3, vs, h4, h5⟩ := e.odc i kvs h
    have hn := e.m.nst _ h1
    simp only [List.mem_cons, not_or] at hn
    have wk : ∀ {w : W} {v : V}, Rep K c H w v → Rep K (c.less (oa i)) H w v := fun r => Rep.weak (c := c.less (oa i)) (c1 := c) rfl rfl (fun b hb => (List.mem_filter.mp hb).1) r
    have wkl : ∀ {w : List W} {v : List V}, RepL K c H w v → RepL K (c.less (oa i)) H w v := fun r => RepL.weak (c := c.less (oa i)) (c1 := c) rfl rfl (fun b hb => (List.mem_filter.mp hb).1) r
    refine ⟨c.less (oa i), ?_, Fwd.less e.m h1, rfl, rfl, rfl, rfl, rfl, rfl⟩
    exact {
      ok := ⟨List.mem_filter.mpr ⟨e.ok.inS, decide_eq_true (Ne.symm hn.1)⟩, List.mem_filter.mpr ⟨e.ok.inla, decide_eq_true (Ne.symm hn.2.2.1)⟩, List.mem_filter.mpr ⟨e.ok.inca, decide_eq_true (Ne.symm hn.2.1)⟩⟩
      st := e.st.weak rfl rfl rfl rfl rfl rfl rfl (fun b hb => (List.mem_filter.mp hb).1) ⟨List.mem_filter.mpr ⟨e.ok.inS, decide_eq_true (Ne.symm hn.1)⟩, List.mem_filter.mpr ⟨e.ok.inla, decide_eq_true (Ne.symm hn.2.2.1)⟩, List.mem_filter.mpr ⟨e.ok.inca, decide_eq_true (Ne.symm hn.2.1)⟩⟩
      av := fun b hb => e.av b (List.mem_filter.mp hb).1
      m := ⟨fun b hb => List.mem_filter.mpr ⟨e.m.inA b (List.mem_filter.mp hb).1, (List.mem_filter.mp hb).2⟩, fun b hb => e.m.nst b (List.mem_filter.mp hb).1, fun b hb => e.m.ls b (List.mem_filter.mp hb).1⟩
      len := by rw [List.length_set]; exact e.len
      val := fun j x hx => by
        rcases getElem?_set_or hx with ⟨ej, ex⟩ | ⟨n, h'⟩
        · cases ex
          subst ej
          refine ⟨_, h3, ?_⟩
          rw [h5.1]
          exact .dct (fun z => of_decide_eq_true (List.mem_filter.mp z).2 rfl) h4 (wkl h5.2)
        · obtain ⟨u, g1, g2⟩ := e.val j x h'
          exact ⟨u, g1, wk g2⟩
      own := fun j x hx => by
        rcases getElem?_set_or hx with ⟨ej, ex⟩ | ⟨n, h'⟩
        · cases ex
        · obtain ⟨g1, g3, zs, g4, g5⟩ := e.own j x h'
          exact ⟨List.mem_filter.mpr ⟨g1, decide_eq_true fun z => by
            rw [z, h4] at g4
            cases g4⟩, g3, zs, g4, wkl g5⟩
      inj := fun a b x y g1 g2 he => by
        rcases getElem?_set_or g1 with ⟨_, ex⟩ | ⟨_, g1'⟩
        · cases ex
        · rcases getElem?_set_or g2 with ⟨_, ex⟩ | ⟨_, g2'⟩
          · cases ex
          · exact e.inj a b x y g1' g2' he
      odc := fun j x hx => by
        rcases getElem?_set_or hx with ⟨ej, ex⟩ | ⟨n, h'⟩
        · cases ex
        · obtain ⟨g1, g3, zs, g4, g5⟩ := e.odc j x h'
          exact ⟨List.mem_filter.mpr ⟨g1, decide_eq_true fun z => n (e.ido j i x kvs h' h z)⟩, g3, zs, g4, g5.1, wkl g5.2⟩
      ido := fun a b x y g1 g2 he => by
        rcases getElem?_set_or g1 with ⟨_, ex⟩ | ⟨_, g1'⟩
        · cases ex
        · rcases getElem?_set_or g2 with ⟨_, ex⟩ | ⟨_, g2'⟩
          · cases ex
          · exact e.ido a b x y g1' g2' he
      odt := fun j x hx => by
        rcases getElem?_set_or hx with ⟨ej, ex⟩ | ⟨n, h'⟩
        · cases ex
        · obtain ⟨g1, g3, zs, g4, g5⟩ := e.odt j x h'
          exact ⟨List.mem_filter.mpr ⟨g1, decide_eq_true fun z => by
            rw [z, h4] at g4
            cases g4⟩, g3, zs, g4, g5.1, wkl g5.2⟩
      idt := fun a b x y g1 g2 he => by
        rcases getElem?_set_or g1 with ⟨_, ex⟩ | ⟨_, g1'⟩
        · cases ex
        · rcases getElem?_set_or g2 with ⟨_, ex⟩ | ⟨_, g2'⟩
          · cases ex
          · exact e.idt a b x y g1' g2' he
      tT := e.tT
      cC := e.cC
      kK := e.kK }
  · exact ⟨c, e, .refl, rfl, rfl, rfl, rfl, rfl, rfl⟩
end
def sOwn (i : Nat) (fs : En → T (List W)) : En → T (Fl × En) := fun ρ => (fs ρ).bind fun ws => if sizeOk ws then .ok (.nx, ρ.set i (.own ws)) else .bad
def seqW : W → T (List W)
  | .lst ws => .ok ws
  | .tup ws => .ok ws
  | _ => .bad
def sOwnPar (i j : Nat) (fs : En → T (List W)) : En → T (Fl × En) := fun ρ => (fs ρ).bind fun ws => match ws with
  | [w] => .ok (.nx, (ρ.set i (.own [])).set j (.val w))
  | _ => .bad
@[irreducible] def roomOk (ws : List W) : Bool := decide (ws.length < 16777216)
def sApp (i : Nat) (f : En → T (List W)) : En → T (Fl × En) := fun ρ => match ρ[i]? with
  | some (.own ws) => (f ρ).bind fun xs => match xs with
    | [w] => if roomOk ws then .ok (.nx, ρ.set i (.own (ws ++ [w]))) else .bad
    | _ => .bad
  | _ => .bad
def onFrz {α : Type} (i : Nat) (g : En → T α) : En → T α := fun ρ => g (frz i ρ)
/-- .. where nothing may be raised -/
def onFrzN {α : Type} (i : Nat) (g : En → T α) : En → T α := fun ρ => noX (g (frz i ρ))
@[simp] theorem noX_ok {α : Type} (a : α) : noX (.ok a : T α) = .ok a := rfl
@[simp] theorem noX_bad {α : Type} : noX (.bad : T α) = .bad := rfl
@[simp] theorem noX_bind {α β : Type} (f : α → T β) (t : T α) : noX (t.bind f) = (noX t).bind fun a => noX (f a) := by
  induction t with
  | ok a => rfl
  | exc _ _ => rfl
  | bad => rfl
  | ask n k ih =>
    show T.ask n (fun i => noX ((k i).bind f)) = T.ask n fun i => (noX (k i)).bind fun a => noX (f a)
    congr 1
    funext i
    exact ih i
  | get i k ih =>
    show T.get i (fun c fs => noX ((k c fs).bind f)) = T.get i fun c fs => (noX (k c fs)).bind fun a => noX (f a)
    congr 1
    funext c fs
    exact ih c fs
  | put i fs k ih =>
    show T.put i fs (noX (k.bind f)) = T.put i fs ((noX k).bind fun a => noX (f a))
    rw [ih]
  | new c fs k ih =>
    show T.new c fs (fun i => noX ((k i).bind f)) = T.new c fs fun i => (noX (k i)).bind fun a => noX (f a)
    congr 1
    funext i
    exact ih i
section
variable {X : Cx} {E : XK} {st : Stmt} {e : Expr} {es : List Expr} {g : En → T (Fl × En)} {f : En → T W} {fs : En → T (List W)} {pos pos' p2 : Pos}
theorem tr_frz (i : Nat) (h : TrS Γ X E st g) : TrS Γ X E st (onFrz i g) := ps_imp h fun D σ H q => by
  obtain ⟨c, d, oa, ρ, e, q⟩ := q
  obtain ⟨c', e', fw, _⟩ := e.frz i
  exact ⟨c', d, oa, _, e', T.AllW.imp (fun _ _ y => y.later fw) (fun _ _ _ y => y.fwd fw) q⟩
theorem Step.as {c c' : Cc} {H H' : Hp} (hS : c'.S = c.S) (hl : c'.la = c.la) (st : Step c' H H') : Step c H H' := Step.to st hS hl
/-- back to a world with more lists of the frame's own, where no object is -/
theorem back_no {c c' c'' : Cc} {d : Dw} {H H' : Hp} (hS : c'.S = c.S) (hc : c'.ca = c.ca) (hl : c'.la = c.la) (hT : c'.T = c.T) (hK : c'.K = c.K) (hO : c'.O = c.O) (no : noObj c.K = true) (ok : CcOk c) (st : SG c' c'' H H') (so : StOk c'' d H') : SG c { c with O := c''.O } H H' ∧ StOk { c with O := c''.O } d H' := by
  have g := st.g
  refine ⟨⟨⟨rfl, rfl, rfl, rfl, rfl, rfl, rfl, rfl, by rw [← hO]; exact g.O⟩, Step.to st.st hS hl⟩, ?_⟩
  obtain ⟨⟨cells, lefts, k, r, h1, h2, h3, h4, h5, h6, h7, h8, h9⟩, ob⟩ := so
  rw [g.S, g.ca, g.la, hS, hc, hl] at h1
  rw [g.ca, hc] at h2
  rw [g.la, hl] at h3
  rw [g.ca, g.la, hc, hl] at h8
  rw [g.T, hT] at h9
  have e : d.os = [] := ob.no (by rw [g.KK, hK]; exact no)
  exact ⟨⟨cells, lefts, k, r, h1, h2, h3, h4, h5, h6, h7, h8, h9⟩, ⟨ok.inS, ok.inla, ok.inca⟩, ob.len, ob.nd, fun i a o _ q => by
    rw [e] at q
    simp at q, fun _ => e⟩
theorem trb_frz {E : WX} {t : En → T Bool} (i : Nat) (om : noObj X.K = true) (h : TrB Γ X E e t) : TrB Γ X E e (onFrzN i t) := pt_imp h fun σ H Q q => by
  obtain ⟨c, d, oa, ρ, e, q⟩ := q
  obtain ⟨c', e', fw, h1, h2, h3, h4, h5, h6⟩ := e.frz i
  refine ⟨c', d, oa, _, e', noX_all (T.AllW.imp (fun _ _ y => ?_) (fun _ _ _ y => y) q)⟩
  intro c'' H' st so
  obtain ⟨st', so'⟩ := back_no h1 h2 h3 h4 h5 h6 (by rw [e.kK]; exact om) e.ok st so
  exact y H' st' so'
theorem tr_own {i : Nat} {x : Str} (hN : X.N.Nodup) (hi : X.N[i]? = some x) (hx : L2.Loc X.env.scope x) (he : TrA Γ X (wOf E) es fs) (hs : swapsWith (.List es p2) (some (.Name x pos')) pos.line X.env = pure false := by rfl)
    (hf : X.fn x = true ∨ X.env.scope.names.lookup x = some .local := by first | exact .inl rfl | exact .inr rfl | assumption) : TrS Γ X E (.Assign [.Name x pos'] (.List es p2) pos) (sOwn i fs) := ps_imp (ps_set hN hi hx (pe_lst he) hs hf) fun D σ H q => by
  obtain ⟨c, d, oa, ρ, e, q⟩ := q
  refine liftA_thenS (P := fun c H => PSq X.K Γ c H D) e q (fun st p => p.later (.of st e.wd)) fun ws vs H1 d1 _ r1 e1 h1 => ?_
  obtain ⟨hz, h1⟩ := T.AllW.ite h1
  refine ⟨by rw [← r1.length]; exact sizeOk_of hz, fun p hp => ?_⟩
  exact h1 _ _ _ _ (Fwd.mine hp e1.wd) ((e1.mine hp).ownSet (List.mem_cons_self ..) upd_same ((r1.more hp (.new hp) e1.st e1.ok).mine) (EnvOk.ownNe e1 hp))
theorem tr_ownPar {i j : Nat} (ne : i ≠ j) (hp : PS X st (tPar i j (tCons (tLst tNil) (liftA X.K Γ (wOf E) fs)))) : TrS Γ X E st (sOwnPar i j fs) := ps_imp hp fun D σ H q => by
  obtain ⟨c, d, oa, ρ, e, q⟩ := q
  refine ⟨by rw [sizeLine_eq]; decide, fun p hp => ?_⟩
  have e0 := e.mine (xs := []) hp
  have q0 : (sOwnPar i j fs ρ).AllW (PSq X.K Γ (c.mine p) (L2.upd H p (.lst [])) D) (PXs X.K (c.mine p) (L2.upd H p (.lst [])) E) d := T.AllW.imp (fun _ _ y => y.later (Fwd.mine hp e.wd)) (fun _ _ _ y => y.fwd (Fwd.mine hp e.wd)) q
  refine liftA_thenS (P := fun c H => PSq X.K Γ c H D) e0 q0 (fun st p => p.later (.of st e0.wd)) fun ws vs H1 d1 st1 r1 e1 h1 => ?_
  cases r1 with
  | nil => exact h1.elim
  | cons r rr =>
    cases rr with
    | cons _ _ => exact h1.elim
    | nil =>
      have hq : H1 p = some (.lst []) := st1.st.keep p _ upd_same (fun z => by have := st_ne e.st hp; simp only [List.mem_cons, not_or] at this; exact this.1 z) (fun z => by have := st_ne e.st hp; simp only [List.mem_cons, not_or] at this; exact this.2.2.1 z) nofun
      refine ⟨_, _, rfl, h1 _ _ _ H1 .refl ((e1.ownSet (D := p) (i := i) (by rw [st1.g.M]; exact List.mem_cons_self ..) hq .nil (EnvOk.ownNe e hp)).set r)⟩
theorem tr_app {i : Nat} {apos cpos : Pos} (ho : PE X e (tVar i)) (ha : TrA Γ X (wOf E) [a] fs) (hb : attributeBase e "append" X.env (eval e X.env) = eval e X.env := by rfl)
    (h1 : (((backTo cpos (starEach [a] X.env)).all fun x => !x.1) && ((backToKw cpos (keywordEach [] X.env)).all fun x => x.1.isSome) && decide (([a].length + ([] : List Keyword).length + if ([] : List Keyword).isEmpty = true then 0 else 1) < 30)) = true := by rfl) (h2 : (apos.endLine == cpos.line) = true := by rfl)
    (h3 : starEach [a] X.env = (false, eval a X.env) :: starEach [] X.env := by rfl) (h4 : ((backTo cpos (starEach [] X.env)).any fun x => x.1) = false := by rfl)
    (hs : swapsWith (.Call (.Attribute e "append" apos) [a] [] cpos) none pos.line X.env = pure false := by rfl) :
    TrS Γ X E (.Expr (.Call (.Attribute e "append" apos) [a] [] cpos) pos) (sApp i fs) := ps_imp (ps_expr (pe_bm PySem.F.plainAttrs_list PySem.F.slot_list_append PySem.F.type_list_append mt_append ho ha hb h1 h2 h3 h4) hs) fun D σ H q => by
  obtain ⟨c, d, oa, ρ, e, q⟩ := q
  unfold sApp at q
  split at q
  · rename_i ws hw
    obtain ⟨m1, m2, vs, m3, m4⟩ := e.own i ws hw
    refine ⟨_, m2, .inl ⟨rfl, _, SqL.of m3⟩, liftA_thenS (P := fun c H => PSq X.K Γ c H D) e q (fun st p => p.later (.of st e.wd)) fun us zs H1 d1 st1 r1 e1 h1 => ?_⟩
    cases r1 with
    | nil => exact h1.elim
    | cons r rr =>
      cases rr with
      | cons _ _ => exact h1.elim
      | nil =>
        obtain ⟨hz, h1⟩ := T.AllW.ite h1
        obtain ⟨m1', m2', vs', m3', m4'⟩ := e1.own i ws hw
        obtain ⟨e2, fw2⟩ := e1.ownUpd hw (m4'.append (.cons r .nil))
        unfold roomOk at hz
        exact ⟨_, _, _, rfl, rfl, m3', by rw [← m4'.length, sizeLine_eq]; exact of_decide_eq_true hz, h1 _ _ _ _ fw2 e2⟩
  · exact q.elim
end
section
variable {X : Cx} {E : WX} {a b cc : Expr} {fa fb fc : En → T W} {g g' : W → W → T W} {r r' : R2} {pos : Pos}
theorem chain_ok (hs : Sem2 X.K r g) (hs' : Sem2 X.K r' g') : ∀ σ H Q, liftE X.K Γ E (fCh g g' fa fb fc) σ H Q → tChain r r' (liftE X.K Γ E fa) (liftE X.K Γ E fb) (liftE X.K Γ E fc) σ H Q := fun σ H Q h => by
  obtain ⟨c, d, oa, ρ, e, h⟩ := h
  refine lift_then (P := fun c H => PQ X.K c H Q) e h (fun st p => p.later st) fun w v H1 d1 _ r1 e1 h1 => ?_
  refine lift_then (P := fun c H => PQ X.K c H Q) e1 h1 (fun st p => p.later st) fun w2 v2 H2 d2 st2 r2 e2 h2 => ?_
  refine hs _ d2 H2 w w2 v v2 _ _ e2.wd (r1.step st2 e1.st e1.ok) r2 (T.AllW.imp (fun d3 z hz => ?_) (fun _ _ _ y => y) (T.allW_bind.mp h2))
  intro _ vz H3 st3 so3 rz
  have e3 := e2.step st3 so3
  cases z with
  | bl k =>
    cases rz
    refine ⟨k, rfl, ?_⟩
    cases k with
    | false => exact iteF (PQ.now e3.wd (PQ.later st3 hz) (.bl false))
    | true =>
      refine iteT (lift_then (P := fun c H => PQ X.K c H Q) e3 (T.AllW.imp (fun _ _ y => y.later st3) (fun _ _ _ y => y.later st3) hz) (fun st p => p.later st) fun w4 v4 H4 d4 st4 r4 e4 h4 => ?_)
      exact hs' _ d4 H4 w2 w4 v2 v4 Q _ e4.wd ((r2.step st3 e2.st e2.ok).step st4 e3.st e3.ok) r4 h4
  | _ => exact hz.elim
theorem trb_chain {op op' : CmpOp} (ho : OpR X (compareOp op) r) (ho' : OpR X (compareOp op') r') (hs : Sem2 X.K r g) (hs' : Sem2 X.K r' g') (ha : TrE Γ X E a fa) (hb : TrE Γ X E b fb) (hc : TrE Γ X E cc fc)
    (hm : lastMarks [op, op'] [b, cc] = false := by with_unfolding_all rfl) : TrB Γ X E (.Compare a [op, op'] [b, cc] pos) (fBl (fCh g g' fa fb fc)) := trb_of (pt_chain ho ho' ha hb hc hm) (chain_ok hs hs')
end
def mulTA (x y : W) : T W := match y with
  | .int 1 => mul1 x (.int 1)
  | .int k => mulT x (.int k)
  | _ => .bad
theorem sem_mulTA {K : PySem.W.Frag} : Sem2 K (fun x y H Q => rRep1 K x y H Q ∨ rRepT K x y H Q) mulTA := sem_or1 sem_mul1 sem_mulT fun x y => by
  unfold mulTA
  split
  · exact .inl rfl
  · exact .inr rfl
  · rename_i h1 h2
    right
    cases x <;> cases y <;> first | rfl | exact absurd rfl (h2 _)
theorem op_mulTA {X : Cx} : OpR X (binaryOp .Mult) (fun x y H Q => rRep1 X.K x y H Q ∨ rRepT X.K x y H Q) := opR_or op_rep1 op_repT
section
variable {X : Cx} {E : XK} {elt tg iter : Expr} {ifs : List Expr} {scope : Scope} {own : List (Str × Nat)} {pos spos py : Pos} {fi : En → T (List W)} {ns : List Nat} {G : W → En → Option En} {tt : En → T Bool} {fe : En → T W}
theorem tr_setLc {i : Nat} {y : Str} (hc : X.calm = true) (hN : X.N.Nodup) (hy : X.N[i]? = some y) (hyl : X.env.scope.names.lookup y = some .local) (hsw : swapsWith (.ListComp elt [⟨tg, iter, ifs, 0⟩] scope pos) (some (.Name y py)) spos.line X.env = pure true)
    (hi : TrI Γ X (wOf E) tg iter fi) (ok : BlkOk X.N X.env.scope scope own) (hs : ∀ i ∈ ns, i ∈ own.map (·.2))
    (hg : ∀ (s : Shared) (H : Hp) (C : Addr) (cl : List (Str × Addr)) (fp : List Addr), TrG Γ (X.blk s H scope (compEnvC scope cl C X.env) fp) tg ns G) (ht : ∀ (s : Shared) (H : Hp) (C : Addr) (cl : List (Str × Addr)) (fp : List Addr), TrTs Γ (X.blk s H scope (compEnvC scope cl C X.env) fp) ifs tt)
    (he : ∀ (s : Shared) (H : Hp) (C : Addr) (cl : List (Str × Addr)) (fp : List Addr), TrE Γ (X.blk s H scope (compEnvC scope cl C X.env) fp) noW elt fe) (hf : ∀ x, foldedSetIterable iter X.env x = pure x := by intro _; rfl) :
    TrS Γ X E (.Assign [.Name y py] (.ListComp elt [⟨tg, iter, ifs, 0⟩] scope pos) spos) (sSet i (fComp (own.map (·.2)) fi G tt fe)) := ps_imp (ps_setLc (g := liftG X.K Γ ns G) (tt := liftB X.K Γ noW tt) (te := liftE X.K Γ noW fe) hc hN hy hyl hsw hi ok hg ht he hf) fun D σ H q => by
  obtain ⟨c, d, oa, ρ, e, q⟩ := q
  refine comp_ok (E := wOf E) hs σ H _ (lift_thenS (P := fun c H => PSq X.K Γ c H D) e q (fun st p => p.later (.of st e.wd)) fun w v H1 d1 _ r1 e1 h1 => ?_)
  exact h1 _ oa _ H1 .refl (e1.set r1)
end
@[simp] theorem sumW_lst (ns : List Int) : sumW [.lst (ns.map W.int)] = .ok (.int ns.sum) := by simp [sumW]
@[simp] theorem sumW_tup (ns : List Int) : sumW [.tup (ns.map W.int)] = .ok (.int ns.sum) := by simp [sumW]
@[simp] theorem tupOfW_lst (ws : List W) : tupOfW [.lst ws] = .ok (.tup ws) := rfl
@[simp] theorem tupOfW_tup (ws : List W) : tupOfW [.tup ws] = .ok (.tup ws) := rfl
@[simp] theorem lstOfW_lst (ws : List W) : lstOfW [.lst ws] = .ok (.lst ws) := rfl
@[simp] theorem lstOfW_tup (ws : List W) : lstOfW [.tup ws] = .ok (.lst ws) := rfl
@[simp] theorem max2_int (i j : Int) : maxW [.int i, .int j] = .ok (.int (if j > i then j else i)) := rfl
@[simp] theorem min2_int (i j : Int) : minW [.int i, .int j] = .ok (.int (if j < i then j else i)) := rfl
end PF
namespace PF
open PySem PySem.Spec PyProof.Rows L2
theorem ask_all {α : Type} {P : Nat → α → Prop} {E : Nat → Nat → List W → Prop} {n d : Nat} {k : Nat → T α} (h : 0 < d) (g : ∀ i, i < n → (k i).AllB P E (d - 1)) : (T.ask n k).AllB P E d := ⟨d - 1, by omega, g⟩
theorem draw_run {n : Int} {b : Nat} (h : 0 < n) (hb : n.natAbs < 2 ^ b) (h0 : 0 < b) (h9 : b ≤ 9000) : F__law_draw [.stt, .int n] = .ask n.toNat fun i => .ok (.int i) := by
  simp [F__law_draw, manyOk_is h hb h0 h9]
/-- a draw of n, n small -/
theorem draw_is {n : Int} (h : 0 < n) (hb : n < 2 ^ 60) : F__law_draw [.stt, .int n] = .ask n.toNat fun i => .ok (.int i) := draw_run (b := 60) h (by omega) (by decide) (by decide)
@[simp] theorem sFor_eq (fi : En → T (List W)) (G : W → En → Option En) (gb : En → T (Fl × En)) (ρ : En) : sFor fi G gb ρ = (fi ρ).bind fun ws => forL G gb ws ρ := rfl
theorem rng1_is {n : Int} (h0 : 0 ≤ n) (h1 : n ≤ 2 ^ 60) : rng1 [.int n] = .ok (intsFrom 0 n.toNat) := by
  unfold rng1
  exact if_pos (rngOk_is (by omega) h1)
theorem forL_all {G : W → En → Option En} {gb : En → T (Fl × En)} {E : Nat → Nat → List W → Prop} (I : List W → Nat → En → Prop) (step : ∀ w ws d ρ, I (w :: ws) d ρ → ∃ ρ1, G w ρ = some ρ1 ∧ (gb ρ1).AllB (fun d x => ∃ ρ2, x = (.nx, ρ2) ∧ I ws d ρ2) E d) :
    ∀ (ws : List W) (d : Nat) (ρ : En), I ws d ρ → (forL G gb ws ρ).AllB (fun d x => ∃ ρ2, x = (.nx, ρ2) ∧ I [] d ρ2) E d
  | [], d, ρ, h => ⟨ρ, rfl, h⟩
  | w :: ws, d, ρ, h => by
    obtain ⟨ρ1, e, s⟩ := step w ws d ρ h
    unfold forL
    rw [e]
    refine T.allB_bind.mpr (T.AllB.imp (fun d1 x hx => ?_) (fun _ _ _ y => y) s)
    obtain ⟨ρ2, rfl, h2⟩ := hx
    exact forL_all I step ws d1 ρ2 h2
@[simp] theorem noX_ask {α : Type} (n : Nat) (k : Nat → T α) : noX (T.ask n k) = .ask n fun i => noX (k i) := rfl
/-- a comprehension whose turns say f -/
theorem compL_map {G : W → En → Option En} {tt : En → T Bool} {fe : En → T W} {ρ : En} {α : Type} (m f : α → W) : ∀ (as : List α), (∀ a ∈ as, ∃ ρ1, G (m a) ρ = some ρ1 ∧ tt ρ1 = .ok true ∧ fe ρ1 = .ok (f a)) → compL G tt fe ρ (as.map m) = .ok (as.map f)
  | [], _ => rfl
  | a :: as, h => by
    obtain ⟨ρ1, h1, h2, h3⟩ := h a (List.mem_cons_self ..)
    have ih := compL_map m f as fun b hb => h b (List.mem_cons_of_mem _ hb)
    simp only [List.map_cons, compL, h1, h2, h3, noX_ok, T.bind_ok, if_true, ih]
@[simp] theorem blsW_of : ∀ (bs : List Bool), blsW (bs.map W.bl) = some bs
  | [] => rfl
  | b :: bs => by simp [blsW, blsW_of bs]
@[simp] theorem allW_of (bs : List Bool) : allW [.lst (bs.map W.bl)] = .ok (.bl (bs.all id)) := by simp [allW]
@[simp] theorem anyW_of (bs : List Bool) : anyW [.lst (bs.map W.bl)] = .ok (.bl (bs.any id)) := by simp [anyW]
def low (n : Nat) (w : W) : Prop := ∃ d, w.toD = some d ∧ d.canLay0 = true ∧ d.depth ≤ n
def lows (n : Nat) (ws : List W) : Prop := ∃ ds, toDs ws = some ds ∧ PyData.canLayAll0 ds = true ∧ PyData.depthAll ds ≤ n
theorem low_int (i : Int) : low 1 (.int i) := ⟨.int i, rfl, rfl, by simp [PyData.depth]⟩
theorem lows_of {n : Nat} : ∀ {ws : List W}, (∀ w ∈ ws, low n w) → lows n ws
  | [], _ => ⟨[], rfl, rfl, by simp [PyData.depthAll]⟩
  | w :: ws, h => by
    obtain ⟨d, h1, h2, h3⟩ := h w (List.mem_cons_self ..)
    obtain ⟨ds, g1, g2, g3⟩ := lows_of fun u hu => h u (List.mem_cons_of_mem _ hu)
    refine ⟨d :: ds, ?_, ?_, ?_⟩
    · simp [toDs, h1, g1]
    · simp only [PyData.canLayAll0, h2, g2, Bool.and_self]
    · simp only [PyData.depthAll]
      omega
theorem low_tup {n : Nat} {ws : List W} (h : ∀ w ∈ ws, low n w) : low (n + 1) (.tup ws) := by
  obtain ⟨ds, g1, g2, g3⟩ := lows_of h
  refine ⟨.tuple ds, by simp [W.toD, g1], by simp only [PyData.canLay0]; exact g2, by simp only [PyData.depth]; omega⟩
theorem low_lst {n : Nat} {ws : List W} (h : ∀ w ∈ ws, low n w) : low (n + 1) (.lst ws) := by
  obtain ⟨ds, g1, g2, g3⟩ := lows_of h
  refine ⟨.list ds, by simp [W.toD, g1], by simp only [PyData.canLay0]; exact g2, by simp only [PyData.depth]; omega⟩
theorem low_ints (ns : List Int) : low 2 (.tup (ns.map W.int)) := low_tup fun w hw => by
  obtain ⟨i, _, rfl⟩ := List.mem_map.mp hw
  exact low_int i
theorem low_intsL (ns : List Int) : low 2 (.lst (ns.map W.int)) := low_lst fun w hw => by
  obtain ⟨i, _, rfl⟩ := List.mem_map.mp hw
  exact low_int i
theorem eqO_same {n : Nat} {w : W} (h : low n w) (hn : n ≤ 64) : eqO w w = some true := by
  obtain ⟨d, h1, h2, h3⟩ := h
  have hs : SeqAt.shaped d = true := by
    unfold SeqAt.shaped
    rw [h2, decide_eq_true (by omega)]
    rfl
  unfold eqO
  rw [h1]
  simp only [hs, Bool.and_self, if_true]
  rw [PySem.SeqAt.eqv_refl d h2]
theorem eq_same {n : Nat} {w : W} (h : low n w) (hn : n ≤ 64) : eqW w w = .ok (.bl true) := by
  unfold eqW
  rw [eqO_same h hn]
theorem ne_same {n : Nat} {w : W} (h : low n w) (hn : n ≤ 64) : neW w w = .ok (.bl false) := by
  unfold neW
  rw [eqO_same h hn]
  rfl
@[simp] theorem eqO_int (i j : Int) : eqO (.int i) (.int j) = some (i == j) := rfl
@[simp] theorem eqW_int (i j : Int) : eqW (.int i) (.int j) = .ok (.bl (i == j)) := rfl
@[simp] theorem neW_int (i j : Int) : neW (.int i) (.int j) = .ok (.bl !(i == j)) := rfl
@[simp] theorem ne_ints (ns : List Int) : neW (.tup (ns.map W.int)) (.tup (ns.map W.int)) = .ok (.bl false) := ne_same (low_ints ns) (by decide)
@[simp] theorem eq_ints (ns : List Int) : eqW (.tup (ns.map W.int)) (.tup (ns.map W.int)) = .ok (.bl true) := eq_same (low_ints ns) (by decide)
@[simp] theorem ne_intsL (ns : List Int) : neW (.lst (ns.map W.int)) (.lst (ns.map W.int)) = .ok (.bl false) := ne_same (low_intsL ns) (by decide)
@[simp] theorem eq_intsL (ns : List Int) : eqW (.lst (ns.map W.int)) (.lst (ns.map W.int)) = .ok (.bl true) := eq_same (low_intsL ns) (by decide)
@[simp] theorem ne_non : neW .non .non = .ok (.bl false) := rfl
@[simp] theorem eq_non : eqW .non .non = .ok (.bl true) := rfl
end PF
namespace PF
open PySem PySem.Spec PyProof.Rows L2
structure FnG (P : Program) (w : World) (K : PySem.W.Frag) (mg : Str → Option Value) (base : Heap) (k : Nat) (f : Addr) (fd : FuncData) (ps : List Str) (sp : Sp) : Prop where
  len : ∀ vs H Q E, sp vs H Q E → vs.length = ps.length
  go : ∀ (A : Around) (o : List PySem.Env) (s : Shared) (H : Hp) (ar : Args) (us : List Value) (vs : List V) (Q : VK) (E : XK), A.guards = some [] → Room k A → Env0 P w K mg base A o s H → BindsTo s fd ar (ps.zip us) → Vals vs us → sp vs H Q E →
    codeAny (model P w) A (.call (.ref f) ar) (CR (L2.CX P w) o P w H s Q E) s
theorem FnG.of {P : Program} {w : World} {K : PySem.W.Frag} {mg : Str → Option Value} {base : Heap} {k : Nat} {f : Addr} {fd : FuncData} {ps : List Str} {sp : Sp} (F : FnOk P w K mg base (L2.CX P w) k f fd ps sp) : FnG P w K mg base k f fd ps sp :=
  ⟨F.len, fun A o s H ar us vs Q E _ hr e b r h => F.run A o s H ar us vs Q E hr e b r h⟩
section
variable {P : Program} {w : World} {K : PySem.W.Frag} {mg : Str → Option Value} {base : Heap} {x qual : Str} {params : Arguments} {body : List Stmt} {scope : Scope} {dvs : List V} {kws : List (Str × V)} {f : Addr} {fd : FuncData}
theorem gdef {N ps : List Str} {k : Nat} {sp : Sp} (F : FunD K x qual params body scope dvs kws f fd) (S : FnScope N ps scope) (len : ∀ vs H Q E, sp vs H Q E → vs.length = ps.length)
    (bd : ∀ (cdv : Value) (A : Around) (o : List PySem.Env) (s : Shared) (H : Hp) (vs : List V) (Q : VK) (E : XK), fd.code = cdv → A.guards = some [] → Room k (A.deeper (envOfC qual scope s.heap.objs.size f cdv)) → sp vs H Q E →
      ∃ t, PSs (cxOf (L2.CX P w) P w K mg base N qual scope f cdv A o s H E) body t ∧ t { nx := fun _ H' => Q .non H', rt := Q } (start N vs) H) : FnG P w K mg base (k + 1) f fd ps sp := by
  obtain ⟨oc, od, dV, kV, dc, pm, an, cdv, ct, osl, rfl, lk, hcd, _, _⟩ := F.ex
  refine ⟨len, fun A o s H ar us vs Q E hg hr e0 hb r q => ?_⟩
  have hlen := len _ _ _ _ q
  have kin : K.In s.heap := e0.mod.kin.keeps fun b u e => (e0.bs b u e).1
  have nol : s.heap.NoLimit := e0.mod.nolimit.keeps fun b u e => (e0.bs b u e).1
  have hk : ∀ y ∈ ps.zip us, scope.names.lookup y.1 = some .local ∨ (scope.names.lookup y.1 = some .cell ∧ ((cellsFrom (s.heap.objs.size + 1) scope.names []).lookup y.1).isSome = true) := fun y hy => by
    obtain ⟨n, v⟩ := y
    have hn := S.par n (List.of_mem_zip hy).1
    exact hn.imp id fun z => ⟨z, PySem.W.cellsFrom_some _ _ _ (.inl z)⟩
  refine codeAny_call_function hr.depth (kin _ _ lk) rfl S.co S.gen rfl (PySem.W.codeRec_of kin hcd) (hb _ _ _ _ (wpAny_newFunctionEnv_cells S.kind hk fun env he s1 z => ?_))
  subst he
  refine ⟨nol.keeps z.toInCall.keep, codeAny_func ?_⟩
  obtain ⟨t, ht, hq⟩ := bd cdv A o s H vs Q E rfl hg (hr.deeper _) q
  have J0 : Inv (cxOf (L2.CX P w) P w K mg base N qual scope f cdv A o s H E) [] (start N vs) H s1 := inv_start S hr.hd e0 hlen r z
  refine wpAny_mono (ht.run [] s1 (start N vs) H _ J0 hq) (fun fl s' hs => ?_) fun e s' hs => hs
  match fl, hs with
  | .ret u, ⟨v, σ', H', J, rv, q'⟩ => exact ⟨v, H', J.os, J.bare, J.base, J.hok, rv, q'⟩
  | .next, ⟨σ', H', J, q'⟩ => exact ⟨V.non, H', J.os, J.bare, J.base, J.hok, rfl, q'⟩
  | .brk, ⟨_, _, _, z⟩ => exact z.elim
  | .cont, ⟨_, _, _, z⟩ => exact z.elim
/-- THE RULE, where no guard stands around -/
theorem fn_trG {k : Nat} {N ps : List Str} {g : En → T (Fl × En)} (F : FunD K x qual params body scope [] [] f fd) (S : FnScope N ps scope)
    (hb : ∀ (Γ : Cl) (cdv : Value) (A : Around) (o : List PySem.Env) (s : Shared) (H : Hp) (E : XK), fd.code = cdv → A.guards = some [] → Room k (A.deeper (envOfC qual scope s.heap.objs.size f cdv)) → TrSs Γ (cxOf (L2.CX P w) P w K mg base N qual scope f cdv A o s H E) E body g) :
    FnG P w K mg base (k + 1) f fd ps (SpF K (defF N.length ps.length g)) := by
  refine gdef F S (SpF.len fun ws h => ?_) fun cdv A o s H vs Q E hcd hg hr h => ?_
  · unfold defF
    rw [if_neg]
    intro z
    exact h (eq_of_beq z)
  · obtain ⟨c, d, ws, hT, wd, r, h⟩ := h
    obtain ⟨_, h⟩ := T.AllW.ite h
    refine ⟨_, hb c.C cdv A o s H E hcd hg hr, ?_⟩
    refine ⟨c.bare, d, fun _ => 0, startE N.length ws, start_ok (c := c.bare) ⟨⟨wd.ok.inS, wd.ok.inla, wd.ok.inca⟩, wd.st.bare, wd.av⟩ hT rfl (RepL.weak (c := c.bare) (c1 := c) rfl rfl (fun _ h => h) r), T.AllW.imp (fun d1 x hx => ?_) (fun _ _ _ y => y.ofBare wd.ok) (T.allW_bind.mp h)⟩
    obtain ⟨fl, ρ'⟩ := x
    intro c' oa' σ' H' fw e'
    have so := e'.st.to fw wd.ok
    cases fl with
    | nx => exact hx _ H' fw.back so .non
    | rt w => exact fun v rv => hx v H' fw.back so (Rep.back fw rv)
    | bk => exact hx.elim
    | ct => exact hx.elim
    | rn ws => exact hx.elim
end
/-- the module's name x is a def that does what the run F does -/
def FnGs (P : Program) (w : World) (K : PySem.W.Frag) (mg : Str → Option Value) (base : Heap) (k : Nat) (x : Str) (ps : List Str) (F : List W → T W) : Prop :=
  ∃ f fd, FnG P w K mg base k f fd ps (SpF K F) ∧ mg x = some (.ref f) ∧ PySem.W.keepIn K (.ref f) = true ∧ Binds K fd ps []
theorem FnIs.toG {P : Program} {w : World} {K : PySem.W.Frag} {mg : Str → Option Value} {base : Heap} {k : Nat} {x : Str} {ps : List Str} {F : List W → T W} (h : FnIs P w K mg base k x ps F) : FnGs P w K mg base k x ps F := by
  obtain ⟨f, fd, a, b, c, d⟩ := h
  exact ⟨f, fd, .of a, b, c, d⟩
section
variable {X : Cx} {E : WX} {e : Expr} {es : List Expr} {fs : En → T (List W)} {pos p : Pos} {F : List W → T W} {k : Nat} {f : Addr} {fd : FuncData} {ps : List Str} {x : Str} {sp : Sp}
theorem run_g {pins : List (Addr × Obj)} {σ : L2.St} {H : Hp} {s : Shared} {Q : VK} {us : List Value} {vs : List V} {E' : XK} (G : FnG X.prog X.w X.K X.mg X.base k f fd ps sp) (hg : X.A.guards = some []) (hr : Room k X.A) (hb : Binds X.K fd ps []) (hx : PassesAt (L2.CX X.prog X.w) X σ E')
    (I : Inv X pins σ H s) (r : Vals vs us) (h : sp vs H Q E') : wpAny (model X.prog X.w) X.A (call (.ref f) us) (EP X pins σ Q) X.xe s := by
  have hl : (us ++ []).length = ps.length := by rw [List.append_nil, ← r.length]; exact G.len _ _ _ _ h
  have bt := hb s us I.kIn hl
  rw [List.append_nil] at bt
  refine wpAny_call (codeAny_mono (G.go X.A X.stack s H ⟨us, []⟩ us vs Q E' hg hr I.env0 bt r h) fun r s' hq => ?_)
  match r, hq with
  | .error e, hq => exact hx pins H s e s' I hq
  | .ok (.ret u), hq => exact I.after hq
  | .ok .next, hq => exact False.elim hq
  | .ok .brk, hq => exact False.elim hq
  | .ok .cont, hq => exact False.elim hq
theorem pe_g {t : TA} {EE : L2.St → XK} (G : FnG X.prog X.w X.K X.mg X.base k f fd ps sp) (hgd : X.A.guards = some []) (hr : Room k X.A) (hg : Gl X x) (hm : X.mg x = some (.ref f)) (hk : PySem.W.keepIn X.K (.ref f) = true) (hb : Binds X.K fd ps []) (hx : ∀ σ, PassesAt (L2.CX X.prog X.w) X σ (EE σ))
    (ha : PA X (e :: es) t) (hdb : (x == ("__debug__" : Str)) = false := by decide) (he : starEach (e :: es) X.env = (false, eval e X.env) :: starEach es X.env := by rfl) (hpl : (backTo pos (starEach es X.env)).any (·.1) = false := by rfl) :
    PE X (.Call (.Name x p) (e :: es) [] pos) (fun σ H Q => t σ H fun vs H1 => sp vs H1 Q (EE σ)) := by
  constructor
  intro pins s σ H Q I h
  refine wpAny_Call_Name_kw (ld_glob I hg hm (PySem.W.callWith_K (h₀ := X.base) I.ok.mod.kin hk (thn (ha.run pos pins s σ H _ I h) fun us s1 z => ?_) he hpl) hdb)
  obtain ⟨vs, H1, I1, r, q⟩ := z
  exact ⟨I1.kIn, run_g G hgd hr hb (hx σ) I1 r q⟩
theorem tr_callG (h : FnGs X.prog X.w X.K X.mg X.base k x ps F) (hgd : X.A.guards = some []) (hr : Room k X.A) (tk : Takes X E) (hg : Gl X x) (ha : TrA Γ X E (e :: es) fs)
    (hdb : (x == ("__debug__" : Str)) = false := by decide) (he : starEach (e :: es) X.env = (false, eval e X.env) :: starEach es X.env := by rfl) (hpl : (backTo pos (starEach es X.env)).any (·.1) = false := by rfl) :
    TrE Γ X E (.Call (.Name x p) (e :: es) [] pos) (fL fs F) := by
  obtain ⟨f, fd, G, hm, hk, hb⟩ := h
  refine pe_imp (pe_g (EE := fun σ => WE E σ) G hgd hr hg hm hk hb (fun σ => passAt tk σ) ha hdb he hpl) fun σ H Q h => ?_
  obtain ⟨c, d, oa, ρ, e, h⟩ := h
  exact liftA_then (P := fun c H => PQ X.K c H Q) e h (fun st p => p.later st) fun w v H1 d1 _ r1 e1 h1 => ⟨_, d1, w, ⟨e1.tT, e1.kK⟩, e1.wd, r1, h1⟩
end
end PF
namespace PF
open PySem PySem.Spec PyProof.Rows L2
@[irreducible] def reprOk (d : PyData) : Bool := d.showable && !d.hasDict && decide (d.depth ≤ 60) && decide (d.shown.length ≤ 16777216)
def eqS (x y : W) : T W := match x, y with
  | .str a, .str b => .ok (.bl (decide (a = b)))
  | _, _ => eqW x y
def neS (x y : W) : T W := match x, y with
  | .str a, .str b => .ok (.bl (!decide (a = b)))
  | _, _ => neW x y
theorem dec_str {a b : Str} : decide (V.str a = V.str b) = decide (a = b) := by
  by_cases h : a = b <;> simp [h]
theorem sem_eqS {K : PySem.W.Frag} : Sem2 K (fun x y H Q => rEq x y H Q ∨ rEqD K x y H Q) eqS := fun c d H x y v u Q E' wd rx ry q => by
  unfold eqS at q
  split at q
  · cases rx
    cases ry
    exact .inl ⟨rfl, by rw [dec_str]; exact PQ.now wd q (.bl _)⟩
  · exact .inr (sem_eq c d H x y v u Q E' wd rx ry q)
theorem sem_neS {K : PySem.W.Frag} : Sem2 K (fun x y H Q => rNe x y H Q ∨ rNeD K x y H Q) neS := fun c d H x y v u Q E' wd rx ry q => by
  unfold neS at q
  split at q
  · cases rx
    cases ry
    exact .inl ⟨rfl, by rw [dec_str]; exact PQ.now wd q (.bl _)⟩
  · exact .inr (sem_ne c d H x y v u Q E' wd rx ry q)
theorem op_eqS {X : Cx} (hu : X.A.units + 64 < cLine) : OpR X (compareOp .Eq) (fun x y H Q => rEq x y H Q ∨ rEqD X.K x y H Q) := opR_or op_eq (op_eqD hu)
theorem op_neS {X : Cx} (hu : X.A.units + 64 < cLine) : OpR X (compareOp .NotEq) (fun x y H Q => rNe x y H Q ∨ rNeD X.K x y H Q) := opR_or op_ne (op_neD hu)
@[simp] theorem eqS_str (s : Str) : eqS (.str s) (.str s) = .ok (.bl true) := by simp [eqS]
@[simp] theorem neS_str (s : Str) : neS (.str s) (.str s) = .ok (.bl false) := by simp [neS]
@[simp] theorem eqS_int (i j : Int) : eqS (.int i) (.int j) = .ok (.bl (i == j)) := rfl
@[simp] theorem neS_int (i j : Int) : neS (.int i) (.int j) = .ok (.bl !(i == j)) := rfl
@[simp] theorem eqS_tup (ws : List W) (y : W) : eqS (.tup ws) y = eqW (.tup ws) y := by cases y <;> rfl
@[simp] theorem neS_tup (ws : List W) (y : W) : neS (.tup ws) y = neW (.tup ws) y := by cases y <;> rfl
@[simp] theorem eqS_lst (ws : List W) (y : W) : eqS (.lst ws) y = eqW (.lst ws) y := by cases y <;> rfl
@[simp] theorem neS_lst (ws : List W) (y : W) : neS (.lst ws) y = neW (.lst ws) y := by cases y <;> rfl
@[simp] theorem eqS_non (y : W) : eqS .non y = eqW .non y := by cases y <;> rfl
@[simp] theorem neS_non (y : W) : neS .non y = neW .non y := by cases y <;> rfl
@[simp] theorem eqS_bl (b : Bool) (y : W) : eqS (.bl b) y = eqW (.bl b) y := by cases y <;> rfl
@[simp] theorem neS_bl (b : Bool) (y : W) : neS (.bl b) y = neW (.bl b) y := by cases y <;> rfl
def fStar (fa : En → T W) (fs : En → T (List W)) : En → T (List W) := fun ρ => (fa ρ).bind fun x => (seqW x).bind fun xs => (fs ρ).bind fun ys => .ok (xs ++ ys)
section
variable {X : Cx} {E : WX} {e : Expr} {es : List Expr} {fa : En → T W} {fs : En → T (List W)} {pos p : Pos}
theorem tra_star (ha : TrE Γ X E e fa) (hr : TrA Γ X E es fs) (hs : starEach (.Starred e p :: es) X.env = (true, eval e X.env) :: starEach es X.env := by rfl) : TrA Γ X E (.Starred e p :: es) (fStar fa fs) := pa_imp (StX.pa_star ha hr hs) fun σ H Q h => by
  obtain ⟨c, d, oa, ρ, e, h⟩ := h
  refine lift_then (P := fun c H => PQL X.K c H Q) e h (fun st p => p.later st) @fun c1 w v H1 d1 _ r1 e1 h1 => ?_
  have fin : ∀ {ws : List W} {vs : List V}, RepL X.K c1 H1 ws vs → ((fs ρ).bind fun ys => T.ok (ws ++ ys)).AllW (PQL X.K c1 H1 Q) (PX X.K c1 H1 fun cls dx H' => E cls dx σ H') d1 → liftA X.K Γ E fs σ H1 fun ys H2 => Q (vs ++ ys) H2 := fun rl h => by
    refine liftA_then (P := fun c H => PQL X.K c H Q) e1 h (fun st p => p.later st) fun w2 v2 H2 d2 st2 r2 e2 h2 => ?_
    exact h2 _ H2 (.refl _ H2) e2.st ((rl.step st2 e1.st e1.ok).append r2)
  cases r1 with
  | tup hq rl => exact ⟨_, _, rfl, .inl hq, fin rl h1⟩
  | lst n hq rl => exact ⟨_, _, rfl, .inr (SqL.of hq), fin rl h1⟩
  | _ => exact h1.elim
end
section
variable {X : Cx} {E : XK} {e a tg : Expr} {G : W → En → Option En} {ns : List Nat} {fs : En → T (List W)} {pos : Pos}
end
section
variable {X : Cx} {E : XK} {e : Expr} {f : En → T W} {pos pos' p p2 : Pos}
end
end PF
namespace PF
open PySem PySem.Spec PyProof.Rows L2
end PF
namespace PF
open PySem PySem.Spec PyProof.Rows L2
theorem T.AllB.more {α : Type} {P : Nat → α → Prop} {E : Nat → Nat → List W → Prop} : ∀ {t : T α} {d e : Nat}, t.AllB (fun _ a => P 0 a) (fun _ c fs => E 0 c fs) d → d ≤ e → t.AllB (fun _ a => P 0 a) (fun _ c fs => E 0 c fs) e
  | .ok a, d, e, h, _ => h
  | .exc _ _, d, e, h, _ => h
  | .bad, d, e, h, _ => h
  | .ask n k, d, e, h, l => by
    obtain ⟨d', rfl, h⟩ := h
    exact ⟨e - 1, by omega, fun i hi => T.AllB.more (h i hi) (by omega)⟩
theorem compL_filter {G : W → En → Option En} {tt : En → T Bool} {fe : En → T W} {ρ : En} {α : Type} (m f : α → W) (t : α → Bool) : ∀ (as : List α), (∀ a ∈ as, ∃ ρ1, G (m a) ρ = some ρ1 ∧ tt ρ1 = .ok (t a) ∧ (t a = true → fe ρ1 = .ok (f a))) → compL G tt fe ρ (as.map m) = .ok ((as.filter t).map f)
  | [], _ => rfl
  | a :: as, h => by
    obtain ⟨ρ1, h1, h2, h3⟩ := h a (List.mem_cons_self ..)
    have ih := compL_filter m f t as fun b hb => h b (List.mem_cons_of_mem _ hb)
    cases ht : t a with
    | true => simp only [List.map_cons, compL, h1, h2, h3 ht, ht, noX_ok, T.bind_ok, if_true, ih, List.filter_cons]
    | false => simp only [List.map_cons, compL, h1, h2, ht, noX_ok, T.bind_ok, if_false, Bool.false_eq_true, ih, List.filter_cons]
inductive All2 {α : Type} (R : α → W → Prop) : List α → List W → Prop
  | nil : All2 R [] []
  | cons {a : α} {w : W} {as : List α} {ws : List W} : R a w → All2 R as ws → All2 R (a :: as) (w :: ws)
/-- a comprehension with draws -/
theorem compL_draw {G : W → En → Option En} {tt : En → T Bool} {fe : En → T W} {ρ : En} {α : Type} {R : α → W → Prop} {E : Nat → Nat → List W → Prop} (c : Nat) (m : α → W) : ∀ (as : List α) {P : Nat → List W → Prop} {d : Nat},
    (∀ a ∈ as, ∃ ρ1, G (m a) ρ = some ρ1 ∧ tt ρ1 = .ok true ∧ ∀ (Q : Nat → W → Prop) (d : Nat), c ≤ d → (∀ w d', R a w → d ≤ d' + c → Q d' w) → (noX (fe ρ1)).AllB Q E d) → c * as.length ≤ d → (∀ ws d', All2 R as ws → d ≤ d' + c * as.length → P d' ws) → (compL G tt fe ρ (as.map m)).AllB P E d
  | [], P, d, _, _, h => h [] d .nil (by omega)
  | a :: as, P, d, h, hd, hP => by
    obtain ⟨ρ1, h1, h2, h3⟩ := h a (List.mem_cons_self ..)
    rw [List.length_cons, Nat.mul_add, Nat.mul_one] at hd hP
    simp only [List.map_cons, compL, h1, h2, noX_ok, T.bind_ok, if_true]
    refine T.allB_bind.mpr (h3 _ d (by omega) fun w d' hw hd' => T.allB_bind.mpr ?_)
    exact compL_draw c m as (fun b hb => h b (List.mem_cons_of_mem _ hb)) (by omega) fun ws d'' hws hd'' => hP (w :: ws) d'' (.cons hw hws) (by omega)
theorem fComp_eq (vs : List Nat) (fi : En → T (List W)) (G : W → En → Option En) (tt : En → T Bool) (fe : En → T W) (ρ : En) : fComp vs fi G tt fe ρ = (fi ρ).bind fun ws => if sizeOk ws then (compL G tt fe (wipeE ρ vs) ws).bind fun xs => .ok (.lst xs) else .bad := rfl
theorem fCh_eq (g g' : W → W → T W) (fa fb fc : En → T W) (ρ : En) : fCh g g' fa fb fc ρ = (fa ρ).bind fun x => (fb ρ).bind fun y => (g x y).bind fun z => match z with
  | .bl true => (fc ρ).bind fun w => g' y w
  | .bl false => .ok (.bl false)
  | _ => .bad := rfl
theorem fSl_eq (fa : En → T W) (fl fh : En → T (Option Int)) (ρ : En) : fSl fa fl fh ρ = (fa ρ).bind fun x => (fl ρ).bind fun l => (fh ρ).bind fun u => slW x l u := rfl
theorem pNo_eq (ρ : En) : pNo ρ = .ok none := rfl
theorem pSome_eq (f : En → T W) (ρ : En) : pSome f ρ = (f ρ).bind fun x => (pInt x).bind fun i => .ok (some i) := rfl
theorem fStar_eq (fa : En → T W) (fs : En → T (List W)) (ρ : En) : fStar fa fs ρ = (fa ρ).bind fun x => (seqW x).bind fun xs => (fs ρ).bind fun ys => .ok (xs ++ ys) := rfl
theorem defF_eq (n np : Nat) (g : En → T (Fl × En)) (ws : List W) (h : (ws.length == np) = true) : defF n np g ws = (g (startE n ws)).bind endOf := by
  unfold defF
  rw [if_pos h]
theorem toDs_ints : ∀ ns : List Int, toDs (ns.map W.int) = some (ns.map PyData.int)
  | [] => rfl
  | n :: ns => by simp [toDs, toDs_ints ns, W.toD]
theorem all2_ints {R : Nat → Int → Prop} : ∀ {as : List Nat} {ws : List W}, All2 (fun a w => ∃ x, w = W.int x ∧ R a x) as ws → as.Nodup → ∃ f : Nat → Int, ws = as.map (fun i => W.int (f i)) ∧ ∀ a ∈ as, R a (f a)
  | _, _, .nil, _ => ⟨fun _ => 0, rfl, fun a h => by cases h⟩
  | _, _, .cons (a := a) (as := as) h r, nd => by
    obtain ⟨x, rfl, hx⟩ := h
    obtain ⟨f, e, hf⟩ := all2_ints r (List.nodup_cons.mp nd).2
    have na := (List.nodup_cons.mp nd).1
    refine ⟨fun i => if i = a then x else f i, ?_, fun b hb => ?_⟩
    · rw [List.map_cons, e]
      simp only [if_true]
      congr 1
      refine List.map_congr_left fun i hi => ?_
      have : i ≠ a := fun z => na (z ▸ hi)
      simp [this]
    · rcases List.mem_cons.mp hb with rfl | hb
      · simpa using hx
      · have : b ≠ a := fun z => na (z ▸ hb)
        simp [this]
        exact hf b hb
/-- drawn ints, one for each of 0, 1, .. -/
theorem compL_ints {G : W → En → Option En} {tt : En → T Bool} {fe : En → T W} {ρ : En} {E : Nat → Nat → List W → Prop} {P : Nat → List W → Prop} {n d : Nat} {m : Nat → W} (R : Nat → Int → Prop) (c : Nat)
    (h : ∀ a, a < n → ∃ ρ1, G (m a) ρ = some ρ1 ∧ tt ρ1 = .ok true ∧ ∀ (Q : Nat → W → Prop) (d : Nat), c ≤ d → (∀ x d', R a x → d ≤ d' + c → Q d' (.int x)) → (noX (fe ρ1)).AllB Q E d) (hd : c * n ≤ d)
    (hP : ∀ (f : Nat → Int) d', (∀ a, a < n → R a (f a)) → d ≤ d' + c * n → P d' ((List.range n).map fun i => W.int (f i))) : (compL G tt fe ρ ((List.range n).map m)).AllB P E d := by
  refine compL_draw (R := fun a w => ∃ x, w = W.int x ∧ R a x) c m (List.range n) (fun a ha => ?_) (by rw [List.length_range]; exact hd) fun ws d' hw hd' => ?_
  · obtain ⟨ρ1, h1, h2, h3⟩ := h a (List.mem_range.mp ha)
    exact ⟨ρ1, h1, h2, fun Q d hd hQ => h3 Q d hd fun x d' hx hd' => hQ _ d' ⟨x, rfl, hx⟩ hd'⟩
  · obtain ⟨f, e, hf⟩ := all2_ints hw List.nodup_range
    rw [e]
    rw [List.length_range] at hd'
    exact hP f d' (fun a ha => hf a (List.mem_range.mpr ha)) hd'
def Sh (n k : Nat) (w : W) : Prop := ∃ d, w.toD = some d ∧ d.showable = true ∧ d.hasDict = false ∧ d.depth ≤ k ∧ d.shown.length ≤ n ∧ d.canLay0 = true
theorem Sh.mono {n k n' k' : Nat} {w : W} (h : Sh n k w) (hn : n ≤ n') (hk : k ≤ k') : Sh n' k' w := by
  obtain ⟨d, h1, h2, h3, h4, h5, h6⟩ := h
  exact ⟨d, h1, h2, h3, by omega, by omega, h6⟩
theorem Sh.low {n k : Nat} {w : W} (h : Sh n k w) : low k w := by
  obtain ⟨d, h1, h2, h3, h4, h5, h6⟩ := h
  exact ⟨d, h1, h6, h4⟩
end PF
namespace PF
open PySem PySem.Spec PyProof.Rows L2
def rInT (K : PySem.W.Frag) (neg : Bool) : R2 := fun x y H Q => ∃ d ds, Dp K H x d ∧ Dp K H y (.tuple ds) ∧ SeqAt.shaped d = true ∧ SeqAt.shaped (.tuple ds) = true ∧ Q (.bl (if neg then !ds.any fun z => PyData.eqv z d else ds.any fun z => PyData.eqv z d)) H
theorem op_ninT {X : Cx} (hu : X.A.units + 65 < cLine) : OpR X (compareOp .NotIn) (rInT X.K true) := by
  intro pins s σ H x y v u Q I rx ry h
  obtain ⟨d, ds, hd, he, sd, se, q⟩ := h
  obtain ⟨as, ra⟩ := Dp.reads I d x v hd rx
  obtain ⟨bs, rb⟩ := Dp.reads I (.tuple ds) y u he ry
  exact SeqAt.notIn_tuple_reads rb ra (SeqAt.canLay_of_shaped se) (SeqAt.canLay_of_shaped sd) (room_in_shaped sd hu) ⟨.bl _, H, I, rfl, q⟩
def seqD : PyData → Option (List PyData)
  | .list ds => some ds
  | .tuple ds => some ds
  | _ => none
/-- whether x is among y's things -/
def inO (x y : W) : Option Bool := match x.toD, y.toD with
  | some d, some e => match seqD e with
    | some ds => if SeqAt.shaped d && SeqAt.shaped e then some (ds.any fun z => PyData.eqv z d) else none
    | none => none
  | _, _ => none
def inW (x y : W) : T W := match inO x y with
  | some b => .ok (.bl b)
  | none => .bad
def ninW (x y : W) : T W := match inO x y with
  | some b => .ok (.bl !b)
  | none => .bad
theorem inO_some {x y : W} {b : Bool} (h : inO x y = some b) : ∃ d e ds, x.toD = some d ∧ y.toD = some e ∧ seqD e = some ds ∧ SeqAt.shaped d = true ∧ SeqAt.shaped e = true ∧ (ds.any fun z => PyData.eqv z d) = b := by
  unfold inO at h
  split at h
  · rename_i d e h1 h2
    split at h
    · rename_i ds h3
      split at h
      · rename_i hc
        obtain ⟨c1, c2⟩ := Bool.and_eq_true_iff.mp hc
        exact ⟨d, e, ds, h1, h2, h3, c1, c2, Option.some.inj h⟩
      · cases h
    · cases h
  · cases h
theorem seqD_is {e : PyData} {ds : List PyData} (h : seqD e = some ds) : e = .list ds ∨ e = .tuple ds := by
  cases e <;> first | cases h | skip
  · exact .inl rfl
  · exact .inr rfl
theorem sem_nin {K : PySem.W.Frag} : Sem2 K (fun x y H Q => rNotInD K x y H Q ∨ rInT K true x y H Q) ninW := fun c d H x y v u Q E' wd rx ry q => by
  unfold ninW at q
  split at q
  · rename_i b hb
    obtain ⟨d1, e1, ds, h1, h2, h3, s1, s2, eb⟩ := inO_some hb
    have q := PQ.now wd q (.bl _)
    rw [← eb] at q
    rcases seqD_is h3 with rfl | rfl
    · exact .inl ⟨d1, ds, rx.dp h1, ry.dp h2, s1, s2, q⟩
    · exact .inr ⟨d1, ds, rx.dp h1, ry.dp h2, s1, s2, q⟩
  · exact q.elim
theorem Room.units65 {k : Nat} {A : Around} (r : Room k A) : A.units + 65 < cLine := by
  have := r.un
  omega
theorem op_ninW {X : Cx} (hu : X.A.units + 65 < cLine) : OpR X (compareOp .NotIn) (fun x y H Q => rNotInD X.K x y H Q ∨ rInT X.K true x y H Q) := opR_or (op_notInD hu) (op_ninT hu)
def sPar3 (i j l : Nat) (fs : En → T (List W)) : En → T (Fl × En) := fun ρ => (fs ρ).bind fun xs => match xs with
  | [x, y, z] => .ok (.nx, ((ρ.set i (.val x)).set j (.val y)).set l (.val z))
  | _ => .bad
@[simp] theorem sPar3_eq (i j l : Nat) (fs : En → T (List W)) (ρ : En) : sPar3 i j l fs ρ = (fs ρ).bind fun xs => match xs with
  | [x, y, z] => .ok (.nx, ((ρ.set i (.val x)).set j (.val y)).set l (.val z))
  | _ => .bad := rfl
end PF
namespace PF
open PySem PySem.Spec PyProof.Rows L2
end PF
namespace PF
open PySem PySem.Spec PyProof.Rows L2
def TupI (h : Heap) (v : Value) (ns : List Int) : Prop := ∃ (a : Addr) (o : Obj) (its : List Value) (n : Nat), v = .ref a ∧ h.get? a = some o ∧ o.cls = .type "tuple" ∧ o.data = .seq its.toArray n ∧ IntsAre its ns
theorem TupI.keeps {h h' : Heap} {v : Value} {ns : List Int} (t : TupI h v ns) (k : ∀ b o, h.get? b = some o → o.cls = .type "tuple" → h'.get? b = some o) : TupI h' v ns := by
  obtain ⟨a, o, its, n, e, ho, hc, hd, hi⟩ := t
  exact ⟨a, o, its, n, e, k _ _ ho hc, hc, hd, hi⟩
def numV : Value → Int
  | .int i _ => i
  | _ => 0
def kH (h : Heap) (v : Value) : List Int := match v with
  | .ref a => match h.get? a with
    | some o => match o.data with
      | .seq its _ => its.toList.map numV
      | _ => []
    | none => []
  | _ => []
theorem ints_num : ∀ {its : List Value} {ns : List Int}, IntsAre its ns → its.map numV = ns
  | _, _, .nil => rfl
  | _, _, .cons n t h => by
    rw [List.map_cons, ints_num h]
    rfl
theorem TupI.kH {h : Heap} {v : Value} {ns : List Int} (t : TupI h v ns) : kH h v = ns := by
  obtain ⟨a, o, its, n, rfl, ho, hc, hd, hi⟩ := t
  unfold PF.kH
  simp only [ho, hd]
  exact ints_num hi
section
variable {prog : Program} {w : World} {A : Around} {E : Value → Shared → Prop} {s : Shared} {Q : Bool → Shared → Prop}
end
inductive PT (K : PySem.W.Frag) (H : Hp) : List (List Int) → List V → Prop
  | nil : PT K H [] []
  | cons {ns : List Int} {t : Addr} {kss : List (List Int)} {xs : List V} : SqT K H t (ns.map V.int) → PT K H kss xs → PT K H (ns :: kss) (.ref t :: xs)
section
variable {X : Cx} {pins : List (Addr × Obj)} {σ : L2.St} {H : Hp} {s : Shared}
theorem ints_of : ∀ {ns : List Int} {us : List Value}, Vals (ns.map V.int) us → IntsAre us ns
  | [], _, .nil => .nil
  | n :: ns, _, .cons r t => by
    obtain ⟨u, rfl⟩ := r
    exact .cons n u (ints_of t)
theorem PT.tups (I : Inv X pins σ H s) : ∀ {kss : List (List Int)} {xs : List V} {us : List Value}, PT X.K H kss xs → Vals xs us → xs = us.map backV ∧ us.map (kH s.heap) = kss ∧ (∀ u ∈ us, ∃ t, u = .ref t ∧ TupI s.heap u (kH s.heap u) ∧ SqT X.K H t ((kH s.heap u).map V.int))
  | _, _, _, .nil, .nil => ⟨rfl, rfl, fun u h => by cases h⟩
  | _, _, _, .cons (ns := ns) (t := t) hs r, .cons (b := u) ru rr => by
    have ru : u = Value.ref t := ru
    subst ru
    obtain ⟨e1, e2, e3⟩ := PT.tups I r rr
    obtain ⟨its, rv, ⟨o, ho, hc, n, hd⟩, _⟩ := I.tuple hs
    have ti : TupI s.heap (.ref t) ns := ⟨t, o, its, n, rfl, ho, hc, hd, ints_of rv⟩
    refine ⟨by rw [e1]; rfl, by rw [List.map_cons, e2, ti.kH], fun v hv => ?_⟩
    rcases List.mem_cons.mp hv with rfl | hv
    · exact ⟨t, rfl, by rw [ti.kH]; exact ti, by rw [ti.kH]; exact hs⟩
    · exact e3 v hv
theorem PT.back {K : PySem.W.Frag} {h : Heap} : ∀ {out : List Value}, (∀ u ∈ out, ∃ t, u = Value.ref t ∧ SqT K H t ((kH h u).map V.int)) → PT K H (out.map (kH h)) (out.map backV)
  | [], _ => .nil
  | u :: out, hp => by
    obtain ⟨t, rfl, hs⟩ := hp u (List.mem_cons_self ..)
    exact .cons hs (PT.back fun v hv => hp v (List.mem_cons_of_mem _ hv))
end
theorem RepL.pt {K : PySem.W.Frag} {c : Cc} {H : Hp} : ∀ {kss : List (List Int)} {xs : List V}, RepL K c H (kss.map fun ns => W.tup (ns.map W.int)) xs → PT K H kss xs
  | [], _, .nil => .nil
  | ns :: kss, _, .cons h r => by
    cases h with
    | tup hs rl =>
      rw [rl.ints] at hs
      exact .cons hs (RepL.pt r)
theorem PT.rep {K : PySem.W.Frag} {c : Cc} {H : Hp} : ∀ {kss : List (List Int)} {xs : List V}, PT K H kss xs → RepL K c H (kss.map fun ns => W.tup (ns.map W.int)) xs
  | _, _, .nil => .nil
  | _, _, .cons h r => .cons (.tup h (RepL.ofInts _)) (PT.rep r)
theorem bo_sorted : bootBuiltins "sorted" = some (.builtin "sorted") := by decide +kernel
end PF
namespace PF
open PySem PySem.Spec PyProof.Rows L2
def SqB (K : PySem.W.Frag) (b : Bool) (H : Hp) (a : Addr) (xs : List V) : Prop := match b with
  | true => SqT K H a xs
  | false => SqL K H a xs
def hpB (b : Bool) (h : Heap) (a : Addr) (its : Array Value) : Prop := match b with
  | true => h.IsTuple a its
  | false => h.IsList a its
def itB (b : Bool) (h : Heap) (it a : Addr) (i : Nat) : Prop := match b with
  | true => h.IsTupleIter it a i
  | false => h.IsListIter it a i
def obB (b : Bool) (a : Addr) : Obj := { cls := .type (match b with | true => "tuple_iterator" | false => "list_iterator"), data := .fields #[.ref a, .int 0 0] }
theorem seqB {X : Cx} {pins : List (Addr × Obj)} {σ : L2.St} {H : Hp} {s : Shared} {b : Bool} {a : Addr} {xs : List V} (I : Inv X pins σ H s) (h : SqB X.K b H a xs) : ∃ its, Vals xs its ∧ hpB b s.heap a its.toArray := by
  cases b with
  | true =>
    obtain ⟨its, rv, p, _⟩ := I.tuple h
    exact ⟨its, rv, p⟩
  | false =>
    obtain ⟨its, rv, p, _⟩ := I.list h
    exact ⟨its, rv, p.isList⟩
theorem seqB_inj {X : Cx} {pins : List (Addr × Obj)} {σ : L2.St} {H : Hp} {s : Shared} {b : Bool} {a : Addr} {xs ys : List V} (I : Inv X pins σ H s) (h : SqB X.K b H a xs) (g : SqB X.K b H a ys) : xs = ys := by
  cases b with
  | true => exact I.tuple_inj h g
  | false => exact I.list_inj h g
theorem hpB.lt {b : Bool} {h : Heap} {a : Addr} {its : Array Value} (p : hpB b h a its) : a < h.objs.size := by
  cases b with
  | true =>
    obtain ⟨_, q, _⟩ := id (show h.IsTuple a its from p)
    exact Heap.lt_size q
  | false =>
    obtain ⟨_, q, _⟩ := id (show h.IsList a its from p)
    exact Heap.lt_size q
theorem itB.keep {b : Bool} {h h' : Heap} {it a : Addr} {i : Nat} (p : itB b h it a i) (k : ∀ o, h.get? it = some o → h'.get? it = some o) : itB b h' it a i := by
  cases b with
  | true => exact Heap.IsTupleIter.at (show h.IsTupleIter it a i from p) k
  | false => exact Heap.IsListIter.at (show h.IsListIter it a i from p) k
theorem itB.obj {b : Bool} {h : Heap} {it a : Addr} {i : Nat} (p : itB b h it a i) : ∃ o fs, h.get? it = some o ∧ o.data = .fields fs := by
  cases b with
  | true =>
    obtain ⟨o, q, _, d⟩ := (show h.IsTupleIter it a i from p)
    exact ⟨o, _, q, d⟩
  | false =>
    obtain ⟨o, q, _, d⟩ := (show h.IsListIter it a i from p)
    exact ⟨o, _, q, d⟩
theorem drawsB {prog : Program} {w : World} {A : Around} (hh : A.handled = none) (b : Bool) (it a : Addr) (n : a ≠ it) (its : Array Value) : Draws prog w A it [it, a] its.size (fun i v => its[i]? = some v) (fun i h => itB b h it a i ∧ hpB b h a its) := by
  cases b with
  | true => exact Draws.tuple hh it a n its
  | false => exact Draws.list hh it a n its
theorem beginsB (b : Bool) (a : Addr) (its : Array Value) : Begins (.ref a) (obB b a) fun h => hpB b h a its := by
  cases b with
  | true => exact begins_tuple a its
  | false => exact begins_list a its
theorem itB.first {b : Bool} {h : Heap} {it a : Addr} (p : h.get? it = some (obB b a)) : itB b h it a 0 := by
  cases b with
  | true => exact ⟨_, p, rfl, rfl⟩
  | false => exact ⟨_, p, rfl, rfl⟩
/-- two rows of either kind, item by item in new pairs -/
def ItzB (K : PySem.W.Frag) (b1 b2 : Bool) (a b : Addr) (n m : Nat) : It :=
  ⟨fun i H => (i < n ∧ i < m) ∧ ∃ (xs ys : List V) (x y : V), SqB K b1 H a xs ∧ SqB K b2 H b ys ∧ (xs.length = n ∧ ys.length = m) ∧ xs[i]? = some x ∧ ys[i]? = some y,
    fun i H v H' => ∃ T x y, v = .ref T ∧ H T = none ∧ H' = upd H T (.tup [x, y]) ∧ (∀ xs, SqB K b1 H a xs → xs[i]? = some x) ∧ ∀ ys, SqB K b2 H b ys → ys[i]? = some y,
    fun i H => (n ≤ i ∨ m ≤ i) ∧ ∃ xs ys : List V, SqB K b1 H a xs ∧ SqB K b2 H b ys ∧ xs.length = n ∧ ys.length = m⟩
theorem in5 {P : Addr → Prop} {z TI TO i1 i2 : Addr} (h1 : P z) (h2 : P TI) (h3 : P TO) (h4 : P i1) (h5 : P i2) : ∀ c, c ∈ [z, TI, TO, i1, i2] → P c := fun c hc => by
  simp only [List.mem_cons, List.not_mem_nil, or_false] at hc
  rcases hc with e | e | e | e | e <;> (rw [e]; assumption)
theorem turn_zB {P : Program} {w : World} {K : PySem.W.Frag} {elts : List Expr} {kk : Nat} {tpos : Pos} {b1 b2 : Bool} {a b z TI TO i1 i2 : Addr} (n m : Nat) (D : ZipSep2 z TI TO i1 i2 [i1, a] [i2, b]) (na : a ≠ i1) (nb : b ≠ i2) :
    Turn P w K (.Tuple elts kk tpos) (ItzB K b1 b2 a b n m) [z, TI, TO, i1, i2] z (fun i h => IsZip h z TI TO .none ∧ IsTupOf2 h TI (.ref i1) (.ref i2) ∧ (∃ x y, IsTupOf2 h TO x y) ∧ itB b1 h i1 a i ∧ itB b2 h i2 b i ∧ i ≤ n ∧ i ≤ m) where
  mem := List.mem_cons_self ..
  obj := fun i h st => by
    obtain ⟨hz, hTI, ⟨x, y, hTO⟩, p1, p2, _⟩ := st
    obtain ⟨o1, f1, e1, d1⟩ := p1.obj
    obtain ⟨o2, f2, e2, d2⟩ := p2.obj
    refine in5 ⟨_, hz, fun v q => nomatch q⟩ ⟨_, hTI, fun v q => nomatch q⟩ ⟨_, hTO, fun v q => nomatch q⟩ ⟨o1, e1, fun v q => ?_⟩ ⟨o2, e2, fun v q => ?_⟩
    · rw [d1] at q
      cases q
    · rw [d2] at q
      cases q
  keep := fun i h h' st k => by
    obtain ⟨hz, hTI, ⟨x, y, hTO⟩, p1, p2, le⟩ := st
    exact ⟨k z (by simp) _ hz, k TI (by simp) _ hTI, ⟨x, y, k TO (by simp) _ hTO⟩, p1.keep (k i1 (by simp)), p2.keep (k i2 (by simp)), le⟩
  item := by
    intro X hP hw hK hc i pins s σ H E I hf st hg
    subst hP hw hK
    obtain ⟨hz, hTI, ⟨x0, y0, hTO⟩, p1, p2, _⟩ := st
    obtain ⟨hi, xs, ys, x, y, qx, qy, hl, hx, hy⟩ := hg
    obtain ⟨its, rv, r1⟩ := seqB I qx
    obtain ⟨its2, rv2, r2⟩ := seqB I qy
    obtain ⟨u, hu, ru⟩ := rv.get hx
    obtain ⟨u2, hu2, ru2⟩ := rv2.get hy
    have l1 := rv.length
    have l2 := rv2.length
    have zl : z < s.heap.objs.size := Heap.lt_size hz
    have D1 := drawsB (prog := X.prog) (w := X.w) (A := X.A.in1) (I.ok.hd hc) b1 i1 a na its.toArray
    have D2 := drawsB (prog := X.prog) (w := X.w) (A := X.A.in1) (I.ok.hd hc) b2 i2 b nb its2.toArray
    refine wpAny_pyNext_zipD2_item D D1 D2 hz hTI hTO ⟨p1, r1⟩ ⟨p2, r2⟩ (by simp; omega) (by simp; omega) fun x1 x2 h' tk g1 g2 z' TO' s1 s2 hT hsz hk => ?_
    have eu : x1 = u := by
      have g1 : its[i]? = some x1 := by simpa using g1
      rw [hu] at g1
      exact (Option.some.inj g1).symm
    have eu2 : x2 = u2 := by
      have g2 : its2[i]? = some x2 := by simpa using g2
      rw [hu2] at g2
      exact (Option.some.inj g2).symm
    subst eu eu2
    refine ⟨_, rfl, wpAny_letOwnedTupleGo_zip (s := { s with heap := h', toks := tk }) z' fun h'' z'' sb => ?_⟩
    have hT2 : h''.get? s.heap.objs.size = some { cls := .type "tuple", data := .seq #[x1, x2] } := (sb.2 _ (Nat.ne_of_gt zl)).trans hT
    have nw : ObjOk X.prog X.w (upd H s.heap.objs.size (.tup [x, y])) h'' s.heap.objs.size (.tup [x, y]) := ⟨by show 2 ≤ sizeLine; decide, [x1, x2], .cons ru (.cons ru2 .nil), ⟨_, hT2, rfl, _, rfl⟩⟩
    have out : ∀ c o, c ∉ [z, TI, TO, i1, i2] → s.heap.get? c = some o → h''.get? c = some o := fun c o hb q => by
      simp only [List.mem_cons, List.not_mem_nil, or_false, not_or] at hb
      exact (sb.2 c hb.1).trans (hk c o hb.1 hb.2.2.1 hb.2.2.2.1 hb.2.2.2.2 q)
    have I1 : Inv X pins σ (upd H s.heap.objs.size (.tup [x, y])) { s with heap := h'', toks := tk } := I.turnedNew (ch := [z, TI, TO, i1, i2]) out hf (Nat.le_refl _) nw
    refine ⟨.ref s.heap.objs.size, _, I1, rfl, ⟨_, x, y, rfl, I.hok.fresh (Nat.le_refl _), rfl, fun l q => by rw [seqB_inj I q qx]; exact hx, fun l q => by rw [seqB_inj I q qy]; exact hy⟩, ⟨z'', ?_, ⟨x1, x2, ?_⟩, ?_, ?_, hi.1, hi.2⟩, fun c hcm => ?_⟩
    · exact (sb.2 _ D.TIz).trans (hk _ _ D.TIz D.TITO D.TIi1 D.TIi2 hTI)
    · exact (sb.2 _ D.TOz).trans TO'
    · exact s1.1.keep fun o q => (sb.2 _ (Ne.symm D.zi1)).trans q
    · exact s2.1.keep fun o q => (sb.2 _ (Ne.symm D.zi2)).trans q
    · obtain ⟨_, _, e1, _⟩ := p1.obj
      obtain ⟨_, _, e2, _⟩ := p2.obj
      have hlt : c < s.heap.objs.size := in5 (P := fun c => c < s.heap.objs.size) zl (Heap.lt_size hTI) (Heap.lt_size hTO) (Heap.lt_size e1) (Heap.lt_size e2) c hcm
      rw [upd_ne (Nat.ne_of_lt hlt)]
      exact (hf c hcm).1
  done := by
    intro X hP hw hK hc i pins s σ H E I hf st hg
    subst hP hw hK
    obtain ⟨hz, hTI, ⟨x0, y0, hTO⟩, p1, p2, le1, le2⟩ := st
    obtain ⟨he, xs, ys, qx, qy, lx, ly⟩ := hg
    obtain ⟨its, rv, r1⟩ := seqB I qx
    obtain ⟨its2, rv2, r2⟩ := seqB I qy
    have l1 := rv.length
    have l2 := rv2.length
    have D1 := drawsB (prog := X.prog) (w := X.w) (A := X.A.in1) (I.ok.hd hc) b1 i1 a na its.toArray
    have D2 := drawsB (prog := X.prog) (w := X.w) (A := X.A.in1) (I.ok.hd hc) b2 i2 b nb its2.toArray
    refine wpAny_pyNext_zipD2_end D D1 D2 hz hTI hTO ⟨p1, r1⟩ ⟨p2, r2⟩ (by simp; omega) (by simp; omega) (by simp; omega) fun h' tk hk => ⟨rfl, I.turnedL (ch := [z, TI, TO, i1, i2]) (fun c o hb q => ?_) hf⟩
    simp only [List.mem_cons, List.not_mem_nil, or_false, not_or] at hb
    exact hk c o hb.1 hb.2.2.1 hb.2.2.2.1 hb.2.2.2.2 q
  self := fun A i s Q E st h => wpAny_pyIter_zip st.1 h
theorem sep_zB {I l m : Nat} (h1 : l < I) (h2 : m < I) : ZipSep2 (I + 4) (I + 2) (I + 3) I (I + 1) [I, l] [I + 1, m] := by
  have no : ∀ {x y z : Nat}, x ≠ y → x ≠ z → x ∉ [y, z] := fun a b q => by
    rcases List.mem_cons.mp q with q | q
    · exact a q
    · exact b (List.mem_singleton.mp q)
  have mm : ∀ {x y : Nat}, x ∈ [x, y] := List.mem_cons_self ..
  exact ⟨by show (_ : Nat) ≠ _; omega, by show (_ : Nat) ≠ _; omega, by show (_ : Nat) ≠ _; omega, by show (_ : Nat) ≠ _; omega, mm, no (by omega) (by omega), no (by omega) (by omega), by show (_ : Nat) ≠ _; omega, mm, no (by omega) (by omega), no (by omega) (by omega), no (by omega) (by omega), no (by omega) (by omega)⟩
def iZB (K : PySem.W.Frag) (ta : TA) : TI := fun σ H R => ta σ H fun vs H1 => ∃ b1 b2 a b xs ys, vs = [.ref a, .ref b] ∧ SqB K b1 H1 a xs ∧ SqB K b2 H1 b ys ∧ R (ItzB K b1 b2 a b xs.length ys.length) H1
theorem pi_zB {X : Cx} {e e2 : Expr} {ta : TA} {p pos tpos : Pos} {elts : List Expr} {kk : Nat} (hg : Gl X "zip") (hm : X.mg "zip" = none) (ha : PA X [e, e2] ta)
    (hs : starEach [e, e2] X.env = (false, eval e X.env) :: starEach [e2] X.env := by rfl) (hpl : (backTo pos (starEach [e2] X.env)).any (·.1) = false := by rfl) :
    PI X (.Tuple elts kk tpos) (.Call (.Name "zip" p) [e, e2] [] pos) (iZB X.K ta) := by
  refine ⟨fun pins s σ H R I h => Call_ (ld_blt I hg hm PyProof.Rows.boot_zip (PyProof.Rows.callWith_type1 (thn (ha.run pos pins s σ H _ I h) fun us s1 ⟨vs, H1, I1, r1, q1⟩ => ?_) hs hpl))⟩
  obtain ⟨b1, b2, a, b, xs, ys, rfl, qx, qy, q⟩ := q1
  cases r1 with
  | cons r rr =>
    cases rr with
    | cons r' rr =>
      cases rr
      cases r
      cases r'
      obtain ⟨its, rv, p1⟩ := seqB I1 qx
      obtain ⟨its2, rv2, p2⟩ := seqB I1 qy
      have la := p1.lt
      have lb := p2.lt
      refine zip_begins2 (beginsB b1 a its.toArray) (beginsB b2 b its2.toArray) p1 p2 fun h' hz hTI hTO g1 g2 hsz hk => wpAny_pyIter_zip hz ?_
      have I2 : Inv X pins σ H1 { s1 with heap := h' } := I1.kept (t' := s1.toks) hk
      have fp : ∀ c, s1.heap.objs.size ≤ c → FpOk X pins H1 c := fun c hle => I1.fpOk hle (I1.hok.fresh hle)
      exact ⟨_, [s1.heap.objs.size + 4, s1.heap.objs.size + 2, s1.heap.objs.size + 3, s1.heap.objs.size, s1.heap.objs.size + 1], _, _, H1, rfl, I2, turn_zB xs.length ys.length (sep_zB la lb) (Nat.ne_of_lt la) (Nat.ne_of_lt (Nat.lt_succ_of_lt lb)), ⟨hz, hTI, ⟨_, _, hTO⟩, .first g1, .first g2, Nat.zero_le _, Nat.zero_le _⟩, in5 (fp _ (Nat.le_add_right _ _)) (fp _ (Nat.le_add_right _ _)) (fp _ (Nat.le_add_right _ _)) (fp _ (Nat.le_refl _)) (fp _ (Nat.le_add_right _ _)), q⟩
def isTW : W → Option (Bool × List W)
  | .tup ws => some (true, ws)
  | .lst ws => some (false, ws)
  | _ => none
/-- zip of rows of either kind -/
def zbW : List W → T (List W)
  | [x, y] => match isTW x, isTW y with
    | some (_, ws), some (_, us) => .ok (zipF ws us)
    | _, _ => .bad
  | _ => .bad
section
variable {K : PySem.W.Frag} {c : Cc} {d : Dw} {H H1 : Hp}
/-- a row that is plain data -/
def RowB (K : PySem.W.Frag) (c : Cc) (H : Hp) (b : Bool) (a : Addr) (vs : List V) : Prop := match b with
  | true => SqT K H a vs
  | false => a ∉ c.A ∧ H a = some (.lst vs)
theorem RowB.sq {b : Bool} {a : Addr} {vs : List V} (h : RowB K c H b a vs) : SqB K b H a vs := by
  cases b with
  | true => exact h
  | false => exact SqL.of h.2
theorem RowB.fwd {c' : Cc} {H' : Hp} {b : Bool} {a : Addr} {vs : List V} (ok : CcOk c) (mo : MOk c H) (h : RowB K c H b a vs) (fw : Fwd K c H c' H') : SqB K b H' a vs := by
  cases b with
  | true => exact fw.sq a vs h
  | false => exact SqL.of (fw.step _ _ h.2 (ok.neS h.1) (ok.nela h.1) (fun z => h.1 (mo.inA _ z)) nofun)
theorem it_zB {b1 b2 : Bool} {a b : Addr} {vs us : List V} {ws zs : List W} (ok : CcOk c) (mo : MOk c H) (hq : RowB K c H b1 a vs) (rl : RepL K c H ws vs) (hp : RowB K c H b2 b us) (rm : RepL K c H zs us) : ItOk K c H (ItzB K b1 b2 a b vs.length us.length) (zipF ws zs) := fun c' H' d' i fw wd => by
  have hq' := hq.fwd ok mo fw
  have hp' := hp.fwd ok mo fw
  refine ⟨fun w hw => ?_, fun hi => ?_⟩
  · obtain ⟨w1, w2, h1, h2, rfl⟩ := zipF_get _ _ _ _ hw
    obtain ⟨v, hv, rv⟩ := rl.get h1
    obtain ⟨u, hu, ru⟩ := rm.get h2
    refine ⟨⟨⟨(List.getElem?_eq_some_iff.mp hv).1, (List.getElem?_eq_some_iff.mp hu).1⟩, vs, us, v, u, hq', hp', ⟨rfl, rfl⟩, hv, hu⟩, fun x H2 y => ?_⟩
    obtain ⟨T, x', y', rfl, hT, rfl, y1, y2⟩ := y
    have ex := y1 vs hq'
    have ey := y2 us hp'
    rw [hv] at ex
    rw [hu] at ey
    cases ex
    cases ey
    exact new_pair wd hT (fw.rep _ _ rv) (fw.rep _ _ ru)
  · rw [zipF_length, rl.length, rm.length] at hi
    exact ⟨by omega, vs, us, hq', hp', rfl, rfl⟩
theorem Rep.row {w : W} {v : V} {b : Bool} {ws : List W} (r : Rep K c H w v) (h : isTW w = some (b, ws)) : ∃ a vs, v = .ref a ∧ RowB K c H b a vs ∧ RepL K c H ws vs := by
  cases r with
  | tup hq rl =>
    cases h
    exact ⟨_, _, rfl, hq, rl⟩
  | lst n hq rl =>
    cases h
    exact ⟨_, _, rfl, ⟨n, hq⟩, rl⟩
  | _ => cases h
end
theorem tri_zB {X : Cx} {E : WX} {e e2 : Expr} {fs : En → T (List W)} {p pos tpos : Pos} {elts : List Expr} {kk : Nat} (hg : Gl X "zip") (hm : X.mg "zip" = none) (ha : TrA Γ X E [e, e2] fs) (hs : starEach [e, e2] X.env = (false, eval e X.env) :: starEach [e2] X.env := by rfl) (hpl : (backTo pos (starEach [e2] X.env)).any (·.1) = false := by rfl) :
    TrI Γ X E (.Tuple elts kk tpos) (.Call (.Name "zip" p) [e, e2] [] pos) (iL zbW fs) := pi_imp (pi_zB hg hm ha hs hpl) fun σ H R q => by
  obtain ⟨c, d, oa, ρ, e, q⟩ := q
  refine liftA_then (P := fun c H => PJ X.K c H R) e q (fun st p => p.later st) fun w v H1 d1 _ r1 e1 h1 => ?_
  cases r1 with
  | nil => exact h1.elim
  | cons r rr =>
    cases rr with
    | nil => exact h1.elim
    | cons r2 rr =>
      cases rr with
      | cons _ _ => exact h1.elim
      | nil =>
        simp only [zbW] at h1
        split at h1
        · rename_i b1 ws b2 us t1 t2
          obtain ⟨a, vs, rfl, w1, l1⟩ := r.row t1
          obtain ⟨b, zs, rfl, w2, l2⟩ := r2.row t2
          exact ⟨b1, b2, a, b, vs, zs, rfl, w1.sq, w2.sq, PJ.now e1.wd h1 (it_zB e1.ok e1.m w1 l1 w2 l2)⟩
        · exact h1.elim
def sAt (i : Nat) (fi fe : En → T W) : En → T (Fl × En) := fun ρ => match ρ[i]? with
  | some (.own ws) => (fe ρ).bind fun w => (fi ρ).bind fun k => match k with
    | .int k => match ixN ws.length k with
      | some j => .ok (.nx, ρ.set i (.own (ws.set j w)))
      | none => .bad
    | _ => .bad
  | _ => .bad
theorem tr_at {X : Cx} {E : XK} {o x e : Expr} {fi fe : En → T W} {i : Nat} {pos pos2 : Pos} (ho : PE X o (tVar i)) (hi : TrE Γ X (wOf E) x fi) (he : TrE Γ X (wOf E) e fe)
    (ha : ∀ v, assign (.Subscript o x pos2) X.env v = (do
      let ov ← holding [v] (eval o X.env)
      let iv ← holding [v, ov] (eval x X.env)
      standAt pos2
      holding [v, ov, iv] (setItem ov iv v)
      release [v, ov, iv] []) := by intro _; rfl)
    (hs : swapsWithSole [.Subscript o x pos2] e pos.line X.env = pure false := by rfl) (hw : swappedStores [.Subscript o x pos2] e X.env = pure none := by rfl) (h1 : (assignEach [.Subscript o x pos2] X.env).map (·.2) = [assign (.Subscript o x pos2) X.env] := by rfl) :
    TrS Γ X E (.Assign [.Subscript o x pos2] e pos) (sAt i fi fe) := ps_imp (ps_asg he (pg_sub ho hi set_list ha) hs hw h1) fun D σ H q => by
  obtain ⟨c, d, oa, ρ, e, q⟩ := q
  unfold sAt at q
  split at q
  · rename_i ws hw
    refine lift_thenS (P := fun c H => PSq X.K Γ c H D) e q (fun st p => p.later (.of st e.wd)) fun w v H1 d1 _ r1 e1 h1 => ?_
    obtain ⟨m1, m2, vs, m3, m4⟩ := e1.own i ws hw
    refine ⟨_, m2, lift_thenS (P := fun c H => PSq X.K Γ c H D) e1 h1 (fun st p => p.later (.of st e1.wd)) fun k kv H2 d2 st2 r2 e2 h2 => ?_⟩
    cases r2 with
    | int k =>
      simp only [] at h2
      split at h2
      · rename_i j hj
        obtain ⟨g1, g2, us, g3, g4⟩ := e2.own i ws hw
        obtain ⟨e3, fw⟩ := e2.ownUpd hw (g4.set j (r1.step st2 e1.st e1.ok))
        exact ⟨_, us, k, j, rfl, rfl, g3, by rw [← g4.length]; exact hj, h2 _ oa σ _ fw e3⟩
      · exact h2.elim
    | _ => exact h2.elim
  · exact q.elim
def insI (x : Int) : List Int → List Int
  | [] => [x]
  | y :: ys => if y < x then y :: insI x ys else x :: y :: ys
def sortI : List Int → List Int
  | [] => []
  | x :: xs => insI x (sortI xs)
theorem insI_perm (x : Int) : ∀ l, (insI x l).Perm (x :: l)
  | [] => .refl _
  | y :: ys => by
    unfold insI
    split
    · exact ((insI_perm x ys).cons y).trans (.swap x y ys)
    · exact .refl _
theorem sortI_perm : ∀ l, (sortI l).Perm l
  | [] => .refl _
  | x :: xs => (insI_perm x _).trans ((sortI_perm xs).cons x)
theorem insI_asc {x : Int} : ∀ {l : List Int}, l.Pairwise (· ≤ ·) → (insI x l).Pairwise (· ≤ ·)
  | [], _ => List.pairwise_singleton _ _
  | y :: ys, h => by
    obtain ⟨h1, h2⟩ := List.pairwise_cons.mp h
    unfold insI
    split
    · rename_i hl
      refine List.pairwise_cons.mpr ⟨fun z hz => ?_, insI_asc h2⟩
      rcases List.mem_cons.mp ((insI_perm x ys).mem_iff.mp hz) with rfl | hz
      · omega
      · exact h1 z hz
    · rename_i hl
      refine List.pairwise_cons.mpr ⟨fun z hz => ?_, h⟩
      rcases List.mem_cons.mp hz with rfl | hz
      · omega
      · have := h1 z hz
        omega
theorem sortI_asc : ∀ l : List Int, (sortI l).Pairwise (· ≤ ·)
  | [] => List.Pairwise.nil
  | x :: xs => insI_asc (sortI_asc xs)
theorem asc_uniq {l m : List Int} (h : l.Pairwise (· ≤ ·)) (g : m.Pairwise (· ≤ ·)) (p : l.Perm m) : l = m := List.Perm.eq_of_pairwise (fun a b _ _ h1 h2 => Int.le_antisymm h1 h2) h g p
def sortedI : List W → T W
  | [.lst ws] => match intsW ws with
    | some ns => .ok (.lst ((sortI ns).map W.int))
    | none => .bad
  | _ => .bad
theorem sem_sortedI {K : PySem.W.Frag} : SemL K (rSortedI K) sortedI := fun c d H x v Q E' wd rx q => by
  cases rx with
  | nil => exact q.elim
  | cons r rr =>
    cases rr with
    | cons _ _ => cases r <;> exact q.elim
    | nil =>
      cases r with
      | lst n hq rl =>
        simp only [sortedI] at q
        split at q
        · rename_i ns hk
          rw [intsW_map hk] at rl
          rw [rl.ints] at hq
          refine ⟨_, ns, rfl, SqL.of hq, fun zs p h1 h2 hf => ?_⟩
          rw [asc_uniq h2 (sortI_asc ns) (h1.trans (sortI_perm ns).symm)]
          exact q _ _ (.new hf) (wd.st.new hf) (.lst (wd.fresh hf) upd_same (RepL.ofInts _))
        · exact q.elim
      | _ => exact q.elim
end PF
namespace PF
open PySem PySem.Spec PyProof.Rows L2
section
variable {prog : Program} {w : World} {A : Around} {E : Value → Shared → Prop} {s : Shared}
end
section
variable {X : Cx}
end
end PF
namespace PF
open PySem PySem.Spec PyProof.Rows L2
/-- what the written part says of an error's class at C; nw, tl: the base's maker and its line -/
structure XCl (K : PySem.W.Frag) (C : Addr) (nw : String) (tl : List Value) : Prop where
  ini : PySem.W.excInitIn K C tl nw = true
  ovr : PySem.W.excOver K C tl = true
  dct : PySem.W.hasDictIn K C = true
  sat : PySem.W.findIn K (.ref C) "__setattr__" = some (some (.builtin "object.__setattr__"))
  sub : PySem.W.subIn K (.ref C) (.type "BaseException") = some true
  typ : PySem.W.typeIn K (.ref C) = some (.type "type")
  kee : PySem.W.keepIn K (.ref C) = true
section
open Builtin Builtin.ObjectAttr PySem.W PySem.Calls
variable {prog : Program} {w : World} {A : Around} {E : Value → Shared → Prop} {R : Result → Shared → Prop} {hp : Heap} {g : Array GenState} {d : Drawn} {t : Nat} {os : OsState}
end
section
variable {X : Cx} {pins : List (Addr × Obj)} {σ : L2.St} {H : Hp} {s : Shared} {a C : Addr} {fld : Str} {y : V} {u : Value} {E : Value → Shared → Prop} {A : Around} {B nw ini : String} {tl : List Value}
end
section
variable {X : Cx} {o e : Expr} {es : List Expr} {to te : TE} {ta : TA} {f bn : Str} {p p' p1 p2 pos : Pos} {B nw ini : String} {tl : List Value}
end
section
variable {X : Cx} {e : Expr} {es : List Expr} {ta : TA} {p pos : Pos} {B nw ini : String} {tl : List Value}
end
/-- what __init__(self, x): Base.__init__(self, ".."); self.f = x does -/
def spI (K : PySem.W.Frag) (nw : String) (tl : List Value) (f : Str) : Sp := fun vs H Q _ => ∃ (a C : Addr) (v : V), vs = [.ref a, v] ∧ H a = some (exo a C none) ∧ XCl K C nw tl ∧ PySem.W.findIn K (.ref C) f = some none ∧
  ∀ dx, H dx = none → dx ≠ a → Q .non (upd (upd H dx (exd dx [(f, v)])) a (exo a C (some dx)))
section
variable {P : Program} {w : World} {K : PySem.W.Frag} {mg : Str → Option Value} {base : Heap}
end
/-- the error with the number n is made by its class's name, of one field -/
structure XIs (P : Program) (w : World) (K : PySem.W.Frag) (mg : Str → Option Value) (base : Heap) (n : Nat) (nw : String) (tl : List Value) : Prop where
  gl : mg (xName n) = some (.ref (He.ga K (xName n)))
  cl : XCl K (He.ga K (xName n)) nw tl
  no : ∀ f ∈ xFlds n, PySem.W.findIn K (.ref (He.ga K (xName n))) f = some none
  ex : ∃ (B ini : String) (fI : Addr) (fd : FuncData) (ps : List Str) (f : Str), xFlds n = [f] ∧ ExcBaseFacts B nw ini tl ∧ PySem.W.findIn K (.ref (He.ga K (xName n))) "__init__" = some (some (.ref fI)) ∧ PySem.W.typeIn K (.ref fI) = some (.type "function") ∧
    FnOk P w K mg base (L2.CX P w) 1 fI fd ps (spI K nw tl f) ∧ Binds K fd ps []
end PF
namespace PF
open PySem PySem.Spec PyProof.Rows L2
/-- one clause: the class, the slot of its name, the suite's reading -/
abbrev Cla := Value × Option Nat × (Addr → Value → Option Addr → TS)
inductive ClsOk (X : Cx) : List ExceptHandler → List Cla → Prop
  | nil : ClsOk X [] []
  | bare {x : Str} {c : Value} {ts : Addr → Value → Option Addr → TS} {b0 : Stmt} {su : List Stmt} {np ps : Pos} {hds : List ExceptHandler} {l : List Cla} (hc : Names X x c)
      (hsu : ∀ (a : Addr) (oe : Obj) (cls : Value) (dx : Option Addr) (pn : List (Addr × Obj)), Zc cls dx oe → (∃ vs, oe.data = .fields vs) → PSs (X.suite a ((a, oe) :: pn)) (b0 :: su) (ts a cls dx)) (r : ClsOk X hds l) :
      ClsOk X (.ExceptHandler (some (.Name x np)) none (b0 :: su) ps :: hds) ((c, none, ts) :: l)
  | named {x n : Str} {i : Nat} {c : Value} {ts : Addr → Value → Option Addr → TS} {b0 : Stmt} {su : List Stmt} {np ps : Pos} {hds : List ExceptHandler} {l : List Cla} (hc : Names X x c) (hi : X.N[i]? = some n) (hl : X.env.kindOf n = some .local)
      (hsu : ∀ (a : Addr) (oe : Obj) (cls : Value) (dx : Option Addr) (pn : List (Addr × Obj)), Zc cls dx oe → (∃ vs, oe.data = .fields vs) → PSs (X.suite a ((a, oe) :: pn)) (b0 :: su) (ts a cls dx)) (r : ClsOk X hds l) :
      ClsOk X (.ExceptHandler (some (.Name x np)) (some n) (b0 :: su) ps :: hds) ((c, some i, ts) :: l)
section
variable {X : Cx} {body : List Stmt} {h0 : ExceptHandler} {hds : List ExceptHandler} {l : List Cla} {pos : Pos} {tb : WX → TS} {Wo : WX}
end
/-- a clause's run: which errors it takes, its name's slot, what it tells of the fields -/
structure Hd where
  m : Nat → Bool
  io : Option Nat
  h : Nat → List W → T W
def kRet : W → En → Fl × En := fun w ρ => (.rt w, ρ)
def kSet (j : Nat) : W → En → Fl × En := fun w ρ => (.nx, ρ.set j (.val w))
/-- the reading of an expression of the suite: a the error, of the class n, with its fields -/
def liftX (K : PySem.W.Frag) (ns : List Nat) (io : Option Nat) (h : Nat → List W → T W) (a : Addr) (cls : Value) (dx : Option Addr) : TE := fun σ H Q => ∃ (c : Cc) (d : Dw) (n : Nat) (fs : List W), n ∈ ns ∧ Wd c d H ∧ (∀ i, io = some i → σ[i]? = some (some (.ref a))) ∧ RepX K c H n fs cls dx ∧ ∃ E', (h n fs).AllW (PQ K c H Q) E' d
theorem RepX.step {K : PySem.W.Frag} {c c' : Cc} {d : Dw} {H H' : Hp} {n : Nat} {fs : List W} {cls : Value} {dx : Option Addr} (st : SG c c' H H') (wd : Wd c d H) (r : RepX K c H n fs cls dx) : RepX K c' H' n fs cls dx := by
  obtain ⟨r1, d', vs, r2, r3, r4, r5⟩ := r
  obtain ⟨kvs, hS⟩ := wd.st.S
  obtain ⟨xs, hl⟩ := wd.st.la
  exact ⟨r1, d', vs, r2, st.st.keep _ _ r3 (ne_of r3 hS (by intro z; cases z)) (ne_of r3 hl (by intro z; cases z)) nofun, r4, r5.step st wd.st wd.ok⟩
def hC (w : W) : Nat → List W → T W := fun _ _ => .ok w
def hF (k : Nat) : Nat → List W → T W := fun _ fs => match fs[k]? with
  | some w => .ok w
  | none => .bad
def hL (r : Nat → List W → T (List W)) (g : List W → T W) : Nat → List W → T W := fun n fs => (r n fs).bind g
section
variable {X : Cx} {ns : List Nat} {io : Option Nat} {e : Expr} {es : List Expr} {h : Nat → List W → T W} {r : Nat → List W → T (List W)} {pos : Pos}
end
inductive KK where
  | ret | set (j : Nat)
def KK.k : KK → W → En → Fl × En
  | .ret => kRet
  | .set j => kSet j
def KK.aft : KK → Ends → L2.St → VK
  | .ret => fun D _ v H => D.rt v H
  | .set j => fun D σ v H => D.nx (σ.set j (some v)) H
def tSu (K : PySem.W.Frag) (kk : KK) (ns : List Nat) (io : Option Nat) (h : Nat → List W → T W) (a : Addr) (cls : Value) (dx : Option Addr) : TS := fun D σ H => liftX K ns io h a cls dx σ H (kk.aft D σ)
/-- clauses of one statement each; ns: the errors that there are -/
inductive TrC (X : Cx) (kk : KK) (ns : List Nat) : List ExceptHandler → List Hd → List Cla → Prop
  | nil : TrC X kk ns [] [] []
  | cons {x : Str} {c : Value} {no : Option Str} {ms : List Nat} {m : Nat → Bool} {io : Option Nat} {h : Nat → List W → T W} {su : Stmt} {np ps : Pos} {hds : List ExceptHandler} {hs : List Hd} {l : List Cla} (hc : Names X x c) (hi : ∀ i, io = some i → ∃ n, no = some n ∧ X.N[i]? = some n ∧ X.env.kindOf n = some .local) (hio : io = none → no = none)
      (hm : ∀ n ∈ ns, PySem.W.exmOne X.K (.ref (He.ga X.K (xName n))) c = some (m n)) (hms : ∀ n ∈ ns, m n = true → n ∈ ms)
      (hsu : ∀ (a : Addr) (oe : Obj) (cls : Value) (dx : Option Addr) (pn : List (Addr × Obj)), Zc cls dx oe → (∃ vs, oe.data = .fields vs) → PSs (X.suite a ((a, oe) :: pn)) [su] (tSu X.K kk ms io h a cls dx)) (r : TrC X kk ns hds hs l) :
      TrC X kk ns (.ExceptHandler (some (.Name x np)) no [su] ps :: hds) (⟨m, io, h⟩ :: hs) ((c, io, tSu X.K kk ms io h) :: l)
theorem TrC.ok {X : Cx} {kk : KK} {ns : List Nat} : ∀ {hds : List ExceptHandler} {hs : List Hd} {l : List Cla}, TrC X kk ns hds hs l → ClsOk X hds l
  | _, _, _, .nil => .nil
  | _, _, _, .cons (io := none) hc hi hio hm hms hsu r => by
    rw [hio rfl]
    exact .bare hc hsu r.ok
  | _, _, _, .cons (io := some i) hc hi hio hm hms hsu r => by
    obtain ⟨n, rfl, h1, h2⟩ := hi i rfl
    exact .named hc h1 h2 hsu r.ok
section
variable {X : Cx} {kk : KK} {ns : List Nat} {E : XK} {c : Cc} {d : Dw} {oa : Nat → Addr} {ρ : En} {σ : L2.St} {H : Hp} {D : Ends} {n : Nat} {fs : List W} {cls : Value} {dx : Option Addr}
end
section
variable {X : Cx} {ns : List Nat} {E : XK} {f : En → T W} {e : Expr} {h0 : ExceptHandler} {hds : List ExceptHandler} {hs : List Hd} {l : List Cla} {pos p1 : Pos}
end
end PF
namespace PF
open PySem PySem.Spec PyProof.Rows L2
abbrev tlV : List Value := [.type "ValueError", .type "Exception", .type "BaseException", .type "object"]
structure XB (K : PySem.W.Frag) (x f : Str) (nw : String) (tl : List Value) : Prop where
  cl : XCl K (He.ga K x) nw tl
  no : PySem.W.findIn K (.ref (He.ga K x)) f = some none
  ic : PySem.W.findIn K (.ref (He.ga K x)) "__init__" = some (some (.ref (He.ma K (He.ga K x) "__init__")))
  ti : PySem.W.typeIn K (.ref (He.ma K (He.ga K x) "__init__")) = some (.type "function")
  xf : XfC K (He.ga K x)
theorem XB.is {P : Program} {w : World} {K : PySem.W.Frag} {mg : Str → Option Value} {base : Heap} {n : Nat} {nw B ini : String} {tl : List Value} {fd : FuncData} {ps : List Str} {f : Str} (h : XB K (xName n) f nw tl) (hf : xFlds n = [f]) (gl : mg (xName n) = some (.ref (He.ga K (xName n)))) (FB : ExcBaseFacts B nw ini tl)
    (F : FnOk P w K mg base (L2.CX P w) 1 (He.ma K (He.ga K (xName n)) "__init__") fd ps (spI K nw tl f)) (hb : Binds K fd ps []) : XIs P w K mg base n nw tl :=
  ⟨gl, h.cl, fun g hg => (by
    rw [hf] at hg
    rcases List.mem_cons.mp hg with rfl | hg
    · exact h.no
    · cases hg), B, ini, _, fd, ps, f, hf, FB, h.ic, h.ti, F, hb⟩
end PF
namespace PF
open PySem PySem.Spec PyProof.Rows L2
section
variable {M : Model} {A : Around} {E : Value → Shared → Prop} {s : Shared} {qual : Str} {params : Arguments} {body : Expr} {scope : Scope} {env : PySem.Env} {c P : Addr} {ps : Array Value} {pos : Pos} {ln : Nat} {mg : Str → Option Value} {clos : List (Str × Addr)} {dV : Value} {Q : Value → Shared → Prop}
end
/-- where its default lies -/
def DOk (one : Option Str) (dV : Value) (H : Hp) (fr : List Addr) (h : Heap) : Prop := match one with
  | none => dV = .none
  | some _ => ∃ (D : Addr) (u : Value), dV = .ref D ∧ h.get? D = some { cls := .type "tuple", data := .seq #[u] } ∧ H D = none ∧ D ∉ fr
section
variable {M : Model} {A : Around} {E : Value → Shared → Prop} {s : Shared} {qual : Str} {params : Arguments} {body : Expr} {scope : Scope} {cl : List (Str × Addr)} {one : Option Str} {dV pm cdv ct : Value} {H : Hp} {fr : List Addr}
end
/-- all stays, tables grow -/
structure Grow (H H1 : Hp) : Prop where
  keep : ∀ b o, H b = some o → (∀ ps, o ≠ .tbl ps) → H1 b = some o
  tbl : ∀ b ps, H b = some (.tbl ps) → ∃ more, H1 b = some (.tbl (ps ++ more))
theorem Grow.refl (H : Hp) : Grow H H := ⟨fun _ _ e _ => e, fun _ ps e => ⟨#[], by rw [e]; simp⟩⟩
theorem Grow.step {c : Cc} {H H1 : Hp} (g : Grow H H1) : Step c H H1 := ⟨fun b o e _ _ n => g.keep b o e n.t, g.tbl, fun b C dx fs e => ⟨fs, g.keep b _ e nofun⟩⟩
theorem StOk.grow {c : Cc} {d : Dw} {H H1 : Hp} (s : StOk c d H) (gr : Grow H H1) (T1 : LamX.Tabs c.T H1) : StOk c d H1 := by
  have s' := s
  obtain ⟨⟨cells, lefts, kk, r, h1, h2, h3, h4, h5, h6, h7, h8, h9⟩, ob⟩ := s'
  exact ⟨⟨cells, lefts, kk, r, gr.keep _ _ h1 nofun, gr.keep _ _ h2 nofun, gr.keep _ _ h3 nofun, h4, h5, h6, h7, h8, T1⟩, ob.same ob.ok rfl rfl (fun a C dx fl h => gr.keep _ _ h nofun) fun ws vs q => q.step (.of gr.step) s ob.ok⟩
section
variable {X : Cx} {pins : List (Addr × Obj)} {σ : L2.St} {H : Hp} {s : Shared} {T : List (Addr × Str)} {c P : Addr} {params : Arguments} {body : Expr} {scope : Scope} {pos : Pos} {one : Option Str} {E : Value → Shared → Prop} {Q : Value → Shared → Prop}
end
structure LmS (N : List Str) (sc scope : Scope) (one : Option Str) : Prop where
  kind : scope.kind = .function
  co : scope.isCoroutine = false
  gen : scope.isGenerator = false
  own : ∀ y ∈ scope.names, y.2 ≠ .cell ∧ (y.2 = .local → y.1 ∉ N)
  free : ∀ y ∈ scope.names, y.2 = .free → sc.names.lookup y.1 = some .cell ∨ sc.names.lookup y.1 = some .free
  par : ∀ x, one = some x → scope.names.lookup x = some .local
section
variable {X : Cx} {pins : List (Addr × Obj)} {σ : L2.St} {H HZ : Hp} {s s1 : Shared} {scope : Scope} {one : Option Str}
theorem LmS.has (L : LmS X.N X.env.scope scope one) (ok : X.Ok) : ∀ y ∈ scope.names, y.2 = .free → ∃ c, X.env.cells.lookup y.1 = some c := fun y hy e => by
  rcases L.free y hy e with k | k
  · exact ok.has _ (.inl k)
  · exact ok.has _ (.inr k)
theorem DOk.later {dV : Value} (d : DOk one dV H (frs X.stack) s.heap) (un : Un (frs X.stack) [] H HZ s.heap s1.heap) : DOk one dV H (frs X.stack) s1.heap := by
  cases one with
  | none => exact d
  | some x =>
    obtain ⟨D, u, e, hD, n, nf⟩ := d
    exact ⟨D, u, e, un.keep D _ hD n nf (by simp), n, nf⟩
end
end PF
namespace PF
open PySem PySem.Spec PyProof.Rows L2
section
variable {X : Cx} {ns : List Nat} {c : Cc} {d : Dw} {H : Hp} {D : Ends} {n : Nat} {fs : List W} {cls : Value} {dx : Option Addr} {σ : L2.St} {Wo : WX} {E' : Dw → Nat → List W → Prop}
end
section
variable {P : Program} {w : World} {K : PySem.W.Frag} {mg : Str → Option Value} {base : Heap} {Ng : List Str} {x a : Str} {sg : Scope} {g : Addr} {cdg : Value} {ns : List Nat} {hs : List Hd} {h0 : ExceptHandler} {hds : List ExceptHandler}
end
end PF
namespace PF
open PySem PySem.Spec PyProof.Rows L2 He
/-- code objects, their tables, the names of their lambdas -/
def tabC (K : PySem.W.Frag) : List (Addr × Addr × Str) := K.filterMap fun x => match x.2.data with
  | .func fd => (match fd.code with
    | .ref c => some (c, He.tabOf K c, fd.qualname ++ ".<locals>." ++ "<lambda>")
    | _ => none)
  | _ => none
theorem tabC_map (K : PySem.W.Frag) : tabL K = (tabC K).map fun x => x.2 := by
  unfold tabL tabC
  rw [List.map_filterMap]
  congr 1
  funext x
  cases x.2.data with
  | func fd =>
    simp only
    cases fd.code <;> rfl
  | _ => rfl
def apartB : List (Addr × Str) → Bool
  | [] => true
  | p :: r => r.all (fun q => p.1 != q.1 || decide (p.2 = q.2)) && apartB r
theorem apartB_ok : ∀ {l : List (Addr × Str)}, apartB l = true → ∀ p ∈ l, ∀ q ∈ l, q.1 = p.1 → q.2 = p.2
  | [], _, p, hp, _, _, _ => by cases hp
  | x :: r, h, p, hp, q, hq, e => by
    unfold apartB at h
    obtain ⟨h1, h2⟩ := Bool.and_eq_true_iff.mp h
    have key : ∀ y ∈ r, x.1 = y.1 → x.2 = y.2 := fun y hy z => by
      have := List.all_eq_true.mp h1 y hy
      rcases Bool.or_eq_true_iff.mp this with g | g
      · simp [z] at g
      · exact of_decide_eq_true g
    rcases List.mem_cons.mp hp with hp1 | hp1
    · rcases List.mem_cons.mp hq with hq1 | hq1
      · rw [hp1, hq1]
      · subst hp1
        exact (key q hq1 e.symm).symm
    · rcases List.mem_cons.mp hq with hq1 | hq1
      · subst hq1
        exact key p hp1 e
      · exact apartB_ok h2 p hp1 q hq1 e
def tabOkB (g : Addr → Option Obj) (K : PySem.W.Frag) : Bool := ((tabC K).all fun x => PySem.W.codeHdIn K x.1 x.2.1 && (match g x.2.1 with
  | some o => emptyTab o
  | none => false)) && apartB (tabL K)
structure SaysL (fa : List Fa) (fn : List DefD) (ex : PySem.W.Frag → Bool) (h : Heap) (K : PySem.W.Frag) : Prop where
  d : SaysD fa fn K
  more : ex K = true
  hd : ∀ x ∈ tabC K, PySem.W.codeHdIn K x.1 x.2.1 = true
  out : ∀ x ∈ tabC K, K.lookup x.2.1 = none
  empty : ∀ x ∈ tabC K, h.get? x.2.1 = some { cls := .none, data := .fields #[] }
  apart : ∀ p ∈ tabL K, ∀ q ∈ tabL K, q.1 = p.1 → q.2 = p.2
abbrev AlL : Type := AlD × Bool
theorem SaysL.fact {fa : List Fa} {fn : List DefD} {ex : PySem.W.Frag → Bool} {h : Heap} {K : PySem.W.Frag} (c : SaysL fa fn ex h K) (i : Nat) {f : Fa} (e : fa[i]? = some f := by rfl) : f.ok K = true := c.d.fact i e
theorem end_tab {P : Program} {w : World} {K : PySem.W.Frag} {mg mb : Str → Option Value} {k : Nat} {fa a : Addr} {fd : FuncData} {x : Str} {sp : Sp} {s₁ : Shared} {vs : List Value} {ns : List Int}
    (KX : K.In s₁.heap) (hns : s₁.heap.Ns mainGlobals mg) (hb : s₁.heap.Ns builtinsNs mb) (hbb : ∀ x : Str, x ≠ "__name__" → mb x = bootBuiltins x) (hlim : s₁.heap.NoLimit) (hg : s₁.gens = #[])
    (hT : ∀ z ∈ tabC K, s₁.heap.get? z.2.1 = some { cls := .none, data := .fields #[] }) (nT : ∀ z ∈ tabC K, K.lookup z.2.1 = none) (C : ∀ z ∈ tabC K, PySem.W.codeHdIn K z.1 z.2.1 = true)
    (hbm : ∃ (bm : Addr) (ob : Obj), mg "__builtins__" = some (.ref bm) ∧ bm ≠ builtinsNs ∧ s₁.heap.get? bm = some ob ∧ ob.cls = .type "module" ∧ ob.dict = some builtinsNs ∧ ob.data = .plain)
    (ha : s₁.heap.get? a = some { cls := .type "list", data := .seq vs.toArray }) (hi : IntsAre vs ns) (hl : ns.length ≤ sizeLine) (hr : Room k callerA)
    (F : ∀ base : Heap, K.In base → base.Ns mainGlobals mg → (∀ z ∈ tabC K, LamX.TabB base mg z.1 z.2.1) → FnG P w K mg base k fa fd [x] sp) (hbind : ∀ (s : Shared) (u : Value), BindsTo s fd ⟨[u], []⟩ [(x, u)])
    (hsp : ∀ H : Hp, LamX.Tabs (tabL K) H → SqL K H a (ns.map V.int) → sp [.ref a] H (fun v _ => v = .bl true) fun _ _ _ => False)
    (hCX : ∀ H e s', L2.CX P w [] H s₁ (fun _ _ _ => False) e s' → False) :
    codeAny (model P w) callerA (.call (.ref fa) ⟨[.ref a], []⟩) (fun r s' => r = .ok (.ret (.bool true)) ∧ OldK s₁.heap s'.heap ∧ s'.os = s₁.os ∧ AllBare s'.gens) s₁ := by
  let ts : List Addr := (tabC K).map fun z => z.2.1
  have isT : ∀ b ∈ ts, s₁.heap.get? b = some { cls := .none, data := .fields #[] } ∧ K.lookup b = none ∧ ∃ c, PySem.W.codeHdIn K c b = true := fun b hb => by
    obtain ⟨z, hz, rfl⟩ := List.mem_map.mp hb
    exact ⟨hT z hz, nT z hz, z.1, C z hz⟩
  have aT : a ∉ ts := fun z => by
    have q := (isT a z).1
    rw [ha] at q
    cases q
  have core : ∀ H : Hp, (∀ b ∈ ts, H b = some (.tbl #[])) → SqL K H a (ns.map V.int) → HOk P w H s₁.heap → (∀ b, H b = none ∨ b ∈ ts ∨ (b = a ∧ K.lookup a = none ∧ ∃ o xs, H b = some (.frz o (.lst xs)))) →
      codeAny (model P w) callerA (.call (.ref fa) ⟨[.ref a], []⟩) (fun r s' => r = .ok (.ret (.bool true)) ∧ OldK s₁.heap s'.heap ∧ s'.os = s₁.os ∧ AllBare s'.gens) s₁ := fun H hH hS hok hO => by
    have plain : ∀ {b : Addr} {u : Obj}, s₁.heap.get? b = some u → (∀ xs n, u.data ≠ .seq xs n) → u.data ≠ .fields #[] → H b = none := fun {b u} e n1 n2 => by
      rcases hO b with z | z | ⟨z, _⟩
      · exact z
      · rw [(isT b z).1] at e
        cases e
        exact (n2 rfl).elim
      · rw [z, ha] at e
        cases e
        exact (n1 _ _ rfl).elim
    have nsK : ∀ {b : Addr} {m : Str → Option Value}, s₁.heap.Ns b m → (hidT s₁.heap H).Ns b m := fun {b m} z => by
      obtain ⟨u, es, ep, e, dd, r⟩ := z
      exact ⟨u, es, ep, hidT_get e (plain e (fun xs n z => by rw [dd] at z; cases z) fun z => by rw [dd] at z; cases z), dd, r⟩
    have kb : K.In (hidT s₁.heap H) := fun b u e => hidT_get (KX b u e) (by
      rcases hO b with z | z | ⟨z, z2, _⟩
      · exact z
      · rw [(isT b z).2.1] at e
        cases e
      · rw [z, z2] at e
        cases e)
    have hM : Mod K mg (hidT s₁.heap H) := ⟨kb, nsK hns, ⟨mb, nsK hb, hbb⟩, by
      obtain ⟨mc, h1, h2⟩ := hlim
      exact ⟨mc, nsK h1, h2⟩⟩
    have TB : ∀ z ∈ tabC K, LamX.TabB (hidT s₁.heap H) mg z.1 z.2.1 := fun z hz => by
      refine ⟨PySem.W.codeHd_of_K kb (C z hz), ?_, fun q => ?_⟩
      · obtain ⟨bm, ob, b1, b2, b3, b4, b5, b6⟩ := hbm
        refine ⟨bm, ob, b1, b2, fun q => ?_, fun q => ?_, hidT_get b3 (plain b3 (fun xs n z => by rw [b6] at z; cases z) fun z => by rw [b6] at z; cases z), b4, b5, b6⟩
        · obtain ⟨o, es, ep, e, hd, _⟩ := hns
          rw [q, e] at b3
          cases b3
          rw [hd] at b6
          cases b6
        · rw [q, hT z hz] at b3
          cases b3
          cases b6
      · obtain ⟨o, es, ep, e, hd, _⟩ := hns
        rw [q, hT z hz] at e
        cases e
        cases hd
    have tabs : LamX.Tabs (tabL K) H := fun p hp => by
      rw [tabC_map] at hp
      obtain ⟨z, hz, rfl⟩ := List.mem_map.mp hp
      exact .nil (hH _ (List.mem_map.mpr ⟨z, hz, rfl⟩))
    have e0 : Env0 P w K mg (hidT s₁.heap H) callerA [] s₁ H := ⟨rfl, hM, fun b u e => of_hidT e, Nat.le_of_eq (hidT_size _ _), trivial, fun b hb => (by cases hb), hok, .of_eq hg⟩
    refine codeAny_mono ((F _ kb (nsK hns) TB).go callerA [] s₁ H ⟨[.ref a], []⟩ [.ref a] [.ref a] _ _ rfl hr e0 (hbind s₁ (.ref a)) (.cons rfl .nil) (hsp H tabs hS)) fun r s' h => ?_
    match r, h with
    | .error e, h => exact (hCX H e s' h).elim
    | .ok .next, h => exact False.elim h
    | .ok .brk, h => exact False.elim h
    | .ok .cont, h => exact False.elim h
    | .ok (.ret u), h =>
      obtain ⟨v, H', os, bare, un, hok', rv, q⟩ := h
      have q : v = .bl true := q
      rw [q] at rv
      have rv : u = Value.bool true := rv
      rw [rv]
      have old : ∀ b u, b ∉ ts → s₁.heap.get? b = some u → s'.heap.get? b = some u := fun b u nb e => by
        rcases hO b with z | z | ⟨_, _, ob, xs, z⟩
        · exact un.keep b u e z (fun z => (by cases z)) (fun z => (by cases z))
        · exact absurd z nb
        · have z1 := (hok b _ z).1
          have z2 := (hok' b _ (un.frzs b ob _ z)).1
          rw [e] at z1
          cases z1
          exact z2
      have grown : ∀ b ∈ ts, ∃ more : Array Value, s'.heap.get? b = some { cls := .none, data := .fields more } := fun b hb => by
        obtain ⟨more, z⟩ := un.tbls b #[] (hH b hb)
        exact ⟨_, hok' b _ z⟩
      refine ⟨rfl, ⟨fun b u e => ?_, fun b u e => ?_⟩, os, bare⟩
      · rcases Decidable.em (b ∈ ts) with hb | hb
        · obtain ⟨more, hm⟩ := grown b hb
          obtain ⟨t1, _, c, hc⟩ := isT b hb
          rw [t1] at e
          cases e
          exact .inr (.inl ⟨((PySem.W.codeHd_of_K KX hc).tab t1).isCodeTable, rfl, #[], more, rfl, by rw [Array.empty_append]; exact hm⟩)
        · exact .inl (old b u hb e)
      · rcases Decidable.em (b ∈ ts) with hb | hb
        · obtain ⟨more, hm⟩ := grown b hb
          exact ⟨_, hm⟩
        · exact ⟨u, old b u hb e⟩
  have rv := vals_ints hi
  cases hk : K.lookup a with
  | some o =>
    have e := KX a o hk
    rw [ha] at e
    cases e
    refine core (fun b => if b ∈ ts then some (.tbl #[]) else none) (fun b hb => if_pos hb) (.inr ⟨_, vs.toArray, _, hk, rfl, rfl, rfl, by rw [List.size_toArray, hi.length]; exact hl, by simpa using rv⟩) (fun b u z => ?_) (fun b => ?_)
    · rcases Decidable.em (b ∈ ts) with hb | hb
      · have z := (if_pos hb).symm.trans z
        cases z
        exact (isT b hb).1
      · have z := (if_neg hb).symm.trans z
        cases z
    · rcases Decidable.em (b ∈ ts) with hb | hb
      · exact .inr (.inl hb)
      · exact .inl (if_neg hb)
  | none =>
    refine core (fun b => if b = a then some (.frz { cls := .type "list", data := .seq vs.toArray } (.lst (ns.map V.int))) else if b ∈ ts then some (.tbl #[]) else none) (fun b hb => (if_neg (fun z : b = a => aT (z ▸ hb))).trans (if_pos hb)) (.inl (.inr ⟨{ cls := .type "list", data := .seq vs.toArray }, if_pos rfl⟩)) (fun b u z => ?_) (fun b => ?_)
    · rcases Decidable.em (b = a) with q | q
      · have z := (if_pos q).symm.trans z
        cases z
        rw [q]
        exact ⟨ha, by rw [List.length_map]; exact hl, vs, _, rv, ha⟩
      · have z := (if_neg q).symm.trans z
        rcases Decidable.em (b ∈ ts) with hb | hb
        · have z := (if_pos hb).symm.trans z
          cases z
          exact (isT b hb).1
        · have z := (if_neg hb).symm.trans z
          cases z
    · rcases Decidable.em (b = a) with q | q
      · exact .inr (.inr ⟨q, hk, _, _, if_pos q⟩)
      · rcases Decidable.em (b ∈ ts) with hb | hb
        · exact .inr (.inl hb)
        · exact .inl ((if_neg q).trans (if_neg hb))
theorem walk_tab {l : PySem.W.OpenLaw} {n k : Nat} {q : Program} {loose : List Str} {XP : (Str → Option Value) → Heap → Prop} {YP : World → Heap → Prop} {d : DefRec} {x : Str}
    (hn : l.most = some n) (hz : n ≤ sizeLine) (hdf : d.params.defaults = []) (hr : Room k callerA)
    (F : ∀ (w : World) (mg : Str → Option Value) (fa : Addr) (h : Heap), YP w h → h.Ns mainGlobals mg → mg d.name = some (.ref fa) →
      ∃ (K : PySem.W.Frag) (fd : FuncData) (sp : Sp), K.In h ∧ (∀ (s : Shared) (u : Value), BindsTo s fd ⟨[u], []⟩ [(x, u)]) ∧ (∀ z ∈ tabC K, h.get? z.2.1 = some { cls := .none, data := .fields #[] }) ∧ (∀ z ∈ tabC K, K.lookup z.2.1 = none) ∧ (∀ z ∈ tabC K, PySem.W.codeHdIn K z.1 z.2.1 = true) ∧
        (∀ (H : Hp) (a : Addr) (ns : List Int), ns.length ≤ n → LamX.Tabs (tabL K) H → SqL K H a (ns.map V.int) → sp [.ref a] H (fun v _ => v = .bl true) fun _ _ _ => False) ∧
        ∀ base : Heap, K.In base → base.Ns mainGlobals mg → (∀ z ∈ tabC K, LamX.TabB base mg z.1 z.2.1) → FnG l.prog w K mg base k fa fd [x] sp) :
    PySem.W.WalkO q loose XP YP l.row.toRowW d [] (fun f vs => PySem.call f vs) := by
  refine Att.attach_call hn hdf fun w' t₀ t₁ mg' mb' fa' o' pm' cd' dc a' vs' ns' G' Y' h1 h2 h3 h4 h5 h6 h7 h8 => ?_
  obtain ⟨K', fd', sp', kx, hb', e1, e2, e3, hs', hF'⟩ := F w' mg' fa' _ Y' G'.T.g h4
  exact end_tab kx G'.T.g G'.T.b G'.T.builtins G'.T.nolimit h8 e1 e2 e3 G'.T.bmain h5 h6 (Nat.le_trans h7 hz) hr hF' hb' (fun H hH hS => hs' H a' ns' h7 hH hS) fun H e s' h => cx_none h
end PF
namespace PF
open PySem PySem.Spec PyProof.Rows L2
end PF
namespace PF
open PySem PySem.Spec PyProof.Rows L2
def keyW : W → Option Key
  | .int i => some (.inl i)
  | .str x => some (.inr x)
  | _ => none
def putW (acc : List (Key × W)) (k : Key) (v : W) : List (Key × W) :=
  if (acc.any fun kv => decide (kv.1 = k)) = true then acc.map (fun kv => if kv.1 = k then (kv.1, v) else kv) else acc ++ [(k, v)]
section
variable {K : PySem.W.Frag} {c : Cc} {H : Hp}
theorem RepD.len {acc : List (Key × W)} {kvs : List (Key × V)} (h : RepD K c H acc kvs) : acc.length = kvs.length := by
  have := congrArg List.length h.1
  simpa using this
theorem RepD.cons {k k' : Key} {w : W} {v : V} {acc : List (Key × W)} {kvs : List (Key × V)} (h : RepD K c H ((k, w) :: acc) ((k', v) :: kvs)) : k = k' ∧ Rep K c H w v ∧ RepD K c H acc kvs := by
  obtain ⟨h1, h2⟩ := h
  simp only [List.map_cons] at h1 h2
  cases h2 with
  | cons r rr =>
    injection h1 with e1 e2
    exact ⟨e1, r, e2, rr⟩
theorem RepD.mk {k : Key} {w : W} {v : V} {acc : List (Key × W)} {kvs : List (Key × V)} (r : Rep K c H w v) (h : RepD K c H acc kvs) : RepD K c H ((k, w) :: acc) ((k, v) :: kvs) := ⟨by simp only [List.map_cons, h.1], .cons r h.2⟩
theorem RepD.any {k : Key} : ∀ {acc : List (Key × W)} {kvs : List (Key × V)}, RepD K c H acc kvs → (acc.any fun kv => decide (kv.1 = k)) = (kvs.any fun kv => decide (kv.1 = k))
  | [], [], _ => rfl
  | [], _ :: _, h => by
    have := h.1
    cases this
  | _ :: _, [], h => by
    have := h.1
    cases this
  | (a, w) :: acc, (b, v) :: kvs, h => by
    obtain ⟨rfl, r, h⟩ := h.cons
    simp only [List.any_cons, RepD.any (k := k) h]
theorem RepD.map {k : Key} {w : W} {v : V} (rw_ : Rep K c H w v) : ∀ {acc : List (Key × W)} {kvs : List (Key × V)}, RepD K c H acc kvs → RepD K c H (acc.map fun kv => if kv.1 = k then (kv.1, w) else kv) (kvs.map fun kv => if kv.1 = k then (kv.1, v) else kv)
  | [], [], h => h
  | [], _ :: _, h => by
    have := h.1
    cases this
  | _ :: _, [], h => by
    have := h.1
    cases this
  | (a, x) :: acc, (b, y) :: kvs, h => by
    obtain ⟨rfl, r, h⟩ := h.cons
    have ih := RepD.map (k := k) rw_ h
    simp only [List.map_cons]
    by_cases e : a = k
    · simp only [e, if_true]
      exact .mk rw_ ih
    · simp only [e, if_false]
      exact .mk r ih
theorem RepD.put {k : Key} {w : W} {v : V} {acc : List (Key × W)} {kvs : List (Key × V)} (h : RepD K c H acc kvs) (r : Rep K c H w v) : RepD K c H (putW acc k w) (putK kvs k v) := by
  unfold putW putK
  rw [h.any]
  split
  · exact h.map r
  · refine ⟨by simp [h.1], ?_⟩
    rw [List.map_append, List.map_append]
    exact h.2.append (.cons r .nil)
end
def dcL (G : W → En → Option En) (tt : En → T Bool) (fk fv : En → T W) (ρ : En) : List W → List (Key × W) → T (List (Key × W))
  | [], acc => .ok acc
  | w :: ws, acc => match G w ρ with
    | none => .bad
    | some ρ1 => (noX (tt ρ1)).bind fun b => if b then (noX (fk ρ1)).bind fun x => (noX (fv ρ1)).bind fun y => match keyW x with
      | some k => dcL G tt fk fv ρ ws (putW acc k y)
      | none => .bad
      else dcL G tt fk fv ρ ws acc
def dctW (xs : List (Key × W)) : W := .dct (xs.map (·.1)) (xs.map (·.2))
def fDc (vs : List Nat) (fi : En → T (List W)) (G : W → En → Option En) (tt : En → T Bool) (fk fv : En → T W) : En → T W := fun ρ => (fi ρ).bind fun ws => if sizeOk ws then (dcL G tt fk fv (wipeE ρ vs) ws []).bind fun xs => .ok (dctW xs) else .bad
section
variable {K : PySem.W.Frag} {c : Cc} {d : Dw} {oa : Nat → Addr} {ρ : En} {σ : St} {H H' : Hp} {D : Addr}
theorem StOk.updD {u : HO} {xs : List (Key × V)} (s : StOk c d H) (hA : D ∈ c.A) (hn : D ∉ [c.S, c.ca, c.la]) (hl : H D = some (.dK xs)) : StOk c d (L2.upd H D u) := by
  obtain ⟨⟨cells, lefts, k, r, h1, h2, h3, h4, h5, h6, h7, h8, h9⟩, ob⟩ := s
  simp only [List.mem_cons, not_or, List.not_mem_nil, not_false_eq_true, and_true] at hn
  exact ⟨⟨cells, lefts, k, r, by rw [upd_ne (Ne.symm hn.1)]; exact h1, by rw [upd_ne (Ne.symm hn.2.1)]; exact h2, by rw [upd_ne (Ne.symm hn.2.2)]; exact h3, h4, h5, h6, h7, h8, Tabs.upd h9 hl nofun dK_noC⟩,
    ob.same ob.ok rfl rfl (fun a C dx fl h => by rw [upd_ne (ne_of h hl nofun)]; exact h) fun ws vs r => r.upd hA hl (fun _ z => by cases z) (fun _ _ z => by cases z)⟩
theorem EnvOk.updD {xs ys : List (Key × V)} (e : EnvOk K Γ c d oa ρ σ H) (hA : D ∈ c.A) (hM : D ∉ c.M) (hn : D ∉ [c.S, c.ca, c.la]) (hl : H D = some (.dK xs)) (ho : ∀ (i : Nat) (ws : List (Key × W)), ρ[i]? = some (.odc ws) → oa i ≠ D) : EnvOk K Γ c d oa ρ σ (L2.upd H D (.dK ys)) where
  ok := e.ok
  st := e.st.updD hA hn hl
  av := fun b hb => by
    by_cases hb' : b = D
    · rw [hb']
      exact ⟨_, upd_same, .inr (.inl ⟨_, rfl⟩)⟩
    · obtain ⟨o, h, w⟩ := e.av b hb
      exact ⟨o, by rw [upd_ne hb']; exact h, w⟩
  len := e.len
  val := fun i w h => by
    obtain ⟨v, h1, h2⟩ := e.val i w h
    exact ⟨v, h1, h2.upd hA hl (fun _ z => by cases z) (fun _ _ z => by cases z)⟩
  m := ⟨e.m.inA, e.m.nst, fun b hb => by
    by_cases hb' : b = D
    · exact absurd (hb' ▸ hb) hM
    · obtain ⟨xs, h, w⟩ := e.m.ls b hb
      exact ⟨xs, by rw [upd_ne hb']; exact h, w⟩⟩
  own := fun i ws h => by
    obtain ⟨h1, h3, vs, h4, h5⟩ := e.own i ws h
    have ne : oa i ≠ D := fun z => by
      rw [z, hl] at h4
      cases h4
    exact ⟨h1, h3, vs, by rw [upd_ne ne]; exact h4, h5.upd hA hl (fun _ z => by cases z) (fun _ _ z => by cases z)⟩
  inj := e.inj
  odc := fun i ws h => by
    obtain ⟨h1, h3, vs, h4, h5⟩ := e.odc i ws h
    exact ⟨h1, h3, vs, by rw [upd_ne (ho i ws h)]; exact h4, h5.1, h5.2.upd hA hl (fun _ z => by cases z) (fun _ _ z => by cases z)⟩
  ido := e.ido
  odt := fun i ws h => by
    obtain ⟨h1, h3, vs, h4, h5⟩ := e.odt i ws h
    have ne : oa i ≠ D := fun z => by
      rw [z, hl] at h4
      cases h4
    exact ⟨h1, h3, vs, by rw [upd_ne ne]; exact h4, h5.1, h5.2.upd hA hl (fun _ z => by cases z) (fun _ _ z => by cases z)⟩
  idt := e.idt
  tT := e.tT
  cC := e.cC
  kK := e.kK
theorem wipeE_odc {j : Nat} {xs : List (Key × W)} : ∀ {vs : List Nat}, (wipeE ρ vs)[j]? = some (.odc xs) → ρ[j]? = some (.odc xs)
  | [], h => h
  | v :: vs, h => by
    rcases getElem?_set_or h with ⟨_, ex⟩ | ⟨_, h⟩
    · cases ex
    · exact wipeE_odc h
end
theorem Rep.keyE {K : PySem.W.Frag} {c : Cc} {H : Hp} {w : W} {v : V} {k : Key} (r : Rep K c H w v) (h : keyW w = some k) : v = kV k := by
  cases r <;> first | (cases h; rfl) | cases h
section
variable {X : Cx} {E : WX} {kx vx tg iter : Expr} {ifs : List Expr} {scope : Scope} {own : List (Str × Nat)} {pos : Pos} {fi : En → T (List W)} {ns : List Nat} {G : W → En → Option En} {tt : En → T Bool} {fk fv : En → T W}
theorem dc_ok (hs : ∀ i ∈ ns, i ∈ own.map (·.2)) : ∀ σ H Q, liftE X.K Γ E (fDc (own.map (·.2)) fi G tt fk fv) σ H Q → tDc (liftI X.K Γ E fi) (liftG X.K Γ ns G) (liftB X.K Γ noW tt) (liftE X.K Γ noW fk) (liftE X.K Γ noW fv) (own.map (·.2)) σ H Q := fun σ H Q h => by
  obtain ⟨c, d, oa, ρ, e, h⟩ := h
  refine ⟨c, d, oa, ρ, e, T.AllW.imp (fun d1 ws hx => ?_) (fun _ _ _ y => y) (T.allW_bind.mp h)⟩
  intro c1 J H1 st1 so1 jo D nD
  have e1 := e.step st1 so1
  obtain ⟨hz, hx⟩ := T.AllW.ite hx
  have hz := sizeOk_of hz
  generalize hvs : own.map (·.2) = vs at hs hx
  have hx : ((dcL G tt fk fv (wipeE ρ vs) ws []).bind fun xs => T.ok (dctW xs)).AllW (PQ X.K c1 H1 Q) (PX X.K c1 H1 fun cls dx H' => E cls dx σ H') d1 := T.AllW.imp (fun _ _ y => y.later st1) (fun _ _ _ y => y.later st1) hx
  refine ⟨fun i m H' => m = ws.length - i ∧ ∃ cm d' acc us, Gr (c1.more D) cm ∧ Step c1 H1 H' ∧ EnvOk X.K Γ cm d' oa (wipeE ρ vs) (wipe σ vs) H' ∧ H' D = some (.dK us) ∧ RepD X.K cm H' acc us ∧ us.length ≤ i ∧
    ((dcL G tt fk fv (wipeE ρ vs) (ws.drop i) acc).bind fun xs => T.ok (dctW xs)).AllW (PQ X.K c1 H1 Q) (PX X.K c1 H1 fun cls dx H' => E cls dx σ H') d',
    ⟨_, rfl, _, d1, [], [], .refl _, .new nD, (e1.more nD).wipe vs, upd_same, ⟨rfl, .nil⟩, Nat.le_refl _, hx⟩, ?_⟩
  rintro i m H' ⟨rfl, cm, d', acc, us, gm, st', e', hD, ra, hl, h'⟩
  have fw : Fwd X.K c1 H1 cm H' := (Fwd.more nD st' e1.wd).gr gm
  obtain ⟨ji, js⟩ := jo cm H' d' i fw e'.wd
  have nst : D ∉ [cm.S, cm.ca, cm.la] := by
    rw [gm.S, gm.ca, gm.la]
    exact st_ne (c := c1) so1 nD
  have nMg : ∀ {ck : Cc}, Gr cm ck → D ∉ ck.M := fun g hm => by
    rw [g.M, gm.M] at hm
    obtain ⟨xs, hxs, _⟩ := e1.m.ls D hm
    rw [nD] at hxs
    cases hxs
  have inA : ∀ {ck : Cc}, Gr cm ck → D ∈ ck.A := fun g => by
    rw [g.A, gm.A]
    exact List.mem_cons_self ..
  have nstg : ∀ {ck : Cc}, Gr cm ck → D ∉ [ck.S, ck.ca, ck.la] := fun g => by
    rw [g.S, g.ca, g.la]
    exact nst
  have ho : ∀ (j : Nat) (xs : List (Key × W)), (wipeE ρ vs)[j]? = some (.odc xs) → oa j ≠ D := fun j xs hj => by
    obtain ⟨_, _, zs, h4, _⟩ := e1.odc j xs (wipeE_odc hj)
    exact ne_of_none h4 nD
  have c1m : ∀ {Ha Hb : Hp} {ck ck' : Cc}, Gr cm ck → SG ck ck' Ha Hb → Step c1 Ha Hb := fun g st => Step.to st.st (g.S.trans gm.S) (g.la.trans gm.la)
  have stp : ∀ {ck ck' : Cc} {Ha Hb : Hp} {da : Dw} {acc : List (Key × W)} {us : List (Key × V)}, SG ck ck' Ha Hb → StOk ck da Ha → CcOk ck → RepD X.K ck Ha acc us → RepD X.K ck' Hb acc us := fun st so ok h => ⟨h.1, h.2.step st so ok⟩
  by_cases hi : i < ws.length
  · have hw : ws[i]? = some ws[i] := List.getElem?_eq_getElem hi
    rw [List.drop_eq_getElem_cons hi] at h'
    obtain ⟨jg, jy⟩ := ji _ hw
    refine .inr ⟨jg, fun H2 => ∃ cm d' acc us, Gr (c1.more D) cm ∧ Step c1 H1 H2 ∧ EnvOk X.K Γ cm d' oa (wipeE ρ vs) (wipe σ vs) H2 ∧ H2 D = some (.dK us) ∧ RepD X.K cm H2 acc us ∧ us.length ≤ i + 1 ∧
      ((dcL G tt fk fv (wipeE ρ vs) (ws.drop (i + 1)) acc).bind fun xs => T.ok (dctW xs)).AllW (PQ X.K c1 H1 Q) (PX X.K c1 H1 fun cls dx H' => E cls dx σ H') d', fun H2 h2 => ⟨ws.length - (i + 1), by omega, rfl, h2⟩, fun x H2 y => ?_⟩
    obtain ⟨st2, so2, rx⟩ := jy x H2 y
    have e2 := e'.step st2 so2
    have keep : ∀ {Ha Hb : Hp} {ck ck' : Cc}, Gr cm ck → SG ck ck' Ha Hb → ∀ {us}, Ha D = some (.dK us) → Hb D = some (.dK us) := fun g st us h => by
      have n0 := nstg g
      simp only [List.mem_cons, not_or] at n0
      exact st.st.keep _ _ h n0.1 n0.2.2.1 nofun
    unfold dcL at h'
    cases g : G ws[i] (wipeE ρ vs) with
    | none =>
      rw [g] at h'
      exact h'.elim
    | some ρ1 =>
      rw [g] at h'
      refine ⟨cm, d', oa, wipeE ρ vs, ws[i], ρ1, e2, rx, g, fun σ3 b3 e3 => ⟨wipe_but b3 hs, cm, d', oa, ρ1, e3, ?_⟩⟩
      refine noX_all (T.AllW.imp (fun d4 b hb => ?_) (fun _ _ _ y => y) (T.allW_bind.mp (T.allW_bind.mp h')))
      intro c4 H4 st4 so4
      have e4 := e3.step st4 so4
      have e4' := e2.step st4 so4
      have hD4 := keep (.refl cm) st4 (keep (.refl cm) st2 hD)
      have ra4 := stp st4 e2.st e2.ok (stp st2 e'.st e'.ok ra)
      have stt4 : Step c1 H1 H4 := st'.trans ((c1m (.refl cm) st2).trans (c1m (.refl cm) st4))
      cases b with
      | false => exact iteF ⟨c4, d4, acc, us, gm.trans st4.g, stt4, e4', hD4, ra4, Nat.le_succ_of_le hl, T.allW_bind.mpr (show (dcL G tt fk fv (wipeE ρ vs) (ws.drop (i + 1)) acc).AllW _ _ d4 from hb)⟩
      | true =>
        refine iteT ⟨c4, d4, oa, ρ1, e4, ?_⟩
        have hb := T.allW_bind.mp (show ((noX (fk ρ1)).bind fun x => (noX (fv ρ1)).bind fun y => match keyW x with
          | some k => dcL G tt fk fv (wipeE ρ vs) (ws.drop (i + 1)) (putW acc k y)
          | none => .bad).AllW _ _ d4 from hb)
        refine noX_all (T.AllW.imp (fun d5 w5 h5 => ?_) (fun _ _ _ y => y) hb)
        intro c5 v5 H5 st5 so5 r5
        have e5 := e4.step st5 so5
        have e5' := e4'.step st5 so5
        refine ⟨c5, d5, oa, ρ1, e5, ?_⟩
        refine noX_all (T.AllW.imp (fun d6 w6 h6 => ?_) (fun _ _ _ y => y) (T.allW_bind.mp h5))
        intro c6 v6 H6 st6 so6 r6
        have e6' := e5'.step st6 so6
        have g5 := st4.g.trans st5.g
        have g6 := g5.trans st6.g
        have hD6 := keep g5 st6 (keep st4.g st5 hD4)
        have ra6 := stp st6 e5'.st e5'.ok (stp st5 e4'.st e4'.ok ra4)
        cases hk : keyW w5 with
        | none =>
          rw [hk] at h6
          exact h6.elim
        | some k =>
          rw [hk] at h6
          have ek := r5.keyE hk
          refine ⟨us, k, ek, hD6, by omega, c6, d6, putW acc k w6, putK us k v6, gm.trans g6, (stt4.trans ((c1m st4.g st5).trans (c1m g5 st6))).past nD, e6'.updD (inA g6) (nMg g6) (nstg g6) hD6 ho, upd_same, ?_, ?_, T.allW_bind.mpr h6⟩
          · have := ra6.put (k := k) r6
            exact ⟨this.1, this.2.upd (inA g6) hD6 (fun _ z => by cases z) (fun _ _ z => by cases z)⟩
          · have := length_putK us k v6
            omega
  · rw [List.drop_eq_nil_of_le (by omega)] at h'
    refine .inl ⟨js (by omega), ?_⟩
    have h8 : PQ X.K c1 H1 Q d' (.dct (acc.map (·.1)) (acc.map (·.2))) := h'
    rw [ra.1] at h8
    refine h8 _ H' ⟨gm.back, st'⟩ (e'.st.back gm e1.ok) (.dct (c := { cm with A := c1.A }) (e1.wd.fresh nD) hD ?_)
    exact RepL.weak (c := { cm with A := c1.A }) (c1 := cm) rfl rfl (fun b hb => by rw [gm.A]; exact List.mem_cons_of_mem _ hb) ra.2
end
end PF
namespace PF
open PySem PySem.Spec PyProof.Rows L2
section
variable {X : Cx} {E : XK} {ea ep a b : Expr} {fs : En → T (List W)} {fb : En → T W} {pos : Pos}
end
end PF
namespace PF
open PySem PySem.Spec PyProof.Rows L2
section
variable {K : PySem.W.Frag} {c : Cc} {d : Dw} {oa : Nat → Addr} {ρ : En} {σ : L2.St} {H H' : Hp} {D : Addr} {i : Nat}
theorem EnvOk.mineD {xs : List (Key × V)} (e : EnvOk K Γ c d oa ρ σ H) (n : H D = none) : EnvOk K Γ (c.mine D) d oa ρ σ (L2.upd H D (.dK xs)) where
  ok := ⟨List.mem_cons_of_mem _ e.ok.inS, List.mem_cons_of_mem _ e.ok.inla, List.mem_cons_of_mem _ e.ok.inca⟩
  st := e.st.mine n
  av := (e.more n).av
  len := e.len
  val := fun i w h => by
    obtain ⟨v, h1, h2⟩ := e.val i w h
    exact ⟨v, h1, (h2.more n (.new n) e.st e.ok).mine⟩
  m := ⟨fun b hb => by
      rcases List.mem_cons.mp hb with rfl | hb
      · exact List.mem_cons_self ..
      · exact List.mem_cons_of_mem _ (e.m.inA b hb), fun b hb => by
      rcases List.mem_cons.mp hb with rfl | hb
      · exact st_ne (c := c) e.st n
      · exact e.m.nst b hb, fun b hb => by
      rcases List.mem_cons.mp hb with rfl | hb
      · exact ⟨_, upd_same, .inr (.inl ⟨_, rfl⟩)⟩
      · obtain ⟨ys, h, w⟩ := e.m.ls b hb
        exact ⟨ys, by rw [upd_ne (ne_of_none h n)]; exact h, w⟩⟩
  own := fun i ws h => by
    obtain ⟨h1, h3, vs, h4, h5⟩ := e.own i ws h
    exact ⟨List.mem_cons_of_mem _ h1, h3, vs, by rw [upd_ne (ne_of_none h4 n)]; exact h4, (h5.more n (.new n) e.st e.ok).mine⟩
  inj := e.inj
  odc := fun i ws h => by
    obtain ⟨h1, h3, vs, h4, h5⟩ := e.odc i ws h
    exact ⟨List.mem_cons_of_mem _ h1, h3, vs, by rw [upd_ne (ne_of_none h4 n)]; exact h4, h5.1, (h5.2.more n (.new n) e.st e.ok).mine⟩
  ido := e.ido
  odt := fun i ws h => by
    obtain ⟨h1, h3, vs, h4, h5⟩ := e.odt i ws h
    exact ⟨List.mem_cons_of_mem _ h1, h3, vs, by rw [upd_ne (ne_of_none h4 n)]; exact h4, h5.1, (h5.2.more n (.new n) e.st e.ok).mine⟩
  idt := e.idt
  tT := e.tT
  cC := e.cC
  kK := e.kK
/-- a slot takes a dict of the frame's own -/
theorem EnvOk.odcSet {ws : List (Key × W)} {vs : List (Key × V)} (e : EnvOk K Γ c d oa ρ σ H) (hm : D ∈ c.M) (hl : H D = some (.dK vs)) (rl : RepD K c H ws vs) (ho : ∀ (j : Nat) (us : List (Key × W)), j ≠ i → ρ[j]? = some (.odc us) → oa j ≠ D) :
    EnvOk K Γ c d (fun j => if j = i then D else oa j) (ρ.set i (.odc ws)) (σ.set i (some (.ref D))) H where
  ok := e.ok
  st := e.st
  av := e.av
  m := e.m
  len := by rw [List.length_set, List.length_set]; exact e.len
  val := fun j x h => by
    rcases getElem?_set_or h with ⟨ej, ex⟩ | ⟨n, h'⟩
    · cases ex
    · obtain ⟨u, h1, h2⟩ := e.val j x h'
      exact ⟨u, by rw [List.getElem?_set_ne (Ne.symm n)]; exact h1, h2⟩
  odc := fun j x h => by
    rcases getElem?_set_or h with ⟨ej, ex⟩ | ⟨n, h'⟩
    · cases ex
      subst ej
      have hj : j < σ.length := by
        by_cases hl : j < ρ.length
        · rw [← e.len]
          exact hl
        · rw [List.getElem?_eq_none (by simpa using hl)] at h
          cases h
      rw [if_pos rfl]
      exact ⟨hm, by rw [List.getElem?_set_self hj], vs, hl, rl⟩
    · obtain ⟨h1, h3, h4⟩ := e.odc j x h'
      rw [if_neg n]
      exact ⟨h1, by rw [List.getElem?_set_ne (Ne.symm n)]; exact h3, h4⟩
  ido := fun a b x y h1 h2 he => by
    rcases getElem?_set_or h1 with ⟨ea, _⟩ | ⟨na, h1'⟩
    · rcases getElem?_set_or h2 with ⟨eb, _⟩ | ⟨nb, h2'⟩
      · rw [ea, eb]
      · rw [ea, if_pos rfl, if_neg nb] at he
        exact absurd he.symm (ho b y nb h2')
    · rcases getElem?_set_or h2 with ⟨eb, _⟩ | ⟨nb, h2'⟩
      · rw [eb, if_pos rfl, if_neg na] at he
        exact absurd he (ho a x na h1')
      · rw [if_neg na, if_neg nb] at he
        exact e.ido a b x y h1' h2' he
  own := fun j x h => by
    rcases getElem?_set_or h with ⟨ej, ex⟩ | ⟨n, h'⟩
    · cases ex
    · obtain ⟨h1, h3, h4⟩ := e.own j x h'
      rw [if_neg n]
      exact ⟨h1, by rw [List.getElem?_set_ne (Ne.symm n)]; exact h3, h4⟩
  inj := fun a b x y h1 h2 he => by
    rcases getElem?_set_or h1 with ⟨ea, ex⟩ | ⟨na, h1'⟩
    · cases ex
    · rcases getElem?_set_or h2 with ⟨eb, ex⟩ | ⟨nb, h2'⟩
      · cases ex
      · rw [if_neg na, if_neg nb] at he
        exact e.inj a b x y h1' h2' he
  odt := fun j x h => by
    rcases getElem?_set_or h with ⟨ej, ex⟩ | ⟨n, h'⟩
    · cases ex
    · obtain ⟨h1, h3, h4⟩ := e.odt j x h'
      rw [if_neg n]
      exact ⟨h1, by rw [List.getElem?_set_ne (Ne.symm n)]; exact h3, h4⟩
  idt := fun a b x y h1 h2 he => by
    rcases getElem?_set_or h1 with ⟨ea, ex⟩ | ⟨na, h1'⟩
    · cases ex
    · rcases getElem?_set_or h2 with ⟨eb, ex⟩ | ⟨nb, h2'⟩
      · cases ex
      · rw [if_neg na, if_neg nb] at he
        exact e.idt a b x y h1' h2' he
  tT := e.tT
  cC := e.cC
  kK := e.kK
theorem EnvOk.odcNe {a : Addr} (e : EnvOk K Γ c d oa ρ σ H) (n : H a = none) : ∀ (j : Nat) (us : List (Key × W)), j ≠ i → ρ[j]? = some (.odc us) → oa j ≠ a := fun j us _ h => by
  obtain ⟨_, _, zs, h4, _⟩ := e.odc j us h
  exact ne_of_none h4 n
/-- one of them is changed -/
theorem EnvOk.odcUpd {ws us : List (Key × W)} {ys : List (Key × V)} (e : EnvOk K Γ c d oa ρ σ H) (h : ρ[i]? = some (.odc ws)) (rl : RepD K c H us ys) :
    EnvOk K Γ c d oa (ρ.set i (.odc us)) σ (L2.upd H (oa i) (.dK ys)) ∧ Fwd K c H c (L2.upd H (oa i) (.dK ys)) := by
  obtain ⟨h1, h3, vs, h4, h5⟩ := e.odc i ws h
  have hA := e.m.inA _ h1
  have hn := e.m.nst _ h1
  have up : ∀ {w : W} {v : V}, Rep K c H w v → Rep K c (L2.upd H (oa i) (.dK ys)) w v := fun r => r.upd hA h4 (fun _ z => by cases z) (fun _ _ z => by cases z)
  have upl : ∀ {w : List W} {v : List V}, RepL K c H w v → RepL K c (L2.upd H (oa i) (.dK ys)) w v := fun r => r.upd hA h4 (fun _ z => by cases z) (fun _ _ z => by cases z)
  refine ⟨?_, rfl, rfl, rfl, rfl, rfl, rfl, List.prefix_rfl, fun b hb _ => hb, fun b hb => .inl hb, fun b o hb _ _ nm _ => ?_, fun b ps hb nm => ⟨#[], by rw [upd_ne (fun z => nm (by rw [z]; exact h1)), hb]; simp⟩, fun w v r => up r, fun a vs h => sqT_upd h4 (fun _ z => by cases z) (fun _ _ z => by cases z) h, fun b C dx fs hb _ => ⟨fs, by rw [upd_ne (ne_of hb h4 nofun)]; exact hb⟩⟩
  · exact {
      ok := e.ok
      st := e.st.updD hA hn h4
      av := fun b hb => by
        by_cases hb' : b = oa i
        · rw [hb']
          exact ⟨_, upd_same, .inr (.inl ⟨_, rfl⟩)⟩
        · obtain ⟨o, h, w⟩ := e.av b hb
          exact ⟨o, by rw [upd_ne hb']; exact h, w⟩
      m := ⟨e.m.inA, e.m.nst, fun b hb => by
        by_cases hb' : b = oa i
        · rw [hb']
          exact ⟨_, upd_same, .inr (.inl ⟨_, rfl⟩)⟩
        · obtain ⟨xs, h, w⟩ := e.m.ls b hb
          exact ⟨xs, by rw [upd_ne hb']; exact h, w⟩⟩
      len := by rw [List.length_set]; exact e.len
      val := fun j x hx => by
        rcases getElem?_set_or hx with ⟨ej, ex⟩ | ⟨n, h'⟩
        · cases ex
        · obtain ⟨u, g1, g2⟩ := e.val j x h'
          exact ⟨u, g1, up g2⟩
      odc := fun j x hx => by
        rcases getElem?_set_or hx with ⟨ej, ex⟩ | ⟨n, h'⟩
        · cases ex
          subst ej
          exact ⟨h1, h3, ys, upd_same, rl.1, upl rl.2⟩
        · obtain ⟨g1, g3, zs, g4, g5⟩ := e.odc j x h'
          exact ⟨g1, g3, zs, by rw [upd_ne (fun z => n (e.ido j i x ws h' h z))]; exact g4, g5.1, upl g5.2⟩
      ido := fun a b x y g1 g2 he => by
        have f : ∀ {a : Nat} {x : List (Key × W)}, (ρ.set i (.odc us))[a]? = some (.odc x) → ∃ x', ρ[a]? = some (.odc x') := fun g => by
          rcases getElem?_set_or g with ⟨ea, _⟩ | ⟨_, g'⟩
          · exact ⟨ws, by rw [ea]; exact h⟩
          · exact ⟨_, g'⟩
        obtain ⟨x', f1⟩ := f g1
        obtain ⟨y', f2⟩ := f g2
        exact e.ido a b x' y' f1 f2 he
      own := fun j x hx => by
        rcases getElem?_set_or hx with ⟨ej, ex⟩ | ⟨n, h'⟩
        · cases ex
        · obtain ⟨g1, g3, zs, g4, g5⟩ := e.own j x h'
          have ne : oa j ≠ oa i := fun z => by
            rw [z, h4] at g4
            cases g4
          exact ⟨g1, g3, zs, by rw [upd_ne ne]; exact g4, upl g5⟩
      inj := fun a b x y g1 g2 he => by
        rcases getElem?_set_or g1 with ⟨_, ex⟩ | ⟨_, g1'⟩
        · cases ex
        · rcases getElem?_set_or g2 with ⟨_, ex⟩ | ⟨_, g2'⟩
          · cases ex
          · exact e.inj a b x y g1' g2' he
      odt := fun j x hx => by
        rcases getElem?_set_or hx with ⟨ej, ex⟩ | ⟨n, h'⟩
        · cases ex
        · obtain ⟨g1, g3, zs, g4, g5⟩ := e.odt j x h'
          have ne : oa j ≠ oa i := fun z => by
            rw [z, h4] at g4
            cases g4
          exact ⟨g1, g3, zs, by rw [upd_ne ne]; exact g4, g5.1, upl g5.2⟩
      idt := fun a b x y g1 g2 he => by
        rcases getElem?_set_or g1 with ⟨_, ex⟩ | ⟨_, g1'⟩
        · cases ex
        · rcases getElem?_set_or g2 with ⟨_, ex⟩ | ⟨_, g2'⟩
          · cases ex
          · exact e.idt a b x y g1' g2' he
      tT := e.tT
      cC := e.cC
      kK := e.kK }
  · rw [upd_ne (fun z => nm (by rw [z]; exact h1))]
    exact hb
end
def sOwnD (i : Nat) : En → T (Fl × En) := fun ρ => .ok (.nx, ρ.set i (.odc []))
theorem tr_ownD {X : Cx} {E : XK} {i : Nat} {x : Str} {pos pos' p2 : Pos} (hN : X.N.Nodup) (hi : X.N[i]? = some x) (hx : L2.Loc X.env.scope x) (hs : swapsWith (.Dict [] [] p2) (some (.Name x pos')) pos.line X.env = pure false := by rfl)
    (hf : X.fn x = true ∨ X.env.scope.names.lookup x = some .local := by first | exact .inl rfl | exact .inr rfl | assumption) : TrS Γ X E (.Assign [.Name x pos'] (.Dict [] [] p2) pos) (sOwnD i) := ps_imp (ps_set hN hi hx pe_dnewK hs hf) fun D σ H q => by
  obtain ⟨c, d, oa, ρ, e, q⟩ := q
  intro p hp
  exact q _ _ _ _ (Fwd.mine hp e.wd) ((e.mineD hp).odcSet (ws := []) (vs := []) (List.mem_cons_self ..) upd_same ⟨rfl, .nil⟩ (EnvOk.odcNe e hp))
@[irreducible] def dRoom (ws : List (Key × W)) : Bool := decide (ws.length < 16777216)
def sDPutO (i : Nat) (fk fv : En → T W) : En → T (Fl × En) := fun ρ => match ρ[i]? with
  | some (.odc ws) => (fv ρ).bind fun v => (fk ρ).bind fun k => match keyW k with
    | some kk => if dRoom ws then .ok (.nx, ρ.set i (.odc (putW ws kk v))) else .bad
    | none => .bad
  | _ => .bad
theorem tr_dput {X : Cx} {E : XK} {o x e : Expr} {fk fv : En → T W} {i : Nat} {pos pos2 : Pos} (hu : X.A.units + 1 < cLine) (ho : PE X o (tVar i)) (hi : TrE Γ X (wOf E) x fk) (he : TrE Γ X (wOf E) e fv)
    (hs : swapsWith e (some (.Subscript o x pos2)) pos.line X.env = pure false := by rfl) :
    TrS Γ X E (.Assign [.Subscript o x pos2] e pos) (sDPutO i fk fv) := ps_imp (ps_dput hu ho hi he hs) fun D σ H q => by
  obtain ⟨c, d, oa, ρ, e, q⟩ := q
  unfold sDPutO at q
  split at q
  · rename_i ws hw
    refine lift_thenS (P := fun c H => PSq X.K Γ c H D) e q (fun st p => p.later (.of st e.wd)) @fun c w v H1 d1 _ r1 e1 h1 => ?_
    obtain ⟨m1, m2, vs, m3, m4⟩ := e1.odc i ws hw
    refine ⟨_, m2, lift_thenS (P := fun c H => PSq X.K Γ c H D) e1 h1 (fun st p => p.later (.of st e1.wd)) @fun c k kv H2 d2 st2 r2 e2 h2 => ?_⟩
    cases hk : keyW k with
    | none =>
      rw [hk] at h2
      exact h2.elim
    | some kk =>
      rw [hk] at h2
      obtain ⟨hz, h2⟩ := T.AllW.ite h2
      have ek := r2.keyE hk
      subst ek
      obtain ⟨g1, g2, us, g3, g4⟩ := e2.odc i ws hw
      obtain ⟨e3, fw⟩ := e2.odcUpd hw (g4.put (k := kk) (r1.step st2 e1.st e1.ok))
      unfold dRoom at hz
      exact ⟨_, _, rfl, DPut.k g3 (by rw [← g4.len, sizeLine_eq]; exact of_decide_eq_true hz), h2 _ oa σ _ fw e3⟩
  · exact q.elim
end PF
namespace PF
open PySem PySem.Spec PyProof.Rows L2
section
variable {X : Cx} {ns : List Nat} {c : Cc} {d : Dw} {H : Hp} {D : Ends} {n : Nat} {fs : List W} {cls : Value} {dx : Option Addr} {σ : L2.St} {Wo : WX} {E' : Dw → Nat → List W → Prop} {Q : VK} {j : Nat}
end
section
variable {P : Program} {w : World} {K : PySem.W.Frag} {mg : Str → Option Value} {base : Heap} {Ng : List Str} {x a y : Str} {sg : Scope} {g : Addr} {cdg : Value} {ns : List Nat} {hs : List Hd} {h0 : ExceptHandler} {hds : List ExceptHandler} {j : Nat}
end
theorem units1 {n : Nat} (h : n + 65 < cLine) : n + 1 < cLine := Nat.lt_of_le_of_lt (Nat.add_le_add_left (by decide) _) h
end PF
namespace PF
open PySem PySem.Spec PyProof.Rows L2
theorem tuple_mul0 (l : Addr) (a : Value) (r : List Value) (n : Nat) (dd : Option Addr) (sl : Array (Option Value)) (u : Tok) :
    Meets (Builtin.«tuple.__mul__» ⟨[.ref l, .int 0 u], []⟩) (fun _ R s => s.heap.get? l = some { cls := .type "tuple", dict := dd, data := .seq (a :: r).toArray n, slots := sl } ∧ R (.ok (.ret (Value.ref s.heap.objs.size))) { s with heap := s.heap.push { cls := Value.type "tuple", data := Data.seq #[] }, toks := s.toks }) :=
  .of_wp fun prog w A R s h => by
    obtain ⟨hp, g, d, tk, os⟩ := s
    obtain ⟨hl, h⟩ := h
    have f1 := AutoSeq1.idx_int
    wp_walk using wpAny_loadPart' hl
    exact ⟨_, rfl, h⟩
def rRep0 (K : PySem.W.Frag) : R2 := fun x y H Q => ∃ l xs, x = .ref l ∧ y = .int 0 ∧ SqT K H l xs ∧ xs ≠ [] ∧ ∀ p, H p = none → Q (.ref p) (L2.upd H p (.tup []))
theorem op_rep0 {X : Cx} : OpR X (binaryOp .Mult) (rRep0 X.K) := by
  intro pins s σ H x y v u Q I rx ry h
  obtain ⟨l, xs, rfl, rfl, hT, hne, q⟩ := h
  cases rx
  obtain ⟨t, rfl⟩ := ry
  obtain ⟨its, r, ⟨⟨cls, dd, data, sl⟩, ho, hc, n, hd⟩, hs⟩ := I.tuple hT
  simp only at hc hd
  subst hc hd
  cases its with
  | nil =>
    cases r
    exact absurd rfl hne
  | cons a rest =>
    exact wpAny_binaryOp_repeat_ref (T := "tuple") (U := "int") (by decide) ⟨_, ho, rfl⟩ (fun s' => typeIs_int s' 0 t) noFill_tuple_mul F.fills_int_mul F.slot_int_rmul repeat_tuple F.slot_int_index.lookup
      (call_meets F.slot_int_rmul (typeIs_int s 0 t) F.entry_int_rmul (F.args_int_rmul_2 _ _) (int_rmul_tuple 0 t l (a :: rest).toArray n dd sl)
        ⟨ho, rfl, ⟨_, ho, rfl⟩, call_meets F.slot_tuple_mul ⟨_, ho, rfl⟩ F.entry_tuple_mul (F.args_tuple_mul_2 _ _) (tuple_mul0 l a rest n dd sl t) ⟨ho, ⟨.ref s.heap.objs.size, L2.upd H s.heap.objs.size (.tup []), I.laid (t' := s.toks) (o := .tup []) (fun b ob q => Heap.get?_push_of_some _ q) (Nat.le_refl _) ⟨by simp, [], .nil, IsTup.new _ _⟩, rfl, q _ (I.hok.fresh (Nat.le_refl _))⟩⟩⟩)
def mul0 : W → W → T W
  | .tup (_ :: _), .int 0 => .ok (.tup [])
  | _, _ => .bad
theorem sem_mul0 {K : PySem.W.Frag} : Sem2 K (rRep0 K) mul0 := fun c d H x y v u Q E' wd rx ry q => by
  cases rx with
  | tup hq rl =>
    cases rl with
    | nil => exact q.elim
    | cons r rr =>
      cases ry with
      | int k =>
        by_cases hk : k = 0
        · subst hk
          exact ⟨_, _, rfl, rfl, hq, by simp, fun p hp => PQ.tup wd q .nil hp⟩
        · have nb : ∀ (w : W) (ws : List W), mul0 (.tup (w :: ws)) (.int k) = .bad := fun w ws => by
            unfold mul0
            split
            · rename_i e
              cases e
              exact absurd rfl hk
            · rfl
          rw [nb] at q
          exact q.elim
      | _ => exact q.elim
  | _ => exact q.elim
def mulTZ (x y : W) : T W := match y with
  | .int 0 => mul0 x (.int 0)
  | y => mulTA x y
theorem sem_mulTZ {K : PySem.W.Frag} : Sem2 K (fun x y H Q => rRep0 K x y H Q ∨ (rRep1 K x y H Q ∨ rRepT K x y H Q)) mulTZ := sem_or1 sem_mul0 sem_mulTA fun x y => by
  unfold mulTZ
  split
  · exact .inl rfl
  · exact .inr rfl
theorem op_mulTZ {X : Cx} : OpR X (binaryOp .Mult) (fun x y H Q => rRep0 X.K x y H Q ∨ (rRep1 X.K x y H Q ∨ rRepT X.K x y H Q)) := opR_or op_rep0 op_mulTA
end PF
namespace PF
open PySem PySem.Spec PyProof.Rows L2
/-- the objects at as are told, as they stand in h -/
def lay (H : Hp) (as : List Addr) (h : Heap) : Hp := fun b => if b ∈ as then (h.get? b).map (ObX b) else H b
def era (H : Hp) (as : List Addr) : Hp := fun b => if b ∈ as then none else H b
theorem lay_in {H : Hp} {as : List Addr} {h : Heap} {b : Addr} {o : Obj} (m : b ∈ as) (e : h.get? b = some o) : lay H as h b = some (ObX b o) := by
  unfold lay
  rw [if_pos m, e]
  rfl
theorem lay_out {H : Hp} {as : List Addr} {h : Heap} {b : Addr} (m : b ∉ as) : lay H as h b = H b := by
  unfold lay
  rw [if_neg m]
theorem era_out {H : Hp} {as : List Addr} {b : Addr} (m : b ∉ as) : era H as b = H b := by
  unfold era
  rw [if_neg m]
theorem obX_ok {P : Program} {w : World} {H : Hp} {h : Heap} {a : Addr} {o : Obj} (e : h.get? a = some o) : ObjOk P w H h a (ObX a o) := ⟨e, ⟨o, e⟩, fun _ _ q k => k o q⟩
section
variable {P : Program} {w : World} {H H' : Hp} {h h' B : Heap} {as : List Addr} {fs : List Addr}
/-- told at all of as, as they stand in h -/
def Lent (H : Hp) (as : List Addr) (h : Heap) : Prop := ∀ a ∈ as, ∃ o, h.get? a = some o ∧ H a = some (ObX a o)
end
end PF
namespace PF
open PySem PySem.Spec PyProof.Rows L2
abbrev adr (cl : Cl) : List Addr := cl.map fun x => x.2
section
variable {K : PySem.W.Frag} {c : Cc} {d : Dw} {H H' : Hp}
mutual
theorem Rep.mono (k : ∀ b o, H b = some o → H' b = some o) : ∀ {w : W} {v : V}, Rep K c H w v → Rep K c H' w v
  | _, _, .non => .non
  | _, _, .bl b => .bl b
  | _, _, .int i => .int i
  | _, _, .str x => .str x
  | _, _, .tup h r => .tup (by
      rcases h with (h | ⟨o, h⟩) | h
      · exact .inl (.inl (k _ _ h))
      · exact .inl (.inr ⟨o, k _ _ h⟩)
      · exact .inr h) (RepL.mono k r)
  | _, _, .lst n h r => .lst n (k _ _ h) (RepL.mono k r)
  | _, _, .dct n h r => .dct n (k _ _ h) (RepL.mono k r)
  | _, _, .obj h => .obj h
  | _, _, .dcu n h r => .dcu n (k _ _ h) (RepL.mono k r)
  | _, _, .scr h => .scr (h.imp (fun ⟨n, r⟩ => ⟨n, r.imp (fun e => k _ _ e) fun ⟨o, e⟩ => ⟨o, k _ _ e⟩⟩) id)
  | _, _, .stt => .stt
  | _, _, .lam h => .lam (h.kp ⟨fun b φ e => k _ _ e, fun b φ e => k _ _ e⟩)
  | _, _, .clo h g n m pl r => .clo (h.kp ⟨fun b φ e => k _ _ e, fun b φ e => k _ _ e⟩) g n (m.kp ⟨fun b φ e => k _ _ e, fun b φ e => k _ _ e⟩) pl (RepL.mono k r)
  | _, _, .exo h1 h2 h3 r => .exo (k _ _ h1) (k _ _ h2) h3 (RepL.mono k r)
  | _, _, .exn h1 => .exn (k _ _ h1)
  | _, _, .key h => .key (k _ _ h)
theorem RepL.mono (k : ∀ b o, H b = some o → H' b = some o) : ∀ {ws : List W} {vs : List V}, RepL K c H ws vs → RepL K c H' ws vs
  | _, _, .nil => .nil
  | _, _, .cons h r => .cons (Rep.mono k h) (RepL.mono k r)
end
mutual
theorem Rep.plain (k : ∀ b o, H b = some o → (∀ φ, o ≠ .ext φ) → H' b = some o) : ∀ {w : W} {v : V}, PF.plain w = true → Rep K c H w v → Rep K c H' w v
  | _, _, _, .non => .non
  | _, _, _, .bl b => .bl b
  | _, _, _, .int i => .int i
  | _, _, _, .str x => .str x
  | _, _, p, .tup h r => .tup (by
      rcases h with (h | ⟨o, h⟩) | h
      · exact .inl (.inl (k _ _ h nofun))
      · exact .inl (.inr ⟨o, k _ _ h nofun⟩)
      · exact .inr h) (RepL.plain k (by unfold PF.plain at p; exact p) r)
  | _, _, p, .lst n h r => .lst n (k _ _ h nofun) (RepL.plain k (by unfold PF.plain at p; exact p) r)
  | _, _, p, .dct n h r => .dct n (k _ _ h nofun) (RepL.plain k (by unfold PF.plain at p; exact p) r)
  | _, _, _, .obj h => .obj h
  | _, _, p, .dcu n h r => .dcu n (k _ _ h nofun) (RepL.plain k (by unfold PF.plain at p; exact p) r)
  | _, _, _, .scr h => .scr (h.imp (fun ⟨n, r⟩ => ⟨n, r.imp (fun e => k _ _ e nofun) fun ⟨o, e⟩ => ⟨o, k _ _ e nofun⟩⟩) id)
  | _, _, _, .stt => .stt
  | _, _, p, .lam h => by cases p
  | _, _, p, .clo h g n m pl r => by cases p
  | _, _, p, .exo h1 h2 h3 r => by cases p
  | _, _, p, .exn h1 => by cases p
  | _, _, _, .key h => .key (k _ _ h nofun)
theorem RepL.plain (k : ∀ b o, H b = some o → (∀ φ, o ≠ .ext φ) → H' b = some o) : ∀ {ws : List W} {vs : List V}, plainL ws = true → RepL K c H ws vs → RepL K c H' ws vs
  | _, _, _, .nil => .nil
  | _, _, p, .cons h r => by
    unfold plainL at p
    obtain ⟨p1, p2⟩ := Bool.and_eq_true_iff.mp p
    exact .cons (Rep.plain k p1 h) (RepL.plain k p2 r)
end
theorem RepX.mono {n : Nat} {fs : List W} {cls : Value} {dx : Option Addr} (k : ∀ b o, H b = some o → H' b = some o) (r : RepX K c H n fs cls dx) : RepX K c H' n fs cls dx := by
  obtain ⟨r1, d', vs, r2, r3, r4, r5⟩ := r
  exact ⟨r1, d', vs, r2, k _ _ r3, r4, r5.mono k⟩
theorem StOk.mono {d : Dw} (k : ∀ b o, H b = some o → H' b = some o) (s : StOk c d H) : StOk c d H' := by
  obtain ⟨⟨cells, lefts, kk, r, h1, h2, h3, h4, h5, h6, h7, h8, h9⟩, ob⟩ := s
  exact ⟨⟨cells, lefts, kk, r, k _ _ h1, k _ _ h2, k _ _ h3, h4, h5, h6, h7, h8, h9.ext k⟩, ob.same ob.ok rfl rfl (fun a C dx fl h => k _ _ h) fun ws vs q => q.mono k⟩
end
section
variable {P : Program} {w : World} {K : PySem.W.Frag} {c : Cc} {d : Dw} {H H' : Hp} {h : Heap} {as : List Addr}
/-- cells, told -/
def CellsX (H : Hp) (as : List Addr) (h : Heap) : Prop := ∀ a ∈ as, ∃ o u, h.get? a = some o ∧ H a = some (ObX a o) ∧ o.data = .cell u
theorem CellsX.no (l : CellsX H as h) {b : Addr} {o : HO} (e : H b = some o) (n : ∀ φ, o ≠ .ext φ) : b ∉ as := fun z => by
  obtain ⟨_, _, _, q, _⟩ := l b z
  rw [e] at q
  exact n _ (Option.some.inj q)
theorem code_ne {a : Addr} {q : Str} {o : Obj} {u : Option Value} (g1 : h.get? a = some o) (g3 : o.data = .cell u) : LamX.CodeO a q ≠ ObX a o := fun z => by
  unfold LamX.CodeO ObX at z
  injection z with z
  have z := congrFun z h
  have z : ∃ (oc : Obj) (vs : Array Value) (t : Tok), h.get? a = some oc ∧ oc.data = .fields vs ∧ vs[1]? = some (.str q t) := by rw [z]; exact g1
  obtain ⟨oc, vs, t, e1, e2, _⟩ := z
  rw [g1] at e1
  cases e1
  rw [g3] at e2
  cases e2
theorem StOk.era (s : StOk c d H) (l : CellsX H as h) : StOk c d (era H as) := by
  obtain ⟨⟨cells, lefts, kk, r, h1, h2, h3, h4, h5, h6, h7, h8, h9⟩, ob⟩ := s
  refine ⟨?_, ⟨ob.ok, ob.len, ob.nd, fun i a o q1 q2 => (by
    obtain ⟨dx, vs, g1, g2, g3, g4⟩ := ob.at_ i a o q1 q2
    exact ⟨dx, vs, by rw [era_out (l.no g1 nofun)]; exact g1, g2.plain (fun b o e n => by rw [era_out (l.no e n)]; exact e) g4, g3, g4⟩), ob.no⟩⟩
  refine ⟨cells, lefts, kk, r, by rw [era_out (l.no h1 nofun)]; exact h1, by rw [era_out (l.no h2 nofun)]; exact h2, by rw [era_out (l.no h3 nofun)]; exact h3, h4, h5, h6, h7, h8, fun p hp => ?_⟩
  obtain ⟨ps, q1, q2, q3⟩ := h9 p hp
  refine ⟨ps, by rw [era_out (l.no q1 nofun)]; exact q1, q2, fun pos cv hc => ?_⟩
  obtain ⟨c', e, q⟩ := q3 pos cv hc
  refine ⟨c', e, ?_⟩
  rw [era_out]
  · exact q
  · intro z
    obtain ⟨o, u, g1, g2, g3⟩ := l c' z
    rw [q] at g2
    exact code_ne g1 g3 (Option.some.inj g2)
theorem Wd.era (wd : Wd c d H) (l : CellsX H as h) : Wd c d (era H as) := ⟨wd.ok, wd.st.era l, fun b hb => by
  obtain ⟨o, e, ow⟩ := wd.av b hb
  refine ⟨o, ?_, ow⟩
  rw [era_out (l.no e (by rcases ow with ⟨_, rfl⟩ | ⟨_, rfl⟩ | ⟨_, rfl⟩ <;> exact nofun))]
  exact e⟩
theorem Step.lay (st : Step c (era H as) H') (l : Lent H as h) : Step c H (lay H' as h) := ⟨fun b o e h1 h2 nt => by
    by_cases m : b ∈ as
    · obtain ⟨u, e1, e2⟩ := l b m
      rw [e] at e2
      cases e2
      exact lay_in m e1
    · rw [lay_out m]
      exact st.keep b o (by rw [era_out m]; exact e) h1 h2 nt, fun b ps e => by
    have m : b ∉ as := fun z => by
      obtain ⟨_, _, q⟩ := l b z
      rw [e] at q
      cases q
    rw [lay_out m]
    exact st.tbl b ps (by rw [era_out m]; exact e), fun b C dx fs e => by
    have m : b ∉ as := fun z => by
      obtain ⟨_, _, q⟩ := l b z
      rw [e] at q
      cases q
    rw [lay_out m]
    exact st.ins b C dx fs (by rw [era_out m]; exact e)⟩
theorem lay_mono (n : ∀ a ∈ as, H' a = none) : ∀ b o, H' b = some o → lay H' as h b = some o := fun b o e => by
  rw [lay_out]
  · exact e
  · intro z
    rw [n b z] at e
    cases e
end
structure LmC (l : LamD) (N : List Str) : Prop where
  kind : l.scope.kind = .function
  co : l.scope.isCoroutine = false
  gen : l.scope.isGenerator = false
  own : ∀ y ∈ l.scope.names, y.2 ≠ .cell ∧ (y.2 = .local → y.1 ∉ N)
  par : ∀ a ∈ l.params.args, l.scope.names.lookup a.arg = some .local
  nm : N = (cloFrom [] l.scope.names []).map (·.1)
  nd : N.Nodup
abbrev cloEnv (q : Str) (scope : Scope) (L f c' : Addr) (cl : Cl) : PySem.Env := PySem.W.envX q scope L f (.ref c') cl
def cloCx (P : Program) (w : World) (K : PySem.W.Frag) (mg : Str → Option Value) (base : Heap) (N : List Str) (A : Around) (outer : List PySem.Env) (s : Shared) (H : Hp) (E : XK) (q : Str) (scope : Scope) (f c' : Addr) (cl : Cl) : Cx where
  prog := P
  w := w
  K := K
  mg := mg
  base := base
  A := A.deeper (cloEnv q scope s.heap.objs.size f c' cl)
  N := N
  s_0 := s
  H_0 := H
  env := cloEnv q scope s.heap.objs.size f c' cl
  outer := outer
  stack := cloEnv q scope s.heap.objs.size f c' cl :: outer
  ex := []
  fn := fun _ => false
  calm := true
  pn := []
  xe := fun e s' => wpAny (model P w) (A.deeper (cloEnv q scope s.heap.objs.size f c' cl)) (leaving (cloEnv q scope s.heap.objs.size f c' cl) e) (fun _ s'' => L2.CX P w outer H s E e s'') (fun e' s'' => L2.CX P w outer H s E e' s'') s'
section
variable {P : Program} {w : World} {K : PySem.W.Frag} {mg : Str → Option Value} {base : Heap} {A : Around} {outer : List PySem.Env} {s : Shared} {H : Hp} {l : LamD} {N : List Str} {cl : Cl} {vs : List V}
end
/-- what a lambda does, its captured things at hand -/
def lamF (n : Nat) (fb : En → T W) : List W → T W := fun ws => if ws.length == n then fb (startE n ws) else .bad
def LamOk (P : Program) (w : World) (K : PySem.W.Frag) (mg : Str → Option Value) (base : Heap) (k : Nat) (x : Str) (p : List Nat) (r : List W → T W) : Prop :=
  ∃ (l : LamD) (N : List Str) (fb : En → T W), lamK K x p = some l ∧ LmC l N ∧ r = lamF N.length fb ∧
    ∀ (Γ : Cl) (A : Around) (outer : List PySem.Env) (s : Shared) (H : Hp) (E : XK) (f c' : Addr) (cl : Cl), A.guards = some [] → Room k (A.deeper (cloEnv (lamQ x) l.scope s.heap.objs.size f c' cl)) → TrE Γ (cloCx P w K mg base N A outer s H E (lamQ x) l.scope f c' cl) (wOf E) l.body fb
section
variable {P : Program} {w : World} {K : PySem.W.Frag} {mg : Str → Option Value} {base : Heap} {A : Around} {outer : List PySem.Env} {s : Shared} {H : Hp} {c : Cc} {d : Dw} {k : Nat} {x : Str} {p : List Nat} {ws : List W} {f : Addr} {Q : VK} {E : XK} {r : List W → T W}
end
end PF
namespace PF
open PySem PySem.Spec PyProof.Rows L2
section
variable {X : Cx} {pins : List (Addr × Obj)} {σ : L2.St} {H : Hp} {s : Shared}
theorem Inv.adopt {a : Addr} {o : Obj} (I : Inv X pins σ H s) (e : s.heap.get? a = some o) (n : H a = none) (n0 : X.s_0.heap.get? a = none) (nL : a ≠ X.env.locals) (nC : ∀ y c, X.env.cells.lookup y = some c → c ≠ a) (nP : ∀ p ∈ X.pn ++ pins, p.1 ≠ a) : Inv X pins σ (upd H a (ObX a o)) s where
  ok := I.ok
  os := I.os
  bare := I.bare
  base := {
    keep := I.base.keep
    slot := I.base.slot
    free := fun b o e1 e2 e3 => by
      rw [upd_ne (fun z => by rw [z, n0] at e1; cases e1)]
      exact I.base.free b o e1 e2 e3
    there := I.base.there
    tups := fun b xs q => by
      have := I.base.tups b xs q
      rw [upd_ne (ne_of_none this n)]
      exact this
    frzs := fun b o xs q => by
      have := I.base.frzs b o xs q
      rw [upd_ne (ne_of_none this n)]
      exact this
    tbls := fun b ps q => by
      obtain ⟨m, this⟩ := I.base.tbls b ps q
      exact ⟨m, by rw [upd_ne (ne_of_none this n)]; exact this⟩ }
  loc := I.loc
  cell := I.cell
  free := by rw [upd_ne (Ne.symm nL)]; exact I.free
  freeC := fun y c h => by rw [upd_ne (nC y c h)]; exact I.freeC y c h
  pin := fun p hp => by
    obtain ⟨h1, h2, h3⟩ := I.pin p hp
    exact ⟨h1, by rw [upd_ne (nP p hp)]; exact h2, h3⟩
  hok := HOk.laidN I.hok (fun _ _ q => q) n (obX_ok e)
  len := I.len
end
/-- its free names are cells of the maker, or free there -/
def FreeIn (sc scope : Scope) : Prop := ∀ y ∈ scope.names, y.2 = .free → sc.names.lookup y.1 = some .cell ∨ sc.names.lookup y.1 = some .free
end PF
namespace PF
open PySem PySem.Spec PyProof.Rows L2
def capV (ρ : En) : List Nat → Option (List W)
  | [] => some []
  | i :: r => match ρ[i]?, capV ρ r with
    | some (.val w), some ws => some (w :: ws)
    | _, _ => none
mutual
/-- lambdas with what they hold -/
def frW (S : Str → List Nat → Option (List Nat)) (ρ : En) : W → Option W
  | .lam x p => match S x p with
    | some ss => match capV ρ ss with
      | some ws => if plainL ws then some (.clo x p ws) else none
      | none => none
    | none => none
  | .lst ws => (frWs S ρ ws).map .lst
  | w => some w
def frWs (S : Str → List Nat → Option (List Nat)) (ρ : En) : List W → Option (List W)
  | [] => some []
  | w :: ws => match frW S ρ w, frWs S ρ ws with
    | some u, some us => some (u :: us)
    | _, _ => none
end
section
variable {K : PySem.W.Frag} {c c1 : Cc} {H : Hp}
mutual
theorem Rep.weakP (hS : c1.S = c.S) (hO : c1.O = c.O) (sub : ∀ b ∈ c.A, b ∈ c1.A) : ∀ {w : W} {v : V}, PF.plain w = true → Rep K c1 H w v → Rep K c H w v
  | _, _, _, .non => .non
  | _, _, _, .bl b => .bl b
  | _, _, _, .int i => .int i
  | _, _, _, .str x => .str x
  | _, _, p, .tup h r => .tup h (RepL.weakP hS hO sub (by unfold PF.plain at p; exact p) r)
  | _, _, p, .lst n h r => .lst (fun z => n (sub _ z)) h (RepL.weakP hS hO sub (by unfold PF.plain at p; exact p) r)
  | _, _, p, .dct n h r => .dct (fun z => n (sub _ z)) h (RepL.weakP hS hO sub (by unfold PF.plain at p; exact p) r)
  | _, _, p, .dcu n h r => .dcu (fun z => n (sub _ z)) h (RepL.weakP hS hO sub (by unfold PF.plain at p; exact p) r)
  | _, _, _, .obj h => .obj (by rw [← hO]; exact h)
  | _, _, _, .scr h => .scr (h.imp (fun ⟨n, r⟩ => ⟨fun z => n (sub _ z), r⟩) id)
  | _, _, _, .stt => by rw [hS]; exact .stt
  | _, _, p, .lam h => by cases p
  | _, _, p, .clo h g n m pl r => by cases p
  | _, _, p, .exo h1 h2 h3 r => by cases p
  | _, _, p, .exn h1 => by cases p
  | _, _, _, .key h => .key h
theorem RepL.weakP (hS : c1.S = c.S) (hO : c1.O = c.O) (sub : ∀ b ∈ c.A, b ∈ c1.A) : ∀ {ws : List W} {vs : List V}, plainL ws = true → RepL K c1 H ws vs → RepL K c H ws vs
  | _, _, _, .nil => .nil
  | _, _, p, .cons h r => by
    unfold plainL at p
    obtain ⟨p1, p2⟩ := Bool.and_eq_true_iff.mp p
    exact .cons (Rep.weakP hS hO sub p1 h) (RepL.weakP hS hO sub p2 r)
end
end
/-- what the names lead to -/
def lks (cl : Cl) : List Addr := cl.filterMap fun x => cl.lookup x.1
theorem lks_mem {cl : Cl} {a : Addr} (h : a ∈ lks cl) : ∃ y, cl.lookup y = some a := by
  obtain ⟨x, _, e⟩ := List.mem_filterMap.mp h
  exact ⟨x.1, e⟩
theorem mem_lks {cl : Cl} {y : Str} {a : Addr} (h : cl.lookup y = some a) : a ∈ lks cl := List.mem_filterMap.mpr ⟨(y, a), PySem.mem_of_lookup h, h⟩
/-- the slots that lambdas of this frame hold -/
def SlOk (X : Cx) (S : Str → List Nat → Option (List Nat)) : Prop := ∀ x p ss, S x p = some ss → ∃ l, lamK X.K x p = some l ∧ FreeIn X.env.scope l.scope ∧ ((cloFrom [] l.scope.names []).map (·.1)).Nodup ∧ ss.map (fun i => X.N[i]?) = ((cloFrom [] l.scope.names []).map (·.1)).map some
theorem cloFrom_fst {c1 c2 : Cl} : ∀ (names : List (Str × NameKind)) (a1 a2 : Cl), a1.map (·.1) = a2.map (·.1) → (cloFrom c1 names a1).map (·.1) = (cloFrom c2 names a2).map (·.1)
  | [], a1, a2, h => h
  | (n, k) :: r, a1, a2, h => by
    unfold cloFrom
    by_cases hk : (k == NameKind.free) = true
    · simp only [hk, if_true]
      exact cloFrom_fst r _ _ (by simp [h])
    · simp only [hk, if_false]
      exact cloFrom_fst r _ _ h
section
variable {X : Cx} {pins : List (Addr × Obj)} {σ : L2.St} {H : Hp} {s : Shared} {c : Cc} {d : Dw} {oa : Nat → Addr} {ρ : En} {S : Str → List Nat → Option (List Nat)}
theorem lks_none (I : Inv X pins σ H s) : ∀ a ∈ lks X.env.cells, H a = none := fun a m => by
  obtain ⟨y, e⟩ := lks_mem m
  exact I.freeC y a e
theorem caps_at (I : Inv X pins σ H s) (e : EnvOk X.K Γ c d oa ρ σ H) : ∀ (cl : Cl) (ss : List Nat) (ws : List W), (∀ x ∈ cl, X.env.cells.lookup x.1 = some x.2 ∧ Vis X.env.scope x.1 ∧ X.env.scope.names.lookup x.1 ≠ some .local) → ss.map (fun i => X.N[i]?) = (cl.map (·.1)).map some → capV ρ ss = some ws →
    ∃ vs, CapsAt (lay H (lks X.env.cells) s.heap) cl vs ∧ RepL X.K c H ws vs
  | [], [], ws, _, _, h => by
    cases h
    exact ⟨[], .nil, .nil⟩
  | [], i :: ss, ws, _, h, _ => by cases h
  | x :: cl, [], ws, _, h, _ => by cases h
  | (y, a) :: cl, i :: ss, ws, hc, hN, h => by
    unfold capV at h
    split at h
    · rename_i w ws' hw hr
      cases h
      simp only [List.map_cons, List.cons.injEq] at hN
      obtain ⟨vs, ca, rl⟩ := caps_at I e cl ss ws' (fun x hx => hc x (List.mem_cons_of_mem _ hx)) hN.2 hr
      obtain ⟨v, h1, h2⟩ := e.val i w hw
      obtain ⟨g1, g2, g3⟩ := hc (y, a) (List.mem_cons_self ..)
      obtain ⟨m, _, hl⟩ := I.loc
      obtain ⟨u, ru, lk⟩ := hl i y v hN.1 h1 g2
      rcases lk with ⟨k, _⟩ | ⟨_, c2, e2, o, ho, hd⟩
      · exact absurd k g3
      · have g1 : X.env.cells.lookup y = some a := g1
        rw [g1] at e2
        cases e2
        exact ⟨v :: vs, .cons (lay_in (mem_lks g1) ho) hd ru ca, .cons h2 rl⟩
    · cases h
theorem adr_nd (inj : ∀ x y a, X.env.cells.lookup x = some a → X.env.cells.lookup y = some a → x = y) : ∀ (cl : Cl), (cl.map (·.1)).Nodup → (∀ x ∈ cl, X.env.cells.lookup x.1 = some x.2) → (adr cl).Nodup
  | [], _, _ => .nil
  | (y, a) :: cl, nd, h => by
    have nd := List.nodup_cons.mp nd
    refine List.nodup_cons.mpr ⟨fun z => ?_, adr_nd inj cl nd.2 fun x hx => h x (List.mem_cons_of_mem _ hx)⟩
    obtain ⟨⟨y2, a2⟩, hm, ez⟩ := List.mem_map.mp z
    have ez : a2 = a := ez
    subst ez
    have e1 := h (y, a2) (List.mem_cons_self ..)
    have e2 := h (y2, a2) (List.mem_cons_of_mem _ hm)
    have : y = y2 := inj _ _ _ e1 e2
    subst this
    exact nd.1 (List.mem_map.mpr ⟨_, hm, rfl⟩)
mutual
theorem frz_rep (I : Inv X pins σ H s) (e : EnvOk X.K Γ c d oa ρ σ H) (hΓ : c.C = X.env.cells) (sl : SlOk X S) : ∀ {w w' : W} {v : V}, Rep X.K c H w v → frW S ρ w = some w' → Rep X.K c (lay H (lks X.env.cells) s.heap) w' v := fun {w w' v} r h => by
  have mono := lay_mono (h := s.heap) (lks_none I)
  cases r with
  | lam la =>
    rename_i f x p l
    unfold frW at h
    split at h
    · rename_i ss hs
      split at h
      · rename_i ws hw
        split at h
        · rename_i pl
          cases h
          obtain ⟨l', hl, fi, nd, hN⟩ := sl x p ss hs
          have : l = l' := by
            have := la.1
            rw [hl] at this
            exact (Option.some.inj this).symm
          subst this
          have fst := cloFrom_fst (c1 := c.C) (c2 := []) l.scope.names [] [] rfl
          have look : ∀ z ∈ cloFrom c.C l.scope.names [], X.env.cells.lookup z.1 = some z.2 ∧ Vis X.env.scope z.1 ∧ X.env.scope.names.lookup z.1 ≠ some .local := fun z hz => by
            obtain ⟨y, a⟩ := z
            rcases cloFrom_mem hz with q | ⟨q1, q2⟩
            · cases q
            · have k := fi _ q1 rfl
              have k : X.env.scope.names.lookup y = some .cell ∨ X.env.scope.names.lookup y = some .free := k
              obtain ⟨b, hb⟩ := I.ok.has y k
              rw [hΓ, hb] at q2
              have q2 : a = b := q2
              subst q2
              refine ⟨hb, .inr k, fun z => ?_⟩
              have z : X.env.scope.names.lookup y = some .local := z
              rcases k with k | k <;> rw [k] at z <;> cases z
          obtain ⟨vs, ca, rl⟩ := caps_at I e _ ss ws look (by rw [fst]; exact hN) hw
          exact .clo (la.kp ⟨fun b φ q => mono _ _ q, fun b φ q => mono _ _ q⟩) fst (adr_nd I.ok.inj _ (by rw [fst]; exact nd) fun x hx => (look x hx).1) ca pl (rl.mono mono)
        · cases h
      · cases h
    · cases h
  | lst n hq rl =>
    rename_i a vs ws
    unfold frW at h
    cases hu : frWs S ρ ws with
    | none =>
      rw [hu] at h
      cases h
    | some us =>
      rw [hu] at h
      cases h
      exact .lst n (mono _ _ hq) (frzs_rep I e hΓ sl rl hu)
  | non => cases h; exact .non
  | bl b => cases h; exact .bl b
  | int i => cases h; exact .int i
  | str x => cases h; exact .str x
  | tup hq rl => cases h; exact (Rep.tup hq rl).mono mono
  | dct n hq rl => cases h; exact (Rep.dct n hq rl).mono mono
  | dcu n hq rl => cases h; exact (Rep.dcu n hq rl).mono mono
  | obj hq => cases h; exact .obj hq
  | scr hq => cases h; exact (Rep.scr hq).mono mono
  | stt => cases h; exact .stt
  | clo la g n k pl rl => cases h; exact (Rep.clo la g n k pl rl).mono mono
  | exo h1 h2 h3 rl => cases h; exact (Rep.exo h1 h2 h3 rl).mono mono
  | exn h1 => cases h; exact (Rep.exn h1).mono mono
  | key h1 => cases h; exact (Rep.key h1).mono mono
theorem frzs_rep (I : Inv X pins σ H s) (e : EnvOk X.K Γ c d oa ρ σ H) (hΓ : c.C = X.env.cells) (sl : SlOk X S) : ∀ {ws us : List W} {vs : List V}, RepL X.K c H ws vs → frWs S ρ ws = some us → RepL X.K c (lay H (lks X.env.cells) s.heap) us vs := fun {ws us vs} r h => by
  cases r with
  | nil =>
    cases h
    exact .nil
  | cons q r =>
    unfold frWs at h
    split at h
    · rename_i u us' h1 h2
      cases h
      exact .cons (frz_rep I e hΓ sl q h1) (frzs_rep I e hΓ sl r h2)
    · cases h
end
end
section
variable {X : Cx} {E : WX} {e : Expr} {es : List Expr} {fs : En → T (List W)} {pos p : Pos} {F : List W → T W} {k : Nat} {ps : List Str} {x : Str} {S : Str → List Nat → Option (List Nat)}
end
section
variable {P : Program} {w : World} {K : PySem.W.Frag} {mg : Str → Option Value} {base : Heap} {x qual : Str} {params : Arguments} {body : List Stmt} {scope : Scope} {f : Addr} {fd : FuncData}
end
end PF
namespace PF
open PySem PySem.Spec PyProof.Rows L2
section
variable {X : Cx} {pins : List (Addr × Obj)} {σ : L2.St} {H : Hp} {s : Shared}
end
section
variable {X : Cx} {body : List Stmt} {ty : Expr} {n y : Str} {i j : Nat} {m : Value → Option Bool} {p2 p3 p4 ps pos : Pos} {tb : WX → TS}
end
end PF
namespace PF
open PySem PySem.Spec PyProof.Rows L2
section
variable {X : Cx} {E : XK} {e ty : Expr} {f : En → T W} {n y : Str} {i j : Nat} {m : Value → Option Bool} {ns : List Nat} {p1 p2 p3 p4 ps pos : Pos}
end
structure KxC (K : PySem.W.Frag) (C : Addr) : Prop where
  cl : (PySem.W.clsIn K C).isSome = true
  ha : PySem.W.findIn K (.ref C) "__class__" = some (some (.builtin "object.__class__"))
  hn : PySem.W.specialIn K (.builtin "object.__class__") "__get__" = some (some (.builtin "getset_descriptor.__get__"))
  ht : PySem.W.takesIn K (.builtin "object.__class__") = some true
  hm : PySem.W.mroIn K C (.type "object") = some true
  xf : XfC K C
end PF
namespace PF
open PySem PySem.Spec PyProof.Rows L2
def sysB (K : PySem.W.Frag) : Bool := match K.lookup sysModules with
  | some o => decide (o.cls = .type "dict")
  | none => false
mutual
def W.toR : W → Option PyData
  | .non => some .none
  | .bl b => some (.bool b)
  | .int i => some (.int i)
  | .str x => some (.str x)
  | .tup ws => match toRs ws with
    | some ds => some (.tuple ds)
    | none => none
  | .lst ws => match toRs ws with
    | some ds => some (.list ds)
    | none => none
  | .dct [] [] => some (.dict [])
  | _ => none
def toRs : List W → Option (List PyData)
  | [] => some []
  | w :: ws => match W.toR w, toRs ws with
    | some d, some ds => some (d :: ds)
    | _, _ => none
end
theorem pairs_nil {prog : Program} {w : World} {κ : Type} [DecidableEq κ] {knd : PySem.KeyKind prog w κ} {es : List DictEntry} (h : Pairs knd es []) : es = [] := by
  cases h
  rfl
section
variable {X : Cx} {pins : List (Addr × Obj)} {σ : L2.St} {H : Hp} {s : Shared} {c : Cc}
theorem sys_at (I : Inv X pins σ H s) (sy : sysB X.K = true) : ∃ o, s.heap.get? sysModules = some o ∧ o.cls = .type "dict" := by
  unfold sysB at sy
  split at sy
  · rename_i o e
    exact ⟨o, I.kIn _ _ e, of_decide_eq_true sy⟩
  · cases sy
mutual
theorem Rep.reads (I : Inv X pins σ H s) (sy : sysB X.K = true) : ∀ {w : W} {v : V} {u : Value} {d : PyData}, Rep X.K c H w v → w.toR = some d → RelV v u → ∃ as, Reads s.heap u d as ∧ sysModules ∉ as := fun {w v u d} r e ru => by
  cases r with
  | non => cases e; cases ru; exact ⟨_, Reads.none, by simp⟩
  | bl b => cases e; cases ru; exact ⟨_, Reads.bool b, by simp⟩
  | int i => cases e; obtain ⟨t, rfl⟩ := ru; exact ⟨_, Reads.int i t, by simp⟩
  | str x => cases e; obtain ⟨t, rfl⟩ := ru; exact ⟨_, Reads.str x t, by simp⟩
  | tup h rl =>
    unfold W.toR at e
    split at e
    · rename_i ds hd
      cases e
      cases ru
      obtain ⟨its, o, n, rv, ho, hc, hdt⟩ : ∃ (its : List Value) (o : Obj) (n : Nat), Vals _ its ∧ s.heap.get? _ = some o ∧ o.cls = .type "tuple" ∧ o.data = .seq its.toArray n := by
        rcases h with h | ⟨o, its, n, e, hc, hd, _, hv⟩
        · obtain ⟨_, its, hv, o, e, hc, n, hd⟩ := h.ok I.hok
          exact ⟨its, o, n, hv, e, hc, hd⟩
        · exact ⟨its.toList, o, n, hv, I.kIn _ _ e, hc, by simp [hd]⟩
      obtain ⟨as, q1, q2⟩ := RepL.reads I sy rl hd rv
      exact ⟨_, Reads.tuple ho hc hdt (by simpa using q1), q2⟩
    · cases e
  | lst n0 h rl =>
    unfold W.toR at e
    split at e
    · rename_i ds hd
      cases e
      cases ru
      obtain ⟨_, its, n, rv, ho⟩ := I.hok _ _ h
      have hc : (({ cls := .type "list", data := .seq its.toArray n } : Obj)).cls = .type "list" := rfl
      have hdt : (({ cls := .type "list", data := .seq its.toArray n } : Obj)).data = .seq its.toArray n := rfl
      obtain ⟨as, q1, q2⟩ := RepL.reads I sy rl hd rv
      refine ⟨_, Reads.list ho hc hdt (by simpa using q1), ?_⟩
      simp only [List.mem_cons, not_or]
      refine ⟨fun z => ?_, q2⟩
      obtain ⟨o', e1, e2⟩ := sys_at I sy
      rw [z, ho] at e1
      cases e1
      exact absurd (show Value.type "list" = Value.type "dict" from e2) (by decide)
    · cases e
  | @dct a kvs ws n0 h rl =>
    cases kvs with
    | cons kv kvs =>
      unfold W.toR at e
      split at e <;> first | cases e | skip
      all_goals rename_i q; cases q
    | nil =>
      cases rl
      cases e
      cases ru
      obtain ⟨_, ne, vs, kv, o, es, ep, ho, hx, hdt, _, hes, _⟩ := I.hok a _ h
      cases kv
      have ez : es.toList = [] := pairs_nil hes
      refine ⟨_, Reads.dict (kvs := []) ho hx.1 hdt (by rw [ez]; exact .nil) (by rw [ez]; exact .nil), ?_⟩
      simp only [List.append_nil, List.mem_cons, List.not_mem_nil, or_false]
      intro z
      rw [z] at ne
      simp at ne
  | scr h => cases e
  | stt => cases e
  | obj h => cases e
  | dcu _ _ _ => cases e
  | lam _ => cases e
  | clo _ _ _ _ _ _ => cases e
  | exo _ _ _ _ => cases e
  | exn _ => cases e
  | key _ => cases e
theorem RepL.reads (I : Inv X pins σ H s) (sy : sysB X.K = true) : ∀ {ws : List W} {vs : List V} {us : List Value} {ds : List PyData}, RepL X.K c H ws vs → toRs ws = some ds → Vals vs us → ∃ as, ReadsAll s.heap us ds as ∧ sysModules ∉ as := fun {ws vs us ds} r e ru => by
  cases r with
  | nil =>
    cases e
    cases ru
    exact ⟨_, ReadsAll.nil, by simp⟩
  | cons q r =>
    unfold toRs at e
    split at e
    · rename_i d ds' e1 e2
      cases e
      cases ru with
      | cons r1 r2 =>
        obtain ⟨as, g1, g2⟩ := Rep.reads I sy q e1 r1
        obtain ⟨bs, g3, g4⟩ := RepL.reads I sy r e2 r2
        refine ⟨_, ReadsAll.cons g1 g3, ?_⟩
        simp only [List.mem_append, not_or]
        exact ⟨g2, g4⟩
    · cases e
end
end
@[irreducible] def reprOkD (d : PyData) : Bool := d.showable && decide (d.depth ≤ 60) && decide (d.shown.length ≤ 16777216)
structure LamE where
  x : Str
  p : List Nat
  f : List W → T W
theorem LamOk.mono {P : Program} {w : World} {K : PySem.W.Frag} {mg : Str → Option Value} {base : Heap} {k k' : Nat} {x : Str} {p : List Nat} {f : List W → T W} (h : LamOk P w K mg base k x p f) (hk : k ≤ k') : LamOk P w K mg base k' x p f := by
  obtain ⟨l, N, fb, h1, h2, h3, h4⟩ := h
  exact ⟨l, N, fb, h1, h2, h3, fun Γ A outer s H E f c' cl hg hr => h4 Γ A outer s H E f c' cl hg (hr.mono hk)⟩
end PF
namespace PF
open PySem PySem.Spec PyProof.Rows L2
end PF
namespace PF
open PySem PySem.Spec PyProof.Rows L2
section
variable {K : PySem.W.Frag} {c : Cc} {d : Dw} {oa : Nat → Addr} {ρ : En} {σ : L2.St} {H H' : Hp} {D : Addr}
theorem Step.backN {c1 : Cc} {d' : Dw} (st : SG c c1 H H') (so : StOk c1 d' H') (n : H' D = none) : H D = none := by
  cases h : H D with
  | none => rfl
  | some o =>
    have h1 : D ≠ c.S := fun z => by
      obtain ⟨kvs, q⟩ := so.S
      rw [st.g.S, ← z, n] at q
      cases q
    have h2 : D ≠ c.la := fun z => by
      obtain ⟨xs, q⟩ := so.la
      rw [st.g.la, ← z, n] at q
      cases q
    obtain ⟨o', q⟩ := st.st.there h h1 h2
    rw [n] at q
    cases q
theorem Gr.more {c c1 : Cc} (g : Gr c c1) (D : Addr) : Gr (c.more D) (c1.more D) := ⟨g.S, g.ca, g.la, congrArg (D :: ·) g.A, g.M, g.T, g.C, g.KK, g.O⟩
/-- what is wanted of a list that is made anew -/
def PQF (K : PySem.W.Frag) (c : Cc) (H : Hp) (Q : VK) : Dw → W → Prop := fun d w => ∀ ⦃cm : Cc⦄ D acc us H', w = .lst acc → H D = none → Gr (c.more D) cm → Step c H H' → StOk cm d H' → H' D = some (.lst us) → RepL K cm H' acc us → Q (.ref D) H'
theorem PQF.later {c1 : Cc} {d' : Dw} {Q : VK} {w : W} {H1 : Hp} {d0 d1 : Dw} (st : SG c c1 H H1) (s0 : StOk c d0 H) (s1 : StOk c1 d1 H1) (h : PQF K c H Q d' w) : PQF K c1 H1 Q d' w := fun cm D acc us H' e n g s o hD r => h D acc us H' e (Step.backN st s1 n) ((st.g.more D).trans g) (st.st.trans (s.gr st.g)) o hD r
theorem own_ne {oa : Nat → Addr} {j : Nat} {xs : List W} (e : EnvOk K Γ c d oa ρ σ H) (n : D ∉ c.M) (h : ρ[j]? = some (.own xs)) : oa j ≠ D := fun z => n (z ▸ (e.own j xs h).1)
theorem new_notM (e : EnvOk K Γ c d oa ρ σ H) (n : H D = none) : D ∉ c.M := fun h => by
  obtain ⟨o, q, _⟩ := e.m.ls D h
  rw [n] at q
  cases q
end
section
variable {X : Cx} {E : WX} {elt tg iter : Expr} {ifs : List Expr} {scope : Scope} {own : List (Str × Nat)} {pos : Pos} {fi : En → T (List W)} {ns : List Nat} {G : W → En → Option En} {tt : En → T Bool} {fe : En → T W}
theorem comp_okF (hs : ∀ i ∈ ns, i ∈ own.map (·.2)) : ∀ σ H Q, (∃ c d oa ρ, EnvOk X.K Γ c d oa ρ σ H ∧ (fComp (own.map (·.2)) fi G tt fe ρ).AllW (PQF X.K c H Q) (PX X.K c H fun cls dx H' => E cls dx σ H') d) → tLc (liftI X.K Γ E fi) (liftG X.K Γ ns G) (liftB X.K Γ noW tt) (liftE X.K Γ noW fe) (own.map (·.2)) σ H Q := fun σ H Q h => by
  obtain ⟨c, d, oa, ρ, e, h⟩ := h
  refine ⟨c, d, oa, ρ, e, T.AllW.imp (fun d1 ws hx => ?_) (fun _ _ _ y => y) (T.allW_bind.mp h)⟩
  intro c1 J H1 st1 so1 jo D nD
  have e1 := e.step st1 so1
  obtain ⟨hz, hx⟩ := T.AllW.ite hx
  have hz := sizeOk_of hz
  generalize hvs : own.map (·.2) = vs at hs hx
  have hx : ((compL G tt fe (wipeE ρ vs) ws).bind fun xs => T.ok (W.lst xs)).AllW (PQF X.K c1 H1 Q) (PX X.K c1 H1 fun cls dx H' => E cls dx σ H') d1 := T.AllW.imp (fun _ _ y => y.later st1 e.st so1) (fun _ _ _ y => y.later st1) hx
  -- the turn's word
  refine ⟨fun i m H' => m = ws.length - i ∧ ∃ cm d' acc us, Gr (c1.more D) cm ∧ Step c1 H1 H' ∧ EnvOk X.K Γ cm d' oa (wipeE ρ vs) (wipe σ vs) H' ∧ H' D = some (.lst us) ∧ RepL X.K cm H' acc us ∧ us.length ≤ i ∧
    ((compL G tt fe (wipeE ρ vs) (ws.drop i)).bind fun xs => T.ok (W.lst (acc ++ xs))).AllW (PQF X.K c1 H1 Q) (PX X.K c1 H1 fun cls dx H' => E cls dx σ H') d',
    ⟨_, rfl, _, d1, [], [], .refl _, .new nD, (e1.more nD).wipe vs, upd_same, .nil, Nat.le_refl _, hx⟩, ?_⟩
  rintro i m H' ⟨rfl, cm, d', acc, us, gm, st', e', hD, ra, hl, h'⟩
  have fw : Fwd X.K c1 H1 cm H' := (Fwd.more nD st' e1.wd).gr gm
  obtain ⟨ji, js⟩ := jo cm H' d' i fw e'.wd
  have nst : D ∉ [cm.S, cm.ca, cm.la] := by
    rw [gm.S, gm.ca, gm.la]
    obtain ⟨⟨cells, lefts, k, r, h1, h2, h3, _⟩, _⟩ := so1
    simp only [List.mem_cons, not_or, List.not_mem_nil, not_false_eq_true, and_true]
    exact ⟨Ne.symm (ne_of_none h1 nD), Ne.symm (ne_of_none h2 nD), Ne.symm (ne_of_none h3 nD)⟩
  have inA : ∀ {ck : Cc}, Gr cm ck → D ∈ ck.A := fun g => by
    rw [g.A, gm.A]
    exact List.mem_cons_self ..
  have nstg : ∀ {ck : Cc}, Gr cm ck → D ∉ [ck.S, ck.ca, ck.la] := fun g => by
    rw [g.S, g.ca, g.la]
    exact nst
  have ho : ∀ (j : Nat) (xs : List W), (wipeE ρ vs)[j]? = some (.own xs) → oa j ≠ D := fun j xs hj => by
    obtain ⟨_, _, zs, h4, _⟩ := e1.own j xs (wipeE_own hj)
    exact ne_of_none h4 nD
  have c1m : ∀ {Ha Hb : Hp} {ck ck' : Cc}, Gr cm ck → SG ck ck' Ha Hb → Step c1 Ha Hb := fun g st => Step.to st.st (g.S.trans gm.S) (g.la.trans gm.la)
  by_cases hi : i < ws.length
  · have hw : ws[i]? = some ws[i] := List.getElem?_eq_getElem hi
    rw [List.drop_eq_getElem_cons hi] at h'
    obtain ⟨jg, jy⟩ := ji _ hw
    refine .inr ⟨jg, fun H2 => ∃ cm d' acc us, Gr (c1.more D) cm ∧ Step c1 H1 H2 ∧ EnvOk X.K Γ cm d' oa (wipeE ρ vs) (wipe σ vs) H2 ∧ H2 D = some (.lst us) ∧ RepL X.K cm H2 acc us ∧ us.length ≤ i + 1 ∧
      ((compL G tt fe (wipeE ρ vs) (ws.drop (i + 1))).bind fun xs => T.ok (W.lst (acc ++ xs))).AllW (PQF X.K c1 H1 Q) (PX X.K c1 H1 fun cls dx H' => E cls dx σ H') d', fun H2 h2 => ⟨ws.length - (i + 1), by omega, rfl, h2⟩, fun x H2 y => ?_⟩
    obtain ⟨st2, so2, rx⟩ := jy x H2 y
    have e2 := e'.step st2 so2
    have keep : ∀ {Ha Hb : Hp} {ck ck' : Cc}, Gr cm ck → SG ck ck' Ha Hb → ∀ {us}, Ha D = some (.lst us) → Hb D = some (.lst us) := fun g st us h => by
      have n0 := nstg g
      simp only [List.mem_cons, not_or] at n0
      exact st.st.keep _ _ h n0.1 n0.2.2.1 nofun
    unfold compL at h'
    cases g : G ws[i] (wipeE ρ vs) with
    | none =>
      rw [g] at h'
      exact h'.elim
    | some ρ1 =>
      rw [g] at h'
      refine ⟨cm, d', oa, wipeE ρ vs, ws[i], ρ1, e2, rx, g, fun σ3 b3 e3 => ⟨wipe_but b3 hs, cm, d', oa, ρ1, e3, ?_⟩⟩
      refine noX_all (T.AllW.imp (fun d4 b hb => ?_) (fun _ _ _ y => y) (T.allW_bind.mp (T.allW_bind.mp h')))
      intro c4 H4 st4 so4
      have e4 := e3.step st4 so4
      have e4' := e2.step st4 so4
      have hD4 := keep st4.g (.refl c4 H4) (keep (.refl cm) st4 (keep (.refl cm) st2 hD))
      have ra4 := (ra.step st2 e'.st e'.ok).step st4 e2.st e2.ok
      have stt4 : Step c1 H1 H4 := st'.trans ((c1m (.refl cm) st2).trans (c1m (.refl cm) st4))
      cases b with
      | false => exact iteF ⟨c4, d4, acc, us, gm.trans st4.g, stt4, e4', hD4, ra4, Nat.le_succ_of_le hl, T.allW_bind.mpr (show (compL G tt fe (wipeE ρ vs) (ws.drop (i + 1))).AllW _ _ d4 from hb)⟩
      | true =>
        refine iteT ⟨c4, d4, oa, ρ1, e4, ?_⟩
        refine noX_all (T.AllW.imp (fun d5 w5 h5 => ?_) (fun _ _ _ y => y) (T.allW_bind.mp (show ((noX (fe ρ1)).bind fun x => (compL G tt fe (wipeE ρ vs) (ws.drop (i + 1))).bind fun xs => .ok (x :: xs)).AllW _ _ d4 from hb)))
        intro c5 v5 H5 st5 so5 r5
        have e5 := e4'.step st5 so5
        have g5 := st4.g.trans st5.g
        have hD5 := keep st4.g st5 hD4
        have ra5 := ra4.step st5 e4'.st e4'.ok
        refine ⟨us, hD5, by omega, c5, d5, acc ++ [w5], us ++ [v5], gm.trans g5, (stt4.trans (c1m st4.g st5)).past nD, e5.upd (inA g5) (nstg g5) hD5 ho, upd_same, ?_, by rw [List.length_append]; exact Nat.succ_le_succ hl, ?_⟩
        · exact (ra5.append (.cons r5 .nil)).upd (inA g5) hD5 (fun _ z => by cases z) (fun _ _ z => by cases z)
        · have h6 := T.allW_bind.mp h5
          refine T.allW_bind.mpr (T.AllW.imp (fun d6 xs h7 => ?_) (fun _ _ _ y => y) h6)
          have e7 : acc ++ [w5] ++ xs = acc ++ w5 :: xs := by simp
          rw [e7]
          exact h7
  · rw [List.drop_eq_nil_of_le (by omega)] at h'
    refine .inl ⟨js (by omega), ?_⟩
    have h8 : PQF X.K c1 H1 Q d' (.lst (acc ++ [])) := h'
    rw [List.append_nil] at h8
    exact h8 D acc us H' rfl nD gm st' e'.st hD ra
end
def sOwnE (i : Nat) (f : En → T W) : En → T (Fl × En) := fun ρ => (f ρ).bind fun w => match w with
  | .lst ws => .ok (.nx, ρ.set i (.own ws))
  | _ => .bad
section
variable {K : PySem.W.Frag} {c : Cc} {d : Dw} {oa : Nat → Addr} {ρ : En} {σ : L2.St} {H H' : Hp} {D : Addr}
theorem Step.mineL {us : List V} (st : Step c H H') (n : H D = none) (hD : H' D = some (.lst us)) : Step (c.mine D) (upd H D (.lst us)) H' := ⟨fun b o hb h1 h2 nt => by
    rcases Decidable.em (b = D) with z | z
    · subst z
      rw [upd_same] at hb
      rw [← hb]
      exact hD
    · rw [upd_ne z] at hb
      exact st.keep b o hb h1 h2 nt, fun b ps hb => by
    rcases Decidable.em (b = D) with z | z
    · subst z
      rw [upd_same] at hb
      cases hb
    · rw [upd_ne z] at hb
      exact st.tbl b ps hb, fun b C dx fs hb => by
    rcases Decidable.em (b = D) with z | z
    · subst z
      rw [upd_same] at hb
      cases hb
    · rw [upd_ne z] at hb
      exact st.ins b C dx fs hb⟩
/-- D is one of the frame's own -/
abbrev Cc.hold (c : Cc) (D : Addr) : Cc := { c with M := D :: c.M }
theorem Gr.hold {c c1 : Cc} (g : Gr c c1) (D : Addr) : Gr (c.hold D) (c1.hold D) := ⟨g.S, g.ca, g.la, g.A, congrArg (D :: ·) g.M, g.T, g.C, g.KK, g.O⟩
theorem SG.hold {c c1 : Cc} {H H' : Hp} (g : SG c c1 H H') (D : Addr) : SG (c.hold D) (c1.hold D) H H' := ⟨g.g.hold D, Step.to g.st rfl rfl⟩
theorem StOk.hold {c : Cc} {d : Dw} {H : Hp} (s : StOk c d H) (D : Addr) : StOk (c.hold D) d H := s.weak rfl rfl rfl rfl rfl rfl rfl (fun _ h => h) ⟨s.2.ok.inS, s.2.ok.inla, s.2.ok.inca⟩
theorem StOk.drop {c : Cc} {D : Addr} {d : Dw} {H : Hp} (s : StOk (c.hold D) d H) : StOk c d H := s.weak rfl rfl rfl rfl rfl rfl rfl (fun _ h => h) ⟨s.2.ok.inS, s.2.ok.inla, s.2.ok.inca⟩
theorem Gr.unhold {c c1 : Cc} {D : Addr} (g : Gr (c.hold D) c1) : ∃ c2 : Cc, c1 = c2.hold D ∧ Gr c c2 := ⟨{ c1 with M := c.M }, by
  have := g.M
  cases c1
  simp only at this
  rw [this], g.S, g.ca, g.la, g.A, rfl, g.T, g.C, g.KK, g.O⟩
theorem EnvOk.adopt {i : Nat} {cm : Cc} {d' : Dw} {acc : List W} {us : List V} (e : EnvOk K Γ c d oa ρ σ H) (n : H D = none) (g : Gr (c.more D) cm) (st : Step c H H') (so : StOk cm d' H') (hD : H' D = some (.lst us)) (ra : RepL K cm H' acc us) :
    Fwd K c H (cm.hold D) H' ∧ EnvOk K Γ (cm.hold D) d' (fun j => if j = i then D else oa j) (ρ.set i (.own acc)) (σ.set i (some (.ref D))) H' := by
  have e1 : EnvOk K Γ (c.mine D) d oa ρ σ (L2.upd H D (.lst us)) := e.mine n
  have st1 : SG (c.mine D) (cm.hold D) (L2.upd H D (.lst us)) H' := ⟨g.hold D, st.mineL n hD⟩
  have so1 : StOk (cm.hold D) d' H' := so.hold D
  have e2 := e1.step st1 so1
  have ra : RepL K (cm.hold D) H' acc us := RepL.weak (c := cm.hold D) (c1 := cm) rfl rfl (fun _ h => h) ra
  refine ⟨(Fwd.mine n e.wd).trans (Fwd.of st1 e1.wd), e2.ownSet (List.mem_cons_self ..) hD ra fun j us _ h => own_ne e (new_notM e n) h⟩
end
section
variable {X : Cx} {E : XK} {elt tg iter : Expr} {ifs : List Expr} {scope : Scope} {own : List (Str × Nat)} {pos spos py : Pos} {fi : En → T (List W)} {ns : List Nat} {G : W → En → Option En} {tt : En → T Bool} {fe : En → T W}
theorem ownE_q {c : Cc} {d : Dw} {oa : Nat → Addr} {ρ : En} {σ : L2.St} {H : Hp} {D : Ends} {i : Nat} {f : En → T W} (e : EnvOk X.K Γ c d oa ρ σ H) (q : (sOwnE i f ρ).AllW (PSq X.K Γ c H D) (PXs X.K c H E) d) :
    (f ρ).AllW (PQF X.K c H fun x H1 => gName i x σ H1 D.nx) (PX X.K c H fun cls dx H' => wOf E cls dx σ H') d := by
  refine T.AllW.imp (fun d1 w hw => ?_) (fun _ _ _ x => x.toX e.wd) (T.allW_bind.mp q)
  intro cm D0 acc us H' ew n g st so hD ra
  subst ew
  obtain ⟨fw, e2⟩ := e.adopt (i := i) n g st so hD ra
  exact (show PSq X.K Γ c H D d1 (.nx, ρ.set i (.own acc)) from hw) _ _ _ _ fw e2
theorem tr_ownLc {i : Nat} {y : Str} (hc : X.calm = true) (hN : X.N.Nodup) (hy : X.N[i]? = some y) (hyl : X.env.scope.names.lookup y = some .local) (hsw : swapsWith (.ListComp elt [⟨tg, iter, ifs, 0⟩] scope pos) (some (.Name y py)) spos.line X.env = pure true)
    (hi : TrI Γ X (wOf E) tg iter fi) (ok : BlkOk X.N X.env.scope scope own) (hs : ∀ i ∈ ns, i ∈ own.map (·.2))
    (hg : ∀ (s : Shared) (H : Hp) (C : Addr) (cl : List (Str × Addr)) (fp : List Addr), TrG Γ (X.blk s H scope (compEnvC scope cl C X.env) fp) tg ns G) (ht : ∀ (s : Shared) (H : Hp) (C : Addr) (cl : List (Str × Addr)) (fp : List Addr), TrTs Γ (X.blk s H scope (compEnvC scope cl C X.env) fp) ifs tt)
    (he : ∀ (s : Shared) (H : Hp) (C : Addr) (cl : List (Str × Addr)) (fp : List Addr), TrE Γ (X.blk s H scope (compEnvC scope cl C X.env) fp) noW elt fe) (hf : ∀ x, foldedSetIterable iter X.env x = pure x := by intro _; rfl) :
    TrS Γ X E (.Assign [.Name y py] (.ListComp elt [⟨tg, iter, ifs, 0⟩] scope pos) spos) (sOwnE i (fComp (own.map (·.2)) fi G tt fe)) := ps_imp (ps_setLc (g := liftG X.K Γ ns G) (tt := liftB X.K Γ noW tt) (te := liftE X.K Γ noW fe) hc hN hy hyl hsw hi ok hg ht he hf) fun D σ H q => by
  obtain ⟨c, d, oa, ρ, e, q⟩ := q
  exact comp_okF (E := wOf E) hs σ H _ ⟨c, d, oa, ρ, e, ownE_q e q⟩
end
theorem EnvOk.hold {K : PySem.W.Frag} {c : Cc} {d : Dw} {oa : Nat → Addr} {ρ : En} {σ : L2.St} {H : Hp} {D : Addr} {us : List V} (e : EnvOk K Γ c d oa ρ σ H) (hA : D ∈ c.A) (nst : D ∉ [c.S, c.ca, c.la]) (hD : H D = some (.lst us)) : EnvOk K Γ (c.hold D) d oa ρ σ H where
  ok := ⟨e.ok.inS, e.ok.inla, e.ok.inca⟩
  st := e.st.hold D
  av := e.av
  len := e.len
  val := fun i w h => by
    obtain ⟨v, h1, h2⟩ := e.val i w h
    exact ⟨v, h1, Rep.weak (c := c.hold D) (c1 := c) rfl rfl (fun _ h => h) h2⟩
  m := ⟨fun b hb => by
      rcases List.mem_cons.mp hb with rfl | hb
      · exact hA
      · exact e.m.inA b hb, fun b hb => by
      rcases List.mem_cons.mp hb with rfl | hb
      · exact nst
      · exact e.m.nst b hb, fun b hb => by
      rcases List.mem_cons.mp hb with rfl | hb
      · exact ⟨_, hD, .inl ⟨_, rfl⟩⟩
      · exact e.m.ls b hb⟩
  own := fun i ws h => by
    obtain ⟨h1, h3, vs, h4, h5⟩ := e.own i ws h
    exact ⟨List.mem_cons_of_mem _ h1, h3, vs, h4, RepL.weak (c := c.hold D) (c1 := c) rfl rfl (fun _ h => h) h5⟩
  inj := e.inj
  odc := fun i ws h => by
    obtain ⟨h1, h3, vs, h4, h5⟩ := e.odc i ws h
    exact ⟨List.mem_cons_of_mem _ h1, h3, vs, h4, h5.1, RepL.weak (c := c.hold D) (c1 := c) rfl rfl (fun _ h => h) h5.2⟩
  ido := e.ido
  odt := fun i ws h => by
    obtain ⟨h1, h3, vs, h4, h5⟩ := e.odt i ws h
    exact ⟨List.mem_cons_of_mem _ h1, h3, vs, h4, h5.1, RepL.weak (c := c.hold D) (c1 := c) rfl rfl (fun _ h => h) h5.2⟩
  idt := e.idt
  tT := e.tT
  cC := e.cC
  kK := e.kK
def compL2 (G : W → En → Option En) (tt : En → T Bool) (vs1 : List Nat) (fi1 : En → T (List W)) (G1 : W → En → Option En) (tt1 : En → T Bool) (fe : En → T W) (ρ : En) : List W → List W → T (List W)
  | acc, [] => .ok acc
  | acc, w :: ws => match G w ρ with
    | none => .bad
    | some ρ1 => (noX (tt ρ1)).bind fun b => if b then (noX (fi1 ρ1)).bind fun ws1 => if sz2 acc.length ws1.length then (compL G1 tt1 fe (wipeE ρ1 vs1) ws1).bind fun xs => compL2 G tt vs1 fi1 G1 tt1 fe ρ (acc ++ xs) ws else .bad
      else compL2 G tt vs1 fi1 G1 tt1 fe ρ acc ws
def fComp2 (vs : List Nat) (fi : En → T (List W)) (G : W → En → Option En) (tt : En → T Bool) (vs1 : List Nat) (fi1 : En → T (List W)) (G1 : W → En → Option En) (tt1 : En → T Bool) (fe : En → T W) : En → T W := fun ρ => (fi ρ).bind fun ws => (compL2 G tt vs1 fi1 G1 tt1 fe (wipeE ρ vs) [] ws).bind fun xs => .ok (.lst xs)
section
variable {X : Cx} {E : WX} {elt tg iter tg1 iter1 : Expr} {ifs ifs1 : List Expr} {scope : Scope} {own : List (Str × Nat)} {vs1 : List Nat} {pos : Pos} {fi fi1 : En → T (List W)} {ns ns1 : List Nat} {G G1 : W → En → Option En} {tt tt1 : En → T Bool} {fe : En → T W}
theorem comp2_ok (hs : ∀ i ∈ ns, i ∈ own.map (·.2)) (hs1 : ∀ i ∈ ns1, i ∈ vs1) : ∀ σ H Q, liftE X.K Γ E (fComp2 (own.map (·.2)) fi G tt vs1 fi1 G1 tt1 fe) σ H Q →
    tLc2 (liftI X.K Γ E fi) (liftG X.K Γ ns G) (liftB X.K Γ noW tt) (liftI X.K Γ noW fi1) (liftG X.K Γ ns1 G1) (liftB X.K Γ noW tt1) (liftE X.K Γ noW fe) (own.map (·.2)) vs1 σ H Q := fun σ H Q h => by
  obtain ⟨c, d, oa, ρ, e, h⟩ := h
  refine ⟨c, d, oa, ρ, e, T.AllW.imp (fun d1 ws hx => ?_) (fun _ _ _ y => y) (T.allW_bind.mp h)⟩
  intro c1 J H1 st1 so1 jo D nD
  have e1 := e.step st1 so1
  generalize hvs : own.map (·.2) = vs at hs hx
  have hx : ((compL2 G tt vs1 fi1 G1 tt1 fe (wipeE ρ vs) [] ws).bind fun xs => T.ok (W.lst xs)).AllW (PQ X.K c1 H1 Q) (PX X.K c1 H1 fun cls dx H' => E cls dx σ H') d1 := T.AllW.imp (fun _ _ y => y.later st1) (fun _ _ _ y => y.later st1) hx
  refine ⟨fun i m H' => m = ws.length - i ∧ ∃ cm d' acc us, Gr (c1.more D) cm ∧ Step c1 H1 H' ∧ EnvOk X.K Γ cm d' oa (wipeE ρ vs) (wipe σ vs) H' ∧ H' D = some (.lst us) ∧ RepL X.K cm H' acc us ∧
    ((compL2 G tt vs1 fi1 G1 tt1 fe (wipeE ρ vs) acc (ws.drop i)).bind fun xs => T.ok (W.lst xs)).AllW (PQ X.K c1 H1 Q) (PX X.K c1 H1 fun cls dx H' => E cls dx σ H') d',
    ⟨_, rfl, _, d1, [], [], .refl _, .new nD, (e1.more nD).wipe vs, upd_same, .nil, hx⟩, ?_⟩
  rintro i m H' ⟨rfl, cm, d', acc, us, gm, st', e', hD, ra, h'⟩
  have fw : Fwd X.K c1 H1 cm H' := (Fwd.more nD st' e1.wd).gr gm
  obtain ⟨ji, js⟩ := jo cm H' d' i fw e'.wd
  have nst : ∀ {ck : Cc}, Gr (c1.more D) ck → D ∉ [ck.S, ck.ca, ck.la] := fun g => by
    rw [g.S, g.ca, g.la]
    exact st_ne (c := c1) so1 nD
  have inA : ∀ {ck : Cc}, Gr (c1.more D) ck → D ∈ ck.A := fun g => by
    rw [g.A]
    exact List.mem_cons_self ..
  have nM : ∀ {ck : Cc}, Gr (c1.more D) ck → D ∉ ck.M := fun g => by
    rw [g.M]
    exact new_notM (c := c1) e1 nD
  have keep : ∀ {Ha Hb : Hp} {ck ck' : Cc}, Gr (c1.more D) ck → SG ck ck' Ha Hb → ∀ {us}, Ha D = some (.lst us) → Hb D = some (.lst us) := fun g st us h => by
    have n0 := nst g
    simp only [List.mem_cons, not_or] at n0
    exact st.st.keep _ _ h n0.1 n0.2.2.1 nofun
  have c1m : ∀ {Ha Hb : Hp} {ck ck' : Cc}, Gr (c1.more D) ck → SG ck ck' Ha Hb → Step c1 Ha Hb := fun g st => Step.to st.st g.S g.la
  by_cases hi : i < ws.length
  · have hw : ws[i]? = some ws[i] := List.getElem?_eq_getElem hi
    rw [List.drop_eq_getElem_cons hi] at h'
    obtain ⟨jg, jy⟩ := ji _ hw
    refine .inr ⟨jg, fun H2 => ∃ cm d' acc us, Gr (c1.more D) cm ∧ Step c1 H1 H2 ∧ EnvOk X.K Γ cm d' oa (wipeE ρ vs) (wipe σ vs) H2 ∧ H2 D = some (.lst us) ∧ RepL X.K cm H2 acc us ∧
      ((compL2 G tt vs1 fi1 G1 tt1 fe (wipeE ρ vs) acc (ws.drop (i + 1))).bind fun xs => T.ok (W.lst xs)).AllW (PQ X.K c1 H1 Q) (PX X.K c1 H1 fun cls dx H' => E cls dx σ H') d', fun H2 h2 => ⟨ws.length - (i + 1), by omega, rfl, h2⟩, fun x H2 y => ?_⟩
    obtain ⟨st2, so2, rx⟩ := jy x H2 y
    have e2 := e'.step st2 so2
    unfold compL2 at h'
    cases g : G ws[i] (wipeE ρ vs) with
    | none =>
      rw [g] at h'
      exact h'.elim
    | some ρ1 =>
      rw [g] at h'
      refine ⟨cm, d', oa, wipeE ρ vs, ws[i], ρ1, e2, rx, g, fun σ3 b3 e3 => ⟨wipe_but b3 hs, cm, d', oa, ρ1, e3, ?_⟩⟩
      refine noX_all (T.AllW.imp (fun d4 b hb => ?_) (fun _ _ _ y => y) (T.allW_bind.mp (T.allW_bind.mp h')))
      intro c4 H4 st4 so4
      have g4 := gm.trans st4.g
      have e4 := e3.step st4 so4
      have e4' := e2.step st4 so4
      have hD4 := keep gm st4 (keep gm st2 hD)
      have ra4 := (ra.step st2 e'.st e'.ok).step st4 e2.st e2.ok
      have stt4 : Step c1 H1 H4 := st'.trans ((c1m gm st2).trans (c1m gm st4))
      cases b with
      | false => exact iteF ⟨c4, d4, acc, us, g4, stt4, e4', hD4, ra4, T.allW_bind.mpr hb⟩
      | true =>
        refine iteT ⟨c4.hold D, d4, oa, ρ1, e4.hold (inA g4) (nst g4) hD4, ?_⟩
        refine noX_all (T.AllW.imp (fun d5 ws1 h5 => ?_) (fun _ _ _ y => y) (T.allW_bind.mp (show ((noX (fi1 ρ1)).bind fun ws1 => if sz2 acc.length ws1.length then (compL G1 tt1 fe (wipeE ρ1 vs1) ws1).bind fun xs => compL2 G tt vs1 fi1 G1 tt1 fe (wipeE ρ vs) (acc ++ xs) (ws.drop (i + 1)) else .bad).AllW _ _ d4 from hb)))
        intro c5h J1 H5 st5 so5 jo1
        obtain ⟨c5, ec5, g45⟩ := st5.g.unhold
        subst ec5
        obtain ⟨hz1, h5⟩ := T.AllW.ite h5
        have hz1 := sz2_of hz1
        have st5 : SG c4 c5 H4 H5 := ⟨g45, Step.to st5.st rfl rfl⟩
        have so5 : StOk c5 d5 H5 := so5.drop
        have g5 := g4.trans g45
        have e5 := e4.step st5 so5
        have e5' := e4'.step st5 so5
        have hD5 := keep g4 st5 hD4
        have ra5 := ra4.step st5 e4'.st e4'.ok
        have stt5 : Step c1 H1 H5 := stt4.trans (c1m g4 st5)
        have hul : us.length = acc.length := ra.length.symm
        refine ⟨fun j k H' => k = ws1.length - j ∧ ∃ cj d' accu us', Gr (c1.more D) cj ∧ Step c1 H1 H' ∧ Fwd X.K (c5.hold D) H5 (cj.hold D) H' ∧ EnvOk X.K Γ cj d' oa ρ1 σ3 H' ∧ EnvOk X.K Γ cj d' oa (wipeE ρ vs) (wipe σ vs) H' ∧ H' D = some (.lst us') ∧ RepL X.K cj H' accu us' ∧ us'.length ≤ us.length + j ∧
          ((compL G1 tt1 fe (wipeE ρ1 vs1) (ws1.drop j)).bind fun xs => compL2 G tt vs1 fi1 G1 tt1 fe (wipeE ρ vs) (accu ++ xs) (ws.drop (i + 1))).AllW (fun d a => (T.ok (W.lst a)).AllW (PQ X.K c1 H1 Q) (PX X.K c1 H1 fun cls dx H' => E cls dx σ H') d) (PX X.K c1 H1 fun cls dx H' => E cls dx σ H') d',
          ⟨_, rfl, c5, d5, acc, us, g5, stt5, .refl, e5, e5', hD5, ra5, Nat.le_refl _, h5⟩, ?_⟩
        rintro j k H6 ⟨rfl, cj, d6, accu, us6, gj, stt6, fw6, e6, e6', hD6, ra6, hl6, h6⟩
        have e6h := e6.hold (inA gj) (nst gj) hD6
        obtain ⟨ji1, js1⟩ := jo1 (cj.hold D) H6 d6 j fw6 e6h.wd
        by_cases hj : j < ws1.length
        · have hw1 : ws1[j]? = some ws1[j] := List.getElem?_eq_getElem hj
          rw [List.drop_eq_getElem_cons hj] at h6
          obtain ⟨jg1, jy1⟩ := ji1 _ hw1
          refine .inr ⟨jg1, fun H' => ∃ cj d' accu us', Gr (c1.more D) cj ∧ Step c1 H1 H' ∧ Fwd X.K (c5.hold D) H5 (cj.hold D) H' ∧ EnvOk X.K Γ cj d' oa ρ1 σ3 H' ∧ EnvOk X.K Γ cj d' oa (wipeE ρ vs) (wipe σ vs) H' ∧ H' D = some (.lst us') ∧ RepL X.K cj H' accu us' ∧ us'.length ≤ us.length + (j + 1) ∧
            ((compL G1 tt1 fe (wipeE ρ1 vs1) (ws1.drop (j + 1))).bind fun xs => compL2 G tt vs1 fi1 G1 tt1 fe (wipeE ρ vs) (accu ++ xs) (ws.drop (i + 1))).AllW (fun d a => (T.ok (W.lst a)).AllW (PQ X.K c1 H1 Q) (PX X.K c1 H1 fun cls dx H' => E cls dx σ H') d) (PX X.K c1 H1 fun cls dx H' => E cls dx σ H') d', fun H2 h2 => ⟨ws1.length - (j + 1), by omega, rfl, h2⟩, fun x1 H7 y1 => ?_⟩
          obtain ⟨st7, so7, rx7⟩ := jy1 x1 H7 y1
          have st7 : SG cj cj H6 H7 := .of (Step.to st7.st rfl rfl)
          have so7 : StOk cj d6 H7 := so7.drop
          have rx7 : Rep X.K cj H7 ws1[j] x1 := Rep.weak (c := cj) (c1 := cj.hold D) rfl rfl (fun _ h => h) rx7
          have e7 := e6.step st7 so7
          have e7' := e6'.step st7 so7
          unfold compL at h6
          have e7w := e7.wipe vs1
          cases g1 : G1 ws1[j] (wipeE ρ1 vs1) with
          | none =>
            rw [g1] at h6
            exact h6.elim
          | some ρ2 =>
            rw [g1] at h6
            refine ⟨cj, d6, oa, wipeE ρ1 vs1, ws1[j], ρ2, e7w, rx7, g1, fun σ8 b8 e8 => ⟨wipe_but b8 hs1, cj, d6, oa, ρ2, e8, ?_⟩⟩
            refine noX_all (T.AllW.imp (fun d9 b9 hb9 => ?_) (fun _ _ _ y => y) (T.allW_bind.mp (T.allW_bind.mp h6)))
            intro c9 H9 st9 so9
            have g9 := gj.trans st9.g
            have e9 := e8.step st9 so9
            have st79 : SG cj c9 H6 H9 := st7.trans st9
            have e9a := e7.step st9 so9
            have e9' := e7'.step st9 so9
            have hD9 := keep gj st79 hD6
            have ra9 := ra6.step st79 e6.st e6.ok
            have stt9 : Step c1 H1 H9 := stt6.trans (c1m gj st79)
            have fw9 := fw6.trans (.of (st79.hold D) e6h.wd)
            cases b9 with
            | false => exact iteF ⟨c9, d9, accu, us6, g9, stt9, fw9, e9a, e9', hD9, ra9, by omega, T.allW_bind.mpr (show (compL G1 tt1 fe (wipeE ρ1 vs1) (ws1.drop (j + 1))).AllW _ _ d9 from hb9)⟩
            | true =>
              refine iteT ⟨c9, d9, oa, ρ2, e9, ?_⟩
              refine noX_all (T.AllW.imp (fun da wa ha => ?_) (fun _ _ _ y => y) (T.allW_bind.mp (show ((noX (fe ρ2)).bind fun x => (compL G1 tt1 fe (wipeE ρ1 vs1) (ws1.drop (j + 1))).bind fun xs => .ok (x :: xs)).AllW _ _ d9 from hb9)))
              intro ck va Ha sta soa rra
              have ga := g9.trans sta.g
              have ea := e9a.step sta soa
              have ea' := e9'.step sta soa
              have hDa := keep g9 sta hD9
              have raa := ra9.step sta e9a.st e9a.ok
              have sttA : Step c1 H1 Ha := stt9.trans (c1m g9 sta)
              have hoa : ∀ {ρx : En} {σx : L2.St}, EnvOk X.K Γ ck da oa ρx σx Ha → ∀ (q : Nat) (xs : List W), ρx[q]? = some (.own xs) → oa q ≠ D := fun ex q xs hq => own_ne ex (nM ga) hq
              have e9h := e9a.hold (inA g9) (nst g9) hD9
              have fwA : Fwd X.K (c5.hold D) H5 (ck.hold D) Ha := fw9.trans (.of (sta.hold D) e9h.wd)
              have fwU : Fwd X.K (ck.hold D) Ha (ck.hold D) (upd Ha D (.lst (us6 ++ [va]))) := ⟨rfl, rfl, rfl, rfl, rfl, rfl, List.prefix_rfl, fun _ h _ => h, fun _ h => .inl h, fun b o h h1 h2 h3 _ => by rw [upd_ne (fun z => h3 (by rw [z]; exact List.mem_cons_self ..))]; exact h, fun b ps h h3 => ⟨#[], by rw [upd_ne (fun z => h3 (by rw [z]; exact List.mem_cons_self ..)), h]; simp⟩, fun w v r => Rep.upd (c := ck.hold D) (inA (ck := ck) ga) hDa (fun _ z => by cases z) (fun _ _ z => by cases z) ⟨nofun, nofun⟩ r, fun a vs h => sqT_upd hDa (fun _ z => by cases z) (fun _ _ z => by cases z) h, fun b C dx fs h _ => ⟨fs, by rw [upd_ne (ne_of h hDa nofun)]; exact h⟩⟩
              refine ⟨us6, hDa, by rw [sizeLine_eq]; omega, ck, da, accu ++ [wa], us6 ++ [va], ga, sttA.past nD, fwA.trans fwU, ea.upd (inA ga) (nst ga) hDa (hoa ea), ea'.upd (inA ga) (nst ga) hDa (hoa ea'), upd_same, ?_, by rw [List.length_append]; simp only [List.length_cons, List.length_nil]; omega, ?_⟩
              · exact (raa.append (.cons rra .nil)).upd (inA ga) hDa (fun _ z => by cases z) (fun _ _ z => by cases z)
              · have h6 := T.allW_bind.mp ha
                refine T.allW_bind.mpr (T.AllW.imp (fun d6 xs h7 => ?_) (fun _ _ _ y => y) h6)
                have e7 : accu ++ [wa] ++ xs = accu ++ wa :: xs := by simp
                rw [e7]
                exact h7
        · rw [List.drop_eq_nil_of_le (by omega)] at h6
          refine .inl ⟨js1 (by omega), cj, d6, accu, us6, gj, stt6, e6', hD6, ra6, ?_⟩
          have h8 : (compL2 G tt vs1 fi1 G1 tt1 fe (wipeE ρ vs) (accu ++ []) (ws.drop (i + 1))).AllW (fun d a => (T.ok (W.lst a)).AllW (PQ X.K c1 H1 Q) (PX X.K c1 H1 fun cls dx H' => E cls dx σ H') d) (PX X.K c1 H1 fun cls dx H' => E cls dx σ H') d6 := h6
          rw [List.append_nil] at h8
          exact T.allW_bind.mpr h8
  · rw [List.drop_eq_nil_of_le (by omega)] at h'
    refine .inl ⟨js (by omega), ?_⟩
    have h8 : PQ X.K c1 H1 Q d' (.lst acc) := h'
    refine h8 _ H' ⟨gm.back, st'⟩ (e'.st.back gm e1.ok) (.lst (c := { cm with A := c1.A }) (e1.wd.fresh nD) hD ?_)
    exact RepL.weak (c := { cm with A := c1.A }) (c1 := cm) rfl rfl (fun b hb => by rw [gm.A]; exact List.mem_cons_of_mem _ hb) ra
theorem tr_lc2 (hc : X.calm = true) (hN : X.N.Nodup) (hi : TrI Γ X E tg iter fi) (ok : BlkOk X.N X.env.scope scope own) (hv : ∀ i ∈ vs1, i ∈ own.map (·.2)) (hs : ∀ i ∈ ns, i ∈ own.map (·.2)) (hs1 : ∀ i ∈ ns1, i ∈ vs1)
    (hg : ∀ (s : Shared) (H : Hp) (C : Addr) (cl : List (Str × Addr)) (fp : List Addr), TrG Γ (X.blk s H scope (compEnvC scope cl C X.env) fp) tg ns G) (ht : ∀ (s : Shared) (H : Hp) (C : Addr) (cl : List (Str × Addr)) (fp : List Addr), TrTs Γ (X.blk s H scope (compEnvC scope cl C X.env) fp) ifs tt)
    (hi1 : ∀ (s : Shared) (H : Hp) (C : Addr) (cl : List (Str × Addr)) (fp : List Addr), TrI Γ (X.blk s H scope (compEnvC scope cl C X.env) fp) noW tg1 iter1 fi1)
    (hg1 : ∀ (s : Shared) (H : Hp) (C : Addr) (cl : List (Str × Addr)) (fp : List Addr), TrG Γ (X.blk s H scope (compEnvC scope cl C X.env) fp) tg1 ns1 G1) (ht1 : ∀ (s : Shared) (H : Hp) (C : Addr) (cl : List (Str × Addr)) (fp : List Addr), TrTs Γ (X.blk s H scope (compEnvC scope cl C X.env) fp) ifs1 tt1)
    (he : ∀ (s : Shared) (H : Hp) (C : Addr) (cl : List (Str × Addr)) (fp : List Addr), TrE Γ (X.blk s H scope (compEnvC scope cl C X.env) fp) noW elt fe) (hf : ∀ x, foldedSetIterable iter X.env x = pure x := by intro _; rfl) (hf1 : ∀ env x, foldedSetIterable iter1 env x = pure x := by intro _ _; rfl) :
    TrE Γ X E (.ListComp elt [⟨tg, iter, ifs, 0⟩, ⟨tg1, iter1, ifs1, 0⟩] scope pos) (fComp2 (own.map (·.2)) fi G tt vs1 fi1 G1 tt1 fe) := pe_imp (pe_lc2 (g := liftG X.K Γ ns G) (tt := liftB X.K Γ noW tt) (wi1 := liftI X.K Γ noW fi1) (g1 := liftG X.K Γ ns1 G1) (tt1 := liftB X.K Γ noW tt1) (te := liftE X.K Γ noW fe) hc hN hi ok hv hg ht hi1 hg1 ht1 he hf hf1) (comp2_ok hs hs1)
end
end PF
namespace PF
open PySem PySem.Spec PyProof.Rows L2
def rSort1 (K : PySem.W.Frag) : List V → Hp → VK → Prop := fun vs H Q => ∃ (a : Addr) (xs : List V), vs = [V.ref a] ∧ SqL K H a xs ∧ xs.length ≤ 1 ∧ ∀ p, H p = none → Q (.ref p) (L2.upd H p (.lst xs))
theorem swo0 : SrtO.Swo fun (_ _ : Value) => false := ⟨fun _ _ h => (by cases h), fun _ _ _ _ _ => rfl⟩
section
variable {X : Cx}
theorem cr_sort1 : CallR X (.builtin "sorted") (rSort1 X.K) := by
  intro pins s σ H vs us Q I r h
  obtain ⟨a, xs, rfl, hs, hn, q⟩ := h
  obtain ⟨its, rv, hl, hz⟩ := I.list hs
  obtain ⟨u, rfl, ru⟩ := vals1 r
  obtain rfl : u = Value.ref a := ru
  have hi : its.length ≤ 1 := by rw [← rv.length]; exact hn
  refine SrtO.sorted_ord swo0 hl.isList (by rw [← rv.length]; exact hz) (fun h2 => absurd h2 (by omega)) fun out _ hb => ?_
  have e : out = its := by
    have hp := hb.perm
    cases its with
    | nil => exact hp.eq_nil
    | cons x r =>
      cases r with
      | nil => exact List.perm_singleton.mp hp
      | cons _ _ => simp at hi
  subst e
  have kp : ∀ b o, s.heap.get? b = some o → (sortedAll s.heap out out.toArray).get? b = some o := fun b o e => sortedAll_old e
  obtain ⟨n, hd⟩ := sortedAll_at s.heap out out.toArray
  exact ⟨.ref (s.heap.objs.size + 1), L2.upd H (s.heap.objs.size + 1) (.lst xs), I.laid (t' := s.toks) kp (Nat.le_succ _) ⟨hz, out, n, rv, hd⟩, rfl, q _ (I.hok.fresh (Nat.le_succ _))⟩
end
end PF
namespace PF
open PySem PySem.Spec PyProof.Rows L2 He
def obsE (as : List Addr) (fa : List Fa) (fn : List DefD) (ex : PySem.W.Frag → Bool) (g : Addr → Option Obj) : AlL := (obsD fa fn (frT g as), ex (frT g as) && tabOkB g (frT g as))
theorem saysE_of {as : List Addr} {fa : List Fa} {fn : List DefD} {ex : PySem.W.Frag → Bool} {h : Heap} (e : obsE as fa fn ex h.get? = (valD fn, true)) : SaysL fa fn ex h (frT h.get? as) := by
  have e1 : obsD fa fn (frT h.get? as) = valD fn := congrArg (fun z : AlL => z.1) e
  have e2 : (ex (frT h.get? as) && tabOkB h.get? (frT h.get? as)) = true := congrArg (fun z : AlL => z.2) e
  obtain ⟨h1, h2⟩ := Bool.and_eq_true_iff.mp e2
  unfold tabOkB at h2
  obtain ⟨h3, h4⟩ := Bool.and_eq_true_iff.mp h2
  have key : ∀ x ∈ tabC (frT h.get? as), PySem.W.codeHdIn (frT h.get? as) x.1 x.2.1 = true ∧ ∃ o, h.get? x.2.1 = some o ∧ emptyTab o = true := fun x hx => by
    obtain ⟨g1, g2⟩ := Bool.and_eq_true_iff.mp (List.all_eq_true.mp h3 x hx)
    refine ⟨g1, ?_⟩
    cases q : h.get? x.2.1 with
    | none =>
      rw [q] at g2
      cases g2
    | some o =>
      rw [q] at g2
      exact ⟨o, rfl, g2⟩
  refine ⟨e1, h1, fun x hx => (key x hx).1, fun x hx => ?_, fun x hx => ?_, apartB_ok h4⟩
  · obtain ⟨_, o, q, z⟩ := key x hx
    exact frT_none q z
  · obtain ⟨_, o, q, z⟩ := key x hx
    rw [q, emptyTab_eq z]
def hookE (as : List Addr) (fa : List Fa) (fn : List DefD) (ex : PySem.W.Frag → Bool) : PySem.W.Hook where
  α := AlL
  obs := fun s => obsE as fa fn ex s.heap.get?
  val := fun _ => (valD fn, true)
  says := fun _ h => ∃ K : PySem.W.Frag, K.In h ∧ SaysL fa fn ex h K
  of := fun _ _ e => ⟨_, frT_in, saysE_of e⟩
  keeps := fun _ _ _ ⟨K, hK, c⟩ k => ⟨K, PySem.W.Frag.In.keeps hK k, ⟨c.d, c.more, c.hd, c.out, fun x hx => k _ _ (c.empty x hx), c.apart⟩⟩
open HandSHeadRun PySem.W in
def RunV (r : OpenRow) (M : Nat) (w : World) {β : Type} (f : SharedT → β) (v : β) : Prop := ∀ os : OsState, (endF (stepQ (denQ tabQ) r.prog w) M r.prog w os).map f = some v
theorem obsD_app {fa : List Fa} {f1 f2 : List DefD} {K : PySem.W.Frag} (h1 : obsD fa f1 K = valD f1) (h2 : obsD [] f2 K = valD f2) : obsD fa (f1 ++ f2) K = valD (f1 ++ f2) := by
  unfold obsD valD at *
  injection h1 with a1 b1
  injection h2 with a2 b2
  obtain ⟨a3, a4⟩ := Bool.and_eq_true_iff.mp a1
  obtain ⟨_, a5⟩ := Bool.and_eq_true_iff.mp a2
  rw [List.map_append, List.map_append, b1, b2, List.all_append, a3, a4, a5]
  rfl
open HandSHeadRun PySem.W in
theorem run_parts {r : OpenRow} {q : Program} {M : Nat} {loose : List PySem.Str} {w : World} {as : List Addr} {fa : List Fa} {f1 f2 : List DefD} {ex : PySem.W.Frag → Bool}
    (hZ : RunV r M w (fun s => (looksF r.prog (boot_heap w.params) s.abs, seenQ q loose (importedModules r.prog.main.body) (fun s => xlAt q [] s && recOk r.toRowW.records s) s.abs)) (true, openGood q loose)) (hA : RunV r M w (fun s => obsD fa f1 (frT (getT s) as)) (valD f1))
    (hB : RunV r M w (fun s => obsD [] f2 (frT (getT s) as)) (valD f2)) (hC : RunV r M w (fun s => ex (frT (getT s) as)) true) (hD : RunV r M w (fun s => tabOkB (getT s) (frT (getT s) as)) true) :
    RunEq r q (hookE as fa (f1 ++ f2) ex) (fun s => obsE as fa (f1 ++ f2) ex (getT s)) M loose w := by
  intro os
  have z := hZ os
  have a := hA os
  have b := hB os
  have c := hC os
  have dd := hD os
  cases e : endF (stepQ (denQ tabQ) r.prog w) M r.prog w os with
  | none =>
    rw [e] at a
    cases a
  | some s =>
    rw [e] at z a b c dd
    have z := Option.some.inj z
    have a3 : obsD fa f1 (frT (getT s) as) = valD f1 := Option.some.inj a
    have b : obsD [] f2 (frT (getT s) as) = valD f2 := Option.some.inj b
    have c : ex (frT (getT s) as) = true := Option.some.inj c
    have dd : tabOkB (getT s) (frT (getT s) as) = true := Option.some.inj dd
    injection z with a1 a2
    have z : obsE as fa (f1 ++ f2) ex (getT s) = (valD (f1 ++ f2), true) := by
      unfold obsE
      rw [obsD_app a3 b, c, dd]
      rfl
    show some (_, _, obsE as fa (f1 ++ f2) ex (getT s)) = _
    rw [a1, a2, z]
    rfl
end PF
namespace PF
open PySem PySem.Spec PyProof.Rows L2
/-- class no cl is an own one, its fields are no names of it -/
structure YC (K : PySem.W.Frag) (cl : Nat) : Prop where
  c : Cls K (He.ga K (yName cl))
  n : ∀ f ∈ yFlds cl, NoAttr K (He.ga K (yName cl)) f
  some : noObj K = false
section
variable {K : PySem.W.Frag} {c : Cc} {d : Dw} {oa : Nat → Addr} {ρ : En} {σ : L2.St} {H : Hp} {i cl j : Nat} {a C dx : Addr} {fl gl : List (Str × V)}
theorem Step.put (h : H a = some (.ins C dx fl)) : Step c H (L2.upd H a (.ins C dx gl)) := ⟨fun b o e _ _ nt => by
    rw [upd_ne]
    · exact e
    · intro z
      subst z
      rw [h] at e
      cases e
      exact nt (.ins _ _ _), fun b ps e => ⟨#[], by rw [upd_ne (ne_of e h nofun), e]; simp⟩, fun b C' dx' fs e => by
    rcases Decidable.em (b = a) with z | z
    · subst z
      rw [h] at e
      cases e
      exact ⟨gl, upd_same⟩
    · exact ⟨fs, by rw [upd_ne z]; exact e⟩⟩
end
end PF
namespace PF
open PySem PySem.Spec PyProof.Rows L2
section
variable {X : Cx} {E : WX} {o e : Expr} {es : List Expr} {fo : En → T W} {fs : En → T (List W)} {pos apos : Pos} {F : List W → T W} {k cl : Nat} {ps : List Str} {m : Str} {pl : Sem Bool}
end
section
variable {K : PySem.W.Frag} {c : Cc} {d : Dw} {oa : Nat → Addr} {ρ : En} {σ : L2.St} {H : Hp} {cl : Nat} {a dx : Addr}
end
section
variable {X : Cx} {E : WX} {e : Expr} {es : List Expr} {fs : En → T (List W)} {pos p : Pos} {F : List W → T W} {k cl : Nat} {ps : List Str} {x : Str}
end
end PF
namespace PF
open PySem PySem.Spec PyProof.Rows L2
def inS (x y : W) : T W := match x, y with
  | .str a, .str z => match a.cps with
    | ⟨[c]⟩ => .ok (.bl (decide (c ∈ z.cps.toList)))
    | _ => .bad
  | _, _ => inW x y
end PF
namespace PF
open PySem PySem.Spec PyProof.Rows L2
end PF
namespace PF
open PySem PySem.Spec PyProof.Rows L2
section
variable {prog : Program} {w : World} {A : Around} {E : Value → Shared → Prop} {s : Shared} {T : String} {r d : Addr} {n : Nat} {P : Nat → Value → Prop} {OK : Heap → Prop}
end
def keyN (e : DictEntry) : Option Str := match e.key with
  | .str y _ => some y
  | _ => none
/-- the name x stands for a dict of the fragment with these text keys and values, in this order -/
structure KdAt (K : PySem.W.Frag) (w : World) (mg : Str → Option Value) (x : Str) (l : List (Str × W)) (a : Addr) (es : Array DictEntry) (n : Nat) : Prop where
  gl : mg x = some (.ref a)
  kd : KDict K w a es n
  keys : es.toList.map keyN = l.map fun q => some q.1
  vals : ∀ z v, l.lookup z = some v → ∃ u0 v0, PySem.W.nsIn K a z = some (some u0) ∧ RelV v0 u0 ∧ ∀ (c : Cc) (H : Hp), Rep K c H v v0
def keysL (l : List (Str × W)) : List Str := l.map fun q => q.1
theorem KdAt.len {K : PySem.W.Frag} {w : World} {mg : Str → Option Value} {x : Str} {l : List (Str × W)} {a : Addr} {es : Array DictEntry} {n : Nat} (D : KdAt K w mg x l a es n) : es.size = l.length := by
  have := congrArg List.length D.keys
  simpa using this
theorem KdAt.key {K : PySem.W.Frag} {w : World} {mg : Str → Option Value} {x : Str} {l : List (Str × W)} {a : Addr} {es : Array DictEntry} {n : Nat} (D : KdAt K w mg x l a es n) {i : Nat} {e : DictEntry} {y : Str} (h1 : es[i]? = some e) (h2 : (keysL l)[i]? = some y) : ∃ t, e.key = .str y t := by
  have h3 : (es.toList.map keyN)[i]? = (l.map fun q => some q.1)[i]? := by rw [D.keys]
  rw [List.getElem?_map, List.getElem?_map, Array.getElem?_toList, h1] at h3
  unfold keysL at h2
  rw [List.getElem?_map] at h2
  cases q : l[i]? with
  | none =>
    rw [q] at h2
    cases h2
  | some z =>
    rw [q] at h2 h3
    cases h2
    have h4 : keyN e = some z.1 := Option.some.inj h3
    unfold keyN at h4
    cases hk : e.key with
    | str y t =>
      rw [hk] at h4
      cases h4
      exact ⟨t, rfl⟩
    | _ =>
      rw [hk] at h4
      cases h4
end PF
namespace PF
open PySem PySem.Spec PyProof.Rows L2 He
abbrev AlK : Type := AlL × List (Option (List (Option (Str × Int))))
def obsK (as : List Addr) (fa : List Fa) (fn : List DefD) (ts : List Tab) (ex : PySem.W.Frag → Bool) (g : Addr → Option Obj) : AlK := (obsE as fa fn ex g, ts.map fun t => dicW (frT g as) (t.1 (frT g as)))
def valTs (ts : List Tab) (w : World) : List (Option (List (Option (Str × Int)))) := ts.map fun t => some (keysIn w.params t.2)
def SaysTs (ts : List Tab) (w : World) (K : PySem.W.Frag) : Prop := (ts.map fun t => dicW K (t.1 K)) = valTs ts w
def hookK (as : List Addr) (fa : List Fa) (fn : List DefD) (ts : List Tab) (ex : PySem.W.Frag → Bool) : PySem.W.Hook where
  α := AlK
  obs := fun s => obsK as fa fn ts ex s.heap.get?
  val := fun w => ((valD fn, true), valTs ts w)
  says := fun w h => ∃ K : PySem.W.Frag, K.In h ∧ SaysL fa fn ex h K ∧ SaysTs ts w K
  of := fun _ _ e => ⟨_, frT_in, saysE_of (congrArg (fun z : AlK => z.1) e), congrArg (fun z : AlK => z.2) e⟩
  keeps := fun _ _ _ ⟨K, hK, c, t⟩ k => ⟨K, PySem.W.Frag.In.keeps hK k, ⟨c.d, c.more, c.hd, c.out, fun x hx => k _ _ (c.empty x hx), c.apart⟩, t⟩
theorem obsK_eq {as : List Addr} {fa : List Fa} {fn : List DefD} {ts : List Tab} {ex : PySem.W.Frag → Bool} {g : Addr → Option Obj} {s : Shared} (h : ∀ a, g a = s.heap.get? a) : obsK as fa fn ts ex g = (hookK as fa fn ts ex).obs s := by
  have e : g = s.heap.get? := funext h
  rw [e]
  rfl
theorem SaysTs.tab {ts : List Tab} {w : World} {K : PySem.W.Frag} (c : SaysTs ts w K) (i : Nat) {t : Tab} (h : ts[i]? = some t := by rfl) : dicW K (t.1 K) = some (keysIn w.params t.2) := by
  unfold SaysTs valTs at c
  have e2 : (ts.map fun t => dicW K (t.1 K))[i]? = (ts.map fun t => some (keysIn w.params t.2))[i]? := by rw [c]
  rw [List.getElem?_map, List.getElem?_map, h] at e2
  exact Option.some.inj e2
end PF
namespace PF
open PySem PySem.Spec PyProof.Rows L2
section
open Builtin Builtin.ObjectAttr PySem.W PySem.Calls
variable {prog : Program} {w : World} {A : Around} {E : Value → Shared → Prop} {R : Result → Shared → Prop} {hp : Heap} {g : Array GenState} {d : Drawn} {t : Nat} {os : OsState}
end
section
variable {X : Cx} {pins : List (Addr × Obj)} {σ : L2.St} {H : Hp} {s : Shared} {a C dx : Addr} {fld : Str} {fs : List (Str × V)} {y : V} {u : Value} {E : Value → Shared → Prop} {A : Around} {B nw ini : String} {tl : List Value}
end
section
variable {X : Cx} {o e : Expr} {to te : TE} {f : Str} {p' pos : Pos} {B nw : String} {tl : List Value}
end
/-- what __init__(self, x, y): Base.__init__(self, ".."); self.f = x; self.g = y does -/
def spI2 (K : PySem.W.Frag) (nw : String) (tl : List Value) (f g : Str) : Sp := fun vs H Q _ => ∃ (a C : Addr) (v u : V), vs = [.ref a, v, u] ∧ H a = some (exo a C none) ∧ XCl K C nw tl ∧ PySem.W.findIn K (.ref C) f = some none ∧ PySem.W.findIn K (.ref C) g = some none ∧
  ∀ dx, H dx = none → dx ≠ a → Q .non (upd (upd (upd H dx (exd dx [(f, v)])) a (exo a C (some dx))) dx (exd dx [(g, u), (f, v)]))
section
variable {P : Program} {w : World} {K : PySem.W.Frag} {mg : Str → Option Value} {base : Heap}
end
/-- the error with the number n is made by its class's name, of two fields -/
structure XIs2 (P : Program) (w : World) (K : PySem.W.Frag) (mg : Str → Option Value) (base : Heap) (n : Nat) (nw : String) (tl : List Value) : Prop where
  gl : mg (xName n) = some (.ref (He.ga K (xName n)))
  cl : XCl K (He.ga K (xName n)) nw tl
  ex : ∃ (B ini : String) (fI : Addr) (fd : FuncData) (ps : List Str) (f g : Str), xFlds n = [f, g] ∧ PySem.W.findIn K (.ref (He.ga K (xName n))) f = some none ∧ PySem.W.findIn K (.ref (He.ga K (xName n))) g = some none ∧ ExcBaseFacts B nw ini tl ∧ PySem.W.findIn K (.ref (He.ga K (xName n))) "__init__" = some (some (.ref fI)) ∧ PySem.W.typeIn K (.ref fI) = some (.type "function") ∧
    FnOk P w K mg base (L2.CX P w) 1 fI fd ps (spI2 K nw tl f g) ∧ Binds K fd ps []
structure XB2 (K : PySem.W.Frag) (x f g : Str) (nw : String) (tl : List Value) : Prop where
  one : XB K x f nw tl
  no2 : PySem.W.findIn K (.ref (He.ga K x)) g = some none
theorem XB2.is {P : Program} {w : World} {K : PySem.W.Frag} {mg : Str → Option Value} {base : Heap} {n : Nat} {nw B ini : String} {tl : List Value} {fd : FuncData} {ps : List Str} {f g : Str} (h : XB2 K (xName n) f g nw tl) (hf : xFlds n = [f, g]) (gl : mg (xName n) = some (.ref (He.ga K (xName n)))) (FB : ExcBaseFacts B nw ini tl)
    (F : FnOk P w K mg base (L2.CX P w) 1 (He.ma K (He.ga K (xName n)) "__init__") fd ps (spI2 K nw tl f g)) (hb : Binds K fd ps []) : XIs2 P w K mg base n nw tl :=
  ⟨gl, h.one.cl, B, ini, _, fd, ps, f, g, hf, h.one.no, h.no2, FB, h.one.ic, h.one.ti, F, hb⟩
open HandSHeadRun PySem.W He in
theorem run_partsK {r : OpenRow} {q : Program} {M : Nat} {loose : List PySem.Str} {w : World} {as : List Addr} {fa : List Fa} {f1 f2 : List DefD} {ts : List Tab} {ex : PySem.W.Frag → Bool}
    (hZ : RunV r M w (fun s => (looksF r.prog (boot_heap w.params) s.abs, seenQ q loose (importedModules r.prog.main.body) (fun s => xlAt q [] s && recOk r.toRowW.records s) s.abs)) (true, openGood q loose)) (hA : RunV r M w (fun s => obsD fa f1 (frT (getT s) as)) (valD f1))
    (hB : RunV r M w (fun s => obsD [] f2 (frT (getT s) as)) (valD f2)) (hC : RunV r M w (fun s => ex (frT (getT s) as)) true) (hD : RunV r M w (fun s => tabOkB (getT s) (frT (getT s) as)) true) (hE : RunV r M w (fun s => ts.map fun t => dicW (frT (getT s) as) (t.1 (frT (getT s) as))) (valTs ts w)) :
    RunEq r q (hookK as fa (f1 ++ f2) ts ex) (fun s => obsK as fa (f1 ++ f2) ts ex (getT s)) M loose w := by
  intro os
  have z := run_parts hZ hA hB hC hD os
  have e := hE os
  cases y : endF (stepQ (denQ tabQ) r.prog w) M r.prog w os with
  | none =>
    rw [y] at e
    cases e
  | some s =>
    rw [y] at e z
    have e : (ts.map fun t => dicW (frT (getT s) as) (t.1 (frT (getT s) as))) = valTs ts w := Option.some.inj e
    have z := Option.some.inj z
    injection z with a1 z
    injection z with a2 a3
    have z : obsK as fa (f1 ++ f2) ts ex (getT s) = ((valD (f1 ++ f2), true), valTs ts w) := by
      unfold obsK
      rw [e]
      exact Prod.ext a3 rfl
    show some (_, _, obsK as fa (f1 ++ f2) ts ex (getT s)) = _
    rw [a1, a2, z]
    rfl
end PF
namespace PF
open PySem PySem.Spec PyProof.Rows L2
abbrev Os := List (Nat × List W)
end PF
namespace PF
open PySem PySem.Spec PyProof.Rows L2
section
open HandSPX
variable {M : Model} {A : Around} {E : Value → Shared → Prop} {s : Shared} {Z : Obj → Prop} {B : Heap} {env : PySem.Env} {outer : List PySem.Env} {L C e : Addr}
end
section
variable {M : Model} {A : Around} {E : Value → Shared → Prop} {s : Shared} {env : PySem.Env}
end
abbrev blkE (X : Cx) (s : Shared) (H : Hp) (sc : Scope) (ce : PySem.Env) (fp : List Addr) (W : WX) : Cx := (X.blk s H sc ce fp).tr [] fun u s' => XE (X.blk s H sc ce fp) W u s'
theorem Inv.toB {X : Cx} {s : Shared} {H : Hp} {sc : Scope} {ce : PySem.Env} {fp : List Addr} {W : WX} {pins : List (Addr × Obj)} {σ : L2.St} {H' : Hp} {s' : Shared} (I : Inv (X.blk s H sc ce fp) pins σ H' s') : Inv (blkE X s H sc ce fp W) pins σ H' s' :=
  ⟨I.ok.toTry _ _, I.os, I.bare, I.base, I.loc, I.cell, I.free, I.freeC, I.pin, I.hok, I.len⟩
end PF
namespace PF
open PySem PySem.Spec PyProof.Rows L2
section
variable {X : Cx} {W : WX} {pins : List (Addr × Obj)} {s : Shared} {σ : L2.St} {H : Hp} {Q : VK} {elt tg it0 : Expr} {ifs : List Expr} {sc : Scope} {own : List (Str × Nat)} {pos pos' : Pos} {wi : TI} {g : TG} {tt : TT} {te : L2.St → TE} {use : Option (Value → Sem Unit)} {Qf : Value → Shared → Prop}
end
end PF
namespace PF
open PySem PySem.Spec PyProof.Rows L2
section
variable {X : Cx} {E : WX} {elt tg iter : Expr} {ifs : List Expr} {scope : Scope} {own : List (Str × Nat)} {pos : Pos} {fi : En → T (List W)} {ns : List Nat} {G : W → En → Option En} {tt : En → T Bool} {fe : En → T W}
end
end PF
namespace PF
open PySem PySem.Spec PyProof.Rows L2
section
variable {X : Cx} {E : WX} {x y : Str} {j : Nat} {pos : Pos} {ns : List Nat} {io : Option Nat}
end
end PF
namespace PF
open PySem PySem.Spec PyProof.Rows L2
section
variable {X : Cx} {E : WX} {e : Expr} {fa fb : En → T W} {fs : En → T (List W)}
end
end PF
namespace PF
open PySem PySem.Spec PyProof.Rows L2
section
variable {K : PySem.W.Frag} {w : World} {mg : Str → Option Value} {x : Str} {l : List (Str × W)} {a : Addr} {es : Array DictEntry} {n : Nat}
end
section
variable {X : Cx} {E : WX} {x : Str} {l : List (Str × W)} {b f : Expr} {p apos cpos : Pos} {fb ff : En → T W} {σ : L2.St} {H : Hp} {pins : List (Addr × Obj)} {s : Shared} {a : Addr} {es : Array DictEntry} {n : Nat}
end
end PF
namespace PF
open PySem PySem.Spec PyProof.Rows L2
section
variable {prog : Program} {w : World} {A : Around} {E : Value → Shared → Prop} {s : Shared} {z ti to t i1 i2 l1 l2 : Addr} {f : Bool} {ot : Obj} {k1 k2 : Nat} {xs ys : Array Value} {x y : Value}
end
end PF
namespace PF
open PySem PySem.Spec PyProof.Rows L2
section
variable {K : PySem.W.Frag} {c : Cc} {d : Dw}
end
section
variable {X : Cx} {e e2 : Expr} {ta : TA} {p p2 pos pos2 : Pos}
end
end PF
namespace PF
open PySem PySem.Spec PyProof.Rows L2 PySem.W
theorem alike_ints (ns : List Int) : AlikeAll (ns.map PyData.int) := ⟨fun x hx y hy => by
  obtain ⟨i, _, rfl⟩ := List.mem_map.mp hx
  obtain ⟨j, _, rfl⟩ := List.mem_map.mp hy
  rfl, fun x hx => by
  obtain ⟨i, _, rfl⟩ := List.mem_map.mp hx
  exact nofun⟩
theorem depth_ints : ∀ ns : List Int, PyData.depthAll (ns.map PyData.int) = 0
  | [] => rfl
  | n :: ns => by
    show max (PyData.depth (.int n)) (PyData.depthAll (ns.map PyData.int)) = 0
    rw [depth_ints ns]
    rfl
section
variable {X : Cx}
end
end PF
namespace PF
open PySem PySem.Spec PyProof.Rows L2
section
variable {X : Cx} {pins : List (Addr × Obj)} {σ : L2.St} {H : Hp} {s s' : Shared}
end
end PF
namespace PF
open PySem PySem.Spec PyProof.Rows L2
end PF
namespace PF
open PySem PySem.Spec PyProof.Rows L2 PySem.F
end PF
namespace PF
open PySem PySem.Spec PyProof.Rows L2
end PF
namespace PF
open PySem PySem.Spec PyProof.Rows L2
end PF
namespace PF
open PySem PySem.Spec PyProof.Rows L2
section
variable {α β γ : Type}
/-- t does what t' does, but for objects of its own -/
def Ob (t t' : T α) : Prop := ∀ (n : Nat) (os : Os) (P : Nat → α → Prop) (E : Nat → Nat → List W → Prop), t'.AllB P E n → t.AllW (fun d a => P d.n a) (fun d c fs => E d.n c fs) ⟨n, os⟩
theorem Ob.refl (t : T α) : Ob t t := fun n os P E h => T.AllW.imp (fun _ _ x => x.2) (fun _ _ _ x => x.2) (T.allW_of h)
theorem Ob.use {t t' : T α} (o : Ob t t') {d : Dw} {P : Nat → α → Prop} {E : Nat → Nat → List W → Prop} (h : t'.AllB P E d.n) : t.AllW (fun d a => P d.n a) (fun d c fs => E d.n c fs) d := o d.n d.os P E h
theorem Ob.bind {t t' : T α} {f f' : α → T β} (h : Ob t t') (g : ∀ a, Ob (f a) (f' a)) : Ob (t.bind f) (t'.bind f') := fun n os P E x =>
  T.allW_bind.mpr (T.AllW.imp (fun d a y => (g a).use y) (fun _ _ _ y => y) (h n os _ _ (T.allB_bind.mp x)))
theorem noX_allB {P : Nat → α → Prop} {E : Nat → Nat → List W → Prop} {t : T α} {d : Nat} : (noX t).AllB P E d → t.AllB P (fun _ _ _ => False) d := by
  induction t generalizing d with
  | ok a => exact id
  | exc c fs => exact False.elim
  | bad => exact id
  | ask n k ih =>
    rintro ⟨e, he, x⟩
    exact ⟨e, he, fun i hi => ih i (x i hi)⟩
  | get i k ih => exact id
  | put i fs k ih => exact id
  | new c fs k ih => exact id
theorem noX_allW {P : Dw → α → Prop} {E : Dw → Nat → List W → Prop} {t : T α} {d : Dw} : t.AllW P (fun _ _ _ => False) d → (noX t).AllW P E d := by
  induction t generalizing d with
  | ok a => exact id
  | exc c fs => exact False.elim
  | bad => exact id
  | ask n k ih =>
    rintro ⟨e, he, x⟩
    exact ⟨e, he, fun i hi => ih i (x i hi)⟩
  | get i k ih =>
    rintro ⟨c, fs, e, x⟩
    exact ⟨c, fs, e, ih c fs x⟩
  | put i fs k ih =>
    rintro ⟨c, gs, e, x⟩
    exact ⟨c, gs, e, ih x⟩
  | new c fs k ih => exact fun x => ih _ x
theorem Ob.noX {t t' : T α} (h : Ob t t') : Ob (noX t) (noX t') := fun n os P E x => noX_allW (h n os P _ (noX_allB x))
abbrev ObE (f f' : En → T α) : Prop := ∀ ρ, Ob (f ρ) (f' ρ)
abbrev ObF (F F' : List W → T W) : Prop := ∀ ws, Ob (F ws) (F' ws)
theorem ObE.refl (f : En → T α) : ObE f f := fun ρ => .refl _
theorem ObF.refl (F : List W → T W) : ObF F F := fun ρ => .refl _
variable {g : W → W → T W} {h1 : W → T W} {fa fb fc fa' fb' fc' : En → T W} {fs fs' : En → T (List W)} {gl gl' : List W → T W} {ta tb ta' tb' : En → T Bool} {sa sb sc sa' sb' sc' : En → T (Fl × En)}
end
abbrev Rs (α : Type) := Option (Except (Nat × List W) α × Os)
def T.rn {α : Type} : T α → Os → Rs α
  | .ok a, os => some (.ok a, os)
  | .exc c fs, os => some (.error (c, fs), os)
  | .bad, _ => none
  | .ask _ _, _ => none
  | .get i k, os => match os[i]? with
    | some q => (k q.1 q.2).rn os
    | none => none
  | .put i fs k, os => match os[i]? with
    | some q => k.rn (os.set i (q.1, fs))
    | none => none
  | .new c fs k, os => (k os.length).rn (os ++ [(c, fs)])
def Rs.to {α β : Type} (r : Rs α) (f : α → Os → Rs β) : Rs β := match r with
  | some (.ok a, os) => f a os
  | some (.error e, os) => some (.error e, os)
  | none => none
section
variable {α β : Type}
@[simp] theorem rn_ok (a : α) (os : Os) : (T.ok a).rn os = some (.ok a, os) := rfl
@[simp] theorem rn_exc (c : Nat) (fs : List W) (os : Os) : (T.exc c fs : T α).rn os = some (.error (c, fs), os) := rfl
@[simp] theorem rn_bad (os : Os) : (T.bad : T α).rn os = none := rfl
@[simp] theorem rn_new {c : Nat} {fs : List W} {k : Nat → T α} {os : Os} : (T.new c fs k).rn os = (k os.length).rn (os ++ [(c, fs)]) := rfl
@[simp] theorem Rs.to_ok (a : α) (os : Os) (f : α → Os → Rs β) : Rs.to (some (.ok a, os)) f = f a os := rfl
@[simp] theorem Rs.to_error (e : Nat × List W) (os : Os) (f : α → Os → Rs β) : Rs.to (some (.error e, os)) f = some (.error e, os) := rfl
@[simp] theorem Rs.to_none (f : α → Os → Rs β) : Rs.to none f = none := rfl
def Rs.is {α : Type} (P : Dw → α → Prop) (E : Dw → Nat → List W → Prop) (d : Dw) : Except (Nat × List W) α → Prop
  | .ok a => P d a
  | .error e => E d e.1 e.2
theorem Ob.bad (t : T α) : Ob t .bad := fun _ _ _ _ h => h.elim
end
/-- what repr can show, with its length at most n, its depth at most k -/
def Rb (n k : Nat) (w : W) : Prop := ∃ d, w.toR = some d ∧ d.showable = true ∧ d.depth ≤ k ∧ d.shown.length ≤ n
theorem Rb.mono {n k n' k' : Nat} {w : W} (h : Rb n k w) (hn : n ≤ n') (hk : k ≤ k') : Rb n' k' w := by
  obtain ⟨d, h1, h2, h4, h5⟩ := h
  exact ⟨d, h1, h2, by omega, by omega⟩
end PF
namespace PF
open PySem PySem.Spec PyProof.Rows L2
end PF
namespace PF
open PySem PySem.Spec PyProof.Rows L2
section
variable {K : PySem.W.Frag} {c : Cc} {H : Hp}
end
def sOwnPar2 (i j : Nat) (f : En → T W) : En → T (Fl × En) := fun ρ => (f ρ).bind fun w => .ok (.nx, (ρ.set i (.val w)).set j (.own []))
end PF
namespace PF
open PySem PySem.Spec PyProof.Rows L2
section
variable {X : Cx} {E : XK} {e a b : Expr} {fa fb : En → T W} {i : Nat} {pos p2 : Pos}
end
def PN (K : PySem.W.Frag) (c : Cc) (H : Hp) (Q : VK) : Dw → List W → Prop := fun d us => ∀ (c' : Cc) p vs H', SG c c' H H' → StOk (c'.mine p) d H' → H p = none → H' p = some (.lst vs) → RepL K (c'.mine p) H' us vs → Q (.ref p) H'
def SpN (K : PySem.W.Frag) (F : List W → T (List W)) : Sp := fun vs H Q E => ∃ c d ws, (c.T = tabL K ∧ c.K = K) ∧ Wd c d H ∧ RepL K c H ws vs ∧ (F ws).AllW (PN K c H Q) (PX K c H E) d
theorem SpN.len {K : PySem.W.Frag} {F : List W → T (List W)} {np : Nat} (hF : ∀ ws, ws.length ≠ np → F ws = .bad) : ∀ vs H Q E, SpN K F vs H Q E → vs.length = np := fun vs H Q E h => by
  obtain ⟨c, d, ws, hT, wd, r, h⟩ := h
  by_cases e : ws.length = np
  · rw [← r.length]
    exact e
  · rw [hF ws e] at h
    exact h.elim
theorem SG.mine {c c' : Cc} {H H' : Hp} {p : Addr} {vs : List V} (st : SG c c' H H') (hn : H p = none) (hl : H' p = some (.lst vs)) : SG (c.mine p) (c'.mine p) (L2.upd H p (.lst vs)) H' := by
  have g := st.g
  refine ⟨⟨g.S, g.ca, g.la, by show p :: c'.A = p :: c.A; rw [g.A], by show p :: c'.M = p :: c.M; rw [g.M], g.T, g.C, g.KK, g.O⟩, ⟨fun b o hb h1 h2 h3 => ?_, fun b ps hb => ?_, fun b C dx fs hb => ?_⟩⟩
  · by_cases z : b = p
    · subst z
      rw [upd_same] at hb
      rw [hl, ← hb]
    · rw [upd_ne z] at hb
      exact st.st.keep b o hb h1 h2 h3
  · by_cases z : b = p
    · subst z
      rw [upd_same] at hb
      cases hb
    · rw [upd_ne z] at hb
      exact st.st.tbl b ps hb
  · by_cases z : b = p
    · subst z
      rw [upd_same] at hb
      cases hb
    · rw [upd_ne z] at hb
      exact st.st.ins b C dx fs hb
end PF
namespace PF
open PySem PySem.Spec PyProof.Rows L2 He
end PF
namespace PF
open PySem PySem.Spec PyProof.Rows L2
end PF
namespace PF
open PySem PySem.Spec PyProof.Rows L2
end PF
namespace PF
open PySem PySem.Spec PyProof.Rows L2 PySem.F
/-- what is wanted of the base's __init__ -/
structure IniFacts (B ini : String) : Prop where
  slot : Slot B "__init__" ini
  entry : entryFor table ini = some Builtin.«BaseException.__init__»
  split : splitId ini = some (B, "__init__")
  kind : builtinKind ini = some .slot
  row : Manifest.signature? ini = some ⟨.positional, "*", B, .self, [⟨"args", .varPos, false⟩]⟩
  noStar : (B != "*") = true
abbrev tlK : List Value := [.type "KeyError", .type "LookupError", .type "Exception", .type "BaseException", .type "object"]
end PF
namespace PySem
namespace PX
open Builtin Builtin.ObjectAttr
section
variable {M : Model} {A : Around} {E : Value → Shared → Prop} {h : Heap} {g : Array GenState} {d : Drawn} {t : Nat} {os : OsState}
variable {nm q : Str} {C N : Addr} {bs bm bmB : List Value} {hdct : Bool} {sn : List Str} {sub : List Value} {ab : Bool} {col : Option Bool} {dd : Option Addr} {k0 k1 k2 k3 k5 : Option Value} {B newId initId Bi : String}
end
section
variable {prog : Program} {w : World} {A : Around} {E : Value → Shared → Prop} {R : Result → Shared → Prop} {h : Heap} {g : Array GenState} {d : Drawn} {t : Nat} {os : OsState}
variable {nm q : Str} {C N : Addr} {bs bm bmB : List Value} {hdct : Bool} {sn : List Str} {sub : List Value} {ab : Bool} {col : Option Bool} {dd : Option Addr} {k0 k1 k2 k3 k5 : Option Value} {B newId initId Bi ini : String}
end
end PX
end PySem
namespace PF
open PySem PySem.Spec PyProof.Rows L2
abbrev nwK : String := "LookupError.__new__"
section
variable {bm : List Value} (hT : ∀ X : String, bm.contains (.type X) = tlK.contains (.type X))
include hT
end
section
variable {X : Cx} {pins : List (Addr × Obj)} {σ : L2.St} {H : Hp} {s : Shared} {a C : Addr} {fld : Str} {y : V} {u : Value} {E : Value → Shared → Prop} {A : Around}
end
section
variable {X : Cx} {o e : Expr} {es : List Expr} {to te : TE} {ta : TA} {f bn : Str} {p p' p1 p2 pos : Pos}
end
section
variable {P : Program} {w : World} {K : PySem.W.Frag} {mg : Str → Option Value} {base : Heap}
end
structure XIsM (P : Program) (w : World) (K : PySem.W.Frag) (mg : Str → Option Value) (base : Heap) (n : Nat) : Prop where
  gl : mg (xName n) = some (.ref (He.ga K (xName n)))
  cl : XCl K (He.ga K (xName n)) nwK tlK
  no : ∀ f ∈ xFlds n, PySem.W.findIn K (.ref (He.ga K (xName n))) f = some none
  ex : ∃ (fI : Addr) (fd : FuncData) (ps : List Str) (f : Str), xFlds n = [f] ∧ PySem.W.findIn K (.ref (He.ga K (xName n))) "__init__" = some (some (.ref fI)) ∧ PySem.W.typeIn K (.ref fI) = some (.type "function") ∧
    FnOk P w K mg base (L2.CX P w) 1 fI fd ps (spI K nwK tlK f) ∧ Binds K fd ps []
end PF
namespace PF
open PySem PySem.Spec PyProof.Rows L2
def keysL2 : List W → Option (List Key)
  | [] => some []
  | w :: ws => match keyW w, keysL2 ws with
    | some k, some ks => some (k :: ks)
    | _, _ => none
def putWT (acc : List (List Key × W)) (k : List Key) (v : W) : List (List Key × W) :=
  if (acc.any fun kv => decide (kv.1 = k)) = true then acc.map (fun kv => if kv.1 = k then (kv.1, v) else kv) else acc ++ [(k, v)]
section
variable {K : PySem.W.Frag} {c : Cc} {H : Hp}
theorem RepDT.len {acc : List (List Key × W)} {kvs : List (List Key × V)} (h : RepDT K c H acc kvs) : acc.length = kvs.length := by
  have := congrArg List.length h.1
  simpa using this
theorem RepDT.cons {k k' : List Key} {w : W} {v : V} {acc : List (List Key × W)} {kvs : List (List Key × V)} (h : RepDT K c H ((k, w) :: acc) ((k', v) :: kvs)) : k = k' ∧ Rep K c H w v ∧ RepDT K c H acc kvs := by
  obtain ⟨h1, h2⟩ := h
  simp only [List.map_cons] at h1 h2
  cases h2 with
  | cons r rr =>
    injection h1 with e1 e2
    exact ⟨e1, r, e2, rr⟩
theorem RepDT.mk {k : List Key} {w : W} {v : V} {acc : List (List Key × W)} {kvs : List (List Key × V)} (r : Rep K c H w v) (h : RepDT K c H acc kvs) : RepDT K c H ((k, w) :: acc) ((k, v) :: kvs) := ⟨by simp only [List.map_cons, h.1], .cons r h.2⟩
theorem RepDT.any {k : List Key} : ∀ {acc : List (List Key × W)} {kvs : List (List Key × V)}, RepDT K c H acc kvs → (acc.any fun kv => decide (kv.1 = k)) = (kvs.any fun kv => decide (kv.1 = k))
  | [], [], _ => rfl
  | [], _ :: _, h => by
    have := h.1
    cases this
  | _ :: _, [], h => by
    have := h.1
    cases this
  | (a, w) :: acc, (b, v) :: kvs, h => by
    obtain ⟨rfl, r, h⟩ := h.cons
    simp only [List.any_cons, RepDT.any (k := k) h]
theorem RepDT.map {k : List Key} {w : W} {v : V} (rw_ : Rep K c H w v) : ∀ {acc : List (List Key × W)} {kvs : List (List Key × V)}, RepDT K c H acc kvs → RepDT K c H (acc.map fun kv => if kv.1 = k then (kv.1, w) else kv) (kvs.map fun kv => if kv.1 = k then (kv.1, v) else kv)
  | [], [], h => h
  | [], _ :: _, h => by
    have := h.1
    cases this
  | _ :: _, [], h => by
    have := h.1
    cases this
  | (a, x) :: acc, (b, y) :: kvs, h => by
    obtain ⟨rfl, r, h⟩ := h.cons
    have ih := RepDT.map (k := k) rw_ h
    simp only [List.map_cons]
    by_cases e : a = k
    · simp only [e, if_true]
      exact .mk rw_ ih
    · simp only [e, if_false]
      exact .mk r ih
theorem RepDT.put {k : List Key} {w : W} {v : V} {acc : List (List Key × W)} {kvs : List (List Key × V)} (h : RepDT K c H acc kvs) (r : Rep K c H w v) : RepDT K c H (putWT acc k w) (putK kvs k v) := by
  unfold putWT putK
  rw [h.any]
  split
  · exact h.map r
  · refine ⟨by simp [h.1], ?_⟩
    rw [List.map_append, List.map_append]
    exact h.2.append (.cons r .nil)
theorem RepL.keys : ∀ {ws : List W} {vs : List V} {ks : List Key}, RepL K c H ws vs → keysL2 ws = some ks → vs = ks.map kV
  | [], _, _, .nil, h => by
    cases h
    rfl
  | w :: ws, _, ks, .cons r rr, h => by
    unfold keysL2 at h
    cases e1 : keyW w with
    | none =>
      rw [e1] at h
      cases h
    | some k =>
      cases e2 : keysL2 ws with
      | none =>
        rw [e1, e2] at h
        cases h
      | some ks' =>
        rw [e1, e2] at h
        cases h
        rw [r.keyE e1, RepL.keys rr e2]
        rfl
end
section
variable {K : PySem.W.Frag} {c : Cc} {d : Dw} {oa : Nat → Addr} {ρ : En} {σ : L2.St} {H H' : Hp} {D : Addr} {i : Nat}
end
@[irreducible] def dRoomT (ws : List (List Key × W)) : Bool := decide (ws.length < 16777216)
def PK (c : Cc) (H : Hp) (Q : VK) : Dw → List Key → Prop := fun d k => ∀ ⦃c' : Cc⦄ b H', SG c c' H H' → StOk c' d H' → H' b = some (.tup (k.map kV)) → Q (.ref b) H'
theorem PK.later {c c1 : Cc} {H H1 : Hp} {Q : VK} {d : Dw} {k : List Key} (s : SG c c1 H H1) (h : PK c H Q d k) : PK c1 H1 Q d k := fun _ b H' st so r => h b H' (s.trans st) so r
end PF
namespace PF
open PySem PySem.Spec PyProof.Rows L2
section
variable {K : PySem.W.Frag} {c : Cc} {d : Dw} {oa : Nat → Addr} {ρ : En} {σ : L2.St} {H : Hp} {E : WX} {f : En → T (List Key)}
end
end PF
namespace PF
open PySem PySem.W PySem.Calls PySem.Spec PyProof.Rows PyProof.V L2
section
variable {X : Cx} {pins : List (Addr × Obj)} {σ : L2.St} {H : Hp} {s : Shared} {d : Addr} {o : Obj}
end
section
variable {P : Program} {w : World} {K : PySem.W.Frag} {d : Addr} {o : Obj} {es : Array DictEntry} {ep : Nat}
end
end PF
namespace PF
open PySem PySem.Spec PyProof.Rows L2
theorem SG.tup {c c' : Cc} {d : Dw} {H H' : Hp} {b : Addr} {xs : List V} (st : SG c c' H H') (s : StOk c d H) (h : H b = some (.tup xs)) : H' b = some (.tup xs) := by
  obtain ⟨kvs, hS⟩ := s.1.S
  obtain ⟨zs, hl⟩ := s.1.la
  exact st.st.keep _ _ h (ne_of h hS (by intro z; cases z)) (ne_of h hl (by intro z; cases z)) nofun
def getT (ws : List (List Key × W)) (k : List Key) : Option W := (ws.find? fun kv => decide (kv.1 = k)).map (·.2)
theorem RepDT.get {K : PySem.W.Frag} {c : Cc} {H : Hp} {k : List Key} : ∀ {acc : List (List Key × W)} {kvs : List (List Key × V)}, RepDT K c H acc kvs → match getT acc k with
    | some w => ∃ v, valV kvs k = some v ∧ Rep K c H w v
    | none => valV kvs k = none
  | [], [], _ => rfl
  | [], _ :: _, h => by
    have := h.1
    cases this
  | _ :: _, [], h => by
    have := h.1
    cases this
  | (a, w) :: acc, (b, v) :: kvs, h => by
    obtain ⟨rfl, r, h⟩ := h.cons
    have ih := RepDT.get (k := k) h
    unfold getT valV at *
    by_cases e : a = k
    · simp only [List.find?_cons, e, decide_true]
      exact ⟨v, rfl, r⟩
    · simp only [List.find?_cons, e, decide_false]
      exact ih
end PF
namespace PF
open PySem PySem.Spec PyProof.Rows L2
section
variable {K : PySem.W.Frag} {c : Cc} {d : Dw} {oa : Nat → Addr} {ρ : En} {σ : L2.St} {H : Hp} {i : Nat}
end
end PF
namespace PF
open PySem PySem.Spec PyProof.Rows L2
theorem SG.frz {c c' : Cc} {d : Dw} {H H' : Hp} {b : Addr} {o : Obj} {u : HO} (st : SG c c' H H') (s : StOk c d H) (h : H b = some (.frz o u)) : H' b = some (.frz o u) := by
  obtain ⟨kvs, hS⟩ := s.1.S
  obtain ⟨zs, hl⟩ := s.1.la
  exact st.st.keep _ _ h (ne_of h hS (by intro z; cases z)) (ne_of h hl (by intro z; cases z)) nofun
end PF
namespace PF
open PySem PySem.Spec PyProof.Rows L2
abbrev ZW (h : Heap) (z TI TO : Addr) (v : Value) (f : Bool) : Prop :=
  h.get? z = some { cls := .type "zip", dict := none, data := .fields #[v, .bool f, .bool false, .ref TI, .ref TO], slots := #[] }
section
variable {prog : Program} {w : World} {A : Around} {E : Value → Shared → Prop} {s : Shared} {z TI TO i1 i2 : Addr} {fp1 fp2 : List Addr} {n1 n2 i : Nat} {P1 P2 : Nat → Value → Prop} {St1 St2 : Nat → Heap → Prop} {a1 a2 v : Value} {f : Bool}
/-- a zip that may be asked for its i-th pair -/
structure ZSt (z TI TO i1 i2 : Addr) (St1 St2 : Nat → Heap → Prop) (i : Nat) (h : Heap) : Prop where
  zw : ∃ v f, ZW h z TI TO v f ∧ (v = .none ∨ ∃ T : Addr, v = rawInt T)
  ti : IsTupOf2 h TI (.ref i1) (.ref i2)
  to : ∃ a1 a2, IsTupOf2 h TO a1 a2
  s1 : St1 i h
  s2 : St2 i h
theorem ZSt.ty (q : ZSt z TI TO i1 i2 St1 St2 i s.heap) : s.TypeIs (.ref z) "zip" := by
  obtain ⟨v, f, h, _⟩ := q.zw
  exact ⟨_, h, rfl⟩
end
end PF
namespace PF
open PySem PySem.Spec PyProof.Rows L2
section
variable {K : PySem.W.Frag} {c : Cc} {d : Dw} {H H1 : Hp}
end
end PF
namespace PF
open PySem PySem.Spec PyProof.Rows L2
section
variable {K : PySem.W.Frag} {c : Cc} {H : Hp}
end
section
variable {X : Cx} {E : WX} {e : Expr} {f : En → T W} {fk : En → T (List Key)}
end
section
variable {K : PySem.W.Frag} {c : Cc} {H : Hp}
end
end PF
namespace PF
open PySem PySem.Spec PyProof.Rows L2
end PF
namespace PF
open PySem PySem.Spec PyProof.Rows L2
section
variable {X : Cx}
end
end PF
namespace PF
open PySem PySem.Spec PyProof.Rows L2
section
variable {K : PySem.W.Frag} {c : Cc} {d : Dw} {oa : Nat → Addr} {ρ : En} {σ : St} {H H' : Hp} {D : Addr}
end
section
variable {X : Cx} {E : WX} {kx vx tg iter : Expr} {ifs : List Expr} {scope : Scope} {own : List (Str × Nat)} {pos : Pos} {fi : En → T (List W)} {ns : List Nat} {G : W → En → Option En} {tt : En → T Bool} {fk fv : En → T W}
end
end PF
namespace PF
open PySem PySem.W PySem.Calls PySem.Spec PyProof.Rows PyProof.V L2
end PF
namespace PF
open PySem PySem.Spec PyProof.Rows L2
section
variable {X : Cx}
end
/-- x = [a] * n, x the frame's own -/
def sOwnMul (i : Nat) (fa fb : En → T W) : En → T (Fl × En) := fun ρ => (fa ρ).bind fun x => (fb ρ).bind fun y => (mulL x y).bind fun z => match z with
  | .lst ws => .ok (.nx, ρ.set i (.own ws))
  | _ => .bad
theorem tr_ownMul {X : Cx} {E : XK} {i : Nat} {x : Str} {a b : Expr} {fa fb : En → T W} {pos pos' p2 : Pos} (hN : X.N.Nodup) (hi : X.N[i]? = some x) (hx : L2.Loc X.env.scope x) (ha : TrE Γ X (wOf E) a fa) (hb : TrE Γ X (wOf E) b fb) (hs : swapsWith (.BinOp a .Mult b p2) (some (.Name x pos')) pos.line X.env = pure false := by rfl)
    (hf : X.fn x = true ∨ X.env.scope.names.lookup x = some .local := by first | exact .inl rfl | exact .inr rfl | assumption) : TrS Γ X E (.Assign [.Name x pos'] (.BinOp a .Mult b p2) pos) (sOwnMul i fa fb) := ps_imp (ps_set hN hi hx (pe_op op_rep ha hb) hs hf) fun D σ H q => by
  obtain ⟨c, d, oa, ρ, e, q⟩ := q
  refine lift_thenS (P := fun c H => PSq X.K Γ c H D) e q (fun st p => p.later (.of st e.wd)) fun w v H1 d1 _ r1 e1 h1 => ?_
  refine lift_thenS (P := fun c H => PSq X.K Γ c H D) e1 h1 (fun st p => p.later (.of st e1.wd)) fun w2 v2 H2 d2 st2 r2 e2 h2 => ?_
  have r1' := r1.step st2 e1.st e1.ok
  cases r1' <;> try exact h2.elim
  cases r2 <;> try exact h2.elim
  rename_i aa xs ws n1 h1' rl1 k
  unfold mulL at h2
  simp only at h2
  by_cases hz : lmulOk ws.length k = true
  · rw [if_pos hz] at h2
    unfold lmulOk at hz
    obtain ⟨h0, hz⟩ := Bool.and_eq_true_iff.mp hz
    obtain ⟨h0, h1⟩ := rngOk_of h0
    have hz := of_decide_eq_true hz
    refine ⟨_, k, _, rfl, rfl, h1', by omega, by omega, by rw [← rl1.length, sizeLine_eq]; exact hz, fun p hp => ?_⟩
    exact h2 _ _ _ _ (Fwd.mine hp e2.wd) ((e2.mine hp).ownSet (List.mem_cons_self ..) upd_same (((rl1.many _).more hp (.new hp) e2.st e2.ok).mine) (EnvOk.ownNe e2 hp))
  · rw [if_neg hz] at h2
    exact h2.elim
end PF
namespace PF
open PySem PySem.Spec PyProof.Rows L2
end PF
namespace PF
open PySem PySem.Spec PyProof.Rows L2
section
variable {X : Cx} {pins pn' : List (Addr × Obj)} {σ : L2.St} {H : Hp} {s : Shared} {a : Addr}
end
section
variable {X : Cx} {body suite : List Stmt} {b0 : Stmt} {ty : Expr} {n : Str} {i : Nat} {m : Value → Option Bool} {ps pos : Pos} {tb : WX → TS} {ts : Addr → TS}
end
abbrev noE : XK := fun _ _ _ => False
section
variable {X : Cx} {E : XK} {e ty : Expr} {f : En → T W} {n : Str} {i : Nat} {m : Value → Option Bool} {ns : List Nat} {p1 ps pos : Pos} {b0 : Stmt} {suite : List Stmt} {gs : En → T (Fl × En)}
end
structure FnQ (P : Program) (w : World) (K : PySem.W.Frag) (mg : Str → Option Value) (base : Heap) (k : Nat) (f : Addr) (fd : FuncData) (ps : List Str) (sp : Sp) : Prop where
  len : ∀ vs H Q E, sp vs H Q E → vs.length = ps.length
  go : ∀ (A : Around) (a : Addr) (o : List PySem.Env) (s : Shared) (H : Hp) (ar : Args) (us : List Value) (vs : List V) (Q : VK), A.guards = some [] → Room k A → Env0 P w K mg base A o s H → BindsTo s fd ar (ps.zip us) → Vals vs us → sp vs H Q noE →
    codeAny (model P w) (A.mark (some (.ref a))) (.call (.ref f) ar) (CR (L2.CX P w) o P w H s Q noE) s
section
variable {P : Program} {w : World} {K : PySem.W.Frag} {mg : Str → Option Value} {base : Heap} {x qual : Str} {params : Arguments} {body : List Stmt} {scope : Scope} {f : Addr} {fd : FuncData}
end
section
variable {X : Cx} {e : Expr} {es : List Expr} {fs : En → T (List W)} {pos p : Pos} {F : List W → T W} {k : Nat} {f : Addr} {fd : FuncData} {ps : List Str} {x : Str} {sp : Sp} {a : Addr} {pn : List (Addr × Obj)}
end
end PF
namespace PF
open PySem PySem.Spec PyProof.Rows L2
structure XIsN (K : PySem.W.Frag) (mg : Str → Option Value) (n : Nat) : Prop where
  gl : mg (xName n) = some (.ref (He.ga K (xName n)))
  ex : PySem.W.excIn K (He.ga K (xName n)) tlV "ValueError.__new__" = true
  kee : PySem.W.keepIn K (.ref (He.ga K (xName n))) = true
  sub : PySem.W.subIn K (.ref (He.ga K (xName n))) (.type "BaseException") = some true
  typ : PySem.W.typeIn K (.ref (He.ga K (xName n))) = some (.type "type")
end PF
namespace PF
open PySem PyProof.Rows Srt SrtO
section
variable {prog : Program} {w : World} {A : Around} {E : Value → Shared → Prop} {s : Shared}
theorem collect_tup {tp : Addr} {us : List Value} {Qf : List Value → Shared → Prop} (htp : IsTup s.heap tp us.toArray)
    (fin0 : Qf us { s with heap := (s.heap.push (seqObj "list" #[] 0)).update s.heap.objs.size (Obj.mapSeq (· ++ us.toArray)) }) (lim : us.length ≤ sizeLine := by size_fits) :
    wpAny (model prog w) A (collect (.ref tp)) Qf E s := by
  have keep_tp := htp
  obtain ⟨ob, gob, cob, ne, dob⟩ := htp
  unfold collect
  refine wpAny_bind
    (wpAny_runValue (codeAny_builtin entry_proto_collect' ?_))
  show wpAny _ _ (do again (.builtin "list.__iadd__" ⟨[← newList [], .ref tp], []⟩)) _ _ s
  refine wpAny_bind
    (wpAny_newList (wpAny_pure ⟨Code.quiet_builtin _ (by decide +kernel), codeAny_builtin entry_list_iadd' ?_⟩))
  show wpAny _ _ (Builtin.List.listExtendWith (.ref s.heap.objs.size) (.ref tp) (.ref s.heap.objs.size)) _ _ { s with heap := s.heap.push (seqObj "list" #[] 0) }
  unfold
    Builtin.List.listExtendWith
  have gob' : (s.heap.push (seqObj "list" #[] 0)).get? tp = some ob := Heap.get?_push_of_some _ gob
  refine wpAny_bind (wpAny_typeOf (T := "tuple") ⟨ob, gob', cob⟩ ?_)
  have eqt : (Value.type "tuple" == Value.type "tuple") = true := by rfl
  rw [if_pos (by rw [eqt]; simp)]
  refine wpAny_bind (listItems_at gob' dob ?_)
  refine wpAny_bind
    (listItems_at (xs := #[]) (n := 0) (Heap.get?_push_size _ rfl) rfl ?_)
  rw [if_neg (by simp)]
  refine wpAny_bind (listUpdate_at (xs := #[]) (n := 0) (Heap.get?_push_size _ rfl) rfl ?_ (Nat.zero_le _) (by show (#[] ++ us.toArray).size ≤ sizeLine + 1; simp only [Array.size_append, List.size_toArray, List.length_nil]; omega))
  refine wpAny_pure ?_
  show wpAny
    (model prog w) A (do
      let ob ← load s.heap.objs.size
      match ob.data with
      | .seq xs _ => pure xs.toList
      | _ => unsupported "internal:collect") Qf E { s with heap := (s.heap.push (seqObj "list" #[] 0)).update s.heap.objs.size (Obj.mapSeq (· ++ us.toArray)) }
  refine wpAny_bind
    (wpAny_load (get?_update_seq (Heap.get?_push_size _ rfl) _) ?_)
  show wpAny _ _ (pure ((#[] : Array Value) ++ us.toArray).toList) Qf E _
  rw [show ((#[] : Array Value) ++ us.toArray).toList = us by simp]
  exact wpAny_pure fin0
theorem sorted_tupO {tp : Addr} {us : List Value} {ltv : Value → Value → Bool} {Qf : Value → Shared → Prop} (sw : Swo ltv) (htp : IsTup s.heap tp us.toArray) (lim : us.length ≤ sizeLine)
    (canS : 2 ≤ us.length → ∀ (hp₁ : Heap) (a : Addr), hp₁.get? a = some (seqObj "list" us.toArray 0) → (∀ bb ob, s.heap.get? bb = some ob → bb ≠ a ∧ hp₁.get? bb = some ob) → SortableO prog w A.in1.in1 { s with heap := hp₁ } a us ltv)
    (fin0 : ∀ res : List Value, Srtd ltv res → Stb ltv res us → Qf (.ref (s.heap.objs.size + 1)) { s with heap := sortedAll s.heap us res.toArray }) :
    wpAny (model prog w) A (call (.builtin "sorted") [.ref tp]) Qf E s := by
  refine Calls.call_function_entry
    kind_sorted plain_sorted entry_sorted (args_sorted1 _) ?_
  unfold Builtin.«sorted»
  refine wpAny_bind
    (m := checkCount "sorted" 1 1 _) (wpAny_pure ?_)
  refine wpAny_bind (collect_tup htp ?_ lim)
  refine wpAny_bind (wpAny_newList ?_ lim)
  have szT : ((s.heap.push (seqObj "list" #[] 0)).update s.heap.objs.size (Obj.mapSeq (· ++ us.toArray))).objs.size = s.heap.objs.size + 1 := by
    rw
      [Heap.size_update, size_push']
  have gL : (((s.heap.push (seqObj "list" #[] 0)).update s.heap.objs.size (Obj.mapSeq (· ++ us.toArray))).push (seqObj "list" us.toArray 0)).get? (s.heap.objs.size + 1) = some (seqObj "list" us.toArray 0) := by
    rw [← szT]; exact Heap.get?_push_size _ rfl
  have kept : ∀ bb ob, s.heap.get? bb = some ob → bb ≠ s.heap.objs.size + 1 ∧ (((s.heap.push (seqObj "list" #[] 0)).update s.heap.objs.size (Obj.mapSeq (· ++ us.toArray))).push (seqObj "list" us.toArray 0)).get? bb = some ob := fun bb ob qb => by
    have ltb : bb < s.heap.objs.size := Heap.lt_size qb
    refine ⟨Nat.ne_of_lt (Nat.lt_succ_of_lt ltb), Heap.get?_push_of_some _ ?_⟩
    rw [Heap.get?_update_ne _ _ _ _ (Nat.ne_of_lt ltb)]
    exact Heap.get?_push_of_some _ qb
  show wpAny _ _ _ _ _ { s with heap := ((s.heap.push (seqObj "list" #[] 0)).update s.heap.objs.size (Obj.mapSeq (· ++ us.toArray))).push (seqObj "list" us.toArray 0) }
  rw [szT]
  refine wpAny_bind (wpAny_holding (wpAny_call_entry slot_list_sort ⟨_, gL, rfl⟩ entry_list_sort (list_sort_ord sw gL lim (fun two => canS two _ _ gL kept) fun res g1 g2 => ⟨_, rfl, ?_⟩) (args_list_sort _)))
  exact wpAny_pure ⟨_, rfl, fin0 res g1 g2⟩
end
end PF
namespace PF
open PySem PySem.Spec PyProof.Rows L2
/-- sorted(t), a tuple of ints -/
def rSortTI (K : PySem.W.Frag) : List V → Hp → VK → Prop := fun xs H Q => ∃ (a : Addr) (is : List Int), xs = [V.ref a] ∧ SqT K H a (is.map V.int) ∧
  ∀ (js : List Int) (p : Addr), js.Perm is → js.Pairwise (· ≤ ·) → H p = none → Q (.ref p) (L2.upd H p (.lst (js.map V.int)))
theorem cr_sortTI {X : Cx} : CallR X (.builtin "sorted") (rSortTI X.K) := by
  intro pins s σ H xs us Q I r h
  obtain ⟨a, is, rfl, hs, q⟩ := h
  obtain ⟨its, rv, htp, lim⟩ := I.tuple hs
  rw [Vals.ref1 r]
  have hi := rv.ints
  refine sorted_tupO SrtO.swo_int htp (by rw [← rv.length]; exact lim) (fun two _ _ _ _ => SrtO.ints_sortable hi two) fun res g1 g2 => ?_
  obtain ⟨k1, k2, k3⟩ := SrtO.ints_out hi g1 g2
  obtain ⟨ep, he⟩ := PyProof.Rows.sortedAll_at s.heap its res.toArray
  have few : ((res.map SrtO.iv).map V.int).length ≤ sizeLine := by
    rw [List.length_map, k2.length_eq]
    simpa using lim
  exact ⟨.ref _, L2.upd H (s.heap.objs.size + 1) (.lst ((res.map SrtO.iv).map V.int)), I.laid (t' := s.toks) (fun _ _ => PyProof.Rows.sortedAll_old) (Nat.le_succ _) ⟨few, res, ep, vals_of_ints k1, he⟩, rfl, q _ _ k2 k3 (I.hok.fresh (Nat.le_succ _))⟩
/-- sorted(..) of ints: a list or a tuple -/
def sortedJ : List W → T W
  | [.tup ws] => match intsW ws with
    | some ns => .ok (.lst ((sortI ns).map W.int))
    | none => .bad
  | ws => sortedI ws
theorem sem_sortedJ {K : PySem.W.Frag} : SemL K (fun xs H Q => rSortTI K xs H Q ∨ rSortedI K xs H Q) sortedJ := fun c d H x v Q E' wd rx q => by
  by_cases hx : ∃ ws, x = [.tup ws]
  · obtain ⟨ws, rfl⟩ := hx
    refine .inl ?_
    cases rx with
    | cons r rr =>
      cases rr with
      | nil =>
        cases r with
        | tup hq rl =>
          simp only [sortedJ] at q
          split at q
          · rename_i ns hk
            rw [intsW_map hk] at rl
            rw [rl.ints] at hq
            refine ⟨_, ns, rfl, hq, fun zs p h1 h2 hf => ?_⟩
            rw [asc_uniq h2 (sortI_asc ns) (h1.trans (sortI_perm ns).symm)]
            exact q _ _ (.new hf) (wd.st.new hf) (.lst (wd.fresh hf) upd_same (RepL.ofInts _))
          · exact q.elim
  · refine .inr (sem_sortedI c d H x v Q E' wd rx ?_)
    have e : sortedJ x = sortedI x := by
      unfold sortedJ
      split
      · exact absurd ⟨_, rfl⟩ hx
      · rfl
    rw [← e]
    exact q
end PF
namespace PF
open PySem PySem.Spec PyProof.Rows L2
end PF
namespace PF
open PySem PySem.Spec PyProof.Rows L2
abbrev B3 := W × (V × PyData)
def rSortD (K : PySem.W.Frag) : List V → Hp → VK → Prop := fun vs H Q => ∃ (a : Addr) (bs : List B3), vs = [V.ref a] ∧ SqL K H a (bs.map (·.2.1)) ∧ DpAll K H (bs.map (·.2.1)) (bs.map (·.2.2)) ∧ PySem.W.AllAlike (bs.map (·.2.2)) ∧ PySem.W.Sortable (bs.map (·.2.2)) ∧ (∀ b ∈ bs, b.2.2.depth ≤ 60) ∧
  ∀ p, H p = none → Q (.ref p) (L2.upd H p (.lst ((bs.mergeSort (PySem.W.dataLe false (·.2.2))).map (·.2.1))))
theorem each_of {h : Heap} : ∀ {us : List Value} {bs : List B3} {as : List Addr}, Vals (bs.map (·.2.1)) us → ReadsAll h us (bs.map (·.2.2)) as → PySem.W.EachIs (fun v (b : B3) => RelV b.2.1 v) us bs ∧ PySem.W.EachIs (fun v (b : B3) => ∃ as, Reads h v b.2.2 as) us bs
  | us, [], as, r, q => by
    cases r
    exact ⟨.nil, .nil⟩
  | us, b :: bs, as, r, q => by
    have q : ReadsAll h us (b.2.2 :: bs.map (·.2.2)) as := q
    cases r with
    | cons ru rr =>
      cases q with
      | cons q1 q2 =>
        obtain ⟨e1, e2⟩ := each_of rr q2
        exact ⟨.cons ru e1, .cons ⟨_, q1⟩ e2⟩
theorem vals_each : ∀ {us : List Value} {bs : List B3}, PySem.W.EachIs (fun v (b : B3) => RelV b.2.1 v) us bs → Vals (bs.map (·.2.1)) us
  | _, _, .nil => .nil
  | _, _, .cons h t => .cons h (vals_each t)
theorem cr_sortD {X : Cx} (hu : X.A.units + 65 < cLine) : CallR X (.builtin "sorted") (rSortD X.K) := by
  intro pins s σ H xs us Q I r h
  obtain ⟨a, bs, rfl, hs, dp, al, so, dd, q⟩ := h
  obtain ⟨its, rv, hl, lim⟩ := I.list hs
  rw [Vals.ref1 r]
  obtain ⟨as, ra⟩ := Dp.readsAll I _ _ _ dp rv
  obtain ⟨e1, e2⟩ := each_of rv ra
  have lb : bs.length ≤ sizeLine := by simpa using lim
  refine PySem.W.sorted_data (bs := bs) (enc := (·.2.2)) hl.isList e1 e2 al so lb (fun b hb => by have := dd b hb; show _ + 2 + b.2.2.depth < _; omega) fun out ho eo => ?_
  obtain ⟨ep, he⟩ := PyProof.Rows.sortedAll_at s.heap its out.toArray
  exact ⟨.ref _, L2.upd H (s.heap.objs.size + 1) (.lst ((bs.mergeSort (PySem.W.dataLe false (·.2.2))).map (·.2.1))), I.laid (t' := s.toks) (fun _ _ => PyProof.Rows.sortedAll_old) (Nat.le_succ _) ⟨by rw [List.length_map, List.length_mergeSort]; exact lb, out, ep, vals_each eo, he⟩, rfl, q _ (I.hok.fresh (Nat.le_succ _))⟩
def okD (ds : List PyData) : Bool := (ds.all fun d => match d with
  | .tuple (_ :: _) => true
  | _ => false) && ((ds.all fun d => ds.all fun e => PySem.W.alike d e) && ds.all fun d => decide (d.depth ≤ 60))
theorem okD_is {ds : List PyData} (h : okD ds = true) : PySem.W.AllAlike ds ∧ PySem.W.Sortable ds ∧ ∀ d ∈ ds, d.depth ≤ 60 := by
  unfold okD at h
  rw [Bool.and_eq_true, Bool.and_eq_true] at h
  obtain ⟨h1, h2, h3⟩ := h
  refine ⟨fun d hd e he => List.all_eq_true.mp (List.all_eq_true.mp h2 d hd) e he, .inl fun d hd => ?_, fun d hd => of_decide_eq_true (List.all_eq_true.mp h3 d hd)⟩
  have := List.all_eq_true.mp h1 d hd
  split at this
  · exact ⟨_, _, rfl⟩
  · cases this
def sortedP : List W → T W
  | [.lst ws] => match toDs ws with
    | some ds => if okD ds then .ok (.lst (((ws.zip ds).mergeSort (PySem.W.dataLe false Prod.snd)).map Prod.fst)) else .bad
    | none => .bad
  | _ => .bad
section
variable {K : PySem.W.Frag} {c : Cc} {H : Hp}
theorem zip3 : ∀ {ws : List W} {vs : List V} {ds : List PyData}, RepL K c H ws vs → ds.length = ws.length → ∃ bs : List B3, bs.map (·.1) = ws ∧ bs.map (·.2.1) = vs ∧ bs.map (·.2.2) = ds ∧ ∀ b ∈ bs, Rep K c H b.1 b.2.1
  | [], [], [], .nil, _ => ⟨[], rfl, rfl, rfl, fun _ h => by cases h⟩
  | w :: ws, v :: vs, d :: ds, .cons r rr, h => by
    obtain ⟨bs, e1, e2, e3, g⟩ := zip3 (ds := ds) rr (by simpa using h)
    refine ⟨(w, (v, d)) :: bs, by simp [e1], by simp [e2], by simp [e3], fun b hb => ?_⟩
    rcases List.mem_cons.mp hb with rfl | hb
    · exact r
    · exact g b hb
theorem repL_of : ∀ (bs : List B3), (∀ b ∈ bs, Rep K c H b.1 b.2.1) → RepL K c H (bs.map (·.1)) (bs.map (·.2.1))
  | [], _ => .nil
  | b :: bs, h => .cons (h b (List.mem_cons_self ..)) (repL_of bs fun x hx => h x (List.mem_cons_of_mem _ hx))
theorem toDs_len : ∀ {ws : List W} {ds : List PyData}, toDs ws = some ds → ds.length = ws.length
  | [], _, h => by cases h; rfl
  | w :: ws, _, h => by
    obtain ⟨d, es, e1, e2, rfl⟩ := toDs_cons h
    simp [toDs_len e2]
end
theorem sem_sortedP {K : PySem.W.Frag} : SemL K (rSortD K) sortedP := fun c d H x v Q E' wd rx q => by
  cases rx with
  | nil => exact q.elim
  | cons r rr =>
    cases rr with
    | cons _ _ => cases r <;> exact q.elim
    | nil =>
      cases r with
      | lst n hq rl =>
        simp only [sortedP] at q
        split at q
        · rename_i ds hd
          obtain ⟨ho, q⟩ := T.AllW.ite q
          obtain ⟨o1, o2, o3⟩ := okD_is ho
          have dp := rl.dp hd
          obtain ⟨bs, e1, e2, e3, g⟩ := zip3 rl (toDs_len hd)
          have ez : ∀ bs : List B3, (bs.map (·.1)).zip (bs.map (·.2.2)) = bs.map fun b => (b.1, b.2.2) := fun bs => by
            induction bs with
            | nil => rfl
            | cons b bs ih => simp [ih]
          have em : (((bs.map (·.1)).zip (bs.map (·.2.2))).mergeSort (PySem.W.dataLe false Prod.snd)).map Prod.fst = (bs.mergeSort (PySem.W.dataLe false (·.2.2))).map (·.1) := by
            rw [ez, ← PySem.W.sort_maps (r := PySem.W.dataLe false (fun b : B3 => b.2.2)) (s := PySem.W.dataLe false (fun p : W × PyData => p.2)) (fun b : B3 => (b.1, b.2.2)) (fun _ _ _ _ => rfl), List.map_map]
            rfl
          have em2 := em
          rw [e1, e3] at em2
          rw [em2] at q
          refine ⟨_, bs, rfl, ?_, ?_, ?_, ?_, fun b hb => ?_, fun p hf => ?_⟩
          · show SqL K H _ (bs.map (·.2.1))
            rw [e2]
            exact SqL.of hq
          · show DpAll K H (bs.map (·.2.1)) (bs.map (·.2.2))
            rw [e2, e3]
            exact dp
          · rw [e3]; exact o1
          · rw [e3]; exact o2
          · exact o3 _ (by rw [← e3]; exact List.mem_map.mpr ⟨b, hb, rfl⟩)
          · refine PQ.lst wd q (repL_of _ fun b hb => g b ?_) hf
            exact (List.mergeSort_perm bs _).mem_iff.mp hb
        · exact q.elim
      | _ => exact q.elim
/-- sorted(..): data that are tuples, or ints -/
def sortedQ : List W → T W
  | [.lst (.tup x :: ws)] => sortedP [.lst (.tup x :: ws)]
  | ws => sortedJ ws
theorem sem_sortedQ {K : PySem.W.Frag} : SemL K (fun xs H Q => (rSortTI K xs H Q ∨ rSortedI K xs H Q) ∨ rSortD K xs H Q) sortedQ := fun c d H x v Q E' wd rx q => by
  by_cases hx : ∃ y ws, x = [.lst (.tup y :: ws)]
  · obtain ⟨y, ws, rfl⟩ := hx
    exact .inr (sem_sortedP c d H _ v Q E' wd rx q)
  · refine .inl (sem_sortedJ c d H x v Q E' wd rx ?_)
    have e : sortedQ x = sortedJ x := by
      unfold sortedQ
      split
      · exact absurd ⟨_, _, rfl⟩ hx
      · rfl
    rw [← e]
    exact q
end PF
namespace PF
open PySem PySem.Spec PyProof.Rows L2
section
variable {X : Cx} {E : WX} {o e : Expr} {pos : Pos} {i : Nat} {fo : En → T W} {fk : En → T (List Key)}
end
end PF
namespace PF
open PySem PySem.Spec PyProof.Rows L2
section
variable {X : Cx}
theorem ps_setDc {i : Nat} {y : Str} {py : Pos} {kx vx tg iter : Expr} {ifs : List Expr} {scope : Scope} {own : List (Str × Nat)} {pos spos : Pos} {wi : TI} {g : TG} {tt : TT} {tk tv : TE} (hc : X.calm = true) (hN : X.N.Nodup) (hy : X.N[i]? = some y) (hyl : X.env.scope.names.lookup y = some .local)
    (hsw : swapsWith (.DictComp kx vx [⟨tg, iter, ifs, 0⟩] scope pos) (some (.Name y py)) spos.line X.env = pure true) (hi : PI X tg iter wi) (ok : BlkOk X.N X.env.scope scope own)
    (hg : ∀ (s : Shared) (H : Hp) (C : Addr) (cl : List (Str × Addr)) (fp : List Addr), PG (X.blk s H scope (compEnvC scope cl C X.env) fp) tg g) (ht : ∀ (s : Shared) (H : Hp) (C : Addr) (cl : List (Str × Addr)) (fp : List Addr), PTs (X.blk s H scope (compEnvC scope cl C X.env) fp) ifs tt)
    (hk : ∀ (s : Shared) (H : Hp) (C : Addr) (cl : List (Str × Addr)) (fp : List Addr), PE (X.blk s H scope (compEnvC scope cl C X.env) fp) kx tk)
    (he : ∀ (s : Shared) (H : Hp) (C : Addr) (cl : List (Str × Addr)) (fp : List Addr), PE (X.blk s H scope (compEnvC scope cl C X.env) fp) vx tv) (hs : ∀ x, foldedSetIterable iter X.env x = pure x := by intro _; rfl) :
    PS X (.Assign [.Name y py] (.DictComp kx vx [⟨tg, iter, ifs, 0⟩] scope pos) spos) (tAsg (tDc wi g tt tk tv (own.map (·.2))) (gName i)) := by
  refine ⟨fun pins s σ H D I h => ?_⟩
  rw [exec_Assign_Name_used _ _ _ _ hsw]
  refine wpAny_bind (wpAny_standAt (wpAny_bind ?_))
  show wpAny _ X.A (do let _ ← comprehension (.DictComp kx vx [⟨tg, iter, ifs, 0⟩] scope pos) scope X.env (firstIterPos [⟨tg, iter, ifs, 0⟩] pos) newDict false (eval iter X.env) (some (assign (.Name y py) X.env))) _ _ s
  have h : tDc wi g tt tk tv (own.map (·.2)) σ H (fun x H1 => gName i x σ H1 D.nx) := h
  refine wpAny_bind (thn (dc_core (Qf := fun _ s' => SP X pins D .next s') hc hN I hi ok hg ht hk he hs h fun L C s' m H' I' q hn f => ?_) fun _ s' hq => wpAny_pure (wpAny_pure hq))
  show wpAny _ _ (assign (.Name y py) X.env (.ref L)) _ _ _
  refine wpAny_assign_Name (store_ok2 (v := V.ref L) I' hN hy (.inl hyl) rfl (fun s2 I2 ⟨a, sb, ha⟩ => ?_) (.inr hyl))
  obtain ⟨f0, f1, f2, f3, f4, f5⟩ := f
  have haC : C ≠ a := by
    rcases ha with z | z
    · rw [z]; exact f1
    · exact fun e => f4 y a z e.symm
  refine ⟨m, hn.sameBut sb haC, fun h3 sb3 => ?_⟩
  exact ⟨_, H', I2.turned (t' := s2.toks) (fun b o hb e => (sb3.2 b hb).trans e) f0 f1 f3 f4 f5, q⟩
theorem swD_true {kx vx : Expr} {gs : List Comprehension} {scope : Scope} {pos py : Pos} {y : Str} {l : Nat} {env : Env} (hk : env.scope.kind = .function) (hy : env.scope.names.lookup y = some .local) (hl : (py.line == pos.line) = true)
    (ha : (scope.names.any fun (n, k) => n == y && (k == .local || k == .cell)) = false) : swapsWith (.DictComp kx vx gs scope pos) (some (.Name y py)) l env = pure true := by
  have ky : env.kindOf y = some .local := hy
  have hb : env.blockKind = .function := by unfold Env.blockKind; rw [hk]; rfl
  unfold swapsWith
  simp only [hb, ky, ha, Expr.pos, hl]
  rfl
end
section
variable {X : Cx} {E : XK} {kx vx tg iter : Expr} {ifs : List Expr} {scope : Scope} {own : List (Str × Nat)} {pos spos py : Pos} {fi : En → T (List W)} {ns : List Nat} {G : W → En → Option En} {tt : En → T Bool} {fk fv : En → T W}
theorem tr_setDc {i : Nat} {y : Str} (hc : X.calm = true) (hN : X.N.Nodup) (hy : X.N[i]? = some y) (hyl : X.env.scope.names.lookup y = some .local) (hsw : swapsWith (.DictComp kx vx [⟨tg, iter, ifs, 0⟩] scope pos) (some (.Name y py)) spos.line X.env = pure true)
    (hi : TrI Γ X (wOf E) tg iter fi) (ok : BlkOk X.N X.env.scope scope own) (hs : ∀ i ∈ ns, i ∈ own.map (·.2))
    (hg : ∀ (s : Shared) (H : Hp) (C : Addr) (cl : List (Str × Addr)) (fp : List Addr), TrG Γ (X.blk s H scope (compEnvC scope cl C X.env) fp) tg ns G) (ht : ∀ (s : Shared) (H : Hp) (C : Addr) (cl : List (Str × Addr)) (fp : List Addr), TrTs Γ (X.blk s H scope (compEnvC scope cl C X.env) fp) ifs tt)
    (hk : ∀ (s : Shared) (H : Hp) (C : Addr) (cl : List (Str × Addr)) (fp : List Addr), TrE Γ (X.blk s H scope (compEnvC scope cl C X.env) fp) noW kx fk)
    (he : ∀ (s : Shared) (H : Hp) (C : Addr) (cl : List (Str × Addr)) (fp : List Addr), TrE Γ (X.blk s H scope (compEnvC scope cl C X.env) fp) noW vx fv) (hf : ∀ x, foldedSetIterable iter X.env x = pure x := by intro _; rfl) :
    TrS Γ X E (.Assign [.Name y py] (.DictComp kx vx [⟨tg, iter, ifs, 0⟩] scope pos) spos) (sSet i (fDc (own.map (·.2)) fi G tt fk fv)) := ps_imp (ps_setDc (g := liftG X.K Γ ns G) (tt := liftB X.K Γ noW tt) (tk := liftE X.K Γ noW fk) (tv := liftE X.K Γ noW fv) hc hN hy hyl hsw hi ok hg ht hk he hf) fun D σ H q => by
  obtain ⟨c, d, oa, ρ, e, q⟩ := q
  refine dc_ok (E := wOf E) hs σ H _ (lift_thenS (P := fun c H => PSq X.K Γ c H D) e q (fun st p => p.later (.of st e.wd)) fun w v H1 d1 _ r1 e1 h1 => ?_)
  exact h1 _ oa _ H1 .refl (e1.set r1)
end
def sOwnLast (i j l : Nat) (f f2 : En → T W) : En → T (Fl × En) := fun ρ => (f ρ).bind fun w => (f2 ρ).bind fun z => .ok (.nx, ((ρ.set i (.val w)).set j (.val z)).set l (.own []))
theorem tr_ownLast {X : Cx} {E : XK} {st : Stmt} {f f2 : En → T W} {i j l : Nat} (hp : PS X st (tPar3 i j l (tCons (liftE X.K Γ (wOf E) f) (tCons (liftE X.K Γ (wOf E) f2) (tCons (tLst tNil) tNil))))) : TrS Γ X E st (sOwnLast i j l f f2) := ps_imp hp fun D σ H q => by
  obtain ⟨c, d, oa, ρ, e, q⟩ := q
  refine lift_thenS (P := fun c H => PSq X.K Γ c H D) e q (fun st p => p.later (.of st e.wd)) @fun c0 w v H0 d0 _ r0 e0 h0 => ?_
  refine lift_thenS (P := fun c H => PSq X.K Γ c H D) e0 h0 (fun st p => p.later (.of st e0.wd)) @fun c1 w1 v1 H1 d1 st1 r1 e1 h1 => ?_
  have r0' := Rep.step r0 st1 e0.st e0.ok
  refine ⟨by rw [sizeLine_eq]; decide, fun p hp => ?_⟩
  have q1 : PSq X.K Γ (c1.mine p) (L2.upd H1 p (.lst [])) D d1 (.nx, ((ρ.set i (.val w)).set j (.val w1)).set l (.own [])) := PSq.later (Fwd.mine hp e1.wd) h1
  have a0 := (r0'.more hp (.new (o := .lst []) hp) e1.st e1.ok).mine
  have a1 := (r1.more hp (.new (o := .lst []) hp) e1.st e1.ok).mine
  have e2 := (((e1.mine (xs := []) hp).set (i := i) a0).set (i := j) a1).ownSet (D := p) (i := l) (ws := []) (vs := []) (List.mem_cons_self ..) upd_same .nil (fun k us hk hu => by
      rcases getElem?_set_or hu with ⟨_, z⟩ | ⟨_, hu⟩
      · cases z
      · rcases getElem?_set_or hu with ⟨_, z⟩ | ⟨_, hu⟩
        · cases z
        · exact EnvOk.ownNe (i := k + 1) e1 hp k us (by omega) hu)
  exact ⟨_, _, _, rfl, q1 _ _ _ _ .refl e2⟩
end PF
namespace PF
open PySem PySem.Spec PyProof.Rows L2
/-- the place of the first of the least -/
def pickM (ds : List PyData) : Nat := argBest (fun i j => PySem.W.dataLt (ds.getD i .none) (ds.getD j .none)) (ds.length - 1)
def rMinD (K : PySem.W.Frag) : List V → Hp → VK → Prop := fun vs H Q => ∃ (a : Addr) (ys : List V) (ds : List PyData), vs = [V.ref a] ∧ SqL K H a ys ∧ DpAll K H ys ds ∧ ds ≠ [] ∧ PySem.W.AlikeAll ds ∧ PyData.depthAll ds ≤ 60 ∧
  ∀ y, ys[pickM ds]? = some y → Q y H
theorem cr_minD {X : Cx} (hc : X.calm = true) (hu : X.A.units + 65 < cLine) : CallR X (.builtin "min") (rMinD X.K) := by
  intro pins s σ H vs us Q I r h
  obtain ⟨a, ys, ds, rfl, hs, dp, hne, al, dd, q⟩ := h
  obtain ⟨its, rv, hl, lim⟩ := I.list hs
  rw [Vals.ref1 r]
  obtain ⟨as, ra⟩ := Dp.readsAll I _ _ _ dp rv
  have hn : its.length = ds.length := by simpa using PySem.W.readsAll_len (vs := its.toArray) ra
  have hd0 : 0 < ds.length := List.length_pos_iff.mpr hne
  refine PySem.call_min_walkH (PySem.W.iter_listW (A := X.A.in1) (I.ok.hd hc) hl.isList fun s₂ e W st hfp hw hk => ?_)
  refine ⟨_, _, _, _, _, _, _, s.heap, _, rfl, W, st, hfp, by rw [List.size_toArray]; omega, hw, hk, PySem.W.cmpIn_lt (A := X.A.in1) ra al (by show X.A.units + 1 + _ < _; omega), fun v s' hP m => ?_⟩
  obtain ⟨h', tk, rfl, hk'⟩ := PySem.W.moved_old e rfl m
  rw [List.size_toArray, hn] at hP
  have hP : its[pickM ds]? = some v := by simpa [pickM] using hP
  cases hy : ys[pickM ds]? with
  | none =>
    have := rv.none_of hy
    rw [this] at hP
    cases hP
  | some y =>
    obtain ⟨u, hu, ry⟩ := rv.get hy
    rw [hu] at hP
    cases hP
    exact ⟨y, H, I.kept hk', ry, q y hy⟩
def okM (ds : List PyData) : Bool := (ds.all fun d => match d with
  | .none => false
  | _ => true) && ((ds.all fun d => ds.all fun e => PySem.W.alike d e) && decide (PyData.depthAll ds ≤ 60))
theorem okM_is {ds : List PyData} (h : okM ds = true) : PySem.W.AlikeAll ds ∧ PyData.depthAll ds ≤ 60 := by
  unfold okM at h
  rw [Bool.and_eq_true, Bool.and_eq_true] at h
  obtain ⟨h1, h2, h3⟩ := h
  refine ⟨⟨fun d hd e he => List.all_eq_true.mp (List.all_eq_true.mp h2 d hd) e he, fun d hd e => ?_⟩, of_decide_eq_true h3⟩
  have := List.all_eq_true.mp h1 d hd
  subst e
  cases this
def minP : List W → T W
  | [.lst ws] => match toDs ws with
    | some ds => if okM ds then (match ws[pickM ds]? with
      | some w => .ok w
      | none => .bad) else .bad
    | none => .bad
  | _ => .bad
theorem sem_minP {K : PySem.W.Frag} : SemL K (rMinD K) minP := fun c d H x v Q E' wd rx q => by
  cases rx with
  | nil => exact q.elim
  | cons r rr =>
    cases rr with
    | cons _ _ => cases r <;> exact q.elim
    | nil =>
      cases r with
      | lst n hq rl =>
        simp only [minP] at q
        split at q
        · rename_i ds hd
          obtain ⟨ho, q⟩ := T.AllW.ite q
          obtain ⟨o1, o2⟩ := okM_is ho
          split at q
          · rename_i w hw
            obtain ⟨y, hy, ry⟩ := rl.get hw
            refine ⟨_, _, ds, rfl, SqL.of hq, rl.dp hd, ?_, o1, o2, fun y' hy' => ?_⟩
            · intro e
              subst e
              cases rl with
              | nil => cases hw
              | cons _ _ =>
                simp only [toDs] at hd
                split at hd <;> cases hd
            · rw [hy] at hy'
              cases hy'
              exact PQ.now wd q ry
          · exact q.elim
        · exact q.elim
      | _ => exact q.elim
/-- min(..): of a list of tuples, or of ints -/
def minQ : List W → T W
  | [.lst (.tup x :: ws)] => minP [.lst (.tup x :: ws)]
  | ws => minW ws
theorem sem_minQ {K : PySem.W.Frag} : SemL K (fun vs H Q => ((∃ i j, vs = [.int i, .int j] ∧ Q (.int (if j < i then j else i)) H) ∨ rMin K vs H Q) ∨ rMinD K vs H Q) minQ := fun c d H x v Q E' wd rx q => by
  by_cases hx : ∃ y ws, x = [.lst (.tup y :: ws)]
  · obtain ⟨y, ws, rfl⟩ := hx
    exact .inr (sem_minP c d H _ v Q E' wd rx q)
  · refine .inl (sem_min c d H x v Q E' wd rx ?_)
    have e : minQ x = minW x := by
      unfold minQ
      split
      · exact absurd ⟨_, _, rfl⟩ hx
      · rfl
    rw [← e]
    exact q
/-- sorted(..), of one empty tuple, too -/
def sortedV : List W → T W
  | [.lst [.tup []]] => .ok (.lst [.tup []])
  | ws => sortedQ ws
theorem sem_sortedV {K : PySem.W.Frag} : SemL K (fun xs H Q => ((rSortTI K xs H Q ∨ rSortedI K xs H Q) ∨ rSortD K xs H Q) ∨ rSort1 K xs H Q) sortedV := fun c d H x v Q E' wd rx q => by
  by_cases hx : x = [.lst [.tup []]]
  · subst hx
    refine .inr ?_
    cases rx with
    | cons r rr =>
      cases rr
      cases r with
      | lst n hq rl =>
        have dp := rl.dp (ds := [.tuple []]) rfl
        cases rl with
        | cons r1 rr1 =>
          cases rr1
          exact ⟨_, _, rfl, SqL.of hq, Nat.le_refl _, fun p hf => PQ.lst wd q (.cons r1 .nil) hf⟩
  · refine .inl (sem_sortedQ c d H x v Q E' wd rx ?_)
    have e : sortedV x = sortedQ x := by
      unfold sortedV
      split
      · exact absurd rfl hx
      · rfl
    rw [← e]
    exact q
end PF
namespace PF
open PySem PySem.Spec PyProof.Rows L2
/-- what stands at a key -/
def getKW : List Key → List W → Key → Option W
  | k' :: ks, w :: ws, k => if k' = k then some w else getKW ks ws k
  | _, _, _ => none
section
variable {K : PySem.W.Frag} {c : Cc} {H : Hp}
theorem getKW_rep {k : Key} : ∀ {kvs : List (Key × V)} {ws : List W}, RepL K c H ws (kvs.map (·.2)) → match getKW (kvs.map (·.1)) ws k with
    | none => valV kvs k = none
    | some w => ∃ v, valV kvs k = some v ∧ Rep K c H w v
  | [], _, _ => by simp only [List.map_nil, getKW]; rfl
  | (k', v) :: kvs, [], h => by cases h
  | (k', v) :: kvs, w :: ws, h => by
    simp only [List.map_cons] at h
    cases h with
    | cons r rr =>
      simp only [List.map_cons, getKW]
      by_cases e : k' = k
      · rw [if_pos e]
        exact ⟨v, valV_pos e, r⟩
      · rw [if_neg e, valV_neg (p := (k', v)) e]
        exact getKW_rep rr
theorem keyW_rep {x : W} {v : V} {k : Key} (r : Rep K c H x v) (e : keyW x = some k) : v = kV k := by
  cases r <;> first | (cases e; done) | skip
  · cases e
    rfl
  · cases e
    rfl
end
def rInK : R2 := fun x y H Q => ∃ (a : Addr) (o : Option V), y = .ref a ∧ DGet H a x o ∧ Q (.bl o.isSome) H
def rIxK : R2 := fun x y H Q => ∃ (a : Addr) (v : V), x = .ref a ∧ DGet H a y (some v) ∧ Q v H
theorem op_inK {X : Cx} (hu : X.A.units + 1 < cLine) : OpR X (compareOp .In) rInK := by
  intro pins s σ H x y v u Q I rx ry h
  obtain ⟨a, o, rfl, g, q⟩ := h
  obtain rfl : u = Value.ref a := ry
  exact d_in hu I g rx fun s' I' => ⟨.bl _, H, I', rfl, q⟩
/-- k in d -/
def inK : W → W → T W
  | x, .dct ks ws => match keyW x with
    | some k => .ok (.bl (getKW ks ws k).isSome)
    | none => .bad
  | _, _ => .bad
/-- d[k] -/
def ixK : W → W → T W
  | .dct ks ws, x => match keyW x with
    | some k => (match getKW ks ws k with
      | some w => .ok w
      | none => .bad)
    | none => .bad
  | _, _ => .bad
theorem sem_inK {K : PySem.W.Frag} : Sem2 K rInK inK := fun c d H x y v u Q E' wd rx ry q => by
  cases ry <;> try exact q.elim
  rename_i a kvs ws n hq rl
  unfold inK at q
  cases hk : keyW x with
  | none =>
    simp only [hk] at q
    exact q.elim
  | some k =>
    simp only [hk] at q
    have hv := keyW_rep rx hk
    subst hv
    have g := getKW_rep (k := k) rl
    have q := PQ.now wd q (.bl _)
    refine ⟨a, valV kvs k, rfl, DGet.k hq, ?_⟩
    cases hz : getKW (kvs.map (·.1)) ws k with
    | none =>
      rw [hz] at g q
      rw [g]
      exact q
    | some w =>
      rw [hz] at g q
      obtain ⟨v, g1, _⟩ := g
      rw [g1]
      exact q
theorem sem_ixK {K : PySem.W.Frag} : Sem2 K rIxK ixK := fun c d H x y v u Q E' wd rx ry q => by
  cases rx <;> try exact q.elim
  rename_i a kvs ws n hq rl
  unfold ixK at q
  cases hk : keyW y with
  | none =>
    simp only [hk] at q
    exact q.elim
  | some k =>
    simp only [hk] at q
    have hv := keyW_rep ry hk
    subst hv
    have g := getKW_rep (k := k) rl
    cases hz : getKW (kvs.map (·.1)) ws k with
    | none =>
      simp only [hz] at q
      exact q.elim
    | some w =>
      simp only [hz] at g q
      obtain ⟨v, g1, r1⟩ := g
      exact ⟨a, v, rfl, by rw [← g1]; exact DGet.k hq, PQ.now wd q r1⟩
theorem tr_ixK {X : Cx} {E : WX} {o e : Expr} {fo fk : En → T W} {pos : Pos} (hu : X.A.units + 1 < cLine) (ho : TrE Γ X E o fo) (hk : TrE Γ X E e fk) (hs : NoSl e := by exact fun _ _ => rfl) : TrE Γ X E (.Subscript o e pos) (f2 ixK fo fk) := pe_imp (pe_dget hu ho hk hs) (two sem_ixK)
end PF
namespace PF
open PySem PySem.Spec PyProof.Rows L2
theorem tr_ownPar2G {X : Cx} {E : XK} {st : Stmt} {f : En → T W} {i j : Nat} (ne : i ≠ j) (hp : PS X st (tAsg (tTup (tCons (liftE X.K Γ (wOf E) f) (tCons (tLst tNil) tNil))) (gTup X.K 2 (gCons (gName i) (gCons (gName j) gNil))))) : TrS Γ X E st (sOwnPar2 i j f) := ps_imp hp fun D σ H q => by
  obtain ⟨c, d, oa, ρ, e, q⟩ := q
  refine lift_thenS (P := fun c H => PSq X.K Γ c H D) e q (fun st p => p.later (.of st e.wd)) @fun c w v H0 d0 _ r0 e00 h0 => ?_
  refine ⟨by rw [sizeLine_eq]; decide, fun p hp => ⟨by rw [sizeLine_eq]; simp, fun p' hp' => ⟨p', [v, .ref p], rfl, SqT.of upd_same, rfl, ?_⟩⟩⟩
  refine ⟨v, [.ref p], rfl, .ref p, [], rfl, rfl, ?_⟩
  have e0 := e00.mine (xs := []) hp
  have e1 := (e0.set (i := i) ((r0.more hp (.new hp) e00.st e00.ok).mine)).ownSet (D := p) (i := j) (ws := []) (vs := []) (List.mem_cons_self ..) upd_same .nil (fun k us hk hu => by
    rcases getElem?_set_or hu with ⟨_, z⟩ | ⟨_, hu⟩
    · cases z
    · exact EnvOk.ownNe (i := k + 1) e00 hp k us (by omega) hu)
  have e2 := e1.step (H' := L2.upd (L2.upd H0 p (.lst [])) p' (.tup [v, .ref p])) (.new hp') (e1.st.new hp')
  exact h0 _ _ _ _ ((Fwd.mine hp e00.wd).trans (Fwd.of (.new hp') e1.wd)) e2
end PF
namespace Lw
open PySem PySem.Spec PyProof.Rows L2 PF
def k_PRIMES : W := (.tup [(.int 11), (.int 13), (.int 17), (.int 19), (.int 23)])
def k_MOST_SIGNS : W := (.int 96)
def k_MOST_CODED : W := (.int 12)
def k_MOST_CODE_LETTERS : W := (.int 6)
def k_MOST_LENGTH : W := (.int 6)
def F_is_integer : List W → T W := defF 1 1 (sRet (fAndV (f1 (isiW isInt) (gV 0)) (fNotV (f1 (isiW (isOnly "bool")) (gV 0)))))
def F_is_between : List W → T W := defF 3 3 (sRet (fAndV (fL (fCons (gV 0) fNil) F_is_integer) (fCh leW leW (gV 1) (gV 0) (gV 2))))
def F_are_rising : List W → T W := defF 3 1 (sRet (fL (fCons (fComp [1, 2] (iL zpW (fCons (gV 0) (fCons (fSl (gV 0) (pSome (fun _ => .ok (.int 1))) pNo) fNil))) (goTup 2 (goCons (goName 1) (goCons (goName 2) goNil))) fYes (f2 ltW (gV 1) (gV 2))) fNil) allW))
def F_need_prime : List W → T W := defF 1 1 (sIf (fOr (fNot (fTru (fL (fCons (gV 0) fNil) F_is_integer))) (fBl (f2 ninW (gV 0) (fun _ => .ok k_PRIMES)))) sNever sNil)
def F_is_sign : List W → T W := defF 2 2 (sRet (fL (fCons (gV 1) (fCons (fun _ => .ok (.int 0)) (fCons (f2 subW (gV 0) (fun _ => .ok (.int 1))) fNil))) F_is_between))
def F_are_signs : List W → T W := defF 3 2 (sRet (fAndV (f1 (isiW (isOnly "tuple")) (gV 1)) (fL (fCons (fComp [2] (iOf tupW (gV 1)) (goName 2) fYes (fL (fCons (gV 0) (fCons (gV 2) fNil)) F_is_sign)) fNil) allW)))
def F_need_message : List W → T W := defF 2 2 (sSeq (sExpr (fL (fCons (gV 0) fNil) F_need_prime)) (sSeq (sIf (fOr (fNot (fTru (fL (fCons (gV 0) (fCons (gV 1) fNil)) F_are_signs))) (fBl (f2 gtW (fL (fCons (gV 1) fNil) lenW) (fun _ => .ok k_MOST_SIGNS)))) sNever sNil) (sRet (gV 1))))
def F_rest_of : List W → T W := defF 2 2 (sRet (f2 modW (fL (fCons (gV 1) fNil) intW) (gV 0)))
def F_inverse_in : List W → T W := defF 3 2 (sRet (f2 ixW (fComp [2] (iL rng2 (fCons (fun _ => .ok (.int 1)) (fCons (gV 0) fNil))) (goName 2) (fBl (f2 eqS (fL (fCons (gV 0) (fCons (f2 mulW (gV 2) (gV 1)) fNil)) F_rest_of) (fun _ => .ok (.int 1)))) (gV 2)) (fun _ => .ok (.int 0))))
def F_is_letter : List W → T W := defF 4 3 (sSeq (sIf (fOr (fNot (fTru (f1 (isiW (isOnly "tuple")) (gV 2)))) (fBl (f2 gtW (fL (fCons (gV 2) fNil) lenW) (fun _ => .ok k_MOST_LENGTH)))) (sRet (fun _ => .ok (.bl false))) sNil) (sRet (fL (fCons (fComp [3] (iOf tupW (gV 2)) (goName 3) fYes (fAndV (fL (fCons (gV 0) (fCons (gV 3) fNil)) F_are_signs) (f2 eqS (fL (fCons (gV 3) fNil) lenW) (gV 1)))) fNil) allW)))
def F_need_code : List W → T W := defF 6 1 (sSeq (sIf (fOr (fNot (fTru (f1 (isiW (isOnly "tuple")) (gV 0)))) (fBl (f2 neS (fL (fCons (gV 0) fNil) lenW) (fun _ => .ok (.int 3))))) sNever sNil) (sSeq (sAsg (gV 0) (goTup 3 (goCons (goName 1) (goCons (goName 2) (goCons (goName 3) goNil))))) (sSeq (sIf (fOr (fNot (fTru (fL (fCons (gV 1) fNil) F_is_integer))) (fBl (f2 ninW (gV 1) (fun _ => .ok k_PRIMES)))) sNever sNil) (sSeq (sIf (fNot (fTru (fL (fCons (gV 2) (fCons (fun _ => .ok (.int 0)) (fCons (fun _ => .ok k_MOST_CODED) fNil))) F_is_between))) sNever sNil) (sSeq (sIf (fOr (fNot (fTru (f1 (isiW (isOnly "tuple")) (gV 3)))) (fNot (fBl (fCh leW leW (fun _ => .ok (.int 1)) (fL (fCons (gV 3) fNil) lenW) (fun _ => .ok k_MOST_CODE_LETTERS))))) sNever sNil) (sSeq (sFor (iL enT (fCons (gV 3) fNil)) (goTup 2 (goCons (goName 4) (goCons (goName 5) goNil))) (sIf (fOr (fNot (fTru (fL (fCons (gV 1) (fCons (gV 2) (fCons (gV 5) fNil))) F_is_letter))) (fBl (f2 neS (fL (fCons (gV 5) fNil) lenW) (fL (fCons (f2 ixW (gV 3) (fun _ => .ok (.int 0))) fNil) lenW)))) sNever sNil)) (sRet (gV 0))))))))
def F_is_lot_of : List W → T W := defF 3 2 (sSeq (sIf (fOr (fNot (fTru (f1 (isiW (isOnly "tuple")) (gV 1)))) (fNot (fTru (fL (fCons (fComp [2] (iOf tupW (gV 1)) (goName 2) fYes (fL (fCons (gV 2) (fCons (fun _ => .ok (.int 0)) (fCons (f2 subW (fL (fCons (f2 ixW (gV 0) (fun _ => .ok (.int 2))) fNil) lenW) (fun _ => .ok (.int 1))) fNil))) F_is_between)) fNil) allW)))) (sRet (fun _ => .ok (.bl false))) sNil) (sRet (fL (fCons (gV 1) fNil) F_are_rising)))
def F_need_lot_of : List W → T W := defF 2 2 (sIf (fNot (fTru (fL (fCons (gV 0) (fCons (gV 1) fNil)) F_is_lot_of))) sNever sNil)
def F_sign_by : List W → T W := defF 5 3 (sRet (fL (fCons (gV 0) (fCons (fL (fCons (fComp [3, 4] (iL zpW (fCons (gV 1) (fCons (gV 2) fNil))) (goTup 2 (goCons (goName 3) (goCons (goName 4) goNil))) fYes (f2 mulW (gV 3) (gV 4))) fNil) sumW) fNil)) F_rest_of))
def F_letters_in : List W → T W := defF 4 2 (sRet (fL (fCons (fComp [2] (iOf tupW (f2 ixW (gV 0) (fun _ => .ok (.int 2)))) (goName 2) fYes (fL (fCons (fComp [3] (iOf tupW (gV 2)) (goName 3) fYes (fL (fCons (f2 ixW (gV 0) (fun _ => .ok (.int 0))) (fCons (gV 3) (fCons (gV 1) fNil))) F_sign_by)) fNil) tupOfW)) fNil) tupOfW))
def F_letters_by : List W → T W := defF 3 2 (sSeq (sSet 2 (f2 ixW (fL (fCons (gV 0) fNil) F_need_code) (fun _ => .ok (.int 0)))) (sSeq (sExpr (fL (fCons (gV 2) (fCons (gV 1) fNil)) F_need_message)) (sSeq (sIf (fBl (f2 neS (fL (fCons (gV 1) fNil) lenW) (f2 ixW (gV 0) (fun _ => .ok (.int 1))))) sNever sNil) (sRet (fL (fCons (gV 0) (fCons (gV 1) fNil)) F_letters_in)))))
def F_cleared : List W → T W := defF 7 4 (sSeq (sSet 4 (f2 ixW (gV 1) (gV 3))) (sRet (fComp [5, 6] (iL zpW (fCons (gV 1) (fCons (gV 2) fNil))) (goTup 2 (goCons (goName 5) (goCons (goName 6) goNil))) fYes (fL (fCons (gV 0) (fCons (f2 subW (gV 5) (f2 mulW (gV 4) (gV 6))) fNil)) F_rest_of))))
def F_reduced : List W → T W := defF 11 2 (sSeq (sOwn 2 fNil) (sSeq (sFor (iOf lstW (gV 1)) (goName 3) (sSeq (onFrz 2 (sFor (iOf lstW (gV 2)) (goTup 2 (goCons (goName 4) (goCons (goName 5) goNil))) (sSet 3 (fComp [9, 10] (iL zpW (fCons (gV 3) (fCons (gV 5) fNil))) (goTup 2 (goCons (goName 9) (goCons (goName 10) goNil))) fYes (fL (fCons (gV 0) (fCons (f2 subW (gV 9) (f2 mulW (f2 ixW (gV 3) (gV 4)) (gV 10))) fNil)) F_rest_of))))) (sSeq (sSet 6 (fComp [4, 9] (iL enL (fCons (gV 3) fNil)) (goTup 2 (goCons (goName 4) (goCons (goName 9) goNil))) (fBl (f2 neS (gV 9) (fun _ => .ok (.int 0)))) (gV 4))) (sIf (fBl (f2 neS (gV 6) (fL fNil mkLst))) (sSeq (sSet 7 (fL (fCons (gV 0) (fCons (f2 ixW (gV 3) (f2 ixW (gV 6) (fun _ => .ok (.int 0)))) fNil)) F_inverse_in)) (sSeq (sSet 8 (fComp [9] (iOf lstW (gV 3)) (goName 9) fYes (fL (fCons (gV 0) (fCons (f2 mulW (gV 9) (gV 7)) fNil)) F_rest_of))) (sSeq (onFrz 2 (sOwnE 2 (fComp [4, 5] (iOf lstW (gV 2)) (goTup 2 (goCons (goName 4) (goCons (goName 5) goNil))) fYes (fL (fCons (gV 4) (fCons (fL (fCons (gV 0) (fCons (gV 5) (fCons (gV 8) (fCons (f2 ixW (gV 6) (fun _ => .ok (.int 0))) fNil)))) F_cleared) fNil)) mkTup)))) (sApp 2 (fCons (fL (fCons (f2 ixW (gV 6) (fun _ => .ok (.int 0))) (fCons (gV 8) fNil)) mkTup) fNil))))) sNil)))) (onFrz 2 (sRet (fL (fCons (gV 2) fNil) sortedV)))))
def F_rows_of : List W → T W := defF 4 2 (sRet (fComp2 [2, 3] (iOf tupW (gV 1)) (goName 2) fYes [3] (iOf tupW (f2 ixW (f2 ixW (gV 0) (fun _ => .ok (.int 2))) (gV 2))) (goName 3) fYes (fL (fCons (gV 3) fNil) lstOfW)))
def F_content_in : List W → T W := defF 2 2 (sRet (fL (fCons (fL (fCons (f2 ixW (gV 0) (fun _ => .ok (.int 0))) (fCons (fL (fCons (gV 0) (fCons (gV 1) fNil)) F_rows_of) fNil)) F_reduced) fNil) lenW))
def F_content : List W → T W := defF 2 2 (sSeq (sExpr (fL (fCons (fL (fCons (gV 0) fNil) F_need_code) (fCons (gV 1) fNil)) F_need_lot_of)) (sRet (fL (fCons (gV 0) (fCons (gV 1) fNil)) F_content_in)))
def F_told_in : List W → T W := defF 7 2 (sSeq (sOwnD 2) (sSeq (sFor (iOf lstW (fL (fCons (f2 ixW (gV 0) (fun _ => .ok (.int 0))) (fCons (fL (fCons (gV 0) (fCons (gV 1) fNil)) F_rows_of) fNil)) F_reduced)) (goTup 2 (goCons (goName 3) (goCons (goName 4) goNil))) (sIf (fBl (f2 eqS (fL (fCons (fComp [6] (iOf lstW (gV 4)) (goName 6) fYes (fL (fCons (f2 neS (gV 6) (fun _ => .ok (.int 0))) fNil) intW)) fNil) sumW) (fun _ => .ok (.int 1)))) (sDPutO 2 (gV 3) (fun _ => .ok (.bl true))) sNil)) (sSeq (sSet 5 (fun _ => .ok (.int 0))) (sSeq (sWhile (fun _ => 100) (onFrzN 2 (fBl (f2 inK (gV 5) (gV 2)))) (sSet 5 (f2 addW (gV 5) (fun _ => .ok (.int 1))))) (sRet (gV 5))))))
def F_told : List W → T W := defF 2 2 (sSeq (sExpr (fL (fCons (fL (fCons (gV 0) fNil) F_need_code) (fCons (gV 1) fNil)) F_need_lot_of)) (sRet (fL (fCons (gV 0) (fCons (gV 1) fNil)) F_told_in)))
def F_witness_in : List W → T W := defF 13 2 (sSeq (sAsg (fL (fCons (f2 ixW (gV 0) (fun _ => .ok (.int 0))) (fCons (f2 ixW (gV 0) (fun _ => .ok (.int 1))) fNil)) mkTup) (goTup 2 (goCons (goName 2) (goCons (goName 3) goNil)))) (sSeq (sSet 4 (fL (fCons (gV 0) (fCons (gV 1) fNil)) F_told_in)) (sSeq (sIf (fBl (f2 eqS (gV 4) (gV 3))) (sRet (fun _ => .ok .non)) sNil) (sSeq (sSet 5 (fL (fCons (gV 2) (fCons (fL (fCons (gV 0) (fCons (gV 1) fNil)) F_rows_of) fNil)) F_reduced)) (sSeq (sSet 8 (fDc [6, 7] (iOf lstW (gV 5)) (goTup 2 (goCons (goName 6) (goCons (goName 7) goNil))) fYes (gV 6) (gV 7))) (sSeq (sSet 9 (gV 4)) (sSeq (sIf (fBl (f2 inK (gV 4) (gV 8))) (sSet 9 (f2 ixW (fComp [6, 12] (iL enL (fCons (f2 ixK (gV 8) (gV 4)) fNil)) (goTup 2 (goCons (goName 6) (goCons (goName 12) goNil))) (fAnd (fBl (f2 neS (gV 12) (fun _ => .ok (.int 0)))) (fBl (f2 neS (gV 6) (gV 4)))) (gV 6)) (fun _ => .ok (.int 0)))) sNil) (sSeq (sOwnMul 10 (fL (fCons (fun _ => .ok (.int 0)) fNil) mkLst) (fL (fCons (gV 3) fNil) intW)) (sSeq (sAt 10 (gV 9) (fun _ => .ok (.int 1))) (sSeq (sFor (iOf lstW (gV 5)) (goTup 2 (goCons (goName 6) (goCons (goName 7) goNil))) (sAt 10 (gV 6) (fL (fCons (gV 2) (fCons (f2 subW (fun _ => .ok (.int 0)) (f2 ixW (gV 7) (gV 9))) fNil)) F_rest_of))) (sSeq (onFrz 10 (sSet 11 (fL (fCons (gV 2) (fCons (f2 ixW (gV 10) (gV 4)) fNil)) F_inverse_in))) (onFrz 10 (sRet (fL (fCons (fComp [12] (iOf lstW (gV 10)) (goName 12) fYes (fL (fCons (gV 2) (fCons (f2 mulW (gV 12) (gV 11)) fNil)) F_rest_of)) fNil) tupOfW))))))))))))))
def F_witness : List W → T W := defF 2 2 (sSeq (sExpr (fL (fCons (fL (fCons (gV 0) fNil) F_need_code) (fCons (gV 1) fNil)) F_need_lot_of)) (sRet (fL (fCons (gV 0) (fCons (gV 1) fNil)) F_witness_in)))
def F_lots_with : List W → T W := defF 5 2 (sSeq (sSet 2 (fL (fCons (fL fNil mkTup) fNil) mkLst)) (sSeq (sFor (iL rng1 (fCons (gV 0) fNil)) (goName 3) (sSet 2 (f2 addW (gV 2) (fComp [4] (iOf lstW (gV 2)) (goName 4) (fBl (f2 ltW (fL (fCons (gV 4) fNil) lenW) (gV 1))) (fL (fStar (gV 4) (fCons (gV 3) fNil)) mkTup))))) (sRet (fL (fCons (fComp [4] (iOf lstW (gV 2)) (goName 4) (fBl (f2 eqS (fL (fCons (gV 4) fNil) lenW) (gV 1))) (gV 4)) fNil) sortedV))))
def F_profile_by : List W → T W := defF 4 1 (sSeq (sSet 1 (fL (fCons (f2 ixW (gV 0) (fun _ => .ok (.int 2))) fNil) lenW)) (sRet (fComp [2] (iL rng2 (fCons (fun _ => .ok (.int 1)) (fCons (f2 addW (gV 1) (fun _ => .ok (.int 1))) fNil))) (goName 2) fYes (fL (fCons (fComp [3] (iOf lstW (fL (fCons (gV 1) (fCons (gV 2) fNil)) F_lots_with)) (goName 3) fYes (fL (fCons (fL (fCons (gV 0) (fCons (gV 3) fNil)) F_told_in) (fCons (gV 3) fNil)) mkTup)) fNil) minQ))))
def F_code_profile : List W → T W := defF 3 1 (sRet (fL (fCons (fComp [1, 2] (iOf lstW (fL (fCons (fL (fCons (gV 0) fNil) F_need_code) fNil) F_profile_by)) (goTup 2 (goCons (goName 1) (goCons (goName 2) goNil))) fYes (gV 1)) fNil) tupOfW))
def F__law_mixed : List W → T W := defF 2 2 (sSeq (sSet 0 (f2 modW (fL (fCons (gV 0) fNil) intW) (fun _ => .ok (.int 2147483647)))) (sRet (f2 modW (f2 mulW (f2 modW (f2 addW (f2 addW (f2 mulW (gV 0) (f2 addW (fun _ => .ok (.int 48271)) (f2 mulW (f2 mulW (fun _ => .ok (.int 2)) (gV 1)) (gV 1)))) (f2 mulW (fun _ => .ok (.int 69621)) (gV 1))) (fun _ => .ok (.int 11))) (fun _ => .ok (.int 2147483647))) (fun _ => .ok (.int 69621))) (fun _ => .ok (.int 2147483629)))))
def mixv (c k : Int) : Int := ((c % 2147483647) * (48271 + 2 * k * k) + 69621 * k + 11) % 2147483647 * 69621 % 2147483629
theorem mix_run {c k : Int} (h0 : 0 ≤ k) (h1 : k ≤ 2 ^ 61) : F__law_mixed [.int c, .int k] = .ok (.int (mixv c k)) := by
  have hc0 : 0 ≤ c % 2147483647 := Int.emod_nonneg _ (by decide)
  have hc1 : c % 2147483647 < 2147483647 := Int.emod_lt_of_pos _ (by decide)
  have m1 : mulOk 2 k = true := mulOk_of (a := 2) (b := 62) (by decide) (by omega) (by decide) (by decide) (by decide)
  have m2 : mulOk (2 * k) k = true := mulOk_of (a := 64) (b := 62) (by omega) (by omega) (by decide) (by decide) (by decide)
  have hkk : (2 * k * k).natAbs < 2 ^ 126 := wide_lt (a := 64) (b := 62) (by omega) (by omega)
  have m3 : mulOk (c % 2147483647) (48271 + 2 * k * k) = true := mulOk_of (a := 32) (b := 127) (by omega) (by omega) (by decide) (by decide) (by decide)
  have m4 : mulOk 69621 k = true := mulOk_of (a := 20) (b := 62) (by decide) (by omega) (by decide) (by decide) (by decide)
  have hr0 : 0 ≤ ((c % 2147483647) * (48271 + 2 * k * k) + 69621 * k + 11) % 2147483647 := Int.emod_nonneg _ (by decide)
  have hr1 : ((c % 2147483647) * (48271 + 2 * k * k) + 69621 * k + 11) % 2147483647 < 2147483647 := Int.emod_lt_of_pos _ (by decide)
  have m5 : mulOk (((c % 2147483647) * (48271 + 2 * k * k) + 69621 * k + 11) % 2147483647) 69621 = true := mulOk_of (a := 32) (b := 20) (by omega) (by decide) (by decide) (by decide) (by decide)
  simp [F__law_mixed, defF, startE, endOf, m1, m2, m3, m4, m5, mixv]
theorem mixv_lt (c k : Int) : 0 ≤ mixv c k ∧ mixv c k < 2147483629 := ⟨Int.emod_nonneg _ (by decide), Int.emod_lt_of_pos _ (by decide)⟩
def F__law_of : List W → T W := defF 2 2 (sRet (f2 ixW (gV 1) (fL (fCons (gV 0) (fCons (fL (fCons (gV 1) fNil) lenW) fNil)) F__law_draw)))
def F__law_back : List W → T W := defF 3 2 (sRet (f2 ixW (fComp [2] (iL rng2 (fCons (fun _ => .ok (.int 1)) (fCons (gV 0) fNil))) (goName 2) (fBl (f2 eqS (f2 modW (fL (fCons (f2 mulW (gV 2) (gV 1)) fNil) intW) (gV 0)) (fun _ => .ok (.int 1)))) (gV 2)) (fun _ => .ok (.int 0))))
def F__law_prime : List W → T W := defF 1 1 (sRet (f2 ixW (fL (fCons (fun _ => .ok (.int 11)) (fCons (fun _ => .ok (.int 13)) (fCons (fun _ => .ok (.int 17)) (fCons (fun _ => .ok (.int 19)) (fCons (fun _ => .ok (.int 23)) fNil))))) mkLst) (fL (fCons (gV 0) (fCons (fun _ => .ok (.int 5)) fNil)) F__law_draw)))
def F__law_message : List W → T W := defF 4 3 (sRet (fL (fCons (fComp [3] (iL rng1 (fCons (gV 2) fNil)) (goName 3) fYes (fL (fCons (gV 0) (fCons (gV 1) fNil)) F__law_draw)) fNil) tupOfW))
def F__law_rank : List W → T W := defF 13 2 (sSeq (sPar 3 4 (fCons (fComp [2] (iOf lstW (gV 1)) (goName 2) fYes (fL (fCons (gV 2) fNil) lstOfW)) (fCons (fun _ => .ok (.int 0)) fNil))) (sSeq (sFor (iL rng1 (fCons (fIf (fBl (f2 neS (gV 3) (fL fNil mkLst))) (fL (fCons (f2 ixW (gV 3) (fun _ => .ok (.int 0))) fNil) lenW) (fun _ => .ok (.int 0))) fNil)) (goName 5) (sSeq (sSet 6 (fComp [2] (iOf lstW (gV 3)) (goName 2) (fBl (f2 neS (f2 ixW (gV 2) (gV 5)) (fun _ => .ok (.int 0)))) (gV 2))) (sIf (fBl (f2 neS (gV 6) (fL fNil mkLst))) (sSeq (sOwnLast 7 4 8 (f2 ixW (gV 6) (fun _ => .ok (.int 0))) (f2 addW (gV 4) (fun _ => .ok (.int 1)))) (sSeq (sSet 9 (fL (fCons (gV 0) (fCons (f2 ixW (gV 7) (gV 5)) fNil)) F__law_back)) (sSeq (sFor (iOf lstW (gV 3)) (goName 2) (sIf (fBl (f2 neS (gV 2) (gV 7))) (sSeq (sSet 10 (f2 mulW (f2 ixW (gV 2) (gV 5)) (gV 9))) (sApp 8 (fCons (fComp [11, 12] (iL zpW (fCons (gV 2) (fCons (gV 7) fNil))) (goTup 2 (goCons (goName 11) (goCons (goName 12) goNil))) fYes (f2 modW (fL (fCons (f2 subW (gV 11) (f2 mulW (gV 10) (gV 12))) fNil) intW) (gV 0))) fNil))) sNil)) (onFrz 8 (sSet 3 (fL (fCons (gV 8) fNil) lstOfW)))))) sNil))) (sRet (gV 4))))
def F__law_forms : List W → T W := defF 5 2 (sSeq (sSet 2 (fL fNil mkLst)) (sSeq (sFor (iOf tupW (gV 1)) (goName 3) (sSet 2 (f2 addW (gV 2) (fComp [4] (iOf tupW (f2 ixW (f2 ixW (gV 0) (fun _ => .ok (.int 2))) (gV 3))) (goName 4) fYes (fL (fCons (gV 4) fNil) lstOfW))))) (sRet (gV 2))))
def F__law_reach : List W → T W := defF 10 2 (sSeq (sAsg (gV 0) (goTup 3 (goCons (goName 2) (goCons (goName 3) (goCons (goName 4) goNil))))) (sSeq (sPar 5 6 (fCons (fL (fCons (gV 0) (fCons (gV 1) fNil)) F__law_forms) (fCons (fun _ => .ok (.int 0)) fNil))) (sSeq (sFor (iL rng1 (fCons (gV 3) fNil)) (goName 7) (sSeq (sSet 8 (fComp [9] (iL rng1 (fCons (gV 3) fNil)) (goName 9) fYes (fL (fCons (f2 eqS (gV 9) (gV 7)) fNil) intW))) (sIf (fAnd (fBl (f2 eqS (gV 6) (gV 7))) (fAnd (fBl (f2 neS (gV 5) (fL fNil mkLst))) (fBl (f2 eqS (fL (fCons (gV 2) (fCons (f2 addW (gV 5) (fL (fCons (gV 8) fNil) mkLst)) fNil)) F__law_rank) (fL (fCons (gV 2) (fCons (gV 5) fNil)) F__law_rank))))) (sSet 6 (f2 addW (gV 7) (fun _ => .ok (.int 1)))) sNil))) (sRet (gV 6)))))
def F__law_lots : List W → T W := defF 5 2 (sSeq (sSet 2 (fL (fCons (fL fNil mkTup) fNil) mkLst)) (sSeq (sFor (iL rng1 (fCons (gV 0) fNil)) (goName 3) (sSet 2 (f2 addW (gV 2) (fComp [4] (iOf lstW (gV 2)) (goName 4) fYes (f2 addW (gV 4) (fL (fCons (gV 3) fNil) mkTup)))))) (sRet (fL (fCons (fComp [4] (iOf lstW (gV 2)) (goName 4) (fBl (f2 eqS (fL (fCons (gV 4) fNil) lenW) (gV 1))) (gV 4)) fNil) sortedV))))
def F__law_least : List W → T W := defF 4 1 (sSeq (sSet 1 (fL (fCons (f2 ixW (gV 0) (fun _ => .ok (.int 2))) fNil) lenW)) (sRet (fL (fCons (fComp [2] (iL rng2 (fCons (fun _ => .ok (.int 1)) (fCons (f2 addW (gV 1) (fun _ => .ok (.int 1))) fNil))) (goName 2) fYes (fL (fCons (fComp [3] (iOf lstW (fL (fCons (gV 1) (fCons (gV 2) fNil)) F__law_lots)) (goName 3) fYes (fL (fCons (gV 0) (fCons (gV 3) fNil)) F__law_reach)) fNil) minQ)) fNil) tupOfW)))
def F__law_code : List W → T W := defF 16 1 (sSeq (sAsg (fL (fCons (fL (fCons (gV 0) fNil) F__law_prime) (fCons (fL (fCons (gV 0) (fCons (fun _ => .ok (.int 6)) fNil)) F__law_draw) fNil)) mkTup) (goTup 2 (goCons (goName 1) (goCons (goName 2) goNil)))) (sSeq (sSet 4 (fComp [3] (iL rng1 (fCons (f2 addW (fun _ => .ok (.int 1)) (fL (fCons (gV 0) (fCons (fun _ => .ok (.int 3)) fNil)) F__law_draw)) fNil)) (goName 3) fYes (fL (fCons (gV 0) (fCons (gV 1) (fCons (gV 2) fNil))) F__law_message))) (sSeq (sOwnPar 5 6 (fCons (fL (fCons (gV 0) (fCons (fun _ => .ok (.int 3)) fNil)) F__law_draw) fNil)) (sSeq (sFor (iL rng1 (fCons (f2 addW (fun _ => .ok (.int 1)) (fL (fCons (gV 0) (fCons (fun _ => .ok (.int 4)) fNil)) F__law_draw)) fNil)) (goName 3) (sSeq (sOwn 7 fNil) (sSeq (sFor (iL rng1 (fCons (gV 6) fNil)) (goName 8) (sSeq (sSet 9 (fL (fCons (gV 0) (fCons (fun _ => .ok (.int 3)) fNil)) F__law_draw)) (sSeq (sPar 10 11 (fCons (fL (fCons (gV 0) (fCons (gV 4) fNil)) F__law_of) (fCons (fL (fCons (gV 0) (fCons (gV 4) fNil)) F__law_of) fNil))) (sIf (fBl (f2 eqS (gV 9) (fun _ => .ok (.int 0)))) (sApp 7 (fCons (fL (fCons (fComp [13, 14] (iL zpW (fCons (gV 10) (fCons (gV 11) fNil))) (goTup 2 (goCons (goName 13) (goCons (goName 14) goNil))) fYes (f2 modW (fL (fCons (f2 addW (gV 13) (gV 14)) fNil) intW) (gV 1))) fNil) tupOfW) fNil)) (sIf (fBl (f2 eqS (gV 9) (fun _ => .ok (.int 1)))) (sApp 7 (fCons (fL (fCons (gV 0) (fCons (gV 1) (fCons (gV 2) fNil))) F__law_message) fNil)) (sSeq (sSet 12 (fL (fCons (gV 0) (fCons (f2 addW (fun _ => .ok (.int 1)) (gV 2)) fNil)) F__law_draw)) (sApp 7 (fCons (fL (fCons (fComp [15] (iL rng1 (fCons (gV 2) fNil)) (goName 15) fYes (fL (fCons (f2 eqS (gV 12) (gV 15)) fNil) intW)) fNil) tupOfW) fNil)))))))) (onFrz 7 (sApp 5 (fCons (fL (fCons (gV 7) fNil) tupOfW) fNil)))))) (onFrz 5 (sRet (fL (fCons (gV 1) (fCons (gV 2) (fCons (fL (fCons (gV 5) fNil) tupOfW) fNil))) mkTup)))))))
def F__law_is_witness : List W → T W := defF 10 3 (sSeq (sAsg (gV 0) (goTup 3 (goCons (goName 3) (goCons (goName 4) (goCons (goName 5) goNil))))) (sSeq (sSet 6 (fL (fCons (gV 0) (fCons (gV 1) fNil)) F__law_reach)) (sSeq (sIf (fOr (fNot (fTru (f1 (isiW (isOnly "tuple")) (gV 2)))) (fOr (fBl (f2 neS (fL (fCons (gV 2) fNil) lenW) (gV 4))) (fBl (f2 eqS (gV 6) (gV 4))))) (sRet (fun _ => .ok (.bl false))) sNil) (sSeq (sIf (fOr (fBl (f2 neS (fSl (gV 2) pNo (pSome (gV 6))) (f2 mulTZ (fL (fCons (fun _ => .ok (.int 0)) fNil) mkTup) (gV 6)))) (fBl (f2 neS (f2 ixW (gV 2) (gV 6)) (fun _ => .ok (.int 1))))) (sRet (fun _ => .ok (.bl false))) sNil) (sSeq (sFor (iOf lstW (fL (fCons (gV 0) (fCons (gV 1) fNil)) F__law_forms)) (goName 7) (sIf (fBl (f2 neS (f2 modW (fL (fCons (fL (fCons (fComp [8, 9] (iL zbW (fCons (gV 7) (fCons (gV 2) fNil))) (goTup 2 (goCons (goName 8) (goCons (goName 9) goNil))) fYes (f2 mulW (gV 8) (gV 9))) fNil) sumW) fNil) intW) (gV 3)) (fun _ => .ok (.int 0)))) (sRet (fun _ => .ok (.bl false))) sNil)) (sRet (f2 eqS (fComp [8] (iOf tupW (gV 2)) (goName 8) (fNot (fBl (fCh leW ltW (fun _ => .ok (.int 0)) (gV 8) (gV 3)))) (fun _ => .ok (.int 1))) (fL fNil mkLst))))))))
def F__law_code_right : List W → T W := defF 17 2 (sSeq (sAsg (gV 1) (goTup 3 (goCons (goName 2) (goCons (goName 3) (goCons (goName 4) goNil))))) (sSeq (sIf (fBl (f2 neS (fL (fCons (gV 1) fNil) F_need_code) (gV 1))) (sRet (fun _ => .ok (.bl false))) sNil) (sSeq (sFor (iL rng1 (fCons (fun _ => .ok (.int 3)) fNil)) (goName 5) (sSeq (sOwnPar2 6 7 (fL (fCons (gV 0) (fCons (gV 2) (fCons (gV 3) fNil))) F__law_message)) (sSeq (sFor (iOf tupW (gV 4)) (goName 8) (sSeq (sSet 9 (fComp [14] (iOf tupW (gV 8)) (goName 14) fYes (fL (fCons (fComp [15, 16] (iL zpW (fCons (gV 14) (fCons (gV 6) fNil))) (goTup 2 (goCons (goName 15) (goCons (goName 16) goNil))) fYes (f2 mulW (gV 15) (gV 16))) fNil) sumW))) (sApp 7 (fCons (fL (fCons (fComp [15] (iOf lstW (gV 9)) (goName 15) fYes (f2 modW (fL (fCons (gV 15) fNil) intW) (gV 2))) fNil) tupOfW) fNil)))) (sIf (onFrzN 7 (fOr (fBl (f2 neS (fL (fCons (gV 1) (fCons (gV 6) fNil)) F_letters_by) (fL (fCons (gV 7) fNil) tupOfW))) (fBl (f2 neS (fL (fCons (gV 1) (fCons (gV 6) fNil)) F_letters_by) (fL (fCons (gV 7) fNil) tupOfW))))) (sRet (fun _ => .ok (.bl false))) sNil)))) (sSeq (sFor (iL rng1 (fCons (f2 addW (fL (fCons (gV 4) fNil) lenW) (fun _ => .ok (.int 1))) fNil)) (goName 10) (sFor (iOf lstW (fL (fCons (fL (fCons (gV 4) fNil) lenW) (fCons (gV 10) fNil)) F__law_lots)) (goName 11) (sSeq (sSet 12 (fL (fCons (gV 1) (fCons (gV 11) fNil)) F__law_reach)) (sSeq (sIf (fBl (f2 neS (fL (fCons (gV 1) (fCons (gV 11) fNil)) F_content) (fL (fCons (gV 2) (fCons (fL (fCons (gV 1) (fCons (gV 11) fNil)) F__law_forms) fNil)) F__law_rank))) (sRet (fun _ => .ok (.bl false))) sNil) (sSeq (sIf (fOr (fBl (f2 neS (fL (fCons (gV 1) (fCons (gV 11) fNil)) F_told) (gV 12))) (fBl (f2 neS (fL (fCons (gV 1) (fCons (gV 11) fNil)) F_told) (gV 12)))) (sRet (fun _ => .ok (.bl false))) sNil) (sSeq (sSet 13 (fL (fCons (gV 1) (fCons (gV 11) fNil)) F_witness)) (sSeq (sIf (fOr (fBl (f2 neS (f2 isW (gV 13) (fun _ => .ok .non)) (f2 eqS (gV 12) (gV 3)))) (fBl (f2 neS (fL (fCons (gV 1) (fCons (gV 11) fNil)) F_witness) (gV 13)))) (sRet (fun _ => .ok (.bl false))) sNil) (sIf (fAnd (fBl (f2 isntW (gV 13) (fun _ => .ok .non))) (fNot (fTru (fL (fCons (gV 1) (fCons (gV 11) (fCons (gV 13) fNil))) F__law_is_witness)))) (sRet (fun _ => .ok (.bl false))) sNil)))))))) (sSeq (sSet 7 (fL (fCons (gV 1) fNil) F__law_least)) (onFrz 7 (sRet (fAndV (f2 eqS (fL (fCons (gV 1) fNil) F_code_profile) (gV 7)) (f2 eqS (fL (fCons (gV 1) fNil) F_code_profile) (gV 7))))))))))
def g_law : En → T (Fl × En) := (sSeq (sFor (iL rng1 (fCons (fun _ => .ok (.int 5)) fNil)) (goName 2) (sIf (fNot (fTru (fL (fCons (gV 1) (fCons (fL (fCons (gV 1) fNil) F__law_code) fNil)) F__law_code_right))) (sRet (fun _ => .ok (.bl false))) sNil)) (sSeq (sAsg (fL (fCons (fL (fCons (fL (fCons (fun _ => .ok (.int 1)) fNil) mkTup) fNil) mkTup) (fCons (fL (fCons (fL (fCons (fun _ => .ok (.int 0)) fNil) mkTup) fNil) mkTup) fNil)) mkTup) (goTup 2 (goCons (goName 3) (goCons (goName 4) goNil)))) (sSeq (sIf (fBl (f2 neS (fL (fCons (fL (fCons (fun _ => .ok (.int 11)) (fCons (fun _ => .ok (.int 1)) (fCons (f2 addW (f2 mulTZ (fL (fCons (gV 3) fNil) mkTup) (fun _ => .ok (.int 4))) (fL (fCons (gV 4) fNil) mkTup)) fNil))) mkTup) fNil) F_code_profile) (fL (fCons (fun _ => .ok (.int 0)) (fCons (fun _ => .ok (.int 1)) (fCons (fun _ => .ok (.int 1)) (fCons (fun _ => .ok (.int 1)) (fCons (fun _ => .ok (.int 1)) fNil))))) mkTup))) (sRet (fun _ => .ok (.bl false))) sNil) (sSeq (sIf (fBl (f2 neS (fL (fCons (fL (fCons (fun _ => .ok (.int 11)) (fCons (fun _ => .ok (.int 1)) (fCons (f2 addW (f2 mulTZ (fL (fCons (gV 3) fNil) mkTup) (fun _ => .ok (.int 3))) (f2 mulTZ (fL (fCons (gV 4) fNil) mkTup) (fun _ => .ok (.int 2)))) fNil))) mkTup) fNil) F_code_profile) (fL (fCons (fun _ => .ok (.int 0)) (fCons (fun _ => .ok (.int 0)) (fCons (fun _ => .ok (.int 1)) (fCons (fun _ => .ok (.int 1)) (fCons (fun _ => .ok (.int 1)) fNil))))) mkTup))) (sRet (fun _ => .ok (.bl false))) sNil) (sSeq (sSet 5 (fL (fCons (fun _ => .ok (.int 11)) (fCons (fun _ => .ok (.int 3)) (fCons (fL (fCons (fL (fCons (fL (fCons (fun _ => .ok (.int 1)) (fCons (fun _ => .ok (.int 0)) (fCons (fun _ => .ok (.int 0)) fNil))) mkTup) (fCons (fL (fCons (fun _ => .ok (.int 0)) (fCons (fun _ => .ok (.int 1)) (fCons (fun _ => .ok (.int 2)) fNil))) mkTup) fNil)) mkTup) (fCons (fL (fCons (fL (fCons (fun _ => .ok (.int 1)) (fCons (fun _ => .ok (.int 0)) (fCons (fun _ => .ok (.int 0)) fNil))) mkTup) (fCons (fL (fCons (fun _ => .ok (.int 0)) (fCons (fun _ => .ok (.int 1)) (fCons (fun _ => .ok (.int 3)) fNil))) mkTup) fNil)) mkTup) (fCons (fL (fCons (fL (fCons (fun _ => .ok (.int 2)) (fCons (fun _ => .ok (.int 0)) (fCons (fun _ => .ok (.int 0)) fNil))) mkTup) (fCons (fL (fCons (fun _ => .ok (.int 0)) (fCons (fun _ => .ok (.int 2)) (fCons (fun _ => .ok (.int 4)) fNil))) mkTup) fNil)) mkTup) fNil))) mkTup) fNil))) mkTup)) (sSeq (sIf (fOr (fBl (f2 neS (fL (fCons (gV 5) fNil) F_code_profile) (fL (fCons (fun _ => .ok (.int 1)) (fCons (fun _ => .ok (.int 1)) (fCons (fun _ => .ok (.int 3)) fNil))) mkTup))) (fOr (fBl (f2 neS (fL (fCons (gV 5) (fCons (fL (fCons (fun _ => .ok (.int 0)) (fCons (fun _ => .ok (.int 2)) fNil)) mkTup) fNil)) F_content) (fun _ => .ok (.int 2)))) (fBl (f2 neS (fL (fCons (gV 5) (fCons (fL (fCons (fun _ => .ok (.int 0)) (fCons (fun _ => .ok (.int 1)) fNil)) mkTup) fNil)) F_told) (fun _ => .ok (.int 3)))))) (sRet (fun _ => .ok (.bl false))) sNil) (sSeq (sIf (fOr (fBl (f2 neS (fL (fCons (gV 5) (fCons (fL (fCons (fun _ => .ok (.int 0)) (fCons (fun _ => .ok (.int 2)) fNil)) mkTup) fNil)) F_witness) (fL (fCons (fun _ => .ok (.int 0)) (fCons (fun _ => .ok (.int 1)) (fCons (fun _ => .ok (.int 5)) fNil))) mkTup))) (fOr (fBl (f2 isntW (fL (fCons (gV 5) (fCons (fL (fCons (fun _ => .ok (.int 0)) (fCons (fun _ => .ok (.int 1)) fNil)) mkTup) fNil)) F_witness) (fun _ => .ok .non))) (fBl (f2 neS (fL (fCons (gV 5) (fCons (fL fNil mkTup) fNil)) F_told) (fun _ => .ok (.int 0)))))) (sRet (fun _ => .ok (.bl false))) sNil) (sSeq (sIf (fBl (f2 neS (fL (fCons (fL (fCons (fun _ => .ok (.int 13)) (fCons (fun _ => .ok (.int 0)) (fCons (f2 mulTZ (fL (fCons (fL fNil mkTup) fNil) mkTup) (fun _ => .ok (.int 6))) fNil))) mkTup) fNil) F_code_profile) (f2 mulTZ (fL (fCons (fun _ => .ok (.int 0)) fNil) mkTup) (fun _ => .ok (.int 6))))) (sRet (fun _ => .ok (.bl false))) sNil) (sRet (f2 eqS (fL (fCons (gV 5) (fCons (fL (fCons (fun _ => .ok (.int 1)) (fCons (fun _ => .ok (.int 2)) (fCons (fun _ => .ok (.int 3)) fNil))) mkTup) fNil)) F_letters_by) (fL (fCons (fL (fCons (fun _ => .ok (.int 1)) (fCons (fun _ => .ok (.int 8)) fNil)) mkTup) (fCons (fL (fCons (fun _ => .ok (.int 1)) (fCons (fun _ => .ok (.int 0)) fNil)) mkTup) (fCons (fL (fCons (fun _ => .ok (.int 2)) (fCons (fun _ => .ok (.int 5)) fNil)) mkTup) fNil))) mkTup)))))))))))
end Lw
namespace Rt
end Rt
namespace Lw
open PySem L2 PF Rt
section
variable {K : Type} [Lean.Grind.CommRing K]
/-- sums of multiples of some rows -/
inductive RSp (R : List (Nat → K)) : (Nat → K) → Prop
  | zero : RSp R (fun _ => 0)
  | sub {v r : Nat → K} (a : K) : RSp R v → r ∈ R → RSp R (fun i => v i - a * r i)
theorem RSp.cast {R : List (Nat → K)} {v w : Nat → K} (h : RSp R v) (e : ∀ i, w i = v i) : RSp R w := by
  have : w = v := funext e
  rw [this]; exact h
theorem RSp.comb {R : List (Nat → K)} {u v : Nat → K} (a : K) (hu : RSp R u) (hv : RSp R v) : RSp R (fun i => u i - a * v i) := by
  induction hv generalizing u a with
  | zero => exact hu.cast fun i => by grind
  | sub b hv hr ih => exact (RSp.sub (-(a * b)) (ih a hu) hr).cast fun i => by grind
theorem RSp.mem {R : List (Nat → K)} {r : Nat → K} (h : r ∈ R) : RSp R r := (RSp.sub (-1) RSp.zero h).cast fun i => by grind
theorem RSp.smul {R : List (Nat → K)} {v : Nat → K} (a : K) (h : RSp R v) : RSp R (fun i => v i * a) := (RSp.comb (-a) RSp.zero h).cast fun i => by grind
theorem RSp.le {R R' : List (Nat → K)} {v : Nat → K} (h : RSp R v) (hR : ∀ r ∈ R, RSp R' r) : RSp R' v := by
  induction h with
  | zero => exact RSp.zero
  | sub a hv hr ih => exact RSp.comb a ih (hR _ hr)
theorem RSp.mono {R R' : List (Nat → K)} {v : Nat → K} (h : RSp R v) (hR : ∀ r ∈ R, r ∈ R') : RSp R' v := h.le fun r hr => RSp.mem (hR r hr)
theorem RSp.van {R : List (Nat → K)} {v : Nat → K} (h : RSp R v) (n : Nat) (hR : ∀ r ∈ R, r n = 0) : v n = 0 := by
  induction h with
  | zero => rfl
  | sub a hv hr ih => have := hR _ hr; grind
/-- a place at which some sum of multiples begins -/
def RPiv (R : List (Nat → K)) (j : Nat) : Prop := ∃ v, RSp R v ∧ (∀ i, i < j → v i = 0) ∧ v j ≠ 0
theorem RPiv.mono {R R' : List (Nat → K)} {j : Nat} (h : RPiv R j) (hR : ∀ v, RSp R v → RSp R' v) : RPiv R' j :=
  have ⟨v, h1, h2, h3⟩ := h
  ⟨v, hR v h1, h2, h3⟩
open Classical in
noncomputable def rcnt (P : Nat → Prop) : Nat → Nat
  | 0 => 0
  | n + 1 => rcnt P n + (if P n then 1 else 0)
theorem rcnt_mono {P Q : Nat → Prop} : ∀ n, (∀ i, i < n → P i → Q i) → rcnt P n ≤ rcnt Q n
  | 0, _ => Nat.le_refl _
  | n + 1, h => by
    have ih := rcnt_mono n fun i hi => h i (by omega)
    have := h n (by omega)
    unfold rcnt
    by_cases hp : P n
    · rw [if_pos hp, if_pos (this hp)]; omega
    · rw [if_neg hp]; split <;> omega
theorem rcnt_congr {P Q : Nat → Prop} (n : Nat) (h : ∀ i, i < n → (P i ↔ Q i)) : rcnt P n = rcnt Q n :=
  Nat.le_antisymm (rcnt_mono n fun i hi => (h i hi).mp) (rcnt_mono n fun i hi => (h i hi).mpr)
theorem rcnt_eq {P Q : Nat → Prop} : ∀ n, (∀ i, i < n → P i → Q i) → rcnt P n = rcnt Q n → ∀ i, i < n → Q i → P i
  | 0, _, _, i, hi, _ => absurd hi (by omega)
  | n + 1, h, he, i, hi, hq => by
    have m := rcnt_mono n fun i hi => h i (by omega)
    have hn := h n (by omega)
    unfold rcnt at he
    rcases Nat.lt_or_ge i n with hl | hl
    · refine rcnt_eq n (fun i hi => h i (by omega)) ?_ i hl hq
      split at he <;> split at he <;> first | omega | (rename_i a b; exact absurd (hn a) b)
    · have e : i = n := by omega
      subst e
      by_cases hp : P i
      · exact hp
      · rw [if_neg hp, if_pos hq] at he; omega
theorem rcnt_no {P : Nat → Prop} : ∀ n, (∀ i, i < n → ¬ P i) → rcnt P n = 0
  | 0, _ => rfl
  | n + 1, h => by
    have := rcnt_no n fun i hi => h i (by omega)
    unfold rcnt
    rw [if_neg (h n (by omega)), this]
theorem rcnt_one {P : Nat → Prop} {a : Nat} (hP : ¬ P a) : ∀ n, a < n → rcnt (fun i => i = a ∨ P i) n = rcnt P n + 1
  | 0, h => absurd h (by omega)
  | n + 1, h => by
    unfold rcnt
    rcases Nat.lt_or_ge a n with hl | hl
    · rw [rcnt_one hP n hl]
      have : (n = a ∨ P n) ↔ P n := ⟨fun h => h.resolve_left (by omega), .inr⟩
      by_cases hp : P n
      · rw [if_pos hp, if_pos (.inr hp)]
      · rw [if_neg hp, if_neg fun h => hp (this.mp h)]
    · have e : a = n := by omega
      subst e
      rw [if_pos (.inl rfl), if_neg hP, rcnt_congr a (P := fun i => i = a ∨ P i) (Q := P) fun i hi => ⟨fun h => h.resolve_left (by omega), .inr⟩]
theorem rcnt_list {n : Nat} : ∀ {l : List Nat}, l.Nodup → (∀ a ∈ l, a < n) → rcnt (· ∈ l) n = l.length
  | [], _, _ => rcnt_no n fun i _ h => by cases h
  | a :: l, h, hl => by
    have ⟨h1, h2⟩ := List.nodup_cons.mp h
    have e := rcnt_congr n (P := (· ∈ a :: l)) (Q := fun i => i = a ∨ i ∈ l) fun i _ => List.mem_cons
    rw [e, rcnt_one h1 n (hl a (by simp)), rcnt_list h2 fun b hb => hl b (by simp [hb])]; rfl
def RLft (R : List (Nat → K)) (t : Nat) (L : List (Nat → K)) : Prop := ∀ v, RSp L v ↔ RSp R v ∧ ∀ i, i < t → v i = 0
theorem RLft.zero (R : List (Nat → K)) : RLft R 0 R := fun v => ⟨fun h => ⟨h, fun i hi => absurd hi (by omega)⟩, fun h => h.1⟩
theorem RLft.none {R L : List (Nat → K)} {t : Nat} (h : RLft R t L) (hL : ∀ r ∈ L, r t = 0) : RLft R (t + 1) L ∧ ¬ RPiv R t := by
  refine ⟨fun v => ⟨fun hv => ⟨((h v).mp hv).1, fun i hi => ?_⟩, fun hv => (h v).mpr ⟨hv.1, fun i hi => hv.2 i (by omega)⟩⟩, ?_⟩
  · rcases Nat.lt_or_ge i t with hl | hl
    · exact ((h v).mp hv).2 i hl
    · have : i = t := by omega
      subst this
      exact hv.van _ hL
  · intro ⟨v, h1, h2, h3⟩
    exact h3 (((h v).mpr ⟨h1, h2⟩).van _ hL)
theorem RLft.some {R L L' : List (Nat → K)} {t : Nat} {f : Nat → K} {b : K} (h : RLft R t L) (hf : f ∈ L) (hb : f t * b = 1) (h0 : f t ≠ 0)
    (h1 : ∀ r ∈ L', ∃ s ∈ L, ∀ i, r i = s i - s t * b * f i) (h2 : ∀ s ∈ L, (∀ i, s i = f i) ∨ ∃ r ∈ L', ∀ i, r i = s i - s t * b * f i) :
    RLft R (t + 1) L' ∧ RPiv R t := by
  have sf := (h f).mp (RSp.mem hf)
  refine ⟨fun v => ⟨fun hv => ?_, fun hv => ?_⟩, f, sf.1, sf.2, h0⟩
  · have hv' : RSp L v := hv.le fun r hr => by
      obtain ⟨s, hs, e⟩ := h1 r hr
      exact (RSp.comb (s t * b) (RSp.mem hs) (RSp.mem hf)).cast e
    refine ⟨((h v).mp hv').1, fun i hi => ?_⟩
    rcases Nat.lt_or_ge i t with hl | hl
    · exact ((h v).mp hv').2 i hl
    · have : i = t := by omega
      subst this
      refine hv.van _ fun r hr => ?_
      obtain ⟨s, hs, e⟩ := h1 r hr
      rw [e]; grind
  · have hv' : RSp L v := (h v).mpr ⟨hv.1, fun i hi => hv.2 i (by omega)⟩
    have key : ∀ w, RSp L w → RSp L' (fun i => w i - w t * b * f i) := by
      intro w hw
      induction hw with
      | zero => exact RSp.zero.cast fun i => by grind
      | @sub v r a hv hr ih =>
        rcases h2 r hr with e | ⟨q, hq, e⟩
        · exact ih.cast fun i => by have h1 := e i; have h2 := e t; grind
        · exact (RSp.sub a ih hq).cast fun i => by have h1 := e i; grind
    exact (key v hv').cast fun i => by rw [hv.2 t (by omega)]; grind
def rred : List (Nat × (Nat → K)) → (Nat → K) → (Nat → K)
  | [], v => v
  | q :: F, v => rred F (fun i => v i - v q.1 * q.2 i)
theorem rred_sp {S : List (Nat → K)} : ∀ {F : List (Nat × (Nat → K))} {v : Nat → K}, (∀ q ∈ F, RSp S q.2) → (RSp S (rred F v) ↔ RSp S v)
  | [], v, _ => Iff.rfl
  | q :: F, v, h => by
    have hq := h q (by simp)
    refine (rred_sp (F := F) fun q hq => h q (by simp [hq])).trans ⟨fun hv => ?_, fun hv => RSp.comb _ hv hq⟩
    exact (RSp.comb (-(v q.1)) hv hq).cast fun i => by grind
theorem rred_keep {x : Nat} : ∀ {F : List (Nat × (Nat → K))} {v : Nat → K}, v x = 0 → (∀ q ∈ F, q.1 = x ∨ q.2 x = 0) → rred F v x = 0
  | [], v, h, _ => h
  | q :: F, v, h, hF => by
    refine rred_keep (F := F) ?_ fun q hq => hF q (by simp [hq])
    rcases hF q (by simp) with e | e
    · subst e; grind
    · grind
theorem rred_off {x : Nat} : ∀ {F : List (Nat × (Nat → K))} {v : Nat → K}, v x = 0 → (∀ q ∈ F, q.2 x = 0) → rred F v x = 0
  | [], v, h, _ => h
  | q :: F, v, h, hF => by
    refine rred_off (F := F) ?_ fun q hq => hF q (by simp [hq])
    have := hF q (by simp); grind
theorem rred_lin (a : K) (w : Nat → K) : ∀ (F : List (Nat × (Nat → K))) (v : Nat → K) (i : Nat), rred F (fun i => v i - a * w i) i = rred F v i - a * rred F w i
  | [], v, i => rfl
  | q :: F, v, i => by
    have := rred_lin a (fun i => w i - w q.1 * q.2 i) F (fun i => v i - v q.1 * q.2 i) i
    unfold rred
    rw [← this]
    congr 1
    funext j
    grind
theorem rred_same : ∀ {F : List (Nat × (Nat → K))} {v : Nat → K}, (∀ q ∈ F, v q.1 = 0) → ∀ i, rred F v i = v i
  | [], v, _, i => rfl
  | q :: F, v, h, i => by
    have e : (fun i => v i - v q.1 * q.2 i) = v := funext fun j => by have := h q (by simp); grind
    unfold rred
    rw [e]
    exact rred_same (fun q hq => h q (by simp [hq])) i
/-- a list of reduced rows for some rows -/
structure RRf (R : List (Nat → K)) (F : List (Nat × (Nat → K))) : Prop where
  sp : ∀ v, RSp (F.map Prod.snd) v ↔ RSp R v
  one : ∀ q ∈ F, q.2 q.1 = 1
  low : ∀ q ∈ F, ∀ i, i < q.1 → q.2 i = 0
  off : ∀ q ∈ F, ∀ q' ∈ F, q.1 ≠ q'.1 → q'.2 q.1 = 0
  same : ∀ q ∈ F, ∀ q' ∈ F, q.1 = q'.1 → q = q'
  nd : (F.map Prod.fst).Nodup
theorem RRf.nil : RRf ([] : List (Nat → K)) [] :=
  ⟨fun _ => Iff.rfl, by simp, by simp, by simp, by simp, List.nodup_nil⟩
theorem RRf.mem {R : List (Nat → K)} {F} (h : RRf R F) {q} (hq : q ∈ F) : RSp R q.2 := (h.sp _).mp (RSp.mem (List.mem_map_of_mem hq))
theorem RRf.red0 {R : List (Nat → K)} {F} (h : RRf R F) (v : Nat → K) {q} (hq : q ∈ F) : rred F v q.1 = 0 := by
  have aux : ∀ (G : List (Nat × (Nat → K))) (v : Nat → K), (∀ g ∈ G, g ∈ F) → q ∈ G → rred G v q.1 = 0 := by
    intro G
    induction G with
    | nil => intro v _ hq; cases hq
    | cons g G ih =>
      intro v hG hq
      rcases List.mem_cons.mp hq with e | e
      · subst e
        refine rred_keep (F := G) (by have := h.one _ (hG q (by simp)); grind) fun g hg => ?_
        by_cases e : q.1 = g.1
        · exact .inl e.symm
        · exact .inr (h.off q (hG q (by simp)) g (hG g (by simp [hg])) e)
      · exact ih _ (fun g hg => hG g (by simp [hg])) e
  exact aux F v (fun _ h => h) hq
theorem RRf.redSp {R : List (Nat → K)} {F} (h : RRf R F) {v : Nat → K} (hv : RSp R v) (i : Nat) : rred F v i = 0 := by
  have row : ∀ q ∈ F, ∀ i, rred F q.2 i = 0 := by
    intro q hq i
    have aux : ∀ (G : List (Nat × (Nat → K))), (∀ g ∈ G, g ∈ F) → q ∈ G → rred G q.2 i = 0 := by
      intro G
      induction G with
      | nil => intro _ hq; cases hq
      | cons g G ih =>
        intro hG hq
        by_cases e : g.1 = q.1
        · have e' := h.same g (hG g (by simp)) q (hG q hq) e
          subst e'
          have one := h.one g (hG g (by simp))
          unfold rred
          have z : (fun i => g.2 i - g.2 g.1 * g.2 i) = fun _ => 0 := funext fun j => by grind
          rw [z]
          exact rred_same (fun _ _ => rfl) i
        · have z := h.off g (hG g (by simp)) q (hG q hq) e
          unfold rred
          have z : (fun i => q.2 i - q.2 g.1 * g.2 i) = q.2 := funext fun j => by grind
          rw [z]
          rcases List.mem_cons.mp hq with e' | e'
          · exact absurd (by rw [e']) e
          · exact ih (fun g hg => hG g (by simp [hg])) e'
    exact aux F (fun _ h => h) hq
  replace hv := (h.sp v).mpr hv
  induction hv with
  | zero => exact rred_same (fun _ _ => rfl) i
  | @sub v r a hv hr ih =>
    obtain ⟨q, hq, e⟩ := List.mem_map.mp hr
    have h1 := ih
    have h2 := row q hq i
    rw [e] at h2
    rw [rred_lin, h1, h2]; grind
theorem RRf.zero {R : List (Nat → K)} {F} (h : RRf R F) {v : Nat → K} (hv : RSp R v) (hz : ∀ q ∈ F, v q.1 = 0) (i : Nat) : v i = 0 := by
  rw [← rred_same hz i]; exact h.redSp hv i
theorem RRf.piv {R : List (Nat → K)} {F} (h : RRf R F) (h1 : (1 : K) ≠ 0) {q} (hq : q ∈ F) : RPiv R q.1 :=
  ⟨q.2, h.mem hq, h.low q hq, by rw [h.one q hq]; exact h1⟩
theorem RRf.ofPiv {R : List (Nat → K)} {F} (h : RRf R F) {j : Nat} (hj : RPiv R j) : ∃ q ∈ F, q.1 = j := by
  obtain ⟨v, h1, h2, h3⟩ := hj
  by_cases he : ∃ q ∈ F, q.1 = j
  · exact he
  · exfalso
    have ne : ∀ q ∈ F, q.1 ≠ j := fun q hq e => he ⟨q, hq, e⟩
    have aux : ∀ (G : List (Nat × (Nat → K))) (v : Nat → K), (∀ g ∈ G, g ∈ F) → (∀ i, i < j → v i = 0) → rred G v j = v j := by
      intro G
      induction G with
      | nil => intro v _ _; rfl
      | cons g G ih =>
        intro v hG hv
        have hg := hG g (by simp)
        have step : ∀ i, i ≤ j → v i - v g.1 * g.2 i = v i := by
          intro i hi
          rcases Nat.lt_or_ge g.1 j with hl | hl
          · rw [hv _ hl]; grind
          · have := ne g hg
            rw [h.low g hg i (by omega)]; grind
        unfold rred
        rw [ih _ (fun g hg => hG g (by simp [hg])) (fun i hi => by rw [step i (by omega)]; exact hv i hi)]
        exact step j (by omega)
    exact h3 ((aux F v (fun _ h => h) h2).symm.trans (h.redSp h1 j))
theorem RRf.content {R : List (Nat → K)} {F} (h : RRf R F) (h1 : (1 : K) ≠ 0) {n : Nat} (hn : ∀ q ∈ F, q.1 < n) : F.length = rcnt (RPiv R) n := by
  rw [← List.length_map Prod.fst, ← rcnt_list h.nd fun a ha => by obtain ⟨q, hq, e⟩ := List.mem_map.mp ha; exact e ▸ hn q hq]
  refine rcnt_congr n fun i hi => ⟨fun hi => ?_, fun hi => ?_⟩
  · obtain ⟨q, hq, e⟩ := List.mem_map.mp hi; exact e ▸ h.piv h1 hq
  · obtain ⟨q, hq, e⟩ := h.ofPiv hi; exact e ▸ List.mem_map_of_mem hq
/-- the sign that is 1 at a place -/
def runit (k : Nat) : Nat → K := fun i => if i = k then 1 else 0
theorem RRf.single {R : List (Nat → K)} {F} (h : RRf R F) (h1 : (1 : K) ≠ 0) (k : Nat) : RSp R (runit k) ↔ ∃ q ∈ F, q.1 = k ∧ ∀ i, i ≠ k → q.2 i = 0 := by
  constructor
  · intro hu
    obtain ⟨q, hq, e⟩ := h.ofPiv ⟨runit k, hu, fun i (hi : i < k) => by simp [runit, show i ≠ k by omega], by simp [runit, h1]⟩
    refine ⟨q, hq, e, fun i hi => ?_⟩
    have := h.zero (RSp.comb 1 (h.mem hq) hu) (fun g hg => by
      by_cases e' : g.1 = q.1
      · have e'' := h.same g hg q hq e'
        subst e''
        rw [h.one g hg, e]; simp [runit]; grind
      · rw [h.off g hg q hq e']; simp [runit, show g.1 ≠ k from fun x => e' (x.trans e.symm)]; grind) i
    simp [runit, hi] at this
    grind
  · intro ⟨q, hq, e, hz⟩
    refine (h.mem hq).cast fun i => ?_
    by_cases hi : i = k
    · subst hi; simp [runit]; rw [← e]; exact (h.one q hq).symm
    · simp [runit, hi, hz i hi]
theorem RRf.rank {R : List (Nat → K)} {F} (h : RRf R F) {n : Nat} {e : Nat → K} (hR : ∀ r ∈ R, ∀ i, n ≤ i → r i = 0) (he : ∀ i, n ≤ i → e i = 0) :
    rcnt (RPiv (R ++ [e])) n = rcnt (RPiv R) n ↔ RSp R e := by
  constructor
  · intro hc
    have back := rcnt_eq n (fun i _ (hi : RPiv R i) => hi.mono fun v hv => hv.mono fun r hr => List.mem_append_left [e] hr) hc.symm
    have hw : RSp (R ++ [e]) (rred F e) := (rred_sp fun q hq => (h.mem hq).mono fun r hr => List.mem_append_left [e] hr).mpr (RSp.mem (by simp))
    have hout : ∀ i, n ≤ i → rred F e i = 0 := fun i hi => rred_off (he i hi) fun q hq => (h.mem hq).van i fun r hr => hR r hr i hi
    have hall : ∀ i, rred F e i = 0 := by
      intro i
      induction i using Nat.strongRecOn with
      | _ i ih =>
        rcases Nat.lt_or_ge i n with hl | hl
        · by_cases hz : rred F e i = 0
          · exact hz
          · obtain ⟨q, hq, e'⟩ := h.ofPiv (back i hl ⟨_, hw, ih, hz⟩)
            rw [← e']; exact h.red0 e hq
        · exact hout i hl
    refine (rred_sp fun q hq => h.mem hq).mp (RSp.zero.cast hall)
  · intro hs
    refine rcnt_congr n fun i _ => ⟨fun hi => hi.mono fun v hv => hv.le fun r hr => ?_, fun hi => hi.mono fun v hv => hv.mono fun r hr => List.mem_append_left [e] hr⟩
    rcases List.mem_append.mp hr with hr | hr
    · exact RSp.mem hr
    · rw [List.mem_singleton.mp hr]; exact hs
/-- one row more, that brings nothing -/
theorem RRf.skip {R : List (Nat → K)} {F} (h : RRf R F) {r : Nat → K} (hz : ∀ i, rred F r i = 0) : RRf (R ++ [r]) F where
  sp v := (h.sp v).trans ⟨fun hv => hv.mono fun r hr => by simp [hr], fun hv => hv.le fun s hs => by
    rcases List.mem_append.mp hs with hs | hs
    · exact RSp.mem hs
    · rw [List.mem_singleton.mp hs]; exact (rred_sp fun q hq => h.mem hq).mp (RSp.zero.cast hz)⟩
  one := h.one
  low := h.low
  off := h.off
  same := h.same
  nd := h.nd
/-- one row more, that brings a place -/
theorem RRf.more {R : List (Nat → K)} {F} (h : RRf R F) {r : Nat → K} {j : Nat} {b : K} (hl : ∀ i, i < j → rred F r i = 0) (hj : rred F r j ≠ 0) (hb : rred F r j * b = 1)
    {fresh : Nat → K} (hf : ∀ i, fresh i = rred F r i * b) {F' : List (Nat × (Nat → K))}
    (hF : F' = F.map (fun q => (q.1, fun i => q.2 i - q.2 j * fresh i)) ++ [(j, fresh)]) : RRf (R ++ [r]) F' := by
  have fj : fresh j = 1 := by rw [hf]; exact hb
  have fl : ∀ i, i < j → fresh i = 0 := fun i hi => by rw [hf, hl i hi]; grind
  have fq : ∀ q ∈ F, fresh q.1 = 0 := fun q hq => by rw [hf, h.red0 r hq]; grind
  have nj : ∀ q ∈ F, q.1 ≠ j := fun q hq e => hj (e ▸ h.red0 r hq)
  have mem : ∀ g, g ∈ F' ↔ (∃ q ∈ F, g = (q.1, fun i => q.2 i - q.2 j * fresh i)) ∨ g = (j, fresh) := by
    intro g
    rw [hF, List.mem_append, List.mem_map, List.mem_singleton]
    exact ⟨fun h => h.imp (fun ⟨q, a, b⟩ => ⟨q, a, b.symm⟩) id, fun h => h.imp (fun ⟨q, a, b⟩ => ⟨q, a, b.symm⟩) id⟩
  have one : ∀ q ∈ F', q.2 q.1 = 1 := by
    intro g hg
    rcases (mem g).mp hg with ⟨q, hq, e⟩ | e <;> subst e
    · show q.2 q.1 - q.2 j * fresh q.1 = 1
      rw [fq q hq, h.one q hq]; grind
    · exact fj
  have spf : RSp (R ++ [r]) fresh := by
    have : RSp (R ++ [r]) (rred F r) := (rred_sp fun q hq => (h.mem hq).mono fun r hr => by simp [hr]).mpr (RSp.mem (by simp))
    exact (this.smul b).cast hf
  have memf : ∀ {q}, q ∈ F' → RSp (F'.map Prod.snd) q.2 := fun hq => RSp.mem (List.mem_map_of_mem hq)
  have hfr := memf ((mem (j, fresh)).mpr (.inr rfl))
  have old : ∀ q ∈ F, RSp (F'.map Prod.snd) q.2 := by
    intro q hq
    have := memf ((mem (q.1, fun i => q.2 i - q.2 j * fresh i)).mpr (.inl ⟨q, hq, rfl⟩))
    exact (RSp.comb (-(q.2 j)) this hfr).cast fun i => by grind
  refine ⟨fun v => ⟨fun hv => hv.le fun s hs => ?_, fun hv => hv.le fun s hs => ?_⟩, one, ?_, ?_, ?_, ?_⟩
  · obtain ⟨g, hg, e⟩ := List.mem_map.mp hs
    rcases (mem g).mp hg with ⟨q, hq, e'⟩ | e' <;> subst e' <;> subst e
    · exact RSp.comb _ ((h.mem hq).mono fun r hr => by simp [hr]) spf
    · exact spf
  · rcases List.mem_append.mp hs with hs | hs
    · have : RSp (F.map Prod.snd) s := (h.sp s).mpr (RSp.mem hs)
      exact this.le fun t ht => by obtain ⟨q, hq, e⟩ := List.mem_map.mp ht; exact e ▸ old q hq
    · rw [List.mem_singleton.mp hs]
      have : RSp (F'.map Prod.snd) (rred F r) := (hfr.smul (rred F r j)).cast fun i => by simp only [hf]; grind
      exact (rred_sp old).mp this
  · intro g hg i hi
    rcases (mem g).mp hg with ⟨q, hq, e⟩ | e <;> subst e
    · show q.2 i - q.2 j * fresh i = 0
      have hi : i < q.1 := hi
      have := nj q hq
      rcases Nat.lt_or_ge j q.1 with hjq | hjq
      · rw [h.low q hq i hi, h.low q hq j hjq]; grind
      · rw [h.low q hq i hi, fl i (by omega)]; grind
    · exact fl i hi
  · intro g hg g' hg' hne
    rcases (mem g).mp hg with ⟨q, hq, e⟩ | e <;> subst e <;> rcases (mem g').mp hg' with ⟨q', hq', e'⟩ | e' <;> subst e'
    · show q'.2 q.1 - q'.2 j * fresh q.1 = 0
      rw [fq q hq, h.off q hq q' hq' hne]; grind
    · exact fq q hq
    · show q'.2 j - q'.2 j * fresh j = 0
      rw [fj]; grind
    · exact absurd rfl hne
  · intro g hg g' hg' he
    rcases (mem g).mp hg with ⟨q, hq, e⟩ | e <;> subst e <;> rcases (mem g').mp hg' with ⟨q', hq', e'⟩ | e' <;> subst e'
    · rw [h.same q hq q' hq' he]
    · exact absurd he (nj q hq)
    · exact absurd he.symm (nj q' hq')
    · rfl
  · have e : F'.map Prod.fst = F.map Prod.fst ++ [j] := by rw [hF]; simp [Function.comp_def]
    rw [e, List.nodup_append]
    refine ⟨h.nd, by simp, fun a ha b hb => ?_⟩
    obtain ⟨q, hq, e'⟩ := List.mem_map.mp ha
    rw [List.mem_singleton.mp hb, ← e']
    exact nj q hq
theorem RRf.perm {R : List (Nat → K)} {F F'} (h : RRf R F) (hp : F'.Perm F) : RRf R F' where
  sp v := ⟨fun hv => (h.sp v).mp (hv.mono fun r hr => (hp.map Prod.snd).mem_iff.mp hr), fun hv => ((h.sp v).mpr hv).mono fun r hr => (hp.map Prod.snd).mem_iff.mpr hr⟩
  one q hq := h.one q (hp.mem_iff.mp hq)
  low q hq := h.low q (hp.mem_iff.mp hq)
  off q hq q' hq' := h.off q (hp.mem_iff.mp hq) q' (hp.mem_iff.mp hq')
  same q hq q' hq' := h.same q (hp.mem_iff.mp hq) q' (hp.mem_iff.mp hq')
  nd := (hp.map Prod.fst).nodup_iff.mpr h.nd
def rdot : Nat → (Nat → K) → (Nat → K) → K
  | 0, _, _ => 0
  | n + 1, u, w => rdot n u w + u n * w n
theorem rdot_lin (a : K) (u v w : Nat → K) : ∀ n, rdot n (fun i => u i - a * v i) w = rdot n u w - a * rdot n v w
  | 0 => by simp only [rdot]; grind
  | n + 1 => by simp only [rdot]; rw [rdot_lin a u v w n]; grind
theorem rdot_zero (u w : Nat → K) : ∀ n, (∀ i, i < n → u i * w i = 0) → rdot n u w = 0
  | 0, _ => rfl
  | n + 1, h => by simp only [rdot]; rw [rdot_zero u w n fun i hi => h i (by omega), h n (by omega)]; grind
theorem rdot_one {u w : Nat → K} {a : Nat} : ∀ n, a < n → (∀ i, i < n → i ≠ a → u i * w i = 0) → rdot n u w = u a * w a
  | 0, h, _ => absurd h (by omega)
  | n + 1, h, hz => by
    simp only [rdot]
    rcases Nat.lt_or_ge a n with hl | hl
    · rw [rdot_one n hl fun i hi => hz i (by omega), hz n (by omega) (by omega)]; grind
    · have e : a = n := by omega
      subst e
      rw [rdot_zero u w a fun i hi => hz i (by omega) (by omega)]; grind
theorem rdot_two {u w : Nat → K} {a b : Nat} (hab : a ≠ b) : ∀ n, a < n → b < n → (∀ i, i < n → i ≠ a → i ≠ b → u i * w i = 0) → rdot n u w = u a * w a + u b * w b
  | 0, h, _, _ => absurd h (by omega)
  | n + 1, ha, hb, hz => by
    simp only [rdot]
    by_cases h1 : a = n
    · subst h1
      rw [rdot_one (a := b) a (by omega) fun i hi hne => hz i (by omega) (by omega) hne]; grind
    · by_cases h2 : b = n
      · subst h2
        rw [rdot_one (a := a) b (by omega) fun i hi hne => hz i (by omega) hne (by omega)]
      · rw [rdot_two hab n (by omega) (by omega) fun i hi => hz i (by omega), hz n (by omega) (Ne.symm h1) (Ne.symm h2)]; grind
theorem rdot_scale (b : K) (u w : Nat → K) : ∀ n, rdot n u (fun i => w i * b) = rdot n u w * b
  | 0 => by simp only [rdot]; grind
  | n + 1 => by simp only [rdot]; rw [rdot_scale b u w n]; grind
theorem RRf.orth {R : List (Nat → K)} {F} (h : RRf R F) {n free : Nat} {w : Nat → K} (hn : ∀ q ∈ F, q.1 < n) (hfn : free < n) (hfree : ∀ q ∈ F, q.1 ≠ free)
    (wf : w free = 1) (wq : ∀ q ∈ F, w q.1 = - q.2 free) (wz : ∀ i, i < n → i ≠ free → (∀ q ∈ F, q.1 ≠ i) → w i = 0) {v : Nat → K} (hv : RSp R v) : rdot n v w = 0 := by
  replace hv := (h.sp v).mpr hv
  induction hv with
  | zero => exact rdot_zero _ _ n fun i _ => by grind
  | @sub v r a hv hr ih =>
    obtain ⟨q, hq, e⟩ := List.mem_map.mp hr
    rw [rdot_lin, ih]
    have : rdot n r w = 0 := by
      rw [← e, rdot_two (hfree q hq) n (hn q hq) hfn fun i hi h1 h2 => ?_]
      · rw [h.one q hq, wq q hq, wf]; grind
      · by_cases hp : ∃ g ∈ F, g.1 = i
        · obtain ⟨g, hg, e'⟩ := hp
          subst e'
          rw [h.off g hg q hq h1]; grind
        · rw [wz i hi h2 fun g hg e' => hp ⟨g, hg, e'⟩]; grind
    rw [this]; grind
end
end Lw
namespace Lw
open PySem L2 PF Rt
abbrev I (ns : List Int) : List PF.W := ns.map PF.W.int
theorem mul_small {a b : Int} (ha : -(2 ^ 40) < a ∧ a < 2 ^ 40) (hb : -(2 ^ 40) < b ∧ b < 2 ^ 40) : mulOk a b = true := mulOk_of (a := 41) (b := 41) (by omega) (by omega) (by decide) (by decide) (by decide)
theorem room_is {ws : List PF.W} (h : ws.length < 16777216) : roomOk ws = true := by
  unfold roomOk
  exact decide_eq_true h
theorem isint_run (a : Int) : F_is_integer [.int a] = .ok (.bl true) := by
  simp [F_is_integer, defF, startE, endOf]
  rfl
theorem between_run (x lo hi : Int) : F_is_between [.int x, .int lo, .int hi] = .ok (.bl (decide (lo ≤ x) && decide (x ≤ hi))) := by
  by_cases h : lo ≤ x <;> simp [F_is_between, defF, startE, endOf, isint_run, fCh, h]
theorem tup_is (ws : List PF.W) : isiW (isOnly "tuple") (.tup ws) = .ok (.bl true) := rfl
theorem size_small {ws : List PF.W} (h : ws.length ≤ 1000) : sizeOk ws = true := sizeOk_is (by omega)
theorem all_bls {α : Type} {as : List α} {t : α → Bool} (h : ∀ a ∈ as, t a = true) : allW [.lst (as.map fun a => PF.W.bl (t a))] = .ok (.bl true) := by
  have e : (as.map fun a => PF.W.bl (t a)) = (as.map t).map PF.W.bl := by rw [List.map_map]; rfl
  rw [e, allW_of]
  have : (as.map t).all id = true := by
    rw [List.all_map, List.all_eq_true]
    exact h
  rw [this]
def Pr (p : Int) : Prop := p = 11 ∨ p = 13 ∨ p = 17 ∨ p = 19 ∨ p = 23
theorem Pr.b {p : Int} (h : Pr p) : 11 ≤ p ∧ p ≤ 23 := by
  rcases h with rfl | rfl | rfl | rfl | rfl <;> decide
theorem inv_ex {p : Int} (h : Pr p) {b : Int} (h1 : 1 ≤ b) (h2 : b < p) : ∃ o : Int, 1 ≤ o ∧ o < p ∧ o * b % p = 1 := by
  have key : ∀ P : Nat, (P = 11 ∨ P = 13 ∨ P = 17 ∨ P = 19 ∨ P = 23) → ∀ B : Nat, B < P → 1 ≤ B → ∃ o : Nat, o < P ∧ 1 ≤ o ∧ (o : Int) * (B : Int) % (P : Int) = 1 := by
    rintro P (rfl | rfl | rfl | rfl | rfl) <;> decide
  obtain ⟨o, a1, a2, a3⟩ := key p.toNat (by rcases h with rfl | rfl | rfl | rfl | rfl <;> decide) b.toNat (by omega) (by omega)
  have e1 : ((b.toNat : Nat) : Int) = b := by omega
  have e2 : ((p.toNat : Nat) : Int) = p := by omega
  rw [e1, e2] at a3
  exact ⟨o, by omega, by omega, a3⟩
def inv (p b : Int) : Int := match (((List.range (p.toNat - 1)).filter fun (i : Nat) => (1 + (i : Int)) * b % p == 1)[0]? : Option Nat) with
  | some i => 1 + (i : Int)
  | none => 0
theorem inv_is {p b : Int} (h : Pr p) (h1 : 1 ≤ b) (h2 : b < p) : ∃ (i : Nat), ((List.range (p.toNat - 1)).filter fun (i : Nat) => (1 + (i : Int)) * b % p == 1)[0]? = some i ∧ inv p b = 1 + (i : Int) ∧ 1 ≤ inv p b ∧ inv p b < p ∧ inv p b * b % p = 1 := by
  obtain ⟨o, o1, o2, oe⟩ := inv_ex h h1 h2
  have hp := h.b
  have m : (o - 1).toNat ∈ (List.range (p.toNat - 1)).filter fun (i : Nat) => (1 + (i : Int)) * b % p == 1 := by
    refine List.mem_filter.mpr ⟨List.mem_range.mpr (by omega), ?_⟩
    have e : 1 + (((o - 1).toNat : Nat) : Int) = o := by omega
    rw [e, oe]
    rfl
  cases hl : (List.range (p.toNat - 1)).filter fun (i : Nat) => (1 + (i : Int)) * b % p == 1 with
  | nil =>
    rw [hl] at m
    cases m
  | cons i rest =>
    have mi : i ∈ (List.range (p.toNat - 1)).filter fun (i : Nat) => (1 + (i : Int)) * b % p == 1 := by rw [hl]; exact List.mem_cons_self ..
    obtain ⟨m1, m2⟩ := List.mem_filter.mp mi
    have m1 := List.mem_range.mp m1
    have e : inv p b = 1 + (i : Int) := by
      unfold inv
      rw [hl]
      rfl
    exact ⟨i, rfl, e, by omega, by omega, by rw [e]; exact eq_of_beq m2⟩
abbrev Sg (p : Int) (as : List Int) : Prop := ∀ a ∈ as, 0 ≤ a ∧ a < p
theorem rest_run {p : Int} (h : 0 < p) (a : Int) : F_rest_of [.int p, .int a] = .ok (.int (a % p)) := by
  simp [F_rest_of, defF, startE, endOf, h]
theorem pr_in {p : Int} (h : Pr p) : ninW (.int p) k_PRIMES = .ok (.bl false) := by
  rcases h with rfl | rfl | rfl | rfl | rfl <;> rfl
theorem nprime_run {p : Int} (h : Pr p) : F_need_prime [.int p] = .ok .non := by
  simp [F_need_prime, defF, startE, isint_run, pr_in h, endOf]
theorem issign_run (p a : Int) : F_is_sign [.int p, .int a] = .ok (.bl (decide (0 ≤ a) && decide (a ≤ p - 1))) := by
  simp [F_is_sign, defF, startE, between_run, endOf]
theorem aresigns_run {p : Int} {as : List Int} (h : Sg p as) (hl : as.length ≤ 1000) : F_are_signs [.int p, .tup (I as)] = .ok (.bl true) := by
  have hz : sizeOk (I as) = true := size_small (by simpa using hl)
  have c : compL (goName 2) fYes (fL (fCons (gV 0) (fCons (gV 2) fNil)) F_is_sign) [.val (.int p), .val (.tup (I as)), .un] (I as) = .ok (as.map fun a => PF.W.bl (decide (0 ≤ a) && decide (a ≤ p - 1))) := by
    refine compL_map _ _ _ fun a _ => ⟨_, rfl, rfl, ?_⟩
    simp [issign_run]
  have hA := all_bls (as := as) (t := fun a => decide (0 ≤ a) && decide (a ≤ p - 1)) fun a ha => by
    have := h a ha
    have e : a ≤ p - 1 := by omega
    simp [this.1, e]
  simp [F_are_signs, defF, startE, tup_is, fComp, tupW, hz, wipeE, c, hA, endOf]
theorem nmess_run {p : Int} {as : List Int} (hp : Pr p) (h : Sg p as) (hl : as.length ≤ 96) : F_need_message [.int p, .tup (I as)] = .ok (.tup (I as)) := by
  have l2 : ¬ (96 : Int) < (as.length : Int) := by omega
  simp [F_need_message, defF, startE, nprime_run hp, aresigns_run h (by omega), k_MOST_SIGNS, l2, endOf]
theorem ints1 (n : Nat) : PF.intsFrom 1 n = (List.range n).map fun (i : Nat) => PF.W.int (1 + (i : Int)) := by
  refine List.ext_getElem? fun i => ?_
  rw [PF.intsFrom_get]
  by_cases h : i < n <;> simp [h]
section
variable {p : Int}
theorem rng_p (hp : Pr p) : rng2 [.int 1, .int p] = .ok (PF.intsFrom 1 (p.toNat - 1)) := by
  have b := hp.b
  have a1 : rngOk 1 = true := rngOk_is (by decide) (by decide)
  have a2 : rngOk p = true := rngOk_is (by omega) (by omega)
  have e : (p - 1).toNat = p.toNat - 1 := by omega
  simp [rng2, a1, a2, e]
theorem ix_inv (hp : Pr p) {b : Int} (h1 : 1 ≤ b) (h2 : b < p) : ixW (.lst (((List.range (p.toNat - 1)).filter fun (i : Nat) => (1 + (i : Int)) * b % p == 1).map fun (i : Nat) => PF.W.int (1 + (i : Int)))) (.int 0) = .ok (.int (inv p b)) := by
  obtain ⟨i, e, e2, _⟩ := inv_is hp h1 h2
  generalize ((List.range (p.toNat - 1)).filter fun (i : Nat) => (1 + (i : Int)) * b % p == 1) = xs at e
  cases xs with
  | nil => simp at e
  | cons x xs =>
    have e : x = i := by simpa using e
    subst e
    rw [List.map_cons, e2]
    simp [ixW, atI, ixN]
theorem inv_run (hp : Pr p) {b : Int} (h1 : 1 ≤ b) (h2 : b < p) : F_inverse_in [.int p, .int b] = .ok (.int (inv p b)) := by
  have bb := hp.b
  have hz : sizeOk (PF.intsFrom 1 (p.toNat - 1)) = true := size_small (by rw [PF.intsFrom_length]; omega)
  have c : compL (goName 2) (fBl (f2 eqS (fL (fCons (gV 0) (fCons (f2 mulW (gV 2) (gV 1)) fNil)) F_rest_of) (fun _ => .ok (.int 1)))) (gV 2) [.val (.int p), .val (.int b), .un] (PF.intsFrom 1 (p.toNat - 1)) = .ok (((List.range (p.toNat - 1)).filter fun (i : Nat) => (1 + (i : Int)) * b % p == 1).map fun (i : Nat) => PF.W.int (1 + (i : Int))) := by
    rw [ints1]
    refine compL_filter _ _ _ _ fun i hi => ⟨_, rfl, ?_, fun _ => by simp⟩
    have hi := List.mem_range.mp hi
    have mo : mulOk (1 + (i : Int)) b = true := mul_small (by omega) (by omega)
    simp [mo, rest_run (show 0 < p by omega)]
  simp [F_inverse_in, defF, startE, fComp, rng_p hp, hz, wipeE, c, ix_inv hp h1 h2, endOf]
theorem lback_run (hp : Pr p) {b : Int} (h1 : 1 ≤ b) (h2 : b < p) : F__law_back [.int p, .int b] = .ok (.int (inv p b)) := by
  have bb := hp.b
  have hz : sizeOk (PF.intsFrom 1 (p.toNat - 1)) = true := size_small (by rw [PF.intsFrom_length]; omega)
  have c : compL (goName 2) (fBl (f2 eqS (f2 modW (fL (fCons (f2 mulW (gV 2) (gV 1)) fNil) intW) (gV 0)) (fun _ => .ok (.int 1)))) (gV 2) [.val (.int p), .val (.int b), .un] (PF.intsFrom 1 (p.toNat - 1)) = .ok (((List.range (p.toNat - 1)).filter fun (i : Nat) => (1 + (i : Int)) * b % p == 1).map fun (i : Nat) => PF.W.int (1 + (i : Int))) := by
    rw [ints1]
    refine compL_filter _ _ _ _ fun i hi => ⟨_, rfl, ?_, fun _ => by simp⟩
    have hi := List.mem_range.mp hi
    have mo : mulOk (1 + (i : Int)) b = true := mul_small (by omega) (by omega)
    have pp : 0 < p := by omega
    simp [mo, pp]
  simp [F__law_back, defF, startE, fComp, rng_p hp, hz, wipeE, c, ix_inv hp h1 h2, endOf]
end
end Lw
namespace Lw
open PySem L2 PF Rt
abbrev TI (ns : List Int) : PF.W := .tup (I ns)
abbrev LI (ns : List Int) : PF.W := .lst (I ns)
abbrev Rw (p : Int) (n : Nat) (r : List Int) : Prop := r.length = n ∧ Sg p r
theorem Rw.at {p : Int} {n : Nat} {r : List Int} (hp : 0 < p) (h : Rw p n r) (i : Nat) : 0 ≤ r.getD i 0 ∧ r.getD i 0 < p := by
  rw [List.getD_eq_getElem?_getD]
  cases e : r[i]? with
  | none => exact ⟨Int.le_refl 0, hp⟩
  | some x => exact h.2 x (List.mem_of_getElem? e)
def lcR (p f : Int) (a b : List Int) : List Int := (a.zip b).map fun q => (q.1 - f * q.2) % p
def scR (p f : Int) (a : List Int) : List Int := a.map fun x => x * f % p
theorem Rw.lc {p f : Int} {n : Nat} {a b : List Int} (hp : 0 < p) (ha : Rw p n a) (hb : Rw p n b) : Rw p n (lcR p f a b) := by
  refine ⟨by simp [lcR, ha.1, hb.1], fun x hx => ?_⟩
  obtain ⟨q, _, rfl⟩ := List.mem_map.mp hx
  exact ⟨Int.emod_nonneg _ (by omega), Int.emod_lt_of_pos _ hp⟩
theorem Rw.sc {p f : Int} {n : Nat} {a : List Int} (hp : 0 < p) (ha : Rw p n a) : Rw p n (scR p f a) := by
  refine ⟨by simp [scR, ha.1], fun x hx => ?_⟩
  obtain ⟨q, _, rfl⟩ := List.mem_map.mp hx
  exact ⟨Int.emod_nonneg _ (by omega), Int.emod_lt_of_pos _ hp⟩
theorem zipF_ints : ∀ (a b : List Int), zipF (I a) (I b) = (a.zip b).map fun q => PF.W.tup [.int q.1, .int q.2]
  | [], _ => by cases ‹List Int› <;> rfl
  | _ :: _, [] => rfl
  | x :: a, y :: b => by
    have := zipF_ints a b
    simp only [I, List.map_cons, zipF, List.zip_cons_cons] at this ⊢
    rw [this]
theorem enum_ints (r : List Int) : enumF 0 (I r) = (List.range r.length).map fun (i : Nat) => PF.W.tup [.int i, .int (r.getD i 0)] := by
  refine List.ext_getElem? fun i => ?_
  rw [enumF_get]
  by_cases h : i < r.length <;> simp [h]
theorem ix_at {a : List Int} {j : Nat} (h : j < a.length) : ixW (.lst (I a)) (.int (j : Int)) = .ok (.int (a.getD j 0)) := by
  simp [ixW, atI, ixN, h]
theorem ix_atT {a : List Int} {j : Nat} (h : j < a.length) : ixW (.tup (I a)) (.int (j : Int)) = .ok (.int (a.getD j 0)) := by
  simp [ixW, atI, ixN, h]
theorem bnd_mul {p x y : Int} (hp : Pr p) (hx : 0 ≤ x ∧ x < p) (hy : 0 ≤ y ∧ y < p) : mulOk x y = true := by
  have := hp.b
  exact mul_small (by omega) (by omega)
section
variable {p : Int} {n : Nat}
theorem cleared_run (hp : Pr p) {a b : List Int} {j : Nat} (ha : Rw p n a) (hb : Rw p n b) (hj : j < n) (hn : n ≤ 1000) : F_cleared [.int p, LI a, LI b, .int (j : Int)] = .ok (LI (lcR p (a.getD j 0) a b)) := by
  have bb := hp.b
  have hx := ix_at (a := a) (j := j) (by rw [ha.1]; exact hj)
  have hz : sizeOk ((a.zip b).map fun q => PF.W.tup [.int q.1, .int q.2]) = true := size_small (by simp [ha.1, hb.1]; omega)
  have c : compL (goTup 2 (goCons (goName 5) (goCons (goName 6) goNil))) fYes (fL (fCons (gV 0) (fCons (f2 subW (gV 5) (f2 mulW (gV 4) (gV 6))) fNil)) F_rest_of) [.val (.int p), .val (LI a), .val (LI b), .val (.int (j : Int)), .val (.int (a.getD j 0)), .un, .un] ((a.zip b).map fun q => PF.W.tup [.int q.1, .int q.2]) = .ok ((a.zip b).map fun q => PF.W.int ((q.1 - a.getD j 0 * q.2) % p)) := by
    refine compL_map _ _ _ fun q hq => ⟨_, rfl, rfl, ?_⟩
    have h1 := hb.2 q.2 (List.of_mem_zip hq).2
    have mo := bnd_mul hp (ha.at (by omega) j) h1
    simp [mo, rest_run (show 0 < p by omega), -List.getD_eq_getElem?_getD]
  simp [F_cleared, defF, startE, hx, fComp, zpW, zipF_ints, hz, wipeE, c, lcR, endOf, -List.getD_eq_getElem?_getD, Function.comp_def]
abbrev pwR (q : Nat × List Int) : PF.W := .tup [.int (q.1 : Int), .lst (I q.2)]
def redR (p : Int) : List (Nat × List Int) → List Int → List Int
  | [], r => r
  | q :: F, r => redR p F (lcR p (r.getD q.1 0) r q.2)
abbrev Fw (p : Int) (n : Nat) (F : List (Nat × List Int)) : Prop := ∀ q ∈ F, q.1 < n ∧ Rw p n q.2
theorem redR_rw (hp : 0 < p) : ∀ {F : List (Nat × List Int)} {r : List Int}, Fw p n F → Rw p n r → Rw p n (redR p F r)
  | [], r, _, h => h
  | q :: F, r, hF, h => redR_rw hp (F := F) (fun q hq => hF q (by simp [hq])) (h.lc hp (hF q (by simp)).2)
abbrev gRi : En → T (Fl × En) := (sSet 3 (fComp [9, 10] (iL zpW (fCons (gV 3) (fCons (gV 5) fNil))) (goTup 2 (goCons (goName 9) (goCons (goName 10) goNil))) fYes (fL (fCons (gV 0) (fCons (f2 subW (gV 9) (f2 mulW (f2 ixW (gV 3) (gV 4)) (gV 10))) fNil)) F_rest_of)))
abbrev tg45 : PF.W → En → Option En := (goTup 2 (goCons (goName 4) (goCons (goName 5) goNil)))
theorem inner_run (hp : Pr p) (hn : n ≤ 1000) (v1 s2 s6 s7 s8 : Sl) : ∀ (F : List (Nat × List Int)) (r : List Int) (s4 s5 : Sl), Fw p n F → Rw p n r →
    ∃ z4 z5, forL tg45 gRi (F.map pwR) [.val (.int p), v1, s2, .val (LI r), s4, s5, s6, s7, s8, .un, .un] = .ok (.nx, [.val (.int p), v1, s2, .val (LI (redR p F r)), z4, z5, s6, s7, s8, .un, .un])
  | [], r, s4, s5, _, _ => ⟨s4, s5, rfl⟩
  | q :: F, r, s4, s5, hF, hr => by
    have bb := hp.b
    obtain ⟨h1, h2⟩ := hF q (by simp)
    have hx := ix_at (a := r) (j := q.1) (by rw [hr.1]; exact h1)
    have hz : sizeOk ((r.zip q.2).map fun q => PF.W.tup [.int q.1, .int q.2]) = true := size_small (by simp [hr.1, h2.1]; omega)
    have c : compL (goTup 2 (goCons (goName 9) (goCons (goName 10) goNil))) fYes (fL (fCons (gV 0) (fCons (f2 subW (gV 9) (f2 mulW (f2 ixW (gV 3) (gV 4)) (gV 10))) fNil)) F_rest_of) [.val (.int p), v1, s2, .val (LI r), .val (.int (q.1 : Int)), .val (.lst (I q.2)), s6, s7, s8, .un, .un] ((r.zip q.2).map fun q => PF.W.tup [.int q.1, .int q.2]) = .ok ((r.zip q.2).map fun x => PF.W.int ((x.1 - r.getD q.1 0 * x.2) % p)) := by
      refine compL_map _ _ _ fun x hxm => ⟨_, rfl, rfl, ?_⟩
      have h3 := h2.2 x.2 (List.of_mem_zip hxm).2
      have mo := bnd_mul hp (hr.at (by omega) q.1) h3
      simp [mo, hx, rest_run (show 0 < p by omega), -List.getD_eq_getElem?_getD]
    obtain ⟨z4, z5, ih⟩ := inner_run hp hn v1 s2 s6 s7 s8 F (lcR p (r.getD q.1 0) r q.2) (.val (.int (q.1 : Int))) (.val (.lst (I q.2))) (fun q hq => hF q (by simp [hq])) (hr.lc (by omega) h2)
    refine ⟨z4, z5, ?_⟩
    rw [List.map_cons]
    unfold forL
    have el : (r.zip q.2).map (fun x => PF.W.int ((x.1 - r.getD q.1 0 * x.2) % p)) = I (lcR p (r.getD q.1 0) r q.2) := by simp [lcR, Function.comp_def]
    rw [el] at c
    have g : tg45 (pwR q) [.val (.int p), v1, s2, .val (LI r), s4, s5, s6, s7, s8, .un, .un] = some [.val (.int p), v1, s2, .val (LI r), .val (.int (q.1 : Int)), .val (.lst (I q.2)), s6, s7, s8, .un, .un] := rfl
    rw [g]
    simp only [gRi, sSet_eq, fComp_eq, iL_eq, fCons_eq, fNil_eq, gV_eq, List.getElem?_cons_succ, List.getElem?_cons_zero, T.bind_ok, zpW, zipF_ints, hz, if_true, wipeE, List.set_cons_succ, List.set_cons_zero, List.foldl_cons, List.foldl_nil, c]
    exact ih
end
end Lw
namespace Lw
open PySem L2 PF Rt
mutual
def IT : PF.W → Bool
  | .int _ => true
  | .tup ws => ITs ws
  | .lst ws => ITs ws
  | _ => false
def ITs : List PF.W → Bool
  | [] => true
  | w :: ws => IT w && ITs ws
end
mutual
theorem it_eq : ∀ (x y : PF.W) (d e : PyData), IT x = true → IT y = true → x.toD = some d → y.toD = some e → (PyData.eqv d e = true ↔ x = y)
  | .int i, .int j, d, e, _, _, h1, h2 => by
    cases h1
    cases h2
    simp [PyData.eqv]
  | .int i, .tup us, d, e, _, _, h1, h2 => by
    cases h1
    obtain ⟨es, g, rfl⟩ := PF.toD_tup h2
    simp [PyData.eqv]
  | .int i, .lst us, d, e, _, _, h1, h2 => by
    cases h1
    obtain ⟨es, g, rfl⟩ := PF.toD_lst h2
    simp [PyData.eqv]
  | .tup ws, .int j, d, e, _, _, h1, h2 => by
    cases h2
    obtain ⟨ds, g, rfl⟩ := PF.toD_tup h1
    simp [PyData.eqv]
  | .lst ws, .int j, d, e, _, _, h1, h2 => by
    cases h2
    obtain ⟨ds, g, rfl⟩ := PF.toD_lst h1
    simp [PyData.eqv]
  | .tup ws, .tup us, d, e, hx, hy, h1, h2 => by
    obtain ⟨ds, g1, rfl⟩ := PF.toD_tup h1
    obtain ⟨es, g2, rfl⟩ := PF.toD_tup h2
    have := its_eq ws us ds es hx hy g1 g2
    simp [PyData.eqv, this]
  | .lst ws, .lst us, d, e, hx, hy, h1, h2 => by
    obtain ⟨ds, g1, rfl⟩ := PF.toD_lst h1
    obtain ⟨es, g2, rfl⟩ := PF.toD_lst h2
    have := its_eq ws us ds es hx hy g1 g2
    simp [PyData.eqv, this]
  | .tup ws, .lst us, d, e, hx, hy, h1, h2 => by
    obtain ⟨ds, g1, rfl⟩ := PF.toD_tup h1
    obtain ⟨es, g2, rfl⟩ := PF.toD_lst h2
    simp [PyData.eqv]
  | .lst ws, .tup us, d, e, hx, hy, h1, h2 => by
    obtain ⟨ds, g1, rfl⟩ := PF.toD_lst h1
    obtain ⟨es, g2, rfl⟩ := PF.toD_tup h2
    simp [PyData.eqv]
theorem its_eq : ∀ (xs ys : List PF.W) (ds es : List PyData), ITs xs = true → ITs ys = true → toDs xs = some ds → toDs ys = some es → (PyData.eqvAll ds es = true ↔ xs = ys)
  | [], [], ds, es, _, _, h1, h2 => by
    cases h1
    cases h2
    simp [PyData.eqvAll]
  | [], y :: ys, ds, es, _, _, h1, h2 => by
    cases h1
    unfold toDs at h2
    split at h2
    · cases h2
      simp [PyData.eqvAll]
    · cases h2
  | x :: xs, [], ds, es, _, _, h1, h2 => by
    cases h2
    unfold toDs at h1
    split at h1
    · cases h1
      simp [PyData.eqvAll]
    · cases h1
  | x :: xs, y :: ys, ds, es, hx, hy, h1, h2 => by
    unfold toDs at h1 h2
    unfold ITs at hx hy
    simp only [Bool.and_eq_true] at hx hy
    split at h1
    · rename_i d ds' a1 a2
      split at h2
      · rename_i e es' b1 b2
        cases h1
        cases h2
        simp only [PyData.eqvAll, Bool.and_eq_true, it_eq x y d e hx.1 hy.1 a1 b1, its_eq xs ys ds' es' hx.2 hy.2 a2 b2, List.cons.injEq]
      · cases h2
    · cases h1
end
theorem eqO_it {n : Nat} {x y : PF.W} (hx : IT x = true) (hy : IT y = true) (lx : low n x) (ly : low n y) (hn : n ≤ 64) : ∃ b, eqO x y = some b ∧ (b = true ↔ x = y) := by
  obtain ⟨d, h1, h2, h3⟩ := lx
  obtain ⟨e, g1, g2, g3⟩ := ly
  have s1 : SeqAt.shaped d = true := by
    unfold SeqAt.shaped
    rw [h2, decide_eq_true (by omega)]
    rfl
  have s2 : SeqAt.shaped e = true := by
    unfold SeqAt.shaped
    rw [g2, decide_eq_true (by omega)]
    rfl
  refine ⟨PyData.eqv d e, ?_, it_eq x y d e hx hy h1 g1⟩
  unfold eqO
  rw [h1, g1]
  simp only [s1, s2, Bool.and_self, if_true]
theorem ITs_of {ws : List PF.W} (h : ∀ w ∈ ws, IT w = true) : ITs ws = true := by
  induction ws with
  | nil => rfl
  | cons w ws ih =>
    unfold ITs
    rw [h w (List.mem_cons_self ..), ih fun x hx => h x (List.mem_cons_of_mem _ hx)]
    rfl
theorem IT_ints (ns : List Int) : ITs (ns.map PF.W.int) = true := ITs_of fun w hw => by
  obtain ⟨i, _, rfl⟩ := List.mem_map.mp hw
  rfl
theorem eq_il (xs ys : List Int) : eqS (.lst (I xs)) (.lst (I ys)) = .ok (.bl (decide (xs = ys))) := by
  obtain ⟨r, h1, h2⟩ := eqO_it (x := .lst (I xs)) (y := .lst (I ys)) (IT_ints xs) (IT_ints ys) (low_intsL xs) (low_intsL ys) (by decide)
  have : r = decide (xs = ys) := by
    by_cases e : xs = ys
    · rw [decide_eq_true e]
      exact h2.mpr (by rw [e])
    · rw [decide_eq_false e]
      cases r with
      | false => rfl
      | true =>
        have z := h2.mp rfl
        simp only [PF.W.lst.injEq] at z
        exact absurd ((List.map_inj_right (f := PF.W.int) fun x y e => by injection e).mp z) e
  show eqW _ _ = _
  unfold eqW
  rw [h1, this]
theorem eq_it' (xs ys : List Int) : eqS (.tup (I xs)) (.tup (I ys)) = .ok (.bl (decide (xs = ys))) := by
  obtain ⟨r, h1, h2⟩ := eqO_it (x := .tup (I xs)) (y := .tup (I ys)) (IT_ints xs) (IT_ints ys) (low_ints xs) (low_ints ys) (by decide)
  have : r = decide (xs = ys) := by
    by_cases e : xs = ys
    · rw [decide_eq_true e]
      exact h2.mpr (by rw [e])
    · rw [decide_eq_false e]
      cases r with
      | false => rfl
      | true =>
        have z := h2.mp rfl
        simp only [PF.W.tup.injEq] at z
        exact absurd ((List.map_inj_right (f := PF.W.int) fun x y e => by injection e).mp z) e
  show eqW _ _ = _
  unfold eqW
  rw [h1, this]
theorem eq_nilL {n : Nat} {ws : List PF.W} (h : low n (.lst ws)) (hn : n ≤ 64) : eqW (.lst ws) (.lst []) = .ok (.bl ws.isEmpty) := by
  obtain ⟨d, h1, h2, h3⟩ := h
  have hs : SeqAt.shaped d = true := by
    unfold SeqAt.shaped
    rw [h2, decide_eq_true (by omega)]
    rfl
  obtain ⟨ds, e1, rfl⟩ := PF.toD_lst h1
  have e2 : (PF.W.lst []).toD = some (.list []) := rfl
  have e3 : SeqAt.shaped (.list []) = true := by decide +kernel
  have e4 : PyData.eqv (.list ds) (.list []) = ws.isEmpty := by
    cases ws with
    | nil =>
      cases e1
      simp [PyData.eqv, PyData.eqvAll]
    | cons w ws =>
      obtain ⟨d, es, _, _, rfl⟩ := PF.toDs_cons e1
      simp [PyData.eqv, PyData.eqvAll]
  unfold eqW eqO
  rw [h1, e2]
  simp only [hs, e3, e4, Bool.and_self, if_true]
theorem ne_nilL {n : Nat} {ws : List PF.W} (h : low n (.lst ws)) (hn : n ≤ 64) : neW (.lst ws) (.lst []) = .ok (.bl !ws.isEmpty) := by
  have := eq_nilL h hn
  unfold eqW at this
  unfold neW
  split at this
  · rename_i b e
    simp only [T.ok.injEq, PF.W.bl.injEq] at this
    rw [this]
  · cases this
theorem ne_it (xs ys : List Int) : neS (.tup (I xs)) (.tup (I ys)) = .ok (.bl (!decide (xs = ys))) := by
  have h := eq_it' xs ys
  rw [eqS_tup] at h
  rw [neS_tup]
  unfold eqW at h
  unfold neW
  split at h
  · rename_i b e
    simp only [T.ok.injEq, PF.W.bl.injEq] at h
    rw [h]
  · cases h
theorem ne_il (xs ys : List Int) : neS (.lst (I xs)) (.lst (I ys)) = .ok (.bl (!decide (xs = ys))) := by
  have h := eq_il xs ys
  rw [eqS_lst] at h
  rw [neS_lst]
  unfold eqW at h
  unfold neW
  split at h
  · rename_i b e
    simp only [T.ok.injEq, PF.W.bl.injEq] at h
    rw [h]
  · cases h
end Lw
namespace Lw
open PySem L2 PF Rt
def leadR (r : List Int) : List Nat := (List.range r.length).filter fun i => !(r.getD i 0 == 0)
def stepR (p : Int) (F : List (Nat × List Int)) (r : List Int) : List (Nat × List Int) :=
  match leadR (redR p F r) with
  | [] => F
  | j :: _ => F.map (fun q => (q.1, lcR p (q.2.getD j 0) q.2 (scR p (inv p ((redR p F r).getD j 0)) (redR p F r)))) ++ [(j, scR p (inv p ((redR p F r).getD j 0)) (redR p F r))]
theorem lead_cons {r : List Int} {j : Nat} {l : List Nat} (h : leadR r = j :: l) : j < r.length ∧ r.getD j 0 ≠ 0 ∧ ∀ i, i < j → r.getD i 0 = 0 := by
  have hj : j ∈ leadR r := by rw [h]; exact List.mem_cons_self ..
  obtain ⟨h1, h2⟩ := List.mem_filter.mp hj
  have h1 := List.mem_range.mp h1
  refine ⟨h1, by simpa using h2, fun i hi => ?_⟩
  by_cases hz : r.getD i 0 = 0
  · exact hz
  · exfalso
    have hm : i ∈ leadR r := List.mem_filter.mpr ⟨List.mem_range.mpr (by omega), by simpa using hz⟩
    have pw : (leadR r).Pairwise (· < ·) := List.pairwise_lt_range.sublist List.filter_sublist
    rw [h] at pw hm
    rcases List.mem_cons.mp hm with e | hm
    · omega
    · have := (List.pairwise_cons.mp pw).1 i hm
      omega
theorem lead_nil {r : List Int} (h : leadR r = []) (i : Nat) : r.getD i 0 = 0 := by
  by_cases hl : i < r.length
  · by_cases hz : r.getD i 0 = 0
    · exact hz
    · have hm : i ∈ leadR r := List.mem_filter.mpr ⟨List.mem_range.mpr hl, by simpa using hz⟩
      rw [h] at hm
      cases hm
  · rw [List.getD_eq_getElem?_getD, List.getElem?_eq_none (by omega)]
    rfl
def FoR (F : List (Nat × List Int)) (s : Sl) : Prop := s = .own (F.map pwR) ∨ s = .val (.lst (F.map pwR))
section
variable {p : Int} {n : Nat}
theorem stepR_fw (hp : 0 < p) {F : List (Nat × List Int)} {r : List Int} (hF : Fw p n F) (hr : Rw p n r) : Fw p n (stepR p F r) := by
  have hrr := redR_rw hp hF hr
  unfold stepR
  split
  · exact hF
  · rename_i j l h
    have hj := (lead_cons h).1
    rw [hrr.1] at hj
    intro q hq
    rcases List.mem_append.mp hq with hq | hq
    · obtain ⟨q', hq', rfl⟩ := List.mem_map.mp hq
      exact ⟨(hF q' hq').1, (hF q' hq').2.lc hp (hrr.sc hp)⟩
    · rw [List.mem_singleton.mp hq]
      exact ⟨hj, hrr.sc hp⟩
theorem stepR_len (F : List (Nat × List Int)) (r : List Int) : (stepR p F r).length ≤ F.length + 1 := by
  unfold stepR
  split <;> simp
abbrev gRo : En → T (Fl × En) := (sSeq (onFrz 2 (sFor (iOf lstW (gV 2)) (goTup 2 (goCons (goName 4) (goCons (goName 5) goNil))) (sSet 3 (fComp [9, 10] (iL zpW (fCons (gV 3) (fCons (gV 5) fNil))) (goTup 2 (goCons (goName 9) (goCons (goName 10) goNil))) fYes (fL (fCons (gV 0) (fCons (f2 subW (gV 9) (f2 mulW (f2 ixW (gV 3) (gV 4)) (gV 10))) fNil)) F_rest_of))))) (sSeq (sSet 6 (fComp [4, 9] (iL enL (fCons (gV 3) fNil)) (goTup 2 (goCons (goName 4) (goCons (goName 9) goNil))) (fBl (f2 neS (gV 9) (fun _ => .ok (.int 0)))) (gV 4))) (sIf (fBl (f2 neS (gV 6) (fL fNil mkLst))) (sSeq (sSet 7 (fL (fCons (gV 0) (fCons (f2 ixW (gV 3) (f2 ixW (gV 6) (fun _ => .ok (.int 0)))) fNil)) F_inverse_in)) (sSeq (sSet 8 (fComp [9] (iOf lstW (gV 3)) (goName 9) fYes (fL (fCons (gV 0) (fCons (f2 mulW (gV 9) (gV 7)) fNil)) F_rest_of))) (sSeq (onFrz 2 (sOwnE 2 (fComp [4, 5] (iOf lstW (gV 2)) (goTup 2 (goCons (goName 4) (goCons (goName 5) goNil))) fYes (fL (fCons (gV 4) (fCons (fL (fCons (gV 0) (fCons (gV 5) (fCons (gV 8) (fCons (f2 ixW (gV 6) (fun _ => .ok (.int 0))) fNil)))) F_cleared) fNil)) mkTup)))) (sApp 2 (fCons (fL (fCons (f2 ixW (gV 6) (fun _ => .ok (.int 0))) (fCons (gV 8) fNil)) mkTup) fNil))))) sNil)))
theorem lead_run {r : List Int} (hl : r.length ≤ 1000) (vs0 vs1 vs2 s5 s6 s7 s8 s10 : Sl) : compL (goTup 2 (goCons (goName 4) (goCons (goName 9) goNil))) (fBl (f2 neS (gV 9) (fun _ => .ok (.int 0)))) (gV 4) [vs0, vs1, vs2, .val (LI r), .un, s5, s6, s7, s8, .un, s10] (enumF 0 (I r)) = .ok ((leadR r).map fun (i : Nat) => PF.W.int i) := by
  rw [enum_ints]
  refine compL_filter _ _ _ _ fun i _ => ⟨_, rfl, ?_, fun _ => by simp⟩
  simp [-List.getD_eq_getElem?_getD]
theorem step_run (hp : Pr p) (hn : n ≤ 1000) {F : List (Nat × List Int)} {r : List Int} (hF : Fw p n F) (hl : F.length ≤ 900) (hr : Rw p n r) (v1 s2 s4 s5 s6 s7 s8 : Sl) (h2 : FoR F s2) :
    ∃ z2 z3 z4 z5 z6 z7 z8, gRo [.val (.int p), v1, s2, .val (LI r), s4, s5, s6, s7, s8, .un, .un] = .ok (.nx, [.val (.int p), v1, z2, z3, z4, z5, z6, z7, z8, .un, .un]) ∧ FoR (stepR p F r) z2 := by
  have bb := hp.b
  have p0 : 0 < p := by omega
  have hrr := redR_rw p0 hF hr
  have hf : frz 2 [.val (.int p), v1, s2, .val (LI r), s4, s5, s6, s7, s8, .un, .un] = [.val (.int p), v1, .val (.lst (F.map pwR)), .val (LI r), s4, s5, s6, s7, s8, .un, .un] := by
    rcases h2 with rfl | rfl <;> rfl
  obtain ⟨z4, z5, hin⟩ := inner_run hp hn v1 (.val (.lst (F.map pwR))) s6 s7 s8 F r s4 s5 hF hr
  have hen : enL [LI (redR p F r)] = .ok (enumF 0 (I (redR p F r))) := rfl
  have hz1 : sizeOk (enumF 0 (I (redR p F r))) = true := size_small (by rw [enumF_length]; simp [hrr.1]; omega)
  have c1 := lead_run (r := redR p F r) (by rw [hrr.1]; exact hn) (.val (.int p)) v1 (.val (.lst (F.map pwR))) z5 s6 s7 s8 .un
  have lo : low 2 (.lst ((leadR (redR p F r)).map fun (i : Nat) => PF.W.int i)) := low_lst fun w hw => by
    obtain ⟨i, _, rfl⟩ := List.mem_map.mp hw
    exact low_int i
  have ne := ne_nilL lo (by decide)
  simp only [gRi] at hin
  simp only [gRo, sSeq_eq, onFrz, hf, sFor_eq, iOf_eq, gV_eq, lstW, List.getElem?_cons_succ, List.getElem?_cons_zero, T.bind_ok, hin, sSet_eq, fComp_eq, iL_eq, fCons_eq, fNil_eq, wipeE, List.foldl_cons, List.foldl_nil, List.set_cons_succ, List.set_cons_zero]
  simp only [hen, T.bind_ok, hz1, if_true, c1, fBl_eq, f2_eq, fL_eq, mkLst_eq, sizeOk_nil]
  simp only [sIf_eq, fBl_eq, f2_eq, fL_eq, fNil_eq, mkLst_eq, sizeOk_nil, if_true, gV_eq, List.getElem?_cons_succ, List.getElem?_cons_zero, T.bind_ok, neS_lst, ne, blW_bl]
  cases hlead : leadR (redR p F r) with
  | nil =>
    refine ⟨_, _, _, _, _, _, _, by simp only [List.map_nil, List.isEmpty_nil, Bool.not_true, Bool.false_eq_true, if_false, sNil_eq]; rfl, .inr ?_⟩
    unfold stepR
    rw [hlead]
  | cons j l =>
    obtain ⟨hj, hj0, _⟩ := lead_cons hlead
    rw [hrr.1] at hj
    have hb := hrr.at p0 j
    have hx6 : ixW (.lst ((j :: l).map fun (i : Nat) => PF.W.int i)) (.int 0) = .ok (.int (j : Int)) := by simp [ixW, atI, ixN]
    have hx3 := ix_at (a := redR p F r) (j := j) (by rw [hrr.1]; exact hj)
    have hiv := inv_run hp (b := (redR p F r).getD j 0) (by omega) hb.2
    obtain ⟨_, _, _, i1, i2, _⟩ := inv_is hp (b := (redR p F r).getD j 0) (by omega) hb.2
    have hz2 : sizeOk (I (redR p F r)) = true := size_small (by simp [hrr.1]; omega)
    have c2 : ∀ z4 z5 s8 : Sl, compL (goName 9) fYes (fL (fCons (gV 0) (fCons (f2 mulW (gV 9) (gV 7)) fNil)) F_rest_of) [.val (.int p), v1, .val (.lst (F.map pwR)), .val (LI (redR p F r)), z4, z5, .val (.lst ((j :: l).map fun (i : Nat) => PF.W.int i)), .val (.int (inv p ((redR p F r).getD j 0))), s8, .un, .un] (I (redR p F r)) = .ok (I (scR p (inv p ((redR p F r).getD j 0)) (redR p F r))) := fun z4 z5 s8 => by
      have : (I (scR p (inv p ((redR p F r).getD j 0)) (redR p F r))) = (redR p F r).map fun x => PF.W.int (x * inv p ((redR p F r).getD j 0) % p) := by simp [scR, Function.comp_def]
      rw [this]
      refine compL_map _ _ _ fun x hx => ⟨_, rfl, rfl, ?_⟩
      have mo := bnd_mul hp (hrr.2 x hx) (y := inv p ((redR p F r).getD j 0)) (by omega)
      simp [mo, rest_run p0, -List.getD_eq_getElem?_getD]
    have hz3 : sizeOk (F.map pwR) = true := size_small (by simp; omega)
    have c3 : compL (goTup 2 (goCons (goName 4) (goCons (goName 5) goNil))) fYes (fL (fCons (gV 4) (fCons (fL (fCons (gV 0) (fCons (gV 5) (fCons (gV 8) (fCons (f2 ixW (gV 6) (fun _ => .ok (.int 0))) fNil)))) F_cleared) fNil)) mkTup) [.val (.int p), v1, .val (.lst (F.map pwR)), .val (LI (redR p F r)), .un, .un, .val (.lst ((j :: l).map fun (i : Nat) => PF.W.int i)), .val (.int (inv p ((redR p F r).getD j 0))), .val (LI (scR p (inv p ((redR p F r).getD j 0)) (redR p F r))), .un, .un] (F.map pwR) = .ok (F.map fun q => pwR (q.1, lcR p (q.2.getD j 0) q.2 (scR p (inv p ((redR p F r).getD j 0)) (redR p F r)))) := by
      refine compL_map _ _ _ fun q hq => ⟨_, rfl, rfl, ?_⟩
      obtain ⟨q1, q2⟩ := hF q hq
      have cl := cleared_run hp q2 (hrr.sc p0 (f := inv p ((redR p F r).getD j 0))) hj hn
      simp only [fL_eq, fCons_eq, fNil_eq, f2_eq, gV_eq, List.set_cons_succ, List.set_cons_zero, List.getElem?_cons_succ, List.getElem?_cons_zero, T.bind_ok, hx6, cl, mkTup_eq, sizeOk_2, if_true]
    have hr' : roomOk (F.map fun q => pwR (q.1, lcR p (q.2.getD j 0) q.2 (scR p (inv p ((redR p F r).getD j 0)) (redR p F r)))) = true := room_is (by simp; omega)
    iterate 7 apply Exists.intro
    refine ⟨?_, .inl ?_⟩
    · simp only [List.map_cons, List.isEmpty_cons, Bool.not_false, if_true]
      rw [← List.map_cons (f := fun (i : Nat) => PF.W.int i)]
      simp only [sSeq_eq, sSet_eq, fL_eq, fCons_eq, fNil_eq, f2_eq, gV_eq, List.getElem?_cons_succ, List.getElem?_cons_zero, T.bind_ok, hx6, hx3, hiv, List.set_cons_succ, List.set_cons_zero, fComp_eq, iOf_eq, lstW, hz2, if_true, wipeE, List.foldl_cons, List.foldl_nil, c2, onFrz, sOwnE]
      have hf2 : ∀ s6 s7 s8 : Sl, frz 2 [.val (.int p), v1, .val (.lst (F.map pwR)), .val (LI (redR p F r)), z4, z5, s6, s7, s8, .un, .un] = [.val (.int p), v1, .val (.lst (F.map pwR)), .val (LI (redR p F r)), z4, z5, s6, s7, s8, .un, .un] := fun _ _ _ => rfl
      simp only [hf2, lstW, gV_eq, List.getElem?_cons_succ, List.getElem?_cons_zero, T.bind_ok, hz3, if_true, List.set_cons_succ, List.set_cons_zero, c3, sApp, fCons_eq, fNil_eq, f2_eq, fL_eq, hx6, mkTup_eq, sizeOk_2, hr']
      rfl
    · unfold stepR
      rw [hlead]
      simp only [List.map_append, List.map_map, List.map_cons, List.map_nil]
      rfl
end
end Lw
namespace Lw
open PySem L2 PF Rt
section
variable {p : Int} {n : Nat}
theorem outer_run (hp : Pr p) (hn : n ≤ 1000) (v1 : Sl) : ∀ (rows : List (List Int)) (F : List (Nat × List Int)) (s2 s3 s4 s5 s6 s7 s8 : Sl), (∀ r ∈ rows, Rw p n r) → Fw p n F → F.length + rows.length ≤ 900 → FoR F s2 →
    ∃ z2 z3 z4 z5 z6 z7 z8, forL (goName 3) gRo (rows.map LI) [.val (.int p), v1, s2, s3, s4, s5, s6, s7, s8, .un, .un] = .ok (.nx, [.val (.int p), v1, z2, z3, z4, z5, z6, z7, z8, .un, .un]) ∧ FoR (rows.foldl (stepR p) F) z2
  | [], F, s2, s3, s4, s5, s6, s7, s8, _, _, _, h2 => ⟨s2, s3, s4, s5, s6, s7, s8, rfl, h2⟩
  | r :: rows, F, s2, s3, s4, s5, s6, s7, s8, hr, hF, hl, h2 => by
    have bb := hp.b
    simp only [List.length_cons] at hl
    have hrr := hr r (by simp)
    obtain ⟨z2, z3, z4, z5, z6, z7, z8, e, h⟩ := step_run hp hn hF (by omega) hrr v1 s2 s4 s5 s6 s7 s8 h2
    have := stepR_len (p := p) F r
    obtain ⟨y2, y3, y4, y5, y6, y7, y8, e', h'⟩ := outer_run hp hn v1 rows (stepR p F r) z2 z3 z4 z5 z6 z7 z8 (fun r hr' => hr r (by simp [hr'])) (stepR_fw (by omega) hF hrr) (by omega) h
    refine ⟨y2, y3, y4, y5, y6, y7, y8, ?_, h'⟩
    rw [List.map_cons]
    unfold forL
    have g : goName 3 (LI r) [.val (.int p), v1, s2, s3, s4, s5, s6, s7, s8, .un, .un] = some [.val (.int p), v1, s2, .val (LI r), s4, s5, s6, s7, s8, .un, .un] := rfl
    rw [g]
    simp only [e, T.bind_ok]
    exact e'
end
theorem toDs_map {α : Type} (m : α → PF.W) (g : α → PyData) : ∀ (as : List α), (∀ a ∈ as, (m a).toD = some (g a)) → toDs (as.map m) = some (as.map g)
  | [], _ => rfl
  | a :: as, h => by
    have ih := toDs_map m g as fun a ha => h a (by simp [ha])
    have e := h a (by simp)
    simp only [List.map_cons, toDs, e, ih]
theorem zip_maps {α : Type} (m : α → PF.W) (g : α → PyData) : ∀ (as : List α), (as.map m).zip (as.map g) = as.map fun a => (m a, g a)
  | [] => rfl
  | a :: as => by simp only [List.map_cons, List.zip_cons_cons, zip_maps m g as]
theorem sortP_perm {α : Type} (m : α → PF.W) (g : α → PyData) (as : List α) (h : ∀ a ∈ as, (m a).toD = some (g a)) (hk : okD (as.map g) = true) : ∃ as' : List α, as'.Perm as ∧ sortedP [.lst (as.map m)] = .ok (.lst (as'.map m)) := by
  refine ⟨as.mergeSort (PySem.W.dataLe false g), List.mergeSort_perm as _, ?_⟩
  have e : (((as.map m).zip (as.map g)).mergeSort (PySem.W.dataLe false Prod.snd)).map Prod.fst = (as.mergeSort (PySem.W.dataLe false g)).map m := by
    rw [zip_maps, ← PySem.W.sort_maps (r := PySem.W.dataLe false g) (s := PySem.W.dataLe false (fun p : PF.W × PyData => p.2)) (fun a => (m a, g a)) (fun _ _ _ _ => rfl), List.map_map]
    rfl
  simp only [sortedP, toDs_map m g as h, hk, if_true, e]
abbrev dRw (q : Nat × List Int) : PyData := .tuple [.int (q.1 : Int), .list (q.2.map PyData.int)]
theorem toD_pwR (q : Nat × List Int) : (pwR q).toD = some (dRw q) := by
  have e2 : (LI q.2).toD = some (.list (q.2.map PyData.int)) := by
    show (toDs (q.2.map PF.W.int)).map PyData.list = _
    rw [toDs_ints]
    rfl
  have e1 : (PF.W.int (q.1 : Int)).toD = some (.int (q.1 : Int)) := rfl
  show (toDs [.int (q.1 : Int), LI q.2]).map PyData.tuple = _
  simp only [toDs, e1, e2, Option.map_some]
theorem okD_pwR (F : List (Nat × List Int)) : okD (F.map dRw) = true := by
  unfold okD
  rw [Bool.and_eq_true, Bool.and_eq_true]
  refine ⟨?_, ?_, ?_⟩
  · refine List.all_eq_true.mpr fun d hd => ?_
    obtain ⟨q, _, rfl⟩ := List.mem_map.mp hd
    rfl
  · refine List.all_eq_true.mpr fun d hd => List.all_eq_true.mpr fun e he => ?_
    obtain ⟨q, _, rfl⟩ := List.mem_map.mp hd
    obtain ⟨r, _, rfl⟩ := List.mem_map.mp he
    have h1 : PySem.W.alike (.int (q.1 : Int)) (.int (r.1 : Int)) = true := rfl
    have h2 : PySem.W.alike (.list (q.2.map PyData.int)) (.list (r.2.map PyData.int)) = true := PySem.W.alike_ints q.2 r.2
    show PySem.W.alikeAll [.int (q.1 : Int), .list (q.2.map PyData.int)] [.int (r.1 : Int), .list (r.2.map PyData.int)] = true
    simp only [PySem.W.alikeAll, h1, h2, Bool.and_self]
  · refine List.all_eq_true.mpr fun d hd => ?_
    obtain ⟨q, _, rfl⟩ := List.mem_map.mp hd
    have := PySem.W.depth_ints q.2
    refine decide_eq_true ?_
    simp only [PyData.depth, PyData.depthAll]
    omega
theorem sorted_pw (F : List (Nat × List Int)) : ∃ F' : List (Nat × List Int), F'.Perm F ∧ sortedV [.lst (F.map pwR)] = .ok (.lst (F'.map pwR)) := by
  cases F with
  | nil => exact ⟨[], .nil, rfl⟩
  | cons q F =>
    obtain ⟨F', h1, h2⟩ := sortP_perm pwR dRw (q :: F) (fun a _ => toD_pwR a) (okD_pwR _)
    exact ⟨F', h1, h2⟩
section
variable {p : Int} {n : Nat}
theorem fold_fw (hp : 0 < p) : ∀ {rows : List (List Int)} {F : List (Nat × List Int)}, (∀ r ∈ rows, Rw p n r) → Fw p n F → Fw p n (rows.foldl (stepR p) F)
  | [], _, _, h => h
  | r :: rows, _, hr, h => fold_fw hp (rows := rows) (fun r hr' => hr r (by simp [hr'])) (stepR_fw hp h (hr r (by simp)))
theorem fold_len : ∀ (rows : List (List Int)) (F : List (Nat × List Int)), (rows.foldl (stepR p) F).length ≤ F.length + rows.length
  | [], _ => Nat.le_refl _
  | r :: rows, F => by
    have h1 := fold_len rows (stepR p F r)
    have h2 := stepR_len (p := p) F r
    simp only [List.foldl_cons, List.length_cons]
    omega
theorem reduced_run (hp : Pr p) (hn : n ≤ 1000) {rows : List (List Int)} (hr : ∀ r ∈ rows, Rw p n r) (hl : rows.length ≤ 900) : ∃ F : List (Nat × List Int), F.Perm (rows.foldl (stepR p) []) ∧ F_reduced [.int p, .lst (rows.map LI)] = .ok (.lst (F.map pwR)) := by
  obtain ⟨F, h1, h2⟩ := sorted_pw (rows.foldl (stepR p) [])
  refine ⟨F, h1, ?_⟩
  obtain ⟨z2, z3, z4, z5, z6, z7, z8, e, h⟩ := outer_run hp hn (.val (.lst (rows.map LI))) rows [] (.own []) .un .un .un .un .un .un hr (fun q hq => by cases hq) (by simpa using hl) (.inl rfl)
  simp only [gRo] at e
  have hz : frz 2 [.val (.int p), .val (.lst (rows.map LI)), z2, z3, z4, z5, z6, z7, z8, .un, .un] = [.val (.int p), .val (.lst (rows.map LI)), .val (.lst ((rows.foldl (stepR p) []).map pwR)), z3, z4, z5, z6, z7, z8, .un, .un] := by
    rcases h with rfl | rfl <;> rfl
  have hs : startE 11 [.int p, .lst (rows.map LI)] = [.val (.int p), .val (.lst (rows.map LI)), .un, .un, .un, .un, .un, .un, .un, .un, .un] := rfl
  have ho : sOwn 2 fNil [.val (.int p), .val (.lst (rows.map LI)), .un, .un, .un, .un, .un, .un, .un, .un, .un] = .ok (.nx, [.val (.int p), .val (.lst (rows.map LI)), .own [], .un, .un, .un, .un, .un, .un, .un, .un]) := by simp [sOwn, sizeOk_nil]
  simp only [F_reduced, defF, hs, List.length_cons, List.length_nil, if_true, sSeq_eq, ho, T.bind_ok, sFor_eq, iOf_eq, gV_eq, lstW, List.getElem?_cons_succ, List.getElem?_cons_zero, e, onFrz, hz, sRet_eq, fL_eq, fCons_eq, fNil_eq, h2]
  rfl
end
end Lw
namespace Lw
open PySem L2 PF Rt
/-- a whole number by the prime -/
abbrev cz (P : Nat) [NeZero P] (a : Int) : Fin P := Lean.Grind.Ring.intCast.intCast a
section
variable {P : Nat} [NeZero P]
theorem cz_zero (a : Int) : cz P a = 0 ↔ a % (P : Int) = 0 := Lean.Grind.IsCharP.intCast_eq_zero_iff (α := Fin P) P a
theorem cz_sub (a b : Int) : cz P (a - b) = cz P a - cz P b := Lean.Grind.Ring.intCast_sub a b
theorem cz_add (a b : Int) : cz P (a + b) = cz P a + cz P b := Lean.Grind.Ring.intCast_add a b
theorem cz_mul (a b : Int) : cz P (a * b) = cz P a * cz P b := Lean.Grind.Ring.intCast_mul a b
theorem cz_one : cz P 1 = 1 := Lean.Grind.Ring.intCast_one
theorem cz_null : cz P 0 = 0 := Lean.Grind.Ring.intCast_zero
theorem cz_same {a b : Int} : cz P a = cz P b ↔ (a - b) % (P : Int) = 0 := by
  rw [← cz_zero, cz_sub]
  constructor <;> intro h <;> grind
theorem cz_mod (a : Int) : cz P (a % (P : Int)) = cz P a := cz_same.mpr (by rw [Int.sub_emod, Int.emod_emod_of_dvd a (Int.dvd_refl _), Int.sub_self, Int.zero_emod])
theorem one_ne (hp : Pr (P : Int)) : (1 : Fin P) ≠ 0 := by
  have := hp.b
  rw [← cz_one (P := P)]
  intro h
  have h := (cz_zero (P := P) 1).mp h
  rw [Int.emod_eq_of_lt (by omega) (by omega)] at h
  omega
theorem inv_cz (hp : Pr (P : Int)) {a : Int} (h1 : 1 ≤ a) (h2 : a < (P : Int)) : cz P a * cz P (inv P a) = 1 := by
  obtain ⟨_, _, _, _, _, h⟩ := inv_is hp h1 h2
  rw [← cz_mul, ← cz_one, cz_same]
  have bb := hp.b
  have e1 : (1 : Int) % (P : Int) = 1 := Int.emod_eq_of_lt (by omega) (by omega)
  rw [Int.sub_emod, Int.mul_comm a, h, e1, Int.sub_self, Int.zero_emod]
/-- a row of signs as a row over the field -/
def ve (P : Nat) [NeZero P] (r : List Int) : Nat → Fin P := fun i => cz P (r.getD i 0)
theorem ve_null {n : Nat} {r : List Int} (hr : Rw (P : Int) n r) {i : Nat} : ve P r i = 0 ↔ r.getD i 0 = 0 := by
  have hp : (0 : Int) < (P : Int) := by have := NeZero.ne P; omega
  have := hr.at hp i
  unfold ve
  rw [cz_zero, Int.emod_eq_of_lt this.1 this.2]
theorem ve_out {n : Nat} {r : List Int} (hr : r.length = n) {i : Nat} (h : n ≤ i) : ve P r i = 0 := by
  unfold ve
  rw [List.getD_eq_getElem?_getD, List.getElem?_eq_none (by omega)]
  exact cz_null
theorem ve_lc {n : Nat} {f : Int} {a b : List Int} (ha : a.length = n) (hb : b.length = n) (i : Nat) : ve P (lcR P f a b) i = ve P a i - cz P f * ve P b i := by
  by_cases h : i < n
  · have h1 : a[i]? = some a[i] := List.getElem?_eq_getElem (by omega)
    have h2 : b[i]? = some b[i] := List.getElem?_eq_getElem (by omega)
    unfold ve lcR
    simp only [List.getD_eq_getElem?_getD, List.getElem?_map, h1, h2, Option.getD_some]
    have e : (a.zip b)[i]? = some (a[i]'(by omega), b[i]'(by omega)) := List.getElem?_zip_eq_some.mpr ⟨h1, h2⟩
    rw [e]
    simp only [Option.map_some, Option.getD_some]
    rw [cz_mod, cz_sub, cz_mul]
  · rw [ve_out ha (by omega), ve_out hb (by omega), ve_out (n := n) (by simp [lcR, ha, hb]) (by omega)]
    grind
theorem ve_sc {f : Int} {a : List Int} (i : Nat) : ve P (scR P f a) i = ve P a i * cz P f := by
  unfold ve scR
  simp only [List.getD_eq_getElem?_getD, List.getElem?_map]
  cases a[i]? with
  | none =>
    simp only [Option.map_none, Option.getD_none]
    rw [cz_null]
    grind
  | some x =>
    simp only [Option.map_some, Option.getD_some]
    rw [cz_mod, cz_mul]
def vq (P : Nat) [NeZero P] (q : Nat × List Int) : Nat × (Nat → Fin P) := (q.1, ve P q.2)
theorem ve_red {n : Nat} : ∀ {F : List (Nat × List Int)} {r : List Int}, Fw (P : Int) n F → Rw (P : Int) n r → ve P (redR P F r) = rred (F.map (vq P)) (ve P r)
  | [], _, _, _ => rfl
  | q :: F, r, hF, hr => by
    have hp : (0 : Int) < (P : Int) := by have := NeZero.ne P; omega
    have hq := (hF q (by simp)).2
    unfold redR
    rw [ve_red (F := F) (fun q hq => hF q (by simp [hq])) (hr.lc hp hq), List.map_cons]
    exact congrArg (rred (F.map (vq P))) (funext fun i => ve_lc (f := r.getD q.1 0) hr.1 hq.1 i)
theorem stepR_RRf (hp : Pr (P : Int)) {n : Nat} {R : List (Nat → Fin P)} {F : List (Nat × List Int)} {r : List Int} (hF : Fw (P : Int) n F) (hr : Rw (P : Int) n r) (h : RRf R (F.map (vq P))) : RRf (R ++ [ve P r]) ((stepR P F r).map (vq P)) := by
  have bb := hp.b
  have p0 : (0 : Int) < (P : Int) := by omega
  have hrr := redR_rw p0 hF hr
  have er := ve_red hF hr
  unfold stepR
  split
  · rename_i hl
    refine h.skip fun i => ?_
    rw [← er]
    exact (ve_null hrr).mpr (lead_nil hl i)
  · rename_i j l hl
    obtain ⟨h1, h2, h3⟩ := lead_cons hl
    have hb := hrr.at p0 j
    refine h.more (j := j) (b := cz P (inv P ((redR P F r).getD j 0))) (fresh := ve P (scR P (inv P ((redR P F r).getD j 0)) (redR P F r))) (fun i hi => ?_) ?_ ?_ (fun i => ?_) ?_
    · rw [← er]
      exact (ve_null hrr).mpr (h3 i hi)
    · rw [← er]
      exact fun z => h2 ((ve_null hrr).mp z)
    · rw [← er]
      exact inv_cz hp (by omega) hb.2
    · rw [← er]
      exact ve_sc i
    · rw [List.map_append, List.map_map, List.map_map]
      refine congrArg (· ++ _) (List.map_congr_left fun q hq => ?_)
      have hq := (hF q hq).2
      show (q.1, ve P (lcR P _ q.2 _)) = (q.1, _)
      refine congrArg (Prod.mk q.1) (funext fun i => ?_)
      exact ve_lc hq.1 (hrr.sc p0).1 i
theorem fold_RRf (hp : Pr (P : Int)) {n : Nat} : ∀ {rows : List (List Int)} {R : List (Nat → Fin P)} {F : List (Nat × List Int)}, (∀ r ∈ rows, Rw (P : Int) n r) → Fw (P : Int) n F → RRf R (F.map (vq P)) → RRf (R ++ rows.map (ve P)) ((rows.foldl (stepR P) F).map (vq P))
  | [], R, F, _, _, h => by simpa using h
  | r :: rows, R, F, hr, hF, h => by
    have p0 : (0 : Int) < (P : Int) := by have := hp.b; omega
    have h1 := stepR_RRf hp hF (hr r (by simp)) h
    have h2 := fold_RRf hp (rows := rows) (fun r hr' => hr r (by simp [hr'])) (stepR_fw p0 hF (hr r (by simp))) h1
    simpa using h2
end
end Lw
namespace Lw
open PySem L2 PF Rt
def nextL (p : Int) (t : Nat) (L : List (List Int)) : List (List Int) :=
  match L.filter fun r => !(r.getD t 0 == 0) with
  | [] => L
  | f :: _ => (L.filter fun r => !decide (r = f)).map fun s => lcR p (s.getD t 0 * inv p (f.getD t 0)) s f
def hitL (t : Nat) (L : List (List Int)) : Nat := if (L.filter fun r => !(r.getD t 0 == 0)).isEmpty then 0 else 1
theorem nextL_rw {p : Int} {n t : Nat} (hp : 0 < p) {L : List (List Int)} (hL : ∀ r ∈ L, Rw p n r) : ∀ r ∈ nextL p t L, Rw p n r := by
  intro r hr
  unfold nextL at hr
  split at hr
  · exact hL r hr
  · rename_i f l hf
    have hf : f ∈ L := (List.mem_filter.mp (hf ▸ List.mem_cons_self : f ∈ L.filter _)).1
    obtain ⟨s, hs, rfl⟩ := List.mem_map.mp hr
    exact (hL s (List.mem_filter.mp hs).1).lc hp (hL f hf)
theorem nextL_len {p : Int} {t : Nat} {L : List (List Int)} : (nextL p t L).length ≤ L.length := by
  unfold nextL
  split
  · exact Nat.le_refl _
  · rw [List.length_map]
    exact List.length_filter_le ..
section
variable {P : Nat} [NeZero P]
theorem next_lft (hp : Pr (P : Int)) {n t : Nat} {R : List (Nat → Fin P)} {L : List (List Int)} (hL : ∀ r ∈ L, Rw (P : Int) n r) (h : RLft R t (L.map (ve P))) :
    RLft R (t + 1) ((nextL P t L).map (ve P)) ∧ (hitL t L = 1 ∧ RPiv R t ∨ hitL t L = 0 ∧ ¬ RPiv R t) := by
  have p0 : (0 : Int) < (P : Int) := by have := hp.b; omega
  cases hf : L.filter fun r => !(r.getD t 0 == 0) with
  | nil =>
    have e : nextL P t L = L := by unfold nextL; rw [hf]
    have e2 : hitL t L = 0 := by unfold hitL; rw [hf]; rfl
    have := h.none fun r hr => by
      obtain ⟨s, hs, rfl⟩ := List.mem_map.mp hr
      refine (ve_null (hL s hs)).mpr ?_
      by_cases z : s.getD t 0 = 0
      · exact z
      · have : s ∈ L.filter fun r => !(r.getD t 0 == 0) := List.mem_filter.mpr ⟨hs, by simpa using z⟩
        rw [hf] at this
        cases this
    rw [e]
    exact ⟨this.1, .inr ⟨e2, this.2⟩⟩
  | cons f l =>
    have e : nextL P t L = (L.filter fun r => !decide (r = f)).map fun s => lcR P (s.getD t 0 * inv P (f.getD t 0)) s f := by unfold nextL; rw [hf]
    have e2 : hitL t L = 1 := by unfold hitL; rw [hf]; rfl
    have mf : f ∈ L.filter fun r => !(r.getD t 0 == 0) := hf ▸ List.mem_cons_self
    obtain ⟨fm, f0⟩ := List.mem_filter.mp mf
    have f0 : f.getD t 0 ≠ 0 := by simpa using f0
    have hfr := hL f fm
    have hb := hfr.at p0 t
    have he : ∀ s ∈ L, ∀ i, ve P (lcR P (s.getD t 0 * inv P (f.getD t 0)) s f) i = ve P s i - ve P s t * cz P (inv P (f.getD t 0)) * ve P f i := fun s hs i => by
      rw [ve_lc (hL s hs).1 hfr.1, cz_mul]
      rfl
    have := h.some (f := ve P f) (b := cz P (inv P (f.getD t 0))) (L' := (nextL P t L).map (ve P)) (List.mem_map_of_mem fm) (inv_cz hp (by omega) hb.2) (fun z => f0 ((ve_null hfr).mp z)) (fun r hr => ?_) (fun s hs => ?_)
    · exact ⟨this.1, .inl ⟨e2, this.2⟩⟩
    · obtain ⟨q, hq, rfl⟩ := List.mem_map.mp hr
      rw [e] at hq
      obtain ⟨s, hs, rfl⟩ := List.mem_map.mp hq
      have hs := (List.mem_filter.mp hs).1
      exact ⟨ve P s, List.mem_map_of_mem hs, he s hs⟩
    · obtain ⟨q, hq, rfl⟩ := List.mem_map.mp hs
      by_cases z : q = f
      · exact .inl fun i => by rw [z]
      · refine .inr ⟨_, List.mem_map_of_mem ?_, he q hq⟩
        rw [e]
        exact List.mem_map_of_mem (List.mem_filter.mpr ⟨hq, by simpa using z⟩)
/-- the rows that are left behind so many places -/
def leftR (P : Nat) [NeZero P] (L : List (List Int)) : Nat → List (List Int)
  | 0 => L
  | t + 1 => nextL P t (leftR P L t)
/-- how many places were found -/
def gotR (P : Nat) [NeZero P] (L : List (List Int)) : Nat → Nat
  | 0 => 0
  | t + 1 => gotR P L t + hitL t (leftR P L t)
theorem leftR_rw {n : Nat} {L : List (List Int)} (hL : ∀ r ∈ L, Rw (P : Int) n r) : ∀ t, ∀ r ∈ leftR P L t, Rw (P : Int) n r
  | 0 => hL
  | t + 1 => nextL_rw (by have := NeZero.ne P; omega) (leftR_rw hL t)
theorem leftR_len {L : List (List Int)} : ∀ t, (leftR P L t).length ≤ L.length
  | 0 => Nat.le_refl _
  | t + 1 => Nat.le_trans nextL_len (leftR_len t)
theorem gotR_is (hp : Pr (P : Int)) {n : Nat} {L : List (List Int)} (hL : ∀ r ∈ L, Rw (P : Int) n r) : ∀ t, RLft (L.map (ve P)) t ((leftR P L t).map (ve P)) ∧ gotR P L t = rcnt (RPiv (L.map (ve P))) t
  | 0 => ⟨RLft.zero _, rfl⟩
  | t + 1 => by
    obtain ⟨h1, h2⟩ := gotR_is hp hL t
    obtain ⟨g1, g2⟩ := next_lft hp (leftR_rw hL t) h1
    refine ⟨g1, ?_⟩
    unfold gotR rcnt
    rcases g2 with ⟨a, b⟩ | ⟨a, b⟩
    · rw [h2, a, if_pos b]
    · rw [h2, a, if_neg b]
end
end Lw
namespace Lw
open PySem L2 PF Rt
section
variable {p : Int} {n : Nat}
abbrev gLi : En → T (Fl × En) := (sIf (fBl (f2 neS (gV 2) (gV 7))) (sSeq (sSet 10 (f2 mulW (f2 ixW (gV 2) (gV 5)) (gV 9))) (sApp 8 (fCons (fComp [11, 12] (iL zpW (fCons (gV 2) (fCons (gV 7) fNil))) (goTup 2 (goCons (goName 11) (goCons (goName 12) goNil))) fYes (f2 modW (fL (fCons (f2 subW (gV 11) (f2 mulW (gV 10) (gV 12))) fNil) intW) (gV 0))) fNil))) sNil)
theorem later_run (hp : Pr p) (hn : n ≤ 1000) {f : List Int} {b : Int} {t : Nat} (ht : t < n) (hf : Rw p n f) (hb : 0 ≤ b ∧ b < p) (v1 v3 v4 v6 : Sl) : ∀ (xs acc : List (List Int)) (s2 s10 : Sl), (∀ x ∈ xs, Rw p n x) → acc.length + xs.length ≤ 900 →
    ∃ z2 z10, forL (goName 2) gLi (xs.map LI) [.val (.int p), v1, s2, v3, v4, .val (.int (t : Int)), v6, .val (LI f), .own (acc.map LI), .val (.int b), s10, .un, .un] =
      .ok (.nx, [.val (.int p), v1, z2, v3, v4, .val (.int (t : Int)), v6, .val (LI f), .own ((acc ++ (xs.filter fun r => !decide (r = f)).map fun s => lcR p (s.getD t 0 * b) s f).map LI), .val (.int b), z10, .un, .un])
  | [], acc, s2, s10, _, _ => ⟨s2, s10, by simp only [List.filter_nil, List.map_nil, List.append_nil]; rfl⟩
  | x :: xs, acc, s2, s10, hx, hl => by
    have bb := hp.b
    have hxx := hx x (by simp)
    simp only [List.length_cons] at hl
    have hg : goName 2 (LI x) [.val (.int p), v1, s2, v3, v4, .val (.int (t : Int)), v6, .val (LI f), .own (acc.map LI), .val (.int b), s10, .un, .un] = some [.val (.int p), v1, .val (LI x), v3, v4, .val (.int (t : Int)), v6, .val (LI f), .own (acc.map LI), .val (.int b), s10, .un, .un] := rfl
    rw [List.map_cons]
    unfold forL
    rw [hg]
    simp only [gLi, sIf_eq, fBl_eq, f2_eq, gV_eq, List.getElem?_cons_succ, List.getElem?_cons_zero, T.bind_ok, ne_il, blW_bl]
    by_cases hxf : x = f
    · obtain ⟨z2, z10, e⟩ := later_run hp hn ht hf hb v1 v3 v4 v6 xs acc (.val (LI x)) s10 (fun y hy => hx y (by simp [hy])) (by omega)
      refine ⟨z2, z10, ?_⟩
      rw [decide_eq_true hxf, List.filter_cons_of_neg (by simp [hxf])]
      simp only [Bool.not_true, Bool.false_eq_true, if_false, sNil_eq, T.bind_ok]
      exact e
    · have hxt := ix_at (a := x) (j := t) (by rw [hxx.1]; exact ht)
      have hxb := hxx.at (show 0 < p by omega) t
      have mo := bnd_mul hp hxb hb
      have hz : sizeOk ((x.zip f).map fun q => PF.W.tup [.int q.1, .int q.2]) = true := size_small (by simp [hxx.1, hf.1]; omega)
      have hr : roomOk (acc.map LI) = true := room_is (by simp; omega)
      have c : compL (goTup 2 (goCons (goName 11) (goCons (goName 12) goNil))) fYes (f2 modW (fL (fCons (f2 subW (gV 11) (f2 mulW (gV 10) (gV 12))) fNil) intW) (gV 0)) [.val (.int p), v1, .val (LI x), v3, v4, .val (.int (t : Int)), v6, .val (LI f), .own (acc.map LI), .val (.int b), .val (.int (x.getD t 0 * b)), .un, .un] ((x.zip f).map fun q => PF.W.tup [.int q.1, .int q.2]) = .ok ((x.zip f).map fun q => PF.W.int ((q.1 - x.getD t 0 * b * q.2) % p)) := by
        refine compL_map _ _ _ fun q hq => ⟨_, rfl, rfl, ?_⟩
        have h1 := hf.2 q.2 (List.of_mem_zip hq).2
        have b2 : 0 ≤ x.getD t 0 * b ∧ x.getD t 0 * b ≤ 23 * 23 := ⟨Int.mul_nonneg hxb.1 hb.1, Int.mul_le_mul (by omega) (by omega) hb.1 (by omega)⟩
        have m2 : mulOk (x.getD t 0 * b) q.2 = true := mul_small (by omega) (by omega)
        have pp : 0 < p := by omega
        simp [m2, pp, -List.getD_eq_getElem?_getD]
      obtain ⟨z2, z10, e⟩ := later_run hp hn ht hf hb v1 v3 v4 v6 xs (acc ++ [lcR p (x.getD t 0 * b) x f]) (.val (LI x)) (.val (.int (x.getD t 0 * b))) (fun y hy => hx y (by simp [hy])) (by simp; omega)
      refine ⟨z2, z10, ?_⟩
      have el : (x.zip f).map (fun q => PF.W.int ((q.1 - x.getD t 0 * b * q.2) % p)) = I (lcR p (x.getD t 0 * b) x f) := by simp [lcR, Function.comp_def]
      rw [el] at c
      rw [decide_eq_false hxf, List.filter_cons_of_pos (by simp [hxf])]
      simp only [Bool.not_false, if_true, sSeq_eq, sSet_eq, f2_eq, gV_eq, List.getElem?_cons_succ, List.getElem?_cons_zero, T.bind_ok, hxt, mulW_int, mo, List.set_cons_succ, List.set_cons_zero, sApp, fCons_eq, fNil_eq, fComp_eq, iL_eq, zpW, zipF_ints, hz, wipeE, List.foldl_cons, List.foldl_nil, c, hr]
      simp only [List.map_append, List.map_cons, List.map_nil, List.append_assoc, List.cons_append, List.nil_append] at e ⊢
      exact e
end
end Lw
namespace Lw
open PySem L2 PF Rt
theorem ints_nat (t : Nat) : ∀ k, PF.intsFrom (t : Int) k = (List.range' t k).map fun (i : Nat) => PF.W.int (i : Int)
  | 0 => rfl
  | k + 1 => by
    have := ints_nat (t + 1) k
    rw [List.range'_succ, List.map_cons, ← this]
    rfl
theorem rng_nat {n : Nat} (h : n ≤ 1000) : rng1 [.int (n : Int)] = .ok ((List.range' 0 n).map fun (i : Nat) => PF.W.int (i : Int)) := by
  have a2 : rngOk (n : Int) = true := rngOk_is (by omega) (by omega)
  have := ints_nat 0 n
  simp only [rng1, a2, if_true, Int.toNat_natCast]
  exact congrArg T.ok this
theorem low_LI (r : List Int) : low 2 (LI r) := low_intsL r
theorem ne_rows (L : List (List Int)) : neW (.lst (L.map LI)) (.lst []) = .ok (.bl !L.isEmpty) := by
  rw [ne_nilL (low_lst (n := 2) fun w hw => by obtain ⟨r, _, rfl⟩ := List.mem_map.mp hw; exact low_LI r) (by decide)]
  cases L <;> rfl
section
variable {P : Nat} [NeZero P] {n : Nat}
abbrev gRk : En → T (Fl × En) := (sSeq (sSet 6 (fComp [2] (iOf lstW (gV 3)) (goName 2) (fBl (f2 neS (f2 ixW (gV 2) (gV 5)) (fun _ => .ok (.int 0)))) (gV 2))) (sIf (fBl (f2 neS (gV 6) (fL fNil mkLst))) (sSeq (sOwnLast 7 4 8 (f2 ixW (gV 6) (fun _ => .ok (.int 0))) (f2 addW (gV 4) (fun _ => .ok (.int 1)))) (sSeq (sSet 9 (fL (fCons (gV 0) (fCons (f2 ixW (gV 7) (gV 5)) fNil)) F__law_back)) (sSeq (sFor (iOf lstW (gV 3)) (goName 2) (sIf (fBl (f2 neS (gV 2) (gV 7))) (sSeq (sSet 10 (f2 mulW (f2 ixW (gV 2) (gV 5)) (gV 9))) (sApp 8 (fCons (fComp [11, 12] (iL zpW (fCons (gV 2) (fCons (gV 7) fNil))) (goTup 2 (goCons (goName 11) (goCons (goName 12) goNil))) fYes (f2 modW (fL (fCons (f2 subW (gV 11) (f2 mulW (gV 10) (gV 12))) fNil) intW) (gV 0))) fNil))) sNil)) (onFrz 8 (sSet 3 (fL (fCons (gV 8) fNil) lstOfW)))))) sNil))
theorem rank_step (hp : Pr (P : Int)) (hn : n ≤ 1000) {L : List (List Int)} (hL : ∀ r ∈ L, Rw (P : Int) n r) (hl : L.length ≤ 900) {t g : Nat} (ht : t < n) (v1 s2 s6 s7 s8 s9 s10 : Sl) :
    ∃ z2 z6 z7 z8 z9 z10, gRk [.val (.int (P : Int)), v1, s2, .val (.lst (L.map LI)), .val (.int (g : Int)), .val (.int (t : Int)), s6, s7, s8, s9, s10, .un, .un] =
      .ok (.nx, [.val (.int (P : Int)), v1, z2, .val (.lst ((nextL P t L).map LI)), .val (.int ((g + hitL t L : Nat) : Int)), .val (.int (t : Int)), z6, z7, z8, z9, z10, .un, .un]) := by
  have bb := hp.b
  have c1 : compL (goName 2) (fBl (f2 neS (f2 ixW (gV 2) (gV 5)) (fun _ => .ok (.int 0)))) (gV 2) [.val (.int (P : Int)), v1, .un, .val (.lst (L.map LI)), .val (.int (g : Int)), .val (.int (t : Int)), s6, s7, s8, s9, s10, .un, .un] (L.map LI) = .ok ((L.filter fun r => !(r.getD t 0 == 0)).map LI) := by
    refine compL_filter _ _ _ _ fun r hr => ⟨_, rfl, ?_, fun _ => by simp⟩
    have hx := ix_at (a := r) (j := t) (by rw [(hL r hr).1]; exact ht)
    simp [hx, -List.getD_eq_getElem?_getD]
  have hz : sizeOk (L.map LI) = true := size_small (by simp; omega)
  simp only [gRk, sSeq_eq, sSet_eq, fComp_eq, iOf_eq, gV_eq, lstW, List.getElem?_cons_succ, List.getElem?_cons_zero, T.bind_ok, hz, if_true, wipeE, List.foldl_cons, List.foldl_nil, List.set_cons_succ, List.set_cons_zero, c1]
  simp only [sIf_eq, fBl_eq, f2_eq, fL_eq, fNil_eq, mkLst_eq, sizeOk_nil, if_true, gV_eq, List.getElem?_cons_succ, List.getElem?_cons_zero, T.bind_ok, neS_lst, ne_rows, blW_bl]
  cases hf : L.filter fun r => !(r.getD t 0 == 0) with
  | nil =>
    have e : nextL P t L = L := by unfold nextL; rw [hf]
    have e2 : hitL t L = 0 := by unfold hitL; rw [hf]; rfl
    iterate 6 apply Exists.intro
    · simp only [List.map_nil, List.isEmpty_nil, Bool.not_true, Bool.false_eq_true, if_false, sNil_eq]
      rw [e, e2]
      rfl
  | cons f l =>
    have e : nextL P t L = (L.filter fun r => !decide (r = f)).map fun s => lcR P (s.getD t 0 * inv P (f.getD t 0)) s f := by unfold nextL; rw [hf]
    have e2 : hitL t L = 1 := by unfold hitL; rw [hf]; rfl
    have mf : f ∈ L.filter fun r => !(r.getD t 0 == 0) := hf ▸ List.mem_cons_self
    obtain ⟨fm, f0⟩ := List.mem_filter.mp mf
    have f0 : f.getD t 0 ≠ 0 := by simpa using f0
    have hfr := hL f fm
    have hb := hfr.at (show (0 : Int) < (P : Int) by omega) t
    have hx6 : ixW (.lst ((f :: l).map LI)) (.int 0) = .ok (LI f) := by simp [ixW, atI, ixN]
    have hx7 := ix_at (a := f) (j := t) (by rw [hfr.1]; exact ht)
    have hiv := lback_run hp (b := f.getD t 0) (by omega) hb.2
    obtain ⟨_, _, _, i1, i2, _⟩ := inv_is hp (b := f.getD t 0) (by omega) hb.2
    obtain ⟨z2, z10, hin⟩ := later_run hp hn ht hfr (b := inv P (f.getD t 0)) (by omega) v1 (.val (.lst (L.map LI))) (.val (.int ((g + 1 : Nat) : Int))) (.val (.lst ((f :: l).map LI))) L [] s2 s10 hL (by simpa using hl)
    simp only [gLi] at hin
    simp only [List.nil_append, List.map_nil] at hin
    rw [← e] at hin
    have ga : addW (.int (g : Int)) (.int 1) = .ok (.int ((g + 1 : Nat) : Int)) := by
      simp [addW_int]
    iterate 6 apply Exists.intro
    · simp only [List.isEmpty_cons, Bool.not_false, if_true, sSeq_eq, sOwnLast, f2_eq, gV_eq, List.getElem?_cons_succ, List.getElem?_cons_zero, T.bind_ok, hx6, ga, List.set_cons_succ, List.set_cons_zero, sSet_eq, fL_eq, fCons_eq, fNil_eq, hx7, hiv, sFor_eq, iOf_eq, lstW, hin, onFrz, frz, lstOfW]
      rw [e2]
theorem rank_go (hp : Pr (P : Int)) (hn : n ≤ 1000) {L : List (List Int)} (hL : ∀ r ∈ L, Rw (P : Int) n r) (hl : L.length ≤ 900) (v1 : Sl) : ∀ (k t : Nat) (s2 s5 s6 s7 s8 s9 s10 : Sl), t + k = n →
    ∃ z2 z5 z6 z7 z8 z9 z10, forL (goName 5) gRk ((List.range' t k).map fun (i : Nat) => PF.W.int (i : Int)) [.val (.int (P : Int)), v1, s2, .val (.lst ((leftR P L t).map LI)), .val (.int (gotR P L t : Int)), s5, s6, s7, s8, s9, s10, .un, .un] =
      .ok (.nx, [.val (.int (P : Int)), v1, z2, .val (.lst ((leftR P L n).map LI)), .val (.int (gotR P L n : Int)), z5, z6, z7, z8, z9, z10, .un, .un])
  | 0, t, s2, s5, s6, s7, s8, s9, s10, h => by
    have : t = n := by omega
    subst this
    exact ⟨s2, s5, s6, s7, s8, s9, s10, rfl⟩
  | k + 1, t, s2, s5, s6, s7, s8, s9, s10, h => by
    obtain ⟨z2, z6, z7, z8, z9, z10, e⟩ := rank_step hp hn (leftR_rw hL t) (Nat.le_trans (leftR_len t) hl) (g := gotR P L t) (show t < n by omega) v1 s2 s6 s7 s8 s9 s10
    obtain ⟨y2, y5, y6, y7, y8, y9, y10, e'⟩ := rank_go hp hn hL hl v1 k (t + 1) z2 (.val (.int (t : Int))) z6 z7 z8 z9 z10 (by omega)
    refine ⟨y2, y5, y6, y7, y8, y9, y10, ?_⟩
    rw [List.range'_succ, List.map_cons]
    unfold forL
    have g : goName 5 (.int (t : Int)) [.val (.int (P : Int)), v1, s2, .val (.lst ((leftR P L t).map LI)), .val (.int (gotR P L t : Int)), s5, s6, s7, s8, s9, s10, .un, .un] = some [.val (.int (P : Int)), v1, s2, .val (.lst ((leftR P L t).map LI)), .val (.int (gotR P L t : Int)), .val (.int (t : Int)), s6, s7, s8, s9, s10, .un, .un] := rfl
    rw [g]
    simp only [e, T.bind_ok]
    exact e'
theorem rank_run (hp : Pr (P : Int)) (hn : n ≤ 1000) {L : List (List Int)} (hL : ∀ r ∈ L, Rw (P : Int) n r) (hl : L.length ≤ 900) : F__law_rank [.int (P : Int), .lst (L.map LI)] = .ok (.int (rcnt (RPiv (L.map (ve P))) n : Int)) := by
  have hz : sizeOk (L.map LI) = true := size_small (by simp; omega)
  have c0 : compL (goName 2) fYes (fL (fCons (gV 2) fNil) lstOfW) [.val (.int (P : Int)), .val (.lst (L.map LI)), .un, .un, .un, .un, .un, .un, .un, .un, .un, .un, .un] (L.map LI) = .ok (L.map LI) := by
    refine compL_map _ _ _ fun r _ => ⟨_, rfl, rfl, ?_⟩
    simp [lstOfW]
  have hs : startE 13 [.int (P : Int), .lst (L.map LI)] = [.val (.int (P : Int)), .val (.lst (L.map LI)), .un, .un, .un, .un, .un, .un, .un, .un, .un, .un, .un] := rfl
  simp only [F__law_rank, defF, hs, List.length_cons, List.length_nil, if_true, sSeq_eq, sPar_eq, fCons_eq, fNil_eq, fComp_eq, iOf_eq, gV_eq, lstW, List.getElem?_cons_succ, List.getElem?_cons_zero, T.bind_ok, hz, wipeE, List.foldl_cons, List.foldl_nil, List.set_cons_succ, List.set_cons_zero, c0, sFor_eq, iL_eq, fIf_eq, fBl_eq, f2_eq, fL_eq, mkLst_eq, sizeOk_nil, neS_lst, ne_rows, blW_bl]
  cases L with
  | nil =>
    have e : rcnt (RPiv (([] : List (List Int)).map (ve P))) n = 0 := rcnt_no n fun i _ ⟨v, h1, _, h3⟩ => h3 (h1.van i fun r hr => by cases hr)
    rw [e]
    have r0 : rng1 [.int 0] = .ok [] := by
      have := rng_nat (n := 0) (by omega)
      simpa using this
    simp only [List.map_nil, List.isEmpty_nil, Bool.not_true, Bool.false_eq_true, if_false, T.bind_ok, r0, forL, sRet_eq, gV_eq, List.getElem?_cons_succ, List.getElem?_cons_zero]
    rfl
  | cons r L =>
    have hx : ixW (.lst ((r :: L).map LI)) (.int 0) = .ok (LI r) := by simp [ixW, atI, ixN]
    have hlen : lenW [LI r] = .ok (.int (n : Int)) := by simp [(hL r (by simp)).1]
    obtain ⟨z2, z5, z6, z7, z8, z9, z10, e⟩ := rank_go hp hn hL hl (.val (.lst ((r :: L).map LI))) n 0 .un .un .un .un .un .un .un (by omega)
    simp only [gRk, leftR, gotR] at e
    have ie : (List.isEmpty (r :: L)) = false := rfl
    simp only [ie, Bool.not_false, if_true, hx, T.bind_ok, hlen, rng_nat hn]
    have e0 : ((0 : Nat) : Int) = 0 := rfl
    rw [e0] at e
    simp only [e, T.bind_ok, sRet_eq, gV_eq, List.getElem?_cons_succ, List.getElem?_cons_zero]
    rw [(gotR_is hp hL n).2]
    rfl
end
end Lw
namespace Lw
open PySem L2 PF Rt
abbrev lW (l : List (List Int)) : PF.W := .tup (l.map TI)
abbrev cW (p : Int) (n : Nat) (c : List (List (List Int))) : PF.W := .tup [.int p, .int (n : Int), .tup (c.map lW)]
abbrev nW (k : Nat) : PF.W := .int (k : Int)
abbrev loW (lot : List Nat) : PF.W := .tup (lot.map nW)
structure Cd (p : Int) (n : Nat) (c : List (List (List Int))) : Prop where
  pr : Pr p
  n12 : n ≤ 12
  l1 : 1 ≤ c.length
  l6 : c.length ≤ 6
  len : ∀ l ∈ c, l.length = (c.getD 0 []).length ∧ l.length ≤ 6
  rw : ∀ l ∈ c, ∀ f ∈ l, Rw p n f
structure Lt (c : List (List (List Int))) (lot : List Nat) : Prop where
  lt : ∀ k ∈ lot, k < c.length
  up : lot.Pairwise (· < ·)
  len : lot.length ≤ 6
def rowsOf (c : List (List (List Int))) (lot : List Nat) : List (List Int) := lot.flatMap fun k => c.getD k []
section
variable {p : Int} {n : Nat} {c : List (List (List Int))} {lot : List Nat}
theorem cd_get (h : Cd p n c) {k : Nat} (hk : k < c.length) : c.getD k [] ∈ c := by
  rw [List.getD_eq_getElem?_getD, List.getElem?_eq_getElem hk]
  exact List.getElem_mem hk
theorem rows_rw (h : Cd p n c) (hl : Lt c lot) : ∀ r ∈ rowsOf c lot, Rw p n r := by
  intro r hr
  obtain ⟨k, hk, hr⟩ := List.mem_flatMap.mp hr
  exact h.rw _ (cd_get h (hl.lt k hk)) r hr
theorem rows_len6 (h : Cd p n c) : ∀ {lot : List Nat}, (∀ k ∈ lot, k < c.length) → (rowsOf c lot).length ≤ 6 * lot.length
  | [], _ => by simp [rowsOf]
  | k :: lot, hl => by
    have ih := rows_len6 h (lot := lot) fun k hk => hl k (by simp [hk])
    have := (h.len _ (cd_get h (hl k (by simp)))).2
    unfold rowsOf at ih ⊢
    rw [List.flatMap_cons, List.length_append, List.length_cons]
    omega
theorem rows_len (h : Cd p n c) (hl : Lt c lot) : (rowsOf c lot).length ≤ 36 := by
  have := rows_len6 h hl.lt
  have := hl.len
  omega
theorem ix_c0 : ixW (cW p n c) (.int 0) = .ok (.int p) := by simp [ixW, atI, ixN]
theorem ix_c1 : ixW (cW p n c) (.int 1) = .ok (nW n) := by simp [ixW, atI, ixN]
theorem ix_c2 : ixW (cW p n c) (.int 2) = .ok (.tup (c.map lW)) := by simp [ixW, atI, ixN]
theorem ix_l {k : Nat} (hk : k < c.length) : ixW (.tup (c.map lW)) (nW k) = .ok (lW (c.getD k [])) := by
  simp [ixW, atI, ixN, hk]
theorem rows_go (h : Cd p n c) (v1 : Sl) : ∀ (lot : List Nat) (acc : List (List Int)), (∀ k ∈ lot, k < c.length) → acc.length + 6 * lot.length ≤ 900 →
    compL2 (goName 2) fYes [3] (iOf tupW (f2 ixW (f2 ixW (gV 0) (fun _ => .ok (.int 2))) (gV 2))) (goName 3) fYes (fL (fCons (gV 3) fNil) lstOfW) [.val (cW p n c), v1, .un, .un] (acc.map LI) (lot.map nW) = .ok ((acc ++ rowsOf c lot).map LI)
  | [], acc, _, _ => by simp [compL2, rowsOf]
  | k :: lot, acc, hl, hb => by
    have hk := hl k (by simp)
    simp only [List.length_cons] at hb
    have l6 := (h.len _ (cd_get h hk)).2
    have ih := rows_go h v1 lot (acc ++ c.getD k []) (fun k hk => hl k (by simp [hk])) (by rw [List.length_append]; omega)
    rw [List.map_cons]
    unfold compL2
    have g : goName 2 (nW k) [.val (cW p n c), v1, .un, .un] = some [.val (cW p n c), v1, .val (nW k), .un] := rfl
    rw [g]
    have c1 : compL (goName 3) fYes (fL (fCons (gV 3) fNil) lstOfW) [.val (cW p n c), v1, .val (nW k), .un] ((c.getD k []).map TI) = .ok ((c.getD k []).map LI) := by
      refine compL_map _ _ _ fun r _ => ⟨_, rfl, rfl, ?_⟩
      simp [lstOfW]
    have hz : sz2 (acc.map LI).length ((c.getD k []).map TI).length = true := by
      unfold sz2
      exact decide_eq_true (by rw [List.length_map, List.length_map]; omega)
    have er : rowsOf c (k :: lot) = c.getD k [] ++ rowsOf c lot := rfl
    have e : ((noX (fYes [.val (cW p n c), v1, .val (nW k), .un])).bind fun b => if b then (noX ((iOf tupW (f2 ixW (f2 ixW (gV 0) (fun _ => .ok (.int 2))) (gV 2))) [.val (cW p n c), v1, .val (nW k), .un])).bind fun ws1 => if sz2 (acc.map LI).length ws1.length then (compL (goName 3) fYes (fL (fCons (gV 3) fNil) lstOfW) (wipeE [.val (cW p n c), v1, .val (nW k), .un] [3]) ws1).bind fun xs => compL2 (goName 2) fYes [3] (iOf tupW (f2 ixW (f2 ixW (gV 0) (fun _ => .ok (.int 2))) (gV 2))) (goName 3) fYes (fL (fCons (gV 3) fNil) lstOfW) [.val (cW p n c), v1, .un, .un] (acc.map LI ++ xs) (lot.map nW) else .bad
      else compL2 (goName 2) fYes [3] (iOf tupW (f2 ixW (f2 ixW (gV 0) (fun _ => .ok (.int 2))) (gV 2))) (goName 3) fYes (fL (fCons (gV 3) fNil) lstOfW) [.val (cW p n c), v1, .un, .un] (acc.map LI) (lot.map nW)) = .ok ((acc ++ rowsOf c (k :: lot)).map LI) := by
      simp only [fYes_eq, noX_ok, T.bind_ok, if_true, iOf_eq, f2_eq, gV_eq, List.getElem?_cons_succ, List.getElem?_cons_zero, ix_c2, ix_l hk, tupW, hz, wipeE, List.foldl_cons, List.foldl_nil, List.set_cons_succ, List.set_cons_zero, c1]
      rw [← List.map_append, ih, er, List.append_assoc]
    exact e
theorem rows_run (h : Cd p n c) (hl : Lt c lot) : F_rows_of [cW p n c, loW lot] = .ok (.lst ((rowsOf c lot).map LI)) := by
  have hs : startE 4 [cW p n c, loW lot] = [.val (cW p n c), .val (loW lot), .un, .un] := rfl
  have e := rows_go h (.val (loW lot)) lot [] hl.lt (by have := hl.len; simp; omega)
  simp only [List.map_nil, List.nil_append] at e
  have l0 : fComp2 [2, 3] (iOf tupW (gV 1)) (goName 2) fYes [3] (iOf tupW (f2 ixW (f2 ixW (gV 0) (fun _ => .ok (.int 2))) (gV 2))) (goName 3) fYes (fL (fCons (gV 3) fNil) lstOfW) [.val (cW p n c), .val (loW lot), .un, .un] = .ok (.lst ((rowsOf c lot).map LI)) := by
    unfold fComp2
    simp only [iOf_eq, gV_eq, List.getElem?_cons_succ, List.getElem?_cons_zero, tupW, T.bind_ok, wipeE, List.foldl_cons, List.foldl_nil, List.set_cons_succ, List.set_cons_zero]
    rw [e]
    rfl
  simp only [F_rows_of, defF, hs, List.length_cons, List.length_nil, if_true, sRet_eq]
  rw [l0]
  rfl
theorem add_LL (a b : List (List Int)) (h : a.length + b.length ≤ 900) : addW (.lst (a.map LI)) (.lst (b.map LI)) = .ok (.lst ((a ++ b).map LI)) := by
  have hz : sz2 a.length b.length = true := by
    unfold sz2
    exact decide_eq_true (by omega)
  rw [List.map_append]
  simp [addW, hz]
theorem forms_go (h : Cd p n c) (v1 : Sl) : ∀ (lot : List Nat) (acc : List (List Int)) (s3 : Sl), (∀ k ∈ lot, k < c.length) → acc.length + 6 * lot.length ≤ 900 →
    ∃ z3, forL (goName 3) (sSet 2 (f2 addW (gV 2) (fComp [4] (iOf tupW (f2 ixW (f2 ixW (gV 0) (fun _ => .ok (.int 2))) (gV 3))) (goName 4) fYes (fL (fCons (gV 4) fNil) lstOfW)))) (lot.map nW) [.val (cW p n c), v1, .val (.lst (acc.map LI)), s3, .un] = .ok (.nx, [.val (cW p n c), v1, .val (.lst ((acc ++ rowsOf c lot).map LI)), z3, .un])
  | [], acc, s3, _, _ => ⟨s3, by simp [forL, rowsOf]⟩
  | k :: lot, acc, s3, hl, hb => by
    have hk := hl k (by simp)
    simp only [List.length_cons] at hb
    have l6 := (h.len _ (cd_get h hk)).2
    obtain ⟨z3, ih⟩ := forms_go h v1 lot (acc ++ c.getD k []) (.val (nW k)) (fun k hk => hl k (by simp [hk])) (by rw [List.length_append]; omega)
    refine ⟨z3, ?_⟩
    rw [List.map_cons]
    unfold forL
    have g : goName 3 (nW k) [.val (cW p n c), v1, .val (.lst (acc.map LI)), s3, .un] = some [.val (cW p n c), v1, .val (.lst (acc.map LI)), .val (nW k), .un] := rfl
    rw [g]
    have c1 : compL (goName 4) fYes (fL (fCons (gV 4) fNil) lstOfW) [.val (cW p n c), v1, .val (.lst (acc.map LI)), .val (nW k), .un] ((c.getD k []).map TI) = .ok ((c.getD k []).map LI) := by
      refine compL_map _ _ _ fun r _ => ⟨_, rfl, rfl, ?_⟩
      simp [lstOfW]
    have hz : sizeOk ((c.getD k []).map TI) = true := size_small (by rw [List.length_map]; omega)
    have ha := add_LL acc (c.getD k []) (by omega)
    have er : acc ++ rowsOf c (k :: lot) = (acc ++ c.getD k []) ++ rowsOf c lot := by rw [List.append_assoc]; rfl
    rw [er]
    simp only [sSet_eq, f2_eq, gV_eq, List.getElem?_cons_succ, List.getElem?_cons_zero, T.bind_ok, fComp_eq, iOf_eq, ix_c2, ix_l hk, tupW, hz, if_true, wipeE, List.foldl_cons, List.foldl_nil, List.set_cons_succ, List.set_cons_zero, c1, ha]
    exact ih
theorem forms_run (h : Cd p n c) (hl : Lt c lot) : F__law_forms [cW p n c, loW lot] = .ok (.lst ((rowsOf c lot).map LI)) := by
  have hs : startE 5 [cW p n c, loW lot] = [.val (cW p n c), .val (loW lot), .un, .un, .un] := rfl
  obtain ⟨z3, e⟩ := forms_go h (.val (loW lot)) lot [] .un hl.lt (by have := hl.len; simp; omega)
  simp only [List.map_nil, List.nil_append] at e
  simp only [F__law_forms, defF, hs, List.length_cons, List.length_nil, if_true, sSeq_eq, sSet_eq, fL_eq, fNil_eq, mkLst_eq, sizeOk_nil, T.bind_ok, List.set_cons_succ, List.set_cons_zero, sFor_eq, iOf_eq, gV_eq, List.getElem?_cons_succ, List.getElem?_cons_zero, tupW, e, sRet_eq]
  rfl
end
end Lw
namespace Lw
open PySem L2 PF Rt
section
variable {K : Type} [Lean.Grind.CommRing K]
def Tl (R : List (Nat → K)) (t : Nat) : Prop := (∀ i, i < t → RSp R (runit i)) ∧ ¬ RSp R (runit t)
open Classical in
noncomputable def tl (R : List (Nat → K)) : Nat → Nat
  | 0 => 0
  | n + 1 => if tl R n = n ∧ RSp R (runit n) then n + 1 else tl R n
theorem unit_out {R : List (Nat → K)} {n k : Nat} (h1 : (1 : K) ≠ 0) (hR : ∀ r ∈ R, ∀ i, n ≤ i → r i = 0) (hk : n ≤ k) : ¬ RSp R (runit k) := fun h => by
  have := h.van k fun r hr => hR r hr k hk
  simp [runit] at this
  exact h1 this
end
theorem lead_mem {r : List Int} {i : Nat} : i ∈ leadR r ↔ r.getD i 0 ≠ 0 := by
  constructor
  · intro h
    have := (List.mem_filter.mp h).2
    simpa using this
  · intro h
    have hi : i < r.length := by
      by_cases hl : i < r.length
      · exact hl
      · exfalso
        rw [List.getD_eq_getElem?_getD, List.getElem?_eq_none (by omega)] at h
        exact h rfl
    exact List.mem_filter.mpr ⟨List.mem_range.mpr hi, by simpa using h⟩
theorem lead_nd (r : List Int) : (leadR r).Nodup := List.nodup_range.sublist List.filter_sublist
theorem lead_one {r : List Int} {k : Nat} (hk : r.getD k 0 ≠ 0) : (leadR r).length = 1 ↔ ∀ i, i ≠ k → r.getD i 0 = 0 := by
  have mk := lead_mem.mpr hk
  constructor
  · intro h i hi
    obtain ⟨a, ha⟩ := List.length_eq_one_iff.mp h
    by_cases z : r.getD i 0 = 0
    · exact z
    · have mi := lead_mem.mpr z
      rw [ha] at mk mi
      exact absurd ((List.mem_singleton.mp mi).trans (List.mem_singleton.mp mk).symm) hi
  · intro h
    have all : ∀ a ∈ leadR r, a = k := fun a ha => by
      by_cases e : a = k
      · exact e
      · exact absurd (h a e) (lead_mem.mp ha)
    have nd := lead_nd r
    cases hl : leadR r with
    | nil =>
      rw [hl] at mk
      cases mk
    | cons a l =>
      cases l with
      | nil => rfl
      | cons b l =>
        rw [hl] at nd all
        have h1 := all a (by simp)
        have h2 := all b (by simp)
        have := (List.nodup_cons.mp nd).1
        exact absurd (by rw [h1, h2]; exact List.mem_cons_self) this
theorem lead_cnt (r : List Int) : (leadR r).length = (r.filter fun x => !(x == 0)).length := by
  have e : r = (List.range r.length).map fun i => r.getD i 0 := by
    refine List.ext_getElem? fun i => ?_
    by_cases h : i < r.length <;> simp [h]
  have : (r.filter fun x => !(x == 0)).length = (((List.range r.length).map fun i => r.getD i 0).filter fun x => !(x == 0)).length := by rw [← e]
  rw [this, List.filter_map, List.length_map]
  rfl
theorem cnt_sum : ∀ r : List Int, (r.map fun x => if x = 0 then (0 : Int) else 1).sum = ((r.filter fun x => !(x == 0)).length : Int)
  | [] => rfl
  | x :: r => by
    have ih := cnt_sum r
    simp only [List.map_cons, List.sum_cons, ih]
    by_cases h : x = 0
    · rw [if_pos h, List.filter_cons_of_neg (by simp [h])]
      omega
    · rw [if_neg h, List.filter_cons_of_pos (by simp [h]), List.length_cons]
      omega
section
variable {P : Nat} [NeZero P] {n : Nat}
theorem piv_ne (hp : Pr (P : Int)) {R : List (Nat → Fin P)} {F : List (Nat × List Int)} (h : RRf R (F.map (vq P))) (hF : Fw (P : Int) n F) {q : Nat × List Int} (hq : q ∈ F) : q.2.getD q.1 0 ≠ 0 := fun z => by
  have h1 := h.one _ (List.mem_map_of_mem (f := vq P) hq)
  have h2 : ve P q.2 q.1 = 0 := (ve_null (hF q hq).2).mpr z
  have h3 : ve P q.2 q.1 = 1 := h1
  exact one_ne hp (h3.symm.trans h2)
theorem single_is (hp : Pr (P : Int)) {R : List (Nat → Fin P)} {F : List (Nat × List Int)} (h : RRf R (F.map (vq P))) (hF : Fw (P : Int) n F) (k : Nat) : RSp R (runit k) ↔ ∃ q ∈ F, q.1 = k ∧ (leadR q.2).length = 1 := by
  rw [h.single (one_ne hp) k]
  constructor
  · rintro ⟨g, hg, e, hz⟩
    obtain ⟨q, hq, rfl⟩ := List.mem_map.mp hg
    have e : q.1 = k := e
    subst e
    exact ⟨q, hq, rfl, (lead_one (piv_ne hp h hF hq)).mpr fun i hi => (ve_null (hF q hq).2).mp (hz i hi)⟩
  · rintro ⟨q, hq, rfl, hl⟩
    exact ⟨vq P q, List.mem_map_of_mem hq, rfl, fun i hi => (ve_null (hF q hq).2).mpr ((lead_one (piv_ne hp h hF hq)).mp hl i hi)⟩
theorem ve_rows_out {L : List (List Int)} (hL : ∀ r ∈ L, Rw (P : Int) n r) : ∀ r ∈ L.map (ve P), ∀ i, n ≤ i → r i = 0 := by
  intro r hr i hi
  obtain ⟨s, hs, rfl⟩ := List.mem_map.mp hr
  exact ve_out (hL s hs).1 hi
def setsR (f : Nat × List Int → Int) (F : List (Nat × List Int)) (x : List Int) : List Int := F.foldl (fun x q => x.set q.1 (f q)) x
theorem sets_len (f : Nat × List Int → Int) : ∀ (F : List (Nat × List Int)) (x : List Int), (setsR f F x).length = x.length
  | [], _ => rfl
  | q :: F, x => by
    have := sets_len f F (x.set q.1 (f q))
    rw [List.length_set] at this
    exact this
theorem sets_out (f : Nat × List Int → Int) {i : Nat} : ∀ (F : List (Nat × List Int)) (x : List Int), (∀ q ∈ F, q.1 ≠ i) → (setsR f F x).getD i 0 = x.getD i 0
  | [], _, _ => rfl
  | q :: F, x, h => by
    have := sets_out f F (x.set q.1 (f q)) fun q hq => h q (by simp [hq])
    refine this.trans ?_
    simp only [List.getD_eq_getElem?_getD, List.getElem?_set_ne (h q (by simp))]
theorem sets_in (f : Nat × List Int → Int) {q : Nat × List Int} : ∀ (F : List (Nat × List Int)) (x : List Int), (F.map Prod.fst).Nodup → q ∈ F → q.1 < x.length → (setsR f F x).getD q.1 0 = f q
  | [], _, _, h, _ => by cases h
  | g :: F, x, nd, h, hl => by
    have nd := List.nodup_cons.mp nd
    rcases List.mem_cons.mp h with e | h
    · subst e
      refine (sets_out f F (x.set q.1 (f q)) fun g hg e => nd.1 (by rw [← e]; exact List.mem_map_of_mem hg)).trans ?_
      simp [List.getD_eq_getElem?_getD, hl]
    · exact sets_in f F (x.set g.1 (f g)) nd.2 h (by rw [List.length_set]; exact hl)
theorem dot_range (a b : List Int) : ∀ n, a.length = n → b.length = n → ((a.zip b).map fun q => q.1 * q.2).sum = ((List.range n).map fun i => a.getD i 0 * b.getD i 0).sum := by
  intro n ha hb
  congr 1
  refine List.ext_getElem? fun i => ?_
  by_cases h : i < n
  · have h1 : a[i]? = some (a[i]'(by omega)) := List.getElem?_eq_getElem (by omega)
    have h2 : b[i]? = some (b[i]'(by omega)) := List.getElem?_eq_getElem (by omega)
    have e : (a.zip b)[i]? = some (a[i]'(by omega), b[i]'(by omega)) := List.getElem?_zip_eq_some.mpr ⟨h1, h2⟩
    simp [e, h, h1, h2]
  · have e : (a.zip b)[i]? = none := List.getElem?_eq_none (by simp [ha, hb]; omega)
    simp [e, h]
theorem cz_range (a b : List Int) : ∀ n, cz P ((List.range n).map fun i => a.getD i 0 * b.getD i 0).sum = rdot n (ve P a) (ve P b)
  | 0 => cz_null
  | n + 1 => by
    have ih := cz_range a b n
    rw [List.range_succ, List.map_append, List.sum_append]
    simp only [List.map_cons, List.map_nil, List.sum_cons, List.sum_nil, Int.add_zero]
    rw [cz_add, ih, cz_mul]
    rfl
theorem cz_dot {a b : List Int} (ha : a.length = n) (hb : b.length = n) : cz P ((a.zip b).map fun q => q.1 * q.2).sum = rdot n (ve P a) (ve P b) := by
  rw [dot_range a b n ha hb, cz_range]
/-- the free place of a basis whose single rows are those of the places below a spot -/
def freeR (F : List (Nat × List Int)) (t : Nat) : Nat := match F.filter fun q => decide (q.1 = t) with
  | [] => t
  | q :: _ => ((leadR q.2).filter fun i => !decide (i = t)).headD t
def witX (p : Int) (n : Nat) (F : List (Nat × List Int)) (t : Nat) : List Int := setsR (fun q => (0 - q.2.getD (freeR F t) 0) % p) F ((List.replicate n 0).set (freeR F t) 1)
def witR (p : Int) (n : Nat) (F : List (Nat × List Int)) (t : Nat) : List Int := scR p (inv p ((witX p n F t).getD t 0)) (witX p n F t)
theorem free_is (hp : Pr (P : Int)) {R : List (Nat → Fin P)} {F : List (Nat × List Int)} (h : RRf R (F.map (vq P))) (hF : Fw (P : Int) n F) {t : Nat} (ht : Tl R t) (htn : t < n) :
    freeR F t < n ∧ (∀ q ∈ F, q.1 ≠ freeR F t) ∧ ((∀ q ∈ F, q.1 ≠ t) ∧ freeR F t = t ∨ ∃ q ∈ F, q.1 = t ∧ q.2.getD (freeR F t) 0 ≠ 0 ∧ ((leadR q.2).filter fun i => !decide (i = t)) ≠ []) := by
  unfold freeR
  split
  · rename_i e
    have hno : ∀ q ∈ F, q.1 ≠ t := fun q hq z => by
      have : q ∈ F.filter fun q => decide (q.1 = t) := List.mem_filter.mpr ⟨hq, decide_eq_true z⟩
      rw [e] at this
      cases this
    exact ⟨htn, hno, .inl ⟨hno, rfl⟩⟩
  · rename_i q l e
    have mq : q ∈ F.filter fun q => decide (q.1 = t) := e ▸ List.mem_cons_self
    obtain ⟨mq, qt⟩ := List.mem_filter.mp mq
    have qt : q.1 = t := of_decide_eq_true qt
    have hw := (hF q mq).2
    have pn := piv_ne hp h hF mq
    cases hl : (leadR q.2).filter fun i => !decide (i = t) with
    | nil =>
      exfalso
      refine ht.2 ((single_is hp h hF t).mpr ⟨q, mq, qt, (lead_one (k := t) (by rw [← qt]; exact pn)).mpr fun i hi => ?_⟩)
      by_cases z : q.2.getD i 0 = 0
      · exact z
      · have : i ∈ (leadR q.2).filter fun i => !decide (i = t) := List.mem_filter.mpr ⟨lead_mem.mpr z, by simpa using hi⟩
        rw [hl] at this
        cases this
    | cons a l2 =>
      have ma : a ∈ (leadR q.2).filter fun i => !decide (i = t) := hl ▸ List.mem_cons_self
      obtain ⟨ma, at_⟩ := List.mem_filter.mp ma
      have at_ : a ≠ t := by simpa using at_
      have a0 := lead_mem.mp ma
      have al := List.mem_range.mp (List.mem_filter.mp ma).1
      rw [hw.1] at al
      refine ⟨al, fun g hg e' => ?_, .inr ⟨q, mq, qt, a0, ?_⟩⟩
      · have e' : g.1 = a := e'
        have := h.off (vq P g) (List.mem_map_of_mem hg) (vq P q) (List.mem_map_of_mem mq) (show g.1 ≠ q.1 by rw [e', qt]; exact at_)
        have this : ve P q.2 g.1 = 0 := this
        rw [e', ve_null hw] at this
        exact a0 this
      · rw [hl]
        exact List.cons_ne_nil _ _
theorem wit_is (hp : Pr (P : Int)) {R : List (Nat → Fin P)} {F : List (Nat × List Int)} (h : RRf R (F.map (vq P))) (hF : Fw (P : Int) n F) {t : Nat} (ht : Tl R t) (htn : t < n) :
    Rw (P : Int) n (witX P n F t) ∧ (witX P n F t).getD t 0 ≠ 0 ∧ Rw (P : Int) n (witR P n F t) ∧ (∀ i, i < t → (witR P n F t).getD i 0 = 0) ∧ (witR P n F t).getD t 0 = 1 ∧ ∀ r, RSp R (ve P r) → r.length = n → ((r.zip (witR P n F t)).map fun q => q.1 * q.2).sum % (P : Int) = 0 := by
  have p0 : (0 : Int) < (P : Int) := by have := hp.b; omega
  have p1 : (1 : Int) < (P : Int) := by have := hp.b; omega
  obtain ⟨fn, fne, fc⟩ := free_is hp h hF ht htn
  have nd : (F.map Prod.fst).Nodup := by
    have := h.nd
    rw [List.map_map] at this
    exact this
  have l0 : ((List.replicate n (0 : Int)).set (freeR F t) 1).length = n := by simp
  have xl : (witX P n F t).length = n := by rw [witX, sets_len, l0]
  have xin : ∀ q ∈ F, (witX P n F t).getD q.1 0 = (0 - q.2.getD (freeR F t) 0) % (P : Int) := fun q hq => sets_in _ F _ nd hq (by rw [l0]; exact (hF q hq).1)
  have xfr : (witX P n F t).getD (freeR F t) 0 = 1 := by
    rw [witX, sets_out _ F _ fne]
    simp [List.getD_eq_getElem?_getD, fn]
  have xout : ∀ i, i < n → i ≠ freeR F t → (∀ q ∈ F, q.1 ≠ i) → (witX P n F t).getD i 0 = 0 := fun i hi h1 h2 => by
    rw [witX, sets_out _ F _ h2, List.getD_eq_getElem?_getD, List.getElem?_set_ne (Ne.symm h1), List.getElem?_replicate, if_pos hi]
    rfl
  have xrw : Rw (P : Int) n (witX P n F t) := by
    refine ⟨xl, fun x hx => ?_⟩
    obtain ⟨i, hi, e⟩ := List.mem_iff_getElem.mp hx
    have e : (witX P n F t).getD i 0 = x := by simp [List.getD_eq_getElem?_getD, hi, e]
    rw [xl] at hi
    rw [← e]
    by_cases h1 : i = freeR F t
    · rw [h1, xfr]
      omega
    · by_cases h2 : ∃ q ∈ F, q.1 = i
      · obtain ⟨q, hq, rfl⟩ := h2
        rw [xin q hq]
        exact ⟨Int.emod_nonneg _ (by omega), Int.emod_lt_of_pos _ p0⟩
      · rw [xout i hi h1 fun q hq z => h2 ⟨q, hq, z⟩]
        omega
  have xlow : ∀ i, i < t → (witX P n F t).getD i 0 = 0 := fun i hi => by
    obtain ⟨q, hq, e, hl⟩ := (single_is hp h hF i).mp (ht.1 i hi)
    have z := (lead_one (piv_ne hp h hF hq)).mp hl (freeR F t) fun z => fne q hq z.symm
    rw [← e, xin q hq, z]
    simp
  have xt : (witX P n F t).getD t 0 ≠ 0 := by
    rcases fc with ⟨_, e⟩ | ⟨q, hq, e, z, _⟩
    · rw [e] at xfr
      rw [xfr]
      decide
    · have xq := xin q hq
      rw [e] at xq
      rw [xq]
      have b := (hF q hq).2.at p0 (freeR F t)
      intro z2
      have : (P : Int) ∣ 0 - q.2.getD (freeR F t) 0 := Int.dvd_of_emod_eq_zero z2
      have z3 : (P : Int) ∣ q.2.getD (freeR F t) 0 := by
        rw [Int.zero_sub] at this
        exact Int.dvd_neg.mp this
      exact z (by rw [← Int.emod_eq_of_lt b.1 b.2]; exact Int.emod_eq_zero_of_dvd z3)
  have bt := xrw.at p0 t
  obtain ⟨_, _, _, i1, i2, i3⟩ := inv_is hp (b := (witX P n F t).getD t 0) (by omega) bt.2
  have sc : ∀ i, (witR P n F t).getD i 0 = (witX P n F t).getD i 0 * inv P ((witX P n F t).getD t 0) % (P : Int) := fun i => by
    unfold witR scR
    simp only [List.getD_eq_getElem?_getD, List.getElem?_map]
    cases (witX P n F t)[i]? <;> simp
  refine ⟨xrw, xt, xrw.sc p0, fun i hi => ?_, ?_, fun r hr rl => ?_⟩
  · rw [sc, xlow i hi]
    simp
  · rw [sc, Int.mul_comm]
    exact i3
  · have wl : (witR P n F t).length = n := (xrw.sc p0).1
    rw [← cz_zero, cz_dot rl wl]
    have e : ve P (witR P n F t) = fun i => ve P (witX P n F t) i * cz P (inv P ((witX P n F t).getD t 0)) := funext fun i => ve_sc i
    rw [e, rdot_scale]
    have o := h.orth (n := n) (free := freeR F t) (w := ve P (witX P n F t)) (fun q hq => ?_) fn (fun q hq => ?_) ?_ (fun q hq => ?_) (fun i hi h1 h2 => ?_) hr
    · rw [o]
      grind
    · obtain ⟨g, hg, rfl⟩ := List.mem_map.mp hq
      exact (hF g hg).1
    · obtain ⟨g, hg, rfl⟩ := List.mem_map.mp hq
      exact fne g hg
    · show cz P ((witX P n F t).getD (freeR F t) 0) = 1
      rw [xfr, cz_one]
    · obtain ⟨g, hg, rfl⟩ := List.mem_map.mp hq
      show cz P ((witX P n F t).getD g.1 0) = - cz P (g.2.getD (freeR F t) 0)
      rw [xin g hg, cz_mod, cz_sub, cz_null]
      grind
    · refine (ve_null xrw).mpr (xout i hi h1 fun q hq => h2 (vq P q) (List.mem_map_of_mem hq))
end
end Lw
namespace Lw
open PySem L2 PF Rt
def okOne (q : Nat × List Int) : Bool := (leadR q.2).length == 1
def toldK (F : List (Nat × List Int)) (k : Nat) : Bool := F.any fun q => q.1 == k && okOne q
def toldG (F : List (Nat × List Int)) : Nat → Nat → Nat
  | 0, k => k
  | m + 1, k => if toldK F k then toldG F m (k + 1) else k
def sglR (F : List (Nat × List Int)) : List (Key × PF.W) := (F.filter okOne).map fun q => ((.inl (q.1 : Int) : Key), PF.W.bl true)
def kvsR (F : List (Nat × List Int)) : List (Key × PF.W) := F.map fun q => ((.inl (q.1 : Int) : Key), LI q.2)
theorem key_ne {a b : Nat} (h : a ≠ b) : (.inl (a : Int) : Key) ≠ .inl (b : Int) := fun e => by
  injection e with e
  exact h (by omega)
theorem sgl_get : ∀ (F : List (Nat × List Int)) (k : Nat), (getKW ((sglR F).map (·.1)) ((sglR F).map (·.2)) (.inl (k : Int))).isSome = toldK F k
  | [], k => rfl
  | q :: F, k => by
    have ih := sgl_get F k
    unfold sglR toldK at ih ⊢
    by_cases ho : okOne q = true
    · rw [List.filter_cons_of_pos ho]
      simp only [List.map_cons, getKW, List.any_cons]
      by_cases e : q.1 = k
      · subst e
        simp [ho]
      · rw [if_neg (key_ne e), ih]
        simp [e]
    · rw [List.filter_cons_of_neg ho, ih]
      simp [ho]
theorem put_new {acc : List (Key × PF.W)} {k : Key} {v : PF.W} (h : ∀ kv ∈ acc, kv.1 ≠ k) : putW acc k v = acc ++ [(k, v)] := by
  unfold putW
  rw [if_neg]
  intro hh
  obtain ⟨kv, h1, h2⟩ := List.any_eq_true.mp hh
  exact h kv h1 (of_decide_eq_true h2)
section
variable {p : Int} {n : Nat}
abbrev tg34 : PF.W → En → Option En := (goTup 2 (goCons (goName 3) (goCons (goName 4) goNil)))
theorem told_test {q : Nat × List Int} (hq : q.2.length ≤ 1000) (v0 v1 v2 v3 s5 : Sl) : (fBl (f2 eqS (fL (fCons (fComp [6] (iOf lstW (gV 4)) (goName 6) fYes (fL (fCons (f2 neS (gV 6) (fun _ => .ok (.int 0))) fNil) intW)) fNil) sumW) (fun _ => .ok (.int 1)))) [v0, v1, v2, v3, .val (.lst (I q.2)), s5, .un] = .ok (okOne q) := by
  have hz : sizeOk (I q.2) = true := size_small (by simp; omega)
  have c : compL (goName 6) fYes (fL (fCons (f2 neS (gV 6) (fun _ => .ok (.int 0))) fNil) intW) [v0, v1, v2, v3, .val (.lst (I q.2)), s5, .un] (I q.2) = .ok (I (q.2.map fun x => if x = 0 then (0 : Int) else 1)) := by
    have e : I (q.2.map fun x => if x = 0 then (0 : Int) else 1) = q.2.map fun x => PF.W.int (if x = 0 then 0 else 1) := by simp [Function.comp_def]
    rw [e]
    refine compL_map _ _ _ fun x _ => ⟨_, rfl, rfl, ?_⟩
    by_cases h : x = 0 <;> simp [h]
  have e := cnt_sum q.2
  rw [← lead_cnt] at e
  have e2 : (((leadR q.2).length : Int) == 1) = okOne q := by
    unfold okOne
    rw [Bool.eq_iff_iff, beq_iff_eq, beq_iff_eq]
    omega
  simp only [fBl_eq, f2_eq, fL_eq, fCons_eq, fNil_eq, fComp_eq, iOf_eq, gV_eq, List.getElem?_cons_succ, List.getElem?_cons_zero, lstW, T.bind_ok, hz, if_true, wipeE, List.foldl_cons, List.foldl_nil, List.set_cons_succ, List.set_cons_zero, c, sumW, intsW_of, e, eqS_int, e2, blW_bl]
theorem told_go (v0 v1 : Sl) (hn : n ≤ 1000) : ∀ (F : List (Nat × List Int)) (acc : List (Key × PF.W)) (s3 s4 : Sl), Fw p n F → (F.map Prod.fst).Nodup → (∀ q ∈ F, ∀ kv ∈ acc, kv.1 ≠ .inl (q.1 : Int)) → acc.length + F.length ≤ 900 →
    ∃ z3 z4, forL tg34 (sIf (fBl (f2 eqS (fL (fCons (fComp [6] (iOf lstW (gV 4)) (goName 6) fYes (fL (fCons (f2 neS (gV 6) (fun _ => .ok (.int 0))) fNil) intW)) fNil) sumW) (fun _ => .ok (.int 1)))) (sDPutO 2 (gV 3) (fun _ => .ok (.bl true))) sNil) (F.map pwR) [v0, v1, .odc acc, s3, s4, .un, .un] = .ok (.nx, [v0, v1, .odc (acc ++ sglR F), z3, z4, .un, .un])
  | [], acc, s3, s4, _, _, _, _ => ⟨s3, s4, by simp [sglR, forL]⟩
  | q :: F, acc, s3, s4, hF, hd, ha, hl => by
    have hq := (hF q (by simp)).2
    obtain ⟨d1, d2⟩ := List.nodup_cons.mp (show (q.1 :: F.map Prod.fst).Nodup from hd)
    simp only [List.length_cons] at hl
    have ht := told_test (q := q) (by rw [hq.1]; exact hn) v0 v1 (.odc acc) (.val (.int (q.1 : Int))) .un
    have g : tg34 (pwR q) [v0, v1, .odc acc, s3, s4, .un, .un] = some [v0, v1, .odc acc, .val (.int (q.1 : Int)), .val (.lst (I q.2)), .un, .un] := rfl
    rw [List.map_cons]
    unfold forL
    rw [g]
    by_cases ho : okOne q = true
    · have hp := put_new (acc := acc) (k := .inl (q.1 : Int)) (v := .bl true) fun kv hk => ha q (by simp) kv hk
      have hr : dRoom acc = true := by
        unfold dRoom
        exact decide_eq_true (by omega)
      obtain ⟨z3, z4, ih⟩ := told_go v0 v1 hn F (acc ++ [((.inl (q.1 : Int) : Key), PF.W.bl true)]) (.val (.int (q.1 : Int))) (.val (.lst (I q.2))) (fun q hq => hF q (by simp [hq])) d2 (fun r hr kv hk => by
        rcases List.mem_append.mp hk with hk | hk
        · exact ha r (by simp [hr]) kv hk
        · rw [List.mem_singleton.mp hk]
          exact key_ne fun e => d1 (e ▸ List.mem_map_of_mem hr)) (by simp; omega)
      have es : sglR (q :: F) = ((.inl (q.1 : Int) : Key), PF.W.bl true) :: sglR F := by
        unfold sglR
        rw [List.filter_cons_of_pos ho, List.map_cons]
      refine ⟨z3, z4, ?_⟩
      rw [es, show acc ++ ((.inl (q.1 : Int) : Key), PF.W.bl true) :: sglR F = (acc ++ [((.inl (q.1 : Int) : Key), PF.W.bl true)]) ++ sglR F by simp]
      simp only [sIf_eq, ht, ho, T.bind_ok, if_true, sDPutO, List.getElem?_cons_succ, List.getElem?_cons_zero, gV_eq, keyW, hr, hp, List.set_cons_succ, List.set_cons_zero]
      exact ih
    · obtain ⟨z3, z4, ih⟩ := told_go v0 v1 hn F acc (.val (.int (q.1 : Int))) (.val (.lst (I q.2))) (fun q hq => hF q (by simp [hq])) d2 (fun r hr => ha r (by simp [hr])) (by omega)
      have es : sglR (q :: F) = sglR F := by
        unfold sglR
        rw [List.filter_cons_of_neg ho]
      have ho : okOne q = false := by simpa using ho
      refine ⟨z3, z4, ?_⟩
      rw [es]
      simp only [sIf_eq, ht, ho, T.bind_ok, Bool.false_eq_true, if_false, sNil_eq]
      exact ih
end
theorem told_while (v0 v1 s3 s4 : Sl) {F : List (Nat × List Int)} {kvs : List (Key × PF.W)} (hk : ∀ k : Nat, (getKW (kvs.map (·.1)) (kvs.map (·.2)) (.inl (k : Int))).isSome = toldK F k) {n : Nat} (hn : toldK F n = false) (c : Nat) : ∀ (m k : Nat), k + m = n + 1 → k ≤ n →
    whileL (onFrzN 2 (fBl (f2 inK (gV 5) (gV 2)))) (sSet 5 (f2 addW (gV 5) (fun _ => .ok (.int 1)))) (c + m) [v0, v1, .odc kvs, s3, s4, .val (nW k), .un] = .ok (.nx, [v0, v1, .odc kvs, s3, s4, .val (nW (toldG F m k)), .un])
  | 0, k, h, hl => absurd h (by omega)
  | m + 1, k, h, hl => by
    have ht : (onFrzN 2 (fBl (f2 inK (gV 5) (gV 2)))) [v0, v1, .odc kvs, s3, s4, .val (nW k), .un] = .ok (toldK F k) := by
      simp [onFrzN, frz, inK, keyW, hk]
    show whileL _ _ ((c + m) + 1) _ = _
    unfold whileL
    rw [ht]
    simp only [T.bind_ok]
    cases hc : toldK F k with
    | true =>
      have hne : k ≠ n := by
        rintro rfl
        rw [hn] at hc
        cases hc
      have ga : addW (nW k) (.int 1) = .ok (nW (k + 1)) := by simp [addW_int]
      have ih := told_while v0 v1 s3 s4 hk hn c m (k + 1) (by omega) (by omega)
      have hg : toldG F (m + 1) k = toldG F m (k + 1) := by
        rw [toldG, hc]
        rfl
      rw [hg]
      simp only [if_true, sSet_eq, f2_eq, gV_eq, List.getElem?_cons_succ, List.getElem?_cons_zero, T.bind_ok, ga, List.set_cons_succ, List.set_cons_zero]
      exact ih
    | false =>
      have hg : toldG F (m + 1) k = k := by
        rw [toldG, hc]
        rfl
      rw [hg]
      rfl
section
variable {P : Nat} [NeZero P] {n : Nat} {R : List (Nat → Fin P)} {F : List (Nat × List Int)}
theorem toldK_is (hp : Pr (P : Int)) (h : RRf R (F.map (vq P))) (hF : Fw (P : Int) n F) (k : Nat) : toldK F k = true ↔ RSp R (runit k) := by
  rw [single_is hp h hF k]
  simp [toldK, okOne]
theorem toldK_out (hp : Pr (P : Int)) (h : RRf R (F.map (vq P))) (hF : Fw (P : Int) n F) : toldK F n = false := by
  cases e : toldK F n with
  | false => rfl
  | true =>
    exfalso
    obtain ⟨q, hq, hb⟩ := List.any_eq_true.mp e
    have := (hF q hq).1
    have h1 : q.1 = n := by
      have := (Bool.and_eq_true_iff.mp hb).1
      exact eq_of_beq this
    omega
theorem toldG_is (hk : ∀ k, toldK F k = true ↔ RSp R (runit k)) (hn : toldK F n = false) : ∀ m k, k + m = n + 1 → k ≤ n → (∀ i, i < k → RSp R (runit i)) → Tl R (toldG F m k) ∧ toldG F m k ≤ n
  | 0, k, h, hl, _ => absurd h (by omega)
  | m + 1, k, h, hl, hi => by
    unfold toldG
    cases hc : toldK F k with
    | true =>
      have hne : k ≠ n := by
        rintro rfl
        rw [hn] at hc
        cases hc
      refine toldG_is hk hn m (k + 1) (by omega) (by omega) fun i hl => ?_
      rcases Nat.lt_or_ge i k with z | z
      · exact hi i z
      · have : i = k := by omega
        subst this
        exact (hk i).mp hc
    | false =>
      exact ⟨⟨hi, fun z => by rw [(hk k).mpr z] at hc; cases hc⟩, hl⟩
end
/-- how many first signs some reduced rows tell -/
def toldF (n : Nat) (F : List (Nat × List Int)) : Nat := toldG F (n + 1) 0
section
variable {P : Nat} [NeZero P] {n : Nat} {c : List (List (List Int))} {lot : List Nat}
theorem tl_uniq {K : Type} [Lean.Grind.CommRing K] {R : List (Nat → K)} {s t : Nat} (h1 : Tl R s) (h2 : Tl R t) : s = t := by
  rcases Nat.lt_trichotomy s t with h | h | h
  · exact absurd (h2.1 s h) h1.2
  · exact h
  · exact absurd (h1.1 t h) h2.2
/-- all that is worked out of a lot's rows -/
structure Lo (P : Nat) [NeZero P] (n : Nat) (c : List (List (List Int))) (lot : List Nat) (F : List (Nat × List Int)) : Prop where
  fw : Fw (P : Int) n F
  len : F.length ≤ 36
  run : F_reduced [.int (P : Int), .lst ((rowsOf c lot).map LI)] = .ok (.lst (F.map pwR))
  rr : RRf ((rowsOf c lot).map (ve P)) (F.map (vq P))
  perm : F.Perm ((rowsOf c lot).foldl (stepR P) [])
theorem Lo.ex (h : Cd (P : Int) n c) (hl : Lt c lot) : ∃ F, Lo P n c lot F := by
  have hn : n ≤ 1000 := by have := h.n12; omega
  have hr := rows_rw h hl
  have hlen := rows_len h hl
  have p0 : (0 : Int) < (P : Int) := by have := h.pr.b; omega
  obtain ⟨F, h1, h2⟩ := reduced_run h.pr hn hr (by omega)
  have f0 := fold_fw (p := (P : Int)) (F := []) p0 hr (fun q hq => by cases hq)
  have l0 := fold_len (p := (P : Int)) (rowsOf c lot) []
  have rr := fold_RRf h.pr (R := []) (F := []) hr (fun q hq => by cases hq) RRf.nil
  simp only [List.nil_append] at rr
  simp only [List.length_nil] at l0
  exact ⟨F, fun q hq => f0 q (h1.mem_iff.mp hq), by rw [h1.length_eq]; omega, h2, rr.perm (h1.map (vq P)), h1⟩
variable {F : List (Nat × List Int)}
theorem Lo.nd (o : Lo P n c lot F) : (F.map Prod.fst).Nodup := by
  have := o.rr.nd
  rw [List.map_map] at this
  exact this
theorem Lo.tl (h : Cd (P : Int) n c) (o : Lo P n c lot F) : Tl ((rowsOf c lot).map (ve P)) (toldF n F) ∧ toldF n F ≤ n :=
  toldG_is (toldK_is h.pr o.rr o.fw) (toldK_out h.pr o.rr o.fw) (n + 1) 0 (by omega) (by omega) fun i hi => absurd hi (by omega)
theorem told_run (h : Cd (P : Int) n c) (hl : Lt c lot) (o : Lo P n c lot F) : F_told_in [cW P n c, loW lot] = .ok (nW (toldF n F)) := by
  have hs : startE 7 [cW P n c, loW lot] = [.val (cW P n c), .val (loW lot), .un, .un, .un, .un, .un] := rfl
  have hd : sOwnD 2 [.val (cW P n c), .val (loW lot), .un, .un, .un, .un, .un] = .ok (.nx, [.val (cW P n c), .val (loW lot), .odc [], .un, .un, .un, .un]) := rfl
  have h12 := h.n12
  have hlen := o.len
  obtain ⟨z3, z4, e⟩ := told_go (.val (cW P n c)) (.val (loW lot)) (show n ≤ 1000 by omega) F [] .un .un o.fw o.nd (fun q _ kv hk => by cases hk) (by simp; omega)
  rw [List.nil_append] at e
  have w := told_while (.val (cW P n c)) (.val (loW lot)) z3 z4 (sgl_get F) (toldK_out h.pr o.rr o.fw) (100 - (n + 1)) (n + 1) 0 (by omega) (by omega)
  rw [show 100 - (n + 1) + (n + 1) = 100 by omega] at w
  have z0 : (nW 0) = .int 0 := rfl
  rw [z0] at w
  simp only [F_told_in, defF, hs, List.length_cons, List.length_nil, if_true, sSeq_eq, hd, T.bind_ok, sFor_eq, iOf_eq, f2_eq, fL_eq, fCons_eq, fNil_eq, gV_eq, List.getElem?_cons_succ, List.getElem?_cons_zero, ix_c0, rows_run h hl, o.run, lstW, e, sSet_eq, List.set_cons_succ, List.set_cons_zero, sWhile, w, sRet_eq]
  rfl
theorem content_run (h : Cd (P : Int) n c) (hl : Lt c lot) (o : Lo P n c lot F) : F_content_in [cW P n c, loW lot] = .ok (nW (rcnt (RPiv ((rowsOf c lot).map (ve P))) n)) := by
  have hs : startE 2 [cW P n c, loW lot] = [.val (cW P n c), .val (loW lot)] := rfl
  have e := o.rr.content (one_ne h.pr) (n := n) fun q hq => by
    obtain ⟨g, hg, rfl⟩ := List.mem_map.mp hq
    exact (o.fw g hg).1
  rw [List.length_map] at e
  have hlen : lenW [.lst (F.map pwR)] = .ok (nW (rcnt (RPiv ((rowsOf c lot).map (ve P))) n)) := by simp [e]
  simp only [F_content_in, defF, hs, List.length_cons, List.length_nil, if_true, sRet_eq, f2_eq, fL_eq, fCons_eq, fNil_eq, gV_eq, List.getElem?_cons_succ, List.getElem?_cons_zero, ix_c0, rows_run h hl, o.run, T.bind_ok, hlen]
  rfl
end
end Lw
namespace Lw
open PySem L2 PF Rt
theorem kvs_get (t : Nat) : ∀ F : List (Nat × List Int), getKW ((kvsR F).map (·.1)) ((kvsR F).map (·.2)) (.inl (t : Int)) = match F.filter fun q => decide (q.1 = t) with
    | [] => none
    | q :: _ => some (LI q.2)
  | [] => rfl
  | q :: F => by
    have ih := kvs_get t F
    unfold kvsR at ih ⊢
    simp only [List.map_cons, getKW]
    by_cases e : q.1 = t
    · rw [List.filter_cons_of_pos (by simp [e]), e, if_pos rfl]
    · rw [List.filter_cons_of_neg (by simp [e]), if_neg (key_ne e), ih]
abbrev tg67 : PF.W → En → Option En := (goTup 2 (goCons (goName 6) (goCons (goName 7) goNil)))
theorem dct_go (v0 v1 v2 v3 v4 v5 v8 v9 v10 v11 v12 : Sl) : ∀ (F : List (Nat × List Int)) (acc : List (Key × PF.W)), (F.map Prod.fst).Nodup → (∀ q ∈ F, ∀ kv ∈ acc, kv.1 ≠ .inl (q.1 : Int)) →
    dcL tg67 fYes (gV 6) (gV 7) [v0, v1, v2, v3, v4, v5, .un, .un, v8, v9, v10, v11, v12] (F.map pwR) acc = .ok (acc ++ kvsR F)
  | [], acc, _, _ => by simp [kvsR, dcL]
  | q :: F, acc, hd, ha => by
    obtain ⟨d1, d2⟩ := List.nodup_cons.mp (show (q.1 :: F.map Prod.fst).Nodup from hd)
    have hp := put_new (acc := acc) (k := .inl (q.1 : Int)) (v := LI q.2) fun kv hk => ha q (by simp) kv hk
    have ih := dct_go v0 v1 v2 v3 v4 v5 v8 v9 v10 v11 v12 F (acc ++ [((.inl (q.1 : Int) : Key), LI q.2)]) d2 (fun r hr kv hk => by
      rcases List.mem_append.mp hk with hk | hk
      · exact ha r (by simp [hr]) kv hk
      · rw [List.mem_singleton.mp hk]
        exact key_ne fun e => d1 (e ▸ List.mem_map_of_mem hr))
    have g : tg67 (pwR q) [v0, v1, v2, v3, v4, v5, .un, .un, v8, v9, v10, v11, v12] = some [v0, v1, v2, v3, v4, v5, .val (.int (q.1 : Int)), .val (LI q.2), v8, v9, v10, v11, v12] := rfl
    rw [List.map_cons]
    unfold dcL
    simp only [g, fYes_eq, noX_ok, T.bind_ok, if_true, gV_eq, List.getElem?_cons_succ, List.getElem?_cons_zero, keyW, hp]
    rw [ih]
    simp [kvsR]
theorem ixN_nat {n k : Nat} (h : k < n) : ixN n (k : Int) = some k := by simp [ixN, h]
section
variable {p : Int} {n : Nat}
theorem sets_go (hp : Pr p) {fr : Nat} (hfr : fr < n) (v0 v1 v3 v4 v5 v8 v11 v12 : Sl) : ∀ (F : List (Nat × List Int)) (x : List Int) (s6 s7 : Sl), Fw p n F → x.length = n →
    ∃ z6 z7, forL tg67 (sAt 10 (gV 6) (fL (fCons (gV 2) (fCons (f2 subW (fun _ => .ok (.int 0)) (f2 ixW (gV 7) (gV 9))) fNil)) F_rest_of)) (F.map pwR) [v0, v1, .val (.int p), v3, v4, v5, s6, s7, v8, .val (nW fr), .own (I x), v11, v12] =
      .ok (.nx, [v0, v1, .val (.int p), v3, v4, v5, z6, z7, v8, .val (nW fr), .own (I (setsR (fun q => (0 - q.2.getD fr 0) % p) F x)), v11, v12])
  | [], x, s6, s7, _, _ => ⟨s6, s7, rfl⟩
  | q :: F, x, s6, s7, hF, hx => by
    have bb := hp.b
    obtain ⟨q1, q2⟩ := hF q (by simp)
    have e7 := ix_at (a := q.2) (j := fr) (by rw [q2.1]; exact hfr)
    obtain ⟨z6, z7, ih⟩ := sets_go hp hfr v0 v1 v3 v4 v5 v8 v11 v12 F (x.set q.1 ((0 - q.2.getD fr 0) % p)) (.val (.int (q.1 : Int))) (.val (LI q.2)) (fun q hq => hF q (by simp [hq])) (by rw [List.length_set]; exact hx)
    refine ⟨z6, z7, ?_⟩
    have g : tg67 (pwR q) [v0, v1, .val (.int p), v3, v4, v5, s6, s7, v8, .val (nW fr), .own (I x), v11, v12] = some [v0, v1, .val (.int p), v3, v4, v5, .val (.int (q.1 : Int)), .val (LI q.2), v8, .val (nW fr), .own (I x), v11, v12] := rfl
    have hix : ixN (I x).length (q.1 : Int) = some q.1 := ixN_nat (by rw [List.length_map, hx]; exact q1)
    have es : (I x).set q.1 (.int ((0 - q.2.getD fr 0) % p)) = I (x.set q.1 ((0 - q.2.getD fr 0) % p)) := by rw [I, I, List.map_set]
    rw [List.map_cons]
    unfold forL
    simp only [g, sAt, List.getElem?_cons_succ, List.getElem?_cons_zero, fL_eq, fCons_eq, fNil_eq, f2_eq, gV_eq, T.bind_ok, e7, subW_int, rest_run (show 0 < p by omega), hix, es, List.set_cons_succ, List.set_cons_zero]
    exact ih
end
section
variable {P : Nat} [NeZero P] {n : Nat} {c : List (List (List Int))} {lot : List Nat} {F : List (Nat × List Int)}
theorem free_ne (hp : Pr (P : Int)) {R : List (Nat → Fin P)} (h : RRf R (F.map (vq P))) (hF : Fw (P : Int) n F) {t : Nat} (ht : Tl R t) {q : Nat × List Int} {l : List (Nat × List Int)} (e : F.filter (fun q => decide (q.1 = t)) = q :: l) : ((leadR q.2).filter fun i => !decide (i = t)) ≠ [] := by
  have mq : q ∈ F.filter fun q => decide (q.1 = t) := e ▸ List.mem_cons_self
  obtain ⟨mq, qt⟩ := List.mem_filter.mp mq
  have qt : q.1 = t := of_decide_eq_true qt
  have pn := piv_ne hp h hF mq
  intro hl
  refine ht.2 ((single_is hp h hF t).mpr ⟨q, mq, qt, (lead_one (k := t) (by rw [← qt]; exact pn)).mpr fun i hi => ?_⟩)
  by_cases z : q.2.getD i 0 = 0
  · exact z
  · have : i ∈ (leadR q.2).filter fun i => !decide (i = t) := List.mem_filter.mpr ⟨lead_mem.mpr z, by simpa using hi⟩
    rw [hl] at this
    cases this
theorem lead_but {r : List Int} (t : Nat) (v0 v1 v2 v3 v5 v8 v9 v10 v11 : Sl) : compL (goTup 2 (goCons (goName 6) (goCons (goName 12) goNil))) (fAnd (fBl (f2 neS (gV 12) (fun _ => .ok (.int 0)))) (fBl (f2 neS (gV 6) (gV 4)))) (gV 6) [v0, v1, v2, v3, .val (nW t), v5, .un, .un, v8, v9, v10, v11, .un] (enumF 0 (I r)) = .ok (((leadR r).filter fun i => !decide (i = t)).map nW) := by
  rw [enum_ints]
  have e : ((leadR r).filter fun i => !decide (i = t)) = (List.range r.length).filter fun i => !decide (i = t) && !(r.getD i 0 == 0) := by
    unfold leadR
    rw [List.filter_filter]
  rw [e]
  refine compL_filter _ _ _ _ fun i _ => ⟨_, rfl, ?_, fun _ => by simp⟩
  have en : ((i : Int) == (t : Int)) = decide (i = t) := by
    rw [Bool.eq_iff_iff, beq_iff_eq, decide_eq_true_iff]
    omega
  cases hz : (r.getD i 0 == 0) <;> simp [hz, en, -List.getD_eq_getElem?_getD]
theorem many_rep (n : Nat) : manyW n [PF.W.int 0] = I (List.replicate n 0) := by
  induction n with
  | zero => rfl
  | succ n ih =>
    unfold manyW at ih ⊢
    rw [List.replicate_succ, List.flatten_cons, ih]
    rfl
theorem wit_run (h : Cd (P : Int) n c) (hl : Lt c lot) (o : Lo P n c lot F) : F_witness_in [cW P n c, loW lot] = .ok (if toldF n F = n then .non else TI (witR P n F (toldF n F))) := by
  have bb := h.pr.b
  have h12 := h.n12
  have p0 : (0 : Int) < (P : Int) := by omega
  have hs : startE 13 [cW P n c, loW lot] = [.val (cW P n c), .val (loW lot), .un, .un, .un, .un, .un, .un, .un, .un, .un, .un, .un] := rfl
  obtain ⟨tl, tn⟩ := o.tl h
  have g1 : goTup 2 (goCons (goName 2) (goCons (goName 3) goNil)) (.tup [.int (P : Int), nW n]) [.val (cW P n c), .val (loW lot), .un, .un, .un, .un, .un, .un, .un, .un, .un, .un, .un] = some [.val (cW P n c), .val (loW lot), .val (.int (P : Int)), .val (nW n), .un, .un, .un, .un, .un, .un, .un, .un, .un] := rfl
  have et : ((toldF n F : Int) == (n : Int)) = decide (toldF n F = n) := by
    rw [Bool.eq_iff_iff, beq_iff_eq, decide_eq_true_iff]
    omega
  have hz5 : sizeOk (F.map pwR) = true := size_small (by have := o.len; simp; omega)
  have dc := dct_go (.val (cW P n c)) (.val (loW lot)) (.val (.int (P : Int))) (.val (nW n)) (.val (nW (toldF n F))) (.val (.lst (F.map pwR))) .un .un .un .un .un F [] o.nd (fun q _ kv hk => by cases hk)
  rw [List.nil_append] at dc
  have kg := kvs_get (toldF n F) F
  simp only [F_witness_in, defF, hs, List.length_cons, List.length_nil, if_true, sSeq_eq, sAsg_eq, fL_eq, fCons_eq, fNil_eq, f2_eq, gV_eq, List.getElem?_cons_succ, List.getElem?_cons_zero, T.bind_ok, ix_c0, ix_c1, mkTup_eq, sizeOk_2, if_true, g1, sSet_eq, told_run h hl o, List.set_cons_succ, List.set_cons_zero, sIf_eq, fBl_eq, eqS_int, et, blW_bl]
  by_cases hc : toldF n F = n
  · rw [if_pos hc]
    simp only [hc, decide_true, if_true, sRet_eq, T.bind_ok]
    rfl
  · have htn : toldF n F < n := by omega
    obtain ⟨fn, fne, _⟩ := free_is h.pr o.rr o.fw tl htn
    obtain ⟨x1, x2, _⟩ := wit_is h.pr o.rr o.fw tl htn
    have xb := x1.at p0 (toldF n F)
    rw [if_neg hc]
    have free : ∀ v9 : Sl, (sIf (fBl (f2 inK (gV 4) (gV 8))) (sSet 9 (f2 ixW (fComp [6, 12] (iL enL (fCons (f2 ixK (gV 8) (gV 4)) fNil)) (goTup 2 (goCons (goName 6) (goCons (goName 12) goNil))) (fAnd (fBl (f2 neS (gV 12) (fun _ => .ok (.int 0)))) (fBl (f2 neS (gV 6) (gV 4)))) (gV 6)) (fun _ => .ok (.int 0)))) sNil) [.val (cW P n c), .val (loW lot), .val (.int (P : Int)), .val (nW n), .val (nW (toldF n F)), .val (.lst (F.map pwR)), .un, .un, .val (dctW (kvsR F)), .val (nW (toldF n F)), .un, .un, .un] = .ok (.nx, [.val (cW P n c), .val (loW lot), .val (.int (P : Int)), .val (nW n), .val (nW (toldF n F)), .val (.lst (F.map pwR)), .un, .un, .val (dctW (kvsR F)), .val (nW (freeR F (toldF n F))), .un, .un, .un]) := fun v9 => by
      cases hf : F.filter fun q => decide (q.1 = toldF n F) with
      | nil =>
        have ef : freeR F (toldF n F) = toldF n F := by unfold freeR; rw [hf]
        rw [hf] at kg
        simp only at kg
        rw [ef]
        simp only [sIf_eq, fBl_eq, f2_eq, gV_eq, List.getElem?_cons_succ, List.getElem?_cons_zero, T.bind_ok, dctW, inK, keyW, kg, Option.isSome_none, blW_bl, Bool.false_eq_true, if_false, sNil_eq]
      | cons q l =>
        have ef : freeR F (toldF n F) = ((leadR q.2).filter fun i => !decide (i = toldF n F)).headD (toldF n F) := by unfold freeR; rw [hf]
        have ne := free_ne h.pr o.rr o.fw tl hf
        have mq := (List.mem_filter.mp (hf ▸ List.mem_cons_self : q ∈ F.filter fun q => decide (q.1 = toldF n F))).1
        have q2 := (o.fw q mq).2
        rw [hf] at kg
        simp only at kg
        have hen : enL [LI q.2] = .ok (enumF 0 (I q.2)) := rfl
        have hz1 : sizeOk (enumF 0 (I q.2)) = true := size_small (by rw [enumF_length, List.length_map, q2.1]; omega)
        have lb := lead_but (r := q.2) (toldF n F) (.val (cW P n c)) (.val (loW lot)) (.val (.int (P : Int))) (.val (nW n)) (.val (.lst (F.map pwR))) (.val (.dct ((kvsR F).map (·.1)) ((kvsR F).map (·.2)))) (.val (nW (toldF n F))) .un .un
        have hx : ixW (.lst (((leadR q.2).filter fun i => !decide (i = toldF n F)).map nW)) (.int 0) = .ok (nW (freeR F (toldF n F))) := by
          rw [ef]
          cases hq : (leadR q.2).filter fun i => !decide (i = toldF n F) with
          | nil => exact absurd hq ne
          | cons a l2 => simp [ixW, atI, ixN]
        simp only [sIf_eq, fBl_eq, f2_eq, gV_eq, List.getElem?_cons_succ, List.getElem?_cons_zero, T.bind_ok, dctW, inK, ixK, keyW, kg, Option.isSome_some, blW_bl, if_true, sSet_eq, fComp_eq, iL_eq, fCons_eq, fNil_eq, hen, hz1, wipeE, List.foldl_cons, List.foldl_nil, List.set_cons_succ, List.set_cons_zero]
        simp only [lb, T.bind_ok, hx]
    simp only [hc, decide_false, Bool.false_eq_true, if_false, sNil_eq, T.bind_ok]
    simp only [rows_run h hl, o.run, fDc, iOf_eq, lstW, gV_eq, List.getElem?_cons_succ, List.getElem?_cons_zero, T.bind_ok, hz5, if_true, wipeE, List.foldl_cons, List.foldl_nil, List.set_cons_succ, List.set_cons_zero, dc, fL_eq, fCons_eq, fNil_eq]
    have free := free .un
    simp only [sIf_eq, sSet_eq, sNil_eq, fBl_eq, f2_eq, gV_eq, List.getElem?_cons_succ, List.getElem?_cons_zero, List.set_cons_succ, List.set_cons_zero, T.bind_ok] at free ⊢
    have om : mulL (.lst [.int 0]) (nW n) = .ok (.lst (I (List.replicate n 0))) := by
      have hz : lmulOk 1 (n : Int) = true := by
        unfold lmulOk
        rw [Bool.and_eq_true]
        exact ⟨rngOk_is (by omega) (by omega), decide_eq_true (by omega)⟩
      have := many_rep n
      simp [mulL, hz, this]
    have hin : intW [nW n] = .ok (nW n) := rfl
    have hml : mkLst [.int 0] = .ok (.lst [.int 0]) := by simp
    have hi1 : ixN (I (List.replicate n 0)).length ((freeR F (toldF n F) : Nat) : Int) = some (freeR F (toldF n F)) := ixN_nat (by simpa using fn)
    have es : (I (List.replicate n 0)).set (freeR F (toldF n F)) (.int 1) = I ((List.replicate n 0).set (freeR F (toldF n F)) 1) := by rw [I, I, List.map_set]
    obtain ⟨z6, z7, sg⟩ := sets_go h.pr fn (.val (cW P n c)) (.val (loW lot)) (.val (nW n)) (.val (nW (toldF n F))) (.val (.lst (F.map pwR))) (.val (dctW (kvsR F))) .un .un F ((List.replicate n 0).set (freeR F (toldF n F)) 1) .un .un o.fw (by simp)
    have ex : setsR (fun q => (0 - q.2.getD (freeR F (toldF n F)) 0) % (P : Int)) F ((List.replicate n 0).set (freeR F (toldF n F)) 1) = witX P n F (toldF n F) := rfl
    rw [ex] at sg
    have hf1 : ∀ s11 : Sl, frz 10 [.val (cW P n c), .val (loW lot), .val (.int (P : Int)), .val (nW n), .val (nW (toldF n F)), .val (.lst (F.map pwR)), z6, z7, .val (dctW (kvsR F)), .val (nW (freeR F (toldF n F))), .own (I (witX P n F (toldF n F))), s11, .un] = [.val (cW P n c), .val (loW lot), .val (.int (P : Int)), .val (nW n), .val (nW (toldF n F)), .val (.lst (F.map pwR)), z6, z7, .val (dctW (kvsR F)), .val (nW (freeR F (toldF n F))), .val (LI (witX P n F (toldF n F))), s11, .un] := fun _ => rfl
    have hf2 : ∀ s11 : Sl, frz 10 [.val (cW P n c), .val (loW lot), .val (.int (P : Int)), .val (nW n), .val (nW (toldF n F)), .val (.lst (F.map pwR)), z6, z7, .val (dctW (kvsR F)), .val (nW (freeR F (toldF n F))), .val (LI (witX P n F (toldF n F))), s11, .un] = [.val (cW P n c), .val (loW lot), .val (.int (P : Int)), .val (nW n), .val (nW (toldF n F)), .val (.lst (F.map pwR)), z6, z7, .val (dctW (kvsR F)), .val (nW (freeR F (toldF n F))), .val (LI (witX P n F (toldF n F))), s11, .un] := fun _ => rfl
    have e10 := ix_at (a := witX P n F (toldF n F)) (j := toldF n F) (by rw [x1.1]; exact htn)
    have hiv := inv_run h.pr (b := (witX P n F (toldF n F)).getD (toldF n F) 0) (by omega) xb.2
    obtain ⟨_, _, _, i1, i2, _⟩ := inv_is h.pr (b := (witX P n F (toldF n F)).getD (toldF n F) 0) (by omega) xb.2
    have hzx : sizeOk (I (witX P n F (toldF n F))) = true := size_small (by rw [List.length_map, x1.1]; omega)
    have c12 : compL (goName 12) fYes (fL (fCons (gV 2) (fCons (f2 mulW (gV 12) (gV 11)) fNil)) F_rest_of) [.val (cW P n c), .val (loW lot), .val (.int (P : Int)), .val (nW n), .val (nW (toldF n F)), .val (.lst (F.map pwR)), z6, z7, .val (dctW (kvsR F)), .val (nW (freeR F (toldF n F))), .val (LI (witX P n F (toldF n F))), .val (.int (inv P ((witX P n F (toldF n F)).getD (toldF n F) 0))), .un] (I (witX P n F (toldF n F))) = .ok (I (witR P n F (toldF n F))) := by
      have : I (witR P n F (toldF n F)) = (witX P n F (toldF n F)).map fun x => PF.W.int (x * inv P ((witX P n F (toldF n F)).getD (toldF n F) 0) % (P : Int)) := by simp [witR, scR, Function.comp_def]
      rw [this]
      refine compL_map _ _ _ fun x hx => ⟨_, rfl, rfl, ?_⟩
      have mo := bnd_mul h.pr (x1.2 x hx) (y := inv P ((witX P n F (toldF n F)).getD (toldF n F) 0)) (by omega)
      simp [mo, rest_run p0, -List.getD_eq_getElem?_getD]
    have tf : tupOfW [LI (witR P n F (toldF n F))] = .ok (TI (witR P n F (toldF n F))) := rfl
    simp only [free]
    simp only [T.bind_ok, sOwnMul, fL_eq, fCons_eq, fNil_eq, gV_eq, List.getElem?_cons_succ, List.getElem?_cons_zero, hml, hin, om, List.set_cons_succ, List.set_cons_zero, sAt, hi1, es, sFor_eq, iOf_eq, lstW]
    simp only [sg, T.bind_ok, onFrz, hf1, sSet_eq, fL_eq, fCons_eq, fNil_eq, f2_eq, gV_eq, List.getElem?_cons_succ, List.getElem?_cons_zero, e10, hiv, List.set_cons_succ, List.set_cons_zero, hf2, sRet_eq, fComp_eq, iOf_eq, lstW, hzx, if_true, wipeE, List.foldl_cons, List.foldl_nil, c12, tf]
    rfl
end
end Lw
namespace Lw
open PySem L2 PF Rt
def unitR (n t : Nat) : List Int := (List.range' 0 n).map fun i => if i = t then (1 : Int) else 0
section
variable {P : Nat} [NeZero P] {n : Nat} {c : List (List (List Int))} {lot : List Nat} {F : List (Nat × List Int)}
theorem unit_rw (hp : Pr (P : Int)) (t : Nat) : Rw (P : Int) n (unitR n t) := by
  have bb := hp.b
  refine ⟨by simp [unitR], fun x hx => ?_⟩
  obtain ⟨i, _, rfl⟩ := List.mem_map.mp hx
  by_cases h : i = t
  · rw [if_pos h]
    omega
  · rw [if_neg h]
    omega
theorem unit_ve {t : Nat} (ht : t < n) : ve P (unitR n t) = runit t := by
  funext i
  by_cases h : i < n
  · have e : (unitR n t).getD i 0 = if i = t then 1 else 0 := by
      unfold unitR
      rw [← List.range_eq_range']
      simp [h]
    unfold ve runit
    rw [e]
    by_cases z : i = t
    · rw [if_pos z, if_pos z]
      exact cz_one
    · rw [if_neg z, if_neg z]
      exact cz_null
  · rw [ve_out (n := n) (by simp [unitR]) (by omega)]
    unfold runit
    rw [if_neg (by omega)]
theorem reach_iff (h : Cd (P : Int) n c) (hl : Lt c lot) (o : Lo P n c lot F) {t : Nat} (ht : t < n) :
    rcnt (RPiv ((rowsOf c lot ++ [unitR n t]).map (ve P))) n = rcnt (RPiv ((rowsOf c lot).map (ve P))) n ↔ RSp ((rowsOf c lot).map (ve P)) (runit t) := by
  rw [List.map_append, List.map_cons, List.map_nil, unit_ve ht]
  exact o.rr.rank (ve_rows_out (rows_rw h hl)) fun i hi => by
    unfold runit
    rw [if_neg (by omega)]
abbrev gRe : En → T (Fl × En) := (sSeq (sSet 8 (fComp [9] (iL rng1 (fCons (gV 3) fNil)) (goName 9) fYes (fL (fCons (f2 eqS (gV 9) (gV 7)) fNil) intW))) (sIf (fAnd (fBl (f2 eqS (gV 6) (gV 7))) (fAnd (fBl (f2 neS (gV 5) (fL fNil mkLst))) (fBl (f2 eqS (fL (fCons (gV 2) (fCons (f2 addW (gV 5) (fL (fCons (gV 8) fNil) mkLst)) fNil)) F__law_rank) (fL (fCons (gV 2) (fCons (gV 5) fNil)) F__law_rank))))) (sSet 6 (f2 addW (gV 7) (fun _ => .ok (.int 1)))) sNil))
theorem reach_step (h : Cd (P : Int) n c) (hl : Lt c lot) (o : Lo P n c lot F) {t : Nat} (ht : t < n) (v0 v1 v4 s8 : Sl) :
    ∃ z8, gRe [v0, v1, .val (.int (P : Int)), .val (nW n), v4, .val (.lst ((rowsOf c lot).map LI)), .val (nW (min t (toldF n F))), .val (nW t), s8, .un] =
      .ok (.nx, [v0, v1, .val (.int (P : Int)), .val (nW n), v4, .val (.lst ((rowsOf c lot).map LI)), .val (nW (min (t + 1) (toldF n F))), .val (nW t), z8, .un]) := by
  have bb := h.pr.b
  have h12 := h.n12
  have hlen := rows_len h hl
  obtain ⟨tl, tn⟩ := o.tl h
  have hz : sizeOk ((List.range' 0 n).map fun (i : Nat) => PF.W.int (i : Int)) = true := size_small (by simp; omega)
  have c1 : compL (goName 9) fYes (fL (fCons (f2 eqS (gV 9) (gV 7)) fNil) intW) [v0, v1, .val (.int (P : Int)), .val (nW n), v4, .val (.lst ((rowsOf c lot).map LI)), .val (nW (min t (toldF n F))), .val (nW t), s8, .un] ((List.range' 0 n).map fun (i : Nat) => PF.W.int (i : Int)) = .ok (I (unitR n t)) := by
    have e : I (unitR n t) = (List.range' 0 n).map fun i => PF.W.int (if i = t then 1 else 0) := by
      unfold unitR
      rw [I, List.map_map]
      rfl
    rw [e]
    refine compL_map _ _ _ fun i _ => ⟨_, rfl, rfl, ?_⟩
    by_cases z : i = t
    · simp [z]
    · have : ((i : Int) == (t : Int)) = false := by
        rw [beq_eq_false_iff_ne]
        omega
      simp [z, this]
  refine ⟨.val (LI (unitR n t)), ?_⟩
  have hrn := rng_nat (n := n) (by omega)
  have et : (((min t (toldF n F) : Nat) : Int) == (t : Int)) = decide (t ≤ toldF n F) := by
    rw [Bool.eq_iff_iff, beq_iff_eq, decide_eq_true_iff]
    omega
  have ha := add_LL (rowsOf c lot) [unitR n t] (by simp; omega)
  have hrr := rows_rw h hl
  have r1 := rank_run h.pr (show n ≤ 1000 by omega) hrr (by omega)
  have r2 := rank_run h.pr (show n ≤ 1000 by omega) (L := rowsOf c lot ++ [unitR n t]) (fun r hr => by
    rcases List.mem_append.mp hr with hr | hr
    · exact hrr r hr
    · rw [List.mem_singleton.mp hr]
      exact unit_rw h.pr t) (by rw [List.length_append, List.length_singleton]; omega)
  have er : ((rcnt (RPiv ((rowsOf c lot ++ [unitR n t]).map (ve P))) n : Int) == (rcnt (RPiv ((rowsOf c lot).map (ve P))) n : Int)) = toldK F t := by
    rw [Bool.eq_iff_iff, beq_iff_eq, toldK_is h.pr o.rr o.fw t, ← reach_iff h hl o ht]
    omega
  have hmk : mkLst [LI (unitR n t)] = .ok (.lst ([unitR n t].map LI)) := by simp
  have ga : addW (nW t) (.int 1) = .ok (nW (t + 1)) := by simp [addW_int]
  simp only [gRe, sSeq_eq, sSet_eq, fComp_eq, iL_eq, fCons_eq, fNil_eq, gV_eq, List.getElem?_cons_succ, List.getElem?_cons_zero, T.bind_ok, hrn, hz, if_true, wipeE, List.foldl_cons, List.foldl_nil, List.set_cons_succ, List.set_cons_zero, c1]
  simp only [sIf_eq, fAnd_eq, fBl_eq, f2_eq, fL_eq, fCons_eq, fNil_eq, gV_eq, List.getElem?_cons_succ, List.getElem?_cons_zero, T.bind_ok, eqS_int, et, blW_bl, mkLst_eq, sizeOk_nil, if_true, neS_lst, ne_rows]
  by_cases hc : t ≤ toldF n F
  · rw [decide_eq_true hc]
    simp only [if_true]
    by_cases hr0 : rowsOf c lot = []
    · have e0 : toldF n F = 0 := by
        refine tl_uniq tl ?_
        rw [hr0]
        exact ⟨fun i hi => absurd hi (by omega), unit_out (n := 0) (one_ne h.pr) (fun r hr => by cases hr) (Nat.le_refl 0)⟩
      have t0 : t = 0 := by omega
      simp only [hr0, List.isEmpty_nil, Bool.not_true, blW_bl, T.bind_ok, Bool.false_eq_true, if_false, sNil_eq]
      rw [e0]
      simp
    · have e1 : (rowsOf c lot).isEmpty = false := by
        cases hr : rowsOf c lot with
        | nil => exact absurd hr hr0
        | cons _ _ => rfl
      simp only [e1, Bool.not_false, blW_bl, T.bind_ok, if_true]
      have hmk : mkLst [LI (unitR n t)] = .ok (.lst ([unitR n t].map LI)) := by simp
      simp only [mkLst_eq] at hmk
      simp only [hmk, T.bind_ok, ha, r1, r2, eqS_int, er, blW_bl]
      cases hk : toldK F t with
      | true =>
        have : t < toldF n F := by
          rcases Nat.lt_or_ge t (toldF n F) with z | z
          · exact z
          · have : t = toldF n F := by omega
            have h1 := (toldK_is h.pr o.rr o.fw t).mp hk
            rw [this] at h1
            exact absurd h1 tl.2
        have e2 : min (t + 1) (toldF n F) = t + 1 := by omega
        simp only [if_true, sSet_eq, f2_eq, gV_eq, List.getElem?_cons_succ, List.getElem?_cons_zero, T.bind_ok, ga, List.set_cons_succ, List.set_cons_zero]
        rw [e2]
      | false =>
        have : t = toldF n F := by
          rcases Nat.lt_or_ge t (toldF n F) with z | z
          · have := (toldK_is h.pr o.rr o.fw t).mpr (tl.1 t z)
            rw [hk] at this
            cases this
          · omega
        have e2 : min (t + 1) (toldF n F) = min t (toldF n F) := by omega
        simp only [Bool.false_eq_true, if_false, sNil_eq]
        rw [e2]
  · rw [decide_eq_false hc]
    have e2 : min (t + 1) (toldF n F) = min t (toldF n F) := by omega
    simp only [Bool.false_eq_true, if_false, sNil_eq, T.bind_ok]
    rw [e2]
theorem reach_go (h : Cd (P : Int) n c) (hl : Lt c lot) (o : Lo P n c lot F) (v0 v1 v4 : Sl) : ∀ (k t : Nat) (s7 s8 : Sl), t + k = n →
    ∃ z7 z8, forL (goName 7) gRe ((List.range' t k).map fun (i : Nat) => PF.W.int (i : Int)) [v0, v1, .val (.int (P : Int)), .val (nW n), v4, .val (.lst ((rowsOf c lot).map LI)), .val (nW (min t (toldF n F))), s7, s8, .un] =
      .ok (.nx, [v0, v1, .val (.int (P : Int)), .val (nW n), v4, .val (.lst ((rowsOf c lot).map LI)), .val (nW (toldF n F)), z7, z8, .un])
  | 0, t, s7, s8, e => by
    have := (o.tl h).2
    have e2 : min t (toldF n F) = toldF n F := by omega
    rw [e2]
    exact ⟨s7, s8, rfl⟩
  | k + 1, t, s7, s8, e => by
    obtain ⟨z8, e1⟩ := reach_step h hl o (show t < n by omega) v0 v1 v4 s8
    obtain ⟨y7, y8, e2⟩ := reach_go h hl o v0 v1 v4 k (t + 1) (.val (nW t)) z8 (by omega)
    refine ⟨y7, y8, ?_⟩
    rw [List.range'_succ, List.map_cons]
    unfold forL
    have g : goName 7 (nW t) [v0, v1, .val (.int (P : Int)), .val (nW n), v4, .val (.lst ((rowsOf c lot).map LI)), .val (nW (min t (toldF n F))), s7, s8, .un] = some [v0, v1, .val (.int (P : Int)), .val (nW n), v4, .val (.lst ((rowsOf c lot).map LI)), .val (nW (min t (toldF n F))), .val (nW t), s8, .un] := rfl
    rw [g]
    simp only [e1, T.bind_ok]
    exact e2
theorem reach_run (h : Cd (P : Int) n c) (hl : Lt c lot) (o : Lo P n c lot F) : F__law_reach [cW P n c, loW lot] = .ok (nW (toldF n F)) := by
  have h12 := h.n12
  have hs : startE 10 [cW P n c, loW lot] = [.val (cW P n c), .val (loW lot), .un, .un, .un, .un, .un, .un, .un, .un] := rfl
  have g : goTup 3 (goCons (goName 2) (goCons (goName 3) (goCons (goName 4) goNil))) (cW P n c) [.val (cW P n c), .val (loW lot), .un, .un, .un, .un, .un, .un, .un, .un] = some [.val (cW P n c), .val (loW lot), .val (.int (P : Int)), .val (nW n), .val (.tup (c.map lW)), .un, .un, .un, .un, .un] := rfl
  obtain ⟨z7, z8, e⟩ := reach_go h hl o (.val (cW P n c)) (.val (loW lot)) (.val (.tup (c.map lW))) n 0 .un .un (by omega)
  rw [Nat.zero_min] at e
  simp only [gRe] at e
  have z0 : nW 0 = .int 0 := rfl
  rw [z0] at e
  simp only [F__law_reach, defF, hs, List.length_cons, List.length_nil, if_true, sSeq_eq, sAsg_eq, gV_eq, List.getElem?_cons_succ, List.getElem?_cons_zero, T.bind_ok, g, sPar_eq, fCons_eq, fNil_eq, fL_eq, forms_run h hl, List.set_cons_succ, List.set_cons_zero, sFor_eq, iL_eq, rng_nat (show n ≤ 1000 by omega), e, sRet_eq]
  rfl
end
end Lw
namespace Lw
open PySem L2 PF Rt
theorem sIx_nat06 (n k : Nat) : HT.sIx n n (some (k : Int)) = min k n := by
  unfold HT.sIx
  simp only
  rw [if_neg (by omega)]
  by_cases h : k ≤ n
  · rw [Nat.min_eq_left h]
    omega
  · rw [Nat.min_eq_right (by omega)]
    omega
theorem cut_up {α : Type} (f : α → PF.W) (ms : List α) (n : Nat) : cutW (ms.map f) none (some (n : Int)) = (ms.take n).map f := by
  unfold cutW
  rw [List.length_map, sIx_nat06]
  show ((ms.map f).drop 0).take (min n ms.length - 0) = _
  rw [List.drop_zero, Nat.sub_zero, List.map_take]
  by_cases h : n ≤ ms.length
  · rw [Nat.min_eq_left h]
  · rw [Nat.min_eq_right (by omega), List.take_of_length_le (by simp), List.take_of_length_le (by simp; omega)]
theorem mul_zeros {t : Nat} (h : t ≤ 1000) : mulTZ (.tup [.int 0]) (nW t) = .ok (TI (List.replicate t 0)) := by
  rcases Nat.lt_trichotomy t 1 with z | z | z
  · have : t = 0 := by omega
    subst this
    rfl
  · subst z
    rfl
  · have tm : tmulOk 1 (t : Int) = true := by
      unfold tmulOk
      exact decide_eq_true (by omega)
    obtain ⟨k, rfl⟩ : ∃ k, t = k + 2 := ⟨t - 2, by omega⟩
    have e : mulTZ (.tup [.int 0]) (nW (k + 2)) = mulT (.tup [.int 0]) (nW (k + 2)) := rfl
    rw [e]
    unfold mulT
    simp only [nW, List.length_cons, List.length_nil, tm, if_true, Int.toNat_natCast, Nat.zero_add]
    rw [many_rep]
section
variable {P : Nat} [NeZero P] {n : Nat} {c : List (List (List Int))} {lot : List Nat} {F : List (Nat × List Int)}
abbrev gIw : En → T (Fl × En) := (sIf (fBl (f2 neS (f2 modW (fL (fCons (fL (fCons (fComp [8, 9] (iL zbW (fCons (gV 7) (fCons (gV 2) fNil))) (goTup 2 (goCons (goName 8) (goCons (goName 9) goNil))) fYes (f2 mulW (gV 8) (gV 9))) fNil) sumW) fNil) intW) (gV 3)) (fun _ => .ok (.int 0)))) (sRet (fun _ => .ok (.bl false))) sNil)
theorem iw_step (hp : Pr (P : Int)) (hn : n ≤ 1000) {w r : List Int} (hw : Rw (P : Int) n w) (hr : Rw (P : Int) n r) (hs : ((r.zip w).map fun q => q.1 * q.2).sum % (P : Int) = 0) (v0 v1 v4 v5 v6 : Sl) :
    gIw [v0, v1, .val (TI w), .val (.int (P : Int)), v4, v5, v6, .val (LI r), .un, .un] = .ok (.nx, [v0, v1, .val (TI w), .val (.int (P : Int)), v4, v5, v6, .val (LI r), .un, .un]) := by
  have bb := hp.b
  have hz : sizeOk ((r.zip w).map fun q => PF.W.tup [.int q.1, .int q.2]) = true := size_small (by simp [hr.1, hw.1]; omega)
  have zb : zbW [LI r, TI w] = .ok ((r.zip w).map fun q => PF.W.tup [.int q.1, .int q.2]) := by
    have : zbW [LI r, TI w] = .ok (zipF (I r) (I w)) := rfl
    rw [this, zipF_ints]
  have cc : compL (goTup 2 (goCons (goName 8) (goCons (goName 9) goNil))) fYes (f2 mulW (gV 8) (gV 9)) [v0, v1, .val (TI w), .val (.int (P : Int)), v4, v5, v6, .val (LI r), .un, .un] ((r.zip w).map fun q => PF.W.tup [.int q.1, .int q.2]) = .ok (I ((r.zip w).map fun q => q.1 * q.2)) := by
    have e : I ((r.zip w).map fun q => q.1 * q.2) = (r.zip w).map fun q => PF.W.int (q.1 * q.2) := by simp [Function.comp_def]
    rw [e]
    refine compL_map _ _ _ fun q hq => ⟨_, rfl, rfl, ?_⟩
    have mo := bnd_mul hp (hr.2 q.1 (List.of_mem_zip hq).1) (hw.2 q.2 (List.of_mem_zip hq).2)
    simp [mo]
  have pd : decide ((0 : Int) < (P : Int)) = true := decide_eq_true (by omega)
  simp only [gIw, sIf_eq, fBl_eq, f2_eq, fL_eq, fCons_eq, fNil_eq, fComp_eq, iL_eq, gV_eq, List.getElem?_cons_succ, List.getElem?_cons_zero, T.bind_ok, zb, hz, if_true, wipeE, List.foldl_cons, List.foldl_nil, List.set_cons_succ, List.set_cons_zero, cc, sumW, intsW_of]
  have hi : intW [.int ((r.zip w).map fun q => q.1 * q.2).sum] = .ok (.int ((r.zip w).map fun q => q.1 * q.2).sum) := rfl
  simp only [hi, T.bind_ok, modW_int, pd, if_true, hs, neS_int]
  rfl
theorem iw_go (hp : Pr (P : Int)) (hn : n ≤ 1000) {w : List Int} (hw : Rw (P : Int) n w) (v0 v1 v4 v5 v6 : Sl) : ∀ (rows : List (List Int)) (s7 : Sl), (∀ r ∈ rows, Rw (P : Int) n r ∧ ((r.zip w).map fun q => q.1 * q.2).sum % (P : Int) = 0) →
    ∃ z7, forL (goName 7) gIw (rows.map LI) [v0, v1, .val (TI w), .val (.int (P : Int)), v4, v5, v6, s7, .un, .un] = .ok (.nx, [v0, v1, .val (TI w), .val (.int (P : Int)), v4, v5, v6, z7, .un, .un])
  | [], s7, _ => ⟨s7, rfl⟩
  | r :: rows, s7, h => by
    obtain ⟨h1, h2⟩ := h r (by simp)
    obtain ⟨z7, ih⟩ := iw_go hp hn hw v0 v1 v4 v5 v6 rows (.val (LI r)) fun r hr => h r (by simp [hr])
    refine ⟨z7, ?_⟩
    have g : goName 7 (LI r) [v0, v1, .val (TI w), .val (.int (P : Int)), v4, v5, v6, s7, .un, .un] = some [v0, v1, .val (TI w), .val (.int (P : Int)), v4, v5, v6, .val (LI r), .un, .un] := rfl
    rw [List.map_cons]
    unfold forL
    rw [g]
    simp only [iw_step hp hn hw h1 h2, T.bind_ok]
    exact ih
theorem iw_run (h : Cd (P : Int) n c) (hl : Lt c lot) (o : Lo P n c lot F) (htn : toldF n F < n) : F__law_is_witness [cW P n c, loW lot, TI (witR P n F (toldF n F))] = .ok (.bl true) := by
  have bb := h.pr.b
  have h12 := h.n12
  obtain ⟨tl, tn⟩ := o.tl h
  obtain ⟨_, _, x3, x4, x5, x6⟩ := wit_is h.pr o.rr o.fw tl htn
  generalize hw : witR P n F (toldF n F) = w at x3 x4 x5 x6
  have hs : startE 10 [cW P n c, loW lot, TI w] = [.val (cW P n c), .val (loW lot), .val (TI w), .un, .un, .un, .un, .un, .un, .un] := rfl
  have g : goTup 3 (goCons (goName 3) (goCons (goName 4) (goCons (goName 5) goNil))) (cW P n c) [.val (cW P n c), .val (loW lot), .val (TI w), .un, .un, .un, .un, .un, .un, .un] = some [.val (cW P n c), .val (loW lot), .val (TI w), .val (.int (P : Int)), .val (nW n), .val (.tup (c.map lW)), .un, .un, .un, .un] := rfl
  have el : lenW [TI w] = .ok (nW n) := by simp [x3.1]
  have e1 : (((n : Int) == (n : Int))) = true := by simp
  have e2 : (((toldF n F : Nat) : Int) == (n : Int)) = false := by
    rw [beq_eq_false_iff_ne]
    omega
  have tk : w.take (toldF n F) = List.replicate (toldF n F) 0 := by
    refine List.ext_getElem? fun i => ?_
    by_cases z : i < toldF n F
    · have h0 := x4 i z
      have hi : i < w.length := by rw [x3.1]; omega
      rw [List.getD_eq_getElem?_getD, List.getElem?_eq_getElem hi] at h0
      have h0 : w[i] = 0 := h0
      simp [z, hi, h0]
    · have z2 : ¬ (i < toldF n F ∧ i < w.length) := by omega
      simp [z, List.getElem?_take]
  have sl : slW (TI w) none (some ((toldF n F : Nat) : Int)) = .ok (TI (List.replicate (toldF n F) 0)) := by
    show T.ok (PF.W.tup (cutW (w.map PF.W.int) none (some ((toldF n F : Nat) : Int)))) = _
    rw [cut_up, tk]
  have ix := ix_atT (a := w) (j := toldF n F) (by rw [x3.1]; exact htn)
  rw [x5] at ix
  have hrr := rows_rw h hl
  obtain ⟨z7, lp⟩ := iw_go h.pr (show n ≤ 1000 by omega) x3 (.val (cW P n c)) (.val (loW lot)) (.val (nW n)) (.val (.tup (c.map lW))) (.val (nW (toldF n F))) (rowsOf c lot) .un fun r hr => ⟨hrr r hr, x6 r (RSp.mem (List.mem_map_of_mem hr)) (hrr r hr).1⟩
  simp only [gIw] at lp
  have hz : sizeOk (I w) = true := size_small (by rw [List.length_map, x3.1]; omega)
  have cc : compL (goName 8) (fNot (fBl (fCh leW ltW (fun _ => .ok (.int 0)) (gV 8) (gV 3)))) (fun _ => .ok (.int 1)) [.val (cW P n c), .val (loW lot), .val (TI w), .val (.int (P : Int)), .val (nW n), .val (.tup (c.map lW)), .val (nW (toldF n F)), z7, .un, .un] (I w) = .ok [] := by
    have e : ([] : List PF.W) = (w.filter fun x => !(decide (0 ≤ x) && decide (x < (P : Int)))).map fun _ => PF.W.int 1 := by
      rw [List.filter_eq_nil_iff.mpr fun x hx => by have := x3.2 x hx; simp [this.1, this.2]]
      rfl
    rw [e]
    refine compL_filter _ _ _ _ fun x hx => ⟨_, rfl, ?_, fun _ => rfl⟩
    have b := x3.2 x hx
    simp [fCh, b.1, b.2]
  have mk0 : mkTup [.int 0] = .ok (.tup [.int 0]) := by simp
  have enil : eqW (.lst []) (.lst []) = .ok (.bl true) := eq_nilL (n := 1) (low_lst fun w hw => by cases hw) (by decide)
  have me := ne_it (List.replicate (toldF n F) 0) (List.replicate (toldF n F) 0)
  rw [decide_eq_true rfl] at me
  simp only [F__law_is_witness, defF, hs, List.length_cons, List.length_nil, if_true, sSeq_eq, sAsg_eq, gV_eq, List.getElem?_cons_succ, List.getElem?_cons_zero, T.bind_ok, g, sSet_eq, fL_eq, fCons_eq, fNil_eq, reach_run h hl o, List.set_cons_succ, List.set_cons_zero]
  simp only [sIf_eq, fOr_eq, fNot_eq, fTru_eq, f1_eq, fBl_eq, f2_eq, gV_eq, List.getElem?_cons_succ, List.getElem?_cons_zero, T.bind_ok, tup_is, truW_bl, Bool.not_true, Bool.false_eq_true, if_false, fL_eq, fCons_eq, fNil_eq, el, neS_int, e1, blW_bl, eqS_int, e2, sNil_eq]
  simp only [fSl_eq, pNo_eq, pSome_eq, pInt, gV_eq, List.getElem?_cons_succ, List.getElem?_cons_zero, T.bind_ok, sl, mk0, mul_zeros (show toldF n F ≤ 1000 by omega), me, Bool.not_true, blW_bl, Bool.false_eq_true, if_false, ix, neS_int]
  have e3 : ((1 : Int) == 1) = true := rfl
  simp only [e3, Bool.not_true, blW_bl, T.bind_ok, Bool.false_eq_true, if_false, sFor_eq, iOf_eq, fL_eq, fCons_eq, fNil_eq, gV_eq, List.getElem?_cons_succ, List.getElem?_cons_zero, forms_run h hl, lstW, lp, sRet_eq, f2_eq, fComp_eq, tupW, hz, if_true, wipeE, List.foldl_cons, List.foldl_nil, List.set_cons_succ, List.set_cons_zero, cc, mkLst_eq, sizeOk_nil, eqS_lst, enil]
  rfl
end
section
variable {p : Int} {n : Nat} {c : List (List (List Int))} {lot : List Nat}
theorem letter_run (hn : n ≤ 12) {l : List (List Int)} (hl : l.length ≤ 6) (hr : ∀ f ∈ l, Rw p n f) : F_is_letter [.int p, nW n, lW l] = .ok (.bl true) := by
  have hs : startE 4 [.int p, nW n, lW l] = [.val (.int p), .val (nW n), .val (lW l), .un] := rfl
  have hz : sizeOk (l.map TI) = true := size_small (by rw [List.length_map]; omega)
  have c1 : compL (goName 3) fYes (fAndV (fL (fCons (gV 0) (fCons (gV 3) fNil)) F_are_signs) (f2 eqS (fL (fCons (gV 3) fNil) lenW) (gV 1))) [.val (.int p), .val (nW n), .val (lW l), .un] (l.map TI) = .ok (l.map fun _ => PF.W.bl true) := by
    refine compL_map _ _ _ fun f hf => ⟨_, rfl, rfl, ?_⟩
    have h := hr f hf
    have := aresigns_run (p := p) (as := f) h.2 (by rw [h.1]; omega)
    simp [this, h.1]
  have ha := all_bls (as := l) (t := fun _ => true) fun _ _ => rfl
  have l2 : ¬ (6 : Int) < (l.length : Int) := by omega
  simp [F_is_letter, defF, hs, tup_is, k_MOST_LENGTH, l2, fComp, tupW, hz, wipeE, c1, ha, endOf]
theorem code_step (h : Cd p n c) {l : List (List Int)} (hl : l ∈ c) (v0 v4 : Sl) : (sIf (fOr (fNot (fTru (fL (fCons (gV 1) (fCons (gV 2) (fCons (gV 5) fNil))) F_is_letter))) (fBl (f2 neS (fL (fCons (gV 5) fNil) lenW) (fL (fCons (f2 ixW (gV 3) (fun _ => .ok (.int 0))) fNil) lenW)))) sNever sNil) [v0, .val (.int p), .val (nW n), .val (.tup (c.map lW)), v4, .val (lW l)] = .ok (.nx, [v0, .val (.int p), .val (nW n), .val (.tup (c.map lW)), v4, .val (lW l)]) := by
  obtain ⟨h1, h2⟩ := h.len l hl
  have hlr := letter_run h.n12 h2 (h.rw l hl)
  have ix := ix_l (c := c) (k := 0) (by have := h.l1; omega)
  have z0 : nW 0 = .int 0 := rfl
  rw [z0] at ix
  have e1 : lenW [lW l] = .ok (nW (c.getD 0 []).length) := by simp only [lenW_tup, List.length_map, h1]
  have e2 : lenW [lW (c.getD 0 [])] = .ok (nW (c.getD 0 []).length) := by simp only [lenW_tup, List.length_map]
  have e3 : ((((c.getD 0 []).length : Nat) : Int) == (((c.getD 0 []).length : Nat) : Int)) = true := by simp
  simp only [sIf_eq, fOr_eq, fNot_eq, fTru_eq, fBl_eq, f2_eq, fL_eq, fCons_eq, fNil_eq, gV_eq, List.getElem?_cons_succ, List.getElem?_cons_zero, T.bind_ok, hlr, truW_bl, Bool.not_true, Bool.false_eq_true, if_false, ix, e1, e2, neS_int, e3, blW_bl, sNil_eq]
theorem code_go (h : Cd p n c) (v0 : Sl) : ∀ (ls : List (List (List Int))) (k : Int) (s4 s5 : Sl), (∀ l ∈ ls, l ∈ c) →
    ∃ z4 z5, forL (goTup 2 (goCons (goName 4) (goCons (goName 5) goNil))) (sIf (fOr (fNot (fTru (fL (fCons (gV 1) (fCons (gV 2) (fCons (gV 5) fNil))) F_is_letter))) (fBl (f2 neS (fL (fCons (gV 5) fNil) lenW) (fL (fCons (f2 ixW (gV 3) (fun _ => .ok (.int 0))) fNil) lenW)))) sNever sNil) (enumF k (ls.map lW)) [v0, .val (.int p), .val (nW n), .val (.tup (c.map lW)), s4, s5] = .ok (.nx, [v0, .val (.int p), .val (nW n), .val (.tup (c.map lW)), z4, z5])
  | [], k, s4, s5, _ => ⟨s4, s5, rfl⟩
  | l :: ls, k, s4, s5, hl => by
    obtain ⟨z4, z5, ih⟩ := code_go h v0 ls (k + 1) (.val (.int k)) (.val (lW l)) fun l hl' => hl l (by simp [hl'])
    refine ⟨z4, z5, ?_⟩
    have g : goTup 2 (goCons (goName 4) (goCons (goName 5) goNil)) (.tup [.int k, lW l]) [v0, .val (.int p), .val (nW n), .val (.tup (c.map lW)), s4, s5] = some [v0, .val (.int p), .val (nW n), .val (.tup (c.map lW)), .val (.int k), .val (lW l)] := rfl
    have cs := code_step h (hl l (by simp)) v0 (.val (.int k))
    rw [List.map_cons]
    show forL _ _ (.tup [.int k, lW l] :: enumF (k + 1) (ls.map lW)) _ = _
    unfold forL
    simp only [g, cs, T.bind_ok]
    exact ih
theorem need_run (h : Cd p n c) : F_need_code [cW p n c] = .ok (cW p n c) := by
  have hs : startE 6 [cW p n c] = [.val (cW p n c), .un, .un, .un, .un, .un] := rfl
  have g : goTup 3 (goCons (goName 1) (goCons (goName 2) (goCons (goName 3) goNil))) (cW p n c) [.val (cW p n c), .un, .un, .un, .un, .un] = some [.val (cW p n c), .val (.int p), .val (nW n), .val (.tup (c.map lW)), .un, .un] := rfl
  have e0 : lenW [cW p n c] = .ok (.int 3) := rfl
  obtain ⟨z4, z5, e⟩ := code_go h (.val (cW p n c)) c 0 .un .un fun l hl => hl
  have h12 := h.n12
  have h1 := h.l1
  have h6 := h.l6
  have b1 : decide ((0 : Int) ≤ (n : Int)) = true := decide_eq_true (by omega)
  have b2 : decide ((n : Int) ≤ 12) = true := decide_eq_true (by omega)
  have b3 : decide ((1 : Int) ≤ (c.length : Int)) = true := decide_eq_true (by omega)
  have b4 : decide ((c.length : Int) ≤ 6) = true := decide_eq_true (by omega)
  have el : lenW [.tup (c.map lW)] = .ok (.int (c.length : Int)) := by simp
  have et : enT [.tup (c.map lW)] = .ok (enumF 0 (c.map lW)) := rfl
  simp only [F_need_code, defF, hs, List.length_cons, List.length_nil, if_true, sSeq_eq, sIf_eq, fOr_eq, fNot_eq, fTru_eq, f1_eq, fBl_eq, f2_eq, fL_eq, fCons_eq, fNil_eq, gV_eq, List.getElem?_cons_succ, List.getElem?_cons_zero, T.bind_ok, tup_is, truW_bl, Bool.not_true, Bool.false_eq_true, if_false, e0, neS_int, sAsg_eq, g, isint_run, pr_in h.pr, blW_bl, between_run, k_MOST_CODED, b1, b2, Bool.and_self, sNil_eq, el, k_MOST_CODE_LETTERS]
  have e3 : ((3 : Int) == 3) = true := rfl
  simp only [e3, Bool.not_true, blW_bl, T.bind_ok, Bool.false_eq_true, if_false, sNil_eq, g, sAsg_eq, gV_eq, List.getElem?_cons_succ, List.getElem?_cons_zero, fCh, leW_int, b1, b2, b3, b4, sFor_eq, iL_eq, fL_eq, fCons_eq, fNil_eq, et, e, sRet_eq, isint_run, pr_in h.pr, truW_bl, between_run, Bool.and_self, tup_is, el]
  rfl
end
end Lw
namespace Lw
open PySem L2 PF Rt
def subsV : Nat → List (List Nat)
  | 0 => [[]]
  | j + 1 => subsV j ++ (subsV j).map fun l => l ++ [j]
def lotsV (m s : Nat) : List (List Nat) := (subsV m).filter fun l => l.length == s
theorem subs_in : ∀ (m : Nat), ∀ l ∈ subsV m, (∀ k ∈ l, k < m) ∧ l.Pairwise (· < ·) ∧ l.length ≤ m
  | 0, l, h => by
    have : l = [] := by simpa [subsV] using h
    subst this
    exact ⟨fun k hk => (by cases hk), .nil, Nat.le_refl 0⟩
  | m + 1, l, h => by
    rcases List.mem_append.mp h with h | h
    · obtain ⟨h1, h2, h3⟩ := subs_in m l h
      exact ⟨fun k hk => by have := h1 k hk; omega, h2, by omega⟩
    · obtain ⟨l', h', rfl⟩ := List.mem_map.mp h
      obtain ⟨h1, h2, h3⟩ := subs_in m l' h'
      refine ⟨fun k hk => ?_, ?_, by simp; omega⟩
      · rcases List.mem_append.mp hk with hk | hk
        · have := h1 k hk
          omega
        · have := List.mem_singleton.mp hk
          omega
      · refine List.pairwise_append.mpr ⟨h2, List.pairwise_singleton _ _, fun a ha b hb => ?_⟩
        rw [List.mem_singleton.mp hb]
        exact h1 a ha
theorem subs_len : ∀ m, (subsV m).length = 2 ^ m
  | 0 => rfl
  | m + 1 => by
    simp only [subsV, List.length_append, List.length_map, subs_len m]
    omega
theorem subs_64 {m : Nat} (h : m ≤ 6) : (subsV m).length ≤ 64 := by
  rw [subs_len]
  exact Nat.le_trans (Nat.pow_le_pow_right (by decide) h) (by decide)
theorem subs_nil : ∀ m, (subsV m).filter (fun l => l.length == 0) = [[]]
  | 0 => rfl
  | m + 1 => by
    simp only [subsV, List.filter_append, subs_nil m]
    rw [List.filter_eq_nil_iff.mpr]
    · rfl
    · intro l hl
      obtain ⟨l', _, rfl⟩ := List.mem_map.mp hl
      simp
theorem subs_all : ∀ (m s : Nat), s ≤ m → lotsV m s ≠ []
  | 0, s, h => by
    have : s = 0 := by omega
    subst this
    simp [lotsV, subsV]
  | m + 1, s, h => by
    intro e
    simp only [lotsV, subsV, List.filter_append] at e
    obtain ⟨e1, e2⟩ := List.append_eq_nil_iff.mp e
    rcases Nat.lt_or_ge m s with z | z
    · have : s = m + 1 := by omega
      subst this
      have := subs_all m m (Nat.le_refl m)
      obtain ⟨l, hl⟩ := List.exists_mem_of_ne_nil _ this
      obtain ⟨h1, h2⟩ := List.mem_filter.mp hl
      have h2 := eq_of_beq h2
      have : l ++ [m] ∈ ((subsV m).map fun l => l ++ [m]).filter fun l => l.length == m + 1 := List.mem_filter.mpr ⟨List.mem_map_of_mem h1, by simp [h2]⟩
      rw [e2] at this
      cases this
    · exact subs_all m s z e1
theorem subs_cut (s j : Nat) : (subsV (j + 1)).filter (fun l => decide (l.length ≤ s)) = ((subsV j).filter fun l => decide (l.length ≤ s)) ++ (((subsV j).filter fun l => decide (l.length ≤ s)).filter fun l => decide (l.length < s)).map fun l => l ++ [j] := by
  simp only [subsV, List.filter_append, List.filter_map, List.filter_filter]
  congr 2
  refine List.filter_congr fun l _ => ?_
  simp only [Function.comp]
  rw [Bool.eq_iff_iff]
  simp
  omega
abbrev gLw : En → T (Fl × En) := (sSet 2 (f2 addW (gV 2) (fComp [4] (iOf lstW (gV 2)) (goName 4) (fBl (f2 ltW (fL (fCons (gV 4) fNil) lenW) (gV 1))) (fL (fStar (gV 4) (fCons (gV 3) fNil)) mkTup))))
abbrev gLo : En → T (Fl × En) := (sSet 2 (f2 addW (gV 2) (fComp [4] (iOf lstW (gV 2)) (goName 4) fYes (f2 addW (gV 4) (fL (fCons (gV 3) fNil) mkTup)))))
theorem len_lo (l : List Nat) : lenW [loW l] = .ok (nW l.length) := by simp
theorem add_lo (l : List Nat) (j : Nat) (h : l.length ≤ 900) : addW (loW l) (.tup [nW j]) = .ok (loW (l ++ [j])) := by
  have hz : sz2 l.length 1 = true := by
    unfold sz2
    exact decide_eq_true (by omega)
  simp [addW, hz]
theorem star_lo (l : List Nat) (j : Nat) (h : l.length ≤ 900) : mkTup (l.map nW ++ [nW j]) = .ok (loW (l ++ [j])) := by
  have hz : sizeOk (l.map nW ++ [nW j]) = true := size_small (by simp; omega)
  simp [hz]
theorem add_Lo (a b : List (List Nat)) (h : a.length + b.length ≤ 900) : addW (.lst (a.map loW)) (.lst (b.map loW)) = .ok (.lst ((a ++ b).map loW)) := by
  have hz : sz2 a.length b.length = true := by
    unfold sz2
    exact decide_eq_true (by omega)
  rw [List.map_append]
  simp [addW, hz]
theorem lw_step {m s j : Nat} (hm : m ≤ 6) (hj : j < m) (v0 : Sl) : gLw [v0, .val (nW s), .val (.lst (((subsV j).filter fun l => decide (l.length ≤ s)).map loW)), .val (nW j), .un] =
    .ok (.nx, [v0, .val (nW s), .val (.lst (((subsV (j + 1)).filter fun l => decide (l.length ≤ s)).map loW)), .val (nW j), .un]) := by
  have l64 := subs_64 (m := j) (by omega)
  have lf : ((subsV j).filter fun l => decide (l.length ≤ s)).length ≤ 64 := Nat.le_trans (List.length_filter_le ..) l64
  have hz : sizeOk (((subsV j).filter fun l => decide (l.length ≤ s)).map loW) = true := size_small (by rw [List.length_map]; omega)
  have c1 : compL (goName 4) (fBl (f2 ltW (fL (fCons (gV 4) fNil) lenW) (gV 1))) (fL (fStar (gV 4) (fCons (gV 3) fNil)) mkTup) [v0, .val (nW s), .val (.lst (((subsV j).filter fun l => decide (l.length ≤ s)).map loW)), .val (nW j), .un] (((subsV j).filter fun l => decide (l.length ≤ s)).map loW) = .ok (((((subsV j).filter fun l => decide (l.length ≤ s)).filter fun l => decide (l.length < s)).map fun l => l ++ [j]).map loW) := by
    rw [List.map_map]
    refine compL_filter _ _ _ _ fun l hl => ⟨_, rfl, ?_, fun _ => ?_⟩
    · simp
    · have := (subs_in j l (List.mem_filter.mp hl).1).2.2
      have st := star_lo l j (by omega)
      simp only [mkTup_eq] at st
      simp only [fL_eq, fStar_eq, fCons_eq, fNil_eq, gV_eq, List.getElem?_cons_succ, List.getElem?_cons_zero, List.set_cons_succ, List.set_cons_zero, T.bind_ok, seqW, mkTup_eq, st, Function.comp]
  have ha := add_Lo ((subsV j).filter fun l => decide (l.length ≤ s)) ((((subsV j).filter fun l => decide (l.length ≤ s)).filter fun l => decide (l.length < s)).map fun l => l ++ [j]) (by
    have : (((subsV j).filter fun l => decide (l.length ≤ s)).filter fun l => decide (l.length < s)).length ≤ ((subsV j).filter fun l => decide (l.length ≤ s)).length := List.length_filter_le ..
    rw [List.length_map]
    omega)
  rw [← subs_cut] at ha
  simp only [gLw, sSet_eq, f2_eq, fComp_eq, iOf_eq, gV_eq, lstW, List.getElem?_cons_succ, List.getElem?_cons_zero, T.bind_ok, hz, if_true, wipeE, List.foldl_cons, List.foldl_nil, List.set_cons_succ, List.set_cons_zero, c1, ha]
theorem lo_step {m j : Nat} (hm : m ≤ 6) (hj : j < m) (v0 v1 : Sl) : gLo [v0, v1, .val (.lst ((subsV j).map loW)), .val (nW j), .un] = .ok (.nx, [v0, v1, .val (.lst ((subsV (j + 1)).map loW)), .val (nW j), .un]) := by
  have l64 := subs_64 (m := j) (by omega)
  have hz : sizeOk ((subsV j).map loW) = true := size_small (by rw [List.length_map]; omega)
  have c1 : compL (goName 4) fYes (f2 addW (gV 4) (fL (fCons (gV 3) fNil) mkTup)) [v0, v1, .val (.lst ((subsV j).map loW)), .val (nW j), .un] ((subsV j).map loW) = .ok (((subsV j).map fun l => l ++ [j]).map loW) := by
    rw [List.map_map]
    refine compL_map _ _ _ fun l hl => ⟨_, rfl, rfl, ?_⟩
    have := (subs_in j l hl).2.2
    have st := add_lo l j (by omega)
    simp only [f2_eq, fL_eq, fCons_eq, fNil_eq, gV_eq, List.getElem?_cons_succ, List.getElem?_cons_zero, List.set_cons_succ, List.set_cons_zero, T.bind_ok, mkTup_eq, sizeOk_1, if_true, st, Function.comp]
  have ha := add_Lo (subsV j) ((subsV j).map fun l => l ++ [j]) (by rw [List.length_map]; omega)
  have e : subsV j ++ (subsV j).map (fun l => l ++ [j]) = subsV (j + 1) := rfl
  rw [e] at ha
  simp only [gLo, sSet_eq, f2_eq, fComp_eq, iOf_eq, gV_eq, lstW, List.getElem?_cons_succ, List.getElem?_cons_zero, T.bind_ok, hz, if_true, wipeE, List.foldl_cons, List.foldl_nil, List.set_cons_succ, List.set_cons_zero, c1, ha]
theorem lw_go {m s : Nat} (hm : m ≤ 6) (v0 : Sl) : ∀ (k j : Nat) (s3 : Sl), j + k = m →
    ∃ z3, forL (goName 3) gLw ((List.range' j k).map fun (i : Nat) => PF.W.int (i : Int)) [v0, .val (nW s), .val (.lst (((subsV j).filter fun l => decide (l.length ≤ s)).map loW)), s3, .un] = .ok (.nx, [v0, .val (nW s), .val (.lst (((subsV m).filter fun l => decide (l.length ≤ s)).map loW)), z3, .un])
  | 0, j, s3, h => by
    have : j = m := by omega
    subst this
    exact ⟨s3, rfl⟩
  | k + 1, j, s3, h => by
    obtain ⟨z3, ih⟩ := lw_go (s := s) hm v0 k (j + 1) (.val (nW j)) (by omega)
    refine ⟨z3, ?_⟩
    have g : goName 3 (nW j) [v0, .val (nW s), .val (.lst (((subsV j).filter fun l => decide (l.length ≤ s)).map loW)), s3, .un] = some [v0, .val (nW s), .val (.lst (((subsV j).filter fun l => decide (l.length ≤ s)).map loW)), .val (nW j), .un] := rfl
    rw [List.range'_succ, List.map_cons]
    unfold forL
    rw [g]
    simp only [lw_step hm (show j < m by omega), T.bind_ok]
    exact ih
theorem lo_go {m : Nat} (hm : m ≤ 6) (v0 v1 : Sl) : ∀ (k j : Nat) (s3 : Sl), j + k = m →
    ∃ z3, forL (goName 3) gLo ((List.range' j k).map fun (i : Nat) => PF.W.int (i : Int)) [v0, v1, .val (.lst ((subsV j).map loW)), s3, .un] = .ok (.nx, [v0, v1, .val (.lst ((subsV m).map loW)), z3, .un])
  | 0, j, s3, h => by
    have : j = m := by omega
    subst this
    exact ⟨s3, rfl⟩
  | k + 1, j, s3, h => by
    obtain ⟨z3, ih⟩ := lo_go hm v0 v1 k (j + 1) (.val (nW j)) (by omega)
    refine ⟨z3, ?_⟩
    have g : goName 3 (nW j) [v0, v1, .val (.lst ((subsV j).map loW)), s3, .un] = some [v0, v1, .val (.lst ((subsV j).map loW)), .val (nW j), .un] := rfl
    rw [List.range'_succ, List.map_cons]
    unfold forL
    rw [g]
    simp only [lo_step hm (show j < m by omega), T.bind_ok]
    exact ih
theorem toD_lo (l : List Nat) : (loW l).toD = some (.tuple (l.map fun (k : Nat) => PyData.int (k : Int))) := by
  have e : toDs (l.map nW) = some (l.map fun (k : Nat) => PyData.int (k : Int)) := toDs_map nW (fun (k : Nat) => PyData.int (k : Int)) l fun a _ => rfl
  show (toDs (l.map nW)).map PyData.tuple = _
  rw [e]
  rfl
theorem ints_of_nats (l : List Nat) : (l.map fun (k : Nat) => PyData.int (k : Int)) = (l.map fun (k : Nat) => (k : Int)).map PyData.int := by
  rw [List.map_map]
  rfl
theorem sorted_lo {s : Nat} {L : List (List Nat)} (hs : 1 ≤ s) (hL : ∀ l ∈ L, l.length = s) (hne : L ≠ []) : ∃ L' : List (List Nat), L'.Perm L ∧ sortedV [.lst (L.map loW)] = .ok (.lst (L'.map loW)) := by
  have ok : okD (L.map fun l => PyData.tuple (l.map fun (k : Nat) => PyData.int (k : Int))) = true := by
    unfold okD
    rw [Bool.and_eq_true, Bool.and_eq_true]
    refine ⟨?_, ?_, ?_⟩
    · refine List.all_eq_true.mpr fun d hd => ?_
      obtain ⟨l, hl, rfl⟩ := List.mem_map.mp hd
      have := hL l hl
      cases l with
      | nil => simp at this; omega
      | cons a l => rfl
    · refine List.all_eq_true.mpr fun d hd => List.all_eq_true.mpr fun e he => ?_
      obtain ⟨l, _, rfl⟩ := List.mem_map.mp hd
      obtain ⟨l', _, rfl⟩ := List.mem_map.mp he
      rw [ints_of_nats, ints_of_nats]
      exact PySem.W.alike_ints _ _
    · refine List.all_eq_true.mpr fun d hd => ?_
      obtain ⟨l, _, rfl⟩ := List.mem_map.mp hd
      have := PySem.W.depth_ints (l.map fun (k : Nat) => (k : Int))
      refine decide_eq_true ?_
      rw [ints_of_nats]
      simp only [PyData.depth]
      omega
  obtain ⟨L', h1, h2⟩ := sortP_perm loW (fun l => PyData.tuple (l.map fun (k : Nat) => PyData.int (k : Int))) L (fun l _ => toD_lo l) ok
  refine ⟨L', h1, ?_⟩
  rw [← h2]
  cases L with
  | nil => exact absurd rfl hne
  | cons l L =>
    have := hL l (by simp)
    cases l with
    | nil => simp at this; omega
    | cons a l => rfl
theorem sorted_lots {m s : Nat} (h : s ≤ m) : ∃ L' : List (List Nat), L'.Perm (lotsV m s) ∧ sortedV [.lst ((lotsV m s).map loW)] = .ok (.lst (L'.map loW)) := by
  rcases Nat.eq_zero_or_pos s with z | z
  · subst z
    have e : lotsV m 0 = [[]] := subs_nil m
    rw [e]
    exact ⟨[[]], .refl _, rfl⟩
  · exact sorted_lo z (fun l hl => eq_of_beq (List.mem_filter.mp hl).2) (subs_all m s h)
theorem eq_len (l : List Nat) (s : Nat) : (((l.length : Nat) : Int) == (s : Int)) = (l.length == s) := by
  rw [Bool.eq_iff_iff, beq_iff_eq, beq_iff_eq]
  omega
theorem lots_run {m s : Nat} (hm : m ≤ 6) (h : s ≤ m) : ∃ L' : List (List Nat), L'.Perm (lotsV m s) ∧ F_lots_with [nW m, nW s] = .ok (.lst (L'.map loW)) ∧ F__law_lots [nW m, nW s] = .ok (.lst (L'.map loW)) := by
  obtain ⟨L', h1, h2⟩ := sorted_lots h
  have l64 := subs_64 hm
  have s0 : mkLst [.tup []] = .ok (.lst [.tup []]) := by simp
  refine ⟨L', h1, ?_, ?_⟩
  · have hs : startE 5 [nW m, nW s] = [.val (nW m), .val (nW s), .un, .un, .un] := rfl
    obtain ⟨z3, e⟩ := lw_go (s := s) hm (.val (nW m)) m 0 .un (by omega)
    have e0 : ((subsV 0).filter fun l => decide (l.length ≤ s)).map loW = [.tup []] := by simp [subsV]
    rw [e0] at e
    have lf : ((subsV m).filter fun l => decide (l.length ≤ s)).length ≤ 64 := Nat.le_trans (List.length_filter_le ..) l64
    have hz : sizeOk (((subsV m).filter fun l => decide (l.length ≤ s)).map loW) = true := size_small (by rw [List.length_map]; omega)
    have c1 : compL (goName 4) (fBl (f2 eqS (fL (fCons (gV 4) fNil) lenW) (gV 1))) (gV 4) [.val (nW m), .val (nW s), .val (.lst (((subsV m).filter fun l => decide (l.length ≤ s)).map loW)), z3, .un] (((subsV m).filter fun l => decide (l.length ≤ s)).map loW) = .ok ((lotsV m s).map loW) := by
      have el : lotsV m s = ((subsV m).filter fun l => decide (l.length ≤ s)).filter fun l => l.length == s := by
        unfold lotsV
        rw [List.filter_filter]
        refine List.filter_congr fun l _ => ?_
        rw [Bool.eq_iff_iff]
        simp
        omega
      rw [el]
      refine compL_filter _ _ _ _ fun l hl => ⟨_, rfl, ?_, fun _ => by simp⟩
      simp only [fBl_eq, f2_eq, fL_eq, fCons_eq, fNil_eq, gV_eq, List.getElem?_cons_succ, List.getElem?_cons_zero, List.set_cons_succ, List.set_cons_zero, T.bind_ok, len_lo, eqS_int, eq_len, blW_bl]
    simp only [gLw] at e
    simp only [F_lots_with, defF, hs, List.length_cons, List.length_nil, if_true, sSeq_eq, sSet_eq, fL_eq, fCons_eq, fNil_eq, T.bind_ok, mkTup_eq, sizeOk_nil, s0, List.set_cons_succ, List.set_cons_zero, sFor_eq, iL_eq, gV_eq, List.getElem?_cons_succ, List.getElem?_cons_zero, rng_nat (show m ≤ 1000 by omega), e, sRet_eq, fComp_eq, iOf_eq, lstW, hz, wipeE, List.foldl_cons, List.foldl_nil, c1, h2]
    rfl
  · have hs : startE 5 [nW m, nW s] = [.val (nW m), .val (nW s), .un, .un, .un] := rfl
    obtain ⟨z3, e⟩ := lo_go hm (.val (nW m)) (.val (nW s)) m 0 .un (by omega)
    have e0 : (subsV 0).map loW = [.tup []] := rfl
    rw [e0] at e
    have hz : sizeOk ((subsV m).map loW) = true := size_small (by rw [List.length_map]; omega)
    have c1 : compL (goName 4) (fBl (f2 eqS (fL (fCons (gV 4) fNil) lenW) (gV 1))) (gV 4) [.val (nW m), .val (nW s), .val (.lst ((subsV m).map loW)), z3, .un] ((subsV m).map loW) = .ok ((lotsV m s).map loW) := by
      unfold lotsV
      refine compL_filter _ _ _ _ fun l hl => ⟨_, rfl, ?_, fun _ => by simp⟩
      simp only [fBl_eq, f2_eq, fL_eq, fCons_eq, fNil_eq, gV_eq, List.getElem?_cons_succ, List.getElem?_cons_zero, List.set_cons_succ, List.set_cons_zero, T.bind_ok, len_lo, eqS_int, eq_len, blW_bl]
    simp only [gLo] at e
    simp only [F__law_lots, defF, hs, List.length_cons, List.length_nil, if_true, sSeq_eq, sSet_eq, fL_eq, fCons_eq, fNil_eq, T.bind_ok, mkTup_eq, sizeOk_nil, s0, List.set_cons_succ, List.set_cons_zero, sFor_eq, iL_eq, gV_eq, List.getElem?_cons_succ, List.getElem?_cons_zero, rng_nat (show m ≤ 1000 by omega), e, sRet_eq, fComp_eq, iOf_eq, lstW, hz, wipeE, List.foldl_cons, List.foldl_nil, c1, h2]
    rfl
end Lw
namespace Lw
open PySem L2 PF Rt
theorem pw_zip : ∀ {xs : List Nat}, xs.Pairwise (· < ·) → ∀ q ∈ xs.zip (xs.drop 1), q.1 < q.2
  | [], _, q, hq => by cases hq
  | [a], _, q, hq => by cases hq
  | a :: b :: xs, h, q, hq => by
    obtain ⟨h1, h2⟩ := List.pairwise_cons.mp h
    rcases List.mem_cons.mp hq with e | hq
    · rw [e]
      exact h1 b (by simp)
    · exact pw_zip h2 q hq
theorem cut_dn1 {α : Type} (f : α → PF.W) (ms : List α) : cutW (ms.map f) (some 1) none = (ms.drop 1).map f := by
  cases ms with
  | nil => rfl
  | cons a ms =>
    unfold cutW
    have e : HT.sIx ((a :: ms).map f).length 0 (some 1) = 1 := by
      unfold HT.sIx
      simp
    have e2 : HT.sIx ((a :: ms).map f).length ((a :: ms).map f).length none = ((a :: ms).map f).length := rfl
    rw [e, e2]
    simp
    exact List.take_of_length_le (by simp)
theorem zipF_nats : ∀ (a b : List Nat), zipF (a.map nW) (b.map nW) = (a.zip b).map fun q => PF.W.tup [nW q.1, nW q.2]
  | [], _ => by cases ‹List Nat› <;> rfl
  | _ :: _, [] => rfl
  | x :: a, y :: b => by
    have := zipF_nats a b
    simp only [List.map_cons, zipF, List.zip_cons_cons] at this ⊢
    rw [this]
theorem rising_run {l : List Nat} (h : l.Pairwise (· < ·)) (hl : l.length ≤ 900) : F_are_rising [loW l] = .ok (.bl true) := by
  have hs : startE 3 [loW l] = [.val (loW l), .un, .un] := rfl
  have sl : slW (loW l) (some 1) none = .ok (loW (l.drop 1)) := by
    show T.ok (PF.W.tup (cutW (l.map nW) (some 1) none)) = _
    rw [cut_dn1]
  have hz : sizeOk ((l.zip (l.drop 1)).map fun q => PF.W.tup [nW q.1, nW q.2]) = true := size_small (by simp; omega)
  have zp : zpW [loW l, loW (l.drop 1)] = .ok ((l.zip (l.drop 1)).map fun q => PF.W.tup [nW q.1, nW q.2]) := by
    have : zpW [loW l, loW (l.drop 1)] = .ok (zipF (l.map nW) ((l.drop 1).map nW)) := rfl
    rw [this, zipF_nats]
  have c1 : compL (goTup 2 (goCons (goName 1) (goCons (goName 2) goNil))) fYes (f2 ltW (gV 1) (gV 2)) [.val (loW l), .un, .un] ((l.zip (l.drop 1)).map fun q => PF.W.tup [nW q.1, nW q.2]) = .ok ((l.zip (l.drop 1)).map fun q => PF.W.bl (decide ((q.1 : Int) < (q.2 : Int)))) := by
    refine compL_map _ _ _ fun q _ => ⟨_, rfl, rfl, ?_⟩
    simp
  have ha := all_bls (as := l.zip (l.drop 1)) (t := fun q => decide ((q.1 : Int) < (q.2 : Int))) fun q hq => decide_eq_true (by have := pw_zip h q hq; omega)
  simp only [F_are_rising, defF, hs, List.length_cons, List.length_nil, if_true, sRet_eq, fL_eq, fCons_eq, fNil_eq, fComp_eq, iL_eq, fSl_eq, pNo_eq, pSome_eq, pInt, gV_eq, List.getElem?_cons_succ, List.getElem?_cons_zero, T.bind_ok, sl, zp, hz, wipeE, List.foldl_cons, List.foldl_nil, List.set_cons_succ, List.set_cons_zero, c1, ha]
  rfl
section
variable {p : Int} {n : Nat} {c : List (List (List Int))} {lot : List Nat}
theorem islot_run (h : Cd p n c) (hl : Lt c lot) : F_is_lot_of [cW p n c, loW lot] = .ok (.bl true) := by
  have h6 := hl.len
  have hs : startE 3 [cW p n c, loW lot] = [.val (cW p n c), .val (loW lot), .un] := rfl
  have hz : sizeOk (lot.map nW) = true := size_small (by simp; omega)
  have ec : lenW [.tup (c.map lW)] = .ok (.int (c.length : Int)) := by simp
  have c1 : compL (goName 2) fYes (fL (fCons (gV 2) (fCons (fun _ => .ok (.int 0)) (fCons (f2 subW (fL (fCons (f2 ixW (gV 0) (fun _ => .ok (.int 2))) fNil) lenW) (fun _ => .ok (.int 1))) fNil))) F_is_between) [.val (cW p n c), .val (loW lot), .un] (lot.map nW) = .ok (lot.map fun (k : Nat) => PF.W.bl (decide ((0 : Int) ≤ (k : Int)) && decide ((k : Int) ≤ (c.length : Int) - 1))) := by
    refine compL_map _ _ _ fun k hk => ⟨_, rfl, rfl, ?_⟩
    simp only [fL_eq, fCons_eq, fNil_eq, f2_eq, gV_eq, List.getElem?_cons_succ, List.getElem?_cons_zero, List.set_cons_succ, List.set_cons_zero, T.bind_ok, ix_c2, ec, subW_int, between_run]
  have ha := all_bls (as := lot) (t := fun (k : Nat) => decide ((0 : Int) ≤ (k : Int)) && decide ((k : Int) ≤ (c.length : Int) - 1)) fun k hk => by
    have := hl.lt k hk
    rw [Bool.and_eq_true]
    exact ⟨decide_eq_true (by omega), decide_eq_true (by omega)⟩
  have hr := rising_run hl.up (by omega)
  simp only [F_is_lot_of, defF, hs, List.length_cons, List.length_nil, if_true, sSeq_eq, sIf_eq, fOr_eq, fNot_eq, fTru_eq, f1_eq, fL_eq, fCons_eq, fNil_eq, fComp_eq, iOf_eq, gV_eq, List.getElem?_cons_succ, List.getElem?_cons_zero, T.bind_ok, tup_is, truW_bl, Bool.not_true, Bool.false_eq_true, if_false, tupW, hz, wipeE, List.foldl_cons, List.foldl_nil, List.set_cons_succ, List.set_cons_zero, c1, ha, sNil_eq, sRet_eq, hr]
  rfl
theorem needlot_run (h : Cd p n c) (hl : Lt c lot) : F_need_lot_of [cW p n c, loW lot] = .ok .non := by
  have hs : startE 2 [cW p n c, loW lot] = [.val (cW p n c), .val (loW lot)] := rfl
  simp only [F_need_lot_of, defF, hs, List.length_cons, List.length_nil, if_true, sIf_eq, fNot_eq, fTru_eq, fL_eq, fCons_eq, fNil_eq, gV_eq, List.getElem?_cons_succ, List.getElem?_cons_zero, T.bind_ok, islot_run h hl, truW_bl, Bool.not_true, Bool.false_eq_true, if_false, sNil_eq]
  rfl
theorem asked {f : List PF.W → T PF.W} {r : PF.W} (h : Cd p n c) (hl : Lt c lot) (hf : f [cW p n c, loW lot] = .ok r) : defF 2 2 (sSeq (sExpr (fL (fCons (fL (fCons (gV 0) fNil) F_need_code) (fCons (gV 1) fNil)) F_need_lot_of)) (sRet (fL (fCons (gV 0) (fCons (gV 1) fNil)) f))) [cW p n c, loW lot] = .ok r := by
  have hs : startE 2 [cW p n c, loW lot] = [.val (cW p n c), .val (loW lot)] := rfl
  simp only [defF, hs, List.length_cons, List.length_nil, if_true, sSeq_eq, sExpr_eq, fL_eq, fCons_eq, fNil_eq, gV_eq, List.getElem?_cons_succ, List.getElem?_cons_zero, T.bind_ok, need_run h, needlot_run h hl, sRet_eq, hf]
  rfl
end
/-- how many first signs a lot tells -/
def toldV (P n : Nat) (c : List (List (List Int))) (lot : List Nat) : Nat := toldF n ((rowsOf c lot).foldl (stepR (P : Int)) [])
section
variable {P : Nat} [NeZero P] {n : Nat} {c : List (List (List Int))} {lot : List Nat} {F : List (Nat × List Int)}
theorem Lo.tv (h : Cd (P : Int) n c) (hl : Lt c lot) (o : Lo P n c lot F) : toldF n F = toldV P n c lot := by
  have p0 : (0 : Int) < (P : Int) := by have := h.pr.b; omega
  have hr := rows_rw h hl
  have f0 := fold_fw (p := (P : Int)) (F := []) p0 hr (fun q hq => by cases hq)
  have rr := fold_RRf h.pr (R := []) (F := []) hr (fun q hq => by cases hq) RRf.nil
  simp only [List.nil_append] at rr
  have t2 := toldG_is (toldK_is h.pr rr f0) (toldK_out h.pr rr f0) (n + 1) 0 (by omega) (by omega) fun i hi => absurd hi (by omega)
  exact tl_uniq (o.tl h).1 t2.1
theorem tell_run (h : Cd (P : Int) n c) (hl : Lt c lot) : F_told_in [cW P n c, loW lot] = .ok (nW (toldV P n c lot)) ∧ F__law_reach [cW P n c, loW lot] = .ok (nW (toldV P n c lot)) ∧ F_told [cW P n c, loW lot] = .ok (nW (toldV P n c lot)) := by
  obtain ⟨F, o⟩ := Lo.ex h hl
  rw [← o.tv h hl]
  exact ⟨told_run h hl o, reach_run h hl o, asked h hl (told_run h hl o)⟩
theorem cont_run (h : Cd (P : Int) n c) (hl : Lt c lot) : ∃ k : Nat, F_content [cW P n c, loW lot] = .ok (nW k) ∧ F__law_forms [cW P n c, loW lot] = .ok (.lst ((rowsOf c lot).map LI)) ∧ F__law_rank [.int (P : Int), .lst ((rowsOf c lot).map LI)] = .ok (nW k) := by
  obtain ⟨F, o⟩ := Lo.ex h hl
  have h12 := h.n12
  have := rows_len h hl
  exact ⟨_, asked h hl (content_run h hl o), forms_run h hl, rank_run h.pr (by omega) (rows_rw h hl) (by omega)⟩
theorem shown_run (h : Cd (P : Int) n c) (hl : Lt c lot) : toldV P n c lot = n ∧ F_witness [cW P n c, loW lot] = .ok .non ∨ toldV P n c lot ≠ n ∧ ∃ w : List Int, F_witness [cW P n c, loW lot] = .ok (TI w) ∧ F__law_is_witness [cW P n c, loW lot, TI w] = .ok (.bl true) := by
  obtain ⟨F, o⟩ := Lo.ex h hl
  have := (o.tl h).2
  have w := asked h hl (wit_run h hl o)
  rw [← o.tv h hl]
  by_cases e : toldF n F = n
  · rw [if_pos e] at w
    exact .inl ⟨e, w⟩
  · rw [if_neg e] at w
    exact .inr ⟨e, _, w, iw_run h hl o (by omega)⟩
end
theorem minN_is : ∀ (ns : List Nat) (n : Nat), ns.foldl min n ≤ n ∧ (∀ y ∈ ns, ns.foldl min n ≤ y) ∧ (ns.foldl min n = n ∨ ns.foldl min n ∈ ns)
  | [], n => ⟨Nat.le_refl _, fun y h => (by cases h), .inl rfl⟩
  | m :: ns, n => by
    obtain ⟨h1, h2, h3⟩ := minN_is ns (min n m)
    rw [List.foldl_cons]
    refine ⟨by omega, fun y hy => ?_, ?_⟩
    · rcases List.mem_cons.mp hy with rfl | hy
      · omega
      · exact h2 y hy
    · rcases h3 with h3 | h3
      · rcases Nat.le_total n m with z | z
        · exact .inl (by omega)
        · exact .inr (by rw [h3, Nat.min_eq_right z]; exact List.mem_cons_self)
      · exact .inr (List.mem_cons_of_mem _ h3)
def minV : List Nat → Nat
  | [] => 0
  | x :: xs => xs.foldl min x
theorem minV_is {ns : List Nat} (h : ns ≠ []) : minV ns ∈ ns ∧ ∀ y ∈ ns, minV ns ≤ y := by
  cases ns with
  | nil => exact absurd rfl h
  | cons x xs =>
    obtain ⟨h1, h2, h3⟩ := minN_is xs x
    refine ⟨?_, fun y hy => ?_⟩
    · rcases h3 with e | e
      · show xs.foldl min x ∈ _
        rw [e]
        exact List.mem_cons_self
      · exact List.mem_cons_of_mem _ e
    · rcases List.mem_cons.mp hy with rfl | hy
      · exact h1
      · exact h2 y hy
theorem minV_uniq {ns : List Nat} {v : Nat} (h1 : v ∈ ns) (h2 : ∀ y ∈ ns, v ≤ y) : v = minV ns := by
  obtain ⟨g1, g2⟩ := minV_is (ns := ns) fun e => by rw [e] at h1; cases h1
  have := h2 _ g1
  have := g2 _ h1
  omega
theorem min_nats {α : Type} {as : List α} (t : α → Nat) (h : as ≠ []) : minQ [.lst (as.map fun a => nW (t a))] = .ok (nW (minV (as.map t))) := by
  cases as with
  | nil => exact absurd rfl h
  | cons a as =>
    have e : minQ [.lst ((a :: as).map fun a => nW (t a))] = minW [.lst ((a :: as).map fun a => nW (t a))] := rfl
    have e2 : (a :: as).map (fun a => nW (t a)) = ((a :: as).map fun a => (t a : Int)).map PF.W.int := by rw [List.map_map]; rfl
    rw [e, e2]
    simp only [minW, intsW_of]
    simp only [List.map_cons]
    show T.ok (PF.W.int ((as.map fun a => (t a : Int)).foldl min (t a : Int))) = T.ok (PF.W.int (((as.map t).foldl min (t a) : Nat) : Int))
    refine congrArg (fun i => T.ok (PF.W.int i)) ?_
    obtain ⟨h1, h2, h3⟩ := foldl_min_le (as.map fun a => (t a : Int)) (t a : Int)
    obtain ⟨g1, g2, g3⟩ := minN_is (as.map t) (t a)
    have key : ∀ y ∈ as.map t, (as.map fun a => (t a : Int)).foldl min (t a : Int) ≤ (y : Int) := fun y hy => by
      obtain ⟨b, hb, rfl⟩ := List.mem_map.mp hy
      exact h2 _ (List.mem_map_of_mem (f := fun a => (t a : Int)) hb)
    have key2 : (((as.map t).foldl min (t a) : Nat) : Int) ≤ (as.map fun a => (t a : Int)).foldl min (t a : Int) := by
      rcases h3 with e | e
      · rw [e]
        omega
      · obtain ⟨b, hb, e⟩ := List.mem_map.mp e
        rw [← e]
        have := g2 _ (List.mem_map_of_mem (f := t) hb)
        omega
    have key3 : (as.map fun a => (t a : Int)).foldl min (t a : Int) ≤ (((as.map t).foldl min (t a) : Nat) : Int) := by
      rcases g3 with e | e
      · rw [e]
        exact h1
      · exact key _ e
    omega
theorem lt_key {x y : Int} {r s : PyData} (h : PySem.W.alike r s = true) : (PySem.W.dataLt (.tuple [.int x, r]) (.tuple [.int y, s]) = true → x ≤ y) ∧ (PySem.W.dataLt (.tuple [.int x, r]) (.tuple [.int y, s]) = false → y ≤ x) := by
  have ha : PySem.W.alike (.int x) (.int y) = true := rfl
  rw [PySem.W.dataLt_pair ha h]
  by_cases e : x = y
  · subst e
    exact ⟨fun _ => Int.le_refl _, fun _ => Int.le_refl _⟩
  · have ee : PyData.eqv (.int x) (.int y) = false := by
      simp [PyData.eqv, e]
    rw [ee, PySem.W.dataLt_int]
    simp only [Bool.false_eq_true, if_false, decide_eq_true_iff, decide_eq_false_iff_not]
    omega
theorem pick_is {α : Type} (as : List α) (k : α → Int) (r : α → PyData) (ha : ∀ a ∈ as, ∀ b ∈ as, PySem.W.alike (r a) (r b) = true) (hne : as ≠ []) :
    ∃ a ∈ as, as[pickM (as.map fun a => PyData.tuple [.int (k a), r a])]? = some a ∧ ∀ b ∈ as, k a ≤ k b := by
  have hd : ∀ i (hi : i < as.length), (as.map fun a => PyData.tuple [.int (k a), r a]).getD i .none = PyData.tuple [.int (k as[i]), r as[i]] := fun i hi => by
    simp [List.getD_eq_getElem?_getD, hi]
  have go : ∀ m, m < as.length → ∃ j, argBest (fun i j => PySem.W.dataLt ((as.map fun a => PyData.tuple [.int (k a), r a]).getD i .none) ((as.map fun a => PyData.tuple [.int (k a), r a]).getD j .none)) m = j ∧ ∃ hj : j < as.length, ∀ i (hi : i < as.length), i ≤ m → k as[j] ≤ k as[i] := by
    intro m
    induction m with
    | zero =>
      intro hm
      exact ⟨0, rfl, hm, fun i hi hl => by
        have : i = 0 := by omega
        subst this
        exact Int.le_refl _⟩
    | succ m ih =>
      intro hm
      obtain ⟨j, e, hj, hk⟩ := ih (by omega)
      have lk := lt_key (x := k as[m + 1]) (y := k as[j]) (ha as[m + 1] (List.getElem_mem _) as[j] (List.getElem_mem _))
      cases hb : PySem.W.dataLt (PyData.tuple [.int (k as[m + 1]), r as[m + 1]]) (PyData.tuple [.int (k as[j]), r as[j]]) with
      | true =>
        refine ⟨m + 1, ?_, hm, fun i hi hl => ?_⟩
        · simp only [argBest]
          rw [e]
          exact if_pos (by
            show PySem.W.dataLt (List.getD _ (m + 1) _) (List.getD _ j _) = true
            rw [hd _ hm, hd _ hj]
            exact hb)
        · rcases Nat.lt_or_ge i (m + 1) with z | z
          · exact Int.le_trans (lk.1 hb) (hk i hi (by omega))
          · have : i = m + 1 := by omega
            subst this
            exact Int.le_refl _
      | false =>
        refine ⟨j, ?_, hj, fun i hi hl => ?_⟩
        · simp only [argBest]
          rw [e]
          exact if_neg (by
            show ¬ PySem.W.dataLt (List.getD _ (m + 1) _) (List.getD _ j _) = true
            rw [hd _ hm, hd _ hj, hb]
            decide)
        · rcases Nat.lt_or_ge i (m + 1) with z | z
          · exact hk i hi (by omega)
          · have : i = m + 1 := by omega
            subst this
            exact lk.2 hb
  have hl : 0 < as.length := List.length_pos_iff.mpr hne
  obtain ⟨j, e, hj, hk⟩ := go (as.length - 1) (by omega)
  have ep : pickM (as.map fun a => PyData.tuple [.int (k a), r a]) = j := by
    unfold pickM
    rw [List.length_map]
    exact e
  refine ⟨as[j], List.getElem_mem _, by rw [ep]; exact List.getElem?_eq_getElem hj, fun b hb => ?_⟩
  obtain ⟨i, hi, rfl⟩ := List.mem_iff_getElem.mp hb
  exact hk i hi (by omega)
abbrev prW (t : List Nat → Nat) (l : List Nat) : PF.W := .tup [nW (t l), loW l]
theorem min_pairs (t : List Nat → Nat) {L : List (List Nat)} (h : L ≠ []) : ∃ l ∈ L, minQ [.lst (L.map (prW t))] = .ok (prW t l) ∧ t l = minV (L.map t) := by
  have hd : ∀ l ∈ L, (prW t l).toD = some (PyData.tuple [.int (t l : Int), .tuple (l.map fun (k : Nat) => PyData.int (k : Int))]) := fun l _ => by
    show (toDs [nW (t l), loW l]).map PyData.tuple = _
    have e1 : (nW (t l)).toD = some (.int (t l : Int)) := rfl
    simp only [toDs, e1, toD_lo, Option.map_some]
  have al : ∀ a b : List Nat, PySem.W.alike (.tuple (a.map fun (k : Nat) => PyData.int (k : Int))) (.tuple (b.map fun (k : Nat) => PyData.int (k : Int))) = true := fun a b => by
    rw [ints_of_nats, ints_of_nats]
    exact PySem.W.alike_ints _ _
  obtain ⟨a, ha, e, hk⟩ := pick_is L (fun l => (t l : Int)) (fun l => .tuple (l.map fun (k : Nat) => PyData.int (k : Int))) (fun a _ b _ => al a b) h
  have ok : okM (L.map fun l => PyData.tuple [.int (t l : Int), .tuple (l.map fun (k : Nat) => PyData.int (k : Int))]) = true := by
    unfold okM
    rw [Bool.and_eq_true, Bool.and_eq_true]
    refine ⟨?_, ?_, decide_eq_true ?_⟩
    · refine List.all_eq_true.mpr fun d hd => ?_
      obtain ⟨l, _, rfl⟩ := List.mem_map.mp hd
      rfl
    · refine List.all_eq_true.mpr fun d hd => List.all_eq_true.mpr fun e he => ?_
      obtain ⟨l, _, rfl⟩ := List.mem_map.mp hd
      obtain ⟨l', _, rfl⟩ := List.mem_map.mp he
      have h1 : PySem.W.alike (.int (t l : Int)) (.int (t l' : Int)) = true := rfl
      show PySem.W.alikeAll [_, _] [_, _] = true
      simp only [PySem.W.alikeAll, h1, al, Bool.and_self]
    · have : ∀ M : List (List Nat), PyData.depthAll (M.map fun l => PyData.tuple [.int (t l : Int), .tuple (l.map fun (k : Nat) => PyData.int (k : Int))]) ≤ 60 := by
        intro M
        induction M with
        | nil => simp [PyData.depthAll]
        | cons l M ih =>
          have := PySem.W.depth_ints (l.map fun (k : Nat) => (k : Int))
          rw [List.map_cons, ints_of_nats]
          simp only [PyData.depthAll, PyData.depth]
          omega
      exact this L
  have em : minQ [.lst (L.map (prW t))] = minP [.lst (L.map (prW t))] := by
    cases L with
    | nil => exact absurd rfl h
    | cons l L => rfl
  refine ⟨a, ha, ?_, minV_uniq (List.mem_map_of_mem ha) fun y hy => ?_⟩
  · rw [em]
    have eg : (L.map (prW t))[pickM (L.map fun l => PyData.tuple [.int (t l : Int), .tuple (l.map fun (k : Nat) => PyData.int (k : Int))])]? = some (prW t a) := by
      rw [List.getElem?_map, e]
      rfl
    simp only [minP, toDs_map (prW t) _ L hd, ok, if_true, eg]
  · obtain ⟨b, hb, rfl⟩ := List.mem_map.mp hy
    have := hk b hb
    omega
end Lw
namespace Lw
open PySem L2 PF Rt
def mnV (P n : Nat) (c : List (List (List Int))) (s : Nat) : Nat := minV ((lotsV c.length s).map (toldV P n c))
def profV (P n : Nat) (c : List (List (List Int))) : List Nat := (List.range' 1 c.length).map (mnV P n c)
theorem minV_perm {a b : List Nat} (h : a.Perm b) (hne : a ≠ []) : minV a = minV b := by
  obtain ⟨h1, h2⟩ := minV_is hne
  exact minV_uniq (h.mem_iff.mp h1) fun y hy => h2 y (h.mem_iff.mpr hy)
section
variable {P : Nat} [NeZero P] {n : Nat} {c : List (List (List Int))}
theorem lot_ok {p : Int} (h : Cd p n c) {s : Nat} {l : List Nat} (hl : l ∈ lotsV c.length s) : Lt c l := by
  obtain ⟨h1, h2, h3⟩ := subs_in _ l (List.mem_filter.mp hl).1
  exact ⟨h1, h2, by have := h.l6; omega⟩
theorem rng1m {m : Nat} (h : m ≤ 1000) : rng2 [.int 1, .int ((m : Int) + 1)] = .ok ((List.range' 1 m).map nW) := by
  have a1 : rngOk 1 = true := rngOk_is (by decide) (by decide)
  have a2 : rngOk ((m : Int) + 1) = true := rngOk_is (by omega) (by omega)
  have e : ((m : Int) + 1 - 1).toNat = m := by omega
  have := ints_nat 1 m
  have e1 : ((1 : Nat) : Int) = 1 := rfl
  rw [e1] at this
  simp only [rng2, a1, a2, Bool.and_self, if_true, e, this]
theorem pair_run (h : Cd (P : Int) n c) {s : Nat} (hs : 1 ≤ s ∧ s ≤ c.length) (v0 s3 : Sl) : ∃ l, (fL (fCons (fComp [3] (iOf lstW (fL (fCons (gV 1) (fCons (gV 2) fNil)) F_lots_with)) (goName 3) fYes (fL (fCons (fL (fCons (gV 0) (fCons (gV 3) fNil)) F_told_in) (fCons (gV 3) fNil)) mkTup)) fNil) minQ) [.val (cW P n c), .val (nW c.length), .val (nW s), .un] = .ok (.tup [nW (mnV P n c s), loW l]) := by
  have h6 := h.l6
  obtain ⟨L', h1, h2, _⟩ := lots_run h6 hs.2
  have hne : L' ≠ [] := fun e => subs_all _ _ hs.2 (by rw [e] at h1; exact h1.symm.eq_nil)
  obtain ⟨l, hl, e1, e2⟩ := min_pairs (toldV P n c) hne
  have hz : sizeOk (L'.map loW) = true := size_small (by
    have : L'.length ≤ 64 := by
      rw [h1.length_eq]
      exact Nat.le_trans (List.length_filter_le ..) (subs_64 h6)
    rw [List.length_map]
    omega)
  have c1 : compL (goName 3) fYes (fL (fCons (fL (fCons (gV 0) (fCons (gV 3) fNil)) F_told_in) (fCons (gV 3) fNil)) mkTup) [.val (cW P n c), .val (nW c.length), .val (nW s), .un] (L'.map loW) = .ok (L'.map (prW (toldV P n c))) := by
    refine compL_map _ _ _ fun l hl => ⟨_, rfl, rfl, ?_⟩
    have t := (tell_run h (lot_ok h (h1.mem_iff.mp hl))).1
    simp only [fL_eq, fCons_eq, fNil_eq, gV_eq, List.getElem?_cons_succ, List.getElem?_cons_zero, List.set_cons_succ, List.set_cons_zero, T.bind_ok, t, mkTup_eq, sizeOk_2, if_true]
  have e3 : minV (L'.map (toldV P n c)) = mnV P n c s := minV_perm (h1.map _) (by simpa using hne)
  refine ⟨l, ?_⟩
  simp only [fL_eq, fCons_eq, fNil_eq, fComp_eq, iOf_eq, gV_eq, List.getElem?_cons_succ, List.getElem?_cons_zero, T.bind_ok, h2, lstW, hz, if_true, wipeE, List.foldl_cons, List.foldl_nil, List.set_cons_succ, List.set_cons_zero, c1, e1]
  rw [prW, e2, e3]
theorem least_run (h : Cd (P : Int) n c) {s : Nat} (hs : 1 ≤ s ∧ s ≤ c.length) : (fL (fCons (fComp [3] (iOf lstW (fL (fCons (gV 1) (fCons (gV 2) fNil)) F__law_lots)) (goName 3) fYes (fL (fCons (gV 0) (fCons (gV 3) fNil)) F__law_reach)) fNil) minQ) [.val (cW P n c), .val (nW c.length), .val (nW s), .un] = .ok (nW (mnV P n c s)) := by
  have h6 := h.l6
  obtain ⟨L', h1, _, h2⟩ := lots_run h6 hs.2
  have hne : L' ≠ [] := fun e => subs_all _ _ hs.2 (by rw [e] at h1; exact h1.symm.eq_nil)
  have hz : sizeOk (L'.map loW) = true := size_small (by
    have : L'.length ≤ 64 := by
      rw [h1.length_eq]
      exact Nat.le_trans (List.length_filter_le ..) (subs_64 h6)
    rw [List.length_map]
    omega)
  have c1 : compL (goName 3) fYes (fL (fCons (gV 0) (fCons (gV 3) fNil)) F__law_reach) [.val (cW P n c), .val (nW c.length), .val (nW s), .un] (L'.map loW) = .ok (L'.map fun l => nW (toldV P n c l)) := by
    refine compL_map _ _ _ fun l hl => ⟨_, rfl, rfl, ?_⟩
    have t := (tell_run h (lot_ok h (h1.mem_iff.mp hl))).2.1
    simp only [fL_eq, fCons_eq, fNil_eq, gV_eq, List.getElem?_cons_succ, List.getElem?_cons_zero, List.set_cons_succ, List.set_cons_zero, T.bind_ok, t]
  have e3 : minV (L'.map (toldV P n c)) = mnV P n c s := minV_perm (h1.map _) (by simpa using hne)
  have e1 := min_nats (toldV P n c) hne
  rw [e3] at e1
  simp only [fL_eq, fCons_eq, fNil_eq, fComp_eq, iOf_eq, gV_eq, List.getElem?_cons_succ, List.getElem?_cons_zero, T.bind_ok, h2, lstW, hz, if_true, wipeE, List.foldl_cons, List.foldl_nil, List.set_cons_succ, List.set_cons_zero, c1, e1]
theorem in_rng {m s : Nat} (h : s ∈ List.range' 1 m) : 1 ≤ s ∧ s ≤ m := by
  have := List.mem_range'_1.mp h
  omega
theorem prof_run (h : Cd (P : Int) n c) : F_code_profile [cW P n c] = .ok (.tup ((profV P n c).map nW)) ∧ F__law_least [cW P n c] = .ok (.tup ((profV P n c).map nW)) := by
  have h6 := h.l6
  have hz : sizeOk ((List.range' 1 c.length).map nW) = true := size_small (by simp; omega)
  have ec : lenW [.tup (c.map lW)] = .ok (nW c.length) := by simp
  have hr := rng1m (m := c.length) (by omega)
  constructor
  · have hf : ∃ f : Nat → List Nat, ∀ s ∈ List.range' 1 c.length, (fL (fCons (fComp [3] (iOf lstW (fL (fCons (gV 1) (fCons (gV 2) fNil)) F_lots_with)) (goName 3) fYes (fL (fCons (fL (fCons (gV 0) (fCons (gV 3) fNil)) F_told_in) (fCons (gV 3) fNil)) mkTup)) fNil) minQ) [.val (cW P n c), .val (nW c.length), .val (nW s), .un] = .ok (.tup [nW (mnV P n c s), loW (f s)]) := by
      have : ∀ s, ∃ l : List Nat, s ∈ List.range' 1 c.length → (fL (fCons (fComp [3] (iOf lstW (fL (fCons (gV 1) (fCons (gV 2) fNil)) F_lots_with)) (goName 3) fYes (fL (fCons (fL (fCons (gV 0) (fCons (gV 3) fNil)) F_told_in) (fCons (gV 3) fNil)) mkTup)) fNil) minQ) [.val (cW P n c), .val (nW c.length), .val (nW s), .un] = .ok (.tup [nW (mnV P n c s), loW l]) := fun s => by
        by_cases hs : s ∈ List.range' 1 c.length
        · obtain ⟨l, e⟩ := pair_run h (in_rng hs) .un .un
          exact ⟨l, fun _ => e⟩
        · exact ⟨[], fun z => absurd z hs⟩
      exact ⟨fun s => Classical.choose (this s), fun s => Classical.choose_spec (this s)⟩
    obtain ⟨f, hf⟩ := hf
    have c1 : compL (goName 2) fYes (fL (fCons (fComp [3] (iOf lstW (fL (fCons (gV 1) (fCons (gV 2) fNil)) F_lots_with)) (goName 3) fYes (fL (fCons (fL (fCons (gV 0) (fCons (gV 3) fNil)) F_told_in) (fCons (gV 3) fNil)) mkTup)) fNil) minQ) [.val (cW P n c), .val (nW c.length), .un, .un] ((List.range' 1 c.length).map nW) = .ok ((List.range' 1 c.length).map fun s => .tup [nW (mnV P n c s), loW (f s)]) := by
      refine compL_map _ _ _ fun s hs => ⟨_, rfl, rfl, hf s hs⟩
    have hs1 : startE 4 [cW P n c] = [.val (cW P n c), .un, .un, .un] := rfl
    have pr : F_profile_by [cW P n c] = .ok (.lst ((List.range' 1 c.length).map fun s => .tup [nW (mnV P n c s), loW (f s)])) := by
      simp only [F_profile_by, defF, hs1, List.length_cons, List.length_nil, if_true, sSeq_eq, sSet_eq, fL_eq, fCons_eq, fNil_eq, f2_eq, gV_eq, List.getElem?_cons_succ, List.getElem?_cons_zero, T.bind_ok, ix_c2, ec, List.set_cons_succ, List.set_cons_zero, sRet_eq, fComp_eq, iL_eq, addW_int, hr, hz, wipeE, List.foldl_cons, List.foldl_nil, c1]
      rfl
    have hz2 : sizeOk ((List.range' 1 c.length).map fun s => PF.W.tup [nW (mnV P n c s), loW (f s)]) = true := size_small (by simp; omega)
    have c2 : compL (goTup 2 (goCons (goName 1) (goCons (goName 2) goNil))) fYes (gV 1) [.val (cW P n c), .un, .un] ((List.range' 1 c.length).map fun s => PF.W.tup [nW (mnV P n c s), loW (f s)]) = .ok ((profV P n c).map nW) := by
      unfold profV
      rw [List.map_map]
      refine compL_map _ _ _ fun s hs => ⟨_, rfl, rfl, by simp⟩
    have hs2 : startE 3 [cW P n c] = [.val (cW P n c), .un, .un] := rfl
    have tf : tupOfW [.lst ((profV P n c).map nW)] = .ok (.tup ((profV P n c).map nW)) := rfl
    simp only [F_code_profile, defF, hs2, List.length_cons, List.length_nil, if_true, sRet_eq, fL_eq, fCons_eq, fNil_eq, fComp_eq, iOf_eq, gV_eq, List.getElem?_cons_succ, List.getElem?_cons_zero, T.bind_ok, need_run h, pr, lstW, hz2, wipeE, List.foldl_cons, List.foldl_nil, List.set_cons_succ, List.set_cons_zero, c2, tf]
    rfl
  · have c1 : compL (goName 2) fYes (fL (fCons (fComp [3] (iOf lstW (fL (fCons (gV 1) (fCons (gV 2) fNil)) F__law_lots)) (goName 3) fYes (fL (fCons (gV 0) (fCons (gV 3) fNil)) F__law_reach)) fNil) minQ) [.val (cW P n c), .val (nW c.length), .un, .un] ((List.range' 1 c.length).map nW) = .ok ((profV P n c).map nW) := by
      unfold profV
      rw [List.map_map]
      exact compL_map _ _ _ fun s hs => ⟨_, rfl, rfl, least_run h (in_rng hs)⟩
    have hs1 : startE 4 [cW P n c] = [.val (cW P n c), .un, .un, .un] := rfl
    have tf : tupOfW [.lst ((profV P n c).map nW)] = .ok (.tup ((profV P n c).map nW)) := rfl
    simp only [F__law_least, defF, hs1, List.length_cons, List.length_nil, if_true, sSeq_eq, sSet_eq, fL_eq, fCons_eq, fNil_eq, f2_eq, gV_eq, List.getElem?_cons_succ, List.getElem?_cons_zero, T.bind_ok, ix_c2, ec, List.set_cons_succ, List.set_cons_zero, sRet_eq, fComp_eq, iL_eq, addW_int, hr, hz, wipeE, List.foldl_cons, List.foldl_nil, c1, tf]
    rfl
end
def sgnR (p : Int) (f m : List Int) : Int := ((f.zip m).map fun q => q.1 * q.2).sum % p
section
variable {p : Int} {n : Nat} {c : List (List (List Int))}
theorem signby_run (hp : Pr p) (hn : n ≤ 1000) {f m : List Int} (hf : Rw p n f) (hm : Rw p n m) : F_sign_by [.int p, TI f, TI m] = .ok (.int (sgnR p f m)) := by
  have bb := hp.b
  have hs : startE 5 [.int p, TI f, TI m] = [.val (.int p), .val (TI f), .val (TI m), .un, .un] := rfl
  have hz : sizeOk ((f.zip m).map fun q => PF.W.tup [.int q.1, .int q.2]) = true := size_small (by simp [hf.1, hm.1]; omega)
  have zp : zpW [TI f, TI m] = .ok ((f.zip m).map fun q => PF.W.tup [.int q.1, .int q.2]) := by
    have : zpW [TI f, TI m] = .ok (zipF (I f) (I m)) := rfl
    rw [this, zipF_ints]
  have cc : compL (goTup 2 (goCons (goName 3) (goCons (goName 4) goNil))) fYes (f2 mulW (gV 3) (gV 4)) [.val (.int p), .val (TI f), .val (TI m), .un, .un] ((f.zip m).map fun q => PF.W.tup [.int q.1, .int q.2]) = .ok (I ((f.zip m).map fun q => q.1 * q.2)) := by
    have e : I ((f.zip m).map fun q => q.1 * q.2) = (f.zip m).map fun q => PF.W.int (q.1 * q.2) := by simp [Function.comp_def]
    rw [e]
    refine compL_map _ _ _ fun q hq => ⟨_, rfl, rfl, ?_⟩
    have mo := bnd_mul hp (hf.2 q.1 (List.of_mem_zip hq).1) (hm.2 q.2 (List.of_mem_zip hq).2)
    simp [mo]
  simp only [F_sign_by, defF, hs, List.length_cons, List.length_nil, if_true, sRet_eq, fL_eq, fCons_eq, fNil_eq, fComp_eq, iL_eq, gV_eq, List.getElem?_cons_succ, List.getElem?_cons_zero, T.bind_ok, zp, hz, wipeE, List.foldl_cons, List.foldl_nil, List.set_cons_succ, List.set_cons_zero, cc, sumW, intsW_of, rest_run (show 0 < p by omega)]
  rfl
abbrev leR (p : Int) (m : List Int) (l : List (List Int)) : PF.W := TI (l.map fun f => sgnR p f m)
theorem lettersin_run (h : Cd p n c) {m : List Int} (hm : Rw p n m) : F_letters_in [cW p n c, TI m] = .ok (.tup (c.map (leR p m))) := by
  have h12 := h.n12
  have h6 := h.l6
  have hs : startE 4 [cW p n c, TI m] = [.val (cW p n c), .val (TI m), .un, .un] := rfl
  have hz : sizeOk (c.map lW) = true := size_small (by simp; omega)
  have cc : compL (goName 2) fYes (fL (fCons (fComp [3] (iOf tupW (gV 2)) (goName 3) fYes (fL (fCons (f2 ixW (gV 0) (fun _ => .ok (.int 0))) (fCons (gV 3) (fCons (gV 1) fNil))) F_sign_by)) fNil) tupOfW) [.val (cW p n c), .val (TI m), .un, .un] (c.map lW) = .ok (c.map (leR p m)) := by
    refine compL_map _ _ _ fun l hl => ⟨_, rfl, rfl, ?_⟩
    obtain ⟨_, l6⟩ := h.len l hl
    have hz2 : sizeOk (l.map TI) = true := size_small (by rw [List.length_map]; omega)
    have c2 : compL (goName 3) fYes (fL (fCons (f2 ixW (gV 0) (fun _ => .ok (.int 0))) (fCons (gV 3) (fCons (gV 1) fNil))) F_sign_by) [.val (cW p n c), .val (TI m), .val (lW l), .un] (l.map TI) = .ok (I (l.map fun f => sgnR p f m)) := by
      have e : I (l.map fun f => sgnR p f m) = l.map fun f => PF.W.int (sgnR p f m) := by simp [Function.comp_def]
      rw [e]
      refine compL_map _ _ _ fun f hf => ⟨_, rfl, rfl, ?_⟩
      have sb := signby_run h.pr (show n ≤ 1000 by omega) (h.rw l hl f hf) hm
      simp only [fL_eq, fCons_eq, fNil_eq, f2_eq, gV_eq, List.getElem?_cons_succ, List.getElem?_cons_zero, List.set_cons_succ, List.set_cons_zero, T.bind_ok, ix_c0, sb]
    have tf : tupOfW [LI (l.map fun f => sgnR p f m)] = .ok (leR p m l) := rfl
    simp only [fL_eq, fCons_eq, fNil_eq, fComp_eq, iOf_eq, gV_eq, List.getElem?_cons_succ, List.getElem?_cons_zero, List.set_cons_succ, List.set_cons_zero, T.bind_ok, tupW, hz2, if_true, wipeE, List.foldl_cons, List.foldl_nil, c2, tf]
  have tf : tupOfW [.lst (c.map (leR p m))] = .ok (.tup (c.map (leR p m))) := rfl
  simp only [F_letters_in, defF, hs, List.length_cons, List.length_nil, if_true, sRet_eq, fL_eq, fCons_eq, fNil_eq, fComp_eq, iOf_eq, f2_eq, gV_eq, List.getElem?_cons_succ, List.getElem?_cons_zero, T.bind_ok, ix_c2, tupW, hz, wipeE, List.foldl_cons, List.foldl_nil, List.set_cons_succ, List.set_cons_zero, cc, tf]
  rfl
theorem lettersby_run (h : Cd p n c) {m : List Int} (hm : Rw p n m) : F_letters_by [cW p n c, TI m] = .ok (.tup (c.map (leR p m))) := by
  have h12 := h.n12
  have hs : startE 3 [cW p n c, TI m] = [.val (cW p n c), .val (TI m), .un] := rfl
  have el : lenW [TI m] = .ok (nW n) := by simp [hm.1]
  have e1 : (((n : Int) == (n : Int))) = true := by simp
  simp only [F_letters_by, defF, hs, List.length_cons, List.length_nil, if_true, sSeq_eq, sSet_eq, sExpr_eq, sIf_eq, fBl_eq, fL_eq, fCons_eq, fNil_eq, f2_eq, gV_eq, List.getElem?_cons_succ, List.getElem?_cons_zero, T.bind_ok, need_run h, ix_c0, List.set_cons_succ, List.set_cons_zero, nmess_run h.pr hm.2 (show m.length ≤ 96 by rw [hm.1]; omega), el, ix_c1, neS_int, e1, Bool.not_true, blW_bl, Bool.false_eq_true, if_false, sNil_eq, sRet_eq, lettersin_run h hm]
  rfl
end
end Lw
namespace Lw
open PySem L2 PF Rt
@[irreducible] def AB {α : Type} (P : Nat → α → Prop) (E : Nat → Nat → List PF.W → Prop) (d : Nat) (t : T α) : Prop := t.AllB P E d
theorem ab_iff {α : Type} {P : Nat → α → Prop} {E : Nat → Nat → List PF.W → Prop} {d : Nat} {t : T α} : AB P E d t ↔ t.AllB P E d := by
  unfold AB
  exact Iff.rfl
theorem ab_ok {α : Type} {P : Nat → α → Prop} {E : Nat → Nat → List PF.W → Prop} {d : Nat} {a : α} : AB P E d (T.ok a) ↔ P d a := by
  unfold AB
  exact Iff.rfl
theorem ab_bind {α β : Type} {P : Nat → β → Prop} {E : Nat → Nat → List PF.W → Prop} {d : Nat} {t : T α} {f : α → T β} : AB P E d (t.bind f) ↔ AB (fun d a => AB P E d (f a)) E d t := by
  unfold AB
  exact T.allB_bind
theorem ab_imp {α : Type} {P P' : Nat → α → Prop} {E : Nat → Nat → List PF.W → Prop} {d : Nat} {t : T α} (h : ∀ d a, P d a → P' d a) (x : AB P E d t) : AB P' E d t := by
  unfold AB at *
  exact T.AllB.imp h (fun _ _ _ y => y) x
theorem ab_ask {α : Type} {P : Nat → α → Prop} {E : Nat → Nat → List PF.W → Prop} {n d : Nat} {k : Nat → T α} (h : 0 < d) (g : ∀ i, i < n → AB P E (d - 1) (k i)) : AB P E d (T.ask n k) := by
  unfold AB at *
  exact ask_all h g
theorem prime_ab {Q : Nat → PF.W → Prop} {E : Nat → Nat → List PF.W → Prop} {d : Nat} (hd : 1 ≤ d) (hQ : ∀ p d', Pr p → d ≤ d' + 1 → Q d' (.int p)) : AB Q E d (F__law_prime [.stt]) := by
  have s5 : ∀ a b c d e : PF.W, sizeOk [a, b, c, d, e] = true := fun a b c d e => sizeOk_is (by simp)
  unfold F__law_prime
  rw [defF_eq _ _ _ _ rfl]
  simp only [startE, List.map_cons, List.map_nil, List.length_cons, List.length_nil, Nat.reduceAdd, Nat.reduceSub, List.replicate, List.cons_append, List.nil_append, List.append_nil, sSeq_eq, sSet_eq, sIf_eq, sRet_eq, sExpr_eq, sNil_eq, fOr_eq, fAnd_eq, fNot_eq, fTru_eq, fBl_eq, fCh_eq, f1_eq, f2_eq, fL_eq, fCons_eq, fNil_eq, gV_eq, List.getElem?_cons_succ, List.getElem?_cons_zero, List.set_cons_succ, List.set_cons_zero, T.bind_ok, T.bind_exc, T.bind_assoc, truW_bl, blW_bl, Bool.not_true, Bool.not_false, Bool.false_eq_true, if_true, if_false, mkLst_eq, s5, draw_is (n := 5) (by decide) (by decide), T.bind_ask]
  apply ab_ask (by omega)
  intro i hi
  have hi : i < 5 := hi
  have : i = 0 ∨ i = 1 ∨ i = 2 ∨ i = 3 ∨ i = 4 := by omega
  rcases this with rfl | rfl | rfl | rfl | rfl
  · exact ab_ok.mpr (hQ 11 (d - 1) (.inl rfl) (by omega))
  · exact ab_ok.mpr (hQ 13 (d - 1) (.inr (.inl rfl)) (by omega))
  · exact ab_ok.mpr (hQ 17 (d - 1) (.inr (.inr (.inl rfl))) (by omega))
  · exact ab_ok.mpr (hQ 19 (d - 1) (.inr (.inr (.inr (.inl rfl)))) (by omega))
  · exact ab_ok.mpr (hQ 23 (d - 1) (.inr (.inr (.inr (.inr rfl)))) (by omega))
theorem mess_ab {p : Int} (hp : Pr p) {k : Nat} (hk : k ≤ 12) {Q : Nat → PF.W → Prop} {E : Nat → Nat → List PF.W → Prop} {d : Nat} (hd : 20 ≤ d) (hQ : ∀ as d', Rw p k as → d ≤ d' + 20 → Q d' (TI as)) : AB Q E d (F__law_message [.stt, .int p, nW k]) := by
  have b := hp.b
  have hz : sizeOk (PF.intsFrom 0 k) = true := size_small (by rw [PF.intsFrom_length]; omega)
  have e0 : PF.intsFrom 0 k = (List.range k).map fun (i : Nat) => PF.W.int (i : Int) := by
    refine List.ext_getElem? fun i => ?_
    rw [PF.intsFrom_get]
    by_cases h : i < k <;> simp [h]
  rw [ab_iff]
  unfold F__law_message
  rw [defF_eq _ _ _ _ rfl]
  refine T.allB_bind.mpr ?_
  simp only [startE, List.map_cons, List.map_nil, List.length_cons, List.length_nil, Nat.reduceAdd, Nat.reduceSub, List.replicate, List.cons_append, List.nil_append, List.append_nil, sSeq_eq, sSet_eq, sIf_eq, sRet_eq, sExpr_eq, sNil_eq, fOr_eq, fAnd_eq, fNot_eq, fTru_eq, fBl_eq, fCh_eq, f1_eq, f2_eq, fL_eq, fCons_eq, fNil_eq, gV_eq, List.getElem?_cons_succ, List.getElem?_cons_zero, List.set_cons_succ, List.set_cons_zero, T.bind_ok, T.bind_exc, T.bind_assoc, truW_bl, blW_bl, Bool.not_true, Bool.not_false, Bool.false_eq_true, if_true, if_false, fComp_eq, iL_eq, rng1_is (show (0 : Int) ≤ k by omega) (show (k : Int) ≤ 2 ^ 60 by omega), Int.toNat_natCast, hz, wipeE, List.foldl_cons, List.foldl_nil]
  rw [e0]
  refine T.allB_bind.mpr (compL_ints (fun _ x => 0 ≤ x ∧ x < p) 1 (fun a ha => ⟨_, rfl, rfl, fun Q d hd hQ => ?_⟩) (by omega) fun f d' hf hd' => ?_)
  · simp only [startE, List.map_cons, List.map_nil, List.length_cons, List.length_nil, Nat.reduceAdd, Nat.reduceSub, List.replicate, List.cons_append, List.nil_append, List.append_nil, sSeq_eq, sSet_eq, sIf_eq, sRet_eq, sExpr_eq, sNil_eq, fOr_eq, fAnd_eq, fNot_eq, fTru_eq, fBl_eq, fCh_eq, f1_eq, f2_eq, fL_eq, fCons_eq, fNil_eq, gV_eq, List.getElem?_cons_succ, List.getElem?_cons_zero, List.set_cons_succ, List.set_cons_zero, T.bind_ok, T.bind_exc, T.bind_assoc, truW_bl, blW_bl, Bool.not_true, Bool.not_false, Bool.false_eq_true, if_true, if_false, goName_eq, draw_is (n := p) (by omega) (by omega)]
    refine ask_all (by omega) fun i hi => ?_
    exact hQ i (d - 1) ⟨by omega, by omega⟩ (by omega)
  · have e : (List.range k).map (fun i => PF.W.int (f i)) = I ((List.range k).map f) := by simp [I, List.map_map, Function.comp_def]
    simp only [T.bind_ok, tupOfW_lst, endOf, e]
    refine hQ _ d' ⟨by simp, fun a ha => ?_⟩ (by omega)
    obtain ⟨i, hi, rfl⟩ := List.mem_map.mp ha
    exact hf i (List.mem_range.mp hi)
theorem of_ab {bs : List (List Int)} (h1 : bs ≠ []) (h9 : bs.length ≤ 9) {Q : Nat → PF.W → Prop} {E : Nat → Nat → List PF.W → Prop} {d : Nat} (hd : 1 ≤ d) (hQ : ∀ b ∈ bs, ∀ d', d ≤ d' + 1 → Q d' (TI b)) : AB Q E d (F__law_of [.stt, .lst (bs.map TI)]) := by
  have hl : 0 < bs.length := List.length_pos_iff.mpr h1
  have el : lenW [.lst (bs.map TI)] = .ok (.int (bs.length : Int)) := by simp
  unfold F__law_of
  rw [defF_eq _ _ _ _ rfl]
  simp only [startE, List.map_cons, List.map_nil, List.length_cons, List.length_nil, Nat.reduceAdd, Nat.reduceSub, List.replicate, List.cons_append, List.nil_append, List.append_nil, sSeq_eq, sSet_eq, sIf_eq, sRet_eq, sExpr_eq, sNil_eq, fOr_eq, fAnd_eq, fNot_eq, fTru_eq, fBl_eq, fCh_eq, f1_eq, f2_eq, fL_eq, fCons_eq, fNil_eq, gV_eq, List.getElem?_cons_succ, List.getElem?_cons_zero, List.set_cons_succ, List.set_cons_zero, T.bind_ok, T.bind_exc, T.bind_assoc, truW_bl, blW_bl, Bool.not_true, Bool.not_false, Bool.false_eq_true, if_true, if_false, el, draw_is (n := (bs.length : Int)) (by omega) (by omega), T.bind_ask]
  apply ab_ask (by omega)
  intro i hi
  have hi : i < bs.length := by simpa using hi
  have ix : ixW (.lst (bs.map TI)) (.int (i : Int)) = .ok (TI bs[i]) := by simp [ixW, atI, ixN, hi]
  simp only [T.bind_ok, ix, endOf]
  exact ab_ok.mpr (hQ _ (List.getElem_mem hi) _ (by omega))
def sumR (p : Int) (a b : List Int) : List Int := (a.zip b).map fun q => (q.1 + q.2) % p
theorem Rw.su {p : Int} {n : Nat} {a b : List Int} (hp : 0 < p) (ha : Rw p n a) (hb : Rw p n b) : Rw p n (sumR p a b) := by
  refine ⟨by simp [sumR, ha.1, hb.1], fun x hx => ?_⟩
  obtain ⟨q, _, rfl⟩ := List.mem_map.mp hx
  exact ⟨Int.emod_nonneg _ (by omega), Int.emod_lt_of_pos _ hp⟩
/-- the frame of a code that is drawn -/
def cEn (p : Int) (n lg : Nat) (bs : List (List Int)) (x3 x5 x7 x8 x9 x10 x11 x12 : Sl) : En := [.val .stt, .val (.int p), .val (nW n), x3, .val (.lst (bs.map TI)), x5, .val (nW lg), x7, x8, x9, x10, x11, x12, .un, .un, .un]
structure Dr (p : Int) (n lg : Nat) (bs : List (List Int)) : Prop where
  pr : Pr p
  n5 : n ≤ 5
  l2 : lg ≤ 2
  ne : bs ≠ []
  b9 : bs.length ≤ 9
  rw : ∀ b ∈ bs, Rw p n b
abbrev gCf : En → T (Fl × En) := (sSeq (sSet 9 (fL (fCons (gV 0) (fCons (fun _ => .ok (.int 3)) fNil)) F__law_draw)) (sSeq (sPar 10 11 (fCons (fL (fCons (gV 0) (fCons (gV 4) fNil)) F__law_of) (fCons (fL (fCons (gV 0) (fCons (gV 4) fNil)) F__law_of) fNil))) (sIf (fBl (f2 eqS (gV 9) (fun _ => .ok (.int 0)))) (sApp 7 (fCons (fL (fCons (fComp [13, 14] (iL zpW (fCons (gV 10) (fCons (gV 11) fNil))) (goTup 2 (goCons (goName 13) (goCons (goName 14) goNil))) fYes (f2 modW (fL (fCons (f2 addW (gV 13) (gV 14)) fNil) intW) (gV 1))) fNil) tupOfW) fNil)) (sIf (fBl (f2 eqS (gV 9) (fun _ => .ok (.int 1)))) (sApp 7 (fCons (fL (fCons (gV 0) (fCons (gV 1) (fCons (gV 2) fNil))) F__law_message) fNil)) (sSeq (sSet 12 (fL (fCons (gV 0) (fCons (f2 addW (fun _ => .ok (.int 1)) (gV 2)) fNil)) F__law_draw)) (sApp 7 (fCons (fL (fCons (fComp [15] (iL rng1 (fCons (gV 2) fNil)) (goName 15) fYes (fL (fCons (f2 eqS (gV 12) (gV 15)) fNil) intW)) fNil) tupOfW) fNil)))))))
def fmE (p : Int) (n lg : Nat) (bs : List (List Int)) (x3 x5 : Sl) (D : Nat) (ws : List PF.W) (d : Nat) (ρ : En) : Prop := ∃ (fs : List (List Int)) (x8 x9 x10 x11 x12 : Sl), ρ = cEn p n lg bs x3 x5 (.own (fs.map TI)) x8 x9 x10 x11 x12 ∧ (∀ f ∈ fs, Rw p n f) ∧ fs.length + ws.length = lg ∧ D + 30 * ws.length ≤ d
section
variable {p : Int} {n lg : Nat} {bs : List (List Int)}
theorem app_ok {x3 x5 x8 x9 x10 x11 x12 : Sl} {fs : List (List Int)} {f : List Int} {fe : En → T (List PF.W)} (hl : fs.length ≤ 9) (he : fe (cEn p n lg bs x3 x5 (.own (fs.map TI)) x8 x9 x10 x11 x12) = .ok [TI f]) :
    sApp 7 fe (cEn p n lg bs x3 x5 (.own (fs.map TI)) x8 x9 x10 x11 x12) = .ok (.nx, cEn p n lg bs x3 x5 (.own ((fs ++ [f]).map TI)) x8 x9 x10 x11 x12) := by
  have hr : roomOk (fs.map TI) = true := room_is (by rw [List.length_map]; omega)
  have e : (cEn p n lg bs x3 x5 (.own (fs.map TI)) x8 x9 x10 x11 x12)[7]? = some (.own (fs.map TI)) := rfl
  simp only [sApp, e, he, T.bind_ok, hr, if_true, List.map_append, List.map_cons, List.map_nil]
  rfl
theorem fm_step (h : Dr p n lg bs) {x3 x5 : Sl} {D : Nat} {E : Nat → Nat → List PF.W → Prop} (w : PF.W) (ws : List PF.W) (d : Nat) (ρ : En) (hI : fmE p n lg bs x3 x5 D (w :: ws) d ρ) : ∃ ρ1, goName 8 w ρ = some ρ1 ∧ (gCf ρ1).AllB (fun d x => ∃ ρ2, x = (.nx, ρ2) ∧ fmE p n lg bs x3 x5 D ws d ρ2) E d := by
  obtain ⟨fs, x8, x9, x10, x11, x12, rfl, hfs, hlen, hd⟩ := hI
  rw [List.length_cons] at hlen hd
  have l2 := h.l2
  have n5 := h.n5
  have pb := h.pr.b
  refine ⟨cEn p n lg bs x3 x5 (.own (fs.map TI)) (.val w) x9 x10 x11 x12, rfl, ?_⟩
  have fin : ∀ {f : List Int} {d2 : Nat} {x9 x10 x11 x12 : Sl}, Rw p n f → d ≤ d2 + 30 → AB (fun d x => ∃ ρ2, x = (Fl.nx, ρ2) ∧ fmE p n lg bs x3 x5 D ws d ρ2) E d2 (T.ok (Fl.nx, cEn p n lg bs x3 x5 (.own ((fs ++ [f]).map TI)) (.val w) x9 x10 x11 x12)) := by
    intro f d2 x9 x10 x11 x12 hf hd2
    rw [ab_ok]
    refine ⟨_, rfl, fs ++ [f], _, _, _, _, _, rfl, fun g hg => ?_, by rw [List.length_append, List.length_singleton]; omega, by omega⟩
    rcases List.mem_append.mp hg with hg | hg
    · exact hfs g hg
    · rw [List.mem_singleton.mp hg]
      exact hf
  rw [← ab_iff]
  unfold gCf
  rw [sSeq_eq, ab_bind]
  simp only [sSet_eq, fL_eq, fCons_eq, fNil_eq, gV_eq, cEn, List.getElem?_cons_succ, List.getElem?_cons_zero, List.set_cons_succ, List.set_cons_zero, T.bind_ok, draw_is (n := 3) (by decide) (by decide), T.bind_ask]
  apply ab_ask (by omega)
  intro i hi
  have hi : i < 3 := hi
  rw [ab_ok]
  dsimp only
  rw [sSeq_eq, ab_bind, sPar_eq, ab_bind]
  simp only [fL_eq, fCons_eq, fNil_eq, gV_eq, List.getElem?_cons_succ, List.getElem?_cons_zero, T.bind_ok, T.bind_assoc]
  rw [ab_bind]
  apply of_ab h.ne h.b9 (by omega)
  intro a ha d1 hd1
  rw [ab_bind]
  apply of_ab h.ne h.b9 (by omega)
  intro b hb d2 hd2
  rw [ab_ok]
  dsimp only
  simp only [List.set_cons_succ, List.set_cons_zero]
  rw [ab_ok]
  dsimp only
  have hra := h.rw a ha
  have hrb := h.rw b hb
  have ef : ∀ x9 x10 x11 x12 : Sl, [Sl.val .stt, .val (.int p), .val (nW n), x3, .val (.lst (bs.map TI)), x5, .val (nW lg), .own (fs.map TI), .val w, x9, x10, x11, x12, .un, .un, .un] = cEn p n lg bs x3 x5 (.own (fs.map TI)) (.val w) x9 x10 x11 x12 := fun _ _ _ _ => rfl
  rw [sIf_eq]
  simp only [fBl_eq, f2_eq, gV_eq, List.getElem?_cons_succ, List.getElem?_cons_zero, T.bind_ok, eqS_int, blW_bl]
  by_cases i0 : i = 0
  · subst i0
    have e0 : (((0 : Nat) : Int) == 0) = true := rfl
    simp only [e0, if_true]
    have hz : sizeOk ((a.zip b).map fun q => PF.W.tup [.int q.1, .int q.2]) = true := size_small (by simp [hra.1, hrb.1]; omega)
    have zp : zpW [TI a, TI b] = .ok ((a.zip b).map fun q => PF.W.tup [.int q.1, .int q.2]) := by
      have : zpW [TI a, TI b] = .ok (zipF (I a) (I b)) := rfl
      rw [this, zipF_ints]
    have pd : decide ((0 : Int) < p) = true := decide_eq_true (by omega)
    have cc : ∀ x9 : Sl, compL (goTup 2 (goCons (goName 13) (goCons (goName 14) goNil))) fYes (f2 modW (fL (fCons (f2 addW (gV 13) (gV 14)) fNil) intW) (gV 1)) [Sl.val .stt, .val (.int p), .val (nW n), x3, .val (.lst (bs.map TI)), x5, .val (nW lg), .own (fs.map TI), .val w, x9, .val (TI a), .val (TI b), x12, .un, .un, .un] ((a.zip b).map fun q => PF.W.tup [.int q.1, .int q.2]) = .ok (I (sumR p a b)) := fun x9 => by
      have e : I (sumR p a b) = (a.zip b).map fun q => PF.W.int ((q.1 + q.2) % p) := by simp [sumR, Function.comp_def]
      rw [e]
      refine compL_map _ _ _ fun q hq => ⟨_, rfl, rfl, ?_⟩
      simp [pd]
    have tf : tupOfW [LI (sumR p a b)] = .ok (TI (sumR p a b)) := rfl
    have he : (fCons (fL (fCons (fComp [13, 14] (iL zpW (fCons (gV 10) (fCons (gV 11) fNil))) (goTup 2 (goCons (goName 13) (goCons (goName 14) goNil))) fYes (f2 modW (fL (fCons (f2 addW (gV 13) (gV 14)) fNil) intW) (gV 1))) fNil) tupOfW) fNil) (cEn p n lg bs x3 x5 (.own (fs.map TI)) (.val w) (.val (.int ((0 : Nat) : Int))) (.val (TI a)) (.val (TI b)) x12) = .ok [TI (sumR p a b)] := by
      simp only [cEn, fCons_eq, fNil_eq, fL_eq, fComp_eq, iL_eq, gV_eq, List.getElem?_cons_succ, List.getElem?_cons_zero, T.bind_ok, zp, hz, if_true, wipeE, List.foldl_cons, List.foldl_nil, List.set_cons_succ, List.set_cons_zero, cc, tf]
    rw [ef, app_ok (by omega) he]
    exact fin (hra.su (by omega) hrb) (by omega)
  · have e0 : (((i : Nat) : Int) == 0) = false := by
      rw [beq_eq_false_iff_ne]
      omega
    simp only [e0, Bool.false_eq_true, if_false, sIf_eq, fBl_eq, f2_eq, gV_eq, List.getElem?_cons_succ, List.getElem?_cons_zero, T.bind_ok, eqS_int, blW_bl]
    by_cases i1 : i = 1
    · subst i1
      have e1 : (((1 : Nat) : Int) == 1) = true := rfl
      simp only [e1, if_true]
      have hr : roomOk (fs.map TI) = true := room_is (by rw [List.length_map]; omega)
      simp only [sApp, List.getElem?_cons_succ, List.getElem?_cons_zero, fCons_eq, fNil_eq, fL_eq, gV_eq, T.bind_ok, T.bind_assoc]
      rw [ab_bind]
      apply mess_ab h.pr (by omega) (by omega)
      intro f d3 hf hd3
      simp only [T.bind_ok, hr, if_true, List.set_cons_succ, List.set_cons_zero]
      have e : fs.map TI ++ [TI f] = (fs ++ [f]).map TI := by rw [List.map_append]; rfl
      rw [e]
      exact fin hf (by omega)
    · have e1 : (((i : Nat) : Int) == 1) = false := by
        rw [beq_eq_false_iff_ne]
        omega
      simp only [e1, Bool.false_eq_true, if_false, sSeq_eq, sSet_eq, fL_eq, fCons_eq, fNil_eq, f2_eq, gV_eq, List.getElem?_cons_succ, List.getElem?_cons_zero, T.bind_ok, addW_int, draw_is (n := 1 + (n : Int)) (by omega) (by omega), T.bind_ask]
      apply ab_ask (by omega)
      intro j hj
      simp only [T.bind_ok, List.set_cons_succ, List.set_cons_zero]
      have hz : sizeOk ((List.range' 0 n).map fun (i : Nat) => PF.W.int (i : Int)) = true := size_small (by simp; omega)
      have cc : ∀ x9 : Sl, compL (goName 15) fYes (fL (fCons (f2 eqS (gV 12) (gV 15)) fNil) intW) [Sl.val .stt, .val (.int p), .val (nW n), x3, .val (.lst (bs.map TI)), x5, .val (nW lg), .own (fs.map TI), .val w, x9, .val (TI a), .val (TI b), .val (nW j), .un, .un, .un] ((List.range' 0 n).map fun (i : Nat) => PF.W.int (i : Int)) = .ok (I (unitR n j)) := fun x9 => by
        have e : I (unitR n j) = (List.range' 0 n).map fun i => PF.W.int (if i = j then 1 else 0) := by
          unfold unitR
          rw [I, List.map_map]
          rfl
        rw [e]
        refine compL_map _ _ _ fun i _ => ⟨_, rfl, rfl, ?_⟩
        by_cases z : i = j
        · simp [z]
        · have : ((j : Int) == (i : Int)) = false := by
            rw [beq_eq_false_iff_ne]
            omega
          simp [z, this]
      have tf : tupOfW [LI (unitR n j)] = .ok (TI (unitR n j)) := rfl
      have he : ∀ x9 : Sl, (fCons (fL (fCons (fComp [15] (iL rng1 (fCons (gV 2) fNil)) (goName 15) fYes (fL (fCons (f2 eqS (gV 12) (gV 15)) fNil) intW)) fNil) tupOfW) fNil) (cEn p n lg bs x3 x5 (.own (fs.map TI)) (.val w) x9 (.val (TI a)) (.val (TI b)) (.val (nW j))) = .ok [TI (unitR n j)] := fun x9 => by
        simp only [cEn, fCons_eq, fNil_eq, fL_eq, fComp_eq, iL_eq, gV_eq, List.getElem?_cons_succ, List.getElem?_cons_zero, T.bind_ok, rng_nat (show n ≤ 1000 by omega), hz, if_true, wipeE, List.foldl_cons, List.foldl_nil, List.set_cons_succ, List.set_cons_zero, cc, tf]
      rw [ef, app_ok (by omega) (he _)]
      refine fin ⟨by simp [unitR], fun x hx => ?_⟩ (by omega)
      obtain ⟨i, _, rfl⟩ := List.mem_map.mp hx
      by_cases z : i = j
      · rw [if_pos z]
        omega
      · rw [if_neg z]
        omega
end
end Lw
namespace Lw
open PySem L2 PF Rt
abbrev gCo : En → T (Fl × En) := (sSeq (sOwn 7 fNil) (sSeq (sFor (iL rng1 (fCons (gV 6) fNil)) (goName 8) (sSeq (sSet 9 (fL (fCons (gV 0) (fCons (fun _ => .ok (.int 3)) fNil)) F__law_draw)) (sSeq (sPar 10 11 (fCons (fL (fCons (gV 0) (fCons (gV 4) fNil)) F__law_of) (fCons (fL (fCons (gV 0) (fCons (gV 4) fNil)) F__law_of) fNil))) (sIf (fBl (f2 eqS (gV 9) (fun _ => .ok (.int 0)))) (sApp 7 (fCons (fL (fCons (fComp [13, 14] (iL zpW (fCons (gV 10) (fCons (gV 11) fNil))) (goTup 2 (goCons (goName 13) (goCons (goName 14) goNil))) fYes (f2 modW (fL (fCons (f2 addW (gV 13) (gV 14)) fNil) intW) (gV 1))) fNil) tupOfW) fNil)) (sIf (fBl (f2 eqS (gV 9) (fun _ => .ok (.int 1)))) (sApp 7 (fCons (fL (fCons (gV 0) (fCons (gV 1) (fCons (gV 2) fNil))) F__law_message) fNil)) (sSeq (sSet 12 (fL (fCons (gV 0) (fCons (f2 addW (fun _ => .ok (.int 1)) (gV 2)) fNil)) F__law_draw)) (sApp 7 (fCons (fL (fCons (fComp [15] (iL rng1 (fCons (gV 2) fNil)) (goName 15) fYes (fL (fCons (f2 eqS (gV 12) (gV 15)) fNil) intW)) fNil) tupOfW) fNil)))))))) (onFrz 7 (sApp 5 (fCons (fL (fCons (gV 7) fNil) tupOfW) fNil)))))
def coE (p : Int) (n lg K : Nat) (bs : List (List Int)) (D : Nat) (ws : List PF.W) (d : Nat) (ρ : En) : Prop := ∃ (ls : List (List (List Int))) (x3 x7 x8 x9 x10 x11 x12 : Sl), ρ = cEn p n lg bs x3 (.own (ls.map lW)) x7 x8 x9 x10 x11 x12 ∧ (∀ l ∈ ls, l.length = lg ∧ ∀ f ∈ l, Rw p n f) ∧ ls.length + ws.length = K ∧ D + 70 * ws.length ≤ d
section
variable {p : Int} {n lg K : Nat} {bs : List (List Int)}
theorem fm_loop (h : Dr p n lg bs) {x3 x5 : Sl} {D d : Nat} {E : Nat → Nat → List PF.W → Prop} (l : List PF.W) (ρ : En) (hI : fmE p n lg bs x3 x5 D l d ρ) : AB (fun d x => ∃ ρ2, x = (.nx, ρ2) ∧ fmE p n lg bs x3 x5 D [] d ρ2) E d (forL (goName 8) gCf l ρ) := ab_iff.mpr (forL_all (fmE p n lg bs x3 x5 D) (fm_step h) l d ρ hI)
theorem co_step (h : Dr p n lg bs) {D : Nat} (hK : K ≤ 6) {E : Nat → Nat → List PF.W → Prop} (w : PF.W) (ws : List PF.W) (d : Nat) (ρ : En) (hI : coE p n lg K bs D (w :: ws) d ρ) : ∃ ρ1, goName 3 w ρ = some ρ1 ∧ (gCo ρ1).AllB (fun d x => ∃ ρ2, x = (.nx, ρ2) ∧ coE p n lg K bs D ws d ρ2) E d := by
  obtain ⟨ls, x3, x7, x8, x9, x10, x11, x12, rfl, hls, hlen, hd⟩ := hI
  rw [List.length_cons] at hlen hd
  have l2 := h.l2
  refine ⟨cEn p n lg bs (.val w) (.own (ls.map lW)) x7 x8 x9 x10 x11 x12, rfl, ?_⟩
  rw [← ab_iff]
  unfold gCo
  have o7 : sOwn 7 fNil (cEn p n lg bs (.val w) (.own (ls.map lW)) x7 x8 x9 x10 x11 x12) = .ok (.nx, cEn p n lg bs (.val w) (.own (ls.map lW)) (.own (([] : List (List Int)).map TI)) x8 x9 x10 x11 x12) := by simp [sOwn, cEn, sizeOk_nil]
  have g6 : gV 6 (cEn p n lg bs (.val w) (.own (ls.map lW)) (.own (([] : List (List Int)).map TI)) x8 x9 x10 x11 x12) = .ok (nW lg) := rfl
  rw [sSeq_eq, o7, T.bind_ok]
  dsimp only
  rw [sSeq_eq, ab_bind, sFor_eq, iL_eq, fCons_eq, fNil_eq, g6]
  simp only [T.bind_ok, rng_nat (show lg ≤ 1000 by omega)]
  apply ab_imp _ (fm_loop h (D := d - 70) _ _ ⟨[], _, _, _, _, _, rfl, fun f hf => (by cases hf), by simp, by simp; omega⟩)
  intro d1 x hx
  obtain ⟨ρ2, rfl, fs, y8, y9, y10, y11, y12, rfl, hfs, hfl, hd1⟩ := hx
  simp only [List.length_nil, Nat.add_zero, Nat.mul_zero] at hfl hd1
  have hr : roomOk (ls.map lW) = true := room_is (by rw [List.length_map]; omega)
  have tf : tupOfW [.lst (fs.map TI)] = .ok (lW fs) := rfl
  have fz : frz 7 (cEn p n lg bs (.val w) (.own (ls.map lW)) (.own (fs.map TI)) y8 y9 y10 y11 y12) = cEn p n lg bs (.val w) (.own (ls.map lW)) (.val (.lst (fs.map TI))) y8 y9 y10 y11 y12 := rfl
  have e : onFrz 7 (sApp 5 (fCons (fL (fCons (gV 7) fNil) tupOfW) fNil)) (cEn p n lg bs (.val w) (.own (ls.map lW)) (.own (fs.map TI)) y8 y9 y10 y11 y12) = .ok (.nx, cEn p n lg bs (.val w) (.own ((ls ++ [fs]).map lW)) (.val (.lst (fs.map TI))) y8 y9 y10 y11 y12) := by
    have g7 : gV 7 (cEn p n lg bs (.val w) (.own (ls.map lW)) (.val (.lst (fs.map TI))) y8 y9 y10 y11 y12) = .ok (.lst (fs.map TI)) := rfl
    have g5 : (cEn p n lg bs (.val w) (.own (ls.map lW)) (.val (.lst (fs.map TI))) y8 y9 y10 y11 y12)[5]? = some (.own (ls.map lW)) := rfl
    simp only [onFrz, fz, sApp, g5, fCons_eq, fNil_eq, fL_eq, g7, T.bind_ok, tf, hr, if_true, List.map_append, List.map_cons, List.map_nil]
    rfl
  dsimp only
  rw [e, ab_ok]
  refine ⟨_, rfl, ls ++ [fs], _, _, _, _, _, _, _, rfl, fun l hl => ?_, by rw [List.length_append, List.length_singleton]; omega, by omega⟩
  rcases List.mem_append.mp hl with hl | hl
  · exact hls l hl
  · rw [List.mem_singleton.mp hl]
    exact ⟨hfl, hfs⟩
theorem co_loop (h : Dr p n lg bs) {D d : Nat} (hK : K ≤ 6) {E : Nat → Nat → List PF.W → Prop} (l : List PF.W) (ρ : En) (hI : coE p n lg K bs D l d ρ) : AB (fun d x => ∃ ρ2, x = (.nx, ρ2) ∧ coE p n lg K bs D [] d ρ2) E d (forL (goName 3) gCo l ρ) := ab_iff.mpr (forL_all (coE p n lg K bs D) (co_step h hK) l d ρ hI)
theorem all2_rw {as : List Nat} {ws : List PF.W} (h : All2 (fun _ w => ∃ b, w = TI b ∧ Rw p n b) as ws) : ∃ bs : List (List Int), ws = bs.map TI ∧ (∀ b ∈ bs, Rw p n b) ∧ bs.length = as.length := by
  induction h with
  | nil => exact ⟨[], rfl, fun b hb => (by cases hb), rfl⟩
  | cons r _ ih =>
    obtain ⟨b, rfl, hb⟩ := r
    obtain ⟨bs, rfl, h1, h2⟩ := ih
    refine ⟨b :: bs, rfl, fun c hc => ?_, by rw [List.length_cons, List.length_cons, h2]⟩
    rcases List.mem_cons.mp hc with rfl | hc
    · exact hb
    · exact h1 c hc
theorem noX_ofB {α : Type} {P : Nat → α → Prop} {E : Nat → Nat → List PF.W → Prop} {t : T α} {d : Nat} (h : t.AllB P (fun _ _ _ => False) d) : (noX t).AllB P E d := by
  induction t generalizing d with
  | ok a => exact h
  | ask n k ih =>
    obtain ⟨d', e, g⟩ := h
    exact ⟨d', e, fun i hi => ih i (g i hi)⟩
  | _ => exact h.elim
theorem basis_ab (hp : Pr p) (hn : n ≤ 5) {k : Nat} (hk : k ≤ 3) {Q : Nat → List PF.W → Prop} {E : Nat → Nat → List PF.W → Prop} {d : Nat} {vs : En} (hd : 60 ≤ d)
    (hv : ∀ w : PF.W, goName 3 w vs = some ([.val .stt, .val (.int p), .val (nW n), .val w] ++ vs.drop 4)) (hQ : ∀ (bs : List (List Int)) (d' : Nat), (∀ b ∈ bs, Rw p n b) → bs.length = k → d ≤ d' + 60 → Q d' (bs.map TI)) :
    AB Q E d (compL (goName 3) fYes (fL (fCons (gV 0) (fCons (gV 1) (fCons (gV 2) fNil))) F__law_message) vs ((List.range' 0 k).map fun (i : Nat) => PF.W.int (i : Int))) := by
  rw [ab_iff]
  refine compL_draw (R := fun _ w => ∃ b, w = TI b ∧ Rw p n b) 20 (fun (i : Nat) => PF.W.int (i : Int)) (List.range' 0 k) (fun a ha => ⟨_, hv _, rfl, fun Q d hd hQ => ?_⟩) (by simp; omega) fun ws d' hw hd' => ?_
  · simp only [fL_eq, fCons_eq, fNil_eq, gV_eq, List.cons_append, List.getElem?_cons_succ, List.getElem?_cons_zero, T.bind_ok]
    have := mess_ab hp (show n ≤ 12 by omega) (Q := fun d w => Q d w) (E := fun _ _ _ => False) hd fun as d' hr hd' => hQ (TI as) d' ⟨as, rfl, hr⟩ (by omega)
    rw [ab_iff] at this
    exact noX_ofB this
  · obtain ⟨bs, rfl, h1, h2⟩ := all2_rw hw
    rw [List.length_range'] at h2
    simp only [List.length_range'] at hd'
    exact hQ bs d' h1 h2 (by omega)
end
end Lw
namespace Lw
open PySem L2 PF Rt
theorem rng1i {i : Nat} (h : i ≤ 900) : rng1 [.int (1 + (i : Int))] = .ok ((List.range' 0 (i + 1)).map fun (i : Nat) => PF.W.int (i : Int)) := by
  have e : (1 + (i : Int)) = ((i + 1 : Nat) : Int) := by omega
  rw [e]
  exact rng_nat (by omega)
theorem code_ab {Q : Nat → PF.W → Prop} {E : Nat → Nat → List PF.W → Prop} {d : Nat} (hd : 600 ≤ d) (hQ : ∀ (p : Int) (n : Nat) (c : List (List (List Int))) (d' : Nat), Cd p n c → n ≤ 5 → d ≤ d' + 600 → Q d' (cW p n c)) : AB Q E d (F__law_code [.stt]) := by
  have hs : startE 16 [.stt] = [.val .stt, .un, .un, .un, .un, .un, .un, .un, .un, .un, .un, .un, .un, .un, .un, .un] := rfl
  unfold F__law_code
  rw [defF_eq _ _ _ _ rfl, hs, ab_bind, sSeq_eq, ab_bind, sAsg_eq, ab_bind]
  simp only [fL_eq, fCons_eq, fNil_eq, gV_eq, List.getElem?_cons_succ, List.getElem?_cons_zero, T.bind_ok, T.bind_assoc]
  rw [ab_bind]
  apply prime_ab (by omega)
  intro p d1 hp hd1
  simp only [draw_is (n := 6) (by decide) (by decide), T.bind_ask, T.bind_ok]
  apply ab_ask (by omega)
  intro n hn
  have hn : n < 6 := hn
  simp only [T.bind_ok, mkTup_eq, sizeOk_2, if_true]
  rw [ab_ok]
  have g1 : goTup 2 (goCons (goName 1) (goCons (goName 2) goNil)) (.tup [.int p, .int (n : Int)]) [.val .stt, .un, .un, .un, .un, .un, .un, .un, .un, .un, .un, .un, .un, .un, .un, .un] = some [.val .stt, .val (.int p), .val (nW n), .un, .un, .un, .un, .un, .un, .un, .un, .un, .un, .un, .un, .un] := rfl
  try dsimp only
  rw [g1]
  try dsimp only
  rw [ab_ok]
  try dsimp only
  rw [sSeq_eq, ab_bind, sSet_eq, ab_bind, fComp_eq, ab_bind, iL_eq]
  simp only [fL_eq, fCons_eq, fNil_eq, f2_eq, gV_eq, List.getElem?_cons_succ, List.getElem?_cons_zero, draw_is (n := 3) (by decide) (by decide), T.bind_ask, T.bind_ok, addW_int]
  apply ab_ask (by omega)
  intro k hk
  have hk : k < 3 := hk
  have hz : sizeOk ((List.range' 0 (k + 1)).map fun (i : Nat) => PF.W.int (i : Int)) = true := size_small (by simp; omega)
  rw [rng1i (by omega), ab_ok]
  try dsimp only
  rw [if_pos hz, ab_bind]
  simp only [wipeE, List.foldl_cons, List.foldl_nil, List.set_cons_succ, List.set_cons_zero]
  apply basis_ab hp (by omega) (by omega) (by omega) (fun w => rfl)
  intro bs d2 hbs hbl hd2
  rw [ab_ok]
  try dsimp only
  rw [ab_ok]
  try dsimp only
  rw [sSeq_eq, ab_bind]
  simp only [sOwnPar, fL_eq, fCons_eq, fNil_eq, gV_eq, List.getElem?_cons_succ, List.getElem?_cons_zero, draw_is (n := 3) (by decide) (by decide), T.bind_ask, T.bind_ok]
  apply ab_ask (by omega)
  intro lg hlg
  have hlg : lg < 3 := hlg
  rw [ab_ok]
  try dsimp only
  simp only [List.set_cons_succ, List.set_cons_zero]
  have dr : Dr p n lg bs := ⟨hp, by omega, by omega, fun e => by rw [e] at hbl; simp at hbl, by omega, hbs⟩
  rw [sSeq_eq, ab_bind, sFor_eq, ab_bind, iL_eq]
  simp only [fL_eq, fCons_eq, fNil_eq, f2_eq, gV_eq, List.getElem?_cons_succ, List.getElem?_cons_zero, draw_is (n := 4) (by decide) (by decide), T.bind_ask, T.bind_ok, addW_int]
  apply ab_ask (by omega)
  intro m hm
  have hm : m < 4 := hm
  rw [rng1i (by omega), ab_ok]
  try dsimp only
  apply ab_imp _ (co_loop dr (K := m + 1) (D := d2 - 300) (show m + 1 ≤ 6 by omega) _ _ ⟨[], .un, .un, .un, .un, .un, .un, .un, rfl, fun l hl => (by cases hl), by simp, by simp; omega⟩)
  intro d3 x hx
  obtain ⟨ρ2, rfl, ls, y3, y7, y8, y9, y10, y11, y12, rfl, hls, hll, hd3⟩ := hx
  simp only [List.length_nil, Nat.add_zero, Nat.mul_zero] at hll hd3
  try dsimp only
  have s3 : ∀ a b c : PF.W, sizeOk [a, b, c] = true := fun a b c => sizeOk_is (by simp)
  have fz : frz 5 (cEn p n lg bs y3 (.own (ls.map lW)) y7 y8 y9 y10 y11 y12) = cEn p n lg bs y3 (.val (.lst (ls.map lW))) y7 y8 y9 y10 y11 y12 := rfl
  have tf : tupOfW [.lst (ls.map lW)] = .ok (.tup (ls.map lW)) := rfl
  have e : onFrz 5 (sRet (fL (fCons (gV 1) (fCons (gV 2) (fCons (fL (fCons (gV 5) fNil) tupOfW) fNil))) mkTup)) (cEn p n lg bs y3 (.own (ls.map lW)) y7 y8 y9 y10 y11 y12) = .ok (.rt (cW p n ls), cEn p n lg bs y3 (.val (.lst (ls.map lW))) y7 y8 y9 y10 y11 y12) := by
    have g5 : gV 5 (cEn p n lg bs y3 (.val (.lst (ls.map lW))) y7 y8 y9 y10 y11 y12) = .ok (.lst (ls.map lW)) := rfl
    have g1 : gV 1 (cEn p n lg bs y3 (.val (.lst (ls.map lW))) y7 y8 y9 y10 y11 y12) = .ok (.int p) := rfl
    have g2 : gV 2 (cEn p n lg bs y3 (.val (.lst (ls.map lW))) y7 y8 y9 y10 y11 y12) = .ok (nW n) := rfl
    simp only [onFrz, fz, sRet_eq, fL_eq, fCons_eq, fNil_eq, g1, g2, g5, T.bind_ok, tf, mkTup_eq, s3, if_true]
  rw [e, ab_ok]
  try dsimp only
  have ee : endOf (Fl.rt (cW p n ls), cEn p n lg bs y3 (.val (.lst (ls.map lW))) y7 y8 y9 y10 y11 y12) = .ok (cW p n ls) := rfl
  rw [ee, ab_ok]
  refine hQ p n ls d3 ⟨hp, by omega, by omega, by omega, fun l hl => ?_, fun l hl f hf => (hls l hl).2 f hf⟩ (by omega) (by omega)
  have h0 : ls.getD 0 [] ∈ ls := by
    rw [List.getD_eq_getElem?_getD, List.getElem?_eq_getElem (by omega)]
    exact List.getElem_mem _
  exact ⟨by rw [(hls l hl).1, (hls _ h0).1], by rw [(hls l hl).1]; omega⟩
end Lw
namespace Lw
open PySem L2 PF Rt
theorem ne_same_it {k : Nat} {x : PF.W} (h : IT x = true) (l : low k x) (hk : k ≤ 64) : neW x x = .ok (.bl false) := by
  obtain ⟨b, e1, e2⟩ := eqO_it h h l l hk
  have : b = true := e2.mpr rfl
  subst this
  unfold neW
  rw [e1]
  rfl
theorem eq_same_it {k : Nat} {x : PF.W} (h : IT x = true) (l : low k x) (hk : k ≤ 64) : eqW x x = .ok (.bl true) := by
  obtain ⟨b, e1, e2⟩ := eqO_it h h l l hk
  have : b = true := e2.mpr rfl
  subst this
  unfold eqW
  rw [e1]
theorem low_up {n m : Nat} {w : PF.W} (h : low n w) (hm : n ≤ m) : low m w := by
  obtain ⟨d, h1, h2, h3⟩ := h
  exact ⟨d, h1, h2, by omega⟩
theorem ne_bl (a b : Bool) : neS (.bl a) (.bl b) = .ok (.bl (a != b)) := by cases a <;> cases b <;> rfl
theorem ne_non : neS .non .non = .ok (.bl false) := rfl
theorem it_TI (as : List Int) : IT (TI as) = true := IT_ints as
theorem it_tups {α : Type} (f : α → PF.W) (as : List α) (h : ∀ a ∈ as, IT (f a) = true) : IT (.tup (as.map f)) = true := ITs_of fun w hw => by
  obtain ⟨a, ha, rfl⟩ := List.mem_map.mp hw
  exact h a ha
theorem low_tups {α : Type} {k : Nat} (f : α → PF.W) (as : List α) (h : ∀ a ∈ as, low k (f a)) : low (k + 1) (.tup (as.map f)) := low_tup fun w hw => by
  obtain ⟨a, ha, rfl⟩ := List.mem_map.mp hw
  exact h a ha
section
variable {P : Nat} [NeZero P] {n : Nat} {c : List (List (List Int))}
def rEn (P n : Nat) (c : List (List (List Int))) (x5 x6 x7 x8 x9 x10 x11 x12 x13 : Sl) : En := [.val .stt, .val (cW P n c), .val (.int (P : Int)), .val (nW n), .val (.tup (c.map lW)), x5, x6, x7, x8, x9, x10, x11, x12, x13, .un, .un, .un]
abbrev gDu : En → T (Fl × En) := (sSeq (sSet 9 (fComp [14] (iOf tupW (gV 8)) (goName 14) fYes (fL (fCons (fComp [15, 16] (iL zpW (fCons (gV 14) (fCons (gV 6) fNil))) (goTup 2 (goCons (goName 15) (goCons (goName 16) goNil))) fYes (f2 mulW (gV 15) (gV 16))) fNil) sumW))) (sApp 7 (fCons (fL (fCons (fComp [15] (iOf lstW (gV 9)) (goName 15) fYes (f2 modW (fL (fCons (gV 15) fNil) intW) (gV 2))) fNil) tupOfW) fNil)))
theorem du_step (h : Cd (P : Int) n c) {m : List Int} (hm : Rw (P : Int) n m) {l : List (List Int)} (hl : l ∈ c) {acc : List PF.W} (ha : acc.length ≤ 9) (x5 x9 x10 x11 x12 x13 : Sl) : ∃ z9,
    gDu (rEn P n c x5 (.val (TI m)) (.own acc) (.val (lW l)) x9 x10 x11 x12 x13) = .ok (.nx, rEn P n c x5 (.val (TI m)) (.own (acc ++ [leR P m l])) (.val (lW l)) z9 x10 x11 x12 x13) := by
  have bb := h.pr.b
  have h12 := h.n12
  obtain ⟨_, l6⟩ := h.len l hl
  refine ⟨.val (LI (l.map fun f => ((f.zip m).map fun q => q.1 * q.2).sum)), ?_⟩
  have hz1 : sizeOk (l.map TI) = true := size_small (by rw [List.length_map]; omega)
  have c1 : compL (goName 14) fYes (fL (fCons (fComp [15, 16] (iL zpW (fCons (gV 14) (fCons (gV 6) fNil))) (goTup 2 (goCons (goName 15) (goCons (goName 16) goNil))) fYes (f2 mulW (gV 15) (gV 16))) fNil) sumW) (rEn P n c x5 (.val (TI m)) (.own acc) (.val (lW l)) x9 x10 x11 x12 x13) (l.map TI) = .ok (I (l.map fun f => ((f.zip m).map fun q => q.1 * q.2).sum)) := by
    have e : I (l.map fun f => ((f.zip m).map fun q => q.1 * q.2).sum) = l.map fun f => PF.W.int ((f.zip m).map fun q => q.1 * q.2).sum := by simp [Function.comp_def]
    rw [e]
    refine compL_map _ _ _ fun f hf => ⟨_, rfl, rfl, ?_⟩
    have hfr := h.rw l hl f hf
    have hz : sizeOk ((f.zip m).map fun q => PF.W.tup [.int q.1, .int q.2]) = true := size_small (by simp [hfr.1, hm.1]; omega)
    have zp : zpW [TI f, TI m] = .ok ((f.zip m).map fun q => PF.W.tup [.int q.1, .int q.2]) := by
      have : zpW [TI f, TI m] = .ok (zipF (I f) (I m)) := rfl
      rw [this, zipF_ints]
    have cc : compL (goTup 2 (goCons (goName 15) (goCons (goName 16) goNil))) fYes (f2 mulW (gV 15) (gV 16)) [.val .stt, .val (cW P n c), .val (.int (P : Int)), .val (nW n), .val (.tup (c.map lW)), x5, .val (TI m), .own acc, .val (lW l), x9, x10, x11, x12, x13, .val (TI f), .un, .un] ((f.zip m).map fun q => PF.W.tup [.int q.1, .int q.2]) = .ok (I ((f.zip m).map fun q => q.1 * q.2)) := by
      have e : I ((f.zip m).map fun q => q.1 * q.2) = (f.zip m).map fun q => PF.W.int (q.1 * q.2) := by simp [Function.comp_def]
      rw [e]
      refine compL_map _ _ _ fun q hq => ⟨_, rfl, rfl, ?_⟩
      have mo := bnd_mul h.pr (hfr.2 q.1 (List.of_mem_zip hq).1) (hm.2 q.2 (List.of_mem_zip hq).2)
      simp [mo]
    simp only [rEn, fL_eq, fCons_eq, fNil_eq, fComp_eq, iL_eq, gV_eq, List.getElem?_cons_succ, List.getElem?_cons_zero, List.set_cons_succ, List.set_cons_zero, T.bind_ok, zp, hz, if_true, wipeE, List.foldl_cons, List.foldl_nil, cc, sumW, intsW_of]
  have hz2 : sizeOk (I (l.map fun f => ((f.zip m).map fun q => q.1 * q.2).sum)) = true := size_small (by simp; omega)
  have pd : decide ((0 : Int) < (P : Int)) = true := decide_eq_true (by omega)
  have c2 : ∀ z9 : Sl, compL (goName 15) fYes (f2 modW (fL (fCons (gV 15) fNil) intW) (gV 2)) [.val .stt, .val (cW P n c), .val (.int (P : Int)), .val (nW n), .val (.tup (c.map lW)), x5, .val (TI m), .own acc, .val (lW l), z9, x10, x11, x12, x13, .un, .un, .un] (I (l.map fun f => ((f.zip m).map fun q => q.1 * q.2).sum)) = .ok (I (l.map fun f => sgnR P f m)) := fun z9 => by
    have e : I (l.map fun f => sgnR P f m) = (l.map fun f => ((f.zip m).map fun q => q.1 * q.2).sum).map fun s => PF.W.int (s % (P : Int)) := by simp [Function.comp_def, sgnR]
    rw [e]
    refine compL_map _ _ _ fun s _ => ⟨_, rfl, rfl, ?_⟩
    simp [pd]
    exact NeZero.ne P
  have tf : tupOfW [LI (l.map fun f => sgnR P f m)] = .ok (leR P m l) := rfl
  have hr : roomOk acc = true := room_is (by omega)
  simp only [rEn] at c1
  simp only [gDu, rEn, sSeq_eq, sSet_eq, fComp_eq, iOf_eq, gV_eq, tupW, List.getElem?_cons_succ, List.getElem?_cons_zero, T.bind_ok, hz1, if_true, wipeE, List.foldl_cons, List.foldl_nil, List.set_cons_succ, List.set_cons_zero, c1]
  simp only [sApp, fCons_eq, fNil_eq, fL_eq, fComp_eq, iOf_eq, gV_eq, lstW, List.getElem?_cons_succ, List.getElem?_cons_zero, T.bind_ok, hz2, if_true, wipeE, List.foldl_cons, List.foldl_nil, List.set_cons_succ, List.set_cons_zero, c2, tf, hr]
theorem du_go (h : Cd (P : Int) n c) {m : List Int} (hm : Rw (P : Int) n m) (x5 x10 x11 x12 x13 : Sl) : ∀ (ls : List (List (List Int))) (acc : List PF.W) (x8 x9 : Sl), (∀ l ∈ ls, l ∈ c) → acc.length + ls.length ≤ 9 → ∃ z8 z9,
    forL (goName 8) gDu (ls.map lW) (rEn P n c x5 (.val (TI m)) (.own acc) x8 x9 x10 x11 x12 x13) = .ok (.nx, rEn P n c x5 (.val (TI m)) (.own (acc ++ ls.map (leR P m))) z8 z9 x10 x11 x12 x13)
  | [], acc, x8, x9, _, _ => ⟨x8, x9, by simp [forL]⟩
  | l :: ls, acc, x8, x9, hl, ha => by
    rw [List.length_cons] at ha
    obtain ⟨y9, e⟩ := du_step h hm (hl l (by simp)) (acc := acc) (by omega) x5 x9 x10 x11 x12 x13
    obtain ⟨z8, z9, ih⟩ := du_go h hm x5 x10 x11 x12 x13 ls (acc ++ [leR P m l]) (.val (lW l)) y9 (fun l hl' => hl l (by simp [hl'])) (by rw [List.length_append, List.length_singleton]; omega)
    refine ⟨z8, z9, ?_⟩
    have g : goName 8 (lW l) (rEn P n c x5 (.val (TI m)) (.own acc) x8 x9 x10 x11 x12 x13) = some (rEn P n c x5 (.val (TI m)) (.own acc) (.val (lW l)) x9 x10 x11 x12 x13) := rfl
    rw [List.map_cons]
    unfold forL
    rw [g]
    simp only [e, T.bind_ok]
    rw [List.append_assoc] at ih
    exact ih
abbrev gR1 : En → T (Fl × En) := (sSeq (sOwnPar2 6 7 (fL (fCons (gV 0) (fCons (gV 2) (fCons (gV 3) fNil))) F__law_message)) (sSeq (sFor (iOf tupW (gV 4)) (goName 8) (sSeq (sSet 9 (fComp [14] (iOf tupW (gV 8)) (goName 14) fYes (fL (fCons (fComp [15, 16] (iL zpW (fCons (gV 14) (fCons (gV 6) fNil))) (goTup 2 (goCons (goName 15) (goCons (goName 16) goNil))) fYes (f2 mulW (gV 15) (gV 16))) fNil) sumW))) (sApp 7 (fCons (fL (fCons (fComp [15] (iOf lstW (gV 9)) (goName 15) fYes (f2 modW (fL (fCons (gV 15) fNil) intW) (gV 2))) fNil) tupOfW) fNil)))) (sIf (onFrzN 7 (fOr (fBl (f2 neS (fL (fCons (gV 1) (fCons (gV 6) fNil)) F_letters_by) (fL (fCons (gV 7) fNil) tupOfW))) (fBl (f2 neS (fL (fCons (gV 1) (fCons (gV 6) fNil)) F_letters_by) (fL (fCons (gV 7) fNil) tupOfW))))) (sRet (fun _ => .ok (.bl false))) sNil)))
def r1E (P n : Nat) (c : List (List (List Int))) (D : Nat) (ws : List PF.W) (d : Nat) (ρ : En) : Prop := ∃ x5 x6 x7 x8 x9, ρ = rEn P n c x5 x6 x7 x8 x9 .un .un .un .un ∧ D + 30 * ws.length ≤ d
theorem r1_step (h : Cd (P : Int) n c) {D : Nat} {E : Nat → Nat → List PF.W → Prop} (w : PF.W) (ws : List PF.W) (d : Nat) (ρ : En) (hI : r1E P n c D (w :: ws) d ρ) : ∃ ρ1, goName 5 w ρ = some ρ1 ∧ (gR1 ρ1).AllB (fun d x => ∃ ρ2, x = (.nx, ρ2) ∧ r1E P n c D ws d ρ2) E d := by
  obtain ⟨x5, x6, x7, x8, x9, rfl, hd⟩ := hI
  rw [List.length_cons] at hd
  have h6 := h.l6
  refine ⟨rEn P n c (.val w) x6 x7 x8 x9 .un .un .un .un, rfl, ?_⟩
  rw [← ab_iff]
  unfold gR1
  rw [sSeq_eq, ab_bind]
  have g0 : ∀ x6 x7 : Sl, gV 0 (rEn P n c (.val w) x6 x7 x8 x9 .un .un .un .un) = .ok .stt := fun _ _ => rfl
  have g2 : ∀ x6 x7 : Sl, gV 2 (rEn P n c (.val w) x6 x7 x8 x9 .un .un .un .un) = .ok (.int (P : Int)) := fun _ _ => rfl
  have g3 : ∀ x6 x7 : Sl, gV 3 (rEn P n c (.val w) x6 x7 x8 x9 .un .un .un .un) = .ok (nW n) := fun _ _ => rfl
  simp only [sOwnPar2, fL_eq, fCons_eq, fNil_eq, g0, g2, g3, T.bind_ok]
  rw [ab_bind]
  apply mess_ab h.pr h.n12 (by omega)
  intro m d1 hm hd1
  rw [ab_ok]
  try dsimp only
  have es : ((rEn P n c (.val w) x6 x7 x8 x9 .un .un .un .un).set 6 (.val (TI m))).set 7 (.own []) = rEn P n c (.val w) (.val (TI m)) (.own []) x8 x9 .un .un .un .un := rfl
  rw [es]
  obtain ⟨z8, z9, e⟩ := du_go h hm (.val w) .un .un .un .un c [] x8 x9 (fun l hl => hl) (by simp; omega)
  rw [List.nil_append] at e
  have g4 : gV 4 (rEn P n c (.val w) (.val (TI m)) (.own []) x8 x9 .un .un .un .un) = .ok (.tup (c.map lW)) := rfl
  have lb := lettersby_run h hm
  have tf : tupOfW [.lst (c.map (leR P m))] = .ok (.tup (c.map (leR P m))) := rfl
  have fz : frz 7 (rEn P n c (.val w) (.val (TI m)) (.own (c.map (leR P m))) z8 z9 .un .un .un .un) = rEn P n c (.val w) (.val (TI m)) (.val (.lst (c.map (leR P m)))) z8 z9 .un .un .un .un := rfl
  have h1 : gV 1 (rEn P n c (.val w) (.val (TI m)) (.val (.lst (c.map (leR P m)))) z8 z9 .un .un .un .un) = .ok (cW P n c) := rfl
  have h6' : gV 6 (rEn P n c (.val w) (.val (TI m)) (.val (.lst (c.map (leR P m)))) z8 z9 .un .un .un .un) = .ok (TI m) := rfl
  have h7 : gV 7 (rEn P n c (.val w) (.val (TI m)) (.val (.lst (c.map (leR P m)))) z8 z9 .un .un .un .un) = .ok (.lst (c.map (leR P m))) := rfl
  have ne : neW (.tup (c.map (leR P m))) (.tup (c.map (leR P m))) = .ok (.bl false) := ne_same_it (k := 3) (it_tups _ _ fun l _ => it_TI _) (low_tups _ _ fun l _ => low_ints _) (by decide)
  simp only [gDu] at e
  rw [sSeq_eq, sFor_eq, iOf_eq, g4, T.bind_ok]
  simp only [tupW, T.bind_ok, e]
  rw [sIf_eq]
  simp only [onFrzN, fz, fOr_eq, fBl_eq, f2_eq, fL_eq, fCons_eq, fNil_eq, h1, h6', h7, T.bind_ok, lb, tf, neS_tup, ne, blW_bl, Bool.false_eq_true, if_false, noX_ok, sNil_eq]
  rw [ab_ok]
  exact ⟨_, rfl, _, _, _, _, _, rfl, by omega⟩
theorem r1_loop (h : Cd (P : Int) n c) {D d : Nat} {E : Nat → Nat → List PF.W → Prop} (l : List PF.W) (ρ : En) (hI : r1E P n c D l d ρ) : AB (fun d x => ∃ ρ2, x = (.nx, ρ2) ∧ r1E P n c D [] d ρ2) E d (forL (goName 5) gR1 l ρ) := ab_iff.mpr (forL_all (r1E P n c D) (r1_step h) l d ρ hI)
abbrev gRl : En → T (Fl × En) := (sSeq (sSet 12 (fL (fCons (gV 1) (fCons (gV 11) fNil)) F__law_reach)) (sSeq (sIf (fBl (f2 neS (fL (fCons (gV 1) (fCons (gV 11) fNil)) F_content) (fL (fCons (gV 2) (fCons (fL (fCons (gV 1) (fCons (gV 11) fNil)) F__law_forms) fNil)) F__law_rank))) (sRet (fun _ => .ok (.bl false))) sNil) (sSeq (sIf (fOr (fBl (f2 neS (fL (fCons (gV 1) (fCons (gV 11) fNil)) F_told) (gV 12))) (fBl (f2 neS (fL (fCons (gV 1) (fCons (gV 11) fNil)) F_told) (gV 12)))) (sRet (fun _ => .ok (.bl false))) sNil) (sSeq (sSet 13 (fL (fCons (gV 1) (fCons (gV 11) fNil)) F_witness)) (sSeq (sIf (fOr (fBl (f2 neS (f2 isW (gV 13) (fun _ => .ok .non)) (f2 eqS (gV 12) (gV 3)))) (fBl (f2 neS (fL (fCons (gV 1) (fCons (gV 11) fNil)) F_witness) (gV 13)))) (sRet (fun _ => .ok (.bl false))) sNil) (sIf (fAnd (fBl (f2 isntW (gV 13) (fun _ => .ok .non))) (fNot (fTru (fL (fCons (gV 1) (fCons (gV 11) (fCons (gV 13) fNil))) F__law_is_witness)))) (sRet (fun _ => .ok (.bl false))) sNil))))))
theorem rl_step (h : Cd (P : Int) n c) {lot : List Nat} (hl : Lt c lot) (x5 x6 x7 x8 x9 x10 x12 x13 : Sl) : ∃ z12 z13,
    gRl (rEn P n c x5 x6 x7 x8 x9 x10 (.val (loW lot)) x12 x13) = .ok (.nx, rEn P n c x5 x6 x7 x8 x9 x10 (.val (loW lot)) z12 z13) := by
  obtain ⟨_, t2, t3⟩ := tell_run h hl
  obtain ⟨k, k1, k2, k3⟩ := cont_run h hl
  have ek : ((k : Int) == (k : Int)) = true := by simp
  have et : ((toldV P n c lot : Int) == (toldV P n c lot : Int)) = true := by simp
  have rb : isW .non .non = .ok (.bl true) := rfl
  rcases shown_run h hl with ⟨s1, s2⟩ | ⟨s1, w, s2, s3⟩
  · have en : ((toldV P n c lot : Int) == (n : Int)) = true := by rw [s1]; simp
    have nb : neS (.bl true) (.bl true) = .ok (.bl false) := ne_bl true true
    have r2 : isntW .non .non = .ok (.bl false) := rfl
    refine ⟨.val (nW (toldV P n c lot)), .val .non, ?_⟩
    simp only [gRl, rEn, sSeq_eq, sSet_eq, sIf_eq, fOr_eq, fAnd_eq, fNot_eq, fTru_eq, fBl_eq, f2_eq, fL_eq, fCons_eq, fNil_eq, gV_eq, List.getElem?_cons_succ, List.getElem?_cons_zero, List.set_cons_succ, List.set_cons_zero, T.bind_ok, t2, t3, k1, k2, k3, s2, neS_int, eqS_int, ek, et, en, Bool.not_true, blW_bl, Bool.false_eq_true, if_false, if_true, sNil_eq, rb, nb, ne_non, r2]
  · have en : ((toldV P n c lot : Int) == (n : Int)) = false := by
      rw [beq_eq_false_iff_ne]
      omega
    have nb : neS (.bl false) (.bl false) = .ok (.bl false) := ne_bl false false
    have r1 : isW (TI w) .non = .ok (.bl false) := rfl
    have r2 : isntW (TI w) .non = .ok (.bl true) := rfl
    have nw : neW (TI w) (TI w) = .ok (.bl false) := ne_same_it (k := 2) (it_TI w) (low_ints w) (by decide)
    refine ⟨.val (nW (toldV P n c lot)), .val (TI w), ?_⟩
    simp only [gRl, rEn, sSeq_eq, sSet_eq, sIf_eq, fOr_eq, fAnd_eq, fNot_eq, fTru_eq, fBl_eq, f2_eq, fL_eq, fCons_eq, fNil_eq, gV_eq, List.getElem?_cons_succ, List.getElem?_cons_zero, List.set_cons_succ, List.set_cons_zero, T.bind_ok, t2, t3, k1, k2, k3, s2, s3, neS_int, eqS_int, ek, et, en, Bool.not_true, Bool.not_false, blW_bl, truW_bl, Bool.false_eq_true, if_false, if_true, sNil_eq, r1, nb, neS_tup, nw, r2]
theorem rl_go (h : Cd (P : Int) n c) (x5 x6 x7 x8 x9 x10 : Sl) : ∀ (L : List (List Nat)) (x11 x12 x13 : Sl), (∀ l ∈ L, Lt c l) → ∃ z11 z12 z13,
    forL (goName 11) gRl (L.map loW) (rEn P n c x5 x6 x7 x8 x9 x10 x11 x12 x13) = .ok (.nx, rEn P n c x5 x6 x7 x8 x9 x10 z11 z12 z13)
  | [], x11, x12, x13, _ => ⟨x11, x12, x13, rfl⟩
  | l :: L, x11, x12, x13, hl => by
    obtain ⟨y12, y13, e⟩ := rl_step h (hl l (by simp)) x5 x6 x7 x8 x9 x10 x12 x13
    obtain ⟨z11, z12, z13, ih⟩ := rl_go h x5 x6 x7 x8 x9 x10 L (.val (loW l)) y12 y13 fun l hl' => hl l (by simp [hl'])
    refine ⟨z11, z12, z13, ?_⟩
    have g : goName 11 (loW l) (rEn P n c x5 x6 x7 x8 x9 x10 x11 x12 x13) = some (rEn P n c x5 x6 x7 x8 x9 x10 (.val (loW l)) x12 x13) := rfl
    rw [List.map_cons]
    unfold forL
    rw [g]
    simp only [e, T.bind_ok]
    exact ih
abbrev gRf : En → T (Fl × En) := (sFor (iOf lstW (fL (fCons (fL (fCons (gV 4) fNil) lenW) (fCons (gV 10) fNil)) F__law_lots)) (goName 11) (sSeq (sSet 12 (fL (fCons (gV 1) (fCons (gV 11) fNil)) F__law_reach)) (sSeq (sIf (fBl (f2 neS (fL (fCons (gV 1) (fCons (gV 11) fNil)) F_content) (fL (fCons (gV 2) (fCons (fL (fCons (gV 1) (fCons (gV 11) fNil)) F__law_forms) fNil)) F__law_rank))) (sRet (fun _ => .ok (.bl false))) sNil) (sSeq (sIf (fOr (fBl (f2 neS (fL (fCons (gV 1) (fCons (gV 11) fNil)) F_told) (gV 12))) (fBl (f2 neS (fL (fCons (gV 1) (fCons (gV 11) fNil)) F_told) (gV 12)))) (sRet (fun _ => .ok (.bl false))) sNil) (sSeq (sSet 13 (fL (fCons (gV 1) (fCons (gV 11) fNil)) F_witness)) (sSeq (sIf (fOr (fBl (f2 neS (f2 isW (gV 13) (fun _ => .ok .non)) (f2 eqS (gV 12) (gV 3)))) (fBl (f2 neS (fL (fCons (gV 1) (fCons (gV 11) fNil)) F_witness) (gV 13)))) (sRet (fun _ => .ok (.bl false))) sNil) (sIf (fAnd (fBl (f2 isntW (gV 13) (fun _ => .ok .non))) (fNot (fTru (fL (fCons (gV 1) (fCons (gV 11) (fCons (gV 13) fNil))) F__law_is_witness)))) (sRet (fun _ => .ok (.bl false))) sNil)))))))
theorem rf_go (h : Cd (P : Int) n c) (x5 x6 x7 x8 x9 : Sl) : ∀ (k s : Nat) (x10 x11 x12 x13 : Sl), s + k = c.length + 1 → ∃ z10 z11 z12 z13,
    forL (goName 10) gRf ((List.range' s k).map fun (i : Nat) => PF.W.int (i : Int)) (rEn P n c x5 x6 x7 x8 x9 x10 x11 x12 x13) = .ok (.nx, rEn P n c x5 x6 x7 x8 x9 z10 z11 z12 z13)
  | 0, s, x10, x11, x12, x13, _ => ⟨x10, x11, x12, x13, rfl⟩
  | k + 1, s, x10, x11, x12, x13, hs => by
    obtain ⟨L', l1, _, l2⟩ := lots_run (s := s) h.l6 (by omega)
    obtain ⟨y11, y12, y13, e⟩ := rl_go h x5 x6 x7 x8 x9 (.val (nW s)) L' x11 x12 x13 fun l hl => lot_ok h (l1.mem_iff.mp hl)
    obtain ⟨z10, z11, z12, z13, ih⟩ := rf_go h x5 x6 x7 x8 x9 k (s + 1) (.val (nW s)) y11 y12 y13 (by omega)
    refine ⟨z10, z11, z12, z13, ?_⟩
    have g : goName 10 (nW s) (rEn P n c x5 x6 x7 x8 x9 x10 x11 x12 x13) = some (rEn P n c x5 x6 x7 x8 x9 (.val (nW s)) x11 x12 x13) := rfl
    have g4 : gV 4 (rEn P n c x5 x6 x7 x8 x9 (.val (nW s)) x11 x12 x13) = .ok (.tup (c.map lW)) := rfl
    have g10 : gV 10 (rEn P n c x5 x6 x7 x8 x9 (.val (nW s)) x11 x12 x13) = .ok (nW s) := rfl
    have el : lenW [.tup (c.map lW)] = .ok (nW c.length) := by simp
    have st : gRf (rEn P n c x5 x6 x7 x8 x9 (.val (nW s)) x11 x12 x13) = .ok (.nx, rEn P n c x5 x6 x7 x8 x9 (.val (nW s)) y11 y12 y13) := by
      simp only [gRl] at e
      unfold gRf
      rw [sFor_eq, iOf_eq]
      simp only [fL_eq, fCons_eq, fNil_eq, g4, g10, T.bind_ok, el, l2, lstW, e]
    rw [List.range'_succ, List.map_cons]
    unfold forL
    rw [g]
    simp only [st, T.bind_ok]
    exact ih
theorem it_code (h : Cd (P : Int) n c) : neW (cW P n c) (cW P n c) = .ok (.bl false) := by
  refine ne_same_it (k := 4 + 1) (x := cW P n c) ?_ (low_tup fun w hw => ?_) (by decide)
  · refine ITs_of fun w hw => ?_
    simp only [List.mem_cons, List.not_mem_nil, or_false] at hw
    rcases hw with rfl | rfl | rfl
    · rfl
    · rfl
    · exact it_tups _ _ fun l _ => it_tups _ _ fun f _ => it_TI f
  · simp only [List.mem_cons, List.not_mem_nil, or_false] at hw
    rcases hw with rfl | rfl | rfl
    · exact low_up (low_int _) (by decide)
    · exact low_up (low_int _) (by decide)
    · exact low_tups _ _ fun l _ => low_tups _ _ fun f _ => low_ints f
theorem right_ab (h : Cd (P : Int) n c) {Q : Nat → PF.W → Prop} {E : Nat → Nat → List PF.W → Prop} {d : Nat} (hd : 100 ≤ d) (hQ : ∀ d', d ≤ d' + 100 → Q d' (.bl true)) : AB Q E d (F__law_code_right [.stt, cW P n c]) := by
  have h6 := h.l6
  have hs : startE 17 [.stt, cW P n c] = [.val .stt, .val (cW P n c), .un, .un, .un, .un, .un, .un, .un, .un, .un, .un, .un, .un, .un, .un, .un] := rfl
  have g : goTup 3 (goCons (goName 2) (goCons (goName 3) (goCons (goName 4) goNil))) (cW P n c) [.val .stt, .val (cW P n c), .un, .un, .un, .un, .un, .un, .un, .un, .un, .un, .un, .un, .un, .un, .un] = some (rEn P n c .un .un .un .un .un .un .un .un .un) := rfl
  have g1 : ∀ x5 x6 x7 x8 x9 x10 x11 x12 x13 : Sl, gV 1 (rEn P n c x5 x6 x7 x8 x9 x10 x11 x12 x13) = .ok (cW P n c) := fun _ _ _ _ _ _ _ _ _ => rfl
  have g4 : ∀ x5 x6 x7 x8 x9 x10 x11 x12 x13 : Sl, gV 4 (rEn P n c x5 x6 x7 x8 x9 x10 x11 x12 x13) = .ok (.tup (c.map lW)) := fun _ _ _ _ _ _ _ _ _ => rfl
  have nc : neS (cW P n c) (cW P n c) = .ok (.bl false) := it_code h
  have el : lenW [.tup (c.map lW)] = .ok (nW c.length) := by simp
  have ea : addW (nW c.length) (.int 1) = .ok (nW (c.length + 1)) := by simp [addW_int]
  unfold F__law_code_right
  rw [defF_eq _ _ _ _ rfl, hs, ab_bind, sSeq_eq, sAsg_eq, gV_eq]
  simp only [List.getElem?_cons_succ, List.getElem?_cons_zero, T.bind_ok, g]
  rw [sSeq_eq, sIf_eq]
  simp only [fBl_eq, f2_eq, fL_eq, fCons_eq, fNil_eq, g1, T.bind_ok, need_run h, nc, blW_bl, Bool.false_eq_true, if_false, sNil_eq]
  rw [sSeq_eq, ab_bind, sFor_eq, iL_eq]
  have r3 : rng1 [.int 3] = .ok ((List.range' 0 3).map fun (i : Nat) => PF.W.int (i : Int)) := rng_nat (n := 3) (by decide)
  simp only [fCons_eq, fNil_eq, T.bind_ok, r3]
  apply ab_imp _ (r1_loop h (D := d - 90) _ _ ⟨_, _, _, _, _, rfl, by simp; omega⟩)
  intro d1 x hx
  obtain ⟨ρ2, rfl, x5, x6, x7, x8, x9, rfl, hd1⟩ := hx
  simp only [List.length_nil, Nat.mul_zero, Nat.add_zero] at hd1
  obtain ⟨z10, z11, z12, z13, e⟩ := rf_go h x5 x6 x7 x8 x9 (c.length + 1) 0 .un .un .un .un (by omega)
  try dsimp only
  rw [sSeq_eq, sFor_eq, iL_eq]
  simp only [gRf] at e
  simp only [fL_eq, fCons_eq, fNil_eq, f2_eq, g4, T.bind_ok, el, ea, rng_nat (show c.length + 1 ≤ 1000 by omega), e]
  obtain ⟨p1, p2⟩ := prof_run h
  have ip : (.tup ((profV P n c).map nW) : PF.W) = TI ((profV P n c).map fun (k : Nat) => (k : Int)) := by
    show _ = PF.W.tup (((profV P n c).map fun (k : Nat) => (k : Int)).map PF.W.int)
    rw [List.map_map]
    rfl
  have eq : eqW (.tup ((profV P n c).map nW)) (.tup ((profV P n c).map nW)) = .ok (.bl true) := by
    rw [ip]
    exact eq_same_it (k := 2) (it_TI _) (low_ints _) (by decide)
  have fz : frz 7 ((rEn P n c x5 x6 x7 x8 x9 z10 z11 z12 z13).set 7 (.val (.tup ((profV P n c).map nW)))) = rEn P n c x5 x6 (.val (.tup ((profV P n c).map nW))) x8 x9 z10 z11 z12 z13 := rfl
  have g7 : gV 7 (rEn P n c x5 x6 (.val (.tup ((profV P n c).map nW))) x8 x9 z10 z11 z12 z13) = .ok (.tup ((profV P n c).map nW)) := rfl
  rw [sSeq_eq, sSet_eq]
  simp only [fL_eq, fCons_eq, fNil_eq, g1, T.bind_ok, p2, onFrz, fz, sRet_eq, fAndV_eq, f2_eq, p1, g7, eqS_tup, eq]
  rw [ab_ok]
  have ee : ∀ ρ : En, endOf (Fl.rt (.bl true), ρ) = .ok (.bl true) := fun _ => rfl
  rw [ee, ab_ok]
  exact hQ d1 (by omega)
end
end Lw
namespace Lw
open PySem L2 PF Rt
section
variable {P : Nat} [NeZero P] {n : Nat} {c : List (List (List Int))} {lot : List Nat}
theorem contV (h : Cd (P : Int) n c) (hl : Lt c lot) : F_content [cW P n c, loW lot] = .ok (nW ((rowsOf c lot).foldl (stepR (P : Int)) []).length) := by
  obtain ⟨F, o⟩ := Lo.ex h hl
  have e := o.rr.content (one_ne h.pr) (n := n) fun q hq => by
    obtain ⟨g, hg, rfl⟩ := List.mem_map.mp hq
    exact (o.fw g hg).1
  rw [List.length_map] at e
  rw [← o.perm.length_eq, e]
  exact asked h hl (content_run h hl o)
theorem witV (h : Cd (P : Int) n c) (hl : Lt c lot) {a b : Nat × List Int} (hf : (rowsOf c lot).foldl (stepR (P : Int)) [] = [a, b]) (hab : a ≠ b) (ht : toldV P n c lot ≠ n) {w : List Int} (h1 : witR P n [a, b] (toldV P n c lot) = w) (h2 : witR P n [b, a] (toldV P n c lot) = w) : F_witness [cW P n c, loW lot] = .ok (TI w) := by
  obtain ⟨F, o⟩ := Lo.ex h hl
  have e := asked h hl (wit_run h hl o)
  rw [o.tv h hl, if_neg ht] at e
  have pm := o.perm
  rw [hf] at pm
  have hF : F = [a, b] ∨ F = [b, a] := by
    have hlen := pm.length_eq
    match F, hlen, pm with
    | [x, y], _, pm =>
      have mx := pm.mem_iff.mp (show x ∈ [x, y] by simp)
      have my := pm.mem_iff.mp (show y ∈ [x, y] by simp)
      have nd : [x, y].Nodup := pm.nodup_iff.mpr (by simp [hab])
      have nxy : x ≠ y := by simpa using nd
      simp only [List.mem_cons, List.not_mem_nil, or_false] at mx my
      rcases mx with rfl | rfl <;> rcases my with rfl | rfl
      · exact absurd rfl nxy
      · exact .inl rfl
      · exact .inr rfl
      · exact absurd rfl nxy
  rcases hF with rfl | rfl
  · rw [h1] at e
    exact e
  · rw [h2] at e
    exact e
end
def c1E : List (List (List Int)) := [[[1]], [[1]], [[1]], [[1]], [[0]]]
def c2E : List (List (List Int)) := [[[1]], [[1]], [[1]], [[0]], [[0]]]
def c3E : List (List (List Int)) := [[[1, 0, 0], [0, 1, 2]], [[1, 0, 0], [0, 1, 3]], [[2, 0, 0], [0, 2, 4]]]
def c4E : List (List (List Int)) := [[], [], [], [], [], []]
theorem cd_of {p : Int} {n : Nat} {c : List (List (List Int))} (hp : Pr p) (hn : n ≤ 12) (h : (decide (1 ≤ c.length) && (decide (c.length ≤ 6) && (c.all fun l => l.length == (c.getD 0 []).length && (decide (l.length ≤ 6) && l.all fun f => f.length == n && f.all fun x => decide (0 ≤ x) && decide (x < p))))) = true) : Cd p n c := by
  rw [Bool.and_eq_true, Bool.and_eq_true] at h
  obtain ⟨h1, h2, h3⟩ := h
  have h3 := List.all_eq_true.mp h3
  refine ⟨hp, hn, of_decide_eq_true h1, of_decide_eq_true h2, fun l hl => ?_, fun l hl f hf => ?_⟩
  · have := h3 l hl
    rw [Bool.and_eq_true, Bool.and_eq_true] at this
    exact ⟨eq_of_beq this.1, of_decide_eq_true this.2.1⟩
  · have := h3 l hl
    rw [Bool.and_eq_true, Bool.and_eq_true] at this
    have := List.all_eq_true.mp this.2.2 f hf
    rw [Bool.and_eq_true] at this
    refine ⟨eq_of_beq this.1, fun x hx => ?_⟩
    have := List.all_eq_true.mp this.2 x hx
    rw [Bool.and_eq_true] at this
    exact ⟨of_decide_eq_true this.1, of_decide_eq_true this.2⟩
theorem cd1 : Cd ((11 : Nat) : Int) 1 c1E := cd_of (.inl rfl) (by decide) (by decide +kernel)
theorem cd2 : Cd ((11 : Nat) : Int) 1 c2E := cd_of (.inl rfl) (by decide) (by decide +kernel)
theorem cd3 : Cd ((11 : Nat) : Int) 3 c3E := cd_of (.inl rfl) (by decide) (by decide +kernel)
theorem cd4 : Cd ((13 : Nat) : Int) 0 c4E := cd_of (.inr (.inl rfl)) (by decide) (by decide +kernel)
theorem pr1 : profV 11 1 c1E = [0, 1, 1, 1, 1] := by decide +kernel
theorem pr2 : profV 11 1 c2E = [0, 0, 1, 1, 1] := by decide +kernel
theorem pr3 : profV 11 3 c3E = [1, 1, 3] := by decide +kernel
theorem pr4 : profV 13 0 c4E = [0, 0, 0, 0, 0, 0] := by decide +kernel
theorem tv01 : toldV 11 3 c3E [0, 1] = 3 := by decide +kernel
theorem tv02 : toldV 11 3 c3E [0, 2] = 1 := by decide +kernel
theorem tv0 : toldV 11 3 c3E [] = 0 := by decide +kernel
theorem fo02 : (rowsOf c3E [0, 2]).foldl (stepR ((11 : Nat) : Int)) [] = [(0, [1, 0, 0]), (1, [0, 1, 2])] := by decide +kernel
theorem wa02 : witR ((11 : Nat) : Int) 3 [(0, [1, 0, 0]), (1, [0, 1, 2])] 1 = [0, 1, 5] := by decide +kernel
theorem wb02 : witR ((11 : Nat) : Int) 3 [(1, [0, 1, 2]), (0, [1, 0, 0])] 1 = [0, 1, 5] := by decide +kernel
theorem lt_of {l : List Nat} (h : (l.all fun k => decide (k < 3)) = true) (hp : l.Pairwise (· < ·)) (h6 : l.length ≤ 6) : Lt c3E l := ⟨fun k hk => of_decide_eq_true (List.all_eq_true.mp h k hk), hp, h6⟩
theorem le3 : c3E.map (leR ((11 : Nat) : Int) [1, 2, 3]) = [TI [1, 8], TI [1, 0], TI [2, 5]] := by
  have a : (c3E.map fun l => l.map fun f => sgnR ((11 : Nat) : Int) f [1, 2, 3]) = [[1, 8], [1, 0], [2, 5]] := by decide +kernel
  have b : c3E.map (leR ((11 : Nat) : Int) [1, 2, 3]) = (c3E.map fun l => l.map fun f => sgnR ((11 : Nat) : Int) f [1, 2, 3]).map TI := by rw [List.map_map]; rfl
  rw [b, a]
  rfl
theorem mul_tz {w : PF.W} {k : Nat} (h2 : 2 ≤ k) (h : k ≤ 1000) : mulTZ (.tup [w]) (nW k) = .ok (.tup (List.replicate k w)) := by
  have tm : tmulOk 1 (k : Int) = true := by
    unfold tmulOk
    exact decide_eq_true (by omega)
  obtain ⟨j, rfl⟩ : ∃ j, k = j + 2 := ⟨k - 2, by omega⟩
  have e : mulTZ (.tup [w]) (nW (j + 2)) = mulT (.tup [w]) (nW (j + 2)) := rfl
  have mr : ∀ m : Nat, manyW m [w] = List.replicate m w := by
    intro m
    induction m with
    | zero => rfl
    | succ m ih =>
      unfold manyW at ih ⊢
      rw [List.replicate_succ, List.flatten_cons, ih, List.replicate_succ]
      rfl
  rw [e]
  unfold mulT
  simp only [nW, List.length_cons, List.length_nil, Nat.zero_add, tm, if_true, Int.toNat_natCast, mr]
theorem sz_of {ws : List PF.W} (h : ws.length ≤ 100) : sizeOk ws = true := size_small (by omega)
theorem add_tup {a b : List PF.W} (h : a.length + b.length ≤ 900) : addW (.tup a) (.tup b) = .ok (.tup (a ++ b)) := by
  have hz : sz2 a.length b.length = true := by
    unfold sz2
    exact decide_eq_true (by omega)
  simp [addW, hz]
theorem law_tl (n : Nat) (x2 : Sl) : ∃ ρ, ((sSeq (sAsg (fL (fCons (fL (fCons (fL (fCons (fun _ => .ok (.int 1)) fNil) mkTup) fNil) mkTup) (fCons (fL (fCons (fL (fCons (fun _ => .ok (.int 0)) fNil) mkTup) fNil) mkTup) fNil)) mkTup) (goTup 2 (goCons (goName 3) (goCons (goName 4) goNil)))) (sSeq (sIf (fBl (f2 neS (fL (fCons (fL (fCons (fun _ => .ok (.int 11)) (fCons (fun _ => .ok (.int 1)) (fCons (f2 addW (f2 mulTZ (fL (fCons (gV 3) fNil) mkTup) (fun _ => .ok (.int 4))) (fL (fCons (gV 4) fNil) mkTup)) fNil))) mkTup) fNil) F_code_profile) (fL (fCons (fun _ => .ok (.int 0)) (fCons (fun _ => .ok (.int 1)) (fCons (fun _ => .ok (.int 1)) (fCons (fun _ => .ok (.int 1)) (fCons (fun _ => .ok (.int 1)) fNil))))) mkTup))) (sRet (fun _ => .ok (.bl false))) sNil) (sSeq (sIf (fBl (f2 neS (fL (fCons (fL (fCons (fun _ => .ok (.int 11)) (fCons (fun _ => .ok (.int 1)) (fCons (f2 addW (f2 mulTZ (fL (fCons (gV 3) fNil) mkTup) (fun _ => .ok (.int 3))) (f2 mulTZ (fL (fCons (gV 4) fNil) mkTup) (fun _ => .ok (.int 2)))) fNil))) mkTup) fNil) F_code_profile) (fL (fCons (fun _ => .ok (.int 0)) (fCons (fun _ => .ok (.int 0)) (fCons (fun _ => .ok (.int 1)) (fCons (fun _ => .ok (.int 1)) (fCons (fun _ => .ok (.int 1)) fNil))))) mkTup))) (sRet (fun _ => .ok (.bl false))) sNil) (sSeq (sSet 5 (fL (fCons (fun _ => .ok (.int 11)) (fCons (fun _ => .ok (.int 3)) (fCons (fL (fCons (fL (fCons (fL (fCons (fun _ => .ok (.int 1)) (fCons (fun _ => .ok (.int 0)) (fCons (fun _ => .ok (.int 0)) fNil))) mkTup) (fCons (fL (fCons (fun _ => .ok (.int 0)) (fCons (fun _ => .ok (.int 1)) (fCons (fun _ => .ok (.int 2)) fNil))) mkTup) fNil)) mkTup) (fCons (fL (fCons (fL (fCons (fun _ => .ok (.int 1)) (fCons (fun _ => .ok (.int 0)) (fCons (fun _ => .ok (.int 0)) fNil))) mkTup) (fCons (fL (fCons (fun _ => .ok (.int 0)) (fCons (fun _ => .ok (.int 1)) (fCons (fun _ => .ok (.int 3)) fNil))) mkTup) fNil)) mkTup) (fCons (fL (fCons (fL (fCons (fun _ => .ok (.int 2)) (fCons (fun _ => .ok (.int 0)) (fCons (fun _ => .ok (.int 0)) fNil))) mkTup) (fCons (fL (fCons (fun _ => .ok (.int 0)) (fCons (fun _ => .ok (.int 2)) (fCons (fun _ => .ok (.int 4)) fNil))) mkTup) fNil)) mkTup) fNil))) mkTup) fNil))) mkTup)) (sSeq (sIf (fOr (fBl (f2 neS (fL (fCons (gV 5) fNil) F_code_profile) (fL (fCons (fun _ => .ok (.int 1)) (fCons (fun _ => .ok (.int 1)) (fCons (fun _ => .ok (.int 3)) fNil))) mkTup))) (fOr (fBl (f2 neS (fL (fCons (gV 5) (fCons (fL (fCons (fun _ => .ok (.int 0)) (fCons (fun _ => .ok (.int 2)) fNil)) mkTup) fNil)) F_content) (fun _ => .ok (.int 2)))) (fBl (f2 neS (fL (fCons (gV 5) (fCons (fL (fCons (fun _ => .ok (.int 0)) (fCons (fun _ => .ok (.int 1)) fNil)) mkTup) fNil)) F_told) (fun _ => .ok (.int 3)))))) (sRet (fun _ => .ok (.bl false))) sNil) (sSeq (sIf (fOr (fBl (f2 neS (fL (fCons (gV 5) (fCons (fL (fCons (fun _ => .ok (.int 0)) (fCons (fun _ => .ok (.int 2)) fNil)) mkTup) fNil)) F_witness) (fL (fCons (fun _ => .ok (.int 0)) (fCons (fun _ => .ok (.int 1)) (fCons (fun _ => .ok (.int 5)) fNil))) mkTup))) (fOr (fBl (f2 isntW (fL (fCons (gV 5) (fCons (fL (fCons (fun _ => .ok (.int 0)) (fCons (fun _ => .ok (.int 1)) fNil)) mkTup) fNil)) F_witness) (fun _ => .ok .non))) (fBl (f2 neS (fL (fCons (gV 5) (fCons (fL fNil mkTup) fNil)) F_told) (fun _ => .ok (.int 0)))))) (sRet (fun _ => .ok (.bl false))) sNil) (sSeq (sIf (fBl (f2 neS (fL (fCons (fL (fCons (fun _ => .ok (.int 13)) (fCons (fun _ => .ok (.int 0)) (fCons (f2 mulTZ (fL (fCons (fL fNil mkTup) fNil) mkTup) (fun _ => .ok (.int 6))) fNil))) mkTup) fNil) F_code_profile) (f2 mulTZ (fL (fCons (fun _ => .ok (.int 0)) fNil) mkTup) (fun _ => .ok (.int 6))))) (sRet (fun _ => .ok (.bl false))) sNil) (sRet (f2 eqS (fL (fCons (gV 5) (fCons (fL (fCons (fun _ => .ok (.int 1)) (fCons (fun _ => .ok (.int 2)) (fCons (fun _ => .ok (.int 3)) fNil))) mkTup) fNil)) F_letters_by) (fL (fCons (fL (fCons (fun _ => .ok (.int 1)) (fCons (fun _ => .ok (.int 8)) fNil)) mkTup) (fCons (fL (fCons (fun _ => .ok (.int 1)) (fCons (fun _ => .ok (.int 0)) fNil)) mkTup) (fCons (fL (fCons (fun _ => .ok (.int 2)) (fCons (fun _ => .ok (.int 5)) fNil)) mkTup) fNil))) mkTup)))))))))) : En → T (Fl × En)) [.val (.scr n), .val .stt, x2, .un, .un, .un] = .ok (.rt (.bl true), ρ) := by
  have p1 := (prof_run cd1).1
  have p2 := (prof_run cd2).1
  have p3 := (prof_run cd3).1
  have p4 := (prof_run cd4).1
  rw [pr1] at p1
  rw [pr2] at p2
  rw [pr3] at p3
  rw [pr4] at p4
  have l02 : Lt c3E [0, 2] := lt_of (by decide) (by decide) (by decide)
  have l01 : Lt c3E [0, 1] := lt_of (by decide) (by decide) (by decide)
  have l0 : Lt c3E [] := lt_of (by decide) .nil (by decide)
  have co := contV cd3 l02
  rw [fo02] at co
  have t01 := (tell_run cd3 l01).2.2
  rw [tv01] at t01
  have t0 := (tell_run cd3 l0).2.2
  rw [tv0] at t0
  have w02 := witV (w := [0, 1, 5]) cd3 l02 fo02 (by decide) (by rw [tv02]; decide) (by first | (rw [tv02]; done) | (rw [tv02]; exact wa02)) (by first | (rw [tv02]; done) | (rw [tv02]; exact wb02))
  have w01 : F_witness [cW ((11 : Nat) : Int) 3 c3E, loW [0, 1]] = .ok .non := by
    rcases shown_run cd3 l01 with ⟨_, e⟩ | ⟨e, _⟩
    · exact e
    · exact absurd tv01 e
  have lb := lettersby_run cd3 (m := [1, 2, 3]) ⟨rfl, by decide⟩
  rw [le3] at lb
  have z1 : ∀ a : PF.W, sizeOk [a] = true := fun a => sz_of (by simp)
  have z2 : ∀ a b : PF.W, sizeOk [a, b] = true := fun a b => sz_of (by simp)
  have z3 : ∀ a b c : PF.W, sizeOk [a, b, c] = true := fun a b c => sz_of (by simp)
  have z5 : ∀ a b c d e : PF.W, sizeOk [a, b, c, d, e] = true := fun a b c d e => sz_of (by simp)
  have m4 : ∀ w : PF.W, mulTZ (.tup [w]) (.int 4) = .ok (.tup [w, w, w, w]) := fun w => mul_tz (k := 4) (by decide) (by decide)
  have m3 : ∀ w : PF.W, mulTZ (.tup [w]) (.int 3) = .ok (.tup [w, w, w]) := fun w => mul_tz (k := 3) (by decide) (by decide)
  have m2 : ∀ w : PF.W, mulTZ (.tup [w]) (.int 2) = .ok (.tup [w, w]) := fun w => mul_tz (k := 2) (by decide) (by decide)
  have m6 : ∀ w : PF.W, mulTZ (.tup [w]) (.int 6) = .ok (.tup [w, w, w, w, w, w]) := fun w => mul_tz (k := 6) (by decide) (by decide)
  have a41 : ∀ a b c d e : PF.W, addW (.tup [a, b, c, d]) (.tup [e]) = .ok (.tup [a, b, c, d, e]) := fun a b c d e => add_tup (by simp)
  have a32 : ∀ a b c d e : PF.W, addW (.tup [a, b, c]) (.tup [d, e]) = .ok (.tup [a, b, c, d, e]) := fun a b c d e => add_tup (by simp)
  have ne : ∀ as : List Int, neW (TI as) (TI as) = .ok (.bl false) := fun as => ne_same_it (k := 2) (it_TI as) (low_ints as) (by decide)
  have e1 : neW (.tup [.int 0, .int 1, .int 1, .int 1, .int 1]) (.tup [.int 0, .int 1, .int 1, .int 1, .int 1]) = .ok (.bl false) := ne [0, 1, 1, 1, 1]
  have e2 : neW (.tup [.int 0, .int 0, .int 1, .int 1, .int 1]) (.tup [.int 0, .int 0, .int 1, .int 1, .int 1]) = .ok (.bl false) := ne [0, 0, 1, 1, 1]
  have e3 : neW (.tup [.int 1, .int 1, .int 3]) (.tup [.int 1, .int 1, .int 3]) = .ok (.bl false) := ne [1, 1, 3]
  have e4 : neW (.tup [.int 0, .int 0, .int 0, .int 0, .int 0, .int 0]) (.tup [.int 0, .int 0, .int 0, .int 0, .int 0, .int 0]) = .ok (.bl false) := ne [0, 0, 0, 0, 0, 0]
  have e5 : neW (.tup [.int 0, .int 1, .int 5]) (.tup [.int 0, .int 1, .int 5]) = .ok (.bl false) := ne [0, 1, 5]
  have el : eqW (.tup [.tup [.int 1, .int 8], .tup [.int 1, .int 0], .tup [.int 2, .int 5]]) (.tup [.tup [.int 1, .int 8], .tup [.int 1, .int 0], .tup [.int 2, .int 5]]) = .ok (.bl true) := eq_same_it (k := 3) rfl (low_tups TI [[1, 8], [1, 0], [2, 5]] fun l _ => low_ints l) (by decide)
  have r0 : isntW .non .non = .ok (.bl false) := rfl
  have i2 : ((2 : Int) == 2) = true := rfl
  have i3 : ((3 : Int) == 3) = true := rfl
  have i0 : ((0 : Int) == 0) = true := rfl
  have q1 : F_code_profile [.tup [.int 11, .int 1, .tup [.tup [.tup [.int 1]], .tup [.tup [.int 1]], .tup [.tup [.int 1]], .tup [.tup [.int 1]], .tup [.tup [.int 0]]]]] = .ok (.tup [.int 0, .int 1, .int 1, .int 1, .int 1]) := p1
  have q2 : F_code_profile [.tup [.int 11, .int 1, .tup [.tup [.tup [.int 1]], .tup [.tup [.int 1]], .tup [.tup [.int 1]], .tup [.tup [.int 0]], .tup [.tup [.int 0]]]]] = .ok (.tup [.int 0, .int 0, .int 1, .int 1, .int 1]) := p2
  have q3 : F_code_profile [.tup [.int 11, .int 3, .tup [.tup [.tup [.int 1, .int 0, .int 0], .tup [.int 0, .int 1, .int 2]], .tup [.tup [.int 1, .int 0, .int 0], .tup [.int 0, .int 1, .int 3]], .tup [.tup [.int 2, .int 0, .int 0], .tup [.int 0, .int 2, .int 4]]]]] = .ok (.tup [.int 1, .int 1, .int 3]) := p3
  have q4 : F_code_profile [.tup [.int 13, .int 0, .tup [.tup [], .tup [], .tup [], .tup [], .tup [], .tup []]]] = .ok (.tup [.int 0, .int 0, .int 0, .int 0, .int 0, .int 0]) := p4
  have q5 : F_content [.tup [.int 11, .int 3, .tup [.tup [.tup [.int 1, .int 0, .int 0], .tup [.int 0, .int 1, .int 2]], .tup [.tup [.int 1, .int 0, .int 0], .tup [.int 0, .int 1, .int 3]], .tup [.tup [.int 2, .int 0, .int 0], .tup [.int 0, .int 2, .int 4]]]], .tup [.int 0, .int 2]] = .ok (.int 2) := co
  have q6 : F_told [.tup [.int 11, .int 3, .tup [.tup [.tup [.int 1, .int 0, .int 0], .tup [.int 0, .int 1, .int 2]], .tup [.tup [.int 1, .int 0, .int 0], .tup [.int 0, .int 1, .int 3]], .tup [.tup [.int 2, .int 0, .int 0], .tup [.int 0, .int 2, .int 4]]]], .tup [.int 0, .int 1]] = .ok (.int 3) := t01
  have q7 : F_told [.tup [.int 11, .int 3, .tup [.tup [.tup [.int 1, .int 0, .int 0], .tup [.int 0, .int 1, .int 2]], .tup [.tup [.int 1, .int 0, .int 0], .tup [.int 0, .int 1, .int 3]], .tup [.tup [.int 2, .int 0, .int 0], .tup [.int 0, .int 2, .int 4]]]], .tup []] = .ok (.int 0) := t0
  have q8 : F_witness [.tup [.int 11, .int 3, .tup [.tup [.tup [.int 1, .int 0, .int 0], .tup [.int 0, .int 1, .int 2]], .tup [.tup [.int 1, .int 0, .int 0], .tup [.int 0, .int 1, .int 3]], .tup [.tup [.int 2, .int 0, .int 0], .tup [.int 0, .int 2, .int 4]]]], .tup [.int 0, .int 2]] = .ok (.tup [.int 0, .int 1, .int 5]) := w02
  have q9 : F_witness [.tup [.int 11, .int 3, .tup [.tup [.tup [.int 1, .int 0, .int 0], .tup [.int 0, .int 1, .int 2]], .tup [.tup [.int 1, .int 0, .int 0], .tup [.int 0, .int 1, .int 3]], .tup [.tup [.int 2, .int 0, .int 0], .tup [.int 0, .int 2, .int 4]]]], .tup [.int 0, .int 1]] = .ok .non := w01
  have q10 : F_letters_by [.tup [.int 11, .int 3, .tup [.tup [.tup [.int 1, .int 0, .int 0], .tup [.int 0, .int 1, .int 2]], .tup [.tup [.int 1, .int 0, .int 0], .tup [.int 0, .int 1, .int 3]], .tup [.tup [.int 2, .int 0, .int 0], .tup [.int 0, .int 2, .int 4]]]], .tup [.int 1, .int 2, .int 3]] = .ok (.tup [.tup [.int 1, .int 8], .tup [.int 1, .int 0], .tup [.int 2, .int 5]]) := lb
  have gg : ∀ (x y : PF.W), goTup 2 (goCons (goName 3) (goCons (goName 4) goNil)) (.tup [x, y]) [.val (.scr n), .val .stt, x2, .un, .un, .un] = some [.val (.scr n), .val .stt, x2, .val x, .val y, .un] := fun _ _ => rfl
  apply Exists.intro
  simp only [sSeq_eq, sAsg_eq, fL_eq, fCons_eq, fNil_eq, T.bind_ok, mkTup_eq, z1, z2, z3, z5, if_true, gg]
  simp only [sIf_eq, sSet_eq, fOr_eq, fBl_eq, f2_eq, fL_eq, fCons_eq, fNil_eq, gV_eq, List.getElem?_cons_succ, List.getElem?_cons_zero, List.set_cons_succ, List.set_cons_zero, T.bind_ok, mkTup_eq, z1, z2, z3, z5, sizeOk_nil, if_true, m2, m3, m4, m6, a41, a32, q1, q2, q3, q4, q5, q6, q7, q8, q9, q10, neS_tup, neS_int, eqS_tup, i0, i2, i3, Bool.not_true, e1, e2, e3, e4, e5, el, r0, blW_bl, Bool.false_eq_true, if_false, sNil_eq, sRet_eq]
  rfl
def wlE (n D : Nat) (ws : List PF.W) (d : Nat) (ρ : En) : Prop := ∃ x2, ρ = [.val (.scr n), .val .stt, x2, .un, .un, .un] ∧ D + 800 * ws.length ≤ d
theorem wl_step {n D : Nat} {E : Nat → Nat → List PF.W → Prop} (w : PF.W) (ws : List PF.W) (d : Nat) (ρ : En) (hI : wlE n D (w :: ws) d ρ) : ∃ ρ1, goName 2 w ρ = some ρ1 ∧ ((sIf (fNot (fTru (fL (fCons (gV 1) (fCons (fL (fCons (gV 1) fNil) F__law_code) fNil)) F__law_code_right))) (sRet (fun _ => .ok (.bl false))) sNil) ρ1).AllB (fun d x => ∃ ρ2, x = (.nx, ρ2) ∧ wlE n D ws d ρ2) E d := by
  obtain ⟨x2, rfl, hd⟩ := hI
  rw [List.length_cons] at hd
  refine ⟨[.val (.scr n), .val .stt, .val w, .un, .un, .un], rfl, ?_⟩
  rw [← ab_iff, sIf_eq]
  simp only [fNot_eq, fTru_eq, fL_eq, fCons_eq, fNil_eq, gV_eq, List.getElem?_cons_succ, List.getElem?_cons_zero, T.bind_ok, T.bind_assoc]
  rw [ab_bind]
  apply code_ab (by omega)
  intro p m c d1 hc hm hd1
  have hb := hc.pr.b
  obtain ⟨P, rfl⟩ : ∃ P : Nat, p = (P : Int) := ⟨p.toNat, by omega⟩
  haveI : NeZero P := ⟨by omega⟩
  rw [ab_bind]
  apply right_ab hc (by omega)
  intro d2 hd2
  simp only [truW_bl, T.bind_ok, Bool.not_true, Bool.false_eq_true, if_false, sNil_eq]
  rw [ab_ok]
  exact ⟨_, rfl, _, rfl, by omega⟩
theorem wl_loop {n D d : Nat} {E : Nat → Nat → List PF.W → Prop} (l : List PF.W) (ρ : En) (h : wlE n D l d ρ) : AB (fun d x => ∃ ρ2, x = (.nx, ρ2) ∧ wlE n D [] d ρ2) E d (forL (goName 2) (sIf (fNot (fTru (fL (fCons (gV 1) (fCons (fL (fCons (gV 1) fNil) F__law_code) fNil)) F__law_code_right))) (sRet (fun _ => .ok (.bl false))) sNil) l ρ) := ab_iff.mpr (forL_all (wlE n D) wl_step l d ρ h)
theorem law_ends : LawEnds g_law 4 := by
  intro n hn
  rw [← ab_iff]
  have e0 : lawE n 4 = [.val (.scr n), .val .stt, .un, .un, .un, .un] := rfl
  have r5 : rng1 [.int 5] = .ok ((List.range' 0 5).map fun (i : Nat) => PF.W.int (i : Int)) := rng_nat (n := 5) (by decide)
  have key := wl_loop (n := n) (D := 0) (d := 2 ^ 60) (E := fun _ _ _ => False) ((List.range' 0 5).map fun (i : Nat) => PF.W.int (i : Int)) (lawE n 4) ⟨_, e0, by simp⟩
  have tl := law_tl n
  unfold g_law
  rw [sSeq_eq, ab_bind, sFor_eq, iL_eq, fCons_eq, fNil_eq]
  simp only [T.bind_ok, r5]
  apply ab_imp _ key
  intro d x hx
  obtain ⟨ρ2, ex, x2, eρ, _⟩ := hx
  rw [ex, eρ]
  obtain ⟨ρ3, e⟩ := tl x2
  dsimp only
  rw [e, ab_ok]
  exact ⟨_, rfl⟩
end Lw
namespace Lw
open PySem PySem.Spec PyProof.Rows L2 PF
def top (i : Nat) : Stmt := PySem.Challenge.pw_nestletters_k06_whole_codes.main.body.getD i (.Pass ⟨0, 0, 0, 0⟩)
abbrev FnP (K : PySem.W.Frag) (x : Str) (st : Stmt) (sc : Scope) (f : Addr) (fd : FuncData) : Prop := FunD K x x (defArgs st) (defBody st) sc [] [] f fd
def sc_is_integer : Scope := ⟨.function, [("thing", .local), ("isinstance", .globalImplicit), ("int", .globalImplicit), ("bool", .globalImplicit)], false, false, (defScope (top 7)).more⟩
def sc_is_between : Scope := ⟨.function, [("thing", .local), ("least", .local), ("most", .local), ("is_integer", .globalImplicit)], false, false, (defScope (top 11)).more⟩
def sc_are_rising : Scope := ⟨.function, [("some", .local), ("all", .globalImplicit), ("zip", .globalImplicit)], false, false, (defScope (top 12)).more⟩
def sc_need_prime : Scope := ⟨.function, [("prime", .local), ("is_integer", .globalImplicit), ("PRIMES", .globalImplicit), ("BadPrime", .globalImplicit)], false, false, (defScope (top 13)).more⟩
def sc_is_sign : Scope := ⟨.function, [("prime", .local), ("thing", .local), ("is_between", .globalImplicit)], false, false, (defScope (top 14)).more⟩
def sc_are_signs : Scope := ⟨.function, [("prime", .cell), ("thing", .local), ("isinstance", .globalImplicit), ("tuple", .globalImplicit), ("all", .globalImplicit)], false, false, (defScope (top 15)).more⟩
def sc_need_message : Scope := ⟨.function, [("prime", .local), ("thing", .local), ("need_prime", .globalImplicit), ("are_signs", .globalImplicit), ("len", .globalImplicit), ("MOST_SIGNS", .globalImplicit), ("BadMessage", .globalImplicit)], false, false, (defScope (top 16)).more⟩
def sc_rest_of : Scope := ⟨.function, [("prime", .local), ("number", .local), ("int", .globalImplicit)], false, false, (defScope (top 17)).more⟩
def sc_inverse_in : Scope := ⟨.function, [("prime", .cell), ("sign", .cell), ("range", .globalImplicit)], false, false, (defScope (top 18)).more⟩
def sc_is_letter : Scope := ⟨.function, [("prime", .cell), ("many", .cell), ("thing", .local), ("isinstance", .globalImplicit), ("tuple", .globalImplicit), ("len", .globalImplicit), ("MOST_LENGTH", .globalImplicit), ("all", .globalImplicit)], false, false, (defScope (top 23)).more⟩
def sc_need_code : Scope := ⟨.function, [("thing", .local), ("prime", .local), ("many", .local), ("letters", .local), ("number", .local), ("letter", .local), ("isinstance", .globalImplicit), ("tuple", .globalImplicit), ("len", .globalImplicit), ("BadCode", .globalImplicit), ("is_integer", .globalImplicit), ("PRIMES", .globalImplicit), ("is_between", .globalImplicit), ("MOST_CODED", .globalImplicit), ("MOST_CODE_LETTERS", .globalImplicit), ("enumerate", .globalImplicit), ("is_letter", .globalImplicit)], false, false, (defScope (top 24)).more⟩
def sc_is_lot_of : Scope := ⟨.function, [("code", .cell), ("thing", .local), ("isinstance", .globalImplicit), ("tuple", .globalImplicit), ("all", .globalImplicit), ("are_rising", .globalImplicit)], false, false, (defScope (top 25)).more⟩
def sc_need_lot_of : Scope := ⟨.function, [("code", .local), ("lot", .local), ("is_lot_of", .globalImplicit), ("BadLot", .globalImplicit)], false, false, (defScope (top 26)).more⟩
def sc_sign_by : Scope := ⟨.function, [("prime", .local), ("form", .local), ("message", .local), ("rest_of", .globalImplicit), ("sum", .globalImplicit), ("zip", .globalImplicit)], false, false, (defScope (top 27)).more⟩
def sc_letters_in : Scope := ⟨.function, [("code", .cell), ("message", .cell), ("tuple", .globalImplicit)], false, false, (defScope (top 28)).more⟩
def sc_letters_by : Scope := ⟨.function, [("code", .local), ("message", .local), ("prime", .local), ("need_code", .globalImplicit), ("need_message", .globalImplicit), ("len", .globalImplicit), ("BadMessage", .globalImplicit), ("letters_in", .globalImplicit)], false, false, (defScope (top 29)).more⟩
def sc_reduced : Scope := ⟨.function, [("prime", .cell), ("rows", .local), ("found", .local), ("row", .cell), ("place", .cell), ("own", .local), ("places", .cell), ("factor", .cell), ("fresh", .cell), ("zip", .globalImplicit), ("enumerate", .globalImplicit), ("inverse_in", .globalImplicit), ("sorted", .globalImplicit)], false, false, (defScope (top 30)).more⟩
def sc_cleared : Scope := ⟨.function, [("prime", .cell), ("row", .local), ("fresh", .local), ("place", .local), ("factor", .cell), ("zip", .globalImplicit)], false, false, (defScope (top 31)).more⟩
def sc_rows_of : Scope := ⟨.function, [("code", .cell), ("lot", .local)], false, false, (defScope (top 32)).more⟩
def sc_content_in : Scope := ⟨.function, [("code", .local), ("lot", .local), ("len", .globalImplicit), ("reduced", .globalImplicit), ("rows_of", .globalImplicit)], false, false, (defScope (top 33)).more⟩
def sc_content : Scope := ⟨.function, [("code", .local), ("lot", .local), ("need_lot_of", .globalImplicit), ("need_code", .globalImplicit), ("content_in", .globalImplicit)], false, false, (defScope (top 34)).more⟩
def sc_told_in : Scope := ⟨.function, [("code", .local), ("lot", .local), ("singles", .local), ("place", .local), ("row", .local), ("found", .local), ("reduced", .globalImplicit), ("rows_of", .globalImplicit), ("sum", .globalImplicit)], false, false, (defScope (top 35)).more⟩
def sc_told : Scope := ⟨.function, [("code", .local), ("lot", .local), ("need_lot_of", .globalImplicit), ("need_code", .globalImplicit), ("told_in", .globalImplicit)], false, false, (defScope (top 36)).more⟩
def sc_witness_in : Scope := ⟨.function, [("code", .local), ("lot", .local), ("prime", .cell), ("many", .local), ("spot", .cell), ("basis", .local), ("place", .local), ("row", .local), ("known", .local), ("free", .local), ("found", .local), ("factor", .cell), ("told_in", .globalImplicit), ("reduced", .globalImplicit), ("rows_of", .globalImplicit), ("enumerate", .globalImplicit), ("int", .globalImplicit), ("rest_of", .globalImplicit), ("inverse_in", .globalImplicit), ("tuple", .globalImplicit)], false, false, (defScope (top 37)).more⟩
def sc_witness : Scope := ⟨.function, [("code", .local), ("lot", .local), ("need_lot_of", .globalImplicit), ("need_code", .globalImplicit), ("witness_in", .globalImplicit)], false, false, (defScope (top 38)).more⟩
def sc_lots_with : Scope := ⟨.function, [("many", .local), ("size", .cell), ("found", .local), ("number", .cell), ("range", .globalImplicit), ("sorted", .globalImplicit)], false, false, (defScope (top 39)).more⟩
def sc_profile_by : Scope := ⟨.function, [("code", .cell), ("many", .cell), ("len", .globalImplicit), ("range", .globalImplicit)], false, false, (defScope (top 40)).more⟩
def sc_code_profile : Scope := ⟨.function, [("code", .local), ("tuple", .globalImplicit), ("profile_by", .globalImplicit), ("need_code", .globalImplicit)], false, false, (defScope (top 41)).more⟩
def sc__law_mixed : Scope := ⟨.function, [("_law_cell", .local), ("_law_k", .local), ("int", .globalImplicit)], false, false, (defScope (top 43)).more⟩
def sc__law_begin : Scope := ⟨.function, [("_law_script", .local), ("_law_cells", .local), ("list", .globalImplicit)], false, false, (defScope (top 44)).more⟩
def sc__law_draw : Scope := ⟨.function, [("_law_state", .local), ("_law_many", .local), ("_law_at", .local), ("_law_place", .local), ("_law_left", .local), ("_law_number", .local), ("int", .globalImplicit), ("len", .globalImplicit), ("_law_mixed", .globalImplicit)], false, false, (defScope (top 45)).more⟩
def sc__law_of : Scope := ⟨.function, [("_law_state", .local), ("_law_some", .local), ("_law_draw", .globalImplicit), ("len", .globalImplicit)], false, false, (defScope (top 46)).more⟩
def sc__law_back : Scope := ⟨.function, [("_law_prime_so", .cell), ("_law_sign", .cell), ("range", .globalImplicit)], false, false, (defScope (top 47)).more⟩
def sc__law_value : Scope := ⟨.function, [("_law_prime_so", .local), ("_law_block", .local), ("_law_sign", .local), ("_law_got", .local), ("_law_power", .local), ("_law_one", .local), ("int", .globalImplicit)], false, false, (defScope (top 48)).more⟩
def sc__law_between : Scope := ⟨.function, [("_law_prime_so", .local), ("_law_points", .local), ("_law_sign", .local), ("_law_got", .local), ("_law_one", .local), ("_law_height", .local), ("_law_top", .local), ("_law_bottom", .local), ("_law_far", .local), ("_law_rest", .local), ("_law_back", .globalImplicit), ("int", .globalImplicit)], false, false, (defScope (top 49)).more⟩
def sc__law_needs : Scope := ⟨.function, [("_law_shares_here", .local), ("_law_got", .local), ("_law_spot", .local), ("_law_share", .local), ("enumerate", .globalImplicit)], false, false, (defScope (top 50)).more⟩
def sc__law_stair : Scope := ⟨.function, [("_law_shares_here", .local), ("_law_got", .local), ("_law_last", .local), ("_law_spot", .local), ("_law_share", .local), ("enumerate", .globalImplicit), ("tuple", .globalImplicit)], false, false, (defScope (top 51)).more⟩
def sc__law_letters : Scope := ⟨.function, [("_law_prime_so", .cell), ("_law_shares_here", .local), ("_law_message_so", .local), ("_law_blocks", .local), ("_law_at", .local), ("_law_need", .local), ("_law_got", .local), ("_law_spot", .cell), ("_law_needs", .globalImplicit), ("range", .globalImplicit), ("len", .globalImplicit), ("tuple", .globalImplicit)], false, false, (defScope (top 52)).more⟩
def sc__law_prime : Scope := ⟨.function, [("_law_state", .local), ("_law_draw", .globalImplicit)], false, false, (defScope (top 53)).more⟩
def sc__law_shares : Scope := ⟨.function, [("_law_state", .local), ("_law_most", .local), ("_law_got", .local), ("_law_left", .local), ("_law_k", .local), ("_law_share", .local), ("_law_draw", .globalImplicit), ("range", .globalImplicit), ("min", .globalImplicit), ("tuple", .globalImplicit)], false, false, (defScope (top 54)).more⟩
def sc__law_message : Scope := ⟨.function, [("_law_state", .cell), ("_law_prime_so", .cell), ("_law_many", .local), ("tuple", .globalImplicit), ("range", .globalImplicit)], false, false, (defScope (top 55)).more⟩
def sc__law_lot : Scope := ⟨.function, [("_law_state", .cell), ("_law_many", .local), ("tuple", .globalImplicit), ("range", .globalImplicit)], false, false, (defScope (top 56)).more⟩
def sc__law_rank : Scope := ⟨.function, [("_law_prime_so", .cell), ("_law_rows", .local), ("_law_row", .local), ("_law_left", .local), ("_law_got", .local), ("_law_place", .cell), ("_law_some", .local), ("_law_first", .local), ("_law_later", .local), ("_law_back_here", .local), ("_law_factor", .cell), ("range", .globalImplicit), ("len", .globalImplicit), ("_law_back", .globalImplicit), ("zip", .globalImplicit), ("list", .globalImplicit)], false, false, (defScope (top 57)).more⟩
def sc__law_forms : Scope := ⟨.function, [("_law_code_so", .local), ("_law_lot_here", .local), ("_law_got", .local), ("_law_number", .local)], false, false, (defScope (top 58)).more⟩
def sc__law_reach : Scope := ⟨.function, [("_law_code_so", .local), ("_law_lot_here", .local), ("_law_prime_so", .local), ("_law_many", .local), ("_law_letters_so", .local), ("_law_rows", .local), ("_law_got", .local), ("_law_spot", .cell), ("_law_unit", .local), ("_law_forms", .globalImplicit), ("range", .globalImplicit), ("_law_rank", .globalImplicit)], false, false, (defScope (top 59)).more⟩
def sc__law_lots : Scope := ⟨.function, [("_law_many", .local), ("_law_few", .cell), ("_law_rows", .local), ("_law_one", .cell), ("range", .globalImplicit), ("sorted", .globalImplicit)], false, false, (defScope (top 60)).more⟩
def sc__law_least : Scope := ⟨.function, [("_law_code_so", .cell), ("_law_many", .cell), ("len", .globalImplicit), ("tuple", .globalImplicit), ("range", .globalImplicit)], false, false, (defScope (top 61)).more⟩
def sc__law_code : Scope := ⟨.function, [("_law_state", .cell), ("_law_prime_so", .cell), ("_law_many", .cell), ("_law_k", .local), ("_law_basis", .local), ("_law_letters_so", .local), ("_law_long", .local), ("_law_letter", .local), ("_law_place", .local), ("_law_way", .local), ("_law_one", .local), ("_law_far", .local), ("_law_at", .cell), ("_law_prime", .globalImplicit), ("_law_draw", .globalImplicit), ("range", .globalImplicit), ("_law_of", .globalImplicit), ("tuple", .globalImplicit), ("zip", .globalImplicit), ("_law_message", .globalImplicit)], false, false, (defScope (top 62)).more⟩
def sc__law_is_witness : Scope := ⟨.function, [("_law_code_so", .local), ("_law_lot_here", .local), ("_law_thing", .local), ("_law_prime_so", .cell), ("_law_many", .local), ("_law_letters_so", .local), ("_law_reach_here", .local), ("_law_form", .local), ("_law_reach", .globalImplicit), ("isinstance", .globalImplicit), ("tuple", .globalImplicit), ("len", .globalImplicit), ("_law_forms", .globalImplicit), ("int", .globalImplicit), ("sum", .globalImplicit), ("zip", .globalImplicit)], false, false, (defScope (top 63)).more⟩
def sc__law_code_right : Scope := ⟨.function, [("_law_state", .local), ("_law_code_so", .local), ("_law_prime_so", .cell), ("_law_many", .local), ("_law_letters_so", .local), ("_law_k", .local), ("_law_message_so", .cell), ("_law_due", .local), ("_law_letter", .local), ("_law_sums", .local), ("_law_few", .local), ("_law_lot_here", .local), ("_law_reach_here", .local), ("_law_shown", .local), ("need_code", .globalImplicit), ("range", .globalImplicit), ("_law_message", .globalImplicit), ("tuple", .globalImplicit), ("letters_by", .globalImplicit), ("len", .globalImplicit), ("_law_lots", .globalImplicit), ("_law_reach", .globalImplicit), ("content", .globalImplicit), ("_law_rank", .globalImplicit), ("_law_forms", .globalImplicit), ("told", .globalImplicit), ("witness", .globalImplicit), ("_law_is_witness", .globalImplicit), ("_law_least", .globalImplicit), ("code_profile", .globalImplicit)], false, false, (defScope (top 64)).more⟩
def sc_law : Scope := ⟨.function, [("_law_script", .local), ("_law_state", .local), ("_law_turn", .local), ("_law_one", .local), ("_law_none", .local), ("_law_code_so", .local), ("_law_begin", .globalImplicit), ("range", .globalImplicit), ("_law_code_right", .globalImplicit), ("_law_code", .globalImplicit), ("code_profile", .globalImplicit), ("content", .globalImplicit), ("told", .globalImplicit), ("witness", .globalImplicit), ("letters_by", .globalImplicit)], false, false, (defScope (top 65)).more⟩
end Lw
namespace Lw
open PySem PySem.Spec PyProof.Rows L2 PF
namespace Hd
open He in
def fa : List Fa := [.glo "is_integer", .glo "is_between", .glo "are_rising", .glo "need_prime", .glo "is_sign", .glo "are_signs", .glo "need_message", .glo "rest_of", .glo "inverse_in", .glo "is_letter", .glo "need_code", .glo "is_lot_of", .glo "need_lot_of", .glo "sign_by", .glo "letters_in", .glo "letters_by", .glo "reduced", .glo "cleared", .glo "rows_of", .glo "content_in", .glo "content", .glo "told_in", .glo "told", .glo "witness_in", .glo "witness", .glo "lots_with", .glo "profile_by", .glo "code_profile", .glo "_law_mixed", .glo "_law_begin", .glo "_law_draw", .glo "_law_of", .glo "_law_back", .glo "_law_value", .glo "_law_between", .glo "_law_needs", .glo "_law_stair", .glo "_law_letters", .glo "_law_prime", .glo "_law_shares", .glo "_law_message", .glo "_law_lot", .glo "_law_rank", .glo "_law_forms", .glo "_law_reach", .glo "_law_lots", .glo "_law_least", .glo "_law_code", .glo "_law_is_witness", .glo "_law_code_right", .glo "law", .glo "PRIMES", .int "MOST_SIGNS" 96, .int "MOST_CODED" 12, .int "MOST_CODE_LETTERS" 6, .int "MOST_LENGTH" 6, .free "list", .free "isinstance", .free "int", .free "bool", .free "all", .free "zip", .free "tuple", .free "len", .free "range", .free "enumerate", .free "sum", .free "sorted", .free "min"]
def d_is_integer : He.DefD := ⟨("is_integer", none), "is_integer", "is_integer", defArgs (top 7), defBody (top 7), sc_is_integer, [], []⟩
def d_is_between : He.DefD := ⟨("is_between", none), "is_between", "is_between", defArgs (top 11), defBody (top 11), sc_is_between, [], []⟩
def d_are_rising : He.DefD := ⟨("are_rising", none), "are_rising", "are_rising", defArgs (top 12), defBody (top 12), sc_are_rising, [], []⟩
def d_need_prime : He.DefD := ⟨("need_prime", none), "need_prime", "need_prime", defArgs (top 13), defBody (top 13), sc_need_prime, [], []⟩
def d_is_sign : He.DefD := ⟨("is_sign", none), "is_sign", "is_sign", defArgs (top 14), defBody (top 14), sc_is_sign, [], []⟩
def d_are_signs : He.DefD := ⟨("are_signs", none), "are_signs", "are_signs", defArgs (top 15), defBody (top 15), sc_are_signs, [], []⟩
def d_need_message : He.DefD := ⟨("need_message", none), "need_message", "need_message", defArgs (top 16), defBody (top 16), sc_need_message, [], []⟩
def d_rest_of : He.DefD := ⟨("rest_of", none), "rest_of", "rest_of", defArgs (top 17), defBody (top 17), sc_rest_of, [], []⟩
def d_inverse_in : He.DefD := ⟨("inverse_in", none), "inverse_in", "inverse_in", defArgs (top 18), defBody (top 18), sc_inverse_in, [], []⟩
def d_is_letter : He.DefD := ⟨("is_letter", none), "is_letter", "is_letter", defArgs (top 23), defBody (top 23), sc_is_letter, [], []⟩
def d_need_code : He.DefD := ⟨("need_code", none), "need_code", "need_code", defArgs (top 24), defBody (top 24), sc_need_code, [], []⟩
def d_is_lot_of : He.DefD := ⟨("is_lot_of", none), "is_lot_of", "is_lot_of", defArgs (top 25), defBody (top 25), sc_is_lot_of, [], []⟩
def d_need_lot_of : He.DefD := ⟨("need_lot_of", none), "need_lot_of", "need_lot_of", defArgs (top 26), defBody (top 26), sc_need_lot_of, [], []⟩
def d_sign_by : He.DefD := ⟨("sign_by", none), "sign_by", "sign_by", defArgs (top 27), defBody (top 27), sc_sign_by, [], []⟩
def d_letters_in : He.DefD := ⟨("letters_in", none), "letters_in", "letters_in", defArgs (top 28), defBody (top 28), sc_letters_in, [], []⟩
def d_letters_by : He.DefD := ⟨("letters_by", none), "letters_by", "letters_by", defArgs (top 29), defBody (top 29), sc_letters_by, [], []⟩
def d_reduced : He.DefD := ⟨("reduced", none), "reduced", "reduced", defArgs (top 30), defBody (top 30), sc_reduced, [], []⟩
def d_cleared : He.DefD := ⟨("cleared", none), "cleared", "cleared", defArgs (top 31), defBody (top 31), sc_cleared, [], []⟩
def d_rows_of : He.DefD := ⟨("rows_of", none), "rows_of", "rows_of", defArgs (top 32), defBody (top 32), sc_rows_of, [], []⟩
def d_content_in : He.DefD := ⟨("content_in", none), "content_in", "content_in", defArgs (top 33), defBody (top 33), sc_content_in, [], []⟩
def d_content : He.DefD := ⟨("content", none), "content", "content", defArgs (top 34), defBody (top 34), sc_content, [], []⟩
def d_told_in : He.DefD := ⟨("told_in", none), "told_in", "told_in", defArgs (top 35), defBody (top 35), sc_told_in, [], []⟩
def d_told : He.DefD := ⟨("told", none), "told", "told", defArgs (top 36), defBody (top 36), sc_told, [], []⟩
def d_witness_in : He.DefD := ⟨("witness_in", none), "witness_in", "witness_in", defArgs (top 37), defBody (top 37), sc_witness_in, [], []⟩
def d_witness : He.DefD := ⟨("witness", none), "witness", "witness", defArgs (top 38), defBody (top 38), sc_witness, [], []⟩
def d_lots_with : He.DefD := ⟨("lots_with", none), "lots_with", "lots_with", defArgs (top 39), defBody (top 39), sc_lots_with, [], []⟩
def d_profile_by : He.DefD := ⟨("profile_by", none), "profile_by", "profile_by", defArgs (top 40), defBody (top 40), sc_profile_by, [], []⟩
def d_code_profile : He.DefD := ⟨("code_profile", none), "code_profile", "code_profile", defArgs (top 41), defBody (top 41), sc_code_profile, [], []⟩
def d__law_mixed : He.DefD := ⟨("_law_mixed", none), "_law_mixed", "_law_mixed", defArgs (top 43), defBody (top 43), sc__law_mixed, [], []⟩
def d__law_begin : He.DefD := ⟨("_law_begin", none), "_law_begin", "_law_begin", defArgs (top 44), defBody (top 44), sc__law_begin, [], []⟩
def d__law_draw : He.DefD := ⟨("_law_draw", none), "_law_draw", "_law_draw", defArgs (top 45), defBody (top 45), sc__law_draw, [], []⟩
def d__law_of : He.DefD := ⟨("_law_of", none), "_law_of", "_law_of", defArgs (top 46), defBody (top 46), sc__law_of, [], []⟩
def d__law_back : He.DefD := ⟨("_law_back", none), "_law_back", "_law_back", defArgs (top 47), defBody (top 47), sc__law_back, [], []⟩
def d__law_value : He.DefD := ⟨("_law_value", none), "_law_value", "_law_value", defArgs (top 48), defBody (top 48), sc__law_value, [], []⟩
def d__law_between : He.DefD := ⟨("_law_between", none), "_law_between", "_law_between", defArgs (top 49), defBody (top 49), sc__law_between, [], []⟩
def d__law_needs : He.DefD := ⟨("_law_needs", none), "_law_needs", "_law_needs", defArgs (top 50), defBody (top 50), sc__law_needs, [], []⟩
def d__law_stair : He.DefD := ⟨("_law_stair", none), "_law_stair", "_law_stair", defArgs (top 51), defBody (top 51), sc__law_stair, [], []⟩
def d__law_letters : He.DefD := ⟨("_law_letters", none), "_law_letters", "_law_letters", defArgs (top 52), defBody (top 52), sc__law_letters, [], []⟩
def d__law_prime : He.DefD := ⟨("_law_prime", none), "_law_prime", "_law_prime", defArgs (top 53), defBody (top 53), sc__law_prime, [], []⟩
def d__law_shares : He.DefD := ⟨("_law_shares", none), "_law_shares", "_law_shares", defArgs (top 54), defBody (top 54), sc__law_shares, [], []⟩
def d__law_message : He.DefD := ⟨("_law_message", none), "_law_message", "_law_message", defArgs (top 55), defBody (top 55), sc__law_message, [], []⟩
def d__law_lot : He.DefD := ⟨("_law_lot", none), "_law_lot", "_law_lot", defArgs (top 56), defBody (top 56), sc__law_lot, [], []⟩
def d__law_rank : He.DefD := ⟨("_law_rank", none), "_law_rank", "_law_rank", defArgs (top 57), defBody (top 57), sc__law_rank, [], []⟩
def d__law_forms : He.DefD := ⟨("_law_forms", none), "_law_forms", "_law_forms", defArgs (top 58), defBody (top 58), sc__law_forms, [], []⟩
def d__law_reach : He.DefD := ⟨("_law_reach", none), "_law_reach", "_law_reach", defArgs (top 59), defBody (top 59), sc__law_reach, [], []⟩
def d__law_lots : He.DefD := ⟨("_law_lots", none), "_law_lots", "_law_lots", defArgs (top 60), defBody (top 60), sc__law_lots, [], []⟩
def d__law_least : He.DefD := ⟨("_law_least", none), "_law_least", "_law_least", defArgs (top 61), defBody (top 61), sc__law_least, [], []⟩
def d__law_code : He.DefD := ⟨("_law_code", none), "_law_code", "_law_code", defArgs (top 62), defBody (top 62), sc__law_code, [], []⟩
def d__law_is_witness : He.DefD := ⟨("_law_is_witness", none), "_law_is_witness", "_law_is_witness", defArgs (top 63), defBody (top 63), sc__law_is_witness, [], []⟩
def d__law_code_right : He.DefD := ⟨("_law_code_right", none), "_law_code_right", "_law_code_right", defArgs (top 64), defBody (top 64), sc__law_code_right, [], []⟩
def d_law : He.DefD := ⟨("law", none), "law", "law", defArgs (top 65), defBody (top 65), sc_law, [], []⟩
def fn1 : List He.DefD := [d_is_integer, d_is_between, d_are_rising, d_need_prime, d_is_sign, d_are_signs, d_need_message, d_rest_of, d_inverse_in, d_is_letter, d_need_code, d_is_lot_of, d_need_lot_of, d_sign_by, d_letters_in, d_letters_by, d_reduced, d_cleared, d_rows_of, d_content_in, d_content, d_told_in, d_told, d_witness_in, d_witness]
def fn2 : List He.DefD := [d_lots_with, d_profile_by, d_code_profile, d__law_mixed, d__law_begin, d__law_draw, d__law_of, d__law_back, d__law_value, d__law_between, d__law_needs, d__law_stair, d__law_letters, d__law_prime, d__law_shares, d__law_message, d__law_lot, d__law_rank, d__law_forms, d__law_reach, d__law_lots, d__law_least, d__law_code, d__law_is_witness, d__law_code_right, d_law]
def fn : List He.DefD := fn1 ++ fn2
open He in
def ex : PySem.W.Frag → Bool := fun K => (tupB K "PRIMES" [(.int 11), (.int 13), (.int 17), (.int 19), (.int 23)]) && (noObj K) && (true)
def names0 : List Str := ["NestError", "BadCode", "BadPrime", "BadMessage", "BadLot", "PRIMES", "MOST_SIGNS", "MOST_CODED", "MOST_CODE_LETTERS", "MOST_LENGTH", "is_integer", "is_between", "are_rising", "need_prime", "is_sign", "are_signs", "need_message", "rest_of", "inverse_in", "is_letter"]
def names1 : List Str := ["need_code", "is_lot_of", "need_lot_of", "sign_by", "letters_in", "letters_by", "reduced", "cleared", "rows_of", "content_in", "content", "told_in", "told", "witness_in", "witness", "lots_with", "profile_by", "code_profile", "_law_mixed", "_law_begin"]
def names2 : List Str := ["_law_draw", "_law_of", "_law_back", "_law_value", "_law_between", "_law_needs", "_law_stair", "_law_letters", "_law_prime", "_law_shares", "_law_message", "_law_lot", "_law_rank", "_law_forms", "_law_reach", "_law_lots", "_law_least", "_law_code", "_law_is_witness", "_law_code_right"]
def names : List Str := names0 ++ names1 ++ names2
abbrev R : PySem.W.OpenRow := PySem.W.OpenLaw.row PySem.Challenge.rw_nestletters_k06_whole_codes
open He in
def ts : List Tab := []
def ads : List Addr := [1, 2, 3, 6, 4, 24, 44, 63, 82, 101, 110, 111, 118, 123, 130, 137, 142, 149, 156, 161, 166, 173, 178, 185, 190, 195, 202, 207, 212, 217, 224, 231, 236, 243, 248, 255, 260, 265, 270, 277, 282, 289, 296, 301, 308, 315, 322, 329, 334, 341, 348, 353, 358, 363, 368, 373, 378, 383, 388, 393, 398, 405, 0, 23, 43, 62, 81, 100, 109, 117, 122, 129, 136, 141, 148, 155, 160, 165, 172, 177, 184, 189, 194, 201, 206, 211, 216, 223, 230, 235, 242, 247, 254, 259, 264, 269, 276, 281, 288, 295, 300, 307, 314, 321, 328, 333, 340, 347, 352, 357, 362, 367, 372, 377, 382, 387, 392, 397, 404, 22, 25, 41, 42, 60, 61, 79, 80, 98, 99, 104, 105, 106, 107, 108, 112, 113, 114, 115, 116, 119, 120, 121, 124, 125, 126, 127, 128, 131, 132, 133, 134, 135, 138, 139, 140, 143, 144, 145, 146, 147, 150, 151, 152, 153, 154, 157, 158, 159, 162, 163, 164, 167, 168, 169, 170, 171, 174, 175, 176, 179, 180, 181, 182, 183, 186, 187, 188, 191, 192, 193, 196, 197, 198, 199, 200, 203, 204, 205, 208, 209, 210, 213, 214, 215, 218, 219, 220, 221, 222, 225, 226, 227, 228, 229, 232, 233, 234, 237, 238, 239, 240, 241, 244, 245, 246, 249, 250, 251, 252, 253, 256, 257, 258, 261, 262, 263, 266, 267, 268, 271, 272, 273, 274, 275, 278, 279, 280, 283, 284, 285, 286, 287, 290, 291, 292, 293, 294, 297, 298, 299, 302, 303, 304, 305, 306, 309, 310, 311, 312, 313, 316, 317, 318, 319, 320, 323, 324, 325, 326, 327, 330, 331, 332, 335, 336, 337, 338, 339, 342, 343, 344, 345, 346, 349, 350, 351, 354, 355, 356, 359, 360, 361, 364, 365, 366, 369, 370, 371, 374, 375, 376, 379, 380, 381, 384, 385, 386, 389, 390, 391, 394, 395, 396, 399, 400, 401, 402, 403, 40, 59, 78, 97]
abbrev hk : PySem.W.Hook := hookK ads fa fn ts ex
def ob (s : PySem.W.SharedT) : AlK := obsK ads fa fn ts ex (HandSHeadRun.getT s)
theorem ob_eq (s : PySem.W.SharedT) : ob s = hk.obs s.abs := obsK_eq (HandSHeadRun.getT_eq s)
open HandSHeadRun PySem.W He in
set_option maxHeartbeats 0 in
theorem runZ : ∀ w : World, RunV R 8000 w (fun s => (looksF R.prog (boot_heap w.params) s.abs, seenQ (PySem.W.view R.prog [65]) names (importedModules R.prog.main.body) (fun s => xlAt (PySem.W.view R.prog [65]) [] s && recOk R.toRowW.records s) s.abs)) (true, openGood (PySem.W.view R.prog [65]) names) := by
  intro w os
  kernel_rfl
open HandSHeadRun PySem.W He in
set_option maxHeartbeats 0 in
theorem runA : ∀ w : World, RunV R 8000 w (fun s => obsD fa fn1 (frT (getT s) ads)) (valD fn1) := by
  intro w os
  kernel_rfl
open HandSHeadRun PySem.W He in
set_option maxHeartbeats 0 in
theorem runB : ∀ w : World, RunV R 8000 w (fun s => obsD [] fn2 (frT (getT s) ads)) (valD fn2) := by
  intro w os
  kernel_rfl
open HandSHeadRun PySem.W He in
set_option maxHeartbeats 0 in
theorem runC : ∀ w : World, RunV R 8000 w (fun s => ex (frT (getT s) ads)) true := by
  intro w os
  kernel_rfl
open HandSHeadRun PySem.W He in
set_option maxHeartbeats 0 in
theorem runD : ∀ w : World, RunV R 8000 w (fun s => tabOkB (getT s) (frT (getT s) ads)) true := by
  intro w os
  kernel_rfl
open HandSHeadRun PySem.W He in
set_option maxHeartbeats 0 in
theorem runE : ∀ w : World, RunV R 8000 w (fun s => ts.map fun t => dicW (frT (getT s) ads) (t.1 (frT (getT s) ads))) (valTs ts w) := by
  intro w os
  kernel_rfl
theorem run (w : World) : HandSHeadRun.RunEq R (PySem.W.view R.prog [65]) hk ob 8000 names w := run_partsK (runZ w) (runA w) (runB w) (runC w) (runD w) (runE w)
end Hd
end Lw
namespace Lw
open PySem PySem.Spec PyProof.Rows L2 PF
section
variable {P : Program} {w : World} {K : PySem.W.Frag} {mg : Str → Option Value} {base : Heap}
theorem ok_is_integer {f : Addr} {fd : FuncData} (F : FnP K "is_integer" (top 7) sc_is_integer f fd) (gl : mg "is_integer" = some (.ref f)) (om : noObj K = true) (m_isinstance : mg "isinstance" = none) (m_int : mg "int" = none) (m_bool : mg "bool" = none) : FnGs P w K mg base 1 "is_integer" ["thing"] F_is_integer := by
  have sc : FnScope ["thing"] ["thing"] sc_is_integer := ⟨rfl, rfl, rfl, by decide +kernel, rfl, by decide +kernel, by decide +kernel⟩
  refine ⟨f, fd, fn_trG (k := 0) F sc (fun Γ cdv A outer s H E hcd hgd hr => ?_), gl, F.kp, F.bindsN fun _ _ _ _ _ _ us hl => match us, hl with | [_], _ => rfl⟩
  have tk : Takes (cxOf (L2.CX P w) P w K mg base ["thing"] "is_integer" sc_is_integer f cdv A outer s H E) (wOf E) := takes_of rfl rfl rfl rfl
  exact (trs_one (tr_ret (tr_and (tr_isi isi_int rfl m_isinstance rfl m_int boot_ty_int (tr_var 0)) (tr_one (tr_not (tr_isi isi_bool rfl m_isinstance rfl m_bool boot_ty_bool (tr_var 0)))))))
theorem ok_is_between {f : Addr} {fd : FuncData} (F : FnP K "is_between" (top 11) sc_is_between f fd) (gl : mg "is_between" = some (.ref f)) (om : noObj K = true) (h_is_integer : FnGs P w K mg base 1 "is_integer" ["thing"] F_is_integer) : FnGs P w K mg base 2 "is_between" ["thing", "least", "most"] F_is_between := by
  have sc : FnScope ["thing", "least", "most"] ["thing", "least", "most"] sc_is_between := ⟨rfl, rfl, rfl, by decide +kernel, rfl, by decide +kernel, by decide +kernel⟩
  refine ⟨f, fd, fn_trG (k := 1) F sc (fun Γ cdv A outer s H E hcd hgd hr => ?_), gl, F.kp, F.bindsN fun _ _ _ _ _ _ us hl => match us, hl with | [_, _, _], _ => rfl⟩
  have tk : Takes (cxOf (L2.CX P w) P w K mg base ["thing", "least", "most"] "is_between" sc_is_between f cdv A outer s H E) (wOf E) := takes_of rfl rfl rfl rfl
  exact (trs_one (tr_ret (tr_and (tr_callG h_is_integer hgd (hr.mono (by decide)) tk rfl (tra_cons (tr_var 0) tra_nil)) (tr_one (tr_chain op_le op_le sem_le sem_le (tr_var 1) (tr_var 0) (tr_var 2))))))
theorem ok_are_rising {f : Addr} {fd : FuncData} (F : FnP K "are_rising" (top 12) sc_are_rising f fd) (gl : mg "are_rising" = some (.ref f)) (om : noObj K = true) (m_all : mg "all" = none) (m_zip : mg "zip" = none) : FnGs P w K mg base 1 "are_rising" ["some"] F_are_rising := by
  have sc : FnScope ["some", "one", "other"] ["some"] sc_are_rising := ⟨rfl, rfl, rfl, by decide +kernel, rfl, by decide +kernel, by decide +kernel⟩
  refine ⟨f, fd, fn_trG (k := 0) F sc (fun Γ cdv A outer s H E hcd hgd hr => ?_), gl, F.kp, F.bindsN fun _ _ _ _ _ _ us hl => match us, hl with | [_], _ => rfl⟩
  have tk : Takes (cxOf (L2.CX P w) P w K mg base ["some", "one", "other"] "are_rising" sc_are_rising f cdv A outer s H E) (wOf E) := takes_of rfl rfl rfl rfl
  exact (trs_one (tr_ret (tr_callB (cr_all rfl) sem_all rfl m_all bo_all (tra_cons (tr_lc (own := [("one", 1), ("other", 2)]) rfl sc.nd (tri_zip rfl m_zip (tra_cons (tr_var 0) (tra_cons (tr_slice (tr_var 0) (tro_some tr_int) tro_no) tra_nil))) (blkOk_by (N := ["some", "one", "other"]) (sc := sc_are_rising) (by decide +kernel)) (by decide) (fun _ _ _ _ _ => (trg_tup rfl (trgs_cons (trg_name sc.nd rfl (by first | exact .inl rfl | exact .inr rfl)) (trgs_cons (trg_name sc.nd rfl (by first | exact .inl rfl | exact .inr rfl)) trgs_nil)))) (fun _ _ _ _ _ => trt_nil) (fun _ _ _ _ _ => (tr_cmp op_lt sem_lt (tr_var 1) (tr_var 2) (nomark _)))) tra_nil))))
theorem ok_need_prime {f : Addr} {fd : FuncData} (F : FnP K "need_prime" (top 13) sc_need_prime f fd) (gl : mg "need_prime" = some (.ref f)) (om : noObj K = true) (c_PRIMES : CsIs K mg "PRIMES" k_PRIMES) (h_is_integer : FnGs P w K mg base 1 "is_integer" ["thing"] F_is_integer) : FnGs P w K mg base 2 "need_prime" ["prime"] F_need_prime := by
  have sc : FnScope ["prime"] ["prime"] sc_need_prime := ⟨rfl, rfl, rfl, by decide +kernel, rfl, by decide +kernel, by decide +kernel⟩
  refine ⟨f, fd, fn_trG (k := 1) F sc (fun Γ cdv A outer s H E hcd hgd hr => ?_), gl, F.kp, F.bindsN fun _ _ _ _ _ _ us hl => match us, hl with | [_], _ => rfl⟩
  have tk : Takes (cxOf (L2.CX P w) P w K mg base ["prime"] "need_prime" sc_need_prime f cdv A outer s H E) (wOf E) := takes_of rfl rfl rfl rfl
  exact (trs_one (tr_ifs (TrW.toB (trw_or (trb_not (trb_tru (tr_callG h_is_integer hgd (hr.mono (by decide)) tk rfl (tra_cons (tr_var 0) tra_nil)))) (trw_or1 (trb_cmp (op_ninW (Room.units65 hr)) sem_nin (tr_var 0) (tr_cs c_PRIMES rfl) (by with_unfolding_all rfl))))) (trs_one tr_never) trs_nil))
theorem ok_is_sign {f : Addr} {fd : FuncData} (F : FnP K "is_sign" (top 14) sc_is_sign f fd) (gl : mg "is_sign" = some (.ref f)) (om : noObj K = true) (h_is_between : FnGs P w K mg base 2 "is_between" ["thing", "least", "most"] F_is_between) : FnGs P w K mg base 3 "is_sign" ["prime", "thing"] F_is_sign := by
  have sc : FnScope ["prime", "thing"] ["prime", "thing"] sc_is_sign := ⟨rfl, rfl, rfl, by decide +kernel, rfl, by decide +kernel, by decide +kernel⟩
  refine ⟨f, fd, fn_trG (k := 2) F sc (fun Γ cdv A outer s H E hcd hgd hr => ?_), gl, F.kp, F.bindsN fun _ _ _ _ _ _ us hl => match us, hl with | [_, _], _ => rfl⟩
  have tk : Takes (cxOf (L2.CX P w) P w K mg base ["prime", "thing"] "is_sign" sc_is_sign f cdv A outer s H E) (wOf E) := takes_of rfl rfl rfl rfl
  exact (trs_one (tr_ret (tr_callG h_is_between hgd (hr.mono (by decide)) tk rfl (tra_cons (tr_var 1) (tra_cons tr_int (tra_cons (tr_op op_sub sem_sub (tr_var 0) tr_int) tra_nil))))))
theorem ok_are_signs {f : Addr} {fd : FuncData} (F : FnP K "are_signs" (top 15) sc_are_signs f fd) (gl : mg "are_signs" = some (.ref f)) (om : noObj K = true) (m_isinstance : mg "isinstance" = none) (m_tuple : mg "tuple" = none) (m_all : mg "all" = none) (h_is_sign : FnGs P w K mg base 3 "is_sign" ["prime", "thing"] F_is_sign) : FnGs P w K mg base 4 "are_signs" ["prime", "thing"] F_are_signs := by
  have sc : FnScope ["prime", "thing", "one"] ["prime", "thing"] sc_are_signs := ⟨rfl, rfl, rfl, by decide +kernel, rfl, by decide +kernel, by decide +kernel⟩
  refine ⟨f, fd, fn_trG (k := 3) F sc (fun Γ cdv A outer s H E hcd hgd hr => ?_), gl, F.kp, F.bindsN fun _ _ _ _ _ _ us hl => match us, hl with | [_, _], _ => rfl⟩
  have tk : Takes (cxOf (L2.CX P w) P w K mg base ["prime", "thing", "one"] "are_signs" sc_are_signs f cdv A outer s H E) (wOf E) := takes_of rfl rfl rfl rfl
  exact (trs_one (tr_ret (tr_and (tr_isi isi_tuple rfl m_isinstance rfl m_tuple boot_ty_tuple (tr_var 1)) (tr_one (tr_callB (cr_all rfl) sem_all rfl m_all bo_all (tra_cons (tr_lc (own := [("one", 2)]) rfl sc.nd (tri_tup (tr_var 1)) (blkOk_by (N := ["prime", "thing", "one"]) (sc := sc_are_signs) (by decide +kernel)) (by decide) (fun _ _ _ _ _ => (trg_name sc.nd rfl (by first | exact .inl rfl | exact .inr rfl))) (fun _ _ _ _ _ => trt_nil) (fun _ _ _ _ _ => (tr_callG h_is_sign hgd (hr.mono (by decide)) takes0 rfl (tra_cons (tr_var 0) (tra_cons (tr_var 2) tra_nil))))) tra_nil))))))
theorem ok_need_message {f : Addr} {fd : FuncData} (F : FnP K "need_message" (top 16) sc_need_message f fd) (gl : mg "need_message" = some (.ref f)) (om : noObj K = true) (m_len : mg "len" = none) (c_MOST_SIGNS : CsIs K mg "MOST_SIGNS" k_MOST_SIGNS) (h_need_prime : FnGs P w K mg base 2 "need_prime" ["prime"] F_need_prime) (h_are_signs : FnGs P w K mg base 4 "are_signs" ["prime", "thing"] F_are_signs) : FnGs P w K mg base 5 "need_message" ["prime", "thing"] F_need_message := by
  have sc : FnScope ["prime", "thing"] ["prime", "thing"] sc_need_message := ⟨rfl, rfl, rfl, by decide +kernel, rfl, by decide +kernel, by decide +kernel⟩
  refine ⟨f, fd, fn_trG (k := 4) F sc (fun Γ cdv A outer s H E hcd hgd hr => ?_), gl, F.kp, F.bindsN fun _ _ _ _ _ _ us hl => match us, hl with | [_, _], _ => rfl⟩
  have tk : Takes (cxOf (L2.CX P w) P w K mg base ["prime", "thing"] "need_message" sc_need_message f cdv A outer s H E) (wOf E) := takes_of rfl rfl rfl rfl
  exact (trs_cons (tr_expr (tr_callG h_need_prime hgd (hr.mono (by decide)) tk rfl (tra_cons (tr_var 0) tra_nil))) (trs_cons (tr_ifs (TrW.toB (trw_or (trb_not (trb_tru (tr_callG h_are_signs hgd (hr.mono (by decide)) tk rfl (tra_cons (tr_var 0) (tra_cons (tr_var 1) tra_nil))))) (trw_or1 (trb_cmp op_gt sem_gt (tr_callB call_len sem_len rfl m_len bo_len (tra_cons (tr_var 1) tra_nil)) (tr_cs c_MOST_SIGNS rfl) (nomark _))))) (trs_one tr_never) trs_nil) (trs_one (tr_ret (tr_var 1)))))
theorem ok_rest_of {f : Addr} {fd : FuncData} (F : FnP K "rest_of" (top 17) sc_rest_of f fd) (gl : mg "rest_of" = some (.ref f)) (om : noObj K = true) (m_int : mg "int" = none) : FnGs P w K mg base 1 "rest_of" ["prime", "number"] F_rest_of := by
  have sc : FnScope ["prime", "number"] ["prime", "number"] sc_rest_of := ⟨rfl, rfl, rfl, by decide +kernel, rfl, by decide +kernel, by decide +kernel⟩
  refine ⟨f, fd, fn_trG (k := 0) F sc (fun Γ cdv A outer s H E hcd hgd hr => ?_), gl, F.kp, F.bindsN fun _ _ _ _ _ _ us hl => match us, hl with | [_, _], _ => rfl⟩
  have tk : Takes (cxOf (L2.CX P w) P w K mg base ["prime", "number"] "rest_of" sc_rest_of f cdv A outer s H E) (wOf E) := takes_of rfl rfl rfl rfl
  exact (trs_one (tr_ret (tr_op op_mod sem_mod (tr_callTy call_int1 sem_int1 rfl m_int bo_int (tra_cons (tr_var 1) tra_nil)) (tr_var 0))))
theorem ok_inverse_in {f : Addr} {fd : FuncData} (F : FnP K "inverse_in" (top 18) sc_inverse_in f fd) (gl : mg "inverse_in" = some (.ref f)) (om : noObj K = true) (m_range : mg "range" = none) (h_rest_of : FnGs P w K mg base 1 "rest_of" ["prime", "number"] F_rest_of) : FnGs P w K mg base 2 "inverse_in" ["prime", "sign"] F_inverse_in := by
  have sc : FnScope ["prime", "sign", "one"] ["prime", "sign"] sc_inverse_in := ⟨rfl, rfl, rfl, by decide +kernel, rfl, by decide +kernel, by decide +kernel⟩
  refine ⟨f, fd, fn_trG (k := 1) F sc (fun Γ cdv A outer s H E hcd hgd hr => ?_), gl, F.kp, F.bindsN fun _ _ _ _ _ _ us hl => match us, hl with | [_, _], _ => rfl⟩
  have tk : Takes (cxOf (L2.CX P w) P w K mg base ["prime", "sign", "one"] "inverse_in" sc_inverse_in f cdv A outer s H E) (wOf E) := takes_of rfl rfl rfl rfl
  exact (trs_one (tr_ret (tr_ix ix_seq sem_ix (tr_lc (own := [("one", 2)]) rfl sc.nd (tri_rng2 rfl m_range (tra_cons tr_int (tra_cons (tr_var 0) tra_nil))) (blkOk_by (N := ["prime", "sign", "one"]) (sc := sc_inverse_in) (by decide +kernel)) (by decide) (fun _ _ _ _ _ => (trg_name sc.nd rfl (by first | exact .inl rfl | exact .inr rfl))) (fun _ _ _ _ _ => (trt_one (trb_cmp (op_eqS hr.units) sem_eqS (tr_callG h_rest_of hgd (hr.mono (by decide)) takes0 rfl (tra_cons (tr_var 0) (tra_cons (tr_op op_mulW sem_mul (tr_var 2) (tr_var 1)) tra_nil))) tr_int (nomark _)))) (fun _ _ _ _ _ => (tr_var 2))) tr_int)))
theorem ok_is_letter {f : Addr} {fd : FuncData} (F : FnP K "is_letter" (top 23) sc_is_letter f fd) (gl : mg "is_letter" = some (.ref f)) (om : noObj K = true) (m_isinstance : mg "isinstance" = none) (m_tuple : mg "tuple" = none) (m_len : mg "len" = none) (m_all : mg "all" = none) (c_MOST_LENGTH : CsIs K mg "MOST_LENGTH" k_MOST_LENGTH) (h_are_signs : FnGs P w K mg base 4 "are_signs" ["prime", "thing"] F_are_signs) : FnGs P w K mg base 5 "is_letter" ["prime", "many", "thing"] F_is_letter := by
  have sc : FnScope ["prime", "many", "thing", "form"] ["prime", "many", "thing"] sc_is_letter := ⟨rfl, rfl, rfl, by decide +kernel, rfl, by decide +kernel, by decide +kernel⟩
  refine ⟨f, fd, fn_trG (k := 4) F sc (fun Γ cdv A outer s H E hcd hgd hr => ?_), gl, F.kp, F.bindsN fun _ _ _ _ _ _ us hl => match us, hl with | [_, _, _], _ => rfl⟩
  have tk : Takes (cxOf (L2.CX P w) P w K mg base ["prime", "many", "thing", "form"] "is_letter" sc_is_letter f cdv A outer s H E) (wOf E) := takes_of rfl rfl rfl rfl
  exact (trs_cons (tr_ifs (TrW.toB (trw_or (trb_not (trb_tru (tr_isi isi_tuple rfl m_isinstance rfl m_tuple boot_ty_tuple (tr_var 2)))) (trw_or1 (trb_cmp op_gt sem_gt (tr_callB call_len sem_len rfl m_len bo_len (tra_cons (tr_var 2) tra_nil)) (tr_cs c_MOST_LENGTH rfl) (nomark _))))) (trs_one (tr_ret tr_bl)) trs_nil) (trs_one (tr_ret (tr_callB (cr_all rfl) sem_all rfl m_all bo_all (tra_cons (tr_lc (own := [("form", 3)]) rfl sc.nd (tri_tup (tr_var 2)) (blkOk_by (N := ["prime", "many", "thing", "form"]) (sc := sc_is_letter) (by decide +kernel)) (by decide) (fun _ _ _ _ _ => (trg_name sc.nd rfl (by first | exact .inl rfl | exact .inr rfl))) (fun _ _ _ _ _ => trt_nil) (fun _ _ _ _ _ => (tr_and (tr_callG h_are_signs hgd (hr.mono (by decide)) takes0 rfl (tra_cons (tr_var 0) (tra_cons (tr_var 3) tra_nil))) (tr_one (tr_cmp (op_eqS hr.units) sem_eqS (tr_callB call_len sem_len rfl m_len bo_len (tra_cons (tr_var 3) tra_nil)) (tr_var 1) (nomark _)))))) tra_nil)))))
theorem ok_need_code {f : Addr} {fd : FuncData} (F : FnP K "need_code" (top 24) sc_need_code f fd) (gl : mg "need_code" = some (.ref f)) (om : noObj K = true) (m_isinstance : mg "isinstance" = none) (m_tuple : mg "tuple" = none) (m_len : mg "len" = none) (m_enumerate : mg "enumerate" = none) (c_PRIMES : CsIs K mg "PRIMES" k_PRIMES) (c_MOST_CODED : CsIs K mg "MOST_CODED" k_MOST_CODED) (c_MOST_CODE_LETTERS : CsIs K mg "MOST_CODE_LETTERS" k_MOST_CODE_LETTERS) (h_is_integer : FnGs P w K mg base 1 "is_integer" ["thing"] F_is_integer) (h_is_between : FnGs P w K mg base 2 "is_between" ["thing", "least", "most"] F_is_between) (h_is_letter : FnGs P w K mg base 5 "is_letter" ["prime", "many", "thing"] F_is_letter) : FnGs P w K mg base 6 "need_code" ["thing"] F_need_code := by
  have sc : FnScope ["thing", "prime", "many", "letters", "number", "letter"] ["thing"] sc_need_code := ⟨rfl, rfl, rfl, by decide +kernel, rfl, by decide +kernel, by decide +kernel⟩
  refine ⟨f, fd, fn_trG (k := 5) F sc (fun Γ cdv A outer s H E hcd hgd hr => ?_), gl, F.kp, F.bindsN fun _ _ _ _ _ _ us hl => match us, hl with | [_], _ => rfl⟩
  have tk : Takes (cxOf (L2.CX P w) P w K mg base ["thing", "prime", "many", "letters", "number", "letter"] "need_code" sc_need_code f cdv A outer s H E) (wOf E) := takes_of rfl rfl rfl rfl
  exact (trs_cons (tr_ifs (TrW.toB (trw_or (trb_not (trb_tru (tr_isi isi_tuple rfl m_isinstance rfl m_tuple boot_ty_tuple (tr_var 0)))) (trw_or1 (trb_cmp (op_neS hr.units) sem_neS (tr_callB call_len sem_len rfl m_len bo_len (tra_cons (tr_var 0) tra_nil)) tr_int (nomark _))))) (trs_one tr_never) trs_nil) (trs_cons (tr_asg (tr_var 0) (trg_tup rfl (trgs_cons (trg_name sc.nd rfl (.inl rfl)) (trgs_cons (trg_name sc.nd rfl (.inl rfl)) (trgs_cons (trg_name sc.nd rfl (.inl rfl)) trgs_nil))))) (trs_cons (tr_ifs (TrW.toB (trw_or (trb_not (trb_tru (tr_callG h_is_integer hgd (hr.mono (by decide)) tk rfl (tra_cons (tr_var 1) tra_nil)))) (trw_or1 (trb_cmp (op_ninW (Room.units65 hr)) sem_nin (tr_var 1) (tr_cs c_PRIMES rfl) (by with_unfolding_all rfl))))) (trs_one tr_never) trs_nil) (trs_cons (tr_ifs (trb_not (trb_tru (tr_callG h_is_between hgd (hr.mono (by decide)) tk rfl (tra_cons (tr_var 2) (tra_cons tr_int (tra_cons (tr_cs c_MOST_CODED rfl) tra_nil)))))) (trs_one tr_never) trs_nil) (trs_cons (tr_ifs (TrW.toB (trw_or (trb_not (trb_tru (tr_isi isi_tuple rfl m_isinstance rfl m_tuple boot_ty_tuple (tr_var 3)))) (trw_or1 (trb_not (trb_chain op_le op_le sem_le sem_le tr_int (tr_callB call_len sem_len rfl m_len bo_len (tra_cons (tr_var 3) tra_nil)) (tr_cs c_MOST_CODE_LETTERS rfl)))))) (trs_one tr_never) trs_nil) (trs_cons (tr_for (passes_of rfl) rfl (tri_enT rfl m_enumerate (tra_cons (tr_var 3) tra_nil)) (trg_tup rfl (trgs_cons (trg_name sc.nd rfl (.inl rfl)) (trgs_cons (trg_name sc.nd rfl (.inl rfl)) trgs_nil))) (trs_one (tr_ifs (TrW.toB (trw_or (trb_not (trb_tru (tr_callG h_is_letter hgd (hr.mono (by decide)) tk rfl (tra_cons (tr_var 1) (tra_cons (tr_var 2) (tra_cons (tr_var 5) tra_nil)))))) (trw_or1 (trb_cmp (op_neS hr.units) sem_neS (tr_callB call_len sem_len rfl m_len bo_len (tra_cons (tr_var 5) tra_nil)) (tr_callB call_len sem_len rfl m_len bo_len (tra_cons (tr_ix ix_seq sem_ix (tr_var 3) tr_int) tra_nil)) (nomark _))))) (trs_one tr_never) trs_nil))) (trs_one (tr_ret (tr_var 0)))))))))
theorem ok_is_lot_of {f : Addr} {fd : FuncData} (F : FnP K "is_lot_of" (top 25) sc_is_lot_of f fd) (gl : mg "is_lot_of" = some (.ref f)) (om : noObj K = true) (m_isinstance : mg "isinstance" = none) (m_tuple : mg "tuple" = none) (m_all : mg "all" = none) (m_len : mg "len" = none) (h_is_between : FnGs P w K mg base 2 "is_between" ["thing", "least", "most"] F_is_between) (h_are_rising : FnGs P w K mg base 1 "are_rising" ["some"] F_are_rising) : FnGs P w K mg base 3 "is_lot_of" ["code", "thing"] F_is_lot_of := by
  have sc : FnScope ["code", "thing", "one"] ["code", "thing"] sc_is_lot_of := ⟨rfl, rfl, rfl, by decide +kernel, rfl, by decide +kernel, by decide +kernel⟩
  refine ⟨f, fd, fn_trG (k := 2) F sc (fun Γ cdv A outer s H E hcd hgd hr => ?_), gl, F.kp, F.bindsN fun _ _ _ _ _ _ us hl => match us, hl with | [_, _], _ => rfl⟩
  have tk : Takes (cxOf (L2.CX P w) P w K mg base ["code", "thing", "one"] "is_lot_of" sc_is_lot_of f cdv A outer s H E) (wOf E) := takes_of rfl rfl rfl rfl
  exact (trs_cons (tr_ifs (TrW.toB (trw_or (trb_not (trb_tru (tr_isi isi_tuple rfl m_isinstance rfl m_tuple boot_ty_tuple (tr_var 1)))) (trw_or1 (trb_not (trb_tru (tr_callB (cr_all rfl) sem_all rfl m_all bo_all (tra_cons (tr_lc (own := [("one", 2)]) rfl sc.nd (tri_tup (tr_var 1)) (blkOk_by (N := ["code", "thing", "one"]) (sc := sc_is_lot_of) (by decide +kernel)) (by decide) (fun _ _ _ _ _ => (trg_name sc.nd rfl (by first | exact .inl rfl | exact .inr rfl))) (fun _ _ _ _ _ => trt_nil) (fun _ _ _ _ _ => (tr_callG h_is_between hgd (hr.mono (by decide)) takes0 rfl (tra_cons (tr_var 2) (tra_cons tr_int (tra_cons (tr_op op_sub sem_sub (tr_callB call_len sem_len rfl m_len bo_len (tra_cons (tr_ix ix_seq sem_ix (tr_var 0) tr_int) tra_nil)) tr_int) tra_nil)))))) tra_nil))))))) (trs_one (tr_ret tr_bl)) trs_nil) (trs_one (tr_ret (tr_callG h_are_rising hgd (hr.mono (by decide)) tk rfl (tra_cons (tr_var 1) tra_nil)))))
theorem ok_need_lot_of {f : Addr} {fd : FuncData} (F : FnP K "need_lot_of" (top 26) sc_need_lot_of f fd) (gl : mg "need_lot_of" = some (.ref f)) (om : noObj K = true) (h_is_lot_of : FnGs P w K mg base 3 "is_lot_of" ["code", "thing"] F_is_lot_of) : FnGs P w K mg base 4 "need_lot_of" ["code", "lot"] F_need_lot_of := by
  have sc : FnScope ["code", "lot"] ["code", "lot"] sc_need_lot_of := ⟨rfl, rfl, rfl, by decide +kernel, rfl, by decide +kernel, by decide +kernel⟩
  refine ⟨f, fd, fn_trG (k := 3) F sc (fun Γ cdv A outer s H E hcd hgd hr => ?_), gl, F.kp, F.bindsN fun _ _ _ _ _ _ us hl => match us, hl with | [_, _], _ => rfl⟩
  have tk : Takes (cxOf (L2.CX P w) P w K mg base ["code", "lot"] "need_lot_of" sc_need_lot_of f cdv A outer s H E) (wOf E) := takes_of rfl rfl rfl rfl
  exact (trs_one (tr_ifs (trb_not (trb_tru (tr_callG h_is_lot_of hgd (hr.mono (by decide)) tk rfl (tra_cons (tr_var 0) (tra_cons (tr_var 1) tra_nil))))) (trs_one tr_never) trs_nil))
theorem ok_sign_by {f : Addr} {fd : FuncData} (F : FnP K "sign_by" (top 27) sc_sign_by f fd) (gl : mg "sign_by" = some (.ref f)) (om : noObj K = true) (m_sum : mg "sum" = none) (m_zip : mg "zip" = none) (h_rest_of : FnGs P w K mg base 1 "rest_of" ["prime", "number"] F_rest_of) : FnGs P w K mg base 2 "sign_by" ["prime", "form", "message"] F_sign_by := by
  have sc : FnScope ["prime", "form", "message", "one", "other"] ["prime", "form", "message"] sc_sign_by := ⟨rfl, rfl, rfl, by decide +kernel, rfl, by decide +kernel, by decide +kernel⟩
  refine ⟨f, fd, fn_trG (k := 1) F sc (fun Γ cdv A outer s H E hcd hgd hr => ?_), gl, F.kp, F.bindsN fun _ _ _ _ _ _ us hl => match us, hl with | [_, _, _], _ => rfl⟩
  have tk : Takes (cxOf (L2.CX P w) P w K mg base ["prime", "form", "message", "one", "other"] "sign_by" sc_sign_by f cdv A outer s H E) (wOf E) := takes_of rfl rfl rfl rfl
  exact (trs_one (tr_ret (tr_callG h_rest_of hgd (hr.mono (by decide)) tk rfl (tra_cons (tr_var 0) (tra_cons (tr_callB (callR_or (cr_sum rfl) (cr_sumT rfl)) sem_sum rfl m_sum bo_sum (tra_cons (tr_lc (own := [("one", 3), ("other", 4)]) rfl sc.nd (tri_zip rfl m_zip (tra_cons (tr_var 1) (tra_cons (tr_var 2) tra_nil))) (blkOk_by (N := ["prime", "form", "message", "one", "other"]) (sc := sc_sign_by) (by decide +kernel)) (by decide) (fun _ _ _ _ _ => (trg_tup rfl (trgs_cons (trg_name sc.nd rfl (by first | exact .inl rfl | exact .inr rfl)) (trgs_cons (trg_name sc.nd rfl (by first | exact .inl rfl | exact .inr rfl)) trgs_nil)))) (fun _ _ _ _ _ => trt_nil) (fun _ _ _ _ _ => (tr_op op_mulW sem_mul (tr_var 3) (tr_var 4)))) tra_nil)) tra_nil)))))
theorem ok_letters_in {f : Addr} {fd : FuncData} (F : FnP K "letters_in" (top 28) sc_letters_in f fd) (gl : mg "letters_in" = some (.ref f)) (om : noObj K = true) (m_tuple : mg "tuple" = none) (h_sign_by : FnGs P w K mg base 2 "sign_by" ["prime", "form", "message"] F_sign_by) : FnGs P w K mg base 3 "letters_in" ["code", "message"] F_letters_in := by
  have sc : FnScope ["code", "message", "letter", "form"] ["code", "message"] sc_letters_in := ⟨rfl, rfl, rfl, by decide +kernel, rfl, by decide +kernel, by decide +kernel⟩
  refine ⟨f, fd, fn_trG (k := 2) F sc (fun Γ cdv A outer s H E hcd hgd hr => ?_), gl, F.kp, F.bindsN fun _ _ _ _ _ _ us hl => match us, hl with | [_, _], _ => rfl⟩
  have tk : Takes (cxOf (L2.CX P w) P w K mg base ["code", "message", "letter", "form"] "letters_in" sc_letters_in f cdv A outer s H E) (wOf E) := takes_of rfl rfl rfl rfl
  exact (trs_one (tr_ret (tr_callTy call_tuple_of sem_tupOf rfl m_tuple bo_tuple (tra_cons (tr_lc (own := [("letter", 2)]) rfl sc.nd (tri_tup (tr_ix ix_seq sem_ix (tr_var 0) tr_int)) (blkOk_by (N := ["code", "message", "letter", "form"]) (sc := sc_letters_in) (by decide +kernel)) (by decide) (fun _ _ _ _ _ => (trg_name sc.nd rfl (by first | exact .inl rfl | exact .inr rfl))) (fun _ _ _ _ _ => trt_nil) (fun _ _ _ _ _ => (tr_callTy call_tuple_of sem_tupOf rfl m_tuple bo_tuple (tra_cons (tr_lc (own := [("form", 3)]) rfl sc.nd (tri_tup (tr_var 2)) (blkOk_by (by kernel_rfl)) (by decide) (fun _ _ _ _ _ => (trg_name sc.nd rfl (by first | exact .inl rfl | exact .inr rfl))) (fun _ _ _ _ _ => trt_nil) (fun _ _ _ _ _ => (tr_callG h_sign_by hgd (hr.mono (by decide)) takes0 rfl (tra_cons (tr_ix ix_seq sem_ix (tr_var 0) tr_int) (tra_cons (tr_var 3) (tra_cons (tr_var 1) tra_nil)))))) tra_nil)))) tra_nil))))
theorem ok_letters_by {f : Addr} {fd : FuncData} (F : FnP K "letters_by" (top 29) sc_letters_by f fd) (gl : mg "letters_by" = some (.ref f)) (om : noObj K = true) (m_len : mg "len" = none) (h_need_code : FnGs P w K mg base 6 "need_code" ["thing"] F_need_code) (h_need_message : FnGs P w K mg base 5 "need_message" ["prime", "thing"] F_need_message) (h_letters_in : FnGs P w K mg base 3 "letters_in" ["code", "message"] F_letters_in) : FnGs P w K mg base 7 "letters_by" ["code", "message"] F_letters_by := by
  have sc : FnScope ["code", "message", "prime"] ["code", "message"] sc_letters_by := ⟨rfl, rfl, rfl, by decide +kernel, rfl, by decide +kernel, by decide +kernel⟩
  refine ⟨f, fd, fn_trG (k := 6) F sc (fun Γ cdv A outer s H E hcd hgd hr => ?_), gl, F.kp, F.bindsN fun _ _ _ _ _ _ us hl => match us, hl with | [_, _], _ => rfl⟩
  have tk : Takes (cxOf (L2.CX P w) P w K mg base ["code", "message", "prime"] "letters_by" sc_letters_by f cdv A outer s H E) (wOf E) := takes_of rfl rfl rfl rfl
  exact (trs_cons (tr_set (i := 2) sc.nd rfl (.inl rfl) (tr_ix ix_seq sem_ix (tr_callG h_need_code hgd (hr.mono (by decide)) tk rfl (tra_cons (tr_var 0) tra_nil)) tr_int)) (trs_cons (tr_expr (tr_callG h_need_message hgd (hr.mono (by decide)) tk rfl (tra_cons (tr_var 2) (tra_cons (tr_var 1) tra_nil)))) (trs_cons (tr_ifs (trb_cmp (op_neS hr.units) sem_neS (tr_callB call_len sem_len rfl m_len bo_len (tra_cons (tr_var 1) tra_nil)) (tr_ix ix_seq sem_ix (tr_var 0) tr_int) (nomark _)) (trs_one tr_never) trs_nil) (trs_one (tr_ret (tr_callG h_letters_in hgd (hr.mono (by decide)) tk rfl (tra_cons (tr_var 0) (tra_cons (tr_var 1) tra_nil))))))))
theorem ok_cleared {f : Addr} {fd : FuncData} (F : FnP K "cleared" (top 31) sc_cleared f fd) (gl : mg "cleared" = some (.ref f)) (om : noObj K = true) (m_zip : mg "zip" = none) (h_rest_of : FnGs P w K mg base 1 "rest_of" ["prime", "number"] F_rest_of) : FnGs P w K mg base 2 "cleared" ["prime", "row", "fresh", "place"] F_cleared := by
  have sc : FnScope ["prime", "row", "fresh", "place", "factor", "one", "other"] ["prime", "row", "fresh", "place"] sc_cleared := ⟨rfl, rfl, rfl, by decide +kernel, rfl, by decide +kernel, by decide +kernel⟩
  refine ⟨f, fd, fn_trG (k := 1) F sc (fun Γ cdv A outer s H E hcd hgd hr => ?_), gl, F.kp, F.bindsN fun _ _ _ _ _ _ us hl => match us, hl with | [_, _, _, _], _ => rfl⟩
  have tk : Takes (cxOf (L2.CX P w) P w K mg base ["prime", "row", "fresh", "place", "factor", "one", "other"] "cleared" sc_cleared f cdv A outer s H E) (wOf E) := takes_of rfl rfl rfl rfl
  exact (trs_cons (tr_set (i := 4) sc.nd rfl (.inr rfl) (tr_ix ix_seq sem_ix (tr_var 1) (tr_var 3))) (trs_one (tr_ret (tr_lc (own := [("one", 5), ("other", 6)]) rfl sc.nd (tri_zip rfl m_zip (tra_cons (tr_var 1) (tra_cons (tr_var 2) tra_nil))) (blkOk_by (N := ["prime", "row", "fresh", "place", "factor", "one", "other"]) (sc := sc_cleared) (by decide +kernel)) (by decide) (fun _ _ _ _ _ => (trg_tup rfl (trgs_cons (trg_name sc.nd rfl (by first | exact .inl rfl | exact .inr rfl)) (trgs_cons (trg_name sc.nd rfl (by first | exact .inl rfl | exact .inr rfl)) trgs_nil)))) (fun _ _ _ _ _ => trt_nil) (fun _ _ _ _ _ => (tr_callG h_rest_of hgd (hr.mono (by decide)) takes0 rfl (tra_cons (tr_var 0) (tra_cons (tr_op op_sub sem_sub (tr_var 5) (tr_op op_mulW sem_mul (tr_var 4) (tr_var 6))) tra_nil))))))))
theorem ok_reduced {f : Addr} {fd : FuncData} (F : FnP K "reduced" (top 30) sc_reduced f fd) (gl : mg "reduced" = some (.ref f)) (om : noObj K = true) (m_zip : mg "zip" = none) (m_enumerate : mg "enumerate" = none) (m_sorted : mg "sorted" = none) (h_rest_of : FnGs P w K mg base 1 "rest_of" ["prime", "number"] F_rest_of) (h_inverse_in : FnGs P w K mg base 2 "inverse_in" ["prime", "sign"] F_inverse_in) (h_cleared : FnGs P w K mg base 2 "cleared" ["prime", "row", "fresh", "place"] F_cleared) : FnGs P w K mg base 3 "reduced" ["prime", "rows"] F_reduced := by
  have sc : FnScope ["prime", "rows", "found", "row", "place", "own", "places", "factor", "fresh", "one", "other"] ["prime", "rows"] sc_reduced := ⟨rfl, rfl, rfl, by decide +kernel, rfl, by decide +kernel, by decide +kernel⟩
  refine ⟨f, fd, fn_trG (k := 2) F sc (fun Γ cdv A outer s H E hcd hgd hr => ?_), gl, F.kp, F.bindsN fun _ _ _ _ _ _ us hl => match us, hl with | [_, _], _ => rfl⟩
  have tk : Takes (cxOf (L2.CX P w) P w K mg base ["prime", "rows", "found", "row", "place", "own", "places", "factor", "fresh", "one", "other"] "reduced" sc_reduced f cdv A outer s H E) (wOf E) := takes_of rfl rfl rfl rfl
  exact (trs_cons (tr_own (i := 2) sc.nd rfl (.inl rfl) tra_nil) (trs_cons (tr_for (passes_of rfl) rfl (tri_lst (tr_var 1)) (trg_name sc.nd rfl (.inr rfl)) (trs_cons (tr_frz 2 (tr_for (passes_of rfl) rfl (tri_lst (tr_var 2)) (trg_tup rfl (trgs_cons (trg_name sc.nd rfl (.inr rfl)) (trgs_cons (trg_name sc.nd rfl (.inl rfl)) trgs_nil))) (trs_one (tr_set (i := 3) sc.nd rfl (.inr rfl) (tr_lc (own := [("one", 9), ("other", 10)]) rfl sc.nd (tri_zip rfl m_zip (tra_cons (tr_var 3) (tra_cons (tr_var 5) tra_nil))) (blkOk_by (N := ["prime", "rows", "found", "row", "place", "own", "places", "factor", "fresh", "one", "other"]) (sc := sc_reduced) (by decide +kernel)) (by decide) (fun _ _ _ _ _ => (trg_tup rfl (trgs_cons (trg_name sc.nd rfl (by first | exact .inl rfl | exact .inr rfl)) (trgs_cons (trg_name sc.nd rfl (by first | exact .inl rfl | exact .inr rfl)) trgs_nil)))) (fun _ _ _ _ _ => trt_nil) (fun _ _ _ _ _ => (tr_callG h_rest_of hgd (hr.mono (by decide)) takes0 rfl (tra_cons (tr_var 0) (tra_cons (tr_op op_sub sem_sub (tr_var 9) (tr_op op_mulW sem_mul (tr_ix ix_seq sem_ix (tr_var 3) (tr_var 4)) (tr_var 10))) tra_nil))))))))) (trs_cons (tr_set (i := 6) sc.nd rfl (.inr rfl) (tr_lc (own := [("place", 4), ("one", 9)]) rfl sc.nd (tri_enL rfl m_enumerate (tra_cons (tr_var 3) tra_nil)) (blkOk_by (N := ["prime", "rows", "found", "row", "place", "own", "places", "factor", "fresh", "one", "other"]) (sc := sc_reduced) (by decide +kernel)) (by decide) (fun _ _ _ _ _ => (trg_tup rfl (trgs_cons (trg_name sc.nd rfl (by first | exact .inl rfl | exact .inr rfl)) (trgs_cons (trg_name sc.nd rfl (by first | exact .inl rfl | exact .inr rfl)) trgs_nil)))) (fun _ _ _ _ _ => (trt_one (trb_cmp (op_neS hr.units) sem_neS (tr_var 9) tr_int (nomark _)))) (fun _ _ _ _ _ => (tr_var 4)))) (trs_one (tr_ifs (trb_cmp (op_neS hr.units) sem_neS (tr_var 6) (tr_lst tra_nil) (nomark _)) (trs_cons (tr_set (i := 7) sc.nd rfl (.inr rfl) (tr_callG h_inverse_in hgd (hr.mono (by decide)) tk rfl (tra_cons (tr_var 0) (tra_cons (tr_ix ix_seq sem_ix (tr_var 3) (tr_ix ix_seq sem_ix (tr_var 6) tr_int)) tra_nil)))) (trs_cons (tr_set (i := 8) sc.nd rfl (.inr rfl) (tr_lc (own := [("one", 9)]) rfl sc.nd (tri_lst (tr_var 3)) (blkOk_by (N := ["prime", "rows", "found", "row", "place", "own", "places", "factor", "fresh", "one", "other"]) (sc := sc_reduced) (by decide +kernel)) (by decide) (fun _ _ _ _ _ => (trg_name sc.nd rfl (by first | exact .inl rfl | exact .inr rfl))) (fun _ _ _ _ _ => trt_nil) (fun _ _ _ _ _ => (tr_callG h_rest_of hgd (hr.mono (by decide)) takes0 rfl (tra_cons (tr_var 0) (tra_cons (tr_op op_mulW sem_mul (tr_var 9) (tr_var 7)) tra_nil)))))) (trs_cons (tr_frz 2 (tr_ownLc (i := 2) (own := [("place", 4), ("own", 5)]) rfl sc.nd rfl rfl (sw_true rfl rfl rfl (by decide +kernel)) (tri_lst (tr_var 2)) (blkOk_by (N := ["prime", "rows", "found", "row", "place", "own", "places", "factor", "fresh", "one", "other"]) (sc := sc_reduced) (by decide +kernel)) (by decide) (fun _ _ _ _ _ => (trg_tup rfl (trgs_cons (trg_name sc.nd rfl (by first | exact .inl rfl | exact .inr rfl)) (trgs_cons (trg_name sc.nd rfl (by first | exact .inl rfl | exact .inr rfl)) trgs_nil)))) (fun _ _ _ _ _ => trt_nil) (fun _ _ _ _ _ => (tr_tup (tra_cons (tr_var 4) (tra_cons (tr_callG h_cleared hgd (hr.mono (by decide)) takes0 rfl (tra_cons (tr_var 0) (tra_cons (tr_var 5) (tra_cons (tr_var 8) (tra_cons (tr_ix ix_seq sem_ix (tr_var 6) tr_int) tra_nil))))) tra_nil)))))) (trs_one (tr_app (pv 2) (tra_cons (tr_tup (tra_cons (tr_ix ix_seq sem_ix (tr_var 6) tr_int) (tra_cons (tr_var 8) tra_nil))) tra_nil)))))) trs_nil))))) (trs_one (tr_frz 2 (tr_ret (tr_callB (callR_or (callR_or (callR_or cr_sortTI cr_sortedI) (cr_sortD (Room.units65 hr))) cr_sort1) sem_sortedV rfl m_sorted bo_sorted (tra_cons (tr_var 2) tra_nil)))))))
theorem ok_rows_of {f : Addr} {fd : FuncData} (F : FnP K "rows_of" (top 32) sc_rows_of f fd) (gl : mg "rows_of" = some (.ref f)) (om : noObj K = true) (m_list : mg "list" = none) : FnGs P w K mg base 1 "rows_of" ["code", "lot"] F_rows_of := by
  have sc : FnScope ["code", "lot", "number", "form"] ["code", "lot"] sc_rows_of := ⟨rfl, rfl, rfl, by decide +kernel, rfl, by decide +kernel, by decide +kernel⟩
  refine ⟨f, fd, fn_trG (k := 0) F sc (fun Γ cdv A outer s H E hcd hgd hr => ?_), gl, F.kp, F.bindsN fun _ _ _ _ _ _ us hl => match us, hl with | [_, _], _ => rfl⟩
  have tk : Takes (cxOf (L2.CX P w) P w K mg base ["code", "lot", "number", "form"] "rows_of" sc_rows_of f cdv A outer s H E) (wOf E) := takes_of rfl rfl rfl rfl
  exact (trs_one (tr_ret (tr_lc2 (own := [("number", 2), ("form", 3)]) (vs1 := [3]) rfl sc.nd (tri_tup (tr_var 1)) (blkOk_by (N := ["code", "lot", "number", "form"]) (sc := sc_rows_of) (by decide +kernel)) (by decide) (by decide) (by decide) (fun _ _ _ _ _ => (trg_name sc.nd rfl (by first | exact .inl rfl | exact .inr rfl))) (fun _ _ _ _ _ => trt_nil) (fun _ _ _ _ _ => (tri_tup (tr_ix ix_seq sem_ix (tr_ix ix_seq sem_ix (tr_var 0) tr_int) (tr_var 2)))) (fun _ _ _ _ _ => (trg_name sc.nd rfl (by first | exact .inl rfl | exact .inr rfl))) (fun _ _ _ _ _ => trt_nil) (fun _ _ _ _ _ => (tr_callTy call_list_of sem_lstOf rfl m_list bo_list (tra_cons (tr_var 3) tra_nil))))))
theorem ok_content_in {f : Addr} {fd : FuncData} (F : FnP K "content_in" (top 33) sc_content_in f fd) (gl : mg "content_in" = some (.ref f)) (om : noObj K = true) (m_len : mg "len" = none) (h_reduced : FnGs P w K mg base 3 "reduced" ["prime", "rows"] F_reduced) (h_rows_of : FnGs P w K mg base 1 "rows_of" ["code", "lot"] F_rows_of) : FnGs P w K mg base 4 "content_in" ["code", "lot"] F_content_in := by
  have sc : FnScope ["code", "lot"] ["code", "lot"] sc_content_in := ⟨rfl, rfl, rfl, by decide +kernel, rfl, by decide +kernel, by decide +kernel⟩
  refine ⟨f, fd, fn_trG (k := 3) F sc (fun Γ cdv A outer s H E hcd hgd hr => ?_), gl, F.kp, F.bindsN fun _ _ _ _ _ _ us hl => match us, hl with | [_, _], _ => rfl⟩
  have tk : Takes (cxOf (L2.CX P w) P w K mg base ["code", "lot"] "content_in" sc_content_in f cdv A outer s H E) (wOf E) := takes_of rfl rfl rfl rfl
  exact (trs_one (tr_ret (tr_callB call_len sem_len rfl m_len bo_len (tra_cons (tr_callG h_reduced hgd (hr.mono (by decide)) tk rfl (tra_cons (tr_ix ix_seq sem_ix (tr_var 0) tr_int) (tra_cons (tr_callG h_rows_of hgd (hr.mono (by decide)) tk rfl (tra_cons (tr_var 0) (tra_cons (tr_var 1) tra_nil))) tra_nil))) tra_nil))))
theorem ok_content {f : Addr} {fd : FuncData} (F : FnP K "content" (top 34) sc_content f fd) (gl : mg "content" = some (.ref f)) (om : noObj K = true) (h_need_lot_of : FnGs P w K mg base 4 "need_lot_of" ["code", "lot"] F_need_lot_of) (h_need_code : FnGs P w K mg base 6 "need_code" ["thing"] F_need_code) (h_content_in : FnGs P w K mg base 4 "content_in" ["code", "lot"] F_content_in) : FnGs P w K mg base 7 "content" ["code", "lot"] F_content := by
  have sc : FnScope ["code", "lot"] ["code", "lot"] sc_content := ⟨rfl, rfl, rfl, by decide +kernel, rfl, by decide +kernel, by decide +kernel⟩
  refine ⟨f, fd, fn_trG (k := 6) F sc (fun Γ cdv A outer s H E hcd hgd hr => ?_), gl, F.kp, F.bindsN fun _ _ _ _ _ _ us hl => match us, hl with | [_, _], _ => rfl⟩
  have tk : Takes (cxOf (L2.CX P w) P w K mg base ["code", "lot"] "content" sc_content f cdv A outer s H E) (wOf E) := takes_of rfl rfl rfl rfl
  exact (trs_cons (tr_expr (tr_callG h_need_lot_of hgd (hr.mono (by decide)) tk rfl (tra_cons (tr_callG h_need_code hgd (hr.mono (by decide)) tk rfl (tra_cons (tr_var 0) tra_nil)) (tra_cons (tr_var 1) tra_nil)))) (trs_one (tr_ret (tr_callG h_content_in hgd (hr.mono (by decide)) tk rfl (tra_cons (tr_var 0) (tra_cons (tr_var 1) tra_nil))))))
theorem ok_told_in {f : Addr} {fd : FuncData} (F : FnP K "told_in" (top 35) sc_told_in f fd) (gl : mg "told_in" = some (.ref f)) (om : noObj K = true) (m_sum : mg "sum" = none) (m_int : mg "int" = none) (h_reduced : FnGs P w K mg base 3 "reduced" ["prime", "rows"] F_reduced) (h_rows_of : FnGs P w K mg base 1 "rows_of" ["code", "lot"] F_rows_of) : FnGs P w K mg base 4 "told_in" ["code", "lot"] F_told_in := by
  have sc : FnScope ["code", "lot", "singles", "place", "row", "found", "one"] ["code", "lot"] sc_told_in := ⟨rfl, rfl, rfl, by decide +kernel, rfl, by decide +kernel, by decide +kernel⟩
  refine ⟨f, fd, fn_trG (k := 3) F sc (fun Γ cdv A outer s H E hcd hgd hr => ?_), gl, F.kp, F.bindsN fun _ _ _ _ _ _ us hl => match us, hl with | [_, _], _ => rfl⟩
  have tk : Takes (cxOf (L2.CX P w) P w K mg base ["code", "lot", "singles", "place", "row", "found", "one"] "told_in" sc_told_in f cdv A outer s H E) (wOf E) := takes_of rfl rfl rfl rfl
  exact (trs_cons (tr_ownD (i := 2) sc.nd rfl (.inl rfl)) (trs_cons (tr_for (passes_of rfl) rfl (tri_lst (tr_callG h_reduced hgd (hr.mono (by decide)) tk rfl (tra_cons (tr_ix ix_seq sem_ix (tr_var 0) tr_int) (tra_cons (tr_callG h_rows_of hgd (hr.mono (by decide)) tk rfl (tra_cons (tr_var 0) (tra_cons (tr_var 1) tra_nil))) tra_nil)))) (trg_tup rfl (trgs_cons (trg_name sc.nd rfl (.inl rfl)) (trgs_cons (trg_name sc.nd rfl (.inl rfl)) trgs_nil))) (trs_one (tr_ifs (trb_cmp (op_eqS hr.units) sem_eqS (tr_callB (callR_or (cr_sum rfl) (cr_sumT rfl)) sem_sum rfl m_sum bo_sum (tra_cons (tr_lc (own := [("one", 6)]) rfl sc.nd (tri_lst (tr_var 4)) (blkOk_by (N := ["code", "lot", "singles", "place", "row", "found", "one"]) (sc := sc_told_in) (by decide +kernel)) (by decide) (fun _ _ _ _ _ => (trg_name sc.nd rfl (by first | exact .inl rfl | exact .inr rfl))) (fun _ _ _ _ _ => trt_nil) (fun _ _ _ _ _ => (tr_callTy call_int1 sem_int1 rfl m_int bo_int (tra_cons (tr_cmp (op_neS hr.units) sem_neS (tr_var 6) tr_int (nomark _)) tra_nil)))) tra_nil)) tr_int (nomark _)) (trs_one (tr_dput (units1 (Room.units65 hr)) (pv 2) (tr_var 3) tr_bl)) trs_nil))) (trs_cons (tr_set (i := 5) sc.nd rfl (.inl rfl) tr_int) (trs_cons (tr_while (fun _ => 100) (passes_of rfl) (trb_frz 2 om (trb_cmp (op_inK (units1 (Room.units65 hr))) sem_inK (tr_var 5) (tr_var 2) (by with_unfolding_all rfl))) (trs_one (tr_set (i := 5) sc.nd rfl (.inl rfl) (tr_op op_addW sem_add (tr_var 5) tr_int)))) (trs_one (tr_ret (tr_var 5)))))))
theorem ok_told {f : Addr} {fd : FuncData} (F : FnP K "told" (top 36) sc_told f fd) (gl : mg "told" = some (.ref f)) (om : noObj K = true) (h_need_lot_of : FnGs P w K mg base 4 "need_lot_of" ["code", "lot"] F_need_lot_of) (h_need_code : FnGs P w K mg base 6 "need_code" ["thing"] F_need_code) (h_told_in : FnGs P w K mg base 4 "told_in" ["code", "lot"] F_told_in) : FnGs P w K mg base 7 "told" ["code", "lot"] F_told := by
  have sc : FnScope ["code", "lot"] ["code", "lot"] sc_told := ⟨rfl, rfl, rfl, by decide +kernel, rfl, by decide +kernel, by decide +kernel⟩
  refine ⟨f, fd, fn_trG (k := 6) F sc (fun Γ cdv A outer s H E hcd hgd hr => ?_), gl, F.kp, F.bindsN fun _ _ _ _ _ _ us hl => match us, hl with | [_, _], _ => rfl⟩
  have tk : Takes (cxOf (L2.CX P w) P w K mg base ["code", "lot"] "told" sc_told f cdv A outer s H E) (wOf E) := takes_of rfl rfl rfl rfl
  exact (trs_cons (tr_expr (tr_callG h_need_lot_of hgd (hr.mono (by decide)) tk rfl (tra_cons (tr_callG h_need_code hgd (hr.mono (by decide)) tk rfl (tra_cons (tr_var 0) tra_nil)) (tra_cons (tr_var 1) tra_nil)))) (trs_one (tr_ret (tr_callG h_told_in hgd (hr.mono (by decide)) tk rfl (tra_cons (tr_var 0) (tra_cons (tr_var 1) tra_nil))))))
theorem ok_witness_in {f : Addr} {fd : FuncData} (F : FnP K "witness_in" (top 37) sc_witness_in f fd) (gl : mg "witness_in" = some (.ref f)) (om : noObj K = true) (m_enumerate : mg "enumerate" = none) (m_int : mg "int" = none) (m_tuple : mg "tuple" = none) (h_told_in : FnGs P w K mg base 4 "told_in" ["code", "lot"] F_told_in) (h_reduced : FnGs P w K mg base 3 "reduced" ["prime", "rows"] F_reduced) (h_rows_of : FnGs P w K mg base 1 "rows_of" ["code", "lot"] F_rows_of) (h_rest_of : FnGs P w K mg base 1 "rest_of" ["prime", "number"] F_rest_of) (h_inverse_in : FnGs P w K mg base 2 "inverse_in" ["prime", "sign"] F_inverse_in) : FnGs P w K mg base 5 "witness_in" ["code", "lot"] F_witness_in := by
  have sc : FnScope ["code", "lot", "prime", "many", "spot", "basis", "place", "row", "known", "free", "found", "factor", "one"] ["code", "lot"] sc_witness_in := ⟨rfl, rfl, rfl, by decide +kernel, rfl, by decide +kernel, by decide +kernel⟩
  refine ⟨f, fd, fn_trG (k := 4) F sc (fun Γ cdv A outer s H E hcd hgd hr => ?_), gl, F.kp, F.bindsN fun _ _ _ _ _ _ us hl => match us, hl with | [_, _], _ => rfl⟩
  have tk : Takes (cxOf (L2.CX P w) P w K mg base ["code", "lot", "prime", "many", "spot", "basis", "place", "row", "known", "free", "found", "factor", "one"] "witness_in" sc_witness_in f cdv A outer s H E) (wOf E) := takes_of rfl rfl rfl rfl
  exact (trs_cons (tr_asg (tr_tup (tra_cons (tr_ix ix_seq sem_ix (tr_var 0) tr_int) (tra_cons (tr_ix ix_seq sem_ix (tr_var 0) tr_int) tra_nil))) (trg_tup rfl (trgs_cons (trg_name sc.nd rfl (.inr rfl)) (trgs_cons (trg_name sc.nd rfl (.inl rfl)) trgs_nil)))) (trs_cons (tr_set (i := 4) sc.nd rfl (.inr rfl) (tr_callG h_told_in hgd (hr.mono (by decide)) tk rfl (tra_cons (tr_var 0) (tra_cons (tr_var 1) tra_nil)))) (trs_cons (tr_ifs (trb_cmp (op_eqS hr.units) sem_eqS (tr_var 4) (tr_var 3) (nomark _)) (trs_one (tr_ret tr_non)) trs_nil) (trs_cons (tr_set (i := 5) sc.nd rfl (.inl rfl) (tr_callG h_reduced hgd (hr.mono (by decide)) tk rfl (tra_cons (tr_var 2) (tra_cons (tr_callG h_rows_of hgd (hr.mono (by decide)) tk rfl (tra_cons (tr_var 0) (tra_cons (tr_var 1) tra_nil))) tra_nil)))) (trs_cons (tr_setDc (i := 8) (own := [("place", 6), ("row", 7)]) rfl sc.nd rfl rfl (swD_true rfl rfl rfl (by decide +kernel)) (tri_lst (tr_var 5)) (blkOk_by (N := ["code", "lot", "prime", "many", "spot", "basis", "place", "row", "known", "free", "found", "factor", "one"]) (sc := sc_witness_in) (by decide +kernel)) (by decide) (fun _ _ _ _ _ => (trg_tup rfl (trgs_cons (trg_name sc.nd rfl (by first | exact .inl rfl | exact .inr rfl)) (trgs_cons (trg_name sc.nd rfl (by first | exact .inl rfl | exact .inr rfl)) trgs_nil)))) (fun _ _ _ _ _ => trt_nil) (fun _ _ _ _ _ => (tr_var 6)) (fun _ _ _ _ _ => (tr_var 7))) (trs_cons (tr_set (i := 9) sc.nd rfl (.inl rfl) (tr_var 4)) (trs_cons (tr_ifs (trb_cmp (op_inK (units1 (Room.units65 hr))) sem_inK (tr_var 4) (tr_var 8) (by with_unfolding_all rfl)) (trs_one (tr_set (i := 9) sc.nd rfl (.inl rfl) (tr_ix ix_seq sem_ix (tr_lc (own := [("place", 6), ("one", 12)]) rfl sc.nd (tri_enL rfl m_enumerate (tra_cons (tr_ixK (units1 (Room.units65 hr)) (tr_var 8) (tr_var 4)) tra_nil)) (blkOk_by (N := ["code", "lot", "prime", "many", "spot", "basis", "place", "row", "known", "free", "found", "factor", "one"]) (sc := sc_witness_in) (by decide +kernel)) (by decide) (fun _ _ _ _ _ => (trg_tup rfl (trgs_cons (trg_name sc.nd rfl (by first | exact .inl rfl | exact .inr rfl)) (trgs_cons (trg_name sc.nd rfl (by first | exact .inl rfl | exact .inr rfl)) trgs_nil)))) (fun _ _ _ _ _ => (trt_one (TrW.toB (trw_and (trb_cmp (op_neS hr.units) sem_neS (tr_var 12) tr_int (nomark _)) (trw_and1 (trb_cmp (op_neS hr.units) sem_neS (tr_var 6) (tr_var 4) (nomark _))))))) (fun _ _ _ _ _ => (tr_var 6))) tr_int))) trs_nil) (trs_cons (tr_ownMul (i := 10) sc.nd rfl (.inl rfl) (tr_lst (tra_cons tr_int tra_nil)) (tr_callTy call_int1 sem_int1 rfl m_int bo_int (tra_cons (tr_var 3) tra_nil))) (trs_cons (tr_at (pv 10) (tr_var 9) tr_int) (trs_cons (tr_for (passes_of rfl) rfl (tri_lst (tr_var 5)) (trg_tup rfl (trgs_cons (trg_name sc.nd rfl (.inl rfl)) (trgs_cons (trg_name sc.nd rfl (.inl rfl)) trgs_nil))) (trs_one (tr_at (pv 10) (tr_var 6) (tr_callG h_rest_of hgd (hr.mono (by decide)) tk rfl (tra_cons (tr_var 2) (tra_cons (tr_op op_sub sem_sub tr_int (tr_ix ix_seq sem_ix (tr_var 7) (tr_var 9))) tra_nil)))))) (trs_cons (tr_frz 10 (tr_set (i := 11) sc.nd rfl (.inr rfl) (tr_callG h_inverse_in hgd (hr.mono (by decide)) tk rfl (tra_cons (tr_var 2) (tra_cons (tr_ix ix_seq sem_ix (tr_var 10) (tr_var 4)) tra_nil))))) (trs_one (tr_frz 10 (tr_ret (tr_callTy call_tuple_of sem_tupOf rfl m_tuple bo_tuple (tra_cons (tr_lc (own := [("one", 12)]) rfl sc.nd (tri_lst (tr_var 10)) (blkOk_by (N := ["code", "lot", "prime", "many", "spot", "basis", "place", "row", "known", "free", "found", "factor", "one"]) (sc := sc_witness_in) (by decide +kernel)) (by decide) (fun _ _ _ _ _ => (trg_name sc.nd rfl (by first | exact .inl rfl | exact .inr rfl))) (fun _ _ _ _ _ => trt_nil) (fun _ _ _ _ _ => (tr_callG h_rest_of hgd (hr.mono (by decide)) takes0 rfl (tra_cons (tr_var 2) (tra_cons (tr_op op_mulW sem_mul (tr_var 12) (tr_var 11)) tra_nil))))) tra_nil))))))))))))))))
theorem ok_witness {f : Addr} {fd : FuncData} (F : FnP K "witness" (top 38) sc_witness f fd) (gl : mg "witness" = some (.ref f)) (om : noObj K = true) (h_need_lot_of : FnGs P w K mg base 4 "need_lot_of" ["code", "lot"] F_need_lot_of) (h_need_code : FnGs P w K mg base 6 "need_code" ["thing"] F_need_code) (h_witness_in : FnGs P w K mg base 5 "witness_in" ["code", "lot"] F_witness_in) : FnGs P w K mg base 7 "witness" ["code", "lot"] F_witness := by
  have sc : FnScope ["code", "lot"] ["code", "lot"] sc_witness := ⟨rfl, rfl, rfl, by decide +kernel, rfl, by decide +kernel, by decide +kernel⟩
  refine ⟨f, fd, fn_trG (k := 6) F sc (fun Γ cdv A outer s H E hcd hgd hr => ?_), gl, F.kp, F.bindsN fun _ _ _ _ _ _ us hl => match us, hl with | [_, _], _ => rfl⟩
  have tk : Takes (cxOf (L2.CX P w) P w K mg base ["code", "lot"] "witness" sc_witness f cdv A outer s H E) (wOf E) := takes_of rfl rfl rfl rfl
  exact (trs_cons (tr_expr (tr_callG h_need_lot_of hgd (hr.mono (by decide)) tk rfl (tra_cons (tr_callG h_need_code hgd (hr.mono (by decide)) tk rfl (tra_cons (tr_var 0) tra_nil)) (tra_cons (tr_var 1) tra_nil)))) (trs_one (tr_ret (tr_callG h_witness_in hgd (hr.mono (by decide)) tk rfl (tra_cons (tr_var 0) (tra_cons (tr_var 1) tra_nil))))))
theorem ok_lots_with {f : Addr} {fd : FuncData} (F : FnP K "lots_with" (top 39) sc_lots_with f fd) (gl : mg "lots_with" = some (.ref f)) (om : noObj K = true) (m_range : mg "range" = none) (m_len : mg "len" = none) (m_sorted : mg "sorted" = none) : FnGs P w K mg base 1 "lots_with" ["many", "size"] F_lots_with := by
  have sc : FnScope ["many", "size", "found", "number", "lot"] ["many", "size"] sc_lots_with := ⟨rfl, rfl, rfl, by decide +kernel, rfl, by decide +kernel, by decide +kernel⟩
  refine ⟨f, fd, fn_trG (k := 0) F sc (fun Γ cdv A outer s H E hcd hgd hr => ?_), gl, F.kp, F.bindsN fun _ _ _ _ _ _ us hl => match us, hl with | [_, _], _ => rfl⟩
  have tk : Takes (cxOf (L2.CX P w) P w K mg base ["many", "size", "found", "number", "lot"] "lots_with" sc_lots_with f cdv A outer s H E) (wOf E) := takes_of rfl rfl rfl rfl
  exact (trs_cons (tr_set (i := 2) sc.nd rfl (.inl rfl) (tr_lst (tra_cons (tr_tup tra_nil) tra_nil))) (trs_cons (tr_for (passes_of rfl) rfl (tri_rng1 rfl m_range (tra_cons (tr_var 0) tra_nil)) (trg_name sc.nd rfl (.inr rfl)) (trs_one (tr_set (i := 2) sc.nd rfl (.inl rfl) (tr_op op_addW sem_add (tr_var 2) (tr_lc (own := [("lot", 4)]) rfl sc.nd (tri_lst (tr_var 2)) (blkOk_by (N := ["many", "size", "found", "number", "lot"]) (sc := sc_lots_with) (by decide +kernel)) (by decide) (fun _ _ _ _ _ => (trg_name sc.nd rfl (by first | exact .inl rfl | exact .inr rfl))) (fun _ _ _ _ _ => (trt_one (trb_cmp op_lt sem_lt (tr_callB call_len sem_len rfl m_len bo_len (tra_cons (tr_var 4) tra_nil)) (tr_var 1) (nomark _)))) (fun _ _ _ _ _ => (tr_tup (tra_star (tr_var 4) (tra_cons (tr_var 3) tra_nil))))))))) (trs_one (tr_ret (tr_callB (callR_or (callR_or (callR_or cr_sortTI cr_sortedI) (cr_sortD (Room.units65 hr))) cr_sort1) sem_sortedV rfl m_sorted bo_sorted (tra_cons (tr_lc (own := [("lot", 4)]) rfl sc.nd (tri_lst (tr_var 2)) (blkOk_by (N := ["many", "size", "found", "number", "lot"]) (sc := sc_lots_with) (by decide +kernel)) (by decide) (fun _ _ _ _ _ => (trg_name sc.nd rfl (by first | exact .inl rfl | exact .inr rfl))) (fun _ _ _ _ _ => (trt_one (trb_cmp (op_eqS hr.units) sem_eqS (tr_callB call_len sem_len rfl m_len bo_len (tra_cons (tr_var 4) tra_nil)) (tr_var 1) (nomark _)))) (fun _ _ _ _ _ => (tr_var 4))) tra_nil))))))
theorem ok_profile_by {f : Addr} {fd : FuncData} (F : FnP K "profile_by" (top 40) sc_profile_by f fd) (gl : mg "profile_by" = some (.ref f)) (om : noObj K = true) (m_len : mg "len" = none) (m_range : mg "range" = none) (m_min : mg "min" = none) (h_lots_with : FnGs P w K mg base 1 "lots_with" ["many", "size"] F_lots_with) (h_told_in : FnGs P w K mg base 4 "told_in" ["code", "lot"] F_told_in) : FnGs P w K mg base 5 "profile_by" ["code"] F_profile_by := by
  have sc : FnScope ["code", "many", "size", "lot"] ["code"] sc_profile_by := ⟨rfl, rfl, rfl, by decide +kernel, rfl, by decide +kernel, by decide +kernel⟩
  refine ⟨f, fd, fn_trG (k := 4) F sc (fun Γ cdv A outer s H E hcd hgd hr => ?_), gl, F.kp, F.bindsN fun _ _ _ _ _ _ us hl => match us, hl with | [_], _ => rfl⟩
  have tk : Takes (cxOf (L2.CX P w) P w K mg base ["code", "many", "size", "lot"] "profile_by" sc_profile_by f cdv A outer s H E) (wOf E) := takes_of rfl rfl rfl rfl
  exact (trs_cons (tr_set (i := 1) sc.nd rfl (.inr rfl) (tr_callB call_len sem_len rfl m_len bo_len (tra_cons (tr_ix ix_seq sem_ix (tr_var 0) tr_int) tra_nil))) (trs_one (tr_ret (tr_lc (own := [("size", 2)]) rfl sc.nd (tri_rng2 rfl m_range (tra_cons tr_int (tra_cons (tr_op op_addW sem_add (tr_var 1) tr_int) tra_nil))) (blkOk_by (N := ["code", "many", "size", "lot"]) (sc := sc_profile_by) (by decide +kernel)) (by decide) (fun _ _ _ _ _ => (trg_name sc.nd rfl (by first | exact .inl rfl | exact .inr rfl))) (fun _ _ _ _ _ => trt_nil) (fun _ _ _ _ _ => (tr_callB (callR_or (callR_or (call_min2 rfl) (cr_min rfl)) (cr_minD rfl (Room.units65 hr))) sem_minQ rfl m_min bo_min (tra_cons (tr_lc (own := [("lot", 3)]) rfl sc.nd (tri_lst (tr_callG h_lots_with hgd (hr.mono (by decide)) takes0 rfl (tra_cons (tr_var 1) (tra_cons (tr_var 2) tra_nil)))) (blkOk_by (by kernel_rfl)) (by decide) (fun _ _ _ _ _ => (trg_name sc.nd rfl (by first | exact .inl rfl | exact .inr rfl))) (fun _ _ _ _ _ => trt_nil) (fun _ _ _ _ _ => (tr_tup (tra_cons (tr_callG h_told_in hgd (hr.mono (by decide)) takes0 rfl (tra_cons (tr_var 0) (tra_cons (tr_var 3) tra_nil))) (tra_cons (tr_var 3) tra_nil))))) tra_nil)))))))
theorem ok_code_profile {f : Addr} {fd : FuncData} (F : FnP K "code_profile" (top 41) sc_code_profile f fd) (gl : mg "code_profile" = some (.ref f)) (om : noObj K = true) (m_tuple : mg "tuple" = none) (h_profile_by : FnGs P w K mg base 5 "profile_by" ["code"] F_profile_by) (h_need_code : FnGs P w K mg base 6 "need_code" ["thing"] F_need_code) : FnGs P w K mg base 7 "code_profile" ["code"] F_code_profile := by
  have sc : FnScope ["code", "least", "lot"] ["code"] sc_code_profile := ⟨rfl, rfl, rfl, by decide +kernel, rfl, by decide +kernel, by decide +kernel⟩
  refine ⟨f, fd, fn_trG (k := 6) F sc (fun Γ cdv A outer s H E hcd hgd hr => ?_), gl, F.kp, F.bindsN fun _ _ _ _ _ _ us hl => match us, hl with | [_], _ => rfl⟩
  have tk : Takes (cxOf (L2.CX P w) P w K mg base ["code", "least", "lot"] "code_profile" sc_code_profile f cdv A outer s H E) (wOf E) := takes_of rfl rfl rfl rfl
  exact (trs_one (tr_ret (tr_callTy call_tuple_of sem_tupOf rfl m_tuple bo_tuple (tra_cons (tr_lc (own := [("least", 1), ("lot", 2)]) rfl sc.nd (tri_lst (tr_callG h_profile_by hgd (hr.mono (by decide)) tk rfl (tra_cons (tr_callG h_need_code hgd (hr.mono (by decide)) tk rfl (tra_cons (tr_var 0) tra_nil)) tra_nil))) (blkOk_by (N := ["code", "least", "lot"]) (sc := sc_code_profile) (by decide +kernel)) (by decide) (fun _ _ _ _ _ => (trg_tup rfl (trgs_cons (trg_name sc.nd rfl (by first | exact .inl rfl | exact .inr rfl)) (trgs_cons (trg_name sc.nd rfl (by first | exact .inl rfl | exact .inr rfl)) trgs_nil)))) (fun _ _ _ _ _ => trt_nil) (fun _ _ _ _ _ => (tr_var 1))) tra_nil))))
theorem ok__law_mixed {f : Addr} {fd : FuncData} (F : FnP K "_law_mixed" (top 43) sc__law_mixed f fd) (gl : mg "_law_mixed" = some (.ref f)) (om : noObj K = true) (m_int : mg "int" = none) : FnIs P w K mg base 1 "_law_mixed" ["_law_cell", "_law_k"] F__law_mixed := by
  have sc : FnScope ["_law_cell", "_law_k"] ["_law_cell", "_law_k"] sc__law_mixed := ⟨rfl, rfl, rfl, by decide +kernel, rfl, by decide +kernel, by decide +kernel⟩
  refine ⟨f, fd, fn_tr (k := 0) F sc (fun Γ cdv A outer s H E hr => ?_), gl, F.kp, F.bindsN fun _ _ _ _ _ _ us hl => match us, hl with | [_, _], _ => rfl⟩
  have tk : Takes (cxOf (L2.CX P w) P w K mg base ["_law_cell", "_law_k"] "_law_mixed" sc__law_mixed f cdv A outer s H E) (wOf E) := takes_of rfl rfl rfl rfl
  exact (trs_cons (tr_set (i := 0) sc.nd rfl (.inl rfl) (tr_op op_mod sem_mod (tr_callTy call_int1 sem_int1 rfl m_int bo_int (tra_cons (tr_var 0) tra_nil)) tr_int)) (trs_one (tr_ret (tr_op op_mod sem_mod (tr_op op_mulW sem_mul (tr_op op_mod sem_mod (tr_op op_addW sem_add (tr_op op_addW sem_add (tr_op op_mulW sem_mul (tr_var 0) (tr_op op_addW sem_add tr_int (tr_op op_mulW sem_mul (tr_op op_mulW sem_mul tr_int (tr_var 1)) (tr_var 1)))) (tr_op op_mulW sem_mul tr_int (tr_var 1))) tr_int) tr_int) tr_int) tr_int))))
/-- a call of _law_mixed, by its reading -/
theorem mix_sp {c : Cc} {d : Dw} {H : Hp} {x k : Int} {Q : VK} {E : XK} (hT : c.T = tabL K ∧ c.K = K) (wd : Wd c d H) (h0 : 0 ≤ k) (h1 : k ≤ 2 ^ 61) (h : ∀ ⦃c' : Cc⦄ H', SG c c' H H' → StOk c' d H' → Q (.int (mixv x k)) H') : SpF K F__law_mixed [.int x, .int k] H Q E := by
  refine ⟨c, d, [.int x, .int k], hT, wd, .cons (.int x) (.cons (.int k) .nil), ?_⟩
  rw [mix_run h0 h1]
  intro c' v H' st so r
  cases r
  exact h H' st so
theorem ok__law_begin {f : Addr} {fd : FuncData} (F : FnP K "_law_begin" (top 44) sc__law_begin f fd) (m_list : mg "list" = none) : FnOk P w K mg base (L2.CX P w) 1 f fd ["_law_script"] (spBegin K) := by
  have sc : FnScope ["_law_script", "_law_cells", "_law_cell"] ["_law_script"] sc__law_begin := ⟨rfl, rfl, rfl, by decide +kernel, rfl, by decide +kernel, by decide +kernel⟩
  refine F.ok (k := 0) sc (fun vs H Q E h => ?_) (fun cdv A outer s H vs Q E hr h => ?_)
  · obtain ⟨a, ns, rfl, _⟩ := h
    rfl
  refine ⟨_, pss_cons (ps_set (i := 1) sc.nd rfl (.inl rfl) (pe_ifExp (pt_cmpR (op_neD hr.units) (pv 0) (pe_lst pa_nil) (nomark _)) (pe_callTy call_list_of rfl m_list bo_list (pa_cons (pv 0) pa_nil)) (pe_lst (pa_cons pe_int pa_nil))))
    (pss_one (ps_ret (pe_disp (pps_cons pe_str (pv 1) (pps_cons pe_str (pe_lc (own := [("_law_cell", 2)]) (g := gName 2) (tt := tYes) rfl sc.nd (pi_list (pv 1)) (blkOk_by (N := ["_law_script", "_law_cells", "_law_cell"]) (sc := sc__law_begin) (by decide +kernel))
        (fun _ _ _ _ _ => pg_name (i := 2) sc.nd rfl (.inl rfl)) (fun _ _ _ _ _ => pts_nil) (fun _ _ _ _ _ => pe_ifExp (pt_cmpR op_ge (pv 2) (pe_op op_pow pe_int pe_int) (nomark _)) (pv 2) pe_int))
      (pps_cons pe_str pe_int (pps_cons pe_str pe_int pps_nil)))) (by rfl) (by rfl) (fun z => by cases z) (by decide)))), ?_⟩
  obtain ⟨a, ns, rfl, hS, hz, q⟩ := h
  exact begin_read hS hz q
theorem ok__law_draw {f : Addr} {fd : FuncData} (F : FnP K "_law_draw" (top 45) sc__law_draw f fd) (gl : mg "_law_draw" = some (.ref f)) (om : noObj K = true) (m_int : mg "int" = none) (m_len : mg "len" = none) (h__law_mixed : FnIs P w K mg base 1 "_law_mixed" ["_law_cell", "_law_k"] F__law_mixed) : FnIs P w K mg base 2 "_law_draw" ["_law_state", "_law_many"] F__law_draw := by
  have sc : FnScope ["_law_state", "_law_many", "_law_at", "_law_place", "_law_left", "_law_number"] ["_law_state", "_law_many"] sc__law_draw := ⟨rfl, rfl, rfl, by decide +kernel, rfl, by decide +kernel, by decide +kernel⟩
  obtain ⟨fM, fdM, GM, gM, kM, bM⟩ := h__law_mixed
  refine ⟨f, fd, F.ok (k := 1) sc (SpF.len fun ws h => ?_) (fun cdv A outer s H vs Q E hr h => ?_), gl, F.kp, F.bindsN fun _ _ _ _ _ _ us hl => match us, hl with | [_, _], _ => rfl⟩
  · exact F_draw_bad fun n z => h (by rw [z]; rfl)
  have tk : Takes (cxOf (L2.CX P w) P w K mg base ["_law_state", "_law_many", "_law_at", "_law_place", "_law_left", "_law_number"] "_law_draw" sc__law_draw f cdv A outer s H E) (wOf E) := takes_of rfl rfl rfl rfl
  have hu := hu_of hr
  refine ⟨_, pss_cons (ps_set (i := 2) sc.nd rfl (.inl rfl) (pe_dget hu (pv 0) pe_str (fun _ _ => rfl)))
    (pss_cons (ps_dput hu (pv 0) pe_str (pe_op op_add (pv 2) pe_int) rfl)
    (pss_cons (ps_set (i := 3) sc.nd rfl (.inl rfl) (pe_op op_mod (pe_callTy call_int1 rfl m_int bo_int (pa_cons (pv 2) pa_nil)) (pe_callB call_len rfl m_len bo_len (pa_cons (pe_dget hu (pv 0) pe_str (fun _ _ => rfl)) pa_nil))))
    (pss_cons (ps_set (i := 4) sc.nd rfl (.inl rfl) (pe_ix ix_list (pe_dget hu (pv 0) pe_str (fun _ _ => rfl)) (pv 3) (fun _ _ => rfl)))
    (pss_cons (ps_if (pt_cmpR op_gt (pv 4) pe_int (nomark _))
      (pss_cons (ps_asg (pe_op op_fdivW (pv 4) (pv 1)) (pg_sub (pe_dget hu (pv 0) pe_str (fun _ _ => rfl)) (pv 3) set_list))
        (pss_one (ps_ret (pe_op op_mod (pe_callTy call_int1 rfl m_int bo_int (pa_cons (pv 4) pa_nil)) (pv 1))))) pss_nil)
    (pss_cons (ps_set (i := 5) sc.nd rfl (.inl rfl) (pe_callSD (E := fun σ => WE (wOf E) σ) GM hr rfl gM kM bM .nil (fun σ => passAt tk σ) (pa_cons (pe_callSD (E := fun σ => WE (wOf E) σ) GM hr rfl gM kM bM .nil (fun σ => passAt tk σ) (pa_cons (pe_ix ix_list (pe_dget hu (pv 0) pe_str (fun _ _ => rfl)) (pv 3) (fun _ _ => rfl)) (pa_cons (pv 2) pa_nil))) (pa_cons (pe_op op_add pe_int (pv 2)) pa_nil))))
    (pss_one (ps_ret (pe_op op_mod (pe_op op_fdiv (pe_callTy call_int1 rfl m_int bo_int (pa_cons (pe_op op_add (pe_op op_mulW (pv 5) pe_int) (pe_callSD (E := fun σ => WE (wOf E) σ) GM hr rfl gM kM bM .nil (fun σ => passAt tk σ) (pa_cons (pv 5) (pa_cons (pe_op op_add pe_int (pv 2)) pa_nil)))) pa_nil)) pe_int) (pv 1))))))))), ?_⟩
  obtain ⟨c, d, ws, hTT, wd, r, h⟩ := h
  by_cases hw : ∃ n, ws = [.stt, .int n]
  case neg =>
    rw [F_draw_bad fun n z => hw ⟨n, z⟩] at h
    exact h.elim
  obtain ⟨n, rfl⟩ := hw
  cases r with
  | cons r1 r2 =>
  cases r2 with
  | cons r2 r3 =>
  cases r3
  cases r2
  cases r1
  obtain ⟨⟨hn0, hn1⟩, e, hde, hq⟩ := draw_all h
  obtain ⟨⟨cells, lefts, k, rr, hS, hca, hla, hlen, hpos, hk0, hkb, hne, hT⟩, hob⟩ := wd.st
  rw [hde] at hkb
  have nS : c.ca ≠ c.S := ne_of hca hS (by intro z; cases z)
  have nS2 : c.la ≠ c.S := ne_of hla hS (by intro z; cases z)
  -- at
  refine ⟨.ref c.S, rfl, c.S, .int k, rfl, DGet.st (x := .inr kAt) hS st_at, ?_⟩
  refine ⟨.int k, rfl, k, 1, rfl, rfl, .ref c.S, rfl, c.S, _, rfl, DPut.k (k := .inr kAt) hS (by show 4 < sizeLine; decide), ?_⟩
  generalize hH1 : upd H c.S _ = H1
  have hS1 : H1 c.S = some (.dK (stK c.ca c.la (k + 1) rr)) := by rw [← hH1, upd_same, st_put]
  have o1 : ∀ b, b ≠ c.S → H1 b = H b := fun b hb => by rw [← hH1, upd_ne hb]
  have hca1 : H1 c.ca = some (.lst (cells.map V.int)) := by rw [o1 _ nS]; exact hca
  have hla1 : H1 c.la = some (.lst (lefts.map V.int)) := by rw [o1 _ nS2]; exact hla
  have st1 : Step c H H1 := ⟨fun b o hb h1 h2 _ => by rw [o1 b h1]; exact hb, fun b ps hb => ⟨#[], by rw [o1 b (ne_of hb hS (by intro z; cases z)), hb]; simp⟩, fun b C dx fs hb => ⟨fs, by rw [o1 b (ne_of hb hS (by intro z; cases z))]; exact hb⟩⟩
  have sm1 : ∀ b C dx fl, H b = some (.ins C dx fl) → H1 b = some (.ins C dx fl) := fun b C dx fl hb => by rw [o1 b (ne_of hb hS (by intro z; cases z))]; exact hb
  have hT1 : LamX.Tabs c.T H1 := by
    rw [← hH1]
    exact Tabs.upd hT hS nofun dK_noC
  have so1 : StOk c ⟨e, d.os⟩ H1 := StOk.drawn wd.st st1 sm1 hk0 hkb hne hlen hpos hS1 hca1 hla1 hT1
  have wd1 : Wd c ⟨e, d.os⟩ H1 := wd.step (.of st1) so1
  -- place
  refine ⟨.int k, rfl, .inl ⟨k, rfl, ?_⟩⟩
  refine ⟨.ref c.S, rfl, c.S, .ref c.ca, rfl, DGet.st (x := .inr kCells) hS1 st_cells, _, cells.length, rfl, .inl ⟨_, SqL.of hca1, by rw [List.length_map]⟩, k, _, rfl, rfl, by omega, ?_⟩
  have p0 : 0 ≤ k % (cells.length : Int) := Int.emod_nonneg _ (by omega)
  have p1 : k % (cells.length : Int) < cells.length := Int.emod_lt_of_pos _ (by omega)
  obtain ⟨j, hpj⟩ : ∃ j : Nat, k % (cells.length : Int) = j := ⟨(k % (cells.length : Int)).toNat, by omega⟩
  have hj : j < cells.length := by omega
  have hjl : j < lefts.length := by omega
  -- left
  refine ⟨.ref c.S, rfl, c.S, .ref c.la, rfl, DGet.st (x := .inr kLefts) hS1 st_lefts, .int (k % (cells.length : Int)), rfl, c.la, _, k % (cells.length : Int), .int lefts[j], rfl, rfl, SqL.of hla1, (by rw [hpj]; exact atI_nat (by rw [List.getElem?_map, List.getElem?_eq_getElem hjl]; rfl)), ?_⟩
  refine ⟨.int lefts[j], rfl, lefts[j], 0, rfl, rfl, _, rfl, ite2 (fun hl => ?_) (fun hl => ?_)⟩
  · -- by the digits
    refine ⟨.int lefts[j], rfl, .int n, rfl, lefts[j], n, rfl, rfl, ⟨hn0, hn1⟩, ?_⟩
    refine ⟨.ref c.S, rfl, c.S, .ref c.la, rfl, DGet.st (x := .inr kLefts) hS1 st_lefts, .int (k % (cells.length : Int)), rfl, c.la, _, k % (cells.length : Int), j, rfl, rfl, hla1, ?_, ?_⟩
    · unfold ixN
      rw [if_pos p0, if_pos (by rw [List.length_map]; omega), hpj]
      rfl
    refine ⟨.int lefts[j], rfl, .inl ⟨lefts[j], rfl, .int n, rfl, lefts[j], n, rfl, rfl, hn0, ?_⟩⟩
    have st2 : Step c H (upd H1 c.la (.lst ((lefts.map V.int).set j (.int (lefts[j] / n))))) := ⟨fun b o hb h1 h2 h3 => by rw [upd_ne h2]; exact st1.keep b o hb h1 h2 h3, fun b ps hb => by rw [upd_ne (ne_of hb hla (by intro z; cases z))]; exact st1.tbl b ps hb, fun b C dx fs hb => by rw [upd_ne (ne_of hb hla (by intro z; cases z))]; exact st1.ins b C dx fs hb⟩
    refine hq _ _ (Int.emod_nonneg _ (by omega)) (Int.emod_lt_of_pos _ hn0) (.of st2) (StOk.drawn (r := rr) wd.st st2 (fun b C dx fl hb => by rw [upd_ne (ne_of hb hla (by intro z; cases z))]; exact sm1 b C dx fl hb) (lefts' := lefts.set j (lefts[j] / n)) hk0 hkb hne (by rw [List.length_set]; exact hlen) hpos ?_ ?_ ?_ (Tabs.upd hT1 hla1 nofun lst_noC))
    · rw [upd_ne (Ne.symm nS2)]
      exact hS1
    · rw [upd_ne hne]
      exact hca1
    · rw [upd_same, List.map_set]
  · -- mixed
    refine ⟨.ref c.S, rfl, c.S, .ref c.ca, rfl, DGet.st (x := .inr kCells) hS1 st_cells, .int (k % (cells.length : Int)), rfl, c.ca, _, k % (cells.length : Int), .int cells[j], rfl, rfl, SqL.of hca1, (by rw [hpj]; exact atI_nat (by rw [List.getElem?_map, List.getElem?_eq_getElem hj]; rfl)), ?_⟩
    refine ⟨.int k, rfl, mix_sp hTT wd1 hk0 (by omega) fun c2 H2 st2 so2 => ?_⟩
    have wd2 := wd1.step st2 so2
    refine ⟨.int k, rfl, 40, k, rfl, rfl, mix_sp ⟨st2.g.T.trans hTT.1, st2.g.KK.trans hTT.2⟩ wd2 (by omega) (by omega) fun c3 H3 st3 so3 => ?_⟩
    have wd3 := wd2.step st3 so3
    refine ⟨_, rfl, _, 2147483647, rfl, rfl, wide_mul (a := 32) (b := 32) ?_ (by decide) (by decide) (by decide) (by decide), ?_⟩
    · have := mixv_lt (mixv cells[j] k) (40 + k)
      omega
    refine ⟨_, rfl, .int k, rfl, 7, k, rfl, rfl, mix_sp ⟨(st2.trans st3).g.T.trans hTT.1, (st2.trans st3).g.KK.trans hTT.2⟩ wd3 (by omega) (by omega) fun c4 H4 st4 so4 => ?_⟩
    refine ⟨_, _, rfl, rfl, .inl ⟨_, rfl, _, 64, rfl, rfl, ⟨by decide, by decide⟩, .int n, rfl, _, n, rfl, rfl, hn0, ?_⟩⟩
    exact hq _ _ (Int.emod_nonneg _ (by omega)) (Int.emod_lt_of_pos _ hn0) ((SG.of st1).trans (st2.trans (st3.trans st4))) so4
theorem ok__law_of {f : Addr} {fd : FuncData} (F : FnP K "_law_of" (top 46) sc__law_of f fd) (gl : mg "_law_of" = some (.ref f)) (om : noObj K = true) (m_len : mg "len" = none) (h__law_draw : FnGs P w K mg base 2 "_law_draw" ["_law_state", "_law_many"] F__law_draw) : FnGs P w K mg base 3 "_law_of" ["_law_state", "_law_some"] F__law_of := by
  have sc : FnScope ["_law_state", "_law_some"] ["_law_state", "_law_some"] sc__law_of := ⟨rfl, rfl, rfl, by decide +kernel, rfl, by decide +kernel, by decide +kernel⟩
  refine ⟨f, fd, fn_trG (k := 2) F sc (fun Γ cdv A outer s H E hcd hgd hr => ?_), gl, F.kp, F.bindsN fun _ _ _ _ _ _ us hl => match us, hl with | [_, _], _ => rfl⟩
  have tk : Takes (cxOf (L2.CX P w) P w K mg base ["_law_state", "_law_some"] "_law_of" sc__law_of f cdv A outer s H E) (wOf E) := takes_of rfl rfl rfl rfl
  exact (trs_one (tr_ret (tr_ix ix_seq sem_ix (tr_var 1) (tr_callG h__law_draw hgd (hr.mono (by decide)) tk rfl (tra_cons (tr_var 0) (tra_cons (tr_callB call_len sem_len rfl m_len bo_len (tra_cons (tr_var 1) tra_nil)) tra_nil))))))
theorem ok__law_back {f : Addr} {fd : FuncData} (F : FnP K "_law_back" (top 47) sc__law_back f fd) (gl : mg "_law_back" = some (.ref f)) (om : noObj K = true) (m_range : mg "range" = none) (m_int : mg "int" = none) : FnGs P w K mg base 1 "_law_back" ["_law_prime_so", "_law_sign"] F__law_back := by
  have sc : FnScope ["_law_prime_so", "_law_sign", "_law_one"] ["_law_prime_so", "_law_sign"] sc__law_back := ⟨rfl, rfl, rfl, by decide +kernel, rfl, by decide +kernel, by decide +kernel⟩
  refine ⟨f, fd, fn_trG (k := 0) F sc (fun Γ cdv A outer s H E hcd hgd hr => ?_), gl, F.kp, F.bindsN fun _ _ _ _ _ _ us hl => match us, hl with | [_, _], _ => rfl⟩
  have tk : Takes (cxOf (L2.CX P w) P w K mg base ["_law_prime_so", "_law_sign", "_law_one"] "_law_back" sc__law_back f cdv A outer s H E) (wOf E) := takes_of rfl rfl rfl rfl
  exact (trs_one (tr_ret (tr_ix ix_seq sem_ix (tr_lc (own := [("_law_one", 2)]) rfl sc.nd (tri_rng2 rfl m_range (tra_cons tr_int (tra_cons (tr_var 0) tra_nil))) (blkOk_by (N := ["_law_prime_so", "_law_sign", "_law_one"]) (sc := sc__law_back) (by decide +kernel)) (by decide) (fun _ _ _ _ _ => (trg_name sc.nd rfl (by first | exact .inl rfl | exact .inr rfl))) (fun _ _ _ _ _ => (trt_one (trb_cmp (op_eqS hr.units) sem_eqS (tr_op op_mod sem_mod (tr_callTy call_int1 sem_int1 rfl m_int bo_int (tra_cons (tr_op op_mulW sem_mul (tr_var 2) (tr_var 1)) tra_nil)) (tr_var 0)) tr_int (nomark _)))) (fun _ _ _ _ _ => (tr_var 2))) tr_int)))
theorem ok__law_prime {f : Addr} {fd : FuncData} (F : FnP K "_law_prime" (top 53) sc__law_prime f fd) (gl : mg "_law_prime" = some (.ref f)) (om : noObj K = true) (h__law_draw : FnGs P w K mg base 2 "_law_draw" ["_law_state", "_law_many"] F__law_draw) : FnGs P w K mg base 3 "_law_prime" ["_law_state"] F__law_prime := by
  have sc : FnScope ["_law_state"] ["_law_state"] sc__law_prime := ⟨rfl, rfl, rfl, by decide +kernel, rfl, by decide +kernel, by decide +kernel⟩
  refine ⟨f, fd, fn_trG (k := 2) F sc (fun Γ cdv A outer s H E hcd hgd hr => ?_), gl, F.kp, F.bindsN fun _ _ _ _ _ _ us hl => match us, hl with | [_], _ => rfl⟩
  have tk : Takes (cxOf (L2.CX P w) P w K mg base ["_law_state"] "_law_prime" sc__law_prime f cdv A outer s H E) (wOf E) := takes_of rfl rfl rfl rfl
  exact (trs_one (tr_ret (tr_ix ix_seq sem_ix (tr_lst (tra_cons tr_int (tra_cons tr_int (tra_cons tr_int (tra_cons tr_int (tra_cons tr_int tra_nil)))))) (tr_callG h__law_draw hgd (hr.mono (by decide)) tk rfl (tra_cons (tr_var 0) (tra_cons tr_int tra_nil))))))
theorem ok__law_message {f : Addr} {fd : FuncData} (F : FnP K "_law_message" (top 55) sc__law_message f fd) (gl : mg "_law_message" = some (.ref f)) (om : noObj K = true) (m_tuple : mg "tuple" = none) (m_range : mg "range" = none) (h__law_draw : FnGs P w K mg base 2 "_law_draw" ["_law_state", "_law_many"] F__law_draw) : FnGs P w K mg base 3 "_law_message" ["_law_state", "_law_prime_so", "_law_many"] F__law_message := by
  have sc : FnScope ["_law_state", "_law_prime_so", "_law_many", "_law_k"] ["_law_state", "_law_prime_so", "_law_many"] sc__law_message := ⟨rfl, rfl, rfl, by decide +kernel, rfl, by decide +kernel, by decide +kernel⟩
  refine ⟨f, fd, fn_trG (k := 2) F sc (fun Γ cdv A outer s H E hcd hgd hr => ?_), gl, F.kp, F.bindsN fun _ _ _ _ _ _ us hl => match us, hl with | [_, _, _], _ => rfl⟩
  have tk : Takes (cxOf (L2.CX P w) P w K mg base ["_law_state", "_law_prime_so", "_law_many", "_law_k"] "_law_message" sc__law_message f cdv A outer s H E) (wOf E) := takes_of rfl rfl rfl rfl
  exact (trs_one (tr_ret (tr_callTy call_tuple_of sem_tupOf rfl m_tuple bo_tuple (tra_cons (tr_lc (own := [("_law_k", 3)]) rfl sc.nd (tri_rng1 rfl m_range (tra_cons (tr_var 2) tra_nil)) (blkOk_by (N := ["_law_state", "_law_prime_so", "_law_many", "_law_k"]) (sc := sc__law_message) (by decide +kernel)) (by decide) (fun _ _ _ _ _ => (trg_name sc.nd rfl (by first | exact .inl rfl | exact .inr rfl))) (fun _ _ _ _ _ => trt_nil) (fun _ _ _ _ _ => (tr_callG h__law_draw hgd (hr.mono (by decide)) takes0 rfl (tra_cons (tr_var 0) (tra_cons (tr_var 1) tra_nil))))) tra_nil))))
theorem ok__law_rank {f : Addr} {fd : FuncData} (F : FnP K "_law_rank" (top 57) sc__law_rank f fd) (gl : mg "_law_rank" = some (.ref f)) (om : noObj K = true) (m_list : mg "list" = none) (m_range : mg "range" = none) (m_len : mg "len" = none) (m_zip : mg "zip" = none) (m_int : mg "int" = none) (h__law_back : FnGs P w K mg base 1 "_law_back" ["_law_prime_so", "_law_sign"] F__law_back) : FnGs P w K mg base 2 "_law_rank" ["_law_prime_so", "_law_rows"] F__law_rank := by
  have sc : FnScope ["_law_prime_so", "_law_rows", "_law_row", "_law_left", "_law_got", "_law_place", "_law_some", "_law_first", "_law_later", "_law_back_here", "_law_factor", "_law_one", "_law_far"] ["_law_prime_so", "_law_rows"] sc__law_rank := ⟨rfl, rfl, rfl, by decide +kernel, rfl, by decide +kernel, by decide +kernel⟩
  refine ⟨f, fd, fn_trG (k := 1) F sc (fun Γ cdv A outer s H E hcd hgd hr => ?_), gl, F.kp, F.bindsN fun _ _ _ _ _ _ us hl => match us, hl with | [_, _], _ => rfl⟩
  have tk : Takes (cxOf (L2.CX P w) P w K mg base ["_law_prime_so", "_law_rows", "_law_row", "_law_left", "_law_got", "_law_place", "_law_some", "_law_first", "_law_later", "_law_back_here", "_law_factor", "_law_one", "_law_far"] "_law_rank" sc__law_rank f cdv A outer s H E) (wOf E) := takes_of rfl rfl rfl rfl
  exact (trs_cons (tr_par (ps_par rfl sc.nd rfl rfl (by decide) rfl rfl (tra_cons (tr_lc (own := [("_law_row", 2)]) rfl sc.nd (tri_lst (tr_var 1)) (blkOk_by (N := ["_law_prime_so", "_law_rows", "_law_row", "_law_left", "_law_got", "_law_place", "_law_some", "_law_first", "_law_later", "_law_back_here", "_law_factor", "_law_one", "_law_far"]) (sc := sc__law_rank) (by decide +kernel)) (by decide) (fun _ _ _ _ _ => (trg_name sc.nd rfl (by first | exact .inl rfl | exact .inr rfl))) (fun _ _ _ _ _ => trt_nil) (fun _ _ _ _ _ => (tr_callTy call_list_of sem_lstOf rfl m_list bo_list (tra_cons (tr_var 2) tra_nil)))) (tra_cons tr_int tra_nil)) (by rfl))) (trs_cons (tr_for (passes_of rfl) rfl (tri_rng1 rfl m_range (tra_cons (tr_if (trb_cmp (op_neS hr.units) sem_neS (tr_var 3) (tr_lst tra_nil) (nomark _)) (tr_callB call_len sem_len rfl m_len bo_len (tra_cons (tr_ix ix_seq sem_ix (tr_var 3) tr_int) tra_nil)) tr_int) tra_nil)) (trg_name sc.nd rfl (.inr rfl)) (trs_cons (tr_setLc (i := 6) (own := [("_law_row", 2)]) rfl sc.nd rfl rfl (sw_true rfl rfl rfl (by decide +kernel)) (tri_lst (tr_var 3)) (blkOk_by (N := ["_law_prime_so", "_law_rows", "_law_row", "_law_left", "_law_got", "_law_place", "_law_some", "_law_first", "_law_later", "_law_back_here", "_law_factor", "_law_one", "_law_far"]) (sc := sc__law_rank) (by decide +kernel)) (by decide) (fun _ _ _ _ _ => (trg_name sc.nd rfl (by first | exact .inl rfl | exact .inr rfl))) (fun _ _ _ _ _ => (trt_one (trb_cmp (op_neS hr.units) sem_neS (tr_ix ix_seq sem_ix (tr_var 2) (tr_var 5)) tr_int (nomark _)))) (fun _ _ _ _ _ => (tr_var 2))) (trs_one (tr_ifs (trb_cmp (op_neS hr.units) sem_neS (tr_var 6) (tr_lst tra_nil) (nomark _)) (trs_cons (tr_ownLast (ps_par3 rfl sc.nd rfl rfl rfl (by decide) (by decide) (by decide) rfl rfl rfl (pa_cons (tr_ix ix_seq sem_ix (tr_var 6) tr_int) (pa_cons (tr_op op_addW sem_add (tr_var 4) tr_int) (pa_cons (pe_lst pa_nil) pa_nil))) (by rfl))) (trs_cons (tr_set (i := 9) sc.nd rfl (.inl rfl) (tr_callG h__law_back hgd (hr.mono (by decide)) tk rfl (tra_cons (tr_var 0) (tra_cons (tr_ix ix_seq sem_ix (tr_var 7) (tr_var 5)) tra_nil)))) (trs_cons (tr_for (passes_of rfl) rfl (tri_lst (tr_var 3)) (trg_name sc.nd rfl (.inl rfl)) (trs_one (tr_ifs (trb_cmp (op_neS hr.units) sem_neS (tr_var 2) (tr_var 7) (nomark _)) (trs_cons (tr_set (i := 10) sc.nd rfl (.inr rfl) (tr_op op_mulW sem_mul (tr_ix ix_seq sem_ix (tr_var 2) (tr_var 5)) (tr_var 9))) (trs_one (tr_app (pv 8) (tra_cons (tr_lc (own := [("_law_one", 11), ("_law_far", 12)]) rfl sc.nd (tri_zip rfl m_zip (tra_cons (tr_var 2) (tra_cons (tr_var 7) tra_nil))) (blkOk_by (N := ["_law_prime_so", "_law_rows", "_law_row", "_law_left", "_law_got", "_law_place", "_law_some", "_law_first", "_law_later", "_law_back_here", "_law_factor", "_law_one", "_law_far"]) (sc := sc__law_rank) (by decide +kernel)) (by decide) (fun _ _ _ _ _ => (trg_tup rfl (trgs_cons (trg_name sc.nd rfl (by first | exact .inl rfl | exact .inr rfl)) (trgs_cons (trg_name sc.nd rfl (by first | exact .inl rfl | exact .inr rfl)) trgs_nil)))) (fun _ _ _ _ _ => trt_nil) (fun _ _ _ _ _ => (tr_op op_mod sem_mod (tr_callTy call_int1 sem_int1 rfl m_int bo_int (tra_cons (tr_op op_sub sem_sub (tr_var 11) (tr_op op_mulW sem_mul (tr_var 10) (tr_var 12))) tra_nil)) (tr_var 0)))) tra_nil)))) trs_nil))) (trs_one (tr_frz 8 (tr_set (i := 3) sc.nd rfl (.inl rfl) (tr_callTy call_list_of sem_lstOf rfl m_list bo_list (tra_cons (tr_var 8) tra_nil)))))))) trs_nil)))) (trs_one (tr_ret (tr_var 4)))))
theorem ok__law_forms {f : Addr} {fd : FuncData} (F : FnP K "_law_forms" (top 58) sc__law_forms f fd) (gl : mg "_law_forms" = some (.ref f)) (om : noObj K = true) (m_list : mg "list" = none) : FnGs P w K mg base 1 "_law_forms" ["_law_code_so", "_law_lot_here"] F__law_forms := by
  have sc : FnScope ["_law_code_so", "_law_lot_here", "_law_got", "_law_number", "_law_form"] ["_law_code_so", "_law_lot_here"] sc__law_forms := ⟨rfl, rfl, rfl, by decide +kernel, rfl, by decide +kernel, by decide +kernel⟩
  refine ⟨f, fd, fn_trG (k := 0) F sc (fun Γ cdv A outer s H E hcd hgd hr => ?_), gl, F.kp, F.bindsN fun _ _ _ _ _ _ us hl => match us, hl with | [_, _], _ => rfl⟩
  have tk : Takes (cxOf (L2.CX P w) P w K mg base ["_law_code_so", "_law_lot_here", "_law_got", "_law_number", "_law_form"] "_law_forms" sc__law_forms f cdv A outer s H E) (wOf E) := takes_of rfl rfl rfl rfl
  exact (trs_cons (tr_set (i := 2) sc.nd rfl (.inl rfl) (tr_lst tra_nil)) (trs_cons (tr_for (passes_of rfl) rfl (tri_tup (tr_var 1)) (trg_name sc.nd rfl (.inl rfl)) (trs_one (tr_set (i := 2) sc.nd rfl (.inl rfl) (tr_op op_addW sem_add (tr_var 2) (tr_lc (own := [("_law_form", 4)]) rfl sc.nd (tri_tup (tr_ix ix_seq sem_ix (tr_ix ix_seq sem_ix (tr_var 0) tr_int) (tr_var 3))) (blkOk_by (N := ["_law_code_so", "_law_lot_here", "_law_got", "_law_number", "_law_form"]) (sc := sc__law_forms) (by decide +kernel)) (by decide) (fun _ _ _ _ _ => (trg_name sc.nd rfl (by first | exact .inl rfl | exact .inr rfl))) (fun _ _ _ _ _ => trt_nil) (fun _ _ _ _ _ => (tr_callTy call_list_of sem_lstOf rfl m_list bo_list (tra_cons (tr_var 4) tra_nil)))))))) (trs_one (tr_ret (tr_var 2)))))
theorem ok__law_reach {f : Addr} {fd : FuncData} (F : FnP K "_law_reach" (top 59) sc__law_reach f fd) (gl : mg "_law_reach" = some (.ref f)) (om : noObj K = true) (m_range : mg "range" = none) (m_int : mg "int" = none) (h__law_forms : FnGs P w K mg base 1 "_law_forms" ["_law_code_so", "_law_lot_here"] F__law_forms) (h__law_rank : FnGs P w K mg base 2 "_law_rank" ["_law_prime_so", "_law_rows"] F__law_rank) : FnGs P w K mg base 3 "_law_reach" ["_law_code_so", "_law_lot_here"] F__law_reach := by
  have sc : FnScope ["_law_code_so", "_law_lot_here", "_law_prime_so", "_law_many", "_law_letters_so", "_law_rows", "_law_got", "_law_spot", "_law_unit", "_law_one"] ["_law_code_so", "_law_lot_here"] sc__law_reach := ⟨rfl, rfl, rfl, by decide +kernel, rfl, by decide +kernel, by decide +kernel⟩
  refine ⟨f, fd, fn_trG (k := 2) F sc (fun Γ cdv A outer s H E hcd hgd hr => ?_), gl, F.kp, F.bindsN fun _ _ _ _ _ _ us hl => match us, hl with | [_, _], _ => rfl⟩
  have tk : Takes (cxOf (L2.CX P w) P w K mg base ["_law_code_so", "_law_lot_here", "_law_prime_so", "_law_many", "_law_letters_so", "_law_rows", "_law_got", "_law_spot", "_law_unit", "_law_one"] "_law_reach" sc__law_reach f cdv A outer s H E) (wOf E) := takes_of rfl rfl rfl rfl
  exact (trs_cons (tr_asg (tr_var 0) (trg_tup rfl (trgs_cons (trg_name sc.nd rfl (.inl rfl)) (trgs_cons (trg_name sc.nd rfl (.inl rfl)) (trgs_cons (trg_name sc.nd rfl (.inl rfl)) trgs_nil))))) (trs_cons (tr_par (ps_par rfl sc.nd rfl rfl (by decide) rfl rfl (tra_cons (tr_callG h__law_forms hgd (hr.mono (by decide)) tk rfl (tra_cons (tr_var 0) (tra_cons (tr_var 1) tra_nil))) (tra_cons tr_int tra_nil)) (by rfl))) (trs_cons (tr_for (passes_of rfl) rfl (tri_rng1 rfl m_range (tra_cons (tr_var 3) tra_nil)) (trg_name sc.nd rfl (.inr rfl)) (trs_cons (tr_setLc (i := 8) (own := [("_law_one", 9)]) rfl sc.nd rfl rfl (sw_true rfl rfl rfl (by decide +kernel)) (tri_rng1 rfl m_range (tra_cons (tr_var 3) tra_nil)) (blkOk_by (N := ["_law_code_so", "_law_lot_here", "_law_prime_so", "_law_many", "_law_letters_so", "_law_rows", "_law_got", "_law_spot", "_law_unit", "_law_one"]) (sc := sc__law_reach) (by decide +kernel)) (by decide) (fun _ _ _ _ _ => (trg_name sc.nd rfl (by first | exact .inl rfl | exact .inr rfl))) (fun _ _ _ _ _ => trt_nil) (fun _ _ _ _ _ => (tr_callTy call_int1 sem_int1 rfl m_int bo_int (tra_cons (tr_cmp (op_eqS hr.units) sem_eqS (tr_var 9) (tr_var 7) (nomark _)) tra_nil)))) (trs_one (tr_ifs (TrW.toB (trw_and (trb_cmp (op_eqS hr.units) sem_eqS (tr_var 6) (tr_var 7) (nomark _)) (trw_and (trb_cmp (op_neS hr.units) sem_neS (tr_var 5) (tr_lst tra_nil) (nomark _)) (trw_and1 (trb_cmp (op_eqS hr.units) sem_eqS (tr_callG h__law_rank hgd (hr.mono (by decide)) tk rfl (tra_cons (tr_var 2) (tra_cons (tr_op op_addW sem_add (tr_var 5) (tr_lst (tra_cons (tr_var 8) tra_nil))) tra_nil))) (tr_callG h__law_rank hgd (hr.mono (by decide)) tk rfl (tra_cons (tr_var 2) (tra_cons (tr_var 5) tra_nil))) (nomark _)))))) (trs_one (tr_set (i := 6) sc.nd rfl (.inl rfl) (tr_op op_addW sem_add (tr_var 7) tr_int))) trs_nil)))) (trs_one (tr_ret (tr_var 6))))))
theorem ok__law_lots {f : Addr} {fd : FuncData} (F : FnP K "_law_lots" (top 60) sc__law_lots f fd) (gl : mg "_law_lots" = some (.ref f)) (om : noObj K = true) (m_range : mg "range" = none) (m_sorted : mg "sorted" = none) (m_len : mg "len" = none) : FnGs P w K mg base 1 "_law_lots" ["_law_many", "_law_few"] F__law_lots := by
  have sc : FnScope ["_law_many", "_law_few", "_law_rows", "_law_one", "_law_row"] ["_law_many", "_law_few"] sc__law_lots := ⟨rfl, rfl, rfl, by decide +kernel, rfl, by decide +kernel, by decide +kernel⟩
  refine ⟨f, fd, fn_trG (k := 0) F sc (fun Γ cdv A outer s H E hcd hgd hr => ?_), gl, F.kp, F.bindsN fun _ _ _ _ _ _ us hl => match us, hl with | [_, _], _ => rfl⟩
  have tk : Takes (cxOf (L2.CX P w) P w K mg base ["_law_many", "_law_few", "_law_rows", "_law_one", "_law_row"] "_law_lots" sc__law_lots f cdv A outer s H E) (wOf E) := takes_of rfl rfl rfl rfl
  exact (trs_cons (tr_set (i := 2) sc.nd rfl (.inl rfl) (tr_lst (tra_cons (tr_tup tra_nil) tra_nil))) (trs_cons (tr_for (passes_of rfl) rfl (tri_rng1 rfl m_range (tra_cons (tr_var 0) tra_nil)) (trg_name sc.nd rfl (.inr rfl)) (trs_one (tr_set (i := 2) sc.nd rfl (.inl rfl) (tr_op op_addW sem_add (tr_var 2) (tr_lc (own := [("_law_row", 4)]) rfl sc.nd (tri_lst (tr_var 2)) (blkOk_by (N := ["_law_many", "_law_few", "_law_rows", "_law_one", "_law_row"]) (sc := sc__law_lots) (by decide +kernel)) (by decide) (fun _ _ _ _ _ => (trg_name sc.nd rfl (by first | exact .inl rfl | exact .inr rfl))) (fun _ _ _ _ _ => trt_nil) (fun _ _ _ _ _ => (tr_op op_addW sem_add (tr_var 4) (tr_tup (tra_cons (tr_var 3) tra_nil))))))))) (trs_one (tr_ret (tr_callB (callR_or (callR_or (callR_or cr_sortTI cr_sortedI) (cr_sortD (Room.units65 hr))) cr_sort1) sem_sortedV rfl m_sorted bo_sorted (tra_cons (tr_lc (own := [("_law_row", 4)]) rfl sc.nd (tri_lst (tr_var 2)) (blkOk_by (N := ["_law_many", "_law_few", "_law_rows", "_law_one", "_law_row"]) (sc := sc__law_lots) (by decide +kernel)) (by decide) (fun _ _ _ _ _ => (trg_name sc.nd rfl (by first | exact .inl rfl | exact .inr rfl))) (fun _ _ _ _ _ => (trt_one (trb_cmp (op_eqS hr.units) sem_eqS (tr_callB call_len sem_len rfl m_len bo_len (tra_cons (tr_var 4) tra_nil)) (tr_var 1) (nomark _)))) (fun _ _ _ _ _ => (tr_var 4))) tra_nil))))))
theorem ok__law_least {f : Addr} {fd : FuncData} (F : FnP K "_law_least" (top 61) sc__law_least f fd) (gl : mg "_law_least" = some (.ref f)) (om : noObj K = true) (m_len : mg "len" = none) (m_tuple : mg "tuple" = none) (m_range : mg "range" = none) (m_min : mg "min" = none) (h__law_lots : FnGs P w K mg base 1 "_law_lots" ["_law_many", "_law_few"] F__law_lots) (h__law_reach : FnGs P w K mg base 3 "_law_reach" ["_law_code_so", "_law_lot_here"] F__law_reach) : FnGs P w K mg base 4 "_law_least" ["_law_code_so"] F__law_least := by
  have sc : FnScope ["_law_code_so", "_law_many", "_law_few", "_law_lot_here"] ["_law_code_so"] sc__law_least := ⟨rfl, rfl, rfl, by decide +kernel, rfl, by decide +kernel, by decide +kernel⟩
  refine ⟨f, fd, fn_trG (k := 3) F sc (fun Γ cdv A outer s H E hcd hgd hr => ?_), gl, F.kp, F.bindsN fun _ _ _ _ _ _ us hl => match us, hl with | [_], _ => rfl⟩
  have tk : Takes (cxOf (L2.CX P w) P w K mg base ["_law_code_so", "_law_many", "_law_few", "_law_lot_here"] "_law_least" sc__law_least f cdv A outer s H E) (wOf E) := takes_of rfl rfl rfl rfl
  exact (trs_cons (tr_set (i := 1) sc.nd rfl (.inr rfl) (tr_callB call_len sem_len rfl m_len bo_len (tra_cons (tr_ix ix_seq sem_ix (tr_var 0) tr_int) tra_nil))) (trs_one (tr_ret (tr_callTy call_tuple_of sem_tupOf rfl m_tuple bo_tuple (tra_cons (tr_lc (own := [("_law_few", 2)]) rfl sc.nd (tri_rng2 rfl m_range (tra_cons tr_int (tra_cons (tr_op op_addW sem_add (tr_var 1) tr_int) tra_nil))) (blkOk_by (N := ["_law_code_so", "_law_many", "_law_few", "_law_lot_here"]) (sc := sc__law_least) (by decide +kernel)) (by decide) (fun _ _ _ _ _ => (trg_name sc.nd rfl (by first | exact .inl rfl | exact .inr rfl))) (fun _ _ _ _ _ => trt_nil) (fun _ _ _ _ _ => (tr_callB (callR_or (callR_or (call_min2 rfl) (cr_min rfl)) (cr_minD rfl (Room.units65 hr))) sem_minQ rfl m_min bo_min (tra_cons (tr_lc (own := [("_law_lot_here", 3)]) rfl sc.nd (tri_lst (tr_callG h__law_lots hgd (hr.mono (by decide)) takes0 rfl (tra_cons (tr_var 1) (tra_cons (tr_var 2) tra_nil)))) (blkOk_by (by kernel_rfl)) (by decide) (fun _ _ _ _ _ => (trg_name sc.nd rfl (by first | exact .inl rfl | exact .inr rfl))) (fun _ _ _ _ _ => trt_nil) (fun _ _ _ _ _ => (tr_callG h__law_reach hgd (hr.mono (by decide)) takes0 rfl (tra_cons (tr_var 0) (tra_cons (tr_var 3) tra_nil))))) tra_nil)))) tra_nil)))))
theorem ok__law_code {f : Addr} {fd : FuncData} (F : FnP K "_law_code" (top 62) sc__law_code f fd) (gl : mg "_law_code" = some (.ref f)) (om : noObj K = true) (m_range : mg "range" = none) (m_tuple : mg "tuple" = none) (m_zip : mg "zip" = none) (m_int : mg "int" = none) (h__law_draw : FnGs P w K mg base 2 "_law_draw" ["_law_state", "_law_many"] F__law_draw) (h__law_prime : FnGs P w K mg base 3 "_law_prime" ["_law_state"] F__law_prime) (h__law_message : FnGs P w K mg base 3 "_law_message" ["_law_state", "_law_prime_so", "_law_many"] F__law_message) (h__law_of : FnGs P w K mg base 3 "_law_of" ["_law_state", "_law_some"] F__law_of) : FnGs P w K mg base 4 "_law_code" ["_law_state"] F__law_code := by
  have sc : FnScope ["_law_state", "_law_prime_so", "_law_many", "_law_k", "_law_basis", "_law_letters_so", "_law_long", "_law_letter", "_law_place", "_law_way", "_law_one", "_law_far", "_law_at", "_law_near", "_law_rest", "_law_spot"] ["_law_state"] sc__law_code := ⟨rfl, rfl, rfl, by decide +kernel, rfl, by decide +kernel, by decide +kernel⟩
  refine ⟨f, fd, fn_trG (k := 3) F sc (fun Γ cdv A outer s H E hcd hgd hr => ?_), gl, F.kp, F.bindsN fun _ _ _ _ _ _ us hl => match us, hl with | [_], _ => rfl⟩
  have tk : Takes (cxOf (L2.CX P w) P w K mg base ["_law_state", "_law_prime_so", "_law_many", "_law_k", "_law_basis", "_law_letters_so", "_law_long", "_law_letter", "_law_place", "_law_way", "_law_one", "_law_far", "_law_at", "_law_near", "_law_rest", "_law_spot"] "_law_code" sc__law_code f cdv A outer s H E) (wOf E) := takes_of rfl rfl rfl rfl
  exact (trs_cons (tr_asg (tr_tup (tra_cons (tr_callG h__law_prime hgd (hr.mono (by decide)) tk rfl (tra_cons (tr_var 0) tra_nil)) (tra_cons (tr_callG h__law_draw hgd (hr.mono (by decide)) tk rfl (tra_cons (tr_var 0) (tra_cons tr_int tra_nil))) tra_nil))) (trg_tup rfl (trgs_cons (trg_name sc.nd rfl (.inr rfl)) (trgs_cons (trg_name sc.nd rfl (.inr rfl)) trgs_nil)))) (trs_cons (tr_setLc (i := 4) (own := [("_law_k", 3)]) rfl sc.nd rfl rfl (sw_true rfl rfl rfl (by decide +kernel)) (tri_rng1 rfl m_range (tra_cons (tr_op op_addW sem_add tr_int (tr_callG h__law_draw hgd (hr.mono (by decide)) tk rfl (tra_cons (tr_var 0) (tra_cons tr_int tra_nil)))) tra_nil)) (blkOk_by (N := ["_law_state", "_law_prime_so", "_law_many", "_law_k", "_law_basis", "_law_letters_so", "_law_long", "_law_letter", "_law_place", "_law_way", "_law_one", "_law_far", "_law_at", "_law_near", "_law_rest", "_law_spot"]) (sc := sc__law_code) (by decide +kernel)) (by decide) (fun _ _ _ _ _ => (trg_name sc.nd rfl (by first | exact .inl rfl | exact .inr rfl))) (fun _ _ _ _ _ => trt_nil) (fun _ _ _ _ _ => (tr_callG h__law_message hgd (hr.mono (by decide)) takes0 rfl (tra_cons (tr_var 0) (tra_cons (tr_var 1) (tra_cons (tr_var 2) tra_nil)))))) (trs_cons (tr_ownPar (by decide) (ps_par rfl sc.nd rfl rfl (by decide) rfl rfl (pa_cons (pe_lst pa_nil) (tra_cons (tr_callG h__law_draw hgd (hr.mono (by decide)) tk rfl (tra_cons (tr_var 0) (tra_cons tr_int tra_nil))) tra_nil)) (by rfl))) (trs_cons (tr_for (passes_of rfl) rfl (tri_rng1 rfl m_range (tra_cons (tr_op op_addW sem_add tr_int (tr_callG h__law_draw hgd (hr.mono (by decide)) tk rfl (tra_cons (tr_var 0) (tra_cons tr_int tra_nil)))) tra_nil)) (trg_name sc.nd rfl (.inl rfl)) (trs_cons (tr_own (i := 7) sc.nd rfl (.inl rfl) tra_nil) (trs_cons (tr_for (passes_of rfl) rfl (tri_rng1 rfl m_range (tra_cons (tr_var 6) tra_nil)) (trg_name sc.nd rfl (.inl rfl)) (trs_cons (tr_set (i := 9) sc.nd rfl (.inl rfl) (tr_callG h__law_draw hgd (hr.mono (by decide)) tk rfl (tra_cons (tr_var 0) (tra_cons tr_int tra_nil)))) (trs_cons (tr_par (ps_par rfl sc.nd rfl rfl (by decide) rfl rfl (tra_cons (tr_callG h__law_of hgd (hr.mono (by decide)) tk rfl (tra_cons (tr_var 0) (tra_cons (tr_var 4) tra_nil))) (tra_cons (tr_callG h__law_of hgd (hr.mono (by decide)) tk rfl (tra_cons (tr_var 0) (tra_cons (tr_var 4) tra_nil))) tra_nil)) (by rfl))) (trs_one (tr_ifs (trb_cmp (op_eqS hr.units) sem_eqS (tr_var 9) tr_int (nomark _)) (trs_one (tr_app (pv 7) (tra_cons (tr_callTy call_tuple_of sem_tupOf rfl m_tuple bo_tuple (tra_cons (tr_lc (own := [("_law_near", 13), ("_law_rest", 14)]) rfl sc.nd (tri_zip rfl m_zip (tra_cons (tr_var 10) (tra_cons (tr_var 11) tra_nil))) (blkOk_by (N := ["_law_state", "_law_prime_so", "_law_many", "_law_k", "_law_basis", "_law_letters_so", "_law_long", "_law_letter", "_law_place", "_law_way", "_law_one", "_law_far", "_law_at", "_law_near", "_law_rest", "_law_spot"]) (sc := sc__law_code) (by decide +kernel)) (by decide) (fun _ _ _ _ _ => (trg_tup rfl (trgs_cons (trg_name sc.nd rfl (by first | exact .inl rfl | exact .inr rfl)) (trgs_cons (trg_name sc.nd rfl (by first | exact .inl rfl | exact .inr rfl)) trgs_nil)))) (fun _ _ _ _ _ => trt_nil) (fun _ _ _ _ _ => (tr_op op_mod sem_mod (tr_callTy call_int1 sem_int1 rfl m_int bo_int (tra_cons (tr_op op_addW sem_add (tr_var 13) (tr_var 14)) tra_nil)) (tr_var 1)))) tra_nil)) tra_nil))) (trs_one (tr_ifs (trb_cmp (op_eqS hr.units) sem_eqS (tr_var 9) tr_int (nomark _)) (trs_one (tr_app (pv 7) (tra_cons (tr_callG h__law_message hgd (hr.mono (by decide)) tk rfl (tra_cons (tr_var 0) (tra_cons (tr_var 1) (tra_cons (tr_var 2) tra_nil)))) tra_nil))) (trs_cons (tr_set (i := 12) sc.nd rfl (.inr rfl) (tr_callG h__law_draw hgd (hr.mono (by decide)) tk rfl (tra_cons (tr_var 0) (tra_cons (tr_op op_addW sem_add tr_int (tr_var 2)) tra_nil)))) (trs_one (tr_app (pv 7) (tra_cons (tr_callTy call_tuple_of sem_tupOf rfl m_tuple bo_tuple (tra_cons (tr_lc (own := [("_law_spot", 15)]) rfl sc.nd (tri_rng1 rfl m_range (tra_cons (tr_var 2) tra_nil)) (blkOk_by (N := ["_law_state", "_law_prime_so", "_law_many", "_law_k", "_law_basis", "_law_letters_so", "_law_long", "_law_letter", "_law_place", "_law_way", "_law_one", "_law_far", "_law_at", "_law_near", "_law_rest", "_law_spot"]) (sc := sc__law_code) (by decide +kernel)) (by decide) (fun _ _ _ _ _ => (trg_name sc.nd rfl (by first | exact .inl rfl | exact .inr rfl))) (fun _ _ _ _ _ => trt_nil) (fun _ _ _ _ _ => (tr_callTy call_int1 sem_int1 rfl m_int bo_int (tra_cons (tr_cmp (op_eqS hr.units) sem_eqS (tr_var 12) (tr_var 15) (nomark _)) tra_nil)))) tra_nil)) tra_nil))))))))))) (trs_one (tr_frz 7 (tr_app (pv 5) (tra_cons (tr_callTy call_tuple_of sem_tupOf rfl m_tuple bo_tuple (tra_cons (tr_var 7) tra_nil)) tra_nil))))))) (trs_one (tr_frz 5 (tr_ret (tr_tup (tra_cons (tr_var 1) (tra_cons (tr_var 2) (tra_cons (tr_callTy call_tuple_of sem_tupOf rfl m_tuple bo_tuple (tra_cons (tr_var 5) tra_nil)) tra_nil)))))))))))
theorem ok__law_is_witness {f : Addr} {fd : FuncData} (F : FnP K "_law_is_witness" (top 63) sc__law_is_witness f fd) (gl : mg "_law_is_witness" = some (.ref f)) (om : noObj K = true) (m_isinstance : mg "isinstance" = none) (m_tuple : mg "tuple" = none) (m_len : mg "len" = none) (m_int : mg "int" = none) (m_sum : mg "sum" = none) (m_zip : mg "zip" = none) (h__law_reach : FnGs P w K mg base 3 "_law_reach" ["_law_code_so", "_law_lot_here"] F__law_reach) (h__law_forms : FnGs P w K mg base 1 "_law_forms" ["_law_code_so", "_law_lot_here"] F__law_forms) : FnGs P w K mg base 4 "_law_is_witness" ["_law_code_so", "_law_lot_here", "_law_thing"] F__law_is_witness := by
  have sc : FnScope ["_law_code_so", "_law_lot_here", "_law_thing", "_law_prime_so", "_law_many", "_law_letters_so", "_law_reach_here", "_law_form", "_law_one", "_law_far"] ["_law_code_so", "_law_lot_here", "_law_thing"] sc__law_is_witness := ⟨rfl, rfl, rfl, by decide +kernel, rfl, by decide +kernel, by decide +kernel⟩
  refine ⟨f, fd, fn_trG (k := 3) F sc (fun Γ cdv A outer s H E hcd hgd hr => ?_), gl, F.kp, F.bindsN fun _ _ _ _ _ _ us hl => match us, hl with | [_, _, _], _ => rfl⟩
  have tk : Takes (cxOf (L2.CX P w) P w K mg base ["_law_code_so", "_law_lot_here", "_law_thing", "_law_prime_so", "_law_many", "_law_letters_so", "_law_reach_here", "_law_form", "_law_one", "_law_far"] "_law_is_witness" sc__law_is_witness f cdv A outer s H E) (wOf E) := takes_of rfl rfl rfl rfl
  exact (trs_cons (tr_asg (tr_var 0) (trg_tup rfl (trgs_cons (trg_name sc.nd rfl (.inr rfl)) (trgs_cons (trg_name sc.nd rfl (.inl rfl)) (trgs_cons (trg_name sc.nd rfl (.inl rfl)) trgs_nil))))) (trs_cons (tr_set (i := 6) sc.nd rfl (.inl rfl) (tr_callG h__law_reach hgd (hr.mono (by decide)) tk rfl (tra_cons (tr_var 0) (tra_cons (tr_var 1) tra_nil)))) (trs_cons (tr_ifs (TrW.toB (trw_or (trb_not (trb_tru (tr_isi isi_tuple rfl m_isinstance rfl m_tuple boot_ty_tuple (tr_var 2)))) (trw_or (trb_cmp (op_neS hr.units) sem_neS (tr_callB call_len sem_len rfl m_len bo_len (tra_cons (tr_var 2) tra_nil)) (tr_var 4) (nomark _)) (trw_or1 (trb_cmp (op_eqS hr.units) sem_eqS (tr_var 6) (tr_var 4) (nomark _)))))) (trs_one (tr_ret tr_bl)) trs_nil) (trs_cons (tr_ifs (TrW.toB (trw_or (trb_cmp (op_neS hr.units) sem_neS (tr_slice (tr_var 2) tro_no (tro_some (tr_var 6))) (tr_op op_mulTZ sem_mulTZ (tr_tup (tra_cons tr_int tra_nil)) (tr_var 6)) (nomark _)) (trw_or1 (trb_cmp (op_neS hr.units) sem_neS (tr_ix ix_seq sem_ix (tr_var 2) (tr_var 6)) tr_int (nomark _))))) (trs_one (tr_ret tr_bl)) trs_nil) (trs_cons (tr_for (passes_of rfl) rfl (tri_lst (tr_callG h__law_forms hgd (hr.mono (by decide)) tk rfl (tra_cons (tr_var 0) (tra_cons (tr_var 1) tra_nil)))) (trg_name sc.nd rfl (.inl rfl)) (trs_one (tr_ifs (trb_cmp (op_neS hr.units) sem_neS (tr_op op_mod sem_mod (tr_callTy call_int1 sem_int1 rfl m_int bo_int (tra_cons (tr_callB (callR_or (cr_sum rfl) (cr_sumT rfl)) sem_sum rfl m_sum bo_sum (tra_cons (tr_lc (own := [("_law_one", 8), ("_law_far", 9)]) rfl sc.nd (tri_zB rfl m_zip (tra_cons (tr_var 7) (tra_cons (tr_var 2) tra_nil))) (blkOk_by (N := ["_law_code_so", "_law_lot_here", "_law_thing", "_law_prime_so", "_law_many", "_law_letters_so", "_law_reach_here", "_law_form", "_law_one", "_law_far"]) (sc := sc__law_is_witness) (by decide +kernel)) (by decide) (fun _ _ _ _ _ => (trg_tup rfl (trgs_cons (trg_name sc.nd rfl (by first | exact .inl rfl | exact .inr rfl)) (trgs_cons (trg_name sc.nd rfl (by first | exact .inl rfl | exact .inr rfl)) trgs_nil)))) (fun _ _ _ _ _ => trt_nil) (fun _ _ _ _ _ => (tr_op op_mulW sem_mul (tr_var 8) (tr_var 9)))) tra_nil)) tra_nil)) (tr_var 3)) tr_int (nomark _)) (trs_one (tr_ret tr_bl)) trs_nil))) (trs_one (tr_ret (tr_cmp (op_eqS hr.units) sem_eqS (tr_lc (own := [("_law_one", 8)]) rfl sc.nd (tri_tup (tr_var 2)) (blkOk_by (N := ["_law_code_so", "_law_lot_here", "_law_thing", "_law_prime_so", "_law_many", "_law_letters_so", "_law_reach_here", "_law_form", "_law_one", "_law_far"]) (sc := sc__law_is_witness) (by decide +kernel)) (by decide) (fun _ _ _ _ _ => (trg_name sc.nd rfl (by first | exact .inl rfl | exact .inr rfl))) (fun _ _ _ _ _ => (trt_one (trb_not (trb_chain op_le op_lt sem_le sem_lt tr_int (tr_var 8) (tr_var 3))))) (fun _ _ _ _ _ => tr_int)) (tr_lst tra_nil) (nomark _)))))))))
theorem ok__law_code_right {f : Addr} {fd : FuncData} (F : FnP K "_law_code_right" (top 64) sc__law_code_right f fd) (gl : mg "_law_code_right" = some (.ref f)) (om : noObj K = true) (m_range : mg "range" = none) (m_sum : mg "sum" = none) (m_zip : mg "zip" = none) (m_tuple : mg "tuple" = none) (m_int : mg "int" = none) (m_len : mg "len" = none) (h_need_code : FnGs P w K mg base 6 "need_code" ["thing"] F_need_code) (h__law_message : FnGs P w K mg base 3 "_law_message" ["_law_state", "_law_prime_so", "_law_many"] F__law_message) (h_letters_by : FnGs P w K mg base 7 "letters_by" ["code", "message"] F_letters_by) (h__law_lots : FnGs P w K mg base 1 "_law_lots" ["_law_many", "_law_few"] F__law_lots) (h__law_reach : FnGs P w K mg base 3 "_law_reach" ["_law_code_so", "_law_lot_here"] F__law_reach) (h_content : FnGs P w K mg base 7 "content" ["code", "lot"] F_content) (h__law_rank : FnGs P w K mg base 2 "_law_rank" ["_law_prime_so", "_law_rows"] F__law_rank) (h__law_forms : FnGs P w K mg base 1 "_law_forms" ["_law_code_so", "_law_lot_here"] F__law_forms) (h_told : FnGs P w K mg base 7 "told" ["code", "lot"] F_told) (h_witness : FnGs P w K mg base 7 "witness" ["code", "lot"] F_witness) (h__law_is_witness : FnGs P w K mg base 4 "_law_is_witness" ["_law_code_so", "_law_lot_here", "_law_thing"] F__law_is_witness) (h__law_least : FnGs P w K mg base 4 "_law_least" ["_law_code_so"] F__law_least) (h_code_profile : FnGs P w K mg base 7 "code_profile" ["code"] F_code_profile) : FnGs P w K mg base 8 "_law_code_right" ["_law_state", "_law_code_so"] F__law_code_right := by
  have sc : FnScope ["_law_state", "_law_code_so", "_law_prime_so", "_law_many", "_law_letters_so", "_law_k", "_law_message_so", "_law_due", "_law_letter", "_law_sums", "_law_few", "_law_lot_here", "_law_reach_here", "_law_shown", "_law_form", "_law_one", "_law_far"] ["_law_state", "_law_code_so"] sc__law_code_right := ⟨rfl, rfl, rfl, by decide +kernel, rfl, by decide +kernel, by decide +kernel⟩
  refine ⟨f, fd, fn_trG (k := 7) F sc (fun Γ cdv A outer s H E hcd hgd hr => ?_), gl, F.kp, F.bindsN fun _ _ _ _ _ _ us hl => match us, hl with | [_, _], _ => rfl⟩
  have tk : Takes (cxOf (L2.CX P w) P w K mg base ["_law_state", "_law_code_so", "_law_prime_so", "_law_many", "_law_letters_so", "_law_k", "_law_message_so", "_law_due", "_law_letter", "_law_sums", "_law_few", "_law_lot_here", "_law_reach_here", "_law_shown", "_law_form", "_law_one", "_law_far"] "_law_code_right" sc__law_code_right f cdv A outer s H E) (wOf E) := takes_of rfl rfl rfl rfl
  exact (trs_cons (tr_asg (tr_var 1) (trg_tup rfl (trgs_cons (trg_name sc.nd rfl (.inr rfl)) (trgs_cons (trg_name sc.nd rfl (.inl rfl)) (trgs_cons (trg_name sc.nd rfl (.inl rfl)) trgs_nil))))) (trs_cons (tr_ifs (trb_cmp (op_neS hr.units) sem_neS (tr_callG h_need_code hgd (hr.mono (by decide)) tk rfl (tra_cons (tr_var 1) tra_nil)) (tr_var 1) (nomark _)) (trs_one (tr_ret tr_bl)) trs_nil) (trs_cons (tr_for (passes_of rfl) rfl (tri_rng1 rfl m_range (tra_cons tr_int tra_nil)) (trg_name sc.nd rfl (.inl rfl)) (trs_cons (tr_ownPar2G (by decide) (ps_asg (pe_tup (pa_cons (tr_callG h__law_message hgd (hr.mono (by decide)) tk rfl (tra_cons (tr_var 0) (tra_cons (tr_var 2) (tra_cons (tr_var 3) tra_nil)))) (pa_cons (pe_lst pa_nil) pa_nil))) (pg_tup rfl (pgs_cons (pg_name sc.nd rfl (.inr rfl)) (pgs_cons (pg_name sc.nd rfl (.inl rfl)) pgs_nil))))) (trs_cons (tr_for (passes_of rfl) rfl (tri_tup (tr_var 4)) (trg_name sc.nd rfl (.inl rfl)) (trs_cons (tr_setLc (i := 9) (own := [("_law_form", 14)]) rfl sc.nd rfl rfl (sw_true rfl rfl rfl (by decide +kernel)) (tri_tup (tr_var 8)) (blkOk_by (N := ["_law_state", "_law_code_so", "_law_prime_so", "_law_many", "_law_letters_so", "_law_k", "_law_message_so", "_law_due", "_law_letter", "_law_sums", "_law_few", "_law_lot_here", "_law_reach_here", "_law_shown", "_law_form", "_law_one", "_law_far"]) (sc := sc__law_code_right) (by decide +kernel)) (by decide) (fun _ _ _ _ _ => (trg_name sc.nd rfl (by first | exact .inl rfl | exact .inr rfl))) (fun _ _ _ _ _ => trt_nil) (fun _ _ _ _ _ => (tr_callB (callR_or (cr_sum rfl) (cr_sumT rfl)) sem_sum rfl m_sum bo_sum (tra_cons (tr_lc (own := [("_law_one", 15), ("_law_far", 16)]) rfl sc.nd (tri_zip rfl m_zip (tra_cons (tr_var 14) (tra_cons (tr_var 6) tra_nil))) (blkOk_by (by kernel_rfl)) (by decide) (fun _ _ _ _ _ => (trg_tup rfl (trgs_cons (trg_name sc.nd rfl (by first | exact .inl rfl | exact .inr rfl)) (trgs_cons (trg_name sc.nd rfl (by first | exact .inl rfl | exact .inr rfl)) trgs_nil)))) (fun _ _ _ _ _ => trt_nil) (fun _ _ _ _ _ => (tr_op op_mulW sem_mul (tr_var 15) (tr_var 16)))) tra_nil)))) (trs_one (tr_app (pv 7) (tra_cons (tr_callTy call_tuple_of sem_tupOf rfl m_tuple bo_tuple (tra_cons (tr_lc (own := [("_law_one", 15)]) rfl sc.nd (tri_lst (tr_var 9)) (blkOk_by (N := ["_law_state", "_law_code_so", "_law_prime_so", "_law_many", "_law_letters_so", "_law_k", "_law_message_so", "_law_due", "_law_letter", "_law_sums", "_law_few", "_law_lot_here", "_law_reach_here", "_law_shown", "_law_form", "_law_one", "_law_far"]) (sc := sc__law_code_right) (by decide +kernel)) (by decide) (fun _ _ _ _ _ => (trg_name sc.nd rfl (by first | exact .inl rfl | exact .inr rfl))) (fun _ _ _ _ _ => trt_nil) (fun _ _ _ _ _ => (tr_op op_mod sem_mod (tr_callTy call_int1 sem_int1 rfl m_int bo_int (tra_cons (tr_var 15) tra_nil)) (tr_var 2)))) tra_nil)) tra_nil))))) (trs_one (tr_ifs (trb_frz 7 om (TrW.toB (trw_or (trb_cmp (op_neS hr.units) sem_neS (tr_callG h_letters_by hgd (hr.mono (by decide)) tk rfl (tra_cons (tr_var 1) (tra_cons (tr_var 6) tra_nil))) (tr_callTy call_tuple_of sem_tupOf rfl m_tuple bo_tuple (tra_cons (tr_var 7) tra_nil)) (nomark _)) (trw_or1 (trb_cmp (op_neS hr.units) sem_neS (tr_callG h_letters_by hgd (hr.mono (by decide)) tk rfl (tra_cons (tr_var 1) (tra_cons (tr_var 6) tra_nil))) (tr_callTy call_tuple_of sem_tupOf rfl m_tuple bo_tuple (tra_cons (tr_var 7) tra_nil)) (nomark _)))))) (trs_one (tr_ret tr_bl)) trs_nil))))) (trs_cons (tr_for (passes_of rfl) rfl (tri_rng1 rfl m_range (tra_cons (tr_op op_addW sem_add (tr_callB call_len sem_len rfl m_len bo_len (tra_cons (tr_var 4) tra_nil)) tr_int) tra_nil)) (trg_name sc.nd rfl (.inl rfl)) (trs_one (tr_for (passes_of rfl) rfl (tri_lst (tr_callG h__law_lots hgd (hr.mono (by decide)) tk rfl (tra_cons (tr_callB call_len sem_len rfl m_len bo_len (tra_cons (tr_var 4) tra_nil)) (tra_cons (tr_var 10) tra_nil)))) (trg_name sc.nd rfl (.inl rfl)) (trs_cons (tr_set (i := 12) sc.nd rfl (.inl rfl) (tr_callG h__law_reach hgd (hr.mono (by decide)) tk rfl (tra_cons (tr_var 1) (tra_cons (tr_var 11) tra_nil)))) (trs_cons (tr_ifs (trb_cmp (op_neS hr.units) sem_neS (tr_callG h_content hgd (hr.mono (by decide)) tk rfl (tra_cons (tr_var 1) (tra_cons (tr_var 11) tra_nil))) (tr_callG h__law_rank hgd (hr.mono (by decide)) tk rfl (tra_cons (tr_var 2) (tra_cons (tr_callG h__law_forms hgd (hr.mono (by decide)) tk rfl (tra_cons (tr_var 1) (tra_cons (tr_var 11) tra_nil))) tra_nil))) (nomark _)) (trs_one (tr_ret tr_bl)) trs_nil) (trs_cons (tr_ifs (TrW.toB (trw_or (trb_cmp (op_neS hr.units) sem_neS (tr_callG h_told hgd (hr.mono (by decide)) tk rfl (tra_cons (tr_var 1) (tra_cons (tr_var 11) tra_nil))) (tr_var 12) (nomark _)) (trw_or1 (trb_cmp (op_neS hr.units) sem_neS (tr_callG h_told hgd (hr.mono (by decide)) tk rfl (tra_cons (tr_var 1) (tra_cons (tr_var 11) tra_nil))) (tr_var 12) (nomark _))))) (trs_one (tr_ret tr_bl)) trs_nil) (trs_cons (tr_set (i := 13) sc.nd rfl (.inl rfl) (tr_callG h_witness hgd (hr.mono (by decide)) tk rfl (tra_cons (tr_var 1) (tra_cons (tr_var 11) tra_nil)))) (trs_cons (tr_ifs (TrW.toB (trw_or (trb_cmp (op_neS hr.units) sem_neS (tr_cmp op_isW sem_is (tr_var 13) tr_non (nomark _)) (tr_cmp (op_eqS hr.units) sem_eqS (tr_var 12) (tr_var 3) (nomark _)) (nomark _)) (trw_or1 (trb_cmp (op_neS hr.units) sem_neS (tr_callG h_witness hgd (hr.mono (by decide)) tk rfl (tra_cons (tr_var 1) (tra_cons (tr_var 11) tra_nil))) (tr_var 13) (nomark _))))) (trs_one (tr_ret tr_bl)) trs_nil) (trs_one (tr_ifs (TrW.toB (trw_and (trb_cmp op_isntW sem_isnt (tr_var 13) tr_non (nomark _)) (trw_and1 (trb_not (trb_tru (tr_callG h__law_is_witness hgd (hr.mono (by decide)) tk rfl (tra_cons (tr_var 1) (tra_cons (tr_var 11) (tra_cons (tr_var 13) tra_nil))))))))) (trs_one (tr_ret tr_bl)) trs_nil)))))))))) (trs_cons (tr_set (i := 7) sc.nd rfl (.inl rfl) (tr_callG h__law_least hgd (hr.mono (by decide)) tk rfl (tra_cons (tr_var 1) tra_nil))) (trs_one (tr_frz 7 (tr_ret (tr_and (tr_cmp (op_eqS hr.units) sem_eqS (tr_callG h_code_profile hgd (hr.mono (by decide)) tk rfl (tra_cons (tr_var 1) tra_nil)) (tr_var 7) (nomark _)) (tr_one (tr_cmp (op_eqS hr.units) sem_eqS (tr_callG h_code_profile hgd (hr.mono (by decide)) tk rfl (tra_cons (tr_var 1) tra_nil)) (tr_var 7) (nomark _))))))))))))
theorem ok_law {f fB : Addr} {fd fdB : FuncData} (F : FnP K "law" (top 65) sc_law f fd) (FB : FnP K "_law_begin" (top 44) sc__law_begin fB fdB) (gB : mg "_law_begin" = some (.ref fB)) (m_list0 : mg "list" = none) (en : LawEnds g_law 4) (om : noObj K = true) (m_range : mg "range" = none) (h__law_code_right : FnGs P w K mg base 8 "_law_code_right" ["_law_state", "_law_code_so"] F__law_code_right) (h__law_code : FnGs P w K mg base 4 "_law_code" ["_law_state"] F__law_code) (h_code_profile : FnGs P w K mg base 7 "code_profile" ["code"] F_code_profile) (h_content : FnGs P w K mg base 7 "content" ["code", "lot"] F_content) (h_told : FnGs P w K mg base 7 "told" ["code", "lot"] F_told) (h_witness : FnGs P w K mg base 7 "witness" ["code", "lot"] F_witness) (h_letters_by : FnGs P w K mg base 7 "letters_by" ["code", "message"] F_letters_by) : FnG P w K mg base 9 f fd ["_law_script"] (spLaw K) := by
  have sc : FnScope ["_law_script", "_law_state", "_law_turn", "_law_one", "_law_none", "_law_code_so"] ["_law_script"] sc_law := ⟨rfl, rfl, rfl, by decide +kernel, rfl, by decide +kernel, by decide +kernel⟩
  have GB : FnOk P w K mg base (L2.CX P w) 1 fB fdB ["_law_script"] (spBegin K) := ok__law_begin FB m_list0
  have bB : Binds K fdB ["_law_script"] [] := FB.bindsN fun _ _ _ _ _ _ us hl => match us, hl with | [_], _ => rfl
  refine gdef (k := 8) F sc (fun vs H Q E h => ?_) (fun cdv A outer s H vs Q E hcd hgd hr h => ?_)
  · obtain ⟨a, ns, rfl, _⟩ := h
    rfl
  have tk : Takes (cxOf (L2.CX P w) P w K mg base ["_law_script", "_law_state", "_law_turn", "_law_one", "_law_none", "_law_code_so"] "law" sc_law f cdv A outer s H E) (wOf E) := takes_of rfl rfl rfl rfl
  have rest : TrSs (envOfC "law" sc_law s.heap.objs.size f cdv).cells (cxOf (L2.CX P w) P w K mg base ["_law_script", "_law_state", "_law_turn", "_law_one", "_law_none", "_law_code_so"] "law" sc_law f cdv A outer s H E) E (defBody (top 65)).tail g_law :=
    (trs_cons (tr_for (passes_of rfl) rfl (tri_rng1 rfl m_range (tra_cons tr_int tra_nil)) (trg_name sc.nd rfl (.inl rfl)) (trs_one (tr_ifs (trb_not (trb_tru (tr_callG h__law_code_right hgd (hr.mono (by decide)) tk rfl (tra_cons (tr_var 1) (tra_cons (tr_callG h__law_code hgd (hr.mono (by decide)) tk rfl (tra_cons (tr_var 1) tra_nil)) tra_nil))))) (trs_one (tr_ret tr_bl)) trs_nil))) (trs_cons (tr_asg (tr_tup (tra_cons (tr_tup (tra_cons (tr_tup (tra_cons tr_int tra_nil)) tra_nil)) (tra_cons (tr_tup (tra_cons (tr_tup (tra_cons tr_int tra_nil)) tra_nil)) tra_nil))) (trg_tup rfl (trgs_cons (trg_name sc.nd rfl (.inl rfl)) (trgs_cons (trg_name sc.nd rfl (.inl rfl)) trgs_nil)))) (trs_cons (tr_ifs (trb_cmp (op_neS hr.units) sem_neS (tr_callG h_code_profile hgd (hr.mono (by decide)) tk rfl (tra_cons (tr_tup (tra_cons tr_int (tra_cons tr_int (tra_cons (tr_op op_addW sem_add (tr_op op_mulTZ sem_mulTZ (tr_tup (tra_cons (tr_var 3) tra_nil)) tr_int) (tr_tup (tra_cons (tr_var 4) tra_nil))) tra_nil)))) tra_nil)) (tr_tup (tra_cons tr_int (tra_cons tr_int (tra_cons tr_int (tra_cons tr_int (tra_cons tr_int tra_nil)))))) (nomark _)) (trs_one (tr_ret tr_bl)) trs_nil) (trs_cons (tr_ifs (trb_cmp (op_neS hr.units) sem_neS (tr_callG h_code_profile hgd (hr.mono (by decide)) tk rfl (tra_cons (tr_tup (tra_cons tr_int (tra_cons tr_int (tra_cons (tr_op op_addW sem_add (tr_op op_mulTZ sem_mulTZ (tr_tup (tra_cons (tr_var 3) tra_nil)) tr_int) (tr_op op_mulTZ sem_mulTZ (tr_tup (tra_cons (tr_var 4) tra_nil)) tr_int)) tra_nil)))) tra_nil)) (tr_tup (tra_cons tr_int (tra_cons tr_int (tra_cons tr_int (tra_cons tr_int (tra_cons tr_int tra_nil)))))) (nomark _)) (trs_one (tr_ret tr_bl)) trs_nil) (trs_cons (tr_set (i := 5) sc.nd rfl (.inl rfl) (tr_tup (tra_cons tr_int (tra_cons tr_int (tra_cons (tr_tup (tra_cons (tr_tup (tra_cons (tr_tup (tra_cons tr_int (tra_cons tr_int (tra_cons tr_int tra_nil)))) (tra_cons (tr_tup (tra_cons tr_int (tra_cons tr_int (tra_cons tr_int tra_nil)))) tra_nil))) (tra_cons (tr_tup (tra_cons (tr_tup (tra_cons tr_int (tra_cons tr_int (tra_cons tr_int tra_nil)))) (tra_cons (tr_tup (tra_cons tr_int (tra_cons tr_int (tra_cons tr_int tra_nil)))) tra_nil))) (tra_cons (tr_tup (tra_cons (tr_tup (tra_cons tr_int (tra_cons tr_int (tra_cons tr_int tra_nil)))) (tra_cons (tr_tup (tra_cons tr_int (tra_cons tr_int (tra_cons tr_int tra_nil)))) tra_nil))) tra_nil)))) tra_nil))))) (trs_cons (tr_ifs (TrW.toB (trw_or (trb_cmp (op_neS hr.units) sem_neS (tr_callG h_code_profile hgd (hr.mono (by decide)) tk rfl (tra_cons (tr_var 5) tra_nil)) (tr_tup (tra_cons tr_int (tra_cons tr_int (tra_cons tr_int tra_nil)))) (nomark _)) (trw_or (trb_cmp (op_neS hr.units) sem_neS (tr_callG h_content hgd (hr.mono (by decide)) tk rfl (tra_cons (tr_var 5) (tra_cons (tr_tup (tra_cons tr_int (tra_cons tr_int tra_nil))) tra_nil))) tr_int (nomark _)) (trw_or1 (trb_cmp (op_neS hr.units) sem_neS (tr_callG h_told hgd (hr.mono (by decide)) tk rfl (tra_cons (tr_var 5) (tra_cons (tr_tup (tra_cons tr_int (tra_cons tr_int tra_nil))) tra_nil))) tr_int (nomark _)))))) (trs_one (tr_ret tr_bl)) trs_nil) (trs_cons (tr_ifs (TrW.toB (trw_or (trb_cmp (op_neS hr.units) sem_neS (tr_callG h_witness hgd (hr.mono (by decide)) tk rfl (tra_cons (tr_var 5) (tra_cons (tr_tup (tra_cons tr_int (tra_cons tr_int tra_nil))) tra_nil))) (tr_tup (tra_cons tr_int (tra_cons tr_int (tra_cons tr_int tra_nil)))) (nomark _)) (trw_or (trb_cmp op_isntW sem_isnt (tr_callG h_witness hgd (hr.mono (by decide)) tk rfl (tra_cons (tr_var 5) (tra_cons (tr_tup (tra_cons tr_int (tra_cons tr_int tra_nil))) tra_nil))) tr_non (nomark _)) (trw_or1 (trb_cmp (op_neS hr.units) sem_neS (tr_callG h_told hgd (hr.mono (by decide)) tk rfl (tra_cons (tr_var 5) (tra_cons (tr_tup tra_nil) tra_nil))) tr_int (nomark _)))))) (trs_one (tr_ret tr_bl)) trs_nil) (trs_cons (tr_ifs (trb_cmp (op_neS hr.units) sem_neS (tr_callG h_code_profile hgd (hr.mono (by decide)) tk rfl (tra_cons (tr_tup (tra_cons tr_int (tra_cons tr_int (tra_cons (tr_op op_mulTZ sem_mulTZ (tr_tup (tra_cons (tr_tup tra_nil) tra_nil)) tr_int) tra_nil)))) tra_nil)) (tr_op op_mulTZ sem_mulTZ (tr_tup (tra_cons tr_int tra_nil)) tr_int) (nomark _)) (trs_one (tr_ret tr_bl)) trs_nil) (trs_one (tr_ret (tr_cmp (op_eqS hr.units) sem_eqS (tr_callG h_letters_by hgd (hr.mono (by decide)) tk rfl (tra_cons (tr_var 5) (tra_cons (tr_tup (tra_cons tr_int (tra_cons tr_int (tra_cons tr_int tra_nil)))) tra_nil))) (tr_tup (tra_cons (tr_tup (tra_cons tr_int (tra_cons tr_int tra_nil))) (tra_cons (tr_tup (tra_cons tr_int (tra_cons tr_int tra_nil))) (tra_cons (tr_tup (tra_cons tr_int (tra_cons tr_int tra_nil))) tra_nil)))) (nomark _))))))))))))
  refine ⟨_, pss_cons (ps_set (i := 1) sc.nd rfl (.inl rfl) (pe_callSD (E := fun σ => WE (wOf E) σ) GB (hr.mono (by decide)) rfl gB FB.kp bB .nil (fun σ => passAt tk σ) (pa_cons (pv 0) pa_nil))) rest, ?_⟩
  obtain ⟨a, ns, rfl, hS, hz, hT, q⟩ := h
  exact ⟨.ref a, rfl, a, ns, rfl, hS, hz, fun S ca la H' cells lefts sm nS nca nla h1 h2 h3 hl h0 hne => law_rest en hz q hS sm nS nca nla h1 h2 h3 hl h0 hne hT⟩
end
end Lw
namespace Lw
open PySem PySem.Spec PyProof.Rows L2 PF Hd
theorem facts {P : Program} {w : World} {K : PySem.W.Frag} {h : Heap} {mg : Str → Option Value} {f : Addr} (en : LawEnds g_law 4) (X : K.In h) (G : h.Ns mainGlobals mg) (hfa : mg ("law" : Str) = some (.ref f)) (c : SaysL fa fn ex h K) (ct : SaysTs ts w K) :
    ∃ fd : FuncData, (∀ (s : Shared) (v : Value), BindsTo s fd ⟨[v], []⟩ [("_law_script", v)]) ∧ ∀ base : Heap, K.In base → base.Ns mainGlobals mg → (∀ z ∈ tabC K, LamX.TabB base mg z.1 z.2.1) → FnG P w K mg base 9 f fd ["_law_script"] (spLaw K) := by
  obtain ⟨fd_is_integer, D_is_integer⟩ := c.d.def_ 0 (d := d_is_integer) rfl
  have gl_is_integer := He.glo_ok X G (c.fact 0 (f := .glo "is_integer") rfl)
  obtain ⟨fd_is_between, D_is_between⟩ := c.d.def_ 1 (d := d_is_between) rfl
  have gl_is_between := He.glo_ok X G (c.fact 1 (f := .glo "is_between") rfl)
  obtain ⟨fd_are_rising, D_are_rising⟩ := c.d.def_ 2 (d := d_are_rising) rfl
  have gl_are_rising := He.glo_ok X G (c.fact 2 (f := .glo "are_rising") rfl)
  obtain ⟨fd_need_prime, D_need_prime⟩ := c.d.def_ 3 (d := d_need_prime) rfl
  have gl_need_prime := He.glo_ok X G (c.fact 3 (f := .glo "need_prime") rfl)
  obtain ⟨fd_is_sign, D_is_sign⟩ := c.d.def_ 4 (d := d_is_sign) rfl
  have gl_is_sign := He.glo_ok X G (c.fact 4 (f := .glo "is_sign") rfl)
  obtain ⟨fd_are_signs, D_are_signs⟩ := c.d.def_ 5 (d := d_are_signs) rfl
  have gl_are_signs := He.glo_ok X G (c.fact 5 (f := .glo "are_signs") rfl)
  obtain ⟨fd_need_message, D_need_message⟩ := c.d.def_ 6 (d := d_need_message) rfl
  have gl_need_message := He.glo_ok X G (c.fact 6 (f := .glo "need_message") rfl)
  obtain ⟨fd_rest_of, D_rest_of⟩ := c.d.def_ 7 (d := d_rest_of) rfl
  have gl_rest_of := He.glo_ok X G (c.fact 7 (f := .glo "rest_of") rfl)
  obtain ⟨fd_inverse_in, D_inverse_in⟩ := c.d.def_ 8 (d := d_inverse_in) rfl
  have gl_inverse_in := He.glo_ok X G (c.fact 8 (f := .glo "inverse_in") rfl)
  obtain ⟨fd_is_letter, D_is_letter⟩ := c.d.def_ 9 (d := d_is_letter) rfl
  have gl_is_letter := He.glo_ok X G (c.fact 9 (f := .glo "is_letter") rfl)
  obtain ⟨fd_need_code, D_need_code⟩ := c.d.def_ 10 (d := d_need_code) rfl
  have gl_need_code := He.glo_ok X G (c.fact 10 (f := .glo "need_code") rfl)
  obtain ⟨fd_is_lot_of, D_is_lot_of⟩ := c.d.def_ 11 (d := d_is_lot_of) rfl
  have gl_is_lot_of := He.glo_ok X G (c.fact 11 (f := .glo "is_lot_of") rfl)
  obtain ⟨fd_need_lot_of, D_need_lot_of⟩ := c.d.def_ 12 (d := d_need_lot_of) rfl
  have gl_need_lot_of := He.glo_ok X G (c.fact 12 (f := .glo "need_lot_of") rfl)
  obtain ⟨fd_sign_by, D_sign_by⟩ := c.d.def_ 13 (d := d_sign_by) rfl
  have gl_sign_by := He.glo_ok X G (c.fact 13 (f := .glo "sign_by") rfl)
  obtain ⟨fd_letters_in, D_letters_in⟩ := c.d.def_ 14 (d := d_letters_in) rfl
  have gl_letters_in := He.glo_ok X G (c.fact 14 (f := .glo "letters_in") rfl)
  obtain ⟨fd_letters_by, D_letters_by⟩ := c.d.def_ 15 (d := d_letters_by) rfl
  have gl_letters_by := He.glo_ok X G (c.fact 15 (f := .glo "letters_by") rfl)
  obtain ⟨fd_reduced, D_reduced⟩ := c.d.def_ 16 (d := d_reduced) rfl
  have gl_reduced := He.glo_ok X G (c.fact 16 (f := .glo "reduced") rfl)
  obtain ⟨fd_cleared, D_cleared⟩ := c.d.def_ 17 (d := d_cleared) rfl
  have gl_cleared := He.glo_ok X G (c.fact 17 (f := .glo "cleared") rfl)
  obtain ⟨fd_rows_of, D_rows_of⟩ := c.d.def_ 18 (d := d_rows_of) rfl
  have gl_rows_of := He.glo_ok X G (c.fact 18 (f := .glo "rows_of") rfl)
  obtain ⟨fd_content_in, D_content_in⟩ := c.d.def_ 19 (d := d_content_in) rfl
  have gl_content_in := He.glo_ok X G (c.fact 19 (f := .glo "content_in") rfl)
  obtain ⟨fd_content, D_content⟩ := c.d.def_ 20 (d := d_content) rfl
  have gl_content := He.glo_ok X G (c.fact 20 (f := .glo "content") rfl)
  obtain ⟨fd_told_in, D_told_in⟩ := c.d.def_ 21 (d := d_told_in) rfl
  have gl_told_in := He.glo_ok X G (c.fact 21 (f := .glo "told_in") rfl)
  obtain ⟨fd_told, D_told⟩ := c.d.def_ 22 (d := d_told) rfl
  have gl_told := He.glo_ok X G (c.fact 22 (f := .glo "told") rfl)
  obtain ⟨fd_witness_in, D_witness_in⟩ := c.d.def_ 23 (d := d_witness_in) rfl
  have gl_witness_in := He.glo_ok X G (c.fact 23 (f := .glo "witness_in") rfl)
  obtain ⟨fd_witness, D_witness⟩ := c.d.def_ 24 (d := d_witness) rfl
  have gl_witness := He.glo_ok X G (c.fact 24 (f := .glo "witness") rfl)
  obtain ⟨fd_lots_with, D_lots_with⟩ := c.d.def_ 25 (d := d_lots_with) rfl
  have gl_lots_with := He.glo_ok X G (c.fact 25 (f := .glo "lots_with") rfl)
  obtain ⟨fd_profile_by, D_profile_by⟩ := c.d.def_ 26 (d := d_profile_by) rfl
  have gl_profile_by := He.glo_ok X G (c.fact 26 (f := .glo "profile_by") rfl)
  obtain ⟨fd_code_profile, D_code_profile⟩ := c.d.def_ 27 (d := d_code_profile) rfl
  have gl_code_profile := He.glo_ok X G (c.fact 27 (f := .glo "code_profile") rfl)
  obtain ⟨fd__law_mixed, D__law_mixed⟩ := c.d.def_ 28 (d := d__law_mixed) rfl
  have gl__law_mixed := He.glo_ok X G (c.fact 28 (f := .glo "_law_mixed") rfl)
  obtain ⟨fd__law_begin, D__law_begin⟩ := c.d.def_ 29 (d := d__law_begin) rfl
  have gl__law_begin := He.glo_ok X G (c.fact 29 (f := .glo "_law_begin") rfl)
  obtain ⟨fd__law_draw, D__law_draw⟩ := c.d.def_ 30 (d := d__law_draw) rfl
  have gl__law_draw := He.glo_ok X G (c.fact 30 (f := .glo "_law_draw") rfl)
  obtain ⟨fd__law_of, D__law_of⟩ := c.d.def_ 31 (d := d__law_of) rfl
  have gl__law_of := He.glo_ok X G (c.fact 31 (f := .glo "_law_of") rfl)
  obtain ⟨fd__law_back, D__law_back⟩ := c.d.def_ 32 (d := d__law_back) rfl
  have gl__law_back := He.glo_ok X G (c.fact 32 (f := .glo "_law_back") rfl)
  obtain ⟨fd__law_value, D__law_value⟩ := c.d.def_ 33 (d := d__law_value) rfl
  have gl__law_value := He.glo_ok X G (c.fact 33 (f := .glo "_law_value") rfl)
  obtain ⟨fd__law_between, D__law_between⟩ := c.d.def_ 34 (d := d__law_between) rfl
  have gl__law_between := He.glo_ok X G (c.fact 34 (f := .glo "_law_between") rfl)
  obtain ⟨fd__law_needs, D__law_needs⟩ := c.d.def_ 35 (d := d__law_needs) rfl
  have gl__law_needs := He.glo_ok X G (c.fact 35 (f := .glo "_law_needs") rfl)
  obtain ⟨fd__law_stair, D__law_stair⟩ := c.d.def_ 36 (d := d__law_stair) rfl
  have gl__law_stair := He.glo_ok X G (c.fact 36 (f := .glo "_law_stair") rfl)
  obtain ⟨fd__law_letters, D__law_letters⟩ := c.d.def_ 37 (d := d__law_letters) rfl
  have gl__law_letters := He.glo_ok X G (c.fact 37 (f := .glo "_law_letters") rfl)
  obtain ⟨fd__law_prime, D__law_prime⟩ := c.d.def_ 38 (d := d__law_prime) rfl
  have gl__law_prime := He.glo_ok X G (c.fact 38 (f := .glo "_law_prime") rfl)
  obtain ⟨fd__law_shares, D__law_shares⟩ := c.d.def_ 39 (d := d__law_shares) rfl
  have gl__law_shares := He.glo_ok X G (c.fact 39 (f := .glo "_law_shares") rfl)
  obtain ⟨fd__law_message, D__law_message⟩ := c.d.def_ 40 (d := d__law_message) rfl
  have gl__law_message := He.glo_ok X G (c.fact 40 (f := .glo "_law_message") rfl)
  obtain ⟨fd__law_lot, D__law_lot⟩ := c.d.def_ 41 (d := d__law_lot) rfl
  have gl__law_lot := He.glo_ok X G (c.fact 41 (f := .glo "_law_lot") rfl)
  obtain ⟨fd__law_rank, D__law_rank⟩ := c.d.def_ 42 (d := d__law_rank) rfl
  have gl__law_rank := He.glo_ok X G (c.fact 42 (f := .glo "_law_rank") rfl)
  obtain ⟨fd__law_forms, D__law_forms⟩ := c.d.def_ 43 (d := d__law_forms) rfl
  have gl__law_forms := He.glo_ok X G (c.fact 43 (f := .glo "_law_forms") rfl)
  obtain ⟨fd__law_reach, D__law_reach⟩ := c.d.def_ 44 (d := d__law_reach) rfl
  have gl__law_reach := He.glo_ok X G (c.fact 44 (f := .glo "_law_reach") rfl)
  obtain ⟨fd__law_lots, D__law_lots⟩ := c.d.def_ 45 (d := d__law_lots) rfl
  have gl__law_lots := He.glo_ok X G (c.fact 45 (f := .glo "_law_lots") rfl)
  obtain ⟨fd__law_least, D__law_least⟩ := c.d.def_ 46 (d := d__law_least) rfl
  have gl__law_least := He.glo_ok X G (c.fact 46 (f := .glo "_law_least") rfl)
  obtain ⟨fd__law_code, D__law_code⟩ := c.d.def_ 47 (d := d__law_code) rfl
  have gl__law_code := He.glo_ok X G (c.fact 47 (f := .glo "_law_code") rfl)
  obtain ⟨fd__law_is_witness, D__law_is_witness⟩ := c.d.def_ 48 (d := d__law_is_witness) rfl
  have gl__law_is_witness := He.glo_ok X G (c.fact 48 (f := .glo "_law_is_witness") rfl)
  obtain ⟨fd__law_code_right, D__law_code_right⟩ := c.d.def_ 49 (d := d__law_code_right) rfl
  have gl__law_code_right := He.glo_ok X G (c.fact 49 (f := .glo "_law_code_right") rfl)
  obtain ⟨fd_law, D_law⟩ := c.d.def_ 50 (d := d_law) rfl
  have gl_law := He.glo_ok X G (c.fact 50 (f := .glo "law") rfl)
  have m_list := He.free_ok X G (c.fact 56 (f := .free "list") rfl)
  have m_isinstance := He.free_ok X G (c.fact 57 (f := .free "isinstance") rfl)
  have m_int := He.free_ok X G (c.fact 58 (f := .free "int") rfl)
  have m_bool := He.free_ok X G (c.fact 59 (f := .free "bool") rfl)
  have m_all := He.free_ok X G (c.fact 60 (f := .free "all") rfl)
  have m_zip := He.free_ok X G (c.fact 61 (f := .free "zip") rfl)
  have m_tuple := He.free_ok X G (c.fact 62 (f := .free "tuple") rfl)
  have m_len := He.free_ok X G (c.fact 63 (f := .free "len") rfl)
  have m_range := He.free_ok X G (c.fact 64 (f := .free "range") rfl)
  have m_enumerate := He.free_ok X G (c.fact 65 (f := .free "enumerate") rfl)
  have m_sum := He.free_ok X G (c.fact 66 (f := .free "sum") rfl)
  have m_sorted := He.free_ok X G (c.fact 67 (f := .free "sorted") rfl)
  have m_min := He.free_ok X G (c.fact 68 (f := .free "min") rfl)
  have hex := c.more
  unfold ex at hex
  simp only [Bool.and_eq_true] at hex
  have c_PRIMES : CsIs K mg "PRIMES" k_PRIMES := cs_tup X G (c.fact 51 (f := .glo "PRIMES") rfl) hex.1.1 rfl
  have om : noObj K = true := hex.1.2
  have c_MOST_SIGNS : CsIs K mg "MOST_SIGNS" k_MOST_SIGNS := cs_int X G (c.fact 52 (f := .int "MOST_SIGNS" 96) rfl)
  have c_MOST_CODED : CsIs K mg "MOST_CODED" k_MOST_CODED := cs_int X G (c.fact 53 (f := .int "MOST_CODED" 12) rfl)
  have c_MOST_CODE_LETTERS : CsIs K mg "MOST_CODE_LETTERS" k_MOST_CODE_LETTERS := cs_int X G (c.fact 54 (f := .int "MOST_CODE_LETTERS" 6) rfl)
  have c_MOST_LENGTH : CsIs K mg "MOST_LENGTH" k_MOST_LENGTH := cs_int X G (c.fact 55 (f := .int "MOST_LENGTH" 6) rfl)
  have e := hfa.symm.trans gl_law
  cases e
  have b := FunD.bindsA (ps := ["_law_script"]) D_law fun _ _ _ _ _ _ us hl => match us, hl with | [_], _ => rfl
  refine ⟨fd_law, fun s v => b s [v] rfl, fun base _ _ tb => ?_⟩
  have ap := c.apart
  have h_is_integer := ok_is_integer (P := P) (w := w) (base := base) D_is_integer gl_is_integer om m_isinstance m_int m_bool
  have h_is_between := ok_is_between (P := P) (w := w) (base := base) D_is_between gl_is_between om h_is_integer
  have h_are_rising := ok_are_rising (P := P) (w := w) (base := base) D_are_rising gl_are_rising om m_all m_zip
  have h_need_prime := ok_need_prime (P := P) (w := w) (base := base) D_need_prime gl_need_prime om c_PRIMES h_is_integer
  have h_is_sign := ok_is_sign (P := P) (w := w) (base := base) D_is_sign gl_is_sign om h_is_between
  have h_are_signs := ok_are_signs (P := P) (w := w) (base := base) D_are_signs gl_are_signs om m_isinstance m_tuple m_all h_is_sign
  have h_need_message := ok_need_message (P := P) (w := w) (base := base) D_need_message gl_need_message om m_len c_MOST_SIGNS h_need_prime h_are_signs
  have h_rest_of := ok_rest_of (P := P) (w := w) (base := base) D_rest_of gl_rest_of om m_int
  have h_inverse_in := ok_inverse_in (P := P) (w := w) (base := base) D_inverse_in gl_inverse_in om m_range h_rest_of
  have h_is_letter := ok_is_letter (P := P) (w := w) (base := base) D_is_letter gl_is_letter om m_isinstance m_tuple m_len m_all c_MOST_LENGTH h_are_signs
  have h_need_code := ok_need_code (P := P) (w := w) (base := base) D_need_code gl_need_code om m_isinstance m_tuple m_len m_enumerate c_PRIMES c_MOST_CODED c_MOST_CODE_LETTERS h_is_integer h_is_between h_is_letter
  have h_is_lot_of := ok_is_lot_of (P := P) (w := w) (base := base) D_is_lot_of gl_is_lot_of om m_isinstance m_tuple m_all m_len h_is_between h_are_rising
  have h_need_lot_of := ok_need_lot_of (P := P) (w := w) (base := base) D_need_lot_of gl_need_lot_of om h_is_lot_of
  have h_sign_by := ok_sign_by (P := P) (w := w) (base := base) D_sign_by gl_sign_by om m_sum m_zip h_rest_of
  have h_letters_in := ok_letters_in (P := P) (w := w) (base := base) D_letters_in gl_letters_in om m_tuple h_sign_by
  have h_letters_by := ok_letters_by (P := P) (w := w) (base := base) D_letters_by gl_letters_by om m_len h_need_code h_need_message h_letters_in
  have h_cleared := ok_cleared (P := P) (w := w) (base := base) D_cleared gl_cleared om m_zip h_rest_of
  have h_reduced := ok_reduced (P := P) (w := w) (base := base) D_reduced gl_reduced om m_zip m_enumerate m_sorted h_rest_of h_inverse_in h_cleared
  have h_rows_of := ok_rows_of (P := P) (w := w) (base := base) D_rows_of gl_rows_of om m_list
  have h_content_in := ok_content_in (P := P) (w := w) (base := base) D_content_in gl_content_in om m_len h_reduced h_rows_of
  have h_content := ok_content (P := P) (w := w) (base := base) D_content gl_content om h_need_lot_of h_need_code h_content_in
  have h_told_in := ok_told_in (P := P) (w := w) (base := base) D_told_in gl_told_in om m_sum m_int h_reduced h_rows_of
  have h_told := ok_told (P := P) (w := w) (base := base) D_told gl_told om h_need_lot_of h_need_code h_told_in
  have h_witness_in := ok_witness_in (P := P) (w := w) (base := base) D_witness_in gl_witness_in om m_enumerate m_int m_tuple h_told_in h_reduced h_rows_of h_rest_of h_inverse_in
  have h_witness := ok_witness (P := P) (w := w) (base := base) D_witness gl_witness om h_need_lot_of h_need_code h_witness_in
  have h_lots_with := ok_lots_with (P := P) (w := w) (base := base) D_lots_with gl_lots_with om m_range m_len m_sorted
  have h_profile_by := ok_profile_by (P := P) (w := w) (base := base) D_profile_by gl_profile_by om m_len m_range m_min h_lots_with h_told_in
  have h_code_profile := ok_code_profile (P := P) (w := w) (base := base) D_code_profile gl_code_profile om m_tuple h_profile_by h_need_code
  have h__law_mixed := ok__law_mixed (P := P) (w := w) (base := base) D__law_mixed gl__law_mixed om m_int
  have h__law_draw := FnIs.toG (ok__law_draw (P := P) (w := w) (base := base) D__law_draw gl__law_draw om m_int m_len h__law_mixed)
  have h__law_of := ok__law_of (P := P) (w := w) (base := base) D__law_of gl__law_of om m_len h__law_draw
  have h__law_back := ok__law_back (P := P) (w := w) (base := base) D__law_back gl__law_back om m_range m_int
  have h__law_prime := ok__law_prime (P := P) (w := w) (base := base) D__law_prime gl__law_prime om h__law_draw
  have h__law_message := ok__law_message (P := P) (w := w) (base := base) D__law_message gl__law_message om m_tuple m_range h__law_draw
  have h__law_rank := ok__law_rank (P := P) (w := w) (base := base) D__law_rank gl__law_rank om m_list m_range m_len m_zip m_int h__law_back
  have h__law_forms := ok__law_forms (P := P) (w := w) (base := base) D__law_forms gl__law_forms om m_list
  have h__law_reach := ok__law_reach (P := P) (w := w) (base := base) D__law_reach gl__law_reach om m_range m_int h__law_forms h__law_rank
  have h__law_lots := ok__law_lots (P := P) (w := w) (base := base) D__law_lots gl__law_lots om m_range m_sorted m_len
  have h__law_least := ok__law_least (P := P) (w := w) (base := base) D__law_least gl__law_least om m_len m_tuple m_range m_min h__law_lots h__law_reach
  have h__law_code := ok__law_code (P := P) (w := w) (base := base) D__law_code gl__law_code om m_range m_tuple m_zip m_int h__law_draw h__law_prime h__law_message h__law_of
  have h__law_is_witness := ok__law_is_witness (P := P) (w := w) (base := base) D__law_is_witness gl__law_is_witness om m_isinstance m_tuple m_len m_int m_sum m_zip h__law_reach h__law_forms
  have h__law_code_right := ok__law_code_right (P := P) (w := w) (base := base) D__law_code_right gl__law_code_right om m_range m_sum m_zip m_tuple m_int m_len h_need_code h__law_message h_letters_by h__law_lots h__law_reach h_content h__law_rank h__law_forms h_told h_witness h__law_is_witness h__law_least h_code_profile
  exact ok_law D_law D__law_begin gl__law_begin m_list en om m_range h__law_code_right h__law_code h_code_profile h_content h_told h_witness h_letters_by
end Lw
open PySem PySem.W PySem.Calls PyProof.Rows
set_option maxRecDepth 100000 in
set_option maxHeartbeats 0 in
theorem PySem.Challenge.cw_nestletters_k06_whole_codes_holds : PySem.Challenge.rw_nestletters_k06_whole_codes.Holds := by
  w_on; o_law
  refine HandSHeadRun.head_any (r := OpenLaw.row PySem.Challenge.rw_nestletters_k06_whole_codes) (q := view (OpenLaw.row PySem.Challenge.rw_nestletters_k06_whole_codes).prog [65]) (H := Lw.Hd.hk) (ob := Lw.Hd.ob) (M := 8000) (loose := Lw.Hd.names) (d := HandSHeadRun.topDef (OpenLaw.row PySem.Challenge.rw_nestletters_k06_whole_codes).prog 65) (kwd := []) Lw.Hd.ob_eq
    (by kernel_rfl) (fun s => by kernel_rfl) Lw.Hd.run (by kernel_rfl) (by kernel_rfl) (by kernel_rfl) (by rfl) (by first | assumption | decide +kernel) (by decide +kernel) ⟨rfl, rfl, rfl, rfl, rfl, by decide +kernel⟩ ?hw ?hc
  case hw => w_witness2
  case hc =>
    refine PF.walk_tab (l := PySem.Challenge.rw_nestletters_k06_whole_codes) (n := 63) (k := 9) (x := "_law_script") rfl (by decide) (by kernel_rfl) ⟨rfl, by decide, by decide⟩ ?F
    intro w mg fa h Y G hmg0
    obtain ⟨K, KX, c, ct⟩ := Y
    have hmg : mg ("law" : PySem.Str) = some (.ref fa) := by
      have e : (HandSHeadRun.topDef (OpenLaw.row PySem.Challenge.rw_nestletters_k06_whole_codes).prog 65).name = ("law" : PySem.Str) := by kernel_rfl
      rw [← e]
      exact hmg0
    obtain ⟨fd, hb, hF⟩ := Lw.facts (P := (PySem.Challenge.rw_nestletters_k06_whole_codes).prog) (w := w) Lw.law_ends KX G hmg c ct
    exact ⟨K, fd, PF.spLaw K, KX, hb, c.empty, c.out, c.hd, fun H a ns hl hT hS => ⟨a, ns, rfl, hS, hl, hT, fun _ => rfl⟩, hF⟩
