import PyProof.Rows.All
import Wide.All
import OpenK.AllK
import Wide.FinOn
import HandS.ForMost
import HandS.ForExc
import HandS.Wide
import HandS.CallSlots
import HandS.IsInst
import HandS.HeadWalk
import HandS.HeadHook4
import HandS.HeadEnd
import HandS.TupAny
import HandS.TupLe
import HandS.TupMul
import KE.KStateDown
import HandS.Iter
import HandS.Zip
import KE.GoesEnum
import KE.KTupSum
import KE.KEqDeep
import PyProof.P3Eq
import HandS.Head0
import HandS.Head1
import HandS.Head2
import HandS.HeadHook2
import PyProof.ReprRoads
import HandS.Star
import HandS.RaiseMore
import HandS.Deep
import HandS.Style
import PyProof.P3In
import HandS.SortRule
import HandS.SortInts
import KE.GoesZip
import HandS.Lambda
import KE.KExcInit
import HandS.ExcInit
import HandS.ExcField
import HandS.ClsMeth
import HandS.TryMany
import HandS.DictComp
import HandS.WordsDict
import HandS.Conv
import HandS.More
import HandS.ExcValue
import KE.KExcIs
import HandS.Text
import KE.KDictList
import HandS.HeadHook3
import PyProof.ByEval2
import PyProof.Rows.StrSplitCount
import KE.KDictZip
import HandS.Zip0
import KE.DataMinMax
import PyProof.ExcBaseAll.RuntimeError
import HandS.Replace
import PyProof.Rows.StrReprFit
import PyProof.StrOps2
import PyProof.ExcBaseAll.LookupError
import HandS.DictTup
import KE.KDictCopyH
import KE.SortData
import HandS.Small
import KE.KDictSum
import HandS.Property
import HandS.SlotsOwn
import HandS.HeadNt
import OpenK.KMeth
import KE.KEqDict
import PySem.Challenge.RW_nestletters_k15_stairs_refused
set_option Elab.async false
set_option linter.all false
set_option maxRecDepth 100000
set_option maxHeartbeats 4000000
namespace PF
open PySem PySem.Spec PyProof.Rows L2
abbrev St := L2.St
inductive W where
  | non | bl (b : Bool) | int (i : Int) | str (x : Str)
  | tup (ws : List W) | lst (ws : List W)
  | dct (ks : List Key) (ws : List W)
  | scr (n : Nat) | stt
  | clo (x : Str) (p : List Nat) (ws : List W) | lam (x : Str) (p : List Nat) | exo (c : Nat) (fs : List W)
  | obj (i : Nat) | dcu (ks : List (List Key)) (ws : List W) | key (k : List Key) | ptp (ws : List W)
inductive T (α : Type) where
  | ok (a : α) | exc (c : Nat) (fs : List W) | bad | ask (n : Nat) (k : Nat → T α)
  | get (i : Nat) (k : Nat → List W → T α) | put (i : Nat) (fs : List W) (k : T α) | new (c : Nat) (fs : List W) (k : Nat → T α)
/-- what a run changes: how many draws may come, the objects: their classes, their fields -/
structure Dw where
  n : Nat
  os : List (Nat × List W)
def T.bind {α β : Type} : T α → (α → T β) → T β
  | .ok a, f => f a
  | .exc c fs, _ => .exc c fs
  | .bad, _ => .bad
  | .ask n k, f => .ask n fun i => (k i).bind f
  | .get i k, f => .get i fun c fs => (k c fs).bind f
  | .put i fs k, f => .put i fs (k.bind f)
  | .new c fs k, f => .new c fs fun i => (k i).bind f
/-- d: how many draws may come; runs without objects -/
def T.AllB {α : Type} (P : Nat → α → Prop) (E : Nat → Nat → List W → Prop) : Nat → T α → Prop
  | d, .ok a => P d a
  | d, .exc c fs => E d c fs
  | d, .ask n k => ∃ e, d = e + 1 ∧ ∀ i, i < n → T.AllB P E e (k i)
  | _, _ => False
theorem T.AllB.imp {α : Type} {P P' : Nat → α → Prop} {E E' : Nat → Nat → List W → Prop} (h : ∀ d a, P d a → P' d a) (g : ∀ d c fs, E d c fs → E' d c fs) : ∀ {t : T α} {d : Nat}, t.AllB P E d → t.AllB P' E' d
  | .ok a, d, x => h d a x
  | .exc c fs, d, x => g d c fs x
  | .bad, _, x => x
  | .get _ _, _, x => x
  | .put _ _ _, _, x => x
  | .new _ _ _, _, x => x
  | .ask n k, d, x => by
    obtain ⟨e, he, x⟩ := x
    exact ⟨e, he, fun i hi => T.AllB.imp h g (x i hi)⟩
theorem T.allB_bind {α β : Type} {P : Nat → β → Prop} {E : Nat → Nat → List W → Prop} {f : α → T β} : ∀ {t : T α} {d : Nat}, (t.bind f).AllB P E d ↔ t.AllB (fun d a => (f a).AllB P E d) E d
  | .ok a, d => Iff.rfl
  | .exc c fs, d => Iff.rfl
  | .bad, _ => Iff.rfl
  | .get _ _, _ => Iff.rfl
  | .put _ _ _, _ => Iff.rfl
  | .new _ _ _, _ => Iff.rfl
  | .ask n k, d => by
    constructor
    · rintro ⟨e, he, x⟩
      exact ⟨e, he, fun i hi => T.allB_bind.mp (x i hi)⟩
    · rintro ⟨e, he, x⟩
      exact ⟨e, he, fun i hi => T.allB_bind.mpr (x i hi)⟩
/-- runs with objects -/
def T.AllW {α : Type} (P : Dw → α → Prop) (E : Dw → Nat → List W → Prop) : Dw → T α → Prop
  | d, .ok a => P d a
  | d, .exc c fs => E d c fs
  | _, .bad => False
  | d, .ask n k => ∃ e, d.n = e + 1 ∧ ∀ i, i < n → T.AllW P E ⟨e, d.os⟩ (k i)
  | d, .get i k => ∃ c fs, d.os[i]? = some (c, fs) ∧ T.AllW P E d (k c fs)
  | d, .put i fs k => ∃ c gs, d.os[i]? = some (c, gs) ∧ T.AllW P E ⟨d.n, d.os.set i (c, fs)⟩ k
  | d, .new c fs k => T.AllW P E ⟨d.n, d.os ++ [(c, fs)]⟩ (k d.os.length)
theorem T.AllW.imp {α : Type} {P P' : Dw → α → Prop} {E E' : Dw → Nat → List W → Prop} (h : ∀ d a, P d a → P' d a) (g : ∀ d c fs, E d c fs → E' d c fs) {t : T α} {d : Dw} (x : t.AllW P E d) : t.AllW P' E' d := by
  induction t generalizing d with
  | ok a => exact h d a x
  | exc c fs => exact g d c fs x
  | bad => exact x
  | ask n k ih =>
    obtain ⟨e, he, x⟩ := x
    exact ⟨e, he, fun i hi => ih i (x i hi)⟩
  | get i k ih =>
    obtain ⟨c, fs, e, x⟩ := x
    exact ⟨c, fs, e, ih c fs x⟩
  | put i fs k ih =>
    obtain ⟨c, gs, e, x⟩ := x
    exact ⟨c, gs, e, ih x⟩
  | new c fs k ih => exact ih _ x
theorem T.allW_bind {α β : Type} {P : Dw → β → Prop} {E : Dw → Nat → List W → Prop} {f : α → T β} {t : T α} {d : Dw} : (t.bind f).AllW P E d ↔ t.AllW (fun d a => (f a).AllW P E d) E d := by
  induction t generalizing d with
  | ok a => exact Iff.rfl
  | exc c fs => exact Iff.rfl
  | bad => exact Iff.rfl
  | ask n k ih =>
    constructor
    · rintro ⟨e, he, x⟩
      exact ⟨e, he, fun i hi => (ih i).mp (x i hi)⟩
    · rintro ⟨e, he, x⟩
      exact ⟨e, he, fun i hi => (ih i).mpr (x i hi)⟩
  | get i k ih =>
    constructor
    · rintro ⟨c, fs, e, x⟩
      exact ⟨c, fs, e, (ih c fs).mp x⟩
    · rintro ⟨c, fs, e, x⟩
      exact ⟨c, fs, e, (ih c fs).mpr x⟩
  | put i fs k ih =>
    constructor
    · rintro ⟨c, gs, e, x⟩
      exact ⟨c, gs, e, ih.mp x⟩
    · rintro ⟨c, gs, e, x⟩
      exact ⟨c, gs, e, ih.mpr x⟩
  | new c fs k ih => exact ih _
/-- a run without objects keeps them -/
theorem T.allW_of {α : Type} {P : Nat → α → Prop} {E : Nat → Nat → List W → Prop} {os : List (Nat × List W)} {t : T α} {n : Nat} (x : t.AllB P E n) : t.AllW (fun d a => d.os = os ∧ P d.n a) (fun d c fs => d.os = os ∧ E d.n c fs) ⟨n, os⟩ := by
  induction t generalizing n with
  | ok a => exact ⟨rfl, x⟩
  | exc c fs => exact ⟨rfl, x⟩
  | ask m k ih =>
    obtain ⟨e, he, x⟩ := x
    exact ⟨e, he, fun i hi => ih i (x i hi)⟩
  | bad => exact x.elim
  | _ => exact x.elim
/-- names and the cells that hold what they are -/
abbrev Cl := List (Str × Addr)
structure Cc where
  S : Addr
  ca : Addr
  la : Addr
  A : List Addr
  M : List Addr
  T : List (Addr × Str) := []
  C : Cl := []
  K : PySem.W.Frag := []
  O : List Addr := []
def kCells : Str := "cells"
def kLefts : Str := "lefts"
def kAt : Str := "at"
def kRoom : Str := "room"
/-- the state stands; so many draws may come -/
def St0 (c : Cc) (d : Nat) (H : Hp) : Prop :=
  ∃ (cells lefts : List Int) (k r : Int), H c.S = some (.dK [(.inr kCells, .ref c.ca), (.inr kLefts, .ref c.la), (.inr kAt, .int k), (.inr kRoom, .int r)]) ∧
    H c.ca = some (.lst (cells.map V.int)) ∧ H c.la = some (.lst (lefts.map V.int)) ∧ lefts.length = cells.length ∧ 0 < cells.length ∧ 0 ≤ k ∧ k + d ≤ 2 ^ 60 ∧ c.ca ≠ c.la ∧ LamX.Tabs c.T H
/-- no table of code objects -/
inductive IsTb : HO → Prop
  | tbl (ps : Array Value) : IsTb (.tbl ps)
  | ins (C dx : Addr) (fs : List (Str × V)) : IsTb (.ins C dx fs)
abbrev NoT (o : HO) : Prop := ¬ IsTb o
theorem NoT.t {o : HO} (h : NoT o) (ps : Array Value) : o ≠ .tbl ps := fun e => h (e ▸ .tbl ps)
theorem NoT.i {o : HO} (h : NoT o) (C dx : Addr) (fs : List (Str × V)) : o ≠ .ins C dx fs := fun e => h (e ▸ .ins C dx fs)
/-- all but the state's own two objects is kept; tables of code objects grow -/
structure Step (c : Cc) (H H' : Hp) : Prop where
  keep : ∀ b o, H b = some o → b ≠ c.S → b ≠ c.la → NoT o → H' b = some o
  tbl : ∀ b ps, H b = some (.tbl ps) → ∃ more, H' b = some (.tbl (ps ++ more))
  ins : ∀ b C dx fs, H b = some (.ins C dx fs) → ∃ gs, H' b = some (.ins C dx gs)
theorem Step.refl (c : Cc) (H : Hp) : Step c H H := ⟨fun _ _ e _ _ _ => e, fun _ ps e => ⟨#[], by rw [e]; simp⟩, fun _ _ _ fs e => ⟨fs, e⟩⟩
theorem Step.trans {c : Cc} {H H1 H2 : Hp} (a : Step c H H1) (b : Step c H1 H2) : Step c H H2 := ⟨fun x o e h1 h2 h3 => b.keep x o (a.keep x o e h1 h2 h3) h1 h2 h3, fun x ps e => by
  obtain ⟨m, e1⟩ := a.tbl x ps e
  obtain ⟨n, e2⟩ := b.tbl x _ e1
  exact ⟨m ++ n, by rw [e2, Array.append_assoc]⟩, fun x C dx fs e => by
  obtain ⟨gs, e1⟩ := a.ins x C dx fs e
  exact b.ins x C dx gs e1⟩
/-- all stays that stood -/
theorem Step.same {c : Cc} {H H' : Hp} (h : ∀ b o, H b = some o → H' b = some o) : Step c H H' := ⟨fun b o e _ _ _ => h b o e, fun b ps e => ⟨#[], by rw [h b _ e]; simp⟩, fun b C dx fs e => ⟨fs, h b _ e⟩⟩
theorem Step.new {c : Cc} {H : Hp} {p : Addr} {o : HO} (n : H p = none) : Step c H (upd H p o) := .same fun b u e => by
  rw [upd_ne (ne_of_none e n)]
  exact e
theorem Tabs.upd {T : List (Addr × Str)} {H : Hp} {p : Addr} {o u : HO} (t : LamX.Tabs T H) (h : H p = some o) (nt : NoT o) (nc : ∀ q, o ≠ LamX.CodeO p q) : LamX.Tabs T (L2.upd H p u) := fun x hx => by
  obtain ⟨ps, h1, h2, h3⟩ := t x hx
  refine ⟨ps, by rw [upd_ne (ne_of h1 h (Ne.symm (nt.t _)))]; exact h1, h2, fun pos cv hc => ?_⟩
  obtain ⟨c, e1, e2⟩ := h3 pos cv hc
  refine ⟨c, e1, ?_⟩
  rw [upd_ne]
  · exact e2
  · intro z
    subst z
    rw [h] at e2
    exact nc _ (Option.some.inj e2)
theorem St0.new {c : Cc} {d : Nat} {H : Hp} {p : Addr} {o : HO} (s : St0 c d H) (n : H p = none) : St0 c d (upd H p o) := by
  obtain ⟨cells, lefts, k, r, h1, h2, h3, h4, h5, h6, h7, h8, h9⟩ := s
  exact ⟨cells, lefts, k, r, by rw [upd_ne (ne_of_none h1 n)]; exact h1, by rw [upd_ne (ne_of_none h2 n)]; exact h2, by rw [upd_ne (ne_of_none h3 n)]; exact h3, h4, h5, h6, h7, h8, h9.ext fun b u e => by rw [upd_ne (ne_of_none e n)]; exact e⟩
theorem St0.S {c : Cc} {d : Nat} {H : Hp} (s : St0 c d H) : ∃ kvs, H c.S = some (.dK kvs) := by
  obtain ⟨_, _, _, _, h1, _⟩ := s
  exact ⟨_, h1⟩
theorem St0.la {c : Cc} {d : Nat} {H : Hp} (s : St0 c d H) : ∃ xs, H c.la = some (.lst xs) := by
  obtain ⟨_, _, _, _, _, _, h3, _⟩ := s
  exact ⟨_, h3⟩
/-- the errors' names and fields -/
def xAll : List (Str × List Str) := [("BadPaper", ["part"]), ("BadCode", ["part"]), ("BadFraction", ["given"]), ("BadNumber", ["given"]), ("BadPrime", ["given"]), ("BadMessage", ["given"]), ("BadLaying", ["given"]), ("BadMail", ["given"]), ("BadLot", ["given"]), ("BadStair", ["given"]),
  ("BadPoints", ["given"]), ("Unsound", ["need"]), ("BadChances", ["given"]), ("BadLetter", ["given"]), ("BadLabel", ["given"]), ("BadChannel", ["path"]), ("BadWorths", ["given"]), ("BadCost", ["given"]), ("BadRoom", ["given"]), ("BadList", ["given"]),
  ("BadLength", ["given"]), ("BadWishes", ["given"]), ("BadText", ["line", "word"]), ("Missing", ["given"]), ("NothingLeft", ["many"]), ("TooMany", ["most"]), ("NestError", [])]
def xName (n : Nat) : Str := (xAll.getD n ("", [])).1
def xFlds (n : Nat) : List Str := (xAll.getD n ("", [])).2
structure LamD where
  params : Arguments
  body : Expr
  scope : Scope
def kidE : Expr → Nat → Option Expr
  | .List es _, n => es[n]?
  | .Tuple es _ _, n => es[n]?
  | .Call _ es _ _, n => es[n]?
  | .BoolOp _ es _, n => es[n]?
  | .UnaryOp _ e _, _ => some e
  | .BinOp l _ r _, n => [l, r][n]?
  | .IfExp t a b _, n => [t, a, b][n]?
  | .Compare l _ cs _, n => (l :: cs)[n]?
  | .Subscript v i _, n => [v, i][n]?
  | _, _ => none
def atE : Expr → List Nat → Option Expr
  | e, [] => some e
  | e, n :: p => (kidE e n).bind fun e => atE e p
/-- the statements that a statement holds, the expressions that it holds -/
def subS : Stmt → Nat → List Stmt
  | .If _ b o _, n => [b, o].getD n []
  | .For _ _ b _ _, 0 => b
  | _, _ => []
def expS : Stmt → Option Expr
  | .Assign _ v _ => some v
  | .Return v _ => v
  | .Expr v _ => some v
  | .If t _ _ _ => some t
  | .For _ i _ _ _ => some i
  | _ => none
def atS : List Stmt → List (Nat × Nat) → Nat → List Nat → Option Expr
  | ss, [], n, p => (ss[n]?).bind fun st => (expS st).bind fun e => atE e p
  | ss, (n, k) :: r, m, p => (ss[n]?).bind fun st => atS (subS st k) r m p
/-- the lambda in the def x of the module at a path: n1, k1, n2, k2, .. (statements), n, then the way in the expression -/
def pathOf : List Nat → List (Nat × Nat) × Nat × List Nat
  | 0 :: n :: p => ([], n, p)
  | 1 :: n :: k :: p => let (a, m, q) := pathOf p; ((n, k) :: a, m, q)
  | _ => ([], 0, [])
def lamAt (ss : List Stmt) (p : List Nat) : Option LamD := match atS ss (pathOf p).1 (pathOf p).2.1 (pathOf p).2.2 with
  | some (.Lambda ps b sc _) => some ⟨ps, b, sc⟩
  | _ => none
def lamK (K : PySem.W.Frag) (x : Str) (p : List Nat) : Option LamD := match K.lookup (He.ga K x) with
  | some o => match o.data with
    | .func fd => match fd.body with
      | .stmts ss => lamAt ss p
      | _ => none
    | _ => none
  | none => none
/-- the function of a lambda, its defaults at dV -/
abbrev lfd (qual : Str) (params : Arguments) (body : Expr) (scope : Scope) (cl : List (Str × Addr)) (dV pm cdv ct : Value) : FuncData :=
  { name := "<lambda>", qualname := qual, params := params, body := .expr body, scope := scope, globals := mainGlobals, closure := cl, defaults := dV, kwdefaults := .none, doc := .none, pyModule := pm, annotations := none, code := cdv, closureTuple := ct, builtins := builtinsNs }
abbrev lob (qual : Str) (params : Arguments) (body : Expr) (scope : Scope) (cl : List (Str × Addr)) (dV pm : Value) (c' : Addr) (ctv : Value) : Obj := { cls := .type "function", data := .func (lfd qual params body scope cl dV pm (.ref c') ctv) }
/-- the very object o stands at a -/
def ObX (a : Addr) (o : Obj) : HO := .ext fun h => h.get? a = some o
/-- the parameters of a lambda: none, or one with an int as default -/
inductive ParOk : Option Str → Arguments → Prop
  | zero : ParOk none ⟨[], [], none, [], [], none, []⟩
  | one (x : Str) (p1 p2 : Pos) (i : Int) (j : Nat) : ParOk (some x) ⟨[], [⟨x, none, p1⟩], none, [], [], none, [.Constant (.int i) j p2]⟩
def lamQ (x : Str) : Str := x ++ ".<locals>." ++ "<lambda>"
/-- at f stands the lambda l, made with the cells cl -/
def LamAt (K : PySem.W.Frag) (H : Hp) (f : Addr) (x : Str) (p : List Nat) (l : LamD) (cl : Cl) : Prop := lamK K x p = some l ∧ ∃ (dV pm ctv : Value) (c' : Addr) (one : Option Str), H f = some (ObX f (lob (lamQ x) l.params l.body l.scope cl dV pm c' ctv)) ∧ H c' = some (LamX.CodeO c' (lamQ x)) ∧ ParOk one l.params ∧
  (one = none → dV = .none) ∧ (∀ y, one = some y → ∃ (D : Addr) (u : Value), dV = .ref D ∧ H D = some (ObX D { cls := .type "tuple", data := .seq #[u] }))
/-- the cells hold vs -/
inductive CapsAt (H : Hp) : Cl → List V → Prop
  | nil : CapsAt H [] []
  | cons {y : Str} {a : Addr} {o : Obj} {u : Value} {v : V} {cl : Cl} {vs : List V} : H a = some (ObX a o) → o.data = .cell (some u) → RelV v u → CapsAt H cl vs → CapsAt H ((y, a) :: cl) (v :: vs)
/-- an error at a, of a class, with a dict -/
def ExV (a : Addr) (cls : Value) (dx : Option Addr) : HO := .ext fun h => ∃ (oe : Obj) (vs : Array Value), h.get? a = some oe ∧ Zc cls dx oe ∧ oe.data = .fields vs
mutual
/-- no closure, no error in it -/
def plain : W → Bool
  | .clo _ _ _ => false
  | .lam _ _ => false
  | .exo _ _ => false
  | .tup ws => plainL ws
  | .lst ws => plainL ws
  | .dct _ ws => plainL ws
  | .dcu _ ws => plainL ws
  | .ptp ws => plainL ws
  | _ => true
def plainL : List W → Bool
  | [] => true
  | w :: ws => plain w && plainL ws
end
/-- what closures and errors lean on is kept -/
structure Kp (H H' : Hp) : Prop where
  ext : ∀ b φ, H b = some (.ext φ) → H' b = some (.ext φ)
  xd : ∀ b fs, H b = some (.xd fs) → H' b = some (.xd fs)
theorem LamAt.kp {K : PySem.W.Frag} {H H' : Hp} {f : Addr} {x : Str} {p : List Nat} {l : LamD} {cl : Cl} (k : Kp H H') (h : LamAt K H f x p l cl) : LamAt K H' f x p l cl := by
  obtain ⟨h0, dV, pm, ctv, c', one, h1, h2, h3, h4, h5⟩ := h
  refine ⟨h0, dV, pm, ctv, c', one, k.ext _ _ h1, k.ext _ _ h2, h3, h4, fun y hy => ?_⟩
  obtain ⟨D, u, e, hD⟩ := h5 y hy
  exact ⟨D, u, e, k.ext _ _ hD⟩
theorem CapsAt.kp {H H' : Hp} (k : Kp H H') : ∀ {cl : Cl} {vs : List V}, CapsAt H cl vs → CapsAt H' cl vs
  | _, _, .nil => .nil
  | _, _, .cons h1 h2 h3 r => .cons (k.ext _ _ h1) h2 h3 (CapsAt.kp k r)
mutual
inductive Rep (K : PySem.W.Frag) (c : Cc) (H : Hp) : W → V → Prop
  | non : Rep K c H .non .non
  | bl (b : Bool) : Rep K c H (.bl b) (.bl b)
  | int (i : Int) : Rep K c H (.int i) (.int i)
  | str (x : Str) : Rep K c H (.str x) (.str x)
  | tup {a : Addr} {vs : List V} {ws : List W} : SqT K H a vs → RepL K c H ws vs → Rep K c H (.tup ws) (.ref a)
  | lst {a : Addr} {vs : List V} {ws : List W} : a ∉ c.A → H a = some (.lst vs) → RepL K c H ws vs → Rep K c H (.lst ws) (.ref a)
  | dct {a : Addr} {kvs : List (Key × V)} {ws : List W} : a ∉ c.A → H a = some (.dK kvs) → RepL K c H ws (kvs.map (·.2)) → Rep K c H (.dct (kvs.map (·.1)) ws) (.ref a)
  | scr {a : Addr} {ns : List Int} : (a ∉ c.A ∧ Rd H a (.lst (ns.map V.int))) ∨ SqL K (fun _ => none) a (ns.map V.int) → Rep K c H (.scr ns.length) (.ref a)
  | stt : Rep K c H .stt (.ref c.S)
  | lam {f : Addr} {x : Str} {p : List Nat} {l : LamD} : LamAt K H f x p l (cloFrom c.C l.scope.names []) → Rep K c H (.lam x p) (.ref f)
  | clo {f : Addr} {x : Str} {p : List Nat} {l : LamD} {cl : Cl} {ws : List W} {vs : List V} : LamAt K H f x p l cl → cl.map (·.1) = (cloFrom [] l.scope.names []).map (·.1) → (cl.map (·.2)).Nodup → CapsAt H cl vs → plainL ws = true → RepL K c H ws vs → Rep K c H (.clo x p ws) (.ref f)
  | exo {a d : Addr} {n : Nat} {fs : List W} {vs : List V} : H a = some (ExV a (.ref (He.ga K (xName n))) (some d)) → H d = some (.xd ((xFlds n).zip vs).reverse) → vs.length = (xFlds n).length → RepL K c H fs vs → Rep K c H (.exo n fs) (.ref a)
  | exn {a : Addr} {n : Nat} : H a = some (ExV a (.ref (He.ga K (xName n))) none) → Rep K c H (.exo n []) (.ref a)
  | key {a : Addr} {k : List Key} : H a = some (.tup (k.map kV)) → Rep K c H (.key k) (.ref a)
  | obj {i : Nat} {a : Addr} : c.O[i]? = some a → Rep K c H (.obj i) (.ref a)
  | dcu {a : Addr} {o : Obj} {kvs : List (List Key × V)} {ws : List W} : a ∉ c.A → H a = some (.frz o (.dT kvs)) → RepL K c H ws (kvs.map (·.2)) → Rep K c H (.dcu (kvs.map (·.1)) ws) (.ref a)
  | ptp {a : Addr} {o : Obj} {vs : List V} {ws : List W} : a ∉ c.A → H a = some (.frz o (.tup vs)) → o.dict = none → RepL K c H ws vs → Rep K c H (.ptp ws) (.ref a)
inductive RepL (K : PySem.W.Frag) (c : Cc) (H : Hp) : List W → List V → Prop
  | nil : RepL K c H [] []
  | cons {w : W} {v : V} {ws : List W} {vs : List V} : Rep K c H w v → RepL K c H ws vs → RepL K c H (w :: ws) (v :: vs)
end
theorem Step.sqT0 {K : PySem.W.Frag} {c : Cc} {d : Nat} {H H' : Hp} {a : Addr} {vs : List V} (st : Step c H H') (s : St0 c d H) (h : SqT K H a vs) : SqT K H' a vs := by
  obtain ⟨kvs, hS⟩ := s.S
  obtain ⟨xs, hl⟩ := s.la
  rcases h with (h | ⟨o, h⟩) | h
  · exact .inl (.inl (st.keep _ _ h (ne_of h hS (by intro z; cases z)) (ne_of h hl (by intro z; cases z)) nofun))
  · exact .inl (.inr ⟨o, st.keep _ _ h (ne_of h hS (by intro z; cases z)) (ne_of h hl (by intro z; cases z)) nofun⟩)
  · exact .inr h
/-- what is fixed through a run -/
structure CcOk (c : Cc) : Prop where
  inS : c.S ∈ c.A
  inla : c.la ∈ c.A
  inca : c.ca ∈ c.A
theorem CcOk.neS {c : Cc} (h : CcOk c) {a : Addr} (n : a ∉ c.A) : a ≠ c.S := fun e => n (e ▸ h.inS)
theorem CcOk.nela {c : Cc} (h : CcOk c) {a : Addr} (n : a ∉ c.A) : a ≠ c.la := fun e => n (e ▸ h.inla)
section
variable {K : PySem.W.Frag} {c : Cc} {d : Nat} {H H' : Hp}
theorem Step.kp0 (st : Step c H H') (s : St0 c d H) : Kp H H' := by
  obtain ⟨kvs, hS⟩ := s.S
  obtain ⟨xs, hl⟩ := s.la
  exact ⟨fun b φ h => st.keep _ _ h (ne_of h hS nofun) (ne_of h hl nofun) nofun, fun b φ h => st.keep _ _ h (ne_of h hS nofun) (ne_of h hl nofun) nofun⟩
theorem Step.lst {a : Addr} {o : HO} (st : Step c H H') (ok : CcOk c) (n : a ∉ c.A) (h : H a = some o) (nt : NoT o := by nofun) : H' a = some o := st.keep a o h (ok.neS n) (ok.nela n) nt
mutual
theorem Rep.step0 (st : Step c H H') (s : St0 c d H) (ok : CcOk c) : ∀ {w : W} {v : V}, Rep K c H w v → Rep K c H' w v
  | _, _, .non => .non
  | _, _, .bl b => .bl b
  | _, _, .int i => .int i
  | _, _, .str x => .str x
  | _, _, .tup h r => .tup (st.sqT0 s h) (RepL.step0 st s ok r)
  | _, _, .lst n h r => .lst n (st.lst ok n h) (RepL.step0 st s ok r)
  | _, _, .dct n h r => .dct n (st.lst ok n h) (RepL.step0 st s ok r)
  | _, _, .scr h => .scr (h.imp (fun ⟨n, r⟩ => ⟨n, r.imp (fun e => st.lst ok n e) fun ⟨o, e⟩ => ⟨o, st.lst ok n e⟩⟩) id)
  | _, _, .stt => .stt
  | _, _, .obj h => .obj h
  | _, _, .dcu n h r => .dcu n (st.lst ok n h) (RepL.step0 st s ok r)
  | _, _, .ptp n h hd r => .ptp n (st.lst ok n h) hd (RepL.step0 st s ok r)
  | _, _, .lam h => .lam (h.kp (st.kp0 s))
  | _, _, .clo h g n k pl r => .clo (h.kp (st.kp0 s)) g n (k.kp (st.kp0 s)) pl (RepL.step0 st s ok r)
  | _, _, .exo h1 h2 h3 r => .exo ((st.kp0 s).ext _ _ h1) ((st.kp0 s).xd _ _ h2) h3 (RepL.step0 st s ok r)
  | _, _, .exn h1 => .exn ((st.kp0 s).ext _ _ h1)
  | _, _, .key h => .key (by
      obtain ⟨kvs, hS⟩ := s.S
      obtain ⟨xs, hl⟩ := s.la
      exact st.keep _ _ h (ne_of h hS nofun) (ne_of h hl nofun) nofun)
theorem RepL.step0 (st : Step c H H') (s : St0 c d H) (ok : CcOk c) : ∀ {ws : List W} {vs : List V}, RepL K c H ws vs → RepL K c H' ws vs
  | _, _, .nil => .nil
  | _, _, .cons h r => .cons (Rep.step0 st s ok h) (RepL.step0 st s ok r)
end
/-- the classes of the program whose objects may be made, with their fields in the order of their making -/
def yAll : List (Str × List Str) := [("Words", ["own_words", "own_line", "own_spot"]), ("Polish", ["own_line_words", "own_count"]), ("Task", ["own_size", "own_many", "own_measure", "own_base", "own_table"]), ("Trial", ["held_receiver", "kept_past"]),
  ("Receiver", ["own_prime", "own_laying", "own_past"]), ("Desk", ["own_receiver"]), ("Shelf", ["own_layings"])]
def yName (n : Nat) : Str := (yAll.getD n ("", [])).1
def yFlds (n : Nat) : List Str := (yAll.getD n ("", [])).2
/-- at a stands an object with these fields -/
def ObAt (K : PySem.W.Frag) (c : Cc) (H : Hp) (a : Addr) (cl : Nat) (fs : List W) : Prop := ∃ (dx : Addr) (vs : List V), H a = some (.ins (He.ga K (yName cl)) dx ((yFlds cl).zip vs)) ∧ RepL K c H fs vs ∧ vs.length ≤ (yFlds cl).length ∧ plainL fs = true
/-- the program has none of these classes -/
def noObj (K : PySem.W.Frag) : Bool := yAll.all fun y => match PySem.W.nsIn K mainGlobals y.1 with
  | some (some _) => false
  | _ => true
structure ObOk (c : Cc) (os : List (Nat × List W)) (H : Hp) : Prop where
  ok : CcOk c
  len : c.O.length = os.length
  nd : c.O.Nodup
  at_ : ∀ (i : Nat) (a : Addr) (o : Nat × List W), c.O[i]? = some a → os[i]? = some o → ObAt c.K c H a o.1 o.2
  no : noObj c.K = true → os = []
/-- objects more -/
structure Gr (c c' : Cc) : Prop where
  S : c'.S = c.S
  ca : c'.ca = c.ca
  la : c'.la = c.la
  A : c'.A = c.A
  M : c'.M = c.M
  T : c'.T = c.T
  C : c'.C = c.C
  KK : c'.K = c.K
  O : c.O <+: c'.O
theorem Gr.refl (c : Cc) : Gr c c := ⟨rfl, rfl, rfl, rfl, rfl, rfl, rfl, rfl, List.prefix_rfl⟩
theorem Gr.trans {a b c : Cc} (g : Gr a b) (h : Gr b c) : Gr a c := ⟨h.S.trans g.S, h.ca.trans g.ca, h.la.trans g.la, h.A.trans g.A, h.M.trans g.M, h.T.trans g.T, h.C.trans g.C, h.KK.trans g.KK, g.O.trans h.O⟩
theorem Gr.at {c c' : Cc} (g : Gr c c') {i : Nat} {a : Addr} (h : c.O[i]? = some a) : c'.O[i]? = some a := by
  obtain ⟨m, e⟩ := g.O
  rw [← e, List.getElem?_append_left (List.getElem?_eq_some_iff.mp h).1]
  exact h
mutual
theorem Rep.gr {c' : Cc} (g : Gr c c') : ∀ {w : W} {v : V}, Rep K c H w v → Rep K c' H w v
  | _, _, .non => .non
  | _, _, .bl b => .bl b
  | _, _, .int i => .int i
  | _, _, .str x => .str x
  | _, _, .tup h r => .tup h (RepL.gr g r)
  | _, _, .lst n h r => .lst (by rw [g.A]; exact n) h (RepL.gr g r)
  | _, _, .dct n h r => .dct (by rw [g.A]; exact n) h (RepL.gr g r)
  | _, _, .dcu n h r => .dcu (by rw [g.A]; exact n) h (RepL.gr g r)
  | _, _, .ptp n h hd r => .ptp (by rw [g.A]; exact n) h hd (RepL.gr g r)
  | _, _, .scr h => .scr (by rw [g.A]; exact h)
  | _, _, .stt => by rw [← g.S]; exact .stt
  | _, _, .lam h => .lam (by rw [g.C]; exact h)
  | _, _, .clo h q n k pl r => .clo h q n k pl (RepL.gr g r)
  | _, _, .exo h1 h2 h3 r => .exo h1 h2 h3 (RepL.gr g r)
  | _, _, .exn h1 => .exn h1
  | _, _, .key h => .key h
  | _, _, .obj h => .obj (g.at h)
theorem RepL.gr {c' : Cc} (g : Gr c c') : ∀ {ws : List W} {vs : List V}, RepL K c H ws vs → RepL K c' H ws vs
  | _, _, .nil => .nil
  | _, _, .cons h r => .cons (Rep.gr g h) (RepL.gr g r)
end
theorem Step.gr {c c' : Cc} {H H' : Hp} (g : Gr c c') (st : Step c' H H') : Step c H H' := ⟨fun b o e h1 h2 n => st.keep b o e (by rw [g.S]; exact h1) (by rw [g.la]; exact h2) n, st.tbl, st.ins⟩
theorem CcOk.gr {c c' : Cc} (g : Gr c c') (h : CcOk c) : CcOk c' := ⟨by rw [g.S, g.A]; exact h.inS, by rw [g.la, g.A]; exact h.inla, by rw [g.ca, g.A]; exact h.inca⟩
/-- a step, with objects more -/
structure SG (c c' : Cc) (H H' : Hp) : Prop where
  g : Gr c c'
  st : Step c H H'
theorem SG.refl (c : Cc) (H : Hp) : SG c c H H := ⟨.refl c, .refl c H⟩
theorem SG.of {c : Cc} {H H' : Hp} (st : Step c H H') : SG c c H H' := ⟨.refl c, st⟩
theorem SG.trans {a b c : Cc} {H H1 H2 : Hp} (x : SG a b H H1) (y : SG b c H1 H2) : SG a c H H2 := ⟨x.g.trans y.g, x.st.trans (y.st.gr x.g)⟩
theorem SG.new {c : Cc} {H : Hp} {p : Addr} {o : HO} (n : H p = none) : SG c c H (upd H p o) := .of (.new n)
theorem SG.same {c : Cc} {H H' : Hp} (h : ∀ b o, H b = some o → H' b = some o) : SG c c H H' := .of (.same h)
/-- the state and the objects stand -/
def StOk (c : Cc) (d : Dw) (H : Hp) : Prop := St0 c d.n H ∧ ObOk c d.os H
end
section
variable {K : PySem.W.Frag} {c : Cc} {d : Dw} {H H' : Hp}
theorem StOk.S (s : StOk c d H) : ∃ kvs, H c.S = some (.dK kvs) := s.1.S
theorem StOk.la (s : StOk c d H) : ∃ xs, H c.la = some (.lst xs) := s.1.la
theorem Step.sqT {a : Addr} {vs : List V} (st : Step c H H') (s : StOk c d H) (h : SqT K H a vs) : SqT K H' a vs := st.sqT0 s.1 h
theorem Step.kp (st : Step c H H') (s : StOk c d H) : Kp H H' := st.kp0 s.1
theorem Rep.step {w : W} {v : V} {c' : Cc} (h : Rep K c H w v) (st : SG c c' H H') (s : StOk c d H) (ok : CcOk c) : Rep K c' H' w v := (Rep.step0 st.st s.1 ok h).gr st.g
theorem RepL.step {w : List W} {v : List V} {c' : Cc} (h : RepL K c H w v) (st : SG c c' H H') (s : StOk c d H) (ok : CcOk c) : RepL K c' H' w v := (RepL.step0 st.st s.1 ok h).gr st.g
/-- objects whose heap does not change -/
theorem ObAt.same {a : Addr} {cl : Nat} {fs : List W} {c' : Cc} (h : ObAt K c H a cl fs) (e : H a = H' a) (r : ∀ ws vs, RepL K c H ws vs → RepL K c' H' ws vs) : ObAt K c' H' a cl fs := by
  obtain ⟨dx, vs, h1, h3, h4⟩ := h
  exact ⟨dx, vs, by rw [← e]; exact h1, r _ _ h3, h4⟩
theorem ObAt.some {a : Addr} {cl : Nat} {fs : List W} (h : ObAt K c H a cl fs) : ∃ C dx fl, H a = some (.ins C dx fl) := by
  obtain ⟨dx, vs, h1, _⟩ := h
  exact ⟨_, dx, _, h1⟩
theorem ObOk.same {c' : Cc} {os : List (Nat × List W)} (h : ObOk c os H) (ok : CcOk c') (eO : c'.O = c.O) (eK : c'.K = c.K) (e : ∀ a C dx fl, H a = Option.some (.ins C dx fl) → H' a = Option.some (.ins C dx fl)) (r : ∀ ws vs, RepL c.K c H ws vs → RepL c.K c' H' ws vs) : ObOk c' os H' := ⟨ok, by rw [eO]; exact h.len, by rw [eO]; exact h.nd, fun i a o h1 h2 => by
  rw [eO] at h1
  have q := h.at_ i a o h1 h2
  obtain ⟨C, dx, fl, h3⟩ := q.some
  rw [eK]
  exact q.same (h3.trans (e a C dx fl h3).symm) r, by rw [eK]; exact h.no⟩
theorem StOk.new {p : Addr} {o : HO} (s : StOk c d H) (n : H p = none) : StOk c d (upd H p o) := ⟨s.1.new n, s.2.same s.2.ok rfl rfl (fun a C dx fl h => by rw [upd_ne (ne_of_none h n)]; exact h) fun ws vs r => r.step (.new n) s s.2.ok⟩
end
section
variable {K : PySem.W.Frag} {c : Cc} {d : Dw} {H H' : Hp}
theorem RepL.length : ∀ {ws : List W} {vs : List V}, RepL K c H ws vs → ws.length = vs.length
  | _, _, .nil => rfl
  | _, _, .cons _ r => congrArg (· + 1) (RepL.length r)
theorem RepL.get : ∀ {ws : List W} {vs : List V}, RepL K c H ws vs → ∀ {i : Nat} {w : W}, ws[i]? = some w → ∃ v, vs[i]? = some v ∧ Rep K c H w v
  | _, _, .nil, i, w, e => by simp at e
  | _, _, .cons h r, 0, w, e => by
    simp at e
    subst e
    exact ⟨_, rfl, h⟩
  | _, _, .cons h r, i + 1, w, e => by
    obtain ⟨v, e1, e2⟩ := RepL.get r (i := i) (w := w) (by simpa using e)
    exact ⟨v, by simpa using e1, e2⟩
theorem RepL.append : ∀ {ws ws' : List W} {vs vs' : List V}, RepL K c H ws vs → RepL K c H ws' vs' → RepL K c H (ws ++ ws') (vs ++ vs')
  | _, _, _, _, .nil, h => h
  | _, _, _, _, .cons h r, h' => .cons h (RepL.append r h')
theorem RepL.set : ∀ {ws : List W} {vs : List V} {w : W} {v : V} (n : Nat), RepL K c H ws vs → Rep K c H w v → RepL K c H (ws.set n w) (vs.set n v)
  | _, _, _, _, _, .nil, _ => .nil
  | _, _, _, _, 0, .cons _ r, h => .cons h r
  | _, _, _, _, n + 1, .cons q r, h => .cons q (RepL.set n r h)
theorem RepL.reverse : ∀ {ws : List W} {vs : List V}, RepL K c H ws vs → RepL K c H ws.reverse vs.reverse
  | _, _, .nil => .nil
  | _, _, .cons h r => by
    rw [List.reverse_cons, List.reverse_cons]
    exact (RepL.reverse r).append (.cons h .nil)
end
theorem Step.there {c : Cc} {H H' : Hp} {b : Addr} {o : HO} (st : Step c H H') (h : H b = some o) (h1 : b ≠ c.S) (h2 : b ≠ c.la) : ∃ o', H' b = some o' := by
  cases o with
  | tbl ps =>
    obtain ⟨m, e⟩ := st.tbl b ps h
    exact ⟨_, e⟩
  | ins C dx fs =>
    obtain ⟨gs, e⟩ := st.ins b C dx fs h
    exact ⟨_, e⟩
  | _ => exact ⟨_, st.keep b _ h h1 h2 nofun⟩
def OwnO (o : HO) : Prop := (∃ xs, o = .lst xs) ∨ (∃ xs, o = .dK xs) ∨ ∃ xs, o = .dT xs
theorem OwnO.noT {o : HO} (h : OwnO o) : NoT o := by
  rcases h with ⟨xs, rfl⟩ | ⟨xs, rfl⟩ | ⟨xs, rfl⟩
  · exact nofun
  · exact nofun
  · exact nofun
/-- the world stands -/
structure Wd (c : Cc) (d : Dw) (H : Hp) : Prop where
  ok : CcOk c
  st : StOk c d H
  av : ∀ b ∈ c.A, ∃ o, H b = some o ∧ OwnO o
theorem Wd.fresh {c : Cc} {d : Dw} {H : Hp} {p : Addr} (w : Wd c d H) (n : H p = none) : p ∉ c.A := fun h => by
  obtain ⟨o, e, _⟩ := w.av p h
  rw [n] at e
  cases e
theorem Wd.step {c c' : Cc} {d d' : Dw} {H H' : Hp} (w : Wd c d H) (st : SG c c' H H') (s' : StOk c' d' H') : Wd c' d' H' := ⟨w.ok.gr st.g, s', fun b hb => by
    rw [st.g.A] at hb
    obtain ⟨o, h, w⟩ := w.av b hb
    by_cases h1 : b = c.S
    · obtain ⟨kvs, h2⟩ := s'.S
      rw [st.g.S] at h2
      exact ⟨_, h1 ▸ h2, .inr (.inl ⟨_, rfl⟩)⟩
    · by_cases h2 : b = c.la
      · obtain ⟨xs, h3⟩ := s'.la
        rw [st.g.la] at h3
        exact ⟨_, h2 ▸ h3, .inl ⟨_, rfl⟩⟩
      · exact ⟨o, st.st.keep b o h h1 h2 w.noT, w⟩⟩
theorem Wd.new {c : Cc} {d : Dw} {H : Hp} {p : Addr} {o : HO} (w : Wd c d H) (n : H p = none) : Wd c d (upd H p o) := w.step (.new n) (w.st.new n)
/-- of each function of the written part: the table of its code, the name of its lambdas -/
def tabL (K : PySem.W.Frag) : List (Addr × Str) := K.filterMap fun x => match x.2.data with
  | .func fd => (match fd.code with
    | .ref c => some (He.tabOf K c, fd.qualname ++ ".<locals>." ++ "<lambda>")
    | _ => none)
  | _ => none
inductive Sl where
  | un | val (w : W) | own (ws : List W) | odc (kvs : List (Key × W)) | odt (kvs : List (List Key × W))
  | lnk (kvs : List (Key × W)) | lnt (kvs : List (List Key × W))
abbrev En := List Sl
/-- a dict that the caller lends: its address is told by the cells -/
def lentOf : Cl → Addr
  | (_, a) :: _ => a
  | [] => 0
def isLk : Sl → Bool
  | .lnk _ => true
  | .lnt _ => true
  | _ => false
/-- a slot that holds a thing of the frame's own -/
def Dy (ρ : En) (j : Nat) : Prop := (∃ ws, ρ[j]? = some (.own ws)) ∨ (∃ ks, ρ[j]? = some (.odc ks)) ∨ ∃ ks, ρ[j]? = some (.odt ks)
def IsD (o : HO) : Prop := (∃ vs, o = .dK vs) ∨ ∃ vs, o = .dT vs
/-- pairs that stand for a dict's pairs -/
def RepD (K : PySem.W.Frag) (c : Cc) (H : Hp) (acc : List (Key × W)) (kvs : List (Key × V)) : Prop := acc.map (·.1) = kvs.map (·.1) ∧ RepL K c H (acc.map (·.2)) (kvs.map (·.2))
def RepDT (K : PySem.W.Frag) (c : Cc) (H : Hp) (acc : List (List Key × W)) (kvs : List (List Key × V)) : Prop := acc.map (·.1) = kvs.map (·.1) ∧ RepL K c H (acc.map (·.2)) (kvs.map (·.2))
/-- the frame's own lists -/
structure MOk (c : Cc) (H : Hp) : Prop where
  inA : ∀ b ∈ c.M, b ∈ c.A
  nst : ∀ b ∈ c.M, b ∉ [c.S, c.ca, c.la]
  ls : ∀ b ∈ c.M, ∃ o, H b = some o ∧ OwnO o
theorem MOk.step {c c' : Cc} {H H' : Hp} (m : MOk c H) (st : SG c c' H H') : MOk c' H' := ⟨fun b hb => by
  rw [st.g.A]
  rw [st.g.M] at hb
  exact m.inA b hb, fun b hb => by
  rw [st.g.M] at hb
  rw [st.g.S, st.g.ca, st.g.la]
  exact m.nst b hb, fun b hb => by
  rw [st.g.M] at hb
  obtain ⟨o, h, w⟩ := m.ls b hb
  have n := m.nst b hb
  simp only [List.mem_cons, not_or] at n
  exact ⟨o, st.st.keep b _ h n.1 n.2.2.1 w.noT, w⟩⟩
/-- the lent dict -/
structure LkOk (K : PySem.W.Frag) (Γ : Cl) (c : Cc) (oa : Nat → Addr) (ρ : En) (σ : St) (H : Hp) : Prop where
  k : ∀ (i : Nat) (kvs : List (Key × W)), ρ[i]? = some (.lnk kvs) → lentOf Γ ∈ c.M ∧ σ[i]? = some (some (.ref (lentOf Γ))) ∧ ∃ vs, H (lentOf Γ) = some (.dK vs) ∧ RepD K c H kvs vs
  t : ∀ (i : Nat) (kvs : List (List Key × W)), ρ[i]? = some (.lnt kvs) → lentOf Γ ∈ c.M ∧ σ[i]? = some (some (.ref (lentOf Γ))) ∧ ∃ vs, H (lentOf Γ) = some (.dT vs) ∧ RepDT K c H kvs vs
  ne : ∀ (i : Nat) (s : Sl), ρ[i]? = some s → isLk s = true → ∀ j, Dy ρ j → oa j ≠ lentOf Γ
  u : ∀ (i j : Nat) (s r : Sl), ρ[i]? = some s → isLk s = true → ρ[j]? = some r → isLk r = true → i = j
section
variable {K : PySem.W.Frag} {Γ : Cl} {c c' : Cc} {oa oa' : Nat → Addr} {ρ ρ' : En} {σ σ' : St} {H H' : Hp}
theorem LkOk.none (h : ∀ (i : Nat) (s : Sl), ρ[i]? = some s → isLk s = false) : LkOk K Γ c oa ρ σ H :=
  ⟨fun i kvs e => (by have := h i _ e; cases this), fun i kvs e => (by have := h i _ e; cases this), fun i s e l => absurd l (by rw [h i s e]; decide), fun i j s r e l => absurd l (by rw [h i s e]; decide)⟩
theorem LkOk.ex (l : LkOk K Γ c oa ρ σ H) {i : Nat} {s : Sl} (e : ρ[i]? = some s) (h : isLk s = true) : lentOf Γ ∈ c.M ∧ ∃ o, H (lentOf Γ) = some o ∧ IsD o := by
  cases s with
  | lnk kvs =>
    obtain ⟨h1, _, vs, h2, _⟩ := l.k i kvs e
    exact ⟨h1, _, h2, .inl ⟨_, rfl⟩⟩
  | lnt kvs =>
    obtain ⟨h1, _, vs, h2, _⟩ := l.t i kvs e
    exact ⟨h1, _, h2, .inr ⟨_, rfl⟩⟩
  | _ => cases h
theorem LkOk.to (l : LkOk K Γ c oa ρ σ H) (hs : ∀ (i : Nat) (s : Sl), ρ'[i]? = some s → isLk s = true → ρ[i]? = some s ∧ σ'[i]? = σ[i]?) (hr : ∀ ws vs, RepL K c H ws vs → RepL K c' H' ws vs)
    (f : (∃ (i : Nat) (s : Sl), ρ[i]? = some s ∧ isLk s = true) → lentOf Γ ∈ c.M → (∃ o, H (lentOf Γ) = some o ∧ IsD o) → (∀ j, Dy ρ j → oa j ≠ lentOf Γ) → lentOf Γ ∈ c'.M ∧ (∀ o, H (lentOf Γ) = some o → IsD o → H' (lentOf Γ) = some o) ∧ ∀ j, Dy ρ' j → oa' j ≠ lentOf Γ) : LkOk K Γ c' oa' ρ' σ' H' where
  k := fun i kvs e => by
    obtain ⟨e1, e2⟩ := hs i _ e rfl
    obtain ⟨h1, h2, vs, h3, h4⟩ := l.k i kvs e1
    obtain ⟨g1, g2, _⟩ := f ⟨i, _, e1, rfl⟩ h1 ⟨_, h3, .inl ⟨_, rfl⟩⟩ (l.ne i _ e1 rfl)
    exact ⟨g1, e2.trans h2, vs, g2 _ h3 (.inl ⟨_, rfl⟩), h4.1, hr _ _ h4.2⟩
  t := fun i kvs e => by
    obtain ⟨e1, e2⟩ := hs i _ e rfl
    obtain ⟨h1, h2, vs, h3, h4⟩ := l.t i kvs e1
    obtain ⟨g1, g2, _⟩ := f ⟨i, _, e1, rfl⟩ h1 ⟨_, h3, .inr ⟨_, rfl⟩⟩ (l.ne i _ e1 rfl)
    exact ⟨g1, e2.trans h2, vs, g2 _ h3 (.inr ⟨_, rfl⟩), h4.1, hr _ _ h4.2⟩
  ne := fun i s e h => by
    obtain ⟨e1, _⟩ := hs i _ e h
    obtain ⟨h1, h2⟩ := l.ex e1 h
    exact (f ⟨i, s, e1, h⟩ h1 h2 (l.ne i _ e1 h)).2.2
  u := fun i j s r e h e' h' => l.u i j s r (hs i s e h).1 h (hs j r e' h').1 h'
theorem dy_set {i j : Nat} {s : Sl} (hs : ∀ ws, s ≠ .own ws) (h1 : ∀ ks, s ≠ .odc ks) (h2 : ∀ ks, s ≠ .odt ks) (h : Dy (ρ.set i s) j) : j ≠ i ∧ Dy ρ j := by
  have key : ∀ r, (ρ.set i s)[j]? = some r → (j = i ∧ r = s) ∨ (j ≠ i ∧ ρ[j]? = some r) := fun r e => by
    by_cases q : j = i
    · subst q
      left
      rw [List.getElem?_set] at e
      simp only [if_true] at e
      split at e
      · exact ⟨rfl, (Option.some.inj e).symm⟩
      · cases e
    · right
      rw [List.getElem?_set_ne (Ne.symm q)] at e
      exact ⟨q, e⟩
  rcases h with ⟨ws, e⟩ | ⟨ks, e⟩ | ⟨ks, e⟩
  · rcases key _ e with ⟨_, z⟩ | ⟨q, e⟩
    · exact absurd z.symm (hs ws)
    · exact ⟨q, .inl ⟨ws, e⟩⟩
  · rcases key _ e with ⟨_, z⟩ | ⟨q, e⟩
    · exact absurd z.symm (h1 ks)
    · exact ⟨q, .inr (.inl ⟨ks, e⟩)⟩
  · rcases key _ e with ⟨_, z⟩ | ⟨q, e⟩
    · exact absurd z.symm (h2 ks)
    · exact ⟨q, .inr (.inr ⟨ks, e⟩)⟩
theorem lk_set {i : Nat} {s r : Sl} {j : Nat} (n : isLk s = false) (e : (ρ.set i s)[j]? = some r) (h : isLk r = true) : j ≠ i ∧ ρ[j]? = some r := by
  by_cases q : j = i
  · subst q
    rw [List.getElem?_set] at e
    simp only [if_true] at e
    split at e
    · have := Option.some.inj e
      subst this
      rw [n] at h
      cases h
    · cases e
  · rw [List.getElem?_set_ne (Ne.symm q)] at e
    exact ⟨q, e⟩
/-- a slot is set to a thing that is neither lent nor the frame's own -/
theorem LkOk.set0 (l : LkOk K Γ c oa ρ σ H) (i : Nat) {s : Sl} {x : Option V} (n : isLk s = false) (hs : ∀ ws, s ≠ .own ws) (h1 : ∀ ks, s ≠ .odc ks) (h2 : ∀ ks, s ≠ .odt ks) : LkOk K Γ c oa (ρ.set i s) (σ.set i x) H :=
  l.to (fun j r e h => by
    obtain ⟨q, e⟩ := lk_set n e h
    exact ⟨e, by rw [List.getElem?_set_ne (Ne.symm q)]⟩) (fun _ _ r => r) fun _ m _ ne => ⟨m, fun _ h _ => h, fun j d => ne j (dy_set hs h1 h2 d).2⟩
theorem IsD.notL {o : HO} (h : IsD o) (vs : List V) : o ≠ .lst vs := by
  rcases h with ⟨_, rfl⟩ | ⟨_, rfl⟩ <;> nofun
theorem IsD.noT {o : HO} (h : IsD o) : NoT o := by
  rcases h with ⟨_, rfl⟩ | ⟨_, rfl⟩ <;> nofun
/-- the heap is changed at an address that is not the lent one -/
theorem LkOk.at_ (l : LkOk K Γ c oa ρ σ H) {D : Addr} {o : HO} (hr : ∀ ws vs, RepL K c H ws vs → RepL K c' (L2.upd H D o) ws vs) (hM : lentOf Γ ∈ c.M → lentOf Γ ∈ c'.M) (hn : lentOf Γ ∈ c.M → (∃ o, H (lentOf Γ) = some o ∧ IsD o) → lentOf Γ ≠ D) : LkOk K Γ c' oa ρ σ (L2.upd H D o) :=
  l.to (fun _ _ e _ => ⟨e, rfl⟩) hr fun _ m x ne => ⟨hM m, fun _ h _ => by rw [upd_ne (hn m x)]; exact h, ne⟩
end
/-- oa: the addresses of the lists that the frame's own slots hold -/
structure EnvOk (K : PySem.W.Frag) (Γ : Cl) (c : Cc) (d : Dw) (oa : Nat → Addr) (ρ : En) (σ : St) (H : Hp) : Prop where
  ok : CcOk c
  st : StOk c d H
  av : ∀ b ∈ c.A, ∃ o, H b = some o ∧ OwnO o
  len : ρ.length = σ.length
  val : ∀ (i : Nat) (w : W), ρ[i]? = some (.val w) → ∃ v, σ[i]? = some (some v) ∧ Rep K c H w v
  m : MOk c H
  own : ∀ (i : Nat) (ws : List W), ρ[i]? = some (.own ws) → oa i ∈ c.M ∧ σ[i]? = some (some (.ref (oa i))) ∧ ∃ vs, H (oa i) = some (.lst vs) ∧ RepL K c H ws vs
  inj : ∀ (i j : Nat) (ws us : List W), ρ[i]? = some (.own ws) → ρ[j]? = some (.own us) → oa i = oa j → i = j
  odc : ∀ (i : Nat) (kvs : List (Key × W)), ρ[i]? = some (.odc kvs) → oa i ∈ c.M ∧ σ[i]? = some (some (.ref (oa i))) ∧ ∃ vs, H (oa i) = some (.dK vs) ∧ RepD K c H kvs vs
  ido : ∀ (i j : Nat) (ks ls : List (Key × W)), ρ[i]? = some (.odc ks) → ρ[j]? = some (.odc ls) → oa i = oa j → i = j
  odt : ∀ (i : Nat) (kvs : List (List Key × W)), ρ[i]? = some (.odt kvs) → oa i ∈ c.M ∧ σ[i]? = some (some (.ref (oa i))) ∧ ∃ vs, H (oa i) = some (.dT vs) ∧ RepDT K c H kvs vs
  idt : ∀ (i j : Nat) (ks ls : List (List Key × W)), ρ[i]? = some (.odt ks) → ρ[j]? = some (.odt ls) → oa i = oa j → i = j
  lk : LkOk K Γ c oa ρ σ H
  tT : c.T = tabL K
  cC : c.C = Γ
  kK : c.K = K
section
variable {K : PySem.W.Frag} {c : Cc} {d d' : Dw} {oa : Nat → Addr} {ρ : En} {σ : St} {H H' : Hp}
theorem EnvOk.wd (e : EnvOk K Γ c d oa ρ σ H) : Wd c d H := ⟨e.ok, e.st, e.av⟩
theorem EnvOk.step {c' : Cc} (e : EnvOk K Γ c d oa ρ σ H) (st : SG c c' H H') (s' : StOk c' d' H') : EnvOk K Γ c' d' oa ρ σ H' where
  ok := e.ok.gr st.g
  st := s'
  av := (e.wd.step st s').av
  len := e.len
  val := fun i w h => by
    obtain ⟨v, h1, h2⟩ := e.val i w h
    exact ⟨v, h1, h2.step st e.st e.ok⟩
  m := e.m.step st
  own := fun i ws h => by
    obtain ⟨h1, h3, vs, h4, h5⟩ := e.own i ws h
    have h2 := e.m.nst _ h1
    refine ⟨by rw [st.g.M]; exact h1, h3, vs, st.st.keep _ _ h4 ?_ ?_ nofun, h5.step st e.st e.ok⟩
    · intro z
      exact h2 (by rw [z]; simp)
    · intro z
      exact h2 (by rw [z]; simp)
  inj := e.inj
  odc := fun i ws h => by
    obtain ⟨h1, h3, vs, h4, h5⟩ := e.odc i ws h
    have h2 := e.m.nst _ h1
    refine ⟨by rw [st.g.M]; exact h1, h3, vs, st.st.keep _ _ h4 ?_ ?_ nofun, h5.1, h5.2.step st e.st e.ok⟩
    · intro z
      exact h2 (by rw [z]; simp)
    · intro z
      exact h2 (by rw [z]; simp)
  ido := e.ido
  odt := fun i ws h => by
    obtain ⟨h1, h3, vs, h4, h5⟩ := e.odt i ws h
    have h2 := e.m.nst _ h1
    refine ⟨by rw [st.g.M]; exact h1, h3, vs, st.st.keep _ _ h4 ?_ ?_ nofun, h5.1, h5.2.step st e.st e.ok⟩
    · intro z
      exact h2 (by rw [z]; simp)
    · intro z
      exact h2 (by rw [z]; simp)
  idt := e.idt
  lk := e.lk.to (fun _ _ h _ => ⟨h, rfl⟩) (fun _ _ r => r.step st e.st e.ok) fun _ m _ ne => ⟨by rw [st.g.M]; exact m, fun o h w => st.st.keep _ _ h (fun z => e.m.nst _ m (by rw [z]; simp)) (fun z => e.m.nst _ m (by rw [z]; simp)) w.noT, ne⟩
  tT := st.g.T.trans e.tT
  cC := st.g.C.trans e.cC
  kK := st.g.KK.trans e.kK
end
/-- an error's class is the module's n-th name; its dict holds the fields -/
def RepX (K : PySem.W.Frag) (c : Cc) (H : Hp) (n : Nat) (fs : List W) (cls : Value) (dx : Option Addr) : Prop :=
  cls = .ref (He.ga K (xName n)) ∧ ∃ (d : Addr) (vs : List V), dx = some d ∧ H d = some (.xd ((xFlds n).zip vs).reverse) ∧ vs.length = (xFlds n).length ∧ RepL K c H fs vs
/-- what is wanted of an expression's run -/
def PQ (K : PySem.W.Frag) (c : Cc) (H : Hp) (Q : VK) : Dw → W → Prop := fun d w => ∀ ⦃c' : Cc⦄ v H', SG c c' H H' → StOk c' d H' → Rep K c' H' w v → Q v H'
def PQL (K : PySem.W.Frag) (c : Cc) (H : Hp) (Q : List V → Hp → Prop) : Dw → List W → Prop := fun d ws => ∀ ⦃c' : Cc⦄ vs H', SG c c' H H' → StOk c' d H' → RepL K c' H' ws vs → Q vs H'
def PB (c : Cc) (H : Hp) (Q : Bool → Hp → Prop) : Dw → Bool → Prop := fun d b => ∀ ⦃c' : Cc⦄ H', SG c c' H H' → StOk c' d H' → Q b H'
theorem PB.later {c c1 : Cc} {H H1 : Hp} {Q : Bool → Hp → Prop} {d : Dw} {b : Bool} (s : SG c c1 H H1) (h : PB c H Q d b) : PB c1 H1 Q d b := fun _ H' st so => h H' (s.trans st) so
def PX (K : PySem.W.Frag) (c : Cc) (H : Hp) (E : XK) : Dw → Nat → List W → Prop := fun d n fs => ∀ ⦃c' : Cc⦄ cls dx H', SG c c' H H' → StOk c' d H' → RepX K c' H' n fs cls dx → E cls dx H'
theorem PQ.later {K : PySem.W.Frag} {c c1 : Cc} {H H1 : Hp} {Q : VK} {d : Dw} {w : W} (s : SG c c1 H H1) (h : PQ K c H Q d w) : PQ K c1 H1 Q d w := fun _ v H' st so r => h v H' (s.trans st) so r
theorem PQL.later {K : PySem.W.Frag} {c c1 : Cc} {H H1 : Hp} {Q : List V → Hp → Prop} {d : Dw} {w : List W} (s : SG c c1 H H1) (h : PQL K c H Q d w) : PQL K c1 H1 Q d w := fun _ v H' st so r => h v H' (s.trans st) so r
theorem PX.later {K : PySem.W.Frag} {c c1 : Cc} {H H1 : Hp} {E : XK} {n : Nat} {d : Dw} {fs : List W} (s : SG c c1 H H1) (h : PX K c H E d n fs) : PX K c1 H1 E d n fs := fun _ v dx H' st so r => h v dx H' (s.trans st) so r
def liftE (K : PySem.W.Frag) (Γ : Cl) (E : WX) (f : En → T W) : TE := fun σ H Q => ∃ c d oa ρ, EnvOk K Γ c d oa ρ σ H ∧ (f ρ).AllW (PQ K c H Q) (PX K c H fun cls dx H' => E cls dx σ H') d
section
variable {K : PySem.W.Frag} {E : WX} {f : En → T W} {g : W → T W} {c : Cc} {d : Dw} {oa : Nat → Addr} {ρ : En} {σ : St} {H : Hp} {Q : VK}
/-- a run, then something of its value -/
theorem lift_then {β : Type} {P : Cc → Hp → Dw → β → Prop} {G : W → T β} {R : V → Hp → Prop} (e : EnvOk K Γ c d oa ρ σ H) (h : ((f ρ).bind G).AllW (P c H) (PX K c H fun cls dx H' => E cls dx σ H') d)
    (lt : ∀ {c1 H1 d' b}, SG c c1 H H1 → P c H d' b → P c1 H1 d' b)
    (go : ∀ {c1 : Cc} w v H1 d1, SG c c1 H H1 → Rep K c1 H1 w v → EnvOk K Γ c1 d1 oa ρ σ H1 → (G w).AllW (P c1 H1) (PX K c1 H1 fun cls dx H' => E cls dx σ H') d1 → R v H1) : liftE K Γ E f σ H R := by
  refine ⟨c, d, oa, ρ, e, T.AllW.imp (fun d1 w x => ?_) (fun _ _ _ x => x) (T.allW_bind.mp h)⟩
  intro c1 v H1 st so r
  exact go w v H1 d1 st r (e.step st so) (T.AllW.imp (fun _ _ y => lt st y) (fun _ _ _ y => y.later st) x)
end
end PF
namespace PF
open PySem PySem.Spec PyProof.Rows L2
section
variable {K : PySem.W.Frag} {c : Cc} {d : Dw} {H : Hp} {Q : VK} {E' : Dw → Nat → List W → Prop}
theorem PQ.tup {ws : List W} {vs : List V} {p : Addr} (wd : Wd c d H) (h : PQ K c H Q d (.tup ws)) (r : RepL K c H ws vs) (n : H p = none) : Q (.ref p) (upd H p (.tup vs)) :=
  h _ _ (.new n) (wd.st.new n) (.tup (.of upd_same) (r.step (.new n) wd.st wd.ok))
theorem PQ.lst {ws : List W} {vs : List V} {p : Addr} (wd : Wd c d H) (h : PQ K c H Q d (.lst ws)) (r : RepL K c H ws vs) (n : H p = none) : Q (.ref p) (upd H p (.lst vs)) :=
  h _ _ (.new n) (wd.st.new n) (.lst (wd.fresh n) upd_same (r.step (.new n) wd.st wd.ok))
end
def gV (i : Nat) (ρ : En) : T W := match ρ[i]? with
  | some (.val w) => .ok w
  | _ => .bad
def f2 (g : W → W → T W) (fa fb : En → T W) : En → T W := fun ρ => (fa ρ).bind fun x => (fb ρ).bind fun y => g x y
def f1 (g : W → T W) (fa : En → T W) : En → T W := fun ρ => (fa ρ).bind g
def Sem2 (K : PySem.W.Frag) (r : R2) (g : W → W → T W) : Prop := ∀ (c : Cc) (d : Dw) (H : Hp) (x y : W) (v u : V) (Q : VK) (E' : Dw → Nat → List W → Prop), Wd c d H → Rep K c H x v → Rep K c H y u → (g x y).AllW (PQ K c H Q) E' d → r v u H Q
def Sem1 (K : PySem.W.Frag) (r : V → Hp → VK → Prop) (g : W → T W) : Prop := ∀ (c : Cc) (d : Dw) (H : Hp) (x : W) (v : V) (Q : VK) (E' : Dw → Nat → List W → Prop), Wd c d H → Rep K c H x v → (g x).AllW (PQ K c H Q) E' d → r v H Q
section
variable {X : Cx} {E : WX} {a b cc : Expr} {fa fb fc : En → T W} {g : W → W → T W} {g1 : W → T W} {r r' : R2} {pos : Pos}
theorem two (hs : Sem2 X.K r g) : ∀ σ H Q, liftE X.K Γ E (f2 g fa fb) σ H Q → tOp r (liftE X.K Γ E fa) (liftE X.K Γ E fb) σ H Q := fun σ H Q h => by
  obtain ⟨c, d, oa, ρ, e, h⟩ := h
  refine lift_then (P := fun c H => PQ X.K c H Q) e h (fun st p => p.later st) fun w v H1 d1 _ r1 e1 h1 => ?_
  refine lift_then (P := fun c H => PQ X.K c H Q) e1 h1 (fun st p => p.later st) fun w2 v2 H2 d2 st2 r2 e2 h2 => ?_
  exact hs _ d2 H2 w w2 v v2 Q _ e2.wd (r1.step st2 e1.st e1.ok) r2 h2
theorem one {r1 : V → Hp → VK → Prop} (hs : Sem1 X.K r1 g1) : ∀ σ H Q, liftE X.K Γ E (f1 g1 fa) σ H Q → tUn r1 (liftE X.K Γ E fa) σ H Q := fun σ H Q h => by
  obtain ⟨c, d, oa, ρ, e, h⟩ := h
  refine lift_then (P := fun c H => PQ X.K c H Q) e h (fun st p => p.later st) fun w v H1 d1 _ r1 e1 h1 => ?_
  exact hs _ d1 H1 w v Q _ e1.wd r1 h1
end
@[irreducible] def strOk (x : Str) : Bool := decide (x.length ≤ 16777216)
def truW : W → T Bool
  | .non => .ok false
  | .bl b => .ok b
  | .int i => .ok (i != 0)
  | .str y => if strOk y then .ok ((y.length : Int) != 0) else .bad
  | .tup ws => .ok !ws.isEmpty
  | .lst ws => .ok !ws.isEmpty
  | .dct ks _ => .ok !ks.isEmpty
  | _ => .bad
/-- a bool alone -/
def blW : W → T Bool
  | .bl b => .ok b
  | _ => .bad
def fTru (fa : En → T W) : En → T Bool := fun ρ => (fa ρ).bind truW
def fBl (fa : En → T W) : En → T Bool := fun ρ => (fa ρ).bind blW
theorem RepL.empty {K : PySem.W.Frag} {c : Cc} {H : Hp} {ws : List W} {vs : List V} (r : RepL K c H ws vs) : (!ws.isEmpty) = !vs.isEmpty := by
  cases r <;> rfl
section
variable {X : Cx} {E : WX} {a b cc : Expr} {fa fb fc : En → T W} {ta tb : En → T Bool} {g g' : W → W → T W} {r r' : R2} {pos : Pos} {rest : List Expr}
def fNot (ta : En → T Bool) : En → T Bool := fun ρ => (ta ρ).bind fun b => .ok !b
def fAnd (ta tb : En → T Bool) : En → T Bool := fun ρ => (ta ρ).bind fun b => if b then tb ρ else .ok false
def fOr (ta tb : En → T Bool) : En → T Bool := fun ρ => (ta ρ).bind fun b => if b then .ok true else tb ρ
def fAndV (fa fb : En → T W) : En → T W := fun ρ => (fa ρ).bind fun x => match x with
  | .bl true => fb ρ
  | .bl false => .ok (.bl false)
  | _ => .bad
def fOrV (fa fb : En → T W) : En → T W := fun ρ => (fa ρ).bind fun x => match x with
  | .bl false => fb ρ
  | .bl true => .ok (.bl true)
  | _ => .bad
def fNotV (fa : En → T W) : En → T W := fun ρ => (fa ρ).bind fun x => match x with
  | .bl b => .ok (.bl !b)
  | _ => .bad
def fIf (t : En → T Bool) (fa fb : En → T W) : En → T W := fun ρ => (t ρ).bind fun b => if b then fa ρ else fb ρ
end
def fNil : En → T (List W) := fun _ => .ok []
def fCons (fa : En → T W) (fs : En → T (List W)) : En → T (List W) := fun ρ => (fa ρ).bind fun x => (fs ρ).bind fun xs => .ok (x :: xs)
@[irreducible] def sizeOk (ws : List W) : Bool := decide (ws.length ≤ 16777216)
def mkTup (ws : List W) : T W := if sizeOk ws then .ok (.tup ws) else .bad
def mkLst (ws : List W) : T W := if sizeOk ws then .ok (.lst ws) else .bad
def fL (fs : En → T (List W)) (g : List W → T W) : En → T W := fun ρ => (fs ρ).bind g
def SpF (K : PySem.W.Frag) (F : List W → T W) : Sp := fun vs H Q E => ∃ c d ws, (c.T = tabL K ∧ c.K = K) ∧ Wd c d H ∧ RepL K c H ws vs ∧ (F ws).AllW (PQ K c H Q) (PX K c H E) d
end PF
namespace PF
open PySem PySem.Spec PyProof.Rows L2
structure Fwd (K : PySem.W.Frag) (c : Cc) (H : Hp) (c' : Cc) (H' : Hp) : Prop where
  S : c'.S = c.S
  ca : c'.ca = c.ca
  la : c'.la = c.la
  T : c'.T = c.T
  C : c'.C = c.C
  KK : c'.K = c.K
  O : c.O <+: c'.O
  sub : ∀ b ∈ c.A, b ∉ c.M → b ∈ c'.A
  fr : ∀ b ∈ c'.M, b ∈ c.M ∨ (b ∉ c.A ∧ b ≠ c.S ∧ b ≠ c.la ∧ H b = none)
  step : ∀ b o, H b = some o → b ≠ c.S → b ≠ c.la → b ∉ c.M → NoT o → H' b = some o
  tbl : ∀ b ps, H b = some (.tbl ps) → b ∉ c.M → ∃ more, H' b = some (.tbl (ps ++ more))
  rep : ∀ w v, Rep K c H w v → Rep K c' H' w v
  sq : ∀ a vs, SqT K H a vs → SqT K H' a vs
  ins : ∀ b C dx fs, H b = some (.ins C dx fs) → b ∉ c.M → ∃ gs, H' b = some (.ins C dx gs)
section
variable {K : PySem.W.Frag} {c c1 c2 : Cc} {d : Dw} {H H1 H2 : Hp}
theorem Fwd.refl : Fwd K c H c H := ⟨rfl, rfl, rfl, rfl, rfl, rfl, List.prefix_rfl, fun _ h _ => h, fun _ h => .inl h, fun _ _ h _ _ _ _ => h, fun _ ps h _ => ⟨#[], by rw [h]; simp⟩, fun _ _ h => h, fun _ _ h => h, fun _ _ _ fs h _ => ⟨fs, h⟩⟩
theorem Step.to (st : Step c1 H1 H2) (hS : c1.S = c.S) (hl : c1.la = c.la) : Step c H1 H2 := ⟨fun b o e h1 h2 h3 => st.keep b o e (by rw [hS]; exact h1) (by rw [hl]; exact h2) h3, st.tbl, st.ins⟩
theorem Fwd.there {b : Addr} {o : HO} (f : Fwd K c H c1 H1) (h : H b = some o) (h1 : b ≠ c.S) (h2 : b ≠ c.la) (n : b ∉ c.M) : ∃ o', H1 b = some o' := by
  cases o with
  | tbl ps =>
    obtain ⟨m, e⟩ := f.tbl b ps h n
    exact ⟨_, e⟩
  | ins C dx fs =>
    obtain ⟨gs, e⟩ := f.ins b C dx fs h n
    exact ⟨_, e⟩
  | _ => exact ⟨_, f.step b _ h h1 h2 n nofun⟩
theorem Fwd.trans (a : Fwd K c H c1 H1) (b : Fwd K c1 H1 c2 H2) : Fwd K c H c2 H2 where
  S := b.S.trans a.S
  ca := b.ca.trans a.ca
  la := b.la.trans a.la
  T := b.T.trans a.T
  C := b.C.trans a.C
  KK := b.KK.trans a.KK
  O := a.O.trans b.O
  sub := fun x h n => b.sub x (a.sub x h n) fun z => by
    rcases a.fr x z with z | z
    · exact n z
    · exact z.1 h
  fr := fun x h => by
    rcases b.fr x h with z | ⟨z1, z2, z3, z4⟩
    · exact a.fr x z
    · rw [a.S] at z2
      rw [a.la] at z3
      by_cases hm : x ∈ c.M
      · exact .inl hm
      · refine .inr ⟨fun hA => z1 (a.sub x hA hm), z2, z3, ?_⟩
        cases hx : H x with
        | none => rfl
        | some o =>
          obtain ⟨o', e⟩ := a.there hx z2 z3 hm
          rw [e] at z4
          cases z4
  step := fun x o h h1 h2 n nt => b.step x o (a.step x o h h1 h2 n nt) (by rw [a.S]; exact h1) (by rw [a.la]; exact h2) (fun z => by
    rcases a.fr x z with z | z
    · exact n z
    · rw [h] at z
      cases z.2.2.2) nt
  tbl := fun x ps h n => by
    obtain ⟨m, e1⟩ := a.tbl x ps h n
    obtain ⟨m', e2⟩ := b.tbl x _ e1 (fun z => by
      rcases a.fr x z with z | z
      · exact n z
      · rw [h] at z
        cases z.2.2.2)
    exact ⟨m ++ m', by rw [e2, Array.append_assoc]⟩
  rep := fun w v h => b.rep w v (a.rep w v h)
  sq := fun x vs h => b.sq x vs (a.sq x vs h)
  ins := fun x C dx fs h n => by
    obtain ⟨gs, e1⟩ := a.ins x C dx fs h n
    exact b.ins x C dx gs e1 (fun z => by
      rcases a.fr x z with z | z
      · exact n z
      · rw [h] at z
        cases z.2.2.2)
theorem Fwd.of (st : SG c c1 H H1) (wd : Wd c d H) : Fwd K c H c1 H1 where
  S := st.g.S
  ca := st.g.ca
  la := st.g.la
  T := st.g.T
  C := st.g.C
  KK := st.g.KK
  O := st.g.O
  sub := fun b h _ => by
    rw [st.g.A]
    exact h
  fr := fun b h => by
    rw [st.g.M] at h
    exact .inl h
  step := fun b o h h1 h2 _ nt => st.st.keep b o h h1 h2 nt
  tbl := fun b ps h _ => st.st.tbl b ps h
  rep := fun _ _ h => h.step st wd.st wd.ok
  sq := fun _ _ h => st.st.sqT wd.st h
  ins := fun b C dx fs h _ => st.st.ins b C dx fs h
mutual
theorem Rep.weak0 (hS : c1.S = c.S) (hC : c1.C = c.C) (hO : c1.O = c.O) (sub : ∀ b ∈ c.A, b ∈ c1.A) : ∀ {w : W} {v : V}, Rep K c1 H w v → Rep K c H w v
  | _, _, .non => .non
  | _, _, .bl b => .bl b
  | _, _, .int i => .int i
  | _, _, .str x => .str x
  | _, _, .tup h r => .tup h (RepL.weak0 hS hC hO sub r)
  | _, _, .lst n h r => .lst (fun z => n (sub _ z)) h (RepL.weak0 hS hC hO sub r)
  | _, _, .dct n h r => .dct (fun z => n (sub _ z)) h (RepL.weak0 hS hC hO sub r)
  | _, _, .scr h => .scr (h.imp (fun ⟨n, r⟩ => ⟨fun z => n (sub _ z), r⟩) id)
  | _, _, .stt => by rw [hS]; exact .stt
  | _, _, .lam h => .lam (by rw [← hC]; exact h)
  | _, _, .clo h g n k pl r => .clo h g n k pl (RepL.weak0 hS hC hO sub r)
  | _, _, .exo h1 h2 h3 r => .exo h1 h2 h3 (RepL.weak0 hS hC hO sub r)
  | _, _, .exn h1 => .exn h1
  | _, _, .key h => .key h
  | _, _, .obj h => .obj (by rw [← hO]; exact h)
  | _, _, .dcu n h r => .dcu (fun z => n (sub _ z)) h (RepL.weak0 hS hC hO sub r)
  | _, _, .ptp n h hd r => .ptp (fun z => n (sub _ z)) h hd (RepL.weak0 hS hC hO sub r)
theorem RepL.weak0 (hS : c1.S = c.S) (hC : c1.C = c.C) (hO : c1.O = c.O) (sub : ∀ b ∈ c.A, b ∈ c1.A) : ∀ {ws : List W} {vs : List V}, RepL K c1 H ws vs → RepL K c H ws vs
  | _, _, .nil => .nil
  | _, _, .cons h r => .cons (Rep.weak0 hS hC hO sub h) (RepL.weak0 hS hC hO sub r)
end
theorem Rep.weak (hS : c1.S = c.S) (hC : c1.C = c.C) (sub : ∀ b ∈ c.A, b ∈ c1.A) {w : W} {v : V} (h : Rep K c1 H w v) (hO : c1.O = c.O := by rfl) : Rep K c H w v := Rep.weak0 hS hC hO sub h
theorem RepL.weak (hS : c1.S = c.S) (hC : c1.C = c.C) (sub : ∀ b ∈ c.A, b ∈ c1.A) {w : List W} {v : List V} (h : RepL K c1 H w v) (hO : c1.O = c.O := by rfl) : RepL K c H w v := RepL.weak0 hS hC hO sub h
theorem RepL.fwd (f : Fwd K c H c1 H1) : ∀ {ws : List W} {vs : List V}, RepL K c H ws vs → RepL K c1 H1 ws vs
  | _, _, .nil => .nil
  | _, _, .cons h r => .cons (f.rep _ _ h) (RepL.fwd f r)
theorem Fwd.sqT {a : Addr} {vs : List V} (f : Fwd K c H c1 H1) (wd : Wd c d H) (h : SqT K H a vs) : SqT K H1 a vs := f.sq a vs h
end
inductive Fl where
  | nx | rt (w : W) | bk | ct | rn (ws : List W)
def PSq (K : PySem.W.Frag) (Γ : Cl) (c : Cc) (H : Hp) (D : Ends) : Dw → Fl × En → Prop := fun d x => ∀ c' oa' σ' H', Fwd K c H c' H' → EnvOk K Γ c' d oa' x.2 σ' H' → match x.1 with
  | .nx => D.nx σ' H'
  | .bk => D.bk σ' H'
  | .ct => D.ct σ' H'
  | .rt w => ∀ v, Rep K c' H' w v → D.rt v H'
  | .rn ws => ∀ p vs, p ∈ c'.M → H' p = some (.lst vs) → RepL K c' H' ws vs → D.rt (.ref p) H'
theorem PSq.later {K : PySem.W.Frag} {c c1 : Cc} {H H1 : Hp} {D : Ends} {d : Dw} {x : Fl × En} (f : Fwd K c H c1 H1) (h : PSq K Γ c H D d x) : PSq K Γ c1 H1 D d x := fun c' oa' σ' H' g e => h c' oa' σ' H' (f.trans g) e
/-- what is wanted of an error that leaves a statement -/
def PXs (K : PySem.W.Frag) (c : Cc) (H : Hp) (E : XK) : Dw → Nat → List W → Prop := fun d n fs => ∀ c' cls dx H', Fwd K c H c' H' → StOk c' d H' → RepX K c' H' n fs cls dx → E cls dx H'
theorem PXs.fwd {K : PySem.W.Frag} {c c1 : Cc} {H H1 : Hp} {E : XK} {d : Dw} {n : Nat} {fs : List W} (f : Fwd K c H c1 H1) (h : PXs K c H E d n fs) : PXs K c1 H1 E d n fs := fun c' cls dx H' g so r => h c' cls dx H' (f.trans g) so r
theorem PXs.later {K : PySem.W.Frag} {c c1 : Cc} {d0 : Dw} {H H1 : Hp} {E : XK} {d : Dw} {n : Nat} {fs : List W} (wd : Wd c d0 H) (st : SG c c1 H H1) (h : PXs K c H E d n fs) : PXs K c1 H1 E d n fs := h.fwd (.of st wd)
section
variable {K : PySem.W.Frag} {c : Cc} {d : Dw} {oa : Nat → Addr} {ρ : En} {σ : St} {H : Hp}
theorem getElem?_set_or {α : Type} {l : List α} {i j : Nat} {a x : α} (h : (l.set i a)[j]? = some x) : (j = i ∧ x = a) ∨ (j ≠ i ∧ l[j]? = some x) := by
  by_cases e : i = j
  · subst e
    by_cases hl : i < l.length
    · rw [List.getElem?_set_self hl] at h
      exact .inl ⟨rfl, (Option.some.inj h).symm⟩
    · rw [List.getElem?_eq_none (by simpa using hl)] at h
      cases h
  · rw [List.getElem?_set_ne e] at h
    exact .inr ⟨fun z => e z.symm, h⟩
theorem EnvOk.set {i : Nat} {w : W} {v : V} (e : EnvOk K Γ c d oa ρ σ H) (r : Rep K c H w v) : EnvOk K Γ c d oa (ρ.set i (.val w)) (σ.set i (some v)) H where
  ok := e.ok
  st := e.st
  av := e.av
  len := by rw [List.length_set, List.length_set]; exact e.len
  val := fun j x h => by
    rcases getElem?_set_or h with ⟨ej, ex⟩ | ⟨n, h'⟩
    · cases ex
      subst ej
      refine ⟨v, ?_, r⟩
      have hl : j < ρ.length := by
        by_cases hl : j < ρ.length
        · exact hl
        · rw [List.getElem?_eq_none (by simpa using hl)] at h
          cases h
      rw [List.getElem?_set_self (by rw [← e.len]; exact hl)]
    · obtain ⟨u, h1, h2⟩ := e.val j x h'
      exact ⟨u, by rw [List.getElem?_set_ne (Ne.symm n)]; exact h1, h2⟩
  m := e.m
  own := fun j x h => by
    rcases getElem?_set_or h with ⟨ej, ex⟩ | ⟨n, h'⟩
    · cases ex
    · obtain ⟨h1, h3, h4⟩ := e.own j x h'
      exact ⟨h1, by rw [List.getElem?_set_ne (Ne.symm n)]; exact h3, h4⟩
  inj := fun a b x y h1 h2 => by
    rcases getElem?_set_or h1 with ⟨ej, ex⟩ | ⟨n1, h1'⟩
    · cases ex
    · rcases getElem?_set_or h2 with ⟨ej, ex⟩ | ⟨n2, h2'⟩
      · cases ex
      · exact e.inj a b x y h1' h2'
  odc := fun j x h => by
    rcases getElem?_set_or h with ⟨ej, ex⟩ | ⟨n, h'⟩
    · cases ex
    · obtain ⟨h1, h3, h4⟩ := e.odc j x h'
      exact ⟨h1, by rw [List.getElem?_set_ne (Ne.symm n)]; exact h3, h4⟩
  ido := fun a b x y h1 h2 => by
    rcases getElem?_set_or h1 with ⟨ej, ex⟩ | ⟨n1, h1'⟩
    · cases ex
    · rcases getElem?_set_or h2 with ⟨ej, ex⟩ | ⟨n2, h2'⟩
      · cases ex
      · exact e.ido a b x y h1' h2'
  odt := fun j x h => by
    rcases getElem?_set_or h with ⟨ej, ex⟩ | ⟨n, h'⟩
    · cases ex
    · obtain ⟨h1, h3, h4⟩ := e.odt j x h'
      exact ⟨h1, by rw [List.getElem?_set_ne (Ne.symm n)]; exact h3, h4⟩
  idt := fun a b x y h1 h2 => by
    rcases getElem?_set_or h1 with ⟨ej, ex⟩ | ⟨n1, h1'⟩
    · cases ex
    · rcases getElem?_set_or h2 with ⟨ej, ex⟩ | ⟨n2, h2'⟩
      · cases ex
      · exact e.idt a b x y h1' h2'
  lk := e.lk.set0 i rfl nofun nofun nofun
  tT := e.tT
  cC := e.cC
  kK := e.kK
end
def sNil : En → T (Fl × En) := fun ρ => .ok (.nx, ρ)
def sSeq (g h : En → T (Fl × En)) : En → T (Fl × En) := fun ρ => (g ρ).bind fun x => match x with
  | (.nx, ρ') => h ρ'
  | x => .ok x
def sRet (f : En → T W) : En → T (Fl × En) := fun ρ => (f ρ).bind fun w => .ok (.rt w, ρ)
def sRetN : En → T (Fl × En) := fun ρ => .ok (.rt .non, ρ)
def sExpr (f : En → T W) : En → T (Fl × En) := fun ρ => (f ρ).bind fun _ => .ok (.nx, ρ)
def sSet (i : Nat) (f : En → T W) : En → T (Fl × En) := fun ρ => (f ρ).bind fun w => .ok (.nx, ρ.set i (.val w))
def sIf (t : En → T Bool) (g h : En → T (Fl × En)) : En → T (Fl × En) := fun ρ => (t ρ).bind fun b => if b then g ρ else h ρ
def sNever : En → T (Fl × En) := fun _ => .bad
def sPar (i j : Nat) (fs : En → T (List W)) : En → T (Fl × En) := fun ρ => (fs ρ).bind fun xs => match xs with
  | [x, y] => .ok (.nx, (ρ.set i (.val x)).set j (.val y))
  | _ => .bad
end PF
namespace PF
open PySem PySem.Spec PyProof.Rows L2
/-- the slots at ns alone may have changed -/
def ButAt (ns : List Nat) (σ σ' : St) : Prop := σ'.length = σ.length ∧ ∀ j : Nat, j ∉ ns → σ'[j]? = σ[j]?
theorem ButAt.trans {ns ms : List Nat} {σ σ1 σ2 : St} (a : ButAt ns σ σ1) (b : ButAt ms σ1 σ2) : ButAt (ns ++ ms) σ σ2 := ⟨b.1.trans a.1, fun j h => by
  rw [List.mem_append, not_or] at h
  rw [b.2 j h.2, a.2 j h.1]⟩
def goName (i : Nat) : W → En → Option En := fun w ρ => some (ρ.set i (.val w))
/-- target = value, for any target -/
def sAsg (f : En → T W) (G : W → En → Option En) : En → T (Fl × En) := fun ρ => (f ρ).bind fun w => match G w ρ with
  | some ρ' => .ok (.nx, ρ')
  | none => .bad
/-- the iterator J yields ws, as long as the world goes on -/
def ItOk (K : PySem.W.Frag) (c : Cc) (H : Hp) (J : It) (ws : List W) : Prop := ∀ (c' : Cc) (H' : Hp) (d' : Dw) (i : Nat), Fwd K c H c' H' → Wd c' d' H' →
  (∀ w, ws[i]? = some w → J.go i H' ∧ ∀ x H2, J.yld i H' x H2 → SG c' c' H' H2 ∧ StOk c' d' H2 ∧ Rep K c' H2 w x) ∧ (ws.length ≤ i → J.stop i H')
def PJ (K : PySem.W.Frag) (c : Cc) (H : Hp) (R : It → Hp → Prop) : Dw → List W → Prop := fun d ws => ∀ ⦃c' : Cc⦄ J H1, SG c c' H H1 → StOk c' d H1 → ItOk K c' H1 J ws → R J H1
theorem PJ.later {K : PySem.W.Frag} {c c1 : Cc} {H H1 : Hp} {R : It → Hp → Prop} {d : Dw} {ws : List W} (s : SG c c1 H H1) (h : PJ K c H R d ws) : PJ K c1 H1 R d ws := fun _ J H' st so r => h J H' (s.trans st) so r
def iOf (g : W → T (List W)) (f : En → T W) : En → T (List W) := fun ρ => (f ρ).bind g
@[irreducible] def rngOk (n : Int) : Bool := decide (n.natAbs.log2 < 61)
def iL (g : List W → T (List W)) (f : En → T (List W)) : En → T (List W) := fun ρ => (f ρ).bind g
def forL (G : W → En → Option En) (gb : En → T (Fl × En)) : List W → En → T (Fl × En)
  | [], ρ => .ok (.nx, ρ)
  | w :: ws, ρ => match G w ρ with
    | none => .bad
    | some ρ1 => (gb ρ1).bind fun x => match x with
      | (.nx, ρ2) => forL G gb ws ρ2
      | (.ct, ρ2) => forL G gb ws ρ2
      | (.bk, ρ2) => .ok (.nx, ρ2)
      | (.rt w, ρ2) => .ok (.rt w, ρ2)
      | (.rn ws, ρ2) => .ok (.rn ws, ρ2)
def sFor (fi : En → T (List W)) (G : W → En → Option En) (gb : En → T (Fl × En)) : En → T (Fl × En) := fun ρ => (fi ρ).bind fun ws => forL G gb ws ρ
end PF
namespace PF
open PySem PySem.Spec PyProof.Rows L2
abbrev Cc.more (c : Cc) (D : Addr) : Cc := { c with A := D :: c.A }
section
variable {K : PySem.W.Frag} {c : Cc} {d : Dw} {oa : Nat → Addr} {ρ : En} {σ : St} {H H' : Hp} {D : Addr}
mutual
theorem Rep.more (n : H D = none) (st : Step c H H') (s : StOk c d H) (ok : CcOk c) : ∀ {w : W} {v : V}, Rep K c H w v → Rep K (c.more D) H' w v
  | _, _, .non => .non
  | _, _, .bl b => .bl b
  | _, _, .int i => .int i
  | _, _, .str x => .str x
  | _, _, .tup h r => .tup (st.sqT s h) (RepL.more n st s ok r)
  | _, _, .lst m h r => .lst (by
      simp only [List.mem_cons, not_or]
      exact ⟨ne_of_none h n, m⟩) (st.lst ok m h) (RepL.more n st s ok r)
  | _, _, .dct m h r => .dct (by
      simp only [List.mem_cons, not_or]
      exact ⟨ne_of_none h n, m⟩) (st.lst ok m h) (RepL.more n st s ok r)
  | _, _, .scr h => .scr (by
      rcases h with ⟨m, r⟩ | h
      · refine .inl ⟨?_, r.imp (fun e => st.lst ok m e) fun ⟨o, e⟩ => ⟨o, st.lst ok m e⟩⟩
        simp only [List.mem_cons, not_or]
        refine ⟨?_, m⟩
        rcases r with r | ⟨o, r⟩
        · exact ne_of_none r n
        · exact ne_of_none r n
      · exact .inr h)
  | _, _, .stt => .stt
  | _, _, .lam h => .lam (h.kp (st.kp s))
  | _, _, .clo h g m k pl r => .clo (h.kp (st.kp s)) g m (k.kp (st.kp s)) pl (RepL.more n st s ok r)
  | _, _, .exo h1 h2 h3 r => .exo ((st.kp s).ext _ _ h1) ((st.kp s).xd _ _ h2) h3 (RepL.more n st s ok r)
  | _, _, .exn h1 => .exn ((st.kp s).ext _ _ h1)
  | _, _, .key h => .key (by
      obtain ⟨kvs, hS⟩ := s.S
      obtain ⟨xs, hl⟩ := s.la
      exact st.keep _ _ h (ne_of h hS nofun) (ne_of h hl nofun) nofun)
  | _, _, .obj h => .obj h
  | _, _, .dcu m h r => .dcu (by
      simp only [List.mem_cons, not_or]
      exact ⟨ne_of_none h n, m⟩) (st.lst ok m h) (RepL.more n st s ok r)
  | _, _, .ptp m h hd r => .ptp (by
      simp only [List.mem_cons, not_or]
      exact ⟨ne_of_none h n, m⟩) (st.lst ok m h) hd (RepL.more n st s ok r)
theorem RepL.more (n : H D = none) (st : Step c H H') (s : StOk c d H) (ok : CcOk c) : ∀ {ws : List W} {vs : List V}, RepL K c H ws vs → RepL K (c.more D) H' ws vs
  | _, _, .nil => .nil
  | _, _, .cons h r => .cons (Rep.more n st s ok h) (RepL.more n st s ok r)
end
theorem Fwd.more (n : H D = none) (st : Step c H H') (wd : Wd c d H) : Fwd K c H (c.more D) H' := ⟨rfl, rfl, rfl, rfl, rfl, rfl, List.prefix_rfl, fun b h _ => List.mem_cons_of_mem _ h, fun _ h => .inl h, fun b o h h1 h2 _ nt => st.keep b o h h1 h2 nt, fun b ps h _ => st.tbl b ps h, fun w v r => r.more n st wd.st wd.ok, fun _ _ h => st.sqT wd.st h, fun b C dx fs h _ => st.ins b C dx fs h⟩
theorem CcOk.more (ok : CcOk c) : CcOk (c.more D) := ⟨List.mem_cons_of_mem _ ok.inS, List.mem_cons_of_mem _ ok.inla, List.mem_cons_of_mem _ ok.inca⟩
theorem StOk.more {o : HO} (s : StOk c d H) (n : H D = none) : StOk (c.more D) d (upd H D o) := ⟨s.1.new n, s.2.same s.2.ok.more rfl rfl (fun a C dx fl h => by rw [upd_ne (ne_of_none h n)]; exact h) fun ws vs r => r.more n (.new n) s s.2.ok⟩
/-- an object of the frame's own is laid -/
theorem EnvOk.more {o : HO} (e : EnvOk K Γ c d oa ρ σ H) (n : H D = none) (ow : OwnO o := by first | exact .inl ⟨_, rfl⟩ | exact .inr (.inl ⟨_, rfl⟩) | exact .inr (.inr ⟨_, rfl⟩)) : EnvOk K Γ (c.more D) d oa ρ σ (upd H D o) where
  ok := ⟨List.mem_cons_of_mem _ e.ok.inS, List.mem_cons_of_mem _ e.ok.inla, List.mem_cons_of_mem _ e.ok.inca⟩
  st := e.st.more n
  av := fun b hb => by
    rcases List.mem_cons.mp hb with rfl | hb
    · exact ⟨_, upd_same, ow⟩
    · exact (e.wd.new n).av b hb
  len := e.len
  val := fun i w h => by
    obtain ⟨v, h1, h2⟩ := e.val i w h
    exact ⟨v, h1, h2.more n (.new n) e.st e.ok⟩
  m := ⟨fun b hb => List.mem_cons_of_mem _ (e.m.inA b hb), e.m.nst, fun b hb => by
    obtain ⟨o', h, w⟩ := e.m.ls b hb
    exact ⟨o', by rw [upd_ne (ne_of_none h n)]; exact h, w⟩⟩
  own := fun i ws h => by
    obtain ⟨h1, h3, vs, h4, h5⟩ := e.own i ws h
    exact ⟨h1, h3, vs, by rw [upd_ne (ne_of_none h4 n)]; exact h4, h5.more n (.new n) e.st e.ok⟩
  inj := e.inj
  odc := fun i ws h => by
    obtain ⟨h1, h3, vs, h4, h5⟩ := e.odc i ws h
    exact ⟨h1, h3, vs, by rw [upd_ne (ne_of_none h4 n)]; exact h4, h5.1, h5.2.more n (.new n) e.st e.ok⟩
  ido := e.ido
  odt := fun i ws h => by
    obtain ⟨h1, h3, vs, h4, h5⟩ := e.odt i ws h
    exact ⟨h1, h3, vs, by rw [upd_ne (ne_of_none h4 n)]; exact h4, h5.1, h5.2.more n (.new n) e.st e.ok⟩
  idt := e.idt
  lk := e.lk.at_ (fun _ _ r => r.more n (.new n) e.st e.ok) (fun m => m) fun _ ⟨_, h, _⟩ => ne_of_none h n
  tT := e.tT
  cC := e.cC
  kK := e.kK
theorem sqT_upd {a : Addr} {vs : List V} {o u : HO} (hl : H D = some o) (nt : ∀ xs, o ≠ .tup xs) (nf : ∀ b u, o ≠ .frz b u) (h : SqT K H a vs) : SqT K (upd H D u) a vs := by
  rcases h with (h | ⟨b, h⟩) | h
  · exact .inl (.inl (by rw [upd_ne (ne_of h hl (Ne.symm (nt _)))]; exact h))
  · exact .inl (.inr ⟨b, by rw [upd_ne (ne_of h hl (Ne.symm (nf _ _)))]; exact h⟩)
  · exact .inr h
theorem kp_upd {o u : HO} (hl : H D = some o) (nx : (∀ φ, o ≠ .ext φ) ∧ ∀ fs, o ≠ .xd fs) : Kp H (L2.upd H D u) := ⟨fun b φ h => by rw [upd_ne (ne_of h hl (Ne.symm (nx.1 _)))]; exact h, fun b φ h => by rw [upd_ne (ne_of h hl (Ne.symm (nx.2 _)))]; exact h⟩
mutual
theorem Rep.upd {o u : HO} (hA : D ∈ c.A) (hl : H D = some o) (nt : ∀ xs, o ≠ .tup xs) (nf : ∀ b u, o ≠ .frz b u) (nx : (∀ φ, o ≠ .ext φ) ∧ ∀ fs, o ≠ .xd fs := by exact ⟨nofun, nofun⟩) : ∀ {w : W} {v : V}, Rep K c H w v → Rep K c (L2.upd H D u) w v
  | _, _, .non => .non
  | _, _, .bl b => .bl b
  | _, _, .int i => .int i
  | _, _, .str x => .str x
  | _, _, .tup h r => .tup (sqT_upd hl nt nf h) (RepL.upd hA hl nt nf nx r)
  | _, _, .lst m h r => .lst m (by rw [upd_ne (fun z => m (by rw [z]; exact hA))]; exact h) (RepL.upd hA hl nt nf nx r)
  | _, _, .dct m h r => .dct m (by rw [upd_ne (fun z => m (by rw [z]; exact hA))]; exact h) (RepL.upd hA hl nt nf nx r)
  | _, _, .scr h => .scr (by
      rcases h with ⟨m, r⟩ | h
      · have ne : ∀ b, b ∉ c.A → b ≠ D := fun b hb z => hb (by rw [z]; exact hA)
        exact .inl ⟨m, r.imp (fun e => by rw [upd_ne (ne _ m)]; exact e) fun ⟨o, e⟩ => ⟨o, by rw [upd_ne (ne _ m)]; exact e⟩⟩
      · exact .inr h)
  | _, _, .stt => .stt
  | _, _, .lam h => .lam (h.kp (kp_upd hl nx))
  | _, _, .clo h g m k pl r => .clo (h.kp (kp_upd hl nx)) g m (k.kp (kp_upd hl nx)) pl (RepL.upd hA hl nt nf nx r)
  | _, _, .exo h1 h2 h3 r => .exo ((kp_upd hl nx).ext _ _ h1) ((kp_upd hl nx).xd _ _ h2) h3 (RepL.upd hA hl nt nf nx r)
  | _, _, .exn h1 => .exn ((kp_upd hl nx).ext _ _ h1)
  | _, _, .key h => .key (by rw [upd_ne (ne_of h hl (Ne.symm (nt _)))]; exact h)
  | _, _, .obj h => .obj h
  | _, _, .dcu m h r => .dcu m (by rw [upd_ne (fun z => m (by rw [z]; exact hA))]; exact h) (RepL.upd hA hl nt nf nx r)
  | _, _, .ptp m h hd r => .ptp m (by rw [upd_ne (fun z => m (by rw [z]; exact hA))]; exact h) hd (RepL.upd hA hl nt nf nx r)
theorem RepL.upd {o u : HO} (hA : D ∈ c.A) (hl : H D = some o) (nt : ∀ xs, o ≠ .tup xs) (nf : ∀ b u, o ≠ .frz b u) (nx : (∀ φ, o ≠ .ext φ) ∧ ∀ fs, o ≠ .xd fs := by exact ⟨nofun, nofun⟩) : ∀ {ws : List W} {vs : List V}, RepL K c H ws vs → RepL K c (L2.upd H D u) ws vs
  | _, _, .nil => .nil
  | _, _, .cons h r => .cons (Rep.upd hA hl nt nf nx h) (RepL.upd hA hl nt nf nx r)
end
theorem lst_noC {xs : List V} {p : Addr} (q : Str) : HO.lst xs ≠ LamX.CodeO p q := fun z => by
  unfold LamX.CodeO at z
  cases z
theorem StOk.upd {u : HO} {xs : List V} (s : StOk c d H) (hA : D ∈ c.A) (hn : D ∉ [c.S, c.ca, c.la]) (hl : H D = some (.lst xs)) : StOk c d (L2.upd H D u) := by
  obtain ⟨⟨cells, lefts, k, r, h1, h2, h3, h4, h5, h6, h7, h8, h9⟩, ob⟩ := s
  simp only [List.mem_cons, not_or, List.not_mem_nil, not_false_eq_true, and_true] at hn
  exact ⟨⟨cells, lefts, k, r, by rw [upd_ne (Ne.symm hn.1)]; exact h1, by rw [upd_ne (Ne.symm hn.2.1)]; exact h2, by rw [upd_ne (Ne.symm hn.2.2)]; exact h3, h4, h5, h6, h7, h8, Tabs.upd h9 hl nofun lst_noC⟩,
    ob.same ob.ok rfl rfl (fun a C dx fl h => by rw [upd_ne (ne_of h hl nofun)]; exact h) fun ws vs r => r.upd hA hl (fun _ z => by cases z) (fun _ _ z => by cases z)⟩
theorem EnvOk.upd {xs ys : List V} (e : EnvOk K Γ c d oa ρ σ H) (hA : D ∈ c.A) (hn : D ∉ [c.S, c.ca, c.la]) (hl : H D = some (.lst xs)) (ho : ∀ (i : Nat) (ws : List W), ρ[i]? = some (.own ws) → oa i ≠ D) : EnvOk K Γ c d oa ρ σ (L2.upd H D (.lst ys)) where
  ok := e.ok
  st := e.st.upd hA hn hl
  av := fun b hb => by
    by_cases hb' : b = D
    · rw [hb']
      exact ⟨_, upd_same, .inl ⟨_, rfl⟩⟩
    · obtain ⟨o, h, w⟩ := e.av b hb
      exact ⟨o, by rw [upd_ne hb']; exact h, w⟩
  len := e.len
  val := fun i w h => by
    obtain ⟨v, h1, h2⟩ := e.val i w h
    exact ⟨v, h1, h2.upd hA hl (fun _ z => by cases z) (fun _ _ z => by cases z)⟩
  m := ⟨e.m.inA, e.m.nst, fun b hb => by
    by_cases hb' : b = D
    · rw [hb']
      exact ⟨_, upd_same, .inl ⟨_, rfl⟩⟩
    · obtain ⟨xs, h, w⟩ := e.m.ls b hb
      exact ⟨xs, by rw [upd_ne hb']; exact h, w⟩⟩
  own := fun i ws h => by
    obtain ⟨h1, h3, vs, h4, h5⟩ := e.own i ws h
    exact ⟨h1, h3, vs, by rw [upd_ne (ho i ws h)]; exact h4, h5.upd hA hl (fun _ z => by cases z) (fun _ _ z => by cases z)⟩
  inj := e.inj
  odc := fun i ws h => by
    obtain ⟨h1, h3, vs, h4, h5⟩ := e.odc i ws h
    have ne : oa i ≠ D := fun z => by
      rw [z, hl] at h4
      cases h4
    exact ⟨h1, h3, vs, by rw [upd_ne ne]; exact h4, h5.1, h5.2.upd hA hl (fun _ z => by cases z) (fun _ _ z => by cases z)⟩
  ido := e.ido
  odt := fun i ws h => by
    obtain ⟨h1, h3, vs, h4, h5⟩ := e.odt i ws h
    have ne : oa i ≠ D := fun z => by
      rw [z, hl] at h4
      cases h4
    exact ⟨h1, h3, vs, by rw [upd_ne ne]; exact h4, h5.1, h5.2.upd hA hl (fun _ z => by cases z) (fun _ _ z => by cases z)⟩
  idt := e.idt
  lk := e.lk.at_ (fun _ _ r => r.upd hA hl (fun _ z => by cases z) (fun _ _ z => by cases z)) (fun m => m) fun _ ⟨_, h, w⟩ => ne_of h hl (w.notL _)
  tT := e.tT
  cC := e.cC
  kK := e.kK
end
def noX {α : Type} : T α → T α
  | .ok a => .ok a
  | .exc _ _ => .bad
  | .bad => .bad
  | .ask n k => .ask n fun i => noX (k i)
  | .get i k => .get i fun c fs => noX (k c fs)
  | .put i fs k => .put i fs (noX k)
  | .new c fs k => .new c fs fun i => noX (k i)
section
variable {K : PySem.W.Frag} {c : Cc} {d : Dw} {oa : Nat → Addr} {ρ : En} {σ : St} {H : Hp}
theorem EnvOk.un {v : Nat} (e : EnvOk K Γ c d oa ρ σ H) : EnvOk K Γ c d oa (ρ.set v .un) (σ.set v none) H where
  ok := e.ok
  st := e.st
  av := e.av
  len := by rw [List.length_set, List.length_set]; exact e.len
  val := fun j x h => by
    rcases getElem?_set_or h with ⟨ej, ex⟩ | ⟨n, h'⟩
    · cases ex
    · obtain ⟨u, h1, h2⟩ := e.val j x h'
      exact ⟨u, by rw [List.getElem?_set_ne (Ne.symm n)]; exact h1, h2⟩
  m := e.m
  own := fun j x h => by
    rcases getElem?_set_or h with ⟨ej, ex⟩ | ⟨n, h'⟩
    · cases ex
    · obtain ⟨h1, h3, h4⟩ := e.own j x h'
      exact ⟨h1, by rw [List.getElem?_set_ne (Ne.symm n)]; exact h3, h4⟩
  inj := fun a b x y h1 h2 => by
    rcases getElem?_set_or h1 with ⟨ej, ex⟩ | ⟨n1, h1'⟩
    · cases ex
    · rcases getElem?_set_or h2 with ⟨ej, ex⟩ | ⟨n2, h2'⟩
      · cases ex
      · exact e.inj a b x y h1' h2'
  odc := fun j x h => by
    rcases getElem?_set_or h with ⟨ej, ex⟩ | ⟨n, h'⟩
    · cases ex
    · obtain ⟨h1, h3, h4⟩ := e.odc j x h'
      exact ⟨h1, by rw [List.getElem?_set_ne (Ne.symm n)]; exact h3, h4⟩
  ido := fun a b x y h1 h2 => by
    rcases getElem?_set_or h1 with ⟨ej, ex⟩ | ⟨n1, h1'⟩
    · cases ex
    · rcases getElem?_set_or h2 with ⟨ej, ex⟩ | ⟨n2, h2'⟩
      · cases ex
      · exact e.ido a b x y h1' h2'
  odt := fun j x h => by
    rcases getElem?_set_or h with ⟨ej, ex⟩ | ⟨n, h'⟩
    · cases ex
    · obtain ⟨h1, h3, h4⟩ := e.odt j x h'
      exact ⟨h1, by rw [List.getElem?_set_ne (Ne.symm n)]; exact h3, h4⟩
  idt := fun a b x y h1 h2 => by
    rcases getElem?_set_or h1 with ⟨ej, ex⟩ | ⟨n1, h1'⟩
    · cases ex
    · rcases getElem?_set_or h2 with ⟨ej, ex⟩ | ⟨n2, h2'⟩
      · cases ex
      · exact e.idt a b x y h1' h2'
  lk := e.lk.set0 v rfl nofun nofun nofun
  tT := e.tT
  cC := e.cC
  kK := e.kK
end
section
variable {X : Cx} {E : WX} {elt tg iter : Expr} {ifs : List Expr} {scope : Scope} {own : List (Str × Nat)} {pos : Pos} {fi : En → T (List W)} {ns : List Nat} {G : W → En → Option En} {tt : En → T Bool} {fe : En → T W}
theorem Gr.back {c cm : Cc} {D : Addr} (g : Gr (c.more D) cm) : Gr c { cm with A := c.A } := ⟨g.S, g.ca, g.la, rfl, g.M, g.T, g.C, g.KK, g.O⟩
theorem ObAt.weak {K : PySem.W.Frag} {c c1 : Cc} {H : Hp} {a : Addr} {cl : Nat} {fs : List W} (h : ObAt K c1 H a cl fs) (hS : c1.S = c.S) (hC : c1.C = c.C) (hO : c1.O = c.O) (sub : ∀ b ∈ c.A, b ∈ c1.A) : ObAt K c H a cl fs := h.same rfl fun _ _ r => r.weak hS hC sub hO
theorem StOk.weak {c c1 : Cc} {d : Dw} {H : Hp} (s : StOk c1 d H) (hS : c1.S = c.S) (hca : c1.ca = c.ca) (hla : c1.la = c.la) (hT : c1.T = c.T) (hC : c1.C = c.C) (hK : c1.K = c.K) (hO : c1.O = c.O) (sub : ∀ b ∈ c.A, b ∈ c1.A) (ok : CcOk c) : StOk c d H := by
  obtain ⟨⟨cells, lefts, k, r, h1, h2, h3, h4, h5, h6, h7, h8, h9⟩, ob⟩ := s
  rw [hS, hca, hla] at h1
  rw [hca] at h2
  rw [hla] at h3
  rw [hca, hla] at h8
  rw [hT] at h9
  exact ⟨⟨cells, lefts, k, r, h1, h2, h3, h4, h5, h6, h7, h8, h9⟩, ok, by rw [← hO]; exact ob.len, by rw [← hO]; exact ob.nd, fun i a o q1 q2 => by
    rw [← hK]
    exact (ob.at_ i a o (by rw [hO]; exact q1) q2).weak hS hC hO sub, by rw [← hK]; exact ob.no⟩
theorem StOk.back {c cm : Cc} {d : Dw} {D : Addr} {H : Hp} (g : Gr (c.more D) cm) (ok : CcOk c) (s : StOk cm d H) : StOk { cm with A := c.A } d H := s.weak rfl rfl rfl rfl rfl rfl rfl (fun b hb => by rw [g.A]; exact List.mem_cons_of_mem _ hb) (ok.gr g.back)
theorem Fwd.gr {K : PySem.W.Frag} {c c1 c2 : Cc} {H H1 : Hp} (f : Fwd K c H c1 H1) (g : Gr c1 c2) : Fwd K c H c2 H1 where
  S := g.S.trans f.S
  ca := g.ca.trans f.ca
  la := g.la.trans f.la
  T := g.T.trans f.T
  C := g.C.trans f.C
  KK := g.KK.trans f.KK
  O := f.O.trans g.O
  sub := fun b h n => by
    rw [g.A]
    exact f.sub b h n
  fr := fun b h => by
    rw [g.M] at h
    exact f.fr b h
  step := f.step
  tbl := f.tbl
  rep := fun w v h => (f.rep w v h).gr g
  sq := f.sq
  ins := f.ins
def fYes : En → T Bool := fun _ => .ok true
end
/-- a frame begins with no list of its own -/
abbrev Cc.bare (c : Cc) : Cc := { c with M := [] }
/-- back to the caller's world, with the objects that came -/
abbrev Cc.wide (c : Cc) (c' : Cc) : Cc := { c with O := c'.O }
theorem Fwd.wide {K : PySem.W.Frag} {c c' : Cc} {H H' : Hp} (fw : Fwd K c.bare H c' H') : Gr c (c.wide c') := ⟨rfl, rfl, rfl, rfl, rfl, rfl, rfl, rfl, fw.O⟩
theorem StOk.to {K : PySem.W.Frag} {c c' : Cc} {d : Dw} {H H' : Hp} (so : StOk c' d H') (fw : Fwd K c.bare H c' H') (ok : CcOk c) : StOk (c.wide c') d H' := so.weak fw.S fw.ca fw.la fw.T fw.C fw.KK rfl (fun b hb => fw.sub b hb fun z => by cases z) (ok.gr fw.wide)
theorem Fwd.back {K : PySem.W.Frag} {c c' : Cc} {H H' : Hp} (fw : Fwd K c.bare H c' H') : SG c (c.wide c') H H' := ⟨fw.wide, fun b o hb h1 h2 h3 => fw.step b o hb h1 h2 (fun z => (by cases z)) h3, fun b ps hb => fw.tbl b ps hb fun z => (by cases z), fun b C dx fs hb => fw.ins b C dx fs hb fun z => (by cases z)⟩
theorem Rep.back {K : PySem.W.Frag} {c c' : Cc} {H H' : Hp} {w : W} {v : V} (fw : Fwd K c.bare H c' H') (r : Rep K c' H' w v) : Rep K (c.wide c') H' w v := Rep.weak (c := c.wide c') (c1 := c') fw.S fw.C (fun b hb => fw.sub b hb fun z => by cases z) r
theorem RepL.back {K : PySem.W.Frag} {c c' : Cc} {H H' : Hp} {w : List W} {v : List V} (fw : Fwd K c.bare H c' H') (r : RepL K c' H' w v) : RepL K (c.wide c') H' w v := RepL.weak (c := c.wide c') (c1 := c') fw.S fw.C (fun b hb => fw.sub b hb fun z => by cases z) r
theorem StOk.bare {c : Cc} {d : Dw} {H : Hp} (s : StOk c d H) : StOk c.bare d H := s.weak rfl rfl rfl rfl rfl rfl rfl (fun _ h => h) ⟨s.2.ok.inS, s.2.ok.inla, s.2.ok.inca⟩
theorem SpF.len {K : PySem.W.Frag} {F : List W → T W} {np : Nat} (hF : ∀ ws, ws.length ≠ np → F ws = .bad) : ∀ vs H Q E, SpF K F vs H Q E → vs.length = np := fun vs H Q E h => by
  obtain ⟨c, d, ws, hT, wd, r, h⟩ := h
  by_cases e : ws.length = np
  · rw [← r.length]
    exact e
  · rw [hF ws e] at h
    exact h.elim
end PF
namespace PF
open PySem PySem.Spec PyProof.Rows L2
@[irreducible] def sz2 (a b : Nat) : Bool := decide (a + b ≤ 16777216)
def addW : W → W → T W
  | .int i, .int j => .ok (.int (i + j))
  | .str x, .str y => if sz2 x.length y.length then .ok (.str (x ++ y)) else .bad
  | .tup xs, .tup ys => if sz2 xs.length ys.length then .ok (.tup (xs ++ ys)) else .bad
  | .lst xs, .lst ys => if sz2 xs.length ys.length then .ok (.lst (xs ++ ys)) else .bad
  | _, _ => .bad
def subW : W → W → T W
  | .int i, .int j => .ok (.int (i - j))
  | _, _ => .bad
@[irreducible] def mulOk (i j : Int) : Bool := decide (i.natAbs.log2 + j.natAbs.log2 < 1000000)
def mulW : W → W → T W
  | .int i, .int j => if mulOk i j then .ok (.int (i * j)) else .bad
  | _, _ => .bad
@[irreducible] def divOk (j : Int) : Bool := decide (0 < j) && decide (j.natAbs.log2 < 9000)
def fdivW : W → W → T W
  | .int i, .int j => if divOk j then .ok (.int (i / j)) else .bad
  | _, _ => .bad
def modW : W → W → T W
  | .int i, .int j => if decide (0 < j) then .ok (.int (i % j)) else .bad
  | _, _ => .bad
@[irreducible] def powOk (i j : Int) : Bool := decide (0 ≤ j ∧ j ≤ 1000000 ∧ i.natAbs < 2 ^ 64)
def ltW : W → W → T W
  | .int i, .int j => .ok (.bl (decide (i < j)))
  | _, _ => .bad
def leW : W → W → T W
  | .int i, .int j => .ok (.bl (decide (i ≤ j)))
  | _, _ => .bad
def gtW : W → W → T W
  | .int i, .int j => .ok (.bl (decide (j < i)))
  | _, _ => .bad
def geW : W → W → T W
  | .int i, .int j => .ok (.bl (decide (j ≤ i)))
  | _, _ => .bad
mutual
def W.toD : W → Option PyData
  | .non => some .none
  | .bl b => some (.bool b)
  | .int i => some (.int i)
  | .str x => some (.str x)
  | .tup ws => (toDs ws).map .tuple
  | .lst ws => (toDs ws).map .list
  | _ => none
def toDs : List W → Option (List PyData)
  | [] => some []
  | w :: ws => match W.toD w, toDs ws with
    | some d, some ds => some (d :: ds)
    | _, _ => none
end
def eqO (x y : W) : Option Bool := match x.toD, y.toD with
  | some d, some e => if SeqAt.shaped d && SeqAt.shaped e then some (PyData.eqv d e) else none
  | _, _ => none
def eqW (x y : W) : T W := match eqO x y with
  | some b => .ok (.bl b)
  | none => .bad
def neW (x y : W) : T W := match eqO x y with
  | some b => .ok (.bl !b)
  | none => .bad
section
variable {K : PySem.W.Frag}
def absW : List W → T W
  | [.int i] => .ok (.int (if i < 0 then -i else i))
  | _ => .bad
def intW : List W → T W
  | [.int i] => .ok (.int i)
  | [.bl b] => .ok (.int (if b then 1 else 0))
  | _ => .bad
def lenW : List W → T W
  | [.tup ws] => .ok (.int ws.length)
  | [.lst ws] => .ok (.int ws.length)
  | [.scr n] => .ok (.int n)
  | [.str x] => if strOk x then .ok (.int x.length) else .bad
  | _ => .bad
def blsW : List W → Option (List Bool)
  | [] => some []
  | .bl b :: ws => (blsW ws).map (b :: ·)
  | _ => none
def allW : List W → T W
  | [.lst ws] => match blsW ws with
    | some bs => .ok (.bl (bs.all id))
    | none => .bad
  | _ => .bad
def anyW : List W → T W
  | [.lst ws] => match blsW ws with
    | some bs => .ok (.bl (bs.any id))
    | none => .bad
  | _ => .bad
end
end PF
namespace PF
open PySem PySem.Spec PyProof.Rows L2
abbrev stK (ca la : Addr) (k r : Int) : List (Key × V) := [(.inr kCells, .ref ca), (.inr kLefts, .ref la), (.inr kAt, .int k), (.inr kRoom, .int r)]
section
variable {ca la : Addr} {k r : Int}
theorem DGet.st {H : Hp} {S : Addr} {x : Key} {v : V} (h : H S = some (.dK (stK ca la k r))) (e : valV (stK ca la k r) x = some v) : DGet H S (kV x) (some v) := by
  rw [← e]
  exact DGet.k h
end
@[irreducible] def manyOk (n : Int) : Bool := decide (0 < n) && decide (n.natAbs.log2 < 9000)
end PF
namespace PF
open PySem PySem.Spec PyProof.Rows L2
section
variable {α β : Type}
@[simp] theorem T.bind_ok (a : α) (f : α → T β) : (T.ok a).bind f = f a := rfl
@[simp] theorem T.bind_bad (f : α → T β) : (T.bad : T α).bind f = .bad := rfl
@[simp] theorem T.bind_exc (c : Nat) (fs : List W) (f : α → T β) : (T.exc c fs : T α).bind f = .exc c fs := rfl
@[simp] theorem T.bind_ask (n : Nat) (k : Nat → T α) (f : α → T β) : (T.ask n k).bind f = .ask n fun i => (k i).bind f := rfl
@[simp] theorem T.bind_get (i : Nat) (k : Nat → List W → T α) (f : α → T β) : (T.get i k : T α).bind f = .get i fun c fs => (k c fs).bind f := rfl
@[simp] theorem T.bind_put (i : Nat) (fs : List W) (k : T α) (f : α → T β) : (T.put i fs k : T α).bind f = .put i fs (k.bind f) := rfl
@[simp] theorem T.bind_new (c : Nat) (fs : List W) (k : Nat → T α) (f : α → T β) : (T.new c fs k : T α).bind f = .new c fs fun i => (k i).bind f := rfl
end
@[simp] theorem gV_eq (i : Nat) (ρ : En) : gV i ρ = match ρ[i]? with
  | some (.val w) => .ok w
  | _ => .bad := rfl
section
variable (g g' : W → W → T W) (h : W → T W) (fa fb fc : En → T W) (fs : En → T (List W)) (gl : List W → T W) (ta tb : En → T Bool) (sa sb : En → T (Fl × En)) (ρ : En)
@[simp] theorem f2_eq : f2 g fa fb ρ = (fa ρ).bind fun x => (fb ρ).bind fun y => g x y := rfl
@[simp] theorem f1_eq : f1 h fa ρ = (fa ρ).bind h := rfl
@[simp] theorem fL_eq : fL fs gl ρ = (fs ρ).bind gl := rfl
@[simp] theorem fNil_eq : fNil ρ = .ok [] := rfl
@[simp] theorem fCons_eq : fCons fa fs ρ = (fa ρ).bind fun x => (fs ρ).bind fun xs => .ok (x :: xs) := rfl
@[simp] theorem fTru_eq : fTru fa ρ = (fa ρ).bind truW := rfl
@[simp] theorem fBl_eq : fBl fa ρ = (fa ρ).bind blW := rfl
@[simp] theorem fNot_eq : fNot ta ρ = (ta ρ).bind fun b => .ok !b := rfl
@[simp] theorem fAnd_eq : fAnd ta tb ρ = (ta ρ).bind fun b => if b then tb ρ else .ok false := rfl
@[simp] theorem fOr_eq : fOr ta tb ρ = (ta ρ).bind fun b => if b then .ok true else tb ρ := rfl
@[simp] theorem fAndV_eq : fAndV fa fb ρ = (fa ρ).bind fun x => match x with
  | .bl true => fb ρ
  | .bl false => .ok (.bl false)
  | _ => .bad := rfl
@[simp] theorem fOrV_eq : fOrV fa fb ρ = (fa ρ).bind fun x => match x with
  | .bl false => fb ρ
  | .bl true => .ok (.bl true)
  | _ => .bad := rfl
@[simp] theorem fNotV_eq : fNotV fa ρ = (fa ρ).bind fun x => match x with
  | .bl b => .ok (.bl !b)
  | _ => .bad := rfl
@[simp] theorem fIf_eq : fIf ta fa fb ρ = (ta ρ).bind fun b => if b then fa ρ else fb ρ := rfl
@[simp] theorem fYes_eq : fYes ρ = .ok true := rfl
@[simp] theorem sNil_eq : sNil ρ = .ok (.nx, ρ) := rfl
@[simp] theorem sSeq_eq : sSeq sa sb ρ = (sa ρ).bind fun x => match x with
  | (.nx, ρ') => sb ρ'
  | x => .ok x := rfl
@[simp] theorem sRet_eq : sRet fa ρ = (fa ρ).bind fun w => .ok (.rt w, ρ) := rfl
@[simp] theorem sRetN_eq : sRetN ρ = .ok (.rt .non, ρ) := rfl
@[simp] theorem sExpr_eq : sExpr fa ρ = (fa ρ).bind fun _ => .ok (.nx, ρ) := rfl
@[simp] theorem sSet_eq (i : Nat) : sSet i fa ρ = (fa ρ).bind fun w => .ok (.nx, ρ.set i (.val w)) := rfl
@[simp] theorem sIf_eq : sIf ta sa sb ρ = (ta ρ).bind fun b => if b then sa ρ else sb ρ := rfl
@[simp] theorem sNever_eq : sNever ρ = .bad := rfl
@[simp] theorem sPar_eq (i j : Nat) : sPar i j fs ρ = (fs ρ).bind fun xs => match xs with
  | [x, y] => .ok (.nx, (ρ.set i (.val x)).set j (.val y))
  | _ => .bad := rfl
@[simp] theorem sAsg_eq (G : W → En → Option En) : sAsg fa G ρ = (fa ρ).bind fun w => match G w ρ with
  | some ρ' => .ok (.nx, ρ')
  | none => .bad := rfl
@[simp] theorem goName_eq (i : Nat) (w : W) : goName i w ρ = some (ρ.set i (.val w)) := rfl
@[simp] theorem iL_eq (q : List W → T (List W)) : iL q fs ρ = (fs ρ).bind q := rfl
@[simp] theorem iOf_eq (q : W → T (List W)) : iOf q fa ρ = (fa ρ).bind q := rfl
end
@[simp] theorem addW_int (i j : Int) : addW (.int i) (.int j) = .ok (.int (i + j)) := rfl
@[simp] theorem subW_int (i j : Int) : subW (.int i) (.int j) = .ok (.int (i - j)) := rfl
@[simp] theorem mulW_int (i j : Int) : mulW (.int i) (.int j) = if mulOk i j then .ok (.int (i * j)) else .bad := rfl
@[simp] theorem fdivW_int (i j : Int) : fdivW (.int i) (.int j) = if divOk j then .ok (.int (i / j)) else .bad := rfl
@[simp] theorem modW_int (i j : Int) : modW (.int i) (.int j) = if decide (0 < j) then .ok (.int (i % j)) else .bad := rfl
@[simp] theorem ltW_int (i j : Int) : ltW (.int i) (.int j) = .ok (.bl (decide (i < j))) := rfl
@[simp] theorem leW_int (i j : Int) : leW (.int i) (.int j) = .ok (.bl (decide (i ≤ j))) := rfl
@[simp] theorem gtW_int (i j : Int) : gtW (.int i) (.int j) = .ok (.bl (decide (j < i))) := rfl
@[simp] theorem geW_int (i j : Int) : geW (.int i) (.int j) = .ok (.bl (decide (j ≤ i))) := rfl
@[simp] theorem intW_int (i : Int) : intW [.int i] = .ok (.int i) := rfl
@[simp] theorem intW_bl (b : Bool) : intW [.bl b] = .ok (.int (if b then 1 else 0)) := rfl
@[simp] theorem absW_int (i : Int) : absW [.int i] = .ok (.int (if i < 0 then -i else i)) := rfl
@[simp] theorem blW_bl (b : Bool) : blW (.bl b) = .ok b := rfl
@[simp] theorem truW_bl (b : Bool) : truW (.bl b) = .ok b := rfl
@[simp] theorem lenW_tup (ws : List W) : lenW [.tup ws] = .ok (.int ws.length) := rfl
@[simp] theorem lenW_lst (ws : List W) : lenW [.lst ws] = .ok (.int ws.length) := rfl
@[simp] theorem lenW_scr (n : Nat) : lenW [.scr n] = .ok (.int n) := rfl
theorem sizeOk_is {ws : List W} (h : ws.length ≤ 16777216) : sizeOk ws = true := by
  unfold sizeOk
  exact decide_eq_true h
@[simp] theorem mkTup_eq (ws : List W) : mkTup ws = if sizeOk ws then .ok (.tup ws) else .bad := rfl
@[simp] theorem mkLst_eq (ws : List W) : mkLst ws = if sizeOk ws then .ok (.lst ws) else .bad := rfl
@[simp] theorem sizeOk_nil : sizeOk [] = true := sizeOk_is (by simp)
@[simp] theorem sizeOk_1 (a : W) : sizeOk [a] = true := sizeOk_is (by simp)
@[simp] theorem sizeOk_2 (a b : W) : sizeOk [a, b] = true := sizeOk_is (by simp)
@[simp] theorem sizeOk_3 (a b c : W) : sizeOk [a, b, c] = true := sizeOk_is (by simp)
@[simp] theorem sizeOk_4 (a b c d : W) : sizeOk [a, b, c, d] = true := sizeOk_is (by simp)
@[simp] theorem sizeOk_5 (a b c d e : W) : sizeOk [a, b, c, d, e] = true := sizeOk_is (by simp)
end PF
namespace PF
open PySem PySem.Spec PyProof.Rows L2
/-- the law's frame when the state stands -/
def lawE (n m : Nat) : En := .val (.scr n) :: .val .stt :: List.replicate m .un
/-- a law's run ends and gives True -/
def LawEnds (g : En → T (Fl × En)) (m : Nat) : Prop := ∀ n, n ≤ 63 → (g (lawE n m)).AllB (fun _ x => ∃ ρ, x = (.rt (.bl true), ρ)) (fun _ _ _ => False) (2 ^ 60)
/-- with objects -/
def LawEndsW (g : En → T (Fl × En)) (m : Nat) : Prop := ∀ n, n ≤ 63 → (g (lawE n m)).AllW (fun _ x => ∃ ρ, x = (.rt (.bl true), ρ)) (fun _ _ _ => False) ⟨2 ^ 60, []⟩
theorem LawEnds.w {g : En → T (Fl × En)} {m : Nat} (h : LawEnds g m) : LawEndsW g m := fun n hn => T.AllW.imp (fun _ _ x => x.2) (fun _ _ _ x => x.2) (T.allW_of (os := []) (h n hn))
end PF
namespace PF
open PySem PySem.Spec PyProof.Rows L2
def intsW : List W → Option (List Int)
  | [] => some []
  | .int b :: ws => (intsW ws).map (b :: ·)
  | _ => none
@[simp] theorem intsW_of : ∀ (ns : List Int), intsW (ns.map W.int) = some ns
  | [] => rfl
  | n :: ns => by simp [intsW, intsW_of ns]
def sumW : List W → T W
  | [.lst ws] => match intsW ws with
    | some ns => .ok (.int ns.sum)
    | none => .bad
  | [.tup ws] => match intsW ws with
    | some ns => .ok (.int ns.sum)
    | none => .bad
  | _ => .bad
def greatest : List Int → Int
  | [] => 0
  | n :: ns => ns.foldl max n
def least : List Int → Int
  | [] => 0
  | n :: ns => ns.foldl min n
def maxW : List W → T W
  | [.int i, .int j] => .ok (.int (if j > i then j else i))
  | [.lst ws] => match intsW ws with
    | some (n :: ns) => .ok (.int (greatest (n :: ns)))
    | _ => .bad
  | _ => .bad
def minW : List W → T W
  | [.int i, .int j] => .ok (.int (if j < i then j else i))
  | [.lst ws] => match intsW ws with
    | some (n :: ns) => .ok (.int (least (n :: ns)))
    | _ => .bad
  | _ => .bad
def tupOfW : List W → T W
  | [.lst ws] => .ok (.tup ws)
  | [.tup ws] => .ok (.tup ws)
  | _ => .bad
def lstOfW : List W → T W
  | [.lst ws] => .ok (.lst ws)
  | [.tup ws] => .ok (.lst ws)
  | _ => .bad
section
variable {K : PySem.W.Frag}
def PO1 (c : Cc) (H : Hp) (Q : Option Int → Hp → Prop) : Dw → Option Int → Prop := fun d o => ∀ ⦃c' : Cc⦄ H', SG c c' H H' → StOk c' d H' → Q o H'
theorem PO1.later {c c1 : Cc} {H H1 : Hp} {Q : Option Int → Hp → Prop} {d : Dw} {o : Option Int} (s : SG c c1 H H1) (h : PO1 c H Q d o) : PO1 c1 H1 Q d o := fun _ H' st so => h H' (s.trans st) so
def manyW (k : Nat) (ws : List W) : List W := (List.replicate k ws).flatten
theorem RepL.many {c : Cc} {H : Hp} {ws : List W} {vs : List V} (r : RepL K c H ws vs) : ∀ (k : Nat), RepL K c H (manyW k ws) (List.replicate k vs).flatten
  | 0 => by
    unfold manyW
    simp only [List.replicate_zero, List.flatten_nil]
    exact .nil
  | k + 1 => by
    have := RepL.many r k
    unfold manyW at *
    rw [List.replicate_succ, List.replicate_succ, List.flatten_cons, List.flatten_cons]
    exact r.append this
@[irreducible] def tmulOk (n : Nat) (k : Int) : Bool := decide (0 < n ∧ n ≤ 1000 ∧ 2 ≤ k ∧ k ≤ 1000)
@[irreducible] def lmulOk (n : Nat) (k : Int) : Bool := rngOk k && decide (n * k.toNat ≤ 16777216)
end
end PF
namespace PF
open PySem PySem.Spec PyProof.Rows L2
abbrev Cc.mine (c : Cc) (D : Addr) : Cc := { c with A := D :: c.A, M := D :: c.M }
abbrev Cc.less (c : Cc) (D : Addr) : Cc := { c with A := c.A.filter (fun b => decide (b ≠ D)), M := c.M.filter (fun b => decide (b ≠ D)) }
section
variable {K : PySem.W.Frag} {c : Cc} {d : Dw} {oa : Nat → Addr} {ρ : En} {σ : L2.St} {H H' : Hp} {D : Addr} {i : Nat}
theorem Rep.mine {w : W} {v : V} (h : Rep K (c.more D) H w v) : Rep K (c.mine D) H w v := Rep.weak (c := c.mine D) (c1 := c.more D) rfl rfl (fun _ h => h) h
theorem RepL.mine {w : List W} {v : List V} (h : RepL K (c.more D) H w v) : RepL K (c.mine D) H w v := RepL.weak (c := c.mine D) (c1 := c.more D) rfl rfl (fun _ h => h) h
theorem st_ne (so : StOk c d H) (n : H D = none) : D ∉ [c.S, c.ca, c.la] := by
  obtain ⟨⟨cells, lefts, k, r, h1, h2, h3, _⟩, _⟩ := so
  simp only [List.mem_cons, not_or, List.not_mem_nil, not_false_eq_true, and_true]
  exact ⟨Ne.symm (ne_of_none h1 n), Ne.symm (ne_of_none h2 n), Ne.symm (ne_of_none h3 n)⟩
theorem StOk.mine {o : HO} (s : StOk c d H) (n : H D = none) : StOk (c.mine D) d (L2.upd H D o) := (s.more n).weak rfl rfl rfl rfl rfl rfl rfl (fun _ h => h) ⟨List.mem_cons_of_mem _ s.2.ok.inS, List.mem_cons_of_mem _ s.2.ok.inla, List.mem_cons_of_mem _ s.2.ok.inca⟩
/-- a list of the frame's own is laid -/
theorem EnvOk.mine {xs : List V} (e : EnvOk K Γ c d oa ρ σ H) (n : H D = none) : EnvOk K Γ (c.mine D) d oa ρ σ (L2.upd H D (.lst xs)) where
  ok := ⟨List.mem_cons_of_mem _ e.ok.inS, List.mem_cons_of_mem _ e.ok.inla, List.mem_cons_of_mem _ e.ok.inca⟩
  st := e.st.mine n
  av := (e.more n).av
  len := e.len
  val := fun i w h => by
    obtain ⟨v, h1, h2⟩ := e.val i w h
    exact ⟨v, h1, (h2.more n (.new n) e.st e.ok).mine⟩
  m := ⟨fun b hb => by
      rcases List.mem_cons.mp hb with rfl | hb
      · exact List.mem_cons_self ..
      · exact List.mem_cons_of_mem _ (e.m.inA b hb), fun b hb => by
      rcases List.mem_cons.mp hb with rfl | hb
      · exact st_ne (c := c) e.st n
      · exact e.m.nst b hb, fun b hb => by
      rcases List.mem_cons.mp hb with rfl | hb
      · exact ⟨_, upd_same, .inl ⟨_, rfl⟩⟩
      · obtain ⟨ys, h, w⟩ := e.m.ls b hb
        exact ⟨ys, by rw [upd_ne (ne_of_none h n)]; exact h, w⟩⟩
  own := fun i ws h => by
    obtain ⟨h1, h3, vs, h4, h5⟩ := e.own i ws h
    exact ⟨List.mem_cons_of_mem _ h1, h3, vs, by rw [upd_ne (ne_of_none h4 n)]; exact h4, (h5.more n (.new n) e.st e.ok).mine⟩
  inj := e.inj
  odc := fun i ws h => by
    obtain ⟨h1, h3, vs, h4, h5⟩ := e.odc i ws h
    exact ⟨List.mem_cons_of_mem _ h1, h3, vs, by rw [upd_ne (ne_of_none h4 n)]; exact h4, h5.1, (h5.2.more n (.new n) e.st e.ok).mine⟩
  ido := e.ido
  odt := fun i ws h => by
    obtain ⟨h1, h3, vs, h4, h5⟩ := e.odt i ws h
    exact ⟨List.mem_cons_of_mem _ h1, h3, vs, by rw [upd_ne (ne_of_none h4 n)]; exact h4, h5.1, (h5.2.more n (.new n) e.st e.ok).mine⟩
  idt := e.idt
  lk := e.lk.at_ (fun _ _ r => (r.more n (.new n) e.st e.ok).mine) (fun m => List.mem_cons_of_mem _ m) fun _ ⟨_, h, _⟩ => ne_of_none h n
  tT := e.tT
  cC := e.cC
  kK := e.kK
theorem Fwd.mine {o : HO} (n : H D = none) (wd : Wd c d H) : Fwd K c H (c.mine D) (L2.upd H D o) where
  S := rfl
  ca := rfl
  la := rfl
  T := rfl
  C := rfl
  KK := rfl
  O := List.prefix_rfl
  sub := fun b h _ => List.mem_cons_of_mem _ h
  fr := fun b h => by
    rcases List.mem_cons.mp h with rfl | h
    · have h0 := st_ne wd.st n
      simp only [List.mem_cons, not_or] at h0
      exact .inr ⟨wd.fresh n, h0.1, h0.2.2.1, n⟩
    · exact .inl h
  step := fun b o h _ _ _ _ => by
    rw [upd_ne (ne_of_none h n)]
    exact h
  tbl := fun b ps h _ => ⟨#[], by rw [upd_ne (ne_of_none h n), h]; simp⟩
  rep := fun w v r => (r.more n (.new n) wd.st wd.ok).mine
  sq := fun a vs h => (Step.new (c := c) n).sqT wd.st h
  ins := fun b C dx fs h _ => ⟨fs, by rw [upd_ne (ne_of_none h n)]; exact h⟩
/-- one of them becomes plain data -/
theorem Fwd.less (m : MOk c H) (hm : D ∈ c.M) : Fwd K c H (c.less D) H where
  S := rfl
  ca := rfl
  la := rfl
  T := rfl
  C := rfl
  KK := rfl
  O := List.prefix_rfl
  sub := fun b h n => List.mem_filter.mpr ⟨h, decide_eq_true (fun z => n (by rw [z]; exact hm))⟩
  fr := fun b h => .inl (List.mem_filter.mp h).1
  step := fun b o h _ _ _ _ => h
  tbl := fun b ps h _ => ⟨#[], by rw [h]; simp⟩
  rep := fun w v r => Rep.weak (c := c.less D) (c1 := c) rfl rfl (fun b hb => (List.mem_filter.mp hb).1) r
  sq := fun a vs h => h
  ins := fun b C dx fs h _ => ⟨fs, h⟩
def frz (i : Nat) (ρ : En) : En := match ρ[i]? with
  | some (.own ws) => ρ.set i (.val (.lst ws))
  | some (.odc kvs) => ρ.set i (.val (.dct (kvs.map (·.1)) (kvs.map (·.2))))
  | _ => ρ
theorem EnvOk.frz (e : EnvOk K Γ c d oa ρ σ H) (i : Nat) : ∃ c', EnvOk K Γ c' d oa (frz i ρ) σ H ∧ Fwd K c H c' H ∧ c'.S = c.S ∧ c'.ca = c.ca ∧ c'.la = c.la ∧ c'.T = c.T ∧ c'.K = c.K ∧ c'.O = c.O := by
  unfold PF.frz
  split
  · rename_i ws h
    obtain ⟨h1, h3, vs, h4, h5⟩ := e.own i ws h
    have hn := e.m.nst _ h1
    simp only [List.mem_cons, not_or] at hn
    have wk : ∀ {w : W} {v : V}, Rep K c H w v → Rep K (c.less (oa i)) H w v := fun r => Rep.weak (c := c.less (oa i)) (c1 := c) rfl rfl (fun b hb => (List.mem_filter.mp hb).1) r
    have wkl : ∀ {w : List W} {v : List V}, RepL K c H w v → RepL K (c.less (oa i)) H w v := fun r => RepL.weak (c := c.less (oa i)) (c1 := c) rfl rfl (fun b hb => (List.mem_filter.mp hb).1) r
    refine ⟨c.less (oa i), ?_, Fwd.less e.m h1, rfl, rfl, rfl, rfl, rfl, rfl⟩
    exact {
      ok := ⟨List.mem_filter.mpr ⟨e.ok.inS, decide_eq_true (Ne.symm hn.1)⟩, List.mem_filter.mpr ⟨e.ok.inla, decide_eq_true (Ne.symm hn.2.2.1)⟩, List.mem_filter.mpr ⟨e.ok.inca, decide_eq_true (Ne.symm hn.2.1)⟩⟩
      st := e.st.weak rfl rfl rfl rfl rfl rfl rfl (fun b hb => (List.mem_filter.mp hb).1) ⟨List.mem_filter.mpr ⟨e.ok.inS, decide_eq_true (Ne.symm hn.1)⟩, List.mem_filter.mpr ⟨e.ok.inla, decide_eq_true (Ne.symm hn.2.2.1)⟩, List.mem_filter.mpr ⟨e.ok.inca, decide_eq_true (Ne.symm hn.2.1)⟩⟩
      av := fun b hb => e.av b (List.mem_filter.mp hb).1
      m := ⟨fun b hb => List.mem_filter.mpr ⟨e.m.inA b (List.mem_filter.mp hb).1, (List.mem_filter.mp hb).2⟩, fun b hb => e.m.nst b (List.mem_filter.mp hb).1, fun b hb => e.m.ls b (List.mem_filter.mp hb).1⟩
      len := by rw [List.length_set]; exact e.len
      val := fun j x hx => by
        rcases getElem?_set_or hx with ⟨ej, ex⟩ | ⟨n, h'⟩
        · cases ex
          subst ej
          exact ⟨_, h3, .lst (fun z => of_decide_eq_true (List.mem_filter.mp z).2 rfl) h4 (wkl h5)⟩
        · obtain ⟨u, g1, g2⟩ := e.val j x h'
          exact ⟨u, g1, wk g2⟩
      own := fun j x hx => by
        rcases getElem?_set_or hx with ⟨ej, ex⟩ | ⟨n, h'⟩
        · cases ex
        · obtain ⟨g1, g3, zs, g4, g5⟩ := e.own j x h'
          exact ⟨List.mem_filter.mpr ⟨g1, decide_eq_true fun z => n (e.inj j i x ws h' h z)⟩, g3, zs, g4, wkl g5⟩
      inj := fun a b x y g1 g2 he => by
        rcases getElem?_set_or g1 with ⟨_, ex⟩ | ⟨_, g1'⟩
        · cases ex
        · rcases getElem?_set_or g2 with ⟨_, ex⟩ | ⟨_, g2'⟩
          · cases ex
          · exact e.inj a b x y g1' g2' he
      odc := fun j x hx => by
        rcases getElem?_set_or hx with ⟨ej, ex⟩ | ⟨n, h'⟩
        · cases ex
        · obtain ⟨g1, g3, zs, g4, g5⟩ := e.odc j x h'
          exact ⟨List.mem_filter.mpr ⟨g1, decide_eq_true fun z => by
            rw [z, h4] at g4
            cases g4⟩, g3, zs, g4, g5.1, wkl g5.2⟩
      ido := fun a b x y g1 g2 he => by
        rcases getElem?_set_or g1 with ⟨_, ex⟩ | ⟨_, g1'⟩
        · cases ex
        · rcases getElem?_set_or g2 with ⟨_, ex⟩ | ⟨_, g2'⟩
          · cases ex
          · exact e.ido a b x y g1' g2' he
      odt := fun j x hx => by
        rcases getElem?_set_or hx with ⟨ej, ex⟩ | ⟨n, h'⟩
        · cases ex
        · obtain ⟨g1, g3, zs, g4, g5⟩ := e.odt j x h'
          exact ⟨List.mem_filter.mpr ⟨g1, decide_eq_true fun z => by
            rw [z, h4] at g4
            cases g4⟩, g3, zs, g4, g5.1, wkl g5.2⟩
      idt := fun a b x y g1 g2 he => by
        rcases getElem?_set_or g1 with ⟨_, ex⟩ | ⟨_, g1'⟩
        · cases ex
        · rcases getElem?_set_or g2 with ⟨_, ex⟩ | ⟨_, g2'⟩
          · cases ex
          · exact e.idt a b x y g1' g2' he
      lk := e.lk.to (fun j r x hl => by
        obtain ⟨q, x⟩ := lk_set rfl x hl
        exact ⟨x, rfl⟩) (fun _ _ r => wkl r) fun _ m _ ne => ⟨List.mem_filter.mpr ⟨m, decide_eq_true fun z => ne i (.inl ⟨_, h⟩) z.symm⟩, fun _ g _ => g, fun j dd => ne j (dy_set (by nofun) (by nofun) (by nofun) dd).2⟩
      tT := e.tT
      cC := e.cC
      kK := e.kK }
  · rename_i kvs h
    obtain ⟨h1, h3, vs, h4, h5⟩ := e.odc i kvs h
    have hn := e.m.nst _ h1
    simp only [List.mem_cons, not_or] at hn
    have wk : ∀ {w : W} {v : V}, Rep K c H w v → Rep K (c.less (oa i)) H w v := fun r => Rep.weak (c := c.less (oa i)) (c1 := c) rfl rfl (fun b hb => (List.mem_filter.mp hb).1) r
    have wkl : ∀ {w : List W} {v : List V}, RepL K c H w v → RepL K (c.less (oa i)) H w v := fun r => RepL.weak (c := c.less (oa i)) (c1 := c) rfl rfl (fun b hb => (List.mem_filter.mp hb).1) r
    refine ⟨c.less (oa i), ?_, Fwd.less e.m h1, rfl, rfl, rfl, rfl, rfl, rfl⟩
    exact {
      ok := ⟨List.mem_filter.mpr ⟨e.ok.inS, decide_eq_true (Ne.symm hn.1)⟩, List.mem_filter.mpr ⟨e.ok.inla, decide_eq_true (Ne.symm hn.2.2.1)⟩, List.mem_filter.mpr ⟨e.ok.inca, decide_eq_true (Ne.symm hn.2.1)⟩⟩
      st := e.st.weak rfl rfl rfl rfl rfl rfl rfl (fun b hb => (List.mem_filter.mp hb).1) ⟨List.mem_filter.mpr ⟨e.ok.inS, decide_eq_true (Ne.symm hn.1)⟩, List.mem_filter.mpr ⟨e.ok.inla, decide_eq_true (Ne.symm hn.2.2.1)⟩, List.mem_filter.mpr ⟨e.ok.inca, decide_eq_true (Ne.symm hn.2.1)⟩⟩
      av := fun b hb => e.av b (List.mem_filter.mp hb).1
      m := ⟨fun b hb => List.mem_filter.mpr ⟨e.m.inA b (List.mem_filter.mp hb).1, (List.mem_filter.mp hb).2⟩, fun b hb => e.m.nst b (List.mem_filter.mp hb).1, fun b hb => e.m.ls b (List.mem_filter.mp hb).1⟩
      len := by rw [List.length_set]; exact e.len
      val := fun j x hx => by
        rcases getElem?_set_or hx with ⟨ej, ex⟩ | ⟨n, h'⟩
        · cases ex
          subst ej
          refine ⟨_, h3, ?_⟩
          rw [h5.1]
          exact .dct (fun z => of_decide_eq_true (List.mem_filter.mp z).2 rfl) h4 (wkl h5.2)
        · obtain ⟨u, g1, g2⟩ := e.val j x h'
          exact ⟨u, g1, wk g2⟩
      own := fun j x hx => by
        rcases getElem?_set_or hx with ⟨ej, ex⟩ | ⟨n, h'⟩
        · cases ex
        · obtain ⟨g1, g3, zs, g4, g5⟩ := e.own j x h'
          exact ⟨List.mem_filter.mpr ⟨g1, decide_eq_true fun z => by
            rw [z, h4] at g4
            cases g4⟩, g3, zs, g4, wkl g5⟩
      inj := fun a b x y g1 g2 he => by
        rcases getElem?_set_or g1 with ⟨_, ex⟩ | ⟨_, g1'⟩
        · cases ex
        · rcases getElem?_set_or g2 with ⟨_, ex⟩ | ⟨_, g2'⟩
          · cases ex
          · exact e.inj a b x y g1' g2' he
      odc := fun j x hx => by
        rcases getElem?_set_or hx with ⟨ej, ex⟩ | ⟨n, h'⟩
        · cases ex
        · obtain ⟨g1, g3, zs, g4, g5⟩ := e.odc j x h'
          exact ⟨List.mem_filter.mpr ⟨g1, decide_eq_true fun z => n (e.ido j i x kvs h' h z)⟩, g3, zs, g4, g5.1, wkl g5.2⟩
      ido := fun a b x y g1 g2 he => by
        rcases getElem?_set_or g1 with ⟨_, ex⟩ | ⟨_, g1'⟩
        · cases ex
        · rcases getElem?_set_or g2 with ⟨_, ex⟩ | ⟨_, g2'⟩
          · cases ex
          · exact e.ido a b x y g1' g2' he
      odt := fun j x hx => by
        rcases getElem?_set_or hx with ⟨ej, ex⟩ | ⟨n, h'⟩
        · cases ex
        · obtain ⟨g1, g3, zs, g4, g5⟩ := e.odt j x h'
          exact ⟨List.mem_filter.mpr ⟨g1, decide_eq_true fun z => by
            rw [z, h4] at g4
            cases g4⟩, g3, zs, g4, g5.1, wkl g5.2⟩
      idt := fun a b x y g1 g2 he => by
        rcases getElem?_set_or g1 with ⟨_, ex⟩ | ⟨_, g1'⟩
        · cases ex
        · rcases getElem?_set_or g2 with ⟨_, ex⟩ | ⟨_, g2'⟩
          · cases ex
          · exact e.idt a b x y g1' g2' he
      lk := e.lk.to (fun j r x hl => by
        obtain ⟨q, x⟩ := lk_set rfl x hl
        exact ⟨x, rfl⟩) (fun _ _ r => wkl r) fun _ m _ ne => ⟨List.mem_filter.mpr ⟨m, decide_eq_true fun z => ne i (.inr (.inl ⟨_, h⟩)) z.symm⟩, fun _ g _ => g, fun j dd => ne j (dy_set (by nofun) (by nofun) (by nofun) dd).2⟩
      tT := e.tT
      cC := e.cC
      kK := e.kK }
  · exact ⟨c, e, .refl, rfl, rfl, rfl, rfl, rfl, rfl⟩
end
@[irreducible] def roomOk (ws : List W) : Bool := decide (ws.length < 16777216)
@[simp] theorem noX_ok {α : Type} (a : α) : noX (.ok a : T α) = .ok a := rfl
@[simp] theorem noX_bad {α : Type} : noX (.bad : T α) = .bad := rfl
@[simp] theorem noX_bind {α β : Type} (f : α → T β) (t : T α) : noX (t.bind f) = (noX t).bind fun a => noX (f a) := by
  induction t with
  | ok a => rfl
  | exc _ _ => rfl
  | bad => rfl
  | ask n k ih =>
    show T.ask n (fun i => noX ((k i).bind f)) = T.ask n fun i => (noX (k i)).bind fun a => noX (f a)
    congr 1
    funext i
    exact ih i
  | get i k ih =>
    show T.get i (fun c fs => noX ((k c fs).bind f)) = T.get i fun c fs => (noX (k c fs)).bind fun a => noX (f a)
    congr 1
    funext c fs
    exact ih c fs
  | put i fs k ih =>
    show T.put i fs (noX (k.bind f)) = T.put i fs ((noX k).bind fun a => noX (f a))
    rw [ih]
  | new c fs k ih =>
    show T.new c fs (fun i => noX ((k i).bind f)) = T.new c fs fun i => (noX (k i)).bind fun a => noX (f a)
    congr 1
    funext i
    exact ih i
section
variable {X : Cx} {E : XK} {st : Stmt} {e : Expr} {es : List Expr} {g : En → T (Fl × En)} {f : En → T W} {fs : En → T (List W)} {pos pos' p2 : Pos}
theorem Step.as {c c' : Cc} {H H' : Hp} (hS : c'.S = c.S) (hl : c'.la = c.la) (st : Step c' H H') : Step c H H' := Step.to st hS hl
end
@[simp] theorem sumW_lst (ns : List Int) : sumW [.lst (ns.map W.int)] = .ok (.int ns.sum) := by simp [sumW]
@[simp] theorem sumW_tup (ns : List Int) : sumW [.tup (ns.map W.int)] = .ok (.int ns.sum) := by simp [sumW]
@[simp] theorem tupOfW_lst (ws : List W) : tupOfW [.lst ws] = .ok (.tup ws) := rfl
@[simp] theorem tupOfW_tup (ws : List W) : tupOfW [.tup ws] = .ok (.tup ws) := rfl
@[simp] theorem lstOfW_lst (ws : List W) : lstOfW [.lst ws] = .ok (.lst ws) := rfl
@[simp] theorem lstOfW_tup (ws : List W) : lstOfW [.tup ws] = .ok (.lst ws) := rfl
@[simp] theorem max2_int (i j : Int) : maxW [.int i, .int j] = .ok (.int (if j > i then j else i)) := rfl
@[simp] theorem min2_int (i j : Int) : minW [.int i, .int j] = .ok (.int (if j < i then j else i)) := rfl
end PF
namespace PF
open PySem PySem.Spec PyProof.Rows L2
@[simp] theorem sFor_eq (fi : En → T (List W)) (G : W → En → Option En) (gb : En → T (Fl × En)) (ρ : En) : sFor fi G gb ρ = (fi ρ).bind fun ws => forL G gb ws ρ := rfl
@[simp] theorem noX_ask {α : Type} (n : Nat) (k : Nat → T α) : noX (T.ask n k) = .ask n fun i => noX (k i) := rfl
@[simp] theorem blsW_of : ∀ (bs : List Bool), blsW (bs.map W.bl) = some bs
  | [] => rfl
  | b :: bs => by simp [blsW, blsW_of bs]
@[simp] theorem allW_of (bs : List Bool) : allW [.lst (bs.map W.bl)] = .ok (.bl (bs.all id)) := by simp [allW]
@[simp] theorem anyW_of (bs : List Bool) : anyW [.lst (bs.map W.bl)] = .ok (.bl (bs.any id)) := by simp [anyW]
def low (n : Nat) (w : W) : Prop := ∃ d, w.toD = some d ∧ d.canLay0 = true ∧ d.depth ≤ n
def lows (n : Nat) (ws : List W) : Prop := ∃ ds, toDs ws = some ds ∧ PyData.canLayAll0 ds = true ∧ PyData.depthAll ds ≤ n
theorem low_int (i : Int) : low 1 (.int i) := ⟨.int i, rfl, rfl, by simp [PyData.depth]⟩
theorem lows_of {n : Nat} : ∀ {ws : List W}, (∀ w ∈ ws, low n w) → lows n ws
  | [], _ => ⟨[], rfl, rfl, by simp [PyData.depthAll]⟩
  | w :: ws, h => by
    obtain ⟨d, h1, h2, h3⟩ := h w (List.mem_cons_self ..)
    obtain ⟨ds, g1, g2, g3⟩ := lows_of fun u hu => h u (List.mem_cons_of_mem _ hu)
    refine ⟨d :: ds, ?_, ?_, ?_⟩
    · simp [toDs, h1, g1]
    · simp only [PyData.canLayAll0, h2, g2, Bool.and_self]
    · simp only [PyData.depthAll]
      omega
theorem low_tup {n : Nat} {ws : List W} (h : ∀ w ∈ ws, low n w) : low (n + 1) (.tup ws) := by
  obtain ⟨ds, g1, g2, g3⟩ := lows_of h
  refine ⟨.tuple ds, by simp [W.toD, g1], by simp only [PyData.canLay0]; exact g2, by simp only [PyData.depth]; omega⟩
theorem low_lst {n : Nat} {ws : List W} (h : ∀ w ∈ ws, low n w) : low (n + 1) (.lst ws) := by
  obtain ⟨ds, g1, g2, g3⟩ := lows_of h
  refine ⟨.list ds, by simp [W.toD, g1], by simp only [PyData.canLay0]; exact g2, by simp only [PyData.depth]; omega⟩
theorem low_ints (ns : List Int) : low 2 (.tup (ns.map W.int)) := low_tup fun w hw => by
  obtain ⟨i, _, rfl⟩ := List.mem_map.mp hw
  exact low_int i
theorem low_intsL (ns : List Int) : low 2 (.lst (ns.map W.int)) := low_lst fun w hw => by
  obtain ⟨i, _, rfl⟩ := List.mem_map.mp hw
  exact low_int i
theorem eqO_same {n : Nat} {w : W} (h : low n w) (hn : n ≤ 64) : eqO w w = some true := by
  obtain ⟨d, h1, h2, h3⟩ := h
  have hs : SeqAt.shaped d = true := by
    unfold SeqAt.shaped
    rw [h2, decide_eq_true (by omega)]
    rfl
  unfold eqO
  rw [h1]
  simp only [hs, Bool.and_self, if_true]
  rw [PySem.SeqAt.eqv_refl d h2]
theorem eq_same {n : Nat} {w : W} (h : low n w) (hn : n ≤ 64) : eqW w w = .ok (.bl true) := by
  unfold eqW
  rw [eqO_same h hn]
theorem ne_same {n : Nat} {w : W} (h : low n w) (hn : n ≤ 64) : neW w w = .ok (.bl false) := by
  unfold neW
  rw [eqO_same h hn]
  rfl
@[simp] theorem eqO_int (i j : Int) : eqO (.int i) (.int j) = some (i == j) := rfl
@[simp] theorem eqW_int (i j : Int) : eqW (.int i) (.int j) = .ok (.bl (i == j)) := rfl
@[simp] theorem neW_int (i j : Int) : neW (.int i) (.int j) = .ok (.bl !(i == j)) := rfl
@[simp] theorem ne_ints (ns : List Int) : neW (.tup (ns.map W.int)) (.tup (ns.map W.int)) = .ok (.bl false) := ne_same (low_ints ns) (by decide)
@[simp] theorem eq_ints (ns : List Int) : eqW (.tup (ns.map W.int)) (.tup (ns.map W.int)) = .ok (.bl true) := eq_same (low_ints ns) (by decide)
@[simp] theorem ne_intsL (ns : List Int) : neW (.lst (ns.map W.int)) (.lst (ns.map W.int)) = .ok (.bl false) := ne_same (low_intsL ns) (by decide)
@[simp] theorem eq_intsL (ns : List Int) : eqW (.lst (ns.map W.int)) (.lst (ns.map W.int)) = .ok (.bl true) := eq_same (low_intsL ns) (by decide)
@[simp] theorem ne_non : neW .non .non = .ok (.bl false) := rfl
@[simp] theorem eq_non : eqW .non .non = .ok (.bl true) := rfl
end PF
namespace PF
open PySem PySem.Spec PyProof.Rows L2
structure FnG (P : Program) (w : World) (K : PySem.W.Frag) (mg : Str → Option Value) (base : Heap) (k : Nat) (f : Addr) (fd : FuncData) (ps : List Str) (sp : Sp) : Prop where
  len : ∀ vs H Q E, sp vs H Q E → vs.length = ps.length
  go : ∀ (A : Around) (o : List PySem.Env) (s : Shared) (H : Hp) (ar : Args) (us : List Value) (vs : List V) (Q : VK) (E : XK), A.guards = some [] → Room k A → Env0 P w K mg base A o s H → BindsTo s fd ar (ps.zip us) → Vals vs us → sp vs H Q E →
    codeAny (model P w) A (.call (.ref f) ar) (CR (L2.CX P w) o P w H s Q E) s
theorem FnG.of {P : Program} {w : World} {K : PySem.W.Frag} {mg : Str → Option Value} {base : Heap} {k : Nat} {f : Addr} {fd : FuncData} {ps : List Str} {sp : Sp} (F : FnOk P w K mg base (L2.CX P w) k f fd ps sp) : FnG P w K mg base k f fd ps sp :=
  ⟨F.len, fun A o s H ar us vs Q E _ hr e b r h => F.run A o s H ar us vs Q E hr e b r h⟩
end PF
namespace PF
open PySem PySem.Spec PyProof.Rows L2
@[irreducible] def reprOk (d : PyData) : Bool := d.showable && !d.hasDict && decide (d.depth ≤ 60) && decide (d.shown.length ≤ 16777216)
def eqS (x y : W) : T W := match x, y with
  | .str a, .str b => .ok (.bl (decide (a = b)))
  | _, _ => eqW x y
def neS (x y : W) : T W := match x, y with
  | .str a, .str b => .ok (.bl (!decide (a = b)))
  | _, _ => neW x y
@[simp] theorem eqS_str (s : Str) : eqS (.str s) (.str s) = .ok (.bl true) := by simp [eqS]
@[simp] theorem neS_str (s : Str) : neS (.str s) (.str s) = .ok (.bl false) := by simp [neS]
@[simp] theorem eqS_int (i j : Int) : eqS (.int i) (.int j) = .ok (.bl (i == j)) := rfl
@[simp] theorem neS_int (i j : Int) : neS (.int i) (.int j) = .ok (.bl !(i == j)) := rfl
@[simp] theorem eqS_tup (ws : List W) (y : W) : eqS (.tup ws) y = eqW (.tup ws) y := by cases y <;> rfl
@[simp] theorem neS_tup (ws : List W) (y : W) : neS (.tup ws) y = neW (.tup ws) y := by cases y <;> rfl
@[simp] theorem eqS_lst (ws : List W) (y : W) : eqS (.lst ws) y = eqW (.lst ws) y := by cases y <;> rfl
@[simp] theorem neS_lst (ws : List W) (y : W) : neS (.lst ws) y = neW (.lst ws) y := by cases y <;> rfl
@[simp] theorem eqS_non (y : W) : eqS .non y = eqW .non y := by cases y <;> rfl
@[simp] theorem neS_non (y : W) : neS .non y = neW .non y := by cases y <;> rfl
@[simp] theorem eqS_bl (b : Bool) (y : W) : eqS (.bl b) y = eqW (.bl b) y := by cases y <;> rfl
@[simp] theorem neS_bl (b : Bool) (y : W) : neS (.bl b) y = neW (.bl b) y := by cases y <;> rfl
end PF
namespace PF
open PySem PySem.Spec PyProof.Rows L2
theorem T.AllB.more {α : Type} {P : Nat → α → Prop} {E : Nat → Nat → List W → Prop} : ∀ {t : T α} {d e : Nat}, t.AllB (fun _ a => P 0 a) (fun _ c fs => E 0 c fs) d → d ≤ e → t.AllB (fun _ a => P 0 a) (fun _ c fs => E 0 c fs) e
  | .ok a, d, e, h, _ => h
  | .exc _ _, d, e, h, _ => h
  | .bad, d, e, h, _ => h
  | .ask n k, d, e, h, l => by
    obtain ⟨d', rfl, h⟩ := h
    exact ⟨e - 1, by omega, fun i hi => T.AllB.more (h i hi) (by omega)⟩
def Sh (n k : Nat) (w : W) : Prop := ∃ d, w.toD = some d ∧ d.showable = true ∧ d.hasDict = false ∧ d.depth ≤ k ∧ d.shown.length ≤ n ∧ d.canLay0 = true
theorem Sh.low {n k : Nat} {w : W} (h : Sh n k w) : low k w := by
  obtain ⟨d, h1, h2, h3, h4, h5, h6⟩ := h
  exact ⟨d, h1, h6, h4⟩
end PF
namespace PF
open PySem PySem.Spec PyProof.Rows L2
def seqD : PyData → Option (List PyData)
  | .list ds => some ds
  | .tuple ds => some ds
  | _ => none
/-- whether x is among y's things -/
def inO (x y : W) : Option Bool := match x.toD, y.toD with
  | some d, some e => match seqD e with
    | some ds => if SeqAt.shaped d && SeqAt.shaped e then some (ds.any fun z => PyData.eqv z d) else none
    | none => none
  | _, _ => none
def inW (x y : W) : T W := match inO x y with
  | some b => .ok (.bl b)
  | none => .bad
def sPar3 (i j l : Nat) (fs : En → T (List W)) : En → T (Fl × En) := fun ρ => (fs ρ).bind fun xs => match xs with
  | [x, y, z] => .ok (.nx, ((ρ.set i (.val x)).set j (.val y)).set l (.val z))
  | _ => .bad
@[simp] theorem sPar3_eq (i j l : Nat) (fs : En → T (List W)) (ρ : En) : sPar3 i j l fs ρ = (fs ρ).bind fun xs => match xs with
  | [x, y, z] => .ok (.nx, ((ρ.set i (.val x)).set j (.val y)).set l (.val z))
  | _ => .bad := rfl
end PF
namespace PF
open PySem PySem.Spec PyProof.Rows L2
def TupI (h : Heap) (v : Value) (ns : List Int) : Prop := ∃ (a : Addr) (o : Obj) (its : List Value) (n : Nat), v = .ref a ∧ h.get? a = some o ∧ o.cls = .type "tuple" ∧ o.data = .seq its.toArray n ∧ IntsAre its ns
theorem TupI.keeps {h h' : Heap} {v : Value} {ns : List Int} (t : TupI h v ns) (k : ∀ b o, h.get? b = some o → o.cls = .type "tuple" → h'.get? b = some o) : TupI h' v ns := by
  obtain ⟨a, o, its, n, e, ho, hc, hd, hi⟩ := t
  exact ⟨a, o, its, n, e, k _ _ ho hc, hc, hd, hi⟩
end PF
namespace PF
open PySem PySem.Spec PyProof.Rows L2
def SqB (K : PySem.W.Frag) (b : Bool) (H : Hp) (a : Addr) (xs : List V) : Prop := match b with
  | true => SqT K H a xs
  | false => SqL K H a xs
def hpB (b : Bool) (h : Heap) (a : Addr) (its : Array Value) : Prop := match b with
  | true => h.IsTuple a its
  | false => h.IsList a its
def itB (b : Bool) (h : Heap) (it a : Addr) (i : Nat) : Prop := match b with
  | true => h.IsTupleIter it a i
  | false => h.IsListIter it a i
def obB (b : Bool) (a : Addr) : Obj := { cls := .type (match b with | true => "tuple_iterator" | false => "list_iterator"), data := .fields #[.ref a, .int 0 0] }
theorem hpB.lt {b : Bool} {h : Heap} {a : Addr} {its : Array Value} (p : hpB b h a its) : a < h.objs.size := by
  cases b with
  | true =>
    obtain ⟨_, q, _⟩ := id (show h.IsTuple a its from p)
    exact Heap.lt_size q
  | false =>
    obtain ⟨_, q, _⟩ := id (show h.IsList a its from p)
    exact Heap.lt_size q
theorem itB.keep {b : Bool} {h h' : Heap} {it a : Addr} {i : Nat} (p : itB b h it a i) (k : ∀ o, h.get? it = some o → h'.get? it = some o) : itB b h' it a i := by
  cases b with
  | true => exact Heap.IsTupleIter.at (show h.IsTupleIter it a i from p) k
  | false => exact Heap.IsListIter.at (show h.IsListIter it a i from p) k
theorem itB.obj {b : Bool} {h : Heap} {it a : Addr} {i : Nat} (p : itB b h it a i) : ∃ o fs, h.get? it = some o ∧ o.data = .fields fs := by
  cases b with
  | true =>
    obtain ⟨o, q, _, d⟩ := (show h.IsTupleIter it a i from p)
    exact ⟨o, _, q, d⟩
  | false =>
    obtain ⟨o, q, _, d⟩ := (show h.IsListIter it a i from p)
    exact ⟨o, _, q, d⟩
theorem itB.first {b : Bool} {h : Heap} {it a : Addr} (p : h.get? it = some (obB b a)) : itB b h it a 0 := by
  cases b with
  | true => exact ⟨_, p, rfl, rfl⟩
  | false => exact ⟨_, p, rfl, rfl⟩
def isTW : W → Option (Bool × List W)
  | .tup ws => some (true, ws)
  | .lst ws => some (false, ws)
  | _ => none
section
variable {K : PySem.W.Frag} {c : Cc} {d : Dw} {H H1 : Hp}
/-- a row that is plain data -/
def RowB (K : PySem.W.Frag) (c : Cc) (H : Hp) (b : Bool) (a : Addr) (vs : List V) : Prop := match b with
  | true => SqT K H a vs
  | false => a ∉ c.A ∧ H a = some (.lst vs)
theorem RowB.sq {b : Bool} {a : Addr} {vs : List V} (h : RowB K c H b a vs) : SqB K b H a vs := by
  cases b with
  | true => exact h
  | false => exact SqL.of h.2
theorem RowB.fwd {c' : Cc} {H' : Hp} {b : Bool} {a : Addr} {vs : List V} (ok : CcOk c) (mo : MOk c H) (h : RowB K c H b a vs) (fw : Fwd K c H c' H') : SqB K b H' a vs := by
  cases b with
  | true => exact fw.sq a vs h
  | false => exact SqL.of (fw.step _ _ h.2 (ok.neS h.1) (ok.nela h.1) (fun z => h.1 (mo.inA _ z)) nofun)
theorem Rep.row {w : W} {v : V} {b : Bool} {ws : List W} (r : Rep K c H w v) (h : isTW w = some (b, ws)) : ∃ a vs, v = .ref a ∧ RowB K c H b a vs ∧ RepL K c H ws vs := by
  cases r with
  | tup hq rl =>
    cases h
    exact ⟨_, _, rfl, hq, rl⟩
  | lst n hq rl =>
    cases h
    exact ⟨_, _, rfl, ⟨n, hq⟩, rl⟩
  | _ => cases h
end
end PF
namespace PF
open PySem PySem.Spec PyProof.Rows L2
/-- what the written part says of an error's class at C; nw, tl: the base's maker and its line -/
structure XCl (K : PySem.W.Frag) (C : Addr) (nw : String) (tl : List Value) : Prop where
  ini : PySem.W.excInitIn K C tl nw = true
  ovr : PySem.W.excOver K C tl = true
  dct : PySem.W.hasDictIn K C = true
  sat : PySem.W.findIn K (.ref C) "__setattr__" = some (some (.builtin "object.__setattr__"))
  sub : PySem.W.subIn K (.ref C) (.type "BaseException") = some true
  typ : PySem.W.typeIn K (.ref C) = some (.type "type")
  kee : PySem.W.keepIn K (.ref C) = true
def xclB (K : PySem.W.Frag) (C : Addr) (nw : String) (tl : List Value) : Bool :=
  PySem.W.excInitIn K C tl nw && (PySem.W.excOver K C tl && (PySem.W.hasDictIn K C && (decide (PySem.W.findIn K (.ref C) "__setattr__" = some (some (.builtin "object.__setattr__"))) &&
    (decide (PySem.W.subIn K (.ref C) (.type "BaseException") = some true) && (decide (PySem.W.typeIn K (.ref C) = some (.type "type")) && PySem.W.keepIn K (.ref C))))))
/-- what __init__(self, x): Base.__init__(self, ".."); self.f = x does -/
def spI (K : PySem.W.Frag) (nw : String) (tl : List Value) (f : Str) : Sp := fun vs H Q _ => ∃ (a C : Addr) (v : V), vs = [.ref a, v] ∧ H a = some (exo a C none) ∧ XCl K C nw tl ∧ PySem.W.findIn K (.ref C) f = some none ∧
  ∀ dx, H dx = none → dx ≠ a → Q .non (upd (upd H dx (exd dx [(f, v)])) a (exo a C (some dx)))
/-- the error with the number n is made by its class's name, of one field -/
structure XIs (P : Program) (w : World) (K : PySem.W.Frag) (mg : Str → Option Value) (base : Heap) (n : Nat) (nw : String) (tl : List Value) : Prop where
  gl : mg (xName n) = some (.ref (He.ga K (xName n)))
  cl : XCl K (He.ga K (xName n)) nw tl
  no : ∀ f ∈ xFlds n, PySem.W.findIn K (.ref (He.ga K (xName n))) f = some none
  ex : ∃ (B ini : String) (fI : Addr) (fd : FuncData) (ps : List Str) (f : Str), xFlds n = [f] ∧ ExcBaseFacts B nw ini tl ∧ PySem.W.findIn K (.ref (He.ga K (xName n))) "__init__" = some (some (.ref fI)) ∧ PySem.W.typeIn K (.ref fI) = some (.type "function") ∧
    FnOk P w K mg base (L2.CX P w) 1 fI fd ps (spI K nw tl f) ∧ Binds K fd ps []
end PF
namespace PF
open PySem PySem.Spec PyProof.Rows L2
/-- one clause: the class, the slot of its name, the suite's reading -/
abbrev Cla := Value × Option Nat × (Addr → Value → Option Addr → TS)
inductive ClsOk (X : Cx) : List ExceptHandler → List Cla → Prop
  | nil : ClsOk X [] []
  | bare {x : Str} {c : Value} {ts : Addr → Value → Option Addr → TS} {b0 : Stmt} {su : List Stmt} {np ps : Pos} {hds : List ExceptHandler} {l : List Cla} (hc : Names X x c)
      (hsu : ∀ (a : Addr) (oe : Obj) (cls : Value) (dx : Option Addr) (pn : List (Addr × Obj)), Zc cls dx oe → (∃ vs, oe.data = .fields vs) → PSs (X.suite a ((a, oe) :: pn)) (b0 :: su) (ts a cls dx)) (r : ClsOk X hds l) :
      ClsOk X (.ExceptHandler (some (.Name x np)) none (b0 :: su) ps :: hds) ((c, none, ts) :: l)
  | named {x n : Str} {i : Nat} {c : Value} {ts : Addr → Value → Option Addr → TS} {b0 : Stmt} {su : List Stmt} {np ps : Pos} {hds : List ExceptHandler} {l : List Cla} (hc : Names X x c) (hi : X.N[i]? = some n) (hl : X.env.kindOf n = some .local)
      (hsu : ∀ (a : Addr) (oe : Obj) (cls : Value) (dx : Option Addr) (pn : List (Addr × Obj)), Zc cls dx oe → (∃ vs, oe.data = .fields vs) → PSs (X.suite a ((a, oe) :: pn)) (b0 :: su) (ts a cls dx)) (r : ClsOk X hds l) :
      ClsOk X (.ExceptHandler (some (.Name x np)) (some n) (b0 :: su) ps :: hds) ((c, some i, ts) :: l)
/-- a clause's run: which errors it takes, its name's slot, what it tells of the fields -/
structure Hd where
  m : Nat → Bool
  io : Option Nat
  h : Nat → List W → T W
def kRet : W → En → Fl × En := fun w ρ => (.rt w, ρ)
def kSet (j : Nat) : W → En → Fl × En := fun w ρ => (.nx, ρ.set j (.val w))
/-- the reading of an expression of the suite: a the error, of the class n, with its fields -/
def liftX (K : PySem.W.Frag) (ns : List Nat) (io : Option Nat) (h : Nat → List W → T W) (a : Addr) (cls : Value) (dx : Option Addr) : TE := fun σ H Q => ∃ (c : Cc) (d : Dw) (n : Nat) (fs : List W), n ∈ ns ∧ Wd c d H ∧ (∀ i, io = some i → σ[i]? = some (some (.ref a))) ∧ RepX K c H n fs cls dx ∧ ∃ E', (h n fs).AllW (PQ K c H Q) E' d
theorem RepX.step {K : PySem.W.Frag} {c c' : Cc} {d : Dw} {H H' : Hp} {n : Nat} {fs : List W} {cls : Value} {dx : Option Addr} (st : SG c c' H H') (wd : Wd c d H) (r : RepX K c H n fs cls dx) : RepX K c' H' n fs cls dx := by
  obtain ⟨r1, d', vs, r2, r3, r4, r5⟩ := r
  obtain ⟨kvs, hS⟩ := wd.st.S
  obtain ⟨xs, hl⟩ := wd.st.la
  exact ⟨r1, d', vs, r2, st.st.keep _ _ r3 (ne_of r3 hS (by intro z; cases z)) (ne_of r3 hl (by intro z; cases z)) nofun, r4, r5.step st wd.st wd.ok⟩
def hC (w : W) : Nat → List W → T W := fun _ _ => .ok w
def hF (k : Nat) : Nat → List W → T W := fun _ fs => match fs[k]? with
  | some w => .ok w
  | none => .bad
inductive KK where
  | ret | set (j : Nat)
def KK.k : KK → W → En → Fl × En
  | .ret => kRet
  | .set j => kSet j
def KK.aft : KK → Ends → L2.St → VK
  | .ret => fun D _ v H => D.rt v H
  | .set j => fun D σ v H => D.nx (σ.set j (some v)) H
def tSu (K : PySem.W.Frag) (kk : KK) (ns : List Nat) (io : Option Nat) (h : Nat → List W → T W) (a : Addr) (cls : Value) (dx : Option Addr) : TS := fun D σ H => liftX K ns io h a cls dx σ H (kk.aft D σ)
/-- clauses of one statement each; ns: the errors that there are -/
inductive TrC (X : Cx) (kk : KK) (ns : List Nat) : List ExceptHandler → List Hd → List Cla → Prop
  | nil : TrC X kk ns [] [] []
  | cons {x : Str} {c : Value} {no : Option Str} {ms : List Nat} {m : Nat → Bool} {io : Option Nat} {h : Nat → List W → T W} {su : Stmt} {np ps : Pos} {hds : List ExceptHandler} {hs : List Hd} {l : List Cla} (hc : Names X x c) (hi : ∀ i, io = some i → ∃ n, no = some n ∧ X.N[i]? = some n ∧ X.env.kindOf n = some .local) (hio : io = none → no = none)
      (hm : ∀ n ∈ ns, PySem.W.exmOne X.K (.ref (He.ga X.K (xName n))) c = some (m n)) (hms : ∀ n ∈ ns, m n = true → n ∈ ms)
      (hsu : ∀ (a : Addr) (oe : Obj) (cls : Value) (dx : Option Addr) (pn : List (Addr × Obj)), Zc cls dx oe → (∃ vs, oe.data = .fields vs) → PSs (X.suite a ((a, oe) :: pn)) [su] (tSu X.K kk ms io h a cls dx)) (r : TrC X kk ns hds hs l) :
      TrC X kk ns (.ExceptHandler (some (.Name x np)) no [su] ps :: hds) (⟨m, io, h⟩ :: hs) ((c, io, tSu X.K kk ms io h) :: l)
theorem TrC.ok {X : Cx} {kk : KK} {ns : List Nat} : ∀ {hds : List ExceptHandler} {hs : List Hd} {l : List Cla}, TrC X kk ns hds hs l → ClsOk X hds l
  | _, _, _, .nil => .nil
  | _, _, _, .cons (io := none) hc hi hio hm hms hsu r => by
    rw [hio rfl]
    exact .bare hc hsu r.ok
  | _, _, _, .cons (io := some i) hc hi hio hm hms hsu r => by
    obtain ⟨n, rfl, h1, h2⟩ := hi i rfl
    exact .named hc h1 h2 hsu r.ok
end PF
namespace PF
open PySem PySem.Spec PyProof.Rows L2
def mth (st : Stmt) : Stmt := match st with
  | .ClassDef (body := b :: _) .. => b
  | s => s
abbrev tlV : List Value := [.type "ValueError", .type "Exception", .type "BaseException", .type "object"]
abbrev tlO : List Value := [.type "OverflowError", .type "ArithmeticError", .type "Exception", .type "BaseException", .type "object"]
/-- an own class that gives its base's __init__ -/
def iniB : Option PySem.W.CFound → String → Bool
  | some (.val (.builtin b)), ini => decide (b = ini)
  | _, _ => false
def ownB (K : PySem.W.Frag) (C : Addr) (ini : String) : Bool := PySem.W.readsIn K C (.type "type") && (decide (PySem.W.specialIn K (.ref C) "__getattribute__" = some (some (.builtin "type.__getattribute__"))) && iniB (PySem.W.findCls K (.ref C) (.type "type") "__init__") ini)
/-- all of a class that the head says -/
def xB (K : PySem.W.Frag) (x f : Str) (nw : String) (tl : List Value) : Bool := xclB K (He.ga K x) nw tl && (decide (PySem.W.findIn K (.ref (He.ga K x)) f = some none) && (decide (PySem.W.findIn K (.ref (He.ga K x)) "__init__" = some (some (.ref (He.ma K (He.ga K x) "__init__")))) &&
  (decide (PySem.W.typeIn K (.ref (He.ma K (He.ga K x) "__init__")) = some (.type "function")) && xfB K (He.ga K x))))
structure XB (K : PySem.W.Frag) (x f : Str) (nw : String) (tl : List Value) : Prop where
  cl : XCl K (He.ga K x) nw tl
  no : PySem.W.findIn K (.ref (He.ga K x)) f = some none
  ic : PySem.W.findIn K (.ref (He.ga K x)) "__init__" = some (some (.ref (He.ma K (He.ga K x) "__init__")))
  ti : PySem.W.typeIn K (.ref (He.ma K (He.ga K x) "__init__")) = some (.type "function")
  xf : XfC K (He.ga K x)
theorem XB.is {P : Program} {w : World} {K : PySem.W.Frag} {mg : Str → Option Value} {base : Heap} {n : Nat} {nw B ini : String} {tl : List Value} {fd : FuncData} {ps : List Str} {f : Str} (h : XB K (xName n) f nw tl) (hf : xFlds n = [f]) (gl : mg (xName n) = some (.ref (He.ga K (xName n)))) (FB : ExcBaseFacts B nw ini tl)
    (F : FnOk P w K mg base (L2.CX P w) 1 (He.ma K (He.ga K (xName n)) "__init__") fd ps (spI K nw tl f)) (hb : Binds K fd ps []) : XIs P w K mg base n nw tl :=
  ⟨gl, h.cl, fun g hg => (by
    rw [hf] at hg
    rcases List.mem_cons.mp hg with rfl | hg
    · exact h.no
    · cases hg), B, ini, _, fd, ps, f, hf, FB, h.ic, h.ti, F, hb⟩
end PF
namespace PF
open PySem PySem.Spec PyProof.Rows L2
/-- where its default lies -/
def DOk (one : Option Str) (dV : Value) (H : Hp) (fr : List Addr) (h : Heap) : Prop := match one with
  | none => dV = .none
  | some _ => ∃ (D : Addr) (u : Value), dV = .ref D ∧ h.get? D = some { cls := .type "tuple", data := .seq #[u] } ∧ H D = none ∧ D ∉ fr
/-- all stays, tables grow -/
structure Grow (H H1 : Hp) : Prop where
  keep : ∀ b o, H b = some o → (∀ ps, o ≠ .tbl ps) → H1 b = some o
  tbl : ∀ b ps, H b = some (.tbl ps) → ∃ more, H1 b = some (.tbl (ps ++ more))
theorem Grow.refl (H : Hp) : Grow H H := ⟨fun _ _ e _ => e, fun _ ps e => ⟨#[], by rw [e]; simp⟩⟩
theorem Grow.step {c : Cc} {H H1 : Hp} (g : Grow H H1) : Step c H H1 := ⟨fun b o e _ _ n => g.keep b o e n.t, g.tbl, fun b C dx fs e => ⟨fs, g.keep b _ e nofun⟩⟩
theorem StOk.grow {c : Cc} {d : Dw} {H H1 : Hp} (s : StOk c d H) (gr : Grow H H1) (T1 : LamX.Tabs c.T H1) : StOk c d H1 := by
  have s' := s
  obtain ⟨⟨cells, lefts, kk, r, h1, h2, h3, h4, h5, h6, h7, h8, h9⟩, ob⟩ := s'
  exact ⟨⟨cells, lefts, kk, r, gr.keep _ _ h1 nofun, gr.keep _ _ h2 nofun, gr.keep _ _ h3 nofun, h4, h5, h6, h7, h8, T1⟩, ob.same ob.ok rfl rfl (fun a C dx fl h => gr.keep _ _ h nofun) fun ws vs q => q.step (.of gr.step) s ob.ok⟩
structure LmS (N : List Str) (sc scope : Scope) (one : Option Str) : Prop where
  kind : scope.kind = .function
  co : scope.isCoroutine = false
  gen : scope.isGenerator = false
  own : ∀ y ∈ scope.names, y.2 ≠ .cell ∧ (y.2 = .local → y.1 ∉ N)
  free : ∀ y ∈ scope.names, y.2 = .free → sc.names.lookup y.1 = some .cell ∨ sc.names.lookup y.1 = some .free
  par : ∀ x, one = some x → scope.names.lookup x = some .local
section
variable {X : Cx} {pins : List (Addr × Obj)} {σ : L2.St} {H HZ : Hp} {s s1 : Shared} {scope : Scope} {one : Option Str}
theorem LmS.has (L : LmS X.N X.env.scope scope one) (ok : X.Ok) : ∀ y ∈ scope.names, y.2 = .free → ∃ c, X.env.cells.lookup y.1 = some c := fun y hy e => by
  rcases L.free y hy e with k | k
  · exact ok.has _ (.inl k)
  · exact ok.has _ (.inr k)
theorem DOk.later {dV : Value} (d : DOk one dV H (frs X.stack) s.heap) (un : Un (frs X.stack) [] H HZ s.heap s1.heap) : DOk one dV H (frs X.stack) s1.heap := by
  cases one with
  | none => exact d
  | some x =>
    obtain ⟨D, u, e, hD, n, nf⟩ := d
    exact ⟨D, u, e, un.keep D _ hD n nf (by simp), n, nf⟩
end
end PF
namespace PF
open PySem PySem.Spec PyProof.Rows L2 He
/-- code objects, their tables, the names of their lambdas -/
def tabC (K : PySem.W.Frag) : List (Addr × Addr × Str) := K.filterMap fun x => match x.2.data with
  | .func fd => (match fd.code with
    | .ref c => some (c, He.tabOf K c, fd.qualname ++ ".<locals>." ++ "<lambda>")
    | _ => none)
  | _ => none
def apartB : List (Addr × Str) → Bool
  | [] => true
  | p :: r => r.all (fun q => p.1 != q.1 || decide (p.2 = q.2)) && apartB r
theorem apartB_ok : ∀ {l : List (Addr × Str)}, apartB l = true → ∀ p ∈ l, ∀ q ∈ l, q.1 = p.1 → q.2 = p.2
  | [], _, p, hp, _, _, _ => by cases hp
  | x :: r, h, p, hp, q, hq, e => by
    unfold apartB at h
    obtain ⟨h1, h2⟩ := Bool.and_eq_true_iff.mp h
    have key : ∀ y ∈ r, x.1 = y.1 → x.2 = y.2 := fun y hy z => by
      have := List.all_eq_true.mp h1 y hy
      rcases Bool.or_eq_true_iff.mp this with g | g
      · simp [z] at g
      · exact of_decide_eq_true g
    rcases List.mem_cons.mp hp with hp1 | hp1
    · rcases List.mem_cons.mp hq with hq1 | hq1
      · rw [hp1, hq1]
      · subst hp1
        exact (key q hq1 e.symm).symm
    · rcases List.mem_cons.mp hq with hq1 | hq1
      · subst hq1
        exact key p hp1 e
      · exact apartB_ok h2 p hp1 q hq1 e
def tabOkB (g : Addr → Option Obj) (K : PySem.W.Frag) : Bool := ((tabC K).all fun x => PySem.W.codeHdIn K x.1 x.2.1 && (match g x.2.1 with
  | some o => emptyTab o
  | none => false)) && apartB (tabL K)
structure SaysL (fa : List Fa) (fn : List DefD) (ex : PySem.W.Frag → Bool) (h : Heap) (K : PySem.W.Frag) : Prop where
  d : SaysD fa fn K
  more : ex K = true
  hd : ∀ x ∈ tabC K, PySem.W.codeHdIn K x.1 x.2.1 = true
  out : ∀ x ∈ tabC K, K.lookup x.2.1 = none
  empty : ∀ x ∈ tabC K, h.get? x.2.1 = some { cls := .none, data := .fields #[] }
  apart : ∀ p ∈ tabL K, ∀ q ∈ tabL K, q.1 = p.1 → q.2 = p.2
abbrev AlL : Type := AlD × Bool
end PF
namespace PF
open PySem PySem.Spec PyProof.Rows L2
def keyW : W → Option Key
  | .int i => some (.inl i)
  | .str x => some (.inr x)
  | _ => none
def putW (acc : List (Key × W)) (k : Key) (v : W) : List (Key × W) :=
  if (acc.any fun kv => decide (kv.1 = k)) = true then acc.map (fun kv => if kv.1 = k then (kv.1, v) else kv) else acc ++ [(k, v)]
section
variable {K : PySem.W.Frag} {c : Cc} {H : Hp}
theorem RepD.len {acc : List (Key × W)} {kvs : List (Key × V)} (h : RepD K c H acc kvs) : acc.length = kvs.length := by
  have := congrArg List.length h.1
  simpa using this
theorem RepD.cons {k k' : Key} {w : W} {v : V} {acc : List (Key × W)} {kvs : List (Key × V)} (h : RepD K c H ((k, w) :: acc) ((k', v) :: kvs)) : k = k' ∧ Rep K c H w v ∧ RepD K c H acc kvs := by
  obtain ⟨h1, h2⟩ := h
  simp only [List.map_cons] at h1 h2
  cases h2 with
  | cons r rr =>
    injection h1 with e1 e2
    exact ⟨e1, r, e2, rr⟩
theorem RepD.mk {k : Key} {w : W} {v : V} {acc : List (Key × W)} {kvs : List (Key × V)} (r : Rep K c H w v) (h : RepD K c H acc kvs) : RepD K c H ((k, w) :: acc) ((k, v) :: kvs) := ⟨by simp only [List.map_cons, h.1], .cons r h.2⟩
theorem RepD.any {k : Key} : ∀ {acc : List (Key × W)} {kvs : List (Key × V)}, RepD K c H acc kvs → (acc.any fun kv => decide (kv.1 = k)) = (kvs.any fun kv => decide (kv.1 = k))
  | [], [], _ => rfl
  | [], _ :: _, h => by
    have := h.1
    cases this
  | _ :: _, [], h => by
    have := h.1
    cases this
  | (a, w) :: acc, (b, v) :: kvs, h => by
    obtain ⟨rfl, r, h⟩ := h.cons
    simp only [List.any_cons, RepD.any (k := k) h]
theorem RepD.map {k : Key} {w : W} {v : V} (rw_ : Rep K c H w v) : ∀ {acc : List (Key × W)} {kvs : List (Key × V)}, RepD K c H acc kvs → RepD K c H (acc.map fun kv => if kv.1 = k then (kv.1, w) else kv) (kvs.map fun kv => if kv.1 = k then (kv.1, v) else kv)
  | [], [], h => h
  | [], _ :: _, h => by
    have := h.1
    cases this
  | _ :: _, [], h => by
    have := h.1
    cases this
  | (a, x) :: acc, (b, y) :: kvs, h => by
    obtain ⟨rfl, r, h⟩ := h.cons
    have ih := RepD.map (k := k) rw_ h
    simp only [List.map_cons]
    by_cases e : a = k
    · simp only [e, if_true]
      exact .mk rw_ ih
    · simp only [e, if_false]
      exact .mk r ih
theorem RepD.put {k : Key} {w : W} {v : V} {acc : List (Key × W)} {kvs : List (Key × V)} (h : RepD K c H acc kvs) (r : Rep K c H w v) : RepD K c H (putW acc k w) (putK kvs k v) := by
  unfold putW putK
  rw [h.any]
  split
  · exact h.map r
  · refine ⟨by simp [h.1], ?_⟩
    rw [List.map_append, List.map_append]
    exact h.2.append (.cons r .nil)
end
theorem Rep.keyE {K : PySem.W.Frag} {c : Cc} {H : Hp} {w : W} {v : V} {k : Key} (r : Rep K c H w v) (h : keyW w = some k) : v = kV k := by
  cases r <;> first | (cases h; rfl) | cases h
end PF
namespace PF
open PySem PySem.Spec PyProof.Rows L2
@[irreducible] def dRoom (ws : List (Key × W)) : Bool := decide (ws.length < 16777216)
end PF
namespace PF
open PySem PySem.Spec PyProof.Rows L2
section
variable {P : Program} {w : World} {H H' : Hp} {h h' B : Heap} {as : List Addr} {fs : List Addr}
/-- told at all of as, as they stand in h -/
def Lent (H : Hp) (as : List Addr) (h : Heap) : Prop := ∀ a ∈ as, ∃ o, h.get? a = some o ∧ H a = some (ObX a o)
end
end PF
namespace PF
open PySem PySem.Spec PyProof.Rows L2
section
variable {K : PySem.W.Frag} {c : Cc} {d : Dw} {H H' : Hp}
mutual
theorem Rep.plain (k : ∀ b o, H b = some o → (∀ φ, o ≠ .ext φ) → H' b = some o) : ∀ {w : W} {v : V}, PF.plain w = true → Rep K c H w v → Rep K c H' w v
  | _, _, _, .non => .non
  | _, _, _, .bl b => .bl b
  | _, _, _, .int i => .int i
  | _, _, _, .str x => .str x
  | _, _, p, .tup h r => .tup (by
      rcases h with (h | ⟨o, h⟩) | h
      · exact .inl (.inl (k _ _ h nofun))
      · exact .inl (.inr ⟨o, k _ _ h nofun⟩)
      · exact .inr h) (RepL.plain k (by unfold PF.plain at p; exact p) r)
  | _, _, p, .lst n h r => .lst n (k _ _ h nofun) (RepL.plain k (by unfold PF.plain at p; exact p) r)
  | _, _, p, .dct n h r => .dct n (k _ _ h nofun) (RepL.plain k (by unfold PF.plain at p; exact p) r)
  | _, _, _, .obj h => .obj h
  | _, _, p, .dcu n h r => .dcu n (k _ _ h nofun) (RepL.plain k (by unfold PF.plain at p; exact p) r)
  | _, _, p, .ptp n h hd r => .ptp n (k _ _ h nofun) hd (RepL.plain k (by unfold PF.plain at p; exact p) r)
  | _, _, _, .scr h => .scr (h.imp (fun ⟨n, r⟩ => ⟨n, r.imp (fun e => k _ _ e nofun) fun ⟨o, e⟩ => ⟨o, k _ _ e nofun⟩⟩) id)
  | _, _, _, .stt => .stt
  | _, _, p, .lam h => by cases p
  | _, _, p, .clo h g n m pl r => by cases p
  | _, _, p, .exo h1 h2 h3 r => by cases p
  | _, _, p, .exn h1 => by cases p
  | _, _, _, .key h => .key (k _ _ h nofun)
theorem RepL.plain (k : ∀ b o, H b = some o → (∀ φ, o ≠ .ext φ) → H' b = some o) : ∀ {ws : List W} {vs : List V}, plainL ws = true → RepL K c H ws vs → RepL K c H' ws vs
  | _, _, _, .nil => .nil
  | _, _, p, .cons h r => by
    unfold plainL at p
    obtain ⟨p1, p2⟩ := Bool.and_eq_true_iff.mp p
    exact .cons (Rep.plain k p1 h) (RepL.plain k p2 r)
end
end
section
variable {P : Program} {w : World} {K : PySem.W.Frag} {c : Cc} {d : Dw} {H H' : Hp} {h : Heap} {as : List Addr}
/-- cells, told -/
def CellsX (H : Hp) (as : List Addr) (h : Heap) : Prop := ∀ a ∈ as, ∃ o u, h.get? a = some o ∧ H a = some (ObX a o) ∧ o.data = .cell u
theorem CellsX.lent (l : CellsX H as h) : Lent H as h := fun a m => by
  obtain ⟨o, u, h1, h2, _⟩ := l a m
  exact ⟨o, h1, h2⟩
theorem CellsX.no (l : CellsX H as h) {b : Addr} {o : HO} (e : H b = some o) (n : ∀ φ, o ≠ .ext φ) : b ∉ as := fun z => by
  obtain ⟨_, _, _, q, _⟩ := l b z
  rw [e] at q
  exact n _ (Option.some.inj q)
end
end PF
namespace PF
open PySem PySem.Spec PyProof.Rows L2
def kxB (K : PySem.W.Frag) (C : Addr) : Bool := (PySem.W.clsIn K C).isSome && (decide (PySem.W.findIn K (.ref C) "__class__" = some (some (.builtin "object.__class__"))) && (decide (PySem.W.specialIn K (.builtin "object.__class__") "__get__" = some (some (.builtin "getset_descriptor.__get__"))) && (decide (PySem.W.takesIn K (.builtin "object.__class__") = some true) && (decide (PySem.W.mroIn K C (.type "object") = some true) && xfB K C))))
end PF
namespace PF
open PySem PySem.Spec PyProof.Rows L2
def sysB (K : PySem.W.Frag) : Bool := match K.lookup sysModules with
  | some o => decide (o.cls = .type "dict")
  | none => false
@[irreducible] def reprOkD (d : PyData) : Bool := d.showable && decide (d.depth ≤ 60) && decide (d.shown.length ≤ 16777216)
end PF
namespace PF
open PySem PySem.Spec PyProof.Rows L2
section
variable {K : PySem.W.Frag} {c : Cc} {d : Dw} {oa : Nat → Addr} {ρ : En} {σ : L2.St} {H H' : Hp} {D : Addr}
theorem Step.backN {c1 : Cc} {d' : Dw} (st : SG c c1 H H') (so : StOk c1 d' H') (n : H' D = none) : H D = none := by
  cases h : H D with
  | none => rfl
  | some o =>
    have h1 : D ≠ c.S := fun z => by
      obtain ⟨kvs, q⟩ := so.S
      rw [st.g.S, ← z, n] at q
      cases q
    have h2 : D ≠ c.la := fun z => by
      obtain ⟨xs, q⟩ := so.la
      rw [st.g.la, ← z, n] at q
      cases q
    obtain ⟨o', q⟩ := st.st.there h h1 h2
    rw [n] at q
    cases q
theorem Gr.more {c c1 : Cc} (g : Gr c c1) (D : Addr) : Gr (c.more D) (c1.more D) := ⟨g.S, g.ca, g.la, congrArg (D :: ·) g.A, g.M, g.T, g.C, g.KK, g.O⟩
/-- what is wanted of a list that is made anew -/
def PQF (K : PySem.W.Frag) (c : Cc) (H : Hp) (Q : VK) : Dw → W → Prop := fun d w => ∀ ⦃cm : Cc⦄ D acc us H', w = .lst acc → H D = none → Gr (c.more D) cm → Step c H H' → StOk cm d H' → H' D = some (.lst us) → RepL K cm H' acc us → Q (.ref D) H'
theorem PQF.later {c1 : Cc} {d' : Dw} {Q : VK} {w : W} {H1 : Hp} {d0 d1 : Dw} (st : SG c c1 H H1) (s0 : StOk c d0 H) (s1 : StOk c1 d1 H1) (h : PQF K c H Q d' w) : PQF K c1 H1 Q d' w := fun cm D acc us H' e n g s o hD r => h D acc us H' e (Step.backN st s1 n) ((st.g.more D).trans g) (st.st.trans (s.gr st.g)) o hD r
end
section
variable {K : PySem.W.Frag} {c : Cc} {d : Dw} {oa : Nat → Addr} {ρ : En} {σ : L2.St} {H H' : Hp} {D : Addr}
/-- D is one of the frame's own -/
abbrev Cc.hold (c : Cc) (D : Addr) : Cc := { c with M := D :: c.M }
theorem Gr.hold {c c1 : Cc} (g : Gr c c1) (D : Addr) : Gr (c.hold D) (c1.hold D) := ⟨g.S, g.ca, g.la, g.A, congrArg (D :: ·) g.M, g.T, g.C, g.KK, g.O⟩
theorem SG.hold {c c1 : Cc} {H H' : Hp} (g : SG c c1 H H') (D : Addr) : SG (c.hold D) (c1.hold D) H H' := ⟨g.g.hold D, Step.to g.st rfl rfl⟩
theorem StOk.hold {c : Cc} {d : Dw} {H : Hp} (s : StOk c d H) (D : Addr) : StOk (c.hold D) d H := s.weak rfl rfl rfl rfl rfl rfl rfl (fun _ h => h) ⟨s.2.ok.inS, s.2.ok.inla, s.2.ok.inca⟩
end
theorem EnvOk.hold {K : PySem.W.Frag} {c : Cc} {d : Dw} {oa : Nat → Addr} {ρ : En} {σ : L2.St} {H : Hp} {D : Addr} {us : List V} (e : EnvOk K Γ c d oa ρ σ H) (hA : D ∈ c.A) (nst : D ∉ [c.S, c.ca, c.la]) (hD : H D = some (.lst us)) : EnvOk K Γ (c.hold D) d oa ρ σ H where
  ok := ⟨e.ok.inS, e.ok.inla, e.ok.inca⟩
  st := e.st.hold D
  av := e.av
  len := e.len
  val := fun i w h => by
    obtain ⟨v, h1, h2⟩ := e.val i w h
    exact ⟨v, h1, Rep.weak (c := c.hold D) (c1 := c) rfl rfl (fun _ h => h) h2⟩
  m := ⟨fun b hb => by
      rcases List.mem_cons.mp hb with rfl | hb
      · exact hA
      · exact e.m.inA b hb, fun b hb => by
      rcases List.mem_cons.mp hb with rfl | hb
      · exact nst
      · exact e.m.nst b hb, fun b hb => by
      rcases List.mem_cons.mp hb with rfl | hb
      · exact ⟨_, hD, .inl ⟨_, rfl⟩⟩
      · exact e.m.ls b hb⟩
  own := fun i ws h => by
    obtain ⟨h1, h3, vs, h4, h5⟩ := e.own i ws h
    exact ⟨List.mem_cons_of_mem _ h1, h3, vs, h4, RepL.weak (c := c.hold D) (c1 := c) rfl rfl (fun _ h => h) h5⟩
  inj := e.inj
  odc := fun i ws h => by
    obtain ⟨h1, h3, vs, h4, h5⟩ := e.odc i ws h
    exact ⟨List.mem_cons_of_mem _ h1, h3, vs, h4, h5.1, RepL.weak (c := c.hold D) (c1 := c) rfl rfl (fun _ h => h) h5.2⟩
  ido := e.ido
  odt := fun i ws h => by
    obtain ⟨h1, h3, vs, h4, h5⟩ := e.odt i ws h
    exact ⟨List.mem_cons_of_mem _ h1, h3, vs, h4, h5.1, RepL.weak (c := c.hold D) (c1 := c) rfl rfl (fun _ h => h) h5.2⟩
  idt := e.idt
  lk := e.lk.to (fun _ _ h _ => ⟨h, rfl⟩) (fun _ _ r => RepL.weak (c := c.hold D) (c1 := c) rfl rfl (fun _ h => h) r) fun _ m _ ne => ⟨List.mem_cons_of_mem _ m, fun _ h _ => h, ne⟩
  tT := e.tT
  cC := e.cC
  kK := e.kK
end PF
namespace PF
open PySem PySem.Spec PyProof.Rows L2 He
def obsE (as : List Addr) (fa : List Fa) (fn : List DefD) (ex : PySem.W.Frag → Bool) (g : Addr → Option Obj) : AlL := (obsD fa fn (frT g as), ex (frT g as) && tabOkB g (frT g as))
theorem saysE_of {as : List Addr} {fa : List Fa} {fn : List DefD} {ex : PySem.W.Frag → Bool} {h : Heap} (e : obsE as fa fn ex h.get? = (valD fn, true)) : SaysL fa fn ex h (frT h.get? as) := by
  have e1 : obsD fa fn (frT h.get? as) = valD fn := congrArg (fun z : AlL => z.1) e
  have e2 : (ex (frT h.get? as) && tabOkB h.get? (frT h.get? as)) = true := congrArg (fun z : AlL => z.2) e
  obtain ⟨h1, h2⟩ := Bool.and_eq_true_iff.mp e2
  unfold tabOkB at h2
  obtain ⟨h3, h4⟩ := Bool.and_eq_true_iff.mp h2
  have key : ∀ x ∈ tabC (frT h.get? as), PySem.W.codeHdIn (frT h.get? as) x.1 x.2.1 = true ∧ ∃ o, h.get? x.2.1 = some o ∧ emptyTab o = true := fun x hx => by
    obtain ⟨g1, g2⟩ := Bool.and_eq_true_iff.mp (List.all_eq_true.mp h3 x hx)
    refine ⟨g1, ?_⟩
    cases q : h.get? x.2.1 with
    | none =>
      rw [q] at g2
      cases g2
    | some o =>
      rw [q] at g2
      exact ⟨o, rfl, g2⟩
  refine ⟨e1, h1, fun x hx => (key x hx).1, fun x hx => ?_, fun x hx => ?_, apartB_ok h4⟩
  · obtain ⟨_, o, q, z⟩ := key x hx
    exact frT_none q z
  · obtain ⟨_, o, q, z⟩ := key x hx
    rw [q, emptyTab_eq z]
def hookE (as : List Addr) (fa : List Fa) (fn : List DefD) (ex : PySem.W.Frag → Bool) : PySem.W.Hook where
  α := AlL
  obs := fun s => obsE as fa fn ex s.heap.get?
  val := fun _ => (valD fn, true)
  says := fun _ h => ∃ K : PySem.W.Frag, K.In h ∧ SaysL fa fn ex h K
  of := fun _ _ e => ⟨_, frT_in, saysE_of e⟩
  keeps := fun _ _ _ ⟨K, hK, c⟩ k => ⟨K, PySem.W.Frag.In.keeps hK k, ⟨c.d, c.more, c.hd, c.out, fun x hx => k _ _ (c.empty x hx), c.apart⟩⟩
open HandSHeadRun PySem.W in
def RunV (r : OpenRow) (M : Nat) (w : World) {β : Type} (f : SharedT → β) (v : β) : Prop := ∀ os : OsState, (endF (stepQ (denQ tabQ) r.prog w) M r.prog w os).map f = some v
theorem obsD_app {fa : List Fa} {f1 f2 : List DefD} {K : PySem.W.Frag} (h1 : obsD fa f1 K = valD f1) (h2 : obsD [] f2 K = valD f2) : obsD fa (f1 ++ f2) K = valD (f1 ++ f2) := by
  unfold obsD valD at *
  injection h1 with a1 b1
  injection h2 with a2 b2
  obtain ⟨a3, a4⟩ := Bool.and_eq_true_iff.mp a1
  obtain ⟨_, a5⟩ := Bool.and_eq_true_iff.mp a2
  rw [List.map_append, List.map_append, b1, b2, List.all_append, a3, a4, a5]
  rfl
open HandSHeadRun PySem.W in
theorem run_parts {r : OpenRow} {q : Program} {M : Nat} {loose : List PySem.Str} {w : World} {as : List Addr} {fa : List Fa} {f1 f2 : List DefD} {ex : PySem.W.Frag → Bool}
    (hZ : RunV r M w (fun s => (looksF r.prog (boot_heap w.params) s.abs, seenQ q loose (importedModules r.prog.main.body) (fun s => xlAt q [] s && recOk r.toRowW.records s) s.abs)) (true, openGood q loose)) (hA : RunV r M w (fun s => obsD fa f1 (frT (getT s) as)) (valD f1))
    (hB : RunV r M w (fun s => obsD [] f2 (frT (getT s) as)) (valD f2)) (hC : RunV r M w (fun s => ex (frT (getT s) as)) true) (hD : RunV r M w (fun s => tabOkB (getT s) (frT (getT s) as)) true) :
    RunEq r q (hookE as fa (f1 ++ f2) ex) (fun s => obsE as fa (f1 ++ f2) ex (getT s)) M loose w := by
  intro os
  have z := hZ os
  have a := hA os
  have b := hB os
  have c := hC os
  have dd := hD os
  cases e : endF (stepQ (denQ tabQ) r.prog w) M r.prog w os with
  | none =>
    rw [e] at a
    cases a
  | some s =>
    rw [e] at z a b c dd
    have z := Option.some.inj z
    have a3 : obsD fa f1 (frT (getT s) as) = valD f1 := Option.some.inj a
    have b : obsD [] f2 (frT (getT s) as) = valD f2 := Option.some.inj b
    have c : ex (frT (getT s) as) = true := Option.some.inj c
    have dd : tabOkB (getT s) (frT (getT s) as) = true := Option.some.inj dd
    injection z with a1 a2
    have z : obsE as fa (f1 ++ f2) ex (getT s) = (valD (f1 ++ f2), true) := by
      unfold obsE
      rw [obsD_app a3 b, c, dd]
      rfl
    show some (_, _, obsE as fa (f1 ++ f2) ex (getT s)) = _
    rw [a1, a2, z]
    rfl
end PF
namespace PF
open PySem PySem.Spec PyProof.Rows L2
section
variable {K : PySem.W.Frag} {c : Cc} {d : Dw} {oa : Nat → Addr} {ρ : En} {σ : L2.St} {H : Hp} {i cl j : Nat} {a C dx : Addr} {fl gl : List (Str × V)}
theorem Step.put (h : H a = some (.ins C dx fl)) : Step c H (L2.upd H a (.ins C dx gl)) := ⟨fun b o e _ _ nt => by
    rw [upd_ne]
    · exact e
    · intro z
      subst z
      rw [h] at e
      cases e
      exact nt (.ins _ _ _), fun b ps e => ⟨#[], by rw [upd_ne (ne_of e h nofun), e]; simp⟩, fun b C' dx' fs e => by
    rcases Decidable.em (b = a) with z | z
    · subst z
      rw [h] at e
      cases e
      exact ⟨gl, upd_same⟩
    · exact ⟨fs, by rw [upd_ne z]; exact e⟩⟩
end
end PF
namespace PF
open PySem PySem.Spec PyProof.Rows L2
def inS (x y : W) : T W := match x, y with
  | .str a, .str z => match a.cps with
    | ⟨[c]⟩ => .ok (.bl (decide (c ∈ z.cps.toList)))
    | _ => .bad
  | _, _ => inW x y
end PF
namespace PF
open PySem PySem.Spec PyProof.Rows L2
def keyN (e : DictEntry) : Option Str := match e.key with
  | .str y _ => some y
  | _ => none
/-- the name x stands for a dict of the fragment with these text keys and values, in this order -/
structure KdAt (K : PySem.W.Frag) (w : World) (mg : Str → Option Value) (x : Str) (l : List (Str × W)) (a : Addr) (es : Array DictEntry) (n : Nat) : Prop where
  gl : mg x = some (.ref a)
  kd : KDict K w a es n
  keys : es.toList.map keyN = l.map fun q => some q.1
  vals : ∀ z v, l.lookup z = some v → ∃ u0 v0, PySem.W.nsIn K a z = some (some u0) ∧ RelV v0 u0 ∧ ∀ (c : Cc) (H : Hp), Rep K c H v v0
def keysL (l : List (Str × W)) : List Str := l.map fun q => q.1
theorem KdAt.len {K : PySem.W.Frag} {w : World} {mg : Str → Option Value} {x : Str} {l : List (Str × W)} {a : Addr} {es : Array DictEntry} {n : Nat} (D : KdAt K w mg x l a es n) : es.size = l.length := by
  have := congrArg List.length D.keys
  simpa using this
theorem KdAt.key {K : PySem.W.Frag} {w : World} {mg : Str → Option Value} {x : Str} {l : List (Str × W)} {a : Addr} {es : Array DictEntry} {n : Nat} (D : KdAt K w mg x l a es n) {i : Nat} {e : DictEntry} {y : Str} (h1 : es[i]? = some e) (h2 : (keysL l)[i]? = some y) : ∃ t, e.key = .str y t := by
  have h3 : (es.toList.map keyN)[i]? = (l.map fun q => some q.1)[i]? := by rw [D.keys]
  rw [List.getElem?_map, List.getElem?_map, Array.getElem?_toList, h1] at h3
  unfold keysL at h2
  rw [List.getElem?_map] at h2
  cases q : l[i]? with
  | none =>
    rw [q] at h2
    cases h2
  | some z =>
    rw [q] at h2 h3
    cases h2
    have h4 : keyN e = some z.1 := Option.some.inj h3
    unfold keyN at h4
    cases hk : e.key with
    | str y t =>
      rw [hk] at h4
      cases h4
      exact ⟨t, rfl⟩
    | _ =>
      rw [hk] at h4
      cases h4
end PF
namespace PF
open PySem PySem.Spec PyProof.Rows L2 He
abbrev AlK : Type := AlL × List (Option (List (Option (Str × Int))))
def obsK (as : List Addr) (fa : List Fa) (fn : List DefD) (ts : List Tab) (ex : PySem.W.Frag → Bool) (g : Addr → Option Obj) : AlK := (obsE as fa fn ex g, ts.map fun t => dicW (frT g as) (t.1 (frT g as)))
def valTs (ts : List Tab) (w : World) : List (Option (List (Option (Str × Int)))) := ts.map fun t => some (keysIn w.params t.2)
def SaysTs (ts : List Tab) (w : World) (K : PySem.W.Frag) : Prop := (ts.map fun t => dicW K (t.1 K)) = valTs ts w
def hookK (as : List Addr) (fa : List Fa) (fn : List DefD) (ts : List Tab) (ex : PySem.W.Frag → Bool) : PySem.W.Hook where
  α := AlK
  obs := fun s => obsK as fa fn ts ex s.heap.get?
  val := fun w => ((valD fn, true), valTs ts w)
  says := fun w h => ∃ K : PySem.W.Frag, K.In h ∧ SaysL fa fn ex h K ∧ SaysTs ts w K
  of := fun _ _ e => ⟨_, frT_in, saysE_of (congrArg (fun z : AlK => z.1) e), congrArg (fun z : AlK => z.2) e⟩
  keeps := fun _ _ _ ⟨K, hK, c, t⟩ k => ⟨K, PySem.W.Frag.In.keeps hK k, ⟨c.d, c.more, c.hd, c.out, fun x hx => k _ _ (c.empty x hx), c.apart⟩, t⟩
theorem obsK_eq {as : List Addr} {fa : List Fa} {fn : List DefD} {ts : List Tab} {ex : PySem.W.Frag → Bool} {g : Addr → Option Obj} {s : Shared} (h : ∀ a, g a = s.heap.get? a) : obsK as fa fn ts ex g = (hookK as fa fn ts ex).obs s := by
  have e : g = s.heap.get? := funext h
  rw [e]
  rfl
end PF
namespace PF
open PySem PySem.Spec PyProof.Rows L2
/-- what __init__(self, x, y): Base.__init__(self, ".."); self.f = x; self.g = y does -/
def spI2 (K : PySem.W.Frag) (nw : String) (tl : List Value) (f g : Str) : Sp := fun vs H Q _ => ∃ (a C : Addr) (v u : V), vs = [.ref a, v, u] ∧ H a = some (exo a C none) ∧ XCl K C nw tl ∧ PySem.W.findIn K (.ref C) f = some none ∧ PySem.W.findIn K (.ref C) g = some none ∧
  ∀ dx, H dx = none → dx ≠ a → Q .non (upd (upd (upd H dx (exd dx [(f, v)])) a (exo a C (some dx))) dx (exd dx [(g, u), (f, v)]))
/-- the error with the number n is made by its class's name, of two fields -/
structure XIs2 (P : Program) (w : World) (K : PySem.W.Frag) (mg : Str → Option Value) (base : Heap) (n : Nat) (nw : String) (tl : List Value) : Prop where
  gl : mg (xName n) = some (.ref (He.ga K (xName n)))
  cl : XCl K (He.ga K (xName n)) nw tl
  ex : ∃ (B ini : String) (fI : Addr) (fd : FuncData) (ps : List Str) (f g : Str), xFlds n = [f, g] ∧ PySem.W.findIn K (.ref (He.ga K (xName n))) f = some none ∧ PySem.W.findIn K (.ref (He.ga K (xName n))) g = some none ∧ ExcBaseFacts B nw ini tl ∧ PySem.W.findIn K (.ref (He.ga K (xName n))) "__init__" = some (some (.ref fI)) ∧ PySem.W.typeIn K (.ref fI) = some (.type "function") ∧
    FnOk P w K mg base (L2.CX P w) 1 fI fd ps (spI2 K nw tl f g) ∧ Binds K fd ps []
structure XB2 (K : PySem.W.Frag) (x f g : Str) (nw : String) (tl : List Value) : Prop where
  one : XB K x f nw tl
  no2 : PySem.W.findIn K (.ref (He.ga K x)) g = some none
theorem XB2.is {P : Program} {w : World} {K : PySem.W.Frag} {mg : Str → Option Value} {base : Heap} {n : Nat} {nw B ini : String} {tl : List Value} {fd : FuncData} {ps : List Str} {f g : Str} (h : XB2 K (xName n) f g nw tl) (hf : xFlds n = [f, g]) (gl : mg (xName n) = some (.ref (He.ga K (xName n)))) (FB : ExcBaseFacts B nw ini tl)
    (F : FnOk P w K mg base (L2.CX P w) 1 (He.ma K (He.ga K (xName n)) "__init__") fd ps (spI2 K nw tl f g)) (hb : Binds K fd ps []) : XIs2 P w K mg base n nw tl :=
  ⟨gl, h.one.cl, B, ini, _, fd, ps, f, g, hf, h.one.no, h.no2, FB, h.one.ic, h.one.ti, F, hb⟩
open HandSHeadRun PySem.W He in
theorem run_partsK {r : OpenRow} {q : Program} {M : Nat} {loose : List PySem.Str} {w : World} {as : List Addr} {fa : List Fa} {f1 f2 : List DefD} {ts : List Tab} {ex : PySem.W.Frag → Bool}
    (hZ : RunV r M w (fun s => (looksF r.prog (boot_heap w.params) s.abs, seenQ q loose (importedModules r.prog.main.body) (fun s => xlAt q [] s && recOk r.toRowW.records s) s.abs)) (true, openGood q loose)) (hA : RunV r M w (fun s => obsD fa f1 (frT (getT s) as)) (valD f1))
    (hB : RunV r M w (fun s => obsD [] f2 (frT (getT s) as)) (valD f2)) (hC : RunV r M w (fun s => ex (frT (getT s) as)) true) (hD : RunV r M w (fun s => tabOkB (getT s) (frT (getT s) as)) true) (hE : RunV r M w (fun s => ts.map fun t => dicW (frT (getT s) as) (t.1 (frT (getT s) as))) (valTs ts w)) :
    RunEq r q (hookK as fa (f1 ++ f2) ts ex) (fun s => obsK as fa (f1 ++ f2) ts ex (getT s)) M loose w := by
  intro os
  have z := run_parts hZ hA hB hC hD os
  have e := hE os
  cases y : endF (stepQ (denQ tabQ) r.prog w) M r.prog w os with
  | none =>
    rw [y] at e
    cases e
  | some s =>
    rw [y] at e z
    have e : (ts.map fun t => dicW (frT (getT s) as) (t.1 (frT (getT s) as))) = valTs ts w := Option.some.inj e
    have z := Option.some.inj z
    injection z with a1 z
    injection z with a2 a3
    have z : obsK as fa (f1 ++ f2) ts ex (getT s) = ((valD (f1 ++ f2), true), valTs ts w) := by
      unfold obsK
      rw [e]
      exact Prod.ext a3 rfl
    show some (_, _, obsK as fa (f1 ++ f2) ts ex (getT s)) = _
    rw [a1, a2, z]
    rfl
end PF
namespace PF
open PySem PySem.Spec PyProof.Rows L2
abbrev Os := List (Nat × List W)
end PF
namespace PF
open PySem PySem.Spec PyProof.Rows L2
section
variable {α β γ : Type}
/-- t does what t' does, but for objects of its own -/
def Ob (t t' : T α) : Prop := ∀ (n : Nat) (os : Os) (P : Nat → α → Prop) (E : Nat → Nat → List W → Prop), t'.AllB P E n → t.AllW (fun d a => P d.n a) (fun d c fs => E d.n c fs) ⟨n, os⟩
theorem Ob.refl (t : T α) : Ob t t := fun n os P E h => T.AllW.imp (fun _ _ x => x.2) (fun _ _ _ x => x.2) (T.allW_of h)
theorem Ob.use {t t' : T α} (o : Ob t t') {d : Dw} {P : Nat → α → Prop} {E : Nat → Nat → List W → Prop} (h : t'.AllB P E d.n) : t.AllW (fun d a => P d.n a) (fun d c fs => E d.n c fs) d := o d.n d.os P E h
theorem Ob.bind {t t' : T α} {f f' : α → T β} (h : Ob t t') (g : ∀ a, Ob (f a) (f' a)) : Ob (t.bind f) (t'.bind f') := fun n os P E x =>
  T.allW_bind.mpr (T.AllW.imp (fun d a y => (g a).use y) (fun _ _ _ y => y) (h n os _ _ (T.allB_bind.mp x)))
theorem noX_allB {P : Nat → α → Prop} {E : Nat → Nat → List W → Prop} {t : T α} {d : Nat} : (noX t).AllB P E d → t.AllB P (fun _ _ _ => False) d := by
  induction t generalizing d with
  | ok a => exact id
  | exc c fs => exact False.elim
  | bad => exact id
  | ask n k ih =>
    rintro ⟨e, he, x⟩
    exact ⟨e, he, fun i hi => ih i (x i hi)⟩
  | get i k ih => exact id
  | put i fs k ih => exact id
  | new c fs k ih => exact id
theorem noX_allW {P : Dw → α → Prop} {E : Dw → Nat → List W → Prop} {t : T α} {d : Dw} : t.AllW P (fun _ _ _ => False) d → (noX t).AllW P E d := by
  induction t generalizing d with
  | ok a => exact id
  | exc c fs => exact False.elim
  | bad => exact id
  | ask n k ih =>
    rintro ⟨e, he, x⟩
    exact ⟨e, he, fun i hi => ih i (x i hi)⟩
  | get i k ih =>
    rintro ⟨c, fs, e, x⟩
    exact ⟨c, fs, e, ih c fs x⟩
  | put i fs k ih =>
    rintro ⟨c, gs, e, x⟩
    exact ⟨c, gs, e, ih x⟩
  | new c fs k ih => exact fun x => ih _ x
theorem Ob.noX {t t' : T α} (h : Ob t t') : Ob (noX t) (noX t') := fun n os P E x => noX_allW (h n os P _ (noX_allB x))
abbrev ObE (f f' : En → T α) : Prop := ∀ ρ, Ob (f ρ) (f' ρ)
abbrev ObF (F F' : List W → T W) : Prop := ∀ ws, Ob (F ws) (F' ws)
theorem ObE.refl (f : En → T α) : ObE f f := fun ρ => .refl _
theorem ObF.refl (F : List W → T W) : ObF F F := fun ρ => .refl _
variable {g : W → W → T W} {h1 : W → T W} {fa fb fc fa' fb' fc' : En → T W} {fs fs' : En → T (List W)} {gl gl' : List W → T W} {ta tb ta' tb' : En → T Bool} {sa sb sc sa' sb' sc' : En → T (Fl × En)}
end
abbrev Rs (α : Type) := Option (Except (Nat × List W) α × Os)
def T.rn {α : Type} : T α → Os → Rs α
  | .ok a, os => some (.ok a, os)
  | .exc c fs, os => some (.error (c, fs), os)
  | .bad, _ => none
  | .ask _ _, _ => none
  | .get i k, os => match os[i]? with
    | some q => (k q.1 q.2).rn os
    | none => none
  | .put i fs k, os => match os[i]? with
    | some q => k.rn (os.set i (q.1, fs))
    | none => none
  | .new c fs k, os => (k os.length).rn (os ++ [(c, fs)])
def Rs.to {α β : Type} (r : Rs α) (f : α → Os → Rs β) : Rs β := match r with
  | some (.ok a, os) => f a os
  | some (.error e, os) => some (.error e, os)
  | none => none
section
variable {α β : Type}
@[simp] theorem rn_ok (a : α) (os : Os) : (T.ok a).rn os = some (.ok a, os) := rfl
@[simp] theorem rn_exc (c : Nat) (fs : List W) (os : Os) : (T.exc c fs : T α).rn os = some (.error (c, fs), os) := rfl
@[simp] theorem rn_bad (os : Os) : (T.bad : T α).rn os = none := rfl
@[simp] theorem rn_new {c : Nat} {fs : List W} {k : Nat → T α} {os : Os} : (T.new c fs k).rn os = (k os.length).rn (os ++ [(c, fs)]) := rfl
@[simp] theorem Rs.to_ok (a : α) (os : Os) (f : α → Os → Rs β) : Rs.to (some (.ok a, os)) f = f a os := rfl
@[simp] theorem Rs.to_error (e : Nat × List W) (os : Os) (f : α → Os → Rs β) : Rs.to (some (.error e, os)) f = some (.error e, os) := rfl
@[simp] theorem Rs.to_none (f : α → Os → Rs β) : Rs.to none f = none := rfl
def Rs.is {α : Type} (P : Dw → α → Prop) (E : Dw → Nat → List W → Prop) (d : Dw) : Except (Nat × List W) α → Prop
  | .ok a => P d a
  | .error e => E d e.1 e.2
theorem Ob.bad (t : T α) : Ob t .bad := fun _ _ _ _ h => h.elim
end
end PF
namespace PF
open PySem PySem.Spec PyProof.Rows L2
def PN (K : PySem.W.Frag) (c : Cc) (H : Hp) (Q : VK) : Dw → List W → Prop := fun d us => ∀ (c' : Cc) p vs H', SG c c' H H' → StOk (c'.mine p) d H' → H p = none → H' p = some (.lst vs) → RepL K (c'.mine p) H' us vs → Q (.ref p) H'
def SpN (K : PySem.W.Frag) (F : List W → T (List W)) : Sp := fun vs H Q E => ∃ c d ws, (c.T = tabL K ∧ c.K = K) ∧ Wd c d H ∧ RepL K c H ws vs ∧ (F ws).AllW (PN K c H Q) (PX K c H E) d
theorem SpN.len {K : PySem.W.Frag} {F : List W → T (List W)} {np : Nat} (hF : ∀ ws, ws.length ≠ np → F ws = .bad) : ∀ vs H Q E, SpN K F vs H Q E → vs.length = np := fun vs H Q E h => by
  obtain ⟨c, d, ws, hT, wd, r, h⟩ := h
  by_cases e : ws.length = np
  · rw [← r.length]
    exact e
  · rw [hF ws e] at h
    exact h.elim
theorem SG.mine {c c' : Cc} {H H' : Hp} {p : Addr} {vs : List V} (st : SG c c' H H') (hn : H p = none) (hl : H' p = some (.lst vs)) : SG (c.mine p) (c'.mine p) (L2.upd H p (.lst vs)) H' := by
  have g := st.g
  refine ⟨⟨g.S, g.ca, g.la, by show p :: c'.A = p :: c.A; rw [g.A], by show p :: c'.M = p :: c.M; rw [g.M], g.T, g.C, g.KK, g.O⟩, ⟨fun b o hb h1 h2 h3 => ?_, fun b ps hb => ?_, fun b C dx fs hb => ?_⟩⟩
  · by_cases z : b = p
    · subst z
      rw [upd_same] at hb
      rw [hl, ← hb]
    · rw [upd_ne z] at hb
      exact st.st.keep b o hb h1 h2 h3
  · by_cases z : b = p
    · subst z
      rw [upd_same] at hb
      cases hb
    · rw [upd_ne z] at hb
      exact st.st.tbl b ps hb
  · by_cases z : b = p
    · subst z
      rw [upd_same] at hb
      cases hb
    · rw [upd_ne z] at hb
      exact st.st.ins b C dx fs hb
end PF
namespace PF
open PySem PySem.Spec PyProof.Rows L2
def keysL2 : List W → Option (List Key)
  | [] => some []
  | w :: ws => match keyW w, keysL2 ws with
    | some k, some ks => some (k :: ks)
    | _, _ => none
def putWT (acc : List (List Key × W)) (k : List Key) (v : W) : List (List Key × W) :=
  if (acc.any fun kv => decide (kv.1 = k)) = true then acc.map (fun kv => if kv.1 = k then (kv.1, v) else kv) else acc ++ [(k, v)]
section
variable {K : PySem.W.Frag} {c : Cc} {H : Hp}
theorem RepDT.len {acc : List (List Key × W)} {kvs : List (List Key × V)} (h : RepDT K c H acc kvs) : acc.length = kvs.length := by
  have := congrArg List.length h.1
  simpa using this
theorem RepDT.cons {k k' : List Key} {w : W} {v : V} {acc : List (List Key × W)} {kvs : List (List Key × V)} (h : RepDT K c H ((k, w) :: acc) ((k', v) :: kvs)) : k = k' ∧ Rep K c H w v ∧ RepDT K c H acc kvs := by
  obtain ⟨h1, h2⟩ := h
  simp only [List.map_cons] at h1 h2
  cases h2 with
  | cons r rr =>
    injection h1 with e1 e2
    exact ⟨e1, r, e2, rr⟩
theorem RepDT.mk {k : List Key} {w : W} {v : V} {acc : List (List Key × W)} {kvs : List (List Key × V)} (r : Rep K c H w v) (h : RepDT K c H acc kvs) : RepDT K c H ((k, w) :: acc) ((k, v) :: kvs) := ⟨by simp only [List.map_cons, h.1], .cons r h.2⟩
theorem RepDT.any {k : List Key} : ∀ {acc : List (List Key × W)} {kvs : List (List Key × V)}, RepDT K c H acc kvs → (acc.any fun kv => decide (kv.1 = k)) = (kvs.any fun kv => decide (kv.1 = k))
  | [], [], _ => rfl
  | [], _ :: _, h => by
    have := h.1
    cases this
  | _ :: _, [], h => by
    have := h.1
    cases this
  | (a, w) :: acc, (b, v) :: kvs, h => by
    obtain ⟨rfl, r, h⟩ := h.cons
    simp only [List.any_cons, RepDT.any (k := k) h]
theorem RepDT.map {k : List Key} {w : W} {v : V} (rw_ : Rep K c H w v) : ∀ {acc : List (List Key × W)} {kvs : List (List Key × V)}, RepDT K c H acc kvs → RepDT K c H (acc.map fun kv => if kv.1 = k then (kv.1, w) else kv) (kvs.map fun kv => if kv.1 = k then (kv.1, v) else kv)
  | [], [], h => h
  | [], _ :: _, h => by
    have := h.1
    cases this
  | _ :: _, [], h => by
    have := h.1
    cases this
  | (a, x) :: acc, (b, y) :: kvs, h => by
    obtain ⟨rfl, r, h⟩ := h.cons
    have ih := RepDT.map (k := k) rw_ h
    simp only [List.map_cons]
    by_cases e : a = k
    · simp only [e, if_true]
      exact .mk rw_ ih
    · simp only [e, if_false]
      exact .mk r ih
theorem RepDT.put {k : List Key} {w : W} {v : V} {acc : List (List Key × W)} {kvs : List (List Key × V)} (h : RepDT K c H acc kvs) (r : Rep K c H w v) : RepDT K c H (putWT acc k w) (putK kvs k v) := by
  unfold putWT putK
  rw [h.any]
  split
  · exact h.map r
  · refine ⟨by simp [h.1], ?_⟩
    rw [List.map_append, List.map_append]
    exact h.2.append (.cons r .nil)
theorem RepL.keys : ∀ {ws : List W} {vs : List V} {ks : List Key}, RepL K c H ws vs → keysL2 ws = some ks → vs = ks.map kV
  | [], _, _, .nil, h => by
    cases h
    rfl
  | w :: ws, _, ks, .cons r rr, h => by
    unfold keysL2 at h
    cases e1 : keyW w with
    | none =>
      rw [e1] at h
      cases h
    | some k =>
      cases e2 : keysL2 ws with
      | none =>
        rw [e1, e2] at h
        cases h
      | some ks' =>
        rw [e1, e2] at h
        cases h
        rw [r.keyE e1, RepL.keys rr e2]
        rfl
end
@[irreducible] def dRoomT (ws : List (List Key × W)) : Bool := decide (ws.length < 16777216)
def PK (c : Cc) (H : Hp) (Q : VK) : Dw → List Key → Prop := fun d k => ∀ ⦃c' : Cc⦄ b H', SG c c' H H' → StOk c' d H' → H' b = some (.tup (k.map kV)) → Q (.ref b) H'
theorem PK.later {c c1 : Cc} {H H1 : Hp} {Q : VK} {d : Dw} {k : List Key} (s : SG c c1 H H1) (h : PK c H Q d k) : PK c1 H1 Q d k := fun _ b H' st so r => h b H' (s.trans st) so r
end PF
namespace PF
open PySem PySem.Spec PyProof.Rows L2
theorem SG.tup {c c' : Cc} {d : Dw} {H H' : Hp} {b : Addr} {xs : List V} (st : SG c c' H H') (s : StOk c d H) (h : H b = some (.tup xs)) : H' b = some (.tup xs) := by
  obtain ⟨kvs, hS⟩ := s.1.S
  obtain ⟨zs, hl⟩ := s.1.la
  exact st.st.keep _ _ h (ne_of h hS (by intro z; cases z)) (ne_of h hl (by intro z; cases z)) nofun
def getT (ws : List (List Key × W)) (k : List Key) : Option W := (ws.find? fun kv => decide (kv.1 = k)).map (·.2)
theorem RepDT.get {K : PySem.W.Frag} {c : Cc} {H : Hp} {k : List Key} : ∀ {acc : List (List Key × W)} {kvs : List (List Key × V)}, RepDT K c H acc kvs → match getT acc k with
    | some w => ∃ v, valV kvs k = some v ∧ Rep K c H w v
    | none => valV kvs k = none
  | [], [], _ => rfl
  | [], _ :: _, h => by
    have := h.1
    cases this
  | _ :: _, [], h => by
    have := h.1
    cases this
  | (a, w) :: acc, (b, v) :: kvs, h => by
    obtain ⟨rfl, r, h⟩ := h.cons
    have ih := RepDT.get (k := k) h
    unfold getT valV at *
    by_cases e : a = k
    · simp only [List.find?_cons, e, decide_true]
      exact ⟨v, rfl, r⟩
    · simp only [List.find?_cons, e, decide_false]
      exact ih
end PF
namespace PF
open PySem PySem.Spec PyProof.Rows L2
theorem SG.frz {c c' : Cc} {d : Dw} {H H' : Hp} {b : Addr} {o : Obj} {u : HO} (st : SG c c' H H') (s : StOk c d H) (h : H b = some (.frz o u)) : H' b = some (.frz o u) := by
  obtain ⟨kvs, hS⟩ := s.1.S
  obtain ⟨zs, hl⟩ := s.1.la
  exact st.st.keep _ _ h (ne_of h hS (by intro z; cases z)) (ne_of h hl (by intro z; cases z)) nofun
end PF
namespace PF
open PySem PySem.Spec PyProof.Rows L2
def PQT (K : PySem.W.Frag) (c : Cc) (H : Hp) (D : Addr) (Q : VK) : Dw → W × List (List Key × W) → Prop := fun d x => ∀ c' v H' zs, SG c c' (L2.upd H D (.dT [])) (L2.upd H' D (.dT [])) → StOk c' d H' → H' D = some (.dT zs) → RepDT K c' H' x.2 zs → Rep K c' H' x.1 v → Q v H'
def SpT (K : PySem.W.Frag) (j : Nat) (F : List W → List (List Key × W) → T (W × List (List Key × W))) : Sp := fun vs H Q E => ∃ c d ws D kvs zs, (c.T = tabL K ∧ c.K = K) ∧ Wd c d H ∧ D ∈ c.A ∧ D ∉ [c.S, c.ca, c.la] ∧ H D = some (.dT zs) ∧ RepDT K c H kvs zs ∧ vs[j]? = some (.ref D) ∧ RepL K c H ws (vs.set j .non) ∧
  (F ws kvs).AllW (PQT K c H D Q) (fun _ _ _ => False) d
theorem SpT.len {K : PySem.W.Frag} {j np : Nat} {F : List W → List (List Key × W) → T (W × List (List Key × W))} (hF : ∀ ws kvs, ws.length ≠ np → F ws kvs = .bad) : ∀ vs H Q E, SpT K j F vs H Q E → vs.length = np := fun vs H Q E h => by
  obtain ⟨c, d, ws, D, kvs, zs, hT, wd, _, _, _, _, _, r, h⟩ := h
  by_cases e : ws.length = np
  · have := r.length
    rw [List.length_set] at this
    rw [← this]
    exact e
  · rw [hF ws kvs e] at h
    exact h.elim
end PF
namespace PF
open PySem PySem.Spec PyProof.Rows L2
def PQK (K : PySem.W.Frag) (c : Cc) (H : Hp) (D : Addr) (Q : VK) : Dw → W × List (Key × W) → Prop := fun d x => ∀ c' v H' zs, SG c c' (L2.upd H D (.dK [])) (L2.upd H' D (.dK [])) → StOk c' d H' → H' D = some (.dK zs) → RepD K c' H' x.2 zs → Rep K c' H' x.1 v → Q v H'
def SpK (K : PySem.W.Frag) (j : Nat) (F : List W → List (Key × W) → T (W × List (Key × W))) : Sp := fun vs H Q E => ∃ c d ws D kvs zs, (c.T = tabL K ∧ c.K = K) ∧ Wd c d H ∧ D ∈ c.A ∧ D ∉ [c.S, c.ca, c.la] ∧ H D = some (.dK zs) ∧ RepD K c H kvs zs ∧ vs[j]? = some (.ref D) ∧ RepL K c H ws (vs.set j .non) ∧
  (F ws kvs).AllW (PQK K c H D Q) (fun _ _ _ => False) d
theorem SpK.len {K : PySem.W.Frag} {j np : Nat} {F : List W → List (Key × W) → T (W × List (Key × W))} (hF : ∀ ws kvs, ws.length ≠ np → F ws kvs = .bad) : ∀ vs H Q E, SpK K j F vs H Q E → vs.length = np := fun vs H Q E h => by
  obtain ⟨c, d, ws, D, kvs, zs, hT, wd, _, _, _, _, _, r, h⟩ := h
  by_cases e : ws.length = np
  · have := r.length
    rw [List.length_set] at this
    rw [← this]
    exact e
  · rw [hF ws kvs e] at h
    exact h.elim
end PF
namespace PF
open PySem PySem.Spec PyProof.Rows L2
open L2.DX
/-- tuples laid one by one -/
inductive Laid : Hp → Hp → Prop
  | refl (H : Hp) : Laid H H
  | snoc {H H1 : Hp} {a : Addr} {vs : List V} : Laid H H1 → H1 a = none → Laid H (L2.upd H1 a (.tup vs))
theorem Laid.keeps {H H' : Hp} (l : Laid H H') : ∀ b o, H b = some o → H' b = some o := by
  induction l with
  | refl => exact fun _ _ e => e
  | snoc l n ih =>
    intro b o e
    rw [upd_ne (ne_of_none (ih b o e) n)]
    exact ih b o e
theorem Laid.env {X : Cx} {c : Cc} {d : Dw} {oa : Nat → Addr} {ρ : En} {σ : L2.St} {H H' : Hp} (l : Laid H H') (e : EnvOk X.K Γ c d oa ρ σ H) : EnvOk X.K Γ c d oa ρ σ H' ∧ SG c c H H' := by
  induction l with
  | refl => exact ⟨e, .refl _ _⟩
  | snoc l n ih =>
    obtain ⟨e1, st⟩ := ih
    exact ⟨e1.step (.new n) (e1.st.new n), st.trans (.new n)⟩
theorem sqL_ext {K : PySem.W.Frag} {H H' : Hp} {a : Addr} {xs : List V} (h : SqL K H a xs) (e : ∀ b o, H b = some o → H' b = some o) : SqL K H' a xs :=
  h.elim (fun h => .inl (h.elim (fun h => .inl (e _ _ h)) fun ⟨o, h⟩ => .inr ⟨o, e _ _ h⟩)) fun h => .inr h
theorem sqT_ext {K : PySem.W.Frag} {H H' : Hp} {a : Addr} {xs : List V} (h : SqT K H a xs) (e : ∀ b o, H b = some o → H' b = some o) : SqT K H' a xs :=
  h.elim (fun h => .inl (h.elim (fun h => .inl (e _ _ h)) fun ⟨o, h⟩ => .inr ⟨o, e _ _ h⟩)) fun h => .inr h
theorem Dp.keeps {K : PySem.W.Frag} {H H' : Hp} (hk : ∀ b o, H b = some o → H' b = some o) : ∀ {v : V} {d : PyData}, Dp K H v d → Dp K H' v d := by
  intro v d h
  exact Dp.rec (motive_1 := fun v d _ => Dp K H' v d) (motive_2 := fun vs ds _ => DpAll K H' vs ds) .non (fun b => .bl b) (fun i => .int i) (fun x => .str x)
    (fun s _ ih => .lst (sqL_ext s hk) ih) (fun s _ ih => .tup (sqT_ext s hk) ih) .nil (fun _ _ i1 i2 => .cons i1 i2) h
end PF
namespace PF
open PySem PySem.Spec PyProof.Rows L2
def PEL (K : PySem.W.Frag) (Γ : Cl) (σ : L2.St) (c : Cc) (H : Hp) (Q : VK) : Dw → W × En → Prop := fun d x => ∀ c' oa' v H', Fwd K c H c' H' → EnvOk K Γ c' d oa' x.2 σ H' → Rep K c' H' x.1 v → Q v H'
def PAL (K : PySem.W.Frag) (Γ : Cl) (σ : L2.St) (c : Cc) (H : Hp) (Q : List V → Hp → Prop) : Dw → List W × En → Prop := fun d x => ∀ c' oa' v H', Fwd K c H c' H' → EnvOk K Γ c' d oa' x.2 σ H' → RepL K c' H' x.1 v → Q v H'
def PBL (K : PySem.W.Frag) (Γ : Cl) (σ : L2.St) (c : Cc) (H : Hp) (Q : Bool → Hp → Prop) : Dw → Bool × En → Prop := fun d x => ∀ c' oa' H', Fwd K c H c' H' → EnvOk K Γ c' d oa' x.2 σ H' → Q x.1 H'
section
variable {K : PySem.W.Frag} {E : XK} {c : Cc} {d : Dw} {oa : Nat → Addr} {ρ : En} {σ : L2.St} {H : Hp} {β : Type} {P : Cc → Hp → Dw → β → Prop}
theorem PEL.fwd {Q : VK} {c1 : Cc} {H1 : Hp} {d : Dw} {x : W × En} (f : Fwd K c H c1 H1) (h : PEL K Γ σ c H Q d x) : PEL K Γ σ c1 H1 Q d x := fun c' oa' v H' g e r => h c' oa' v H' (f.trans g) e r
theorem PAL.fwd {Q : List V → Hp → Prop} {c1 : Cc} {H1 : Hp} {d : Dw} {x : List W × En} (f : Fwd K c H c1 H1) (h : PAL K Γ σ c H Q d x) : PAL K Γ σ c1 H1 Q d x := fun c' oa' v H' g e r => h c' oa' v H' (f.trans g) e r
theorem PBL.fwd {Q : Bool → Hp → Prop} {c1 : Cc} {H1 : Hp} {d : Dw} {x : Bool × En} (f : Fwd K c H c1 H1) (h : PBL K Γ σ c H Q d x) : PBL K Γ σ c1 H1 Q d x := fun c' oa' H' g e => h c' oa' H' (f.trans g) e
end
end PF
namespace PF
open PySem PySem.Spec PyProof.Rows L2
section
variable {X : Cx}
/-- a block whose last statement gives something back -/
structure PSX (X : Cx) (st : List Stmt) (t : (L2.St → VK) → L2.St → Hp → Prop) : Prop where
  run : ∀ (pins : List (Addr × Obj)) (s : Shared) (σ : L2.St) (H : Hp) (R : L2.St → VK), Inv X pins σ H s → t R σ H → wpAny (model X.prog X.w) X.A (execs st X.env) (fun f s' => ∃ u, f = .ret u ∧ ∃ v σ' H', Inv X pins σ' H' s' ∧ RelV v u ∧ R σ' v H') X.xe s
end
section
variable {X : Cx} {Γ : Cl} {E : XK}
/-- what is wanted of what such a block gives back -/
def PRq (K : PySem.W.Frag) (Γ : Cl) (c : Cc) (H : Hp) (R : L2.St → VK) : Dw → W × En → Prop := fun d x => ∀ c' oa' σ' H', Fwd K c H c' H' → EnvOk K Γ c' d oa' x.2 σ' H' → ∀ v, Rep K c' H' x.1 v → R σ' v H'
theorem PRq.later {K : PySem.W.Frag} {c c1 : Cc} {H H1 : Hp} {R : L2.St → VK} {d : Dw} {x : W × En} (f : Fwd K c H c1 H1) (h : PRq K Γ c H R d x) : PRq K Γ c1 H1 R d x := fun c' oa' σ' H' g e => h c' oa' σ' H' (f.trans g) e
theorem PSX.imp {sts : List Stmt} {t t' : (L2.St → VK) → L2.St → Hp → Prop} (h : PSX X sts t) (i : ∀ R σ H, t' R σ H → t R σ H) : PSX X sts t' := ⟨fun pins s σ H R I q => h.run pins s σ H R I (i R σ H q)⟩
end
end PF
namespace Lw
open PySem PySem.Spec PyProof.Rows L2 PF
def top (i : Nat) : Stmt := PySem.Challenge.pw_nestletters_k15_stairs_refused.main.body.getD i (.Pass ⟨0, 0, 0, 0⟩)
def sc_is_integer : Scope := ⟨.function, [("thing", .local), ("isinstance", .globalImplicit), ("int", .globalImplicit), ("bool", .globalImplicit)], false, false, (defScope (top 10)).more⟩
def sc_common : Scope := ⟨.function, [("one", .local), ("other", .local), ("abs", .globalImplicit), ("int", .globalImplicit)], false, false, (defScope (top 11)).more⟩
def sc_made : Scope := ⟨.function, [("top", .local), ("bottom", .local), ("divisor", .local), ("common", .globalImplicit)], false, false, (defScope (top 12)).more⟩
def sc_is_fraction : Scope := ⟨.function, [("thing", .local), ("isinstance", .globalImplicit), ("tuple", .globalImplicit), ("len", .globalImplicit), ("all", .globalImplicit), ("common", .globalImplicit)], false, false, (defScope (top 13)).more⟩
def sc_add : Scope := ⟨.function, [("one", .local), ("other", .local), ("made", .globalImplicit)], false, false, (defScope (top 14)).more⟩
def sc_sub : Scope := ⟨.function, [("one", .local), ("other", .local), ("made", .globalImplicit)], false, false, (defScope (top 15)).more⟩
def sc_is_under_ratios : Scope := ⟨.function, [("one", .local), ("other", .local)], false, false, (defScope (top 16)).more⟩
def sc_sum_in : Scope := ⟨.function, [("some", .local), ("found", .local), ("one", .local), ("NOUGHT", .globalImplicit), ("add", .globalImplicit)], false, false, (defScope (top 18)).more⟩
def sc_is_between : Scope := ⟨.function, [("thing", .local), ("least", .local), ("most", .local), ("is_integer", .globalImplicit)], false, false, (defScope (top 20)).more⟩
def sc_is_stair : Scope := ⟨.function, [("thing", .local), ("isinstance", .globalImplicit), ("tuple", .globalImplicit), ("len", .globalImplicit), ("MOST_LETTERS", .globalImplicit), ("all", .globalImplicit), ("zip", .globalImplicit)], false, false, (defScope (top 24)).more⟩
def sc_need_stair : Scope := ⟨.function, [("thing", .local), ("is_stair", .globalImplicit), ("BadStair", .globalImplicit)], false, false, (defScope (top 26)).more⟩
def sc_need_many : Scope := ⟨.function, [("many", .local), ("is_between", .globalImplicit), ("MOST_LETTERS", .globalImplicit), ("BadNumber", .globalImplicit)], false, false, (defScope (top 27)).more⟩
def sc_costs_of : Scope := ⟨.function, [("many", .local), ("need_many", .globalImplicit), ("tuple", .globalImplicit), ("range", .globalImplicit), ("made", .globalImplicit)], false, false, (defScope (top 28)).more⟩
def sc_need_place : Scope := ⟨.function, [("stair", .local), ("k", .local), ("x", .local), ("need_stair", .globalImplicit), ("is_between", .globalImplicit), ("len", .globalImplicit), ("BadNumber", .globalImplicit), ("MOST_STAIR", .globalImplicit)], false, false, (defScope (top 29)).more⟩
def sc_raised_in : Scope := ⟨.function, [("stair", .local), ("k", .cell), ("x", .cell), ("tuple", .globalImplicit), ("enumerate", .globalImplicit)], false, false, (defScope (top 30)).more⟩
def sc_raised : Scope := ⟨.function, [("stair", .local), ("k", .local), ("x", .local), ("need_place", .globalImplicit), ("raised_in", .globalImplicit)], false, false, (defScope (top 31)).more⟩
def sc_lowered : Scope := ⟨.function, [("stair", .local), ("k", .cell), ("x", .cell), ("need_place", .globalImplicit), ("tuple", .globalImplicit), ("enumerate", .globalImplicit)], false, false, (defScope (top 32)).more⟩
def sc_need_pair : Scope := ⟨.function, [("one", .local), ("other", .local), ("need_stair", .globalImplicit), ("len", .globalImplicit), ("BadStair", .globalImplicit)], false, false, (defScope (top 33)).more⟩
def sc_is_under : Scope := ⟨.function, [("one", .local), ("other", .local), ("need_pair", .globalImplicit), ("all", .globalImplicit), ("zip", .globalImplicit)], false, false, (defScope (top 34)).more⟩
def sc_is_under_stairs : Scope := ⟨.function, [("one", .local), ("other", .local), ("need_pair", .globalImplicit), ("all", .globalImplicit), ("zip", .globalImplicit)], false, false, (defScope (top 34)).more⟩
def sc_both : Scope := ⟨.function, [("one", .local), ("other", .local), ("found", .local), ("need_pair", .globalImplicit), ("tuple", .globalImplicit), ("zip", .globalImplicit), ("MOST_STAIR", .globalImplicit), ("TooMany", .globalImplicit)], false, false, (defScope (top 36)).more⟩
def sc_meet : Scope := ⟨.function, [("one", .local), ("other", .local), ("need_pair", .globalImplicit), ("tuple", .globalImplicit), ("zip", .globalImplicit)], false, false, (defScope (top 37)).more⟩
def sc_join : Scope := ⟨.function, [("one", .local), ("other", .local), ("need_pair", .globalImplicit), ("tuple", .globalImplicit), ("zip", .globalImplicit)], false, false, (defScope (top 38)).more⟩
def sc_fewer : Scope := ⟨.function, [("stair", .local), ("many", .local), ("need_stair", .globalImplicit), ("is_between", .globalImplicit), ("len", .globalImplicit), ("BadNumber", .globalImplicit)], false, false, (defScope (top 39)).more⟩
def sc_more : Scope := ⟨.function, [("stair", .local), ("many", .local), ("need_stair", .globalImplicit), ("is_between", .globalImplicit), ("len", .globalImplicit), ("MOST_LETTERS", .globalImplicit), ("BadNumber", .globalImplicit)], false, false, (defScope (top 40)).more⟩
def sc_price_in : Scope := ⟨.function, [("stair", .local), ("parts", .local), ("enumerate", .globalImplicit), ("sum_in", .globalImplicit), ("made", .globalImplicit), ("len", .globalImplicit)], false, false, (defScope (top 42)).more⟩
def sc_need_length : Scope := ⟨.function, [("length", .local), ("is_fraction", .globalImplicit), ("is_under_ratios", .globalImplicit), ("NOUGHT", .globalImplicit), ("BadLength", .globalImplicit)], false, false, (defScope (top 45)).more⟩
def sc_is_had_in : Scope := ⟨.function, [("stair", .local), ("length", .local), ("is_under_ratios", .globalImplicit), ("price_in", .globalImplicit)], false, false, (defScope (top 46)).more⟩
def sc_need_both : Scope := ⟨.function, [("stair", .local), ("length", .local), ("need_stair", .globalImplicit), ("need_length", .globalImplicit)], false, false, (defScope (top 47)).more⟩
def sc_is_had : Scope := ⟨.function, [("stair", .local), ("length", .local), ("need_both", .globalImplicit), ("is_had_in", .globalImplicit)], false, false, (defScope (top 48)).more⟩
def sc_over_by : Scope := ⟨.function, [("stair", .local), ("length", .local), ("need_both", .globalImplicit), ("sub", .globalImplicit), ("price_in", .globalImplicit)], false, false, (defScope (top 49)).more⟩
def sc_greatest_in : Scope := ⟨.function, [("stair", .local), ("k", .local), ("length", .local), ("low", .local), ("high", .local), ("half", .local), ("MOST_STAIR", .globalImplicit), ("is_had_in", .globalImplicit), ("raised_in", .globalImplicit)], false, false, (defScope (top 50)).more⟩
def sc_greatest_at : Scope := ⟨.function, [("stair", .local), ("k", .local), ("length", .local), ("need_stair", .globalImplicit), ("is_between", .globalImplicit), ("len", .globalImplicit), ("BadNumber", .globalImplicit), ("need_length", .globalImplicit), ("is_had_in", .globalImplicit), ("greatest_in", .globalImplicit)], false, false, (defScope (top 51)).more⟩
def sc_is_wish : Scope := ⟨.function, [("many", .local), ("thing", .local), ("isinstance", .globalImplicit), ("tuple", .globalImplicit), ("len", .globalImplicit), ("is_between", .globalImplicit), ("MOST_STAIR", .globalImplicit)], false, false, (defScope (top 52)).more⟩
def sc_least_stair : Scope := ⟨.function, [("many", .cell), ("wishes", .cell), ("need_many", .globalImplicit), ("isinstance", .globalImplicit), ("tuple", .globalImplicit), ("len", .globalImplicit), ("MOST_WISHES", .globalImplicit), ("all", .globalImplicit), ("BadWishes", .globalImplicit), ("range", .globalImplicit)], false, false, (defScope (top 53)).more⟩
def sc__law_mixed : Scope := ⟨.function, [("_law_cell", .local), ("_law_k", .local), ("int", .globalImplicit)], false, false, (defScope (top 55)).more⟩
def sc__law_begin : Scope := ⟨.function, [("_law_script", .local), ("_law_cells", .local), ("list", .globalImplicit)], false, false, (defScope (top 56)).more⟩
def sc__law_draw : Scope := ⟨.function, [("_law_state", .local), ("_law_many", .local), ("_law_at", .local), ("_law_place", .local), ("_law_left", .local), ("_law_number", .local), ("int", .globalImplicit), ("len", .globalImplicit), ("_law_mixed", .globalImplicit)], false, false, (defScope (top 57)).more⟩
def sc__law_stair_drawn : Scope := ⟨.function, [("_law_state", .local), ("_law_many", .local), ("_law_wide", .local), ("_law_got", .local), ("_law_last", .local), ("_law_k", .local), ("range", .globalImplicit), ("_law_draw", .globalImplicit), ("int", .globalImplicit), ("tuple", .globalImplicit)], false, false, (defScope (top 58)).more⟩
def sc__law_heard : Scope := ⟨.function, [("_law_call", .local), ("_law_found", .local), ("_law_caught", .local), ("error", .local), ("NestError", .globalImplicit), ("TooMany", .globalImplicit), ("isinstance", .globalImplicit), ("BadStair", .globalImplicit), ("BadNumber", .globalImplicit), ("BadLength", .globalImplicit), ("BadWishes", .globalImplicit), ("BadLaying", .globalImplicit)], false, false, (defScope (top 59)).more⟩
def sc__law_refuse : Scope := ⟨.function, [("_law_calls", .local), ("_law_due", .local), ("_law_passed", .local), ("_law_kept", .local), ("_law_call", .local), ("repr", .globalImplicit), ("_law_heard", .globalImplicit)], false, false, (defScope (top 60)).more⟩
def sc__law_odd_stairs : Scope := ⟨.function, [("_law_stair_so", .local), ("_law_found", .local), ("list", .globalImplicit)], false, false, (defScope (top 61)).more⟩
def sc__law_odd_lengths : Scope := ⟨.function, [], false, false, (defScope (top 62)).more⟩
def sc__law_doors : Scope := ⟨.function, [("_law_odd", .cell), ("_law_found", .local)], false, false, (defScope (top 63)).more⟩
def sc__law_pairs : Scope := ⟨.function, [("_law_one", .cell), ("_law_odd", .cell), ("_law_found", .local)], false, false, (defScope (top 64)).more⟩
def sc__law_stairs_right : Scope := ⟨.function, [("_law_one", .local), ("_law_odd", .local), ("_law_far", .local), ("_law_odd_stairs", .globalImplicit), ("_law_refuse", .globalImplicit), ("_law_doors", .globalImplicit), ("_law_pairs", .globalImplicit), ("len", .globalImplicit)], false, false, (defScope (top 65)).more⟩
def sc__law_numbers_right : Scope := ⟨.function, [("_law_one", .cell), ("_law_calls", .local), ("_law_odd", .cell), ("_law_size", .cell), ("len", .globalImplicit), ("_law_refuse", .globalImplicit)], false, false, (defScope (top 66)).more⟩
def sc__law_rest_right : Scope := ⟨.function, [("_law_one", .cell), ("_law_calls", .local), ("_law_wishes_so", .local), ("_law_odd", .cell), ("_law_size", .cell), ("len", .globalImplicit), ("_law_odd_lengths", .globalImplicit), ("_law_refuse", .globalImplicit)], false, false, (defScope (top 67)).more⟩
def sc_law : Scope := ⟨.function, [("_law_script", .local), ("_law_state", .local), ("_law_turn", .local), ("_law_one", .local), ("_law_wide", .local), ("_law_told", .local), ("_law_begin", .globalImplicit), ("range", .globalImplicit), ("min", .globalImplicit), ("len", .globalImplicit), ("_law_stair_drawn", .globalImplicit), ("_law_draw", .globalImplicit), ("_law_stairs_right", .globalImplicit), ("_law_numbers_right", .globalImplicit), ("_law_rest_right", .globalImplicit), ("need_stair", .globalImplicit), ("raised", .globalImplicit), ("lowered", .globalImplicit), ("least_stair", .globalImplicit), ("fewer", .globalImplicit), ("is_had", .globalImplicit)], false, false, (defScope (top 68)).more⟩
end Lw
namespace Lw
open PySem PySem.Spec PyProof.Rows L2 PF
namespace Hd
open He in
def fa : List Fa := [.glo "is_integer", .glo "common", .glo "made", .glo "is_fraction", .glo "add", .glo "sub", .glo "is_under_ratios", .glo "sum_in", .glo "is_between", .glo "is_stair", .glo "need_stair", .glo "need_many", .glo "costs_of", .glo "need_place", .glo "raised_in", .glo "raised", .glo "lowered", .glo "need_pair", .glo "is_under", .glo "is_under_stairs", .glo "both", .glo "meet", .glo "join", .glo "fewer", .glo "more", .glo "price_in", .glo "need_length", .glo "is_had_in", .glo "need_both", .glo "is_had", .glo "over_by", .glo "greatest_in", .glo "greatest_at", .glo "is_wish", .glo "least_stair", .glo "_law_mixed", .glo "_law_begin", .glo "_law_draw", .glo "_law_stair_drawn", .glo "_law_heard", .glo "_law_refuse", .glo "_law_odd_stairs", .glo "_law_odd_lengths", .glo "_law_doors", .glo "_law_pairs", .glo "_law_stairs_right", .glo "_law_numbers_right", .glo "_law_rest_right", .glo "law", .glo "NOUGHT", .int "MOST_LETTERS" 8, .int "MOST_STAIR" 1000, .int "MOST_WISHES" 20, .free "list", .free "isinstance", .free "int", .free "bool", .free "abs", .free "tuple", .free "len", .free "all", .free "zip", .free "range", .free "enumerate", .free "max", .free "min", .free "repr", .glo "BadNumber", .glo "BadLaying", .glo "BadStair", .glo "BadLength", .glo "BadWishes", .glo "TooMany", .glo "NestError", .free "OverflowError", .exm "BadNumber" "NestError" true, .exm "BadNumber" "TooMany" false, .exm "BadLaying" "NestError" true, .exm "BadLaying" "TooMany" false, .exm "BadStair" "NestError" true, .exm "BadStair" "TooMany" false, .exm "BadLength" "NestError" true, .exm "BadLength" "TooMany" false, .exm "BadWishes" "NestError" true, .exm "BadWishes" "TooMany" false, .exm "TooMany" "NestError" false, .exm "TooMany" "TooMany" true]
def d_is_integer : He.DefD := ⟨("is_integer", none), "is_integer", "is_integer", defArgs (top 10), defBody (top 10), sc_is_integer, [], []⟩
def d_common : He.DefD := ⟨("common", none), "common", "common", defArgs (top 11), defBody (top 11), sc_common, [], []⟩
def d_made : He.DefD := ⟨("made", none), "made", "made", defArgs (top 12), defBody (top 12), sc_made, [], []⟩
def d_is_fraction : He.DefD := ⟨("is_fraction", none), "is_fraction", "is_fraction", defArgs (top 13), defBody (top 13), sc_is_fraction, [], []⟩
def d_add : He.DefD := ⟨("add", none), "add", "add", defArgs (top 14), defBody (top 14), sc_add, [], []⟩
def d_sub : He.DefD := ⟨("sub", none), "sub", "sub", defArgs (top 15), defBody (top 15), sc_sub, [], []⟩
def d_is_under_ratios : He.DefD := ⟨("is_under_ratios", none), "is_under", "is_under", defArgs (top 16), defBody (top 16), sc_is_under_ratios, [], []⟩
def d_sum_in : He.DefD := ⟨("sum_in", none), "sum_in", "sum_in", defArgs (top 18), defBody (top 18), sc_sum_in, [], []⟩
def d_is_between : He.DefD := ⟨("is_between", none), "is_between", "is_between", defArgs (top 20), defBody (top 20), sc_is_between, [], []⟩
def d_is_stair : He.DefD := ⟨("is_stair", none), "is_stair", "is_stair", defArgs (top 24), defBody (top 24), sc_is_stair, [], []⟩
def d_need_stair : He.DefD := ⟨("need_stair", none), "need_stair", "need_stair", defArgs (top 26), defBody (top 26), sc_need_stair, [], []⟩
def d_need_many : He.DefD := ⟨("need_many", none), "need_many", "need_many", defArgs (top 27), defBody (top 27), sc_need_many, [], []⟩
def d_costs_of : He.DefD := ⟨("costs_of", none), "costs_of", "costs_of", defArgs (top 28), defBody (top 28), sc_costs_of, [], []⟩
def d_need_place : He.DefD := ⟨("need_place", none), "need_place", "need_place", defArgs (top 29), defBody (top 29), sc_need_place, [], []⟩
def d_raised_in : He.DefD := ⟨("raised_in", none), "raised_in", "raised_in", defArgs (top 30), defBody (top 30), sc_raised_in, [], []⟩
def d_raised : He.DefD := ⟨("raised", none), "raised", "raised", defArgs (top 31), defBody (top 31), sc_raised, [], []⟩
def d_lowered : He.DefD := ⟨("lowered", none), "lowered", "lowered", defArgs (top 32), defBody (top 32), sc_lowered, [], []⟩
def d_need_pair : He.DefD := ⟨("need_pair", none), "need_pair", "need_pair", defArgs (top 33), defBody (top 33), sc_need_pair, [], []⟩
def d_is_under : He.DefD := ⟨("is_under", none), "is_under", "is_under", defArgs (top 34), defBody (top 34), sc_is_under, [], []⟩
def d_is_under_stairs : He.DefD := ⟨("is_under_stairs", none), "is_under", "is_under", defArgs (top 34), defBody (top 34), sc_is_under_stairs, [], []⟩
def d_both : He.DefD := ⟨("both", none), "both", "both", defArgs (top 36), defBody (top 36), sc_both, [], []⟩
def d_meet : He.DefD := ⟨("meet", none), "meet", "meet", defArgs (top 37), defBody (top 37), sc_meet, [], []⟩
def d_join : He.DefD := ⟨("join", none), "join", "join", defArgs (top 38), defBody (top 38), sc_join, [], []⟩
def d_fewer : He.DefD := ⟨("fewer", none), "fewer", "fewer", defArgs (top 39), defBody (top 39), sc_fewer, [], []⟩
def d_more : He.DefD := ⟨("more", none), "more", "more", defArgs (top 40), defBody (top 40), sc_more, [], []⟩
def d_price_in : He.DefD := ⟨("price_in", none), "price_in", "price_in", defArgs (top 42), defBody (top 42), sc_price_in, [], []⟩
def d_need_length : He.DefD := ⟨("need_length", none), "need_length", "need_length", defArgs (top 45), defBody (top 45), sc_need_length, [], []⟩
def d_is_had_in : He.DefD := ⟨("is_had_in", none), "is_had_in", "is_had_in", defArgs (top 46), defBody (top 46), sc_is_had_in, [], []⟩
def d_need_both : He.DefD := ⟨("need_both", none), "need_both", "need_both", defArgs (top 47), defBody (top 47), sc_need_both, [], []⟩
def d_is_had : He.DefD := ⟨("is_had", none), "is_had", "is_had", defArgs (top 48), defBody (top 48), sc_is_had, [], []⟩
def d_over_by : He.DefD := ⟨("over_by", none), "over_by", "over_by", defArgs (top 49), defBody (top 49), sc_over_by, [], []⟩
def d_greatest_in : He.DefD := ⟨("greatest_in", none), "greatest_in", "greatest_in", defArgs (top 50), defBody (top 50), sc_greatest_in, [], []⟩
def d_greatest_at : He.DefD := ⟨("greatest_at", none), "greatest_at", "greatest_at", defArgs (top 51), defBody (top 51), sc_greatest_at, [], []⟩
def d_is_wish : He.DefD := ⟨("is_wish", none), "is_wish", "is_wish", defArgs (top 52), defBody (top 52), sc_is_wish, [], []⟩
def d_least_stair : He.DefD := ⟨("least_stair", none), "least_stair", "least_stair", defArgs (top 53), defBody (top 53), sc_least_stair, [], []⟩
def d__law_mixed : He.DefD := ⟨("_law_mixed", none), "_law_mixed", "_law_mixed", defArgs (top 55), defBody (top 55), sc__law_mixed, [], []⟩
def d__law_begin : He.DefD := ⟨("_law_begin", none), "_law_begin", "_law_begin", defArgs (top 56), defBody (top 56), sc__law_begin, [], []⟩
def d__law_draw : He.DefD := ⟨("_law_draw", none), "_law_draw", "_law_draw", defArgs (top 57), defBody (top 57), sc__law_draw, [], []⟩
def d__law_stair_drawn : He.DefD := ⟨("_law_stair_drawn", none), "_law_stair_drawn", "_law_stair_drawn", defArgs (top 58), defBody (top 58), sc__law_stair_drawn, [], []⟩
def d__law_heard : He.DefD := ⟨("_law_heard", none), "_law_heard", "_law_heard", defArgs (top 59), defBody (top 59), sc__law_heard, [], []⟩
def d__law_refuse : He.DefD := ⟨("_law_refuse", none), "_law_refuse", "_law_refuse", defArgs (top 60), defBody (top 60), sc__law_refuse, [], []⟩
def d__law_odd_stairs : He.DefD := ⟨("_law_odd_stairs", none), "_law_odd_stairs", "_law_odd_stairs", defArgs (top 61), defBody (top 61), sc__law_odd_stairs, [], []⟩
def d__law_odd_lengths : He.DefD := ⟨("_law_odd_lengths", none), "_law_odd_lengths", "_law_odd_lengths", defArgs (top 62), defBody (top 62), sc__law_odd_lengths, [], []⟩
def d__law_doors : He.DefD := ⟨("_law_doors", none), "_law_doors", "_law_doors", defArgs (top 63), defBody (top 63), sc__law_doors, [], []⟩
def d__law_pairs : He.DefD := ⟨("_law_pairs", none), "_law_pairs", "_law_pairs", defArgs (top 64), defBody (top 64), sc__law_pairs, [], []⟩
def d__law_stairs_right : He.DefD := ⟨("_law_stairs_right", none), "_law_stairs_right", "_law_stairs_right", defArgs (top 65), defBody (top 65), sc__law_stairs_right, [], []⟩
def d__law_numbers_right : He.DefD := ⟨("_law_numbers_right", none), "_law_numbers_right", "_law_numbers_right", defArgs (top 66), defBody (top 66), sc__law_numbers_right, [], []⟩
def d__law_rest_right : He.DefD := ⟨("_law_rest_right", none), "_law_rest_right", "_law_rest_right", defArgs (top 67), defBody (top 67), sc__law_rest_right, [], []⟩
def d_law : He.DefD := ⟨("law", none), "law", "law", defArgs (top 68), defBody (top 68), sc_law, [], []⟩
def di_BadNumber : He.DefD := ⟨("BadNumber", some "__init__"), "__init__", "BadNumber.__init__", defArgs (mth (top 2)), defBody (mth (top 2)), defScope (mth (top 2)), [], []⟩
def di_BadLaying : He.DefD := ⟨("BadLaying", some "__init__"), "__init__", "BadLaying.__init__", defArgs (mth (top 3)), defBody (mth (top 3)), defScope (mth (top 3)), [], []⟩
def di_BadStair : He.DefD := ⟨("BadStair", some "__init__"), "__init__", "BadStair.__init__", defArgs (mth (top 4)), defBody (mth (top 4)), defScope (mth (top 4)), [], []⟩
def di_BadLength : He.DefD := ⟨("BadLength", some "__init__"), "__init__", "BadLength.__init__", defArgs (mth (top 5)), defBody (mth (top 5)), defScope (mth (top 5)), [], []⟩
def di_BadWishes : He.DefD := ⟨("BadWishes", some "__init__"), "__init__", "BadWishes.__init__", defArgs (mth (top 6)), defBody (mth (top 6)), defScope (mth (top 6)), [], []⟩
def di_TooMany : He.DefD := ⟨("TooMany", some "__init__"), "__init__", "TooMany.__init__", defArgs (mth (top 7)), defBody (mth (top 7)), defScope (mth (top 7)), [], []⟩
def fn1 : List He.DefD := [d_is_integer, d_common, d_made, d_is_fraction, d_add, d_sub, d_is_under_ratios, d_sum_in, d_is_between, d_is_stair, d_need_stair, d_need_many, d_costs_of, d_need_place, d_raised_in, d_raised, d_lowered, d_need_pair, d_is_under, d_is_under_stairs, d_both, d_meet, d_join, d_fewer, d_more, d_price_in, d_need_length]
def fn2 : List He.DefD := [d_is_had_in, d_need_both, d_is_had, d_over_by, d_greatest_in, d_greatest_at, d_is_wish, d_least_stair, d__law_mixed, d__law_begin, d__law_draw, d__law_stair_drawn, d__law_heard, d__law_refuse, d__law_odd_stairs, d__law_odd_lengths, d__law_doors, d__law_pairs, d__law_stairs_right, d__law_numbers_right, d__law_rest_right, d_law, di_BadNumber, di_BadLaying, di_BadStair, di_BadLength, di_BadWishes, di_TooMany]
def fn : List He.DefD := fn1 ++ fn2
open He in
def ex : PySem.W.Frag → Bool := fun K => (tupB K "NOUGHT" [(.int 0), (.int 1)]) && (xB K "BadNumber" "given" "ValueError.__new__" tlV) && (xB K "BadLaying" "given" "ValueError.__new__" tlV) && (xB K "BadStair" "given" "ValueError.__new__" tlV) && (xB K "BadLength" "given" "ValueError.__new__" tlV) && (xB K "BadWishes" "given" "ValueError.__new__" tlV) && (xB K "TooMany" "most" "OverflowError.__new__" tlO) && (ownB K (He.ga K "NestError") "ValueError.__init__") && (iniB (PySem.W.findCls K (.type "OverflowError") (.type "type") "__init__") "OverflowError.__init__") && (kxB K (He.ga K "TooMany")) && (kxB K (He.ga K "BadWishes")) && (kxB K (He.ga K "BadLength")) && (kxB K (He.ga K "BadStair")) && (kxB K (He.ga K "BadLaying")) && (kxB K (He.ga K "BadNumber")) && (decide (PySem.W.kitOne K (.ref (He.ga K "TooMany")) (.ref (He.ga K "BadStair")) = some false)) && (decide (PySem.W.kitOne K (.ref (He.ga K "BadWishes")) (.ref (He.ga K "BadStair")) = some false)) && (decide (PySem.W.kitOne K (.ref (He.ga K "BadLength")) (.ref (He.ga K "BadStair")) = some false)) && (decide (PySem.W.kitOne K (.ref (He.ga K "BadStair")) (.ref (He.ga K "BadStair")) = some true)) && (decide (PySem.W.kitOne K (.ref (He.ga K "BadLaying")) (.ref (He.ga K "BadStair")) = some false)) && (decide (PySem.W.kitOne K (.ref (He.ga K "BadNumber")) (.ref (He.ga K "BadStair")) = some false)) && (decide (PySem.W.kitOne K (.ref (He.ga K "TooMany")) (.ref (He.ga K "BadNumber")) = some false)) && (decide (PySem.W.kitOne K (.ref (He.ga K "BadWishes")) (.ref (He.ga K "BadNumber")) = some false)) && (decide (PySem.W.kitOne K (.ref (He.ga K "BadLength")) (.ref (He.ga K "BadNumber")) = some false)) && (decide (PySem.W.kitOne K (.ref (He.ga K "BadStair")) (.ref (He.ga K "BadNumber")) = some false)) && (decide (PySem.W.kitOne K (.ref (He.ga K "BadLaying")) (.ref (He.ga K "BadNumber")) = some false)) && (decide (PySem.W.kitOne K (.ref (He.ga K "BadNumber")) (.ref (He.ga K "BadNumber")) = some true)) && (decide (PySem.W.kitOne K (.ref (He.ga K "TooMany")) (.ref (He.ga K "BadLength")) = some false)) && (decide (PySem.W.kitOne K (.ref (He.ga K "BadWishes")) (.ref (He.ga K "BadLength")) = some false)) && (decide (PySem.W.kitOne K (.ref (He.ga K "BadLength")) (.ref (He.ga K "BadLength")) = some true)) && (decide (PySem.W.kitOne K (.ref (He.ga K "BadStair")) (.ref (He.ga K "BadLength")) = some false)) && (decide (PySem.W.kitOne K (.ref (He.ga K "BadLaying")) (.ref (He.ga K "BadLength")) = some false)) && (decide (PySem.W.kitOne K (.ref (He.ga K "BadNumber")) (.ref (He.ga K "BadLength")) = some false)) && (decide (PySem.W.kitOne K (.ref (He.ga K "TooMany")) (.ref (He.ga K "BadWishes")) = some false)) && (decide (PySem.W.kitOne K (.ref (He.ga K "BadWishes")) (.ref (He.ga K "BadWishes")) = some true)) && (decide (PySem.W.kitOne K (.ref (He.ga K "BadLength")) (.ref (He.ga K "BadWishes")) = some false)) && (decide (PySem.W.kitOne K (.ref (He.ga K "BadStair")) (.ref (He.ga K "BadWishes")) = some false)) && (decide (PySem.W.kitOne K (.ref (He.ga K "BadLaying")) (.ref (He.ga K "BadWishes")) = some false)) && (decide (PySem.W.kitOne K (.ref (He.ga K "BadNumber")) (.ref (He.ga K "BadWishes")) = some false)) && (decide (PySem.W.kitOne K (.ref (He.ga K "TooMany")) (.ref (He.ga K "BadLaying")) = some false)) && (decide (PySem.W.kitOne K (.ref (He.ga K "BadWishes")) (.ref (He.ga K "BadLaying")) = some false)) && (decide (PySem.W.kitOne K (.ref (He.ga K "BadLength")) (.ref (He.ga K "BadLaying")) = some false)) && (decide (PySem.W.kitOne K (.ref (He.ga K "BadStair")) (.ref (He.ga K "BadLaying")) = some false)) && (decide (PySem.W.kitOne K (.ref (He.ga K "BadLaying")) (.ref (He.ga K "BadLaying")) = some true)) && (decide (PySem.W.kitOne K (.ref (He.ga K "BadNumber")) (.ref (He.ga K "BadLaying")) = some false)) && (decide (PySem.W.kitOne K (.ref (He.ga K "TooMany")) (.ref (He.ga K "TooMany")) = some true)) && (decide (PySem.W.kitOne K (.ref (He.ga K "BadWishes")) (.ref (He.ga K "TooMany")) = some false)) && (decide (PySem.W.kitOne K (.ref (He.ga K "BadLength")) (.ref (He.ga K "TooMany")) = some false)) && (decide (PySem.W.kitOne K (.ref (He.ga K "BadStair")) (.ref (He.ga K "TooMany")) = some false)) && (decide (PySem.W.kitOne K (.ref (He.ga K "BadLaying")) (.ref (He.ga K "TooMany")) = some false)) && (decide (PySem.W.kitOne K (.ref (He.ga K "BadNumber")) (.ref (He.ga K "TooMany")) = some false)) && (sysB K) && (noObj K) && (true)
def names0 : List Str := ["NestError", "BadNumber", "BadLaying", "BadStair", "BadLength", "BadWishes", "TooMany", "NOUGHT", "MOST_LETTERS", "MOST_STAIR", "MOST_WISHES", "is_integer", "common", "made", "is_fraction", "add", "sub", "is_under_ratios", "sum_in", "is_between"]
def names1 : List Str := ["is_stair", "need_stair", "need_many", "costs_of", "need_place", "raised_in", "raised", "lowered", "need_pair", "is_under", "is_under_stairs", "both", "meet", "join", "fewer", "more", "price_in", "need_length", "is_had_in", "need_both"]
def names2 : List Str := ["is_had", "over_by", "greatest_in", "greatest_at", "is_wish", "least_stair", "_law_mixed", "_law_begin", "_law_draw", "_law_stair_drawn", "_law_heard", "_law_refuse", "_law_odd_stairs", "_law_odd_lengths", "_law_doors", "_law_pairs", "_law_stairs_right", "_law_numbers_right", "_law_rest_right"]
def names : List Str := names0 ++ names1 ++ names2
abbrev R : PySem.W.OpenRow := PySem.W.OpenLaw.row PySem.Challenge.rw_nestletters_k15_stairs_refused
open He in
def ts : List Tab := []
def ads : List Addr := [1, 2, 3, 6, 4, 24, 44, 63, 82, 101, 120, 139, 143, 150, 157, 164, 169, 176, 183, 264, 190, 197, 204, 209, 216, 223, 228, 235, 240, 247, 252, 259, 269, 274, 279, 286, 293, 298, 305, 312, 319, 326, 333, 340, 347, 354, 359, 366, 371, 378, 385, 392, 399, 406, 413, 420, 427, 434, 441, 448, 455, 0, 23, 43, 62, 81, 100, 119, 138, 149, 156, 163, 168, 175, 182, 263, 189, 196, 203, 208, 215, 222, 227, 234, 239, 246, 251, 258, 268, 273, 278, 285, 292, 297, 304, 311, 318, 325, 332, 339, 346, 353, 358, 365, 370, 377, 384, 391, 398, 405, 412, 419, 426, 433, 440, 447, 454, 22, 25, 41, 42, 60, 61, 79, 80, 98, 99, 117, 118, 136, 137, 140, 144, 145, 146, 147, 148, 151, 152, 153, 154, 155, 158, 159, 160, 161, 162, 165, 166, 167, 170, 171, 172, 173, 174, 177, 178, 179, 180, 181, 260, 261, 262, 184, 185, 186, 187, 188, 191, 192, 193, 194, 195, 198, 199, 200, 201, 202, 205, 206, 207, 210, 211, 212, 213, 214, 217, 218, 219, 220, 221, 224, 225, 226, 229, 230, 231, 232, 233, 236, 237, 238, 241, 242, 243, 244, 245, 248, 249, 250, 253, 254, 255, 256, 257, 265, 266, 267, 270, 271, 272, 275, 276, 277, 280, 281, 282, 283, 284, 287, 288, 289, 290, 291, 294, 295, 296, 299, 300, 301, 302, 303, 306, 307, 308, 309, 310, 313, 314, 315, 316, 317, 320, 321, 322, 323, 324, 327, 328, 329, 330, 331, 334, 335, 336, 337, 338, 341, 342, 343, 344, 345, 348, 349, 350, 351, 352, 355, 356, 357, 360, 361, 362, 363, 364, 367, 368, 369, 372, 373, 374, 375, 376, 379, 380, 381, 382, 383, 386, 387, 388, 389, 390, 393, 394, 395, 396, 397, 400, 401, 402, 403, 404, 407, 408, 409, 410, 411, 414, 415, 416, 417, 418, 421, 422, 423, 424, 425, 428, 429, 430, 431, 432, 435, 436, 437, 438, 439, 442, 443, 444, 445, 446, 449, 450, 451, 452, 453, 40, 59, 78, 97, 116, 135, 35, 36, 37, 38, 39, 54, 55, 56, 57, 58, 73, 74, 75, 76, 77, 92, 93, 94, 95, 96, 111, 112, 113, 114, 115, 130, 131, 132, 133, 134]
abbrev hk : PySem.W.Hook := hookK ads fa fn ts ex
def ob (s : PySem.W.SharedT) : AlK := obsK ads fa fn ts ex (HandSHeadRun.getT s)
theorem ob_eq (s : PySem.W.SharedT) : ob s = hk.obs s.abs := obsK_eq (HandSHeadRun.getT_eq s)
open HandSHeadRun PySem.W He in
set_option maxHeartbeats 0 in
theorem runZ : ∀ w : World, RunV R 8000 w (fun s => (looksF R.prog (boot_heap w.params) s.abs, seenQ (PySem.W.view R.prog [68]) names (importedModules R.prog.main.body) (fun s => xlAt (PySem.W.view R.prog [68]) [] s && recOk R.toRowW.records s) s.abs)) (true, openGood (PySem.W.view R.prog [68]) names) := by
  intro w os
  kernel_rfl
open HandSHeadRun PySem.W He in
set_option maxHeartbeats 0 in
theorem runA : ∀ w : World, RunV R 8000 w (fun s => obsD fa fn1 (frT (getT s) ads)) (valD fn1) := by
  intro w os
  kernel_rfl
open HandSHeadRun PySem.W He in
set_option maxHeartbeats 0 in
theorem runB : ∀ w : World, RunV R 8000 w (fun s => obsD [] fn2 (frT (getT s) ads)) (valD fn2) := by
  intro w os
  kernel_rfl
open HandSHeadRun PySem.W He in
set_option maxHeartbeats 0 in
theorem runC : ∀ w : World, RunV R 8000 w (fun s => ex (frT (getT s) ads)) true := by
  intro w os
  kernel_rfl
open HandSHeadRun PySem.W He in
set_option maxHeartbeats 0 in
theorem runD : ∀ w : World, RunV R 8000 w (fun s => tabOkB (getT s) (frT (getT s) ads)) true := by
  intro w os
  kernel_rfl
open HandSHeadRun PySem.W He in
set_option maxHeartbeats 0 in
theorem runE : ∀ w : World, RunV R 8000 w (fun s => ts.map fun t => dicW (frT (getT s) ads) (t.1 (frT (getT s) ads))) (valTs ts w) := by
  intro w os
  kernel_rfl
theorem run (w : World) : HandSHeadRun.RunEq R (PySem.W.view R.prog [68]) hk ob 8000 names w := run_partsK (runZ w) (runA w) (runB w) (runC w) (runD w) (runE w)
end Hd
end Lw
set_option Elab.async false
set_option linter.all false
set_option maxRecDepth 100000
set_option maxHeartbeats 4000000
namespace PF
open PySem PySem.Spec PyProof.Rows L2
theorem St0.tab {c : Cc} {d : Nat} {H : Hp} (s : St0 c d H) : LamX.Tabs c.T H := by
  obtain ⟨_, _, _, _, _, _, _, _, _, _, _, _, h9⟩ := s
  exact h9
theorem sqL_split {K : PySem.W.Frag} {H : Hp} {a : Addr} {vs : List V} (h : SqL K H a vs) : Rd H a (.lst vs) ∨ SqL K (fun _ => none) a vs := by
  rcases h with h | h
  · exact .inl h
  · exact .inr (.inr h)
theorem sqL_of_none {K : PySem.W.Frag} {H : Hp} {a : Addr} {vs : List V} (h : SqL K (fun _ => none) a vs) : SqL K H a vs := by
  rcases h with (h | ⟨_, h⟩) | h
  · cases h
  · cases h
  · exact .inr h
section
variable {K : PySem.W.Frag} {c : Cc} {d : Dw} {H H' : Hp}
theorem StOk.tab (s : StOk c d H) : LamX.Tabs c.T H := s.1.tab
end
section
variable {K : PySem.W.Frag} {c : Cc} {d : Dw} {H H' : Hp}
theorem RepL.take : ∀ {ws : List W} {vs : List V} (n : Nat), RepL K c H ws vs → RepL K c H (ws.take n) (vs.take n)
  | _, _, 0, _ => .nil
  | _, _, _ + 1, .nil => .nil
  | _, _, n + 1, .cons h r => .cons h (RepL.take n r)
theorem RepL.drop : ∀ {ws : List W} {vs : List V} (n : Nat), RepL K c H ws vs → RepL K c H (ws.drop n) (vs.drop n)
  | _, _, 0, r => r
  | _, _, _ + 1, .nil => .nil
  | _, _, n + 1, .cons _ r => RepL.drop n r
/-- a list of ints, of bools, of texts: the values are told -/
theorem RepL.ints : ∀ {ns : List Int} {vs : List V}, RepL K c H (ns.map W.int) vs → vs = ns.map V.int
  | [], _, .nil => rfl
  | n :: ns, _, .cons h r => by
    cases h
    rw [RepL.ints r]
    rfl
theorem RepL.bls : ∀ {ns : List Bool} {vs : List V}, RepL K c H (ns.map W.bl) vs → vs = ns.map V.bl
  | [], _, .nil => rfl
  | n :: ns, _, .cons h r => by
    cases h
    rw [RepL.bls r]
    rfl
theorem RepL.ofInts : ∀ (ns : List Int), RepL K c H (ns.map W.int) (ns.map V.int)
  | [] => .nil
  | n :: ns => .cons (.int n) (RepL.ofInts ns)
end
section
variable {K : PySem.W.Frag} {Γ : Cl} {c c' : Cc} {oa oa' : Nat → Addr} {ρ ρ' : En} {σ σ' : St} {H H' : Hp}
theorem dy_ne {i j : Nat} {s : Sl} (q : j ≠ i) (h : Dy (ρ.set i s) j) : Dy ρ j := by
  unfold Dy at *
  rw [List.getElem?_set_ne (Ne.symm q)] at h
  exact h
end
def liftA (K : PySem.W.Frag) (Γ : Cl) (E : WX) (f : En → T (List W)) : TA := fun σ H Q => ∃ c d oa ρ, EnvOk K Γ c d oa ρ σ H ∧ (f ρ).AllW (PQL K c H Q) (PX K c H fun cls dx H' => E cls dx σ H') d
def liftB (K : PySem.W.Frag) (Γ : Cl) (E : WX) (f : En → T Bool) : TT := fun σ H Q => ∃ c d oa ρ, EnvOk K Γ c d oa ρ σ H ∧ (f ρ).AllW (PB c H Q) (PX K c H fun cls dx H' => E cls dx σ H') d
def TrE (Γ : Cl) (X : Cx) (E : WX) (e : Expr) (f : En → T W) : Prop := PE X e (liftE X.K Γ E f)
def TrA (Γ : Cl) (X : Cx) (E : WX) (es : List Expr) (f : En → T (List W)) : Prop := PA X es (liftA X.K Γ E f)
def TrB (Γ : Cl) (X : Cx) (E : WX) (e : Expr) (f : En → T Bool) : Prop := PT X e (liftB X.K Γ E f)
theorem pe_imp {X : Cx} {e : Expr} {t t' : TE} (h : PE X e t) (i : ∀ σ H Q, t' σ H Q → t σ H Q) : PE X e t' := ⟨fun pins s σ H Q I q => h.run pins s σ H Q I (i σ H Q q)⟩
theorem pa_imp {X : Cx} {e : List Expr} {t t' : TA} (h : PA X e t) (i : ∀ σ H Q, t' σ H Q → t σ H Q) : PA X e t' := ⟨fun pos pins s σ H Q I q => h.run pos pins s σ H Q I (i σ H Q q)⟩
theorem pt_imp {X : Cx} {e : Expr} {t t' : TT} (h : PT X e t) (i : ∀ σ H Q, t' σ H Q → t σ H Q) : PT X e t' := ⟨fun pins s σ H Q I q => h.run pins s σ H Q I (i σ H Q q)⟩
theorem pw_imp {X : Cx} {e : Expr} {t t' : TT} (h : PW X e t) (i : ∀ σ H Q, t' σ H Q → t σ H Q) : PW X e t' := ⟨fun wh pins s σ H Q I q => h.run wh pins s σ H Q I (i σ H Q q)⟩
theorem ps_imp {X : Cx} {e : Stmt} {t t' : TS} (h : PS X e t) (i : ∀ D σ H, t' D σ H → t D σ H) : PS X e t' := ⟨fun pins s σ H D I q => h.run pins s σ H D I (i D σ H q)⟩
theorem pss_imp {X : Cx} {e : List Stmt} {t t' : TS} (h : PSs X e t) (i : ∀ D σ H, t' D σ H → t D σ H) : PSs X e t' := ⟨fun pins s σ H D I q => h.run pins s σ H D I (i D σ H q)⟩
section
variable {K : PySem.W.Frag} {E : WX} {f : En → T W} {g : W → T W} {c : Cc} {d : Dw} {oa : Nat → Addr} {ρ : En} {σ : St} {H : Hp} {Q : VK}
theorem liftB_then {β : Type} {fb : En → T Bool} {P : Cc → Hp → Dw → β → Prop} {G : Bool → T β} {R : Bool → Hp → Prop} (e : EnvOk K Γ c d oa ρ σ H) (h : ((fb ρ).bind G).AllW (P c H) (PX K c H fun cls dx H' => E cls dx σ H') d)
    (lt : ∀ {c1 H1 d' b}, SG c c1 H H1 → P c H d' b → P c1 H1 d' b)
    (go : ∀ {c1 : Cc} b H1 d1, SG c c1 H H1 → EnvOk K Γ c1 d1 oa ρ σ H1 → (G b).AllW (P c1 H1) (PX K c1 H1 fun cls dx H' => E cls dx σ H') d1 → R b H1) : liftB K Γ E fb σ H R := by
  refine ⟨c, d, oa, ρ, e, T.AllW.imp (fun d1 w x => ?_) (fun _ _ _ x => x) (T.allW_bind.mp h)⟩
  intro c1 H1 st so
  exact go w H1 d1 st (e.step st so) (T.AllW.imp (fun _ _ y => lt st y) (fun _ _ _ y => y.later st) x)
theorem liftA_then {β : Type} {fs : En → T (List W)} {P : Cc → Hp → Dw → β → Prop} {G : List W → T β} {R : List V → Hp → Prop} (e : EnvOk K Γ c d oa ρ σ H) (h : ((fs ρ).bind G).AllW (P c H) (PX K c H fun cls dx H' => E cls dx σ H') d)
    (lt : ∀ {c1 H1 d' b}, SG c c1 H H1 → P c H d' b → P c1 H1 d' b)
    (go : ∀ {c1 : Cc} w v H1 d1, SG c c1 H H1 → RepL K c1 H1 w v → EnvOk K Γ c1 d1 oa ρ σ H1 → (G w).AllW (P c1 H1) (PX K c1 H1 fun cls dx H' => E cls dx σ H') d1 → R v H1) : liftA K Γ E fs σ H R := by
  refine ⟨c, d, oa, ρ, e, T.AllW.imp (fun d1 w x => ?_) (fun _ _ _ x => x) (T.allW_bind.mp h)⟩
  intro c1 v H1 st so r
  exact go w v H1 d1 st r (e.step st so) (T.AllW.imp (fun _ _ y => lt st y) (fun _ _ _ y => y.later st) x)
end
end PF
namespace PF
open PySem PySem.Spec PyProof.Rows L2
section
variable {K : PySem.W.Frag} {c : Cc} {d : Dw} {H : Hp} {Q : VK} {E' : Dw → Nat → List W → Prop}
theorem PQ.now {w : W} {v : V} (wd : Wd c d H) (h : PQ K c H Q d w) (r : Rep K c H w v) : Q v H := h v H (.refl _ H) wd.st r
end
section
variable {X : Cx} {E : WX}
theorem gV_ok {K : PySem.W.Frag} {c : Cc} {d : Dw} {oa : Nat → Addr} {ρ : En} {σ : St} {H : Hp} {i : Nat} {P : Dw → W → Prop} {E' : Dw → Nat → List W → Prop} (e : EnvOk K Γ c d oa ρ σ H) (h : (gV i ρ).AllW P E' d) :
    ∃ w v, σ[i]? = some (some v) ∧ Rep K c H w v ∧ P d w := by
  unfold gV at h
  split at h
  · rename_i w hw
    obtain ⟨v, h1, h2⟩ := e.val i w hw
    exact ⟨w, v, h1, h2, h⟩
  · exact h.elim
theorem tr_var (i : Nat) {x : Str} {pos : Pos} (hN : X.N[i]? = some x := by rfl) (hv : Vis X.env.scope x := by first | exact Or.inl rfl | exact Or.inr (Or.inl rfl) | exact Or.inr (Or.inr rfl)) (hd : (x == ("__debug__" : Str)) = false := by decide)
    (hcd : (x == ("__classdict__" : Str)) = false := by decide) : TrE Γ X E (.Name x pos) (gV i) := pe_imp (pe_var hN hv hd hcd) fun σ H Q h => by
  obtain ⟨c, d, oa, ρ, e, h⟩ := h
  obtain ⟨w, v, h1, h2, h3⟩ := gV_ok e h
  exact ⟨v, h1, PQ.now e.wd h3 h2⟩
theorem tr_const {e : Expr} {v : V} {w : W} (h : PE X e (tC v)) (r : ∀ c H, Rep X.K c H w v) : TrE Γ X E e (fun _ => .ok w) := pe_imp h fun σ H Q h => by
  obtain ⟨c, d, oa, ρ, e, h⟩ := h
  exact PQ.now e.wd h (r c H)
theorem tr_int {i j pos} : TrE Γ X E (.Constant (.int i) j pos) (fun _ => .ok (.int i)) := tr_const pe_int fun _ _ => .int i
theorem tr_bl {b j pos} : TrE Γ X E (.Constant (.bool b) j pos) (fun _ => .ok (.bl b)) := tr_const pe_bl fun _ _ => .bl b
theorem tr_non {j pos} : TrE Γ X E (.Constant .none j pos) (fun _ => .ok .non) := tr_const pe_non fun _ _ => .non
theorem tr_str {x j pos} : TrE Γ X E (.Constant (.str x) j pos) (fun _ => .ok (.str x)) := tr_const pe_str fun _ _ => .str x
theorem tr_glob {x : Str} {v : V} {u : Value} {w : W} {pos : Pos} (hg : Gl X x) (hm : X.mg x = some u) (r : RelV v u) (rw_ : ∀ c H, Rep X.K c H w v) (hd : (x == ("__debug__" : Str)) = false := by decide) : TrE Γ X E (.Name x pos) (fun _ => .ok w) :=
  tr_const (pe_glob hg hm r hd) rw_
end
def SemL (K : PySem.W.Frag) (r : List V → Hp → VK → Prop) (g : List W → T W) : Prop := ∀ (c : Cc) (d : Dw) (H : Hp) (x : List W) (v : List V) (Q : VK) (E' : Dw → Nat → List W → Prop), Wd c d H → RepL K c H x v → (g x).AllW (PQ K c H Q) E' d → r v H Q
section
variable {X : Cx} {E : WX} {a b cc : Expr} {fa fb fc : En → T W} {g : W → W → T W} {g1 : W → T W} {r r' : R2} {pos : Pos}
theorem tr_op {op : Operator} (ho : OpR X (binaryOp op) r) (hs : Sem2 X.K r g) (ha : TrE Γ X E a fa) (hb : TrE Γ X E b fb) : TrE Γ X E (.BinOp a op b pos) (f2 g fa fb) := pe_imp (pe_op ho ha hb) (two hs)
theorem tr_un {op : UnaryOp} {r1 : V → Hp → VK → Prop} (ho : UnR X (unaryOp op) r1) (hs : Sem1 X.K r1 g1) (ha : TrE Γ X E a fa) : TrE Γ X E (.UnaryOp op a pos) (f1 g1 fa) := pe_imp (pe_un ho ha) (one hs)
theorem tr_cmp {op : CmpOp} (ho : OpR X (compareOp op) r) (hs : Sem2 X.K r g) (ha : TrE Γ X E a fa) (hb : TrE Γ X E b fb) (hm : behindInMarks op b = false) : TrE Γ X E (.Compare a [op] [b] pos) (f2 g fa fb) := pe_imp (pe_cmpR ho ha hb hm) (two hs)
theorem tr_ix (ho : IxR X r) (hs : Sem2 X.K r g) (ha : TrE Γ X E a fa) (hb : TrE Γ X E b fb) (hp : PlainIx b := by exact fun _ _ => rfl) : TrE Γ X E (.Subscript a b pos) (f2 g fa fb) := pe_imp (pe_ix ho ha hb hp) (two hs)
/-- a op b op' c -/
def fCh (g g' : W → W → T W) (fa fb fc : En → T W) : En → T W := fun ρ => (fa ρ).bind fun x => (fb ρ).bind fun y => (g x y).bind fun z => match z with
  | .bl true => (fc ρ).bind fun w => g' y w
  | .bl false => .ok (.bl false)
  | _ => .bad
theorem tr_chain {op op' : CmpOp} {g' : W → W → T W} (ho : OpR X (compareOp op) r) (ho' : OpR X (compareOp op') r') (hs : Sem2 X.K r g) (hs' : Sem2 X.K r' g') (ha : TrE Γ X E a fa) (hb : TrE Γ X E b fb) (hc : TrE Γ X E cc fc)
    (hm : lastMarks [op, op'] [b, cc] = false := by with_unfolding_all rfl) : TrE Γ X E (.Compare a [op, op'] [b, cc] pos) (fCh g g' fa fb fc) := pe_imp (pe_chain ho ho' ha hb hc hm) fun σ H Q h => by
  obtain ⟨c, d, oa, ρ, e, h⟩ := h
  refine lift_then (P := fun c H => PQ X.K c H Q) e h (fun st p => p.later st) fun w v H1 d1 _ r1 e1 h1 => ?_
  refine lift_then (P := fun c H => PQ X.K c H Q) e1 h1 (fun st p => p.later st) fun w2 v2 H2 d2 st2 r2 e2 h2 => ?_
  refine hs _ d2 H2 w w2 v v2 _ _ e2.wd (r1.step st2 e1.st e1.ok) r2 (T.AllW.imp (fun d3 z hz => ?_) (fun _ _ _ y => y) (T.allW_bind.mp h2))
  intro _ vz H3 st3 so3 rz
  have e3 := e2.step st3 so3
  cases z with
  | bl k =>
    cases rz
    refine ⟨k, rfl, ?_⟩
    cases k with
    | false => exact iteF (PQ.now e3.wd (PQ.later st3 hz) (.bl false))
    | true =>
      refine iteT (lift_then (P := fun c H => PQ X.K c H Q) e3 (T.AllW.imp (fun _ _ y => y.later st3) (fun _ _ _ y => y.later st3) hz) (fun st p => p.later st) fun w4 v4 H4 d4 st4 r4 e4 h4 => ?_)
      exact hs' _ d4 H4 w2 w4 v2 v4 Q _ e4.wd ((r2.step st3 e2.st e2.ok).step st4 e3.st e3.ok) r4 h4
  | _ => exact hz.elim
end
theorem T.AllW.ite {α : Type} {P : Dw → α → Prop} {E : Dw → Nat → List W → Prop} {d : Dw} {b : Bool} {t : T α} (h : (if b then t else .bad).AllW P E d) : b = true ∧ t.AllW P E d := by
  cases b with
  | true => exact ⟨rfl, h⟩
  | false => exact h.elim
theorem strOk_of {x : Str} (h : strOk x = true) : x.length ≤ sizeLine := by
  rw [sizeLine_eq]
  unfold strOk at h
  exact of_decide_eq_true h
section
variable {X : Cx} {E : WX} {a b cc : Expr} {fa fb fc : En → T W} {ta tb : En → T Bool} {g g' : W → W → T W} {r r' : R2} {pos : Pos} {rest : List Expr}
theorem trb_tru (ha : TrE Γ X E a fa) (he : ∀ whole, isTrue a X.env whole = (do let v ← whole; standAt a.pos; holding [v] (truthy v)) := by intro _; rfl) : TrB Γ X E a (fTru fa) := pt_imp (pt_truth ha he) fun σ H Q h => by
  obtain ⟨c, d, oa, ρ, e, h⟩ := h
  refine lift_then (P := fun c H => PB c H Q) e h (fun st p => p.later st) @fun c1 w v H1 d1 _ r1 e1 h1 => ?_
  have now : ∀ {b : Bool}, PB c1 H1 Q d1 b → Q b H1 := fun h => h H1 (.refl c1 H1) e1.st
  cases r1 with
  | non => exact ⟨false, rfl, now h1⟩
  | bl b => exact ⟨b, rfl, now h1⟩
  | int i => exact ⟨i != 0, rfl, now h1⟩
  | str x =>
    obtain ⟨hz, h1⟩ := T.AllW.ite h1
    exact ⟨_, ⟨strOk_of hz, rfl⟩, now h1⟩
  | tup h rl => exact ⟨_, .inr (.inl ⟨_, h, rl.empty⟩), now h1⟩
  | lst n h rl => exact ⟨_, .inl ⟨_, SqL.of h, rl.empty⟩, now h1⟩
  | dct n h rl => exact ⟨_, .inr (.inr ⟨_, h, by simp⟩), now h1⟩
  | scr h => exact h1.elim
  | stt => exact h1.elim
  | lam _ => exact h1.elim
  | clo _ _ _ _ _ _ => exact h1.elim
  | exo _ _ _ _ => exact h1.elim
  | exn _ => exact h1.elim
  | key _ => exact h1.elim
  | obj _ => exact h1.elim
  | dcu _ _ _ => exact h1.elim
  | ptp _ _ _ _ => exact h1.elim
theorem bl_then {Q : Bool → Hp → Prop} : ∀ σ H, liftB X.K Γ E (fBl fa) σ H Q → liftE X.K Γ E fa σ H fun x H' => ∃ k, x = .bl k ∧ Q k H' := fun σ H h => by
  obtain ⟨c, d, oa, ρ, e, h⟩ := h
  refine lift_then (P := fun c H => PB c H Q) e h (fun st p => p.later st) fun w v H1 d1 _ r1 e1 h1 => ?_
  cases r1 with
  | bl b => exact ⟨b, rfl, h1 H1 (.refl _ H1) e1.st⟩
  | _ => exact h1.elim
/-- a comparison's test, by the test's own form of the reading -/
theorem trb_of {t : TE} (hp : PT X a (tTest t)) (i : ∀ σ H Q, liftE X.K Γ E fa σ H Q → t σ H Q) : TrB Γ X E a (fBl fa) := pt_imp hp fun σ H Q h => i σ H _ (bl_then σ H h)
theorem trb_cmp {op : CmpOp} (ho : OpR X (compareOp op) r) (hs : Sem2 X.K r g) (ha : TrE Γ X E a fa) (hb : TrE Γ X E b fb) (hm : behindInMarks op b = false) : TrB Γ X E (.Compare a [op] [b] pos) (fBl (f2 g fa fb)) := trb_of (pt_cmpR ho ha hb hm) (two hs)
theorem PB.now {c : Cc} {d : Dw} {H : Hp} {Q : Bool → Hp → Prop} {b : Bool} (wd : Wd c d H) (h : PB c H Q d b) : Q b H := h H (.refl _ H) wd.st
theorem trb_not (ha : TrB Γ X E a ta) : TrB Γ X E (.UnaryOp .Not a pos) (fNot ta) := pt_imp (pt_not ha) fun σ H Q h => by
  obtain ⟨c, d, oa, ρ, e, h⟩ := h
  exact liftB_then (P := fun c H => PB c H Q) e h (fun st p => p.later st) fun b H1 d1 _ e1 h1 => PB.now e1.wd h1
def TrW (Γ : Cl) (X : Cx) (E : WX) (e : Expr) (f : En → T Bool) : Prop := PW X e (liftB X.K Γ E f)
theorem TrW.toB (h : TrW Γ X E a ta) : TrB Γ X E a ta := PW.pt h
theorem trw_or1 (ha : TrB Γ X E a ta) : TrW Γ X E (.BoolOp .Or [a] pos) ta := pw_or1 ha
theorem trw_or (ha : TrB Γ X E a ta) (hb : TrW Γ X E (.BoolOp .Or (b :: rest) pos) tb) : TrW Γ X E (.BoolOp .Or (a :: b :: rest) pos) (fOr ta tb) := pw_imp (pw_or ha hb) fun σ H Q h => by
  obtain ⟨c, d, oa, ρ, e, h⟩ := h
  refine liftB_then (P := fun c H => PB c H Q) e h (fun st p => p.later st) fun b H1 d1 _ e1 h1 => ?_
  cases b with
  | false => exact iteF ⟨_, d1, oa, ρ, e1, h1⟩
  | true => exact iteT (PB.now e1.wd h1)
theorem tr_one {op} (h : TrE Γ X E a fa) : TrE Γ X E (.BoolOp op [a] pos) fa := pe_one h
theorem tr_and (ha : TrE Γ X E a fa) (hb : TrE Γ X E (.BoolOp .And (b :: rest) pos) fb) : TrE Γ X E (.BoolOp .And (a :: b :: rest) pos) (fAndV fa fb) := pe_imp (pe_and ha hb) fun σ H Q h => by
  obtain ⟨c, d, oa, ρ, e, h⟩ := h
  refine lift_then (P := fun c H => PQ X.K c H Q) e h (fun st p => p.later st) fun w v H1 d1 _ r1 e1 h1 => ?_
  cases r1 with
  | bl b =>
    refine ⟨b, rfl, ?_⟩
    cases b with
    | true => exact iteT ⟨_, d1, oa, ρ, e1, h1⟩
    | false => exact iteF (PQ.now e1.wd h1 (.bl false))
  | _ => exact h1.elim
theorem tr_not (ha : TrE Γ X E a fa) : TrE Γ X E (.UnaryOp .Not a pos) (fNotV fa) := pe_imp (pe_not ha) fun σ H Q h => by
  obtain ⟨c, d, oa, ρ, e, h⟩ := h
  refine lift_then (P := fun c H => PQ X.K c H Q) e h (fun st p => p.later st) fun w v H1 d1 _ r1 e1 h1 => ?_
  cases r1 with
  | bl b => exact ⟨b, rfl, PQ.now e1.wd h1 (.bl _)⟩
  | _ => exact h1.elim
theorem tr_if (ht : TrB Γ X E cc ta) (ha : TrE Γ X E a fa) (hb : TrE Γ X E b fb) : TrE Γ X E (.IfExp cc a b pos) (fIf ta fa fb) := pe_imp (pe_ifExp ht ha hb) fun σ H Q h => by
  obtain ⟨c, d, oa, ρ, e, h⟩ := h
  refine liftB_then (P := fun c H => PQ X.K c H Q) e h (fun st p => p.later st) fun b H1 d1 _ e1 h1 => ?_
  cases b with
  | true => exact iteT ⟨_, d1, oa, ρ, e1, h1⟩
  | false => exact iteF ⟨_, d1, oa, ρ, e1, h1⟩
end
theorem sizeOk_of {ws : List W} (h : sizeOk ws = true) : ws.length ≤ sizeLine := by
  rw [sizeLine_eq]
  unfold sizeOk at h
  exact of_decide_eq_true h
section
variable {X : Cx} {E : WX} {e : Expr} {es : List Expr} {fa : En → T W} {fs : En → T (List W)} {pos : Pos}
theorem tra_nil : TrA Γ X E [] fNil := pa_imp pa_nil fun σ H Q h => by
  obtain ⟨c, d, oa, ρ, e, h⟩ := h
  exact h [] H (.refl _ H) e.st .nil
theorem tra_cons (ha : TrE Γ X E e fa) (hr : TrA Γ X E es fs) (hs : starEach (e :: es) X.env = (false, eval e X.env) :: starEach es X.env := by rfl) : TrA Γ X E (e :: es) (fCons fa fs) := pa_imp (pa_cons ha hr hs) fun σ H Q h => by
  obtain ⟨c, d, oa, ρ, e, h⟩ := h
  refine lift_then (P := fun c H => PQL X.K c H Q) e h (fun st p => p.later st) fun w v H1 d1 _ r1 e1 h1 => ?_
  refine liftA_then (P := fun c H => PQL X.K c H Q) e1 h1 (fun st p => p.later st) fun w2 v2 H2 d2 st2 r2 e2 h2 => ?_
  exact h2 _ H2 (.refl _ H2) e2.st (.cons (r1.step st2 e1.st e1.ok) r2)
theorem tr_tup {x1} (h : TrA Γ X E es fs) : TrE Γ X E (.Tuple es x1 pos) (fL fs mkTup) := pe_imp (pe_tup h) fun σ H Q h => by
  obtain ⟨c, d, oa, ρ, e, h⟩ := h
  refine liftA_then (P := fun c H => PQ X.K c H Q) e h (fun st p => p.later st) fun w v H1 d1 _ r1 e1 h1 => ?_
  obtain ⟨h2, h1⟩ := T.AllW.ite h1
  exact ⟨by rw [← r1.length]; exact sizeOk_of h2, fun p n => PQ.tup e1.wd h1 r1 n⟩
theorem tr_lst (h : TrA Γ X E es fs) : TrE Γ X E (.List es pos) (fL fs mkLst) := pe_imp (pe_lst h) fun σ H Q h => by
  obtain ⟨c, d, oa, ρ, e, h⟩ := h
  refine liftA_then (P := fun c H => PQ X.K c H Q) e h (fun st p => p.later st) fun w v H1 d1 _ r1 e1 h1 => ?_
  obtain ⟨h2, h1⟩ := T.AllW.ite h1
  exact ⟨by rw [← r1.length]; exact sizeOk_of h2, fun p n => PQ.lst e1.wd h1 r1 n⟩
theorem callL {r : List V → Hp → VK → Prop} {g : List W → T W} (hs : SemL X.K r g) : ∀ σ H Q, liftE X.K Γ E (fL fs g) σ H Q → tCB r (liftA X.K Γ E fs) σ H Q := fun σ H Q h => by
  obtain ⟨c, d, oa, ρ, e, h⟩ := h
  refine liftA_then (P := fun c H => PQ X.K c H Q) e h (fun st p => p.later st) fun w v H1 d1 _ r1 e1 h1 => ?_
  exact hs _ d1 H1 w v Q _ e1.wd r1 h1
/-- a built-in function, a built-in type, called -/
theorem tr_callB {r : List V → Hp → VK → Prop} {g : List W → T W} {x : Str} {p : Pos} {id : String} (hc : CallR X (.builtin id) r) (hs : SemL X.K r g) (hg : Gl X x) (hm : X.mg x = none) (hv : bootBuiltins x = some (.builtin id)) (ha : TrA Γ X E (e :: es) fs) (hn : x ≠ "__name__" := by decide) (hdb : (x == ("__debug__" : Str)) = false := by decide)
    (he : starEach (e :: es) X.env = (false, eval e X.env) :: starEach es X.env := by rfl) (hpl : (backTo pos (starEach es X.env)).any (·.1) = false := by rfl) : TrE Γ X E (.Call (.Name x p) (e :: es) [] pos) (fL fs g) :=
  pe_imp (pe_callB hc hg hm hv ha hn hdb he hpl) (callL hs)
theorem tr_callTy {r : List V → Hp → VK → Prop} {g : List W → T W} {x : Str} {p : Pos} {id : String} (hc : CallR X (.type id) r) (hs : SemL X.K r g) (hg : Gl X x) (hm : X.mg x = none) (hv : bootBuiltins x = some (.type id)) (ha : TrA Γ X E (e :: es) fs) (hn : x ≠ "__name__" := by decide) (hdb : (x == ("__debug__" : Str)) = false := by decide)
    (he : starEach (e :: es) X.env = (false, eval e X.env) :: starEach es X.env := by rfl) (hpl : (backTo pos (starEach es X.env)).any (·.1) = false := by rfl) : TrE Γ X E (.Call (.Name x p) (e :: es) [] pos) (fL fs g) :=
  pe_imp (pe_callTy hc hg hm hv ha hn hdb he hpl) (callL hs)
end
end PF
namespace PF
open PySem PySem.Spec PyProof.Rows L2
theorem PXs.toX {K : PySem.W.Frag} {c : Cc} {d0 : Dw} {H : Hp} {E : XK} {d : Dw} {n : Nat} {fs : List W} (wd : Wd c d0 H) (h : PXs K c H E d n fs) : PX K c H E d n fs := fun _ cls dx H' st so r => h _ cls dx H' (.of st wd) so r
section
variable {K : PySem.W.Frag} {E : XK} {f : En → T W} {c : Cc} {d : Dw} {oa : Nat → Addr} {ρ : En} {σ : St} {H : Hp}
abbrev wOf (E : XK) : WX := fun cls dx _ H => E cls dx H
theorem lift_thenS {β : Type} {P : Cc → Hp → Dw → β → Prop} {G : W → T β} {R : V → Hp → Prop} (e : EnvOk K Γ c d oa ρ σ H) (h : ((f ρ).bind G).AllW (P c H) (PXs K c H E) d)
    (lt : ∀ {c1 H1 d' b}, SG c c1 H H1 → P c H d' b → P c1 H1 d' b)
    (go : ∀ {c1 : Cc} w v H1 d1, SG c c1 H H1 → Rep K c1 H1 w v → EnvOk K Γ c1 d1 oa ρ σ H1 → (G w).AllW (P c1 H1) (PXs K c1 H1 E) d1 → R v H1) : liftE K Γ (wOf E) f σ H R := by
  refine ⟨c, d, oa, ρ, e, T.AllW.imp (fun d1 w x => ?_) (fun _ _ _ x => x.toX e.wd) (T.allW_bind.mp h)⟩
  intro _ v H1 st so r
  exact go w v H1 d1 st r (e.step st so) (T.AllW.imp (fun _ _ y => lt st y) (fun _ _ _ y => y.later e.wd st) x)
theorem liftB_thenS {β : Type} {fb : En → T Bool} {P : Cc → Hp → Dw → β → Prop} {G : Bool → T β} {R : Bool → Hp → Prop} (e : EnvOk K Γ c d oa ρ σ H) (h : ((fb ρ).bind G).AllW (P c H) (PXs K c H E) d)
    (lt : ∀ {c1 H1 d' b}, SG c c1 H H1 → P c H d' b → P c1 H1 d' b)
    (go : ∀ {c1 : Cc} b H1 d1, SG c c1 H H1 → EnvOk K Γ c1 d1 oa ρ σ H1 → (G b).AllW (P c1 H1) (PXs K c1 H1 E) d1 → R b H1) : liftB K Γ (wOf E) fb σ H R := by
  refine ⟨c, d, oa, ρ, e, T.AllW.imp (fun d1 w x => ?_) (fun _ _ _ x => x.toX e.wd) (T.allW_bind.mp h)⟩
  intro _ H1 st so
  exact go w H1 d1 st (e.step st so) (T.AllW.imp (fun _ _ y => lt st y) (fun _ _ _ y => y.later e.wd st) x)
theorem liftA_thenS {β : Type} {fs : En → T (List W)} {P : Cc → Hp → Dw → β → Prop} {G : List W → T β} {R : List V → Hp → Prop} (e : EnvOk K Γ c d oa ρ σ H) (h : ((fs ρ).bind G).AllW (P c H) (PXs K c H E) d)
    (lt : ∀ {c1 H1 d' b}, SG c c1 H H1 → P c H d' b → P c1 H1 d' b)
    (go : ∀ {c1 : Cc} w v H1 d1, SG c c1 H H1 → RepL K c1 H1 w v → EnvOk K Γ c1 d1 oa ρ σ H1 → (G w).AllW (P c1 H1) (PXs K c1 H1 E) d1 → R v H1) : liftA K Γ (wOf E) fs σ H R := by
  refine ⟨c, d, oa, ρ, e, T.AllW.imp (fun d1 w x => ?_) (fun _ _ _ x => x.toX e.wd) (T.allW_bind.mp h)⟩
  intro _ v H1 st so r
  exact go w v H1 d1 st r (e.step st so) (T.AllW.imp (fun _ _ y => lt st y) (fun _ _ _ y => y.later e.wd st) x)
end
/-- E is wanted of what is raised, at any slots -/
def liftS (K : PySem.W.Frag) (Γ : Cl) (E : XK) (g : En → T (Fl × En)) : TS := fun D σ H => ∃ c d oa ρ, EnvOk K Γ c d oa ρ σ H ∧ (g ρ).AllW (PSq K Γ c H D) (PXs K c H E) d
def TrS (Γ : Cl) (X : Cx) (E : XK) (st : Stmt) (g : En → T (Fl × En)) : Prop := PS X st (liftS X.K Γ E g)
def TrSs (Γ : Cl) (X : Cx) (E : XK) (sts : List Stmt) (g : En → T (Fl × En)) : Prop := PSs X sts (liftS X.K Γ E g)
section
variable {X : Cx} {E : XK} {st : Stmt} {sts : List Stmt} {g h : En → T (Fl × En)} {f : En → T W} {e a b : Expr} {fs : En → T (List W)} {t : En → T Bool} {pos : Pos}
theorem trs_nil : TrSs Γ X E [] sNil := pss_imp pss_nil fun D σ H q => by
  obtain ⟨c, d, oa, ρ, e, q⟩ := q
  exact q _ oa σ H .refl e
theorem trs_cons (h1 : TrS Γ X E st g) (h2 : TrSs Γ X E sts h) : TrSs Γ X E (st :: sts) (sSeq g h) := pss_imp (pss_cons h1 h2) fun D σ H q => by
  obtain ⟨c, d, oa, ρ, e, q⟩ := q
  refine ⟨c, d, oa, ρ, e, T.AllW.imp (fun d1 x hx => ?_) (fun _ _ _ y => y) (T.allW_bind.mp q)⟩
  obtain ⟨fl, ρ'⟩ := x
  intro c' oa' σ' H' fw e'
  cases fl with
  | nx => exact ⟨c', d1, oa', ρ', e', T.AllW.imp (fun _ _ y => y.later fw) (fun _ _ _ y => y.fwd fw) hx⟩
  | rt w => exact hx c' oa' σ' H' fw e'
  | bk => exact hx c' oa' σ' H' fw e'
  | ct => exact hx c' oa' σ' H' fw e'
  | rn ws => exact hx c' oa' σ' H' fw e'
theorem trs_one (h1 : TrS Γ X E st g) : TrSs Γ X E [st] g := pss_one h1
theorem tr_ret (he : TrE Γ X (wOf E) e f) : TrS Γ X E (.Return (some e) pos) (sRet f) := ps_imp (ps_ret he) fun D σ H q => by
  obtain ⟨c, d, oa, ρ, e, q⟩ := q
  refine lift_thenS (P := fun c H => PSq X.K Γ c H D) e q (fun st p => p.later (.of st e.wd)) fun w v H1 d1 _ r1 e1 h1 => ?_
  exact h1 _ oa σ H1 .refl e1 v r1
theorem tr_expr (he : TrE Γ X (wOf E) e f) (hs : swapsWith e none pos.line X.env = pure false := by rfl) : TrS Γ X E (.Expr e pos) (sExpr f) := ps_imp (ps_expr he hs) fun D σ H q => by
  obtain ⟨c, d, oa, ρ, e, q⟩ := q
  refine lift_thenS (P := fun c H => PSq X.K Γ c H D) e q (fun st p => p.later (.of st e.wd)) fun w v H1 d1 _ r1 e1 h1 => ?_
  exact h1 _ oa σ H1 .refl e1
theorem tr_set {i : Nat} {x : Str} {pos' : Pos} (hN : X.N.Nodup) (hi : X.N[i]? = some x) (hx : Loc X.env.scope x) (he : TrE Γ X (wOf E) e f) (hs : swapsWith e (some (.Name x pos')) pos.line X.env = pure false := by rfl)
    (hf : X.fn x = true ∨ X.env.scope.names.lookup x = some .local := by first | exact .inl rfl | exact .inr rfl | assumption) : TrS Γ X E (.Assign [.Name x pos'] e pos) (sSet i f) := ps_imp (ps_set hN hi hx he hs hf) fun D σ H q => by
  obtain ⟨c, d, oa, ρ, e, q⟩ := q
  refine lift_thenS (P := fun c H => PSq X.K Γ c H D) e q (fun st p => p.later (.of st e.wd)) fun w v H1 d1 _ r1 e1 h1 => ?_
  exact h1 _ oa _ H1 .refl (e1.set r1)
theorem tr_ifs {sa sb : List Stmt} (hc : TrB Γ X (wOf E) e t) (ha : TrSs Γ X E sa g) (hb : TrSs Γ X E sb h) : TrS Γ X E (.If e sa sb pos) (sIf t g h) := ps_imp (ps_if hc ha hb) fun D σ H q => by
  obtain ⟨c, d, oa, ρ, e, q⟩ := q
  refine liftB_thenS (P := fun c H => PSq X.K Γ c H D) e q (fun st p => p.later (.of st e.wd)) fun b H1 d1 _ e1 h1 => ?_
  cases b with
  | true => exact iteT ⟨_, d1, oa, ρ, e1, h1⟩
  | false => exact iteF ⟨_, d1, oa, ρ, e1, h1⟩
theorem tr_par {i j : Nat} (hp : PS X st (tPar i j (liftA X.K Γ (wOf E) fs))) : TrS Γ X E st (sPar i j fs) := ps_imp hp fun D σ H q => by
  obtain ⟨c, d, oa, ρ, e, q⟩ := q
  refine liftA_thenS (P := fun c H => PSq X.K Γ c H D) e q (fun st p => p.later (.of st e.wd)) fun w v H1 d1 _ r1 e1 h1 => ?_
  cases r1 with
  | nil => exact h1.elim
  | cons r1 r2 =>
    cases r2 with
    | nil => exact h1.elim
    | cons r2 r3 =>
      cases r3 with
      | nil => exact ⟨_, _, rfl, h1 _ oa _ H1 .refl ((e1.set r1).set r2)⟩
      | cons _ _ => exact h1.elim
end
end PF
namespace PF
open PySem PySem.Spec PyProof.Rows L2
def liftG (K : PySem.W.Frag) (Γ : Cl) (ns : List Nat) (G : W → En → Option En) : TG := fun v σ H Q => ∃ c d oa ρ w ρ', EnvOk K Γ c d oa ρ σ H ∧ Rep K c H w v ∧ G w ρ = some ρ' ∧ ∀ σ', ButAt ns σ σ' → EnvOk K Γ c d oa ρ' σ' H → Q σ' H
def liftGs (K : PySem.W.Frag) (Γ : Cl) (ns : List Nat) (G : List W → En → Option En) : TGs := fun vs σ H Q => ∃ c d oa ρ ws ρ', EnvOk K Γ c d oa ρ σ H ∧ RepL K c H ws vs ∧ G ws ρ = some ρ' ∧ ∀ σ', ButAt ns σ σ' → EnvOk K Γ c d oa ρ' σ' H → Q σ' H
def TrG (Γ : Cl) (X : Cx) (e : Expr) (ns : List Nat) (G : W → En → Option En) : Prop := PG X e (liftG X.K Γ ns G)
def TrGs (Γ : Cl) (X : Cx) (es : List Expr) (ns : List Nat) (G : List W → En → Option En) : Prop := PGs X es (liftGs X.K Γ ns G)
def goNil : List W → En → Option En := fun ws ρ => match ws with
  | [] => some ρ
  | _ => none
def goCons (G : W → En → Option En) (Gs : List W → En → Option En) : List W → En → Option En := fun ws ρ => match ws with
  | w :: ws => (G w ρ).bind (Gs ws)
  | [] => none
def goTup (n : Nat) (Gs : List W → En → Option En) : W → En → Option En := fun w ρ => match w with
  | .tup ws => if ws.length == n then Gs ws ρ else none
  | _ => none
theorem pg_imp {X : Cx} {e : Expr} {t t' : TG} (h : PG X e t) (i : ∀ v σ H Q, t' v σ H Q → t v σ H Q) : PG X e t' := ⟨fun pins s σ H v u Q I r q => h.run pins s σ H v u Q I r (i v σ H Q q)⟩
theorem pgs_imp {X : Cx} {e : List Expr} {t t' : TGs} (h : PGs X e t) (i : ∀ v σ H Q, t' v σ H Q → t v σ H Q) : PGs X e t' := ⟨fun pins s σ H v u Q I r q => h.run pins s σ H v u Q I r (i v σ H Q q)⟩
section
variable {X : Cx} {e : Expr} {es : List Expr} {ns ms : List Nat} {G : W → En → Option En} {Gs : List W → En → Option En} {pos : Pos}
theorem trg_name {i : Nat} {x : Str} (hN : X.N.Nodup) (hi : X.N[i]? = some x) (hx : Loc X.env.scope x) (hf : X.fn x = true ∨ X.env.scope.names.lookup x = some .local := by first | exact .inl rfl | exact .inr rfl | assumption) : TrG Γ X (.Name x pos) [i] (goName i) := pg_imp (pg_name hN hi hx hf) fun v σ H Q h => by
  obtain ⟨c, d, oa, ρ, w, ρ', e, r, g, q⟩ := h
  cases g
  exact q _ ⟨by rw [List.length_set], fun j h => by rw [List.getElem?_set_ne (fun z => h (by simp [z]))]⟩ (e.set r)
theorem trgs_nil : TrGs Γ X [] [] goNil := pgs_imp pgs_nil fun v σ H Q h => by
  obtain ⟨c, d, oa, ρ, w, ρ', e, r, g, q⟩ := h
  cases r with
  | nil =>
    cases g
    exact ⟨rfl, q σ ⟨rfl, fun _ _ => rfl⟩ e⟩
  | cons _ _ => cases g
theorem trgs_cons (h1 : TrG Γ X e ns G) (h2 : TrGs Γ X es ms Gs) (hs : (assignEach (e :: es) X.env).map (·.2) = assign e X.env :: (assignEach es X.env).map (·.2) := by rfl) : TrGs Γ X (e :: es) (ns ++ ms) (goCons G Gs) := pgs_imp (pgs_cons h1 h2 hs) fun v σ H Q h => by
  obtain ⟨c, d, oa, ρ, w, ρ', e, r, g, q⟩ := h
  cases r with
  | nil => cases g
  | cons r rr =>
    rename_i w1 v1 ws1 vs1
    have g' : (G w1 ρ).bind (Gs ws1) = some ρ' := g
    cases g1 : G w1 ρ with
    | none =>
      rw [g1] at g'
      cases g'
    | some ρ1 =>
      rw [g1] at g'
      exact ⟨v1, vs1, rfl, c, d, oa, ρ, w1, ρ1, e, r, g1, fun σ1 b1 e1 => ⟨c, d, oa, ρ1, ws1, ρ', e1, rr, g', fun σ2 b2 e2 => q σ2 (b1.trans b2) e2⟩⟩
theorem trg_tup {k n : Nat} (hc : X.calm = true) (h : TrGs Γ X es ns Gs) (hn : (assignEach es X.env).length = n := by rfl) (hst : (assignEach es X.env).findIdx? (·.1) = none := by rfl) : TrG Γ X (.Tuple es k pos) ns (goTup n Gs) := pg_imp (pg_tup hc h hn hst) fun v σ H Q h => by
  obtain ⟨c, d, oa, ρ, w, ρ', e, r, g, q⟩ := h
  cases r with
  | tup hq rl =>
    rename_i a vs ws
    have g' : (if ws.length == n then Gs ws ρ else none) = some ρ' := g
    cases hl : (ws.length == n) with
    | false =>
      rw [hl] at g'
      cases g'
    | true =>
      rw [hl] at g'
      exact ⟨a, vs, rfl, hq, by rw [← rl.length]; exact eq_of_beq hl, c, d, oa, ρ, ws, ρ', e, rl, g', q⟩
  | _ => cases g
end
theorem tr_asg {X : Cx} {E : XK} {e tg : Expr} {f : En → T W} {ns : List Nat} {G : W → En → Option En} {pos : Pos} (he : TrE Γ X (wOf E) e f) (hg : TrG Γ X tg ns G) (hs : swapsWithSole [tg] e pos.line X.env = pure false := by rfl) (hw : swappedStores [tg] e X.env = pure none := by rfl)
    (h1 : (assignEach [tg] X.env).map (·.2) = [assign tg X.env] := by rfl) : TrS Γ X E (.Assign [tg] e pos) (sAsg f G) := ps_imp (ps_asg he hg hs hw h1) fun D σ H q => by
  obtain ⟨c, d, oa, ρ, e, q⟩ := q
  refine lift_thenS (P := fun c H => PSq X.K Γ c H D) e q (fun st p => p.later (.of st e.wd)) fun w v H1 d1 _ r1 e1 h1 => ?_
  cases g : G w ρ with
  | none =>
    rw [g] at h1
    exact h1.elim
  | some ρ' =>
    rw [g] at h1
    exact ⟨_, d1, oa, ρ, w, ρ', e1, r1, g, fun σ' _ e' => h1 _ oa σ' H1 .refl e'⟩
def whileL (t : En → T Bool) (gb : En → T (Fl × En)) : Nat → En → T (Fl × En)
  | 0, _ => .bad
  | n + 1, ρ => (t ρ).bind fun b => if b then (gb ρ).bind fun x => match x with
      | (.nx, ρ') => whileL t gb n ρ'
      | (.ct, ρ') => whileL t gb n ρ'
      | (.bk, ρ') => .ok (.nx, ρ')
      | (.rt w, ρ') => .ok (.rt w, ρ')
      | (.rn ws, ρ') => .ok (.rn ws, ρ') else .ok (.nx, ρ)
def sWhile (μ : En → Nat) (t : En → T Bool) (gb : En → T (Fl × En)) : En → T (Fl × En) := fun ρ => whileL t gb (μ ρ) ρ
theorem tr_while {X : Cx} {E : XK} {e : Expr} {body : List Stmt} {t : En → T Bool} {gb : En → T (Fl × En)} {pos : Pos} (μ : En → Nat) (hp : PassesOwn (model X.prog X.w) X.A X.env X.xe) (hc : TrB Γ X (wOf E) e t) (hb : TrSs Γ X E body gb) : TrS Γ X E (.While e body [] pos) (sWhile μ t gb) :=
  ps_imp (ps_while hp hc hb) fun D σ H q => by
  obtain ⟨c, d, oa, ρ, e, q⟩ := q
  refine ⟨fun m σ H => ∃ c d oa ρ, EnvOk X.K Γ c d oa ρ σ H ∧ (whileL t gb m ρ).AllW (PSq X.K Γ c H D) (PXs X.K c H E) d, ⟨_, c, d, oa, ρ, e, q⟩, ?_⟩
  rintro m σ H ⟨c, d, oa, ρ, e, q⟩
  cases m with
  | zero => exact q.elim
  | succ m =>
    refine liftB_thenS (P := fun c H => PSq X.K Γ c H D) e q (fun st p => p.later (.of st e.wd)) fun b H1 d1 _ e1 h1 => ?_
    cases b with
    | false => exact iteF (h1 _ oa σ H1 .refl e1)
    | true =>
      refine iteT ⟨fun σ H => ∃ c d oa ρ, EnvOk X.K Γ c d oa ρ σ H ∧ (whileL t gb m ρ).AllW (PSq X.K Γ c H D) (PXs X.K c H E) d, fun σ' H' h => ⟨m, Nat.lt_succ_self m, h⟩, _, d1, oa, ρ, e1, ?_⟩
      refine T.AllW.imp (fun d2 x hx => ?_) (fun _ _ _ y => y) (T.allW_bind.mp h1)
      obtain ⟨fl, ρ2⟩ := x
      intro c2 oa2 σ2 H2 fw e2
      cases fl with
      | nx => exact ⟨c2, d2, oa2, ρ2, e2, T.AllW.imp (fun _ _ y => y.later fw) (fun _ _ _ y => y.fwd fw) hx⟩
      | ct => exact ⟨c2, d2, oa2, ρ2, e2, T.AllW.imp (fun _ _ y => y.later fw) (fun _ _ _ y => y.fwd fw) hx⟩
      | bk => exact hx c2 oa2 σ2 H2 fw e2
      | rt w => exact hx c2 oa2 σ2 H2 fw e2
      | rn ws => exact hx c2 oa2 σ2 H2 fw e2
def liftI (K : PySem.W.Frag) (Γ : Cl) (E : WX) (f : En → T (List W)) : TI := fun σ H R => ∃ c d oa ρ, EnvOk K Γ c d oa ρ σ H ∧ (f ρ).AllW (PJ K c H R) (PX K c H fun cls dx H' => E cls dx σ H') d
def TrI (Γ : Cl) (X : Cx) (E : WX) (tg iter : Expr) (f : En → T (List W)) : Prop := PI X tg iter (liftI X.K Γ E f)
theorem pi_imp {X : Cx} {tg e : Expr} {t t' : TI} (h : PI X tg e t) (i : ∀ σ H Q, t' σ H Q → t σ H Q) : PI X tg e t' := ⟨fun pins s σ H Q I q => h.run pins s σ H Q I (i σ H Q q)⟩
def tupW : W → T (List W)
  | .tup ws => .ok ws
  | _ => .bad
def lstW : W → T (List W)
  | .lst ws => .ok ws
  | _ => .bad
def intsFrom (lo : Int) : Nat → List W
  | 0 => []
  | n + 1 => .int lo :: intsFrom (lo + 1) n
theorem intsFrom_get : ∀ (n : Nat) (lo : Int) (i : Nat), (intsFrom lo n)[i]? = if i < n then some (.int (lo + i)) else none
  | 0, lo, i => by simp [intsFrom]
  | n + 1, lo, 0 => by simp [intsFrom]
  | n + 1, lo, i + 1 => by
    simp only [intsFrom, List.getElem?_cons_succ]
    rw [intsFrom_get n (lo + 1) i]
    by_cases h : i < n
    · rw [if_pos h, if_pos (by omega)]
      have e : lo + 1 + (i : Int) = lo + ((i + 1 : Nat) : Int) := by omega
      rw [e]
    · rw [if_neg h, if_neg (by omega)]
theorem intsFrom_length : ∀ (n : Nat) (lo : Int), (intsFrom lo n).length = n
  | 0, _ => rfl
  | n + 1, lo => congrArg (· + 1) (intsFrom_length n (lo + 1))
theorem rngOk_of {n : Int} (h : rngOk n = true) : -(2 ^ 62) ≤ n ∧ n < 2 ^ 62 := by
  unfold rngOk at h
  have h := of_decide_eq_true h
  by_cases h0 : n.natAbs = 0
  · omega
  · have := (Nat.log2_lt h0).mp h
    omega
theorem rngOk_is {n : Int} (h : -(2 ^ 60) ≤ n) (h1 : n ≤ 2 ^ 60) : rngOk n = true := by
  unfold rngOk
  refine decide_eq_true ?_
  by_cases h0 : n.natAbs = 0
  · rw [h0]
    decide
  · exact (Nat.log2_lt h0).mpr (by omega)
def rng1 : List W → T (List W)
  | [.int n] => if rngOk n then .ok (intsFrom 0 n.toNat) else .bad
  | _ => .bad
def rng2 : List W → T (List W)
  | [.int a, .int b] => if rngOk a && rngOk b then .ok (intsFrom a (b - a).toNat) else .bad
  | _ => .bad
section
variable {X : Cx} {E : WX} {tg e a b : Expr} {f : En → T W} {fs : En → T (List W)} {p pos : Pos}
theorem PJ.now {K : PySem.W.Frag} {c : Cc} {H : Hp} {R : It → Hp → Prop} {d : Dw} {ws : List W} {J : It} (wd : Wd c d H) (h : PJ K c H R d ws) (j : ItOk K c H J ws) : R J H := h J H (.refl _ H) wd.st j
theorem tri_tup (h : TrE Γ X E e f) : TrI Γ X E tg e (iOf tupW f) := pi_imp (pi_tup h) fun σ H R q => by
  obtain ⟨c, d, oa, ρ, e, q⟩ := q
  refine lift_then (P := fun c H => PJ X.K c H R) e q (fun st p => p.later st) fun w v H1 d1 _ r1 e1 h1 => ?_
  cases r1 with
  | tup hq rl =>
    rename_i a vs ws
    refine ⟨a, rfl, ⟨_, hq⟩, PJ.now e1.wd h1 fun c' H' d' i fw wd => ⟨fun w hw => ?_, fun hi => ?_⟩⟩
    · obtain ⟨v, hv, rv⟩ := rl.get hw
      have hq' := fw.sqT e1.wd hq
      refine ⟨⟨vs, v, hq', hv⟩, fun x H2 y => ?_⟩
      obtain ⟨rfl, y⟩ := y
      have ex := y vs hq'
      rw [hv] at ex
      cases ex
      exact ⟨.refl _ _, wd.st, fw.rep _ _ rv⟩
    · exact ⟨vs, fw.sqT e1.wd hq, by rw [← rl.length]; exact hi⟩
  | _ => exact h1.elim
theorem tri_lst (h : TrE Γ X E e f) : TrI Γ X E tg e (iOf lstW f) := pi_imp (pi_list h) fun σ H R q => by
  obtain ⟨c, d, oa, ρ, e, q⟩ := q
  refine lift_then (P := fun c H => PJ X.K c H R) e q (fun st p => p.later st) fun w v H1 d1 _ r1 e1 h1 => ?_
  cases r1 with
  | lst n hq rl =>
    rename_i a vs ws
    refine ⟨a, rfl, ⟨_, SqL.of hq⟩, PJ.now e1.wd h1 fun c' H' d' i fw wd => ?_⟩
    have hq' : H' a = some (.lst vs) := fw.step _ _ hq (e1.ok.neS n) (e1.ok.nela n) (fun z => n (e1.m.inA _ z)) nofun
    have uq : ∀ xs, SqL X.K H' a xs → Rd H' a (.lst xs) ∨ SqL X.K (fun _ => none) a xs := fun xs h => sqL_split h
    refine ⟨fun w hw => ?_, fun hi => ?_⟩
    · obtain ⟨v, hv, rv⟩ := rl.get hw
      refine ⟨⟨vs, v, SqL.of hq', hv⟩, fun x H2 y => ?_⟩
      obtain ⟨rfl, y⟩ := y
      have ex := y vs (SqL.of hq')
      rw [hv] at ex
      cases ex
      exact ⟨.refl _ _, wd.st, fw.rep _ _ rv⟩
    · exact ⟨vs, SqL.of hq', by rw [← rl.length]; exact hi⟩
  | _ => exact h1.elim
theorem itr_ok {K : PySem.W.Frag} {c : Cc} {H : Hp} (lo : Int) (n : Nat) : ItOk K c H (Itr lo n) (intsFrom lo n) := fun c' H' d' i fw wd => by
  refine ⟨fun w hw => ?_, fun hi => ?_⟩
  · rw [intsFrom_get] at hw
    by_cases hi : i < n
    · rw [if_pos hi] at hw
      cases hw
      refine ⟨hi, fun x H2 y => ?_⟩
      obtain ⟨rfl, rfl⟩ := y
      exact ⟨.refl _ _, wd.st, .int _⟩
    · rw [if_neg hi] at hw
      cases hw
  · rw [intsFrom_length] at hi
    exact hi
theorem tri_rng1 (hg : Gl X "range") (hm : X.mg "range" = none) (ha : TrA Γ X E [a] fs) (hs : starEach [a] X.env = [(false, eval a X.env)] := by rfl) : TrI Γ X E tg (.Call (.Name "range" p) [a] [] pos) (iL rng1 fs) := pi_imp (pi_range1 hg hm ha hs) fun σ H R q => by
  obtain ⟨c, d, oa, ρ, e, q⟩ := q
  refine liftA_then (P := fun c H => PJ X.K c H R) e q (fun st p => p.later st) fun w v H1 d1 _ r1 e1 h1 => ?_
  cases r1 with
  | nil => exact h1.elim
  | cons r rr =>
    cases rr with
    | cons _ _ =>
      cases r <;> exact h1.elim
    | nil =>
      cases r with
      | int n =>
        obtain ⟨hb, h1⟩ := T.AllW.ite h1
        obtain ⟨h2, h3⟩ := rngOk_of hb
        exact ⟨n, rfl, h2, h3, PJ.now e1.wd h1 (itr_ok 0 n.toNat)⟩
      | _ => exact h1.elim
theorem tri_rng2 (hg : Gl X "range") (hm : X.mg "range" = none) (ha : TrA Γ X E [a, b] fs) (hs : starEach [a, b] X.env = [(false, eval a X.env), (false, eval b X.env)] := by rfl) (hs2 : starEach [b] X.env = [(false, eval b X.env)] := by rfl) : TrI Γ X E tg (.Call (.Name "range" p) [a, b] [] pos) (iL rng2 fs) := pi_imp (pi_range2 hg hm ha hs hs2) fun σ H R q => by
  obtain ⟨c, d, oa, ρ, e, q⟩ := q
  refine liftA_then (P := fun c H => PJ X.K c H R) e q (fun st p => p.later st) fun w v H1 d1 _ r1 e1 h1 => ?_
  cases r1 with
  | nil => exact h1.elim
  | cons r rr =>
    cases rr with
    | nil => cases r <;> exact h1.elim
    | cons r2 rr =>
      cases rr with
      | cons _ _ => cases r <;> cases r2 <;> exact h1.elim
      | nil =>
        cases r with
        | int x =>
          cases r2 with
          | int y =>
            obtain ⟨hb, h1⟩ := T.AllW.ite h1
            obtain ⟨ha, hb⟩ := Bool.and_eq_true_iff.mp hb
            obtain ⟨a1, a2⟩ := rngOk_of ha
            obtain ⟨b1, b2⟩ := rngOk_of hb
            exact ⟨x, y, rfl, ⟨a1, a2, b1, b2⟩, PJ.now e1.wd h1 (itr_ok x (y - x).toNat)⟩
          | _ => exact h1.elim
        | _ => exact h1.elim
end
theorem tr_for {X : Cx} {E : XK} {tg iter : Expr} {body : List Stmt} {fi : En → T (List W)} {ns : List Nat} {G : W → En → Option En} {gb : En → T (Fl × En)} {pos : Pos} (hp : PassesOwn (model X.prog X.w) X.A X.env X.xe) (hc : X.calm = true) (hi : TrI Γ X (wOf E) tg iter fi) (hg : TrG Γ X tg ns G) (hb : TrSs Γ X E body gb)
    (hs : ∀ x, foldedSetIterable iter X.env x = pure x := by intro _; rfl) : TrS Γ X E (.For tg iter body [] pos) (sFor fi G gb) := ps_imp (ps_for hp hc hi hg hb hs) fun D σ H q => by
  obtain ⟨c, d, oa, ρ, e, q⟩ := q
  refine ⟨c, d, oa, ρ, e, T.AllW.imp (fun d1 ws hx => ?_) (fun _ _ _ y => y.toX e.wd) (T.allW_bind.mp q)⟩
  intro c1 J H1 st1 so1 jo
  have e1 := e.step st1 so1
  refine ⟨fun i m σ H' => m = ws.length - i ∧ ∃ c' d' oa' ρ', Fwd X.K c1 H1 c' H' ∧ EnvOk X.K Γ c' d' oa' ρ' σ H' ∧ (forL G gb (ws.drop i) ρ').AllW (PSq X.K Γ c' H' D) (PXs X.K c' H' E) d', ⟨_, rfl, c1, d1, oa, ρ, .refl, e1, T.AllW.imp (fun _ _ y => y.later (.of st1 e.wd)) (fun _ _ _ y => y.later e.wd st1) hx⟩, ?_⟩
  rintro i m σ' H' ⟨rfl, c', d', oa', ρ', fw, e', h'⟩
  obtain ⟨ji, js⟩ := jo c' H' d' i fw e'.wd
  by_cases hi : i < ws.length
  · have hw : ws[i]? = some ws[i] := List.getElem?_eq_getElem hi
    have hd : ws.drop i = ws[i] :: ws.drop (i + 1) := List.drop_eq_getElem_cons hi
    rw [hd] at h'
    obtain ⟨jg, jy⟩ := ji _ hw
    refine .inr ⟨jg, fun σ2 H2 => ∃ c2 d2 oa2 ρ2, Fwd X.K c1 H1 c2 H2 ∧ EnvOk X.K Γ c2 d2 oa2 ρ2 σ2 H2 ∧ (forL G gb (ws.drop (i + 1)) ρ2).AllW (PSq X.K Γ c2 H2 D) (PXs X.K c2 H2 E) d2, fun σ2 H2 h2 => ⟨ws.length - (i + 1), by omega, rfl, h2⟩, fun x H2 y => ?_⟩
    obtain ⟨st2, so2, rx⟩ := jy x H2 y
    have fw2 : Fwd X.K c' H' c' H2 := .of st2 e'.wd
    have e2 := e'.step st2 so2
    unfold forL at h'
    cases g : G ws[i] ρ' with
    | none =>
      rw [g] at h'
      exact h'.elim
    | some ρ1 =>
      rw [g] at h'
      refine ⟨c', d', oa', ρ', ws[i], ρ1, e2, rx, g, fun σ3 _ e3 => ⟨c', d', oa', ρ1, e3, ?_⟩⟩
      refine T.AllW.imp (fun d4 x4 hx4 => ?_) (fun _ _ _ y => y.fwd fw2) (T.allW_bind.mp h')
      obtain ⟨fl, ρ4⟩ := x4
      intro c4 oa4 σ4 H4 fw4 e4
      have fw5 : Fwd X.K c' H' c4 H4 := fw2.trans fw4
      cases fl with
      | nx => exact ⟨c4, d4, oa4, ρ4, fw.trans fw5, e4, T.AllW.imp (fun _ _ y => y.later fw5) (fun _ _ _ y => y.fwd fw5) hx4⟩
      | ct => exact ⟨c4, d4, oa4, ρ4, fw.trans fw5, e4, T.AllW.imp (fun _ _ y => y.later fw5) (fun _ _ _ y => y.fwd fw5) hx4⟩
      | bk => exact hx4 c4 oa4 σ4 H4 fw5 e4
      | rt w => exact hx4 c4 oa4 σ4 H4 fw5 e4
      | rn ws => exact hx4 c4 oa4 σ4 H4 fw5 e4
  · rw [List.drop_eq_nil_of_le (by omega)] at h'
    exact .inl ⟨js (by omega), h' c' oa' σ' H' .refl e'⟩
end PF
namespace PF
open PySem PySem.Spec PyProof.Rows L2
/-- a step, then an object that is new since then is changed -/
theorem Step.past {c : Cc} {H H' : Hp} {D : Addr} {u : HO} (st : Step c H H') (n : H D = none) : Step c H (L2.upd H' D u) := ⟨fun b o hb h1 h2 h3 => by
    rw [upd_ne (ne_of_none hb n)]
    exact st.keep b o hb h1 h2 h3, fun b ps hb => by
    rw [upd_ne (ne_of_none hb n)]
    exact st.tbl b ps hb, fun b C dx fs hb => by
    obtain ⟨gs, q⟩ := st.ins b C dx fs hb
    exact ⟨gs, by rw [upd_ne (ne_of_none hb n)]; exact q⟩⟩
theorem noX_all {α : Type} {P : Dw → α → Prop} {E E' : Dw → Nat → List W → Prop} {t : T α} {d : Dw} (h : (noX t).AllW P E d) : t.AllW P E' d := by
  induction t generalizing d with
  | ok a => exact h
  | exc _ _ => exact h.elim
  | bad => exact h
  | ask n k ih =>
    obtain ⟨e, he, x⟩ := h
    exact ⟨e, he, fun i hi => ih i (x i hi)⟩
  | get i k ih =>
    obtain ⟨c, fs, e, x⟩ := h
    exact ⟨c, fs, e, ih c fs x⟩
  | put i fs k ih =>
    obtain ⟨c, gs, e, x⟩ := h
    exact ⟨c, gs, e, ih x⟩
  | new c fs k ih => exact ih _ h
def wipeE (ρ : En) : List Nat → En
  | [] => ρ
  | v :: vs => (wipeE ρ vs).set v .un
def compL (G : W → En → Option En) (tt : En → T Bool) (fe : En → T W) (ρ : En) : List W → T (List W)
  | [] => .ok []
  | w :: ws => match G w ρ with
    | none => .bad
    | some ρ1 => (noX (tt ρ1)).bind fun b => if b then (noX (fe ρ1)).bind fun x => (compL G tt fe ρ ws).bind fun xs => .ok (x :: xs) else compL G tt fe ρ ws
def fComp (vs : List Nat) (fi : En → T (List W)) (G : W → En → Option En) (tt : En → T Bool) (fe : En → T W) : En → T W := fun ρ => (fi ρ).bind fun ws => if sizeOk ws then (compL G tt fe (wipeE ρ vs) ws).bind fun xs => .ok (.lst xs) else .bad
abbrev noW : WX := fun _ _ _ _ => False
section
variable {K : PySem.W.Frag} {c : Cc} {d : Dw} {oa : Nat → Addr} {ρ : En} {σ : St} {H : Hp}
theorem EnvOk.wipe (e : EnvOk K Γ c d oa ρ σ H) : ∀ vs : List Nat, EnvOk K Γ c d oa (wipeE ρ vs) (L2.wipe σ vs) H
  | [] => e
  | v :: vs => (EnvOk.wipe e vs).un
theorem wipeE_own {j : Nat} {xs : List W} : ∀ {vs : List Nat}, (wipeE ρ vs)[j]? = some (.own xs) → ρ[j]? = some (.own xs)
  | [], h => h
  | v :: vs, h => by
    rcases getElem?_set_or h with ⟨_, ex⟩ | ⟨_, h⟩
    · cases ex
    · exact wipeE_own h
theorem wipe_len (σ : St) : ∀ vs : List Nat, (L2.wipe σ vs).length = σ.length
  | [] => rfl
  | v :: vs => by
    unfold L2.wipe
    rw [List.length_set, wipe_len σ vs]
theorem wipe_at (σ : St) : ∀ (vs : List Nat) (j : Nat), (L2.wipe σ vs)[j]? = if j ∈ vs then (if j < σ.length then some none else none) else σ[j]?
  | [], j => by
    rw [if_neg (by simp)]
    rfl
  | v :: vs, j => by
    unfold L2.wipe
    by_cases e : v = j
    · subst e
      rw [if_pos (List.mem_cons_self ..), List.getElem?_set]
      simp only [if_true, wipe_len]
    · rw [List.getElem?_set_ne e, wipe_at σ vs j]
      have e' : (j ∈ v :: vs) ↔ j ∈ vs := by
        simp only [List.mem_cons]
        exact ⟨fun h => h.elim (fun z => absurd z.symm e) id, .inr⟩
      simp only [e']
theorem wipe_but {ns vs : List Nat} {σ2 : St} (h : ButAt ns (L2.wipe σ vs) σ2) (hs : ∀ i ∈ ns, i ∈ vs) : L2.wipe σ2 vs = L2.wipe σ vs := by
  refine List.ext_getElem? fun j => ?_
  rw [wipe_at, wipe_at]
  have hl : σ2.length = σ.length := by rw [h.1, wipe_len]
  by_cases hj : j ∈ vs
  · rw [if_pos hj, if_pos hj, hl]
  · rw [if_neg hj, if_neg hj, h.2 j (fun z => hj (hs j z)), wipe_at, if_neg hj]
end
section
variable {X : Cx} {E : WX} {elt tg iter : Expr} {ifs : List Expr} {scope : Scope} {own : List (Str × Nat)} {pos : Pos} {fi : En → T (List W)} {ns : List Nat} {G : W → En → Option En} {tt : En → T Bool} {fe : En → T W}
theorem comp_ok (hs : ∀ i ∈ ns, i ∈ own.map (·.2)) : ∀ σ H Q, liftE X.K Γ E (fComp (own.map (·.2)) fi G tt fe) σ H Q → tLc (liftI X.K Γ E fi) (liftG X.K Γ ns G) (liftB X.K Γ noW tt) (liftE X.K Γ noW fe) (own.map (·.2)) σ H Q := fun σ H Q h => by
  obtain ⟨c, d, oa, ρ, e, h⟩ := h
  refine ⟨c, d, oa, ρ, e, T.AllW.imp (fun d1 ws hx => ?_) (fun _ _ _ y => y) (T.allW_bind.mp h)⟩
  intro c1 J H1 st1 so1 jo D nD
  have e1 := e.step st1 so1
  obtain ⟨hz, hx⟩ := T.AllW.ite hx
  have hz := sizeOk_of hz
  generalize hvs : own.map (·.2) = vs at hs hx
  have hx : ((compL G tt fe (wipeE ρ vs) ws).bind fun xs => T.ok (W.lst xs)).AllW (PQ X.K c1 H1 Q) (PX X.K c1 H1 fun cls dx H' => E cls dx σ H') d1 := T.AllW.imp (fun _ _ y => y.later st1) (fun _ _ _ y => y.later st1) hx
  -- the turn's word
  refine ⟨fun i m H' => m = ws.length - i ∧ ∃ cm d' acc us, Gr (c1.more D) cm ∧ Step c1 H1 H' ∧ EnvOk X.K Γ cm d' oa (wipeE ρ vs) (wipe σ vs) H' ∧ H' D = some (.lst us) ∧ RepL X.K cm H' acc us ∧ us.length ≤ i ∧
    ((compL G tt fe (wipeE ρ vs) (ws.drop i)).bind fun xs => T.ok (W.lst (acc ++ xs))).AllW (PQ X.K c1 H1 Q) (PX X.K c1 H1 fun cls dx H' => E cls dx σ H') d',
    ⟨_, rfl, _, d1, [], [], .refl _, .new nD, (e1.more nD).wipe vs, upd_same, .nil, Nat.le_refl _, hx⟩, ?_⟩
  rintro i m H' ⟨rfl, cm, d', acc, us, gm, st', e', hD, ra, hl, h'⟩
  have fw : Fwd X.K c1 H1 cm H' := (Fwd.more nD st' e1.wd).gr gm
  obtain ⟨ji, js⟩ := jo cm H' d' i fw e'.wd
  have nst : D ∉ [cm.S, cm.ca, cm.la] := by
    rw [gm.S, gm.ca, gm.la]
    obtain ⟨⟨cells, lefts, k, r, h1, h2, h3, _⟩, _⟩ := so1
    simp only [List.mem_cons, not_or, List.not_mem_nil, not_false_eq_true, and_true]
    exact ⟨Ne.symm (ne_of_none h1 nD), Ne.symm (ne_of_none h2 nD), Ne.symm (ne_of_none h3 nD)⟩
  have inA : ∀ {ck : Cc}, Gr cm ck → D ∈ ck.A := fun g => by
    rw [g.A, gm.A]
    exact List.mem_cons_self ..
  have nstg : ∀ {ck : Cc}, Gr cm ck → D ∉ [ck.S, ck.ca, ck.la] := fun g => by
    rw [g.S, g.ca, g.la]
    exact nst
  have ho : ∀ (j : Nat) (xs : List W), (wipeE ρ vs)[j]? = some (.own xs) → oa j ≠ D := fun j xs hj => by
    obtain ⟨_, _, zs, h4, _⟩ := e1.own j xs (wipeE_own hj)
    exact ne_of_none h4 nD
  have c1m : ∀ {Ha Hb : Hp} {ck ck' : Cc}, Gr cm ck → SG ck ck' Ha Hb → Step c1 Ha Hb := fun g st => Step.to st.st (g.S.trans gm.S) (g.la.trans gm.la)
  by_cases hi : i < ws.length
  · have hw : ws[i]? = some ws[i] := List.getElem?_eq_getElem hi
    rw [List.drop_eq_getElem_cons hi] at h'
    obtain ⟨jg, jy⟩ := ji _ hw
    refine .inr ⟨jg, fun H2 => ∃ cm d' acc us, Gr (c1.more D) cm ∧ Step c1 H1 H2 ∧ EnvOk X.K Γ cm d' oa (wipeE ρ vs) (wipe σ vs) H2 ∧ H2 D = some (.lst us) ∧ RepL X.K cm H2 acc us ∧ us.length ≤ i + 1 ∧
      ((compL G tt fe (wipeE ρ vs) (ws.drop (i + 1))).bind fun xs => T.ok (W.lst (acc ++ xs))).AllW (PQ X.K c1 H1 Q) (PX X.K c1 H1 fun cls dx H' => E cls dx σ H') d', fun H2 h2 => ⟨ws.length - (i + 1), by omega, rfl, h2⟩, fun x H2 y => ?_⟩
    obtain ⟨st2, so2, rx⟩ := jy x H2 y
    have e2 := e'.step st2 so2
    have keep : ∀ {Ha Hb : Hp} {ck ck' : Cc}, Gr cm ck → SG ck ck' Ha Hb → ∀ {us}, Ha D = some (.lst us) → Hb D = some (.lst us) := fun g st us h => by
      have n0 := nstg g
      simp only [List.mem_cons, not_or] at n0
      exact st.st.keep _ _ h n0.1 n0.2.2.1 nofun
    unfold compL at h'
    cases g : G ws[i] (wipeE ρ vs) with
    | none =>
      rw [g] at h'
      exact h'.elim
    | some ρ1 =>
      rw [g] at h'
      refine ⟨cm, d', oa, wipeE ρ vs, ws[i], ρ1, e2, rx, g, fun σ3 b3 e3 => ⟨wipe_but b3 hs, cm, d', oa, ρ1, e3, ?_⟩⟩
      refine noX_all (T.AllW.imp (fun d4 b hb => ?_) (fun _ _ _ y => y) (T.allW_bind.mp (T.allW_bind.mp h')))
      intro c4 H4 st4 so4
      have e4 := e3.step st4 so4
      have e4' := e2.step st4 so4
      have hD4 := keep st4.g (.refl c4 H4) (keep (.refl cm) st4 (keep (.refl cm) st2 hD))
      have ra4 := (ra.step st2 e'.st e'.ok).step st4 e2.st e2.ok
      have stt4 : Step c1 H1 H4 := st'.trans ((c1m (.refl cm) st2).trans (c1m (.refl cm) st4))
      cases b with
      | false => exact iteF ⟨c4, d4, acc, us, gm.trans st4.g, stt4, e4', hD4, ra4, Nat.le_succ_of_le hl, T.allW_bind.mpr (show (compL G tt fe (wipeE ρ vs) (ws.drop (i + 1))).AllW _ _ d4 from hb)⟩
      | true =>
        refine iteT ⟨c4, d4, oa, ρ1, e4, ?_⟩
        refine noX_all (T.AllW.imp (fun d5 w5 h5 => ?_) (fun _ _ _ y => y) (T.allW_bind.mp (show ((noX (fe ρ1)).bind fun x => (compL G tt fe (wipeE ρ vs) (ws.drop (i + 1))).bind fun xs => .ok (x :: xs)).AllW _ _ d4 from hb)))
        intro c5 v5 H5 st5 so5 r5
        have e5 := e4'.step st5 so5
        have g5 := st4.g.trans st5.g
        have hD5 := keep st4.g st5 hD4
        have ra5 := ra4.step st5 e4'.st e4'.ok
        refine ⟨us, hD5, by omega, c5, d5, acc ++ [w5], us ++ [v5], gm.trans g5, (stt4.trans (c1m st4.g st5)).past nD, e5.upd (inA g5) (nstg g5) hD5 ho, upd_same, ?_, by rw [List.length_append]; exact Nat.succ_le_succ hl, ?_⟩
        · exact (ra5.append (.cons r5 .nil)).upd (inA g5) hD5 (fun _ z => by cases z) (fun _ _ z => by cases z)
        · have h6 := T.allW_bind.mp h5
          refine T.allW_bind.mpr (T.AllW.imp (fun d6 xs h7 => ?_) (fun _ _ _ y => y) h6)
          have e7 : acc ++ [w5] ++ xs = acc ++ w5 :: xs := by simp
          rw [e7]
          exact h7
  · rw [List.drop_eq_nil_of_le (by omega)] at h'
    refine .inl ⟨js (by omega), ?_⟩
    have h8 : PQ X.K c1 H1 Q d' (.lst (acc ++ [])) := h'
    rw [List.append_nil] at h8
    refine h8 _ H' ⟨gm.back, st'⟩ (e'.st.back gm e1.ok) (.lst (c := { cm with A := c1.A }) (e1.wd.fresh nD) hD ?_)
    exact RepL.weak (c := { cm with A := c1.A }) (c1 := cm) rfl rfl (fun b hb => by rw [gm.A]; exact List.mem_cons_of_mem _ hb) ra
/-- the clause's tests -/
def TrTs (Γ : Cl) (X : Cx) (ifs : List Expr) (t : En → T Bool) : Prop := PTs X ifs (liftB X.K Γ noW t)
theorem trt_nil {X : Cx} : TrTs Γ X [] fYes := ⟨fun pins s σ H Q I h => pts_nil.run pins s σ H Q I (by
  obtain ⟨c, d, oa, ρ, e, h⟩ := h
  exact h H (.refl _ H) e.st)⟩
theorem trt_one {X : Cx} {e : Expr} {t : En → T Bool} (h : TrB Γ X noW e t) : TrTs Γ X [e] t := pts_one h
theorem tr_lc (hc : X.calm = true) (hN : X.N.Nodup) (hi : TrI Γ X E tg iter fi) (ok : BlkOk X.N X.env.scope scope own) (hs : ∀ i ∈ ns, i ∈ own.map (·.2))
    (hg : ∀ (s : Shared) (H : Hp) (C : Addr) (cl : List (Str × Addr)) (fp : List Addr), TrG Γ (X.blk s H scope (compEnvC scope cl C X.env) fp) tg ns G) (ht : ∀ (s : Shared) (H : Hp) (C : Addr) (cl : List (Str × Addr)) (fp : List Addr), TrTs Γ (X.blk s H scope (compEnvC scope cl C X.env) fp) ifs tt)
    (he : ∀ (s : Shared) (H : Hp) (C : Addr) (cl : List (Str × Addr)) (fp : List Addr), TrE Γ (X.blk s H scope (compEnvC scope cl C X.env) fp) noW elt fe) (hf : ∀ x, foldedSetIterable iter X.env x = pure x := by intro _; rfl) :
    TrE Γ X E (.ListComp elt [⟨tg, iter, ifs, 0⟩] scope pos) (fComp (own.map (·.2)) fi G tt fe) := pe_imp (pe_lc (g := liftG X.K Γ ns G) (tt := liftB X.K Γ noW tt) (te := liftE X.K Γ noW fe) hc hN hi ok hg ht he hf) (comp_ok hs)
end
def startE (n : Nat) (ws : List W) : En := ws.map Sl.val ++ List.replicate (n - ws.length) .un
def endOf : Fl × En → T W
  | (.rt w, _) => .ok w
  | (.nx, _) => .ok .non
  | _ => .bad
def defF (n np : Nat) (g : En → T (Fl × En)) : List W → T W := fun ws => if ws.length == np then (g (startE n ws)).bind endOf else .bad
theorem start_ok {K : PySem.W.Frag} {c : Cc} {d : Dw} {H : Hp} {ws : List W} {vs : List V} {N : List Str} (wd : Wd c d H) (hT : c.T = tabL K ∧ c.K = K) (hM : c.M = []) (r : RepL K c H ws vs) : EnvOk K c.C c d (fun _ => 0) (startE N.length ws) (L2.start N vs) H where
  ok := wd.ok
  st := wd.st
  av := wd.av
  len := by
    unfold startE L2.start
    rw [List.length_append, List.length_append, List.length_map, List.length_map, List.length_replicate, List.length_replicate, r.length]
  val := fun i w h => by
    unfold startE at h
    unfold L2.start
    rw [List.getElem?_append] at h
    split at h
    · rename_i hi
      rw [List.length_map] at hi
      rw [List.getElem?_map] at h
      cases hw : ws[i]? with
      | none =>
        rw [hw] at h
        cases h
      | some w' =>
        rw [hw] at h
        cases h
        obtain ⟨v, h1, h2⟩ := r.get hw
        refine ⟨v, ?_, h2⟩
        rw [List.getElem?_append_left (by rw [List.length_map, ← r.length]; exact hi), List.getElem?_map, h1]
        rfl
    · rw [List.getElem?_replicate] at h
      split at h <;> cases h
  m := ⟨fun b hb => (by rw [hM] at hb; cases hb), fun b hb => (by rw [hM] at hb; cases hb), fun b hb => (by rw [hM] at hb; cases hb)⟩
  own := fun i w h => by
    unfold startE at h
    rw [List.getElem?_append] at h
    split at h
    · rw [List.getElem?_map] at h
      cases hw : ws[i]? with
      | none =>
        rw [hw] at h
        cases h
      | some w' =>
        rw [hw] at h
        cases h
    · rw [List.getElem?_replicate] at h
      split at h <;> cases h
  inj := fun i j x y h _ => by
    unfold startE at h
    rw [List.getElem?_append] at h
    split at h
    · rw [List.getElem?_map] at h
      cases hw : ws[i]? with
      | none =>
        rw [hw] at h
        cases h
      | some w' =>
        rw [hw] at h
        cases h
    · rw [List.getElem?_replicate] at h
      split at h <;> cases h
  odc := fun i w h => by
    unfold startE at h
    rw [List.getElem?_append] at h
    split at h
    · rw [List.getElem?_map] at h
      cases hw : ws[i]? with
      | none =>
        rw [hw] at h
        cases h
      | some w' =>
        rw [hw] at h
        cases h
    · rw [List.getElem?_replicate] at h
      split at h <;> cases h
  ido := fun i j x y h _ => by
    unfold startE at h
    rw [List.getElem?_append] at h
    split at h
    · rw [List.getElem?_map] at h
      cases hw : ws[i]? with
      | none =>
        rw [hw] at h
        cases h
      | some w' =>
        rw [hw] at h
        cases h
    · rw [List.getElem?_replicate] at h
      split at h <;> cases h
  odt := fun i w h => by
    unfold startE at h
    rw [List.getElem?_append] at h
    split at h
    · rw [List.getElem?_map] at h
      cases hw : ws[i]? with
      | none =>
        rw [hw] at h
        cases h
      | some w' =>
        rw [hw] at h
        cases h
    · rw [List.getElem?_replicate] at h
      split at h <;> cases h
  idt := fun i j x y h _ => by
    unfold startE at h
    rw [List.getElem?_append] at h
    split at h
    · rw [List.getElem?_map] at h
      cases hw : ws[i]? with
      | none =>
        rw [hw] at h
        cases h
      | some w' =>
        rw [hw] at h
        cases h
    · rw [List.getElem?_replicate] at h
      split at h <;> cases h
  lk := LkOk.none fun i s h => by
    unfold startE at h
    rw [List.getElem?_append] at h
    split at h
    · rw [List.getElem?_map] at h
      cases hw : ws[i]? with
      | none =>
        rw [hw] at h
        cases h
      | some w' =>
        rw [hw] at h
        cases h
        rfl
    · rw [List.getElem?_replicate] at h
      split at h
      · cases h
        rfl
      · cases h
  tT := hT.1
  cC := rfl
  kK := hT.2
/-- an error that leaves a def -/
theorem PX.ofBare {K : PySem.W.Frag} {c : Cc} {H : Hp} {E : XK} {d : Dw} {n : Nat} {fs : List W} (ok : CcOk c) (h : PX K c H E d n fs) : PXs K c.bare H E d n fs := fun c' cls dx H' fw so r => by
  obtain ⟨r1, dd, vs, r2, r3, r4, r5⟩ := r
  exact h cls dx H' fw.back (so.to fw ok) ⟨r1, dd, vs, r2, r3, r4, RepL.back fw r5⟩
/-- THE RULE: a def of the text does what its body's run does -/
theorem fn_tr {P : Program} {w : World} {K : PySem.W.Frag} {mg : Str → Option Value} {base : Heap} {k : Nat} {f : Addr} {fd : FuncData} {x qual : Str} {params : Arguments} {body : List Stmt} {scope : Scope} {N ps : List Str} {g : En → T (Fl × En)}
    (F : FunD K x qual params body scope [] [] f fd) (S : FnScope N ps scope)
    (hb : ∀ (Γ : Cl) (cdv : Value) (A : Around) (outer : List PySem.Env) (s : Shared) (H : Hp) (E : XK), Room k (A.deeper (envOfC qual scope s.heap.objs.size f cdv)) → TrSs Γ (cxOf (L2.CX P w) P w K mg base N qual scope f cdv A outer s H E) E body g) :
    FnOk P w K mg base (L2.CX P w) (k + 1) f fd ps (SpF K (defF N.length ps.length g)) := by
  refine F.ok S (SpF.len fun ws h => ?_) fun cdv A outer s H vs Q E hr h => ?_
  · unfold defF
    rw [if_neg]
    intro z
    exact h (eq_of_beq z)
  · obtain ⟨c, d, ws, hT, wd, r, h⟩ := h
    obtain ⟨_, h⟩ := T.AllW.ite h
    refine ⟨_, hb c.C cdv A outer s H E hr, ?_⟩
    refine ⟨c.bare, d, fun _ => 0, startE N.length ws, start_ok (c := c.bare) ⟨⟨wd.ok.inS, wd.ok.inla, wd.ok.inca⟩, wd.st.bare, wd.av⟩ hT rfl (RepL.weak (c := c.bare) (c1 := c) rfl rfl (fun _ h => h) r), T.AllW.imp (fun d1 x hx => ?_) (fun _ _ _ y => y.ofBare wd.ok) (T.allW_bind.mp h)⟩
    obtain ⟨fl, ρ'⟩ := x
    intro c' oa' σ' H' fw e'
    have so := e'.st.to fw wd.ok
    cases fl with
    | nx => exact hx _ H' fw.back so .non
    | rt w => exact fun v rv => hx v H' fw.back so (Rep.back fw rv)
    | bk => exact hx.elim
    | ct => exact hx.elim
    | rn ws => exact hx.elim
end PF
namespace PF
open PySem PySem.Spec PyProof.Rows L2
theorem sz2_of {a b : Nat} (h : sz2 a b = true) : a + b ≤ 16777216 := by
  unfold sz2 at h
  exact of_decide_eq_true h
def powW : W → W → T W
  | .int i, .int j => if powOk i j then .ok (.int (i ^ j.toNat)) else .bad
  | _, _ => .bad
section
variable {K : PySem.W.Frag}
theorem RepL.sizes {c : Cc} {H : Hp} {xs ys : List W} {us vs : List V} (r : RepL K c H xs us) (q : RepL K c H ys vs) (h : sz2 xs.length ys.length = true) : us.length + vs.length ≤ sizeLine := by
  rw [sizeLine_eq, ← r.length, ← q.length]
  exact sz2_of h
theorem sem_int0 {g : W → W → T W} {f : Int → Int → V} {k : Int → Int → W} (hk : ∀ c H i j, Rep K c H (k i j) (f i j)) (h : ∀ x y, (∃ i j, x = .int i ∧ y = .int j ∧ g x y = .ok (k i j)) ∨ g x y = .bad) : Sem2 K (rI0 f) g := fun c d H x y v u Q E' wd rx ry q => by
  rcases h x y with ⟨i, j, rfl, rfl, e⟩ | e
  · rw [e] at q
    cases rx
    cases ry
    exact ⟨i, j, rfl, rfl, PQ.now wd q (hk c H i j)⟩
  · rw [e] at q
    exact q.elim
theorem sem_intC {g : W → W → T W} {C : Int → Int → Prop} {B : Int → Int → Bool} {f : Int → Int → V} {k : Int → Int → W} (hk : ∀ c H i j, Rep K c H (k i j) (f i j)) (hC : ∀ i j, B i j = true → C i j) (h : ∀ x y, (∃ i j, x = .int i ∧ y = .int j ∧ g x y = if B i j then .ok (k i j) else .bad) ∨ g x y = .bad) : Sem2 K (rI C f) g := fun c d H x y v u Q E' wd rx ry q => by
  rcases h x y with ⟨i, j, rfl, rfl, e⟩ | e
  · rw [e] at q
    cases rx
    cases ry
    obtain ⟨hb, q⟩ := T.AllW.ite q
    exact ⟨i, j, rfl, rfl, hC i j hb, PQ.now wd q (hk c H i j)⟩
  · rw [e] at q
    exact q.elim
theorem sem_or1 {r r' : R2} {g g1 g2 : W → W → T W} (h1 : Sem2 K r g1) (h2 : Sem2 K r' g2) (h : ∀ x y, g x y = g1 x y ∨ g x y = g2 x y) : Sem2 K (fun x y H Q => r x y H Q ∨ r' x y H Q) g := fun c d H x y v u Q E' wd rx ry q => by
  rcases h x y with e | e
  · rw [e] at q
    exact .inl (h1 c d H x y v u Q E' wd rx ry q)
  · rw [e] at q
    exact .inr (h2 c d H x y v u Q E' wd rx ry q)
def addI : W → W → T W
  | .int i, .int j => .ok (.int (i + j))
  | _, _ => .bad
def addS : W → W → T W
  | .str x, .str y => if sz2 x.length y.length then .ok (.str (x ++ y)) else .bad
  | _, _ => .bad
def addT : W → W → T W
  | .tup xs, .tup ys => if sz2 xs.length ys.length then .ok (.tup (xs ++ ys)) else .bad
  | _, _ => .bad
def addL : W → W → T W
  | .lst xs, .lst ys => if sz2 xs.length ys.length then .ok (.lst (xs ++ ys)) else .bad
  | _, _ => .bad
theorem sem_addI : Sem2 K (rI0 fun i j => .int (i + j)) addI := sem_int0 (k := fun i j => .int (i + j)) (fun _ _ _ _ => .int _) fun x y => by
  cases x <;> cases y <;> first | exact .inl ⟨_, _, rfl, rfl, rfl⟩ | exact .inr rfl
theorem sem_addS : Sem2 K (fun x y H Q => ∃ i j, x = .str i ∧ y = .str j ∧ i.length + j.length ≤ sizeLine ∧ Q (.str (i ++ j)) H) addS := fun c d H x y v u Q E' wd rx ry q => by
  cases rx <;> try exact q.elim
  cases ry <;> try exact q.elim
  obtain ⟨hz, q⟩ := T.AllW.ite q
  exact ⟨_, _, rfl, rfl, by rw [sizeLine_eq]; exact sz2_of hz, PQ.now wd q (.str _)⟩
theorem sem_addT : Sem2 K (rCatA K) addT := fun c d H x y v u Q E' wd rx ry q => by
  cases rx <;> try exact q.elim
  cases ry <;> try exact q.elim
  rename_i a xs ws h1 r1 b ys us h2 r2
  obtain ⟨hz, q⟩ := T.AllW.ite q
  refine ⟨_, _, _, _, rfl, rfl, h1, h2, r1.sizes r2 hz, fun e => ?_, fun _ e => ?_, fun _ _ p n => PQ.tup wd q (r1.append r2) n⟩
  · subst e
    cases r1
    exact PQ.now wd q (.tup h2 r2)
  · subst e
    cases r2
    rw [List.append_nil] at q
    exact PQ.now wd q (.tup h1 r1)
theorem sem_addL : Sem2 K rCat addL := fun c d H x y v u Q E' wd rx ry q => by
  cases rx <;> try exact q.elim
  cases ry <;> try exact q.elim
  rename_i a xs ws n1 h1 r1 b ys us n2 h2 r2
  obtain ⟨hz, q⟩ := T.AllW.ite q
  exact ⟨_, _, _, _, rfl, rfl, h1, h2, r1.sizes r2 hz, fun p n => PQ.lst wd q (r1.append r2) n⟩
/-- a + b of ints, texts, tuples, lists -/
abbrev rAddW (K : PySem.W.Frag) : R2 := fun x y H Q => rI0 (fun i j => .int (i + j)) x y H Q ∨ ((∃ i j, x = .str i ∧ y = .str j ∧ i.length + j.length ≤ sizeLine ∧ Q (.str (i ++ j)) H) ∨ (rCatA K x y H Q ∨ rCat x y H Q))
def addX : W → W → T W
  | .tup xs, y => addT (.tup xs) y
  | x, y => addL x y
def addY : W → W → T W
  | .str xs, y => addS (.str xs) y
  | x, y => addX x y
theorem addW_eq (x y : W) : addW x y = addI x y ∨ addW x y = addY x y := by
  cases x <;> cases y <;> first | exact .inl rfl | exact .inr rfl
theorem sem_add : Sem2 K (rAddW K) addW := sem_or1 sem_addI (sem_or1 (g := addY) sem_addS (sem_or1 (g := addX) sem_addT sem_addL fun x y => by
    cases x <;> first | exact .inr rfl | exact .inl rfl) fun x y => by
    cases x <;> first | exact .inr rfl | exact .inl rfl) addW_eq
theorem sem_sub : Sem2 K (rI0 fun i j => .int (i - j)) subW := sem_int0 (k := fun i j => .int (i - j)) (fun _ _ _ _ => .int _) fun x y => by
  cases x <;> cases y <;> first | exact .inl ⟨_, _, rfl, rfl, rfl⟩ | exact .inr rfl
theorem sem_mul : Sem2 K (rI CMulW fun i j => .int (i * j)) mulW := sem_intC (B := mulOk) (k := fun i j => .int (i * j)) (fun _ _ _ _ => .int _) (fun i j h => by
    unfold mulOk at h
    show i.natAbs.log2 + j.natAbs.log2 < 1000000
    exact of_decide_eq_true h) fun x y => by
  cases x <;> cases y <;> first | exact .inl ⟨_, _, rfl, rfl, rfl⟩ | exact .inr rfl
theorem sem_fdiv : Sem2 K (rI CDivW fun i j => .int (i / j)) fdivW := sem_intC (B := fun _ j => divOk j) (k := fun i j => .int (i / j)) (fun _ _ _ _ => .int _) (fun i j h => by
    unfold divOk at h
    obtain ⟨h1, h2⟩ := Bool.and_eq_true_iff.mp h
    exact ⟨of_decide_eq_true h1, of_decide_eq_true h2⟩) fun x y => by
  cases x <;> cases y <;> first | exact .inl ⟨_, _, rfl, rfl, rfl⟩ | exact .inr rfl
theorem sem_mod : Sem2 K (rI (fun _ j => 0 < j) fun i j => .int (i % j)) modW := sem_intC (B := fun _ j => decide (0 < j)) (k := fun i j => .int (i % j)) (fun _ _ _ _ => .int _) (fun i j h => of_decide_eq_true h) fun x y => by
  cases x <;> cases y <;> first | exact .inl ⟨_, _, rfl, rfl, rfl⟩ | exact .inr rfl
theorem sem_pow : Sem2 K (rI CPow fun i j => .int (i ^ j.toNat)) powW := sem_intC (B := powOk) (k := fun i j => .int (i ^ j.toNat)) (fun _ _ _ _ => .int _) (fun i j h => by
    unfold powOk at h
    show 0 ≤ j ∧ j ≤ 1000000 ∧ i.natAbs < 2 ^ 64
    exact of_decide_eq_true h) fun x y => by
  cases x <;> cases y <;> first | exact .inl ⟨_, _, rfl, rfl, rfl⟩ | exact .inr rfl
theorem sem_lt : Sem2 K (rI0 fun i j => .bl (decide (i < j))) ltW := sem_int0 (k := fun i j => .bl (decide (i < j))) (fun _ _ _ _ => .bl _) fun x y => by
  cases x <;> cases y <;> first | exact .inl ⟨_, _, rfl, rfl, rfl⟩ | exact .inr rfl
theorem sem_le : Sem2 K (rI0 fun i j => .bl (decide (i ≤ j))) leW := sem_int0 (k := fun i j => .bl (decide (i ≤ j))) (fun _ _ _ _ => .bl _) fun x y => by
  cases x <;> cases y <;> first | exact .inl ⟨_, _, rfl, rfl, rfl⟩ | exact .inr rfl
theorem sem_gt : Sem2 K (rI0 fun i j => .bl (decide (j < i))) gtW := sem_int0 (k := fun i j => .bl (decide (j < i))) (fun _ _ _ _ => .bl _) fun x y => by
  cases x <;> cases y <;> first | exact .inl ⟨_, _, rfl, rfl, rfl⟩ | exact .inr rfl
theorem sem_ge : Sem2 K (rI0 fun i j => .bl (decide (j ≤ i))) geW := sem_int0 (k := fun i j => .bl (decide (j ≤ i))) (fun _ _ _ _ => .bl _) fun x y => by
  cases x <;> cases y <;> first | exact .inl ⟨_, _, rfl, rfl, rfl⟩ | exact .inr rfl
def negW : W → T W
  | .int i => .ok (.int (-i))
  | _ => .bad
theorem sem_neg : Sem1 K (rU fun i => .int (-i)) negW := fun c d H x v Q E' wd rx q => by
  cases rx <;> try exact q.elim
  exact ⟨_, rfl, PQ.now wd q (.int _)⟩
end
section
variable {X : Cx}
theorem op_addW : OpR X (binaryOp .Add) (rAddW X.K) := op_add.or (op_add_str.or (op_catA.or op_cat))
end
section
variable {K : PySem.W.Frag} {c : Cc} {H : Hp}
theorem toD_tup {ws : List W} {d : PyData} (e : (W.tup ws).toD = some d) : ∃ ds, toDs ws = some ds ∧ d = .tuple ds := by
  unfold W.toD at e
  cases q : toDs ws with
  | none =>
    rw [q] at e
    cases e
  | some ds =>
    rw [q] at e
    exact ⟨ds, rfl, (Option.some.inj e).symm⟩
theorem toD_lst {ws : List W} {d : PyData} (e : (W.lst ws).toD = some d) : ∃ ds, toDs ws = some ds ∧ d = .list ds := by
  unfold W.toD at e
  cases q : toDs ws with
  | none =>
    rw [q] at e
    cases e
  | some ds =>
    rw [q] at e
    exact ⟨ds, rfl, (Option.some.inj e).symm⟩
theorem toDs_cons {w : W} {ws : List W} {ds : List PyData} (e : toDs (w :: ws) = some ds) : ∃ d es, w.toD = some d ∧ toDs ws = some es ∧ ds = d :: es := by
  unfold toDs at e
  split at e
  · rename_i d es h1 h2
    exact ⟨d, es, h1, h2, (Option.some.inj e).symm⟩
  · cases e
theorem toD_non {d : PyData} (e : W.non.toD = some d) : d = .none := by
  unfold W.toD at e
  exact (Option.some.inj e).symm
theorem toD_bl {b : Bool} {d : PyData} (e : (W.bl b).toD = some d) : d = .bool b := by
  unfold W.toD at e
  exact (Option.some.inj e).symm
theorem toD_int {b : Int} {d : PyData} (e : (W.int b).toD = some d) : d = .int b := by
  unfold W.toD at e
  exact (Option.some.inj e).symm
theorem toD_str {b : Str} {d : PyData} (e : (W.str b).toD = some d) : d = .str b := by
  unfold W.toD at e
  exact (Option.some.inj e).symm
theorem toD_dct {ks : List Key} {ws : List W} {d : PyData} (e : (W.dct ks ws).toD = some d) : False := by
  unfold W.toD at e
  cases e
theorem toD_scr {n : Nat} {d : PyData} (e : (W.scr n).toD = some d) : False := by
  unfold W.toD at e
  cases e
theorem toD_stt {d : PyData} (e : W.stt.toD = some d) : False := by
  unfold W.toD at e
  cases e
theorem toD_lam {x : Str} {p : List Nat} {d : PyData} (e : (W.lam x p).toD = some d) : False := by
  unfold W.toD at e
  cases e
theorem toD_clo {x : Str} {p : List Nat} {ws : List W} {d : PyData} (e : (W.clo x p ws).toD = some d) : False := by
  unfold W.toD at e
  cases e
theorem toD_exo {n : Nat} {ws : List W} {d : PyData} (e : (W.exo n ws).toD = some d) : False := by
  unfold W.toD at e
  cases e
theorem toD_obj {n : Nat} {d : PyData} (e : (W.obj n).toD = some d) : False := by
  unfold W.toD at e
  cases e
theorem toD_dcu {n : List (List Key)} {ws : List W} {d : PyData} (e : (W.dcu n ws).toD = some d) : False := by
  unfold W.toD at e
  cases e
theorem toD_key {n : List Key} {d : PyData} (e : (W.key n).toD = some d) : False := by
  unfold W.toD at e
  cases e
theorem toD_ptp {ws : List W} {d : PyData} (e : (W.ptp ws).toD = some d) : False := by
  unfold W.toD at e
  cases e
mutual
theorem Rep.dp {w : W} {v : V} (r : Rep K c H w v) : ∀ {d : PyData}, w.toD = some d → Dp K H v d := by
  intro d e
  cases r with
  | non => rw [toD_non e]; exact .non
  | bl b => rw [toD_bl e]; exact .bl b
  | int i => rw [toD_int e]; exact .int i
  | str x => rw [toD_str e]; exact .str x
  | tup h r =>
    obtain ⟨ds, e1, rfl⟩ := toD_tup e
    exact .tup h (RepL.dp r e1)
  | lst n h r =>
    obtain ⟨ds, e1, rfl⟩ := toD_lst e
    exact .lst (SqL.of h) (RepL.dp r e1)
  | dct n h r => exact (toD_dct e).elim
  | scr h => exact (toD_scr e).elim
  | stt => exact (toD_stt e).elim
  | lam _ => exact (toD_lam e).elim
  | clo _ _ _ _ _ _ => exact (toD_clo e).elim
  | exo _ _ _ _ => exact (toD_exo e).elim
  | exn _ => exact (toD_exo e).elim
  | key _ => exact (toD_key e).elim
  | obj _ => exact (toD_obj e).elim
  | dcu _ _ _ => exact (toD_dcu e).elim
  | ptp _ _ _ _ => exact (toD_ptp e).elim
theorem RepL.dp {ws : List W} {vs : List V} (r : RepL K c H ws vs) : ∀ {ds : List PyData}, toDs ws = some ds → DpAll K H vs ds := by
  intro ds e
  cases r with
  | nil =>
    unfold toDs at e
    cases e
    exact .nil
  | cons h r =>
    obtain ⟨d, es, e1, e2, rfl⟩ := toDs_cons e
    exact .cons (Rep.dp h e1) (RepL.dp r e2)
end
end
section
variable {K : PySem.W.Frag}
theorem eqO_some {x y : W} {b : Bool} (h : eqO x y = some b) : ∃ d e, x.toD = some d ∧ y.toD = some e ∧ SeqAt.shaped d = true ∧ SeqAt.shaped e = true ∧ PyData.eqv d e = b := by
  unfold eqO at h
  split at h
  · rename_i d e h1 h2
    split at h
    · rename_i hs
      obtain ⟨h3, h4⟩ := Bool.and_eq_true_iff.mp hs
      exact ⟨d, e, h1, h2, h3, h4, Option.some.inj h⟩
    · cases h
  · cases h
theorem sem_eq : Sem2 K (rEqD K) eqW := fun c d H x y v u Q E' wd rx ry q => by
  unfold eqW at q
  cases e : eqO x y with
  | none =>
    rw [e] at q
    exact q.elim
  | some b =>
    rw [e] at q
    obtain ⟨d1, d2, h1, h2, h3, h4, rfl⟩ := eqO_some e
    exact ⟨d1, d2, rx.dp h1, ry.dp h2, h3, h4, PQ.now wd q (.bl _)⟩
theorem sem_ne : Sem2 K (rNeD K) neW := fun c d H x y v u Q E' wd rx ry q => by
  unfold neW at q
  cases e : eqO x y with
  | none =>
    rw [e] at q
    exact q.elim
  | some b =>
    rw [e] at q
    obtain ⟨d1, d2, h1, h2, h3, h4, rfl⟩ := eqO_some e
    exact ⟨d1, d2, rx.dp h1, ry.dp h2, h3, h4, PQ.now wd q (.bl _)⟩
def isNon : W → Bool
  | .non => true
  | _ => false
def isW : W → W → T W
  | x, .non => .ok (.bl (isNon x))
  | .bl a, .bl b => .ok (.bl (decide (a = b)))
  | _, _ => .bad
theorem Rep.isN {c : Cc} {H : Hp} {x : W} {v : V} (r : Rep K c H x v) : isNon x = decide (v = .non) := by
  cases r <;> rfl
abbrev rIsW : R2 := fun x y H Q => (y = .non ∧ Q (.bl (decide (x = .non))) H) ∨ ∃ a b, x = .bl a ∧ y = .bl b ∧ Q (.bl (decide (a = b))) H
theorem sem_is : Sem2 K rIsW isW := fun c d H x y v u Q E' wd rx ry q => by
  cases ry with
  | non =>
    have q : PQ K c H Q d (.bl (isNon x)) := by cases x <;> exact q
    rw [rx.isN] at q
    exact .inl ⟨rfl, PQ.now wd q (.bl _)⟩
  | bl b =>
    cases rx <;> try exact q.elim
    exact .inr ⟨_, _, rfl, rfl, PQ.now wd q (.bl _)⟩
  | _ => cases x <;> exact q.elim
theorem op_isW {X : Cx} : OpR X (compareOp .Is) rIsW := op_isN.or op_is_bl
def ixW : W → W → T W
  | .tup ws, .int i => match atI ws i with
    | some w => .ok w
    | none => .bad
  | .lst ws, .int i => match atI ws i with
    | some w => .ok w
    | none => .bad
  | .str z, .int i => if strOk z then (match atI z.cps.toList i with
    | some c => .ok (.str ⟨#[c]⟩)
    | none => .bad) else .bad
  | _, _ => .bad
theorem RepL.atI {c : Cc} {H : Hp} {ws : List W} {vs : List V} {i : Int} {w : W} (r : RepL K c H ws vs) (h : L2.atI ws i = some w) : ∃ v, L2.atI vs i = some v ∧ Rep K c H w v := by
  unfold L2.atI at h ⊢
  rw [← r.length]
  cases e : ixN ws.length i with
  | none =>
    rw [e] at h
    cases h
  | some j =>
    rw [e] at h
    exact r.get h
theorem sem_ix : Sem2 K (rIx K) ixW := fun c d H x y v u Q E' wd rx ry q => by
  cases rx <;> try exact q.elim
  · cases ry <;> try exact q.elim
    rename_i z i
    obtain ⟨hz, q⟩ := T.AllW.ite q
    cases e : L2.atI z.cps.toList i with
    | none =>
      rw [e] at q
      exact q.elim
    | some k =>
      rw [e] at q
      exact .inr (.inr ⟨z, i, k, rfl, rfl, strOk_of hz, e, PQ.now wd q (.str _)⟩)
  · cases ry <;> try exact q.elim
    rename_i a vs ws hq r i
    unfold ixW at q
    simp only at q
    cases e : L2.atI ws i with
    | none =>
      rw [e] at q
      exact q.elim
    | some w =>
      rw [e] at q
      obtain ⟨v, h1, h2⟩ := r.atI e
      exact .inr (.inl ⟨a, vs, i, v, rfl, rfl, hq, h1, PQ.now wd q h2⟩)
  · cases ry <;> try exact q.elim
    rename_i a vs ws n hq r i
    unfold ixW at q
    simp only at q
    cases e : L2.atI ws i with
    | none =>
      rw [e] at q
      exact q.elim
    | some w =>
      rw [e] at q
      obtain ⟨v, h1, h2⟩ := r.atI e
      exact .inl ⟨a, vs, i, v, rfl, rfl, SqL.of hq, h1, PQ.now wd q h2⟩
theorem sem_abs : SemL K (fun xs H Q => ∃ i, xs = [.int i] ∧ Q (.int (if i < 0 then -i else i)) H) absW := fun c d H x v Q E' wd rx q => by
  cases rx with
  | nil => exact q.elim
  | cons r rr =>
    cases rr with
    | cons _ _ => cases r <;> exact q.elim
    | nil =>
      cases r <;> try exact q.elim
      exact ⟨_, rfl, PQ.now wd q (.int _)⟩
theorem sem_int1 : SemL K (fun xs H Q => (∃ i, xs = [.int i] ∧ Q (.int i) H) ∨ ∃ k, xs = [.bl k] ∧ Q (.int (if k then 1 else 0)) H) intW := fun c d H x v Q E' wd rx q => by
  cases rx with
  | nil => exact q.elim
  | cons r rr =>
    cases rr with
    | cons _ _ => cases r <;> exact q.elim
    | nil =>
      cases r <;> try exact q.elim
      · exact .inr ⟨_, rfl, PQ.now wd q (.int _)⟩
      · exact .inl ⟨_, rfl, PQ.now wd q (.int _)⟩
theorem sem_len : SemL K (fun xs H Q => ∃ x n, xs = [x] ∧ LenV K x H n ∧ Q (.int n) H) lenW := fun c d H x v Q E' wd rx q => by
  cases rx with
  | nil => exact q.elim
  | cons r rr =>
    cases rr with
    | cons _ _ => cases r <;> exact q.elim
    | nil =>
      cases r with
      | str x =>
        obtain ⟨hz, q⟩ := T.AllW.ite q
        exact ⟨_, _, rfl, ⟨strOk_of hz, rfl⟩, PQ.now wd q (.int _)⟩
      | tup h rl => exact ⟨_, _, rfl, .inr ⟨_, h, rl.length⟩, PQ.now wd q (.int _)⟩
      | lst n h rl => exact ⟨_, _, rfl, .inl ⟨_, SqL.of h, rl.length⟩, PQ.now wd q (.int _)⟩
      | @scr a ns h =>
        refine ⟨_, ns.length, rfl, .inl ⟨ns.map V.int, ?_, (List.length_map ..).symm⟩, PQ.now wd q (.int _)⟩
        rcases h with ⟨_, h⟩ | h
        · exact .inl h
        · exact sqL_of_none h
      | _ => exact q.elim
theorem blsW_some : ∀ {ws : List W} {bs : List Bool}, blsW ws = some bs → ws = bs.map W.bl
  | [], _, h => by cases h; rfl
  | .bl b :: ws, bs, h => by
    have h : (blsW ws).map (b :: ·) = some bs := h
    cases e : blsW ws with
    | none =>
      rw [e] at h
      cases h
    | some cs =>
      rw [e] at h
      cases h
      rw [blsW_some e]
      rfl
  | .non :: ws, _, h => by cases h
  | .int _ :: ws, _, h => by cases h
  | .str _ :: ws, _, h => by cases h
  | .tup _ :: ws, _, h => by cases h
  | .lst _ :: ws, _, h => by cases h
  | .dct _ _ :: ws, _, h => by cases h
  | .scr _ :: ws, _, h => by cases h
  | .stt :: ws, _, h => by cases h
  | .clo _ _ _ :: ws, _, h => by cases h
  | .exo _ _ :: ws, _, h => by cases h
  | .lam _ _ :: ws, _, h => by cases h
theorem sem_all : SemL K (rAll K) allW := fun c d H x v Q E' wd rx q => by
  cases rx with
  | nil => exact q.elim
  | cons r rr =>
    cases rr with
    | cons _ _ => cases r <;> exact q.elim
    | nil =>
      cases r <;> try exact q.elim
      rename_i a vs ws n h rl
      unfold allW at q
      simp only at q
      cases e : blsW ws with
      | none =>
        rw [e] at q
        exact q.elim
      | some bs =>
        rw [e] at q
        have e2 := blsW_some e
        subst e2
        have e3 := rl.bls
        subst e3
        exact ⟨a, bs, rfl, SqL.of h, PQ.now wd q (.bl _)⟩
def tyW : W → Option String
  | .non => some "NoneType"
  | .bl _ => some "bool"
  | .int _ => some "int"
  | .str _ => some "str"
  | .tup _ => some "tuple"
  | .lst _ => some "list"
  | .dct _ _ => some "dict"
  | _ => none
theorem Rep.ty {c : Cc} {H : Hp} {w : W} {v : V} {s : String} (r : Rep K c H w v) (h : tyW w = some s) : TyX K H v (.type s) := by
  cases r with
  | non => cases h; exact .base .non
  | bl b => cases h; exact .base (.bl b)
  | int i => cases h; exact .base (.int i)
  | str x => cases h; exact .base (.str x)
  | tup hq _ =>
    cases h
    rcases hq with (e | ⟨o, e⟩) | ⟨o, its, n, e, cl, _⟩
    · exact .base (.tup e)
    · exact .fTuple e
    · exact .kTuple e cl
  | lst n e _ => cases h; exact .base (.lst e)
  | dct n e _ => cases h; exact .base (.dK e)
  | scr _ => cases h
  | stt => cases h
  | lam _ => cases h
  | clo _ _ _ _ _ _ => cases h
  | exo _ _ _ _ => cases h
  | exn _ => cases h
  | key _ => cases h
  | obj _ => cases h
  | dcu _ _ _ => cases h
  | ptp _ _ _ _ => cases h
end
/-- isT: which of the types are a T -/
def isiW (isT : String → Option Bool) (x : W) : T W := match (tyW x).bind isT with
  | some b => .ok (.bl b)
  | none => .bad
def isInt (s : String) : Option Bool := match s with
  | "NoneType" => some false | "bool" => some true | "int" => some true | "str" => some false | "tuple" => some false | "list" => some false | "dict" => some false | _ => none
def isOnly (t : String) (s : String) : Option Bool := if ["NoneType", "bool", "int", "str", "tuple", "list", "dict"].contains s then some (s == t) else none
theorem tr_isi {X : Cx} {E : WX} {a : Expr} {fa : En → T W} {T : Str} {t : String} {p p2 pos : Pos} {isT : String → Option Bool} (hi : ∀ s b, isT s = some b → kitB s t = some b) (hg : Gl X "isinstance") (hm : X.mg "isinstance" = none) (hgT : Gl X T) (hmT : X.mg T = none) (hT : bootBuiltins T = some (.type t)) (ha : TrE Γ X E a fa)
    (hn : T ≠ "__name__" := by decide) (hd : (T == ("__debug__" : Str)) = false := by decide)
    (hs1 : starEach [a, .Name T p2] X.env = (false, eval a X.env) :: starEach [.Name T p2] X.env := by rfl) (hs2 : starEach [.Name T p2] X.env = (false, eval (.Name T p2) X.env) :: starEach [] X.env := by rfl) (hpl : (backTo pos (starEach [.Name T p2] X.env)).any (·.1) = false := by rfl) :
    TrE Γ X E (.Call (.Name "isinstance" p) [a, .Name T p2] [] pos) (f1 (isiW isT) fa) := pe_imp (pe_callB (id := "isinstance") call_isi hg hm (by decide +kernel) (pa_cons ha (pa_cons (pe_bltn (v := .ty t) hgT hmT hT rfl hn hd) pa_nil hs2) hs1) (by decide) (by decide) hs1 hpl) fun σ H Q h => by
  obtain ⟨c, d, oa, ρ, e, h⟩ := h
  refine lift_then (P := fun c H => PQ X.K c H Q) e h (fun st p => p.later st) fun w v H1 d1 _ r1 e1 h1 => ?_
  unfold isiW at h1
  cases e2 : (tyW w).bind isT with
  | none =>
    rw [e2] at h1
    exact h1.elim
  | some b =>
    rw [e2] at h1
    cases e3 : tyW w with
    | none =>
      rw [e3] at e2
      cases e2
    | some s =>
      rw [e3] at e2
      exact ⟨v, .ty t, .type s, .type t, b, rfl, .ty t, r1.ty e3, kit_ty (hi s b e2), PQ.now e1.wd h1 (.bl _)⟩
end PF
namespace PF
open PySem PySem.Spec PyProof.Rows L2
/-- the module's name x is a def that does what the run F does -/
def FnIs (P : Program) (w : World) (K : PySem.W.Frag) (mg : Str → Option Value) (base : Heap) (k : Nat) (x : Str) (ps : List Str) (F : List W → T W) : Prop :=
  ∃ f fd, FnOk P w K mg base (L2.CX P w) k f fd ps (SpF K F) ∧ mg x = some (.ref f) ∧ PySem.W.keepIn K (.ref f) = true ∧ Binds K fd ps []
/-- the module's name x stands for the data w -/
def CsIs (K : PySem.W.Frag) (mg : Str → Option Value) (x : Str) (w : W) : Prop := ∃ (v : V) (u : Value), mg x = some u ∧ RelV v u ∧ ∀ c H, Rep K c H w v
theorem tr_cs {X : Cx} {E : WX} {x : Str} {w : W} {pos : Pos} (h : CsIs X.K X.mg x w) (hg : Gl X x) (hd : (x == ("__debug__" : Str)) = false := by decide) : TrE Γ X E (.Name x pos) (fun _ => .ok w) := by
  obtain ⟨v, u, hm, r, q⟩ := h
  exact tr_glob hg hm r q hd
theorem isi_int : ∀ s b, isInt s = some b → kitB s "int" = some b := fun s b h => by
  unfold isInt at h
  split at h <;> first | (cases h; decide +kernel) | cases h
theorem isOnly_mem {t s : String} {b : Bool} (h : isOnly t s = some b) : s ∈ ["NoneType", "bool", "int", "str", "tuple", "list", "dict"] ∧ b = (s == t) := by
  unfold isOnly at h
  split at h
  · rename_i hc
    exact ⟨List.contains_iff_mem.mp hc, (Option.some.inj h).symm⟩
  · cases h
theorem isOnly_all {t : String} (h : ∀ s ∈ ["NoneType", "bool", "int", "str", "tuple", "list", "dict"], kitB s t = some (s == t)) : ∀ s b, isOnly t s = some b → kitB s t = some b := fun s b q => by
  obtain ⟨h1, h2⟩ := isOnly_mem q
  rw [h2]
  exact h s h1
theorem isi_bool : ∀ s b, isOnly "bool" s = some b → kitB s "bool" = some b := isOnly_all (by decide +kernel)
theorem isi_tuple : ∀ s b, isOnly "tuple" s = some b → kitB s "tuple" = some b := isOnly_all (by decide +kernel)
theorem boot_ty_int : bootBuiltins "int" = some (.type "int") := by decide +kernel
theorem boot_ty_bool : bootBuiltins "bool" = some (.type "bool") := by decide +kernel
theorem boot_ty_tuple : bootBuiltins "tuple" = some (.type "tuple") := by decide +kernel
theorem boot_ty_list : bootBuiltins "list" = some (.type "list") := by decide +kernel
theorem bo_int : bootBuiltins "int" = some (.type "int") := boot_ty_int
theorem bo_len : bootBuiltins "len" = some (.builtin "len") := by decide +kernel
theorem bo_abs : bootBuiltins "abs" = some (.builtin "abs") := by decide +kernel
theorem bo_all : bootBuiltins "all" = some (.builtin "all") := by decide +kernel
theorem bo_min : bootBuiltins "min" = some (.builtin "min") := by decide +kernel
theorem bo_max : bootBuiltins "max" = some (.builtin "max") := by decide +kernel
theorem bo_tuple : bootBuiltins "tuple" = some (.type "tuple") := boot_ty_tuple
theorem bo_list : bootBuiltins "list" = some (.type "list") := boot_ty_list
section
variable {ca la : Addr} {k r : Int}
theorem ne_ca : ¬ kCells = kAt := by decide +kernel
theorem ne_la : ¬ kLefts = kAt := by decide +kernel
theorem ne_cl : ¬ kCells = kLefts := by decide +kernel
theorem ne_ra : ¬ kRoom = kAt := by decide +kernel
theorem st_at : valV (stK ca la k r) (.inr kAt) = some (.int k) := by
  simp [valV, List.find?_cons, ne_ca, ne_la]
theorem st_cells : valV (stK ca la k r) (.inr kCells) = some (.ref ca) := by
  simp [valV, List.find?_cons]
theorem st_lefts : valV (stK ca la k r) (.inr kLefts) = some (.ref la) := by
  simp [valV, List.find?_cons, ne_cl]
theorem st_put {k' : Int} : putK (stK ca la k r) (.inr kAt) (.int k') = stK ca la k' r := by
  simp [putK, ne_ca, ne_la, ne_ra]
end
theorem manyOk_of {n : Int} (h : manyOk n = true) : 0 < n ∧ n.natAbs.log2 < 9000 := by
  unfold manyOk at h
  obtain ⟨h1, h2⟩ := Bool.and_eq_true_iff.mp h
  exact ⟨of_decide_eq_true h1, of_decide_eq_true h2⟩
def F__law_draw : List W → T W
  | [.stt, .int n] => if manyOk n then .ask n.toNat fun i => .ok (.int i) else .bad
  | _ => .bad
theorem dK_noC {xs : List (Key × V)} {p : Addr} (q : Str) : HO.dK xs ≠ LamX.CodeO p q := fun z => by
  unfold LamX.CodeO at z
  cases z
/-- what the state's step leaves: the place is one more, the lefts may have changed -/
theorem StOk.drawn {c : Cc} {e : Nat} {d : Dw} {H H' : Hp} {cells lefts' : List Int} {k r : Int} (s : StOk c d H) (st : Step c H H') (sm : ∀ b C dx fl, H b = some (.ins C dx fl) → H' b = some (.ins C dx fl)) (hk : 0 ≤ k) (hb : k + ((e + 1 : Nat) : Int) ≤ 2 ^ 60) (hne : c.ca ≠ c.la) (hz : lefts'.length = cells.length) (h0 : 0 < cells.length)
    (h1 : H' c.S = some (.dK [(.inr kCells, .ref c.ca), (.inr kLefts, .ref c.la), (.inr kAt, .int (k + 1)), (.inr kRoom, .int r)])) (h2 : H' c.ca = some (.lst (cells.map V.int))) (h3 : H' c.la = some (.lst (lefts'.map V.int))) (h4 : LamX.Tabs c.T H') : StOk c ⟨e, d.os⟩ H' :=
  ⟨⟨cells, lefts', k + 1, r, h1, h2, h3, hz, h0, by omega, by show k + 1 + (e : Int) ≤ 2 ^ 60; omega, hne, h4⟩, s.2.same s.2.ok rfl rfl sm fun ws vs r => r.step (.of st) s s.2.ok⟩
/-- ints that stand for a draw -/
theorem draw_all {K : PySem.W.Frag} {c : Cc} {d : Dw} {H : Hp} {Q : VK} {E' : Dw → Nat → List W → Prop} {n : Int} (h : (F__law_draw [.stt, .int n]).AllW (PQ K c H Q) E' d) :
    (0 < n ∧ n.natAbs.log2 < 9000) ∧ ∃ e, d.n = e + 1 ∧ ∀ ⦃c' : Cc⦄ (i : Int) (H' : Hp), 0 ≤ i → i < n → SG c c' H H' → StOk c' ⟨e, d.os⟩ H' → Q (.int i) H' := by
  obtain ⟨h1, h⟩ := T.AllW.ite h
  have hn := manyOk_of h1
  obtain ⟨e, he, h⟩ := h
  refine ⟨hn, e, he, fun c' i H' hi0 hi st so => ?_⟩
  have q := h i.toNat (by omega)
  have ei : ((i.toNat : Nat) : Int) = i := by omega
  have q : PQ K c H Q ⟨e, d.os⟩ (.int ((i.toNat : Nat) : Int)) := q
  rw [ei] at q
  exact q _ H' st so (.int i)
theorem F_draw_bad {ws : List W} (h : ∀ n, ws ≠ [.stt, .int n]) : F__law_draw ws = .bad := by
  unfold F__law_draw
  split
  · exact absurd rfl (h _)
  · rfl
end PF
namespace PF
open PySem PySem.Spec PyProof.Rows L2
section
variable {α β : Type}
theorem T.bind_assoc {γ : Type} (t : T α) (f : α → T β) (g : β → T γ) : (t.bind f).bind g = t.bind fun a => (f a).bind g := by
  induction t with
  | ok a => rfl
  | exc c fs => rfl
  | bad => rfl
  | ask n k ih =>
    simp only [T.bind_ask]
    congr 1
    funext i
    exact ih i
  | get i k ih =>
    simp only [T.bind_get]
    congr 1
    funext c fs
    exact ih c fs
  | put i fs k ih =>
    simp only [T.bind_put]
    congr 1
  | new c fs k ih =>
    simp only [T.bind_new]
    congr 1
    funext i
    exact ih i
end
theorem mulOk_of {i j : Int} {a b : Nat} (ha : i.natAbs < 2 ^ a) (hb : j.natAbs < 2 ^ b) (h0 : 0 < a) (h1 : 0 < b) (h : a + b ≤ 1000000) : mulOk i j = true := by
  unfold mulOk
  exact decide_eq_true (wide_mul ha hb h0 h1 h)
theorem manyOk_is {n : Int} {b : Nat} (h : 0 < n) (hb : n.natAbs < 2 ^ b) (h0 : 0 < b) (h9 : b ≤ 9000) : manyOk n = true := by
  unfold manyOk
  obtain ⟨h1, h2⟩ := wide_div (i := 0) h hb h0 h9
  rw [decide_eq_true h1, decide_eq_true h2]
  rfl
end PF
namespace PF
def wInt (i : Nat) (ρ : En) : Nat := match ρ[i]? with
  | some (.val (.int k)) => k.natAbs
  | _ => 0
end PF
namespace PF
open PySem PySem.Spec PyProof.Rows L2 He
structure SaysF (fa : List Fa) (fn : List DefD) (ex : PySem.W.Frag → Bool) (K : PySem.W.Frag) : Prop where
  d : SaysD fa fn K
  more : ex K = true
/-- a fact by its place -/
theorem SaysF.fact {fa : List Fa} {fn : List DefD} {ex : PySem.W.Frag → Bool} {K : PySem.W.Frag} (c : SaysF fa fn ex K) (i : Nat) {f : Fa} (h : fa[i]? = some f := by rfl) : f.ok K = true := c.d.fact i h
/-- a module's name that stands for a tuple of ints and texts -/
def flatW : Dv → Option W
  | .non => some .non
  | .bl b => some (.bl b)
  | .int i => some (.int i)
  | .str x => some (.str x)
  | _ => none
theorem flatW_rep {K : PySem.W.Frag} {d : Dv} {w : W} (h : flatW d = some w) (c : Cc) (H : Hp) : Rep K c H w (d.v K) := by
  cases d <;> first | (cases h; done) | (cases h; constructor)
theorem flatL_rep {K : PySem.W.Frag} (c : Cc) (H : Hp) : ∀ {ds : List Dv} {ws : List W}, ds.mapM flatW = some ws → RepL K c H ws (ds.map (Dv.v K))
  | [], ws, h => by
    simp at h
    subst h
    exact .nil
  | d :: ds, ws, h => by
    rw [List.mapM_cons] at h
    cases e1 : flatW d with
    | none =>
      rw [e1] at h
      cases h
    | some w =>
      rw [e1] at h
      cases e2 : ds.mapM flatW with
      | none =>
        rw [e2] at h
        cases h
      | some us =>
        rw [e2] at h
        cases h
        exact .cons (flatW_rep e1 c H) (flatL_rep c H e2)
theorem cs_tup {K : PySem.W.Frag} {h : Heap} {mg : Str → Option Value} {x : Str} {ds : List Dv} {ws : List W} (X : K.In h) (G : h.Ns mainGlobals mg) (hg : (Fa.glo x).ok K = true) (ht : tupB K x ds = true) (hw : ds.mapM flatW = some ws) : CsIs K mg x (.tup ws) :=
  ⟨.ref (ga K x), _, glo_ok X G hg, rfl, fun c H => .tup (tupB_ok ht H) (flatL_rep c H hw)⟩
theorem cs_int {K : PySem.W.Frag} {h : Heap} {mg : Str → Option Value} {x : Str} {i : Int} (X : K.In h) (G : h.Ns mainGlobals mg) (hg : (Fa.int x i).ok K = true) : CsIs K mg x (.int i) := by
  obtain ⟨t, e⟩ := int_ok X G hg
  exact ⟨.int i, _, e, ⟨t, rfl⟩, fun c H => .int i⟩
end PF
namespace PF
open PySem PySem.Spec PyProof.Rows L2
def spBegin (K : PySem.W.Frag) : Sp := fun vs H Q _ => ∃ (a : Addr) (ns : List Int), vs = [.ref a] ∧ SqL K H a (ns.map V.int) ∧ ns.length ≤ 63 ∧ ∀ (S ca la : Addr) (H' : Hp) (cells lefts : List Int), Same H H' → H S = none → H ca = none → H la = none →
  H' S = some (.dK (stK ca la 0 0)) → H' ca = some (.lst (cells.map V.int)) → H' la = some (.lst (lefts.map V.int)) → lefts.length = cells.length → 0 < cells.length → ca ≠ la → Q (.ref S) H'
def spLaw (K : PySem.W.Frag) : Sp := fun vs H Q _ => ∃ (a : Addr) (ns : List Int), vs = [.ref a] ∧ SqL K H a (ns.map V.int) ∧ ns.length ≤ 63 ∧ LamX.Tabs (tabL K) H ∧ ∀ H', Q (.bl true) H'
section
variable {K : PySem.W.Frag}
theorem dp_ints {H : Hp} : ∀ ns : List Int, DpAll K H (ns.map V.int) (ns.map PyData.int)
  | [] => .nil
  | n :: ns => .cons (.int n) (dp_ints ns)
theorem lay_ints : ∀ ns : List Int, PyData.canLayAll0 (ns.map PyData.int) = true
  | [] => rfl
  | n :: ns => lay_ints ns
theorem dep_ints : ∀ ns : List Int, PyData.depthAll (ns.map PyData.int) ≤ 1
  | [] => by decide
  | n :: ns => by
    have h := dep_ints ns
    simp only [List.map_cons, PyData.depthAll, PyData.depth]
    omega
theorem shaped_ints (ns : List Int) : SeqAt.shaped (.list (ns.map PyData.int)) = true := by
  have h := dep_ints ns
  unfold SeqAt.shaped
  rw [Bool.and_eq_true]
  exact ⟨lay_ints ns, decide_eq_true (by simp only [PyData.depth]; omega)⟩
/-- the state is laid -/
theorem begin_ret {H H1 : Hp} {Q : VK} {nx : L2.St → Hp → Prop} {v0 : V} {l : Addr} {cells : List Int} (sm : Same H H1) (nl : H l = none) (hl : H1 l = some (.lst (cells.map V.int))) (h0 : 0 < cells.length) (hz : cells.length ≤ 1000)
    (q : ∀ (S ca la : Addr) (H' : Hp) (cells lefts : List Int), Same H H' → H S = none → H ca = none → H la = none → H' S = some (.dK (stK ca la 0 0)) → H' ca = some (.lst (cells.map V.int)) → H' la = some (.lst (lefts.map V.int)) → lefts.length = cells.length → 0 < cells.length → ca ≠ la → Q (.ref S) H') :
    tRet (tDisp [(tC (.str kCells), tVar 1), (tC (.str kLefts), tLc (iList K (tVar 1)) (gName 2) tYes (tIf (tTest (tOp (rI0 fun i j => .bl (decide (j ≤ i))) (tVar 2) (tOp (rI CPow fun i j => .int (i ^ j.toNat)) (tC (.int 10)) (tC (.int 18))))) (tVar 2) (tC (.int 0))) [2]), (tC (.str kAt), tC (.int 0)), (tC (.str kRoom), tC (.int 0))])
      { nx := nx, rt := Q } [some v0, some (.ref l), none] H1 := by
  intro p np
  have nlp : l ≠ p := ne_of_none hl np
  have hl1 : (upd H1 p (.dK [])) l = some (.lst (cells.map V.int)) := by rw [upd_ne nlp]; exact hl
  refine ⟨.ref l, rfl, .ref l, rfl, l, rfl, ⟨_, SqL.of hl1⟩, fun D nD => ?_⟩
  have npD : D ≠ p := fun z => by rw [z, upd_same] at nD; cases nD
  have nlD : l ≠ D := fun z => by rw [← z, hl1] at nD; cases nD
  have nD1 : H1 D = none := by rw [upd_ne npD] at nD; exact nD
  let lf : Int → Int := fun c => if (10 : Int) ^ (18 : Int).toNat ≤ c then c else 0
  refine lc_list (K := K) (a := l) (xs := cells.map V.int) (fun i H2 => (∀ b, b ≠ D → H2 b = (upd H1 p (.dK [])) b) ∧ H2 D = some (.lst (((cells.take i).map lf).map V.int))) ⟨fun b hb => upd_ne hb, upd_same⟩ (fun i H2 hi h => ?_) (fun i x H2 hx h => ?_) (fun H2 h => ?_)
  · exact SqL.of (by rw [h.1 l nlD]; exact hl1)
  · obtain ⟨o, hD⟩ := h
    rw [List.getElem?_map] at hx
    cases ec : cells[i]? with
    | none =>
      rw [ec] at hx
      cases hx
    | some c =>
      rw [ec] at hx
      cases hx
      have hi : i < cells.length := (List.getElem?_eq_some_iff.mp ec).1
      have et : cells.take (i + 1) = cells.take i ++ [c] := by rw [List.take_add_one, ec]; rfl
      refine ⟨rfl, iteT (B := True) ⟨.int c, rfl, 10, 18, rfl, rfl, ⟨by decide, by decide, by decide⟩, c, _, rfl, rfl, _, rfl, ?_⟩⟩
      have fin : ∀ y : Int, y = lf c → ∃ acc, H2 D = some (.lst acc) ∧ acc.length < sizeLine ∧ ((∀ b, b ≠ D → (upd H2 D (.lst (acc ++ [V.int y]))) b = (upd H1 p (.dK [])) b) ∧ (upd H2 D (.lst (acc ++ [V.int y]))) D = some (.lst (((cells.take (i + 1)).map lf).map V.int))) := fun y ey => by
        refine ⟨_, hD, ?_, fun b hb => by rw [upd_ne hb]; exact o b hb, ?_⟩
        · rw [List.length_map, List.length_map, List.length_take]
          exact Nat.lt_of_le_of_lt (Nat.min_le_right _ _) (small1000 hz)
        · rw [upd_same, et, List.map_append, List.map_append, ey]
          rfl
      by_cases hc : (10 : Int) ^ (18 : Int).toNat ≤ c
      · have e : decide ((10 : Int) ^ (18 : Int).toNat ≤ c) = true := decide_eq_true hc
        show if decide ((10 : Int) ^ (18 : Int).toNat ≤ c) = true then _ else _
        rw [e]
        refine iteT ⟨.int c, rfl, fin c ?_⟩
        show c = if (10 : Int) ^ (18 : Int).toNat ≤ c then c else 0
        rw [if_pos hc]
      · have e : decide ((10 : Int) ^ (18 : Int).toNat ≤ c) = false := decide_eq_false hc
        show if decide ((10 : Int) ^ (18 : Int).toNat ≤ c) = true then _ else _
        rw [e]
        refine iteF (fin 0 ?_)
        show (0 : Int) = if (10 : Int) ^ (18 : Int).toNat ≤ c then c else 0
        rw [if_neg hc]
  · obtain ⟨o, hD⟩ := h
    have hp : H2 p = some (.dK []) := by rw [o p (Ne.symm npD), upd_same]
    refine ⟨hp, [(.inr kCells, .ref l), (.inr kLefts, .ref D), (.inr kAt, .int 0), (.inr kRoom, .int 0)], rfl, by show 4 ≤ 15; decide, ?_⟩
    have em : mergeK [] [(Sum.inr kCells, V.ref l), (.inr kLefts, .ref D), (.inr kAt, .int 0), (.inr kRoom, .int 0)] = stK l D 0 0 := by
      simp [mergeK, putK, ne_ca, ne_la, ne_cl, show ¬ kCells = kRoom by decide +kernel, show ¬ kLefts = kRoom by decide +kernel, show ¬ kAt = kRoom by decide +kernel]
    rw [em]
    refine q p l D _ cells (cells.map lf) (fun b u hb => ?_) ?_ nl ?_ upd_same ?_ ?_ (List.length_map ..) h0 nlD
    · have h1 := sm b u hb
      have nb : b ≠ p := ne_of_none h1 np
      have nbD : b ≠ D := ne_of_none h1 nD1
      rw [upd_ne nb, o b nbD, upd_ne nb]
      exact h1
    · exact sm.free np
    · exact sm.free nD1
    · rw [upd_ne nlp, o l nlD]
      exact hl1
    · rw [upd_ne npD, hD, List.length_map, List.take_length]
theorem begin_read {H : Hp} {Q : VK} {nx : L2.St → Hp → Prop} {a : Addr} {ns : List Int} (hS : SqL K H a (ns.map V.int)) (hz : ns.length ≤ 63)
    (q : ∀ (S ca la : Addr) (H' : Hp) (cells lefts : List Int), Same H H' → H S = none → H ca = none → H la = none → H' S = some (.dK (stK ca la 0 0)) → H' ca = some (.lst (cells.map V.int)) → H' la = some (.lst (lefts.map V.int)) → lefts.length = cells.length → 0 < cells.length → ca ≠ la → Q (.ref S) H') :
    tSeq (tAsg (tIf (tTest (tOp (rNeD K) (tVar 0) (tLst tNil))) (tCB (fun xs H Q => ∃ p ys, xs = [.ref p] ∧ (SqL K H p ys ∨ SqT K H p ys) ∧ ∀ l, H l = none → Q (.ref l) (upd H l (.lst ys))) (tCons (tVar 0) tNil)) (tLst (tCons (tC (.int 0)) tNil))) (gName 1))
      (tRet (tDisp [(tC (.str kCells), tVar 1), (tC (.str kLefts), tLc (iList K (tVar 1)) (gName 2) tYes (tIf (tTest (tOp (rI0 fun i j => .bl (decide (j ≤ i))) (tVar 2) (tOp (rI CPow fun i j => .int (i ^ j.toNat)) (tC (.int 10)) (tC (.int 18))))) (tVar 2) (tC (.int 0))) [2]), (tC (.str kAt), tC (.int 0)), (tC (.str kRoom), tC (.int 0))]))
      { nx := nx, rt := Q } [some (.ref a), none, none] H := by
  refine ⟨.ref a, rfl, by decide, fun p np => ?_⟩
  have sm : Same H (upd H p (.lst [])) := fun b u e => by rw [upd_ne (ne_of_none e np)]; exact e
  have hS1 : SqL K (upd H p (.lst [])) a (ns.map V.int) := sm.seq hS
  refine ⟨.list (ns.map .int), .list [], .lst hS1 (dp_ints ns), .lst (SqL.of upd_same) .nil, shaped_ints ns, rfl, _, rfl, ?_⟩
  cases ns with
  | nil =>
    refine iteF ⟨by decide, fun l nl => ?_⟩
    exact begin_ret (cells := [0]) (fun b u e => by rw [upd_ne (ne_of_none (sm b u e) nl)]; exact sm b u e) (sm.free nl) upd_same (by decide) (by decide) q
  | cons n ns =>
    refine iteT ⟨.ref a, rfl, a, _, rfl, .inl hS1, fun l nl => ?_⟩
    exact begin_ret (cells := n :: ns) (fun b u e => by rw [upd_ne (ne_of_none (sm b u e) nl)]; exact sm b u e) (sm.free nl) upd_same (by simp) (Nat.le_trans hz (by decide)) q
end
theorem law_env {K : PySem.W.Frag} {H H' : Hp} {a S ca la : Addr} {ns cells lefts : List Int} {m : Nat} (hS : SqL K H a (ns.map V.int)) (sm : Same H H') (nS : H S = none) (nca : H ca = none) (nla : H la = none)
    (h1 : H' S = some (.dK (stK ca la 0 0))) (h2 : H' ca = some (.lst (cells.map V.int))) (h3 : H' la = some (.lst (lefts.map V.int))) (hl : lefts.length = cells.length) (h0 : 0 < cells.length) (hne : ca ≠ la) (hT : LamX.Tabs (tabL K) H) :
    EnvOk K Γ ⟨S, ca, la, [S, ca, la], [], tabL K, Γ, K, []⟩ ⟨2 ^ 60, []⟩ (fun _ => 0) (lawE ns.length m) (some (.ref a) :: some (.ref S) :: List.replicate m none) H' where
  ok := ⟨by simp, by simp, by simp⟩
  st := ⟨⟨cells, lefts, 0, 0, h1, h2, h3, hl, h0, by decide, by decide, hne, hT.ext fun b o e => sm b o e⟩, ⟨by simp, by simp, by simp⟩, rfl, List.nodup_nil, (fun i a o h => by simp at h), fun _ => rfl⟩
  av := fun b hb => by
    simp only [List.mem_cons, List.not_mem_nil, or_false] at hb
    rcases hb with rfl | rfl | rfl
    · exact ⟨_, h1, .inr (.inl ⟨_, rfl⟩)⟩
    · exact ⟨_, h2, .inl ⟨_, rfl⟩⟩
    · exact ⟨_, h3, .inl ⟨_, rfl⟩⟩
  len := by simp [lawE]
  val := fun i w h => by
    unfold lawE at h
    match i, h with
    | 0, h =>
      simp at h
      subst h
      refine ⟨.ref a, rfl, .scr ?_⟩
      rcases sqL_split hS with r | r
      · have na : ∀ b, H b = none → a ≠ b := fun b hb => by
          rcases r with r | ⟨o, r⟩
          · exact ne_of_none r hb
          · exact ne_of_none r hb
        refine .inl ⟨?_, ?_⟩
        · simp only [List.mem_cons, List.not_mem_nil, or_false, not_or]
          exact ⟨na S nS, na ca nca, na la nla⟩
        · rcases r with r | ⟨o, r⟩
          · exact .inl (sm _ _ r)
          · exact .inr ⟨o, sm _ _ r⟩
      · exact .inr r
    | 1, h =>
      simp at h
      subst h
      exact ⟨.ref S, rfl, .stt⟩
    | i + 2, h =>
      simp only [List.getElem?_cons_succ, List.getElem?_replicate] at h
      split at h <;> cases h
  m := ⟨fun b hb => (by cases hb), fun b hb => (by cases hb), fun b hb => (by cases hb)⟩
  own := fun i ws h => by
    unfold lawE at h
    match i, h with
    | 0, h => simp at h
    | 1, h => simp at h
    | i + 2, h =>
      simp only [List.getElem?_cons_succ, List.getElem?_replicate] at h
      split at h <;> cases h
  inj := fun i j ws us h _ => by
    unfold lawE at h
    match i, h with
    | 0, h => simp at h
    | 1, h => simp at h
    | i + 2, h =>
      simp only [List.getElem?_cons_succ, List.getElem?_replicate] at h
      split at h <;> cases h
  odc := fun i ws h => by
    unfold lawE at h
    match i, h with
    | 0, h => simp at h
    | 1, h => simp at h
    | i + 2, h =>
      simp only [List.getElem?_cons_succ, List.getElem?_replicate] at h
      split at h <;> cases h
  ido := fun i j ws us h _ => by
    unfold lawE at h
    match i, h with
    | 0, h => simp at h
    | 1, h => simp at h
    | i + 2, h =>
      simp only [List.getElem?_cons_succ, List.getElem?_replicate] at h
      split at h <;> cases h
  odt := fun i ws h => by
    unfold lawE at h
    match i, h with
    | 0, h => simp at h
    | 1, h => simp at h
    | i + 2, h =>
      simp only [List.getElem?_cons_succ, List.getElem?_replicate] at h
      split at h <;> cases h
  idt := fun i j ws us h _ => by
    unfold lawE at h
    match i, h with
    | 0, h => simp at h
    | 1, h => simp at h
    | i + 2, h =>
      simp only [List.getElem?_cons_succ, List.getElem?_replicate] at h
      split at h <;> cases h
  lk := LkOk.none fun i s h => by
    unfold lawE at h
    match i, h with
    | 0, h =>
      cases h
      rfl
    | 1, h =>
      cases h
      rfl
    | i + 2, h =>
      simp only [List.getElem?_cons_succ, List.getElem?_replicate] at h
      split at h
      · cases h
        rfl
      · cases h
  tT := rfl
  cC := rfl
  kK := rfl
theorem law_restW {K : PySem.W.Frag} {E : XK} {H H' : Hp} {a S ca la : Addr} {ns cells lefts : List Int} {m : Nat} {g : En → T (Fl × En)} {Q : VK} {nx : L2.St → Hp → Prop} (en : LawEndsW g m) (hn : ns.length ≤ 63) (q : ∀ H', Q (.bl true) H') (hS : SqL K H a (ns.map V.int)) (sm : Same H H') (nS : H S = none) (nca : H ca = none) (nla : H la = none)
    (h1 : H' S = some (.dK (stK ca la 0 0))) (h2 : H' ca = some (.lst (cells.map V.int))) (h3 : H' la = some (.lst (lefts.map V.int))) (hl : lefts.length = cells.length) (h0 : 0 < cells.length) (hne : ca ≠ la) (hT : LamX.Tabs (tabL K) H) :
    liftS K Γ E g { nx := nx, rt := Q } (some (.ref a) :: some (.ref S) :: List.replicate m none) H' := by
  refine ⟨_, _, _, _, law_env hS sm nS nca nla h1 h2 h3 hl h0 hne hT, T.AllW.imp (fun d x hx => ?_) (fun _ _ _ z => z.elim) (en ns.length hn)⟩
  obtain ⟨ρ, rfl⟩ := hx
  intro c' oa' σ' H2 fw e' v r
  cases r
  exact q H2
theorem law_rest {K : PySem.W.Frag} {E : XK} {H H' : Hp} {a S ca la : Addr} {ns cells lefts : List Int} {m : Nat} {g : En → T (Fl × En)} {Q : VK} {nx : L2.St → Hp → Prop} (en : LawEnds g m) (hn : ns.length ≤ 63) (q : ∀ H', Q (.bl true) H') (hS : SqL K H a (ns.map V.int)) (sm : Same H H') (nS : H S = none) (nca : H ca = none) (nla : H la = none)
    (h1 : H' S = some (.dK (stK ca la 0 0))) (h2 : H' ca = some (.lst (cells.map V.int))) (h3 : H' la = some (.lst (lefts.map V.int))) (hl : lefts.length = cells.length) (h0 : 0 < cells.length) (hne : ca ≠ la) (hT : LamX.Tabs (tabL K) H) :
    liftS K Γ E g { nx := nx, rt := Q } (some (.ref a) :: some (.ref S) :: List.replicate m none) H' := law_restW en.w hn q hS sm nS nca nla h1 h2 h3 hl h0 hne hT
theorem cx_none {P : Program} {w : World} {l : List PySem.Env} {H : Hp} {s : Shared} {e : Value} {s' : Shared} (h : L2.CX P w l H s (fun _ _ _ => False) e s') : False := by
  obtain ⟨_, _, _, _, _, _, _, _, _, _, _, _, z⟩ := h
  exact z
end PF
namespace PF
open PySem PySem.Spec PyProof.Rows L2
set_option maxHeartbeats 1000000 in
theorem meets_enum1 {v : Value} {o : Obj} {H : Heap → Prop} (B : Begins v o H) :
    Meets (Builtin.«enumerate.__new__» ⟨[.type "enumerate", v], []⟩) (fun _ R s => H s.heap ∧
      R (.ok (.ret (.ref (s.heap.push o).objs.size))) { s with heap := (s.heap.push o).push { cls := .type "enumerate", data := .fields #[.none, .bool false, .ref s.heap.objs.size, rawInt 0, .none, .none] } }) := .of_wp fun prog w A R s h => by
  obtain ⟨hp, g, d, tk, os⟩ := s
  obtain ⟨h1, h⟩ := h
  have hsub := sub_enumerate
  have q1 : ∀ {A' : Around} {E : Value → Shared → Prop} {Q : Value → Shared → Prop}, Q (.ref hp.objs.size) ⟨hp.push o, g, d, tk, os⟩ → wpAny (model prog w) A' (pyIter v) Q E ⟨hp, g, d, tk, os⟩ := fun q => B.iter prog w _ _ ⟨hp, g, d, tk, os⟩ _ h1 q
  wp_walk using q1
  refine wpAny_stack_any fun st => wpAny_pure ?_
  split
  · rename_i c _ _ _ _ _
    cases (c == Value.type "enumerate")
    · wp_walk using q1
      exact ⟨_, rfl, h⟩
    · wp_walk using q1
      exact ⟨_, rfl, h⟩
  · wp_walk using q1
    exact ⟨_, rfl, h⟩
theorem enum_begins1 {prog : Program} {w : World} {A : Around} {E : Value → Shared → Prop} {s : Shared} {v : Value} {o : Obj} {H : Heap → Prop} {Q : Value → Shared → Prop} (B : Begins v o H) (h1 : H s.heap)
    (h : ∀ h', IsEnum h' (s.heap.objs.size + 1) s.heap.objs.size 0 .none → h'.get? s.heap.objs.size = some o → h'.objs.size = s.heap.objs.size + 2 → (∀ b o, s.heap.get? b = some o → h'.get? b = some o) → Q (.ref (s.heap.objs.size + 1)) { s with heap := h' }) :
    wpAny (model prog w) A (call (.type "enumerate") [v]) Q E s := by
  refine callType_new F.called_enumerate (by decide) (F.typeCall_enumerate_1 _) (F.newCall_enumerate_1 _) (fun obj => F.args_object_init_2 obj _) F.entry_enumerate_new (meets_enum1 B) ⟨h1, ?_⟩
  have hz : (s.heap.push o).objs.size = s.heap.objs.size + 1 := Heap.size_push ..
  show _ ∧ _
  rw [hz]
  have he : IsEnum ((s.heap.push o).push { cls := .type "enumerate", data := .fields #[.none, .bool false, .ref s.heap.objs.size, rawInt 0, .none, .none] }) (s.heap.objs.size + 1) s.heap.objs.size 0 .none := by
    have := Heap.get?_push_size (s.heap.push o) (o := { cls := .type "enumerate", data := .fields #[.none, .bool false, .ref s.heap.objs.size, rawInt 0, .none, .none] }) rfl
    rw [hz] at this
    exact this
  exact ⟨⟨_, he, rfl⟩, h _ he (Heap.get?_push_of_some _ (Heap.get?_push_size _ B.free)) (by rw [Heap.size_push, hz]) fun b o x => Heap.get?_push_of_some _ (Heap.get?_push_of_some _ x)⟩
/-- the tuple at a (n items), each item in a new pair with its count from k -/
def ItNT (K : PySem.W.Frag) (a : Addr) (k : Int) (n : Nat) : It :=
  ⟨fun i H => i < n ∧ ∃ (xs : List V) (x : V), SqT K H a xs ∧ xs.length = n ∧ xs[i]? = some x,
    fun i H v H' => ∃ T x, v = .ref T ∧ H T = none ∧ H' = upd H T (.tup [.int (k + (i : Nat)), x]) ∧ ∀ xs, SqT K H a xs → xs[i]? = some x,
    fun i H => n ≤ i ∧ ∃ xs : List V, SqT K H a xs ∧ xs.length = n⟩
theorem turn_nT {P : Program} {w : World} {K : PySem.W.Frag} {elts : List Expr} {kk : Nat} {tpos : Pos} (a e it : Addr) (k : Int) (n : Nat) :
    Turn P w K (.Tuple elts kk tpos) (ItNT K a k n) [e, it] e (fun i h => (∃ old, IsEnum h e it (k + (i : Nat)) old) ∧ h.IsTupleIter it a i ∧ e ≠ it ∧ a ≠ it ∧ a ≠ e ∧ i ≤ n) where
  mem := by simp
  obj := fun i h st b hb => by
    obtain ⟨⟨old, he⟩, ⟨o, ho, hc, hd⟩, _⟩ := st
    have e' : b = e ∨ b = it := by simpa using hb
    rcases e' with z | z
    · rw [z]
      exact ⟨_, he, fun v q => nomatch q⟩
    · rw [z]
      exact ⟨o, ho, fun v q => by rw [hd] at q; cases q⟩
  keep := fun i h h' st k => let ⟨⟨old, he⟩, hi, hne⟩ := st; ⟨⟨old, k e (by simp) _ he⟩, hi.at fun o q => k it (by simp) o q, hne⟩
  item := by
    intro X hP hw hK hc i pins s σ H E I hf st hg
    subst hP hw hK
    obtain ⟨⟨old, he⟩, hit, hne, nai, nae, _⟩ := st
    obtain ⟨hin, xs, x, hq, hxn, hx⟩ := hg
    obtain ⟨its, rv, p, hz⟩ := I.tuple hq
    obtain ⟨u, hu, ru⟩ := rv.get hx
    have hil0 : i < its.length := (List.getElem?_eq_some_iff.mp hu).1
    have hel : e < s.heap.objs.size := Heap.lt_size he
    have hil : it < s.heap.objs.size := by obtain ⟨_, q, _⟩ := hit; exact Heap.lt_size q
    have D := Draws.tuple (prog := X.prog) (w := X.w) (A := X.A.in1) (I.ok.hd hc) it a nai its.toArray
    refine wpAny_pyNext_enum_itemC D he ⟨hit, p⟩ (by simpa using hil0) hne (by simp [hne, Ne.symm nae]) fun x' h' tk hP ho hst hT hsz hk => ?_
    have hxu : x' = u := by
      have : its[i]? = some x' := by simpa using hP
      rw [hu] at this
      exact (Option.some.inj this).symm
    subst hxu
    obtain ⟨hit', _⟩ := hst
    refine ⟨_, rfl, wpAny_letOwnedTupleGo_enum (s := { s with heap := h', toks := tk + 1 }) ho fun h'' he' sb => ?_⟩
    have hT2 : h''.get? s.heap.objs.size = some { cls := .type "tuple", data := .seq #[.int (k + (i : Nat)) tk, x'] } := (sb.2 _ (Nat.ne_of_gt hel)).trans hT
    have new : ObjOk X.prog X.w (upd H s.heap.objs.size (.tup [.int (k + (i : Nat)), x])) h'' s.heap.objs.size (.tup [.int (k + (i : Nat)), x]) := ⟨by show 2 ≤ sizeLine; decide, [.int (k + (i : Nat)) tk, x'], .cons ⟨_, rfl⟩ (.cons ru .nil), ⟨_, hT2, rfl, _, rfl⟩⟩
    have I1 : Inv X pins σ (upd H s.heap.objs.size (.tup [.int (k + (i : Nat)), x])) { s with heap := h'', toks := tk + 1 } := I.turnedNew (ch := [e, it]) (fun b ob hb q => (sb.2 b (fun z => hb (by simp [z]))).trans (hk b ob (fun z => hb (by simp [z])) (fun z => hb (by simp [z])) q)) hf (Nat.le_refl _) new
    refine ⟨.ref s.heap.objs.size, _, I1, rfl, ⟨_, x, rfl, I.hok.fresh (Nat.le_refl _), rfl, fun ys hy => by rw [I.tuple_inj hy hq]; exact hx⟩, ⟨⟨x', ?_⟩, hit'.at fun o q => (sb.2 it (Ne.symm hne)).trans q, hne, nai, nae, hin⟩, fun b hb => ?_⟩
    · have e1 : k + ((i + 1 : Nat) : Int) = k + (i : Int) + 1 := by omega
      rw [e1]
      exact he'
    · have hb' : b < s.heap.objs.size := by
        have e' : b = e ∨ b = it := by simpa using hb
        rcases e' with z | z
        · rw [z]; exact hel
        · rw [z]; exact hil
      rw [upd_ne (Nat.ne_of_lt hb')]
      exact (hf b hb).1
  done := by
    intro X hP hw hK hc i pins s σ H E I hf st hg
    subst hP hw hK
    obtain ⟨⟨old, he⟩, hit, hne, nai, nae, hin⟩ := st
    obtain ⟨hni, xs, hq, hx⟩ := hg
    obtain ⟨its, rv, p, hz⟩ := I.tuple hq
    obtain ⟨f0, f1, f2, f3, f4, f5⟩ := hf it (by simp)
    have hl := rv.length
    have D := Draws.tuple (prog := X.prog) (w := X.w) (A := X.A.in1) (I.ok.hd hc) it a nai its.toArray
    have en : its.toArray.size = i := by simp; omega
    exact wpAny_pyNext_enum_endD D he (by rw [en]; exact ⟨hit, p⟩) fun h' eb => ⟨rfl, I.turned (t' := s.toks) (fun b o hb q => eb b o hb q) f0 f1 f3 f4 f5⟩
  self := fun A i s Q E st h => let ⟨⟨_, he⟩, _⟩ := st; wpAny_pyIter_enum he h
def iEnT (K : PySem.W.Frag) (ta : TA) : TI := fun σ H R => ta σ H fun vs H1 => ∃ a xs k, (vs = [.ref a] ∧ k = 0 ∨ vs = [.ref a, .int k] ∧ -(2 ^ 63) ≤ k ∧ k < 2 ^ 63) ∧ SqT K H1 a xs ∧ R (ItNT K a k xs.length) H1
theorem en_fin_T {X : Cx} {tpos : Pos} {elts : List Expr} {kk : Nat} {pins : List (Addr × Obj)} {σ : St} {H1 : Hp} {s1 : Shared} {R : It → Hp → Prop} {a : Addr} {xs : List V} {k : Int} {h' : Heap} (I1 : Inv X pins σ H1 s1) (al : a < s1.heap.objs.size) (he : IsEnum h' (s1.heap.objs.size + 1) s1.heap.objs.size k .none)
    (hit : h'.get? s1.heap.objs.size = some { cls := .type "tuple_iterator", data := .fields #[.ref a, .int 0 0] }) (hk : ∀ b o, s1.heap.get? b = some o → h'.get? b = some o) (q : R (ItNT X.K a k xs.length) H1) :
    wpAny (model X.prog X.w) X.A (pyIter (.ref (s1.heap.objs.size + 1))) (PIE X pins σ (.Tuple elts kk tpos) R) X.xe { s1 with heap := h' } := by
  refine wpAny_pyIter_enum he ?_
  have I2 : Inv X pins σ H1 { s1 with heap := h' } := I1.kept (t' := s1.toks) hk
  refine ⟨s1.heap.objs.size + 1, [s1.heap.objs.size + 1, s1.heap.objs.size], _, _, H1, rfl, I2, turn_nT a (s1.heap.objs.size + 1) s1.heap.objs.size k xs.length, ⟨⟨.none, ?_⟩, ⟨_, hit, rfl, rfl⟩, Nat.succ_ne_self _, Nat.ne_of_lt al, Nat.ne_of_lt (Nat.lt_succ_of_lt al), Nat.zero_le _⟩, fun b hb => ?_, q⟩
  · have e0 : k + ((0 : Nat) : Int) = k := by simp
    rw [e0]
    exact he
  have e' : b = s1.heap.objs.size + 1 ∨ b = s1.heap.objs.size := by simpa using hb
  have hle : s1.heap.objs.size ≤ b := by
    rcases e' with z | z
    · rw [z]; exact Nat.le_add_right _ _
    · rw [z]; exact Nat.le_refl _
  exact I1.fpOk hle (I1.hok.fresh hle)
theorem pi_enT {X : Cx} {e : Expr} {ta : TA} {p pos tpos : Pos} {elts : List Expr} {kk : Nat} (hg : Gl X "enumerate") (hm : X.mg "enumerate" = none) (ha : PA X [e] ta) (hs : starEach [e] X.env = [(false, eval e X.env)] := by rfl) :
    PI X (.Tuple elts kk tpos) (.Call (.Name "enumerate" p) [e] [] pos) (iEnT X.K ta) := by
  refine ⟨fun pins s σ H R I h => ?_⟩
  refine Call_ (ld_blt I hg hm boot_enumerate (PyProof.Rows.callWith_type1 (thn (ha.run pos pins s σ H _ I h) fun us s1 ⟨vs, H1, I1, r1, q1⟩ => ?_) hs rfl))
  obtain ⟨a, xs, k, ex, hq, q⟩ := q1
  rcases ex with ⟨ex, rfl⟩ | ⟨ex, _, _⟩
  · subst ex
    cases r1 with
    | cons r rr =>
      cases rr
      cases r
      obtain ⟨its, rv, p', hz⟩ := I1.tuple hq
      have al : a < s1.heap.objs.size := by
        obtain ⟨o1, ho1, _⟩ := id p'
        exact Heap.lt_size ho1
      exact enum_begins1 (begins_tuple a its.toArray) p' fun h' he hit hsz hk => en_fin_T I1 al he hit hk q
  · subst ex
    cases r1 with
    | cons r rr =>
      cases rr with
      | cons r' rr =>
        cases rr
        cases r
        obtain ⟨tk, rfl⟩ := r'
        obtain ⟨its, rv, p', hz⟩ := I1.tuple hq
        have al : a < s1.heap.objs.size := by
          obtain ⟨o1, ho1, _⟩ := id p'
          exact Heap.lt_size ho1
        exact enum_begins (begins_tuple a its.toArray) p' (by assumption) (by assumption) fun h' he hit hsz hk => en_fin_T I1 al he hit hk q
theorem pi_enT2 {X : Cx} {e e2 : Expr} {ta : TA} {p pos tpos : Pos} {elts : List Expr} {kk : Nat} (hg : Gl X "enumerate") (hm : X.mg "enumerate" = none) (ha : PA X [e, e2] ta)
    (hs : starEach [e, e2] X.env = (false, eval e X.env) :: starEach [e2] X.env := by rfl) (hpl : (backTo pos (starEach [e2] X.env)).any (·.1) = false := by rfl) :
    PI X (.Tuple elts kk tpos) (.Call (.Name "enumerate" p) [e, e2] [] pos) (iEnT X.K ta) := by
  refine ⟨fun pins s σ H R I h => ?_⟩
  refine Call_ (ld_blt I hg hm boot_enumerate (PyProof.Rows.callWith_type1 (thn (ha.run pos pins s σ H _ I h) fun us s1 ⟨vs, H1, I1, r1, q1⟩ => ?_) hs hpl))
  obtain ⟨a, xs, k, ex, hq, q⟩ := q1
  rcases ex with ⟨ex, rfl⟩ | ⟨ex, _, _⟩
  · subst ex
    cases r1 with
    | cons r rr =>
      cases rr
      cases r
      obtain ⟨its, rv, p', hz⟩ := I1.tuple hq
      have al : a < s1.heap.objs.size := by
        obtain ⟨o1, ho1, _⟩ := id p'
        exact Heap.lt_size ho1
      exact enum_begins1 (begins_tuple a its.toArray) p' fun h' he hit hsz hk => en_fin_T I1 al he hit hk q
  · subst ex
    cases r1 with
    | cons r rr =>
      cases rr with
      | cons r' rr =>
        cases rr
        cases r
        obtain ⟨tk, rfl⟩ := r'
        obtain ⟨its, rv, p', hz⟩ := I1.tuple hq
        have al : a < s1.heap.objs.size := by
          obtain ⟨o1, ho1, _⟩ := id p'
          exact Heap.lt_size ho1
        exact enum_begins (begins_tuple a its.toArray) p' (by assumption) (by assumption) fun h' he hit hsz hk => en_fin_T I1 al he hit hk q
def enumF (k : Int) : List W → List W
  | [] => []
  | w :: ws => .tup [.int k, w] :: enumF (k + 1) ws
theorem enumF_get : ∀ (ws : List W) (k : Int) (i : Nat), (enumF k ws)[i]? = (ws[i]?).map fun w => .tup [.int (k + (i : Nat)), w]
  | [], k, i => by simp [enumF]
  | w :: ws, k, 0 => by simp [enumF]
  | w :: ws, k, i + 1 => by
    have e : k + 1 + (i : Int) = k + ((i + 1 : Nat) : Int) := by omega
    simp only [enumF, List.getElem?_cons_succ, enumF_get ws (k + 1) i, e]
theorem enumF_length : ∀ (ws : List W) (k : Int), (enumF k ws).length = ws.length
  | [], k => rfl
  | w :: ws, k => by simp [enumF, enumF_length ws (k + 1)]
def zipF : List W → List W → List W
  | w :: ws, u :: us => .tup [w, u] :: zipF ws us
  | _, _ => []
theorem zipF_get : ∀ (ws us : List W) (i : Nat) (x : W), (zipF ws us)[i]? = some x → ∃ w u, ws[i]? = some w ∧ us[i]? = some u ∧ x = .tup [w, u]
  | [], us, i, x, h => by simp [zipF] at h
  | w :: ws, [], i, x, h => by simp [zipF] at h
  | w :: ws, u :: us, 0, x, h => by
    simp [zipF] at h
    exact ⟨w, u, rfl, rfl, h.symm⟩
  | w :: ws, u :: us, i + 1, x, h => by
    simp only [zipF, List.getElem?_cons_succ] at h
    exact zipF_get ws us i x h
theorem zipF_length : ∀ (ws us : List W), (zipF ws us).length = min ws.length us.length
  | [], us => by simp [zipF]
  | w :: ws, [] => by simp [zipF]
  | w :: ws, u :: us => by simp [zipF, zipF_length ws us]
def enW : List W → T (List W)
  | [.tup ws] => .ok (enumF 0 ws)
  | [.lst ws] => .ok (enumF 0 ws)
  | [.tup ws, .int k] => if rngOk k then .ok (enumF k ws) else .bad
  | [.lst ws, .int k] => if rngOk k then .ok (enumF k ws) else .bad
  | _ => .bad
def isT : List W → Bool
  | .tup _ :: _ => true
  | _ => false
def enT (xs : List W) : T (List W) := if isT xs then enW xs else .bad
def zpW : List W → T (List W)
  | [.tup ws, .tup us] => .ok (zipF ws us)
  | [.lst ws, .lst us] => .ok (zipF ws us)
  | _ => .bad
section
variable {K : PySem.W.Frag} {c : Cc} {d : Dw} {H H1 : Hp}
theorem new_pair {c : Cc} {d : Dw} {H : Hp} {T : Addr} {a b : W} {x y : V} (wd : Wd c d H) (hT : H T = none) (ra : Rep K c H a x) (rb : Rep K c H b y) :
    SG c c H (upd H T (.tup [x, y])) ∧ StOk c d (upd H T (.tup [x, y])) ∧ Rep K c (upd H T (.tup [x, y])) (.tup [a, b]) (.ref T) :=
  ⟨.new hT, wd.st.new hT, .tup (SqT.of upd_same) (.cons (ra.step (.new hT) wd.st wd.ok) (.cons (rb.step (.new hT) wd.st wd.ok) .nil))⟩
theorem it_enT {a : Addr} {vs : List V} {ws : List W} (k : Int) (hq : SqT K H a vs) (rl : RepL K c H ws vs) : ItOk K c H (ItNT K a k vs.length) (enumF k ws) := fun c' H' d' i fw wd => by
  have hq' : SqT K H' a vs := fw.sq a vs hq
  refine ⟨fun w hw => ?_, fun hi => ?_⟩
  · rw [enumF_get] at hw
    cases hu : ws[i]? with
    | none =>
      rw [hu] at hw
      cases hw
    | some u =>
      rw [hu] at hw
      cases hw
      obtain ⟨v, hv, rv⟩ := rl.get hu
      refine ⟨⟨(List.getElem?_eq_some_iff.mp hv).1, vs, v, hq', rfl, hv⟩, fun x H2 y => ?_⟩
      obtain ⟨T, x', rfl, hT, rfl, y⟩ := y
      have ex := y vs hq'
      rw [hv] at ex
      cases ex
      exact new_pair wd hT (.int _) (fw.rep _ _ rv)
  · rw [enumF_length, rl.length] at hi
    exact ⟨hi, vs, hq', rfl⟩
theorem it_zpT {a b : Addr} {vs us : List V} {ws zs : List W} (hq : SqT K H a vs) (rl : RepL K c H ws vs) (hp : SqT K H b us) (rm : RepL K c H zs us) : ItOk K c H (RZ.ItzT K a b) (zipF ws zs) := fun c' H' d' i fw wd => by
  have hq' : SqT K H' a vs := fw.sq a vs hq
  have hp' : SqT K H' b us := fw.sq b us hp
  refine ⟨fun w hw => ?_, fun hi => ?_⟩
  · obtain ⟨w1, w2, h1, h2, rfl⟩ := zipF_get _ _ _ _ hw
    obtain ⟨v, hv, rv⟩ := rl.get h1
    obtain ⟨u, hu, ru⟩ := rm.get h2
    refine ⟨⟨vs, us, v, u, hq', hp', hv, hu⟩, fun x H2 y => ?_⟩
    obtain ⟨T, x', y', rfl, hT, rfl, y1, y2⟩ := y
    have ex := y1 vs hq'
    have ey := y2 us hp'
    rw [hv] at ex
    rw [hu] at ey
    cases ex
    cases ey
    exact new_pair wd hT (fw.rep _ _ rv) (fw.rep _ _ ru)
  · rw [zipF_length, rl.length, rm.length] at hi
    exact ⟨vs, us, hq', hp', by omega⟩
theorem it_zpL {a b : Addr} {vs us : List V} {ws zs : List W} (ok : CcOk c) (mo : MOk c H) (na : a ∉ c.A) (hq : H a = some (.lst vs)) (rl : RepL K c H ws vs) (nb : b ∉ c.A) (hp : H b = some (.lst us)) (rm : RepL K c H zs us) : ItOk K c H (Itz K a b) (zipF ws zs) := fun c' H' d' i fw wd => by
  have hq' : SqL K H' a vs := SqL.of (fw.step _ _ hq (ok.neS na) (ok.nela na) (fun z => na (mo.inA _ z)) nofun)
  have hp' : SqL K H' b us := SqL.of (fw.step _ _ hp (ok.neS nb) (ok.nela nb) (fun z => nb (mo.inA _ z)) nofun)
  refine ⟨fun w hw => ?_, fun hi => ?_⟩
  · obtain ⟨w1, w2, h1, h2, rfl⟩ := zipF_get _ _ _ _ hw
    obtain ⟨v, hv, rv⟩ := rl.get h1
    obtain ⟨u, hu, ru⟩ := rm.get h2
    refine ⟨⟨vs, us, v, u, hq', hp', hv, hu⟩, fun x H2 y => ?_⟩
    obtain ⟨T, x', y', rfl, hT, rfl, y1, y2⟩ := y
    have ex := y1 vs hq'
    have ey := y2 us hp'
    rw [hv] at ex
    rw [hu] at ey
    cases ex
    cases ey
    exact new_pair wd hT (fw.rep _ _ rv) (fw.rep _ _ ru)
  · rw [zipF_length, rl.length, rm.length] at hi
    exact ⟨vs, us, hq', hp', by omega⟩
end
section
variable {X : Cx} {E : WX} {e e2 : Expr} {fs : En → T (List W)} {p pos tpos : Pos} {elts : List Expr} {kk : Nat}
theorem enT_lift {ta : TA} (hl : ta = liftA X.K Γ E fs) : ∀ σ H R, liftI X.K Γ E (iL enT fs) σ H R → iEnT X.K ta σ H R := fun σ H R q => by
  subst hl
  obtain ⟨c, d, oa, ρ, e, q⟩ := q
  refine liftA_then (P := fun c H => PJ X.K c H R) e q (fun st p => p.later st) fun w v H1 d1 _ r1 e1 h1 => ?_
  cases r1 with
  | nil => exact h1.elim
  | cons r rr =>
    cases r with
    | tup hq rl =>
      cases rr with
      | nil => exact ⟨_, _, 0, .inl ⟨rfl, rfl⟩, hq, PJ.now e1.wd h1 (it_enT 0 hq rl)⟩
      | cons r2 rr =>
        cases rr with
        | cons _ _ => cases r2 <;> exact h1.elim
        | nil =>
          cases r2 with
          | int k =>
            obtain ⟨hb, h1⟩ := T.AllW.ite (show (if rngOk k then T.ok (enumF k _) else .bad).AllW _ _ _ from h1)
            exact ⟨_, _, k, .inr ⟨rfl, by have := rngOk_of hb; omega, by have := rngOk_of hb; omega⟩, hq, PJ.now e1.wd h1 (it_enT k hq rl)⟩
          | _ => exact h1.elim
    | _ => exact h1.elim
theorem tri_enT (hg : Gl X "enumerate") (hm : X.mg "enumerate" = none) (ha : TrA Γ X E [e] fs) (hs : starEach [e] X.env = [(false, eval e X.env)] := by rfl) : TrI Γ X E (.Tuple elts kk tpos) (.Call (.Name "enumerate" p) [e] [] pos) (iL enT fs) := pi_imp (pi_enT hg hm ha hs) (enT_lift rfl)
theorem tri_enT2 (hg : Gl X "enumerate") (hm : X.mg "enumerate" = none) (ha : TrA Γ X E [e, e2] fs) (hs : starEach [e, e2] X.env = (false, eval e X.env) :: starEach [e2] X.env := by rfl) (hpl : (backTo pos (starEach [e2] X.env)).any (·.1) = false := by rfl) : TrI Γ X E (.Tuple elts kk tpos) (.Call (.Name "enumerate" p) [e, e2] [] pos) (iL enT fs) := pi_imp (pi_enT2 hg hm ha hs hpl) (enT_lift rfl)
theorem tri_zip (hg : Gl X "zip") (hm : X.mg "zip" = none) (ha : TrA Γ X E [e, e2] fs) (hs : starEach [e, e2] X.env = (false, eval e X.env) :: starEach [e2] X.env := by rfl) (hpl : (backTo pos (starEach [e2] X.env)).any (·.1) = false := by rfl) :
    TrI Γ X E (.Tuple elts kk tpos) (.Call (.Name "zip" p) [e, e2] [] pos) (iL zpW fs) := pi_imp (RZ.pi_zipA hg hm ha hs hpl) fun σ H R q => by
  obtain ⟨c, d, oa, ρ, e, q⟩ := q
  refine liftA_then (P := fun c H => PJ X.K c H R) e q (fun st p => p.later st) fun w v H1 d1 _ r1 e1 h1 => ?_
  cases r1 with
  | nil => exact h1.elim
  | cons r rr =>
    cases rr with
    | nil => cases r <;> exact h1.elim
    | cons r2 rr =>
      cases rr with
      | cons _ _ => cases r <;> cases r2 <;> exact h1.elim
      | nil =>
        cases r with
        | tup hq rl =>
          cases r2 with
          | tup hp rm => exact ⟨_, _, _, _, rfl, .inr ⟨hq, hp, PJ.now e1.wd h1 (it_zpT hq rl hp rm)⟩⟩
          | _ => exact h1.elim
        | lst n hq rl =>
          cases r2 with
          | lst n2 hp rm => exact ⟨_, _, _, _, rfl, .inl ⟨SqL.of hq, SqL.of hp, PJ.now e1.wd h1 (it_zpL e1.ok e1.m n hq rl n2 hp rm)⟩⟩
          | _ => exact h1.elim
        | _ => cases r2 <;> exact h1.elim
end
end PF
namespace PF
open PySem PySem.Spec PyProof.Rows L2
section
variable {X : Cx}
theorem callR_or {f : Value} {r r' : List V → Hp → VK → Prop} (h1 : CallR X f r) (h2 : CallR X f r') : CallR X f (fun vs H Q => r vs H Q ∨ r' vs H Q) := fun pins s σ H xs us Q I rv h => h.elim (h1 pins s σ H xs us Q I rv) (h2 pins s σ H xs us Q I rv)
theorem opR_or {f : Value → Value → Sem Value} {r r' : R2} (h1 : OpR X f r) (h2 : OpR X f r') : OpR X f (fun x y H Q => r x y H Q ∨ r' x y H Q) := fun pins s σ H x y v u Q I rx ry h => h.elim (h1 pins s σ H x y v u Q I rx ry) (h2 pins s σ H x y v u Q I rx ry)
theorem slR_or {r r' : V → Option Int → Option Int → Hp → VK → Prop} (h1 : L2.SlR X r) (h2 : L2.SlR X r') : L2.SlR X (fun x l u H Q => r x l u H Q ∨ r' x l u H Q) := fun pins s σ H x v vl vu lo hi sl Q I rx hs pl pu h => h.elim (h1 pins s σ H x v vl vu lo hi sl Q I rx hs pl pu) (h2 pins s σ H x v vl vu lo hi sl Q I rx hs pl pu)
end
theorem tuple_mul1 (l : Addr) (items : Array Value) (n : Nat) (dd : Option Addr) (sl : Array (Option Value)) (u : Tok) :
    Meets (Builtin.«tuple.__mul__» ⟨[.ref l, .int 1 u], []⟩) (fun _ R s => s.heap.get? l = some { cls := .type "tuple", dict := dd, data := .seq items n, slots := sl } ∧ R (.ok (.ret (Value.ref l))) s) :=
  .of_wp fun prog w A R s h => by
    obtain ⟨hp, g, d, tk, os⟩ := s
    obtain ⟨hl, h⟩ := h
    have f1 := AutoSeq1.idx_int
    wp_walk using wpAny_loadPart' hl
    exact ⟨_, rfl, h⟩
def rRep1 (K : PySem.W.Frag) : R2 := fun x y H Q => ∃ l xs, x = .ref l ∧ y = .int 1 ∧ SqT K H l xs ∧ Q (.ref l) H
theorem op_rep1 {X : Cx} : OpR X (binaryOp .Mult) (rRep1 X.K) := by
  intro pins s σ H x y v u Q I rx ry h
  obtain ⟨l, xs, rfl, rfl, hT, q⟩ := h
  cases rx
  obtain ⟨t, rfl⟩ := ry
  obtain ⟨its, r, ⟨⟨cls, dd, data, sl⟩, ho, hc, n, hd⟩, hs⟩ := I.tuple hT
  simp only at hc hd
  subst hc hd
  exact wpAny_binaryOp_repeat_ref (T := "tuple") (U := "int") (by decide) ⟨_, ho, rfl⟩ (fun s' => typeIs_int s' 1 t) noFill_tuple_mul F.fills_int_mul F.slot_int_rmul repeat_tuple F.slot_int_index.lookup
    (call_meets F.slot_int_rmul (typeIs_int s 1 t) F.entry_int_rmul (F.args_int_rmul_2 _ _) (int_rmul_tuple 1 t l its.toArray n dd sl)
      ⟨ho, rfl, ⟨_, ho, rfl⟩, call_meets F.slot_tuple_mul ⟨_, ho, rfl⟩ F.entry_tuple_mul (F.args_tuple_mul_2 _ _) (tuple_mul1 l its.toArray n dd sl t) ⟨ho, ⟨.ref l, H, I, rfl, q⟩⟩⟩)
theorem intsW_map : ∀ {ws : List W} {ns : List Int}, intsW ws = some ns → ws = ns.map W.int
  | [], ns, h => by
    cases h
    rfl
  | w :: ws, ns, h => by
    cases w with
    | int b =>
      simp only [intsW] at h
      cases e : intsW ws with
      | none =>
        rw [e] at h
        cases h
      | some ms =>
        rw [e] at h
        cases h
        rw [intsW_map e]
        rfl
    | _ => cases h
theorem foldl_max_ge : ∀ (ns : List Int) (n : Int), n ≤ ns.foldl max n ∧ (∀ y ∈ ns, y ≤ ns.foldl max n) ∧ (ns.foldl max n = n ∨ ns.foldl max n ∈ ns)
  | [], n => ⟨Int.le_refl _, fun y h => (by cases h), .inl rfl⟩
  | m :: ns, n => by
    obtain ⟨h1, h2, h3⟩ := foldl_max_ge ns (max n m)
    rw [List.foldl_cons]
    refine ⟨by omega, fun y hy => ?_, ?_⟩
    · rcases List.mem_cons.mp hy with rfl | hy
      · omega
      · exact h2 y hy
    · rcases h3 with h3 | h3
      · rw [h3]
        by_cases h : n ≤ m
        · exact .inr (by rw [Int.max_eq_right h]; exact List.mem_cons_self ..)
        · exact .inl (Int.max_eq_left (by omega))
      · exact .inr (List.mem_cons_of_mem _ h3)
theorem foldl_min_le : ∀ (ns : List Int) (n : Int), ns.foldl min n ≤ n ∧ (∀ y ∈ ns, ns.foldl min n ≤ y) ∧ (ns.foldl min n = n ∨ ns.foldl min n ∈ ns)
  | [], n => ⟨Int.le_refl _, fun y h => (by cases h), .inl rfl⟩
  | m :: ns, n => by
    obtain ⟨h1, h2, h3⟩ := foldl_min_le ns (min n m)
    rw [List.foldl_cons]
    refine ⟨by omega, fun y hy => ?_, ?_⟩
    · rcases List.mem_cons.mp hy with rfl | hy
      · omega
      · exact h2 y hy
    · rcases h3 with h3 | h3
      · rw [h3]
        by_cases h : m ≤ n
        · exact .inr (by rw [Int.min_eq_right h]; exact List.mem_cons_self ..)
        · exact .inl (Int.min_eq_left (by omega))
      · exact .inr (List.mem_cons_of_mem _ h3)
theorem greatest_is {ns : List Int} {m : Int} (h0 : 0 < ns.length) (h1 : m ∈ ns) (h2 : ∀ y, y ∈ ns → y ≤ m) : greatest ns = m := by
  cases ns with
  | nil => cases h1
  | cons n ns =>
    obtain ⟨a, b, c⟩ := foldl_max_ge ns n
    show ns.foldl max n = m
    have x1 : ns.foldl max n ≤ m := by
      rcases c with c | c
      · rw [c]
        exact h2 n (List.mem_cons_self ..)
      · exact h2 _ (List.mem_cons_of_mem _ c)
    have x2 : m ≤ ns.foldl max n := by
      rcases List.mem_cons.mp h1 with rfl | h1
      · exact a
      · exact b m h1
    omega
theorem least_is {ns : List Int} {m : Int} (h0 : 0 < ns.length) (h1 : m ∈ ns) (h2 : ∀ y, y ∈ ns → m ≤ y) : least ns = m := by
  cases ns with
  | nil => cases h1
  | cons n ns =>
    obtain ⟨a, b, c⟩ := foldl_min_le ns n
    show ns.foldl min n = m
    have x1 : m ≤ ns.foldl min n := by
      rcases c with c | c
      · rw [c]
        exact h2 n (List.mem_cons_self ..)
      · exact h2 _ (List.mem_cons_of_mem _ c)
    have x2 : ns.foldl min n ≤ m := by
      rcases List.mem_cons.mp h1 with rfl | h1
      · exact a
      · exact b m h1
    omega
section
variable {K : PySem.W.Frag}
theorem sem_max : SemL K (fun vs H Q => (∃ i j, vs = [.int i, .int j] ∧ Q (.int (if j > i then j else i)) H) ∨ rMax K vs H Q) maxW := fun c d H x v Q E' wd rx q => by
  cases rx with
  | nil => exact q.elim
  | cons r rr =>
    cases rr with
    | cons r2 rr =>
      cases rr with
      | cons _ _ => cases r <;> cases r2 <;> exact q.elim
      | nil => cases r <;> cases r2 <;> first | exact q.elim | exact .inl ⟨_, _, rfl, PQ.now wd q (.int _)⟩
    | nil =>
      cases r with
      | lst n h rl =>
        simp only [maxW] at q
        split at q
        · rename_i m ns hi
          rw [intsW_map hi] at rl
          rw [rl.ints] at h
          refine .inr ⟨_, m :: ns, rfl, SqL.of h, Nat.succ_pos _, fun z h1 h2 => ?_⟩
          rw [← greatest_is (ns := m :: ns) (Nat.succ_pos _) h1 h2]
          exact PQ.now wd q (.int _)
        · exact q.elim
      | _ => exact q.elim
theorem sem_min : SemL K (fun vs H Q => (∃ i j, vs = [.int i, .int j] ∧ Q (.int (if j < i then j else i)) H) ∨ rMin K vs H Q) minW := fun c d H x v Q E' wd rx q => by
  cases rx with
  | nil => exact q.elim
  | cons r rr =>
    cases rr with
    | cons r2 rr =>
      cases rr with
      | cons _ _ => cases r <;> cases r2 <;> exact q.elim
      | nil => cases r <;> cases r2 <;> first | exact q.elim | exact .inl ⟨_, _, rfl, PQ.now wd q (.int _)⟩
    | nil =>
      cases r with
      | lst n h rl =>
        simp only [minW] at q
        split at q
        · rename_i m ns hi
          rw [intsW_map hi] at rl
          rw [rl.ints] at h
          refine .inr ⟨_, m :: ns, rfl, SqL.of h, Nat.succ_pos _, fun z h1 h2 => ?_⟩
          rw [← least_is (ns := m :: ns) (Nat.succ_pos _) h1 h2]
          exact PQ.now wd q (.int _)
        · exact q.elim
      | _ => exact q.elim
theorem sem_tupOf : SemL K (fun xs H Q => ∃ p ys, xs = [.ref p] ∧ ((SqL K H p ys ∧ ∀ l, H l = none → Q (.ref l) (upd H l (.tup ys))) ∨ (SqT K H p ys ∧ Q (.ref p) H))) tupOfW := fun c d H x v Q E' wd rx q => by
  cases rx with
  | nil => exact q.elim
  | cons r rr =>
    cases rr with
    | cons _ _ => cases r <;> exact q.elim
    | nil =>
      cases r with
      | lst n h rl => exact ⟨_, _, rfl, .inl ⟨SqL.of h, fun l hl => q _ _ (.new hl) (wd.st.new hl) (.tup (SqT.of upd_same) (rl.step (.new hl) wd.st wd.ok))⟩⟩
      | tup h rl => exact ⟨_, _, rfl, .inr ⟨h, PQ.now wd q (.tup h rl)⟩⟩
      | _ => exact q.elim
theorem sem_lstOf : SemL K (fun xs H Q => ∃ p ys, xs = [.ref p] ∧ (SqL K H p ys ∨ SqT K H p ys) ∧ ∀ l, H l = none → Q (.ref l) (upd H l (.lst ys))) lstOfW := fun c d H x v Q E' wd rx q => by
  cases rx with
  | nil => exact q.elim
  | cons r rr =>
    cases rr with
    | cons _ _ => cases r <;> exact q.elim
    | nil =>
      cases r with
      | lst n h rl => exact ⟨_, _, rfl, .inl (SqL.of h), fun l hl => q _ _ (.new hl) (wd.st.new hl) (.lst (wd.fresh hl) upd_same (rl.step (.new hl) wd.st wd.ok))⟩
      | tup h rl => exact ⟨_, _, rfl, .inr h, fun l hl => q _ _ (.new hl) (wd.st.new hl) (.lst (wd.fresh hl) upd_same (rl.step (.new hl) wd.st wd.ok))⟩
      | _ => exact q.elim
def cutW (ws : List W) (lo hi : Option Int) : List W := (ws.drop (HT.sIx ws.length 0 lo)).take (HT.sIx ws.length ws.length hi - HT.sIx ws.length 0 lo)
theorem RepL.cut {c : Cc} {H : Hp} {ws : List W} {vs : List V} (r : RepL K c H ws vs) (lo hi : Option Int) : RepL K c H (cutW ws lo hi) (cutV vs lo hi) := by
  unfold cutW cutV
  rw [r.length]
  exact (r.drop _).take _
def slW (x : W) (lo hi : Option Int) : T W := match x with
  | .tup ws => .ok (.tup (cutW ws lo hi))
  | .lst ws => .ok (.lst (cutW ws lo hi))
  | _ => .bad
def pInt : W → T Int
  | .int i => .ok i
  | _ => .bad
def fSl (fa : En → T W) (fl fh : En → T (Option Int)) : En → T W := fun ρ => (fa ρ).bind fun x => (fl ρ).bind fun l => (fh ρ).bind fun u => slW x l u
def pNo : En → T (Option Int) := fun _ => .ok none
def pSome (f : En → T W) : En → T (Option Int) := fun ρ => (f ρ).bind fun x => (pInt x).bind fun i => .ok (some i)
def liftO (K : PySem.W.Frag) (Γ : Cl) (E : WX) (f : En → T (Option Int)) : TO := fun σ H Q => ∃ c d oa ρ, EnvOk K Γ c d oa ρ σ H ∧ (f ρ).AllW (PO1 c H Q) (PX K c H fun cls dx H' => E cls dx σ H') d
def TrO (Γ : Cl) (X : Cx) (E : WX) (e : Option Expr) (f : En → T (Option Int)) : Prop := PO X e (liftO X.K Γ E f)
theorem po_imp {X : Cx} {e : Option Expr} {t t' : TO} (h : PO X e t) (i : ∀ σ H Q, t' σ H Q → t σ H Q) : PO X e t' := ⟨fun pins s σ H Q I q => h.run pins s σ H Q I (i σ H Q q)⟩
theorem tro_no {X : Cx} {E : WX} : TrO Γ X E none pNo := po_imp po_none fun σ H Q q => by
  obtain ⟨c, d, oa, ρ, e, q⟩ := q
  exact q H (.refl _ H) e.st
theorem tro_some {X : Cx} {E : WX} {e : Expr} {f : En → T W} (h : TrE Γ X E e f) : TrO Γ X E (some e) (pSome f) := po_imp (po_some h) fun σ H Q q => by
  obtain ⟨c, d, oa, ρ, e, q⟩ := q
  refine lift_then (P := fun c H => PO1 c H Q) e q (fun st p => p.later st) fun w v H1 d1 _ r1 e1 h1 => ?_
  cases r1 with
  | int i => exact ⟨i, rfl, h1 H1 (.refl _ H1) e1.st⟩
  | _ => exact h1.elim
theorem liftO_then {E : WX} {c : Cc} {d : Dw} {oa : Nat → Addr} {ρ : En} {σ : L2.St} {H : Hp} {β : Type} {fo : En → T (Option Int)} {P : Cc → Hp → Dw → β → Prop} {G : Option Int → T β} {R : Option Int → Hp → Prop} (e : EnvOk K Γ c d oa ρ σ H) (h : ((fo ρ).bind G).AllW (P c H) (PX K c H fun cls dx H' => E cls dx σ H') d)
    (lt : ∀ {c1 H1 d a}, SG c c1 H H1 → P c H d a → P c1 H1 d a) (go : ∀ {c1 : Cc} b H1 d1, SG c c1 H H1 → EnvOk K Γ c1 d1 oa ρ σ H1 → (G b).AllW (P c1 H1) (PX K c1 H1 fun cls dx H' => E cls dx σ H') d1 → R b H1) : liftO K Γ E fo σ H R := by
  refine ⟨c, d, oa, ρ, e, T.AllW.imp (fun d1 w x => ?_) (fun _ _ _ x => x) (T.allW_bind.mp h)⟩
  intro _ H1 st so
  exact go w H1 d1 st (e.step st so) (T.AllW.imp (fun _ _ y => lt st y) (fun _ _ _ y => y.later st) x)
theorem cut_all {ws : List W} {lo hi : Option Int} {n : Nat} (hn : ws.length = n) (h : HT.sIx n 0 lo = 0 ∧ HT.sIx n n hi = n) : cutW ws lo hi = ws := by
  unfold cutW
  rw [hn, h.1, h.2]
  simp [← hn]
theorem tr_slice {X : Cx} {E : WX} {e : Expr} {lo hi : Option Expr} {fa : En → T W} {fl fh : En → T (Option Int)} {pos p2 : Pos} (ha : TrE Γ X E e fa) (hl : TrO Γ X E lo fl) (hh : TrO Γ X E hi fh) : TrE Γ X E (.Subscript e (.Slice lo hi none p2) pos) (fSl fa fl fh) :=
  pe_imp (pe_slice (slR_or sl_tupA sl_list) ha hl hh) fun σ H Q q => by
  obtain ⟨c, d, oa, ρ, e, q⟩ := q
  refine lift_then (P := fun c H => PQ X.K c H Q) e q (fun st p => p.later st) fun w v H1 d1 st1 r1 e1 h1 => ?_
  refine liftO_then (P := fun c H => PQ X.K c H Q) e1 h1 (fun st p => p.later st) fun l H2 d2 st2 e2 h2 => ?_
  refine liftO_then (P := fun c H => PQ X.K c H Q) e2 h2 (fun st p => p.later st) @fun c3 u H3 d3 st3 e3 h3 => ?_
  have r3 := (r1.step st2 e1.st e1.ok).step st3 e2.st e2.ok
  cases r3 with
  | tup hq rl =>
    refine .inl ⟨_, _, rfl, hq, fun z => ?_, fun z p hp => ?_⟩
    · rw [← rl.length] at z
      have h4 : PQ X.K c3 H3 Q d3 (.tup (cutW _ l u)) := h3
      rw [cut_all rfl z] at h4
      exact PQ.now e3.wd h4 (.tup hq rl)
    · exact h3 _ _ (.new hp) (e3.st.new hp) (.tup (SqT.of upd_same) ((rl.cut l u).step (.new hp) e3.st e3.ok))
  | lst n hq rl => exact .inr ⟨_, _, rfl, SqL.of hq, fun p hp => h3 _ _ (.new hp) (e3.st.new hp) (.lst (e3.wd.fresh hp) upd_same ((rl.cut l u).step (.new hp) e3.st e3.ok))⟩
  | _ => exact h3.elim
def mulT : W → W → T W
  | .tup ws, .int k => if tmulOk ws.length k then .ok (.tup (manyW k.toNat ws)) else .bad
  | _, _ => .bad
def mul1 : W → W → T W
  | .tup ws, .int 1 => .ok (.tup ws)
  | _, _ => .bad
theorem sem_mulT : Sem2 K (rRepT K) mulT := fun c d H x y v u Q E' wd rx ry q => by
  cases rx with
  | tup hq rl =>
    cases ry with
    | int k =>
      obtain ⟨h, q⟩ := T.AllW.ite q
      unfold tmulOk at h
      obtain ⟨h0, h1, h2, h3⟩ := of_decide_eq_true h
      refine ⟨_, k, _, rfl, rfl, hq, fun z => ?_, h2, h3, by rw [← rl.length]; exact h1, fun p hp => q _ _ (.new hp) (wd.st.new hp) (.tup (SqT.of upd_same) ((rl.many _).step (.new hp) wd.st wd.ok))⟩
      rw [rl.length, z] at h0
      cases h0
    | _ => exact q.elim
  | _ => cases ry <;> exact q.elim
theorem sem_mul1 : Sem2 K (rRep1 K) mul1 := fun c d H x y v u Q E' wd rx ry q => by
  cases rx with
  | tup hq rl =>
    cases ry with
    | int k =>
      unfold mul1 at q
      split at q
      · rename_i e1 e2
        cases e1
        cases e2
        exact ⟨_, _, rfl, rfl, hq, PQ.now wd q (.tup hq rl)⟩
      · exact q.elim
    | _ => exact q.elim
  | _ => cases ry <;> exact q.elim
end
end PF
namespace PF
open PySem PySem.Spec PyProof.Rows L2
section
variable {K : PySem.W.Frag} {c : Cc} {d : Dw} {oa : Nat → Addr} {ρ : En} {σ : L2.St} {H H' : Hp} {D : Addr} {i : Nat}
/-- a slot takes a list of the frame's own -/
theorem EnvOk.ownSet {ws : List W} {vs : List V} (e : EnvOk K Γ c d oa ρ σ H) (hm : D ∈ c.M) (hl : H D = some (.lst vs)) (rl : RepL K c H ws vs) (ho : ∀ (j : Nat) (us : List W), j ≠ i → ρ[j]? = some (.own us) → oa j ≠ D) :
    EnvOk K Γ c d (fun j => if j = i then D else oa j) (ρ.set i (.own ws)) (σ.set i (some (.ref D))) H where
  ok := e.ok
  st := e.st
  av := e.av
  m := e.m
  len := by rw [List.length_set, List.length_set]; exact e.len
  val := fun j x h => by
    rcases getElem?_set_or h with ⟨ej, ex⟩ | ⟨n, h'⟩
    · cases ex
    · obtain ⟨u, h1, h2⟩ := e.val j x h'
      exact ⟨u, by rw [List.getElem?_set_ne (Ne.symm n)]; exact h1, h2⟩
  own := fun j x h => by
    rcases getElem?_set_or h with ⟨ej, ex⟩ | ⟨n, h'⟩
    · cases ex
      subst ej
      have hj : j < σ.length := by
        by_cases hl : j < ρ.length
        · rw [← e.len]
          exact hl
        · rw [List.getElem?_eq_none (by simpa using hl)] at h
          cases h
      rw [if_pos rfl]
      exact ⟨hm, by rw [List.getElem?_set_self hj], vs, hl, rl⟩
    · obtain ⟨h1, h3, h4⟩ := e.own j x h'
      rw [if_neg n]
      exact ⟨h1, by rw [List.getElem?_set_ne (Ne.symm n)]; exact h3, h4⟩
  inj := fun a b x y h1 h2 he => by
    rcases getElem?_set_or h1 with ⟨ea, _⟩ | ⟨na, h1'⟩
    · rcases getElem?_set_or h2 with ⟨eb, _⟩ | ⟨nb, h2'⟩
      · rw [ea, eb]
      · rw [ea, if_pos rfl, if_neg nb] at he
        exact absurd he.symm (ho b y nb h2')
    · rcases getElem?_set_or h2 with ⟨eb, _⟩ | ⟨nb, h2'⟩
      · rw [eb, if_pos rfl, if_neg na] at he
        exact absurd he (ho a x na h1')
      · rw [if_neg na, if_neg nb] at he
        exact e.inj a b x y h1' h2' he
  odc := fun j x h => by
    rcases getElem?_set_or h with ⟨ej, ex⟩ | ⟨n, h'⟩
    · cases ex
    · obtain ⟨h1, h3, h4⟩ := e.odc j x h'
      rw [if_neg n]
      exact ⟨h1, by rw [List.getElem?_set_ne (Ne.symm n)]; exact h3, h4⟩
  ido := fun a b x y h1 h2 he => by
    rcases getElem?_set_or h1 with ⟨ea, ex⟩ | ⟨na, h1'⟩
    · cases ex
    · rcases getElem?_set_or h2 with ⟨eb, ex⟩ | ⟨nb, h2'⟩
      · cases ex
      · rw [if_neg na, if_neg nb] at he
        exact e.ido a b x y h1' h2' he
  odt := fun j x h => by
    rcases getElem?_set_or h with ⟨ej, ex⟩ | ⟨n, h'⟩
    · cases ex
    · obtain ⟨h1, h3, h4⟩ := e.odt j x h'
      rw [if_neg n]
      exact ⟨h1, by rw [List.getElem?_set_ne (Ne.symm n)]; exact h3, h4⟩
  idt := fun a b x y h1 h2 he => by
    rcases getElem?_set_or h1 with ⟨ea, ex⟩ | ⟨na, h1'⟩
    · cases ex
    · rcases getElem?_set_or h2 with ⟨eb, ex⟩ | ⟨nb, h2'⟩
      · cases ex
      · rw [if_neg na, if_neg nb] at he
        exact e.idt a b x y h1' h2' he
  lk := e.lk.to (fun j r x h => by
    obtain ⟨q, x⟩ := lk_set rfl x h
    exact ⟨x, by rw [List.getElem?_set_ne (Ne.symm q)]⟩) (fun _ _ r => r) fun _ m ⟨_, hx, w⟩ ne => ⟨m, fun _ h _ => h, fun j dd => by
      by_cases q : j = i
      · rw [if_pos q]
        exact fun z => ne_of hx hl (w.notL _) z.symm
      · rw [if_neg q]
        exact ne j (dy_ne q dd)⟩
  tT := e.tT
  cC := e.cC
  kK := e.kK
theorem EnvOk.ownNe {a : Addr} (e : EnvOk K Γ c d oa ρ σ H) (n : H a = none) : ∀ (j : Nat) (us : List W), j ≠ i → ρ[j]? = some (.own us) → oa j ≠ a := fun j us _ h => by
  obtain ⟨_, _, zs, h4, _⟩ := e.own j us h
  exact ne_of_none h4 n
/-- one of them is changed -/
theorem EnvOk.ownUpd {ws us : List W} {ys : List V} (e : EnvOk K Γ c d oa ρ σ H) (h : ρ[i]? = some (.own ws)) (rl : RepL K c H us ys) :
    EnvOk K Γ c d oa (ρ.set i (.own us)) σ (L2.upd H (oa i) (.lst ys)) ∧ Fwd K c H c (L2.upd H (oa i) (.lst ys)) := by
  obtain ⟨h1, h3, vs, h4, h5⟩ := e.own i ws h
  have hA := e.m.inA _ h1
  have hn := e.m.nst _ h1
  have up : ∀ {w : W} {v : V}, Rep K c H w v → Rep K c (L2.upd H (oa i) (.lst ys)) w v := fun r => r.upd hA h4 (fun _ z => by cases z) (fun _ _ z => by cases z)
  have upl : ∀ {w : List W} {v : List V}, RepL K c H w v → RepL K c (L2.upd H (oa i) (.lst ys)) w v := fun r => r.upd hA h4 (fun _ z => by cases z) (fun _ _ z => by cases z)
  refine ⟨?_, rfl, rfl, rfl, rfl, rfl, rfl, List.prefix_rfl, fun b hb _ => hb, fun b hb => .inl hb, fun b o hb _ _ nm _ => ?_, fun b ps hb nm => ⟨#[], by rw [upd_ne (fun z => nm (by rw [z]; exact h1)), hb]; simp⟩, fun w v r => up r, fun a vs h => sqT_upd h4 (fun _ z => by cases z) (fun _ _ z => by cases z) h, fun b C dx fs hb _ => ⟨fs, by rw [upd_ne (ne_of hb h4 nofun)]; exact hb⟩⟩
  · exact {
      ok := e.ok
      st := e.st.upd hA hn h4
      av := fun b hb => by
        by_cases hb' : b = oa i
        · rw [hb']
          exact ⟨_, upd_same, .inl ⟨_, rfl⟩⟩
        · obtain ⟨o, h, w⟩ := e.av b hb
          exact ⟨o, by rw [upd_ne hb']; exact h, w⟩
      m := ⟨e.m.inA, e.m.nst, fun b hb => by
        by_cases hb' : b = oa i
        · rw [hb']
          exact ⟨_, upd_same, .inl ⟨_, rfl⟩⟩
        · obtain ⟨xs, h, w⟩ := e.m.ls b hb
          exact ⟨xs, by rw [upd_ne hb']; exact h, w⟩⟩
      len := by rw [List.length_set]; exact e.len
      val := fun j x hx => by
        rcases getElem?_set_or hx with ⟨ej, ex⟩ | ⟨n, h'⟩
        · cases ex
        · obtain ⟨u, g1, g2⟩ := e.val j x h'
          exact ⟨u, g1, up g2⟩
      own := fun j x hx => by
        rcases getElem?_set_or hx with ⟨ej, ex⟩ | ⟨n, h'⟩
        · cases ex
          subst ej
          exact ⟨h1, h3, ys, upd_same, upl rl⟩
        · obtain ⟨g1, g3, zs, g4, g5⟩ := e.own j x h'
          exact ⟨g1, g3, zs, by rw [upd_ne (fun z => n (e.inj j i x ws h' h z))]; exact g4, upl g5⟩
      inj := fun a b x y g1 g2 he => by
        have f : ∀ {a : Nat} {x : List W}, (ρ.set i (.own us))[a]? = some (.own x) → ∃ x', ρ[a]? = some (.own x') := fun g => by
          rcases getElem?_set_or g with ⟨ea, _⟩ | ⟨_, g'⟩
          · exact ⟨ws, by rw [ea]; exact h⟩
          · exact ⟨_, g'⟩
        obtain ⟨x', f1⟩ := f g1
        obtain ⟨y', f2⟩ := f g2
        exact e.inj a b x' y' f1 f2 he
      odc := fun j x hx => by
        rcases getElem?_set_or hx with ⟨ej, ex⟩ | ⟨n, h'⟩
        · cases ex
        · obtain ⟨g1, g3, zs, g4, g5⟩ := e.odc j x h'
          have ne : oa j ≠ oa i := fun z => by
            rw [z, h4] at g4
            cases g4
          exact ⟨g1, g3, zs, by rw [upd_ne ne]; exact g4, g5.1, upl g5.2⟩
      ido := fun a b x y g1 g2 he => by
        rcases getElem?_set_or g1 with ⟨_, ex⟩ | ⟨_, g1'⟩
        · cases ex
        · rcases getElem?_set_or g2 with ⟨_, ex⟩ | ⟨_, g2'⟩
          · cases ex
          · exact e.ido a b x y g1' g2' he
      odt := fun j x hx => by
        rcases getElem?_set_or hx with ⟨ej, ex⟩ | ⟨n, h'⟩
        · cases ex
        · obtain ⟨g1, g3, zs, g4, g5⟩ := e.odt j x h'
          have ne : oa j ≠ oa i := fun z => by
            rw [z, h4] at g4
            cases g4
          exact ⟨g1, g3, zs, by rw [upd_ne ne]; exact g4, g5.1, upl g5.2⟩
      idt := fun a b x y g1 g2 he => by
        rcases getElem?_set_or g1 with ⟨_, ex⟩ | ⟨_, g1'⟩
        · cases ex
        · rcases getElem?_set_or g2 with ⟨_, ex⟩ | ⟨_, g2'⟩
          · cases ex
          · exact e.idt a b x y g1' g2' he
      lk := e.lk.to (fun j r x hl => by
        obtain ⟨q, x⟩ := lk_set rfl x hl
        exact ⟨x, rfl⟩) (fun _ _ r => upl r) fun _ m ⟨_, hx, w⟩ ne => ⟨m, fun o g _ => by rw [upd_ne (ne_of hx h4 (w.notL _))]; exact g, fun j dd => by
          by_cases q : j = i
          · subst q
            exact ne j (.inl ⟨_, h⟩)
          · exact ne j (dy_ne q dd)⟩
      tT := e.tT
      cC := e.cC
      kK := e.kK }
  · rw [upd_ne (fun z => nm (by rw [z]; exact h1))]
    exact hb
end
def sOwn (i : Nat) (fs : En → T (List W)) : En → T (Fl × En) := fun ρ => (fs ρ).bind fun ws => if sizeOk ws then .ok (.nx, ρ.set i (.own ws)) else .bad
def seqW : W → T (List W)
  | .lst ws => .ok ws
  | .tup ws => .ok ws
  | _ => .bad
def sOwnPar (i j : Nat) (fs : En → T (List W)) : En → T (Fl × En) := fun ρ => (fs ρ).bind fun ws => match ws with
  | [w] => .ok (.nx, (ρ.set i (.own [])).set j (.val w))
  | _ => .bad
def sApp (i : Nat) (f : En → T (List W)) : En → T (Fl × En) := fun ρ => match ρ[i]? with
  | some (.own ws) => (f ρ).bind fun xs => match xs with
    | [w] => if roomOk ws then .ok (.nx, ρ.set i (.own (ws ++ [w]))) else .bad
    | _ => .bad
  | _ => .bad
def onFrz {α : Type} (i : Nat) (g : En → T α) : En → T α := fun ρ => g (frz i ρ)
section
variable {X : Cx} {E : XK} {st : Stmt} {e : Expr} {es : List Expr} {g : En → T (Fl × En)} {f : En → T W} {fs : En → T (List W)} {pos pos' p2 : Pos}
theorem tr_frz (i : Nat) (h : TrS Γ X E st g) : TrS Γ X E st (onFrz i g) := ps_imp h fun D σ H q => by
  obtain ⟨c, d, oa, ρ, e, q⟩ := q
  obtain ⟨c', e', fw, _⟩ := e.frz i
  exact ⟨c', d, oa, _, e', T.AllW.imp (fun _ _ y => y.later fw) (fun _ _ _ y => y.fwd fw) q⟩
theorem tr_own {i : Nat} {x : Str} (hN : X.N.Nodup) (hi : X.N[i]? = some x) (hx : L2.Loc X.env.scope x) (he : TrA Γ X (wOf E) es fs) (hs : swapsWith (.List es p2) (some (.Name x pos')) pos.line X.env = pure false := by rfl)
    (hf : X.fn x = true ∨ X.env.scope.names.lookup x = some .local := by first | exact .inl rfl | exact .inr rfl | assumption) : TrS Γ X E (.Assign [.Name x pos'] (.List es p2) pos) (sOwn i fs) := ps_imp (ps_set hN hi hx (pe_lst he) hs hf) fun D σ H q => by
  obtain ⟨c, d, oa, ρ, e, q⟩ := q
  refine liftA_thenS (P := fun c H => PSq X.K Γ c H D) e q (fun st p => p.later (.of st e.wd)) fun ws vs H1 d1 _ r1 e1 h1 => ?_
  obtain ⟨hz, h1⟩ := T.AllW.ite h1
  refine ⟨by rw [← r1.length]; exact sizeOk_of hz, fun p hp => ?_⟩
  exact h1 _ _ _ _ (Fwd.mine hp e1.wd) ((e1.mine hp).ownSet (List.mem_cons_self ..) upd_same ((r1.more hp (.new hp) e1.st e1.ok).mine) (EnvOk.ownNe e1 hp))
theorem tr_ownPar {i j : Nat} (ne : i ≠ j) (hp : PS X st (tPar i j (tCons (tLst tNil) (liftA X.K Γ (wOf E) fs)))) : TrS Γ X E st (sOwnPar i j fs) := ps_imp hp fun D σ H q => by
  obtain ⟨c, d, oa, ρ, e, q⟩ := q
  refine ⟨by rw [sizeLine_eq]; decide, fun p hp => ?_⟩
  have e0 := e.mine (xs := []) hp
  have q0 : (sOwnPar i j fs ρ).AllW (PSq X.K Γ (c.mine p) (L2.upd H p (.lst [])) D) (PXs X.K (c.mine p) (L2.upd H p (.lst [])) E) d := T.AllW.imp (fun _ _ y => y.later (Fwd.mine hp e.wd)) (fun _ _ _ y => y.fwd (Fwd.mine hp e.wd)) q
  refine liftA_thenS (P := fun c H => PSq X.K Γ c H D) e0 q0 (fun st p => p.later (.of st e0.wd)) fun ws vs H1 d1 st1 r1 e1 h1 => ?_
  cases r1 with
  | nil => exact h1.elim
  | cons r rr =>
    cases rr with
    | cons _ _ => exact h1.elim
    | nil =>
      have hq : H1 p = some (.lst []) := st1.st.keep p _ upd_same (fun z => by have := st_ne e.st hp; simp only [List.mem_cons, not_or] at this; exact this.1 z) (fun z => by have := st_ne e.st hp; simp only [List.mem_cons, not_or] at this; exact this.2.2.1 z) nofun
      refine ⟨_, _, rfl, h1 _ _ _ H1 .refl ((e1.ownSet (D := p) (i := i) (by rw [st1.g.M]; exact List.mem_cons_self ..) hq .nil (EnvOk.ownNe e hp)).set r)⟩
theorem tr_app {i : Nat} {apos cpos : Pos} (ho : PE X e (tVar i)) (ha : TrA Γ X (wOf E) [a] fs) (hb : attributeBase e "append" X.env (eval e X.env) = eval e X.env := by rfl)
    (h1 : (((backTo cpos (starEach [a] X.env)).all fun x => !x.1) && ((backToKw cpos (keywordEach [] X.env)).all fun x => x.1.isSome) && decide (([a].length + ([] : List Keyword).length + if ([] : List Keyword).isEmpty = true then 0 else 1) < 30)) = true := by rfl) (h2 : (apos.endLine == cpos.line) = true := by rfl)
    (h3 : starEach [a] X.env = (false, eval a X.env) :: starEach [] X.env := by rfl) (h4 : ((backTo cpos (starEach [] X.env)).any fun x => x.1) = false := by rfl)
    (hs : swapsWith (.Call (.Attribute e "append" apos) [a] [] cpos) none pos.line X.env = pure false := by rfl) :
    TrS Γ X E (.Expr (.Call (.Attribute e "append" apos) [a] [] cpos) pos) (sApp i fs) := ps_imp (ps_expr (pe_bm PySem.F.plainAttrs_list PySem.F.slot_list_append PySem.F.type_list_append mt_append ho ha hb h1 h2 h3 h4) hs) fun D σ H q => by
  obtain ⟨c, d, oa, ρ, e, q⟩ := q
  unfold sApp at q
  split at q
  · rename_i ws hw
    obtain ⟨m1, m2, vs, m3, m4⟩ := e.own i ws hw
    refine ⟨_, m2, .inl ⟨rfl, _, SqL.of m3⟩, liftA_thenS (P := fun c H => PSq X.K Γ c H D) e q (fun st p => p.later (.of st e.wd)) fun us zs H1 d1 st1 r1 e1 h1 => ?_⟩
    cases r1 with
    | nil => exact h1.elim
    | cons r rr =>
      cases rr with
      | cons _ _ => exact h1.elim
      | nil =>
        obtain ⟨hz, h1⟩ := T.AllW.ite h1
        obtain ⟨m1', m2', vs', m3', m4'⟩ := e1.own i ws hw
        obtain ⟨e2, fw2⟩ := e1.ownUpd hw (m4'.append (.cons r .nil))
        unfold roomOk at hz
        exact ⟨_, _, _, rfl, rfl, m3', by rw [← m4'.length, sizeLine_eq]; exact of_decide_eq_true hz, h1 _ _ _ _ fw2 e2⟩
  · exact q.elim
end
section
variable {X : Cx} {E : WX} {a b cc : Expr} {fa fb fc : En → T W} {g g' : W → W → T W} {r r' : R2} {pos : Pos}
theorem chain_ok (hs : Sem2 X.K r g) (hs' : Sem2 X.K r' g') : ∀ σ H Q, liftE X.K Γ E (fCh g g' fa fb fc) σ H Q → tChain r r' (liftE X.K Γ E fa) (liftE X.K Γ E fb) (liftE X.K Γ E fc) σ H Q := fun σ H Q h => by
  obtain ⟨c, d, oa, ρ, e, h⟩ := h
  refine lift_then (P := fun c H => PQ X.K c H Q) e h (fun st p => p.later st) fun w v H1 d1 _ r1 e1 h1 => ?_
  refine lift_then (P := fun c H => PQ X.K c H Q) e1 h1 (fun st p => p.later st) fun w2 v2 H2 d2 st2 r2 e2 h2 => ?_
  refine hs _ d2 H2 w w2 v v2 _ _ e2.wd (r1.step st2 e1.st e1.ok) r2 (T.AllW.imp (fun d3 z hz => ?_) (fun _ _ _ y => y) (T.allW_bind.mp h2))
  intro _ vz H3 st3 so3 rz
  have e3 := e2.step st3 so3
  cases z with
  | bl k =>
    cases rz
    refine ⟨k, rfl, ?_⟩
    cases k with
    | false => exact iteF (PQ.now e3.wd (PQ.later st3 hz) (.bl false))
    | true =>
      refine iteT (lift_then (P := fun c H => PQ X.K c H Q) e3 (T.AllW.imp (fun _ _ y => y.later st3) (fun _ _ _ y => y.later st3) hz) (fun st p => p.later st) fun w4 v4 H4 d4 st4 r4 e4 h4 => ?_)
      exact hs' _ d4 H4 w2 w4 v2 v4 Q _ e4.wd ((r2.step st3 e2.st e2.ok).step st4 e3.st e3.ok) r4 h4
  | _ => exact hz.elim
theorem trb_chain {op op' : CmpOp} (ho : OpR X (compareOp op) r) (ho' : OpR X (compareOp op') r') (hs : Sem2 X.K r g) (hs' : Sem2 X.K r' g') (ha : TrE Γ X E a fa) (hb : TrE Γ X E b fb) (hc : TrE Γ X E cc fc)
    (hm : lastMarks [op, op'] [b, cc] = false := by with_unfolding_all rfl) : TrB Γ X E (.Compare a [op, op'] [b, cc] pos) (fBl (fCh g g' fa fb fc)) := trb_of (pt_chain ho ho' ha hb hc hm) (chain_ok hs hs')
end
def mulTA (x y : W) : T W := match y with
  | .int 1 => mul1 x (.int 1)
  | .int k => mulT x (.int k)
  | _ => .bad
theorem sem_mulTA {K : PySem.W.Frag} : Sem2 K (fun x y H Q => rRep1 K x y H Q ∨ rRepT K x y H Q) mulTA := sem_or1 sem_mul1 sem_mulT fun x y => by
  unfold mulTA
  split
  · exact .inl rfl
  · exact .inr rfl
  · rename_i h1 h2
    right
    cases x <;> cases y <;> first | rfl | exact absurd rfl (h2 _)
theorem op_mulTA {X : Cx} : OpR X (binaryOp .Mult) (fun x y H Q => rRep1 X.K x y H Q ∨ rRepT X.K x y H Q) := opR_or op_rep1 op_repT
section
variable {X : Cx} {E : XK} {elt tg iter : Expr} {ifs : List Expr} {scope : Scope} {own : List (Str × Nat)} {pos spos py : Pos} {fi : En → T (List W)} {ns : List Nat} {G : W → En → Option En} {tt : En → T Bool} {fe : En → T W}
theorem tr_setLc {i : Nat} {y : Str} (hc : X.calm = true) (hN : X.N.Nodup) (hy : X.N[i]? = some y) (hyl : X.env.scope.names.lookup y = some .local) (hsw : swapsWith (.ListComp elt [⟨tg, iter, ifs, 0⟩] scope pos) (some (.Name y py)) spos.line X.env = pure true)
    (hi : TrI Γ X (wOf E) tg iter fi) (ok : BlkOk X.N X.env.scope scope own) (hs : ∀ i ∈ ns, i ∈ own.map (·.2))
    (hg : ∀ (s : Shared) (H : Hp) (C : Addr) (cl : List (Str × Addr)) (fp : List Addr), TrG Γ (X.blk s H scope (compEnvC scope cl C X.env) fp) tg ns G) (ht : ∀ (s : Shared) (H : Hp) (C : Addr) (cl : List (Str × Addr)) (fp : List Addr), TrTs Γ (X.blk s H scope (compEnvC scope cl C X.env) fp) ifs tt)
    (he : ∀ (s : Shared) (H : Hp) (C : Addr) (cl : List (Str × Addr)) (fp : List Addr), TrE Γ (X.blk s H scope (compEnvC scope cl C X.env) fp) noW elt fe) (hf : ∀ x, foldedSetIterable iter X.env x = pure x := by intro _; rfl) :
    TrS Γ X E (.Assign [.Name y py] (.ListComp elt [⟨tg, iter, ifs, 0⟩] scope pos) spos) (sSet i (fComp (own.map (·.2)) fi G tt fe)) := ps_imp (ps_setLc (g := liftG X.K Γ ns G) (tt := liftB X.K Γ noW tt) (te := liftE X.K Γ noW fe) hc hN hy hyl hsw hi ok hg ht he hf) fun D σ H q => by
  obtain ⟨c, d, oa, ρ, e, q⟩ := q
  refine comp_ok (E := wOf E) hs σ H _ (lift_thenS (P := fun c H => PSq X.K Γ c H D) e q (fun st p => p.later (.of st e.wd)) fun w v H1 d1 _ r1 e1 h1 => ?_)
  exact h1 _ oa _ H1 .refl (e1.set r1)
end
end PF
namespace PF
open PySem PySem.Spec PyProof.Rows L2
theorem ask_all {α : Type} {P : Nat → α → Prop} {E : Nat → Nat → List W → Prop} {n d : Nat} {k : Nat → T α} (h : 0 < d) (g : ∀ i, i < n → (k i).AllB P E (d - 1)) : (T.ask n k).AllB P E d := ⟨d - 1, by omega, g⟩
theorem draw_run {n : Int} {b : Nat} (h : 0 < n) (hb : n.natAbs < 2 ^ b) (h0 : 0 < b) (h9 : b ≤ 9000) : F__law_draw [.stt, .int n] = .ask n.toNat fun i => .ok (.int i) := by
  simp [F__law_draw, manyOk_is h hb h0 h9]
/-- a draw of n, n small -/
theorem draw_is {n : Int} (h : 0 < n) (hb : n < 2 ^ 60) : F__law_draw [.stt, .int n] = .ask n.toNat fun i => .ok (.int i) := draw_run (b := 60) h (by omega) (by decide) (by decide)
theorem rng1_is {n : Int} (h0 : 0 ≤ n) (h1 : n ≤ 2 ^ 60) : rng1 [.int n] = .ok (intsFrom 0 n.toNat) := by
  unfold rng1
  exact if_pos (rngOk_is (by omega) h1)
theorem ints_len : ∀ (n : Nat) (lo : Int), (intsFrom lo n).length = n
  | 0, lo => rfl
  | n + 1, lo => by simp [intsFrom, ints_len n]
theorem forL_all {G : W → En → Option En} {gb : En → T (Fl × En)} {E : Nat → Nat → List W → Prop} (I : List W → Nat → En → Prop) (step : ∀ w ws d ρ, I (w :: ws) d ρ → ∃ ρ1, G w ρ = some ρ1 ∧ (gb ρ1).AllB (fun d x => ∃ ρ2, x = (.nx, ρ2) ∧ I ws d ρ2) E d) :
    ∀ (ws : List W) (d : Nat) (ρ : En), I ws d ρ → (forL G gb ws ρ).AllB (fun d x => ∃ ρ2, x = (.nx, ρ2) ∧ I [] d ρ2) E d
  | [], d, ρ, h => ⟨ρ, rfl, h⟩
  | w :: ws, d, ρ, h => by
    obtain ⟨ρ1, e, s⟩ := step w ws d ρ h
    unfold forL
    rw [e]
    refine T.allB_bind.mpr (T.AllB.imp (fun d1 x hx => ?_) (fun _ _ _ y => y) s)
    obtain ⟨ρ2, rfl, h2⟩ := hx
    exact forL_all I step ws d1 ρ2 h2
/-- a comprehension whose turns say f -/
theorem compL_map {G : W → En → Option En} {tt : En → T Bool} {fe : En → T W} {ρ : En} {α : Type} (m f : α → W) : ∀ (as : List α), (∀ a ∈ as, ∃ ρ1, G (m a) ρ = some ρ1 ∧ tt ρ1 = .ok true ∧ fe ρ1 = .ok (f a)) → compL G tt fe ρ (as.map m) = .ok (as.map f)
  | [], _ => rfl
  | a :: as, h => by
    obtain ⟨ρ1, h1, h2, h3⟩ := h a (List.mem_cons_self ..)
    have ih := compL_map m f as fun b hb => h b (List.mem_cons_of_mem _ hb)
    simp only [List.map_cons, compL, h1, h2, h3, noX_ok, T.bind_ok, if_true, ih]
end PF
namespace PF
open PySem PySem.Spec PyProof.Rows L2
section
variable {P : Program} {w : World} {K : PySem.W.Frag} {mg : Str → Option Value} {base : Heap} {x qual : Str} {params : Arguments} {body : List Stmt} {scope : Scope} {dvs : List V} {kws : List (Str × V)} {f : Addr} {fd : FuncData}
theorem gdef {N ps : List Str} {k : Nat} {sp : Sp} (F : FunD K x qual params body scope dvs kws f fd) (S : FnScope N ps scope) (len : ∀ vs H Q E, sp vs H Q E → vs.length = ps.length)
    (bd : ∀ (cdv : Value) (A : Around) (o : List PySem.Env) (s : Shared) (H : Hp) (vs : List V) (Q : VK) (E : XK), fd.code = cdv → A.guards = some [] → Room k (A.deeper (envOfC qual scope s.heap.objs.size f cdv)) → sp vs H Q E →
      ∃ t, PSs (cxOf (L2.CX P w) P w K mg base N qual scope f cdv A o s H E) body t ∧ t { nx := fun _ H' => Q .non H', rt := Q } (start N vs) H) : FnG P w K mg base (k + 1) f fd ps sp := by
  obtain ⟨oc, od, dV, kV, dc, pm, an, cdv, ct, osl, rfl, lk, hcd, _, _⟩ := F.ex
  refine ⟨len, fun A o s H ar us vs Q E hg hr e0 hb r q => ?_⟩
  have hlen := len _ _ _ _ q
  have kin : K.In s.heap := e0.mod.kin.keeps fun b u e => (e0.bs b u e).1
  have nol : s.heap.NoLimit := e0.mod.nolimit.keeps fun b u e => (e0.bs b u e).1
  have hk : ∀ y ∈ ps.zip us, scope.names.lookup y.1 = some .local ∨ (scope.names.lookup y.1 = some .cell ∧ ((cellsFrom (s.heap.objs.size + 1) scope.names []).lookup y.1).isSome = true) := fun y hy => by
    obtain ⟨n, v⟩ := y
    have hn := S.par n (List.of_mem_zip hy).1
    exact hn.imp id fun z => ⟨z, PySem.W.cellsFrom_some _ _ _ (.inl z)⟩
  refine codeAny_call_function hr.depth (kin _ _ lk) rfl S.co S.gen rfl (PySem.W.codeRec_of kin hcd) (hb _ _ _ _ (wpAny_newFunctionEnv_cells S.kind hk fun env he s1 z => ?_))
  subst he
  refine ⟨nol.keeps z.toInCall.keep, codeAny_func ?_⟩
  obtain ⟨t, ht, hq⟩ := bd cdv A o s H vs Q E rfl hg (hr.deeper _) q
  have J0 : Inv (cxOf (L2.CX P w) P w K mg base N qual scope f cdv A o s H E) [] (start N vs) H s1 := inv_start S hr.hd e0 hlen r z
  refine wpAny_mono (ht.run [] s1 (start N vs) H _ J0 hq) (fun fl s' hs => ?_) fun e s' hs => hs
  match fl, hs with
  | .ret u, ⟨v, σ', H', J, rv, q'⟩ => exact ⟨v, H', J.os, J.bare, J.base, J.hok, rv, q'⟩
  | .next, ⟨σ', H', J, q'⟩ => exact ⟨V.non, H', J.os, J.bare, J.base, J.hok, rfl, q'⟩
  | .brk, ⟨_, _, _, z⟩ => exact z.elim
  | .cont, ⟨_, _, _, z⟩ => exact z.elim
/-- THE RULE, where no guard stands around -/
theorem fn_trG {k : Nat} {N ps : List Str} {g : En → T (Fl × En)} (F : FunD K x qual params body scope [] [] f fd) (S : FnScope N ps scope)
    (hb : ∀ (Γ : Cl) (cdv : Value) (A : Around) (o : List PySem.Env) (s : Shared) (H : Hp) (E : XK), fd.code = cdv → A.guards = some [] → Room k (A.deeper (envOfC qual scope s.heap.objs.size f cdv)) → TrSs Γ (cxOf (L2.CX P w) P w K mg base N qual scope f cdv A o s H E) E body g) :
    FnG P w K mg base (k + 1) f fd ps (SpF K (defF N.length ps.length g)) := by
  refine gdef F S (SpF.len fun ws h => ?_) fun cdv A o s H vs Q E hcd hg hr h => ?_
  · unfold defF
    rw [if_neg]
    intro z
    exact h (eq_of_beq z)
  · obtain ⟨c, d, ws, hT, wd, r, h⟩ := h
    obtain ⟨_, h⟩ := T.AllW.ite h
    refine ⟨_, hb c.C cdv A o s H E hcd hg hr, ?_⟩
    refine ⟨c.bare, d, fun _ => 0, startE N.length ws, start_ok (c := c.bare) ⟨⟨wd.ok.inS, wd.ok.inla, wd.ok.inca⟩, wd.st.bare, wd.av⟩ hT rfl (RepL.weak (c := c.bare) (c1 := c) rfl rfl (fun _ h => h) r), T.AllW.imp (fun d1 x hx => ?_) (fun _ _ _ y => y.ofBare wd.ok) (T.allW_bind.mp h)⟩
    obtain ⟨fl, ρ'⟩ := x
    intro c' oa' σ' H' fw e'
    have so := e'.st.to fw wd.ok
    cases fl with
    | nx => exact hx _ H' fw.back so .non
    | rt w => exact fun v rv => hx v H' fw.back so (Rep.back fw rv)
    | bk => exact hx.elim
    | ct => exact hx.elim
    | rn ws => exact hx.elim
end
/-- the module's name x is a def that does what the run F does -/
def FnGs (P : Program) (w : World) (K : PySem.W.Frag) (mg : Str → Option Value) (base : Heap) (k : Nat) (x : Str) (ps : List Str) (F : List W → T W) : Prop :=
  ∃ f fd, FnG P w K mg base k f fd ps (SpF K F) ∧ mg x = some (.ref f) ∧ PySem.W.keepIn K (.ref f) = true ∧ Binds K fd ps []
theorem FnIs.toG {P : Program} {w : World} {K : PySem.W.Frag} {mg : Str → Option Value} {base : Heap} {k : Nat} {x : Str} {ps : List Str} {F : List W → T W} (h : FnIs P w K mg base k x ps F) : FnGs P w K mg base k x ps F := by
  obtain ⟨f, fd, a, b, c, d⟩ := h
  exact ⟨f, fd, .of a, b, c, d⟩
section
variable {X : Cx} {E : WX} {e : Expr} {es : List Expr} {fs : En → T (List W)} {pos p : Pos} {F : List W → T W} {k : Nat} {f : Addr} {fd : FuncData} {ps : List Str} {x : Str} {sp : Sp}
theorem run_g {pins : List (Addr × Obj)} {σ : L2.St} {H : Hp} {s : Shared} {Q : VK} {us : List Value} {vs : List V} {E' : XK} (G : FnG X.prog X.w X.K X.mg X.base k f fd ps sp) (hg : X.A.guards = some []) (hr : Room k X.A) (hb : Binds X.K fd ps []) (hx : PassesAt (L2.CX X.prog X.w) X σ E')
    (I : Inv X pins σ H s) (r : Vals vs us) (h : sp vs H Q E') : wpAny (model X.prog X.w) X.A (call (.ref f) us) (EP X pins σ Q) X.xe s := by
  have hl : (us ++ []).length = ps.length := by rw [List.append_nil, ← r.length]; exact G.len _ _ _ _ h
  have bt := hb s us I.kIn hl
  rw [List.append_nil] at bt
  refine wpAny_call (codeAny_mono (G.go X.A X.stack s H ⟨us, []⟩ us vs Q E' hg hr I.env0 bt r h) fun r s' hq => ?_)
  match r, hq with
  | .error e, hq => exact hx pins H s e s' I hq
  | .ok (.ret u), hq => exact I.after hq
  | .ok .next, hq => exact False.elim hq
  | .ok .brk, hq => exact False.elim hq
  | .ok .cont, hq => exact False.elim hq
theorem pe_g {t : TA} {EE : L2.St → XK} (G : FnG X.prog X.w X.K X.mg X.base k f fd ps sp) (hgd : X.A.guards = some []) (hr : Room k X.A) (hg : Gl X x) (hm : X.mg x = some (.ref f)) (hk : PySem.W.keepIn X.K (.ref f) = true) (hb : Binds X.K fd ps []) (hx : ∀ σ, PassesAt (L2.CX X.prog X.w) X σ (EE σ))
    (ha : PA X (e :: es) t) (hdb : (x == ("__debug__" : Str)) = false := by decide) (he : starEach (e :: es) X.env = (false, eval e X.env) :: starEach es X.env := by rfl) (hpl : (backTo pos (starEach es X.env)).any (·.1) = false := by rfl) :
    PE X (.Call (.Name x p) (e :: es) [] pos) (fun σ H Q => t σ H fun vs H1 => sp vs H1 Q (EE σ)) := by
  constructor
  intro pins s σ H Q I h
  refine wpAny_Call_Name_kw (ld_glob I hg hm (PySem.W.callWith_K (h₀ := X.base) I.ok.mod.kin hk (thn (ha.run pos pins s σ H _ I h) fun us s1 z => ?_) he hpl) hdb)
  obtain ⟨vs, H1, I1, r, q⟩ := z
  exact ⟨I1.kIn, run_g G hgd hr hb (hx σ) I1 r q⟩
theorem tr_callG (h : FnGs X.prog X.w X.K X.mg X.base k x ps F) (hgd : X.A.guards = some []) (hr : Room k X.A) (tk : Takes X E) (hg : Gl X x) (ha : TrA Γ X E (e :: es) fs)
    (hdb : (x == ("__debug__" : Str)) = false := by decide) (he : starEach (e :: es) X.env = (false, eval e X.env) :: starEach es X.env := by rfl) (hpl : (backTo pos (starEach es X.env)).any (·.1) = false := by rfl) :
    TrE Γ X E (.Call (.Name x p) (e :: es) [] pos) (fL fs F) := by
  obtain ⟨f, fd, G, hm, hk, hb⟩ := h
  refine pe_imp (pe_g (EE := fun σ => WE E σ) G hgd hr hg hm hk hb (fun σ => passAt tk σ) ha hdb he hpl) fun σ H Q h => ?_
  obtain ⟨c, d, oa, ρ, e, h⟩ := h
  exact liftA_then (P := fun c H => PQ X.K c H Q) e h (fun st p => p.later st) fun w v H1 d1 _ r1 e1 h1 => ⟨_, d1, w, ⟨e1.tT, e1.kK⟩, e1.wd, r1, h1⟩
/-- f() -/
theorem tr_callG0 (h : FnGs X.prog X.w X.K X.mg X.base k x ps F) (hgd : X.A.guards = some []) (hr : Room k X.A) (tk : Takes X E) (hg : Gl X x)
    (hdb : (x == ("__debug__" : Str)) = false := by decide) : TrE Γ X E (.Call (.Name x p) [] [] pos) (fun _ => F []) := by
  obtain ⟨f, fd, G, hm, hk, hb⟩ := h
  constructor
  intro pins s σ H Q I h
  obtain ⟨c, d, oa, ρ, e, h⟩ := h
  refine wpAny_Call_Name_kw (ld_glob I hg hm (PySem.W.callWith_K0 I.kIn hk (run_g (us := []) (vs := []) G hgd hr hb (passAt tk σ) I .nil ⟨c, d, [], ⟨e.tT, e.kK⟩, e.wd, .nil, h⟩)) hdb)
end
end PF
namespace PF
open PySem PySem.Spec PyProof.Rows L2
theorem dec_str {a b : Str} : decide (V.str a = V.str b) = decide (a = b) := by
  by_cases h : a = b <;> simp [h]
theorem sem_eqS {K : PySem.W.Frag} : Sem2 K (fun x y H Q => rEq x y H Q ∨ rEqD K x y H Q) eqS := fun c d H x y v u Q E' wd rx ry q => by
  unfold eqS at q
  split at q
  · cases rx
    cases ry
    exact .inl ⟨rfl, by rw [dec_str]; exact PQ.now wd q (.bl _)⟩
  · exact .inr (sem_eq c d H x y v u Q E' wd rx ry q)
theorem sem_neS {K : PySem.W.Frag} : Sem2 K (fun x y H Q => rNe x y H Q ∨ rNeD K x y H Q) neS := fun c d H x y v u Q E' wd rx ry q => by
  unfold neS at q
  split at q
  · cases rx
    cases ry
    exact .inl ⟨rfl, by rw [dec_str]; exact PQ.now wd q (.bl _)⟩
  · exact .inr (sem_ne c d H x y v u Q E' wd rx ry q)
theorem op_eqS {X : Cx} (hu : X.A.units + 64 < cLine) : OpR X (compareOp .Eq) (fun x y H Q => rEq x y H Q ∨ rEqD X.K x y H Q) := opR_or op_eq (op_eqD hu)
theorem op_neS {X : Cx} (hu : X.A.units + 64 < cLine) : OpR X (compareOp .NotEq) (fun x y H Q => rNe x y H Q ∨ rNeD X.K x y H Q) := opR_or op_ne (op_neD hu)
def fStar (fa : En → T W) (fs : En → T (List W)) : En → T (List W) := fun ρ => (fa ρ).bind fun x => (seqW x).bind fun xs => (fs ρ).bind fun ys => .ok (xs ++ ys)
section
variable {X : Cx} {E : WX} {e : Expr} {es : List Expr} {fa : En → T W} {fs : En → T (List W)} {pos p : Pos}
theorem tra_star (ha : TrE Γ X E e fa) (hr : TrA Γ X E es fs) (hs : starEach (.Starred e p :: es) X.env = (true, eval e X.env) :: starEach es X.env := by rfl) : TrA Γ X E (.Starred e p :: es) (fStar fa fs) := pa_imp (StX.pa_star ha hr hs) fun σ H Q h => by
  obtain ⟨c, d, oa, ρ, e, h⟩ := h
  refine lift_then (P := fun c H => PQL X.K c H Q) e h (fun st p => p.later st) @fun c1 w v H1 d1 _ r1 e1 h1 => ?_
  have fin : ∀ {ws : List W} {vs : List V}, RepL X.K c1 H1 ws vs → ((fs ρ).bind fun ys => T.ok (ws ++ ys)).AllW (PQL X.K c1 H1 Q) (PX X.K c1 H1 fun cls dx H' => E cls dx σ H') d1 → liftA X.K Γ E fs σ H1 fun ys H2 => Q (vs ++ ys) H2 := fun rl h => by
    refine liftA_then (P := fun c H => PQL X.K c H Q) e1 h (fun st p => p.later st) fun w2 v2 H2 d2 st2 r2 e2 h2 => ?_
    exact h2 _ H2 (.refl _ H2) e2.st ((rl.step st2 e1.st e1.ok).append r2)
  cases r1 with
  | tup hq rl => exact ⟨_, _, rfl, .inl hq, fin rl h1⟩
  | lst n hq rl => exact ⟨_, _, rfl, .inr (SqL.of hq), fin rl h1⟩
  | _ => exact h1.elim
end
end PF
namespace PF
open PySem PySem.Spec PyProof.Rows L2
def T.chk {α : Type} (p : α → Bool) : T α → Nat → Bool
  | .ok a, _ => p a
  | .exc _ _, _ => false
  | .bad, _ => false
  | .ask _ _, 0 => false
  | .ask n k, e + 1 => (List.range n).all fun i => T.chk p (k i) e
  | _, _ => false
theorem T.chk_all {α : Type} {p : α → Bool} {E : Nat → Nat → List W → Prop} : ∀ {t : T α} {d : Nat}, t.chk p d = true → t.AllB (fun _ a => p a = true) E d
  | .ok a, d, h => h
  | .exc _ _, d, h => by cases h
  | .bad, d, h => by cases h
  | .ask n k, 0, h => by cases h
  | .get _ _, d, h => by cases h
  | .put _ _ _, d, h => by cases h
  | .new _ _ _, d, h => by cases h
  | .ask n k, d + 1, h => by
    have h : ((List.range n).all fun i => T.chk p (k i) d) = true := h
    refine ⟨d, rfl, fun i hi => T.chk_all ?_⟩
    exact List.all_eq_true.mp h i (List.mem_range.mpr hi)
def yes : Fl × En → Bool
  | (.rt (.bl true), _) => true
  | _ => false
theorem yes_is {x : Fl × En} (h : yes x = true) : ∃ ρ, x = (.rt (.bl true), ρ) := by
  obtain ⟨fl, ρ⟩ := x
  match fl, h with
  | .rt (.bl true), _ => exact ⟨ρ, rfl⟩
/-- the written end of a law -/
theorem law_tail {t : T (Fl × En)} {d k : Nat} (h : t.chk yes k = true) (hk : k ≤ d) : t.AllB (fun _ x => ∃ ρ, x = (.rt (.bl true), ρ)) (fun _ _ _ => False) d := by
  have h1 : t.AllB (fun _ a => yes a = true) (fun _ _ _ => False) k := T.chk_all h
  have h2 := T.AllB.more (P := fun _ a => yes a = true) (E := fun _ _ _ => False) h1 hk
  exact T.AllB.imp (fun _ x hx => yes_is hx) (fun _ _ _ z => z) h2
inductive All2 {α : Type} (R : α → W → Prop) : List α → List W → Prop
  | nil : All2 R [] []
  | cons {a : α} {w : W} {as : List α} {ws : List W} : R a w → All2 R as ws → All2 R (a :: as) (w :: ws)
theorem fSl_eq (fa : En → T W) (fl fh : En → T (Option Int)) (ρ : En) : fSl fa fl fh ρ = (fa ρ).bind fun x => (fl ρ).bind fun l => (fh ρ).bind fun u => slW x l u := rfl
theorem pNo_eq (ρ : En) : pNo ρ = .ok none := rfl
theorem pSome_eq (f : En → T W) (ρ : En) : pSome f ρ = (f ρ).bind fun x => (pInt x).bind fun i => .ok (some i) := rfl
theorem defF_eq (n np : Nat) (g : En → T (Fl × En)) (ws : List W) (h : (ws.length == np) = true) : defF n np g ws = (g (startE n ws)).bind endOf := by
  unfold defF
  rw [if_pos h]
def Shs (n k : Nat) (ws : List W) : Prop := ∃ ds, toDs ws = some ds ∧ PyData.showableAll ds = true ∧ PyData.hasDictAll ds = false ∧ PyData.depthAll ds ≤ k ∧ (∀ t ∈ PyData.shownAll ds, t.length ≤ n) ∧ (PyData.shownAll ds).length = ws.length ∧ PyData.canLayAll0 ds = true
theorem Sh.mono {n k n' k' : Nat} {w : W} (h : Sh n k w) (hn : n ≤ n') (hk : k ≤ k') : Sh n' k' w := by
  obtain ⟨d, h1, h2, h3, h4, h5, h6⟩ := h
  exact ⟨d, h1, h2, h3, by omega, by omega, h6⟩
theorem sh_int {i : Int} (h : i.natAbs < 2 ^ 400) : Sh 402 1 (.int i) := by
  have hl : i.natAbs.log2 < 400 := by
    by_cases h0 : i.natAbs = 0
    · rw [h0]; decide
    · exact (Nat.log2_lt h0).mpr h
  refine ⟨.int i, rfl, by simp [PyData.showable]; omega, by simp [PyData.hasDict], by simp [PyData.depth], ?_, rfl⟩
  have := int_text_length_le (a := i) (k := 400) (by decide) hl
  show (Str.ofString (toString i)).length ≤ 402
  rw [PySem.ofString_length]
  omega
theorem shs_of {n k : Nat} : ∀ {ws : List W}, (∀ w ∈ ws, Sh n k w) → Shs n k ws
  | [], _ => ⟨[], rfl, by simp [PyData.showableAll], by simp [PyData.hasDictAll], by simp [PyData.depthAll], fun t ht => (by simp [PyData.shownAll] at ht), by simp [PyData.shownAll], rfl⟩
  | w :: ws, h => by
    obtain ⟨d, a1, a2, a3, a4, a5, a6⟩ := h w (List.mem_cons_self ..)
    obtain ⟨ds, b1, b2, b3, b4, b5, b6, b7⟩ := shs_of fun u hu => h u (List.mem_cons_of_mem _ hu)
    refine ⟨d :: ds, by simp [toDs, a1, b1], by simp [PyData.showableAll, a2, b2], by simp [PyData.hasDictAll, a3, b3], by simp only [PyData.depthAll]; omega, fun t ht => ?_, by simp [PyData.shownAll, b6], by simp only [PyData.canLayAll0, a6, b7, Bool.and_self]⟩
    simp only [PyData.shownAll, List.mem_cons] at ht
    rcases ht with rfl | ht
    · exact a5
    · exact b5 t ht
theorem piled_le {n : Nat} : ∀ {ts : List Str}, (∀ t ∈ ts, t.length ≤ n) → piled ts ≤ (n + 2) * ts.length
  | [], _ => by simp [piled_nil]
  | t :: ts, h => by
    have h1 := h t (List.mem_cons_self ..)
    have h2 := piled_le (n := n) fun u hu => h u (List.mem_cons_of_mem _ hu)
    rw [piled_cons, List.length_cons, Nat.mul_add]
    omega
theorem listText_le (ts : List Str) : (listText ts).length ≤ piled ts + 2 := by
  unfold listText
  rw [strLen_append]
  have e1 : ((("]" : String) : Str)).length = 1 := rfl
  have e2 : ((("[" : String) : Str)).length = 1 := rfl
  cases ts with
  | nil =>
    show (("[" : String) : Str).length + _ ≤ _
    rw [e1, e2]
    omega
  | cons t ts =>
    have e : textFrom 0 "[" (t :: ts) = textFrom 1 ((("[" : String) : Str) ++ (("" : String) : Str) ++ t) ts := rfl
    have e3 : ((("" : String) : Str)).length = 0 := rfl
    rw [e, textFrom_length_pos _ _ _ (by decide), strLen_append, strLen_append, e1, e2, e3, piled_cons]
    omega
theorem tupleText_le (ts : List Str) : (tupleText ts).length ≤ piled ts + 3 := by
  unfold tupleText
  rw [strLen_append, strLen_append]
  have e1 : ((("(" : String) : Str)).length = 1 := rfl
  have e3 : (((if ts.length == 1 then ",)" else ")" : String) : Str)).length ≤ 2 := by split <;> decide
  cases ts with
  | nil =>
    have : (Str.join ", " []).length = 0 := rfl
    rw [e1, this]
    omega
  | cons t ts =>
    have := join_length_add (t :: ts) (by simp)
    rw [e1]
    omega
theorem sh_tup {n k : Nat} {ws : List W} (h : ∀ w ∈ ws, Sh n k w) : Sh ((n + 2) * ws.length + 4) (k + 1) (.tup ws) := by
  obtain ⟨ds, b1, b2, b3, b4, b5, b6, b7⟩ := shs_of h
  refine ⟨.tuple ds, by simp [W.toD, b1], by simp only [PyData.showable]; exact b2, by simp only [PyData.hasDict]; exact b3, by simp only [PyData.depth]; omega, ?_, by simp only [PyData.canLay0]; exact b7⟩
  simp only [PyData.shown]
  have h1 := tupleText_le (PyData.shownAll ds)
  have h2 := piled_le b5
  rw [b6] at h2
  omega
theorem sh_lst {n k : Nat} {ws : List W} (h : ∀ w ∈ ws, Sh n k w) : Sh ((n + 2) * ws.length + 4) (k + 1) (.lst ws) := by
  obtain ⟨ds, b1, b2, b3, b4, b5, b6, b7⟩ := shs_of h
  refine ⟨.list ds, by simp [W.toD, b1], by simp only [PyData.showable]; exact b2, by simp only [PyData.hasDict]; exact b3, by simp only [PyData.depth]; omega, ?_, by simp only [PyData.canLay0]; exact b7⟩
  simp only [PyData.shown]
  have h1 := listText_le (PyData.shownAll ds)
  have h2 := piled_le b5
  rw [b6] at h2
  omega
end PF
namespace PF
open PySem PySem.Spec PyProof.Rows L2
def numV : Value → Int
  | .int i _ => i
  | _ => 0
def kH (h : Heap) (v : Value) : List Int := match v with
  | .ref a => match h.get? a with
    | some o => match o.data with
      | .seq its _ => its.toList.map numV
      | _ => []
    | none => []
  | _ => []
theorem ints_num : ∀ {its : List Value} {ns : List Int}, IntsAre its ns → its.map numV = ns
  | _, _, .nil => rfl
  | _, _, .cons n t h => by
    rw [List.map_cons, ints_num h]
    rfl
theorem TupI.kH {h : Heap} {v : Value} {ns : List Int} (t : TupI h v ns) : kH h v = ns := by
  obtain ⟨a, o, its, n, rfl, ho, hc, hd, hi⟩ := t
  unfold PF.kH
  simp only [ho, hd]
  exact ints_num hi
inductive PT (K : PySem.W.Frag) (H : Hp) : List (List Int) → List V → Prop
  | nil : PT K H [] []
  | cons {ns : List Int} {t : Addr} {kss : List (List Int)} {xs : List V} : SqT K H t (ns.map V.int) → PT K H kss xs → PT K H (ns :: kss) (.ref t :: xs)
section
variable {X : Cx} {pins : List (Addr × Obj)} {σ : L2.St} {H : Hp} {s : Shared}
theorem ints_of : ∀ {ns : List Int} {us : List Value}, Vals (ns.map V.int) us → IntsAre us ns
  | [], _, .nil => .nil
  | n :: ns, _, .cons r t => by
    obtain ⟨u, rfl⟩ := r
    exact .cons n u (ints_of t)
theorem PT.tups (I : Inv X pins σ H s) : ∀ {kss : List (List Int)} {xs : List V} {us : List Value}, PT X.K H kss xs → Vals xs us → xs = us.map backV ∧ us.map (kH s.heap) = kss ∧ (∀ u ∈ us, ∃ t, u = .ref t ∧ TupI s.heap u (kH s.heap u) ∧ SqT X.K H t ((kH s.heap u).map V.int))
  | _, _, _, .nil, .nil => ⟨rfl, rfl, fun u h => by cases h⟩
  | _, _, _, .cons (ns := ns) (t := t) hs r, .cons (b := u) ru rr => by
    have ru : u = Value.ref t := ru
    subst ru
    obtain ⟨e1, e2, e3⟩ := PT.tups I r rr
    obtain ⟨its, rv, ⟨o, ho, hc, n, hd⟩, _⟩ := I.tuple hs
    have ti : TupI s.heap (.ref t) ns := ⟨t, o, its, n, rfl, ho, hc, hd, ints_of rv⟩
    refine ⟨by rw [e1]; rfl, by rw [List.map_cons, e2, ti.kH], fun v hv => ?_⟩
    rcases List.mem_cons.mp hv with rfl | hv
    · exact ⟨t, rfl, by rw [ti.kH]; exact ti, by rw [ti.kH]; exact hs⟩
    · exact e3 v hv
theorem PT.back {K : PySem.W.Frag} {h : Heap} : ∀ {out : List Value}, (∀ u ∈ out, ∃ t, u = Value.ref t ∧ SqT K H t ((kH h u).map V.int)) → PT K H (out.map (kH h)) (out.map backV)
  | [], _ => .nil
  | u :: out, hp => by
    obtain ⟨t, rfl, hs⟩ := hp u (List.mem_cons_self ..)
    exact .cons hs (PT.back fun v hv => hp v (List.mem_cons_of_mem _ hv))
end
theorem RepL.pt {K : PySem.W.Frag} {c : Cc} {H : Hp} : ∀ {kss : List (List Int)} {xs : List V}, RepL K c H (kss.map fun ns => W.tup (ns.map W.int)) xs → PT K H kss xs
  | [], _, .nil => .nil
  | ns :: kss, _, .cons h r => by
    cases h with
    | tup hs rl =>
      rw [rl.ints] at hs
      exact .cons hs (RepL.pt r)
theorem PT.rep {K : PySem.W.Frag} {c : Cc} {H : Hp} : ∀ {kss : List (List Int)} {xs : List V}, PT K H kss xs → RepL K c H (kss.map fun ns => W.tup (ns.map W.int)) xs
  | _, _, .nil => .nil
  | _, _, .cons h r => .cons (.tup h (RepL.ofInts _)) (PT.rep r)
end PF
namespace PF
open PySem PySem.Spec PyProof.Rows L2
theorem xclB_ok {K : PySem.W.Frag} {C : Addr} {nw : String} {tl : List Value} (h : xclB K C nw tl = true) : XCl K C nw tl := by
  unfold xclB at h
  simp only [Bool.and_eq_true, decide_eq_true_eq] at h
  obtain ⟨h1, h2, h3, h4, h5, h6, h7⟩ := h
  exact ⟨h1, h2, h3, h4, h5, h6, h7⟩
section
open Builtin Builtin.ObjectAttr PySem.W PySem.Calls
variable {prog : Program} {w : World} {A : Around} {E : Value → Shared → Prop} {R : Result → Shared → Prop} {hp : Heap} {g : Array GenState} {d : Drawn} {t : Nat} {os : OsState}
/-- the first field of an error is set -/
theorem x_osa {K : PySem.W.Frag} {B nw : String} {tl : List Value} {fld : Str} {tk : Tok} {v : Value} {x C : Addr} {fv : Array Value} (SF : StoreFacts B tl "object.__setattr__" "object")
    (KX : K.In hp) (hx : hp.get? x = some { cls := .ref C, data := .fields fv }) (T : XCl K C nw tl) (ha : PySem.W.findIn K (.ref C) fld = some none)
    (hq : ∀ h' tk' dx, (∀ b o, b ≠ x → hp.get? b = some o → h'.get? b = some o) → hp.objs.size ≤ dx → dx ≠ x → h'.get? x = some { cls := .ref C, dict := some dx, data := .fields fv } →
      h'.Ns1 dx (fun y => if y = fld then some v else none) → R (.ok (.ret .none)) ⟨h', g, d, tk', os⟩) :
    codeAny (model prog w) A (.call (.builtin "object.__setattr__") ⟨[.ref x, .str fld tk, v], []⟩) R ⟨hp, g, d, t, os⟩ := by
  have hI : PySem.W.InstAt hp x { cls := .ref C, data := .fields fv } C none := ⟨hx, rfl, rfl, trivial⟩
  have nx : x ≠ hp.objs.size := Nat.ne_of_lt (Heap.lt_size hx)
  have htk : PySem.W.takerIn K C fld = some none := by
    unfold PySem.W.takerIn
    rw [ha]
    rfl
  obtain ⟨cd, hcd, hdc⟩ := PySem.W.any_some T.dct
  have hLc : PySem.W.Looks (model prog w) hp (classData C) cd := PySem.W.looks_clsIn KX hcd
  refine osa_openX (r := none) SF KX hI T.ovr htk fun b => ?_
  show wpAny _ _ (storeInOwnDict (.ref x) (.ref C) (.str fld tk) fld v b) _ _ _
  obtain ⟨nm, bs, mro, ns, qn, hd, sn, sb, ab, col, del⟩ := cd
  have hdc : hd = true := hdc
  subst hdc
  unfold storeInOwnDict ownDictForStores
  repeat (first | with_reducible refine PySem.HandSPX.store_in_new ?_ ?_ | with_reducible refine wpAny_loadPart_at hx ?_ | with_reducible refine hLc.at ?_ | wp_step)
  · exact ⟨_, #[], _, (Heap.get?_update_ne _ _ _ _ nx.symm).trans (Heap.get?_push_at rfl rfl), rfl, fun e he => absurd he (by simp), fun _ => rfl⟩
  · intro h' tk' hn' hs
    have h1 : (hp.push { cls := .type "dict", data := .dict #[] }).get? x = some { cls := .ref C, data := .fields fv } := Heap.get?_push_of_some _ hx
    refine hq h' tk' hp.objs.size (fun b o hb ho => ?_) (Nat.le_refl _) nx.symm ((hs.2 x nx).trans (Heap.get?_update_self _ h1 rfl)) hn'
    exact (hs.2 b (Nat.ne_of_lt (Heap.lt_size ho))).trans ((Heap.get?_update_ne _ _ _ _ hb).trans (Heap.get?_push_of_some _ ho))
end
section
variable {X : Cx} {pins : List (Addr × Obj)} {σ : L2.St} {H : Hp} {s : Shared} {a C : Addr} {fld : Str} {y : V} {u : Value} {E : Value → Shared → Prop} {A : Around} {B nw ini : String} {tl : List Value}
theorem x_ost {Q : Unit → Shared → Prop} (SF : StoreFacts B tl "object.__setattr__" "object") (T : XCl X.K C nw tl) (I : Inv X pins σ H s) (e : H a = some (exo a C none)) (hno : PySem.W.findIn X.K (.ref C) fld = some none) (ry : RelV y u)
    (h : ∀ dx s', H dx = none → dx ≠ a → Inv X pins σ (upd (upd H dx (exd dx [(fld, y)])) a (exo a C (some dx))) s' → Q () s') : wpAny (model X.prog X.w) A (setAttr (.ref a) fld u) Q E s := by
  obtain ⟨t1, ho⟩ := exo_at I.hok e
  obtain ⟨hp, g, d, t, os⟩ := s
  refine PySem.W.set_plain I.kIn (ox := { cls := .ref C, dict := none, data := .fields #[.ref t1, .none, .none, .none, .bool false, .none] }) (od := none) ⟨ho, rfl, rfl, trivial⟩ T.sat ?_
  refine x_osa SF I.kIn ho T hno fun h' tk' dx k dn dne hx hn => ?_
  have ndx : H dx = none := I.hok.fresh dn
  have small : ∀ {b : Addr} {o : Obj}, hp.get? b = some o → b ≠ dx := fun {b o} q => Nat.ne_of_lt (Nat.lt_of_lt_of_le (Heap.lt_size q) dn)
  have nota : ∀ {b : Addr}, H b = none → b ≠ a := fun {b} n z => by
    rw [z, e] at n
    cases n
  have un : Un X.fs [] H (upd (upd H dx (exd dx [(fld, y)])) a (exo a C (some dx))) hp h' := {
    keep := fun b o q n _ _ => k b o (nota n) q
    slot := fun b o q n _ _ => ⟨o.slots, k b o (nota n) q⟩
    free := fun b o q n _ => by rw [upd_ne (nota n), upd_ne (small q)]; exact n
    there := fun b o q _ => by
      rcases Decidable.em (b = a) with z | z
      · exact ⟨_, by rw [z]; exact hx⟩
      · exact ⟨o, k b o z q⟩
    tups := fun b xs q => by rw [upd_ne (at_ne e q exo_tup), upd_ne (ne_of_none q ndx)]; exact q
    frzs := fun b o v q => by rw [upd_ne (at_ne e q exo_frz), upd_ne (ne_of_none q ndx)]; exact q
    tbls := fun b ps q => ⟨#[], by rw [upd_ne (at_ne e q exo_tbl), upd_ne (ne_of_none q ndx), q]; simp⟩ }
  refine h dx _ ndx dne (I.un (t' := tk') un fun b o q => ?_)
  rcases Decidable.em (b = a) with z | z
  · subst z
    rw [upd_same] at q
    cases q
    exact exo_ok hx
  · rw [upd_ne z] at q
    rcases Decidable.em (b = dx) with z2 | z2
    · subst z2
      rw [upd_same] at q
      cases q
      exact exd_ok hn (relO_put (fs := []) ry fun g => True.intro)
    · rw [upd_ne z2] at q
      refine (I.hok b o q).stay (fun c v hc y => k c v ?_ y) (fun c hc => ?_) fun c xs hc => ?_
      · rcases hc with hc | hc
        · rw [hc]
          exact z
        · exact at_ne e hc exo_own
      · rw [upd_ne (at_ne e hc exo_own), upd_ne (ne_of_none hc ndx)]
        exact hc
      · rw [upd_ne (at_ne e hc exo_tup), upd_ne (ne_of_none hc ndx)]
        exact hc
/-- Base.__init__(self, ..) -/
theorem x_init {us : List Value} {Q : Value → Shared → Prop} (FB : ExcBaseFacts B nw ini tl) (T : XCl X.K C nw tl) (I : Inv X pins σ H s) (e : H a = some (exo a C none)) (hl : us.length ≤ sizeLine) (h : ∀ s', Inv X pins σ H s' → Q .none s') :
    wpAny (model X.prog X.w) A (call (.builtin ini) (.ref a :: us)) Q E s := by
  obtain ⟨nm, N', qn, bs, bm, hdct, sn, sub, ab, col, dd, k0, k1, k2, k3, k5, hC, hT⟩ := PySem.W.excInit_of I.kIn T.ini
  obtain ⟨t1, ho⟩ := exo_at I.hok e
  obtain ⟨hp, g, d, t, os⟩ := s
  refine wpAny_call (PySem.HandSPX.init_base FB hT hC ho hl fun h' t2 k hx => h _ ?_)
  have J := I.write (t' := t) (x := a) (e := a) (o := exo a C none) (by rw [e]; exact True.intro) (.inl rfl) k ⟨_, hx⟩ (exo_ok hx)
  have same : upd H a (exo a C none) = H := by
    funext b
    rcases Decidable.em (b = a) with z | z
    · rw [z, upd_same, e]
    · rw [upd_ne z]
  rw [same] at J
  exact J
end
/-- the base's __init__, found by the name bn -/
def BaseIni (X : Cx) (bn : Str) (ini : String) : Prop := ∀ (p1 : Pos) (pl : Sem Bool) (A : Around) (E : Value → Shared → Prop) (pins : List (Addr × Obj)) (s : Shared) (σ : L2.St) (H : Hp) (Q : Value × List Value → Shared → Prop), Inv X pins σ H s →
  (∀ s', Inv X pins σ H s' → Q (.builtin ini, []) s') → wpAny (model X.prog X.w) X.A (eval (.Name bn p1) X.env) (fun ov s₁ => wpAny (model X.prog X.w) X.A (getMethod ov "__init__" pl) Q X.xe s₁) X.xe s
theorem base_own {X : Cx} {bn : Str} {ini : String} {C : Addr} {mc : Value} (hg : Gl X bn) (hm : X.mg bn = some (.ref C)) (hr : PySem.W.readsIn X.K C mc = true) (ga : PySem.W.specialIn X.K (.ref C) "__getattribute__" = some (some (.builtin "type.__getattribute__")))
    (hf : PySem.W.findCls X.K (.ref C) mc "__init__" = some (.val (.builtin ini))) (hh : PySem.W.handedIn (.builtin ini) = true) (hdb : (bn == ("__debug__" : Str)) = false := by decide) : BaseIni X bn ini := fun p1 pl A E pins s σ H Q I h =>
  ld_glob I hg hm (PySem.W.method_cls I.kIn ga (PySem.W.cls_value I.kIn hr hf hh (h _ (I.tok _)))) hdb
theorem base_blt {X : Cx} {B : String} {bn : Str} {ini : String} (hg : Gl X bn) (hm : X.mg bn = none) (hb : bootBuiltins bn = some (.type B)) (ht : typeOf (.type B) = pure (.type "type")) (hs : Manifest.isStub B = false)
    (hf : PySem.W.findCls X.K (.type B) (.type "type") "__init__" = some (.val (.builtin ini))) (hh : PySem.W.handedIn (.builtin ini) = true) (hn : bn ≠ "__name__" := by decide) (hdb : (bn == ("__debug__" : Str)) = false := by decide) : BaseIni X bn ini := fun p1 pl A E pins s σ H Q I h => by
  obtain ⟨m, fr⟩ := I.fr
  exact ld_blt I hg hm hb (PySem.W.method_type fr I.ok.mod.kin ht hs hf hh (h _ (I.tok _))) hn hdb
/-- reading: Base.__init__(self, ..) -/
def tBi (K : PySem.W.Frag) (nw : String) (tl : List Value) (ta : TA) : TE := fun σ H Q => ta σ H fun vs H1 => ∃ (a C : Addr) (ws : List V), vs = .ref a :: ws ∧ ws.length ≤ 1000 ∧ XCl K C nw tl ∧ H1 a = some (exo a C none) ∧ Q .non H1
/-- reading: self.f = e, the first one -/
def tXo (K : PySem.W.Frag) (nw : String) (tl : List Value) (f : Str) (to te : TE) : TS := fun D σ H => te σ H fun y H1 => to σ H1 fun x H2 => ∃ a C : Addr, x = .ref a ∧ XCl K C nw tl ∧ PySem.W.findIn K (.ref C) f = some none ∧
  H2 a = some (exo a C none) ∧ ∀ dx, H2 dx = none → dx ≠ a → D.nx σ (upd (upd H2 dx (exd dx [(f, y)])) a (exo a C (some dx)))
section
variable {X : Cx} {o e : Expr} {es : List Expr} {to te : TE} {ta : TA} {f bn : Str} {p p' p1 p2 pos : Pos} {B nw ini : String} {tl : List Value}
theorem pe_bi {pl : Sem Bool} (FB : ExcBaseFacts B nw ini tl) (hB : BaseIni X bn ini) (ha : PA X (e :: es) ta)
    (hc : eval (.Call (.Attribute (.Name bn p1) "__init__" p2) (e :: es) [] pos) X.env = (do
      let ov ← eval (.Name bn p1) X.env
      standAt p2.atName
      let (f, first) ← holding [ov] (getMethod ov "__init__" pl)
      callWith pos f first (backTo pos (starEach (e :: es) X.env)) (backToKw pos (keywordEach [] X.env))) := by rfl)
    (he : starEach (e :: es) X.env = (false, eval e X.env) :: starEach es X.env := by rfl) (hpl : (backTo pos (starEach es X.env)).any (·.1) = false := by rfl) :
    PE X (.Call (.Attribute (.Name bn p1) "__init__" p2) (e :: es) [] pos) (tBi X.K nw tl ta) := by
  constructor
  intro pins s σ H Q I h
  refine PySem.W.methodCall_KW (hB p1 pl X.A X.xe pins s σ H _ I fun s1 I1 => ?_) hc
  show wpAny _ _ (callWith pos (Value.builtin ini) [] (backTo pos (starEach (e :: es) X.env)) []) _ _ _
  refine PyProof.Rows.callWith_method1 (thn (ha.run pos pins _ σ H _ I1 h) fun us s2 z => ?_) he hpl
  obtain ⟨vs, H2, I2, r, a, C, ws, ev, hl, T, ea, q⟩ := z
  subst ev
  cases r with
  | @cons _ u0 _ ur ra rr =>
    obtain rfl : u0 = Value.ref a := ra
    refine x_init FB T I2 ea ?_ fun s' J => ⟨.non, H2, J, rfl, q⟩
    rw [← Paired.length rr, sizeLine_eq]
    omega
theorem ps_xo (SF : StoreFacts B tl "object.__setattr__" "object") (ho : PE X o to) (he : PE X e te) (hs : swapsWith e (some (.Attribute o f p')) pos.line X.env = pure false := by rfl) : PS X (.Assign [.Attribute o f p'] e pos) (tXo X.K nw tl f to te) := by
  constructor
  intro pins s σ H D I h
  refine plainObj_wpAny_Assign_Attribute (thn (he.run pins s σ H _ I h) fun v s1 z => ?_) hs
  obtain ⟨y, H1, I1, r1, q1⟩ := z
  refine thn (ho.run pins s1 σ H1 _ I1 q1) fun u s2 z => ?_
  obtain ⟨x, H2, I2, r2, a, C, ex, T, hno, ea, q⟩ := z
  subst ex
  obtain rfl : u = Value.ref a := r2
  exact x_ost SF T I2 ea hno r1 fun dx s' n ne J => ⟨σ, _, J, q dx n ne⟩
end
section
variable {X : Cx} {e : Expr} {es : List Expr} {ta : TA} {p pos : Pos} {B nw ini : String} {tl : List Value}
theorem pmk_x {CX : CXT} {x : Str} {C fI : Addr} {k : Nat} {fd : FuncData} {ps : List Str} {sp : Sp} (FB : ExcBaseFacts B nw ini tl) (T : XCl X.K C nw tl) (iC : PySem.W.findIn X.K (.ref C) "__init__" = some (some (.ref fI))) (tI : PySem.W.typeIn X.K (.ref fI) = some (.type "function"))
    (F1 : FnOk X.prog X.w X.K X.mg X.base CX k fI fd ps sp) (hr : Room (k + 1) X.A) (hb : Binds X.K fd ps []) (hx : Passes CX X (fun _ _ _ => False)) (hg : Gl X x) (hm : X.mg x = some (.ref C)) (ha : PA X (e :: es) ta)
    (hdb : (x == ("__debug__" : Str)) = false := by decide) (he : starEach (e :: es) X.env = (false, eval e X.env) :: starEach es X.env := by rfl) (hpl : (backTo pos (starEach es X.env)).any (·.1) = false := by rfl) :
    PMk X (.Call (.Name x p) (e :: es) [] pos) (tMkO C sp [] ta) := by
  intro pins s σ H Q I h
  refine wpAny_Call_Name_kw (ld_glob I hg hm (PySem.W.callWith_K (h₀ := X.base) I.ok.mod.kin T.kee (thn (ha.run pos pins s σ H _ I h) fun us s1 z => ?_) he hpl) hdb)
  obtain ⟨vs, H1, I1, r1, hz, q1⟩ := z
  refine ⟨I1.kIn, ?_⟩
  obtain ⟨nm, N', qn, bs, bm, hdct, sn, sub, ab, col, dd, k0, k1, k2, k3, k5, hC, hT⟩ := PySem.W.excInit_of I1.kIn T.ini
  show wpAny _ _ (call (.ref C) us) _ _ _
  obtain ⟨hp, g, dr, tk, os⟩ := s1
  have big : hp.objs.size ≤ hp.objs.size + 1 := Nat.le_succ _
  have hq := q1 (hp.objs.size + 1) (I1.hok.fresh big)
  rw [List.append_nil] at hq
  have kp : ∀ b o, hp.get? b = some o → ((hp.push (PySem.W.kdv_tup us)).push (PySem.HandSPX.excO C hp.objs.size)).get? b = some o := fun b o z => Heap.get?_push_of_some _ (Heap.get?_push_of_some _ z)
  have at_ : ((hp.push (PySem.W.kdv_tup us)).push (PySem.HandSPX.excO C hp.objs.size)).get? (hp.objs.size + 1) = some (PySem.HandSPX.excO C hp.objs.size) := by heap_get
  have I2 := I1.laid (t' := tk) (a := hp.objs.size + 1) (o := exo (hp.objs.size + 1) C none) kp big (exo_ok at_)
  have r2 : Vals (V.ref (hp.objs.size + 1) :: vs) (Value.ref (hp.objs.size + 1) :: us) := .cons rfl r1
  have hl : (Value.ref (hp.objs.size + 1) :: us ++ []).length = ps.length := by
    rw [List.append_nil, ← r2.length]
    exact F1.len _ _ _ _ hq
  have hus : us.length ≤ sizeLine := by
    rw [← Paired.length r1, sizeLine_eq]
    omega
  have b2 := hb _ (Value.ref (hp.objs.size + 1) :: us) I2.kIn hl
  rw [List.append_nil] at b2
  refine wpAny_call (PySem.HandSPX.call_own FB hT hC (PySem.W.looks_findIn I1.kIn iC) (fun self => PySem.W.bind_fn I1.kIn self tI) hus
    (codeAny_mono (F1.run _ X.stack _ _ ⟨Value.ref (hp.objs.size + 1) :: us, []⟩ _ _ _ (fun _ _ _ => False) (hr.make C us []) (I2.env0.make C us []) b2 r2 hq) fun r s' hq' => ?_))
  match r, hq' with
  | .error er, hq' => exact hx pins σ _ _ er s' I2 hq'
  | .ok .next, hq' => exact False.elim hq'
  | .ok .brk, hq' => exact False.elim hq'
  | .ok .cont, hq' => exact False.elim hq'
  | .ok (.ret u), hq' =>
    obtain ⟨v, H2, os2, bare2, un2, hok2, rv, ev, d, fs, ea, ed, hd1, q2⟩ := hq'
    subst ev
    obtain ⟨h2, g2, d2, t2, os'⟩ := s'
    exact ⟨rv, mk_end (raises_own T.sub T.typ) I1 big kp un2 hok2 os2 bare2 ea ed hd1 q2⟩
end
section
variable {P : Program} {w : World} {K : PySem.W.Frag} {mg : Str → Option Value} {base : Heap}
theorem ini_ok {fI : Addr} {fd : FuncData} {qual bn par f txt : Str} {params : Arguments} {sc : Scope} {j : Nat} {p1 p2 p3 p4 p5 p6 p7 p8 p9 p10 : Pos} {B nw ini : String} {tl : List Value}
    (F : FunD K "__init__" qual params [.Expr (.Call (.Attribute (.Name bn p1) "__init__" p2) [.Name "self" p3, .Constant (.str txt) j p4] [] p5) p6, .Assign [.Attribute (.Name "self" p7) f p8] (.Name par p9) p10] sc [] [] fI fd)
    (S : FnScope ["self", par] ["self", par] sc) (FB : ExcBaseFacts B nw ini tl) (SF : StoreFacts B tl "object.__setattr__" "object")
    (hs : Vis sc "self") (hp : Vis sc par) (hpd : (par == ("__debug__" : Str)) = false) (hpc : (par == ("__classdict__" : Str)) = false)
    (hB : ∀ (cdv : Value) (A : Around) (outer : List PySem.Env) (s : Shared) (H : Hp) (E : XK), BaseIni (cxOf (L2.CX P w) P w K mg base ["self", par] qual sc fI cdv A outer s H E) bn ini)
    (hc : ∀ env : PySem.Env, ∃ pl : Sem Bool, eval (.Call (.Attribute (.Name bn p1) "__init__" p2) [.Name "self" p3, .Constant (.str txt) j p4] [] p5) env = (do
      let ov ← eval (.Name bn p1) env
      standAt p2.atName
      let (f, first) ← holding [ov] (getMethod ov "__init__" pl)
      callWith p5 f first (backTo p5 (starEach [.Name "self" p3, .Constant (.str txt) j p4] env)) (backToKw p5 (keywordEach [] env)))) (hw : ∀ env : PySem.Env, swapsWith (.Call (.Attribute (.Name bn p1) "__init__" p2) [.Name "self" p3, .Constant (.str txt) j p4] [] p5) none p6.line env = pure false)
    (hv : ∀ env : PySem.Env, swapsWith (.Name par p9) (some (.Attribute (.Name "self" p7) f p8)) p10.line env = pure false) :
    FnOk P w K mg base (L2.CX P w) 1 fI fd ["self", par] (spI K nw tl f) := by
  refine F.ok (k := 0) S (fun vs H Q E h => ?_) (fun cdv A outer s H vs Q E hr h => ?_)
  · obtain ⟨a, C, v, rfl, _⟩ := h
    rfl
  · obtain ⟨pl, hc⟩ := hc (cxOf (L2.CX P w) P w K mg base ["self", par] qual sc fI cdv A outer s H E).env
    refine ⟨_, pss_cons (ps_expr (pe_bi (pl := pl) FB (hB cdv A outer s H E) (pa_cons (pe_var (i := 0) rfl hs) (pa_cons pe_str pa_nil)) hc) (hw _)) (pss_one (ps_xo (nw := nw) SF (pe_var (i := 0) rfl hs) (pe_var (i := 1) rfl hp hpd hpc) (hv _))), ?_⟩
    obtain ⟨a, C, v, rfl, ea, T, hno, q⟩ := h
    exact ⟨.ref a, rfl, a, C, [.str txt], rfl, (by show 1 ≤ 1000; decide), T, ea, v, rfl, .ref a, rfl, a, C, rfl, T, hno, ea, fun dx n ne => q dx n ne⟩
end
def sRaise (n : Nat) (fs : En → T (List W)) : En → T (Fl × En) := fun ρ => (fs ρ).bind fun ws => match ws with
  | [w] => .exc n [w]
  | _ => .bad
theorem upd_back {H : Hp} {a d : Addr} {o o1 o2 : HO} {z : HO} (na : H a = none) (nd : d ≠ a) : upd (del (upd (upd (upd H a o) d o1) a o2) a) d z = upd H d z := by
  funext b
  rcases Decidable.em (b = d) with q | q
  · rw [q, upd_same, upd_same]
  · rw [upd_ne q, upd_ne q]
    rcases Decidable.em (b = a) with q2 | q2
    · rw [q2, del_same, na]
    · rw [del_ne q2, upd_ne q2, upd_ne q, upd_ne q2]
theorem tr_raise {X : Cx} {E : XK} {n : Nat} {nw : String} {tl : List Value} {e : Expr} {es : List Expr} {fs : En → T (List W)} {p pos pos' : Pos} (h : XIs X.prog X.w X.K X.mg X.base n nw tl) (hc : X.calm = true) (tk : Takes X (wOf E)) (hr : Room 2 X.A) (hg : Gl X (xName n)) (ha : TrA Γ X (wOf E) (e :: es) fs)
    (hdb : (xName n == ("__debug__" : Str)) = false := by decide) (he : starEach (e :: es) X.env = (false, eval e X.env) :: starEach es X.env := by rfl) (hpl : (backTo pos (starEach es X.env)).any (·.1) = false := by rfl) :
    TrS Γ X E (.Raise (some (.Call (.Name (xName n) p) (e :: es) [] pos)) none pos') (sRaise n fs) := by
  obtain ⟨B, ini, fI, fd, ps, f, hf, FB, iC, tI, F1, hb⟩ := h.ex
  have hx : Passes (L2.CX X.prog X.w) X (fun _ _ _ => False) := fun pins σ H s e s' I hh => by
    obtain ⟨_, _, _, _, _, _, _, _, _, _, _, _, z⟩ := hh
    exact z.elim
  refine ps_imp (ps_raise hc tk (pmk_x FB h.cl iC tI F1 hr hb hx hg h.gl ha hdb he hpl)) fun D σ H q => ?_
  obtain ⟨_, d, oa, ρ, e0, q⟩ := q
  refine liftA_thenS (P := fun c H => PSq X.K Γ c H D) e0 q (fun st p => p.later (.of st e0.wd)) fun ws vs H1 d1 _ r1 e1 h1 => ?_
  cases r1 with
  | nil => exact h1.elim
  | cons r rr =>
    rename_i w0 v0 ws0 vs0
    cases rr with
    | cons _ _ => exact h1.elim
    | nil =>
      refine ⟨(by show 1 ≤ 1000; decide), fun a na => ?_⟩
      refine ⟨a, He.ga X.K (xName n), v0, rfl, upd_same, h.cl, h.no f (by rw [hf]; exact List.mem_cons_self ..), fun dx nd ne => ⟨rfl, dx, _, upd_same, by rw [upd_ne ne, upd_same], ?_, ?_⟩⟩
      · rw [upd_ne ne] at nd
        exact nd
      · rw [upd_ne ne] at nd
        rw [upd_back na ne]
        refine h1 _ _ _ _ (.of (.new nd) e1.wd) (e1.st.new nd) ⟨rfl, dx, [v0], rfl, ?_, by rw [hf]; rfl, .cons (r.step (.new nd) e1.st e1.ok) .nil⟩
        rw [upd_same, hf]
        rfl
end PF
namespace PF
open PySem PySem.Spec PyProof.Rows L2
def T.catch {α β : Type} (ok : α → T β) (hd : Nat → List W → T β) : T α → T β
  | .ok a => ok a
  | .exc n fs => hd n fs
  | .bad => .bad
  | .ask n k => .ask n fun i => (k i).catch ok hd
  | .get i k => .get i fun c fs => (k c fs).catch ok hd
  | .put i fs k => .put i fs (k.catch ok hd)
  | .new c fs k => .new c fs fun i => (k i).catch ok hd
theorem T.allW_catch {α β : Type} {P : Dw → β → Prop} {E : Dw → Nat → List W → Prop} {ok : α → T β} {hd : Nat → List W → T β} {t : T α} {d : Dw} : (t.catch ok hd).AllW P E d ↔ t.AllW (fun d a => (ok a).AllW P E d) (fun d n fs => (hd n fs).AllW P E d) d := by
  induction t generalizing d with
  | ok a => exact Iff.rfl
  | exc n fs => exact Iff.rfl
  | bad => exact Iff.rfl
  | ask n k ih =>
    constructor
    · rintro ⟨e, he, x⟩
      exact ⟨e, he, fun i hi => (ih i).mp (x i hi)⟩
    · rintro ⟨e, he, x⟩
      exact ⟨e, he, fun i hi => (ih i).mpr (x i hi)⟩
  | get i k ih =>
    constructor
    · rintro ⟨c, fs, e, x⟩
      exact ⟨c, fs, e, (ih c fs).mp x⟩
    · rintro ⟨c, fs, e, x⟩
      exact ⟨c, fs, e, (ih c fs).mpr x⟩
  | put i fs k ih =>
    constructor
    · rintro ⟨c, gs, e, x⟩
      exact ⟨c, gs, e, ih.mp x⟩
    · rintro ⟨c, gs, e, x⟩
      exact ⟨c, gs, e, ih.mpr x⟩
  | new c fs k ih => exact ih _
end PF
namespace PF
open PySem PySem.Spec PyProof.Rows L2
theorem allN {p : Nat → Prop} : ∀ n ∈ ([] : List Nat), p n := fun _ h => by cases h
theorem allC {p : Nat → Prop} {a : Nat} {l : List Nat} (h : p a) (r : ∀ n ∈ l, p n) : ∀ n ∈ a :: l, p n := fun n hn => by
  rcases List.mem_cons.mp hn with rfl | hn
  · exact h
  · exact r n hn
theorem iniB_ok {o : Option PySem.W.CFound} {ini : String} (h : iniB o ini = true) : o = some (.val (.builtin ini)) := by
  unfold iniB at h
  split at h
  · rw [of_decide_eq_true h]
  · cases h
theorem ownB_base {X : Cx} {bn : Str} {ini : String} {C : Addr} (hg : Gl X bn) (hm : X.mg bn = some (.ref C)) (h : ownB X.K C ini = true) (hh : PySem.W.handedIn (.builtin ini) = true) (hdb : (bn == ("__debug__" : Str)) = false) : BaseIni X bn ini := by
  unfold ownB at h
  simp only [Bool.and_eq_true, decide_eq_true_eq] at h
  exact base_own hg hm h.1 h.2.1 (iniB_ok h.2.2) hh hdb
theorem xB_ok {K : PySem.W.Frag} {x f : Str} {nw : String} {tl : List Value} (h : xB K x f nw tl = true) : XB K x f nw tl := by
  unfold xB at h
  simp only [Bool.and_eq_true, decide_eq_true_eq] at h
  exact ⟨xclB_ok h.1, h.2.1, h.2.2.1, h.2.2.2.1, xfB_ok h.2.2.2.2⟩
theorem handed_VE : PySem.W.handedIn (.builtin "ValueError.__init__") = true := by decide +kernel
theorem handed_OE : PySem.W.handedIn (.builtin "OverflowError.__init__") = true := by decide +kernel
theorem typ_OE : typeOf (.type "OverflowError") = pure (.type "type") := by kernel_rfl
end PF
namespace PF
open PySem PySem.Spec PyProof.Rows L2
section
variable {M : Model} {A : Around} {E : Value → Shared → Prop} {s : Shared} {qual : Str} {params : Arguments} {body : Expr} {scope : Scope} {env : PySem.Env} {c P : Addr} {ps : Array Value} {pos : Pos} {ln : Nat} {mg : Str → Option Value} {clos : List (Str × Addr)} {dV : Value} {Q : Value → Shared → Prop}
theorem lam_tail (hcl : closureFor scope env = pure clos) (hge0 : env.globals = mainGlobals) (hg : s.heap.Ns mainGlobals mg) (hcode : env.code = .ref c) (C : PySem.W.CodeHd s.heap c P) (hP : s.heap.get? P = some (PySem.W.tabObj ps)) (ht : TriplesOk ps.toList)
    (hgP : mainGlobals ≠ P) (hb : s.heap.BuiltinsAt mg P)
    (new : codeAmong pos ps.toList = none → ∀ (c' : Addr) (ctv : Value) (h' : Heap) (tk : Tok), Heap.ExtBut P s.heap h' → s.heap.objs.size ≤ c' → c' < h'.objs.size → h'.CodeRec (.ref c') qual → h'.get? P = some (PySem.W.tabObj (ps ++ #[rawInt pos.line, rawInt pos.col, .ref c'])) →
      Q (.ref h'.objs.size) { s with heap := h'.push (lob qual params body scope clos dV ((mg "__name__").getD .none) c' ctv), toks := tk })
    (old : ∀ cv, codeAmong pos ps.toList = some cv → ∀ (ctv : Value) (h' : Heap) (tk : Tok), (∀ b o, s.heap.get? b = some o → h'.get? b = some o) → s.heap.objs.size ≤ h'.objs.size →
      Q (.ref h'.objs.size) { s with heap := h'.push { cls := .type "function", data := .func (lfd qual params body scope clos dV ((mg "__name__").getD .none) cv ctv) }, toks := tk }) :
    wpAny M A (makeTail "<lambda>" qual params (.expr body) scope env dV .none none pos ln) Q E s := by
  obtain ⟨bm, ob, hbm, hne0, _, hneP, hbo, hcls, hdict, hdata⟩ := hb
  unfold makeTail
  rw [hcl, hge0]
  refine wpAny_bind (wpAny_pure ?_)
  have mid : ∀ (ctv : Value) (h0 : Heap), (∀ b o, s.heap.get? b = some o → h0.get? b = some o) → s.heap.objs.size ≤ h0.objs.size → h0.Ns mainGlobals mg →
      wpAny M A (functionCode env pos ln "<lambda>" qual params scope (.expr body) >>= fun cd => builtinsFor mainGlobals env.builtins >>= fun bs => nsGet mainGlobals "__name__" >>= fun nm => (pure Value.none : Sem Value) >>= fun dc =>
        newObj (.type "function") (.func { name := "<lambda>", qualname := qual, params := params, body := .expr body, scope := scope, globals := mainGlobals, closure := clos, closureTuple := ctv, code := cd, builtins := bs, defaults := dV, kwdefaults := .none, annotations := none, pyModule := nm.getD .none, doc := dc })) Q E { s with heap := h0 } := fun ctv h0 kp sz hg0 => by
    cases hf : codeAmong pos ps.toList with
    | none =>
      refine wpAny_bind (wpAny_functionCodeX (s := { s with heap := h0 }) hcode ((C.keeps kp).code (kp _ _ hP) ht) ((C.keeps kp).tab (kp _ _ hP)) hf fun c' h' tk hx hge hlt _ hrec htb _ => ?_)
      have hg' := hg0.extBut hx hgP
      have hx' : Heap.ExtBut P s.heap h' := fun b o hb' e => hx b o hb' (kp b o e)
      refine wpAny_bind (wpAny_builtinsFor hg' hbm hne0 (hx' _ _ hneP hbo) hcls hdict hdata ?_)
      refine wpAny_bind (wpAny_nsGet hg' (wpAny_bind (wpAny_pure (wpAny_newObj_type ?_ (by size_fits)))))
      exact new hf c' ctv h' tk hx' (Nat.le_trans sz hge) hlt hrec htb.2
    | some cv =>
      refine wpAny_bind (wpAny_functionCode_hit (s := { s with heap := h0 }) hcode ((C.keeps kp).code (kp _ _ hP) ht) hf ?_)
      refine wpAny_bind (wpAny_builtinsFor hg0 hbm hne0 (kp _ _ hbo) hcls hdict hdata ?_)
      refine wpAny_bind (wpAny_nsGet hg0 (wpAny_bind (wpAny_pure (wpAny_newObj_type ?_ (by size_fits)))))
      exact old cv hf ctv h0 s.toks kp sz
  cases clos with
  | nil =>
    simp only [List.isEmpty_nil, if_true]
    exact wpAny_bind (wpAny_pure (mid .none s.heap (fun _ _ e => e) (Nat.le_refl _) hg))
  | cons q r =>
    simp only [List.isEmpty_cons, Bool.false_eq_true, if_false]
    refine wpAny_bind (wpAny_newTextTuple ?_)
    exact mid _ _ (fun b o e => Heap.get?_push_of_some _ e) (by rw [Heap.size_push]; omega) (hg.push _)
end
section
variable {M : Model} {A : Around} {E : Value → Shared → Prop} {s : Shared} {qual : Str} {params : Arguments} {body : Expr} {scope : Scope} {cl : List (Str × Addr)} {one : Option Str} {dV pm cdv ct : Value} {H : Hp} {fr : List Addr}
theorem lam_bind {Q : List (Str × Value) → Shared → Prop} (po : ParOk one params) (d : DOk one dV H fr s.heap) (h : ∀ bs, (∀ y ∈ bs, one = some y.1) → Q bs s) : wpAny M A (bindArgs (lfd qual params body scope cl dV pm cdv ct) ⟨[], []⟩) Q E s := by
  cases po with
  | zero =>
    have d : dV = .none := d
    subst d
    have e : bindArgs (lfd qual ⟨[], [], none, [], [], none, []⟩ body scope cl .none pm cdv ct) ⟨[], []⟩ = pure [] := rfl
    rw [e]
    exact wpAny_pure (h [] fun y hy => (by cases hy))
  | one x p1 p2 i j =>
    obtain ⟨D, u, rfl, hD, _⟩ := d
    have key : ∃ k, bindArgs (lfd qual ⟨[], [⟨x, none, p1⟩], none, [], [], none, [.Constant (.int i) j p2]⟩ body scope cl (.ref D) pm cdv ct) ⟨[], []⟩ = seqItems? (.ref D) >>= k ∧ k (some #[u]) = pure [(x, u)] := by
      refine ⟨_, rfl, ?_⟩
      simp [List.lookup]
    obtain ⟨k, e1, e2⟩ := key
    rw [e1]
    refine wpAny_bind ?_
    show wpAny M A (load D >>= fun o => match o.data with | .seq xs _ => pure (some xs) | _ => pure none) _ _ _
    refine wpAny_bind (wpAny_load hD ?_)
    refine wpAny_pure ?_
    rw [e2]
    exact wpAny_pure (h _ fun y hy => by
      rcases List.mem_cons.mp hy with rfl | hy
      · rfl
      · cases hy)
end
section
variable {X : Cx} {pins : List (Addr × Obj)} {σ : L2.St} {H : Hp} {s : Shared} {T : List (Addr × Str)} {c P : Addr} {params : Arguments} {body : Expr} {scope : Scope} {pos : Pos} {one : Option Str} {E : Value → Shared → Prop} {Q : Value → Shared → Prop}
theorem lam_make1 {dV : Value} {ln : Nat} (I : Inv X pins σ H s) (TB : LamX.TabB X.base X.mg c P) (hcode : X.env.code = .ref c) (hm : (P, X.env.qual ++ "<lambda>") ∈ T) (hu : ∀ p ∈ T, p.1 = P → p.2 = X.env.qual ++ "<lambda>") (hT : LamX.Tabs T H) (hfree : ∀ y ∈ scope.names, y.2 = .free → ∃ c, X.env.cells.lookup y.1 = some c)
    (h : ∀ (f c' : Addr) (pm ctv : Value) (H1 : Hp) (s' : Shared), s.heap.objs.size ≤ f → Inv X pins σ H1 s' → Grow H H1 → LamX.Tabs T H1 → (∀ b o, s.heap.get? b = some o → b ≠ P → s'.heap.get? b = some o) → (∀ b, b < s.heap.objs.size → H b = none → H1 b = none) → s'.heap.get? f = some (lob (X.env.qual ++ "<lambda>") params body scope (cloFrom X.env.cells scope.names []) dV pm c' ctv) → H1 f = none → f ∉ frs X.stack → H1 c' = some (LamX.CodeO c' (X.env.qual ++ "<lambda>")) → Q (.ref f) s') :
    wpAny (model X.prog X.w) X.A (makeTail "<lambda>" (X.env.qual ++ "<lambda>") params (.expr body) scope X.env dV .none none pos ln) Q E s := by
  obtain ⟨ps, hP, ht, ha⟩ := hT _ hm
  have bP : s.heap.BuiltinsAt X.mg P := TB.bm.keeps I.bk
  have hP' : s.heap.get? P = some (PySem.W.tabObj ps) := I.hok P _ hP
  have nofr : ∀ f, s.heap.objs.size ≤ f → f ∉ frs X.stack := fun f hf z => by
    rcases List.mem_cons.mp (I.stkSub _ z) with e | e
    · have h1 := I.lt
      rw [← e] at h1
      exact Nat.lt_irrefl _ (Nat.lt_of_lt_of_le h1 hf)
    · exact I.nofs hf e
  refine lam_tail (mg := X.mg) (c := c) (P := P) (ps := ps) (closure_ok hfree) I.ok.glob (I.mod.glob.keeps I.bk) hcode (TB.code.keeps I.bk) hP' ht TB.gP bP (fun hn c' ctv h' tk hx hge hlt hrec htb => ?_) (fun cv hc ctv h' tk hx hsz => ?_)
  · obtain ⟨c2, oc, vs, t, e2, hoc, hd, hv⟩ := hrec
    cases e2
    have hsz : s.heap.objs.size ≤ h'.objs.size := Nat.le_trans hge (Nat.le_of_lt hlt)
    have nC : H c' = none := I.hok.fresh hge
    have kp : ∀ b o, s.heap.get? b = some o → b ≠ P → (h'.push (lob (X.env.qual ++ "<lambda>") params body scope (cloFrom X.env.cells scope.names []) dV ((X.mg "__name__").getD .none) c' ctv)).get? b = some o := fun b o e hb => Heap.get?_push_of_some _ (hx b o hb e)
    have I1 := LamX.inv_table (t' := tk) (more := #[rawInt pos.line, rawInt pos.col, .ref c']) (q := X.env.qual ++ "<lambda>") (h' := h'.push (lob (X.env.qual ++ "<lambda>") params body scope (cloFrom X.env.cells scope.names []) dV ((X.mg "__name__").getD .none) c' ctv)) I hP
      (fun b o hb e => kp b o e hb) (Heap.get?_push_of_some _ htb) hge ⟨oc, vs, t, Heap.get?_push_of_some _ hoc, hd, hv⟩
    have nPc : P ≠ c' := ne_of_none hP nC
    have oth : ∀ b, b ≠ P → b ≠ c' → upd (upd H P (.tbl (ps ++ #[rawInt pos.line, rawInt pos.col, .ref c']))) c' (LamX.CodeO c' (X.env.qual ++ "<lambda>")) b = H b := fun b h1 h2 => by rw [upd_ne h2, upd_ne h1]
    have gr : Grow H (upd (upd H P (.tbl (ps ++ #[rawInt pos.line, rawInt pos.col, .ref c']))) c' (LamX.CodeO c' (X.env.qual ++ "<lambda>"))) := ⟨fun b o e n => by
        rw [oth b (fun z => n ps (Option.some.inj (e.symm.trans (by rw [z]; exact hP)))) (ne_of_none e nC)]
        exact e, fun b qs e => by
        rcases Decidable.em (b = P) with z | z
        · subst z
          rw [hP] at e
          cases e
          exact ⟨_, by rw [upd_ne nPc, upd_same]⟩
        · exact ⟨#[], by rw [oth b z (ne_of_none e nC), e]; simp⟩⟩
    have eL : (ps ++ #[rawInt pos.line, rawInt pos.col, Value.ref c']).toList = ps.toList ++ [rawInt pos.line, rawInt pos.col, .ref c'] := by simp
    refine h h'.objs.size c' ((X.mg "__name__").getD .none) ctv _ _ hsz I1 gr (fun p hp => ?_) kp (fun b hb n => ?_) (Heap.get?_push_size _ rfl) ?_ (nofr _ hsz) upd_same
    · obtain ⟨pa, pq⟩ := p
      rcases Decidable.em (pa = P) with z | z
      · subst z
        have hq : pq = X.env.qual ++ "<lambda>" := hu _ hp rfl
        subst hq
        refine ⟨_, by rw [upd_ne nPc, upd_same], by rw [eL]; exact PySem.TriplesOk_snoc _ _ _ _ ht, fun p' cv hcv => ?_⟩
        rw [eL] at hcv
        rcases LamX.among_app _ ht hcv with z | z
        · obtain ⟨c0, e1, e2⟩ := ha p' cv z
          exact ⟨c0, e1, gr.keep _ _ e2 LamX.codeO_ne⟩
        · exact ⟨c', z, upd_same⟩
      · obtain ⟨qs, a1, a2, a3⟩ := hT (pa, pq) hp
        refine ⟨qs, by rw [oth pa z (ne_of_none a1 nC)]; exact a1, a2, fun p' cv hcv => ?_⟩
        obtain ⟨c0, e1, e2⟩ := a3 p' cv hcv
        exact ⟨c0, e1, gr.keep _ _ e2 LamX.codeO_ne⟩
    · rw [oth b (fun z => by rw [z, hP] at n; cases n) (Nat.ne_of_lt (Nat.lt_of_lt_of_le hb hge))]
      exact n
    · rw [oth _ (Nat.ne_of_gt (Nat.lt_of_lt_of_le (Heap.lt_size hP') hsz)) (Nat.ne_of_gt hlt)]
      exact I.hok.fresh hsz
  · obtain ⟨c', e, hco⟩ := ha pos cv hc
    subst e
    have kp : ∀ b o, s.heap.get? b = some o → (h'.push (lob (X.env.qual ++ "<lambda>") params body scope (cloFrom X.env.cells scope.names []) dV ((X.mg "__name__").getD .none) c' ctv)).get? b = some o := fun b o e => Heap.get?_push_of_some _ (hx b o e)
    exact h h'.objs.size c' ((X.mg "__name__").getD .none) ctv H _ hsz (I.kept (t' := tk) kp) (.refl H) hT (fun b o e _ => kp b o e) (fun b _ n => n) (Heap.get?_push_size _ rfl) (I.hok.fresh hsz) (nofr _ hsz) hco
theorem lam_make (I : Inv X pins σ H s) (TB : LamX.TabB X.base X.mg c P) (hcode : X.env.code = .ref c) (hm : (P, X.env.qual ++ "<lambda>") ∈ T) (hu : ∀ p ∈ T, p.1 = P → p.2 = X.env.qual ++ "<lambda>") (hT : LamX.Tabs T H) (po : ParOk one params) (hfree : ∀ y ∈ scope.names, y.2 = .free → ∃ c, X.env.cells.lookup y.1 = some c)
    (h : ∀ (f c' : Addr) (dV pm ctv : Value) (H1 : Hp) (s' : Shared), s.heap.objs.size ≤ f → (∀ D, dV = .ref D → s.heap.objs.size ≤ D ∧ D ≠ f) → Inv X pins σ H1 s' → Grow H H1 → LamX.Tabs T H1 → DOk one dV H1 (frs X.stack) s'.heap → s'.heap.get? f = some (lob (X.env.qual ++ "<lambda>") params body scope (cloFrom X.env.cells scope.names []) dV pm c' ctv) → H1 f = none → f ∉ frs X.stack → H1 c' = some (LamX.CodeO c' (X.env.qual ++ "<lambda>")) → Q (.ref f) s') :
    wpAny (model X.prog X.w) X.A (eval (.Lambda params body scope pos) X.env) Q E s := by
  cases po with
  | zero =>
    refine PySem.W.kla_eval rfl ?_
    rw [makeFunction_eq]
    simp only [List.zip_nil_right, List.filterMap_nil, List.isEmpty_nil, if_true, pure_bind]
    exact lam_make1 I TB hcode hm hu hT hfree fun f c' pm ctv H1 s' sz I1 g t _ _ hf n1 n2 hc => h f c' .none pm ctv H1 s' sz (fun D e => by cases e) I1 g t rfl hf n1 n2 hc
  | one x p1 p2 i j =>
    rw [arm_eval_Lambda]
    show wpAny _ _ (evalAll [eval (.Constant (.int i) j p2) X.env] >>= fun dv => holding dv (evalAllOpt []) >>= fun kdv => makeFunction "<lambda>" (X.env.qual ++ "<lambda>") _ (.expr body) scope X.env dv kdv [] pos pos.line) _ _ _
    refine wpAny_bind (wpAny_bind (wpAny_Constant_int (wpAny_bind (wpAny_holding (wpAny_pure (wpAny_pure (wpAny_bind (wpAny_holding (wpAny_pure ?_)))))))))
    rw [makeFunction_eq]
    simp only [List.zip_nil_right, List.filterMap_nil, List.isEmpty_nil, List.isEmpty_cons, Bool.false_eq_true, if_false, if_true, pure_bind]
    refine wpAny_bind (wpAny_newTextTuple ?_)
    have I0 := I.kept (t' := s.toks + 1) (h' := s.heap.push { cls := .type "tuple", data := .seq #[Value.int i s.toks] }) fun b o e => Heap.get?_push_of_some _ e
    have hD : (s.heap.push { cls := .type "tuple", data := .seq #[Value.int i s.toks] }).get? s.heap.objs.size = some { cls := .type "tuple", data := .seq #[Value.int i s.toks] } := Heap.get?_push_size _ rfl
    have nD : H s.heap.objs.size = none := I.hok.fresh (Nat.le_refl _)
    have fD : s.heap.objs.size ∉ frs X.stack := fun z => by
      rcases List.mem_cons.mp (I.stkSub _ z) with e | e
      · have h1 := I.lt
        rw [← e] at h1
        exact Nat.lt_irrefl _ h1
      · exact I.nofs (Nat.le_refl _) e
    refine lam_make1 (dV := .ref s.heap.objs.size) I0 TB hcode hm hu hT hfree fun f c' pm ctv H1 s' sz I1 g t kp kn hf n1 n2 hc => h f c' _ pm ctv H1 s' (Nat.le_trans (Nat.le_succ _) (by rw [Heap.size_push] at sz; exact sz)) (fun D e => by cases e; rw [Heap.size_push] at sz; exact ⟨Nat.le_refl _, Nat.ne_of_lt sz⟩) I1 g t ⟨_, _, rfl, kp _ _ hD (fun z => ?_), kn _ (Heap.lt_size hD) nD, fD⟩ hf n1 n2 hc
    obtain ⟨ps, hP, _⟩ := hT _ hm
    rw [← z, nD] at hP
    cases hP
end
end PF
namespace PF
open PySem PySem.Spec PyProof.Rows L2
/-- what is known of the code of a def that makes lambdas -/
def MkT (K : PySem.W.Frag) (mg : Str → Option Value) (base : Heap) (code : Value) (q : Str) : Prop := ∃ c P, code = .ref c ∧ LamX.TabB base mg c P ∧ (P, q) ∈ tabL K ∧ ∀ p ∈ tabL K, p.1 = P → p.2 = q
end PF
namespace PF
open PySem PySem.Spec PyProof.Rows L2 He
theorem tabC_map (K : PySem.W.Frag) : tabL K = (tabC K).map fun x => x.2 := by
  unfold tabL tabC
  rw [List.map_filterMap]
  congr 1
  funext x
  cases x.2.data with
  | func fd =>
    simp only
    cases fd.code <;> rfl
  | _ => rfl
theorem SaysL.fact {fa : List Fa} {fn : List DefD} {ex : PySem.W.Frag → Bool} {h : Heap} {K : PySem.W.Frag} (c : SaysL fa fn ex h K) (i : Nat) {f : Fa} (e : fa[i]? = some f := by rfl) : f.ok K = true := c.d.fact i e
/-- a def that makes lambdas -/
theorem mk_of {K : PySem.W.Frag} {mg : Str → Option Value} {base : Heap} {x q : Str} {params : Arguments} {body : List Stmt} {sc : Scope} {dvs : List V} {kws : List (Str × V)} {f : Addr} {fd : FuncData} (F : FunD K x q params body sc dvs kws f fd)
    (tb : ∀ z ∈ tabC K, LamX.TabB base mg z.1 z.2.1) (ap : ∀ p ∈ tabL K, ∀ q ∈ tabL K, q.1 = p.1 → q.2 = p.2) : MkT K mg base fd.code (q ++ ".<locals>." ++ "<lambda>") := by
  obtain ⟨oc, od, dV, kV, dc, pm, an, cdv, ct, osl, rfl, lk, hcd, _, _⟩ := F.ex
  obtain ⟨c, rfl⟩ := codeIn_ref hcd
  have hm : (c, He.tabOf K c, q ++ ".<locals>." ++ "<lambda>") ∈ tabC K := List.mem_filterMap.mpr ⟨_, He.lookup_mem lk, rfl⟩
  have hl : (He.tabOf K c, q ++ ".<locals>." ++ "<lambda>") ∈ tabL K := by
    rw [tabC_map]
    exact List.mem_map.mpr ⟨_, hm, rfl⟩
  exact ⟨c, He.tabOf K c, rfl, tb _ hm, hl, fun p hp e => ap _ hl p hp e⟩
theorem end_tab {P : Program} {w : World} {K : PySem.W.Frag} {mg mb : Str → Option Value} {k : Nat} {fa a : Addr} {fd : FuncData} {x : Str} {sp : Sp} {s₁ : Shared} {vs : List Value} {ns : List Int}
    (KX : K.In s₁.heap) (hns : s₁.heap.Ns mainGlobals mg) (hb : s₁.heap.Ns builtinsNs mb) (hbb : ∀ x : Str, x ≠ "__name__" → mb x = bootBuiltins x) (hlim : s₁.heap.NoLimit) (hg : s₁.gens = #[])
    (hT : ∀ z ∈ tabC K, s₁.heap.get? z.2.1 = some { cls := .none, data := .fields #[] }) (nT : ∀ z ∈ tabC K, K.lookup z.2.1 = none) (C : ∀ z ∈ tabC K, PySem.W.codeHdIn K z.1 z.2.1 = true)
    (hbm : ∃ (bm : Addr) (ob : Obj), mg "__builtins__" = some (.ref bm) ∧ bm ≠ builtinsNs ∧ s₁.heap.get? bm = some ob ∧ ob.cls = .type "module" ∧ ob.dict = some builtinsNs ∧ ob.data = .plain)
    (ha : s₁.heap.get? a = some { cls := .type "list", data := .seq vs.toArray }) (hi : IntsAre vs ns) (hl : ns.length ≤ sizeLine) (hr : Room k callerA)
    (F : ∀ base : Heap, K.In base → base.Ns mainGlobals mg → (∀ z ∈ tabC K, LamX.TabB base mg z.1 z.2.1) → FnG P w K mg base k fa fd [x] sp) (hbind : ∀ (s : Shared) (u : Value), BindsTo s fd ⟨[u], []⟩ [(x, u)])
    (hsp : ∀ H : Hp, LamX.Tabs (tabL K) H → SqL K H a (ns.map V.int) → sp [.ref a] H (fun v _ => v = .bl true) fun _ _ _ => False)
    (hCX : ∀ H e s', L2.CX P w [] H s₁ (fun _ _ _ => False) e s' → False) :
    codeAny (model P w) callerA (.call (.ref fa) ⟨[.ref a], []⟩) (fun r s' => r = .ok (.ret (.bool true)) ∧ OldK s₁.heap s'.heap ∧ s'.os = s₁.os ∧ AllBare s'.gens) s₁ := by
  let ts : List Addr := (tabC K).map fun z => z.2.1
  have isT : ∀ b ∈ ts, s₁.heap.get? b = some { cls := .none, data := .fields #[] } ∧ K.lookup b = none ∧ ∃ c, PySem.W.codeHdIn K c b = true := fun b hb => by
    obtain ⟨z, hz, rfl⟩ := List.mem_map.mp hb
    exact ⟨hT z hz, nT z hz, z.1, C z hz⟩
  have aT : a ∉ ts := fun z => by
    have q := (isT a z).1
    rw [ha] at q
    cases q
  have core : ∀ H : Hp, (∀ b ∈ ts, H b = some (.tbl #[])) → SqL K H a (ns.map V.int) → HOk P w H s₁.heap → (∀ b, H b = none ∨ b ∈ ts ∨ (b = a ∧ K.lookup a = none ∧ ∃ o xs, H b = some (.frz o (.lst xs)))) →
      codeAny (model P w) callerA (.call (.ref fa) ⟨[.ref a], []⟩) (fun r s' => r = .ok (.ret (.bool true)) ∧ OldK s₁.heap s'.heap ∧ s'.os = s₁.os ∧ AllBare s'.gens) s₁ := fun H hH hS hok hO => by
    have plain : ∀ {b : Addr} {u : Obj}, s₁.heap.get? b = some u → (∀ xs n, u.data ≠ .seq xs n) → u.data ≠ .fields #[] → H b = none := fun {b u} e n1 n2 => by
      rcases hO b with z | z | ⟨z, _⟩
      · exact z
      · rw [(isT b z).1] at e
        cases e
        exact (n2 rfl).elim
      · rw [z, ha] at e
        cases e
        exact (n1 _ _ rfl).elim
    have nsK : ∀ {b : Addr} {m : Str → Option Value}, s₁.heap.Ns b m → (hidT s₁.heap H).Ns b m := fun {b m} z => by
      obtain ⟨u, es, ep, e, dd, r⟩ := z
      exact ⟨u, es, ep, hidT_get e (plain e (fun xs n z => by rw [dd] at z; cases z) fun z => by rw [dd] at z; cases z), dd, r⟩
    have kb : K.In (hidT s₁.heap H) := fun b u e => hidT_get (KX b u e) (by
      rcases hO b with z | z | ⟨z, z2, _⟩
      · exact z
      · rw [(isT b z).2.1] at e
        cases e
      · rw [z, z2] at e
        cases e)
    have hM : Mod K mg (hidT s₁.heap H) := ⟨kb, nsK hns, ⟨mb, nsK hb, hbb⟩, by
      obtain ⟨mc, h1, h2⟩ := hlim
      exact ⟨mc, nsK h1, h2⟩⟩
    have TB : ∀ z ∈ tabC K, LamX.TabB (hidT s₁.heap H) mg z.1 z.2.1 := fun z hz => by
      refine ⟨PySem.W.codeHd_of_K kb (C z hz), ?_, fun q => ?_⟩
      · obtain ⟨bm, ob, b1, b2, b3, b4, b5, b6⟩ := hbm
        refine ⟨bm, ob, b1, b2, fun q => ?_, fun q => ?_, hidT_get b3 (plain b3 (fun xs n z => by rw [b6] at z; cases z) fun z => by rw [b6] at z; cases z), b4, b5, b6⟩
        · obtain ⟨o, es, ep, e, hd, _⟩ := hns
          rw [q, e] at b3
          cases b3
          rw [hd] at b6
          cases b6
        · rw [q, hT z hz] at b3
          cases b3
          cases b6
      · obtain ⟨o, es, ep, e, hd, _⟩ := hns
        rw [q, hT z hz] at e
        cases e
        cases hd
    have tabs : LamX.Tabs (tabL K) H := fun p hp => by
      rw [tabC_map] at hp
      obtain ⟨z, hz, rfl⟩ := List.mem_map.mp hp
      exact .nil (hH _ (List.mem_map.mpr ⟨z, hz, rfl⟩))
    have e0 : Env0 P w K mg (hidT s₁.heap H) callerA [] s₁ H := ⟨rfl, hM, fun b u e => of_hidT e, Nat.le_of_eq (hidT_size _ _), trivial, fun b hb => (by cases hb), hok, .of_eq hg⟩
    refine codeAny_mono ((F _ kb (nsK hns) TB).go callerA [] s₁ H ⟨[.ref a], []⟩ [.ref a] [.ref a] _ _ rfl hr e0 (hbind s₁ (.ref a)) (.cons rfl .nil) (hsp H tabs hS)) fun r s' h => ?_
    match r, h with
    | .error e, h => exact (hCX H e s' h).elim
    | .ok .next, h => exact False.elim h
    | .ok .brk, h => exact False.elim h
    | .ok .cont, h => exact False.elim h
    | .ok (.ret u), h =>
      obtain ⟨v, H', os, bare, un, hok', rv, q⟩ := h
      have q : v = .bl true := q
      rw [q] at rv
      have rv : u = Value.bool true := rv
      rw [rv]
      have old : ∀ b u, b ∉ ts → s₁.heap.get? b = some u → s'.heap.get? b = some u := fun b u nb e => by
        rcases hO b with z | z | ⟨_, _, ob, xs, z⟩
        · exact un.keep b u e z (fun z => (by cases z)) (fun z => (by cases z))
        · exact absurd z nb
        · have z1 := (hok b _ z).1
          have z2 := (hok' b _ (un.frzs b ob _ z)).1
          rw [e] at z1
          cases z1
          exact z2
      have grown : ∀ b ∈ ts, ∃ more : Array Value, s'.heap.get? b = some { cls := .none, data := .fields more } := fun b hb => by
        obtain ⟨more, z⟩ := un.tbls b #[] (hH b hb)
        exact ⟨_, hok' b _ z⟩
      refine ⟨rfl, ⟨fun b u e => ?_, fun b u e => ?_⟩, os, bare⟩
      · rcases Decidable.em (b ∈ ts) with hb | hb
        · obtain ⟨more, hm⟩ := grown b hb
          obtain ⟨t1, _, c, hc⟩ := isT b hb
          rw [t1] at e
          cases e
          exact .inr (.inl ⟨((PySem.W.codeHd_of_K KX hc).tab t1).isCodeTable, rfl, #[], more, rfl, by rw [Array.empty_append]; exact hm⟩)
        · exact .inl (old b u hb e)
      · rcases Decidable.em (b ∈ ts) with hb | hb
        · obtain ⟨more, hm⟩ := grown b hb
          exact ⟨_, hm⟩
        · exact ⟨u, old b u hb e⟩
  have rv := vals_ints hi
  cases hk : K.lookup a with
  | some o =>
    have e := KX a o hk
    rw [ha] at e
    cases e
    refine core (fun b => if b ∈ ts then some (.tbl #[]) else none) (fun b hb => if_pos hb) (.inr ⟨_, vs.toArray, _, hk, rfl, rfl, rfl, by rw [List.size_toArray, hi.length]; exact hl, by simpa using rv⟩) (fun b u z => ?_) (fun b => ?_)
    · rcases Decidable.em (b ∈ ts) with hb | hb
      · have z := (if_pos hb).symm.trans z
        cases z
        exact (isT b hb).1
      · have z := (if_neg hb).symm.trans z
        cases z
    · rcases Decidable.em (b ∈ ts) with hb | hb
      · exact .inr (.inl hb)
      · exact .inl (if_neg hb)
  | none =>
    refine core (fun b => if b = a then some (.frz { cls := .type "list", data := .seq vs.toArray } (.lst (ns.map V.int))) else if b ∈ ts then some (.tbl #[]) else none) (fun b hb => (if_neg (fun z : b = a => aT (z ▸ hb))).trans (if_pos hb)) (.inl (.inr ⟨{ cls := .type "list", data := .seq vs.toArray }, if_pos rfl⟩)) (fun b u z => ?_) (fun b => ?_)
    · rcases Decidable.em (b = a) with q | q
      · have z := (if_pos q).symm.trans z
        cases z
        rw [q]
        exact ⟨ha, by rw [List.length_map]; exact hl, vs, _, rv, ha⟩
      · have z := (if_neg q).symm.trans z
        rcases Decidable.em (b ∈ ts) with hb | hb
        · have z := (if_pos hb).symm.trans z
          cases z
          exact (isT b hb).1
        · have z := (if_neg hb).symm.trans z
          cases z
    · rcases Decidable.em (b = a) with q | q
      · exact .inr (.inr ⟨q, hk, _, _, if_pos q⟩)
      · rcases Decidable.em (b ∈ ts) with hb | hb
        · exact .inr (.inl hb)
        · exact .inl ((if_neg q).trans (if_neg hb))
theorem walk_tab {l : PySem.W.OpenLaw} {n k : Nat} {q : Program} {loose : List Str} {XP : (Str → Option Value) → Heap → Prop} {YP : World → Heap → Prop} {d : DefRec} {x : Str}
    (hn : l.most = some n) (hz : n ≤ sizeLine) (hdf : d.params.defaults = []) (hr : Room k callerA)
    (F : ∀ (w : World) (mg : Str → Option Value) (fa : Addr) (h : Heap), YP w h → h.Ns mainGlobals mg → mg d.name = some (.ref fa) →
      ∃ (K : PySem.W.Frag) (fd : FuncData) (sp : Sp), K.In h ∧ (∀ (s : Shared) (u : Value), BindsTo s fd ⟨[u], []⟩ [(x, u)]) ∧ (∀ z ∈ tabC K, h.get? z.2.1 = some { cls := .none, data := .fields #[] }) ∧ (∀ z ∈ tabC K, K.lookup z.2.1 = none) ∧ (∀ z ∈ tabC K, PySem.W.codeHdIn K z.1 z.2.1 = true) ∧
        (∀ (H : Hp) (a : Addr) (ns : List Int), ns.length ≤ n → LamX.Tabs (tabL K) H → SqL K H a (ns.map V.int) → sp [.ref a] H (fun v _ => v = .bl true) fun _ _ _ => False) ∧
        ∀ base : Heap, K.In base → base.Ns mainGlobals mg → (∀ z ∈ tabC K, LamX.TabB base mg z.1 z.2.1) → FnG l.prog w K mg base k fa fd [x] sp) :
    PySem.W.WalkO q loose XP YP l.row.toRowW d [] (fun f vs => PySem.call f vs) := by
  refine Att.attach_call hn hdf fun w' t₀ t₁ mg' mb' fa' o' pm' cd' dc a' vs' ns' G' Y' h1 h2 h3 h4 h5 h6 h7 h8 => ?_
  obtain ⟨K', fd', sp', kx, hb', e1, e2, e3, hs', hF'⟩ := F w' mg' fa' _ Y' G'.T.g h4
  exact end_tab kx G'.T.g G'.T.b G'.T.builtins G'.T.nolimit h8 e1 e2 e3 G'.T.bmain h5 h6 (Nat.le_trans h7 hz) hr hF' hb' (fun H hH hS => hs' H a' ns' h7 hH hS) fun H e s' h => cx_none h
end PF
namespace PF
open PySem PySem.Spec PyProof.Rows L2
def sOwnAdd (i : Nat) (fa fb : En → T W) : En → T (Fl × En) := fun ρ => (fa ρ).bind fun x => (fb ρ).bind fun y => (addL x y).bind fun z => match z with
  | .lst ws => .ok (.nx, ρ.set i (.own ws))
  | _ => .bad
theorem tr_ownAdd {X : Cx} {E : XK} {i : Nat} {x : Str} {a b : Expr} {fa fb : En → T W} {pos pos' p2 : Pos} (hN : X.N.Nodup) (hi : X.N[i]? = some x) (hx : L2.Loc X.env.scope x) (ha : TrE Γ X (wOf E) a fa) (hb : TrE Γ X (wOf E) b fb) (hs : swapsWith (.BinOp a .Add b p2) (some (.Name x pos')) pos.line X.env = pure false := by rfl)
    (hf : X.fn x = true ∨ X.env.scope.names.lookup x = some .local := by first | exact .inl rfl | exact .inr rfl | assumption) : TrS Γ X E (.Assign [.Name x pos'] (.BinOp a .Add b p2) pos) (sOwnAdd i fa fb) := ps_imp (ps_set hN hi hx (pe_op op_cat ha hb) hs hf) fun D σ H q => by
  obtain ⟨c, d, oa, ρ, e, q⟩ := q
  refine lift_thenS (P := fun c H => PSq X.K Γ c H D) e q (fun st p => p.later (.of st e.wd)) fun w v H1 d1 _ r1 e1 h1 => ?_
  refine lift_thenS (P := fun c H => PSq X.K Γ c H D) e1 h1 (fun st p => p.later (.of st e1.wd)) fun w2 v2 H2 d2 st2 r2 e2 h2 => ?_
  have r1' := r1.step st2 e1.st e1.ok
  cases r1' <;> try exact h2.elim
  cases r2 <;> try exact h2.elim
  rename_i aa xs ws n1 h1' rl1 bb ys us n2 h2' rl2
  unfold addL at h2
  simp only at h2
  by_cases hz : sz2 ws.length us.length = true
  · rw [if_pos hz] at h2
    refine ⟨_, _, _, _, rfl, rfl, h1', h2', rl1.sizes rl2 hz, fun p hp => ?_⟩
    exact h2 _ _ _ _ (Fwd.mine hp e2.wd) ((e2.mine hp).ownSet (List.mem_cons_self ..) upd_same (((rl1.append rl2).more hp (.new hp) e2.st e2.ok).mine) (EnvOk.ownNe e2 hp))
  · rw [if_neg hz] at h2
    exact h2.elim
end PF
namespace PF
open PySem PySem.Spec PyProof.Rows L2
/-- the objects at as are told, as they stand in h -/
def lay (H : Hp) (as : List Addr) (h : Heap) : Hp := fun b => if b ∈ as then (h.get? b).map (ObX b) else H b
def era (H : Hp) (as : List Addr) : Hp := fun b => if b ∈ as then none else H b
theorem lay_in {H : Hp} {as : List Addr} {h : Heap} {b : Addr} {o : Obj} (m : b ∈ as) (e : h.get? b = some o) : lay H as h b = some (ObX b o) := by
  unfold lay
  rw [if_pos m, e]
  rfl
theorem lay_out {H : Hp} {as : List Addr} {h : Heap} {b : Addr} (m : b ∉ as) : lay H as h b = H b := by
  unfold lay
  rw [if_neg m]
theorem era_in {H : Hp} {as : List Addr} {b : Addr} (m : b ∈ as) : era H as b = none := by
  unfold era
  rw [if_pos m]
theorem era_out {H : Hp} {as : List Addr} {b : Addr} (m : b ∉ as) : era H as b = H b := by
  unfold era
  rw [if_neg m]
theorem era_some {H : Hp} {as : List Addr} {b : Addr} {o : HO} (e : era H as b = some o) : b ∉ as ∧ H b = some o := by
  by_cases m : b ∈ as
  · rw [era_in m] at e
    cases e
  · rw [era_out m] at e
    exact ⟨m, e⟩
theorem obX_ok {P : Program} {w : World} {H : Hp} {h : Heap} {a : Addr} {o : Obj} (e : h.get? a = some o) : ObjOk P w H h a (ObX a o) := ⟨e, ⟨o, e⟩, fun _ _ q k => k o q⟩
theorem obX_at {P : Program} {w : World} {H : Hp} {h : Heap} {a : Addr} {o : Obj} (hok : HOk P w H h) (e : H a = some (ObX a o)) : h.get? a = some o := (hok a _ e).1
section
variable {P : Program} {w : World} {H H' : Hp} {h h' B : Heap} {as : List Addr} {fs : List Addr}
theorem hok_era (hok : HOk P w H' h') (l : Lent H' as h) : HOk P w (era H' as) h' := fun b o e => by
  obtain ⟨m, e⟩ := era_some e
  have no : ∀ c u, H' c = some u → (∀ φ, u ≠ .ext φ) → c ∉ as := fun c u q n z => by
    obtain ⟨o, _, q2⟩ := l c z
    rw [q] at q2
    exact n _ (Option.some.inj q2)
  exact (hok b o e).stay (fun _ _ _ q => q) (fun c q => by rw [era_out (no c _ q nofun)]; exact q) fun c xs q => by rw [era_out (no c _ q nofun)]; exact q
theorem hok_lay (hok : HOk P w H h') (n : ∀ a ∈ as, H a = none) (st : ∀ a ∈ as, ∃ o, h.get? a = some o ∧ h'.get? a = some o) : HOk P w (lay H as h) h' := fun b o e => by
  by_cases m : b ∈ as
  · obtain ⟨u, e1, e2⟩ := st b m
    rw [lay_in m e1] at e
    cases e
    exact obX_ok e2
  · rw [lay_out m] at e
    have no : ∀ c u, H c = some u → c ∉ as := fun c u q z => by
      rw [n c z] at q
      cases q
    exact (hok b o e).stay (fun _ _ _ q => q) (fun c q => by rw [lay_out (no c _ q)]; exact q) fun c xs q => by rw [lay_out (no c _ q)]; exact q
/-- lent, then taken back -/
theorem un_back (n : ∀ a ∈ as, H a = none) (st : ∀ a ∈ as, ∃ o, h.get? a = some o) (nf : ∀ a ∈ as, a ∉ fs) (un : Un fs [] (lay H as h) H' h h') (hok : HOk P w H' h') (l : Lent H' as h) : Un fs [] H (era H' as) h h' where
  keep := fun b o e1 e2 e3 e4 => by
    by_cases m : b ∈ as
    · obtain ⟨u, q1, q2⟩ := l b m
      rw [e1] at q1
      cases q1
      exact obX_at hok q2
    · exact un.keep b o e1 (by rw [lay_out m]; exact e2) e3 e4
  slot := fun b o e1 e2 e3 e4 => un.slot b o e1 (by rw [lay_out (fun z => nf b z e3)]; exact e2) e3 e4
  free := fun b o e1 e2 e4 => by
    by_cases m : b ∈ as
    · exact era_in m
    · rw [era_out m]
      exact un.free b o e1 (by rw [lay_out m]; exact e2) e4
  there := un.there
  tups := fun b xs q => by
    have m : b ∉ as := fun z => by rw [n b z] at q; cases q
    rw [era_out m]
    exact un.tups b xs (by rw [lay_out m]; exact q)
  frzs := fun b o xs q => by
    have m : b ∉ as := fun z => by rw [n b z] at q; cases q
    rw [era_out m]
    exact un.frzs b o xs (by rw [lay_out m]; exact q)
  tbls := fun b ps q => by
    have m : b ∉ as := fun z => by rw [n b z] at q; cases q
    rw [era_out m]
    exact un.tbls b ps (by rw [lay_out m]; exact q)
theorem ub_back (n : ∀ a ∈ as, H a = none) (nf : ∀ a ∈ as, a ∉ fs) (un : UB fs (lay H as h) H' h B h') (hok : HOk P w H' B) (l : Lent H' as h) : UB fs H (era H' as) h B h' where
  keep := fun b o e1 e2 e3 => by
    by_cases m : b ∈ as
    · obtain ⟨u, q1, q2⟩ := l b m
      rw [e1] at q1
      cases q1
      exact obX_at hok q2
    · exact un.keep b o e1 (by rw [lay_out m]; exact e2) e3
  slot := un.slot
  free := fun b o e1 e2 => by
    by_cases m : b ∈ as
    · exact era_in m
    · rw [era_out m]
      exact un.free b o e1 (by rw [lay_out m]; exact e2)
  there := un.there
  tups := fun b xs q => by
    have m : b ∉ as := fun z => by rw [n b z] at q; cases q
    rw [era_out m]
    exact un.tups b xs (by rw [lay_out m]; exact q)
  frzs := fun b o xs q => by
    have m : b ∉ as := fun z => by rw [n b z] at q; cases q
    rw [era_out m]
    exact un.frzs b o xs (by rw [lay_out m]; exact q)
  tbls := fun b ps q => by
    have m : b ∉ as := fun z => by rw [n b z] at q; cases q
    rw [era_out m]
    exact un.tbls b ps (by rw [lay_out m]; exact q)
theorem cr_back {outer : List PySem.Env} {s s' : Shared} {Q : VK} {E : XK} {r : Result} (n : ∀ a ∈ as, H a = none) (st : ∀ a ∈ as, ∃ o, s.heap.get? a = some o) (nf : ∀ a ∈ as, a ∉ frs outer)
    (hc : CR (L2.CX P w) outer P w (lay H as s.heap) s (fun v H' => Lent H' as s.heap ∧ Q v (era H' as)) (fun cls d H' => Lent H' as s.heap ∧ E cls d (era H' as)) r s') : CR (L2.CX P w) outer P w H s Q E r s' := by
  match r, hc with
  | .ok (.ret u), hc =>
    obtain ⟨v, H', os, bare, un, hok, rv, l, q⟩ := hc
    exact ⟨v, era H' as, os, bare, un_back n st nf un hok l, hok_era hok l, rv, q⟩
  | .ok .next, hc => exact False.elim hc
  | .ok .brk, hc => exact False.elim hc
  | .ok .cont, hc => exact False.elim hc
  | .error e, hc =>
    obtain ⟨a, B, H', cls, d, rfl, fl, hok, ub, na, os, ag, l, q⟩ := hc
    refine ⟨a, B, era H' as, cls, d, rfl, fl, hok_era hok l, ub_back n nf ub hok l, ?_, os, ag, q⟩
    unfold era
    split
    · rfl
    · exact na
/-- taken out, then told again -/
theorem un_fore (l : Lent H as h) (nf : ∀ a ∈ as, a ∉ fs) (un : Un fs [] (era H as) H' h h') : Un fs [] H (lay H' as h) h h' where
  keep := fun b o e1 e2 e3 e4 => un.keep b o e1 (by
    by_cases m : b ∈ as
    · exact era_in m
    · rw [era_out m]; exact e2) e3 e4
  slot := fun b o e1 e2 e3 e4 => un.slot b o e1 (by rw [era_out (fun z => nf b z e3)]; exact e2) e3 e4
  free := fun b o e1 e2 e4 => by
    have m : b ∉ as := fun z => by
      obtain ⟨_, _, q⟩ := l b z
      rw [e2] at q
      cases q
    rw [lay_out m]
    exact un.free b o e1 (by rw [era_out m]; exact e2) e4
  there := un.there
  tups := fun b xs q => by
    have m : b ∉ as := fun z => by
      obtain ⟨_, _, q2⟩ := l b z
      rw [q] at q2
      cases q2
    rw [lay_out m]
    exact un.tups b xs (by rw [era_out m]; exact q)
  frzs := fun b o xs q => by
    have m : b ∉ as := fun z => by
      obtain ⟨_, _, q2⟩ := l b z
      rw [q] at q2
      cases q2
    rw [lay_out m]
    exact un.frzs b o xs (by rw [era_out m]; exact q)
  tbls := fun b ps q => by
    have m : b ∉ as := fun z => by
      obtain ⟨_, _, q2⟩ := l b z
      rw [q] at q2
      cases q2
    rw [lay_out m]
    exact un.tbls b ps (by rw [era_out m]; exact q)
theorem ub_fore (l : Lent H as h) (un : UB fs (era H as) H' h B h') : UB fs H (lay H' as h) h B h' where
  keep := fun b o e1 e2 e3 => un.keep b o e1 (by
    by_cases m : b ∈ as
    · exact era_in m
    · rw [era_out m]; exact e2) e3
  slot := un.slot
  free := fun b o e1 e2 => by
    have m : b ∉ as := fun z => by
      obtain ⟨_, _, q⟩ := l b z
      rw [e2] at q
      cases q
    rw [lay_out m]
    exact un.free b o e1 (by rw [era_out m]; exact e2)
  there := un.there
  tups := fun b xs q => by
    have m : b ∉ as := fun z => by
      obtain ⟨_, _, q2⟩ := l b z
      rw [q] at q2
      cases q2
    rw [lay_out m]
    exact un.tups b xs (by rw [era_out m]; exact q)
  frzs := fun b o xs q => by
    have m : b ∉ as := fun z => by
      obtain ⟨_, _, q2⟩ := l b z
      rw [q] at q2
      cases q2
    rw [lay_out m]
    exact un.frzs b o xs (by rw [era_out m]; exact q)
  tbls := fun b ps q => by
    have m : b ∉ as := fun z => by
      obtain ⟨_, _, q2⟩ := l b z
      rw [q] at q2
      cases q2
    rw [lay_out m]
    exact un.tbls b ps (by rw [era_out m]; exact q)
theorem cr_fore {outer : List PySem.Env} {s s' : Shared} {Q : VK} {E : XK} {r : Result} (l : Lent H as s.heap) (nf : ∀ a ∈ as, a ∉ frs outer)
    (hc : CR (L2.CX P w) outer P w (era H as) s (fun v H' => (∀ a ∈ as, H' a = none) → Q v (lay H' as s.heap)) (fun cls d H' => (∀ a ∈ as, H' a = none) → E cls d (lay H' as s.heap)) r s') : CR (L2.CX P w) outer P w H s Q E r s' := by
  match r, hc with
  | .ok (.ret u), hc =>
    obtain ⟨v, H', os, bare, un, hok, rv, q⟩ := hc
    have fr : ∀ a ∈ as, H' a = none := fun a m => by
      obtain ⟨o, e, _⟩ := l a m
      exact un.free a o e (era_in m) (by simp)
    refine ⟨v, lay H' as s.heap, os, bare, un_fore l nf un, hok_lay hok fr fun a m => ?_, rv, q fr⟩
    obtain ⟨o, e, _⟩ := l a m
    exact ⟨o, e, un.keep a o e (era_in m) (nf a m) (by simp)⟩
  | .ok .next, hc => exact False.elim hc
  | .ok .brk, hc => exact False.elim hc
  | .ok .cont, hc => exact False.elim hc
  | .error e, hc =>
    obtain ⟨a, B, H', cls, d, rfl, fl, hok, ub, na, os, ag, q⟩ := hc
    have fr : ∀ a ∈ as, H' a = none := fun a m => by
      obtain ⟨o, e, _⟩ := l a m
      exact ub.free a o e (era_in m)
    have kp : ∀ a ∈ as, ∃ o, s.heap.get? a = some o ∧ B.get? a = some o := fun a m => by
      obtain ⟨o, e, _⟩ := l a m
      exact ⟨o, e, ub.keep a o e (era_in m) (nf a m)⟩
    refine ⟨a, B, lay H' as s.heap, cls, d, rfl, fl, hok_lay hok fr kp, ub_fore l ub, ?_, os, ag, q fr⟩
    have m : a ∉ as := fun z => by
      obtain ⟨o, _, e⟩ := kp a z
      rw [fl.2.1] at e
      cases e
    rw [lay_out m]
    exact na
end
end PF
namespace PF
open PySem PySem.Spec PyProof.Rows L2
abbrev adr (cl : Cl) : List Addr := cl.map fun x => x.2
section
variable {K : PySem.W.Frag} {c : Cc} {d : Dw} {H H' : Hp}
mutual
theorem Rep.mono (k : ∀ b o, H b = some o → H' b = some o) : ∀ {w : W} {v : V}, Rep K c H w v → Rep K c H' w v
  | _, _, .non => .non
  | _, _, .bl b => .bl b
  | _, _, .int i => .int i
  | _, _, .str x => .str x
  | _, _, .tup h r => .tup (by
      rcases h with (h | ⟨o, h⟩) | h
      · exact .inl (.inl (k _ _ h))
      · exact .inl (.inr ⟨o, k _ _ h⟩)
      · exact .inr h) (RepL.mono k r)
  | _, _, .lst n h r => .lst n (k _ _ h) (RepL.mono k r)
  | _, _, .dct n h r => .dct n (k _ _ h) (RepL.mono k r)
  | _, _, .obj h => .obj h
  | _, _, .dcu n h r => .dcu n (k _ _ h) (RepL.mono k r)
  | _, _, .ptp n h hd r => .ptp n (k _ _ h) hd (RepL.mono k r)
  | _, _, .scr h => .scr (h.imp (fun ⟨n, r⟩ => ⟨n, r.imp (fun e => k _ _ e) fun ⟨o, e⟩ => ⟨o, k _ _ e⟩⟩) id)
  | _, _, .stt => .stt
  | _, _, .lam h => .lam (h.kp ⟨fun b φ e => k _ _ e, fun b φ e => k _ _ e⟩)
  | _, _, .clo h g n m pl r => .clo (h.kp ⟨fun b φ e => k _ _ e, fun b φ e => k _ _ e⟩) g n (m.kp ⟨fun b φ e => k _ _ e, fun b φ e => k _ _ e⟩) pl (RepL.mono k r)
  | _, _, .exo h1 h2 h3 r => .exo (k _ _ h1) (k _ _ h2) h3 (RepL.mono k r)
  | _, _, .exn h1 => .exn (k _ _ h1)
  | _, _, .key h => .key (k _ _ h)
theorem RepL.mono (k : ∀ b o, H b = some o → H' b = some o) : ∀ {ws : List W} {vs : List V}, RepL K c H ws vs → RepL K c H' ws vs
  | _, _, .nil => .nil
  | _, _, .cons h r => .cons (Rep.mono k h) (RepL.mono k r)
end
theorem RepX.mono {n : Nat} {fs : List W} {cls : Value} {dx : Option Addr} (k : ∀ b o, H b = some o → H' b = some o) (r : RepX K c H n fs cls dx) : RepX K c H' n fs cls dx := by
  obtain ⟨r1, d', vs, r2, r3, r4, r5⟩ := r
  exact ⟨r1, d', vs, r2, k _ _ r3, r4, r5.mono k⟩
theorem StOk.mono {d : Dw} (k : ∀ b o, H b = some o → H' b = some o) (s : StOk c d H) : StOk c d H' := by
  obtain ⟨⟨cells, lefts, kk, r, h1, h2, h3, h4, h5, h6, h7, h8, h9⟩, ob⟩ := s
  exact ⟨⟨cells, lefts, kk, r, k _ _ h1, k _ _ h2, k _ _ h3, h4, h5, h6, h7, h8, h9.ext k⟩, ob.same ob.ok rfl rfl (fun a C dx fl h => k _ _ h) fun ws vs q => q.mono k⟩
end
section
variable {P : Program} {w : World} {K : PySem.W.Frag} {c : Cc} {d : Dw} {H H' : Hp} {h : Heap} {as : List Addr}
theorem code_ne {a : Addr} {q : Str} {o : Obj} {u : Option Value} (g1 : h.get? a = some o) (g3 : o.data = .cell u) : LamX.CodeO a q ≠ ObX a o := fun z => by
  unfold LamX.CodeO ObX at z
  injection z with z
  have z := congrFun z h
  have z : ∃ (oc : Obj) (vs : Array Value) (t : Tok), h.get? a = some oc ∧ oc.data = .fields vs ∧ vs[1]? = some (.str q t) := by rw [z]; exact g1
  obtain ⟨oc, vs, t, e1, e2, _⟩ := z
  rw [g1] at e1
  cases e1
  rw [g3] at e2
  cases e2
theorem StOk.era (s : StOk c d H) (l : CellsX H as h) : StOk c d (era H as) := by
  obtain ⟨⟨cells, lefts, kk, r, h1, h2, h3, h4, h5, h6, h7, h8, h9⟩, ob⟩ := s
  refine ⟨?_, ⟨ob.ok, ob.len, ob.nd, fun i a o q1 q2 => (by
    obtain ⟨dx, vs, g1, g2, g3, g4⟩ := ob.at_ i a o q1 q2
    exact ⟨dx, vs, by rw [era_out (l.no g1 nofun)]; exact g1, g2.plain (fun b o e n => by rw [era_out (l.no e n)]; exact e) g4, g3, g4⟩), ob.no⟩⟩
  refine ⟨cells, lefts, kk, r, by rw [era_out (l.no h1 nofun)]; exact h1, by rw [era_out (l.no h2 nofun)]; exact h2, by rw [era_out (l.no h3 nofun)]; exact h3, h4, h5, h6, h7, h8, fun p hp => ?_⟩
  obtain ⟨ps, q1, q2, q3⟩ := h9 p hp
  refine ⟨ps, by rw [era_out (l.no q1 nofun)]; exact q1, q2, fun pos cv hc => ?_⟩
  obtain ⟨c', e, q⟩ := q3 pos cv hc
  refine ⟨c', e, ?_⟩
  rw [era_out]
  · exact q
  · intro z
    obtain ⟨o, u, g1, g2, g3⟩ := l c' z
    rw [q] at g2
    exact code_ne g1 g3 (Option.some.inj g2)
theorem Wd.era (wd : Wd c d H) (l : CellsX H as h) : Wd c d (era H as) := ⟨wd.ok, wd.st.era l, fun b hb => by
  obtain ⟨o, e, ow⟩ := wd.av b hb
  refine ⟨o, ?_, ow⟩
  rw [era_out (l.no e (by rcases ow with ⟨_, rfl⟩ | ⟨_, rfl⟩ | ⟨_, rfl⟩ <;> exact nofun))]
  exact e⟩
theorem Step.lay (st : Step c (era H as) H') (l : Lent H as h) : Step c H (lay H' as h) := ⟨fun b o e h1 h2 nt => by
    by_cases m : b ∈ as
    · obtain ⟨u, e1, e2⟩ := l b m
      rw [e] at e2
      cases e2
      exact lay_in m e1
    · rw [lay_out m]
      exact st.keep b o (by rw [era_out m]; exact e) h1 h2 nt, fun b ps e => by
    have m : b ∉ as := fun z => by
      obtain ⟨_, _, q⟩ := l b z
      rw [e] at q
      cases q
    rw [lay_out m]
    exact st.tbl b ps (by rw [era_out m]; exact e), fun b C dx fs e => by
    have m : b ∉ as := fun z => by
      obtain ⟨_, _, q⟩ := l b z
      rw [e] at q
      cases q
    rw [lay_out m]
    exact st.ins b C dx fs (by rw [era_out m]; exact e)⟩
theorem lay_mono (n : ∀ a ∈ as, H' a = none) : ∀ b o, H' b = some o → lay H' as h b = some o := fun b o e => by
  rw [lay_out]
  · exact e
  · intro z
    rw [n b z] at e
    cases e
end
theorem caps_cells {P : Program} {w : World} {H : Hp} {h : Heap} (hok : HOk P w H h) : ∀ {cl : Cl} {vs : List V}, CapsAt H cl vs → CellsX H (adr cl) h
  | _, _, .nil, a, m => by cases m
  | _, _, .cons h1 h2 h3 r, a, m => by
    rcases List.mem_cons.mp m with e | m
    · subst e
      exact ⟨_, _, obX_at hok h1, h1, h2⟩
    · exact caps_cells hok r a m
theorem caps_get {P : Program} {w : World} {H : Hp} {h : Heap} (hok : HOk P w H h) : ∀ {cl : Cl} {vs : List V}, CapsAt H cl vs → ∀ {i : Nat} {v : V}, vs[i]? = some v → ∃ y a u, cl[i]? = some (y, a) ∧ RelV v u ∧ h.IsCell a (some u)
  | _, _, .nil, i, v, e => by simp at e
  | _, _, .cons (y := y) (a := a) (u := u) h1 h2 h3 r, 0, v, e => by
    simp only [List.getElem?_cons_zero, Option.some.injEq] at e
    subst e
    exact ⟨y, a, u, rfl, h3, _, obX_at hok h1, h2⟩
  | _, _, .cons h1 h2 h3 r, i + 1, v, e => by
    obtain ⟨y, a, u, q⟩ := caps_get hok r (i := i) (v := v) (by simpa using e)
    exact ⟨y, a, u, by simpa using q⟩
theorem caps_mem {P : Program} {w : World} {H : Hp} {h : Heap} (hok : HOk P w H h) : ∀ {cl : Cl} {vs : List V}, CapsAt H cl vs → ∀ {y : Str} {a : Addr}, (y, a) ∈ cl → ∃ u, h.IsCell a u
  | _, _, .nil, y, a, e => by cases e
  | _, _, .cons (u := u) h1 h2 h3 r, y, a, m => by
    rcases List.mem_cons.mp m with e | m
    · cases e
      exact ⟨some u, _, obX_at hok h1, h2⟩
    · exact caps_mem hok r m
theorem caps_len {H : Hp} : ∀ {cl : Cl} {vs : List V}, CapsAt H cl vs → cl.length = vs.length
  | _, _, .nil => rfl
  | _, _, .cons _ _ _ r => congrArg (· + 1) (caps_len r)
structure LmC (l : LamD) (N : List Str) : Prop where
  kind : l.scope.kind = .function
  co : l.scope.isCoroutine = false
  gen : l.scope.isGenerator = false
  own : ∀ y ∈ l.scope.names, y.2 ≠ .cell ∧ (y.2 = .local → y.1 ∉ N)
  par : ∀ a ∈ l.params.args, l.scope.names.lookup a.arg = some .local
  nm : N = (cloFrom [] l.scope.names []).map (·.1)
  nd : N.Nodup
def lmcB (l : LamD) (N : List Str) : Bool := decide (l.scope.kind = .function) && (!l.scope.isCoroutine && (!l.scope.isGenerator && ((l.scope.names.all fun y => !decide (y.2 = .cell) && (!decide (y.2 = .local) || !N.contains y.1)) && ((l.params.args.all fun a => decide (l.scope.names.lookup a.arg = some .local)) && (decide (N = (cloFrom [] l.scope.names []).map (·.1)) && decide N.Nodup)))))
theorem lmC_by {l : LamD} {N : List Str} (h : lmcB l N = true) : LmC l N := by
  unfold lmcB at h
  simp only [Bool.and_eq_true, Bool.or_eq_true, Bool.not_eq_true', decide_eq_true_eq, decide_eq_false_iff_not, List.all_eq_true] at h
  obtain ⟨h1, h2, h3, h4, h5, h6, h7⟩ := h
  refine ⟨h1, h2, h3, fun y hy => ⟨(h4 y hy).1, fun e z => ?_⟩, h5, h6, h7⟩
  rcases (h4 y hy).2 with q | q
  · exact q e
  · rw [List.contains_iff_mem.mpr z] at q
    cases q
abbrev cloEnv (q : Str) (scope : Scope) (L f c' : Addr) (cl : Cl) : PySem.Env := PySem.W.envX q scope L f (.ref c') cl
def cloCx (P : Program) (w : World) (K : PySem.W.Frag) (mg : Str → Option Value) (base : Heap) (N : List Str) (A : Around) (outer : List PySem.Env) (s : Shared) (H : Hp) (E : XK) (q : Str) (scope : Scope) (f c' : Addr) (cl : Cl) : Cx where
  prog := P
  w := w
  K := K
  mg := mg
  base := base
  A := A.deeper (cloEnv q scope s.heap.objs.size f c' cl)
  N := N
  s_0 := s
  H_0 := H
  env := cloEnv q scope s.heap.objs.size f c' cl
  outer := outer
  stack := cloEnv q scope s.heap.objs.size f c' cl :: outer
  ex := []
  fn := fun _ => false
  calm := true
  pn := []
  xe := fun e s' => wpAny (model P w) (A.deeper (cloEnv q scope s.heap.objs.size f c' cl)) (leaving (cloEnv q scope s.heap.objs.size f c' cl) e) (fun _ s'' => L2.CX P w outer H s E e s'') (fun e' s'' => L2.CX P w outer H s E e' s'') s'
theorem lookup_nd : ∀ {cl : Cl} {i : Nat} {y : Str} {a : Addr}, (cl.map (·.1)).Nodup → cl[i]? = some (y, a) → cl.lookup y = some a
  | [], i, y, a, _, e => by simp at e
  | (z, b) :: cl, 0, y, a, _, e => by
    simp only [List.getElem?_cons_zero, Option.some.injEq, Prod.mk.injEq] at e
    obtain ⟨rfl, rfl⟩ := e
    simp [List.lookup]
  | (z, b) :: cl, i + 1, y, a, nd, e => by
    rw [List.map_cons, List.nodup_cons] at nd
    have e : cl[i]? = some (y, a) := by simpa using e
    have ne : (y == z) = false := by
      rw [beq_eq_false_iff_ne]
      intro q
      subst q
      exact nd.1 (List.mem_map.mpr ⟨_, List.mem_of_getElem? e, rfl⟩)
    rw [List.lookup_cons, ne]
    exact lookup_nd nd.2 e
theorem lookup_inj : ∀ {cl : Cl} {x y : Str} {a : Addr}, (adr cl).Nodup → cl.lookup x = some a → cl.lookup y = some a → x = y
  | [], x, y, a, _, e, _ => by cases e
  | (z, b) :: cl, x, y, a, nd, e1, e2 => by
    have nd := List.nodup_cons.mp nd
    rw [List.lookup_cons] at e1 e2
    have mm : ∀ {x : Str}, cl.lookup x = some a → a ∈ adr cl := fun {x} e => List.mem_map.mpr ⟨_, PySem.mem_of_lookup e, rfl⟩
    cases h1 : (x == z) <;> cases h2 : (y == z) <;> rw [h1] at e1 <;> rw [h2] at e2
    · exact lookup_inj nd.2 e1 e2
    · cases e2
      exact absurd (mm e1) nd.1
    · cases e1
      exact absurd (mm e2) nd.1
    · rw [eq_of_beq h1, eq_of_beq h2]
section
variable {P : Program} {w : World} {K : PySem.W.Frag} {mg : Str → Option Value} {base : Heap} {A : Around} {outer : List PySem.Env} {s : Shared} {H : Hp} {l : LamD} {N : List Str} {cl : Cl} {vs : List V}
theorem clo_start {E : XK} {q : Str} {f c' : Addr} {h1 : Heap} {tk : Nat} {bs : List (Str × Value)} (L : LmC l N) (e0 : Env0 P w K mg base A outer s (era H (adr cl))) (hok : HOk P w H s.heap) (hd : A.handled = none) (nm : cl.map (·.1) = N) (na : (adr cl).Nodup) (ca : CapsAt H cl vs)
    (hns : h1.Ns s.heap.objs.size fun y => bs.reverse.lookup y) (kp : ∀ b o, s.heap.get? b = some o → h1.get? b = some o) :
    Inv (cloCx P w K mg base N A outer s (era H (adr cl)) E q l.scope f c' cl) [] (L2.start N vs) (era H (adr cl)) { s with heap := h1, toks := tk } := by
  have hl : vs.length = N.length := by rw [← caps_len ca, ← nm, List.length_map]
  have es : L2.start N vs = vs.map some := by
    unfold L2.start
    rw [hl, Nat.sub_self]
    simp
  have nd : (cl.map (·.1)).Nodup := by rw [nm]; exact L.nd
  have cellK : ∀ {a : Addr} {v : Option Value}, s.heap.IsCell a v → h1.IsCell a v := fun {a v} z => by
    obtain ⟨o, ho, hdt⟩ := z
    exact ⟨o, kp _ _ ho, hdt⟩
  have noA : ∀ b : Addr, b ∉ (cloCx P w K mg base N A outer s (era H (adr cl)) E q l.scope f c' cl).ex := fun b z => by
    have z : b ∈ ([] : List Addr) := z
    cases z
  have ina : ∀ {y : Str} {a : Addr}, cl.lookup y = some a → a ∈ adr cl := fun {y a} e => List.mem_map.mpr ⟨_, PySem.mem_of_lookup e, rfl⟩
  refine ⟨⟨e0.mod, L.kind, rfl, rfl, Nat.le_refl _, fun y z c e1 e2 => lookup_inj na e1 e2, fun y hy => ?_, fun y c z _ => ?_, fun _ => hd, Around.frames_deeper e0.frames, .inr ⟨rfl, rfl⟩, fun b z => absurd z (noA b), e0.bs, e0.bsz, fun b _ _ => noA b, fun b z => absurd z (noA b), e0.funs, e0.frf⟩,
    rfl, e0.bare, Un.kept kp, ⟨_, hns, fun i y v e1 e2 e3 => ?_⟩, fun y c e => ?_, e0.hok.fresh (Nat.le_refl _), fun y c e => era_in (ina e), fun q hq => absurd (show q ∈ ([] : List (Addr × Obj)) ++ [] from hq) (by simp), e0.hok.kept kp, by rw [es, List.length_map]; exact hl⟩
  · have hy : l.scope.names.lookup y = some .cell ∨ l.scope.names.lookup y = some .free := hy
    rcases hy with hy | hy
    · exact absurd rfl (L.own _ (PySem.mem_of_lookup hy)).1
    · have m : y ∈ cl.map (·.1) := by
        rw [nm, L.nm]
        exact List.mem_map.mpr ⟨_, cloFrom_has (cells := []) (acc := []) (PySem.mem_of_lookup hy), rfl⟩
      obtain ⟨⟨y', a⟩, hm, rfl⟩ := List.mem_map.mp m
      exact mem_lookup hm
  · have z : false = true := z
    cases z
  · have e1 : N[i]? = some y := e1
    have e3 : Vis l.scope y := e3
    rw [es, List.getElem?_map] at e2
    cases hv : vs[i]? with
    | none =>
      rw [hv] at e2
      cases e2
    | some v' =>
      rw [hv] at e2
      cases e2
      obtain ⟨y', a, u, q1, q2, q3⟩ := caps_get hok ca hv
      have ey : y' = y := by
        have : (cl.map (·.1))[i]? = some y' := by rw [List.getElem?_map, q1]; rfl
        rw [nm, e1] at this
        exact (Option.some.inj this).symm
      subst ey
      refine ⟨u, q2, .inr ⟨?_, a, lookup_nd nd q1, cellK q3⟩⟩
      rcases e3 with k | k | k
      · exact absurd (List.mem_of_getElem? e1) ((L.own _ (PySem.mem_of_lookup k)).2 rfl)
      · exact .inl k
      · exact .inr k
  · obtain ⟨u, z⟩ := caps_mem hok ca (PySem.mem_of_lookup (show cl.lookup y = some c from e))
    exact ⟨u, cellK z⟩
end
theorem par_of {one : Option Str} {ps : Arguments} (po : ParOk one ps) : ∀ y, one = some y → ∃ a ∈ ps.args, a.arg = y := fun y hy => by
  cases po with
  | zero => cases hy
  | one z p1 p2 i j =>
    cases hy
    exact ⟨_, List.mem_cons_self .., rfl⟩
/-- what a lambda does, its captured things at hand -/
def lamF (n : Nat) (fb : En → T W) : List W → T W := fun ws => if ws.length == n then fb (startE n ws) else .bad
def LamOk (P : Program) (w : World) (K : PySem.W.Frag) (mg : Str → Option Value) (base : Heap) (k : Nat) (x : Str) (p : List Nat) (r : List W → T W) : Prop :=
  ∃ (l : LamD) (N : List Str) (fb : En → T W), lamK K x p = some l ∧ LmC l N ∧ r = lamF N.length fb ∧
    ∀ (Γ : Cl) (A : Around) (outer : List PySem.Env) (s : Shared) (H : Hp) (E : XK) (f c' : Addr) (cl : Cl), A.guards = some [] → Room k (A.deeper (cloEnv (lamQ x) l.scope s.heap.objs.size f c' cl)) → TrE Γ (cloCx P w K mg base N A outer s H E (lamQ x) l.scope f c' cl) (wOf E) l.body fb
section
variable {P : Program} {w : World} {K : PySem.W.Frag} {mg : Str → Option Value} {base : Heap} {A : Around} {outer : List PySem.Env} {s : Shared} {H : Hp} {c : Cc} {d : Dw} {k : Nat} {x : Str} {p : List Nat} {ws : List W} {f : Addr} {Q : VK} {E : XK} {r : List W → T W}
theorem clo_call (R : Rep K c H (.clo x p ws) (.ref f)) (wd : Wd c d H) (hT : c.T = tabL K ∧ c.K = K) (e0 : Env0 P w K mg base A outer s H) (hg : A.guards = some []) (hr : Room (k + 1) A) (lo : LamOk P w K mg base k x p r)
    (h : (r ws).AllW (PQ K c H Q) (PX K c H E) d) : codeAny (model P w) A (.call (.ref f) ⟨[], []⟩) (CR (L2.CX P w) outer P w H s Q E) s := by
  obtain ⟨l0, N, fb, hl0, L, rfl, hbody⟩ := lo
  cases R with
  | @clo f x p l cl ws vs la nm na ca pl rl =>
    obtain ⟨hk, dV, pm, ctv, c', one, hf, hco, po, d1, d2⟩ := la
    rw [hk] at hl0
    obtain rfl := Option.some.inj hl0
    have nm' : cl.map (·.1) = N := by rw [nm, ← L.nm]
    have cx := caps_cells e0.hok ca
    have nfr : ∀ a ∈ adr cl, a ∉ frs outer := fun a m z => by
      obtain ⟨_, _, _, q, _⟩ := cx a m
      rw [e0.frf a z] at q
      cases q
    have e1 : Env0 P w K mg base A outer s (era H (adr cl)) := ⟨e0.frames, e0.mod, fun b o e => ⟨(e0.bs b o e).1, by
      by_cases m : b ∈ adr cl
      · exact era_in m
      · rw [era_out m]
        exact (e0.bs b o e).2⟩, e0.bsz, e0.funs, fun b hb => by
      by_cases m : b ∈ adr cl
      · exact era_in m
      · rw [era_out m]
        exact e0.frf b hb, hok_era e0.hok cx.lent, e0.bare⟩
    have of1 := obX_at e0.hok hf
    obtain ⟨⟨oc, xs, t, hoc, hdc, hvc⟩, _, _⟩ := e0.hok c' _ hco
    have dok : DOk one dV (fun _ => none) [] s.heap := by
      cases one with
      | none => exact d1 rfl
      | some y =>
        obtain ⟨D, u, e, hD⟩ := d2 y rfl
        exact ⟨D, u, e, obX_at e0.hok hD, rfl, by simp⟩
    have nol : s.heap.NoLimit := e0.mod.nolimit.keeps fun b u e => (e0.bs b u e).1
    have hlw : ws.length = N.length := by rw [rl.length, ← caps_len ca, ← nm', List.length_map]
    have h : (fb (startE N.length ws)).AllW (PQ K c H Q) (PX K c H E) d := by
      unfold lamF at h
      rw [if_pos (by rw [hlw]; exact beq_self_eq_true _)] at h
      exact h
    refine codeAny_mono (R := CR (L2.CX P w) outer P w (era H (adr cl)) s (fun v H' => (∀ a ∈ adr cl, H' a = none) → Q v (lay H' (adr cl) s.heap)) (fun cls d H' => (∀ a ∈ adr cl, H' a = none) → E cls d (lay H' (adr cl) s.heap))) ?_ fun r s' hc => cr_fore cx.lent nfr hc
    refine PySem.W.kla_callFunE hr.depth of1 rfl L.co L.gen rfl ⟨c', oc, xs, t, rfl, hoc, hdc, hvc⟩ (lam_bind po dok fun bs hbs => ?_)
    have par : ∀ y, one = some y → l.scope.names.lookup y = some .local := fun y hy => by
      obtain ⟨a, ha, e⟩ := par_of po y hy
      rw [← e]
      exact L.par a ha
    refine wpAny_newFunctionEnv (fun y hy => (L.own y hy).1) (fun y hy => par y.1 (hbs y hy)) (fun h1 hns hsb => ⟨nol.fresh _ hsb, ?_⟩) L.kind
    show codeAny _ _ (.expr l.body (cloEnv (lamQ x) l.scope s.heap.objs.size f c' cl)) _ _
    have kp : ∀ b o, s.heap.get? b = some o → h1.get? b = some o := fun b o e => hsb.extBut b o (Nat.ne_of_lt (Heap.lt_size e)) (Heap.get?_push_of_some _ e)
    have J := clo_start (q := lamQ x) (f := f) (c' := c') (tk := s.toks + bs.length) (E := fun cls d H' => (∀ a ∈ adr cl, H' a = none) → E cls d (lay H' (adr cl) s.heap)) L e1 e0.hok hr.hd nm' na ca hns kp
    have wd1 := wd.era cx
    have wdb : Wd c.bare d (era H (adr cl)) := ⟨⟨wd1.ok.inS, wd1.ok.inla, wd1.ok.inca⟩, wd1.st.bare, wd1.av⟩
    have gw : ∀ {c' : Cc} {H' : Hp}, SG c.bare c' (era H (adr cl)) H' → SG c (c.wide c') H (lay H' (adr cl) s.heap) := fun st => ⟨(Fwd.of (K := K) st wdb).wide, Step.lay ⟨fun b o e h1 h2 => st.st.keep b o e h1 h2, st.st.tbl, st.st.ins⟩ cx.lent⟩
    have ht : liftE K c.bare.C (wOf fun cls d H' => (∀ a ∈ adr cl, H' a = none) → E cls d (lay H' (adr cl) s.heap)) fb (L2.start N vs) (era H (adr cl)) (fun v H' => (∀ a ∈ adr cl, H' a = none) → Q v (lay H' (adr cl) s.heap)) := by
      refine ⟨c.bare, d, fun _ => 0, startE N.length ws, start_ok (c := c.bare) wdb hT rfl (RepL.weak (c := c.bare) (c1 := c) rfl rfl (fun _ h => h) (rl.plain (fun b o e n => by rw [era_out (cx.no e n)]; exact e) pl)), T.AllW.imp (fun d1 w1 hq => ?_) (fun d1 n fs hq => ?_) h⟩
      · intro c1 v H' st so rv fr
        have fw := Fwd.of (K := K) st wdb
        exact hq v _ (gw st) (StOk.mono (lay_mono fr) (so.to fw wd.ok)) ((Rep.back fw rv).mono (lay_mono fr))
      · intro c1 cls dx H' st so rv fr
        have fw := Fwd.of (K := K) st wdb
        obtain ⟨r1, d', vs', r2, r3, r4, r5⟩ := rv
        exact hq cls dx _ (gw st) (StOk.mono (lay_mono fr) (so.to fw wd.ok)) (RepX.mono (lay_mono fr) ⟨r1, d', vs', r2, r3, r4, RepL.back fw r5⟩)
    refine PySem.W.kla_codeExpr (wpAny_mono ((hbody c.bare.C A outer s (era H (adr cl)) (fun cls d H' => (∀ a ∈ adr cl, H' a = none) → E cls d (lay H' (adr cl) s.heap)) f c' cl hg (hr.deeper _)).run [] _ _ (era H (adr cl)) _ J ht) (fun v s' hq => ?_) fun e s' hq => hq)
    obtain ⟨w', H', J', rv, q⟩ := hq
    exact ⟨w', H', J'.os, J'.bare, J'.base, J'.hok, rv, q⟩
end
end PF
namespace PF
open PySem PySem.Spec PyProof.Rows L2
/-- all lambdas of the text that are called -/
def LamsOk (P : Program) (w : World) (K : PySem.W.Frag) (mg : Str → Option Value) (base : Heap) (k : Nat) (R : Str → List Nat → List W → T W) : Prop := ∀ x p ws, R x p ws = .bad ∨ LamOk P w K mg base k x p (R x p)
def fCallV (R : Str → List Nat → List W → T W) (i : Nat) : En → T W := fun ρ => match ρ[i]? with
  | some (.val (.clo x p ws)) => R x p ws
  | _ => .bad
theorem tr_callV {X : Cx} {E : WX} {R : Str → List Nat → List W → T W} {i k : Nat} {a : Str} {p1 p2 : Pos} (lo : LamsOk X.prog X.w X.K X.mg X.base k R) (hgd : X.A.guards = some []) (hr : Room (k + 1) X.A) (tk : Takes X E) (hN : X.N[i]? = some a) (hv : Vis X.env.scope a)
    (hd : (a == ("__debug__" : Str)) = false := by decide) (hcd : (a == ("__classdict__" : Str)) = false := by decide) : TrE Γ X E (.Call (.Name a p1) [] [] p2) (fCallV R i) := by
  constructor
  intro pins s σ H Q I h
  obtain ⟨c, d, oa, ρ, e, h⟩ := h
  unfold fCallV at h
  split at h
  · rename_i x p ws hρ
    obtain ⟨v, h1, rv⟩ := e.val i _ hρ
    have hf : ∃ f, v = .ref f := by
      cases rv with
      | clo => exact ⟨_, rfl⟩
    obtain ⟨f, rfl⟩ := hf
    refine wpAny_Call_Name_kw (thn ((pe_var (pos := p1) (i := i) hN hv hd hcd).run pins s σ H (fun v H1 => v = .ref f ∧ H1 = H) I ⟨.ref f, h1, rfl, rfl⟩) fun u s1 z => ?_)
    obtain ⟨v, H1, I1, r1, ev, eH⟩ := z
    subst ev
    subst eH
    obtain rfl : u = Value.ref f := r1
    rcases lo x p ws with z | z
    · rw [z] at h
      exact h.elim
    · have rv2 := rv
      cases rv2 with
      | clo la nm na ca pl rl =>
        obtain ⟨_, dV, pm, ctv, c', one, hf, _⟩ := la
        refine PySem.W.callWith_F0 ⟨_, _, _, _, obX_at I1.hok hf⟩ ?_
        refine wpAny_call (codeAny_mono (clo_call rv e.wd ⟨e.tT, e.kK⟩ I1.env0 hgd hr z h) fun r s' hq => ?_)
        match r, hq with
        | .error er, hq => exact tk _ _ (XE.of_call I1 (fun _ _ _ z => z) hq)
        | .ok (.ret u), hq => exact I1.after hq
        | .ok .next, hq => exact False.elim hq
        | .ok .brk, hq => exact False.elim hq
        | .ok .cont, hq => exact False.elim hq
  · exact h.elim
section
variable {X : Cx} {pins : List (Addr × Obj)} {σ : L2.St} {H : Hp} {s : Shared}
theorem Inv.adopt {a : Addr} {o : Obj} (I : Inv X pins σ H s) (e : s.heap.get? a = some o) (n : H a = none) (n0 : X.s_0.heap.get? a = none) (nL : a ≠ X.env.locals) (nC : ∀ y c, X.env.cells.lookup y = some c → c ≠ a) (nP : ∀ p ∈ X.pn ++ pins, p.1 ≠ a) : Inv X pins σ (upd H a (ObX a o)) s where
  ok := I.ok
  os := I.os
  bare := I.bare
  base := {
    keep := I.base.keep
    slot := I.base.slot
    free := fun b o e1 e2 e3 => by
      rw [upd_ne (fun z => by rw [z, n0] at e1; cases e1)]
      exact I.base.free b o e1 e2 e3
    there := I.base.there
    tups := fun b xs q => by
      have := I.base.tups b xs q
      rw [upd_ne (ne_of_none this n)]
      exact this
    frzs := fun b o xs q => by
      have := I.base.frzs b o xs q
      rw [upd_ne (ne_of_none this n)]
      exact this
    tbls := fun b ps q => by
      obtain ⟨m, this⟩ := I.base.tbls b ps q
      exact ⟨m, by rw [upd_ne (ne_of_none this n)]; exact this⟩ }
  loc := I.loc
  cell := I.cell
  free := by rw [upd_ne (Ne.symm nL)]; exact I.free
  freeC := fun y c h => by rw [upd_ne (nC y c h)]; exact I.freeC y c h
  pin := fun p hp => by
    obtain ⟨h1, h2, h3⟩ := I.pin p hp
    exact ⟨h1, by rw [upd_ne (nP p hp)]; exact h2, h3⟩
  hok := HOk.laidN I.hok (fun _ _ q => q) n (obX_ok e)
  len := I.len
/-- new since the state s -/
theorem Inv.adoptN {s' : Shared} {H' : Hp} {a : Addr} {o : Obj} (I : Inv X pins σ H s) (I' : Inv X pins σ H' s') (e : s'.heap.get? a = some o) (n : H' a = none) (hz : s.heap.objs.size ≤ a) : Inv X pins σ (upd H' a (ObX a o)) s' := by
  have ge : ∀ {b : Addr} {u : Obj}, s.heap.get? b = some u → b ≠ a := fun {b u} q z => by
    rw [z] at q
    exact Nat.lt_irrefl _ (Nat.lt_of_lt_of_le (Heap.lt_size q) hz)
  refine Inv.adopt I' e n ?_ (fun z => ?_) (fun y c h => ?_) fun p hp => ?_
  · cases q : X.s_0.heap.get? a with
    | none => rfl
    | some u => exact absurd (Nat.lt_of_lt_of_le (Heap.lt_size q) (Nat.le_trans I.sz hz)) (Nat.lt_irrefl _)
  · have := I.lt
    rw [← z] at this
    exact Nat.lt_irrefl _ (Nat.lt_of_lt_of_le this hz)
  · obtain ⟨v, u, q, _⟩ := I.cell y c h
    exact ge q
  · exact ge (I.pin p hp).1
end
theorem cloFrom_eq {c1 c2 : Cl} : ∀ (names : List (Str × NameKind)) (acc : Cl), (∀ y, (y, NameKind.free) ∈ names → c1.lookup y = c2.lookup y) → cloFrom c1 names acc = cloFrom c2 names acc
  | [], acc, _ => rfl
  | (n, k) :: r, acc, h => by
    unfold cloFrom
    by_cases hk : (k == NameKind.free) = true
    · have e : k = .free := eq_of_beq hk
      subst e
      rw [h n (List.mem_cons_self ..)]
      simp only [hk, if_true]
      exact cloFrom_eq r _ fun y hy => h y (List.mem_cons_of_mem _ hy)
    · simp only [hk, if_false]
      exact cloFrom_eq r acc fun y hy => h y (List.mem_cons_of_mem _ hy)
/-- its free names are cells of the maker, or free there -/
def FreeIn (sc scope : Scope) : Prop := ∀ y ∈ scope.names, y.2 = .free → sc.names.lookup y.1 = some .cell ∨ sc.names.lookup y.1 = some .free
def freeB (sc scope : Scope) : Bool := scope.names.all fun y => !decide (y.2 = .free) || (decide (sc.names.lookup y.1 = some .cell) || decide (sc.names.lookup y.1 = some .free))
theorem free_by {sc scope : Scope} (h : freeB sc scope = true) : FreeIn sc scope := fun y hy e => by
  unfold freeB at h
  have := List.all_eq_true.mp h y hy
  simp only [Bool.or_eq_true, Bool.not_eq_true', decide_eq_true_eq, decide_eq_false_iff_not] at this
  rcases this with z | z
  · exact absurd e z
  · exact z
theorem tr_lam {X : Cx} {E : WX} {x : Str} {p : List Nat} {params : Arguments} {body : Expr} {scope : Scope} {pos : Pos} {one : Option Str} (mk : MkT X.K X.mg X.base X.env.code (X.env.qual ++ "<lambda>")) (hq : X.env.qual ++ "<lambda>" = lamQ x) (hl : lamK X.K x p = some ⟨params, body, scope⟩) (po : ParOk one params) (fr : FreeIn X.env.scope scope)
    (hΓ : ∀ y a, X.env.cells.lookup y = some a → Γ.lookup y = some a) : TrE Γ X E (.Lambda params body scope pos) (fun _ => .ok (.lam x p)) := by
  obtain ⟨cc, PP, hcode, TB, hmT, hu⟩ := mk
  constructor
  intro pins s σ H Q I h
  obtain ⟨c, d, oa, ρ, e, h⟩ := h
  have hT : LamX.Tabs (tabL X.K) H := by rw [← e.tT]; exact e.st.tab
  have has : ∀ y ∈ scope.names, y.2 = .free → ∃ c, X.env.cells.lookup y.1 = some c := fun y hy ey => by
    rcases fr y hy ey with k | k
    · exact I.ok.has _ (.inl k)
    · exact I.ok.has _ (.inr k)
  refine lam_make I TB hcode hmT hu hT po has fun f c' dV pm ctv H1 s' zf zD I1 gr T1 hD hf hfn hfr hco => ?_
  have ecl : cloFrom X.env.cells scope.names [] = cloFrom c.C scope.names [] := cloFrom_eq _ _ fun y hy => by
    obtain ⟨a, ha⟩ := has _ hy rfl
    have ha : X.env.cells.lookup y = some a := ha
    rw [ha, e.cC, hΓ y a ha]
  rw [ecl, hq] at hf
  rw [hq] at hco
  -- the function's object
  have I2 := Inv.adoptN I I1 hf hfn zf
  have nf : ∀ {b : Addr} {o : HO}, H1 b = some o → upd H1 f (ObX f (lob (lamQ x) params body scope (cloFrom c.C scope.names []) dV pm c' ctv)) b = some o := fun {b o} q => by
    rw [upd_ne (ne_of_none q hfn)]
    exact q
  have so : ∀ (H2 : Hp), (∀ b o, H1 b = some o → H2 b = some o) → StOk c d H2 := fun H2 k => by
    exact (e.st.grow gr (by rw [e.tT]; exact T1)).mono k
  have stp : ∀ (H2 : Hp), (∀ b o, H1 b = some o → H2 b = some o) → SG c c H H2 := fun H2 k => .of (gr.step.trans (.same k))
  cases one with
  | none =>
    have hD : dV = .none := hD
    subst hD
    refine ⟨.ref f, _, I2, rfl, h (.ref f) _ (stp _ fun b o q => nf q) (so _ fun b o q => nf q) (.lam (l := ⟨params, body, scope⟩) ⟨hl, .none, pm, ctv, c', none, upd_same, nf hco, po, fun _ => rfl, fun y hy => (by cases hy)⟩)⟩
  | some y0 =>
    obtain ⟨D, u, rfl, gD, nD, _⟩ := hD
    obtain ⟨zD1, zD2⟩ := zD D rfl
    have nD2 : upd H1 f (ObX f (lob (lamQ x) params body scope (cloFrom c.C scope.names []) (.ref D) pm c' ctv)) D = none := by rw [upd_ne zD2]; exact nD
    have I3 := Inv.adoptN I I2 gD nD2 zD1
    have nn : ∀ {b : Addr} {o : HO}, H1 b = some o → upd (upd H1 f (ObX f (lob (lamQ x) params body scope (cloFrom c.C scope.names []) (.ref D) pm c' ctv))) D (ObX D { cls := .type "tuple", data := .seq #[u] }) b = some o := fun {b o} q => by
      rw [upd_ne (ne_of_none q nD)]
      exact nf q
    refine ⟨.ref f, _, I3, rfl, h (.ref f) _ (stp _ fun b o q => nn q) (so _ fun b o q => nn q) (.lam (l := ⟨params, body, scope⟩) ⟨hl, .ref D, pm, ctv, c', some y0, by rw [upd_ne (Ne.symm zD2)]; exact upd_same, nn hco, po, fun z => (by cases z), fun y hy => ⟨D, u, rfl, upd_same⟩⟩)⟩
end PF
namespace PF
open PySem PySem.Spec PyProof.Rows L2
def capV (ρ : En) : List Nat → Option (List W)
  | [] => some []
  | i :: r => match ρ[i]?, capV ρ r with
    | some (.val w), some ws => some (w :: ws)
    | _, _ => none
mutual
/-- lambdas with what they hold -/
def frW (S : Str → List Nat → Option (List Nat)) (ρ : En) : W → Option W
  | .lam x p => match S x p with
    | some ss => match capV ρ ss with
      | some ws => if plainL ws then some (.clo x p ws) else none
      | none => none
    | none => none
  | .lst ws => (frWs S ρ ws).map .lst
  | w => some w
def frWs (S : Str → List Nat → Option (List Nat)) (ρ : En) : List W → Option (List W)
  | [] => some []
  | w :: ws => match frW S ρ w, frWs S ρ ws with
    | some u, some us => some (u :: us)
    | _, _ => none
end
/-- plain ends alone -/
def plT : T W → T W
  | .ok w => if plain w then .ok w else .bad
  | .exc n fs => if plainL fs then .exc n fs else .bad
  | .bad => .bad
  | .ask n k => .ask n fun i => plT (k i)
  | .get i k => .get i fun c fs => plT (k c fs)
  | .put i fs k => .put i fs (plT k)
  | .new c fs k => .new c fs fun i => plT (k i)
theorem plT_all {P : Dw → W → Prop} {E : Dw → Nat → List W → Prop} : ∀ {t : T W} {d : Dw}, (plT t).AllW P E d → t.AllW (fun d w => plain w = true ∧ P d w) (fun d n fs => plainL fs = true ∧ E d n fs) d
  | .ok w, d, h => T.AllW.ite h
  | .exc n fs, d, h => T.AllW.ite h
  | .bad, _, h => h
  | .ask n k, d, h => by
    obtain ⟨e, he, x⟩ := h
    exact ⟨e, he, fun i hi => plT_all (x i hi)⟩
  | .get i k, d, h => by
    obtain ⟨c, fs, e, x⟩ := h
    exact ⟨c, fs, e, plT_all x⟩
  | .put i fs k, d, h => by
    obtain ⟨c, gs, e, x⟩ := h
    exact ⟨c, gs, e, plT_all x⟩
  | .new c fs k, d, h => plT_all (t := k d.os.length) h
def fLz (S : Str → List Nat → Option (List Nat)) (fs : En → T (List W)) (F : List W → T W) : En → T W := fun ρ => (fs ρ).bind fun ws => match frWs S ρ ws with
  | some us => plT (F us)
  | none => .bad
section
variable {K : PySem.W.Frag} {c c1 : Cc} {H : Hp}
mutual
theorem Rep.weakP (hS : c1.S = c.S) (hO : c1.O = c.O) (sub : ∀ b ∈ c.A, b ∈ c1.A) : ∀ {w : W} {v : V}, PF.plain w = true → Rep K c1 H w v → Rep K c H w v
  | _, _, _, .non => .non
  | _, _, _, .bl b => .bl b
  | _, _, _, .int i => .int i
  | _, _, _, .str x => .str x
  | _, _, p, .tup h r => .tup h (RepL.weakP hS hO sub (by unfold PF.plain at p; exact p) r)
  | _, _, p, .lst n h r => .lst (fun z => n (sub _ z)) h (RepL.weakP hS hO sub (by unfold PF.plain at p; exact p) r)
  | _, _, p, .dct n h r => .dct (fun z => n (sub _ z)) h (RepL.weakP hS hO sub (by unfold PF.plain at p; exact p) r)
  | _, _, p, .dcu n h r => .dcu (fun z => n (sub _ z)) h (RepL.weakP hS hO sub (by unfold PF.plain at p; exact p) r)
  | _, _, p, .ptp n h hd r => .ptp (fun z => n (sub _ z)) h hd (RepL.weakP hS hO sub (by unfold PF.plain at p; exact p) r)
  | _, _, _, .obj h => .obj (by rw [← hO]; exact h)
  | _, _, _, .scr h => .scr (h.imp (fun ⟨n, r⟩ => ⟨fun z => n (sub _ z), r⟩) id)
  | _, _, _, .stt => by rw [hS]; exact .stt
  | _, _, p, .lam h => by cases p
  | _, _, p, .clo h g n m pl r => by cases p
  | _, _, p, .exo h1 h2 h3 r => by cases p
  | _, _, p, .exn h1 => by cases p
  | _, _, _, .key h => .key h
theorem RepL.weakP (hS : c1.S = c.S) (hO : c1.O = c.O) (sub : ∀ b ∈ c.A, b ∈ c1.A) : ∀ {ws : List W} {vs : List V}, plainL ws = true → RepL K c1 H ws vs → RepL K c H ws vs
  | _, _, _, .nil => .nil
  | _, _, p, .cons h r => by
    unfold plainL at p
    obtain ⟨p1, p2⟩ := Bool.and_eq_true_iff.mp p
    exact .cons (Rep.weakP hS hO sub p1 h) (RepL.weakP hS hO sub p2 r)
end
end
theorem StOk.weakN {c c1 : Cc} {d : Dw} {H : Hp} (s : StOk c1 d H) (hS : c1.S = c.S) (hca : c1.ca = c.ca) (hla : c1.la = c.la) (hT : c1.T = c.T) (hK : c1.K = c.K) (hO : c1.O = c.O) (sub : ∀ b ∈ c.A, b ∈ c1.A) (ok : CcOk c) : StOk c d H := by
  obtain ⟨⟨cells, lefts, kk, r, h1, h2, h3, h4, h5, h6, h7, h8, h9⟩, ob⟩ := s
  rw [hS, hca, hla] at h1
  rw [hca] at h2
  rw [hla] at h3
  rw [hca, hla] at h8
  rw [hT] at h9
  exact ⟨⟨cells, lefts, kk, r, h1, h2, h3, h4, h5, h6, h7, h8, h9⟩, ⟨ok, by rw [← hO]; exact ob.len, by rw [← hO]; exact ob.nd, fun i a o q1 q2 => (by
    rw [← hO] at q1
    obtain ⟨dx, vs, g1, g2, g3, g4⟩ := ob.at_ i a o q1 q2
    rw [hK] at g1 g2
    exact ⟨dx, vs, g1, g2.weakP hS hO sub g4, g3, g4⟩), fun z => ob.no (by rw [hK]; exact z)⟩⟩
/-- what the names lead to -/
def lks (cl : Cl) : List Addr := cl.filterMap fun x => cl.lookup x.1
theorem lks_mem {cl : Cl} {a : Addr} (h : a ∈ lks cl) : ∃ y, cl.lookup y = some a := by
  obtain ⟨x, _, e⟩ := List.mem_filterMap.mp h
  exact ⟨x.1, e⟩
theorem mem_lks {cl : Cl} {y : Str} {a : Addr} (h : cl.lookup y = some a) : a ∈ lks cl := List.mem_filterMap.mpr ⟨(y, a), PySem.mem_of_lookup h, h⟩
/-- the slots that lambdas of this frame hold -/
def SlOk (X : Cx) (S : Str → List Nat → Option (List Nat)) : Prop := ∀ x p ss, S x p = some ss → ∃ l, lamK X.K x p = some l ∧ FreeIn X.env.scope l.scope ∧ ((cloFrom [] l.scope.names []).map (·.1)).Nodup ∧ ss.map (fun i => X.N[i]?) = ((cloFrom [] l.scope.names []).map (·.1)).map some
theorem cloFrom_fst {c1 c2 : Cl} : ∀ (names : List (Str × NameKind)) (a1 a2 : Cl), a1.map (·.1) = a2.map (·.1) → (cloFrom c1 names a1).map (·.1) = (cloFrom c2 names a2).map (·.1)
  | [], a1, a2, h => h
  | (n, k) :: r, a1, a2, h => by
    unfold cloFrom
    by_cases hk : (k == NameKind.free) = true
    · simp only [hk, if_true]
      exact cloFrom_fst r _ _ (by simp [h])
    · simp only [hk, if_false]
      exact cloFrom_fst r _ _ h
section
variable {X : Cx} {pins : List (Addr × Obj)} {σ : L2.St} {H : Hp} {s : Shared} {c : Cc} {d : Dw} {oa : Nat → Addr} {ρ : En} {S : Str → List Nat → Option (List Nat)}
theorem lks_none (I : Inv X pins σ H s) : ∀ a ∈ lks X.env.cells, H a = none := fun a m => by
  obtain ⟨y, e⟩ := lks_mem m
  exact I.freeC y a e
theorem lks_cell (I : Inv X pins σ H s) : ∀ a ∈ lks X.env.cells, ∃ o u, s.heap.get? a = some o ∧ o.data = .cell u := fun a m => by
  obtain ⟨y, e⟩ := lks_mem m
  obtain ⟨v, o, h1, h2⟩ := I.cell y a e
  exact ⟨o, v, h1, h2⟩
theorem lks_frs (I : Inv X pins σ H s) (hf : ∀ y, X.fn y = true) (hs : X.stack = X.env :: X.outer) (hl : X.env.frame = some X.env.locals) : ∀ a ∈ lks X.env.cells, a ∉ frs X.stack := fun a m z => by
  rw [hs] at z
  obtain ⟨y, e⟩ := lks_mem m
  rcases List.mem_cons.mp (show a ∈ X.env.locals :: frs X.outer from by
      unfold frs at z
      rw [List.filterMap_cons, hl] at z
      exact z) with z | z
  · obtain ⟨o, u, h1, h2⟩ := lks_cell I a m
    obtain ⟨mm, ⟨o', es, ep, q1, q2, _⟩, _⟩ := I.loc
    rw [← z, h1] at q1
    cases q1
    rw [h2] at q2
    cases q2
  · have h1 := I.ok.cab y a (hf y) e
    obtain ⟨_, o, h2, _⟩ := I.ok.funs.mem z
    exact Nat.lt_irrefl _ (Nat.lt_of_lt_of_le (Heap.lt_size h2) h1)
theorem caps_at (I : Inv X pins σ H s) (e : EnvOk X.K Γ c d oa ρ σ H) : ∀ (cl : Cl) (ss : List Nat) (ws : List W), (∀ x ∈ cl, X.env.cells.lookup x.1 = some x.2 ∧ Vis X.env.scope x.1 ∧ X.env.scope.names.lookup x.1 ≠ some .local) → ss.map (fun i => X.N[i]?) = (cl.map (·.1)).map some → capV ρ ss = some ws →
    ∃ vs, CapsAt (lay H (lks X.env.cells) s.heap) cl vs ∧ RepL X.K c H ws vs
  | [], [], ws, _, _, h => by
    cases h
    exact ⟨[], .nil, .nil⟩
  | [], i :: ss, ws, _, h, _ => by cases h
  | x :: cl, [], ws, _, h, _ => by cases h
  | (y, a) :: cl, i :: ss, ws, hc, hN, h => by
    unfold capV at h
    split at h
    · rename_i w ws' hw hr
      cases h
      simp only [List.map_cons, List.cons.injEq] at hN
      obtain ⟨vs, ca, rl⟩ := caps_at I e cl ss ws' (fun x hx => hc x (List.mem_cons_of_mem _ hx)) hN.2 hr
      obtain ⟨v, h1, h2⟩ := e.val i w hw
      obtain ⟨g1, g2, g3⟩ := hc (y, a) (List.mem_cons_self ..)
      obtain ⟨m, _, hl⟩ := I.loc
      obtain ⟨u, ru, lk⟩ := hl i y v hN.1 h1 g2
      rcases lk with ⟨k, _⟩ | ⟨_, c2, e2, o, ho, hd⟩
      · exact absurd k g3
      · have g1 : X.env.cells.lookup y = some a := g1
        rw [g1] at e2
        cases e2
        exact ⟨v :: vs, .cons (lay_in (mem_lks g1) ho) hd ru ca, .cons h2 rl⟩
    · cases h
theorem adr_nd (inj : ∀ x y a, X.env.cells.lookup x = some a → X.env.cells.lookup y = some a → x = y) : ∀ (cl : Cl), (cl.map (·.1)).Nodup → (∀ x ∈ cl, X.env.cells.lookup x.1 = some x.2) → (adr cl).Nodup
  | [], _, _ => .nil
  | (y, a) :: cl, nd, h => by
    have nd := List.nodup_cons.mp nd
    refine List.nodup_cons.mpr ⟨fun z => ?_, adr_nd inj cl nd.2 fun x hx => h x (List.mem_cons_of_mem _ hx)⟩
    obtain ⟨⟨y2, a2⟩, hm, ez⟩ := List.mem_map.mp z
    have ez : a2 = a := ez
    subst ez
    have e1 := h (y, a2) (List.mem_cons_self ..)
    have e2 := h (y2, a2) (List.mem_cons_of_mem _ hm)
    have : y = y2 := inj _ _ _ e1 e2
    subst this
    exact nd.1 (List.mem_map.mpr ⟨_, hm, rfl⟩)
mutual
theorem frz_rep (I : Inv X pins σ H s) (e : EnvOk X.K Γ c d oa ρ σ H) (hΓ : c.C = X.env.cells) (sl : SlOk X S) : ∀ {w w' : W} {v : V}, Rep X.K c H w v → frW S ρ w = some w' → Rep X.K c (lay H (lks X.env.cells) s.heap) w' v := fun {w w' v} r h => by
  have mono := lay_mono (h := s.heap) (lks_none I)
  cases r with
  | lam la =>
    rename_i f x p l
    unfold frW at h
    split at h
    · rename_i ss hs
      split at h
      · rename_i ws hw
        split at h
        · rename_i pl
          cases h
          obtain ⟨l', hl, fi, nd, hN⟩ := sl x p ss hs
          have : l = l' := by
            have := la.1
            rw [hl] at this
            exact (Option.some.inj this).symm
          subst this
          have fst := cloFrom_fst (c1 := c.C) (c2 := []) l.scope.names [] [] rfl
          have look : ∀ z ∈ cloFrom c.C l.scope.names [], X.env.cells.lookup z.1 = some z.2 ∧ Vis X.env.scope z.1 ∧ X.env.scope.names.lookup z.1 ≠ some .local := fun z hz => by
            obtain ⟨y, a⟩ := z
            rcases cloFrom_mem hz with q | ⟨q1, q2⟩
            · cases q
            · have k := fi _ q1 rfl
              have k : X.env.scope.names.lookup y = some .cell ∨ X.env.scope.names.lookup y = some .free := k
              obtain ⟨b, hb⟩ := I.ok.has y k
              rw [hΓ, hb] at q2
              have q2 : a = b := q2
              subst q2
              refine ⟨hb, .inr k, fun z => ?_⟩
              have z : X.env.scope.names.lookup y = some .local := z
              rcases k with k | k <;> rw [k] at z <;> cases z
          obtain ⟨vs, ca, rl⟩ := caps_at I e _ ss ws look (by rw [fst]; exact hN) hw
          exact .clo (la.kp ⟨fun b φ q => mono _ _ q, fun b φ q => mono _ _ q⟩) fst (adr_nd I.ok.inj _ (by rw [fst]; exact nd) fun x hx => (look x hx).1) ca pl (rl.mono mono)
        · cases h
      · cases h
    · cases h
  | lst n hq rl =>
    rename_i a vs ws
    unfold frW at h
    cases hu : frWs S ρ ws with
    | none =>
      rw [hu] at h
      cases h
    | some us =>
      rw [hu] at h
      cases h
      exact .lst n (mono _ _ hq) (frzs_rep I e hΓ sl rl hu)
  | non => cases h; exact .non
  | bl b => cases h; exact .bl b
  | int i => cases h; exact .int i
  | str x => cases h; exact .str x
  | tup hq rl => cases h; exact (Rep.tup hq rl).mono mono
  | dct n hq rl => cases h; exact (Rep.dct n hq rl).mono mono
  | dcu n hq rl => cases h; exact (Rep.dcu n hq rl).mono mono
  | ptp n hq hd rl => cases h; exact (Rep.ptp n hq hd rl).mono mono
  | obj hq => cases h; exact .obj hq
  | scr hq => cases h; exact (Rep.scr hq).mono mono
  | stt => cases h; exact .stt
  | clo la g n k pl rl => cases h; exact (Rep.clo la g n k pl rl).mono mono
  | exo h1 h2 h3 rl => cases h; exact (Rep.exo h1 h2 h3 rl).mono mono
  | exn h1 => cases h; exact (Rep.exn h1).mono mono
  | key h1 => cases h; exact (Rep.key h1).mono mono
theorem frzs_rep (I : Inv X pins σ H s) (e : EnvOk X.K Γ c d oa ρ σ H) (hΓ : c.C = X.env.cells) (sl : SlOk X S) : ∀ {ws us : List W} {vs : List V}, RepL X.K c H ws vs → frWs S ρ ws = some us → RepL X.K c (lay H (lks X.env.cells) s.heap) us vs := fun {ws us vs} r h => by
  cases r with
  | nil =>
    cases h
    exact .nil
  | cons q r =>
    unfold frWs at h
    split at h
    · rename_i u us' h1 h2
      cases h
      exact .cons (frz_rep I e hΓ sl q h1) (frzs_rep I e hΓ sl r h2)
    · cases h
end
end
section
variable {X : Cx} {E : WX} {e : Expr} {es : List Expr} {fs : En → T (List W)} {pos p : Pos} {F : List W → T W} {k : Nat} {ps : List Str} {x : Str} {S : Str → List Nat → Option (List Nat)}
theorem tr_callZ (h : FnGs X.prog X.w X.K X.mg X.base k x ps F) (hgd : X.A.guards = some []) (hr : Room k X.A) (tk : Takes X E) (hg : Gl X x) (hΓ : Γ = X.env.cells) (sl : SlOk X S) (ha : TrA Γ X E (e :: es) fs) (hfn : ∀ y, X.fn y = true) (hst : X.stack = X.env :: X.outer) (hlo : X.env.frame = some X.env.locals)
    (hdb : (x == ("__debug__" : Str)) = false := by decide) (he : starEach (e :: es) X.env = (false, eval e X.env) :: starEach es X.env := by rfl) (hpl : (backTo pos (starEach es X.env)).any (·.1) = false := by rfl) :
    TrE Γ X E (.Call (.Name x p) (e :: es) [] pos) (fLz S fs F) := by
  obtain ⟨f, fd, G, hm, hk, hb⟩ := h
  constructor
  intro pins s σ H Q I h
  obtain ⟨c, d, oa, ρ, ev, h⟩ := h
  have hA : liftA X.K Γ E fs σ H (fun vs H1 => ∃ c d1 ws, EnvOk X.K Γ c d1 oa ρ σ H1 ∧ RepL X.K c H1 ws vs ∧ (match frWs S ρ ws with | some us => plT (F us) | none => T.bad).AllW (PQ X.K c H1 Q) (PX X.K c H1 fun cls dx H' => E cls dx σ H') d1) :=
    liftA_then (P := fun c H => PQ X.K c H Q) ev h (fun st p => p.later st) @fun c1 w v H1 d1 _ r1 e1 h1 => ⟨c1, d1, w, e1, r1, h1⟩
  refine wpAny_Call_Name_kw (ld_glob I hg hm (PySem.W.callWith_K (h₀ := X.base) I.ok.mod.kin hk (thn (ha.run pos pins s σ H _ I hA) fun us s1 z => ?_) he hpl) hdb)
  obtain ⟨vs, H1, I1, r, c, d1, ws, e1, rl, q⟩ := z
  refine ⟨I1.kIn, ?_⟩
  have hC : c.C = X.env.cells := by rw [e1.cC, hΓ]
  have non := lks_none I1
  have cel := lks_cell I1
  have nfr := lks_frs I1 hfn hst hlo
  have mono := lay_mono (h := s1.heap) non
  cases hu : frWs S ρ ws with
  | none =>
    rw [hu] at q
    exact q.elim
  | some us' =>
    rw [hu] at q
    have rl' := frzs_rep I1 e1 hC sl rl hu
    have lay_at : ∀ a ∈ lks X.env.cells, ∃ o u, s1.heap.get? a = some o ∧ lay H1 (lks X.env.cells) s1.heap a = some (ObX a o) ∧ o.data = .cell u := fun a m => by
      obtain ⟨o, u, h1, h2⟩ := cel a m
      exact ⟨o, u, h1, lay_in m h1, h2⟩
    have n0 := I1.env0
    have e0 : Env0 X.prog X.w X.K X.mg X.base X.A X.stack s1 (lay H1 (lks X.env.cells) s1.heap) := ⟨n0.frames, n0.mod, fun b o eb => ⟨(n0.bs b o eb).1, by
      rw [lay_out]
      · exact (n0.bs b o eb).2
      · intro m
        obtain ⟨y, ey⟩ := lks_mem m
        have h1 := I1.ok.cab y b (hfn y) ey
        exact Nat.lt_irrefl _ (Nat.lt_of_lt_of_le (Nat.lt_of_lt_of_le (Heap.lt_size eb) I1.ok.bsz) h1)⟩, n0.bsz, n0.funs, fun b hb => by
      rw [lay_out (fun m => nfr b m hb)]
      exact n0.frf b hb, hok_lay n0.hok non fun a m => by
      obtain ⟨o, u, h1, _⟩ := cel a m
      exact ⟨o, h1, h1⟩, n0.bare⟩
    have wd : Wd c d1 (lay H1 (lks X.env.cells) s1.heap) := ⟨e1.ok, e1.st.mono mono, fun b hb => by
      obtain ⟨o, h1, h2⟩ := e1.av b hb
      exact ⟨o, mono _ _ h1, h2⟩⟩
    have keepL : ∀ {c2 : Cc} {H' : Hp}, SG c c2 (lay H1 (lks X.env.cells) s1.heap) H' → CellsX H' (lks X.env.cells) s1.heap := fun {c2 H'} st a m => by
      obtain ⟨o, u, h1, h2, h3⟩ := lay_at a m
      obtain ⟨kvs, hS⟩ := e1.st.S
      obtain ⟨xs, hl⟩ := e1.st.la
      exact ⟨o, u, h1, st.st.keep a _ h2 (Ne.symm (ne_of_none hS (non a m))) (Ne.symm (ne_of_none hl (non a m))) nofun, h3⟩
    have backS : ∀ {c2 : Cc} {H' : Hp}, SG c c2 (lay H1 (lks X.env.cells) s1.heap) H' → SG c c2 H1 (era H' (lks X.env.cells)) := fun {c2 H'} st => ⟨st.g, fun b o eb h1 h2 nt => by
      have m : b ∉ lks X.env.cells := fun z => by rw [non b z] at eb; cases eb
      rw [era_out m]
      exact st.st.keep b o (mono _ _ eb) h1 h2 nt, fun b qs eb => by
      have m : b ∉ lks X.env.cells := fun z => by rw [non b z] at eb; cases eb
      rw [era_out m]
      exact st.st.tbl b qs (mono _ _ eb), fun b C dx fs eb => by
      have m : b ∉ lks X.env.cells := fun z => by rw [non b z] at eb; cases eb
      rw [era_out m]
      exact st.st.ins b C dx fs (mono _ _ eb)⟩
    have sp : SpF X.K F vs (lay H1 (lks X.env.cells) s1.heap) (fun v H' => Lent H' (lks X.env.cells) s1.heap ∧ Q v (era H' (lks X.env.cells))) (fun cls dx H' => Lent H' (lks X.env.cells) s1.heap ∧ E cls dx σ (era H' (lks X.env.cells))) := by
      refine ⟨c, d1, us', ⟨e1.tT, e1.kK⟩, wd, rl', T.AllW.imp (fun d2 w hw => ?_) (fun d2 n fs hw => ?_) (plT_all q)⟩
      · intro c2 v H' st so rv
        have cx := keepL st
        exact ⟨cx.lent, hw.2 v _ (backS st) (so.era cx) (rv.plain (fun b o eb n => by rw [era_out (cx.no eb n)]; exact eb) hw.1)⟩
      · intro c2 cls dx H' st so rv
        have cx := keepL st
        obtain ⟨r1, d', vs', r2, r3, r4, r5⟩ := rv
        exact ⟨cx.lent, hw.2 cls dx _ (backS st) (so.era cx) ⟨r1, d', vs', r2, by rw [era_out (cx.no r3 nofun)]; exact r3, r4, r5.plain (fun b o eb n => by rw [era_out (cx.no eb n)]; exact eb) hw.1⟩⟩
    have hl : (us ++ []).length = ps.length := by rw [List.append_nil, ← r.length]; exact G.len _ _ _ _ sp
    have bt := hb s1 us I1.kIn hl
    rw [List.append_nil] at bt
    refine wpAny_call (codeAny_mono (G.go X.A X.stack s1 _ ⟨us, []⟩ us vs _ _ hgd hr e0 bt r sp) fun r s' hq => ?_)
    have hq := cr_back (E := fun cls dx H' => E cls dx σ H') non (fun a m => by
      obtain ⟨o, u, h1, _⟩ := cel a m
      exact ⟨o, h1⟩) nfr hq
    match r, hq with
    | .error er, hq => exact tk _ _ (XE.of_call I1 (fun _ _ _ z => z) hq)
    | .ok (.ret u), hq => exact I1.after hq
    | .ok .next, hq => exact False.elim hq
    | .ok .brk, hq => exact False.elim hq
    | .ok .cont, hq => exact False.elim hq
end
def defL (n np : Nat) (g : En → T (Fl × En)) : List W → T W := fun ws => if plainL ws then plT (defF n np g ws) else .bad
section
variable {P : Program} {w : World} {K : PySem.W.Frag} {mg : Str → Option Value} {base : Heap} {x qual : Str} {params : Arguments} {body : List Stmt} {scope : Scope} {f : Addr} {fd : FuncData}
theorem fn_trL {k : Nat} {N ps : List Str} {g : En → T (Fl × En)} (F : FunD K x qual params body scope [] [] f fd) (S : FnScope N ps scope)
    (hb : ∀ (cdv : Value) (A : Around) (o : List PySem.Env) (s : Shared) (H : Hp) (E : XK), fd.code = cdv → A.guards = some [] → Room k (A.deeper (envOfC qual scope s.heap.objs.size f cdv)) → TrSs (envOfC qual scope s.heap.objs.size f cdv).cells (cxOf (L2.CX P w) P w K mg base N qual scope f cdv A o s H E) E body g) :
    FnG P w K mg base (k + 1) f fd ps (SpF K (defL N.length ps.length g)) := by
  refine gdef F S (SpF.len fun ws h => ?_) fun cdv A o s H vs Q E hcd hg hr h => ⟨_, hb cdv A o s H E hcd hg hr, ?_⟩
  · unfold defL defF
    rw [if_neg (fun z => h (eq_of_beq z))]
    split <;> rfl
  · obtain ⟨c, d, ws, hT, wd, r, h⟩ := h
    obtain ⟨pl, h⟩ := T.AllW.ite h
    obtain ⟨_, h⟩ := T.AllW.ite (plT_all h)
    have wdb : Wd { c with M := [], C := (envOfC qual scope s.heap.objs.size f cdv).cells } d H := ⟨⟨wd.ok.inS, wd.ok.inla, wd.ok.inca⟩, wd.st.weakN rfl rfl rfl rfl rfl rfl (fun _ h => h) ⟨wd.ok.inS, wd.ok.inla, wd.ok.inca⟩, wd.av⟩
    have so1 : ∀ {c' : Cc} {d1 : Dw} {H' : Hp}, Fwd K { c with M := [], C := (envOfC qual scope s.heap.objs.size f cdv).cells } H c' H' → StOk c' d1 H' → StOk (c.wide c') d1 H' := fun fw e => e.weakN fw.S fw.ca fw.la fw.T fw.KK rfl (fun b hb => fw.sub b hb fun z => by cases z) ⟨wd.ok.inS, wd.ok.inla, wd.ok.inca⟩
    have st1 : ∀ {c' : Cc} {H' : Hp}, Fwd K { c with M := [], C := (envOfC qual scope s.heap.objs.size f cdv).cells } H c' H' → SG c (c.wide c') H H' := fun fw => ⟨⟨rfl, rfl, rfl, rfl, rfl, rfl, rfl, rfl, fw.O⟩, fun b o hb h1 h2 h3 => fw.step b o hb h1 h2 (fun z => by cases z) h3, fun b ps hb => fw.tbl b ps hb fun z => (by cases z), fun b C dx fs hb => fw.ins b C dx fs hb fun z => by cases z⟩
    refine ⟨_, d, fun _ => 0, startE N.length ws, start_ok wdb hT rfl (RepL.weakP (c := { c with M := [], C := (envOfC qual scope s.heap.objs.size f cdv).cells }) (c1 := c) rfl rfl (fun _ h => h) pl r), T.AllW.imp (fun d1 x hx => ?_) (fun d1 n fs y => ?_) (T.allW_bind.mp h)⟩
    · obtain ⟨fl, ρ'⟩ := x
      intro c' oa' σ' H' fw e'
      cases fl with
      | nx => exact hx.2 _ H' (st1 fw) (so1 fw e'.st) .non
      | rt w => exact fun v rv => hx.2 v H' (st1 fw) (so1 fw e'.st) (Rep.weakP (c := c.wide c') (c1 := c') fw.S rfl (fun b hb => fw.sub b hb fun z => by cases z) hx.1 rv)
      | bk => exact hx.elim
      | ct => exact hx.elim
      | rn ws => exact hx.elim
    · intro c' cls dx H' fw so r
      obtain ⟨r1, dd, vs, r2, r3, r4, r5⟩ := r
      exact y.2 cls dx H' (st1 fw) (so1 fw so) ⟨r1, dd, vs, r2, r3, r4, RepL.weakP (c := c.wide c') (c1 := c') fw.S rfl (fun b hb => fw.sub b hb fun z => by cases z) y.1 r5⟩
end
end PF
namespace PF
open PySem PySem.Spec PyProof.Rows L2
def TyT (X : Cx) (ty : Expr) (m : Value → Option Bool) : Prop := ∀ (a : Addr) (oe : Obj) (pn pins : List (Addr × Obj)) (s : Shared) (σ : L2.St) (H : Hp), Inv (X.suite a ((a, oe) :: pn)) pins σ H s → ∀ (R : Value → Shared → Prop) (E : Value → Shared → Prop),
  (∀ (c : Value) (h' : Heap), (∀ b o, s.heap.get? b = some o → h'.get? b = some o) → (∀ cls b, m cls = some b → PySem.W.Looks (model X.prog X.w) h' (typeOf (.ref a)) cls → PySem.W.Looks (model X.prog X.w) h' (excMatches (.ref a) c) b) → R c { s with heap := h' }) →
  wpAny (model X.prog X.w) (X.A.mark (some (.ref a))) (eval ty X.env) R E s
theorem tyT_two {X : Cx} {x y : Str} {np nq tp : Pos} {k : Nat} {c d : Value} (hg : Gl X x) (hm : X.mg x = some c) (hg' : Gl X y) (hm' : X.mg y = some d) (hdb : (x == ("__debug__" : Str)) = false := by decide) (hdb' : (y == ("__debug__" : Str)) = false := by decide)
    (h1 : starEach [Expr.Name x np, .Name y nq] X.env = (false, eval (.Name x np) X.env) :: starEach [.Name y nq] X.env := by rfl) (h2 : starEach [Expr.Name y nq] X.env = (false, eval (.Name y nq) X.env) :: starEach [] X.env := by rfl) : TyT X (.Tuple [.Name x np, .Name y nq] k tp) (fun cls => PySem.W.exmAny X.K cls [c, d]) := fun a oe pn pins s σ H S R E h => by
  refine wpAny_Tuple_spliced ?_
  rw [h1]
  show wpAny _ _ (spliced ((false, eval (.Name x np) X.env) :: backTo tp (starEach [Expr.Name y nq] X.env))) _ _ s
  refine Calls.spliced_cons (ld_glob (X := X.suite a ((a, oe) :: pn)) S hg hm ?_ hdb)
  rw [h2]
  show wpAny _ _ (spliced ((false, eval (.Name y nq) X.env) :: backTo tp (starEach [] X.env))) _ _ s
  refine Calls.spliced_cons (ld_glob (X := X.suite a ((a, oe) :: pn)) S hg' hm' ?_ hdb')
  refine Calls.spliced_nil ⟨by rw [sizeLine_eq]; show 2 ≤ 16777216; decide, ?_⟩
  refine h _ _ (fun b o q => Heap.get?_push_of_some _ q) fun cls b hb LT => ?_
  exact PySem.W.exm_tup2 (S.kIn.keeps fun b o q => Heap.get?_push_of_some _ q) LT (Heap.get?_push_size _ rfl) hb
def wK (m : Value → Option Bool) (D : Ends) (i j : Nat) : WX := fun cls dx σ H => m cls = some true ∧ ∀ a, H a = none → D.nx (((σ.set i (some (.ref a))).set j (some (.ref a))).set i none) (upd H a (ExV a cls dx))
section
variable {X : Cx} {pins : List (Addr × Obj)} {σ : L2.St} {H : Hp} {s : Shared}
theorem Inv.adoptO {a : Addr} {o : HO} (I : Inv X pins σ H s) (new : ObjOk X.prog X.w (upd H a o) s.heap a o) (n : H a = none) (n0 : X.s_0.heap.get? a = none) (nL : a ≠ X.env.locals) (nC : ∀ y c, X.env.cells.lookup y = some c → c ≠ a) (nP : ∀ p ∈ X.pn ++ pins, p.1 ≠ a) : Inv X pins σ (upd H a o) s where
  ok := I.ok
  os := I.os
  bare := I.bare
  base := {
    keep := I.base.keep
    slot := I.base.slot
    free := fun b o e1 e2 e3 => by
      rw [upd_ne (fun z => by rw [z, n0] at e1; cases e1)]
      exact I.base.free b o e1 e2 e3
    there := I.base.there
    tups := fun b xs q => by
      have := I.base.tups b xs q
      rw [upd_ne (ne_of_none this n)]
      exact this
    frzs := fun b o xs q => by
      have := I.base.frzs b o xs q
      rw [upd_ne (ne_of_none this n)]
      exact this
    tbls := fun b ps q => by
      obtain ⟨m, this⟩ := I.base.tbls b ps q
      exact ⟨m, by rw [upd_ne (ne_of_none this n)]; exact this⟩ }
  loc := I.loc
  cell := I.cell
  free := by rw [upd_ne (Ne.symm nL)]; exact I.free
  freeC := fun y c h => by rw [upd_ne (nC y c h)]; exact I.freeC y c h
  pin := fun p hp => by
    obtain ⟨h1, h2, h3⟩ := I.pin p hp
    exact ⟨h1, by rw [upd_ne (nP p hp)]; exact h2, h3⟩
  hok := HOk.laidN I.hok (fun _ _ q => q) n new
  len := I.len
end
theorem exV_ok {P : Program} {w : World} {H : Hp} {h : Heap} {a : Addr} {cls : Value} {dx : Option Addr} {oe : Obj} {vs : Array Value} (e : h.get? a = some oe) (z : Zc cls dx oe) (d : oe.data = .fields vs) : ObjOk P w H h a (ExV a cls dx) :=
  ⟨⟨oe, vs, e, z, d⟩, ⟨oe, e⟩, fun _ _ ⟨o, v, q, r⟩ k => ⟨o, v, k o q, r⟩⟩
theorem flyZ_kpN {B : Heap} {l : List PySem.Env} {e : Addr} {Z : Obj → Prop} {h h' : Heap} (kp : ∀ b o, h.get? b = some o → h'.get? b = some o) (fl : HandSPX.FlyingZ B l e Z h) : HandSPX.FlyingZ B l e Z h' := by
  obtain ⟨k1, k2, k3, oe, vs, T, oT, ts, h1, h2, h3, h4, h5, h6, h7, h8, h9⟩ := fl
  exact ⟨fun b o q => kp _ _ (k1 b o q), k2, k3.of_keeps fun b o q _ => ⟨o, kp _ _ q, rfl⟩, oe, vs, T, oT, ts, kp _ _ h1, h2, h3, h4, h5, h6, kp _ _ h7, h8, h9⟩
section
variable {X : Cx} {body : List Stmt} {ty : Expr} {n y : Str} {i j : Nat} {m : Value → Option Bool} {p2 p3 p4 ps pos : Pos} {tb : WX → TS}
theorem ps_tryK (hs : X.stack = X.env :: X.outer) (hf : X.env.frame = some X.env.locals) (hN : X.N.Nodup) (hex : X.ex = []) (hi : X.N[i]? = some n) (hl : X.env.kindOf n = some .local) (hj : X.N[j]? = some y) (hy : X.env.scope.names.lookup y = some .local)
    (hb : ∀ (W : WX) (pn : List (Addr × Obj)) (xe : Value → Shared → Prop), Takes (X.tr pn xe) W → PassesOwn (model X.prog X.w) X.A X.env xe → PSs (X.tr pn xe) body (tb W)) (ht : TyT X ty m)
    (hsw : swapsWith (.Name n p2) (some (.Name y p3)) p4.line X.env = pure false := by rfl) (hd : (n == ("__debug__" : Str)) = false := by decide) (hcd : (n == ("__classdict__" : Str)) = false := by decide) :
    PS X (.Try body [.ExceptHandler (some ty) (some n) [.Assign [.Name y p3] (.Name n p2) p4] ps] [] [] pos) (fun D σ H => tb (wK m D i j) D σ H) := by
  constructor
  intro pins s σ H D I h
  have ok := I.ok
  have hfr : X.A.frames = some (X.env :: X.outer) := by rw [ok.frames, hs]
  refine wpAny_Try_except (wpAny_mono ((hb (wK m D i j) (X.pn ++ pins) (fun e s1 => wpAny (model X.prog X.w) X.A (noteFrame e X.env) (fun _ s2 => wpAny (model X.prog X.w) X.A (setFlight e none) (fun _ s3 =>
    wpAny (model X.prog X.w) X.A (handleBy e X.env [.ExceptHandler (some ty) (some n) [.Assign [.Name y p3] (.Name n p2) p4] ps]) (SP X pins D) X.xe s3) X.xe s2) X.xe s1) (fun u s' xx => ?_) PassesOwn.looking).run [] s σ H D (I.toTry _) h) (fun f s1 hsp => ?_) (fun e s1 he => he))
  · obtain ⟨a, B, sI, pins', σ1, H1, cls, dx, rfl, J', nb, up, sky, na, os, ag, w⟩ := xx
    have J : Inv X pins σ1 H1 sI := J'.ofTry ok
    have sky1 : Sky B (X.env :: X.outer) a (Zc cls dx) X.env.locals s'.heap := by rw [← hs]; exact sky
    have Ba : B.get? a = none := by
      rcases sky1 with z | z | z
      · exact z.2.1
      · exact z.2.1
      · exact z.2.1
    show wpAny (model X.prog X.w) X.A (noteFrame (.ref a) X.env) _ _ _
    refine Sky.land Zc.steady hfr hf sky1 fun h3 fl3 up3 => ?_
    have J3 : Inv X pins σ1 H1 { s' with heap := h3 } := J.landed nb fl3.1 (up.trans up3) os ag
    obtain ⟨oe3, vs3, he3, hz3, hd3⟩ := fl3.there
    have nfr : a ∉ frs (X.env :: X.outer) := fun hm => by
      obtain ⟨_, o', e', hnf⟩ := fl3.2.2.1.mem hm
      rw [he3] at e'
      cases e'
      exact hnf _ hd3
    have nL : a ≠ X.env.locals := fun z => nfr (List.mem_filterMap.mpr ⟨X.env, List.mem_cons_self, by rw [hf, z]⟩)
    have nF : a ∉ X.fs := fun hm => by
      obtain ⟨e, he, q⟩ := List.mem_filterMap.mp hm
      exact nfr (List.mem_filterMap.mpr ⟨e, List.mem_cons_of_mem _ he, q⟩)
    have sIa : ∀ b o, sI.heap.get? b = some o → b ≠ a := fun b o q z => by
      rw [z] at q
      have := nb a o q (by rw [hs]; exact nfr)
      rw [Ba] at this
      cases this
    have n0 : X.s_0.heap.get? a = none := by
      cases q : X.s_0.heap.get? a with
      | none => rfl
      | some o =>
        obtain ⟨o', q'⟩ := J.base.there a o q (by rw [hex]; exact fun z => nomatch z)
        exact absurd rfl (sIa a o' q')
    have nC : ∀ y c, X.env.cells.lookup y = some c → c ≠ a := fun y c hc => by
      obtain ⟨v, o, q, _⟩ := J.cell y c hc
      exact sIa c o q
    have nP : ∀ p ∈ X.pn ++ pins, p.1 ≠ a := fun p hp => sIa p.1 p.2 (J.pin p hp).1
    have S3 := J3.suite he3 hd3 na nL nF
    obtain ⟨hb1, yes⟩ := w
    refine wpAny_handleBy_cons (codeAny_handlers_test (ht a oe3 _ _ _ _ _ S3 _ _ fun c h5 kp5 mt => ?_)) (by intro q; cases q)
    have LT : PySem.W.Looks (model X.prog X.w) h5 (typeOf (.ref a)) cls := fun A Q E s k q => wpAny_typeOf_ref (k _ _ (kp5 _ _ he3)) (by rw [hz3.1]; exact q)
    refine (mt cls true hb1 LT).here ?_
    have fl5 := flyZ_kpN kp5 fl3
    refine codeAny_handlers_suite_as (HandSPX.lands_againZ fl5 fun h4 fl4 up4 => ?_)
    have J4 : Inv X pins σ1 H1 { s' with heap := h4 } := J.landed nb fl4.1 (((up.trans up3).trans (Heap.UpToSlots.of_keeps kp5)).trans up4) os ag
    obtain ⟨oe4, vs4, he4, hz4, hd4⟩ := fl4.there
    refine store_ok (X := X.suite a ((a, oe4) :: (X.pn ++ pins))) (v := .ref a) (J4.suite he4 hd4 na nL nF) hN hi (.inl hl) rfl (fun s5 S5 => ?_) (.inr hl)
    have il : i < σ1.length := by rw [J.len]; exact (List.getElem?_eq_some_iff.mp hi).1
    have su : PSs (X.suite a ((a, oe4) :: (X.pn ++ pins))) [.Assign [.Name y p3] (.Name n p2) p4] (tAsg (tVar i) (gName j)) := pss_one (ps_set (X := X.suite a ((a, oe4) :: (X.pn ++ pins))) hN hj (.inl hy) (pe_var (X := X.suite a ((a, oe4) :: (X.pn ++ pins))) (i := i) hi (.inl hl) hd hcd) hsw (.inr hy))
    refine wpAny_mono (su.run [] s5 (σ1.set i (some (.ref a))) H1 { nx := fun σ6 H6 => σ6 = (σ1.set i (some (.ref a))).set j (some (.ref a)) ∧ H6 = H1, rt := fun _ _ => False, bk := fun _ _ => False, ct := fun _ _ => False } S5 ⟨.ref a, List.getElem?_set_self il, rfl, rfl⟩) (fun f s6 hsp => ?_) (fun _ _ z => False.elim z)
    match f, hsp with
    | .next, ⟨σ6, H6, S6, e6, e7⟩ =>
      subst e6
      subst e7
      obtain ⟨g6, _⟩ := S6.pin (a, oe4) (List.mem_append.mpr (.inl List.mem_cons_self))
      have J6 : Inv X pins ((σ1.set i (some (.ref a))).set j (some (.ref a))) H6 s6 := S6.unsuite ok
      have J7 := Inv.adoptO (o := ExV a cls dx) J6 (exV_ok g6 hz4 hd4) na n0 nL nC nP
      exact gone_ok J7 hN hi hl fun s7 J8 => ⟨_, _, J8, yes a na⟩
    | .brk, ⟨σ6, H6, S6, q6⟩ => exact q6.elim
    | .cont, ⟨σ6, H6, S6, q6⟩ => exact q6.elim
    | .ret u, ⟨v6, σ6, H6, S6, r6, q6⟩ => exact q6.elim
  · match f, hsp with
    | .next, ⟨σ', H', J', q⟩ => exact wpAny_execs_nil ⟨σ', H', J'.ofTry ok, q⟩
    | .brk, ⟨σ', H', J', q⟩ => exact ⟨σ', H', J'.ofTry ok, q⟩
    | .cont, ⟨σ', H', J', q⟩ => exact ⟨σ', H', J'.ofTry ok, q⟩
    | .ret u, ⟨v, σ', H', J', r, q⟩ => exact ⟨v, σ', H', J'.ofTry ok, r, q⟩
end
end PF
namespace PF
open PySem PySem.Spec PyProof.Rows L2
def putO (ks : Option Nat) (w : W) (ρ : En) : En := match ks with
  | some q => ρ.set q (.val w)
  | none => ρ
def sTryK (ks : Option Nat) (f : En → T W) (ns : List Nat) (i j : Nat) : En → T (Fl × En) := fun ρ => (f ρ).catch (fun w => .ok (.nx, putO ks w ρ)) fun n fs => if ns.contains n then .ok (.nx, (ρ.set j (.val (.exo n fs))).set i .un) else .bad
theorem set_three {α : Type} (σ : List α) {i j : Nat} (h : i ≠ j) (x y z : α) : ((σ.set i x).set j y).set i z = (σ.set j y).set i z := by
  rw [List.set_comm _ _ h, List.set_set]
section
variable {X : Cx} {E : XK} {e ty : Expr} {f : En → T W} {n y : Str} {i j : Nat} {m : Value → Option Bool} {ns : List Nat} {p1 p2 p3 p4 ps pos : Pos}
theorem tryK_exc {c : Cc} {d d0 : Dw} {oa : Nat → Addr} {ρ : En} {σ : L2.St} {H : Hp} {D : Ends} (hij : i ≠ j) (hm : ∀ n ∈ ns, m (.ref (He.ga X.K (xName n))) = some true) (ev : EnvOk X.K Γ c d oa ρ σ H) {n : Nat} {fs : List W} (hx : (if ns.contains n then .ok (.nx, (ρ.set j (.val (.exo n fs))).set i .un) else .bad : T (Fl × En)).AllW (PSq X.K Γ c H D) (PXs X.K c H E) d0) :
    PX X.K c H (fun cls dx H' => wK m D i j cls dx σ H') d0 n fs := fun c cls dx H1 st so rx => by
  obtain ⟨hn, hx⟩ := T.AllW.ite hx
  obtain ⟨r1, d', vs, r2, r3, r4, r5⟩ := rx
  subst r1
  subst r2
  refine ⟨hm n (List.contains_iff_mem.mp hn), fun a na => ?_⟩
  have e1 := ev.step st so
  have e2 := e1.step (H' := upd H1 a (ExV a (.ref (He.ga X.K (xName n))) (some d'))) (.new na) (e1.st.new na)
  have rep : Rep X.K c (upd H1 a (ExV a (.ref (He.ga X.K (xName n))) (some d'))) (.exo n fs) (.ref a) := .exo upd_same (by rw [upd_ne (ne_of_none r3 na)]; exact r3) r4 (r5.step (.new na) e1.st e1.ok)
  have e3 := (e2.set (i := j) rep).un (v := i)
  rw [set_three σ hij]
  exact hx _ oa _ _ (.of (st.trans (.new na)) ev.wd) e3
theorem tr_tryKA {q : Nat} {z : Str} {pz : Pos} (hs : X.stack = X.env :: X.outer) (hf : X.env.frame = some X.env.locals) (hN : X.N.Nodup) (hex : X.ex = []) (hi : X.N[i]? = some n) (hl : X.env.kindOf n = some .local) (hj : X.N[j]? = some y) (hy : X.env.scope.names.lookup y = some .local) (hij : i ≠ j) (ht : TyT X ty m) (hm : ∀ n ∈ ns, m (.ref (He.ga X.K (xName n))) = some true)
    (hq : X.N[q]? = some z) (hz : X.env.scope.names.lookup z = some .local) (he : ∀ (W : WX) (pn : List (Addr × Obj)) (xe : Value → Shared → Prop), Takes (X.tr pn xe) W → TrE Γ (X.tr pn xe) W e f) (hse : swapsWith e (some (.Name z pz)) p1.line X.env = pure false := by rfl)
    (hsw : swapsWith (.Name n p2) (some (.Name y p3)) p4.line X.env = pure false := by rfl) (hd : (n == ("__debug__" : Str)) = false := by decide) (hcd : (n == ("__classdict__" : Str)) = false := by decide) :
    TrS Γ X E (.Try [.Assign [.Name z pz] e p1] [.ExceptHandler (some ty) (some n) [.Assign [.Name y p3] (.Name n p2) p4] ps] [] [] pos) (sTryK (some q) f ns i j) := by
  refine ps_imp (ps_tryK (tb := fun W => tAsg (liftE X.K Γ W f) (gName q)) hs hf hN hex hi hl hj hy (fun W pn xe tk' _ => pss_one (ps_set (X := X.tr pn xe) hN hq (.inl hz) (he W pn xe tk') hse (.inr hz))) ht hsw hd hcd) fun D σ H qq => ?_
  obtain ⟨c, d, oa, ρ, ev, qq⟩ := qq
  refine ⟨c, d, oa, ρ, ev, T.AllW.imp (fun d1 w hx => ?_) (fun d1 n fs hx => tryK_exc hij hm ev hx) (T.allW_catch.mp qq)⟩
  intro _ v H1 st so rv
  exact hx _ oa _ H1 (.of st ev.wd) ((ev.step st so).set rv)
end
structure KxC (K : PySem.W.Frag) (C : Addr) : Prop where
  cl : (PySem.W.clsIn K C).isSome = true
  ha : PySem.W.findIn K (.ref C) "__class__" = some (some (.builtin "object.__class__"))
  hn : PySem.W.specialIn K (.builtin "object.__class__") "__get__" = some (some (.builtin "getset_descriptor.__get__"))
  ht : PySem.W.takesIn K (.builtin "object.__class__") = some true
  hm : PySem.W.mroIn K C (.type "object") = some true
  xf : XfC K C
theorem kxB_ok {K : PySem.W.Frag} {C : Addr} (h : kxB K C = true) : KxC K C := by
  unfold kxB at h
  simp only [Bool.and_eq_true, decide_eq_true_eq] at h
  exact ⟨h.1, h.2.1, h.2.2.1, h.2.2.2.1, h.2.2.2.2.1, xfB_ok h.2.2.2.2.2⟩
/-- n: which of the errors, b: whether it is one of the class y -/
def IsX (K : PySem.W.Frag) (y : Str) (n : Nat) (b : Bool) : Prop := KxC K (He.ga K (xName n)) ∧ PySem.W.kitOne K (.ref (He.ga K (xName n))) (.ref (He.ga K y)) = some b
def isxW (m : List (Nat × Bool)) : W → T W
  | .exo n _ => match m.lookup n with
    | some b => .ok (.bl b)
    | none => .bad
  | _ => .bad
theorem exo_inst {P : Program} {w : World} {K : PySem.W.Frag} {H : Hp} {h : Heap} {a d : Addr} {C : Addr} {fs : List (Str × V)} (hok : HOk P w H h) (h1 : H a = some (ExV a (.ref C) (some d))) (h2 : H d = some (.xd fs)) : ∃ oe od mA, PySem.W.InstAt h a oe C (some od) ∧ h.Ns1 d mA ∧ h.get? d = some od ∧ ∀ f, RelO (fs.lookup f) (mA f) := by
  obtain ⟨⟨oe, vs, e1, hz, hd⟩, _⟩ := hok a _ h1
  obtain ⟨mA, hns, hr⟩ := (show ObjOk P w H h d (.xd fs) from hok d _ h2)
  obtain ⟨od, ho, hl⟩ := lookIn_ns hns
  exact ⟨oe, od, mA, ⟨e1, hz.1, by unfold PySem.W.notCls; rw [hd] <;> rfl, by rw [hz.2]; exact ho⟩, hns, ho, hr⟩
theorem exn_inst {P : Program} {w : World} {K : PySem.W.Frag} {H : Hp} {h : Heap} {a : Addr} {C : Addr} (hok : HOk P w H h) (h1 : H a = some (ExV a (.ref C) none)) : ∃ oe, PySem.W.InstAt h a oe C none := by
  obtain ⟨⟨oe, vs, e1, hz, hd⟩, _⟩ := hok a _ h1
  exact ⟨oe, ⟨e1, hz.1, by unfold PySem.W.notCls; rw [hd] <;> rfl, by rw [hz.2]; trivial⟩⟩
/-- an error of the class C, with fields or without -/
def ErrAt (H : Hp) (a C : Addr) : Prop := (∃ (d : Addr) (fs : List (Str × V)), H a = some (ExV a (.ref C) (some d)) ∧ H d = some (.xd fs)) ∨ H a = some (ExV a (.ref C) none)
theorem ErrAt.inst {P : Program} {w : World} {H : Hp} {h : Heap} {a C : Addr} (K : PySem.W.Frag) (hok : HOk P w H h) (e : ErrAt H a C) : ∃ oe od, PySem.W.InstAt h a oe C od := by
  rcases e with ⟨d, fs, h1, h2⟩ | h1
  · obtain ⟨oe, od, mA, J, _⟩ := exo_inst (K := K) hok h1 h2
    exact ⟨oe, _, J⟩
  · obtain ⟨oe, J⟩ := exn_inst (K := K) hok h1
    exact ⟨oe, _, J⟩
theorem call_isX {X : Cx} : CallR X (.builtin "isinstance") (fun xs H Q => ∃ (a C : Addr) (c : Addr) (b : Bool), xs = [.ref a, .ref c] ∧ KxC X.K C ∧ PySem.W.kitOne X.K (.ref C) (.ref c) = some b ∧ ErrAt H a C ∧ Q (.bl b) H) := by
  intro pins s σ H xs us Q I r h
  obtain ⟨a, C, c, b, rfl, k, e, h1, q⟩ := h
  cases r with
  | cons rx rr =>
    cases rr with
    | cons rt rr =>
      cases rr
      cases rx
      cases rt
      obtain ⟨oe, od, J⟩ := h1.inst X.K I.hok
      exact PySem.W.kia_one (PySem.W.kitx_exc k.cl k.xf.ga k.xf.gg k.xf.exC k.ha k.hn k.ht k.hm) I.kIn J e (fun z => nomatch z) fun tk => ⟨.bl b, H, I.kept (t' := tk) fun _ _ z => z, rfl, q⟩
theorem tr_isx {X : Cx} {E : WX} {a : Expr} {fa : En → T W} {y : Str} {p p2 pos : Pos} {m : List (Nat × Bool)} (hi : ∀ n b, m.lookup n = some b → IsX X.K y n b) (hg : Gl X "isinstance") (hm : X.mg "isinstance" = none) (hgY : Gl X y) (hmY : X.mg y = some (.ref (He.ga X.K y))) (ha : TrE Γ X E a fa)
    (hd : (y == ("__debug__" : Str)) = false := by decide)
    (hs1 : starEach [a, .Name y p2] X.env = (false, eval a X.env) :: starEach [.Name y p2] X.env := by rfl) (hs2 : starEach [.Name y p2] X.env = (false, eval (.Name y p2) X.env) :: starEach [] X.env := by rfl) (hpl : (backTo pos (starEach [.Name y p2] X.env)).any (·.1) = false := by rfl) :
    TrE Γ X E (.Call (.Name "isinstance" p) [a, .Name y p2] [] pos) (f1 (isxW m) fa) := pe_imp (pe_callB (id := "isinstance") call_isX hg hm (by decide +kernel) (pa_cons ha (pa_cons (pe_glob (v := .ref (He.ga X.K y)) hgY hmY rfl hd) pa_nil hs2) hs1) (by decide) (by decide) hs1 hpl) fun σ H Q h => by
  obtain ⟨c, d, oa, ρ, e, h⟩ := h
  refine lift_then (P := fun c H => PQ X.K c H Q) e h (fun st p => p.later st) @fun c1 w v H1 d1 _ r1 e1 h1 => ?_
  cases r1 with
  | exo g1 g2 g3 g4 =>
    rename_i a' d' n fs vs
    have h1 : (match m.lookup n with | some b => T.ok (W.bl b) | none => T.bad).AllW (PQ X.K c1 H1 Q) _ d1 := h1
    cases hl : m.lookup n with
    | none =>
      rw [hl] at h1
      exact h1.elim
    | some b =>
      rw [hl] at h1
      obtain ⟨k1, k2⟩ := hi n b hl
      exact ⟨_, _, _, b, rfl, k1, k2, .inl ⟨_, _, g1, g2⟩, PQ.now e1.wd h1 (.bl b)⟩
  | exn g1 =>
    rename_i a' n
    have h1 : (match m.lookup n with | some b => T.ok (W.bl b) | none => T.bad).AllW (PQ X.K c1 H1 Q) _ d1 := h1
    cases hl : m.lookup n with
    | none =>
      rw [hl] at h1
      exact h1.elim
    | some b =>
      rw [hl] at h1
      obtain ⟨k1, k2⟩ := hi n b hl
      exact ⟨_, _, _, b, rfl, k1, k2, .inr g1, PQ.now e1.wd h1 (.bl b)⟩
  | _ => exact h1.elim
def xfW (f : Str) (ns : List Nat) : W → T W
  | .exo n fs => if ns.contains n then (match fs[(xFlds n).idxOf f]? with
    | some w => .ok w
    | none => .bad) else .bad
  | _ => .bad
theorem zip_lk : ∀ (ks : List Str) (vs : List V) (k : Nat) (f : Str) (hk : ks[k]? = some f) (hv : k < vs.length), ks.Nodup → ((ks.zip vs).reverse).lookup f = some vs[k] := by
  intro ks
  induction ks with
  | nil => intro vs k f hk; simp at hk
  | cons x ks ih =>
    intro vs k f hk hv hu
    cases vs with
    | nil => simp at hv
    | cons v vs =>
      rw [List.zip_cons_cons, List.reverse_cons, List.lookup_append]
      cases k with
      | zero =>
        have hx : x = f := by simpa using hk
        subst hx
        have hnone : ((ks.zip vs).reverse).lookup x = none := by
          rw [List.lookup_eq_none_iff]
          intro p hp
          have hp2 := List.of_mem_zip (List.mem_reverse.mp hp)
          have : x ≠ p.1 := fun z => (List.nodup_cons.mp hu).1 (z ▸ hp2.1)
          simpa using this
        rw [hnone]
        simp [List.lookup]
      | succ k =>
        rw [ih vs k f (by simpa using hk) (by simpa using hv) (List.nodup_cons.mp hu).2]
        simp
/-- what must be known of the classes whose field f is read -/
def FldX (K : PySem.W.Frag) (f : Str) (n : Nat) : Prop := XfC K (He.ga K (xName n)) ∧ PySem.W.findIn K (.ref (He.ga K (xName n))) f = some none ∧ (xFlds n)[(xFlds n).idxOf f]? = some f ∧ (xFlds n).Nodup
theorem tr_xattr {X : Cx} {E : WX} {a : Expr} {fa : En → T W} {f : Str} {pos : Pos} {ns : List Nat} (hi : ∀ n ∈ ns, FldX X.K f n) (ha : TrE Γ X E a fa) (hb : attributeBase a f X.env (eval a X.env) = eval a X.env := by rfl) : TrE Γ X E (.Attribute a f pos) (f1 (xfW f ns) fa) := by
  constructor
  intro pins s σ H Q I h
  obtain ⟨c, d, oa, ρ, e, h⟩ := h
  have hA : liftE X.K Γ E fa σ H (fun v H1 => ∃ (a' d' : Addr) (n : Nat) (vs : List V) (v' : V), v = .ref a' ∧ H1 a' = some (ExV a' (.ref (He.ga X.K (xName n))) (some d')) ∧ H1 d' = some (.xd ((xFlds n).zip vs).reverse) ∧ ((xFlds n).zip vs).reverse.lookup f = some v' ∧ n ∈ ns ∧ Q v' H1) := by
    refine lift_then (P := fun c H => PQ X.K c H Q) e h (fun st p => p.later st) @fun c1 w v H1 d1 _ r1 e1 h1 => ?_
    cases r1 with
    | exo g1 g2 g3 g4 =>
      rename_i a' d' n fs vs
      obtain ⟨hn, h1⟩ := T.AllW.ite (show (if ns.contains n then _ else T.bad : T W).AllW (PQ X.K c1 H1 Q) _ d1 from h1)
      have hn := List.contains_iff_mem.mp hn
      obtain ⟨k1, k2, k3, k4⟩ := hi n hn
      cases hw : fs[(xFlds n).idxOf f]? with
      | none =>
        rw [hw] at h1
        exact h1.elim
      | some w' =>
        rw [hw] at h1
        obtain ⟨v', hv1, hv2⟩ := g4.get hw
        have hkv : (xFlds n).idxOf f < vs.length := (List.getElem?_eq_some_iff.mp hv1).1
        have hlk := zip_lk (xFlds n) vs _ f k3 hkv k4
        rw [List.getElem?_eq_getElem hkv] at hv1
        cases hv1
        exact ⟨a', d', n, vs, _, rfl, g1, g2, hlk, hn, PQ.now e1.wd h1 hv2⟩
    | exn g1 =>
      obtain ⟨hn, h1⟩ := T.AllW.ite (show (if ns.contains _ then _ else T.bad : T W).AllW (PQ X.K c1 H1 Q) _ d1 from h1)
      exact h1.elim
    | _ => exact h1.elim
  refine attr_of hb (thn (ha.run pins s σ H _ I hA) fun u s1 hh => ?_)
  obtain ⟨x, H1, I1, rx, a', d', n, vs, v', ex, g1, g2, hlk, hn, q⟩ := hh
  subst ex
  obtain rfl : u = Value.ref a' := rx
  obtain ⟨k1, k2, k3, k4⟩ := hi n hn
  obtain ⟨oe, od, mA, J, hns, ho, hr⟩ := exo_inst (K := X.K) I1.hok g1 g2
  obtain ⟨od', ho', hl⟩ := lookIn_ns hns
  rw [ho] at ho'
  cases ho'
  obtain ⟨u, hu, ru⟩ := RelO.some_of (v := v') (o := mA f) (by rw [← hlk]; exact hr f)
  exact HandSPX.exc_get I1.kIn J k1.ga k1.gg k1.exC (PySem.W.findObj_own k1.hdC k2 rfl (by rw [hl, hu])) (handed_of ru) ⟨v', H1, I1.tok _, ru, q⟩
end PF
namespace PF
open PySem PySem.Spec PyProof.Rows L2
theorem tr_d0 {X : Cx} {E : WX} {pos : Pos} : TrE Γ X E (.Dict [] [] pos) (fun _ => .ok (.dct [] [])) := pe_imp pe_dnewK fun σ H Q h => by
  obtain ⟨c, d, oa, ρ, e, h⟩ := h
  intro p hp
  exact h _ _ (.new hp) (e.st.new hp) (.dct (kvs := []) (e.wd.fresh hp) upd_same .nil)
mutual
def W.toR : W → Option PyData
  | .non => some .none
  | .bl b => some (.bool b)
  | .int i => some (.int i)
  | .str x => some (.str x)
  | .tup ws => match toRs ws with
    | some ds => some (.tuple ds)
    | none => none
  | .lst ws => match toRs ws with
    | some ds => some (.list ds)
    | none => none
  | .dct [] [] => some (.dict [])
  | _ => none
def toRs : List W → Option (List PyData)
  | [] => some []
  | w :: ws => match W.toR w, toRs ws with
    | some d, some ds => some (d :: ds)
    | _, _ => none
end
theorem pairs_nil {prog : Program} {w : World} {κ : Type} [DecidableEq κ] {knd : PySem.KeyKind prog w κ} {es : List DictEntry} (h : Pairs knd es []) : es = [] := by
  cases h
  rfl
section
variable {X : Cx} {pins : List (Addr × Obj)} {σ : L2.St} {H : Hp} {s : Shared} {c : Cc}
theorem sys_at (I : Inv X pins σ H s) (sy : sysB X.K = true) : ∃ o, s.heap.get? sysModules = some o ∧ o.cls = .type "dict" := by
  unfold sysB at sy
  split at sy
  · rename_i o e
    exact ⟨o, I.kIn _ _ e, of_decide_eq_true sy⟩
  · cases sy
mutual
theorem Rep.reads (I : Inv X pins σ H s) (sy : sysB X.K = true) : ∀ {w : W} {v : V} {u : Value} {d : PyData}, Rep X.K c H w v → w.toR = some d → RelV v u → ∃ as, Reads s.heap u d as ∧ sysModules ∉ as := fun {w v u d} r e ru => by
  cases r with
  | non => cases e; cases ru; exact ⟨_, Reads.none, by simp⟩
  | bl b => cases e; cases ru; exact ⟨_, Reads.bool b, by simp⟩
  | int i => cases e; obtain ⟨t, rfl⟩ := ru; exact ⟨_, Reads.int i t, by simp⟩
  | str x => cases e; obtain ⟨t, rfl⟩ := ru; exact ⟨_, Reads.str x t, by simp⟩
  | tup h rl =>
    unfold W.toR at e
    split at e
    · rename_i ds hd
      cases e
      cases ru
      obtain ⟨its, o, n, rv, ho, hc, hdt⟩ : ∃ (its : List Value) (o : Obj) (n : Nat), Vals _ its ∧ s.heap.get? _ = some o ∧ o.cls = .type "tuple" ∧ o.data = .seq its.toArray n := by
        rcases h with h | ⟨o, its, n, e, hc, hd, _, hv⟩
        · obtain ⟨_, its, hv, o, e, hc, n, hd⟩ := h.ok I.hok
          exact ⟨its, o, n, hv, e, hc, hd⟩
        · exact ⟨its.toList, o, n, hv, I.kIn _ _ e, hc, by simp [hd]⟩
      obtain ⟨as, q1, q2⟩ := RepL.reads I sy rl hd rv
      exact ⟨_, Reads.tuple ho hc hdt (by simpa using q1), q2⟩
    · cases e
  | lst n0 h rl =>
    unfold W.toR at e
    split at e
    · rename_i ds hd
      cases e
      cases ru
      obtain ⟨_, its, n, rv, ho⟩ := I.hok _ _ h
      have hc : (({ cls := .type "list", data := .seq its.toArray n } : Obj)).cls = .type "list" := rfl
      have hdt : (({ cls := .type "list", data := .seq its.toArray n } : Obj)).data = .seq its.toArray n := rfl
      obtain ⟨as, q1, q2⟩ := RepL.reads I sy rl hd rv
      refine ⟨_, Reads.list ho hc hdt (by simpa using q1), ?_⟩
      simp only [List.mem_cons, not_or]
      refine ⟨fun z => ?_, q2⟩
      obtain ⟨o', e1, e2⟩ := sys_at I sy
      rw [z, ho] at e1
      cases e1
      exact absurd (show Value.type "list" = Value.type "dict" from e2) (by decide)
    · cases e
  | @dct a kvs ws n0 h rl =>
    cases kvs with
    | cons kv kvs =>
      unfold W.toR at e
      split at e <;> first | cases e | skip
      all_goals rename_i q; cases q
    | nil =>
      cases rl
      cases e
      cases ru
      obtain ⟨_, ne, vs, kv, o, es, ep, ho, hx, hdt, _, hes, _⟩ := I.hok a _ h
      cases kv
      have ez : es.toList = [] := pairs_nil hes
      refine ⟨_, Reads.dict (kvs := []) ho hx.1 hdt (by rw [ez]; exact .nil) (by rw [ez]; exact .nil), ?_⟩
      simp only [List.append_nil, List.mem_cons, List.not_mem_nil, or_false]
      intro z
      rw [z] at ne
      simp at ne
  | scr h => cases e
  | stt => cases e
  | obj h => cases e
  | dcu _ _ _ => cases e
  | ptp _ _ _ _ => cases e
  | lam _ => cases e
  | clo _ _ _ _ _ _ => cases e
  | exo _ _ _ _ => cases e
  | exn _ => cases e
  | key _ => cases e
theorem RepL.reads (I : Inv X pins σ H s) (sy : sysB X.K = true) : ∀ {ws : List W} {vs : List V} {us : List Value} {ds : List PyData}, RepL X.K c H ws vs → toRs ws = some ds → Vals vs us → ∃ as, ReadsAll s.heap us ds as ∧ sysModules ∉ as := fun {ws vs us ds} r e ru => by
  cases r with
  | nil =>
    cases e
    cases ru
    exact ⟨_, ReadsAll.nil, by simp⟩
  | cons q r =>
    unfold toRs at e
    split at e
    · rename_i d ds' e1 e2
      cases e
      cases ru with
      | cons r1 r2 =>
        obtain ⟨as, g1, g2⟩ := Rep.reads I sy q e1 r1
        obtain ⟨bs, g3, g4⟩ := RepL.reads I sy r e2 r2
        refine ⟨_, ReadsAll.cons g1 g3, ?_⟩
        simp only [List.mem_append, not_or]
        exact ⟨g2, g4⟩
    · cases e
end
end
def reprR : List W → T W
  | [w] => match w.toR with
    | some d => if reprOkD d then .ok (.str d.shown) else .bad
    | none => .bad
  | _ => .bad
theorem tr_repr {X : Cx} {E : WX} {a : Expr} {fa : En → T (List W)} {p pos : Pos} (hgd : X.A.guards = some []) (hu : X.A.units + 64 < cLine) (sy : sysB X.K = true) (hg : Gl X "repr") (hm : X.mg "repr" = none) (ha : TrA Γ X E [a] fa)
    (hs1 : starEach [a] X.env = (false, eval a X.env) :: starEach [] X.env := by rfl) (hpl : (backTo pos (starEach [] X.env)).any (·.1) = false := by rfl) : TrE Γ X E (.Call (.Name "repr" p) [a] [] pos) (fL fa reprR) := by
  have hc : CallR X (.builtin "repr") (fun vs H Q => ∃ (c : Cc) (w : W) (v : V) (d : PyData), vs = [v] ∧ Rep X.K c H w v ∧ w.toR = some d ∧ d.showable = true ∧ d.depth ≤ 60 ∧ d.shown.length ≤ sizeLine ∧ Q (.str d.shown) H) := by
    intro pins s σ H vs us Q I r h
    obtain ⟨c, w, v, d, rfl, rv, e, h1, h3, h4, q⟩ := h
    obtain ⟨u, rfl, ru⟩ := vals1 r
    have big : ∀ a, u = .ref a → wpAny (model X.prog X.w) X.A (call (.builtin "repr") [u]) (EP X pins σ Q) X.xe s := fun a eu => by
      subst eu
      obtain ⟨as, rd, na⟩ := rv.reads I sy e ru
      exact repr_of_reads' rd h1 (fun _ => na) hgd (by omega) (fun _ _ e => e) (fun h' u tk hk => ⟨.str _, H, I.kept hk, ⟨_, rfl⟩, q⟩) h4
    cases rv with
    | non =>
      cases e
      cases ru
      refine PySem.P.repr_of_none ⟨.str _, H, I.tok _, ⟨_, rfl⟩, ?_⟩
      simpa [PyData.shown] using q
    | bl b =>
      cases e
      cases ru
      refine PySem.P.repr_of_bool ⟨.str _, H, I.tok _, ⟨_, rfl⟩, ?_⟩
      simpa [PyData.shown] using q
    | int i =>
      cases e
      obtain ⟨t, rfl⟩ := ru
      refine PySem.P.repr_of_int (by simpa [PyData.showable] using h1) ⟨.str _, H, I.tok _, ⟨_, rfl⟩, ?_⟩
      simpa [PyData.shown] using q
    | str x =>
      cases e
      obtain ⟨t, rfl⟩ := ru
      refine PySem.P.repr_of_str ⟨.str _, H, I.tok _, ⟨_, rfl⟩, ?_⟩ (by simpa [PyData.shown] using h4)
      simpa [PyData.shown] using q
    | tup _ _ => cases ru; exact big _ rfl
    | lst _ _ _ => cases ru; exact big _ rfl
    | dct _ _ _ => cases ru; exact big _ rfl
    | scr _ => cases e
    | stt => cases e
    | obj _ => cases e
    | dcu _ _ _ => cases e
    | ptp _ _ _ _ => cases e
    | lam _ => cases e
    | clo _ _ _ _ _ _ => cases e
    | exo _ _ _ _ => cases e
    | exn _ => cases e
    | key _ => cases e
  refine pe_imp (pe_callB (id := "repr") hc hg hm (by decide +kernel) ha (by decide) (by decide) hs1 hpl) fun σ H Q h => ?_
  obtain ⟨c, d, oa, ρ, e, h⟩ := h
  refine liftA_then (P := fun c H => PQ X.K c H Q) e h (fun st p => p.later st) @fun c1 w v H1 d1 _ r1 e1 h1 => ?_
  cases r1 with
  | nil => exact h1.elim
  | cons r rr =>
    cases rr with
    | cons _ _ => exact h1.elim
    | nil =>
      rename_i w1 v1
      have h1 : (match w1.toR with | some d => if reprOkD d then T.ok (W.str d.shown) else .bad | none => .bad).AllW (PQ X.K c1 H1 Q) _ d1 := h1
      cases hw : w1.toR with
      | none =>
        rw [hw] at h1
        exact h1.elim
      | some dd =>
        rw [hw] at h1
        obtain ⟨ok, h1⟩ := T.AllW.ite h1
        unfold reprOkD at ok
        simp only [Bool.and_eq_true, decide_eq_true_eq] at ok
        exact ⟨c1, w1, v1, dd, rfl, r, hw, ok.1.1, ok.1.2, by rw [sizeLine_eq]; exact ok.2, PQ.now e1.wd h1 (.str _)⟩
structure LamE where
  x : Str
  p : List Nat
  f : List W → T W
def tabR (l : List LamE) (x : Str) (p : List Nat) (ws : List W) : T W := match l.find? fun e => e.p == p && e.x == x with
  | some e => e.f ws
  | none => .bad
theorem lams_of {P : Program} {w : World} {K : PySem.W.Frag} {mg : Str → Option Value} {base : Heap} {k : Nat} {l : List LamE} (h : ∀ e ∈ l, LamOk P w K mg base k e.x e.p e.f) : LamsOk P w K mg base k (tabR l) := fun x p ws => by
  cases q : l.find? fun e => e.p == p && e.x == x with
  | none =>
    left
    unfold tabR
    rw [q]
  | some e =>
    right
    have m := List.mem_of_find?_eq_some q
    have z := List.find?_some q
    obtain ⟨z1, z2⟩ := Bool.and_eq_true_iff.mp z
    have e1 : e.x = x := eq_of_beq z2
    have e2 : e.p = p := eq_of_beq z1
    have : tabR l x p = e.f := by
      funext us
      unfold tabR
      rw [q]
    rw [this, ← e1, ← e2]
    exact h e m
theorem LamOk.mono {P : Program} {w : World} {K : PySem.W.Frag} {mg : Str → Option Value} {base : Heap} {k k' : Nat} {x : Str} {p : List Nat} {f : List W → T W} (h : LamOk P w K mg base k x p f) (hk : k ≤ k') : LamOk P w K mg base k' x p f := by
  obtain ⟨l, N, fb, h1, h2, h3, h4⟩ := h
  exact ⟨l, N, fb, h1, h2, h3, fun Γ A outer s H E f c' cl hg hr => h4 Γ A outer s H E f c' cl hg (hr.mono hk)⟩
theorem lamK_of {K : PySem.W.Frag} {x q : Str} {params : Arguments} {body : List Stmt} {scope : Scope} {dvs : List V} {kws : List (Str × V)} {f : Addr} {fd : FuncData} {p : List Nat} {l : LamD} (F : FunD K x q params body scope dvs kws f fd) (ga : f = He.ga K x) (h : lamAt body p = some l) : lamK K x p = some l := by
  obtain ⟨oc, od, dV, kV, dc, pm, an, cdv, ct, osl, rfl, lk, _⟩ := F.ex
  unfold lamK
  rw [← ga, lk]
  exact h
def lamGet (ss : List Stmt) (p : List Nat) : LamD := match lamAt ss p with
  | some l => l
  | none => ⟨⟨[], [], none, [], [], none, []⟩, .Name "" ⟨0, 0, 0, 0⟩, ⟨.function, [], false, false, []⟩⟩
/-- the slots that a frame's lambdas hold -/
def slotR (x0 : Str) (tab : List (List Nat × List Nat)) : Str → List Nat → Option (List Nat) := fun x p => if x == x0 then tab.lookup p else none
def slB (ss : List Stmt) (sc : Scope) (N : List Str) (tab : List (List Nat × List Nat)) : Bool := tab.all fun e => match lamAt ss e.1 with
  | some l => freeB sc l.scope && (decide ((cloFrom [] l.scope.names []).map (·.1)).Nodup && decide (e.2.map (fun i => N[i]?) = ((cloFrom [] l.scope.names []).map (·.1)).map some))
  | none => false
theorem lk_mem {α β : Type} [BEq α] [LawfulBEq α] {a : α} {b : β} : ∀ {l : List (α × β)}, l.lookup a = some b → (a, b) ∈ l
  | [], h => by cases h
  | (x, y) :: l, h => by
    rw [List.lookup_cons] at h
    cases hx : (a == x) with
    | true =>
      rw [hx] at h
      cases h
      rw [eq_of_beq hx]
      exact List.mem_cons_self ..
    | false =>
      rw [hx] at h
      exact List.mem_cons_of_mem _ (lk_mem h)
theorem slOk_by {X : Cx} {x q : Str} {params : Arguments} {body : List Stmt} {dvs : List V} {kws : List (Str × V)} {f : Addr} {fd : FuncData} {tab : List (List Nat × List Nat)} {scope : Scope} (F : FunD X.K x q params body scope dvs kws f fd) (ga : f = He.ga X.K x) (h : slB body X.env.scope X.N tab = true) : SlOk X (slotR x tab) := fun y p ss e => by
  unfold slotR at e
  split at e
  · rename_i hx
    have ex : y = x := eq_of_beq hx
    subst ex
    have m : (p, ss) ∈ tab := lk_mem e
    have z := List.all_eq_true.mp h _ m
    cases hl : lamAt body p with
    | none =>
      simp only [hl] at z
      cases z
    | some l =>
      simp only [hl, Bool.and_eq_true, decide_eq_true_eq] at z
      exact ⟨l, lamK_of F ga hl, free_by z.1, z.2.1, z.2.2⟩
  · cases e
end PF
namespace PF
open PySem PySem.Spec PyProof.Rows L2
theorem exm_any2 {K : PySem.W.Frag} {cls c d : Value} {b1 b2 : Bool} (h1 : PySem.W.exmOne K cls c = some b1) (h2 : PySem.W.exmOne K cls d = some b2) (h : (b1 || b2) = true) : PySem.W.exmAny K cls [c, d] = some true := by
  simp only [PySem.W.exmAny, h1, h2]
  cases b1 <;> cases b2 <;> first | rfl | cases h
theorem lkX_nil {p : Nat → Bool → Prop} : ∀ n b, ([] : List (Nat × Bool)).lookup n = some b → p n b := fun _ _ h => by cases h
theorem lkX_cons {p : Nat → Bool → Prop} {n0 : Nat} {b0 : Bool} {m : List (Nat × Bool)} (h : p n0 b0) (r : ∀ n b, m.lookup n = some b → p n b) : ∀ n b, ((n0, b0) :: m).lookup n = some b → p n b := fun n b e => by
  rw [List.lookup_cons] at e
  cases hx : (n == n0) with
  | true =>
    rw [hx] at e
    cases e
    rw [eq_of_beq hx]
    exact h
  | false =>
    rw [hx] at e
    exact r n b e
theorem allE_nil {p : LamE → Prop} : ∀ e ∈ ([] : List LamE), p e := fun _ h => by cases h
theorem allE_cons {p : LamE → Prop} {a : LamE} {l : List LamE} (h : p a) (r : ∀ e ∈ l, p e) : ∀ e ∈ a :: l, p e := fun n hn => by
  rcases List.mem_cons.mp hn with rfl | hn
  · exact h
  · exact r n hn
end PF
namespace PF
open PySem PySem.Spec PyProof.Rows L2
section
variable {K : PySem.W.Frag} {c : Cc} {d : Dw} {oa : Nat → Addr} {ρ : En} {σ : L2.St} {H H' : Hp} {D : Addr}
theorem own_ne {oa : Nat → Addr} {j : Nat} {xs : List W} (e : EnvOk K Γ c d oa ρ σ H) (n : D ∉ c.M) (h : ρ[j]? = some (.own xs)) : oa j ≠ D := fun z => n (z ▸ (e.own j xs h).1)
theorem new_notM (e : EnvOk K Γ c d oa ρ σ H) (n : H D = none) : D ∉ c.M := fun h => by
  obtain ⟨o, q, _⟩ := e.m.ls D h
  rw [n] at q
  cases q
end
section
variable {K : PySem.W.Frag} {c : Cc} {d : Dw} {oa : Nat → Addr} {ρ : En} {σ : L2.St} {H H' : Hp} {D : Addr}
theorem Step.mineL {us : List V} (st : Step c H H') (n : H D = none) (hD : H' D = some (.lst us)) : Step (c.mine D) (upd H D (.lst us)) H' := ⟨fun b o hb h1 h2 nt => by
    rcases Decidable.em (b = D) with z | z
    · subst z
      rw [upd_same] at hb
      rw [← hb]
      exact hD
    · rw [upd_ne z] at hb
      exact st.keep b o hb h1 h2 nt, fun b ps hb => by
    rcases Decidable.em (b = D) with z | z
    · subst z
      rw [upd_same] at hb
      cases hb
    · rw [upd_ne z] at hb
      exact st.tbl b ps hb, fun b C dx fs hb => by
    rcases Decidable.em (b = D) with z | z
    · subst z
      rw [upd_same] at hb
      cases hb
    · rw [upd_ne z] at hb
      exact st.ins b C dx fs hb⟩
theorem StOk.drop {c : Cc} {D : Addr} {d : Dw} {H : Hp} (s : StOk (c.hold D) d H) : StOk c d H := s.weak rfl rfl rfl rfl rfl rfl rfl (fun _ h => h) ⟨s.2.ok.inS, s.2.ok.inla, s.2.ok.inca⟩
theorem EnvOk.adopt {i : Nat} {cm : Cc} {d' : Dw} {acc : List W} {us : List V} (e : EnvOk K Γ c d oa ρ σ H) (n : H D = none) (g : Gr (c.more D) cm) (st : Step c H H') (so : StOk cm d' H') (hD : H' D = some (.lst us)) (ra : RepL K cm H' acc us) :
    Fwd K c H (cm.hold D) H' ∧ EnvOk K Γ (cm.hold D) d' (fun j => if j = i then D else oa j) (ρ.set i (.own acc)) (σ.set i (some (.ref D))) H' := by
  have e1 : EnvOk K Γ (c.mine D) d oa ρ σ (L2.upd H D (.lst us)) := e.mine n
  have st1 : SG (c.mine D) (cm.hold D) (L2.upd H D (.lst us)) H' := ⟨g.hold D, st.mineL n hD⟩
  have so1 : StOk (cm.hold D) d' H' := so.hold D
  have e2 := e1.step st1 so1
  have ra : RepL K (cm.hold D) H' acc us := RepL.weak (c := cm.hold D) (c1 := cm) rfl rfl (fun _ h => h) ra
  refine ⟨(Fwd.mine n e.wd).trans (Fwd.of st1 e1.wd), e2.ownSet (List.mem_cons_self ..) hD ra fun j us _ h => own_ne e (new_notM e n) h⟩
end
end PF
namespace PF
open PySem PySem.Spec PyProof.Rows L2
/-- class no cl is an own one, its fields are no names of it -/
structure YC (K : PySem.W.Frag) (cl : Nat) : Prop where
  c : Cls K (He.ga K (yName cl))
  n : ∀ f ∈ yFlds cl, NoAttr K (He.ga K (yName cl)) f
  some : noObj K = false
end PF
namespace PF
open PySem PySem.Spec PyProof.Rows L2 He
theorem SaysTs.tab {ts : List Tab} {w : World} {K : PySem.W.Frag} (c : SaysTs ts w K) (i : Nat) {t : Tab} (h : ts[i]? = some t := by rfl) : dicW K (t.1 K) = some (keysIn w.params t.2) := by
  unfold SaysTs valTs at c
  have e2 : (ts.map fun t => dicW K (t.1 K))[i]? = (ts.map fun t => some (keysIn w.params t.2))[i]? := by rw [c]
  rw [List.getElem?_map, List.getElem?_map, h] at e2
  exact Option.some.inj e2
end PF
namespace PF
open PySem PySem.Spec PyProof.Rows L2
abbrev blkE (X : Cx) (s : Shared) (H : Hp) (sc : Scope) (ce : PySem.Env) (fp : List Addr) (W : WX) : Cx := (X.blk s H sc ce fp).tr [] fun u s' => XE (X.blk s H sc ce fp) W u s'
theorem Inv.toB {X : Cx} {s : Shared} {H : Hp} {sc : Scope} {ce : PySem.Env} {fp : List Addr} {W : WX} {pins : List (Addr × Obj)} {σ : L2.St} {H' : Hp} {s' : Shared} (I : Inv (X.blk s H sc ce fp) pins σ H' s') : Inv (blkE X s H sc ce fp W) pins σ H' s' :=
  ⟨I.ok.toTry _ _, I.os, I.bare, I.base, I.loc, I.cell, I.free, I.freeC, I.pin, I.hok, I.len⟩
end PF
namespace PF
open PySem PySem.Spec PyProof.Rows L2
section
variable {X : Cx} {E : WX} {x y : Str} {j : Nat} {pos : Pos} {ns : List Nat} {io : Option Nat}
theorem tr_strL (h : x = y) : TrE Γ X E (.Constant (.str x) j pos) (fun _ => .ok (.str y)) := by
  subst h
  exact tr_str
end
end PF
namespace PF
open PySem PySem.Spec PyProof.Rows L2
section
variable {K : PySem.W.Frag} {w : World} {mg : Str → Option Value} {x : Str} {l : List (Str × W)} {a : Addr} {es : Array DictEntry} {n : Nat}
theorem KdAt.miss (D : KdAt K w mg x l a es n) {z : Str} (h : l.lookup z = none) : findBy Value.isStrOf es z = none := by
  unfold findBy
  have key : es.find? (fun e => Value.isStrOf z e.key) = none := by
    rw [Array.find?_eq_none]
    intro e he hz
    obtain ⟨t, hk⟩ := Value.isStrOf_shape hz
    have h1 : keyN e ∈ es.toList.map keyN := List.mem_map.mpr ⟨e, by simpa using he, rfl⟩
    rw [D.keys] at h1
    have h2 : keyN e = some z := by
      unfold keyN
      rw [hk]
    rw [h2] at h1
    obtain ⟨q, hq, e2⟩ := List.mem_map.mp h1
    have e2 : q.1 = z := Option.some.inj e2
    have := (List.lookup_eq_none_iff.mp h) q hq
    simp [e2] at this
  rw [key]
  rfl
end
end PF
namespace PF
open PySem PySem.Spec PyProof.Rows L2
section
variable {α β γ : Type}
theorem T.allB_catch {ok : α → T β} {hd : Nat → List W → T β} {P : Nat → β → Prop} {E : Nat → Nat → List W → Prop} {t : T α} {d : Nat} : (t.catch ok hd).AllB P E d ↔ t.AllB (fun d a => (ok a).AllB P E d) (fun d n fs => (hd n fs).AllB P E d) d := by
  induction t generalizing d with
  | ok a => exact Iff.rfl
  | exc c fs => exact Iff.rfl
  | bad => exact Iff.rfl
  | ask n k ih =>
    constructor
    · rintro ⟨e, he, x⟩
      exact ⟨e, he, fun i hi => (ih i).mp (x i hi)⟩
    · rintro ⟨e, he, x⟩
      exact ⟨e, he, fun i hi => (ih i).mpr (x i hi)⟩
  | get i k ih => exact Iff.rfl
  | put i fs k ih => exact Iff.rfl
  | new c fs k ih => exact Iff.rfl
theorem Ob.catch {t t' : T α} {ok ok' : α → T β} {hd hd' : Nat → List W → T β} (h : Ob t t') (g : ∀ a, Ob (ok a) (ok' a)) (g2 : ∀ n fs, Ob (hd n fs) (hd' n fs)) : Ob (t.catch ok hd) (t'.catch ok' hd') := fun n os P E x =>
  T.allW_catch.mpr (T.AllW.imp (fun d a y => (g a).use y) (fun d c fs y => (g2 c fs).use y) (h n os _ _ (T.allB_catch.mp x)))
theorem plT_allB {P : Nat → W → Prop} {E : Nat → Nat → List W → Prop} {t : T W} {d : Nat} : (plT t).AllB P E d → t.AllB (fun d w => plain w = true ∧ P d w) (fun d n fs => plainL fs = true ∧ E d n fs) d := by
  induction t generalizing d with
  | ok a =>
    intro h
    unfold plT at h
    split at h
    · rename_i hp
      exact ⟨hp, h⟩
    · exact h.elim
  | exc c fs =>
    intro h
    unfold plT at h
    split at h
    · rename_i hp
      exact ⟨hp, h⟩
    · exact h.elim
  | bad => exact id
  | ask n k ih =>
    rintro ⟨e, he, x⟩
    exact ⟨e, he, fun i hi => ih i (x i hi)⟩
  | get i k ih => exact id
  | put i fs k ih => exact id
  | new c fs k ih => exact id
theorem plT_allW {P : Dw → W → Prop} {E : Dw → Nat → List W → Prop} {t : T W} {d : Dw} : t.AllW (fun d w => plain w = true ∧ P d w) (fun d n fs => plainL fs = true ∧ E d n fs) d → (plT t).AllW P E d := by
  induction t generalizing d with
  | ok a =>
    rintro ⟨hp, h⟩
    unfold plT
    rw [if_pos hp]
    exact h
  | exc c fs =>
    rintro ⟨hp, h⟩
    unfold plT
    rw [if_pos hp]
    exact h
  | bad => exact id
  | ask n k ih =>
    rintro ⟨e, he, x⟩
    exact ⟨e, he, fun i hi => ih i (x i hi)⟩
  | get i k ih =>
    rintro ⟨c, fs, e, x⟩
    exact ⟨c, fs, e, ih c fs x⟩
  | put i fs k ih =>
    rintro ⟨c, gs, e, x⟩
    exact ⟨c, gs, e, ih x⟩
  | new c fs k ih => exact fun x => ih _ x
theorem Ob.plT {t t' : T W} (h : Ob t t') : Ob (plT t) (plT t') := fun n os P E x => plT_allW (h n os _ _ (plT_allB x))
variable {g : W → W → T W} {h1 : W → T W} {fa fb fc fa' fb' fc' : En → T W} {fs fs' : En → T (List W)} {gl gl' : List W → T W} {ta tb ta' tb' : En → T Bool} {sa sb sc sa' sb' sc' : En → T (Fl × En)}
end
/-- what repr can show, with its length at most n, its depth at most k -/
def Rb (n k : Nat) (w : W) : Prop := ∃ d, w.toR = some d ∧ d.showable = true ∧ d.depth ≤ k ∧ d.shown.length ≤ n
theorem Rb.mono {n k n' k' : Nat} {w : W} (h : Rb n k w) (hn : n ≤ n') (hk : k ≤ k') : Rb n' k' w := by
  obtain ⟨d, h1, h2, h4, h5⟩ := h
  exact ⟨d, h1, h2, by omega, by omega⟩
end PF
namespace PF
open PySem PySem.Spec PyProof.Rows L2 PySem.F
/-- what is wanted of the base's __init__ -/
structure IniFacts (B ini : String) : Prop where
  slot : Slot B "__init__" ini
  entry : entryFor table ini = some Builtin.«BaseException.__init__»
  split : splitId ini = some (B, "__init__")
  kind : builtinKind ini = some .slot
  row : Manifest.signature? ini = some ⟨.positional, "*", B, .self, [⟨"args", .varPos, false⟩]⟩
  noStar : (B != "*") = true
abbrev tlK : List Value := [.type "KeyError", .type "LookupError", .type "Exception", .type "BaseException", .type "object"]
end PF
namespace PF
open PySem PySem.Spec PyProof.Rows L2
abbrev nwK : String := "LookupError.__new__"
section
variable {bm : List Value} (hT : ∀ X : String, bm.contains (.type X) = tlK.contains (.type X))
include hT
theorem noA : bm.contains (.type "AttributeError") = false := by rw [hT]; decide +kernel
end
structure XIsM (P : Program) (w : World) (K : PySem.W.Frag) (mg : Str → Option Value) (base : Heap) (n : Nat) : Prop where
  gl : mg (xName n) = some (.ref (He.ga K (xName n)))
  cl : XCl K (He.ga K (xName n)) nwK tlK
  no : ∀ f ∈ xFlds n, PySem.W.findIn K (.ref (He.ga K (xName n))) f = some none
  ex : ∃ (fI : Addr) (fd : FuncData) (ps : List Str) (f : Str), xFlds n = [f] ∧ PySem.W.findIn K (.ref (He.ga K (xName n))) "__init__" = some (some (.ref fI)) ∧ PySem.W.typeIn K (.ref fI) = some (.type "function") ∧
    FnOk P w K mg base (L2.CX P w) 1 fI fd ps (spI K nwK tlK f) ∧ Binds K fd ps []
end PF
namespace PF
open PySem PySem.Spec PyProof.Rows L2
abbrev ZW (h : Heap) (z TI TO : Addr) (v : Value) (f : Bool) : Prop :=
  h.get? z = some { cls := .type "zip", dict := none, data := .fields #[v, .bool f, .bool false, .ref TI, .ref TO], slots := #[] }
section
variable {prog : Program} {w : World} {A : Around} {E : Value → Shared → Prop} {s : Shared} {z TI TO i1 i2 : Addr} {fp1 fp2 : List Addr} {n1 n2 i : Nat} {P1 P2 : Nat → Value → Prop} {St1 St2 : Nat → Heap → Prop} {a1 a2 v : Value} {f : Bool}
/-- a zip that may be asked for its i-th pair -/
structure ZSt (z TI TO i1 i2 : Addr) (St1 St2 : Nat → Heap → Prop) (i : Nat) (h : Heap) : Prop where
  zw : ∃ v f, ZW h z TI TO v f ∧ (v = .none ∨ ∃ T : Addr, v = rawInt T)
  ti : IsTupOf2 h TI (.ref i1) (.ref i2)
  to : ∃ a1 a2, IsTupOf2 h TO a1 a2
  s1 : St1 i h
  s2 : St2 i h
theorem ZSt.ty (q : ZSt z TI TO i1 i2 St1 St2 i s.heap) : s.TypeIs (.ref z) "zip" := by
  obtain ⟨v, f, h, _⟩ := q.zw
  exact ⟨_, h, rfl⟩
end
end PF
namespace PF
open PySem PySem.Spec PyProof.Rows L2
abbrev noE : XK := fun _ _ _ => False
structure FnQ (P : Program) (w : World) (K : PySem.W.Frag) (mg : Str → Option Value) (base : Heap) (k : Nat) (f : Addr) (fd : FuncData) (ps : List Str) (sp : Sp) : Prop where
  len : ∀ vs H Q E, sp vs H Q E → vs.length = ps.length
  go : ∀ (A : Around) (a : Addr) (o : List PySem.Env) (s : Shared) (H : Hp) (ar : Args) (us : List Value) (vs : List V) (Q : VK), A.guards = some [] → Room k A → Env0 P w K mg base A o s H → BindsTo s fd ar (ps.zip us) → Vals vs us → sp vs H Q noE →
    codeAny (model P w) (A.mark (some (.ref a))) (.call (.ref f) ar) (CR (L2.CX P w) o P w H s Q noE) s
end PF
namespace PF
open PySem PySem.Spec PyProof.Rows L2
structure XIsN (K : PySem.W.Frag) (mg : Str → Option Value) (n : Nat) : Prop where
  gl : mg (xName n) = some (.ref (He.ga K (xName n)))
  ex : PySem.W.excIn K (He.ga K (xName n)) tlV "ValueError.__new__" = true
  kee : PySem.W.keepIn K (.ref (He.ga K (xName n))) = true
  sub : PySem.W.subIn K (.ref (He.ga K (xName n))) (.type "BaseException") = some true
  typ : PySem.W.typeIn K (.ref (He.ga K (xName n))) = some (.type "type")
end PF
namespace PF
open PySem PySem.Spec PyProof.Rows L2
abbrev KF := List (Str × (En → T W))
end PF
namespace PF
open PySem PySem.Spec PyProof.Rows L2
open L2.DX
mutual
theorem reads_lt {h : Heap} : ∀ (d : PyData) (v : Value) (as : List Addr), Reads h v d as → PySem.W.alike d d = true → ∀ a ∈ as, a < h.objs.size
  | .none, _, _, r, _, a, ha => by cases r; cases ha
  | .bool _, _, _, r, _, a, ha => by cases r; cases ha
  | .int _, _, _, r, _, a, ha => by cases r; cases ha
  | .str _, _, _, r, _, a, ha => by cases r; cases ha
  | .list xs, _, _, r, hal, a, ha => by
    cases r with
    | list h1 h2 h3 h4 =>
      rcases List.mem_cons.mp ha with rfl | ha
      · exact Heap.lt_size h1
      · exact readsAll_lt xs _ _ h4 (by simpa [PySem.W.alike] using hal) a ha
  | .tuple xs, _, _, r, hal, a, ha => by
    cases r with
    | tuple h1 h2 h3 h4 => exact readsAll_lt xs _ _ h4 (by simpa [PySem.W.alike] using hal) a ha
  | .dict _, _, _, _, hal, _, _ => absurd hal (by simp [PySem.W.alike])
theorem readsAll_lt {h : Heap} : ∀ (ds : List PyData) (vs : List Value) (as : List Addr), ReadsAll h vs ds as → PySem.W.alikeAll ds ds = true → ∀ a ∈ as, a < h.objs.size
  | [], _, _, r, _, a, ha => by cases r; cases ha
  | d :: ds, _, _, r, hal, a, ha => by
    cases r with
    | cons h1 h2 =>
      rcases List.mem_append.mp ha with ha | ha
      · exact reads_lt d _ _ h1 (PySem.W.alike_all_cons hal).1 a ha
      · exact readsAll_lt ds _ _ h2 (PySem.W.alike_all_cons hal).2 a ha
end
end PF
namespace PF
open PySem PySem.Spec PyProof.Rows L2 He
abbrev DefP := He5.DefA
def SaysP (fp : List DefP) (K : PySem.W.Frag) : Prop := (fp.map fun d => He5.fnA K (d.at_ K)) = fp.map He5.DefA.val
theorem SaysP.def_ {fp : List DefP} {K : PySem.W.Frag} (c : SaysP fp K) (i : Nat) {d : DefP} (ok : d.ok K = true) (h : fp[i]? = some d := by rfl) : ∃ fd, FunD K d.name d.qual d.params d.body d.scope (d.dvs K) (d.kws K) (d.at_ K) fd := by
  refine He5.DefA.funD ?_ ok
  unfold SaysP at c
  have e2 : (fp.map fun d => He5.fnA K (d.at_ K))[i]? = (fp.map He5.DefA.val)[i]? := by rw [c]
  rw [List.getElem?_map, List.getElem?_map, h] at e2
  exact Option.some.inj e2
end PF
namespace PF
open PySem PySem.Spec PyProof.Rows L2
def liftBL (K : PySem.W.Frag) (Γ : Cl) (E : XK) (g : En → T (Bool × En)) : TT := fun σ H Q => ∃ c d oa ρ, EnvOk K Γ c d oa ρ σ H ∧ (g ρ).AllW (PBL K Γ σ c H Q) (PXs K c H E) d
def TrBL (Γ : Cl) (X : Cx) (E : XK) (e : Expr) (g : En → T (Bool × En)) : Prop := L2.PT X e (liftBL X.K Γ E g)
def TrWL (Γ : Cl) (X : Cx) (E : XK) (e : Expr) (g : En → T (Bool × En)) : Prop := PW X e (liftBL X.K Γ E g)
section
variable {X : Cx} {E : XK} {a b e : Expr} {es rest : List Expr} {f : En → T W} {fb : En → T Bool} {g : En → T (W × En)} {gs : En → T (List W × En)} {gb gc : En → T (Bool × En)} {h : W → W → T W} {r : R2} {pos : Pos}
theorem TrWL.toB (q : TrWL Γ X E a gb) : TrBL Γ X E a gb := PW.pt q
end
end PF
namespace PF
open PySem PySem.Spec PyProof.Rows L2
section
variable {X : Cx}
theorem psx_ret {e : Expr} {te : TE} {pos : Pos} (he : PE X e te) : PSX X [.Return (some e) pos] (fun R σ H => te σ H (R σ)) := by
  refine ⟨fun pins s σ H R I h => ?_⟩
  refine wpAny_execs_cons (wpAny_Return_some (thn (he.run pins s σ H (R σ) I h) fun v s1 ⟨x, H1, I1, r1, q1⟩ => ?_))
  exact ⟨v, rfl, x, σ, H1, I1, r1, q1⟩
theorem psx_cons {st : Stmt} {rest : List Stmt} {t : TS} {u : (L2.St → VK) → L2.St → Hp → Prop} (h1 : PS X st t) (h2 : PSX X rest u) : PSX X (st :: rest) (fun R σ H => t { nx := u R, rt := fun _ _ => False } σ H) := by
  refine ⟨fun pins s σ H R I h => ?_⟩
  refine wpAny_execs_cons (thn (h1.run pins s σ H { nx := u R, rt := fun _ _ => False } I h) fun f s1 q => ?_)
  cases f with
  | next =>
    obtain ⟨σ', H', I', q⟩ := q
    exact h2.run pins s1 σ' H' R I' q
  | ret v =>
    obtain ⟨_, _, _, _, _, z⟩ := q
    exact z.elim
  | brk =>
    obtain ⟨_, _, _, z⟩ := q
    exact z.elim
  | cont =>
    obtain ⟨_, _, _, z⟩ := q
    exact z.elim
end
section
variable {X : Cx} {Γ : Cl} {E : XK}
def liftR (K : PySem.W.Frag) (Γ : Cl) (E : XK) (g : En → T (W × En)) : (L2.St → VK) → L2.St → Hp → Prop := fun R σ H => ∃ c d oa ρ, EnvOk K Γ c d oa ρ σ H ∧ (g ρ).AllW (PRq K Γ c H R) (PXs K c H E) d
def TrSx (Γ : Cl) (X : Cx) (E : XK) (sts : List Stmt) (g : En → T (W × En)) : Prop := PSX X sts (liftR X.K Γ E g)
def xRet (f : En → T W) : En → T (W × En) := fun ρ => (f ρ).bind fun w => .ok (w, ρ)
def xSeq (g : En → T (Fl × En)) (h : En → T (W × En)) : En → T (W × En) := fun ρ => (g ρ).bind fun x => match x with
  | (.nx, ρ') => h ρ'
  | _ => .bad
theorem trsx_ret {e : Expr} {f : En → T W} {pos : Pos} (he : TrE Γ X (wOf E) e f) : TrSx Γ X E [.Return (some e) pos] (xRet f) := (psx_ret he).imp fun R σ H q => by
  obtain ⟨c, d, oa, ρ, e, q⟩ := q
  refine lift_thenS (P := fun c H => PRq X.K Γ c H R) e q (fun st p => p.later (.of st e.wd)) fun w v H1 d1 _ r1 e1 h1 => ?_
  exact h1 _ oa σ H1 .refl e1 v r1
theorem trsx_cons {st : Stmt} {sts : List Stmt} {g : En → T (Fl × En)} {h : En → T (W × En)} (h1 : TrS Γ X E st g) (h2 : TrSx Γ X E sts h) : TrSx Γ X E (st :: sts) (xSeq g h) := (psx_cons h1 h2).imp fun R σ H q => by
  obtain ⟨c, d, oa, ρ, e, q⟩ := q
  refine ⟨c, d, oa, ρ, e, T.AllW.imp (fun d1 x hx => ?_) (fun _ _ _ y => y) (T.allW_bind.mp q)⟩
  obtain ⟨fl, ρ'⟩ := x
  intro c' oa' σ' H' fw e'
  cases fl with
  | nx => exact ⟨c', d1, oa', ρ', e', T.AllW.imp (fun _ _ y => y.later fw) (fun _ _ _ y => y.fwd fw) hx⟩
  | rt w => exact hx.elim
  | bk => exact hx.elim
  | ct => exact hx.elim
  | rn ws => exact hx.elim
end
mutual
def clz : W → Bool
  | .clo _ _ _ => true
  | .tup ws => clzL ws
  | .lst ws => clzL ws
  | w => plain w
def clzL : List W → Bool
  | [] => true
  | w :: ws => clz w && clzL ws
end
mutual
theorem Rep.weakC {K : PySem.W.Frag} {c c1 : Cc} {H : Hp} (hS : c1.S = c.S) (hO : c1.O = c.O) (sub : ∀ b ∈ c.A, b ∈ c1.A) : ∀ {w : W} {v : V}, clz w = true → Rep K c1 H w v → Rep K c H w v
  | .clo _ _ _, _, _, .clo h1 h2 h3 h4 h5 h6 => .clo h1 h2 h3 h4 h5 (RepL.weakP hS hO sub h5 h6)
  | .tup ws, _, h, .tup q r => .tup q (RepL.weakC hS hO sub (by unfold clz at h; exact h) r)
  | .lst ws, _, h, .lst n q r => .lst (fun z => n (sub _ z)) q (RepL.weakC hS hO sub (by unfold clz at h; exact h) r)
  | .non, _, h, r => Rep.weakP hS hO sub rfl r
  | .bl b, _, h, r => Rep.weakP hS hO sub rfl r
  | .int i, _, h, r => Rep.weakP hS hO sub rfl r
  | .str x, _, h, r => Rep.weakP hS hO sub rfl r
  | .dct ks ws, _, h, r => Rep.weakP hS hO sub (by unfold clz at h; exact h) r
  | .scr n, _, h, r => Rep.weakP hS hO sub (by unfold clz at h; exact h) r
  | .stt, _, h, r => Rep.weakP hS hO sub (by unfold clz at h; exact h) r
  | .lam x p, _, h, r => Rep.weakP hS hO sub (by unfold clz at h; exact h) r
  | .exo n fs, _, h, r => Rep.weakP hS hO sub (by unfold clz at h; exact h) r
  | .obj i, _, h, r => Rep.weakP hS hO sub (by unfold clz at h; exact h) r
  | .dcu ks ws, _, h, r => Rep.weakP hS hO sub (by unfold clz at h; exact h) r
  | .key k, _, h, r => Rep.weakP hS hO sub (by unfold clz at h; exact h) r
  | .ptp ws, _, h, r => Rep.weakP hS hO sub (by unfold clz at h; exact h) r
theorem RepL.weakC {K : PySem.W.Frag} {c c1 : Cc} {H : Hp} (hS : c1.S = c.S) (hO : c1.O = c.O) (sub : ∀ b ∈ c.A, b ∈ c1.A) : ∀ {ws : List W} {vs : List V}, clzL ws = true → RepL K c1 H ws vs → RepL K c H ws vs
  | [], _, _, .nil => .nil
  | w :: ws, _, h, .cons r rl => by
    unfold clzL at h
    rw [Bool.and_eq_true] at h
    exact .cons (Rep.weakC hS hO sub h.1 r) (RepL.weakC hS hO sub h.2 rl)
end
def clT (S : Str → List Nat → Option (List Nat)) (x : W × En) : T W := match frW S x.2 x.1 with
  | some w => if clz w then .ok w else .bad
  | none => .bad
def exP : T (W × En) → T (W × En)
  | .ok a => .ok a
  | .exc c fs => if plainL fs then .exc c fs else .bad
  | .bad => .bad
  | .ask n k => .ask n fun i => exP (k i)
  | .get i k => .get i fun c fs => exP (k c fs)
  | .put i fs k => .put i fs (exP k)
  | .new c fs k => .new c fs fun i => exP (k i)
theorem exP_all {P : Dw → W × En → Prop} {E : Dw → Nat → List W → Prop} : ∀ {t : T (W × En)} {d : Dw}, (exP t).AllW P E d → t.AllW P (fun d n fs => plainL fs = true ∧ E d n fs) d
  | .ok a, d, h => h
  | .exc c fs, d, h => by
    unfold exP at h
    split at h
    · rename_i hp
      exact ⟨hp, h⟩
    · exact h.elim
  | .bad, d, h => h
  | .ask n k, d, h => by
    obtain ⟨e, he, x⟩ := h
    exact ⟨e, he, fun i hi => exP_all (x i hi)⟩
  | .get i k, d, h => by
    obtain ⟨c, fs, e, x⟩ := h
    exact ⟨c, fs, e, exP_all x⟩
  | .put i fs k, d, h => by
    obtain ⟨c, gs, e, x⟩ := h
    exact ⟨c, gs, e, exP_all (t := k) x⟩
  | .new c fs k, d, h => exP_all (t := k d.os.length) h
/-- a def that gives back lambdas of its own -/
def defX (n np : Nat) (S : Str → List Nat → Option (List Nat)) (g : En → T (W × En)) : List W → T W := fun ws => if plainL ws then (if ws.length == np then (exP (g (startE n ws))).bind (clT S) else .bad) else .bad
section
variable {P : Program} {w : World} {K : PySem.W.Frag} {mg : Str → Option Value} {base : Heap} {x qual : Str} {params : Arguments} {body : List Stmt} {scope : Scope} {f : Addr} {fd : FuncData} {dvs : List V} {kws : List (Str × V)}
theorem gdefX {N ps : List Str} {k : Nat} {sp : Sp} (F : FunD K x qual params body scope dvs kws f fd) (S : FnScope N ps scope) (len : ∀ vs H Q E, sp vs H Q E → vs.length = ps.length)
    (bd : ∀ (cdv : Value) (A : Around) (o : List PySem.Env) (s : Shared) (H : Hp) (vs : List V) (Q : VK) (E : XK), fd.code = cdv → A.guards = some [] → Room k (A.deeper (envOfC qual scope s.heap.objs.size f cdv)) → sp vs H Q E →
      ∃ t, PSX (cxOf (L2.CX P w) P w K mg base N qual scope f cdv A o s H E) body t ∧ t (fun σ' v H' => ∀ s', Inv (cxOf (L2.CX P w) P w K mg base N qual scope f cdv A o s H E) [] σ' H' s' → Q v (lay H' (lks (envOfC qual scope s.heap.objs.size f cdv).cells) s'.heap)) (start N vs) H) : FnG P w K mg base (k + 1) f fd ps sp := by
  obtain ⟨oc, od, dV, kV, dc, pm, an, cdv, ct, osl, rfl, lk, hcd, _, _⟩ := F.ex
  refine ⟨len, fun A o s H ar us vs Q E hg hr e0 hb r q => ?_⟩
  have hlen := len _ _ _ _ q
  have kin : K.In s.heap := e0.mod.kin.keeps fun b u e => (e0.bs b u e).1
  have nol : s.heap.NoLimit := e0.mod.nolimit.keeps fun b u e => (e0.bs b u e).1
  have hk : ∀ y ∈ ps.zip us, scope.names.lookup y.1 = some .local ∨ (scope.names.lookup y.1 = some .cell ∧ ((cellsFrom (s.heap.objs.size + 1) scope.names []).lookup y.1).isSome = true) := fun y hy => by
    obtain ⟨n, v⟩ := y
    have hn := S.par n (List.of_mem_zip hy).1
    exact hn.imp id fun z => ⟨z, PySem.W.cellsFrom_some _ _ _ (.inl z)⟩
  refine codeAny_call_function hr.depth (kin _ _ lk) rfl S.co S.gen rfl (PySem.W.codeRec_of kin hcd) (hb _ _ _ _ (wpAny_newFunctionEnv_cells S.kind hk fun env he s1 z => ?_))
  subst he
  refine ⟨nol.keeps z.toInCall.keep, codeAny_func ?_⟩
  obtain ⟨t, ht, hq⟩ := bd cdv A o s H vs Q E rfl hg (hr.deeper _) q
  have J0 : Inv (cxOf (L2.CX P w) P w K mg base N qual scope f cdv A o s H E) [] (start N vs) H s1 := inv_start S hr.hd e0 hlen r z
  refine wpAny_mono (ht.run [] s1 (start N vs) H _ J0 hq) (fun fl s' hs => ?_) fun e s' hs => hs
  obtain ⟨u, rfl, v, σ', H', J, rv, q'⟩ := hs
  have nn := lks_none J
  have mono := lay_mono (h := s'.heap) nn
  refine ⟨v, lay H' (lks (envOfC qual scope s.heap.objs.size f cdv).cells) s'.heap, J.os, J.bare, ?_, ?_, rv, q' s' J⟩
  · exact {
      keep := J.base.keep
      slot := J.base.slot
      free := fun b o e1 e2 e3 => by
        have fr := J.base.free b o e1 e2 e3
        rw [lay_out]
        · exact fr
        · intro m
          obtain ⟨y, e⟩ := lks_mem m
          have := J.ok.cab y b rfl e
          exact Nat.lt_irrefl _ (Nat.lt_of_lt_of_le (Heap.lt_size e1) this)
      there := J.base.there
      tups := fun b xs e => mono b _ (J.base.tups b xs e)
      frzs := fun b o u e => mono b _ (J.base.frzs b o u e)
      tbls := fun b ps e => by
        obtain ⟨more, e1⟩ := J.base.tbls b ps e
        exact ⟨more, mono b _ e1⟩ }
  · exact hok_lay J.hok nn fun a m => by
      obtain ⟨o, u, h1, _⟩ := lks_cell J a m
      exact ⟨o, h1, h1⟩
theorem fn_trX {k : Nat} {N ps : List Str} {Sx : Str → List Nat → Option (List Nat)} {g : En → T (W × En)} (F : FunD K x qual params body scope [] [] f fd) (S : FnScope N ps scope)
    (hb : ∀ (cdv : Value) (A : Around) (o : List PySem.Env) (s : Shared) (H : Hp) (E : XK), fd.code = cdv → A.guards = some [] → Room k (A.deeper (envOfC qual scope s.heap.objs.size f cdv)) → TrSx (envOfC qual scope s.heap.objs.size f cdv).cells (cxOf (L2.CX P w) P w K mg base N qual scope f cdv A o s H E) E body g ∧ SlOk (cxOf (L2.CX P w) P w K mg base N qual scope f cdv A o s H E) Sx) :
    FnG P w K mg base (k + 1) f fd ps (SpF K (defX N.length ps.length Sx g)) := by
  refine gdefX F S (SpF.len fun ws h => ?_) fun cdv A o s H vs Q E hcd hg hr h => ⟨_, (hb cdv A o s H E hcd hg hr).1, ?_⟩
  · unfold defX
    rw [if_neg (fun z => h (eq_of_beq z))]
    split <;> rfl
  · have sl := (hb cdv A o s H E hcd hg hr).2
    obtain ⟨c, d, ws, hT, wd, r, h⟩ := h
    obtain ⟨pl, h⟩ := T.AllW.ite h
    obtain ⟨_, h⟩ := T.AllW.ite h
    have wdb : Wd { c with M := [], C := (envOfC qual scope s.heap.objs.size f cdv).cells } d H := ⟨⟨wd.ok.inS, wd.ok.inla, wd.ok.inca⟩, wd.st.weakN rfl rfl rfl rfl rfl rfl (fun _ h => h) ⟨wd.ok.inS, wd.ok.inla, wd.ok.inca⟩, wd.av⟩
    have so1 : ∀ {c' : Cc} {d1 : Dw} {H' : Hp}, Fwd K { c with M := [], C := (envOfC qual scope s.heap.objs.size f cdv).cells } H c' H' → StOk c' d1 H' → StOk (c.wide c') d1 H' := fun fw e => e.weakN fw.S fw.ca fw.la fw.T fw.KK rfl (fun b hb => fw.sub b hb fun z => by cases z) ⟨wd.ok.inS, wd.ok.inla, wd.ok.inca⟩
    have st1 : ∀ {c' : Cc} {H' : Hp}, Fwd K { c with M := [], C := (envOfC qual scope s.heap.objs.size f cdv).cells } H c' H' → SG c (c.wide c') H H' := fun fw => ⟨⟨rfl, rfl, rfl, rfl, rfl, rfl, rfl, rfl, fw.O⟩, fun b o hb h1 h2 h3 => fw.step b o hb h1 h2 (fun z => by cases z) h3, fun b ps hb => fw.tbl b ps hb fun z => (by cases z), fun b C dx fs hb => fw.ins b C dx fs hb fun z => by cases z⟩
    refine ⟨_, d, fun _ => 0, startE N.length ws, start_ok wdb hT rfl (RepL.weakP (c := { c with M := [], C := (envOfC qual scope s.heap.objs.size f cdv).cells }) (c1 := c) rfl rfl (fun _ h => h) pl r), T.AllW.imp (fun d1 x hx => ?_) (fun d1 n fs y => ?_) (exP_all (T.allW_bind.mp h))⟩
    · obtain ⟨w0, ρ'⟩ := x
      intro c' oa' σ' H' fw e' v rv s' J
      unfold clT at hx
      split at hx
      · rename_i w' hfr
        obtain ⟨cz, hx⟩ := T.AllW.ite hx
        have mono := lay_mono (h := s'.heap) (lks_none J)
        have fr := frz_rep J e' fw.C sl rv hfr
        have so := (so1 fw e'.st).mono mono
        have sg := st1 fw
        refine hx v _ ⟨sg.g, fun b o hb h1 h2 h3 => mono b o (sg.st.keep b o hb h1 h2 h3), fun b ps hb => ?_, fun b C dx fs hb => ?_⟩ so (Rep.weakC (c := c.wide c') (c1 := c') fw.S rfl (fun b hb => fw.sub b hb fun z => by cases z) cz fr)
        · obtain ⟨more, e1⟩ := sg.st.tbl b ps hb
          exact ⟨more, mono b _ e1⟩
        · obtain ⟨gs, e1⟩ := sg.st.ins b C dx fs hb
          exact ⟨gs, mono b _ e1⟩
      · exact hx.elim
    · intro c' cls dx H' fw so r
      obtain ⟨r1, dd, vs, r2, r3, r4, r5⟩ := r
      exact y.2 cls dx H' (st1 fw) (so1 fw so) ⟨r1, dd, vs, r2, r3, r4, RepL.weakP (c := c.wide c') (c1 := c') fw.S rfl (fun b hb => fw.sub b hb fun z => by cases z) y.1 r5⟩
end
end PF
namespace PF
open PySem PySem.Spec PyProof.Rows L2
def yTys : List String := ["NoneType", "bool", "int", "str", "tuple", "list", "dict"]
structure YO (K : PySem.W.Frag) (cl : Nat) : Prop where
  ha : PySem.W.findIn K (.ref (He.ga K (yName cl))) "__class__" = some (some (.builtin "object.__class__"))
  hn : PySem.W.specialIn K (.builtin "object.__class__") "__get__" = some (some (.builtin "getset_descriptor.__get__"))
  htk : PySem.W.takesIn K (.builtin "object.__class__") = some true
  hm : PySem.W.mroIn K (He.ga K (yName cl)) (.type "object") = some true
  ne : PySem.W.findIn K (.ref (He.ga K (yName cl))) "__ne__" = some (some (.builtin "object.__ne__"))
  ks : PySem.W.kitOne K (.ref (He.ga K (yName cl))) (.ref (He.ga K (yName cl))) = some true
  nf : ∀ t ∈ yTys, PySem.W.notFirst K (He.ga K (yName cl)) (.type t) = true
  kf : ∀ t ∈ yTys, PySem.W.kitOne K (.type t) (.ref (He.ga K (yName cl))) = some false
end PF
namespace PF
open PySem PySem.Spec PyProof.Rows L2
inductive HitsV (K : PySem.W.Frag) (H : Hp) (kb : List (Key × V)) : List (Key × V) → Bool → Prop
  | nil : HitsV K H kb [] true
  | miss {k : Key} {v : V} {r : List (Key × V)} : valV kb k = none → HitsV K H kb ((k, v) :: r) false
  | hit {k : Key} {v y : V} {r : List (Key × V)} {d e : PyData} {b : Bool} : valV kb k = some y → Dp K H v d → Dp K H y e → SeqAt.shaped d = true → SeqAt.shaped e = true → HitsV K H kb r b → HitsV K H kb ((k, v) :: r) (PyData.eqv d e && b)
end PF
namespace PF
open PySem PySem.Spec PyProof.Rows L2
def dropW (kvs : List (Key × W)) (k : Key) : List (Key × W) := kvs.filter fun kv => decide (kv.1 ≠ k)
theorem RepD.drop {K : PySem.W.Frag} {c : Cc} {H : Hp} {k : Key} : ∀ {acc : List (Key × W)} {kvs : List (Key × V)}, RepD K c H acc kvs → RepD K c H (dropW acc k) (dropK kvs k)
  | [], [], h => h
  | [], _ :: _, h => by
    have := h.1
    cases this
  | _ :: _, [], h => by
    have := h.1
    cases this
  | (a, w) :: acc, (b, v) :: kvs, h => by
    obtain ⟨rfl, r, h⟩ := h.cons
    have ih := RepD.drop (k := k) h
    unfold dropW dropK at *
    by_cases e : a = k
    · rw [List.filter_cons_of_neg (by simpa using e), List.filter_cons_of_neg (by simpa using e)]
      exact ih
    · rw [List.filter_cons_of_pos (by simpa using e), List.filter_cons_of_pos (by simpa using e)]
      exact .mk r ih
end PF
namespace Lw
open PySem PySem.Spec PyProof.Rows L2 PF
def k_NOUGHT : W := (.tup [(.int 0), (.int 1)])
def k_MOST_LETTERS : W := (.int 8)
def k_MOST_STAIR : W := (.int 1000)
def k_MOST_WISHES : W := (.int 20)
def F_is_integer : List W → T W := defF 1 1 (sRet (fAndV (f1 (isiW isInt) (gV 0)) (fNotV (f1 (isiW (isOnly "bool")) (gV 0)))))
def F_common : List W → T W := defF 2 2 (sSeq (sPar 0 1 (fCons (fL (fCons (gV 0) fNil) absW) (fCons (fL (fCons (gV 1) fNil) absW) fNil))) (sSeq (sWhile (fun ρ => wInt 1 ρ + 1) (fBl (f2 neS (gV 1) (fun _ => .ok (.int 0)))) (sPar 0 1 (fCons (gV 1) (fCons (f2 modW (gV 0) (fL (fCons (gV 1) fNil) intW)) fNil)))) (sRet (gV 0))))
def F_made : List W → T W := defF 3 2 (sSeq (sIf (fBl (f2 ltW (gV 1) (fun _ => .ok (.int 0)))) (sPar 0 1 (fCons (f2 subW (fun _ => .ok (.int 0)) (gV 0)) (fCons (f2 subW (fun _ => .ok (.int 0)) (gV 1)) fNil))) sNil) (sSeq (sSet 2 (fL (fCons (gV 0) (fCons (gV 1) fNil)) F_common)) (sRet (fL (fCons (f2 fdivW (gV 0) (gV 2)) (fCons (f2 fdivW (gV 1) (gV 2)) fNil)) mkTup))))
def F_is_fraction : List W → T W := defF 2 1 (sSeq (sIf (fOr (fNot (fTru (f1 (isiW (isOnly "tuple")) (gV 0)))) (fOr (fBl (f2 neS (fL (fCons (gV 0) fNil) lenW) (fun _ => .ok (.int 2)))) (fNot (fTru (fL (fCons (fComp [1] (iOf tupW (gV 0)) (goName 1) fYes (fL (fCons (gV 1) fNil) F_is_integer)) fNil) allW))))) (sRet (fun _ => .ok (.bl false))) sNil) (sRet (fAndV (f2 geW (f2 ixW (gV 0) (fun _ => .ok (.int 1))) (fun _ => .ok (.int 1))) (f2 eqS (fL (fCons (f2 ixW (gV 0) (fun _ => .ok (.int 0))) (fCons (f2 ixW (gV 0) (fun _ => .ok (.int 1))) fNil)) F_common) (fun _ => .ok (.int 1))))))
def F_add : List W → T W := defF 2 2 (sRet (fL (fCons (f2 addW (f2 mulW (f2 ixW (gV 0) (fun _ => .ok (.int 0))) (f2 ixW (gV 1) (fun _ => .ok (.int 1)))) (f2 mulW (f2 ixW (gV 1) (fun _ => .ok (.int 0))) (f2 ixW (gV 0) (fun _ => .ok (.int 1))))) (fCons (f2 mulW (f2 ixW (gV 0) (fun _ => .ok (.int 1))) (f2 ixW (gV 1) (fun _ => .ok (.int 1)))) fNil)) F_made))
def F_sub : List W → T W := defF 2 2 (sRet (fL (fCons (f2 subW (f2 mulW (f2 ixW (gV 0) (fun _ => .ok (.int 0))) (f2 ixW (gV 1) (fun _ => .ok (.int 1)))) (f2 mulW (f2 ixW (gV 1) (fun _ => .ok (.int 0))) (f2 ixW (gV 0) (fun _ => .ok (.int 1))))) (fCons (f2 mulW (f2 ixW (gV 0) (fun _ => .ok (.int 1))) (f2 ixW (gV 1) (fun _ => .ok (.int 1)))) fNil)) F_made))
def F_is_under_ratios : List W → T W := defF 2 2 (sRet (f2 ltW (f2 mulW (f2 ixW (gV 0) (fun _ => .ok (.int 0))) (f2 ixW (gV 1) (fun _ => .ok (.int 1)))) (f2 mulW (f2 ixW (gV 1) (fun _ => .ok (.int 0))) (f2 ixW (gV 0) (fun _ => .ok (.int 1))))))
def F_sum_in : List W → T W := defF 3 1 (sSeq (sSet 1 (fun _ => .ok k_NOUGHT)) (sSeq (sFor (iOf lstW (gV 0)) (goName 2) (sSet 1 (fL (fCons (gV 1) (fCons (gV 2) fNil)) F_add))) (sRet (gV 1))))
def F_is_between : List W → T W := defF 3 3 (sRet (fAndV (fL (fCons (gV 0) fNil) F_is_integer) (fCh leW leW (gV 1) (gV 0) (gV 2))))
def F_is_stair : List W → T W := defF 3 1 (sSeq (sIf (fOr (fNot (fTru (f1 (isiW (isOnly "tuple")) (gV 0)))) (fNot (fBl (fCh leW leW (fun _ => .ok (.int 1)) (fL (fCons (gV 0) fNil) lenW) (fun _ => .ok k_MOST_LETTERS))))) (sRet (fun _ => .ok (.bl false))) sNil) (sSeq (sIf (fNot (fTru (fL (fCons (fComp [1] (iOf tupW (gV 0)) (goName 1) fYes (fL (fCons (gV 1) (fCons (fun _ => .ok (.int 0)) (fCons (fun _ => .ok k_MOST_STAIR) fNil))) F_is_between)) fNil) allW))) (sRet (fun _ => .ok (.bl false))) sNil) (sRet (fL (fCons (fComp [1, 2] (iL zpW (fCons (gV 0) (fCons (fSl (gV 0) (pSome (fun _ => .ok (.int 1))) pNo) fNil))) (goTup 2 (goCons (goName 1) (goCons (goName 2) goNil))) fYes (f2 leW (gV 1) (gV 2))) fNil) allW))))
def F_need_stair : List W → T W := defF 1 1 (sSeq (sIf (fNot (fTru (fL (fCons (gV 0) fNil) F_is_stair))) (sRaise 9 (fCons (gV 0) fNil)) sNil) (sRet (gV 0)))
def F_need_many : List W → T W := defF 1 1 (sIf (fNot (fTru (fL (fCons (gV 0) (fCons (fun _ => .ok (.int 1)) (fCons (fun _ => .ok k_MOST_LETTERS) fNil))) F_is_between))) (sRaise 3 (fCons (gV 0) fNil)) sNil)
def F_costs_of : List W → T W := defF 2 1 (sSeq (sExpr (fL (fCons (gV 0) fNil) F_need_many)) (sRet (fL (fCons (f2 addW (fComp [1] (iL rng2 (fCons (fun _ => .ok (.int 1)) (fCons (gV 0) fNil))) (goName 1) fYes (fL (fCons (fun _ => .ok (.int 1)) (fCons (f2 mulW (gV 1) (f2 addW (gV 1) (fun _ => .ok (.int 1)))) fNil)) F_made)) (fL (fCons (fL (fCons (fun _ => .ok (.int 1)) (fCons (gV 0) fNil)) F_made) fNil) mkLst)) fNil) tupOfW)))
def F_need_place : List W → T W := defF 3 3 (sSeq (sExpr (fL (fCons (gV 0) fNil) F_need_stair)) (sSeq (sIf (fNot (fTru (fL (fCons (gV 1) (fCons (fun _ => .ok (.int 1)) (fCons (fL (fCons (gV 0) fNil) lenW) fNil))) F_is_between))) (sRaise 3 (fCons (gV 1) fNil)) sNil) (sIf (fNot (fTru (fL (fCons (gV 2) (fCons (fun _ => .ok (.int 0)) (fCons (fun _ => .ok k_MOST_STAIR) fNil))) F_is_between))) (sRaise 3 (fCons (gV 2) fNil)) sNil)))
def F_raised_in : List W → T W := defF 5 3 (sRet (fL (fCons (fComp [3, 4] (iL enT (fCons (gV 0) (fCons (fun _ => .ok (.int 1)) fNil))) (goTup 2 (goCons (goName 3) (goCons (goName 4) goNil))) fYes (fIf (fBl (f2 geW (gV 3) (gV 1))) (fL (fCons (gV 4) (fCons (gV 2) fNil)) maxW) (gV 4))) fNil) tupOfW))
def F_raised : List W → T W := defF 3 3 (sSeq (sExpr (fL (fCons (gV 0) (fCons (gV 1) (fCons (gV 2) fNil))) F_need_place)) (sRet (fL (fCons (gV 0) (fCons (gV 1) (fCons (gV 2) fNil))) F_raised_in)))
def F_lowered : List W → T W := defF 5 3 (sSeq (sExpr (fL (fCons (gV 0) (fCons (gV 1) (fCons (gV 2) fNil))) F_need_place)) (sRet (fL (fCons (fComp [3, 4] (iL enT (fCons (gV 0) (fCons (fun _ => .ok (.int 1)) fNil))) (goTup 2 (goCons (goName 3) (goCons (goName 4) goNil))) fYes (fIf (fBl (f2 leW (gV 3) (gV 1))) (fL (fCons (gV 4) (fCons (gV 2) fNil)) minW) (gV 4))) fNil) tupOfW)))
def F_need_pair : List W → T W := defF 2 2 (sSeq (sExpr (fL (fCons (gV 0) fNil) F_need_stair)) (sSeq (sExpr (fL (fCons (gV 1) fNil) F_need_stair)) (sIf (fBl (f2 neS (fL (fCons (gV 0) fNil) lenW) (fL (fCons (gV 1) fNil) lenW))) (sRaise 9 (fCons (gV 1) fNil)) sNil)))
def F_is_under_stairs : List W → T W := defF 4 2 (sSeq (sExpr (fL (fCons (gV 0) (fCons (gV 1) fNil)) F_need_pair)) (sRet (fL (fCons (fComp [2, 3] (iL zpW (fCons (gV 0) (fCons (gV 1) fNil))) (goTup 2 (goCons (goName 2) (goCons (goName 3) goNil))) fYes (f2 leW (gV 2) (gV 3))) fNil) allW)))
def F_both : List W → T W := defF 5 2 (sSeq (sExpr (fL (fCons (gV 0) (fCons (gV 1) fNil)) F_need_pair)) (sSeq (sSet 2 (fL (fCons (fComp [3, 4] (iL zpW (fCons (gV 0) (fCons (gV 1) fNil))) (goTup 2 (goCons (goName 3) (goCons (goName 4) goNil))) fYes (f2 addW (gV 3) (gV 4))) fNil) tupOfW)) (sSeq (sIf (fBl (f2 gtW (f2 ixW (gV 2) (f1 negW (fun _ => .ok (.int 1)))) (fun _ => .ok k_MOST_STAIR))) (sRaise 25 (fCons (fun _ => .ok k_MOST_STAIR) fNil)) sNil) (sRet (gV 2)))))
def F_meet : List W → T W := defF 4 2 (sSeq (sExpr (fL (fCons (gV 0) (fCons (gV 1) fNil)) F_need_pair)) (sRet (fL (fCons (fComp [2, 3] (iL zpW (fCons (gV 0) (fCons (gV 1) fNil))) (goTup 2 (goCons (goName 2) (goCons (goName 3) goNil))) fYes (fL (fCons (gV 2) (fCons (gV 3) fNil)) minW)) fNil) tupOfW)))
def F_join : List W → T W := defF 4 2 (sSeq (sExpr (fL (fCons (gV 0) (fCons (gV 1) fNil)) F_need_pair)) (sRet (fL (fCons (fComp [2, 3] (iL zpW (fCons (gV 0) (fCons (gV 1) fNil))) (goTup 2 (goCons (goName 2) (goCons (goName 3) goNil))) fYes (fL (fCons (gV 2) (fCons (gV 3) fNil)) maxW)) fNil) tupOfW)))
def F_fewer : List W → T W := defF 2 2 (sSeq (sExpr (fL (fCons (gV 0) fNil) F_need_stair)) (sSeq (sIf (fNot (fTru (fL (fCons (gV 1) (fCons (fun _ => .ok (.int 1)) (fCons (fL (fCons (gV 0) fNil) lenW) fNil))) F_is_between))) (sRaise 3 (fCons (gV 1) fNil)) sNil) (sRet (fSl (gV 0) pNo (pSome (gV 1))))))
def F_more : List W → T W := defF 2 2 (sSeq (sExpr (fL (fCons (gV 0) fNil) F_need_stair)) (sSeq (sIf (fNot (fTru (fL (fCons (gV 1) (fCons (fL (fCons (gV 0) fNil) lenW) (fCons (fun _ => .ok k_MOST_LETTERS) fNil))) F_is_between))) (sRaise 3 (fCons (gV 1) fNil)) sNil) (sRet (f2 addW (gV 0) (f2 mulTA (fSl (gV 0) (pSome (f1 negW (fun _ => .ok (.int 1)))) pNo) (f2 subW (gV 1) (fL (fCons (gV 0) fNil) lenW)))))))
def F_price_in : List W → T W := defF 4 1 (sSeq (sSet 1 (fComp [2, 3] (iL enT (fCons (fSl (gV 0) pNo (pSome (f1 negW (fun _ => .ok (.int 1))))) fNil)) (goTup 2 (goCons (goName 2) (goCons (goName 3) goNil))) fYes (fL (fCons (gV 3) (fCons (f2 mulW (f2 addW (gV 2) (fun _ => .ok (.int 1))) (f2 addW (gV 2) (fun _ => .ok (.int 2)))) fNil)) F_made))) (sRet (fL (fCons (fL (fStar (gV 1) (fCons (fL (fCons (f2 ixW (gV 0) (f1 negW (fun _ => .ok (.int 1)))) (fCons (fL (fCons (gV 0) fNil) lenW) fNil)) F_made) fNil)) mkLst) fNil) F_sum_in)))
def F_need_length : List W → T W := defF 1 1 (sIf (fOr (fNot (fTru (fL (fCons (gV 0) fNil) F_is_fraction))) (fTru (fL (fCons (gV 0) (fCons (fun _ => .ok k_NOUGHT) fNil)) F_is_under_ratios))) (sRaise 20 (fCons (gV 0) fNil)) sNil)
def F_is_had_in : List W → T W := defF 2 2 (sRet (fNotV (fL (fCons (gV 1) (fCons (fL (fCons (gV 0) fNil) F_price_in) fNil)) F_is_under_ratios)))
def F_need_both : List W → T W := defF 2 2 (sSeq (sExpr (fL (fCons (gV 0) fNil) F_need_stair)) (sExpr (fL (fCons (gV 1) fNil) F_need_length)))
def F_is_had : List W → T W := defF 2 2 (sSeq (sExpr (fL (fCons (gV 0) (fCons (gV 1) fNil)) F_need_both)) (sRet (fL (fCons (gV 0) (fCons (gV 1) fNil)) F_is_had_in)))
def F_over_by : List W → T W := defF 2 2 (sSeq (sExpr (fL (fCons (gV 0) (fCons (gV 1) fNil)) F_need_both)) (sRet (fL (fCons (fL (fCons (gV 0) fNil) F_price_in) (fCons (gV 1) fNil)) F_sub)))
def F_greatest_in : List W → T W := defF 6 3 (sSeq (sPar 3 4 (fCons (f2 ixW (gV 0) (f2 subW (gV 1) (fun _ => .ok (.int 1)))) (fCons (fun _ => .ok k_MOST_STAIR) fNil))) (sSeq (sWhile (fun _ => 1000000) (fBl (f2 ltW (gV 3) (gV 4))) (sSeq (sSet 5 (f2 fdivW (f2 addW (f2 addW (gV 3) (gV 4)) (fun _ => .ok (.int 1))) (fun _ => .ok (.int 2)))) (sIf (fTru (fL (fCons (fL (fCons (gV 0) (fCons (gV 1) (fCons (gV 5) fNil))) F_raised_in) (fCons (gV 2) fNil)) F_is_had_in)) (sSet 3 (gV 5)) (sSet 4 (f2 subW (gV 5) (fun _ => .ok (.int 1))))))) (sRet (gV 3))))
def F_greatest_at : List W → T W := defF 3 3 (sSeq (sExpr (fL (fCons (gV 0) fNil) F_need_stair)) (sSeq (sIf (fNot (fTru (fL (fCons (gV 1) (fCons (fun _ => .ok (.int 1)) (fCons (fL (fCons (gV 0) fNil) lenW) fNil))) F_is_between))) (sRaise 3 (fCons (gV 1) fNil)) sNil) (sSeq (sExpr (fL (fCons (gV 2) fNil) F_need_length)) (sRet (fIf (fTru (fL (fCons (gV 0) (fCons (gV 2) fNil)) F_is_had_in)) (fL (fCons (gV 0) (fCons (gV 1) (fCons (gV 2) fNil))) F_greatest_in) (fun _ => .ok .non))))))
def F_is_wish : List W → T W := defF 2 2 (sSeq (sIf (fOr (fNot (fTru (f1 (isiW (isOnly "tuple")) (gV 1)))) (fBl (f2 neS (fL (fCons (gV 1) fNil) lenW) (fun _ => .ok (.int 2))))) (sRet (fun _ => .ok (.bl false))) sNil) (sRet (fAndV (fL (fCons (f2 ixW (gV 1) (fun _ => .ok (.int 0))) (fCons (fun _ => .ok (.int 1)) (fCons (gV 0) fNil))) F_is_between) (fL (fCons (f2 ixW (gV 1) (fun _ => .ok (.int 1))) (fCons (fun _ => .ok (.int 0)) (fCons (fun _ => .ok k_MOST_STAIR) fNil))) F_is_between))))
def F_least_stair : List W → T W := defF 6 2 (sSeq (sExpr (fL (fCons (gV 0) fNil) F_need_many)) (sSeq (sIf (fOr (fNot (fTru (f1 (isiW (isOnly "tuple")) (gV 1)))) (fOr (fBl (f2 gtW (fL (fCons (gV 1) fNil) lenW) (fun _ => .ok k_MOST_WISHES))) (fNot (fTru (fL (fCons (fComp [3] (iOf tupW (gV 1)) (goName 3) fYes (fL (fCons (gV 0) (fCons (gV 3) fNil)) F_is_wish)) fNil) allW))))) (sRaise 21 (fCons (gV 1) fNil)) sNil) (sRet (fL (fCons (fComp [2] (iL rng2 (fCons (fun _ => .ok (.int 1)) (fCons (f2 addW (gV 0) (fun _ => .ok (.int 1))) fNil))) (goName 2) fYes (fL (fCons (f2 addW (fL (fCons (fun _ => .ok (.int 0)) fNil) mkLst) (fComp [4, 5] (iOf tupW (gV 1)) (goTup 2 (goCons (goName 4) (goCons (goName 5) goNil))) (fBl (f2 leW (gV 4) (gV 2))) (gV 5))) fNil) maxW)) fNil) tupOfW))))
def F__law_mixed : List W → T W := defF 2 2 (sSeq (sSet 0 (f2 modW (fL (fCons (gV 0) fNil) intW) (fun _ => .ok (.int 2147483647)))) (sRet (f2 modW (f2 mulW (f2 modW (f2 addW (f2 addW (f2 mulW (gV 0) (f2 addW (fun _ => .ok (.int 48271)) (f2 mulW (f2 mulW (fun _ => .ok (.int 2)) (gV 1)) (gV 1)))) (f2 mulW (fun _ => .ok (.int 69621)) (gV 1))) (fun _ => .ok (.int 11))) (fun _ => .ok (.int 2147483647))) (fun _ => .ok (.int 69621))) (fun _ => .ok (.int 2147483629)))))
def mixv (c k : Int) : Int := ((c % 2147483647) * (48271 + 2 * k * k) + 69621 * k + 11) % 2147483647 * 69621 % 2147483629
theorem mix_run {c k : Int} (h0 : 0 ≤ k) (h1 : k ≤ 2 ^ 61) : F__law_mixed [.int c, .int k] = .ok (.int (mixv c k)) := by
  have hc0 : 0 ≤ c % 2147483647 := Int.emod_nonneg _ (by decide)
  have hc1 : c % 2147483647 < 2147483647 := Int.emod_lt_of_pos _ (by decide)
  have m1 : mulOk 2 k = true := mulOk_of (a := 2) (b := 62) (by decide) (by omega) (by decide) (by decide) (by decide)
  have m2 : mulOk (2 * k) k = true := mulOk_of (a := 64) (b := 62) (by omega) (by omega) (by decide) (by decide) (by decide)
  have hkk : (2 * k * k).natAbs < 2 ^ 126 := wide_lt (a := 64) (b := 62) (by omega) (by omega)
  have m3 : mulOk (c % 2147483647) (48271 + 2 * k * k) = true := mulOk_of (a := 32) (b := 127) (by omega) (by omega) (by decide) (by decide) (by decide)
  have m4 : mulOk 69621 k = true := mulOk_of (a := 20) (b := 62) (by decide) (by omega) (by decide) (by decide) (by decide)
  have hr0 : 0 ≤ ((c % 2147483647) * (48271 + 2 * k * k) + 69621 * k + 11) % 2147483647 := Int.emod_nonneg _ (by decide)
  have hr1 : ((c % 2147483647) * (48271 + 2 * k * k) + 69621 * k + 11) % 2147483647 < 2147483647 := Int.emod_lt_of_pos _ (by decide)
  have m5 : mulOk (((c % 2147483647) * (48271 + 2 * k * k) + 69621 * k + 11) % 2147483647) 69621 = true := mulOk_of (a := 32) (b := 20) (by omega) (by decide) (by decide) (by decide) (by decide)
  simp [F__law_mixed, defF, startE, endOf, m1, m2, m3, m4, m5, mixv]
theorem mixv_lt (c k : Int) : 0 ≤ mixv c k ∧ mixv c k < 2147483629 := ⟨Int.emod_nonneg _ (by decide), Int.emod_lt_of_pos _ (by decide)⟩
def F__law_stair_drawn : List W → T W := defF 6 3 (sSeq (sOwnPar 3 4 (fCons (fun _ => .ok (.int 0)) fNil)) (sSeq (sFor (iL rng1 (fCons (gV 1) fNil)) (goName 5) (sSeq (sSet 4 (f2 addW (gV 4) (f2 mulW (fL (fCons (gV 0) (fCons (gV 2) fNil)) F__law_draw) (fL (fCons (f2 gtW (fL (fCons (gV 0) (fCons (fun _ => .ok (.int 3)) fNil)) F__law_draw) (fun _ => .ok (.int 0))) fNil) intW)))) (sApp 3 (fCons (gV 4) fNil)))) (onFrz 3 (sRet (fL (fCons (gV 3) fNil) tupOfW)))))
def B__law_doors_0 : En → T W := (fL (fCons (gV 0) fNil) F_need_stair)
def L__law_doors_0 : List W → T W := lamF 1 B__law_doors_0
def B__law_doors_1 : En → T W := (fL (fCons (gV 0) (fCons (fun _ => .ok .non) (fCons (fun _ => .ok .non) fNil))) F_raised)
def L__law_doors_1 : List W → T W := lamF 1 B__law_doors_1
def B__law_doors_2 : En → T W := (fL (fCons (gV 0) (fCons (fun _ => .ok .non) (fCons (fun _ => .ok .non) fNil))) F_lowered)
def L__law_doors_2 : List W → T W := lamF 1 B__law_doors_2
def B__law_doors_3 : En → T W := (fL (fCons (gV 0) (fCons (fun _ => .ok .non) fNil)) F_is_under_stairs)
def L__law_doors_3 : List W → T W := lamF 1 B__law_doors_3
def B__law_doors_4 : En → T W := (fL (fCons (gV 0) (fCons (fun _ => .ok .non) fNil)) F_both)
def L__law_doors_4 : List W → T W := lamF 1 B__law_doors_4
def B__law_doors_5 : En → T W := (fL (fCons (gV 0) (fCons (fun _ => .ok .non) fNil)) F_meet)
def L__law_doors_5 : List W → T W := lamF 1 B__law_doors_5
def B__law_doors_6 : En → T W := (fL (fCons (gV 0) (fCons (fun _ => .ok .non) fNil)) F_join)
def L__law_doors_6 : List W → T W := lamF 1 B__law_doors_6
def B__law_doors_7 : En → T W := (fL (fCons (gV 0) (fCons (fun _ => .ok .non) fNil)) F_fewer)
def L__law_doors_7 : List W → T W := lamF 1 B__law_doors_7
def B__law_doors_8 : En → T W := (fL (fCons (gV 0) (fCons (fun _ => .ok .non) fNil)) F_more)
def L__law_doors_8 : List W → T W := lamF 1 B__law_doors_8
def B__law_doors_9 : En → T W := (fL (fCons (gV 0) (fCons (fun _ => .ok .non) fNil)) F_is_had)
def L__law_doors_9 : List W → T W := lamF 1 B__law_doors_9
def B__law_doors_10 : En → T W := (fL (fCons (gV 0) (fCons (fun _ => .ok .non) fNil)) F_over_by)
def L__law_doors_10 : List W → T W := lamF 1 B__law_doors_10
def B__law_doors_11 : En → T W := (fL (fCons (gV 0) (fCons (fun _ => .ok .non) (fCons (fun _ => .ok .non) fNil))) F_greatest_at)
def L__law_doors_11 : List W → T W := lamF 1 B__law_doors_11
def B__law_pairs_0 : En → T W := (fL (fCons (gV 0) (fCons (gV 1) fNil)) F_is_under_stairs)
def L__law_pairs_0 : List W → T W := lamF 2 B__law_pairs_0
def B__law_pairs_1 : En → T W := (fL (fCons (gV 0) (fCons (gV 1) fNil)) F_both)
def L__law_pairs_1 : List W → T W := lamF 2 B__law_pairs_1
def B__law_pairs_2 : En → T W := (fL (fCons (gV 0) (fCons (gV 1) fNil)) F_meet)
def L__law_pairs_2 : List W → T W := lamF 2 B__law_pairs_2
def B__law_pairs_3 : En → T W := (fL (fCons (gV 0) (fCons (gV 1) fNil)) F_join)
def L__law_pairs_3 : List W → T W := lamF 2 B__law_pairs_3
def B__law_numbers_right_0 : En → T W := (fL (fCons (gV 0) (fCons (gV 1) (fCons (fun _ => .ok .non) fNil))) F_raised)
def L__law_numbers_right_0 : List W → T W := lamF 2 B__law_numbers_right_0
def B__law_numbers_right_1 : En → T W := (fL (fCons (gV 0) (fCons (gV 1) (fCons (fun _ => .ok .non) fNil))) F_lowered)
def L__law_numbers_right_1 : List W → T W := lamF 2 B__law_numbers_right_1
def B__law_numbers_right_2 : En → T W := (fL (fCons (gV 0) (fCons (gV 1) (fCons (fun _ => .ok .non) fNil))) F_greatest_at)
def L__law_numbers_right_2 : List W → T W := lamF 2 B__law_numbers_right_2
def B__law_numbers_right_3 : En → T W := (fL (fCons (gV 0) (fCons (gV 1) fNil)) F_fewer)
def L__law_numbers_right_3 : List W → T W := lamF 2 B__law_numbers_right_3
def B__law_numbers_right_4 : En → T W := (fL (fCons (gV 0) (fCons (fun _ => .ok (.int 1)) (fCons (gV 1) fNil))) F_raised)
def L__law_numbers_right_4 : List W → T W := lamF 2 B__law_numbers_right_4
def B__law_numbers_right_5 : En → T W := (fL (fCons (gV 1) (fCons (gV 0) (fCons (gV 2) fNil))) F_lowered)
def L__law_numbers_right_5 : List W → T W := lamF 3 B__law_numbers_right_5
def B__law_numbers_right_6 : En → T W := (fL (fCons (gV 0) (fCons (gV 1) fNil)) F_more)
def L__law_numbers_right_6 : List W → T W := lamF 2 B__law_numbers_right_6
def B__law_numbers_right_7 : En → T W := (fL (fCons (gV 0) fNil) F_costs_of)
def L__law_numbers_right_7 : List W → T W := lamF 1 B__law_numbers_right_7
def B__law_numbers_right_8 : En → T W := (fL (fCons (gV 0) (fCons (fun _ => .ok .non) fNil)) F_least_stair)
def L__law_numbers_right_8 : List W → T W := lamF 1 B__law_numbers_right_8
def B__law_rest_right_0 : En → T W := (fL (fCons (gV 0) (fCons (gV 1) fNil)) F_is_had)
def L__law_rest_right_0 : List W → T W := lamF 2 B__law_rest_right_0
def B__law_rest_right_1 : En → T W := (fL (fCons (gV 0) (fCons (gV 1) fNil)) F_over_by)
def L__law_rest_right_1 : List W → T W := lamF 2 B__law_rest_right_1
def B__law_rest_right_2 : En → T W := (fL (fCons (gV 0) (fCons (fun _ => .ok (.int 1)) (fCons (gV 1) fNil))) F_greatest_at)
def L__law_rest_right_2 : List W → T W := lamF 2 B__law_rest_right_2
def B__law_rest_right_3 : En → T W := (fL (fCons (gV 0) (fCons (gV 1) fNil)) F_least_stair)
def L__law_rest_right_3 : List W → T W := lamF 2 B__law_rest_right_3
def lamTab : List LamE := [⟨"_law_doors", [0, 0, 0], L__law_doors_0⟩, ⟨"_law_doors", [0, 0, 1], L__law_doors_1⟩, ⟨"_law_doors", [0, 0, 2], L__law_doors_2⟩, ⟨"_law_doors", [0, 1, 1, 0], L__law_doors_3⟩, ⟨"_law_doors", [0, 1, 1, 1], L__law_doors_4⟩, ⟨"_law_doors", [0, 1, 1, 2], L__law_doors_5⟩, ⟨"_law_doors", [0, 2, 1, 0], L__law_doors_6⟩, ⟨"_law_doors", [0, 2, 1, 1], L__law_doors_7⟩, ⟨"_law_doors", [0, 2, 1, 2], L__law_doors_8⟩, ⟨"_law_doors", [0, 3, 1, 0], L__law_doors_9⟩, ⟨"_law_doors", [0, 3, 1, 1], L__law_doors_10⟩, ⟨"_law_doors", [0, 4, 1, 0], L__law_doors_11⟩, ⟨"_law_pairs", [0, 0, 0], L__law_pairs_0⟩, ⟨"_law_pairs", [0, 0, 1], L__law_pairs_1⟩, ⟨"_law_pairs", [0, 0, 2], L__law_pairs_2⟩, ⟨"_law_pairs", [0, 1, 1, 0], L__law_pairs_3⟩, ⟨"_law_numbers_right", [1, 1, 0, 0, 0, 0], L__law_numbers_right_0⟩, ⟨"_law_numbers_right", [1, 1, 0, 0, 0, 1], L__law_numbers_right_1⟩, ⟨"_law_numbers_right", [1, 1, 0, 0, 1, 1, 0], L__law_numbers_right_2⟩, ⟨"_law_numbers_right", [1, 1, 0, 0, 1, 1, 1], L__law_numbers_right_3⟩, ⟨"_law_numbers_right", [1, 2, 0, 0, 0, 0], L__law_numbers_right_4⟩, ⟨"_law_numbers_right", [1, 2, 0, 0, 0, 1], L__law_numbers_right_5⟩, ⟨"_law_numbers_right", [1, 3, 0, 0, 0, 0, 0, 0], L__law_numbers_right_6⟩, ⟨"_law_numbers_right", [1, 4, 0, 0, 0, 0], L__law_numbers_right_7⟩, ⟨"_law_numbers_right", [1, 4, 0, 0, 0, 1], L__law_numbers_right_8⟩, ⟨"_law_rest_right", [1, 1, 0, 0, 0, 0], L__law_rest_right_0⟩, ⟨"_law_rest_right", [1, 1, 0, 0, 0, 1], L__law_rest_right_1⟩, ⟨"_law_rest_right", [1, 1, 0, 0, 0, 2], L__law_rest_right_2⟩, ⟨"_law_rest_right", [1, 5, 0, 0, 0, 0, 0, 0], L__law_rest_right_3⟩]
def lamR : Str → List Nat → List W → T W := tabR lamTab
def F__law_heard : List W → T W := defF 4 1 (sSeq (sAsg (fL (fCons (fun _ => .ok .non) (fCons (fun _ => .ok .non) fNil)) mkTup) (goTup 2 (goCons (goName 1) (goCons (goName 2) goNil)))) (sSeq (sTryK (some 1) (fCallV lamR 0) [3, 6, 9, 20, 21, 25] 3 2) (sSeq (sIf (fBl (f2 isW (gV 2) (fun _ => .ok .non))) (sRet (fL (fCons (gV 1) fNil) mkLst)) sNil) (sSeq (sIf (fTru (f1 (isxW [(3, false), (6, false), (9, true), (20, false), (21, false), (25, false)]) (gV 2))) (sRet (fL (fCons (fun _ => .ok (.str ⟨⟨[115, 116, 97, 105, 114]⟩⟩)) (fCons (f1 (xfW "given" [3, 6, 9, 20, 21]) (gV 2)) fNil)) mkTup)) sNil) (sSeq (sIf (fTru (f1 (isxW [(3, true), (6, false), (9, false), (20, false), (21, false), (25, false)]) (gV 2))) (sRet (fL (fCons (fun _ => .ok (.str ⟨⟨[110, 117, 109, 98, 101, 114]⟩⟩)) (fCons (f1 (xfW "given" [3, 6, 9, 20, 21]) (gV 2)) fNil)) mkTup)) sNil) (sSeq (sIf (fTru (f1 (isxW [(3, false), (6, false), (9, false), (20, true), (21, false), (25, false)]) (gV 2))) (sRet (fL (fCons (fun _ => .ok (.str ⟨⟨[108, 101, 110, 103, 116, 104]⟩⟩)) (fCons (f1 (xfW "given" [3, 6, 9, 20, 21]) (gV 2)) fNil)) mkTup)) sNil) (sSeq (sIf (fTru (f1 (isxW [(3, false), (6, false), (9, false), (20, false), (21, true), (25, false)]) (gV 2))) (sRet (fL (fCons (fun _ => .ok (.str ⟨⟨[119, 105, 115, 104, 101, 115]⟩⟩)) (fCons (f1 (xfW "given" [3, 6, 9, 20, 21]) (gV 2)) fNil)) mkTup)) sNil) (sSeq (sIf (fTru (f1 (isxW [(3, false), (6, true), (9, false), (20, false), (21, false), (25, false)]) (gV 2))) (sRet (fL (fCons (fun _ => .ok (.str ⟨⟨[108, 97, 121, 105, 110, 103]⟩⟩)) (fCons (f1 (xfW "given" [3, 6, 9, 20, 21]) (gV 2)) fNil)) mkTup)) sNil) (sRet (fIf (fTru (f1 (isxW [(3, false), (6, false), (9, false), (20, false), (21, false), (25, true)]) (gV 2))) (fL (fCons (fun _ => .ok (.str ⟨⟨[109, 97, 110, 121]⟩⟩)) (fCons (f1 (xfW "most" [25]) (gV 2)) fNil)) mkTup) (fL (fCons (fun _ => .ok (.str ⟨⟨[101, 108, 115, 101]⟩⟩)) fNil) mkTup)))))))))))
def F__law_refuse : List W → T W := defF 5 3 (sSeq (sSet 3 (fL (fCons (gV 2) fNil) reprR)) (sSeq (sFor (iOf lstW (gV 0)) (goName 4) (sIf (fBl (f2 neS (fL (fCons (fL (fCons (fL (fCons (gV 4) fNil) F__law_heard) (fCons (fL (fCons (gV 4) fNil) F__law_heard) fNil)) mkLst) fNil) reprR) (fL (fCons (fL (fCons (gV 1) (fCons (gV 1) fNil)) mkLst) fNil) reprR))) (sRet (fun _ => .ok (.bl false))) sNil)) (sRet (f2 eqS (fL (fCons (gV 2) fNil) reprR) (gV 3)))))
def F__law_odd_stairs : List W → T W := defF 2 1 (sSeq (sOwn 1 (fCons (fun _ => .ok .non) (fCons (fun _ => .ok (.int 5)) (fCons (fL fNil mkTup) (fCons (fL (fCons (gV 0) fNil) lstOfW) (fCons (f2 addW (gV 0) (fL (fCons (f2 subW (f2 ixW (gV 0) (f1 negW (fun _ => .ok (.int 1)))) (fun _ => .ok (.int 1))) fNil) mkTup)) (fCons (fL (fCons (fun _ => .ok (.int 1001)) fNil) mkTup) (fCons (fL (fCons (f1 negW (fun _ => .ok (.int 1))) fNil) mkTup) (fCons (fun _ => .ok (.str ⟨⟨[115, 116, 97, 105, 114]⟩⟩)) (fCons (fun _ => .ok (.dct [] [])) (fCons (f2 mulTA (fL (fCons (fun _ => .ok (.int 0)) fNil) mkTup) (fun _ => .ok (.int 9))) fNil))))))))))) (sSeq (sApp 1 (fCons (fL (fCons (fL (fCons (fun _ => .ok (.int 1)) fNil) mkTup) fNil) mkTup) fNil)) (onFrz 1 (sRet (f2 addW (gV 1) (fL (fCons (fL (fCons (fun _ => .ok (.bl true)) fNil) mkTup) (fCons (fL (fCons (fun _ => .ok .non) fNil) mkTup) (fCons (fL (fCons (fun _ => .ok (.str ⟨⟨[49]⟩⟩)) fNil) mkTup) (fCons (fL (fCons (fun _ => .ok (.int 2)) (fCons (fun _ => .ok (.int 1)) fNil)) mkTup) (fCons (fL (fCons (fun _ => .ok (.int 0)) (fCons (fun _ => .ok (.bl false)) fNil)) mkTup) (fCons (fL (fCons (fun _ => .ok (.int 0)) (fCons (f2 powW (fun _ => .ok (.int 10)) (fun _ => .ok (.int 30))) fNil)) mkTup) (fCons (fL (fCons (fL (fCons (fun _ => .ok (.int 1)) (fCons (fun _ => .ok (.int 1)) fNil)) mkTup) fNil) mkTup) fNil))))))) mkLst))))))
def F__law_odd_lengths : List W → T W := defF 0 0 (sRet (fL (fCons (fun _ => .ok .non) (fCons (fun _ => .ok (.int 5)) (fCons (fL (fCons (fun _ => .ok (.int 1)) (fCons (fun _ => .ok (.int 0)) fNil)) mkTup) (fCons (fL (fCons (fun _ => .ok (.int 2)) (fCons (fun _ => .ok (.int 4)) fNil)) mkTup) (fCons (fL (fCons (fun _ => .ok (.int 1)) (fCons (f1 negW (fun _ => .ok (.int 2))) fNil)) mkTup) (fCons (fL (fCons (f1 negW (fun _ => .ok (.int 1))) (fCons (fun _ => .ok (.int 2)) fNil)) mkTup) (fCons (fL (fCons (fun _ => .ok (.bl true)) (fCons (fun _ => .ok (.int 1)) fNil)) mkTup) (fCons (fL (fCons (fun _ => .ok (.int 1)) (fCons (fun _ => .ok (.bl true)) fNil)) mkTup) (fCons (fL (fCons (fun _ => .ok (.int 1)) (fCons (fun _ => .ok (.int 1)) fNil)) mkLst) (fCons (fL (fCons (fun _ => .ok (.int 1)) fNil) mkTup) (fCons (fL (fCons (fun _ => .ok (.int 1)) (fCons (fun _ => .ok (.int 1)) (fCons (fun _ => .ok (.int 1)) fNil))) mkTup) (fCons (fL (fCons (fun _ => .ok (.str ⟨⟨[49]⟩⟩)) (fCons (fun _ => .ok (.int 1)) fNil)) mkTup) (fCons (fun _ => .ok (.dct [] [])) fNil))))))))))))) mkLst))
def cap__law_doors : Str → List Nat → Option (List Nat) := slotR "_law_doors" [([0, 0, 0], [0]), ([0, 0, 1], [0]), ([0, 0, 2], [0]), ([0, 1, 1, 0], [0]), ([0, 1, 1, 1], [0]), ([0, 1, 1, 2], [0]), ([0, 2, 1, 0], [0]), ([0, 2, 1, 1], [0]), ([0, 2, 1, 2], [0]), ([0, 3, 1, 0], [0]), ([0, 3, 1, 1], [0]), ([0, 4, 1, 0], [0])]
def F__law_doors : List W → T W := defX 2 1 cap__law_doors (xSeq (sSet 1 (fL (fCons (fun _ => .ok (.lam "_law_doors" [0, 0, 0])) (fCons (fun _ => .ok (.lam "_law_doors" [0, 0, 1])) (fCons (fun _ => .ok (.lam "_law_doors" [0, 0, 2])) fNil))) mkLst)) (xSeq (sSet 1 (f2 addW (gV 1) (fL (fCons (fun _ => .ok (.lam "_law_doors" [0, 1, 1, 0])) (fCons (fun _ => .ok (.lam "_law_doors" [0, 1, 1, 1])) (fCons (fun _ => .ok (.lam "_law_doors" [0, 1, 1, 2])) fNil))) mkLst))) (xSeq (sSet 1 (f2 addW (gV 1) (fL (fCons (fun _ => .ok (.lam "_law_doors" [0, 2, 1, 0])) (fCons (fun _ => .ok (.lam "_law_doors" [0, 2, 1, 1])) (fCons (fun _ => .ok (.lam "_law_doors" [0, 2, 1, 2])) fNil))) mkLst))) (xSeq (sSet 1 (f2 addW (gV 1) (fL (fCons (fun _ => .ok (.lam "_law_doors" [0, 3, 1, 0])) (fCons (fun _ => .ok (.lam "_law_doors" [0, 3, 1, 1])) fNil)) mkLst))) (xRet (f2 addW (gV 1) (fL (fCons (fun _ => .ok (.lam "_law_doors" [0, 4, 1, 0])) fNil) mkLst)))))))
def cap__law_pairs : Str → List Nat → Option (List Nat) := slotR "_law_pairs" [([0, 0, 0], [0, 1]), ([0, 0, 1], [0, 1]), ([0, 0, 2], [0, 1]), ([0, 1, 1, 0], [0, 1])]
def F__law_pairs : List W → T W := defX 3 2 cap__law_pairs (xSeq (sSet 2 (fL (fCons (fun _ => .ok (.lam "_law_pairs" [0, 0, 0])) (fCons (fun _ => .ok (.lam "_law_pairs" [0, 0, 1])) (fCons (fun _ => .ok (.lam "_law_pairs" [0, 0, 2])) fNil))) mkLst)) (xRet (f2 addW (gV 2) (fL (fCons (fun _ => .ok (.lam "_law_pairs" [0, 1, 1, 0])) fNil) mkLst))))
def F__law_stairs_right : List W → T W := defF 3 1 (sSeq (sFor (iOf lstW (fL (fCons (gV 0) fNil) F__law_odd_stairs)) (goName 1) (sIf (fNot (fTru (fL (fCons (f2 addW (fL (fCons (gV 1) fNil) F__law_doors) (fL (fCons (gV 0) (fCons (gV 1) fNil)) F__law_pairs)) (fCons (fL (fCons (fun _ => .ok (.str ⟨⟨[115, 116, 97, 105, 114]⟩⟩)) (fCons (gV 1) fNil)) mkTup) (fCons (gV 1) fNil))) F__law_refuse))) (sRet (fun _ => .ok (.bl false))) sNil)) (sSeq (sSet 2 (fIf (fBl (f2 ltW (fL (fCons (gV 0) fNil) lenW) (fun _ => .ok (.int 8)))) (f2 addW (gV 0) (fSl (gV 0) (pSome (f1 negW (fun _ => .ok (.int 1)))) pNo)) (fSl (gV 0) (pSome (fun _ => .ok (.int 1))) pNo))) (sRet (fL (fCons (fL (fCons (gV 0) (fCons (gV 2) fNil)) F__law_pairs) (fCons (fL (fCons (fun _ => .ok (.str ⟨⟨[115, 116, 97, 105, 114]⟩⟩)) (fCons (gV 2) fNil)) mkTup) (fCons (gV 2) fNil))) F__law_refuse))))
def cap__law_numbers_right : Str → List Nat → Option (List Nat) := slotR "_law_numbers_right" [([1, 1, 0, 0, 0, 0], [0, 2]), ([1, 1, 0, 0, 0, 1], [0, 2]), ([1, 1, 0, 0, 1, 1, 0], [0, 2]), ([1, 1, 0, 0, 1, 1, 1], [0, 2]), ([1, 2, 0, 0, 0, 0], [0, 2]), ([1, 2, 0, 0, 0, 1], [3, 0, 2]), ([1, 3, 0, 0, 0, 0, 0, 0], [0, 2]), ([1, 4, 0, 0, 0, 0], [2]), ([1, 4, 0, 0, 0, 1], [2])]
def F__law_numbers_right : List W → T W := defL 4 1 (sSeq (sSet 3 (fL (fCons (gV 0) fNil) lenW)) (sSeq (sFor (iOf tupW (fL (fCons (fun _ => .ok (.int 0)) (fCons (f2 addW (gV 3) (fun _ => .ok (.int 1))) (fCons (f1 negW (fun _ => .ok (.int 1))) (fCons (fun _ => .ok (.bl true)) (fCons (fun _ => .ok (.bl false)) (fCons (fun _ => .ok .non) (fCons (fun _ => .ok (.str ⟨⟨[49]⟩⟩)) (fCons (fL (fCons (fun _ => .ok (.int 1)) fNil) mkTup) (fCons (fL (fCons (fun _ => .ok (.int 1)) fNil) mkLst) (fCons (f2 powW (fun _ => .ok (.int 10)) (fun _ => .ok (.int 30))) fNil)))))))))) mkTup)) (goName 2) (sSeq (sSet 1 (fL (fCons (fun _ => .ok (.lam "_law_numbers_right" [1, 1, 0, 0, 0, 0])) (fCons (fun _ => .ok (.lam "_law_numbers_right" [1, 1, 0, 0, 0, 1])) fNil)) mkLst)) (sSeq (sSet 1 (f2 addW (gV 1) (fL (fCons (fun _ => .ok (.lam "_law_numbers_right" [1, 1, 0, 0, 1, 1, 0])) (fCons (fun _ => .ok (.lam "_law_numbers_right" [1, 1, 0, 0, 1, 1, 1])) fNil)) mkLst))) (sIf (fNot (fTru (fLz cap__law_numbers_right (fCons (gV 1) (fCons (fL (fCons (fun _ => .ok (.str ⟨⟨[110, 117, 109, 98, 101, 114]⟩⟩)) (fCons (gV 2) fNil)) mkTup) (fCons (gV 2) fNil))) F__law_refuse))) (sRet (fun _ => .ok (.bl false))) sNil)))) (sSeq (sFor (iOf tupW (fL (fCons (f1 negW (fun _ => .ok (.int 1))) (fCons (fun _ => .ok (.int 1001)) (fCons (fun _ => .ok (.bl true)) (fCons (fun _ => .ok .non) (fCons (fun _ => .ok (.str ⟨⟨[49]⟩⟩)) (fCons (fL (fCons (fun _ => .ok (.int 1)) fNil) mkTup) (fCons (fun _ => .ok (.dct [] [])) fNil))))))) mkTup)) (goName 2) (sSeq (sSet 1 (fL (fCons (fun _ => .ok (.lam "_law_numbers_right" [1, 2, 0, 0, 0, 0])) (fCons (fun _ => .ok (.lam "_law_numbers_right" [1, 2, 0, 0, 0, 1])) fNil)) mkLst)) (sIf (fNot (fTru (fLz cap__law_numbers_right (fCons (gV 1) (fCons (fL (fCons (fun _ => .ok (.str ⟨⟨[110, 117, 109, 98, 101, 114]⟩⟩)) (fCons (gV 2) fNil)) mkTup) (fCons (gV 2) fNil))) F__law_refuse))) (sRet (fun _ => .ok (.bl false))) sNil))) (sSeq (sFor (iOf tupW (fL (fCons (fun _ => .ok (.int 0)) (fCons (fun _ => .ok (.int 9)) (fCons (f1 negW (fun _ => .ok (.int 1))) (fCons (fun _ => .ok (.bl true)) (fCons (fun _ => .ok .non) (fCons (fun _ => .ok (.str ⟨⟨[49]⟩⟩)) (fCons (fL (fCons (fun _ => .ok (.int 1)) fNil) mkTup) (fCons (f2 subW (gV 3) (fun _ => .ok (.int 1))) fNil)))))))) mkTup)) (goName 2) (sIf (fNot (fTru (fLz cap__law_numbers_right (fCons (fL (fCons (fun _ => .ok (.lam "_law_numbers_right" [1, 3, 0, 0, 0, 0, 0, 0])) fNil) mkLst) (fCons (fL (fCons (fun _ => .ok (.str ⟨⟨[110, 117, 109, 98, 101, 114]⟩⟩)) (fCons (gV 2) fNil)) mkTup) (fCons (gV 2) fNil))) F__law_refuse))) (sRet (fun _ => .ok (.bl false))) sNil)) (sSeq (sFor (iOf tupW (fL (fCons (fun _ => .ok (.int 0)) (fCons (fun _ => .ok (.int 9)) (fCons (f1 negW (fun _ => .ok (.int 1))) (fCons (fun _ => .ok (.bl true)) (fCons (fun _ => .ok .non) (fCons (fun _ => .ok (.str ⟨⟨[49]⟩⟩)) (fCons (fL (fCons (fun _ => .ok (.int 1)) fNil) mkTup) (fCons (f2 powW (fun _ => .ok (.int 10)) (fun _ => .ok (.int 30))) fNil)))))))) mkTup)) (goName 2) (sSeq (sSet 1 (fL (fCons (fun _ => .ok (.lam "_law_numbers_right" [1, 4, 0, 0, 0, 0])) (fCons (fun _ => .ok (.lam "_law_numbers_right" [1, 4, 0, 0, 0, 1])) fNil)) mkLst)) (sIf (fNot (fTru (fLz cap__law_numbers_right (fCons (gV 1) (fCons (fL (fCons (fun _ => .ok (.str ⟨⟨[110, 117, 109, 98, 101, 114]⟩⟩)) (fCons (gV 2) fNil)) mkTup) (fCons (gV 2) fNil))) F__law_refuse))) (sRet (fun _ => .ok (.bl false))) sNil))) (sRet (fun _ => .ok (.bl true))))))))
def cap__law_rest_right : Str → List Nat → Option (List Nat) := slotR "_law_rest_right" [([1, 1, 0, 0, 0, 0], [0, 3]), ([1, 1, 0, 0, 0, 1], [0, 3]), ([1, 1, 0, 0, 0, 2], [0, 3]), ([1, 5, 0, 0, 0, 0, 0, 0], [4, 3])]
def F__law_rest_right : List W → T W := defL 5 1 (sSeq (sSet 4 (fL (fCons (gV 0) fNil) lenW)) (sSeq (sFor (iOf lstW (fun _ => F__law_odd_lengths [])) (goName 3) (sSeq (sSet 1 (fL (fCons (fun _ => .ok (.lam "_law_rest_right" [1, 1, 0, 0, 0, 0])) (fCons (fun _ => .ok (.lam "_law_rest_right" [1, 1, 0, 0, 0, 1])) (fCons (fun _ => .ok (.lam "_law_rest_right" [1, 1, 0, 0, 0, 2])) fNil))) mkLst)) (sIf (fNot (fTru (fLz cap__law_rest_right (fCons (gV 1) (fCons (fL (fCons (fun _ => .ok (.str ⟨⟨[108, 101, 110, 103, 116, 104]⟩⟩)) (fCons (gV 3) fNil)) mkTup) (fCons (gV 3) fNil))) F__law_refuse))) (sRet (fun _ => .ok (.bl false))) sNil))) (sSeq (sOwn 2 (fCons (fun _ => .ok .non) (fCons (fun _ => .ok (.int 5)) (fCons (fL (fCons (fL (fCons (fun _ => .ok (.int 1)) (fCons (fun _ => .ok (.int 1)) fNil)) mkTup) fNil) mkLst) (fCons (f2 mulTA (fL (fCons (fL (fCons (fun _ => .ok (.int 1)) (fCons (fun _ => .ok (.int 1)) fNil)) mkTup) fNil) mkTup) (fun _ => .ok (.int 21))) (fCons (fL (fCons (fL (fCons (fun _ => .ok (.int 1)) fNil) mkTup) fNil) mkTup) (fCons (fL (fCons (fL (fCons (fun _ => .ok (.int 1)) (fCons (fun _ => .ok (.int 1)) (fCons (fun _ => .ok (.int 1)) fNil))) mkTup) fNil) mkTup) (fCons (fL (fCons (fL (fCons (fun _ => .ok (.int 1)) (fCons (fun _ => .ok (.int 1)) fNil)) mkLst) fNil) mkTup) (fCons (fL (fCons (fL (fCons (fun _ => .ok (.int 0)) (fCons (fun _ => .ok (.int 1)) fNil)) mkTup) fNil) mkTup) (fCons (fL (fCons (fL (fCons (f2 addW (gV 4) (fun _ => .ok (.int 1))) (fCons (fun _ => .ok (.int 1)) fNil)) mkTup) fNil) mkTup) (fCons (fun _ => .ok (.dct [] [])) fNil))))))))))) (sSeq (onFrz 2 (sOwnAdd 2 (gV 2) (fL (fCons (fL (fCons (fL (fCons (fun _ => .ok (.int 1)) (fCons (f1 negW (fun _ => .ok (.int 1))) fNil)) mkTup) fNil) mkTup) (fCons (fL (fCons (fL (fCons (fun _ => .ok (.int 1)) (fCons (fun _ => .ok (.int 1001)) fNil)) mkTup) fNil) mkTup) (fCons (fL (fCons (fL (fCons (fun _ => .ok (.bl true)) (fCons (fun _ => .ok (.int 1)) fNil)) mkTup) fNil) mkTup) (fCons (fL (fCons (fL (fCons (fun _ => .ok (.int 1)) (fCons (fun _ => .ok (.bl true)) fNil)) mkTup) fNil) mkTup) (fCons (fL (fCons (fL (fCons (fun _ => .ok (.int 1)) (fCons (fun _ => .ok .non) fNil)) mkTup) fNil) mkTup) (fCons (fL (fCons (fun _ => .ok .non) fNil) mkTup) (fCons (fL (fCons (fun _ => .ok (.int 1)) (fCons (fun _ => .ok (.int 1)) fNil)) mkTup) fNil))))))) mkLst))) (sSeq (sApp 2 (fCons (fun _ => .ok (.str ⟨⟨[119, 105, 115, 104, 101, 115]⟩⟩)) fNil)) (sSeq (onFrz 2 (sFor (iOf lstW (gV 2)) (goName 3) (sIf (fNot (fTru (fLz cap__law_rest_right (fCons (fL (fCons (fun _ => .ok (.lam "_law_rest_right" [1, 5, 0, 0, 0, 0, 0, 0])) fNil) mkLst) (fCons (fL (fCons (fun _ => .ok (.str ⟨⟨[119, 105, 115, 104, 101, 115]⟩⟩)) (fCons (gV 3) fNil)) mkTup) (fCons (gV 3) fNil))) F__law_refuse))) (sRet (fun _ => .ok (.bl false))) sNil))) (sRet (fun _ => .ok (.bl true)))))))))
def g_law : En → T (Fl × En) := (sSeq (sFor (iL rng1 (fCons (f2 addW (fun _ => .ok (.int 2)) (fL (fCons (fL (fCons (gV 0) fNil) lenW) (fCons (fun _ => .ok (.int 4)) fNil)) minW)) fNil)) (goName 2) (sSeq (sSet 3 (fL (fCons (gV 1) (fCons (f2 addW (fun _ => .ok (.int 1)) (fL (fCons (gV 1) (fCons (fun _ => .ok (.int 8)) fNil)) F__law_draw)) (fCons (f2 ixW (fL (fCons (fun _ => .ok (.int 3)) (fCons (fun _ => .ok (.int 125)) fNil)) mkLst) (fL (fCons (gV 1) (fCons (fun _ => .ok (.int 2)) fNil)) F__law_draw)) fNil))) F__law_stair_drawn)) (sIf (fOr (fNot (fTru (fL (fCons (gV 3) fNil) F__law_stairs_right))) (fOr (fNot (fTru (fL (fCons (gV 3) fNil) F__law_numbers_right))) (fNot (fTru (fL (fCons (gV 3) fNil) F__law_rest_right))))) (sRet (fun _ => .ok (.bl false))) sNil))) (sSeq (sSet 4 (f2 addW (f2 mulTA (fL (fCons (fun _ => .ok (.int 0)) fNil) mkTup) (fun _ => .ok (.int 7))) (fL (fCons (fun _ => .ok (.int 1000)) fNil) mkTup))) (sSeq (sOwn 5 (fCons (fL (fCons (gV 4) fNil) F_need_stair) (fCons (fL (fCons (gV 4) (fCons (fun _ => .ok (.int 8)) (fCons (fun _ => .ok (.int 1000)) fNil))) F_raised) (fCons (fL (fCons (gV 4) (fCons (fun _ => .ok (.int 8)) (fCons (fun _ => .ok (.int 0)) fNil))) F_lowered) (fCons (fL (fCons (fun _ => .ok (.int 8)) (fCons (f2 mulTA (fL (fCons (fL (fCons (fun _ => .ok (.int 8)) (fCons (fun _ => .ok (.int 1000)) fNil)) mkTup) fNil) mkTup) (fun _ => .ok (.int 20))) fNil)) F_least_stair) fNil))))) (sSeq (sApp 5 (fCons (fL (fCons (gV 4) (fCons (fun _ => .ok (.int 8)) fNil)) F_fewer) fNil)) (onFrz 5 (sRet (fAndV (f2 eqS (gV 5) (fL (fCons (gV 4) (fCons (gV 4) (fCons (f2 mulTA (fL (fCons (fun _ => .ok (.int 0)) fNil) mkTup) (fun _ => .ok (.int 8))) (fCons (gV 4) (fCons (gV 4) fNil))))) mkLst)) (f2 isW (fL (fCons (fL (fCons (fun _ => .ok (.int 0)) fNil) mkTup) (fCons (fL (fCons (fun _ => .ok (.int 0)) (fCons (fun _ => .ok (.int 1)) fNil)) mkTup) fNil)) F_is_had) (fun _ => .ok (.bl true))))))))))
end Lw
namespace Lw
open PySem PySem.Spec PyProof.Rows L2 PF
abbrev FnP (K : PySem.W.Frag) (x : Str) (st : Stmt) (sc : Scope) (f : Addr) (fd : FuncData) : Prop := FunD K x x (defArgs st) (defBody st) sc [] [] f fd
end Lw
namespace Lw
open PySem PySem.Spec PyProof.Rows L2 PF
section
variable {P : Program} {w : World} {K : PySem.W.Frag} {mg : Str → Option Value} {base : Heap}
theorem xi_BadNumber {fd : FuncData} (F : FunD K "__init__" "BadNumber.__init__" (defArgs (mth (top 2))) (defBody (mth (top 2))) (defScope (mth (top 2))) [] [] (He.ma K (He.ga K (xName 3)) "__init__") fd) (gl : mg (xName 3) = some (.ref (He.ga K (xName 3)))) (xb : XB K (xName 3) "given" "ValueError.__new__" tlV) (g_NestError : mg "NestError" = some (.ref (He.ga K "NestError"))) (b_NestError : ownB K (He.ga K "NestError") "ValueError.__init__" = true) : XIs P w K mg base 3 "ValueError.__new__" tlV := by
  have sc : FnScope ["self", "given"] ["self", "given"] (defScope (mth (top 2))) := ⟨rfl, rfl, rfl, by decide +kernel, rfl, by decide +kernel, by decide +kernel⟩
  exact xb.is rfl gl PySem.F.excBase_ValueError (ini_ok (f := "given") F sc PySem.F.excBase_ValueError PySem.F.store_ValueError (.inl rfl) (.inl rfl) (by decide) (by decide) (fun _ _ _ _ _ _ => ownB_base rfl g_NestError b_NestError handed_VE (by decide)) (fun _ => ⟨_, rfl⟩) (fun _ => rfl) (fun _ => rfl)) (F.bindsN fun _ _ _ _ _ _ us hl => match us, hl with | [_, _], _ => rfl)
theorem xi_BadLaying {fd : FuncData} (F : FunD K "__init__" "BadLaying.__init__" (defArgs (mth (top 3))) (defBody (mth (top 3))) (defScope (mth (top 3))) [] [] (He.ma K (He.ga K (xName 6)) "__init__") fd) (gl : mg (xName 6) = some (.ref (He.ga K (xName 6)))) (xb : XB K (xName 6) "given" "ValueError.__new__" tlV) (g_NestError : mg "NestError" = some (.ref (He.ga K "NestError"))) (b_NestError : ownB K (He.ga K "NestError") "ValueError.__init__" = true) : XIs P w K mg base 6 "ValueError.__new__" tlV := by
  have sc : FnScope ["self", "given"] ["self", "given"] (defScope (mth (top 3))) := ⟨rfl, rfl, rfl, by decide +kernel, rfl, by decide +kernel, by decide +kernel⟩
  exact xb.is rfl gl PySem.F.excBase_ValueError (ini_ok (f := "given") F sc PySem.F.excBase_ValueError PySem.F.store_ValueError (.inl rfl) (.inl rfl) (by decide) (by decide) (fun _ _ _ _ _ _ => ownB_base rfl g_NestError b_NestError handed_VE (by decide)) (fun _ => ⟨_, rfl⟩) (fun _ => rfl) (fun _ => rfl)) (F.bindsN fun _ _ _ _ _ _ us hl => match us, hl with | [_, _], _ => rfl)
theorem xi_BadStair {fd : FuncData} (F : FunD K "__init__" "BadStair.__init__" (defArgs (mth (top 4))) (defBody (mth (top 4))) (defScope (mth (top 4))) [] [] (He.ma K (He.ga K (xName 9)) "__init__") fd) (gl : mg (xName 9) = some (.ref (He.ga K (xName 9)))) (xb : XB K (xName 9) "given" "ValueError.__new__" tlV) (g_NestError : mg "NestError" = some (.ref (He.ga K "NestError"))) (b_NestError : ownB K (He.ga K "NestError") "ValueError.__init__" = true) : XIs P w K mg base 9 "ValueError.__new__" tlV := by
  have sc : FnScope ["self", "given"] ["self", "given"] (defScope (mth (top 4))) := ⟨rfl, rfl, rfl, by decide +kernel, rfl, by decide +kernel, by decide +kernel⟩
  exact xb.is rfl gl PySem.F.excBase_ValueError (ini_ok (f := "given") F sc PySem.F.excBase_ValueError PySem.F.store_ValueError (.inl rfl) (.inl rfl) (by decide) (by decide) (fun _ _ _ _ _ _ => ownB_base rfl g_NestError b_NestError handed_VE (by decide)) (fun _ => ⟨_, rfl⟩) (fun _ => rfl) (fun _ => rfl)) (F.bindsN fun _ _ _ _ _ _ us hl => match us, hl with | [_, _], _ => rfl)
theorem xi_BadLength {fd : FuncData} (F : FunD K "__init__" "BadLength.__init__" (defArgs (mth (top 5))) (defBody (mth (top 5))) (defScope (mth (top 5))) [] [] (He.ma K (He.ga K (xName 20)) "__init__") fd) (gl : mg (xName 20) = some (.ref (He.ga K (xName 20)))) (xb : XB K (xName 20) "given" "ValueError.__new__" tlV) (g_NestError : mg "NestError" = some (.ref (He.ga K "NestError"))) (b_NestError : ownB K (He.ga K "NestError") "ValueError.__init__" = true) : XIs P w K mg base 20 "ValueError.__new__" tlV := by
  have sc : FnScope ["self", "given"] ["self", "given"] (defScope (mth (top 5))) := ⟨rfl, rfl, rfl, by decide +kernel, rfl, by decide +kernel, by decide +kernel⟩
  exact xb.is rfl gl PySem.F.excBase_ValueError (ini_ok (f := "given") F sc PySem.F.excBase_ValueError PySem.F.store_ValueError (.inl rfl) (.inl rfl) (by decide) (by decide) (fun _ _ _ _ _ _ => ownB_base rfl g_NestError b_NestError handed_VE (by decide)) (fun _ => ⟨_, rfl⟩) (fun _ => rfl) (fun _ => rfl)) (F.bindsN fun _ _ _ _ _ _ us hl => match us, hl with | [_, _], _ => rfl)
theorem xi_BadWishes {fd : FuncData} (F : FunD K "__init__" "BadWishes.__init__" (defArgs (mth (top 6))) (defBody (mth (top 6))) (defScope (mth (top 6))) [] [] (He.ma K (He.ga K (xName 21)) "__init__") fd) (gl : mg (xName 21) = some (.ref (He.ga K (xName 21)))) (xb : XB K (xName 21) "given" "ValueError.__new__" tlV) (g_NestError : mg "NestError" = some (.ref (He.ga K "NestError"))) (b_NestError : ownB K (He.ga K "NestError") "ValueError.__init__" = true) : XIs P w K mg base 21 "ValueError.__new__" tlV := by
  have sc : FnScope ["self", "given"] ["self", "given"] (defScope (mth (top 6))) := ⟨rfl, rfl, rfl, by decide +kernel, rfl, by decide +kernel, by decide +kernel⟩
  exact xb.is rfl gl PySem.F.excBase_ValueError (ini_ok (f := "given") F sc PySem.F.excBase_ValueError PySem.F.store_ValueError (.inl rfl) (.inl rfl) (by decide) (by decide) (fun _ _ _ _ _ _ => ownB_base rfl g_NestError b_NestError handed_VE (by decide)) (fun _ => ⟨_, rfl⟩) (fun _ => rfl) (fun _ => rfl)) (F.bindsN fun _ _ _ _ _ _ us hl => match us, hl with | [_, _], _ => rfl)
theorem xi_TooMany {fd : FuncData} (F : FunD K "__init__" "TooMany.__init__" (defArgs (mth (top 7))) (defBody (mth (top 7))) (defScope (mth (top 7))) [] [] (He.ma K (He.ga K (xName 25)) "__init__") fd) (gl : mg (xName 25) = some (.ref (He.ga K (xName 25)))) (xb : XB K (xName 25) "most" "OverflowError.__new__" tlO) (g_OverflowError : mg "OverflowError" = none) (b_OverflowError : iniB (PySem.W.findCls K (.type "OverflowError") (.type "type") "__init__") "OverflowError.__init__" = true) : XIs P w K mg base 25 "OverflowError.__new__" tlO := by
  have sc : FnScope ["self", "most"] ["self", "most"] (defScope (mth (top 7))) := ⟨rfl, rfl, rfl, by decide +kernel, rfl, by decide +kernel, by decide +kernel⟩
  exact xb.is rfl gl PySem.F.excBase_OverflowError (ini_ok (f := "most") F sc PySem.F.excBase_OverflowError PySem.F.store_OverflowError (.inl rfl) (.inl rfl) (by decide) (by decide) (fun _ _ _ _ _ _ => base_blt rfl g_OverflowError PyProof.Rows.Boot.«OverflowError» typ_OE (by decide +kernel) (iniB_ok b_OverflowError) handed_OE (by decide) (by decide)) (fun _ => ⟨_, rfl⟩) (fun _ => rfl) (fun _ => rfl)) (F.bindsN fun _ _ _ _ _ _ us hl => match us, hl with | [_, _], _ => rfl)
theorem ok_is_integer {f : Addr} {fd : FuncData} (F : FnP K "is_integer" (top 10) sc_is_integer f fd) (gl : mg "is_integer" = some (.ref f)) (om : noObj K = true) (m_isinstance : mg "isinstance" = none) (m_int : mg "int" = none) (m_bool : mg "bool" = none) : FnGs P w K mg base 1 "is_integer" ["thing"] F_is_integer := by
  have sc : FnScope ["thing"] ["thing"] sc_is_integer := ⟨rfl, rfl, rfl, by decide +kernel, rfl, by decide +kernel, by decide +kernel⟩
  refine ⟨f, fd, fn_trG (k := 0) F sc (fun Γ cdv A outer s H E hcd hgd hr => ?_), gl, F.kp, F.bindsN fun _ _ _ _ _ _ us hl => match us, hl with | [_], _ => rfl⟩
  have tk : Takes (cxOf (L2.CX P w) P w K mg base ["thing"] "is_integer" sc_is_integer f cdv A outer s H E) (wOf E) := takes_of rfl rfl rfl rfl
  exact (trs_one (tr_ret (tr_and (tr_isi isi_int rfl m_isinstance rfl m_int boot_ty_int (tr_var 0)) (tr_one (tr_not (tr_isi isi_bool rfl m_isinstance rfl m_bool boot_ty_bool (tr_var 0)))))))
theorem ok_common {f : Addr} {fd : FuncData} (F : FnP K "common" (top 11) sc_common f fd) (gl : mg "common" = some (.ref f)) (om : noObj K = true) (m_abs : mg "abs" = none) (m_int : mg "int" = none) : FnGs P w K mg base 1 "common" ["one", "other"] F_common := by
  have sc : FnScope ["one", "other"] ["one", "other"] sc_common := ⟨rfl, rfl, rfl, by decide +kernel, rfl, by decide +kernel, by decide +kernel⟩
  refine ⟨f, fd, fn_trG (k := 0) F sc (fun Γ cdv A outer s H E hcd hgd hr => ?_), gl, F.kp, F.bindsN fun _ _ _ _ _ _ us hl => match us, hl with | [_, _], _ => rfl⟩
  have tk : Takes (cxOf (L2.CX P w) P w K mg base ["one", "other"] "common" sc_common f cdv A outer s H E) (wOf E) := takes_of rfl rfl rfl rfl
  exact (trs_cons (tr_par (ps_par rfl sc.nd rfl rfl (by decide) rfl rfl (tra_cons (tr_callB call_abs sem_abs rfl m_abs bo_abs (tra_cons (tr_var 0) tra_nil)) (tra_cons (tr_callB call_abs sem_abs rfl m_abs bo_abs (tra_cons (tr_var 1) tra_nil)) tra_nil)) (by rfl))) (trs_cons (tr_while (fun ρ => wInt 1 ρ + 1) (passes_of rfl) (trb_cmp (op_neS hr.units) sem_neS (tr_var 1) tr_int (nomark _)) (trs_one (tr_par (ps_par rfl sc.nd rfl rfl (by decide) rfl rfl (tra_cons (tr_var 1) (tra_cons (tr_op op_mod sem_mod (tr_var 0) (tr_callTy call_int1 sem_int1 rfl m_int bo_int (tra_cons (tr_var 1) tra_nil))) tra_nil)) (by rfl))))) (trs_one (tr_ret (tr_var 0)))))
theorem ok_made {f : Addr} {fd : FuncData} (F : FnP K "made" (top 12) sc_made f fd) (gl : mg "made" = some (.ref f)) (om : noObj K = true) (h_common : FnGs P w K mg base 1 "common" ["one", "other"] F_common) : FnGs P w K mg base 2 "made" ["top", "bottom"] F_made := by
  have sc : FnScope ["top", "bottom", "divisor"] ["top", "bottom"] sc_made := ⟨rfl, rfl, rfl, by decide +kernel, rfl, by decide +kernel, by decide +kernel⟩
  refine ⟨f, fd, fn_trG (k := 1) F sc (fun Γ cdv A outer s H E hcd hgd hr => ?_), gl, F.kp, F.bindsN fun _ _ _ _ _ _ us hl => match us, hl with | [_, _], _ => rfl⟩
  have tk : Takes (cxOf (L2.CX P w) P w K mg base ["top", "bottom", "divisor"] "made" sc_made f cdv A outer s H E) (wOf E) := takes_of rfl rfl rfl rfl
  exact (trs_cons (tr_ifs (trb_cmp op_lt sem_lt (tr_var 1) tr_int (nomark _)) (trs_one (tr_par (ps_par rfl sc.nd rfl rfl (by decide) rfl rfl (tra_cons (tr_op op_sub sem_sub tr_int (tr_var 0)) (tra_cons (tr_op op_sub sem_sub tr_int (tr_var 1)) tra_nil)) (by rfl)))) trs_nil) (trs_cons (tr_set (i := 2) sc.nd rfl (.inl rfl) (tr_callG h_common hgd (hr.mono (by decide)) tk rfl (tra_cons (tr_var 0) (tra_cons (tr_var 1) tra_nil)))) (trs_one (tr_ret (tr_tup (tra_cons (tr_op op_fdivW sem_fdiv (tr_var 0) (tr_var 2)) (tra_cons (tr_op op_fdivW sem_fdiv (tr_var 1) (tr_var 2)) tra_nil)))))))
theorem ok_is_fraction {f : Addr} {fd : FuncData} (F : FnP K "is_fraction" (top 13) sc_is_fraction f fd) (gl : mg "is_fraction" = some (.ref f)) (om : noObj K = true) (m_isinstance : mg "isinstance" = none) (m_tuple : mg "tuple" = none) (m_len : mg "len" = none) (m_all : mg "all" = none) (h_is_integer : FnGs P w K mg base 1 "is_integer" ["thing"] F_is_integer) (h_common : FnGs P w K mg base 1 "common" ["one", "other"] F_common) : FnGs P w K mg base 2 "is_fraction" ["thing"] F_is_fraction := by
  have sc : FnScope ["thing", "one"] ["thing"] sc_is_fraction := ⟨rfl, rfl, rfl, by decide +kernel, rfl, by decide +kernel, by decide +kernel⟩
  refine ⟨f, fd, fn_trG (k := 1) F sc (fun Γ cdv A outer s H E hcd hgd hr => ?_), gl, F.kp, F.bindsN fun _ _ _ _ _ _ us hl => match us, hl with | [_], _ => rfl⟩
  have tk : Takes (cxOf (L2.CX P w) P w K mg base ["thing", "one"] "is_fraction" sc_is_fraction f cdv A outer s H E) (wOf E) := takes_of rfl rfl rfl rfl
  exact (trs_cons (tr_ifs (TrW.toB (trw_or (trb_not (trb_tru (tr_isi isi_tuple rfl m_isinstance rfl m_tuple boot_ty_tuple (tr_var 0)))) (trw_or (trb_cmp (op_neS hr.units) sem_neS (tr_callB call_len sem_len rfl m_len bo_len (tra_cons (tr_var 0) tra_nil)) tr_int (nomark _)) (trw_or1 (trb_not (trb_tru (tr_callB (cr_all rfl) sem_all rfl m_all bo_all (tra_cons (tr_lc (own := [("one", 1)]) rfl sc.nd (tri_tup (tr_var 0)) (blkOk_by (N := ["thing", "one"]) (sc := sc_is_fraction) (by decide +kernel)) (by decide) (fun _ _ _ _ _ => (trg_name sc.nd rfl (by first | exact .inl rfl | exact .inr rfl))) (fun _ _ _ _ _ => trt_nil) (fun _ _ _ _ _ => (tr_callG h_is_integer hgd (hr.mono (by decide)) takes0 rfl (tra_cons (tr_var 1) tra_nil)))) tra_nil)))))))) (trs_one (tr_ret tr_bl)) trs_nil) (trs_one (tr_ret (tr_and (tr_cmp op_ge sem_ge (tr_ix ix_seq sem_ix (tr_var 0) tr_int) tr_int (nomark _)) (tr_one (tr_cmp (op_eqS hr.units) sem_eqS (tr_callG h_common hgd (hr.mono (by decide)) tk rfl (tra_cons (tr_ix ix_seq sem_ix (tr_var 0) tr_int) (tra_cons (tr_ix ix_seq sem_ix (tr_var 0) tr_int) tra_nil))) tr_int (nomark _)))))))
theorem ok_add {f : Addr} {fd : FuncData} (F : FnP K "add" (top 14) sc_add f fd) (gl : mg "add" = some (.ref f)) (om : noObj K = true) (h_made : FnGs P w K mg base 2 "made" ["top", "bottom"] F_made) : FnGs P w K mg base 3 "add" ["one", "other"] F_add := by
  have sc : FnScope ["one", "other"] ["one", "other"] sc_add := ⟨rfl, rfl, rfl, by decide +kernel, rfl, by decide +kernel, by decide +kernel⟩
  refine ⟨f, fd, fn_trG (k := 2) F sc (fun Γ cdv A outer s H E hcd hgd hr => ?_), gl, F.kp, F.bindsN fun _ _ _ _ _ _ us hl => match us, hl with | [_, _], _ => rfl⟩
  have tk : Takes (cxOf (L2.CX P w) P w K mg base ["one", "other"] "add" sc_add f cdv A outer s H E) (wOf E) := takes_of rfl rfl rfl rfl
  exact (trs_one (tr_ret (tr_callG h_made hgd (hr.mono (by decide)) tk rfl (tra_cons (tr_op op_addW sem_add (tr_op op_mulW sem_mul (tr_ix ix_seq sem_ix (tr_var 0) tr_int) (tr_ix ix_seq sem_ix (tr_var 1) tr_int)) (tr_op op_mulW sem_mul (tr_ix ix_seq sem_ix (tr_var 1) tr_int) (tr_ix ix_seq sem_ix (tr_var 0) tr_int))) (tra_cons (tr_op op_mulW sem_mul (tr_ix ix_seq sem_ix (tr_var 0) tr_int) (tr_ix ix_seq sem_ix (tr_var 1) tr_int)) tra_nil)))))
theorem ok_sub {f : Addr} {fd : FuncData} (F : FnP K "sub" (top 15) sc_sub f fd) (gl : mg "sub" = some (.ref f)) (om : noObj K = true) (h_made : FnGs P w K mg base 2 "made" ["top", "bottom"] F_made) : FnGs P w K mg base 3 "sub" ["one", "other"] F_sub := by
  have sc : FnScope ["one", "other"] ["one", "other"] sc_sub := ⟨rfl, rfl, rfl, by decide +kernel, rfl, by decide +kernel, by decide +kernel⟩
  refine ⟨f, fd, fn_trG (k := 2) F sc (fun Γ cdv A outer s H E hcd hgd hr => ?_), gl, F.kp, F.bindsN fun _ _ _ _ _ _ us hl => match us, hl with | [_, _], _ => rfl⟩
  have tk : Takes (cxOf (L2.CX P w) P w K mg base ["one", "other"] "sub" sc_sub f cdv A outer s H E) (wOf E) := takes_of rfl rfl rfl rfl
  exact (trs_one (tr_ret (tr_callG h_made hgd (hr.mono (by decide)) tk rfl (tra_cons (tr_op op_sub sem_sub (tr_op op_mulW sem_mul (tr_ix ix_seq sem_ix (tr_var 0) tr_int) (tr_ix ix_seq sem_ix (tr_var 1) tr_int)) (tr_op op_mulW sem_mul (tr_ix ix_seq sem_ix (tr_var 1) tr_int) (tr_ix ix_seq sem_ix (tr_var 0) tr_int))) (tra_cons (tr_op op_mulW sem_mul (tr_ix ix_seq sem_ix (tr_var 0) tr_int) (tr_ix ix_seq sem_ix (tr_var 1) tr_int)) tra_nil)))))
theorem ok_is_under_ratios {f : Addr} {fd : FuncData} (F : FnP K "is_under" (top 16) sc_is_under_ratios f fd) (gl : mg "is_under_ratios" = some (.ref f)) (om : noObj K = true) : FnGs P w K mg base 1 "is_under_ratios" ["one", "other"] F_is_under_ratios := by
  have sc : FnScope ["one", "other"] ["one", "other"] sc_is_under_ratios := ⟨rfl, rfl, rfl, by decide +kernel, rfl, by decide +kernel, by decide +kernel⟩
  refine ⟨f, fd, fn_trG (k := 0) F sc (fun Γ cdv A outer s H E hcd hgd hr => ?_), gl, F.kp, F.bindsN fun _ _ _ _ _ _ us hl => match us, hl with | [_, _], _ => rfl⟩
  have tk : Takes (cxOf (L2.CX P w) P w K mg base ["one", "other"] "is_under" sc_is_under_ratios f cdv A outer s H E) (wOf E) := takes_of rfl rfl rfl rfl
  exact (trs_one (tr_ret (tr_cmp op_lt sem_lt (tr_op op_mulW sem_mul (tr_ix ix_seq sem_ix (tr_var 0) tr_int) (tr_ix ix_seq sem_ix (tr_var 1) tr_int)) (tr_op op_mulW sem_mul (tr_ix ix_seq sem_ix (tr_var 1) tr_int) (tr_ix ix_seq sem_ix (tr_var 0) tr_int)) (nomark _))))
theorem ok_sum_in {f : Addr} {fd : FuncData} (F : FnP K "sum_in" (top 18) sc_sum_in f fd) (gl : mg "sum_in" = some (.ref f)) (om : noObj K = true) (c_NOUGHT : CsIs K mg "NOUGHT" k_NOUGHT) (h_add : FnGs P w K mg base 3 "add" ["one", "other"] F_add) : FnGs P w K mg base 4 "sum_in" ["some"] F_sum_in := by
  have sc : FnScope ["some", "found", "one"] ["some"] sc_sum_in := ⟨rfl, rfl, rfl, by decide +kernel, rfl, by decide +kernel, by decide +kernel⟩
  refine ⟨f, fd, fn_trG (k := 3) F sc (fun Γ cdv A outer s H E hcd hgd hr => ?_), gl, F.kp, F.bindsN fun _ _ _ _ _ _ us hl => match us, hl with | [_], _ => rfl⟩
  have tk : Takes (cxOf (L2.CX P w) P w K mg base ["some", "found", "one"] "sum_in" sc_sum_in f cdv A outer s H E) (wOf E) := takes_of rfl rfl rfl rfl
  exact (trs_cons (tr_set (i := 1) sc.nd rfl (.inl rfl) (tr_cs c_NOUGHT rfl)) (trs_cons (tr_for (passes_of rfl) rfl (tri_lst (tr_var 0)) (trg_name sc.nd rfl (.inl rfl)) (trs_one (tr_set (i := 1) sc.nd rfl (.inl rfl) (tr_callG h_add hgd (hr.mono (by decide)) tk rfl (tra_cons (tr_var 1) (tra_cons (tr_var 2) tra_nil)))))) (trs_one (tr_ret (tr_var 1)))))
theorem ok_is_between {f : Addr} {fd : FuncData} (F : FnP K "is_between" (top 20) sc_is_between f fd) (gl : mg "is_between" = some (.ref f)) (om : noObj K = true) (h_is_integer : FnGs P w K mg base 1 "is_integer" ["thing"] F_is_integer) : FnGs P w K mg base 2 "is_between" ["thing", "least", "most"] F_is_between := by
  have sc : FnScope ["thing", "least", "most"] ["thing", "least", "most"] sc_is_between := ⟨rfl, rfl, rfl, by decide +kernel, rfl, by decide +kernel, by decide +kernel⟩
  refine ⟨f, fd, fn_trG (k := 1) F sc (fun Γ cdv A outer s H E hcd hgd hr => ?_), gl, F.kp, F.bindsN fun _ _ _ _ _ _ us hl => match us, hl with | [_, _, _], _ => rfl⟩
  have tk : Takes (cxOf (L2.CX P w) P w K mg base ["thing", "least", "most"] "is_between" sc_is_between f cdv A outer s H E) (wOf E) := takes_of rfl rfl rfl rfl
  exact (trs_one (tr_ret (tr_and (tr_callG h_is_integer hgd (hr.mono (by decide)) tk rfl (tra_cons (tr_var 0) tra_nil)) (tr_one (tr_chain op_le op_le sem_le sem_le (tr_var 1) (tr_var 0) (tr_var 2))))))
theorem ok_is_stair {f : Addr} {fd : FuncData} (F : FnP K "is_stair" (top 24) sc_is_stair f fd) (gl : mg "is_stair" = some (.ref f)) (om : noObj K = true) (m_isinstance : mg "isinstance" = none) (m_tuple : mg "tuple" = none) (m_len : mg "len" = none) (m_all : mg "all" = none) (m_zip : mg "zip" = none) (c_MOST_LETTERS : CsIs K mg "MOST_LETTERS" k_MOST_LETTERS) (c_MOST_STAIR : CsIs K mg "MOST_STAIR" k_MOST_STAIR) (h_is_between : FnGs P w K mg base 2 "is_between" ["thing", "least", "most"] F_is_between) : FnGs P w K mg base 3 "is_stair" ["thing"] F_is_stair := by
  have sc : FnScope ["thing", "one", "other"] ["thing"] sc_is_stair := ⟨rfl, rfl, rfl, by decide +kernel, rfl, by decide +kernel, by decide +kernel⟩
  refine ⟨f, fd, fn_trG (k := 2) F sc (fun Γ cdv A outer s H E hcd hgd hr => ?_), gl, F.kp, F.bindsN fun _ _ _ _ _ _ us hl => match us, hl with | [_], _ => rfl⟩
  have tk : Takes (cxOf (L2.CX P w) P w K mg base ["thing", "one", "other"] "is_stair" sc_is_stair f cdv A outer s H E) (wOf E) := takes_of rfl rfl rfl rfl
  exact (trs_cons (tr_ifs (TrW.toB (trw_or (trb_not (trb_tru (tr_isi isi_tuple rfl m_isinstance rfl m_tuple boot_ty_tuple (tr_var 0)))) (trw_or1 (trb_not (trb_chain op_le op_le sem_le sem_le tr_int (tr_callB call_len sem_len rfl m_len bo_len (tra_cons (tr_var 0) tra_nil)) (tr_cs c_MOST_LETTERS rfl)))))) (trs_one (tr_ret tr_bl)) trs_nil) (trs_cons (tr_ifs (trb_not (trb_tru (tr_callB (cr_all rfl) sem_all rfl m_all bo_all (tra_cons (tr_lc (own := [("one", 1)]) rfl sc.nd (tri_tup (tr_var 0)) (blkOk_by (N := ["thing", "one", "other"]) (sc := sc_is_stair) (by decide +kernel)) (by decide) (fun _ _ _ _ _ => (trg_name sc.nd rfl (by first | exact .inl rfl | exact .inr rfl))) (fun _ _ _ _ _ => trt_nil) (fun _ _ _ _ _ => (tr_callG h_is_between hgd (hr.mono (by decide)) takes0 rfl (tra_cons (tr_var 1) (tra_cons tr_int (tra_cons (tr_cs c_MOST_STAIR rfl) tra_nil)))))) tra_nil)))) (trs_one (tr_ret tr_bl)) trs_nil) (trs_one (tr_ret (tr_callB (cr_all rfl) sem_all rfl m_all bo_all (tra_cons (tr_lc (own := [("one", 1), ("other", 2)]) rfl sc.nd (tri_zip rfl m_zip (tra_cons (tr_var 0) (tra_cons (tr_slice (tr_var 0) (tro_some tr_int) tro_no) tra_nil))) (blkOk_by (N := ["thing", "one", "other"]) (sc := sc_is_stair) (by decide +kernel)) (by decide) (fun _ _ _ _ _ => (trg_tup rfl (trgs_cons (trg_name sc.nd rfl (by first | exact .inl rfl | exact .inr rfl)) (trgs_cons (trg_name sc.nd rfl (by first | exact .inl rfl | exact .inr rfl)) trgs_nil)))) (fun _ _ _ _ _ => trt_nil) (fun _ _ _ _ _ => (tr_cmp op_le sem_le (tr_var 1) (tr_var 2) (nomark _)))) tra_nil))))))
theorem ok_need_stair {f : Addr} {fd : FuncData} (F : FnP K "need_stair" (top 26) sc_need_stair f fd) (gl : mg "need_stair" = some (.ref f)) (om : noObj K = true) (x_BadStair : XIs P w K mg base 9 "ValueError.__new__" tlV) (h_is_stair : FnGs P w K mg base 3 "is_stair" ["thing"] F_is_stair) : FnGs P w K mg base 4 "need_stair" ["thing"] F_need_stair := by
  have sc : FnScope ["thing"] ["thing"] sc_need_stair := ⟨rfl, rfl, rfl, by decide +kernel, rfl, by decide +kernel, by decide +kernel⟩
  refine ⟨f, fd, fn_trG (k := 3) F sc (fun Γ cdv A outer s H E hcd hgd hr => ?_), gl, F.kp, F.bindsN fun _ _ _ _ _ _ us hl => match us, hl with | [_], _ => rfl⟩
  have tk : Takes (cxOf (L2.CX P w) P w K mg base ["thing"] "need_stair" sc_need_stair f cdv A outer s H E) (wOf E) := takes_of rfl rfl rfl rfl
  exact (trs_cons (tr_ifs (trb_not (trb_tru (tr_callG h_is_stair hgd (hr.mono (by decide)) tk rfl (tra_cons (tr_var 0) tra_nil)))) (trs_one (tr_raise (n := 9) x_BadStair rfl tk (hr.mono (by decide)) rfl (tra_cons (tr_var 0) tra_nil))) trs_nil) (trs_one (tr_ret (tr_var 0))))
theorem ok_need_many {f : Addr} {fd : FuncData} (F : FnP K "need_many" (top 27) sc_need_many f fd) (gl : mg "need_many" = some (.ref f)) (om : noObj K = true) (c_MOST_LETTERS : CsIs K mg "MOST_LETTERS" k_MOST_LETTERS) (x_BadNumber : XIs P w K mg base 3 "ValueError.__new__" tlV) (h_is_between : FnGs P w K mg base 2 "is_between" ["thing", "least", "most"] F_is_between) : FnGs P w K mg base 3 "need_many" ["many"] F_need_many := by
  have sc : FnScope ["many"] ["many"] sc_need_many := ⟨rfl, rfl, rfl, by decide +kernel, rfl, by decide +kernel, by decide +kernel⟩
  refine ⟨f, fd, fn_trG (k := 2) F sc (fun Γ cdv A outer s H E hcd hgd hr => ?_), gl, F.kp, F.bindsN fun _ _ _ _ _ _ us hl => match us, hl with | [_], _ => rfl⟩
  have tk : Takes (cxOf (L2.CX P w) P w K mg base ["many"] "need_many" sc_need_many f cdv A outer s H E) (wOf E) := takes_of rfl rfl rfl rfl
  exact (trs_one (tr_ifs (trb_not (trb_tru (tr_callG h_is_between hgd (hr.mono (by decide)) tk rfl (tra_cons (tr_var 0) (tra_cons tr_int (tra_cons (tr_cs c_MOST_LETTERS rfl) tra_nil)))))) (trs_one (tr_raise (n := 3) x_BadNumber rfl tk (hr.mono (by decide)) rfl (tra_cons (tr_var 0) tra_nil))) trs_nil))
theorem ok_costs_of {f : Addr} {fd : FuncData} (F : FnP K "costs_of" (top 28) sc_costs_of f fd) (gl : mg "costs_of" = some (.ref f)) (om : noObj K = true) (m_tuple : mg "tuple" = none) (m_range : mg "range" = none) (h_need_many : FnGs P w K mg base 3 "need_many" ["many"] F_need_many) (h_made : FnGs P w K mg base 2 "made" ["top", "bottom"] F_made) : FnGs P w K mg base 4 "costs_of" ["many"] F_costs_of := by
  have sc : FnScope ["many", "place"] ["many"] sc_costs_of := ⟨rfl, rfl, rfl, by decide +kernel, rfl, by decide +kernel, by decide +kernel⟩
  refine ⟨f, fd, fn_trG (k := 3) F sc (fun Γ cdv A outer s H E hcd hgd hr => ?_), gl, F.kp, F.bindsN fun _ _ _ _ _ _ us hl => match us, hl with | [_], _ => rfl⟩
  have tk : Takes (cxOf (L2.CX P w) P w K mg base ["many", "place"] "costs_of" sc_costs_of f cdv A outer s H E) (wOf E) := takes_of rfl rfl rfl rfl
  exact (trs_cons (tr_expr (tr_callG h_need_many hgd (hr.mono (by decide)) tk rfl (tra_cons (tr_var 0) tra_nil))) (trs_one (tr_ret (tr_callTy call_tuple_of sem_tupOf rfl m_tuple bo_tuple (tra_cons (tr_op op_addW sem_add (tr_lc (own := [("place", 1)]) rfl sc.nd (tri_rng2 rfl m_range (tra_cons tr_int (tra_cons (tr_var 0) tra_nil))) (blkOk_by (N := ["many", "place"]) (sc := sc_costs_of) (by decide +kernel)) (by decide) (fun _ _ _ _ _ => (trg_name sc.nd rfl (by first | exact .inl rfl | exact .inr rfl))) (fun _ _ _ _ _ => trt_nil) (fun _ _ _ _ _ => (tr_callG h_made hgd (hr.mono (by decide)) takes0 rfl (tra_cons tr_int (tra_cons (tr_op op_mulW sem_mul (tr_var 1) (tr_op op_addW sem_add (tr_var 1) tr_int)) tra_nil))))) (tr_lst (tra_cons (tr_callG h_made hgd (hr.mono (by decide)) tk rfl (tra_cons tr_int (tra_cons (tr_var 0) tra_nil))) tra_nil))) tra_nil)))))
theorem ok_need_place {f : Addr} {fd : FuncData} (F : FnP K "need_place" (top 29) sc_need_place f fd) (gl : mg "need_place" = some (.ref f)) (om : noObj K = true) (m_len : mg "len" = none) (c_MOST_STAIR : CsIs K mg "MOST_STAIR" k_MOST_STAIR) (x_BadNumber : XIs P w K mg base 3 "ValueError.__new__" tlV) (h_need_stair : FnGs P w K mg base 4 "need_stair" ["thing"] F_need_stair) (h_is_between : FnGs P w K mg base 2 "is_between" ["thing", "least", "most"] F_is_between) : FnGs P w K mg base 5 "need_place" ["stair", "k", "x"] F_need_place := by
  have sc : FnScope ["stair", "k", "x"] ["stair", "k", "x"] sc_need_place := ⟨rfl, rfl, rfl, by decide +kernel, rfl, by decide +kernel, by decide +kernel⟩
  refine ⟨f, fd, fn_trG (k := 4) F sc (fun Γ cdv A outer s H E hcd hgd hr => ?_), gl, F.kp, F.bindsN fun _ _ _ _ _ _ us hl => match us, hl with | [_, _, _], _ => rfl⟩
  have tk : Takes (cxOf (L2.CX P w) P w K mg base ["stair", "k", "x"] "need_place" sc_need_place f cdv A outer s H E) (wOf E) := takes_of rfl rfl rfl rfl
  exact (trs_cons (tr_expr (tr_callG h_need_stair hgd (hr.mono (by decide)) tk rfl (tra_cons (tr_var 0) tra_nil))) (trs_cons (tr_ifs (trb_not (trb_tru (tr_callG h_is_between hgd (hr.mono (by decide)) tk rfl (tra_cons (tr_var 1) (tra_cons tr_int (tra_cons (tr_callB call_len sem_len rfl m_len bo_len (tra_cons (tr_var 0) tra_nil)) tra_nil)))))) (trs_one (tr_raise (n := 3) x_BadNumber rfl tk (hr.mono (by decide)) rfl (tra_cons (tr_var 1) tra_nil))) trs_nil) (trs_one (tr_ifs (trb_not (trb_tru (tr_callG h_is_between hgd (hr.mono (by decide)) tk rfl (tra_cons (tr_var 2) (tra_cons tr_int (tra_cons (tr_cs c_MOST_STAIR rfl) tra_nil)))))) (trs_one (tr_raise (n := 3) x_BadNumber rfl tk (hr.mono (by decide)) rfl (tra_cons (tr_var 2) tra_nil))) trs_nil))))
theorem ok_raised_in {f : Addr} {fd : FuncData} (F : FnP K "raised_in" (top 30) sc_raised_in f fd) (gl : mg "raised_in" = some (.ref f)) (om : noObj K = true) (m_tuple : mg "tuple" = none) (m_enumerate : mg "enumerate" = none) (m_max : mg "max" = none) : FnGs P w K mg base 1 "raised_in" ["stair", "k", "x"] F_raised_in := by
  have sc : FnScope ["stair", "k", "x", "place", "one"] ["stair", "k", "x"] sc_raised_in := ⟨rfl, rfl, rfl, by decide +kernel, rfl, by decide +kernel, by decide +kernel⟩
  refine ⟨f, fd, fn_trG (k := 0) F sc (fun Γ cdv A outer s H E hcd hgd hr => ?_), gl, F.kp, F.bindsN fun _ _ _ _ _ _ us hl => match us, hl with | [_, _, _], _ => rfl⟩
  have tk : Takes (cxOf (L2.CX P w) P w K mg base ["stair", "k", "x", "place", "one"] "raised_in" sc_raised_in f cdv A outer s H E) (wOf E) := takes_of rfl rfl rfl rfl
  exact (trs_one (tr_ret (tr_callTy call_tuple_of sem_tupOf rfl m_tuple bo_tuple (tra_cons (tr_lc (own := [("place", 3), ("one", 4)]) rfl sc.nd (tri_enT2 rfl m_enumerate (tra_cons (tr_var 0) (tra_cons tr_int tra_nil))) (blkOk_by (N := ["stair", "k", "x", "place", "one"]) (sc := sc_raised_in) (by decide +kernel)) (by decide) (fun _ _ _ _ _ => (trg_tup rfl (trgs_cons (trg_name sc.nd rfl (by first | exact .inl rfl | exact .inr rfl)) (trgs_cons (trg_name sc.nd rfl (by first | exact .inl rfl | exact .inr rfl)) trgs_nil)))) (fun _ _ _ _ _ => trt_nil) (fun _ _ _ _ _ => (tr_if (trb_cmp op_ge sem_ge (tr_var 3) (tr_var 1) (nomark _)) (tr_callB (callR_or (call_max2 rfl) (cr_max rfl)) sem_max rfl m_max bo_max (tra_cons (tr_var 4) (tra_cons (tr_var 2) tra_nil))) (tr_var 4)))) tra_nil))))
theorem ok_raised {f : Addr} {fd : FuncData} (F : FnP K "raised" (top 31) sc_raised f fd) (gl : mg "raised" = some (.ref f)) (om : noObj K = true) (h_need_place : FnGs P w K mg base 5 "need_place" ["stair", "k", "x"] F_need_place) (h_raised_in : FnGs P w K mg base 1 "raised_in" ["stair", "k", "x"] F_raised_in) : FnGs P w K mg base 6 "raised" ["stair", "k", "x"] F_raised := by
  have sc : FnScope ["stair", "k", "x"] ["stair", "k", "x"] sc_raised := ⟨rfl, rfl, rfl, by decide +kernel, rfl, by decide +kernel, by decide +kernel⟩
  refine ⟨f, fd, fn_trG (k := 5) F sc (fun Γ cdv A outer s H E hcd hgd hr => ?_), gl, F.kp, F.bindsN fun _ _ _ _ _ _ us hl => match us, hl with | [_, _, _], _ => rfl⟩
  have tk : Takes (cxOf (L2.CX P w) P w K mg base ["stair", "k", "x"] "raised" sc_raised f cdv A outer s H E) (wOf E) := takes_of rfl rfl rfl rfl
  exact (trs_cons (tr_expr (tr_callG h_need_place hgd (hr.mono (by decide)) tk rfl (tra_cons (tr_var 0) (tra_cons (tr_var 1) (tra_cons (tr_var 2) tra_nil))))) (trs_one (tr_ret (tr_callG h_raised_in hgd (hr.mono (by decide)) tk rfl (tra_cons (tr_var 0) (tra_cons (tr_var 1) (tra_cons (tr_var 2) tra_nil)))))))
theorem ok_lowered {f : Addr} {fd : FuncData} (F : FnP K "lowered" (top 32) sc_lowered f fd) (gl : mg "lowered" = some (.ref f)) (om : noObj K = true) (m_tuple : mg "tuple" = none) (m_enumerate : mg "enumerate" = none) (m_min : mg "min" = none) (h_need_place : FnGs P w K mg base 5 "need_place" ["stair", "k", "x"] F_need_place) : FnGs P w K mg base 6 "lowered" ["stair", "k", "x"] F_lowered := by
  have sc : FnScope ["stair", "k", "x", "place", "one"] ["stair", "k", "x"] sc_lowered := ⟨rfl, rfl, rfl, by decide +kernel, rfl, by decide +kernel, by decide +kernel⟩
  refine ⟨f, fd, fn_trG (k := 5) F sc (fun Γ cdv A outer s H E hcd hgd hr => ?_), gl, F.kp, F.bindsN fun _ _ _ _ _ _ us hl => match us, hl with | [_, _, _], _ => rfl⟩
  have tk : Takes (cxOf (L2.CX P w) P w K mg base ["stair", "k", "x", "place", "one"] "lowered" sc_lowered f cdv A outer s H E) (wOf E) := takes_of rfl rfl rfl rfl
  exact (trs_cons (tr_expr (tr_callG h_need_place hgd (hr.mono (by decide)) tk rfl (tra_cons (tr_var 0) (tra_cons (tr_var 1) (tra_cons (tr_var 2) tra_nil))))) (trs_one (tr_ret (tr_callTy call_tuple_of sem_tupOf rfl m_tuple bo_tuple (tra_cons (tr_lc (own := [("place", 3), ("one", 4)]) rfl sc.nd (tri_enT2 rfl m_enumerate (tra_cons (tr_var 0) (tra_cons tr_int tra_nil))) (blkOk_by (N := ["stair", "k", "x", "place", "one"]) (sc := sc_lowered) (by decide +kernel)) (by decide) (fun _ _ _ _ _ => (trg_tup rfl (trgs_cons (trg_name sc.nd rfl (by first | exact .inl rfl | exact .inr rfl)) (trgs_cons (trg_name sc.nd rfl (by first | exact .inl rfl | exact .inr rfl)) trgs_nil)))) (fun _ _ _ _ _ => trt_nil) (fun _ _ _ _ _ => (tr_if (trb_cmp op_le sem_le (tr_var 3) (tr_var 1) (nomark _)) (tr_callB (callR_or (call_min2 rfl) (cr_min rfl)) sem_min rfl m_min bo_min (tra_cons (tr_var 4) (tra_cons (tr_var 2) tra_nil))) (tr_var 4)))) tra_nil)))))
theorem ok_need_pair {f : Addr} {fd : FuncData} (F : FnP K "need_pair" (top 33) sc_need_pair f fd) (gl : mg "need_pair" = some (.ref f)) (om : noObj K = true) (m_len : mg "len" = none) (x_BadStair : XIs P w K mg base 9 "ValueError.__new__" tlV) (h_need_stair : FnGs P w K mg base 4 "need_stair" ["thing"] F_need_stair) : FnGs P w K mg base 5 "need_pair" ["one", "other"] F_need_pair := by
  have sc : FnScope ["one", "other"] ["one", "other"] sc_need_pair := ⟨rfl, rfl, rfl, by decide +kernel, rfl, by decide +kernel, by decide +kernel⟩
  refine ⟨f, fd, fn_trG (k := 4) F sc (fun Γ cdv A outer s H E hcd hgd hr => ?_), gl, F.kp, F.bindsN fun _ _ _ _ _ _ us hl => match us, hl with | [_, _], _ => rfl⟩
  have tk : Takes (cxOf (L2.CX P w) P w K mg base ["one", "other"] "need_pair" sc_need_pair f cdv A outer s H E) (wOf E) := takes_of rfl rfl rfl rfl
  exact (trs_cons (tr_expr (tr_callG h_need_stair hgd (hr.mono (by decide)) tk rfl (tra_cons (tr_var 0) tra_nil))) (trs_cons (tr_expr (tr_callG h_need_stair hgd (hr.mono (by decide)) tk rfl (tra_cons (tr_var 1) tra_nil))) (trs_one (tr_ifs (trb_cmp (op_neS hr.units) sem_neS (tr_callB call_len sem_len rfl m_len bo_len (tra_cons (tr_var 0) tra_nil)) (tr_callB call_len sem_len rfl m_len bo_len (tra_cons (tr_var 1) tra_nil)) (nomark _)) (trs_one (tr_raise (n := 9) x_BadStair rfl tk (hr.mono (by decide)) rfl (tra_cons (tr_var 1) tra_nil))) trs_nil))))
theorem ok_is_under_stairs {f : Addr} {fd : FuncData} (F : FnP K "is_under" (top 34) sc_is_under_stairs f fd) (gl : mg "is_under_stairs" = some (.ref f)) (om : noObj K = true) (m_all : mg "all" = none) (m_zip : mg "zip" = none) (h_need_pair : FnGs P w K mg base 5 "need_pair" ["one", "other"] F_need_pair) : FnGs P w K mg base 6 "is_under_stairs" ["one", "other"] F_is_under_stairs := by
  have sc : FnScope ["one", "other", "near", "far"] ["one", "other"] sc_is_under_stairs := ⟨rfl, rfl, rfl, by decide +kernel, rfl, by decide +kernel, by decide +kernel⟩
  refine ⟨f, fd, fn_trG (k := 5) F sc (fun Γ cdv A outer s H E hcd hgd hr => ?_), gl, F.kp, F.bindsN fun _ _ _ _ _ _ us hl => match us, hl with | [_, _], _ => rfl⟩
  have tk : Takes (cxOf (L2.CX P w) P w K mg base ["one", "other", "near", "far"] "is_under" sc_is_under_stairs f cdv A outer s H E) (wOf E) := takes_of rfl rfl rfl rfl
  exact (trs_cons (tr_expr (tr_callG h_need_pair hgd (hr.mono (by decide)) tk rfl (tra_cons (tr_var 0) (tra_cons (tr_var 1) tra_nil)))) (trs_one (tr_ret (tr_callB (cr_all rfl) sem_all rfl m_all bo_all (tra_cons (tr_lc (own := [("near", 2), ("far", 3)]) rfl sc.nd (tri_zip rfl m_zip (tra_cons (tr_var 0) (tra_cons (tr_var 1) tra_nil))) (blkOk_by (N := ["one", "other", "near", "far"]) (sc := sc_is_under_stairs) (by decide +kernel)) (by decide) (fun _ _ _ _ _ => (trg_tup rfl (trgs_cons (trg_name sc.nd rfl (by first | exact .inl rfl | exact .inr rfl)) (trgs_cons (trg_name sc.nd rfl (by first | exact .inl rfl | exact .inr rfl)) trgs_nil)))) (fun _ _ _ _ _ => trt_nil) (fun _ _ _ _ _ => (tr_cmp op_le sem_le (tr_var 2) (tr_var 3) (nomark _)))) tra_nil)))))
theorem ok_both {f : Addr} {fd : FuncData} (F : FnP K "both" (top 36) sc_both f fd) (gl : mg "both" = some (.ref f)) (om : noObj K = true) (m_tuple : mg "tuple" = none) (m_zip : mg "zip" = none) (c_MOST_STAIR : CsIs K mg "MOST_STAIR" k_MOST_STAIR) (x_TooMany : XIs P w K mg base 25 "OverflowError.__new__" tlO) (h_need_pair : FnGs P w K mg base 5 "need_pair" ["one", "other"] F_need_pair) : FnGs P w K mg base 6 "both" ["one", "other"] F_both := by
  have sc : FnScope ["one", "other", "found", "near", "far"] ["one", "other"] sc_both := ⟨rfl, rfl, rfl, by decide +kernel, rfl, by decide +kernel, by decide +kernel⟩
  refine ⟨f, fd, fn_trG (k := 5) F sc (fun Γ cdv A outer s H E hcd hgd hr => ?_), gl, F.kp, F.bindsN fun _ _ _ _ _ _ us hl => match us, hl with | [_, _], _ => rfl⟩
  have tk : Takes (cxOf (L2.CX P w) P w K mg base ["one", "other", "found", "near", "far"] "both" sc_both f cdv A outer s H E) (wOf E) := takes_of rfl rfl rfl rfl
  exact (trs_cons (tr_expr (tr_callG h_need_pair hgd (hr.mono (by decide)) tk rfl (tra_cons (tr_var 0) (tra_cons (tr_var 1) tra_nil)))) (trs_cons (tr_set (i := 2) sc.nd rfl (.inl rfl) (tr_callTy call_tuple_of sem_tupOf rfl m_tuple bo_tuple (tra_cons (tr_lc (own := [("near", 3), ("far", 4)]) rfl sc.nd (tri_zip rfl m_zip (tra_cons (tr_var 0) (tra_cons (tr_var 1) tra_nil))) (blkOk_by (N := ["one", "other", "found", "near", "far"]) (sc := sc_both) (by decide +kernel)) (by decide) (fun _ _ _ _ _ => (trg_tup rfl (trgs_cons (trg_name sc.nd rfl (by first | exact .inl rfl | exact .inr rfl)) (trgs_cons (trg_name sc.nd rfl (by first | exact .inl rfl | exact .inr rfl)) trgs_nil)))) (fun _ _ _ _ _ => trt_nil) (fun _ _ _ _ _ => (tr_op op_addW sem_add (tr_var 3) (tr_var 4)))) tra_nil))) (trs_cons (tr_ifs (trb_cmp op_gt sem_gt (tr_ix ix_seq sem_ix (tr_var 2) (tr_un un_neg sem_neg tr_int)) (tr_cs c_MOST_STAIR rfl) (nomark _)) (trs_one (tr_raise (n := 25) x_TooMany rfl tk (hr.mono (by decide)) rfl (tra_cons (tr_cs c_MOST_STAIR rfl) tra_nil))) trs_nil) (trs_one (tr_ret (tr_var 2))))))
theorem ok_meet {f : Addr} {fd : FuncData} (F : FnP K "meet" (top 37) sc_meet f fd) (gl : mg "meet" = some (.ref f)) (om : noObj K = true) (m_tuple : mg "tuple" = none) (m_zip : mg "zip" = none) (m_min : mg "min" = none) (h_need_pair : FnGs P w K mg base 5 "need_pair" ["one", "other"] F_need_pair) : FnGs P w K mg base 6 "meet" ["one", "other"] F_meet := by
  have sc : FnScope ["one", "other", "near", "far"] ["one", "other"] sc_meet := ⟨rfl, rfl, rfl, by decide +kernel, rfl, by decide +kernel, by decide +kernel⟩
  refine ⟨f, fd, fn_trG (k := 5) F sc (fun Γ cdv A outer s H E hcd hgd hr => ?_), gl, F.kp, F.bindsN fun _ _ _ _ _ _ us hl => match us, hl with | [_, _], _ => rfl⟩
  have tk : Takes (cxOf (L2.CX P w) P w K mg base ["one", "other", "near", "far"] "meet" sc_meet f cdv A outer s H E) (wOf E) := takes_of rfl rfl rfl rfl
  exact (trs_cons (tr_expr (tr_callG h_need_pair hgd (hr.mono (by decide)) tk rfl (tra_cons (tr_var 0) (tra_cons (tr_var 1) tra_nil)))) (trs_one (tr_ret (tr_callTy call_tuple_of sem_tupOf rfl m_tuple bo_tuple (tra_cons (tr_lc (own := [("near", 2), ("far", 3)]) rfl sc.nd (tri_zip rfl m_zip (tra_cons (tr_var 0) (tra_cons (tr_var 1) tra_nil))) (blkOk_by (N := ["one", "other", "near", "far"]) (sc := sc_meet) (by decide +kernel)) (by decide) (fun _ _ _ _ _ => (trg_tup rfl (trgs_cons (trg_name sc.nd rfl (by first | exact .inl rfl | exact .inr rfl)) (trgs_cons (trg_name sc.nd rfl (by first | exact .inl rfl | exact .inr rfl)) trgs_nil)))) (fun _ _ _ _ _ => trt_nil) (fun _ _ _ _ _ => (tr_callB (callR_or (call_min2 rfl) (cr_min rfl)) sem_min rfl m_min bo_min (tra_cons (tr_var 2) (tra_cons (tr_var 3) tra_nil))))) tra_nil)))))
theorem ok_join {f : Addr} {fd : FuncData} (F : FnP K "join" (top 38) sc_join f fd) (gl : mg "join" = some (.ref f)) (om : noObj K = true) (m_tuple : mg "tuple" = none) (m_zip : mg "zip" = none) (m_max : mg "max" = none) (h_need_pair : FnGs P w K mg base 5 "need_pair" ["one", "other"] F_need_pair) : FnGs P w K mg base 6 "join" ["one", "other"] F_join := by
  have sc : FnScope ["one", "other", "near", "far"] ["one", "other"] sc_join := ⟨rfl, rfl, rfl, by decide +kernel, rfl, by decide +kernel, by decide +kernel⟩
  refine ⟨f, fd, fn_trG (k := 5) F sc (fun Γ cdv A outer s H E hcd hgd hr => ?_), gl, F.kp, F.bindsN fun _ _ _ _ _ _ us hl => match us, hl with | [_, _], _ => rfl⟩
  have tk : Takes (cxOf (L2.CX P w) P w K mg base ["one", "other", "near", "far"] "join" sc_join f cdv A outer s H E) (wOf E) := takes_of rfl rfl rfl rfl
  exact (trs_cons (tr_expr (tr_callG h_need_pair hgd (hr.mono (by decide)) tk rfl (tra_cons (tr_var 0) (tra_cons (tr_var 1) tra_nil)))) (trs_one (tr_ret (tr_callTy call_tuple_of sem_tupOf rfl m_tuple bo_tuple (tra_cons (tr_lc (own := [("near", 2), ("far", 3)]) rfl sc.nd (tri_zip rfl m_zip (tra_cons (tr_var 0) (tra_cons (tr_var 1) tra_nil))) (blkOk_by (N := ["one", "other", "near", "far"]) (sc := sc_join) (by decide +kernel)) (by decide) (fun _ _ _ _ _ => (trg_tup rfl (trgs_cons (trg_name sc.nd rfl (by first | exact .inl rfl | exact .inr rfl)) (trgs_cons (trg_name sc.nd rfl (by first | exact .inl rfl | exact .inr rfl)) trgs_nil)))) (fun _ _ _ _ _ => trt_nil) (fun _ _ _ _ _ => (tr_callB (callR_or (call_max2 rfl) (cr_max rfl)) sem_max rfl m_max bo_max (tra_cons (tr_var 2) (tra_cons (tr_var 3) tra_nil))))) tra_nil)))))
theorem ok_fewer {f : Addr} {fd : FuncData} (F : FnP K "fewer" (top 39) sc_fewer f fd) (gl : mg "fewer" = some (.ref f)) (om : noObj K = true) (m_len : mg "len" = none) (x_BadNumber : XIs P w K mg base 3 "ValueError.__new__" tlV) (h_need_stair : FnGs P w K mg base 4 "need_stair" ["thing"] F_need_stair) (h_is_between : FnGs P w K mg base 2 "is_between" ["thing", "least", "most"] F_is_between) : FnGs P w K mg base 5 "fewer" ["stair", "many"] F_fewer := by
  have sc : FnScope ["stair", "many"] ["stair", "many"] sc_fewer := ⟨rfl, rfl, rfl, by decide +kernel, rfl, by decide +kernel, by decide +kernel⟩
  refine ⟨f, fd, fn_trG (k := 4) F sc (fun Γ cdv A outer s H E hcd hgd hr => ?_), gl, F.kp, F.bindsN fun _ _ _ _ _ _ us hl => match us, hl with | [_, _], _ => rfl⟩
  have tk : Takes (cxOf (L2.CX P w) P w K mg base ["stair", "many"] "fewer" sc_fewer f cdv A outer s H E) (wOf E) := takes_of rfl rfl rfl rfl
  exact (trs_cons (tr_expr (tr_callG h_need_stair hgd (hr.mono (by decide)) tk rfl (tra_cons (tr_var 0) tra_nil))) (trs_cons (tr_ifs (trb_not (trb_tru (tr_callG h_is_between hgd (hr.mono (by decide)) tk rfl (tra_cons (tr_var 1) (tra_cons tr_int (tra_cons (tr_callB call_len sem_len rfl m_len bo_len (tra_cons (tr_var 0) tra_nil)) tra_nil)))))) (trs_one (tr_raise (n := 3) x_BadNumber rfl tk (hr.mono (by decide)) rfl (tra_cons (tr_var 1) tra_nil))) trs_nil) (trs_one (tr_ret (tr_slice (tr_var 0) tro_no (tro_some (tr_var 1)))))))
theorem ok_more {f : Addr} {fd : FuncData} (F : FnP K "more" (top 40) sc_more f fd) (gl : mg "more" = some (.ref f)) (om : noObj K = true) (m_len : mg "len" = none) (c_MOST_LETTERS : CsIs K mg "MOST_LETTERS" k_MOST_LETTERS) (x_BadNumber : XIs P w K mg base 3 "ValueError.__new__" tlV) (h_need_stair : FnGs P w K mg base 4 "need_stair" ["thing"] F_need_stair) (h_is_between : FnGs P w K mg base 2 "is_between" ["thing", "least", "most"] F_is_between) : FnGs P w K mg base 5 "more" ["stair", "many"] F_more := by
  have sc : FnScope ["stair", "many"] ["stair", "many"] sc_more := ⟨rfl, rfl, rfl, by decide +kernel, rfl, by decide +kernel, by decide +kernel⟩
  refine ⟨f, fd, fn_trG (k := 4) F sc (fun Γ cdv A outer s H E hcd hgd hr => ?_), gl, F.kp, F.bindsN fun _ _ _ _ _ _ us hl => match us, hl with | [_, _], _ => rfl⟩
  have tk : Takes (cxOf (L2.CX P w) P w K mg base ["stair", "many"] "more" sc_more f cdv A outer s H E) (wOf E) := takes_of rfl rfl rfl rfl
  exact (trs_cons (tr_expr (tr_callG h_need_stair hgd (hr.mono (by decide)) tk rfl (tra_cons (tr_var 0) tra_nil))) (trs_cons (tr_ifs (trb_not (trb_tru (tr_callG h_is_between hgd (hr.mono (by decide)) tk rfl (tra_cons (tr_var 1) (tra_cons (tr_callB call_len sem_len rfl m_len bo_len (tra_cons (tr_var 0) tra_nil)) (tra_cons (tr_cs c_MOST_LETTERS rfl) tra_nil)))))) (trs_one (tr_raise (n := 3) x_BadNumber rfl tk (hr.mono (by decide)) rfl (tra_cons (tr_var 1) tra_nil))) trs_nil) (trs_one (tr_ret (tr_op op_addW sem_add (tr_var 0) (tr_op op_mulTA sem_mulTA (tr_slice (tr_var 0) (tro_some (tr_un un_neg sem_neg tr_int)) tro_no) (tr_op op_sub sem_sub (tr_var 1) (tr_callB call_len sem_len rfl m_len bo_len (tra_cons (tr_var 0) tra_nil)))))))))
theorem ok_price_in {f : Addr} {fd : FuncData} (F : FnP K "price_in" (top 42) sc_price_in f fd) (gl : mg "price_in" = some (.ref f)) (om : noObj K = true) (m_enumerate : mg "enumerate" = none) (m_len : mg "len" = none) (h_made : FnGs P w K mg base 2 "made" ["top", "bottom"] F_made) (h_sum_in : FnGs P w K mg base 4 "sum_in" ["some"] F_sum_in) : FnGs P w K mg base 5 "price_in" ["stair"] F_price_in := by
  have sc : FnScope ["stair", "parts", "spot", "one"] ["stair"] sc_price_in := ⟨rfl, rfl, rfl, by decide +kernel, rfl, by decide +kernel, by decide +kernel⟩
  refine ⟨f, fd, fn_trG (k := 4) F sc (fun Γ cdv A outer s H E hcd hgd hr => ?_), gl, F.kp, F.bindsN fun _ _ _ _ _ _ us hl => match us, hl with | [_], _ => rfl⟩
  have tk : Takes (cxOf (L2.CX P w) P w K mg base ["stair", "parts", "spot", "one"] "price_in" sc_price_in f cdv A outer s H E) (wOf E) := takes_of rfl rfl rfl rfl
  exact (trs_cons (tr_setLc (i := 1) (own := [("spot", 2), ("one", 3)]) rfl sc.nd rfl rfl (sw_true rfl rfl rfl (by decide +kernel)) (tri_enT rfl m_enumerate (tra_cons (tr_slice (tr_var 0) tro_no (tro_some (tr_un un_neg sem_neg tr_int))) tra_nil)) (blkOk_by (N := ["stair", "parts", "spot", "one"]) (sc := sc_price_in) (by decide +kernel)) (by decide) (fun _ _ _ _ _ => (trg_tup rfl (trgs_cons (trg_name sc.nd rfl (by first | exact .inl rfl | exact .inr rfl)) (trgs_cons (trg_name sc.nd rfl (by first | exact .inl rfl | exact .inr rfl)) trgs_nil)))) (fun _ _ _ _ _ => trt_nil) (fun _ _ _ _ _ => (tr_callG h_made hgd (hr.mono (by decide)) takes0 rfl (tra_cons (tr_var 3) (tra_cons (tr_op op_mulW sem_mul (tr_op op_addW sem_add (tr_var 2) tr_int) (tr_op op_addW sem_add (tr_var 2) tr_int)) tra_nil))))) (trs_one (tr_ret (tr_callG h_sum_in hgd (hr.mono (by decide)) tk rfl (tra_cons (tr_lst (tra_star (tr_var 1) (tra_cons (tr_callG h_made hgd (hr.mono (by decide)) tk rfl (tra_cons (tr_ix ix_seq sem_ix (tr_var 0) (tr_un un_neg sem_neg tr_int)) (tra_cons (tr_callB call_len sem_len rfl m_len bo_len (tra_cons (tr_var 0) tra_nil)) tra_nil))) tra_nil))) tra_nil)))))
theorem ok_need_length {f : Addr} {fd : FuncData} (F : FnP K "need_length" (top 45) sc_need_length f fd) (gl : mg "need_length" = some (.ref f)) (om : noObj K = true) (c_NOUGHT : CsIs K mg "NOUGHT" k_NOUGHT) (x_BadLength : XIs P w K mg base 20 "ValueError.__new__" tlV) (h_is_fraction : FnGs P w K mg base 2 "is_fraction" ["thing"] F_is_fraction) (h_is_under_ratios : FnGs P w K mg base 1 "is_under_ratios" ["one", "other"] F_is_under_ratios) : FnGs P w K mg base 3 "need_length" ["length"] F_need_length := by
  have sc : FnScope ["length"] ["length"] sc_need_length := ⟨rfl, rfl, rfl, by decide +kernel, rfl, by decide +kernel, by decide +kernel⟩
  refine ⟨f, fd, fn_trG (k := 2) F sc (fun Γ cdv A outer s H E hcd hgd hr => ?_), gl, F.kp, F.bindsN fun _ _ _ _ _ _ us hl => match us, hl with | [_], _ => rfl⟩
  have tk : Takes (cxOf (L2.CX P w) P w K mg base ["length"] "need_length" sc_need_length f cdv A outer s H E) (wOf E) := takes_of rfl rfl rfl rfl
  exact (trs_one (tr_ifs (TrW.toB (trw_or (trb_not (trb_tru (tr_callG h_is_fraction hgd (hr.mono (by decide)) tk rfl (tra_cons (tr_var 0) tra_nil)))) (trw_or1 (trb_tru (tr_callG h_is_under_ratios hgd (hr.mono (by decide)) tk rfl (tra_cons (tr_var 0) (tra_cons (tr_cs c_NOUGHT rfl) tra_nil))))))) (trs_one (tr_raise (n := 20) x_BadLength rfl tk (hr.mono (by decide)) rfl (tra_cons (tr_var 0) tra_nil))) trs_nil))
theorem ok_is_had_in {f : Addr} {fd : FuncData} (F : FnP K "is_had_in" (top 46) sc_is_had_in f fd) (gl : mg "is_had_in" = some (.ref f)) (om : noObj K = true) (h_is_under_ratios : FnGs P w K mg base 1 "is_under_ratios" ["one", "other"] F_is_under_ratios) (h_price_in : FnGs P w K mg base 5 "price_in" ["stair"] F_price_in) : FnGs P w K mg base 6 "is_had_in" ["stair", "length"] F_is_had_in := by
  have sc : FnScope ["stair", "length"] ["stair", "length"] sc_is_had_in := ⟨rfl, rfl, rfl, by decide +kernel, rfl, by decide +kernel, by decide +kernel⟩
  refine ⟨f, fd, fn_trG (k := 5) F sc (fun Γ cdv A outer s H E hcd hgd hr => ?_), gl, F.kp, F.bindsN fun _ _ _ _ _ _ us hl => match us, hl with | [_, _], _ => rfl⟩
  have tk : Takes (cxOf (L2.CX P w) P w K mg base ["stair", "length"] "is_had_in" sc_is_had_in f cdv A outer s H E) (wOf E) := takes_of rfl rfl rfl rfl
  exact (trs_one (tr_ret (tr_not (tr_callG h_is_under_ratios hgd (hr.mono (by decide)) tk rfl (tra_cons (tr_var 1) (tra_cons (tr_callG h_price_in hgd (hr.mono (by decide)) tk rfl (tra_cons (tr_var 0) tra_nil)) tra_nil))))))
theorem ok_need_both {f : Addr} {fd : FuncData} (F : FnP K "need_both" (top 47) sc_need_both f fd) (gl : mg "need_both" = some (.ref f)) (om : noObj K = true) (h_need_stair : FnGs P w K mg base 4 "need_stair" ["thing"] F_need_stair) (h_need_length : FnGs P w K mg base 3 "need_length" ["length"] F_need_length) : FnGs P w K mg base 5 "need_both" ["stair", "length"] F_need_both := by
  have sc : FnScope ["stair", "length"] ["stair", "length"] sc_need_both := ⟨rfl, rfl, rfl, by decide +kernel, rfl, by decide +kernel, by decide +kernel⟩
  refine ⟨f, fd, fn_trG (k := 4) F sc (fun Γ cdv A outer s H E hcd hgd hr => ?_), gl, F.kp, F.bindsN fun _ _ _ _ _ _ us hl => match us, hl with | [_, _], _ => rfl⟩
  have tk : Takes (cxOf (L2.CX P w) P w K mg base ["stair", "length"] "need_both" sc_need_both f cdv A outer s H E) (wOf E) := takes_of rfl rfl rfl rfl
  exact (trs_cons (tr_expr (tr_callG h_need_stair hgd (hr.mono (by decide)) tk rfl (tra_cons (tr_var 0) tra_nil))) (trs_one (tr_expr (tr_callG h_need_length hgd (hr.mono (by decide)) tk rfl (tra_cons (tr_var 1) tra_nil)))))
theorem ok_is_had {f : Addr} {fd : FuncData} (F : FnP K "is_had" (top 48) sc_is_had f fd) (gl : mg "is_had" = some (.ref f)) (om : noObj K = true) (h_need_both : FnGs P w K mg base 5 "need_both" ["stair", "length"] F_need_both) (h_is_had_in : FnGs P w K mg base 6 "is_had_in" ["stair", "length"] F_is_had_in) : FnGs P w K mg base 7 "is_had" ["stair", "length"] F_is_had := by
  have sc : FnScope ["stair", "length"] ["stair", "length"] sc_is_had := ⟨rfl, rfl, rfl, by decide +kernel, rfl, by decide +kernel, by decide +kernel⟩
  refine ⟨f, fd, fn_trG (k := 6) F sc (fun Γ cdv A outer s H E hcd hgd hr => ?_), gl, F.kp, F.bindsN fun _ _ _ _ _ _ us hl => match us, hl with | [_, _], _ => rfl⟩
  have tk : Takes (cxOf (L2.CX P w) P w K mg base ["stair", "length"] "is_had" sc_is_had f cdv A outer s H E) (wOf E) := takes_of rfl rfl rfl rfl
  exact (trs_cons (tr_expr (tr_callG h_need_both hgd (hr.mono (by decide)) tk rfl (tra_cons (tr_var 0) (tra_cons (tr_var 1) tra_nil)))) (trs_one (tr_ret (tr_callG h_is_had_in hgd (hr.mono (by decide)) tk rfl (tra_cons (tr_var 0) (tra_cons (tr_var 1) tra_nil))))))
theorem ok_over_by {f : Addr} {fd : FuncData} (F : FnP K "over_by" (top 49) sc_over_by f fd) (gl : mg "over_by" = some (.ref f)) (om : noObj K = true) (h_need_both : FnGs P w K mg base 5 "need_both" ["stair", "length"] F_need_both) (h_sub : FnGs P w K mg base 3 "sub" ["one", "other"] F_sub) (h_price_in : FnGs P w K mg base 5 "price_in" ["stair"] F_price_in) : FnGs P w K mg base 6 "over_by" ["stair", "length"] F_over_by := by
  have sc : FnScope ["stair", "length"] ["stair", "length"] sc_over_by := ⟨rfl, rfl, rfl, by decide +kernel, rfl, by decide +kernel, by decide +kernel⟩
  refine ⟨f, fd, fn_trG (k := 5) F sc (fun Γ cdv A outer s H E hcd hgd hr => ?_), gl, F.kp, F.bindsN fun _ _ _ _ _ _ us hl => match us, hl with | [_, _], _ => rfl⟩
  have tk : Takes (cxOf (L2.CX P w) P w K mg base ["stair", "length"] "over_by" sc_over_by f cdv A outer s H E) (wOf E) := takes_of rfl rfl rfl rfl
  exact (trs_cons (tr_expr (tr_callG h_need_both hgd (hr.mono (by decide)) tk rfl (tra_cons (tr_var 0) (tra_cons (tr_var 1) tra_nil)))) (trs_one (tr_ret (tr_callG h_sub hgd (hr.mono (by decide)) tk rfl (tra_cons (tr_callG h_price_in hgd (hr.mono (by decide)) tk rfl (tra_cons (tr_var 0) tra_nil)) (tra_cons (tr_var 1) tra_nil))))))
theorem ok_greatest_in {f : Addr} {fd : FuncData} (F : FnP K "greatest_in" (top 50) sc_greatest_in f fd) (gl : mg "greatest_in" = some (.ref f)) (om : noObj K = true) (c_MOST_STAIR : CsIs K mg "MOST_STAIR" k_MOST_STAIR) (h_is_had_in : FnGs P w K mg base 6 "is_had_in" ["stair", "length"] F_is_had_in) (h_raised_in : FnGs P w K mg base 1 "raised_in" ["stair", "k", "x"] F_raised_in) : FnGs P w K mg base 7 "greatest_in" ["stair", "k", "length"] F_greatest_in := by
  have sc : FnScope ["stair", "k", "length", "low", "high", "half"] ["stair", "k", "length"] sc_greatest_in := ⟨rfl, rfl, rfl, by decide +kernel, rfl, by decide +kernel, by decide +kernel⟩
  refine ⟨f, fd, fn_trG (k := 6) F sc (fun Γ cdv A outer s H E hcd hgd hr => ?_), gl, F.kp, F.bindsN fun _ _ _ _ _ _ us hl => match us, hl with | [_, _, _], _ => rfl⟩
  have tk : Takes (cxOf (L2.CX P w) P w K mg base ["stair", "k", "length", "low", "high", "half"] "greatest_in" sc_greatest_in f cdv A outer s H E) (wOf E) := takes_of rfl rfl rfl rfl
  exact (trs_cons (tr_par (ps_par rfl sc.nd rfl rfl (by decide) rfl rfl (tra_cons (tr_ix ix_seq sem_ix (tr_var 0) (tr_op op_sub sem_sub (tr_var 1) tr_int)) (tra_cons (tr_cs c_MOST_STAIR rfl) tra_nil)) (by rfl))) (trs_cons (tr_while (fun _ => 1000000) (passes_of rfl) (trb_cmp op_lt sem_lt (tr_var 3) (tr_var 4) (nomark _)) (trs_cons (tr_set (i := 5) sc.nd rfl (.inl rfl) (tr_op op_fdivW sem_fdiv (tr_op op_addW sem_add (tr_op op_addW sem_add (tr_var 3) (tr_var 4)) tr_int) tr_int)) (trs_one (tr_ifs (trb_tru (tr_callG h_is_had_in hgd (hr.mono (by decide)) tk rfl (tra_cons (tr_callG h_raised_in hgd (hr.mono (by decide)) tk rfl (tra_cons (tr_var 0) (tra_cons (tr_var 1) (tra_cons (tr_var 5) tra_nil)))) (tra_cons (tr_var 2) tra_nil)))) (trs_one (tr_set (i := 3) sc.nd rfl (.inl rfl) (tr_var 5))) (trs_one (tr_set (i := 4) sc.nd rfl (.inl rfl) (tr_op op_sub sem_sub (tr_var 5) tr_int))))))) (trs_one (tr_ret (tr_var 3)))))
theorem ok_greatest_at {f : Addr} {fd : FuncData} (F : FnP K "greatest_at" (top 51) sc_greatest_at f fd) (gl : mg "greatest_at" = some (.ref f)) (om : noObj K = true) (m_len : mg "len" = none) (x_BadNumber : XIs P w K mg base 3 "ValueError.__new__" tlV) (h_need_stair : FnGs P w K mg base 4 "need_stair" ["thing"] F_need_stair) (h_is_between : FnGs P w K mg base 2 "is_between" ["thing", "least", "most"] F_is_between) (h_need_length : FnGs P w K mg base 3 "need_length" ["length"] F_need_length) (h_is_had_in : FnGs P w K mg base 6 "is_had_in" ["stair", "length"] F_is_had_in) (h_greatest_in : FnGs P w K mg base 7 "greatest_in" ["stair", "k", "length"] F_greatest_in) : FnGs P w K mg base 8 "greatest_at" ["stair", "k", "length"] F_greatest_at := by
  have sc : FnScope ["stair", "k", "length"] ["stair", "k", "length"] sc_greatest_at := ⟨rfl, rfl, rfl, by decide +kernel, rfl, by decide +kernel, by decide +kernel⟩
  refine ⟨f, fd, fn_trG (k := 7) F sc (fun Γ cdv A outer s H E hcd hgd hr => ?_), gl, F.kp, F.bindsN fun _ _ _ _ _ _ us hl => match us, hl with | [_, _, _], _ => rfl⟩
  have tk : Takes (cxOf (L2.CX P w) P w K mg base ["stair", "k", "length"] "greatest_at" sc_greatest_at f cdv A outer s H E) (wOf E) := takes_of rfl rfl rfl rfl
  exact (trs_cons (tr_expr (tr_callG h_need_stair hgd (hr.mono (by decide)) tk rfl (tra_cons (tr_var 0) tra_nil))) (trs_cons (tr_ifs (trb_not (trb_tru (tr_callG h_is_between hgd (hr.mono (by decide)) tk rfl (tra_cons (tr_var 1) (tra_cons tr_int (tra_cons (tr_callB call_len sem_len rfl m_len bo_len (tra_cons (tr_var 0) tra_nil)) tra_nil)))))) (trs_one (tr_raise (n := 3) x_BadNumber rfl tk (hr.mono (by decide)) rfl (tra_cons (tr_var 1) tra_nil))) trs_nil) (trs_cons (tr_expr (tr_callG h_need_length hgd (hr.mono (by decide)) tk rfl (tra_cons (tr_var 2) tra_nil))) (trs_one (tr_ret (tr_if (trb_tru (tr_callG h_is_had_in hgd (hr.mono (by decide)) tk rfl (tra_cons (tr_var 0) (tra_cons (tr_var 2) tra_nil)))) (tr_callG h_greatest_in hgd (hr.mono (by decide)) tk rfl (tra_cons (tr_var 0) (tra_cons (tr_var 1) (tra_cons (tr_var 2) tra_nil)))) tr_non))))))
theorem ok_is_wish {f : Addr} {fd : FuncData} (F : FnP K "is_wish" (top 52) sc_is_wish f fd) (gl : mg "is_wish" = some (.ref f)) (om : noObj K = true) (m_isinstance : mg "isinstance" = none) (m_tuple : mg "tuple" = none) (m_len : mg "len" = none) (c_MOST_STAIR : CsIs K mg "MOST_STAIR" k_MOST_STAIR) (h_is_between : FnGs P w K mg base 2 "is_between" ["thing", "least", "most"] F_is_between) : FnGs P w K mg base 3 "is_wish" ["many", "thing"] F_is_wish := by
  have sc : FnScope ["many", "thing"] ["many", "thing"] sc_is_wish := ⟨rfl, rfl, rfl, by decide +kernel, rfl, by decide +kernel, by decide +kernel⟩
  refine ⟨f, fd, fn_trG (k := 2) F sc (fun Γ cdv A outer s H E hcd hgd hr => ?_), gl, F.kp, F.bindsN fun _ _ _ _ _ _ us hl => match us, hl with | [_, _], _ => rfl⟩
  have tk : Takes (cxOf (L2.CX P w) P w K mg base ["many", "thing"] "is_wish" sc_is_wish f cdv A outer s H E) (wOf E) := takes_of rfl rfl rfl rfl
  exact (trs_cons (tr_ifs (TrW.toB (trw_or (trb_not (trb_tru (tr_isi isi_tuple rfl m_isinstance rfl m_tuple boot_ty_tuple (tr_var 1)))) (trw_or1 (trb_cmp (op_neS hr.units) sem_neS (tr_callB call_len sem_len rfl m_len bo_len (tra_cons (tr_var 1) tra_nil)) tr_int (nomark _))))) (trs_one (tr_ret tr_bl)) trs_nil) (trs_one (tr_ret (tr_and (tr_callG h_is_between hgd (hr.mono (by decide)) tk rfl (tra_cons (tr_ix ix_seq sem_ix (tr_var 1) tr_int) (tra_cons tr_int (tra_cons (tr_var 0) tra_nil)))) (tr_one (tr_callG h_is_between hgd (hr.mono (by decide)) tk rfl (tra_cons (tr_ix ix_seq sem_ix (tr_var 1) tr_int) (tra_cons tr_int (tra_cons (tr_cs c_MOST_STAIR rfl) tra_nil)))))))))
theorem ok_least_stair {f : Addr} {fd : FuncData} (F : FnP K "least_stair" (top 53) sc_least_stair f fd) (gl : mg "least_stair" = some (.ref f)) (om : noObj K = true) (m_isinstance : mg "isinstance" = none) (m_tuple : mg "tuple" = none) (m_len : mg "len" = none) (m_all : mg "all" = none) (m_range : mg "range" = none) (m_max : mg "max" = none) (c_MOST_WISHES : CsIs K mg "MOST_WISHES" k_MOST_WISHES) (x_BadWishes : XIs P w K mg base 21 "ValueError.__new__" tlV) (h_need_many : FnGs P w K mg base 3 "need_many" ["many"] F_need_many) (h_is_wish : FnGs P w K mg base 3 "is_wish" ["many", "thing"] F_is_wish) : FnGs P w K mg base 4 "least_stair" ["many", "wishes"] F_least_stair := by
  have sc : FnScope ["many", "wishes", "place", "one", "k", "x"] ["many", "wishes"] sc_least_stair := ⟨rfl, rfl, rfl, by decide +kernel, rfl, by decide +kernel, by decide +kernel⟩
  refine ⟨f, fd, fn_trG (k := 3) F sc (fun Γ cdv A outer s H E hcd hgd hr => ?_), gl, F.kp, F.bindsN fun _ _ _ _ _ _ us hl => match us, hl with | [_, _], _ => rfl⟩
  have tk : Takes (cxOf (L2.CX P w) P w K mg base ["many", "wishes", "place", "one", "k", "x"] "least_stair" sc_least_stair f cdv A outer s H E) (wOf E) := takes_of rfl rfl rfl rfl
  exact (trs_cons (tr_expr (tr_callG h_need_many hgd (hr.mono (by decide)) tk rfl (tra_cons (tr_var 0) tra_nil))) (trs_cons (tr_ifs (TrW.toB (trw_or (trb_not (trb_tru (tr_isi isi_tuple rfl m_isinstance rfl m_tuple boot_ty_tuple (tr_var 1)))) (trw_or (trb_cmp op_gt sem_gt (tr_callB call_len sem_len rfl m_len bo_len (tra_cons (tr_var 1) tra_nil)) (tr_cs c_MOST_WISHES rfl) (nomark _)) (trw_or1 (trb_not (trb_tru (tr_callB (cr_all rfl) sem_all rfl m_all bo_all (tra_cons (tr_lc (own := [("one", 3)]) rfl sc.nd (tri_tup (tr_var 1)) (blkOk_by (N := ["many", "wishes", "place", "one", "k", "x"]) (sc := sc_least_stair) (by decide +kernel)) (by decide) (fun _ _ _ _ _ => (trg_name sc.nd rfl (by first | exact .inl rfl | exact .inr rfl))) (fun _ _ _ _ _ => trt_nil) (fun _ _ _ _ _ => (tr_callG h_is_wish hgd (hr.mono (by decide)) takes0 rfl (tra_cons (tr_var 0) (tra_cons (tr_var 3) tra_nil))))) tra_nil)))))))) (trs_one (tr_raise (n := 21) x_BadWishes rfl tk (hr.mono (by decide)) rfl (tra_cons (tr_var 1) tra_nil))) trs_nil) (trs_one (tr_ret (tr_callTy call_tuple_of sem_tupOf rfl m_tuple bo_tuple (tra_cons (tr_lc (own := [("place", 2)]) rfl sc.nd (tri_rng2 rfl m_range (tra_cons tr_int (tra_cons (tr_op op_addW sem_add (tr_var 0) tr_int) tra_nil))) (blkOk_by (N := ["many", "wishes", "place", "one", "k", "x"]) (sc := sc_least_stair) (by decide +kernel)) (by decide) (fun _ _ _ _ _ => (trg_name sc.nd rfl (by first | exact .inl rfl | exact .inr rfl))) (fun _ _ _ _ _ => trt_nil) (fun _ _ _ _ _ => (tr_callB (callR_or (call_max2 rfl) (cr_max rfl)) sem_max rfl m_max bo_max (tra_cons (tr_op op_addW sem_add (tr_lst (tra_cons tr_int tra_nil)) (tr_lc (own := [("k", 4), ("x", 5)]) rfl sc.nd (tri_tup (tr_var 1)) (blkOk_by (by kernel_rfl)) (by decide) (fun _ _ _ _ _ => (trg_tup rfl (trgs_cons (trg_name sc.nd rfl (by first | exact .inl rfl | exact .inr rfl)) (trgs_cons (trg_name sc.nd rfl (by first | exact .inl rfl | exact .inr rfl)) trgs_nil)))) (fun _ _ _ _ _ => (trt_one (trb_cmp op_le sem_le (tr_var 4) (tr_var 2) (nomark _)))) (fun _ _ _ _ _ => (tr_var 5)))) tra_nil)))) tra_nil))))))
theorem ok__law_mixed {f : Addr} {fd : FuncData} (F : FnP K "_law_mixed" (top 55) sc__law_mixed f fd) (gl : mg "_law_mixed" = some (.ref f)) (om : noObj K = true) (m_int : mg "int" = none) : FnIs P w K mg base 1 "_law_mixed" ["_law_cell", "_law_k"] F__law_mixed := by
  have sc : FnScope ["_law_cell", "_law_k"] ["_law_cell", "_law_k"] sc__law_mixed := ⟨rfl, rfl, rfl, by decide +kernel, rfl, by decide +kernel, by decide +kernel⟩
  refine ⟨f, fd, fn_tr (k := 0) F sc (fun Γ cdv A outer s H E hr => ?_), gl, F.kp, F.bindsN fun _ _ _ _ _ _ us hl => match us, hl with | [_, _], _ => rfl⟩
  have tk : Takes (cxOf (L2.CX P w) P w K mg base ["_law_cell", "_law_k"] "_law_mixed" sc__law_mixed f cdv A outer s H E) (wOf E) := takes_of rfl rfl rfl rfl
  exact (trs_cons (tr_set (i := 0) sc.nd rfl (.inl rfl) (tr_op op_mod sem_mod (tr_callTy call_int1 sem_int1 rfl m_int bo_int (tra_cons (tr_var 0) tra_nil)) tr_int)) (trs_one (tr_ret (tr_op op_mod sem_mod (tr_op op_mulW sem_mul (tr_op op_mod sem_mod (tr_op op_addW sem_add (tr_op op_addW sem_add (tr_op op_mulW sem_mul (tr_var 0) (tr_op op_addW sem_add tr_int (tr_op op_mulW sem_mul (tr_op op_mulW sem_mul tr_int (tr_var 1)) (tr_var 1)))) (tr_op op_mulW sem_mul tr_int (tr_var 1))) tr_int) tr_int) tr_int) tr_int))))
/-- a call of _law_mixed, by its reading -/
theorem mix_sp {c : Cc} {d : Dw} {H : Hp} {x k : Int} {Q : VK} {E : XK} (hT : c.T = tabL K ∧ c.K = K) (wd : Wd c d H) (h0 : 0 ≤ k) (h1 : k ≤ 2 ^ 61) (h : ∀ ⦃c' : Cc⦄ H', SG c c' H H' → StOk c' d H' → Q (.int (mixv x k)) H') : SpF K F__law_mixed [.int x, .int k] H Q E := by
  refine ⟨c, d, [.int x, .int k], hT, wd, .cons (.int x) (.cons (.int k) .nil), ?_⟩
  rw [mix_run h0 h1]
  intro c' v H' st so r
  cases r
  exact h H' st so
theorem ok__law_begin {f : Addr} {fd : FuncData} (F : FnP K "_law_begin" (top 56) sc__law_begin f fd) (m_list : mg "list" = none) : FnOk P w K mg base (L2.CX P w) 1 f fd ["_law_script"] (spBegin K) := by
  have sc : FnScope ["_law_script", "_law_cells", "_law_cell"] ["_law_script"] sc__law_begin := ⟨rfl, rfl, rfl, by decide +kernel, rfl, by decide +kernel, by decide +kernel⟩
  refine F.ok (k := 0) sc (fun vs H Q E h => ?_) (fun cdv A outer s H vs Q E hr h => ?_)
  · obtain ⟨a, ns, rfl, _⟩ := h
    rfl
  refine ⟨_, pss_cons (ps_set (i := 1) sc.nd rfl (.inl rfl) (pe_ifExp (pt_cmpR (op_neD hr.units) (pv 0) (pe_lst pa_nil) (nomark _)) (pe_callTy call_list_of rfl m_list bo_list (pa_cons (pv 0) pa_nil)) (pe_lst (pa_cons pe_int pa_nil))))
    (pss_one (ps_ret (pe_disp (pps_cons pe_str (pv 1) (pps_cons pe_str (pe_lc (own := [("_law_cell", 2)]) (g := gName 2) (tt := tYes) rfl sc.nd (pi_list (pv 1)) (blkOk_by (N := ["_law_script", "_law_cells", "_law_cell"]) (sc := sc__law_begin) (by decide +kernel))
        (fun _ _ _ _ _ => pg_name (i := 2) sc.nd rfl (.inl rfl)) (fun _ _ _ _ _ => pts_nil) (fun _ _ _ _ _ => pe_ifExp (pt_cmpR op_ge (pv 2) (pe_op op_pow pe_int pe_int) (nomark _)) (pv 2) pe_int))
      (pps_cons pe_str pe_int (pps_cons pe_str pe_int pps_nil)))) (by rfl) (by rfl) (fun z => by cases z) (by decide)))), ?_⟩
  obtain ⟨a, ns, rfl, hS, hz, q⟩ := h
  exact begin_read hS hz q
theorem ok__law_draw {f : Addr} {fd : FuncData} (F : FnP K "_law_draw" (top 57) sc__law_draw f fd) (gl : mg "_law_draw" = some (.ref f)) (om : noObj K = true) (m_int : mg "int" = none) (m_len : mg "len" = none) (h__law_mixed : FnIs P w K mg base 1 "_law_mixed" ["_law_cell", "_law_k"] F__law_mixed) : FnIs P w K mg base 2 "_law_draw" ["_law_state", "_law_many"] F__law_draw := by
  have sc : FnScope ["_law_state", "_law_many", "_law_at", "_law_place", "_law_left", "_law_number"] ["_law_state", "_law_many"] sc__law_draw := ⟨rfl, rfl, rfl, by decide +kernel, rfl, by decide +kernel, by decide +kernel⟩
  obtain ⟨fM, fdM, GM, gM, kM, bM⟩ := h__law_mixed
  refine ⟨f, fd, F.ok (k := 1) sc (SpF.len fun ws h => ?_) (fun cdv A outer s H vs Q E hr h => ?_), gl, F.kp, F.bindsN fun _ _ _ _ _ _ us hl => match us, hl with | [_, _], _ => rfl⟩
  · exact F_draw_bad fun n z => h (by rw [z]; rfl)
  have tk : Takes (cxOf (L2.CX P w) P w K mg base ["_law_state", "_law_many", "_law_at", "_law_place", "_law_left", "_law_number"] "_law_draw" sc__law_draw f cdv A outer s H E) (wOf E) := takes_of rfl rfl rfl rfl
  have hu := hu_of hr
  refine ⟨_, pss_cons (ps_set (i := 2) sc.nd rfl (.inl rfl) (pe_dget hu (pv 0) pe_str (fun _ _ => rfl)))
    (pss_cons (ps_dput hu (pv 0) pe_str (pe_op op_add (pv 2) pe_int) rfl)
    (pss_cons (ps_set (i := 3) sc.nd rfl (.inl rfl) (pe_op op_mod (pe_callTy call_int1 rfl m_int bo_int (pa_cons (pv 2) pa_nil)) (pe_callB call_len rfl m_len bo_len (pa_cons (pe_dget hu (pv 0) pe_str (fun _ _ => rfl)) pa_nil))))
    (pss_cons (ps_set (i := 4) sc.nd rfl (.inl rfl) (pe_ix ix_list (pe_dget hu (pv 0) pe_str (fun _ _ => rfl)) (pv 3) (fun _ _ => rfl)))
    (pss_cons (ps_if (pt_cmpR op_gt (pv 4) pe_int (nomark _))
      (pss_cons (ps_asg (pe_op op_fdivW (pv 4) (pv 1)) (pg_sub (pe_dget hu (pv 0) pe_str (fun _ _ => rfl)) (pv 3) set_list))
        (pss_one (ps_ret (pe_op op_mod (pe_callTy call_int1 rfl m_int bo_int (pa_cons (pv 4) pa_nil)) (pv 1))))) pss_nil)
    (pss_cons (ps_set (i := 5) sc.nd rfl (.inl rfl) (pe_callSD (E := fun σ => WE (wOf E) σ) GM hr rfl gM kM bM .nil (fun σ => passAt tk σ) (pa_cons (pe_callSD (E := fun σ => WE (wOf E) σ) GM hr rfl gM kM bM .nil (fun σ => passAt tk σ) (pa_cons (pe_ix ix_list (pe_dget hu (pv 0) pe_str (fun _ _ => rfl)) (pv 3) (fun _ _ => rfl)) (pa_cons (pv 2) pa_nil))) (pa_cons (pe_op op_add pe_int (pv 2)) pa_nil))))
    (pss_one (ps_ret (pe_op op_mod (pe_op op_fdiv (pe_callTy call_int1 rfl m_int bo_int (pa_cons (pe_op op_add (pe_op op_mulW (pv 5) pe_int) (pe_callSD (E := fun σ => WE (wOf E) σ) GM hr rfl gM kM bM .nil (fun σ => passAt tk σ) (pa_cons (pv 5) (pa_cons (pe_op op_add pe_int (pv 2)) pa_nil)))) pa_nil)) pe_int) (pv 1))))))))), ?_⟩
  obtain ⟨c, d, ws, hTT, wd, r, h⟩ := h
  by_cases hw : ∃ n, ws = [.stt, .int n]
  case neg =>
    rw [F_draw_bad fun n z => hw ⟨n, z⟩] at h
    exact h.elim
  obtain ⟨n, rfl⟩ := hw
  cases r with
  | cons r1 r2 =>
  cases r2 with
  | cons r2 r3 =>
  cases r3
  cases r2
  cases r1
  obtain ⟨⟨hn0, hn1⟩, e, hde, hq⟩ := draw_all h
  obtain ⟨⟨cells, lefts, k, rr, hS, hca, hla, hlen, hpos, hk0, hkb, hne, hT⟩, hob⟩ := wd.st
  rw [hde] at hkb
  have nS : c.ca ≠ c.S := ne_of hca hS (by intro z; cases z)
  have nS2 : c.la ≠ c.S := ne_of hla hS (by intro z; cases z)
  -- at
  refine ⟨.ref c.S, rfl, c.S, .int k, rfl, DGet.st (x := .inr kAt) hS st_at, ?_⟩
  refine ⟨.int k, rfl, k, 1, rfl, rfl, .ref c.S, rfl, c.S, _, rfl, DPut.k (k := .inr kAt) hS (by show 4 < sizeLine; decide), ?_⟩
  generalize hH1 : upd H c.S _ = H1
  have hS1 : H1 c.S = some (.dK (stK c.ca c.la (k + 1) rr)) := by rw [← hH1, upd_same, st_put]
  have o1 : ∀ b, b ≠ c.S → H1 b = H b := fun b hb => by rw [← hH1, upd_ne hb]
  have hca1 : H1 c.ca = some (.lst (cells.map V.int)) := by rw [o1 _ nS]; exact hca
  have hla1 : H1 c.la = some (.lst (lefts.map V.int)) := by rw [o1 _ nS2]; exact hla
  have st1 : Step c H H1 := ⟨fun b o hb h1 h2 _ => by rw [o1 b h1]; exact hb, fun b ps hb => ⟨#[], by rw [o1 b (ne_of hb hS (by intro z; cases z)), hb]; simp⟩, fun b C dx fs hb => ⟨fs, by rw [o1 b (ne_of hb hS (by intro z; cases z))]; exact hb⟩⟩
  have sm1 : ∀ b C dx fl, H b = some (.ins C dx fl) → H1 b = some (.ins C dx fl) := fun b C dx fl hb => by rw [o1 b (ne_of hb hS (by intro z; cases z))]; exact hb
  have hT1 : LamX.Tabs c.T H1 := by
    rw [← hH1]
    exact Tabs.upd hT hS nofun dK_noC
  have so1 : StOk c ⟨e, d.os⟩ H1 := StOk.drawn wd.st st1 sm1 hk0 hkb hne hlen hpos hS1 hca1 hla1 hT1
  have wd1 : Wd c ⟨e, d.os⟩ H1 := wd.step (.of st1) so1
  -- place
  refine ⟨.int k, rfl, .inl ⟨k, rfl, ?_⟩⟩
  refine ⟨.ref c.S, rfl, c.S, .ref c.ca, rfl, DGet.st (x := .inr kCells) hS1 st_cells, _, cells.length, rfl, .inl ⟨_, SqL.of hca1, by rw [List.length_map]⟩, k, _, rfl, rfl, by omega, ?_⟩
  have p0 : 0 ≤ k % (cells.length : Int) := Int.emod_nonneg _ (by omega)
  have p1 : k % (cells.length : Int) < cells.length := Int.emod_lt_of_pos _ (by omega)
  obtain ⟨j, hpj⟩ : ∃ j : Nat, k % (cells.length : Int) = j := ⟨(k % (cells.length : Int)).toNat, by omega⟩
  have hj : j < cells.length := by omega
  have hjl : j < lefts.length := by omega
  -- left
  refine ⟨.ref c.S, rfl, c.S, .ref c.la, rfl, DGet.st (x := .inr kLefts) hS1 st_lefts, .int (k % (cells.length : Int)), rfl, c.la, _, k % (cells.length : Int), .int lefts[j], rfl, rfl, SqL.of hla1, (by rw [hpj]; exact atI_nat (by rw [List.getElem?_map, List.getElem?_eq_getElem hjl]; rfl)), ?_⟩
  refine ⟨.int lefts[j], rfl, lefts[j], 0, rfl, rfl, _, rfl, ite2 (fun hl => ?_) (fun hl => ?_)⟩
  · -- by the digits
    refine ⟨.int lefts[j], rfl, .int n, rfl, lefts[j], n, rfl, rfl, ⟨hn0, hn1⟩, ?_⟩
    refine ⟨.ref c.S, rfl, c.S, .ref c.la, rfl, DGet.st (x := .inr kLefts) hS1 st_lefts, .int (k % (cells.length : Int)), rfl, c.la, _, k % (cells.length : Int), j, rfl, rfl, hla1, ?_, ?_⟩
    · unfold ixN
      rw [if_pos p0, if_pos (by rw [List.length_map]; omega), hpj]
      rfl
    refine ⟨.int lefts[j], rfl, .inl ⟨lefts[j], rfl, .int n, rfl, lefts[j], n, rfl, rfl, hn0, ?_⟩⟩
    have st2 : Step c H (upd H1 c.la (.lst ((lefts.map V.int).set j (.int (lefts[j] / n))))) := ⟨fun b o hb h1 h2 h3 => by rw [upd_ne h2]; exact st1.keep b o hb h1 h2 h3, fun b ps hb => by rw [upd_ne (ne_of hb hla (by intro z; cases z))]; exact st1.tbl b ps hb, fun b C dx fs hb => by rw [upd_ne (ne_of hb hla (by intro z; cases z))]; exact st1.ins b C dx fs hb⟩
    refine hq _ _ (Int.emod_nonneg _ (by omega)) (Int.emod_lt_of_pos _ hn0) (.of st2) (StOk.drawn (r := rr) wd.st st2 (fun b C dx fl hb => by rw [upd_ne (ne_of hb hla (by intro z; cases z))]; exact sm1 b C dx fl hb) (lefts' := lefts.set j (lefts[j] / n)) hk0 hkb hne (by rw [List.length_set]; exact hlen) hpos ?_ ?_ ?_ (Tabs.upd hT1 hla1 nofun lst_noC))
    · rw [upd_ne (Ne.symm nS2)]
      exact hS1
    · rw [upd_ne hne]
      exact hca1
    · rw [upd_same, List.map_set]
  · -- mixed
    refine ⟨.ref c.S, rfl, c.S, .ref c.ca, rfl, DGet.st (x := .inr kCells) hS1 st_cells, .int (k % (cells.length : Int)), rfl, c.ca, _, k % (cells.length : Int), .int cells[j], rfl, rfl, SqL.of hca1, (by rw [hpj]; exact atI_nat (by rw [List.getElem?_map, List.getElem?_eq_getElem hj]; rfl)), ?_⟩
    refine ⟨.int k, rfl, mix_sp hTT wd1 hk0 (by omega) fun c2 H2 st2 so2 => ?_⟩
    have wd2 := wd1.step st2 so2
    refine ⟨.int k, rfl, 40, k, rfl, rfl, mix_sp ⟨st2.g.T.trans hTT.1, st2.g.KK.trans hTT.2⟩ wd2 (by omega) (by omega) fun c3 H3 st3 so3 => ?_⟩
    have wd3 := wd2.step st3 so3
    refine ⟨_, rfl, _, 2147483647, rfl, rfl, wide_mul (a := 32) (b := 32) ?_ (by decide) (by decide) (by decide) (by decide), ?_⟩
    · have := mixv_lt (mixv cells[j] k) (40 + k)
      omega
    refine ⟨_, rfl, .int k, rfl, 7, k, rfl, rfl, mix_sp ⟨(st2.trans st3).g.T.trans hTT.1, (st2.trans st3).g.KK.trans hTT.2⟩ wd3 (by omega) (by omega) fun c4 H4 st4 so4 => ?_⟩
    refine ⟨_, _, rfl, rfl, .inl ⟨_, rfl, _, 64, rfl, rfl, ⟨by decide, by decide⟩, .int n, rfl, _, n, rfl, rfl, hn0, ?_⟩⟩
    exact hq _ _ (Int.emod_nonneg _ (by omega)) (Int.emod_lt_of_pos _ hn0) ((SG.of st1).trans (st2.trans (st3.trans st4))) so4
theorem ok__law_stair_drawn {f : Addr} {fd : FuncData} (F : FnP K "_law_stair_drawn" (top 58) sc__law_stair_drawn f fd) (gl : mg "_law_stair_drawn" = some (.ref f)) (om : noObj K = true) (m_range : mg "range" = none) (m_int : mg "int" = none) (m_tuple : mg "tuple" = none) (h__law_draw : FnGs P w K mg base 2 "_law_draw" ["_law_state", "_law_many"] F__law_draw) : FnGs P w K mg base 3 "_law_stair_drawn" ["_law_state", "_law_many", "_law_wide"] F__law_stair_drawn := by
  have sc : FnScope ["_law_state", "_law_many", "_law_wide", "_law_got", "_law_last", "_law_k"] ["_law_state", "_law_many", "_law_wide"] sc__law_stair_drawn := ⟨rfl, rfl, rfl, by decide +kernel, rfl, by decide +kernel, by decide +kernel⟩
  refine ⟨f, fd, fn_trG (k := 2) F sc (fun Γ cdv A outer s H E hcd hgd hr => ?_), gl, F.kp, F.bindsN fun _ _ _ _ _ _ us hl => match us, hl with | [_, _, _], _ => rfl⟩
  have tk : Takes (cxOf (L2.CX P w) P w K mg base ["_law_state", "_law_many", "_law_wide", "_law_got", "_law_last", "_law_k"] "_law_stair_drawn" sc__law_stair_drawn f cdv A outer s H E) (wOf E) := takes_of rfl rfl rfl rfl
  exact (trs_cons (tr_ownPar (by decide) (ps_par rfl sc.nd rfl rfl (by decide) rfl rfl (pa_cons (pe_lst pa_nil) (tra_cons tr_int tra_nil)) (by rfl))) (trs_cons (tr_for (passes_of rfl) rfl (tri_rng1 rfl m_range (tra_cons (tr_var 1) tra_nil)) (trg_name sc.nd rfl (.inl rfl)) (trs_cons (tr_set (i := 4) sc.nd rfl (.inl rfl) (tr_op op_addW sem_add (tr_var 4) (tr_op op_mulW sem_mul (tr_callG h__law_draw hgd (hr.mono (by decide)) tk rfl (tra_cons (tr_var 0) (tra_cons (tr_var 2) tra_nil))) (tr_callTy call_int1 sem_int1 rfl m_int bo_int (tra_cons (tr_cmp op_gt sem_gt (tr_callG h__law_draw hgd (hr.mono (by decide)) tk rfl (tra_cons (tr_var 0) (tra_cons tr_int tra_nil))) tr_int (nomark _)) tra_nil))))) (trs_one (tr_app (pv 3) (tra_cons (tr_var 4) tra_nil))))) (trs_one (tr_frz 3 (tr_ret (tr_callTy call_tuple_of sem_tupOf rfl m_tuple bo_tuple (tra_cons (tr_var 3) tra_nil)))))))
theorem lam__law_doors_0 {f : Addr} {fd : FuncData} (F : FnP K "_law_doors" (top 63) sc__law_doors f fd) (ga : f = He.ga K "_law_doors") (om : noObj K = true) (h_need_stair : FnGs P w K mg base 4 "need_stair" ["thing"] F_need_stair) : LamOk P w K mg base 4 "_law_doors" [0, 0, 0] L__law_doors_0 := by
  refine ⟨lamGet (defBody (top 63)) [0, 0, 0], ["_law_odd"], B__law_doors_0, lamK_of F ga (by kernel_rfl), lmC_by (by kernel_rfl), rfl, fun Γ A outer s H E f c' cl hgd hr => ?_⟩
  exact (tr_callG h_need_stair hgd (hr.mono (by decide)) (takes_of rfl rfl rfl rfl) rfl (tra_cons (tr_var 0) tra_nil))
theorem lam__law_doors_1 {f : Addr} {fd : FuncData} (F : FnP K "_law_doors" (top 63) sc__law_doors f fd) (ga : f = He.ga K "_law_doors") (om : noObj K = true) (h_raised : FnGs P w K mg base 6 "raised" ["stair", "k", "x"] F_raised) : LamOk P w K mg base 6 "_law_doors" [0, 0, 1] L__law_doors_1 := by
  refine ⟨lamGet (defBody (top 63)) [0, 0, 1], ["_law_odd"], B__law_doors_1, lamK_of F ga (by kernel_rfl), lmC_by (by kernel_rfl), rfl, fun Γ A outer s H E f c' cl hgd hr => ?_⟩
  exact (tr_callG h_raised hgd (hr.mono (by decide)) (takes_of rfl rfl rfl rfl) rfl (tra_cons (tr_var 0) (tra_cons tr_non (tra_cons tr_non tra_nil))))
theorem lam__law_doors_2 {f : Addr} {fd : FuncData} (F : FnP K "_law_doors" (top 63) sc__law_doors f fd) (ga : f = He.ga K "_law_doors") (om : noObj K = true) (h_lowered : FnGs P w K mg base 6 "lowered" ["stair", "k", "x"] F_lowered) : LamOk P w K mg base 6 "_law_doors" [0, 0, 2] L__law_doors_2 := by
  refine ⟨lamGet (defBody (top 63)) [0, 0, 2], ["_law_odd"], B__law_doors_2, lamK_of F ga (by kernel_rfl), lmC_by (by kernel_rfl), rfl, fun Γ A outer s H E f c' cl hgd hr => ?_⟩
  exact (tr_callG h_lowered hgd (hr.mono (by decide)) (takes_of rfl rfl rfl rfl) rfl (tra_cons (tr_var 0) (tra_cons tr_non (tra_cons tr_non tra_nil))))
theorem lam__law_doors_3 {f : Addr} {fd : FuncData} (F : FnP K "_law_doors" (top 63) sc__law_doors f fd) (ga : f = He.ga K "_law_doors") (om : noObj K = true) (h_is_under_stairs : FnGs P w K mg base 6 "is_under_stairs" ["one", "other"] F_is_under_stairs) : LamOk P w K mg base 6 "_law_doors" [0, 1, 1, 0] L__law_doors_3 := by
  refine ⟨lamGet (defBody (top 63)) [0, 1, 1, 0], ["_law_odd"], B__law_doors_3, lamK_of F ga (by kernel_rfl), lmC_by (by kernel_rfl), rfl, fun Γ A outer s H E f c' cl hgd hr => ?_⟩
  exact (tr_callG h_is_under_stairs hgd (hr.mono (by decide)) (takes_of rfl rfl rfl rfl) rfl (tra_cons (tr_var 0) (tra_cons tr_non tra_nil)))
theorem lam__law_doors_4 {f : Addr} {fd : FuncData} (F : FnP K "_law_doors" (top 63) sc__law_doors f fd) (ga : f = He.ga K "_law_doors") (om : noObj K = true) (h_both : FnGs P w K mg base 6 "both" ["one", "other"] F_both) : LamOk P w K mg base 6 "_law_doors" [0, 1, 1, 1] L__law_doors_4 := by
  refine ⟨lamGet (defBody (top 63)) [0, 1, 1, 1], ["_law_odd"], B__law_doors_4, lamK_of F ga (by kernel_rfl), lmC_by (by kernel_rfl), rfl, fun Γ A outer s H E f c' cl hgd hr => ?_⟩
  exact (tr_callG h_both hgd (hr.mono (by decide)) (takes_of rfl rfl rfl rfl) rfl (tra_cons (tr_var 0) (tra_cons tr_non tra_nil)))
theorem lam__law_doors_5 {f : Addr} {fd : FuncData} (F : FnP K "_law_doors" (top 63) sc__law_doors f fd) (ga : f = He.ga K "_law_doors") (om : noObj K = true) (h_meet : FnGs P w K mg base 6 "meet" ["one", "other"] F_meet) : LamOk P w K mg base 6 "_law_doors" [0, 1, 1, 2] L__law_doors_5 := by
  refine ⟨lamGet (defBody (top 63)) [0, 1, 1, 2], ["_law_odd"], B__law_doors_5, lamK_of F ga (by kernel_rfl), lmC_by (by kernel_rfl), rfl, fun Γ A outer s H E f c' cl hgd hr => ?_⟩
  exact (tr_callG h_meet hgd (hr.mono (by decide)) (takes_of rfl rfl rfl rfl) rfl (tra_cons (tr_var 0) (tra_cons tr_non tra_nil)))
theorem lam__law_doors_6 {f : Addr} {fd : FuncData} (F : FnP K "_law_doors" (top 63) sc__law_doors f fd) (ga : f = He.ga K "_law_doors") (om : noObj K = true) (h_join : FnGs P w K mg base 6 "join" ["one", "other"] F_join) : LamOk P w K mg base 6 "_law_doors" [0, 2, 1, 0] L__law_doors_6 := by
  refine ⟨lamGet (defBody (top 63)) [0, 2, 1, 0], ["_law_odd"], B__law_doors_6, lamK_of F ga (by kernel_rfl), lmC_by (by kernel_rfl), rfl, fun Γ A outer s H E f c' cl hgd hr => ?_⟩
  exact (tr_callG h_join hgd (hr.mono (by decide)) (takes_of rfl rfl rfl rfl) rfl (tra_cons (tr_var 0) (tra_cons tr_non tra_nil)))
theorem lam__law_doors_7 {f : Addr} {fd : FuncData} (F : FnP K "_law_doors" (top 63) sc__law_doors f fd) (ga : f = He.ga K "_law_doors") (om : noObj K = true) (h_fewer : FnGs P w K mg base 5 "fewer" ["stair", "many"] F_fewer) : LamOk P w K mg base 5 "_law_doors" [0, 2, 1, 1] L__law_doors_7 := by
  refine ⟨lamGet (defBody (top 63)) [0, 2, 1, 1], ["_law_odd"], B__law_doors_7, lamK_of F ga (by kernel_rfl), lmC_by (by kernel_rfl), rfl, fun Γ A outer s H E f c' cl hgd hr => ?_⟩
  exact (tr_callG h_fewer hgd (hr.mono (by decide)) (takes_of rfl rfl rfl rfl) rfl (tra_cons (tr_var 0) (tra_cons tr_non tra_nil)))
theorem lam__law_doors_8 {f : Addr} {fd : FuncData} (F : FnP K "_law_doors" (top 63) sc__law_doors f fd) (ga : f = He.ga K "_law_doors") (om : noObj K = true) (h_more : FnGs P w K mg base 5 "more" ["stair", "many"] F_more) : LamOk P w K mg base 5 "_law_doors" [0, 2, 1, 2] L__law_doors_8 := by
  refine ⟨lamGet (defBody (top 63)) [0, 2, 1, 2], ["_law_odd"], B__law_doors_8, lamK_of F ga (by kernel_rfl), lmC_by (by kernel_rfl), rfl, fun Γ A outer s H E f c' cl hgd hr => ?_⟩
  exact (tr_callG h_more hgd (hr.mono (by decide)) (takes_of rfl rfl rfl rfl) rfl (tra_cons (tr_var 0) (tra_cons tr_non tra_nil)))
theorem lam__law_doors_9 {f : Addr} {fd : FuncData} (F : FnP K "_law_doors" (top 63) sc__law_doors f fd) (ga : f = He.ga K "_law_doors") (om : noObj K = true) (h_is_had : FnGs P w K mg base 7 "is_had" ["stair", "length"] F_is_had) : LamOk P w K mg base 7 "_law_doors" [0, 3, 1, 0] L__law_doors_9 := by
  refine ⟨lamGet (defBody (top 63)) [0, 3, 1, 0], ["_law_odd"], B__law_doors_9, lamK_of F ga (by kernel_rfl), lmC_by (by kernel_rfl), rfl, fun Γ A outer s H E f c' cl hgd hr => ?_⟩
  exact (tr_callG h_is_had hgd (hr.mono (by decide)) (takes_of rfl rfl rfl rfl) rfl (tra_cons (tr_var 0) (tra_cons tr_non tra_nil)))
theorem lam__law_doors_10 {f : Addr} {fd : FuncData} (F : FnP K "_law_doors" (top 63) sc__law_doors f fd) (ga : f = He.ga K "_law_doors") (om : noObj K = true) (h_over_by : FnGs P w K mg base 6 "over_by" ["stair", "length"] F_over_by) : LamOk P w K mg base 6 "_law_doors" [0, 3, 1, 1] L__law_doors_10 := by
  refine ⟨lamGet (defBody (top 63)) [0, 3, 1, 1], ["_law_odd"], B__law_doors_10, lamK_of F ga (by kernel_rfl), lmC_by (by kernel_rfl), rfl, fun Γ A outer s H E f c' cl hgd hr => ?_⟩
  exact (tr_callG h_over_by hgd (hr.mono (by decide)) (takes_of rfl rfl rfl rfl) rfl (tra_cons (tr_var 0) (tra_cons tr_non tra_nil)))
theorem lam__law_doors_11 {f : Addr} {fd : FuncData} (F : FnP K "_law_doors" (top 63) sc__law_doors f fd) (ga : f = He.ga K "_law_doors") (om : noObj K = true) (h_greatest_at : FnGs P w K mg base 8 "greatest_at" ["stair", "k", "length"] F_greatest_at) : LamOk P w K mg base 8 "_law_doors" [0, 4, 1, 0] L__law_doors_11 := by
  refine ⟨lamGet (defBody (top 63)) [0, 4, 1, 0], ["_law_odd"], B__law_doors_11, lamK_of F ga (by kernel_rfl), lmC_by (by kernel_rfl), rfl, fun Γ A outer s H E f c' cl hgd hr => ?_⟩
  exact (tr_callG h_greatest_at hgd (hr.mono (by decide)) (takes_of rfl rfl rfl rfl) rfl (tra_cons (tr_var 0) (tra_cons tr_non (tra_cons tr_non tra_nil))))
theorem lam__law_pairs_0 {f : Addr} {fd : FuncData} (F : FnP K "_law_pairs" (top 64) sc__law_pairs f fd) (ga : f = He.ga K "_law_pairs") (om : noObj K = true) (h_is_under_stairs : FnGs P w K mg base 6 "is_under_stairs" ["one", "other"] F_is_under_stairs) : LamOk P w K mg base 6 "_law_pairs" [0, 0, 0] L__law_pairs_0 := by
  refine ⟨lamGet (defBody (top 64)) [0, 0, 0], ["_law_one", "_law_odd"], B__law_pairs_0, lamK_of F ga (by kernel_rfl), lmC_by (by kernel_rfl), rfl, fun Γ A outer s H E f c' cl hgd hr => ?_⟩
  exact (tr_callG h_is_under_stairs hgd (hr.mono (by decide)) (takes_of rfl rfl rfl rfl) rfl (tra_cons (tr_var 0) (tra_cons (tr_var 1) tra_nil)))
theorem lam__law_pairs_1 {f : Addr} {fd : FuncData} (F : FnP K "_law_pairs" (top 64) sc__law_pairs f fd) (ga : f = He.ga K "_law_pairs") (om : noObj K = true) (h_both : FnGs P w K mg base 6 "both" ["one", "other"] F_both) : LamOk P w K mg base 6 "_law_pairs" [0, 0, 1] L__law_pairs_1 := by
  refine ⟨lamGet (defBody (top 64)) [0, 0, 1], ["_law_one", "_law_odd"], B__law_pairs_1, lamK_of F ga (by kernel_rfl), lmC_by (by kernel_rfl), rfl, fun Γ A outer s H E f c' cl hgd hr => ?_⟩
  exact (tr_callG h_both hgd (hr.mono (by decide)) (takes_of rfl rfl rfl rfl) rfl (tra_cons (tr_var 0) (tra_cons (tr_var 1) tra_nil)))
theorem lam__law_pairs_2 {f : Addr} {fd : FuncData} (F : FnP K "_law_pairs" (top 64) sc__law_pairs f fd) (ga : f = He.ga K "_law_pairs") (om : noObj K = true) (h_meet : FnGs P w K mg base 6 "meet" ["one", "other"] F_meet) : LamOk P w K mg base 6 "_law_pairs" [0, 0, 2] L__law_pairs_2 := by
  refine ⟨lamGet (defBody (top 64)) [0, 0, 2], ["_law_one", "_law_odd"], B__law_pairs_2, lamK_of F ga (by kernel_rfl), lmC_by (by kernel_rfl), rfl, fun Γ A outer s H E f c' cl hgd hr => ?_⟩
  exact (tr_callG h_meet hgd (hr.mono (by decide)) (takes_of rfl rfl rfl rfl) rfl (tra_cons (tr_var 0) (tra_cons (tr_var 1) tra_nil)))
theorem lam__law_pairs_3 {f : Addr} {fd : FuncData} (F : FnP K "_law_pairs" (top 64) sc__law_pairs f fd) (ga : f = He.ga K "_law_pairs") (om : noObj K = true) (h_join : FnGs P w K mg base 6 "join" ["one", "other"] F_join) : LamOk P w K mg base 6 "_law_pairs" [0, 1, 1, 0] L__law_pairs_3 := by
  refine ⟨lamGet (defBody (top 64)) [0, 1, 1, 0], ["_law_one", "_law_odd"], B__law_pairs_3, lamK_of F ga (by kernel_rfl), lmC_by (by kernel_rfl), rfl, fun Γ A outer s H E f c' cl hgd hr => ?_⟩
  exact (tr_callG h_join hgd (hr.mono (by decide)) (takes_of rfl rfl rfl rfl) rfl (tra_cons (tr_var 0) (tra_cons (tr_var 1) tra_nil)))
theorem lam__law_numbers_right_0 {f : Addr} {fd : FuncData} (F : FnP K "_law_numbers_right" (top 66) sc__law_numbers_right f fd) (ga : f = He.ga K "_law_numbers_right") (om : noObj K = true) (h_raised : FnGs P w K mg base 6 "raised" ["stair", "k", "x"] F_raised) : LamOk P w K mg base 6 "_law_numbers_right" [1, 1, 0, 0, 0, 0] L__law_numbers_right_0 := by
  refine ⟨lamGet (defBody (top 66)) [1, 1, 0, 0, 0, 0], ["_law_one", "_law_odd"], B__law_numbers_right_0, lamK_of F ga (by kernel_rfl), lmC_by (by kernel_rfl), rfl, fun Γ A outer s H E f c' cl hgd hr => ?_⟩
  exact (tr_callG h_raised hgd (hr.mono (by decide)) (takes_of rfl rfl rfl rfl) rfl (tra_cons (tr_var 0) (tra_cons (tr_var 1) (tra_cons tr_non tra_nil))))
theorem lam__law_numbers_right_1 {f : Addr} {fd : FuncData} (F : FnP K "_law_numbers_right" (top 66) sc__law_numbers_right f fd) (ga : f = He.ga K "_law_numbers_right") (om : noObj K = true) (h_lowered : FnGs P w K mg base 6 "lowered" ["stair", "k", "x"] F_lowered) : LamOk P w K mg base 6 "_law_numbers_right" [1, 1, 0, 0, 0, 1] L__law_numbers_right_1 := by
  refine ⟨lamGet (defBody (top 66)) [1, 1, 0, 0, 0, 1], ["_law_one", "_law_odd"], B__law_numbers_right_1, lamK_of F ga (by kernel_rfl), lmC_by (by kernel_rfl), rfl, fun Γ A outer s H E f c' cl hgd hr => ?_⟩
  exact (tr_callG h_lowered hgd (hr.mono (by decide)) (takes_of rfl rfl rfl rfl) rfl (tra_cons (tr_var 0) (tra_cons (tr_var 1) (tra_cons tr_non tra_nil))))
theorem lam__law_numbers_right_2 {f : Addr} {fd : FuncData} (F : FnP K "_law_numbers_right" (top 66) sc__law_numbers_right f fd) (ga : f = He.ga K "_law_numbers_right") (om : noObj K = true) (h_greatest_at : FnGs P w K mg base 8 "greatest_at" ["stair", "k", "length"] F_greatest_at) : LamOk P w K mg base 8 "_law_numbers_right" [1, 1, 0, 0, 1, 1, 0] L__law_numbers_right_2 := by
  refine ⟨lamGet (defBody (top 66)) [1, 1, 0, 0, 1, 1, 0], ["_law_one", "_law_odd"], B__law_numbers_right_2, lamK_of F ga (by kernel_rfl), lmC_by (by kernel_rfl), rfl, fun Γ A outer s H E f c' cl hgd hr => ?_⟩
  exact (tr_callG h_greatest_at hgd (hr.mono (by decide)) (takes_of rfl rfl rfl rfl) rfl (tra_cons (tr_var 0) (tra_cons (tr_var 1) (tra_cons tr_non tra_nil))))
theorem lam__law_numbers_right_3 {f : Addr} {fd : FuncData} (F : FnP K "_law_numbers_right" (top 66) sc__law_numbers_right f fd) (ga : f = He.ga K "_law_numbers_right") (om : noObj K = true) (h_fewer : FnGs P w K mg base 5 "fewer" ["stair", "many"] F_fewer) : LamOk P w K mg base 5 "_law_numbers_right" [1, 1, 0, 0, 1, 1, 1] L__law_numbers_right_3 := by
  refine ⟨lamGet (defBody (top 66)) [1, 1, 0, 0, 1, 1, 1], ["_law_one", "_law_odd"], B__law_numbers_right_3, lamK_of F ga (by kernel_rfl), lmC_by (by kernel_rfl), rfl, fun Γ A outer s H E f c' cl hgd hr => ?_⟩
  exact (tr_callG h_fewer hgd (hr.mono (by decide)) (takes_of rfl rfl rfl rfl) rfl (tra_cons (tr_var 0) (tra_cons (tr_var 1) tra_nil)))
theorem lam__law_numbers_right_4 {f : Addr} {fd : FuncData} (F : FnP K "_law_numbers_right" (top 66) sc__law_numbers_right f fd) (ga : f = He.ga K "_law_numbers_right") (om : noObj K = true) (h_raised : FnGs P w K mg base 6 "raised" ["stair", "k", "x"] F_raised) : LamOk P w K mg base 6 "_law_numbers_right" [1, 2, 0, 0, 0, 0] L__law_numbers_right_4 := by
  refine ⟨lamGet (defBody (top 66)) [1, 2, 0, 0, 0, 0], ["_law_one", "_law_odd"], B__law_numbers_right_4, lamK_of F ga (by kernel_rfl), lmC_by (by kernel_rfl), rfl, fun Γ A outer s H E f c' cl hgd hr => ?_⟩
  exact (tr_callG h_raised hgd (hr.mono (by decide)) (takes_of rfl rfl rfl rfl) rfl (tra_cons (tr_var 0) (tra_cons tr_int (tra_cons (tr_var 1) tra_nil))))
theorem lam__law_numbers_right_5 {f : Addr} {fd : FuncData} (F : FnP K "_law_numbers_right" (top 66) sc__law_numbers_right f fd) (ga : f = He.ga K "_law_numbers_right") (om : noObj K = true) (h_lowered : FnGs P w K mg base 6 "lowered" ["stair", "k", "x"] F_lowered) : LamOk P w K mg base 6 "_law_numbers_right" [1, 2, 0, 0, 0, 1] L__law_numbers_right_5 := by
  refine ⟨lamGet (defBody (top 66)) [1, 2, 0, 0, 0, 1], ["_law_size", "_law_one", "_law_odd"], B__law_numbers_right_5, lamK_of F ga (by kernel_rfl), lmC_by (by kernel_rfl), rfl, fun Γ A outer s H E f c' cl hgd hr => ?_⟩
  exact (tr_callG h_lowered hgd (hr.mono (by decide)) (takes_of rfl rfl rfl rfl) rfl (tra_cons (tr_var 1) (tra_cons (tr_var 0) (tra_cons (tr_var 2) tra_nil))))
theorem lam__law_numbers_right_6 {f : Addr} {fd : FuncData} (F : FnP K "_law_numbers_right" (top 66) sc__law_numbers_right f fd) (ga : f = He.ga K "_law_numbers_right") (om : noObj K = true) (h_more : FnGs P w K mg base 5 "more" ["stair", "many"] F_more) : LamOk P w K mg base 5 "_law_numbers_right" [1, 3, 0, 0, 0, 0, 0, 0] L__law_numbers_right_6 := by
  refine ⟨lamGet (defBody (top 66)) [1, 3, 0, 0, 0, 0, 0, 0], ["_law_one", "_law_odd"], B__law_numbers_right_6, lamK_of F ga (by kernel_rfl), lmC_by (by kernel_rfl), rfl, fun Γ A outer s H E f c' cl hgd hr => ?_⟩
  exact (tr_callG h_more hgd (hr.mono (by decide)) (takes_of rfl rfl rfl rfl) rfl (tra_cons (tr_var 0) (tra_cons (tr_var 1) tra_nil)))
theorem lam__law_numbers_right_7 {f : Addr} {fd : FuncData} (F : FnP K "_law_numbers_right" (top 66) sc__law_numbers_right f fd) (ga : f = He.ga K "_law_numbers_right") (om : noObj K = true) (h_costs_of : FnGs P w K mg base 4 "costs_of" ["many"] F_costs_of) : LamOk P w K mg base 4 "_law_numbers_right" [1, 4, 0, 0, 0, 0] L__law_numbers_right_7 := by
  refine ⟨lamGet (defBody (top 66)) [1, 4, 0, 0, 0, 0], ["_law_odd"], B__law_numbers_right_7, lamK_of F ga (by kernel_rfl), lmC_by (by kernel_rfl), rfl, fun Γ A outer s H E f c' cl hgd hr => ?_⟩
  exact (tr_callG h_costs_of hgd (hr.mono (by decide)) (takes_of rfl rfl rfl rfl) rfl (tra_cons (tr_var 0) tra_nil))
theorem lam__law_numbers_right_8 {f : Addr} {fd : FuncData} (F : FnP K "_law_numbers_right" (top 66) sc__law_numbers_right f fd) (ga : f = He.ga K "_law_numbers_right") (om : noObj K = true) (h_least_stair : FnGs P w K mg base 4 "least_stair" ["many", "wishes"] F_least_stair) : LamOk P w K mg base 4 "_law_numbers_right" [1, 4, 0, 0, 0, 1] L__law_numbers_right_8 := by
  refine ⟨lamGet (defBody (top 66)) [1, 4, 0, 0, 0, 1], ["_law_odd"], B__law_numbers_right_8, lamK_of F ga (by kernel_rfl), lmC_by (by kernel_rfl), rfl, fun Γ A outer s H E f c' cl hgd hr => ?_⟩
  exact (tr_callG h_least_stair hgd (hr.mono (by decide)) (takes_of rfl rfl rfl rfl) rfl (tra_cons (tr_var 0) (tra_cons tr_non tra_nil)))
theorem lam__law_rest_right_0 {f : Addr} {fd : FuncData} (F : FnP K "_law_rest_right" (top 67) sc__law_rest_right f fd) (ga : f = He.ga K "_law_rest_right") (om : noObj K = true) (h_is_had : FnGs P w K mg base 7 "is_had" ["stair", "length"] F_is_had) : LamOk P w K mg base 7 "_law_rest_right" [1, 1, 0, 0, 0, 0] L__law_rest_right_0 := by
  refine ⟨lamGet (defBody (top 67)) [1, 1, 0, 0, 0, 0], ["_law_one", "_law_odd"], B__law_rest_right_0, lamK_of F ga (by kernel_rfl), lmC_by (by kernel_rfl), rfl, fun Γ A outer s H E f c' cl hgd hr => ?_⟩
  exact (tr_callG h_is_had hgd (hr.mono (by decide)) (takes_of rfl rfl rfl rfl) rfl (tra_cons (tr_var 0) (tra_cons (tr_var 1) tra_nil)))
theorem lam__law_rest_right_1 {f : Addr} {fd : FuncData} (F : FnP K "_law_rest_right" (top 67) sc__law_rest_right f fd) (ga : f = He.ga K "_law_rest_right") (om : noObj K = true) (h_over_by : FnGs P w K mg base 6 "over_by" ["stair", "length"] F_over_by) : LamOk P w K mg base 6 "_law_rest_right" [1, 1, 0, 0, 0, 1] L__law_rest_right_1 := by
  refine ⟨lamGet (defBody (top 67)) [1, 1, 0, 0, 0, 1], ["_law_one", "_law_odd"], B__law_rest_right_1, lamK_of F ga (by kernel_rfl), lmC_by (by kernel_rfl), rfl, fun Γ A outer s H E f c' cl hgd hr => ?_⟩
  exact (tr_callG h_over_by hgd (hr.mono (by decide)) (takes_of rfl rfl rfl rfl) rfl (tra_cons (tr_var 0) (tra_cons (tr_var 1) tra_nil)))
theorem lam__law_rest_right_2 {f : Addr} {fd : FuncData} (F : FnP K "_law_rest_right" (top 67) sc__law_rest_right f fd) (ga : f = He.ga K "_law_rest_right") (om : noObj K = true) (h_greatest_at : FnGs P w K mg base 8 "greatest_at" ["stair", "k", "length"] F_greatest_at) : LamOk P w K mg base 8 "_law_rest_right" [1, 1, 0, 0, 0, 2] L__law_rest_right_2 := by
  refine ⟨lamGet (defBody (top 67)) [1, 1, 0, 0, 0, 2], ["_law_one", "_law_odd"], B__law_rest_right_2, lamK_of F ga (by kernel_rfl), lmC_by (by kernel_rfl), rfl, fun Γ A outer s H E f c' cl hgd hr => ?_⟩
  exact (tr_callG h_greatest_at hgd (hr.mono (by decide)) (takes_of rfl rfl rfl rfl) rfl (tra_cons (tr_var 0) (tra_cons tr_int (tra_cons (tr_var 1) tra_nil))))
theorem lam__law_rest_right_3 {f : Addr} {fd : FuncData} (F : FnP K "_law_rest_right" (top 67) sc__law_rest_right f fd) (ga : f = He.ga K "_law_rest_right") (om : noObj K = true) (h_least_stair : FnGs P w K mg base 4 "least_stair" ["many", "wishes"] F_least_stair) : LamOk P w K mg base 4 "_law_rest_right" [1, 5, 0, 0, 0, 0, 0, 0] L__law_rest_right_3 := by
  refine ⟨lamGet (defBody (top 67)) [1, 5, 0, 0, 0, 0, 0, 0], ["_law_size", "_law_odd"], B__law_rest_right_3, lamK_of F ga (by kernel_rfl), lmC_by (by kernel_rfl), rfl, fun Γ A outer s H E f c' cl hgd hr => ?_⟩
  exact (tr_callG h_least_stair hgd (hr.mono (by decide)) (takes_of rfl rfl rfl rfl) rfl (tra_cons (tr_var 0) (tra_cons (tr_var 1) tra_nil)))
theorem ok__law_heard {f : Addr} {fd : FuncData} (F : FnP K "_law_heard" (top 59) sc__law_heard f fd) (gl : mg "_law_heard" = some (.ref f)) (lo : LamsOk P w K mg base 8 lamR) (om : noObj K = true) (k_TooMany : KxC K (He.ga K (xName 25))) (k_BadWishes : KxC K (He.ga K (xName 21))) (k_BadLength : KxC K (He.ga K (xName 20))) (k_BadStair : KxC K (He.ga K (xName 9))) (k_BadLaying : KxC K (He.ga K (xName 6))) (k_BadNumber : KxC K (He.ga K (xName 3))) (i_TooMany_BadStair : PySem.W.kitOne K (.ref (He.ga K (xName 25))) (.ref (He.ga K "BadStair")) = some false) (i_BadWishes_BadStair : PySem.W.kitOne K (.ref (He.ga K (xName 21))) (.ref (He.ga K "BadStair")) = some false) (i_BadLength_BadStair : PySem.W.kitOne K (.ref (He.ga K (xName 20))) (.ref (He.ga K "BadStair")) = some false) (i_BadStair_BadStair : PySem.W.kitOne K (.ref (He.ga K (xName 9))) (.ref (He.ga K "BadStair")) = some true) (i_BadLaying_BadStair : PySem.W.kitOne K (.ref (He.ga K (xName 6))) (.ref (He.ga K "BadStair")) = some false) (i_BadNumber_BadStair : PySem.W.kitOne K (.ref (He.ga K (xName 3))) (.ref (He.ga K "BadStair")) = some false) (i_TooMany_BadNumber : PySem.W.kitOne K (.ref (He.ga K (xName 25))) (.ref (He.ga K "BadNumber")) = some false) (i_BadWishes_BadNumber : PySem.W.kitOne K (.ref (He.ga K (xName 21))) (.ref (He.ga K "BadNumber")) = some false) (i_BadLength_BadNumber : PySem.W.kitOne K (.ref (He.ga K (xName 20))) (.ref (He.ga K "BadNumber")) = some false) (i_BadStair_BadNumber : PySem.W.kitOne K (.ref (He.ga K (xName 9))) (.ref (He.ga K "BadNumber")) = some false) (i_BadLaying_BadNumber : PySem.W.kitOne K (.ref (He.ga K (xName 6))) (.ref (He.ga K "BadNumber")) = some false) (i_BadNumber_BadNumber : PySem.W.kitOne K (.ref (He.ga K (xName 3))) (.ref (He.ga K "BadNumber")) = some true) (i_TooMany_BadLength : PySem.W.kitOne K (.ref (He.ga K (xName 25))) (.ref (He.ga K "BadLength")) = some false) (i_BadWishes_BadLength : PySem.W.kitOne K (.ref (He.ga K (xName 21))) (.ref (He.ga K "BadLength")) = some false) (i_BadLength_BadLength : PySem.W.kitOne K (.ref (He.ga K (xName 20))) (.ref (He.ga K "BadLength")) = some true) (i_BadStair_BadLength : PySem.W.kitOne K (.ref (He.ga K (xName 9))) (.ref (He.ga K "BadLength")) = some false) (i_BadLaying_BadLength : PySem.W.kitOne K (.ref (He.ga K (xName 6))) (.ref (He.ga K "BadLength")) = some false) (i_BadNumber_BadLength : PySem.W.kitOne K (.ref (He.ga K (xName 3))) (.ref (He.ga K "BadLength")) = some false) (i_TooMany_BadWishes : PySem.W.kitOne K (.ref (He.ga K (xName 25))) (.ref (He.ga K "BadWishes")) = some false) (i_BadWishes_BadWishes : PySem.W.kitOne K (.ref (He.ga K (xName 21))) (.ref (He.ga K "BadWishes")) = some true) (i_BadLength_BadWishes : PySem.W.kitOne K (.ref (He.ga K (xName 20))) (.ref (He.ga K "BadWishes")) = some false) (i_BadStair_BadWishes : PySem.W.kitOne K (.ref (He.ga K (xName 9))) (.ref (He.ga K "BadWishes")) = some false) (i_BadLaying_BadWishes : PySem.W.kitOne K (.ref (He.ga K (xName 6))) (.ref (He.ga K "BadWishes")) = some false) (i_BadNumber_BadWishes : PySem.W.kitOne K (.ref (He.ga K (xName 3))) (.ref (He.ga K "BadWishes")) = some false) (i_TooMany_BadLaying : PySem.W.kitOne K (.ref (He.ga K (xName 25))) (.ref (He.ga K "BadLaying")) = some false) (i_BadWishes_BadLaying : PySem.W.kitOne K (.ref (He.ga K (xName 21))) (.ref (He.ga K "BadLaying")) = some false) (i_BadLength_BadLaying : PySem.W.kitOne K (.ref (He.ga K (xName 20))) (.ref (He.ga K "BadLaying")) = some false) (i_BadStair_BadLaying : PySem.W.kitOne K (.ref (He.ga K (xName 9))) (.ref (He.ga K "BadLaying")) = some false) (i_BadLaying_BadLaying : PySem.W.kitOne K (.ref (He.ga K (xName 6))) (.ref (He.ga K "BadLaying")) = some true) (i_BadNumber_BadLaying : PySem.W.kitOne K (.ref (He.ga K (xName 3))) (.ref (He.ga K "BadLaying")) = some false) (i_TooMany_TooMany : PySem.W.kitOne K (.ref (He.ga K (xName 25))) (.ref (He.ga K "TooMany")) = some true) (i_BadWishes_TooMany : PySem.W.kitOne K (.ref (He.ga K (xName 21))) (.ref (He.ga K "TooMany")) = some false) (i_BadLength_TooMany : PySem.W.kitOne K (.ref (He.ga K (xName 20))) (.ref (He.ga K "TooMany")) = some false) (i_BadStair_TooMany : PySem.W.kitOne K (.ref (He.ga K (xName 9))) (.ref (He.ga K "TooMany")) = some false) (i_BadLaying_TooMany : PySem.W.kitOne K (.ref (He.ga K (xName 6))) (.ref (He.ga K "TooMany")) = some false) (i_BadNumber_TooMany : PySem.W.kitOne K (.ref (He.ga K (xName 3))) (.ref (He.ga K "TooMany")) = some false) (m_isinstance : mg "isinstance" = none) (xb_BadWishes : XB K (xName 21) "given" "ValueError.__new__" tlV) (xb_BadLength : XB K (xName 20) "given" "ValueError.__new__" tlV) (xb_BadStair : XB K (xName 9) "given" "ValueError.__new__" tlV) (xb_BadLaying : XB K (xName 6) "given" "ValueError.__new__" tlV) (xb_BadNumber : XB K (xName 3) "given" "ValueError.__new__" tlV) (xb_TooMany : XB K (xName 25) "most" "OverflowError.__new__" tlO) (g_NestError : mg "NestError" = some (.ref (He.ga K "NestError"))) (g_TooMany : mg "TooMany" = some (.ref (He.ga K "TooMany"))) (g_BadStair : mg "BadStair" = some (.ref (He.ga K "BadStair"))) (g_BadNumber : mg "BadNumber" = some (.ref (He.ga K "BadNumber"))) (g_BadLength : mg "BadLength" = some (.ref (He.ga K "BadLength"))) (g_BadWishes : mg "BadWishes" = some (.ref (He.ga K "BadWishes"))) (g_BadLaying : mg "BadLaying" = some (.ref (He.ga K "BadLaying"))) (e_BadNumber_NestError : PySem.W.exmOne K (.ref (He.ga K (xName 3))) (.ref (He.ga K "NestError")) = some true) (e_BadNumber_TooMany : PySem.W.exmOne K (.ref (He.ga K (xName 3))) (.ref (He.ga K "TooMany")) = some false) (e_BadLaying_NestError : PySem.W.exmOne K (.ref (He.ga K (xName 6))) (.ref (He.ga K "NestError")) = some true) (e_BadLaying_TooMany : PySem.W.exmOne K (.ref (He.ga K (xName 6))) (.ref (He.ga K "TooMany")) = some false) (e_BadStair_NestError : PySem.W.exmOne K (.ref (He.ga K (xName 9))) (.ref (He.ga K "NestError")) = some true) (e_BadStair_TooMany : PySem.W.exmOne K (.ref (He.ga K (xName 9))) (.ref (He.ga K "TooMany")) = some false) (e_BadLength_NestError : PySem.W.exmOne K (.ref (He.ga K (xName 20))) (.ref (He.ga K "NestError")) = some true) (e_BadLength_TooMany : PySem.W.exmOne K (.ref (He.ga K (xName 20))) (.ref (He.ga K "TooMany")) = some false) (e_BadWishes_NestError : PySem.W.exmOne K (.ref (He.ga K (xName 21))) (.ref (He.ga K "NestError")) = some true) (e_BadWishes_TooMany : PySem.W.exmOne K (.ref (He.ga K (xName 21))) (.ref (He.ga K "TooMany")) = some false) (e_TooMany_NestError : PySem.W.exmOne K (.ref (He.ga K (xName 25))) (.ref (He.ga K "NestError")) = some false) (e_TooMany_TooMany : PySem.W.exmOne K (.ref (He.ga K (xName 25))) (.ref (He.ga K "TooMany")) = some true) : FnGs P w K mg base 10 "_law_heard" ["_law_call"] F__law_heard := by
  have sc : FnScope ["_law_call", "_law_found", "_law_caught", "error"] ["_law_call"] sc__law_heard := ⟨rfl, rfl, rfl, by decide +kernel, rfl, by decide +kernel, by decide +kernel⟩
  refine ⟨f, fd, fn_trG (k := 9) F sc (fun Γ cdv A outer s H E hcd hgd hr => ?_), gl, F.kp, F.bindsN fun _ _ _ _ _ _ us hl => match us, hl with | [_], _ => rfl⟩
  have tk : Takes (cxOf (L2.CX P w) P w K mg base ["_law_call", "_law_found", "_law_caught", "error"] "_law_heard" sc__law_heard f cdv A outer s H E) (wOf E) := takes_of rfl rfl rfl rfl
  exact (trs_cons (tr_asg (tr_tup (tra_cons tr_non (tra_cons tr_non tra_nil))) (trg_tup rfl (trgs_cons (trg_name sc.nd rfl (.inl rfl)) (trgs_cons (trg_name sc.nd rfl (.inl rfl)) trgs_nil)))) (trs_cons (tr_tryKA (i := 3) (j := 2) (q := 1) rfl rfl sc.nd rfl rfl rfl rfl rfl (by decide) (tyT_two rfl g_NestError rfl g_TooMany) (allC (p := fun n => PySem.W.exmAny K (.ref (He.ga K (xName n))) [.ref (He.ga K "NestError"), .ref (He.ga K "TooMany")] = some true) (exm_any2 e_BadNumber_NestError e_BadNumber_TooMany rfl) (allC (p := fun n => PySem.W.exmAny K (.ref (He.ga K (xName n))) [.ref (He.ga K "NestError"), .ref (He.ga K "TooMany")] = some true) (exm_any2 e_BadLaying_NestError e_BadLaying_TooMany rfl) (allC (p := fun n => PySem.W.exmAny K (.ref (He.ga K (xName n))) [.ref (He.ga K "NestError"), .ref (He.ga K "TooMany")] = some true) (exm_any2 e_BadStair_NestError e_BadStair_TooMany rfl) (allC (p := fun n => PySem.W.exmAny K (.ref (He.ga K (xName n))) [.ref (He.ga K "NestError"), .ref (He.ga K "TooMany")] = some true) (exm_any2 e_BadLength_NestError e_BadLength_TooMany rfl) (allC (p := fun n => PySem.W.exmAny K (.ref (He.ga K (xName n))) [.ref (He.ga K "NestError"), .ref (He.ga K "TooMany")] = some true) (exm_any2 e_BadWishes_NestError e_BadWishes_TooMany rfl) (allC (p := fun n => PySem.W.exmAny K (.ref (He.ga K (xName n))) [.ref (He.ga K "NestError"), .ref (He.ga K "TooMany")] = some true) (exm_any2 e_TooMany_NestError e_TooMany_TooMany rfl) allN)))))) rfl rfl (fun W pn xe tk => (tr_callV lo hgd (hr.mono (by decide)) tk rfl (by first | exact .inl rfl | exact .inr (.inl rfl))))) (trs_cons (tr_ifs (trb_cmp op_isW sem_is (tr_var 2) tr_non (nomark _)) (trs_one (tr_ret (tr_lst (tra_cons (tr_var 1) tra_nil)))) trs_nil) (trs_cons (tr_ifs (trb_tru (tr_isx (lkX_cons (p := fun n b => IsX K "BadStair" n b) ⟨k_BadNumber, i_BadNumber_BadStair⟩ (lkX_cons (p := fun n b => IsX K "BadStair" n b) ⟨k_BadLaying, i_BadLaying_BadStair⟩ (lkX_cons (p := fun n b => IsX K "BadStair" n b) ⟨k_BadStair, i_BadStair_BadStair⟩ (lkX_cons (p := fun n b => IsX K "BadStair" n b) ⟨k_BadLength, i_BadLength_BadStair⟩ (lkX_cons (p := fun n b => IsX K "BadStair" n b) ⟨k_BadWishes, i_BadWishes_BadStair⟩ (lkX_cons (p := fun n b => IsX K "BadStair" n b) ⟨k_TooMany, i_TooMany_BadStair⟩ lkX_nil)))))) rfl m_isinstance rfl g_BadStair (tr_var 2))) (trs_one (tr_ret (tr_tup (tra_cons (tr_strL (by kernel_rfl)) (tra_cons (tr_xattr (allC (p := fun n => FldX K "given" n) ⟨xb_BadNumber.xf, xb_BadNumber.no, rfl, by decide⟩ (allC (p := fun n => FldX K "given" n) ⟨xb_BadLaying.xf, xb_BadLaying.no, rfl, by decide⟩ (allC (p := fun n => FldX K "given" n) ⟨xb_BadStair.xf, xb_BadStair.no, rfl, by decide⟩ (allC (p := fun n => FldX K "given" n) ⟨xb_BadLength.xf, xb_BadLength.no, rfl, by decide⟩ (allC (p := fun n => FldX K "given" n) ⟨xb_BadWishes.xf, xb_BadWishes.no, rfl, by decide⟩ allN))))) (tr_var 2)) tra_nil))))) trs_nil) (trs_cons (tr_ifs (trb_tru (tr_isx (lkX_cons (p := fun n b => IsX K "BadNumber" n b) ⟨k_BadNumber, i_BadNumber_BadNumber⟩ (lkX_cons (p := fun n b => IsX K "BadNumber" n b) ⟨k_BadLaying, i_BadLaying_BadNumber⟩ (lkX_cons (p := fun n b => IsX K "BadNumber" n b) ⟨k_BadStair, i_BadStair_BadNumber⟩ (lkX_cons (p := fun n b => IsX K "BadNumber" n b) ⟨k_BadLength, i_BadLength_BadNumber⟩ (lkX_cons (p := fun n b => IsX K "BadNumber" n b) ⟨k_BadWishes, i_BadWishes_BadNumber⟩ (lkX_cons (p := fun n b => IsX K "BadNumber" n b) ⟨k_TooMany, i_TooMany_BadNumber⟩ lkX_nil)))))) rfl m_isinstance rfl g_BadNumber (tr_var 2))) (trs_one (tr_ret (tr_tup (tra_cons (tr_strL (by kernel_rfl)) (tra_cons (tr_xattr (allC (p := fun n => FldX K "given" n) ⟨xb_BadNumber.xf, xb_BadNumber.no, rfl, by decide⟩ (allC (p := fun n => FldX K "given" n) ⟨xb_BadLaying.xf, xb_BadLaying.no, rfl, by decide⟩ (allC (p := fun n => FldX K "given" n) ⟨xb_BadStair.xf, xb_BadStair.no, rfl, by decide⟩ (allC (p := fun n => FldX K "given" n) ⟨xb_BadLength.xf, xb_BadLength.no, rfl, by decide⟩ (allC (p := fun n => FldX K "given" n) ⟨xb_BadWishes.xf, xb_BadWishes.no, rfl, by decide⟩ allN))))) (tr_var 2)) tra_nil))))) trs_nil) (trs_cons (tr_ifs (trb_tru (tr_isx (lkX_cons (p := fun n b => IsX K "BadLength" n b) ⟨k_BadNumber, i_BadNumber_BadLength⟩ (lkX_cons (p := fun n b => IsX K "BadLength" n b) ⟨k_BadLaying, i_BadLaying_BadLength⟩ (lkX_cons (p := fun n b => IsX K "BadLength" n b) ⟨k_BadStair, i_BadStair_BadLength⟩ (lkX_cons (p := fun n b => IsX K "BadLength" n b) ⟨k_BadLength, i_BadLength_BadLength⟩ (lkX_cons (p := fun n b => IsX K "BadLength" n b) ⟨k_BadWishes, i_BadWishes_BadLength⟩ (lkX_cons (p := fun n b => IsX K "BadLength" n b) ⟨k_TooMany, i_TooMany_BadLength⟩ lkX_nil)))))) rfl m_isinstance rfl g_BadLength (tr_var 2))) (trs_one (tr_ret (tr_tup (tra_cons (tr_strL (by kernel_rfl)) (tra_cons (tr_xattr (allC (p := fun n => FldX K "given" n) ⟨xb_BadNumber.xf, xb_BadNumber.no, rfl, by decide⟩ (allC (p := fun n => FldX K "given" n) ⟨xb_BadLaying.xf, xb_BadLaying.no, rfl, by decide⟩ (allC (p := fun n => FldX K "given" n) ⟨xb_BadStair.xf, xb_BadStair.no, rfl, by decide⟩ (allC (p := fun n => FldX K "given" n) ⟨xb_BadLength.xf, xb_BadLength.no, rfl, by decide⟩ (allC (p := fun n => FldX K "given" n) ⟨xb_BadWishes.xf, xb_BadWishes.no, rfl, by decide⟩ allN))))) (tr_var 2)) tra_nil))))) trs_nil) (trs_cons (tr_ifs (trb_tru (tr_isx (lkX_cons (p := fun n b => IsX K "BadWishes" n b) ⟨k_BadNumber, i_BadNumber_BadWishes⟩ (lkX_cons (p := fun n b => IsX K "BadWishes" n b) ⟨k_BadLaying, i_BadLaying_BadWishes⟩ (lkX_cons (p := fun n b => IsX K "BadWishes" n b) ⟨k_BadStair, i_BadStair_BadWishes⟩ (lkX_cons (p := fun n b => IsX K "BadWishes" n b) ⟨k_BadLength, i_BadLength_BadWishes⟩ (lkX_cons (p := fun n b => IsX K "BadWishes" n b) ⟨k_BadWishes, i_BadWishes_BadWishes⟩ (lkX_cons (p := fun n b => IsX K "BadWishes" n b) ⟨k_TooMany, i_TooMany_BadWishes⟩ lkX_nil)))))) rfl m_isinstance rfl g_BadWishes (tr_var 2))) (trs_one (tr_ret (tr_tup (tra_cons (tr_strL (by kernel_rfl)) (tra_cons (tr_xattr (allC (p := fun n => FldX K "given" n) ⟨xb_BadNumber.xf, xb_BadNumber.no, rfl, by decide⟩ (allC (p := fun n => FldX K "given" n) ⟨xb_BadLaying.xf, xb_BadLaying.no, rfl, by decide⟩ (allC (p := fun n => FldX K "given" n) ⟨xb_BadStair.xf, xb_BadStair.no, rfl, by decide⟩ (allC (p := fun n => FldX K "given" n) ⟨xb_BadLength.xf, xb_BadLength.no, rfl, by decide⟩ (allC (p := fun n => FldX K "given" n) ⟨xb_BadWishes.xf, xb_BadWishes.no, rfl, by decide⟩ allN))))) (tr_var 2)) tra_nil))))) trs_nil) (trs_cons (tr_ifs (trb_tru (tr_isx (lkX_cons (p := fun n b => IsX K "BadLaying" n b) ⟨k_BadNumber, i_BadNumber_BadLaying⟩ (lkX_cons (p := fun n b => IsX K "BadLaying" n b) ⟨k_BadLaying, i_BadLaying_BadLaying⟩ (lkX_cons (p := fun n b => IsX K "BadLaying" n b) ⟨k_BadStair, i_BadStair_BadLaying⟩ (lkX_cons (p := fun n b => IsX K "BadLaying" n b) ⟨k_BadLength, i_BadLength_BadLaying⟩ (lkX_cons (p := fun n b => IsX K "BadLaying" n b) ⟨k_BadWishes, i_BadWishes_BadLaying⟩ (lkX_cons (p := fun n b => IsX K "BadLaying" n b) ⟨k_TooMany, i_TooMany_BadLaying⟩ lkX_nil)))))) rfl m_isinstance rfl g_BadLaying (tr_var 2))) (trs_one (tr_ret (tr_tup (tra_cons (tr_strL (by kernel_rfl)) (tra_cons (tr_xattr (allC (p := fun n => FldX K "given" n) ⟨xb_BadNumber.xf, xb_BadNumber.no, rfl, by decide⟩ (allC (p := fun n => FldX K "given" n) ⟨xb_BadLaying.xf, xb_BadLaying.no, rfl, by decide⟩ (allC (p := fun n => FldX K "given" n) ⟨xb_BadStair.xf, xb_BadStair.no, rfl, by decide⟩ (allC (p := fun n => FldX K "given" n) ⟨xb_BadLength.xf, xb_BadLength.no, rfl, by decide⟩ (allC (p := fun n => FldX K "given" n) ⟨xb_BadWishes.xf, xb_BadWishes.no, rfl, by decide⟩ allN))))) (tr_var 2)) tra_nil))))) trs_nil) (trs_one (tr_ret (tr_if (trb_tru (tr_isx (lkX_cons (p := fun n b => IsX K "TooMany" n b) ⟨k_BadNumber, i_BadNumber_TooMany⟩ (lkX_cons (p := fun n b => IsX K "TooMany" n b) ⟨k_BadLaying, i_BadLaying_TooMany⟩ (lkX_cons (p := fun n b => IsX K "TooMany" n b) ⟨k_BadStair, i_BadStair_TooMany⟩ (lkX_cons (p := fun n b => IsX K "TooMany" n b) ⟨k_BadLength, i_BadLength_TooMany⟩ (lkX_cons (p := fun n b => IsX K "TooMany" n b) ⟨k_BadWishes, i_BadWishes_TooMany⟩ (lkX_cons (p := fun n b => IsX K "TooMany" n b) ⟨k_TooMany, i_TooMany_TooMany⟩ lkX_nil)))))) rfl m_isinstance rfl g_TooMany (tr_var 2))) (tr_tup (tra_cons (tr_strL (by kernel_rfl)) (tra_cons (tr_xattr (allC (p := fun n => FldX K "most" n) ⟨xb_TooMany.xf, xb_TooMany.no, rfl, by decide⟩ allN) (tr_var 2)) tra_nil))) (tr_tup (tra_cons (tr_strL (by kernel_rfl)) tra_nil)))))))))))))
theorem ok__law_refuse {f : Addr} {fd : FuncData} (F : FnP K "_law_refuse" (top 60) sc__law_refuse f fd) (gl : mg "_law_refuse" = some (.ref f)) (om : noObj K = true) (sy : sysB K = true) (m_repr : mg "repr" = none) (h__law_heard : FnGs P w K mg base 10 "_law_heard" ["_law_call"] F__law_heard) : FnGs P w K mg base 11 "_law_refuse" ["_law_calls", "_law_due", "_law_passed"] F__law_refuse := by
  have sc : FnScope ["_law_calls", "_law_due", "_law_passed", "_law_kept", "_law_call"] ["_law_calls", "_law_due", "_law_passed"] sc__law_refuse := ⟨rfl, rfl, rfl, by decide +kernel, rfl, by decide +kernel, by decide +kernel⟩
  refine ⟨f, fd, fn_trG (k := 10) F sc (fun Γ cdv A outer s H E hcd hgd hr => ?_), gl, F.kp, F.bindsN fun _ _ _ _ _ _ us hl => match us, hl with | [_, _, _], _ => rfl⟩
  have tk : Takes (cxOf (L2.CX P w) P w K mg base ["_law_calls", "_law_due", "_law_passed", "_law_kept", "_law_call"] "_law_refuse" sc__law_refuse f cdv A outer s H E) (wOf E) := takes_of rfl rfl rfl rfl
  exact (trs_cons (tr_set (i := 3) sc.nd rfl (.inl rfl) (tr_repr hgd hr.units sy rfl m_repr (tra_cons (tr_var 2) tra_nil))) (trs_cons (tr_for (passes_of rfl) rfl (tri_lst (tr_var 0)) (trg_name sc.nd rfl (.inl rfl)) (trs_one (tr_ifs (trb_cmp (op_neS hr.units) sem_neS (tr_repr hgd hr.units sy rfl m_repr (tra_cons (tr_lst (tra_cons (tr_callG h__law_heard hgd (hr.mono (by decide)) tk rfl (tra_cons (tr_var 4) tra_nil)) (tra_cons (tr_callG h__law_heard hgd (hr.mono (by decide)) tk rfl (tra_cons (tr_var 4) tra_nil)) tra_nil))) tra_nil)) (tr_repr hgd hr.units sy rfl m_repr (tra_cons (tr_lst (tra_cons (tr_var 1) (tra_cons (tr_var 1) tra_nil))) tra_nil)) (nomark _)) (trs_one (tr_ret tr_bl)) trs_nil))) (trs_one (tr_ret (tr_cmp (op_eqS hr.units) sem_eqS (tr_repr hgd hr.units sy rfl m_repr (tra_cons (tr_var 2) tra_nil)) (tr_var 3) (nomark _))))))
theorem ok__law_odd_stairs {f : Addr} {fd : FuncData} (F : FnP K "_law_odd_stairs" (top 61) sc__law_odd_stairs f fd) (gl : mg "_law_odd_stairs" = some (.ref f)) (om : noObj K = true) (m_list : mg "list" = none) : FnGs P w K mg base 1 "_law_odd_stairs" ["_law_stair_so"] F__law_odd_stairs := by
  have sc : FnScope ["_law_stair_so", "_law_found"] ["_law_stair_so"] sc__law_odd_stairs := ⟨rfl, rfl, rfl, by decide +kernel, rfl, by decide +kernel, by decide +kernel⟩
  refine ⟨f, fd, fn_trG (k := 0) F sc (fun Γ cdv A outer s H E hcd hgd hr => ?_), gl, F.kp, F.bindsN fun _ _ _ _ _ _ us hl => match us, hl with | [_], _ => rfl⟩
  have tk : Takes (cxOf (L2.CX P w) P w K mg base ["_law_stair_so", "_law_found"] "_law_odd_stairs" sc__law_odd_stairs f cdv A outer s H E) (wOf E) := takes_of rfl rfl rfl rfl
  exact (trs_cons (tr_own (i := 1) sc.nd rfl (.inl rfl) (tra_cons tr_non (tra_cons tr_int (tra_cons (tr_tup tra_nil) (tra_cons (tr_callTy call_list_of sem_lstOf rfl m_list bo_list (tra_cons (tr_var 0) tra_nil)) (tra_cons (tr_op op_addW sem_add (tr_var 0) (tr_tup (tra_cons (tr_op op_sub sem_sub (tr_ix ix_seq sem_ix (tr_var 0) (tr_un un_neg sem_neg tr_int)) tr_int) tra_nil))) (tra_cons (tr_tup (tra_cons tr_int tra_nil)) (tra_cons (tr_tup (tra_cons (tr_un un_neg sem_neg tr_int) tra_nil)) (tra_cons (tr_strL (by kernel_rfl)) (tra_cons tr_d0 (tra_cons (tr_op op_mulTA sem_mulTA (tr_tup (tra_cons tr_int tra_nil)) tr_int) tra_nil))))))))))) (trs_cons (tr_app (pv 1) (tra_cons (tr_tup (tra_cons (tr_tup (tra_cons tr_int tra_nil)) tra_nil)) tra_nil)) (trs_one (tr_frz 1 (tr_ret (tr_op op_addW sem_add (tr_var 1) (tr_lst (tra_cons (tr_tup (tra_cons tr_bl tra_nil)) (tra_cons (tr_tup (tra_cons tr_non tra_nil)) (tra_cons (tr_tup (tra_cons (tr_strL (by kernel_rfl)) tra_nil)) (tra_cons (tr_tup (tra_cons tr_int (tra_cons tr_int tra_nil))) (tra_cons (tr_tup (tra_cons tr_int (tra_cons tr_bl tra_nil))) (tra_cons (tr_tup (tra_cons tr_int (tra_cons (tr_op op_pow sem_pow tr_int tr_int) tra_nil))) (tra_cons (tr_tup (tra_cons (tr_tup (tra_cons tr_int (tra_cons tr_int tra_nil))) tra_nil)) tra_nil))))))))))))))
theorem ok__law_odd_lengths {f : Addr} {fd : FuncData} (F : FnP K "_law_odd_lengths" (top 62) sc__law_odd_lengths f fd) (gl : mg "_law_odd_lengths" = some (.ref f)) (om : noObj K = true) : FnGs P w K mg base 1 "_law_odd_lengths" [] F__law_odd_lengths := by
  have sc : FnScope [] [] sc__law_odd_lengths := ⟨rfl, rfl, rfl, by decide +kernel, rfl, by decide +kernel, by decide +kernel⟩
  refine ⟨f, fd, fn_trG (k := 0) F sc (fun Γ cdv A outer s H E hcd hgd hr => ?_), gl, F.kp, F.bindsN fun _ _ _ _ _ _ us hl => match us, hl with | [], _ => rfl⟩
  have tk : Takes (cxOf (L2.CX P w) P w K mg base [] "_law_odd_lengths" sc__law_odd_lengths f cdv A outer s H E) (wOf E) := takes_of rfl rfl rfl rfl
  exact (trs_one (tr_ret (tr_lst (tra_cons tr_non (tra_cons tr_int (tra_cons (tr_tup (tra_cons tr_int (tra_cons tr_int tra_nil))) (tra_cons (tr_tup (tra_cons tr_int (tra_cons tr_int tra_nil))) (tra_cons (tr_tup (tra_cons tr_int (tra_cons (tr_un un_neg sem_neg tr_int) tra_nil))) (tra_cons (tr_tup (tra_cons (tr_un un_neg sem_neg tr_int) (tra_cons tr_int tra_nil))) (tra_cons (tr_tup (tra_cons tr_bl (tra_cons tr_int tra_nil))) (tra_cons (tr_tup (tra_cons tr_int (tra_cons tr_bl tra_nil))) (tra_cons (tr_lst (tra_cons tr_int (tra_cons tr_int tra_nil))) (tra_cons (tr_tup (tra_cons tr_int tra_nil)) (tra_cons (tr_tup (tra_cons tr_int (tra_cons tr_int (tra_cons tr_int tra_nil)))) (tra_cons (tr_tup (tra_cons (tr_strL (by kernel_rfl)) (tra_cons tr_int tra_nil))) (tra_cons tr_d0 tra_nil))))))))))))))))
theorem ok__law_doors {f : Addr} {fd : FuncData} (F : FnP K "_law_doors" (top 63) sc__law_doors f fd) (gl : mg "_law_doors" = some (.ref f)) (ga : f = He.ga K "_law_doors") (tb : ∀ z ∈ tabC K, LamX.TabB base mg z.1 z.2.1) (ap : ∀ p ∈ tabL K, ∀ q ∈ tabL K, q.1 = p.1 → q.2 = p.2) (om : noObj K = true) : FnGs P w K mg base 3 "_law_doors" ["_law_odd"] F__law_doors := by
  have sc : FnScope ["_law_odd", "_law_found"] ["_law_odd"] sc__law_doors := ⟨rfl, rfl, rfl, by decide +kernel, rfl, by decide +kernel, by decide +kernel⟩
  refine ⟨f, fd, fn_trX (k := 2) F sc (fun cdv A outer s H E hcd hgd hr => ?_), gl, F.kp, F.bindsN fun _ _ _ _ _ _ us hl => match us, hl with | [_], _ => rfl⟩
  have tk : Takes (cxOf (L2.CX P w) P w K mg base ["_law_odd", "_law_found"] "_law_doors" sc__law_doors f cdv A outer s H E) (wOf E) := takes_of rfl rfl rfl rfl
  have mk : MkT K mg base cdv ("_law_doors" ++ ".<locals>." ++ "<lambda>") := by
    rw [← hcd]
    exact mk_of F tb ap
  have sl : SlOk (cxOf (L2.CX P w) P w K mg base ["_law_odd", "_law_found"] "_law_doors" sc__law_doors f cdv A outer s H E) cap__law_doors := slOk_by F ga (by kernel_rfl)
  exact ⟨(trsx_cons (tr_set (i := 1) sc.nd rfl (.inl rfl) (tr_lst (tra_cons (tr_lam mk rfl (lamK_of F ga (by kernel_rfl)) .zero (free_by (by kernel_rfl)) (fun _ _ h => h)) (tra_cons (tr_lam mk rfl (lamK_of F ga (by kernel_rfl)) (.one _ _ _ _ _) (free_by (by kernel_rfl)) (fun _ _ h => h)) (tra_cons (tr_lam mk rfl (lamK_of F ga (by kernel_rfl)) (.one _ _ _ _ _) (free_by (by kernel_rfl)) (fun _ _ h => h)) tra_nil))))) (trsx_cons (tr_set (i := 1) sc.nd rfl (.inl rfl) (tr_op op_addW sem_add (tr_var 1) (tr_lst (tra_cons (tr_lam mk rfl (lamK_of F ga (by kernel_rfl)) .zero (free_by (by kernel_rfl)) (fun _ _ h => h)) (tra_cons (tr_lam mk rfl (lamK_of F ga (by kernel_rfl)) (.one _ _ _ _ _) (free_by (by kernel_rfl)) (fun _ _ h => h)) (tra_cons (tr_lam mk rfl (lamK_of F ga (by kernel_rfl)) (.one _ _ _ _ _) (free_by (by kernel_rfl)) (fun _ _ h => h)) tra_nil)))))) (trsx_cons (tr_set (i := 1) sc.nd rfl (.inl rfl) (tr_op op_addW sem_add (tr_var 1) (tr_lst (tra_cons (tr_lam mk rfl (lamK_of F ga (by kernel_rfl)) .zero (free_by (by kernel_rfl)) (fun _ _ h => h)) (tra_cons (tr_lam mk rfl (lamK_of F ga (by kernel_rfl)) (.one _ _ _ _ _) (free_by (by kernel_rfl)) (fun _ _ h => h)) (tra_cons (tr_lam mk rfl (lamK_of F ga (by kernel_rfl)) (.one _ _ _ _ _) (free_by (by kernel_rfl)) (fun _ _ h => h)) tra_nil)))))) (trsx_cons (tr_set (i := 1) sc.nd rfl (.inl rfl) (tr_op op_addW sem_add (tr_var 1) (tr_lst (tra_cons (tr_lam mk rfl (lamK_of F ga (by kernel_rfl)) .zero (free_by (by kernel_rfl)) (fun _ _ h => h)) (tra_cons (tr_lam mk rfl (lamK_of F ga (by kernel_rfl)) (.one _ _ _ _ _) (free_by (by kernel_rfl)) (fun _ _ h => h)) tra_nil))))) (trsx_ret (tr_op op_addW sem_add (tr_var 1) (tr_lst (tra_cons (tr_lam mk rfl (lamK_of F ga (by kernel_rfl)) .zero (free_by (by kernel_rfl)) (fun _ _ h => h)) tra_nil)))))))), sl⟩
theorem ok__law_pairs {f : Addr} {fd : FuncData} (F : FnP K "_law_pairs" (top 64) sc__law_pairs f fd) (gl : mg "_law_pairs" = some (.ref f)) (ga : f = He.ga K "_law_pairs") (tb : ∀ z ∈ tabC K, LamX.TabB base mg z.1 z.2.1) (ap : ∀ p ∈ tabL K, ∀ q ∈ tabL K, q.1 = p.1 → q.2 = p.2) (om : noObj K = true) : FnGs P w K mg base 3 "_law_pairs" ["_law_one", "_law_odd"] F__law_pairs := by
  have sc : FnScope ["_law_one", "_law_odd", "_law_found"] ["_law_one", "_law_odd"] sc__law_pairs := ⟨rfl, rfl, rfl, by decide +kernel, rfl, by decide +kernel, by decide +kernel⟩
  refine ⟨f, fd, fn_trX (k := 2) F sc (fun cdv A outer s H E hcd hgd hr => ?_), gl, F.kp, F.bindsN fun _ _ _ _ _ _ us hl => match us, hl with | [_, _], _ => rfl⟩
  have tk : Takes (cxOf (L2.CX P w) P w K mg base ["_law_one", "_law_odd", "_law_found"] "_law_pairs" sc__law_pairs f cdv A outer s H E) (wOf E) := takes_of rfl rfl rfl rfl
  have mk : MkT K mg base cdv ("_law_pairs" ++ ".<locals>." ++ "<lambda>") := by
    rw [← hcd]
    exact mk_of F tb ap
  have sl : SlOk (cxOf (L2.CX P w) P w K mg base ["_law_one", "_law_odd", "_law_found"] "_law_pairs" sc__law_pairs f cdv A outer s H E) cap__law_pairs := slOk_by F ga (by kernel_rfl)
  exact ⟨(trsx_cons (tr_set (i := 2) sc.nd rfl (.inl rfl) (tr_lst (tra_cons (tr_lam mk rfl (lamK_of F ga (by kernel_rfl)) .zero (free_by (by kernel_rfl)) (fun _ _ h => h)) (tra_cons (tr_lam mk rfl (lamK_of F ga (by kernel_rfl)) (.one _ _ _ _ _) (free_by (by kernel_rfl)) (fun _ _ h => h)) (tra_cons (tr_lam mk rfl (lamK_of F ga (by kernel_rfl)) (.one _ _ _ _ _) (free_by (by kernel_rfl)) (fun _ _ h => h)) tra_nil))))) (trsx_ret (tr_op op_addW sem_add (tr_var 2) (tr_lst (tra_cons (tr_lam mk rfl (lamK_of F ga (by kernel_rfl)) .zero (free_by (by kernel_rfl)) (fun _ _ h => h)) tra_nil))))), sl⟩
theorem ok__law_stairs_right {f : Addr} {fd : FuncData} (F : FnP K "_law_stairs_right" (top 65) sc__law_stairs_right f fd) (gl : mg "_law_stairs_right" = some (.ref f)) (om : noObj K = true) (m_len : mg "len" = none) (h__law_odd_stairs : FnGs P w K mg base 1 "_law_odd_stairs" ["_law_stair_so"] F__law_odd_stairs) (h__law_refuse : FnGs P w K mg base 11 "_law_refuse" ["_law_calls", "_law_due", "_law_passed"] F__law_refuse) (h__law_doors : FnGs P w K mg base 3 "_law_doors" ["_law_odd"] F__law_doors) (h__law_pairs : FnGs P w K mg base 3 "_law_pairs" ["_law_one", "_law_odd"] F__law_pairs) : FnGs P w K mg base 12 "_law_stairs_right" ["_law_one"] F__law_stairs_right := by
  have sc : FnScope ["_law_one", "_law_odd", "_law_far"] ["_law_one"] sc__law_stairs_right := ⟨rfl, rfl, rfl, by decide +kernel, rfl, by decide +kernel, by decide +kernel⟩
  refine ⟨f, fd, fn_trG (k := 11) F sc (fun Γ cdv A outer s H E hcd hgd hr => ?_), gl, F.kp, F.bindsN fun _ _ _ _ _ _ us hl => match us, hl with | [_], _ => rfl⟩
  have tk : Takes (cxOf (L2.CX P w) P w K mg base ["_law_one", "_law_odd", "_law_far"] "_law_stairs_right" sc__law_stairs_right f cdv A outer s H E) (wOf E) := takes_of rfl rfl rfl rfl
  exact (trs_cons (tr_for (passes_of rfl) rfl (tri_lst (tr_callG h__law_odd_stairs hgd (hr.mono (by decide)) tk rfl (tra_cons (tr_var 0) tra_nil))) (trg_name sc.nd rfl (.inl rfl)) (trs_one (tr_ifs (trb_not (trb_tru (tr_callG h__law_refuse hgd (hr.mono (by decide)) tk rfl (tra_cons (tr_op op_addW sem_add (tr_callG h__law_doors hgd (hr.mono (by decide)) tk rfl (tra_cons (tr_var 1) tra_nil)) (tr_callG h__law_pairs hgd (hr.mono (by decide)) tk rfl (tra_cons (tr_var 0) (tra_cons (tr_var 1) tra_nil)))) (tra_cons (tr_tup (tra_cons (tr_strL (by kernel_rfl)) (tra_cons (tr_var 1) tra_nil))) (tra_cons (tr_var 1) tra_nil)))))) (trs_one (tr_ret tr_bl)) trs_nil))) (trs_cons (tr_set (i := 2) sc.nd rfl (.inl rfl) (tr_if (trb_cmp op_lt sem_lt (tr_callB call_len sem_len rfl m_len bo_len (tra_cons (tr_var 0) tra_nil)) tr_int (nomark _)) (tr_op op_addW sem_add (tr_var 0) (tr_slice (tr_var 0) (tro_some (tr_un un_neg sem_neg tr_int)) tro_no)) (tr_slice (tr_var 0) (tro_some tr_int) tro_no))) (trs_one (tr_ret (tr_callG h__law_refuse hgd (hr.mono (by decide)) tk rfl (tra_cons (tr_callG h__law_pairs hgd (hr.mono (by decide)) tk rfl (tra_cons (tr_var 0) (tra_cons (tr_var 2) tra_nil))) (tra_cons (tr_tup (tra_cons (tr_strL (by kernel_rfl)) (tra_cons (tr_var 2) tra_nil))) (tra_cons (tr_var 2) tra_nil))))))))
theorem ok__law_numbers_right {f : Addr} {fd : FuncData} (F : FnP K "_law_numbers_right" (top 66) sc__law_numbers_right f fd) (gl : mg "_law_numbers_right" = some (.ref f)) (ga : f = He.ga K "_law_numbers_right") (tb : ∀ z ∈ tabC K, LamX.TabB base mg z.1 z.2.1) (ap : ∀ p ∈ tabL K, ∀ q ∈ tabL K, q.1 = p.1 → q.2 = p.2) (om : noObj K = true) (m_len : mg "len" = none) (h__law_refuse : FnGs P w K mg base 11 "_law_refuse" ["_law_calls", "_law_due", "_law_passed"] F__law_refuse) : FnGs P w K mg base 12 "_law_numbers_right" ["_law_one"] F__law_numbers_right := by
  have sc : FnScope ["_law_one", "_law_calls", "_law_odd", "_law_size"] ["_law_one"] sc__law_numbers_right := ⟨rfl, rfl, rfl, by decide +kernel, rfl, by decide +kernel, by decide +kernel⟩
  refine ⟨f, fd, fn_trL (k := 11) F sc (fun cdv A outer s H E hcd hgd hr => ?_), gl, F.kp, F.bindsN fun _ _ _ _ _ _ us hl => match us, hl with | [_], _ => rfl⟩
  have tk : Takes (cxOf (L2.CX P w) P w K mg base ["_law_one", "_law_calls", "_law_odd", "_law_size"] "_law_numbers_right" sc__law_numbers_right f cdv A outer s H E) (wOf E) := takes_of rfl rfl rfl rfl
  have mk : MkT K mg base cdv ("_law_numbers_right" ++ ".<locals>." ++ "<lambda>") := by
    rw [← hcd]
    exact mk_of F tb ap
  have sl : SlOk (cxOf (L2.CX P w) P w K mg base ["_law_one", "_law_calls", "_law_odd", "_law_size"] "_law_numbers_right" sc__law_numbers_right f cdv A outer s H E) cap__law_numbers_right := slOk_by F ga (by kernel_rfl)
  exact (trs_cons (tr_set (i := 3) sc.nd rfl (.inr rfl) (tr_callB call_len sem_len rfl m_len bo_len (tra_cons (tr_var 0) tra_nil))) (trs_cons (tr_for (passes_of rfl) rfl (tri_tup (tr_tup (tra_cons tr_int (tra_cons (tr_op op_addW sem_add (tr_var 3) tr_int) (tra_cons (tr_un un_neg sem_neg tr_int) (tra_cons tr_bl (tra_cons tr_bl (tra_cons tr_non (tra_cons (tr_strL (by kernel_rfl)) (tra_cons (tr_tup (tra_cons tr_int tra_nil)) (tra_cons (tr_lst (tra_cons tr_int tra_nil)) (tra_cons (tr_op op_pow sem_pow tr_int tr_int) tra_nil)))))))))))) (trg_name sc.nd rfl (.inr rfl)) (trs_cons (tr_set (i := 1) sc.nd rfl (.inl rfl) (tr_lst (tra_cons (tr_lam mk rfl (lamK_of F ga (by kernel_rfl)) .zero (free_by (by kernel_rfl)) (fun _ _ h => h)) (tra_cons (tr_lam mk rfl (lamK_of F ga (by kernel_rfl)) (.one _ _ _ _ _) (free_by (by kernel_rfl)) (fun _ _ h => h)) tra_nil)))) (trs_cons (tr_set (i := 1) sc.nd rfl (.inl rfl) (tr_op op_addW sem_add (tr_var 1) (tr_lst (tra_cons (tr_lam mk rfl (lamK_of F ga (by kernel_rfl)) .zero (free_by (by kernel_rfl)) (fun _ _ h => h)) (tra_cons (tr_lam mk rfl (lamK_of F ga (by kernel_rfl)) (.one _ _ _ _ _) (free_by (by kernel_rfl)) (fun _ _ h => h)) tra_nil))))) (trs_one (tr_ifs (trb_not (trb_tru (tr_callZ h__law_refuse hgd (hr.mono (by decide)) tk rfl rfl sl (tra_cons (tr_var 1) (tra_cons (tr_tup (tra_cons (tr_strL (by kernel_rfl)) (tra_cons (tr_var 2) tra_nil))) (tra_cons (tr_var 2) tra_nil))) (fun _ => rfl) rfl rfl))) (trs_one (tr_ret tr_bl)) trs_nil))))) (trs_cons (tr_for (passes_of rfl) rfl (tri_tup (tr_tup (tra_cons (tr_un un_neg sem_neg tr_int) (tra_cons tr_int (tra_cons tr_bl (tra_cons tr_non (tra_cons (tr_strL (by kernel_rfl)) (tra_cons (tr_tup (tra_cons tr_int tra_nil)) (tra_cons tr_d0 tra_nil))))))))) (trg_name sc.nd rfl (.inr rfl)) (trs_cons (tr_set (i := 1) sc.nd rfl (.inl rfl) (tr_lst (tra_cons (tr_lam mk rfl (lamK_of F ga (by kernel_rfl)) .zero (free_by (by kernel_rfl)) (fun _ _ h => h)) (tra_cons (tr_lam mk rfl (lamK_of F ga (by kernel_rfl)) (.one _ _ _ _ _) (free_by (by kernel_rfl)) (fun _ _ h => h)) tra_nil)))) (trs_one (tr_ifs (trb_not (trb_tru (tr_callZ h__law_refuse hgd (hr.mono (by decide)) tk rfl rfl sl (tra_cons (tr_var 1) (tra_cons (tr_tup (tra_cons (tr_strL (by kernel_rfl)) (tra_cons (tr_var 2) tra_nil))) (tra_cons (tr_var 2) tra_nil))) (fun _ => rfl) rfl rfl))) (trs_one (tr_ret tr_bl)) trs_nil)))) (trs_cons (tr_for (passes_of rfl) rfl (tri_tup (tr_tup (tra_cons tr_int (tra_cons tr_int (tra_cons (tr_un un_neg sem_neg tr_int) (tra_cons tr_bl (tra_cons tr_non (tra_cons (tr_strL (by kernel_rfl)) (tra_cons (tr_tup (tra_cons tr_int tra_nil)) (tra_cons (tr_op op_sub sem_sub (tr_var 3) tr_int) tra_nil)))))))))) (trg_name sc.nd rfl (.inr rfl)) (trs_one (tr_ifs (trb_not (trb_tru (tr_callZ h__law_refuse hgd (hr.mono (by decide)) tk rfl rfl sl (tra_cons (tr_lst (tra_cons (tr_lam mk rfl (lamK_of F ga (by kernel_rfl)) .zero (free_by (by kernel_rfl)) (fun _ _ h => h)) tra_nil)) (tra_cons (tr_tup (tra_cons (tr_strL (by kernel_rfl)) (tra_cons (tr_var 2) tra_nil))) (tra_cons (tr_var 2) tra_nil))) (fun _ => rfl) rfl rfl))) (trs_one (tr_ret tr_bl)) trs_nil))) (trs_cons (tr_for (passes_of rfl) rfl (tri_tup (tr_tup (tra_cons tr_int (tra_cons tr_int (tra_cons (tr_un un_neg sem_neg tr_int) (tra_cons tr_bl (tra_cons tr_non (tra_cons (tr_strL (by kernel_rfl)) (tra_cons (tr_tup (tra_cons tr_int tra_nil)) (tra_cons (tr_op op_pow sem_pow tr_int tr_int) tra_nil)))))))))) (trg_name sc.nd rfl (.inr rfl)) (trs_cons (tr_set (i := 1) sc.nd rfl (.inl rfl) (tr_lst (tra_cons (tr_lam mk rfl (lamK_of F ga (by kernel_rfl)) .zero (free_by (by kernel_rfl)) (fun _ _ h => h)) (tra_cons (tr_lam mk rfl (lamK_of F ga (by kernel_rfl)) (.one _ _ _ _ _) (free_by (by kernel_rfl)) (fun _ _ h => h)) tra_nil)))) (trs_one (tr_ifs (trb_not (trb_tru (tr_callZ h__law_refuse hgd (hr.mono (by decide)) tk rfl rfl sl (tra_cons (tr_var 1) (tra_cons (tr_tup (tra_cons (tr_strL (by kernel_rfl)) (tra_cons (tr_var 2) tra_nil))) (tra_cons (tr_var 2) tra_nil))) (fun _ => rfl) rfl rfl))) (trs_one (tr_ret tr_bl)) trs_nil)))) (trs_one (tr_ret tr_bl)))))))
theorem ok__law_rest_right {f : Addr} {fd : FuncData} (F : FnP K "_law_rest_right" (top 67) sc__law_rest_right f fd) (gl : mg "_law_rest_right" = some (.ref f)) (ga : f = He.ga K "_law_rest_right") (tb : ∀ z ∈ tabC K, LamX.TabB base mg z.1 z.2.1) (ap : ∀ p ∈ tabL K, ∀ q ∈ tabL K, q.1 = p.1 → q.2 = p.2) (om : noObj K = true) (m_len : mg "len" = none) (h__law_odd_lengths : FnGs P w K mg base 1 "_law_odd_lengths" [] F__law_odd_lengths) (h__law_refuse : FnGs P w K mg base 11 "_law_refuse" ["_law_calls", "_law_due", "_law_passed"] F__law_refuse) : FnGs P w K mg base 12 "_law_rest_right" ["_law_one"] F__law_rest_right := by
  have sc : FnScope ["_law_one", "_law_calls", "_law_wishes_so", "_law_odd", "_law_size"] ["_law_one"] sc__law_rest_right := ⟨rfl, rfl, rfl, by decide +kernel, rfl, by decide +kernel, by decide +kernel⟩
  refine ⟨f, fd, fn_trL (k := 11) F sc (fun cdv A outer s H E hcd hgd hr => ?_), gl, F.kp, F.bindsN fun _ _ _ _ _ _ us hl => match us, hl with | [_], _ => rfl⟩
  have tk : Takes (cxOf (L2.CX P w) P w K mg base ["_law_one", "_law_calls", "_law_wishes_so", "_law_odd", "_law_size"] "_law_rest_right" sc__law_rest_right f cdv A outer s H E) (wOf E) := takes_of rfl rfl rfl rfl
  have mk : MkT K mg base cdv ("_law_rest_right" ++ ".<locals>." ++ "<lambda>") := by
    rw [← hcd]
    exact mk_of F tb ap
  have sl : SlOk (cxOf (L2.CX P w) P w K mg base ["_law_one", "_law_calls", "_law_wishes_so", "_law_odd", "_law_size"] "_law_rest_right" sc__law_rest_right f cdv A outer s H E) cap__law_rest_right := slOk_by F ga (by kernel_rfl)
  exact (trs_cons (tr_set (i := 4) sc.nd rfl (.inr rfl) (tr_callB call_len sem_len rfl m_len bo_len (tra_cons (tr_var 0) tra_nil))) (trs_cons (tr_for (passes_of rfl) rfl (tri_lst (tr_callG0 h__law_odd_lengths hgd (hr.mono (by decide)) tk rfl)) (trg_name sc.nd rfl (.inr rfl)) (trs_cons (tr_set (i := 1) sc.nd rfl (.inl rfl) (tr_lst (tra_cons (tr_lam mk rfl (lamK_of F ga (by kernel_rfl)) .zero (free_by (by kernel_rfl)) (fun _ _ h => h)) (tra_cons (tr_lam mk rfl (lamK_of F ga (by kernel_rfl)) (.one _ _ _ _ _) (free_by (by kernel_rfl)) (fun _ _ h => h)) (tra_cons (tr_lam mk rfl (lamK_of F ga (by kernel_rfl)) (.one _ _ _ _ _) (free_by (by kernel_rfl)) (fun _ _ h => h)) tra_nil))))) (trs_one (tr_ifs (trb_not (trb_tru (tr_callZ h__law_refuse hgd (hr.mono (by decide)) tk rfl rfl sl (tra_cons (tr_var 1) (tra_cons (tr_tup (tra_cons (tr_strL (by kernel_rfl)) (tra_cons (tr_var 3) tra_nil))) (tra_cons (tr_var 3) tra_nil))) (fun _ => rfl) rfl rfl))) (trs_one (tr_ret tr_bl)) trs_nil)))) (trs_cons (tr_own (i := 2) sc.nd rfl (.inl rfl) (tra_cons tr_non (tra_cons tr_int (tra_cons (tr_lst (tra_cons (tr_tup (tra_cons tr_int (tra_cons tr_int tra_nil))) tra_nil)) (tra_cons (tr_op op_mulTA sem_mulTA (tr_tup (tra_cons (tr_tup (tra_cons tr_int (tra_cons tr_int tra_nil))) tra_nil)) tr_int) (tra_cons (tr_tup (tra_cons (tr_tup (tra_cons tr_int tra_nil)) tra_nil)) (tra_cons (tr_tup (tra_cons (tr_tup (tra_cons tr_int (tra_cons tr_int (tra_cons tr_int tra_nil)))) tra_nil)) (tra_cons (tr_tup (tra_cons (tr_lst (tra_cons tr_int (tra_cons tr_int tra_nil))) tra_nil)) (tra_cons (tr_tup (tra_cons (tr_tup (tra_cons tr_int (tra_cons tr_int tra_nil))) tra_nil)) (tra_cons (tr_tup (tra_cons (tr_tup (tra_cons (tr_op op_addW sem_add (tr_var 4) tr_int) (tra_cons tr_int tra_nil))) tra_nil)) (tra_cons tr_d0 tra_nil))))))))))) (trs_cons (tr_frz 2 (tr_ownAdd (i := 2) sc.nd rfl (.inl rfl) (tr_var 2) (tr_lst (tra_cons (tr_tup (tra_cons (tr_tup (tra_cons tr_int (tra_cons (tr_un un_neg sem_neg tr_int) tra_nil))) tra_nil)) (tra_cons (tr_tup (tra_cons (tr_tup (tra_cons tr_int (tra_cons tr_int tra_nil))) tra_nil)) (tra_cons (tr_tup (tra_cons (tr_tup (tra_cons tr_bl (tra_cons tr_int tra_nil))) tra_nil)) (tra_cons (tr_tup (tra_cons (tr_tup (tra_cons tr_int (tra_cons tr_bl tra_nil))) tra_nil)) (tra_cons (tr_tup (tra_cons (tr_tup (tra_cons tr_int (tra_cons tr_non tra_nil))) tra_nil)) (tra_cons (tr_tup (tra_cons tr_non tra_nil)) (tra_cons (tr_tup (tra_cons tr_int (tra_cons tr_int tra_nil))) tra_nil)))))))))) (trs_cons (tr_app (pv 2) (tra_cons (tr_strL (by kernel_rfl)) tra_nil)) (trs_cons (tr_frz 2 (tr_for (passes_of rfl) rfl (tri_lst (tr_var 2)) (trg_name sc.nd rfl (.inr rfl)) (trs_one (tr_ifs (trb_not (trb_tru (tr_callZ h__law_refuse hgd (hr.mono (by decide)) tk rfl rfl sl (tra_cons (tr_lst (tra_cons (tr_lam mk rfl (lamK_of F ga (by kernel_rfl)) .zero (free_by (by kernel_rfl)) (fun _ _ h => h)) tra_nil)) (tra_cons (tr_tup (tra_cons (tr_strL (by kernel_rfl)) (tra_cons (tr_var 3) tra_nil))) (tra_cons (tr_var 3) tra_nil))) (fun _ => rfl) rfl rfl))) (trs_one (tr_ret tr_bl)) trs_nil)))) (trs_one (tr_ret tr_bl))))))))
theorem ok_law {f fB : Addr} {fd fdB : FuncData} (F : FnP K "law" (top 68) sc_law f fd) (FB : FnP K "_law_begin" (top 56) sc__law_begin fB fdB) (gB : mg "_law_begin" = some (.ref fB)) (m_list0 : mg "list" = none) (en : LawEnds g_law 4) (om : noObj K = true) (m_range : mg "range" = none) (m_min : mg "min" = none) (m_len : mg "len" = none) (h__law_stair_drawn : FnGs P w K mg base 3 "_law_stair_drawn" ["_law_state", "_law_many", "_law_wide"] F__law_stair_drawn) (h__law_draw : FnGs P w K mg base 2 "_law_draw" ["_law_state", "_law_many"] F__law_draw) (h__law_stairs_right : FnGs P w K mg base 12 "_law_stairs_right" ["_law_one"] F__law_stairs_right) (h__law_numbers_right : FnGs P w K mg base 12 "_law_numbers_right" ["_law_one"] F__law_numbers_right) (h__law_rest_right : FnGs P w K mg base 12 "_law_rest_right" ["_law_one"] F__law_rest_right) (h_least_stair : FnGs P w K mg base 4 "least_stair" ["many", "wishes"] F_least_stair) (h_lowered : FnGs P w K mg base 6 "lowered" ["stair", "k", "x"] F_lowered) (h_raised : FnGs P w K mg base 6 "raised" ["stair", "k", "x"] F_raised) (h_need_stair : FnGs P w K mg base 4 "need_stair" ["thing"] F_need_stair) (h_fewer : FnGs P w K mg base 5 "fewer" ["stair", "many"] F_fewer) (h_is_had : FnGs P w K mg base 7 "is_had" ["stair", "length"] F_is_had) : FnG P w K mg base 13 f fd ["_law_script"] (spLaw K) := by
  have sc : FnScope ["_law_script", "_law_state", "_law_turn", "_law_one", "_law_wide", "_law_told"] ["_law_script"] sc_law := ⟨rfl, rfl, rfl, by decide +kernel, rfl, by decide +kernel, by decide +kernel⟩
  have GB : FnOk P w K mg base (L2.CX P w) 1 fB fdB ["_law_script"] (spBegin K) := ok__law_begin FB m_list0
  have bB : Binds K fdB ["_law_script"] [] := FB.bindsN fun _ _ _ _ _ _ us hl => match us, hl with | [_], _ => rfl
  refine gdef (k := 12) F sc (fun vs H Q E h => ?_) (fun cdv A outer s H vs Q E hcd hgd hr h => ?_)
  · obtain ⟨a, ns, rfl, _⟩ := h
    rfl
  have tk : Takes (cxOf (L2.CX P w) P w K mg base ["_law_script", "_law_state", "_law_turn", "_law_one", "_law_wide", "_law_told"] "law" sc_law f cdv A outer s H E) (wOf E) := takes_of rfl rfl rfl rfl
  have rest : TrSs (envOfC "law" sc_law s.heap.objs.size f cdv).cells (cxOf (L2.CX P w) P w K mg base ["_law_script", "_law_state", "_law_turn", "_law_one", "_law_wide", "_law_told"] "law" sc_law f cdv A outer s H E) E (defBody (top 68)).tail g_law :=
    (trs_cons (tr_for (passes_of rfl) rfl (tri_rng1 rfl m_range (tra_cons (tr_op op_addW sem_add tr_int (tr_callB (callR_or (call_min2 rfl) (cr_min rfl)) sem_min rfl m_min bo_min (tra_cons (tr_callB call_len sem_len rfl m_len bo_len (tra_cons (tr_var 0) tra_nil)) (tra_cons tr_int tra_nil)))) tra_nil)) (trg_name sc.nd rfl (.inl rfl)) (trs_cons (tr_set (i := 3) sc.nd rfl (.inl rfl) (tr_callG h__law_stair_drawn hgd (hr.mono (by decide)) tk rfl (tra_cons (tr_var 1) (tra_cons (tr_op op_addW sem_add tr_int (tr_callG h__law_draw hgd (hr.mono (by decide)) tk rfl (tra_cons (tr_var 1) (tra_cons tr_int tra_nil)))) (tra_cons (tr_ix ix_seq sem_ix (tr_lst (tra_cons tr_int (tra_cons tr_int tra_nil))) (tr_callG h__law_draw hgd (hr.mono (by decide)) tk rfl (tra_cons (tr_var 1) (tra_cons tr_int tra_nil)))) tra_nil))))) (trs_one (tr_ifs (TrW.toB (trw_or (trb_not (trb_tru (tr_callG h__law_stairs_right hgd (hr.mono (by decide)) tk rfl (tra_cons (tr_var 3) tra_nil)))) (trw_or (trb_not (trb_tru (tr_callG h__law_numbers_right hgd (hr.mono (by decide)) tk rfl (tra_cons (tr_var 3) tra_nil)))) (trw_or1 (trb_not (trb_tru (tr_callG h__law_rest_right hgd (hr.mono (by decide)) tk rfl (tra_cons (tr_var 3) tra_nil)))))))) (trs_one (tr_ret tr_bl)) trs_nil)))) (trs_cons (tr_set (i := 4) sc.nd rfl (.inl rfl) (tr_op op_addW sem_add (tr_op op_mulTA sem_mulTA (tr_tup (tra_cons tr_int tra_nil)) tr_int) (tr_tup (tra_cons tr_int tra_nil)))) (trs_cons (tr_own (i := 5) sc.nd rfl (.inl rfl) (tra_cons (tr_callG h_need_stair hgd (hr.mono (by decide)) tk rfl (tra_cons (tr_var 4) tra_nil)) (tra_cons (tr_callG h_raised hgd (hr.mono (by decide)) tk rfl (tra_cons (tr_var 4) (tra_cons tr_int (tra_cons tr_int tra_nil)))) (tra_cons (tr_callG h_lowered hgd (hr.mono (by decide)) tk rfl (tra_cons (tr_var 4) (tra_cons tr_int (tra_cons tr_int tra_nil)))) (tra_cons (tr_callG h_least_stair hgd (hr.mono (by decide)) tk rfl (tra_cons tr_int (tra_cons (tr_op op_mulTA sem_mulTA (tr_tup (tra_cons (tr_tup (tra_cons tr_int (tra_cons tr_int tra_nil))) tra_nil)) tr_int) tra_nil))) tra_nil))))) (trs_cons (tr_app (pv 5) (tra_cons (tr_callG h_fewer hgd (hr.mono (by decide)) tk rfl (tra_cons (tr_var 4) (tra_cons tr_int tra_nil))) tra_nil)) (trs_one (tr_frz 5 (tr_ret (tr_and (tr_cmp (op_eqS hr.units) sem_eqS (tr_var 5) (tr_lst (tra_cons (tr_var 4) (tra_cons (tr_var 4) (tra_cons (tr_op op_mulTA sem_mulTA (tr_tup (tra_cons tr_int tra_nil)) tr_int) (tra_cons (tr_var 4) (tra_cons (tr_var 4) tra_nil)))))) (nomark _)) (tr_one (tr_cmp op_isW sem_is (tr_callG h_is_had hgd (hr.mono (by decide)) tk rfl (tra_cons (tr_tup (tra_cons tr_int tra_nil)) (tra_cons (tr_tup (tra_cons tr_int (tra_cons tr_int tra_nil))) tra_nil))) tr_bl (nomark _)))))))))))
  refine ⟨_, pss_cons (ps_set (i := 1) sc.nd rfl (.inl rfl) (pe_callSD (E := fun σ => WE (wOf E) σ) GB (hr.mono (by decide)) rfl gB FB.kp bB .nil (fun σ => passAt tk σ) (pa_cons (pv 0) pa_nil))) rest, ?_⟩
  obtain ⟨a, ns, rfl, hS, hz, hT, q⟩ := h
  exact ⟨.ref a, rfl, a, ns, rfl, hS, hz, fun S ca la H' cells lefts sm nS nca nla h1 h2 h3 hl h0 hne => law_rest en hz q hS sm nS nca nla h1 h2 h3 hl h0 hne hT⟩
end
end Lw
namespace Lw
open PySem PySem.Spec PyProof.Rows L2 PF Hd
theorem facts {P : Program} {w : World} {K : PySem.W.Frag} {h : Heap} {mg : Str → Option Value} {f : Addr} (en : LawEnds g_law 4) (X : K.In h) (G : h.Ns mainGlobals mg) (hfa : mg ("law" : Str) = some (.ref f)) (c : SaysL fa fn ex h K) (ct : SaysTs ts w K) :
    ∃ fd : FuncData, (∀ (s : Shared) (v : Value), BindsTo s fd ⟨[v], []⟩ [("_law_script", v)]) ∧ ∀ base : Heap, K.In base → base.Ns mainGlobals mg → (∀ z ∈ tabC K, LamX.TabB base mg z.1 z.2.1) → FnG P w K mg base 13 f fd ["_law_script"] (spLaw K) := by
  obtain ⟨fd_is_integer, D_is_integer⟩ := c.d.def_ 0 (d := d_is_integer) rfl
  have gl_is_integer := He.glo_ok X G (c.fact 0 (f := .glo "is_integer") rfl)
  obtain ⟨fd_common, D_common⟩ := c.d.def_ 1 (d := d_common) rfl
  have gl_common := He.glo_ok X G (c.fact 1 (f := .glo "common") rfl)
  obtain ⟨fd_made, D_made⟩ := c.d.def_ 2 (d := d_made) rfl
  have gl_made := He.glo_ok X G (c.fact 2 (f := .glo "made") rfl)
  obtain ⟨fd_is_fraction, D_is_fraction⟩ := c.d.def_ 3 (d := d_is_fraction) rfl
  have gl_is_fraction := He.glo_ok X G (c.fact 3 (f := .glo "is_fraction") rfl)
  obtain ⟨fd_add, D_add⟩ := c.d.def_ 4 (d := d_add) rfl
  have gl_add := He.glo_ok X G (c.fact 4 (f := .glo "add") rfl)
  obtain ⟨fd_sub, D_sub⟩ := c.d.def_ 5 (d := d_sub) rfl
  have gl_sub := He.glo_ok X G (c.fact 5 (f := .glo "sub") rfl)
  obtain ⟨fd_is_under_ratios, D_is_under_ratios⟩ := c.d.def_ 6 (d := d_is_under_ratios) rfl
  have gl_is_under_ratios := He.glo_ok X G (c.fact 6 (f := .glo "is_under_ratios") rfl)
  obtain ⟨fd_sum_in, D_sum_in⟩ := c.d.def_ 7 (d := d_sum_in) rfl
  have gl_sum_in := He.glo_ok X G (c.fact 7 (f := .glo "sum_in") rfl)
  obtain ⟨fd_is_between, D_is_between⟩ := c.d.def_ 8 (d := d_is_between) rfl
  have gl_is_between := He.glo_ok X G (c.fact 8 (f := .glo "is_between") rfl)
  obtain ⟨fd_is_stair, D_is_stair⟩ := c.d.def_ 9 (d := d_is_stair) rfl
  have gl_is_stair := He.glo_ok X G (c.fact 9 (f := .glo "is_stair") rfl)
  obtain ⟨fd_need_stair, D_need_stair⟩ := c.d.def_ 10 (d := d_need_stair) rfl
  have gl_need_stair := He.glo_ok X G (c.fact 10 (f := .glo "need_stair") rfl)
  obtain ⟨fd_need_many, D_need_many⟩ := c.d.def_ 11 (d := d_need_many) rfl
  have gl_need_many := He.glo_ok X G (c.fact 11 (f := .glo "need_many") rfl)
  obtain ⟨fd_costs_of, D_costs_of⟩ := c.d.def_ 12 (d := d_costs_of) rfl
  have gl_costs_of := He.glo_ok X G (c.fact 12 (f := .glo "costs_of") rfl)
  obtain ⟨fd_need_place, D_need_place⟩ := c.d.def_ 13 (d := d_need_place) rfl
  have gl_need_place := He.glo_ok X G (c.fact 13 (f := .glo "need_place") rfl)
  obtain ⟨fd_raised_in, D_raised_in⟩ := c.d.def_ 14 (d := d_raised_in) rfl
  have gl_raised_in := He.glo_ok X G (c.fact 14 (f := .glo "raised_in") rfl)
  obtain ⟨fd_raised, D_raised⟩ := c.d.def_ 15 (d := d_raised) rfl
  have gl_raised := He.glo_ok X G (c.fact 15 (f := .glo "raised") rfl)
  obtain ⟨fd_lowered, D_lowered⟩ := c.d.def_ 16 (d := d_lowered) rfl
  have gl_lowered := He.glo_ok X G (c.fact 16 (f := .glo "lowered") rfl)
  obtain ⟨fd_need_pair, D_need_pair⟩ := c.d.def_ 17 (d := d_need_pair) rfl
  have gl_need_pair := He.glo_ok X G (c.fact 17 (f := .glo "need_pair") rfl)
  obtain ⟨fd_is_under, D_is_under⟩ := c.d.def_ 18 (d := d_is_under) rfl
  have gl_is_under := He.glo_ok X G (c.fact 18 (f := .glo "is_under") rfl)
  obtain ⟨fd_is_under_stairs, D_is_under_stairs⟩ := c.d.def_ 19 (d := d_is_under_stairs) rfl
  have gl_is_under_stairs := He.glo_ok X G (c.fact 19 (f := .glo "is_under_stairs") rfl)
  obtain ⟨fd_both, D_both⟩ := c.d.def_ 20 (d := d_both) rfl
  have gl_both := He.glo_ok X G (c.fact 20 (f := .glo "both") rfl)
  obtain ⟨fd_meet, D_meet⟩ := c.d.def_ 21 (d := d_meet) rfl
  have gl_meet := He.glo_ok X G (c.fact 21 (f := .glo "meet") rfl)
  obtain ⟨fd_join, D_join⟩ := c.d.def_ 22 (d := d_join) rfl
  have gl_join := He.glo_ok X G (c.fact 22 (f := .glo "join") rfl)
  obtain ⟨fd_fewer, D_fewer⟩ := c.d.def_ 23 (d := d_fewer) rfl
  have gl_fewer := He.glo_ok X G (c.fact 23 (f := .glo "fewer") rfl)
  obtain ⟨fd_more, D_more⟩ := c.d.def_ 24 (d := d_more) rfl
  have gl_more := He.glo_ok X G (c.fact 24 (f := .glo "more") rfl)
  obtain ⟨fd_price_in, D_price_in⟩ := c.d.def_ 25 (d := d_price_in) rfl
  have gl_price_in := He.glo_ok X G (c.fact 25 (f := .glo "price_in") rfl)
  obtain ⟨fd_need_length, D_need_length⟩ := c.d.def_ 26 (d := d_need_length) rfl
  have gl_need_length := He.glo_ok X G (c.fact 26 (f := .glo "need_length") rfl)
  obtain ⟨fd_is_had_in, D_is_had_in⟩ := c.d.def_ 27 (d := d_is_had_in) rfl
  have gl_is_had_in := He.glo_ok X G (c.fact 27 (f := .glo "is_had_in") rfl)
  obtain ⟨fd_need_both, D_need_both⟩ := c.d.def_ 28 (d := d_need_both) rfl
  have gl_need_both := He.glo_ok X G (c.fact 28 (f := .glo "need_both") rfl)
  obtain ⟨fd_is_had, D_is_had⟩ := c.d.def_ 29 (d := d_is_had) rfl
  have gl_is_had := He.glo_ok X G (c.fact 29 (f := .glo "is_had") rfl)
  obtain ⟨fd_over_by, D_over_by⟩ := c.d.def_ 30 (d := d_over_by) rfl
  have gl_over_by := He.glo_ok X G (c.fact 30 (f := .glo "over_by") rfl)
  obtain ⟨fd_greatest_in, D_greatest_in⟩ := c.d.def_ 31 (d := d_greatest_in) rfl
  have gl_greatest_in := He.glo_ok X G (c.fact 31 (f := .glo "greatest_in") rfl)
  obtain ⟨fd_greatest_at, D_greatest_at⟩ := c.d.def_ 32 (d := d_greatest_at) rfl
  have gl_greatest_at := He.glo_ok X G (c.fact 32 (f := .glo "greatest_at") rfl)
  obtain ⟨fd_is_wish, D_is_wish⟩ := c.d.def_ 33 (d := d_is_wish) rfl
  have gl_is_wish := He.glo_ok X G (c.fact 33 (f := .glo "is_wish") rfl)
  obtain ⟨fd_least_stair, D_least_stair⟩ := c.d.def_ 34 (d := d_least_stair) rfl
  have gl_least_stair := He.glo_ok X G (c.fact 34 (f := .glo "least_stair") rfl)
  obtain ⟨fd__law_mixed, D__law_mixed⟩ := c.d.def_ 35 (d := d__law_mixed) rfl
  have gl__law_mixed := He.glo_ok X G (c.fact 35 (f := .glo "_law_mixed") rfl)
  obtain ⟨fd__law_begin, D__law_begin⟩ := c.d.def_ 36 (d := d__law_begin) rfl
  have gl__law_begin := He.glo_ok X G (c.fact 36 (f := .glo "_law_begin") rfl)
  obtain ⟨fd__law_draw, D__law_draw⟩ := c.d.def_ 37 (d := d__law_draw) rfl
  have gl__law_draw := He.glo_ok X G (c.fact 37 (f := .glo "_law_draw") rfl)
  obtain ⟨fd__law_stair_drawn, D__law_stair_drawn⟩ := c.d.def_ 38 (d := d__law_stair_drawn) rfl
  have gl__law_stair_drawn := He.glo_ok X G (c.fact 38 (f := .glo "_law_stair_drawn") rfl)
  obtain ⟨fd__law_heard, D__law_heard⟩ := c.d.def_ 39 (d := d__law_heard) rfl
  have gl__law_heard := He.glo_ok X G (c.fact 39 (f := .glo "_law_heard") rfl)
  obtain ⟨fd__law_refuse, D__law_refuse⟩ := c.d.def_ 40 (d := d__law_refuse) rfl
  have gl__law_refuse := He.glo_ok X G (c.fact 40 (f := .glo "_law_refuse") rfl)
  obtain ⟨fd__law_odd_stairs, D__law_odd_stairs⟩ := c.d.def_ 41 (d := d__law_odd_stairs) rfl
  have gl__law_odd_stairs := He.glo_ok X G (c.fact 41 (f := .glo "_law_odd_stairs") rfl)
  obtain ⟨fd__law_odd_lengths, D__law_odd_lengths⟩ := c.d.def_ 42 (d := d__law_odd_lengths) rfl
  have gl__law_odd_lengths := He.glo_ok X G (c.fact 42 (f := .glo "_law_odd_lengths") rfl)
  obtain ⟨fd__law_doors, D__law_doors⟩ := c.d.def_ 43 (d := d__law_doors) rfl
  have gl__law_doors := He.glo_ok X G (c.fact 43 (f := .glo "_law_doors") rfl)
  obtain ⟨fd__law_pairs, D__law_pairs⟩ := c.d.def_ 44 (d := d__law_pairs) rfl
  have gl__law_pairs := He.glo_ok X G (c.fact 44 (f := .glo "_law_pairs") rfl)
  obtain ⟨fd__law_stairs_right, D__law_stairs_right⟩ := c.d.def_ 45 (d := d__law_stairs_right) rfl
  have gl__law_stairs_right := He.glo_ok X G (c.fact 45 (f := .glo "_law_stairs_right") rfl)
  obtain ⟨fd__law_numbers_right, D__law_numbers_right⟩ := c.d.def_ 46 (d := d__law_numbers_right) rfl
  have gl__law_numbers_right := He.glo_ok X G (c.fact 46 (f := .glo "_law_numbers_right") rfl)
  obtain ⟨fd__law_rest_right, D__law_rest_right⟩ := c.d.def_ 47 (d := d__law_rest_right) rfl
  have gl__law_rest_right := He.glo_ok X G (c.fact 47 (f := .glo "_law_rest_right") rfl)
  obtain ⟨fd_law, D_law⟩ := c.d.def_ 48 (d := d_law) rfl
  have gl_law := He.glo_ok X G (c.fact 48 (f := .glo "law") rfl)
  have m_list := He.free_ok X G (c.fact 53 (f := .free "list") rfl)
  have m_isinstance := He.free_ok X G (c.fact 54 (f := .free "isinstance") rfl)
  have m_int := He.free_ok X G (c.fact 55 (f := .free "int") rfl)
  have m_bool := He.free_ok X G (c.fact 56 (f := .free "bool") rfl)
  have m_abs := He.free_ok X G (c.fact 57 (f := .free "abs") rfl)
  have m_tuple := He.free_ok X G (c.fact 58 (f := .free "tuple") rfl)
  have m_len := He.free_ok X G (c.fact 59 (f := .free "len") rfl)
  have m_all := He.free_ok X G (c.fact 60 (f := .free "all") rfl)
  have m_zip := He.free_ok X G (c.fact 61 (f := .free "zip") rfl)
  have m_range := He.free_ok X G (c.fact 62 (f := .free "range") rfl)
  have m_enumerate := He.free_ok X G (c.fact 63 (f := .free "enumerate") rfl)
  have m_max := He.free_ok X G (c.fact 64 (f := .free "max") rfl)
  have m_min := He.free_ok X G (c.fact 65 (f := .free "min") rfl)
  have m_repr := He.free_ok X G (c.fact 66 (f := .free "repr") rfl)
  have hex := c.more
  unfold ex at hex
  simp only [Bool.and_eq_true] at hex
  have c_NOUGHT : CsIs K mg "NOUGHT" k_NOUGHT := cs_tup X G (c.fact 49 (f := .glo "NOUGHT") rfl) hex.1.1.1.1.1.1.1.1.1.1.1.1.1.1.1.1.1.1.1.1.1.1.1.1.1.1.1.1.1.1.1.1.1.1.1.1.1.1.1.1.1.1.1.1.1.1.1.1.1.1.1.1.1 rfl
  have g_BadNumber := He.glo_ok X G (c.fact 67 (f := .glo "BadNumber") rfl)
  have g_BadLaying := He.glo_ok X G (c.fact 68 (f := .glo "BadLaying") rfl)
  have g_BadStair := He.glo_ok X G (c.fact 69 (f := .glo "BadStair") rfl)
  have g_BadLength := He.glo_ok X G (c.fact 70 (f := .glo "BadLength") rfl)
  have g_BadWishes := He.glo_ok X G (c.fact 71 (f := .glo "BadWishes") rfl)
  have g_TooMany := He.glo_ok X G (c.fact 72 (f := .glo "TooMany") rfl)
  have g_NestError := He.glo_ok X G (c.fact 73 (f := .glo "NestError") rfl)
  have g_OverflowError := He.free_ok X G (c.fact 74 (f := .free "OverflowError") rfl)
  have xb_BadNumber : XB K (xName 3) "given" "ValueError.__new__" tlV := xB_ok (hex.1.1.1.1.1.1.1.1.1.1.1.1.1.1.1.1.1.1.1.1.1.1.1.1.1.1.1.1.1.1.1.1.1.1.1.1.1.1.1.1.1.1.1.1.1.1.1.1.1.1.1.1.2)
  obtain ⟨fdi_BadNumber, Di_BadNumber⟩ := c.d.def_ 49 (d := di_BadNumber) rfl
  have xb_BadLaying : XB K (xName 6) "given" "ValueError.__new__" tlV := xB_ok (hex.1.1.1.1.1.1.1.1.1.1.1.1.1.1.1.1.1.1.1.1.1.1.1.1.1.1.1.1.1.1.1.1.1.1.1.1.1.1.1.1.1.1.1.1.1.1.1.1.1.1.1.2)
  obtain ⟨fdi_BadLaying, Di_BadLaying⟩ := c.d.def_ 50 (d := di_BadLaying) rfl
  have xb_BadStair : XB K (xName 9) "given" "ValueError.__new__" tlV := xB_ok (hex.1.1.1.1.1.1.1.1.1.1.1.1.1.1.1.1.1.1.1.1.1.1.1.1.1.1.1.1.1.1.1.1.1.1.1.1.1.1.1.1.1.1.1.1.1.1.1.1.1.1.2)
  obtain ⟨fdi_BadStair, Di_BadStair⟩ := c.d.def_ 51 (d := di_BadStair) rfl
  have xb_BadLength : XB K (xName 20) "given" "ValueError.__new__" tlV := xB_ok (hex.1.1.1.1.1.1.1.1.1.1.1.1.1.1.1.1.1.1.1.1.1.1.1.1.1.1.1.1.1.1.1.1.1.1.1.1.1.1.1.1.1.1.1.1.1.1.1.1.1.2)
  obtain ⟨fdi_BadLength, Di_BadLength⟩ := c.d.def_ 52 (d := di_BadLength) rfl
  have xb_BadWishes : XB K (xName 21) "given" "ValueError.__new__" tlV := xB_ok (hex.1.1.1.1.1.1.1.1.1.1.1.1.1.1.1.1.1.1.1.1.1.1.1.1.1.1.1.1.1.1.1.1.1.1.1.1.1.1.1.1.1.1.1.1.1.1.1.1.2)
  obtain ⟨fdi_BadWishes, Di_BadWishes⟩ := c.d.def_ 53 (d := di_BadWishes) rfl
  have xb_TooMany : XB K (xName 25) "most" "OverflowError.__new__" tlO := xB_ok (hex.1.1.1.1.1.1.1.1.1.1.1.1.1.1.1.1.1.1.1.1.1.1.1.1.1.1.1.1.1.1.1.1.1.1.1.1.1.1.1.1.1.1.1.1.1.1.1.2)
  obtain ⟨fdi_TooMany, Di_TooMany⟩ := c.d.def_ 54 (d := di_TooMany) rfl
  have b_NestError := hex.1.1.1.1.1.1.1.1.1.1.1.1.1.1.1.1.1.1.1.1.1.1.1.1.1.1.1.1.1.1.1.1.1.1.1.1.1.1.1.1.1.1.1.1.1.1.2
  have b_OverflowError := hex.1.1.1.1.1.1.1.1.1.1.1.1.1.1.1.1.1.1.1.1.1.1.1.1.1.1.1.1.1.1.1.1.1.1.1.1.1.1.1.1.1.1.1.1.1.2
  have k_TooMany : KxC K (He.ga K (xName 25)) := kxB_ok (hex.1.1.1.1.1.1.1.1.1.1.1.1.1.1.1.1.1.1.1.1.1.1.1.1.1.1.1.1.1.1.1.1.1.1.1.1.1.1.1.1.1.1.1.1.2)
  have k_BadWishes : KxC K (He.ga K (xName 21)) := kxB_ok (hex.1.1.1.1.1.1.1.1.1.1.1.1.1.1.1.1.1.1.1.1.1.1.1.1.1.1.1.1.1.1.1.1.1.1.1.1.1.1.1.1.1.1.1.2)
  have k_BadLength : KxC K (He.ga K (xName 20)) := kxB_ok (hex.1.1.1.1.1.1.1.1.1.1.1.1.1.1.1.1.1.1.1.1.1.1.1.1.1.1.1.1.1.1.1.1.1.1.1.1.1.1.1.1.1.1.2)
  have k_BadStair : KxC K (He.ga K (xName 9)) := kxB_ok (hex.1.1.1.1.1.1.1.1.1.1.1.1.1.1.1.1.1.1.1.1.1.1.1.1.1.1.1.1.1.1.1.1.1.1.1.1.1.1.1.1.1.2)
  have k_BadLaying : KxC K (He.ga K (xName 6)) := kxB_ok (hex.1.1.1.1.1.1.1.1.1.1.1.1.1.1.1.1.1.1.1.1.1.1.1.1.1.1.1.1.1.1.1.1.1.1.1.1.1.1.1.1.2)
  have k_BadNumber : KxC K (He.ga K (xName 3)) := kxB_ok (hex.1.1.1.1.1.1.1.1.1.1.1.1.1.1.1.1.1.1.1.1.1.1.1.1.1.1.1.1.1.1.1.1.1.1.1.1.1.1.1.2)
  have i_TooMany_BadStair : PySem.W.kitOne K (.ref (He.ga K (xName 25))) (.ref (He.ga K "BadStair")) = some false := of_decide_eq_true (hex.1.1.1.1.1.1.1.1.1.1.1.1.1.1.1.1.1.1.1.1.1.1.1.1.1.1.1.1.1.1.1.1.1.1.1.1.1.1.2)
  have i_BadWishes_BadStair : PySem.W.kitOne K (.ref (He.ga K (xName 21))) (.ref (He.ga K "BadStair")) = some false := of_decide_eq_true (hex.1.1.1.1.1.1.1.1.1.1.1.1.1.1.1.1.1.1.1.1.1.1.1.1.1.1.1.1.1.1.1.1.1.1.1.1.1.2)
  have i_BadLength_BadStair : PySem.W.kitOne K (.ref (He.ga K (xName 20))) (.ref (He.ga K "BadStair")) = some false := of_decide_eq_true (hex.1.1.1.1.1.1.1.1.1.1.1.1.1.1.1.1.1.1.1.1.1.1.1.1.1.1.1.1.1.1.1.1.1.1.1.1.2)
  have i_BadStair_BadStair : PySem.W.kitOne K (.ref (He.ga K (xName 9))) (.ref (He.ga K "BadStair")) = some true := of_decide_eq_true (hex.1.1.1.1.1.1.1.1.1.1.1.1.1.1.1.1.1.1.1.1.1.1.1.1.1.1.1.1.1.1.1.1.1.1.1.2)
  have i_BadLaying_BadStair : PySem.W.kitOne K (.ref (He.ga K (xName 6))) (.ref (He.ga K "BadStair")) = some false := of_decide_eq_true (hex.1.1.1.1.1.1.1.1.1.1.1.1.1.1.1.1.1.1.1.1.1.1.1.1.1.1.1.1.1.1.1.1.1.1.2)
  have i_BadNumber_BadStair : PySem.W.kitOne K (.ref (He.ga K (xName 3))) (.ref (He.ga K "BadStair")) = some false := of_decide_eq_true (hex.1.1.1.1.1.1.1.1.1.1.1.1.1.1.1.1.1.1.1.1.1.1.1.1.1.1.1.1.1.1.1.1.1.2)
  have i_TooMany_BadNumber : PySem.W.kitOne K (.ref (He.ga K (xName 25))) (.ref (He.ga K "BadNumber")) = some false := of_decide_eq_true (hex.1.1.1.1.1.1.1.1.1.1.1.1.1.1.1.1.1.1.1.1.1.1.1.1.1.1.1.1.1.1.1.1.2)
  have i_BadWishes_BadNumber : PySem.W.kitOne K (.ref (He.ga K (xName 21))) (.ref (He.ga K "BadNumber")) = some false := of_decide_eq_true (hex.1.1.1.1.1.1.1.1.1.1.1.1.1.1.1.1.1.1.1.1.1.1.1.1.1.1.1.1.1.1.1.2)
  have i_BadLength_BadNumber : PySem.W.kitOne K (.ref (He.ga K (xName 20))) (.ref (He.ga K "BadNumber")) = some false := of_decide_eq_true (hex.1.1.1.1.1.1.1.1.1.1.1.1.1.1.1.1.1.1.1.1.1.1.1.1.1.1.1.1.1.1.2)
  have i_BadStair_BadNumber : PySem.W.kitOne K (.ref (He.ga K (xName 9))) (.ref (He.ga K "BadNumber")) = some false := of_decide_eq_true (hex.1.1.1.1.1.1.1.1.1.1.1.1.1.1.1.1.1.1.1.1.1.1.1.1.1.1.1.1.1.2)
  have i_BadLaying_BadNumber : PySem.W.kitOne K (.ref (He.ga K (xName 6))) (.ref (He.ga K "BadNumber")) = some false := of_decide_eq_true (hex.1.1.1.1.1.1.1.1.1.1.1.1.1.1.1.1.1.1.1.1.1.1.1.1.1.1.1.1.2)
  have i_BadNumber_BadNumber : PySem.W.kitOne K (.ref (He.ga K (xName 3))) (.ref (He.ga K "BadNumber")) = some true := of_decide_eq_true (hex.1.1.1.1.1.1.1.1.1.1.1.1.1.1.1.1.1.1.1.1.1.1.1.1.1.1.1.2)
  have i_TooMany_BadLength : PySem.W.kitOne K (.ref (He.ga K (xName 25))) (.ref (He.ga K "BadLength")) = some false := of_decide_eq_true (hex.1.1.1.1.1.1.1.1.1.1.1.1.1.1.1.1.1.1.1.1.1.1.1.1.1.1.2)
  have i_BadWishes_BadLength : PySem.W.kitOne K (.ref (He.ga K (xName 21))) (.ref (He.ga K "BadLength")) = some false := of_decide_eq_true (hex.1.1.1.1.1.1.1.1.1.1.1.1.1.1.1.1.1.1.1.1.1.1.1.1.1.2)
  have i_BadLength_BadLength : PySem.W.kitOne K (.ref (He.ga K (xName 20))) (.ref (He.ga K "BadLength")) = some true := of_decide_eq_true (hex.1.1.1.1.1.1.1.1.1.1.1.1.1.1.1.1.1.1.1.1.1.1.1.1.2)
  have i_BadStair_BadLength : PySem.W.kitOne K (.ref (He.ga K (xName 9))) (.ref (He.ga K "BadLength")) = some false := of_decide_eq_true (hex.1.1.1.1.1.1.1.1.1.1.1.1.1.1.1.1.1.1.1.1.1.1.1.2)
  have i_BadLaying_BadLength : PySem.W.kitOne K (.ref (He.ga K (xName 6))) (.ref (He.ga K "BadLength")) = some false := of_decide_eq_true (hex.1.1.1.1.1.1.1.1.1.1.1.1.1.1.1.1.1.1.1.1.1.1.2)
  have i_BadNumber_BadLength : PySem.W.kitOne K (.ref (He.ga K (xName 3))) (.ref (He.ga K "BadLength")) = some false := of_decide_eq_true (hex.1.1.1.1.1.1.1.1.1.1.1.1.1.1.1.1.1.1.1.1.1.2)
  have i_TooMany_BadWishes : PySem.W.kitOne K (.ref (He.ga K (xName 25))) (.ref (He.ga K "BadWishes")) = some false := of_decide_eq_true (hex.1.1.1.1.1.1.1.1.1.1.1.1.1.1.1.1.1.1.1.1.2)
  have i_BadWishes_BadWishes : PySem.W.kitOne K (.ref (He.ga K (xName 21))) (.ref (He.ga K "BadWishes")) = some true := of_decide_eq_true (hex.1.1.1.1.1.1.1.1.1.1.1.1.1.1.1.1.1.1.1.2)
  have i_BadLength_BadWishes : PySem.W.kitOne K (.ref (He.ga K (xName 20))) (.ref (He.ga K "BadWishes")) = some false := of_decide_eq_true (hex.1.1.1.1.1.1.1.1.1.1.1.1.1.1.1.1.1.1.2)
  have i_BadStair_BadWishes : PySem.W.kitOne K (.ref (He.ga K (xName 9))) (.ref (He.ga K "BadWishes")) = some false := of_decide_eq_true (hex.1.1.1.1.1.1.1.1.1.1.1.1.1.1.1.1.1.2)
  have i_BadLaying_BadWishes : PySem.W.kitOne K (.ref (He.ga K (xName 6))) (.ref (He.ga K "BadWishes")) = some false := of_decide_eq_true (hex.1.1.1.1.1.1.1.1.1.1.1.1.1.1.1.1.2)
  have i_BadNumber_BadWishes : PySem.W.kitOne K (.ref (He.ga K (xName 3))) (.ref (He.ga K "BadWishes")) = some false := of_decide_eq_true (hex.1.1.1.1.1.1.1.1.1.1.1.1.1.1.1.2)
  have i_TooMany_BadLaying : PySem.W.kitOne K (.ref (He.ga K (xName 25))) (.ref (He.ga K "BadLaying")) = some false := of_decide_eq_true (hex.1.1.1.1.1.1.1.1.1.1.1.1.1.1.2)
  have i_BadWishes_BadLaying : PySem.W.kitOne K (.ref (He.ga K (xName 21))) (.ref (He.ga K "BadLaying")) = some false := of_decide_eq_true (hex.1.1.1.1.1.1.1.1.1.1.1.1.1.2)
  have i_BadLength_BadLaying : PySem.W.kitOne K (.ref (He.ga K (xName 20))) (.ref (He.ga K "BadLaying")) = some false := of_decide_eq_true (hex.1.1.1.1.1.1.1.1.1.1.1.1.2)
  have i_BadStair_BadLaying : PySem.W.kitOne K (.ref (He.ga K (xName 9))) (.ref (He.ga K "BadLaying")) = some false := of_decide_eq_true (hex.1.1.1.1.1.1.1.1.1.1.1.2)
  have i_BadLaying_BadLaying : PySem.W.kitOne K (.ref (He.ga K (xName 6))) (.ref (He.ga K "BadLaying")) = some true := of_decide_eq_true (hex.1.1.1.1.1.1.1.1.1.1.2)
  have i_BadNumber_BadLaying : PySem.W.kitOne K (.ref (He.ga K (xName 3))) (.ref (He.ga K "BadLaying")) = some false := of_decide_eq_true (hex.1.1.1.1.1.1.1.1.1.2)
  have i_TooMany_TooMany : PySem.W.kitOne K (.ref (He.ga K (xName 25))) (.ref (He.ga K "TooMany")) = some true := of_decide_eq_true (hex.1.1.1.1.1.1.1.1.2)
  have i_BadWishes_TooMany : PySem.W.kitOne K (.ref (He.ga K (xName 21))) (.ref (He.ga K "TooMany")) = some false := of_decide_eq_true (hex.1.1.1.1.1.1.1.2)
  have i_BadLength_TooMany : PySem.W.kitOne K (.ref (He.ga K (xName 20))) (.ref (He.ga K "TooMany")) = some false := of_decide_eq_true (hex.1.1.1.1.1.1.2)
  have i_BadStair_TooMany : PySem.W.kitOne K (.ref (He.ga K (xName 9))) (.ref (He.ga K "TooMany")) = some false := of_decide_eq_true (hex.1.1.1.1.1.2)
  have i_BadLaying_TooMany : PySem.W.kitOne K (.ref (He.ga K (xName 6))) (.ref (He.ga K "TooMany")) = some false := of_decide_eq_true (hex.1.1.1.1.2)
  have i_BadNumber_TooMany : PySem.W.kitOne K (.ref (He.ga K (xName 3))) (.ref (He.ga K "TooMany")) = some false := of_decide_eq_true (hex.1.1.1.2)
  have sy := hex.1.1.2
  have om : noObj K = true := hex.1.2
  have e_BadNumber_NestError : PySem.W.exmOne K (.ref (He.ga K (xName 3))) (.ref (He.ga K "NestError")) = some true := of_decide_eq_true (c.fact 75 (f := .exm "BadNumber" "NestError" true) rfl)
  have e_BadNumber_TooMany : PySem.W.exmOne K (.ref (He.ga K (xName 3))) (.ref (He.ga K "TooMany")) = some false := of_decide_eq_true (c.fact 76 (f := .exm "BadNumber" "TooMany" false) rfl)
  have e_BadLaying_NestError : PySem.W.exmOne K (.ref (He.ga K (xName 6))) (.ref (He.ga K "NestError")) = some true := of_decide_eq_true (c.fact 77 (f := .exm "BadLaying" "NestError" true) rfl)
  have e_BadLaying_TooMany : PySem.W.exmOne K (.ref (He.ga K (xName 6))) (.ref (He.ga K "TooMany")) = some false := of_decide_eq_true (c.fact 78 (f := .exm "BadLaying" "TooMany" false) rfl)
  have e_BadStair_NestError : PySem.W.exmOne K (.ref (He.ga K (xName 9))) (.ref (He.ga K "NestError")) = some true := of_decide_eq_true (c.fact 79 (f := .exm "BadStair" "NestError" true) rfl)
  have e_BadStair_TooMany : PySem.W.exmOne K (.ref (He.ga K (xName 9))) (.ref (He.ga K "TooMany")) = some false := of_decide_eq_true (c.fact 80 (f := .exm "BadStair" "TooMany" false) rfl)
  have e_BadLength_NestError : PySem.W.exmOne K (.ref (He.ga K (xName 20))) (.ref (He.ga K "NestError")) = some true := of_decide_eq_true (c.fact 81 (f := .exm "BadLength" "NestError" true) rfl)
  have e_BadLength_TooMany : PySem.W.exmOne K (.ref (He.ga K (xName 20))) (.ref (He.ga K "TooMany")) = some false := of_decide_eq_true (c.fact 82 (f := .exm "BadLength" "TooMany" false) rfl)
  have e_BadWishes_NestError : PySem.W.exmOne K (.ref (He.ga K (xName 21))) (.ref (He.ga K "NestError")) = some true := of_decide_eq_true (c.fact 83 (f := .exm "BadWishes" "NestError" true) rfl)
  have e_BadWishes_TooMany : PySem.W.exmOne K (.ref (He.ga K (xName 21))) (.ref (He.ga K "TooMany")) = some false := of_decide_eq_true (c.fact 84 (f := .exm "BadWishes" "TooMany" false) rfl)
  have e_TooMany_NestError : PySem.W.exmOne K (.ref (He.ga K (xName 25))) (.ref (He.ga K "NestError")) = some false := of_decide_eq_true (c.fact 85 (f := .exm "TooMany" "NestError" false) rfl)
  have e_TooMany_TooMany : PySem.W.exmOne K (.ref (He.ga K (xName 25))) (.ref (He.ga K "TooMany")) = some true := of_decide_eq_true (c.fact 86 (f := .exm "TooMany" "TooMany" true) rfl)
  have c_MOST_LETTERS : CsIs K mg "MOST_LETTERS" k_MOST_LETTERS := cs_int X G (c.fact 50 (f := .int "MOST_LETTERS" 8) rfl)
  have c_MOST_STAIR : CsIs K mg "MOST_STAIR" k_MOST_STAIR := cs_int X G (c.fact 51 (f := .int "MOST_STAIR" 1000) rfl)
  have c_MOST_WISHES : CsIs K mg "MOST_WISHES" k_MOST_WISHES := cs_int X G (c.fact 52 (f := .int "MOST_WISHES" 20) rfl)
  have e := hfa.symm.trans gl_law
  cases e
  have b := FunD.bindsA (ps := ["_law_script"]) D_law fun _ _ _ _ _ _ us hl => match us, hl with | [_], _ => rfl
  refine ⟨fd_law, fun s v => b s [v] rfl, fun base _ _ tb => ?_⟩
  have ap := c.apart
  have x_BadNumber := xi_BadNumber (P := P) (w := w) (base := base) Di_BadNumber g_BadNumber xb_BadNumber g_NestError b_NestError
  have x_BadLaying := xi_BadLaying (P := P) (w := w) (base := base) Di_BadLaying g_BadLaying xb_BadLaying g_NestError b_NestError
  have x_BadStair := xi_BadStair (P := P) (w := w) (base := base) Di_BadStair g_BadStair xb_BadStair g_NestError b_NestError
  have x_BadLength := xi_BadLength (P := P) (w := w) (base := base) Di_BadLength g_BadLength xb_BadLength g_NestError b_NestError
  have x_BadWishes := xi_BadWishes (P := P) (w := w) (base := base) Di_BadWishes g_BadWishes xb_BadWishes g_NestError b_NestError
  have x_TooMany := xi_TooMany (P := P) (w := w) (base := base) Di_TooMany g_TooMany xb_TooMany g_OverflowError b_OverflowError
  have h_is_integer := ok_is_integer (P := P) (w := w) (base := base) D_is_integer gl_is_integer om m_isinstance m_int m_bool
  have h_common := ok_common (P := P) (w := w) (base := base) D_common gl_common om m_abs m_int
  have h_made := ok_made (P := P) (w := w) (base := base) D_made gl_made om h_common
  have h_is_fraction := ok_is_fraction (P := P) (w := w) (base := base) D_is_fraction gl_is_fraction om m_isinstance m_tuple m_len m_all h_is_integer h_common
  have h_add := ok_add (P := P) (w := w) (base := base) D_add gl_add om h_made
  have h_sub := ok_sub (P := P) (w := w) (base := base) D_sub gl_sub om h_made
  have h_is_under_ratios := ok_is_under_ratios (P := P) (w := w) (base := base) D_is_under_ratios gl_is_under_ratios om
  have h_sum_in := ok_sum_in (P := P) (w := w) (base := base) D_sum_in gl_sum_in om c_NOUGHT h_add
  have h_is_between := ok_is_between (P := P) (w := w) (base := base) D_is_between gl_is_between om h_is_integer
  have h_is_stair := ok_is_stair (P := P) (w := w) (base := base) D_is_stair gl_is_stair om m_isinstance m_tuple m_len m_all m_zip c_MOST_LETTERS c_MOST_STAIR h_is_between
  have h_need_stair := ok_need_stair (P := P) (w := w) (base := base) D_need_stair gl_need_stair om x_BadStair h_is_stair
  have h_need_many := ok_need_many (P := P) (w := w) (base := base) D_need_many gl_need_many om c_MOST_LETTERS x_BadNumber h_is_between
  have h_costs_of := ok_costs_of (P := P) (w := w) (base := base) D_costs_of gl_costs_of om m_tuple m_range h_need_many h_made
  have h_need_place := ok_need_place (P := P) (w := w) (base := base) D_need_place gl_need_place om m_len c_MOST_STAIR x_BadNumber h_need_stair h_is_between
  have h_raised_in := ok_raised_in (P := P) (w := w) (base := base) D_raised_in gl_raised_in om m_tuple m_enumerate m_max
  have h_raised := ok_raised (P := P) (w := w) (base := base) D_raised gl_raised om h_need_place h_raised_in
  have h_lowered := ok_lowered (P := P) (w := w) (base := base) D_lowered gl_lowered om m_tuple m_enumerate m_min h_need_place
  have h_need_pair := ok_need_pair (P := P) (w := w) (base := base) D_need_pair gl_need_pair om m_len x_BadStair h_need_stair
  have h_is_under_stairs := ok_is_under_stairs (P := P) (w := w) (base := base) D_is_under_stairs gl_is_under_stairs om m_all m_zip h_need_pair
  have h_both := ok_both (P := P) (w := w) (base := base) D_both gl_both om m_tuple m_zip c_MOST_STAIR x_TooMany h_need_pair
  have h_meet := ok_meet (P := P) (w := w) (base := base) D_meet gl_meet om m_tuple m_zip m_min h_need_pair
  have h_join := ok_join (P := P) (w := w) (base := base) D_join gl_join om m_tuple m_zip m_max h_need_pair
  have h_fewer := ok_fewer (P := P) (w := w) (base := base) D_fewer gl_fewer om m_len x_BadNumber h_need_stair h_is_between
  have h_more := ok_more (P := P) (w := w) (base := base) D_more gl_more om m_len c_MOST_LETTERS x_BadNumber h_need_stair h_is_between
  have h_price_in := ok_price_in (P := P) (w := w) (base := base) D_price_in gl_price_in om m_enumerate m_len h_made h_sum_in
  have h_need_length := ok_need_length (P := P) (w := w) (base := base) D_need_length gl_need_length om c_NOUGHT x_BadLength h_is_fraction h_is_under_ratios
  have h_is_had_in := ok_is_had_in (P := P) (w := w) (base := base) D_is_had_in gl_is_had_in om h_is_under_ratios h_price_in
  have h_need_both := ok_need_both (P := P) (w := w) (base := base) D_need_both gl_need_both om h_need_stair h_need_length
  have h_is_had := ok_is_had (P := P) (w := w) (base := base) D_is_had gl_is_had om h_need_both h_is_had_in
  have h_over_by := ok_over_by (P := P) (w := w) (base := base) D_over_by gl_over_by om h_need_both h_sub h_price_in
  have h_greatest_in := ok_greatest_in (P := P) (w := w) (base := base) D_greatest_in gl_greatest_in om c_MOST_STAIR h_is_had_in h_raised_in
  have h_greatest_at := ok_greatest_at (P := P) (w := w) (base := base) D_greatest_at gl_greatest_at om m_len x_BadNumber h_need_stair h_is_between h_need_length h_is_had_in h_greatest_in
  have h_is_wish := ok_is_wish (P := P) (w := w) (base := base) D_is_wish gl_is_wish om m_isinstance m_tuple m_len c_MOST_STAIR h_is_between
  have h_least_stair := ok_least_stair (P := P) (w := w) (base := base) D_least_stair gl_least_stair om m_isinstance m_tuple m_len m_all m_range m_max c_MOST_WISHES x_BadWishes h_need_many h_is_wish
  have h__law_mixed := ok__law_mixed (P := P) (w := w) (base := base) D__law_mixed gl__law_mixed om m_int
  have h__law_draw := FnIs.toG (ok__law_draw (P := P) (w := w) (base := base) D__law_draw gl__law_draw om m_int m_len h__law_mixed)
  have h__law_stair_drawn := ok__law_stair_drawn (P := P) (w := w) (base := base) D__law_stair_drawn gl__law_stair_drawn om m_range m_int m_tuple h__law_draw
  have l__law_doors_0 := (lam__law_doors_0 (P := P) (w := w) (base := base) D__law_doors rfl om h_need_stair).mono (k' := 8) (by decide)
  have l__law_doors_1 := (lam__law_doors_1 (P := P) (w := w) (base := base) D__law_doors rfl om h_raised).mono (k' := 8) (by decide)
  have l__law_doors_2 := (lam__law_doors_2 (P := P) (w := w) (base := base) D__law_doors rfl om h_lowered).mono (k' := 8) (by decide)
  have l__law_doors_3 := (lam__law_doors_3 (P := P) (w := w) (base := base) D__law_doors rfl om h_is_under_stairs).mono (k' := 8) (by decide)
  have l__law_doors_4 := (lam__law_doors_4 (P := P) (w := w) (base := base) D__law_doors rfl om h_both).mono (k' := 8) (by decide)
  have l__law_doors_5 := (lam__law_doors_5 (P := P) (w := w) (base := base) D__law_doors rfl om h_meet).mono (k' := 8) (by decide)
  have l__law_doors_6 := (lam__law_doors_6 (P := P) (w := w) (base := base) D__law_doors rfl om h_join).mono (k' := 8) (by decide)
  have l__law_doors_7 := (lam__law_doors_7 (P := P) (w := w) (base := base) D__law_doors rfl om h_fewer).mono (k' := 8) (by decide)
  have l__law_doors_8 := (lam__law_doors_8 (P := P) (w := w) (base := base) D__law_doors rfl om h_more).mono (k' := 8) (by decide)
  have l__law_doors_9 := (lam__law_doors_9 (P := P) (w := w) (base := base) D__law_doors rfl om h_is_had).mono (k' := 8) (by decide)
  have l__law_doors_10 := (lam__law_doors_10 (P := P) (w := w) (base := base) D__law_doors rfl om h_over_by).mono (k' := 8) (by decide)
  have l__law_doors_11 := (lam__law_doors_11 (P := P) (w := w) (base := base) D__law_doors rfl om h_greatest_at).mono (k' := 8) (by decide)
  have l__law_pairs_0 := (lam__law_pairs_0 (P := P) (w := w) (base := base) D__law_pairs rfl om h_is_under_stairs).mono (k' := 8) (by decide)
  have l__law_pairs_1 := (lam__law_pairs_1 (P := P) (w := w) (base := base) D__law_pairs rfl om h_both).mono (k' := 8) (by decide)
  have l__law_pairs_2 := (lam__law_pairs_2 (P := P) (w := w) (base := base) D__law_pairs rfl om h_meet).mono (k' := 8) (by decide)
  have l__law_pairs_3 := (lam__law_pairs_3 (P := P) (w := w) (base := base) D__law_pairs rfl om h_join).mono (k' := 8) (by decide)
  have l__law_numbers_right_0 := (lam__law_numbers_right_0 (P := P) (w := w) (base := base) D__law_numbers_right rfl om h_raised).mono (k' := 8) (by decide)
  have l__law_numbers_right_1 := (lam__law_numbers_right_1 (P := P) (w := w) (base := base) D__law_numbers_right rfl om h_lowered).mono (k' := 8) (by decide)
  have l__law_numbers_right_2 := (lam__law_numbers_right_2 (P := P) (w := w) (base := base) D__law_numbers_right rfl om h_greatest_at).mono (k' := 8) (by decide)
  have l__law_numbers_right_3 := (lam__law_numbers_right_3 (P := P) (w := w) (base := base) D__law_numbers_right rfl om h_fewer).mono (k' := 8) (by decide)
  have l__law_numbers_right_4 := (lam__law_numbers_right_4 (P := P) (w := w) (base := base) D__law_numbers_right rfl om h_raised).mono (k' := 8) (by decide)
  have l__law_numbers_right_5 := (lam__law_numbers_right_5 (P := P) (w := w) (base := base) D__law_numbers_right rfl om h_lowered).mono (k' := 8) (by decide)
  have l__law_numbers_right_6 := (lam__law_numbers_right_6 (P := P) (w := w) (base := base) D__law_numbers_right rfl om h_more).mono (k' := 8) (by decide)
  have l__law_numbers_right_7 := (lam__law_numbers_right_7 (P := P) (w := w) (base := base) D__law_numbers_right rfl om h_costs_of).mono (k' := 8) (by decide)
  have l__law_numbers_right_8 := (lam__law_numbers_right_8 (P := P) (w := w) (base := base) D__law_numbers_right rfl om h_least_stair).mono (k' := 8) (by decide)
  have l__law_rest_right_0 := (lam__law_rest_right_0 (P := P) (w := w) (base := base) D__law_rest_right rfl om h_is_had).mono (k' := 8) (by decide)
  have l__law_rest_right_1 := (lam__law_rest_right_1 (P := P) (w := w) (base := base) D__law_rest_right rfl om h_over_by).mono (k' := 8) (by decide)
  have l__law_rest_right_2 := (lam__law_rest_right_2 (P := P) (w := w) (base := base) D__law_rest_right rfl om h_greatest_at).mono (k' := 8) (by decide)
  have l__law_rest_right_3 := (lam__law_rest_right_3 (P := P) (w := w) (base := base) D__law_rest_right rfl om h_least_stair).mono (k' := 8) (by decide)
  have lo : LamsOk P w K mg base 8 lamR := lams_of (allE_cons (p := fun e => LamOk P w K mg base 8 e.x e.p e.f) l__law_doors_0 (allE_cons (p := fun e => LamOk P w K mg base 8 e.x e.p e.f) l__law_doors_1 (allE_cons (p := fun e => LamOk P w K mg base 8 e.x e.p e.f) l__law_doors_2 (allE_cons (p := fun e => LamOk P w K mg base 8 e.x e.p e.f) l__law_doors_3 (allE_cons (p := fun e => LamOk P w K mg base 8 e.x e.p e.f) l__law_doors_4 (allE_cons (p := fun e => LamOk P w K mg base 8 e.x e.p e.f) l__law_doors_5 (allE_cons (p := fun e => LamOk P w K mg base 8 e.x e.p e.f) l__law_doors_6 (allE_cons (p := fun e => LamOk P w K mg base 8 e.x e.p e.f) l__law_doors_7 (allE_cons (p := fun e => LamOk P w K mg base 8 e.x e.p e.f) l__law_doors_8 (allE_cons (p := fun e => LamOk P w K mg base 8 e.x e.p e.f) l__law_doors_9 (allE_cons (p := fun e => LamOk P w K mg base 8 e.x e.p e.f) l__law_doors_10 (allE_cons (p := fun e => LamOk P w K mg base 8 e.x e.p e.f) l__law_doors_11 (allE_cons (p := fun e => LamOk P w K mg base 8 e.x e.p e.f) l__law_pairs_0 (allE_cons (p := fun e => LamOk P w K mg base 8 e.x e.p e.f) l__law_pairs_1 (allE_cons (p := fun e => LamOk P w K mg base 8 e.x e.p e.f) l__law_pairs_2 (allE_cons (p := fun e => LamOk P w K mg base 8 e.x e.p e.f) l__law_pairs_3 (allE_cons (p := fun e => LamOk P w K mg base 8 e.x e.p e.f) l__law_numbers_right_0 (allE_cons (p := fun e => LamOk P w K mg base 8 e.x e.p e.f) l__law_numbers_right_1 (allE_cons (p := fun e => LamOk P w K mg base 8 e.x e.p e.f) l__law_numbers_right_2 (allE_cons (p := fun e => LamOk P w K mg base 8 e.x e.p e.f) l__law_numbers_right_3 (allE_cons (p := fun e => LamOk P w K mg base 8 e.x e.p e.f) l__law_numbers_right_4 (allE_cons (p := fun e => LamOk P w K mg base 8 e.x e.p e.f) l__law_numbers_right_5 (allE_cons (p := fun e => LamOk P w K mg base 8 e.x e.p e.f) l__law_numbers_right_6 (allE_cons (p := fun e => LamOk P w K mg base 8 e.x e.p e.f) l__law_numbers_right_7 (allE_cons (p := fun e => LamOk P w K mg base 8 e.x e.p e.f) l__law_numbers_right_8 (allE_cons (p := fun e => LamOk P w K mg base 8 e.x e.p e.f) l__law_rest_right_0 (allE_cons (p := fun e => LamOk P w K mg base 8 e.x e.p e.f) l__law_rest_right_1 (allE_cons (p := fun e => LamOk P w K mg base 8 e.x e.p e.f) l__law_rest_right_2 (allE_cons (p := fun e => LamOk P w K mg base 8 e.x e.p e.f) l__law_rest_right_3 allE_nil)))))))))))))))))))))))))))))
  have h__law_heard := ok__law_heard (P := P) (w := w) (base := base) D__law_heard gl__law_heard lo om k_TooMany k_BadWishes k_BadLength k_BadStair k_BadLaying k_BadNumber i_TooMany_BadStair i_BadWishes_BadStair i_BadLength_BadStair i_BadStair_BadStair i_BadLaying_BadStair i_BadNumber_BadStair i_TooMany_BadNumber i_BadWishes_BadNumber i_BadLength_BadNumber i_BadStair_BadNumber i_BadLaying_BadNumber i_BadNumber_BadNumber i_TooMany_BadLength i_BadWishes_BadLength i_BadLength_BadLength i_BadStair_BadLength i_BadLaying_BadLength i_BadNumber_BadLength i_TooMany_BadWishes i_BadWishes_BadWishes i_BadLength_BadWishes i_BadStair_BadWishes i_BadLaying_BadWishes i_BadNumber_BadWishes i_TooMany_BadLaying i_BadWishes_BadLaying i_BadLength_BadLaying i_BadStair_BadLaying i_BadLaying_BadLaying i_BadNumber_BadLaying i_TooMany_TooMany i_BadWishes_TooMany i_BadLength_TooMany i_BadStair_TooMany i_BadLaying_TooMany i_BadNumber_TooMany m_isinstance xb_BadWishes xb_BadLength xb_BadStair xb_BadLaying xb_BadNumber xb_TooMany g_NestError g_TooMany g_BadStair g_BadNumber g_BadLength g_BadWishes g_BadLaying e_BadNumber_NestError e_BadNumber_TooMany e_BadLaying_NestError e_BadLaying_TooMany e_BadStair_NestError e_BadStair_TooMany e_BadLength_NestError e_BadLength_TooMany e_BadWishes_NestError e_BadWishes_TooMany e_TooMany_NestError e_TooMany_TooMany
  have h__law_refuse := ok__law_refuse (P := P) (w := w) (base := base) D__law_refuse gl__law_refuse om sy m_repr h__law_heard
  have h__law_odd_stairs := ok__law_odd_stairs (P := P) (w := w) (base := base) D__law_odd_stairs gl__law_odd_stairs om m_list
  have h__law_odd_lengths := ok__law_odd_lengths (P := P) (w := w) (base := base) D__law_odd_lengths gl__law_odd_lengths om
  have h__law_doors := ok__law_doors (P := P) (w := w) (base := base) D__law_doors gl__law_doors rfl tb ap om
  have h__law_pairs := ok__law_pairs (P := P) (w := w) (base := base) D__law_pairs gl__law_pairs rfl tb ap om
  have h__law_stairs_right := ok__law_stairs_right (P := P) (w := w) (base := base) D__law_stairs_right gl__law_stairs_right om m_len h__law_odd_stairs h__law_refuse h__law_doors h__law_pairs
  have h__law_numbers_right := ok__law_numbers_right (P := P) (w := w) (base := base) D__law_numbers_right gl__law_numbers_right rfl tb ap om m_len h__law_refuse
  have h__law_rest_right := ok__law_rest_right (P := P) (w := w) (base := base) D__law_rest_right gl__law_rest_right rfl tb ap om m_len h__law_odd_lengths h__law_refuse
  exact ok_law D_law D__law_begin gl__law_begin m_list en om m_range m_min m_len h__law_stair_drawn h__law_draw h__law_stairs_right h__law_numbers_right h__law_rest_right h_least_stair h_lowered h_raised h_need_stair h_fewer h_is_had
end Lw
namespace Rt
def Fr (a b : Int) : Prop := 0 < b ∧ Int.gcd a b = 1
def num (t b : Int) : Int := t / (Int.gcd t b : Int)
def den (t b : Int) : Int := b / (Int.gcd t b : Int)
end Rt
namespace Lw
open PySem L2 PF Rt
abbrev J (n : Nat) (f : Nat → Int) : List PF.W := (List.range n).map fun (i : Nat) => PF.W.int (f i)
theorem J_len (n : Nat) (f : Nat → Int) : (J n f).length = n := by simp [J]
theorem J_get {n : Nat} {f : Nat → Int} {i : Nat} (h : i < n) : (J n f)[i]? = some (.int (f i)) := by simp [J, h]
theorem J_zip (n m : Nat) (f g : Nat → Int) : zipF (J n f) (J m g) = (List.range (min n m)).map fun (i : Nat) => PF.W.tup [.int (f i), .int (g i)] := by
  refine List.ext_getElem (by simp [zipF_length, J]) fun i h1 h2 => ?_
  obtain ⟨w, u, e1, e2, e3⟩ := zipF_get _ _ i _ (List.getElem?_eq_getElem h1)
  simp only [List.length_map, List.length_range] at h2
  rw [J_get (by omega)] at e1 e2
  cases e1
  cases e2
  rw [e3]
  simp
theorem J_tail (n : Nat) (f : Nat → Int) : cutW (J n f) (some 1) none = J (n - 1) fun i => f (i + 1) := by
  refine List.ext_getElem? fun i => ?_
  cases n with
  | zero => simp [J, cutW]
  | succ n =>
    simp [cutW, HT.sIx, J]
    by_cases h : i < n
    · simp [h]
    · simp [h]
theorem size_small {ws : List PF.W} (h : ws.length ≤ 1000) : sizeOk ws = true := sizeOk_is (by omega)
theorem room_is {ws : List PF.W} (h : ws.length < 16777216) : roomOk ws = true := by
  unfold roomOk
  exact decide_eq_true h
theorem mul_small {a b : Int} (ha : -(2 ^ 40) < a ∧ a < 2 ^ 40) (hb : -(2 ^ 40) < b ∧ b < 2 ^ 40) : mulOk a b = true := mulOk_of (a := 41) (b := 41) (by omega) (by omega) (by decide) (by decide) (by decide)
theorem isint_run (a : Int) : F_is_integer [.int a] = .ok (.bl true) := by
  simp [F_is_integer, defF, startE, endOf]
  rfl
theorem between_run (x lo hi : Int) : F_is_between [.int x, .int lo, .int hi] = .ok (.bl (decide (lo ≤ x) && decide (x ≤ hi))) := by
  by_cases h : lo ≤ x <;> simp [F_is_between, defF, startE, endOf, isint_run, fCh, h]
theorem tup_is (ws : List PF.W) : isiW (isOnly "tuple") (.tup ws) = .ok (.bl true) := rfl
theorem all_bls {α : Type} {as : List α} {t : α → Bool} (h : ∀ a ∈ as, t a = true) : allW [.lst (as.map fun a => PF.W.bl (t a))] = .ok (.bl true) := by
  have e : (as.map fun a => PF.W.bl (t a)) = (as.map t).map PF.W.bl := by rw [List.map_map]; rfl
  rw [e, allW_of]
  have : (as.map t).all id = true := by
    rw [List.all_map, List.all_eq_true]
    exact h
  rw [this]
structure Stair (n : Nat) (f : Nat → Int) : Prop where
  one : 1 ≤ n
  eight : n ≤ 8
  low : ∀ i, i < n → 0 ≤ f i
  top : ∀ i, i < n → f i ≤ 1000
  up : ∀ i, i + 1 < n → f i ≤ f (i + 1)
theorem Stair.mono {n : Nat} {f : Nat → Int} (h : Stair n f) : ∀ (k i : Nat), i + k < n → f i ≤ f (i + k)
  | 0, i, _ => Int.le_refl _
  | k + 1, i, hi => by
    have h1 := h.mono k i (by omega)
    have h2 := h.up (i + k) (by omega)
    show f i ≤ f (i + k + 1)
    omega
theorem Stair.le {n : Nat} {f : Nat → Int} (h : Stair n f) {i j : Nat} (hij : i ≤ j) (hj : j < n) : f i ≤ f j := by
  obtain ⟨k, rfl⟩ : ∃ k, j = i + k := ⟨j - i, by omega⟩
  exact h.mono k i hj
theorem stair_run {n : Nat} {f : Nat → Int} (h : Stair n f) : F_is_stair [.tup (J n f)] = .ok (.bl true) := by
  have o := h.one
  have e8 := h.eight
  have i1 : (1 : Int) ≤ (n : Int) := by omega
  have i8 : (n : Int) ≤ 8 := by omega
  have hz : sizeOk (J n f) = true := size_small (by rw [J_len]; omega)
  have c : compL (goName 1) fYes (fL (fCons (gV 1) (fCons (fun _ => .ok (.int 0)) (fCons (fun _ => .ok k_MOST_STAIR) fNil))) F_is_between) [.val (.tup (J n f)), .un, .un] (J n f) = .ok (.map (fun (i : Nat) => PF.W.bl (decide (0 ≤ f i) && decide (f i ≤ 1000))) (List.range n)) := by
    refine compL_map _ _ _ fun i _ => ⟨_, rfl, rfl, ?_⟩
    simp [k_MOST_STAIR, between_run]
  have hA := all_bls (as := List.range n) (t := fun i => decide (0 ≤ f i) && decide (f i ≤ 1000)) fun i hi => by
    have a := h.low i (List.mem_range.mp hi)
    have b := h.top i (List.mem_range.mp hi)
    simp [a, b]
  have c2 : compL (goTup 2 (goCons (goName 1) (goCons (goName 2) goNil))) fYes (f2 leW (gV 1) (gV 2)) [.val (.tup (J n f)), .un, .un] (.map (fun (i : Nat) => PF.W.tup [.int (f i), .int (f (i + 1))]) (List.range (n - 1))) = .ok (.map (fun (i : Nat) => PF.W.bl (decide (f i ≤ f (i + 1)))) (List.range (n - 1))) := compL_map _ _ _ fun i _ => ⟨_, rfl, rfl, by simp⟩
  have hB := all_bls (as := List.range (n - 1)) (t := fun i => decide (f i ≤ f (i + 1))) fun i hi => by
    have a := h.up i (by have := List.mem_range.mp hi; omega)
    simp [a]
  have hm : min n (n - 1) = n - 1 := by omega
  have hz2 : sizeOk (.map (fun (i : Nat) => PF.W.tup [.int (f i), .int (f (i + 1))]) (List.range (n - 1))) = true := size_small (by simp; omega)
  unfold F_is_stair defF
  simp only [startE, List.map_cons, List.map_nil, List.length_cons, List.length_nil, Nat.reduceAdd, Nat.reduceSub, List.replicate, List.cons_append, List.nil_append, beq_self_eq_true, if_true, sSeq_eq, sIf_eq, fOr_eq, fNot_eq, fTru_eq, f1_eq, gV_eq, List.getElem?_cons_zero, T.bind_ok, tup_is, truW_bl, fBl_eq, fCh, fL_eq, fCons_eq, fNil_eq, lenW_tup, J_len, k_MOST_LETTERS, leW_int, decide_eq_true i1, decide_eq_true i8, blW_bl, Bool.not_true, Bool.false_eq_true, if_false, sNil_eq, fComp, iOf_eq, tupW, hz, wipeE, List.set_cons_succ, List.set_cons_zero, c, hA, sRet_eq, iL_eq, fSl, pSome, pInt, pNo, slW, J_tail, zpW, J_zip, hm, hz2, c2, hB, endOf]
theorem need_run {n : Nat} {f : Nat → Int} (h : Stair n f) : F_need_stair [.tup (J n f)] = .ok (.tup (J n f)) := by
  simp [F_need_stair, defF, startE, stair_run h, endOf]
def rz (f : Nat → Int) (k x : Int) : Nat → Int := fun (i : Nat) => if k ≤ 1 + (i : Int) then (if x > f i then x else f i) else f i
def S (k : Nat) (a : Int) : Prop := a.natAbs < 2 ^ k
theorem S.mono {k l : Nat} {a : Int} (h : S k a) (g : k ≤ l) : S l a := Nat.lt_of_lt_of_le h (Nat.pow_le_pow_right (by decide) g)
theorem S.sub {k : Nat} {a b : Int} (h : S k a) (g : S k b) : S (k + 1) (a - b) := by
  unfold S at *
  rw [Nat.pow_succ]
  have : (a - b).natAbs ≤ a.natAbs + b.natAbs := by omega
  omega
theorem S.ok {k l : Nat} {a b : Int} (h : S k a) (g : S l b) (e : k + l ≤ 999998) : mulOk a b = true := mulOk_of (a := k + 1) (b := l + 1) (h.mono (Nat.le_succ k)) (g.mono (Nat.le_succ l)) (by omega) (by omega) (by omega)
theorem S.num {k : Nat} {t b : Int} (h : S k t) : S k (num t b) := Nat.lt_of_le_of_lt (Int.natAbs_ediv_le_natAbs _ _) h
theorem S.den {k : Nat} {t b : Int} (h : S k b) : S k (den t b) := Nat.lt_of_le_of_lt (Int.natAbs_ediv_le_natAbs _ _) h
theorem S.gcd {k : Nat} {t b : Int} (hb : b ≠ 0) (h : S k b) : S k (Int.gcd t b) := by
  unfold S at *
  rw [Int.natAbs_natCast]
  exact Nat.lt_of_le_of_lt (Int.gcd_le_natAbs_right t hb) h
theorem S.of {k : Nat} {a : Int} (h : -(2 ^ k : Nat) < a ∧ a < (2 ^ k : Nat)) : S k a := by
  unfold S
  omega
abbrev fr (a b : Int) : PF.W := .tup [.int a, .int b]
structure Ok4 (k : Nat) (a b c d : Int) : Prop where
  p : Fr a b
  q : Fr c d
  sa : S k a
  sb : S k b
  sc : S k c
  sd : S k d
abbrev q8 (v : Int) : PF.W := fr (num v 840) (den v 840)
def cst (n i : Nat) : Int := if i + 1 < n then 840 / (((i : Int) + 1) * ((i : Int) + 2)) else 840 / (n : Int)
def prS (n : Nat) (f : Nat → Int) : Nat → Int
  | 0 => 0
  | k + 1 => prS n f k + f k * cst n k
abbrev pr (n : Nat) (f : Nat → Int) : Int := prS n f n
/-- the costs of places, written as parts of 840 -/
abbrev Q (n : Nat) (f : Nat → Int) (k : Nat) : List PF.W := (List.range k).map fun i => q8 (f i * cst n i)
def sdE (n : Nat) (w : Int) (D : Nat) (ws : List PF.W) (d : Nat) (ρ : En) : Prop := ∃ (k : Nat) (f : Nat → Int) (last : Int) (x5 : Sl), k + ws.length = n ∧ ρ = [.val .stt, .val (.int n), .val (.int w), .own (J k f), .val (.int last), x5] ∧ 0 ≤ last ∧ last ≤ 124 * k ∧ (∀ i, i < k → 0 ≤ f i ∧ f i ≤ last) ∧ (∀ i, i + 1 < k → f i ≤ f (i + 1)) ∧ D + 2 * ws.length ≤ d
theorem sd_step {n : Nat} {w : Int} (h8 : n ≤ 8) (hw : 1 ≤ w ∧ w ≤ 125) {D : Nat} {E : Nat → Nat → List PF.W → Prop} (u : PF.W) (ws : List PF.W) (d : Nat) (ρ : En) (hI : sdE n w D (u :: ws) d ρ) : ∃ ρ1, goName 5 u ρ = some ρ1 ∧ ((sSeq (sSet 4 (f2 addW (gV 4) (f2 mulW (fL (fCons (gV 0) (fCons (gV 2) fNil)) F__law_draw) (fL (fCons (f2 gtW (fL (fCons (gV 0) (fCons (fun _ => .ok (.int 3)) fNil)) F__law_draw) (fun _ => .ok (.int 0))) fNil) intW)))) (sApp 3 (fCons (gV 4) fNil))) ρ1).AllB (fun d x => ∃ ρ2, x = (.nx, ρ2) ∧ sdE n w D ws d ρ2) E d := by
  obtain ⟨k, f, last, x5, hk, rfl, h0, h1, h2, h3, hd⟩ := hI
  rw [List.length_cons] at hk hd
  refine ⟨_, rfl, ?_⟩
  have rk : roomOk (J k f) = true := room_is (by rw [J_len]; omega)
  simp only [sSeq_eq, sSet_eq, f2_eq, fL_eq, fCons_eq, fNil_eq, gV_eq, List.set_cons_succ, List.set_cons_zero, List.getElem?_cons_succ, List.getElem?_cons_zero, T.bind_ok, draw_is (n := w) (by omega) (by omega), draw_is (n := 3) (by decide) (by decide), T.bind_ask, gtW_int, intW_bl]
  refine ask_all (by omega) fun i hi => ask_all (by omega) fun j hj => ?_
  have m : ∀ z : Int, 0 ≤ z → z ≤ 1 → mulOk (i : Int) z = true := fun z a b => mul_small (by omega) (by omega)
  have fin : ∀ y : Int, last ≤ y → y ≤ last + 124 → ∃ ρ2, (Fl.nx, ([.val .stt, .val (.int n), .val (.int w), .own (J k f ++ [.int y]), .val (.int y), .val u] : En)) = (Fl.nx, ρ2) ∧ sdE n w D ws (d - 1 - 1) ρ2 := fun y a b => by
    refine ⟨_, rfl, k + 1, fun i => if i = k then y else f i, y, .val u, by omega, ?_, by omega, by omega, fun i hi => ?_, fun i hi => ?_, by omega⟩
    · have e : J (k + 1) (fun i => if i = k then y else f i) = J k f ++ [.int y] := by
        simp only [J, List.range_succ, List.map_append, List.map_cons, List.map_nil, if_true]
        congr 1
        refine List.map_congr_left fun i hi => ?_
        have := List.mem_range.mp hi
        rw [if_neg (by omega)]
      rw [e]
    · by_cases hik : i = k
      · simp only [hik, if_true]
        omega
      · simp only [if_neg hik]
        have := h2 i (by omega)
        omega
    · by_cases hik : i + 1 = k
      · simp only [if_neg (show ¬ i = k by omega), if_pos hik]
        have := h2 i (by omega)
        omega
      · simp only [if_neg (show ¬ i = k by omega), if_neg hik]
        exact h3 i (by omega)
  have hi : (i : Int) < w := by omega
  by_cases hj0 : (0 : Int) < (j : Int)
  · simp only [T.bind_ok, decide_eq_true hj0, if_true, mulW_int, m 1 (by decide) (by decide), addW_int, sApp, List.getElem?_cons_succ, List.getElem?_cons_zero, fCons_eq, fNil_eq, gV_eq, List.set_cons_succ, List.set_cons_zero, rk]
    exact fin _ (by omega) (by omega)
  · simp only [T.bind_ok, decide_eq_false hj0, Bool.false_eq_true, if_false, if_true, mulW_int, m 0 (by decide) (by decide), addW_int, sApp, List.getElem?_cons_succ, List.getElem?_cons_zero, fCons_eq, fNil_eq, gV_eq, List.set_cons_succ, List.set_cons_zero, rk]
    exact fin _ (by omega) (by omega)
theorem drawn_all {n : Nat} {w : Int} (h1 : 1 ≤ n) (h8 : n ≤ 8) (hw : 1 ≤ w ∧ w ≤ 125) {P : Nat → PF.W → Prop} {E : Nat → Nat → List PF.W → Prop} {d : Nat} (hd : 20 ≤ d) (hP : ∀ f d', Stair n f → d ≤ d' + 20 → P d' (.tup (J n f))) : (F__law_stair_drawn [.stt, .int n, .int w]).AllB P E d := by
  unfold F__law_stair_drawn
  rw [defF_eq _ _ _ _ rfl]
  refine T.allB_bind.mpr ?_
  simp only [startE, List.map_cons, List.map_nil, List.length_cons, List.length_nil, Nat.reduceAdd, Nat.reduceSub, List.replicate, List.cons_append, List.nil_append, sSeq_eq, sOwnPar, fCons_eq, fNil_eq, T.bind_ok, List.set_cons_succ, List.set_cons_zero, sFor_eq, iL_eq, gV_eq, List.getElem?_cons_succ, List.getElem?_cons_zero]
  rw [rng1_is (by omega) (by omega), T.bind_ok]
  refine T.allB_bind.mpr ?_
  have i0 : sdE n w (d - 20) (PF.intsFrom 0 (n : Int).toNat) d [.val .stt, .val (.int n), .val (.int w), .own [], .val (.int 0), .un] := ⟨0, fun _ => 0, 0, .un, by rw [ints_len]; omega, rfl, by omega, by omega, fun i hi => (by omega), fun i hi => (by omega), by rw [ints_len]; omega⟩
  have key := forL_all (E := E) (sdE n w (d - 20)) (sd_step h8 hw) (PF.intsFrom 0 (n : Int).toNat) d _ i0
  refine T.AllB.imp (fun d1 x hx => ?_) (fun _ _ _ y => y) key
  obtain ⟨ρ2, ex, k, f, last, x5, hk, eρ, a0, a1, a2, a3, a4⟩ := hx
  rw [ex, eρ]
  have hkn : k = n := by simpa using hk
  subst hkn
  have st : Stair k f := ⟨h1, h8, fun i hi => (a2 i hi).1, fun i hi => by have := (a2 i hi).2; omega, a3⟩
  clear key i0
  simp only [onFrz, frz, List.getElem?_cons_succ, List.getElem?_cons_zero, List.set_cons_succ, List.set_cons_zero, sRet_eq, fL_eq, fCons_eq, fNil_eq, gV_eq, T.bind_ok, tupOfW_lst, endOf]
  exact hP f d1 st (by simp at a4; omega)
end Lw
namespace Lw
open PySem L2 PF Rt
def reprB (w : PF.W) : Bool := match w.toR with
  | some d => reprOkD d
  | none => false
theorem reprB_ok {w : PF.W} (h : reprB w = true) : ∃ s, reprR [w] = .ok (.str s) := by
  unfold reprB at h
  split at h
  · rename_i d e
    exact ⟨d.shown, by simp only [reprR, e, h, if_true]⟩
  · cases h
mutual
theorem toD_toR : ∀ (w : PF.W) (d : PyData), w.toD = some d → w.toR = some d
  | .non, d, h => h
  | .bl _, d, h => h
  | .int _, d, h => h
  | .str _, d, h => h
  | .tup ws, d, h => by
    obtain ⟨ds, g, rfl⟩ := PF.toD_tup h
    simp only [PF.W.toR, toDs_toRs ws ds g]
  | .lst ws, d, h => by
    obtain ⟨ds, g, rfl⟩ := PF.toD_lst h
    simp only [PF.W.toR, toDs_toRs ws ds g]
  | .dct _ _, d, h => by simp [PF.W.toD] at h
  | .scr _, d, h => by simp [PF.W.toD] at h
  | .stt, d, h => by simp [PF.W.toD] at h
  | .clo _ _ _, d, h => by simp [PF.W.toD] at h
  | .lam _ _, d, h => by simp [PF.W.toD] at h
  | .exo _ _, d, h => by simp [PF.W.toD] at h
  | .obj _, d, h => by simp [PF.W.toD] at h
  | .dcu _ _, d, h => by simp [PF.W.toD] at h
  | .key _, d, h => by simp [PF.W.toD] at h
  | .ptp _, d, h => by simp [PF.W.toD] at h
theorem toDs_toRs : ∀ (ws : List PF.W) (ds : List PyData), PF.toDs ws = some ds → PF.toRs ws = some ds
  | [], ds, h => h
  | w :: ws, ds, h => by
    unfold PF.toDs at h
    split at h
    · rename_i d ds' h1 h2
      cases h
      simp only [PF.toRs, toD_toR w d h1, toDs_toRs ws ds' h2]
    · cases h
end
theorem sh_reprB {n k : Nat} {w : PF.W} (h : Sh n k w) (hn : n ≤ 16777216) (hk : k ≤ 60) : reprB w = true := by
  obtain ⟨d, h1, h2, h3, h4, h5, h6⟩ := h
  unfold reprB
  rw [toD_toR w d h1]
  simp only [reprOkD, h2, decide_eq_true (show d.depth ≤ 60 by omega), decide_eq_true (show d.shown.length ≤ 16777216 by omega), Bool.and_self]
mutual
theorem frW_plain (S : Str → List Nat → Option (List Nat)) (ρ : En) : ∀ (w : PF.W), PF.plain w = true → frW S ρ w = some w
  | .non, _ => rfl
  | .bl _, _ => rfl
  | .int _, _ => rfl
  | .str _, _ => rfl
  | .tup _, _ => rfl
  | .lst ws, h => by
    unfold PF.plain at h
    simp only [frW, frWs_plain S ρ ws h, Option.map_some]
  | .dct _ _, _ => rfl
  | .scr _, _ => rfl
  | .stt, _ => rfl
  | .clo _ _ _, h => by cases h
  | .lam _ _, h => by cases h
  | .exo _ _, h => by cases h
  | .obj _, _ => rfl
  | .dcu _ _, _ => rfl
  | .key _, _ => rfl
  | .ptp _, _ => rfl
theorem frWs_plain (S : Str → List Nat → Option (List Nat)) (ρ : En) : ∀ (ws : List PF.W), plainL ws = true → frWs S ρ ws = some ws
  | [], _ => rfl
  | w :: ws, h => by
    unfold plainL at h
    obtain ⟨h1, h2⟩ := Bool.and_eq_true_iff.mp h
    simp only [frWs, frW_plain S ρ w h1, frWs_plain S ρ ws h2]
end
theorem plain_ints : ∀ (xs : List PF.W), (∀ w ∈ xs, ∃ i, w = .int i) → plainL xs = true
  | [], _ => rfl
  | w :: xs, h => by
    obtain ⟨i, rfl⟩ := h w (List.mem_cons_self ..)
    unfold plainL
    rw [plain_ints xs fun x hx => h x (List.mem_cons_of_mem _ hx)]
    rfl
end Lw
namespace Lw
open PySem L2 PF Rt
abbrev sSt : Str := ⟨⟨[115, 116, 97, 105, 114]⟩⟩
abbrev sNu : Str := ⟨⟨[110, 117, 109, 98, 101, 114]⟩⟩
abbrev sLe : Str := ⟨⟨[108, 101, 110, 103, 116, 104]⟩⟩
abbrev sWi : Str := ⟨⟨[119, 105, 115, 104, 101, 115]⟩⟩
abbrev Due (t : Str) (w : PF.W) : PF.W := .tup [.str t, w]
def Cd (n : Nat) (t : Str) : Prop := (n = 9 ∧ t = sSt) ∨ (n = 3 ∧ t = sNu) ∨ (n = 20 ∧ t = sLe) ∨ (n = 21 ∧ t = sWi)
theorem heard_exc {x : Str} {p : List Nat} {ws : List PF.W} {w : PF.W} {n : Nat} {t : Str} (h : lamR x p ws = .exc n [w]) (hn : Cd n t) : F__law_heard [.clo x p ws] = .ok (Due t w) := by
  have s2 : ∀ a b : PF.W, sizeOk [a, b] = true := fun a b => sizeOk_2 a b
  unfold F__law_heard
  rw [defF_eq _ _ _ _ rfl]
  rcases hn with ⟨rfl, rfl⟩ | ⟨rfl, rfl⟩ | ⟨rfl, rfl⟩ | ⟨rfl, rfl⟩ <;>
  simp [startE, sSeq_eq, sAsg, fL_eq, fCons_eq, fNil_eq, mkTup_eq, s2, goTup, goCons, goName_eq, goNil, sTryK, fCallV, h, T.catch, sIf_eq, fBl_eq, f2_eq, gV_eq, isW, PF.isNon, blW_bl, sNil_eq, fTru_eq, f1_eq, isxW, List.lookup, truW_bl, sRet_eq, xfW, xFlds, xAll, endOf]
theorem ref_loop {due w cs' : PF.W} {s t : Str} (e2 : reprR [.lst [due, due]] = .ok (.str t)) : ∀ (cs : List PF.W) (y : Sl), (∀ c ∈ cs, F__law_heard [c] = .ok due) → ∃ z, forL (goName 4) (sIf (fBl (f2 neS (fL (fCons (fL (fCons (fL (fCons (gV 4) fNil) F__law_heard) (fCons (fL (fCons (gV 4) fNil) F__law_heard) fNil)) mkLst) fNil) reprR) (fL (fCons (fL (fCons (gV 1) (fCons (gV 1) fNil)) mkLst) fNil) reprR))) (sRet (fun _ => .ok (.bl false))) sNil) cs [.val cs', .val due, .val w, .val (.str s), y] = .ok (.nx, [.val cs', .val due, .val w, .val (.str s), z])
  | [], y, _ => ⟨y, rfl⟩
  | c :: cs, y, h => by
    obtain ⟨z, e⟩ := ref_loop (w := w) (cs' := cs') (s := s) e2 cs (.val c) fun x hx => h x (List.mem_cons_of_mem _ hx)
    refine ⟨z, ?_⟩
    have s2 : ∀ a b : PF.W, sizeOk [a, b] = true := fun a b => sizeOk_2 a b
    have hc := h c (List.mem_cons_self ..)
    have nn : neS (.str t) (.str t) = .ok (.bl false) := by simp [neS]
    unfold forL
    simp only [goName_eq, List.set_cons_succ, List.set_cons_zero, sIf_eq, fBl_eq, f2_eq, fL_eq, fCons_eq, fNil_eq, gV_eq, List.getElem?_cons_succ, List.getElem?_cons_zero, T.bind_ok, hc, mkLst_eq, s2, if_true, e2, nn, blW_bl, Bool.false_eq_true, if_false, sNil_eq]
    exact e
/-- what is shown of a thing that is refused -/
structure Od (t : Str) (w : PF.W) : Prop where
  pl : PF.plain w = true
  r1 : reprB w = true
  r2 : reprB (.lst [Due t w, Due t w]) = true
theorem refuse_ok {cs : List PF.W} {t : Str} {w : PF.W} (o : Od t w) (hc : ∀ c ∈ cs, F__law_heard [c] = .ok (Due t w)) : F__law_refuse [.lst cs, Due t w, w] = .ok (.bl true) := by
  obtain ⟨s, e1⟩ := reprB_ok o.r1
  obtain ⟨u, e2⟩ := reprB_ok o.r2
  obtain ⟨z, e3⟩ := ref_loop (w := w) (cs' := .lst cs) (s := s) e2 cs .un hc
  have qq : eqS (.str s) (.str s) = .ok (.bl true) := by simp [eqS]
  unfold F__law_refuse
  rw [defF_eq _ _ _ _ rfl]
  simp only [startE, List.map_cons, List.map_nil, List.length_cons, List.length_nil, Nat.reduceAdd, Nat.reduceSub, List.replicate, List.cons_append, List.nil_append, sSeq_eq, sSet_eq, fL_eq, fCons_eq, fNil_eq, gV_eq, List.getElem?_cons_succ, List.getElem?_cons_zero, T.bind_ok, e1, List.set_cons_succ, List.set_cons_zero, sFor_eq, iOf_eq, lstW, e3, sRet_eq, f2_eq, qq, endOf]
theorem lz_run {S : Str → List Nat → Option (List Nat)} {fs : En → T (List PF.W)} {ρ : En} {ls cs : List PF.W} {t : Str} {w : PF.W} (o : Od t w) (h1 : fs ρ = .ok [.lst ls, Due t w, w]) (h2 : frWs S ρ ls = some cs) (hc : ∀ c ∈ cs, F__law_heard [c] = .ok (Due t w)) : fLz S fs F__law_refuse ρ = .ok (.bl true) := by
  have fz : frWs S ρ [.lst ls, Due t w, w] = some [.lst cs, Due t w, w] := by
    have fw := frW_plain S ρ w o.pl
    simp only [frWs, frW, h2, Option.map_some, fw]
  unfold fLz
  rw [h1, T.bind_ok, fz]
  simp only [refuse_ok o hc]
  rfl
theorem sz2_le {a b : Nat} (h : a + b ≤ 1000) : sz2 a b = true := by
  unfold sz2
  exact decide_eq_true (by omega)
theorem add_ll {xs ys : List PF.W} (h : xs.length + ys.length ≤ 1000) : addW (.lst xs) (.lst ys) = .ok (.lst (xs ++ ys)) := by
  simp only [addW, sz2_le h, if_true]
theorem add_tt {xs ys : List PF.W} (h : xs.length + ys.length ≤ 1000) : addW (.tup xs) (.tup ys) = .ok (.tup (xs ++ ys)) := by
  simp only [addW, sz2_le h, if_true]
theorem pl_J (n : Nat) (f : Nat → Int) : plainL (J n f) = true := plain_ints _ fun w hw => by
  obtain ⟨i, _, rfl⟩ := List.mem_map.mp hw
  exact ⟨_, rfl⟩
theorem pl_tJ (n : Nat) (f : Nat → Int) : PF.plain (.tup (J n f)) = true := by
  unfold PF.plain
  exact pl_J n f
abbrev SN (w : PF.W) : Prop := F_need_stair [w] = .exc 9 [w]
section
variable {w u v : PF.W}
theorem place_sn (h : SN w) : F_need_place [w, u, v] = .exc 9 [w] := by
  unfold F_need_place
  rw [defF_eq _ _ _ _ rfl]
  simp [startE, sSeq_eq, sExpr_eq, fL_eq, fCons_eq, fNil_eq, gV_eq, h, T.bind]
theorem pair_sn (h : SN w) : F_need_pair [w, u] = .exc 9 [w] := by
  unfold F_need_pair
  rw [defF_eq _ _ _ _ rfl]
  simp [startE, sSeq_eq, sExpr_eq, fL_eq, fCons_eq, fNil_eq, gV_eq, h, T.bind]
theorem both_sn (h : SN w) : F_need_both [w, u] = .exc 9 [w] := by
  unfold F_need_both
  rw [defF_eq _ _ _ _ rfl]
  simp [startE, sSeq_eq, sExpr_eq, fL_eq, fCons_eq, fNil_eq, gV_eq, h, T.bind]
theorem few_sn (h : SN w) : F_fewer [w, u] = .exc 9 [w] := by
  unfold F_fewer
  rw [defF_eq _ _ _ _ rfl]
  simp [startE, sSeq_eq, sExpr_eq, fL_eq, fCons_eq, fNil_eq, gV_eq, h, T.bind]
theorem more_sn (h : SN w) : F_more [w, u] = .exc 9 [w] := by
  unfold F_more
  rw [defF_eq _ _ _ _ rfl]
  simp [startE, sSeq_eq, sExpr_eq, fL_eq, fCons_eq, fNil_eq, gV_eq, h, T.bind]
theorem great_sn (h : SN w) : F_greatest_at [w, u, v] = .exc 9 [w] := by
  unfold F_greatest_at
  rw [defF_eq _ _ _ _ rfl]
  simp [startE, sSeq_eq, sExpr_eq, fL_eq, fCons_eq, fNil_eq, gV_eq, h, T.bind]
variable {x : PF.W} {n : Nat}
theorem raised_x (h : F_need_place [w, u, v] = .exc n [x]) : F_raised [w, u, v] = .exc n [x] := by
  unfold F_raised
  rw [defF_eq _ _ _ _ rfl]
  simp [startE, sSeq_eq, sExpr_eq, fL_eq, fCons_eq, fNil_eq, gV_eq, h, T.bind]
theorem lowered_x (h : F_need_place [w, u, v] = .exc n [x]) : F_lowered [w, u, v] = .exc n [x] := by
  unfold F_lowered
  rw [defF_eq _ _ _ _ rfl]
  simp [startE, sSeq_eq, sExpr_eq, fL_eq, fCons_eq, fNil_eq, gV_eq, h, T.bind]
theorem under_x (h : F_need_pair [w, u] = .exc n [x]) : F_is_under_stairs [w, u] = .exc n [x] := by
  unfold F_is_under_stairs
  rw [defF_eq _ _ _ _ rfl]
  simp [startE, sSeq_eq, sExpr_eq, fL_eq, fCons_eq, fNil_eq, gV_eq, h, T.bind]
theorem twice_x (h : F_need_pair [w, u] = .exc n [x]) : F_both [w, u] = .exc n [x] := by
  unfold F_both
  rw [defF_eq _ _ _ _ rfl]
  simp [startE, sSeq_eq, sExpr_eq, fL_eq, fCons_eq, fNil_eq, gV_eq, h, T.bind]
theorem meet_x (h : F_need_pair [w, u] = .exc n [x]) : F_meet [w, u] = .exc n [x] := by
  unfold F_meet
  rw [defF_eq _ _ _ _ rfl]
  simp [startE, sSeq_eq, sExpr_eq, fL_eq, fCons_eq, fNil_eq, gV_eq, h, T.bind]
theorem join_x (h : F_need_pair [w, u] = .exc n [x]) : F_join [w, u] = .exc n [x] := by
  unfold F_join
  rw [defF_eq _ _ _ _ rfl]
  simp [startE, sSeq_eq, sExpr_eq, fL_eq, fCons_eq, fNil_eq, gV_eq, h, T.bind]
theorem had_x (h : F_need_both [w, u] = .exc n [x]) : F_is_had [w, u] = .exc n [x] := by
  unfold F_is_had
  rw [defF_eq _ _ _ _ rfl]
  simp [startE, sSeq_eq, sExpr_eq, fL_eq, fCons_eq, fNil_eq, gV_eq, h, T.bind]
theorem over_x (h : F_need_both [w, u] = .exc n [x]) : F_over_by [w, u] = .exc n [x] := by
  unfold F_over_by
  rw [defF_eq _ _ _ _ rfl]
  simp [startE, sSeq_eq, sExpr_eq, fL_eq, fCons_eq, fNil_eq, gV_eq, h, T.bind]
end
end Lw
namespace Lw
open PySem L2 PF Rt
theorem cap_do0 : cap__law_doors "_law_doors" [0, 0, 0] = some [0] := by kernel_rfl
theorem lr_do0 (a : PF.W) : lamR "_law_doors" [0, 0, 0] [a] = F_need_stair [a] := by kernel_rfl
theorem cap_do1 : cap__law_doors "_law_doors" [0, 0, 1] = some [0] := by kernel_rfl
theorem lr_do1 (a : PF.W) : lamR "_law_doors" [0, 0, 1] [a] = F_raised [a, .non, .non] := by kernel_rfl
theorem cap_do2 : cap__law_doors "_law_doors" [0, 0, 2] = some [0] := by kernel_rfl
theorem lr_do2 (a : PF.W) : lamR "_law_doors" [0, 0, 2] [a] = F_lowered [a, .non, .non] := by kernel_rfl
theorem cap_do3 : cap__law_doors "_law_doors" [0, 1, 1, 0] = some [0] := by kernel_rfl
theorem lr_do3 (a : PF.W) : lamR "_law_doors" [0, 1, 1, 0] [a] = F_is_under_stairs [a, .non] := by kernel_rfl
theorem cap_do4 : cap__law_doors "_law_doors" [0, 1, 1, 1] = some [0] := by kernel_rfl
theorem lr_do4 (a : PF.W) : lamR "_law_doors" [0, 1, 1, 1] [a] = F_both [a, .non] := by kernel_rfl
theorem cap_do5 : cap__law_doors "_law_doors" [0, 1, 1, 2] = some [0] := by kernel_rfl
theorem lr_do5 (a : PF.W) : lamR "_law_doors" [0, 1, 1, 2] [a] = F_meet [a, .non] := by kernel_rfl
theorem cap_do6 : cap__law_doors "_law_doors" [0, 2, 1, 0] = some [0] := by kernel_rfl
theorem lr_do6 (a : PF.W) : lamR "_law_doors" [0, 2, 1, 0] [a] = F_join [a, .non] := by kernel_rfl
theorem cap_do7 : cap__law_doors "_law_doors" [0, 2, 1, 1] = some [0] := by kernel_rfl
theorem lr_do7 (a : PF.W) : lamR "_law_doors" [0, 2, 1, 1] [a] = F_fewer [a, .non] := by kernel_rfl
theorem cap_do8 : cap__law_doors "_law_doors" [0, 2, 1, 2] = some [0] := by kernel_rfl
theorem lr_do8 (a : PF.W) : lamR "_law_doors" [0, 2, 1, 2] [a] = F_more [a, .non] := by kernel_rfl
theorem cap_do9 : cap__law_doors "_law_doors" [0, 3, 1, 0] = some [0] := by kernel_rfl
theorem lr_do9 (a : PF.W) : lamR "_law_doors" [0, 3, 1, 0] [a] = F_is_had [a, .non] := by kernel_rfl
theorem cap_do10 : cap__law_doors "_law_doors" [0, 3, 1, 1] = some [0] := by kernel_rfl
theorem lr_do10 (a : PF.W) : lamR "_law_doors" [0, 3, 1, 1] [a] = F_over_by [a, .non] := by kernel_rfl
theorem cap_do11 : cap__law_doors "_law_doors" [0, 4, 1, 0] = some [0] := by kernel_rfl
theorem lr_do11 (a : PF.W) : lamR "_law_doors" [0, 4, 1, 0] [a] = F_greatest_at [a, .non, .non] := by kernel_rfl
theorem cap_pa0 : cap__law_pairs "_law_pairs" [0, 0, 0] = some [0, 1] := by kernel_rfl
theorem lr_pa0 (a b : PF.W) : lamR "_law_pairs" [0, 0, 0] [a, b] = F_is_under_stairs [a, b] := by kernel_rfl
theorem cap_pa1 : cap__law_pairs "_law_pairs" [0, 0, 1] = some [0, 1] := by kernel_rfl
theorem lr_pa1 (a b : PF.W) : lamR "_law_pairs" [0, 0, 1] [a, b] = F_both [a, b] := by kernel_rfl
theorem cap_pa2 : cap__law_pairs "_law_pairs" [0, 0, 2] = some [0, 1] := by kernel_rfl
theorem lr_pa2 (a b : PF.W) : lamR "_law_pairs" [0, 0, 2] [a, b] = F_meet [a, b] := by kernel_rfl
theorem cap_pa3 : cap__law_pairs "_law_pairs" [0, 1, 1, 0] = some [0, 1] := by kernel_rfl
theorem lr_pa3 (a b : PF.W) : lamR "_law_pairs" [0, 1, 1, 0] [a, b] = F_join [a, b] := by kernel_rfl
theorem cap_nu0 : cap__law_numbers_right "_law_numbers_right" [1, 1, 0, 0, 0, 0] = some [0, 2] := by kernel_rfl
theorem lr_nu0 (a b : PF.W) : lamR "_law_numbers_right" [1, 1, 0, 0, 0, 0] [a, b] = F_raised [a, b, .non] := by kernel_rfl
theorem cap_nu1 : cap__law_numbers_right "_law_numbers_right" [1, 1, 0, 0, 0, 1] = some [0, 2] := by kernel_rfl
theorem lr_nu1 (a b : PF.W) : lamR "_law_numbers_right" [1, 1, 0, 0, 0, 1] [a, b] = F_lowered [a, b, .non] := by kernel_rfl
theorem cap_nu2 : cap__law_numbers_right "_law_numbers_right" [1, 1, 0, 0, 1, 1, 0] = some [0, 2] := by kernel_rfl
theorem lr_nu2 (a b : PF.W) : lamR "_law_numbers_right" [1, 1, 0, 0, 1, 1, 0] [a, b] = F_greatest_at [a, b, .non] := by kernel_rfl
theorem cap_nu3 : cap__law_numbers_right "_law_numbers_right" [1, 1, 0, 0, 1, 1, 1] = some [0, 2] := by kernel_rfl
theorem lr_nu3 (a b : PF.W) : lamR "_law_numbers_right" [1, 1, 0, 0, 1, 1, 1] [a, b] = F_fewer [a, b] := by kernel_rfl
theorem cap_nu4 : cap__law_numbers_right "_law_numbers_right" [1, 2, 0, 0, 0, 0] = some [0, 2] := by kernel_rfl
theorem lr_nu4 (a b : PF.W) : lamR "_law_numbers_right" [1, 2, 0, 0, 0, 0] [a, b] = F_raised [a, .int 1, b] := by kernel_rfl
theorem cap_nu5 : cap__law_numbers_right "_law_numbers_right" [1, 2, 0, 0, 0, 1] = some [3, 0, 2] := by kernel_rfl
theorem lr_nu5 (a b c : PF.W) : lamR "_law_numbers_right" [1, 2, 0, 0, 0, 1] [a, b, c] = F_lowered [b, a, c] := by kernel_rfl
theorem cap_nu6 : cap__law_numbers_right "_law_numbers_right" [1, 3, 0, 0, 0, 0, 0, 0] = some [0, 2] := by kernel_rfl
theorem lr_nu6 (a b : PF.W) : lamR "_law_numbers_right" [1, 3, 0, 0, 0, 0, 0, 0] [a, b] = F_more [a, b] := by kernel_rfl
theorem cap_nu7 : cap__law_numbers_right "_law_numbers_right" [1, 4, 0, 0, 0, 0] = some [2] := by kernel_rfl
theorem lr_nu7 (a : PF.W) : lamR "_law_numbers_right" [1, 4, 0, 0, 0, 0] [a] = F_costs_of [a] := by kernel_rfl
theorem cap_nu8 : cap__law_numbers_right "_law_numbers_right" [1, 4, 0, 0, 0, 1] = some [2] := by kernel_rfl
theorem lr_nu8 (a : PF.W) : lamR "_law_numbers_right" [1, 4, 0, 0, 0, 1] [a] = F_least_stair [a, .non] := by kernel_rfl
theorem cap_re0 : cap__law_rest_right "_law_rest_right" [1, 1, 0, 0, 0, 0] = some [0, 3] := by kernel_rfl
theorem lr_re0 (a b : PF.W) : lamR "_law_rest_right" [1, 1, 0, 0, 0, 0] [a, b] = F_is_had [a, b] := by kernel_rfl
theorem cap_re1 : cap__law_rest_right "_law_rest_right" [1, 1, 0, 0, 0, 1] = some [0, 3] := by kernel_rfl
theorem lr_re1 (a b : PF.W) : lamR "_law_rest_right" [1, 1, 0, 0, 0, 1] [a, b] = F_over_by [a, b] := by kernel_rfl
theorem cap_re2 : cap__law_rest_right "_law_rest_right" [1, 1, 0, 0, 0, 2] = some [0, 3] := by kernel_rfl
theorem lr_re2 (a b : PF.W) : lamR "_law_rest_right" [1, 1, 0, 0, 0, 2] [a, b] = F_greatest_at [a, .int 1, b] := by kernel_rfl
theorem cap_re3 : cap__law_rest_right "_law_rest_right" [1, 5, 0, 0, 0, 0, 0, 0] = some [4, 3] := by kernel_rfl
theorem lr_re3 (a b : PF.W) : lamR "_law_rest_right" [1, 5, 0, 0, 0, 0, 0, 0] [a, b] = F_least_stair [a, b] := by kernel_rfl
abbrev dC (p : List Nat) (w : PF.W) : PF.W := .clo "_law_doors" p [w]
abbrev pC (p : List Nat) (u w : PF.W) : PF.W := .clo "_law_pairs" p [u, w]
abbrev doorsV (w : PF.W) : List PF.W := [dC [0, 0, 0] w, dC [0, 0, 1] w, dC [0, 0, 2] w, dC [0, 1, 1, 0] w, dC [0, 1, 1, 1] w, dC [0, 1, 1, 2] w, dC [0, 2, 1, 0] w, dC [0, 2, 1, 1] w, dC [0, 2, 1, 2] w, dC [0, 3, 1, 0] w, dC [0, 3, 1, 1] w, dC [0, 4, 1, 0] w]
abbrev pairsV (u w : PF.W) : List PF.W := [pC [0, 0, 0] u w, pC [0, 0, 1] u w, pC [0, 0, 2] u w, pC [0, 1, 1, 0] u w]
theorem doors_run {w : PF.W} (h : PF.plain w = true) : F__law_doors [w] = .ok (.lst (doorsV w)) := by
  have p1 : plainL [w] = true := by
    simp only [plainL, h, Bool.and_self]
  have ad : ∀ xs ys : List PF.W, xs.length + ys.length ≤ 1000 → addW (.lst xs) (.lst ys) = .ok (.lst (xs ++ ys)) := fun xs ys h => add_ll h
  have s1 : ∀ a : PF.W, sizeOk [a] = true := sizeOk_1
  have s2 : ∀ a b : PF.W, sizeOk [a, b] = true := sizeOk_2
  have s3 : ∀ a b c : PF.W, sizeOk [a, b, c] = true := sizeOk_3
  unfold F__law_doors defX
  rw [if_pos p1, if_pos (show ([w].length == 1) = true from rfl)]
  simp only [startE, List.map_cons, List.map_nil, List.length_cons, List.length_nil, Nat.reduceAdd, Nat.reduceSub, List.replicate, List.cons_append, List.nil_append, xSeq, xRet, sSet_eq, fL_eq, fCons_eq, fNil_eq, f2_eq, gV_eq, T.bind_ok, mkLst_eq, s1, s2, s3, if_true, List.set_cons_succ, List.set_cons_zero, List.getElem?_cons_succ, List.getElem?_cons_zero]
  repeat (rw [ad _ _ (by simp)]; simp only [T.bind_ok, List.set_cons_succ, List.set_cons_zero, List.getElem?_cons_succ, List.getElem?_cons_zero, List.cons_append, List.nil_append, fL_eq, fCons_eq, fNil_eq, f2_eq, gV_eq, mkLst_eq, s1, s2, s3, if_true])
  simp only [exP, T.bind_ok, clT, frW, frWs, cap_do0, cap_do1, cap_do2, cap_do3, cap_do4, cap_do5, cap_do6, cap_do7, cap_do8, cap_do9, cap_do10, cap_do11, capV, List.getElem?_cons_zero, p1, if_true, Option.map_some, clz, clzL, Bool.and_self]
theorem pairs_run {u w : PF.W} (hu : PF.plain u = true) (h : PF.plain w = true) : F__law_pairs [u, w] = .ok (.lst (pairsV u w)) := by
  have p1 : plainL [u, w] = true := by
    simp only [plainL, h, hu, Bool.and_self]
  have ad : ∀ xs ys : List PF.W, xs.length + ys.length ≤ 1000 → addW (.lst xs) (.lst ys) = .ok (.lst (xs ++ ys)) := fun xs ys h => add_ll h
  have s1 : ∀ a : PF.W, sizeOk [a] = true := sizeOk_1
  have s3 : ∀ a b c : PF.W, sizeOk [a, b, c] = true := sizeOk_3
  unfold F__law_pairs defX
  rw [if_pos p1, if_pos (show ([u, w].length == 2) = true from rfl)]
  simp only [startE, List.map_cons, List.map_nil, List.length_cons, List.length_nil, Nat.reduceAdd, Nat.reduceSub, List.replicate, List.cons_append, List.nil_append, xSeq, xRet, sSet_eq, fL_eq, fCons_eq, fNil_eq, f2_eq, gV_eq, T.bind_ok, mkLst_eq, s1, s3, if_true, List.set_cons_succ, List.set_cons_zero, List.getElem?_cons_succ, List.getElem?_cons_zero]
  rw [ad _ _ (by simp)]
  simp only [List.cons_append, List.nil_append, exP, T.bind_ok, clT, frW, frWs, cap_pa0, cap_pa1, cap_pa2, cap_pa3, capV, List.getElem?_cons_succ, List.getElem?_cons_zero, p1, if_true, Option.map_some, clz, clzL, Bool.and_self]
theorem doors_exc {w : PF.W} (h : SN w) : ∀ c ∈ doorsV w, F__law_heard [c] = .ok (Due sSt w) := fun c hc => by
  have k : Cd 9 sSt := .inl ⟨rfl, rfl⟩
  simp only [List.mem_cons, List.not_mem_nil, or_false] at hc
  rcases hc with rfl | rfl | rfl | rfl | rfl | rfl | rfl | rfl | rfl | rfl | rfl | rfl
  · exact heard_exc (by rw [lr_do0, h]) k
  · exact heard_exc (by rw [lr_do1, raised_x (place_sn h)]) k
  · exact heard_exc (by rw [lr_do2, lowered_x (place_sn h)]) k
  · exact heard_exc (by rw [lr_do3, under_x (pair_sn h)]) k
  · exact heard_exc (by rw [lr_do4, twice_x (pair_sn h)]) k
  · exact heard_exc (by rw [lr_do5, meet_x (pair_sn h)]) k
  · exact heard_exc (by rw [lr_do6, join_x (pair_sn h)]) k
  · exact heard_exc (by rw [lr_do7, few_sn h]) k
  · exact heard_exc (by rw [lr_do8, more_sn h]) k
  · exact heard_exc (by rw [lr_do9, had_x (both_sn h)]) k
  · exact heard_exc (by rw [lr_do10, over_x (both_sn h)]) k
  · exact heard_exc (by rw [lr_do11, great_sn h]) k
theorem pairs_exc {u w : PF.W} (h : F_need_pair [u, w] = .exc 9 [w]) : ∀ c ∈ pairsV u w, F__law_heard [c] = .ok (Due sSt w) := fun c hc => by
  have k : Cd 9 sSt := .inl ⟨rfl, rfl⟩
  simp only [List.mem_cons, List.not_mem_nil, or_false] at hc
  rcases hc with rfl | rfl | rfl | rfl
  · exact heard_exc (by rw [lr_pa0, under_x h]) k
  · exact heard_exc (by rw [lr_pa1, twice_x h]) k
  · exact heard_exc (by rw [lr_pa2, meet_x h]) k
  · exact heard_exc (by rw [lr_pa3, join_x h]) k
end Lw
namespace Lw
open PySem L2 PF Rt
theorem pl_lJ (n : Nat) (f : Nat → Int) : PF.plain (.lst (J n f)) = true := by
  unfold PF.plain
  exact pl_J n f
theorem all_is {α : Type} (as : List α) (t : α → Bool) : allW [.lst (as.map fun a => PF.W.bl (t a))] = .ok (.bl (as.all t)) := by
  have e : ∀ as : List α, blsW (as.map fun a => PF.W.bl (t a)) = some (as.map t) := by
    intro as
    induction as with
    | nil => rfl
    | cons a as ih => simp [blsW, ih]
  simp [allW, e, List.all_map, Function.comp_def]
theorem stair_no {n : Nat} {f : Nat → Int} (o : 1 ≤ n) (e8 : n ≤ 8) (h : (((List.range n).all fun i => decide (0 ≤ f i) && decide (f i ≤ 1000)) && (List.range (n - 1)).all fun i => decide (f i ≤ f (i + 1))) = false) : F_is_stair [.tup (J n f)] = .ok (.bl false) := by
  have i1 : (1 : Int) ≤ (n : Int) := by omega
  have i8 : (n : Int) ≤ 8 := by omega
  have hz : sizeOk (J n f) = true := size_small (by rw [J_len]; omega)
  have c : compL (goName 1) fYes (fL (fCons (gV 1) (fCons (fun _ => .ok (.int 0)) (fCons (fun _ => .ok k_MOST_STAIR) fNil))) F_is_between) [.val (.tup (J n f)), .un, .un] (J n f) = .ok (.map (fun (i : Nat) => PF.W.bl (decide (0 ≤ f i) && decide (f i ≤ 1000))) (List.range n)) := by
    refine compL_map _ _ _ fun i _ => ⟨_, rfl, rfl, ?_⟩
    simp [k_MOST_STAIR, between_run]
  have hA := all_is (List.range n) (fun i => decide (0 ≤ f i) && decide (f i ≤ 1000))
  have c2 : compL (goTup 2 (goCons (goName 1) (goCons (goName 2) goNil))) fYes (f2 leW (gV 1) (gV 2)) [.val (.tup (J n f)), .un, .un] (.map (fun (i : Nat) => PF.W.tup [.int (f i), .int (f (i + 1))]) (List.range (n - 1))) = .ok (.map (fun (i : Nat) => PF.W.bl (decide (f i ≤ f (i + 1)))) (List.range (n - 1))) := compL_map _ _ _ fun i _ => ⟨_, rfl, rfl, by simp⟩
  have hB := all_is (List.range (n - 1)) (fun i => decide (f i ≤ f (i + 1)))
  have hm : min n (n - 1) = n - 1 := by omega
  have hz2 : sizeOk (.map (fun (i : Nat) => PF.W.tup [.int (f i), .int (f (i + 1))]) (List.range (n - 1))) = true := size_small (by simp; omega)
  unfold F_is_stair defF
  simp only [startE, List.map_cons, List.map_nil, List.length_cons, List.length_nil, Nat.reduceAdd, Nat.reduceSub, List.replicate, List.cons_append, List.nil_append, beq_self_eq_true, if_true, sSeq_eq, sIf_eq, fOr_eq, fNot_eq, fTru_eq, f1_eq, gV_eq, List.getElem?_cons_zero, T.bind_ok, tup_is, truW_bl, fBl_eq, fCh, fL_eq, fCons_eq, fNil_eq, lenW_tup, J_len, k_MOST_LETTERS, leW_int, decide_eq_true i1, decide_eq_true i8, blW_bl, Bool.not_true, Bool.false_eq_true, if_false, sNil_eq, fComp, iOf_eq, tupW, hz, wipeE, List.set_cons_succ, List.set_cons_zero, c, hA, sRet_eq, iL_eq, fSl, pSome, pInt, pNo, slW, J_tail, zpW, J_zip, hm, hz2, c2, hB, endOf]
  cases hx : ((List.range n).all fun i => decide (0 ≤ f i) && decide (f i ≤ 1000)) with
  | false => rfl
  | true =>
    rw [hx] at h
    have h : ((List.range (n - 1)).all fun i => decide (f i ≤ f (i + 1))) = false := h
    simp only [Bool.not_true, Bool.false_eq_true, if_false, T.bind_ok, List.getElem?_cons_zero, J_tail, zpW, J_zip, hm, hz2, if_true, List.set_cons_succ, List.set_cons_zero, c2, hB, h, endOf]
theorem nine_no {f : Nat → Int} : F_is_stair [.tup (J 9 f)] = .ok (.bl false) := by
  have h : ((9 : Int) ≤ 8) = False := by simp
  unfold F_is_stair defF
  simp [startE, sSeq_eq, sIf_eq, fOr_eq, fNot_eq, fTru_eq, f1_eq, gV_eq, tup_is, truW_bl, fBl_eq, fCh, fL_eq, fCons_eq, fNil_eq, lenW_tup, J_len, k_MOST_LETTERS, leW_int, blW_bl, sRet_eq, endOf]
theorem need_no {w : PF.W} (h : F_is_stair [w] = .ok (.bl false)) : F_need_stair [w] = .exc 9 [w] := by
  unfold F_need_stair
  rw [defF_eq _ _ _ _ rfl]
  simp [startE, sSeq_eq, sIf_eq, fNot_eq, fTru_eq, fL_eq, fCons_eq, fNil_eq, gV_eq, h, truW_bl, sRaise, T.bind]
theorem lst_no (ws : List PF.W) : F_is_stair [.lst ws] = .ok (.bl false) := by
  have li : isiW (isOnly "tuple") (.lst ws) = .ok (.bl false) := rfl
  unfold F_is_stair defF
  simp [startE, sSeq_eq, sIf_eq, fOr_eq, fNot_eq, fTru_eq, f1_eq, gV_eq, li, truW_bl, sRet_eq, endOf]
theorem sh_s : Sh 402 1 (.str sSt) := ⟨.str sSt, rfl, by decide +kernel, by decide +kernel, by decide +kernel, by decide +kernel, by decide +kernel⟩
structure Odd (w : PF.W) : Prop where
  need : SN w
  od : Od sSt w
theorem od_of {w : PF.W} (pl : PF.plain w = true) (h : Sh 5000 2 w) : Od sSt w := by
  have h2 : Sh 11000 3 (.tup [.str sSt, w]) := by
    refine (sh_tup (n := 5000) (k := 2) fun x hx => ?_).mono (by simp) (by omega)
    simp only [List.mem_cons, List.not_mem_nil, or_false] at hx
    rcases hx with rfl | rfl
    · exact sh_s.mono (by omega) (by omega)
    · exact h
  have h3 : Sh 30000 4 (.lst [.tup [.str sSt, w], .tup [.str sSt, w]]) := by
    refine (sh_lst (n := 11000) (k := 3) fun x hx => ?_).mono (by simp) (by omega)
    simp only [List.mem_cons, List.not_mem_nil, or_false, or_self] at hx
    rw [hx]
    exact h2
  exact ⟨pl, sh_reprB h (by omega) (by omega), sh_reprB h3 (by omega) (by omega)⟩
theorem odd_of {w : PF.W} (need : F_is_stair [w] = .ok (.bl false)) (pl : PF.plain w = true) (h : Sh 5000 2 w) : Odd w := ⟨need_no need, od_of pl h⟩
def bent (n : Nat) (f : Nat → Int) : Nat → Int := fun i => if i < n then f i else f (n - 1) - 1
theorem bent_J (n : Nat) (f : Nat → Int) : J n f ++ [.int (f (n - 1) - 1)] = J (n + 1) (bent n f) := by
  unfold J
  rw [List.range_succ, List.map_append]
  congr 1
  · refine List.map_congr_left fun i hi => ?_
    simp [bent, List.mem_range.mp hi]
  · simp [bent]
theorem odd_lst {n : Nat} {f : Nat → Int} (h : Stair n f) : Odd (.lst (J n f)) := by
  have := h.eight
  refine odd_of (lst_no _) (pl_lJ n f) ?_
  refine (sh_lst (n := 402) (k := 1) fun w hw => ?_).mono ?_ (by omega)
  · obtain ⟨i, hi, rfl⟩ := List.mem_map.mp hw
    have a := h.low i (List.mem_range.mp hi)
    have b := h.top i (List.mem_range.mp hi)
    exact sh_int (by omega)
  · rw [J_len]
    omega
theorem odd_bent {n : Nat} {f : Nat → Int} (h : Stair n f) : Odd (.tup (J n f ++ [.int (f (n - 1) - 1)])) := by
  have e8 := h.eight
  have o := h.one
  rw [bent_J]
  have bl : ∀ i, i < n + 1 → -1 ≤ bent n f i ∧ bent n f i ≤ 1000 := fun i hi => by
    unfold bent
    by_cases hx : i < n
    · rw [if_pos hx]
      have a := h.low i hx
      have b := h.top i hx
      omega
    · rw [if_neg hx]
      have a := h.low (n - 1) (by omega)
      have b := h.top (n - 1) (by omega)
      omega
  refine odd_of ?_ (pl_tJ _ _) ?_
  · by_cases h9 : n = 8
    · subst h9
      exact nine_no
    · refine stair_no (by omega) (by omega) ?_
      rw [Bool.and_eq_false_iff]
      right
      rw [List.all_eq_false]
      refine ⟨n - 1, List.mem_range.mpr (by omega), ?_⟩
      have e1 : bent n f (n - 1) = f (n - 1) := by
        unfold bent
        rw [if_pos (by omega)]
      have e2 : bent n f (n - 1 + 1) = f (n - 1) - 1 := by
        unfold bent
        rw [if_neg (by omega)]
      rw [e1, e2]
      simp
      omega
  · refine (sh_tup (n := 402) (k := 1) fun w hw => ?_).mono ?_ (by omega)
    · obtain ⟨i, hi, rfl⟩ := List.mem_map.mp hw
      have := bl i (List.mem_range.mp hi)
      exact sh_int (by omega)
    · rw [J_len]
      omega
def oddsF (n : Nat) (f : Nat → Int) : List PF.W := [.non, .int 5, .tup [], .lst (J n f), .tup (J n f ++ [.int (f (n - 1) - 1)]), .tup [.int 1001], .tup [.int (-1)], .str sSt, .dct [] [], .tup [.int 0, .int 0, .int 0, .int 0, .int 0, .int 0, .int 0, .int 0, .int 0], .tup [.tup [.int 1]],
  .tup [.bl true], .tup [.non], .tup [.str ⟨⟨[49]⟩⟩], .tup [.int 2, .int 1], .tup [.int 0, .bl false], .tup [.int 0, .int (10 ^ 30)], .tup [.tup [.int 1, .int 1]]]
theorem odds_all {n : Nat} {f : Nat → Int} (h : Stair n f) : ∀ w ∈ oddsF n f, Odd w := fun w hw => by
  unfold oddsF at hw
  simp only [List.mem_cons, List.not_mem_nil, or_false] at hw
  rcases hw with rfl | rfl | rfl | rfl | rfl | rfl | rfl | rfl | rfl | rfl | rfl | rfl | rfl | rfl | rfl | rfl | rfl | rfl
  · exact ⟨by kernel_rfl, ⟨by kernel_rfl, by kernel_rfl, by kernel_rfl⟩⟩
  · exact ⟨by kernel_rfl, ⟨by kernel_rfl, by kernel_rfl, by kernel_rfl⟩⟩
  · exact ⟨by kernel_rfl, ⟨by kernel_rfl, by kernel_rfl, by kernel_rfl⟩⟩
  · exact odd_lst h
  · exact odd_bent h
  · exact ⟨by kernel_rfl, ⟨by kernel_rfl, by kernel_rfl, by kernel_rfl⟩⟩
  · exact ⟨by kernel_rfl, ⟨by kernel_rfl, by kernel_rfl, by kernel_rfl⟩⟩
  · exact ⟨by kernel_rfl, ⟨by kernel_rfl, by kernel_rfl, by kernel_rfl⟩⟩
  · exact ⟨by kernel_rfl, ⟨by kernel_rfl, by kernel_rfl, by kernel_rfl⟩⟩
  · exact ⟨by kernel_rfl, ⟨by kernel_rfl, by kernel_rfl, by kernel_rfl⟩⟩
  · exact ⟨by kernel_rfl, ⟨by kernel_rfl, by kernel_rfl, by kernel_rfl⟩⟩
  · exact ⟨by kernel_rfl, ⟨by kernel_rfl, by kernel_rfl, by kernel_rfl⟩⟩
  · exact ⟨by kernel_rfl, ⟨by kernel_rfl, by kernel_rfl, by kernel_rfl⟩⟩
  · exact ⟨by kernel_rfl, ⟨by kernel_rfl, by kernel_rfl, by kernel_rfl⟩⟩
  · exact ⟨by kernel_rfl, ⟨by kernel_rfl, by kernel_rfl, by kernel_rfl⟩⟩
  · exact ⟨by kernel_rfl, ⟨by kernel_rfl, by kernel_rfl, by kernel_rfl⟩⟩
  · exact ⟨by kernel_rfl, ⟨by kernel_rfl, by kernel_rfl, by kernel_rfl⟩⟩
  · exact ⟨by kernel_rfl, ⟨by kernel_rfl, by kernel_rfl, by kernel_rfl⟩⟩
theorem last_J {n : Nat} {f : Nat → Int} (h : 1 ≤ n) : ixW (.tup (J n f)) (.int (-1)) = .ok (.int (f (n - 1))) := by
  have e : ixN (J n f).length (-1) = some (n - 1) := by
    rw [J_len]
    simp [ixN]
    omega
  simp only [ixW, atI, e, Option.bind_some, J_get (show n - 1 < n by omega)]
theorem odds_run {n : Nat} {f : Nat → Int} (h : Stair n f) : F__law_odd_stairs [.tup (J n f)] = .ok (.lst (oddsF n f)) := by
  have e8 := h.eight
  have o := h.one
  have m9 : mulTA (.tup [.int 0]) (.int 9) = .ok (.tup [.int 0, .int 0, .int 0, .int 0, .int 0, .int 0, .int 0, .int 0, .int 0]) := by kernel_rfl
  have pw : powW (.int 10) (.int 30) = .ok (.int (10 ^ 30)) := by kernel_rfl
  have lj := last_J (f := f) o
  have lo : lstOfW [.tup (J n f)] = .ok (.lst (J n f)) := by simp [lstOfW]
  have ad := add_tt (xs := J n f) (ys := [.int (f (n - 1) - 1)]) (by rw [J_len]; simp; omega)
  have sz : ∀ ws : List PF.W, ws.length ≤ 1000 → sizeOk ws = true := fun ws h => size_small h
  have ad2 : ∀ xs ys : List PF.W, xs.length + ys.length ≤ 1000 → addW (.lst xs) (.lst ys) = .ok (.lst (xs ++ ys)) := fun xs ys h => add_ll h
  unfold F__law_odd_stairs
  rw [defF_eq _ _ _ _ rfl]
  simp only [startE, List.map_cons, List.map_nil, List.length_cons, List.length_nil, Nat.reduceAdd, Nat.reduceSub, List.replicate, List.cons_append, List.nil_append, sSeq_eq, sOwn, fL_eq, fCons_eq, fNil_eq, f2_eq, f1_eq, gV_eq, List.getElem?_cons_succ, List.getElem?_cons_zero, T.bind_ok, mkTup_eq, sizeOk_nil, sizeOk_1, sizeOk_2, if_true, negW, lj, lo, subW_int, ad, m9, List.set_cons_succ, List.set_cons_zero, sApp, onFrz, frz]
  rw [if_pos (sz _ (by simp))]
  simp only [T.bind_ok, List.getElem?_cons_succ, List.getElem?_cons_zero, List.set_cons_succ, List.set_cons_zero]
  rw [if_pos (room_is (by simp))]
  simp only [T.bind_ok, List.getElem?_cons_succ, List.getElem?_cons_zero, List.set_cons_succ, List.set_cons_zero, sRet_eq, f2_eq, fL_eq, fCons_eq, fNil_eq, gV_eq, mkTup_eq, sizeOk_1, sizeOk_2, if_true, pw, mkLst_eq]
  rw [if_pos (sz _ (by simp))]
  simp only [T.bind_ok]
  rw [ad2 _ _ (by simp)]
  rfl
end Lw
namespace Lw
open PySem L2 PF Rt
def xt (n : Nat) (f : Nat → Int) : Nat → Int := fun i => if i < n then f i else f (n - 1)
theorem xt_lt {n i : Nat} {f : Nat → Int} (h : i < n) : xt n f i = f i := if_pos h
theorem xt_ge {n i : Nat} {f : Nat → Int} (h : n ≤ i) : xt n f i = f (n - 1) := if_neg (by omega)
section
variable {n : Nat} {f g : Nat → Int}
theorem J_last (h1 : 1 ≤ n) : cutW (J n f) (some (-1)) none = [.int (f (n - 1))] := by
  have e : HT.sIx n 0 (some (-1)) = n - 1 := by
    simp only [HT.sIx]
    split <;> omega
  have e0 : HT.sIx n n none = n := rfl
  simp only [cutW, J_len, e, e0]
  refine List.ext_getElem? fun i => ?_
  cases i with
  | zero => rw [List.getElem?_take_of_lt (by omega), List.getElem?_drop, J_get (by omega)]; rfl
  | succ i => rw [List.getElem?_eq_none (by simp; omega), List.getElem?_eq_none (by simp)]
theorem J_xt {m : Nat} (hm : n ≤ m) : J n f ++ List.replicate (m - n) (.int (f (n - 1))) = J m (xt n f) := by
  refine List.ext_getElem? fun i => ?_
  by_cases hi : i < n
  · rw [List.getElem?_append_left (by rw [J_len]; exact hi), J_get hi, J_get (by omega), xt_lt hi]
  · rw [List.getElem?_append_right (by rw [J_len]; omega), J_len]
    by_cases h2 : i < m
    · rw [List.getElem?_replicate, if_pos (by omega), J_get h2, xt_ge (by omega)]
    · rw [List.getElem?_eq_none (by simp; omega), List.getElem?_eq_none (by simp; omega)]
theorem xt_stair (h : Stair n f) {m : Nat} (h1 : 1 ≤ m) (h8 : m ≤ 8) : Stair m (xt n f) := by
  have o := h.one
  refine ⟨h1, h8, fun i hi => ?_, fun i hi => ?_, fun i hi => ?_⟩
  · by_cases a : i < n
    · rw [xt_lt a]; exact h.low i a
    · rw [xt_ge (by omega)]; exact h.low _ (by omega)
  · by_cases a : i < n
    · rw [xt_lt a]; exact h.top i a
    · rw [xt_ge (by omega)]; exact h.top _ (by omega)
  · by_cases a : i + 1 < n
    · rw [xt_lt (by omega), xt_lt a]; exact h.up i a
    · rw [xt_ge (i := i + 1) (by omega)]
      by_cases b : i < n
      · rw [xt_lt b]; exact h.le (by omega) (by omega)
      · rw [xt_ge (by omega)]; exact Int.le_refl _
end
section
variable {n : Nat} {f : Nat → Int}
theorem pair_odd (hs : Stair n f) {w : PF.W} (h : SN w) : F_need_pair [.tup (J n f), w] = .exc 9 [w] := by
  unfold F_need_pair
  rw [defF_eq _ _ _ _ rfl]
  simp [startE, sSeq_eq, sExpr_eq, fL_eq, fCons_eq, fNil_eq, gV_eq, need_run hs, h, T.bind]
theorem pair_far (hs : Stair n f) {m : Nat} {g : Nat → Int} (hg : Stair m g) (hn : n ≠ m) : F_need_pair [.tup (J n f), .tup (J m g)] = .exc 9 [.tup (J m g)] := by
  have ne : (n : Int) ≠ (m : Int) := by omega
  have e : neW (.int (n : Int)) (.int (m : Int)) = .ok (.bl true) := by
    simp [ne]
  unfold F_need_pair
  rw [defF_eq _ _ _ _ rfl]
  simp only [startE, List.map_cons, List.map_nil, List.length_cons, List.length_nil, Nat.reduceAdd, Nat.reduceSub, List.replicate, List.cons_append, List.nil_append, sSeq_eq, sExpr_eq, fL_eq, fCons_eq, fNil_eq, gV_eq, List.getElem?_cons_succ, List.getElem?_cons_zero, T.bind_ok, need_run hs, need_run hg, sIf_eq, fBl_eq, f2_eq, lenW_tup, J_len]
  first
  | (rw [e]; rfl)
  | (rw [show neS (.int (n : Int)) (.int (m : Int)) = .ok (.bl true) from e]; rfl)
theorem body1 (hs : Stair n f) {w : PF.W} (h : Odd w) (x2 : Sl) : (sIf (fNot (fTru (fL (fCons (f2 addW (fL (fCons (gV 1) fNil) F__law_doors) (fL (fCons (gV 0) (fCons (gV 1) fNil)) F__law_pairs)) (fCons (fL (fCons (fun _ => .ok (.str ⟨⟨[115, 116, 97, 105, 114]⟩⟩)) (fCons (gV 1) fNil)) mkTup) (fCons (gV 1) fNil))) F__law_refuse))) (sRet (fun _ => .ok (.bl false))) sNil) [.val (.tup (J n f)), .val w, x2] = .ok (.nx, [.val (.tup (J n f)), .val w, x2]) := by
  have ad := add_ll (xs := doorsV w) (ys := pairsV (.tup (J n f)) w) (by simp)
  have rf := refuse_ok (cs := doorsV w ++ pairsV (.tup (J n f)) w) h.od fun c hc => by
    rcases List.mem_append.mp hc with hc | hc
    · exact doors_exc h.need c hc
    · exact pairs_exc (pair_odd hs h.need) c hc
  have dr := doors_run h.od.pl
  have pr := pairs_run (u := .tup (J n f)) (pl_tJ n f) h.od.pl
  generalize doorsV w = D at ad rf dr
  generalize pairsV (.tup (J n f)) w = P at ad rf pr
  simp only [sIf_eq, fNot_eq, fTru_eq, fL_eq, fCons_eq, fNil_eq, f2_eq, gV_eq, List.getElem?_cons_succ, List.getElem?_cons_zero, T.bind_ok, dr, pr, ad, mkTup_eq, sizeOk_2, if_true, rf, truW_bl, Bool.not_true, Bool.false_eq_true, if_false, sNil_eq]
theorem loop1 (hs : Stair n f) (x2 : Sl) : ∀ (ws : List PF.W) (x1 : Sl), (∀ w ∈ ws, Odd w) → ∃ z1, forL (goName 1) (sIf (fNot (fTru (fL (fCons (f2 addW (fL (fCons (gV 1) fNil) F__law_doors) (fL (fCons (gV 0) (fCons (gV 1) fNil)) F__law_pairs)) (fCons (fL (fCons (fun _ => .ok (.str ⟨⟨[115, 116, 97, 105, 114]⟩⟩)) (fCons (gV 1) fNil)) mkTup) (fCons (gV 1) fNil))) F__law_refuse))) (sRet (fun _ => .ok (.bl false))) sNil) ws [.val (.tup (J n f)), x1, x2] = .ok (.nx, [.val (.tup (J n f)), z1, x2])
  | [], x1, _ => ⟨x1, rfl⟩
  | w :: ws, x1, h => by
    have e := body1 hs (h w (List.mem_cons_self ..)) x2
    obtain ⟨z1, e2⟩ := loop1 hs x2 ws (.val w) fun x hx => h x (List.mem_cons_of_mem _ hx)
    refine ⟨z1, ?_⟩
    unfold forL
    rw [goName_eq]
    simp only [List.set_cons_succ, List.set_cons_zero]
    rw [e]
    exact e2
theorem od_J (hs : Stair n f) : Od sSt (.tup (J n f)) := by
  have e8 := hs.eight
  refine od_of (pl_tJ n f) ((sh_tup (n := 402) (k := 1) fun w hw => ?_).mono ?_ (by omega))
  · obtain ⟨i, hi, rfl⟩ := List.mem_map.mp hw
    have a := hs.low i (List.mem_range.mp hi)
    have b := hs.top i (List.mem_range.mp hi)
    exact sh_int (by omega)
  · rw [J_len]
    omega
theorem far_run (hs : Stair n f) (x1 : Sl) : ∃ m g, Stair m g ∧ n ≠ m ∧ (fIf (fBl (f2 ltW (fL (fCons (gV 0) fNil) lenW) (fun _ => .ok (.int 8)))) (f2 addW (gV 0) (fSl (gV 0) (pSome (f1 negW (fun _ => .ok (.int 1)))) pNo)) (fSl (gV 0) (pSome (fun _ => .ok (.int 1))) pNo)) [.val (.tup (J n f)), x1, .un] = .ok (.tup (J m g)) := by
  have e8 := hs.eight
  have o := hs.one
  by_cases h8 : n < 8
  · refine ⟨n + 1, xt n f, xt_stair hs (by omega) (by omega), by omega, ?_⟩
    have i8 : (n : Int) < 8 := by omega
    have sl : slW (.tup (J n f)) (some (-1)) none = .ok (.tup [.int (f (n - 1))]) := by
      show T.ok (PF.W.tup (cutW (J n f) (some (-1)) none)) = _
      rw [J_last o]
    have ad := add_tt (xs := J n f) (ys := [.int (f (n - 1))]) (by rw [J_len]; simp; omega)
    have ex := J_xt (n := n) (m := n + 1) (f := f) (by omega)
    rw [show n + 1 - n = 1 by omega] at ex
    have ex : J n f ++ [.int (f (n - 1))] = J (n + 1) (xt n f) := ex
    rw [ex] at ad
    have n1 : negW (.int 1) = .ok (.int (-1)) := rfl
    have tr : blW (.bl (decide ((n : Int) < 8))) = .ok true := by simp [i8]
    simp only [fIf_eq, fBl_eq, f2_eq, f1_eq, fL_eq, fCons_eq, fNil_eq, gV_eq, List.getElem?_cons_succ, List.getElem?_cons_zero, T.bind_ok, lenW_tup, J_len, ltW_int, tr, if_true, fSl_eq, pNo_eq, pSome_eq, pInt, n1, sl, ad]
  · refine ⟨n - 1, fun i => f (i + 1), ⟨by omega, by omega, fun i hi => hs.low _ (by omega), fun i hi => hs.top _ (by omega), fun i hi => hs.up _ (by omega)⟩, by omega, ?_⟩
    have i8 : ¬ (n : Int) < 8 := by omega
    have sl : slW (.tup (J n f)) (some 1) none = .ok (.tup (J (n - 1) fun i => f (i + 1))) := by
      show T.ok (PF.W.tup (cutW (J n f) (some 1) none)) = _
      rw [J_tail]
    have tr : blW (.bl (decide ((n : Int) < 8))) = .ok false := by simp [i8]
    simp only [fIf_eq, fBl_eq, f2_eq, f1_eq, fL_eq, fCons_eq, fNil_eq, gV_eq, List.getElem?_cons_succ, List.getElem?_cons_zero, T.bind_ok, lenW_tup, J_len, ltW_int, tr, Bool.false_eq_true, if_false, fSl_eq, pNo_eq, pSome_eq, pInt, sl]
theorem stairs_run (hs : Stair n f) : F__law_stairs_right [.tup (J n f)] = .ok (.bl true) := by
  obtain ⟨z1, e1⟩ := loop1 hs .un (oddsF n f) .un (odds_all hs)
  obtain ⟨m, g, hg, hn, e2⟩ := far_run hs z1
  have rf := refuse_ok (cs := pairsV (.tup (J n f)) (.tup (J m g))) (od_J hg) (pairs_exc (pair_far hs hg hn))
  have pr := pairs_run (u := .tup (J n f)) (w := .tup (J m g)) (pl_tJ n f) (pl_tJ m g)
  generalize pairsV (.tup (J n f)) (.tup (J m g)) = P at rf pr
  unfold F__law_stairs_right
  rw [defF_eq _ _ _ _ rfl]
  simp only [startE, List.map_cons, List.map_nil, List.length_cons, List.length_nil, Nat.reduceAdd, Nat.reduceSub, List.replicate, List.cons_append, List.nil_append, sSeq_eq, sFor_eq, iOf_eq, fL_eq, fCons_eq, fNil_eq, gV_eq, List.getElem?_cons_succ, List.getElem?_cons_zero, T.bind_ok, odds_run hs, lstW]
  rw [e1]
  simp only [T.bind_ok, sSet_eq]
  rw [e2]
  simp only [T.bind_ok, List.set_cons_succ, List.set_cons_zero, sRet_eq, fL_eq, fCons_eq, fNil_eq, gV_eq, List.getElem?_cons_succ, List.getElem?_cons_zero, pr, mkTup_eq, sizeOk_2, if_true, rf, endOf]
end
end Lw
namespace Lw
open PySem L2 PF Rt
structure OdN (a b : Int) (w : PF.W) : Prop where
  bt : F_is_between [w, .int a, .int b] = .ok (.bl false)
  od : Od sNu w
section
variable {n : Nat} {f : Nat → Int} {w u : PF.W}
theorem place_x (hs : Stair n f) (h : F_is_between [w, .int 1, .int (n : Int)] = .ok (.bl false)) : F_need_place [.tup (J n f), w, u] = .exc 3 [w] := by
  unfold F_need_place
  rw [defF_eq _ _ _ _ rfl]
  simp [startE, sSeq_eq, sExpr_eq, fL_eq, fCons_eq, fNil_eq, gV_eq, need_run hs, sIf_eq, fNot_eq, fTru_eq, J_len, h, truW_bl, sRaise, T.bind]
theorem place_v (hs : Stair n f) {k : Int} (hk : 1 ≤ k ∧ k ≤ n) (h : F_is_between [w, .int 0, .int 1000] = .ok (.bl false)) : F_need_place [.tup (J n f), .int k, w] = .exc 3 [w] := by
  have e := between_run k 1 n
  rw [decide_eq_true hk.1, decide_eq_true hk.2] at e
  unfold F_need_place
  rw [defF_eq _ _ _ _ rfl]
  simp [startE, sSeq_eq, sExpr_eq, fL_eq, fCons_eq, fNil_eq, gV_eq, need_run hs, sIf_eq, fNot_eq, fTru_eq, J_len, e, k_MOST_STAIR, h, truW_bl, sRaise, T.bind]
theorem few_x (hs : Stair n f) (h : F_is_between [w, .int 1, .int (n : Int)] = .ok (.bl false)) : F_fewer [.tup (J n f), w] = .exc 3 [w] := by
  unfold F_fewer
  rw [defF_eq _ _ _ _ rfl]
  simp [startE, sSeq_eq, sExpr_eq, fL_eq, fCons_eq, fNil_eq, gV_eq, need_run hs, sIf_eq, fNot_eq, fTru_eq, J_len, h, truW_bl, sRaise, T.bind]
theorem great_x (hs : Stair n f) (h : F_is_between [w, .int 1, .int (n : Int)] = .ok (.bl false)) : F_greatest_at [.tup (J n f), w, u] = .exc 3 [w] := by
  unfold F_greatest_at
  rw [defF_eq _ _ _ _ rfl]
  simp [startE, sSeq_eq, sExpr_eq, fL_eq, fCons_eq, fNil_eq, gV_eq, need_run hs, sIf_eq, fNot_eq, fTru_eq, J_len, h, truW_bl, sRaise, T.bind]
theorem more_x (hs : Stair n f) (h : F_is_between [w, .int (n : Int), .int 8] = .ok (.bl false)) : F_more [.tup (J n f), w] = .exc 3 [w] := by
  unfold F_more
  rw [defF_eq _ _ _ _ rfl]
  simp [startE, sSeq_eq, sExpr_eq, fL_eq, fCons_eq, fNil_eq, gV_eq, need_run hs, sIf_eq, fNot_eq, fTru_eq, J_len, k_MOST_LETTERS, h, truW_bl, sRaise, T.bind]
theorem many_x (h : F_is_between [w, .int 1, .int 8] = .ok (.bl false)) : F_need_many [w] = .exc 3 [w] := by
  unfold F_need_many
  rw [defF_eq _ _ _ _ rfl]
  simp [startE, fL_eq, fCons_eq, fNil_eq, gV_eq, sIf_eq, fNot_eq, fTru_eq, k_MOST_LETTERS, h, truW_bl, sRaise, T.bind]
theorem costs_x (h : F_is_between [w, .int 1, .int 8] = .ok (.bl false)) : F_costs_of [w] = .exc 3 [w] := by
  unfold F_costs_of
  rw [defF_eq _ _ _ _ rfl]
  simp [startE, sSeq_eq, sExpr_eq, fL_eq, fCons_eq, fNil_eq, gV_eq, many_x h, T.bind]
theorem least_x (h : F_is_between [w, .int 1, .int 8] = .ok (.bl false)) : F_least_stair [w, u] = .exc 3 [w] := by
  unfold F_least_stair
  rw [defF_eq _ _ _ _ rfl]
  simp [startE, sSeq_eq, sExpr_eq, fL_eq, fCons_eq, fNil_eq, gV_eq, many_x h, T.bind]
abbrev nL (p : List Nat) : PF.W := .lam "_law_numbers_right" p
abbrev nC (p : List Nat) (ws : List PF.W) : PF.W := .clo "_law_numbers_right" p ws
theorem cd_nu : Cd 3 sNu := .inr (.inl ⟨rfl, rfl⟩)
theorem bodyA (hs : Stair n f) (h : OdN 1 n w) (y1 : Sl) : ∃ z1, (sSeq (sSet 1 (fL (fCons (fun _ => .ok (.lam "_law_numbers_right" [1, 1, 0, 0, 0, 0])) (fCons (fun _ => .ok (.lam "_law_numbers_right" [1, 1, 0, 0, 0, 1])) fNil)) mkLst)) (sSeq (sSet 1 (f2 addW (gV 1) (fL (fCons (fun _ => .ok (.lam "_law_numbers_right" [1, 1, 0, 0, 1, 1, 0])) (fCons (fun _ => .ok (.lam "_law_numbers_right" [1, 1, 0, 0, 1, 1, 1])) fNil)) mkLst))) (sIf (fNot (fTru (fLz cap__law_numbers_right (fCons (gV 1) (fCons (fL (fCons (fun _ => .ok (.str ⟨⟨[110, 117, 109, 98, 101, 114]⟩⟩)) (fCons (gV 2) fNil)) mkTup) (fCons (gV 2) fNil))) F__law_refuse))) (sRet (fun _ => .ok (.bl false))) sNil))) [.val (.tup (J n f)), y1, .val w, .val (.int n)] = .ok (.nx, [.val (.tup (J n f)), z1, .val w, .val (.int n)]) := by
  have p1 : plainL [.tup (J n f), w] = true := by
    simp only [plainL, pl_tJ n f, h.od.pl, Bool.and_self]
  have ad := add_ll (xs := [nL [1, 1, 0, 0, 0, 0], nL [1, 1, 0, 0, 0, 1]]) (ys := [nL [1, 1, 0, 0, 1, 1, 0], nL [1, 1, 0, 0, 1, 1, 1]]) (by simp)
  have lz : (fLz cap__law_numbers_right (fCons (gV 1) (fCons (fL (fCons (fun _ => .ok (.str ⟨⟨[110, 117, 109, 98, 101, 114]⟩⟩)) (fCons (gV 2) fNil)) mkTup) (fCons (gV 2) fNil))) F__law_refuse) [.val (.tup (J n f)), .val (.lst [nL [1, 1, 0, 0, 0, 0], nL [1, 1, 0, 0, 0, 1], nL [1, 1, 0, 0, 1, 1, 0], nL [1, 1, 0, 0, 1, 1, 1]]), .val w, .val (.int n)] = .ok (.bl true) :=
    lz_run h.od (ls := [nL [1, 1, 0, 0, 0, 0], nL [1, 1, 0, 0, 0, 1], nL [1, 1, 0, 0, 1, 1, 0], nL [1, 1, 0, 0, 1, 1, 1]]) (by simp only [fL_eq, fCons_eq, fNil_eq, gV_eq, List.getElem?_cons_succ, List.getElem?_cons_zero, T.bind_ok, mkTup_eq, sizeOk_2, if_true])
      (cs := [nC [1, 1, 0, 0, 0, 0] [.tup (J n f), w], nC [1, 1, 0, 0, 0, 1] [.tup (J n f), w], nC [1, 1, 0, 0, 1, 1, 0] [.tup (J n f), w], nC [1, 1, 0, 0, 1, 1, 1] [.tup (J n f), w]])
      (by simp only [frWs, frW, cap_nu0, cap_nu1, cap_nu2, cap_nu3, capV, List.getElem?_cons_succ, List.getElem?_cons_zero, p1, if_true]) fun c hc => by
        simp only [List.mem_cons, List.not_mem_nil, or_false] at hc
        rcases hc with rfl | rfl | rfl | rfl
        · exact heard_exc (by rw [lr_nu0, raised_x (place_x hs h.bt)]) cd_nu
        · exact heard_exc (by rw [lr_nu1, lowered_x (place_x hs h.bt)]) cd_nu
        · exact heard_exc (by rw [lr_nu2, great_x hs h.bt]) cd_nu
        · exact heard_exc (by rw [lr_nu3, few_x hs h.bt]) cd_nu
  refine ⟨.val (.lst [nL [1, 1, 0, 0, 0, 0], nL [1, 1, 0, 0, 0, 1], nL [1, 1, 0, 0, 1, 1, 0], nL [1, 1, 0, 0, 1, 1, 1]]), ?_⟩
  simp only [sSeq_eq, sSet_eq, fL_eq, fCons_eq, fNil_eq, f2_eq, gV_eq, T.bind_ok, mkLst_eq, sizeOk_2, if_true, List.set_cons_succ, List.set_cons_zero, List.getElem?_cons_succ, List.getElem?_cons_zero, ad, List.cons_append, List.nil_append, sIf_eq, fNot_eq, fTru_eq]
  rw [lz]
  rfl
theorem bodyB (hs : Stair n f) (h : OdN 0 1000 w) (y1 : Sl) : ∃ z1, (sSeq (sSet 1 (fL (fCons (fun _ => .ok (.lam "_law_numbers_right" [1, 2, 0, 0, 0, 0])) (fCons (fun _ => .ok (.lam "_law_numbers_right" [1, 2, 0, 0, 0, 1])) fNil)) mkLst)) (sIf (fNot (fTru (fLz cap__law_numbers_right (fCons (gV 1) (fCons (fL (fCons (fun _ => .ok (.str ⟨⟨[110, 117, 109, 98, 101, 114]⟩⟩)) (fCons (gV 2) fNil)) mkTup) (fCons (gV 2) fNil))) F__law_refuse))) (sRet (fun _ => .ok (.bl false))) sNil)) [.val (.tup (J n f)), y1, .val w, .val (.int n)] = .ok (.nx, [.val (.tup (J n f)), z1, .val w, .val (.int n)]) := by
  have o := hs.one
  have p1 : plainL [.tup (J n f), w] = true := by
    simp only [plainL, pl_tJ n f, h.od.pl, Bool.and_self]
  have p2 : plainL [.int (n : Int), .tup (J n f), w] = true := by
    simp only [plainL, pl_tJ n f, h.od.pl, Bool.and_self]
    rfl
  have lz : (fLz cap__law_numbers_right (fCons (gV 1) (fCons (fL (fCons (fun _ => .ok (.str ⟨⟨[110, 117, 109, 98, 101, 114]⟩⟩)) (fCons (gV 2) fNil)) mkTup) (fCons (gV 2) fNil))) F__law_refuse) [.val (.tup (J n f)), .val (.lst [nL [1, 2, 0, 0, 0, 0], nL [1, 2, 0, 0, 0, 1]]), .val w, .val (.int n)] = .ok (.bl true) :=
    lz_run h.od (ls := [nL [1, 2, 0, 0, 0, 0], nL [1, 2, 0, 0, 0, 1]]) (by simp only [fL_eq, fCons_eq, fNil_eq, gV_eq, List.getElem?_cons_succ, List.getElem?_cons_zero, T.bind_ok, mkTup_eq, sizeOk_2, if_true])
      (cs := [nC [1, 2, 0, 0, 0, 0] [.tup (J n f), w], nC [1, 2, 0, 0, 0, 1] [.int n, .tup (J n f), w]])
      (by simp only [frWs, frW, cap_nu4, cap_nu5, capV, List.getElem?_cons_succ, List.getElem?_cons_zero, p1, p2, if_true]) fun c hc => by
        simp only [List.mem_cons, List.not_mem_nil, or_false] at hc
        rcases hc with rfl | rfl
        · exact heard_exc (by rw [lr_nu4, raised_x (place_v hs (by omega) h.bt)]) cd_nu
        · exact heard_exc (by rw [lr_nu5, lowered_x (place_v hs (by omega) h.bt)]) cd_nu
  refine ⟨.val (.lst [nL [1, 2, 0, 0, 0, 0], nL [1, 2, 0, 0, 0, 1]]), ?_⟩
  simp only [sSeq_eq, sSet_eq, fL_eq, fCons_eq, fNil_eq, f2_eq, gV_eq, T.bind_ok, mkLst_eq, sizeOk_2, if_true, List.set_cons_succ, List.set_cons_zero, List.getElem?_cons_succ, List.getElem?_cons_zero, sIf_eq, fNot_eq, fTru_eq]
  rw [lz]
  rfl
theorem bodyC (hs : Stair n f) (h : OdN n 8 w) (y1 : Sl) : ∃ z1, (sIf (fNot (fTru (fLz cap__law_numbers_right (fCons (fL (fCons (fun _ => .ok (.lam "_law_numbers_right" [1, 3, 0, 0, 0, 0, 0, 0])) fNil) mkLst) (fCons (fL (fCons (fun _ => .ok (.str ⟨⟨[110, 117, 109, 98, 101, 114]⟩⟩)) (fCons (gV 2) fNil)) mkTup) (fCons (gV 2) fNil))) F__law_refuse))) (sRet (fun _ => .ok (.bl false))) sNil) [.val (.tup (J n f)), y1, .val w, .val (.int n)] = .ok (.nx, [.val (.tup (J n f)), z1, .val w, .val (.int n)]) := by
  have p1 : plainL [.tup (J n f), w] = true := by
    simp only [plainL, pl_tJ n f, h.od.pl, Bool.and_self]
  have lz : (fLz cap__law_numbers_right (fCons (fL (fCons (fun _ => .ok (.lam "_law_numbers_right" [1, 3, 0, 0, 0, 0, 0, 0])) fNil) mkLst) (fCons (fL (fCons (fun _ => .ok (.str ⟨⟨[110, 117, 109, 98, 101, 114]⟩⟩)) (fCons (gV 2) fNil)) mkTup) (fCons (gV 2) fNil))) F__law_refuse) [.val (.tup (J n f)), y1, .val w, .val (.int n)] = .ok (.bl true) :=
    lz_run h.od (ls := [nL [1, 3, 0, 0, 0, 0, 0, 0]]) (by simp only [fL_eq, fCons_eq, fNil_eq, gV_eq, List.getElem?_cons_succ, List.getElem?_cons_zero, T.bind_ok, mkTup_eq, mkLst_eq, sizeOk_1, sizeOk_2, if_true])
      (cs := [nC [1, 3, 0, 0, 0, 0, 0, 0] [.tup (J n f), w]])
      (by simp only [frWs, frW, cap_nu6, capV, List.getElem?_cons_succ, List.getElem?_cons_zero, p1, if_true]) fun c hc => by
        simp only [List.mem_cons, List.not_mem_nil, or_false] at hc
        subst hc
        exact heard_exc (by rw [lr_nu6, more_x hs h.bt]) cd_nu
  refine ⟨y1, ?_⟩
  simp only [sIf_eq, fNot_eq, fTru_eq]
  rw [lz]
  rfl
theorem bodyD (st : PF.W) (m : PF.W) (h : OdN 1 8 w) (y1 : Sl) : ∃ z1, (sSeq (sSet 1 (fL (fCons (fun _ => .ok (.lam "_law_numbers_right" [1, 4, 0, 0, 0, 0])) (fCons (fun _ => .ok (.lam "_law_numbers_right" [1, 4, 0, 0, 0, 1])) fNil)) mkLst)) (sIf (fNot (fTru (fLz cap__law_numbers_right (fCons (gV 1) (fCons (fL (fCons (fun _ => .ok (.str ⟨⟨[110, 117, 109, 98, 101, 114]⟩⟩)) (fCons (gV 2) fNil)) mkTup) (fCons (gV 2) fNil))) F__law_refuse))) (sRet (fun _ => .ok (.bl false))) sNil)) [.val st, y1, .val w, .val m] = .ok (.nx, [.val st, z1, .val w, .val m]) := by
  have p1 : plainL [w] = true := by
    simp only [plainL, h.od.pl, Bool.and_self]
  have lz : (fLz cap__law_numbers_right (fCons (gV 1) (fCons (fL (fCons (fun _ => .ok (.str ⟨⟨[110, 117, 109, 98, 101, 114]⟩⟩)) (fCons (gV 2) fNil)) mkTup) (fCons (gV 2) fNil))) F__law_refuse) [.val st, .val (.lst [nL [1, 4, 0, 0, 0, 0], nL [1, 4, 0, 0, 0, 1]]), .val w, .val m] = .ok (.bl true) :=
    lz_run h.od (ls := [nL [1, 4, 0, 0, 0, 0], nL [1, 4, 0, 0, 0, 1]]) (by simp only [fL_eq, fCons_eq, fNil_eq, gV_eq, List.getElem?_cons_succ, List.getElem?_cons_zero, T.bind_ok, mkTup_eq, sizeOk_2, if_true])
      (cs := [nC [1, 4, 0, 0, 0, 0] [w], nC [1, 4, 0, 0, 0, 1] [w]])
      (by simp only [frWs, frW, cap_nu7, cap_nu8, capV, List.getElem?_cons_succ, List.getElem?_cons_zero, p1, if_true]) fun c hc => by
        simp only [List.mem_cons, List.not_mem_nil, or_false] at hc
        rcases hc with rfl | rfl
        · exact heard_exc (by rw [lr_nu7, costs_x h.bt]) cd_nu
        · exact heard_exc (by rw [lr_nu8, least_x h.bt]) cd_nu
  refine ⟨.val (.lst [nL [1, 4, 0, 0, 0, 0], nL [1, 4, 0, 0, 0, 1]]), ?_⟩
  simp only [sSeq_eq, sSet_eq, fL_eq, fCons_eq, fNil_eq, f2_eq, gV_eq, T.bind_ok, mkLst_eq, sizeOk_2, if_true, List.set_cons_succ, List.set_cons_zero, List.getElem?_cons_succ, List.getElem?_cons_zero, sIf_eq, fNot_eq, fTru_eq]
  rw [lz]
  rfl
end
/-- a loop over things, each of which is refused: a slot is set anew at each turn, the first slot and the last stay -/
theorem nu_loop {gb : En → T (Fl × En)} {st m : PF.W} {Q : PF.W → Prop} (step : ∀ w y1, Q w → ∃ z1, gb [.val st, y1, .val w, .val m] = .ok (.nx, [.val st, z1, .val w, .val m])) : ∀ (ws : List PF.W) (y1 y2 : Sl), (∀ w ∈ ws, Q w) → ∃ z1 z2, forL (goName 2) gb ws [.val st, y1, y2, .val m] = .ok (.nx, [.val st, z1, z2, .val m])
  | [], y1, y2, _ => ⟨y1, y2, rfl⟩
  | w :: ws, y1, y2, h => by
    obtain ⟨z, e⟩ := step w y1 (h w (List.mem_cons_self ..))
    obtain ⟨z1, z2, e2⟩ := nu_loop step ws z (.val w) fun x hx => h x (List.mem_cons_of_mem _ hx)
    refine ⟨z1, z2, ?_⟩
    unfold forL
    rw [goName_eq]
    simp only [List.set_cons_succ, List.set_cons_zero]
    rw [e]
    exact e2
end Lw
namespace Lw
open PySem L2 PF Rt
theorem bt_int {v a b : Int} (h : v < a ∨ b < v) : F_is_between [.int v, .int a, .int b] = .ok (.bl false) := by
  rw [between_run]
  have : (decide (a ≤ v) && decide (v ≤ b)) = false := by
    rw [Bool.and_eq_false_iff, decide_eq_false_iff_not, decide_eq_false_iff_not]
    omega
  rw [this]
theorem od_int {v : Int} (h : -2000 ≤ v ∧ v ≤ 2000) : Od sNu (.int v) := by
  have h1 : Sh 402 1 (.int v) := sh_int (by omega)
  have hs : Sh 402 1 (.str sNu) := ⟨.str sNu, rfl, by decide +kernel, by decide +kernel, by decide +kernel, by decide +kernel, by decide +kernel⟩
  have h2 : Sh 1000 2 (Due sNu (.int v)) := by
    refine (sh_tup (n := 402) (k := 1) fun x hx => ?_).mono (by simp) (by omega)
    simp only [List.mem_cons, List.not_mem_nil, or_false] at hx
    rcases hx with rfl | rfl
    · exact hs
    · exact h1
  have h3 : Sh 3000 3 (.lst [Due sNu (.int v), Due sNu (.int v)]) := by
    refine (sh_lst (n := 1000) (k := 2) fun x hx => ?_).mono (by simp) (by omega)
    simp only [List.mem_cons, List.not_mem_nil, or_false, or_self] at hx
    rw [hx]
    exact h2
  exact ⟨rfl, sh_reprB h1 (by omega) (by omega), sh_reprB h3 (by omega) (by omega)⟩
def lsA (n : Int) : List PF.W := [.int 0, .int (n + 1), .int (-1), .bl true, .bl false, .non, .str ⟨⟨[49]⟩⟩, .tup [.int 1], .lst [.int 1], .int (10 ^ 30)]
def lsB : List PF.W := [.int (-1), .int 1001, .bl true, .non, .str ⟨⟨[49]⟩⟩, .tup [.int 1], .dct [] []]
def lsC (n : Int) : List PF.W := [.int 0, .int 9, .int (-1), .bl true, .non, .str ⟨⟨[49]⟩⟩, .tup [.int 1], .int (n - 1)]
def lsD : List PF.W := [.int 0, .int 9, .int (-1), .bl true, .non, .str ⟨⟨[49]⟩⟩, .tup [.int 1], .int (10 ^ 30)]
theorem od_c0 : Od sNu (.bl true) := ⟨by kernel_rfl, by kernel_rfl, by kernel_rfl⟩
theorem od_c1 : Od sNu (.bl false) := ⟨by kernel_rfl, by kernel_rfl, by kernel_rfl⟩
theorem od_c2 : Od sNu .non := ⟨by kernel_rfl, by kernel_rfl, by kernel_rfl⟩
theorem od_c3 : Od sNu (.str ⟨⟨[49]⟩⟩) := ⟨by kernel_rfl, by kernel_rfl, by kernel_rfl⟩
theorem od_c4 : Od sNu (.tup [.int 1]) := ⟨by kernel_rfl, by kernel_rfl, by kernel_rfl⟩
theorem od_c5 : Od sNu (.lst [.int 1]) := ⟨by kernel_rfl, by kernel_rfl, by kernel_rfl⟩
theorem od_c6 : Od sNu (.int (10 ^ 30)) := ⟨by kernel_rfl, by kernel_rfl, by kernel_rfl⟩
theorem od_c7 : Od sNu (.dct [] []) := ⟨by kernel_rfl, by kernel_rfl, by kernel_rfl⟩
theorem bt_c0 (a b : Int) : F_is_between [.bl true, .int a, .int b] = .ok (.bl false) := by kernel_rfl
theorem bt_c1 (a b : Int) : F_is_between [.bl false, .int a, .int b] = .ok (.bl false) := by kernel_rfl
theorem bt_c2 (a b : Int) : F_is_between [.non, .int a, .int b] = .ok (.bl false) := by kernel_rfl
theorem bt_c3 (a b : Int) : F_is_between [.str ⟨⟨[49]⟩⟩, .int a, .int b] = .ok (.bl false) := by kernel_rfl
theorem bt_c4 (a b : Int) : F_is_between [.tup [.int 1], .int a, .int b] = .ok (.bl false) := by kernel_rfl
theorem bt_c5 (a b : Int) : F_is_between [.lst [.int 1], .int a, .int b] = .ok (.bl false) := by kernel_rfl
theorem bt_c7 (a b : Int) : F_is_between [.dct [] [], .int a, .int b] = .ok (.bl false) := by kernel_rfl
theorem oks_A {n : Nat} (h1 : 1 ≤ n) (h8 : n ≤ 8) : ∀ w ∈ lsA n, OdN 1 n w := fun w hw => by
  unfold lsA at hw
  simp only [List.mem_cons, List.not_mem_nil, or_false] at hw
  rcases hw with rfl | rfl | rfl | rfl | rfl | rfl | rfl | rfl | rfl | rfl
  · exact ⟨bt_int (by omega), od_int (by omega)⟩
  · exact ⟨bt_int (by omega), od_int (by omega)⟩
  · exact ⟨bt_int (by omega), od_int (by omega)⟩
  · exact ⟨bt_c0 _ _, od_c0⟩
  · exact ⟨bt_c1 _ _, od_c1⟩
  · exact ⟨bt_c2 _ _, od_c2⟩
  · exact ⟨bt_c3 _ _, od_c3⟩
  · exact ⟨bt_c4 _ _, od_c4⟩
  · exact ⟨bt_c5 _ _, od_c5⟩
  · exact ⟨bt_int (by omega), od_c6⟩
theorem oks_B : ∀ w ∈ lsB, OdN 0 1000 w := fun w hw => by
  unfold lsB at hw
  simp only [List.mem_cons, List.not_mem_nil, or_false] at hw
  rcases hw with rfl | rfl | rfl | rfl | rfl | rfl | rfl
  · exact ⟨bt_int (by omega), od_int (by omega)⟩
  · exact ⟨bt_int (by omega), od_int (by omega)⟩
  · exact ⟨bt_c0 _ _, od_c0⟩
  · exact ⟨bt_c2 _ _, od_c2⟩
  · exact ⟨bt_c3 _ _, od_c3⟩
  · exact ⟨bt_c4 _ _, od_c4⟩
  · exact ⟨bt_c7 _ _, od_c7⟩
theorem oks_C {n : Nat} (h1 : 1 ≤ n) (h8 : n ≤ 8) : ∀ w ∈ lsC n, OdN n 8 w := fun w hw => by
  unfold lsC at hw
  simp only [List.mem_cons, List.not_mem_nil, or_false] at hw
  rcases hw with rfl | rfl | rfl | rfl | rfl | rfl | rfl | rfl
  · exact ⟨bt_int (by omega), od_int (by omega)⟩
  · exact ⟨bt_int (by omega), od_int (by omega)⟩
  · exact ⟨bt_int (by omega), od_int (by omega)⟩
  · exact ⟨bt_c0 _ _, od_c0⟩
  · exact ⟨bt_c2 _ _, od_c2⟩
  · exact ⟨bt_c3 _ _, od_c3⟩
  · exact ⟨bt_c4 _ _, od_c4⟩
  · exact ⟨bt_int (by omega), od_int (by omega)⟩
theorem oks_D : ∀ w ∈ lsD, OdN 1 8 w := fun w hw => by
  unfold lsD at hw
  simp only [List.mem_cons, List.not_mem_nil, or_false] at hw
  rcases hw with rfl | rfl | rfl | rfl | rfl | rfl | rfl | rfl
  · exact ⟨bt_int (by omega), od_int (by omega)⟩
  · exact ⟨bt_int (by omega), od_int (by omega)⟩
  · exact ⟨bt_int (by omega), od_int (by omega)⟩
  · exact ⟨bt_c0 _ _, od_c0⟩
  · exact ⟨bt_c2 _ _, od_c2⟩
  · exact ⟨bt_c3 _ _, od_c3⟩
  · exact ⟨bt_c4 _ _, od_c4⟩
  · exact ⟨bt_int (by omega), od_c6⟩
section
variable {n : Nat} {f : Nat → Int}
theorem numbers_run (hs : Stair n f) : F__law_numbers_right [.tup (J n f)] = .ok (.bl true) := by
  have o := hs.one
  have e8 := hs.eight
  have pw : powW (.int 10) (.int 30) = .ok (.int (10 ^ 30)) := by kernel_rfl
  have ad : addW (.int (n : Int)) (.int 1) = .ok (.int ((n : Int) + 1)) := by simp
  have sb : subW (.int (n : Int)) (.int 1) = .ok (.int ((n : Int) - 1)) := by simp
  have n1 : negW (.int 1) = .ok (.int (-1)) := rfl
  have sz : ∀ ws : List PF.W, ws.length ≤ 1000 → sizeOk ws = true := fun ws h => size_small h
  have iA : ∀ y1 y2 : Sl, (iOf tupW (fL (fCons (fun _ => .ok (.int 0)) (fCons (f2 addW (gV 3) (fun _ => .ok (.int 1))) (fCons (f1 negW (fun _ => .ok (.int 1))) (fCons (fun _ => .ok (.bl true)) (fCons (fun _ => .ok (.bl false)) (fCons (fun _ => .ok .non) (fCons (fun _ => .ok (.str ⟨⟨[49]⟩⟩)) (fCons (fL (fCons (fun _ => .ok (.int 1)) fNil) mkTup) (fCons (fL (fCons (fun _ => .ok (.int 1)) fNil) mkLst) (fCons (f2 powW (fun _ => .ok (.int 10)) (fun _ => .ok (.int 30))) fNil)))))))))) mkTup)) [.val (.tup (J n f)), y1, y2, .val (.int n)] = .ok (lsA n) := fun y1 y2 => by
    simp only [iOf_eq, fL_eq, fCons_eq, fNil_eq, f2_eq, f1_eq, gV_eq, List.getElem?_cons_succ, List.getElem?_cons_zero, T.bind_ok, ad, n1, pw, mkTup_eq, mkLst_eq, sizeOk_1, if_true]
    rw [if_pos (sz _ (by simp))]
    rfl
  have iB : ∀ y1 y2 : Sl, (iOf tupW (fL (fCons (f1 negW (fun _ => .ok (.int 1))) (fCons (fun _ => .ok (.int 1001)) (fCons (fun _ => .ok (.bl true)) (fCons (fun _ => .ok .non) (fCons (fun _ => .ok (.str ⟨⟨[49]⟩⟩)) (fCons (fL (fCons (fun _ => .ok (.int 1)) fNil) mkTup) (fCons (fun _ => .ok (.dct [] [])) fNil))))))) mkTup)) [.val (.tup (J n f)), y1, y2, .val (.int n)] = .ok lsB := fun y1 y2 => by kernel_rfl
  have iC : ∀ y1 y2 : Sl, (iOf tupW (fL (fCons (fun _ => .ok (.int 0)) (fCons (fun _ => .ok (.int 9)) (fCons (f1 negW (fun _ => .ok (.int 1))) (fCons (fun _ => .ok (.bl true)) (fCons (fun _ => .ok .non) (fCons (fun _ => .ok (.str ⟨⟨[49]⟩⟩)) (fCons (fL (fCons (fun _ => .ok (.int 1)) fNil) mkTup) (fCons (f2 subW (gV 3) (fun _ => .ok (.int 1))) fNil)))))))) mkTup)) [.val (.tup (J n f)), y1, y2, .val (.int n)] = .ok (lsC n) := fun y1 y2 => by
    simp only [iOf_eq, fL_eq, fCons_eq, fNil_eq, f2_eq, f1_eq, gV_eq, List.getElem?_cons_succ, List.getElem?_cons_zero, T.bind_ok, sb, n1, mkTup_eq, mkLst_eq, sizeOk_1, if_true]
    rw [if_pos (sz _ (by simp))]
    rfl
  have iD : ∀ y1 y2 : Sl, (iOf tupW (fL (fCons (fun _ => .ok (.int 0)) (fCons (fun _ => .ok (.int 9)) (fCons (f1 negW (fun _ => .ok (.int 1))) (fCons (fun _ => .ok (.bl true)) (fCons (fun _ => .ok .non) (fCons (fun _ => .ok (.str ⟨⟨[49]⟩⟩)) (fCons (fL (fCons (fun _ => .ok (.int 1)) fNil) mkTup) (fCons (f2 powW (fun _ => .ok (.int 10)) (fun _ => .ok (.int 30))) fNil)))))))) mkTup)) [.val (.tup (J n f)), y1, y2, .val (.int n)] = .ok lsD := fun y1 y2 => by kernel_rfl
  obtain ⟨a1, a2, eA⟩ := nu_loop (fun w y1 h => bodyA hs (w := w) h y1) (lsA n) .un .un (oks_A o e8)
  obtain ⟨b1, b2, eB⟩ := nu_loop (fun w y1 h => bodyB hs (w := w) h y1) lsB a1 a2 oks_B
  obtain ⟨c1, c2, eC⟩ := nu_loop (fun w y1 h => bodyC hs (w := w) h y1) (lsC n) b1 b2 (oks_C o e8)
  obtain ⟨d1, d2, eD⟩ := nu_loop (fun w y1 h => bodyD (.tup (J n f)) (.int n) (w := w) h y1) lsD c1 c2 oks_D
  have pj : plainL [.tup (J n f)] = true := by
    simp only [plainL, pl_tJ n f, Bool.and_self]
  unfold F__law_numbers_right defL
  rw [if_pos pj, defF_eq _ _ _ _ rfl]
  have st : startE 4 [.tup (J n f)] = [.val (.tup (J n f)), .un, .un, .un] := rfl
  rw [st, sSeq_eq, sSet_eq]
  simp only [fL_eq, fCons_eq, fNil_eq, gV_eq, List.getElem?_cons_zero, T.bind_ok, lenW_tup, J_len, List.set_cons_succ, List.set_cons_zero]
  rw [sSeq_eq, sFor_eq, iA, T.bind_ok, eA, T.bind_ok]
  simp only []
  rw [sSeq_eq, sFor_eq, iB, T.bind_ok, eB, T.bind_ok]
  simp only []
  rw [sSeq_eq, sFor_eq, iC, T.bind_ok, eC, T.bind_ok]
  simp only []
  rw [sSeq_eq, sFor_eq, iD, T.bind_ok, eD, T.bind_ok]
  rfl
end
end Lw
namespace Lw
open PySem L2 PF Rt
structure OdL (w : PF.W) : Prop where
  need : F_need_length [w] = .exc 20 [w]
  od : Od sLe w
section
variable {n : Nat} {f : Nat → Int} {w u : PF.W}
theorem both_len (hs : Stair n f) (h : F_need_length [w] = .exc 20 [w]) : F_need_both [.tup (J n f), w] = .exc 20 [w] := by
  unfold F_need_both
  rw [defF_eq _ _ _ _ rfl]
  simp [startE, sSeq_eq, sExpr_eq, fL_eq, fCons_eq, fNil_eq, gV_eq, need_run hs, h, T.bind]
theorem great_len (hs : Stair n f) (h : F_need_length [w] = .exc 20 [w]) : F_greatest_at [.tup (J n f), .int 1, w] = .exc 20 [w] := by
  have o := hs.one
  have e := between_run 1 1 n
  rw [decide_eq_true (show (1 : Int) ≤ 1 by omega), decide_eq_true (show (1 : Int) ≤ (n : Int) by omega)] at e
  unfold F_greatest_at
  rw [defF_eq _ _ _ _ rfl]
  simp [startE, sSeq_eq, sExpr_eq, fL_eq, fCons_eq, fNil_eq, gV_eq, need_run hs, sIf_eq, fNot_eq, fTru_eq, J_len, e, h, truW_bl, T.bind]
abbrev rL (p : List Nat) : PF.W := .lam "_law_rest_right" p
abbrev rC (p : List Nat) (ws : List PF.W) : PF.W := .clo "_law_rest_right" p ws
theorem bodyE (hs : Stair n f) (h : OdL w) (y1 y2 m : Sl) : ∃ z1, (sSeq (sSet 1 (fL (fCons (fun _ => .ok (.lam "_law_rest_right" [1, 1, 0, 0, 0, 0])) (fCons (fun _ => .ok (.lam "_law_rest_right" [1, 1, 0, 0, 0, 1])) (fCons (fun _ => .ok (.lam "_law_rest_right" [1, 1, 0, 0, 0, 2])) fNil))) mkLst)) (sIf (fNot (fTru (fLz cap__law_rest_right (fCons (gV 1) (fCons (fL (fCons (fun _ => .ok (.str ⟨⟨[108, 101, 110, 103, 116, 104]⟩⟩)) (fCons (gV 3) fNil)) mkTup) (fCons (gV 3) fNil))) F__law_refuse))) (sRet (fun _ => .ok (.bl false))) sNil)) [.val (.tup (J n f)), y1, y2, .val w, m] = .ok (.nx, [.val (.tup (J n f)), z1, y2, .val w, m]) := by
  have p1 : plainL [.tup (J n f), w] = true := by
    simp only [plainL, pl_tJ n f, h.od.pl, Bool.and_self]
  have cd : Cd 20 sLe := .inr (.inr (.inl ⟨rfl, rfl⟩))
  have lz : (fLz cap__law_rest_right (fCons (gV 1) (fCons (fL (fCons (fun _ => .ok (.str ⟨⟨[108, 101, 110, 103, 116, 104]⟩⟩)) (fCons (gV 3) fNil)) mkTup) (fCons (gV 3) fNil))) F__law_refuse) [.val (.tup (J n f)), .val (.lst [rL [1, 1, 0, 0, 0, 0], rL [1, 1, 0, 0, 0, 1], rL [1, 1, 0, 0, 0, 2]]), y2, .val w, m] = .ok (.bl true) :=
    lz_run h.od (ls := [rL [1, 1, 0, 0, 0, 0], rL [1, 1, 0, 0, 0, 1], rL [1, 1, 0, 0, 0, 2]]) (by simp only [fL_eq, fCons_eq, fNil_eq, gV_eq, List.getElem?_cons_succ, List.getElem?_cons_zero, T.bind_ok, mkTup_eq, sizeOk_2, if_true])
      (cs := [rC [1, 1, 0, 0, 0, 0] [.tup (J n f), w], rC [1, 1, 0, 0, 0, 1] [.tup (J n f), w], rC [1, 1, 0, 0, 0, 2] [.tup (J n f), w]])
      (by simp only [frWs, frW, cap_re0, cap_re1, cap_re2, capV, List.getElem?_cons_succ, List.getElem?_cons_zero, p1, if_true]) fun c hc => by
        simp only [List.mem_cons, List.not_mem_nil, or_false] at hc
        rcases hc with rfl | rfl | rfl
        · exact heard_exc (by rw [lr_re0, had_x (both_len hs h.need)]) cd
        · exact heard_exc (by rw [lr_re1, over_x (both_len hs h.need)]) cd
        · exact heard_exc (by rw [lr_re2, great_len hs h.need]) cd
  refine ⟨.val (.lst [rL [1, 1, 0, 0, 0, 0], rL [1, 1, 0, 0, 0, 1], rL [1, 1, 0, 0, 0, 2]]), ?_⟩
  simp only [sSeq_eq, sSet_eq, fL_eq, fCons_eq, fNil_eq, f2_eq, gV_eq, T.bind_ok, mkLst_eq, sizeOk_3, if_true, List.set_cons_succ, List.set_cons_zero, List.getElem?_cons_succ, List.getElem?_cons_zero, sIf_eq, fNot_eq, fTru_eq]
  rw [lz]
  rfl
theorem loopE (hs : Stair n f) (y2 m : Sl) : ∀ (ws : List PF.W) (y1 y3 : Sl), (∀ w ∈ ws, OdL w) → ∃ z1 z3, forL (goName 3) (sSeq (sSet 1 (fL (fCons (fun _ => .ok (.lam "_law_rest_right" [1, 1, 0, 0, 0, 0])) (fCons (fun _ => .ok (.lam "_law_rest_right" [1, 1, 0, 0, 0, 1])) (fCons (fun _ => .ok (.lam "_law_rest_right" [1, 1, 0, 0, 0, 2])) fNil))) mkLst)) (sIf (fNot (fTru (fLz cap__law_rest_right (fCons (gV 1) (fCons (fL (fCons (fun _ => .ok (.str ⟨⟨[108, 101, 110, 103, 116, 104]⟩⟩)) (fCons (gV 3) fNil)) mkTup) (fCons (gV 3) fNil))) F__law_refuse))) (sRet (fun _ => .ok (.bl false))) sNil)) ws [.val (.tup (J n f)), y1, y2, y3, m] = .ok (.nx, [.val (.tup (J n f)), z1, y2, z3, m])
  | [], y1, y3, _ => ⟨y1, y3, rfl⟩
  | w :: ws, y1, y3, h => by
    obtain ⟨z, e⟩ := bodyE hs (h w (List.mem_cons_self ..)) y1 y2 m
    obtain ⟨z1, z2, e2⟩ := loopE hs y2 m ws z (.val w) fun x hx => h x (List.mem_cons_of_mem _ hx)
    refine ⟨z1, z2, ?_⟩
    unfold forL
    rw [goName_eq]
    simp only [List.set_cons_succ, List.set_cons_zero]
    rw [e]
    exact e2
structure OdW (n : Int) (w : PF.W) : Prop where
  need : F_least_stair [.int n, w] = .exc 21 [w]
  od : Od sWi w
theorem bodyF {k : Int} (h : OdW k w) (y0 y1 y2 : Sl) : (sIf (fNot (fTru (fLz cap__law_rest_right (fCons (fL (fCons (fun _ => .ok (.lam "_law_rest_right" [1, 5, 0, 0, 0, 0, 0, 0])) fNil) mkLst) (fCons (fL (fCons (fun _ => .ok (.str ⟨⟨[119, 105, 115, 104, 101, 115]⟩⟩)) (fCons (gV 3) fNil)) mkTup) (fCons (gV 3) fNil))) F__law_refuse))) (sRet (fun _ => .ok (.bl false))) sNil) [y0, y1, y2, .val w, .val (.int k)] = .ok (.nx, [y0, y1, y2, .val w, .val (.int k)]) := by
  have p1 : plainL [.int k, w] = true := by
    simp only [plainL, h.od.pl, Bool.and_self]
    rfl
  have cd : Cd 21 sWi := .inr (.inr (.inr ⟨rfl, rfl⟩))
  have lz : (fLz cap__law_rest_right (fCons (fL (fCons (fun _ => .ok (.lam "_law_rest_right" [1, 5, 0, 0, 0, 0, 0, 0])) fNil) mkLst) (fCons (fL (fCons (fun _ => .ok (.str ⟨⟨[119, 105, 115, 104, 101, 115]⟩⟩)) (fCons (gV 3) fNil)) mkTup) (fCons (gV 3) fNil))) F__law_refuse) [y0, y1, y2, .val w, .val (.int k)] = .ok (.bl true) :=
    lz_run h.od (ls := [rL [1, 5, 0, 0, 0, 0, 0, 0]]) (by simp only [fL_eq, fCons_eq, fNil_eq, gV_eq, List.getElem?_cons_succ, List.getElem?_cons_zero, T.bind_ok, mkTup_eq, mkLst_eq, sizeOk_1, sizeOk_2, if_true])
      (cs := [rC [1, 5, 0, 0, 0, 0, 0, 0] [.int k, w]])
      (by simp only [frWs, frW, cap_re3, capV, List.getElem?_cons_succ, List.getElem?_cons_zero, p1, if_true]) fun c hc => by
        simp only [List.mem_cons, List.not_mem_nil, or_false] at hc
        subst hc
        exact heard_exc (by rw [lr_re3, h.need]) cd
  simp only [sIf_eq, fNot_eq, fTru_eq]
  rw [lz]
  rfl
theorem loopF {k : Int} (y0 y1 y2 : Sl) : ∀ (ws : List PF.W) (y3 : Sl), (∀ w ∈ ws, OdW k w) → ∃ z3, forL (goName 3) (sIf (fNot (fTru (fLz cap__law_rest_right (fCons (fL (fCons (fun _ => .ok (.lam "_law_rest_right" [1, 5, 0, 0, 0, 0, 0, 0])) fNil) mkLst) (fCons (fL (fCons (fun _ => .ok (.str ⟨⟨[119, 105, 115, 104, 101, 115]⟩⟩)) (fCons (gV 3) fNil)) mkTup) (fCons (gV 3) fNil))) F__law_refuse))) (sRet (fun _ => .ok (.bl false))) sNil) ws [y0, y1, y2, y3, .val (.int k)] = .ok (.nx, [y0, y1, y2, z3, .val (.int k)])
  | [], y3, _ => ⟨y3, rfl⟩
  | w :: ws, y3, h => by
    have e := bodyF (h w (List.mem_cons_self ..)) y0 y1 y2
    obtain ⟨z2, e2⟩ := loopF y0 y1 y2 ws (.val w) fun x hx => h x (List.mem_cons_of_mem _ hx)
    refine ⟨z2, ?_⟩
    unfold forL
    rw [goName_eq]
    simp only [List.set_cons_succ, List.set_cons_zero]
    rw [e]
    exact e2
end
def lensF : List PF.W := [.non, .int 5, .tup [.int 1, .int 0], .tup [.int 2, .int 4], .tup [.int 1, .int (-2)], .tup [.int (-1), .int 2], .tup [.bl true, .int 1], .tup [.int 1, .bl true], .lst [.int 1, .int 1], .tup [.int 1], .tup [.int 1, .int 1, .int 1], .tup [.str ⟨⟨[49]⟩⟩, .int 1], .dct [] []]
theorem lens_run : F__law_odd_lengths [] = .ok (.lst lensF) := by kernel_rfl
theorem lens_all : ∀ w ∈ lensF, OdL w := fun w hw => by
  unfold lensF at hw
  simp only [List.mem_cons, List.not_mem_nil, or_false] at hw
  rcases hw with rfl | rfl | rfl | rfl | rfl | rfl | rfl | rfl | rfl | rfl | rfl | rfl | rfl <;> exact ⟨by kernel_rfl, by kernel_rfl, by kernel_rfl, by kernel_rfl⟩
abbrev p11 : PF.W := .tup [.int 1, .int 1]
def w1F (n : Int) : List PF.W := [.non, .int 5, .lst [p11], .tup (List.replicate 21 p11), .tup [.tup [.int 1]], .tup [.tup [.int 1, .int 1, .int 1]], .tup [.lst [.int 1, .int 1]], .tup [.tup [.int 0, .int 1]], .tup [.tup [.int n, .int 1]], .dct [] []]
def w2F : List PF.W := [.tup [.tup [.int 1, .int (-1)]], .tup [.tup [.int 1, .int 1001]], .tup [.tup [.bl true, .int 1]], .tup [.tup [.int 1, .bl true]], .tup [.tup [.int 1, .non]], .tup [.non], .tup [.int 1, .int 1]]
def wsF (n : Int) : List PF.W := w1F (n + 1) ++ w2F ++ [.str sWi]
theorem wis_all {n : Nat} (h1 : 1 ≤ n) (h8 : n ≤ 8) : ∀ w ∈ wsF n, OdW n w := fun w hw => by
  unfold wsF w1F w2F at hw
  simp only [List.cons_append, List.nil_append, List.append_assoc, List.mem_cons, List.not_mem_nil, or_false] at hw
  have hn : n = 1 ∨ n = 2 ∨ n = 3 ∨ n = 4 ∨ n = 5 ∨ n = 6 ∨ n = 7 ∨ n = 8 := by omega
  rcases hn with rfl | rfl | rfl | rfl | rfl | rfl | rfl | rfl <;>
  (rcases hw with rfl | rfl | rfl | rfl | rfl | rfl | rfl | rfl | rfl | rfl | rfl | rfl | rfl | rfl | rfl | rfl | rfl | rfl <;> exact ⟨by kernel_rfl, by kernel_rfl, by kernel_rfl, by kernel_rfl⟩)
end Lw
namespace Lw
open PySem L2 PF Rt
section
variable {n : Nat} {f : Nat → Int}
theorem wi_own (h1 : 1 ≤ n) (h8 : n ≤ 8) (y0 y1 y2 y3 : Sl) : (sOwn 2 (fCons (fun _ => .ok .non) (fCons (fun _ => .ok (.int 5)) (fCons (fL (fCons (fL (fCons (fun _ => .ok (.int 1)) (fCons (fun _ => .ok (.int 1)) fNil)) mkTup) fNil) mkLst) (fCons (f2 mulTA (fL (fCons (fL (fCons (fun _ => .ok (.int 1)) (fCons (fun _ => .ok (.int 1)) fNil)) mkTup) fNil) mkTup) (fun _ => .ok (.int 21))) (fCons (fL (fCons (fL (fCons (fun _ => .ok (.int 1)) fNil) mkTup) fNil) mkTup) (fCons (fL (fCons (fL (fCons (fun _ => .ok (.int 1)) (fCons (fun _ => .ok (.int 1)) (fCons (fun _ => .ok (.int 1)) fNil))) mkTup) fNil) mkTup) (fCons (fL (fCons (fL (fCons (fun _ => .ok (.int 1)) (fCons (fun _ => .ok (.int 1)) fNil)) mkLst) fNil) mkTup) (fCons (fL (fCons (fL (fCons (fun _ => .ok (.int 0)) (fCons (fun _ => .ok (.int 1)) fNil)) mkTup) fNil) mkTup) (fCons (fL (fCons (fL (fCons (f2 addW (gV 4) (fun _ => .ok (.int 1))) (fCons (fun _ => .ok (.int 1)) fNil)) mkTup) fNil) mkTup) (fCons (fun _ => .ok (.dct [] [])) fNil))))))))))) [y0, y1, y2, y3, .val (.int n)] = .ok (.nx, [y0, y1, .own (w1F ((n : Int) + 1)), y3, .val (.int n)]) := by
  have hn : n = 1 ∨ n = 2 ∨ n = 3 ∨ n = 4 ∨ n = 5 ∨ n = 6 ∨ n = 7 ∨ n = 8 := by omega
  rcases hn with rfl | rfl | rfl | rfl | rfl | rfl | rfl | rfl <;> kernel_rfl
theorem wi_add (h1 : 1 ≤ n) (h8 : n ≤ 8) (y0 y1 y3 : Sl) : (onFrz 2 (sOwnAdd 2 (gV 2) (fL (fCons (fL (fCons (fL (fCons (fun _ => .ok (.int 1)) (fCons (f1 negW (fun _ => .ok (.int 1))) fNil)) mkTup) fNil) mkTup) (fCons (fL (fCons (fL (fCons (fun _ => .ok (.int 1)) (fCons (fun _ => .ok (.int 1001)) fNil)) mkTup) fNil) mkTup) (fCons (fL (fCons (fL (fCons (fun _ => .ok (.bl true)) (fCons (fun _ => .ok (.int 1)) fNil)) mkTup) fNil) mkTup) (fCons (fL (fCons (fL (fCons (fun _ => .ok (.int 1)) (fCons (fun _ => .ok (.bl true)) fNil)) mkTup) fNil) mkTup) (fCons (fL (fCons (fL (fCons (fun _ => .ok (.int 1)) (fCons (fun _ => .ok .non) fNil)) mkTup) fNil) mkTup) (fCons (fL (fCons (fun _ => .ok .non) fNil) mkTup) (fCons (fL (fCons (fun _ => .ok (.int 1)) (fCons (fun _ => .ok (.int 1)) fNil)) mkTup) fNil))))))) mkLst))) [y0, y1, .own (w1F ((n : Int) + 1)), y3, .val (.int n)] = .ok (.nx, [y0, y1, .own (w1F ((n : Int) + 1) ++ w2F), y3, .val (.int n)]) := by
  have hn : n = 1 ∨ n = 2 ∨ n = 3 ∨ n = 4 ∨ n = 5 ∨ n = 6 ∨ n = 7 ∨ n = 8 := by omega
  rcases hn with rfl | rfl | rfl | rfl | rfl | rfl | rfl | rfl <;> kernel_rfl
theorem wi_app (h1 : 1 ≤ n) (h8 : n ≤ 8) (y0 y1 y3 : Sl) : (sApp 2 (fCons (fun _ => .ok (.str ⟨⟨[119, 105, 115, 104, 101, 115]⟩⟩)) fNil)) [y0, y1, .own (w1F ((n : Int) + 1) ++ w2F), y3, .val (.int n)] = .ok (.nx, [y0, y1, .own (wsF n), y3, .val (.int n)]) := by
  have hn : n = 1 ∨ n = 2 ∨ n = 3 ∨ n = 4 ∨ n = 5 ∨ n = 6 ∨ n = 7 ∨ n = 8 := by omega
  rcases hn with rfl | rfl | rfl | rfl | rfl | rfl | rfl | rfl <;> kernel_rfl
theorem rest_run (hs : Stair n f) : F__law_rest_right [.tup (J n f)] = .ok (.bl true) := by
  have o := hs.one
  have e8 := hs.eight
  obtain ⟨a1, a2, eE⟩ := loopE hs .un (.val (.int n)) lensF .un .un lens_all
  have iO := wi_own o e8 (.val (.tup (J n f))) a1 .un a2
  have iA := wi_add o e8 (.val (.tup (J n f))) a1 a2
  have iP := wi_app o e8 (.val (.tup (J n f))) a1 a2
  obtain ⟨b2, eF⟩ := loopF (k := n) (.val (.tup (J n f))) a1 (.val (.lst (wsF n))) (wsF n) a2 (wis_all o e8)
  have pj : plainL [.tup (J n f)] = true := by
    simp only [plainL, pl_tJ n f, Bool.and_self]
  unfold F__law_rest_right defL
  rw [if_pos pj, defF_eq _ _ _ _ rfl]
  have st : startE 5 [.tup (J n f)] = [.val (.tup (J n f)), .un, .un, .un, .un] := rfl
  rw [st, sSeq_eq, sSet_eq]
  simp only [fL_eq, fCons_eq, fNil_eq, gV_eq, List.getElem?_cons_zero, T.bind_ok, lenW_tup, J_len, List.set_cons_succ, List.set_cons_zero]
  rw [sSeq_eq, sFor_eq, iOf_eq]
  simp only [lens_run, T.bind_ok, lstW]
  rw [eE, T.bind_ok]
  simp only []
  rw [sSeq_eq, iO, T.bind_ok]
  simp only []
  rw [sSeq_eq, iA, T.bind_ok]
  simp only []
  rw [sSeq_eq, iP, T.bind_ok]
  simp only []
  have fz : frz 2 [.val (.tup (J n f)), a1, .own (wsF n), a2, .val (.int n)] = [.val (.tup (J n f)), a1, .val (.lst (wsF n)), a2, .val (.int n)] := rfl
  unfold onFrz
  rw [sSeq_eq, fz, sFor_eq, iOf_eq]
  simp only [gV_eq, List.getElem?_cons_succ, List.getElem?_cons_zero, T.bind_ok, lstW]
  rw [eF, T.bind_ok]
  rfl
end
def loE (n D : Nat) (ws : List PF.W) (d : Nat) (ρ : En) : Prop := ∃ x2 x3, ρ = [.val (.scr n), .val .stt, x2, x3, .un, .un] ∧ D + 30 * ws.length ≤ d
theorem lo_step {n D : Nat} {E : Nat → Nat → List PF.W → Prop} (w : PF.W) (ws : List PF.W) (d : Nat) (ρ : En) (hI : loE n D (w :: ws) d ρ) : ∃ ρ1, goName 2 w ρ = some ρ1 ∧ ((sSeq (sSet 3 (fL (fCons (gV 1) (fCons (f2 addW (fun _ => .ok (.int 1)) (fL (fCons (gV 1) (fCons (fun _ => .ok (.int 8)) fNil)) F__law_draw)) (fCons (f2 ixW (fL (fCons (fun _ => .ok (.int 3)) (fCons (fun _ => .ok (.int 125)) fNil)) mkLst) (fL (fCons (gV 1) (fCons (fun _ => .ok (.int 2)) fNil)) F__law_draw)) fNil))) F__law_stair_drawn)) (sIf (fOr (fNot (fTru (fL (fCons (gV 3) fNil) F__law_stairs_right))) (fOr (fNot (fTru (fL (fCons (gV 3) fNil) F__law_numbers_right))) (fNot (fTru (fL (fCons (gV 3) fNil) F__law_rest_right))))) (sRet (fun _ => .ok (.bl false))) sNil)) ρ1).AllB (fun d x => ∃ ρ2, x = (.nx, ρ2) ∧ loE n D ws d ρ2) E d := by
  obtain ⟨x2, x3, rfl, hd⟩ := hI
  rw [List.length_cons] at hd
  refine ⟨_, rfl, ?_⟩
  simp only [sSeq_eq, sSet_eq, fL_eq, fCons_eq, fNil_eq, f2_eq, gV_eq, List.set_cons_succ, List.set_cons_zero, List.getElem?_cons_succ, List.getElem?_cons_zero, T.bind_ok, mkLst_eq, sizeOk_2, if_true, draw_is (n := 8) (by decide) (by decide), draw_is (n := 2) (by decide) (by decide), T.bind_ask]
  refine ask_all (by omega) fun i hi => ?_
  have hi : i < 8 := hi
  simp only [T.bind_ok, addW_int, T.bind_ask]
  refine ask_all (by omega) fun j hj => ?_
  have hj : j < 2 := hj
  have wide : ∃ m : Int, (1 ≤ m ∧ m ≤ 125) ∧ ixW (.lst [.int 3, .int 125]) (.int (j : Int)) = .ok (.int m) := by
    have : j = 0 ∨ j = 1 := by omega
    rcases this with rfl | rfl
    · exact ⟨3, by decide, rfl⟩
    · exact ⟨125, by decide, rfl⟩
  obtain ⟨m, hm, me⟩ := wide
  have e : (1 : Int) + (i : Int) = ((1 + i : Nat) : Int) := by omega
  simp only [T.bind_ok, me, e, T.bind_assoc]
  refine T.allB_bind.mpr (drawn_all (by omega) (by omega) hm (by omega) fun f d1 hs hd1 => ?_)
  simp only [T.bind_ok, List.set_cons_succ, List.set_cons_zero, sIf_eq, fOr_eq, fNot_eq, fTru_eq, fL_eq, fCons_eq, fNil_eq, f2_eq, gV_eq, List.getElem?_cons_succ, List.getElem?_cons_zero, stairs_run hs, numbers_run hs, rest_run hs, truW_bl, Bool.not_true, Bool.false_eq_true, if_false, sNil_eq]
  exact ⟨_, rfl, _, _, rfl, by omega⟩
theorem law_ends : LawEnds g_law 4 := fun n hn => by
  unfold g_law
  rw [sSeq_eq]
  refine T.allB_bind.mpr ?_
  have it : (iL rng1 (fCons (f2 addW (fun _ => .ok (.int 2)) (fL (fCons (fL (fCons (gV 0) fNil) lenW) (fCons (fun _ => .ok (.int 4)) fNil)) minW)) fNil)) (lawE n 4) = .ok (PF.intsFrom 0 (2 + min n 4)) := by
    have mn : minW [.int (n : Int), .int 4] = .ok (.int ((min n 4 : Nat) : Int)) := by
      simp [minW]
      omega
    have e : (2 : Int) + ((min n 4 : Nat) : Int) = ((2 + min n 4 : Nat) : Int) := by omega
    unfold lawE
    simp only [iL_eq, fL_eq, fCons_eq, fNil_eq, f2_eq, gV_eq, List.getElem?_cons_zero, T.bind_ok, lenW_scr, mn, addW_int, e]
    rw [rng1_is (by omega) (by omega), Int.toNat_natCast]
  rw [sFor_eq, it, T.bind_ok]
  have key := forL_all (E := fun _ _ _ => False) (loE n 10) lo_step (PF.intsFrom 0 (2 + min n 4)) (2 ^ 60) (lawE n 4) ⟨_, _, rfl, by rw [ints_len]; omega⟩
  refine T.AllB.imp (fun d x hx => ?_) (fun _ _ _ y => y) key
  obtain ⟨ρ2, ex, x2, x3, eρ, _⟩ := hx
  rw [ex, eρ]
  exact law_tail (k := 0) (by kernel_rfl) (Nat.zero_le d)
end Lw
open PySem PySem.W PySem.Calls PyProof.Rows
set_option maxRecDepth 100000 in
set_option maxHeartbeats 0 in
theorem PySem.Challenge.cw_nestletters_k15_stairs_refused_holds : PySem.Challenge.rw_nestletters_k15_stairs_refused.Holds := by
  w_on; o_law
  refine HandSHeadRun.head_any (r := OpenLaw.row PySem.Challenge.rw_nestletters_k15_stairs_refused) (q := view (OpenLaw.row PySem.Challenge.rw_nestletters_k15_stairs_refused).prog [68]) (H := Lw.Hd.hk) (ob := Lw.Hd.ob) (M := 8000) (loose := Lw.Hd.names) (d := HandSHeadRun.topDef (OpenLaw.row PySem.Challenge.rw_nestletters_k15_stairs_refused).prog 68) (kwd := []) Lw.Hd.ob_eq
    (by kernel_rfl) (fun s => by kernel_rfl) Lw.Hd.run (by kernel_rfl) (by kernel_rfl) (by kernel_rfl) (by rfl) (by first | assumption | decide +kernel) (by decide +kernel) ⟨rfl, rfl, rfl, rfl, rfl, by decide +kernel⟩ ?hw ?hc
  case hw => w_witness2
  case hc =>
    refine PF.walk_tab (l := PySem.Challenge.rw_nestletters_k15_stairs_refused) (n := 63) (k := 13) (x := "_law_script") rfl (by decide) (by kernel_rfl) ⟨rfl, by decide, by decide⟩ ?F
    intro w mg fa h Y G hmg0
    obtain ⟨K, KX, c, ct⟩ := Y
    have hmg : mg ("law" : PySem.Str) = some (.ref fa) := by
      have e : (HandSHeadRun.topDef (OpenLaw.row PySem.Challenge.rw_nestletters_k15_stairs_refused).prog 68).name = ("law" : PySem.Str) := by kernel_rfl
      rw [← e]
      exact hmg0
    obtain ⟨fd, hb, hF⟩ := Lw.facts (P := (PySem.Challenge.rw_nestletters_k15_stairs_refused).prog) (w := w) Lw.law_ends KX G hmg c ct
    exact ⟨K, fd, PF.spLaw K, KX, hb, c.empty, c.out, c.hd, fun H a ns hl hT hS => ⟨a, ns, rfl, hS, hl, hT, fun _ => rfl⟩, hF⟩
