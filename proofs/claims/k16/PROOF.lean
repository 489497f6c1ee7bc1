import PyProof.Rows.All
import Wide.All
import OpenK.AllK
import Wide.FinOn
import HandS.ForMost
import HandS.ForExc
import HandS.Head0
import HandS.Head1
import HandS.Head2
import HandS.HeadHook1
import HandS.HeadHook2
import HandS.HeadHook3
import HandS.ExcIs
import KE.KExcInit
import KE.KExcPX
import HandS.Flow
import HandS.IsInst
import HandS.TupAny
import PyProof.Rows.SeqMore
import HandS.Deep
import HandS.WordsDict
import PyProof.ReprRoads
import PyProof.CallFns
import HandS.EndBits
import HandS.More
import HandS.RaiseMore
import HandS.RevTup
import PyProof.WalksMore
import KE.GoesMore
import KE.GoesEnum
import HandS.Star
import HandS.Style
import PyProof.ReprBulk
import HandS.FStr
import HandS.Exc
import HandS.ExcInit
import HandS.ExcField
import HandS.TryOnly
import KE.KExcIs
import HandS.WordsExc
import HandS.Iter
import HandS.Call
import HandS.Defaults
import HandS.MakeKwOnly
import HandS.OwnEq
import OpenK.KOps
import HandS.Finally
import HandS.DictComp
import HandS.DeepEq
import PyProof.P3Eq
import HandS.TryMany
import HandS.Strs
import HandS.StrMore
import HandS.DictEq
import HandS.SetTxt0
import HandS.Set
import PyProof.Rows.SortStr
import HandS.SetBool
import HandS.CallLocal
import HandS.Text
import KE.KUnpackStar
import HandS.DictTup
import HandS.ListItems
import KE.KSortTupAny
import KE.KDictZip
import KE.KDictList
import KE.KTryMore
import KE.KSortTupG
import PyProof.NeKinds
import HandS.HotCalls
import PyProof.DictUpdate
import PyProof.DictIter
import PyProof.FactsAll.dict_1
import HandS.ClsMeth
import KE.DataCmp
import PySem.Challenge.RW_exactstop_k16_amounts_changed
set_option Elab.async false
set_option linter.all false
set_option maxRecDepth 100000
set_option maxHeartbeats 2000000
namespace Mi
open PySem L2
/-- a value as a tree; ref n: the n-th thing of the store -/
inductive D where
 | non | bl (b : Bool) | int (i : Int) | str (x : Str)
 | tup (xs : List D) | lst (xs : List D) | dct (kvs : List (Key × D))
 | ref (n : Nat) | ty (n : String) | fn (x : Str)
/-- a thing of the store: it may change -/
inductive SO where
 | lst (xs : List D) | dct (kvs : List (Key × D)) | ins (c : Str) (fs : List (Str × D)) | dX (kvs : List (Key × D)) | fQ (xs : List D)
abbrev Store := List SO
structure bD where
 cls : Str
 fs : List (Str × D)
/-- a slot: not set, a value, a container bR this slot alone holds -/
inductive Sl where
 | un | sh (d : D) | ow (d : D) | ex (e : bD)
abbrev aF := List Sl
inductive R (α : Type) where
 | ok (a : α) (S : Store) | exc (e : bD) (S : Store) | stuck
abbrev EX := aF → Store → R D
abbrev AX := aF → Store → R (List D)
abbrev BX := aF → Store → R Bool
inductive SR where
 | nx (ρ : aF) (S : Store) | rt (d : D) (S : Store) | bk (ρ : aF) (S : Store) | ct (ρ : aF) (S : Store) | exc (e : bD) (ρ : aF) (S : Store) | stuck
abbrev SX := aF → Store → SR
abbrev FX := List D → Store → R D
@[reducible] def R.bind {α β : Type} (r : R α) (f : α → Store → R β) : R β := match r with
 | .ok a S => f a S
 | .exc e S => .exc e S
 | .stuck => .stuck
/-- plain literals in a tuple of the module -/
def litOk : D → Bool
 | .str _ => true
 | .int _ => true
 | .non => true
 | _ => false
def dV : D → V
 | .str x => .str x
 | .int i => .int i
 | _ => .non
end Mi
namespace Mi
open PySem PySem.Spec PyProof.Rows L2
def inC (s : Stmt) (j : Nat) : Stmt := match s with
 | .ClassDef _ _ _ body _ _ _ _ _ _ _ => body.getD j (.Pass ⟨0, 0, 0, 0⟩)
 | _ => .Pass ⟨0, 0, 0, 0⟩
def v7 {α : Type} (g : Addr → Option Obj) (k : PySem.W.Frag → α) : Nat → PySem.W.Frag → α
 | 0, acc => match g mainGlobals with
  | some ⟨c, d, t, s⟩ => k ((mainGlobals, ⟨c, d, t, s⟩) :: acc)
  | none => k acc
 | n + 1, acc => match g n with
  | some ⟨c, d, t, s⟩ => v7 g k n ((n, ⟨c, d, t, s⟩) :: acc)
  | none => v7 g k n acc
theorem FJ {α : Type} {g : Addr → Option Obj} {k : PySem.W.Frag → α} : ∀ (n : Nat) (acc : PySem.W.Frag), (∀ a o, acc.lookup a = some o → g a = some o) → ∃ K : PySem.W.Frag, (∀ a o, K.lookup a = some o → g a = some o) ∧ v7 g k n acc = k K
 | 0, acc, h => by
  unfold v7
  cases e : g mainGlobals with
  | none => exact ⟨acc, h, rfl⟩
  | some o =>
   obtain ⟨c, d, t, s⟩ := o
   refine ⟨_, fun a o q => ?_, rfl⟩
   by_cases ha : a = mainGlobals
   ·subst ha
    rw [List.lookup_cons_self] at q
    exact e.trans q
   ·rw [List.lookup_cons, show (a == mainGlobals) = false from beq_eq_false_iff_ne.mpr ha] at q
    exact h a o q
 | n + 1, acc, h => by
  unfold v7
  cases e : g n with
  | none => exact FJ n acc h
  | some o =>
   obtain ⟨c, d, t, s⟩ := o
   refine FJ n _ fun a o q => ?_
   by_cases ha : a = n
   ·subst ha
    rw [List.lookup_cons_self] at q
    exact e.trans q
   ·rw [List.lookup_cons, show (a == n) = false from beq_eq_false_iff_ne.mpr ha] at q
    exact h a o q
abbrev tK : Type := Bool × List He.FnV × List (Option (List (Option (Str × Int))))
def BP (cs : List (PySem.W.Frag → Bool)) (fn : List He.FnD) (ts : List He.Tab) (K : PySem.W.Frag) : tK :=
 ((cs.all fun c => c K) && fn.all fun d => (He.Fa.code d.at_ d.qual).ok K && PySem.W.keepIn K (.ref (He.fAd K d.at_)), fn.map fun d => He.fnObs K d.at_, ts.map fun t => He.dicW K (t.1 K))
def KW (fn : List He.FnD) (ts : List He.Tab) (w : World) : tK := (true, fn.map He.FnD.val, ts.map fun t => some (He.keysIn w.params t.2))
def qJ (cs : List (PySem.W.Frag → Bool)) (fn : List He.FnD) (ts : List He.Tab) (w : World) (K : PySem.W.Frag) : Prop := BP cs fn ts K = KW fn ts w
def tL (n : Nat) (cs : List (PySem.W.Frag → Bool)) (fn : List He.FnD) (ts : List He.Tab) : PySem.W.Hook where
 α := tK
 obs := fun s => v7 s.heap.get? (BP cs fn ts) n []
 val := fun w => KW fn ts w
 says := fun w h => ∃ K : PySem.W.Frag, K.In h ∧ qJ cs fn ts w K
 of := fun _ s e => by
  obtain ⟨K, hK, q⟩ := FJ (g := s.heap.get?) (k := BP cs fn ts) n [] (fun a o z => nomatch (show (none : Option Obj) = some o from z))
  exact ⟨K, hK, q.symm.trans e⟩
 keeps := fun _ _ _ ⟨K, hK, c⟩ k => ⟨K, PySem.W.Frag.In.keeps hK k, c⟩
noncomputable def v8 (n : Nat) (cs : List (PySem.W.Frag → Bool)) (fn : List He.FnD) (ts : List He.Tab) (s : PySem.W.SharedT) : tK := v7 (HandSHeadRun.getT s) (BP cs fn ts) n []
theorem WV {n : Nat} {cs : List (PySem.W.Frag → Bool)} {fn : List He.FnD} {ts : List He.Tab} (s : PySem.W.SharedT) : v8 n cs fn ts s = (tL n cs fn ts).obs s.abs := by
 have e : HandSHeadRun.getT s = s.abs.heap.get? := funext (HandSHeadRun.getT_eq s)
 unfold v8
 rw [e] <;> rfl
def FO (o : Option (Option Value)) (z : Str) : Bool := match o with
 | some (some (.str y _)) => decide (y = z)
 | _ => false
def BQ (o : Option (Option Value)) (z : Int) : Bool := match o with
 | some (some (.int y _)) => decide (y = z)
 | _ => false
def nsA (K : PySem.W.Frag) (a : Addr) (x : Str) : Addr := match PySem.W.nsIn K a x with
 | some (some (.ref b)) => b
 | _ => 0
def xA (K : PySem.W.Frag) (f : Addr) : Addr := match K.lookup f with
 | some ⟨_, _, .func fd, _⟩ => (match fd.kwdefaults with
  | .ref a => a
  | _ => 0)
 | _ => 0
def FP (K : PySem.W.Frag) (f : Addr) : Bool := match K.lookup f with
 | some ⟨_, _, .func fd, _⟩ => (match fd.kwdefaults with
  | .ref _ => true
  | _ => false)
 | _ => false
def v9 (K : PySem.W.Frag) (a : Addr) (vs : List V) : Bool := match K.lookup a with
 | some ⟨.type c, _, .seq its _, _⟩ => decide (c = "tuple") && (decide (its.size ≤ sizeLine) && He.relAll vs its.toList)
 | _ => false
def FQ (K : PySem.W.Frag) : D → Value → Bool
 | .str x, .str y _ => decide (y = x)
 | .int i, .int j _ => decide (j = i)
 | .bl b, .bool c => b == c
 | .non, .none => true
 | .tup ds, .ref a => ds.all litOk && v9 K a (ds.map dV)
 | .fn x, .ref f => He.eqO (PySem.W.nsIn K mainGlobals x) (some (some (.ref f))) && PySem.W.keepIn K (.ref f)
 | _, _ => false
def BR (K : PySem.W.Frag) : List DictEntry → List (Str × D) → Bool
 | [], [] => true
 | e :: es, (k, d) :: tab => (match e.key with
  | .str y _ => decide (y = k)
  | _ => false) && (FQ K d e.val && BR K es tab)
 | _, _ => false
def BU (K : PySem.W.Frag) (a : Addr) (tab : List (Str × D)) : Bool := match K.lookup a with
 | some ⟨_, _, .dict es _, _⟩ => BR K es.toList tab
 | _ => false
def xB (K : PySem.W.Frag) (C : Addr) (newId : String) (p : List Value → Bool) : Bool := match K.lookup C with
 | some ⟨.type t, _, .cls cd, sl⟩ => decide (t = "type") && (match cd.mro, sl.toList with
  | .ref C' :: bm, [_, _, _, _, some (.builtin n), _] => decide (C' = C) && (decide (n = newId) && (cd.hasDict && (!cd.hasDel && p bm)))
  | _, _ => false)
 | _ => false
def eqB (a b : Option Value) : Bool := decide (a = b)
def eqP (a b : Option Bool) : Bool := decide (a = b)
def zV (K : PySem.W.Frag) (C : Addr) : Bool := He.eqO (PySem.W.findIn K (.ref C) "__setattr__") (some (some (.builtin "object.__setattr__"))) && (eqP (PySem.W.subIn K (.ref C) (.type "BaseException")) (some true) && (eqB (PySem.W.typeIn K (.ref C)) (some (.type "type")) && PySem.W.keepIn K (.ref C)))
def FT (K : PySem.W.Frag) (D : Addr) : Bool := He.eqO (PySem.W.findIn K (.ref D) "__getattribute__") (some (some (.builtin "BaseException.__getattribute__"))) && (He.eqO (PySem.W.findIn K (.ref D) "__getattr__") (some none) && (eqP (PySem.W.subIn K (.ref D) (.type "BaseException")) (some true) && (PySem.W.hasDictIn K D &&
 (He.eqO (PySem.W.findIn K (.ref D) "__class__") (some (some (.builtin "object.__class__"))) && (He.eqO (PySem.W.specialIn K (.builtin "object.__class__") "__get__") (some (some (.builtin "getset_descriptor.__get__"))) && (eqP (PySem.W.takesIn K (.builtin "object.__class__")) (some true) && eqP (PySem.W.mroIn K D (.type "object")) (some true)))))))
def KY (K : PySem.W.Frag) (C : Addr) : Bool := He.eqO (PySem.W.findIn K (.ref C) "__class__") (some (some (.builtin "object.__class__"))) && (He.eqO (PySem.W.specialIn K (.builtin "object.__class__") "__get__") (some (some (.builtin "getset_descriptor.__get__"))) &&
 (eqP (PySem.W.takesIn K (.builtin "object.__class__")) (some true) && (eqP (PySem.W.mroIn K C (.type "object")) (some true) && eqB (PySem.W.typeIn K (.ref C)) (some (.type "type")))))
def KZ (K : PySem.W.Frag) (C : Addr) : Bool := PySem.W.plainGet K C Str.empty && (PySem.W.hasDictIn K C && (PySem.W.plainOver K C && He.eqO (PySem.W.findIn K (.ref C) "__setattr__") (some (some (.builtin "object.__setattr__")))))
def La (K : PySem.W.Frag) (B : Addr) : Bool := PySem.W.readsIn K B (.type "type") && ((match PySem.W.findCls K (.ref B) (.type "type") "__init__" with
 | some (.val v) => decide (v = .builtin "ValueError.__init__")
 | _ => false) && He.eqO (PySem.W.specialIn K (.ref B) "__getattribute__") (some (some (.builtin "type.__getattribute__"))))
end Mi
namespace aH
open PySem PySem.Spec PyProof.Rows L2 Mi
def top (i : Nat) : Stmt := PySem.Challenge.pw_exactstop_k16_amounts_changed.main.body.getD i (.Pass ⟨0, 0, 0, 0⟩)
def iH : List (Str × D) := [("set", .tup [.str "name", .str "operand", .str "operator", .str "operand"]), ("out", .tup [.str "operand"]), ("use", .tup [.str "budget", .str "operand"]), ("back", .tup [.str "returnable", .str "operand"]), ("rest", .tup [.str "name", .str "budget"]), ("if", .tup [.str "operand", .str "body", .str "body"]), ("repeat", .tup [.str "operand", .str "body"]), ("call", .tup [.str "procedure", .str "operands", .str "names"]), ("both", .tup [.str "body", .str "names", .str "body", .str "names"]), ("limit", .tup [.str "budget", .str "operand", .str "kind", .str "body", .str "body"])]
def oZ : List (Str × D) := [("name", .fn "is_name"), ("operand", .fn "is_operand"), ("operator", .fn "is_operator"), ("kind", .fn "is_kind"), ("operands", .fn "are_operands"), ("names", .fn "are_names"), ("procedure", .fn "is_name")]
abbrev vg : Stmt := inC (top 3) 0
abbrev vh : Stmt := inC (top 4) 0
abbrev qK : Stmt := top 36
abbrev qL : Stmt := top 37
abbrev pA : Stmt := top 10
abbrev pB : Stmt := top 30
abbrev pC : Stmt := inC (top 25) 13
abbrev qM : Stmt := inC (top 25) 14
abbrev jN : Stmt := top 11
abbrev qN : Stmt := top 31
abbrev qO : Stmt := top 32
abbrev nJ : Stmt := top 14
abbrev qP : Stmt := top 33
abbrev qQ : Stmt := top 34
abbrev nM : Stmt := top 23
abbrev qR : Stmt := top 12
abbrev pD : Stmt := top 13
abbrev pF : Stmt := top 26
abbrev qT : Stmt := top 27
abbrev qU : Stmt := top 28
abbrev qW : Stmt := inC (top 25) 17
abbrev qX : Stmt := inC (top 25) 18
abbrev nO : Stmt := inC (top 25) 16
abbrev nQ : Stmt := inC (top 25) 15
abbrev nR : Stmt := top 24
abbrev qY : Stmt := inC (top 25) 5
abbrev lZ : Stmt := inC (top 25) 1
abbrev pG : Stmt := inC (top 25) 10
abbrev qZ : Stmt := top 38
abbrev rA : Stmt := inC (top 25) 4
abbrev rB : Stmt := inC (top 25) 3
abbrev rC : Stmt := inC (top 25) 2
abbrev rD : Stmt := top 39
abbrev m7 : Stmt := top 40
abbrev hR : PySem.W.OpenRow := PySem.W.OpenLaw.row PySem.Challenge.rw_exactstop_k16_amounts_changed
abbrev hQ : Program := PySem.W.view hR.prog [40]
def WW : List (Str) := ["_wall", "ExactStopError", "InvalidProgram", "UnknownBudget", "UnknownProcedure", "LETTERS", "MOST_LETTERS", "GREATEST_VALUE", "is_integer", "is_name", "is_value", "is_operand", "are_names", "STEPS", "MOST_AMOUNT", "OPERATORS", "KEEP", "RESTORE", "KINDS", "SHAPES", "body_places", "statements_in", "Program", "are_operands", "is_operator", "is_kind", "TESTS", "is_amount", "check_budgets", "check_returnable"]
def WY : List (Str) := ["is_procedure", "check_procedures", "_law_rng", "_law_draw", "_law_told", "_law_right"]
def hNames : List (Str) := WW ++ WY
abbrev Ld : He.FnD := ⟨("_law_rng", none), "_law_rng", "_law_rng", defArgs qK, defBody qK, defScope qK⟩
abbrev hD1 : He.FnD := ⟨("_law_draw", none), "_law_draw", "_law_draw", defArgs qL, defBody qL, defScope qL⟩
abbrev hD2 : He.FnD := ⟨("is_integer", none), "is_integer", "is_integer", defArgs pA, defBody pA, defScope pA⟩
abbrev Lf : He.FnD := ⟨("is_amount", none), "is_amount", "is_amount", defArgs pB, defBody pB, defScope pB⟩
abbrev Lg : He.FnD := ⟨("is_name", none), "is_name", "is_name", defArgs jN, defBody jN, defScope jN⟩
abbrev Lh : He.FnD := ⟨("check_budgets", none), "check_budgets", "check_budgets", defArgs qN, defBody qN, defScope qN⟩
abbrev Lj : He.FnD := ⟨("check_returnable", none), "check_returnable", "check_returnable", defArgs qO, defBody qO, defScope qO⟩
abbrev Ln : He.FnD := ⟨("are_names", none), "are_names", "are_names", defArgs nJ, defBody nJ, defScope nJ⟩
abbrev Lp : He.FnD := ⟨("is_procedure", none), "is_procedure", "is_procedure", defArgs qP, defBody qP, defScope qP⟩
abbrev Lq : He.FnD := ⟨("check_procedures", none), "check_procedures", "check_procedures", defArgs qQ, defBody qQ, defScope qQ⟩
abbrev hD10 : He.FnD := ⟨("body_places", none), "body_places", "body_places", defArgs nM, defBody nM, defScope nM⟩
abbrev hD11 : He.FnD := ⟨("is_value", none), "is_value", "is_value", defArgs qR, defBody qR, defScope qR⟩
abbrev Lr : He.FnD := ⟨("is_operand", none), "is_operand", "is_operand", defArgs pD, defBody pD, defScope pD⟩
abbrev Ls : He.FnD := ⟨("are_operands", none), "are_operands", "are_operands", defArgs pF, defBody pF, defScope pF⟩
abbrev Lw : He.FnD := ⟨("is_operator", none), "is_operator", "is_operator", defArgs qT, defBody qT, defScope qT⟩
abbrev Ly : He.FnD := ⟨("is_kind", none), "is_kind", "is_kind", defArgs qU, defBody qU, defScope qU⟩
abbrev Lz : He.FnD := ⟨("statements_in", none), "statements_in", "statements_in", defArgs nR, defBody nR, defScope nR⟩
abbrev hD17 : He.FnD := ⟨("_law_told", none), "_law_told", "_law_told", defArgs qZ, defBody qZ, defScope qZ⟩
abbrev LA : He.FnD := ⟨("_law_right", none), "_law_right", "_law_right", defArgs rD, defBody rD, defScope rD⟩
abbrev LC : He.FnD := ⟨("law", none), "law", "law", defArgs m7, defBody m7, defScope m7⟩
abbrev LD : He.FnD := ⟨("InvalidProgram", some "__init__"), "__init__", "InvalidProgram.__init__", defArgs vg, defBody vg, defScope vg⟩
abbrev LJ : He.FnD := ⟨("UnknownBudget", some "__init__"), "__init__", "UnknownBudget.__init__", defArgs vh, defBody vh, defScope vh⟩
abbrev LK : He.FnD := ⟨("Program", some "has_budget"), "has_budget", "Program.has_budget", defArgs pC, defBody pC, defScope pC⟩
abbrev LL : He.FnD := ⟨("Program", some "require_budget"), "require_budget", "Program.require_budget", defArgs qM, defBody qM, defScope qM⟩
abbrev LN : He.FnD := ⟨("Program", some "fits"), "fits", "Program.fits", defArgs qW, defBody qW, defScope qW⟩
abbrev LQ : He.FnD := ⟨("Program", some "fits_procedure"), "fits_procedure", "Program.fits_procedure", defArgs qX, defBody qX, defScope qX⟩
abbrev LU : He.FnD := ⟨("Program", some "is_statement"), "is_statement", "Program.is_statement", defArgs nO, defBody nO, defScope nO⟩
abbrev LV : He.FnD := ⟨("Program", some "check_body"), "check_body", "Program.check_body", defArgs nQ, defBody nQ, defScope nQ⟩
abbrev LX : He.FnD := ⟨("Program", some "all_statements"), "all_statements", "Program.all_statements", defArgs qY, defBody qY, defScope qY⟩
abbrev LY : He.FnD := ⟨("Program", some "__init__"), "__init__", "Program.__init__", defArgs lZ, defBody lZ, defScope lZ⟩
abbrev LZ : He.FnD := ⟨("Program", some "with_amounts"), "with_amounts", "Program.with_amounts", defArgs pG, defBody pG, defScope pG⟩
abbrev M3 : He.FnD := ⟨("Program", some "__repr__"), "__repr__", "Program.__repr__", defArgs rA, defBody rA, defScope rA⟩
abbrev M4 : He.FnD := ⟨("Program", some "__len__"), "__len__", "Program.__len__", defArgs rB, defBody rB, defScope rB⟩
abbrev M5 : He.FnD := ⟨("Program", some "__eq__"), "__eq__", "Program.__eq__", defArgs rC, defBody rC, defScope rC⟩
abbrev hT0 : He.Tab := ((fun K => (He.ga K "SHAPES")), ["set", "out", "use", "back", "rest", "if", "repeat", "call", "both", "limit"])
abbrev hT1 : He.Tab := ((fun K => (He.ga K "TESTS")), ["name", "operand", "operator", "kind", "operands", "names", "procedure"])
def WZ : List (He.FnD) := [Ld, hD1, hD2, Lf, Lg, Lh, Lj, Ln, Lp, Lq, hD10, hD11, Lr, Ls, Lw, Ly, Lz, hD17, LA, LC, LD, LJ, LK, LL, LN, LQ, LU, LV, LX, LY]
def X3 : List (He.FnD) := [LZ, M3, M4, M5]
def m9 : List (He.FnD) := WZ ++ X3
def X4 : List (He.Tab) := [hT0, hT1]
def hTb : List (He.Tab) := X4
def X5 : List (PySem.W.Frag → Bool) := [(fun K => He.eqO (PySem.W.nsIn K mainGlobals "_law_rng") (some (some (.ref (He.ga K "_law_rng"))))), (fun K => He.eqO (PySem.W.nsIn K mainGlobals "_law_draw") (some (some (.ref (He.ga K "_law_draw"))))), (fun K => He.eqO (PySem.W.nsIn K mainGlobals "is_integer") (some (some (.ref (He.ga K "is_integer"))))), (fun K => He.eqO (PySem.W.nsIn K mainGlobals "is_amount") (some (some (.ref (He.ga K "is_amount"))))), (fun K => He.eqO (PySem.W.nsIn K mainGlobals "is_name") (some (some (.ref (He.ga K "is_name"))))), (fun K => He.eqO (PySem.W.nsIn K mainGlobals "check_budgets") (some (some (.ref (He.ga K "check_budgets"))))), (fun K => He.eqO (PySem.W.nsIn K mainGlobals "check_returnable") (some (some (.ref (He.ga K "check_returnable"))))), (fun K => He.eqO (PySem.W.nsIn K mainGlobals "are_names") (some (some (.ref (He.ga K "are_names"))))), (fun K => He.eqO (PySem.W.nsIn K mainGlobals "is_procedure") (some (some (.ref (He.ga K "is_procedure"))))), (fun K => He.eqO (PySem.W.nsIn K mainGlobals "check_procedures") (some (some (.ref (He.ga K "check_procedures"))))), (fun K => He.eqO (PySem.W.nsIn K mainGlobals "body_places") (some (some (.ref (He.ga K "body_places"))))), (fun K => He.eqO (PySem.W.nsIn K mainGlobals "is_value") (some (some (.ref (He.ga K "is_value"))))), (fun K => He.eqO (PySem.W.nsIn K mainGlobals "is_operand") (some (some (.ref (He.ga K "is_operand"))))), (fun K => He.eqO (PySem.W.nsIn K mainGlobals "are_operands") (some (some (.ref (He.ga K "are_operands"))))), (fun K => He.eqO (PySem.W.nsIn K mainGlobals "is_operator") (some (some (.ref (He.ga K "is_operator"))))), (fun K => He.eqO (PySem.W.nsIn K mainGlobals "is_kind") (some (some (.ref (He.ga K "is_kind"))))), (fun K => He.eqO (PySem.W.nsIn K mainGlobals "statements_in") (some (some (.ref (He.ga K "statements_in"))))), (fun K => He.eqO (PySem.W.nsIn K mainGlobals "_law_told") (some (some (.ref (He.ga K "_law_told"))))), (fun K => He.eqO (PySem.W.nsIn K mainGlobals "_law_right") (some (some (.ref (He.ga K "_law_right"))))), (fun K => He.eqO (PySem.W.nsIn K mainGlobals "law") (some (some (.ref (He.ga K "law"))))), (fun K => He.eqO (PySem.W.nsIn K mainGlobals "LookupError") (some none)), (fun K => He.eqO (PySem.W.nsIn K mainGlobals "abs") (some none)), (fun K => He.eqO (PySem.W.nsIn K mainGlobals "all") (some none)), (fun K => He.eqO (PySem.W.nsIn K mainGlobals "any") (some none)), (fun K => He.eqO (PySem.W.nsIn K mainGlobals "bool") (some none)), (fun K => He.eqO (PySem.W.nsIn K mainGlobals "dict") (some none)), (fun K => He.eqO (PySem.W.nsIn K mainGlobals "divmod") (some none)), (fun K => He.eqO (PySem.W.nsIn K mainGlobals "enumerate") (some none)), (fun K => He.eqO (PySem.W.nsIn K mainGlobals "int") (some none)), (fun K => He.eqO (PySem.W.nsIn K mainGlobals "isinstance") (some none))]
def X6 : List (PySem.W.Frag → Bool) := [(fun K => He.eqO (PySem.W.nsIn K mainGlobals "len") (some none)), (fun K => He.eqO (PySem.W.nsIn K mainGlobals "max") (some none)), (fun K => He.eqO (PySem.W.nsIn K mainGlobals "min") (some none)), (fun K => He.eqO (PySem.W.nsIn K mainGlobals "range") (some none)), (fun K => He.eqO (PySem.W.nsIn K mainGlobals "repr") (some none)), (fun K => He.eqO (PySem.W.nsIn K mainGlobals "set") (some none)), (fun K => He.eqO (PySem.W.nsIn K mainGlobals "sorted") (some none)), (fun K => He.eqO (PySem.W.nsIn K mainGlobals "str") (some none)), (fun K => He.eqO (PySem.W.nsIn K mainGlobals "tuple") (some none)), (fun K => He.eqO (PySem.W.nsIn K mainGlobals "zip") (some none)), (fun K => BQ (PySem.W.nsIn K mainGlobals "GREATEST_VALUE") 1000000000000000000), (fun K => He.eqO (PySem.W.nsIn K mainGlobals "KINDS") (some (some (.ref (He.ga K "KINDS"))))), (fun K => v9 K (He.ga K "KINDS") ([.str "keep", .str "restore"].map dV)), (fun K => FO (PySem.W.nsIn K mainGlobals "LETTERS") "abcdefghijklmnopqrstuvwxyz"), (fun K => BQ (PySem.W.nsIn K mainGlobals "MOST_AMOUNT") 1000000000000), (fun K => BQ (PySem.W.nsIn K mainGlobals "MOST_LETTERS") 8), (fun K => He.eqO (PySem.W.nsIn K mainGlobals "OPERATORS") (some (some (.ref (He.ga K "OPERATORS"))))), (fun K => v9 K (He.ga K "OPERATORS") ([.str "+", .str "-", .str "*", .str "min", .str "max", .str "less"].map dV)), (fun K => FO (PySem.W.nsIn K mainGlobals "STEPS") "steps"), (fun K => He.eqO (PySem.W.nsIn K mainGlobals "SHAPES") (some (some (.ref (He.ga K "SHAPES"))))), (fun K => BU K (He.ga K "SHAPES") iH), (fun K => He.eqO (PySem.W.nsIn K mainGlobals "TESTS") (some (some (.ref (He.ga K "TESTS"))))), (fun K => BU K (He.ga K "TESTS") oZ), (fun K => He.eqO (PySem.W.nsIn K mainGlobals "ExactStopError") (some (some (.ref (He.ga K "ExactStopError"))))), (fun K => He.eqO (PySem.W.nsIn K mainGlobals "InvalidProgram") (some (some (.ref (He.ga K "InvalidProgram"))))), (fun K => He.eqO (PySem.W.nsIn K mainGlobals "Program") (some (some (.ref (He.ga K "Program"))))), (fun K => He.eqO (PySem.W.nsIn K mainGlobals "UnknownBudget") (some (some (.ref (He.ga K "UnknownBudget"))))), (fun K => PySem.W.keepIn K (.ref (He.ga K "InvalidProgram"))), (fun K => PySem.W.keepIn K (.ref (He.ga K "Program"))), (fun K => PySem.W.keepIn K (.ref (He.ga K "UnknownBudget")))]
def X7 : List (PySem.W.Frag → Bool) := [(fun K => He.eqO (PySem.W.findIn K (.ref (He.ga K "InvalidProgram")) "__init__") (some (some (.ref (He.ma K (He.ga K "InvalidProgram") "__init__"))))), (fun K => zV K (He.ga K "InvalidProgram")), (fun K => xB K (He.ga K "InvalidProgram") "ValueError.__new__" PySem.HandSPX.refsVE), (fun K => eqB (PySem.W.typeIn K (.ref (He.ma K (He.ga K "InvalidProgram") "__init__"))) (some (.type "function"))), (fun K => He.eqO (PySem.W.findIn K (.ref (He.ga K "InvalidProgram")) "reason") (some none)), (fun K => He.eqO (PySem.W.findIn K (.ref (He.ga K "InvalidProgram")) "path") (some none)), (fun K => FT K (He.ga K "InvalidProgram")), (fun K => He.eqO (PySem.W.findIn K (.ref (He.ga K "UnknownBudget")) "__init__") (some (some (.ref (He.ma K (He.ga K "UnknownBudget") "__init__"))))), (fun K => zV K (He.ga K "UnknownBudget")), (fun K => xB K (He.ga K "UnknownBudget") "LookupError.__new__" (PySem.W.excTail [.type "LookupError", .type "Exception", .type "BaseException", .type "object"])), (fun K => eqB (PySem.W.typeIn K (.ref (He.ma K (He.ga K "UnknownBudget") "__init__"))) (some (.type "function"))), (fun K => He.eqO (PySem.W.findIn K (.ref (He.ga K "UnknownBudget")) "value") (some none)), (fun K => FT K (He.ga K "UnknownBudget")), (fun K => La K (He.ga K "ExactStopError")), (fun K => He.eqO (PySem.W.findIn K (.ref (He.ga K "UnknownBudget")) "path") (some none)), (fun K => He.eqO (PySem.W.findIn K (.ref (He.ga K "UnknownBudget")) "reason") (some none)), (fun K => He.eqO (PySem.W.findIn K (.ref (He.ga K "InvalidProgram")) "value") (some none)), (fun K => eqP (PySem.W.exmOne K (.ref (He.ga K "InvalidProgram")) (.ref (He.ga K "InvalidProgram"))) (some true)), (fun K => eqP (PySem.W.exmOne K (.ref (He.ga K "UnknownBudget")) (.ref (He.ga K "InvalidProgram"))) (some false)), (fun K => eqP (PySem.W.exmOne K (.ref (He.ga K "InvalidProgram")) (.ref (He.ga K "UnknownBudget"))) (some false)), (fun K => eqP (PySem.W.exmOne K (.ref (He.ga K "UnknownBudget")) (.ref (He.ga K "UnknownBudget"))) (some true)), (fun K => KZ K (He.ga K "Program")), (fun K => KY K (He.ga K "Program")), (fun K => He.eqO (PySem.W.findIn K (.ref (He.ga K "Program")) "given_back") (some none)), (fun K => He.eqO (PySem.W.findIn K (.ref (He.ga K "Program")) "main") (some none)), (fun K => He.eqO (PySem.W.findIn K (.ref (He.ga K "Program")) "own_amounts") (some none)), (fun K => He.eqO (PySem.W.findIn K (.ref (He.ga K "Program")) "routines") (some none)), (fun K => He.eqO (PySem.W.findIn K (.ref (He.ga K "Program")) "statement_list") (some none)), (fun K => PySem.W.makesIn K (He.ga K "Program")), (fun K => He.eqO (PySem.W.findIn K (.ref (He.ga K "Program")) "__ne__") (some (some (.builtin "object.__ne__"))))]
def X8 : List (PySem.W.Frag → Bool) := [(fun K => PySem.W.readsIn K (He.ga K "Program") (.type "type") && (He.eqO (PySem.W.specialIn K (.ref (He.ga K "Program")) "__getattribute__") (some (some (.builtin "type.__getattribute__"))) && ((match PySem.W.findCls K (.ref (He.ga K "Program")) (.type "type") "STEPS" with | some (.val (.str y _)) => decide (y = "steps") | _ => false) && ((match PySem.W.findIn K (.ref (He.ga K "Program")) "STEPS" with | some (some (.str y t)) => decide (y = "steps") && He.eqO (PySem.W.specialIn K (.str y t) "__get__") (some none) | _ => false) && !PySem.W.copiedNames.contains "STEPS")))), (fun K => eqP (PySem.W.kitOne K (.ref (He.ga K "Program")) (.ref (He.ga K "Program"))) (some true)), (fun K => He.eqO (PySem.W.findIn K (.ref (He.ga K "Program")) "has_budget") (some (some (.ref (He.ma K (He.ga K "Program") "has_budget"))))), (fun K => PySem.W.isFn K (.ref (He.ma K (He.ga K "Program") "has_budget"))), (fun K => He.eqO (PySem.W.findIn K (.ref (He.ga K "Program")) "require_budget") (some (some (.ref (He.ma K (He.ga K "Program") "require_budget"))))), (fun K => PySem.W.isFn K (.ref (He.ma K (He.ga K "Program") "require_budget"))), (fun K => He.eqO (PySem.W.findIn K (.ref (He.ga K "Program")) "fits") (some (some (.ref (He.ma K (He.ga K "Program") "fits"))))), (fun K => PySem.W.isFn K (.ref (He.ma K (He.ga K "Program") "fits"))), (fun K => He.eqO (PySem.W.findIn K (.ref (He.ga K "Program")) "fits_procedure") (some (some (.ref (He.ma K (He.ga K "Program") "fits_procedure"))))), (fun K => PySem.W.isFn K (.ref (He.ma K (He.ga K "Program") "fits_procedure"))), (fun K => He.eqO (PySem.W.findIn K (.ref (He.ga K "Program")) "is_statement") (some (some (.ref (He.ma K (He.ga K "Program") "is_statement"))))), (fun K => PySem.W.isFn K (.ref (He.ma K (He.ga K "Program") "is_statement"))), (fun K => He.eqO (PySem.W.findIn K (.ref (He.ga K "Program")) "check_body") (some (some (.ref (He.ma K (He.ga K "Program") "check_body"))))), (fun K => PySem.W.isFn K (.ref (He.ma K (He.ga K "Program") "check_body"))), (fun K => He.eqO (PySem.W.findIn K (.ref (He.ga K "Program")) "all_statements") (some (some (.ref (He.ma K (He.ga K "Program") "all_statements"))))), (fun K => PySem.W.isFn K (.ref (He.ma K (He.ga K "Program") "all_statements"))), (fun K => He.eqO (PySem.W.findIn K (.ref (He.ga K "Program")) "__init__") (some (some (.ref (He.ma K (He.ga K "Program") "__init__"))))), (fun K => PySem.W.isFn K (.ref (He.ma K (He.ga K "Program") "__init__"))), (fun K => FP K (He.ma K (He.ga K "Program") "__init__")), (fun K => He.eqO (PySem.W.nsIn K (xA K (He.ma K (He.ga K "Program") "__init__")) "returnable") (some (some (.ref (nsA K (xA K (He.ma K (He.ga K "Program") "__init__")) "returnable"))))), (fun K => v9 K (nsA K (xA K (He.ma K (He.ga K "Program") "__init__")) "returnable") []), (fun K => He.eqO (PySem.W.nsIn K (xA K (He.ma K (He.ga K "Program") "__init__")) "procedures") (some (some (.none)))), (fun K => He.eqO (PySem.W.findIn K (.ref (He.ga K "Program")) "with_amounts") (some (some (.ref (He.ma K (He.ga K "Program") "with_amounts"))))), (fun K => PySem.W.isFn K (.ref (He.ma K (He.ga K "Program") "with_amounts"))), (fun K => He.eqO (PySem.W.findIn K (.ref (He.ga K "Program")) "__repr__") (some (some (.ref (He.ma K (He.ga K "Program") "__repr__"))))), (fun K => PySem.W.isFn K (.ref (He.ma K (He.ga K "Program") "__repr__"))), (fun K => He.eqO (PySem.W.findIn K (.ref (He.ga K "Program")) "__len__") (some (some (.ref (He.ma K (He.ga K "Program") "__len__"))))), (fun K => PySem.W.isFn K (.ref (He.ma K (He.ga K "Program") "__len__"))), (fun K => He.eqO (PySem.W.findIn K (.ref (He.ga K "Program")) "__eq__") (some (some (.ref (He.ma K (He.ga K "Program") "__eq__"))))), (fun K => PySem.W.isFn K (.ref (He.ma K (He.ga K "Program") "__eq__")))]
def mj : List (PySem.W.Frag → Bool) := X5 ++ X6 ++ X7 ++ X8
set_option maxHeartbeats 0 in
theorem Xa (w : World) : HandSHeadRun.RunEq hR hQ (tL 1600 mj m9 hTb) (v8 1600 mj m9 hTb) 40000 hNames (w.withFollow "special-get-raises" false) := by
 intro os
 kernel_rfl
set_option maxHeartbeats 0 in
theorem Xb (w : World) : HandSHeadRun.RunEq hR hQ (tL 1600 mj m9 hTb) (v8 1600 mj m9 hTb) 40000 hNames (w.withFollow "special-get-raises" true) := by
 intro os
 kernel_rfl
theorem Xc (w : World) : HandSHeadRun.RunEq hR hQ (tL 1600 mj m9 hTb) (v8 1600 mj m9 hTb) 40000 hNames w := PySem.W.byRow2 "special-get-raises" (P := fun w => HandSHeadRun.RunEq hR hQ (tL 1600 mj m9 hTb) (v8 1600 mj m9 hTb) 40000 hNames w) Xa Xb w
def Xd : DefRec := match PySem.W.defOf hQ hR.name with
 | some (d, _) => d
 | none => HandSHeadRun.topDef hR.prog 0
end aH
open PySem PySem.W PyProof.Rows L2 Mi in
set_option maxRecDepth 100000 in
set_option maxHeartbeats 0 in
theorem aH.close (hc : PySem.W.WalkO aH.hQ aH.hNames (PySem.W.XL aH.hQ []) (Mi.tL 1600 aH.mj aH.m9 aH.hTb).says aH.hR.toRowW aH.Xd [] (fun f vs => PySem.call f vs)) : PySem.Challenge.rw_exactstop_k16_amounts_changed.Holds := by
 w_on; o_law
 refine HandSHeadRun.head_any (r := aH.hR) (q := aH.hQ) (H := Mi.tL 1600 aH.mj aH.m9 aH.hTb) (ob := Mi.v8 1600 aH.mj aH.m9 aH.hTb) (M := 40000) (loose := aH.hNames) (kwd := []) Mi.WV (by kernel_rfl) (fun s => by kernel_rfl) aH.Xc (by rfl) (by rfl) (by rfl) (by rfl) (by first | assumption | decide +kernel) (by decide +kernel) ⟨rfl, rfl, rfl, rfl, rfl, by decide +kernel⟩ ?hw hc
 case hw => w_witness2
namespace Mi
open PySem L2
/-- what is known of the module -/
structure Ct where
 K : PySem.W.Frag
 mg : Str → Option Value
 w : World
 pn : List (Addr × Obj)
def KL (K : PySem.W.Frag) (a : Addr) (xs : List V) : Prop :=
 ∃ (o : Obj) (its : Array Value) (n : Nat), K.lookup a = some o ∧ o.cls = .type "list" ∧ o.dict = none ∧ o.data = .seq its n ∧ its.size ≤ sizeLine ∧ Vals xs its.toList
def KT (K : PySem.W.Frag) (a : Addr) (xs : List V) : Prop :=
 ∃ (o : Obj) (its : Array Value) (n : Nat), K.lookup a = some o ∧ o.cls = .type "tuple" ∧ o.data = .seq its n ∧ its.size ≤ sizeLine ∧ Vals xs its.toList
/-- a thing bR is frozen for Xe -/
def Fz (H : Hp) (a : Addr) (u : HO) : Prop := ∃ o, H a = some (.frz o u)
theorem Fz.rd {H : Hp} {a : Addr} {u : HO} (h : Fz H a u) : Rd H a u := .inr h
mutual
inductive RV (C : Ct) (H : Hp) (P : Addr → Prop) (β : List Addr) : V → D → Prop
 | non : RV C H P β .non .non
 | bl (b : Bool) : RV C H P β (.bl b) (.bl b)
 | int (i : Int) : RV C H P β (.int i) (.int i)
 | str (x : Str) : RV C H P β (.str x) (.str x)
 | ty (n : String) : RV C H P β (.ty n) (.ty n)
 | lst {a : Addr} {xs : List V} {ds : List D} : ¬ P a → a ∉ β → Rd H a (.lst xs) → aA C H P β xs ds → RV C H P β (.ref a) (.lst ds)
 | tup {a : Addr} {xs : List V} {ds : List D} : Rd H a (.tup xs) → aA C H P β xs ds → RV C H P β (.ref a) (.tup ds)
 | eV {a : Addr} {xs : List V} {ds : List D} : KT C.K a xs → aA C H P β xs ds → RV C H P β (.ref a) (.tup ds)
 | fK {a : Addr} {xs : List V} {ds : List D} : KL C.K a xs → aA C H P β xs ds → RV C H P β (.ref a) (.lst ds)
 | dct {a : Addr} {xs : List (Key × V)} {ds : List (Key × D)} : ¬ P a → a ∉ β → Fz H a (.dK xs) → aG C H P β xs ds → RV C H P β (.ref a) (.dct ds)
 | ref {n : Nat} {a : Addr} : β[n]? = some a → RV C H P β (.ref a) (.ref n)
 | fn {x : Str} {f : Addr} : C.mg x = some (.ref f) → PySem.W.keepIn C.K (.ref f) = true → RV C H P β (.ref f) (.fn x)
inductive aA (C : Ct) (H : Hp) (P : Addr → Prop) (β : List Addr) : List V → List D → Prop
 | nil : aA C H P β [] []
 | cons {v : V} {vs : List V} {d : D} {ds : List D} : RV C H P β v d → aA C H P β vs ds → aA C H P β (v :: vs) (d :: ds)
inductive aG (C : Ct) (H : Hp) (P : Addr → Prop) (β : List Addr) : List (Key × V) → List (Key × D) → Prop
 | nil : aG C H P β [] []
 | cons {k : Key} {v : V} {vs : List (Key × V)} {d : D} {ds : List (Key × D)} : RV C H P β v d → aG C H P β vs ds → aG C H P β ((k, v) :: vs) ((k, d) :: ds)
end
/-- what an expression may do to the heap and the vm places -/
structure Ext (H : Hp) (β : List Addr) (H' : Hp) (β' : List Addr) : Prop where
 pre : ∃ γ, β' = β ++ γ
 keep : ∀ a o, H a = some o → a ∉ β → H' a = some o
 fresh : ∀ a ∈ β', a ∈ β ∨ H a = none
 tups : ∀ a xs, Rd H a (.tup xs) → Rd H' a (.tup xs)
 stay : ∀ a, H a ≠ none → H' a ≠ none
 dY : ∀ a o u, H a = some (.frz o u) → H' a = some (.frz o u)
theorem Ext.refl (H : Hp) (β : List Addr) : Ext H β H β := ⟨⟨[], (List.append_nil β).symm⟩, fun _ _ h _ => h, fun _ h => .inl h, fun _ _ h => h, fun _ h => h, fun _ _ _ h => h⟩
theorem Ext.mem {H H' : Hp} {β β' : List Addr} (e : Ext H β H' β') {a : Addr} (h : a ∈ β) : a ∈ β' := by
 obtain ⟨γ, r⟩ := e.pre
 rw [r]; exact List.mem_append_left _ h
theorem Ext.get {H H' : Hp} {β β' : List Addr} (e : Ext H β H' β') {n : Nat} {a : Addr} (h : β[n]? = some a) : β'[n]? = some a := by
 obtain ⟨γ, r⟩ := e.pre
 rw [r, List.getElem?_append_left (List.getElem?_eq_some_iff.mp h).1]; exact h
theorem Ext.out {H H' : Hp} {β β' : List Addr} (e : Ext H β H' β') {a : Addr} (h : a ∉ β) (hn : H a ≠ none) : a ∉ β' := fun m => (e.fresh a m).elim h hn
theorem Ext.trans {H H1 H2 : Hp} {β β1 β2 : List Addr} (a : Ext H β H1 β1) (b : Ext H1 β1 H2 β2) : Ext H β H2 β2 where
 pre := by
  obtain ⟨γ, r⟩ := a.pre
  obtain ⟨γ', r'⟩ := b.pre
  exact ⟨γ ++ γ', by rw [r', r, List.append_assoc]⟩
 keep := fun c o h hn => b.keep c o (a.keep c o h hn) (a.out hn (by rw [h]; exact Option.some_ne_none _))
 fresh := fun c h => by
  rcases b.fresh c h with q | q
  ·exact a.fresh c q
  ·by_cases m : c ∈ β
   ·exact .inl m
   ·right
    cases z : H c with
    | none => rfl
    | some o => rw [a.keep c o z m] at q; cases q
 tups := fun c xs h => b.tups c xs (a.tups c xs h)
 stay := fun c h => b.stay c (a.stay c h)
 dY := fun c o u h => b.dY c o u (a.dY c o u h)
/-- a new thing laid -/
theorem Ext.laid {H : Hp} {β : List Addr} {p : Addr} {o : HO} (hp : H p = none) : Ext H β (upd H p o) β where
 pre := ⟨[], (List.append_nil β).symm⟩
 keep := fun a u h _ => by rw [upd_ne (ne_of_none h hp)]; exact h
 fresh := fun _ h => .inl h
 tups := fun a xs h => by
  rcases h with h | ⟨ob, h⟩
  ·exact .inl (by rw [upd_ne (ne_of_none h hp)]; exact h)
  ·exact .inr ⟨ob, by rw [upd_ne (ne_of_none h hp)]; exact h⟩
 stay := fun a h => by
  by_cases e : a = p
  ·rw [e, upd_same]; exact Option.some_ne_none _
  ·rw [upd_ne e]; exact h
 dY := fun a o u h => by rw [upd_ne (ne_of_none h hp)]; exact h
theorem tM {H : Hp} {a : Addr} {u : HO} (h : Rd H a u) : H a ≠ none := by
 rcases h with h | ⟨o, h⟩ <;> (rw [h]; exact Option.some_ne_none _)
theorem Ext.fz {H H' : Hp} {β β' : List Addr} (e : Ext H β H' β') {a : Addr} {u : HO} (hn : a ∉ β) (h : Fz H a u) : Fz H' a u := let ⟨o, q⟩ := h; ⟨o, e.keep _ _ q hn⟩
theorem Ext.rd {H H' : Hp} {β β' : List Addr} (e : Ext H β H' β') {a : Addr} {u : HO} (hn : a ∉ β) (h : Rd H a u) : Rd H' a u := by
 rcases h with h | ⟨o, h⟩
 ·exact .inl (e.keep _ _ h hn)
 ·exact .inr ⟨o, e.keep _ _ h hn⟩
section
variable {C : Ct} {H H' : Hp} {P P' : Addr → Prop} {β β' : List Addr}
mutual
theorem RV.mono (e : Ext H β H' β') : ∀ {v : V} {d : D}, RV C H P β v d → RV C H' P β' v d
 | _, _, .non => .non
 | _, _, .bl b => .bl b
 | _, _, .int i => .int i
 | _, _, .str x => .str x
 | _, _, .ty n => .ty n
 | _, _, .lst hp hb hr h => .lst hp (e.out hb (tM hr)) (e.rd hb hr) (aA.mono e h)
 | _, _, .tup hr h => .tup (e.tups _ _ hr) (aA.mono e h)
 | _, _, .eV k h => .eV k (aA.mono e h)
 | _, _, .fK k h => .fK k (aA.mono e h)
 | _, _, .dct hp hb hr h => .dct hp (e.out hb (tM hr.rd)) (e.fz hb hr) (aG.mono e h)
 | _, _, .ref h => .ref (e.get h)
 | _, _, .fn h k => .fn h k
theorem aA.mono (e : Ext H β H' β') : ∀ {vs : List V} {ds : List D}, aA C H P β vs ds → aA C H' P β' vs ds
 | _, _, .nil => .nil
 | _, _, .cons h t => .cons (RV.mono e h) (aA.mono e t)
theorem aG.mono (e : Ext H β H' β') : ∀ {vs : List (Key × V)} {ds : List (Key × D)}, aG C H P β vs ds → aG C H' P β' vs ds
 | _, _, .nil => .nil
 | _, _, .cons h t => .cons (RV.mono e h) (aG.mono e t)
end
mutual
theorem RV.ct {C' : Ct} (k : C'.K = C.K) (m : C'.mg = C.mg) : ∀ {v : V} {d : D}, RV C H P β v d → RV C' H P β v d
 | _, _, .non => .non
 | _, _, .bl b => .bl b
 | _, _, .int i => .int i
 | _, _, .str x => .str x
 | _, _, .ty n => .ty n
 | _, _, .lst hp hb hr h => .lst hp hb hr (aA.ct k m h)
 | _, _, .tup hr h => .tup hr (aA.ct k m h)
 | _, _, .eV q h => .eV (k ▸ q) (aA.ct k m h)
 | _, _, .fK q h => .fK (k ▸ q) (aA.ct k m h)
 | _, _, .dct hp hb hr h => .dct hp hb hr (aG.ct k m h)
 | _, _, .ref h => .ref h
 | _, _, .fn h q => .fn (m ▸ h) (k ▸ q)
theorem aA.ct {C' : Ct} (k : C'.K = C.K) (m : C'.mg = C.mg) : ∀ {vs : List V} {ds : List D}, aA C H P β vs ds → aA C' H P β vs ds
 | _, _, .nil => .nil
 | _, _, .cons h t => .cons (RV.ct k m h) (aA.ct k m t)
theorem aG.ct {C' : Ct} (k : C'.K = C.K) (m : C'.mg = C.mg) : ∀ {vs : List (Key × V)} {ds : List (Key × D)}, aG C H P β vs ds → aG C' H P β vs ds
 | _, _, .nil => .nil
 | _, _, .cons h t => .cons (RV.ct k m h) (aG.ct k m t)
end
mutual
theorem RV.less (e : ∀ a, P' a → P a) : ∀ {v : V} {d : D}, RV C H P β v d → RV C H P' β v d
 | _, _, .non => .non
 | _, _, .bl b => .bl b
 | _, _, .int i => .int i
 | _, _, .str x => .str x
 | _, _, .ty n => .ty n
 | _, _, .lst hp hb hr h => .lst (fun z => hp (e _ z)) hb hr (aA.less e h)
 | _, _, .tup hr h => .tup hr (aA.less e h)
 | _, _, .eV k h => .eV k (aA.less e h)
 | _, _, .fK k h => .fK k (aA.less e h)
 | _, _, .dct hp hb hr h => .dct (fun z => hp (e _ z)) hb hr (aG.less e h)
 | _, _, .ref h => .ref h
 | _, _, .fn h k => .fn h k
theorem aA.less (e : ∀ a, P' a → P a) : ∀ {vs : List V} {ds : List D}, aA C H P β vs ds → aA C H P' β vs ds
 | _, _, .nil => .nil
 | _, _, .cons h t => .cons (RV.less e h) (aA.less e t)
theorem aG.less (e : ∀ a, P' a → P a) : ∀ {vs : List (Key × V)} {ds : List (Key × D)}, aG C H P β vs ds → aG C H P' β vs ds
 | _, _, .nil => .nil
 | _, _, .cons h t => .cons (RV.less e h) (aG.less e t)
end
mutual
theorem RV.more {p : Addr} (hp : H p = none) : ∀ {v : V} {d : D}, RV C H P β v d → RV C H (fun a => P a ∨ a = p) β v d
 | _, _, .non => .non
 | _, _, .bl b => .bl b
 | _, _, .int i => .int i
 | _, _, .str x => .str x
 | _, _, .ty n => .ty n
 | _, _, .lst h1 hb hr h => .lst (fun z => z.elim h1 fun e => (tM hr) (by rw [e]; exact hp)) hb hr (aA.more hp h)
 | _, _, .tup hr h => .tup hr (aA.more hp h)
 | _, _, .eV k h => .eV k (aA.more hp h)
 | _, _, .fK k h => .fK k (aA.more hp h)
 | _, _, .dct h1 hb hr h => .dct (fun z => z.elim h1 fun e => (tM hr.rd) (by rw [e]; exact hp)) hb hr (aG.more hp h)
 | _, _, .ref h => .ref h
 | _, _, .fn h k => .fn h k
theorem aA.more {p : Addr} (hp : H p = none) : ∀ {vs : List V} {ds : List D}, aA C H P β vs ds → aA C H (fun a => P a ∨ a = p) β vs ds
 | _, _, .nil => .nil
 | _, _, .cons h t => .cons (RV.more hp h) (aA.more hp t)
theorem aG.more {p : Addr} (hp : H p = none) : ∀ {vs : List (Key × V)} {ds : List (Key × D)}, aG C H P β vs ds → aG C H (fun a => P a ∨ a = p) β vs ds
 | _, _, .nil => .nil
 | _, _, .cons h t => .cons (RV.more hp h) (aG.more hp t)
end
mutual
theorem RV.set {p : Addr} {o : HO} (hp : P p ∨ p ∈ β) (ht : ∀ xs, ¬ Rd H p (.tup xs)) : ∀ {v : V} {d : D}, RV C H P β v d → RV C (upd H p o) P β v d
 | _, _, .non => .non
 | _, _, .bl b => .bl b
 | _, _, .int i => .int i
 | _, _, .str x => .str x
 | _, _, .ty n => .ty n
 | .ref a, _, .lst (xs := xs) h1 hb hr h => by
  have ne : a ≠ p := fun e => hp.elim (fun z => h1 (e ▸ z)) (fun z => hb (e ▸ z))
  exact .lst h1 hb (by unfold Rd; rw [upd_ne ne]; exact hr) (aA.set hp ht h)
 | .ref a, _, .tup (xs := xs) hr h => by
  have ne : a ≠ p := fun e => ht xs (e ▸ hr)
  exact .tup (by unfold Rd; rw [upd_ne ne]; exact hr) (aA.set hp ht h)
 | _, _, .eV k h => .eV k (aA.set hp ht h)
 | _, _, .fK k h => .fK k (aA.set hp ht h)
 | .ref a, _, .dct (xs := xs) h1 hb hr h => by
  have ne : a ≠ p := fun e => hp.elim (fun z => h1 (e ▸ z)) (fun z => hb (e ▸ z))
  exact .dct h1 hb (let ⟨o, q⟩ := hr; ⟨o, by rw [upd_ne ne]; exact q⟩) (aG.set hp ht h)
 | _, _, .ref h => .ref h
 | _, _, .fn h k => .fn h k
theorem aA.set {p : Addr} {o : HO} (hp : P p ∨ p ∈ β) (ht : ∀ xs, ¬ Rd H p (.tup xs)) : ∀ {vs : List V} {ds : List D}, aA C H P β vs ds → aA C (upd H p o) P β vs ds
 | _, _, .nil => .nil
 | _, _, .cons h t => .cons (RV.set hp ht h) (aA.set hp ht t)
theorem aG.set {p : Addr} {o : HO} (hp : P p ∨ p ∈ β) (ht : ∀ xs, ¬ Rd H p (.tup xs)) : ∀ {vs : List (Key × V)} {ds : List (Key × D)}, aG C H P β vs ds → aG C (upd H p o) P β vs ds
 | _, _, .nil => .nil
 | _, _, .cons h t => .cons (RV.set hp ht h) (aG.set hp ht t)
end
mutual
theorem RV.box {p : Addr} (hp : ¬ P p → H p = none ∨ P p) (hn : ∀ u, ¬ Rd H p u) : ∀ {v : V} {d : D}, RV C H P β v d → RV C H P (β ++ [p]) v d
 | _, _, .non => .non
 | _, _, .bl b => .bl b
 | _, _, .int i => .int i
 | _, _, .str x => .str x
 | _, _, .ty n => .ty n
 | _, _, .lst h1 hb hr h => .lst h1 (fun z => (List.mem_append.mp z).elim hb fun e => hn _ (by rw [← List.mem_singleton.mp e]; exact hr)) hr (aA.box hp hn h)
 | _, _, .tup hr h => .tup hr (aA.box hp hn h)
 | _, _, .eV k h => .eV k (aA.box hp hn h)
 | _, _, .fK k h => .fK k (aA.box hp hn h)
 | _, _, .dct h1 hb hr h => .dct h1 (fun z => (List.mem_append.mp z).elim hb fun e => hn _ (by rw [← List.mem_singleton.mp e]; exact hr.rd)) hr (aG.box hp hn h)
 | _, _, .ref (n := n) (a := a) h => .ref (by rw [List.getElem?_append_left (List.getElem?_eq_some_iff.mp h).1]; exact h)
 | _, _, .fn h k => .fn h k
theorem aA.box {p : Addr} (hp : ¬ P p → H p = none ∨ P p) (hn : ∀ u, ¬ Rd H p u) : ∀ {vs : List V} {ds : List D}, aA C H P β vs ds → aA C H P (β ++ [p]) vs ds
 | _, _, .nil => .nil
 | _, _, .cons h t => .cons (RV.box hp hn h) (aA.box hp hn t)
theorem aG.box {p : Addr} (hp : ¬ P p → H p = none ∨ P p) (hn : ∀ u, ¬ Rd H p u) : ∀ {vs : List (Key × V)} {ds : List (Key × D)}, aG C H P β vs ds → aG C H P (β ++ [p]) vs ds
 | _, _, .nil => .nil
 | _, _, .cons h t => .cons (RV.box hp hn h) (aG.box hp hn t)
end
end
section
variable {C : Ct} {H : Hp} {P : Addr → Prop} {β : List Addr}
theorem aA.length : ∀ {vs : List V} {ds : List D}, aA C H P β vs ds → vs.length = ds.length
 | _, _, .nil => rfl
 | _, _, .cons _ t => by simp [aA.length t]
theorem aA.get : ∀ {vs : List V} {ds : List D} {i : Nat} {d : D}, aA C H P β vs ds → ds[i]? = some d → ∃ v, vs[i]? = some v ∧ RV C H P β v d
 | _, _, 0, _, .cons h _, e => by simp at e; subst e; exact ⟨_, rfl, h⟩
 | _, _, i + 1, _, .cons _ t, e => by
  obtain ⟨v, h1, h2⟩ := aA.get (i := i) t (by simpa using e)
  exact ⟨v, by simpa using h1, h2⟩
 | _, _, _, _, .nil, e => by simp at e
theorem aA.of : ∀ {vs : List V} {ds : List D} {i : Nat} {v : V}, aA C H P β vs ds → vs[i]? = some v → ∃ d, ds[i]? = some d ∧ RV C H P β v d
 | _, _, 0, _, .cons h _, e => by simp at e; subst e; exact ⟨_, rfl, h⟩
 | _, _, i + 1, _, .cons _ t, e => by
  obtain ⟨v, h1, h2⟩ := aA.of (i := i) t (by simpa using e)
  exact ⟨v, by simpa using h1, h2⟩
 | _, _, _, _, .nil, e => by simp at e
theorem aA.append : ∀ {vs us : List V} {ds es : List D}, aA C H P β vs ds → aA C H P β us es → aA C H P β (vs ++ us) (ds ++ es)
 | _, _, _, _, .nil, s => s
 | _, _, _, _, .cons r t, s => .cons r (aA.append t s)
theorem aA.set' : ∀ {vs : List V} {ds : List D} {v : V} {d : D} (i : Nat), aA C H P β vs ds → RV C H P β v d → aA C H P β (vs.set i v) (ds.set i d)
 | _, _, _, _, _, .nil, _ => .nil
 | _, _, _, _, 0, .cons _ t, r => .cons r t
 | _, _, _, _, i + 1, .cons h t, r => .cons h (aA.set' i t r)
theorem aA.take : ∀ {vs : List V} {ds : List D} (n : Nat), aA C H P β vs ds → aA C H P β (vs.take n) (ds.take n)
 | _, _, 0, _ => .nil
 | _, _, _ + 1, .nil => .nil
 | _, _, n + 1, .cons r t => .cons r (aA.take n t)
theorem aA.drop : ∀ {vs : List V} {ds : List D} (n : Nat), aA C H P β vs ds → aA C H P β (vs.drop n) (ds.drop n)
 | _, _, 0, r => r
 | _, _, _ + 1, .nil => .nil
 | _, _, n + 1, .cons _ t => aA.drop n t
theorem aA.reverse : ∀ {vs : List V} {ds : List D}, aA C H P β vs ds → aA C H P β vs.reverse ds.reverse
 | _, _, .nil => .nil
 | _, _, .cons r t => by
  rw [List.reverse_cons, List.reverse_cons]
  exact aA.append (aA.reverse t) (.cons r .nil)
theorem aG.keys : ∀ {vs : List (Key × V)} {ds : List (Key × D)}, aG C H P β vs ds → vs.map (·.1) = ds.map (·.1)
 | _, _, .nil => rfl
 | _, _, .cons _ t => by simp [aG.keys t]
theorem aG.length {vs : List (Key × V)} {ds : List (Key × D)} (h : aG C H P β vs ds) : vs.length = ds.length := by
 have := congrArg List.length h.keys
 simpa using this
end
section
variable {C : Ct} {H : Hp} {P : Addr → Prop} {β : List Addr}
mutual
theorem RV.jO {p : Addr} : ∀ {v : V} {d : D}, RV C H (fun b => P b ∨ b = p) β v d → RV C H P (β ++ [p]) v d
 | _, _, .non => .non
 | _, _, .bl b => .bl b
 | _, _, .int i => .int i
 | _, _, .str x => .str x
 | _, _, .ty n => .ty n
 | _, _, .lst h1 hb hr h => .lst (fun z => h1 (.inl z)) (fun z => (List.mem_append.mp z).elim hb fun e => h1 (.inr (List.mem_singleton.mp e))) hr (aA.jO h)
 | _, _, .tup hr h => .tup hr (aA.jO h)
 | _, _, .eV k h => .eV k (aA.jO h)
 | _, _, .fK k h => .fK k (aA.jO h)
 | _, _, .dct h1 hb hr h => .dct (fun z => h1 (.inl z)) (fun z => (List.mem_append.mp z).elim hb fun e => h1 (.inr (List.mem_singleton.mp e))) hr (aG.jO h)
 | _, _, .ref (n := n) (a := a) h => .ref (by rw [List.getElem?_append_left (List.getElem?_eq_some_iff.mp h).1]; exact h)
 | _, _, .fn h k => .fn h k
theorem aA.jO {p : Addr} : ∀ {vs : List V} {ds : List D}, aA C H (fun b => P b ∨ b = p) β vs ds → aA C H P (β ++ [p]) vs ds
 | _, _, .nil => .nil
 | _, _, .cons h t => .cons (RV.jO h) (aA.jO t)
theorem aG.jO {p : Addr} : ∀ {vs : List (Key × V)} {ds : List (Key × D)}, aG C H (fun b => P b ∨ b = p) β vs ds → aG C H P (β ++ [p]) vs ds
 | _, _, .nil => .nil
 | _, _, .cons h t => .cons (RV.jO h) (aG.jO t)
end
end
/-- a BV entry: the heap, the vm places, what its callers keep apart; the M6 bR its loops have locked -/
structure Cf where
 H0 : Hp
 β0 : List Addr
 P0 : Addr → Prop
 lk : List Addr
structure rE (cf : Cf) (H : Hp) (β : List Addr) : Prop where
 pre : ∃ γ, β = cf.β0 ++ γ
 keep : ∀ a o, cf.H0 a = some o → a ∉ cf.β0 → H a = some o ∨ (a ∈ cf.lk ∧ ∃ ob, H a = some (.frz ob o))
 fresh : ∀ a ∈ β, a ∈ cf.β0 ∨ cf.H0 a = none
 tups : ∀ a xs, Rd cf.H0 a (.tup xs) → Rd H a (.tup xs)
 stay : ∀ a, cf.H0 a ≠ none → H a ≠ none
 dY : ∀ a o u, cf.H0 a = some (.frz o u) → H a = some (.frz o u)
def nU (C : Ct) (H : Hp) (P : Addr → Prop) (β : List Addr) (vs : List (Str × V)) (fs : List (Str × D)) : Prop :=
 vs.map (·.1) = fs.map (·.1) ∧ aA C H P β (vs.map (·.2)) (fs.map (·.2))
def bG (C : Ct) (H : Hp) (P : Addr → Prop) (β : List Addr) (a : Addr) : SO → Prop
 | .lst ds => ∃ xs, H a = some (.lst xs) ∧ aA C H P β xs ds
 | .dct ds => ∃ xs, H a = some (.dK xs) ∧ aG C H P β xs ds
 | .ins c fs => ∃ Ca dx vs, C.mg c = some (.ref Ca) ∧ H a = some (.ins Ca dx vs) ∧ nU C H P β vs fs
 | .dX ds => ∃ od xs, H a = some (.frz od (.dK xs)) ∧ aG C H P β xs ds
 | .fQ ds => ∃ od xs, H a = some (.frz od (.lst xs)) ∧ aA C H P β xs ds
structure aP (C : Ct) (H : Hp) (P : Addr → Prop) (β : List Addr) (S : Store) : Prop where
 len : β.length = S.length
 nd : β.Nodup
 ok : ∀ (n : Nat) (a : Addr) (so : SO), β[n]? = some a → S[n]? = some so → bG C H P β a so
/-- a container bR one slot alone holds -/
def cP (C : Ct) (H : Hp) (P : Addr → Prop) (β : List Addr) (a : Addr) : D → Prop
 | .lst ds => ∃ xs, H a = some (.lst xs) ∧ aA C H P β xs ds
 | .dct ds => ∃ xs, H a = some (.dK xs) ∧ aG C H P β xs ds
 | _ => False
/-- the exception bR a suite b1N -/
def iI (C : Ct) (H : Hp) (P : Addr → Prop) (β : List Addr) (a : Addr) (e : bD) : Prop :=
 ∃ oe Ca dd vs, (a, oe) ∈ C.pn ∧ Zc (.ref Ca) (some dd) oe ∧ (∃ ws, oe.data = .fields ws) ∧ C.mg e.cls = some (.ref Ca) ∧ H dd = some (.xd vs) ∧ dd ∉ β ∧ ¬ P dd ∧ ∀ f x, e.fs.lookup f = some x → ∃ v, vs.lookup f = some v ∧ RV C H P β v x
theorem iI.mono {C : Ct} {H H' : Hp} {P : Addr → Prop} {β β' : List Addr} {a : Addr} {e : bD} (h : iI C H P β a e) (x : Ext H β H' β') : iI C H' P β' a e := by
 obtain ⟨oe, Ca, dd, vs, h1, h2, h3, h4, h5, h6, h7, h8⟩ := h
 exact ⟨oe, Ca, dd, vs, h1, h2, h3, h4, x.keep _ _ h5 h6, x.out h6 (by rw [h5]; exact Option.some_ne_none _), h7, fun f y q => let ⟨v, q1, q2⟩ := h8 f y q; ⟨v, q1, q2.mono x⟩⟩
theorem iI.less {C : Ct} {H : Hp} {P P' : Addr → Prop} {β : List Addr} {a : Addr} {e : bD} (h : iI C H P β a e) (x : ∀ a, P' a → P a) : iI C H P' β a e := by
 obtain ⟨oe, Ca, dd, vs, h1, h2, h3, h4, h5, h6, h7, h8⟩ := h
 exact ⟨oe, Ca, dd, vs, h1, h2, h3, h4, h5, h6, fun z => h7 (x _ z), fun f y q => let ⟨v, q1, q2⟩ := h8 f y q; ⟨v, q1, q2.less x⟩⟩
theorem iI.more {C : Ct} {H : Hp} {P : Addr → Prop} {β : List Addr} {a : Addr} {e : bD} {p : Addr} (h : iI C H P β a e) (hp : H p = none) : iI C H (fun b => P b ∨ b = p) β a e := by
 obtain ⟨oe, Ca, dd, vs, h1, h2, h3, h4, h5, h6, h7, h8⟩ := h
 exact ⟨oe, Ca, dd, vs, h1, h2, h3, h4, h5, h6, fun (z : P dd ∨ dd = p) => Or.elim z h7 fun q => (by rw [q, hp] at h5; cases h5), fun f y q => let ⟨v, q1, q2⟩ := h8 f y q; ⟨v, q1, q2.more hp⟩⟩
theorem iI.set {C : Ct} {H : Hp} {P : Addr → Prop} {β : List Addr} {a : Addr} {e : bD} {p : Addr} {o : HO} (h : iI C H P β a e) (hp : P p) (ht : ∀ xs, ¬ Rd H p (.tup xs)) : iI C (upd H p o) P β a e := by
 obtain ⟨oe, Ca, dd, vs, h1, h2, h3, h4, h5, h6, h7, h8⟩ := h
 exact ⟨oe, Ca, dd, vs, h1, h2, h3, h4, by rw [upd_ne (show dd ≠ p from fun z => h7 (by rw [z]; exact hp))]; exact h5, h6, h7, fun f y q => let ⟨v, q1, q2⟩ := h8 f y q; ⟨v, q1, q2.set (.inl hp) ht⟩⟩
structure LR (C : Ct) (cf : Cf) (oa : Nat → Option Addr) (P : Addr → Prop) (σ : St) (H : Hp) (β : List Addr) (ρ : aF) (S : Store) : Prop where
 len : σ.length = ρ.length
 p : ∀ a, P a → H a ≠ none ∧ a ∉ β
 sub : ∀ a, cf.P0 a → P a
 p0 : ∀ a, cf.P0 a → cf.H0 a ≠ none
 ext : rE cf H β
 own : ∀ i a, oa i = some a → P a ∧ cf.H0 a = none
 inj : ∀ i j a, oa i = some a → oa j = some a → i = j
 st : aP C H P β S
 slot : ∀ (i : Nat) (d : D), ρ[i]? = some (Sl.sh d) → ∃ v, σ[i]? = some (some v) ∧ RV C H P β v d
 bV : ∀ (i : Nat) (d : D), ρ[i]? = some (Sl.ow d) → ∃ a, oa i = some a ∧ σ[i]? = some (some (.ref a)) ∧ cP C H P β a d
 xslot : ∀ (i : Nat) (e : bD), ρ[i]? = some (Sl.ex e) → ∃ a, σ[i]? = some (some (.ref a)) ∧ iI C H P β a e
section
variable {C : Ct} {cf : Cf} {oa : Nat → Option Addr} {P P' : Addr → Prop} {σ : St} {H H' : Hp} {β β' : List Addr} {ρ : aF} {S S' : Store}
theorem rE.step (x : rE cf H β) (e : Ext H β H' β') : rE cf H' β' where
 pre := by
  obtain ⟨γ, r⟩ := x.pre
  obtain ⟨γ', r'⟩ := e.pre
  exact ⟨γ ++ γ', by rw [r', r, List.append_assoc]⟩
 keep := fun a o h hn => by
  have nb : a ∉ β := fun m => (x.fresh a m).elim hn fun z => by rw [h] at z; cases z
  rcases x.keep a o h hn with q | ⟨m, ob, q⟩
  ·exact .inl (e.keep _ _ q nb)
  ·exact .inr ⟨m, ob, e.keep _ _ q nb⟩
 fresh := fun a h => by
  rcases e.fresh a h with q | q
  ·exact x.fresh a q
  ·right
   cases z : cf.H0 a with
   | none => rfl
   | some o => exact absurd q (x.stay a (by rw [z]; exact Option.some_ne_none _))
 tups := fun a xs h => e.tups a xs (x.tups a xs h)
 stay := fun a h => e.stay a (x.stay a h)
 dY := fun a o u h => e.dY a o u (x.dY a o u h)
theorem rE.done (x : rE cf H β) (hl : cf.lk = []) : Ext cf.H0 cf.β0 H β :=
 ⟨x.pre, fun a o h hn => (x.keep a o h hn).elim id fun z => by rw [hl] at z; exact absurd z.1 (by simp), x.fresh, x.tups, x.stay, x.dY⟩
theorem bG.BW {a : Addr} {so : SO} (h : bG C H P β a so) : H a ≠ none := by
 cases so with
 | lst ds => obtain ⟨xs, e, _⟩ := h; rw [e]; exact Option.some_ne_none _
 | dct ds => obtain ⟨xs, e, _⟩ := h; rw [e]; exact Option.some_ne_none _
 | ins c fs => obtain ⟨Ca, dx, vs, _, e, _⟩ := h; rw [e]; exact Option.some_ne_none _
 | dX ds => obtain ⟨od, xs, e, _⟩ := h; rw [e]; exact Option.some_ne_none _
 | fQ ds => obtain ⟨od, xs, e, _⟩ := h; rw [e]; exact Option.some_ne_none _
theorem bG.pH {a : Addr} {so : SO} (h : bG C H P β a so) : ∀ xs, ¬ Rd H a (.tup xs) := by
 intro xs r
 cases so with
 | lst ds => obtain ⟨xs, e, _⟩ := h; rcases r with r | ⟨o, r⟩ <;> (rw [e] at r; cases r)
 | dct ds => obtain ⟨xs, e, _⟩ := h; rcases r with r | ⟨o, r⟩ <;> (rw [e] at r; cases r)
 | ins c fs => obtain ⟨Ca, dx, vs, _, e, _⟩ := h; rcases r with r | ⟨o, r⟩ <;> (rw [e] at r; cases r)
 | dX ds => obtain ⟨od, xs, e, _⟩ := h; rcases r with r | ⟨o, r⟩ <;> (rw [e] at r; cases r)
 | fQ ds => obtain ⟨od, xs, e, _⟩ := h; rcases r with r | ⟨o, r⟩ <;> (rw [e] at r; cases r)
theorem cP.BW {a : Addr} {d : D} (h : cP C H P β a d) : H a ≠ none := by
 cases d <;> first | exact h.elim | (obtain ⟨xs, e, _⟩ := h; rw [e]; exact Option.some_ne_none _)
theorem cP.pH {a : Addr} {d : D} (h : cP C H P β a d) : ∀ xs, ¬ Rd H a (.tup xs) := by
 intro xs r
 cases d <;> first | exact h.elim | (obtain ⟨xs, e, _⟩ := h; rcases r with r | ⟨o, r⟩ <;> (rw [e] at r; cases r))
theorem cP.mono {a : Addr} {d : D} (h : cP C H P β a d) (e : Ext H β H' β') (hn : a ∉ β) : cP C H' P β' a d := by
 cases d <;> first | exact h.elim | skip
 ·obtain ⟨xs, q, r⟩ := h; exact ⟨xs, e.keep _ _ q hn, r.mono e⟩
 ·obtain ⟨xs, q, r⟩ := h; exact ⟨xs, e.keep _ _ q hn, r.mono e⟩
theorem cP.less {a : Addr} {d : D} (h : cP C H P β a d) (e : ∀ a, P' a → P a) : cP C H P' β a d := by
 cases d <;> first | exact h.elim | skip
 ·obtain ⟨xs, q, r⟩ := h; exact ⟨xs, q, r.less e⟩
 ·obtain ⟨xs, q, r⟩ := h; exact ⟨xs, q, r.less e⟩
theorem cP.more {a p : Addr} {d : D} (h : cP C H P β a d) (hp : H p = none) : cP C H (fun b => P b ∨ b = p) β a d := by
 cases d <;> first | exact h.elim | skip
 ·obtain ⟨xs, q, r⟩ := h; exact ⟨xs, q, r.more hp⟩
 ·obtain ⟨xs, q, r⟩ := h; exact ⟨xs, q, r.more hp⟩
theorem cP.set {a p : Addr} {o : HO} {d : D} (h : cP C H P β a d) (hp : P p ∨ p ∈ β) (ht : ∀ xs, ¬ Rd H p (.tup xs)) (ne : a ≠ p) : cP C (upd H p o) P β a d := by
 cases d <;> first | exact h.elim | skip
 ·obtain ⟨xs, q, r⟩ := h; exact ⟨xs, by rw [upd_ne ne]; exact q, r.set hp ht⟩
 ·obtain ⟨xs, q, r⟩ := h; exact ⟨xs, by rw [upd_ne ne]; exact q, r.set hp ht⟩
theorem bG.less {a : Addr} {so : SO} (h : bG C H P β a so) (e : ∀ a, P' a → P a) : bG C H P' β a so := by
 cases so with
 | lst ds => obtain ⟨xs, q, r⟩ := h; exact ⟨xs, q, r.less e⟩
 | dct ds => obtain ⟨xs, q, r⟩ := h; exact ⟨xs, q, r.less e⟩
 | ins c fs => obtain ⟨Ca, dx, vs, m, q, n, r⟩ := h; exact ⟨Ca, dx, vs, m, q, n, r.less e⟩
 | dX ds => obtain ⟨od, xs, q, r⟩ := h; exact ⟨od, xs, q, r.less e⟩
 | fQ ds => obtain ⟨od, xs, q, r⟩ := h; exact ⟨od, xs, q, r.less e⟩
theorem bG.more {a p : Addr} {so : SO} (h : bG C H P β a so) (hp : H p = none) : bG C H (fun b => P b ∨ b = p) β a so := by
 cases so with
 | lst ds => obtain ⟨xs, q, r⟩ := h; exact ⟨xs, q, r.more hp⟩
 | dct ds => obtain ⟨xs, q, r⟩ := h; exact ⟨xs, q, r.more hp⟩
 | ins c fs => obtain ⟨Ca, dx, vs, m, q, n, r⟩ := h; exact ⟨Ca, dx, vs, m, q, n, r.more hp⟩
 | dX ds => obtain ⟨od, xs, q, r⟩ := h; exact ⟨od, xs, q, r.more hp⟩
 | fQ ds => obtain ⟨od, xs, q, r⟩ := h; exact ⟨od, xs, q, r.more hp⟩
theorem bG.laid {a p : Addr} {o : HO} {so : SO} (h : bG C H P β a so) (hp : H p = none) : bG C (upd H p o) P β a so := by
 have ne : a ≠ p := fun e => h.BW (by rw [e]; exact hp)
 have x : Ext H β (upd H p o) β := Ext.laid hp
 cases so with
 | lst ds => obtain ⟨xs, q, r⟩ := h; exact ⟨xs, by rw [upd_ne ne]; exact q, r.mono x⟩
 | dct ds => obtain ⟨xs, q, r⟩ := h; exact ⟨xs, by rw [upd_ne ne]; exact q, r.mono x⟩
 | ins c fs => obtain ⟨Ca, dx, vs, m, q, n, r⟩ := h; exact ⟨Ca, dx, vs, m, by rw [upd_ne ne]; exact q, n, r.mono x⟩
 | dX ds => obtain ⟨od, xs, q, r⟩ := h; exact ⟨od, xs, by rw [upd_ne ne]; exact q, r.mono x⟩
 | fQ ds => obtain ⟨od, xs, q, r⟩ := h; exact ⟨od, xs, by rw [upd_ne ne]; exact q, r.mono x⟩
theorem bG.set {a p : Addr} {o : HO} {so : SO} (h : bG C H P β a so) (hp : P p ∨ p ∈ β) (ht : ∀ xs, ¬ Rd H p (.tup xs)) (ne : a ≠ p) : bG C (upd H p o) P β a so := by
 cases so with
 | lst ds => obtain ⟨xs, q, r⟩ := h; exact ⟨xs, by rw [upd_ne ne]; exact q, r.set hp ht⟩
 | dct ds => obtain ⟨xs, q, r⟩ := h; exact ⟨xs, by rw [upd_ne ne]; exact q, r.set hp ht⟩
 | ins c fs => obtain ⟨Ca, dx, vs, m, q, n, r⟩ := h; exact ⟨Ca, dx, vs, m, by rw [upd_ne ne]; exact q, n, r.set hp ht⟩
 | dX ds => obtain ⟨od, xs, q, r⟩ := h; exact ⟨od, xs, by rw [upd_ne ne]; exact q, r.set hp ht⟩
 | fQ ds => obtain ⟨od, xs, q, r⟩ := h; exact ⟨od, xs, by rw [upd_ne ne]; exact q, r.set hp ht⟩
theorem bG.box {a p : Addr} {so : SO} (h : bG C H P β a so) (hp : ¬ P p → H p = none ∨ P p) (hn : ∀ u, ¬ Rd H p u) : bG C H P (β ++ [p]) a so := by
 cases so with
 | lst ds => obtain ⟨xs, q, r⟩ := h; exact ⟨xs, q, r.box hp hn⟩
 | dct ds => obtain ⟨xs, q, r⟩ := h; exact ⟨xs, q, r.box hp hn⟩
 | ins c fs => obtain ⟨Ca, dx, vs, m, q, n, r⟩ := h; exact ⟨Ca, dx, vs, m, q, n, r.box hp hn⟩
 | dX ds => obtain ⟨od, xs, q, r⟩ := h; exact ⟨od, xs, q, r.box hp hn⟩
 | fQ ds => obtain ⟨od, xs, q, r⟩ := h; exact ⟨od, xs, q, r.box hp hn⟩
theorem aP.less (h : aP C H P β S) (e : ∀ a, P' a → P a) : aP C H P' β S := ⟨h.len, h.nd, fun n a so h1 h2 => (h.ok n a so h1 h2).less e⟩
theorem aP.more {p : Addr} (h : aP C H P β S) (hp : H p = none) : aP C H (fun b => P b ∨ b = p) β S := ⟨h.len, h.nd, fun n a so h1 h2 => (h.ok n a so h1 h2).more hp⟩
theorem aP.laid {p : Addr} {o : HO} (h : aP C H P β S) (hp : H p = none) : aP C (upd H p o) P β S := ⟨h.len, h.nd, fun n a so h1 h2 => (h.ok n a so h1 h2).laid hp⟩
theorem aP.at (h : aP C H P β S) {n : Nat} {so : SO} (e : S[n]? = some so) : ∃ a, β[n]? = some a ∧ bG C H P β a so := by
 have hl : n < β.length := by rw [h.len]; exact (List.getElem?_eq_some_iff.mp e).1
 exact ⟨β[n], List.getElem?_eq_getElem hl, h.ok n _ so (List.getElem?_eq_getElem hl) e⟩
theorem aP.of (h : aP C H P β S) {n : Nat} {a : Addr} (e : β[n]? = some a) : ∃ so, S[n]? = some so ∧ bG C H P β a so := by
 have hl : n < S.length := by rw [← h.len]; exact (List.getElem?_eq_some_iff.mp e).1
 exact ⟨S[n], List.getElem?_eq_getElem hl, h.ok n _ _ e (List.getElem?_eq_getElem hl)⟩
theorem aP.mem (h : aP C H P β S) {a : Addr} (m : a ∈ β) : H a ≠ none := by
 obtain ⟨n, hn⟩ := List.getElem?_of_mem m
 obtain ⟨so, _, q⟩ := h.of hn
 exact q.BW
theorem aP.pH (h : aP C H P β S) {a : Addr} (m : a ∈ β) : ∀ xs, ¬ Rd H a (.tup xs) := by
 obtain ⟨n, hn⟩ := List.getElem?_of_mem m
 obtain ⟨so, _, q⟩ := h.of hn
 exact q.pH
theorem Xf {l : List Addr} (h : l.Nodup) {i j : Nat} {a : Addr} (h1 : l[i]? = some a) (h2 : l[j]? = some a) : i = j := by
 obtain ⟨h1, e1⟩ := List.getElem?_eq_some_iff.mp h1
 obtain ⟨h2, e2⟩ := List.getElem?_eq_some_iff.mp h2
 exact (List.getElem_inj h).mp (e1.trans e2.symm)
/-- a thing of the store is changed -/
theorem aP.set {n : Nat} {a : Addr} {o : HO} {so : SO} (h : aP C H P β S) (e : β[n]? = some a) (new : bG C (upd H a o) P β a so) : aP C (upd H a o) P β (S.set n so) := by
 have m : a ∈ β := List.mem_of_getElem? e
 refine ⟨by rw [List.length_set]; exact h.len, h.nd, fun k b sb h1 h2 => ?_⟩
 by_cases hk : n = k
 ·subst hk
  rw [e] at h1; cases h1
  rw [List.getElem?_set_self (by rw [← h.len]; exact (List.getElem?_eq_some_iff.mp e).1)] at h2
  cases h2
  exact new
 ·rw [List.getElem?_set_ne hk] at h2
  exact (h.ok k b sb h1 h2).set (.inr m) (h.pH m) fun z => hk (Xf h.nd e (z ▸ h1))
/-- a container bR is kept apart is changed -/
theorem aP.own {p : Addr} {o : HO} (h : aP C H P β S) (hp : P p) (hn : p ∉ β) (ht : ∀ xs, ¬ Rd H p (.tup xs)) : aP C (upd H p o) P β S :=
 ⟨h.len, h.nd, fun n a so h1 h2 => (h.ok n a so h1 h2).set (.inl hp) ht fun z => hn (z ▸ List.mem_of_getElem? h1)⟩
/-- a new thing of the store -/
theorem aP.box {p : Addr} {o : HO} {so : SO} (h : aP C H P β S) (hp : H p = none) (hpP : ¬ P p) (new : bG C (upd H p o) P (β ++ [p]) p so) : aP C (upd H p o) P (β ++ [p]) (S ++ [so]) := by
 have nb : p ∉ β := fun m => h.mem m hp
 refine ⟨by simp [h.len], ?_, fun n a sb h1 h2 => ?_⟩
 ·rw [List.nodup_append]
  exact ⟨h.nd, by simp, fun x hx y hy => by rw [List.mem_singleton.mp hy]; exact fun z => nb (z ▸ hx)⟩
 ·by_cases hn : n < β.length
  ·rw [List.getElem?_append_left hn] at h1
   rw [List.getElem?_append_left (by rw [← h.len]; exact hn)] at h2
   have q := h.ok n a sb h1 h2
   have ne : a ≠ p := fun e => q.BW (by rw [e]; exact hp)
   have rn : ∀ u, ¬ Rd H p u := fun u r => tM r hp
   have q2 := q.box (p := p) (fun _ => .inl hp) rn
   have x : Ext H (β ++ [p]) (upd H p o) (β ++ [p]) := Ext.laid hp
   cases sb with
   | lst ds => obtain ⟨xs, q, r⟩ := q2; exact ⟨xs, by rw [upd_ne ne]; exact q, r.mono x⟩
   | dct ds => obtain ⟨xs, q, r⟩ := q2; exact ⟨xs, by rw [upd_ne ne]; exact q, r.mono x⟩
   | ins c fs => obtain ⟨Ca, dx, vs, m, q, n, r⟩ := q2; exact ⟨Ca, dx, vs, m, by rw [upd_ne ne]; exact q, n, r.mono x⟩
   | dX ds => obtain ⟨od, xs, q, r⟩ := q2; exact ⟨od, xs, by rw [upd_ne ne]; exact q, r.mono x⟩
   | fQ ds => obtain ⟨od, xs, q, r⟩ := q2; exact ⟨od, xs, by rw [upd_ne ne]; exact q, r.mono x⟩
  ·have hl : n = β.length := by
    have := (List.getElem?_eq_some_iff.mp h1).1
    simp at this; omega
   subst hl
   rw [List.getElem?_append_right (Nat.le_refl _)] at h1
   rw [h.len, List.getElem?_append_right (Nat.le_refl _)] at h2
   simp at h1 h2
   subst h1; subst h2
   exact new
theorem Ext.boxed {p : Addr} {o : HO} (hp : H p = none) : Ext H β (upd H p o) (β ++ [p]) where
 pre := ⟨[p], rfl⟩
 keep := fun a u h _ => by rw [upd_ne (ne_of_none h hp)]; exact h
 fresh := fun a h => by
  rcases List.mem_append.mp h with h | h
  ·exact .inl h
  ·rw [List.mem_singleton.mp h]; exact .inr hp
 tups := (Ext.laid (β := β) hp).tups
 stay := (Ext.laid (β := β) hp).stay
 dY := (Ext.laid (β := β) hp).dY
/-- the vm thing at a changes -/
theorem Ext.wrote {a : Addr} {o : HO} (m : a ∈ β) (ht : ∀ xs, ¬ Rd H a (.tup xs)) (hf : ∀ o u, H a ≠ some (.frz o u)) : Ext H β (upd H a o) β where
 pre := ⟨[], (List.append_nil β).symm⟩
 keep := fun b u h hn => by rw [upd_ne (fun z => hn (by rw [z]; exact m))]; exact h
 fresh := fun _ h => .inl h
 tups := fun b xs h => by
  have ne : b ≠ a := fun z => ht xs (z ▸ h)
  unfold Rd; rw [upd_ne ne]; exact h
 stay := fun b h => by
  by_cases e : b = a
  ·rw [e, upd_same]; exact Option.some_ne_none _
  ·rw [upd_ne e]; exact h
 dY := fun b o u h => by rw [upd_ne (fun z => hf o u (by rw [← z]; exact h))]; exact h
/-- behind an expression -/
theorem LR.step (L : LR C cf oa P σ H β ρ S) (e : Ext H β H' β') (s : aP C H' P β' S') : LR C cf oa P σ H' β' ρ S' where
 len := L.len
 p := fun a h => ⟨e.stay _ (L.p a h).1, e.out (L.p a h).2 (L.p a h).1⟩
 sub := L.sub
 p0 := L.p0
 ext := L.ext.step e
 own := L.own
 inj := L.inj
 st := s
 slot := fun i d h => let ⟨v, h1, h2⟩ := L.slot i d h; ⟨v, h1, h2.mono e⟩
 bV := fun i d h => let ⟨a, h1, h2, h3⟩ := L.bV i d h; ⟨a, h1, h2, h3.mono e (L.p a (L.own i a h1).1).2⟩
 xslot := fun i x h => let ⟨a, h1, h2⟩ := L.xslot i x h; ⟨a, h1, h2.mono e⟩
theorem LR.laid {p : Addr} {o : HO} (L : LR C cf oa P σ H β ρ S) (hp : H p = none) : LR C cf oa P σ (upd H p o) β ρ S := L.step (Ext.laid hp) (L.st.laid hp)
theorem LR.zW {p : Addr} (L : LR C cf oa P σ H β ρ S) (hp : H p = none) : ¬ P p := fun z => (L.p p z).1 hp
theorem LR.pJ {p : Addr} (L : LR C cf oa P σ H β ρ S) (hp : H p = none) : p ∉ β := fun z => L.st.mem z hp
/-- fewer places kept apart, the owned ones and the b1P still -/
theorem LR.less (L : LR C cf oa P σ H β ρ S) (e : ∀ a, P' a → P a) (h1 : ∀ a, cf.P0 a → P' a) (h2 : ∀ i a, oa i = some a → P' a) : LR C cf oa P' σ H β ρ S where
 len := L.len
 p := fun a h => L.p a (e a h)
 sub := h1
 p0 := L.p0
 ext := L.ext
 own := fun i a h => ⟨h2 i a h, (L.own i a h).2⟩
 inj := L.inj
 st := L.st.less e
 slot := fun i d h => let ⟨v, q1, q2⟩ := L.slot i d h; ⟨v, q1, q2.less e⟩
 bV := fun i d h => let ⟨a, q1, q2, q3⟩ := L.bV i d h; ⟨a, q1, q2, q3.less e⟩
 xslot := fun i x h => let ⟨a, h1, h2⟩ := L.xslot i x h; ⟨a, h1, h2.less e⟩
/-- a new container kept apart -/
theorem LR.M7 {p : Addr} {o : HO} (L : LR C cf oa P σ H β ρ S) (hp : H p = none) : LR C cf oa (fun b => P b ∨ b = p) σ (upd H p o) β ρ S where
 len := L.len
 p := fun a h => by
  rcases h with h | rfl
  ·exact (L.laid hp).p a h
  ·exact ⟨by rw [upd_same]; exact Option.some_ne_none _, L.pJ hp⟩
 sub := fun a h => .inl (L.sub a h)
 p0 := L.p0
 ext := (L.laid (o := o) hp).ext
 own := fun i a h => ⟨.inl (L.own i a h).1, (L.own i a h).2⟩
 inj := L.inj
 st := ⟨L.st.len, L.st.nd, fun n a so h1 h2 => by
  have q := (L.st.ok n a so h1 h2).more hp
  exact q.laid hp⟩
 slot := fun i d h => let ⟨v, q1, q2⟩ := L.slot i d h; ⟨v, q1, (q2.more hp).mono (Ext.laid hp)⟩
 bV := fun i d h => let ⟨a, q1, q2, q3⟩ := L.bV i d h; ⟨a, q1, q2, (q3.more hp).mono (Ext.laid hp) (L.p a (L.own i a q1).1).2⟩
 xslot := fun i x h => let ⟨a, h1, h2⟩ := L.xslot i x h; ⟨a, h1, (h2.more hp).mono (Ext.laid hp)⟩
end
def mD (C : Ct) (H : Hp) (P : Addr → Prop) (β : List Addr) (cls : Value) (d : Option Addr) (e : bD) : Prop :=
 ∃ Ca dd vs, C.mg e.cls = some (.ref Ca) ∧ cls = .ref Ca ∧ d = some dd ∧ H dd = some (.xd vs) ∧ dd ∉ β ∧ ¬ P dd ∧ ∀ f x, e.fs.lookup f = some x → ∃ v, vs.lookup f = some v ∧ RV C H P β v x
/-- all bR is tracked stays -/
theorem Ext.same {H H' : Hp} {β : List Addr} (e : Same H H') : Ext H β H' β where
 pre := ⟨[], (List.append_nil β).symm⟩
 keep := fun a o h _ => e a o h
 fresh := fun _ h => .inl h
 tups := fun a xs h => h.elim (fun h => .inl (e _ _ h)) fun ⟨o, h⟩ => .inr ⟨o, e _ _ h⟩
 stay := fun a h => by
  cases z : H a with
  | none => exact absurd z h
  | some o => rw [e a o z]; exact Option.some_ne_none _
 dY := fun a o u h => e _ _ h
theorem bG.same {C : Ct} {H H' : Hp} {P : Addr → Prop} {β : List Addr} {a : Addr} {so : SO} (h : bG C H P β a so) (e : Same H H') : bG C H' P β a so := by
 cases so with
 | lst ds => obtain ⟨xs, q, r⟩ := h; exact ⟨xs, e _ _ q, r.mono (Ext.same e)⟩
 | dct ds => obtain ⟨xs, q, r⟩ := h; exact ⟨xs, e _ _ q, r.mono (Ext.same e)⟩
 | ins c fs => obtain ⟨Ca, dx, vs, m, q, n, r⟩ := h; exact ⟨Ca, dx, vs, m, e _ _ q, n, r.mono (Ext.same e)⟩
 | dX ds => obtain ⟨od, xs, q, r⟩ := h; exact ⟨od, xs, e _ _ q, r.mono (Ext.same e)⟩
 | fQ ds => obtain ⟨od, xs, q, r⟩ := h; exact ⟨od, xs, e _ _ q, r.mono (Ext.same e)⟩
theorem aP.same {C : Ct} {H H' : Hp} {P : Addr → Prop} {β : List Addr} {S : Store} (h : aP C H P β S) (e : Same H H') : aP C H' P β S := ⟨h.len, h.nd, fun n a so h1 h2 => (h.ok n a so h1 h2).same e⟩
theorem LR.same {C : Ct} {cf : Cf} {oa : Nat → Option Addr} {P : Addr → Prop} {σ : St} {H H' : Hp} {β : List Addr} {ρ : aF} {S : Store} (L : LR C cf oa P σ H β ρ S) (e : Same H H') : LR C cf oa P σ H' β ρ S := L.step (Ext.same e) (L.st.same e)
theorem g8 {H : Hp} {p : Addr} {o : HO} (hp : H p = none) : Same H (upd H p o) := fun a u h => by rw [upd_ne (ne_of_none h hp)]; exact h
/-- from ahead of an expression to behind it. b: it is read only (a M8 of the slots' own M6 is allowed) -/
structure Tr (b : Bool) (H : Hp) (β : List Addr) (S : Store) (H' : Hp) (β' : List Addr) (S' : Store) : Prop where
 ext : Ext H β H' β'
 ro : b = true → Same H H' ∧ β' = β ∧ S' = S
theorem Tr.refl {b : Bool} {H : Hp} {β : List Addr} {S : Store} : Tr b H β S H β S := ⟨Ext.refl _ _, fun _ => ⟨Same.refl _, rfl, rfl⟩⟩
theorem Tr.trans {b : Bool} {H H1 H2 : Hp} {β β1 β2 : List Addr} {S S1 S2 : Store} (x : Tr b H β S H1 β1 S1) (y : Tr b H1 β1 S1 H2 β2 S2) : Tr b H β S H2 β2 S2 :=
 ⟨x.ext.trans y.ext, fun e => let ⟨a1, a2, a3⟩ := x.ro e; let ⟨b1, b2, b3⟩ := y.ro e; ⟨a1.trans b1, b2.trans a2, b3.trans a3⟩⟩
theorem Tr.same {b : Bool} {H H' : Hp} {β : List Addr} {S : Store} (e : Same H H') : Tr b H β S H' β S := ⟨Ext.same e, fun _ => ⟨e, rfl, rfl⟩⟩
structure Fx (H : Hp) (P : Addr → Prop) (β : List Addr) (H' : Hp) (P' : Addr → Prop) (β' : List Addr) : Prop where
 pre : ∃ γ, β' = β ++ γ
 con : ∀ a u, ¬ P a → a ∉ β → Rd H a u → Rd H' a u ∧ ¬ P' a ∧ a ∉ β'
 fz : ∀ a o u, H a = some (.frz o u) → H' a = some (.frz o u)
 tups : ∀ a xs, Rd H a (.tup xs) → Rd H' a (.tup xs)
section
variable {C : Ct} {H H1 H2 H' : Hp} {P P1 P2 P' : Addr → Prop} {β β1 β2 β' : List Addr}
theorem Fx.refl : Fx H P β H P β := ⟨⟨[], (List.append_nil β).symm⟩, fun _ _ h1 h2 r => ⟨r, h1, h2⟩, fun _ _ _ h => h, fun _ _ h => h⟩
theorem Fx.trans (a : Fx H P β H1 P1 β1) (b : Fx H1 P1 β1 H2 P2 β2) : Fx H P β H2 P2 β2 where
 pre := by
  obtain ⟨γ, r⟩ := a.pre
  obtain ⟨γ', r'⟩ := b.pre
  exact ⟨γ ++ γ', by rw [r', r, List.append_assoc]⟩
 con := fun c u h1 h2 r => let ⟨r1, q1, q2⟩ := a.con c u h1 h2 r; b.con c u q1 q2 r1
 fz := fun c o u r => b.fz c o u (a.fz c o u r)
 tups := fun c xs h => b.tups c xs (a.tups c xs h)
theorem Fx.of (e : Ext H β H' β') : Fx H P β H' P β' := ⟨e.pre, fun a u h1 h2 r => ⟨e.rd h2 r, h1, e.out h2 (tM r)⟩, e.dY, e.tups⟩
/-- a place bR was free is kept apart as well -/
theorem Fx.more (e : Ext H β H' β') {p : Addr} (hp : H p = none) : Fx H P β H' (fun b => P b ∨ b = p) β' :=
 ⟨e.pre, fun a u h1 h2 r => ⟨e.rd h2 r, fun z => z.elim h1 fun q => tM r (by rw [q]; exact hp), e.out h2 (tM r)⟩, e.dY, e.tups⟩
theorem Fx.less (h : ∀ a, P' a → P a) : Fx H P β H P' β := ⟨⟨[], (List.append_nil β).symm⟩, fun a u h1 h2 r => ⟨r, fun z => h1 (h a z), h2⟩, fun _ _ _ h => h, fun _ _ h => h⟩
/-- a container bR is kept apart changes -/
theorem Fx.own {p : Addr} {o : HO} (hp : P p) (ht : ∀ xs, ¬ Rd H p (.tup xs)) (hf : ∀ o u, H p ≠ some (.frz o u)) : Fx H P β (upd H p o) P β := by
 refine ⟨⟨[], (List.append_nil β).symm⟩, fun a u h1 h2 r => ⟨?_, h1, h2⟩, fun a o u r => ?_, fun a xs r => ?_⟩
 ·have ne : a ≠ p := fun e => h1 (e ▸ hp)
  unfold Rd; rw [upd_ne ne]; exact r
 ·have ne : a ≠ p := fun e => hf o u (by rw [← e]; exact r)
  rw [upd_ne ne]; exact r
 ·have ne : a ≠ p := fun e => ht xs (e ▸ r)
  unfold Rd; rw [upd_ne ne]; exact r
theorem Fx.get (e : Fx H P β H' P' β') {n : Nat} {a : Addr} (h : β[n]? = some a) : β'[n]? = some a := by
 obtain ⟨γ, r⟩ := e.pre
 rw [r, List.getElem?_append_left (List.getElem?_eq_some_iff.mp h).1]; exact h
mutual
theorem RV.fx (e : Fx H P β H' P' β') : ∀ {v : V} {d : D}, RV C H P β v d → RV C H' P' β' v d
 | _, _, .non => .non
 | _, _, .bl b => .bl b
 | _, _, .int i => .int i
 | _, _, .str x => .str x
 | _, _, .ty n => .ty n
 | _, _, .lst hp hb hr h => let ⟨r, q1, q2⟩ := e.con _ _ hp hb hr; .lst q1 q2 r (aA.fx e h)
 | _, _, .tup hr h => .tup (e.tups _ _ hr) (aA.fx e h)
 | _, _, .eV k h => .eV k (aA.fx e h)
 | _, _, .fK k h => .fK k (aA.fx e h)
 | _, _, .dct hp hb hr h => let ⟨_, q1, q2⟩ := e.con _ _ hp hb hr.rd; .dct q1 q2 (let ⟨o, q⟩ := hr; ⟨o, e.fz _ _ _ q⟩) (aG.fx e h)
 | _, _, .ref h => .ref (e.get h)
 | _, _, .fn h k => .fn h k
theorem aA.fx (e : Fx H P β H' P' β') : ∀ {vs : List V} {ds : List D}, aA C H P β vs ds → aA C H' P' β' vs ds
 | _, _, .nil => .nil
 | _, _, .cons h t => .cons (RV.fx e h) (aA.fx e t)
theorem aG.fx (e : Fx H P β H' P' β') : ∀ {vs : List (Key × V)} {ds : List (Key × D)}, aG C H P β vs ds → aG C H' P' β' vs ds
 | _, _, .nil => .nil
 | _, _, .cons h t => .cons (RV.fx e h) (aG.fx e t)
end
end
/-- what is kept of the frozen things and the vm places -/
structure Fs (H : Hp) (β : List Addr) (H' : Hp) (β' : List Addr) : Prop where
 pre : ∃ γ, β' = β ++ γ
 fz : ∀ a o u, H a = some (.frz o u) → H' a = some (.frz o u)
theorem Fs.refl {H : Hp} {β : List Addr} : Fs H β H β := ⟨⟨[], (List.append_nil β).symm⟩, fun _ _ _ h => h⟩
theorem Fx.fs {H H' : Hp} {P P' : Addr → Prop} {β β' : List Addr} (f : Fx H P β H' P' β') : Fs H β H' β' := ⟨f.pre, f.fz⟩
theorem Ext.fs {H H' : Hp} {β β' : List Addr} (f : Ext H β H' β') : Fs H β H' β' := ⟨f.pre, f.dY⟩
theorem Fs.trans {H H1 H2 : Hp} {β β1 β2 : List Addr} (a : Fs H β H1 β1) (b : Fs H1 β1 H2 β2) : Fs H β H2 β2 where
 pre := by
  obtain ⟨γ, r⟩ := a.pre
  obtain ⟨γ', r'⟩ := b.pre
  exact ⟨γ ++ γ', by rw [r', r, List.append_assoc]⟩
 fz := fun c o u r => b.fz c o u (a.fz c o u r)
/-- what an exception must find -/
abbrev XP (C : Ct) (W : WX) (cf : Cf) (oa : Nat → Option Addr) (P : Addr → Prop) (σ : St) (b : Bool) (H : Hp) (β : List Addr) (ρ : aF) (S : Store) (e : bD) (S' : Store) : Prop :=
 ∀ cls x H' β', Tr b H β S H' β' S' → LR C cf oa P σ H' β' ρ S' → mD C H' P β' cls x e → W cls x σ H'
/-- the reading of an expression with the tree-value m -/
def EM (C : Ct) (W : WX) (b : Bool) (m : EX) : TE := fun σ H Q => ∃ cf oa P β ρ S, LR C cf oa P σ H β ρ S ∧ (match m ρ S with
 | .ok d S' => ∀ v H' β', Tr b H β S H' β' S' → LR C cf oa P σ H' β' ρ S' → RV C H' P β' v d → Q v H'
 | .exc e S' => XP C W cf oa P σ b H β ρ S e S'
 | .stuck => False)
/-- .. bR makes a new container -/
def EO (C : Ct) (W : WX) (b : Bool) (m : EX) : TE := fun σ H Q => ∃ cf oa P β ρ S, LR C cf oa P σ H β ρ S ∧ (match m ρ S with
 | .ok d S' => ∀ a H' β', Tr b H β S H' β' S' → H a = none → LR C cf oa (fun b => P b ∨ b = a) σ H' β' ρ S' → cP C H' (fun c => P c ∨ c = a) β' a d → Q (.ref a) H'
 | .exc e S' => XP C W cf oa P σ b H β ρ S e S'
 | .stuck => False)
def AM (C : Ct) (W : WX) (b : Bool) (m : AX) : TA := fun σ H Q => ∃ cf oa P β ρ S, LR C cf oa P σ H β ρ S ∧ (match m ρ S with
 | .ok ds S' => ∀ vs H' β', Tr b H β S H' β' S' → LR C cf oa P σ H' β' ρ S' → aA C H' P β' vs ds → Q vs H'
 | .exc e S' => XP C W cf oa P σ b H β ρ S e S'
 | .stuck => False)
def BM (C : Ct) (W : WX) (b : Bool) (m : BX) : TT := fun σ H Q => ∃ cf oa P β ρ S, LR C cf oa P σ H β ρ S ∧ (match m ρ S with
 | .ok k S' => ∀ H' β', Tr b H β S H' β' S' → LR C cf oa P σ H' β' ρ S' → Q k H'
 | .exc e S' => XP C W cf oa P σ b H β ρ S e S'
 | .stuck => False)
/-- what is wanted of a Xg result, from a state bR H, P, β stand for -/
def SQ (C : Ct) (W : WX) (cf : Cf) (H : Hp) (P : Addr → Prop) (β : List Addr) (D : Ends) (r : SR) : Prop := match r with
 | .nx ρ' S' => ∀ σ' H' β' bf P', LR C cf bf P' σ' H' β' ρ' S' → Fx H P β H' P' β' → D.nx σ' H'
 | .bk ρ' S' => ∀ σ' H' β' bf P', LR C cf bf P' σ' H' β' ρ' S' → Fx H P β H' P' β' → D.bk σ' H'
 | .ct ρ' S' => ∀ σ' H' β' bf P', LR C cf bf P' σ' H' β' ρ' S' → Fx H P β H' P' β' → D.ct σ' H'
 | .rt d S' => ∀ v H' β', rE cf H' β' → Fs H β H' β' → aP C H' cf.P0 β' S' → RV C H' cf.P0 β' v d → D.rt v H'
 | .exc e ρ' S' => ∀ cls x σ' H' β' bf P', LR C cf bf P' σ' H' β' ρ' S' → Fx H P β H' P' β' → mD C H' P' β' cls x e → W cls x σ' H'
 | .stuck => False
theorem SQ.fx {C : Ct} {W : WX} {cf : Cf} {H H1 : Hp} {P P1 : Addr → Prop} {β β1 : List Addr} {D : Ends} {r : SR} (f1 : Fx H P β H1 P1 β1) (h : SQ C W cf H P β D r) : SQ C W cf H1 P1 β1 D r := by
 cases r with
 | nx ρ2 S2 => intro σ2 H2 β2 jh P2 L2 f2; exact h σ2 H2 β2 jh P2 L2 (f1.trans f2)
 | bk ρ2 S2 => intro σ2 H2 β2 jh P2 L2 f2; exact h σ2 H2 β2 jh P2 L2 (f1.trans f2)
 | ct ρ2 S2 => intro σ2 H2 β2 jh P2 L2 f2; exact h σ2 H2 β2 jh P2 L2 (f1.trans f2)
 | rt d S2 => intro v H2 β2 x f s r; exact h v H2 β2 x (f1.fs.trans f) s r
 | exc e ρ2 S2 => intro cls x σ2 H2 β2 jh P2 L2 f2 ex; exact h cls x σ2 H2 β2 jh P2 L2 (f1.trans f2) ex
 | stuck => exact h
def SM (C : Ct) (W : WX) (m : SX) : TS := fun D σ H => ∃ cf oa P β ρ S, LR C cf oa P σ H β ρ S ∧ SQ C W cf H P β D (m ρ S)
abbrev PM (C : Ct) (W : WX) (b : Bool) (X : Cx) (e : Expr) (m : EX) : Prop := PE X e (EM C W b m)
abbrev PN (C : Ct) (W : WX) (b : Bool) (X : Cx) (e : Expr) (m : EX) : Prop := PE X e (EO C W b m)
abbrev j6 (C : Ct) (W : WX) (b : Bool) (X : Cx) (es : List Expr) (m : AX) : Prop := PA X es (AM C W b m)
abbrev PB (C : Ct) (W : WX) (b : Bool) (X : Cx) (e : Expr) (m : BX) : Prop := PT X e (BM C W b m)
abbrev fL (C : Ct) (W : WX) (X : Cx) (s : Stmt) (m : SX) : Prop := PS X s (SM C W m)
abbrev jP (C : Ct) (W : WX) (X : Cx) (s : List Stmt) (m : SX) : Prop := PSs X s (SM C W m)
theorem bW {X : Cx} {e : Expr} {t t' : TE} (h : PE X e t) (i : ∀ σ H Q, t' σ H Q → t σ H Q) : PE X e t' := ⟨fun pins s σ H Q I hw => h.run pins s σ H Q I (i σ H Q hw)⟩
theorem vo {X : Cx} {e : Expr} {t t' : TT} (h : PT X e t) (i : ∀ σ H Q, t' σ H Q → t σ H Q) : PT X e t' := ⟨fun pins s σ H Q I hw => h.run pins s σ H Q I (i σ H Q hw)⟩
theorem M9 {X : Cx} {es : List Expr} {t t' : TA} (h : PA X es t) (i : ∀ σ H Q, t' σ H Q → t σ H Q) : PA X es t' := ⟨fun pos pins s σ H Q I hw => h.run pos pins s σ H Q I (i σ H Q hw)⟩
theorem jw {X : Cx} {s : Stmt} {t t' : TS} (h : PS X s t) (i : ∀ D σ H, t' D σ H → t D σ H) : PS X s t' := ⟨fun pins sh σ H D I hw => h.run pins sh σ H D I (i D σ H hw)⟩
theorem zX {X : Cx} {s : List Stmt} {t t' : TS} (h : PSs X s t) (i : ∀ D σ H, t' D σ H → t D σ H) : PSs X s t' := ⟨fun pins sh σ H D I hw => h.run pins sh σ H D I (i D σ H hw)⟩
end Mi
namespace Mi
open PySem PySem.Spec PyProof.Rows L2
abbrev aj (X : Cx) : Ct := ⟨X.K, X.mg, X.w, X.pn⟩
def mC (d : D) : EX := fun _ S => .ok d S
def ak (i : Nat) : EX := fun ρ S => match ρ[i]? with
 | some (Sl.sh d) => .ok d S
 | _ => .stuck
def R.opt {α : Type} (o : Option α) (S : Store) : R α := match o with
 | some z => .ok z S
 | none => .stuck
def aC (f : Store → D → D → Option D) (a b : EX) : EX := fun ρ S => (a ρ S).bind fun x S1 => (b ρ S1).bind fun y S2 => R.opt (f S2 x y) S2
def cW (f : Store → D → Option D) (a : EX) : EX := fun ρ S => (a ρ S).bind fun x S1 => R.opt (f S1 x) S1
def aq : AX := fun _ S => .ok [] S
def ao (a : EX) (r : AX) : AX := fun ρ S => (a ρ S).bind fun x S1 => (r ρ S1).bind fun xs S2 => .ok (x :: xs) S2
def aQ (f : Store → List D → Option D) (a : AX) : EX := fun ρ S => (a ρ S).bind fun xs S1 => R.opt (f S1 xs) S1
def dTup (xs : List D) : Option D := if xs.length ≤ sizeLine then some (.tup xs) else none
def BZ (xs : List D) : Option D := if xs.length ≤ sizeLine then some (.lst xs) else none
def bY (a : AX) : EX := fun ρ S => (a ρ S).bind fun xs S1 => R.opt (dTup xs) S1
def dZ (a : AX) : EX := fun ρ S => (a ρ S).bind fun xs S1 => R.opt (BZ xs) S1
def C4 : D → Option SO
 | .lst xs => some (.lst xs)
 | .dct kvs => some (.dct kvs)
 | _ => none
/-- a new container becomes a thing of the store -/
def xC (a : EX) : EX := fun ρ S => (a ρ S).bind fun x S1 => match C4 x with
 | some so => .ok (.ref S1.length) (S1 ++ [so])
 | none => .stuck
/-- no list or dict in it -/
def flat : D → Bool
 | .non | .bl _ | .int _ | .str _ | .ty _ | .fn _ | .ref _ => true
 | .tup _ | .lst _ | .dct _ => false
def lent (ρ : aF) : aF := ρ.map fun s => match s with
 | .ow (.lst xs) => .sh (.lst xs)
 | .ow _ => .un
 | s => s
/-- read on M8 (all slots' own M6): what comes is flat -/
def zY (a : EX) : EX := fun ρ S => match a (lent ρ) S with
 | .ok x S1 => if flat x = true then .ok x S1 else .stuck
 | _ => .stuck
/-- the same of a test -/
def A5 (a : BX) : BX := fun ρ S => match a (lent ρ) S with
 | .ok x S1 => .ok x S1
 | _ => .stuck
section
variable {X : Cx} {W : WX} {b : Bool}
/-- a state for an operation -/
structure At (C : Ct) (H : Hp) (Z : Addr → Prop) (β : List Addr) (S : Store) : Prop where
 st : aP C H Z β S
 dom : ∀ a, Z a → H a ≠ none
def cH (X : Cx) (r : R2) (f : Store → D → D → Option D) : Prop :=
 ∀ (Z : Addr → Prop) (H : Hp) (β : List Addr) (S : Store) (x y : V) (dx dy dz : D) (Q : VK), At (aj X) H Z β S → RV (aj X) H Z β x dx → RV (aj X) H Z β y dy → f S dx dy = some dz →
  (∀ v H', Same H H' → RV (aj X) H' Z β v dz → Q v H') → r x y H Q
def Ma (X : Cx) (r : R2) (f : Store → D → D → Option D) : Prop :=
 ∀ (Z : Addr → Prop) (H : Hp) (β : List Addr) (S : Store) (x y : V) (dx dy dz : D) (Q : VK), At (aj X) H Z β S → RV (aj X) H Z β x dx → RV (aj X) H Z β y dy → f S dx dy = some dz →
  (∀ a H', Same H H' → H a = none → cP (aj X) H' (fun c => Z c ∨ c = a) β a dz → Q (.ref a) H') → r x y H Q
def vp (X : Cx) (r : V → Hp → VK → Prop) (f : Store → D → Option D) : Prop :=
 ∀ (Z : Addr → Prop) (H : Hp) (β : List Addr) (S : Store) (x : V) (dx dz : D) (Q : VK), At (aj X) H Z β S → RV (aj X) H Z β x dx → f S dx = some dz →
  (∀ v H', Same H H' → RV (aj X) H' Z β v dz → Q v H') → r x H Q
def gj (X : Cx) (r : List V → Hp → VK → Prop) (f : Store → List D → Option D) : Prop :=
 ∀ (Z : Addr → Prop) (H : Hp) (β : List Addr) (S : Store) (xs : List V) (ds : List D) (dz : D) (Q : VK), At (aj X) H Z β S → aA (aj X) H Z β xs ds → f S ds = some dz →
  (∀ v H', Same H H' → RV (aj X) H' Z β v dz → Q v H') → r xs H Q
def FU (X : Cx) (r : List V → Hp → VK → Prop) (f : Store → List D → Option D) : Prop :=
 ∀ (Z : Addr → Prop) (H : Hp) (β : List Addr) (S : Store) (xs : List V) (ds : List D) (dz : D) (Q : VK), At (aj X) H Z β S → aA (aj X) H Z β xs ds → f S ds = some dz →
  (∀ a H', Same H H' → H a = none → cP (aj X) H' (fun c => Z c ∨ c = a) β a dz → Q (.ref a) H') → r xs H Q
theorem At.FW {C : Ct} {H : Hp} {Z : Addr → Prop} {β : List Addr} {S : Store} (A : At C H Z β S) {p : Addr} (hp : H p = none) : ¬ Z p := fun z => A.dom p z hp
theorem At.pJ {C : Ct} {H : Hp} {Z : Addr → Prop} {β : List Addr} {S : Store} (A : At C H Z β S) {p : Addr} (hp : H p = none) : p ∉ β := fun z => A.st.mem z hp
theorem LR.at {C : Ct} {cf : Cf} {oa : Nat → Option Addr} {P : Addr → Prop} {σ : L2.St} {H : Hp} {β : List Addr} {ρ : aF} {S : Store} (L : LR C cf oa P σ H β ρ S) : At C H P β S :=
 ⟨L.st, fun a h => (L.p a h).1⟩
def xD (d : D) : Prop := ∃ ds, d = .lst ds
/-- a new list, Xh to be new -/
theorem FY {C : Ct} {H : Hp} {P : Addr → Prop} {β : List Addr} {a : Addr} {d : D} (o : cP C H (fun b => P b ∨ b = a) β a d) (hp : ¬ P a) (hb : a ∉ β) (hl : xD d) : RV C H P β (.ref a) d := by
 obtain ⟨ds, rfl⟩ := hl
 obtain ⟨xs, q, r⟩ := o
 exact .lst hp hb (.inl q) (r.less fun _ h => .inl h)
theorem LR.forget {C : Ct} {cf : Cf} {oa : Nat → Option Addr} {P : Addr → Prop} {σ : L2.St} {H : Hp} {β : List Addr} {ρ : aF} {S : Store} {a : Addr} (L : LR C cf oa (fun b => P b ∨ b = a) σ H β ρ S) (h1 : ∀ a, cf.P0 a → P a) (h2 : ∀ i a, oa i = some a → P a) : LR C cf oa P σ H β ρ S :=
 L.less (fun _ h => .inl h) h1 h2
/-- a new container laid and kept apart -/
theorem LR.C5 {C : Ct} {cf : Cf} {oa : Nat → Option Addr} {P : Addr → Prop} {σ : L2.St} {H H' : Hp} {β : List Addr} {ρ : aF} {S : Store} {p : Addr} (L : LR C cf oa P σ H β ρ S) (e : Same H H') (hp : H p = none) (hp' : H' p ≠ none) : LR C cf oa (fun b => P b ∨ b = p) σ H' β ρ S where
 len := L.len
 p := fun a h => by
  rcases h with h | rfl
  ·exact (L.same e).p a h
  ·exact ⟨hp', L.pJ hp⟩
 sub := fun a h => .inl (L.sub a h)
 p0 := L.p0
 ext := (L.same e).ext
 own := fun i a h => ⟨.inl (L.own i a h).1, (L.own i a h).2⟩
 inj := L.inj
 st := (L.st.more hp).same e
 slot := fun i d h => let ⟨v, q1, q2⟩ := L.slot i d h; ⟨v, q1, (q2.more hp).mono (Ext.same e)⟩
 bV := fun i d h => let ⟨a, q1, q2, q3⟩ := L.bV i d h; ⟨a, q1, q2, (q3.more hp).mono (Ext.same e) (L.p a (L.own i a q1).1).2⟩
 xslot := fun i x h => let ⟨a, h1, h2⟩ := L.xslot i x h; ⟨a, h1, (h2.more hp).mono (Ext.same e)⟩
theorem cH.C6 {r : R2} {f : Store → D → D → Option D} (h : Ma X r f) (hl : ∀ S x y d, f S x y = some d → xD d) : cH X r f := by
 intro Z H β S x y dx dy dz Q A rx ry e k
 exact h Z H β S x y dx dy dz Q A rx ry e fun a H' E hn o => k _ H' E (FY o (A.FW hn) (A.pJ hn) (hl _ _ _ _ e))
theorem gj.C6 {r : List V → Hp → VK → Prop} {f : Store → List D → Option D} (h : FU X r f) (hl : ∀ S xs d, f S xs = some d → xD d) : gj X r f := by
 intro Z H β S xs ds dz Q A rx e k
 exact h Z H β S xs ds dz Q A rx e fun a H' E hn o => k _ H' E (FY o (A.FW hn) (A.pJ hn) (hl _ _ _ e))
theorem FZ {H H1 : Hp} {β β1 : List Addr} (e : Ext H β H1 β1) {a : Addr} (hn : H1 a = none) : H a = none := by
 cases z : H a with
 | none => rfl
 | some o => exact absurd hn (e.stay a (by rw [z]; exact Option.some_ne_none _))
theorem em2 {f : Store → D → D → Option D} {r : R2} {ma mb : EX} {σ : L2.St} {H : Hp} {Q : VK} (hm : cH X r f) (h : EM (aj X) W b (aC f ma mb) σ H Q) : tOp r (EM (aj X) W b ma) (EM (aj X) W b mb) σ H Q := by
 obtain ⟨cf, oa, P, β, ρ, S, L, h⟩ := h
 unfold aC at h
 refine ⟨cf, oa, P, β, ρ, S, L, ?_⟩
 cases ea : ma ρ S with
 | stuck => rw [ea] at h; exact h
 | exc e S1 => rw [ea] at h; exact h
 | ok dx S1 =>
  rw [ea] at h
  simp only [R.bind] at h
  intro x H1 β1 e1 L1 rx
  refine ⟨cf, oa, P, β1, ρ, S1, L1, ?_⟩
  cases eb : mb ρ S1 with
  | stuck => rw [eb] at h; exact h
  | exc e S2 =>
   rw [eb] at h
   intro cls d H' β' e2 L2 ex
   exact h cls d H' β' (e1.trans e2) L2 ex
  | ok dy S2 =>
   rw [eb] at h
   simp only [R.bind] at h
   intro y H2 β2 e2 L2 ry
   cases ef : f S2 dx dy with
   | none => rw [ef] at h; exact h.elim
   | some dz =>
    rw [ef] at h
    exact hm P H2 β2 S2 x y dx dy dz Q L2.at (rx.mono e2.ext) ry ef fun v H' e3 r3 => h v H' β2 (e1.trans (e2.trans (Tr.same e3))) (L2.same e3) r3
theorem A6 {f : Store → D → Option D} {r : V → Hp → VK → Prop} {ma : EX} {σ : L2.St} {H : Hp} {Q : VK} (hm : vp X r f) (h : EM (aj X) W b (cW f ma) σ H Q) : tUn r (EM (aj X) W b ma) σ H Q := by
 obtain ⟨cf, oa, P, β, ρ, S, L, h⟩ := h
 unfold cW at h
 refine ⟨cf, oa, P, β, ρ, S, L, ?_⟩
 cases ea : ma ρ S with
 | stuck => rw [ea] at h; exact h
 | exc e S1 => rw [ea] at h; exact h
 | ok dx S1 =>
  rw [ea] at h
  simp only [R.bind] at h
  intro x H1 β1 e1 L1 rx
  cases ef : f S1 dx with
  | none => rw [ef] at h; exact h.elim
  | some dz =>
   rw [ef] at h
   exact hm P H1 β1 S1 x dx dz Q L1.at rx ef fun v H' e3 r3 => h v H' β1 (e1.trans (Tr.same e3)) (L1.same e3) r3
theorem Mf {f : Store → List D → Option D} {r : List V → Hp → VK → Prop} {ma : AX} {σ : L2.St} {H : Hp} {Q : VK} (hm : gj X r f) (h : EM (aj X) W b (aQ f ma) σ H Q) : AM (aj X) W b ma σ H fun vs H1 => r vs H1 Q := by
 obtain ⟨cf, oa, P, β, ρ, S, L, h⟩ := h
 unfold aQ at h
 refine ⟨cf, oa, P, β, ρ, S, L, ?_⟩
 cases ea : ma ρ S with
 | stuck => rw [ea] at h; exact h
 | exc e S1 => rw [ea] at h; exact h
 | ok dx S1 =>
  rw [ea] at h
  simp only [R.bind] at h
  intro x H1 β1 e1 L1 rx
  cases ef : f S1 dx with
  | none => rw [ef] at h; exact h.elim
  | some dz =>
   rw [ef] at h
   exact hm P H1 β1 S1 x dx dz Q L1.at rx ef fun v H' e3 r3 => h v H' β1 (e1.trans (Tr.same e3)) (L1.same e3) r3
theorem C7 {a : EX} {r : AX} {σ : L2.St} {H : Hp} {Q : List V → Hp → Prop} (h : AM (aj X) W b (ao a r) σ H Q) : tCons (EM (aj X) W b a) (AM (aj X) W b r) σ H Q := by
 obtain ⟨cf, oa, P, β, ρ, S, L, h⟩ := h
 unfold ao at h
 refine ⟨cf, oa, P, β, ρ, S, L, ?_⟩
 cases ea : a ρ S with
 | stuck => rw [ea] at h; exact h
 | exc e S1 => rw [ea] at h; exact h
 | ok dx S1 =>
  rw [ea] at h
  simp only [R.bind] at h
  intro x H1 β1 e1 L1 rx
  refine ⟨cf, oa, P, β1, ρ, S1, L1, ?_⟩
  cases eb : r ρ S1 with
  | stuck => rw [eb] at h; exact h
  | exc e S2 =>
   rw [eb] at h
   intro cls d H' β' e2 L2 ex
   exact h cls d H' β' (e1.trans e2) L2 ex
  | ok ds S2 =>
   rw [eb] at h
   intro xs H2 β2 e2 L2 rs
   exact h _ H2 β2 (e1.trans e2) L2 (.cons (rx.mono e2.ext) rs)
theorem Xi {i : Nat} {x : Str} {pos : Pos} (h : PE X (.Name x pos) (tVar i)) : PM (aj X) W b X (.Name x pos) (ak i) := bW h fun σ H Q h => by
 obtain ⟨cf, oa, P, β, ρ, S, L, h⟩ := h
 unfold ak at h
 cases e : ρ[i]? with
 | none => rw [e] at h; exact h.elim
 | some sl =>
  rw [e] at h
  cases sl with
  | un => exact h.elim
  | ow d => exact h.elim
  | ex d => exact h.elim
  | sh d =>
   obtain ⟨v, e1, r⟩ := L.slot i d e
   exact ⟨v, e1, h v H β Tr.refl L r⟩
theorem vq {v : V} {d : D} (r : ∀ H P β, RV (aj X) H P β v d) {σ : L2.St} {H : Hp} {Q : VK} (h : EM (aj X) W b (mC d) σ H Q) : Q v H := by
 obtain ⟨cf, oa, P, β, ρ, S, L, h⟩ := h
 exact h v H β Tr.refl L (r _ _ _)
theorem aJ {i j pos} : PM (aj X) W b X (.Constant (.int i) j pos) (mC (.int i)) := bW pe_int fun σ H Q h => vq (fun _ _ _ => .int i) h
theorem pK {k j pos} : PM (aj X) W b X (.Constant (.bool k) j pos) (mC (.bl k)) := bW pe_bl fun σ H Q h => vq (fun _ _ _ => .bl k) h
theorem Mg {j pos} : PM (aj X) W b X (.Constant .none j pos) (mC .non) := bW pe_non fun σ H Q h => vq (fun _ _ _ => .non) h
theorem aO {x j pos} : PM (aj X) W b X (.Constant (.str x) j pos) (mC (.str x)) := bW pe_str fun σ H Q h => vq (fun _ _ _ => .str x) h
/-- a global of the module: d is what it holds -/
theorem rF {x : Str} {v : V} {u : Value} {d : D} {pos : Pos} (hm : X.mg x = some u) (r : RelV v u) (rd : ∀ H P β, RV (aj X) H P β v d) (hg : Gl X x := by rfl) (hd : (x == ("__debug__" : Str)) = false := by decide) : PM (aj X) W b X (.Name x pos) (mC d) :=
 bW (pe_glob hg hm r hd) fun σ H Q h => vq rd h
theorem ji {x : Str} {n : String} {pos : Pos} (hm : X.mg x = none) (hv : bootBuiltins x = some (.type n)) (hg : Gl X x := by rfl) (hn : x ≠ "__name__" := by decide) (hd : (x == ("__debug__" : Str)) = false := by decide) : PM (aj X) W b X (.Name x pos) (mC (.ty n)) :=
 bW (pe_bltn (v := .ty n) hg hm hv rfl hn hd) fun σ H Q h => vq (fun _ _ _ => .ty n) h
variable {a b' c e : Expr} {es : List Expr} {ma mb : EX} {dR : AX} {pos : Pos}
theorem fj {op : Operator} {r : R2} {f : Store → D → D → Option D} (ho : OpR X (binaryOp op) r) (hm : cH X r f) (ha : PM (aj X) W b X a ma) (hb : PM (aj X) W b X b' mb) : PM (aj X) W b X (.BinOp a op b' pos) (aC f ma mb) :=
 bW (pe_op ho ha hb) fun σ H Q h => em2 hm h
theorem j7 {op : CmpOp} {r : R2} {f : Store → D → D → Option D} (ho : OpR X (compareOp op) r) (hm : cH X r f) (ha : PM (aj X) W b X a ma) (hb : PM (aj X) W b X b' mb) (hk : behindInMarks op b' = false := by first | exact nobehind _ (by decide) (by decide) | rfl) :
  PM (aj X) W b X (.Compare a [op] [b'] pos) (aC f ma mb) := bW (pe_cmpR ho ha hb hk) fun σ H Q h => em2 hm h
theorem Mh {op : UnaryOp} {r : V → Hp → VK → Prop} {f : Store → D → Option D} (ho : UnR X (unaryOp op) r) (hm : vp X r f) (ha : PM (aj X) W b X a ma) : PM (aj X) W b X (.UnaryOp op a pos) (cW f ma) :=
 bW (pe_un ho ha) fun σ H Q h => A6 hm h
theorem CallR.or {f : Value} {r r' : List V → Hp → VK → Prop} (h : CallR X f r) (h' : CallR X f r') : CallR X f (fun xs H Q => r xs H Q ∨ r' xs H Q) := by
 intro pins s σ H xs us Q I rx q
 rcases q with q | q
 ·exact h pins s σ H xs us Q I rx q
 ·exact h' pins s σ H xs us Q I rx q
theorem aD : j6 (aj X) W b X [] aq := M9 pa_nil fun σ H Q h => by
 obtain ⟨cf, oa, P, β, ρ, S, L, h⟩ := h
 exact h [] H β Tr.refl L .nil
theorem au {r : AX} (ha : PM (aj X) W b X e ma) (hr : j6 (aj X) W b X es r) (hs : starEach (e :: es) X.env = (false, eval e X.env) :: starEach es X.env := by rfl) : j6 (aj X) W b X (e :: es) (ao ma r) :=
 M9 (pa_cons ha hr hs) fun σ H Q h => C7 h
theorem dM {k : Nat} (h : j6 (aj X) W b X es dR) : PM (aj X) W b X (.Tuple es k pos) (bY dR) := bW (pe_tup h) fun σ H Q h => by
 obtain ⟨cf, oa, P, β, ρ, S, L, h⟩ := h
 unfold bY at h
 refine ⟨cf, oa, P, β, ρ, S, L, ?_⟩
 cases ea : dR ρ S with
 | stuck => rw [ea] at h; exact h
 | exc e S1 => rw [ea] at h; exact h
 | ok ds S1 =>
  rw [ea] at h
  simp only [R.bind, dTup] at h
  intro xs H1 β1 e1 L1 rs
  by_cases hz : ds.length ≤ sizeLine
  ·rw [if_pos hz] at h
   refine ⟨by rw [rs.length]; exact hz, fun p hp => ?_⟩
   have x : Same H1 (upd H1 p (.tup xs)) := g8 hp
   exact h _ _ β1 (e1.trans (Tr.same x)) (L1.same x) (.tup (.inl upd_same) (rs.mono (Ext.same x)))
  ·rw [if_neg hz] at h; exact h.elim
theorem j8 (h : j6 (aj X) W b X es dR) : PN (aj X) W b X (.List es pos) (dZ dR) := bW (pe_lst h) fun σ H Q h => by
 obtain ⟨cf, oa, P, β, ρ, S, L, h⟩ := h
 unfold dZ at h
 refine ⟨cf, oa, P, β, ρ, S, L, ?_⟩
 cases ea : dR ρ S with
 | stuck => rw [ea] at h; exact h
 | exc e S1 => rw [ea] at h; exact h
 | ok ds S1 =>
  rw [ea] at h
  simp only [R.bind, BZ] at h
  intro xs H1 β1 e1 L1 rs
  by_cases hz : ds.length ≤ sizeLine
  ·rw [if_pos hz] at h
   refine ⟨by rw [rs.length]; exact hz, fun p hp => ?_⟩
   have x : Same H1 (upd H1 p (.lst xs)) := g8 hp
   exact h p _ β1 (e1.trans (Tr.same x)) (FZ e1.ext hp) (L1.C5 x hp (by rw [upd_same]; exact Option.some_ne_none _)) ⟨xs, upd_same, (rs.more hp).mono (Ext.same x)⟩
  ·rw [if_neg hz] at h; exact h.elim
/-- a dict is frozen for Xe -/
theorem Fx.frz {H : Hp} {P : Addr → Prop} {β : List Addr} {a : Addr} {od : Obj} {xs : List (Key × V)} (e : H a = some (.dK xs)) : Fx H P β (upd H a (.frz od (.dK xs))) P β := by
 refine ⟨⟨[], (List.append_nil β).symm⟩, fun b u h1 h2 r => ⟨?_, h1, h2⟩, fun b o u r => ?_, fun b xs r => ?_⟩
 ·by_cases hb : b = a
  ·subst hb
   rcases r with r | ⟨o, r⟩
   ·rw [e] at r; cases r; exact .inr ⟨od, upd_same⟩
   ·rw [e] at r; cases r
  ·unfold Rd; rw [upd_ne hb]; exact r
 ·have hb : b ≠ a := fun z => by rw [z, e] at r; cases r
  rw [upd_ne hb]; exact r
 ·have hb : b ≠ a := fun z => by rw [z] at r; rcases r with r | ⟨o, r⟩ <;> (rw [e] at r; cases r)
  unfold Rd; rw [upd_ne hb]; exact r
theorem bG.G3 {C : Ct} {H H' : Hp} {P P' : Addr → Prop} {β : List Addr} {b : Addr} {so : SO} (f : Fx H P β H' P' β) (hb : H' b = H b) (h : bG C H P β b so) : bG C H' P' β b so := by
 cases so with
 | lst ds => obtain ⟨xs, q, r⟩ := h; exact ⟨xs, by rw [hb]; exact q, r.fx f⟩
 | dct ds => obtain ⟨xs, q, r⟩ := h; exact ⟨xs, by rw [hb]; exact q, r.fx f⟩
 | ins c fs => obtain ⟨Ca, dx, vs, m, q, n, r⟩ := h; exact ⟨Ca, dx, vs, m, by rw [hb]; exact q, n, r.fx f⟩
 | dX ds => obtain ⟨od, xs, q, r⟩ := h; exact ⟨od, xs, by rw [hb]; exact q, r.fx f⟩
 | fQ ds => obtain ⟨od, xs, q, r⟩ := h; exact ⟨od, xs, by rw [hb]; exact q, r.fx f⟩
theorem cP.G3 {C : Ct} {H H' : Hp} {P P' : Addr → Prop} {β : List Addr} {b : Addr} {d : D} (f : Fx H P β H' P' β) (hb : H' b = H b) (h : cP C H P β b d) : cP C H' P' β b d := by
 cases d <;> first | exact h.elim | skip
 ·obtain ⟨xs, q, r⟩ := h; exact ⟨xs, by rw [hb]; exact q, r.fx f⟩
 ·obtain ⟨xs, q, r⟩ := h; exact ⟨xs, by rw [hb]; exact q, r.fx f⟩
theorem LR.frz {C : Ct} {cf : Cf} {oa : Nat → Option Addr} {P : Addr → Prop} {σ : L2.St} {H : Hp} {β : List Addr} {ρ : aF} {S : Store} (L : LR C cf oa P σ H β ρ S) {a : Addr} {od : Obj} {xs : List (Key × V)} (e : H a = some (.dK xs)) (hp : ¬ P a) (hb : a ∉ β) (h0 : cf.H0 a = none) :
  LR C cf oa P σ (upd H a (.frz od (.dK xs))) β ρ S where
 len := L.len
 p := fun b h => ⟨by rw [upd_ne (show b ≠ a from fun z => hp (z ▸ h))]; exact (L.p b h).1, (L.p b h).2⟩
 sub := L.sub
 p0 := L.p0
 ext := {
  pre := L.ext.pre
  keep := fun b o h hn => by rw [upd_ne (fun z => by rw [z, h0] at h; cases h)]; exact L.ext.keep b o h hn
  fresh := L.ext.fresh
  tups := fun b xs h => (Fx.frz (P := P) (β := β) e).tups b xs (L.ext.tups b xs h)
  stay := fun b h => by rw [upd_ne (fun z => by rw [z, h0] at h; exact h rfl)]; exact L.ext.stay b h
  dY := fun b o u h => by rw [upd_ne (fun z => by rw [z, h0] at h; cases h)]; exact L.ext.dY b o u h }
 own := L.own
 inj := L.inj
 st := ⟨L.st.len, L.st.nd, fun n b so h1 h2 => (L.st.ok n b so h1 h2).G3 (Fx.frz e) (upd_ne fun z => hb (z ▸ List.mem_of_getElem? h1))⟩
 slot := fun i d h => let ⟨v, q1, q2⟩ := L.slot i d h; ⟨v, q1, q2.fx (Fx.frz e)⟩
 bV := fun i d h => let ⟨b, q1, q2, q3⟩ := L.bV i d h; ⟨b, q1, q2, q3.G3 (Fx.frz e) (upd_ne fun z => hp (z ▸ (L.own i b q1).1))⟩
 xslot := fun i x h => by
  obtain ⟨b, h1, oe, Ca, dd, vs, k1, k2, k3, k4, k5, k6, k7, k8⟩ := L.xslot i x h
  exact ⟨b, h1, oe, Ca, dd, vs, k1, k2, k3, k4, by rw [upd_ne (fun z => by rw [z, e] at k5; cases k5)]; exact k5, k6, k7, fun f y q => let ⟨v, q1, q2⟩ := k8 f y q; ⟨v, q1, q2.fx (Fx.frz e)⟩⟩
/-- a new dict bR comes is frozen -/
def Xj (t : TE) : TE := fun σ H Q => t σ H fun v H1 => Q v H1 ∨ ∃ a xs, v = .ref a ∧ H1 a = some (.dK xs) ∧ ∀ od, Q v (upd H1 a (.frz od (.dK xs)))
theorem Xk {t : TE} (h : PE X e t) : PE X e (Xj t) := ⟨fun pins s σ H Q I hw => by
 refine wpAny_mono (h.run pins s σ H _ I hw) (fun u s1 hv => ?_) fun _ _ z => z
 obtain ⟨v, H1, I1, r, q⟩ := hv
 rcases q with q | ⟨a, xs, rfl, e, q⟩
 ·exact ⟨v, H1, I1, r, q⟩
 ·obtain ⟨od, I2⟩ := I1.lock e True.intro
  exact ⟨_, _, I2, r, q od⟩⟩
/-- a new container as a value -/
theorem dJ (h : PN (aj X) W b X e ma) : PM (aj X) W b X e ma := bW (Xk h) fun σ H Q h => by
 obtain ⟨cf, oa, P, β, ρ, S, L, h⟩ := h
 refine ⟨cf, oa, P, β, ρ, S, L, ?_⟩
 cases ea : ma ρ S with
 | stuck => rw [ea] at h; exact h
 | exc e S1 => rw [ea] at h; exact h
 | ok d S1 =>
  rw [ea] at h
  intro p H1 β1 e1 hn L1 o
  have L2 := L1.forget L.sub fun i a h => (L.own i a h).1
  cases d with
  | lst ds => exact .inl (h (.ref p) H1 β1 e1 L2 (FY o (L.zW hn) (L1.p p (.inr rfl)).2 ⟨_, rfl⟩))
  | dct ds =>
   obtain ⟨xs, q, r⟩ := o
   have nb := (L1.p p (.inr rfl)).2
   have h0 : cf.H0 p = none := by
    cases z : cf.H0 p with
    | none => rfl
    | some o => exact absurd hn (L.ext.stay p (by rw [z]; exact Option.some_ne_none _))
   refine .inr ⟨p, xs, rfl, q, fun od => ?_⟩
   have f : Fx H1 P β1 (upd H1 p (.frz od (.dK xs))) P β1 := Fx.frz q
   have sm : Same H1 (upd H1 p (.frz od (.dK xs))) → False ∨ True := fun _ => .inr trivial
   refine h (.ref p) _ β1 ⟨⟨e1.ext.pre, fun b o hb hnb => ?_, e1.ext.fresh, fun b ys hb => f.tups b ys (e1.ext.tups b ys hb), fun b hb => ?_, fun b o u hb => f.fz b o u (e1.ext.dY b o u hb)⟩, fun Xl => ?_⟩ (L2.frz q (L.zW hn) nb h0) (.dct (L.zW hn) nb ⟨od, upd_same⟩ ((r.less fun _ h => .inl h).fx f))
   ·rw [upd_ne (fun z => by rw [z, hn] at hb; cases hb)]; exact e1.ext.keep b o hb hnb
   ·rw [upd_ne (show b ≠ p from fun z => hb (z ▸ hn))]; exact e1.ext.stay b hb
   ·obtain ⟨s1, s2, s3⟩ := e1.ro Xl
    exact ⟨fun b o hb => by rw [upd_ne (fun z => by rw [z, hn] at hb; cases hb)]; exact s1 b o hb, s2, s3⟩
  | _ => exact o.elim
/-- on M8: what comes is flat -/
theorem Xm {C : Ct} {H : Hp} {P P' : Addr → Prop} {β : List Addr} {v : V} {d : D} (r : RV C H P β v d) (hf : flat d = true) : RV C H P' β v d := by
 cases r with
 | non => exact .non
 | bl b => exact .bl b
 | int i => exact .int i
 | str x => exact .str x
 | ty n => exact .ty n
 | ref h => exact .ref h
 | fn h k => exact .fn h k
 | _ => cases hf
theorem G4 {ρ : aF} {i : Nat} : (lent ρ)[i]? = (ρ[i]?).map fun s => match s with
 | .ow (.lst xs) => Sl.sh (.lst xs)
 | .ow _ => .un
 | s => s := by unfold lent; rw [List.getElem?_map] <;> rfl
theorem LR.lend {C : Ct} {cf : Cf} {oa : Nat → Option Addr} {P : Addr → Prop} {σ : L2.St} {H : Hp} {β : List Addr} {ρ : aF} {S : Store} (L : LR C cf oa P σ H β ρ S) :
  LR C cf (fun _ => none) (fun a => P a ∧ ∀ i, oa i ≠ some a) σ H β (lent ρ) S where
 len := by unfold lent; rw [List.length_map]; exact L.len
 p := fun a h => L.p a h.1
 sub := fun a h => ⟨L.sub a h, fun i z => L.p0 a h (L.own i a z).2⟩
 p0 := L.p0
 ext := L.ext
 own := fun i a h => nomatch h
 inj := fun i j a h => nomatch h
 st := L.st.less fun _ h => h.1
 slot := fun i d h => by
  rw [G4] at h
  cases e : ρ[i]? with
  | none => rw [e] at h; cases h
  | some s =>
   rw [e] at h
   cases s with
   | un => cases h
   | ex x => cases h
   | sh x =>
    cases h
    obtain ⟨v, e1, r⟩ := L.slot i d e
    exact ⟨v, e1, r.less fun _ h => h.1⟩
   | ow x =>
    cases x with
    | lst ys =>
     cases h
     obtain ⟨a, e1, e2, r⟩ := L.bV i _ e
     have na : ¬ (P a ∧ ∀ i, oa i ≠ some a) := fun z => z.2 i e1
     have nb : a ∉ β := (L.p a (L.own i a e1).1).2
     refine ⟨.ref a, e2, ?_⟩
     obtain ⟨xs, q, r⟩ := r
     exact .lst na nb (.inl q) (r.less fun _ h => h.1)
    | _ => cases h
 bV := fun i d h => by
  rw [G4] at h
  cases e : ρ[i]? with
  | none => rw [e] at h; cases h
  | some s =>
   rw [e] at h
   cases s with
   | ow x => cases x <;> cases h
   | _ => cases h
 xslot := fun i d h => by
  rw [G4] at h
  cases e : ρ[i]? with
  | none => rw [e] at h; cases h
  | some s =>
   rw [e] at h
   cases s with
   | un => cases h
   | sh x => cases h
   | ow x => cases x <;> cases h
   | ex x =>
    cases h
    obtain ⟨a, e1, r⟩ := L.xslot i _ e
    exact ⟨a, e1, r.less fun _ h => h.1⟩
theorem Xn (h : PM (aj X) W true X e ma) : PM (aj X) W b X e (zY ma) := bW h fun σ H Q h => by
 obtain ⟨cf, oa, P, β, ρ, S, L, h⟩ := h
 refine ⟨cf, _, _, β, lent ρ, S, L.lend, ?_⟩
 unfold zY at h
 cases ea : ma (lent ρ) S with
 | stuck => rw [ea] at h; exact h
 | exc e S1 => rw [ea] at h; exact h.elim
 | ok d S1 =>
  rw [ea] at h
  simp only at h
  intro v H1 β1 e1 L1 r
  obtain ⟨q1, q2, q3⟩ := e1.ro rfl
  subst q2 q3
  by_cases hf : flat d = true
  ·rw [if_pos hf] at h
   exact h v H1 _ (Tr.same q1) (L.same q1) (Xm r hf)
  ·rw [if_neg hf] at h; exact h.elim
theorem Xo {ka : BX} (h : PB (aj X) W true X e ka) : PB (aj X) W b X e (A5 ka) := vo h fun σ H Q h => by
 obtain ⟨cf, oa, P, β, ρ, S, L, h⟩ := h
 refine ⟨cf, _, _, β, lent ρ, S, L.lend, ?_⟩
 unfold A5 at h
 cases ea : ka (lent ρ) S with
 | stuck => rw [ea] at h; exact h
 | exc e S1 => rw [ea] at h; exact h.elim
 | ok d S1 =>
  rw [ea] at h
  intro H1 β1 e1 L1
  obtain ⟨q1, q2, q3⟩ := e1.ro rfl
  subst q2 q3
  exact h H1 _ (Tr.same q1) (L.same q1)
/-- .. as a thing of the store -/
theorem Mj (h : PN (aj X) W false X e ma) : PM (aj X) W false X e (xC ma) := bW h fun σ H Q h => by
 obtain ⟨cf, oa, P, β, ρ, S, L, h⟩ := h
 refine ⟨cf, oa, P, β, ρ, S, L, ?_⟩
 unfold xC at h
 cases ea : ma ρ S with
 | stuck => rw [ea] at h; exact h
 | exc e S1 => rw [ea] at h; exact h
 | ok d S1 =>
  rw [ea] at h
  simp only [R.bind] at h
  intro p H1 β1 t1 hn L1 o
  have e1 := t1.ext
  have hb := (L1.p p (.inr rfl)).2
  -- the list at p is no longer kept apart, it is of the store
  have L2 := L1.forget L.sub fun i a h => (L.own i a h).1
  cases es : C4 d with
  | none => rw [es] at h; exact h.elim
  | some so =>
   rw [es] at h
   have nP : ¬ P p := L.zW hn
   have ext : Ext H β H1 (β1 ++ [p]) := by
    obtain ⟨γ, g⟩ := e1.pre
    refine ⟨⟨γ ++ [p], by rw [g, List.append_assoc]⟩, e1.keep, fun b hb => ?_, e1.tups, e1.stay, e1.dY⟩
    rcases List.mem_append.mp hb with hb | hb
    ·exact e1.fresh b hb
    ·rw [List.mem_singleton.mp hb]; exact .inr hn
   -- the slots' and the vm values do not lean on p: Xp avoid it
   have more : ∀ {v : V} {x : D}, RV (aj X) H1 (fun b => P b ∨ b = p) β1 v x → RV (aj X) H1 P (β1 ++ [p]) v x := fun r => RV.jO r
   have A7 : ∀ {v : List V} {x : List D}, aA (aj X) H1 (fun b => P b ∨ b = p) β1 v x → aA (aj X) H1 P (β1 ++ [p]) v x := fun r => aA.jO r
   have C9 : ∀ {v : List (Key × V)} {x : List (Key × D)}, aG (aj X) H1 (fun b => P b ∨ b = p) β1 v x → aG (aj X) H1 P (β1 ++ [p]) v x := fun r => aG.jO r
   have Xq : ∀ {a : Addr} {s : SO}, bG (aj X) H1 (fun b => P b ∨ b = p) β1 a s → bG (aj X) H1 P (β1 ++ [p]) a s := fun {a s} q => by
    cases s with
    | lst ds => obtain ⟨xs, q, r⟩ := q; exact ⟨xs, q, A7 r⟩
    | dct ds => obtain ⟨xs, q, r⟩ := q; exact ⟨xs, q, C9 r⟩
    | ins c fs => obtain ⟨Ca, dx, vs, m, q, n, r⟩ := q; exact ⟨Ca, dx, vs, m, q, n, A7 r⟩
    | dX ds => obtain ⟨od, xs, q, r⟩ := q; exact ⟨od, xs, q, C9 r⟩
    | fQ ds => obtain ⟨od, xs, q, r⟩ := q; exact ⟨od, xs, q, A7 r⟩
   have new : bG (aj X) H1 P (β1 ++ [p]) p so := by
    cases d <;> first | (cases es; done) | skip
    ·cases es; obtain ⟨xs, q, r⟩ := o; exact ⟨xs, q, A7 r⟩
    ·cases es; obtain ⟨xs, q, r⟩ := o; exact ⟨xs, q, C9 r⟩
   have st : aP (aj X) H1 P (β1 ++ [p]) (S1 ++ [so]) := by
    refine ⟨by simp [L1.st.len], ?_, fun n a sb h1 h2 => ?_⟩
    ·rw [List.nodup_append]
     exact ⟨L1.st.nd, by simp, fun x hx y hy => by rw [List.mem_singleton.mp hy]; exact fun z => hb (z ▸ hx)⟩
    ·by_cases hn : n < β1.length
     ·rw [List.getElem?_append_left hn] at h1
      rw [List.getElem?_append_left (by rw [← L1.st.len]; exact hn)] at h2
      exact Xq (L1.st.ok n a sb h1 h2)
     ·have hl : n = β1.length := by
       have := (List.getElem?_eq_some_iff.mp h1).1
       simp at this; omega
      subst hl
      rw [List.getElem?_append_right (Nat.le_refl _)] at h1
      rw [L1.st.len, List.getElem?_append_right (Nat.le_refl _)] at h2
      simp at h1 h2
      subst h1; subst h2
      exact new
   have L3 : LR (aj X) cf oa P σ H1 (β1 ++ [p]) ρ (S1 ++ [so]) := by
    refine ⟨L1.len, fun a h => ⟨(L2.p a h).1, fun z => ?_⟩, L.sub, L.p0, ?_, L2.own, L1.inj, st, fun i x h => ?_, fun i x h => ?_, fun i x h => ?_⟩
    ·rcases List.mem_append.mp z with z | z
     ·exact (L2.p a h).2 z
     ·exact nP (List.mem_singleton.mp z ▸ h)
    ·exact L.ext.step ext
    ·obtain ⟨v, q1, q2⟩ := L1.slot i x h
     exact ⟨v, q1, more q2⟩
    ·obtain ⟨a, q1, q2, q3⟩ := L1.bV i x h
     refine ⟨a, q1, q2, ?_⟩
     cases x <;> first | exact q3.elim | skip
     ·obtain ⟨xs, q, r⟩ := q3; exact ⟨xs, q, A7 r⟩
     ·obtain ⟨xs, q, r⟩ := q3; exact ⟨xs, q, C9 r⟩
    ·obtain ⟨a, q1, oe, Ca, dd, vs, x1, x2, x3, x4, x5, x6, x7, x8⟩ := L1.xslot i x h
     have nd : dd ≠ p := fun z => by
      subst z
      cases so with
      | lst _ => obtain ⟨xs, q, _⟩ := new; rw [x5] at q; cases q
      | dct _ => obtain ⟨xs, q, _⟩ := new; rw [x5] at q; cases q
      | ins _ _ => obtain ⟨_, _, _, _, q, _⟩ := new; rw [x5] at q; cases q
      | dX _ => obtain ⟨_, _, q, _⟩ := new; rw [x5] at q; cases q
      | fQ _ => obtain ⟨_, _, q, _⟩ := new; rw [x5] at q; cases q
     exact ⟨a, q1, oe, Ca, dd, vs, x1, x2, x3, x4, x5, fun z => (List.mem_append.mp z).elim x6 fun z => nd (List.mem_singleton.mp z), fun z => x7 (.inl z), fun f y q => let ⟨v, r1, r2⟩ := x8 f y q; ⟨v, r1, more r2⟩⟩
   refine h (.ref p) H1 (β1 ++ [p]) ⟨ext, fun e => nomatch e⟩ L3 (.ref ?_)
   rw [← L1.st.len, List.getElem?_append_right (Nat.le_refl _)]
   simp
variable {x : Str} {p : Pos} {id T : String} {r : List V → Hp → VK → Prop} {f : Store → List D → Option D}
theorem bK (hc : CallR X (.builtin id) r) (hf : gj X r f) (hm : X.mg x = none) (hv : bootBuiltins x = some (.builtin id)) (ha : j6 (aj X) W b X (e :: es) dR)
  (hg : Gl X x := by rfl) (hn : x ≠ "__name__" := by decide) (hdb : (x == ("__debug__" : Str)) = false := by decide) (he : starEach (e :: es) X.env = (false, eval e X.env) :: starEach es X.env := by rfl) (hpl : (backTo pos (starEach es X.env)).any (·.1) = false := by rfl) :
  PM (aj X) W b X (.Call (.Name x p) (e :: es) [] pos) (aQ f dR) := bW (pe_callB hc hg hm hv ha hn hdb he hpl) fun σ H Q h => Mf hf h
theorem Xr (hc : CallR X (.type T) r) (hf : gj X r f) (hm : X.mg x = none) (hv : bootBuiltins x = some (.type T)) (ha : j6 (aj X) W b X (e :: es) dR)
  (hg : Gl X x := by rfl) (hn : x ≠ "__name__" := by decide) (hdb : (x == ("__debug__" : Str)) = false := by decide) (he : starEach (e :: es) X.env = (false, eval e X.env) :: starEach es X.env := by rfl) (hpl : (backTo pos (starEach es X.env)).any (·.1) = false := by rfl) :
  PM (aj X) W b X (.Call (.Name x p) (e :: es) [] pos) (aQ f dR) := bW (pe_callTy hc hg hm hv ha hn hdb he hpl) fun σ H Q h => Mf hf h
end
def mF (d : D) : Option Bool := match d with
 | .bl b => some b
 | _ => none
/-- the items of a list, a list of the store Ml -/
def bu (S : Store) : D → Option (List D)
 | .lst xs => some xs
 | .ref n => match S[n]? with
  | some (.lst xs) => some xs
  | some (.fQ xs) => some xs
  | _ => none
 | _ => none
def gH : D → Option (List D)
 | .tup xs => some xs
 | _ => none
def aU (S : Store) : D → Option (List (Key × D))
 | .dct xs => some xs
 | .ref n => match S[n]? with
  | some (.dct xs) => some xs
  | some (.dX xs) => some xs
  | _ => none
 | _ => none
def jx (S : Store) (d : D) : Option Bool := match d with
 | .non => some false
 | .bl b => some b
 | .int i => some (i != 0)
 | .str y => if y.length ≤ sizeLine then some ((y.length : Int) != 0) else none
 | .tup xs => some (!xs.isEmpty)
 | d => match bu S d with
  | some xs => some (!xs.isEmpty)
  | none => match aU S d with
   | some xs => some (!xs.isEmpty)
   | none => none
def eX (a : EX) : BX := fun ρ S => (a ρ S).bind fun x S1 => R.opt (jx S1 x) S1
def bH (a : EX) : BX := fun ρ S => (a ρ S).bind fun x S1 => R.opt (mF x) S1
def Mp (a b : BX) : BX := fun ρ S => (a ρ S).bind fun x S1 => if x = true then b ρ S1 else .ok false S1
def fR (a b : BX) : BX := fun ρ S => (a ρ S).bind fun x S1 => if x = true then .ok true S1 else b ρ S1
def eY (a : BX) : BX := fun ρ S => (a ρ S).bind fun x S1 => .ok (!x) S1
def mG (c : BX) (a b : EX) : EX := fun ρ S => (c ρ S).bind fun x S1 => if x = true then a ρ S1 else b ρ S1
def fu (a b : EX) : EX := fun ρ S => (a ρ S).bind fun x S1 => (R.opt (jx S1 x) S1).bind fun k S2 => if k = true then b ρ S2 else .ok x S2
def vA (a b : EX) : EX := fun ρ S => (a ρ S).bind fun x S1 => (R.opt (jx S1 x) S1).bind fun k S2 => if k = true then .ok x S2 else b ρ S2
def vB (a : EX) : EX := fun ρ S => (a ρ S).bind fun x S1 => (R.opt (jx S1 x) S1).bind fun k S2 => .ok (.bl (!k)) S2
/-- a < b < c -/
def pM (f g : Store → D → D → Option D) (a b c : EX) : EX := fun ρ S => (a ρ S).bind fun x S1 => (b ρ S1).bind fun y S2 => (R.opt ((f S2 x y).bind mF) S2).bind fun k S3 =>
 if k = true then (c ρ S3).bind fun z S4 => R.opt (g S4 y z) S4 else .ok (.bl false) S3
section
variable {C : Ct} {H : Hp} {Z : Addr → Prop} {β : List Addr} {S : Store} {v : V} {d : D}
/-- a list seen -/
theorem RV.bu (r : RV C H Z β v d) (s : aP C H Z β S) {ds : List D} (h : Mi.bu S d = some ds) : ∃ a xs, v = .ref a ∧ SqL C.K H a xs ∧ aA C H Z β xs ds := by
 cases r with
 | lst hp hb hr hs => cases h; exact ⟨_, _, rfl, .inl hr, hs⟩
 | fK k hs => cases h; exact ⟨_, _, rfl, .inr k, hs⟩
 | ref hn =>
  simp only [Mi.bu] at h
  split at h
  ·rename_i xs e
   cases h
   have q := s.ok _ _ _ hn e
   obtain ⟨us, q1, q2⟩ := q
   exact ⟨_, _, rfl, .inl (.inl q1), q2⟩
  ·rename_i xs e
   cases h
   obtain ⟨od, us, q1, q2⟩ := s.ok _ _ _ hn e
   exact ⟨_, _, rfl, .inl (.inr ⟨od, q1⟩), q2⟩
  ·cases h
 | _ => cases h
theorem RV.gH (r : RV C H Z β v d) {ds : List D} (h : Mi.gH d = some ds) : ∃ a xs, v = .ref a ∧ SqT C.K H a xs ∧ aA C H Z β xs ds := by
 cases r with
 | tup hr hs => cases h; exact ⟨_, _, rfl, .inl hr, hs⟩
 | eV k hs => cases h; exact ⟨_, _, rfl, .inr k, hs⟩
 | _ => cases h
theorem RV.aU (r : RV C H Z β v d) (s : aP C H Z β S) {ds : List (Key × D)} (h : Mi.aU S d = some ds) : ∃ a xs, v = .ref a ∧ Rd H a (.dK xs) ∧ aG C H Z β xs ds := by
 cases r with
 | dct hp hb hr hs => cases h; exact ⟨_, _, rfl, hr.rd, hs⟩
 | ref hn =>
  simp only [Mi.aU] at h
  split at h
  ·rename_i xs e
   cases h
   have q := s.ok _ _ _ hn e
   obtain ⟨us, q1, q2⟩ := q
   exact ⟨_, _, rfl, .inl q1, q2⟩
  ·rename_i xs e
   cases h
   obtain ⟨od, us, q1, q2⟩ := s.ok _ _ _ hn e
   exact ⟨_, _, rfl, .inr ⟨od, q1⟩, q2⟩
  ·cases h
 | _ => cases h
end
section
variable {X : Cx} {W : WX} {b : Bool}
/-- truth, a dict bR a loop has locked Ml -/
def tO (K : PySem.W.Frag) (x : V) (H : Hp) (k : Bool) : Prop := TruV K x H k ∨ ∃ p kvs, x = .ref p ∧ Rd H p (.dK kvs) ∧ k = !kvs.isEmpty
theorem Ce : TruR X (fun x H Q => ∃ k, tO X.K x H k ∧ Q k H) := by
 intro pins s σ H x v Q I rx h
 obtain ⟨k, e, q⟩ := h
 rcases e with e | ⟨p, kvs, rfl, hr, rfl⟩
 ·exact tru_ok pins s σ H x v Q I rx ⟨k, e, q⟩
 ·cases rx
  obtain ⟨hz, hS, vs, r, m⟩ := dk_rd I.hok hr
  have hl := line63
  have hlen : kvs.length = vs.length := Paired.length r
  exact wpAny_truthy_dict hS m (by omega) ⟨H, I.tok _, by rw [isEmpty_kv r]; exact q⟩
theorem Mq {C : Ct} {H : Hp} {Z : Addr → Prop} {β : List Addr} {xs : List V} {ds : List D} (h : aA C H Z β xs ds) : xs.isEmpty = ds.isEmpty := by
 cases h <;> rfl
theorem Xu {C : Ct} {H : Hp} {Z : Addr → Prop} {β : List Addr} {xs : List (Key × V)} {ds : List (Key × D)} (h : aG C H Z β xs ds) : xs.isEmpty = ds.isEmpty := by
 cases h <;> rfl
theorem Cg {Z : Addr → Prop} {H : Hp} {β : List Addr} {S : Store} {x : V} {d : D} {k : Bool} (A : At (aj X) H Z β S) (r : RV (aj X) H Z β x d) (h : jx S d = some k) : tO X.K x H k := by
 have tail : ∀ {d : D}, RV (aj X) H Z β x d → (match bu S d with
  | some xs => some (!xs.isEmpty)
  | none => match aU S d with
   | some xs => some (!xs.isEmpty)
   | none => none) = some k → tO X.K x H k := fun {d} r h => by
  cases e : bu S d with
  | some ds =>
   rw [e] at h
   cases h
   obtain ⟨a, xs, rfl, q1, q2⟩ := r.bu A.st e
   exact .inl (.inl ⟨xs, q1, by rw [Mq q2]⟩)
  | none =>
   rw [e] at h
   cases e2 : aU S d with
   | none => rw [e2] at h; cases h
   | some ds =>
    rw [e2] at h
    cases h
    obtain ⟨a, xs, rfl, q1, q2⟩ := r.aU A.st e2
    exact .inr ⟨a, xs, rfl, q1, by rw [Xu q2]⟩
 unfold jx at h
 cases d with
 | non => cases r; cases h; exact .inl rfl
 | bl b => cases r; cases h; exact .inl rfl
 | int i => cases r; cases h; exact .inl rfl
 | str y =>
  cases r
  simp only at h
  split at h
  ·cases h; exact .inl ⟨by assumption, rfl⟩
  ·cases h
 | tup xs =>
  cases h
  obtain ⟨a, us, rfl, q1, q2⟩ := r.gH rfl
  exact .inl (.inr (.inl ⟨us, q1, by rw [Mq q2]⟩))
 | lst xs => exact tail r h
 | dct xs => exact tail r h
 | ref n => exact tail r h
 | ty n => exact tail r h
 | fn n => exact tail r h
theorem Ci {m : EX} {σ : L2.St} {H : Hp} {Q : Bool → Hp → Prop} (h : BM (aj X) W b (bH m) σ H Q) : EM (aj X) W b m σ H fun x H' => ∃ k, x = .bl k ∧ Q k H' := by
 obtain ⟨cf, oa, P, β, ρ, S, L, h⟩ := h
 refine ⟨cf, oa, P, β, ρ, S, L, ?_⟩
 unfold bH at h
 cases ea : m ρ S with
 | stuck => rw [ea] at h; exact h
 | exc e S1 => rw [ea] at h; exact h
 | ok d S1 =>
  rw [ea] at h
  intro v H1 β1 e1 L1 r
  cases d with
  | bl k => cases r; exact ⟨k, rfl, h H1 β1 e1 L1⟩
  | _ => exact h.elim
theorem Xv {m : EX} {σ : L2.St} {H : Hp} {Q : Bool → Hp → Prop} (h : BM (aj X) W b (eX m) σ H Q) : EM (aj X) W b m σ H fun x H' => ∃ k, tO X.K x H' k ∧ Q k H' := by
 obtain ⟨cf, oa, P, β, ρ, S, L, h⟩ := h
 refine ⟨cf, oa, P, β, ρ, S, L, ?_⟩
 unfold eX at h
 cases ea : m ρ S with
 | stuck => rw [ea] at h; exact h
 | exc e S1 => rw [ea] at h; exact h
 | ok d S1 =>
  rw [ea] at h
  intro v H1 β1 e1 L1 r
  simp only [R.bind] at h
  cases et : jx S1 d with
  | none => rw [et] at h; exact h.elim
  | some k => rw [et] at h; exact ⟨k, Cg L1.at r et, h H1 β1 e1 L1⟩
variable {a b' c e : Expr} {rest : List Expr} {ma mb mc : EX} {ka kb : BX} {pos : Pos}
theorem gJ {op : CmpOp} {r : R2} {f : Store → D → D → Option D} (ho : OpR X (compareOp op) r) (hm : cH X r f) (ha : PM (aj X) W b X a ma) (hb : PM (aj X) W b X b' mb) (hk : behindInMarks op b' = false := by first | exact nobehind _ (by decide) (by decide) | rfl) :
  PB (aj X) W b X (.Compare a [op] [b'] pos) (bH (aC f ma mb)) := vo (pt_cmpR ho ha hb hk) fun σ H Q h => em2 hm (Ci h)
/-- a test bR is the truth of a value -/
theorem gU (h : PM (aj X) W b X e ma) (he : ∀ whole, isTrue e X.env whole = (do let v ← whole; standAt e.pos; holding [v] (truthy v)) := by intro _; rfl) : PB (aj X) W b X e (eX ma) := by
 refine vo (t := fun σ H Q => EM (aj X) W b ma σ H fun x H' => ∃ k, tO X.K x H' k ∧ Q k H') ⟨fun pins s σ H Q I h' => ?_⟩ fun σ H Q h => Xv h
 exact isTrue_plain (thn (h.run pins s σ H _ I h') fun v s1 ⟨x, H1, I1, r1, q1⟩ => Ce pins s1 σ H1 x v Q I1 r1 q1) (he _)
structure Cj (C : Ct) (W : WX) (b : Bool) (X : Cx) (e : Expr) (m : BX) : Prop where
 pw : PW X e (BM C W b m)
theorem Xw {X : Cx} {e : Expr} {t t' : TT} (h : PW X e t) (i : ∀ σ H Q, t' σ H Q → t σ H Q) : PW X e t' := ⟨fun wh pins s σ H Q I hw => h.run wh pins s σ H Q I (i σ H Q hw)⟩
theorem Xx {k1 k2 : BX} {σ : L2.St} {H : Hp} {Q : Bool → Hp → Prop} (h : BM (aj X) W b (fR k1 k2) σ H Q) : tOr (BM (aj X) W b k1) (BM (aj X) W b k2) σ H Q := by
 obtain ⟨cf, oa, P, β, ρ, S, L, h⟩ := h
 refine ⟨cf, oa, P, β, ρ, S, L, ?_⟩
 unfold fR at h
 cases ea : k1 ρ S with
 | stuck => rw [ea] at h; exact h
 | exc e S1 => rw [ea] at h; exact h
 | ok k S1 =>
  rw [ea] at h
  simp only [R.bind] at h
  intro H1 β1 e1 L1
  cases k with
  | true => rw [if_pos rfl] at h ⊢; exact h H1 β1 e1 L1
  | false =>
   rw [if_neg Bool.false_ne_true] at h ⊢
   refine ⟨cf, oa, P, β1, ρ, S1, L1, ?_⟩
   cases eb : k2 ρ S1 with
   | stuck => rw [eb] at h; exact h
   | exc e S2 => rw [eb] at h; intro cls d H' β' e2 L2 ex; exact h cls d H' β' (e1.trans e2) L2 ex
   | ok k' S2 => rw [eb] at h; intro H2 β2 e2 L2; exact h H2 β2 (e1.trans e2) L2
theorem pN (ha : PB (aj X) W b X a ka) : Cj (aj X) W b X (.BoolOp .Or [a] pos) ka := ⟨pw_or1 ha⟩
theorem jy (ha : PB (aj X) W b X a ka) (hb : Cj (aj X) W b X (.BoolOp .Or (b' :: rest) pos) kb) : Cj (aj X) W b X (.BoolOp .Or (a :: b' :: rest) pos) (fR ka kb) :=
 ⟨Xw (pw_or ha hb.pw) fun σ H Q h => Xx h⟩
theorem pO (h : Cj (aj X) W b X e ka) : PB (aj X) W b X e ka := h.pw.pt
theorem gK (h : PB (aj X) W b X a ka) : PB (aj X) W b X (.UnaryOp .Not a pos) (eY ka) := vo (pt_not h) fun σ H Q h => by
 obtain ⟨cf, oa, P, β, ρ, S, L, h⟩ := h
 refine ⟨cf, oa, P, β, ρ, S, L, ?_⟩
 unfold eY at h
 cases ea : ka ρ S with
 | stuck => rw [ea] at h; exact h
 | exc e S1 => rw [ea] at h; exact h
 | ok k S1 => rw [ea] at h; exact h
theorem Mr (hc : PB (aj X) W b X c ka) (ha : PM (aj X) W b X a ma) (hb : PM (aj X) W b X b' mb) : PM (aj X) W b X (.IfExp c a b' pos) (mG ka ma mb) := bW (pe_ifExp hc ha hb) fun σ H Q h => by
 obtain ⟨cf, oa, P, β, ρ, S, L, h⟩ := h
 refine ⟨cf, oa, P, β, ρ, S, L, ?_⟩
 unfold mG at h
 cases ea : ka ρ S with
 | stuck => rw [ea] at h; exact h
 | exc e S1 => rw [ea] at h; exact h
 | ok k S1 =>
  rw [ea] at h
  simp only [R.bind] at h
  intro H1 β1 e1 L1
  cases k with
  | true =>
   rw [if_pos rfl] at h ⊢
   refine ⟨cf, oa, P, β1, ρ, S1, L1, ?_⟩
   cases eb : ma ρ S1 with
   | stuck => rw [eb] at h; exact h
   | exc e S2 => rw [eb] at h; intro cls d H' β' e2 L2 ex; exact h cls d H' β' (e1.trans e2) L2 ex
   | ok d S2 => rw [eb] at h; intro v H2 β2 e2 L2 r; exact h v H2 β2 (e1.trans e2) L2 r
  | false =>
   rw [if_neg Bool.false_ne_true] at h ⊢
   refine ⟨cf, oa, P, β1, ρ, S1, L1, ?_⟩
   cases eb : mb ρ S1 with
   | stuck => rw [eb] at h; exact h
   | exc e S2 => rw [eb] at h; intro cls d H' β' e2 L2 ex; exact h cls d H' β' (e1.trans e2) L2 ex
   | ok d S2 => rw [eb] at h; intro v H2 β2 e2 L2 r; exact h v H2 β2 (e1.trans e2) L2 r
def Xy (K : PySem.W.Frag) (ta tb : TE) : TE := fun σ H Q => ta σ H fun x H1 => ∃ k, tO K x H1 k ∧ if k = true then Q x H1 else tb σ H1 Q
def Xz (K : PySem.W.Frag) (ta tb : TE) : TE := fun σ H Q => ta σ H fun x H1 => ∃ k, tO K x H1 k ∧ if k = true then tb σ H1 Q else Q x H1
def XA (K : PySem.W.Frag) (ta : TE) : TE := fun σ H Q => ta σ H fun x H1 => ∃ k, tO K x H1 k ∧ Q (.bl (!k)) H1
theorem XC {ta tb : TE} (ha : PE X a ta) (hb : PE X (.BoolOp .Or (b' :: rest) pos) tb) : PE X (.BoolOp .Or (a :: b' :: rest) pos) (Xy X.K ta tb) := by
 refine ⟨fun pins s σ H Q I h => ?_⟩
 refine BoolOp_or (thn (ha.run pins s σ H _ I h) fun v s1 ⟨x, H1, I1, r1, q1⟩ => ?_)
 obtain ⟨k, e, q1⟩ := q1
 refine thn (Ce pins s1 σ H1 x v (fun c H2 => c = k ∧ H2 = H1) I1 r1 ⟨k, e, rfl, rfl⟩) fun c s2 hc => ?_
 obtain ⟨H2, I2, e1, e2⟩ := hc
 rw [e2] at I2
 rw [← e1] at q1
 cases c with
 | true => exact ⟨x, H1, I2, r1, q1⟩
 | false => exact hb.run pins s2 σ H1 Q I2 q1
theorem XD {ta tb : TE} (ha : PE X a ta) (hb : PE X (.BoolOp .And (b' :: rest) pos) tb) : PE X (.BoolOp .And (a :: b' :: rest) pos) (Xz X.K ta tb) := by
 refine ⟨fun pins s σ H Q I h => ?_⟩
 refine BoolOp_and (thn (ha.run pins s σ H _ I h) fun v s1 ⟨x, H1, I1, r1, q1⟩ => ?_)
 obtain ⟨k, e, q1⟩ := q1
 refine thn (Ce pins s1 σ H1 x v (fun c H2 => c = k ∧ H2 = H1) I1 r1 ⟨k, e, rfl, rfl⟩) fun c s2 hc => ?_
 obtain ⟨H2, I2, e1, e2⟩ := hc
 rw [e2] at I2
 rw [← e1] at q1
 cases c with
 | true => exact hb.run pins s2 σ H1 Q I2 q1
 | false => exact ⟨x, H1, I2, r1, q1⟩
theorem XF {ta : TE} (ha : PE X a ta) : PE X (.UnaryOp .Not a pos) (XA X.K ta) := by
 refine ⟨fun pins s σ H Q I h => ?_⟩
 refine UnaryOp_ (thn (ha.run pins s σ H _ I h) fun v s1 ⟨x, H1, I1, r1, q1⟩ => ?_)
 obtain ⟨k, e, q1⟩ := q1
 exact not_of (thn (Ce pins s1 σ H1 x v (fun c H2 => Q (.bl (!c)) H2) I1 r1 ⟨k, e, q1⟩) fun c s2 ⟨H2, I2, q2⟩ => ⟨.bl (!c), H2, I2, rfl, q2⟩)
theorem jA {op : BoolOp} (h : PM (aj X) W b X a ma) : PM (aj X) W b X (.BoolOp op [a] pos) ma := pe_one h
theorem G5 (ha : PM (aj X) W b X a ma) (hb : PM (aj X) W b X (.BoolOp .Or (b' :: rest) pos) mb) : PM (aj X) W b X (.BoolOp .Or (a :: b' :: rest) pos) (vA ma mb) := bW (XC ha hb) fun σ H Q h => by
 obtain ⟨cf, oa, P, β, ρ, S, L, h⟩ := h
 refine ⟨cf, oa, P, β, ρ, S, L, ?_⟩
 unfold vA at h
 cases ea : ma ρ S with
 | stuck => rw [ea] at h; exact h
 | exc e S1 => rw [ea] at h; exact h
 | ok d S1 =>
  rw [ea] at h
  simp only [R.bind] at h
  intro v H1 β1 e1 L1 r
  cases et : jx S1 d with
  | none => rw [et] at h; exact h.elim
  | some k =>
   rw [et] at h
   simp only [R.opt] at h
   refine ⟨k, Cg L1.at r et, ?_⟩
   cases k with
   | true => rw [if_pos rfl] at h ⊢; exact h v H1 β1 e1 L1 r
   | false =>
    rw [if_neg Bool.false_ne_true] at h ⊢
    refine ⟨cf, oa, P, β1, ρ, S1, L1, ?_⟩
    cases eb : mb ρ S1 with
    | stuck => rw [eb] at h; exact h
    | exc e S2 => rw [eb] at h; intro cls d H' β' e2 L2 ex; exact h cls d H' β' (e1.trans e2) L2 ex
    | ok d S2 => rw [eb] at h; intro v H2 β2 e2 L2 r; exact h v H2 β2 (e1.trans e2) L2 r
theorem jj (ha : PM (aj X) W b X a ma) (hb : PM (aj X) W b X (.BoolOp .And (b' :: rest) pos) mb) : PM (aj X) W b X (.BoolOp .And (a :: b' :: rest) pos) (fu ma mb) := bW (XD ha hb) fun σ H Q h => by
 obtain ⟨cf, oa, P, β, ρ, S, L, h⟩ := h
 refine ⟨cf, oa, P, β, ρ, S, L, ?_⟩
 unfold fu at h
 cases ea : ma ρ S with
 | stuck => rw [ea] at h; exact h
 | exc e S1 => rw [ea] at h; exact h
 | ok d S1 =>
  rw [ea] at h
  simp only [R.bind] at h
  intro v H1 β1 e1 L1 r
  cases et : jx S1 d with
  | none => rw [et] at h; exact h.elim
  | some k =>
   rw [et] at h
   simp only [R.opt] at h
   refine ⟨k, Cg L1.at r et, ?_⟩
   cases k with
   | false => rw [if_neg Bool.false_ne_true] at h ⊢; exact h v H1 β1 e1 L1 r
   | true =>
    rw [if_pos rfl] at h ⊢
    refine ⟨cf, oa, P, β1, ρ, S1, L1, ?_⟩
    cases eb : mb ρ S1 with
    | stuck => rw [eb] at h; exact h
    | exc e S2 => rw [eb] at h; intro cls d H' β' e2 L2 ex; exact h cls d H' β' (e1.trans e2) L2 ex
    | ok d S2 => rw [eb] at h; intro v H2 β2 e2 L2 r; exact h v H2 β2 (e1.trans e2) L2 r
theorem Ms (ha : PM (aj X) W b X a ma) : PM (aj X) W b X (.UnaryOp .Not a pos) (vB ma) := bW (XF ha) fun σ H Q h => by
 obtain ⟨cf, oa, P, β, ρ, S, L, h⟩ := h
 refine ⟨cf, oa, P, β, ρ, S, L, ?_⟩
 unfold vB at h
 cases ea : ma ρ S with
 | stuck => rw [ea] at h; exact h
 | exc e S1 => rw [ea] at h; exact h
 | ok d S1 =>
  rw [ea] at h
  simp only [R.bind] at h
  intro v H1 β1 e1 L1 r
  cases et : jx S1 d with
  | none => rw [et] at h; exact h.elim
  | some k =>
   rw [et] at h
   exact ⟨k, Cg L1.at r et, h _ H1 β1 e1 L1 (.bl _)⟩
theorem Mu {f g : Store → D → D → Option D} {r r' : R2} {σ : L2.St} {H : Hp} {Q : VK} (hf : cH X r f) (hg : cH X r' g) (h : EM (aj X) W b (pM f g ma mb mc) σ H Q) :
  tChain r r' (EM (aj X) W b ma) (EM (aj X) W b mb) (EM (aj X) W b mc) σ H Q := by
 obtain ⟨cf, oa, P, β, ρ, S, L, h⟩ := h
 refine ⟨cf, oa, P, β, ρ, S, L, ?_⟩
 unfold pM at h
 cases ea : ma ρ S with
 | stuck => rw [ea] at h; exact h
 | exc e S1 => rw [ea] at h; exact h
 | ok dx S1 =>
  rw [ea] at h
  simp only [R.bind] at h
  intro x H1 β1 e1 L1 rx
  refine ⟨cf, oa, P, β1, ρ, S1, L1, ?_⟩
  cases eb : mb ρ S1 with
  | stuck => rw [eb] at h; exact h
  | exc e S2 => rw [eb] at h; intro cls d H' β' e2 L2 ex; exact h cls d H' β' (e1.trans e2) L2 ex
  | ok dy S2 =>
   rw [eb] at h
   simp only [R.bind] at h
   intro y H2 β2 e2 L2 ry
   cases ef : f S2 dx dy with
   | none => rw [ef] at h; exact h.elim
   | some dk =>
    rw [ef] at h
    refine hf P H2 β2 S2 x y dx dy dk _ L2.at (rx.mono e2.ext) ry ef fun v H3 e3 r3 => ?_
    cases dk with
    | bl k =>
     cases r3
     refine ⟨k, rfl, ?_⟩
     simp only [mF, Option.bind, R.opt] at h
     cases k with
     | false => rw [if_neg Bool.false_ne_true] at h ⊢; exact h _ H3 β2 (e1.trans (e2.trans (Tr.same e3))) (L2.same e3) (.bl _)
     | true =>
      rw [if_pos rfl] at h ⊢
      have L3 := L2.same e3
      refine ⟨cf, oa, P, β2, ρ, S2, L3, ?_⟩
      cases ec : mc ρ S2 with
      | stuck => rw [ec] at h; exact h
      | exc e S4 => rw [ec] at h; intro cls d H' β' e4 L4 ex; exact h cls d H' β' (e1.trans (e2.trans ((Tr.same e3).trans e4))) L4 ex
      | ok dz S4 =>
       rw [ec] at h
       simp only [R.bind] at h
       intro z H4 β4 e4 L4 rz
       cases eg : g S4 dy dz with
       | none => rw [eg] at h; exact h.elim
       | some dw =>
        rw [eg] at h
        exact hg P H4 β4 S4 y z dy dz dw Q L4.at ((ry.mono (Ext.same e3)).mono e4.ext) rz eg fun v H5 e5 r5 =>
         h v H5 β4 (e1.trans (e2.trans ((Tr.same e3).trans (e4.trans (Tr.same e5))))) (L4.same e5) r5
    | _ => exact h.elim
theorem Mv {op op' : CmpOp} {f g : Store → D → D → Option D} {r r' : R2} (ho : OpR X (compareOp op) r) (hf : cH X r f) (ho' : OpR X (compareOp op') r') (hg : cH X r' g) (ha : PM (aj X) W b X a ma) (hb : PM (aj X) W b X b' mb) (hc : PM (aj X) W b X c mc)
  (hm : lastMarks [op, op'] [b', c] = false := by with_unfolding_all rfl) : PM (aj X) W b X (.Compare a [op, op'] [b', c] pos) (pM f g ma mb mc) := bW (pe_chain ho ho' ha hb hc hm) fun σ H Q h => Mu hf hg h
theorem XG {op op' : CmpOp} {f g : Store → D → D → Option D} {r r' : R2} (ho : OpR X (compareOp op) r) (hf : cH X r f) (ho' : OpR X (compareOp op') r') (hg : cH X r' g) (ha : PM (aj X) W b X a ma) (hb : PM (aj X) W b X b' mb) (hc : PM (aj X) W b X c mc)
  (hm : lastMarks [op, op'] [b', c] = false := by with_unfolding_all rfl) : PB (aj X) W b X (.Compare a [op, op'] [b', c] pos) (bH (pM f g ma mb mc)) := vo (pt_chain ho ho' ha hb hc hm) fun σ H Q h => Mu hf hg (Ci h)
end
def R.st {α : Type} (r : R α) (ρ : aF) (k : α → Store → SR) : SR := match r with
 | .ok a S => k a S
 | .exc e S => .exc e ρ S
 | .stuck => .stuck
def dN : SX := fun ρ S => .nx ρ S
def aN (s t : SX) : SX := fun ρ S => match s ρ S with
 | .nx ρ' S' => t ρ' S'
 | r => r
def XH : SX := fun ρ S => .bk ρ S
def XI : SX := fun ρ S => .ct ρ S
def jB (a : EX) : SX := fun ρ S => (a ρ S).st ρ fun _ S' => .nx ρ S'
def aW (a : EX) : SX := fun ρ S => (a ρ S).st ρ fun d S' => .rt d S'
def XJ : SX := fun _ S => .rt .non S
/-- return x: the G6 own container goes with it -/
def Mw (i : Nat) : SX := fun ρ S => match ρ[i]? with
 | some (Sl.sh d) => .rt d S
 | some (Sl.ow d) => .rt d S
 | _ => .stuck
def cI (c : BX) (s t : SX) : SX := fun ρ S => (c ρ S).st ρ fun k S' => if k = true then s ρ S' else t ρ S'
def eG (i : Nat) (a : EX) : SX := fun ρ S => (a ρ S).st ρ fun d S' => .nx (ρ.set i (.sh d)) S'
def xF (i : Nat) (a : EX) : SX := fun ρ S => (a ρ S).st ρ fun d S' => .nx (ρ.set i (.ow d)) S'
def xG (i : Nat) (s : SX) : SX := fun ρ S => match ρ[i]? with
 | some (Sl.ow d) => s (ρ.set i (.sh d)) S
 | _ => s ρ S
abbrev GX := D → aF → Store → Option (aF × Store)
def aX (i : Nat) : GX := fun d ρ S => some (ρ.set i (.sh d), S)
abbrev pP := List D → aF → Store → Option (aF × Store)
def gq : pP := fun ds ρ S => match ds with
 | [] => some (ρ, S)
 | _ => none
def bL (g : GX) (r : pP) : pP := fun ds ρ S => match ds with
 | d :: t => (g d ρ S).bind fun p => r t p.1 p.2
 | [] => none
def fU (g : pP) : GX := fun d ρ S => (gH d).bind fun ds => g ds ρ S
def nW (a : EX) (g : GX) : SX := fun ρ S => (a ρ S).st ρ fun d S' => match g d ρ S' with
 | some (ρ', XM) => .nx ρ' XM
 | none => .stuck
/-- a loop over known items -/
def forL (g : GX) (body : SX) : List D → SX
 | [], ρ, S => .nx ρ S
 | d :: ds, ρ, S => match g d ρ S with
  | none => .stuck
  | some (ρ1, S1) => match body ρ1 S1 with
   | .nx ρ' S' => forL g body ds ρ' S'
   | .ct ρ' S' => forL g body ds ρ' S'
   | .bk ρ' S' => .nx ρ' S'
   | r => r
def gW (it : AX) (g : GX) (body : SX) : SX := fun ρ S => (it ρ S).st ρ fun ds S' => forL g body ds ρ S'
/-- a BV body as a function of its arguments; n: how many slots -/
def aY (n : Nat) (body : SX) : FX := fun ds S => match body (ds.map Sl.sh ++ List.replicate (n - ds.length) Sl.un) S with
 | .nx _ S' => .ok .non S'
 | .rt d S' => .ok d S'
 | .exc e _ S' => .exc e S'
 | _ => .stuck
section
variable {C : Ct} {cf : Cf} {oa : Nat → Option Addr} {P P' : Addr → Prop} {σ : L2.St} {H : Hp} {β : List Addr} {ρ : aF} {S : Store}
/-- a slot is set -/
theorem LR.set (L : LR C cf oa P σ H β ρ S) {i : Nat} {v : V} {d : D} (r : RV C H P β v d) : LR C cf (fun j => if j = i then none else oa j) P (σ.set i (some v)) H β (ρ.set i (.sh d)) S where
 len := by rw [List.length_set, List.length_set]; exact L.len
 p := L.p
 sub := L.sub
 p0 := L.p0
 ext := L.ext
 own := fun j a h => by
  by_cases e : j = i
  ·rw [if_pos e] at h; cases h
  ·rw [if_neg e] at h; exact L.own j a h
 inj := fun j k a h1 h2 => by
  by_cases e : j = i
  ·rw [if_pos e] at h1; cases h1
  ·by_cases e2 : k = i
   ·rw [if_pos e2] at h2; cases h2
   ·rw [if_neg e] at h1; rw [if_neg e2] at h2; exact L.inj j k a h1 h2
 st := L.st
 slot := fun j x h => by
  by_cases e : i = j
  ·subst e
   by_cases hl : i < ρ.length
   ·rw [List.getElem?_set_self hl] at h
    cases h
    exact ⟨v, List.getElem?_set_self (by rw [L.len]; exact hl), r⟩
   ·rw [List.getElem?_eq_none (by rw [List.length_set]; omega)] at h; cases h
  ·rw [List.getElem?_set_ne e] at h
   obtain ⟨u, q1, q2⟩ := L.slot j x h
   exact ⟨u, by rw [List.getElem?_set_ne e]; exact q1, q2⟩
 bV := fun j x h => by
  by_cases e : i = j
  ·subst e
   by_cases hl : i < ρ.length
   ·rw [List.getElem?_set_self hl] at h; cases h
   ·rw [List.getElem?_eq_none (by rw [List.length_set]; omega)] at h; cases h
  ·rw [List.getElem?_set_ne e] at h
   obtain ⟨a, q0, q1, q2⟩ := L.bV j x h
   exact ⟨a, by rw [if_neg fun z => e z.symm]; exact q0, by rw [List.getElem?_set_ne e]; exact q1, q2⟩
 xslot := fun j x h => by
  by_cases e : i = j
  ·subst e
   by_cases hl : i < ρ.length
   ·rw [List.getElem?_set_self hl] at h; cases h
   ·rw [List.getElem?_eq_none (by rw [List.length_set]; omega)] at h; cases h
  ·rw [List.getElem?_set_ne e] at h
   obtain ⟨b, q1, q2⟩ := L.xslot j x h
   exact ⟨b, by rw [List.getElem?_set_ne e]; exact q1, q2⟩
/-- a slot takes a new container of its own -/
theorem LR.XN {a : Addr} (L : LR C cf oa (fun b => P b ∨ b = a) σ H β ρ S) {i : Nat} {d : D} (h0 : cf.H0 a = none) (hn : ∀ j, oa j ≠ some a) (o : cP C H (fun b => P b ∨ b = a) β a d) :
  LR C cf (fun j => if j = i then some a else oa j) (fun b => P b ∨ b = a) (σ.set i (some (.ref a))) H β (ρ.set i (.ow d)) S where
 len := by rw [List.length_set, List.length_set]; exact L.len
 p := L.p
 sub := L.sub
 p0 := L.p0
 ext := L.ext
 own := fun j b h => by
  by_cases e : j = i
  ·rw [if_pos e] at h; cases h; exact ⟨.inr rfl, h0⟩
  ·rw [if_neg e] at h; exact L.own j b h
 inj := fun j k b h1 h2 => by
  by_cases e : j = i
  ·by_cases e2 : k = i
   ·rw [e, e2]
   ·rw [if_pos e] at h1; cases h1; rw [if_neg e2] at h2; exact absurd h2 (hn k)
  ·by_cases e2 : k = i
   ·rw [if_pos e2] at h2; cases h2; rw [if_neg e] at h1; exact absurd h1 (hn j)
   ·rw [if_neg e] at h1; rw [if_neg e2] at h2; exact L.inj j k b h1 h2
 st := L.st
 slot := fun j x h => by
  by_cases e : i = j
  ·subst e
   by_cases hl : i < ρ.length
   ·rw [List.getElem?_set_self hl] at h; cases h
   ·rw [List.getElem?_eq_none (by rw [List.length_set]; omega)] at h; cases h
  ·rw [List.getElem?_set_ne e] at h
   obtain ⟨u, q1, q2⟩ := L.slot j x h
   exact ⟨u, by rw [List.getElem?_set_ne e]; exact q1, q2⟩
 bV := fun j x h => by
  by_cases e : i = j
  ·subst e
   by_cases hl : i < ρ.length
   ·rw [List.getElem?_set_self hl] at h
    cases h
    exact ⟨a, if_pos rfl, List.getElem?_set_self (by rw [L.len]; exact hl), o⟩
   ·rw [List.getElem?_eq_none (by rw [List.length_set]; omega)] at h; cases h
  ·rw [List.getElem?_set_ne e] at h
   obtain ⟨b, q0, q1, q2⟩ := L.bV j x h
   exact ⟨b, by rw [if_neg fun z => e z.symm]; exact q0, by rw [List.getElem?_set_ne e]; exact q1, q2⟩
 xslot := fun j x h => by
  by_cases e : i = j
  ·subst e
   by_cases hl : i < ρ.length
   ·rw [List.getElem?_set_self hl] at h; cases h
   ·rw [List.getElem?_eq_none (by rw [List.length_set]; omega)] at h; cases h
  ·rw [List.getElem?_set_ne e] at h
   obtain ⟨b, q1, q2⟩ := L.xslot j x h
   exact ⟨b, by rw [List.getElem?_set_ne e]; exact q1, q2⟩
/-- a G6 own container is no longer its own -/
theorem LR.Mx (L : LR C cf oa P σ H β ρ S) {i : Nat} {d : D} (h : ρ[i]? = some (Sl.ow d)) : ∃ a, P a ∧ a ∉ β ∧ cf.H0 a = none ∧ σ[i]? = some (some (.ref a)) ∧ cP C H P β a d ∧ LR C cf (fun j => if j = i then none else oa j) (fun b => P b ∧ b ≠ a) σ H β (ρ.set i .un) S := by
 obtain ⟨a, h1, h2, o⟩ := L.bV i d h
 refine ⟨a, (L.own i a h1).1, (L.p a (L.own i a h1).1).2, (L.own i a h1).2, h2, o, ?_⟩
 have L1 : LR C cf (fun j => if j = i then none else oa j) P σ H β (ρ.set i .un) S := by
  refine ⟨by rw [List.length_set]; exact L.len, L.p, L.sub, L.p0, L.ext, fun j b hb => ?_, fun j k b q1 q2 => ?_, L.st, fun j x hx => ?_, fun j x hx => ?_, fun j x hx => ?_⟩
  ·by_cases e : j = i
   ·rw [if_pos e] at hb; cases hb
   ·rw [if_neg e] at hb; exact L.own j b hb
  ·by_cases e : j = i
   ·rw [if_pos e] at q1; cases q1
   ·by_cases e2 : k = i
    ·rw [if_pos e2] at q2; cases q2
    ·rw [if_neg e] at q1; rw [if_neg e2] at q2; exact L.inj j k b q1 q2
  ·by_cases e : i = j
   ·subst e
    by_cases hl : i < ρ.length
    ·rw [List.getElem?_set_self hl] at hx; cases hx
    ·rw [List.getElem?_eq_none (by rw [List.length_set]; omega)] at hx; cases hx
   ·rw [List.getElem?_set_ne e] at hx; exact L.slot j x hx
  ·by_cases e : i = j
   ·subst e
    by_cases hl : i < ρ.length
    ·rw [List.getElem?_set_self hl] at hx; cases hx
    ·rw [List.getElem?_eq_none (by rw [List.length_set]; omega)] at hx; cases hx
   ·rw [List.getElem?_set_ne e] at hx
    obtain ⟨b, q0, q1, q2⟩ := L.bV j x hx
    exact ⟨b, by rw [if_neg fun z => e z.symm]; exact q0, q1, q2⟩
  ·by_cases e : i = j
   ·subst e
    by_cases hl : i < ρ.length
    ·rw [List.getElem?_set_self hl] at hx; cases hx
    ·rw [List.getElem?_eq_none (by rw [List.length_set]; omega)] at hx; cases hx
   ·rw [List.getElem?_set_ne e] at hx
    exact L.xslot j x hx
 have L2 : LR C cf (fun j => if j = i then none else oa j) (fun b => P b ∧ b ≠ a) σ H β (ρ.set i .un) S := L1.less (fun _ z => z.1) (fun b hb => ⟨L.sub b hb, fun z => L.p0 b hb (by rw [z]; exact (L.own i a h1).2)⟩) fun j b hb => by
  have hb' := hb
  by_cases e : j = i
  ·rw [if_pos e] at hb; cases hb
  ·rw [if_neg e] at hb
   exact ⟨(L.own j b hb).1, fun z => e (L.inj j i a (z ▸ hb) h1)⟩
 exact L2
theorem LR.My {σ : L2.St} {ρ : aF} {i : Nat} {a : Addr} {d : D} (L : LR C cf (fun j => if j = i then none else oa j) P σ H β (ρ.set i .un) S) (h2 : σ[i]? = some (some (.ref a))) (rv : RV C H P β (.ref a) d) : LR C cf (fun j => if j = i then none else oa j) P σ H β (ρ.set i (.sh d)) S := by
 have L3 := L.set (i := i) rv
 have e1 : (ρ.set i Sl.un).set i (.sh d) = ρ.set i (.sh d) := by rw [List.set_set]
 have e2 : σ.set i (some (.ref a)) = σ := by
  refine List.ext_getElem? fun j => ?_
  by_cases e : i = j
  ·subst e; rw [h2, List.getElem?_set_self (List.getElem?_eq_some_iff.mp h2).1]
  ·rw [List.getElem?_set_ne e]
 have e3 : (fun j => if j = i then none else (if j = i then none else oa j)) = fun j => if j = i then none else oa j := by
  funext j
  by_cases e : j = i
  ·rw [if_pos e, if_pos e]
  ·rw [if_neg e]
 rw [e1, e2] at L3
 exact e3 ▸ L3
/-- a G6 own list is shared from now on -/
theorem LR.share (L : LR C cf oa P σ H β ρ S) {i : Nat} {ds : List D} (h : ρ[i]? = some (Sl.ow (.lst ds))) : ∃ P', (∀ a, P' a → P a) ∧ LR C cf (fun j => if j = i then none else oa j) P' σ H β (ρ.set i (.sh (.lst ds))) S := by
 obtain ⟨a, hp, nb, h0, h2, ⟨xs, q, r⟩, L2⟩ := L.Mx h
 exact ⟨fun b => P b ∧ b ≠ a, fun _ z => z.1, L2.My h2 (.lst (fun z => z.2 rfl) nb (.inl q) (r.less fun _ z => z.1))⟩
/-- .. a dict: it is frozen -/
theorem LR.XO (L : LR C cf oa P σ H β ρ S) {i : Nat} {ds : List (Key × D)} (h : ρ[i]? = some (Sl.ow (.dct ds))) : ∃ a xs, H a = some (.dK xs) ∧ σ[i]? = some (some (.ref a)) ∧ cf.H0 a = none ∧ a ∉ β ∧ P a ∧ ∀ od, Fx H P β (upd H a (.frz od (.dK xs))) (fun b => P b ∧ b ≠ a) β ∧
  RV C (upd H a (.frz od (.dK xs))) (fun b => P b ∧ b ≠ a) β (.ref a) (.dct ds) ∧ LR C cf (fun j => if j = i then none else oa j) (fun b => P b ∧ b ≠ a) σ (upd H a (.frz od (.dK xs))) β (ρ.set i (.sh (.dct ds))) S := by
 obtain ⟨a, hp, nb, h0, h2, ⟨xs, q, r⟩, L2⟩ := L.Mx h
 refine ⟨a, xs, q, h2, h0, nb, hp, fun od => ?_⟩
 have f : Fx H (fun b => P b ∧ b ≠ a) β (upd H a (.frz od (.dK xs))) (fun b => P b ∧ b ≠ a) β := Fx.frz q
 have rv : RV C (upd H a (.frz od (.dK xs))) (fun b => P b ∧ b ≠ a) β (.ref a) (.dct ds) := .dct (fun z => z.2 rfl) nb ⟨od, upd_same⟩ ((r.less fun _ z => z.1).fx f)
 exact ⟨(Fx.less fun _ z => z.1).trans f, rv, (L2.frz q (fun z => z.2 rfl) nb h0).My h2 rv⟩
end
section
variable {X : Cx} {W : WX} {a e : Expr} {ma : EX} {ka : BX} {s1 s2 : SX} {st : Stmt} {rest : List Stmt} {pos : Pos}
theorem fV : jP (aj X) W X [] dN := zX pss_nil fun D σ H h => by
 obtain ⟨cf, oa, P, β, ρ, S, L, h⟩ := h
 exact h σ H β oa P L Fx.refl
theorem aM (h : fL (aj X) W X st s1) : jP (aj X) W X [st] s1 := pss_one h
theorem aZ (h1 : fL (aj X) W X st s1) (h2 : jP (aj X) W X rest s2) : jP (aj X) W X (st :: rest) (aN s1 s2) := zX (pss_cons h1 h2) fun D σ H h => by
 obtain ⟨cf, oa, P, β, ρ, S, L, h⟩ := h
 refine ⟨cf, oa, P, β, ρ, S, L, ?_⟩
 unfold aN at h
 cases es : s1 ρ S with
 | nx ρ1 S1 =>
  rw [es] at h
  intro σ1 H1 β1 G7 P1 L1 f1
  exact ⟨cf, G7, P1, β1, ρ1, S1, L1, h.fx f1⟩
 | bk ρ1 S1 => rw [es] at h; exact h
 | ct ρ1 S1 => rw [es] at h; exact h
 | rt d S1 => rw [es] at h; exact h
 | exc e ρ1 S1 => rw [es] at h; exact h
 | stuck => rw [es] at h; exact h
/-- what an exception wants, from an XQ to a Xg -/
theorem jC {C : Ct} {cf : Cf} {oa : Nat → Option Addr} {P : Addr → Prop} {σ : L2.St} {b : Bool} {H : Hp} {β : List Addr} {ρ : aF} {S S' : Store} {e : bD}
  (h : ∀ cls x σ' H' β' bf P', LR C cf bf P' σ' H' β' ρ S' → Fx H P β H' P' β' → mD C H' P' β' cls x e → W cls x σ' H') : XP C W cf oa P σ b H β ρ S e S' :=
 fun cls x H' β' t L ex => h cls x σ H' β' oa P L (Fx.of t.ext) ex
theorem pQ (h : PM (aj X) W false X e ma) (hs : swapsWith e none pos.line X.env = pure false := by rfl) : fL (aj X) W X (.Expr e pos) (jB ma) := jw (ps_expr h hs) fun D σ H h => by
 obtain ⟨cf, oa, P, β, ρ, S, L, h⟩ := h
 refine ⟨cf, oa, P, β, ρ, S, L, ?_⟩
 unfold jB at h
 cases ea : ma ρ S with
 | stuck => rw [ea] at h; exact h
 | exc e S1 => rw [ea] at h; exact jC h
 | ok d S1 => rw [ea] at h; intro v H1 β1 t L1 r; exact h σ H1 β1 oa P L1 (Fx.of t.ext)
theorem XR {C : Ct} {cf : Cf} {oa : Nat → Option Addr} {P : Addr → Prop} {σ : L2.St} {H : Hp} {β : List Addr} {ρ : aF} {S : Store} {v : V} {d : D} (L : LR C cf oa P σ H β ρ S) (r : RV C H P β v d) :
  rE cf H β ∧ aP C H cf.P0 β S ∧ RV C H cf.P0 β v d := ⟨L.ext, L.st.less L.sub, r.less L.sub⟩
theorem cA (h : PM (aj X) W false X e ma) : fL (aj X) W X (.Return (some e) pos) (aW ma) := jw (ps_ret h) fun D σ H h => by
 obtain ⟨cf, oa, P, β, ρ, S, L, h⟩ := h
 refine ⟨cf, oa, P, β, ρ, S, L, ?_⟩
 unfold aW at h
 cases ea : ma ρ S with
 | stuck => rw [ea] at h; exact h
 | exc e S1 => rw [ea] at h; exact jC h
 | ok d S1 =>
  rw [ea] at h
  intro v H1 β1 t L1 r
  obtain ⟨q1, q2, q3⟩ := XR L1 r
  exact h v H1 β1 q1 t.ext.fs q2 q3
theorem fB {p q : List Stmt} {c : Expr} (hc : PB (aj X) W false X c ka) (h1 : jP (aj X) W X p s1) (h2 : jP (aj X) W X q s2) : fL (aj X) W X (.If c p q pos) (cI ka s1 s2) := jw (ps_if hc h1 h2) fun D σ H h => by
 obtain ⟨cf, oa, P, β, ρ, S, L, h⟩ := h
 refine ⟨cf, oa, P, β, ρ, S, L, ?_⟩
 unfold cI at h
 cases ea : ka ρ S with
 | stuck => rw [ea] at h; exact h
 | exc e S1 => rw [ea] at h; exact jC h
 | ok k S1 =>
  rw [ea] at h
  simp only [R.st] at h
  intro H1 β1 t L1
  cases k with
  | true => rw [if_pos rfl] at h ⊢; exact ⟨cf, oa, P, β1, ρ, S1, L1, h.fx (Fx.of t.ext)⟩
  | false => rw [if_neg Bool.false_ne_true] at h ⊢; exact ⟨cf, oa, P, β1, ρ, S1, L1, h.fx (Fx.of t.ext)⟩
/-- name = e, by what the statement reads -/
theorem Mz {i : Nat} {t : TE} (h : PS X st (tAsg t (gName i))) (ht : ∀ σ H Q, EM (aj X) W false ma σ H Q → t σ H Q) : fL (aj X) W X st (eG i ma) := jw h fun D σ H h => by
 obtain ⟨cf, oa, P, β, ρ, S, L, h⟩ := h
 refine ht _ _ _ ⟨cf, oa, P, β, ρ, S, L, ?_⟩
 unfold eG at h
 cases ea : ma ρ S with
 | stuck => rw [ea] at h; exact h
 | exc e S1 => rw [ea] at h; exact jC h
 | ok d S1 =>
  rw [ea] at h
  intro v H1 β1 t L1 r
  exact h _ H1 β1 _ P (L1.set r) (Fx.of t.ext)
theorem MA {i : Nat} {t : TE} (h : PS X st (tAsg t (gName i))) (ht : ∀ σ H Q, EO (aj X) W false ma σ H Q → t σ H Q) : fL (aj X) W X st (xF i ma) := jw h fun D σ H h => by
 obtain ⟨cf, oa, P, β, ρ, S, L, h⟩ := h
 refine ht _ _ _ ⟨cf, oa, P, β, ρ, S, L, ?_⟩
 unfold xF at h
 cases ea : ma ρ S with
 | stuck => rw [ea] at h; exact h
 | exc e S1 => rw [ea] at h; exact jC h
 | ok d S1 =>
  rw [ea] at h
  intro a H1 β1 t hn L1 o
  have h0 : cf.H0 a = none := by
   cases z : cf.H0 a with
   | none => rfl
   | some u => exact absurd hn (L.ext.stay a (by rw [z]; exact Option.some_ne_none _))
  have no : ∀ j, oa j ≠ some a := fun j z => (L.p a (L.own j a z).1).1 hn
  exact h _ H1 β1 _ _ (L1.XN h0 no o) (Fx.more t.ext hn)
/-- a dict may be frozen ahead of a statement -/
def XS (t : TS) : TS := fun D σ H => t D σ H ∨ ∃ a xs, H a = some (.dK xs) ∧ ∀ od, t D σ (upd H a (.frz od (.dK xs)))
theorem XU {t : TS} (h : PS X st t) : PS X st (XS t) := ⟨fun pins s σ H D I hw => by
 rcases hw with hw | ⟨a, xs, e, hw⟩
 ·exact h.run pins s σ H D I hw
 ·obtain ⟨od, I2⟩ := I.lock e True.intro
  exact h.run pins s σ _ D I2 (hw od)⟩
theorem MB {i : Nat} (h : fL (aj X) W X st s1) : fL (aj X) W X st (xG i s1) := jw (XU h) fun D σ H h => by
 obtain ⟨cf, oa, P, β, ρ, S, L, h⟩ := h
 unfold xG at h
 cases ei : ρ[i]? with
 | none => rw [ei] at h; exact .inl ⟨cf, oa, P, β, ρ, S, L, h⟩
 | some sl =>
  rw [ei] at h
  cases sl with
  | un => exact .inl ⟨cf, oa, P, β, ρ, S, L, h⟩
  | ex _ => exact .inl ⟨cf, oa, P, β, ρ, S, L, h⟩
  | sh d => exact .inl ⟨cf, oa, P, β, ρ, S, L, h⟩
  | ow d =>
   cases d with
   | lst ds =>
    obtain ⟨P', hs, L'⟩ := L.share ei
    exact .inl ⟨cf, _, P', β, _, S, L', h.fx (Fx.less hs)⟩
   | dct ds =>
    obtain ⟨a, xs, q, e1, h0, nb, hp, hh⟩ := L.XO ei
    refine .inr ⟨a, xs, q, fun od => ?_⟩
    obtain ⟨f, _, L'⟩ := hh od
    exact ⟨cf, _, _, β, _, S, L', h.fx f⟩
   | _ => obtain ⟨a, e1, e2, o⟩ := L.bV i _ ei; exact o.elim
def GM (C : Ct) (T : GX) : TG := fun v σ H Q => ∃ cf oa P β ρ S d, LR C cf oa P σ H β ρ S ∧ RV C H P β v d ∧ (match T d ρ S with
 | some p => ∀ σ' H' β' bf P', LR C cf bf P' σ' H' β' p.1 p.2 → Fx H P β H' P' β' → Q σ' H'
 | none => False)
def XW (C : Ct) (T : pP) : TGs := fun vs σ H Q => ∃ cf oa P β ρ S ds, LR C cf oa P σ H β ρ S ∧ aA C H P β vs ds ∧ (match T ds ρ S with
 | some p => ∀ σ' H' β' bf P', LR C cf bf P' σ' H' β' p.1 p.2 → Fx H P β H' P' β' → Q σ' H'
 | none => False)
abbrev xH (X : Cx) (e : Expr) (T : GX) : Prop := PG X e (GM (aj X) T)
abbrev Ck (X : Cx) (es : List Expr) (T : pP) : Prop := PGs X es (XW (aj X) T)
theorem G8 {X : Cx} {e : Expr} {t t' : TG} (h : PG X e t) (i : ∀ v σ H Q, t' v σ H Q → t v σ H Q) : PG X e t' := ⟨fun pins s σ H v u Q I r hw => h.run pins s σ H v u Q I r (i v σ H Q hw)⟩
theorem MC {X : Cx} {e : List Expr} {t t' : TGs} (h : PGs X e t) (i : ∀ v σ H Q, t' v σ H Q → t v σ H Q) : PGs X e t' := ⟨fun pins s σ H v u Q I r hw => h.run pins s σ H v u Q I r (i v σ H Q hw)⟩
variable {tg : Expr} {tQ : List Expr} {g : GX} {gs : pP}
theorem XX {i : Nat} (h : PG X tg (gName i)) : xH X tg (aX i) := G8 h fun v σ H Q h => by
 obtain ⟨cf, oa, P, β, ρ, S, d, L, r, h⟩ := h
 exact h _ H β _ P (L.set r) Fx.refl
theorem rG : Ck X [] gq := MC pgs_nil fun vs σ H Q h => by
 obtain ⟨cf, oa, P, β, ρ, S, ds, L, r, h⟩ := h
 cases r with
 | nil => exact ⟨rfl, h σ H β oa P L Fx.refl⟩
 | cons r rs => exact h.elim
theorem gY (h1 : xH X tg g) (h2 : Ck X tQ gs) (hs : (assignEach (tg :: tQ) X.env).map (·.2) = assign tg X.env :: (assignEach tQ X.env).map (·.2) := by rfl) : Ck X (tg :: tQ) (bL g gs) := MC (pgs_cons h1 h2 hs) fun vs σ H Q h => by
 obtain ⟨cf, oa, P, β, ρ, S, ds, L, r, h⟩ := h
 cases r with
 | nil => exact h.elim
 | @cons v vs d ds r rs =>
  refine ⟨v, vs, rfl, cf, oa, P, β, ρ, S, d, L, r, ?_⟩
  simp only [bL] at h
  cases eg : g d ρ S with
  | none => rw [eg] at h; exact h.elim
  | some p =>
   rw [eg] at h
   intro σ1 H1 β1 G7 P1 L1 f1
   refine ⟨cf, G7, P1, β1, p.1, p.2, ds, L1, rs.fx f1, ?_⟩
   simp only [Option.bind] at h
   cases e2 : gs ds p.1 p.2 with
   | none => rw [e2] at h; exact h.elim
   | some q => rw [e2] at h; intro σ2 H2 β2 jh P2 L2 f2; exact h σ2 H2 β2 jh P2 L2 (f1.trans f2)
theorem rH {k : Nat} {n : Nat} (hc : X.calm = true) (h : Ck X tQ gs) (hgs : ∀ ds ρ S, ds.length ≠ n → gs ds ρ S = none) (hn : (assignEach tQ X.env).length = n := by rfl) (hst : (assignEach tQ X.env).findIdx? (·.1) = none := by rfl) : xH X (.Tuple tQ k pos) (fU gs) :=
 G8 (pg_tup hc h hn hst) fun v σ H Q h => by
  obtain ⟨cf, oa, P, β, ρ, S, d, L, r, h⟩ := h
  unfold fU at h
  cases ev : gH d with
  | none => rw [ev] at h; exact h.elim
  | some ds =>
   rw [ev] at h
   obtain ⟨a, xs, rfl, q1, q2⟩ := r.gH ev
   refine ⟨a, xs, rfl, q1, ?_, cf, oa, P, β, ρ, S, ds, L, q2, h⟩
   by_cases hl : ds.length = n
   ·rw [q2.length]; exact hl
   ·simp only [Option.bind] at h
    rw [hgs ds ρ S hl] at h
    exact h.elim
theorem G9 (he : PM (aj X) W false X e ma) (hg : xH X tg g) (hs : swapsWithSole [tg] e pos.line X.env = pure false := by rfl) (hw : swappedStores [tg] e X.env = pure none := by rfl)
  (h1 : (assignEach [tg] X.env).map (·.2) = [assign tg X.env] := by rfl) : fL (aj X) W X (.Assign [tg] e pos) (nW ma g) := jw (ps_asg he hg hs hw h1) fun D σ H h => by
 obtain ⟨cf, oa, P, β, ρ, S, L, h⟩ := h
 refine ⟨cf, oa, P, β, ρ, S, L, ?_⟩
 unfold nW at h
 cases ea : ma ρ S with
 | stuck => rw [ea] at h; exact h
 | exc e S1 => rw [ea] at h; exact jC h
 | ok d S1 =>
  rw [ea] at h
  simp only [R.st] at h
  intro v H1 β1 t L1 r
  refine ⟨cf, oa, P, β1, ρ, S1, d, L1, r, ?_⟩
  cases eg : g d ρ S1 with
  | none => rw [eg] at h; exact h.elim
  | some p => rw [eg] at h; intro σ2 H2 β2 jh P2 L2 f2; exact h σ2 H2 β2 jh P2 L2 ((Fx.of t.ext).trans f2)
def lu (C : Ct) (J : It) (ds : List D) (H : Hp) (P : Addr → Prop) (β : List Addr) : Prop :=
 ∀ (i : Nat) (H2 : Hp) (P2 : Addr → Prop) (β2 : List Addr), Fx H P β H2 P2 β2 → (∀ p, H2 p = none → ¬ P2 p ∧ p ∉ β2) →
  (∀ d, ds[i]? = some d → J.go i H2 ∧ ∀ x H3, J.yld i H2 x H3 → Same H2 H3 ∧ RV C H3 P2 β2 x d) ∧ (ds.length = i → J.stop i H2)
def IM (C : Ct) (W : WX) (b : Bool) (m : AX) : TI := fun σ H R => ∃ cf oa P β ρ S, LR C cf oa P σ H β ρ S ∧ (match m ρ S with
 | .ok ds S' => ∀ J H' β', Tr b H β S H' β' S' → LR C cf oa P σ H' β' ρ S' → lu C J ds H' P β' → R J H'
 | .exc e S' => XP C W cf oa P σ b H β ρ S e S'
 | .stuck => False)
abbrev pU (C : Ct) (W : WX) (b : Bool) (X : Cx) (tg iter : Expr) (m : AX) : Prop := PI X tg iter (IM C W b m)
theorem vC {X : Cx} {tg iter : Expr} {t t' : TI} (h : PI X tg iter t) (i : ∀ σ H R, t' σ H R → t σ H R) : PI X tg iter t' := ⟨fun pins s σ H R I hw => h.run pins s σ H R I (i σ H R hw)⟩
variable {iter : Expr} {it : AX} {body : List Stmt}
theorem LR.new {C : Ct} {cf : Cf} {oa : Nat → Option Addr} {P : Addr → Prop} {σ : L2.St} {H : Hp} {β : List Addr} {ρ : aF} {S : Store} (L : LR C cf oa P σ H β ρ S) : ∀ p, H p = none → ¬ P p ∧ p ∉ β := fun _ h => ⟨L.zW h, L.pJ h⟩
theorem mH (hp : PassesOwn (model X.prog X.w) X.A X.env X.xe) (hc : X.calm = true) (hi : pU (aj X) W false X tg iter it) (hg : xH X tg g) (hb : jP (aj X) W X body s1)
  (hs : ∀ x, foldedSetIterable iter X.env x = pure x := by intro _; rfl) : fL (aj X) W X (.For tg iter body [] pos) (gW it g s1) := jw (ps_for hp hc hi hg hb hs) fun D σ H h => by
 obtain ⟨cf, oa, P, β, ρ, S, L, h⟩ := h
 refine ⟨cf, oa, P, β, ρ, S, L, ?_⟩
 unfold gW at h
 cases ea : it ρ S with
 | stuck => rw [ea] at h; exact h
 | exc e S1 => rw [ea] at h; exact jC h
 | ok ds S1 =>
  rw [ea] at h
  intro J H1 β1 t L1 im
  have h1 : SQ (aj X) W cf H1 P β1 D (forL g s1 ds ρ S1) := SQ.fx (Fx.of t.ext) h
  have im' : lu (aj X) J ds H1 P β1 := im
  refine ⟨fun i m σ2 H2 => m = ds.length - i ∧ i ≤ ds.length ∧ ∃ jh P2 β2 ρ2 S2, LR (aj X) cf jh P2 σ2 H2 β2 ρ2 S2 ∧ Fx H1 P β1 H2 P2 β2 ∧ SQ (aj X) W cf H2 P2 β2 D (forL g s1 (ds.drop i) ρ2 S2),
   ⟨ds.length, by simp, Nat.zero_le _, oa, P, β1, ρ, S1, L1, Fx.refl, h1⟩, ?_⟩
  rintro i m σ2 H2 ⟨rfl, hi, jh, P2, β2, ρ2, S2, L2, f2, q⟩
  obtain ⟨go, stop⟩ := im' i H2 P2 β2 f2 L2.new
  by_cases hl : i < ds.length
  ·right
   have hd : ds[i]? = some ds[i] := List.getElem?_eq_getElem hl
   obtain ⟨g1, g2⟩ := go _ hd
   rw [List.drop_eq_getElem_cons hl] at q
   simp only [forL] at q
   refine ⟨g1, fun σ' H' => ∃ XY P3 β3 ρ3 S3, LR (aj X) cf XY P3 σ' H' β3 ρ3 S3 ∧ Fx H1 P β1 H' P3 β3 ∧ SQ (aj X) W cf H' P3 β3 D (forL g s1 (ds.drop (i + 1)) ρ3 S3), fun σ' H' hN => ⟨ds.length - (i + 1), by omega, rfl, hl, hN⟩, fun x H3 y => ?_⟩
   obtain ⟨e3, r3⟩ := g2 x H3 y
   have L3 := L2.same e3
   have f3 : Fx H2 P2 β2 H3 P2 β2 := Fx.of (Ext.same e3)
   refine ⟨cf, jh, P2, β2, ρ2, S2, ds[i], L3, r3, ?_⟩
   cases eg : g ds[i] ρ2 S2 with
   | none => rw [eg] at q; exact q.elim
   | some p =>
    rw [eg] at q
    intro σ4 H4 β4 XZ P4 L4 f4
    refine ⟨cf, XZ, P4, β4, p.1, p.2, L4, ?_⟩
    have vD := f3.trans f4
    simp only at q
    cases es : s1 p.1 p.2 with
    | nx ρ5 S5 => rw [es] at q; intro σ5 H5 β5 Ge P5 L5 f5; exact ⟨Ge, P5, β5, ρ5, S5, L5, f2.trans (vD.trans f5), SQ.fx (vD.trans f5) q⟩
    | ct ρ5 S5 => rw [es] at q; intro σ5 H5 β5 Ge P5 L5 f5; exact ⟨Ge, P5, β5, ρ5, S5, L5, f2.trans (vD.trans f5), SQ.fx (vD.trans f5) q⟩
    | bk ρ5 S5 => rw [es] at q; exact SQ.fx (r := .nx ρ5 S5) vD q
    | rt d S5 => rw [es] at q; exact SQ.fx (r := .rt d S5) vD q
    | exc e ρ5 S5 => rw [es] at q; exact SQ.fx (r := .exc e ρ5 S5) vD q
    | stuck => rw [es] at q; exact q
  ·left
   have e : i = ds.length := by omega
   subst e
   rw [List.drop_length] at q
   exact ⟨stop rfl, q σ2 H2 β2 jh P2 L2 Fx.refl⟩
end
def mJ (x : Str) : List D := x.cps.toList.map fun c => .str ⟨#[c]⟩
def kD : Key → D
 | .inl i => .int i
 | .inr x => .str x
theorem Gf {C : Ct} {H : Hp} {P : Addr → Prop} {β : List Addr} : ∀ k : Key, RV C H P β (kV k) (kD k)
 | .inl i => .int i
 | .inr x => .str x
/-- what a loop over a value sees -/
def itemsOf (d : D) : Option (List D) := match d with
 | .lst xs => some xs
 | .tup xs => some xs
 | .str x => some (mJ x)
 | .dct kvs => some (kvs.map fun p => kD p.1)
 | _ => none
def lA (a : EX) : AX := fun ρ S => (a ρ S).bind fun x S1 => R.opt (itemsOf x) S1
def rJ (lo : Int) (n : Nat) : List D := (List.range n).map fun i => .int (lo + (i : Nat))
section
variable {X : Cx} {W : WX} {b : Bool} {tg e : Expr} {ma : EX}
theorem MD {te : TE} (he : PE X e te) : PI X tg e (fun σ H R => te σ H fun x H1 =>
  (∃ a, x = .ref a ∧ (∃ xs, SqL X.K H1 a xs) ∧ R (Itl X.K a) H1) ∨ (∃ a, x = .ref a ∧ (∃ xs, SqT X.K H1 a xs) ∧ R (Itt X.K a) H1) ∨ ∃ z, x = .str z ∧ R (Its z) H1) := by
 refine ⟨fun pins s σ H R I h => ?_⟩
 refine thn (he.run pins s σ H _ I h) fun v s1 ⟨x, H1, I1, r1, q1⟩ => ?_
 rcases q1 with ⟨a, e, ⟨xs, hq⟩, q⟩ | ⟨a, e, ⟨xs, hq⟩, q⟩ | ⟨z, e, q⟩
 ·subst e
  cases r1
  obtain ⟨its, rv, p, hz⟩ := I1.list hq
  refine wpAny_pyIter_list p.isList ?_
  refine ⟨s1.heap.objs.size, [s1.heap.objs.size], _, _, H1, rfl, I1.kept (t' := s1.toks) fun b o e => Heap.get?_push_of_some _ e, turn_list a _, ⟨_, Heap.get?_push_size _ rfl, rfl, rfl⟩, fun b hb => ?_, q⟩
  have e : b = s1.heap.objs.size := by simpa using hb
  subst e
  exact I1.fpOk (Nat.le_refl _) (I1.hok.fresh (Nat.le_refl _))
 ·subst e
  cases r1
  obtain ⟨its, rv, p, hz⟩ := I1.tuple hq
  refine wpAny_pyIter_tuple (show s1.heap.IsTuple a its.toArray from p) ?_
  refine ⟨s1.heap.objs.size, [s1.heap.objs.size], _, _, H1, rfl, I1.kept (t' := s1.toks) fun b o e => Heap.get?_push_of_some _ e, turn_tuple a _, ⟨_, Heap.get?_push_size _ rfl, rfl, rfl⟩, fun b hb => ?_, q⟩
  have e : b = s1.heap.objs.size := by simpa using hb
  subst e
  exact I1.fpOk (Nat.le_refl _) (I1.hok.fresh (Nat.le_refl _))
 ·subst e
  obtain ⟨t, rfl⟩ := r1
  cases ha : z.cps.all (· < 128)
  ·exact wpAny_pyIter_wide ha (pi_one (tk := s1.toks) I1 _ (turn_str _ z t "str_iterator" (.inr rfl)) ⟨_, Heap.get?_push_size _ rfl, rfl, rfl⟩ q)
  ·exact wpAny_pyIter_ascii ha (pi_one (tk := s1.toks) I1 _ (turn_str _ z t "str_ascii_iterator" (.inl rfl)) ⟨_, Heap.get?_push_size _ rfl, rfl, rfl⟩ q)
/-- a list, a tuple bR stands still -/
theorem A8 {C : Ct} {H : Hp} {P : Addr → Prop} {β : List Addr} {a : Addr} {xs : List V} {ds : List D} (hs : ∀ H2 P2 β2, Fx H P β H2 P2 β2 → SqL C.K H2 a xs) (rs : aA C H P β xs ds) : lu C (Itl C.K a) ds H P β := by
 intro i H2 P2 β2 f n
 have q := hs H2 P2 β2 f
 have r2 := rs.fx f
 refine ⟨fun d hd => ?_, fun hl => ⟨xs, q, by rw [r2.length]; exact Nat.le_of_eq hl⟩⟩
 obtain ⟨v, hv, rv⟩ := r2.get hd
 refine ⟨⟨xs, v, q, hv⟩, fun x H3 y => ?_⟩
 obtain ⟨e, y⟩ := y
 subst e
 refine ⟨Same.refl _, ?_⟩
 have := y xs q
 rw [hv] at this
 cases this
 exact rv
theorem Cm {C : Ct} {H : Hp} {P : Addr → Prop} {β : List Addr} {a : Addr} {xs : List V} {ds : List D} (hs : ∀ H2 P2 β2, Fx H P β H2 P2 β2 → SqT C.K H2 a xs) (rs : aA C H P β xs ds) : lu C (Itt C.K a) ds H P β := by
 intro i H2 P2 β2 f n
 have q := hs H2 P2 β2 f
 have r2 := rs.fx f
 refine ⟨fun d hd => ?_, fun hl => ⟨xs, q, by rw [r2.length]; exact Nat.le_of_eq hl⟩⟩
 obtain ⟨v, hv, rv⟩ := r2.get hd
 refine ⟨⟨xs, v, q, hv⟩, fun x H3 y => ?_⟩
 obtain ⟨e, y⟩ := y
 subst e
 refine ⟨Same.refl _, ?_⟩
 have := y xs q
 rw [hv] at this
 cases this
 exact rv
theorem A9 {C : Ct} {H : Hp} {P : Addr → Prop} {β : List Addr} : ∀ {xs : List (Key × V)} {ds : List (Key × D)} {i : Nat} {k : Key} {d : D}, aG C H P β xs ds → ds[i]? = some (k, d) → ∃ v, xs[i]? = some (k, v) ∧ RV C H P β v d
 | _, _, 0, _, _, .cons h _, e => by cases e; exact ⟨_, rfl, h⟩
 | _, _, i + 1, k, d, .cons (ds := ds) _ t, e => by
  have e' : ds[i]? = some (k, d) := by simpa using e
  obtain ⟨v, h1, h2⟩ := A9 t e'
  exact ⟨v, by simpa using h1, h2⟩
 | _, _, _, _, _, .nil, e => by cases e
theorem Aa {C : Ct} {H : Hp} {P : Addr → Prop} {β : List Addr} : ∀ {xs : List (Key × V)} {ds : List (Key × D)}, aG C H P β xs ds → xs.length = ds.length
 | _, _, .nil => rfl
 | _, _, .cons _ t => by simp [Aa t]
/-- a b1Q keys -/
theorem Y0 {C : Ct} {H : Hp} {P : Addr → Prop} {β : List Addr} {a : Addr} {o : Obj} {xs : List (Key × V)} {ds : List (Key × D)} (hp : ¬ P a) (hb : a ∉ β) (e : H a = some (.frz o (.dK xs))) (rs : aG C H P β xs ds) : lu C (Itk a o xs) (ds.map fun p => kD p.1) H P β := by
 intro i H2 P2 β2 f n
 have q := f.fz _ _ _ e
 refine ⟨fun d hd => ?_, fun hl => ⟨q, by rw [Aa rs]; rw [List.length_map] at hl; exact Nat.le_of_eq hl⟩⟩
 rw [List.getElem?_map] at hd
 cases ed : ds[i]? with
 | none => rw [ed] at hd; cases hd
 | some p =>
  obtain ⟨k, d'⟩ := p
  rw [ed] at hd
  cases hd
  obtain ⟨v, hv, _⟩ := A9 rs ed
  refine ⟨⟨q, (List.getElem?_eq_some_iff.mp hv).1⟩, fun x H3 y => ?_⟩
  obtain ⟨rfl, k', v', hk, rfl⟩ := y
  rw [hv] at hk
  cases hk
  exact ⟨Same.refl _, Gf _⟩
theorem ME {X : Cx} {tg e : Expr} {w1 w2 : TI} (a : PI X tg e w1) (b : PI X tg e w2) : PI X tg e (fun σ H R => w1 σ H R ∨ w2 σ H R) := ⟨fun pins s σ H R I h => h.elim (a.run pins s σ H R I) (b.run pins s σ H R I)⟩
theorem MF {C : Ct} {H : Hp} {P : Addr → Prop} {β : List Addr} {z : Str} : lu C (Its z) (mJ z) H P β := by
 intro i H2 P2 β2 f n
 refine ⟨fun d hd => ?_, fun hl => ?_⟩
 ·unfold mJ at hd
  rw [List.getElem?_map] at hd
  have hi : i < z.cps.toList.length := by
   cases e : z.cps.toList[i]? with
   | none => rw [e] at hd; cases hd
   | some c => exact (List.getElem?_eq_some_iff.mp e).1
  refine ⟨show i < z.cps.size by simpa using hi, fun x H3 y => ?_⟩
  obtain ⟨e, c, hc, ex⟩ := y
  subst e ex
  refine ⟨Same.refl _, ?_⟩
  rw [Array.getElem?_toList, hc] at hd
  cases hd
  exact .str _
 ·show z.cps.size ≤ i
  unfold mJ at hl
  have := Nat.le_of_eq hl; simpa using this
theorem Y4 {C : Ct} {H : Hp} {P : Addr → Prop} {β : List Addr} {lo : Int} {n : Nat} : lu C (Itr lo n) (rJ lo n) H P β := by
 intro i H2 P2 β2 f _
 refine ⟨fun d hd => ?_, fun hl => ?_⟩
 ·unfold rJ at hd
  have hi : i < n := by
   by_cases h : i < n
   ·exact h
   ·rw [List.getElem?_eq_none (by simp; omega)] at hd; cases hd
  refine ⟨hi, fun x H3 y => ?_⟩
  obtain ⟨e, ex⟩ := y
  subst e ex
  refine ⟨Same.refl _, ?_⟩
  rw [List.getElem?_map, List.getElem?_range hi] at hd
  cases hd
  exact .int _
 ·show n ≤ i
  have := Nat.le_of_eq hl; simpa [rJ] using this
theorem rK (he : PM (aj X) W b X e ma) : pU (aj X) W b X tg e (lA ma) := vC (ME (MD he) (pi_keys he)) fun σ H R h => by
 obtain ⟨cf, oa, P, β, ρ, S, L, h⟩ := h
 unfold lA at h
 cases ea : ma ρ S with
 | stuck => rw [ea] at h; exact h.elim
 | exc e S1 => rw [ea] at h; exact .inl ⟨cf, oa, P, β, ρ, S, L, by rw [ea]; exact h⟩
 | ok d S1 =>
  rw [ea] at h
  by_cases hd : ∃ ks, d = .dct ks
  ·obtain ⟨ks, rfl⟩ := hd
   refine .inr ⟨cf, oa, P, β, ρ, S, L, ?_⟩
   rw [ea]
   intro v H1 β1 t L1 r
   cases r with
   | dct hp hb hr hs =>
    obtain ⟨o, q⟩ := hr
    exact ⟨_, o, rfl, .inl ⟨_, q, h _ H1 β1 t L1 (Y0 hp hb q hs)⟩⟩
  refine .inl ⟨cf, oa, P, β, ρ, S, L, ?_⟩
  rw [ea]
  intro v H1 β1 t L1 r
  cases r with
  | lst hp hb hr hs =>
   refine .inl ⟨_, rfl, ⟨_, .inl hr⟩, h _ H1 β1 t L1 ?_⟩
   exact A8 (fun H2 P2 β2 f => .inl (f.con _ _ hp hb hr).1) hs
  | tup hr hs =>
   refine .inr (.inl ⟨_, rfl, ⟨_, .inl hr⟩, h _ H1 β1 t L1 ?_⟩)
   exact Cm (fun H2 P2 β2 f => .inl (f.tups _ _ hr)) hs
  | eV k hs =>
   refine .inr (.inl ⟨_, rfl, ⟨_, .inr k⟩, h _ H1 β1 t L1 ?_⟩)
   exact Cm (fun H2 P2 β2 f => .inr k) hs
  | fK k hs =>
   refine .inl ⟨_, rfl, ⟨_, .inr k⟩, h _ H1 β1 t L1 ?_⟩
   exact A8 (fun H2 P2 β2 f => .inr k) hs
  | str z => exact .inr (.inr ⟨z, rfl, h _ H1 β1 t L1 MF⟩)
  | dct _ _ _ _ => exact (hd ⟨_, rfl⟩).elim
  | _ => exact h.elim
end
def cJ (ρ : aF) : List Nat → aF
 | [] => ρ
 | v :: vs => (cJ ρ vs).set v .un
def gA (vs : List Nat) (g : GX) (t : BX) (e : EX) (ρ : aF) : List D → List D → Store → R (List D)
 | [], acc, S => .ok acc S
 | d :: ds, acc, S => match g d ρ S with
  | none => .stuck
  | some p => match t p.1 p.2 with
   | .ok true S2 => match e p.1 S2 with
    | .ok y S3 => if acc.length < sizeLine then gA vs g t e ρ ds (acc ++ [y]) S3 else .stuck
    | _ => .stuck
   | .ok false S2 => gA vs g t e ρ ds acc S2
   | _ => .stuck
/-- [e for .. in it if t]; vs: the slots of the Gg own names -/
def mK (it : AX) (vs : List Nat) (g : GX) (t : BX) (e : EX) : EX := fun ρ S => (it ρ S).bind fun ds S1 => (gA vs g t e (cJ ρ vs) ds [] S1).bind fun ys S2 => .ok (.lst ys) S2
def i6 : BX := fun _ S => .ok true S
section
variable {C : Ct} {cf : Cf} {oa : Nat → Option Addr} {P : Addr → Prop} {σ : L2.St} {H H' : Hp} {β β' : List Addr} {ρ : aF} {S S' : Store}
/-- a container bR no slot has and bR is kept apart is changed -/
theorem LR.nY {p : Addr} {o : HO} (L : LR C cf oa P σ H β ρ S) (hp : P p) (h0 : cf.H0 p = none) (hn : ∀ i, oa i ≠ some p) (ht : ∀ xs, ¬ Rd H p (.tup xs)) (hf : ∀ o u, H p ≠ some (.frz o u)) : LR C cf oa P σ (upd H p o) β ρ S where
 len := L.len
 p := fun a h => by
  refine ⟨?_, (L.p a h).2⟩
  by_cases e : a = p
  ·rw [e, upd_same]; exact Option.some_ne_none _
  ·rw [upd_ne e]; exact (L.p a h).1
 sub := L.sub
 p0 := L.p0
 ext := ⟨L.ext.pre, fun a u h1 h2 => by
   have ne : a ≠ p := fun e => by rw [e, h0] at h1; cases h1
   rw [upd_ne ne]; exact L.ext.keep a u h1 h2, L.ext.fresh, fun a xs h => by
   have r := L.ext.tups a xs h
   have ne : a ≠ p := fun e => ht xs (e ▸ r)
   unfold Rd; rw [upd_ne ne]; exact r, fun a h => by
   by_cases e : a = p
   ·rw [e, upd_same]; exact Option.some_ne_none _
   ·rw [upd_ne e]; exact L.ext.stay a h, fun a o u h => by rw [upd_ne (fun z => by rw [z, h0] at h; cases h)]; exact L.ext.dY a o u h⟩
 own := L.own
 inj := L.inj
 st := L.st.own hp (L.p p hp).2 ht
 slot := fun i d h => let ⟨v, q1, q2⟩ := L.slot i d h; ⟨v, q1, q2.set (.inl hp) ht⟩
 bV := fun i d h => let ⟨a, q1, q2, q3⟩ := L.bV i d h; ⟨a, q1, q2, q3.set (.inl hp) ht fun e => hn i (e ▸ q1)⟩
 xslot := fun i x h => let ⟨a, h1, h2⟩ := L.xslot i x h; ⟨a, h1, h2.set hp ht⟩
theorem Tr.nY {b : Bool} {p : Addr} {o : HO} (t : Tr b H β S H' β' S') (hp : H p = none) (ht : ∀ xs, ¬ Rd H' p (.tup xs)) (hf : ∀ o u, H' p ≠ some (.frz o u)) : Tr b H β S (upd H' p o) β' S' where
 ext := ⟨t.ext.pre, fun a u h1 h2 => by rw [upd_ne (ne_of_none h1 hp)]; exact t.ext.keep a u h1 h2, t.ext.fresh, fun a xs h => by
   have r := t.ext.tups a xs h
   have ne : a ≠ p := fun e => ht xs (e ▸ r)
   unfold Rd; rw [upd_ne ne]; exact r, fun a h => by
   by_cases e : a = p
   ·rw [e, upd_same]; exact Option.some_ne_none _
   ·rw [upd_ne e]; exact t.ext.stay a h, fun a o u h => by rw [upd_ne (fun z => by rw [z, hp] at h; cases h)]; exact t.ext.dY a o u h⟩
 ro := fun e => let ⟨q1, q2, q3⟩ := t.ro e; ⟨fun a u h => by rw [upd_ne (ne_of_none h hp)]; exact q1 a u h, q2, q3⟩
theorem vG (ρ : aF) : ∀ vs : List Nat, (cJ ρ vs).length = ρ.length
 | [] => rfl
 | v :: vs => by unfold cJ; rw [List.length_set, vG ρ vs]
theorem Ab {ρ : aF} {i : Nat} : ∀ {vs : List Nat}, i ∈ vs → i < ρ.length → (cJ ρ vs)[i]? = some .un
 | [], h, _ => nomatch h
 | v :: vs, h, hl => by
  unfold cJ
  by_cases e : v = i
  ·subst e; rw [List.getElem?_set_self (by rw [vG]; exact hl)]
  ·rw [List.getElem?_set_ne e]
   exact Ab ((List.mem_cons.mp h).resolve_left fun z => e z.symm) hl
theorem Cp {ρ : aF} {i : Nat} : ∀ {vs : List Nat}, i ∉ vs → (cJ ρ vs)[i]? = ρ[i]?
 | [], _ => rfl
 | v :: vs, h => by
  unfold cJ
  rw [List.getElem?_set_ne fun e => h (by rw [e]; exact List.mem_cons_self)]
  exact Cp fun m => h (List.mem_cons_of_mem _ m)
/-- the Gg own names Xh -/
theorem LR.wipe (L : LR C cf oa P σ H β ρ S) (vs : List Nat) : LR C cf oa P (L2.wipe σ vs) H β (cJ ρ vs) S where
 len := by rw [wipe_length, vG]; exact L.len
 p := L.p
 sub := L.sub
 p0 := L.p0
 ext := L.ext
 own := L.own
 inj := L.inj
 st := L.st
 slot := fun i d h => by
  by_cases m : i ∈ vs
  ·by_cases hl : i < ρ.length
   ·rw [Ab m hl] at h; cases h
   ·rw [List.getElem?_eq_none (by rw [vG]; omega)] at h; cases h
  ·rw [Cp m] at h
   obtain ⟨v, q1, q2⟩ := L.slot i d h
   exact ⟨v, by rw [L2.wipe_out m]; exact q1, q2⟩
 bV := fun i d h => by
  by_cases m : i ∈ vs
  ·by_cases hl : i < ρ.length
   ·rw [Ab m hl] at h; cases h
   ·rw [List.getElem?_eq_none (by rw [vG]; omega)] at h; cases h
  ·rw [Cp m] at h
   obtain ⟨a, q0, q1, q2⟩ := L.bV i d h
   exact ⟨a, q0, by rw [L2.wipe_out m]; exact q1, q2⟩
 xslot := fun i d h => by
  by_cases m : i ∈ vs
  ·by_cases hl : i < ρ.length
   ·rw [Ab m hl] at h; cases h
   ·rw [List.getElem?_eq_none (by rw [vG]; omega)] at h; cases h
  ·rw [Cp m] at h
   obtain ⟨a, q1, q2⟩ := L.xslot i d h
   exact ⟨a, by rw [L2.wipe_out m]; exact q1, q2⟩
/-- the Gg target: it stores to the Gg own slots alone, and nothing else changes -/
def BG (X : Cx) (vs : List Nat) (g : GX) (t : TG) : Prop :=
 ∀ (cf : Cf) (oa : Nat → Option Addr) (P : Addr → Prop) (σ : L2.St) (H : Hp) (β : List Addr) (ρ : aF) (S : Store) (v : V) (d : D) (p : aF × Store) (Q : L2.St → Hp → Prop), LR (aj X) cf oa P (L2.wipe σ vs) H β (cJ ρ vs) S → RV (aj X) H P β v d → g d (cJ ρ vs) S = some p →
  (∀ σ', L2.wipe σ' vs = L2.wipe σ vs → LR (aj X) cf oa P σ' H β p.1 p.2 → p.2 = S → Q σ' H) → t v (L2.wipe σ vs) H Q
end
section
variable {X : Cx} {W : WX} {b : Bool} {e : Expr} {ma : EX} {it : AX}
theorem Cq {σ : L2.St} {i : Nat} {x : Option V} : ∀ {vs : List Nat}, i ∈ vs → L2.wipe (σ.set i x) vs = L2.wipe σ vs
 | [], h => nomatch h
 | v :: vs, h => by
  unfold L2.wipe
  by_cases m : i ∈ vs
  ·rw [Cq m]
  ·have e : i = v := (List.mem_cons.mp h).resolve_right m
   subst e
   have q : ∀ {ws : List Nat}, i ∉ ws → L2.wipe (σ.set i x) ws = (L2.wipe σ ws).set i x := by
    intro ws
    induction ws with
    | nil => intro _; rfl
    | cons w ws ih =>
     intro hn
     unfold L2.wipe
     rw [ih fun z => hn (List.mem_cons_of_mem _ z), List.set_comm]
     exact fun z => hn (by rw [z]; exact List.mem_cons_self)
   rw [q m, List.set_set]
theorem Gh {σ : L2.St} : ∀ {vs ws : List Nat}, (∀ v ∈ vs, v ∈ ws) → L2.wipe (L2.wipe σ vs) ws = L2.wipe σ ws
 | [], _, _ => rfl
 | v :: vs, ws, h => by
  have e : L2.wipe σ (v :: vs) = (L2.wipe σ vs).set v none := rfl
  rw [e, Cq (h v List.mem_cons_self)]
  exact Gh fun u hu => h u (List.mem_cons_of_mem _ hu)
theorem vH {i : Nat} : BG X [i] (aX i) (gName i) := by
 intro cf oa P σ H β ρ S v d p Q L r e k
 cases e
 refine k _ ?_ ?_ rfl
 ·rw [Cq (List.mem_singleton.mpr rfl), Gh fun _ h => h]
 ·have L2 := L.set (i := i) r
  have hn : cJ ρ [i] = ρ.set i .un := rfl
  refine ⟨L2.len, L2.p, L2.sub, L2.p0, L2.ext, L.own, L.inj, L2.st, L2.slot, fun j x h => ?_, L2.xslot⟩
  obtain ⟨a, q0, q1, q2⟩ := L2.bV j x h
  refine ⟨a, ?_, q1, q2⟩
  by_cases ej : j = i
  ·rw [if_pos ej] at q0; cases q0
  ·rw [if_neg ej] at q0; exact q0
theorem Y5 {wi : TI} {g : GX} {gt : TG} {t : BX} {tt : TT} {te : TE} {vs : List Nat} {σ : L2.St} {H : Hp} {Q : VK}
  (hi : ∀ σ H R, IM (aj X) W b it σ H R → wi σ H R) (hg : BG X vs g gt) (ht : ∀ σ H Q, BM (aj X) (fun _ _ _ _ => False) b t σ H Q → tt σ H Q) (he : ∀ σ H Q, EM (aj X) (fun _ _ _ _ => False) b ma σ H Q → te σ H Q)
  (h : EO (aj X) W b (mK it vs g t ma) σ H Q) : tLc wi gt tt te vs σ H Q := by
 obtain ⟨cf, oa, P, β, ρ, S, L, h⟩ := h
 refine hi _ _ _ ⟨cf, oa, P, β, ρ, S, L, ?_⟩
 unfold mK at h
 cases ea : it ρ S with
 | stuck => rw [ea] at h; exact h
 | exc e S1 => rw [ea] at h; exact h
 | ok ds S1 =>
  rw [ea] at h
  simp only [R.bind] at h
  intro J H1 β1 t1 L1 im D hD
  have Ac : Same H1 (upd H1 D (.lst [])) := g8 hD
  -- what a turn Y6
  refine ⟨fun i m H2 => m = ds.length - i ∧ i ≤ ds.length ∧ ∃ β2 S2 acc xs, LR (aj X) cf oa (fun a => P a ∨ a = D) σ H2 β2 ρ S2 ∧ Tr b H1 β1 S1 H2 β2 S2 ∧ H2 D = some (.lst xs) ∧ aA (aj X) H2 (fun a => P a ∨ a = D) β2 xs acc ∧
    gA vs g t ma (cJ ρ vs) ds [] S1 = gA vs g t ma (cJ ρ vs) (ds.drop i) acc S2,
   ⟨ds.length, by simp, Nat.zero_le _, β1, S1, [], [], L1.C5 Ac hD (by rw [upd_same]; exact Option.some_ne_none _), Tr.same Ac, upd_same, .nil, by rw [List.drop_zero]⟩, ?_⟩
  rintro i m H2 ⟨rfl, hil, β2, S2, acc, xs, L2, t2, hx, rs, eq⟩
  have h0 : cf.H0 D = none := by
   cases z : cf.H0 D with
   | none => rfl
   | some u => exact absurd hD (L1.ext.stay D (by rw [z]; exact Option.some_ne_none _))
  have no : ∀ j, oa j ≠ some D := fun j z => (L1.p D (L1.own j D z).1).1 hD
  obtain ⟨go, stop⟩ := im i H2 (fun a => P a ∨ a = D) β2 (Fx.more t2.ext hD) L2.new
  by_cases hl : i < ds.length
  ·right
   have hd : ds[i]? = some ds[i] := List.getElem?_eq_getElem hl
   obtain ⟨g1, g2⟩ := go _ hd
   rw [List.drop_eq_getElem_cons hl] at eq
   simp only [gA] at eq
   refine ⟨g1, fun H' => ∃ β2 S2 acc xs, LR (aj X) cf oa (fun a => P a ∨ a = D) σ H' β2 ρ S2 ∧ Tr b H1 β1 S1 H' β2 S2 ∧ H' D = some (.lst xs) ∧ aA (aj X) H' (fun a => P a ∨ a = D) β2 xs acc ∧
    gA vs g t ma (cJ ρ vs) ds [] S1 = gA vs g t ma (cJ ρ vs) (ds.drop (i + 1)) acc S2, fun H' hN => ⟨ds.length - (i + 1), by omega, rfl, hl, hN⟩, fun x H3 y => ?_⟩
   obtain ⟨e3, r3⟩ := g2 x H3 y
   have L3 := L2.same e3
   cases eg : g ds[i] (cJ ρ vs) S2 with
   | none => rw [eg] at eq; rw [eq] at h; exact h.elim
   | some p =>
    rw [eg] at eq
    simp only at eq
    refine hg cf oa _ σ H3 β2 ρ S2 x ds[i] p _ (L3.wipe vs) r3 eg fun σ4 hw L4 hS => ⟨hw, ?_⟩
    -- back to the BV own slots
    have back : ∀ {H5 : Hp} {β5 : List Addr} {S5 : Store}, Tr b H3 β2 S2 H5 β5 S5 → aP (aj X) H5 (fun a => P a ∨ a = D) β5 S5 → LR (aj X) cf oa (fun a => P a ∨ a = D) σ H5 β5 ρ S5 := fun t5 s5 => L3.step t5.ext s5
    refine ht _ _ _ ⟨cf, oa, _, β2, p.1, p.2, L4, ?_⟩
    cases et : t p.1 p.2 with
    | stuck => rw [et] at eq; rw [eq] at h; exact h.elim
    | exc e S5 => rw [et] at eq; rw [eq] at h; exact h.elim
    | ok k S5 =>
     rw [et] at eq
     intro H5 β5 t5 L5
     rw [hS] at t5
     have nD : ∀ {H6 : Hp}, H6 D = some (.lst xs) → ∀ ys, ¬ Rd H6 D (.tup ys) := fun {H6} q ys r => by
      rcases r with r | ⟨o, r⟩ <;> (rw [q] at r; cases r)
     have Ad : H5 D = some (.lst xs) := t5.ext.keep _ _ (e3 _ _ hx) (L3.p D (.inr rfl)).2
     cases k with
     | false =>
      rw [if_neg Bool.false_ne_true]
      exact ⟨β5, S5, acc, xs, back t5 L5.st, t2.trans ((Tr.same e3).trans t5), Ad, (rs.mono (Ext.same e3)).mono t5.ext, eq⟩
     | true =>
      rw [if_pos rfl]
      simp only at eq
      refine he _ _ _ ⟨cf, oa, _, β5, p.1, S5, L5, ?_⟩
      cases ee : ma p.1 S5 with
      | stuck => rw [ee] at eq; rw [eq] at h; exact h.elim
      | exc e S6 => rw [ee] at eq; rw [eq] at h; exact h.elim
      | ok d S6 =>
       rw [ee] at eq
       intro v H6 β6 t6 L6 r6
       have tR : H6 D = some (.lst xs) := t6.ext.keep _ _ Ad (L5.p D (.inr rfl)).2
       have len : xs.length = acc.length := rs.length
       by_cases hz : acc.length < sizeLine
       ·simp only [if_pos hz] at eq
        have Gi := t5.trans t6
        have L7 := back Gi L6.st
        have Y7 := ((rs.mono (Ext.same e3)).mono Gi.ext)
        refine ⟨xs, tR, by rw [len]; exact hz, β6, S6, acc ++ [d], xs ++ [v], L7.nY (.inr rfl) h0 no (nD tR) (fun o u z => by rw [tR] at z; cases z), (t2.trans ((Tr.same e3).trans Gi)).nY hD (nD tR) (fun o u z => by rw [tR] at z; cases z), upd_same, ?_, eq⟩
        exact (Y7.append (.cons r6 .nil)).set (.inl (.inr rfl)) (nD tR)
       ·simp only [if_neg hz] at eq
        rw [eq] at h; exact h.elim
  ·left
   have e : i = ds.length := by omega
   subst e
   rw [List.drop_length] at eq
   simp only [gA] at eq
   rw [eq] at h
   exact ⟨stop rfl, h D H2 β2 (t1.trans t2) (FZ t1.ext hD) L2 ⟨xs, hx, rs⟩⟩
end
section
variable {X : Cx} {W : WX} {b : Bool} {elt tg iter : Expr} {ifs : List Expr} {m : EX} {it : AX} {pos : Pos} {g : GX} {kt : BX}
abbrev MG (C : Ct) (W : WX) (b : Bool) (X : Cx) (ifs : List Expr) (k : BX) : Prop := PTs X ifs (BM C W b k)
theorem tU {t t' : TT} (h : PTs X ifs t) (i : ∀ σ H Q, t' σ H Q → t σ H Q) : PTs X ifs t' := ⟨fun pins s σ H Q I hw => h.run pins s σ H Q I (i σ H Q hw)⟩
abbrev W0 : WX := fun _ _ _ _ => False
/-- the parts of a Y8 block -/
structure Blk (X : Cx) (b : Bool) (scope : Scope) (tg : Expr) (ifs : List Expr) (elt : Expr) (vs : List Nat) (g : GX) (gt : TG) (kt : BX) (m : EX) : Prop where
 hg : ∀ (s : Shared) (H : Hp) (C : Addr) (cl : List (Str × Addr)) (fp : List Addr), PG (X.blk s H scope (compEnvC scope cl C X.env) fp) tg gt
 bg : BG X vs g gt
 ht : ∀ (s : Shared) (H : Hp) (C : Addr) (cl : List (Str × Addr)) (fp : List Addr), MG (aj X) W0 b (X.blk s H scope (compEnvC scope cl C X.env) fp) ifs kt
 he : ∀ (s : Shared) (H : Hp) (C : Addr) (cl : List (Str × Addr)) (fp : List Addr), PM (aj X) W0 b (X.blk s H scope (compEnvC scope cl C X.env) fp) elt m
theorem vI {scope : Scope} {own : List (Str × Nat)} {gt : TG} (hc : X.calm = true) (hN : X.N.Nodup) (hi : pU (aj X) W b X tg iter it) (ok : BlkOk X.N X.env.scope scope own) (B : Blk X b scope tg ifs elt (own.map (·.2)) g gt kt m)
  (hs : ∀ x, foldedSetIterable iter X.env x = pure x := by intro _; rfl) : PN (aj X) W b X (.ListComp elt [⟨tg, iter, ifs, 0⟩] scope pos) (mK it (own.map (·.2)) g kt m) :=
 bW (pe_lc hc hN hi ok B.hg B.ht B.he hs) fun σ H Q h => Y5 (fun _ _ _ h => h) B.bg (fun _ _ _ h => h) (fun _ _ _ h => h) h
theorem tV {C : Ct} {σ : L2.St} {H : Hp} {Q : Bool → Hp → Prop} (h : BM C W b i6 σ H Q) : Q true H := by
 obtain ⟨cf, oa, P, β, ρ, S, L, h⟩ := h
 exact h H β Tr.refl L
end
def cM (C : Ct) (n : Nat) (f : FX) : Sp := fun vs H Q E => vs.length = n ∧ ∃ P β ds S, aP C H P β S ∧ (∀ a, P a → H a ≠ none ∧ a ∉ β) ∧ aA C H P β vs ds ∧ (match f ds S with
 | .ok d S' => ∀ v H' β', Ext H β H' β' → aP C H' P β' S' → RV C H' P β' v d → Q v H'
 | .exc e S' => ∀ cls x H' β', Ext H β H' β' → aP C H' P β' S' → mD C H' P β' cls x e → E cls x H'
 | .stuck => False)
theorem bG.ct {C C' : Ct} (k : C'.K = C.K) (m : C'.mg = C.mg) {H : Hp} {P : Addr → Prop} {β : List Addr} {a : Addr} {so : SO} (h : bG C H P β a so) : bG C' H P β a so := by
 cases so with
 | lst ds => obtain ⟨xs, q, r⟩ := h; exact ⟨xs, q, r.ct k m⟩
 | dct ds => obtain ⟨xs, q, r⟩ := h; exact ⟨xs, q, r.ct k m⟩
 | ins c fs => obtain ⟨Ca, dx, vs, h1, q, h2, r⟩ := h; exact ⟨Ca, dx, vs, by rw [m]; exact h1, q, h2, r.ct k m⟩
 | dX ds => obtain ⟨od, xs, q, r⟩ := h; exact ⟨od, xs, q, r.ct k m⟩
 | fQ ds => obtain ⟨od, xs, q, r⟩ := h; exact ⟨od, xs, q, r.ct k m⟩
theorem aP.ct {C C' : Ct} (k : C'.K = C.K) (m : C'.mg = C.mg) {H : Hp} {P : Addr → Prop} {β : List Addr} {S : Store} (h : aP C H P β S) : aP C' H P β S := ⟨h.len, h.nd, fun n a so h1 h2 => (h.ok n a so h1 h2).ct k m⟩
theorem mD.ct {C C' : Ct} (k : C'.K = C.K) (m : C'.mg = C.mg) {H : Hp} {P : Addr → Prop} {β : List Addr} {cls : Value} {d : Option Addr} {e : bD} (h : mD C H P β cls d e) : mD C' H P β cls d e := by
 obtain ⟨Ca, dd, vs, h1, h2, h3, h4, h6, h7, h5⟩ := h
 exact ⟨Ca, dd, vs, by rw [m]; exact h1, h2, h3, h4, h6, h7, fun f x q => let ⟨v, q1, q2⟩ := h5 f x q; ⟨v, q1, q2.ct k m⟩⟩
theorem xJ {C C' : Ct} (k : C'.K = C.K) (m : C'.mg = C.mg) {n : Nat} {f : FX} {vs : List V} {H : Hp} {Q : VK} {E : XK} (h : cM C n f vs H Q E) : cM C' n f vs H Q E := by
 obtain ⟨hl, P, β, ds, S, h1, h2, h3, h4⟩ := h
 refine ⟨hl, P, β, ds, S, h1.ct k m, h2, h3.ct k m, ?_⟩
 cases e : f ds S with
 | stuck => rw [e] at h4; exact h4
 | exc x S' => rw [e] at h4; exact fun cls d H' β' a b c => h4 cls d H' β' a (b.ct k.symm m.symm) (c.ct k.symm m.symm)
 | ok d S' => rw [e] at h4; exact fun v H' β' a b c => h4 v H' β' a (b.ct k.symm m.symm) (c.ct k.symm m.symm)
/-- a def bR keeps its promise Y9 nothing is b1R shown (no repr is under way) -/
structure cQ (P : Program) (w : World) (K : PySem.W.Frag) (mg : Str → Option Value) (base : Heap) (k : Nat) (f : Addr) (fd : FuncData) (ps : List Str) (sp : Sp) : Prop where
 len : ∀ vs H Q E, sp vs H Q E → vs.length = ps.length
 run : ∀ (A : Around) (outer : List Env) (s : Shared) (H : Hp) (args : Args) (us : List Value) (vs : List V) (Q : VK) (E : XK), A.guards = some [] → Room k A → Env0 P w K mg base A outer s H →
  BindsTo s fd args (ps.zip us) → Vals vs us → sp vs H Q E → codeAny (model P w) A (.call (.ref f) args) (CR (L2.CX P w) outer P w H s Q E) s
theorem MH {P : Program} {w : World} {K : PySem.W.Frag} {mg : Str → Option Value} {base : Heap} {k : Nat} {f : Addr} {fd : FuncData} {ps : List Str} {fm : FX} (h : ∀ ds S, fm ds S = .stuck) : cQ P w K mg base k f fd ps (cM ⟨K, mg, w, []⟩ ps.length fm) where
 len := fun vs H Q E h => h.1
 run := fun A outer s H args us vs Q E hg hr e0 hb r hs => by
  obtain ⟨_, P, β, ds, S, _, _, _, q⟩ := hs
  rw [h] at q
  exact q.elim
theorem LR.start {C : Ct} {H : Hp} {P : Addr → Prop} {β : List Addr} {S : Store} {vs : List V} {ds : List D} {N : List Str} (st : aP C H P β S) (hp : ∀ a, P a → H a ≠ none ∧ a ∉ β) (r : aA C H P β vs ds) :
  LR C ⟨H, β, P, []⟩ (fun _ => none) P (L2.start N vs) H β (ds.map Sl.sh ++ List.replicate (N.length - ds.length) Sl.un) S where
 len := by unfold L2.start; simp [r.length]
 p := hp
 sub := fun _ h => h
 p0 := fun a h => (hp a h).1
 ext := ⟨⟨[], (List.append_nil β).symm⟩, fun a o h _ => .inl h, fun _ h => .inl h, fun _ _ h => h, fun _ h => h, fun _ _ _ h => h⟩
 own := fun _ _ h => nomatch h
 inj := fun _ _ _ h => nomatch h
 st := st
 slot := fun i d h => by
  by_cases hi : i < ds.length
  ·rw [List.getElem?_append_left (by simpa using hi), List.getElem?_map] at h
   cases e : ds[i]? with
   | none => rw [e] at h; cases h
   | some x =>
    rw [e] at h
    cases h
    obtain ⟨v, hv, rv⟩ := r.get e
    refine ⟨v, ?_, rv⟩
    unfold L2.start
    rw [List.getElem?_append_left (by simpa [r.length] using hi), List.getElem?_map, hv]
    rfl
  ·rw [List.getElem?_append_right (by simpa using hi), List.getElem?_replicate] at h
   split at h <;> cases h
 bV := fun i d h => by
  by_cases hi : i < ds.length
  ·rw [List.getElem?_append_left (by simpa using hi), List.getElem?_map] at h
   cases e : ds[i]? with
   | none => rw [e] at h; cases h
   | some x => rw [e] at h; cases h
  ·rw [List.getElem?_append_right (by simpa using hi), List.getElem?_replicate] at h
   split at h <;> cases h
 xslot := fun i d h => by
  by_cases hi : i < ds.length
  ·rw [List.getElem?_append_left (by simpa using hi), List.getElem?_map] at h
   cases e : ds[i]? with
   | none => rw [e] at h; cases h
   | some x => rw [e] at h; cases h
  ·rw [List.getElem?_append_right (by simpa using hi), List.getElem?_replicate] at h
   split at h <;> cases h
section
variable {P : Program} {w : World} {K : PySem.W.Frag} {mg : Str → Option Value} {base : Heap}
abbrev iJ (P : Program) (w : World) (K : PySem.W.Frag) (mg : Str → Option Value) (base : Heap) (N : List Str) (qual : Str) (st : Stmt) (f : Addr) (cdv : Value) (A : Around) (outer : List Env) (s : Shared) (H : Hp) (E : XK) : Cx :=
 cxOf (L2.CX P w) P w K mg base N qual (defScope st) f cdv A outer s H E
/-- a BV body run at its arguments, by any reading of it -/
theorem Gj {x qual : Str} {st : Stmt} {f : Addr} {fd : FuncData} {N ps : List Str} {k : Nat} {sp : Sp} (F : Fun K x qual st f fd) (S : FnScope N ps (defScope st)) (len : ∀ vs H Q E, sp vs H Q E → vs.length = ps.length)
  (body : ∀ (cdv : Value) (A : Around) (outer : List Env) (s : Shared) (H : Hp) (vs : List V) (Q : VK) (E : XK), A.guards = some [] → Room k (iJ P w K mg base N qual st f cdv A outer s H E).A → sp vs H Q E →
   ∃ t, PSs (iJ P w K mg base N qual st f cdv A outer s H E) (defBody st) t ∧ t { nx := fun _ H' => Q .non H', rt := Q } (L2.start N vs) H) : cQ P w K mg base (k + 1) f fd ps sp := by
 obtain ⟨oc, od, kV, doc, pm, an, cdv, ct, osl, rfl, Yb, Yc⟩ := F.ex
 constructor
 ·exact len
 intro A outer s H args us vs Q E guards room env0 bound vals prom
 have MI : K.In s.heap := env0.mod.kin.keeps (fun b o e => (env0.bs b o e).1)
 have kinds : ∀ y ∈ ps.zip us, (defScope st).names.lookup y.1 = some .local ∨ ((defScope st).names.lookup y.1 = some .cell ∧ ((cellsFrom (s.heap.objs.size + 1) (defScope st).names []).lookup y.1).isSome = true) := by
  rintro ⟨n, v⟩ hy
  cases S.par n (List.of_mem_zip hy).1 with
  | inl q => exact .inl q
  | inr q => exact .inr ⟨q, PySem.W.cellsFrom_some _ _ _ (.inl q)⟩
 refine codeAny_call_function room.depth (MI _ _ Yb) rfl S.co S.gen rfl (PySem.W.codeRec_of MI Yc) (bound _ _ _ _ ?_)
 refine wpAny_newFunctionEnv_cells S.kind kinds ?_
 rintro _ rfl s1 MJ
 refine ⟨(env0.mod.nolimit.keeps fun b o e => (env0.bs b o e).1).keeps MJ.toInCall.keep, codeAny_func ?_⟩
 obtain ⟨t, run, start⟩ := body cdv A outer s H vs Q E guards (room.deeper _) prom
 have inv : L2.Inv (iJ P w K mg base N qual st f cdv A outer s H E) [] (L2.start N vs) H s1 := inv_start S room.hd env0 (len _ _ _ _ prom) vals MJ
 refine wpAny_mono (run.run [] s1 _ H _ inv start) ?_ fun _ _ h => h
 intro flow s' h
 cases flow with
 | ret u =>
  obtain ⟨v, σ', H', J, rv, q⟩ := h
  exact ⟨v, H', J.os, J.bare, J.base, J.hok, rv, q⟩
 | next =>
  obtain ⟨σ', H', J, q⟩ := h
  exact ⟨.non, H', J.os, J.bare, J.base, J.hok, rfl, q⟩
 | brk => obtain ⟨_, _, _, q⟩ := h; exact q.elim
 | cont => obtain ⟨_, _, _, q⟩ := h; exact q.elim
/-- THE b1T for a def -/
theorem fn_ok {x qual : Str} {st : Stmt} {f : Addr} {fd : FuncData} {N ps : List Str} {k : Nat} {m : SX} (F : Fun K x qual st f fd) (S : FnScope N ps (defScope st))
  (hbody : ∀ (cdv : Value) (A : Around) (outer : List Env) (s : Shared) (H : Hp) (E : XK), (iJ P w K mg base N qual st f cdv A outer s H E).A.guards = some [] → Room k (iJ P w K mg base N qual st f cdv A outer s H E).A →
   jP ⟨K, mg, w, []⟩ (fun cls d _ H' => E cls d H') (iJ P w K mg base N qual st f cdv A outer s H E) (defBody st) m) : cQ P w K mg base (k + 1) f fd ps (cM ⟨K, mg, w, []⟩ ps.length (aY N.length m)) := by
 refine Gj F S (fun vs H Q E h => h.1) fun cdv A outer s H vs Q E hg hr h => ?_
 obtain ⟨hl, Pf, β, ds, St, st', hp, r, q⟩ := h
 refine ⟨_, hbody cdv A outer s H E hg hr, ?_⟩
 refine ⟨⟨H, β, Pf, []⟩, _, Pf, β, _, St, LR.start st' hp r, ?_⟩
 unfold aY at q
 cases e : m (ds.map Sl.sh ++ List.replicate (N.length - ds.length) Sl.un) St with
 | nx ρ' S' =>
  rw [e] at q
  intro σ' H' β' bf P' L' f'
  exact q .non H' β' (L'.ext.done rfl) (L'.st.less L'.sub) .non
 | rt d S' =>
  rw [e] at q
  intro v H' β' x' _ s' r'
  exact q v H' β' (x'.done rfl) s' r'
 | bk ρ' S' => rw [e] at q; exact q.elim
 | ct ρ' S' => rw [e] at q; exact q.elim
 | exc ex ρ' S' =>
  rw [e] at q
  intro cls x σ' H' β' bf P' L' f' ea
  refine q cls x H' β' (L'.ext.done rfl) (L'.st.less L'.sub) ?_
  obtain ⟨Ca, dd, vs, h1, h2, h3, h4, h6, h7, h5⟩ := ea
  exact ⟨Ca, dd, vs, h1, h2, h3, h4, h6, fun z => h7 (L'.sub _ z), fun f x hx => let ⟨v, q1, q2⟩ := h5 f x hx; ⟨v, q1, q2.less L'.sub⟩⟩
 | stuck => rw [e] at q; exact q.elim
end
/-- the arguments in the b1U order: places among the positional ones, then the keywords' -/
def pick {α : Type} (idx : List Nat) (us ws : List α) : List α := idx.filterMap fun i => (us ++ ws)[i]?
def bF (f : FX) (idx : List Nat) (a k : AX) : EX := fun ρ S => (a ρ S).bind fun us S1 => (k ρ S1).bind fun ws S2 => f (pick idx us ws) S2
def i7 (a : AX) (n : Nat) : Prop := ∀ ρ S us S', a ρ S = .ok us S' → us.length = n
theorem bB : i7 aq 0 := fun ρ S us S' h => by cases h; rfl
theorem bh {a : EX} {r : AX} {n : Nat} (h : i7 r n) : i7 (ao a r) (n + 1) := fun ρ S us S' e => by
 unfold ao at e
 cases ea : a ρ S with
 | stuck => rw [ea] at e; cases e
 | exc x S1 => rw [ea] at e; cases e
 | ok d S1 =>
  rw [ea] at e
  simp only [R.bind] at e
  cases er : r ρ S1 with
  | stuck => rw [er] at e; cases e
  | exc x S2 => rw [er] at e; cases e
  | ok ds S2 =>
   rw [er] at e
   cases e
   simp [h ρ S1 ds _ er]
theorem Gk {idx : List Nat} {vs zs : List V} {us ws : List Value} (r : Vals vs us) (q : Vals zs ws) : Vals (pick idx vs zs) (pick idx us ws) := by
 have h := r.append q
 induction idx with
 | nil => exact .nil
 | cons i idx ih =>
  unfold pick
  rw [List.filterMap_cons, List.filterMap_cons]
  cases e : (vs ++ zs)[i]? with
  | none => rw [h.none_of e]; exact ih
  | some v =>
   obtain ⟨u, e2, rv⟩ := h.get e
   rw [e2]
   exact .cons rv ih
theorem Gm {C : Ct} {H : Hp} {P : Addr → Prop} {β : List Addr} {idx : List Nat} {vs zs : List V} {ds es : List D} (r : aA C H P β vs ds) (q : aA C H P β zs es) : aA C H P β (pick idx vs zs) (pick idx ds es) := by
 have h := r.append q
 induction idx with
 | nil => exact .nil
 | cons i idx ih =>
  unfold pick
  rw [List.filterMap_cons, List.filterMap_cons]
  cases e : (vs ++ zs)[i]? with
  | none =>
   have : (ds ++ es)[i]? = none := by
    rw [List.getElem?_eq_none_iff] at e ⊢
    rw [← h.length]; exact e
   rw [this]; exact ih
  | some v =>
   obtain ⟨d, e2, rv⟩ := h.of e
   rw [e2]
   exact .cons rv ih
/-- a def of the module bR keeps its promise -/
structure aK (P : Program) (w : World) (K : PySem.W.Frag) (mg : Str → Option Value) (base : Heap) (k : Nat) (x : Str) (st : Stmt) (ps : List Str) (f : FX) : Prop where
 ex : ∃ (fa : Addr) (y qual : Str) (fd : FuncData), Fun K y qual st fa fd ∧ mg x = some (.ref fa) ∧ cQ P w K mg base k fa fd ps (cM ⟨K, mg, w, []⟩ ps.length f)
/-- how a def binds us positional arguments and the keywords ks -/
def tW (st : Stmt) (ps ks : List Str) (n : Nat) (idx : List Nat) : Prop :=
 ∀ (x qual : Str) (kV doc pm : Value) (an : Option Addr) (cdv ct : Value) (us ws : List Value), us.length = n → ws.length = ks.length → bindArgs (PySem.W.fnOf x qual (defArgs st) (defBody st) (defScope st) .none kV doc pm an cdv ct) ⟨us, ks.zip ws⟩ = pure (ps.zip (pick idx us ws))
abbrev tX (C : Ct) (W : WX) (b : Bool) (X : Cx) (kws : List Keyword) (m : AX) : Prop := PK X kws (AM C W b m)
section
variable {X : Cx} {W : WX} {b : Bool} {e : Expr} {es : List Expr} {kws : List Keyword} {me : EX} {ma mk : AX} {pos p : Pos} {x : Str} {st : Stmt} {ps ks : List Str} {f : FX} {k j n : Nat} {idx : List Nat}
theorem MK {t t' : TA} (h : PK X kws t) (i : ∀ σ H Q, t' σ H Q → t σ H Q) : PK X kws t' := ⟨fun pos pins s σ H Q I hw => h.run pos pins s σ H Q I (i σ H Q hw)⟩
theorem dU : tX (aj X) W b X [] aq := MK pk_nil fun σ H Q h => by
 obtain ⟨cf, oa, P, β, ρ, S, L, h⟩ := h
 exact h [] H β Tr.refl L .nil
theorem i9 {nm : Option Str} {kpos : Pos} (ha : PM (aj X) W b X e me) (hr : tX (aj X) W b X kws mk) : tX (aj X) W b X (⟨nm, e, kpos⟩ :: kws) (ao me mk) :=
 MK (pk_cons ha hr) fun σ H Q h => C7 h
theorem Gp {fa : Addr} {fd : FuncData} {sp : Sp} {σ : L2.St} {E : XK} {pins : List (Addr × Obj)} {H : Hp} {s : Shared} {Q : VK} {us ws us' : List Value} {vs : List V} (F : cQ X.prog X.w X.K X.mg X.base k fa fd ps sp) (hgd : X.A.guards = some []) (hr : Room k X.A) (hx : PassesAt (L2.CX X.prog X.w) X σ E)
  (I : Inv X pins σ H s) (bd : BindsTo s fd ⟨us, ks.zip ws⟩ (ps.zip us')) (r : Vals vs us') (h : sp vs H Q E) : wpAny (model X.prog X.w) X.A (call (.ref fa) us (ks.zip ws)) (EP X pins σ Q) X.xe s := by
 refine wpAny_call (codeAny_mono (F.run X.A X.stack s H ⟨us, ks.zip ws⟩ us' vs Q E hgd hr I.env0 bd r h) fun r s' hq => ?_)
 cases r with
 | error e => exact hx pins H s e s' I hq
 | ok fl =>
  cases fl with
  | ret u => exact I.after hq
  | next => exact False.elim hq
  | brk => exact False.elim hq
  | cont => exact False.elim hq
/-- from an XQ reading to the b1V promise -/
theorem Gr {C : Ct} {cf : Cf} {oa : Nat → Option Addr} {P : Addr → Prop} {σ : L2.St} {H H1 : Hp} {β β1 : List Addr} {ρ : aF} {S S1 : Store} {vs : List V} {ds : List D} {Q : VK} {n : Nat} (t : Tr false H β S H1 β1 S1) (L1 : LR C cf oa P σ H1 β1 ρ S1) (r : aA C H1 P β1 vs ds) (hn : vs.length = n)
  (h : match f ds S1 with
   | .ok d S' => ∀ v H' β', Tr false H β S H' β' S' → LR C cf oa P σ H' β' ρ S' → RV C H' P β' v d → Q v H'
   | .exc e S' => XP C W cf oa P σ false H β ρ S e S'
   | .stuck => False) : cM C n f vs H1 Q (WE W σ) := by
 refine ⟨hn, P, β1, ds, S1, L1.st, L1.p, r, ?_⟩
 cases ef : f ds S1 with
 | stuck => rw [ef] at h; exact h
 | exc e S' =>
  rw [ef] at h
  intro cls x H' β' e1 s1 ea
  exact h cls x H' β' ⟨t.ext.trans e1, fun z => nomatch z⟩ (L1.step e1 s1) ea
 | ok d S' =>
  rw [ef] at h
  intro v H' β' e1 s1 rv
  exact h v H' β' ⟨t.ext.trans e1, fun z => nomatch z⟩ (L1.step e1 s1) rv
theorem Yd {σ : L2.St} {H : Hp} {Q : VK} {nv : Nat} (h : EM (aj X) W false (bF f idx ma mk) σ H Q) (hl : ∀ vs zs : List V, vs.length = n → zs.length = ks.length → (pick idx vs zs).length = nv) (h1 : i7 ma n) (h2 : i7 mk ks.length) :
  AM (aj X) W false ma σ H fun vs H1 => AM (aj X) W false mk σ H1 fun zs H2 => vs.length = n ∧ zs.length = ks.length ∧ cM (aj X) nv f (pick idx vs zs) H2 Q (WE W σ) := by
 obtain ⟨cf, oa, P, β, ρ, S, L, h⟩ := h
 refine ⟨cf, oa, P, β, ρ, S, L, ?_⟩
 unfold bF at h
 cases ea : ma ρ S with
 | stuck => rw [ea] at h; exact h
 | exc e S1 => rw [ea] at h; exact h
 | ok us S1 =>
  rw [ea] at h
  simp only [R.bind] at h
  intro vs H1 β1 t1 L1 r1
  refine ⟨cf, oa, P, β1, ρ, S1, L1, ?_⟩
  cases eb : mk ρ S1 with
  | stuck => rw [eb] at h; exact h
  | exc e S2 => rw [eb] at h; intro cls d H' β' e2 L2 ex; exact h cls d H' β' (t1.trans e2) L2 ex
  | ok ws S2 =>
   rw [eb] at h
   simp only [R.bind] at h
   intro zs H2 β2 t2 L2 r2
   have n1 : vs.length = n := by rw [r1.length]; exact h1 _ _ _ _ ea
   have n2 : zs.length = ks.length := by rw [r2.length]; exact h2 _ _ _ _ eb
   exact ⟨n1, n2, Gr (t1.trans t2) L2 (Gm (r1.mono t2.ext) r2) (hl vs zs n1 n2) h⟩
theorem ML {s : Shared} {qual : Str} {fa : Addr} {fd : FuncData} {us ws : List Value} (F : Fun X.K x qual st fa fd) (B : tW st ps ks n idx) (hu : us.length = n) (hw : ws.length = ks.length) : BindsTo s fd ⟨us, ks.zip ws⟩ (ps.zip (pick idx us ws)) := by
 obtain ⟨oc, od, kV, doc, pm, an, cdv, ct, osl, rfl, lk, hcd⟩ := F.ex
 exact .of_eq (B _ qual kV doc pm an cdv ct us ws hu hw)
/-- f(e, .., k = v, ..) -/
theorem vJ (Dk : aK X.prog X.w X.K X.mg X.base k x st ps f) (hgd : X.A.guards = some []) (hr : Room j X.A) (hkj : k ≤ j) (tk : Takes X W) (B : tW st ps ks n idx) (ha : j6 (aj X) W false X (e :: es) ma) (hkw : tX (aj X) W false X kws mk) (h1 : i7 ma n) (h2 : i7 mk ks.length)
  (hl : ∀ vs zs : List V, vs.length = n → zs.length = ks.length → (pick idx vs zs).length = ps.length) (hg : Gl X x := by rfl)
  (hall : (backToKw pos (keywordEach kws X.env)).all (·.1.isSome) = true := by rfl) (hks : (backToKw pos (keywordEach kws X.env)).filterMap (·.1) = ks := by rfl)
  (hdb : (x == ("__debug__" : Str)) = false := by decide) (he : starEach (e :: es) X.env = (false, eval e X.env) :: starEach es X.env := by rfl)
  (hpl : ((backTo pos (starEach (e :: es) X.env)).any (·.1) || (backToKw pos (keywordEach kws X.env)).any (·.1.isNone)) = false := by rfl) : PM (aj X) W false X (.Call (.Name x p) (e :: es) kws pos) (bF f idx ma mk) := by
 obtain ⟨fa, y, qual, fd, F, hm, G⟩ := Dk.ex
 refine ⟨fun pins s σ H Q I h => ?_⟩
 have h := Yd h hl h1 h2
 refine wpAny_Call_Name_kw (ld_glob I hg hm ?_ hdb)
 refine PySem.W.callWith_KW (h₀ := X.base) I.ok.mod.kin F.kp hall (thn (ha.run pos pins s σ H _ I h) fun us s1 ⟨vs, H1, I1, r, q⟩ => ?_) hpl he
 refine thn (hkw.run pos pins s1 σ H1 _ I1 q) fun ws s2 ⟨zs, H2, I2, rz, n1, n2, q2⟩ => ⟨I2.kIn, ?_⟩
 rw [hks]
 exact Gp G hgd (hr.mono hkj) (passAt tk σ) I2 (us := us) (ML F B (by rw [← r.length]; exact n1) (by rw [← rz.length]; exact n2)) (Gk r rz) (xJ (C := aj X) (C' := ⟨X.K, X.mg, X.w, []⟩) rfl rfl q2)
end
def nZ (i j : Int) : Bool := decide (i.natAbs < 2 ^ 64) || decide (j.natAbs < 2 ^ 64)
def fD (S : Store) (x y : D) : Option D := match x, y with
 | .int i, .int j => some (.int (i + j))
 | .str i, .str j => if i.length + j.length ≤ sizeLine then some (.str (i ++ j)) else none
 | .tup xs, .tup ys => if xs.length + ys.length ≤ sizeLine then some (.tup (xs ++ ys)) else none
 | x, y => match bu S x, bu S y with
  | some xs, some ys => if xs.length + ys.length ≤ sizeLine then some (.lst (xs ++ ys)) else none
  | _, _ => none
def dCat (S : Store) (x y : D) : Option D := match bu S x, bu S y with
  | some xs, some ys => if xs.length + ys.length ≤ sizeLine then some (.lst (xs ++ ys)) else none
  | _, _ => none
def xK (_ : Store) (x y : D) : Option D := match x, y with
 | .int i, .int j => some (.int (i - j))
 | _, _ => none
def Cr (x : Str) (n : Int) : Str := if n < 1 then Str.empty else if (n == 1 || x.length == 0) = true then x else ⟨(List.replicate n.toNat x.cps).foldl (· ++ ·) #[]⟩
def jQ (_ : Store) (x y : D) : Option D := match x, y with
 | .int i, .int j => if nZ i j = true then some (.int (i * j)) else none
 | .str x, .int n => if n.natAbs ≤ 1000000 ∧ x.length ≤ 1000000 ∧ Builtin.Str.tooLong (x.length * n.toNat) = false then some (.str (Cr x n)) else none
 | _, _ => none
def Ae (_ : Store) (x y : D) : Option D := match x, y with
 | .int i, .int j => if j ≠ 0 ∧ j.natAbs < 1073741824 then some (.int (i.fdiv j)) else none
 | _, _ => none
def mO (_ : Store) (x y : D) : Option D := match x, y with
 | .int i, .int j => if j ≠ 0 then some (.int (i.fmod j)) else none
 | _, _ => none
def o7 (_ : Store) (x y : D) : Option D := match x, y with
 | .int i, .int j => if 0 ≤ j ∧ j ≤ 1000000 ∧ i.natAbs < 2 ^ 64 then some (.int (i ^ j.toNat)) else none
 | _, _ => none
def xM (_ : Store) (x : D) : Option D := match x with
 | .int i => some (.int (-i))
 | _ => none
def tY (_ : Store) (x y : D) : Option D := match x, y with
 | .int i, .int j => some (.bl (decide (i < j)))
 | .str i, .str j => some (.bl (decide (i.cps.toList < j.cps.toList)))
 | _, _ => none
def o8 (_ : Store) (x y : D) : Option D := match x, y with
 | .int i, .int j => some (.bl (decide (i ≤ j)))
 | .str i, .str j => some (.bl (!decide (j.cps.toList < i.cps.toList)))
 | _, _ => none
def vK (_ : Store) (x y : D) : Option D := match x, y with
 | .int i, .int j => some (.bl (decide (j < i)))
 | .str i, .str j => some (.bl (decide (j.cps.toList < i.cps.toList)))
 | _, _ => none
def MM (_ : Store) (x y : D) : Option D := match x, y with
 | .int i, .int j => some (.bl (decide (j ≤ i)))
 | .str i, .str j => some (.bl (!decide (i.cps.toList < j.cps.toList)))
 | _, _ => none
section
variable {X : Cx}
/-- list + list -/
def rCatS (K : PySem.W.Frag) : R2 := fun x y H Q => ∃ l b xs zs, x = .ref l ∧ y = .ref b ∧ SqL K H l xs ∧ SqL K H b zs ∧ xs.length + zs.length ≤ sizeLine ∧ ∀ p, H p = none → Q (.ref p) (upd H p (.lst (xs ++ zs)))
theorem Ye : OpR X (binaryOp .Add) (rCatS X.K) := by
 intro pins s σ H x y v u Q I rx ry h
 obtain ⟨l, b, xs, zs, rfl, rfl, hx, hy, hz, q⟩ := h
 cases rx
 cases ry
 obtain ⟨its, r1, ⟨o1, n1, g1, c1, _, d1⟩, _⟩ := I.list hx
 obtain ⟨its2, r2, ⟨o2, n2, g2, c2, _, d2⟩, _⟩ := I.list hy
 obtain ⟨cl1, Gu, da1, Yg⟩ := o1
 obtain ⟨cl2, dd2, Yh, sl2⟩ := o2
 simp only at c1 d1 c2 d2
 subst c1 d1 c2 d2
 have hl : its.toArray.size + its2.toArray.size ≤ sizeLine := by
  rw [List.size_toArray, List.size_toArray, ← r1.length, ← r2.length]; exact hz
 refine concat_meets ⟨_, g1, rfl⟩ ⟨_, g2, rfl⟩ noFill_list_add seq_list_add F.slot_list_add F.entry_list_add (F.args_list_add_2 _ _) (list_addW l b _ _ n1 n2 Gu dd2 Yg sl2 hl) ⟨g1, g2, ?_⟩
 have ea : its.toArray ++ its2.toArray = (its ++ its2).toArray := by simp
 rw [ea]
 exact ⟨.ref _, _, I.lnew (t' := s.toks) (r1.append r2) (by rw [List.length_append]; exact hz), rfl, q _ I.fresh⟩
def rAdd (K : PySem.W.Frag) : R2 := fun x y H Q => (∃ i j, x = .int i ∧ y = .int j ∧ Q (.int (i + j)) H) ∨ (∃ i j, x = .str i ∧ y = .str j ∧ i.length + j.length ≤ sizeLine ∧ Q (.str (i ++ j)) H) ∨ rCatA K x y H Q ∨ rCatS K x y H Q
theorem pW : OpR X (binaryOp .Add) (rAdd X.K) := OpR.or op_add (OpR.or op_add_str (OpR.or op_catA Ye))
theorem Yi {C : Ct} {H : Hp} {Z : Addr → Prop} {β : List Addr} {S : Store} {p : Addr} {xs : List V} {ds : List D} (A : At C H Z β S) (hp : H p = none) (r : aA C H Z β xs ds) :
  cP C (upd H p (.lst xs)) (fun c => Z c ∨ c = p) β p (.lst ds) :=
 ⟨xs, upd_same, (r.more hp).mono (Ext.laid hp)⟩
theorem Yj : Ma X (rCatS X.K) dCat := by
 intro Z H β S x y dx dy dz Q A rx ry e k
 unfold dCat at e
 split at e
 ·rename_i xs ys e1 e2
  split at e
  ·rename_i hz
   cases e
   obtain ⟨a, us, rfl, q1, r1⟩ := rx.bu A.st e1
   obtain ⟨b, ws, rfl, q2, r2⟩ := ry.bu A.st e2
   refine ⟨a, b, us, ws, rfl, rfl, q1, q2, by rw [r1.length, r2.length]; exact hz, fun p hp => ?_⟩
   exact k p _ (g8 hp) hp (Yi A hp (r1.append r2))
  ·cases e
 ·cases e
theorem Yk (S : Store) (x y d : D) (h : dCat S x y = some d) : xD d := by
 unfold dCat at h
 split at h
 ·split at h
  ·cases h; exact ⟨_, rfl⟩
  ·cases h
 ·cases h
theorem pX : cH X (rAdd X.K) fD := by
 intro Z H β S x y dx dy dz Q A rx ry e k
 unfold fD at e
 split at e
 ·cases rx; cases ry; cases e
  exact .inl ⟨_, _, rfl, rfl, k _ H (Same.refl _) (.int _)⟩
 ·split at e
  ·rename_i hz
   cases rx; cases ry; cases e
   exact .inr (.inl ⟨_, _, rfl, rfl, hz, k _ H (Same.refl _) (.str _)⟩)
  ·cases e
 ·rename_i xs ys
  split at e
  ·rename_i hz
   cases e
   obtain ⟨a, us, rfl, q1, r1⟩ := rx.gH rfl
   obtain ⟨b, ws, rfl, q2, r2⟩ := ry.gH rfl
   refine .inr (.inr (.inl ⟨a, b, us, ws, rfl, rfl, q1, q2, by rw [r1.length, r2.length]; exact hz, fun z => ?_, fun z1 z2 => ?_, fun z1 z2 p hp => ?_⟩))
   ·subst z
    cases r1
    exact k _ H (Same.refl _) ry
   ·subst z2
    cases r2
    rw [List.append_nil] at k
    exact k _ H (Same.refl _) rx
   ·exact k _ _ (g8 hp) (.tup (.inl upd_same) ((r1.append r2).mono (Ext.laid hp)))
  ·cases e
 ·rename_i x' y' n1 n2 n3
  exact .inr (.inr (.inr (cH.C6 (Yj (X := X)) Yk Z H β S x y dx dy dz Q A rx ry e k)))
theorem Yl : cH X (rI0 fun i j => .int (i - j)) xK := by
 intro Z H β S x y dx dy dz Q A rx ry e k
 unfold xK at e
 split at e
 ·cases rx; cases ry; cases e
  exact ⟨_, _, rfl, rfl, k _ H (Same.refl _) (.int _)⟩
 ·cases e
theorem MN {α : Type} (a : Array α) : ∀ (n : Nat) (b : Array α), ((List.replicate n a).foldl (· ++ ·) b).size = b.size + n * a.size
 | 0, b => by simp
 | n + 1, b => by
  rw [List.replicate_succ, List.foldl_cons, MN a n (b ++ a), Array.size_append, Nat.succ_mul]
  omega
def MO : R2 := fun x y H Q => rI CMul (fun i j => .int (i * j)) x y H Q ∨ ∃ z n, x = .str z ∧ y = .int n ∧ (n.natAbs ≤ 1000000 ∧ z.length ≤ 1000000 ∧ Builtin.Str.tooLong (z.length * n.toNat) = false) ∧ Q (.str (Cr z n)) H
theorem Ym : OpR X (binaryOp .Mult) (fun x y H Q => ∃ z n, x = .str z ∧ y = .int n ∧ (n.natAbs ≤ 1000000 ∧ z.length ≤ 1000000 ∧ Builtin.Str.tooLong (z.length * n.toNat) = false) ∧ Q (.str (Cr z n)) H) := by
 intro pins s σ H x y v u Q I rx ry h
 obtain ⟨z, n, rfl, rfl, ⟨h1, h2, h3⟩, q⟩ := h
 obtain ⟨t, rfl⟩ := rx
 obtain ⟨t', rfl⟩ := ry
 refine P.mul_str (by
            have a1 : ¬ n < -(2 ^ 63 : Int) := by omega
            have a2 : ¬ n ≥ 2 ^ 63 := by omega
            rw [decide_eq_false a1, decide_eq_false a2]; rfl) (fun g1 _ => ?_) (fun _ _ => h3) ?_
 ·have : (1000000 : Int) ≤ (2 ^ 63 - 1) / n := by
   rw [Int.le_ediv_iff_mul_le (by omega)]
   omega
  omega
 ·unfold Cr at q
  split
  ·rename_i g
   rw [if_pos g] at q
   exact ⟨by decide, ⟨.str _, H, I.tok _, ⟨_, rfl⟩, q⟩⟩
  ·rename_i g
   rw [if_neg g] at q
   split
   ·rename_i g2
    rw [if_pos g2] at q
    exact ⟨.str z, H, I, ⟨_, rfl⟩, q⟩
   ·rename_i g2
    rw [if_neg g2] at q
    refine ⟨?_, ⟨.str _, H, I.tok _, ⟨_, rfl⟩, q⟩⟩
    show ((List.replicate n.toNat z.cps).foldl (· ++ ·) #[]).size ≤ sizeLine
    rw [MN]
    have h4 : z.cps.size = z.length := rfl
    have h5 := of_decide_eq_false h3
    rw [h4, Nat.mul_comm n.toNat, Array.size_empty, Nat.zero_add]
    exact Nat.le_of_not_gt h5
theorem Cu : OpR X (binaryOp .Mult) MO := OpR.or op_mul Ym
theorem Yn {i j : Int} (h : nZ i j = true) : CMul i j := by
 unfold nZ at h
 rw [Bool.or_eq_true, decide_eq_true_eq, decide_eq_true_eq] at h
 unfold CMul
 omega
theorem Cy : cH X MO jQ := by
 intro Z H β S x y dx dy dz Q A rx ry e k
 unfold jQ at e
 split at e
 ·split at e
  ·rename_i hz
   cases rx; cases ry; cases e
   exact .inl ⟨_, _, rfl, rfl, Yn hz, k _ H (Same.refl _) (.int _)⟩
  ·cases e
 ·split at e
  ·rename_i hz
   cases rx; cases ry; cases e
   exact .inr ⟨_, _, rfl, rfl, hz, k _ H (Same.refl _) (.str _)⟩
  ·cases e
 ·cases e
theorem Yo : cH X (rI CDivN fun i j => .int (i.fdiv j)) Ae := by
 intro Z H β S x y dx dy dz Q A rx ry e k
 unfold Ae at e
 split at e
 ·split at e
  ·rename_i hz
   cases rx; cases ry; cases e
   exact ⟨_, _, rfl, rfl, hz, k _ H (Same.refl _) (.int _)⟩
  ·cases e
 ·cases e
theorem Cz : cH X (rI (fun _ j => j ≠ 0) fun i j => .int (i.fmod j)) mO := by
 intro Z H β S x y dx dy dz Q A rx ry e k
 unfold mO at e
 split at e
 ·split at e
  ·rename_i hz
   cases rx; cases ry; cases e
   exact ⟨_, _, rfl, rfl, hz, k _ H (Same.refl _) (.int _)⟩
  ·cases e
 ·cases e
theorem CA : cH X (rI CPow fun i j => .int (i ^ j.toNat)) o7 := by
 intro Z H β S x y dx dy dz Q A rx ry e k
 unfold o7 at e
 split at e
 ·split at e
  ·rename_i hz
   cases rx; cases ry; cases e
   exact ⟨_, _, rfl, rfl, hz, k _ H (Same.refl _) (.int _)⟩
  ·cases e
 ·cases e
theorem MP : vp X (rU fun i => .int (-i)) xM := by
 intro Z H β S x dx dz Q A rx e k
 unfold xM at e
 split at e
 ·cases rx; cases e
  exact ⟨_, rfl, k _ H (Same.refl _) (.int _)⟩
 ·cases e
abbrev xN (f : Int → Int → Bool) (g : Str → Str → Bool) : R2 := fun x y H Q => (∃ i j, x = .int i ∧ y = .int j ∧ Q (.bl (f i j)) H) ∨ ∃ i j, x = .str i ∧ y = .str j ∧ Q (.bl (g i j)) H
theorem Yp : OpR X (compareOp .Lt) (xN (fun i j => decide (i < j)) fun i j => decide (i.cps.toList < j.cps.toList)) := OpR.or op_lt op_lt_str
theorem xO : OpR X (compareOp .LtE) (xN (fun i j => decide (i ≤ j)) fun i j => !decide (j.cps.toList < i.cps.toList)) := OpR.or op_le op_le_str
theorem Yq : OpR X (compareOp .Gt) (xN (fun i j => decide (j < i)) fun i j => decide (j.cps.toList < i.cps.toList)) := OpR.or op_gt op_gt_str
theorem Yr : cH X (xN (fun i j => decide (i < j)) fun i j => decide (i.cps.toList < j.cps.toList)) tY := by
 intro Z H β S x y dx dy dz Q A rx ry e k
 unfold tY at e
 split at e
 ·cases rx; cases ry; cases e; exact .inl ⟨_, _, rfl, rfl, k _ H (Same.refl _) (.bl _)⟩
 ·cases rx; cases ry; cases e; exact .inr ⟨_, _, rfl, rfl, k _ H (Same.refl _) (.bl _)⟩
 ·cases e
theorem xP : cH X (xN (fun i j => decide (i ≤ j)) fun i j => !decide (j.cps.toList < i.cps.toList)) o8 := by
 intro Z H β S x y dx dy dz Q A rx ry e k
 unfold o8 at e
 split at e
 ·cases rx; cases ry; cases e; exact .inl ⟨_, _, rfl, rfl, k _ H (Same.refl _) (.bl _)⟩
 ·cases rx; cases ry; cases e; exact .inr ⟨_, _, rfl, rfl, k _ H (Same.refl _) (.bl _)⟩
 ·cases e
theorem Ys : cH X (xN (fun i j => decide (j < i)) fun i j => decide (j.cps.toList < i.cps.toList)) vK := by
 intro Z H β S x y dx dy dz Q A rx ry e k
 unfold vK at e
 split at e
 ·cases rx; cases ry; cases e; exact .inl ⟨_, _, rfl, rfl, k _ H (Same.refl _) (.bl _)⟩
 ·cases rx; cases ry; cases e; exact .inr ⟨_, _, rfl, rfl, k _ H (Same.refl _) (.bl _)⟩
 ·cases e
end
def vL : Key → PyData
 | .inl i => .int i
 | .inr x => .str x
mutual
/-- k: dicts Ml -/
def toPy (k : Bool) : D → Option PyData
 | .non => some .none
 | .bl b => some (.bool b)
 | .int i => some (.int i)
 | .str x => some (.str x)
 | .tup xs => match ie k xs with
  | some l => some (.tuple l)
  | none => none
 | .lst xs => match ie k xs with
  | some l => some (.list l)
  | none => none
 | .dct xs => match k with
  | true => match pY k xs with
   | some l => some (.dict l)
   | none => none
  | false => none
 | .ref _ => none
 | .ty _ => none
 | .fn _ => none
def ie (k : Bool) : List D → Option (List PyData)
 | [] => some []
 | d :: r => match toPy k d with
  | some x => match ie k r with
   | some l => some (x :: l)
   | none => none
  | none => none
def pY (k : Bool) : List (Key × D) → Option (List (PyData × PyData))
 | [] => some []
 | p :: r => match CB k p with
  | some x => match pY k r with
   | some l => some (x :: l)
   | none => none
  | none => none
def CB (k : Bool) : Key × D → Option (PyData × PyData)
 | (a, d) => match toPy k d with
  | some x => some (vL a, x)
  | none => none
end
/-- a thing of the store seen from outside -/
def Af (S : Store) (d : D) : D := match d with
 | .ref n => match S[n]? with
  | some (.lst xs) => .lst xs
  | some (.dct xs) => .dct xs
  | some (.dX xs) => .dct xs
  | some (.fQ xs) => .lst xs
  | _ => .ref n
 | d => d
mutual
/-- the vm things read in, one step deep -/
def stp (S : Store) : D → D
 | .non => .non
 | .bl b => .bl b
 | .int i => .int i
 | .str x => .str x
 | .tup xs => .tup (lB S xs)
 | .lst xs => .lst (lB S xs)
 | .dct kvs => .dct (Ag S kvs)
 | .ref n => Af S (.ref n)
 | .ty n => .ty n
 | .fn x => .fn x
def lB (S : Store) : List D → List D
 | [] => []
 | d :: r => stp S d :: lB S r
def Ag (S : Store) : List (Key × D) → List (Key × D)
 | [] => []
 | p :: r => MQ S p :: Ag S r
def MQ (S : Store) : Key × D → Key × D
 | (k, d) => (k, stp S d)
/-- nothing of the store in it -/
def jD : D → Bool
 | .non => true
 | .bl _ => true
 | .int _ => true
 | .str _ => true
 | .tup xs => vM xs
 | .lst xs => vM xs
 | .dct kvs => tZ kvs
 | .ref _ => false
 | .ty _ => true
 | .fn _ => true
def vM : List D → Bool
 | [] => true
 | d :: r => jD d && vM r
def tZ : List (Key × D) → Bool
 | [] => true
 | p :: r => Gv p && tZ r
def Gv : Key × D → Bool
 | (_, d) => jD d
end
/-- a value as a tree, the vm lists and dicts read in -/
def top (S : Store) (d : D) : D := if jD d = true then d else stp S (stp S (stp S (stp S (stp S d))))
def j9 (S : Store) (d : D) : Option PyData := match toPy false (top S d) with
 | some p => if SeqAt.shaped p = true then some p else none
 | none => none
def lC (S : Store) (x y : D) : Option Bool := match x, y with
 | .str a, .str b => some (a == b)
 | x, y => match j9 S x, j9 S y with
  | some p, some q => some (PyData.eqv p q)
  | _, _ => none
def cX (S : Store) (x y : D) : Option D := match x, y with
 | .tup xs, .tup [] => some (.bl xs.isEmpty)
 | x, y => match lC S x y with
  | some b => some (.bl b)
  | none => none
def jk (S : Store) (x y : D) : Option D := match lC S x y with
 | some b => some (.bl (!b))
 | none => none
/-- .. is None -/
def xQ (_ : Store) (x y : D) : Option D := match y with
 | .non => match x with
  | .non => some (.bl true)
  | _ => some (.bl false)
 | _ => none
def u5 (x z : Str) : Bool := if h : x.cps.size = 1 then decide (x.cps[0] ∈ z.cps.toList) else !(Builtin.Str.occurrences z x 0 z.length 1).isEmpty
def xR (S : Store) (x y : D) : Option Bool := match x, y with
 | .str a, .str z => some (u5 a z)
 | x, y => match j9 S x, j9 S y with
  | some p, some (.list qs) => some (qs.any fun z => PyData.eqv z p)
  | some p, some (.tuple qs) => some (qs.any fun z => PyData.eqv z p)
  | _, _ => none
def jc (S : Store) (x y : D) : Option D := match xR S x y with
 | some b => some (.bl b)
 | none => none
def CF (S : Store) (x y : D) : Option D := match xR S x y with
 | some b => some (.bl (!b))
 | none => none
section
variable {C : Ct} {H : Hp} {Z : Addr → Prop} {β : List Addr} {S : Store}
mutual
/-- how a value reads -/
inductive VW (C : Ct) (H : Hp) (β : List Addr) : V → D → Prop
 | non : VW C H β .non .non
 | bl (b : Bool) : VW C H β (.bl b) (.bl b)
 | int (i : Int) : VW C H β (.int i) (.int i)
 | str (x : Str) : VW C H β (.str x) (.str x)
 | ty (n : String) : VW C H β (.ty n) (.ty n)
 | lst {a : Addr} {xs : List V} {ds : List D} : SqL C.K H a xs → fG C H β xs ds → VW C H β (.ref a) (.lst ds)
 | tup {a : Addr} {xs : List V} {ds : List D} : SqT C.K H a xs → fG C H β xs ds → VW C H β (.ref a) (.tup ds)
 | dct {a : Addr} {xs : List (Key × V)} {ds : List (Key × D)} : Rd H a (.dK xs) → ig C H β xs ds → VW C H β (.ref a) (.dct ds)
 | ref {n : Nat} {a : Addr} : β[n]? = some a → VW C H β (.ref a) (.ref n)
 | fn {v : V} {x : Str} : VW C H β v (.fn x)
inductive fG (C : Ct) (H : Hp) (β : List Addr) : List V → List D → Prop
 | nil : fG C H β [] []
 | cons {v : V} {vs : List V} {d : D} {ds : List D} : VW C H β v d → fG C H β vs ds → fG C H β (v :: vs) (d :: ds)
inductive ig (C : Ct) (H : Hp) (β : List Addr) : List (Key × V) → List (Key × D) → Prop
 | nil : ig C H β [] []
 | cons {k : Key} {v : V} {vs : List (Key × V)} {d : D} {ds : List (Key × D)} : VW C H β v d → ig C H β vs ds → ig C H β ((k, v) :: vs) ((k, d) :: ds)
end
mutual
theorem RV.vw : ∀ {v : V} {d : D}, RV C H Z β v d → VW C H β v d
 | _, _, .non => .non
 | _, _, .bl b => .bl b
 | _, _, .int i => .int i
 | _, _, .str x => .str x
 | _, _, .ty n => .ty n
 | _, _, .lst _ _ hr h => .lst (.inl hr) (aA.vw h)
 | _, _, .tup hr h => .tup (.inl hr) (aA.vw h)
 | _, _, .eV k h => .tup (.inr k) (aA.vw h)
 | _, _, .fK k h => .lst (.inr k) (aA.vw h)
 | _, _, .dct _ _ hr h => .dct hr.rd (aG.vw h)
 | _, _, .ref h => .ref h
 | _, _, .fn h k => .fn
theorem aA.vw : ∀ {vs : List V} {ds : List D}, aA C H Z β vs ds → fG C H β vs ds
 | _, _, .nil => .nil
 | _, _, .cons h t => .cons (RV.vw h) (aA.vw t)
theorem aG.vw : ∀ {vs : List (Key × V)} {ds : List (Key × D)}, aG C H Z β vs ds → ig C H β vs ds
 | _, _, .nil => .nil
 | _, _, .cons h t => .cons (RV.vw h) (aG.vw t)
end
mutual
theorem VW.stp (s : aP C H Z β S) : ∀ {v : V} {d : D}, VW C H β v d → VW C H β v (Mi.stp S d)
 | _, _, .non => by simp only [Mi.stp]; exact .non
 | _, _, .bl b => by simp only [Mi.stp]; exact .bl b
 | _, _, .int i => by simp only [Mi.stp]; exact .int i
 | _, _, .str x => by simp only [Mi.stp]; exact .str x
 | _, _, .ty n => by simp only [Mi.stp]; exact .ty n
 | _, _, .lst hr h => by simp only [Mi.stp]; exact .lst hr (fG.stp s h)
 | _, _, .tup hr h => by simp only [Mi.stp]; exact .tup hr (fG.stp s h)
 | _, _, .dct hr h => by simp only [Mi.stp]; exact .dct hr (ig.stp s h)
 | _, _, .ref (n := n) (a := a) h => by
  simp only [Mi.stp, Af]
  split
  ·rename_i xs e; obtain ⟨us, q1, q2⟩ := s.ok _ _ _ h e; exact .lst (.inl (.inl q1)) q2.vw
  ·rename_i xs e; obtain ⟨us, q1, q2⟩ := s.ok _ _ _ h e; exact .dct (.inl q1) q2.vw
  ·rename_i xs e; obtain ⟨od, us, q1, q2⟩ := s.ok _ _ _ h e; exact .dct (.inr ⟨od, q1⟩) q2.vw
  ·rename_i xs e; obtain ⟨od, us, q1, q2⟩ := s.ok _ _ _ h e; exact .lst (.inl (.inr ⟨od, q1⟩)) q2.vw
  ·exact .ref h
 | _, _, .fn => by simp only [Mi.stp]; exact .fn
theorem fG.stp (s : aP C H Z β S) : ∀ {vs : List V} {ds : List D}, fG C H β vs ds → fG C H β vs (Mi.lB S ds)
 | _, _, .nil => by simp only [Mi.lB]; exact .nil
 | _, _, .cons h t => by simp only [Mi.lB]; exact .cons (VW.stp s h) (fG.stp s t)
theorem ig.stp (s : aP C H Z β S) : ∀ {vs : List (Key × V)} {ds : List (Key × D)}, ig C H β vs ds → ig C H β vs (Mi.Ag S ds)
 | _, _, .nil => by simp only [Mi.Ag]; exact .nil
 | _, _, .cons h t => by simp only [Mi.Ag, Mi.MQ]; exact .cons (VW.stp s h) (ig.stp s t)
end
theorem RV.top {v : V} {d : D} (r : RV C H Z β v d) (s : aP C H Z β S) : VW C H β v (Mi.top S d) := by
 unfold Mi.top
 split
 ·exact r.vw
 ·exact ((((r.vw.stp s).stp s).stp s).stp s).stp s
mutual
theorem xV : ∀ {v : V} {d : D} {p : PyData}, VW C H β v d → toPy false d = some p → Dp C.K H v p
 | _, .non, _, r, e => by cases r; simp only [toPy] at e; cases e; exact .non
 | _, .bl b, _, r, e => by cases r; simp only [toPy] at e; cases e; exact .bl b
 | _, .int i, _, r, e => by cases r; simp only [toPy] at e; cases e; exact .int i
 | _, .str x, _, r, e => by cases r; simp only [toPy] at e; cases e; exact .str x
 | _, .tup xs, _, r, e => by
  simp only [toPy] at e
  split at e
  ·rename_i l el
   cases e
   cases r with
   | tup hr hs => exact .tup hr (Gx hs el)
  ·cases e
 | _, .lst xs, _, r, e => by
  simp only [toPy] at e
  split at e
  ·rename_i l el
   cases e
   cases r with
   | lst hr hs => exact .lst hr (Gx hs el)
  ·cases e
 | _, .dct xs, _, r, e => by simp only [toPy] at e; cases e
 | _, .ref n, _, r, e => by simp only [toPy] at e; cases e
 | _, .ty n, _, r, e => by simp only [toPy] at e; cases e
 | _, .fn n, _, r, e => by simp only [toPy] at e; cases e
theorem Gx : ∀ {vs : List V} {ds : List D} {ps : List PyData}, fG C H β vs ds → ie false ds = some ps → DpAll C.K H vs ps
 | _, [], _, r, e => by cases r; simp only [ie] at e; cases e; exact .nil
 | _, d :: ds, _, r, e => by
  simp only [ie] at e
  split at e
  ·rename_i x ex
   split at e
   ·rename_i l el
    cases e
    cases r with
    | cons r1 r2 => exact .cons (xV r1 ex) (Gx r2 el)
   ·cases e
  ·cases e
end
/-- a value, seen at the top -/
theorem Yt {v : V} {d : D} {p : PyData} (r : RV C H Z β v d) (s : aP C H Z β S) (h : toPy false (top S d) = some p) : Dp C.K H v p := xV (r.top s) h
theorem u6 {v : V} {d : D} {p : PyData} (r : RV C H Z β v d) (s : aP C H Z β S) (h : j9 S d = some p) : Dp C.K H v p ∧ SeqAt.shaped p = true := by
 unfold j9 at h
 split at h
 ·rename_i q e
  split at h
  ·cases h; exact ⟨Yt r s e, by assumption⟩
  ·cases h
 ·cases h
end
section
variable {X : Cx}
/-- a tuple, and the empty one -/
def MS (K : PySem.W.Frag) : R2 := fun x y H Q => ∃ a b xs, x = .ref a ∧ y = .ref b ∧ SqT K H a xs ∧ SqT K H b [] ∧ Q (.bl xs.isEmpty) H
theorem Yu (hu : X.A.units + 64 < cLine) : OpR X (compareOp .Eq) (MS X.K) := by
 intro pins s σ H x y v u Q I rx ry h
 obtain ⟨a, b, xs, rfl, rfl, ha, hb, q⟩ := h
 cases (show v = Value.ref a from rx)
 cases (show u = Value.ref b from ry)
 obtain ⟨us, r1, ⟨o1, g1, c1, n1, d1⟩, _⟩ := I.tuple ha
 obtain ⟨ws, r2, ⟨o2, g2, c2, n2, d2⟩, _⟩ := I.tuple hb
 cases r2
 refine SeqAt.eq_tupleAt (e := fun _ => true) ⟨o1, g1, c1, n1, d1⟩ ⟨o2, g2, c2, n2, d2⟩ (by omega) (fun j h1 h2 => absurd h2 (Nat.not_lt_zero j)) ?_
 refine ⟨.bl xs.isEmpty, H, I, ?_, q⟩
 have e : xs.length = us.length := r1.length
 show Value.bool _ = Value.bool _
 congr 1
 cases us with
 | nil =>
  cases xs with
  | nil => rfl
  | cons x xs => cases e
 | cons u us =>
  cases xs with
  | nil => cases e
  | cons x xs => simp
def CG (K : PySem.W.Frag) : R2 := fun x y H Q => rEq x y H Q ∨ rEqD K x y H Q ∨ MS K x y H Q
def CH (K : PySem.W.Frag) : R2 := fun x y H Q => rNe x y H Q ∨ rNeD K x y H Q
theorem or_eq (hu : X.A.units + 64 < cLine) : OpR X (compareOp .Eq) (CG X.K) := OpR.or op_eq (OpR.or (op_eqD hu) (Yu hu))
theorem xW (hu : X.A.units + 64 < cLine) : OpR X (compareOp .NotEq) (CH X.K) := OpR.or op_ne (op_neD hu)
theorem iK : cH X (CG X.K) cX := by
 intro Z H β S x y dx dy dz Q A rx ry e k
 unfold cX at e
 split at e
 ·rename_i xs
  cases e
  obtain ⟨a, us, rfl, q1, r1⟩ := rx.gH rfl
  obtain ⟨b, ws, rfl, q2, r2⟩ := ry.gH rfl
  cases r2
  refine .inr (.inr ⟨a, b, us, rfl, rfl, q1, q2, ?_⟩)
  have e : us.isEmpty = xs.isEmpty := by
   have := r1.length
   cases us <;> cases xs <;> first | rfl | cases this
  rw [e]
  exact k _ H (Same.refl _) (.bl _)
 ·split at e
  ·rename_i b eb
   cases e
   unfold lC at eb
   split at eb
   ·cases rx; cases ry; cases eb
    refine .inl ⟨rfl, ?_⟩
    rw [dec_str]
    exact k _ H (Same.refl _) (.bl _)
   ·split at eb
    ·rename_i p q e1 e2
     cases eb
     obtain ⟨a1, a2⟩ := u6 rx A.st e1
     obtain ⟨b1, b2⟩ := u6 ry A.st e2
     exact .inr (.inl ⟨p, q, a1, b1, a2, b2, k _ H (Same.refl _) (.bl _)⟩)
    ·cases eb
  ·cases e
theorem xX : cH X (CH X.K) jk := by
 intro Z H β S x y dx dy dz Q A rx ry e k
 unfold jk at e
 split at e
 ·rename_i b eb
  cases e
  unfold lC at eb
  split at eb
  ·cases rx; cases ry; cases eb
   refine .inl ⟨rfl, ?_⟩
   rw [dec_str]
   exact k _ H (Same.refl _) (.bl _)
  ·split at eb
   ·rename_i p q e1 e2
    cases eb
    obtain ⟨a1, a2⟩ := u6 rx A.st e1
    obtain ⟨b1, b2⟩ := u6 ry A.st e2
    exact .inr ⟨p, q, a1, b1, a2, b2, k _ H (Same.refl _) (.bl _)⟩
   ·cases eb
 ·cases e
theorem Yv {C : Ct} {H : Hp} {Z : Addr → Prop} {β : List Addr} {v : V} {d : D} (r : RV C H Z β v d) : decide (v = .non) = (match d with | .non => true | _ => false) := by
 cases r <;> first | rfl | (exact decide_eq_false fun z => nomatch z)
theorem Yw : cH X (fun x y H Q => y = .non ∧ Q (.bl (decide (x = .non))) H) xQ := by
 intro Z H β S x y dx dy dz Q A rx ry e k
 unfold xQ at e
 split at e
 ·cases ry
  refine ⟨rfl, ?_⟩
  rw [Yv rx]
  split at e
  ·cases e; exact k _ H (Same.refl _) (.bl _)
  ·rename_i n
   cases e
   cases dx with
   | non => exact absurd rfl n
   | _ => exact k _ H (Same.refl _) (.bl _)
 ·cases e
def rM (K : PySem.W.Frag) (f : Bool → Bool) : R2 := fun x y H Q => (∃ (c : Nat) (z : Str), x = .str ⟨#[c]⟩ ∧ y = .str z ∧ Q (.bl (f (decide (c ∈ z.cps.toList)))) H) ∨
 (∃ i j, x = .str i ∧ y = .str j ∧ Q (.bl (f (!(Builtin.Str.occurrences j i 0 j.length 1).isEmpty))) H) ∨
 (∃ d ds, Dp K H x d ∧ Dp K H y (.list ds) ∧ SeqAt.shaped d = true ∧ SeqAt.shaped (.list ds) = true ∧ Q (.bl (f (ds.any fun z => PyData.eqv z d))) H) ∨
 ∃ d ds, Dp K H x d ∧ Dp K H y (.tuple ds) ∧ SeqAt.shaped d = true ∧ SeqAt.shaped (.tuple ds) = true ∧ Q (.bl (f (ds.any fun z => PyData.eqv z d))) H
/-- x in a tuple of data -/
theorem Yx (hu : X.A.units + 65 < cLine) : OpR X (compareOp .In) (fun x y H Q => ∃ d ds, Dp X.K H x d ∧ Dp X.K H y (.tuple ds) ∧ SeqAt.shaped d = true ∧ SeqAt.shaped (.tuple ds) = true ∧ Q (.bl (ds.any fun z => PyData.eqv z d)) H) := by
 intro pins s σ H x y v u Q I rx ry h
 obtain ⟨d, ds, hx, hy, sx, sy, q⟩ := h
 obtain ⟨l1, r1⟩ := Dp.reads I d x v hx rx
 obtain ⟨l2, r2⟩ := Dp.reads I (.tuple ds) y u hy ry
 refine SeqAt.in_tuple_reads r2 r1 (SeqAt.canLay_of_shaped sy) (SeqAt.canLay_of_shaped sx) ?_ ⟨.bl _, H, I, rfl, q⟩
 exact room_in_shaped sx hu
theorem Yy (hu : X.A.units + 65 < cLine) : OpR X (compareOp .NotIn) (fun x y H Q => ∃ d ds, Dp X.K H x d ∧ Dp X.K H y (.tuple ds) ∧ SeqAt.shaped d = true ∧ SeqAt.shaped (.tuple ds) = true ∧ Q (.bl (!ds.any fun z => PyData.eqv z d)) H) := by
 intro pins s σ H x y v u Q I rx ry h
 obtain ⟨d, ds, hx, hy, sx, sy, q⟩ := h
 obtain ⟨l1, r1⟩ := Dp.reads I d x v hx rx
 obtain ⟨l2, r2⟩ := Dp.reads I (.tuple ds) y u hy ry
 refine SeqAt.notIn_tuple_reads r2 r1 (SeqAt.canLay_of_shaped sy) (SeqAt.canLay_of_shaped sx) ?_ ⟨.bl _, H, I, rfl, q⟩
 exact room_in_shaped sx hu
theorem vN (hu : X.A.units + 65 < cLine) : OpR X (compareOp .In) (rM X.K id) := OpR.or op_in_sign (OpR.or op_in_str (OpR.or (op_inD hu) (Yx hu)))
theorem Yz (hu : X.A.units + 65 < cLine) : OpR X (compareOp .NotIn) (rM X.K not) := OpR.or op_notIn_sign (OpR.or op_notin_str (OpR.or (op_notInD hu) (Yy hu)))
theorem inX {f : Bool → Bool} {Z : Addr → Prop} {H : Hp} {β : List Addr} {S : Store} {x y : V} {dx dy : D} {c : Bool} {Q : VK} (A : At (aj X) H Z β S) (rx : RV (aj X) H Z β x dx) (ry : RV (aj X) H Z β y dy) (e : xR S dx dy = some c) (k : Q (.bl (f c)) H) : rM X.K f x y H Q := by
 unfold xR at e
 split at e
 ·rename_i a z
  cases rx; cases ry; cases e
  unfold u5 at k
  split at k
  ·rename_i h
   refine .inl ⟨a.cps[0], z, ?_, rfl, k⟩
   obtain ⟨⟨l⟩⟩ := a
   match l, h with
   | [c], _ => rfl
  ·exact .inr (.inl ⟨_, _, rfl, rfl, k⟩)
 ·split at e
  ·rename_i p qs e1 e2
   cases e
   obtain ⟨a1, a2⟩ := u6 rx A.st e1
   obtain ⟨b1, b2⟩ := u6 ry A.st e2
   exact .inr (.inr (.inl ⟨p, qs, a1, b1, a2, b2, k⟩))
  ·rename_i p qs e1 e2
   cases e
   obtain ⟨a1, a2⟩ := u6 rx A.st e1
   obtain ⟨b1, b2⟩ := u6 ry A.st e2
   exact .inr (.inr (.inr ⟨p, qs, a1, b1, a2, b2, k⟩))
  ·cases e
theorem vO : cH X (rM X.K id) jc := by
 intro Z H β S x y dx dy dz Q A rx ry e k
 unfold jc at e
 split at e
 ·rename_i c ec
  cases e
  exact inX A rx ry ec (k _ H (Same.refl _) (.bl _))
 ·cases e
theorem YB : cH X (rM X.K not) CF := by
 intro Z H β S x y dx dy dz Q A rx ry e k
 unfold CF at e
 split at e
 ·rename_i c ec
  cases e
  exact inX A rx ry ec (k _ H (Same.refl _) (.bl _))
 ·cases e
end
def tyOf (S : Store) (d : D) : Option String := match Af S d with
 | .non => some "NoneType"
 | .bl _ => some "bool"
 | .int _ => some "int"
 | .str _ => some "str"
 | .tup _ => some "tuple"
 | .lst _ => some "list"
 | .dct _ => some "dict"
 | _ => none
def CJ (t c : String) : Bool := t == c || (t == "bool" && c == "int")
def o9 (c : String) : Bool := c == "bool" || c == "int" || c == "str" || c == "tuple" || c == "list" || c == "dict"
def eE (S : Store) (ds : List D) : Option D := match ds with
 | [d, .ty c] => match tyOf S d with
  | some t => if o9 c = true then some (.bl (CJ t c)) else none
  | none => none
 | _ => none
theorem kit_ty (K : PySem.W.Frag) {t c : String} (ht : t = "NoneType" ∨ o9 t = true) (hc : o9 c = true) : PySem.W.kitOne K (.type t) (.type c) = some (CJ t c) := by
 simp only [o9, Bool.or_eq_true, beq_iff_eq] at ht hc
 rcases ht with rfl | ((((rfl | rfl) | rfl) | rfl) | rfl) | rfl <;> rcases hc with ((((rfl | rfl) | rfl) | rfl) | rfl) | rfl <;> rfl
section
variable {X : Cx} {Z : Addr → Prop} {H : Hp} {β : List Addr} {S : Store}
theorem MT {v : V} {d : D} {t : String} (A : At (aj X) H Z β S) (r : RV (aj X) H Z β v d) (h : tyOf S d = some t) : TyX X.K H v (.type t) ∧ (t = "NoneType" ∨ o9 t = true) := by
 have Gy : ∀ {a : Addr} {xs : List V}, Rd H a (.lst xs) → TyX X.K H (.ref a) (.type "list") := fun hr => hr.elim (fun q => .base (.lst q)) fun ⟨o, q⟩ => .base (.frz q)
 have Gz : ∀ {a : Addr} {xs : List (Key × V)}, Rd H a (.dK xs) → TyX X.K H (.ref a) (.type "dict") := fun hr => hr.elim (fun q => .base (.dK q)) fun ⟨o, q⟩ => .fDict q
 unfold tyOf at h
 cases d with
 | ref n =>
  simp only [Af] at h
  cases e2 : S[n]? with
  | none => rw [e2] at h; cases h
  | some so =>
   rw [e2] at h
   cases so with
   | lst xs =>
    cases h
    obtain ⟨a, us, rfl, q1, _⟩ := r.bu A.st (ds := xs) (by simp only [bu, e2])
    refine ⟨?_, .inr rfl⟩
    rcases q1 with q1 | ⟨o, its, n, q1, q2, _⟩
    ·exact Gy q1
    ·exact .kList q1 q2
   | dct xs =>
    cases h
    obtain ⟨a, us, rfl, q1, _⟩ := r.aU A.st (ds := xs) (by simp only [aU, e2])
    exact ⟨Gz q1, .inr rfl⟩
   | dX xs =>
    cases h
    obtain ⟨a, us, rfl, q1, _⟩ := r.aU A.st (ds := xs) (by simp only [aU, e2])
    exact ⟨Gz q1, .inr rfl⟩
   | ins c fs => cases h
   | fQ xs =>
    cases h
    obtain ⟨a, us, rfl, q1, _⟩ := r.bu A.st (ds := xs) (by simp only [bu, e2])
    refine ⟨?_, .inr rfl⟩
    rcases q1 with q1 | ⟨o, its, n, q1, q2, _⟩
    ·exact Gy q1
    ·exact .kList q1 q2
 | non => cases r; cases h; exact ⟨.base .non, .inl rfl⟩
 | bl b => cases r; cases h; exact ⟨.base (.bl b), .inr rfl⟩
 | int i => cases r; cases h; exact ⟨.base (.int i), .inr rfl⟩
 | str x => cases r; cases h; exact ⟨.base (.str x), .inr rfl⟩
 | ty n => cases h
 | fn n => cases h
 | tup xs =>
  cases h
  cases r with
  | tup hr _ => exact ⟨hr.elim (fun q => .base (.tup q)) fun ⟨o, q⟩ => .fTuple q, .inr rfl⟩
  | eV k _ => obtain ⟨o, its, n, q1, q2, _⟩ := k; exact ⟨.kTuple q1 q2, .inr rfl⟩
 | lst xs =>
  cases h
  cases r with
  | lst _ _ hr _ => exact ⟨Gy hr, .inr rfl⟩
  | fK k _ => obtain ⟨o, its, n, q1, q2, _⟩ := k; exact ⟨.kList q1 q2, .inr rfl⟩
 | dct xs =>
  cases h
  cases r with
  | dct _ _ hr _ => exact ⟨Gz hr.rd, .inr rfl⟩
theorem vP {C : Ct} {xs : List V} {a b : D} (r : aA C H Z β xs [a, b]) : ∃ x y, xs = [x, y] ∧ RV C H Z β x a ∧ RV C H Z β y b := by
 cases r with
 | cons r1 r2 => cases r2 with
  | cons r2 r3 => cases r3; exact ⟨_, _, rfl, r1, r2⟩
theorem jE {C : Ct} {xs : List V} {a : D} (r : aA C H Z β xs [a]) : ∃ x, xs = [x] ∧ RV C H Z β x a := by
 cases r with
 | cons r1 r2 => cases r2; exact ⟨_, rfl, r1⟩
theorem jm : gj X (rIsi X.K) eE := by
 intro Z H β S xs ds dz Q A r e k
 unfold eE at e
 split at e
 ·rename_i d c
  split at e
  ·rename_i t et
   split at e
   ·rename_i hc
    cases e
    obtain ⟨x, y, rfl, r1, r2⟩ := vP r
    cases r2
    obtain ⟨q1, q2⟩ := MT A r1 et
    exact ⟨x, .ty c, .type t, .type c, CJ t c, rfl, .ty c, q1, kit_ty _ q2 hc, k _ H (Same.refl _) (.bl _)⟩
   ·cases e
  ·cases e
 ·cases e
def fH (S : Store) (ds : List D) : Option D := match ds with
 | [.str x] => if x.length ≤ sizeLine then some (.int x.length) else none
 | [.tup xs] => some (.int xs.length)
 | [d] => match bu S d with
  | some xs => some (.int xs.length)
  | none => match aU S d with
   | some xs => some (.int xs.length)
   | none => none
 | _ => none
def rLen (K : PySem.W.Frag) : List V → Hp → VK → Prop := fun xs H Q => (∃ x n, xs = [x] ∧ LenV K x H n ∧ Q (.int n) H) ∨ ∃ a kvs, xs = [V.ref a] ∧ Rd H a (.dK kvs) ∧ Q (.int kvs.length) H
theorem YC : CallR X (.builtin "len") (fun xs H Q => ∃ a kvs, xs = [V.ref a] ∧ Rd H a (.dK kvs) ∧ Q (.int kvs.length) H) := by
 intro pins s σ H xs us Q I r h
 obtain ⟨a, kvs, rfl, ha, q⟩ := h
 obtain ⟨u, rfl, ru⟩ := vals1 r
 cases (show u = Value.ref a from ru)
 obtain ⟨hlen, hns, vs, rk, hd⟩ := dk_rd I.hok ha
 have hl := line63
 have hs : sizeLine = 16777216 := sizeLine_eq
 have hn := rk.length
 exact call_len_dict hns hd (by omega) ⟨.int kvs.length, H, I.tok _, ⟨_, by rw [hn]⟩, q⟩
theorem lD : CallR X (.builtin "len") (rLen X.K) := CallR.or call_len YC
theorem lE : gj X (rLen X.K) fH := by
 intro Z H β S xs ds dz Q A r e k
 have tail : ∀ {d : D}, aA (aj X) H Z β xs [d] → (match bu S d with
   | some xs => some (D.int xs.length)
   | none => match aU S d with
    | some xs => some (.int xs.length)
    | none => none) = some dz → rLen X.K xs H Q := fun {d} r e => by
  obtain ⟨x, rfl, r1⟩ := jE r
  split at e
  ·rename_i ys e1
   cases e
   obtain ⟨a, us, rfl, q1, r2⟩ := r1.bu A.st e1
   exact .inl ⟨_, us.length, rfl, .inl ⟨us, q1, rfl⟩, by rw [r2.length]; exact k _ H (Same.refl _) (.int _)⟩
  ·split at e
   ·rename_i ys e1
    cases e
    obtain ⟨a, us, rfl, q1, r2⟩ := r1.aU A.st e1
    exact .inr ⟨_, us, rfl, q1, by rw [r2.length]; exact k _ H (Same.refl _) (.int _)⟩
   ·cases e
 unfold fH at e
 split at e
 ·split at e
  ·rename_i hz
   cases e
   obtain ⟨x, rfl, r1⟩ := jE r
   cases r1
   exact .inl ⟨_, _, rfl, ⟨hz, rfl⟩, k _ H (Same.refl _) (.int _)⟩
  ·cases e
 ·cases e
  obtain ⟨x, rfl, r1⟩ := jE r
  obtain ⟨a, us, rfl, q1, r2⟩ := r1.gH rfl
  exact .inl ⟨_, us.length, rfl, .inr ⟨us, q1, rfl⟩, by rw [r2.length]; exact k _ H (Same.refl _) (.int _)⟩
 ·exact tail r e
 ·cases e
def u9 (_ : Store) (ds : List D) : Option D := match ds with
 | [.int i] => some (.int (if i < 0 then -i else i))
 | _ => none
theorem MU : gj X (fun xs H Q => ∃ i, xs = [.int i] ∧ Q (.int (if i < 0 then -i else i)) H) u9 := by
 intro Z H β S xs ds dz Q A r e k
 unfold u9 at e
 split at e
 ·cases e
  obtain ⟨x, rfl, r1⟩ := jE r
  cases r1
  exact ⟨_, rfl, k _ H (Same.refl _) (.int _)⟩
 ·cases e
def vQ (_ : Store) (ds : List D) : Option D := match ds with
 | [.int i, .int j] => some (.int (if j > i then j else i))
 | _ => none
def CK (_ : Store) (ds : List D) : Option D := match ds with
 | [.int i, .int j] => some (.int (if j < i then j else i))
 | _ => none
theorem MV : gj X (fun xs H Q => ∃ i j, xs = [.int i, .int j] ∧ Q (.int (if j > i then j else i)) H) vQ := by
 intro Z H β S xs ds dz Q A r e k
 unfold vQ at e
 split at e
 ·cases e
  obtain ⟨x, y, rfl, r1, r2⟩ := vP r
  cases r1; cases r2
  exact ⟨_, _, rfl, k _ H (Same.refl _) (.int _)⟩
 ·cases e
theorem YD : gj X (fun xs H Q => ∃ i j, xs = [.int i, .int j] ∧ Q (.int (if j < i then j else i)) H) CK := by
 intro Z H β S xs ds dz Q A r e k
 unfold CK at e
 split at e
 ·cases e
  obtain ⟨x, y, rfl, r1, r2⟩ := vP r
  cases r1; cases r2
  exact ⟨_, _, rfl, k _ H (Same.refl _) (.int _)⟩
 ·cases e
def Ah (_ : Store) (ds : List D) : Option D := match ds with
 | [.int i, .int j] => if 0 < j ∧ j < 1073741824 then some (.tup [.int (i / j), .int (i % j)]) else none
 | _ => none
theorem YF : gj X (fun xs H Q => ∃ i j, xs = [.int i, .int j] ∧ CDiv i j ∧ ∀ p, H p = none → Q (.ref p) (upd H p (.tup [.int (i / j), .int (i % j)]))) Ah := by
 intro Z H β S xs ds dz Q A r e k
 unfold Ah at e
 split at e
 ·split at e
  ·rename_i hz
   cases e
   obtain ⟨x, y, rfl, r1, r2⟩ := vP r
   cases r1; cases r2
   exact ⟨_, _, rfl, hz, fun p hp => k _ _ (g8 hp) (.tup (.inl upd_same) (.cons (.int _) (.cons (.int _) .nil)))⟩
  ·cases e
 ·cases e
def allB : List D → Option (List Bool)
 | [] => some []
 | .bl b :: r => match allB r with
  | some l => some (b :: l)
  | none => none
 | _ :: _ => none
theorem MX {C : Ct} : ∀ {xs : List V} {ds : List D} {bs : List Bool}, aA C H Z β xs ds → allB ds = some bs → xs = bs.map V.bl
 | _, [], _, r, e => by cases r; cases e; rfl
 | _, .bl b :: ds, _, r, e => by
  simp only [allB] at e
  split at e
  ·rename_i l el
   cases e
   cases r with
   | cons r1 r2 => cases r1; rw [MX r2 el]; rfl
  ·cases e
 | _, .non :: _, _, _, e | _, .int _ :: _, _, _, e | _, .str _ :: _, _, _, e | _, .tup _ :: _, _, _, e | _, .lst _ :: _, _, _, e | _, .dct _ :: _, _, _, e | _, .ref _ :: _, _, _, e | _, .ty _ :: _, _, _, e | _, .fn _ :: _, _, _, e => by cases e
def vR (S : Store) (ds : List D) : Option (List Bool) := match ds with
 | [d] => match bu S d with
  | some xs => allB xs
  | none => none
 | _ => none
def oh (S : Store) (ds : List D) : Option D := match vR S ds with
 | some bs => some (.bl (bs.all id))
 | none => none
def Ai (S : Store) (ds : List D) : Option D := match vR S ds with
 | some bs => some (.bl (bs.any id))
 | none => none
theorem MY {xs : List V} {ds : List D} {bs : List Bool} (A : At (aj X) H Z β S) (r : aA (aj X) H Z β xs ds) (e : vR S ds = some bs) : ∃ a, xs = [V.ref a] ∧ SqL X.K H a (bs.map V.bl) := by
 unfold vR at e
 split at e
 ·split at e
  ·rename_i ys e1
   obtain ⟨x, rfl, r1⟩ := jE r
   obtain ⟨a, us, rfl, q1, r2⟩ := r1.bu A.st e1
   exact ⟨a, rfl, by rw [← MX r2 e]; exact q1⟩
  ·cases e
 ·cases e
theorem Aj : gj X (rAll X.K) oh := by
 intro Z H β S xs ds dz Q A r e k
 unfold oh at e
 split at e
 ·rename_i bs e1
  cases e
  obtain ⟨a, q1, q2⟩ := MY A r e1
  exact ⟨a, bs, q1, q2, k _ H (Same.refl _) (.bl _)⟩
 ·cases e
theorem YG : gj X (rAny X.K) Ai := by
 intro Z H β S xs ds dz Q A r e k
 unfold Ai at e
 split at e
 ·rename_i bs e1
  cases e
  obtain ⟨a, q1, q2⟩ := MY A r e1
  exact ⟨a, bs, q1, q2, k _ H (Same.refl _) (.bl _)⟩
 ·cases e
end
mutual
/-- v reads as d, no dict of it is the table of modules -/
inductive RD (h : Heap) : Value → PyData → Prop
 | non : RD h .none .none
 | bl (b : Bool) : RD h (.bool b) (.bool b)
 | int (i : Int) (t : Tok) : RD h (.int i t) (.int i)
 | str (x : Str) (t : Tok) : RD h (.str x t) (.str x)
 | lst {a : Addr} {o : Obj} {l : List Value} {n : Nat} {xs : List PyData} : h.get? a = some o → o.cls = .type "list" → o.data = .seq l.toArray n → iQ h l xs → RD h (.ref a) (.list xs)
 | tup {a : Addr} {o : Obj} {l : List Value} {n : Nat} {xs : List PyData} : h.get? a = some o → o.cls = .type "tuple" → o.data = .seq l.toArray n → iQ h l xs → RD h (.ref a) (.tuple xs)
 | dct {a : Addr} {o : Obj} {es : Array DictEntry} {n : Nat} {kvs : List (PyData × PyData)} : h.get? a = some o → o.cls = .type "dict" → o.data = .dict es n → (a == sysModules) = false →
   iQ h (es.toList.map (·.key)) (kvs.map (·.1)) → iQ h (es.toList.map (·.val)) (kvs.map (·.2)) → RD h (.ref a) (.dict kvs)
inductive iQ (h : Heap) : List Value → List PyData → Prop
 | nil : iQ h [] []
 | cons {v : Value} {vs : List Value} {d : PyData} {ds : List PyData} : RD h v d → iQ h vs ds → iQ h (v :: vs) (d :: ds)
end
section
variable {h : Heap} {pr : Program} {w : World}
mutual
theorem RD.reads : ∀ {v : Value} {d : PyData}, RD h v d → ∃ as, Reads h v d as
 | _, _, .non => ⟨_, .none⟩
 | _, _, .bl b => ⟨_, .bool b⟩
 | _, _, .int i t => ⟨_, .int i t⟩
 | _, _, .str x t => ⟨_, .str x t⟩
 | _, _, .lst g c e r => let ⟨_, q⟩ := iQ.reads r; ⟨_, .list g c e q⟩
 | _, _, .tup g c e r => let ⟨_, q⟩ := iQ.reads r; ⟨_, .tuple g c e q⟩
 | _, _, .dct g c e _ r1 r2 => let ⟨_, q1⟩ := iQ.reads r1; let ⟨_, q2⟩ := iQ.reads r2; ⟨_, .dict g c e q1 q2⟩
theorem iQ.reads : ∀ {vs : List Value} {ds : List PyData}, iQ h vs ds → ∃ as, ReadsAll h vs ds as
 | _, _, .nil => ⟨_, .nil⟩
 | _, _, .cons r rs => let ⟨_, q⟩ := RD.reads r; let ⟨_, qs⟩ := iQ.reads rs; ⟨_, .cons q qs⟩
end
/-- what stands below: addresses and a level -/
abbrev Lo (pr : Program) (w : World) (h : Heap) (v : Value) (d : PyData) : Prop := ∃ bs, ReadAtMost h d.depth bs ∧ ReprK pr w bs h d.depth v d.shown
abbrev MZ (pr : Program) (w : World) (h : Heap) (vs : List Value) (ds : List PyData) : Prop := ∃ bs, ReadAtMost h (PyData.depthAll ds) bs ∧ ReprAllK pr w bs h (PyData.depthAll ds) vs (PyData.shownAll ds)
theorem YH {a : Addr} {o : Obj} {l : List Value} {n : Nat} {xs : List PyData} (r : RD h (.ref a) (.list xs)) (g : h.get? a = some o) (c : o.cls = .type "list") (e : o.data = .seq l.toArray n) (q : MZ pr w h l xs) (hl : l.length = (PyData.shownAll xs).length) : Lo pr w h (.ref a) (.list xs) := by
 obtain ⟨bs, hb, k⟩ := q
 obtain ⟨as, rr⟩ := r.reads
 have up : PyData.depthAll xs < (PyData.list xs).depth := by simp only [PyData.depth]; omega
 refine ⟨a :: bs, ReadAtMost.cons rr (Nat.le_of_lt up) hb, ?_⟩
 simp only [PyData.depth, PyData.shown]
 have out := not_mem_of_deeper rr up hb
 match l, e, k, hl with
 | [], e, k, hl =>
  cases hx : PyData.shownAll xs with
  | nil => rw [listText_nil]; exact ReprK.listEmpty g c e
  | cons t ts => rw [hx] at hl; cases hl
 | x :: l, e, k, hl => exact ReprK.list g c e out (by simpa using hl.symm) fun i y z => k.item i y (by simpa using z)
theorem CL {bs : List Addr} {n : Nat} : ∀ {vs : List Value} {ts : List Str}, ReprAllK pr w bs h n vs ts → vs.length = ts.length
 | _, _, .nil => rfl
 | _, _, .cons _ r => congrArg Nat.succ (CL r)
mutual
theorem YJ : ∀ {v : Value} {d : PyData}, RD h v d → d.showable = true → d.shown.length ≤ sizeLine → Lo pr w h v d
 | _, _, .non, _, _ => ⟨[], nofun, by simp only [PyData.shown]; exact .of_is ReprIs.none _ _ _⟩
 | _, _, .bl b, _, _ => ⟨[], nofun, by simp only [PyData.shown]; exact .of_is (ReprIs.bool b) _ _ _⟩
 | _, _, .int i t, sh, _ => ⟨[], nofun, by simp only [PyData.shown]; exact .of_is (ReprIs.int t (by simpa [PyData.showable] using sh)) _ _ _⟩
 | _, _, .str x t, _, sz => ⟨[], nofun, by simp only [PyData.shown] at sz ⊢; exact .of_is (ReprIs.str x t sz) _ _ _⟩
 | _, _, .lst (xs := xs) g c e r, sh, sz => by
  simp only [PyData.shown] at sz
  have q := lF r (by simpa [PyData.showable] using sh) fun t m => Nat.le_trans (listText_mem_le m) sz
  exact YH (.lst g c e r) g c e q (let ⟨_, _, k⟩ := q; CL k)
 | _, _, .tup (a := a) (xs := xs) g c e r, sh, sz => by
  simp only [PyData.shown] at sz
  obtain ⟨bs, hb, k⟩ := lF r (by simpa [PyData.showable] using sh) fun t m => Nat.le_trans (tupleText_mem_le m) sz
  obtain ⟨as, rr⟩ := (RD.tup g c e r).reads
  have up : PyData.depthAll xs < (PyData.tuple xs).depth := by simp only [PyData.depth]; omega
  refine ⟨a :: bs, ReadAtMost.cons rr (Nat.le_of_lt up) hb, ?_⟩
  have out := not_mem_of_deeper rr up hb
  simp only [PyData.depth, PyData.shown]
  exact ReprK.tuple g c e out (by simpa using k)
 | _, _, .dct (a := a) (es := es) (kvs := kvs) g c e sy r1 r2, sh, sz => by
  simp only [PyData.shown] at sz
  obtain ⟨sh1, Ak⟩ := PyData.showableKv_split kvs (by simpa [PyData.showable] using sh)
  have low : ∀ t : Str, (∃ p ∈ PyData.shownKv kvs, t.length ≤ p.length) → t.length ≤ sizeLine := fun t ⟨p, m, q⟩ => Nat.le_trans q (Nat.le_trans (dictText_mem_le m) sz)
  obtain ⟨b1, hb1, k1⟩ := lF r1 sh1 fun t m => low t (PyData.shownKv_key_le kvs t m)
  obtain ⟨b2, hb2, k2⟩ := lF r2 Ak fun t m => low t (PyData.shownKv_val_le kvs t m)
  obtain ⟨as, rr⟩ := (RD.dct g c e sy r1 r2).reads
  have l1 := PyData.depthAll_keys_le kvs
  have l2 := PyData.depthAll_vals_le kvs
  have hb : ReadAtMost h (PyData.depthKv kvs) (b1 ++ b2) := (hb1.mono l1).append (hb2.mono l2)
  have up : PyData.depthKv kvs < (PyData.dict kvs).depth := by simp only [PyData.depth]; omega
  have out := not_mem_of_deeper rr up hb
  refine ⟨a :: (b1 ++ b2), ReadAtMost.cons rr (Nat.le_of_lt up) hb, ?_⟩
  simp only [PyData.depth, PyData.shown]
  rw [PyData.shownKv_eq]
  refine ReprK.dict g c e sy out (ReprEntriesK.of_two _ _ _ (k1.more_le (fun b m => ?_) l1) (k2.more_le (fun b m => ?_) l2))
  ·exact List.mem_append.mpr (.inl m)
  ·exact List.mem_append.mpr (.inr m)
theorem lF : ∀ {vs : List Value} {ds : List PyData}, iQ h vs ds → PyData.showableAll ds = true → (∀ t ∈ PyData.shownAll ds, t.length ≤ sizeLine) → MZ pr w h vs ds
 | _, _, .nil, _, _ => ⟨[], nofun, by simp only [PyData.shownAll]; exact .nil⟩
 | _, _, .cons (d := d) (ds := ds) r rs, sh, sz => by
  simp only [PyData.showableAll, Bool.and_eq_true] at sh
  simp only [PyData.shownAll, List.mem_cons] at sz
  obtain ⟨b1, hb1, k1⟩ := YJ r sh.1 (sz _ (.inl rfl))
  obtain ⟨b2, hb2, k2⟩ := lF rs sh.2 fun t m => sz t (.inr m)
  refine ⟨b1 ++ b2, ?_, ?_⟩
  ·simp only [PyData.depthAll]
   exact (hb1.mono (Nat.le_max_left _ _)).append (hb2.mono (Nat.le_max_right _ _))
  ·simp only [PyData.depthAll, PyData.shownAll]
   refine .cons ((k1.more fun b m => ?_).level_le (Nat.le_max_left _ _)) (k2.more_le (fun b m => ?_) (Nat.le_max_right _ _))
   ·exact List.mem_append.mpr (.inl m)
   ·exact List.mem_append.mpr (.inr m)
end
/-- repr(v) -/
theorem YK {A : Around} {E Q : Value → Shared → Prop} {s : Shared} {v : Value} {d : PyData} (r : RD s.heap v d) (sh : d.showable = true) (sz : d.shown.length ≤ sizeLine) (hg : A.guards = some []) (hu : A.units + (d.depth + 1) < cLine)
  (hQ : ∀ h' u tk, (∀ b o, s.heap.get? b = some o → h'.get? b = some o) → Q (.str d.shown u) { s with heap := h', toks := tk }) : wpAny (model pr w) A (call (.builtin "repr") [v]) Q E s := by
 cases r with
 | non => simp only [PyData.shown] at hQ; exact P.repr_of_none (hQ s.heap _ _ fun _ _ e => e)
 | bl b => simp only [PyData.shown] at hQ; exact P.repr_of_bool (hQ s.heap _ _ fun _ _ e => e)
 | int i t => simp only [PyData.shown] at hQ; exact P.repr_of_int (by simpa [PyData.showable] using sh) (hQ s.heap _ _ fun _ _ e => e)
 | str x t => simp only [PyData.shown] at hQ sz; exact P.repr_of_str (hQ s.heap _ _ fun _ _ e => e) sz
 | @lst a o l n xs g c e r =>
  simp only [PyData.shown] at sz hQ
  simp only [PyData.depth] at hu
  obtain ⟨bs, hb, k⟩ := lF (pr := pr) (w := w) r (by simpa [PyData.showable] using sh) fun t m => Nat.le_trans (listText_mem_le m) sz
  obtain ⟨as, rr⟩ := (RD.lst g c e r).reads
  have out := not_mem_of_deeper rr (by simp only [PyData.depth]; omega : PyData.depthAll xs < _) hb
  refine call_repr_slot (by omega) ⟨o, g, c⟩ F.slot_list_repr.toG ?_
  match l, e, k with
  | [], e, k =>
   cases hx : PyData.shownAll xs with
   | cons t ts => rw [hx] at k; cases k
   | nil => rw [hx, listText_nil] at hQ; exact call_list_repr_empty ⟨o, g, c⟩ g e ⟨_, _, rfl, hQ s.heap _ _ fun _ _ e => e⟩
  | x :: l, e, k => exact call_list_reprK g c e out (by simpa using (CL k).symm) (fun i y z => k.item i y (by simpa using z)) hg (fun b _ => Clear.nil b) (by show A.units + 1 + _ < _; omega) (fun _ _ e => e) (fun h' u tk q => ⟨_, _, rfl, hQ h' u tk q⟩) sz
 | @tup a o l n xs g c e r =>
  simp only [PyData.shown] at sz hQ
  simp only [PyData.depth] at hu
  obtain ⟨bs, hb, k⟩ := lF (pr := pr) (w := w) r (by simpa [PyData.showable] using sh) fun t m => Nat.le_trans (tupleText_mem_le m) sz
  obtain ⟨as, rr⟩ := (RD.tup g c e r).reads
  have out := not_mem_of_deeper rr (by simp only [PyData.depth]; omega : PyData.depthAll xs < _) hb
  refine call_repr_slot (by omega) ⟨o, g, c⟩ F.slot_tuple_repr ?_
  exact call_tuple_reprK g c e out (by simpa using k) hg (fun b _ => Clear.nil b) (by show A.units + 1 + _ < _; omega) (fun _ _ e => e) (fun h' u tk q => ⟨_, _, rfl, hQ h' u tk q⟩) sz
 | @dct a o es n kvs g c e sy r1 r2 =>
  simp only [PyData.shown] at sz hQ
  simp only [PyData.depth] at hu
  obtain ⟨sh1, Ak⟩ := PyData.showableKv_split kvs (by simpa [PyData.showable] using sh)
  have low : ∀ t : Str, (∃ p ∈ PyData.shownKv kvs, t.length ≤ p.length) → t.length ≤ sizeLine := fun t ⟨p, m, q⟩ => Nat.le_trans q (Nat.le_trans (dictText_mem_le m) sz)
  obtain ⟨b1, hb1, k1⟩ := lF (pr := pr) (w := w) r1 sh1 fun t m => low t (PyData.shownKv_key_le kvs t m)
  obtain ⟨b2, hb2, k2⟩ := lF (pr := pr) (w := w) r2 Ak fun t m => low t (PyData.shownKv_val_le kvs t m)
  obtain ⟨as, rr⟩ := (RD.dct g c e sy r1 r2).reads
  have l1 := PyData.depthAll_keys_le kvs
  have l2 := PyData.depthAll_vals_le kvs
  have out := not_mem_of_deeper rr (by simp only [PyData.depth]; omega : PyData.depthKv kvs < _) ((hb1.mono l1).append (hb2.mono l2))
  refine call_repr_slot (by omega) ⟨o, g, c⟩ F.slot_dict_repr ?_
  rw [PyData.shownKv_eq] at sz hQ
  refine call_dict_reprK g c e sy out (ReprEntriesK.of_two _ _ _ (k1.more_le (fun b m => ?_) l1) (k2.more_le (fun b m => ?_) l2)) hg (fun b _ => Clear.nil b) (by show A.units + 1 + _ < _; omega) (fun _ _ e => e) (fun h' u tk q => ⟨_, _, rfl, hQ h' u tk q⟩) sz
  ·exact List.mem_append.mpr (.inl m)
  ·exact List.mem_append.mpr (.inr m)
end
section
variable {X : Cx} {pins : List (Addr × Obj)} {σ : L2.St} {H : Hp} {s : Shared} {Z : Addr → Prop} {β : List Addr} {S : Store}
theorem YL {es : List DictEntry} {vs : List (Key × Value)} (p : Pairs (mixKind X.prog X.w) es vs) : iQ s.heap (es.map (·.key)) (vs.map fun q => vL q.1) := by
 induction p with
 | nil => exact .nil
 | @cons e kv es kvs h1 h2 _ ih =>
  refine .cons ?_ ih
  rcases keyIs_shape (show keyIs kv.1 e.key = true from h1) with ⟨i, t, q, z⟩ | ⟨y, t, q, z⟩
  ·show RD _ e.key (vL kv.1)
   rw [q, z]; exact .int i t
  ·show RD _ e.key (vL kv.1)
   rw [q, z]; exact .str y t
theorem YM {P : Program} {w : World} {es : List DictEntry} {vs : List (Key × Value)} (p : Pairs (mixKind P w) es vs) : es.map (·.val) = vs.map (·.2) := by
 induction p with
 | nil => rfl
 | cons h1 h2 _ ih => rw [List.map_cons, List.map_cons, h2, ih]
mutual
theorem CM (I : L2.Inv X pins σ H s) : ∀ {v : V} {u : Value} {d : D} {p : PyData}, VW (aj X) H β v d → RelV v u → toPy true d = some p → RD s.heap u p
 | _, _, .non, _, r, q, e => by cases r; cases q; simp only [toPy] at e; cases e; exact .non
 | _, _, .bl b, _, r, q, e => by cases r; cases q; simp only [toPy] at e; cases e; exact .bl b
 | _, _, .int i, _, r, q, e => by cases r; obtain ⟨t, rfl⟩ := q; simp only [toPy] at e; cases e; exact .int i t
 | _, _, .str x, _, r, q, e => by cases r; obtain ⟨t, rfl⟩ := q; simp only [toPy] at e; cases e; exact .str x t
 | _, _, .tup xs, _, r, q, e => by
  simp only [toPy] at e
  split at e
  ·rename_i l el
   cases e
   cases r with
   | tup q1 q2 =>
   cases q
   obtain ⟨its, rv, ⟨o, g, c, n, dd⟩, _⟩ := I.tuple q1
   exact .tup g c dd (GA I q2 rv el)
  ·cases e
 | _, _, .lst xs, _, r, q, e => by
  simp only [toPy] at e
  split at e
  ·rename_i l el
   cases e
   cases r with
   | lst q1 q2 =>
   cases q
   obtain ⟨its, rv, ⟨o, n, g, c, _, dd⟩, _⟩ := I.list q1
   exact .lst g c dd (GA I q2 rv el)
  ·cases e
 | _, _, .dct xs, _, r, q, e => by
  simp only [toPy] at e
  split at e
  ·rename_i l el
   cases e
   cases r with
   | dct hr hs =>
    cases q
    obtain ⟨_, sy, vs, rk, o, es, ep, g, ⟨c, _⟩, dd, _, pp, _⟩ := dk_rd I.hok hr
    have q2 := N5 I hs rk el
    refine .dct g c dd sy ?_ ?_
    ·have := YL (X := X) (s := s) pp
     rw [← q2.1]
     exact this
    ·rw [YM pp]
     exact q2.2
  ·cases e
 | _, _, .ref n, _, r, q, e => by simp only [toPy] at e; cases e
 | _, _, .ty n, _, r, q, e => by simp only [toPy] at e; cases e
 | _, _, .fn n, _, r, q, e => by simp only [toPy] at e; cases e
theorem GA (I : L2.Inv X pins σ H s) : ∀ {vs : List V} {us : List Value} {ds : List D} {ps : List PyData}, fG (aj X) H β vs ds → Vals vs us → ie true ds = some ps → iQ s.heap us ps
 | _, _, [], _, r, q, e => by cases r; cases q; simp only [ie] at e; cases e; exact .nil
 | _, _, d :: ds, _, r, q, e => by
  simp only [ie] at e
  split at e
  ·rename_i x ex
   split at e
   ·rename_i l el
    cases e
    cases r with
    | cons r1 r2 => cases q with
     | cons q1 q2 => exact .cons (CM I r1 q1 ex) (GA I r2 q2 el)
   ·cases e
  ·cases e
theorem N5 (I : L2.Inv X pins σ H s) : ∀ {vs : List (Key × V)} {us : List (Key × Value)} {ds : List (Key × D)} {ps : List (PyData × PyData)}, ig (aj X) H β vs ds → KV vs us → pY true ds = some ps →
  (us.map fun q => vL q.1) = ps.map (·.1) ∧ iQ s.heap (us.map (·.2)) (ps.map (·.2))
 | _, _, [], _, r, q, e => by cases r; cases q; simp only [pY] at e; cases e; exact ⟨rfl, .nil⟩
 | _, _, (k, d) :: ds, _, r, q, e => by
  simp only [pY, CB] at e
  split at e
  ·rename_i x ex
   split at e
   ·rename_i l el
    cases e
    split at ex
    ·rename_i y ey
     cases ex
     cases r with
     | cons r1 r2 => cases q with
      | cons q1 q2 =>
       obtain ⟨e1, e2⟩ := q1
       obtain ⟨a1, a2⟩ := N5 I r2 q2 el
       refine ⟨?_, .cons (CM I r1 e2 ey) a2⟩
       rw [List.map_cons, List.map_cons, a1, ← e1]
    ·cases ex
   ·cases e
  ·cases e
end
def mQ (S : Store) (ds : List D) : Option D := match ds with
 | [d] => match toPy true (top S d) with
  | some p => if p.showable = true ∧ p.shown.length ≤ sizeLine ∧ p.depth ≤ 64 then some (.str p.shown) else none
  | none => none
 | _ => none
/-- the b1X for repr: a state is needed -/
def GB (X : Cx) : List V → Hp → VK → Prop := fun xs H Q => ∃ (β : List Addr) (x : V) (d : D) (p : PyData), xs = [x] ∧ VW (aj X) H β x d ∧ toPy true d = some p ∧ p.showable = true ∧ p.shown.length ≤ sizeLine ∧ p.depth ≤ 64 ∧ Q (.str p.shown) H
theorem YN (hg : X.A.guards = some []) (hu : X.A.units + 65 < cLine) : CallR X (.builtin "repr") (GB X) := by
 intro pins s σ H xs us Q I r h
 obtain ⟨β, x, d, p, rfl, rv, e, h1, h2, h3, q⟩ := h
 obtain ⟨u, rfl, ru⟩ := vals1 r
 exact YK (CM I rv ru e) h1 h2 hg (by omega) fun h' t tk k => ⟨.str p.shown, H, I.kept k, ⟨_, rfl⟩, q⟩
theorem YQ : gj X (GB X) mQ := by
 intro Z H β S xs ds dz Q A r e k
 unfold mQ at e
 split at e
 ·rename_i d
  split at e
  ·rename_i p ep
   split at e
   ·rename_i hz
    cases e
    obtain ⟨x, rfl, r1⟩ := jE r
    exact ⟨β, x, top S d, p, rfl, r1.top A.st, ep, hz.1, hz.2.1, hz.2.2, k _ H (Same.refl _) (.str _)⟩
   ·cases e
  ·cases e
 ·cases e
end
def bA (S : Store) (x y : D) : Option D := match x, y with
 | .str z, .int i => if z.length ≤ sizeLine then (match atI z.cps.toList i with
  | some c => some (.str ⟨#[c]⟩)
  | none => none) else none
 | .tup xs, .int i => atI xs i
 | x, .int i => match bu S x with
  | some xs => atI xs i
  | none => none
 | _, _ => none
section
variable {X : Cx} {W : WX} {b : Bool} {a e o : Expr} {es : List Expr} {ma mb me mo : EX} {dR : AX} {pos : Pos}
theorem N6 {C : Ct} {H : Hp} {Z : Addr → Prop} {β : List Addr} {vs : List V} {ds : List D} {i : Int} {d : D} (r : aA C H Z β vs ds) (h : atI ds i = some d) : ∃ v, atI vs i = some v ∧ RV C H Z β v d := by
 unfold atI at h ⊢
 rw [r.length]
 cases e : ixN ds.length i with
 | none => rw [e] at h; cases h
 | some j =>
  rw [e] at h
  exact r.get h
theorem N7 : cH X (rIx X.K) bA := by
 intro Z H β S x y dx dy dz Q A rx ry e k
 have tail : ∀ {d : D} {i : Int}, RV (aj X) H Z β x d → RV (aj X) H Z β y (.int i) → (match bu S d with
  | some xs => atI xs i
  | none => none) = some dz → rIx X.K x y H Q := fun {d i} rx ry e => by
  split at e
  ·rename_i xs e1
   obtain ⟨a, us, rfl, q1, r1⟩ := rx.bu A.st e1
   obtain ⟨v, e2, r2⟩ := N6 r1 e
   cases ry
   exact .inl ⟨a, us, i, v, rfl, rfl, q1, e2, k _ H (Same.refl _) r2⟩
  ·cases e
 unfold bA at e
 split at e
 ·split at e
  ·rename_i hz
   split at e
   ·rename_i c ec
    cases e; cases rx; cases ry
    exact .inr (.inr ⟨_, _, c, rfl, rfl, hz, ec, k _ H (Same.refl _) (.str _)⟩)
   ·cases e
  ·cases e
 ·obtain ⟨a, us, rfl, q1, r1⟩ := rx.gH rfl
  obtain ⟨v, e2, r2⟩ := N6 r1 e
  cases ry
  exact .inr (.inl ⟨a, us, _, v, rfl, rfl, q1, e2, k _ H (Same.refl _) r2⟩)
 ·exact tail rx ry e
 ·cases e
/-- a[b] -/
theorem dO (ha : PM (aj X) W b X a ma) (hb : PM (aj X) W b X e mb) (hs : PlainIx e := by exact fun _ _ => rfl) : PM (aj X) W b X (.Subscript a e pos) (aC bA ma mb) :=
 bW (pe_ix ix_seq ha hb hs) fun σ H Q h => em2 N7 h
def An (o i v : D) (S : Store) : Option Store := match o, i with
 | .ref n, .int k => match S[n]? with
  | some (.lst xs) => match ixN xs.length k with
   | some j => some (S.set n (.lst (xs.set j v)))
   | none => none
  | _ => none
 | _, _ => none
def uf (mo mi : EX) : GX := fun v ρ S => match mo ρ S with
 | .ok o S1 => match mi ρ S1 with
  | .ok i S2 => match An o i v S2 with
   | some S3 => some (ρ, S3)
   | none => none
  | _ => none
 | _ => none
theorem LR.wrote {C : Ct} {cf : Cf} {oa : Nat → Option Addr} {P : Addr → Prop} {σ : L2.St} {H : Hp} {β : List Addr} {ρ : aF} {S : Store} {n : Nat} {p : Addr} {o : HO} {so : SO} (L : LR C cf oa P σ H β ρ S) (hp : β[n]? = some p) (new : bG C (upd H p o) P β p so) (hf : ∀ o u, H p ≠ some (.frz o u)) : LR C cf oa P σ (upd H p o) β ρ (S.set n so) := by
 have m : p ∈ β := List.mem_of_getElem? hp
 exact L.step (Ext.wrote m (L.st.pH m) hf) (L.st.set hp new)
theorem N8 (ho : PM (aj X) W true X o mo) (hi : PM (aj X) W true X e me)
  (ha : ∀ v, assign (.Subscript o e pos) X.env v = (do
   let ov ← holding [v] (eval o X.env)
   let iv ← holding [v, ov] (eval e X.env)
   standAt pos
   holding [v, ov, iv] (setItem ov iv v)
   release [v, ov, iv] []) := by intro _; rfl) : xH X (.Subscript o e pos) (uf mo me) :=
 G8 (pg_sub ho hi set_list ha) fun v σ H Q h => by
  obtain ⟨cf, oa, P, β, ρ, S, d, L, r, h⟩ := h
  unfold uf at h
  refine ⟨cf, oa, P, β, ρ, S, L, ?_⟩
  cases eo : mo ρ S with
  | stuck => rw [eo] at h; exact h.elim
  | exc x S1 => rw [eo] at h; exact h.elim
  | ok od S1 =>
   rw [eo] at h
   simp only at h
   intro ov H1 β1 t1 L1 r1
   obtain ⟨s1, rfl, rfl⟩ := t1.ro rfl
   refine ⟨cf, oa, P, β1, ρ, S1, L1, ?_⟩
   cases ei : me ρ S1 with
   | stuck => rw [ei] at h; exact h.elim
   | exc x S2 => rw [ei] at h; exact h.elim
   | ok id S2 =>
    rw [ei] at h
    intro iv H2 β2 t2 L2 r2
    obtain ⟨s2, rfl, rfl⟩ := t2.ro rfl
    simp only at h
    cases es : An od id d S2 with
    | none => rw [es] at h; exact h.elim
    | some S3 =>
     rw [es] at h
     unfold An at es
     split at es
     ·rename_i n k
      split at es
      ·rename_i xs eS
       split at es
       ·rename_i j ej
        cases es
        have r1' := r1.mono (Ext.same s2)
        cases r1' with
        | ref hn =>
         obtain ⟨us, q1, q2⟩ := L2.st.ok _ _ _ hn eS
         cases r2
         refine ⟨_, us, k, j, rfl, rfl, q1, by rw [q2.length]; exact ej, ?_⟩
         have m := List.mem_of_getElem? hn
         have nt := L2.st.pH m
         have rd : RV (aj X) H2 P β2 v d := (r.mono (Ext.same s1)).mono (Ext.same s2)
         have new : bG (aj X) (upd H2 _ (.lst (us.set j v))) P β2 _ (.lst (xs.set j d)) := ⟨_, upd_same, (q2.set' j rd).set (.inr m) nt⟩
         have hf : ∀ o u, H2 _ ≠ some (.frz o u) := fun o u z => by rw [q1] at z; cases z
         exact h σ _ β2 oa P (L2.wrote hn new hf) ((Fx.of (Ext.same (s1.trans s2))).trans (Fx.of (Ext.wrote m nt hf)))
       ·cases es
      ·cases es
     ·cases es
/-- methods of texts -/
def isStr : D → Bool
 | .str _ => true
 | _ => false
def strsOf : List D → Option (List Str)
 | [] => some []
 | .str x :: r => match strsOf r with
  | some l => some (x :: l)
  | none => none
 | _ :: _ => none
theorem GD {C : Ct} {H : Hp} {Z : Addr → Prop} {β : List Addr} : ∀ {xs : List V} {ds : List D} {bs : List Str}, aA C H Z β xs ds → strsOf ds = some bs → xs = bs.map V.str
 | _, [], _, r, e => by cases r; cases e; rfl
 | _, .str b :: ds, _, r, e => by
  simp only [strsOf] at e
  split at e
  ·rename_i l el
   cases e
   cases r with
   | cons r1 r2 => cases r1; rw [GD r2 el]; rfl
  ·cases e
 | _, .non :: _, _, _, e | _, .int _ :: _, _, _, e | _, .bl _ :: _, _, _, e | _, .tup _ :: _, _, _, e | _, .lst _ :: _, _, _, e | _, .dct _ :: _, _, _, e | _, .ref _ :: _, _, _, e | _, .ty _ :: _, _, _, e | _, .fn _ :: _, _, _, e => by cases e
def Ao (T : List (Str × FX)) (mf : EX) (a : AX) : EX := fun ρ S => (mf ρ S).bind fun d S1 => match d with
 | .fn x => match T.lookup x with
  | some f => (a ρ S1).bind fun us S2 => f us S2
  | none => .stuck
 | _ => .stuck
structure Aq (X : Cx) (k : Nat) (n : Nat) (x : Str) (f : FX) : Prop where
 ex : ∃ (st : Stmt) (ps : List Str), aK X.prog X.w X.K X.mg X.base k x st ps f ∧ tW st ps [] n (List.range n) ∧ ps.length = n
theorem Nb {α : Type} : ∀ (us : List α) (n : Nat), us.length = n → pick (List.range n) us [] = us := by
 intro us n h
 unfold pick
 rw [List.append_nil]
 subst h
 induction us with
 | nil => rfl
 | cons u us ih =>
  rw [List.length_cons, List.range_succ_eq_map, List.filterMap_cons]
  simp only [List.getElem?_cons_zero, List.filterMap_map]
  congr 1
theorem YR {T : List (Str × FX)} {fe : Expr} {mf : EX} {k j n : Nat} (hT : ∀ x f, T.lookup x = some f → Aq X k n x f) (hgd : X.A.guards = some []) (hr : Room j X.A) (hkj : k ≤ j) (tk : Takes X W) (hf : PM (aj X) W false X fe mf) (ha : j6 (aj X) W false X (e :: es) dR) (h1 : i7 dR n)
  (he : starEach (e :: es) X.env = (false, eval e X.env) :: starEach es X.env := by rfl)
  (hc : eval (.Call fe (e :: es) [] pos) X.env = (do callWith pos (← eval fe X.env) [] (backTo pos (starEach (e :: es) X.env)) (backToKw pos (keywordEach [] X.env))) := by rfl)
  (hall : (backToKw pos (keywordEach [] X.env)).all (·.1.isSome) = true := by rfl) (hks : (backToKw pos (keywordEach [] X.env)) = [] := by rfl)
  (hpl : ((backTo pos (starEach (e :: es) X.env)).any (·.1) || (backToKw pos (keywordEach [] X.env)).any (·.1.isNone)) = false := by rfl) : PM (aj X) W false X (.Call fe (e :: es) [] pos) (Ao T mf dR) := by
 refine ⟨fun pins s σ H Q I h => ?_⟩
 have h' : EM (aj X) W false mf σ H fun v H1 => ∃ x f, T.lookup x = some f ∧ (∃ fa, v = .ref fa ∧ X.mg x = some (.ref fa) ∧ PySem.W.keepIn X.K (.ref fa) = true) ∧ AM (aj X) W false dR σ H1 fun vs H2 => vs.length = n ∧ cM (aj X) n f vs H2 Q (WE W σ) := by
  obtain ⟨cf, oa, P, β, ρ, S, L, h⟩ := h
  refine ⟨cf, oa, P, β, ρ, S, L, ?_⟩
  unfold Ao at h
  cases ef : mf ρ S with
  | stuck => rw [ef] at h; exact h
  | exc x S1 => rw [ef] at h; exact h
  | ok d S1 =>
   rw [ef] at h
   simp only [R.bind] at h
   intro v H1 β1 t1 L1 r1
   cases d with
   | fn x =>
    simp only at h
    cases el : T.lookup x with
    | none => rw [el] at h; exact h.elim
    | some f =>
     rw [el] at h
     simp only at h
     cases r1 with
     | fn hm hk =>
      refine ⟨x, f, el, ⟨_, rfl, hm, hk⟩, cf, oa, P, β1, ρ, S1, L1, ?_⟩
      cases ea : dR ρ S1 with
      | stuck => rw [ea] at h; exact h
      | exc x S2 => rw [ea] at h; intro cls d H' β' e2 L2 ex; exact h cls d H' β' (t1.trans e2) L2 ex
      | ok us S2 =>
       rw [ea] at h
       simp only at h
       intro vs H2 β2 t2 L2 r2
       have n1 : vs.length = n := by rw [r2.length]; exact h1 _ _ _ _ ea
       exact ⟨n1, Gr (t1.trans t2) L2 r2 n1 h⟩
   | _ => exact h.elim
 rw [hc]
 refine wpAny_bind (thn (hf.run pins s σ H _ I h') fun fv s1 ⟨v, H1, I1, rv, x, f, el, ⟨fa, ev, hm, hk⟩, q⟩ => ?_)
 subst ev
 obtain rfl : fv = Value.ref fa := rv
 obtain ⟨st, ps, ⟨YS, y, qual, fd, F, hm', G⟩, B, hp⟩ := (hT x f el).ex
 have hff : fa = YS := by have z := hm.symm.trans hm'; injection z with z; injection z
 subst hff
 refine PySem.W.callWith_KW (h₀ := X.base) I.ok.mod.kin F.kp hall (thn (ha.run pos pins s1 σ H1 _ I1 q) fun us s2 ⟨vs, H2, I2, r, n1, q2⟩ => ?_) hpl he
 rw [hks]
 refine evalAll_nil ⟨I2.kIn, ?_⟩
 have hu : us.length = n := by rw [← r.length]; exact n1
 have bd := ML (s := s2) (us := us) (ws := []) F B hu rfl
 rw [Nb us n hu] at bd
 exact Gp (ks := []) (ws := []) G hgd (hr.mono hkj) (passAt tk σ) I2 bd r (hp ▸ xJ (C := aj X) (C' := ⟨X.K, X.mg, X.w, []⟩) rfl rfl q2)
end
def mU (kvs : List (Key × D)) (k : Key) : Bool := kvs.any fun kv => decide (kv.1 = k)
def putD (kvs : List (Key × D)) (k : Key) (v : D) : List (Key × D) :=
 if mU kvs k = true then kvs.map (fun kv => if kv.1 = k then (kv.1, v) else kv) else kvs ++ [(k, v)]
def pZ (kvs more : List (Key × D)) : List (Key × D) := more.foldl (fun acc kv => putD acc kv.1 kv.2) kvs
def keyD : D → Option Key
 | .int i => some (.inl i)
 | .str x => some (.inr x)
 | _ => none
def CN : List D → Option (List (Key × D))
 | [] => some []
 | [_] => none
 | k :: v :: r => match keyD k with
  | some a => match CN r with
   | some l => some ((a, v) :: l)
   | none => none
  | none => none
def Ar : EX := fun _ S => .ok (.dct []) S
def xY (xs : List D) : Option D := match CN xs with
 | some kvs => if kvs.length ≤ 15 then some (.dct (pZ [] kvs)) else none
 | none => none
def rN (m : AX) : EX := fun ρ S => (m ρ S).bind fun xs S1 => R.opt (xY xs) S1
def lG : List (EX × EX) → AX
 | [] => aq
 | (k, v) :: r => ao k (ao v (lG r))
section
variable {C : Ct} {H : Hp} {P : Addr → Prop} {β : List Addr}
theorem GF {k : Key} : ∀ {vs : List (Key × V)} {ds : List (Key × D)}, aG C H P β vs ds → (vs.any fun kv => decide (kv.1 = k)) = mU ds k
 | _, _, .nil => rfl
 | _, _, .cons (vs := vs) (ds := ds) r t => by
  unfold mU
  rw [List.any_cons, List.any_cons, GF t]
  rfl
theorem GH {k : Key} {y : V} {d : D} (q : RV C H P β y d) : ∀ {vs : List (Key × V)} {ds : List (Key × D)}, aG C H P β vs ds → aG C H P β (vs.map fun kv => if kv.1 = k then (kv.1, y) else kv) (ds.map fun kv => if kv.1 = k then (kv.1, d) else kv)
 | _, _, .nil => .nil
 | _, _, .cons (k := k') (v := v) (d := d') r t => by
  rw [List.map_cons, List.map_cons]
  by_cases e : k' = k
  ·rw [if_pos e, if_pos e]; exact .cons q (GH q t)
  ·rw [if_neg e, if_neg e]; exact .cons r (GH q t)
theorem Nf {k : Key} {y : V} {d : D} (q : RV C H P β y d) : ∀ {vs : List (Key × V)} {ds : List (Key × D)}, aG C H P β vs ds → aG C H P β (vs ++ [(k, y)]) (ds ++ [(k, d)])
 | _, _, .nil => .cons q .nil
 | _, _, .cons r t => .cons r (Nf q t)
theorem Nh {k : Key} {y : V} {d : D} {vs : List (Key × V)} {ds : List (Key × D)} (r : aG C H P β vs ds) (q : RV C H P β y d) : aG C H P β (putK vs k y) (putD ds k d) := by
 unfold putK putD
 rw [GF r]
 by_cases e : mU ds k = true
 ·rw [if_pos e, if_pos e]; exact GH q r
 ·rw [if_neg e, if_neg e]; exact Nf q r
theorem CO : ∀ {ms : List (Key × V)} {es : List (Key × D)}, aG C H P β ms es → ∀ {vs : List (Key × V)} {ds : List (Key × D)}, aG C H P β vs ds → aG C H P β (mergeK vs ms) (pZ ds es)
 | _, _, .nil, _, _, r => r
 | _, _, .cons q t, _, _, r => CO t (Nh r q)
theorem CP {v : V} {d : D} {k : Key} (r : RV C H P β v d) (e : keyD d = some k) : v = kV k := by
 cases r <;> first | (cases e; rfl) | cases e
/-- the pairs bR a flat list stands for -/
inductive Pr : List V → List (V × V) → Prop
 | nil : Pr [] []
 | cons {a b : V} {vs : List V} {ps : List (V × V)} : Pr vs ps → Pr (a :: b :: vs) ((a, b) :: ps)
theorem Nk : ∀ {ds : List D} {kvs : List (Key × D)} {vs : List V} {ps : List (V × V)}, aA C H P β vs ds → CN ds = some kvs → Pr vs ps → ∃ ks : List (Key × V), ps = ks.map (fun kv => (kV kv.1, kv.2)) ∧ aG C H P β ks kvs
 | [], _, _, _, r, e, p => by cases r; cases e; cases p; exact ⟨[], rfl, .nil⟩
 | [_], _, _, _, r, e, p => by cases e
 | a :: b :: ds, _, _, _, r, e, p => by
  simp only [CN] at e
  split at e
  ·rename_i k ek
   split at e
   ·rename_i l el
    cases e
    cases r with
    | cons r1 r => cases r with
     | cons r2 r =>
      cases p with
      | cons p =>
       obtain ⟨ks, e1, q⟩ := Nk r el p
       rw [CP r1 ek, e1]
       exact ⟨(k, _) :: ks, rfl, .cons r2 q⟩
   ·cases e
  ·cases e
end
section
variable {X : Cx} {W : WX} {b : Bool} {pos : Pos}
/-- {} -/
theorem Nm : PN (aj X) W b X (.Dict [] [] pos) Ar := bW pe_dnewK fun σ H Q h => by
 obtain ⟨cf, oa, P, β, ρ, S, L, h⟩ := h
 intro p hp
 have x : Same H (upd H p (.dK [])) := g8 hp
 exact h p _ β (Tr.same x) hp (L.C5 x hp (by rw [upd_same]; exact Option.some_ne_none _)) ⟨[], upd_same, .nil⟩
theorem Np {σ : L2.St} : ∀ {ms : List (EX × EX)} {H : Hp} {Q : List (V × V) → Hp → Prop}, AM (aj X) W b (lG ms) σ H (fun vs H' => ∀ ps, Pr vs ps → Q ps H') → tPairs (ms.map fun m => (EM (aj X) W b m.1, EM (aj X) W b m.2)) σ H Q
 | [], H, Q, h => by
  obtain ⟨cf, oa, P, β, ρ, S, L, h⟩ := h
  exact h [] H β Tr.refl L .nil [] .nil
 | (k, v) :: ms, H, Q, h => by
  have h1 := C7 (X := X) (W := W) h
  refine Nq h1 fun x H1 h2 => ?_
  refine Nq (C7 (X := X) (W := W) h2) fun y H2 h3 => ?_
  refine Np (ms := ms) ?_
  refine YT h3 fun vs H3 q ps hp => q _ (.cons hp)
where
 Nq {σ : L2.St} {m : EX} {H : Hp} {Q Q' : VK} (h : EM (aj X) W b m σ H Q) (i : ∀ v H', Q v H' → Q' v H') : EM (aj X) W b m σ H Q' := by
  obtain ⟨cf, oa, P, β, ρ, S, L, h⟩ := h
  refine ⟨cf, oa, P, β, ρ, S, L, ?_⟩
  cases e : m ρ S with
  | stuck => rw [e] at h; exact h
  | exc x S1 => rw [e] at h; exact h
  | ok d S1 => rw [e] at h; intro v H' β' t L' r; exact i _ _ (h v H' β' t L' r)
 YT {σ : L2.St} {m : AX} {H : Hp} {Q Q' : List V → Hp → Prop} (h : AM (aj X) W b m σ H Q) (i : ∀ v H', Q v H' → Q' v H') : AM (aj X) W b m σ H Q' := by
  obtain ⟨cf, oa, P, β, ρ, S, L, h⟩ := h
  refine ⟨cf, oa, P, β, ρ, S, L, ?_⟩
  cases e : m ρ S with
  | stuck => rw [e] at h; exact h
  | exc x S1 => rw [e] at h; exact h
  | ok d S1 => rw [e] at h; intro v H' β' t L' r; exact i _ _ (h v H' β' t L' r)
/-- {k: v, ..} -/
theorem As {keys : List (Option Expr)} {values : List Expr} {ms : List (EX × EX)} (hp : PPs X pos keys values (ms.map fun m => (EM (aj X) W b m.1, EM (aj X) W b m.2))) (hall : keys.all (·.isSome) = true := by rfl) (hl : keys.length = values.length := by rfl) (h0 : keys ≠ [] := by exact fun z => nomatch z) (h15 : keys.length ≤ 15 := by decide) :
  PN (aj X) W b X (.Dict keys values pos) (rN (lG ms)) := bW (pe_disp hp hall hl h0 h15) fun σ H Q h => by
 obtain ⟨cf, oa, P, β, ρ, S, L, h⟩ := h
 intro p hp
 refine Np ⟨cf, oa, _, β, ρ, S, L.M7 hp, ?_⟩
 unfold rN at h
 have x0 : Same H (upd H p (.dK [])) := g8 hp
 cases ea : lG ms ρ S with
 | stuck => rw [ea] at h; exact h
 | exc e S1 =>
  rw [ea] at h
  intro cls d H' β' t L' ex
  refine h cls d H' β' ((Tr.same x0).trans t) (L'.forget L.sub fun i a h => (L.own i a h).1) ?_
  obtain ⟨Ca, dd, vs, h1, h2, h3, h4, h6, h7, h5⟩ := ex
  exact ⟨Ca, dd, vs, h1, h2, h3, h4, h6, fun z => h7 (.inl z), fun f x hx => let ⟨v, q1, q2⟩ := h5 f x hx; ⟨v, q1, q2.less fun _ z => .inl z⟩⟩
 | ok ds S1 =>
  rw [ea] at h
  simp only [R.bind] at h
  intro vs H1 β1 t L1 rs ps hps
  have hpb : p ∉ β := L.pJ hp
  have e0 : H1 p = some (.dK []) := t.ext.keep p _ upd_same hpb
  refine ⟨e0, ?_⟩
  cases ed : xY ds with
  | none => rw [ed] at h; exact h.elim
  | some dz =>
   rw [ed] at h
   unfold xY at ed
   split at ed
   ·rename_i kvs ek
    split at ed
    ·rename_i YV
     cases ed
     obtain ⟨ks, q1, q2⟩ := Nk rs ek hps
     refine ⟨ks, q1, by rw [q2.length]; exact YV, ?_⟩
     have nt : ∀ xs, ¬ Rd H1 p (.tup xs) := fun xs z => by
      rcases z with z | ⟨o, z⟩ <;> (rw [e0] at z; cases z)
     have h0' : cf.H0 p = none := by
      cases z : cf.H0 p with
      | none => rfl
      | some o => exact absurd hp (L.ext.stay p (by rw [z]; exact Option.some_ne_none _))
     have no : ∀ i, oa i ≠ some p := fun i z => (L.p p (L.own i p z).1).1 hp
     have nf : ∀ o u, H1 p ≠ some (.frz o u) := fun o u z => by rw [e0] at z; cases z
     refine h p _ β1 (((Tr.same x0).trans t).nY hp nt nf) hp (L1.nY (.inr rfl) h0' no nt nf) ⟨_, upd_same, ?_⟩
     exact (CO q2 .nil).set (.inl (.inr rfl)) nt
    ·cases ed
   ·cases ed
def xZ (ds : List D) : Option (List D) := match ds with
 | [.int j] => if -(2 ^ 62) ≤ j ∧ j < 2 ^ 62 then some (rJ 0 j.toNat) else none
 | _ => none
def jR (f : List D → Option (List D)) (a : AX) : AX := fun ρ S => (a ρ S).bind fun xs S1 => R.opt (f xs) S1
theorem YW {tg a : Expr} {p : Pos} {dR : AX} (hm : X.mg "range" = none) (ha : j6 (aj X) W b X [a] dR) (hg : Gl X "range" := by rfl) (hs : starEach [a] X.env = [(false, eval a X.env)] := by rfl) : pU (aj X) W b X tg (.Call (.Name "range" p) [a] [] pos) (jR xZ dR) :=
 vC (pi_range1 hg hm ha hs) fun σ H Q h => by
  obtain ⟨cf, oa, P, β, ρ, S, L, h⟩ := h
  refine ⟨cf, oa, P, β, ρ, S, L, ?_⟩
  unfold jR at h
  cases ea : dR ρ S with
  | stuck => rw [ea] at h; exact h
  | exc e S1 => rw [ea] at h; exact h
  | ok ds S1 =>
   rw [ea] at h
   simp only [R.bind] at h
   intro vs H1 β1 t L1 rs
   cases er : xZ ds with
   | none => rw [er] at h; exact h.elim
   | some xs =>
    rw [er] at h
    unfold xZ at er
    split at er
    ·split at er
     ·rename_i hz
      cases er
      obtain ⟨v, rfl, r1⟩ := jE rs
      cases r1
      exact ⟨_, rfl, hz.1, hz.2, h _ H1 β1 t L1 Y4⟩
     ·cases er
    ·cases er
end
def gM (ns : List Int) : List D := ns.map D.int
theorem GJ {C : Ct} {H : Hp} {P : Addr → Prop} {β : List Addr} : ∀ ns : List Int, aA C H P β (ns.map V.int) (gM ns)
 | [] => .nil
 | n :: ns => .cons (.int n) (GJ ns)
/-- the b1Y list as a tree -/
theorem YX {C : Ct} {H : Hp} {a : Addr} {ns : List Int} (h : SqL C.K H a (ns.map V.int)) : RV C H (fun _ => False) [] (.ref a) (.lst (gM ns)) := by
 rcases h with h | h
 ·exact .lst (fun z => z) (fun z => nomatch z) h (GJ ns)
 ·exact .fK h (GJ ns)
/-- the pure law meets the b1Z wish -/
theorem YY {C : Ct} {f : FX} {H : Hp} {a : Addr} {ns : List Int} (h : SqL C.K H a (ns.map V.int)) (ok : ∃ S, f [.lst (gM ns)] [] = .ok (.bl true) S) : cM C 1 f [.ref a] H (fun v _ => v = .bl true) fun _ _ _ => False := by
 obtain ⟨S, ok⟩ := ok
 refine ⟨rfl, fun _ => False, [], [.lst (gM ns)], [], ⟨rfl, List.nodup_nil, fun n a so e => nomatch e⟩, fun a z => z.elim, .cons (YX h) .nil, ?_⟩
 rw [ok]
 intro v H' β' e s r
 cases r
 rfl
theorem YZ {P : Program} {w : World} {H : Hp} {s s' : Shared} {e : Value} (h : L2.CX P w [] H s (fun _ _ _ => False) e s') : False := by
 obtain ⟨a, B, H', cls, d, _, _, _, _, _, _, _, q⟩ := h
 exact q
section
variable {P : Program} {w : World} {K : PySem.W.Frag} {mg mb : Str → Option Value} {k : Nat} {fa a : Addr} {fd : FuncData} {x : Str} {f : FX} {s : Shared} {vs : List Value} {ns : List Int}
/-- behind the top: the def run at the script, which is tracked (as a thing the object of which is known), or one of the b20 own objects -/
theorem Nr (KX : K.In s.heap) (N : s.heap.Ns mainGlobals mg) (B : s.heap.Ns builtinsNs mb) (bb : ∀ x : Str, x ≠ "__name__" → mb x = bootBuiltins x) (lim : s.heap.NoLimit) (gg : s.gens = #[])
  (ob : s.heap.get? a = some { cls := .type "list", data := .seq vs.toArray }) (rm : Room k callerA) (F : ∀ base : Heap, K.In base → base.Ns mainGlobals mg → cQ P w K mg base k fa fd [x] (cM ⟨K, mg, w, []⟩ 1 f)) (bd : ∀ (s : Shared) (u : Value), BindsTo s fd ⟨[u], []⟩ [(x, u)])
  (ok : ∃ S, f [.lst (gM ns)] [] = .ok (.bl true) S) (H : Hp) (hH : HOk P w H s.heap) (sq : SqL K H a (ns.map V.int)) (on : ∀ b, H b = none ∨ (b = a ∧ K.lookup a = none ∧ ∃ xs, H b = some (.frz { cls := .type "list", data := .seq vs.toArray } (.lst xs)))) :
  codeAny (model P w) callerA (.call (.ref fa) ⟨[.ref a], []⟩) (fun r s' => r = .ok (.ret (.bool true)) ∧ OldK s.heap s'.heap ∧ s'.os = s.os ∧ AllBare s'.gens) s := by
 have Z0 : ∀ {b : Addr} {o : Obj} {es : Array DictEntry} {ep : Nat}, s.heap.get? b = some o → o.data = .dict es ep → H b = none := by
  intro b o es ep g d
  rcases on b with z | ⟨rfl, _, _⟩
  ·exact z
  ·rw [ob] at g
   injection g with g
   rw [← g] at d
   cases d
 have Z1 : ∀ {b : Addr} {o : Obj}, K.lookup b = some o → H b = none := by
  intro b o g
  rcases on b with z | ⟨rfl, n, _⟩
  ·exact z
  ·rw [n] at g; cases g
 have CQ : ∀ {b : Addr} {m : Str → Option Value}, s.heap.Ns b m → (hidT s.heap H).Ns b m := by
  rintro b m ⟨o, es, ep, g, d, r⟩
  exact ⟨o, es, ep, hidT_get g (Z0 g d), d, r⟩
 have kin : K.In (hidT s.heap H) := fun b o g => hidT_get (KX b o g) (Z1 g)
 obtain ⟨ml, l1, l2⟩ := lim
 have mod : Mod K mg (hidT s.heap H) := ⟨kin, CQ N, ⟨mb, CQ B, bb⟩, ⟨ml, CQ l1, l2⟩⟩
 have env : Env0 P w K mg (hidT s.heap H) callerA [] s H := ⟨rfl, mod, fun b o g => of_hidT g, Nat.le_of_eq (hidT_size _ _), trivial, fun b z => (List.not_mem_nil z).elim, hH, .of_eq gg⟩
 have run := (F _ kin (CQ N)).run callerA [] s H ⟨[.ref a], []⟩ [.ref a] [.ref a] _ _ rfl rm env (bd s (.ref a)) (.cons rfl .nil) (YY (C := ⟨K, mg, w, []⟩) sq ok)
 refine codeAny_mono run fun r s' q => ?_
 match r, q with
 | .error e, q => exact (YZ q).elim
 | .ok .next, q => exact False.elim q
 | .ok .brk, q => exact False.elim q
 | .ok .cont, q => exact False.elim q
 | .ok (.ret u), q =>
  obtain ⟨v, H', os, ba, un, hH', rv, e⟩ := q
  have e' : v = .bl true := e
  subst e'
  obtain rfl : u = Value.bool true := rv
  refine ⟨rfl, OldK.of_keep fun b o g => ?_, os, ba⟩
  rcases on b with z | ⟨_, _, xs, z⟩
  ·exact un.keep b o g z (fun m => (List.not_mem_nil m).elim) (fun m => (List.not_mem_nil m).elim)
  ·obtain ⟨g1, _⟩ := hH b _ z
   obtain ⟨g2, _⟩ := hH' b _ (un.frzs b _ _ z)
   rw [g] at g1
   injection g1 with g1
   rw [g1]
   exact g2
theorem Z2 (KX : K.In s.heap) (N : s.heap.Ns mainGlobals mg) (B : s.heap.Ns builtinsNs mb) (bb : ∀ x : Str, x ≠ "__name__" → mb x = bootBuiltins x) (lim : s.heap.NoLimit) (gg : s.gens = #[])
  (ob : s.heap.get? a = some { cls := .type "list", data := .seq vs.toArray }) (hi : IntsAre vs ns) (hz : ns.length ≤ sizeLine) (rm : Room k callerA) (F : ∀ base : Heap, K.In base → base.Ns mainGlobals mg → cQ P w K mg base k fa fd [x] (cM ⟨K, mg, w, []⟩ 1 f)) (bd : ∀ (s : Shared) (u : Value), BindsTo s fd ⟨[u], []⟩ [(x, u)])
  (ok : ∃ S, f [.lst (gM ns)] [] = .ok (.bl true) S) :
  codeAny (model P w) callerA (.call (.ref fa) ⟨[.ref a], []⟩) (fun r s' => r = .ok (.ret (.bool true)) ∧ OldK s.heap s'.heap ∧ s'.os = s.os ∧ AllBare s'.gens) s := by
 have vals := vals_ints hi
 cases hk : K.lookup a with
 | none =>
  refine Nr KX N B bb lim gg ob rm F bd ok (fun b => if b = a then some (.frz { cls := .type "list", data := .seq vs.toArray } (.lst (ns.map V.int))) else none) ?_ (.inl (.inr ⟨_, if_pos rfl⟩)) fun b => ?_
  ·intro b u z
   simp only at z
   by_cases e : b = a
   ·rw [if_pos e] at z
    injection z with z
    subst z e
    exact ⟨ob, by rw [List.length_map]; exact hz, vs, 0, vals, ob⟩
   ·rw [if_neg e] at z; cases z
  ·by_cases e : b = a
   ·exact .inr ⟨e, hk, _, if_pos e⟩
   ·exact .inl (if_neg e)
 | some o =>
  have g := KX a o hk
  rw [ob] at g
  injection g with g
  refine Nr KX N B bb lim gg ob rm F bd ok (fun _ => none) (fun b u z => nomatch z) (.inr ⟨o, vs.toArray, 0, hk, ?_⟩) fun b => .inl rfl
  rw [← g]
  refine ⟨rfl, rfl, rfl, ?_, vals⟩
  rw [List.size_toArray, ← vals.length, List.length_map]
  exact hz
end
theorem cY {k : Nat} {A : Around} (h : Room k A) : A.units + 64 < cLine := by have := h.un; omega
theorem cO {k : Nat} {A : Around} (h : Room k A) : A.units + 65 < cLine := by have := h.un; omega
theorem ou : ∀ ds ρ S, ds.length ≠ 0 → gq ds ρ S = none := by
 intro ds ρ S h
 cases ds with
 | nil => exact absurd rfl h
 | cons d ds => rfl
theorem fM {g : GX} {r : pP} {n : Nat} (h : ∀ ds ρ S, ds.length ≠ n → r ds ρ S = none) : ∀ ds ρ S, ds.length ≠ n + 1 → bL g r ds ρ S = none := by
 intro ds ρ S hl
 cases ds with
 | nil => rfl
 | cons d ds =>
  unfold bL
  simp only
  cases g d ρ S with
  | none => rfl
  | some p => exact h ds p.1 p.2 fun z => hl (by rw [List.length_cons, z])
section
variable {P : Program} {w : World} {K : PySem.W.Frag} {mg : Str → Option Value} {base : Heap}
theorem cQ.mono {j k : Nat} {f : Addr} {fd : FuncData} {ps : List Str} {sp : Sp} (F : cQ P w K mg base j f fd ps sp) (h : j ≤ k) : cQ P w K mg base k f fd ps sp :=
 ⟨F.len, fun A outer s H args us vs Q E hg hr => F.run A outer s H args us vs Q E hg (hr.mono h)⟩
theorem aK.mono {j k : Nat} {x : Str} {st : Stmt} {ps : List Str} {f : FX} (D : aK P w K mg base j x st ps f) (h : j ≤ k) : aK P w K mg base k x st ps f := by
 obtain ⟨fa, y, qual, fd, F, hm, G⟩ := D.ex
 exact ⟨fa, y, qual, fd, F, hm, G.mono h⟩
theorem Z3 {x x' qual qual' : Str} {st st' : Stmt} {fa : Addr} {fd fd' : FuncData} {k : Nat} {ps : List Str} {sp : Sp} (F : Fun K x qual st fa fd) (F' : Fun K x' qual' st' fa fd') (G : cQ P w K mg base k fa fd' ps sp) : cQ P w K mg base k fa fd ps sp := by
 obtain ⟨oc, od, kV, doc, pm, an, cdv, ct, osl, e1, l1, _⟩ := F.ex
 obtain ⟨oc', od', kV', doc', pm', an', b22, ct', b23, e2, l2, _⟩ := F'.ex
 have e := l1.symm.trans l2
 injection e with e
 injection e with _ _ e _
 injection e with e
 rw [e]
 exact G
end
section
variable {X : Cx} {k n : Nat} {T : List (Str × FX)}
theorem Z4 : ∀ (x : Str) (f : FX), ([] : List (Str × FX)).lookup x = some f → Aq X k n x f := fun x f h => nomatch h
theorem yc {y : Str} {g : FX} (h : Aq X k n y g) (r : ∀ (x : Str) (f : FX), T.lookup x = some f → Aq X k n x f) : ∀ (x : Str) (f : FX), ((y, g) :: T).lookup x = some f → Aq X k n x f := by
 intro x f e
 rw [List.lookup_cons] at e
 split at e
 ·rename_i q
  have q' : x = y := by simpa using q
  cases e
  rw [q']
  exact h
 ·exact r x f e
end
def CT : SX := aN (eG 2 (mG (bH (aC tY (ak 1) (aQ fH (ao (ak 0) (aq))))) (aC bA (ak 0) (ak 1)) (aC fD (aC jQ (mC (.int 13)) (ak 1)) (mC (.int 6))))) <|
 aW (xC (dZ (ao (aQ vQ (ao (mC (.int 0)) (ao (aC xK (aQ u9 (ao (ak 2) (aq))) (aC o7 (mC (.int 10)) (mC (.int 18)))) (aq)))) (ao (aC fD (aC fD (aC mO (aQ u9 (ao (ak 2) (aq))) (mC (.int 2147483579))) (aC jQ (mC (.int 307)) (ak 1))) (mC (.int 11))) (aq)))))
def CU : SX := aN (cI (bH (aC vK (aC bA (ak 0) (mC (.int 0))) (mC (.int 0)))) (aN (nW (aQ Ah (ao (aC bA (ak 0) (mC (.int 0))) (ao (ak 1) (aq)))) (fU (bL (uf (ak 0) (mC (.int 0))) (bL (aX 2) (gq))))) <|
 aW (ak 2)) (dN)) <|
 aN (nW (aC mO (aC fD (aC jQ (aC bA (ak 0) (mC (.int 1))) (mC (.int 48271))) (mC (.int 20011))) (mC (.int 2147483399))) (uf (ak 0) (mC (.int 1)))) <|
 aW (aC mO (aC Ae (aC mO (aC jQ (aC bA (ak 0) (mC (.int 1))) (aC bA (ak 0) (mC (.int 1)))) (mC (.int 2147483323))) (mC (.int 13))) (ak 1))
def iw (S : Store) (n : Nat) : Prop := ∃ a b : Int, S[n]? = some (.lst [.int a, .int b]) ∧ 0 ≤ a ∧ 0 ≤ b ∧ b < 2 ^ 33
section
variable {vs : List Nat} {g : GX} {t : BX} {e : EX} {ρ : aF}
theorem vU {S : Store} {p : D → Bool} {f : D → D} : ∀ (ds acc : List D), (∀ d ∈ ds, ∃ q, g d ρ S = some (q, S) ∧ t q S = .ok (p d) S ∧ (p d = true → e q S = .ok (f d) S)) → acc.length + ds.length ≤ sizeLine → gA vs g t e ρ ds acc S = .ok (acc ++ (ds.filter p).map f) S
 | [], acc, _, _ => by simp [gA]
 | d :: ds, acc, h, hl => by
  rw [List.length_cons] at hl
  obtain ⟨q, e1, e2, e3⟩ := h d List.mem_cons_self
  unfold gA
  rw [e1]
  simp only [e2]
  have h' := fun x hx => h x (List.mem_cons_of_mem _ hx)
  cases hp : p d with
  | false =>
   simp only
   rw [vU ds acc h' (by omega), List.filter_cons, if_neg (by rw [hp]; exact Bool.false_ne_true)]
  | true =>
   simp only [e3 hp]
   rw [if_pos (by omega), vU ds (acc ++ [f d]) h' (by rw [List.length_append, List.length_singleton]; omega), List.filter_cons, if_pos hp, List.map_cons, List.append_assoc]
   rfl
end
abbrev OX := aF → Store → R (Option Int)
def CV : OX := fun _ S => .ok none S
def yd (a : EX) : OX := fun ρ S => (a ρ S).bind fun x S1 => match x with
 | .int i => .ok (some i) S1
 | _ => .stuck
def cutD (xs : List D) (lo hi : Option Int) : List D := (xs.drop (HT.sIx xs.length 0 lo)).take (HT.sIx xs.length xs.length hi - HT.sIx xs.length 0 lo)
def ug (S : Store) (x : D) (lo hi : Option Int) : Option D := match x with
 | .str z => if z.length ≤ sizeLine then some (.str (cutS z lo hi)) else none
 | .tup xs => some (.tup (cutD xs lo hi))
 | x => match bu S x with
  | some xs => some (.lst (cutD xs lo hi))
  | none => none
def yg (o : EX) (lo hi : OX) : EX := fun ρ S => (o ρ S).bind fun x S1 => (lo ρ S1).bind fun l S2 => (hi ρ S2).bind fun h S3 => R.opt (ug S3 x l h) S3
def OM (C : Ct) (W : WX) (b : Bool) (m : OX) : TO := fun σ H Q => ∃ cf oa P β ρ S, LR C cf oa P σ H β ρ S ∧ (match m ρ S with
 | .ok k S' => ∀ H' β', Tr b H β S H' β' S' → LR C cf oa P σ H' β' ρ S' → Q k H'
 | .exc e S' => XP C W cf oa P σ b H β ρ S e S'
 | .stuck => False)
abbrev CW (C : Ct) (W : WX) (b : Bool) (X : Cx) (e : Option Expr) (m : OX) : Prop := PO X e (OM C W b m)
section
variable {X : Cx} {W : WX} {b : Bool} {e : Expr} {lo hi : Option Expr} {mo me : EX} {ml mh : OX} {pos p2 : Pos}
theorem Nt {o : Option Expr} {t t' : TO} (h : PO X o t) (i : ∀ σ H Q, t' σ H Q → t σ H Q) : PO X o t' := ⟨fun pins s σ H Q I hw => h.run pins s σ H Q I (i σ H Q hw)⟩
theorem Nu : CW (aj X) W b X none CV := Nt po_none fun σ H Q h => by
 obtain ⟨cf, oa, P, β, ρ, S, L, h⟩ := h
 exact h H β Tr.refl L
theorem Nv (h : PM (aj X) W b X e me) : CW (aj X) W b X (some e) (yd me) := Nt (po_some h) fun σ H Q h => by
 obtain ⟨cf, oa, P, β, ρ, S, L, h⟩ := h
 refine ⟨cf, oa, P, β, ρ, S, L, ?_⟩
 unfold yd at h
 cases ea : me ρ S with
 | stuck => rw [ea] at h; exact h
 | exc x S1 => rw [ea] at h; exact h
 | ok d S1 =>
  rw [ea] at h
  simp only [R.bind] at h
  intro v H1 β1 t1 L1 r1
  cases d with
  | int i => cases r1; exact ⟨i, rfl, h H1 β1 t1 L1⟩
  | _ => exact (show False from h).elim
theorem Ny {C : Ct} {H : Hp} {Z : Addr → Prop} {β : List Addr} {vs : List V} {ds : List D} (r : aA C H Z β vs ds) (lo hi : Option Int) : aA C H Z β (cutV vs lo hi) (cutD ds lo hi) := by
 unfold cutV cutD
 rw [r.length]
 exact (r.drop _).take _
theorem Z5 {C : Ct} {H : Hp} {Z : Addr → Prop} {β : List Addr} {vs : List V} {ds : List D} {lo hi : Option Int} (r : aA C H Z β vs ds) (h : HT.sIx vs.length 0 lo = 0 ∧ HT.sIx vs.length vs.length hi = vs.length) : cutD ds lo hi = ds := by
 unfold cutD
 rw [← r.length, h.1, h.2, List.drop_zero, Nat.sub_zero, r.length, List.take_length]
def rSlX (K : PySem.W.Frag) : V → Option Int → Option Int → Hp → VK → Prop := fun x lo hi H Q => rSlS x lo hi H Q ∨ rSlA K x lo hi H Q ∨ rSlL K x lo hi H Q
theorem Z6 : SlR X (rSlX X.K) := SlR.or sl_str (SlR.or sl_tupA sl_list)
theorem Z7 {Z : Addr → Prop} {H : Hp} {β : List Addr} {S : Store} {x : V} {dx dz : D} {lo hi : Option Int} {Q : VK} (A : At (aj X) H Z β S) (r : RV (aj X) H Z β x dx) (e : ug S dx lo hi = some dz)
  (k : ∀ v H', Same H H' → RV (aj X) H' Z β v dz → Q v H') : rSlX X.K x lo hi H Q := by
 have tail : ∀ {d : D}, RV (aj X) H Z β x d → (match bu S d with
  | some xs => some (D.lst (cutD xs lo hi))
  | none => none) = some dz → rSlX X.K x lo hi H Q := fun {d} r e => by
  split at e
  ·rename_i xs e1
   cases e
   obtain ⟨a, us, rfl, q1, r1⟩ := r.bu A.st e1
   refine .inr (.inr ⟨a, us, rfl, q1, fun p hp => k _ _ (g8 hp) ?_⟩)
   exact .lst (A.FW hp) (A.pJ hp) (.inl upd_same) ((Ny r1 lo hi).mono (Ext.laid hp))
  ·cases e
 unfold ug at e
 split at e
 ·split at e
  ·rename_i hz
   cases e; cases r
   exact .inl ⟨_, rfl, hz, k _ H (Same.refl _) (.str _)⟩
  ·cases e
 ·cases e
  have r0 := r
  obtain ⟨a, us, rfl, q1, r1⟩ := r.gH rfl
  refine .inr (.inl ⟨a, us, rfl, q1, fun h => ?_, fun h p hp => k _ _ (g8 hp) (.tup (.inl upd_same) ((Ny r1 lo hi).mono (Ext.laid hp)))⟩)
  refine k _ H (Same.refl _) ?_
  rw [Z5 r1 h]
  exact r0
 ·exact tail r e
theorem Nz (ho : PM (aj X) W b X e mo) (hl : CW (aj X) W b X lo ml) (hh : CW (aj X) W b X hi mh) : PM (aj X) W b X (.Subscript e (.Slice lo hi none p2) pos) (yg mo ml mh) := bW (pe_slice Z6 ho hl hh) fun σ H Q h => by
 obtain ⟨cf, oa, P, β, ρ, S, L, h⟩ := h
 refine ⟨cf, oa, P, β, ρ, S, L, ?_⟩
 unfold yg at h
 cases eo : mo ρ S with
 | stuck => rw [eo] at h; exact h
 | exc x S1 => rw [eo] at h; exact h
 | ok d S1 =>
  rw [eo] at h
  simp only [R.bind] at h
  intro v H1 β1 t1 L1 r1
  refine ⟨cf, oa, P, β1, ρ, S1, L1, ?_⟩
  cases el : ml ρ S1 with
  | stuck => rw [el] at h; exact h
  | exc x S2 => rw [el] at h; intro cls c H' β' e2 L2 ex; exact h cls c H' β' (t1.trans e2) L2 ex
  | ok l S2 =>
   rw [el] at h
   simp only at h
   intro H2 β2 t2 L2
   refine ⟨cf, oa, P, β2, ρ, S2, L2, ?_⟩
   cases eh : mh ρ S2 with
   | stuck => rw [eh] at h; exact h
   | exc x S3 => rw [eh] at h; intro cls c H' β' e2 L3 ex; exact h cls c H' β' (t1.trans (t2.trans e2)) L3 ex
   | ok u S3 =>
    rw [eh] at h
    simp only at h
    intro H3 β3 t3 L3
    cases es : ug S3 d l u with
    | none => rw [es] at h; exact h.elim
    | some dz =>
     rw [es] at h
     exact Z7 L3.at ((r1.mono t2.ext).mono t3.ext) es fun v H' e3 r3 => h v H' β3 (t1.trans (t2.trans (t3.trans (Tr.same e3)))) (L3.same e3) r3
end
def uh (i : Nat) (a : EX) : SX := fun ρ S => match ρ[i]? with
 | some (Sl.ow (.lst xs)) => (a ρ S).st ρ fun d S1 => if xs.length < sizeLine then .nx (ρ.set i (.ow (.lst (xs ++ [d])))) S1 else .stuck
 | some (Sl.sh (.ref n)) => match S[n]? with
  | some (.lst _) => (a ρ S).st ρ fun d S1 => match S1[n]? with
   | some (.lst xs) => if xs.length < sizeLine then .nx ρ (S1.set n (.lst (xs ++ [d]))) else .stuck
   | _ => .stuck
  | _ => .stuck
 | _ => .stuck
section
variable {C : Ct} {cf : Cf} {oa : Nat → Option Addr} {P : Addr → Prop} {σ : L2.St} {H : Hp} {β : List Addr} {ρ : aF} {S : Store}
/-- a G6 own container changes -/
theorem LR.NB {i : Nat} {a : Addr} {o : HO} {d : D} (L : LR C cf oa P σ H β ρ S) (h1 : oa i = some a) (hs : σ[i]? = some (some (.ref a))) (hi : i < ρ.length) (ht : ∀ xs, ¬ Rd H a (.tup xs)) (new : cP C (upd H a o) P β a d) : LR C cf oa P σ (upd H a o) β (ρ.set i (.ow d)) S where
 len := by rw [List.length_set]; exact L.len
 p := fun c h => by
  refine ⟨?_, (L.p c h).2⟩
  by_cases e : c = a
  ·rw [e, upd_same]; exact Option.some_ne_none _
  ·rw [upd_ne e]; exact (L.p c h).1
 sub := L.sub
 p0 := L.p0
 ext := ⟨L.ext.pre, fun c u g1 g2 => by
   have ne : c ≠ a := fun e => by rw [e, (L.own i a h1).2] at g1; cases g1
   rw [upd_ne ne]; exact L.ext.keep c u g1 g2, L.ext.fresh, fun c xs h => by
   have r := L.ext.tups c xs h
   have ne : c ≠ a := fun e => ht xs (e ▸ r)
   unfold Rd; rw [upd_ne ne]; exact r, fun c h => by
   by_cases e : c = a
   ·rw [e, upd_same]; exact Option.some_ne_none _
   ·rw [upd_ne e]; exact L.ext.stay c h, fun c o u h => by rw [upd_ne (fun z => by rw [z, (L.own i a h1).2] at h; cases h)]; exact L.ext.dY c o u h⟩
 own := L.own
 inj := L.inj
 st := L.st.own (L.own i a h1).1 (L.p a (L.own i a h1).1).2 ht
 slot := fun j x h => by
  by_cases e : i = j
  ·subst e; rw [List.getElem?_set_self hi] at h; cases h
  ·rw [List.getElem?_set_ne e] at h
   obtain ⟨v, q1, q2⟩ := L.slot j x h
   exact ⟨v, q1, q2.set (.inl (L.own i a h1).1) ht⟩
 bV := fun j x h => by
  by_cases e : i = j
  ·subst e
   rw [List.getElem?_set_self hi] at h
   cases h
   exact ⟨a, h1, hs, new⟩
  ·rw [List.getElem?_set_ne e] at h
   obtain ⟨c, q0, q1, q2⟩ := L.bV j x h
   exact ⟨c, q0, q1, q2.set (.inl (L.own i a h1).1) ht fun z => e (L.inj i j a h1 (z ▸ q0))⟩
 xslot := fun j x h => by
  by_cases e : i = j
  ·subst e; rw [List.getElem?_set_self hi] at h; cases h
  ·rw [List.getElem?_set_ne e] at h
   obtain ⟨c, q1, q2⟩ := L.xslot j x h
   exact ⟨c, q1, q2.set (L.own i a h1).1 ht⟩
end
section
variable {X : Cx} {W : WX} {x : Str} {px apos cpos pos : Pos} {e : Expr} {me : EX} {i : Nat}
theorem GO (hv : PE X (.Name x px) (tVar i)) (he : PM (aj X) W false X e me)
  (hs : swapsWith (.Call (.Attribute (.Name x px) "append" apos) [e] [] cpos) none pos.line X.env = pure false := by rfl)
  (hbase : attributeBase (.Name x px) "append" X.env (eval (.Name x px) X.env) = eval (.Name x px) X.env := by rfl)
  (hfew : ((backTo cpos (starEach [e] X.env)).all (fun x => !x.1) && (backToKw cpos (keywordEach [] X.env)).all (fun x => x.1.isSome)
   && decide (([e] : List Expr).length + ([] : List Keyword).length + (if ([] : List Keyword).isEmpty then 0 else 1) < 30)) = true := by rfl)
  (hline : (apos.endLine == cpos.line) = true := by rfl) (hst : starEach [e] X.env = (false, eval e X.env) :: starEach [] X.env := by rfl) (hpl : (backTo cpos (starEach [] X.env)).any (·.1) = false := by rfl) :
  fL (aj X) W X (.Expr (.Call (.Attribute (.Name x px) "append" apos) [e] [] cpos) pos) (uh i me) :=
 jw (ps_expr (pe_bm F.plainAttrs_list F.slot_list_append F.type_list_append mt_append hv (au he aD hst) hbase hfew hline hst hpl) hs) fun D σ H h => by
  obtain ⟨cf, oa, P, β, ρ, S, L, h⟩ := h
  have one : ∀ {Q : List V → Hp → Prop}, EM (aj X) W false me σ H (fun v H' => Q [v] H') → AM (aj X) W false (ao me aq) σ H Q := by
   intro Q h
   obtain ⟨cf, oa, P, β, ρ, S, L, h⟩ := h
   refine ⟨cf, oa, P, β, ρ, S, L, ?_⟩
   unfold ao
   cases em : me ρ S with
   | stuck => rw [em] at h; exact h
   | exc x S1 => rw [em] at h; exact h
   | ok d S1 =>
    rw [em] at h
    intro vs H1 β1 t L1 r
    obtain ⟨v, rfl, r1⟩ := jE r
    exact h v H1 β1 t L1 r1
  unfold uh at h
  have go : ∀ {a : Addr} {us : List V}, σ[i]? = some (some (.ref a)) → SqL X.K H a us → EM (aj X) W false me σ H (fun v H' => ∃ (l : Addr) (xs : List V) (y : V), V.ref a = .ref l ∧ [v] = [y] ∧ H' l = some (.lst xs) ∧ xs.length < sizeLine ∧ D.nx σ (upd H' l (.lst (xs ++ [y])))) →
    tBM X.K "list" rAppend (tVar i) (AM (aj X) W false (ao me aq)) σ H (fun _ H' => D.nx σ H') := by
   intro a us q1 q2 q3
   exact ⟨.ref a, q1, .inl ⟨rfl, us, q2⟩, one q3⟩
  cases es : ρ[i]? with
  | none => rw [es] at h; exact h.elim
  | some sl =>
   rw [es] at h
   cases sl with
   | un => exact h.elim
   | ex _ => exact h.elim
   | ow dx =>
    cases dx with
    | lst xs =>
     obtain ⟨a, o1, o2, us, q1, q2⟩ := L.bV i _ es
     refine go o2 (.inl (.inl q1)) ⟨cf, oa, P, β, ρ, S, L, ?_⟩
     simp only at h
     cases em : me ρ S with
     | stuck => rw [em] at h; exact h
     | exc x S1 => rw [em] at h; exact jC h
     | ok d S1 =>
      rw [em] at h
      simp only [R.st] at h
      intro v H1 β1 t L1 r1
      obtain ⟨a', p1, p2, oA, w1, w2⟩ := L1.bV i _ es
      have ea : a' = a := by rw [o1] at p1; injection p1 with z; exact z.symm
      subst ea
      by_cases hl : xs.length < sizeLine
      ·rw [if_pos hl] at h
       have hP := (L1.own i a' p1).1
       have nt : ∀ xs, ¬ Rd H1 a' (.tup xs) := fun xs z => by
        rcases z with z | ⟨o, z⟩ <;> (rw [w1] at z; cases z)
       have new : cP (aj X) (upd H1 a' (.lst (oA ++ [v]))) P β1 a' (.lst (xs ++ [d])) := ⟨_, upd_same, (w2.append (.cons r1 .nil)).set (.inl hP) nt⟩
       refine ⟨a', oA, v, rfl, rfl, w1, by rw [w2.length]; exact hl, ?_⟩
       exact h σ _ β1 oa P (L1.NB p1 p2 (List.getElem?_eq_some_iff.mp es).1 nt new) ((Fx.of t.ext).trans (Fx.own hP nt fun o u z => by rw [w1] at z; cases z))
      ·rw [if_neg hl] at h; exact h.elim
    | _ => exact (show False from h).elim
   | sh dx =>
    cases dx with
    | ref n =>
     simp only at h
     cases eS : S[n]? with
     | none => rw [eS] at h; exact h.elim
     | some so =>
      rw [eS] at h
      cases so with
      | lst xs0 =>
       obtain ⟨v0, q1, q2⟩ := L.slot i _ es
       cases q2 with
       | ref hn =>
        obtain ⟨us, w1, w2⟩ := L.st.ok _ _ _ hn eS
        refine go q1 (.inl (.inl w1)) ⟨cf, oa, P, β, ρ, S, L, ?_⟩
        simp only at h
        cases em : me ρ S with
        | stuck => rw [em] at h; exact h
        | exc x S1 => rw [em] at h; exact jC h
        | ok d S1 =>
         rw [em] at h
         simp only [R.st] at h
         intro v H1 β1 t L1 r1
         have hn1 := t.ext.get hn
         cases vW : S1[n]? with
         | none => rw [vW] at h; exact h.elim
         | some so =>
          rw [vW] at h
          cases so with
          | lst xs =>
           simp only at h
           by_cases hl : xs.length < sizeLine
           ·rw [if_pos hl] at h
            obtain ⟨oA, z1, z2⟩ := L1.st.ok _ _ _ hn1 vW
            have m := List.mem_of_getElem? hn1
            have nt := L1.st.pH m
            have new : bG (aj X) (upd H1 _ (.lst (oA ++ [v]))) P β1 _ (.lst (xs ++ [d])) := ⟨_, upd_same, (z2.append (.cons r1 .nil)).set (.inr m) nt⟩
            refine ⟨_, oA, v, rfl, rfl, z1, by rw [z2.length]; exact hl, ?_⟩
            have hf : ∀ o u, H1 _ ≠ some (.frz o u) := fun o u z => by rw [z1] at z; cases z
            exact h σ _ β1 oa P (L1.wrote hn1 new hf) ((Fx.of t.ext).trans (Fx.of (Ext.wrote m nt hf)))
           ·rw [if_neg hl] at h; exact h.elim
          | _ => exact (show False from h).elim
      | _ => exact (show False from h).elim
    | _ => exact (show False from h).elim
end
def Z8 (_ : Store) (x y : D) : Option D := match x, y with
 | .int i, .int j => some (.int (i + j))
 | _, _ => none
section
variable {X : Cx}
/-- the items of a list or a tuple -/
def vX (S : Store) (d : D) : Option (List D) := match d with
 | .tup xs => some xs
 | d => bu S d
theorem RV.vX {C : Ct} {H : Hp} {Z : Addr → Prop} {β : List Addr} {S : Store} {v : V} {d : D} (r : RV C H Z β v d) (s : aP C H Z β S) {ds : List D} (h : Mi.vX S d = some ds) : ∃ a xs, v = .ref a ∧ (SqL C.K H a xs ∨ SqT C.K H a xs) ∧ aA C H Z β xs ds := by
 unfold Mi.vX at h
 split at h
 ·obtain ⟨a, xs, q1, q2, q3⟩ := r.gH (ds := ds) h
  exact ⟨a, xs, q1, .inr q2, q3⟩
 ·obtain ⟨a, xs, q1, q2, q3⟩ := r.bu s h
  exact ⟨a, xs, q1, .inl q2, q3⟩
def fTuple (S : Store) (ds : List D) : Option D := match ds with
 | [.tup xs] => some (.tup xs)
 | [d] => match bu S d with
  | some xs => some (.tup xs)
  | none => none
 | _ => none
theorem Z9 : gj X (fun xs H Q => ∃ p ys, xs = [.ref p] ∧ ((SqL X.K H p ys ∧ ∀ l, H l = none → Q (.ref l) (upd H l (.tup ys))) ∨ (SqT X.K H p ys ∧ Q (.ref p) H))) fTuple := by
 intro Z H β S xs ds dz Q A r e k
 unfold fTuple at e
 split at e
 ·cases e
  obtain ⟨x, rfl, r1⟩ := jE r
  have r0 := r1
  obtain ⟨a, us, rfl, q1, r2⟩ := r1.gH rfl
  exact ⟨a, us, rfl, .inr ⟨q1, k _ H (Same.refl _) r0⟩⟩
 ·split at e
  ·rename_i ys e1
   cases e
   obtain ⟨x, rfl, r1⟩ := jE r
   obtain ⟨a, us, rfl, q1, r2⟩ := r1.bu A.st e1
   exact ⟨a, us, rfl, .inl ⟨q1, fun l hl => k _ _ (g8 hl) (.tup (.inl upd_same) (r2.mono (Ext.laid hl)))⟩⟩
  ·cases e
 ·cases e
/-- dict(d): a copy -/
def fDict (S : Store) (ds : List D) : Option D := match ds with
 | [d] => match aU S d with
  | some kvs => some (.dct kvs)
  | none => none
 | _ => none
end
theorem Av {C : Ct} {H : Hp} {P : Addr → Prop} {β : List Addr} : ∀ ds : List D, ds.all litOk = true → aA C H P β (ds.map dV) ds
 | [], _ => .nil
 | .str x :: ds, h => .cons (.str x) (Av ds (by simpa [litOk] using h))
 | .int i :: ds, h => .cons (.int i) (Av ds (by simpa [litOk] using h))
 | .non :: ds, h => .cons .non (Av ds (by simpa [litOk] using h))
 | .bl _ :: _, h | .tup _ :: _, h | .lst _ :: _, h | .dct _ :: _, h | .ref _ :: _, h | .ty _ :: _, h | .fn _ :: _, h => by simp [litOk] at h
/-- what a literal of the module stands for; R: what a b24 name stands for -/
def uo (K : PySem.W.Frag) (R : Str → Value → Prop) : D → Value → Prop
 | .str x, u => ∃ t, u = .str x t
 | .int i, u => ∃ t, u = .int i t
 | .bl b, u => u = .bool b
 | .non, u => u = .none
 | .tup ds, u => ∃ a, u = .ref a ∧ ds.all litOk = true ∧ KT K a (ds.map dV)
 | .fn x, u => ∃ f, u = .ref f ∧ R x (.ref f) ∧ PySem.W.keepIn K (.ref f) = true
 | _, _ => False
inductive oE (K : PySem.W.Frag) (R : Str → Value → Prop) : List DictEntry → List (Str × D) → Prop
 | nil : oE K R [] []
 | cons {e : DictEntry} {k : Str} {t : Tok} {d : D} {es : List DictEntry} {tab : List (Str × D)} : e.key = .str k t → uo K R d e.val → oE K R es tab → oE K R (e :: es) ((k, d) :: tab)
structure KTab (K : PySem.W.Frag) (R : Str → Value → Prop) (w : World) (d : Addr) (tab : List (Str × D)) : Prop where
 ex : ∃ es n, KDict K w d es n ∧ oE K R es.toList tab
theorem uo.imp {K : PySem.W.Frag} {R R' : Str → Value → Prop} (h : ∀ x v, R x v → R' x v) {d : D} {u : Value} (l : uo K R d u) : uo K R' d u := by
 cases d <;> first | exact l | (obtain ⟨f, a, b, c⟩ := l; exact ⟨f, a, h _ _ b, c⟩)
theorem oE.imp {K : PySem.W.Frag} {R R' : Str → Value → Prop} (h : ∀ x v, R x v → R' x v) : ∀ {es : List DictEntry} {tab : List (Str × D)}, oE K R es tab → oE K R' es tab
 | _, _, .nil => .nil
 | _, _, .cons a b c => .cons a (b.imp h) (oE.imp h c)
theorem KTab.imp {K : PySem.W.Frag} {R R' : Str → Value → Prop} (h : ∀ x v, R x v → R' x v) {w : World} {d : Addr} {tab : List (Str × D)} (T : KTab K R w d tab) : KTab K R' w d tab := let ⟨es, n, a, b⟩ := T.ex; ⟨es, n, a, b.imp h⟩
/-- by the written part -/
def GP (K : PySem.W.Frag) (x : Str) (v : Value) : Prop := PySem.W.nsIn K mainGlobals x = some (some v)
def vY (mg : Str → Option Value) (x : Str) (v : Value) : Prop := mg x = some v
def jT (tab : List (Str × D)) (_ : Store) (x : D) : Option D := match x with
 | .str z => tab.lookup z
 | _ => none
def Ax (tab : List (Str × D)) (_ : Store) (x : D) : Option D := match x with
 | .str z => some (.bl (!(tab.lookup z).isSome))
 | _ => none
theorem Za {C : Ct} {H : Hp} {P : Addr → Prop} {β : List Addr} {d : D} {u : Value} (h : uo C.K (vY C.mg) d u) : ∃ v, RelV v u ∧ RV C H P β v d := by
 cases d with
 | str x => obtain ⟨t, rfl⟩ := h; exact ⟨.str x, ⟨t, rfl⟩, .str x⟩
 | int i => obtain ⟨t, rfl⟩ := h; exact ⟨.int i, ⟨t, rfl⟩, .int i⟩
 | bl b => cases (show u = .bool b from h); exact ⟨.bl b, rfl, .bl b⟩
 | non => cases (show u = .none from h); exact ⟨.non, rfl, .non⟩
 | tup ds => obtain ⟨a, rfl, h1, h2⟩ := h; exact ⟨.ref a, rfl, .eV h2 (Av ds h1)⟩
 | fn x => obtain ⟨f, rfl, h1, h2⟩ := h; exact ⟨.ref f, rfl, .fn h1 h2⟩
 | _ => exact (show False from h).elim
theorem ND {K : PySem.W.Frag} {R : Str → Value → Prop} {z : Str} : ∀ {es : List DictEntry} {tab : List (Str × D)}, oE K R es tab →
  (match es.find? (·.key.isStr z) with
   | some e => ∃ d, tab.lookup z = some d ∧ uo K R d e.val
   | none => tab.lookup z = none) ∧ es.any (·.refKey) = false
 | _, _, .nil => ⟨rfl, rfl⟩
 | _, _, .cons (e := e) (k := k) (t := t) (es := es) (tab := tab) hk hv r => by
  obtain ⟨h1, h2⟩ := ND (z := z) r
  have hr : e.refKey = false := by
   unfold DictEntry.refKey
   rw [hk]
  refine ⟨?_, by rw [List.any_cons, hr, h2]; rfl⟩
  rw [List.find?_cons, hk, List.lookup_cons]
  by_cases hz : z = k
  ·subst hz
   have : (Value.str z t).isStr z = true := by simp [Value.isStr]
   rw [this]
   simp only [beq_self_eq_true]
   exact ⟨_, rfl, hv⟩
  ·have : (Value.str k t).isStr z = false := by simp [Value.isStr]; exact fun q => hz q.symm
   rw [this]
   have hb : (z == k) = false := by simpa using hz
   rw [hb]
   exact h1
theorem NK {K : PySem.W.Frag} {R : Str → Value → Prop} {w : World} {d : Addr} {tab : List (Str × D)} {es : Array DictEntry} {n : Nat} (D : KDict K w d es n) (E : oE K R es.toList tab) (z : Str) :
  (∃ x u, tab.lookup z = some x ∧ uo K R x u ∧ PySem.W.nsIn K d z = some (some u)) ∨ (tab.lookup z = none ∧ PySem.W.nsIn K d z = some none) := by
 obtain ⟨h1, h2⟩ := ND (z := z) E
 unfold PySem.W.nsIn
 rw [D.at_]
 simp only
 cases e : es.toList.find? (·.key.isStr z) with
 | some q => rw [e] at h1; obtain ⟨x, g1, g2⟩ := h1; exact .inl ⟨x, _, g1, g2, rfl⟩
 | none => rw [e] at h1; exact .inr ⟨h1, by rw [h2]; rfl⟩
section
variable {X : Cx} {W : WX} {b : Bool} {x : Str} {da : Addr} {tab : List (Str × D)} {e : Expr} {me : EX} {p pos : Pos}
theorem NN {f : Store → D → Option D} {r : V → Hp → VK → Prop} {σ : L2.St} {H : Hp} {Q : VK} (hm : vp X r f) (h : EM (aj X) W b (cW f me) σ H Q) : EM (aj X) W b me σ H fun y H2 => r y H2 Q := A6 (X := X) (W := W) (b := b) (ma := me) hm h
theorem Zb (T : KTab X.K (vY X.mg) X.w da tab) : vp X (fun y H Q => rIxD X.K X.w (.ref da) y H Q) (jT tab) := by
 intro Z H β S y dy dz Q A ry e k
 obtain ⟨es, n, D, E⟩ := T.ex
 unfold jT at e
 split at e
 ·rename_i z
  cases ry
  rcases NK D E z with ⟨d, u, g1, g2, g3⟩ | ⟨g1, _⟩
  ·rw [e] at g1
   cases g1
   obtain ⟨v, rv, rd⟩ := Za (C := aj X) (H := H) (P := Z) (β := β) g2
   exact ⟨da, z, v, rfl, rfl, ⟨es, n, u, D.at_, D.lit, g3, rv⟩, k v H (Same.refl _) rd⟩
  ·rw [e] at g1; cases g1
 ·cases e
/-- TABLE[e] -/
theorem GU (T : KTab X.K (vY X.mg) X.w da tab) (hm : X.mg x = some (.ref da)) (he : PM (aj X) W b X e me) (hg : Gl X x := by rfl) (hd : (x == ("__debug__" : Str)) = false := by decide) (hs : PlainIx e := by exact fun _ _ => rfl) :
  PM (aj X) W b X (.Subscript (.Name x p) e pos) (cW (jT tab) me) := bW (pe_ix ix_kdict (pe_glob (v := .ref da) hg hm rfl hd) he hs) fun σ H Q h => NN (Zb T) h
theorem Zd (T : KTab X.K (vY X.mg) X.w da tab) : vp X (fun y H Q => ∃ (z : Str) (r : Option Value), y = .str z ∧ V.ref da = .ref da ∧ PySem.W.nsIn X.K da z = some r ∧ Q (.bl (!r.isSome)) H) (Ax tab) := by
 intro Z H β S y dy dz Q A ry e k
 obtain ⟨es, n, D, E⟩ := T.ex
 unfold Ax at e
 split at e
 ·rename_i z
  cases ry; cases e
  rcases NK D E z with ⟨d, u, g1, g2, g3⟩ | ⟨g1, g3⟩
  ·refine ⟨z, _, rfl, rfl, g3, k _ H (Same.refl _) ?_⟩
   rw [g1]; exact .bl _
  ·refine ⟨z, _, rfl, rfl, g3, k _ H (Same.refl _) ?_⟩
   rw [g1]; exact .bl _
 ·cases e
theorem Ze (T : KTab X.K (vY X.mg) X.w da tab) (hm : X.mg x = some (.ref da)) (he : PM (aj X) W b X e me) (hg : Gl X x := by rfl) (hd : (x == ("__debug__" : Str)) = false := by decide) (hk : behindInMarks .NotIn (.Name x p) = false := by with_unfolding_all rfl) :
  PB (aj X) W b X (.Compare e [.NotIn] [.Name x p] pos) (bH (cW (Ax tab) me)) := by
 obtain ⟨es, n, D, E⟩ := T.ex
 exact vo (pt_cmpR (op_notIn_kd D) he (pe_glob (v := .ref da) hg hm rfl hd) hk) fun σ H Q h => NN (Zd T) (Ci h)
/-- a tuple of literals of the module -/
theorem NP {ds : List D} (hm : X.mg x = some (.ref da)) (h1 : ds.all litOk = true) (h2 : KT X.K da (ds.map dV)) (hg : Gl X x := by rfl) (hd : (x == ("__debug__" : Str)) = false := by decide) : PM (aj X) W b X (.Name x p) (mC (.tup ds)) :=
 rF (v := .ref da) hm rfl (fun _ _ _ => .eV h2 (Av ds h1)) hg hd
end
section
variable {cs : List (PySem.W.Frag → Bool)} {fns : List He.FnD} {ts : List He.Tab} {w : World} {K : PySem.W.Frag}
theorem qJ.ck (c : qJ cs fns ts w K) (i : Nat) {f : PySem.W.Frag → Bool} (h : cs[i]? = some f := by rfl) : f K = true := by
 have c1 := (He.ba (show ((cs.all fun c => c K) && fns.all fun d => (He.Fa.code d.at_ d.qual).ok K && PySem.W.keepIn K (.ref (He.fAd K d.at_))) = true from congrArg (fun z : tK => z.1) c)).1
 exact List.all_eq_true.mp c1 f (List.mem_of_getElem? h)
theorem qJ.fn (c : qJ cs fns ts w K) (i : Nat) {d : He.FnD} (h : fns[i]? = some d := by rfl) :
  ∃ oc od osl kV doc pm an cdv ct, K.lookup (He.fAd K d.at_) = some ⟨oc, od, .func (PySem.W.fnOf d.name d.qual d.params d.body d.scope .none kV doc pm an cdv ct), osl⟩ ∧ PySem.W.codeIn K cdv d.qual = true ∧ PySem.W.keepIn K (.ref (He.fAd K d.at_)) = true := by
 have c2 := (He.ba (show ((cs.all fun c => c K) && fns.all fun d => (He.Fa.code d.at_ d.qual).ok K && PySem.W.keepIn K (.ref (He.fAd K d.at_))) = true from congrArg (fun z : tK => z.1) c)).2
 have e : fns.map (fun d => He.fnObs K d.at_) = fns.map He.FnD.val := congrArg (fun z : tK => z.2.1) c
 have e2 : (fns.map fun d => He.fnObs K d.at_)[i]? = (fns.map He.FnD.val)[i]? := by rw [e]
 rw [List.getElem?_map, List.getElem?_map, h] at e2
 obtain ⟨k1, k2⟩ := He.ba (List.all_eq_true.mp c2 d (List.mem_of_getElem? h))
 obtain ⟨oc, od, osl, kV, doc, pm, an, cdv, ct, l, q⟩ := He.fn_ok (Option.some.inj e2) k1
 exact ⟨oc, od, osl, kV, doc, pm, an, cdv, ct, l, q, k2⟩
theorem qJ.tab (c : qJ cs fns ts w K) (i : Nat) {t : He.Tab} (h : ts[i]? = some t := by rfl) : ∃ es n, KDict K w (t.1 K) es n := by
 have e : ts.map (fun t => He.dicW K (t.1 K)) = ts.map fun t => some (He.keysIn w.params t.2) := congrArg (fun z : tK => z.2.2) c
 have e2 : (ts.map fun t => He.dicW K (t.1 K))[i]? = (ts.map fun t => some (He.keysIn w.params t.2))[i]? := by rw [e]
 rw [List.getElem?_map, List.getElem?_map, h] at e2
 exact He.dicW_ok (Option.some.inj e2)
end
section
variable {K : PySem.W.Frag}
theorem bd {a b : Bool} (h : (a && b) = true) : a = true ∧ b = true := Bool.and_eq_true_iff.mp h
theorem NQ {o : Option (Option Value)} {z : Str} (h : FO o z = true) : ∃ t, o = some (some (.str z t)) := by
 cases o with
 | none => cases h
 | some o =>
  cases o with
  | none => cases h
  | some v =>
   cases v with
   | str y t =>
    have e : y = z := of_decide_eq_true h
    exact ⟨t, by rw [e]⟩
   | _ => cases h
theorem GV {o : Option (Option Value)} {z : Int} (h : BQ o z = true) : ∃ t, o = some (some (.int z t)) := by
 cases o with
 | none => cases h
 | some o =>
  cases o with
  | none => cases h
  | some v =>
   cases v with
   | int y t =>
    have e : y = z := of_decide_eq_true h
    exact ⟨t, by rw [e]⟩
   | _ => cases h
theorem Zf {f : Addr} {oc : Value} {od : Option Addr} {osl : Array (Option Value)} {n q : Str} {a : Arguments} {b : List Stmt} {sc : Scope} {kV doc cd ct : Value} {pm : Value} {an : Option Addr} (h : FP K f = true)
  (l : K.lookup f = some ⟨oc, od, .func (PySem.W.fnOf n q a b sc .none kV doc pm an cd ct), osl⟩) : kV = .ref (xA K f) := by
 unfold FP at h
 unfold xA
 rw [l] at h ⊢
 cases kV with
 | ref a => rfl
 | _ => cases h
theorem CY {a : Addr} {vs : List V} (h : v9 K a vs = true) : KT K a vs := by
 unfold v9 at h
 cases q : K.lookup a with
 | none =>
  rw [q] at h
  cases h
 | some o =>
  obtain ⟨oc, od, dt, osl⟩ := o
  rw [q] at h
  cases oc with
  | type c =>
   cases dt with
   | seq its n =>
    obtain ⟨h1, h2⟩ := bd (show (decide (c = "tuple") && (decide (its.size ≤ sizeLine) && He.relAll vs its.toList)) = true from h)
    obtain ⟨h3, h4⟩ := bd h2
    exact ⟨_, its, n, q, congrArg Value.type (of_decide_eq_true h1), rfl, of_decide_eq_true h3, He.relAll_ok h4⟩
   | _ => cases h
  | _ => cases dt <;> cases h
theorem Zg {d : D} {u : Value} (h : FQ K d u = true) : uo K (GP K) d u := by
 cases d with
 | str x => cases u with
  | str y t =>
   have e : y = x := of_decide_eq_true h
   exact ⟨t, by rw [e]⟩
  | _ => cases h
 | int i => cases u with
  | int j t =>
   have e : j = i := of_decide_eq_true h
   exact ⟨t, by rw [e]⟩
  | _ => cases h
 | bl b => cases u with
  | bool c =>
   have h1 : (b == c) = true := h
   rw [eq_of_beq h1]
   rfl
  | _ => cases h
 | non => cases u with
  | none => rfl
  | _ => cases h
 | tup ds => cases u with
  | ref a =>
   obtain ⟨h1, h2⟩ := bd (show (ds.all litOk && v9 K a (ds.map dV)) = true from h)
   exact ⟨a, rfl, h1, CY h2⟩
  | _ => cases h
 | fn x => cases u with
  | ref f =>
   obtain ⟨h1, h2⟩ := bd (show (He.eqO (PySem.W.nsIn K mainGlobals x) (some (some (.ref f))) && PySem.W.keepIn K (.ref f)) = true from h)
   exact ⟨f, rfl, He.eqO_ok h1, h2⟩
  | _ => cases h
 | _ => cases u <;> cases h
theorem NS : ∀ {es : List DictEntry} {tab : List (Str × D)}, BR K es tab = true → oE K (GP K) es tab
 | [], [], _ => .nil
 | [], _ :: _, h => by cases h
 | _ :: _, [], h => by cases h
 | e :: es, (k, d) :: tab, h => by
  obtain ⟨h1, h2⟩ := bd (show ((match e.key with
   | .str y _ => decide (y = k)
   | _ => false) && (FQ K d e.val && BR K es tab)) = true from h)
  obtain ⟨h3, h4⟩ := bd h2
  cases q : e.key with
  | str y t =>
   rw [q] at h1
   have ey : y = k := of_decide_eq_true h1
   exact .cons (q.trans (by rw [ey])) (Zg h3) (NS h4)
  | _ =>
   rw [q] at h1
   cases h1
theorem NT {w : World} {a : Addr} {tab : List (Str × D)} (h : BU K a tab = true) (D : ∃ es n, KDict K w a es n) : KTab K (GP K) w a tab := by
 obtain ⟨es, n, D⟩ := D
 unfold BU at h
 rw [D.at_] at h
 exact ⟨es, n, D, NS h⟩
theorem NU {C : Addr} {newId : String} {p : List Value → Bool} (h : xB K C newId p = true) : ∃ nm q N bs bm sn sub ab col dd k0 k1 k2 k3 k5, K.lookup C = some (excClassObj nm q C N bs bm true sn sub ab col dd k0 k1 k2 k3 k5 newId) ∧ p bm = true := by
 unfold xB at h
 split at h
 ·rename_i t dd cd sl ho
  obtain ⟨h0, h⟩ := bd h
  split at h
  ·rename_i C' bm k0 k1 k2 k3 n k5 hm hs
   obtain ⟨h1, h⟩ := bd h
   obtain ⟨h2, h⟩ := bd h
   obtain ⟨h3, h⟩ := bd h
   obtain ⟨h4, h5⟩ := bd h
   obtain ⟨nm, bs, mro, ns, qn, hd, sn, sb, ab, col, del⟩ := cd
   obtain ⟨sl⟩ := sl
   have e0 : t = "type" := of_decide_eq_true h0
   have e1 : C' = C := of_decide_eq_true h1
   have e2 : n = newId := of_decide_eq_true h2
   have e3 : hd = true := h3
   have e4 : del = false := by simpa using h4
   have e5 : mro = .ref C' :: bm := hm
   have e6 : sl = [k0, k1, k2, k3, some (.builtin n), k5] := hs
   subst e0 e1 e2 e3 e4 e5 e6
   exact ⟨nm, qn, ns, bs, bm, sn, sb, ab, col, dd, k0, k1, k2, k3, k5, ho, h5⟩
  ·cases h
 ·cases h
theorem CZ {a b : Option Value} (h : eqB a b = true) : a = b := of_decide_eq_true h
theorem oF {a b : Option Bool} (h : eqP a b = true) : a = b := of_decide_eq_true h
theorem NV {C : Addr} (h : zV K C = true) : PySem.W.findIn K (.ref C) "__setattr__" = some (some (.builtin "object.__setattr__")) ∧ PySem.W.subIn K (.ref C) (.type "BaseException") = some true ∧ PySem.W.typeIn K (.ref C) = some (.type "type") ∧ PySem.W.keepIn K (.ref C) = true := by
 obtain ⟨h1, h⟩ := bd h
 obtain ⟨h2, h⟩ := bd h
 obtain ⟨h3, h4⟩ := bd h
 exact ⟨He.eqO_ok h1, oF h2, CZ h3, h4⟩
end
/-- what NW an iterator walks -/
inductive Src where
 | lst (a : Addr) | tup (a : Addr) | txt (z : Str)
def Src.val : Src → V
 | .lst a => .ref a | .tup a => .ref a | .txt z => .str z
def Src.ext : Src → List Addr
 | .lst a => [a] | .tup a => [a] | .txt _ => []
def Src.at (K : PySem.W.Frag) (c : Src) (H : Hp) (xs : List V) : Prop := match c with
 | .lst a => SqL K H a xs
 | .tup a => SqT K H a xs
 | .txt z => xs = z.cps.toList.map fun c => V.str ⟨#[c]⟩
def Src.it (c : Src) (h : Heap) (it : Addr) (i : Nat) : Prop := match c with
 | .lst a => h.IsListIter it a i
 | .tup a => h.IsTupleIter it a i
 | .txt z => ∃ t, h.IsStrIter it (strIterType z) z t i
section
variable {X : Cx} {pins : List (Addr × Obj)} {σ : L2.St} {H : Hp} {s : Shared} {it : Addr} {i : Nat} {xs ys : List V} {c : Src}
theorem GW : ∀ {vs : List V} {us : List Value} {i : Nat} {u : Value}, Vals vs us → us[i]? = some u → ∃ v, vs[i]? = some v ∧ RelV v u
 | _, _, 0, _, .cons h _, e => by simp at e; subst e; exact ⟨_, rfl, h⟩
 | _, _, i + 1, _, .cons _ t, e => by
  obtain ⟨v, h1, h2⟩ := GW (i := i) t (by simpa using e)
  exact ⟨v, by simpa using h1, h2⟩
 | _, _, _, _, .nil, e => by simp at e
theorem Src.obj {h : Heap} (st : c.it h it i) : ∃ o, h.get? it = some o ∧ ∀ v, o.data ≠ .cell v := by
 cases c with
 | lst a => obtain ⟨o, e, _, d⟩ := st; exact ⟨o, e, fun v q => by rw [d] at q; cases q⟩
 | tup a => obtain ⟨o, e, _, d⟩ := st; exact ⟨o, e, fun v q => by rw [d] at q; cases q⟩
 | txt z => obtain ⟨t, o, e, _, d⟩ := st; exact ⟨o, e, fun v q => by rw [d] at q; cases q⟩
theorem Src.carry {h h' : Heap} (st : c.it h it i) (k : ∀ o, h.get? it = some o → h'.get? it = some o) : c.it h' it i := by
 cases c with
 | lst a => exact st.at k
 | tup a => exact st.at k
 | txt z => obtain ⟨t, o, e, q⟩ := st; exact ⟨t, o, k o e, q⟩
theorem Src.inj (I : Inv X pins σ H s) (h1 : c.at X.K H xs) (h2 : c.at X.K H ys) : xs = ys := by
 cases c with
 | lst a => exact I.list_inj h1 h2
 | tup a => exact I.tuple_inj h1 h2
 | txt z => exact h1.trans h2.symm
theorem Src.low (I : Inv X pins σ H s) (h : c.at X.K H xs) : ∀ b ∈ c.ext, b < s.heap.objs.size := by
 cases c with
 | lst a =>
  obtain ⟨its, r, p, _⟩ := I.list h
  intro b hb
  rw [List.mem_singleton.mp hb]; exact p.lt
 | tup a =>
  obtain ⟨its, r, p, _⟩ := I.tuple h
  obtain ⟨o, ho, _⟩ := id p
  intro b hb
  rw [List.mem_singleton.mp hb]; exact Heap.lt_size ho
 | txt z => exact fun b hb => nomatch hb
theorem Src.draws (I : Inv X pins σ H s) (hh : X.A.handled = none) (q : c.at X.K H xs) (st : c.it s.heap it i) (hn : it ∉ c.ext) :
  ∃ PP St, Draws X.prog X.w X.A.in1 it (it :: c.ext) xs.length PP St ∧ St i s.heap ∧ (∀ j y, PP j y → ∃ x, xs[j]? = some x ∧ RelV x y) ∧ (∀ j h, St j h → c.it h it j) := by
 cases c with
 | lst a =>
  obtain ⟨its, r, p, _⟩ := I.list q
  have D := Draws.list (prog := X.prog) (w := X.w) (A := X.A.in1) hh it a (fun e => hn (by rw [← e]; exact List.mem_singleton.mpr rfl)) its.toArray
  rw [List.size_toArray, ← r.length] at D
  refine ⟨_, _, D, ⟨st, p.isList⟩, fun j y e => ?_, fun j h e => e.1⟩
  have e' : its[j]? = some y := by simpa using e
  obtain ⟨x, hx, rx⟩ := GW r e'
  exact ⟨x, hx, rx⟩
 | tup a =>
  obtain ⟨its, r, p, _⟩ := I.tuple q
  have D := Draws.tuple (prog := X.prog) (w := X.w) (A := X.A.in1) hh it a (fun e => hn (by rw [← e]; exact List.mem_singleton.mpr rfl)) its.toArray
  rw [List.size_toArray, ← r.length] at D
  refine ⟨_, _, D, ⟨st, p⟩, fun j y e => ?_, fun j h e => e.1⟩
  have e' : its[j]? = some y := by simpa using e
  obtain ⟨x, hx, rx⟩ := GW r e'
  exact ⟨x, hx, rx⟩
 | txt z =>
  obtain ⟨t, st⟩ := st
  have q' : xs = z.cps.toList.map fun c => V.str ⟨#[c]⟩ := q
  subst q'
  have D := Draws.text (prog := X.prog) (w := X.w) (A := X.A.in1) hh it z t
  rw [show z.cps.size = (z.cps.toList.map fun c => V.str ⟨#[c]⟩).length by rw [List.length_map, Array.length_toList]] at D
  refine ⟨_, _, D, st, fun j y e => ?_, fun j h e => ⟨t, e⟩⟩
  obtain ⟨c, u, e1, rfl⟩ := e
  refine ⟨.str ⟨#[c]⟩, ?_, u, rfl⟩
  rw [List.getElem?_map, Array.getElem?_toList, e1]; rfl
theorem Src.begins (I : Inv X pins σ H s) (q : c.at X.K H xs) {u : Value} (r : RelV c.val u) : ∃ o HH, Begins u o HH ∧ HH s.heap ∧ ∀ h b, h.get? b = some o → c.it h b 0 := by
 cases c with
 | lst a =>
  obtain ⟨its, r', p, _⟩ := I.list q
  cases r
  exact ⟨_, _, begins_list a its.toArray, p.isList, fun h b e => ⟨_, e, rfl, rfl⟩⟩
 | tup a =>
  obtain ⟨its, r', p, _⟩ := I.tuple q
  cases r
  exact ⟨_, _, begins_tuple a its.toArray, p, fun h b e => ⟨_, e, rfl, rfl⟩⟩
 | txt z =>
  obtain ⟨t, rfl⟩ := r
  exact ⟨_, _, begins_text z t, trivial, fun h b e => ⟨t, _, e, rfl, rfl⟩⟩
end
/-- zip over two sources -/
def GZ (K : PySem.W.Frag) (c d : Src) : It :=
 ⟨fun i H => ∃ (xs ys : List V) (x y : V), c.at K H xs ∧ d.at K H ys ∧ xs[i]? = some x ∧ ys[i]? = some y,
  fun i H v H' => ∃ T x y, v = .ref T ∧ H T = none ∧ H' = upd H T (.tup [x, y]) ∧ (∀ xs, c.at K H xs → xs[i]? = some x) ∧ ∀ ys, d.at K H ys → ys[i]? = some y,
  fun i H => ∃ xs ys : List V, c.at K H xs ∧ d.at K H ys ∧ min xs.length ys.length = i⟩
theorem Zh {P : Program} {w : World} {K : PySem.W.Frag} {elts : List Expr} {kk : Nat} {tpos : Pos} {c d : Src} {z TI TO i1 i2 : Addr} (D : ZipSep2 z TI TO i1 i2 (i1 :: c.ext) (i2 :: d.ext)) (n1 : i1 ∉ c.ext) (n2 : i2 ∉ d.ext) :
  Turn P w K (.Tuple elts kk tpos) (GZ K c d) [z, TI, TO, i1, i2] z (fun i h => IsZip h z TI TO .none ∧ IsTupOf2 h TI (.ref i1) (.ref i2) ∧ (∃ x y, IsTupOf2 h TO x y) ∧ c.it h i1 i ∧ d.it h i2 i) where
 mem := by simp
 obj := fun i h st b hb => by
  obtain ⟨hz, hTI, ⟨x, y, hTO⟩, h1, h2⟩ := st
  have e' : b = z ∨ b = TI ∨ b = TO ∨ b = i1 ∨ b = i2 := by simpa using hb
  rcases e' with q | q | q | q | q
  ·rw [q]; exact ⟨_, hz, fun v q => nomatch q⟩
  ·rw [q]; exact ⟨_, hTI, fun v q => nomatch q⟩
  ·rw [q]; exact ⟨_, hTO, fun v q => nomatch q⟩
  ·rw [q]; exact Src.obj h1
  ·rw [q]; exact Src.obj h2
 keep := fun i h h' st k => by
  obtain ⟨hz, hTI, ⟨x, y, hTO⟩, h1, h2⟩ := st
  exact ⟨k z (by simp) _ hz, k TI (by simp) _ hTI, ⟨x, y, k TO (by simp) _ hTO⟩, Src.carry h1 fun o q => k i1 (by simp) o q, Src.carry h2 fun o q => k i2 (by simp) o q⟩
 item := by
  intro X hP hw hK hc i pins s σ H E I hf st hg
  subst hP hw hK
  obtain ⟨hz, hTI, ⟨x0, y0, hTO⟩, h1, h2⟩ := st
  obtain ⟨xs, ys, x, y, hqx, hqy, hx, hy⟩ := hg
  have hh : X.A.handled = none := I.ok.hd hc
  obtain ⟨P1, S1, D1, st1, p1, k1⟩ := Src.draws I hh hqx h1 n1
  obtain ⟨P2, S2, D2, st2, p2, k2⟩ := Src.draws I hh hqy h2 n2
  have hzl : z < s.heap.objs.size := Heap.lt_size hz
  refine wpAny_pyNext_zipD2_item D D1 D2 hz hTI hTO st1 st2 (List.getElem?_eq_some_iff.mp hx).1 (List.getElem?_eq_some_iff.mp hy).1 fun u u2 h' tk y1 y2 z' TO' s1 s2 hT hsz hk => ?_
  obtain ⟨x', ex, ru⟩ := p1 i u y1
  obtain ⟨y', ey, ru2⟩ := p2 i u2 y2
  rw [hx] at ex; cases ex
  rw [hy] at ey; cases ey
  refine ⟨_, rfl, wpAny_letOwnedTupleGo_zip (s := { s with heap := h', toks := tk }) z' fun h'' z'' sb => ?_⟩
  have hT2 : h''.get? s.heap.objs.size = some { cls := .type "tuple", data := .seq #[u, u2] } := (sb.2 _ (Nat.ne_of_gt hzl)).trans hT
  have new : ObjOk X.prog X.w (upd H s.heap.objs.size (.tup [x, y])) h'' s.heap.objs.size (.tup [x, y]) :=
   ⟨by show 2 ≤ sizeLine; decide, [u, u2], .cons ru (.cons ru2 .nil), ⟨_, hT2, rfl, _, rfl⟩⟩
  have I1 : Inv X pins σ (upd H s.heap.objs.size (.tup [x, y])) { s with heap := h'', toks := tk } :=
   I.turnedNew (t' := tk) (ch := [z, TI, TO, i1, i2]) (fun c o hb q => (sb.2 c (fun q' => hb (by simp [q']))).trans (hk c o (fun q' => hb (by simp [q'])) (fun q' => hb (by simp [q'])) (fun q' => hb (by simp [q'])) (fun q' => hb (by simp [q'])) q)) hf (Nat.le_refl _) new
  refine ⟨.ref s.heap.objs.size, _, I1, rfl, ⟨_, x, y, rfl, I.hok.fresh (Nat.le_refl _), rfl, fun l hl => by rw [Src.inj I hl hqx]; exact hx, fun l hl => by rw [Src.inj I hl hqy]; exact hy⟩, ⟨z'', ?_, ⟨u, u2, ?_⟩, ?_, ?_⟩, fun b hcm => ?_⟩
  ·exact (sb.2 _ D.TIz).trans (hk _ _ D.TIz D.TITO D.TIi1 D.TIi2 hTI)
  ·exact (sb.2 _ D.TOz).trans TO'
  ·exact Src.carry (k1 _ _ s1) fun o q => (sb.2 _ (Ne.symm D.zi1)).trans q
  ·exact Src.carry (k2 _ _ s2) fun o q => (sb.2 _ (Ne.symm D.zi2)).trans q
  ·have hlt : b < s.heap.objs.size := by
    have e' : b = z ∨ b = TI ∨ b = TO ∨ b = i1 ∨ b = i2 := by simpa using hcm
    rcases e' with q | q | q | q | q
    ·rw [q]; exact hzl
    ·rw [q]; exact Heap.lt_size hTI
    ·rw [q]; exact Heap.lt_size hTO
    ·rw [q]; obtain ⟨_, e1, _⟩ := Src.obj h1; exact Heap.lt_size e1
    ·rw [q]; obtain ⟨_, e2, _⟩ := Src.obj h2; exact Heap.lt_size e2
   rw [upd_ne (Nat.ne_of_lt hlt)]
   exact (hf b hcm).1
 done := by
  intro X hP hw hK hc i pins s σ H E I hf st hg
  subst hP hw hK
  obtain ⟨hz, hTI, ⟨x0, y0, hTO⟩, h1, h2⟩ := st
  obtain ⟨xs, ys, hqx, hqy, hend⟩ := hg
  have hh : X.A.handled = none := I.ok.hd hc
  obtain ⟨P1, S1, D1, st1, p1, k1⟩ := Src.draws I hh hqx h1 n1
  obtain ⟨P2, S2, D2, st2, p2, k2⟩ := Src.draws I hh hqy h2 n2
  exact wpAny_pyNext_zipD2_end D D1 D2 hz hTI hTO st1 st2 (by omega) (by omega) (by omega) fun h' tk hk => ⟨rfl, I.turnedL (t' := tk) (ch := [z, TI, TO, i1, i2]) (fun c o hb q =>
   hk c o (fun q' => hb (by simp [q'])) (fun q' => hb (by simp [q'])) (fun q' => hb (by simp [q'])) (fun q' => hb (by simp [q'])) q) hf⟩
 self := fun A i s Q E st h => wpAny_pyIter_zip st.1 h
/-- enumerate over a source -/
def Hf (K : PySem.W.Frag) (c : Src) : It :=
 ⟨fun i H => ∃ (xs : List V) (x : V), c.at K H xs ∧ xs[i]? = some x,
  fun i H v H' => ∃ T x, v = .ref T ∧ H T = none ∧ H' = upd H T (.tup [.int (i : Int), x]) ∧ ∀ xs, c.at K H xs → xs[i]? = some x,
  fun i H => ∃ xs : List V, c.at K H xs ∧ xs.length = i⟩
theorem Zi {P : Program} {w : World} {K : PySem.W.Frag} {elts : List Expr} {kk : Nat} {tpos : Pos} {c : Src} {e it : Addr} (hne : e ≠ it) (hef : e ∉ it :: c.ext) (n1 : it ∉ c.ext) :
  Turn P w K (.Tuple elts kk tpos) (Hf K c) [e, it] e (fun i h => (∃ old, IsEnum h e it ((i : Nat) : Int) old) ∧ c.it h it i) where
 mem := by simp
 obj := fun i h st b hb => by
  obtain ⟨⟨old, he⟩, h1⟩ := st
  have e' : b = e ∨ b = it := by simpa using hb
  rcases e' with q | q
  ·rw [q]; exact ⟨_, he, fun v q => nomatch q⟩
  ·rw [q]; exact Src.obj h1
 keep := fun i h h' st k => by
  obtain ⟨⟨old, he⟩, h1⟩ := st
  exact ⟨⟨old, k e (by simp) _ he⟩, Src.carry h1 fun o q => k it (by simp) o q⟩
 item := by
  intro X hP hw hK hc i pins s σ H E I hf st hg
  subst hP hw hK
  obtain ⟨⟨old, he⟩, h1⟩ := st
  obtain ⟨xs, x, hqx, hx⟩ := hg
  have hh : X.A.handled = none := I.ok.hd hc
  obtain ⟨P1, S1, D1, st1, p1, k1⟩ := Src.draws I hh hqx h1 n1
  have hel : e < s.heap.objs.size := Heap.lt_size he
  refine wpAny_pyNext_enum_itemC D1 he st1 (List.getElem?_eq_some_iff.mp hx).1 hne hef fun u h' tk y1 ho s1 hT hsz hk => ?_
  obtain ⟨x', ex, ru⟩ := p1 i u y1
  rw [hx] at ex; cases ex
  refine ⟨_, rfl, wpAny_letOwnedTupleGo_enum (prog := X.prog) (w := X.w) (s := { s with heap := h', toks := tk + 1 }) ho fun h'' Zj sb => ?_⟩
  have hT2 : h''.get? s.heap.objs.size = some { cls := .type "tuple", data := .seq #[.int (i : Int) tk, u] } := (sb.2 _ (Nat.ne_of_gt hel)).trans hT
  have new : ObjOk X.prog X.w (upd H s.heap.objs.size (.tup [.int (i : Int), x])) h'' s.heap.objs.size (.tup [.int (i : Int), x]) :=
   ⟨by show 2 ≤ sizeLine; decide, [.int (i : Int) tk, u], .cons ⟨_, rfl⟩ (.cons ru .nil), ⟨_, hT2, rfl, _, rfl⟩⟩
  have I1 : Inv X pins σ (upd H s.heap.objs.size (.tup [.int (i : Int), x])) { s with heap := h'', toks := tk + 1 } :=
   I.turnedNew (t' := tk + 1) (ch := [e, it]) (fun c o hb q => (sb.2 c (fun q' => hb (by simp [q']))).trans (hk c o (fun q' => hb (by simp [q'])) (fun q' => hb (by simp [q'])) q)) hf (Nat.le_refl _) new
  refine ⟨.ref s.heap.objs.size, _, I1, rfl, ⟨_, x, rfl, I.hok.fresh (Nat.le_refl _), rfl, fun l hl => by rw [Src.inj I hl hqx]; exact hx⟩, ⟨⟨u, ?_⟩, ?_⟩, fun b hcm => ?_⟩
  ·have e1 : ((i + 1 : Nat) : Int) = (i : Int) + 1 := by omega
   rw [e1]; exact Zj
  ·exact Src.carry (k1 _ _ s1) fun o q => (sb.2 _ (Ne.symm hne)).trans q
  ·have hlt : b < s.heap.objs.size := by
    have e' : b = e ∨ b = it := by simpa using hcm
    rcases e' with q | q
    ·rw [q]; exact hel
    ·rw [q]; obtain ⟨_, e1, _⟩ := Src.obj h1; exact Heap.lt_size e1
   rw [upd_ne (Nat.ne_of_lt hlt)]
   exact (hf b hcm).1
 done := by
  intro X hP hw hK hc i pins s σ H E I hf st hg
  subst hP hw hK
  obtain ⟨⟨old, he⟩, h1⟩ := st
  obtain ⟨xs, hqx, hend⟩ := hg
  have hh : X.A.handled = none := I.ok.hd hc
  obtain ⟨P1, S1, D1, st1, p1, k1⟩ := Src.draws I hh hqx h1 n1
  subst hend
  exact wpAny_pyNext_enum_endD D1 he st1 fun h' hx => ⟨rfl, I.turnedL (t' := s.toks) (ch := [e, it]) (fun b o hb y => hx b o (fun e' => hb (by simp [e'])) y) hf⟩
 self := fun A i s Q E st h => by
  obtain ⟨⟨old, he⟩, _⟩ := st
  exact wpAny_pyIter_enum he h
def Zk (K : PySem.W.Frag) (ta : TA) : TI := fun σ H R => ta σ H fun vs H1 => ∃ c d xs ys, vs = [Src.val c, Src.val d] ∧ Src.at K c H1 xs ∧ Src.at K d H1 ys ∧ R (GZ K c d) H1
def Zm (K : PySem.W.Frag) (ta : TA) : TI := fun σ H R => ta σ H fun vs H1 => ∃ c xs, vs = [Src.val c] ∧ Src.at K c H1 xs ∧ R (Hf K c) H1
theorem D4 {N : Nat} {l : List Addr} (h : ∀ b ∈ l, b < N) {j : Nat} : (N + j : Nat) ∉ l := fun m => absurd (h _ m) (by
 intro z
 have z' : (N + j : Nat) < N := z
 omega)
theorem Zo {X : Cx} {e e2 : Expr} {ta : TA} {p pos tpos : Pos} {elts : List Expr} {kk : Nat} (hg : Gl X "zip") (hm : X.mg "zip" = none) (ha : PA X [e, e2] ta)
  (hs : starEach [e, e2] X.env = (false, eval e X.env) :: starEach [e2] X.env := by rfl) (hpl : (backTo pos (starEach [e2] X.env)).any (·.1) = false := by rfl) :
  PI X (.Tuple elts kk tpos) (.Call (.Name "zip" p) [e, e2] [] pos) (Zk X.K ta) := by
 refine ⟨fun pins s σ H R I h => ?_⟩
 refine Call_ (ld_blt I hg hm PyProof.Rows.boot_zip (PyProof.Rows.callWith_type1 (thn (ha.run pos pins s σ H _ I h) fun us s1 ⟨vs, H1, I1, r1, q1⟩ => ?_) hs hpl))
 obtain ⟨c, d, xs, ys, ex, hqx, hqy, q⟩ := q1
 subst ex
 cases r1 with
 | @cons _ u _ us r rr =>
  cases rr with
  | @cons _ u2 _ us2 r' rr =>
   cases rr
   obtain ⟨o1, Zq, B1, b1, k1⟩ := Src.begins I1 hqx r
   obtain ⟨o2, HH2, B2, b2, k2⟩ := Src.begins I1 hqy r'
   have Ay := Src.low I1 hqx
   have NY := Src.low I1 hqy
   refine zip_begins2 B1 B2 b1 b2 fun h' hz hTI hTO h1 h2 hsz hk => wpAny_pyIter_zip hz ?_
   have I2 : Inv X pins σ H1 { s1 with heap := h' } := I1.kept (t' := s1.toks) hk
   refine ⟨s1.heap.objs.size + 4, [s1.heap.objs.size + 4, s1.heap.objs.size + 2, s1.heap.objs.size + 3, s1.heap.objs.size, s1.heap.objs.size + 1], _, _, H1, rfl, I2, Zh (c := c) (d := d) (zip_sep2 Ay NY) (D4 Ay (j := 0)) (D4 NY (j := 1)), ⟨hz, hTI, ⟨_, _, hTO⟩, k1 _ _ h1, k2 _ _ h2⟩, fun c hcm => ?_, q⟩
   have e' : c = s1.heap.objs.size + 4 ∨ c = s1.heap.objs.size + 2 ∨ c = s1.heap.objs.size + 3 ∨ c = s1.heap.objs.size ∨ c = s1.heap.objs.size + 1 := by simpa using hcm
   have hle : s1.heap.objs.size ≤ c := by
    rcases e' with z | z | z | z | z
    ·rw [z]; exact Nat.le_add_right _ _
    ·rw [z]; exact Nat.le_add_right _ _
    ·rw [z]; exact Nat.le_add_right _ _
    ·rw [z]; exact Nat.le_refl _
    ·rw [z]; exact Nat.le_add_right _ _
   exact I1.fpOk hle (I1.hok.fresh hle)
theorem Zr {v : Value} {o : Obj} {H : Heap → Prop} (B : Begins v o H) :
  Meets (Builtin.«enumerate.__new__» ⟨[.type "enumerate", v], []⟩) (fun _ R s => H s.heap ∧
   R (.ok (.ret (.ref (s.heap.push o).objs.size))) { s with heap := (s.heap.push o).push { cls := .type "enumerate", data := .fields #[.none, .bool false, .ref s.heap.objs.size, rawInt 0, .none, .none] } }) :=
 .of_wp fun prog w A R s h => by
  obtain ⟨hp, g, d, tk, os⟩ := s; obtain ⟨h1, h⟩ := h
  have hsub := sub_enumerate
  have q1 : ∀ {A' : Around} {E : Value → Shared → Prop} {Q : Value → Shared → Prop}, Q (.ref hp.objs.size) ⟨hp.push o, g, d, tk, os⟩ → wpAny (model prog w) A' (pyIter v) Q E ⟨hp, g, d, tk, os⟩ :=
   fun q => B.iter prog w _ _ ⟨hp, g, d, tk, os⟩ _ h1 q
  wp_walk using q1
  refine wpAny_stack_any fun st => wpAny_pure ?_
  split
  ·rename_i c _ _ _ _ _
   cases (c == Value.type "enumerate")
   ·wp_walk using q1
    exact ⟨_, rfl, h⟩
   ·wp_walk using q1
    exact ⟨_, rfl, h⟩
  ·wp_walk using q1
   exact ⟨_, rfl, h⟩
theorem Zt {prog : Program} {w : World} {A : Around} {E : Value → Shared → Prop} {s : Shared} {v : Value} {o : Obj} {H : Heap → Prop} {Q : Value → Shared → Prop} (B : Begins v o H) (h1 : H s.heap)
  (h : ∀ h', IsEnum h' (s.heap.objs.size + 1) s.heap.objs.size 0 .none → h'.get? s.heap.objs.size = some o → h'.objs.size = s.heap.objs.size + 2 →
   (∀ b o, s.heap.get? b = some o → h'.get? b = some o) → Q (.ref (s.heap.objs.size + 1)) { s with heap := h' }) :
  wpAny (model prog w) A (call (.type "enumerate") [v]) Q E s := by
 refine callType_new F.called_enumerate (by decide) (F.typeCall_enumerate_1 _) (F.newCall_enumerate_1 _) (fun obj => F.args_object_init_2 obj _) F.entry_enumerate_new
  (Zr B) ⟨h1, ?_⟩
 have hz : (s.heap.push o).objs.size = s.heap.objs.size + 1 := Heap.size_push ..
 show _ ∧ _
 rw [hz]
 have he : IsEnum ((s.heap.push o).push { cls := .type "enumerate", data := .fields #[.none, .bool false, .ref s.heap.objs.size, rawInt 0, .none, .none] }) (s.heap.objs.size + 1) s.heap.objs.size 0 .none := by
  have := Heap.get?_push_size (s.heap.push o) (o := { cls := .type "enumerate", data := .fields #[.none, .bool false, .ref s.heap.objs.size, rawInt 0, .none, .none] }) rfl
  rw [hz] at this
  exact this
 exact ⟨⟨_, he, rfl⟩, h _ he (Heap.get?_push_of_some _ (Heap.get?_push_size _ B.free)) (by rw [Heap.size_push, hz]) fun b o x => Heap.get?_push_of_some _ (Heap.get?_push_of_some _ x)⟩
theorem Zu {X : Cx} {e : Expr} {ta : TA} {p pos tpos : Pos} {elts : List Expr} {kk : Nat} (hg : Gl X "enumerate") (hm : X.mg "enumerate" = none) (ha : PA X [e] ta) (hs : starEach [e] X.env = [(false, eval e X.env)] := by rfl) :
  PI X (.Tuple elts kk tpos) (.Call (.Name "enumerate" p) [e] [] pos) (Zm X.K ta) := by
 refine ⟨fun pins s σ H R I h => ?_⟩
 refine Call_ (ld_blt I hg hm PyProof.Rows.boot_enumerate (PyProof.Rows.callWith_type1 (thn (ha.run pos pins s σ H _ I h) fun us s1 ⟨vs, H1, I1, r1, q1⟩ => ?_) (by rw [hs]; rfl) (by rfl)))
 obtain ⟨c, xs, ex, hqx, q⟩ := q1
 subst ex
 cases r1 with
 | @cons _ u _ us r rr =>
  cases rr
  obtain ⟨o1, Zq, B1, b1, k1⟩ := Src.begins I1 hqx r
  have Ay := Src.low I1 hqx
  refine Zt B1 b1 fun h' he hit hsz hk => wpAny_pyIter_enum he ?_
  have I2 : Inv X pins σ H1 { s1 with heap := h' } := I1.kept (t' := s1.toks) hk
  refine ⟨s1.heap.objs.size + 1, [s1.heap.objs.size + 1, s1.heap.objs.size], _, _, H1, rfl, I2, Zi (c := c) (Nat.succ_ne_self _) (fun m => ?_) (D4 Ay (j := 0)), ⟨⟨.none, he⟩, k1 _ _ hit⟩, fun b hb => ?_, q⟩
  ·rcases List.mem_cons.mp m with e | e
   ·exact absurd e (Nat.succ_ne_self _)
   ·exact D4 Ay (j := 1) e
  have e' : b = s1.heap.objs.size + 1 ∨ b = s1.heap.objs.size := by simpa using hb
  have hle : s1.heap.objs.size ≤ b := by
   rcases e' with z | z
   ·rw [z]; exact Nat.le_add_right _ _
   ·rw [z]; exact Nat.le_refl _
  exact I1.fpOk hle (I1.hok.fresh hle)
/-- what zip and enumerate walk here: no dict -/
def D5 (d : D) : Option (List D) := match d with
 | .lst xs => some xs
 | .tup xs => some xs
 | .str x => some (mJ x)
 | _ => none
def vZ (ds : List D) : Option (List D) := match ds with
 | [x, y] => match D5 x, D5 y with
  | some xs, some ys => some ((xs.zip ys).map fun p => .tup [p.1, p.2])
  | _, _ => none
 | _ => none
def lH (xs : List D) : List D := xs.zipIdx.map fun p => .tup [.int (p.2 : Int), p.1]
def rO (ds : List D) : Option (List D) := match ds with
 | [x] => match D5 x with
  | some xs => some (lH xs)
  | none => none
 | _ => none
section
variable {C : Ct} {H : Hp} {P : Addr → Prop} {β : List Addr}
theorem Hg {v : V} {d : D} {ds : List D} (r : RV C H P β v d) (e : D5 d = some ds) : ∃ c : Src, v = c.val ∧ ∀ H2 P2 β2, Fx H P β H2 P2 β2 → ∃ xs, Src.at C.K c H2 xs ∧ aA C H2 P2 β2 xs ds := by
 cases r with
 | @lst a xs _ hp hb hr rs =>
  cases e
  exact ⟨.lst a, rfl, fun H2 P2 β2 f => ⟨xs, .inl (f.con _ _ hp hb hr).1, rs.fx f⟩⟩
 | @fK a xs _ k rs =>
  cases e
  exact ⟨.lst a, rfl, fun H2 P2 β2 f => ⟨xs, .inr k, rs.fx f⟩⟩
 | @tup a xs _ hr rs =>
  cases e
  exact ⟨.tup a, rfl, fun H2 P2 β2 f => ⟨xs, .inl (f.tups _ _ hr), rs.fx f⟩⟩
 | @eV a xs _ k rs =>
  cases e
  exact ⟨.tup a, rfl, fun H2 P2 β2 f => ⟨xs, .inr k, rs.fx f⟩⟩
 | str z =>
  cases e
  refine ⟨.txt z, rfl, fun H2 P2 β2 f => ⟨_, rfl, ?_⟩⟩
  unfold mJ
  induction z.cps.toList with
  | nil => exact .nil
  | cons c l ih => exact .cons (.str _) ih
 | non => cases e
 | bl b => cases e
 | int i => cases e
 | ty n => cases e
 | dct _ _ _ _ => cases e
 | ref _ => cases e
 | fn _ _ => cases e
theorem Zv {v v2 : V} {d d2 : D} {ds Hh : List D} {c c2 : Src} (h1 : ∀ H2 P2 β2, Fx H P β H2 P2 β2 → ∃ xs, Src.at C.K c H2 xs ∧ aA C H2 P2 β2 xs ds) (h2 : ∀ H2 P2 β2, Fx H P β H2 P2 β2 → ∃ xs, Src.at C.K c2 H2 xs ∧ aA C H2 P2 β2 xs Hh) :
  lu C (GZ C.K c c2) ((ds.zip Hh).map fun p => .tup [p.1, p.2]) H P β := by
 intro i H2 P2 β2 f n
 obtain ⟨xs, a1, r1⟩ := h1 H2 P2 β2 f
 obtain ⟨ys, a2, r2⟩ := h2 H2 P2 β2 f
 refine ⟨fun d hd => ?_, fun hl => ⟨xs, ys, a1, a2, ?_⟩⟩
 ·rw [List.getElem?_map] at hd
  cases ez : (ds.zip Hh)[i]? with
  | none => rw [ez] at hd; cases hd
  | some p =>
   rw [ez] at hd
   cases hd
   obtain ⟨e1, e2⟩ := List.getElem?_zip_eq_some.mp ez
   obtain ⟨x, hx, rx⟩ := r1.get e1
   obtain ⟨y, hy, ry⟩ := r2.get e2
   refine ⟨⟨xs, ys, x, y, a1, a2, hx, hy⟩, fun u H3 yy => ?_⟩
   obtain ⟨T, x', y', rfl, hT, rfl, q1, q2⟩ := yy
   have e3 := q1 xs a1
   have e4 := q2 ys a2
   rw [hx] at e3; cases e3
   rw [hy] at e4; cases e4
   have sm : Same H2 (upd H2 T (.tup [x, y])) := g8 hT
   exact ⟨sm, .tup (.inl upd_same) (.cons (rx.mono (Ext.same sm)) (.cons (ry.mono (Ext.same sm)) .nil))⟩
 ·rw [r1.length, r2.length, ← hl]
  simp
theorem Zw {ds : List D} {c : Src} (h1 : ∀ H2 P2 β2, Fx H P β H2 P2 β2 → ∃ xs, Src.at C.K c H2 xs ∧ aA C H2 P2 β2 xs ds) : lu C (Hf C.K c) (lH ds) H P β := by
 intro i H2 P2 β2 f n
 obtain ⟨xs, a1, r1⟩ := h1 H2 P2 β2 f
 unfold lH
 refine ⟨fun d hd => ?_, fun hl => ⟨xs, a1, ?_⟩⟩
 ·rw [List.getElem?_map, List.getElem?_zipIdx] at hd
  cases ez : ds[i]? with
  | none => rw [ez] at hd; cases hd
  | some p =>
   rw [ez] at hd
   simp only [Option.map_some, Nat.zero_add, Option.some.injEq] at hd
   subst hd
   obtain ⟨x, hx, rx⟩ := r1.get ez
   refine ⟨⟨xs, x, a1, hx⟩, fun u H3 yy => ?_⟩
   obtain ⟨T, x', rfl, hT, rfl, q1⟩ := yy
   have e3 := q1 xs a1
   rw [hx] at e3; cases e3
   have sm : Same H2 (upd H2 T (.tup [.int (i : Int), x])) := g8 hT
   exact ⟨sm, .tup (.inl upd_same) (.cons (.int _) (.cons (rx.mono (Ext.same sm)) .nil))⟩
 ·rw [r1.length, ← hl]
  simp
end
section
variable {X : Cx} {W : WX} {b : Bool}
theorem NZ {e e2 : Expr} {dR : AX} {p pos tpos : Pos} {elts : List Expr} {kk : Nat} (hm : X.mg "zip" = none) (ha : j6 (aj X) W b X [e, e2] dR) (hg : Gl X "zip" := by rfl)
  (hs : starEach [e, e2] X.env = (false, eval e X.env) :: starEach [e2] X.env := by rfl) (hpl : (backTo pos (starEach [e2] X.env)).any (·.1) = false := by rfl) :
  pU (aj X) W b X (.Tuple elts kk tpos) (.Call (.Name "zip" p) [e, e2] [] pos) (jR vZ dR) :=
 vC (Zo hg hm ha hs hpl) fun σ H Q h => by
  obtain ⟨cf, oa, P, β, ρ, S, L, h⟩ := h
  refine ⟨cf, oa, P, β, ρ, S, L, ?_⟩
  unfold jR at h
  cases ea : dR ρ S with
  | stuck => rw [ea] at h; exact h
  | exc e S1 => rw [ea] at h; exact h
  | ok ds S1 =>
   rw [ea] at h
   simp only [R.bind] at h
   intro vs H1 β1 t L1 rs
   cases ez : vZ ds with
   | none => rw [ez] at h; exact h.elim
   | some zs =>
    rw [ez] at h
    unfold vZ at ez
    split at ez
    ·rename_i x y
     obtain ⟨v, v2, rfl, r1, r2⟩ := vP rs
     split at ez
     ·rename_i xs ys e1 e2
      cases ez
      obtain ⟨c, rfl, k1⟩ := Hg r1 e1
      obtain ⟨c2, rfl, k2⟩ := Hg r2 e2
      obtain ⟨us, a1, _⟩ := k1 H1 P β1 Fx.refl
      obtain ⟨us2, a2, _⟩ := k2 H1 P β1 Fx.refl
      exact ⟨c, c2, us, us2, rfl, a1, a2, h _ H1 β1 t L1 (Zv (v := c.val) (v2 := c2.val) (d := x) (d2 := y) k1 k2)⟩
     ·cases ez
    ·cases ez
theorem Hi {e : Expr} {dR : AX} {p pos tpos : Pos} {elts : List Expr} {kk : Nat} (hm : X.mg "enumerate" = none) (ha : j6 (aj X) W b X [e] dR) (hg : Gl X "enumerate" := by rfl)
  (hs : starEach [e] X.env = [(false, eval e X.env)] := by rfl) :
  pU (aj X) W b X (.Tuple elts kk tpos) (.Call (.Name "enumerate" p) [e] [] pos) (jR rO dR) :=
 vC (Zu hg hm ha hs) fun σ H Q h => by
  obtain ⟨cf, oa, P, β, ρ, S, L, h⟩ := h
  refine ⟨cf, oa, P, β, ρ, S, L, ?_⟩
  unfold jR at h
  cases ea : dR ρ S with
  | stuck => rw [ea] at h; exact h
  | exc e S1 => rw [ea] at h; exact h
  | ok ds S1 =>
   rw [ea] at h
   simp only [R.bind] at h
   intro vs H1 β1 t L1 rs
   cases ez : rO ds with
   | none => rw [ez] at h; exact h.elim
   | some zs =>
    rw [ez] at h
    unfold rO at ez
    split at ez
    ·rename_i x
     obtain ⟨v, rfl, r1⟩ := jE rs
     split at ez
     ·rename_i xs e1
      cases ez
      obtain ⟨c, rfl, k1⟩ := Hg r1 e1
      obtain ⟨us, a1, _⟩ := k1 H1 P β1 Fx.refl
      exact ⟨c, us, rfl, a1, h _ H1 β1 t L1 (Zw k1)⟩
     ·cases ez
    ·cases ez
end
def D6 (vs : List Nat) (ρ : aF) : Prop := ∀ i ∈ vs, ∀ d, ρ[i]? ≠ some (Sl.ow d)
def BT (X : Cx) (vs : List Nat) (g : GX) (t : TG) : Prop :=
 ∀ (cf : Cf) (oa : Nat → Option Addr) (P : Addr → Prop) (σ : L2.St) (H : Hp) (β : List Addr) (ρ : aF) (S : Store) (v : V) (d : D) (p : aF × Store) (Q : L2.St → Hp → Prop), LR (aj X) cf oa P σ H β ρ S → D6 vs ρ → RV (aj X) H P β v d → g d ρ S = some p →
  (∀ σ', L2.wipe σ' vs = L2.wipe σ vs → LR (aj X) cf oa P σ' H β p.1 p.2 → D6 vs p.1 → p.2 = S → Q σ' H) → t v σ H Q
def D7 (X : Cx) (vs : List Nat) (g : pP) (t : TGs) : Prop :=
 ∀ (cf : Cf) (oa : Nat → Option Addr) (P : Addr → Prop) (σ : L2.St) (H : Hp) (β : List Addr) (ρ : aF) (S : Store) (us : List V) (ds : List D) (p : aF × Store) (Q : L2.St → Hp → Prop), LR (aj X) cf oa P σ H β ρ S → D6 vs ρ → aA (aj X) H P β us ds → g ds ρ S = some p →
  (∀ σ', L2.wipe σ' vs = L2.wipe σ vs → LR (aj X) cf oa P σ' H β p.1 p.2 → D6 vs p.1 → p.2 = S → Q σ' H) → t us σ H Q
section
variable {X : Cx} {vs : List Nat} {g : GX} {t : TG} {gs : pP} {ts : TGs}
theorem D8 {i : Nat} (m : i ∈ vs) : BT X vs (aX i) (gName i) := by
 intro cf oa P σ H β ρ S v d p Q L no r e k
 cases e
 have L2 := L.set (i := i) r
 refine k _ (Cq m) ?_ (fun j hj x h => ?_) rfl
 ·refine ⟨L2.len, L2.p, L2.sub, L2.p0, L2.ext, L.own, L.inj, L2.st, L2.slot, fun j x h => ?_, L2.xslot⟩
  obtain ⟨a, q0, q1, q2⟩ := L2.bV j x h
  refine ⟨a, ?_, q1, q2⟩
  by_cases ej : j = i
  ·rw [if_pos ej] at q0; cases q0
  ·rw [if_neg ej] at q0; exact q0
 ·by_cases ej : i = j
  ·subst ej
   rw [List.getElem?_set_self'] at h
   cases e : ρ[i]? with
   | none => rw [e] at h; cases h
   | some y => rw [e] at h; cases h
  ·rw [List.getElem?_set_ne ej] at h
   exact no j hj x h
theorem O2 : D7 X vs gq gNil := by
 intro cf oa P σ H β ρ S us ds p Q L no r e k
 cases r with
 | nil => cases e; exact ⟨rfl, k σ rfl L no rfl⟩
 | cons _ _ => cases e
theorem D9 (h1 : BT X vs g t) (h2 : D7 X vs gs ts) : D7 X vs (bL g gs) (gCons t ts) := by
 intro cf oa P σ H β ρ S us ds p Q L no r e k
 cases r with
 | nil => cases e
 | @cons v us d ds r rs =>
  refine ⟨v, us, rfl, ?_⟩
  simp only [bL] at e
  cases eg : g d ρ S with
  | none => rw [eg] at e; cases e
  | some q =>
   rw [eg] at e
   simp only [Option.bind] at e
   refine h1 cf oa P σ H β ρ S v d q _ L no r eg fun σ1 w1 L1 n1 s1 => ?_
   exact h2 cf oa P σ1 H β q.1 q.2 us ds p Q L1 n1 rs e fun σ2 w2 L2 n2 s2 => k σ2 (w2.trans w1) L2 n2 (s2.trans s1)
theorem O3 {n : Nat} (h : D7 X vs gs ts) (hgs : ∀ ds ρ S, ds.length ≠ n → gs ds ρ S = none) : BT X vs (fU gs) (gTup X.K n ts) := by
 intro cf oa P σ H β ρ S v d p Q L no r e k
 unfold fU at e
 cases ev : gH d with
 | none => rw [ev] at e; cases e
 | some ds =>
  rw [ev] at e
  simp only [Option.bind] at e
  obtain ⟨a, xs, rfl, q1, q2⟩ := r.gH ev
  refine ⟨a, xs, rfl, q1, ?_, h cf oa P σ H β ρ S xs ds p Q L no q2 e k⟩
  by_cases hl : ds.length = n
  ·rw [q2.length]; exact hl
  ·rw [hgs ds ρ S hl] at e; cases e
theorem O4 (h : BT X vs g t) : BG X vs g t := by
 intro cf oa P σ H β ρ S v d p Q L r e k
 refine h cf oa P _ H β _ S v d p Q L (fun i hi x e => ?_) r e fun σ' w' L' _ s' => k σ' (by rw [w', Gh fun _ h => h]) L' s'
 by_cases hl : i < ρ.length
 ·rw [Ab hi hl] at e; cases e
 ·rw [List.getElem?_eq_none (by rw [vG]; omega)] at e; cases e
end
end Mi
namespace Mi
open StX (vals_split run_bnd env0_laid un_laid cxUp)
open PySem PySem.Spec PyProof.Rows L2
structure FnV (P : Program) (w : World) (K : PySem.W.Frag) (mg : Str → Option Value) (base : Heap) (k : Nat) (f : Addr) (sp : Sp) : Prop where
 run : ∀ (A : Around) (outer : List Env) (s : Shared) (H : Hp) (us : List Value) (vs : List V) (Q : VK) (E : XK), A.guards = some [] → Room k A → Env0 P w K mg base A outer s H →
  Vals vs us → sp vs H Q E → codeAny (model P w) A (.call (.ref f) ⟨us, []⟩) (CR (L2.CX P w) outer P w H s Q E) s
section
variable {f : FX}
def O5 (f : FX) (a : AX) : EX := fun ρ S => (a ρ S).bind fun us S1 => f us S1
end
end Mi
namespace Mi
open PySem PySem.Spec PyProof.Rows L2
section
variable {X : Cx} {W : WX} {pos : Pos}
def O6 (i j : Nat) (a : AX) : SX := fun ρ S => (a ρ S).st ρ fun ds S' => match ds with
 | [x, y] => .nx ((ρ.set i (.sh x)).set j (.sh y)) S'
 | _ => .stuck
def Az (i j l : Nat) (a : AX) : SX := fun ρ S => (a ρ S).st ρ fun ds S' => match ds with
 | [x, y, z] => .nx (((ρ.set i (.sh x)).set j (.sh y)).set l (.sh z)) S'
 | _ => .stuck
theorem Zx {i j l : Nat} {x y z : Str} {e1 e2 e3 : Expr} {ma : AX} {px py pz pt : Pos} {kt k2 pt2} (hc : X.calm = true) (hN : X.N.Nodup) (hi : X.N[i]? = some x) (hj : X.N[j]? = some y) (hl : X.N[l]? = some z) (hij : i ≠ j) (hil : i ≠ l) (hjl : j ≠ l)
  (hx : X.env.scope.names.lookup x = some .local) (hy : X.env.scope.names.lookup y = some .local) (hz : X.env.scope.names.lookup z = some .local) (ha : j6 (aj X) W false X [e1, e2, e3] ma)
  (hw : swappedStores [.Tuple [.Name x px, .Name y py, .Name z pz] kt pt] (.Tuple [e1, e2, e3] k2 pt2) X.env = pure (some [x, y, z]) := by rfl)
  (hs : swapsWithSole [.Tuple [.Name x px, .Name y py, .Name z pz] kt pt] (.Tuple [e1, e2, e3] k2 pt2) pos.line X.env = pure false := by rfl) :
  fL (aj X) W X (.Assign [.Tuple [.Name x px, .Name y py, .Name z pz] kt pt] (.Tuple [e1, e2, e3] k2 pt2) pos) (Az i j l ma) := jw (L2.ps_par3 hc hN hi hj hl hij hil hjl hx hy hz ha hw hs) fun D σ H h => by
 obtain ⟨cf, oa, P, β, ρ, S, L, h⟩ := h
 refine ⟨cf, oa, P, β, ρ, S, L, ?_⟩
 unfold Az at h
 cases ea : ma ρ S with
 | stuck => rw [ea] at h; exact h
 | exc e S1 => rw [ea] at h; exact jC h
 | ok ds S1 =>
  rw [ea] at h
  simp only [R.st] at h
  intro vs H1 β1 t L1 rs
  split at h
  ·cases rs with
   | cons r1 rs =>
    obtain ⟨v, w, rfl, r2, r3⟩ := vP rs
    exact ⟨_, v, w, rfl, h _ H1 β1 _ P (((L1.set r1).set r2).set r3) (Fx.of t.ext)⟩
  ·exact h.elim
end
def R.al {α : Type} (r : R α) (Q : α → Store → Prop) (E : bD → Store → Prop) : Prop := match r with
 | .ok a S => Q a S
 | .exc e S => E e S
 | .stuck => False
structure Po where
 T : D → Store → Prop
 E : bD → Store → Prop
 B : aF → Store → Prop
 C : aF → Store → Prop
 X : bD → aF → Store → Prop
def SR.al (r : SR) (N : aF → Store → Prop) (p : Po) : Prop := match r with
 | .nx ρ S => N ρ S
 | .rt d S => p.T d S
 | .bk ρ S => p.B ρ S
 | .ct ρ S => p.C ρ S
 | .exc e ρ S => p.E e S ∧ p.X e ρ S
 | .stuck => False
section
variable {α β : Type} {Q : D → Store → Prop} {QL : List D → Store → Prop} {QB : Bool → Store → Prop} {E : bD → Store → Prop} {ρ ρ1 : aF} {S S1 S2 S3 : Store} {d x y : D} {ds us ws : List D} {m a b c : EX} {r k : AX} {i j l : Nat} {idx : List Nat} {f : FX} {t u : BX} {s s1 s2 : SX} {g : GX} {N : aF → Store → Prop} {p : Po}
theorem uw {a : α} {Q : α → Store → Prop} : (R.ok a S).al Q E ↔ Q a S := Iff.rfl
theorem O7 {Q : α → Store → Prop} : (R.stuck).al Q E ↔ False := Iff.rfl
theorem bM {r : R α} {f : α → Store → R β} {Q : β → Store → Prop} : (r.bind f).al Q E ↔ r.al (fun a S => (f a S).al Q E) E := by cases r <;> rfl
theorem iy {o : Option α} {Q : α → Store → Prop} : (R.opt o S).al Q E ↔ ∃ z, o = some z ∧ Q z S := by
 cases o with
 | none => exact ⟨fun h => h.elim, fun ⟨_, h, _⟩ => nomatch h⟩
 | some z => exact ⟨fun h => ⟨z, rfl, h⟩, fun ⟨w, h, q⟩ => by cases h; exact q⟩
theorem mV {r : R α} {Q Q' : α → Store → Prop} {E' : bD → Store → Prop} (h : r.al Q E) (i : ∀ a S, Q a S → Q' a S) (j : ∀ e S, E e S → E' e S) : r.al Q' E' := by
 cases r with
 | ok a S => exact i a S h
 | exc e S => exact j e S h
 | stuck => exact h
theorem jU {r : R α} {κ : α → Store → SR} : (r.st ρ κ).al N p ↔ r.al (fun a S => (κ a S).al N p) (fun e S => p.E e S ∧ p.X e ρ S) := by cases r <;> rfl
theorem O8 : (mC d ρ S).al Q E ↔ Q d S := Iff.rfl
theorem w_var : (ak i ρ S).al Q E ↔ match ρ[i]? with
  | some (Sl.sh d) => Q d S
  | _ => False := by
 unfold ak
 rcases ρ[i]? with _ | (_ | d | d) <;> exact Iff.rfl
theorem O9 {f : Store → D → D → Option D} : (aC f a b ρ S).al Q E ↔ (a ρ S).al (fun x S1 => (b ρ S1).al (fun y S2 => ∃ z, f S2 x y = some z ∧ Q z S2) E) E := by
 unfold aC; simp only [bM, iy]
theorem w6 {f : Store → D → Option D} : (cW f a ρ S).al Q E ↔ (a ρ S).al (fun x S1 => ∃ z, f S1 x = some z ∧ Q z S1) E := by
 unfold cW; simp only [bM, iy]
theorem Oa : (aq ρ S).al QL E ↔ QL [] S := Iff.rfl
theorem Oc : (ao a r ρ S).al QL E ↔ (a ρ S).al (fun x S1 => (r ρ S1).al (fun xs S2 => QL (x :: xs) S2) E) E := by
 unfold ao; simp only [bM, uw]
theorem Od {f : Store → List D → Option D} : (aQ f r ρ S).al Q E ↔ (r ρ S).al (fun xs S1 => ∃ z, f S1 xs = some z ∧ Q z S1) E := by
 unfold aQ; simp only [bM, iy]
theorem Oe : (bY r ρ S).al Q E ↔ (r ρ S).al (fun xs S1 => xs.length ≤ sizeLine ∧ Q (.tup xs) S1) E := by
 unfold bY dTup
 simp only [bM, iy]
 refine iff_of_eq (congrArg (fun z => R.al (r ρ S) z E) (funext fun xs => funext fun S1 => propext ?_))
 by_cases h : xs.length ≤ sizeLine <;> simp [h]
theorem Og : (dZ r ρ S).al Q E ↔ (r ρ S).al (fun xs S1 => xs.length ≤ sizeLine ∧ Q (.lst xs) S1) E := by
 unfold dZ BZ
 simp only [bM, iy]
 refine iff_of_eq (congrArg (fun z => R.al (r ρ S) z E) (funext fun xs => funext fun S1 => propext ?_))
 by_cases h : xs.length ≤ sizeLine <;> simp [h]
theorem Oh : (Ar ρ S).al Q E ↔ Q (.dct []) S := Iff.rfl
theorem Dc : (rN r ρ S).al Q E ↔ (r ρ S).al (fun xs S1 => ∃ z, xY xs = some z ∧ Q z S1) E := by
 unfold rN; simp only [bM, iy]
theorem w_call : (bF f idx r k ρ S).al Q E ↔ (r ρ S).al (fun us S1 => (k ρ S1).al (fun ws S2 => (f (pick idx us ws) S2).al Q E) E) E := by
 unfold bF; simp only [bM]
theorem Oi : (O5 f r ρ S).al Q E ↔ (r ρ S).al (fun us S1 => (f us S1).al Q E) E := by
 unfold O5; simp only [bM]
theorem Oj : (mG t a b ρ S).al Q E ↔ (t ρ S).al (fun q S1 => if q = true then (a ρ S1).al Q E else (b ρ S1).al Q E) E := by
 unfold mG
 simp only [bM]
 refine iff_of_eq (congrArg (fun z => R.al (t ρ S) z E) (funext fun q => funext fun S1 => ?_))
 cases q <;> rfl
theorem w_and : (fu a b ρ S).al Q E ↔ (a ρ S).al (fun x S1 => ∃ q, jx S1 x = some q ∧ if q = true then (b ρ S1).al Q E else Q x S1) E := by
 unfold fu
 simp only [bM, iy]
 refine iff_of_eq (congrArg (fun z => R.al (a ρ S) z E) (funext fun x => funext fun S1 => propext (exists_congr fun q => and_congr_right fun _ => ?_)))
 cases q <;> exact Iff.rfl
theorem w_or : (vA a b ρ S).al Q E ↔ (a ρ S).al (fun x S1 => ∃ q, jx S1 x = some q ∧ if q = true then Q x S1 else (b ρ S1).al Q E) E := by
 unfold vA
 simp only [bM, iy]
 refine iff_of_eq (congrArg (fun z => R.al (a ρ S) z E) (funext fun x => funext fun S1 => propext (exists_congr fun q => and_congr_right fun _ => ?_)))
 cases q <;> exact Iff.rfl
theorem w_not : (vB a ρ S).al Q E ↔ (a ρ S).al (fun x S1 => ∃ q, jx S1 x = some q ∧ Q (.bl (!q)) S1) E := by
 unfold vB
 simp only [bM, iy, uw]
theorem Ol {f h : Store → D → D → Option D} : (pM f h a b c ρ S).al Q E ↔ (a ρ S).al (fun x S1 => (b ρ S1).al (fun y S2 => ∃ q, (f S2 x y).bind mF = some q ∧ if q = true then (c ρ S2).al (fun z S4 => ∃ w, h S4 y z = some w ∧ Q w S4) E else Q (.bl false) S2) E) E := by
 unfold pM
 simp only [bM, iy]
 refine iff_of_eq (congrArg (fun z => R.al (a ρ S) z E) (funext fun x => funext fun S1 => congrArg (fun z => R.al (b ρ S1) z E) (funext fun y => funext fun S2 => propext (exists_congr fun q => and_congr_right fun _ => ?_))))
 cases q
 ·exact Iff.rfl
 ·simp only [if_true, bM, iy]
theorem Om : (bH m ρ S).al QB E ↔ (m ρ S).al (fun x S1 => ∃ q, mF x = some q ∧ QB q S1) E := by
 unfold bH; simp only [bM, iy]
theorem Oo : (eX m ρ S).al QB E ↔ (m ρ S).al (fun x S1 => ∃ q, jx S1 x = some q ∧ QB q S1) E := by
 unfold eX; simp only [bM, iy]
theorem Oq : (eY t ρ S).al QB E ↔ (t ρ S).al (fun q S1 => QB (!q) S1) E := by
 unfold eY; simp only [bM, uw]
theorem w_band : (Mp t u ρ S).al QB E ↔ (t ρ S).al (fun q S1 => if q = true then (u ρ S1).al QB E else QB false S1) E := by
 unfold Mp
 simp only [bM]
 refine iff_of_eq (congrArg (fun z => R.al (t ρ S) z E) (funext fun q => funext fun S1 => ?_))
 cases q <;> rfl
theorem w_bor : (fR t u ρ S).al QB E ↔ (t ρ S).al (fun q S1 => if q = true then QB true S1 else (u ρ S1).al QB E) E := by
 unfold fR
 simp only [bM]
 refine iff_of_eq (congrArg (fun z => R.al (t ρ S) z E) (funext fun q => funext fun S1 => ?_))
 cases q <;> rfl
theorem Ot : (i6 ρ S).al QB E ↔ QB true S := Iff.rfl
theorem Ou : (lA m ρ S).al QL E ↔ (m ρ S).al (fun x S1 => ∃ z, itemsOf x = some z ∧ QL z S1) E := by
 unfold lA; simp only [bM, iy]
theorem Ov {f : List D → Option (List D)} : (jR f r ρ S).al QL E ↔ (r ρ S).al (fun xs S1 => ∃ z, f xs = some z ∧ QL z S1) E := by
 unfold jR; simp only [bM, iy]
theorem Ow {it : AX} {vs : List Nat} {e : EX} : (mK it vs g t e ρ S).al Q E ↔ (it ρ S).al (fun ds S1 => (gA vs g t e (cJ ρ vs) ds [] S1).al (fun ys S2 => Q (.lst ys) S2) E) E := by
 unfold mK; simp only [bM, uw]
theorem Ox {QO : Option Int → Store → Prop} : (CV ρ S).al QO E ↔ QO none S := Iff.rfl
theorem Oz {QO : Option Int → Store → Prop} : (yd m ρ S).al QO E ↔ (m ρ S).al (fun x S1 => ∃ i, x = .int i ∧ QO (some i) S1) E := by
 unfold yd
 simp only [bM]
 refine iff_of_eq (congrArg (fun z => R.al (m ρ S) z E) (funext fun x => funext fun S1 => propext ?_))
 cases x <;> first
  | exact ⟨fun h => ⟨_, rfl, h⟩, fun ⟨_, e, h⟩ => by cases e; exact h⟩
  | exact ⟨fun h => h.elim, fun ⟨_, e, _⟩ => nomatch e⟩
theorem OA {lo hi : OX} : (yg m lo hi ρ S).al Q E ↔ (m ρ S).al (fun x S1 => (lo ρ S1).al (fun l S2 => (hi ρ S2).al (fun h S3 => ∃ z, ug S3 x l h = some z ∧ Q z S3) E) E) E := by
 unfold yg; simp only [bM, iy]
theorem OB : (zY m ρ S).al Q E ↔ (m (lent ρ) S).al (fun x S1 => flat x = true ∧ Q x S1) (fun _ _ => False) := by
 unfold zY
 cases m (lent ρ) S with
 | ok x S1 => by_cases h : flat x = true <;> simp [h, R.al]
 | exc e S1 => exact Iff.rfl
 | stuck => exact Iff.rfl
theorem OC : (A5 t ρ S).al QB E ↔ (t (lent ρ) S).al QB (fun _ _ => False) := by
 unfold A5
 cases t (lent ρ) S <;> exact Iff.rfl
theorem AA : (aN s1 s2 ρ S).al N p ↔ (s1 ρ S).al (fun ρ1 S1 => (s2 ρ1 S1).al N p) p := by
 unfold aN
 cases s1 ρ S <;> exact Iff.rfl
theorem OD : (dN ρ S).al N p ↔ N ρ S := Iff.rfl
theorem Hj : (eG i m ρ S).al N p ↔ (m ρ S).al (fun d S1 => N (ρ.set i (.sh d)) S1) (fun e S => p.E e S ∧ p.X e ρ S) := by unfold eG; exact jU
theorem OG : (xF i m ρ S).al N p ↔ (m ρ S).al (fun d S1 => N (ρ.set i (.ow d)) S1) (fun e S => p.E e S ∧ p.X e ρ S) := by unfold xF; exact jU
theorem OH : (aW m ρ S).al N p ↔ (m ρ S).al p.T (fun e S => p.E e S ∧ p.X e ρ S) := by unfold aW; exact jU
theorem OI : (XJ ρ S).al N p ↔ p.T .non S := Iff.rfl
theorem OJ : (Mw i ρ S).al N p ↔ match ρ[i]? with
  | some (Sl.sh d) => p.T d S
  | some (Sl.ow d) => p.T d S
  | _ => False := by
 unfold Mw
 rcases ρ[i]? with _ | (_ | d | d) <;> exact Iff.rfl
theorem OL : (jB m ρ S).al N p ↔ (m ρ S).al (fun _ S1 => N ρ S1) (fun e S => p.E e S ∧ p.X e ρ S) := by unfold jB; exact jU
theorem OO : (cI t s1 s2 ρ S).al N p ↔ (t ρ S).al (fun q S1 => if q = true then (s1 ρ S1).al N p else (s2 ρ S1).al N p) (fun e S => p.E e S ∧ p.X e ρ S) := by
 unfold cI
 rw [jU]
 refine iff_of_eq (congrArg (fun z => R.al (t ρ S) z _) (funext fun q => funext fun S1 => ?_))
 cases q <;> rfl
theorem OQ : (nW m g ρ S).al N p ↔ (m ρ S).al (fun d S1 => ∃ q, g d ρ S1 = some q ∧ N q.1 q.2) (fun e S => p.E e S ∧ p.X e ρ S) := by
 unfold nW
 rw [jU]
 refine iff_of_eq (congrArg (fun z => R.al (m ρ S) z _) (funext fun d => funext fun S1 => propext ?_))
 cases h : g d ρ S1 with
 | none => exact ⟨fun z => z.elim, fun ⟨_, e, _⟩ => nomatch e⟩
 | some q => exact ⟨fun z => ⟨q, rfl, z⟩, fun ⟨_, e, z⟩ => by cases e; exact z⟩
theorem Hl {it : AX} : (gW it g s ρ S).al N p ↔ (it ρ S).al (fun ds S1 => (forL g s ds ρ S1).al N p) (fun e S => p.E e S ∧ p.X e ρ S) := by unfold gW; exact jU
theorem OS : (XH ρ S).al N p ↔ p.B ρ S := Iff.rfl
theorem OT : (XI ρ S).al N p ↔ p.C ρ S := Iff.rfl
theorem OU : (O6 i j r ρ S).al N p ↔ (r ρ S).al (fun ds S1 => match ds with
  | [x, y] => N ((ρ.set i (.sh x)).set j (.sh y)) S1
  | _ => False) (fun e S => p.E e S ∧ p.X e ρ S) := by
 unfold O6
 rw [jU]
 refine iff_of_eq (congrArg (fun z => R.al (r ρ S) z _) (funext fun ds => funext fun S1 => propext ?_))
 rcases ds with _ | ⟨x, _ | ⟨y, _ | ⟨z, ds⟩⟩⟩ <;> exact Iff.rfl
theorem OV : (Az i j l r ρ S).al N p ↔ (r ρ S).al (fun ds S1 => match ds with
  | [x, y, z] => N (((ρ.set i (.sh x)).set j (.sh y)).set l (.sh z)) S1
  | _ => False) (fun e S => p.E e S ∧ p.X e ρ S) := by
 unfold Az
 rw [jU]
 refine iff_of_eq (congrArg (fun z => R.al (r ρ S) z _) (funext fun ds => funext fun S1 => propext ?_))
 rcases ds with _ | ⟨x, _ | ⟨y, _ | ⟨z, _ | ⟨w, ds⟩⟩⟩⟩ <;> exact Iff.rfl
theorem we {n : Nat} : (aY n s ds S).al Q E ↔ (s (ds.map Sl.sh ++ List.replicate (n - ds.length) Sl.un) S).al (fun _ S1 => Q .non S1) ⟨Q, E, fun _ _ => False, fun _ _ => False, fun _ _ _ => True⟩ := by
 unfold aY
 cases s (ds.map Sl.sh ++ List.replicate (n - ds.length) Sl.un) S <;> first
  | exact Iff.rfl
  | exact ⟨fun h => ⟨h, trivial⟩, fun h => h.1⟩
theorem OW {r : SR} {N N' : aF → Store → Prop} {p p' : Po} (h : r.al N p) (hn : ∀ ρ S, N ρ S → N' ρ S) (ht : ∀ d S, p.T d S → p'.T d S) (he : ∀ e ρ S, p.E e S ∧ p.X e ρ S → p'.E e S ∧ p'.X e ρ S) (hb : ∀ ρ S, p.B ρ S → p'.B ρ S) (hc : ∀ ρ S, p.C ρ S → p'.C ρ S) : r.al N' p' := by
 cases r with
 | nx ρ S => exact hn _ _ h
 | rt d S => exact ht _ _ h
 | bk ρ S => exact hb _ _ h
 | ct ρ S => exact hc _ _ h
 | exc e ρ S => exact he _ _ _ h
 | stuck => exact h
theorem iV (M : aF → Store → Prop) (h1 : (s1 ρ S).al M p) (h2 : ∀ ρ S, M ρ S → (s2 ρ S).al N p) : (aN s1 s2 ρ S).al N p :=
 AA.mpr (OW h1 h2 (fun _ _ h => h) (fun _ _ _ h => h) (fun _ _ h => h) fun _ _ h => h)
theorem jV (I : Nat → aF → Store → Prop) {ds : List D} (h0 : I 0 ρ S) (step : ∀ i d ρ S, ds[i]? = some d → I i ρ S → ∃ q, g d ρ S = some q ∧ (s q.1 q.2).al (I (i + 1)) ⟨p.T, p.E, N, I (i + 1), p.X⟩)
  (done : ∀ ρ S, I ds.length ρ S → N ρ S) : (forL g s ds ρ S).al N p := by
 have key : ∀ (n k : Nat) (ρ : aF) (S : Store), n = ds.length - k → k ≤ ds.length → I k ρ S → (forL g s (ds.drop k) ρ S).al N p := by
  intro n
  induction n with
  | zero =>
   intro k ρ S hn hk h
   have e : k = ds.length := by omega
   subst e
   rw [List.drop_length]
   exact done _ _ h
  | succ n ih =>
   intro k ρ S hn hk h
   have hl : k < ds.length := by omega
   rw [List.drop_eq_getElem_cons hl]
   obtain ⟨⟨ρ1, S1⟩, e, q⟩ := step k ds[k] ρ S (List.getElem?_eq_getElem hl) h
   simp only [forL, e]
   cases es : s ρ1 S1 with
   | nx ρ2 S2 => rw [es] at q; exact ih (k + 1) ρ2 S2 (by omega) hl q
   | ct ρ2 S2 => rw [es] at q; exact ih (k + 1) ρ2 S2 (by omega) hl q
   | bk ρ2 S2 => rw [es] at q; exact q
   | rt d S2 => rw [es] at q; exact q
   | exc e ρ2 S2 => rw [es] at q; exact q
   | stuck => rw [es] at q; exact q
 have := key ds.length 0 ρ S (by simp) (Nat.zero_le _) h0
 simpa using this
theorem Zy {vs : List Nat} {e : EX} (I : Nat → List D → Store → Prop) {ds : List D} (h0 : I 0 [] S) (step : ∀ i d acc S, ds[i]? = some d → I i acc S → ∃ q, g d ρ S = some q ∧ (t q.1 q.2).al (fun b S2 => if b = true then (e q.1 S2).al (fun y S3 => acc.length < sizeLine ∧ I (i + 1) (acc ++ [y]) S3) (fun _ _ => False) else I (i + 1) acc S2) (fun _ _ => False))
  (done : ∀ ys S, I ds.length ys S → QL ys S) : (gA vs g t e ρ ds [] S).al QL E := by
 have key : ∀ (n k : Nat) (acc : List D) (S : Store), n = ds.length - k → k ≤ ds.length → I k acc S → (gA vs g t e ρ (ds.drop k) acc S).al QL E := by
  intro n
  induction n with
  | zero =>
   intro k acc S hn hk h
   have e : k = ds.length := by omega
   subst e
   rw [List.drop_length]
   exact done _ _ h
  | succ n ih =>
   intro k acc S hn hk h
   have hl : k < ds.length := by omega
   rw [List.drop_eq_getElem_cons hl]
   obtain ⟨q, e1, h1⟩ := step k ds[k] acc S (List.getElem?_eq_getElem hl) h
   simp only [gA, e1]
   cases et : t q.1 q.2 with
   | stuck => rw [et] at h1; exact h1.elim
   | exc _ _ => rw [et] at h1; exact h1.elim
   | ok b S2 =>
    rw [et] at h1
    cases b with
    | false => exact ih (k + 1) acc S2 (by omega) hl h1
    | true =>
     have h2 : (e q.1 S2).al (fun y S3 => acc.length < sizeLine ∧ I (k + 1) (acc ++ [y]) S3) (fun _ _ => False) := h1
     simp only
     cases ee : e q.1 S2 with
     | stuck => rw [ee] at h2; exact h2.elim
     | exc _ _ => rw [ee] at h2; exact h2.elim
     | ok y S3 =>
      rw [ee] at h2
      obtain ⟨h3, h4⟩ := h2
      simp only [h3, if_true]
      exact ih (k + 1) (acc ++ [y]) S3 (by omega) hl h4
 have := key ds.length 0 [] S (by simp) (Nat.zero_le _) h0
 simpa using this
end
/-- S is S0 but for the generator at n -/
def RS (S0 : Store) (n : Nat) (S : Store) : Prop := ∃ a b : Int, 0 ≤ a ∧ 0 ≤ b ∧ b < 2 ^ 33 ∧ n < S0.length ∧ S = S0.set n (.lst [.int a, .int b])
theorem RS.at {S0 S : Store} {n : Nat} (h : RS S0 n S) : iw S n := by
 obtain ⟨a, b, h1, h2, h3, h4, rfl⟩ := h
 exact ⟨a, b, List.getElem?_set_self h4, h1, h2, h3⟩
theorem Zz {S : Store} {n : Nat} {m : Int} (h : iw S n) (h0 : 0 < m) (h1 : m < 1073741824) : ∃ d a b, (aY 3 CU) [.ref n, .int m] S = .ok (.int d) (S.set n (.lst [.int a, .int b])) ∧ 0 ≤ d ∧ d < m ∧ 0 ≤ a ∧ 0 ≤ b ∧ b < 2 ^ 33 := by
 obtain ⟨a, b, e, ha, hb, hb2⟩ := h
 have hl : n < S.length := (List.getElem?_eq_some_iff.mp e).1
 by_cases hp : 0 < a
 ·refine ⟨a % m, a / m, b, ?_, Int.emod_nonneg _ (by omega), Int.emod_lt_of_pos _ h0, Int.ediv_nonneg ha (by omega), hb, hb2⟩
  unfold aY CU
  simp [aN, cI, bH, aC, ak, mC, bA, bu, e, R.bind, R.opt, R.st, vK, atI, ixN, mF, hp, nW, aQ, ao, aq, Ah, fU, gH, bL, gq, uf, aX, An, aW, h0, h1]
 ·have hm : m ≠ 0 := by omega
  obtain ⟨c, hc⟩ : ∃ c : Int, c = (b * 48271 + 20011).fmod 2147483399 := ⟨_, rfl⟩
  have c0 : 0 ≤ c := by rw [hc, Int.fmod_eq_emod_of_nonneg _ (by decide)]; exact Int.emod_nonneg _ (by decide)
  have c1 : c < 2147483399 := by rw [hc, Int.fmod_eq_emod_of_nonneg _ (by decide)]; exact Int.emod_lt_of_pos _ (by decide)
  have k1 : nZ b 48271 = true := by unfold nZ; simp
  have k2 : nZ c c = true := by unfold nZ; simp; omega
  have e2 : ∀ x : SO, (S.set n x)[n]? = some x := fun x => List.getElem?_set_self hl
  refine ⟨(((c * c).fmod 2147483323).fdiv 13).fmod m, a, c, ?_, ?_, ?_, ha, c0, by omega⟩
  ·unfold aY CU
   simp [aN, cI, bH, aC, ak, mC, bA, bu, e, R.bind, R.opt, R.st, vK, atI, ixN, mF, hp, nW, dN, uf, An, aW, jQ, fD, mO, Ae, k1, k2, ← hc, hm, e2]
  ·rw [Int.fmod_eq_emod_of_nonneg _ (by omega)]; exact Int.emod_nonneg _ hm
  ·rw [Int.fmod_eq_emod_of_nonneg _ (by omega)]; exact Int.emod_lt_of_pos _ h0
def kW : Key → Nat
 | .inl _ => 0
 | .inr x => x.length
def ux : Key → Prop
 | .inl i => i.natAbs < 10 ^ 60
 | .inr x => ∀ c ∈ x.cps.toList, c < 0x110000
mutual
def aR : D → Prop
 | .non => True
 | .bl _ => True
 | .int i => i.natAbs < 10 ^ 60
 | .str x => ∀ c ∈ x.cps.toList, c < 0x110000
 | .tup xs => fO xs
 | .lst xs => fO xs
 | .dct kvs => jd kvs
 | .ref _ => False
 | .ty _ => False
 | .fn _ => False
def fO : List D → Prop
 | [] => True
 | d :: r => aR d ∧ fO r
def jd : List (Key × D) → Prop
 | [] => True
 | p :: r => uy p ∧ jd r
def uy : Key × D → Prop
 | (k, d) => ux k ∧ aR d
end
mutual
def bT : D → Nat
 | .str x => x.length
 | .tup xs => eO xs
 | .lst xs => eO xs
 | .dct kvs => jW kvs
 | .non => 0
 | .bl _ => 0
 | .int _ => 0
 | .ref _ => 0
 | .ty _ => 0
 | .fn _ => 0
def eO : List D → Nat
 | [] => 0
 | d :: r => bT d + 1 + eO r
def jW : List (Key × D) → Nat
 | [] => 0
 | p :: r => De p + jW r
def De : Key × D → Nat
 | (k, d) => kW k + bT d + 2
end
mutual
def bJ : D → Nat
 | .tup xs => fW xs + 1
 | .lst xs => fW xs + 1
 | .dct kvs => qb kvs + 1
 | .str _ => 0
 | .non => 0
 | .bl _ => 0
 | .int _ => 0
 | .ref _ => 0
 | .ty _ => 0
 | .fn _ => 0
def fW : List D → Nat
 | [] => 0
 | d :: r => max (bJ d) (fW r)
def qb : List (Key × D) → Nat
 | [] => 0
 | p :: r => max (Df p) (qb r)
def Df : Key × D → Nat
 | (_, d) => bJ d
end
theorem ZC {n : Nat} (h : n < 10 ^ 60) : n.log2 < 1920 := by
 by_cases h0 : n = 0
 ·rw [h0]; decide
 ·exact Nat.lt_of_lt_of_le ((Nat.log2_lt h0).mpr (Nat.lt_trans h (by decide : 10 ^ 60 < 2 ^ 200))) (by decide)
theorem ZD {i : Int} (h : i.natAbs < 10 ^ 60) : (PyData.shown (.int i)).length ≤ 64 := by
 have e := int_text_length_le10 (k := 60) (by decide) h
 show (Str.ofString (toString i)).length ≤ 64
 rw [PySem.ofString_length]; omega
structure Sw (p : PyData) (b d : Nat) : Prop where
 s : p.showable = true
 l : p.leavesShort 64 = true
 b : p.bulk = b
 d : p.depth = d
structure ZE (p : List PyData) (b d : Nat) : Prop where
 s : PyData.showableAll p = true
 l : PyData.leavesShortAll 64 p = true
 b : PyData.bulkAll p = b
 d : PyData.depthAll p = d
structure ZF (p : List (PyData × PyData)) (b d : Nat) : Prop where
 s : PyData.showableKv p = true
 l : PyData.leavesShortKv 64 p = true
 b : PyData.bulkKv p = b
 d : PyData.depthKv p = d
theorem OY {x : Str} (h : ∀ c ∈ x.cps.toList, c < 0x110000) : Sw (.str x) x.length 0 :=
 ⟨rfl, by simp only [PyData.leavesShort, List.all_eq_true, decide_eq_true_eq]; exact fun c hc => Nat.lt_trans (h c hc) (by decide), rfl, rfl⟩
theorem OZ {i : Int} (h : i.natAbs < 10 ^ 60) : Sw (.int i) 0 0 :=
 ⟨by simp only [PyData.showable]; exact decide_eq_true (ZC h), by simp only [PyData.leavesShort]; exact decide_eq_true (ZD h), rfl, rfl⟩
theorem ZJ {k : Key} (h : ux k) : Sw (vL k) (kW k) 0 := by
 cases k with
 | inl i => exact OZ h
 | inr x => exact OY h
mutual
theorem Dg : ∀ d : D, aR d → ∃ p, toPy true d = some p ∧ Sw p (bT d) (bJ d)
 | .non, _ => ⟨.none, rfl, rfl, rfl, rfl, rfl⟩
 | .bl b, _ => ⟨.bool b, rfl, rfl, rfl, rfl, rfl⟩
 | .int i, h => ⟨.int i, rfl, OZ (by simpa only [aR] using h)⟩
 | .str x, h => ⟨.str x, rfl, OY (by simpa only [aR] using h)⟩
 | .tup xs, h => by
  obtain ⟨ps, e, s⟩ := Ho xs (by simpa only [aR] using h)
  exact ⟨.tuple ps, by simp only [toPy, e], ⟨by simpa only [PyData.showable] using s.s, by simpa only [PyData.leavesShort] using s.l, by simpa only [PyData.bulk, bT] using s.b, by simp only [PyData.depth, bJ, s.d]⟩⟩
 | .lst xs, h => by
  obtain ⟨ps, e, s⟩ := Ho xs (by simpa only [aR] using h)
  exact ⟨.list ps, by simp only [toPy, e], ⟨by simpa only [PyData.showable] using s.s, by simpa only [PyData.leavesShort] using s.l, by simpa only [PyData.bulk, bT] using s.b, by simp only [PyData.depth, bJ, s.d]⟩⟩
 | .dct kvs, h => by
  obtain ⟨ps, e, s⟩ := Pa kvs (by simpa only [aR] using h)
  exact ⟨.dict ps, by simp only [toPy, e], ⟨by simpa only [PyData.showable] using s.s, by simpa only [PyData.leavesShort] using s.l, by simpa only [PyData.bulk, bT] using s.b, by simp only [PyData.depth, bJ, s.d]⟩⟩
 | .ref _, h => by simp only [aR] at h
 | .ty _, h => by simp only [aR] at h
 | .fn _, h => by simp only [aR] at h
theorem Ho : ∀ ds : List D, fO ds → ∃ p, ie true ds = some p ∧ ZE p (eO ds) (fW ds)
 | [], _ => ⟨[], rfl, rfl, rfl, rfl, rfl⟩
 | d :: r, h => by
  have h' : aR d ∧ fO r := by simpa only [fO] using h
  obtain ⟨p, e1, s1⟩ := Dg d h'.1
  obtain ⟨ps, e2, s2⟩ := Ho r h'.2
  exact ⟨p :: ps, by simp only [ie, e1, e2], ⟨by simp only [PyData.showableAll, s1.s, s2.s, Bool.and_true], by simp only [PyData.leavesShortAll, s1.l, s2.l, Bool.and_true], by simp only [PyData.bulkAll, eO, s1.b, s2.b], by simp only [PyData.depthAll, fW, s1.d, s2.d]⟩⟩
theorem Pa : ∀ ds : List (Key × D), jd ds → ∃ p, pY true ds = some p ∧ ZF p (jW ds) (qb ds)
 | [], _ => ⟨[], rfl, rfl, rfl, rfl, rfl⟩
 | (k, d) :: r, h => by
  have h' : uy (k, d) ∧ jd r := by simpa only [jd] using h
  have h'' : ux k ∧ aR d := by simpa only [uy] using h'.1
  obtain ⟨p, e1, s1⟩ := Dg d h''.2
  obtain ⟨ps, e2, s2⟩ := Pa r h'.2
  have s0 := ZJ h''.1
  exact ⟨(vL k, p) :: ps, by simp only [pY, CB, e1, e2], ⟨by simp only [PyData.showableKv, s0.s, s1.s, s2.s, Bool.and_true], by simp only [PyData.leavesShortKv, s0.l, s1.l, s2.l, Bool.and_true], by simp only [PyData.bulkKv, jW, De, s0.b, s1.b, s2.b], by simp only [PyData.depthKv, qb, Df, s0.d, s1.d, s2.d, Nat.zero_max, Nat.max_eq_right (Nat.zero_le _)]⟩⟩
end
mutual
theorem AB : ∀ d : D, aR d → jD d = true
 | .non, _ => rfl
 | .bl _, _ => rfl
 | .int _, _ => rfl
 | .str _, _ => rfl
 | .tup xs, h => by simp only [jD]; exact Hq xs (by simpa only [aR] using h)
 | .lst xs, h => by simp only [jD]; exact Hq xs (by simpa only [aR] using h)
 | .dct xs, h => by simp only [jD]; exact Pb xs (by simpa only [aR] using h)
 | .ref _, h => by simp only [aR] at h
 | .ty _, _ => rfl
 | .fn _, _ => rfl
theorem Hq : ∀ ds : List D, fO ds → vM ds = true
 | [], _ => rfl
 | d :: r, h => by
  have h' : aR d ∧ fO r := by simpa only [fO] using h
  simp only [vM, AB d h'.1, Hq r h'.2, Bool.and_self]
theorem Pb : ∀ ds : List (Key × D), jd ds → tZ ds = true
 | [], _ => rfl
 | (k, d) :: r, h => by
  have h' : (ux k ∧ aR d) ∧ jd r := by simpa only [jd, uy] using h
  simp only [tZ, Gv, AB d h'.1.2, Pb r h'.2, Bool.and_self]
end
theorem qd {S : Store} {d : D} (h : jD d = true) : Mi.top S d = d := by unfold Mi.top; rw [if_pos h]
theorem Ph (S : Store) : ∀ xs : List D, (lB S xs).length = xs.length
 | [] => rfl
 | _ :: r => by simp only [lB, List.length_cons, Ph S r]
theorem ZK (S : Store) (xs : List D) : ∃ ys, Mi.top S (.tup xs) = .tup ys ∧ ys.length = xs.length := by
 unfold Mi.top
 split
 ·exact ⟨xs, rfl, rfl⟩
 ·exact ⟨lB S (lB S (lB S (lB S (lB S xs)))), by simp only [stp], by simp only [Ph]⟩
theorem Pj : ∀ {ds : List D}, fO ds ↔ ∀ d ∈ ds, aR d
 | [] => by simp [fO]
 | d :: r => by simp only [fO, Pj (ds := r), List.mem_cons, forall_eq_or_imp]
theorem Pk {n : Nat} : ∀ {ds : List D}, (∀ d ∈ ds, bT d ≤ n) → eO ds ≤ ds.length * (n + 1)
 | [], _ => by simp [eO]
 | d :: r, h => by
  have h1 := h d List.mem_cons_self
  have h2 := Pk (ds := r) fun x hx => h x (List.mem_cons_of_mem _ hx)
  simp only [eO, List.length_cons, Nat.succ_mul]
  omega
theorem yh {n : Nat} : ∀ {ds : List D}, (∀ d ∈ ds, bJ d ≤ n) → fW ds ≤ n
 | [], _ => by simp [fW]
 | d :: r, h => by
  have h1 := h d List.mem_cons_self
  have h2 := yh (ds := r) fun x hx => h x (List.mem_cons_of_mem _ hx)
  simp only [fW]
  omega
theorem Hr {i : Nat} {a : EX} {ρ : aF} {S : Store} {N : aF → Store → Prop} {p : Po} : (uh i a ρ S).al N p ↔ match ρ[i]? with
  | some (Sl.ow (.lst xs)) => (a ρ S).al (fun d S1 => xs.length < sizeLine ∧ N (ρ.set i (.ow (.lst (xs ++ [d])))) S1) (fun e S => p.E e S ∧ p.X e ρ S)
  | some (Sl.sh (.ref n)) => (match S[n]? with
   | some (.lst _) => (a ρ S).al (fun d S1 => ∃ xs, S1[n]? = some (.lst xs) ∧ xs.length < sizeLine ∧ N ρ (S1.set n (.lst (xs ++ [d])))) (fun e S => p.E e S ∧ p.X e ρ S)
   | _ => False)
  | _ => False := by
 unfold uh
 rcases ρ[i]? with _ | (_ | d | d | d)
 ·exact Iff.rfl
 ·exact Iff.rfl
 ·cases d with
  | ref n =>
   simp only
   rcases hS : S[n]? with _ | (ys | ys | ⟨c, fs⟩ | ys | ys)
   ·exact Iff.rfl
   ·simp only [jU]
    refine iff_of_eq (congrArg (fun z => R.al (a ρ S) z _) (funext fun d => funext fun S1 => propext ?_))
    rcases h : S1[n]? with _ | (xs | xs | ⟨c, fs⟩ | xs | xs)
    ·simp [SR.al]
    ·by_cases h2 : xs.length < sizeLine <;> simp [h2, SR.al]
    ·simp [SR.al]
    ·simp [SR.al]
    ·simp [SR.al]
    ·simp [SR.al]
   ·exact Iff.rfl
   ·exact Iff.rfl
   ·exact Iff.rfl
   ·exact Iff.rfl
  | _ => exact Iff.rfl
 ·cases d with
  | lst xs =>
   simp only [jU]
   refine iff_of_eq (congrArg (fun z => R.al (a ρ S) z _) (funext fun d => funext fun S1 => propext ?_))
   by_cases h : xs.length < sizeLine <;> simp [h, SR.al]
  | _ => exact Iff.rfl
 ·exact Iff.rfl
theorem ZL {j : Int} (h : 0 ≤ j ∧ j < 2 ^ 62) : xZ [.int j] = some (rJ 0 j.toNat) := by
 unfold xZ
 simp only
 rw [if_pos (by omega)]
theorem ZM {n : Nat} : (rJ 0 n).length = n := by simp [rJ]
theorem ZO {n i : Nat} {d : D} (h : (rJ 0 n)[i]? = some d) : d = .int i ∧ i < n := by
 have hi := (List.getElem?_eq_some_iff.mp h).1
 rw [ZM] at hi
 unfold rJ at h
 rw [List.getElem?_map, List.getElem?_range hi] at h
 cases h
 exact ⟨by simp, hi⟩
mutual
/-- no dict in it -/
def bO : D → Prop
 | .non => True
 | .bl _ => True
 | .int _ => True
 | .str x => ∀ c ∈ x.cps.toList, c < 0x110000
 | .tup xs => jX xs
 | .lst xs => jX xs
 | .dct _ => False
 | .ref _ => False
 | .ty _ => False
 | .fn _ => False
def jX : List D → Prop
 | [] => True
 | d :: r => bO d ∧ jX r
end
theorem rP : ∀ {ds : List D}, jX ds ↔ ∀ d ∈ ds, bO d
 | [] => by simp [jX]
 | d :: r => by simp only [jX, rP (ds := r), List.mem_cons, forall_eq_or_imp]
mutual
theorem AF : ∀ d : D, bO d → ∃ p, toPy false d = some p ∧ p.canLay0 = true ∧ p.depth = bJ d
 | .non, _ => ⟨.none, rfl, rfl, rfl⟩
 | .bl b, _ => ⟨.bool b, rfl, rfl, rfl⟩
 | .int i, _ => ⟨.int i, rfl, rfl, rfl⟩
 | .str x, h => ⟨.str x, rfl, by
   have h' : ∀ c ∈ x.cps.toList, c < 0x110000 := by simpa only [bO] using h
   simp only [PyData.canLay0, PyData.strOk]
   exact Array.all_eq_true_iff_forall_mem.mpr fun c hc => decide_eq_true (h' c (Array.mem_toList_iff.mpr hc)), rfl⟩
 | .tup xs, h => by
  obtain ⟨ps, e, s, t⟩ := Ht xs (by simpa only [bO] using h)
  exact ⟨.tuple ps, by simp only [toPy, e], by simpa only [PyData.canLay0] using s, by simp only [PyData.depth, bJ, t]⟩
 | .lst xs, h => by
  obtain ⟨ps, e, s, t⟩ := Ht xs (by simpa only [bO] using h)
  exact ⟨.list ps, by simp only [toPy, e], by simpa only [PyData.canLay0] using s, by simp only [PyData.depth, bJ, t]⟩
 | .dct kvs, h => by simp only [bO] at h
 | .ref _, h => by simp only [bO] at h
 | .ty _, h => by simp only [bO] at h
 | .fn _, h => by simp only [bO] at h
theorem Ht : ∀ ds : List D, jX ds → ∃ p, ie false ds = some p ∧ PyData.canLayAll0 p = true ∧ PyData.depthAll p = fW ds
 | [], _ => ⟨[], rfl, rfl, rfl⟩
 | d :: r, h => by
  have h' : bO d ∧ jX r := by simpa only [jX] using h
  obtain ⟨p, e1, s1, t1⟩ := AF d h'.1
  obtain ⟨ps, e2, s2, t2⟩ := Ht r h'.2
  exact ⟨p :: ps, by simp only [ie, e1, e2], by simp only [PyData.canLayAll0, s1, s2, Bool.and_true], by simp only [PyData.depthAll, fW, t1, t2]⟩
end
mutual
theorem Hu : ∀ d : D, bO d → jD d = true
 | .non, _ => rfl
 | .bl _, _ => rfl
 | .int _, _ => rfl
 | .str _, _ => rfl
 | .tup xs, h => by simp only [jD]; exact Hv xs (by simpa only [bO] using h)
 | .lst xs, h => by simp only [jD]; exact Hv xs (by simpa only [bO] using h)
 | .dct xs, h => by simp only [bO] at h
 | .ref _, h => by simp only [bO] at h
 | .ty _, _ => rfl
 | .fn _, _ => rfl
theorem Hv : ∀ ds : List D, jX ds → vM ds = true
 | [], _ => rfl
 | d :: r, h => by
  have h' : bO d ∧ jX r := by simpa only [jX] using h
  simp only [vM, Hu d h'.1, Hv r h'.2, Bool.and_self]
end
theorem ZP {S : Store} {d : D} (h : bO d) : Mi.top S d = d := qd (Hu d h)
theorem yj {S : Store} {d : D} (h : bO d) (hd : bJ d ≤ 64) : ∃ p, j9 S d = some p ∧ toPy false d = some p ∧ p.canLay0 = true := by
 obtain ⟨p, e, s, t⟩ := AF d h
 refine ⟨p, ?_, e, s⟩
 unfold j9
 simp only [ZP h, e]
 rw [if_pos]
 unfold SeqAt.shaped
 rw [s, t, decide_eq_true hd]
 rfl
theorem Pn {S : Store} {a b : D} {p q : PyData} (h1 : j9 S a = some p) (h2 : j9 S b = some q) (hs : ∀ x y, ¬ (a = .str x ∧ b = .str y)) : lC S a b = some (PyData.eqv p q) := by
 cases a <;> cases b <;> first
  | (exact absurd ⟨rfl, rfl⟩ (hs _ _))
  | (have e : p = q := Option.some.inj (h1.symm.trans h2); subst e; simp only [lC, h1]; done)
  | (simp only [lC, h1, h2]; done)
theorem ZQ {S : Store} {x y : D} {b : Bool} (h : lC S x y = some b) : cX S x y = some (.bl b) := by
 unfold cX
 split
 ·rename_i xs
  unfold lC at h
  simp only at h
  have e3 : j9 S (.tup []) = some (.tuple []) := rfl
  rw [e3] at h
  cases e : j9 S (.tup xs) with
  | none => rw [e] at h; cases h
  | some p =>
   rw [e] at h
   cases h
   unfold j9 at e
   obtain ⟨ys, ey, el⟩ := ZK S xs
   rw [ey] at e
   simp only [toPy] at e
   cases ys with
   | nil =>
    have : xs = [] := List.length_eq_zero_iff.mp el.symm
    subst this
    cases e; rfl
   | cons x zs =>
    cases xs with
    | nil => cases el
    | cons x0 xs0 =>
    cases e4 : ie false (x :: zs) with
    | none => rw [e4] at e; cases e
    | some l =>
     rw [e4] at e
     simp only at e
     split at e
     ·cases e
      cases l with
      | nil =>
       simp only [ie] at e4
       split at e4
       ·split at e4 <;> cases e4
       ·cases e4
      | cons a l => simp [PyData.eqv, PyData.eqvAll]
     ·cases e
 ·rw [h]
section
variable {S : Store} {i j : Int} {x y z : Str} {xs ys : List D} {p : Bool}
theorem Hw : fD S (.int i) (.int j) = some (.int (i + j)) := rfl
theorem ZR (h : xs.length + ys.length ≤ sizeLine) : fD S (.tup xs) (.tup ys) = some (.tup (xs ++ ys)) := by
 show (if xs.length + ys.length ≤ sizeLine then some (D.tup (xs ++ ys)) else none) = _
 rw [if_pos h]
theorem Pq : Z8 S (.int i) (.int j) = some (.int (i + j)) := rfl
theorem Pu : xK S (.int i) (.int j) = some (.int (i - j)) := rfl
theorem Px : xM S (.int i) = some (.int (-i)) := rfl
theorem Py : tY S (.int i) (.int j) = some (.bl (decide (i < j))) := rfl
theorem PL : o8 S (.int i) (.int j) = some (.bl (decide (i ≤ j))) := rfl
theorem PR : vK S (.int i) (.int j) = some (.bl (decide (j < i))) := rfl
theorem PU : MM S (.int i) (.int j) = some (.bl (decide (j ≤ i))) := rfl
theorem Hz : cX S (.str x) (.str y) = some (.bl (x == y)) := rfl
theorem PY : jk S (.str x) (.str y) = some (.bl (!(x == y))) := rfl
theorem PZ : cX S (.int i) (.int j) = some (.bl (i == j)) := by
 show (match (some (PyData.eqv (.int i) (.int j)) : Option Bool) with | some b => some (D.bl b) | none => none) = _
 simp [PyData.eqv]
theorem Q5 : jk S (.int i) (.int j) = some (.bl (!(i == j))) := by
 show (match (some (PyData.eqv (.int i) (.int j)) : Option Bool) with | some b => some (D.bl (!b)) | none => none) = _
 simp [PyData.eqv]
theorem Q6 : bA S (.lst xs) (.int i) = atI xs i := rfl
theorem Q7 : bA S (.tup xs) (.int i) = atI xs i := rfl
theorem Q8 : fH S [.lst xs] = some (.int xs.length) := rfl
theorem Q9 : fH S [.tup xs] = some (.int xs.length) := rfl
theorem ZS (h : x.length ≤ sizeLine) : fH S [.str x] = some (.int x.length) := by
 show (if x.length ≤ sizeLine then _ else _) = _
 rw [if_pos h]
theorem Qa : vQ S [.int i, .int j] = some (.int (max i j)) := by
 show some (D.int (if j > i then j else i)) = _
 congr 2
 split <;> omega
theorem Qc : CK S [.int i, .int j] = some (.int (min i j)) := by
 show some (D.int (if j < i then j else i)) = _
 congr 2
 split <;> omega
theorem Qe : u9 S [.int i] = some (.int (if i < 0 then -i else i)) := rfl
theorem Qg : mF (.bl p) = some p := rfl
theorem HA : jx S (.bl p) = some p := rfl
theorem Qh : itemsOf (.lst xs) = some xs := rfl
theorem HC : itemsOf (.tup xs) = some xs := rfl
theorem Qi : itemsOf (.str x) = some (mJ x) := rfl
theorem Ql : fTuple S [.lst xs] = some (.tup xs) := rfl
theorem Qm : fTuple S [.tup xs] = some (.tup xs) := rfl
theorem Qn : jc S (.str x) (.str y) = some (.bl (u5 x y)) := rfl
theorem Qo : CF S (.str x) (.str y) = some (.bl (!u5 x y)) := rfl
theorem HD : xQ S .non .non = some (.bl true) := rfl
theorem Qp : (some (D.bl p)).bind mF = some p := rfl
theorem ZU (xs : List Str) (x : Str) : (xs.map PyData.str).any (fun z => PyData.eqv z (.str x)) = xs.any (· == x) := by
 induction xs with
 | nil => rfl
 | cons a r ih => simp only [List.map_cons, List.any_cons, ih]; simp [PyData.eqv]
end
theorem ZV {S : Store} {x : Str} {ys : List Str} (hx : ∀ c ∈ x.cps.toList, c < 0x110000) (hy : ∀ y ∈ ys, ∀ c ∈ y.cps.toList, c < 0x110000) : xR S (.str x) (.tup (ys.map D.str)) = some (ys.any (· == x)) := by
 have hn : bO (.str x) := by simpa only [bO] using hx
 have hm : bO (.tup (ys.map D.str)) := by
  simp only [bO, rP]
  intro d hd
  obtain ⟨y, hy', rfl⟩ := List.mem_map.mp hd
  simpa only [bO] using hy y hy'
 have hdp : bJ (.tup (ys.map D.str)) ≤ 64 := by
  have : fW (ys.map D.str) ≤ 0 := yh fun d hd => by obtain ⟨y, _, rfl⟩ := List.mem_map.mp hd; simp [bJ]
  simp only [bJ]; omega
 have e1 : j9 S (.str x) = some (.str x) := by
  obtain ⟨p, e, e2, _⟩ := yj (S := S) hn (by simp [bJ])
  simp only [toPy] at e2
  rw [e, e2]
 have e2 : j9 S (.tup (ys.map D.str)) = some (.tuple (ys.map PyData.str)) := by
  obtain ⟨p, e, e2, _⟩ := yj (S := S) hm hdp
  have : ie false (ys.map D.str) = some (ys.map PyData.str) := by
   clear hy hm hdp e e2
   induction ys with
   | nil => rfl
   | cons a r ih => simp only [List.map_cons, ie, toPy, ih]
  simp only [toPy, this] at e2
  rw [e, e2]
 simp only [xR, e1, e2, ZU]
theorem AG {S : Store} {x : Str} {ys : List Str} (hx : ∀ c ∈ x.cps.toList, c < 0x110000) (hy : ∀ y ∈ ys, ∀ c ∈ y.cps.toList, c < 0x110000) : jc S (.str x) (.tup (ys.map D.str)) = some (.bl (ys.any (· == x))) := by
 unfold jc; rw [ZV hx hy]
theorem yq {xs : List D} {i : Nat} (h : i < xs.length) : atI xs (i : Int) = xs[i]? := by
 unfold atI ixN
 rw [if_pos (by omega), if_pos (by omega)]
 simp
theorem at0 {x : D} {xs : List D} : atI (x :: xs) 0 = some x := yq (i := 0) (by simp)
theorem at1 {x y : D} {xs : List D} : atI (x :: y :: xs) 1 = some y := yq (i := 1) (by simp)
theorem at2 {x y z : D} {xs : List D} : atI (x :: y :: z :: xs) 2 = some z := yq (i := 2) (by simp)
theorem Qq {x y z w : D} {xs : List D} : atI (x :: y :: z :: w :: xs) 3 = some w := yq (i := 3) (by simp)
theorem ZW {S : Store} {ns : List Int} {k : Nat} {Q : D → Store → Prop} {E : bD → Store → Prop} (hn : ns.length ≤ 63) (hk : k < 100) (q : ∀ S', RS (S ++ [.lst []]) S.length S' → Q (.ref S.length) S') : ((aY 3 CT) [.lst (gM ns), .int k] S).al Q E := by
 have hl : (gM ns).length = ns.length := by unfold gM; rw [List.length_map]
 have key : ∀ z : Int, (mG (bH (aC tY (ak 1) (aQ fH (ao (ak 0) aq)))) (aC bA (ak 0) (ak 1)) (aC fD (aC jQ (mC (.int 13)) (ak 1)) (mC (.int 6)))) [.sh (.lst (gM ns)), .sh (.int k), .un] S = .ok (.int z) S →
   ((aY 3 CT) [.lst (gM ns), .int k] S).al Q E := by
  intro z hz
  obtain ⟨A, hA⟩ : ∃ A : Int, A = (if z < 0 then -z else z) := ⟨_, rfl⟩
  have hA0 : 0 ≤ A := by rw [hA]; split <;> omega
  obtain ⟨B, hB⟩ : ∃ B : Int, B = A.fmod 2147483579 := ⟨_, rfl⟩
  have hB0 : 0 ≤ B := by rw [hB, Int.fmod_eq_emod_of_nonneg _ (by decide)]; exact Int.emod_nonneg _ (by decide)
  have hB1 : B < 2147483579 := by rw [hB, Int.fmod_eq_emod_of_nonneg _ (by decide)]; exact Int.emod_lt_of_pos _ (by decide)
  have k1 : nZ 307 (k : Int) = true := by unfold nZ; simp
  have e : (aY 3 CT) [.lst (gM ns), .int k] S = .ok (.ref S.length) (S ++ [.lst [.int (if A - 1000000000000000000 > 0 then A - 1000000000000000000 else 0), .int (B + 307 * k + 11)]]) := by
   unfold aY CT
   simp only [List.length_cons, List.length_nil, List.map_cons, List.map_nil, List.replicate, List.cons_append, List.nil_append, aN, eG]
   rw [hz]
   simp [R.st, aW, xC, dZ, ao, aq, aQ, aC, mC, ak, vQ, u9, xK, o7, fD, mO, jQ, R.bind, R.opt, ← hA, ← hB, k1, BZ, sizeLine_eq, C4]
  rw [e]
  refine q _ ⟨(if A - 1000000000000000000 > 0 then A - 1000000000000000000 else 0), (B + 307 * k + 11), ?_, ?_, ?_, by simp, ?_⟩
  ·split <;> omega
  ·omega
  ·omega
  ·rw [List.set_append_right _ _ (Nat.le_refl _)]; simp
 by_cases hlt : k < ns.length
 ·refine key ns[k] ?_
  simp [mG, bH, aC, ak, aQ, ao, aq, fH, bu, hl, tY, R.bind, R.opt, mF, hlt, bA, atI, ixN, gM]
 ·refine key (13 * k + 6) ?_
  have k1 : nZ 13 (k : Int) = true := by unfold nZ; simp
  simp [mG, bH, aC, ak, aQ, ao, aq, fH, bu, hl, tY, R.bind, R.opt, mF, hlt, mC, jQ, fD, k1]
section
variable {pr : Program} {w : World}
/-- repr(v), as an f-string asks for it -/
theorem ZX {A : Around} {E Q : Value → Shared → Prop} {s : Shared} {v : Value} {d : PyData} (r : RD s.heap v d) (sh : d.showable = true) (sz : d.shown.length ≤ sizeLine) (hg : A.guards = some []) (hu : A.units + (d.depth + 1) < cLine)
  (hQ : ∀ h' u tk, (∀ b o, s.heap.get? b = some o → h'.get? b = some o) → Q (.str d.shown u) { s with heap := h', toks := tk }) : wpAny (model pr w) A (pyReprObj v) Q E s := by
 cases r with
 | non => simp only [PyData.shown] at hQ; exact wpAny_pyReprObj_gives (PySem.typeIs_none s) F.slot_NoneType_repr F.entry_NoneType_repr (F.args_NoneType_repr_1 _) gives_none_repr (hQ s.heap _ _ fun _ _ e => e)
 | bl b => simp only [PyData.shown] at hQ; exact wpAny_pyReprObj_gives (PySem.typeIs_bool s b) F.slot_bool_repr F.entry_bool_repr (F.args_bool_repr_1 _) (gives_bool_repr b) (hQ s.heap _ _ fun _ _ e => e) (hx := by cases b <;> decide)
 | int i t => simp only [PyData.shown] at hQ; exact pyReprObj_int (by simpa [PyData.showable] using sh) (hQ s.heap _ _ fun _ _ e => e)
 | str x t => simp only [PyData.shown] at hQ sz; exact pyReprObj_str (hQ s.heap _ _ fun _ _ e => e) sz
 | @lst a o l n xs g c e r =>
  simp only [PyData.shown] at sz hQ
  simp only [PyData.depth] at hu
  obtain ⟨bs, hb, k⟩ := lF (pr := pr) (w := w) r (by simpa [PyData.showable] using sh) fun t m => Nat.le_trans (listText_mem_le m) sz
  obtain ⟨as, rr⟩ := (RD.lst g c e r).reads
  have out := not_mem_of_deeper rr (by simp only [PyData.depth]; omega : PyData.depthAll xs < _) hb
  refine wpAny_pyReprObj_slot (by omega) ⟨o, g, c⟩ F.slot_list_repr.toG ?_
  match l, e, k with
  | [], e, k =>
   cases hx : PyData.shownAll xs with
   | cons t ts => rw [hx] at k; cases k
   | nil => rw [hx, listText_nil] at hQ; exact call_list_repr_empty ⟨o, g, c⟩ g e ⟨_, _, rfl, hQ s.heap _ _ fun _ _ e => e⟩
  | x :: l, e, k => exact call_list_reprK g c e out (by simpa using (CL k).symm) (fun i y z => k.item i y (by simpa using z)) hg (fun b _ => Clear.nil b) (by omega) (fun _ _ e => e) (fun h' u tk q => ⟨_, _, rfl, hQ h' u tk q⟩) sz
 | @tup a o l n xs g c e r =>
  simp only [PyData.shown] at sz hQ
  simp only [PyData.depth] at hu
  obtain ⟨bs, hb, k⟩ := lF (pr := pr) (w := w) r (by simpa [PyData.showable] using sh) fun t m => Nat.le_trans (tupleText_mem_le m) sz
  obtain ⟨as, rr⟩ := (RD.tup g c e r).reads
  have out := not_mem_of_deeper rr (by simp only [PyData.depth]; omega : PyData.depthAll xs < _) hb
  refine wpAny_pyReprObj_slot (by omega) ⟨o, g, c⟩ F.slot_tuple_repr ?_
  exact call_tuple_reprK g c e out (by simpa using k) hg (fun b _ => Clear.nil b) (by omega) (fun _ _ e => e) (fun h' u tk q => ⟨_, _, rfl, hQ h' u tk q⟩) sz
 | @dct a o es n kvs g c e sy r1 r2 =>
  simp only [PyData.shown] at sz hQ
  simp only [PyData.depth] at hu
  obtain ⟨sh1, Ak⟩ := PyData.showableKv_split kvs (by simpa [PyData.showable] using sh)
  have low : ∀ t : Str, (∃ p ∈ PyData.shownKv kvs, t.length ≤ p.length) → t.length ≤ sizeLine := fun t ⟨p, m, q⟩ => Nat.le_trans q (Nat.le_trans (dictText_mem_le m) sz)
  obtain ⟨b1, hb1, k1⟩ := lF (pr := pr) (w := w) r1 sh1 fun t m => low t (PyData.shownKv_key_le kvs t m)
  obtain ⟨b2, hb2, k2⟩ := lF (pr := pr) (w := w) r2 Ak fun t m => low t (PyData.shownKv_val_le kvs t m)
  obtain ⟨as, rr⟩ := (RD.dct g c e sy r1 r2).reads
  have l1 := PyData.depthAll_keys_le kvs
  have l2 := PyData.depthAll_vals_le kvs
  have out := not_mem_of_deeper rr (by simp only [PyData.depth]; omega : PyData.depthKv kvs < _) ((hb1.mono l1).append (hb2.mono l2))
  refine wpAny_pyReprObj_slot (by omega) ⟨o, g, c⟩ F.slot_dict_repr ?_
  rw [PyData.shownKv_eq] at sz hQ
  refine call_dict_reprK g c e sy out (ReprEntriesK.of_two _ _ _ (k1.more_le (fun b m => ?_) l1) (k2.more_le (fun b m => ?_) l2)) hg (fun b _ => Clear.nil b) (by omega) (fun _ _ e => e) (fun h' u tk q => ⟨_, _, rfl, hQ h' u tk q⟩) sz
  ·exact List.mem_append.mpr (.inl m)
  ·exact List.mem_append.mpr (.inr m)
end
def jF (S : Store) (d : D) : Option D := match toPy true (top S d) with
 | some p => if p.showable = true ∧ p.shown.length ≤ sizeLine ∧ p.depth ≤ 64 then some (.str p.shown) else none
 | none => none
def yr (S : Store) : D → Option D
 | .str y => if y.length ≤ sizeLine then some (.str y) else none
 | .int i => if i.natAbs.log2 < 1920 then some (.str (toString i)) else none
 | _ => none
def oG : List EX → Str → EX
 | [], acc => fun _ S => .ok (.str acc) S
 | t :: ts, acc => fun ρ S => (t ρ S).bind fun x S1 => match x with
  | .str y => if (acc ++ y).length ≤ sizeLine then oG ts (acc ++ y) ρ S1 else .stuck
  | _ => .stuck
def uz (ts : List EX) : EX := oG ts Str.empty
section
variable {X : Cx} {W : WX} {b : Bool} {e : Expr} {ma : EX} {pos : Pos}
theorem yt (hg : X.A.guards = some []) (hu : X.A.units + 65 < cLine) (he : PM (aj X) W b X e ma) : PM (aj X) W b X (.FormattedValue e 114 none pos) (cW jF ma) := by
 refine ⟨fun pins s σ H Q I h => ?_⟩
 have h' := A6 (r := fun x H1 Q => GB X [x] H1 Q) (fun Z H β S x dx dz Q A rx e k => by
  unfold jF at e
  split at e
  ·rename_i p ep
   split at e
   ·rename_i hz
    cases e
    exact ⟨β, x, top S dx, p, rfl, rx.top A.st, ep, hz.1, hz.2.1, hz.2.2, k _ H (Same.refl _) (.str _)⟩
   ·cases e
  ·cases e) h
 refine wpAny_FormattedValue_repr (thn (he.run pins s σ H _ I h') fun v s1 hv => ?_)
 obtain ⟨x, H1, I1, r1, β, x', d, p, ex, rv, e, h1, h2, h3, q⟩ := hv
 cases ex
 exact ZX (CM I1 rv r1 e) h1 h2 hg (by omega) fun h' t tk k => wpAny_formatField_str ⟨.str p.shown, H1, I1.kept k, ⟨_, rfl⟩, q⟩ ⟨.str p.shown, H1, I1.kept k, ⟨_, rfl⟩, q⟩ h2
theorem Qs (he : PM (aj X) W b X e ma) : PM (aj X) W b X (.FormattedValue e (-1) none pos) (cW yr ma) :=
 bW (pe_fmt he) fun σ H Q h => A6 (r := fun x H1 Q => (∃ y : Str, x = .str y ∧ y.length ≤ sizeLine ∧ Q (.str y) H1) ∨ ∃ i : Int, x = .int i ∧ i.natAbs.log2 < 1920 ∧ Q (.str (toString i)) H1) (fun Z H β S x dx dz Q A rx e k => by
  unfold yr at e
  split at e
  ·split at e
   ·rename_i hz
    cases e
    cases rx
    exact .inl ⟨_, rfl, hz, k _ H (Same.refl _) (.str _)⟩
   ·cases e
  ·split at e
   ·rename_i hz
    cases e
    cases rx
    exact .inr ⟨_, rfl, hz, k _ H (Same.refl _) (.str _)⟩
   ·cases e
  ·cases e) h
inductive qj (C : Ct) (W : WX) (b : Bool) (X : Cx) : List Expr → List EX → Prop where
 | nil : qj C W b X [] []
 | cons {e : Expr} {m : EX} {es : List Expr} {ms : List EX} (h : PM C W b X e m) (r : qj C W b X es ms) : qj C W b X (e :: es) (m :: ms)
theorem qj.pj {C : Ct} {es : List Expr} {ms : List EX} (h : qj C W b X es ms) : PJ X es (ms.map (EM C W b)) := by
 induction h with
 | nil => exact .nil
 | cons h r ih => exact .cons h ih
theorem Qt {C : Ct} : ∀ {ms : List EX} {acc : Str} {σ : L2.St} {H : Hp} {Q : VK}, EM C W b (oG ms acc) σ H Q → tJs (ms.map (EM C W b)) acc σ H fun out H1 => Q (.str out) H1
 | [], acc, σ, H, Q, h => by
  obtain ⟨cf, oa, P, β, ρ, S, L, h⟩ := h
  exact h _ H β Tr.refl L (.str _)
 | m :: ms, acc, σ, H, Q, h => by
  obtain ⟨cf, oa, P, β, ρ, S, L, h⟩ := h
  unfold oG at h
  refine ⟨cf, oa, P, β, ρ, S, L, ?_⟩
  cases ea : m ρ S with
  | stuck => rw [ea] at h; exact h
  | exc e S1 => rw [ea] at h; exact h
  | ok dx S1 =>
   rw [ea] at h
   simp only [R.bind] at h
   intro x H1 β1 e1 L1 rx
   cases dx with
   | str y =>
    simp only at h
    by_cases hz : (acc ++ y).length ≤ sizeLine
    ·rw [if_pos hz] at h
     cases rx
     refine ⟨y, rfl, hz, Qt ⟨cf, oa, P, β1, ρ, S1, L1, ?_⟩⟩
     cases eb : oG ms (acc ++ y) ρ S1 with
     | stuck => rw [eb] at h; exact h
     | exc e S2 =>
      rw [eb] at h
      intro cls d H' β' e2 L2 ex
      exact h cls d H' β' (e1.trans e2) L2 ex
     | ok d S2 =>
      rw [eb] at h
      intro v H' β' e2 L2 r
      exact h v H' β' (e1.trans e2) L2 r
    ·rw [if_neg hz] at h; exact h.elim
   | _ => exact (show False from h).elim
theorem Dh {v1 v2 : Expr} {rest : List Expr} {ms : List EX} (h : qj (aj X) W b X (v1 :: v2 :: rest) ms) : PM (aj X) W b X (.JoinedStr (v1 :: v2 :: rest) pos) (uz ms) :=
 bW (pe_joined h.pj) fun σ H Q h => Qt h
end
def bZ (ρ : aF) : Bool := ρ.all fun s => match s with | .ex _ => false | _ => true
def SR.chk : SR → SR
 | .nx ρ S => if bZ ρ = true then .nx ρ S else .stuck
 | .bk ρ S => if bZ ρ = true then .bk ρ S else .stuck
 | .ct ρ S => if bZ ρ = true then .ct ρ S else .stuck
 | .exc e ρ S => if bZ ρ = true then .exc e ρ S else .stuck
 | .rt d S => .rt d S
 | .stuck => .stuck
/-- behind an except suite: the name is gone -/
def SR.wg (i : Nat) : SR → SR
 | .nx ρ S => if bZ (ρ.set i .un) = true then .nx (ρ.set i .un) S else .stuck
 | .bk ρ S => if bZ (ρ.set i .un) = true then .bk (ρ.set i .un) S else .stuck
 | .ct ρ S => if bZ (ρ.set i .un) = true then .ct (ρ.set i .un) S else .stuck
 | .rt d S => .rt d S
 | .exc _ _ _ => .stuck
 | .stuck => .stuck
section
variable {C C' : Ct} {cf : Cf} {oa : Nat → Option Addr} {P P' : Addr → Prop} {σ : L2.St} {H H' : Hp} {β β' : List Addr} {ρ : aF} {S S' : Store}
theorem ZY (h : bZ ρ = true) {i : Nat} {e : bD} (q : ρ[i]? = some (Sl.ex e)) : False := by
 have := List.all_eq_true.mp h _ (List.mem_of_getElem? q)
 exact Bool.false_ne_true this
theorem cP.ct (k : C'.K = C.K) (m : C'.mg = C.mg) {a : Addr} {d : D} (h : cP C H P β a d) : cP C' H P β a d := by
 cases d <;> first | exact h.elim | skip
 ·obtain ⟨xs, q, r⟩ := h; exact ⟨xs, q, r.ct k m⟩
 ·obtain ⟨xs, q, r⟩ := h; exact ⟨xs, q, r.ct k m⟩
theorem LR.ct (k : C'.K = C.K) (m : C'.mg = C.mg) (L : LR C cf oa P σ H β ρ S) (hn : bZ ρ = true) : LR C' cf oa P σ H β ρ S where
 len := L.len
 p := L.p
 sub := L.sub
 p0 := L.p0
 ext := L.ext
 own := L.own
 inj := L.inj
 st := L.st.ct k m
 slot := fun i d h => let ⟨v, q1, q2⟩ := L.slot i d h; ⟨v, q1, q2.ct k m⟩
 bV := fun i d h => let ⟨a, q1, q2, q3⟩ := L.bV i d h; ⟨a, q1, q2, q3.ct k m⟩
 xslot := fun i e h => (ZY hn h).elim
/-- a slot is set to what is no value -/
theorem LR.Qu (L : LR C cf oa P σ H β ρ S) {i : Nat} {w : Option V} {s : Sl} (h1 : ∀ d, s ≠ .sh d) (h2 : ∀ d, s ≠ .ow d) (h3 : ∀ e, s = .ex e → ∃ a, w = some (.ref a) ∧ iI C H P β a e) :
  LR C cf (fun j => if j = i then none else oa j) P (σ.set i w) H β (ρ.set i s) S where
 len := by rw [List.length_set, List.length_set]; exact L.len
 p := L.p
 sub := L.sub
 p0 := L.p0
 ext := L.ext
 own := fun j a h => by
  by_cases e : j = i
  ·rw [if_pos e] at h; cases h
  ·rw [if_neg e] at h; exact L.own j a h
 inj := fun j k a h1 h2 => by
  by_cases e : j = i
  ·rw [if_pos e] at h1; cases h1
  ·by_cases e2 : k = i
   ·rw [if_pos e2] at h2; cases h2
   ·rw [if_neg e] at h1; rw [if_neg e2] at h2; exact L.inj j k a h1 h2
 st := L.st
 slot := fun j x h => by
  by_cases e : i = j
  ·subst e
   by_cases hl : i < ρ.length
   ·rw [List.getElem?_set_self hl] at h; cases h; exact (h1 _ rfl).elim
   ·rw [List.getElem?_eq_none (by rw [List.length_set]; omega)] at h; cases h
  ·rw [List.getElem?_set_ne e] at h
   obtain ⟨u, q1, q2⟩ := L.slot j x h
   exact ⟨u, by rw [List.getElem?_set_ne e]; exact q1, q2⟩
 bV := fun j x h => by
  by_cases e : i = j
  ·subst e
   by_cases hl : i < ρ.length
   ·rw [List.getElem?_set_self hl] at h; cases h; exact (h2 _ rfl).elim
   ·rw [List.getElem?_eq_none (by rw [List.length_set]; omega)] at h; cases h
  ·rw [List.getElem?_set_ne e] at h
   obtain ⟨a, q0, q1, q2⟩ := L.bV j x h
   exact ⟨a, by rw [if_neg fun z => e z.symm]; exact q0, by rw [List.getElem?_set_ne e]; exact q1, q2⟩
 xslot := fun j x h => by
  by_cases e : i = j
  ·subst e
   by_cases hl : i < ρ.length
   ·rw [List.getElem?_set_self hl] at h
    cases h
    obtain ⟨a, rfl, q⟩ := h3 _ rfl
    exact ⟨a, List.getElem?_set_self (by rw [L.len]; exact hl), q⟩
   ·rw [List.getElem?_eq_none (by rw [List.length_set]; omega)] at h; cases h
  ·rw [List.getElem?_set_ne e] at h
   obtain ⟨b, q1, q2⟩ := L.xslot j x h
   exact ⟨b, by rw [List.getElem?_set_ne e]; exact q1, q2⟩
theorem LR.HE (L : LR C cf oa P σ H β ρ S) {i : Nat} {w : Option V} : LR C cf (fun j => if j = i then none else oa j) P (σ.set i w) H β (ρ.set i .un) S :=
 L.Qu (fun _ z => nomatch z) (fun _ z => nomatch z) (fun _ z => nomatch z)
theorem SQ.ct {W : WX} {D : Ends} {r : SR} (k : C'.K = C.K) (m : C'.mg = C.mg) (h : SQ C W cf H P β D r.chk) : SQ C' W cf H P β D r := by
 cases r with
 | nx ρ1 S1 =>
  unfold SR.chk at h
  by_cases hn : bZ ρ1 = true
  ·simp only [if_pos hn] at h
   exact fun σ' H' β' bf P' L f => h σ' H' β' bf P' (L.ct k.symm m.symm hn) f
  ·simp only [if_neg hn] at h; exact h.elim
 | bk ρ1 S1 =>
  unfold SR.chk at h
  by_cases hn : bZ ρ1 = true
  ·simp only [if_pos hn] at h
   exact fun σ' H' β' bf P' L f => h σ' H' β' bf P' (L.ct k.symm m.symm hn) f
  ·simp only [if_neg hn] at h; exact h.elim
 | ct ρ1 S1 =>
  unfold SR.chk at h
  by_cases hn : bZ ρ1 = true
  ·simp only [if_pos hn] at h
   exact fun σ' H' β' bf P' L f => h σ' H' β' bf P' (L.ct k.symm m.symm hn) f
  ·simp only [if_neg hn] at h; exact h.elim
 | exc e ρ1 S1 =>
  unfold SR.chk at h
  by_cases hn : bZ ρ1 = true
  ·simp only [if_pos hn] at h
   exact fun cls x σ' H' β' bf P' L f q => h cls x σ' H' β' bf P' (L.ct k.symm m.symm hn) f (q.ct k.symm m.symm)
  ·simp only [if_neg hn] at h; exact h.elim
 | rt d S1 => exact fun v H' β' a f b c => h v H' β' a f (b.ct k.symm m.symm) (c.ct k.symm m.symm)
 | stuck => exact h
/-- the reading of a b28 body: the context of the whole stands for it -/
def Qv (C : Ct) (W : WX) (m : SX) : TS := fun D σ H => ∃ cf oa P β ρ S, bZ ρ = true ∧ LR C cf oa P σ H β ρ S ∧ SQ C W cf H P β D (m ρ S).chk
theorem ZZ {X : Cx} {W : WX} {b : List Stmt} {m : SX} (k : C'.K = C.K) (g : C'.mg = C.mg) (h : jP C' W X b m) : PSs X b (Qv C W m) := zX h fun D σ H ⟨cf, oa, P, β, ρ, S, hn, L, q⟩ => ⟨cf, oa, P, β, ρ, S, L.ct k g hn, q.ct k g⟩
/-- what is wanted of a b29 result -/
def Qw (C : Ct) (i : Nat) (cf : Cf) (H : Hp) (P : Addr → Prop) (β : List Addr) (D : Ends) : SR → Prop
 | .nx ρ' S' => bZ (ρ'.set i .un) = true ∧ ∀ σ' H' β' bf P', LR C cf bf P' (σ'.set i none) H' β' (ρ'.set i .un) S' → Fx H P β H' P' β' → D.nx σ' H'
 | .bk ρ' S' => bZ (ρ'.set i .un) = true ∧ ∀ σ' H' β' bf P', LR C cf bf P' (σ'.set i none) H' β' (ρ'.set i .un) S' → Fx H P β H' P' β' → D.bk σ' H'
 | .ct ρ' S' => bZ (ρ'.set i .un) = true ∧ ∀ σ' H' β' bf P', LR C cf bf P' (σ'.set i none) H' β' (ρ'.set i .un) S' → Fx H P β H' P' β' → D.ct σ' H'
 | .rt d S' => ∀ v H' β', rE cf H' β' → Fs H β H' β' → aP C H' cf.P0 β' S' → RV C H' cf.P0 β' v d → D.rt v H'
 | .exc _ _ _ => False
 | .stuck => False
def Qx (C : Ct) (i : Nat) (m : SX) (a : Addr) (cls : Value) (d : Option Addr) : TS := fun D σ H => ∃ cf oa P β ρ S e σ0, σ = σ0.set i (some (.ref a)) ∧ bZ ρ = true ∧ LR C cf oa P σ0 H β ρ S ∧ mD C H P β cls d e ∧ Qw C i cf H P β D (m (ρ.set i (.ex e)) S)
end
abbrev rQ : WX := fun _ _ _ _ => False
section
variable {X : Cx} {W : WX} {i : Nat} {c : Value} {body suite : List Stmt} {ms : SX}
theorem a00 {a : Addr} {oe : Obj} {cls : Value} {d : Option Addr} {pn : List (Addr × Obj)} (hz : Zc cls d oe) (hf : ∃ vs, oe.data = .fields vs) (h : jP (aj (X.suite a ((a, oe) :: pn))) rQ (X.suite a ((a, oe) :: pn)) body ms) :
  PSs (X.suite a ((a, oe) :: pn)) body (Qx (aj X) i ms a cls d) := zX h fun D σ H h => by
 obtain ⟨cf, oa, P, β, ρ, S, e, σ0, rfl, hn, L, ex, q⟩ := h
 obtain ⟨Ca, dd, vs, h1, h2, h3, h4, h5, h6, h7⟩ := ex
 have L1 : LR (aj (X.suite a ((a, oe) :: pn))) cf oa P σ0 H β ρ S := LR.ct (C := aj X) (C' := aj (X.suite a ((a, oe) :: pn))) rfl rfl L hn
 have xa : iI (aj (X.suite a ((a, oe) :: pn))) H P β a e := ⟨oe, Ca, dd, vs, List.mem_cons_self, by rw [← h2, ← h3]; exact hz, hf, h1, h4, h5, h6, fun f y z => let ⟨v, q1, q2⟩ := h7 f y z; ⟨v, q1, RV.ct (C := aj X) (C' := aj (X.suite a ((a, oe) :: pn))) rfl rfl q2⟩⟩
 have L2 := L1.Qu (i := i) (w := some (.ref a)) (s := .ex e) (fun _ z => nomatch z) (fun _ z => nomatch z) (fun e' z => by cases z; exact ⟨a, rfl, xa⟩)
 refine ⟨cf, _, P, β, _, S, L2, ?_⟩
 cases er : ms (ρ.set i (.ex e)) S with
 | nx ρ1 S1 => rw [er] at q; exact fun σ' H' β' bf P' L f => q.2 σ' H' β' _ P' (LR.ct (C := aj (X.suite a ((a, oe) :: pn))) (C' := aj X) rfl rfl (L.HE (i := i)) q.1) f
 | bk ρ1 S1 => rw [er] at q; exact fun σ' H' β' bf P' L f => q.2 σ' H' β' _ P' (LR.ct (C := aj (X.suite a ((a, oe) :: pn))) (C' := aj X) rfl rfl (L.HE (i := i)) q.1) f
 | ct ρ1 S1 => rw [er] at q; exact fun σ' H' β' bf P' L f => q.2 σ' H' β' _ P' (LR.ct (C := aj (X.suite a ((a, oe) :: pn))) (C' := aj X) rfl rfl (L.HE (i := i)) q.1) f
 | rt d1 S1 => rw [er] at q; exact fun v H' β' a f b c => q v H' β' a f (aP.ct (C := aj (X.suite _ ((_, oe) :: pn))) (C' := aj X) rfl rfl b) (RV.ct (C := aj (X.suite _ ((_, oe) :: pn))) (C' := aj X) rfl rfl c)
 | exc e1 ρ1 S1 => rw [er] at q; exact q.elim
 | stuck => rw [er] at q; exact q
theorem a01 {cf : Cf} {H H1 : Hp} {P P1 : Addr → Prop} {β β1 : List Addr} {D : Ends} {r : SR} (f1 : Fx H P β H1 P1 β1) (h : SQ (aj X) W cf H P β D (r.wg i)) :
  Qw (aj X) i cf H1 P1 β1 { nx := fun σ' H' => D.nx (σ'.set i none) H', rt := D.rt, bk := fun σ' H' => D.bk (σ'.set i none) H', ct := fun σ' H' => D.ct (σ'.set i none) H' } r := by
 cases r with
 | nx ρ1 S1 =>
  unfold SR.wg at h
  by_cases hn : bZ (ρ1.set i .un) = true
  ·simp only [if_pos hn] at h
   exact ⟨hn, fun σ' H' β' bf P' L f => h _ H' β' bf P' L (f1.trans f)⟩
  ·simp only [if_neg hn] at h; exact h.elim
 | bk ρ1 S1 =>
  unfold SR.wg at h
  by_cases hn : bZ (ρ1.set i .un) = true
  ·simp only [if_pos hn] at h
   exact ⟨hn, fun σ' H' β' bf P' L f => h _ H' β' bf P' L (f1.trans f)⟩
  ·simp only [if_neg hn] at h; exact h.elim
 | ct ρ1 S1 =>
  unfold SR.wg at h
  by_cases hn : bZ (ρ1.set i .un) = true
  ·simp only [if_pos hn] at h
   exact ⟨hn, fun σ' H' β' bf P' L f => h _ H' β' bf P' L (f1.trans f)⟩
  ·simp only [if_neg hn] at h; exact h.elim
 | rt d1 S1 => exact fun v H' β' a f b c => h v H' β' a (f1.fs.trans f) b c
 | exc e1 ρ1 S1 => exact h.elim
 | stuck => exact h
end
/-- e.f -/
def lJ (cs : List Str) (i : Nat) (f : Str) : EX := fun ρ S => match ρ[i]? with
 | some (.ex e) => if cs.contains e.cls = true then R.opt (e.fs.lookup f) S else .stuck
 | _ => .stuck
/-- isinstance(e, ..) by a table: class, class asked for -/
def Qy (T : List ((Str × Str) × Bool)) (U : List ((Str × String) × Bool)) (c : Str) : D → Option Bool
 | .fn x => T.lookup (c, x)
 | .ty n => U.lookup (c, n)
 | _ => none
def yu (K : PySem.W.Frag) (mg : Str → Option Value) : List Str → Prop
 | [] => True
 | c :: r => (∃ Ca, mg c = some (.ref Ca) ∧ ExcC K Ca) ∧ yu K mg r
def rR (K : PySem.W.Frag) (mg : Str → Option Value) : List ((Str × Str) × Bool) → Prop
 | [] => True
 | p :: r => (∃ Ca Da, mg p.1.1 = some (.ref Ca) ∧ mg p.1.2 = some (.ref Da) ∧ PySem.W.kitOne K (.ref Ca) (.ref Da) = some p.2) ∧ rR K mg r
def rW (K : PySem.W.Frag) (mg : Str → Option Value) : List ((Str × String) × Bool) → Prop
 | [] => True
 | p :: r => (∃ Ca, mg p.1.1 = some (.ref Ca) ∧ PySem.W.kitOne K (.ref Ca) (.type p.1.2) = some p.2) ∧ rW K mg r
def uD (K : PySem.W.Frag) (mg : Str → Option Value) (c : Value) : List (Str × Bool) → Prop
 | [] => True
 | p :: r => (∃ Ca, mg p.1 = some (.ref Ca) ∧ PySem.W.exmOne K (.ref Ca) c = some p.2) ∧ uD K mg c r
def uE (K : PySem.W.Frag) (mg : Str → Option Value) (f : Str) : List Str → Prop
 | [] => True
 | c :: r => (∃ Ca, mg c = some (.ref Ca) ∧ PySem.W.findIn K (.ref Ca) f = some none) ∧ uE K mg f r
section
variable {K : PySem.W.Frag} {mg : Str → Option Value}
theorem yu.at : ∀ {cs : List Str}, yu K mg cs → ∀ {c : Str}, cs.contains c = true → ∀ {Ca : Addr}, mg c = some (.ref Ca) → ExcC K Ca
 | [], _, _, q, _, _ => by cases q
 | c :: r, ⟨⟨Ca, h1, h2⟩, h⟩, x, q, Da, hx => by
  rw [List.contains_cons, Bool.or_eq_true] at q
  rcases q with q | q
  ·rw [eq_of_beq q, h1] at hx
   cases hx
   exact h2
  ·exact yu.at h q hx
theorem uE.at {f : Str} : ∀ {cs : List Str}, uE K mg f cs → ∀ {c : Str}, cs.contains c = true → ∀ {Ca : Addr}, mg c = some (.ref Ca) → PySem.W.findIn K (.ref Ca) f = some none
 | [], _, _, q, _, _ => by cases q
 | c :: r, ⟨⟨Ca, h1, h2⟩, h⟩, x, q, Da, hx => by
  rw [List.contains_cons, Bool.or_eq_true] at q
  rcases q with q | q
  ·rw [eq_of_beq q, h1] at hx
   cases hx
   exact h2
  ·exact uE.at h q hx
theorem rR.at : ∀ {T : List ((Str × Str) × Bool)}, rR K mg T → ∀ {c x : Str} {b : Bool}, T.lookup (c, x) = some b → ∀ {Ca Da : Addr}, mg c = some (.ref Ca) → mg x = some (.ref Da) → PySem.W.kitOne K (.ref Ca) (.ref Da) = some b
 | [], _, _, _, _, q, _, _, _, _ => by cases q
 | ((c1, x1), b1) :: r, ⟨⟨C1, D1, h1, h2, h3⟩, h⟩, c, x, b, q, Ca, Da, hc, hx => by
  rw [List.lookup_cons] at q
  by_cases e : (c, x) == (c1, x1)
  ·simp only [e, if_true] at q
   have e' := eq_of_beq e
   cases e'
   cases q
   rw [hc] at h1; cases h1
   rw [hx] at h2; cases h2
   exact h3
  ·simp only [Bool.not_eq_true] at e
   simp only [e, Bool.false_eq_true, if_false] at q
   exact rR.at h q hc hx
theorem rW.at : ∀ {T : List ((Str × String) × Bool)}, rW K mg T → ∀ {c : Str} {n : String} {b : Bool}, T.lookup (c, n) = some b → ∀ {Ca : Addr}, mg c = some (.ref Ca) → PySem.W.kitOne K (.ref Ca) (.type n) = some b
 | [], _, _, _, _, q, _, _ => by cases q
 | ((c1, x1), b1) :: r, ⟨⟨C1, h1, h3⟩, h⟩, c, x, b, q, Ca, hc => by
  rw [List.lookup_cons] at q
  by_cases e : (c, x) == (c1, x1)
  ·simp only [e, if_true] at q
   have e' := eq_of_beq e
   cases e'
   cases q
   rw [hc] at h1; cases h1
   exact h3
  ·simp only [Bool.not_eq_true] at e
   simp only [e, Bool.false_eq_true, if_false] at q
   exact rW.at h q hc
theorem uD.at {k : Value} : ∀ {T : List (Str × Bool)}, uD K mg k T → ∀ {c : Str} {b : Bool}, T.lookup c = some b → ∀ {Ca : Addr}, mg c = some (.ref Ca) → PySem.W.exmOne K (.ref Ca) k = some b
 | [], _, _, _, q, _, _ => by cases q
 | (c1, b1) :: r, ⟨⟨C1, h1, h3⟩, h⟩, c, b, q, Ca, hc => by
  rw [List.lookup_cons] at q
  by_cases e : c == c1
  ·simp only [e, if_true] at q
   have e' := eq_of_beq e
   cases e'
   cases q
   rw [hc] at h1; cases h1
   exact h3
  ·simp only [Bool.not_eq_true] at e
   simp only [e, Bool.false_eq_true, if_false] at q
   exact uD.at h q hc
end
section
variable {X : Cx} {W : WX} {b : Bool} {i : Nat} {n f x : Str} {p pn pos : Pos} {t : Expr} {cs : List Str}
theorem kitAny_cons {K : PySem.W.Frag} {t c : Value} {r : List Value} {b1 b : Bool} (h1 : PySem.W.kitOne K t c = some b1) (h2 : b1 = true ∧ b = true ∨ b1 = false ∧ PySem.W.kitAny K t r = some b) : PySem.W.kitAny K t (c :: r) = some b := by
 unfold PySem.W.kitAny
 rw [h1]
 rcases h2 with ⟨rfl, rfl⟩ | ⟨rfl, h2⟩
 ·rfl
 ·exact h2
/-- e.f -/
theorem HF (hE : yu X.K X.mg cs) (hF : uE X.K X.mg f cs) (hv : PE X (.Name n pn) (tVar i)) (hb : attributeBase (.Name n pn) f X.env (eval (.Name n pn) X.env) = eval (.Name n pn) X.env := by rfl) : PM (aj X) W b X (.Attribute (.Name n pn) f pos) (lJ cs i f) := by
 refine ⟨fun pins s σ H Q I h => ?_⟩
 obtain ⟨cf, oa, P, β, ρ, S, L, h⟩ := h
 unfold lJ at h
 cases ei : ρ[i]? with
 | none => rw [ei] at h; exact h.elim
 | some sl =>
  rw [ei] at h
  cases sl with
  | un => exact h.elim
  | sh _ => exact h.elim
  | ow _ => exact h.elim
  | ex e =>
   simp only at h
   by_cases hc : cs.contains e.cls = true
   ·rw [if_pos hc] at h
    obtain ⟨a, q1, oe, Ca, dd, vs, h1, h2, h3, h4, h5, h6, h7, h8⟩ := L.xslot i e ei
    cases ef : e.fs.lookup f with
    | none => rw [ef] at h; exact h.elim
    | some d =>
     rw [ef] at h
     obtain ⟨v, l, rv⟩ := h8 f d ef
     have q := h v H β Tr.refl L rv
     have E := hE.at hc h4
     refine attr_of hb (thn (hv.run pins s σ H (fun v' H' => v' = .ref a ∧ H' = H) I ⟨.ref a, q1, rfl, rfl⟩) fun u s1 hh => ?_)
     obtain ⟨v', H', I1, rx, rfl, rfl⟩ := hh
     obtain rfl : u = Value.ref a := rx
     obtain ⟨ha, _⟩ := I1.pin (a, oe) (List.mem_append_left _ h1)
     obtain ⟨ws, hd⟩ := h3
     obtain ⟨mA, hns, hr⟩ := (show ObjOk X.prog X.w H' s1.heap dd (.xd vs) from I1.hok dd _ h5)
     obtain ⟨od, ho, hl⟩ := lookIn_ns hns
     obtain ⟨u, hu, ru⟩ := RelO.some_of (v := v) (o := mA f) (by rw [← l]; exact hr f)
     have J : PySem.W.InstAt s1.heap a oe Ca (some od) := ⟨ha, h2.1, by unfold PySem.W.notCls; rw [hd] <;> rfl, by rw [h2.2]; exact ho⟩
     exact HandSPX.exc_get I1.kIn J E.hg E.hk E.hs (PySem.W.findObj_own E.hd (hF.at hc h4) rfl (by rw [hl, hu])) (handed_of ru) ⟨v, H', I1.tok _, ru, q⟩
   ·rw [if_neg hc] at h; exact h.elim
/-- a class of the module as a value -/
theorem a02 {Ca : Addr} (hm : X.mg x = some (.ref Ca)) (hk : PySem.W.keepIn X.K (.ref Ca) = true) (hg : Gl X x := by rfl) (hdb : (x == ("__debug__" : Str)) = false := by decide) : PM (aj X) W b X (.Name x p) (mC (.fn x)) :=
 rF (v := .ref Ca) hm rfl (fun _ _ _ => .fn hm hk) hg hdb
end
/-- raise c(..): its __init__ writes the message msg and sets the fields fs to its parameters -/
def jo (c : Str) (fs : List Str) (msg : EX) (a : AX) : SX := fun ρ S => match a ρ S with
 | .ok ds S1 => if ds.length = fs.length then match msg (.un :: ds.map Sl.sh) S1 with
   | .ok _ _ => .exc ⟨c, fs.zip ds⟩ ρ S1
   | _ => .stuck
  else .stuck
 | .exc e S1 => .exc e ρ S1
 | .stuck => .stuck
/-- the base a03 __init__ is b2a -/
structure HG (K : PySem.W.Frag) (B : Addr) : Prop where
 rd : PySem.W.readsIn K B (.type "type") = true
 fv : PySem.W.findCls K (.ref B) (.type "type") "__init__" = some (.val (.builtin "ValueError.__init__"))
 sg : PySem.W.specialIn K (.ref B) "__getattribute__" = some (some (.builtin "type.__getattribute__"))
section
variable {X : Cx} {e : Expr} {es : List Expr} {ta : TA} {bx : Str} {B : Addr} {p1 p2 pos : Pos}
theorem a04 {pl : Sem Bool} (hm : X.mg bx = some (.ref B)) (T : HG X.K B) (ha : PA X (e :: es) ta) (hg : Gl X bx := by rfl) (hdb : (bx == ("__debug__" : Str)) = false := by decide)
  (hc : eval (.Call (.Attribute (.Name bx p1) "__init__" p2) (e :: es) [] pos) X.env = (do
   let ov ← eval (.Name bx p1) X.env
   standAt p2.atName
   let (f, first) ← holding [ov] (getMethod ov "__init__" pl)
   callWith pos f first (backTo pos (starEach (e :: es) X.env)) (backToKw pos (keywordEach [] X.env))) := by rfl)
  (he : starEach (e :: es) X.env = (false, eval e X.env) :: starEach es X.env := by rfl) (hpl : (backTo pos (starEach es X.env)).any (·.1) = false := by rfl) :
  PE X (.Call (.Attribute (.Name bx p1) "__init__" p2) (e :: es) [] pos) (tVeI X.K ta) := by
 refine ⟨fun pins s σ H Q I h => ?_⟩
 refine PySem.W.methodCall_KW (ld_glob I hg hm ?_ hdb) hc
 refine PySem.W.method_cls I.kIn T.sg (PySem.W.cls_value I.kIn T.rd T.fv (by decide +kernel) ?_)
 show wpAny _ _ (callWith pos (Value.builtin "ValueError.__init__") [] (backTo pos (starEach (e :: es) X.env)) []) _ _ _
 refine PyProof.Rows.callWith_method1 (thn (ha.run pos pins _ σ H _ (I.tok _) h) fun us s1 ⟨vs, H1, I1, r1, a, C, ws, ev, hl, T, ea, q⟩ => ?_) he hpl
 subst ev
 cases r1 with
 | @cons _ u0 _ ur ra rw' =>
  obtain rfl : u0 = Value.ref a := ra
  have hlen : ur.length ≤ sizeLine := by
   rw [← Paired.length rw', sizeLine_eq]
   omega
  exact oinit_ok T I1 ea hlen fun s' J => ⟨.non, H1, J, rfl, q⟩
end
/-- what an __init__ of the class at Ca b2b -/
def spI (C : Ct) (Ca : Addr) (n : Nat) (msg : EX) (fs : List Str) : Sp := fun vs H Q E => ∃ a ws, vs = V.ref a :: ws ∧ ws.length = n ∧ H a = some (exo a Ca none) ∧
 ∃ P β ds S, aP C H P β S ∧ (∀ b, P b → H b ≠ none ∧ b ∉ β) ∧ aA C H P β ws ds ∧ (∃ d S', msg (.un :: ds.map Sl.sh) S = .ok d S') ∧
 ∀ H1 dd, Same H H1 → H1 dd = none → dd ≠ a → Q .non (upd (upd H1 dd (exd dd (fs.zip ws).reverse)) a (exo a Ca (some dd)))
theorem LR.Qz {C : Ct} {H : Hp} {P : Addr → Prop} {β : List Addr} {S : Store} {a : Addr} {ws : List V} {ds : List D} {N : List Str} (st : aP C H P β S) (hp : ∀ a, P a → H a ≠ none ∧ a ∉ β) (r : aA C H P β ws ds) (hN : N.length = ds.length + 1) :
  LR C ⟨H, β, P, []⟩ (fun _ => none) P (L2.start N (.ref a :: ws)) H β (.un :: ds.map Sl.sh) S where
 len := by unfold L2.start; simp [r.length, hN]
 p := hp
 sub := fun _ h => h
 p0 := fun a h => (hp a h).1
 ext := ⟨⟨[], (List.append_nil β).symm⟩, fun a o h _ => .inl h, fun _ h => .inl h, fun _ _ h => h, fun _ h => h, fun _ _ _ h => h⟩
 own := fun _ _ h => nomatch h
 inj := fun _ _ _ h => nomatch h
 st := st
 slot := fun i d h => by
  cases i with
  | zero => cases h
  | succ i =>
   rw [List.getElem?_cons_succ, List.getElem?_map] at h
   cases e : ds[i]? with
   | none => rw [e] at h; cases h
   | some x =>
    rw [e] at h
    cases h
    obtain ⟨v, hv, rv⟩ := r.get e
    refine ⟨v, ?_, rv⟩
    have hi : i < ws.length := (List.getElem?_eq_some_iff.mp hv).1
    unfold L2.start
    rw [List.getElem?_append_left (by simp; omega), List.getElem?_map, List.getElem?_cons_succ, hv]
    rfl
 bV := fun i d h => by
  cases i with
  | zero => cases h
  | succ i =>
   rw [List.getElem?_cons_succ, List.getElem?_map] at h
   cases e : ds[i]? with
   | none => rw [e] at h; cases h
   | some x => rw [e] at h; cases h
 xslot := fun i d h => by
  cases i with
  | zero => cases h
  | succ i =>
   rw [List.getElem?_cons_succ, List.getElem?_map] at h
   cases e : ds[i]? with
   | none => rw [e] at h; cases h
   | some x => rw [e] at h; cases h
section
variable {X : Cx} {W : WX} {e : Expr} {es : List Expr} {p pos pos' : Pos} {x : Str} {C fI : Addr} {k j : Nat} {st : Stmt} {fd : FuncData} {ps : List Str} {msg : EX} {fs : List Str} {ma : AX}
theorem a05 {ta : TA} {sp : Sp} (T : OexC X.K C) (iC : PySem.W.findIn X.K (.ref C) "__init__" = some (some (.ref fI))) (tI : PySem.W.typeIn X.K (.ref fI) = some (.type "function"))
  (F1 : cQ X.prog X.w X.K X.mg X.base k fI fd ps sp) (hgd : X.A.guards = some []) (hr : Room (k + 1) X.A) (hb : ∀ (s : Shared) (us : List Value), us.length = ps.length → BindsTo s fd ⟨us, []⟩ (ps.zip us)) (hm : X.mg x = some (.ref C)) (ha : PA X (e :: es) ta) (hg : Gl X x := by rfl)
  (hdb : (x == ("__debug__" : Str)) = false := by decide) (he : starEach (e :: es) X.env = (false, eval e X.env) :: starEach es X.env := by rfl) (hpl : (backTo pos (starEach es X.env)).any (·.1) = false := by rfl) :
  PMk X (.Call (.Name x p) (e :: es) [] pos) (tMkO C sp [] ta) := by
 intro pins s σ H Q I h
 obtain ⟨nm, q, N, bs, bm, sn, sub, ab, col, dd, k0, k1, k2, k3, k5, hC, hbm⟩ := T.cls
 refine wpAny_Call_Name_kw (ld_glob I hg hm ?_ hdb)
 refine PySem.W.callWith_K (h₀ := X.base) I.ok.mod.kin T.kC (thn (ha.run pos pins s σ H _ I h) fun us s1 ⟨vs, H1, I1, r1, hz, q1⟩ => ⟨I1.kIn, ?_⟩) he hpl
 show wpAny _ _ (call (.ref C) us) _ _ _
 obtain ⟨hp, g, dr, tk, os⟩ := s1
 have hsz : hp.objs.size ≤ hp.objs.size + 1 := Nat.le_succ _
 have hn : H1 (hp.objs.size + 1) = none := I1.hok.fresh hsz
 have hq := q1 (hp.objs.size + 1) hn
 rw [List.append_nil] at hq
 have kk : ∀ b o, hp.get? b = some o → ((hp.push (PySem.W.kdv_tup us)).push (PySem.HandSPX.excO C hp.objs.size)).get? b = some o := fun b o e => Heap.get?_push_of_some _ (Heap.get?_push_of_some _ e)
 have hget : ((hp.push (PySem.W.kdv_tup us)).push (PySem.HandSPX.excO C hp.objs.size)).get? (hp.objs.size + 1) = some (PySem.HandSPX.excO C hp.objs.size) := by heap_get
 have I2 : Inv X pins σ (upd H1 (hp.objs.size + 1) (exo (hp.objs.size + 1) C none)) ⟨(hp.push (PySem.W.kdv_tup us)).push (PySem.HandSPX.excO C hp.objs.size), g, dr, tk, os⟩ :=
  I1.laid (t' := tk) (a := hp.objs.size + 1) (o := exo (hp.objs.size + 1) C none) (h' := (hp.push (PySem.W.kdv_tup us)).push (PySem.HandSPX.excO C hp.objs.size)) kk hsz (exo_ok hget)
 have r2 : Vals (V.ref (hp.objs.size + 1) :: vs) (Value.ref (hp.objs.size + 1) :: us) := .cons rfl r1
 have hl : (Value.ref (hp.objs.size + 1) :: us).length = ps.length := by
  have e := r2.length
  rw [F1.len _ _ _ _ hq] at e
  exact e.symm
 have hus : us.length ≤ sizeLine := by
  rw [← Paired.length r1, sizeLine_eq]
  omega
 refine wpAny_call (PySem.HandSPX.call_own F.excBase_ValueError (fun Y => PySem.HandSPX.refsVE_contains Y bm hbm) (I1.kIn _ _ hC) (PySem.W.looks_findIn I1.kIn iC) (fun self => PySem.W.bind_fn I1.kIn self tI) hus
  (codeAny_mono (F1.run _ X.stack _ _ ⟨Value.ref (hp.objs.size + 1) :: us, []⟩ (Value.ref (hp.objs.size + 1) :: us) _ _ (fun _ _ _ => False) (by show X.A.guards = some []; exact hgd) (hr.make C us []) (I2.env0.make C us []) (hb _ _ hl) r2 hq) fun r s' hq' => ?_))
 cases r with
 | error er => exact passL pins σ _ _ er s' I2 hq'
 | ok fl =>
  cases fl with
  | ret u =>
   obtain ⟨v, H2, os2, bare2, un2, hok2, rv, ev, d, fs, ea, ed, hd1, q2⟩ := hq'
   subst ev
   obtain ⟨h2, g2, d2, t2, os'⟩ := s'
   exact ⟨rv, mk_end (raises_own T.exC T.tyC) I1 hsz kk un2 hok2 os2 bare2 ea ed hd1 q2⟩
  | next => exact False.elim hq'
  | brk => exact False.elim hq'
  | cont => exact False.elim hq'
theorem QA {α : Type} : ∀ {l : List (Str × α)} {f : Str} {v : α}, (l.map (·.1)).Nodup → (f, v) ∈ l → l.lookup f = some v
 | (g, u) :: r, f, v, hn, hm => by
  rw [List.map_cons, List.nodup_cons] at hn
  rw [List.lookup_cons]
  rcases List.mem_cons.mp hm with e | hq
  ·cases e
   simp
  ·have hne : (f == g) = false := by
    rw [beq_eq_false_iff_ne]
    rintro rfl
    exact hn.1 (List.mem_map.mpr ⟨_, hq, rfl⟩)
   rw [hne]
   exact QA hn.2 hq
theorem mem_of_lookup {α : Type} : ∀ {l : List (Str × α)} {f : Str} {v : α}, l.lookup f = some v → (f, v) ∈ l
 | (g, u) :: r, f, v, h => by
  rw [List.lookup_cons] at h
  by_cases e : (f == g) = true
  ·rw [e] at h
   cases h
   rw [eq_of_beq e]
   exact List.mem_cons_self
  ·rw [Bool.not_eq_true] at e
   rw [e] at h
   exact List.mem_cons_of_mem _ (mem_of_lookup h)
theorem a06 {C : Ct} {H : Hp} {Z : Addr → Prop} {β : List Addr} {fs : List Str} {vs : List V} {ds : List D} {f : Str} {x : D} (hn : fs.Nodup) (r : aA C H Z β vs ds) (hl : ds.length = fs.length) (h : (fs.zip ds).lookup f = some x) :
  ∃ v, (fs.zip vs).reverse.lookup f = some v ∧ RV C H Z β v x := by
 have hm := mem_of_lookup h
 obtain ⟨i, hi⟩ := List.getElem?_of_mem hm
 rw [List.getElem?_zip_eq_some] at hi
 obtain ⟨h1, h2⟩ := hi
 obtain ⟨v, hv, rv⟩ := r.get h2
 refine ⟨v, QA ?_ ?_, rv⟩
 ·rw [List.map_reverse, List.map_fst_zip (by rw [r.length, hl]; exact Nat.le_refl _)]
  exact (List.pairwise_reverse.mpr (hn.imp fun h => h.symm))
 ·rw [List.mem_reverse]
  exact List.mem_of_getElem? (List.getElem?_zip_eq_some.mpr ⟨h1, hv⟩)
/-- by what is known of the making -/
theorem QC (hc : X.calm = true) (tk : Takes X W) (hm : X.mg x = some (.ref C)) (hk : PMk X (.Call (.Name x p) (e :: es) [] pos) (tMkO C (spI ⟨X.K, X.mg, X.w, []⟩ C fs.length msg fs) [] (AM (aj X) W false ma))) (hfn : fs.Nodup) (hfl : fs.length ≤ 1000) :
  fL (aj X) W X (.Raise (some (.Call (.Name x p) (e :: es) [] pos)) none pos') (jo x fs msg ma) :=
 jw (ps_raise hc tk hk) fun D σ H h => by
  obtain ⟨cf, oa, P, β, ρ, S, L, h⟩ := h
  refine ⟨cf, oa, P, β, ρ, S, L, ?_⟩
  unfold jo at h
  cases ea : ma ρ S with
  | stuck => rw [ea] at h; exact h
  | exc e S1 => rw [ea] at h; exact jC h
  | ok ds S1 =>
   rw [ea] at h
   simp only at h
   intro vs H1 β1 t1 L1 rs
   by_cases hl : ds.length = fs.length
   ·rw [if_pos hl] at h
    refine ⟨by rw [rs.length, hl]; exact hfl, fun a hna => ?_⟩
    have sl : Same H1 (upd H1 a (exo a C none)) := g8 hna
    have em : ∃ d S', msg (.un :: ds.map Sl.sh) S1 = .ok d S' := by
     cases em : msg (.un :: ds.map Sl.sh) S1 with
     | ok d S' => exact ⟨d, S', rfl⟩
     | exc e S' => rw [em] at h; exact h.elim
     | stuck => rw [em] at h; exact h.elim
    rw [List.append_nil]
    refine ⟨a, vs, rfl, by rw [rs.length, hl], upd_same, P, β1, ds, S1, aP.ct (C := aj X) (C' := ⟨X.K, X.mg, X.w, []⟩) rfl rfl (L1.st.laid hna), fun b hb => ⟨(Ext.same (β := β1) sl).stay b (L1.p b hb).1, (L1.p b hb).2⟩, aA.ct (C := aj X) (C' := ⟨X.K, X.mg, X.w, []⟩) rfl rfl (rs.mono (Ext.same sl)), em, fun H2 dd sm hn hne => ?_⟩
    have hn1 : H1 dd = none := by
     cases z : H1 dd with
     | none => rfl
     | some o => rw [sm dd o (sl dd o z)] at hn; cases hn
    refine ⟨rfl, dd, (fs.zip vs).reverse, upd_same, by rw [upd_ne hne]; exact upd_same, hn1, ?_⟩
    have sf : Same H1 (upd (del (upd (upd H2 dd (exd dd (fs.zip vs).reverse)) a (exo a C (some dd))) a) dd (.xd (fs.zip vs).reverse)) := fun b o z => by
     have n1 : b ≠ a := ne_of_none z hna
     have n2 : b ≠ dd := ne_of_none z hn1
     rw [upd_ne n2, del_ne n1, upd_ne n1, upd_ne n2]
     exact sm b o (sl b o z)
    obtain ⟨d, S', em⟩ := em
    rw [em] at h
    refine h (.ref C) (some dd) σ _ β1 oa P (L1.same sf) (Fx.of (t1.ext.trans (Ext.same sf))) ⟨C, dd, (fs.zip vs).reverse, hm, rfl, rfl, upd_same, L1.pJ hn1, fun z => (L1.p dd z).1 hn1, fun f x hx => ?_⟩
    obtain ⟨v, q1, q2⟩ := a06 hfn rs hl hx
    exact ⟨v, q1, q2.mono (Ext.same sf)⟩
   ·rw [if_neg hl] at h; exact h.elim
theorem rY (hc : X.calm = true) (tk : Takes X W) (T : OexC X.K C) (iC : PySem.W.findIn X.K (.ref C) "__init__" = some (some (.ref fI))) (tI : PySem.W.typeIn X.K (.ref fI) = some (.type "function"))
  (F1 : cQ X.prog X.w X.K X.mg X.base k fI fd ps (spI ⟨X.K, X.mg, X.w, []⟩ C fs.length msg fs)) (hgd : X.A.guards = some []) (hr : Room j X.A) (hkj : k + 1 ≤ j) (hb : ∀ (s : Shared) (us : List Value), us.length = ps.length → BindsTo s fd ⟨us, []⟩ (ps.zip us)) (hm : X.mg x = some (.ref C)) (ha : j6 (aj X) W false X (e :: es) ma)
  (hfn : fs.Nodup := by decide) (hfl : fs.length ≤ 1000 := by decide) (hg : Gl X x := by rfl) (hdb : (x == ("__debug__" : Str)) = false := by decide) (he : starEach (e :: es) X.env = (false, eval e X.env) :: starEach es X.env := by rfl) (hpl : (backTo pos (starEach es X.env)).any (·.1) = false := by rfl) :
  fL (aj X) W X (.Raise (some (.Call (.Name x p) (e :: es) [] pos)) none pos') (jo x fs msg ma) :=
 QC hc tk hm (a05 T iC tI F1 hgd (hr.mono hkj) hb hm ha hg hdb he hpl) hfn hfl
end
section
variable {K : PySem.W.Frag} {x qual : Str} {st : Stmt} {fa : Addr} {fd : FuncData} {ps : List Str} {n : Nat}
theorem ql (F : Fun K x qual st fa fd) (B : tW st ps [] n (List.range n)) (hn : ps.length = n) (s : Shared) (us : List Value) (hu : us.length = ps.length) : BindsTo s fd ⟨us, []⟩ (ps.zip us) := by
 obtain ⟨oc, od, kV, doc, pm, an, cdv, ct, osl, rfl, lk, hcd⟩ := F.ex
 have b := B x qual kV doc pm an cdv ct us [] (hu.trans hn) rfl
 rw [Nb us n (hu.trans hn)] at b
 exact .of_eq b
end
section
variable {ρ : aF} {S : Store} {N : aF → Store → Prop} {p : Po} {Q : D → Store → Prop} {E : bD → Store → Prop} {i : Nat} {s : SX} {msg : EX} {a : AX} {c : Str} {fs cs : List Str} {e : bD} {f : Str}
theorem QD : (xG i s ρ S).al N p ↔ (s (match ρ[i]? with
  | some (Sl.ow d) => ρ.set i (.sh d)
  | _ => ρ) S).al N p := by
 unfold xG
 rcases ρ[i]? with _ | (_ | d | d | d) <;> exact Iff.rfl
theorem QE : (jo c fs msg a ρ S).al N p ↔ (a ρ S).al (fun ds S1 => ds.length = fs.length ∧ (∃ d S', msg (.un :: ds.map Sl.sh) S1 = .ok d S') ∧ p.E ⟨c, fs.zip ds⟩ S1 ∧ p.X ⟨c, fs.zip ds⟩ ρ S1) (fun e S => p.E e S ∧ p.X e ρ S) := by
 unfold jo
 cases a ρ S with
 | stuck => exact Iff.rfl
 | exc e S1 => exact Iff.rfl
 | ok ds S1 =>
  simp only [R.al]
  by_cases h : ds.length = fs.length
  ·rw [if_pos h]
   cases em : msg (.un :: ds.map Sl.sh) S1 with
   | ok d S' => exact ⟨fun q => ⟨h, ⟨d, S', rfl⟩, q⟩, fun q => q.2.2⟩
   | exc e S' => exact ⟨fun q => q.elim, fun ⟨_, ⟨_, _, z⟩, _⟩ => nomatch z⟩
   | stuck => exact ⟨fun q => q.elim, fun ⟨_, ⟨_, _, z⟩, _⟩ => nomatch z⟩
  ·rw [if_neg h]; exact ⟨fun q => q.elim, fun q => h q.1⟩
theorem HJ (h : ρ[i]? = some (.ex e)) (hc : cs.contains e.cls = true) : (lJ cs i f ρ S).al Q E ↔ ∃ z, e.fs.lookup f = some z ∧ Q z S := by
 unfold lJ
 rw [h]
 simp only
 rw [if_pos hc]
 exact iy
end
structure Th (d : D) : Prop where
 ok : aR d
 bk : bT d ≤ 2000
 dp : bJ d ≤ 10
theorem QF {x : D} : ∀ {xs : List D}, x ∈ xs → bT x ≤ eO xs
 | y :: r, h => by
  simp only [eO]
  rcases List.mem_cons.mp h with rfl | h
  ·omega
  ·have := QF h; omega
theorem QG {x : D} : ∀ {xs : List D}, x ∈ xs → bJ x ≤ fW xs
 | y :: r, h => by
  simp only [fW]
  rcases List.mem_cons.mp h with rfl | h
  ·omega
  ·have := QG h; omega
theorem Th.mem {xs : List D} {x : D} (h : Th (.tup xs)) (m : x ∈ xs) : Th x where
 ok := Pj.mp (by simpa only [aR] using h.ok) x m
 bk := Nat.le_trans (QF m) (by have := h.bk; simpa only [bT] using this)
 dp := Nat.le_trans (QG m) (by have := h.dp; simp only [bJ] at this; omega)
/-- the message of an error bR shows the value -/
theorem a07 {d : D} {x : Str} {S : Store} (h : Th d) (hl : x.length ≤ 100) : ∃ r S', uz [mC (.str x), cW jF (ak 1)] [.un, .sh d] S = .ok r S' := by
 obtain ⟨p, e, s⟩ := Dg d h.ok
 have hl2 := PyData.shown_le_bulk 64 (by decide) p s.l
 rw [s.b] at hl2
 have hb := h.bk
 have e1 : jF S d = some (.str p.shown) := by
  unfold jF
  simp only [qd (AB d h.ok), e]
  rw [if_pos ⟨s.s, by rw [sizeLine_eq]; omega, by rw [s.d]; have := h.dp; omega⟩]
 have l1 : (Str.empty ++ x).length ≤ sizeLine := by rw [strLen_append, sizeLine_eq]; show 0 + _ ≤ _; omega
 have l2 : (Str.empty ++ x ++ p.shown).length ≤ sizeLine := by rw [strLen_append, strLen_append, sizeLine_eq]; show 0 + _ + _ ≤ _; omega
 refine ⟨.str (Str.empty ++ x ++ p.shown), S, ?_⟩
 unfold uz
 simp only [oG, mC, cW, ak, R.bind, R.opt, List.getElem?_cons_succ, List.getElem?_cons_zero, e1]
 rw [if_pos l1, if_pos l2]
def valD (kvs : List (Key × D)) (k : Key) : Option D := (kvs.find? fun kv => decide (kv.1 = k)).map (·.2)
theorem QH {C : Ct} {H : Hp} {P : Addr → Prop} {β : List Addr} {k : Key} : ∀ {vs : List (Key × V)} {ds : List (Key × D)} {d : D}, aG C H P β vs ds → valD ds k = some d → ∃ v, valV vs k = some v ∧ RV C H P β v d
 | _, _, _, .nil, e => by cases e
 | _, _, d, .cons (k := k0) (v := v0) (d := d0) (vs := vs) (ds := ds) h t, e => by
  by_cases hk : k0 = k
  ·have e' : valD ((k0, d0) :: ds) k = some d0 := by simp [valD, List.find?_cons, hk]
   rw [e'] at e; cases e
   exact ⟨v0, valV_pos hk, h⟩
  ·have e' : valD ((k0, d0) :: ds) k = valD ds k := by simp [valD, List.find?_cons, hk]
   rw [e'] at e
   obtain ⟨v, h1, h2⟩ := QH t e
   exact ⟨v, by rw [valV_neg hk]; exact h1, h2⟩
def HL (S : Store) (x y : D) : Option D := match aU S x with
 | some kvs => match keyD y with
  | some k => valD kvs k
  | none => none
 | none => none
def iW (S : Store) (x y : D) : Option D := match aU S x with
 | some kvs => match keyD y with
  | some k => valD kvs k
  | none => none
 | none => bA S x y
section
variable {X : Cx} {W : WX} {b : Bool} {a e o : Expr} {ma mb : EX} {pos : Pos}
def HM : R2 := fun x y H Q => ∃ a v, x = .ref a ∧ DGet H a y (some v) ∧ Q v H
theorem a08 (hu : X.A.units + 1 < cLine) : IxR X HM := by
 intro value slice pins s σ H x y v u Q I rx ry h hs
 obtain ⟨a, z, rfl, g, q⟩ := h
 cases rx
 unfold subscriptTail
 refine wpAny_bind ?_
 rw [getitemInPython_of_ne (dict_typeIs I g).not_modules]
 refine wpAny_bind (wpAny_specialOf (dict_typeIs I g) PySem.F.slot_dict_getitem.lookup ?_)
 have fin : wpAny (model X.prog X.w) X.A (subscripted slice false (.ref a) u) (fun r s₃ => wpAny (model X.prog X.w) X.A (letTemporaryGo value (.ref a) r >>= fun _ => pure r) (EP X pins σ Q) X.xe s₃) X.xe s := by
  rw [hs]
  exact wpAny_operating (d_getItem hu I g ry fun w' s3 I3 rw' => wpAny_bind (wpAny_letTemporaryGo (wpAny_pure ⟨z, H, I3, rw', q⟩)))
 first
  | exact wpAny_pure (wpAny_bind fin)
  | exact wpAny_bind (wpAny_pure (wpAny_bind fin))
  | exact wpAny_bind fin
theorem a09 : cH X HM HL := by
 intro Z H β S x y dx dy dz Q A rx ry e k
 unfold HL at e
 split at e
 ·rename_i kvs ev
  split at e
  ·rename_i ky ek
   obtain ⟨a, us, rfl, q1, q2⟩ := rx.aU A.st ev
   obtain ⟨v, h1, h2⟩ := QH q2 e
   rw [CP ry ek]
   exact ⟨a, v, rfl, .inl ⟨us, ky, q1, rfl, h1.symm⟩, k v H (Same.refl _) h2⟩
  ·cases e
 ·cases e
def rGx (K : PySem.W.Frag) : R2 := fun x y H Q => rIx K x y H Q ∨ HM x y H Q
theorem a0b : cH X (rGx X.K) iW := by
 intro Z H β S x y dx dy dz Q A rx ry e k
 cases ev : aU S dx with
 | some kvs => exact .inr (a09 Z H β S x y dx dy dz Q A rx ry (by unfold HL; unfold iW at e; rw [ev] at e ⊢; exact e) k)
 | none => exact .inl (N7 Z H β S x y dx dy dz Q A rx ry (by unfold iW at e; rw [ev] at e; exact e) k)
/-- a[b]: a list, a tuple, a text, a dict -/
theorem yw (hu : X.A.units + 64 < cLine) (ha : PM (aj X) W b X a ma) (hb : PM (aj X) W b X e mb) (hs : PlainIx e := by exact fun _ _ => rfl) : PM (aj X) W b X (.Subscript a e pos) (aC iW ma mb) :=
 bW (pe_ix (IxR.or ix_seq (a08 (by omega))) ha hb hs) fun σ H Q h => em2 a0b h
def Di (S : Store) (x y : D) : Option D := match aU S y with
 | some kvs => match keyD x with
  | some k => some (.bl (mU kvs k))
  | none => none
 | none => jc S x y
def uF (S : Store) (x y : D) : Option D := match aU S y with
 | some kvs => match keyD x with
  | some k => some (.bl (!mU kvs k))
  | none => none
 | none => CF S x y
def wj (f : Bool → Bool) : R2 := fun y x H Q => ∃ a o, x = .ref a ∧ DGet H a y o ∧ Q (.bl (f o.isSome)) H
theorem a0c (hu : X.A.units + 1 < cLine) : OpR X (compareOp .In) (wj id) := by
 intro pins s σ H y x u v Q I ry rx h
 obtain ⟨a, o, rfl, g, q⟩ := h
 cases rx
 exact d_in hu I g ry fun s3 I3 => ⟨.bl o.isSome, H, I3, rfl, q⟩
theorem a0d (hu : X.A.units + 1 < cLine) : OpR X (compareOp .NotIn) (wj not) := by
 intro pins s σ H y x u v Q I ry rx h
 obtain ⟨a, o, rfl, g, q⟩ := h
 cases rx
 exact d_notIn hu I g ry fun s3 I3 => ⟨.bl (!o.isSome), H, I3, rfl, q⟩
theorem a0e {k : Key} : ∀ kvs : List (Key × V), (kvs.any fun kv => decide (kv.1 = k)) = (valV kvs k).isSome := valV_any k
theorem QI {f : Bool → Bool} {Z : Addr → Prop} {H : Hp} {β : List Addr} {S : Store} {x y : V} {dx dy : D} {kvs : List (Key × D)} {k : Key} {Q : VK} (A : At (aj X) H Z β S) (rx : RV (aj X) H Z β x dx) (ry : RV (aj X) H Z β y dy)
  (ev : aU S dy = some kvs) (ek : keyD dx = some k) (q : Q (.bl (f (mU kvs k))) H) : wj f x y H Q := by
 obtain ⟨a, us, rfl, q1, q2⟩ := ry.aU A.st ev
 rw [CP rx ek]
 refine ⟨a, valV us k, rfl, .inl ⟨us, k, q1, rfl, rfl⟩, ?_⟩
 rw [← a0e, GF q2]; exact q
theorem a0f (hu : X.A.units + 65 < cLine) : OpR X (compareOp .In) (fun x y H Q => rM X.K id x y H Q ∨ wj id x y H Q) := OpR.or (vN hu) (a0c (by omega))
theorem HP (hu : X.A.units + 65 < cLine) : OpR X (compareOp .NotIn) (fun x y H Q => rM X.K not x y H Q ∨ wj not x y H Q) := OpR.or (Yz hu) (a0d (by omega))
theorem a0g : cH X (fun x y H Q => rM X.K id x y H Q ∨ wj id x y H Q) Di := by
 intro Z H β S x y dx dy dz Q A rx ry e k
 unfold Di at e
 split at e
 ·rename_i kvs ev
  split at e
  ·rename_i ky ek
   cases e
   exact .inr (QI A rx ry ev ek (k _ H (Same.refl _) (.bl _)))
  ·cases e
 ·exact .inl (vO Z H β S x y dx dy dz Q A rx ry e k)
theorem HQ : cH X (fun x y H Q => rM X.K not x y H Q ∨ wj not x y H Q) uF := by
 intro Z H β S x y dx dy dz Q A rx ry e k
 unfold uF at e
 split at e
 ·rename_i kvs ev
  split at e
  ·rename_i ky ek
   cases e
   exact .inr (QI A rx ry ev ek (k _ H (Same.refl _) (.bl _)))
  ·cases e
 ·exact .inl (YB Z H β S x y dx dy dz Q A rx ry e k)
end
section
variable {X : Cx} {o i : Expr}
theorem PSet.or {t t' : TSet} (h : PSet X t) (h' : PSet X t') : PSet X (fun o i v H Q => t o i v H Q ∨ t' o i v H Q) := by
 intro pins s σ H o i v ov iv u Q I ro ri rv q
 rcases q with q | q
 ·exact h pins s σ H o i v ov iv u Q I ro ri rv q
 ·exact h' pins s σ H o i v ov iv u Q I ro ri rv q
end
def iz (S : Store) : D → Option (List (Key × D))
 | .dct xs => some xs
 | .ref n => match S[n]? with
  | some (.dX xs) => some xs
  | _ => none
 | _ => none
def jG (kvs : List (Key × D)) : List D := kvs.map fun p => .tup [kD p.1, p.2]
def uG (kvs : List (Key × D)) : List D := kvs.map fun p => p.2
def oH (kvs : List (Key × D)) : List D := kvs.map fun p => kD p.1
def iF (g : List (Key × D) → List D) (a : EX) : AX := fun ρ S => (a ρ S).bind fun x S1 => R.opt ((iz S1 x).map g) S1
/-- the items of a list bR stands still -/
def HR (S : Store) (d : D) : Option (List D) := match d with
 | .ref n => match S[n]? with
  | some (.fQ xs) => some xs
  | _ => none
 | d => itemsOf d
def yx (a : EX) : AX := fun ρ S => (a ρ S).bind fun x S1 => R.opt (match iz S1 x with
 | some kvs => some (oH kvs)
 | none => HR S1 x) S1
section
variable {X : Cx} {W : WX} {b : Bool} {tg e : Expr} {ma : EX}
theorem RV.iz {C : Ct} {H : Hp} {Z : Addr → Prop} {β : List Addr} {S : Store} {v : V} {d : D} (r : RV C H Z β v d) (s : aP C H Z β S) {ds : List (Key × D)} (h : Mi.iz S d = some ds) : ∃ a o xs, v = .ref a ∧ H a = some (.frz o (.dK xs)) ∧ aG C H Z β xs ds := by
 cases r with
 | dct hp hb hr hs => cases h; obtain ⟨o, q⟩ := hr; exact ⟨_, o, _, rfl, q, hs⟩
 | ref hn =>
  simp only [Mi.iz] at h
  split at h
  ·rename_i xs e
   cases h
   obtain ⟨od, us, q1, q2⟩ := s.ok _ _ _ hn e
   exact ⟨_, od, us, rfl, q1, q2⟩
  ·cases h
 | _ => cases h
theorem a0h {C : Ct} {H : Hp} {P : Addr → Prop} {β : List Addr} {a : Addr} {o : Obj} {xs : List (Key × V)} {ds : List (Key × D)} (e : H a = some (.frz o (.dK xs))) (rs : aG C H P β xs ds) : lu C (Itk a o xs) (oH ds) H P β := by
 intro i H2 P2 β2 f n
 have q := f.fz _ _ _ e
 refine ⟨fun d hd => ?_, fun hl => ⟨q, by rw [Aa rs]; unfold oH at hl; rw [List.length_map] at hl; exact Nat.le_of_eq hl⟩⟩
 unfold oH at hd
 rw [List.getElem?_map] at hd
 cases ed : ds[i]? with
 | none => rw [ed] at hd; cases hd
 | some p =>
  obtain ⟨k, d'⟩ := p
  rw [ed] at hd
  cases hd
  obtain ⟨v, hv, _⟩ := A9 rs ed
  refine ⟨⟨q, (List.getElem?_eq_some_iff.mp hv).1⟩, fun x H3 y => ?_⟩
  obtain ⟨rfl, k', v', hk, rfl⟩ := y
  rw [hv] at hk
  cases hk
  exact ⟨Same.refl _, Gf _⟩
theorem a0i {C : Ct} {H : Hp} {P : Addr → Prop} {β : List Addr} {a : Addr} {o : Obj} {xs : List (Key × V)} {ds : List (Key × D)} (e : H a = some (.frz o (.dK xs))) (rs : aG C H P β xs ds) : lu C (Itd a o xs) (uG ds) H P β := by
 intro i H2 P2 β2 f n
 have q := f.fz _ _ _ e
 refine ⟨fun d hd => ?_, fun hl => ⟨q, by rw [Aa rs]; unfold uG at hl; rw [List.length_map] at hl; exact Nat.le_of_eq hl⟩⟩
 unfold uG at hd
 rw [List.getElem?_map] at hd
 cases ed : ds[i]? with
 | none => rw [ed] at hd; cases hd
 | some p =>
  obtain ⟨k, d'⟩ := p
  rw [ed] at hd
  cases hd
  obtain ⟨v, hv, rv⟩ := A9 rs ed
  refine ⟨⟨q, (List.getElem?_eq_some_iff.mp hv).1⟩, fun x H3 y => ?_⟩
  obtain ⟨rfl, k', hk⟩ := y
  rw [hv] at hk
  cases hk
  exact ⟨Same.refl _, rv.fx f⟩
theorem a0j {C : Ct} {H : Hp} {P : Addr → Prop} {β : List Addr} {a : Addr} {o : Obj} {xs : List (Key × V)} {ds : List (Key × D)} (e : H a = some (.frz o (.dK xs))) (rs : aG C H P β xs ds) : lu C (Iti a o xs) (jG ds) H P β := by
 intro i H2 P2 β2 f n
 have q := f.fz _ _ _ e
 refine ⟨fun d hd => ?_, fun hl => ⟨q, by rw [Aa rs]; unfold jG at hl; rw [List.length_map] at hl; exact Nat.le_of_eq hl⟩⟩
 unfold jG at hd
 rw [List.getElem?_map] at hd
 cases ed : ds[i]? with
 | none => rw [ed] at hd; cases hd
 | some p =>
  obtain ⟨k, d'⟩ := p
  rw [ed] at hd
  cases hd
  obtain ⟨v, hv, rv⟩ := A9 rs ed
  refine ⟨⟨q, (List.getElem?_eq_some_iff.mp hv).1⟩, fun x H3 y => ?_⟩
  obtain ⟨T, k', v', hk, rfl, hT, rfl⟩ := y
  rw [hv] at hk
  cases hk
  have sm : Same H2 (upd H2 T (.tup [kV k, v])) := g8 hT
  exact ⟨sm, .tup (.inl upd_same) (.cons (Gf _) (.cons ((rv.fx f).mono (Ext.same sm)) .nil))⟩
theorem QJ {g : List (Key × D) → List D} {wi : TI} {J : Addr → Obj → List (Key × V) → It} (hw : ∀ σ H R, EM (aj X) W b ma σ H (fun x H1 => ∃ d o kvs, x = .ref d ∧ H1 d = some (.frz o (.dK kvs)) ∧ R (J d o kvs) H1) → wi σ H R)
  (hJ : ∀ {H : Hp} {P : Addr → Prop} {β : List Addr} {a : Addr} {o : Obj} {xs : List (Key × V)} {ds : List (Key × D)}, H a = some (.frz o (.dK xs)) → aG (aj X) H P β xs ds → lu (aj X) (J a o xs) (g ds) H P β) :
  ∀ σ H R, IM (aj X) W b (iF g ma) σ H R → wi σ H R := by
 intro σ H R h
 refine hw σ H R ?_
 obtain ⟨cf, oa, P, β, ρ, S, L, h⟩ := h
 refine ⟨cf, oa, P, β, ρ, S, L, ?_⟩
 unfold iF at h
 cases ea : ma ρ S with
 | stuck => rw [ea] at h; exact h
 | exc x S1 => rw [ea] at h; exact h
 | ok d S1 =>
  rw [ea] at h
  simp only [Mi.R.bind] at h
  intro v H1 β1 t L1 r
  cases ev : iz S1 d with
  | none => rw [ev] at h; exact h.elim
  | some kvs =>
   rw [ev] at h
   obtain ⟨a, o, xs, rfl, q1, q2⟩ := r.iz L1.st ev
   exact ⟨a, o, xs, rfl, q1, h _ H1 β1 t L1 (hJ q1 q2)⟩
variable {apos cpos : Pos} {elts : List Expr} {kk : Nat} {tpos : Pos}
theorem Dj (he : PM (aj X) W b X e ma) (hbase : attributeBase e "items" X.env (eval e X.env) = eval e X.env := by rfl) (hline : (apos.endLine == cpos.line) = true := by rfl) :
  pU (aj X) W b X (.Tuple elts kk tpos) (.Call (.Attribute e "items" apos) [] [] cpos) (iF jG ma) := vC (pi_items he hbase hline) (QJ (J := fun d o kvs => Iti d o kvs) (fun σ H R h => h) a0j)
theorem a0k (he : PM (aj X) W b X e ma) (hbase : attributeBase e "values" X.env (eval e X.env) = eval e X.env := by rfl) (hline : (apos.endLine == cpos.line) = true := by rfl) :
  pU (aj X) W b X tg (.Call (.Attribute e "values" apos) [] [] cpos) (iF uG ma) := vC (pi_values he hbase hline) (QJ (J := fun d o kvs => Itd d o kvs) (fun σ H R h => h) a0i)
theorem a0l (he : PM (aj X) W b X e ma) : pU (aj X) W b X tg e (yx ma) := vC (ME (MD he) (pi_keys he)) fun σ H R h => by
 obtain ⟨cf, oa, P, β, ρ, S, L, h⟩ := h
 unfold yx at h
 cases ea : ma ρ S with
 | stuck => rw [ea] at h; exact h.elim
 | exc e S1 => rw [ea] at h; exact .inl ⟨cf, oa, P, β, ρ, S, L, by rw [ea]; exact h⟩
 | ok d S1 =>
  rw [ea] at h
  simp only [Mi.R.bind] at h
  cases ev : iz S1 d with
  | none =>
   rw [ev] at h
   refine .inl ⟨cf, oa, P, β, ρ, S, L, ?_⟩
   rw [ea]
   intro v H1 β1 t L1 r
   simp only at h
   cases r with
   | lst hp hb hr hs =>
    refine .inl ⟨_, rfl, ⟨_, .inl hr⟩, h _ H1 β1 t L1 ?_⟩
    exact A8 (fun H2 P2 β2 f => .inl (f.con _ _ hp hb hr).1) hs
   | tup hr hs =>
    refine .inr (.inl ⟨_, rfl, ⟨_, .inl hr⟩, h _ H1 β1 t L1 ?_⟩)
    exact Cm (fun H2 P2 β2 f => .inl (f.tups _ _ hr)) hs
   | eV k hs =>
    refine .inr (.inl ⟨_, rfl, ⟨_, .inr k⟩, h _ H1 β1 t L1 ?_⟩)
    exact Cm (fun H2 P2 β2 f => .inr k) hs
   | fK k hs =>
    refine .inl ⟨_, rfl, ⟨_, .inr k⟩, h _ H1 β1 t L1 ?_⟩
    exact A8 (fun H2 P2 β2 f => .inr k) hs
   | str z => exact .inr (.inr ⟨z, rfl, h _ H1 β1 t L1 MF⟩)
   | dct _ _ _ _ => cases ev
   | @ref n0 a0 hn =>
    simp only [HR] at h
    cases eS : S1[n0]? with
    | none => rw [eS] at h; exact h.elim
    | some so =>
     rw [eS] at h
     cases so with
     | fQ xs =>
      obtain ⟨od, us, q1, q2⟩ := L1.st.ok _ _ _ hn eS
      refine .inl ⟨_, rfl, ⟨us, .inl (.inr ⟨od, q1⟩)⟩, h _ H1 β1 t L1 ?_⟩
      exact A8 (fun H2 P2 β2 f => .inl (.inr ⟨od, f.fz _ _ _ q1⟩)) q2
     | _ => exact h.elim
   | _ => exact h.elim
  | some kvs =>
   rw [ev] at h
   refine .inr ⟨cf, oa, P, β, ρ, S, L, ?_⟩
   rw [ea]
   intro v H1 β1 t L1 r
   obtain ⟨a, o, xs, rfl, q1, q2⟩ := r.iz L1.st ev
   exact ⟨a, o, rfl, .inl ⟨xs, q1, h _ H1 β1 t L1 (a0h q1 q2)⟩⟩
end
def Dm : SO → Option SO
 | .dct k => some (.dX k)
 | .lst x => some (.fQ x)
 | _ => none
def AH : SO → Option SO
 | .dX k => some (.dct k)
 | .fQ x => some (.lst x)
 | _ => none
def gQ (n : Nat) (S : Store) : Option Store := match S[n]? with
 | some so => match AH so with
  | some so' => some (S.set n so')
  | none => none
 | none => none
theorem Dq {n : Nat} {S S' : Store} (h : gQ n S = some S') : ∃ so so', S[n]? = some so ∧ AH so = some so' ∧ S' = S.set n so' := by
 unfold gQ at h
 cases e : S[n]? with
 | none => rw [e] at h; cases h
 | some so =>
  rw [e] at h
  simp only at h
  cases e2 : AH so with
  | none => rw [e2] at h; cases h
  | some so' => rw [e2] at h; cases h; exact ⟨so, so', rfl, e2, rfl⟩
/-- the list or dict of the store bR md names: its place, what stands there, the same locked -/
def je (md : EX) (ρ : aF) (S : Store) : Option (Nat × SO) := match md ρ S with
 | .ok (.ref n) _ => match S[n]? with
  | some so => match Dm so with
   | some so' => some (n, so')
   | none => none
  | none => none
 | _ => none
theorem a0m {md : EX} {ρ : aF} {S : Store} {n : Nat} {so' : SO} (h : je md ρ S = some (n, so')) : ∃ so, S[n]? = some so ∧ Dm so = some so' := by
 unfold je at h
 cases e : md ρ S with
 | ok d S0 =>
  rw [e] at h
  cases d with
  | ref n' =>
   simp only at h
   cases e2 : S[n']? with
   | none => rw [e2] at h; cases h
   | some so =>
    rw [e2] at h
    simp only at h
    cases e3 : Dm so with
    | none => rw [e3] at h; cases h
    | some s' => rw [e3] at h; cases h; exact ⟨so, e2, e3⟩
  | _ => cases h
 | _ => rw [e] at h; cases h
def rZ (n : Nat) : SR → SR
 | .nx ρ S => match gQ n S with
  | some S3 => .nx ρ S3
  | none => .stuck
 | .bk ρ S => match gQ n S with
  | some S3 => .bk ρ S3
  | none => .stuck
 | .ct ρ S => match gQ n S with
  | some S3 => .ct ρ S3
  | none => .stuck
 | .rt d S => match gQ n S with
  | some S3 => .rt d S3
  | none => .stuck
 | .exc e ρ S => .exc e ρ S
 | .stuck => .stuck
def lK (md : EX) (s : SX) : SX := fun ρ S => match je md ρ S with
 | some p => rZ p.1 (s ρ (S.set p.1 p.2))
 | none => s ρ S
section
variable {C : Ct} {cf : Cf} {oa bf : Nat → Option Addr} {P P' : Addr → Prop} {σ σ' : L2.St} {H H' : Hp} {β β' : List Addr} {ρ ρ' : aF} {S S2 : Store}
theorem iI.setB {a : Addr} {e : bD} {p : Addr} {o : HO} (h : iI C H P β a e) (hp : p ∈ β) (ht : ∀ xs, ¬ Rd H p (.tup xs)) : iI C (upd H p o) P β a e := by
 obtain ⟨oe, Ca, dd, vs, h1, h2, h3, h4, h5, h6, h7, h8⟩ := h
 exact ⟨oe, Ca, dd, vs, h1, h2, h3, h4, by rw [upd_ne (show dd ≠ p from fun z => h6 (by rw [z]; exact hp))]; exact h5, h6, h7, fun f y q => let ⟨v, q1, q2⟩ := h8 f y q; ⟨v, q1, q2.set (.inr hp) ht⟩⟩
/-- what the lock needs -/
structure Lk (H : Hp) (β : List Addr) (n : Nat) (a : Addr) (u : HO) : Prop where
 at_ : β[n]? = some a
 dk : H a = some u
 mu : Mut (some u)
 fr : ∀ o v, u ≠ .frz o v
 tu : ∀ ys, u ≠ .tup ys
theorem Lk.ne {n : Nat} {a : Addr} {u : HO} (k : Lk H β n a u) : ∀ o u, H a ≠ some (.frz o u) := fun o u z => by rw [k.dk] at z; cases z; exact k.fr _ _ rfl
theorem Lk.nt {n : Nat} {a : Addr} {u : HO} (k : Lk H β n a u) : ∀ ys, ¬ Rd H a (.tup ys) := fun ys z => by
 rcases z with z | ⟨o, z⟩
 ·rw [k.dk] at z; cases z; exact k.tu _ rfl
 ·rw [k.dk] at z; cases z; exact k.fr _ _ rfl
theorem LR.lk (L : LR C cf oa P σ H β ρ S) {n : Nat} {so so' : SO} {a : Addr} (hn : β[n]? = some a) (e : S[n]? = some so) (e' : Dm so = some so') : ∃ u, Lk H β n a u ∧ ∀ od, bG C (upd H a (.frz od u)) P β a so' := by
 have q := L.st.ok _ _ _ hn e
 have m := List.mem_of_getElem? hn
 have nt := L.st.pH m
 cases so with
 | dct kvs =>
  cases e'
  obtain ⟨us, q1, q2⟩ := q
  exact ⟨.dK us, ⟨hn, q1, True.intro, (fun _ _ z => nomatch z), (fun _ z => nomatch z)⟩, fun od => ⟨od, us, upd_same, q2.set (.inr m) nt⟩⟩
 | lst xs =>
  cases e'
  obtain ⟨us, q1, q2⟩ := q
  exact ⟨.lst us, ⟨hn, q1, True.intro, (fun _ _ z => nomatch z), (fun _ z => nomatch z)⟩, fun od => ⟨od, us, upd_same, q2.set (.inr m) nt⟩⟩
 | _ => cases e'
theorem a0n {a : Addr} {so so' : SO} {od : Obj} {u : HO} (h : bG C H P β a so) (e : AH so = some so') (hu : H a = some (.frz od u)) (m : a ∈ β) (nt : ∀ ys, ¬ Rd H a (.tup ys)) : bG C (upd H a u) P β a so' := by
 cases so with
 | dX kvs =>
  cases e
  obtain ⟨od', us, q1, q2⟩ := h
  rw [hu] at q1
  cases q1
  exact ⟨us, upd_same, q2.set (.inr m) nt⟩
 | fQ xs =>
  cases e
  obtain ⟨od', us, q1, q2⟩ := h
  rw [hu] at q1
  cases q1
  exact ⟨us, upd_same, q2.set (.inr m) nt⟩
 | _ => cases e
theorem LR.a0o (L : LR C cf oa P σ H β ρ S) {n : Nat} {so' : SO} {a : Addr} {u : HO} (k : Lk H β n a u) (od : Obj) (new : bG C (upd H a (.frz od u)) P β a so') :
  LR C cf oa P σ (upd H a (.frz od u)) β ρ (S.set n so') ∧ Ext H β (upd H a (.frz od u)) β := by
 have m := List.mem_of_getElem? k.at_
 exact ⟨L.wrote k.at_ new k.ne, Ext.wrote m k.nt k.ne⟩
/-- taken back -/
theorem LR.Dr (L : LR C cf oa P σ H β ρ S) {n : Nat} {a : Addr} {u : HO} (k : Lk H β n a u) {od : Obj} (L' : LR C cf bf P' σ' H' β' ρ' S2) (f : Fs (upd H a (.frz od u)) β H' β') {so so' : SO} (e : S2[n]? = some so) (e' : AH so = some so') :
  H' a = some (.frz od u) ∧ β'[n]? = some a ∧ (∀ ys, ¬ Rd H' a (.tup ys)) ∧ LR C cf bf P' σ' (upd H' a u) β' ρ' (S2.set n so') := by
 have ha : H' a = some (.frz od u) := f.fz a od _ upd_same
 have hn : β'[n]? = some a := by
  obtain ⟨γ, r⟩ := f.pre
  rw [r, List.getElem?_append_left (List.getElem?_eq_some_iff.mp k.at_).1]; exact k.at_
 have m := List.mem_of_getElem? hn
 have nt : ∀ ys, ¬ Rd H' a (.tup ys) := fun ys z => by
  rcases z with z | ⟨o, z⟩
  ·rw [ha] at z; cases z
  ·rw [ha] at z; cases z; exact k.tu _ rfl
 have new : bG C (upd H' a u) P' β' a so' := a0n (L'.st.ok _ _ _ hn e) e' ha m nt
 refine ⟨ha, hn, nt, ?_⟩
 exact {
  len := L'.len
  p := fun b h => ⟨by
   by_cases e : b = a
   ·rw [e, upd_same]; exact Option.some_ne_none _
   ·rw [upd_ne e]; exact (L'.p b h).1, (L'.p b h).2⟩
  sub := L'.sub
  p0 := L'.p0
  ext := {
   pre := L'.ext.pre
   keep := fun b o h hb => by
    have ne : b ≠ a := fun z => (L'.ext.fresh a m).elim (fun q => hb (z ▸ q)) fun q => by rw [z, q] at h; cases h
    rw [upd_ne ne]; exact L'.ext.keep b o h hb
   fresh := L'.ext.fresh
   tups := fun b ys h => by
    have r := L'.ext.tups b ys h
    have ne : b ≠ a := fun z => nt ys (z ▸ r)
    unfold Rd; rw [upd_ne ne]; exact r
   stay := fun b h => by
    by_cases e : b = a
    ·rw [e, upd_same]; exact Option.some_ne_none _
    ·rw [upd_ne e]; exact L'.ext.stay b h
   dY := fun b o v h => by
    have ne : b ≠ a := fun z => k.ne o v (by have := L.ext.dY b o v h; rw [z] at this; exact this)
    rw [upd_ne ne]; exact L'.ext.dY b o v h }
  own := L'.own
  inj := L'.inj
  st := L'.st.set hn new
  slot := fun i d h => let ⟨v, q1, q2⟩ := L'.slot i d h; ⟨v, q1, q2.set (.inr m) nt⟩
  bV := fun i d h => let ⟨b, q1, q2, q3⟩ := L'.bV i d h; ⟨b, q1, q2, q3.set (.inr m) nt fun z => (L'.p b (L'.own i b q1).1).2 (z ▸ m)⟩
  xslot := fun i x h => let ⟨b, q1, q2⟩ := L'.xslot i x h; ⟨b, q1, q2.setB m nt⟩ }
/-- the way as a whole -/
theorem Lk.ext {n : Nat} {a : Addr} {u : HO} (k : Lk H β n a u) {od : Obj} (x : Ext (upd H a (.frz od u)) β H' β') (nt : ∀ ys, ¬ Rd H' a (.tup ys)) : Ext H β (upd H' a u) β' := by
 have m := List.mem_of_getElem? k.at_
 have x1 : Ext H β (upd H a (.frz od u)) β := Ext.wrote m k.nt k.ne
 have x2 := x1.trans x
 refine ⟨x2.pre, fun b o h hb => ?_, x2.fresh, fun b ys h => ?_, fun b h => ?_, fun b o v h => ?_⟩
 ·rw [upd_ne (fun z => hb (by rw [z]; exact m))]; exact x2.keep b o h hb
 ·have r := x2.tups b ys h
  have ne : b ≠ a := fun z => nt ys (z ▸ r)
  unfold Rd; rw [upd_ne ne]; exact r
 ·by_cases e : b = a
  ·rw [e, upd_same]; exact Option.some_ne_none _
  ·rw [upd_ne e]; exact x2.stay b h
 ·have ne : b ≠ a := fun z => k.ne o v (z ▸ h)
  rw [upd_ne ne]; exact x2.dY b o v h
theorem Lk.fx {n : Nat} {a : Addr} {u : HO} (k : Lk H β n a u) {od : Obj} (x : Fx (upd H a (.frz od u)) P β H' P' β') (hm : a ∈ β') (nt : ∀ ys, ¬ Rd H' a (.tup ys)) : Fx H P β (upd H' a u) P' β' := by
 have m := List.mem_of_getElem? k.at_
 have x1 : Ext H β (upd H a (.frz od u)) β := Ext.wrote m k.nt k.ne
 have x2 := (Fx.of (P := P) x1).trans x
 refine ⟨x2.pre, fun b v h1 h2 r => ?_, fun b o v h => ?_, fun b ys h => ?_⟩
 ·obtain ⟨q1, q2, q3⟩ := x2.con b v h1 h2 r
  have ne : b ≠ a := fun z => q3 (z ▸ hm)
  exact ⟨by unfold Rd; rw [upd_ne ne]; exact q1, q2, q3⟩
 ·have ne : b ≠ a := fun z => k.ne o v (z ▸ h)
  rw [upd_ne ne]; exact x2.fz b o v h
 ·have r := x2.tups b ys h
  have ne : b ≠ a := fun z => nt ys (z ▸ r)
  unfold Rd; rw [upd_ne ne]; exact r
theorem Lk.fs {n : Nat} {a : Addr} {u : HO} (k : Lk H β n a u) {od : Obj} (x : Fs (upd H a (.frz od u)) β H' β') : Fs H β (upd H' a u) β' := by
 refine ⟨x.pre, fun b o v h => ?_⟩
 have ne : b ≠ a := fun z => k.ne o v (z ▸ h)
 rw [upd_ne ne]; exact x.fz b o v (by rw [upd_ne ne]; exact h)
end
section
variable {X : Cx} {W : WX} {e : Expr} {m md : EX} {s : SX} {st : Stmt}
theorem a0p {t1 t2 : TS} (a : PS X st t1) (b : PS X st t2) : PS X st (fun D σ H => t1 D σ H ∨ t2 D σ H) := ⟨fun pins s σ H Q I h => h.elim (a.run pins s σ H Q I) (b.run pins s σ H Q I)⟩
theorem yC (h : fL (aj X) W X st s) : fL (aj X) W X st (lK md s) := jw (a0p h (ps_lock h)) fun D σ H h => by
 obtain ⟨cf, oa, P, β, ρ, S, L, h⟩ := h
 unfold lK at h
 cases HS : je md ρ S with
 | none => rw [HS] at h; exact .inl ⟨cf, oa, P, β, ρ, S, L, h⟩
 | some p =>
   obtain ⟨n, so'⟩ := p
   rw [HS] at h
   obtain ⟨so, eS, eL⟩ := a0m HS
   simp only at h
   have hl : n < β.length := by rw [L.st.len]; exact (List.getElem?_eq_some_iff.mp eS).1
   obtain ⟨u, k, rk⟩ := L.lk (List.getElem?_eq_getElem hl) eS eL
   refine .inr ⟨_, u, k.dk, k.mu, fun od => ?_⟩
   obtain ⟨L1, x1⟩ := L.a0o k od (rk od)
   refine ⟨cf, oa, P, β, ρ, _, L1, ?_⟩
   cases em : s ρ (S.set n so') with
   | stuck => rw [em] at h; exact h
   | exc x ρ2 S2 =>
    rw [em] at h
    intro cls d σ' H' β' bf P' L2 f2 ex
    exact h cls d σ' H' β' bf P' L2 ((Fx.of x1).trans f2) ex
   | nx ρ2 S2 =>
    rw [em] at h
    simp only [rZ] at h
    intro σ' H' β' bf P' L2 f2
    cases eu : gQ n S2 with
    | none => rw [eu] at h; exact h.elim
    | some S3 =>
     rw [eu] at h
     obtain ⟨sa, sb, e2, e3, rfl⟩ := Dq eu
     obtain ⟨q1, q2, q3, L3⟩ := L.Dr k L2 f2.fs e2 e3
     exact ⟨q1, h σ' _ β' bf P' L3 (k.fx f2 (List.mem_of_getElem? q2) q3)⟩
   | bk ρ2 S2 =>
    rw [em] at h
    simp only [rZ] at h
    intro σ' H' β' bf P' L2 f2
    cases eu : gQ n S2 with
    | none => rw [eu] at h; exact h.elim
    | some S3 =>
     rw [eu] at h
     obtain ⟨sa, sb, e2, e3, rfl⟩ := Dq eu
     obtain ⟨q1, q2, q3, L3⟩ := L.Dr k L2 f2.fs e2 e3
     exact ⟨q1, h σ' _ β' bf P' L3 (k.fx f2 (List.mem_of_getElem? q2) q3)⟩
   | ct ρ2 S2 =>
    rw [em] at h
    simp only [rZ] at h
    intro σ' H' β' bf P' L2 f2
    cases eu : gQ n S2 with
    | none => rw [eu] at h; exact h.elim
    | some S3 =>
     rw [eu] at h
     obtain ⟨sa, sb, e2, e3, rfl⟩ := Dq eu
     obtain ⟨q1, q2, q3, L3⟩ := L.Dr k L2 f2.fs e2 e3
     exact ⟨q1, h σ' _ β' bf P' L3 (k.fx f2 (List.mem_of_getElem? q2) q3)⟩
   | rt d S2 =>
    rw [em] at h
    simp only [rZ] at h
    intro v H' β' x2 f2 s2 r2
    cases eu : gQ n S2 with
    | none => rw [eu] at h; exact h.elim
    | some S3 =>
     rw [eu] at h
     obtain ⟨sa, sb, e2, e3, rfl⟩ := Dq eu
     have L2 : LR (aj X) cf (fun _ => none) cf.P0 [] H' β' [] S2 :=
      ⟨rfl, fun b hb => ⟨x2.stay b (L.p0 b hb), fun m => by
       rcases x2.fresh b m with q | q
       ·exact (L.p b (L.sub b hb)).2 (by obtain ⟨γ, e⟩ := L.ext.pre; rw [e]; exact List.mem_append_left _ q)
       ·exact L.p0 b hb q⟩, fun _ h => h, L.p0, x2, (fun _ _ h => nomatch h), (fun _ _ _ h => nomatch h), s2, (fun i d h => by cases h), (fun i d h => by cases h), (fun i d h => by cases h)⟩
     obtain ⟨q1, q2, q3, L3⟩ := L.Dr k L2 f2 e2 e3
     exact ⟨q1, h v _ β' L3.ext (k.fs f2) L3.st (r2.set (.inr (List.mem_of_getElem? q2)) q3)⟩
end
section
variable {a md : EX} {ρ : aF} {S : Store} {QL : List D → Store → Prop} {E : bD → Store → Prop} {N : aF → Store → Prop} {p : Po} {s : SX}
theorem AI {g : List (Key × D) → List D} : (iF g a ρ S).al QL E ↔ (a ρ S).al (fun x S1 => ∃ kvs, iz S1 x = some kvs ∧ QL (g kvs) S1) E := by
 unfold iF; rw [bM]
 refine iff_of_eq (congrArg (fun z => R.al (a ρ S) z _) (funext fun x => funext fun S1 => propext ?_))
 cases h1 : iz S1 x <;> simp [R.al, R.opt]
def HU (S : Store) (x : D) : Option (List D) := match iz S x with
 | some kvs => some (oH kvs)
 | none => HR S x
theorem QK : (yx a ρ S).al QL E ↔ (a ρ S).al (fun x S1 => ∃ ds, HU S1 x = some ds ∧ QL ds S1) E := by
 unfold yx; rw [bM]
 refine iff_of_eq (congrArg (fun z => R.al (a ρ S) z _) (funext fun x => funext fun S1 => propext ?_))
 rw [iy]; rfl
theorem Ds : (lK md s ρ S).al N p ↔ match je md ρ S with
  | some q => (s ρ (S.set q.1 q.2)).al (fun ρ2 S2 => ∃ S3, gQ q.1 S2 = some S3 ∧ N ρ2 S3) ⟨fun d S2 => ∃ S3, gQ q.1 S2 = some S3 ∧ p.T d S3, p.E, fun ρ2 S2 => ∃ S3, gQ q.1 S2 = some S3 ∧ p.B ρ2 S3, fun ρ2 S2 => ∃ S3, gQ q.1 S2 = some S3 ∧ p.C ρ2 S3, p.X⟩
  | none => (s ρ S).al N p := by
 unfold lK
 cases je md ρ S with
 | none => exact Iff.rfl
 | some q =>
  simp only
  cases s ρ (S.set q.1 q.2) with
  | nx ρ2 S2 => simp only [rZ, SR.al]; cases h1 : gQ q.1 S2 <;> simp [SR.al]
  | bk ρ2 S2 => simp only [rZ, SR.al]; cases h1 : gQ q.1 S2 <;> simp [SR.al]
  | ct ρ2 S2 => simp only [rZ, SR.al]; cases h1 : gQ q.1 S2 <;> simp [SR.al]
  | rt d S2 => simp only [rZ, SR.al]; cases h1 : gQ q.1 S2 <;> simp [SR.al]
  | exc e ρ2 S2 => exact Iff.rfl
  | stuck => exact Iff.rfl
end
structure Gn (n : Nat) (S S' : Store) : Prop where
 at_ : iw S' n
 len : S'.length = S.length
 same : ∀ k, k ≠ n → S'[k]? = S[k]?
theorem Gn.refl {n : Nat} {S : Store} (h : iw S n) : Gn n S S := ⟨h, rfl, fun _ _ => rfl⟩
theorem Gn.trans {n : Nat} {S S1 S2 : Store} (a : Gn n S S1) (b : Gn n S1 S2) : Gn n S S2 := ⟨b.at_, b.len.trans a.len, fun k h => (b.same k h).trans (a.same k h)⟩
theorem wu {S : Store} {n : Nat} {m : Int} {Q : D → Store → Prop} {E : bD → Store → Prop} (h : iw S n) (h0 : 0 < m) (h1 : m < 1073741824) (k : ∀ d S', 0 ≤ d → d < m → Gn n S S' → Q (.int d) S') : ((aY 3 CU) [.ref n, .int m] S).al Q E := by
 obtain ⟨d, a, b, e, d0, d1, a0, b0, b1⟩ := Zz h h0 h1
 rw [e]
 have hl : n < S.length := by obtain ⟨_, _, e, _⟩ := h; exact (List.getElem?_eq_some_iff.mp e).1
 exact k d _ d0 d1 ⟨⟨a, b, List.getElem?_set_self hl, a0, b0, b1⟩, List.length_set, fun k hk => List.getElem?_set_ne hk.symm⟩
theorem RS.gn {S S' : Store} {n : Nat} (h : RS S n S') : Gn n S S' := by
 obtain ⟨a, b, a0, b0, b1, hl, rfl⟩ := h
 exact ⟨⟨a, b, List.getElem?_set_self hl, a0, b0, b1⟩, List.length_set, fun k hk => List.getElem?_set_ne hk.symm⟩
theorem iw.app {S J : Store} {n : Nat} (h : iw S n) : iw (S ++ J) n := by
 obtain ⟨a, b, e, r⟩ := h
 exact ⟨a, b, by rw [List.getElem?_append_left (List.getElem?_eq_some_iff.mp e).1]; exact e, r⟩
theorem iw.lt {S : Store} {n : Nat} (h : iw S n) : n < S.length := by
 obtain ⟨a, b, e, r⟩ := h
 exact (List.getElem?_eq_some_iff.mp e).1
theorem qm {S J : Store} {n : Nat} {so : SO} (h : S[n]? = some so) : (S ++ J)[n]? = some so := by
 rw [List.getElem?_append_left (List.getElem?_eq_some_iff.mp h).1]; exact h
theorem a0q {S : Store} {i : Nat} {ρ : aF} {k : List (Key × D)} {n : Nat} (h : ρ[i]? = some (.sh (.ref n))) (h2 : S[n]? = some (.dct k)) : je (ak i) ρ S = some (n, .dX k) := by
 unfold je ak
 rw [h]
 simp only
 rw [h2]
 rfl
theorem a0r {S : Store} {k : List (Key × D)} {n : Nat} (h : S[n]? = some (.dX k)) : gQ n S = some (S.set n (.dct k)) := by
 unfold gQ
 rw [h]
 rfl
def qp (f : Str) (v : D) : List (Str × D) → List (Str × D)
 | [] => [(f, v)]
 | (g, w) :: r => if g = f then (g, v) :: r else (g, w) :: qp f v r
/-- a reading of a vm thing as an instance of one of the classes -/
def yD (cs : List Str) (S : Store) (d : D) : Option (Nat × Str × List (Str × D)) := match d with
 | .ref n => match S[n]? with
  | some (.ins c fs) => if cs.contains c = true then some (n, c, fs) else none
  | _ => none
 | _ => none
def lM (cs : List Str) (f : Str) (S : Store) (d : D) : Option D := match yD cs S d with
 | some (_, _, fs) => fs.lookup f
 | none => none
/-- what a class must have for isinstance -/
structure CI (K : PySem.W.Frag) (C : Addr) : Prop where
 ha : PySem.W.findIn K (.ref C) "__class__" = some (some (.builtin "object.__class__"))
 hn : PySem.W.specialIn K (.builtin "object.__class__") "__get__" = some (some (.builtin "getset_descriptor.__get__"))
 tk : PySem.W.takesIn K (.builtin "object.__class__") = some true
 mo : PySem.W.mroIn K C (.type "object") = some true
 ct : PySem.W.typeIn K (.ref C) = some (.type "type")
/-- what a class must have -/
structure HV (K : PySem.W.Frag) (mg : Str → Option Value) (c : Str) : Prop where
 ex : ∃ Ca, mg c = some (.ref Ca) ∧ Cls K Ca ∧ CI K Ca
structure a0s (K : PySem.W.Frag) (mg : Str → Option Value) (f c : Str) : Prop where
 ex : ∃ Ca, mg c = some (.ref Ca) ∧ NoAttr K Ca f
def fX (K : PySem.W.Frag) (mg : Str → Option Value) : List Str → Prop
 | [] => True
 | c :: r => HV K mg c ∧ fX K mg r
def mW (K : PySem.W.Frag) (mg : Str → Option Value) (f : Str) : List Str → Prop
 | [] => True
 | c :: r => a0s K mg f c ∧ mW K mg f r
theorem fX.ci {K : PySem.W.Frag} {mg : Str → Option Value} {c : Str} {Ca : Addr} : ∀ {cs : List Str}, fX K mg cs → cs.contains c = true → mg c = some (.ref Ca) → Cls K Ca ∧ CI K Ca
 | [], _, h, _ => by cases h
 | x :: r, ⟨q, t⟩, h, m => by
  by_cases e : c = x
  ·subst e
   obtain ⟨Cb, h1, h2⟩ := q.ex
   rw [m] at h1; cases h1; exact h2
  ·exact fX.ci t (by rw [List.contains_cons] at h; simpa [e] using h) m
theorem fX.at {K : PySem.W.Frag} {mg : Str → Option Value} {c : Str} {Ca : Addr} {cs : List Str} (h : fX K mg cs) (q : cs.contains c = true) (m : mg c = some (.ref Ca)) : Cls K Ca := (h.ci q m).1
theorem fX.has {K : PySem.W.Frag} {mg : Str → Option Value} {c : Str} : ∀ {cs : List Str}, fX K mg cs → cs.contains c = true → ∃ Ca, mg c = some (.ref Ca) ∧ Cls K Ca ∧ CI K Ca
 | [], _, h => by cases h
 | x :: r, ⟨q, t⟩, h => by
  by_cases e : c = x
  ·subst e
   obtain ⟨Cb, h1, h3, h2⟩ := q.ex
   exact ⟨Cb, h1, h3, h2⟩
  ·exact fX.has t (by rw [List.contains_cons] at h; simpa [e] using h)
theorem mW.at {K : PySem.W.Frag} {mg : Str → Option Value} {f c : Str} {Ca : Addr} : ∀ {cs : List Str}, mW K mg f cs → cs.contains c = true → mg c = some (.ref Ca) → NoAttr K Ca f
 | [], _, h, _ => by cases h
 | x :: r, ⟨q, t⟩, h, m => by
  by_cases e : c = x
  ·subst e
   obtain ⟨Cb, h1, h2⟩ := q.ex
   rw [m] at h1; cases h1; exact h2
  ·exact mW.at t (by rw [List.contains_cons] at h; simpa [e] using h) m
theorem QM {C : Ct} {H : Hp} {P : Addr → Prop} {β : List Addr} {S : Store} {cs : List Str} {v : V} {d : D} {n : Nat} {c : Str} {fs : List (Str × D)} (r : RV C H P β v d) (s : aP C H P β S) (h : yD cs S d = some (n, c, fs)) :
  ∃ a Ca dx vs, d = .ref n ∧ S[n]? = some (.ins c fs) ∧ cs.contains c = true ∧ v = .ref a ∧ β[n]? = some a ∧ C.mg c = some (.ref Ca) ∧ H a = some (.ins Ca dx vs) ∧ nU C H P β vs fs := by
 unfold yD at h
 split at h
 ·rename_i m
  split at h
  ·rename_i c' fs' eS
   split at h
   ·rename_i hc
    cases h
    cases r with
    | ref hn =>
     obtain ⟨Ca, dx, vs, h1, h2, h3⟩ := s.ok _ _ _ hn eS
     exact ⟨_, Ca, dx, vs, rfl, eS, hc, rfl, hn, h1, h2, h3⟩
   ·cases h
  ·cases h
 ·cases h
theorem QN {C : Ct} {H : Hp} {P : Addr → Prop} {β : List Addr} {f : Str} : ∀ {vs : List (Str × V)} {fs : List (Str × D)} {d : D}, nU C H P β vs fs → fs.lookup f = some d → ∃ v, vs.lookup f = some v ∧ RV C H P β v d
 | [], [], _, _, e => by cases e
 | [], (g, w) :: r, _, h, _ => by cases h.1
 | (g, w) :: r, [], _, h, _ => by cases h.1
 | (g, w) :: vs, (g', w') :: fs, d, ⟨h1, h2⟩, e => by
  have hg : g = g' := (List.cons.inj h1).1
  subst hg
  cases h2 with
  | cons q t =>
   rw [List.lookup_cons] at e ⊢
   cases hk : (f == g) with
   | true => rw [hk] at e; cases e; exact ⟨w, rfl, q⟩
   | false => rw [hk] at e; exact QN ⟨(List.cons.inj h1).2, t⟩ e
theorem Dt {C : Ct} {H : Hp} {P : Addr → Prop} {β : List Addr} {f : Str} : ∀ {vs : List (Str × V)} {fs : List (Str × D)}, nU C H P β vs fs → fs.lookup f = none → vs.lookup f = none
 | [], [], _, e => rfl
 | [], (g, w) :: r, h, _ => by cases h.1
 | (g, w) :: r, [], h, _ => by cases h.1
 | (g, w) :: vs, (g', w') :: fs, ⟨h1, h2⟩, e => by
  have hg : g = g' := (List.cons.inj h1).1
  subst hg
  cases h2 with
  | cons q t =>
   rw [List.lookup_cons] at e ⊢
   cases hk : (f == g) with
   | true => rw [hk] at e; cases e
   | false => rw [hk] at e; exact Dt ⟨(List.cons.inj h1).2, t⟩ e
theorem QS {C : Ct} {H : Hp} {P : Addr → Prop} {β : List Addr} {f : Str} {v : V} {d : D} (q : RV C H P β v d) : ∀ {vs : List (Str × V)} {fs : List (Str × D)}, nU C H P β vs fs → nU C H P β (putF f v vs) (qp f d fs)
 | [], [], _ => ⟨rfl, .cons q .nil⟩
 | [], (g, w) :: r, h => by cases h.1
 | (g, w) :: r, [], h => by cases h.1
 | (g, w) :: vs, (g', w') :: fs, ⟨h1, h2⟩ => by
  have hg : g = g' := (List.cons.inj h1).1
  subst hg
  cases h2 with
  | cons q1 t =>
   by_cases hk : g = f
   ·have e1 : putF f v ((g, w) :: vs) = (g, v) :: vs := by simp [putF, hk]
    have e2 : qp f d ((g, w') :: fs) = (g, d) :: fs := by simp [qp, hk]
    rw [e1, e2]
    exact ⟨h1, .cons q t⟩
   ·have e1 : putF f v ((g, w) :: vs) = (g, w) :: putF f v vs := by simp [putF, hk]
    have e2 : qp f d ((g, w') :: fs) = (g, w') :: qp f d fs := by simp [qp, hk]
    rw [e1, e2]
    have r := QS (f := f) q (vs := vs) (fs := fs) ⟨(List.cons.inj h1).2, t⟩
    exact ⟨by rw [List.map_cons, List.map_cons, r.1], .cons q1 r.2⟩
theorem a0t {C : Ct} {H : Hp} {P : Addr → Prop} {β : List Addr} {vs : List (Str × V)} {fs : List (Str × D)} (h : nU C H P β vs fs) : vs.length = fs.length := by
 have := congrArg List.length h.1
 simpa using this
theorem nU.set {C : Ct} {H : Hp} {P : Addr → Prop} {β : List Addr} {vs : List (Str × V)} {fs : List (Str × D)} {p : Addr} {o : HO} (h : nU C H P β vs fs) (hp : P p ∨ p ∈ β) (ht : ∀ xs, ¬ Rd H p (.tup xs)) : nU C (upd H p o) P β vs fs := ⟨h.1, h.2.set hp ht⟩
def cC (cs : List Str) (f : Str) (mo : EX) : EX := cW (lM cs f) mo
def a0u (X : Cx) (f : Str) : V → Hp → VK → Prop := fun x H Q => ∃ a C dx fs v, x = .ref a ∧ H a = some (.ins C dx fs) ∧ Cls X.K C ∧ NoAttr X.K C f ∧ fs.lookup f = some v ∧ Q v H
section
variable {X : Cx} {W : WX} {b : Bool} {o e : Expr} {mo me : EX} {f : Str} {cs : List Str} {pos pos' : Pos}
theorem a0v (hC : fX X.K X.mg cs) (hF : mW X.K X.mg f cs) : vp X (a0u X f) (lM cs f) := by
 intro Z H β S x dx dz Q A rx e k
 unfold lM at e
 split at e
 ·rename_i n c fs ei
  obtain ⟨a, Ca, dx, vs, rfl, eS, hc, rfl, hn, hm, hH, hf⟩ := QM rx A.st ei
  obtain ⟨v, l, rv⟩ := QN hf e
  exact ⟨a, Ca, dx, vs, v, rfl, hH, hC.at hc hm, hF.at hc hm, l, k v H (Same.refl _) rv⟩
 ·cases e
theorem fJ (hC : fX X.K X.mg cs) (hF : mW X.K X.mg f cs) (ho : PM (aj X) W b X o mo) (hb : attributeBase o f X.env (eval o X.env) = eval o X.env := by rfl) : PM (aj X) W b X (.Attribute o f pos) (cC cs f mo) :=
 bW (pe_fld ho hb) fun σ H Q h => A6 (a0v hC hF) h
def lN (cs : List Str) (f : Str) (d v : D) (S : Store) : Option Store := match yD cs S d with
 | some (n, c, fs) => if fs.length < 1000 then some (S.set n (.ins c (qp f v fs))) else none
 | none => none
def su (cs : List Str) (f : Str) (mo me : EX) : SX := fun ρ S => (me ρ S).st ρ fun y S1 => (mo ρ S1).st ρ fun x S2 => match lN cs f x y S2 with
 | some S3 => .nx ρ S3
 | none => .stuck
theorem a0w {C : Ct} {cf : Cf} {oa : Nat → Option Addr} {P : Addr → Prop} {σ : L2.St} {H : Hp} {β : List Addr} {ρ : aF} {S S3 : Store} {cs : List Str} {f : Str} {d y : D} {x v : V} {Q : Prop} (hC : ∀ c Ca, cs.contains c = true → C.mg c = some (.ref Ca) → Cls C.K Ca ∧ NoAttr C.K Ca f) (L : LR C cf oa P σ H β ρ S) (r : RV C H P β x d) (rv : RV C H P β v y) (e : lN cs f d y S = some S3)
  (k : ∀ a c Ca dx vs, x = .ref a → cs.contains c = true → C.mg c = some (.ref Ca) → H a = some (.ins Ca dx vs) → Cls C.K Ca → NoAttr C.K Ca f → vs.length < 1000 → Ext H β (upd H a (.ins Ca dx (putF f v vs))) β → LR C cf oa P σ (upd H a (.ins Ca dx (putF f v vs))) β ρ S3 → Q) : Q := by
 unfold lN at e
 split at e
 ·rename_i n c fs ei
  split at e
  ·rename_i hl
   cases e
   obtain ⟨a, Ca, dx, vs, rfl, eS, hc, rfl, hn, hm, hH, hf⟩ := QM r L.st ei
   have m := List.mem_of_getElem? hn
   have nt := L.st.pH m
   have hfz : ∀ o u, H a ≠ some (.frz o u) := fun o u z => by rw [hH] at z; cases z
   have new : bG C (upd H a (.ins Ca dx (putF f v vs))) P β a (.ins c (qp f y fs)) := ⟨Ca, dx, _, hm, upd_same, QS (rv.set (.inr m) nt) (hf.set (.inr m) nt)⟩
   exact k a c Ca dx vs rfl hc hm hH (hC c Ca hc hm).1 (hC c Ca hc hm).2 (by rw [a0t hf]; exact hl) (Ext.wrote m nt hfz) (L.wrote hn new hfz)
  ·cases e
 ·cases e
theorem AJ (hC : fX X.K X.mg cs) (hF : mW X.K X.mg f cs) (ho : PM (aj X) W false X o mo) (he : PM (aj X) W false X e me) (hs : swapsWith e (some (.Attribute o f pos')) pos.line X.env = pure false := by rfl) : fL (aj X) W X (.Assign [.Attribute o f pos'] e pos) (su cs f mo me) :=
 jw (ps_fld ho he hs) fun D σ H h => by
  obtain ⟨cf, oa, P, β, ρ, S, L, h⟩ := h
  unfold su at h
  refine ⟨cf, oa, P, β, ρ, S, L, ?_⟩
  cases ee : me ρ S with
  | stuck => rw [ee] at h; exact h
  | exc x S1 => rw [ee] at h; exact jC h
  | ok y S1 =>
   rw [ee] at h
   simp only [R.st] at h
   intro yv H1 β1 t1 L1 r1
   refine ⟨cf, oa, P, β1, ρ, S1, L1, ?_⟩
   cases eo : mo ρ S1 with
   | stuck => rw [eo] at h; exact h
   | exc x S2 => rw [eo] at h; exact jC (SQ.fx (r := .exc x ρ S2) (Fx.of t1.ext) h)
   | ok d S2 =>
    rw [eo] at h
    simp only at h
    intro ov H2 β2 t2 L2 r2
    cases ep : lN cs f d y S2 with
    | none => rw [ep] at h; exact h.elim
    | some S3 =>
     rw [ep] at h
     refine a0w (fun c Ca h1 h2 => ⟨hC.at h1 h2, hF.at h1 h2⟩) L2 r2 (r1.mono t2.ext) ep fun a _ Ca dx vs hx _ _ hH hc hn hl x L3 => ⟨a, Ca, dx, vs, hx, hH, hc, hn, hl, ?_⟩
     exact h σ _ β2 oa P L3 ((Fx.of (t1.trans t2).ext).trans (Fx.of x))
end
/-- how a call binds: idx places among the positional values, the keywords' values and all keyword-only defaults dvs -/
structure Bnd (K : PySem.W.Frag) (fd : FuncData) (ps ks : List Str) (n : Nat) (idx : List Nat) (dvs : List V) : Prop where
 to : ∃ its : List Value, Vals dvs its ∧ ∀ (s : Shared) (us ws : List Value), K.In s.heap → us.length = n → ws.length = ks.length → BindsTo s fd ⟨us, ks.zip ws⟩ (ps.zip (pick idx us (ws ++ its)))
def QT (st : Stmt) (ps ks : List Str) (n : Nat) (idx lk : List Nat) (kn : List Str) : Prop :=
 ∀ (x qual : Str) (D : Addr) (doc pm : Value) (an : Option Addr) (cdv ct : Value) (us ws its : List Value), us.length = n → ws.length = ks.length → its.length = kn.length →
  KwChain D (pick lk (kn.zip its) []) (bindArgs (PySem.W.fnOf x qual (defArgs st) (defBody st) (defScope st) .none (.ref D) doc pm an cdv ct) ⟨us, ks.zip ws⟩) (ps.zip (pick idx us (ws ++ its)))
section
variable {K : PySem.W.Frag} {x qual : Str} {st : Stmt} {kws : List (Str × V)} {fa : Addr} {fd : FuncData} {ps ks : List Str} {n : Nat} {idx lk : List Nat}
abbrev iY (K : PySem.W.Frag) (x qual : Str) (st : Stmt) (kws : List (Str × V)) (fa : Addr) (fd : FuncData) : Prop := FunD K x qual (defArgs st) (defBody st) (defScope st) [] kws fa fd
theorem HW (F : iY K x qual st kws fa fd) (B : tW st ps ks n idx) : Bnd K fd ps ks n idx [] := by
 obtain ⟨oc, od, dV, kV, doc, pm, an, cdv, ct, osl, rfl, lk, hcd, hD, hK⟩ := F.ex
 rcases hD with ⟨_, rfl⟩ | ⟨e, _⟩
 ·exact ⟨[], .nil, fun s us ws _ hu hw => .of_eq (by rw [List.append_nil]; exact B x qual kV doc pm an cdv ct us ws hu hw)⟩
 ·exact absurd rfl e
theorem a0x {α : Type} {idx : List Nat} {us ws : List α} {x : α} (h : x ∈ pick idx us ws) : x ∈ us ++ ws := by
 unfold pick at h
 obtain ⟨i, _, h⟩ := List.mem_filterMap.mp h
 exact List.mem_of_getElem? h
theorem a0y (F : iY K x qual st kws fa fd) (hk : kws ≠ []) (B : QT st ps ks n idx lk (kws.map (·.1))) : Bnd K fd ps ks n idx (kws.map (·.2)) := by
 obtain ⟨oc, od, dV, kV, doc, pm, an, cdv, ct, osl, rfl, lk', hcd, hD, hK⟩ := F.ex
 rcases hD with ⟨_, rfl⟩ | ⟨e, _⟩
 ·rcases hK with e | ⟨D, rfl, hq⟩
  ·exact absurd e hk
  ·obtain ⟨its, hl, rk, hks⟩ := kwd_vals hq
   refine ⟨its, rk, fun s us ws X hu hw => ?_⟩
   have hl' : its.length = (kws.map (·.1)).length := by rw [hl, List.length_map]
   refine BindsTo.of_looks fun M => KwChain.looks X ?_ (B x qual D doc pm an cdv ct us ws its hu hw hl')
   intro q hq'
   have := a0x hq'
   rw [List.append_nil] at this
   exact hks q this
 ·exact absurd rfl e
end
/-- a def of the text bR keeps its promise -/
theorem mX {K : PySem.W.Frag} {x qual : Str} {st : Stmt} {kws : List (Str × V)} {fa : Addr} {fd : FuncData} (F : iY K x qual st kws fa fd) : Fun K x qual st fa fd := by
 obtain ⟨oc, od, dV, kV, doc, pm, an, cdv, ct, osl, rfl, lk, hcd, hD, hK⟩ := F.ex
 rcases hD with ⟨_, rfl⟩ | ⟨e, _⟩
 ·exact ⟨⟨oc, od, kV, doc, pm, an, cdv, ct, osl, rfl, lk, hcd⟩, F.kp⟩
 ·exact absurd rfl e
/-- values bR read as ds Y9 Xp stand -/
def CD (K : PySem.W.Frag) (vs : List V) (ds : List D) : Prop := ∀ (C : Ct), C.K = K → ∀ (H : Hp) (P : Addr → Prop) (β : List Addr), aA C H P β vs ds
structure MR where
 idx : List Nat
 dd : List D
 f : FX
/-- a a03 method bR keeps its promise -/
structure bU (P : Program) (w : World) (K : PySem.W.Frag) (mg : Str → Option Value) (base : Heap) (k : Nat) (c m : Str) (st : Stmt) (ps : List Str) (kd : List (Str × D)) (f : FX) : Prop where
 ex : ∃ (Ca fa : Addr) (x qual : Str) (fd : FuncData) (kws : List (Str × V)), mg c = some (.ref Ca) ∧ Cls K Ca ∧ Meth K Ca m fa ∧ iY K x qual st kws fa fd ∧ kws.map (·.1) = kd.map (·.1) ∧ CD K (kws.map (·.2)) (kd.map (·.2)) ∧ cQ P w K mg base k fa fd ps (cM ⟨K, mg, w, []⟩ ps.length f)
/-- a method at a call -/
structure MethAt (X : Cx) (k n : Nat) (ks : List Str) (m c : Str) (r : MR) : Prop where
 ex : ∃ (Ca fa : Addr) (fd : FuncData) (ps : List Str) (dvs : List V), X.mg c = some (.ref Ca) ∧ Cls X.K Ca ∧ Meth X.K Ca m fa ∧ cQ X.prog X.w X.K X.mg X.base k fa fd ps (cM ⟨X.K, X.mg, X.w, []⟩ ps.length r.f) ∧ Bnd X.K fd ps ks n r.idx dvs ∧ CD X.K dvs r.dd ∧
  ∀ vs zs : List V, vs.length = n → zs.length = ks.length → (pick r.idx vs (zs ++ dvs)).length = ps.length
section
variable {X : Cx} {k j n : Nat} {ks ps : List Str} {m c : Str} {st : Stmt} {kd : List (Str × D)} {f : FX} {idx lk : List Nat}
theorem MethAt.of0 (M : bU X.prog X.w X.K X.mg X.base k c m st ps kd f) (h : k ≤ j) (B : tW st ps ks n idx) (hl : ∀ vs zs : List V, vs.length = n → zs.length = ks.length → (pick idx vs (zs ++ [])).length = ps.length) : MethAt X j n ks m c ⟨idx, [], f⟩ := by
 obtain ⟨Ca, fa, x, qual, fd, kws, h1, h2, h3, h4, h5, h6, h7⟩ := M.ex
 exact ⟨Ca, fa, fd, ps, [], h1, h2, h3, h7.mono h, HW h4 B, fun _ _ _ _ _ => .nil, hl⟩
theorem MethAt.of1 (M : bU X.prog X.w X.K X.mg X.base k c m st ps kd f) (h : k ≤ j) (hk : kd ≠ []) (B : QT st ps ks n idx lk (kd.map (·.1))) (hl : ∀ vs zs ds : List V, vs.length = n → zs.length = ks.length → ds.length = kd.length → (pick idx vs (zs ++ ds)).length = ps.length) : MethAt X j n ks m c ⟨idx, kd.map (·.2), f⟩ := by
 obtain ⟨Ca, fa, x, qual, fd, kws, h1, h2, h3, h4, h5, h6, h7⟩ := M.ex
 have hk' : kws ≠ [] := by
  rintro rfl
  have := congrArg List.length h5
  simp at this
  exact hk (List.length_eq_zero_iff.mp this.symm)
 have hkl : kws.length = kd.length := by have := congrArg List.length h5; simpa using this
 exact ⟨Ca, fa, fd, ps, kws.map (·.2), h1, h2, h3, h7.mono h, a0y (lk := lk) h4 hk' (by rw [h5]; exact B), h6, fun vs zs a b => hl vs zs _ a b (by rw [List.length_map]; exact hkl)⟩
end
def yE (X : Cx) (k n : Nat) (ks : List Str) (m : Str) : List (Str × MR) → Prop
 | [] => True
 | (c, r) :: t => MethAt X k n ks m c r ∧ yE X k n ks m t
theorem yE.at {X : Cx} {k n : Nat} {ks : List Str} {m c : Str} {r : MR} : ∀ {T : List (Str × MR)}, yE X k n ks m T → T.lookup c = some r → MethAt X k n ks m c r
 | [], _, h => by cases h
 | (d, q) :: t, ⟨h1, h2⟩, h => by
  rw [List.lookup_cons] at h
  cases e : (c == d) with
  | true => rw [e] at h; cases h; rw [show c = d from by simpa using e]; exact h1
  | false => rw [e] at h; exact h2.at h
def cZ (S : Store) (d : D) : Option (Str × List (Str × D)) := match d with
 | .ref n => match S[n]? with
  | some (.ins c fs) => some (c, fs)
  | _ => none
 | _ => none
def fY (T : List (Str × MR)) (m : Str) (mo : EX) (a k : AX) : EX := fun ρ S => (mo ρ S).bind fun d S1 => match cZ S1 d with
 | some (c, fs) => match T.lookup c, fs.lookup m with
  | some r, none => (a ρ S1).bind fun us S2 => (k ρ S2).bind fun ws S3 => r.f (pick r.idx (d :: us) (ws ++ r.dd)) S3
  | _, _ => .stuck
 | none => .stuck
theorem yF {C : Ct} {H : Hp} {P : Addr → Prop} {β : List Addr} {S : Store} {v : V} {d : D} {c : Str} {fs : List (Str × D)} (r : RV C H P β v d) (s : aP C H P β S) (h : cZ S d = some (c, fs)) :
  ∃ a n Ca dx vs, d = .ref n ∧ S[n]? = some (.ins c fs) ∧ v = .ref a ∧ β[n]? = some a ∧ C.mg c = some (.ref Ca) ∧ H a = some (.ins Ca dx vs) ∧ nU C H P β vs fs := by
 unfold cZ at h
 split at h
 ·rename_i m
  split at h
  ·rename_i c' fs' eS
   cases h
   cases r with
   | ref hn =>
    obtain ⟨Ca, dx, vs, h1, h2, h3⟩ := s.ok _ _ _ hn eS
    exact ⟨_, m, Ca, dx, vs, rfl, eS, rfl, hn, h1, h2, h3⟩
  ·cases h
 ·cases h
section
variable {X : Cx} {W : WX} {e o : Expr} {es : List Expr} {kws : List Keyword} {mo : EX} {ma mk : AX} {pos apos : Pos} {m : Str} {ks : List Str} {k j n : Nat} {T : List (Str × MR)}
/-- what a receiver b2d -/
def a0z (X : Cx) (k n : Nat) (ks : List Str) (m : Str) (H : Hp) (x : V) (rf : FX) (idx : List Nat) (dvs : List V) (dd : List D) (nv : Nat) : Prop :=
 ∃ a Ca dx vs fa fd ps, x = .ref a ∧ H a = some (.ins Ca dx vs) ∧ vs.lookup m = none ∧ Cls X.K Ca ∧ Meth X.K Ca m fa ∧ ps.length = nv ∧ cQ X.prog X.w X.K X.mg X.base k fa fd ps (cM ⟨X.K, X.mg, X.w, []⟩ nv rf) ∧ Bnd X.K fd ps ks n idx dvs ∧ CD X.K dvs dd ∧
  ∀ vs zs : List V, vs.length = n → zs.length = ks.length → (pick idx vs (zs ++ dvs)).length = nv
theorem QU {σ : L2.St} {H : Hp} {Q : VK} (hT : yE X k (n + 1) ks m T) (h1 : i7 ma n) (h2 : i7 mk ks.length) (h : EM (aj X) W false (fY T m mo ma mk) σ H Q) :
  EM (aj X) W false mo σ H fun x H1 => ∃ rf idx dvs dd nv, a0z X k (n + 1) ks m H1 x rf idx dvs dd nv ∧ AM (aj X) W false ma σ H1 fun us H2 => AM (aj X) W false mk σ H2 fun zs H3 => us.length = n ∧ zs.length = ks.length ∧ cM (aj X) nv rf (pick idx (x :: us) (zs ++ dvs)) H3 Q (WE W σ) := by
 obtain ⟨cf, oa, P, β, ρ, S, L, h⟩ := h
 refine ⟨cf, oa, P, β, ρ, S, L, ?_⟩
 unfold fY at h
 cases eo : mo ρ S with
 | stuck => rw [eo] at h; exact h
 | exc e S1 => rw [eo] at h; exact h
 | ok d S1 =>
  rw [eo] at h
  simp only [R.bind] at h
  intro x H1 β1 t1 L1 r1
  cases er : cZ S1 d with
  | none => rw [er] at h; exact h.elim
  | some q =>
   obtain ⟨c, fs⟩ := q
   rw [er] at h
   simp only at h
   cases el : T.lookup c with
   | none => rw [el] at h; exact h.elim
   | some r =>
    cases ef : fs.lookup m with
    | some z => rw [el, ef] at h; exact h.elim
    | none =>
     rw [el, ef] at h
     simp only at h
     obtain ⟨a, nn, Ca, dx, vs, rfl, eS, rfl, hn, hm, hH, hf⟩ := yF r1 L1.st er
     obtain ⟨qu, fa, fd, ps, dvs, g1, g2, g3, g4, g5, g6, g7⟩ := (hT.at el).ex
     have sE : qu = Ca := by have z := g1.symm.trans hm; injection z with z; injection z
     subst sE
     refine ⟨r.f, r.idx, dvs, r.dd, ps.length, ⟨a, qu, dx, vs, fa, fd, ps, rfl, hH, Dt hf ef, g2, g3, rfl, g4, g5, g6, g7⟩, cf, oa, P, β1, ρ, S1, L1, ?_⟩
     cases ea : ma ρ S1 with
     | stuck => rw [ea] at h; exact h
     | exc e S2 => rw [ea] at h; intro cls d H' β' e2 L2 ex; exact h cls d H' β' (t1.trans e2) L2 ex
     | ok us S2 =>
      rw [ea] at h
      simp only at h
      intro uv H2 β2 t2 L2 r2
      refine ⟨cf, oa, P, β2, ρ, S2, L2, ?_⟩
      have QV := t1.trans t2
      cases eb : mk ρ S2 with
      | stuck => rw [eb] at h; exact h
      | exc e S3 => rw [eb] at h; intro cls d H' β' e2 L2 ex; exact h cls d H' β' (QV.trans e2) L2 ex
      | ok ws S3 =>
       rw [eb] at h
       simp only at h
       intro zv H3 β3 t3 L3 r3
       have n1 : uv.length = n := by rw [r2.length]; exact h1 _ _ _ _ ea
       have n2 : zv.length = ks.length := by rw [r3.length]; exact h2 _ _ _ _ eb
       refine ⟨n1, n2, Gr (QV.trans t3) L3 (Gm (.cons (r1.mono (t2.trans t3).ext) (r2.mono t3.ext)) (r3.append (g6 (aj X) rfl H3 P β3))) (g7 _ _ (by rw [List.length_cons, n1]) n2) h⟩
theorem run_bnd {fa : Addr} {fd : FuncData} {ps : List Str} {rf : FX} {idx : List Nat} {dvs : List V} {nv : Nat} {σ : L2.St} {pins : List (Addr × Obj)} {H : Hp} {s : Shared} {Q : VK} {us ws : List Value} {vs zs : List V} (G : cQ X.prog X.w X.K X.mg X.base k fa fd ps (cM ⟨X.K, X.mg, X.w, []⟩ nv rf)) (B : Bnd X.K fd ps ks n idx dvs) (hgd : X.A.guards = some []) (hr : Room k X.A) (tk : Takes X W)
  (I : Inv X pins σ H s) (r : Vals vs us) (rz : Vals zs ws) (l1 : vs.length = n) (l2 : zs.length = ks.length) (h : cM (aj X) nv rf (pick idx vs (zs ++ dvs)) H Q (WE W σ)) : wpAny (model X.prog X.w) X.A (call (.ref fa) us (ks.zip ws)) (EP X pins σ Q) X.xe s := by
 obtain ⟨its, ri, bd⟩ := B.to
 exact Gp G hgd hr (passAt tk σ) I (bd s us ws I.kIn (by rw [← r.length]; exact l1) (by rw [← rz.length]; exact l2)) (Gk r (rz.append ri)) (xJ (C := aj X) (C' := ⟨X.K, X.mg, X.w, []⟩) rfl rfl h)
/-- o.m(e, .., k = v, ..) -/
theorem qw {pl : Sem Bool} (hT : yE X k (n + 1) ks m T) (hgd : X.A.guards = some []) (hr : Room j X.A) (hkj : k ≤ j) (tk : Takes X W) (ho : PM (aj X) W false X o mo) (ha : j6 (aj X) W false X (e :: es) ma) (hkw : tX (aj X) W false X kws mk) (h1 : i7 ma n) (h2 : i7 mk ks.length)
  (hall : (backToKw pos (keywordEach kws X.env)).all (·.1.isSome) = true := by rfl) (hks : (backToKw pos (keywordEach kws X.env)).filterMap (·.1) = ks := by rfl)
  (he : starEach (e :: es) X.env = (false, eval e X.env) :: starEach es X.env := by rfl)
  (hpl : ((backTo pos (starEach (e :: es) X.env)).any (·.1) || (backToKw pos (keywordEach kws X.env)).any (·.1.isNone)) = false := by rfl)
  (ht : eval (.Call (.Attribute o m apos) (e :: es) kws pos) X.env = (do
   let ov ← eval o X.env
   standAt apos.atName
   let (f, first) ← holding [ov] (getMethod ov m pl)
   callWith pos f first (backTo pos (starEach (e :: es) X.env)) (backToKw pos (keywordEach kws X.env))) := by rfl) :
  PM (aj X) W false X (.Call (.Attribute o m apos) (e :: es) kws pos) (fY T m mo ma mk) := by
 refine ⟨fun pins s σ H Q I h => ?_⟩
 refine PySem.W.methodCall_KW (pl := pl) (thn (ho.run pins s σ H _ I (QU hT h1 h2 h)) fun u s1 ⟨x, H1, I1, rx, rf, idx, dvs, dd, nv, ⟨a, Ca, dx, vs, fa, fd, ps, ex, ea, l, c, hm, hnv, G, B, _, hlen⟩, q⟩ => ?_) ht
 subst ex
 obtain rfl : u = Value.ref a := rx
 refine getmeth_ok I1 ea c hm l ?_
 refine PySem.W.callWith_KW (first := [.ref a]) (h₀ := X.base) I.ok.mod.kin hm.kp hall (thn (ha.run pos pins s1 σ H1 _ I1 q) fun us s2 ⟨vs2, H2, I2, r, q2⟩ => ?_) hpl he
 refine thn (hkw.run pos pins s2 σ H2 _ I2 q2) fun ws s3 ⟨zs, H3, I3, rz, n1, n2, q3⟩ => ⟨I3.kIn, ?_⟩
 rw [hks]
 exact run_bnd G B hgd (hr.mono hkj) tk I3 (us := .ref a :: us) (vs := .ref a :: vs2) (.cons rfl r) rz (by rw [List.length_cons, n1]) n2 q3
/-- o.m(k = v, ..), o.m() -/
theorem a0B {pl : Sem Bool} (hT : yE X k 1 ks m T) (hgd : X.A.guards = some []) (hr : Room j X.A) (hkj : k ≤ j) (tk : Takes X W) (ho : PM (aj X) W false X o mo) (hkw : tX (aj X) W false X kws mk) (h2 : i7 mk ks.length)
  (hall : (backToKw pos (keywordEach kws X.env)).all (·.1.isSome) = true := by rfl) (hks : (backToKw pos (keywordEach kws X.env)).filterMap (·.1) = ks := by rfl)
  (hpl : ((backTo pos (starEach [] X.env)).any (·.1) || (backToKw pos (keywordEach kws X.env)).any (·.1.isNone)) = false := by rfl)
  (ht : eval (.Call (.Attribute o m apos) [] kws pos) X.env = (do
   let ov ← eval o X.env
   standAt apos.atName
   let (f, first) ← holding [ov] (getMethod ov m pl)
   callWith pos f first (backTo pos (starEach [] X.env)) (backToKw pos (keywordEach kws X.env))) := by rfl) :
  PM (aj X) W false X (.Call (.Attribute o m apos) [] kws pos) (fY T m mo aq mk) := by
 refine ⟨fun pins s σ H Q I h => ?_⟩
 have h' := QU hT bB h2 h
 refine PySem.W.methodCall_KW (pl := pl) (thn (ho.run pins s σ H _ I h') fun u s1 ⟨x, H1, I1, rx, rf, idx, dvs, dd, nv, ⟨a, Ca, dx, vs, fa, fd, ps, ex, ea, l, c, hm, hnv, G, B, _, hlen⟩, q⟩ => ?_) ht
 subst ex
 obtain rfl : u = Value.ref a := rx
 refine getmeth_ok I1 ea c hm l ?_
 have q' : AM (aj X) W false mk σ H1 fun zs H2 => zs.length = ks.length ∧ cM (aj X) nv rf (pick idx [.ref a] (zs ++ dvs)) H2 Q (WE W σ) := by
  obtain ⟨cf, oa, P, β, ρ, S, L, q⟩ := q
  have q := q [] H1 β Tr.refl L .nil
  obtain ⟨cf, oa, P, β, ρ, S, L, q⟩ := q
  refine ⟨cf, oa, P, β, ρ, S, L, ?_⟩
  cases eb : mk ρ S with
  | stuck => rw [eb] at q; exact q
  | exc e S2 => rw [eb] at q; exact q
  | ok ws S2 => rw [eb] at q; intro zs H2 β2 t2 L2 r2; exact (q zs H2 β2 t2 L2 r2).2
 refine PySem.W.callWith_KW0 (first := [.ref a]) (h₀ := X.base) I.ok.mod.kin hm.kp hall (thn (hkw.run pos pins s1 σ H1 _ I1 q') fun ws s3 ⟨zs, H3, I3, rz, n2, q3⟩ => ⟨I3.kIn, ?_⟩) hpl
 rw [hks]
 exact run_bnd G B hgd (hr.mono hkj) tk I3 (us := [.ref a]) (vs := [.ref a]) (.cons rfl .nil) rz rfl n2 q3
end
def uH (c : Str) (r : MR) (a k : AX) : EX := fun ρ S => (a ρ S).bind fun us S1 => (k ρ S1).bind fun ws S2 => (r.f (pick r.idx (.ref S2.length :: us) (ws ++ r.dd)) (S2 ++ [.ins c []])).bind fun d S3 => match d with
 | .non => .ok (.ref S2.length) S3
 | _ => .stuck
/-- a class bR can be made -/
structure yG (X : Cx) (k n : Nat) (ks : List Str) (c : Str) (r : MR) : Prop where
 ex : ∃ (Ca fa : Addr) (fd : FuncData) (ps : List Str) (dvs : List V), X.mg c = some (.ref Ca) ∧ Mk X.K Ca fa ∧ cQ X.prog X.w X.K X.mg X.base k fa fd ps (cM ⟨X.K, X.mg, X.w, []⟩ ps.length r.f) ∧ Bnd X.K fd ps ks n r.idx dvs ∧ CD X.K dvs r.dd ∧
  ∀ vs zs : List V, vs.length = n → zs.length = ks.length → (pick r.idx vs (zs ++ dvs)).length = ps.length
/-- what of the text a class must have to be made -/
structure QW (K : PySem.W.Frag) (mg : Str → Option Value) (c : Str) : Prop where
 ex : ∃ Ca, mg c = some (.ref Ca) ∧ PySem.W.makesIn K Ca = true ∧ PySem.W.keepIn K (.ref Ca) = true
section
variable {X : Cx} {k n : Nat} {ks ps : List Str} {c : Str}
theorem yG.of {r : MR} (Z : QW X.K X.mg c) (M : MethAt X k n ks "__init__" c r) : yG X k n ks c r := by
 obtain ⟨Ca, h1, h2, h3⟩ := Z.ex
 obtain ⟨qu, fa, fd, ps, dvs, g1, g2, g3, g4, g5, g6, g7⟩ := M.ex
 have sE : qu = Ca := by have z := g1.symm.trans h1; injection z with z; injection z
 subst sE
 exact ⟨qu, fa, fd, ps, dvs, g1, ⟨h2, g3.at_, g3.fn, h3⟩, g4, g5, g6, g7⟩
end
section
variable {X : Cx} {W : WX} {e : Expr} {es : List Expr} {kws : List Keyword} {ma mk : AX} {p pos : Pos} {x : Str} {ks : List Str} {k j n : Nat} {r : MR}
theorem a0C {Ca : Addr} {dvs : List V} {nv : Nat} {σ : L2.St} {H : Hp} {Q : VK} (hm : X.mg x = some (.ref Ca)) (g6 : CD X.K dvs r.dd) (g7 : ∀ vs zs : List V, vs.length = n + 1 → zs.length = ks.length → (pick r.idx vs (zs ++ dvs)).length = nv) (h1 : i7 ma n) (h2 : i7 mk ks.length) (h : EM (aj X) W false (uH x r ma mk) σ H Q) :
  AM (aj X) W false ma σ H fun us H1 => AM (aj X) W false mk σ H1 fun zs H2 => us.length = n ∧ zs.length = ks.length ∧ ∀ a dx, H2 a = none → H2 dx = none → dx ≠ a →
   cM (aj X) nv r.f (pick r.idx (.ref a :: us) (zs ++ dvs)) (upd (upd H2 dx (.own a)) a (.ins Ca dx [])) (fun v H3 => v = .non ∧ Q (.ref a) H3) (WE W σ) := by
 obtain ⟨cf, oa, P, β, ρ, S, L, h⟩ := h
 refine ⟨cf, oa, P, β, ρ, S, L, ?_⟩
 unfold uH at h
 cases ea : ma ρ S with
 | stuck => rw [ea] at h; exact h
 | exc e S1 => rw [ea] at h; exact h
 | ok us S1 =>
  rw [ea] at h
  simp only [R.bind] at h
  intro uv H1 β1 t1 L1 r1
  refine ⟨cf, oa, P, β1, ρ, S1, L1, ?_⟩
  cases eb : mk ρ S1 with
  | stuck => rw [eb] at h; exact h
  | exc e S2 => rw [eb] at h; intro cls d H' β' e2 L2 ex; exact h cls d H' β' (t1.trans e2) L2 ex
  | ok ws S2 =>
   rw [eb] at h
   simp only at h
   intro zv H2 β2 t2 L2 r2
   have n1 : uv.length = n := by rw [r1.length]; exact h1 _ _ _ _ ea
   have n2 : zv.length = ks.length := by rw [r2.length]; exact h2 _ _ _ _ eb
   refine ⟨n1, n2, fun a dx ha hd ne => ?_⟩
   have L3 := L2.laid (o := .own a) hd
   have e3 : Ext H2 β2 (upd H2 dx (.own a)) β2 := Ext.laid hd
   have ha3 : (upd H2 dx (.own a)) a = none := by rw [upd_ne (Ne.symm ne)]; exact ha
   have nP : ¬ P a := fun z => (L3.p a z).1 ha3
   have e4 : Ext (upd H2 dx (.own a)) β2 (upd (upd H2 dx (.own a)) a (.ins Ca dx [])) (β2 ++ [a]) := Ext.boxed ha3
   have s4 := L3.st.box (o := .ins Ca dx []) (so := .ins x []) ha3 nP ⟨Ca, dx, [], hm, upd_same, rfl, .nil⟩
   have L4 := L3.step e4 s4
   have HX := e3.trans e4
   have hlen : β2.length = S2.length := L2.st.len
   have ra : RV (aj X) (upd (upd H2 dx (.own a)) a (.ins Ca dx [])) P (β2 ++ [a]) (.ref a) (.ref S2.length) := .ref (by rw [← hlen, List.getElem?_append_right (Nat.le_refl _)]; simp)
   have t3 : Tr false H β S (upd (upd H2 dx (.own a)) a (.ins Ca dx [])) (β2 ++ [a]) (S2 ++ [.ins x []]) := ⟨(t1.trans t2).ext.trans HX, fun z => nomatch z⟩
   refine ⟨g7 _ _ (by rw [List.length_cons, n1]) n2, P, _, pick r.idx (.ref S2.length :: us) (ws ++ r.dd), _, L4.st, L4.p, Gm (.cons ra (r1.mono (t2.ext.trans HX))) ((r2.mono HX).append (g6 (aj X) rfl _ P _)), ?_⟩
   cases ef : r.f (pick r.idx (.ref S2.length :: us) (ws ++ r.dd)) (S2 ++ [.ins x []]) with
   | stuck => rw [ef] at h; exact h
   | exc e S3 =>
    rw [ef] at h
    intro cls x' H5 β5 e5 s5 ea5
    exact h cls x' H5 β5 (t3.trans ⟨e5, fun z => nomatch z⟩) (L4.step e5 s5) ea5
   | ok d S3 =>
    rw [ef] at h
    simp only at h
    intro v H5 β5 e5 s5 r5
    cases d with
    | non =>
     cases r5
     exact ⟨rfl, h (.ref a) H5 β5 (t3.trans ⟨e5, fun z => nomatch z⟩) (L4.step e5 s5) (ra.mono e5)⟩
    | _ => exact h.elim
theorem run_mk {Ca fa : Addr} {fd : FuncData} {ps : List Str} {rf : FX} {idx : List Nat} {dvs : List V} {σ : L2.St} {pins : List (Addr × Obj)} {H : Hp} {s : Shared} {Q : VK} {us ws : List Value} {vs zs : List V} (M : Mk X.K Ca fa) (G : cQ X.prog X.w X.K X.mg X.base k fa fd ps (cM ⟨X.K, X.mg, X.w, []⟩ ps.length rf)) (B : Bnd X.K fd ps ks (n + 1) idx dvs) (hgd : X.A.guards = some []) (hr : Room (k + 1) X.A) (tk : Takes X W)
  (I : Inv X pins σ H s) (r : Vals vs us) (rz : Vals zs ws) (l1 : vs.length = n) (l2 : zs.length = ks.length)
  (h : ∀ a dx, H a = none → H dx = none → dx ≠ a → cM (aj X) ps.length rf (pick idx (.ref a :: vs) (zs ++ dvs)) (upd (upd H dx (.own a)) a (.ins Ca dx [])) (fun v H3 => v = .non ∧ Q (.ref a) H3) (WE W σ)) :
  wpAny (model X.prog X.w) X.A (call (.ref Ca) us (ks.zip ws)) (EP X pins σ Q) X.xe s := by
 have hq := h (s.heap.objs.size + 1) s.heap.objs.size (I.hok.fresh (Nat.le_succ _)) (I.hok.fresh (Nat.le_refl _)) (Nat.ne_of_lt (Nat.lt_succ_self _))
 have I2 := Inv.made (C := Ca) I
 obtain ⟨its, ri, bd⟩ := B.to
 have r2 : Vals (pick idx (.ref (s.heap.objs.size + 1) :: vs) (zs ++ dvs)) (pick idx (.ref (s.heap.objs.size + 1) :: us) (ws ++ its)) := Gk (.cons rfl r) (rz.append ri)
 refine wpAny_call (make_map (f := fa) I.kIn M.makes M.init (beq_iff_eq.mp M.fn) (codeAny_mono (G.run _ X.stack _ _ ⟨Value.ref (s.heap.objs.size + 1) :: us, ks.zip ws⟩ _ _ _ (WE W σ) (by show X.A.guards = some []; exact hgd) (hr.make Ca us (ks.zip ws))
  (I2.env0.make Ca us (ks.zip ws)) (bd _ (Value.ref (s.heap.objs.size + 1) :: us) ws I2.kIn (by rw [List.length_cons, ← r.length, l1]) (by rw [← rz.length]; exact l2)) r2 (xJ (C := aj X) (C' := ⟨X.K, X.mg, X.w, []⟩) rfl rfl hq)) fun r s' hq' => ?_))
 cases r with
 | error e => exact passAt tk σ pins _ _ e s' I2 hq'
 | ok fl =>
  cases fl with
  | ret u =>
   obtain ⟨v, H', I3, rv, ev, q3⟩ := I2.after hq'
   subst ev
   exact ⟨rv, ⟨V.ref (s.heap.objs.size + 1), H', I3, rfl, q3⟩⟩
  | next => exact False.elim hq'
  | brk => exact False.elim hq'
  | cont => exact False.elim hq'
/-- C(e, .., k = v, ..) -/
theorem HY (hT : yG X k (n + 1) ks x r) (hgd : X.A.guards = some []) (hr : Room j X.A) (hkj : k + 1 ≤ j) (tk : Takes X W) (ha : j6 (aj X) W false X (e :: es) ma) (hkw : tX (aj X) W false X kws mk) (h1 : i7 ma n) (h2 : i7 mk ks.length) (hg : Gl X x := by rfl)
  (hall : (backToKw pos (keywordEach kws X.env)).all (·.1.isSome) = true := by rfl) (hks : (backToKw pos (keywordEach kws X.env)).filterMap (·.1) = ks := by rfl)
  (hdb : (x == ("__debug__" : Str)) = false := by decide) (he : starEach (e :: es) X.env = (false, eval e X.env) :: starEach es X.env := by rfl)
  (hpl : ((backTo pos (starEach (e :: es) X.env)).any (·.1) || (backToKw pos (keywordEach kws X.env)).any (·.1.isNone)) = false := by rfl) : PM (aj X) W false X (.Call (.Name x p) (e :: es) kws pos) (uH x r ma mk) := by
 obtain ⟨Ca, fa, fd, ps, dvs, hm, M, G, B, g6, g7⟩ := hT.ex
 refine ⟨fun pins s σ H Q I h => ?_⟩
 have h := a0C hm g6 g7 h1 h2 h
 refine wpAny_Call_Name_kw (ld_glob I hg hm ?_ hdb)
 refine PySem.W.callWith_KW (h₀ := X.base) I.ok.mod.kin M.kp hall (thn (ha.run pos pins s σ H _ I h) fun us s1 ⟨vs, H1, I1, r, q⟩ => ?_) hpl he
 refine thn (hkw.run pos pins s1 σ H1 _ I1 q) fun ws s2 ⟨zs, H2, I2, rz, n1, n2, q2⟩ => ⟨I2.kIn, ?_⟩
 rw [hks]
 exact run_mk M G B hgd (hr.mono hkj) tk I2 (us := us) r rz n1 n2 q2
end
inductive wz where
 | own (c : Str) | bi (t : String)
def oJ (cs : List Str) (S : Store) (d : D) : Option wz := match cZ S d with
 | some (c, _) => if cs.contains c = true then some (.own c) else none
 | none => match tyOf S d with
  | some t => some (.bi t)
  | none => none
def isOne (cs : List Str) (T : List ((Str × Str) × Bool)) (U : List ((Str × String) × Bool)) (t : wz) (q : D) : Option Bool := match t with
 | .own c => Qy T U c q
 | .bi t => match q with
  | .fn y => if cs.contains y = true then some false else none
  | .ty c => if o9 c = true then some (CJ t c) else none
  | _ => none
def isAny (cs : List Str) (T : List ((Str × Str) × Bool)) (U : List ((Str × String) × Bool)) (t : wz) : List D → Option Bool
 | [] => some false
 | q :: r => match isOne cs T U t q with
  | some true => (isAny cs T U t r).map fun _ => true
  | some false => isAny cs T U t r
  | none => none
def yH (cs : List Str) (T : List ((Str × Str) × Bool)) (U : List ((Str × String) × Bool)) (S : Store) (ds : List D) : Option D := match ds with
 | [d, q] => match oJ cs S d with
  | some t => match q with
   | .tup qs => (isAny cs T U t qs).map D.bl
   | q => (isOne cs T U t q).map D.bl
  | none => none
 | _ => none
def QX (K : PySem.W.Frag) : List V → Hp → VK → Prop := fun xs H Q => ∃ (x c : V) (t : Value) (b : Bool), xs = [x, c] ∧ TyX K H x t ∧
 ((∃ u, ClsV c u ∧ PySem.W.kitOne K t u = some b) ∨ ∃ tp cs us, c = .ref tp ∧ SqT K H tp cs ∧ Paired ClsV cs us ∧ PySem.W.kitAny K t us = some b) ∧ Q (.bl b) H
section
variable {X : Cx} {Z : Addr → Prop} {H : Hp} {β : List Addr} {S : Store} {cs : List Str} {T : List ((Str × Str) × Bool)} {U : List ((Str × String) × Bool)}
theorem a0E : CallR X (.builtin "isinstance") (QX X.K) := by
 intro pins s σ H xs us Q I r h
 obtain ⟨x, c, t, b, rfl, ty, hk, q⟩ := h
 obtain ⟨u1, u2, rfl, r1, r2⟩ := vals2 r
 obtain ⟨P, Z, p, hx⟩ := kit_of I r1 ty
 rcases hk with ⟨u, k, e⟩ | ⟨tp, cs, us, rfl, hT, k, e⟩
 ·have e2 := k.eq r2
  subst e2
  exact PySem.W.kia_one Z I.kIn p e hx fun tk => ⟨.bl b, H, I.tok tk, rfl, q⟩
 ·cases (show u2 = Value.ref tp from r2)
  obtain ⟨its, rv, ⟨o, h1, h2, n, h3⟩, _⟩ := I.tuple hT
  have e3 := ClsV.all k rv
  subst e3
  obtain ⟨oc, od', dt, sl⟩ := o
  simp only at h2 h3
  subst h2 h3
  exact PySem.W.kia_tup Z I.kIn p h1 e hx fun tk => ⟨.bl b, H, I.tok tk, rfl, q⟩
theorem QY {K : PySem.W.Frag} {t : String} {Ca : Addr} (ht : t = "NoneType" ∨ o9 t = true) : PySem.W.subIn K (.type t) (.ref Ca) = some false := by
 simp only [o9, Bool.or_eq_true, beq_iff_eq] at ht
 rcases ht with rfl | ((((rfl | rfl) | rfl) | rfl) | rfl) | rfl
 ·have e : fastBuiltinMro "NoneType" = some [.type "NoneType", .type "object"] := by decide +kernel
  show (fastBuiltinMro "NoneType").map (·.contains (.ref Ca)) = some false
  rw [e]; rfl
 ·have e : fastBuiltinMro "bool" = some [.type "bool", .type "int", .type "object"] := by decide +kernel
  show (fastBuiltinMro "bool").map (·.contains (.ref Ca)) = some false
  rw [e]; rfl
 ·have e : fastBuiltinMro "int" = some [.type "int", .type "object"] := by decide +kernel
  show (fastBuiltinMro "int").map (·.contains (.ref Ca)) = some false
  rw [e]; rfl
 ·have e : fastBuiltinMro "str" = some [.type "str", .type "object"] := by decide +kernel
  show (fastBuiltinMro "str").map (·.contains (.ref Ca)) = some false
  rw [e]; rfl
 ·have e : fastBuiltinMro "tuple" = some [.type "tuple", .type "object"] := by decide +kernel
  show (fastBuiltinMro "tuple").map (·.contains (.ref Ca)) = some false
  rw [e]; rfl
 ·have e : fastBuiltinMro "list" = some [.type "list", .type "object"] := by decide +kernel
  show (fastBuiltinMro "list").map (·.contains (.ref Ca)) = some false
  rw [e]; rfl
 ·have e : fastBuiltinMro "dict" = some [.type "dict", .type "object"] := by decide +kernel
  show (fastBuiltinMro "dict").map (·.contains (.ref Ca)) = some false
  rw [e]; rfl
theorem a0F {K : PySem.W.Frag} {t : String} {Ca : Addr} (ht : t = "NoneType" ∨ o9 t = true) (cl : Cls K Ca) (ci : CI K Ca) : PySem.W.kitOne K (.type t) (.ref Ca) = some false := by
 unfold PySem.W.kitOne
 rw [if_neg (by simp)]
 unfold PySem.W.kitCls
 simp only
 obtain ⟨cd, hc, _⟩ := PySem.W.any_some cl.hd
 rw [if_pos (by rw [hc, ci.ct]; simp)]
 exact QY ht
/-- the type bR a value is seen to have -/
def Ib (X : Cx) (cs : List Str) (t : wz) (u : Value) : Prop := match t with
 | .own c => cs.contains c = true ∧ ∃ Ca, X.mg c = some (.ref Ca) ∧ u = .ref Ca
 | .bi s => u = .type s ∧ (s = "NoneType" ∨ o9 s = true)
theorem QZ (hC : fX X.K X.mg cs) {v : V} {d : D} {t : wz} (A : At (aj X) H Z β S) (rv : RV (aj X) H Z β v d) (h : oJ cs S d = some t) : ∃ u, TyX X.K H v u ∧ Ib X cs t u := by
 unfold oJ at h
 cases er : cZ S d with
 | some z =>
  obtain ⟨c, fs⟩ := z
  rw [er] at h
  simp only at h
  by_cases hc : cs.contains c = true
  ·rw [if_pos hc] at h
   cases h
   obtain ⟨a, n, Ca, dx, vs, rfl, eS, rfl, hn, hm, hH, hf⟩ := yF rv A.st er
   obtain ⟨h1, h2⟩ := hC.ci hc hm
   exact ⟨.ref Ca, .base (.ins hH h1 h2.ha h2.hn h2.tk h2.mo), hc, Ca, hm, rfl⟩
  ·rw [if_neg hc] at h; cases h
 | none =>
  rw [er] at h
  simp only at h
  cases et : tyOf S d with
  | none => rw [et] at h; cases h
  | some s =>
   rw [et] at h
   cases h
   obtain ⟨ty, ht⟩ := MT A rv et
   exact ⟨_, ty, rfl, ht⟩
theorem R3 (hC : fX X.K X.mg cs) (hT : rR X.K X.mg T) (hU : rW X.K X.mg U) {w : V} {q : D} {t : wz} {u : Value} {r : Bool} (tu : Ib X cs t u) (rq : RV (aj X) H Z β w q) (h : isOne cs T U t q = some r) :
  ∃ k, ClsV w k ∧ PySem.W.kitOne X.K u k = some r := by
 cases t with
 | own c =>
  obtain ⟨hc, Ca, hm, rfl⟩ := tu
  cases q with
  | fn y => cases rq with
   | fn hy hk => exact ⟨_, .own _, hT.at h hm hy⟩
  | ty n => cases rq; exact ⟨_, .ty _, hU.at h hm⟩
  | _ => cases h
 | bi s =>
  obtain ⟨rfl, ht⟩ := tu
  cases q with
  | fn y =>
   simp only [isOne] at h
   by_cases hc : cs.contains y = true
   ·rw [if_pos hc] at h
    cases h
    cases rq with
    | fn hy hk =>
     obtain ⟨Ca, h1, h3, h2⟩ := hC.has hc
     rw [show X.mg y = some (.ref _) from hy] at h1
     cases h1
     exact ⟨_, .own _, a0F ht h3 h2⟩
   ·rw [if_neg hc] at h; cases h
  | ty c =>
   simp only [isOne] at h
   by_cases hc : o9 c = true
   ·rw [if_pos hc] at h
    cases h
    cases rq
    exact ⟨_, .ty _, kit_ty _ ht hc⟩
   ·rw [if_neg hc] at h; cases h
  | _ => cases h
theorem Ie (hC : fX X.K X.mg cs) (hT : rR X.K X.mg T) (hU : rW X.K X.mg U) {t : wz} {u : Value} (tu : Ib X cs t u) : ∀ {ws : List V} {qs : List D} {r : Bool}, aA (aj X) H Z β ws qs → isAny cs T U t qs = some r →
  ∃ ks, Paired ClsV ws ks ∧ PySem.W.kitAny X.K u ks = some r
 | _, [], r, .nil, h => by cases h; exact ⟨[], .nil, rfl⟩
 | _, d :: ds, r, .cons rv rs, h => by
  unfold isAny at h
  cases e1 : isOne cs T U t d with
  | none => rw [e1] at h; cases h
  | some b1 =>
   obtain ⟨k, k1, k2⟩ := R3 hC hT hU tu rv e1
   rw [e1] at h
   cases b1 with
   | true =>
    simp only at h
    cases e2 : isAny cs T U t ds with
    | none => rw [e2] at h; cases h
    | some b2 =>
     rw [e2] at h
     cases h
     obtain ⟨us, q1, q2⟩ := Ie hC hT hU tu rs e2
     exact ⟨k :: us, .cons k1 q1, kitAny_cons k2 (.inl ⟨rfl, rfl⟩)⟩
   | false =>
    simp only at h
    obtain ⟨us, q1, q2⟩ := Ie hC hT hU tu rs h
    exact ⟨k :: us, .cons k1 q1, kitAny_cons k2 (.inr ⟨rfl, q2⟩)⟩
theorem a0G (hC : fX X.K X.mg cs) (hT : rR X.K X.mg T) (hU : rW X.K X.mg U) : gj X (QX X.K) (yH cs T U) := by
 intro Z H β S xs ds dz Q A r e k
 unfold yH at e
 split at e
 ·rename_i d q
  obtain ⟨x, y, rfl, r1, r2⟩ := vP r
  split at e
  ·rename_i t et
   obtain ⟨u, ty, tu⟩ := QZ hC A r1 et
   split at e
   ·rename_i qs
    obtain ⟨b, eb, rfl⟩ := Option.map_eq_some_iff.mp e
    obtain ⟨tp, us, rfl, w1, w2⟩ := r2.gH rfl
    obtain ⟨ks, z1, z2⟩ := Ie hC hT hU tu w2 eb
    exact ⟨x, _, u, b, rfl, ty, .inr ⟨tp, us, ks, rfl, w1, z1, z2⟩, k _ H (Same.refl _) (.bl _)⟩
   ·obtain ⟨b, eb, rfl⟩ := Option.map_eq_some_iff.mp e
    exact ⟨x, _, u, b, rfl, ty, .inl (R3 hC hT hU tu r2 eb), k _ H (Same.refl _) (.bl _)⟩
  ·cases e
 ·cases e
end
end Mi
namespace PySem.W
open PySem PySem.Spec PySem.Calls PyProof.Rows Builtin
section
variable {prog : Program} {w : World} {A : Around} {E : Value → Shared → Prop} {s : Shared} {K : Frag} {x C f : Addr} {ox : Obj} {od : Option Obj} {b tb : Value}
theorem a0H {op : CmpOp} {Q : Value → Shared → Prop} (hu : A.units < cLine) (X : K.In s.heap) (I : InstAt s.heap x ox C od) (hb : Looks (model prog w) s.heap (typeOf b) tb) (hn : notFirst K C tb = true)
  (one : wpAny (model prog w) A (tryCompare (.ref x) (cmpInfo op).2.1 b) (fun r s' => ∃ v, r = some v ∧ Q v s') E s) : wpAny (model prog w) A (richCompare op (.ref x) b) Q E s := by
 unfold richCompare
 simp only [oneThing_ref]
 refine wpAny_holding (wpAny_bind (wpAny_cRoomFor hu ?_))
 refine wpAny_bind (I.type.here (wpAny_bind (hb.here ?_)))
 split
 ·rename_i q
  have e : subIn K tb (.ref C) = some false := by
   rcases Bool.or_eq_true_iff.mp hn with e | e
   ·rw [beq_iff_eq.mp e] at q; simp at q
   ·exact beq_iff_eq.mp e
  refine wpAny_bind ((looks_subIn X e).here ?_)
  simp only [Bool.false_eq_true, if_false]
  refine wpAny_bind (wpAny_mono one (fun r s' z => ?_) fun _ _ e => e)
  obtain ⟨v, rfl, hq⟩ := z
  exact wpAny_pure hq
 ·refine wpAny_bind (wpAny_pure ?_)
  simp only [Bool.false_eq_true, if_false]
  refine wpAny_bind (wpAny_mono one (fun r s' z => ?_) fun _ _ e => e)
  obtain ⟨v, rfl, hq⟩ := z
  exact wpAny_pure hq
theorem a0I {M : Model} {args : List Value} {Q : Option Value → Shared → Prop} (X : K.In s.heap) (I : InstAt s.heap x ox C od) (hs : findIn K (.ref C) "__ne__" = some (some (.builtin "object.__ne__")))
  (h : wpAny M A (call (.builtin "object.__ne__") (.ref x :: args)) (fun v => Q (some v)) E s) : wpAny M A (callSpecialIfBound? (.ref x) "__ne__" args) Q E s := by
 simp only [callSpecialIfBound?, bindSpecialIfBound?]
 refine wpAny_holding (wpAny_bind (wpAny_bind (wpAny_bind (I.type.here ((looks_findIn X hs).here ?_)))))
 refine wpAny_bind (wpAny_askSetting (wpAny_ite ?_))
 have fin : wpAny M A (call (.builtin "object.__ne__") ([.ref x] ++ args) >>= fun v => pure (some v)) Q E s := wpAny_bind (wpAny_mono h (fun v s' h' => wpAny_pure h') fun _ _ h' => h')
 split
 ·exact wpAny_bind (wpAny_of_eq (F.cmp_object.ne.bind _) (wpAny_pure (by exact fin)))
 ·exact wpAny_tryCatch (wpAny_bind (wpAny_of_eq (F.cmp_object.ne.bind _) (wpAny_pure (by exact fin))))
theorem a0J {Q : Fin → Shared → Prop} (X : K.In s.heap) (I : InstAt s.heap x ox C od) (hs : findIn K (.ref C) "__eq__" = some (some (.ref f))) (hf : isFn K (.ref f) = true) (hu : A.units < cLine)
  (hcall : wpAny (model prog w) A (call (.ref f) [.ref x, b]) (fun v s' => ∃ r, v = .bool r ∧ Q (.done (.ret (.bool (!r)))) s') E s) : wpAny (model prog w) A (Builtin.«object.__ne__» ⟨[.ref x, b], []⟩) Q E s := by
 unfold Builtin.«object.__ne__»
 repeat (first
  | with_reducible refine wpAny_cRoomFor hu ?_
  | (refine wpAny_bind (m := callSpecialIfBound? (.ref x) (Str.ofString "__eq__") [b])
      (ifBound_K X I hs hf (wpAny_mono hcall (fun r s' hr => by
       obtain ⟨k, rfl, hq⟩ := hr
       repeat (first | exact hq | exact wpAny_pure hq | exact wpAny_truthy_bool hq | (refine wpAny_bind (m := truthy (.bool _)) (wpAny_truthy_bool ?_)) | wp_step)) fun _ _ e => e)))
  | wp_step)
theorem ne_K {Q : Value → Shared → Prop} (hu : A.units + 1 < cLine) (X : K.In s.heap) (I : InstAt s.heap x ox C od) (hb : Looks (model prog w) s.heap (typeOf b) tb) (hn : notFirst K C tb = true) (hm : mroIn K C (.type "object") = some true)
  (hne : findIn K (.ref C) "__ne__" = some (some (.builtin "object.__ne__"))) (hs : findIn K (.ref C) "__eq__" = some (some (.ref f))) (hf : isFn K (.ref f) = true)
  (hcall : wpAny (model prog w) A.in1 (call (.ref f) [.ref x, b]) (fun v s' => ∃ r, v = .bool r ∧ Q (.bool (!r)) s') E s) : wpAny (model prog w) A (richCompare .NotEq (.ref x) b) Q E s := by
 refine a0H (op := .NotEq) (Nat.lt_of_succ_lt hu) X I hb hn ?_
 unfold tryCompare
 refine wpAny_bind (a0I X I hne (wpAny_call (codeAny_call_builtin F.cmp_object.ne.plain F.cmpEntry_ne (check_slot F.cmpKind_ne F.cmpSplit_ne (I.type.andThen (looks_mroIn X hm)) (F.cmpArgs_ne _ _) (a0J (A := A.in1) X I hs hf hu (wpAny_mono hcall (fun v s' hv => ?_) fun _ _ e => e))))))
 obtain ⟨r, rfl, hq⟩ := hv
 first | exact ⟨r, rfl, wpAny_pure hq⟩ | exact wpAny_pure ⟨_, rfl, hq⟩ | exact ⟨_, rfl, wpAny_pure ⟨_, rfl, hq⟩⟩
end
end PySem.W
namespace Mi
open PySem PySem.Spec PyProof.Rows L2
/-- the own == of x, a value y behind it of the same class, or no instance at all -/
def Ig (T : List (Str × FX)) (neg : Bool) (x y : D) (S : Store) : R D := match cZ S x with
 | some (c, _) => match T.lookup c, oJ [c] S y with
  | some f, some _ => match f [x, y] S with
   | .ok (.bl b) S' => .ok (.bl (if neg = true then !b else b)) S'
   | _ => .stuck
  | _, _ => .stuck
 | none => .stuck
def uI (T : List (Str × FX)) (neg : Bool) (ma mb : EX) : EX := fun ρ S => (ma ρ S).bind fun x S1 => (mb ρ S1).bind fun y S2 => Ig T neg x y S2
/-- what of the text a class with an own == must have -/
structure R4 (K : PySem.W.Frag) (mg : Str → Option Value) (c : Str) : Prop where
 ex : ∃ Ca, mg c = some (.ref Ca) ∧ PySem.W.findIn K (.ref Ca) "__ne__" = some (some (.builtin "object.__ne__"))
structure wA (X : Cx) (k : Nat) (c : Str) (f : FX) : Prop where
 ex : ∃ (Ca fa : Addr) (fd : FuncData) (ps : List Str), X.mg c = some (.ref Ca) ∧ Cls X.K Ca ∧ CI X.K Ca ∧ PySem.W.findIn X.K (.ref Ca) "__eq__" = some (some (.ref fa)) ∧ PySem.W.isFn X.K (.ref fa) = true ∧
  PySem.W.findIn X.K (.ref Ca) "__ne__" = some (some (.builtin "object.__ne__")) ∧ cQ X.prog X.w X.K X.mg X.base k fa fd ps (cM ⟨X.K, X.mg, X.w, []⟩ ps.length f) ∧ Bnd X.K fd ps [] 2 [0, 1] [] ∧ ps.length = 2
def yI (X : Cx) (k : Nat) : List (Str × FX) → Prop
 | [] => True
 | (c, f) :: t => wA X k c f ∧ yI X k t
theorem yI.at {X : Cx} {k : Nat} {c : Str} {f : FX} : ∀ {T : List (Str × FX)}, yI X k T → T.lookup c = some f → wA X k c f
 | [], _, h => by cases h
 | (d, q) :: t, ⟨h1, h2⟩, h => by
  rw [List.lookup_cons] at h
  cases e : (c == d) with
  | true => rw [e] at h; cases h; rw [show c = d from by simpa using e]; exact h1
  | false => rw [e] at h; exact h2.at h
theorem wA.of {X : Cx} {j k : Nat} {c : Str} {st : Stmt} {a b : Str} {kd : List (Str × D)} {f : FX} (M : bU X.prog X.w X.K X.mg X.base k c "__eq__" st [a, b] kd f) (h : k ≤ j) (ci : HV X.K X.mg c) (ne : R4 X.K X.mg c) (B : tW st [a, b] [] 2 [0, 1]) : wA X j c f := by
 obtain ⟨Ca, fa, x, qual, fd, kws, h1, h2, h3, h4, h5, h6, h7⟩ := M.ex
 obtain ⟨Cb, g1, _, g2⟩ := ci.ex
 rw [h1] at g1; cases g1
 obtain ⟨Cb, e1, e2⟩ := ne.ex
 rw [h1] at e1; cases e1
 exact ⟨Ca, fa, fd, [a, b], h1, h2, g2, h3.at_, h3.fn, e2, h7.mono h, HW h4 B, rfl⟩
/-- the wish of an own == -/
def rOwn (X : Cx) (k : Nat) (neg : Bool) : R2 := fun x y H Q => ∃ c f Ca a dx vs u, wA X k c f ∧ X.mg c = some (.ref Ca) ∧ x = .ref a ∧ H a = some (.ins Ca dx vs) ∧ TyX X.K H y u ∧ PySem.W.notFirst X.K Ca u = true ∧
 cM ⟨X.K, X.mg, X.w, []⟩ 2 f [x, y] H (fun v H' => ∃ b, v = .bl b ∧ Q (.bl (if neg = true then !b else b)) H') fun _ _ _ => False
section
variable {X : Cx} {W : WX} {a e : Expr} {ma mb : EX} {pos : Pos} {k j : Nat} {T : List (Str × FX)}
theorem R5 {A : Around} {fa : Addr} {fd : FuncData} {ps ks : List Str} {sp : Sp} {σ : L2.St} {E : XK} {pins : List (Addr × Obj)} {H : Hp} {s : Shared} {Q : VK} {us ws us' : List Value} {vs : List V} (hfr : A.frames = X.A.frames) (F : cQ X.prog X.w X.K X.mg X.base k fa fd ps sp) (hgd : A.guards = some []) (hr : Room k A) (hx : PassesAt (L2.CX X.prog X.w) X σ E)
  (I : Inv X pins σ H s) (bd : BindsTo s fd ⟨us, ks.zip ws⟩ (ps.zip us')) (r : Vals vs us') (h : sp vs H Q E) : wpAny (model X.prog X.w) A (call (.ref fa) us (ks.zip ws)) (EP X pins σ Q) X.xe s := by
 have e0 : Env0 X.prog X.w X.K X.mg X.base A X.stack s H := by
  have e := I.env0
  exact ⟨by rw [hfr]; exact e.frames, e.mod, e.bs, e.bsz, e.funs, e.frf, e.hok, e.bare⟩
 refine wpAny_call (codeAny_mono (F.run A X.stack s H ⟨us, ks.zip ws⟩ us' vs Q E hgd hr e0 bd r h) fun r s' hq => ?_)
 cases r with
 | error e => exact hx pins H s e s' I hq
 | ok fl =>
  cases fl with
  | ret u => exact I.after hq
  | next => exact False.elim hq
  | brk => exact False.elim hq
  | cont => exact False.elim hq
theorem R6 {σ : L2.St} : PassesAt (L2.CX X.prog X.w) X σ (fun _ _ _ => False) := by
 intro pins H s e s' I h
 obtain ⟨a, B, H', cls, d, _, _, _, _, _, _, _, q⟩ := h
 exact q.elim
theorem Ih {A : Around} {σ : L2.St} {pins : List (Addr × Obj)} {H : Hp} {s : Shared} {Q : VK} {x y : V} {v u : Value} {f : FX} {fa : Addr} {fd : FuncData} {ps : List Str} (hfr : A.frames = X.A.frames) (G : cQ X.prog X.w X.K X.mg X.base k fa fd ps (cM ⟨X.K, X.mg, X.w, []⟩ ps.length f)) (B : Bnd X.K fd ps [] 2 [0, 1] []) (hp : ps.length = 2) (hgd : A.guards = some []) (hr : Room k A)
  (I : Inv X pins σ H s) (rx : RelV x v) (ry : RelV y u) (h : cM ⟨X.K, X.mg, X.w, []⟩ 2 f [x, y] H Q fun _ _ _ => False) : wpAny (model X.prog X.w) A (call (.ref fa) [v, u]) (EP X pins σ Q) X.xe s := by
 obtain ⟨its, ri, bd⟩ := B.to
 cases ri
 have b2 := bd s [v, u] [] I.kIn rfl rfl
 exact R5 (ks := []) (ws := []) (us := [v, u]) hfr G hgd hr R6 I b2 (.cons rx (.cons ry .nil)) (hp ▸ h)
theorem op_own (hgd : X.A.guards = some []) (hr : Room k X.A) : OpR X (compareOp .Eq) (rOwn X k false) := by
 intro pins s σ H x y v u Q I rx ry h
 obtain ⟨c, f, Ca, a, dx, vs, t, ⟨Cb, fa, fd, ps, h1, h2, h3, h4, h5, h6, h7, h8, h9⟩, hm, rfl, ea, ty, nf, hs⟩ := h
 rw [hm] at h1; cases h1
 cases rx
 obtain ⟨mA, O, _⟩ := ins_get I.hok ea
 obtain ⟨od, J, _⟩ := O.look
 obtain ⟨P, Z, p, hx⟩ := kit_of I ry ty
 obtain ⟨m, hF⟩ := I.fr
 show wpAny (model X.prog X.w) X.A (richCompare .Eq _ u) (EP X pins σ Q) X.xe s
 refine PySem.W.cmp_K (op := .Eq) hr.units0 hF I.ok.mod.kin J (Z.ty _ _ I.kIn p) nf h4 h5 (wpAny_mono (Ih rfl h7 h8 h9 hgd hr I (x := .ref a) (v := .ref a) rfl ry hs) (fun w s' q => ?_) fun _ _ z => z)
 obtain ⟨z, H', I', rz, b, rfl, q⟩ := q
 cases rz
 exact ⟨.bl b, H', I', rfl, q⟩
theorem a0K (hgd : X.A.guards = some []) (hr : Room (k + 1) X.A) : OpR X (compareOp .NotEq) (rOwn X k true) := by
 intro pins s σ H x y v u Q I rx ry h
 obtain ⟨c, f, Ca, a, dx, vs, t, ⟨Cb, fa, fd, ps, h1, h2, h3, h4, h5, h6, h7, h8, h9⟩, hm, rfl, ea, ty, nf, hs⟩ := h
 rw [hm] at h1; cases h1
 cases rx
 obtain ⟨mA, O, _⟩ := ins_get I.hok ea
 obtain ⟨od, J, _⟩ := O.look
 obtain ⟨P, Z, p, hx⟩ := kit_of I ry ty
 show wpAny (model X.prog X.w) X.A (richCompare .NotEq _ u) (EP X pins σ Q) X.xe s
 refine PySem.W.ne_K (by have := hr.units; omega) I.kIn J (Z.ty _ _ I.kIn p) nf h3.mo h6 h4 h5 (wpAny_mono (Ih (A := X.A.in1) rfl h7 h8 h9 hgd hr.in1 I (x := .ref a) (v := .ref a) rfl ry hs) (fun w s' q => ?_) fun _ _ z => z)
 obtain ⟨z, H', I', rz, b, rfl, q⟩ := q
 cases rz
 exact ⟨b, rfl, .bl !b, H', I', rfl, q⟩
theorem R7 {neg : Bool} {σ : L2.St} {H : Hp} {Q : VK} (hT : yI X k T) (h : EM (aj X) W false (uI T neg ma mb) σ H Q) : tOp (rOwn X k neg) (EM (aj X) W false ma) (EM (aj X) W false mb) σ H Q := by
 obtain ⟨cf, oa, P, β, ρ, S, L, h⟩ := h
 unfold uI at h
 refine ⟨cf, oa, P, β, ρ, S, L, ?_⟩
 cases ea : ma ρ S with
 | stuck => rw [ea] at h; exact h
 | exc e S1 => rw [ea] at h; exact h
 | ok dx S1 =>
  rw [ea] at h
  simp only [R.bind] at h
  intro x H1 β1 e1 L1 rx
  refine ⟨cf, oa, P, β1, ρ, S1, L1, ?_⟩
  cases eb : mb ρ S1 with
  | stuck => rw [eb] at h; exact h
  | exc e S2 =>
   rw [eb] at h
   intro cls d H' β' e2 L2 ex
   exact h cls d H' β' (e1.trans e2) L2 ex
  | ok dy S2 =>
   rw [eb] at h
   simp only at h
   intro y H2 β2 e2 L2 ry
   have rx2 := rx.mono e2.ext
   unfold Ig at h
   cases er : cZ S2 dx with
   | none => rw [er] at h; exact h.elim
   | some q =>
    obtain ⟨c, fs⟩ := q
    rw [er] at h
    simp only at h
    cases el : T.lookup c with
    | none => rw [el] at h; exact h.elim
    | some f =>
     cases et : oJ [c] S2 dy with
     | none => rw [el, et] at h; exact h.elim
     | some t =>
      rw [el, et] at h
      simp only at h
      obtain ⟨a, n, Ca, dx', vs, rfl, eS, rfl, hn, hm, hH, hf⟩ := yF rx2 L2.st er
      have G := hT.at el
      obtain ⟨Cb, fa, fd, ps, h1, h2, h3, h4, h5, h6, h7, h8, h9⟩ := id G.ex
      have sE : Cb = Ca := by have z := h1.symm.trans hm; injection z with z; injection z
      subst sE
      obtain ⟨u, ty, tu⟩ := QZ (cs := [c]) (hC := ⟨⟨Cb, hm, h2, h3⟩, trivial⟩) L2.at ry et
      have nf : PySem.W.notFirst X.K Cb u = true := by
       unfold PySem.W.notFirst
       cases t with
       | own c' =>
        obtain ⟨hc', Cd, g1, rfl⟩ := tu
        have : c' = c := by simpa using hc'
        subst this
        rw [show X.mg c' = some (.ref Cb) from hm] at g1
        cases g1
        simp
       | bi s =>
        obtain ⟨rfl, hs⟩ := tu
        rw [QY hs]
        simp
      refine ⟨c, f, Cb, a, dx', vs, u, G, hm, rfl, hH, ty, nf, ?_⟩
      refine xJ (C := aj X) (C' := ⟨X.K, X.mg, X.w, []⟩) rfl rfl ?_
      refine ⟨rfl, P, β2, [.ref n, dy], S2, L2.st, L2.p, .cons rx2 (.cons ry .nil), ?_⟩
      cases ef : f [.ref n, dy] S2 with
      | stuck => rw [ef] at h; exact h
      | exc e S3 => rw [ef] at h; exact h.elim
      | ok d S3 =>
       rw [ef] at h
       intro v H3 β3 x3 s3 r3
       cases d with
       | bl b =>
        cases r3
        simp only at h
        exact ⟨b, rfl, h _ H3 β3 ((e1.trans e2).trans ⟨x3, fun z => nomatch z⟩) (L2.step x3 s3) (.bl _)⟩
       | _ => exact h.elim
/-- a == b by the own == of a -/
theorem a0L (hT : yI X k T) (hgd : X.A.guards = some []) (hr : Room j X.A) (hkj : k ≤ j) (ha : PM (aj X) W false X a ma) (hb : PM (aj X) W false X e mb) (hk : behindInMarks .Eq e = false := by first | exact nobehind _ (by decide) (by decide) | rfl) :
  PM (aj X) W false X (.Compare a [.Eq] [e] pos) (uI T false ma mb) := bW (pe_cmpR (op_own hgd (hr.mono hkj)) ha hb hk) fun σ H Q h => R7 hT h
theorem a0M (hT : yI X k T) (hgd : X.A.guards = some []) (hr : Room j X.A) (hkj : k + 1 ≤ j) (ha : PM (aj X) W false X a ma) (hb : PM (aj X) W false X e mb) (hk : behindInMarks .NotEq e = false := by first | exact nobehind _ (by decide) (by decide) | rfl) :
  PB (aj X) W false X (.Compare a [.NotEq] [e] pos) (bH (uI T true ma mb)) := vo (pt_cmpR (a0K hgd (hr.mono hkj)) ha hb hk) fun σ H Q h => R7 hT (Ci h)
end
section
variable {X : Cx} {W : WX} {e : Expr} {mo : EX} {T : String} {r : V → List V → Hp → VK → Prop}
/-- repr(x): x an instance with its own __repr__, else plain -/
def yJ (T : List (Str × FX)) (ma : EX) : EX := fun ρ S => (ma ρ S).bind fun x S1 => match cZ S1 x with
 | some (c, _) => match T.lookup c with
  | some f => match f [x] S1 with
   | .ok (.str z) S2 => .ok (.str z) S2
   | _ => .stuck
  | none => .stuck
 | none => R.opt (mQ S1 [x]) S1
def AK (T : List (Str × FX)) (ma : EX) : EX := fun ρ S => (ma ρ S).bind fun x S1 => match cZ S1 x with
 | some (c, _) => match T.lookup c with
  | some f => match f [x] S1 with
   | .ok (.int z) S2 => if 0 ≤ z ∧ z < 2 ^ 63 then .ok (.int z) S2 else .stuck
   | _ => .stuck
  | none => .stuck
 | none => R.opt (fH S1 [x]) S1
structure uJ (X : Cx) (k : Nat) (m c : Str) (f : FX) : Prop where
 ex : ∃ (Ca fa : Addr) (fd : FuncData) (ps : List Str), X.mg c = some (.ref Ca) ∧ PySem.W.findIn X.K (.ref Ca) m = some (some (.ref fa)) ∧ PySem.W.isFn X.K (.ref fa) = true ∧
  cQ X.prog X.w X.K X.mg X.base k fa fd ps (cM ⟨X.K, X.mg, X.w, []⟩ ps.length f) ∧ Bnd X.K fd ps [] 1 [0] [] ∧ ps.length = 1
def yK (X : Cx) (k : Nat) (m : Str) : List (Str × FX) → Prop
 | [] => True
 | (c, f) :: t => uJ X k m c f ∧ yK X k m t
theorem yK.at {X : Cx} {k : Nat} {m c : Str} {f : FX} : ∀ {T : List (Str × FX)}, yK X k m T → T.lookup c = some f → uJ X k m c f
 | [], _, h => by cases h
 | (d, q) :: t, ⟨h1, h2⟩, h => by
  rw [List.lookup_cons] at h
  cases e : (c == d) with
  | true => rw [e] at h; cases h; rw [show c = d from by simpa using e]; exact h1
  | false => rw [e] at h; exact h2.at h
theorem uJ.of {X : Cx} {j k : Nat} {m c : Str} {st : Stmt} {a : Str} {kd : List (Str × D)} {f : FX} (M : bU X.prog X.w X.K X.mg X.base k c m st [a] kd f) (h : k ≤ j) (B : tW st [a] [] 1 [0]) : uJ X j m c f := by
 obtain ⟨Ca, fa, x, qual, fd, kws, h1, h2, h3, h4, h5, h6, h7⟩ := M.ex
 exact ⟨Ca, fa, fd, [a], h1, h3.at_, h3.fn, h7.mono h, HW h4 B, rfl⟩
def Ii (X : Cx) (k : Nat) (m : Str) (ok : V → Prop) : List V → Hp → VK → Prop := fun xs H Q => ∃ c f Ca a dx vs, uJ X k m c f ∧ X.mg c = some (.ref Ca) ∧ xs = [.ref a] ∧ H a = some (.ins Ca dx vs) ∧
 cM ⟨X.K, X.mg, X.w, []⟩ 1 f [.ref a] H (fun v H' => ok v ∧ Q v H') fun _ _ _ => False
def a0N : V → Prop
 | .str _ => True
 | _ => False
def a0O : V → Prop
 | .int z => 0 ≤ z ∧ z < 2 ^ 63
 | _ => False
theorem R8 {k : Nat} {A : Around} {σ : L2.St} {pins : List (Addr × Obj)} {H : Hp} {s : Shared} {Q : VK} {x : V} {v : Value} {f : FX} {fa : Addr} {fd : FuncData} {ps : List Str} (hfr : A.frames = X.A.frames) (G : cQ X.prog X.w X.K X.mg X.base k fa fd ps (cM ⟨X.K, X.mg, X.w, []⟩ ps.length f)) (B : Bnd X.K fd ps [] 1 [0] []) (hp : ps.length = 1) (hgd : A.guards = some []) (hr : Room k A)
  (I : Inv X pins σ H s) (rx : RelV x v) (h : cM ⟨X.K, X.mg, X.w, []⟩ 1 f [x] H Q fun _ _ _ => False) : wpAny (model X.prog X.w) A (call (.ref fa) [v]) (EP X pins σ Q) X.xe s := by
 obtain ⟨its, ri, bd⟩ := B.to
 cases ri
 have b2 := bd s [v] [] I.kIn rfl rfl
 exact R5 (ks := []) (ws := []) (us := [v]) hfr G hgd hr R6 I b2 (.cons rx .nil) (hp ▸ h)
theorem a0P {k : Nat} (hgd : X.A.guards = some []) (hr : Room (k + 1) X.A) : CallR X (.builtin "repr") (Ii X k "__repr__" a0N) := by
 intro pins s σ H xs us Q I r h
 obtain ⟨c, f, Ca, a, dx, vs, ⟨Cb, fa, fd, ps, h1, h4, h5, h7, h8, h9⟩, hm, rfl, ea, hs⟩ := h
 rw [hm] at h1; cases h1
 obtain ⟨u, rfl, ru⟩ := r.one
 cases (show u = Value.ref a from ru)
 obtain ⟨mA, O, _⟩ := ins_get I.hok ea
 obtain ⟨od, J, _⟩ := O.look
 obtain ⟨m, hF⟩ := I.fr
 refine PySem.W.repr_K (by have := hr.units; show X.A.units + 1 < cLine; omega) hF I.ok.mod.kin J h4 h5 (wpAny_mono (R8 (A := X.A.in1) rfl h7 h8 h9 hgd hr.in1 I (x := .ref a) (v := .ref a) rfl hs) (fun w s' q => ?_) fun _ _ z => z)
 obtain ⟨z, H', I', rz, ok, q⟩ := q
 cases z with
 | str t =>
  obtain ⟨tk, rfl⟩ := rz
  exact ⟨.str t, H', I', ⟨tk, rfl⟩, q⟩
 | _ => exact ok.elim
theorem a0Q {k : Nat} (hgd : X.A.guards = some []) (hr : Room (k + 1) X.A) : CallR X (.builtin "len") (Ii X k "__len__" a0O) := by
 intro pins s σ H xs us Q I r h
 obtain ⟨c, f, Ca, a, dx, vs, ⟨Cb, fa, fd, ps, h1, h4, h5, h7, h8, h9⟩, hm, rfl, ea, hs⟩ := h
 rw [hm] at h1; cases h1
 obtain ⟨u, rfl, ru⟩ := r.one
 cases (show u = Value.ref a from ru)
 obtain ⟨mA, O, _⟩ := ins_get I.hok ea
 obtain ⟨od, J, _⟩ := O.look
 obtain ⟨m, hF⟩ := I.fr
 refine PySem.W.len_K hF I.ok.mod.kin J h4 h5 (wpAny_mono (R8 (A := X.A.in1) rfl h7 h8 h9 hgd hr.in1 I (x := .ref a) (v := .ref a) rfl hs) (fun w s' q => ?_) fun _ _ z => z)
 obtain ⟨z, H', I', rz, ok, q⟩ := q
 cases z with
 | int t =>
  obtain ⟨tk, rfl⟩ := rz
  exact ⟨ok, .int t, H', I'.tok _, ⟨_, rfl⟩, q⟩
 | _ => exact ok.elim
theorem R9 {C : Ct} {H : Hp} {Z : Addr → Prop} {β : List Addr} {v : V} {d : D} (r : RV C H Z β v d) : aA C H Z β [v] [d] := .cons r .nil
theorem Ra {k : Nat} {m : Str} {ok : V → Prop} {T : List (Str × FX)} {pl : Store → List D → Option D} {rp : List V → Hp → VK → Prop} {okd : D → Option D} {mx : EX} (hT : yK X k m T) (hp : gj X rp pl) (hok : ∀ d z, okd d = some z → z = d ∧ ∀ {H' Z β v}, RV (aj X) H' Z β v d → ok v)
  (hx : ∀ ρ S, mx ρ S = (mo ρ S).bind fun x S1 => match cZ S1 x with
   | some (c, _) => match T.lookup c with
    | some f => match f [x] S1 with
     | .ok d S2 => R.opt (okd d) S2
     | _ => .stuck
    | none => .stuck
   | none => R.opt (pl S1 [x]) S1) {σ : L2.St} {H : Hp} {Q : VK} (h : EM (aj X) W false mx σ H Q) :
  EM (aj X) W false mo σ H fun x H1 => rp [x] H1 Q ∨ Ii X k m ok [x] H1 Q := by
 obtain ⟨cf, oa, P, β, ρ, S, L, h⟩ := h
 refine ⟨cf, oa, P, β, ρ, S, L, ?_⟩
 rw [hx] at h
 cases eo : mo ρ S with
 | stuck => rw [eo] at h; exact h
 | exc x S1 => rw [eo] at h; exact h
 | ok d S1 =>
  rw [eo] at h
  simp only [R.bind] at h
  intro v H1 β1 t1 L1 r1
  cases er : cZ S1 d with
  | none =>
   rw [er] at h
   simp only at h
   cases ep : pl S1 [d] with
   | none => rw [ep] at h; exact h.elim
   | some z =>
    rw [ep] at h
    exact .inl (hp P H1 β1 S1 [v] [d] z Q L1.at (R9 r1) ep fun w H' e3 r3 => h w H' β1 (t1.trans (Tr.same e3)) (L1.same e3) r3)
  | some q =>
   obtain ⟨c, fs⟩ := q
   rw [er] at h
   simp only at h
   cases el : T.lookup c with
   | none => rw [el] at h; exact h.elim
   | some f =>
    rw [el] at h
    simp only at h
    obtain ⟨a, n, Ca, dx', vs, rfl, eS, rfl, hn, hm, hH, hf⟩ := yF r1 L1.st er
    refine .inr ⟨c, f, Ca, a, dx', vs, hT.at el, hm, rfl, hH, ?_⟩
    refine xJ (C := aj X) (C' := ⟨X.K, X.mg, X.w, []⟩) rfl rfl ?_
    refine ⟨rfl, P, β1, [.ref n], S1, L1.st, L1.p, R9 r1, ?_⟩
    cases ef : f [.ref n] S1 with
    | stuck => rw [ef] at h; exact h
    | exc e S3 => rw [ef] at h; exact h.elim
    | ok d S3 =>
     rw [ef] at h
     intro v H3 β3 x3 s3 r3
     simp only at h
     cases ek : okd d with
     | none => rw [ek] at h; exact h.elim
     | some z =>
      rw [ek] at h
      obtain ⟨rfl, ho⟩ := hok d z ek
      exact ⟨ho r3, h v H3 β3 (t1.trans ⟨x3, fun z => nomatch z⟩) (L1.step x3 s3) r3⟩
theorem Rb {σ : L2.St} {H : Hp} {Q : List V → Hp → Prop} (h : EM (aj X) W false mo σ H fun x H1 => Q [x] H1) : AM (aj X) W false (ao mo aq) σ H Q := by
 obtain ⟨cf, oa, P, β, ρ, S, L, h⟩ := h
 refine ⟨cf, oa, P, β, ρ, S, L, ?_⟩
 unfold ao
 cases eo : mo ρ S with
 | stuck => rw [eo] at h; exact h
 | exc x S1 => rw [eo] at h; exact h
 | ok d S1 =>
  rw [eo] at h
  intro vs H1 β1 t L1 r
  obtain ⟨v, rfl, r1⟩ := jE r
  exact h v H1 β1 t L1 r1
def a0R : D → Option D
 | .str z => some (.str z)
 | _ => none
def Ij : D → Option D
 | .int z => if 0 ≤ z ∧ z < 2 ^ 63 then some (.int z) else none
 | _ => none
variable {k j : Nat} {p pos : Pos}
theorem Rf {T : List (Str × FX)} (hT : yK X k "__repr__" T) (hgd : X.A.guards = some []) (hu : X.A.units + 65 < cLine) (hr : Room j X.A) (hkj : k + 1 ≤ j) (hm : X.mg "repr" = none) (ho : PM (aj X) W false X e mo) (hv : bootBuiltins "repr" = some (.builtin "repr")) (hg : Gl X "repr" := by rfl)
  (he : starEach [e] X.env = (false, eval e X.env) :: starEach [] X.env := by rfl) (hpl : (backTo pos (starEach [] X.env)).any (·.1) = false := by rfl) : PM (aj X) W false X (.Call (.Name "repr" p) [e] [] pos) (yJ T mo) :=
 bW (pe_callB (CallR.or (YN hgd hu) (a0P hgd (hr.mono hkj))) hg hm hv (au ho aD he) (by decide) (by decide) he hpl) fun σ H Q h =>
  Rb (Ra (okd := a0R) hT YQ (fun d z hz => by cases d <;> first | (cases hz; done) | (cases hz; exact ⟨rfl, fun r => by cases r; trivial⟩)) (fun ρ S => by
   unfold yJ
   congr 1; funext x S1
   cases cZ S1 x with
   | none => rfl
   | some q =>
    obtain ⟨c, fs⟩ := q
    simp only
    cases T.lookup c with
    | none => rfl
    | some f =>
     simp only
     cases f [x] S1 with
     | ok d S2 => cases d <;> rfl
     | _ => rfl) h)
theorem a0S {T : List (Str × FX)} (hT : yK X k "__len__" T) (hgd : X.A.guards = some []) (hr : Room j X.A) (hkj : k + 1 ≤ j) (hm : X.mg "len" = none) (ho : PM (aj X) W false X e mo) (hv : bootBuiltins "len" = some (.builtin "len")) (hg : Gl X "len" := by rfl)
  (he : starEach [e] X.env = (false, eval e X.env) :: starEach [] X.env := by rfl) (hpl : (backTo pos (starEach [] X.env)).any (·.1) = false := by rfl) : PM (aj X) W false X (.Call (.Name "len" p) [e] [] pos) (AK T mo) :=
 bW (pe_callB (CallR.or lD (a0Q hgd (hr.mono hkj))) hg hm hv (au ho aD he) (by decide) (by decide) he hpl) fun σ H Q h =>
  Rb (Ra (okd := Ij) hT lE (fun d z hz => by
   cases d with
   | int i =>
    simp only [Ij] at hz
    by_cases hi : 0 ≤ i ∧ i < 2 ^ 63
    ·rw [if_pos hi] at hz; cases hz; exact ⟨rfl, fun r => by cases r; exact hi⟩
    ·rw [if_neg hi] at hz; cases hz
   | _ => cases hz) (fun ρ S => by
   unfold AK
   congr 1; funext x S1
   cases cZ S1 x with
   | none => rfl
   | some q =>
    obtain ⟨c, fs⟩ := q
    simp only
    cases T.lookup c with
    | none => rfl
    | some f =>
     simp only
     cases f [x] S1 with
     | ok d S2 =>
      cases d <;> first | rfl | skip
      unfold Ij
      simp only
      split <;> rfl
     | _ => rfl) h)
end
def lO (vs : List Nat) (g : GX) (t : BX) (ek ev : EX) (ρ : aF) : List D → List (Key × D) → Store → R (List (Key × D))
 | [], acc, S => .ok acc S
 | d :: ds, acc, S => match g d ρ S with
  | none => .stuck
  | some p => match t p.1 p.2 with
   | .ok true S2 => match ek p.1 S2 with
    | .ok kd S3 => match ev p.1 S3 with
     | .ok y S4 => match keyD kd with
      | some k => if acc.length < sizeLine then lO vs g t ek ev ρ ds (putD acc k y) S4 else .stuck
      | none => .stuck
     | _ => .stuck
    | _ => .stuck
   | .ok false S2 => lO vs g t ek ev ρ ds acc S2
   | _ => .stuck
/-- {k: v for .. in it if t} -/
def wB (it : AX) (vs : List Nat) (g : GX) (t : BX) (ek ev : EX) : EX := fun ρ S => (it ρ S).bind fun ds S1 => (lO vs g t ek ev (cJ ρ vs) ds [] S1).bind fun ys S2 => .ok (.dct ys) S2
section
variable {X : Cx} {W : WX} {b : Bool} {tg e : Expr} {ma : EX} {it : AX}
theorem a0T {wi : TI} {g : GX} {gt : TG} {t : BX} {tt : TT} {te tv : TE} {mv : EX} {vs : List Nat} {σ : L2.St} {H : Hp} {Q : VK}
  (hi : ∀ σ H R, IM (aj X) W b it σ H R → wi σ H R) (hg : BG X vs g gt) (ht : ∀ σ H Q, BM (aj X) (fun _ _ _ _ => False) b t σ H Q → tt σ H Q) (he : ∀ σ H Q, EM (aj X) (fun _ _ _ _ => False) b ma σ H Q → te σ H Q) (hv : ∀ σ H Q, EM (aj X) (fun _ _ _ _ => False) b mv σ H Q → tv σ H Q)
  (h : EO (aj X) W b (wB it vs g t ma mv) σ H Q) : tDc wi gt tt te tv vs σ H Q := by
 obtain ⟨cf, oa, P, β, ρ, S, L, h⟩ := h
 refine hi _ _ _ ⟨cf, oa, P, β, ρ, S, L, ?_⟩
 unfold wB at h
 cases ea : it ρ S with
 | stuck => rw [ea] at h; exact h
 | exc e S1 => rw [ea] at h; exact h
 | ok ds S1 =>
  rw [ea] at h
  simp only [R.bind] at h
  intro J H1 β1 t1 L1 im D hD
  have Ac : Same H1 (upd H1 D (.dK [])) := g8 hD
  -- what a turn Y6
  refine ⟨fun i m H2 => m = ds.length - i ∧ i ≤ ds.length ∧ ∃ β2 S2 acc xs, LR (aj X) cf oa (fun a => P a ∨ a = D) σ H2 β2 ρ S2 ∧ Tr b H1 β1 S1 H2 β2 S2 ∧ H2 D = some (.dK xs) ∧ aG (aj X) H2 (fun a => P a ∨ a = D) β2 xs acc ∧
    lO vs g t ma mv (cJ ρ vs) ds [] S1 = lO vs g t ma mv (cJ ρ vs) (ds.drop i) acc S2,
   ⟨ds.length, by simp, Nat.zero_le _, β1, S1, [], [], L1.C5 Ac hD (by rw [upd_same]; exact Option.some_ne_none _), Tr.same Ac, upd_same, .nil, by rw [List.drop_zero]⟩, ?_⟩
  rintro i m H2 ⟨rfl, hil, β2, S2, acc, xs, L2, t2, hx, rs, eq⟩
  have h0 : cf.H0 D = none := by
   cases z : cf.H0 D with
   | none => rfl
   | some u => exact absurd hD (L1.ext.stay D (by rw [z]; exact Option.some_ne_none _))
  have no : ∀ j, oa j ≠ some D := fun j z => (L1.p D (L1.own j D z).1).1 hD
  obtain ⟨go, stop⟩ := im i H2 (fun a => P a ∨ a = D) β2 (Fx.more t2.ext hD) L2.new
  by_cases hl : i < ds.length
  ·right
   have hd : ds[i]? = some ds[i] := List.getElem?_eq_getElem hl
   obtain ⟨g1, g2⟩ := go _ hd
   rw [List.drop_eq_getElem_cons hl] at eq
   simp only [lO] at eq
   refine ⟨g1, fun H' => ∃ β2 S2 acc xs, LR (aj X) cf oa (fun a => P a ∨ a = D) σ H' β2 ρ S2 ∧ Tr b H1 β1 S1 H' β2 S2 ∧ H' D = some (.dK xs) ∧ aG (aj X) H' (fun a => P a ∨ a = D) β2 xs acc ∧
    lO vs g t ma mv (cJ ρ vs) ds [] S1 = lO vs g t ma mv (cJ ρ vs) (ds.drop (i + 1)) acc S2, fun H' hN => ⟨ds.length - (i + 1), by omega, rfl, hl, hN⟩, fun x H3 y => ?_⟩
   obtain ⟨e3, r3⟩ := g2 x H3 y
   have L3 := L2.same e3
   cases eg : g ds[i] (cJ ρ vs) S2 with
   | none => rw [eg] at eq; rw [eq] at h; exact h.elim
   | some p =>
    rw [eg] at eq
    simp only at eq
    refine hg cf oa _ σ H3 β2 ρ S2 x ds[i] p _ (L3.wipe vs) r3 eg fun σ4 hw L4 hS => ⟨hw, ?_⟩
    -- back to the BV own slots
    have back : ∀ {H5 : Hp} {β5 : List Addr} {S5 : Store}, Tr b H3 β2 S2 H5 β5 S5 → aP (aj X) H5 (fun a => P a ∨ a = D) β5 S5 → LR (aj X) cf oa (fun a => P a ∨ a = D) σ H5 β5 ρ S5 := fun t5 s5 => L3.step t5.ext s5
    refine ht _ _ _ ⟨cf, oa, _, β2, p.1, p.2, L4, ?_⟩
    cases et : t p.1 p.2 with
    | stuck => rw [et] at eq; rw [eq] at h; exact h.elim
    | exc e S5 => rw [et] at eq; rw [eq] at h; exact h.elim
    | ok k S5 =>
     rw [et] at eq
     intro H5 β5 t5 L5
     rw [hS] at t5
     have nD : ∀ {H6 : Hp}, H6 D = some (.dK xs) → ∀ ys, ¬ Rd H6 D (.tup ys) := fun {H6} q ys r => by
      rcases r with r | ⟨o, r⟩ <;> (rw [q] at r; cases r)
     have Ad : H5 D = some (.dK xs) := t5.ext.keep _ _ (e3 _ _ hx) (L3.p D (.inr rfl)).2
     cases k with
     | false =>
      rw [if_neg Bool.false_ne_true]
      exact ⟨β5, S5, acc, xs, back t5 L5.st, t2.trans ((Tr.same e3).trans t5), Ad, (rs.mono (Ext.same e3)).mono t5.ext, eq⟩
     | true =>
      rw [if_pos rfl]
      simp only at eq
      refine he _ _ _ ⟨cf, oa, _, β5, p.1, S5, L5, ?_⟩
      cases ee : ma p.1 S5 with
      | stuck => rw [ee] at eq; rw [eq] at h; exact h.elim
      | exc e S6 => rw [ee] at eq; rw [eq] at h; exact h.elim
      | ok kd S6 =>
       rw [ee] at eq
       simp only at eq
       intro v H6 β6 t6 L6 r6
       refine hv _ _ _ ⟨cf, oa, _, β6, p.1, S6, L6, ?_⟩
       cases ev : mv p.1 S6 with
       | stuck => rw [ev] at eq; rw [eq] at h; exact h.elim
       | exc e S7 => rw [ev] at eq; rw [eq] at h; exact h.elim
       | ok d S7 =>
        rw [ev] at eq
        simp only at eq
        intro w H7 β7 t7 L7 r7
        cases ek : keyD kd with
        | none => rw [ek] at eq; rw [eq] at h; exact h.elim
        | some k =>
         rw [ek] at eq
         simp only at eq
         have tR : H6 D = some (.dK xs) := t6.ext.keep _ _ Ad (L5.p D (.inr rfl)).2
         have wC : H7 D = some (.dK xs) := t7.ext.keep _ _ tR (L6.p D (.inr rfl)).2
         have len : xs.length = acc.length := rs.length
         by_cases hz : acc.length < sizeLine
         ·simp only [if_pos hz] at eq
          have Ik := t5.trans (t6.trans t7)
          have L8 := back Ik L7.st
          have rs7 := ((rs.mono (Ext.same e3)).mono Ik.ext)
          refine ⟨xs, k, CP r6 ek, wC, by rw [len]; exact hz, β7, S7, putD acc k d, putK xs k w, L8.nY (.inr rfl) h0 no (nD wC) (fun o u z => by rw [wC] at z; cases z), (t2.trans ((Tr.same e3).trans Ik)).nY hD (nD wC) (fun o u z => by rw [wC] at z; cases z), upd_same, ?_, eq⟩
          exact Nh (rs7.set (.inl (.inr rfl)) (nD wC)) (r7.set (.inl (.inr rfl)) (nD wC))
         ·simp only [if_neg hz] at eq
          rw [eq] at h; exact h.elim
  ·left
   have e : i = ds.length := by omega
   subst e
   rw [List.drop_length] at eq
   simp only [lO] at eq
   rw [eq] at h
   exact ⟨stop rfl, h D H2 β2 (t1.trans t2) (FZ t1.ext hD) L2 ⟨xs, hx, rs⟩⟩
/-- the parts of a dict Y8 block -/
structure a0V (X : Cx) (b : Bool) (scope : Scope) (tg : Expr) (ifs : List Expr) (kx vx : Expr) (vs : List Nat) (g : GX) (gt : TG) (kt : BX) (mk mv : EX) : Prop where
 hg : ∀ (s : Shared) (H : Hp) (C : Addr) (cl : List (Str × Addr)) (fp : List Addr), PG (X.blk s H scope (compEnvC scope cl C X.env) fp) tg gt
 bg : BG X vs g gt
 ht : ∀ (s : Shared) (H : Hp) (C : Addr) (cl : List (Str × Addr)) (fp : List Addr), MG (aj X) W0 b (X.blk s H scope (compEnvC scope cl C X.env) fp) ifs kt
 hk : ∀ (s : Shared) (H : Hp) (C : Addr) (cl : List (Str × Addr)) (fp : List Addr), PM (aj X) W0 b (X.blk s H scope (compEnvC scope cl C X.env) fp) kx mk
 hv : ∀ (s : Shared) (H : Hp) (C : Addr) (cl : List (Str × Addr)) (fp : List Addr), PM (aj X) W0 b (X.blk s H scope (compEnvC scope cl C X.env) fp) vx mv
variable {kx vx iter : Expr} {ifs : List Expr} {scope : Scope} {own : List (Str × Nat)} {pos : Pos} {g : GX} {gt : TG} {kt : BX} {mk mv : EX}
theorem Rg (hc : X.calm = true) (hN : X.N.Nodup) (hi : pU (aj X) W b X tg iter it) (ok : BlkOk X.N X.env.scope scope own) (B : a0V X b scope tg ifs kx vx (own.map (·.2)) g gt kt mk mv)
  (hs : ∀ x, foldedSetIterable iter X.env x = pure x := by intro _; rfl) : PN (aj X) W b X (.DictComp kx vx [⟨tg, iter, ifs, 0⟩] scope pos) (wB it (own.map (·.2)) g kt mk mv) :=
 bW (pe_dc hc hN hi ok B.hg B.ht B.hk B.hv hs) fun σ H Q h => a0T (fun _ _ _ h => h) B.bg (fun _ _ _ h => h) (fun _ _ _ h => h) (fun _ _ _ h => h) h
end
def jY (a b : Str) : Prop := a.cps.toList ≤ b.cps.toList
theorem Rh {a b : Str} : ltCps b.cps.toList a.cps.toList = false ↔ jY a b := by
 rw [ltCps_eq]
 unfold jY
 rw [decide_eq_false_iff_not]
 exact List.not_lt
theorem a0W {a b : Str} (h1 : jY a b) (h2 : jY b a) : a = b := by
 have e := List.le_antisymm h1 h2
 obtain ⟨⟨x⟩⟩ := a
 obtain ⟨⟨y⟩⟩ := b
 cases e
 rfl
theorem Ri {a b c : Str} (h1 : jY a b) (h2 : jY b c) : jY a c := List.le_trans h1 h2
theorem Rj : ∀ (p : Str) (l : List Str), risingS p l = true → (p :: l).Pairwise jY
 | p, [], _ => by simp
 | p, x :: r, h => by
  unfold risingS at h
  rw [Bool.and_eq_true, Bool.not_eq_true'] at h
  have h1 := Rh.mp h.1
  have h2 := Rj x r h.2
  rw [List.pairwise_cons]
  refine ⟨fun y hy => ?_, h2⟩
  rcases List.mem_cons.mp hy with rfl | hy
  ·exact h1
  ·exact Ri h1 ((List.pairwise_cons.mp h2).1 y hy)
theorem Il {l : List Str} (h : sortedS l = true) : l.Pairwise jY := by
 cases l with
 | nil => exact .nil
 | cons x r => exact Rj x r h
def wD (x : Str) : List Str → List Str
 | [] => [x]
 | y :: r => if ltCps y.cps.toList x.cps.toList = true then y :: wD x r else x :: y :: r
def dG : List Str → List Str
 | [] => []
 | x :: r => wD x (dG r)
theorem Im (x : Str) : ∀ l : List Str, (wD x l).Perm (x :: l)
 | [] => .refl _
 | y :: r => by
  unfold wD
  split
  ·exact ((Im x r).cons y).trans (List.Perm.swap x y r)
  ·exact .refl _
theorem fP : ∀ l : List Str, (dG l).Perm l
 | [] => .refl _
 | x :: r => (Im x (dG r)).trans ((fP r).cons x)
theorem Rk (x : Str) : ∀ l : List Str, l.Pairwise jY → (wD x l).Pairwise jY
 | [], _ => by simp [wD]
 | y :: r, h => by
  unfold wD
  obtain ⟨h1, h2⟩ := List.pairwise_cons.mp h
  split
  ·rename_i e
   refine List.pairwise_cons.mpr ⟨fun z hz => ?_, Rk x r h2⟩
   rcases List.mem_cons.mp ((Im x r).mem_iff.mp hz) with rfl | hz
   ·rw [ltCps_eq, decide_eq_true_eq] at e
    exact List.le_of_lt e
   ·exact h1 z hz
  ·rename_i e
   have e' : jY x y := Rh.mp (by simpa using e)
   refine List.pairwise_cons.mpr ⟨fun z hz => ?_, h⟩
   rcases List.mem_cons.mp hz with rfl | hz
   ·exact e'
   ·exact Ri e' (h1 z hz)
theorem Io : ∀ l : List Str, (dG l).Pairwise jY
 | [] => .nil
 | x :: r => Rk x _ (Io r)
theorem Du {ys ks : List Str} (p : ys.Perm ks) (h : ys.Pairwise jY) : ys = dG ks :=
 List.Perm.eq_of_pairwise (fun a b _ _ h1 h2 => a0W h1 h2) h (Io ks) (p.trans (fP ks).symm)
def insI (x : Int) : List Int → List Int
 | [] => [x]
 | y :: r => if y < x then y :: insI x r else x :: y :: r
def sortI : List Int → List Int
 | [] => []
 | x :: r => insI x (sortI r)
theorem insI_perm (x : Int) : ∀ l : List Int, (insI x l).Perm (x :: l)
 | [] => .refl _
 | y :: r => by
  unfold insI
  split
  ·exact ((insI_perm x r).cons y).trans (List.Perm.swap x y r)
  ·exact .refl _
theorem sortI_perm : ∀ l : List Int, (sortI l).Perm l
 | [] => .refl _
 | x :: r => (insI_perm x (sortI r)).trans ((sortI_perm r).cons x)
theorem Rl (x : Int) : ∀ l : List Int, l.Pairwise (· ≤ ·) → (insI x l).Pairwise (· ≤ ·)
 | [], _ => by simp [insI]
 | y :: r, h => by
  unfold insI
  obtain ⟨h1, h2⟩ := List.pairwise_cons.mp h
  split
  ·rename_i e
   refine List.pairwise_cons.mpr ⟨fun z hz => ?_, Rl x r h2⟩
   rcases List.mem_cons.mp ((insI_perm x r).mem_iff.mp hz) with rfl | hz
   ·omega
   ·exact h1 z hz
  ·rename_i e
   refine List.pairwise_cons.mpr ⟨fun z hz => ?_, h⟩
   rcases List.mem_cons.mp hz with rfl | hz
   ·omega
   ·have := h1 z hz
    omega
theorem Rm : ∀ l : List Int, (sortI l).Pairwise (· ≤ ·)
 | [] => .nil
 | x :: r => Rl x _ (Rm r)
theorem a0X {ys ks : List Int} (p : ys.Perm ks) (h : ys.Pairwise (· ≤ ·)) : ys = sortI ks :=
 List.Perm.eq_of_pairwise (fun a b _ _ h1 h2 => Int.le_antisymm h1 h2) h (Rm ks) (p.trans (sortI_perm ks).symm)
def yL : List (Key × D) → Option (List Str)
 | [] => some []
 | (.inr x, _) :: r => match yL r with
  | some l => some (x :: l)
  | none => none
 | _ :: _ => none
def intsOf : List D → Option (List Int)
 | [] => some []
 | .int x :: r => match intsOf r with
  | some l => some (x :: l)
  | none => none
 | _ :: _ => none
/-- sorted(x): a dict with text keys, a list of texts, a list of ints -/
def qC (S : Store) (ds : List D) : Option D := match ds with
 | [d] => match aU S d with
  | some kvs => match yL kvs with
   | some ks => if ks.length < 64 then some (.lst ((dG ks).map D.str)) else none
   | none => none
  | none => match bu S d with
   | some xs => match strsOf xs with
    | some ks => if ks.length < 64 then some (.lst ((dG ks).map D.str)) else none
    | none => match intsOf xs with
     | some ks => if ks.length < 64 then some (.lst ((sortI ks).map D.int)) else none
     | none => none
   | none => none
 | _ => none
def a0Y : List V → Hp → VK → Prop := fun xs H Q => ∃ (a : Addr) (kvs : List (Key × V)) (ks : List Str), xs = [.ref a] ∧ Rd H a (.dK kvs) ∧ kvs.map (·.1) = ks.map Sum.inr ∧ ks.length < 64 ∧
  ∀ ys p, ys.Perm ks → sortedS ys = true → H p = none → Q (.ref p) (upd H p (.lst (ys.map V.str)))
def Dy (K : PySem.W.Frag) : List V → Hp → VK → Prop := fun xs H Q => a0Y xs H Q ∨ rSortedS K xs H Q ∨ rSorted K xs H Q
section
variable {X : Cx}
theorem Ip (hc : X.calm = true) : CallR X (.builtin "sorted") (Dy X.K) := CallR.or (call_sortedD hc) (CallR.or cr_sortedS cr_sorted)
theorem Rq : ∀ {kvs : List (Key × D)} {ks : List Str}, yL kvs = some ks → kvs.map (·.1) = ks.map Sum.inr
 | [], _, h => by cases h; rfl
 | (.inr x, _) :: r, _, h => by
  simp only [yL] at h
  split at h
  ·rename_i l el
   cases h
   rw [List.map_cons, List.map_cons, Rq el]
  ·cases h
 | (.inl i, _) :: _, _, h => by cases h
theorem Rr {C : Ct} {H : Hp} {Z : Addr → Prop} {β : List Addr} : ∀ {xs : List V} {ds : List D} {bs : List Int}, aA C H Z β xs ds → intsOf ds = some bs → xs = bs.map V.int
 | _, [], _, r, e => by cases r; cases e; rfl
 | _, .int b :: ds, _, r, e => by
  simp only [intsOf] at e
  split at e
  ·rename_i l el
   cases e
   cases r with
   | cons r1 r2 => cases r1; rw [Rr r2 el]; rfl
  ·cases e
 | _, .non :: _, _, _, e | _, .str _ :: _, _, _, e | _, .bl _ :: _, _, _, e | _, .tup _ :: _, _, _, e | _, .lst _ :: _, _, _, e | _, .dct _ :: _, _, _, e | _, .ref _ :: _, _, _, e | _, .ty _ :: _, _, _, e | _, .fn _ :: _, _, _, e => by cases e
theorem Dz {C : Ct} {H : Hp} {P : Addr → Prop} {β : List Addr} : ∀ ns : List Str, aA C H P β (ns.map V.str) (ns.map D.str)
 | [] => .nil
 | n :: ns => .cons (.str n) (Dz ns)
theorem Ru {C : Ct} {H : Hp} {P : Addr → Prop} {β : List Addr} : ∀ ns : List Int, aA C H P β (ns.map V.int) (ns.map D.int)
 | [] => .nil
 | n :: ns => .cons (.int n) (Ru ns)
theorem Rv : FU X (Dy X.K) qC := by
 intro Z H β S xs ds dz Q A r e k
 unfold qC at e
 split at e
 ·rename_i d
  obtain ⟨x, rfl, r1⟩ := jE r
  split at e
  ·rename_i kvs ev
   split at e
   ·rename_i ks ek
    split at e
    ·rename_i hl
     cases e
     obtain ⟨a, us, rfl, q1, q2⟩ := r1.aU A.st ev
     refine .inl ⟨a, us, ks, rfl, q1, by rw [q2.keys]; exact Rq ek, hl, fun ys p hp hs hn => ?_⟩
     rw [Du hp (Il hs)]
     exact k p _ (g8 hn) hn ⟨_, upd_same, Dz _⟩
    ·cases e
   ·cases e
  ·split at e
   ·rename_i ys ev
    obtain ⟨a, us, rfl, q1, q2⟩ := r1.bu A.st ev
    split at e
    ·rename_i ks ek
     split at e
     ·rename_i hl
      cases e
      have := GD q2 ek
      subst this
      refine .inr (.inl ⟨a, ks, rfl, q1, hl, fun ys p hp hs hn => ?_⟩)
      rw [Du hp (Il hs)]
      exact k p _ (g8 hn) hn ⟨_, upd_same, Dz _⟩
     ·cases e
    ·split at e
     ·rename_i ks ek
      split at e
      ·rename_i hl
       cases e
       have := Rr q2 ek
       subst this
       refine .inr (.inr ⟨a, ks, rfl, q1, hl, fun ys p hp hs hn => ?_⟩)
       rw [a0X hp hs]
       exact k p _ (g8 hn) hn ⟨_, upd_same, Ru _⟩
      ·cases e
     ·cases e
   ·cases e
 ·cases e
theorem Rw (S : Store) (xs : List D) (d : D) (h : qC S xs = some d) : xD d := by
 unfold qC at h
 split at h
 ·split at h
  ·split at h
   ·split at h
    ·cases h; exact ⟨_, rfl⟩
    ·cases h
   ·cases h
  ·split at h
   ·split at h
    ·split at h
     ·cases h; exact ⟨_, rfl⟩
     ·cases h
    ·split at h
     ·split at h
      ·cases h; exact ⟨_, rfl⟩
      ·cases h
     ·cases h
   ·cases h
 ·cases h
theorem Rx : gj X (Dy X.K) qC := gj.C6 Rv Rw
end
section
variable {K : PySem.W.Frag} {x qual : Str} {st : Stmt} {f : Addr} {oc : Value} {od an : Option Addr} {sl : Array (Option Value)} {kV doc pm cd ct : Value} {Dd : Addr} {kws : List (Str × V)}
theorem oK (l : K.lookup f = some ⟨oc, od, .func (PySem.W.fnOf x qual (defArgs st) (defBody st) (defScope st) .none kV doc pm an cd ct), sl⟩) (c : PySem.W.codeIn K cd qual = true) (k : PySem.W.keepIn K (.ref f) = true) :
  iY K x qual st [] f (PySem.W.fnOf x qual (defArgs st) (defBody st) (defScope st) .none kV doc pm an cd ct) :=
 ⟨⟨oc, od, .none, kV, doc, pm, an, cd, ct, sl, rfl, l, c, .inl ⟨rfl, rfl⟩, .inl rfl⟩, k⟩
theorem a0Z (l : K.lookup f = some ⟨oc, od, .func (PySem.W.fnOf x qual (defArgs st) (defBody st) (defScope st) .none (.ref Dd) doc pm an cd ct), sl⟩) (c : PySem.W.codeIn K cd qual = true) (k : PySem.W.keepIn K (.ref f) = true) (h : ∀ q ∈ kws, ∃ u, PySem.W.nsIn K Dd q.1 = some (some u) ∧ RelV q.2 u) :
  iY K x qual st kws f (PySem.W.fnOf x qual (defArgs st) (defBody st) (defScope st) .none (.ref Dd) doc pm an cd ct) :=
 ⟨⟨oc, od, .none, .ref Dd, doc, pm, an, cd, ct, sl, rfl, l, c, .inl ⟨rfl, rfl⟩, .inr ⟨Dd, rfl, h⟩⟩, k⟩
end
section
variable {a m mo me ma mb : EX} {ar kr : AX} {ρ : aF} {S : Store} {Q : D → Store → Prop} {E : bD → Store → Prop} {N : aF → Store → Prop} {p : Po} {cs : List Str} {c f mn : Str} {r : MR} {ff : FX} {neg : Bool}
theorem oM : (cC cs f m ρ S).al Q E ↔ (m ρ S).al (fun x S1 => ∃ z, lM cs f S1 x = some z ∧ Q z S1) E := w6
theorem Ry : (su cs f mo me ρ S).al N p ↔ (me ρ S).al (fun y S1 => (mo ρ S1).al (fun x S2 => ∃ S3, lN cs f x y S2 = some S3 ∧ N ρ S3) (fun e S => p.E e S ∧ p.X e ρ S)) (fun e S => p.E e S ∧ p.X e ρ S) := by
 unfold su
 rw [jU]
 refine iff_of_eq (congrArg (fun z => R.al (me ρ S) z _) (funext fun y => funext fun S1 => propext ?_))
 rw [jU]
 refine iff_of_eq (congrArg (fun z => R.al (mo ρ S1) z _) (funext fun x => funext fun S2 => propext ?_))
 cases h : lN cs f x y S2 with
 | none => simp [SR.al]
 | some S3 => simp [SR.al]
theorem DA {α : Type} {c : Str} {r : α} {c' : Str} : ([(c, r)] : List (Str × α)).lookup c' = if c' = c then some r else none := by
 rw [List.lookup_cons]
 by_cases h : c' = c
 ·subst h; simp
 ·have : (c' == c) = false := by simpa using h
  rw [this, if_neg h]; rfl
/-- o.m(..), one class -/
theorem qD : (fY [(c, r)] mn mo ar kr ρ S).al Q E ↔ (mo ρ S).al (fun d S1 => ∃ fs, cZ S1 d = some (c, fs) ∧ fs.lookup mn = none ∧ (ar ρ S1).al (fun us S2 => (kr ρ S2).al (fun ws S3 => (r.f (pick r.idx (d :: us) (ws ++ r.dd)) S3).al Q E) E) E) E := by
 unfold fY
 rw [bM]
 refine iff_of_eq (congrArg (fun z => R.al (mo ρ S) z _) (funext fun d => funext fun S1 => propext ?_))
 cases h : cZ S1 d with
 | none => simp [R.al]
 | some q =>
  obtain ⟨c', fs⟩ := q
  simp only [DA, Option.some.injEq, Prod.mk.injEq]
  by_cases hc : c' = c
  ·subst hc
   rw [if_pos rfl]
   cases h2 : fs.lookup mn with
   | none =>
    simp only [bM]
    exact ⟨fun q => ⟨fs, ⟨trivial, rfl⟩, h2, q⟩, fun ⟨fs', ⟨_, e⟩, _, q⟩ => q⟩
   | some z =>
    constructor
    ·intro q; exact q.elim
    ·rintro ⟨fs', ⟨_, rfl⟩, e, _⟩; rw [h2] at e; cases e
  ·rw [if_neg hc]
   exact ⟨fun q => q.elim, fun ⟨fs', ⟨e, _⟩, _⟩ => absurd e hc⟩
theorem Ir : (uH c r ar kr ρ S).al Q E ↔ (ar ρ S).al (fun us S1 => (kr ρ S1).al (fun ws S2 => (r.f (pick r.idx (.ref S2.length :: us) (ws ++ r.dd)) (S2 ++ [.ins c []])).al (fun d S3 => d = .non ∧ Q (.ref S2.length) S3) E) E) E := by
 unfold uH
 simp only [bM]
 refine iff_of_eq (congrArg (fun z => R.al (ar ρ S) z _) (funext fun us => funext fun S1 => ?_))
 refine (congrArg (fun z => R.al (kr ρ S1) z _) (funext fun ws => funext fun S2 => ?_))
 refine (congrArg (fun z => R.al (r.f (pick r.idx (.ref S2.length :: us) (ws ++ r.dd)) (S2 ++ [.ins c []])) z _) (funext fun d => funext fun S3 => propext ?_))
 cases d <;> simp [R.al]
theorem Rz : (uI [(c, ff)] neg ma mb ρ S).al Q E ↔ (ma ρ S).al (fun x S1 => (mb ρ S1).al (fun y S2 => ∃ fs, cZ S2 x = some (c, fs) ∧ (oJ [c] S2 y).isSome = true ∧ (ff [x, y] S2).al (fun d S3 => ∃ k, d = .bl k ∧ Q (.bl (if neg = true then !k else k)) S3) (fun _ _ => False)) E) E := by
 unfold uI
 simp only [bM]
 refine iff_of_eq (congrArg (fun z => R.al (ma ρ S) z _) (funext fun x => funext fun S1 => ?_))
 refine (congrArg (fun z => R.al (mb ρ S1) z _) (funext fun y => funext fun S2 => propext ?_))
 unfold Ig
 cases h : cZ S2 x with
 | none => simp [R.al]
 | some q =>
  obtain ⟨c', fs⟩ := q
  simp only [DA, Option.some.injEq, Prod.mk.injEq]
  by_cases hc : c' = c
  ·subst hc
   rw [if_pos rfl]
   cases h2 : oJ [c'] S2 y with
   | none => simp [R.al]
   | some t =>
    simp only [Option.isSome_some, true_and]
    constructor
    ·intro q
     refine ⟨fs, by first | exact rfl | exact ⟨trivial, rfl⟩, ?_⟩
     cases h3 : ff [x, y] S2 with
     | ok d S3 =>
      rw [h3] at q
      cases d with
      | bl k => exact ⟨k, rfl, q⟩
      | _ => exact q.elim
     | exc e S3 => rw [h3] at q; exact q.elim
     | stuck => rw [h3] at q; exact q.elim
    ·intro q
     obtain ⟨fs', _, q⟩ := q
     cases h3 : ff [x, y] S2 with
     | ok d S3 =>
      rw [h3] at q
      obtain ⟨k, rfl, q⟩ := q
      exact q
     | exc e S3 => rw [h3] at q; exact q.elim
     | stuck => rw [h3] at q; exact q.elim
  ·rw [if_neg hc]
   exact ⟨fun q => q.elim, fun ⟨fs', ⟨e, _⟩, _⟩ => absurd e hc⟩
theorem RA : (yJ [(c, ff)] ma ρ S).al Q E ↔ (ma ρ S).al (fun x S1 => match cZ S1 x with
  | some q => q.1 = c ∧ (ff [x] S1).al (fun d S2 => ∃ z, d = .str z ∧ Q (.str z) S2) (fun _ _ => False)
  | none => ∃ z, mQ S1 [x] = some z ∧ Q z S1) E := by
 unfold yJ
 rw [bM]
 refine iff_of_eq (congrArg (fun z => R.al (ma ρ S) z _) (funext fun x => funext fun S1 => propext ?_))
 cases h : cZ S1 x with
 | none => exact iy
 | some q =>
  obtain ⟨c', fs⟩ := q
  simp only [DA]
  by_cases hc : c' = c
  ·subst hc
   rw [if_pos rfl]
   simp only [true_and]
   cases h3 : ff [x] S1 with
   | ok d S3 => cases d <;> simp [R.al]
   | exc e S3 => simp [R.al]
   | stuck => simp [R.al]
  ·rw [if_neg hc]
   exact ⟨fun q => q.elim, fun q => absurd q.1 hc⟩
theorem RB {it : AX} {vs : List Nat} {g : GX} {t : BX} {ek ev : EX} : (wB it vs g t ek ev ρ S).al Q E ↔ (it ρ S).al (fun ds S1 => (lO vs g t ek ev (cJ ρ vs) ds [] S1).al (fun ys S2 => Q (.dct ys) S2) E) E := by
 unfold wB; simp only [bM, uw]
/-- a dict comprehension bR changes nothing: keys and values by functions of the items -/
theorem RE {vs : List Nat} {g : GX} {ek ev : EX} {kf : D → Key} {vf : D → D} : ∀ (ds : List D) (acc : List (Key × D)), (∀ d ∈ ds, ∃ p kd, g d ρ S = some p ∧ p.2 = S ∧ ek p.1 S = .ok kd S ∧ keyD kd = some (kf d) ∧ ev p.1 S = .ok (vf d) S) → acc.length + ds.length ≤ sizeLine →
  lO vs g i6 ek ev ρ ds acc S = .ok (ds.foldl (fun acc d => putD acc (kf d) (vf d)) acc) S
 | [], acc, _, _ => rfl
 | d :: ds, acc, h, hl => by
  obtain ⟨p, kd, h1, h2, h3, h4, h5⟩ := h d List.mem_cons_self
  simp only [lO, h1, i6, h2, h3, h5, h4]
  rw [if_pos (by simp only [List.length_cons] at hl; omega)]
  have hp : (putD acc (kf d) (vf d)).length ≤ acc.length + 1 := by
   unfold putD
   split
   ·rw [List.length_map]; omega
   ·rw [List.length_append, List.length_singleton]; omega
  rw [RE ds _ (fun x hx => h x (List.mem_cons_of_mem _ hx)) (by simp only [List.length_cons] at hl; omega)]
  rfl
theorem dW {n : Nat} {fs : List (Str × D)} (h : S[n]? = some (.ins c fs)) : cZ S (.ref n) = some (c, fs) := by
 unfold cZ; simp only [h]
theorem AO {n : Nat} {fs : List (Str × D)} {z : D} (h : S[n]? = some (.ins c fs)) (hc : cs.contains c = true) (hz : fs.lookup f = some z) : lM cs f S (.ref n) = some z := by
 unfold lM yD; simp only [h, hc, if_true, hz]
theorem AQ {n : Nat} {fs : List (Str × D)} {y : D} (h : S[n]? = some (.ins c fs)) (hc : cs.contains c = true) (hl : fs.length < 1000) : lN cs f (.ref n) y S = some (S.set n (.ins c (qp f y fs))) := by
 unfold lN yD; simp only [h, hc, if_true, hl]
end
end Mi
namespace PySem.SeqAt
open AutoSeq1 (wpAny_loadPart')
open MeetsSeq MeetsSeq2 MeetsSeq3 SeqRoads2
section
variable {prog : Program} {w : World}
theorem a1a (l b : Addr) (items items2 : Array Value) (n n2 : Nat) (dd dd2 : Option Addr) (sl sl2 : Array (Option Value)) (e : Nat → Bool) :
  MeetsIn prog w (Builtin.«tuple.__eq__» ⟨[.ref l, .ref b], []⟩)
   (fun A R s => s.heap.get? l = some { cls := .type "tuple", dict := dd, data := .seq items n, slots := sl } ∧ s.heap.get? b = some { cls := .type "tuple", dict := dd2, data := .seq items2 n2, slots := sl2 } ∧
    (∀ j (h1 : j < items.size) (h2 : j < items2.size), EqP prog w A.in1 s items[j] items2[j] (e j)) ∧
    R (.ok (.ret (.bool ((List.range (min items.size items2.size)).all e && items.size == items2.size)))) s) := by
  intro A R s h
  obtain ⟨hp, g, d, tk, os⟩ := s; obtain ⟨hl, hb, he, h⟩ := h
  have f2 := AutoSeq1.sub_tuple_tuple
  have hZ : (items.toList.zip items2.toList).length = min items.size items2.size := by simp
  wp_walk using wpAny_loadPart' hl, wpAny_loadPart' hb, wpAny_forIn_list _ (fun rest b s' => b.1 = none ∧ s' = ⟨hp, g, d, tk, os⟩ ∧ ∃ i, rest = (items.toList.zip items2.toList).drop i ∧
   R (.ok (.ret (.bool (((List.range (min items.size items2.size)).drop i).all e && items.size == items2.size)))) ⟨hp, g, d, tk, os⟩) _
  case turn =>
   rintro ⟨y, x⟩ rest b s' ⟨hb', rfl, i, hz, hR⟩
   have hlt : i < (items.toList.zip items2.toList).length := by
    rcases Nat.lt_or_ge i (items.toList.zip items2.toList).length with h' | h'
    ·exact h'
    ·rw [List.drop_of_length_le h'] at hz; cases hz
   have hm : i < min items.size items2.size := hZ ▸ hlt
   have h1 : i < items.size := Nat.lt_of_lt_of_le hm (Nat.min_le_left _ _)
   have h2 : i < items2.size := Nat.lt_of_lt_of_le hm (Nat.min_le_right _ _)
   rw [List.drop_eq_getElem_cons hlt] at hz
   injection hz with hyx hrest
   have hy : y = items[i] := by have := congrArg Prod.fst hyx; simpa using this
   have hx : x = items2[i] := by have := congrArg Prod.snd hyx; simpa using this
   subst hy hx
   have hd : (List.range (min items.size items2.size)).drop i = i :: (List.range (min items.size items2.size)).drop (i + 1) := by simp [List.drop_eq_getElem_cons, hm]
   rw [hd, List.all_cons] at hR
   refine wpAny_bind (he i h1 h2 _ _ ?_)
   cases hy : e i with
   | true =>
    rw [hy] at hR
    wp_walk
    exact ⟨rfl, rfl, i + 1, hrest, by simpa using hR⟩
   | false =>
    rw [hy] at hR
    wp_walk
    simpa using hR
  case fin =>
   rintro ⟨b1, b2⟩ s' ⟨hb', rfl, i, hz, hR⟩
   simp only at hb'
   subst hb'
   have hge : min items.size items2.size ≤ i := by
    rcases Nat.lt_or_ge i (items.toList.zip items2.toList).length with h' | h'
    ·rw [List.drop_eq_getElem_cons h'] at hz; cases hz
    ·exact hZ ▸ h'
   rw [List.drop_of_length_le (by simpa using hge)] at hR
   wp_walk
   simpa [Builtin.Tuple.tupleCompareSizes] using hR
  case h =>
   exact ⟨rfl, rfl, 0, rfl, by simpa using h⟩
theorem a1b {A : Around} {s : Shared} {l b : Addr} {items items2 : Array Value} {e : Nat → Bool} (hl : s.heap.IsTuple l items) (hb : s.heap.IsTuple b items2) (hsz : items.size = items2.size) (hu : A.units < cLine)
  (he : ∀ j (h1 : j < items.size) (h2 : j < items2.size), EqP prog w A.in1 s items[j] items2[j] (e j)) (E Q : Value → Shared → Prop) (h : Q (.bool ((List.range items.size).all e)) s) : wpAny (model prog w) A (richCompare .Eq (.ref l) (.ref b)) Q E s := by
 obtain ⟨⟨cls, dd, data, sl⟩, ho, hc, n, hd⟩ := id hl
 obtain ⟨⟨cls2, dd2, data2, sl2⟩, ho2, hc2, n2, hd2⟩ := id hb
 simp only at hc hd hc2 hd2
 subst hc hd hc2 hd2
 have ta : s.TypeIs (.ref l) "tuple" := ⟨_, ho, rfl⟩
 have tb : s.TypeIs (.ref b) "tuple" := ⟨_, ho2, rfl⟩
 have e1 : ((List.range (min items.size items2.size)).all e && items.size == items2.size) = (List.range items.size).all e := by rw [hsz]; simp
 exact wpAny_richCompare_same_room (op := .Eq) ta tb F.slot_tuple_eq (call_meetsIn F.slot_tuple_eq ta F.entry_tuple_eq (F.args_tuple_eq_2 _ _) (a1a l b items items2 n n2 dd dd2 sl sl2 e)
  ⟨ho, ho2, he, by rw [e1]; exact (show Value.bool ((List.range items.size).all e) ≠ Value.notImplemented ∧ Q (.bool ((List.range items.size).all e)) s from ⟨(fun x => nomatch x), h⟩)⟩) hu
end
end PySem.SeqAt
namespace Mi
open PySem PySem.Spec PyProof.Rows L2
def allEq (f : D → D → Option Bool) : List D → List D → Option Bool
 | [], [] => some true
 | x :: xs, y :: ys => match f x y, allEq f xs ys with
  | some a, some b => some (a && b)
  | _, _ => none
 | _, _ => none
def qF (f : D → D → Option Bool) (ls : List (Key × D)) : List (Key × D) → Option Bool
 | [] => some true
 | (k, v) :: r => match valD ls k with
  | none => some false
  | some u => match f v u, qF f ls r with
   | some a, some b => some (a && b)
   | _, _ => none
def jH (f : D → D → Option Bool) (x y : D) : Option Bool := match x, y with
 | .lst xs, .lst ys => if xs.length = ys.length then allEq f xs ys else some false
 | .tup xs, .tup ys => if xs.length = ys.length then allEq f xs ys else none
 | .dct ks, .dct ls => if ks.length = ls.length then qF f ls ks else some false
 | _, _ => none
/-- plain data without dicts -/
def uK (d : D) : Option PyData := match toPy false d with
 | some p => if p.canLay0 = true ∧ p.depth ≤ 40 then some p else none
 | none => none
def eqT : Nat → D → D → Option Bool
 | 0, _, _ => none
 | n + 1, x, y => match uK x, uK y with
  | some p, some q => some (PyData.eqv p q)
  | _, _ => jH (eqT n) x y
def yM (S : Store) (x y : D) : Option D := match cX S x y with
 | some z => some z
 | none => (jH (eqT 6) (top S x) (top S y)).map D.bl
section
variable {X : Cx} {pins : List (Addr × Obj)} {σ : L2.St} {H : Hp} {s : Shared} {β : List Addr}
theorem RG {f : D → D → Option Bool} : ∀ {xs ys : List D} {b : Bool}, allEq f xs ys = some b → ∃ e : Nat → Bool, xs.length = ys.length ∧ (∀ (j : Nat) (x y : D), xs[j]? = some x → ys[j]? = some y → f x y = some (e j)) ∧ (List.range xs.length).all e = b
 | [], [], _, h => by cases h; exact ⟨fun _ => true, rfl, fun j x y h _ => by simp at h, rfl⟩
 | x :: xs, y :: ys, b, h => by
  unfold allEq at h
  split at h
  ·rename_i a b' h1 h2
   cases h
   obtain ⟨e, l, h3, h4⟩ := RG h2
   refine ⟨fun j => match j with | 0 => a | j + 1 => e j, by simp [l], fun j u v hu hv => ?_, ?_⟩
   ·cases j with
    | zero => simp at hu hv; subst hu; subst hv; exact h1
    | succ j => exact h3 j u v (by simpa using hu) (by simpa using hv)
   ·rw [List.length_cons, List.range_succ_eq_map, List.all_cons, List.all_map]
    show (a && (List.range xs.length).all e) = _
    rw [h4]
  ·cases h
 | [], _ :: _, _, h => by cases h
 | _ :: _, [], _, h => by cases h
theorem fG.get {C : Ct} : ∀ {vs : List V} {ds : List D} {i : Nat} {v : V}, fG C H β vs ds → vs[i]? = some v → ∃ d, ds[i]? = some d ∧ VW C H β v d
 | _, _, _, _, .nil, h => by simp at h
 | _, _, 0, _, .cons h _, e => by simp at e; subst e; exact ⟨_, rfl, h⟩
 | _, _, i + 1, _, .cons _ t, e => by
  obtain ⟨d, h1, h2⟩ := fG.get (i := i) t (by simpa using e)
  exact ⟨d, by simpa using h1, h2⟩
theorem fG.len {C : Ct} : ∀ {vs : List V} {ds : List D}, fG C H β vs ds → vs.length = ds.length
 | _, _, .nil => rfl
 | _, _, .cons _ t => by simp [fG.len t]
theorem ig.len {C : Ct} : ∀ {vs : List (Key × V)} {ds : List (Key × D)}, ig C H β vs ds → vs.length = ds.length
 | _, _, .nil => rfl
 | _, _, .cons _ t => by simp [ig.len t]
theorem Iu {C : Ct} {k : Key} : ∀ {vs : List (Key × V)} {ds : List (Key × D)}, ig C H β vs ds → (valV vs k = none ∧ valD ds k = none) ∨ ∃ v d, valV vs k = some v ∧ valD ds k = some d ∧ VW C H β v d
 | _, _, .nil => .inl ⟨rfl, rfl⟩
 | _, _, .cons (k := k0) (v := v0) (d := d0) (vs := vs) (ds := ds) h t => by
  by_cases hk : k0 = k
  ·exact .inr ⟨v0, d0, valV_pos hk, by simp [valD, List.find?_cons, hk], h⟩
  ·have e' : valD ((k0, d0) :: ds) k = valD ds k := by simp [valD, List.find?_cons, hk]
   rw [e', valV_neg hk]
   exact Iu t
theorem yN (I : L2.Inv X pins σ H s) {a : Addr} {xs : List (Key × V)} (h : Rd H a (.dK xs)) : ∃ va : List (Key × Value), KV xs va ∧ (a == sysModules) = false ∧ s.heap.DictOf (mixKind X.prog X.w) a va := by
 rcases h with h | ⟨o, h⟩
 ·obtain ⟨_, ya, va, ra, da⟩ := (show ObjOk X.prog X.w H s.heap a (.dK xs) from I.hok a _ h)
  exact ⟨va, ra, ya, da⟩
 ·obtain ⟨_, _, ya, va, ra, da⟩ := (show ObjOk X.prog X.w H s.heap a (.frz o (.dK xs)) from I.hok a _ h)
  exact ⟨va, ra, ya, da⟩
/-- what is asked of the items -/
def DB (X : Cx) (H : Hp) (β : List Addr) (A : Around) (s : Shared) (f : D → D → Option Bool) : Prop :=
 ∀ (x y : V) (v u : Value) (dx dy : D) (b : Bool), VW (aj X) H β x dx → VW (aj X) H β y dy → f dx dy = some b → RelV x v → RelV y u → SeqAt.EqP X.prog X.w A s v u b
theorem items_eq {A : Around} {f : D → D → Option Bool} (ih : DB X H β A s f) {xs ys : List V} {us ws : List Value} {ds es : List D} {b : Bool} (rx : fG (aj X) H β xs ds) (ry : fG (aj X) H β ys es) (r1 : Vals xs us) (r2 : Vals ys ws) (h : allEq f ds es = some b) :
  ∃ e : Nat → Bool, us.length = ws.length ∧ (∀ j (h1 : j < us.length) (h2 : j < ws.length), SeqAt.EqP X.prog X.w A s us[j] ws[j] (e j)) ∧ (List.range us.length).all e = b := by
 obtain ⟨e, l, h1, h2⟩ := RG h
 have l1 : us.length = ds.length := by rw [← r1.length, rx.len]
 have l2 : ws.length = es.length := by rw [← r2.length, ry.len]
 refine ⟨e, by omega, fun j j1 j2 => ?_, by rw [l1]; exact h2⟩
 have k1 : j < xs.length := by rw [r1.length]; exact j1
 have k2 : j < ys.length := by rw [r2.length]; exact j2
 obtain ⟨u, hu, ru⟩ := r1.get (List.getElem?_eq_getElem k1)
 obtain ⟨w, hw, rw'⟩ := r2.get (List.getElem?_eq_getElem k2)
 obtain ⟨d, hd, vd⟩ := rx.get (List.getElem?_eq_getElem k1)
 obtain ⟨d', hd', vd'⟩ := ry.get (List.getElem?_eq_getElem k2)
 rw [List.getElem?_eq_getElem j1] at hu
 rw [List.getElem?_eq_getElem j2] at hw
 cases hu; cases hw
 exact ih _ _ _ _ d d' (e j) vd vd' (h1 j d d' hd hd') ru rw'
theorem hits_eq {A : Around} {f : D → D → Option Bool} (ih : DB X H β A s f) {ls : List (Key × V)} {es : List (Key × D)} {vb : List (Key × Value)} (rl : ig (aj X) H β ls es) (rb : KV ls vb) : ∀ {ks : List (Key × V)} {ds : List (Key × D)} {va : List (Key × Value)} {b : Bool}, ig (aj X) H β ks ds → KV ks va → qF f es ds = some b →
  PySem.W.KeqHitsP X.prog X.w A s vb va b
 | _, _, _, _, .nil, ra, h => by
  unfold KV at ra
  cases ra; cases h; exact .nil
 | _, _, _, b, .cons (k := k) (v := v) (d := d) (vs := vs) (ds := ds) hv t, ra, h => by
  unfold KV at ra
  cases ra with
  | @cons _ q _ qs h1 h2 =>
   obtain ⟨key, val⟩ := q
   obtain ⟨e1, r1⟩ := h1
   have e1 : k = key := e1
   subst e1
   unfold qF at h
   have rr : RelO (valV ls k) (valueAt vb k) := rb.val k
   rcases Iu (k := k) rl with ⟨n1, n2⟩ | ⟨u, du, n1, n2, ru⟩
   ·rw [n2] at h
    cases h
    rw [n1] at rr
    exact .miss rr.none_of
   ·rw [n2] at h
    simp only at h
    rw [n1] at rr
    obtain ⟨y, hy, ry⟩ := rr.some_of
    split at h
    ·rename_i a b' h3 h4
     cases h
     exact .hit hy (ih _ _ _ _ _ _ a hv ru h3 r1 ry) (hits_eq ih rl rb t h2 h4)
    ·cases h
theorem RH (I : L2.Inv X pins σ H s) {A : Around} {f : D → D → Option Bool} (hu : A.units < cLine) (ih : DB X H β A.in1 s f) {x y : V} {v u : Value} {dx dy : D} {b : Bool} (h : jH f dx dy = some b) (vx : VW (aj X) H β x dx) (vy : VW (aj X) H β y dy) (rx : RelV x v) (ry : RelV y u)
  (E Q : Value → Shared → Prop) (q : Q (.bool b) s) : wpAny (model X.prog X.w) A (richCompare .Eq v u) Q E s := by
 unfold jH at h
 split at h
 ·rename_i xs ys
  cases vx with
  | @lst a us _ ha va =>
   cases vy with
   | @lst c ws _ hc vc =>
    cases (show v = Value.ref a from rx)
    cases (show u = Value.ref c from ry)
    obtain ⟨us', r1, p1, _⟩ := I.list ha
    obtain ⟨ws', r2, p2, _⟩ := I.list hc
    split at h
    ·obtain ⟨e, l, h1, h2⟩ := items_eq ih va vc r1 r2 h
     refine SeqAt.rcP_lists (e := e) p1.isList p2.isList (by simpa using l) hu (fun j j1 j2 => ?_) E Q ?_
     ·have k := h1 j (by simpa using j1) (by simpa using j2)
      simpa using k
     ·rw [show us'.toArray.size = us'.length from List.size_toArray .., h2]; exact q
    ·rename_i hl
     cases h
     have l1 : us'.length = xs.length := by rw [← r1.length, va.len]
     have l2 : ws'.length = ys.length := by rw [← r2.length, vc.len]
     exact SeqAt.RcAt.lists_lengths p1.isList p2.isList (by rw [List.size_toArray, List.size_toArray, l1, l2]; simpa using hl) hu _ _ _ _ q
 ·rename_i xs ys
  cases vx with
  | @tup a us _ ha va =>
   cases vy with
   | @tup c ws _ hc vc =>
    cases (show v = Value.ref a from rx)
    cases (show u = Value.ref c from ry)
    obtain ⟨us', r1, p1, _⟩ := I.tuple ha
    obtain ⟨ws', r2, p2, _⟩ := I.tuple hc
    split at h
    ·obtain ⟨e, l, h1, h2⟩ := items_eq ih va vc r1 r2 h
     refine SeqAt.a1b (e := e) p1 p2 (by simpa using l) hu (fun j j1 j2 => ?_) E Q ?_
     ·have k := h1 j (by simpa using j1) (by simpa using j2)
      simpa using k
     ·rw [show us'.toArray.size = us'.length from List.size_toArray .., h2]; exact q
    ·cases h
 ·rename_i ks ls
  cases vx with
  | @dct a us _ ha va =>
   cases vy with
   | @dct c ws _ hc vc =>
    cases (show v = Value.ref a from rx)
    cases (show u = Value.ref c from ry)
    obtain ⟨wa, ra, ya, da⟩ := yN I ha
    obtain ⟨wb, rb, yb, db⟩ := yN I hc
    have l1 : wa.length = ks.length := by rw [← ra.length, va.len]
    have l2 : wb.length = ls.length := by rw [← rb.length, vc.len]
    split at h
    ·rename_i hl
     refine PySem.W.rcP_dicts (knd := mixKind X.prog X.w) (r := b) ya yb da db hu (fun _ => hits_eq ih vc rb va ra h) E Q ?_
     rw [show (wa.length == wb.length && b) = b from by rw [l1, l2, hl]; simp]
     exact q
    ·rename_i hl
     cases h
     refine PySem.W.rcP_dicts (knd := mixKind X.prog X.w) (r := false) ya yb da db hu (fun z => absurd (by omega) hl) E Q ?_
     rw [Bool.and_false]
     exact q
 ·cases h
theorem DC {d : D} {p : PyData} (h : uK d = some p) : toPy false d = some p ∧ p.canLay0 = true ∧ p.depth ≤ 40 := by
 unfold uK at h
 split at h
 ·rename_i q eq
  split at h
  ·rename_i hc; cases h; exact ⟨eq, hc⟩
  ·cases h
 ·cases h
theorem a1d {a : Addr} {i j : Array Value} (h1 : s.heap.IsList a i) (h2 : s.heap.IsList a j) : i = j := by
 obtain ⟨o, e, _, n, d⟩ := h1
 obtain ⟨o', e', _, n', d'⟩ := h2
 rw [e] at e'; cases e'
 rw [d] at d'; cases d'; rfl
theorem a1e {a : Addr} {i j : Array Value} (h1 : s.heap.IsTuple a i) (h2 : s.heap.IsTuple a j) : i = j := by
 obtain ⟨o, e, _, n, d⟩ := h1
 obtain ⟨o', e', _, n', d'⟩ := h2
 rw [e] at e'; cases e'
 rw [d] at d'; cases d'; rfl
theorem RJ {K : Type} [DecidableEq K] {knd : KeyKind X.prog X.w K} : ∀ {es : List DictEntry} {va vb : List (K × Value)}, Pairs knd es va → Pairs knd es vb → va = vb
 | _, _, _, .nil, .nil => rfl
 | _, _, _, .cons h1 h2 h3, .cons g1 g2 g3 => by
  have e := RJ h3 g3
  subst e
  have ek := knd.inj _ _ _ h1 g1
  rw [Prod.ext ek (h2.symm.trans g2)]
theorem a1f {a : Addr} {va vb : List (Key × Value)} (h1 : s.heap.DictOf (mixKind X.prog X.w) a va) (h2 : s.heap.DictOf (mixKind X.prog X.w) a vb) : va = vb := by
 obtain ⟨o, es, ep, e, _, d, _, p, _⟩ := h1
 obtain ⟨o', es', ep', e', _, d', _, p', _⟩ := h2
 rw [e] at e'; cases e'
 rw [d] at d'; cases d'
 exact RJ p p'
/-- one value read twice is equal to itself -/
def AU (X : Cx) (H : Hp) (β : List Addr) (f : D → D → Option Bool) : Prop :=
 ∀ (x y : V) (v : Value) (dx dy : D) (b : Bool), VW (aj X) H β x dx → VW (aj X) H β y dy → RelV x v → RelV y v → f dx dy = some b → b = true
theorem Iv {f : D → D → Option Bool} (ih : AU X H β f) : ∀ {xs ys : List V} {us : List Value} {ds es : List D} {b : Bool}, fG (aj X) H β xs ds → fG (aj X) H β ys es → Vals xs us → Vals ys us → allEq f ds es = some b → b = true
 | _, _, _, _, _, b, .nil, .nil, _, _, h => by cases h; rfl
 | _, _, _, _, _, b, .cons v1 t1, .cons v2 t2, .cons r1 q1, .cons r2 q2, h => by
  unfold allEq at h
  split at h
  ·rename_i a b' h1 h2
   cases h
   rw [ih _ _ _ _ _ a v1 v2 r1 r2 h1, Iv ih t1 t2 q1 q2 h2]; rfl
  ·cases h
theorem RK {f : D → D → Option Bool} (ih : AU X H β f) {ls : List (Key × V)} {es : List (Key × D)} {vb : List (Key × Value)} (nd : (vb.map (·.1)).Nodup) (rl : ig (aj X) H β ls es) (rb : KV ls vb) : ∀ {ks : List (Key × V)} {ds : List (Key × D)} {va : List (Key × Value)} {b : Bool}, ig (aj X) H β ks ds → KV ks va → (∀ q ∈ va, q ∈ vb) → qF f es ds = some b → b = true
 | _, _, _, _, .nil, _, _, h => by cases h; rfl
 | _, _, _, b, .cons (k := k) (v := v) (d := d) (vs := vs) (ds := ds) hv t, ra, sub, h => by
  unfold KV at ra
  cases ra with
  | @cons _ q _ qs h1 h2 =>
   obtain ⟨key, val⟩ := q
   obtain ⟨e1, r1⟩ := h1
   have e1 : k = key := e1
   subst e1
   have hm : (k, val) ∈ vb := sub _ List.mem_cons_self
   have va : valueAt vb k = some val := by
    unfold valueAt
    clear rb sub
    induction vb with
    | nil => cases hm
    | cons q vb ih2 =>
     rw [List.find?_cons]
     by_cases e : q.1 = k
     ·simp only [e, decide_true, Option.map_some]
      rcases List.mem_cons.mp hm with rfl | hm
      ·rfl
      ·exact absurd (List.mem_map.mpr ⟨_, hm, rfl⟩) (by rw [List.map_cons, List.nodup_cons, e] at nd; exact nd.1)
     ·simp only [e, decide_false]
      rcases List.mem_cons.mp hm with rfl | hm
      ·exact absurd rfl e
      ·exact ih2 (List.nodup_cons.mp (by rw [List.map_cons] at nd; exact nd)).2 hm
   have rr : RelO (valV ls k) (valueAt vb k) := rb.val k
   rw [va] at rr
   unfold qF at h
   rcases Iu (k := k) rl with ⟨n1, n2⟩ | ⟨u, du, n1, n2, ru⟩
   ·rw [n1] at rr
    cases rr.none_of
   ·rw [n2] at h
    simp only at h
    rw [n1] at rr
    obtain ⟨y, hy, ry⟩ := rr.some_of
    cases hy
    split at h
    ·rename_i a b' h3 h4
     cases h
     rw [ih _ _ _ _ _ a hv ru r1 ry h3, RK ih nd rl rb t h2 (fun q hq => sub q (List.mem_cons_of_mem _ hq)) h4]; rfl
    ·cases h
theorem step_same (I : L2.Inv X pins σ H s) {f : D → D → Option Bool} (ih : AU X H β f) : AU X H β (jH f) := by
 intro x y v dx dy b vx vy rx ry h
 unfold jH at h
 split at h
 ·rename_i xs ys
  cases vx with
  | @lst a us _ ha va =>
   cases vy with
   | @lst c ws _ hc vc =>
    cases (show v = Value.ref a from rx)
    cases (show Value.ref a = Value.ref c from ry)
    obtain ⟨us', r1, p1, _⟩ := I.list ha
    obtain ⟨ws', r2, p2, _⟩ := I.list hc
    have e := a1d p1.isList p2.isList
    have e' : us' = ws' := by simpa using e
    subst e'
    split at h
    ·exact Iv ih va vc r1 r2 h
    ·rename_i hl
     exact absurd (by rw [← va.len, ← vc.len, r1.length, r2.length]) hl
 ·rename_i xs ys
  cases vx with
  | @tup a us _ ha va =>
   cases vy with
   | @tup c ws _ hc vc =>
    cases (show v = Value.ref a from rx)
    cases (show Value.ref a = Value.ref c from ry)
    obtain ⟨us', r1, p1, _⟩ := I.tuple ha
    obtain ⟨ws', r2, p2, _⟩ := I.tuple hc
    have e := a1e p1 p2
    have e' : us' = ws' := by simpa using e
    subst e'
    split at h
    ·exact Iv ih va vc r1 r2 h
    ·cases h
 ·rename_i ks ls
  cases vx with
  | @dct a us _ ha va =>
   cases vy with
   | @dct c ws _ hc vc =>
    cases (show v = Value.ref a from rx)
    cases (show Value.ref a = Value.ref c from ry)
    obtain ⟨wa, ra, ya, da⟩ := yN I ha
    obtain ⟨wb, rb, yb, db⟩ := yN I hc
    have e := a1f da db
    subst e
    split at h
    ·exact RK ih (let ⟨_, _, _, _, _, _, _, _, nd⟩ := db; nd) vc rb va ra (fun _ h => h) h
    ·rename_i hl
     exact absurd (by rw [← va.len, ← vc.len, ra.length, rb.length]) hl
 ·cases h
theorem RL (I : L2.Inv X pins σ H s) : ∀ n, AU X H β (eqT n)
 | 0 => fun _ _ _ _ _ _ _ _ _ _ h => nomatch h
 | n + 1 => by
  intro x y v dx dy b vx vy rx ry h
  unfold eqT at h
  split at h
  ·rename_i p q hp hq
   cases h
   obtain ⟨a1, a2, _⟩ := DC hp
   obtain ⟨b1, b2, _⟩ := DC hq
   obtain ⟨_, q1⟩ := Dp.reads I p x v (xV vx a1) rx
   obtain ⟨_, q2⟩ := Dp.reads I q y v (xV vy b1) ry
   have e := SeqAt.Reads.unique p q v _ _ a2 q1 q2
   subst e
   exact SeqAt.eqv_refl p a2
  ·exact step_same I (RL I n) x y v dx dy b vx vy rx ry h
theorem Iw (I : L2.Inv X pins σ H s) : ∀ (n : Nat) (A : Around), A.units + n + 41 < cLine → DB X H β A s (eqT n)
 | 0, _, _ => fun _ _ _ _ _ _ _ _ _ h _ _ => nomatch h
 | n + 1, A, hu => by
  intro x y v u dx dy b vx vy h rx ry
  have h0 := h
  unfold eqT at h
  split at h
  ·rename_i p q hp hq
   cases h
   obtain ⟨a1, a2, a3⟩ := DC hp
   obtain ⟨b1, b2, b3⟩ := DC hq
   obtain ⟨_, q1⟩ := Dp.reads I p x v (xV vx a1) rx
   obtain ⟨_, q2⟩ := Dp.reads I q y u (xV vy b1) ry
   exact (SeqAt.eqAt_reads p q A s v u _ _ q1 q2 a2 b2 (by omega)).eqP
  ·have rc := RH I (A := A) (by omega) (Iw I n A.in1 (by show A.units + 1 + n + 41 < cLine; omega)) h vx vy rx ry
   obtain ⟨a, c, rfl, rfl⟩ : ∃ a c, v = Value.ref a ∧ u = Value.ref c := by
    unfold jH at h
    split at h
    ·cases vx; cases vy; exact ⟨_, _, rx, ry⟩
    ·cases vx; cases vy; exact ⟨_, _, rx, ry⟩
    ·cases vx; cases vy; exact ⟨_, _, rx, ry⟩
    ·cases h
   by_cases e : a = c
   ·subst e
    have := RL I (n + 1) x y _ dx dy b vx vy rx ry h0
    subst this
    exact (SeqAt.EqAt.same _).eqP
   ·exact SeqAt.eqP_refs e rc
def Iz (X : Cx) : R2 := fun x y H Q => ∃ β dx dy b, VW (aj X) H β x dx ∧ VW (aj X) H β y dy ∧ jH (eqT 6) dx dy = some b ∧ Q (.bl b) H
theorem a1g (hu : X.A.units + 64 < cLine) : OpR X (compareOp .Eq) (Iz X) := by
 intro pins s σ H x y v u Q I rx ry h
 obtain ⟨β, dx, dy, b, vx, vy, h, q⟩ := h
 exact RH I (A := X.A) (by omega) (Iw I 6 X.A.in1 (by show X.A.units + 1 + 6 + 41 < cLine; omega)) h vx vy rx ry _ _ ⟨.bl b, H, I, rfl, q⟩
theorem a1h (hu : X.A.units + 64 < cLine) : OpR X (compareOp .Eq) (fun x y H Q => CG X.K x y H Q ∨ Iz X x y H Q) := OpR.or (or_eq hu) (a1g hu)
theorem a1i : cH X (fun x y H Q => CG X.K x y H Q ∨ Iz X x y H Q) yM := by
 intro Z H β S x y dx dy dz Q A rx ry e k
 unfold yM at e
 split at e
 ·rename_i z ez
  cases e
  exact .inl (iK Z H β S x y dx dy _ Q A rx ry ez k)
 ·obtain ⟨b, eb, rfl⟩ := Option.map_eq_some_iff.mp e
  exact .inr ⟨β, _, _, b, rx.top A.st, ry.top A.st, eb, k _ H (Same.refl _) (.bl _)⟩
end
/-- RM bR are RM -/
def Cv (x : Str) : Prop := ∀ c ∈ x.cps.toList, c < 0x110000
theorem Cv.app {x y : Str} (h1 : Cv x) (h2 : Cv y) : Cv (x ++ y) := by
 intro c hc
 have hc' : c ∈ (x.cps ++ y.cps).toList := hc
 rw [Array.toList_append] at hc'
 exact (List.mem_append.mp hc').elim (h1 c) (h2 c)
theorem RN (c : Char) : c.toNat < 0x110000 := by
 have := c.valid
 rcases this with h | ⟨_, h⟩
 ·exact Nat.lt_of_lt_of_le h (by decide)
 ·exact h
theorem jZ (s : String) : Cv (Str.ofString s) := by
 rw [Str.ofString_eq_toList]
 intro c hc
 have hc' : c ∈ s.toList.map Char.toNat := by simpa using hc
 obtain ⟨ch, _, rfl⟩ := List.mem_map.mp hc'
 exact RN ch
theorem a1j : Cv Str.empty := fun c hc => by cases hc
theorem IB {sep : Str} (hs : Cv sep) : ∀ {xs : List Str}, (∀ x ∈ xs, Cv x) → Cv (Str.join sep xs)
 | [], _ => a1j
 | [x], h => h x List.mem_cons_self
 | x :: y :: r, h => ((h x List.mem_cons_self).app hs).app (IB hs (xs := y :: r) fun z hz => h z (List.mem_cons_of_mem _ hz))
theorem RO : ∀ (xs : List Str) (k : Nat) (acc : Str), Cv acc → (∀ x ∈ xs, Cv x) → Cv (textFrom k acc xs)
 | [], _, _, h, _ => h
 | t :: ts, k, acc, h, hx => RO ts (k + 1) _ ((h.app (by split <;> exact jZ _)).app (hx t List.mem_cons_self)) fun z hz => hx z (List.mem_cons_of_mem _ hz)
theorem a1k {q c : Nat} (hq : q < 0x110000) (hc : c < 0x110000) : ∀ x ∈ Builtin.Str.reprChar q c, x < 0x110000 := by
 have hex : ∀ w : Nat, ∀ x ∈ (List.replicate (w - ((Nat.toDigits 16 c).map Char.toNat).length) 48 ++ (Nat.toDigits 16 c).map Char.toNat), x < 0x110000 := fun w x hx => by
  rcases List.mem_append.mp hx with hx | hx
  ·rw [(List.mem_replicate.mp hx).2]; decide
  ·obtain ⟨ch, _, rfl⟩ := List.mem_map.mp hx
   exact RN ch
 intro x hx
 unfold Builtin.Str.reprChar at hx
 simp only at hx
 have two : ∀ {a b : Nat}, a < 0x110000 → b < 0x110000 → x ∈ [a, b] → x < 0x110000 := fun ha hb h => by
  simp only [List.mem_cons, List.not_mem_nil, or_false] at h
  rcases h with rfl | rfl
  ·exact ha
  ·exact hb
 repeat' split at hx
 ·exact two (by decide) hc hx
 ·exact two (by decide) (by decide) hx
 ·exact two (by decide) (by decide) hx
 ·exact two (by decide) (by decide) hx
 ·rw [List.mem_singleton.mp hx]; exact hc
 ·exact (List.mem_append.mp hx).elim (two (by decide) (by decide)) (hex 2 x)
 ·exact (List.mem_append.mp hx).elim (two (by decide) (by decide)) (hex 4 x)
 ·exact (List.mem_append.mp hx).elim (two (by decide) (by decide)) (hex 8 x)
theorem RP {q : Nat} (hq : q < 0x110000) : ∀ (l : List Nat) (acc : Array Nat), (∀ c ∈ l, c < 0x110000) → (∀ c ∈ acc.toList, c < 0x110000) → ∀ c ∈ (l.foldl (fun out c => out ++ (Builtin.Str.reprChar q c).toArray) acc).toList, c < 0x110000
 | [], _, _, h => h
 | a :: l, acc, h1, h2 => by
  rw [List.foldl_cons]
  refine RP hq l _ (fun c hc => h1 c (List.mem_cons_of_mem _ hc)) fun c hc => ?_
  rw [Array.toList_append] at hc
  rcases List.mem_append.mp hc with hc | hc
  ·exact h2 c hc
  ·exact a1k hq (h1 a List.mem_cons_self) c (by simpa using hc)
theorem RQ {x : Str} (h : Cv x) : Cv (reprText x) := by
 have hq : reprQuote x < 0x110000 := by
  unfold reprQuote
  split <;> decide
 intro c hc
 have hc' : c ∈ (x.cps.foldl (fun out c => out ++ (Builtin.Str.reprChar (reprQuote x) c).toArray) #[reprQuote x]).toList ++ [reprQuote x] := by
  have : c ∈ ((x.cps.foldl (fun out c => out ++ (Builtin.Str.reprChar (reprQuote x) c).toArray) #[reprQuote x]).push (reprQuote x)).toList := hc
  rwa [Array.toList_push] at this
 rcases List.mem_append.mp hc' with hc' | hc'
 ·rw [← Array.foldl_toList] at hc'
  exact RP hq x.cps.toList _ h (fun c hc => by rw [List.mem_singleton.mp (show c ∈ [reprQuote x] from hc)]; exact hq) c hc'
 ·rw [List.mem_singleton.mp hc']; exact hq
mutual
theorem IC : ∀ (d : D) (p : PyData), aR d → toPy true d = some p → Cv p.shown
 | .non, _, _, e => by cases e; exact jZ _
 | .bl b, _, _, e => by cases e; cases b <;> exact jZ _
 | .int i, _, _, e => by cases e; exact jZ _
 | .str x, _, h, e => by cases e; exact RQ (show Cv x by simp only [aR] at h; exact h)
 | .tup xs, p, h, e => by
  simp only [toPy] at e
  split at e
  ·rename_i l el
   cases e
   have := IE xs l (by simpa only [aR] using h) el
   simp only [PyData.shown]
   refine ((jZ "(").app (IB (jZ ", ") this)).app ?_
   split <;> exact jZ _
  ·cases e
 | .lst xs, p, h, e => by
  simp only [toPy] at e
  split at e
  ·rename_i l el
   cases e
   have := IE xs l (by simpa only [aR] using h) el
   simp only [PyData.shown]
   exact (RO _ 0 _ (jZ "[") this).app (jZ "]")
  ·cases e
 | .dct xs, p, h, e => by
  simp only [toPy] at e
  split at e
  ·rename_i l el
   cases e
   have := RW xs l (by simpa only [aR] using h) el
   simp only [PyData.shown]
   exact ((jZ "{").app (IB (jZ ", ") this)).app (jZ "}")
  ·cases e
 | .ref _, _, h, _ => by simp only [aR] at h
 | .ty _, _, h, _ => by simp only [aR] at h
 | .fn _, _, h, _ => by simp only [aR] at h
theorem IE : ∀ (ds : List D) (ps : List PyData), fO ds → ie true ds = some ps → ∀ x ∈ PyData.shownAll ps, Cv x
 | [], _, _, e => by cases e; intro x hx; simp only [PyData.shownAll] at hx; cases hx
 | d :: r, ps, h, e => by
  have h' : aR d ∧ fO r := by simpa only [fO] using h
  simp only [ie] at e
  split at e
  ·rename_i x ex
   split at e
   ·rename_i l el
    cases e
    intro y hy
    simp only [PyData.shownAll] at hy
    rcases List.mem_cons.mp hy with rfl | hy
    ·exact IC d x h'.1 ex
    ·exact IE r l h'.2 el y hy
   ·cases e
  ·cases e
theorem RW : ∀ (ds : List (Key × D)) (ps : List (PyData × PyData)), jd ds → pY true ds = some ps → ∀ x ∈ PyData.shownKv ps, Cv x
 | [], _, _, e => by cases e; intro x hx; simp only [PyData.shownKv] at hx; cases hx
 | (k, d) :: r, ps, h, e => by
  have h' : uy (k, d) ∧ jd r := by simpa only [jd] using h
  have h'' : ux k ∧ aR d := by simpa only [uy] using h'.1
  simp only [pY, CB] at e
  cases ex : toPy true d with
  | none => rw [ex] at e; cases e
  | some x =>
   rw [ex] at e
   simp only at e
   cases el : pY true r with
   | none => rw [el] at e; cases e
   | some l =>
    rw [el] at e
    cases e
    intro y hy
    simp only [PyData.shownKv] at hy
    rcases List.mem_cons.mp hy with rfl | hy
    ·refine (Cv.app ?_ (jZ ": ")).app (IC d x h''.2 ex)
     cases k with
     | inl i => exact jZ _
     | inr s => exact RQ (show Cv s from by have q := h''.1; simp only [ux] at q; exact q)
    ·exact RW r l h'.2 el y hy
end
/-- repr of plain data, its length and its RM -/
theorem DE {d : D} (h : aR d) (hb : bT d ≤ 200000) (hd : bJ d ≤ 64) : ∃ k, Cv k ∧ k.length ≤ 66 * bT d + 64 ∧ ∀ S, mQ S [d] = some (.str k) ∧ jF S d = some (.str k) := by
 obtain ⟨p, e, s⟩ := Dg d h
 have hl := PyData.shown_le_bulk 64 (by decide) p s.l
 rw [s.b] at hl
 have hc : p.showable = true ∧ p.shown.length ≤ sizeLine ∧ p.depth ≤ 64 := ⟨s.s, by rw [sizeLine_eq]; omega, by rw [s.d]; exact hd⟩
 refine ⟨p.shown, IC d p h e, by omega, fun S => ⟨?_, ?_⟩⟩
 ·unfold mQ
  simp only [qd (AB d h), e]
  rw [if_pos hc]
 ·unfold jF
  simp only [qd (AB d h), e]
  rw [if_pos hc]
theorem a1l {S : Store} {d : D} : jF S d = mQ S [d] := by
 unfold jF mQ; rfl
section
variable {Q : D → Store → Prop} {E : bD → Store → Prop} {ρ : aF} {S : Store} {t : EX} {ts : List EX} {acc : Str}
theorem a1m : (oG [] acc ρ S).al Q E ↔ Q (.str acc) S := Iff.rfl
theorem a1n : (oG (t :: ts) acc ρ S).al Q E ↔ (t ρ S).al (fun x S1 => ∃ y, x = .str y ∧ (acc ++ y).length ≤ sizeLine ∧ (oG ts (acc ++ y) ρ S1).al Q E) E := by
 have e : oG (t :: ts) acc ρ S = (t ρ S).bind fun x S1 => match x with
  | .str y => if (acc ++ y).length ≤ sizeLine then oG ts (acc ++ y) ρ S1 else .stuck
  | _ => .stuck := rfl
 rw [e, bM]
 refine iff_of_eq (congrArg (fun z => R.al (t ρ S) z _) (funext fun x => funext fun S1 => propext ?_))
 cases x <;> first
  | exact ⟨fun h => h.elim, fun ⟨_, e, _⟩ => nomatch e⟩
  | skip
 rename_i y
 by_cases h : (acc ++ y).length ≤ sizeLine
 ·simp only [h, if_true]
  exact ⟨fun q => ⟨y, rfl, h, q⟩, fun ⟨_, e, _, q⟩ => by cases e; exact q⟩
 ·simp only [h, if_false]
  exact ⟨fun q => q.elim, fun ⟨_, e, q, _⟩ => by cases e; exact absurd q h⟩
end
end Mi
namespace PySem.AutoSeq1
theorem a1o (l : Addr) (items : Array Value) (n : Nat) (b : Addr) (items2 : Array Value) (n2 : Nat) (dd2 : Option Addr) (sl2 : Array (Option Value)) (hc0 : ¬(!items.isEmpty && Builtin.List.listTooLong (items.size + items2.size)) = true) (hc1 : items.size ≤ sizeLine) (hs2 : items.size + items2.size ≤ sizeLine + 1) :
  Meets (Builtin.«list.extend» ⟨[.ref l, .ref b], []⟩) (fun _ R s => s.heap.get? l = some { cls := .type "list", dict := none, data := .seq items n, slots := #[] } ∧ s.heap.get? b = some { cls := .type "list", dict := dd2, data := .seq items2 n2, slots := sl2 } ∧ R (.ok (.ret Value.none)) { s with heap := s.heap.update l (Obj.mapSeq fun x => x ++ items2), toks := s.toks }) :=
 .of_wp fun prog w A R s h => by
  obtain ⟨hp, g, d, tk, os⟩ := s; obtain ⟨hl, hb, h⟩ := h; have f1 := idx_int; have f2 := sub_tuple_tuple; have f3 := sub_list_list; have f4 := sub_tuple_list; have f5 := sub_list_tuple
  have hz' : (items ++ items2).size ≤ sizeLine + 1 := by rw [Array.size_append]; exact hs2
  wp_walk using (wpAny_updateSeq hl rfl (hz := hc1) (_hz' := hz')), wpAny_loadPart' hl, wpAny_loadPart' hb; exact ⟨_, rfl, h⟩
end PySem.AutoSeq1
namespace Mi
open PySem PySem.Spec PyProof.Rows L2
def RX (K : PySem.W.Frag) : V → List V → Hp → VK → Prop := fun x vs H Q => ∃ l b xs zs, x = .ref l ∧ vs = [.ref b] ∧ H l = some (.lst xs) ∧ SqL K H b zs ∧ xs.length + zs.length ≤ sizeLine ∧ Q .non (upd H l (.lst (xs ++ zs)))
theorem a1p {X : Cx} : MtR X "list.extend" (RX X.K) := by
 intro pins s σ H x vs v us Q I rx rv h
 obtain ⟨l, b, xs, zs, rfl, rfl, hH, hB, hz, q⟩ := h
 cases rx
 obtain ⟨u, rfl, ru⟩ := rv.one
 cases ru
 obtain ⟨z, its, n, r, hl, e⟩ := I.lstM hH
 obtain ⟨its2, r2, ⟨o2, n2, g2, c2, _, d2⟩, _⟩ := I.list hB
 obtain ⟨cl2, dd2, Yh, sl2⟩ := o2
 simp only at c2 d2
 subst c2 d2
 have hsz : its.toArray.size + its2.toArray.size ≤ sizeLine := by rw [List.size_toArray, List.size_toArray, ← r.length, ← r2.length]; exact hz
 have hlong : ¬ (!its.toArray.isEmpty && Builtin.List.listTooLong (its.toArray.size + its2.toArray.size)) = true := by
  rw [notLongL hsz, Bool.and_false]
  exact Bool.false_ne_true
 refine call_meets F.slot_list_extend ⟨_, e, rfl⟩ F.entry_list_extend (F.args_list_extend_2 _ _)
  (AutoSeq1.a1o l its.toArray n b its2.toArray n2 dd2 sl2 hlong (by rw [List.size_toArray, ← r.length]; exact z) (by omega)) ⟨e, g2, ?_⟩
 refine ⟨.non, _, I.lset (its' := its ++ its2) hH e (by simp) (r.append r2) ?_, rfl, q⟩
 rw [List.length_append]
 omega
/-- x.extend(e) -/
def yO (i : Nat) (a : EX) : SX := fun ρ S => match ρ[i]? with
 | some (Sl.ow (.lst xs)) => (a ρ S).st ρ fun d S1 => match bu S1 d with
  | some zs => if xs.length + zs.length ≤ sizeLine then .nx (ρ.set i (.ow (.lst (xs ++ zs)))) S1 else .stuck
  | none => .stuck
 | some (Sl.sh (.ref n)) => match S[n]? with
  | some (.lst _) => (a ρ S).st ρ fun d S1 => match S1[n]? with
   | some (.lst xs) => match bu S1 d with
    | some zs => if xs.length + zs.length ≤ sizeLine then .nx ρ (S1.set n (.lst (xs ++ zs))) else .stuck
    | none => .stuck
   | _ => .stuck
  | _ => .stuck
 | _ => .stuck
section
variable {X : Cx} {W : WX} {x : Str} {px apos cpos pos : Pos} {e : Expr} {me : EX} {i : Nat}
theorem RY (hv : PE X (.Name x px) (tVar i)) (he : PM (aj X) W false X e me)
  (hs : swapsWith (.Call (.Attribute (.Name x px) "extend" apos) [e] [] cpos) none pos.line X.env = pure false := by rfl)
  (hbase : attributeBase (.Name x px) "extend" X.env (eval (.Name x px) X.env) = eval (.Name x px) X.env := by rfl)
  (hfew : ((backTo cpos (starEach [e] X.env)).all (fun x => !x.1) && (backToKw cpos (keywordEach [] X.env)).all (fun x => x.1.isSome)
   && decide (([e] : List Expr).length + ([] : List Keyword).length + (if ([] : List Keyword).isEmpty then 0 else 1) < 30)) = true := by rfl)
  (hline : (apos.endLine == cpos.line) = true := by rfl) (hst : starEach [e] X.env = (false, eval e X.env) :: starEach [] X.env := by rfl) (hpl : (backTo cpos (starEach [] X.env)).any (·.1) = false := by rfl) :
  fL (aj X) W X (.Expr (.Call (.Attribute (.Name x px) "extend" apos) [e] [] cpos) pos) (yO i me) :=
 jw (ps_expr (pe_bm F.plainAttrs_list F.slot_list_extend F.type_list_extend a1p hv (au he aD hst) hbase hfew hline hst hpl) hs) fun D σ H h => by
  obtain ⟨cf, oa, P, β, ρ, S, L, h⟩ := h
  have one : ∀ {Q : List V → Hp → Prop}, EM (aj X) W false me σ H (fun v H' => Q [v] H') → AM (aj X) W false (ao me aq) σ H Q := by
   intro Q h
   obtain ⟨cf, oa, P, β, ρ, S, L, h⟩ := h
   refine ⟨cf, oa, P, β, ρ, S, L, ?_⟩
   unfold ao
   cases em : me ρ S with
   | stuck => rw [em] at h; exact h
   | exc x S1 => rw [em] at h; exact h
   | ok d S1 =>
    rw [em] at h
    intro vs H1 β1 t L1 r
    obtain ⟨v, rfl, r1⟩ := jE r
    exact h v H1 β1 t L1 r1
  unfold yO at h
  have go : ∀ {a : Addr} {us : List V}, σ[i]? = some (some (.ref a)) → SqL X.K H a us → EM (aj X) W false me σ H (fun v H' => ∃ (l b : Addr) (xs zs : List V), V.ref a = .ref l ∧ [v] = [.ref b] ∧ H' l = some (.lst xs) ∧ SqL X.K H' b zs ∧ xs.length + zs.length ≤ sizeLine ∧ D.nx σ (upd H' l (.lst (xs ++ zs)))) →
    tBM X.K "list" (RX X.K) (tVar i) (AM (aj X) W false (ao me aq)) σ H (fun _ H' => D.nx σ H') := by
   intro a us q1 q2 q3
   exact ⟨.ref a, q1, .inl ⟨rfl, us, q2⟩, one q3⟩
  cases es : ρ[i]? with
  | none => rw [es] at h; exact h.elim
  | some sl =>
   rw [es] at h
   cases sl with
   | un => exact h.elim
   | ex _ => exact h.elim
   | ow dx =>
    cases dx with
    | lst xs =>
     obtain ⟨a, o1, o2, us, q1, q2⟩ := L.bV i _ es
     refine go o2 (.inl (.inl q1)) ⟨cf, oa, P, β, ρ, S, L, ?_⟩
     simp only at h
     cases em : me ρ S with
     | stuck => rw [em] at h; exact h
     | exc x S1 => rw [em] at h; exact jC h
     | ok d S1 =>
      rw [em] at h
      simp only [R.st] at h
      intro v H1 β1 t L1 r1
      obtain ⟨a', p1, p2, oA, w1, w2⟩ := L1.bV i _ es
      have ea : a' = a := by rw [o1] at p1; injection p1 with z; exact z.symm
      subst ea
      cases ev : bu S1 d with
      | none => rw [ev] at h; exact h.elim
      | some zs =>
      rw [ev] at h
      simp only at h
      obtain ⟨b, ws, rfl, z1, z2⟩ := r1.bu L1.st ev
      by_cases hl : xs.length + zs.length ≤ sizeLine
      ·rw [if_pos hl] at h
       have hP := (L1.own i a' p1).1
       have nt : ∀ xs, ¬ Rd H1 a' (.tup xs) := fun xs z => by
        rcases z with z | ⟨o, z⟩ <;> (rw [w1] at z; cases z)
       have new : cP (aj X) (upd H1 a' (.lst (oA ++ ws))) P β1 a' (.lst (xs ++ zs)) := ⟨_, upd_same, (w2.append z2).set (.inl hP) nt⟩
       refine ⟨a', b, oA, ws, rfl, rfl, w1, z1, by rw [w2.length, z2.length]; exact hl, ?_⟩
       exact h σ _ β1 oa P (L1.NB p1 p2 (List.getElem?_eq_some_iff.mp es).1 nt new) ((Fx.of t.ext).trans (Fx.own hP nt fun o u z => by rw [w1] at z; cases z))
      ·rw [if_neg hl] at h; exact h.elim
    | _ => exact (show False from h).elim
   | sh dx =>
    cases dx with
    | ref n =>
     simp only at h
     cases eS : S[n]? with
     | none => rw [eS] at h; exact h.elim
     | some so =>
      rw [eS] at h
      cases so with
      | lst xs0 =>
       obtain ⟨v0, q1, q2⟩ := L.slot i _ es
       cases q2 with
       | ref hn =>
        obtain ⟨us, w1, w2⟩ := L.st.ok _ _ _ hn eS
        refine go q1 (.inl (.inl w1)) ⟨cf, oa, P, β, ρ, S, L, ?_⟩
        simp only at h
        cases em : me ρ S with
        | stuck => rw [em] at h; exact h
        | exc x S1 => rw [em] at h; exact jC h
        | ok d S1 =>
         rw [em] at h
         simp only [R.st] at h
         intro v H1 β1 t L1 r1
         have hn1 := t.ext.get hn
         cases vW : S1[n]? with
         | none => rw [vW] at h; exact h.elim
         | some so =>
          rw [vW] at h
          cases so with
          | lst xs =>
           simp only at h
           cases ev : bu S1 d with
           | none => rw [ev] at h; exact h.elim
           | some zs =>
           rw [ev] at h
           simp only at h
           obtain ⟨b, ws, rfl, y1, y2⟩ := r1.bu L1.st ev
           by_cases hl : xs.length + zs.length ≤ sizeLine
           ·rw [if_pos hl] at h
            obtain ⟨oA, z1, z2⟩ := L1.st.ok _ _ _ hn1 vW
            have m := List.mem_of_getElem? hn1
            have nt := L1.st.pH m
            have new : bG (aj X) (upd H1 _ (.lst (oA ++ ws))) P β1 _ (.lst (xs ++ zs)) := ⟨_, upd_same, (z2.append y2).set (.inr m) nt⟩
            refine ⟨_, b, oA, ws, rfl, rfl, z1, y1, by rw [z2.length, y2.length]; exact hl, ?_⟩
            have hf : ∀ o u, H1 _ ≠ some (.frz o u) := fun o u z => by rw [z1] at z; cases z
            exact h σ _ β1 oa P (L1.wrote hn1 new hf) ((Fx.of t.ext).trans (Fx.of (Ext.wrote m nt hf)))
           ·rw [if_neg hl] at h; exact h.elim
          | _ => exact (show False from h).elim
      | _ => exact (show False from h).elim
    | _ => exact (show False from h).elim
end
section
variable {P : Program} {w : World} {K : PySem.W.Frag} {mg : Str → Option Value} {base : Heap}
/-- __init__(self, v1, v2): B.__init__(self, msg); self.f = v1; self.g = v2 -/
theorem a1q {x qual f g v1 v2 : Str} {st : Stmt} {fa Ca : Addr} {fd : FuncData} {k : Nat} {msg : EX} {s1 s2 s3 : Stmt} (F : Fun K x qual st fa fd) (S : FnScope ["self", v1, v2] ["self", v1, v2] (defScope st)) (O : OexC K Ca) (hf : PySem.W.findIn K (.ref Ca) f = some none) (hg' : PySem.W.findIn K (.ref Ca) g = some none) (hst : defBody st = [s1, s2, s3])
  (h1 : ∀ (cdv : Value) (A : Around) (outer : List Env) (s : Shared) (H : Hp) (E : XK), (iJ P w K mg base ["self", v1, v2] qual st fa cdv A outer s H E).A.guards = some [] → Room k (iJ P w K mg base ["self", v1, v2] qual st fa cdv A outer s H E).A →
   PS (iJ P w K mg base ["self", v1, v2] qual st fa cdv A outer s H E) s1 (tDrop (tVeI K (tCons (tVar 0) (tCons (EM ⟨K, mg, w, []⟩ rQ true msg) tNil)))) ∧
   PS (iJ P w K mg base ["self", v1, v2] qual st fa cdv A outer s H E) s2 (tOst K f (tVar 0) (tVar 1)) ∧
   PS (iJ P w K mg base ["self", v1, v2] qual st fa cdv A outer s H E) s3 (tOst K g (tVar 0) (tVar 2))) : cQ P w K mg base (k + 1) fa fd ["self", v1, v2] (spI ⟨K, mg, w, []⟩ Ca 2 msg [f, g]) := by
 refine Gj F S (fun vs H Q E ⟨a, ws, e, hl, _⟩ => by rw [e]; simp [hl]) fun cdv A outer s H vs Q E hg hr h => ?_
 obtain ⟨p1, p2, p3⟩ := h1 cdv A outer s H E hg hr
 rw [hst]
 refine ⟨_, pss_cons p1 (pss_cons p2 (pss_cons p3 pss_nil)), ?_⟩
 obtain ⟨a, ws, rfl, hl, ea, Pf, β, ds, St, hs, hp, r, ⟨d, S', em⟩, q⟩ := h
 match ws, hl with
 | [y, z], _ =>
  have hN : (["self", v1, v2] : List Str).length = ds.length + 1 := by rw [← r.length]; rfl
  refine ⟨.ref a, rfl, ⟨H, β, Pf, []⟩, _, Pf, β, _, St, LR.Qz hs hp r hN, ?_⟩
  rw [em]
  intro m H1 β1 t1 L1 rm
  have sm := (t1.ro rfl).1
  refine ⟨a, Ca, [m], rfl, by simp, O, sm _ _ ea, ?_⟩
  refine ⟨y, rfl, .ref a, rfl, a, Ca, rfl, O, hf, .inl ⟨sm _ _ ea, fun dx hn hne => ?_⟩⟩
  refine ⟨z, rfl, .ref a, rfl, a, Ca, rfl, O, hg', .inr ⟨dx, [(f, y)], upd_same, by rw [upd_ne hne]; exact upd_same, by simp, ?_⟩⟩
  have e := q H1 dx sm hn hne
  have eh : upd (upd (upd H1 dx (exd dx [(f, y)])) a (exo a Ca (some dx))) dx (exd dx [(g, z), (f, y)]) = upd (upd H1 dx (exd dx (([f, g] : List Str).zip [y, z]).reverse)) a (exo a Ca (some dx)) := by
   funext b
   by_cases b1 : b = dx
   ·subst b1
    rw [upd_same, upd_ne hne, upd_same]
    rfl
   ·rw [upd_ne b1]
    by_cases b2 : b = a
    ·subst b2; rw [upd_same, upd_same]
    ·rw [upd_ne b2, upd_ne b1, upd_ne b2, upd_ne b1]
  rw [eh]
  exact e
end
/-- the class c, made with two fields by its own __init__ st -/
structure S8 (K : PySem.W.Frag) (mg : Str → Option Value) (c qual : Str) (st : Stmt) (f g : Str) (Ca fI : Addr) (fd : FuncData) : Prop where
 m : mg c = some (.ref Ca)
 o : OexC K Ca
 i : PySem.W.findIn K (.ref Ca) "__init__" = some (some (.ref fI))
 t : PySem.W.typeIn K (.ref fI) = some (.type "function")
 f : PySem.W.findIn K (.ref Ca) f = some none
 g : PySem.W.findIn K (.ref Ca) g = some none
 F : Fun K "__init__" qual st fI fd
/-- the members, each at its first place -/
def iZ (acc : List Str) (x : Str) : List Str := if acc.contains x then acc else acc ++ [x]
def dst (xs : List Str) : List Str := xs.foldl iZ []
theorem a1r (xs : List Str) (x : Str) : dst (xs ++ [x]) = iZ (dst xs) x := by simp [dst, List.foldl_append]
theorem a1s (xs : List Str) {i : Nat} (h : i < xs.length) : dst (xs.take (i + 1)) = iZ (dst (xs.take i)) (xs.getD i Str.empty) := by
 rw [List.take_succ, List.getElem?_eq_getElem h]
 simp only [Option.toList]
 rw [a1r]
 congr 1
 simp [List.getD, List.getElem?_eq_getElem h]
theorem IG (acc : List Str) (x : Str) : (iZ acc x).length = if acc.contains x then acc.length else acc.length + 1 := by
 unfold iZ; split <;> simp
theorem a1t (acc : List Str) (x k : Str) : (iZ acc x).contains k = (acc.contains k || decide (k = x)) := by
 unfold iZ
 split
 ·rename_i h
  by_cases e : k = x
  ·subst e; rw [h]; rfl
  ·simp [e]
 ·by_cases e : k = x
  ·subst e; simp
  ·have : (k == x) = false := by simpa using e
   simp [e, List.contains_append, List.contains_cons, this]
theorem S9 (xs : List Str) : (dst xs).length ≤ xs.length := by
 have go : ∀ (ys acc : List Str), (ys.foldl iZ acc).length ≤ acc.length + ys.length := by
  intro ys
  induction ys with
  | nil => intro acc; simp
  | cons y ys ih =>
   intro acc
   rw [List.foldl_cons, List.length_cons]
   have := ih (iZ acc y)
   have h2 : (iZ acc y).length ≤ acc.length + 1 := by rw [IG]; split <;> omega
   omega
 have := go xs []
 unfold dst
 simpa using this
section
variable {prog : Program} {w : World} {A : Around} {R : Result → Shared → Prop} {I : Addr} {fp wr : List Addr} {G : Array GenState → Array GenState → Prop} {n : Nat} {P : Nat → Value → Prop} {St : Nat → Shared → Prop}
/-- the members so far -/
abbrev oN (prog : Program) (w : World) (h : Heap) (S : Addr) (xs : List Str) : Prop := h.SetOf (PySem.strKind prog w) S (fun k => (dst xs).contains k) (dst xs).length
theorem oN.heap {h h' : Heap} {S : Addr} {xs : List Str} (u : oN prog w h S xs) (e : ∀ o, h.get? S = some o → h'.get? S = some o) : oN prog w h' S xs :=
 let ⟨o, es, ep, t, ho, r⟩ := u; ⟨o, es, ep, t, e o ho, r⟩
theorem II (wk : WalksS prog w A.in1 I fp wr G n P St) {S : Addr} (hS : S ∉ fp) {xs : List Str} (hl : xs.length = n) (hb : n + 1 < scanBound) (hv : ∀ i v, P i v → ∃ t, v = .str (xs.getD i Str.empty) t) :
  ∀ (m i : Nat) (s : Shared), i + m = n → St i s → oN prog w s.heap S (xs.take i) → (∀ s', Moved (S :: wr) G s s' → oN prog w s'.heap S xs → R (.ok (.ret .none)) s') →
   codeAny (model prog w) A (.builtin "set.update.loop" ⟨[.ref S, .ref I], []⟩) R s
 | 0, i, s, hi, hst, u, hR => by
  have e : i = n := hi
  subst e
  refine codeAny_builtin PyProof.Rows.F.entry_set_update_loop ?_
  rw [Around.under_plainId PyProof.Rows.F.plain_set_update_loop _]
  refine wpAny_bind (wk.done s _ _ hst fun s' hm => ?_)
  refine wpAny_pure (hR s' (hm.mono fun b hb => List.mem_cons_of_mem _ hb) ?_)
  rw [← hl, List.take_length] at u
  exact u.heap fun o => hm.heap S o fun z => hS (wk.sub _ z)
 | m + 1, i, s, hi, hst, u, hR => by
  have lt : i < n := by omega
  refine codeAny_builtin PyProof.Rows.F.entry_set_update_loop ?_
  rw [Around.under_plainId PyProof.Rows.F.plain_set_update_loop _]
  refine wpAny_bind (wk.item i s _ _ lt hst fun v s1 hP hst1 hm => ?_)
  obtain ⟨t, rfl⟩ := hv i v hP
  have u1 : oN prog w s1.heap S (xs.take i) := u.heap fun o => hm.heap S o fun z => hS (wk.sub _ z)
  show wpAny _ A.in1 (holding [Value.str (xs.getD i Str.empty) t] (setAdd S (.str (xs.getD i Str.empty) t)) >>= _) _ _ s1
  refine wpAny_bind (wpAny_holding ?_)
  unfold setAdd
  refine wpAny_holding (wpAny_bind ((PySem.strKind prog w).pyHash (k := xs.getD i Str.empty) (strKind_is _ _ _ _) ?_))
  have room : (dst (xs.take i)).length + 1 < scanBound := by
   have := S9 (xs.take i)
   rw [List.length_take] at this
   omega
  refine wpAny_setAddHashed_of (knd := PySem.strKind prog w) (s := { s1 with toks := s1.toks + 1 }) (strKind_is _ _ _ _) rfl u1 room fun h2 sb u2 => ?_
  have u3 : oN prog w h2 S (xs.take (i + 1)) := by
   unfold oN
   rw [a1s xs (by omega)]
   exact SetOf_congr u2 (fun k => (a1t _ _ _).symm) (IG _ _).symm
  refine wpAny_pure ⟨plainId_quiet PyProof.Rows.F.plain_set_update_loop _, II wk hS hl hb hv m (i + 1) _ (by omega) (wk.frame _ s1 _ _ hst1 (Nat.le_succ _) fun b hb o e => ?_) u3 fun s2 hm2 uu => ?_⟩
  ·rw [sb.2 b fun z : b = S => hS (z ▸ hb)]; exact e
  ·refine hR s2 (Moved.trans wk.gtrans ((hm.mono fun b hb => List.mem_cons_of_mem _ hb).then_heap (Nat.le_succ _) fun b o hb e => ?_) hm2) uu
   rw [sb.2 b fun z : b = S => hb (z ▸ List.mem_cons_self)]; exact e
end
section
variable {prog : Program} {w : World} {A : Around} {E : Value → Shared → Prop} {s : Shared}
theorem Sd : ∀ {us : List Value} {xs : List Str}, StrsAre us xs → ∀ {i : Nat} {v : Value}, us[i]? = some v → ∃ t, v = .str (xs.getD i Str.empty) t
 | _, _, .nil, i, v, h => by simp at h
 | _, _, .cons x t r, 0, v, h => ⟨t, by simpa using h.symm⟩
 | _, _, .cons x t r, i + 1, v, h => by
  rw [List.getElem?_cons_succ] at h
  obtain ⟨t', e⟩ := Sd r h
  exact ⟨t', by rw [e]; simp⟩
/-- a new b2e object -/
abbrev set0 (led : Bool) : Obj := { cls := .type "set", dict := none, data := .set #[] 0 (.fresh 0 0 led) }
abbrev DF (s : Shared) (led : Bool) : Shared := { s with heap := s.heap.push (set0 led) }
set_option maxHeartbeats 3200000 in
theorem a1u {a : Value} {Fin : Shared → Prop} {Q : Value → Shared → Prop} (hh : A.handled = none)
  (body : ∀ (led : Bool) (A' : Around), A'.handled = none → wpAny (model prog w) A' (Builtin.«set.__init__» ⟨[.ref s.heap.objs.size, a], []⟩) (fun fin s' => ∃ v, fin = .done (.ret v) ∧ v = .none ∧ Fin s') (fun _ _ => False) (DF s led))
  (h : ∀ s', Fin s' → Q (.ref s.heap.objs.size) s') : wpAny (model prog w) A (call (.type "set") [a]) Q E s := by
 obtain ⟨c, tl, hmro⟩ := PySem.F.called_set.mro
 have hmade := PySem.F.called_set.made
 have hsub := PySem.F.called_set.sub
 have h1 := PySem.F.called_set.notType
 have h2 := PySem.F.called_set.canCreate
 have hct := PySem.F.typeCall_set_1 a
 refine wpAny_call (codeAny_of_tree ?_)
 show wpAny _ _ (callAny (.type "set") _) _ _ _
 refine wpAny_pure ⟨Code.quiet_builtin _ (by decide +kernel), codeAny_builtin PySem.F.entry_type_call ?_⟩
 rw [Around.under_plain (weight_type_call_type "set" [a] []) rfl]
 repeat (any_goals (first | assumption | wp_step))
 refine codeAny_mono (code_set_new_1 a (E := E) (Q₁ := fun obj s₁ => ∃ led : Bool, obj = .ref s.heap.objs.size ∧ s₁ = DF s led) fun led => ⟨led, rfl, rfl⟩) fun r s₁ hr => ?_
 match r, hr with
 | .error e, hr => exact hr
 | .ok .next, hr => exact hr.elim
 | .ok .brk, hr => exact hr.elim
 | .ok .cont, hr => exact hr.elim
 | .ok (.ret obj), hr =>
  obtain ⟨led, rfl, rfl⟩ := hr
  have hT : Shared.TypeIs (DF s led) (.ref s.heap.objs.size) "set" := ⟨_, Heap.get?_push_size _ rfl, rfl⟩
  have hli := PySem.F.called_set.init.lookup
  have hbi := PySem.F.called_set.init.bind (.ref s.heap.objs.size)
  repeat (any_goals (first | assumption | wp_step))
  refine codeAny_mono (codeAny_call_builtin (R := wants (fun v s₂ => v = .none ∧ Fin s₂) E) PySem.F.called_set.init.plain PySem.F.entry_set_init (check_set_init_1 hT ?_)) fun r₂ s₂ hr₂ => ?_
  ·refine wpAny_mono (body led A.in1.in1 (by simp [hh])) (fun fin s' ⟨v, e1, e2, hf⟩ => ?_) (fun _ _ z => z.elim)
   subst e1 e2
   exact ⟨rfl, hf⟩
  ·match r₂, hr₂ with
   | .error e, hr₂ => exact hr₂
   | .ok .next, hr₂ => exact hr₂.elim
   | .ok .brk, hr₂ => exact hr₂.elim
   | .ok .cont, hr₂ => exact hr₂.elim
   | .ok (.ret v), hr₂ =>
    obtain ⟨rfl, hf⟩ := hr₂
    repeat (any_goals (first | assumption | wp_step))
    exact h _ hf
/-- set.__init__(new set, xs), xs a list or tuple of texts -/
theorem a1v {l : Addr} {items : Array Value} {xs : List Str} {led : Bool} {A : Around} (hh : A.handled = none) (hl : s.heap.IsList l items ∨ s.heap.IsTuple l items) (hi : StrsAre items.toList xs) (hb : xs.length + 1 < scanBound) :
  wpAny (model prog w) A (Builtin.«set.__init__» ⟨[.ref s.heap.objs.size, .ref l], []⟩) (fun fin s' => ∃ v, fin = .done (.ret v) ∧ v = .none ∧ ∃ h' tk, s' = { s with heap := h', toks := tk } ∧ oN prog w h' s.heap.objs.size xs ∧ ∀ b o, b < s.heap.objs.size → s.heap.get? b = some o → h'.get? b = some o) (fun _ _ => False) (DF s led) := by
 have hsz : xs.length = items.size := by rw [← StrsAre.len_eq hi, Array.length_toList]
 rcases hl with hl | hl
 all_goals
  obtain ⟨⟨ocls, odict, odata, oslots⟩, hol, hcl, nl, hdl⟩ := hl
  simp only at hcl hdl
  subst hcl hdl
  unfold Builtin.«set.__init__» noKeywords Builtin.Frozenset.updateFrom
  generalize hPI : pyIter = PI
  have hg := Heap.get?_push_of_some (set0 led) hol
  have f1 := PySem.F.sub_list_set
  have f2 := PySem.F.sub_list_frozenset
  have f3 := PySem.F.sub_tuple_set
  have f4 := PySem.F.sub_tuple_frozenset
  wp_walk
  subst hPI
  have lS : l < s.heap.objs.size := Heap.lt_size hol
  have ns : (s.heap.push (set0 led)).objs.size = s.heap.objs.size + 1 := Heap.size_push ..
  have hne : l ≠ (s.heap.push (set0 led)).objs.size := fun z => by
   rw [ns] at z
   exact absurd z (Nat.ne_of_lt (Nat.lt_succ_of_lt lS))
  have hSf : s.heap.objs.size ∉ [(s.heap.push (set0 led)).objs.size, l] := fun z => by
   rw [ns, List.mem_cons, List.mem_singleton] at z
   rcases z with z | z
   ·exact absurd z (Nat.ne_of_lt (Nat.lt_succ_self _))
   ·exact absurd z.symm (Nat.ne_of_lt lS)
  have hv : ∀ (i : Nat) (v : Value), items[i]? = some v → ∃ t, v = .str (xs.getD i Str.empty) t := fun i v hv => Sd hi (by rw [Array.getElem?_toList]; exact hv)
  have h3 : A.in1.handled = none := by simp [hh]
  have hS0 : (s.heap.push (set0 led)).get? s.heap.objs.size = some (set0 led) := Heap.get?_push_size _ rfl
 ·have hl1 : (s.heap.push (set0 led)).IsList l items := ⟨_, hg, rfl, nl, rfl⟩
  refine wpAny_pyIter_list hl1 (wpAny_bind (wpAny_runValue ?_))
  refine II ((Walks.list h3 _ l hne items).toS) hSf hsz (by omega) hv items.size 0 _ (by omega) ⟨⟨_, Heap.get?_push_size _ rfl, rfl, rfl⟩, hl1.push _⟩ ?_ fun s' hm u => ?_
  ·exact SetOf_congr ((setObjOf_fresh (knd := PySem.strKind prog w) led).setOf (Heap.get?_push_of_some _ hS0) (by unfold scanBound; omega)) (fun _ => rfl) rfl
  ·obtain ⟨h', g', d', tk', os'⟩ := s'
   obtain rfl : g' = s.gens := hm.gens
   obtain rfl : d' = s.drawn := hm.drawn
   obtain rfl : os' = s.os := hm.os
   show wpAny _ _ _ _ _ _
   refine wpAny_pure (wpAny_pure ⟨_, rfl, rfl, h', tk', rfl, u, fun b o hb e => hm.heap b o ?_ (Heap.get?_push_of_some _ (Heap.get?_push_of_some _ e))⟩)
   simp only [List.mem_cons, List.not_mem_nil, or_false, not_or]
   refine ⟨Nat.ne_of_lt hb, fun z => ?_⟩
   rw [ns] at z
   exact absurd z (Nat.ne_of_lt (Nat.lt_succ_of_lt hb))
 ·have hl1 : (s.heap.push (set0 led)).IsTuple l items := ⟨_, hg, rfl, nl, rfl⟩
  refine wpAny_pyIter_tuple hl1 (wpAny_bind (wpAny_runValue ?_))
  refine II ((Walks.tuple h3 _ l hne items).toS) hSf hsz (by omega) hv items.size 0 _ (by omega) ⟨⟨_, Heap.get?_push_size _ rfl, rfl, rfl⟩, hl1.push _⟩ ?_ fun s' hm u => ?_
  ·exact SetOf_congr ((setObjOf_fresh (knd := PySem.strKind prog w) led).setOf (Heap.get?_push_of_some _ hS0) (by unfold scanBound; omega)) (fun _ => rfl) rfl
  ·obtain ⟨h', g', d', tk', os'⟩ := s'
   obtain rfl : g' = s.gens := hm.gens
   obtain rfl : d' = s.drawn := hm.drawn
   obtain rfl : os' = s.os := hm.os
   show wpAny _ _ _ _ _ _
   refine wpAny_pure (wpAny_pure ⟨_, rfl, rfl, h', tk', rfl, u, fun b o hb e => hm.heap b o ?_ (Heap.get?_push_of_some _ (Heap.get?_push_of_some _ e))⟩)
   simp only [List.mem_cons, List.not_mem_nil, or_false, not_or]
   refine ⟨Nat.ne_of_lt hb, fun z => ?_⟩
   rw [ns] at z
   exact absurd z (Nat.ne_of_lt (Nat.lt_succ_of_lt hb))
theorem Sh {l : Addr} {items : Array Value} {xs : List Str} {Q : Value → Shared → Prop} (hh : A.handled = none) (hl : s.heap.IsList l items ∨ s.heap.IsTuple l items) (hi : StrsAre items.toList xs) (hb : xs.length + 1 < scanBound)
  (h : ∀ (h' : Heap) (tk : Nat), oN prog w h' s.heap.objs.size xs → (∀ b o, b < s.heap.objs.size → s.heap.get? b = some o → h'.get? b = some o) → Q (.ref s.heap.objs.size) { s with heap := h', toks := tk }) :
  wpAny (model prog w) A (call (.type "set") [.ref l]) Q E s :=
 a1u hh (fun led A' hh' => a1v hh' hl hi hb) fun s' ⟨h', tk, e, u, k⟩ => by subst e; exact h h' tk u k
end
/-- what is known of the built-in class B -/
structure wF (B newId initId : String) (tl : List Value) : Prop where
 eb : ExcBaseFacts B newId initId tl
 sf : StoreFacts B tl "object.__setattr__" "object"
 ty : typeOf (.type B) = pure (.type "type")
 st : Manifest.isStub B = false
 fc : ∀ K : PySem.W.Frag, PySem.W.findCls K (.type B) (.type "type") "__init__" = some (.val (.builtin initId))
 hd : PySem.W.handedIn (.builtin initId) = true
/-- what the written part says of an own class over it -/
structure sG (K : PySem.W.Frag) (newId : String) (tl : List Value) (C : Addr) : Prop where
 cls : ∃ nm q N bs bm sn sub ab col dd k0 k1 k2 k3 k5, K.lookup C = some (excClassObj nm q C N bs bm true sn sub ab col dd k0 k1 k2 k3 k5 newId) ∧ PySem.W.excTail tl bm = true
 sa : PySem.W.findIn K (.ref C) "__setattr__" = some (some (.builtin "object.__setattr__"))
 exC : PySem.W.subIn K (.ref C) (.type "BaseException") = some true
 tyC : PySem.W.typeIn K (.ref C) = some (.type "type")
 kC : PySem.W.keepIn K (.ref C) = true
section
variable {prog : Program} {w : World} {A : Around} {R : Result → Shared → Prop} {hp : Heap} {g : Array GenState} {d : Drawn} {t : Nat} {os : OsState} {B : String} {tl : List Value}
/-- the first field of an exception -/
theorem a1x {K : PySem.W.Frag} {name : Str} {tk : Tok} {v : Value} {x C : Addr} {fv : Array Value} {cd : ClassData} {bm : List Value} (SF : StoreFacts B tl "object.__setattr__" "object") (X : K.In hp) (hx : hp.get? x = some { cls := .ref C, data := .fields fv })
  (hcd : PySem.W.clsIn K C = some cd) (hm : cd.mro = .ref C :: bm) (ht : PySem.W.excTail tl bm = true) (hh : cd.hasDict = true) (ha : PySem.W.findIn K (.ref C) name = some none)
  (hq : ∀ h' tk' dx, (∀ b o, b ≠ x → hp.get? b = some o → h'.get? b = some o) → hp.objs.size ≤ dx → dx ≠ x → h'.get? x = some { cls := .ref C, dict := some dx, data := .fields fv } →
   h'.Ns1 dx (fun y => if y = name then some v else none) → R (.ok (.ret .none)) ⟨h', g, d, tk', os⟩) :
  codeAny (model prog w) A (.call (.builtin "object.__setattr__") ⟨[.ref x, .str name tk, v], []⟩) R ⟨hp, g, d, t, os⟩ := by
 have J : PySem.W.InstAt hp x { cls := .ref C, data := .fields fv } C none := ⟨hx, rfl, rfl, trivial⟩
 have hcls : PySem.W.Looks (model prog w) hp (classData C) cd := PySem.W.looks_clsIn X hcd
 have ne : x ≠ hp.objs.size := Nat.ne_of_lt (Heap.lt_size hx)
 refine PySem.W.osa_openX (s := ⟨hp, g, d, t, os⟩) SF X J (by unfold PySem.W.excOver; rw [hcd]; simp [hm, ht]) (r := none) (by unfold PySem.W.takerIn; rw [ha]; rfl) fun b => ?_
 simp only
 obtain ⟨nm, bs, mro, ns, qn, hd, sn, sb, ab, col, del⟩ := cd
 dsimp only at hh
 subst hh
 unfold Builtin.ObjectAttr.storeInOwnDict Builtin.ObjectAttr.ownDictForStores
 repeat (first | with_reducible refine PySem.HandSPX.store_in_new ?_ ?_ | with_reducible refine wpAny_loadPart_at hx ?_ | with_reducible refine hcls.at ?_ | wp_step)
 ·exact ⟨_, #[], _, (Heap.get?_update_ne _ _ _ _ ne.symm).trans (Heap.get?_push_at rfl rfl), rfl, fun e he => absurd he (by simp), fun _ => rfl⟩
 ·intro h' tk' hn' hs
  have hx1 : (hp.push { cls := .type "dict", data := .dict #[] }).get? x = some { cls := .ref C, data := .fields fv } := Heap.get?_push_of_some _ hx
  refine hq h' tk' hp.objs.size (fun b o hb ho => ?_) (Nat.le_refl _) ne.symm ?_ hn'
  ·exact (hs.2 b (Nat.ne_of_lt (Heap.lt_size ho))).trans ((Heap.get?_update_ne _ _ _ _ hb).trans (Heap.get?_push_of_some _ ho))
  ·exact (hs.2 x ne).trans (Heap.get?_update_self _ hx1 rfl)
end
section
variable {X : Cx} {pins : List (Addr × Obj)} {σ : L2.St} {H : Hp} {s : Shared} {a C : Addr} {f : Str} {y : V} {u : Value} {B newId initId : String} {tl : List Value} {E : Value → Shared → Prop} {A : Around}
theorem a1y {Q : Unit → Shared → Prop} (RF : wF B newId initId tl) (T : sG X.K newId tl C) (I : Inv X pins σ H s) (e : H a = some (exo a C none)) (hno : PySem.W.findIn X.K (.ref C) f = some none) (ry : RelV y u)
  (h : ∀ dx s', H dx = none → dx ≠ a → Inv X pins σ (upd (upd H dx (exd dx [(f, y)])) a (exo a C (some dx))) s' → Q () s') : wpAny (model X.prog X.w) A (setAttr (.ref a) f u) Q E s := by
 obtain ⟨nm, q, N, bs, bm, sn, sub, ab, col, dd, k0, k1, k2, k3, k5, hC, hbm⟩ := T.cls
 have hcl : PySem.W.clsIn X.K C = some { name := nm, bases := bs, mro := .ref C :: bm, ns := N, qualname := q, hasDict := true, slotNames := sn, subclasses := sub, abstract := ab, collection := col, hasDel := false } := by unfold PySem.W.clsIn; rw [hC] <;> rfl
 obtain ⟨t1, ho⟩ := exo_at I.hok e
 obtain ⟨hp, g, d, t, os⟩ := s
 refine PySem.W.set_plain I.kIn (ox := { cls := .ref C, dict := none, data := .fields #[.ref t1, .none, .none, .none, .bool false, .none] }) (od := none) ⟨ho, rfl, rfl, trivial⟩ T.sa ?_
 refine a1x RF.sf I.kIn ho hcl rfl hbm rfl hno (fun h' tk' dx k dn dne hx hn => ?_)
 have hnd : H dx = none := I.hok.fresh dn
 have nd : ∀ {b : Addr} {o : Obj}, hp.get? b = some o → b ≠ dx := fun {b o} q => Nat.ne_of_lt (Nat.lt_of_lt_of_le (Heap.lt_size q) dn)
 have na : ∀ {b : Addr}, H b = none → b ≠ a := fun {b} n z => by rw [z, e] at n; cases n
 have U : Un X.fs [] H (upd (upd H dx (exd dx [(f, y)])) a (exo a C (some dx))) hp h' := {
  keep := fun b o q n _ _ => k b o (na n) q
  slot := fun b o q n _ _ => ⟨o.slots, k b o (na n) q⟩
  free := fun b o q n _ => by rw [upd_ne (na n), upd_ne (nd q)]; exact n
  there := fun b o q _ => by
   by_cases hb : b = a
   ·subst hb; exact ⟨_, hx⟩
   ·exact ⟨o, k b o hb q⟩
  tups := fun b xs q => by rw [upd_ne (at_ne e q exo_tup), upd_ne (ne_of_none q hnd)]; exact q
  frzs := fun b o v q => by rw [upd_ne (at_ne e q exo_frz), upd_ne (ne_of_none q hnd)]; exact q
  tbls := fun b ps q => ⟨#[], by rw [upd_ne (at_ne e q exo_tbl), upd_ne (ne_of_none q hnd), q]; simp⟩ }
 refine h dx _ hnd dne (I.un (t' := tk') U fun b o q => ?_)
 by_cases hb : b = a
 ·subst hb
  rw [upd_same] at q
  cases q
  exact exo_ok hx
 ·rw [upd_ne hb] at q
  by_cases hd : b = dx
  ·subst hd
   rw [upd_same] at q
   cases q
   exact exd_ok hn (relO_put (fs := []) ry fun g => True.intro)
  ·rw [upd_ne hd] at q
   exact (I.hok b o q).stay (fun c v hc z => k c v (hc.elim (fun hc => hc ▸ hb) fun hc => at_ne e hc exo_own) z)
    (fun c hc => by rw [upd_ne (at_ne e hc exo_own), upd_ne (ne_of_none hc hnd)]; exact hc) (fun c xs hc => by rw [upd_ne (at_ne e hc exo_tup), upd_ne (ne_of_none hc hnd)]; exact hc)
theorem a1z {us : List Value} {Q : Value → Shared → Prop} (RF : wF B newId initId tl) (T : sG X.K newId tl C) (I : Inv X pins σ H s) (e : H a = some (exo a C none)) (hl : us.length ≤ sizeLine) (h : ∀ s', Inv X pins σ H s' → Q .none s') :
  wpAny (model X.prog X.w) A (call (.builtin initId) (.ref a :: us)) Q E s := by
 obtain ⟨nm, q, N, bs, bm, sn, sub, ab, col, dd, k0, k1, k2, k3, k5, hC, hbm⟩ := T.cls
 obtain ⟨t1, ho⟩ := exo_at I.hok e
 obtain ⟨hp, g, d, t, os⟩ := s
 refine wpAny_call (PySem.HandSPX.init_base RF.eb (fun Y => PySem.W.excTail_contains Y bm hbm) (I.kIn _ _ hC) ho hl fun h' t2 k hx => ?_)
 have J := I.write (t' := t) (x := a) (e := a) (o := exo a C none) (by rw [e]; exact True.intro) (.inl rfl) k ⟨_, hx⟩ (exo_ok hx)
 have eu : upd H a (exo a C none) = H := funext fun b => if hb : b = a then by rw [hb, upd_same, e] else upd_ne hb
 rw [eu] at J
 exact h _ J
end
/-- B.__init__(self, ..) -/
def Sq (K : PySem.W.Frag) (newId : String) (tl : List Value) (ta : TA) : TE := fun σ H Q => ta σ H fun vs H1 => ∃ (a C : Addr) (ws : List V), vs = .ref a :: ws ∧ ws.length ≤ 1000 ∧ sG K newId tl C ∧ H1 a = some (exo a C none) ∧ Q .non H1
/-- self.f = e, the first field -/
def Ss (K : PySem.W.Frag) (newId : String) (tl : List Value) (f : Str) (to te : TE) : TS := fun D σ H => te σ H fun y H1 => to σ H1 fun x H2 => ∃ a C : Addr, x = .ref a ∧ sG K newId tl C ∧ PySem.W.findIn K (.ref C) f = some none ∧
 H2 a = some (exo a C none) ∧ ∀ dx, H2 dx = none → dx ≠ a → D.nx σ (upd (upd H2 dx (exd dx [(f, y)])) a (exo a C (some dx)))
section
variable {X : Cx} {o e : Expr} {es : List Expr} {to te : TE} {ta : TA} {f x : Str} {p' p1 p2 pos : Pos} {B newId initId : String} {tl : List Value}
theorem a1A (RF : wF B newId initId tl) (ho : PE X o to) (he : PE X e te) (hs : swapsWith e (some (.Attribute o f p')) pos.line X.env = pure false := by rfl) : PS X (.Assign [.Attribute o f p'] e pos) (Ss X.K newId tl f to te) := by
 refine ⟨fun pins s σ H D I h => ?_⟩
 refine plainObj_wpAny_Assign_Attribute (thn (he.run pins s σ H _ I h) fun v s1 ⟨y, H1, I1, r1, q1⟩ => thn (ho.run pins s1 σ H1 _ I1 q1) fun u s2 ⟨x, H2, I2, r2, a, C, ex, T, hno, ea, q⟩ => ?_) hs
 subst ex
 obtain rfl : u = Value.ref a := r2
 exact a1y RF T I2 ea hno r1 fun dx s' n ne J => ⟨σ, _, J, q dx n ne⟩
theorem a1B {pl : Sem Bool} (RF : wF B newId initId tl) (hg : Gl X x) (hm : X.mg x = none) (hv : bootBuiltins x = some (.type B)) (ha : PA X (e :: es) ta) (hn : x ≠ "__name__" := by decide) (hdb : (x == ("__debug__" : Str)) = false := by decide)
  (hc : eval (.Call (.Attribute (.Name x p1) "__init__" p2) (e :: es) [] pos) X.env = (do
   let ov ← eval (.Name x p1) X.env
   standAt p2.atName
   let (f, first) ← holding [ov] (getMethod ov "__init__" pl)
   callWith pos f first (backTo pos (starEach (e :: es) X.env)) (backToKw pos (keywordEach [] X.env))) := by rfl)
  (he : starEach (e :: es) X.env = (false, eval e X.env) :: starEach es X.env := by rfl) (hpl : (backTo pos (starEach es X.env)).any (·.1) = false := by rfl) :
  PE X (.Call (.Attribute (.Name x p1) "__init__" p2) (e :: es) [] pos) (Sq X.K newId tl ta) := by
 refine ⟨fun pins s σ H Q I h => ?_⟩
 refine PySem.W.methodCall_KW (ld_blt I hg hm hv ?_ hn hdb) hc
 obtain ⟨m, fr⟩ := I.fr
 refine PySem.W.method_type fr I.ok.mod.kin RF.ty RF.st (RF.fc _) RF.hd ?_
 show wpAny _ _ (callWith pos (Value.builtin initId) [] (backTo pos (starEach (e :: es) X.env)) []) _ _ _
 refine PyProof.Rows.callWith_method1 (thn (ha.run pos pins _ σ H _ (I.tok _) h) fun us s1 ⟨vs, H1, I1, r1, a, C, ws, ev, hl, T, ea, q⟩ => ?_) he hpl
 subst ev
 cases r1 with
 | @cons _ u0 _ ur ra rw' =>
  obtain rfl : u0 = Value.ref a := ra
  have hlen : ur.length ≤ sizeLine := by rw [← Paired.length rw', sizeLine_eq]; omega
  exact a1z RF T I1 ea hlen fun s' J => ⟨.non, H1, J, rfl, q⟩
end
section
variable {P : Program} {w : World} {K : PySem.W.Frag} {mg : Str → Option Value} {base : Heap} {B newId : String} {tl : List Value}
/-- __init__(self, v): B.__init__(self, msg); self.f = v -/
theorem a1C {x qual f v : Str} {st : Stmt} {fa Ca : Addr} {fd : FuncData} {k : Nat} {msg : EX} {s1 s2 : Stmt} (F : Fun K x qual st fa fd) (S : FnScope ["self", v] ["self", v] (defScope st)) (O : sG K newId tl Ca) (hf : PySem.W.findIn K (.ref Ca) f = some none) (hst : defBody st = [s1, s2])
  (h1 : ∀ (cdv : Value) (A : Around) (outer : List Env) (s : Shared) (H : Hp) (E : XK), (iJ P w K mg base ["self", v] qual st fa cdv A outer s H E).A.guards = some [] → Room k (iJ P w K mg base ["self", v] qual st fa cdv A outer s H E).A →
   PS (iJ P w K mg base ["self", v] qual st fa cdv A outer s H E) s1 (tDrop (Sq K newId tl (tCons (tVar 0) (tCons (EM ⟨K, mg, w, []⟩ rQ true msg) tNil)))) ∧
   PS (iJ P w K mg base ["self", v] qual st fa cdv A outer s H E) s2 (Ss K newId tl f (tVar 0) (tVar 1))) : cQ P w K mg base (k + 1) fa fd ["self", v] (spI ⟨K, mg, w, []⟩ Ca 1 msg [f]) := by
 refine Gj F S (fun vs H Q E ⟨a, ws, e, hl, _⟩ => by rw [e]; simp [hl]) fun cdv A outer s H vs Q E hg hr h => ?_
 obtain ⟨p1, p2⟩ := h1 cdv A outer s H E hg hr
 rw [hst]
 refine ⟨_, pss_cons p1 (pss_cons p2 pss_nil), ?_⟩
 obtain ⟨a, ws, rfl, hl, ea, Pf, β, ds, St, hs, hp, r, ⟨d, S', em⟩, q⟩ := h
 match ws, hl with
 | [y], _ =>
  have hN : (["self", v] : List Str).length = ds.length + 1 := by rw [← r.length]; rfl
  refine ⟨.ref a, rfl, ⟨H, β, Pf, []⟩, _, Pf, β, _, St, LR.Qz hs hp r hN, ?_⟩
  rw [em]
  intro m H1 β1 t1 L1 rm
  have sm := (t1.ro rfl).1
  refine ⟨a, Ca, [m], rfl, by simp, O, sm _ _ ea, ?_⟩
  refine ⟨y, rfl, .ref a, rfl, a, Ca, rfl, O, hf, sm _ _ ea, fun dx hn hne => ?_⟩
  exact q H1 dx sm hn hne
end
section
variable {X : Cx} {W : WX} {e : Expr} {es : List Expr} {p pos pos' : Pos} {x : Str} {C fI : Addr} {k j : Nat} {fd : FuncData} {ps : List Str} {msg : EX} {fs : List Str} {ma : AX} {B newId initId : String} {tl : List Value}
theorem a1D {ta : TA} {sp : Sp} (RF : wF B newId initId tl) (T : sG X.K newId tl C) (iC : PySem.W.findIn X.K (.ref C) "__init__" = some (some (.ref fI))) (tI : PySem.W.typeIn X.K (.ref fI) = some (.type "function"))
  (F1 : cQ X.prog X.w X.K X.mg X.base k fI fd ps sp) (hgd : X.A.guards = some []) (hr : Room (k + 1) X.A) (hb : ∀ (s : Shared) (us : List Value), us.length = ps.length → BindsTo s fd ⟨us, []⟩ (ps.zip us)) (hm : X.mg x = some (.ref C)) (ha : PA X (e :: es) ta) (hg : Gl X x := by rfl)
  (hdb : (x == ("__debug__" : Str)) = false := by decide) (he : starEach (e :: es) X.env = (false, eval e X.env) :: starEach es X.env := by rfl) (hpl : (backTo pos (starEach es X.env)).any (·.1) = false := by rfl) :
  PMk X (.Call (.Name x p) (e :: es) [] pos) (tMkO C sp [] ta) := by
 intro pins s σ H Q I h
 obtain ⟨nm, q, N, bs, bm, sn, sub, ab, col, dd, k0, k1, k2, k3, k5, hC, hbm⟩ := T.cls
 refine wpAny_Call_Name_kw (ld_glob I hg hm ?_ hdb)
 refine PySem.W.callWith_K (h₀ := X.base) I.ok.mod.kin T.kC (thn (ha.run pos pins s σ H _ I h) fun us s1 ⟨vs, H1, I1, r1, hz, q1⟩ => ⟨I1.kIn, ?_⟩) he hpl
 show wpAny _ _ (call (.ref C) us) _ _ _
 obtain ⟨hp, g, dr, tk, os⟩ := s1
 have hsz : hp.objs.size ≤ hp.objs.size + 1 := Nat.le_succ _
 have hn : H1 (hp.objs.size + 1) = none := I1.hok.fresh hsz
 have hq := q1 (hp.objs.size + 1) hn
 rw [List.append_nil] at hq
 have kk : ∀ b o, hp.get? b = some o → ((hp.push (PySem.W.kdv_tup us)).push (PySem.HandSPX.excO C hp.objs.size)).get? b = some o := fun b o e => Heap.get?_push_of_some _ (Heap.get?_push_of_some _ e)
 have hget : ((hp.push (PySem.W.kdv_tup us)).push (PySem.HandSPX.excO C hp.objs.size)).get? (hp.objs.size + 1) = some (PySem.HandSPX.excO C hp.objs.size) := by heap_get
 have I2 : Inv X pins σ (upd H1 (hp.objs.size + 1) (exo (hp.objs.size + 1) C none)) ⟨(hp.push (PySem.W.kdv_tup us)).push (PySem.HandSPX.excO C hp.objs.size), g, dr, tk, os⟩ :=
  I1.laid (t' := tk) (a := hp.objs.size + 1) (o := exo (hp.objs.size + 1) C none) (h' := (hp.push (PySem.W.kdv_tup us)).push (PySem.HandSPX.excO C hp.objs.size)) kk hsz (exo_ok hget)
 have r2 : Vals (V.ref (hp.objs.size + 1) :: vs) (Value.ref (hp.objs.size + 1) :: us) := .cons rfl r1
 have hl : (Value.ref (hp.objs.size + 1) :: us).length = ps.length := by
  have e := r2.length
  rw [F1.len _ _ _ _ hq] at e
  exact e.symm
 have hus : us.length ≤ sizeLine := by rw [← Paired.length r1, sizeLine_eq]; omega
 refine wpAny_call (PySem.HandSPX.call_own RF.eb (fun Y => PySem.W.excTail_contains Y bm hbm) (I1.kIn _ _ hC) (PySem.W.looks_findIn I1.kIn iC) (fun self => PySem.W.bind_fn I1.kIn self tI) hus
  (codeAny_mono (F1.run _ X.stack _ _ ⟨Value.ref (hp.objs.size + 1) :: us, []⟩ (Value.ref (hp.objs.size + 1) :: us) _ _ (fun _ _ _ => False) (by show X.A.guards = some []; exact hgd) (hr.make C us []) (I2.env0.make C us []) (hb _ _ hl) r2 hq) fun r s' hq' => ?_))
 cases r with
 | error er => exact passL pins σ _ _ er s' I2 hq'
 | ok fl =>
  cases fl with
  | ret u =>
   obtain ⟨v, H2, os2, bare2, un2, hok2, rv, ev, d, fs, ea, ed, hd1, q2⟩ := hq'
   subst ev
   obtain ⟨h2, g2, d2, t2, os'⟩ := s'
   exact ⟨rv, mk_end (raises_own T.exC T.tyC) I1 hsz kk un2 hok2 os2 bare2 ea ed hd1 q2⟩
  | next => exact False.elim hq'
  | brk => exact False.elim hq'
  | cont => exact False.elim hq'
theorem a1E (RF : wF B newId initId tl) (hc : X.calm = true) (tk : Takes X W) (T : sG X.K newId tl C) (iC : PySem.W.findIn X.K (.ref C) "__init__" = some (some (.ref fI))) (tI : PySem.W.typeIn X.K (.ref fI) = some (.type "function"))
  (F1 : cQ X.prog X.w X.K X.mg X.base k fI fd ps (spI ⟨X.K, X.mg, X.w, []⟩ C fs.length msg fs)) (hgd : X.A.guards = some []) (hr : Room j X.A) (hkj : k + 1 ≤ j) (hb : ∀ (s : Shared) (us : List Value), us.length = ps.length → BindsTo s fd ⟨us, []⟩ (ps.zip us)) (hm : X.mg x = some (.ref C)) (ha : j6 (aj X) W false X (e :: es) ma)
  (hfn : fs.Nodup := by decide) (hfl : fs.length ≤ 1000 := by decide) (hg : Gl X x := by rfl) (hdb : (x == ("__debug__" : Str)) = false := by decide) (he : starEach (e :: es) X.env = (false, eval e X.env) :: starEach es X.env := by rfl) (hpl : (backTo pos (starEach es X.env)).any (·.1) = false := by rfl) :
  fL (aj X) W X (.Raise (some (.Call (.Name x p) (e :: es) [] pos)) none pos') (jo x fs msg ma) :=
 QC hc tk hm (a1D RF T iC tI F1 hgd (hr.mono hkj) hb hm ha hg hdb he hpl) hfn hfl
end
section
variable {K : PySem.W.Frag}
theorem IJ : wF "LookupError" "LookupError.__new__" "LookupError.__init__" [.type "LookupError", .type "Exception", .type "BaseException", .type "object"] where
 eb := PySem.F.excBase_LookupError
 sf := PySem.F.store_LookupError
 ty := by kernel_rfl
 st := by decide +kernel
 fc := fun K => by kernel_rfl
 hd := by decide +kernel
abbrev a1F : List Value := [.type "LookupError", .type "Exception", .type "BaseException", .type "object"]
/-- the class c over a built-in one, made with one field f by its own __init__ st -/
structure a1G (K : PySem.W.Frag) (mg : Str → Option Value) (newId : String) (tl : List Value) (c qual : Str) (st : Stmt) (f : Str) (Ca fI : Addr) (fd : FuncData) : Prop where
 m : mg c = some (.ref Ca)
 o : sG K newId tl Ca
 i : PySem.W.findIn K (.ref Ca) "__init__" = some (some (.ref fI))
 t : PySem.W.typeIn K (.ref fI) = some (.type "function")
 f : PySem.W.findIn K (.ref Ca) f = some none
 F : Fun K "__init__" qual st fI fd
abbrev Sv (K : PySem.W.Frag) (mg : Str → Option Value) := a1G K mg "LookupError.__new__" a1F
end
/-- what the clauses wish of an exception of the body -/
def AV (K : PySem.W.Frag) (Wout : WX) (D : Ends) : List (Value × Option Nat × (Addr → Value → Option Addr → TS)) → WX
 | [] => Wout
 | (c, oi, ts) :: r => fun cls d σ H => ∃ b, PySem.W.exmOne K cls c = some b ∧ (b = true → ∀ a, H a = none → match oi with
     | none => ts a cls d D σ H
     | some i => ts a cls d { nx := fun σ' H' => D.nx (σ'.set i none) H', rt := D.rt, bk := fun σ' H' => D.bk (σ'.set i none) H', ct := fun σ' H' => D.ct (σ'.set i none) H' } (σ.set i (some (.ref a))) H) ∧ (b = false → AV K Wout D r cls d σ H)
def Sy (X : Cx) : Option Str → Option Nat → Prop
 | none, none => True
 | some n, some i => X.N.Nodup ∧ X.N[i]? = some n ∧ X.env.kindOf n = some .local
 | _, _ => False
inductive yP (X : Cx) : List ExceptHandler → List (Value × Option Nat × (Addr → Value → Option Addr → TS)) → Prop
 | nil : yP X [] []
 | cons {x : Str} {c : Value} {on : Option Str} {oi : Option Nat} {ts : Addr → Value → Option Addr → TS} {b₀ : Stmt} {suite : List Stmt} {np pos' : Pos} {hds : List ExceptHandler} {l : List (Value × Option Nat × (Addr → Value → Option Addr → TS))} (hc : Names X x c) (hn : Sy X on oi)
   (hsu : ∀ (a : Addr) (oe : Obj) (cls : Value) (d : Option Addr) (pn : List (Addr × Obj)), Zc cls d oe → (∃ vs, oe.data = .fields vs) → PSs (X.suite a ((a, oe) :: pn)) (b₀ :: suite) (ts a cls d)) (r : yP X hds l) :
   yP X (.ExceptHandler (some (.Name x np)) on (b₀ :: suite) pos' :: hds) ((c, oi, ts) :: l)
section
variable {X : Cx} {body : List Stmt} {h₀ : ExceptHandler} {hds : List ExceptHandler} {l : List (Value × Option Nat × (Addr → Value → Option Addr → TS))} {pos : Pos} {tb : WX → TS} {Wout : WX}
theorem a1H (hs : X.stack = X.env :: X.outer) (hf : X.env.frame = some X.env.locals) (tk : Takes X Wout)
  (hb : ∀ (W : WX) (pn : List (Addr × Obj)) (xe : Value → Shared → Prop), Takes (X.tr pn xe) W → PassesOwn (model X.prog X.w) X.A X.env xe → PSs (X.tr pn xe) body (tb W))
  (hh : yP X (h₀ :: hds) l) : PS X (.Try body (h₀ :: hds) [] [] pos) (fun D σ H => tb (AV X.K Wout D l) D σ H) := by
 refine ⟨fun pins s σ H D I h => ?_⟩
 have ok := I.ok
 have hfr : X.A.frames = some (X.env :: X.outer) := by rw [ok.frames, hs]
 refine wpAny_Try_except ?_
 refine wpAny_mono ((hb (AV X.K Wout D l) (X.pn ++ pins) (fun e s₁ => wpAny (model X.prog X.w) X.A (noteFrame e X.env) (fun _ s₂ => wpAny (model X.prog X.w) X.A (setFlight e none) (fun _ s₃ =>
  wpAny (model X.prog X.w) X.A (handleBy e X.env (h₀ :: hds)) (SP X pins D) X.xe s₃) X.xe s₂) X.xe s₁) (fun u s' xx => ?_) PassesOwn.looking).run [] s σ H D (I.toTry _) h) (fun f s1 hsp => ?_) (fun e s1 he => he)
 ·obtain ⟨a, B, sI, pins', σ', H', cls, d, rfl, J', nb, up, sky, na, os, ag, w⟩ := xx
  have J : Inv X pins σ' H' sI := J'.ofTry ok
  have sky' : Sky B (X.env :: X.outer) a (Zc cls d) X.env.locals s'.heap := by rw [← hs]; exact sky
  show wpAny (model X.prog X.w) X.A (noteFrame (.ref a) X.env) _ _ _
  refine Sky.land Zc.steady hfr hf sky' fun h3 fl3 up3 => ?_
  have J3 : Inv X pins σ' H' { s' with heap := h3 } := J.landed nb fl3.1 (up.trans up3) os ag
  obtain ⟨oe3, vs3, he3, hz3, hd3⟩ := fl3.there
  have nfr : a ∉ frs (X.env :: X.outer) := fun hm => by
   obtain ⟨_, o', e', hnf⟩ := fl3.2.2.1.mem hm
   rw [he3] at e'; cases e'
   exact hnf _ hd3
  have nL : a ≠ X.env.locals := fun z => nfr (List.mem_filterMap.mpr ⟨X.env, List.mem_cons_self, by rw [hf, z]⟩)
  have nF : a ∉ X.fs := fun hm => by
   obtain ⟨e, he, q⟩ := List.mem_filterMap.mp hm
   exact nfr (List.mem_filterMap.mpr ⟨e, List.mem_cons_of_mem _ he, q⟩)
  have S3 := J3.suite he3 hd3 na nL nF
  have go : ∀ {hds' : List ExceptHandler} {l' : List (Value × Option Nat × (Addr → Value → Option Addr → TS))}, yP X hds' l' → AV X.K Wout D l' cls d σ' H' →
    wpAny (model X.prog X.w) X.A (handleBy (.ref a) X.env hds') (SP X pins D) X.xe { s' with heap := h3 } := by
   intro hds' l' hk
   induction hk with
   | nil =>
    intro w
    refine wpAny_handleBy_nil ?_
    obtain ⟨k1, k2, k3, oe, vs, T, oT, ts', he, hz, hd, h1, hr⟩ := id fl3
    unfold PySem.passOn
    refine wpAny_bind (wpAny_field he hd h1 ?_)
    rw [if_neg (show ¬ ((Value.ref T == Value.none) = true) from by simp)]
    have fin : wpAny (model X.prog X.w) X.A (setFlight (.ref a) X.env.frame) (fun _ s4 => wpAny (model X.prog X.w) X.A (throw (.ref a) : Sem Flow) (SP X pins D) X.xe s4) X.xe { s' with heap := h3 } := by
     rw [hf]
     refine HandSPX.setFlight_upZ fl3 fun h4 hh4 up4 => wpAny_throw (tk _ _ ?_)
     exact ⟨a, B, sI, pins, σ', H', cls, d, rfl, J, nb, (up.trans up3).trans up4, .inr (.inr (by rw [hs]; exact hh4)), na, os, ag, w⟩
    first
     | exact wpAny_bind (wpAny_pure (wpAny_bind fin))
     | exact wpAny_bind fin
   | @cons x c on oi ts b₀ suite np pos' hds2 l2 hc hnm hsu r ih =>
    intro w
    obtain ⟨b, hb1, hyes, hno⟩ := w
    refine wpAny_handleBy_cons (codeAny_handlers_test ?_) (by intro q; cases q)
    have LT : PySem.W.Looks (model X.prog X.w) h3 (typeOf (.ref a)) cls := fun A Q E s k q => wpAny_typeOf_ref (k _ _ he3) (by rw [hz3.1]; exact q)
    have LM := PySem.W.exm_one (M := model X.prog X.w) (J3.kIn) LT hb1
    have test : ∀ {Q : Value → Shared → Prop} {E : Value → Shared → Prop}, Q c { s' with heap := h3 } → wpAny (model X.prog X.w) (X.A.mark (some (.ref a))) (eval (.Name x np) X.env) Q E { s' with heap := h3 } := fun {Q E} q => by
     obtain ⟨hg, hdbg, hm | ⟨hm, hv, hnn⟩⟩ := hc
     ·exact ld_glob (X := X.suite a ((a, oe3) :: (X.pn ++ pins))) S3 hg hm q hdbg
     ·exact ld_blt (X := X.suite a ((a, oe3) :: (X.pn ++ pins))) S3 hg hm hv q hnn hdbg
    refine test (LM.here ?_)
    cases b with
    | false =>
     show wpAny _ X.A (handleBy (.ref a) X.env hds2) _ _ _
     exact ih (hno rfl)
    | true =>
     have hy := hyes rfl a na
     cases on with
     | none =>
      cases oi with
      | some _ => exact hnm.elim
      | none =>
       refine codeAny_handlers_suite ?_
       refine HandSPX.lands_againZ fl3 fun h4 fl4 up4 => ?_
       have J4 : Inv X pins σ' H' { s' with heap := h4 } := J.landed nb fl4.1 ((up.trans up3).trans up4) os ag
       obtain ⟨oe4, vs4, he4, hz4, hd4⟩ := fl4.there
       have S4 := J4.suite he4 hd4 na nL nF
       refine wpAny_mono ((hsu a oe4 cls d (X.pn ++ pins) hz4 ⟨_, hd4⟩).run [] _ _ H' _ S4 hy) (fun f s6 hsp => ?_) (fun _ _ z => False.elim z)
       cases f with
       | ret u =>
        obtain ⟨v6, σ6, H6, S6, r6, q6⟩ := hsp
        exact ⟨_, _, _, S6.unsuite ok, r6, q6⟩
       | _ =>
        obtain ⟨σ6, H6, S6, q6⟩ := hsp
        exact ⟨_, _, S6.unsuite ok, q6⟩
     | some n =>
      cases oi with
      | none => exact hnm.elim
      | some i =>
       obtain ⟨hN, hi, hln⟩ := hnm
       refine codeAny_handlers_suite_as ?_
       refine HandSPX.lands_againZ fl3 fun h4 fl4 up4 => ?_
       have J4 : Inv X pins σ' H' { s' with heap := h4 } := J.landed nb fl4.1 ((up.trans up3).trans up4) os ag
       obtain ⟨oe4, vs4, he4, hz4, hd4⟩ := fl4.there
       have S4 := J4.suite he4 hd4 na nL nF
       refine store_ok (X := X.suite a ((a, oe4) :: (X.pn ++ pins))) (v := .ref a) S4 hN hi (.inl hln) rfl (fun s5 S5 => ?_) (.inr hln)
       refine wpAny_mono ((hsu a oe4 cls d (X.pn ++ pins) hz4 ⟨_, hd4⟩).run [] s5 _ H' _ S5 hy) (fun f s6 hsp => ?_) (fun _ _ z => False.elim z)
       have end_ : ∀ {σ6 : L2.St} {H6 : Hp} {Q : Shared → Prop}, Inv (X.suite a ((a, oe4) :: (X.pn ++ pins))) [] σ6 H6 s6 → (∀ s7, Inv X pins (σ6.set i none) H6 s7 → Q s7) →
         wpAny (model X.prog X.w) X.A (do bindName X.env n .none; unbindBehindTheSuite X.env n pos') (fun _ s7 => Q s7) X.xe s6 := fun {σ6 H6 Q} S6 hq => gone_ok (S6.unsuite ok) hN hi hln hq
       cases f with
       | ret u =>
        obtain ⟨v6, σ6, H6, S6, r6, q6⟩ := hsp
        exact end_ S6 fun s7 J7 => ⟨_, _, _, J7, r6, q6⟩
       | next =>
        obtain ⟨σ6, H6, S6, q6⟩ := hsp
        exact end_ S6 fun s7 J7 => ⟨_, _, J7, q6⟩
       | brk =>
        obtain ⟨σ6, H6, S6, q6⟩ := hsp
        exact end_ S6 fun s7 J7 => ⟨_, _, J7, q6⟩
       | cont =>
        obtain ⟨σ6, H6, S6, q6⟩ := hsp
        exact end_ S6 fun s7 J7 => ⟨_, _, J7, q6⟩
  exact go hh w
 ·cases f with
  | ret u =>
   obtain ⟨v, σ', H', J', r, q⟩ := hsp
   exact ⟨v, σ', H', J'.ofTry ok, r, q⟩
  | next =>
   obtain ⟨σ', H', J', q⟩ := hsp
   exact wpAny_execs_nil ⟨σ', H', J'.ofTry ok, q⟩
  | brk =>
   obtain ⟨σ', H', J', q⟩ := hsp
   exact ⟨σ', H', J'.ofTry ok, q⟩
  | cont =>
   obtain ⟨σ', H', J', q⟩ := hsp
   exact ⟨σ', H', J'.ofTry ok, q⟩
end
/-- behind a suite without a name -/
def SR.uL : SR → SR
 | .nx ρ S => if bZ ρ = true then .nx ρ S else .stuck
 | .bk ρ S => if bZ ρ = true then .bk ρ S else .stuck
 | .ct ρ S => if bZ ρ = true then .ct ρ S else .stuck
 | .rt d S => .rt d S
 | .exc _ _ _ => .stuck
 | .stuck => .stuck
abbrev Cl := (Str → Option Bool) × Option Nat × SX
def oO : List Cl → bD → aF → Store → SR
 | [], e, ρ, S => .exc e ρ S
 | (g, oi, u) :: r, e, ρ, S => match g e.cls with
  | some true => match oi with
   | some i => if i < ρ.length then (u (ρ.set i (.ex e)) S).wg i else .stuck
   | none => (u ρ S).uL
  | some false => oO r e ρ S
  | none => .stuck
def AW (cs : List Cl) (body : SX) : SX := fun ρ S => if bZ ρ = true then
  match (body ρ S).chk with
  | .exc e ρ1 S1 => oO cs e ρ1 S1
  | r => r
 else .stuck
section
variable {X : Cx} {W : WX} {body : List Stmt} {mb : SX} {pos : Pos}
/-- the clauses, as the pure side has b2f -/
inductive yQ (X : Cx) : List ExceptHandler → List Cl → Prop
 | nil : yQ X [] []
 | cons {x : Str} {c : Value} {on : Option Str} {oi : Option Nat} {g : Str → Option Bool} {u : SX} {b₀ : Stmt} {suite : List Stmt} {np pos' : Pos} {hds : List ExceptHandler} {l : List Cl} (hc : Names X x c) (hn : Sy X on oi)
   (hg : ∀ y b, g y = some b → ∀ Ca, X.mg y = some (.ref Ca) → PySem.W.exmOne X.K (.ref Ca) c = some b)
   (hsu : ∀ (a : Addr) (oe : Obj) (pn : List (Addr × Obj)), jP (aj (X.suite a ((a, oe) :: pn))) rQ (X.suite a ((a, oe) :: pn)) (b₀ :: suite) u) (r : yQ X hds l) :
   yQ X (.ExceptHandler (some (.Name x np)) on (b₀ :: suite) pos' :: hds) ((g, oi, u) :: l)
def SA (C : Ct) (oi : Option Nat) (u : SX) : Addr → Value → Option Addr → TS := fun a cls d => match oi with
 | some i => Qx C i u a cls d
 | none => fun D σ H => ∃ cf oa P β ρ S, bZ ρ = true ∧ LR C cf oa P σ H β ρ S ∧ SQ C rQ cf H P β D (u ρ S).uL
theorem a1I {r : SR} {C C' : Ct} {cf : Cf} {H : Hp} {P : Addr → Prop} {β : List Addr} {D : Ends} (k : C'.K = C.K) (m : C'.mg = C.mg) (h : SQ C rQ cf H P β D r.uL) : SQ C' rQ cf H P β D r := by
 cases r with
 | exc e ρ S => exact h.elim
 | _ => exact SQ.ct k m h
theorem a1J {C : Ct} {W : WX} {cf : Cf} {H : Hp} {P : Addr → Prop} {β : List Addr} {D : Ends} {r : SR} (h : SQ C W cf H P β D r.uL) : SQ C rQ cf H P β D r.uL := by
 cases r with
 | exc e ρ S => exact h.elim
 | stuck => exact h.elim
 | rt d S => exact h
 | nx ρ S =>
  unfold SR.uL at h ⊢
  by_cases hn : bZ ρ = true
  ·simp only [if_pos hn] at h ⊢; exact h
  ·simp only [if_neg hn] at h; exact h.elim
 | bk ρ S =>
  unfold SR.uL at h ⊢
  by_cases hn : bZ ρ = true
  ·simp only [if_pos hn] at h ⊢; exact h
  ·simp only [if_neg hn] at h; exact h.elim
 | ct ρ S =>
  unfold SR.uL at h ⊢
  by_cases hn : bZ ρ = true
  ·simp only [if_pos hn] at h ⊢; exact h
  ·simp only [if_neg hn] at h; exact h.elim
theorem a1K {oi : Option Nat} {u : SX} {bs : List Stmt} {a : Addr} {oe : Obj} {cls : Value} {d : Option Addr} {pn : List (Addr × Obj)} (hz : Zc cls d oe) (hf : ∃ vs, oe.data = .fields vs) (h : jP (aj (X.suite a ((a, oe) :: pn))) rQ (X.suite a ((a, oe) :: pn)) bs u) :
  PSs (X.suite a ((a, oe) :: pn)) bs (SA (aj X) oi u a cls d) := by
 cases oi with
 | some i => exact a00 hz hf h
 | none => exact zX h fun D σ H ⟨cf, oa, P, β, ρ, S, hn, L, q⟩ => ⟨cf, oa, P, β, ρ, S, LR.ct (C := aj X) (C' := aj (X.suite a ((a, oe) :: pn))) rfl rfl L hn, a1I (C := aj X) (C' := aj (X.suite a ((a, oe) :: pn))) rfl rfl q⟩
def SE (C : Ct) (hds : List ExceptHandler) (l : List Cl) (cs : List Value) : List (Value × Option Nat × (Addr → Value → Option Addr → TS)) := (cs.zip l).map fun p => (p.1, p.2.2.1, SA C p.2.2.1 p.2.2.2)
theorem yQ.to {hds : List ExceptHandler} {l : List Cl} (h : yQ X hds l) : ∃ cs : List Value, cs.length = l.length ∧ yP X hds (SE (aj X) hds l cs) ∧
  ∀ {cf : Cf} {oa : Nat → Option Addr} {P P1 : Addr → Prop} {σ : L2.St} {H H1 : Hp} {β β1 : List Addr} {ρ : aF} {S : Store} {e : bD} {cls : Value} {d : Option Addr} {D : Ends}, bZ ρ = true → LR (aj X) cf oa P1 σ H1 β1 ρ S → Fx H P β H1 P1 β1 → mD (aj X) H1 P1 β1 cls d e → SQ (aj X) W cf H P β D (oO l e ρ S) →
   AV X.K W D (SE (aj X) hds l cs) cls d σ H1 := by
 induction h with
 | nil => exact ⟨[], rfl, .nil, fun hn L f ea q => q _ _ _ _ _ _ _ L f ea⟩
 | @cons x c on oi g u b₀ suite np pos' hds2 l2 hc hnm hg hsu r ih =>
  obtain ⟨cs, h1, h2, h3⟩ := ih
  refine ⟨c :: cs, by simp [h1], .cons hc hnm (fun a oe cls d pn hz hf => a1K hz hf (hsu a oe pn)) h2, ?_⟩
  intro cf oa P P1 σ H H1 β β1 ρ S e cls d D hn L f ea q
  obtain ⟨Ca, dd, vs, k1, k2, k3, hr⟩ := id ea
  unfold oO at q
  cases eg : g e.cls with
  | none => rw [eg] at q; exact q.elim
  | some b =>
   rw [eg] at q
   refine ⟨b, by rw [k2]; exact hg _ _ eg _ k1, fun hb a ha => ?_, fun hb => ?_⟩
   ·subst hb
    simp only at q
    cases oi with
    | none =>
     simp only at q
     exact ⟨cf, oa, P1, β1, ρ, S, hn, L, SQ.fx f (a1J q)⟩
    | some i =>
     simp only at q
     by_cases hl : i < ρ.length
     ·rw [if_pos hl] at q
      exact ⟨cf, oa, P1, β1, ρ, S, e, σ, rfl, hn, L, ea, a01 f q⟩
     ·rw [if_neg hl] at q; exact q.elim
   ·subst hb
    exact h3 hn L f ea q
/-- try: body / except C1 as n: .. / except C2: .. -/
theorem a1L {h₀ : ExceptHandler} {hds : List ExceptHandler} {l : List Cl} (hs : X.stack = X.env :: X.outer) (hf : X.env.frame = some X.env.locals) (tk : Takes X W)
  (hb : ∀ (W' : WX) (pn : List (Addr × Obj)) (xe : Value → Shared → Prop), Takes (X.tr pn xe) W' → PassesOwn (model X.prog X.w) X.A X.env xe → jP (aj (X.tr pn xe)) W' (X.tr pn xe) body mb)
  (hc : yQ X (h₀ :: hds) l) : fL (aj X) W X (.Try body (h₀ :: hds) [] [] pos) (AW l mb) := by
 obtain ⟨cs, hl, h2, h3⟩ := hc.to (W := W)
 refine jw (a1H (tb := fun W' => Qv (aj X) W' mb) hs hf tk (fun W' pn xe t p => ZZ (C := aj X) (C' := aj (X.tr pn xe)) rfl rfl (hb W' pn xe t p)) h2) fun D σ H h => ?_
 obtain ⟨cf, oa, P, β, ρ, S, L, h⟩ := h
 unfold AW at h
 by_cases hn : bZ ρ = true
 ·rw [if_pos hn] at h
  refine ⟨cf, oa, P, β, ρ, S, hn, L, ?_⟩
  have hchk : ∀ {r : SR} {e : bD} {ρ1 : aF} {S1 : Store}, r.chk = .exc e ρ1 S1 → bZ ρ1 = true := by
   intro r e ρ1 S1 z
   cases r with
   | exc e2 ρ2 S2 =>
    unfold SR.chk at z
    by_cases h2 : bZ ρ2 = true
    ·simp only [if_pos h2] at z; cases z; exact h2
    ·simp only [if_neg h2] at z; cases z
   | nx ρ2 S2 => unfold SR.chk at z; by_cases h2 : bZ ρ2 = true <;> simp only [h2, if_true, if_false, Bool.false_eq_true] at z <;> cases z
   | bk ρ2 S2 => unfold SR.chk at z; by_cases h2 : bZ ρ2 = true <;> simp only [h2, if_true, if_false, Bool.false_eq_true] at z <;> cases z
   | ct ρ2 S2 => unfold SR.chk at z; by_cases h2 : bZ ρ2 = true <;> simp only [h2, if_true, if_false, Bool.false_eq_true] at z <;> cases z
   | rt d2 S2 => cases z
   | stuck => cases z
  cases er : (mb ρ S).chk with
  | exc e ρ1 S1 =>
   have hn1 := hchk er
   rw [er] at h
   simp only at h
   intro cls d σ' H' β' bf P' L1 f1 ea
   exact h3 hn1 L1 f1 ea h
  | nx ρ1 S1 => rw [er] at h; exact h
  | bk ρ1 S1 => rw [er] at h; exact h
  | ct ρ1 S1 => rw [er] at h; exact h
  | rt d S1 => rw [er] at h; exact h
  | stuck => rw [er] at h; exact h
 ·rw [if_neg hn] at h; exact h.elim
end
def jr : List D → Option (List Str)
 | [] => some []
 | .str x :: r => (jr r).map (x :: ·)
 | _ => none
theorem wG : ∀ {ds : List D} {xs : List Str}, jr ds = some xs → ds = xs.map D.str
 | [], _, h => by cases h; rfl
 | .str x :: r, xs, h => by
  unfold jr at h
  cases e : jr r with
  | none => rw [e] at h; cases h
  | some ys => rw [e] at h; cases h; rw [List.map_cons, wG e]
 | .non :: _, _, h => by cases h
 | .bl _ :: _, _, h => by cases h
 | .int _ :: _, _, h => by cases h
 | .tup _ :: _, _, h => by cases h
 | .lst _ :: _, _, h => by cases h
 | .dct _ :: _, _, h => by cases h
 | .ref _ :: _, _, h => by cases h
 | .ty _ :: _, _, h => by cases h
 | .fn _ :: _, _, h => by cases h
theorem SG (xs : List Str) : jr (xs.map D.str) = some xs := by
 induction xs with
 | nil => rfl
 | cons x xs ih => simp [jr, ih]
theorem SH {C : Ct} {H : Hp} {P : Addr → Prop} {β : List Addr} : ∀ {xs : List Str} {vs : List V}, aA C H P β vs (xs.map D.str) → vs = xs.map V.str
 | [], _, .nil => rfl
 | _ :: _, _, .cons (.str _) t => by rw [List.map_cons, SH t]
/-- how many a1M texts -/
def yR (S : Store) (d : D) : Option D := match vX S d with
 | some ds => match jr ds with
  | some xs => if xs.length + 1 < scanBound then some (.int ((dst xs).length : Nat)) else none
  | none => none
 | none => none
def a1N (K : PySem.W.Frag) (ta : TE) : TE := fun σ H Q => ta σ H fun x H1 => ∃ l, ∃ xs : List Str, x = .ref l ∧ (SqL K H1 l (xs.map V.str) ∨ SqT K H1 l (xs.map V.str)) ∧ xs.length + 1 < scanBound ∧ Q (.int ((dst xs).length : Nat)) H1
section
variable {X : Cx} {W : WX} {b : Bool}
theorem a1O {a : Expr} {ta : TE} {p p2 q pos : Pos} (hc : X.calm = true) (hg : Gl X "len") (hm : X.mg "len" = none) (hg2 : Gl X "set") (hm2 : X.mg "set" = none) (ha : PE X a ta)
  (na : starEach [a] X.env = (false, eval a X.env) :: starEach [] X.env := by rfl) : PE X (.Call (.Name "len" p) [.Call (.Name "set" p2) [a] [] q] [] pos) (a1N X.K ta) := by
 refine ⟨fun pins s σ H Q I h => ?_⟩
 refine Call_ (ld_blt I hg hm boot_len ?_)
 refine PyProof.Rows.callWith_builtin1 (PyProof.Rows.args_cons ?_ rfl) rfl rfl
 refine Call_ (ld_blt I hg2 hm2 boot_set ?_)
 refine PyProof.Rows.callWith_type1 (PyProof.Rows.args_cons (thn (ha.run pins s σ H _ I h) fun v s1 ⟨x, H1, I1, r1, q1⟩ => PyProof.Rows.args_nil ?_) na) na rfl
 obtain ⟨l, xs, rfl, hq, h1, q1⟩ := q1
 cases r1
 have fin : ∀ (h' : Heap) (tk : Nat), oN X.prog X.w h' s1.heap.objs.size xs → (∀ b o, b < s1.heap.objs.size → s1.heap.get? b = some o → h'.get? b = some o) →
   wpAny (model X.prog X.w) X.A (spliced (backTo pos (starEach [] X.env))) (fun vs s₂ => wpAny (model X.prog X.w) X.A (call (.builtin "len") (Value.ref s1.heap.objs.size :: vs)) (EP X pins σ Q) X.xe s₂) X.xe { s1 with heap := h', toks := tk } := fun h' tk hS hk => by
  refine PyProof.Rows.args_nil ?_
  obtain ⟨o, es, ep, t, ho, hex, hd, _, _, _, hf, hn⟩ := hS
  have I2 : Inv X pins σ H1 { s1 with heap := h', toks := tk } := I1.kept fun b o e => hk b o (Heap.lt_size e) e
  have le := S9 xs
  unfold scanBound at h1
  refine call_len_set ho hex hd hf (by rw [hn] <;> omega) ⟨.int ((dst xs).length : Nat), H1, I2.tok _, ⟨_, by rw [hn]⟩, q1⟩
 rcases hq with hq | hq
 ·obtain ⟨its, r, pl, hz⟩ := I1.list hq
  exact Sh (I1.ok.hd hc) (.inl pl.isList) (by simpa using strsAre_of r) h1 fin
 ·obtain ⟨its, r, pl, hz⟩ := I1.tuple hq
  exact Sh (I1.ok.hd hc) (.inr pl) (by simpa using strsAre_of r) h1 fin
theorem a1P {a : Expr} {ma : EX} {p p2 q pos : Pos} (hc : X.calm = true) (hm : X.mg "len" = none) (hm2 : X.mg "set" = none) (ha : PM (aj X) W b X a ma) (hg : Gl X "len" := by rfl) (hg2 : Gl X "set" := by rfl)
  (na : starEach [a] X.env = (false, eval a X.env) :: starEach [] X.env := by rfl) : PM (aj X) W b X (.Call (.Name "len" p) [.Call (.Name "set" p2) [a] [] q] [] pos) (cW yR ma) :=
 bW (a1O hc hg hm hg2 hm2 ha na) fun σ H Q h => by
  obtain ⟨cf, oa, P, β, ρ, S, L, h⟩ := h
  refine ⟨cf, oa, P, β, ρ, S, L, ?_⟩
  unfold cW at h
  cases ea : ma ρ S with
  | stuck => rw [ea] at h; exact h
  | exc e S1 => rw [ea] at h; exact h
  | ok d S1 =>
   rw [ea] at h
   simp only [R.bind] at h
   intro v H1 β1 t1 L1 r1
   cases ef : yR S1 d with
   | none => rw [ef] at h; exact h.elim
   | some z =>
    rw [ef] at h
    unfold yR at ef
    cases ev : vX S1 d with
    | none => rw [ev] at ef; cases ef
    | some ds =>
     rw [ev] at ef
     simp only at ef
     cases es : jr ds with
     | none => rw [es] at ef; cases ef
     | some xs =>
      rw [es] at ef
      simp only at ef
      by_cases hl : xs.length + 1 < scanBound
      ·rw [if_pos hl] at ef
       cases ef
       obtain ⟨a, us, rfl, q1, q2⟩ := r1.vX L1.st ev
       rw [wG es] at q2
       rw [SH q2] at q1
       exact ⟨a, xs, rfl, q1, hl, h _ H1 β1 t1 L1 (.int _)⟩
      ·rw [if_neg hl] at ef; cases ef
end
theorem a1Q : ∀ (ys acc : List Str), (ys.foldl iZ acc).length = acc.length + ys.length ↔ (ys.Nodup ∧ ∀ y ∈ ys, y ∉ acc) := by
 intro ys
 have le : ∀ (ys acc : List Str), (ys.foldl iZ acc).length ≤ acc.length + ys.length := by
  intro ys
  induction ys with
  | nil => intro acc; simp
  | cons y ys ih =>
   intro acc
   rw [List.foldl_cons, List.length_cons]
   have := ih (iZ acc y)
   have h2 : (iZ acc y).length ≤ acc.length + 1 := by rw [IG]; split <;> omega
   omega
 induction ys with
 | nil => intro acc; simp
 | cons y ys ih =>
  intro acc
  rw [List.foldl_cons, List.length_cons, List.nodup_cons]
  by_cases hm : y ∈ acc
  ·have e : iZ acc y = acc := by unfold iZ; rw [if_pos (by simpa using hm)]
   rw [e]
   have := le ys acc
   constructor
   ·intro h; omega
   ·rintro ⟨_, h⟩; exact absurd hm (h y List.mem_cons_self)
  ·have e : iZ acc y = acc ++ [y] := by unfold iZ; rw [if_neg (by simpa using hm)]
   rw [e]
   have := ih (acc ++ [y])
   rw [List.length_append, List.length_singleton] at this
   rw [show acc.length + (ys.length + 1) = acc.length + 1 + ys.length from by omega, this]
   constructor
   ·rintro ⟨h1, h2⟩
    refine ⟨⟨fun z => h2 y z (by simp), h1⟩, fun q hq => ?_⟩
    rcases List.mem_cons.mp hq with rfl | hq
    ·exact hm
    ·exact fun z => h2 q hq (List.mem_append_left _ z)
   ·rintro ⟨⟨h1, h2⟩, h3⟩
    refine ⟨h2, fun q hq z => ?_⟩
    rcases List.mem_append.mp z with z | z
    ·exact h3 q (List.mem_cons_of_mem _ hq) z
    ·rw [List.mem_singleton.mp z] at hq; exact h1 hq
/-- as many a1M ones as there are: none twice -/
theorem a1R (xs : List Str) : (dst xs).length = xs.length ↔ xs.Nodup := by
 have := a1Q xs []
 unfold dst
 simpa using this
section
theorem aA.erase {C : Ct} {H : Hp} {P : Addr → Prop} {β : List Addr} : ∀ {vs : List V} {ds : List D} (i : Nat), aA C H P β vs ds → aA C H P β (vs.eraseIdx i) (ds.eraseIdx i)
 | _, _, _, .nil => .nil
 | _, _, 0, .cons _ t => t
 | _, _, i + 1, .cons h t => .cons h (aA.erase i t)
end
end Mi
namespace PySem.W
open PySem.Calls PyProof.Rows PyProof.V PySem.Spec
section
variable {prog : Program} {w : World} {A : Around} {s : Shared} {K : Type} [DecidableEq K] {knd : KeyKind prog w K}
theorem SJ {a b : Addr} {ka kb : List (K × Value)} {r : Bool} (ha : (a == sysModules) = false) (hb : (b == sysModules) = false) (da : s.heap.DictOf knd a ka) (db : s.heap.DictOf knd b kb) (hu : A.units < cLine)
  (hits : ka.length = kb.length → KeqHitsP prog w A.in1 s kb ka r) (E Q : Value → Shared → Prop) (h : Q (.bool (!(ka.length == kb.length && r))) s) : wpAny (model prog w) A (compareOp .NotEq (.ref a) (.ref b)) Q E s := by
 refine wpAny_richCompare_same_room (op := .NotEq) da.typeIs db.typeIs PySem.F.slot_dict_ne (wpAny_call_entry PySem.F.slot_dict_ne da.typeIs PySem.F.entry_dict_ne ?_ (PySem.F.args_dict_ne_2 _ _)) hu
 show wpAny _ _ (Builtin.Dict.dictSlotArgs "__ne__" ⟨[.ref a, .ref b], []⟩ >>= _) _ _ s
 unfold Builtin.Dict.dictSlotArgs
 refine wpAny_bind (wpAny_bind (wpAny_notOrdered_dict da.typeIs (wpAny_pure (wpAny_bind (wpAny_isInstance (T := "dict") db.typeIs PySem.F.sub_dict_dict ?_)))))
 simp only [Bool.not_true, Bool.false_eq_true, if_false]
 refine wpAny_bind (wpAny_pure (wpAny_bind (wpAny_pure (wpAny_bind (samePairsP ha hb da db hits (wpAny_pure ⟨_, rfl, (fun x => nomatch x), ?_⟩))))))
 simpa using h
end
end PySem.W
namespace Mi
open PySem PySem.Spec PyProof.Rows L2
theorem a1S {C : Ct} {W : WX} {X : Cx} {s : Stmt} {m m' : SX} (h : fL C W X s m) (e : m = m') : fL C W X s m' := e ▸ h
def IK : D → Bool
 | .dct _ => true
 | _ => false
def yS (S : Store) (x y : D) : Option D := match jk S x y with
 | some z => some z
 | none => if IK (top S x) = true ∧ IK (top S y) = true then (jH (eqT 6) (top S x) (top S y)).map fun b => .bl (!b) else none
section
variable {X : Cx} {pins : List (Addr × Obj)} {σ : L2.St} {H : Hp} {s : Shared} {β : List Addr}
def IL (X : Cx) : R2 := fun x y H Q => ∃ β ks ls b, VW (aj X) H β x (.dct ks) ∧ VW (aj X) H β y (.dct ls) ∧ jH (eqT 6) (.dct ks) (.dct ls) = some b ∧ Q (.bl (!b)) H
theorem a1T (hu : X.A.units + 64 < cLine) : OpR X (compareOp .NotEq) (IL X) := by
 intro pins s σ H x y v u Q I rx ry h
 obtain ⟨β, ks, ls, b, vx, vy, h, q⟩ := h
 have ih := Iw (β := β) I 6 X.A.in1 (by show X.A.units + 1 + 6 + 41 < cLine; omega)
 unfold jH at h
 cases vx with
 | @dct a us _ ha va =>
  cases vy with
  | @dct c ws _ hc vc =>
   cases (show v = Value.ref a from rx)
   cases (show u = Value.ref c from ry)
   obtain ⟨wa, ra, ya, da⟩ := yN I ha
   obtain ⟨wb, rb, yb, db⟩ := yN I hc
   have l1 : wa.length = ks.length := by rw [← ra.length, va.len]
   have l2 : wb.length = ls.length := by rw [← rb.length, vc.len]
   simp only at h
   split at h
   ·rename_i hl
    refine PySem.W.SJ (knd := mixKind X.prog X.w) (r := b) ya yb da db (by omega) (fun _ => hits_eq ih vc rb va ra h) _ _ ?_
    rw [show (wa.length == wb.length && b) = b from by rw [l1, l2, hl]; simp]
    exact ⟨.bl (!b), H, I, rfl, q⟩
   ·rename_i hl
    cases h
    refine PySem.W.SJ (knd := mixKind X.prog X.w) (r := false) ya yb da db (by omega) (fun z => absurd (by omega) hl) _ _ ?_
    rw [Bool.and_false]
    exact ⟨.bl true, H, I, rfl, q⟩
theorem SN {d : D} (h : IK d = true) : ∃ ks, d = .dct ks := by
 cases d with
 | dct ks => exact ⟨ks, rfl⟩
 | _ => cases h
theorem a1U (hu : X.A.units + 64 < cLine) : OpR X (compareOp .NotEq) (fun x y H Q => CH X.K x y H Q ∨ IL X x y H Q) := OpR.or (xW hu) (a1T hu)
theorem a1V : cH X (fun x y H Q => CH X.K x y H Q ∨ IL X x y H Q) yS := by
 intro Z H β S x y dx dy dz Q A rx ry e k
 unfold yS at e
 split at e
 ·rename_i z ez
  cases e
  exact .inl (xX Z H β S x y dx dy _ Q A rx ry ez k)
 ·split at e
  ·rename_i hd
   obtain ⟨b, eb, rfl⟩ := Option.map_eq_some_iff.mp e
   have vx := rx.top A.st
   have vy := ry.top A.st
   obtain ⟨ks, e1⟩ := SN hd.1
   obtain ⟨ls, e2⟩ := SN hd.2
   rw [e1] at vx eb
   rw [e2] at vy eb
   exact .inr ⟨β, ks, ls, b, vx, vy, eb, k _ H (Same.refl _) (.bl _)⟩
  ·cases e
end
def SV (K : PySem.W.Frag) : List V → Hp → VK → Prop := fun vs H Q => ∃ (a : Addr) (xs : List Str), vs = [V.ref a] ∧ SqT K H a (xs.map V.str) ∧ xs.length < 64 ∧
 ∀ (ys : List Str) (p : Addr), ys.Perm xs → sortedS ys = true → H p = none → Q (.ref p) (upd H p (.lst (ys.map V.str)))
section
variable {X : Cx}
theorem a1W : CallR X (.builtin "sorted") (SV X.K) := by
 intro pins s σ H xs us Q I r q
 obtain ⟨a, ks, rfl, hq, h64, q⟩ := q
 obtain ⟨u, rfl, rx⟩ := vals1 r
 cases rx
 obtain ⟨its, rv, ⟨o, ho, hc, n, hd⟩, hz⟩ := I.tuple hq
 have hS : StrsAre its ks := by simpa using rv.strs
 have hal : its.length = ks.length := by rw [← rv.length, List.length_map]
 refine Calls.call_function_entry PyProof.Rows.kind_sorted PyProof.Rows.plain_sorted PyProof.Rows.entry_sorted (PyProof.Rows.args_sorted1 _) ?_
 unfold Builtin.«sorted»
 refine wpAny_bind (m := checkCount "sorted" 1 1 _) (wpAny_pure ?_)
 refine wpAny_bind (wpAny_collect_seq (A := X.A.in1) a (.inr rfl) ho hc hd (fun h' hk => ?_) (by rw [List.size_toArray, hal, sizeLine_eq]; omega))
 have I1 : Inv X pins σ H { s with heap := h', toks := s.toks } := I.kept hk
 rw [show its.toArray.toList = its from by simp]
 refine wpAny_bind (wpAny_newList ?_ (by rw [hal, sizeLine_eq]; omega))
 have hoL : (h'.push (seqObj "list" its.toArray 0)).get? h'.objs.size = some (seqObj "list" its.toArray 0) := Heap.get?_push_size _ rfl
 show wpAny _ _ _ _ _ { s with heap := h'.push (seqObj "list" its.toArray 0) }
 refine wpAny_bind (wpAny_holding (wpAny_call_entry PyProof.Rows.slot_list_sort ⟨_, hoL, rfl⟩ PyProof.Rows.entry_list_sort
  (list_sort_treeK strKind_oneLt (s := { s with heap := h'.push (seqObj "list" its.toArray 0) }) hoL hS.keysOf (fun v₁ v₂ rest e => keyKind_strs (by rw [← e]; exact hS)) (by rw [hal]; exact h64) fun st' hp hs => ⟨_, rfl, ?_⟩)
  (PyProof.Rows.args_list_sort _)))
 obtain ⟨ys, g1, g2, g3⟩ := sorted_out_str hS hp hs
 obtain ⟨e', he'⟩ := PyProof.Rows.sortedHeap_at (vs := its) (out := (arrOf st').map (·.2)) hoL
 have hlen : (ys.map V.str).length ≤ sizeLine := by
  rw [List.length_map, g2.length_eq, sizeLine_eq]
  omega
 refine wpAny_pure ⟨_, rfl, .ref h'.objs.size, upd H h'.objs.size (.lst (ys.map V.str)), I1.laid (t' := s.toks) (fun b u e => ?_) (Nat.le_refl _)
  (show ObjOk X.prog X.w _ _ _ (.lst (ys.map V.str)) from ⟨hlen, ((arrOf st').map (·.2)).toList, e', vals_of_strs g1, by rw [Array.toArray_toList]; exact he'⟩), rfl, q ys _ g2 g3 (I1.hok.fresh (Nat.le_refl _))⟩
 have hb : b < h'.objs.size := Heap.lt_size e
 rw [PyProof.Rows.sortedHeap_old (Nat.ne_of_lt hb) (by rw [size_push']; exact Nat.lt_succ_of_lt hb)]
 exact Heap.get?_push_of_some _ e
/-- sorted(x), x a tuple of texts as well -/
def uM (S : Store) (ds : List D) : Option D := match ds with
 | [.tup xs] => match strsOf xs with
  | some ks => if ks.length < 64 then some (.lst ((dG ks).map D.str)) else none
  | none => none
 | ds => qC S ds
def IP (K : PySem.W.Frag) : List V → Hp → VK → Prop := fun xs H Q => Dy K xs H Q ∨ SV K xs H Q
theorem a1X (hc : X.calm = true) : CallR X (.builtin "sorted") (IP X.K) := CallR.or (Ip hc) a1W
theorem a1Y : FU X (IP X.K) uM := by
 intro Z H β S xs ds dz Q A r e k
 unfold uM at e
 split at e
 ·rename_i ys
  split at e
  ·rename_i ks ek
   split at e
   ·rename_i hl
    cases e
    obtain ⟨x, rfl, r1⟩ := jE r
    obtain ⟨p, us, rfl, q1, q2⟩ := r1.gH rfl
    have := GD q2 ek
    subst this
    refine .inr ⟨p, ks, rfl, q1, hl, fun ys p hp hs hn => ?_⟩
    rw [Du hp (Il hs)]
    exact k p _ (g8 hn) hn ⟨_, upd_same, Dz _⟩
   ·cases e
  ·cases e
 ·exact .inl (Rv Z H β S xs ds dz Q A r e k)
theorem a1Z (S : Store) (xs : List D) (d : D) (h : uM S xs = some d) : xD d := by
 unfold uM at h
 split at h
 ·split at h
  ·split at h
   ·cases h; exact ⟨_, rfl⟩
   ·cases h
  ·cases h
 ·exact Rw S xs d h
theorem a2a : gj X (IP X.K) uM := gj.C6 a1Y a1Z
end
/-- at a stands a set of the texts l, bR can be walked -/
structure TS (P : Program) (w : World) (h : Heap) (a : Addr) (l : List Str) : Prop where
 ex : ∃ D : PySem.Froz.SD, h.get? a = some (PySem.Froz.sObj "set" D) ∧ PySem.Froz.TxOk P w D l ∧ Ris D.2.2.place.toList ∧ (w.params.followText "set-order" = true ∨ D.2.2.led = true)
 nd : l.Nodup
 sz : l.length < scanBound
section
variable {P : Program} {w : World} {a : Addr} {l : List Str}
theorem TS.at {h h' : Heap} (T : TS P w h a l) (e : ∀ o, h.get? a = some o → h'.get? a = some o) : TS P w h' a l :=
 ⟨let ⟨D, q, r⟩ := T.ex; ⟨D, e _ q, r⟩, T.nd, T.sz⟩
end
def a2b : Nat → Bool := fun i => i == 0
/-- v is a pair (text, whole number) -/
def SW (h : Heap) (v : Value) (y : Str) (m : Int) : Prop := ∃ (a : Addr) (o : Obj) (n : Nat) (t u : Tok), v = .ref a ∧ h.get? a = some o ∧ o.cls = .type "tuple" ∧ o.data = .seq #[.str y t, .int m u] n
theorem SW.key {h : Heap} {v : Value} {y : Str} {m : Int} (x : SW h v y m) : tupKey h a2b v = some [.inr y.cps.toList, .inl m] := by
 obtain ⟨a, o, n, t, u, rfl, ho, hc, hd⟩ := x
 unfold tupKey
 simp only [ho, hd]
 rfl
end Mi
namespace Mi
open PySem PySem.Spec PyProof.Rows L2
open PySem.W (KdxIt kdx_alive)
section
variable {P1 P2 : Nat → Value → Prop}
/-- what has b2g collected -/
structure ZG (P1 P2 : Nat → Value → Prop) (lo : Addr) (h : Heap) (as : List Addr) : Prop where
 rise : as.Pairwise (· < ·)
 above : ∀ a ∈ as, lo ≤ a
 pairs : ∀ (j : Nat) (a : Addr), as[j]? = some a → ∃ x y, P1 j x ∧ P2 j y ∧ h.get? a = some { cls := .type "tuple", data := .seq #[x, y] }
theorem ZG.there {lo : Addr} {h : Heap} {as : List Addr} (g : ZG P1 P2 lo h as) {a : Addr} (ha : a ∈ as) : a < h.objs.size := by
 obtain ⟨j, hj⟩ := List.mem_iff_getElem?.mp ha
 obtain ⟨_, _, _, _, e⟩ := g.pairs j a hj
 exact Heap.lt_size e
theorem ZG.keep {lo : Addr} {h h' : Heap} {as : List Addr} (g : ZG P1 P2 lo h as) (k : ∀ b o, lo ≤ b → h.get? b = some o → h'.get? b = some o) : ZG P1 P2 lo h' as :=
 ⟨g.rise, g.above, fun j a hj => by
  obtain ⟨x, y, e1, e2, e3⟩ := g.pairs j a hj
  exact ⟨x, y, e1, e2, k a _ (g.above a (List.mem_of_getElem? hj)) e3⟩⟩
theorem ZG.push {lo N : Addr} {h : Heap} {as : List Addr} {x y : Value} (g : ZG P1 P2 lo h as) (hN : lo ≤ N) (hl : ∀ a ∈ as, a < N) (hx : P1 as.length x) (hy : P2 as.length y) (e : h.get? N = some { cls := .type "tuple", data := .seq #[x, y] }) : ZG P1 P2 lo h (as ++ [N]) := by
 refine ⟨List.pairwise_append.mpr ⟨g.rise, List.pairwise_singleton _ _, fun a ha b hb => ?_⟩, fun a ha => ?_, fun j b hj => ?_⟩
 ·rw [List.mem_singleton.mp hb]; exact hl a ha
 ·rcases List.mem_append.mp ha with ha | ha
  ·exact g.above a ha
  ·rw [List.mem_singleton.mp ha]; exact hN
 ·rcases Nat.lt_trichotomy j as.length with h1 | h1 | h1
  ·rw [List.getElem?_append_left h1] at hj
   exact g.pairs j b hj
  ·subst h1
   have hb : N = b := by simpa using hj
   subst hb
   exact ⟨x, y, hx, hy, e⟩
  ·rw [List.getElem?_eq_none (by rw [List.length_append, List.length_singleton]; omega)] at hj
   cases hj
end
end Mi
namespace Mi
open PySem PySem.Spec PyProof.Rows L2
def Src.big (c : Src) : Bool := match c with
 | .txt _ => false
 | _ => true
end Mi
namespace Mi
open PySem PySem.Spec PyProof.Rows L2 HT
end Mi
namespace Mi
open PySem PySem.Spec PyProof.Rows L2
section
variable {K : PySem.W.Frag}
theorem a2c {C : Addr} (h : xB K C "ValueError.__new__" PySem.HandSPX.refsVE = true) (h2 : zV K C = true) : OexC K C := by
 obtain ⟨a, b, c, d⟩ := NV h2
 exact ⟨NU h, a, b, c, d⟩
theorem a2d {C : Addr} {newId : String} {tl : List Value} (h : xB K C newId (PySem.W.excTail tl) = true) (h2 : zV K C = true) : sG K newId tl C := by
 obtain ⟨a, b, c, d⟩ := NV h2
 exact ⟨NU h, a, b, c, d⟩
theorem SY {D : Addr} (h : FT K D = true) : ExcC K D := by
 obtain ⟨h1, h⟩ := bd h
 obtain ⟨h2, h⟩ := bd h
 obtain ⟨h3, h⟩ := bd h
 obtain ⟨h4, h⟩ := bd h
 obtain ⟨h5, h⟩ := bd h
 obtain ⟨h6, h⟩ := bd h
 obtain ⟨h7, h8⟩ := bd h
 exact ⟨He.eqO_ok h1, He.eqO_ok h2, oF h3, h4, He.eqO_ok h5, He.eqO_ok h6, oF h7, oF h8⟩
theorem a2e {C : Addr} (h : KY K C = true) : CI K C := by
 obtain ⟨h1, h⟩ := bd h
 obtain ⟨h2, h⟩ := bd h
 obtain ⟨h3, h⟩ := bd h
 obtain ⟨h4, h5⟩ := bd h
 exact ⟨He.eqO_ok h1, He.eqO_ok h2, oF h3, oF h4, CZ h5⟩
theorem a2f {C : Addr} (h : KZ K C = true) : Cls K C := by
 obtain ⟨h1, h⟩ := bd h
 obtain ⟨h2, h⟩ := bd h
 obtain ⟨h3, h4⟩ := bd h
 exact ⟨h1, h2, h3, He.eqO_ok h4⟩
theorem a2g {B : Addr} (h : La K B = true) : HG K B := by
 obtain ⟨h1, h⟩ := bd h
 obtain ⟨h2, h3⟩ := bd h
 refine ⟨h1, ?_, He.eqO_ok h3⟩
 split at h2
 ·rename_i v e
  rw [e, of_decide_eq_true h2]
 ·cases h2
end
/-- the a2h call over NW a head -/
theorem a2i {l : PySem.W.OpenLaw} {n k : Nat} {q : Program} {loose : List Str} {XP : (Str → Option Value) → Heap → Prop} {d : DefRec} {x : Str} {f : FX} {N : Nat} {cs : List (PySem.W.Frag → Bool)} {fn : List He.FnD} {ts : List He.Tab}
  (hn : l.most = some n) (hn2 : n ≤ sizeLine) (hdf : d.params.defaults = []) (hr : Room k callerA) (hd : d.name = "law")
  (law : ∀ ns : List Int, ns.length ≤ n → (∀ z ∈ ns, Builtin.Int.intBits z ≤ 1048576) → ∃ S, f [.lst (gM ns)] [] = .ok (.bl true) S)
  (F : ∀ (w : World) (K : PySem.W.Frag) (mg : Str → Option Value) (fa : Addr) (h : Heap), K.In h → qJ cs fn ts w K → h.Ns mainGlobals mg → mg "law" = some (.ref fa) →
   ∃ fd : FuncData, (∀ (s : Shared) (u : Value), BindsTo s fd ⟨[u], []⟩ [(x, u)]) ∧ ∀ base : Heap, K.In base → base.Ns mainGlobals mg → cQ l.prog w K mg base k fa fd [x] (cM ⟨K, mg, w, []⟩ 1 f)) :
  PySem.W.WalkO q loose XP (tL N cs fn ts).says l.row.toRowW d [] (fun f vs => PySem.call f vs) := by
 refine Att.attach_callB hn hdf fun w s₀ s₁ mg mb fa o pm cd doc a vs ns G Y ho hd' hcd hmg hobj hints hlen hbits hg => ?_
 obtain ⟨K, KX, c⟩ := Y
 rw [hd] at hmg
 obtain ⟨fd, hb, hF⟩ := F w K mg fa _ KX c G.T.g hmg
 exact Z2 KX G.T.g G.T.b G.T.builtins G.T.nolimit hg hobj hints (Nat.le_trans hlen hn2) hr hF hb (law ns hlen hbits)
def a2j : Nat → Bool := fun i => decide (i < 2)
/-- the pair at a -/
def T5 (h : Heap) (a : Addr) (x y : Str) : Prop := ∃ (o : Obj) (n : Nat) (t u : Tok), h.get? a = some o ∧ o.cls = .type "tuple" ∧ o.data = .seq #[.str x t, .str y u] n
theorem T5.key {h : Heap} {a : Addr} {x y : Str} (q : T5 h a x y) : G.tupKeyC h a2j (.ref a) = some [.inr x.cps.toList, .inr y.cps.toList] := by
 obtain ⟨o, n, t, u, ho, hc, hd⟩ := q
 have e1 : G.isTupObj h (.ref a) = true := by
  simp only [G.isTupObj, ho, hc]
  rfl
 unfold G.tupKeyC
 rw [if_pos e1]
 unfold tupKey
 simp only [ho, hd]
 rfl
end Mi
namespace PySem.AutoSeq1
end PySem.AutoSeq1
namespace Mi
open PySem PySem.Spec PyProof.Rows L2
end Mi
namespace PySem.SeqAt
open AutoSeq1 (wpAny_loadPart')
open MeetsSeq MeetsSeq2 MeetsSeq3 SeqRoads2
end PySem.SeqAt
namespace Mi
open PySem PySem.Spec PyProof.Rows L2
structure Shw (K : PySem.W.Frag) (A : Around) (q : Addr × Obj) : Prop where
 gd : ∃ g, A.guards = some g ∧ ∀ b, b ≠ q.1 → Clear g b
 nk : K.lookup q.1 = none
structure FnR (P : Program) (w : World) (K : PySem.W.Frag) (mg : Str → Option Value) (base : Heap) (k : Nat) (f : Addr) (fd : FuncData) (ps : List Str) (sp : Sp) : Prop where
 len : ∀ vs H Q E, sp vs H Q E → vs.length = ps.length
 run : ∀ (A : Around) (outer : List Env) (s : Shared) (H : Hp) (args : Args) (us : List Value) (vs : List V) (Q : VK) (E : XK) (q : Addr × Obj), Shw K A q → Room k A → L2H.PinOk outer H s q → Env0 P w K mg base A outer s H →
  BindsTo s fd args (ps.zip us) → Vals vs us → sp vs H Q E → codeAny (model P w) A (.call (.ref f) args) (CR (L2.CX P w) outer P w H s Q E) s
/-- a class whose __repr__ may be called while a tuple is shown -/
structure DG (X : Cx) (k : Nat) (c : Str) (f : FX) : Prop where
 ex : ∃ (Ca fa : Addr) (fd : FuncData) (ps : List Str), X.mg c = some (.ref Ca) ∧ PySem.W.findIn X.K (.ref Ca) "__repr__" = some (some (.ref fa)) ∧ PySem.W.isFn X.K (.ref fa) = true ∧
  FnR X.prog X.w X.K X.mg X.base k fa fd ps (cM ⟨X.K, X.mg, X.w, []⟩ ps.length f) ∧ Bnd X.K fd ps [] 1 [0] [] ∧ ps.length = 1
/-- the same, ahead of a context -/
structure a2l (P : Program) (w : World) (K : PySem.W.Frag) (mg : Str → Option Value) (base : Heap) (k : Nat) (c : Str) (f : FX) : Prop where
 ex : ∃ (Ca fa : Addr) (fd : FuncData) (ps : List Str), mg c = some (.ref Ca) ∧ PySem.W.findIn K (.ref Ca) "__repr__" = some (some (.ref fa)) ∧ PySem.W.isFn K (.ref fa) = true ∧
  FnR P w K mg base k fa fd ps (cM ⟨K, mg, w, []⟩ ps.length f) ∧ Bnd K fd ps [] 1 [0] [] ∧ ps.length = 1
theorem FnR.mono {P : Program} {w : World} {K : PySem.W.Frag} {mg : Str → Option Value} {base : Heap} {j k : Nat} {f : Addr} {fd : FuncData} {ps : List Str} {sp : Sp} (F : FnR P w K mg base j f fd ps sp) (h : j ≤ k) : FnR P w K mg base k f fd ps sp :=
 ⟨F.len, fun A outer s H args us vs Q E q hg hr => F.run A outer s H args us vs Q E q hg (hr.mono h)⟩
theorem DG.of {X : Cx} {j k : Nat} {c : Str} {f : FX} (M : a2l X.prog X.w X.K X.mg X.base k c f) (h : k ≤ j) : DG X j c f := by
 obtain ⟨Ca, fa, fd, ps, h1, h2, h3, h4, h5, h6⟩ := M.ex
 exact ⟨Ca, fa, fd, ps, h1, h2, h3, h4.mono h, h5, h6⟩
def IQ (X : Cx) (k : Nat) : List (Str × FX) → Prop
 | [] => True
 | (c, f) :: t => DG X k c f ∧ IQ X k t
theorem IQ.at {X : Cx} {k : Nat} {c : Str} {f : FX} : ∀ {T : List (Str × FX)}, IQ X k T → T.lookup c = some f → DG X k c f
 | [], _, h => by cases h
 | (d, q) :: t, ⟨h1, h2⟩, h => by
  rw [List.lookup_cons] at h
  cases e : (c == d) with
  | true => rw [e] at h; cases h; rw [show c = d from by simpa using e]; exact h1
  | false => rw [e] at h; exact h2.at h
/-- d is no class below c -/
structure IT (K : PySem.W.Frag) (mg : Str → Option Value) (c d : Str) : Prop where
 ex : ∃ Ca Cb, mg c = some (.ref Ca) ∧ mg d = some (.ref Cb) ∧ PySem.W.subIn K (.ref Cb) (.ref Ca) = some false
def DH (K : PySem.W.Frag) (mg : Str → Option Value) (c : Str) : List Str → Prop
 | [] => True
 | d :: r => IT K mg c d ∧ DH K mg c r
theorem DH.at {K : PySem.W.Frag} {mg : Str → Option Value} {c : Str} : ∀ {xs : List Str}, DH K mg c xs → ∀ d ∈ xs, IT K mg c d
 | _ :: _, ⟨h, t⟩, d, hd => by
  rcases List.mem_cons.mp hd with rfl | hd
  ·exact h
  ·exact t.at d hd
def IU (K : PySem.W.Frag) (mg : Str → Option Value) : List (Str × FX) → List Str → Prop
 | [], _ => True
 | (c, _) :: t, xs => DH K mg c xs ∧ IU K mg t xs
theorem IU.at {K : PySem.W.Frag} {mg : Str → Option Value} {xs : List Str} {c : Str} {f : FX} : ∀ {T : List (Str × FX)}, IU K mg T xs → T.lookup c = some f → ∀ d ∈ xs, IT K mg c d
 | [], _, h => by cases h
 | (d, q) :: t, ⟨h1, h2⟩, h => by
  rw [List.lookup_cons] at h
  cases e : (c == d) with
  | true => rw [show c = d from by simpa using e]; exact h1.at
  | false => rw [e] at h; exact h2.at h
section
variable {prog : Program} {w : World} {K : Type} [DecidableEq K] {knd : KeyKind prog w K} {A : Around} {E : Value → Shared → Prop} {s : Shared}
theorem a2m {d : Addr} {kvs : List (K × Value)} {k : K} {key v : Value} {Q : Unit → Shared → Prop} (hkey : knd.is k key = true) (hm : s.heap.DictOf knd d kvs)
  (hQ : ∀ h', h'.DictOf knd d (stored kvs k v) → Heap.SameBut d s.heap h' → Q () { s with heap := h' }) (hsz : kvs.length ≤ sizeLine) : wpAny (model prog w) A (dictPut d (knd.hash k) key v) Q E s := by
 obtain ⟨o, es, ep, ho, hc, hd, hk, hp, hn⟩ := hm
 have hes : es.size ≤ sizeLine := by
  have e1 := hp.length
  have e2 : es.toList.length = es.size := by simp
  omega
 unfold dictPut
 refine wpAny_bind (wpAny_dictFind_of hkey ho hd hk ?_)
 have hidx : (es.findIdx? fun e => knd.is k e.key) = kvs.findIdx? fun kv => decide (kv.1 = k) := by rw [← hp.findIdx k]; cases es; simp
 cases hi : es.findIdx? fun e => knd.is k e.key with
 | some i =>
  refine wpAny_updateDict ho hd (hQ _ ⟨_, _, ep, Heap.get?_update_self _ ho (Obj.isFreed_of_dict (Obj.data_mapDict hd _)), hc.mapDict _, Obj.data_mapDict hd _, hk.modify _ _, ?_, ?_⟩ (Heap.SameBut.update ..))
  ·rw [stored, if_pos (any_of_findIdx_some (hidx ▸ hi))]
   have hl : (es.toList.findIdx? fun e => knd.is k e.key) = some i := by rw [← hi]; cases es; simp
   have h2 := hp.modify hn hl v
   cases es
   simpa using h2
  ·rw [stored, if_pos (any_of_findIdx_some (hidx ▸ hi)), keys_map_store]; exact hn
 | none =>
  have hnot : k ∉ kvs.map (·.1) := not_mem_of_findIdx_none (hidx ▸ hi)
  have hany : ¬ (kvs.any fun kv => decide (kv.1 = k)) = true := fun z => by
   obtain ⟨kv, hkv, he⟩ := List.any_eq_true.mp z
   exact hnot (List.mem_map.mpr ⟨kv, hkv, of_decide_eq_true he⟩)
  refine wpAny_updateDictKeys (hz := hes) ho hd (hQ _ ⟨_, _, ep + 1, Heap.get?_update_self _ ho (Obj.isFreed_of_dict (Obj.data_mapDictKeys hd _)), hc.mapDictKeys _, Obj.data_mapDictKeys hd _, hk.push hkey _, ?_, ?_⟩ (Heap.SameBut.update ..))
  ·rw [stored, if_neg hany]
   have h2 := hp.append hkey (knd.hash k) v
   cases es
   simpa using h2
  ·rw [stored, if_neg hany, List.map_append, List.nodup_append]
   refine ⟨hn, by simp, fun a ha b hb => ?_⟩
   rw [List.mem_singleton.mp hb]
   intro e
   rw [e] at ha
   exact hnot ha
theorem a2n : typeLookup (.type "dict") "__iter__" = pure (some (.builtin "dict.__iter__")) := PySem.F.slot_dict_iter.lookup
theorem a2o {d o : Addr} {kvs more : List (K × Value)} {Q : Unit → Shared → Prop} (hdo : d ≠ o) (hoS : (o == sysModules) = false) (hd : s.heap.DictOf knd d kvs) (ho : s.heap.DictOf knd o more)
  (hQ : ∀ h', h'.DictOf knd d (merged kvs more) → h'.DictOf knd o more → Heap.SameBut d s.heap h' → Q () { s with heap := h' }) (hsz : kvs.length + more.length ≤ sizeLine) :
  wpAny (model prog w) A (mergeMapping d (.ref o) false) Q E s := by
 obtain ⟨oo, eso, epo, hoo, hco, hdo', hko, hpo, hno⟩ := id ho
 obtain ⟨od, esd, epd, hod, hcd, hdd, hkd, hpd, hnd⟩ := id hd
 have hlen : more.length = eso.size := by rw [← hpo.length]; simp
 have hT : s.TypeIs (.ref o) "dict" := ⟨oo, hoo, hco.1⟩
 have loop : wpAny (model prog w) A (do
   let l ← dictEntries o
   let epoch ← dictEpoch o
   forIn (List.range l.size) PUnit.unit fun i (_ : PUnit) => (do
     let l' ← dictEntries o
     match l'[i]? with
      | some e => do
       holding [e.key, e.val] (dictPut d e.hash e.key e.val)
       let ep' ← dictEpoch o
       if (ep' != epoch) = true then do
         (unsupported "dict.changed-during-merge" : Sem PUnit)
         pure (ForInStep.yield PUnit.unit)
        else pure (ForInStep.yield PUnit.unit)
      | _ => do
       (unsupported "dict.changed-during-merge" : Sem PUnit)
       pure (ForInStep.yield PUnit.unit) : Sem (ForInStep PUnit))
   pure ()) Q E s := by
  refine wpAny_bind (wpAny_dictEntries hoo hdo' ?_)
  refine wpAny_bind (wpAny_dictEpoch hoo hdo' ?_)
  refine wpAny_bind ?_
  refine wpAny_forIn_list _
   (fun rest _ s' => ∃ h' i, s' = { s with heap := h' } ∧ rest = (List.range eso.size).drop i ∧ i ≤ eso.size ∧ h'.DictOf knd d (merged kvs (more.take i)) ∧ h'.get? o = some oo ∧ Heap.SameBut d s.heap h')
   _ ?_ ?_ _ _ ⟨s.heap, 0, rfl, rfl, Nat.zero_le _, by simpa [merged] using hd, hoo, Heap.SameBut.refl _ _⟩
  ·rintro x rest b s' ⟨h', i, rfl, hr, hi, hd', hoo', hs'⟩
   have hlt : i < eso.size := by
    rcases Nat.lt_or_ge i eso.size with h | h
    ·exact h
    ·rw [List.drop_eq_nil_of_le (by rw [List.length_range]; exact h)] at hr; cases hr
   obtain ⟨ex, hrest⟩ : x = i ∧ rest = (List.range eso.size).drop (i + 1) := by
    rw [List.drop_eq_getElem_cons (by rw [List.length_range]; exact hlt)] at hr
    injection hr with h1 h2
    exact ⟨by rw [h1, List.getElem_range], h2⟩
   subst ex
   refine wpAny_bind (wpAny_dictEntries hoo' hdo' ?_)
   rw [Array.getElem?_eq_getElem hlt]
   obtain ⟨⟨k, v⟩, hkv⟩ : ∃ kv, more[x]? = some kv := ⟨more[x]'(by rw [hlen]; exact hlt), List.getElem?_eq_getElem _⟩
   obtain ⟨hkey, hval⟩ := hpo.get? (e := eso[x]) (by simp [hlt]) hkv
   obtain ⟨k', hkey', hhash⟩ := hko eso[x] (Array.getElem_mem hlt)
   obtain rfl : k' = k := knd.inj _ _ _ hkey' hkey
   show wpAny _ _ (holding [eso[x].key, eso[x].val] (dictPut d eso[x].hash eso[x].key eso[x].val) >>= _) _ _ _
   rw [hhash, hval]
   have hmx : (merged kvs (more.take x)).length ≤ sizeLine := by
    have e1 := merged_length_le kvs (more.take x)
    have e2 : (more.take x).length ≤ more.length := by rw [List.length_take]; omega
    omega
   refine wpAny_bind (wpAny_holding (a2m hkey hd' (fun h'' hd'' hs'' => ?_) hmx))
   have hoo'' : h''.get? o = some oo := (hs''.2 o (Ne.symm hdo)).trans hoo'
   refine wpAny_bind (wpAny_dictEpoch hoo'' hdo' ?_)
   rw [if_neg (by simp)]
   exact wpAny_pure ⟨h'', x + 1, rfl, hrest, hlt, by rw [merged_take_succ kvs more x (k', v) hkv]; exact hd'', hoo'', hs'.trans hs''⟩
  ·rintro b s' ⟨h', i, rfl, hr, hi, hd', hoo', hs'⟩
   have hin : i = eso.size := by
    rcases Nat.lt_or_ge i eso.size with h | h
    ·rw [List.drop_eq_getElem_cons (by rw [List.length_range]; exact h)] at hr; cases hr
    ·exact Nat.le_antisymm hi h
   refine wpAny_pure (hQ h' ?_ ⟨oo, eso, epo, hoo', hco, hdo', hko, hpo, hno⟩ hs')
   rw [hin, ← hlen, List.take_length] at hd'; exact hd'
 have a2p : (forIn eso PUnit.unit fun e (_ : PUnit) => (match e.key with
   | .ref a => do
    let r ← specialOf e.key "__eq__"
    if (r != some (Value.builtin "object.__eq__")) = true then
     if (eso.filter (·.hash == e.hash)).size > 1 then (do let _ ← (unsupported "dict.merge-into-an-empty-dict:keys-of-equal-hash" : Sem PUnit); pure (ForInStep.yield PUnit.unit)) else pure (ForInStep.yield PUnit.unit)
    else pure (ForInStep.yield PUnit.unit)
   | _ => pure (ForInStep.yield PUnit.unit) : Sem (ForInStep PUnit))) = pure PUnit.unit := by
  rw [← Array.forIn_toList]
  refine forIn_yield_id _ fun e he c => ?_
  obtain ⟨k, hkey, _⟩ := hko e (Array.mem_toList_iff.mp he)
  have := knd.byValue k _ hkey
  cases hk : e.key with
  | ref a => rw [hk] at this; cases this
  | _ => rfl
 unfold mergeMapping
 refine wpAny_bind (wpAny_isInstance (U := "dict") hT (b := true) (by rw [isSubtype_type]; kernel_rfl) ?_)
 simp only [if_true]
 refine wpAny_bind (wpAny_specialOf hT (r := some (.builtin "dict.__iter__")) a2n ?_)
 refine wpAny_bind (wpAny_pure ?_)
 have e1 : ((some (Value.builtin "dict.__iter__") : Option Value) == some (Value.builtin "dict.__iter__")) = true := by decide +kernel
 rw [e1]
 dsimp only
 rw [if_neg (by rw [hoS]; exact Bool.false_ne_true)]
 refine wpAny_bind (wpAny_dictEntries hod hdd ?_)
 split
 ·refine wpAny_bind (wpAny_dictEntries hoo hdo' ?_)
  refine wpAny_bind (wpAny_of_eq a2p ?_)
  exact loop
 ·exact loop
end
section
variable {X : Cx} {W : WX} {b : Bool} {pos : Pos} {a c : Expr} {ta tb : TE} {ma mb : EX}
def a2q (ta tb : TE) : TE := fun σ H Q => ∀ p, H p = none → ta σ (upd H p (.dK [])) fun x H1 => H1 p = some (.dK []) ∧ ∃ (u : Addr) (kvs : List (Key × V)), x = .ref u ∧ p ≠ u ∧ Rd H1 u (.dK kvs) ∧ kvs.length ≤ 1000 ∧
 tb σ (upd H1 p (.dK (mergeK [] kvs))) fun y H2 => H2 p = some (.dK (mergeK [] kvs)) ∧ ∃ (v : Addr) (more : List (Key × V)), y = .ref v ∧ p ≠ v ∧ Rd H2 v (.dK more) ∧ more.length ≤ 1000 ∧ Q (.ref p) (upd H2 p (.dK (mergeK (mergeK [] kvs) more)))
theorem T6 {pins : List (Addr × Obj)} {σ : L2.St} {H : Hp} {s : Shared} {p u : Addr} {kvs more : List (Key × V)} {E : Value → Shared → Prop} {Q : Unit → Shared → Prop} {A : Around} (I : Inv X pins σ H s) (hp : H p = some (.dK kvs)) (ne : p ≠ u) (hu : Rd H u (.dK more)) (hl : kvs.length + more.length ≤ 2000)
  (h : ∀ s', Inv X pins σ (upd H p (.dK (mergeK kvs more))) s' → Q () s') : wpAny (model X.prog X.w) A (mergeMapping p (.ref u) false) Q E s := by
 obtain ⟨z1, d1, vs, r1, Gu⟩ := dk_of I.hok hp
 obtain ⟨z2, d2, ws, r2, dd2⟩ := dk_rd I.hok hu
 have l1 := r1.length
 have l2 := r2.length
 refine a2o ne d2 Gu dd2 (fun h' q1 q2 hs => h _ ?_) (by rw [sizeLine_eq]; omega)
 have hz : (mergeK kvs more).length ≤ sizeLine := by
  have h1 := length_mergeK more kvs
  rw [sizeLine_eq]; omega
 have he : ∃ q, h'.get? p = some q := let ⟨q, _, _, hq, _⟩ := q1; ⟨q, hq⟩
 exact d_write I (by rw [hp]; exact True.intro) hs he (dk_new hz d1 (r2.merge r1) q1)
theorem a2r (ha : PE X a ta) (hb : PE X c tb) : PE X (.Dict [none, none] [a, c] pos) (a2q ta tb) := by
 refine ⟨fun pins s σ H Q I q => ?_⟩
 have hn := I.hok.fresh (Nat.le_refl s.heap.objs.size)
 have I1 := I.laid (a := s.heap.objs.size) (o := .dK []) (h' := s.heap.push { cls := .type "dict", data := .dict #[] }) (t' := s.toks) (fun _ _ q => Heap.get?_push_of_some _ q) (Nat.le_refl _) (dk_empty s.heap I.big)
 rw [arm_eval_Dict]
 refine wpAny_bind (wpAny_standAt ?_)
 show wpAny _ _ (dictDisplay [(none, do let x ← eval a X.env; standAt pos; pure x), (none, do let x ← eval c X.env; standAt pos; pure x)]) _ _ _
 unfold dictDisplay
 simp only [List.forIn_cons, List.forIn_nil, List.isEmpty_nil, if_true, pure_bind, bind_assoc]
 refine wpAny_bind (wpAny_alloc ?_)
 refine wpAny_bind (wpAny_holding (wpAny_bind (thn (ha.run pins _ σ _ _ I1 (q _ hn)) fun x1 s1 ⟨x, H1, I2, rx, e1, u, kvs, ex, ne, hu, l1, q1⟩ => wpAny_bind (wpAny_standAt (wpAny_pure ?_)))))
 subst ex
 obtain rfl : x1 = Value.ref u := rx
 refine wpAny_bind (wpAny_onRaise (wpAny_tryCatch (wpAny_onRaise (wpAny_holding (T6 I2 e1 ne hu (by simp only [List.length_nil]; omega) fun s2 I3 => ?_)))))
 refine wpAny_bind (wpAny_holding (wpAny_bind (thn (hb.run pins _ σ _ _ I3 q1) fun y1 s3 ⟨y, H2, I4, ry, e2, v, more, ey, ne2, hv, l2, q2⟩ => wpAny_bind (wpAny_standAt (wpAny_pure ?_)))))
 subst ey
 obtain rfl : y1 = Value.ref v := ry
 have lm : (mergeK [] kvs).length ≤ kvs.length := by
  have := length_mergeK kvs []
  rw [List.length_nil] at this
  omega
 refine wpAny_bind (wpAny_onRaise (wpAny_tryCatch (wpAny_onRaise (wpAny_holding (T6 I4 e2 ne2 hv (by omega) fun s4 I5 => ?_)))))
 exact wpAny_pure ⟨.ref s.heap.objs.size, _, I5, rfl, q2⟩
/-- {**a, **b}: a new dict -/
def AY (ma mb : EX) : EX := fun ρ S => (ma ρ S).bind fun x S1 => match aU S1 x with
 | some kvs => if kvs.length ≤ 1000 then (mb ρ S1).bind fun y S2 => match aU S2 y with
  | some more => if more.length ≤ 1000 then .ok (.dct (pZ (pZ [] kvs) more)) S2 else .stuck
  | none => .stuck
  else .stuck
 | none => .stuck
theorem a2s (ha : PM (aj X) W b X a ma) (hb : PM (aj X) W b X c mb) : PN (aj X) W b X (.Dict [none, none] [a, c] pos) (AY ma mb) := bW (a2r ha hb) fun σ H Q h => by
 obtain ⟨cf, oa, P, β, ρ, S, L, h⟩ := h
 intro p hp
 refine ⟨cf, oa, _, β, ρ, S, L.M7 hp, ?_⟩
 unfold AY at h
 have x0 : Same H (upd H p (.dK [])) := g8 hp
 have back : ∀ {H' : Hp} {β' : List Addr} {e : bD} {cls : Value} {d : Option Addr}, mD (aj X) H' (fun c => P c ∨ c = p) β' cls d e → mD (aj X) H' P β' cls d e := fun ex => by
  obtain ⟨Ca, dd, vs, h1, h2, h3, h4, h6, h7, h5⟩ := ex
  exact ⟨Ca, dd, vs, h1, h2, h3, h4, h6, fun z => h7 (.inl z), fun f x hx => let ⟨v, q1, q2⟩ := h5 f x hx; ⟨v, q1, q2.less fun _ z => .inl z⟩⟩
 cases ea : ma ρ S with
 | stuck => rw [ea] at h; exact h
 | exc e S1 =>
  rw [ea] at h
  intro cls d H' β' t L' ex
  exact h cls d H' β' ((Tr.same x0).trans t) (L'.forget L.sub fun i a h => (L.own i a h).1) (back ex)
 | ok x S1 =>
  rw [ea] at h
  simp only [R.bind] at h
  intro v1 H1 β1 t L1 rv
  have h0' : cf.H0 p = none := by
   cases z : cf.H0 p with
   | none => rfl
   | some o => exact absurd hp (L.ext.stay p (by rw [z]; exact Option.some_ne_none _))
  have nr : ∀ {H' : Hp} {β' : List Addr} {S' : Store} {v : V} {d : D} {us : List (Key × D)}, LR (aj X) cf oa (fun c => P c ∨ c = p) σ H' β' ρ S' → RV (aj X) H' (fun c => P c ∨ c = p) β' v d → aU S' d = some us → ∃ (u : Addr) (ks : List (Key × V)), v = .ref u ∧ p ≠ u ∧ Rd H' u (.dK ks) ∧ aG (aj X) H' (fun c => P c ∨ c = p) β' ks us := fun L' r e => by
   obtain ⟨a, us, rfl, q1, q2⟩ := r.aU L'.st e
   refine ⟨a, us, rfl, fun z => ?_, q1, q2⟩
   subst z
   cases r with
   | dct hn _ _ _ => exact hn (.inr rfl)
   | ref hb => exact (L'.p p (.inr rfl)).2 (List.mem_of_getElem? hb)
   | _ => cases e
  have e0 : H1 p = some (.dK []) := t.ext.keep p _ upd_same (L.pJ hp)
  refine ⟨e0, ?_⟩
  cases ek : aU S1 x with
  | none => rw [ek] at h; exact h.elim
  | some kvs =>
   rw [ek] at h
   simp only at h
   by_cases hl : kvs.length ≤ 1000
   case neg => rw [if_neg hl] at h; exact h.elim
   rw [if_pos hl] at h
   obtain ⟨u, us, e1, ne, hu, r1⟩ := nr L1 rv ek
   have nt : ∀ {H' : Hp} {ks : List (Key × V)}, H' p = some (.dK ks) → ∀ xs, ¬ Rd H' p (.tup xs) := fun e xs z => by
    rcases z with z | ⟨o, z⟩ <;> (rw [e] at z; cases z)
   have nf : ∀ {H' : Hp} {ks : List (Key × V)}, H' p = some (.dK ks) → ∀ o u, H' p ≠ some (.frz o u) := fun e o u z => by rw [e] at z; cases z
   have no : ∀ i, oa i ≠ some p := fun i z => (L.p p (L.own i p z).1).1 hp
   refine ⟨u, us, e1, ne, hu, by rw [r1.length]; exact hl, ?_⟩
   have T7 := L1.nY (o := .dK (mergeK [] us)) (.inr rfl) h0' no (nt e0) (nf e0)
   have t1 := ((Tr.same x0).trans t).nY (o := .dK (mergeK [] us)) hp (nt e0) (nf e0)
   refine ⟨cf, oa, _, β1, ρ, S1, T7, ?_⟩
   cases eb : mb ρ S1 with
   | stuck => rw [eb] at h; exact h
   | exc e S2 =>
    rw [eb] at h
    intro cls d H' β' t2 L' ex
    exact h cls d H' β' (t1.trans t2) (L'.forget L.sub fun i a h => (L.own i a h).1) (back ex)
   | ok y S2 =>
    rw [eb] at h
    simp only [R.bind] at h
    intro v2 H2 β2 t2 L2 rv2
    have e2 : H2 p = some (.dK (mergeK [] us)) := t2.ext.keep p _ upd_same (T7.p p (.inr rfl)).2
    refine ⟨e2, ?_⟩
    cases em : aU S2 y with
    | none => rw [em] at h; exact h.elim
    | some more =>
     rw [em] at h
     simp only at h
     by_cases hm : more.length ≤ 1000
     case neg => rw [if_neg hm] at h; exact h.elim
     rw [if_pos hm] at h
     obtain ⟨v, ws, e3, ne2, hv, r2⟩ := nr L2 rv2 em
     refine ⟨v, ws, e3, ne2, hv, by rw [r2.length]; exact hm, ?_⟩
     refine h p _ β2 ((t1.trans t2).nY hp (nt e2) (nf e2)) hp (L2.nY (.inr rfl) h0' no (nt e2) (nf e2)) ⟨_, upd_same, ?_⟩
     have r1' := (r1.set (o := .dK (mergeK [] us)) (.inl (.inr rfl)) (nt e0)).mono t2.ext
     exact (CO r2 (CO r1' .nil)).set (.inl (.inr rfl)) (nt e2)
end
end Mi
namespace Mi
open StX (env0_laid un_laid cxUp)
open PySem PySem.Spec PyProof.Rows L2
section
variable {P : Program} {w : World} {A : Around} {E : Value → Shared → Prop} {s : Shared}
theorem a2t {d : Addr} {kvs : List (Key × Value)} {k : Str} {v : Value} {Q : Unit → Shared → Prop} (hm : s.heap.DictOf (mixKind P w) d kvs) (hk : (Sum.inr k : Key) ∉ kvs.map (·.1))
  (hQ : ∀ h', h'.DictOf (mixKind P w) d (kvs ++ [(.inr k, v)]) → Heap.SameBut d s.heap h' → Q () { s with heap := h', toks := s.toks + 1 }) : wpAny (model P w) A (nsSet d k v) Q E s := by
 obtain ⟨o, es, ep, ho, hc, hd, hkk, hp, hn⟩ := hm
 have hfun : ∀ u : Value, (mixKind P w).is (.inr k) u = u.isStr k := fun u => (mixKind P w).strs (.inr k) k 0 u (by show Value.isStrOf k (.str k 0) = true; simp [Value.isStrOf])
 have hidx : (es.findIdx? fun e => e.key.isStr k) = none := by
  have e1 : (fun e : DictEntry => e.key.isStr k) = fun e => (mixKind P w).is (.inr k) e.key := funext fun e => (hfun e.key).symm
  rw [e1]
  have e2 : (es.findIdx? fun e => (mixKind P w).is (.inr k) e.key) = kvs.findIdx? fun kv => decide (kv.1 = .inr k) := by rw [← hp.findIdx (.inr k)]; cases es; simp
  rw [e2, List.findIdx?_eq_none_iff]
  exact fun x hx => decide_eq_false fun e => hk (List.mem_map.mpr ⟨x, hx, e⟩)
 have href : aRefKeyMayBeTheName k es = false := by
  rw [aRefKeyMayBeTheName_at]
  have : es.any (·.refKey) = false := by
   cases q : es.any (·.refKey) with
   | false => rfl
   | true =>
    rw [← Array.any_toList] at q
    obtain ⟨e, he, z⟩ := List.any_eq_true.mp q
    obtain ⟨kk, h1, _⟩ := hkk e (Array.mem_toList_iff.mp he)
    have h2 := (mixKind P w).byValue kk _ h1
    cases hk2 : e.key with
    | ref a => rw [hk2] at h2; cases h2
    | _ => unfold DictEntry.refKey at z; rw [hk2] at z; cases z
  rw [this, Bool.and_false]
 have hput : Obj.putName k (hashStr w k) (.str k s.toks) v o = ⟨o.cls, o.dict, .dict (es.push ⟨hashStr w k, .str k s.toks, v⟩) (ep + 1), o.slots⟩ := by
  rw [Obj.putName_eq]
  obtain ⟨c, dd, dt, sl⟩ := o
  simp only at hd
  subst hd
  show (match es.findIdx? (·.key.isStr k) with | some i => _ | none => _) = _
  rw [hidx]
 unfold nsSet
 refine wpAny_bind (wpAny_bind (wpAny_askSetting (wpAny_pure (wpAny_bind (wpAny_mkText (wpAny_bind (wpAny_loadPart ho ?_)))))))
 rw [hd]
 dsimp only
 rw [href]
 have hk2 : (mixKind P w).is (.inr k) (.str k s.toks) = true := by rw [hfun]; exact beq_self_eq_true k
 refine wpAny_updatePart ho (hQ _ ⟨_, es.push ⟨hashStr w k, .str k s.toks, v⟩, ep + 1, Heap.get?_update_self _ ho ?_, ?_, ?_, hkk.push hk2 _, ?_, ?_⟩ (Heap.SameBut.update ..))
 ·exact Obj.isFreed_of_dict (congrArg Obj.data hput)
 ·show (Obj.putName k (hashStr w k) (.str k s.toks) v o).ExactDict
  rw [hput]
  exact hc
 ·exact congrArg Obj.data hput
 ·have h2 : Pairs (mixKind P w) (es.toList ++ [⟨hashStr w k, .str k s.toks, v⟩]) _ := hp.append hk2 ((mixKind P w).hash (.inr k)) v
  cases es
  simpa using h2
 ·rw [List.map_append, List.nodup_append]
  refine ⟨hn, by simp, fun a ha b hb => ?_⟩
  rw [List.mem_singleton.mp hb]
  intro e
  rw [e] at ha
  exact hk ha
theorem T8 {d : Addr} {Q : PUnit → Shared → Prop} : ∀ (ex : List (Str × Value)) (s : Shared) (kvs : List (Key × Value)), s.heap.DictOf (mixKind P w) d kvs → (kvs.map (·.1) ++ ex.map fun x => (Sum.inr x.1 : Key)).Nodup →
  (∀ h' t', h'.DictOf (mixKind P w) d (kvs ++ ex.map fun x => (.inr x.1, x.2)) → Heap.SameBut d s.heap h' → Q ⟨⟩ { s with heap := h', toks := t' }) →
  wpAny (model P w) A (forIn ex PUnit.unit fun x _ => (nsSet d x.1 x.2 >>= fun _ => pure (ForInStep.yield PUnit.unit))) Q E s
 | [], s, kvs, hm, _, h => by
  rw [List.forIn_nil]
  refine wpAny_pure (h s.heap s.toks ?_ (Heap.SameBut.refl _ _))
  rw [List.map_nil, List.append_nil]
  exact hm
 | x :: r, s, kvs, hm, hn, h => by
  rw [List.map_cons] at hn
  have hk : (Sum.inr x.1 : Key) ∉ kvs.map (·.1) := fun z => (List.nodup_append.mp hn).2.2 _ z _ (List.mem_cons_self) rfl
  rw [List.forIn_cons]
  refine wpAny_bind (wpAny_bind (a2t hm hk fun h1 m1 s1 => wpAny_pure ?_))
  refine T8 r { s with heap := h1, toks := s.toks + 1 } _ m1 ?_ fun h' t' m' s' => ?_
  ·rw [List.map_append, List.append_assoc]
   exact hn
  ·rw [List.map_cons] at h
   rw [List.append_assoc] at m'
   exact h h' t' m' (s1.trans s')
end
end Mi
namespace Mi
open StX (env0_laid un_laid cxUp)
open PySem PySem.Spec PyProof.Rows L2
def oR (ks : List Str) (es : List D) : List (Key × D) := (ks.zip es).map fun p => (.inr p.1, p.2)
def jJ (ks : List Str) (zs : List V) : List (Key × V) := (ks.zip zs).map fun p => (.inr p.1, p.2)
def T9 (ks : List Str) (ws : List Value) : List (Key × Value) := (ks.zip ws).map fun p => (.inr p.1, p.2)
theorem Tc {C : Ct} {H : Hp} {P : Addr → Prop} {β : List Addr} : ∀ {ks : List Str} {zs : List V} {es : List D}, aA C H P β zs es → aG C H P β (jJ ks zs) (oR ks es)
 | [], _, _, _ => .nil
 | _ :: _, _, _, .nil => .nil
 | _ :: _, _, _, .cons r t => .cons r (Tc t)
theorem Td : ∀ {ks : List Str} {zs : List V} {ws : List Value}, Vals zs ws → KV (jJ ks zs) (T9 ks ws)
 | [], _, _, _ => .nil
 | _ :: _, _, _, .nil => .nil
 | _ :: _, _, _, .cons r t => .cons ⟨rfl, r⟩ (Td t)
theorem a2u {ks : List Str} {zs : List V} (h : zs.length = ks.length) : (jJ ks zs).length = ks.length := by
 unfold jJ
 rw [List.length_map, List.length_zip, h, Nat.min_self]
/-- how NW a def binds a call with these keywords -/
def Tf (st : Stmt) (pv : Str) (ks : List Str) : Prop := ∀ (x qual : Str) (kV doc pm : Value) (an : Option Addr) (cdv ct u : Value) (ws : List Value), ws.length = ks.length →
 bindArgs (PySem.W.fnOf x qual (defArgs st) (defBody st) (defScope st) .none kV doc pm an cdv ct) ⟨[u], ks.zip ws⟩ = (alloc { cls := .type "dict", data := .dict #[] } >>= fun d =>
  (forIn (ks.zip ws) PUnit.unit fun x _ => (nsSet d x.1 x.2 >>= fun _ => pure (ForInStep.yield PUnit.unit))) >>= fun _ => pure [(("self" : Str), u), (pv, .ref d)])
def AZ (C : Ct) (ks : List Str) (f : FX) (v : V) (zs : List V) (H : Hp) (Q : VK) (E : XK) : Prop := ∃ P β d es S, aP C H P β S ∧ (∀ a, P a → H a ≠ none ∧ a ∉ β) ∧ RV C H P β v d ∧ aA C H P β zs es ∧ (match f [d, .dct (oR ks es)] S with
 | .ok d S' => ∀ v H' β', Ext H β H' β' → aP C H' P β' S' → RV C H' P β' v d → Q v H'
 | .exc e S' => ∀ cls x H' β', Ext H β H' β' → aP C H' P β' S' → mD C H' P β' cls x e → E cls x H'
 | .stuck => False)
structure IV (P : Program) (w : World) (K : PySem.W.Frag) (mg : Str → Option Value) (base : Heap) (k : Nat) (st : Stmt) (pv : Str) (f : Addr) (g : FX) : Prop where
 run : ∀ (A : Around) (outer : List Env) (s : Shared) (H : Hp) (u : Value) (v : V) (ks : List Str) (ws : List Value) (zs : List V) (Q : VK) (E : XK), A.guards = some [] → Room k A → Env0 P w K mg base A outer s H →
  RelV v u → Vals zs ws → zs.length = ks.length → ks.Nodup → ks.length ≤ 1000 → Tf st pv ks → AZ ⟨K, mg, w, []⟩ ks g v zs H Q E → codeAny (model P w) A (.call (.ref f) ⟨[u], ks.zip ws⟩) (CR (L2.CX P w) outer P w H s Q E) s
theorem a2v (ks : List Str) (ws : List Value) : ((ks.zip ws).map fun x => ((.inr x.1 : Key), x.2)) = T9 ks ws := rfl
theorem Tg : ∀ {ks : List Str} (ws : List Value), ks.Nodup → ((ks.zip ws).map fun x => (Sum.inr x.1 : Key)).Nodup
 | [], _, _ => List.nodup_nil
 | _ :: _, [], _ => List.nodup_nil
 | k :: ks, w :: ws, h => by
  obtain ⟨h1, h2⟩ := List.nodup_cons.mp h
  rw [List.zip_cons_cons, List.map_cons]
  refine List.nodup_cons.mpr ⟨fun z => ?_, Tg ws h2⟩
  obtain ⟨x, hx, e⟩ := List.mem_map.mp z
  injection e with e
  have := (List.of_mem_zip hx).1
  rw [e] at this
  exact h1 this
theorem a2w {P : Program} {w : World} {K : PySem.W.Frag} {mg : Str → Option Value} {base : Heap} {x qual pv : Str} {st : Stmt} {f : Addr} {fd : FuncData} {N : List Str} {k : Nat} {m : SX} (F : Fun K x qual st f fd) (S : FnScope N ["self", pv] (defScope st))
  (hbody : ∀ (cdv : Value) (A : Around) (outer : List Env) (s : Shared) (H : Hp) (E : XK), (iJ P w K mg base N qual st f cdv A outer s H E).A.guards = some [] → Room k (iJ P w K mg base N qual st f cdv A outer s H E).A →
   jP ⟨K, mg, w, []⟩ (fun cls d _ H' => E cls d H') (iJ P w K mg base N qual st f cdv A outer s H E) (defBody st) m) : IV P w K mg base (k + 1) st pv f (aY N.length m) := by
 obtain ⟨oc, od, kV, doc, pm, an, cdv, ct, osl, rfl, lk, hcd⟩ := F.ex
 constructor
 intro A outer s H u v ks ws zs Q E hg hr e0 r rz hz hn hk hb hsp
 obtain ⟨Pf, β, d, es, St, st', hp, rv, rs, q⟩ := hsp
 have hnp : H s.heap.objs.size = Option.none := e0.hok.fresh (Nat.le_refl _)
 have hw : ws.length = ks.length := by rw [← rz.length]; exact hz
 refine StX.run_bnd lk hcd S hr e0 (G := fun xs H2 => ∃ p od, H p = Option.none ∧ xs = [v, V.ref p] ∧ H2 = upd H p (.frz od (.dK (jJ ks zs)))) (fun A' Ex Q' h => ?_) fun s2 H2 xs ⟨p, od, hp', ex, eH⟩ hr' => ?_
 ·rw [hb _ _ _ _ _ _ _ _ _ _ hw]
  refine wpAny_bind (wpAny_alloc ?_)
  refine wpAny_bind (T8 (P := P) (w := w) (ks.zip ws) _ [] (Heap.DictOf.new s.heap) (by rw [List.map_nil, List.nil_append]; exact Tg ws hn) fun h' t' m' sb => wpAny_pure ?_)
  rw [List.nil_append, a2v] at m'
  have kp : ∀ b o, s.heap.get? b = some o → h'.get? b = some o := fun b o e => (sb.2 b (Nat.ne_of_lt (Heap.lt_size e))).trans (Heap.get?_push_of_some _ e)
  have big := StX.env0_big e0
  have nd : ObjOk P w (upd H s.heap.objs.size (.dK (jJ ks zs))) h' s.heap.objs.size (.dK (jJ ks zs)) := dk_new (by rw [a2u hz, sizeLine_eq]; omega) (beq_eq_false_iff_ne.mpr (Ne.symm (Nat.ne_of_lt big))) (Td rz) m'
  obtain ⟨od, ods, ep, hod, _⟩ := id m'
  have new : ObjOk P w (upd H s.heap.objs.size (.frz od (.dK (jJ ks zs)))) h' s.heap.objs.size (.frz od (.dK (jJ ks zs))) := ⟨hod, nd⟩
  have un : Un (frs outer) [] H (upd H s.heap.objs.size (.frz od (.dK (jJ ks zs)))) s.heap h' := Un.laid kp (Nat.le_refl _) hnp
  have hsz : s.heap.objs.size ≤ h'.objs.size := Nat.le_of_lt (Heap.lt_size hod)
  have e1 : Env0 P w K mg base A outer { s with heap := h', toks := t' } (upd H s.heap.objs.size (.frz od (.dK (jJ ks zs)))) := by
   refine ⟨e0.frames, e0.mod, fun b x e => ⟨kp b x (e0.bs b x e).1, ?_⟩, ?_, Heap.FunFrames.of_keeps (fun b x e _ => ⟨x, kp b x e, rfl⟩) e0.funs, fun b hb => ?_, e0.hok.laid kp (Nat.le_refl _) new, e0.bare⟩
   ·rw [upd_ne (Nat.ne_of_lt (Heap.lt_size (e0.bs b x e).1))]
    exact (e0.bs b x e).2
   ·exact Nat.le_trans e0.bsz hsz
   ·obtain ⟨_, x, hx, _⟩ := e0.funs.mem hb
    rw [upd_ne (Nat.ne_of_lt (Heap.lt_size hx))]
    exact e0.frf b hb
  exact h { s with heap := h', toks := t' } _ [v, V.ref s.heap.objs.size] [u, Value.ref s.heap.objs.size] e1 un rfl (fun e s' => cxUp outer s H _ _ E e s' un kp rfl) (.cons r (.cons rfl .nil)) rfl ⟨_, od, hnp, rfl, rfl⟩
 ·subst ex eH
  have e1 : Ext H β (upd H p (.frz od (.dK (jJ ks zs)))) β := Ext.laid hp'
  refine ⟨_, hbody cdv A outer s2 _ E hg hr', ?_⟩
  have hpn : ¬ Pf p := fun z => (hp p z).1 hp'
  have hpb : p ∉ β := fun z => st'.mem z hp'
  have rds : aA ⟨K, mg, w, []⟩ (upd H p (.frz od (.dK (jJ ks zs)))) Pf β [v, V.ref p] [d, .dct (oR ks es)] :=
   .cons (rv.mono e1) (.cons (.dct hpn hpb ⟨od, upd_same⟩ ((Tc rs).mono e1)) .nil)
  have hpp : ∀ a, Pf a → (upd H p (.frz od (.dK (jJ ks zs)))) a ≠ none ∧ a ∉ β := fun a h => ⟨e1.stay a (hp a h).1, (hp a h).2⟩
  refine ⟨⟨upd H p (.frz od (.dK (jJ ks zs))), β, Pf, []⟩, _, Pf, β, _, St, LR.start (st'.laid hp') hpp rds, ?_⟩
  unfold aY at q
  have el : aY N.length m [d, .dct (oR ks es)] St = aY N.length m [d, .dct (oR ks es)] St := rfl
  simp only [List.length_cons, List.length_nil, Nat.zero_add, Nat.reduceAdd] at q ⊢
  cases e : m ([d, .dct (oR ks es)].map Sl.sh ++ List.replicate (N.length - 2) Sl.un) St with
  | nx ρ' S' =>
   rw [e] at q
   intro σ' H' β' bf P' L' f'
   exact q .non H' β' (e1.trans (L'.ext.done rfl)) (L'.st.less L'.sub) .non
  | rt d S' =>
   rw [e] at q
   intro v H' β' x' _ s' r'
   exact q v H' β' (e1.trans (x'.done rfl)) s' r'
  | bk ρ' S' => rw [e] at q; exact q.elim
  | ct ρ' S' => rw [e] at q; exact q.elim
  | exc ex ρ' S' =>
   rw [e] at q
   intro cls x σ' H' β' bf P' L' f' ea
   refine q cls x H' β' (e1.trans (L'.ext.done rfl)) (L'.st.less L'.sub) ?_
   obtain ⟨Ca, dd, vs, h1, h2, h3, h4, h6, h7, h5⟩ := ea
   exact ⟨Ca, dd, vs, h1, h2, h3, h4, h6, fun z => h7 (L'.sub _ z), fun f x hx => let ⟨v, q1, q2⟩ := h5 f x hx; ⟨v, q1, q2.less L'.sub⟩⟩
  | stuck => rw [e] at q; exact q.elim
end Mi
namespace Mi
open PySem PySem.Spec PyProof.Rows L2
structure yU (P : Program) (w : World) (K : PySem.W.Frag) (mg : Str → Option Value) (base : Heap) (k : Nat) (c m : Str) (st : Stmt) (pv : Str) (f : FX) : Prop where
 ex : ∃ (Ca fa : Addr), mg c = some (.ref Ca) ∧ Cls K Ca ∧ Meth K Ca m fa ∧ IV P w K mg base k st pv fa f
def mY (c m : Str) (f : FX) (ks : List Str) (mo : EX) (mk : AX) : EX := fun ρ S => (mo ρ S).bind fun d S1 => match cZ S1 d with
 | some (c', fs) => if c' = c ∧ fs.lookup m = none then (mk ρ S1).bind fun ws S2 => f [d, .dct (oR ks ws)] S2 else .stuck
 | none => .stuck
theorem a2y {C C' : Ct} (k : C'.K = C.K) (m : C'.mg = C.mg) {ks : List Str} {f : FX} {v : V} {zs : List V} {H : Hp} {Q : VK} {E : XK} (h : AZ C ks f v zs H Q E) : AZ C' ks f v zs H Q E := by
 obtain ⟨P, β, d, es, S, h1, h2, h3, h3', h4⟩ := h
 have r3 : aA C H P β [v] [d] := .cons h3 .nil
 have r3' := r3.ct k m
 refine ⟨P, β, d, es, S, h1.ct k m, h2, by cases r3' with | cons a b => exact a, h3'.ct k m, ?_⟩
 cases e : f [d, .dct (oR ks es)] S with
 | stuck => rw [e] at h4; exact h4
 | exc x S' => rw [e] at h4; exact fun cls d H' β' a b c => h4 cls d H' β' a (b.ct k.symm m.symm) (c.ct k.symm m.symm)
 | ok d S' => rw [e] at h4; exact fun v H' β' a b c => h4 v H' β' a (b.ct k.symm m.symm) (c.ct k.symm m.symm)
section
variable {X : Cx} {W : WX} {o : Expr} {kws : List Keyword} {mo : EX} {mk : AX} {pos apos : Pos} {c m pv : Str} {ks : List Str} {k j : Nat} {f : FX} {st : Stmt}
theorem a2z {C : Ct} {cf : Cf} {oa : Nat → Option Addr} {P : Addr → Prop} {σ : L2.St} {H H1 : Hp} {β β1 : List Addr} {ρ : aF} {S S1 : Store} {v : V} {d : D} {zs : List V} {es : List D} {Q : VK} (t : Tr false H β S H1 β1 S1) (L1 : LR C cf oa P σ H1 β1 ρ S1) (r : RV C H1 P β1 v d) (rs : aA C H1 P β1 zs es)
  (h : match f [d, .dct (oR ks es)] S1 with
   | .ok d S' => ∀ v H' β', Tr false H β S H' β' S' → LR C cf oa P σ H' β' ρ S' → RV C H' P β' v d → Q v H'
   | .exc e S' => XP C W cf oa P σ false H β ρ S e S'
   | .stuck => False) : AZ C ks f v zs H1 Q (WE W σ) := by
 refine ⟨P, β1, d, es, S1, L1.st, L1.p, r, rs, ?_⟩
 cases ef : f [d, .dct (oR ks es)] S1 with
 | stuck => rw [ef] at h; exact h
 | exc e S' =>
  rw [ef] at h
  intro cls x H' β' e1 s1 ea
  exact h cls x H' β' ⟨t.ext.trans e1, fun z => nomatch z⟩ (L1.step e1 s1) ea
 | ok d S' =>
  rw [ef] at h
  intro v H' β' e1 s1 rv
  exact h v H' β' ⟨t.ext.trans e1, fun z => nomatch z⟩ (L1.step e1 s1) rv
theorem a2A {σ : L2.St} {H : Hp} {Q : VK} (M : yU X.prog X.w X.K X.mg X.base k c m st pv f) (h2 : i7 mk ks.length) (h : EM (aj X) W false (mY c m f ks mo mk) σ H Q) :
  EM (aj X) W false mo σ H fun x H1 => ∃ a Ca dx vs fa, x = .ref a ∧ H1 a = some (.ins Ca dx vs) ∧ vs.lookup m = none ∧ Cls X.K Ca ∧ Meth X.K Ca m fa ∧ IV X.prog X.w X.K X.mg X.base k st pv fa f ∧
   AM (aj X) W false mk σ H1 fun zs H2 => zs.length = ks.length ∧ AZ (aj X) ks f x zs H2 Q (WE W σ) := by
 obtain ⟨cf, oa, P, β, ρ, S, L, h⟩ := h
 refine ⟨cf, oa, P, β, ρ, S, L, ?_⟩
 unfold mY at h
 cases eo : mo ρ S with
 | stuck => rw [eo] at h; exact h
 | exc e S1 => rw [eo] at h; exact h
 | ok d S1 =>
  rw [eo] at h
  simp only [R.bind] at h
  intro x H1 β1 t1 L1 r1
  cases er : cZ S1 d with
  | none => rw [er] at h; exact h.elim
  | some q =>
   obtain ⟨c', fs⟩ := q
   rw [er] at h
   simp only at h
   by_cases hc : c' = c ∧ fs.lookup m = none
   case neg => rw [if_neg hc] at h; exact h.elim
   rw [if_pos hc] at h
   obtain ⟨rfl, ef⟩ := hc
   obtain ⟨a, nn, Ca, dx, vs, rfl, eS, rfl, hn, hm, hH, hf⟩ := yF r1 L1.st er
   obtain ⟨qu, fa, g1, g2, g3, g4⟩ := M.ex
   have sE : qu = Ca := by have z := g1.symm.trans hm; injection z with z; injection z
   subst sE
   refine ⟨a, qu, dx, vs, fa, rfl, hH, Dt hf ef, g2, g3, g4, cf, oa, P, β1, ρ, S1, L1, ?_⟩
   cases eb : mk ρ S1 with
   | stuck => rw [eb] at h; exact h
   | exc e S3 => rw [eb] at h; intro cls d H' β' e2 L2 ex; exact h cls d H' β' (t1.trans e2) L2 ex
   | ok ws S3 =>
    rw [eb] at h
    simp only at h
    intro zv H3 β3 t3 L3 r3
    exact ⟨by rw [r3.length]; exact h2 _ _ _ _ eb, a2z (t1.trans t3) L3 (r1.mono t3.ext) r3 h⟩
theorem wH {pl : Sem Bool} (M : yU X.prog X.w X.K X.mg X.base k c m st pv f) (hB : Tf st pv ks) (hn : ks.Nodup) (hgd : X.A.guards = some []) (hr : Room j X.A) (hkj : k ≤ j) (tk : Takes X W) (ho : PM (aj X) W false X o mo) (hkw : tX (aj X) W false X kws mk) (h2 : i7 mk ks.length) (hl : ks.length ≤ 1000)
  (hall : (backToKw pos (keywordEach kws X.env)).all (·.1.isSome) = true := by rfl) (hks : (backToKw pos (keywordEach kws X.env)).filterMap (·.1) = ks := by rfl)
  (hpl : ((backTo pos (starEach [] X.env)).any (·.1) || (backToKw pos (keywordEach kws X.env)).any (·.1.isNone)) = false := by rfl)
  (ht : eval (.Call (.Attribute o m apos) [] kws pos) X.env = (do
   let ov ← eval o X.env
   standAt apos.atName
   let (f, first) ← holding [ov] (getMethod ov m pl)
   callWith pos f first (backTo pos (starEach [] X.env)) (backToKw pos (keywordEach kws X.env))) := by rfl) :
  PM (aj X) W false X (.Call (.Attribute o m apos) [] kws pos) (mY c m f ks mo mk) := by
 refine ⟨fun pins s σ H Q I h => ?_⟩
 refine PySem.W.methodCall_KW (pl := pl) (thn (ho.run pins s σ H _ I (a2A M h2 h)) fun u s1 ⟨x, H1, I1, rx, a, Ca, dx, vs, fa, ex, ea, l, c, hm, G, q⟩ => ?_) ht
 subst ex
 obtain rfl : u = Value.ref a := rx
 refine getmeth_ok I1 ea c hm l ?_
 refine PySem.W.callWith_KW0 (first := [.ref a]) (h₀ := X.base) I.ok.mod.kin hm.kp hall (thn (hkw.run pos pins s1 σ H1 _ I1 q) fun ws s3 ⟨zs, H3, I3, rz, n2, q3⟩ => ⟨I3.kIn, ?_⟩) hpl
 rw [hks]
 have q3' := a2y (C := aj X) (C' := ⟨X.K, X.mg, X.w, []⟩) rfl rfl q3
 refine wpAny_call (codeAny_mono (G.run X.A X.stack s3 H3 (.ref a) (.ref a) ks ws zs Q (WE W σ) hgd (hr.mono hkj) I3.env0 rfl rz n2 hn hl hB q3') fun r s' hq => ?_)
 cases r with
 | error e => exact passAt tk σ pins H3 s3 e s' I3 hq
 | ok fl =>
  cases fl with
  | ret u => exact I3.after hq
  | next => exact False.elim hq
  | brk => exact False.elim hq
  | cont => exact False.elim hq
end
section
variable {ρ : aF} {S : Store} {ma mb mo : EX} {mk : AX} {Q : D → Store → Prop} {E : bD → Store → Prop} {c m : Str} {f : FX} {ks : List Str}
theorem a2C : (AY ma mb ρ S).al Q E ↔ (ma ρ S).al (fun x S1 => ∃ kvs, aU S1 x = some kvs ∧ kvs.length ≤ 1000 ∧ (mb ρ S1).al (fun y S2 => ∃ more, aU S2 y = some more ∧ more.length ≤ 1000 ∧ Q (.dct (pZ (pZ [] kvs) more)) S2) E) E := by
 unfold AY
 rw [bM]
 refine iff_of_eq (congrArg (fun z => R.al (ma ρ S) z _) (funext fun x => funext fun S1 => propext ?_))
 cases ek : aU S1 x with
 | none => exact ⟨fun z => z.elim, fun ⟨_, e, _⟩ => by cases e⟩
 | some kvs =>
  simp only [Option.some.injEq, exists_eq_left']
  by_cases hl : kvs.length ≤ 1000
  case neg => rw [if_neg hl]; exact ⟨fun z => z.elim, fun z => absurd z.1 hl⟩
  rw [if_pos hl, bM]
  refine ⟨fun z => ⟨hl, ?_⟩, fun z => ?_⟩
  ·refine mV z (fun y S2 q => ?_) fun _ _ q => q
   cases em : aU S2 y with
   | none => rw [em] at q; exact q.elim
   | some more =>
    rw [em] at q
    simp only at q
    by_cases hm : more.length ≤ 1000
    ·rw [if_pos hm] at q; exact ⟨more, rfl, hm, q⟩
    ·rw [if_neg hm] at q; exact q.elim
  ·refine mV z.2 (fun y S2 q => ?_) fun _ _ q => q
   obtain ⟨more, em, hm, q⟩ := q
   rw [em]
   simp only
   rw [if_pos hm]
   exact q
theorem wI : (mY c m f ks mo mk ρ S).al Q E ↔ (mo ρ S).al (fun d S1 => ∃ fs, cZ S1 d = some (c, fs) ∧ fs.lookup m = none ∧ (mk ρ S1).al (fun ws S2 => (f [d, .dct (oR ks ws)] S2).al Q E) E) E := by
 unfold mY
 rw [bM]
 refine iff_of_eq (congrArg (fun z => R.al (mo ρ S) z _) (funext fun d => funext fun S1 => propext ?_))
 cases er : cZ S1 d with
 | none => exact ⟨fun z => z.elim, fun ⟨_, e, _⟩ => by cases e⟩
 | some q =>
  obtain ⟨c', fs⟩ := q
  simp only [Option.some.injEq, Prod.mk.injEq]
  by_cases hc : c' = c ∧ fs.lookup m = none
  ·rw [if_pos hc, bM]
   exact ⟨fun z => ⟨fs, ⟨hc.1, rfl⟩, hc.2, z⟩, fun ⟨fs', ⟨_, e⟩, _, z⟩ => z⟩
  ·rw [if_neg hc]
   exact ⟨fun z => z.elim, fun ⟨fs', ⟨e1, e2⟩, e3, _⟩ => (hc ⟨e1, e2 ▸ e3⟩).elim⟩
end
def Tj (K : PySem.W.Frag) (C : Addr) (f x : Str) : Bool := PySem.W.readsIn K C (.type "type") && (He.eqO (PySem.W.specialIn K (.ref C) "__getattribute__") (some (some (.builtin "type.__getattribute__"))) && ((match PySem.W.findCls K (.ref C) (.type "type") f with
 | some (.val (.str y _)) => decide (y = x)
 | _ => false) && ((match PySem.W.findIn K (.ref C) f with
 | some (some (.str y t)) => decide (y = x) && He.eqO (PySem.W.specialIn K (.str y t) "__get__") (some none)
 | _ => false) && !PySem.W.copiedNames.contains f)))
structure IW (K : PySem.W.Frag) (mg : Str → Option Value) (c f x : Str) : Prop where
 ex : ∃ Ca mc u u', mg c = some (.ref Ca) ∧ PySem.W.keepIn K (.ref Ca) = true ∧ ClX.CRead K Ca mc ∧ ClX.CVal K Ca mc f (.str x) u ∧ Con K Ca f (.str x) u' ∧ Cls K Ca
theorem a2D {K : PySem.W.Frag} {C : Addr} {f x : Str} (h : Tj K C f x = true) : ClX.CRead K C (.type "type") ∧ (∃ u, ClX.CVal K C (.type "type") f (.str x) u) ∧ ∃ u, Con K C f (.str x) u := by
 unfold Tj at h
 obtain ⟨h1, h⟩ := Bool.and_eq_true_iff.mp h
 obtain ⟨h2, h⟩ := Bool.and_eq_true_iff.mp h
 obtain ⟨h3, h⟩ := Bool.and_eq_true_iff.mp h
 obtain ⟨h4, h5⟩ := Bool.and_eq_true_iff.mp h
 refine ⟨⟨h1, He.eqO_ok h2⟩, ?_, ?_⟩
 ·split at h3
  ·rename_i y t e
   have := of_decide_eq_true h3
   subst this
   exact ⟨_, e, _, rfl⟩
  ·cases h3
 ·split at h4
  ·rename_i y t e
   obtain ⟨h6, h7⟩ := Bool.and_eq_true_iff.mp h4
   have := of_decide_eq_true h6
   subst this
   exact ⟨_, e, ⟨_, rfl⟩, He.eqO_ok h7, by simpa using h5⟩
  ·cases h4
section
variable {X : Cx} {W : WX} {b : Bool} {c f x : Str} {o : Expr} {mo : EX} {pos p : Pos}
theorem a2E (h : IW X.K X.mg c f x) (hg : Gl X c := by rfl) (hd : (c == ("__debug__" : Str)) = false := by decide) (hb : attributeBase (.Name c p) f X.env (eval (.Name c p) X.env) = eval (.Name c p) X.env := by rfl) : PM (aj X) W b X (.Attribute (.Name c p) f pos) (mC (.str x)) := by
 obtain ⟨Ca, mc, u, u', hm, hk, r, k, _, _⟩ := h.ex
 refine bW (ClX.pe_cval (pe_glob (v := .ref Ca) hg hm rfl hd) hb) fun σ H Q h => ?_
 exact ⟨Ca, mc, .str x, u, rfl, r, k, vq (fun _ _ _ => .str x) h⟩
/-- o.f, f a constant of the class c -/
def B4 (c f x : Str) (mo : EX) : EX := fun ρ S => (mo ρ S).bind fun d S1 => match cZ S1 d with
 | some (c', fs) => if c' = c ∧ fs.lookup f = none then .ok (.str x) S1 else .stuck
 | none => .stuck
theorem a2F (hv : IW X.K X.mg c f x) (ho : PM (aj X) W b X o mo) (hb : attributeBase o f X.env (eval o X.env) = eval o X.env := by rfl) : PM (aj X) W b X (.Attribute o f pos) (B4 c f x mo) := by
 obtain ⟨Ca, mc, u, u', hm, _, _, _, hc, hC⟩ := hv.ex
 refine bW (pe_con ho hb) fun σ H Q h => ?_
 obtain ⟨cf, oa, P, β, ρ, S, L, h⟩ := h
 refine ⟨cf, oa, P, β, ρ, S, L, ?_⟩
 unfold B4 at h
 cases eo : mo ρ S with
 | stuck => rw [eo] at h; exact h
 | exc e S1 => rw [eo] at h; exact h
 | ok d S1 =>
  rw [eo] at h
  simp only [R.bind] at h
  intro v H1 β1 t1 L1 r1
  cases er : cZ S1 d with
  | none => rw [er] at h; exact h.elim
  | some q =>
   obtain ⟨c', fs⟩ := q
   rw [er] at h
   simp only at h
   by_cases hcc : c' = c ∧ fs.lookup f = none
   case neg => rw [if_neg hcc] at h; exact h.elim
   rw [if_pos hcc] at h
   obtain ⟨rfl, ef⟩ := hcc
   obtain ⟨a, nn, qu, dx, vs, rfl, eS, rfl, hn, hm', hH, hf⟩ := yF r1 L1.st er
   have sE : Ca = qu := by have z := hm.symm.trans hm'; injection z with z; injection z
   subst sE
   exact ⟨a, Ca, dx, vs, .str x, u', rfl, hH, hC, hc, Dt hf ef, h (.str x) H1 β1 t1 L1 (.str x)⟩
theorem a2G {ρ : aF} {S : Store} {Q : D → Store → Prop} {E : bD → Store → Prop} : (B4 c f x mo ρ S).al Q E ↔ (mo ρ S).al (fun d S1 => ∃ fs, cZ S1 d = some (c, fs) ∧ fs.lookup f = none ∧ Q (.str x) S1) E := by
 unfold B4
 rw [bM]
 refine iff_of_eq (congrArg (fun z => R.al (mo ρ S) z _) (funext fun d => funext fun S1 => propext ?_))
 cases er : cZ S1 d with
 | none => exact ⟨fun z => z.elim, fun ⟨_, e, _⟩ => by cases e⟩
 | some q =>
  obtain ⟨c', fs⟩ := q
  simp only [Option.some.injEq, Prod.mk.injEq]
  by_cases hc : c' = c ∧ fs.lookup f = none
  ·rw [if_pos hc]
   exact ⟨fun z => ⟨fs, ⟨hc.1, rfl⟩, hc.2, z⟩, fun ⟨fs', _, _, z⟩ => z⟩
  ·rw [if_neg hc]
   exact ⟨fun z => z.elim, fun ⟨fs', ⟨e1, e2⟩, e3, _⟩ => (hc ⟨e1, e2 ▸ e3⟩).elim⟩
end
end Mi
namespace aH
open PySem PySem.Spec PyProof.Rows L2 Mi
abbrev lQ : List Str := ["Program"]
abbrev lU : List Str := ["Program"]
abbrev lV : List Str := ["Program"]
abbrev iD : List Str := ["Program"]
abbrev wJ : List Str := ["Program"]
abbrev DI : List Str := ["Program"]
def iT : List ((Str × Str) × Bool) := [(("Program", "Program"), true)]
def iU : List ((Str × String) × Bool) := []
abbrev jt : List Str := ["InvalidProgram", "UnknownBudget"]
def xT : List ((Str × Str) × Bool) := []
def xU : List ((Str × String) × Bool) := []
def wL : List (Str × Bool) := [("InvalidProgram", true), ("UnknownBudget", false)]
def yV : List (Str × Bool) := [("InvalidProgram", false), ("UnknownBudget", true)]
abbrev oU : List Str := ["reason", "path"]
def mZ : EX := uz [(mC (.str "invalid program: ")), (cW yr (ak 1)), (mC (.str " at ")), (cW jF (ak 2))]
abbrev IX : List Str := ["value"]
def Tn : EX := uz [(mC (.str "unknown budget: ")), (cW jF (ak 1))]
abbrev To : List Str := ["_law_script", "_law_k", "_law_cell"]
abbrev DJ : List Str := ["_law_script", "_law_k"]
def Tp : SX := aN (eG 2 (mG (bH (aC tY (ak 1) (aQ fH (ao (ak 0) (aq))))) (aC bA (ak 0) (ak 1)) (aC fD (aC jQ (mC (.int 13)) (ak 1)) (mC (.int 6))))) <|
 aW (xC (dZ (ao (aQ vQ (ao (mC (.int 0)) (ao (aC xK (aQ u9 (ao (ak 2) (aq))) (aC o7 (mC (.int 10)) (mC (.int 18)))) (aq)))) (ao (aC fD (aC fD (aC mO (aQ u9 (ao (ak 2) (aq))) (mC (.int 2147483579))) (aC jQ (mC (.int 307)) (ak 1))) (mC (.int 11))) (aq)))))
def DK : FX := aY To.length Tp
abbrev Tq : List Str := ["_law_rng_here", "_law_many", "_law_digit"]
abbrev DL : List Str := ["_law_rng_here", "_law_many"]
def Tt : SX := aN (cI (bH (aC vK (aC bA (ak 0) (mC (.int 0))) (mC (.int 0)))) (aN (nW (aQ Ah (ao (aC bA (ak 0) (mC (.int 0))) (ao (ak 1) (aq)))) (fU (bL (uf (ak 0) (mC (.int 0))) (bL (aX 2) (gq))))) <|
 aW (ak 2)) (dN)) <|
 aN (nW (aC mO (aC fD (aC jQ (aC bA (ak 0) (mC (.int 1))) (mC (.int 48271))) (mC (.int 20011))) (mC (.int 2147483399))) (uf (ak 0) (mC (.int 1)))) <|
 aW (aC mO (aC Ae (aC mO (aC jQ (aC bA (ak 0) (mC (.int 1))) (aC bA (ak 0) (mC (.int 1)))) (mC (.int 2147483323))) (mC (.int 13))) (ak 1))
def kh : FX := aY Tq.length Tt
abbrev Tv : List Str := ["value"]
abbrev B5 : List Str := ["value"]
def Tw : SX := aW (fu (aQ eE (ao (ak 0) (ao (mC (.ty "int")) (aq)))) (vB (aQ eE (ao (ak 0) (ao (mC (.ty "bool")) (aq))))))
def oV : FX := aY Tv.length Tw
abbrev Tz : List Str := ["value"]
abbrev B6 : List Str := ["value"]
def IY : SX := aW (fu (bF oV [0] (ao (ak 0) (aq)) (aq)) (pM o8 o8 (mC (.int 0)) (ak 0) (mC (.int 1000000000000))))
def kE : FX := aY Tz.length IY
abbrev TF : List Str := ["self", "value"]
abbrev B7 : List Str := ["self", "value"]
def J5 : SX := aW (fu (aQ eE (ao (ak 1) (ao (mC (.ty "str")) (aq)))) (aC Di (ak 1) (cC lV "own_amounts" (ak 0))))
def ni : FX := aY TF.length J5
abbrev TH : List Str := ["self", "value"]
abbrev DM : List Str := ["self", "value"]
def DN : SX := cI (eY (eX (fY [("Program", ⟨[0, 1], [], ni⟩)] "has_budget" (ak 0) (ao (ak 1) (aq)) (aq)))) (jo "UnknownBudget" IX Tn (ao (ak 1) (aq))) (dN)
def jK : FX := aY TH.length DN
abbrev J8 : List Str := ["value", "letter"]
abbrev uN : List Str := ["value"]
def J9 : SX := aN (cI (fR (eY (eX (aQ eE (ao (ak 0) (ao (mC (.ty "str")) (aq)))))) (eY (bH (pM o8 o8 (mC (.int 1)) (aQ fH (ao (ak 0) (aq))) (mC (.int 8)))))) (aW (mC (.bl false))) (dN)) <|
 aW (aQ oh (ao (mK (lA (ak 0)) [1] (aX 1) (i6) (aC jc (ak 1) (mC (.str "abcdefghijklmnopqrstuvwxyz")))) (aq)))
def gR : FX := aY J8.length J9
abbrev TJ : List Str := ["budgets", "name", "amount"]
abbrev DP : List Str := ["budgets"]
def Ja : SX := aN (cI (fR (eY (eX (aQ eE (ao (ak 0) (ao (mC (.ty "dict")) (aq)))))) (bH (aC uF (mC (.str "steps")) (ak 0)))) (jo "InvalidProgram" oU mZ (ao (mC (.str "budgets")) (ao (bY (aq)) (aq)))) (dN)) <|
 lK (ak 0) (gW (iF jG (ak 0)) (fU (bL (aX 1) (bL (aX 2) (gq)))) (cI (fR (eY (eX (bF gR [0] (ao (ak 1) (aq)) (aq)))) (eY (eX (bF kE [0] (ao (ak 2) (aq)) (aq))))) (jo "InvalidProgram" oU mZ (ao (mC (.str "budget")) (ao (bY (ao (ak 1) (aq))) (aq)))) (dN)))
def yW : FX := aY TJ.length Ja
abbrev TN : List Str := ["returnable", "budgets", "position", "name"]
abbrev DQ : List Str := ["returnable", "budgets"]
def Jb : SX := aN (cI (eY (eX (aQ eE (ao (ak 0) (ao (mC (.ty "tuple")) (aq)))))) (jo "InvalidProgram" oU mZ (ao (mC (.str "returnable")) (ao (bY (aq)) (aq)))) (dN)) <|
 gW (jR rO (ao (ak 0) (aq))) (fU (bL (aX 2) (bL (aX 3) (gq)))) (cI (fR (eY (eX (aQ eE (ao (ak 3) (ao (mC (.ty "str")) (aq)))))) (fR (bH (aC uF (ak 3) (ak 1))) (fR (bH (aC cX (ak 3) (mC (.str "steps")))) (bH (aC jc (ak 3) (yg (ak 0) (CV) (yd (ak 2)))))))) (jo "InvalidProgram" oU mZ (ao (mC (.str "returnable")) (ao (bY (ao (ak 2) (aq))) (aq)))) (dN))
def yX : FX := aY TN.length Jb
abbrev Jc : List Str := ["value", "name"]
abbrev Bb : List Str := ["value"]
def Jd : SX := aN (cI (fR (eY (eX (aQ eE (ao (ak 0) (ao (mC (.ty "tuple")) (aq)))))) (eY (eX (aQ oh (ao (mK (lA (ak 0)) [1] (aX 1) (i6) (bF gR [0] (ao (ak 1) (aq)) (aq))) (aq)))))) (aW (mC (.bl false))) (dN)) <|
 aW (aC cX (cW yR (ak 0)) (aQ fH (ao (ak 0) (aq))))
def qG : FX := aY Jc.length Jd
abbrev TQ : List Str := ["value"]
abbrev DR : List Str := ["value"]
def Je : SX := aW (fu (aQ eE (ao (ak 0) (ao (mC (.ty "tuple")) (aq)))) (fu (aC cX (aQ fH (ao (ak 0) (aq))) (mC (.int 3))) (fu (bF qG [0] (ao (aC bA (ak 0) (mC (.int 0))) (aq)) (aq)) (bF qG [0] (ao (aC bA (ak 0) (mC (.int 2))) (aq)) (aq)))))
def yY : FX := aY TQ.length Je
abbrev TR : List Str := ["procedures", "name", "procedure"]
abbrev DU : List Str := ["procedures"]
def Jf : SX := aN (cI (eY (eX (aQ eE (ao (ak 0) (ao (mC (.ty "dict")) (aq)))))) (jo "InvalidProgram" oU mZ (ao (mC (.str "procedures")) (ao (bY (aq)) (aq)))) (dN)) <|
 lK (ak 0) (gW (iF jG (ak 0)) (fU (bL (aX 1) (bL (aX 2) (gq)))) (cI (fR (eY (eX (bF gR [0] (ao (ak 1) (aq)) (aq)))) (eY (eX (bF yY [0] (ao (ak 2) (aq)) (aq))))) (jo "InvalidProgram" oU mZ (ao (mC (.str "procedure")) (ao (bY (ao (ak 1) (aq))) (aq)))) (dN)))
def yZ : FX := aY TR.length Jf
abbrev Jg : List Str := ["statement", "index", "kind"]
abbrev Bc : List Str := ["statement"]
def Jh : SX := aW (mK (jR rO (ao (cW (jT iH) (aC bA (ak 0) (mC (.int 0)))) (aq))) [1, 2] (fU (bL (aX 1) (bL (aX 2) (gq)))) (bH (aC cX (ak 2) (mC (.str "body")))) (aC fD (ak 1) (mC (.int 1))))
def uO : FX := aY Jg.length Jh
abbrev Ji : List Str := ["value"]
abbrev DV : List Str := ["value"]
def Be : SX := aW (fu (bF oV [0] (ao (ak 0) (aq)) (aq)) (pM o8 o8 (cW xM (mC (.int 1000000000000000000))) (ak 0) (mC (.int 1000000000000000000))))
def oW : FX := aY Ji.length Be
abbrev TU : List Str := ["value"]
abbrev Bf : List Str := ["value"]
def Jj : SX := aW (vA (bF oW [0] (ao (ak 0) (aq)) (aq)) (bF gR [0] (ao (ak 0) (aq)) (aq)))
def sH : FX := aY TU.length Jj
abbrev Jk : List Str := ["value", "operand"]
abbrev DW : List Str := ["value"]
def Jl : SX := aW (fu (aQ eE (ao (ak 0) (ao (mC (.ty "tuple")) (aq)))) (aQ oh (ao (mK (lA (ak 0)) [1] (aX 1) (i6) (bF sH [0] (ao (ak 1) (aq)) (aq))) (aq))))
def wM : FX := aY Jk.length Jl
abbrev TV : List Str := ["value"]
abbrev DY : List Str := ["value"]
def Jm : SX := aW (fu (aQ eE (ao (ak 0) (ao (mC (.ty "str")) (aq)))) (aC jc (ak 0) (mC (.tup [.str "+", .str "-", .str "*", .str "min", .str "max", .str "less"]))))
def wN : FX := aY TV.length Jm
abbrev TX : List Str := ["value"]
abbrev DZ : List Str := ["value"]
def Jo : SX := aW (fu (aQ eE (ao (ak 0) (ao (mC (.ty "str")) (aq)))) (aC jc (ak 0) (mC (.tup [.str "keep", .str "restore"]))))
def wO : FX := aY TX.length Jo
abbrev TY : List Str := ["self", "kind", "value"]
abbrev E3 : List Str := ["self", "kind", "value"]
def Jp : SX := aN (cI (bH (aC cX (ak 1) (mC (.str "budget")))) (aW (fY [("Program", ⟨[0, 1], [], ni⟩)] "has_budget" (ak 0) (ao (ak 2) (aq)) (aq))) (dN)) <|
 aN (cI (bH (aC cX (ak 1) (mC (.str "returnable")))) (aW (fu (fY [("Program", ⟨[0, 1], [], ni⟩)] "has_budget" (ak 0) (ao (ak 2) (aq)) (aq)) (aC jc (ak 2) (cC lQ "given_back" (ak 0))))) (dN)) <|
 aW (vA (aC cX (ak 1) (mC (.str "body"))) (Ao [("is_name", gR), ("is_operand", sH), ("is_operator", wN), ("is_kind", wO), ("are_operands", wM), ("are_names", qG)] (cW (jT oZ) (ak 1)) (ao (ak 2) (aq))))
def sJ : FX := aY TY.length Jp
abbrev U0 : List Str := ["self", "call", "parameters", "body", "results"]
abbrev E4 : List Str := ["self", "call"]
def Jq : SX := aN (cI (bH (aC uF (aC bA (ak 1) (mC (.int 1))) (cC iD "routines" (ak 0)))) (aW (mC (.bl false))) (dN)) <|
 aN (nW (aC iW (cC iD "routines" (ak 0)) (aC bA (ak 1) (mC (.int 1)))) (fU (bL (aX 2) (bL (aX 3) (bL (aX 4) (gq)))))) <|
 aW (fu (aC cX (aQ fH (ao (aC bA (ak 1) (mC (.int 2))) (aq))) (aQ fH (ao (ak 2) (aq)))) (aC cX (aQ fH (ao (aC bA (ak 1) (mC (.int 3))) (aq))) (aQ fH (ao (ak 4) (aq)))))
def uP : FX := aY U0.length Jq
abbrev E5 : List Str := ["self", "value", "kinds", "kind", "one", "name"]
abbrev E6 : List Str := ["self", "value"]
def Jr : SX := aN (cI (fR (eY (eX (aQ eE (ao (ak 1) (ao (mC (.ty "tuple")) (aq)))))) (fR (bH (aC cX (ak 1) (bY (aq)))) (fR (eY (eX (aQ eE (ao (aC bA (ak 1) (mC (.int 0))) (ao (mC (.ty "str")) (aq)))))) (bH (cW (Ax iH) (aC bA (ak 1) (mC (.int 0)))))))) (aW (mC (.bl false))) (dN)) <|
 aN (eG 2 (cW (jT iH) (aC bA (ak 1) (mC (.int 0))))) <|
 aN (cI (fR (bH (aC jk (aQ fH (ao (ak 1) (aq))) (aC fD (mC (.int 1)) (aQ fH (ao (ak 2) (aq)))))) (eY (eX (aQ oh (ao (mK (jR vZ (ao (ak 2) (ao (yg (ak 1) (yd (mC (.int 1))) (CV)) (aq)))) [3, 4] (fU (bL (aX 3) (bL (aX 4) (gq)))) (i6) (fY [("Program", ⟨[0, 1, 2], [], sJ⟩)] "fits" (ak 0) (ao (ak 3) (ao (ak 4) (aq))) (aq))) (aq)))))) (aW (mC (.bl false))) (dN)) <|
 aN (cI (bH (aC cX (aC bA (ak 1) (mC (.int 0))) (mC (.str "both")))) (aW (vB (aQ Ai (ao (mK (lA (aC bA (ak 1) (mC (.int 2)))) [5] (aX 5) (i6) (aC jc (ak 5) (aC bA (ak 1) (mC (.int 4))))) (aq))))) (dN)) <|
 aW (vA (aC jk (aC bA (ak 1) (mC (.int 0))) (mC (.str "call"))) (fY [("Program", ⟨[0, 1], [], uP⟩)] "fits_procedure" (ak 0) (ao (ak 1) (aq)) (aq)))
def wQ : FX := aY E5.length Jr
abbrev U3 : List Str := ["self", "body", "path", "index", "statement", "place"]
abbrev z7 : List Str := ["self", "body", "path"]
def E7 (a2H : FX) : SX := aN (cI (eY (eX (aQ eE (ao (ak 1) (ao (mC (.ty "tuple")) (aq)))))) (jo "InvalidProgram" oU mZ (ao (mC (.str "body")) (ao (ak 2) (aq)))) (dN)) <|
 gW (jR rO (ao (ak 1) (aq))) (fU (bL (aX 3) (bL (aX 4) (gq)))) (aN (cI (eY (eX (fY [("Program", ⟨[0, 1], [], wQ⟩)] "is_statement" (ak 0) (ao (ak 4) (aq)) (aq)))) (jo "InvalidProgram" oU mZ (ao (mC (.str "statement")) (ao (aC fD (ak 2) (bY (ao (ak 3) (aq)))) (aq)))) (dN)) <|
 gW (lA (bF uO [0] (ao (ak 4) (aq)) (aq))) (aX 5) (jB (fY [("Program", ⟨[0, 1, 2], [], a2H⟩)] "check_body" (ak 0) (ao (aC bA (ak 4) (ak 5)) (ao (aC fD (ak 2) (bY (ao (ak 3) (ao (ak 5) (aq))))) (aq))) (aq))))
def kI : Nat → FX
 | 0 => fun _ _ => .stuck
 | n + 1 => aY U3.length (E7 (kI n))
abbrev U4 : List Str := ["body", "found", "statement", "place"]
abbrev z8 : List Str := ["body"]
def E8 (a2I : FX) : SX := aN (eG 1 (xC (dZ (aq)))) <|
 aN (gW (lA (ak 0)) (aX 2) (aN (uh 1 (ak 2)) <|
 gW (lA (bF uO [0] (ao (ak 2) (aq)) (aq))) (aX 3) (yO 1 (bF a2I [0] (ao (aC bA (ak 2) (ak 3)) (aq)) (aq))))) <|
 aW (ak 1)
def qH : Nat → FX
 | 0 => fun _ _ => .stuck
 | n + 1 => aY U4.length (E8 (qH n))
abbrev U5 : List Str := ["self", "found", "routine"]
abbrev E9 : List Str := ["self"]
def Jt : SX := aN (eG 1 (bF (qH 60) [0] (ao (cC lU "main" (ak 0)) (aq)) (aq))) <|
 aN (lK (cC iD "routines" (ak 0)) (gW (iF uG (cC iD "routines" (ak 0))) (aX 2) (yO 1 (bF (qH 60) [0] (ao (aC bA (ak 2) (mC (.int 1))) (aq)) (aq))))) <|
 aW (ak 1)
def wR : FX := aY U5.length Jt
abbrev lW : List (Str × D) := [("returnable", .tup []), ("procedures", .non)]
abbrev Ea : List Str := ["self", "budgets", "body", "returnable", "procedures", "routines", "name", "routine"]
abbrev Bg : List Str := ["self", "budgets", "body", "returnable", "procedures"]
def Ju : SX := aN (eG 5 (mG (bH (aC xQ (ak 4) (mC .non))) (Ar) (ak 4))) <|
 aN (jB (bF yW [0] (ao (ak 1) (aq)) (aq))) <|
 aN (jB (bF yX [0, 1] (ao (ak 3) (ao (ak 1) (aq))) (aq))) <|
 aN (jB (bF yZ [0] (ao (ak 5) (aq)) (aq))) <|
 aN (su lV "own_amounts" (ak 0) (wB (lA (aQ qC (ao (ak 1) (aq)))) [6] (aX 6) (i6) (ak 6) (aC iW (ak 1) (ak 6)))) <|
 aN (su lQ "given_back" (ak 0) (aQ fTuple (ao (aQ uM (ao (ak 3) (aq))) (aq)))) <|
 aN (su iD "routines" (ak 0) (wB (lA (aQ qC (ao (ak 5) (aq)))) [6] (aX 6) (i6) (ak 6) (aC iW (ak 5) (ak 6)))) <|
 aN (su lU "main" (ak 0) (ak 2)) <|
 aN (jB (fY [("Program", ⟨[0, 1, 2], [], (kI 60)⟩)] "check_body" (ak 0) (ao (ak 2) (ao (bY (ao (mC (.str "")) (aq))) (aq))) (aq))) <|
 aN (lK (cC iD "routines" (ak 0)) (gW (iF jG (cC iD "routines" (ak 0))) (fU (bL (aX 6) (bL (aX 7) (gq)))) (jB (fY [("Program", ⟨[0, 1, 2], [], (kI 60)⟩)] "check_body" (ak 0) (ao (aC bA (ak 7) (mC (.int 1))) (ao (bY (ao (ak 6) (aq))) (aq))) (aq))))) <|
 su wJ "statement_list" (ak 0) (fY [("Program", ⟨[0], [], wR⟩)] "all_statements" (ak 0) (aq) (aq))
def jf : FX := aY Ea.length Ju
abbrev U6 : List Str := ["self", "amounts", "name", "budgets", "amount"]
abbrev a2J : List Str := ["self", "amounts"]
def Bh : SX := aN (lK (ak 1) (gW (yx (ak 1)) (aX 2) (jB (fY [("Program", ⟨[0, 1], [], jK⟩)] "require_budget" (ak 0) (ao (ak 2) (aq)) (aq))))) <|
 aN (lK (ak 1) (gW (iF jG (ak 1)) (fU (bL (aX 2) (bL (aX 4) (gq)))) (cI (eY (eX (bF kE [0] (ao (ak 4) (aq)) (aq)))) (jo "InvalidProgram" oU mZ (ao (mC (.str "budget")) (ao (bY (ao (ak 2) (aq))) (aq)))) (dN)))) <|
 aN (eG 3 (AY (cC lV "own_amounts" (ak 0)) (ak 1))) <|
 aW (uH "Program" ⟨[0, 1, 2, 3, 4], (lW.map (·.2)), jf⟩ (ao (ak 3) (ao (cC lU "main" (ak 0)) (aq))) (ao (cC lQ "given_back" (ak 0)) (ao (cC iD "routines" (ak 0)) (aq))))
def fZ : FX := aY U6.length Bh
abbrev U7 : List Str := ["_law_way", "_law_made", "_law_first", "_law_second", "_law_told_here", "e"]
abbrev Eb : List Str := ["_law_way", "_law_made", "_law_first", "_law_second"]
def Bj : SX := aN (eG 4 (dZ (ao (mC (.str "made")) (aq)))) <|
 aN (AW [(fun y => yV.lookup y, some 5, eG 4 (dZ (ao (mC (.str "unknown")) (ao (lJ jt 5 "value") (aq))))), (fun y => wL.lookup y, some 5, eG 4 (dZ (ao (mC (.str "invalid")) (ao (lJ jt 5 "reason") (ao (lJ jt 5 "path") (aq))))))] (cI (bH (aC cX (ak 0) (mC (.int 0)))) (jB (mY "Program" "with_amounts" fZ ["mem", "nobody", "other"] (ak 1) (ao (ak 2) (ao (ak 3) (ao (mC (.int 1)) (aq)))))) (cI (bH (aC cX (ak 0) (mC (.int 1)))) (jB (mY "Program" "with_amounts" fZ ["zip", "mem"] (ak 1) (ao (ak 2) (ao (ak 3) (aq))))) (jB (mY "Program" "with_amounts" fZ ["steps"] (ak 1) (ao (ak 3) (aq))))))) <|
 aW (ak 4)
def kJ : FX := aY U7.length Bj
abbrev U8 : List Str := ["self", "ends"]
abbrev Ec : List Str := ["self"]
def Jv : SX := aN (eG 1 (uz [(mC (.str "returnable=")), (cW jF (cC lQ "given_back" (ak 0))), (mC (.str ", procedures=")), (cW jF (cC iD "routines" (ak 0)))])) <|
 aW (uz [(mC (.str "Program(")), (cW jF (cC lV "own_amounts" (ak 0))), (mC (.str ", ")), (cW jF (cC lU "main" (ak 0))), (mC (.str ", ")), (cW yr (ak 1)), (mC (.str ")"))])
def nj : FX := aY U8.length Jv
abbrev U9 : List Str := ["self"]
abbrev Ed : List Str := ["self"]
def Jw : SX := aW (aQ fH (ao (cC wJ "statement_list" (ak 0)) (aq)))
def qI : FX := aY U9.length Jw
abbrev Ua : List Str := ["self", "other"]
abbrev Ef : List Str := ["self", "other"]
def Ub : SX := aN (cI (fR (eY (eX (aQ (yH DI iT iU) (ao (ak 1) (ao (mC (.fn "Program")) (aq)))))) (fR (bH (aC yS (cC lV "own_amounts" (ak 0)) (cC lV "own_amounts" (ak 1)))) (bH (aC jk (cC lU "main" (ak 0)) (cC lU "main" (ak 1)))))) (aW (mC (.bl false))) (dN)) <|
 aW (fu (aC cX (cC lQ "given_back" (ak 0)) (cC lQ "given_back" (ak 1))) (aC yM (cC iD "routines" (ak 0)) (cC iD "routines" (ak 1))))
def sO : FX := aY Ua.length Ub
abbrev Uc : List Str := ["_law_rng_here", "_law_sums", "_law_body", "_law_made", "_law_told_here", "_law_amounts", "_law_odd", "_law_refused", "_law_due", "_law_shown", "_law_one", "_law_great", "_law_found"]
abbrev Eh : List Str := ["_law_rng_here"]
def Jx : SX := aN (eG 1 (rN (lG [((mC (.str "steps")), (bF kh [0, 1] (ao (ak 0) (ao (mC (.int 60)) (aq))) (aq))), ((mC (.str "mem")), (bF kh [0, 1] (ao (ak 0) (ao (mC (.int 30)) (aq))) (aq))), ((mC (.str "zip")), (mC (.int 0)))]))) <|
 aN (eG 2 (bY (ao (aC bA (bY (ao (bY (ao (mC (.str "out")) (ao (mC (.int 1)) (aq)))) (ao (bY (ao (mC (.str "use")) (ao (mC (.str "zip")) (ao (mC (.int 2)) (aq))))) (ao (bY (ao (mC (.str "rest")) (ao (mC (.str "x")) (ao (mC (.str "mem")) (aq))))) (aq))))) (bF kh [0, 1] (ao (ak 0) (ao (mC (.int 3)) (aq))) (aq))) (aq)))) <|
 aN (eG 3 (uH "Program" ⟨[0, 1, 2, 3, 4], (lW.map (·.2)), jf⟩ (ao (ak 1) (ao (ak 2) (aq))) (ao (bY (ao (mC (.str "mem")) (aq))) (ao (rN (lG [((mC (.str "p")), (bY (ao (bY (aq)) (ao (ak 2) (ao (bY (aq)) (aq))))))])) (aq))))) <|
 aN (Az 9 10 11 (ao (yJ [("Program", nj)] (ak 3)) (ao (bF kh [0, 1] (ao (ak 0) (ao (mC (.int 99)) (aq))) (aq)) (ao (aC bA (dZ (ao (mC (.int 0)) (ao (aC o7 (mC (.int 10)) (mC (.int 12))) (ao (bF kh [0, 1] (ao (ak 0) (ao (aC o7 (mC (.int 10)) (mC (.int 9))) (aq))) (aq)) (aq))))) (bF kh [0, 1] (ao (ak 0) (ao (mC (.int 3)) (aq))) (aq))) (aq))))) <|
 aN (xF 4 (dZ (ao (mY "Program" "with_amounts" fZ [] (ak 3) (aq)) (ao (mY "Program" "with_amounts" fZ ["mem"] (ak 3) (ao (ak 10) (aq))) (ao (mY "Program" "with_amounts" fZ ["zip", "steps", "mem"] (ak 3) (ao (ak 11) (ao (ak 10) (ao (ak 11) (aq))))) (aq)))))) <|
 aN (uh 4 (mY "Program" "with_amounts" fZ ["steps", "mem", "zip"] (zY (aC bA (ak 4) (mC (.int 2)))) (ao (aC iW (ak 1) (mC (.str "steps"))) (ao (aC iW (ak 1) (mC (.str "mem"))) (ao (mC (.int 0)) (aq)))))) <|
 aN (eG 5 (dZ (ao (ak 1) (ao (rN (lG [((mC (.str "steps")), (aC iW (ak 1) (mC (.str "steps")))), ((mC (.str "mem")), (ak 10)), ((mC (.str "zip")), (mC (.int 0)))])) (ao (rN (lG [((mC (.str "steps")), (ak 10)), ((mC (.str "mem")), (ak 11)), ((mC (.str "zip")), (ak 11))])) (ao (ak 1) (aq))))))) <|
 aN (xG 4 (gW (jR vZ (ao (ak 4) (ao (ak 5) (aq)))) (fU (bL (aX 12) (bL (aX 8) (gq)))) (cI (fR (bH (uI [("Program", sO)] true (ak 12) (uH "Program" ⟨[0, 1, 2, 3, 4], (lW.map (·.2)), jf⟩ (ao (ak 8) (ao (ak 2) (aq))) (ao (bY (ao (mC (.str "mem")) (aq))) (ao (rN (lG [((mC (.str "p")), (bY (ao (bY (aq)) (ao (ak 2) (ao (bY (aq)) (aq))))))])) (aq)))))) (bH (aC jk (AK [("Program", qI)] (ak 12)) (mC (.int 2))))) (aW (mC (.bl false))) (dN)))) <|
 aN (eG 6 (aC bA (dZ (ao (mC .non) (ao (cW xM (mC (.int 1))) (ao (mC (.bl true)) (ao (mC (.bl false)) (ao (mC (.str "1")) (ao (mC (.str "")) (ao (aC fD (aC o7 (mC (.int 10)) (mC (.int 12))) (mC (.int 1))) (ao (bY (aq)) (ao (dZ (aq)) (ao (Ar) (aq)))))))))))) (bF kh [0, 1] (ao (ak 0) (ao (mC (.int 10)) (aq))) (aq)))) <|
 aN (xF 7 (dZ (ao (bF kJ [0, 1, 2, 3] (ao (mC (.int 0)) (ao (ak 3) (ao (ak 6) (ao (ak 6) (aq))))) (aq)) (ao (bF kJ [0, 1, 2, 3] (ao (mC (.int 1)) (ao (ak 3) (ao (ak 10) (ao (ak 6) (aq))))) (aq)) (ao (bF kJ [0, 1, 2, 3] (ao (mC (.int 2)) (ao (ak 3) (ao (mC (.int 0)) (ao (ak 6) (aq))))) (aq)) (aq)))))) <|
 aN (uh 7 (bF kJ [0, 1, 2, 3] (ao (mC (.int 1)) (ao (ak 3) (ao (ak 6) (ao (ak 6) (aq))))) (aq))) <|
 aN (eG 8 (dZ (ao (dZ (ao (mC (.str "unknown")) (ao (mC (.str "nobody")) (aq)))) (ao (dZ (ao (mC (.str "invalid")) (ao (mC (.str "budget")) (ao (bY (ao (mC (.str "mem")) (aq))) (aq))))) (ao (dZ (ao (mC (.str "invalid")) (ao (mC (.str "budget")) (ao (bY (ao (mC (.str "steps")) (aq))) (aq))))) (aq)))))) <|
 aN (cI (A5 (bH (aC jk (ak 7) (aC fD (ak 8) (dZ (ao (dZ (ao (mC (.str "invalid")) (ao (mC (.str "budget")) (ao (bY (ao (mC (.str "zip")) (aq))) (aq))))) (aq))))))) (aW (mC (.bl false))) (dN)) <|
 xG 4 (aW (fu (aC cX (yJ [("Program", nj)] (ak 3)) (ak 9)) (fu (aC cX (mC (.str "steps")) (mC (.str "steps"))) (fu (aC cX (B4 "Program" "STEPS" "steps" (ak 3)) (mC (.str "steps"))) (uI [("Program", sO)] false (aC bA (ak 4) (mC (.int 0))) (ak 3))))))
def uQ : FX := aY Uc.length Jx
abbrev Jy : List Str := ["_law_script", "_law_k"]
abbrev Ei : List Str := ["_law_script"]
def Jz : SX := aW (aQ oh (ao (mK (jR xZ (ao (aQ vQ (ao (mC (.int 2)) (ao (aQ CK (ao (mC (.int 4)) (ao (aQ fH (ao (ak 0) (aq))) (aq)))) (aq)))) (aq))) [1] (aX 1) (i6) (bF uQ [0] (ao (bF DK [0, 1] (ao (ak 0) (ao (ak 1) (aq))) (aq)) (aq)) (aq))) (aq)))
def uR : FX := aY Jy.length Jz
end aH
namespace Rc
open aH hiding top
open PySem PySem.Spec PyProof.Rows L2 Mi
abbrev a2K : List Str := ["value"]
def a2L : SX := aW (fu (aQ eE (ao (ak 0) (ao (mC (.ty "int")) (aq)))) (vB (aQ eE (ao (ak 0) (ao (mC (.ty "bool")) (aq))))))
def Ud : FX := aY a2K.length a2L
def Be : SX := aW (fu (bF Ud [0] (ao (ak 0) (aq)) (aq)) (pM o8 o8 (cW xM (mC (.int 1000000000000000000))) (ak 0) (mC (.int 1000000000000000000))))
def oW : FX := aY Ji.length Be
abbrev a2M : List Str := ["sort", "value"]
def Ue : SX := aN (cI (bH (aC cX (ak 0) (mC (.str "b")))) (aW (bF gR [0] (ao (ak 1) (aq)) (aq))) (dN)) <|
 aN (cI (bH (aC cX (ak 0) (mC (.str "v")))) (aW (bF oW [0] (ao (ak 1) (aq)) (aq))) (dN)) <|
 aW (fu (bF oV [0] (ao (ak 1) (aq)) (aq)) (mG (bH (aC cX (ak 0) (mC (.str "n")))) (aC MM (ak 1) (mC (.int 0))) (aC jk (ak 1) (mC (.int 0)))))
def Ug : FX := aY a2M.length Ue
end Rc
open PySem PySem.Spec PyProof.Rows L2 Mi
local macro_rules
 | `(tactic| simp!) => `(tactic| simp only [O8, w_var, O9, w6, Oa, Oc, Od, Oe, Og, Oh, w_call, Oi, Oj, w_and, w_or, w_not, Ol, Om, Oo, Oq, w_band, w_bor, Ot, Ou, Ov, Ow, Ox, Oz, OA, OB, OC, AA, OD, Hj, OG, OH, OI, OJ, OL, OO, OQ, Hl, OS, OT, OU, OV, Hr, we, lent, uw, O7, Hw, Pq, Pu, Px, Py, PL, PR, PU, Hz, PY, PZ, Q5, Q6, Q7, Q8, Q9, Qa, Qc, Qe, Qg, HA, Qh, HC, Qi, Ql, Qm, Qn, Qo, HD, Qp, List.getElem?_cons_zero, List.getElem?_cons_succ, List.set_cons_zero, List.set_cons_succ, List.map_cons, List.map_nil, List.length_cons, List.length_nil, List.replicate, List.cons_append, List.nil_append, List.append_nil, Nat.reduceSub, Nat.reduceAdd, Nat.sub_self, Nat.zero_add, sizeLine_eq, Nat.reduceLeDiff, pick, List.filterMap_cons, List.filterMap_nil, Option.some.injEq, exists_eq_left', exists_eq_left, exists_const, true_and, and_true, Bool.not_true, Bool.not_false, if_true, if_false, reduceIte, Bool.false_eq_true, eq_self, D.int.injEq])
 | `(tactic| simp! [$ts,*]) => `(tactic| simp only [O8, w_var, O9, w6, Oa, Oc, Od, Oe, Og, Oh, w_call, Oi, Oj, w_and, w_or, w_not, Ol, Om, Oo, Oq, w_band, w_bor, Ot, Ou, Ov, Ow, Ox, Oz, OA, OB, OC, AA, OD, Hj, OG, OH, OI, OJ, OL, OO, OQ, Hl, OS, OT, OU, OV, Hr, we, lent, uw, O7, Hw, Pq, Pu, Px, Py, PL, PR, PU, Hz, PY, PZ, Q5, Q6, Q7, Q8, Q9, Qa, Qc, Qe, Qg, HA, Qh, HC, Qi, Ql, Qm, Qn, Qo, HD, Qp, List.getElem?_cons_zero, List.getElem?_cons_succ, List.set_cons_zero, List.set_cons_succ, List.map_cons, List.map_nil, List.length_cons, List.length_nil, List.replicate, List.cons_append, List.nil_append, List.append_nil, Nat.reduceSub, Nat.reduceAdd, Nat.sub_self, Nat.zero_add, sizeLine_eq, Nat.reduceLeDiff, pick, List.filterMap_cons, List.filterMap_nil, Option.some.injEq, exists_eq_left', exists_eq_left, exists_const, true_and, and_true, Bool.not_true, Bool.not_false, if_true, if_false, reduceIte, Bool.false_eq_true, eq_self, D.int.injEq, $ts,*])
namespace Rc
open aH hiding top
open PySem PySem.Spec PyProof.Rows L2 Mi
section
variable {S : Store}
theorem p9 : o7 S (.int 10) (.int 9) = some (.int (10 ^ 9)) := rfl
end
end Rc
namespace Rc
open aH hiding top
open PySem PySem.Spec PyProof.Rows L2 Mi
def letters : Str := "abcdefghijklmnopqrstuvwxyz"
def cD (z : Str) : Prop := 1 ≤ z.length ∧ z.length ≤ 8 ∧ ∀ c ∈ z.cps.toList, c ∈ letters.cps.toList
theorem a2N : ∀ c ∈ letters.cps.toList, c < 0x110000 := by decide +kernel
theorem cD.chars {z : Str} (h : cD z) : ∀ c ∈ z.cps.toList, c < 0x110000 := fun c hc => a2N c (h.2.2 c hc)
theorem Uh : ∀ zs : List Str, strsOf (zs.map D.str) = some zs
 | [] => rfl
 | z :: r => by simp only [List.map_cons, strsOf, Uh r]
theorem JA [BEq α] [LawfulBEq α] : ∀ {l m : List α}, l.Nodup → (∀ x ∈ l, x ∈ m) → l.length ≤ m.length
 | [], _, _, _ => Nat.zero_le _
 | a :: l, m, h, s => by
  have ha := s a List.mem_cons_self
  have h2 := JA (l := l) (m := m.erase a) (List.nodup_cons.mp h).2 fun x hx => by
   have : x ≠ a := fun e => (List.nodup_cons.mp h).1 (e ▸ hx)
   exact (List.mem_erase_of_ne this).mpr (s x (List.mem_cons_of_mem _ hx))
  have h3 := List.length_erase_of_mem ha
  have h4 : 0 < m.length := List.length_pos_of_mem ha
  simp only [List.length_cons]
  omega
def qs : List Str := letters.cps.toList.map fun c => (⟨#[c]⟩ : Str) ++ "q"
end Rc
namespace Rc
open aH hiding top
open PySem PySem.Spec PyProof.Rows L2 Mi
inductive Row where
 | step | use (b : Str) (n : Int) | back (b : Str) (n : Int) | give (b : Str) (n : Int) | out (v : Int) | put (v : Int) | caught (b : Str)
def Row.d : Row → D
 | .step => .tup [.str "step"]
 | .use b n => .tup [.str "use", .str b, .int n]
 | .back b n => .tup [.str "back", .str b, .int n]
 | .give b n => .tup [.str "give", .str b, .int n]
 | .out v => .tup [.str "out", .int v]
 | .put v => .tup [.str "put", .int v]
 | .caught b => .tup [.str "caught", .str b]
def big : Int := 10 ^ 18 + 9 * 10 ^ 9
def Row.ok : Row → Prop
 | .step => True
 | .use b n => cD b ∧ 0 ≤ n ∧ n ≤ big
 | .back b n => cD b ∧ 0 ≤ n ∧ n ≤ big
 | .give b n => cD b ∧ n ≠ 0 ∧ -big ≤ n ∧ n ≤ big
 | .out v => -(10 ^ 18) ≤ v ∧ v ≤ 10 ^ 18
 | .put v => -(10 ^ 18) ≤ v ∧ v ≤ 10 ^ 18
 | .caught b => cD b
end Rc
namespace Rc
open aH hiding top
open PySem PySem.Spec PyProof.Rows L2 Mi
section
variable {S : Store}
theorem al_eq {r : R D} {v : D} (h : r.al (fun d S' => d = v ∧ S' = S) fun _ _ => False) : r = .ok v S := by
 cases r with
 | ok a S' => obtain ⟨rfl, rfl⟩ := h; rfl
 | exc _ _ => exact h.elim
 | stuck => exact h.elim
def Bl (c : Nat) : Bool := decide (c ∈ letters.cps.toList)
def nameS (z : Str) : Bool := decide (1 ≤ z.length) && decide (z.length ≤ 8) && z.cps.toList.all Bl
theorem oX {z : Str} : nameS z = true ↔ cD z := by
 unfold nameS cD Bl
 simp only [Bool.and_eq_true, decide_eq_true_eq, List.all_eq_true]
 exact and_assoc
theorem in_one (c : Nat) (z : Str) : u5 ⟨#[c]⟩ z = decide (c ∈ z.cps.toList) := by
 unfold u5
 rw [dif_pos (by rfl)]
 rfl
theorem a2O (z : Str) : (mJ z).length = z.length := by
 unfold mJ
 rw [List.length_map, Array.length_toList]
 rfl
theorem Ui (q : Nat → Bool) : ∀ l : List Nat, Mi.allB (l.map fun c => D.bl (q c)) = some (l.map q)
 | [] => rfl
 | c :: l => by simp only [List.map_cons, Mi.allB, Ui q l]
theorem a2P {z : Str} (hz : z.length ≤ sizeLine) : gR [.str z] S = .ok (.bl (nameS z)) S := by
 have hc : gA [1] (aX 1) i6 (aC jc (ak 1) (mC (.str letters))) [.sh (.str z), .un] (mJ z) [] S = .ok (z.cps.toList.map fun c => D.bl (Bl c)) S := by
  have h := vU (vs := [1]) (g := aX 1) (t := i6) (e := aC jc (ak 1) (mC (.str letters))) (ρ := [.sh (.str z), .un]) (S := S) (p := fun _ => true) (f := fun d => match d with | .str x => .bl (u5 x letters) | _ => .non) (mJ z) [] (by
   intro d hd
   obtain ⟨c, hc, rfl⟩ := List.mem_map.mp hd
   exact ⟨_, rfl, rfl, fun _ => rfl⟩) (by rw [a2O, List.length_nil, Nat.zero_add]; exact hz)
  rw [h]
  simp only [List.nil_append]
  congr 1
  unfold mJ
  rw [List.filter_eq_self.mpr (fun _ _ => rfl), List.map_map]
  refine List.map_congr_left fun c _ => ?_
  show D.bl (u5 ⟨#[c]⟩ letters) = _
  rw [in_one]
  rfl
 have isi : ∀ S, eE S [.str z, .ty "str"] = some (.bl true) := fun _ => rfl
 have al : ∀ S, oh S [.lst (z.cps.toList.map fun c => D.bl (Bl c))] = some (.bl (z.cps.toList.all Bl)) := by
  intro S
  unfold oh vR
  simp only [bu, Ui]
  congr 2
  rw [List.all_map]
  rfl
 have h1 : ((1 : Int) ≤ (z.length : Int)) = (1 ≤ z.length) := propext (by omega)
 have h2 : ((z.length : Int) ≤ 8) = (z.length ≤ 8) := propext (by omega)
 refine al_eq ?_
 unfold gR J9
 have hc' := hc
 unfold letters at hc'
 simp! [isi, ZS hz, cJ, hc', al, h1, h2]
 unfold nameS
 by_cases h1 : 1 ≤ z.length
 ·by_cases h2 : z.length ≤ 8
  ·simp [h1, h2]
  ·simp [h1, h2]
 ·simp [h1]
def jL : D → Bool
 | .str z => nameS z
 | _ => false
/-- no thing of the store, no class, no def; texts of no great length -/
def Pl : D → Prop
 | .str z => z.length ≤ sizeLine
 | .ref _ => False
 | .ty _ => False
 | .fn _ => False
 | _ => True
theorem name_eq {d : D} (h : Pl d) : gR [d] S = .ok (.bl (jL d)) S := by
 cases d <;> first
  | exact h.elim
  | exact a2P h
  | rfl
def intD : D → Bool
 | .int _ => true
 | _ => false
theorem Uj {d : D} (h : Pl d) : oV [d] S = .ok (.bl (intD d)) S := by
 cases d <;> first
  | exact h.elim
  | rfl
theorem a2R {d : D} (h : Pl d) : Ud [d] S = .ok (.bl (intD d)) S := by
 cases d <;> first
  | exact h.elim
  | rfl
def valD : D → Bool
 | .int i => decide (-(10 ^ 18) ≤ i) && decide (i ≤ 10 ^ 18)
 | _ => false
theorem value_eq {d : D} (h : Pl d) : oW [d] S = .ok (.bl (valD d)) S := by
 refine al_eq ?_
 unfold oW Be
 simp! [a2R h]
 cases d with
 | int i =>
  simp! [intD]
  unfold valD
  by_cases h : -(10 ^ 18) ≤ i
  ·have h' : -1000000000000000000 ≤ i := by omega
   simp [h, h']
  ·have h' : ¬ -1000000000000000000 ≤ i := by omega
   simp [h, h']
 | _ => simp [intD, valD]
def Uk (c : Str) (d : D) : Bool := if c = "b" then jL d else if c = "v" then valD d else match d with
 | .int i => if c = "n" then decide (0 ≤ i) else !(i == 0)
 | _ => false
theorem fits_eq {c : Str} {d : D} (h : Pl d) : Ug [.str c, d] S = .ok (.bl (Uk c d)) S := by
 refine al_eq ?_
 unfold Ug Ue
 simp! [name_eq h, value_eq h, Uj h, beq_iff_eq]
 unfold Uk
 split
 ·rfl
 ·split
  ·rfl
  ·cases d with
   | int i =>
    simp! [intD]
    split
    ·simp
    ·simp
   | _ => simp [intD]
theorem a2S {xs : List D} : cX S (.tup xs) (.tup []) = some (.bl xs.isEmpty) := rfl
theorem Bm {l : List α} (q : α → Bool) : oh S [.lst (l.map fun c => D.bl (q c))] = some (.bl (l.all q)) := by
 have : ∀ l : List α, Mi.allB (l.map fun c => D.bl (q c)) = some (l.map q) := by
  intro l
  induction l with
  | nil => rfl
  | cons c l ih => simp only [List.map_cons, Mi.allB, ih]
 unfold oh vR
 simp only [bu, this]
 congr 2
 rw [List.all_map]
 rfl
theorem Ek {d : D} (h : Pl d) : eE S [d, .ty "str"] = some (.bl (match d with | .str _ => true | _ => false)) := by
 cases d <;> first
  | exact h.elim
  | rfl
theorem Bo {d : D} (h : Pl d) : eE S [d, .ty "tuple"] = some (.bl (match d with | .tup _ => true | _ => false)) := by
 cases d <;> first
  | exact h.elim
  | rfl
end
end Rc
namespace Rd
open aH hiding top
open PySem PySem.Spec PyProof.Rows L2 Mi
abbrev Am := List (Str × Int)
def kd (ks : Am) : List (Key × D) := ks.map fun p => (.inr p.1, .int p.2)
def look (ks : Am) (k : Str) : Option Int := (ks.find? fun p => decide (p.1 = k)).map (·.2)
theorem Bp {p : Str × Int} {ks : Am} {k : Str} : look (p :: ks) k = if p.1 = k then some p.2 else look ks k := by
 unfold look
 by_cases h : p.1 = k <;> simp [List.find?_cons, h]
theorem JB : ∀ {ks : Am} {k : Str}, Mi.valD (kd ks) (.inr k) = (look ks k).map D.int
 | [], _ => rfl
 | p :: ks, k => by
  have ih := JB (ks := ks) (k := k)
  rw [Bp]
  unfold Mi.valD kd at *
  simp only [List.map_cons, List.find?_cons]
  by_cases h : p.1 = k
  ·simp [h]
  ·have : ¬ ((Sum.inr p.1 : Key) = .inr k) := fun e => h (by injection e)
   simp only [this, decide_false, h, if_false]
   exact ih
theorem JC : ∀ {ks : Am} {k : Str}, mU (kd ks) (.inr k) = (look ks k).isSome
 | [], _ => rfl
 | p :: ks, k => by
  have ih := JC (ks := ks) (k := k)
  rw [Bp]
  unfold mU kd at *
  simp only [List.map_cons, List.any_cons, ih]
  by_cases h : p.1 = k
  ·simp [h]
  ·have : ¬ ((Sum.inr p.1 : Key) = .inr k) := fun e => h (by injection e)
   simp [this, h]
theorem kd_len {ks : Am} : (kd ks).length = ks.length := by unfold kd; rw [List.length_map]
theorem Bq : ∀ {ks : Am} {k : Str} {v : Int}, look ks k = some v → (k, v) ∈ ks
 | [], _, _, h => by cases h
 | p :: ks, k, v, h => by
  rw [Bp] at h
  by_cases e : p.1 = k
  ·rw [if_pos e] at h
   cases h
   rw [← e]; exact List.mem_cons_self
  ·rw [if_neg e] at h; exact List.mem_cons_of_mem _ (Bq h)
theorem z9 : ∀ {ks : Am} {k : Str} {v : Int}, (ks.map (·.1)).Nodup → (k, v) ∈ ks → look ks k = some v
 | p :: ks, k, v, hn, h => by
  rw [List.map_cons, List.nodup_cons] at hn
  rw [Bp]
  rcases List.mem_cons.mp h with rfl | h
  ·simp
  ·have : ¬ p.1 = k := fun e => hn.1 (by rw [e]; exact List.mem_map.mpr ⟨_, h, rfl⟩)
   rw [if_neg this]; exact z9 hn.2 h
theorem nq : ∀ {ks : Am} {k : Str}, (look ks k).isSome = true ↔ k ∈ ks.map (·.1)
 | [], _ => by simp [look]
 | p :: ks, k => by
  rw [Bp, List.map_cons, List.mem_cons]
  by_cases e : p.1 = k
  ·simp [e]
  ·rw [if_neg e, nq]
   exact ⟨.inr, fun h => h.elim (fun z => absurd z.symm e) id⟩
def El (ks : Am) (k : Str) (v : Int) : Am := ks.map fun p => if p.1 = k then (p.1, v) else p
def Ul (ks : Am) (k : Str) (v : Int) : Am := if (look ks k).isSome = true then El ks k v else ks ++ [(k, v)]
theorem Um {ks : Am} {k : Str} {v : Int} : (El ks k v).map (·.1) = ks.map (·.1) := by
 unfold El
 rw [List.map_map]
 refine List.map_congr_left fun p _ => ?_
 simp only [Function.comp]
 split <;> rfl
/-- a dict of drawn names -/
structure JD (ks : Am) (m : Nat) : Prop where
 nd : (ks.map (·.1)).Nodup
 nm : ∀ k ∈ ks.map (·.1), Rc.cD k
 sz : ∀ p ∈ ks, p.2.natAbs ≤ 10 ^ 30
 len : ks.length ≤ m
theorem JD.put {ks : Am} {m : Nat} {k : Str} {v : Int} (h : JD ks m) (hk : Rc.cD k) (v1 : v.natAbs ≤ 10 ^ 30) : JD (Ul ks k v) (m + 1) := by
 unfold Ul
 by_cases e : (look ks k).isSome = true
 ·rw [if_pos e]
  refine ⟨by rw [Um]; exact h.nd, by rw [Um]; exact h.nm, ?_, ?_⟩
  ·intro p hp
   obtain ⟨q, hq, rfl⟩ := List.mem_map.mp hp
   split
   ·exact v1
   ·exact h.sz q hq
  ·unfold El; rw [List.length_map]; have := h.len; omega
 ·rw [if_neg e]
  have nk : k ∉ ks.map (·.1) := fun z => e (nq.mpr z)
  refine ⟨?_, ?_, ?_, ?_⟩
  ·rw [List.map_append, List.nodup_append]
   exact ⟨h.nd, by simp, fun x hx y hy => by
    have : y = k := by simpa using hy
    rw [this]; exact fun z => nk (z ▸ hx)⟩
  ·intro x hx
   rw [List.map_append] at hx
   rcases List.mem_append.mp hx with hx | hx
   ·exact h.nm x hx
   ·have : x = k := by simpa using hx
    rw [this]; exact hk
  ·intro p hp
   rcases List.mem_append.mp hp with hp | hp
   ·exact h.sz p hp
   ·rw [List.mem_singleton.mp hp]; exact v1
  ·rw [List.length_append, List.length_singleton]; have := h.len; omega
def srt (ks : Am) : Am := (dG (ks.map (·.1))).map fun k => (k, (look ks k).getD 0)
theorem JE {ks : Am} : (srt ks).map (·.1) = dG (ks.map (·.1)) := by
 unfold srt
 rw [List.map_map]
 exact (List.map_congr_left fun _ _ => rfl).trans (List.map_id _)
theorem a2T {ks : Am} : (srt ks).length = ks.length := by
 unfold srt
 rw [List.length_map, (fP _).length_eq, List.length_map]
theorem JF {ks : Am} (h : (ks.map (·.1)).Nodup) : ((srt ks).map (·.1)).Nodup := by
 rw [JE]
 exact (fP _).nodup_iff.mpr h
theorem Uo {ks : Am} (h : (ks.map (·.1)).Nodup) {k : Str} : look (srt ks) k = look ks k := by
 cases e : look ks k with
 | none =>
  cases e2 : look (srt ks) k with
  | none => rfl
  | some v =>
   have hm : k ∈ (srt ks).map (·.1) := nq.mp (by rw [e2]; rfl)
   rw [JE] at hm
   have := nq.mpr ((fP _).mem_iff.mp hm)
   rw [e] at this; cases this
 | some v =>
  refine z9 (JF h) ?_
  have hm : k ∈ ks.map (·.1) := nq.mp (by rw [e]; rfl)
  refine List.mem_map.mpr ⟨k, (fP _).mem_iff.mpr hm, ?_⟩
  rw [e]; rfl
def same (ks ls : Am) : Bool := decide (ks.length = ls.length) && ks.all fun p => decide (look ls p.1 = some p.2)
theorem Uq {n : Nat} {ls : Am} : ∀ ks : Am, qF (Mi.eqT (n + 1)) (kd ls) (kd ks) = some (ks.all fun p => decide (look ls p.1 = some p.2))
 | [] => rfl
 | p :: ks => by
  have ih := Uq (n := n) (ls := ls) ks
  have e : kd (p :: ks) = (.inr p.1, .int p.2) :: kd ks := rfl
  rw [e]
  unfold qF
  rw [JB]
  cases el : look ls p.1 with
  | none => simp [el]
  | some v =>
   simp only [Option.map_some, ih]
   have e1 : Mi.eqT (n + 1) (.int p.2) (.int v) = some (p.2 == v) := rfl
   rw [e1]
   have e2 : (p.2 == v) = decide (v = p.2) := by
    rw [Bool.eq_iff_iff]
    simp only [beq_iff_eq, decide_eq_true_eq]
    exact eq_comm
   simp only [List.all_cons, el, Option.some.injEq, e2]
theorem a2U {n : Nat} {ks ls : Am} : jH (Mi.eqT (n + 1)) (.dct (kd ks)) (.dct (kd ls)) = some (same ks ls) := by
 unfold jH same
 simp only [kd_len]
 by_cases h : ks.length = ls.length
 ·rw [if_pos h, Uq]; simp [h]
 ·rw [if_neg h]; simp [h]
theorem same_iff {ks ls : Am} (hk : (ks.map (·.1)).Nodup) (hl : (ls.map (·.1)).Nodup) : same ks ls = true ↔ ∀ k, look ks k = look ls k := by
 unfold same
 simp only [Bool.and_eq_true, decide_eq_true_eq, List.all_eq_true]
 constructor
 ·rintro ⟨h1, h2⟩ k
  cases e : look ks k with
  | some v => exact (h2 (k, v) (Bq e)).symm
  | none =>
   cases e2 : look ls k with
   | none => rfl
   | some v =>
    exfalso
    have s1 : ∀ x ∈ k :: ks.map (·.1), x ∈ ls.map (·.1) := by
     intro x hx
     rcases List.mem_cons.mp hx with rfl | hx
     ·exact nq.mp (by rw [e2]; rfl)
     ·obtain ⟨p, hp, rfl⟩ := List.mem_map.mp hx
      exact nq.mp (by rw [h2 p hp]; rfl)
    have nk : k ∉ ks.map (·.1) := fun z => by
     have := nq.mpr z
     rw [e] at this; cases this
    have nd : (k :: ks.map (·.1)).Nodup := List.nodup_cons.mpr ⟨nk, hk⟩
    have := Rc.JA nd s1
    rw [List.length_cons, List.length_map, List.length_map] at this
    omega
 ·intro h
  have sub : ∀ {as bs : Am}, (as.map (·.1)).Nodup → (∀ k, look as k = look bs k) → as.length ≤ bs.length := fun {as bs} ha hh => by
   have := Rc.JA ha (m := bs.map (·.1)) fun x hx => nq.mp (by rw [← hh]; exact nq.mpr hx)
   rwa [List.length_map, List.length_map] at this
  refine ⟨Nat.le_antisymm (sub hk h) (sub hl fun k => (h k).symm), fun p hp => ?_⟩
  rw [← h]
  exact z9 hk (show (p.1, p.2) ∈ ks from hp)
theorem same_refl {ks : Am} (hk : (ks.map (·.1)).Nodup) : same ks ks = true := (same_iff hk hk).mpr fun _ => rfl
theorem Ur : ∀ {ks : Am}, (∀ k ∈ ks.map (·.1), Rc.cD k) → (∀ p ∈ ks, p.2.natAbs ≤ 10 ^ 30) → jd (kd ks) ∧ jW (kd ks) ≤ ks.length * 20 ∧ qb (kd ks) ≤ 1
 | [], _, _ => by simp [kd, jd, jW, qb]
 | p :: ks, h1, h3 => by
  obtain ⟨a1, a2, a3⟩ := Ur (ks := ks) (fun k hk => h1 k (List.mem_cons_of_mem _ hk)) (fun q hq => h3 q (List.mem_cons_of_mem _ hq))
  have hn := h1 p.1 List.mem_cons_self
  have v1 := h3 p List.mem_cons_self
  have e : kd (p :: ks) = (.inr p.1, .int p.2) :: kd ks := rfl
  rw [e]
  refine ⟨?_, ?_, ?_⟩
  ·simp only [jd, uy, ux, aR]
   exact ⟨⟨hn.chars, by omega⟩, a1⟩
  ·simp only [jW, De, kW, bT, List.length_cons]
   have := hn.2.1
   omega
  ·simp only [qb, Df, bJ]
   omega
end Rd
namespace Pg
open aH hiding top
open PySem PySem.Spec PyProof.Rows L2 Mi
abbrev jt : List Str := ["InvalidProgram", "UnknownBudget", "UnknownProcedure"]
end Pg
namespace Pg
open aH hiding top
open PySem PySem.Spec PyProof.Rows L2 Mi Rc
/-- plain data all through -/
inductive PD : D → Prop
 | non : PD .non
 | bl (b : Bool) : PD (.bl b)
 | int (i : Int) : PD (.int i)
 | str {z : Str} : z.length ≤ 10000 → (∀ c ∈ z.cps.toList, c < 0x110000) → PD (.str z)
 | tup {xs : List D} : xs.length ≤ 1000 → (∀ x ∈ xs, PD x) → PD (.tup xs)
 | lst {xs : List D} : xs.length ≤ 1000 → (∀ x ∈ xs, PD x) → PD (.lst xs)
 | dct {kvs : List (Key × D)} : kvs.length ≤ 1000 → (∀ p ∈ kvs, PD p.2) → PD (.dct kvs)
theorem PD.pl {d : D} (h : PD d) : Pl d := by
 cases h with
 | str h _ => show _ ≤ sizeLine; rw [sizeLine_eq]; omega
 | _ => trivial
section
variable {S : Store} {d : D}
theorem e_name : gR = aH.gR := rfl
theorem a2V : oV = aH.oV := rfl
theorem e_val : aH.oW = Rc.oW := rfl
theorem Br (h : PD d) : gR [d] S = .ok (.bl (jL d)) S := by rw [e_name]; exact name_eq h.pl
theorem it_eq (h : PD d) : oV [d] S = .ok (.bl (intD d)) S := by rw [a2V]; exact Uj h.pl
theorem a2W (h : PD d) : aH.oW [d] S = .ok (.bl (valD d)) S := by rw [e_val]; exact value_eq h.pl
def wU (d : D) : Bool := valD d || jL d
theorem Us (h : PD d) : sH [d] S = .ok (.bl (wU d)) S := by
 refine al_eq ?_
 unfold sH Jj
 simp! [a2W h, Br h]
 unfold wU
 cases valD d <;> simp
def zf : D → Bool
 | .int i => decide (0 ≤ i) && decide (i ≤ 1000000000000)
 | _ => false
theorem Ut (h : PD d) : kE [d] S = .ok (.bl (zf d)) S := by
 refine al_eq ?_
 unfold kE IY
 simp! [it_eq h]
 cases d with
 | int i =>
  simp! [Rc.intD]
  unfold zf
  by_cases h : 0 ≤ i <;> simp [h]
 | _ => simp [Rc.intD, zf]
/-- a test of all items -/
theorem Uu {f : FX} {q : D → Bool} {i : Nat} {ρ : aF} {ds : List D} (hi : i < ρ.length) (hl : ds.length ≤ 1000) (h : ∀ d ∈ ds, f [d] S = .ok (.bl (q d)) S) :
  gA [i] (aX i) i6 (bF f [0] (ao (ak i) aq) aq) ρ ds [] S = .ok (ds.map fun d => .bl (q d)) S := by
 rw [vU (p := fun _ => true) (f := fun d => .bl (q d)) ds [] (fun d hd => ⟨(ρ.set i (.sh d), S).1, rfl, rfl, fun _ => by
  have e : (ρ.set i (.sh d))[i]? = some (.sh d) := List.getElem?_set_self hi
  simp only [bF, ao, ak, aq, e, R.bind, pick, List.filterMap_cons, List.filterMap_nil, List.append_nil, List.getElem?_cons_zero, h d hd]⟩) (by rw [List.length_nil, sizeLine_eq]; omega)]
 rw [List.filter_eq_self.mpr (fun _ _ => rfl), List.nil_append]
theorem a2X {xs : List D} : eE S [.tup xs, .ty "tuple"] = some (.bl true) := rfl
def Bs : D → Bool
 | .tup ds => ds.all wU
 | _ => false
theorem a2Y (h : PD d) : wM [d] S = .ok (.bl (Bs d)) S := by
 refine al_eq ?_
 unfold wM Jl
 simp! [Bo h.pl]
 cases h with
 | @tup xs hl hx =>
  have hc := Uu (S := S) (i := 1) (ρ := [.sh (.tup xs), .un]) (by simp) hl (fun d hd => Us (hx d hd))
  simp! [cJ, hc, Bm]
  unfold Bs
  simp
 | _ => simp [Bs]
def jM : D → Bool
 | .tup ds => ds.all jL && match jr ds with
  | some xs => decide xs.Nodup
  | none => false
 | _ => false
theorem JG : ∀ {ds : List D}, ds.all jL = true → ∃ xs : List Str, jr ds = some xs
 | [], _ => ⟨[], rfl⟩
 | d :: ds, h => by
  rw [List.all_cons, Bool.and_eq_true] at h
  obtain ⟨xs, e⟩ := JG h.2
  cases d with
  | str z => exact ⟨z :: xs, by unfold jr; rw [e]; rfl⟩
  | _ => cases h.1
theorem names_eq (h : PD d) : qG [d] S = .ok (.bl (jM d)) S := by
 refine al_eq ?_
 unfold qG Jd
 simp! [Bo h.pl]
 cases h with
 | @tup xs hl hx =>
  have hc := Uu (S := S) (i := 1) (ρ := [.sh (.tup xs), .un]) (by simp) hl (fun d hd => Br (hx d hd))
  unfold jM
  cases ha : xs.all jL with
  | false => simp! [cJ, hc, Bm, ha, Bool.false_and]
  | true =>
   simp! [cJ, hc, Bm, ha, Bool.true_and]
   obtain ⟨zs, e⟩ := JG ha
   have hz : zs.length ≤ 1000 := by
    have := congrArg List.length (wG e)
    rw [List.length_map] at this; omega
   have e2 : yR S (.tup xs) = some (.int ((dst zs).length : Nat)) := by
    unfold yR
    have : vX S (.tup xs) = some xs := rfl
    rw [this]
    simp only [e]
    rw [if_pos (by unfold scanBound; omega)]
   have e3 : xs.length = zs.length := by rw [wG e, List.length_map]
   simp! [e2, e, e3]
   have := a1R zs
   by_cases hn : zs.Nodup
   ·simp only [hn, this.mpr hn, decide_true, beq_self_eq_true]
   ·have h2 : ¬ (dst zs).length = zs.length := fun z => hn (this.mp z)
    have h3 : ¬ (((dst zs).length : Int) = (zs.length : Int)) := by omega
    simp only [hn, decide_false, beq_eq_false_iff_ne.mpr h3]
 | _ => simp [jM]
def ops : List Str := ["+", "-", "*", "min", "max", "less"]
def kinds : List Str := ["keep", "restore"]
theorem a2Z : ∀ y ∈ ops, ∀ c ∈ y.cps.toList, c < 0x110000 := by decide +kernel
theorem a3a : ∀ y ∈ kinds, ∀ c ∈ y.cps.toList, c < 0x110000 := by decide +kernel
def JH : D → Bool
 | .str x => ops.any (· == x)
 | _ => false
def kindB : D → Bool
 | .str x => kinds.any (· == x)
 | _ => false
theorem a3b (h : PD d) : wN [d] S = .ok (.bl (JH d)) S := by
 refine al_eq ?_
 unfold wN Jm
 simp! [Ek h.pl]
 cases h with
 | @str z hl hc =>
  have := AG (S := S) hc a2Z
  unfold ops at this
  simp only [List.map_cons, List.map_nil] at this
  simp! [this]
  rfl
 | _ => simp [JH]
theorem kind_eq (h : PD d) : wO [d] S = .ok (.bl (kindB d)) S := by
 refine al_eq ?_
 unfold wO Jo
 simp! [Ek h.pl]
 cases h with
 | @str z hl hc =>
  have := AG (S := S) hc a3a
  unfold kinds at this
  simp only [List.map_cons, List.map_nil] at this
  simp! [this]
  rfl
 | _ => simp [kindB]
def uU : D → Bool
 | .tup [a, _, c] => jM a && jM c
 | _ => false
theorem proc_eq (h : PD d) : yY [d] S = .ok (.bl (uU d)) S := by
 refine al_eq ?_
 unfold yY Je
 simp! [Bo h.pl]
 cases h with
 | @tup xs hl hx =>
  simp!
  by_cases h3 : xs.length = 3
  ·match xs, h3 with
   | [a, b, c], _ =>
    have ha := hx a (by simp)
    have hc := hx c (by simp)
    simp! [at0, at2, names_eq ha, names_eq hc]
    unfold uU
    rcases Bool.eq_false_or_eq_true (jM a) with h1 | h1 <;> rcases Bool.eq_false_or_eq_true (jM c) with h2 | h2 <;> simp [h1, h2]
  ·have : ¬ ((xs.length : Int) = 3) := by omega
   simp only [this, beq_iff_eq, decide_false, if_false, Bool.false_eq_true]
   unfold uU
   split
   ·rename_i a b c e
    cases e
    exact absurd rfl h3
   ·simp [this]
 | _ => simp [uU]
end
end Pg
namespace Pg
open aH hiding top
open PySem PySem.Spec PyProof.Rows L2 Mi Rc Rd
def kq (rs : List (Str × D)) : List (Key × D) := rs.map fun p => (.inr p.1, p.2)
def bQ (rs : List (Str × D)) (k : Str) : Option D := (rs.find? fun p => decide (p.1 = k)).map (·.2)
theorem Bt : ∀ {ks : List (Str × D)} {k : Str}, Mi.valD (kq ks) (.inr k) = bQ ks k
 | [], _ => rfl
 | p :: ks, k => by
  have ih := Bt (ks := ks) (k := k)
  unfold Mi.valD kq bQ at *
  simp only [List.map_cons, List.find?_cons]
  by_cases h : p.1 = k
  ·simp [h]
  ·have : ¬ ((Sum.inr p.1 : Key) = .inr k) := fun e => h (by injection e)
   simp only [this, decide_false, h]
   exact ih
theorem JI : ∀ {ks : List (Str × D)} {k : Str}, mU (kq ks) (.inr k) = (bQ ks k).isSome
 | [], _ => rfl
 | p :: ks, k => by
  have ih := JI (ks := ks) (k := k)
  unfold mU kq bQ at *
  simp only [List.map_cons, List.any_cons, ih, List.find?_cons]
  by_cases h : p.1 = k
  ·simp [h]
  ·have : ¬ ((Sum.inr p.1 : Key) = .inr k) := fun e => h (by injection e)
   simp [this, h]
/-- what the tests need of a program -/
structure Ctx where
 am : Am
 back : List Str
 rt : List (Str × D)
structure Ctx.Ok (c : Ctx) : Prop where
 bk : ∀ y ∈ c.back, ∀ ch ∈ y.cps.toList, ch < 0x110000
 rt : ∀ k d, bQ c.rt k = some d → ∃ ps b rs, d = .tup [.tup ps, b, .tup rs]
/-- the fields of the instance; t: the list of the statements, when it is there -/
def dH (c : Ctx) (b : D) (t : Option D) : List (Str × D) := ([("own_amounts", .dct (kd c.am)), ("given_back", .tup (c.back.map D.str)), ("routines", .dct (kq c.rt)), ("main", b)] : List (Str × D)) ++ match t with
 | none => []
 | some d => [("statement_list", d)]
section
variable {c : Ctx} {b : D} {t : Option D}
theorem a3c : (dH c b t).lookup ("own_amounts" : Str) = some (.dct (kd c.am)) := by kernel_rfl
theorem a3d : (dH c b t).lookup ("given_back" : Str) = some (.tup (c.back.map D.str)) := by kernel_rfl
theorem a3e : (dH c b t).lookup ("routines" : Str) = some (.dct (kq c.rt)) := by kernel_rfl
theorem a3f : (dH c b t).lookup ("main" : Str) = some b := by kernel_rfl
theorem a3g {d : D} : (dH c b (some d)).lookup ("statement_list" : Str) = some d := by kernel_rfl
theorem sS {m : Str} (h : m ∉ (["own_amounts", "given_back", "routines", "main", "statement_list"] : List Str)) : (dH c b t).lookup m = none := by
 simp only [List.mem_cons, List.not_mem_nil, or_false, not_or] at h
 obtain ⟨h1, h2, h3, h4, h5⟩ := h
 have q : ∀ {x : Str}, ¬ m = x → (m == x) = false := fun h => beq_eq_false_iff_ne.mpr h
 unfold dH
 cases t with
 | none => simp only [List.append_nil, List.lookup_cons, q h1, q h2, q h3, q h4, List.lookup_nil]
 | some d => simp only [List.cons_append, List.nil_append, List.lookup_cons, q h1, q h2, q h3, q h4, q h5, List.lookup_nil]
theorem Em : (dH c b t).lookup ("has_budget" : Str) = none := sS (by decide +kernel)
theorem a3h : (dH c b t).lookup ("fits" : Str) = none := sS (by decide +kernel)
theorem a3i : (dH c b t).lookup ("fits_procedure" : Str) = none := sS (by decide +kernel)
theorem a3j : (dH c b t).lookup ("is_statement" : Str) = none := sS (by decide +kernel)
theorem JK : (dH c b t).lookup ("check_body" : Str) = none := sS (by decide +kernel)
theorem a3k : (dH c b t).lookup ("all_statements" : Str) = none := sS (by decide +kernel)
theorem Uv : (dH c b t).lookup ("require_budget" : Str) = none := sS (by decide +kernel)
end
theorem Uw : lV.contains ("Program" : Str) = true := by decide +kernel
theorem Ux : lQ.contains ("Program" : Str) = true := by decide +kernel
theorem Uy : iD.contains ("Program" : Str) = true := by decide +kernel
theorem Uz : lU.contains ("Program" : Str) = true := by decide +kernel
theorem UA : wJ.contains ("Program" : Str) = true := by decide +kernel
/-- the program at n -/
abbrev d7 (S : Store) (n : Nat) (c : Ctx) (b : D) (t : Option D) : Prop := S[n]? = some (.ins "Program" (dH c b t))
section
variable {S : Store} {n : Nat} {c : Ctx} {b d : D} {t : Option D}
theorem Bu (h : d7 S n c b t) : lM lV "own_amounts" S (.ref n) = some (.dct (kd c.am)) := AO h Uw a3c
theorem f_back (h : d7 S n c b t) : lM lQ "given_back" S (.ref n) = some (.tup (c.back.map D.str)) := AO h Ux a3d
theorem uV (h : d7 S n c b t) : lM iD "routines" S (.ref n) = some (.dct (kq c.rt)) := AO h Uy a3e
theorem Bv (h : d7 S n c b t) : lM lU "main" S (.ref n) = some b := AO h Uz a3f
def hasB (c : Ctx) : D → Bool
 | .str z => (look c.am z).isSome
 | _ => false
theorem a3l {z : Str} {ks : Am} : Di S (.str z) (.dct (kd ks)) = some (.bl (look ks z).isSome) := by rw [← JC]; rfl
theorem a3m {z : Str} {ks : List (Str × D)} : uF S (.str z) (.dct (kq ks)) = some (.bl (!(bQ ks z).isSome)) := by rw [← JI]; rfl
theorem has_eq (h : d7 S n c b t) (hd : PD d) : ni [.ref n, d] S = .ok (.bl (hasB c d)) S := by
 refine al_eq ?_
 unfold ni J5
 simp! [Ek hd.pl, oM, Bu h]
 cases d with
 | str z => simp [a3l, hasB]
 | _ => simp [hasB]
def Bw (c : Ctx) : D → Bool
 | .str z => c.back.any (· == z)
 | _ => false
def wV (k : Str) (d : D) : Bool :=
 if k == "name" then jL d else if k == "procedure" then jL d else if k == "operand" then wU d else if k == "operator" then JH d else if k == "kind" then kindB d else if k == "operands" then Bs d else if k == "names" then jM d else false
def gD (c : Ctx) (k : Str) (d : D) : Bool :=
 if k == "budget" then hasB c d else if k == "returnable" then hasB c d && Bw c d else if k == "body" then true else wV k d
def allKinds : List Str := ["name", "operand", "operator", "budget", "returnable", "body", "procedure", "operands", "names", "kind"]
theorem En : (("name" : Str) == "name") = true ∧ (("name" : Str) == "operand") = false ∧ (("name" : Str) == "operator") = false ∧ (("name" : Str) == "budget") = false ∧ (("name" : Str) == "returnable") = false ∧ (("name" : Str) == "body") = false ∧ (("name" : Str) == "procedure") = false ∧ (("name" : Str) == "operands") = false ∧ (("name" : Str) == "names") = false ∧ (("name" : Str) == "kind") = false := by decide +kernel
theorem Eo : (("operand" : Str) == "name") = false ∧ (("operand" : Str) == "operand") = true ∧ (("operand" : Str) == "operator") = false ∧ (("operand" : Str) == "budget") = false ∧ (("operand" : Str) == "returnable") = false ∧ (("operand" : Str) == "body") = false ∧ (("operand" : Str) == "procedure") = false ∧ (("operand" : Str) == "operands") = false ∧ (("operand" : Str) == "names") = false ∧ (("operand" : Str) == "kind") = false := by decide +kernel
theorem Ep : (("operator" : Str) == "name") = false ∧ (("operator" : Str) == "operand") = false ∧ (("operator" : Str) == "operator") = true ∧ (("operator" : Str) == "budget") = false ∧ (("operator" : Str) == "returnable") = false ∧ (("operator" : Str) == "body") = false ∧ (("operator" : Str) == "procedure") = false ∧ (("operator" : Str) == "operands") = false ∧ (("operator" : Str) == "names") = false ∧ (("operator" : Str) == "kind") = false := by decide +kernel
theorem Es : (("budget" : Str) == "name") = false ∧ (("budget" : Str) == "operand") = false ∧ (("budget" : Str) == "operator") = false ∧ (("budget" : Str) == "budget") = true ∧ (("budget" : Str) == "returnable") = false ∧ (("budget" : Str) == "body") = false ∧ (("budget" : Str) == "procedure") = false ∧ (("budget" : Str) == "operands") = false ∧ (("budget" : Str) == "names") = false ∧ (("budget" : Str) == "kind") = false := by decide +kernel
theorem Et : (("returnable" : Str) == "name") = false ∧ (("returnable" : Str) == "operand") = false ∧ (("returnable" : Str) == "operator") = false ∧ (("returnable" : Str) == "budget") = false ∧ (("returnable" : Str) == "returnable") = true ∧ (("returnable" : Str) == "body") = false ∧ (("returnable" : Str) == "procedure") = false ∧ (("returnable" : Str) == "operands") = false ∧ (("returnable" : Str) == "names") = false ∧ (("returnable" : Str) == "kind") = false := by decide +kernel
theorem Eu : (("body" : Str) == "name") = false ∧ (("body" : Str) == "operand") = false ∧ (("body" : Str) == "operator") = false ∧ (("body" : Str) == "budget") = false ∧ (("body" : Str) == "returnable") = false ∧ (("body" : Str) == "body") = true ∧ (("body" : Str) == "procedure") = false ∧ (("body" : Str) == "operands") = false ∧ (("body" : Str) == "names") = false ∧ (("body" : Str) == "kind") = false := by decide +kernel
theorem Ew : (("procedure" : Str) == "name") = false ∧ (("procedure" : Str) == "operand") = false ∧ (("procedure" : Str) == "operator") = false ∧ (("procedure" : Str) == "budget") = false ∧ (("procedure" : Str) == "returnable") = false ∧ (("procedure" : Str) == "body") = false ∧ (("procedure" : Str) == "procedure") = true ∧ (("procedure" : Str) == "operands") = false ∧ (("procedure" : Str) == "names") = false ∧ (("procedure" : Str) == "kind") = false := by decide +kernel
theorem Ey : (("operands" : Str) == "name") = false ∧ (("operands" : Str) == "operand") = false ∧ (("operands" : Str) == "operator") = false ∧ (("operands" : Str) == "budget") = false ∧ (("operands" : Str) == "returnable") = false ∧ (("operands" : Str) == "body") = false ∧ (("operands" : Str) == "procedure") = false ∧ (("operands" : Str) == "operands") = true ∧ (("operands" : Str) == "names") = false ∧ (("operands" : Str) == "kind") = false := by decide +kernel
theorem Ez : (("names" : Str) == "name") = false ∧ (("names" : Str) == "operand") = false ∧ (("names" : Str) == "operator") = false ∧ (("names" : Str) == "budget") = false ∧ (("names" : Str) == "returnable") = false ∧ (("names" : Str) == "body") = false ∧ (("names" : Str) == "procedure") = false ∧ (("names" : Str) == "operands") = false ∧ (("names" : Str) == "names") = true ∧ (("names" : Str) == "kind") = false := by decide +kernel
theorem EA : (("kind" : Str) == "name") = false ∧ (("kind" : Str) == "operand") = false ∧ (("kind" : Str) == "operator") = false ∧ (("kind" : Str) == "budget") = false ∧ (("kind" : Str) == "returnable") = false ∧ (("kind" : Str) == "body") = false ∧ (("kind" : Str) == "procedure") = false ∧ (("kind" : Str) == "operands") = false ∧ (("kind" : Str) == "names") = false ∧ (("kind" : Str) == "kind") = true := by decide +kernel
theorem a3n {T : List (Str × FX)} {mf : EX} {a : AX} {ρ : aF} {Q : D → Store → Prop} {E : bD → Store → Prop} : (Ao T mf a ρ S).al Q E ↔ (mf ρ S).al (fun d S1 => match d with
  | .fn x => match T.lookup x with
   | some f => (a ρ S1).al (fun us S2 => (f us S2).al Q E) E
   | none => False
  | _ => False) E := by
 unfold Ao
 rw [bM]
 refine iff_of_eq (congrArg (fun z => R.al (mf ρ S) z E) (funext fun d => funext fun S1 => propext ?_))
 cases d with
 | fn x =>
  simp only
  cases T.lookup x with
  | none => exact Iff.rfl
  | some f => simp only [bM]
 | _ => exact Iff.rfl
section
variable {a b c d e f : FX}
theorem a3o : List.lookup ("is_name" : Str) [("is_name", a), ("is_operand", b), ("is_operator", c), ("is_kind", d), ("are_operands", e), ("are_names", f)] = some a := by kernel_rfl
theorem a3p : List.lookup ("is_operand" : Str) [("is_name", a), ("is_operand", b), ("is_operator", c), ("is_kind", d), ("are_operands", e), ("are_names", f)] = some b := by kernel_rfl
theorem a3q : List.lookup ("is_operator" : Str) [("is_name", a), ("is_operand", b), ("is_operator", c), ("is_kind", d), ("are_operands", e), ("are_names", f)] = some c := by kernel_rfl
theorem a3r : List.lookup ("is_kind" : Str) [("is_name", a), ("is_operand", b), ("is_operator", c), ("is_kind", d), ("are_operands", e), ("are_names", f)] = some d := by kernel_rfl
theorem a3s : List.lookup ("are_operands" : Str) [("is_name", a), ("is_operand", b), ("is_operator", c), ("is_kind", d), ("are_operands", e), ("are_names", f)] = some e := by kernel_rfl
theorem a3t : List.lookup ("are_names" : Str) [("is_name", a), ("is_operand", b), ("is_operator", c), ("is_kind", d), ("are_operands", e), ("are_names", f)] = some f := by kernel_rfl
end
theorem a3u : jT oZ S (.str "name") = some (.fn "is_name") := by kernel_rfl
theorem a3v : jT oZ S (.str "operand") = some (.fn "is_operand") := by kernel_rfl
theorem a3w : jT oZ S (.str "operator") = some (.fn "is_operator") := by kernel_rfl
theorem a3x : jT oZ S (.str "kind") = some (.fn "is_kind") := by kernel_rfl
theorem a3y : jT oZ S (.str "operands") = some (.fn "are_operands") := by kernel_rfl
theorem a3z : jT oZ S (.str "names") = some (.fn "are_names") := by kernel_rfl
theorem a3A : jT oZ S (.str "procedure") = some (.fn "is_name") := by kernel_rfl
theorem fits_eq (h : d7 S n c b t) (hc : c.Ok) {k : Str} (hk : k ∈ allKinds) (hd : PD d) : sJ [.ref n, .str k, d] S = .ok (.bl (gD c k d)) S := by
 refine al_eq ?_
 unfold sJ Jp
 have hr := dW h
 have hin : ∀ z : Str, d = .str z → jc S (.str z) (.tup (c.back.map D.str)) = some (.bl (c.back.any (· == z))) := fun z e => by
  subst e
  cases hd with
  | str hl hch => exact AG hch hc.bk
 simp only [allKinds, List.mem_cons, List.not_mem_nil, or_false] at hk
 rcases hk with rfl | rfl | rfl | rfl | rfl | rfl | rfl | rfl | rfl | rfl
 all_goals simp only [gD, wV]
 all_goals simp! [qD, hr, Em, has_eq h hd, En, Eo, Ep, Es, Et, Eu, Ew, Ey, Ez, EA, oM, f_back h, w6, a3n, a3o, a3p, a3q, a3r, a3s, a3t, a3u, a3v, a3w, a3x, a3y, a3z, a3A, Br hd, Us hd, a3b hd, kind_eq hd, a2Y hd, names_eq hd, Prod.mk.injEq, Em]
 cases hb : hasB c d with
 | false => simp [hb]
 | true =>
  cases d with
  | str z => simp [hin z rfl, Bw, hb]
  | _ => simp [hasB] at hb
def zj (c : Ctx) (xs : List D) : Bool := match xs with
 | _ :: .str f :: .tup as :: .tup rs :: _ => match bQ c.rt f with
  | some (.tup [.tup ps, _, .tup qs]) => decide (as.length = ps.length) && decide (rs.length = qs.length)
  | _ => false
 | _ => false
theorem a3B {ks : List (Str × D)} {k : Str} : iW S (.dct (kq ks)) (.str k) = bQ ks k := by rw [← Bt]; rfl
theorem a3C (h : d7 S n c b t) (hc : c.Ok) {w : D} {f : Str} {as rs ys : List D} : uP [.ref n, .tup (w :: .str f :: .tup as :: .tup rs :: ys)] S = .ok (.bl (zj c (w :: .str f :: .tup as :: .tup rs :: ys))) S := by
 refine al_eq ?_
 unfold uP Jq
 simp! [at1, at2, Qq, oM, uV h, a3m, a3B]
 unfold zj
 cases e : bQ c.rt f with
 | none => simp [e]
 | some d =>
  obtain ⟨ps, b', qs, rfl⟩ := hc.rt f d e
  simp only [Option.isSome_some, Bool.not_true, Bool.false_eq_true, if_false, Option.some.injEq, exists_eq_left']
  refine ⟨([.sh (.ref n), .sh (.tup (w :: .str f :: .tup as :: .tup rs :: ys)), .sh (.tup ps), .sh b', .sh (.tup qs)], S), rfl, ?_⟩
  simp! [at1, at2, Qq, oM]
  by_cases h1 : as.length = ps.length
  ·by_cases h2 : rs.length = qs.length <;> first | (simp [h1, h2, e]; done) | (simp [h1, h2, e]; omega)
  ·simp [h1, e]; omega
end
end Pg
namespace Pg
open aH hiding top
open PySem PySem.Spec PyProof.Rows L2 Mi Rc Rd
theorem UC {α : Type} {w : Str} {d : α} : ∀ l : List (Str × α), l.lookup w = some d → (w, d) ∈ l
 | [], h => by cases h
 | (a, b) :: l, h => by
  rw [List.lookup_cons] at h
  cases e : w == a with
  | true =>
   rw [e] at h
   cases h
   rw [beq_iff_eq.mp e]
   exact List.mem_cons_self
  | false => rw [e] at h; exact List.mem_cons_of_mem _ (UC l h)
/-- the kinds of what stands behind a word -/
def shape (w : Str) : Option (List Str) := match iH.lookup w with
 | some (.tup ds) => jr ds
 | _ => none
theorem a3D : ∀ p ∈ iH, ∃ ks : List Str, p.2 = .tup (ks.map D.str) ∧ (∀ k ∈ ks, k ∈ allKinds) ∧ ks.length ≤ 5 := by
 intro p hp
 simp only [iH, List.mem_cons, List.not_mem_nil, or_false] at hp
 rcases hp with rfl | rfl | rfl | rfl | rfl | rfl | rfl | rfl | rfl | rfl
 ·exact ⟨["name", "operand", "operator", "operand"], rfl, by decide +kernel, by decide⟩
 ·exact ⟨["operand"], rfl, by decide +kernel, by decide⟩
 ·exact ⟨["budget", "operand"], rfl, by decide +kernel, by decide⟩
 ·exact ⟨["returnable", "operand"], rfl, by decide +kernel, by decide⟩
 ·exact ⟨["name", "budget"], rfl, by decide +kernel, by decide⟩
 ·exact ⟨["operand", "body", "body"], rfl, by decide +kernel, by decide⟩
 ·exact ⟨["operand", "body"], rfl, by decide +kernel, by decide⟩
 ·exact ⟨["procedure", "operands", "names"], rfl, by decide +kernel, by decide⟩
 ·exact ⟨["body", "names", "body", "names"], rfl, by decide +kernel, by decide⟩
 ·exact ⟨["budget", "operand", "kind", "body", "body"], rfl, by decide +kernel, by decide⟩
theorem UD {w : Str} {d : D} (h : iH.lookup w = some d) : ∃ ks : List Str, d = .tup (ks.map D.str) ∧ shape w = some ks ∧ (∀ k ∈ ks, k ∈ allKinds) ∧ ks.length ≤ 5 := by
 obtain ⟨ks, e, h1, h2⟩ := a3D _ (UC _ h)
 simp only at e
 subst e
 refine ⟨ks, rfl, ?_, h1, h2⟩
 unfold shape
 rw [h]
 exact SG ks
theorem UE {w : Str} (h : iH.lookup w = none) : shape w = none := by unfold shape; rw [h]
def apart (xs : List D) : Bool := match xs with
 | _ :: _ :: .tup as :: _ :: .tup bs :: _ => match jr as, jr bs with
  | some as, some bs => !(as.any fun x => bs.any (· == x))
  | _, _ => false
 | _ => false
def j5 (c : Ctx) : D → Bool
 | .tup (.str w :: ps) => match shape w with
  | some ks => decide (ps.length = ks.length) && (ks.zip ps).all (fun p => gD c p.1 p.2) && (if w == "both" then apart (.str w :: ps) else (!(w == "call") || zj c (.str w :: ps)))
  | none => false
 | _ => false
section
variable {S : Store} {n : Nat} {c : Ctx} {b d : D} {t : Option D}
theorem UG {cl m : Str} {r : MR} {mo : EX} {ar kr : AX} {ρ : aF} {us ws : List D} {fs : List (Str × D)} (h1 : mo ρ S = .ok d S) (h2 : cZ S d = some (cl, fs)) (h3 : fs.lookup m = none) (h4 : ar ρ S = .ok us S) (h5 : kr ρ S = .ok ws S) :
  fY [(cl, r)] m mo ar kr ρ S = r.f (pick r.idx (d :: us) (ws ++ r.dd)) S := by
 unfold fY
 rw [h1]
 simp only [R.bind, h2, List.lookup_cons, beq_self_eq_true, h3, h4, h5]
theorem a3E (h : d7 S n c b t) (hc : c.Ok) {ks : List Str} {ps : List D} {x1 x2 x5 : Sl} (hk : ∀ k ∈ ks, k ∈ allKinds) (hl : ks.length ≤ 5) (hp : ∀ d ∈ ps, PD d) :
  gA [3, 4] (fU (bL (aX 3) (bL (aX 4) gq))) i6 (fY [("Program", ⟨[0, 1, 2], [], sJ⟩)] "fits" (ak 0) (ao (ak 3) (ao (ak 4) aq)) aq) [.sh (.ref n), x1, x2, .un, .un, x5] (((ks.map D.str).zip ps).map fun p => .tup [p.1, p.2]) [] S =
  .ok ((ks.zip ps).map fun p => .bl (gD c p.1 p.2)) S := by
 have hz := vU (vs := [3, 4]) (g := fU (bL (aX 3) (bL (aX 4) gq))) (t := i6) (e := fY [("Program", ⟨[0, 1, 2], [], sJ⟩)] "fits" (ak 0) (ao (ak 3) (ao (ak 4) aq)) aq) (ρ := [.sh (.ref n), x1, x2, .un, .un, x5]) (S := S) (p := fun _ => true)
  (f := fun d => match d with | .tup [.str x, y] => .bl (gD c x y) | _ => d) (((ks.map D.str).zip ps).map fun p => .tup [p.1, p.2]) [] (by
  intro d hd
  obtain ⟨⟨x, y⟩, hm, rfl⟩ := List.mem_map.mp hd
  obtain ⟨m1, m2⟩ := List.of_mem_zip hm
  obtain ⟨k, hk2, rfl⟩ := List.mem_map.mp m1
  refine ⟨[.sh (.ref n), x1, x2, .sh (.str k), .sh y, x5], rfl, rfl, fun _ => ?_⟩
  rw [UG (d := .ref n) (us := [.str k, y]) (ws := []) rfl (dW h) a3h rfl rfl]
  exact fits_eq h hc (hk k hk2) (hp y m2)) (by
   rw [List.length_map, List.length_zip, List.length_map, List.length_nil, sizeLine_eq]; omega)
 rw [hz]
 simp only [List.nil_append]
 congr 1
 rw [List.filter_eq_self.mpr (fun _ _ => rfl), List.map_map, List.zip_map_left, List.map_map]
 rfl
theorem any_map {α : Type} {l : List α} (q : α → Bool) : Ai S [.lst (l.map fun c => D.bl (q c))] = some (.bl (l.any q)) := by
 have : ∀ l : List α, Mi.allB (l.map fun c => D.bl (q c)) = some (l.map q) := by
  intro l
  induction l with
  | nil => rfl
  | cons c l ih => simp only [List.map_cons, Mi.allB, ih]
 unfold Ai vR
 simp only [bu, this]
 congr 2
 rw [List.any_map]
 rfl
theorem a3F {as bs : List Str} {x0 x2 x3 x4 : Sl} {v : D} (ha : ∀ x ∈ as, ∀ ch ∈ x.cps.toList, ch < 0x110000) (hb : ∀ x ∈ bs, ∀ ch ∈ x.cps.toList, ch < 0x110000) (hl : as.length ≤ 1000) (e4 : bA S v (.int 4) = some (.tup (bs.map D.str))) :
  gA [5] (aX 5) i6 (aC jc (ak 5) (aC bA (ak 1) (mC (.int 4)))) [x0, .sh v, x2, x3, x4, .un] (as.map D.str) [] S = .ok (as.map fun x => .bl (bs.any (· == x))) S := by
 rw [vU (p := fun _ => true) (f := fun d => match d with | .str x => .bl (bs.any (· == x)) | _ => d) (as.map D.str) [] (fun d hd => by
  obtain ⟨x, hx, rfl⟩ := List.mem_map.mp hd
  refine ⟨[x0, .sh v, x2, x3, x4, .sh (.str x)], rfl, rfl, fun _ => ?_⟩
  simp only [aC, ak, mC, List.getElem?_cons_succ, List.getElem?_cons_zero, R.bind, R.opt, e4, AG (ha x hx) hb]) (by rw [List.length_map, List.length_nil, sizeLine_eq]; omega)]
 rw [List.filter_eq_self.mpr (fun _ _ => rfl), List.nil_append, List.map_map]
 rfl
theorem a3G {xs : List D} {k : Nat} : ug S (.tup xs) none (some (k : Int)) = some (.tup (xs.take k)) := by
 show some (D.tup (Mi.cutD xs none (some (k : Int)))) = _
 unfold Mi.cutD
 rw [HT.sIx_none, HT.sIx_nat, List.drop_zero, Nat.sub_zero]
 congr 2
 by_cases h : k ≤ xs.length
 ·rw [Nat.min_eq_left h]
 ·rw [Nat.min_eq_right (by omega), List.take_of_length_le (Nat.le_refl _), List.take_of_length_le (by omega)]
theorem a3H {xs : List D} {k : Nat} : ug S (.tup xs) (some (k : Int)) none = some (.tup (xs.drop k)) := by
 show some (D.tup (Mi.cutD xs (some (k : Int)) none)) = _
 unfold Mi.cutD
 rw [HT.sIx_none, HT.sIx_nat]
 congr 2
 by_cases h : k ≤ xs.length
 ·rw [Nat.min_eq_left h]; exact List.take_of_length_le (by rw [List.length_drop]; exact Nat.le_refl _)
 ·rw [Nat.min_eq_right (by omega), List.drop_of_length_le (Nat.le_refl _), List.drop_of_length_le (by omega)]; simp
theorem a3I {α : Type} {l : List α} (h : l.length = 4) : ∃ a b c d, l = [a, b, c, d] := by
 match l, h with
 | [a, b, c, d], _ => exact ⟨a, b, c, d, rfl⟩
theorem a3J {α : Type} {l : List α} (h : l.length = 3) : ∃ a b c, l = [a, b, c] := by
 match l, h with
 | [a, b, c], _ => exact ⟨a, b, c, rfl⟩
theorem a3K : shape "both" = some (["body", "names", "body", "names"] : List Str) := by kernel_rfl
theorem a3L : shape "call" = some (["procedure", "operands", "names"] : List Str) := by kernel_rfl
theorem a3M : (dH c b t).lookup ("fits_procedure" : Str) = none := a3i
theorem Bx {d : D} (h : jM d = true) : ∃ xs zs, d = .tup xs ∧ jr xs = some zs ∧ xs.all jL = true := by
 cases d with
 | tup xs =>
  unfold jM at h
  rw [Bool.and_eq_true] at h
  obtain ⟨zs, e⟩ := JG h.1
  exact ⟨xs, zs, rfl, e, h.1⟩
 | _ => cases h
theorem UH {k : Str} : gD c "names" d = jM d := by
 unfold gD wV
 simp only [En, Eo, Ep, Es, Et, Eu, Ew, Ey, Ez, EA, if_true, if_false, Bool.false_eq_true]
theorem a3N : gD c "operands" d = Bs d := by
 unfold gD wV
 simp only [En, Eo, Ep, Es, Et, Eu, Ew, Ey, Ez, EA, if_true, if_false, Bool.false_eq_true]
theorem a3O : gD c "procedure" d = jL d := by
 unfold gD wV
 simp only [En, Eo, Ep, Es, Et, Eu, Ew, Ey, Ez, EA, if_true, if_false, Bool.false_eq_true]
theorem a3P {w : Str} : Ax iH S (.str w) = some (.bl (!(iH.lookup w).isSome)) := rfl
theorem JL {w : Str} : jT iH S (.str w) = iH.lookup w := rfl
theorem UI {xs : List D} {zs : List Str} (hp : ∀ d ∈ xs, PD d) (e : jr xs = some zs) : ∀ x ∈ zs, ∀ ch ∈ x.cps.toList, ch < 0x110000 := by
 intro x hx
 have := hp (.str x) (by rw [wG e]; exact List.mem_map.mpr ⟨x, hx, rfl⟩)
 cases this with
 | str _ h => exact h
theorem st_eq (h : d7 S n c b t) (hc : c.Ok) (hd : PD d) : wQ [.ref n, d] S = .ok (.bl (j5 c d)) S := by
 refine al_eq ?_
 unfold wQ Jr
 simp! [Bo hd.pl]
 cases hd with
 | @tup xs hl hx =>
  simp! [a2S]
  cases xs with
  | nil => rfl
  | cons x ps =>
   have hx0 := hx x List.mem_cons_self
   have hps : ∀ d ∈ ps, PD d := fun d hd => hx d (List.mem_cons_of_mem _ hd)
   simp! [List.isEmpty_cons, at0, Ek hx0.pl]
   cases x with
   | str w =>
    simp! [w6, a3P, JL]
    unfold j5
    cases e : iH.lookup w with
    | none => simp [UE e]
    | some d0 =>
     obtain ⟨ks, rfl, es, hk, hk5⟩ := UD e
     simp only [es]
     have hsl : ug S (.tup (.str w :: ps)) (some 1) none = some (.tup ps) := by
      exact a3H (k := 1)
     have hz : vZ [.tup (ks.map D.str), .tup ps] = some (((ks.map D.str).zip ps).map fun p => .tup [p.1, p.2]) := rfl
     have hzf := fun x1 x2 x5 => a3E (x1 := x1) (x2 := x2) (x5 := x5) h hc hk hk5 hps
     simp! [Option.isSome_some, Hw, at0, hsl, hz, cJ, hzf, Bm, w6, JL, e, List.length_map]
     by_cases hlen : ps.length = ks.length
     ·have hneg : (!((ps.length + 1 : Nat) : Int) == 1 + (ks.length : Int)) = false := by rw [hlen]; simp; omega
      rw [hneg]
      simp only [Bool.false_eq_true, if_false, hlen, decide_true, Bool.true_and]
      cases ha : (ks.zip ps).all fun p => gD c p.1 p.2 with
      | false => simp [ha]
      | true =>
       simp only [Bool.not_true, Bool.false_eq_true, if_false, Bool.true_and]
       by_cases hw : (w == "both") = true
       ·have hw' := beq_iff_eq.mp hw
        subst hw'
        rw [a3K] at es
        cases es
        obtain ⟨p, as, q, bs, rfl⟩ := a3I hlen
        ·simp only [List.zip_cons_cons, List.zip_nil_right, List.all_cons, List.all_nil, Bool.and_true, Bool.and_eq_true, UH] at ha
         obtain ⟨_, h1, _, h2⟩ := ha
         obtain ⟨as, za, rfl, ea, _⟩ := Bx h1
         obtain ⟨bs, zb, rfl, eb, _⟩ := Bx h2
         have p1 := hps (.tup as) (by simp)
         have p2 := hps (.tup bs) (by simp)
         cases p1 with
         | tup l1 i1 =>
          cases p2 with
          | tup l2 i2 =>
           have c1 := UI i1 ea
           have c2 := UI i2 eb
           have e1 := wG ea
           have e2 := wG eb
           have lz : za.length ≤ 1000 := by
            have := congrArg List.length e1
            rw [List.length_map] at this; omega
           have e4 : bA S (.tup [.str "both", p, .tup as, q, .tup bs]) (.int 4) = some (.tup (zb.map D.str)) := by rw [← e2]; rfl
           have hany := a3F (S := S) (x0 := .sh (.ref n)) (x2 := .sh (.tup (([("body" : Str), "names", "body", "names"]).map D.str))) (x3 := .un) (x4 := .un) c1 c2 lz e4
           rw [← e1] at hany
           simp only [hw, if_true, at2, Option.some.injEq, exists_eq_left', HC, hany, uw, any_map, HA]
           unfold apart
           simp only [ea, eb]
           first | trivial | (refine ⟨?_, rfl⟩; simp) | simp
       ·simp only [hw, if_false, Bool.false_eq_true]
        by_cases hcl : (w == "call") = true
        ·have hw' := beq_iff_eq.mp hcl
         subst hw'
         rw [a3L] at es
         cases es
         obtain ⟨f, as, rs, rfl⟩ := a3J hlen
         ·simp only [List.zip_cons_cons, List.zip_nil_right, List.all_cons, List.all_nil, Bool.and_true, Bool.and_eq_true, UH, a3N, a3O] at ha
          obtain ⟨h1, h2, h3⟩ := ha
          obtain ⟨rs, zr, rfl, _, _⟩ := Bx h3
          cases f with
          | str f =>
           cases as with
           | tup as =>
            simp only [hcl, Bool.not_true, Bool.false_eq_true, if_false, Bool.false_or]
            rw [UG (d := .ref n) (us := [.tup [.str "call", .str f, .tup as, .tup rs]]) (ws := []) rfl (dW h) a3M rfl rfl]
            show (uP [.ref n, .tup (.str "call" :: .str f :: .tup as :: .tup rs :: [])] S).al _ _
            rw [a3C h hc]
            exact ⟨rfl, rfl⟩
           | _ => cases h2
          | _ => cases h1
        ·simp [hcl]
     ·have hneg : (!((ps.length + 1 : Nat) : Int) == 1 + (ks.length : Int)) = true := by simp; omega
      rw [hneg]
      simp [hlen]
   | _ => simp [j5]
 | _ => simp [j5]
end
end Pg
namespace Pg
open aH hiding top
open PySem PySem.Spec PyProof.Rows L2 Mi Rc Rd
/-- the places of the bodies behind the word -/
def pl (ks : List Str) : List Nat := (ks.zipIdx.filter fun p => p.1 == ("body" : Str)).map (·.2)
def kindsOf : D → List Str
 | .tup (.str w :: _) => (shape w).getD []
 | _ => []
def nth : D → Nat → Option D
 | .tup xs, i => xs[i]?
 | _, _ => none
/-- a body bR is right, at most k deep -/
def lX (c : Ctx) : Nat → D → Prop
 | 0, _ => False
 | k + 1, d => ∃ ss, d = .tup ss ∧ ∀ s ∈ ss, j5 c s = true ∧ ∀ i ∈ pl (kindsOf s), ∃ e, nth s (i + 1) = some e ∧ lX c k e
theorem JM {c : Ctx} : ∀ {k m : Nat} {d : D}, lX c k d → k ≤ m → lX c m d
 | 0, _, _, h, _ => h.elim
 | k + 1, m + 1, d, h, hl => by
  obtain ⟨ss, rfl, h⟩ := h
  refine ⟨ss, rfl, fun s hs => ⟨(h s hs).1, fun i hi => ?_⟩⟩
  obtain ⟨e, e1, e2⟩ := (h s hs).2 i hi
  exact ⟨e, e1, JM e2 (by omega)⟩
section
variable {S : Store} {n : Nat} {c : Ctx} {b d : D} {t : Option D}
theorem UJ (h : j5 c d = true) : ∃ w ps ks, d = .tup (.str w :: ps) ∧ shape w = some ks ∧ ps.length = ks.length ∧ iH.lookup w = some (.tup (ks.map D.str)) ∧ ks.length ≤ 5 := by
 unfold j5 at h
 split at h
 ·rename_i w ps
  cases e : iH.lookup w with
  | none => rw [UE e] at h; cases h
  | some d0 =>
   obtain ⟨ks, rfl, es, _, h5⟩ := UD e
   rw [es] at h
   simp only [Bool.and_eq_true, decide_eq_true_eq] at h
   exact ⟨w, ps, ks, rfl, es, h.1.1, e, h5⟩
 ·cases h
theorem zm {w : Str} {ps : List D} {ks : List Str} (e : shape w = some ks) : kindsOf (.tup (.str w :: ps)) = ks := by show (shape w).getD [] = ks; rw [e]; rfl
theorem places_eq {w : Str} {ps : List D} {ks : List Str} (e : iH.lookup w = some (.tup (ks.map D.str))) (hl : ks.length ≤ 5) :
  uO [.tup (.str w :: ps)] S = .ok (.lst ((pl ks).map fun i => D.int ((i + 1 : Nat) : Int))) S := by
 refine al_eq ?_
 unfold uO Jh
 have he : rO [.tup (ks.map D.str)] = some (lH (ks.map D.str)) := rfl
 have hc : gA [1, 2] (fU (bL (aX 1) (bL (aX 2) gq))) (bH (aC cX (ak 2) (mC (.str "body")))) (aC fD (ak 1) (mC (.int 1))) [.sh (.tup (.str w :: ps)), .un, .un] (lH (ks.map D.str)) [] S = .ok ((pl ks).map fun i => D.int ((i + 1 : Nat) : Int)) S := by
  rw [vU (p := fun d => match d with | .tup [_, .str k] => k == "body" | _ => false) (f := fun d => match d with | .tup [.int i, _] => .int (i + 1) | _ => d) (lH (ks.map D.str)) [] (fun d hd => by
   unfold lH at hd
   obtain ⟨⟨x, i⟩, hp, rfl⟩ := List.mem_map.mp hd
   rw [List.mem_zipIdx_iff_getElem?, List.getElem?_map] at hp
   simp only at hp
   cases ek : ks[i]? with
   | none => rw [ek] at hp; cases hp
   | some k =>
    rw [ek] at hp
    cases hp
    refine ⟨[.sh (.tup (.str w :: ps)), .sh (.int (i : Int)), .sh (.str k)], rfl, ?_, fun _ => rfl⟩
    simp only [bH, aC, ak, mC, List.getElem?_cons_succ, List.getElem?_cons_zero, R.bind, R.opt, Hz, mF]) (by unfold lH; rw [List.length_map, List.length_zipIdx, List.length_map, List.length_nil, sizeLine_eq]; omega)]
  rw [List.nil_append]
  congr 1
  unfold lH pl
  rw [List.filter_map, List.map_map, List.map_map, List.zipIdx_map, List.filter_map, List.map_map]
  refine List.map_congr_left fun p _ => ?_
  simp
 simp! [at0, w6, JL, e, he, cJ, hc]
theorem zp {xs : List D} {i : Nat} {e : D} (h : PD (.tup xs)) (hi : xs[i]? = some e) : PD e := by
 cases h with
 | tup _ h => exact h e (List.mem_of_getElem? hi)
theorem UK (h : d7 S n c b t) (hc : c.Ok) : ∀ (k : Nat) (d : D) (path : List D), lX c k d → PD d → path.length + 2 * k ≤ 1000 → kI k [.ref n, d, .tup path] S = .ok .non S
 | 0, _, _, hk, _, _ => hk.elim
 | k + 1, d, path, hk, hd, hp => by
  obtain ⟨ss, rfl, hk⟩ := hk
  refine al_eq ?_
  show (aY _ (E7 (kI k)) _ _).al _ _
  unfold E7
  have he : rO [.tup ss] = some (lH ss) := rfl
  simp! [Bo hd.pl, he]
  refine jV (fun _ ρ S' => S = S' ∧ ∃ x3 x4 x5, ρ = [.sh (.ref n), .sh (.tup ss), .sh (.tup path), x3, x4, x5]) ⟨rfl, _, _, _, rfl⟩ ?_ ?_
  ·rintro i x ρ _ hx ⟨rfl, x3, x4, x5, rfl⟩
   unfold lH at hx
   rw [List.getElem?_map, List.getElem?_zipIdx] at hx
   cases es : ss[i]? with
   | none => rw [es] at hx; cases hx
   | some s =>
    rw [es] at hx
    cases hx
    have hm := List.mem_of_getElem? es
    obtain ⟨h1, h2⟩ := hk s hm
    have hs := zp hd es
    obtain ⟨w, ps, ks, rfl, e1, e2, e3, e5⟩ := UJ h1
    rw [zm e1] at h2
    refine ⟨_, rfl, ?_⟩
    simp! [qD, dW h, Prod.mk.injEq, a3j, st_eq h hc hs, h1, places_eq e3 e5]
    refine jV (fun _ ρ S' => True ∧ S = S' ∧ ∃ x5, ρ = [.sh (.ref n), .sh (.tup ss), .sh (.tup path), .sh (.int (i : Int)), .sh (.tup (.str w :: ps)), x5]) ⟨trivial, rfl, _, rfl⟩ ?_ ?_
    ·rintro j x ρ _ hj ⟨_, rfl, x5, rfl⟩
     rw [List.getElem?_map] at hj
     cases ej : (pl ks)[j]? with
     | none => rw [ej] at hj; cases hj
     | some q =>
      rw [ej] at hj
      cases hj
      obtain ⟨e, e6, e7⟩ := h2 q (List.mem_of_getElem? ej)
      have wW : (D.str w :: ps)[q + 1]? = some e := e6
      have hat : atI (.str w :: ps) ((q + 1 : Nat) : Int) = some e := by rw [yq (List.getElem?_eq_some_iff.mp wW).1]; exact wW
      have ih := UK h hc k e (path ++ [.int (i : Int), .int ((q + 1 : Nat) : Int)]) e7 (zp hs wW) (by rw [List.length_append]; simp; omega)
      refine ⟨_, rfl, ?_⟩
      have hadd : fD S (.tup path) (.tup [.int (i : Int), .int ((q + 1 : Nat) : Int)]) = some (.tup (path ++ [.int (i : Int), .int ((q + 1 : Nat) : Int)])) := ZR (by rw [sizeLine_eq]; simp; omega)
      simp! [qD, dW h, Prod.mk.injEq, JK, hat, hadd, ih]
      first | exact ⟨trivial, rfl, _, rfl⟩ | exact ⟨rfl, _, rfl⟩ | exact ⟨_, rfl⟩
    ·rintro ρ _ ⟨_, rfl, x5, rfl⟩
     first | exact ⟨rfl, _, _, _, rfl⟩ | exact ⟨_, _, _, rfl⟩
  ·rintro ρ _ ⟨rfl, x3, x4, x5, rfl⟩
   first | exact ⟨rfl, rfl⟩ | exact rfl
end
/-- how many statements, k deep -/
def cnt : Nat → D → Nat
 | 0, _ => 0
 | k + 1, .tup ss => (ss.map fun s => 1 + ((pl (kindsOf s)).map fun i => cnt k ((nth s (i + 1)).getD .non)).sum).sum
 | _ + 1, _ => 0
theorem EB : ∀ (l : List Nat) (i : Nat), (l.take i).sum ≤ l.sum
 | [], i => by simp
 | x :: l, 0 => by simp
 | x :: l, i + 1 => by
  have := EB l i
  simp only [List.take_succ_cons, List.sum_cons]
  omega
section
variable {S S1 T : Store} {so so' : SO} {ρ : aF} {a : EX} {N : aF → Store → Prop} {p : Po}
theorem uW : (S ++ so :: T)[S.length]? = some so := by simp
theorem set_mid : (S ++ so :: T).set S.length so' = S ++ so' :: T := by simp
theorem UL {i n : Nat} {us : List D} (hr : ρ[i]? = some (.sh (.ref n))) (hs : S[n]? = some (.lst us)) (h : (a ρ S).al (fun d S1 => ∃ xs zs, S1[n]? = some (.lst xs) ∧ bu S1 d = some zs ∧ xs.length + zs.length ≤ sizeLine ∧ N ρ (S1.set n (.lst (xs ++ zs)))) (fun e S => p.E e S ∧ p.X e ρ S)) : (yO i a ρ S).al N p := by
 unfold yO
 rw [hr]
 simp only [hs]
 rw [jU]
 refine mV h ?_ (fun _ _ h => h)
 rintro d S1 ⟨xs, zs, e1, e2, e3, h⟩
 simp only [e1, e2, e3, if_true]
 exact h
theorem a3R {i n : Nat} {us : List D} (hr : ρ[i]? = some (.sh (.ref n))) (hs : S[n]? = some (.lst us)) (h : (a ρ S).al (fun d S1 => ∃ xs, S1[n]? = some (.lst xs) ∧ xs.length < sizeLine ∧ N ρ (S1.set n (.lst (xs ++ [d])))) (fun e S => p.E e S ∧ p.X e ρ S)) : (uh i a ρ S).al N p := by
 rw [Hr, hr]
 simp only [hs]
 refine mV h ?_ (fun _ _ h => h)
 rintro d S1 ⟨xs, e1, e3, h⟩
 exact ⟨xs, e1, e3, h⟩
theorem JN {c : Ctx} {E : bD → Store → Prop} : ∀ (k : Nat) (d : D) (S : Store), lX c k d → PD d → cnt k d ≤ 100000 →
  (qH k [d] S).al (fun r S' => ∃ T xs, r = .ref S.length ∧ S' = S ++ (.lst xs :: T) ∧ xs.length = cnt k d) E
 | 0, _, _, h, _, _ => h.elim
 | k + 1, d, S, hk, hd, hc => by
  obtain ⟨ss, rfl, hk⟩ := hk
  show (aY _ (E8 (qH k)) _ _).al _ _
  unfold E8
  simp! [C4]
  have hsum : ∀ i, ((ss.take i).map fun s => 1 + ((pl (kindsOf s)).map fun i => cnt k ((nth s (i + 1)).getD .non)).sum).sum ≤ 100000 := fun i => by
   refine Nat.le_trans ?_ hc
   show _ ≤ (ss.map _).sum
   rw [List.map_take]
   exact EB _ _
  refine jV (fun i ρ S' => ∃ T xs x2 x3, ρ = [.sh (.tup ss), .sh (.ref S.length), x2, x3] ∧ S' = S ++ (.lst xs :: T) ∧ xs.length = ((ss.take i).map fun s => 1 + ((pl (kindsOf s)).map fun i => cnt k ((nth s (i + 1)).getD .non)).sum).sum) ⟨[], [], _, _, rfl, rfl, rfl⟩ ?_ ?_
  ·rintro i s ρ S' hi ⟨T, xs, x2, x3, rfl, rfl, hl⟩
   have hm := List.mem_of_getElem? hi
   obtain ⟨h1, h2⟩ := hk s hm
   have hs := zp hd hi
   obtain ⟨w, ps, ks, rfl, e1, e2, e3, e5⟩ := UJ h1
   rw [zm e1] at h2
   have hnext : ((ss.take (i + 1)).map fun s => 1 + ((pl (kindsOf s)).map fun i => cnt k ((nth s (i + 1)).getD .non)).sum).sum = xs.length + 1 + ((pl ks).map fun i => cnt k ((nth (.tup (.str w :: ps)) (i + 1)).getD .non)).sum := by
    rw [List.take_add_one, hi, List.map_append, List.sum_append, ← hl]
    simp [zm e1]
    omega
   have hb := hsum (i + 1)
   rw [hnext] at hb
   refine ⟨_, rfl, ?_⟩
   rw [AA]
   refine a3R (n := S.length) rfl uW ?_
   simp only [w_var, List.getElem?_cons_succ, List.getElem?_cons_zero, List.set_cons_succ, List.set_cons_zero]
   refine ⟨xs, uW, by rw [sizeLine_eq]; omega, ?_⟩
   rw [set_mid]
   simp! [places_eq e3 e5]
   refine jV (fun j ρ S' => ∃ T ys x3, ρ = [.sh (.tup ss), .sh (.ref S.length), .sh (.tup (.str w :: ps)), x3] ∧ S' = S ++ (.lst ys :: T) ∧ ys.length = xs.length + 1 + (((pl ks).take j).map fun i => cnt k ((nth (.tup (.str w :: ps)) (i + 1)).getD .non)).sum) ⟨T, _, _, rfl, rfl, by simp⟩ ?_ ?_
   ·rintro j x ρ _ hj ⟨T1, ys, x3, rfl, rfl, hy⟩
    rw [List.getElem?_map] at hj
    cases ej : (pl ks)[j]? with
    | none => rw [ej] at hj; cases hj
    | some q =>
     rw [ej] at hj
     cases hj
     obtain ⟨e, e6, e7⟩ := h2 q (List.mem_of_getElem? ej)
     have wW : (D.str w :: ps)[q + 1]? = some e := e6
     have hat : atI (.str w :: ps) ((q + 1 : Nat) : Int) = some e := by rw [yq (List.getElem?_eq_some_iff.mp wW).1]; exact wW
     have hstep : (((pl ks).take (j + 1)).map fun i => cnt k ((nth (.tup (.str w :: ps)) (i + 1)).getD .non)).sum = (((pl ks).take j).map fun i => cnt k ((nth (.tup (.str w :: ps)) (i + 1)).getD .non)).sum + cnt k e := by
      rw [List.take_add_one, ej, List.map_append, List.sum_append]
      simp [e6]
     have hle : (((pl ks).take (j + 1)).map fun i => cnt k ((nth (.tup (.str w :: ps)) (i + 1)).getD .non)).sum ≤ ((pl ks).map fun i => cnt k ((nth (.tup (.str w :: ps)) (i + 1)).getD .non)).sum := by
      rw [List.map_take]; exact EB _ _
     refine ⟨_, rfl, ?_⟩
     refine UL (n := S.length) rfl uW ?_
     simp! [hat]
     refine mV (JN (E := fun e S => _) k e (S ++ .lst ys :: T1) e7 (zp hs wW) (by omega)) ?_ (fun _ _ h => h)
     rintro r _ ⟨T2, zs, rfl, rfl, hz⟩
     refine ⟨ys, zs, ?_, ?_, ?_, T1 ++ .lst zs :: T2, ys ++ zs, _, rfl, ?_, ?_⟩
     ·simp
     ·simp only [bu, uW]
     ·first | (rw [sizeLine_eq]; omega) | omega
     ·simp
     ·rw [List.length_append, hstep, hz, hy]; omega
   ·rintro ρ _ ⟨T1, ys, x3, rfl, rfl, hy⟩
    refine ⟨T1, ys, _, _, rfl, rfl, ?_⟩
    rw [hnext, hy, List.length_map, List.take_length]
  ·rintro ρ _ ⟨T, xs, x2, x3, rfl, rfl, hl⟩
   simp!
   refine ⟨T, xs, rfl, ?_⟩
   rw [hl, List.take_length]
   rfl
end
end Pg
namespace Pg
open aH hiding top
open PySem PySem.Spec PyProof.Rows L2 Mi Rc Rd
section
variable {S : Store} {ρ : aF} {N : aF → Store → Prop} {p : Po}
abbrev poF : Po := ⟨fun _ _ => False, fun _ _ => False, fun _ _ => False, fun _ _ => False, fun _ _ _ => False⟩
/-- a loop over what stands in a dict, its body b2j nothing of the store -/
theorem UM {g : List (Key × D) → List D} {G : GX} {B : SX} {i : Nat} {d : D} {kvs : List (Key × D)} (hr : ρ[i]? = some (.sh d)) (hv : aU S d = some kvs)
  (h : ∀ S1, (forL G B (g kvs) ρ S1).al (fun ρ' S' => S1 = S' ∧ N ρ' S) poF) : (lK (ak i) (gW (iF g (ak i)) G B) ρ S).al N p := by
 rw [Ds]
 have hmv : ∀ S, ak i ρ S = .ok d S := fun S => by unfold ak; rw [hr]
 have run : ∀ S1 (N2 : aF → Store → Prop) (p2 : Po), iz S1 d = some kvs → (∀ ρ', N ρ' S → N2 ρ' S1) → (gW (iF g (ak i)) G B ρ S1).al N2 p2 := by
  intro S1 N2 p2 hf hn
  rw [Hl, AI, w_var, hr]
  simp only [hf, Option.some.injEq, exists_eq_left']
  refine OW (h S1) ?_ (fun _ _ z => z.elim) (fun _ _ _ z => z.1.elim) (fun _ _ z => z.elim) (fun _ _ z => z.elim)
  rintro ρ' S' ⟨rfl, z⟩
  exact hn ρ' z
 cases d with
 | dct xs =>
  cases hv
  have : je (ak i) ρ S = none := by unfold je; rw [hmv]
  rw [this]
  exact run S N p rfl (fun _ z => z)
 | ref n =>
  simp only [aU] at hv
  split at hv
  ·rename_i xs e
   cases hv
   have : je (ak i) ρ S = some (n, .dX kvs) := a0q hr e
   rw [this]
   have hn : n < S.length := (List.getElem?_eq_some_iff.mp e).1
   have e2 : (S.set n (.dX kvs))[n]? = some (.dX kvs) := List.getElem?_set_self hn
   refine run _ _ _ (by simp only [iz, e2]) fun ρ' z => ⟨S, ?_, z⟩
   rw [a0r e2, List.set_set]
   congr 1
   obtain ⟨h1, h2⟩ := List.getElem?_eq_some_iff.mp e
   rw [← h2]; exact List.set_getElem_self h1
  ·rename_i xs e
   cases hv
   have : je (ak i) ρ S = none := by
    unfold je
    rw [hmv]
    simp only [e]
    rfl
   rw [this]
   exact run S N p (by simp only [iz, e]) (fun _ z => z)
  ·cases hv
 | _ => cases hv
end
section
variable {S : Store} {d : D} {E : bD → Store → Prop}
theorem UN {kvs : List (Key × D)} (hv : aU S d = some kvs) : eE S [d, .ty "dict"] = some (.bl true) := by
 unfold eE tyOf Af
 cases d with
 | dct xs => rfl
 | ref m =>
  simp only [aU] at hv
  cases e : S[m]? with
  | none => rw [e] at hv; cases hv
  | some so =>
   rw [e] at hv
   cases so with
   | dct xs => simp only [e]; rfl
   | dX xs => simp only [e]; rfl
   | _ => cases hv
 | _ => cases hv
theorem UO {kvs : Am} {z : Str} (hv : aU S d = some (kd kvs)) : uF S (.str z) d = some (.bl (!(look kvs z).isSome)) := by
 unfold uF
 simp only [hv, keyD, JC]
/-- EC bR are right -/
structure By (am : Am) : Prop where
 nd : (am.map (·.1)).Nodup
 len : am.length ≤ 60
 nm : ∀ q ∈ am, nameS q.1 = true ∧ 0 ≤ q.2 ∧ q.2 ≤ 1000000000000
 st : (look am "steps").isSome = true
theorem UP {z : Str} (h : nameS z = true) : PD (.str z) := by
 have := oX.mp h
 exact .str (by have := this.2.1; omega) this.chars
theorem a3T {am : Am} (hv : aU S d = some (kd am)) (h : By am) : (yW [d] S).al (fun r S' => S = S' ∧ r = .non) E := by
 unfold yW Ja
 simp! [UN hv, UO hv, h.st]
 refine UM rfl hv fun S1 => ?_
 refine jV (fun _ ρ S' => S1 = S' ∧ ∃ x1 x2, ρ = [.sh d, x1, x2]) ⟨rfl, _, _, rfl⟩ ?_ ?_
 ·rintro i x ρ _ hx ⟨rfl, x1, x2, rfl⟩
  unfold jG kd at hx
  rw [List.map_map, List.getElem?_map] at hx
  cases e : am[i]? with
  | none => rw [e] at hx; cases hx
  | some q =>
   rw [e] at hx
   cases hx
   obtain ⟨h1, h2, h3⟩ := h.nm q (List.mem_of_getElem? e)
   refine ⟨([.sh d, .sh (.str q.1), .sh (.int q.2)], S1), rfl, ?_⟩
   simp! [Br (UP h1), jL, h1, Ut (PD.int q.2), zf, h2, h3, decide_true, Bool.and_self]
   first | exact ⟨_, _, rfl⟩ | exact ⟨rfl, _, _, rfl⟩
 ·rintro ρ _ ⟨rfl, x1, x2, rfl⟩
  first | exact ⟨rfl, rfl, rfl⟩ | exact ⟨rfl, rfl⟩ | exact rfl
/-- b2k EC bR are right -/
structure JO (am : Am) (bs : List Str) : Prop where
 nd : bs.Nodup
 len : bs.length ≤ 60
 nm : ∀ z ∈ bs, z ≠ "steps" ∧ (look am z).isSome = true ∧ ∀ c ∈ z.cps.toList, c < 0x110000
theorem a3U {am : Am} {bs : List Str} (hv : aU S d = some (kd am)) (h : JO am bs) : (yX [.tup (bs.map D.str), d] S).al (fun r S' => S = S' ∧ r = .non) E := by
 unfold yX Jb
 have he : rO [.tup (bs.map D.str)] = some (lH (bs.map D.str)) := rfl
 simp! [a2X, he]
 refine jV (fun _ ρ S' => S = S' ∧ ∃ x2 x3, ρ = [.sh (.tup (bs.map D.str)), .sh d, x2, x3]) ⟨rfl, _, _, rfl⟩ ?_ ?_
 ·rintro i x ρ _ hx ⟨rfl, x2, x3, rfl⟩
  unfold lH at hx
  rw [List.getElem?_map, List.getElem?_zipIdx, List.getElem?_map] at hx
  cases e : bs[i]? with
  | none => rw [e] at hx; cases hx
  | some z =>
   rw [e] at hx
   cases hx
   have hm := List.mem_of_getElem? e
   obtain ⟨h1, h2, h3⟩ := h.nm z hm
   have hne : (z == "steps") = false := beq_eq_false_iff_ne.mpr h1
   have hs : eE S [.str z, .ty "str"] = some (.bl true) := rfl
   have hin : jc S (.str z) (.tup ((bs.map D.str).take i)) = some (.bl false) := by
    rw [← List.map_take, AG h3 fun y hy => (h.nm y (List.mem_of_mem_take hy)).2.2]
    congr 2
    rw [List.any_eq_false]
    intro y hy
    rw [beq_iff_eq]
    rintro rfl
    obtain ⟨j, hj⟩ := List.getElem?_of_mem hy
    rw [List.getElem?_take] at hj
    split at hj
    ·have := (List.getElem?_inj (List.getElem?_eq_some_iff.mp hj).1 h.nd).mp (hj.trans e.symm)
     omega
    ·cases hj
   refine ⟨_, rfl, ?_⟩
   simp! [hs, UO hv, h2, hne, a3G, hin]
   first | exact ⟨_, _, rfl⟩ | exact ⟨rfl, _, _, rfl⟩
 ·rintro ρ _ ⟨rfl, x2, x3, rfl⟩
  first | exact ⟨rfl, rfl, rfl⟩ | exact ⟨rfl, rfl⟩ | exact rfl
/-- b2l bR are right, b2m a3V bodies are -/
structure UQ (rt : List (Str × D)) : Prop where
 nd : (rt.map (·.1)).Nodup
 len : rt.length ≤ 60
 nm : ∀ q ∈ rt, nameS q.1 = true ∧ uU q.2 = true ∧ PD q.2
theorem a3W {rt : List (Str × D)} (hv : aU S d = some (kq rt)) (h : UQ rt) : (yZ [d] S).al (fun r S' => S = S' ∧ r = .non) E := by
 unfold yZ Jf
 simp! [UN hv]
 refine UM rfl hv fun S1 => ?_
 refine jV (fun _ ρ S' => S1 = S' ∧ ∃ x1 x2, ρ = [.sh d, x1, x2]) ⟨rfl, _, _, rfl⟩ ?_ ?_
 ·rintro i x ρ _ hx ⟨rfl, x1, x2, rfl⟩
  unfold jG kq at hx
  rw [List.map_map, List.getElem?_map] at hx
  cases e : rt[i]? with
  | none => rw [e] at hx; cases hx
  | some q =>
   rw [e] at hx
   cases hx
   obtain ⟨h1, h2, h3⟩ := h.nm q (List.mem_of_getElem? e)
   refine ⟨([.sh d, .sh (.str q.1), .sh q.2], S1), rfl, ?_⟩
   simp! [Br (UP h1), jL, h1, proc_eq h3, h2]
   first | exact ⟨_, _, rfl⟩ | exact ⟨rfl, _, _, rfl⟩
 ·rintro ρ _ ⟨rfl, x1, x2, rfl⟩
  first | exact ⟨rfl, rfl, rfl⟩ | exact ⟨rfl, rfl⟩ | exact rfl
def cG (rs : List (Str × D)) : List (Str × D) := (dG (rs.map (·.1))).map fun k => (k, (bQ rs k).getD .non)
def nu (am : Am) : List (Str × D) := am.map fun p => (p.1, D.int p.2)
theorem JP {am : Am} : kq (nu am) = kd am := by unfold kq nu kd; rw [List.map_map]; rfl
theorem a3X {am : Am} {k : Str} : bQ (nu am) k = (look am k).map D.int := by rw [← Bt, JP, JB]
theorem a3Y {am : Am} (h : (am.map (·.1)).Nodup) : kq (cG (nu am)) = kd (srt am) := by
 unfold kq cG kd srt
 have : (nu am).map (·.1) = am.map (·.1) := by unfold nu; rw [List.map_map]; rfl
 rw [this, List.map_map, List.map_map]
 refine List.map_congr_left fun k hk => ?_
 have hm := nq.mpr ((fP _).mem_iff.mp hk)
 obtain ⟨v, e⟩ := Option.isSome_iff_exists.mp hm
 simp only [Function.comp, a3X, e, Option.map_some, Option.getD_some]
theorem UR : ∀ {ks : List (Str × D)}, yL (kq ks) = some (ks.map (·.1))
 | [] => rfl
 | p :: ks => by
  have ih := UR (ks := ks)
  unfold kq at *
  simp only [List.map_cons, yL, ih]
theorem zq : ∀ {ks : List (Str × D)} {k : Str}, (bQ ks k).isSome = true ↔ k ∈ ks.map (·.1)
 | [], _ => by simp [bQ]
 | p :: ks, k => by
  have ih := zq (ks := ks) (k := k)
  unfold bQ at *
  rw [List.find?_cons, List.map_cons, List.mem_cons]
  by_cases e : p.1 = k
  ·simp [e]
  ·simp only [e, decide_false]
   rw [ih]
   exact ⟨.inr, fun h => h.elim (fun z => absurd z.symm e) id⟩
theorem UT {f : Str → D} : ∀ (ns : List Str) (acc : List (Str × D)), (acc.map (·.1) ++ ns).Nodup → (ns.foldl (fun a k => putD a (.inr k) (f k)) (kq acc)) = kq (acc ++ ns.map fun k => (k, f k))
 | [], acc, _ => by simp
 | k :: ns, acc, h => by
  rw [List.foldl_cons]
  have hn : k ∉ acc.map (·.1) := by
   have := (List.nodup_append.mp h).2.2
   intro z
   exact this k z k List.mem_cons_self rfl
  have hh : mU (kq acc) (.inr k) = false := by
   rw [JI]
   cases e : bQ acc k with
   | none => rfl
   | some v => exact absurd (zq.mp (by rw [e]; rfl)) hn
  have e : putD (kq acc) (.inr k) (f k) = kq (acc ++ [(k, f k)]) := by
   unfold putD
   rw [hh]
   simp [kq]
  rw [e, UT ns (acc ++ [(k, f k)]) (by rw [List.map_append, List.append_assoc]; exact h), List.append_assoc]
  rfl
theorem a3Z {kvs : List (Str × D)} {k : Str} (hv : aU S d = some (kq kvs)) : iW S d (.str k) = bQ kvs k := by
 unfold iW
 simp only [hv, keyD, Bt]
theorem UU {kvs : List (Str × D)} (hv : aU S d = some (kq kvs)) (hl : kvs.length ≤ 60) : qC S [d] = some (.lst ((dG (kvs.map (·.1))).map D.str)) := by
 unfold qC
 simp only [hv, UR]
 rw [if_pos (by rw [List.length_map]; omega)]
/-- {name: d[name] for name in sorted(d)} -/
theorem UW {rs : List (Str × D)} {i j : Nat} {ρ : aF} (hi : i < ρ.length) (hij : i ≠ j) (hr : ρ[j]? = some (.sh d)) (hv : aU S d = some (kq rs)) (nd : (rs.map (·.1)).Nodup) (hl : rs.length ≤ 60) :
  lO [i] (aX i) i6 (ak i) (aC iW (ak j) (ak i)) ρ ((dG (rs.map (·.1))).map D.str) [] S = .ok (kq (cG rs)) S := by
 rw [RE (kf := fun x => match x with | .str k => .inr k | _ => .inl 0) (vf := fun x => match x with | .str k => (bQ rs k).getD .non | _ => .non) _ [] (fun x hx => by
  obtain ⟨k, hk, rfl⟩ := List.mem_map.mp hx
  have hm : k ∈ rs.map (·.1) := (fP _).mem_iff.mp hk
  obtain ⟨v, ev⟩ := Option.isSome_iff_exists.mp (zq.mpr hm)
  have e1 : (ρ.set i (.sh (.str k)))[i]? = some (.sh (.str k)) := List.getElem?_set_self hi
  have e2 : (ρ.set i (.sh (.str k)))[j]? = some (.sh d) := by rw [List.getElem?_set_ne hij]; exact hr
  refine ⟨(ρ.set i (.sh (.str k)), S), .str k, rfl, rfl, ?_, rfl, ?_⟩
  ·simp only [ak, e1]
  ·simp only [aC, ak, e1, e2, R.bind, R.opt, a3Z hv, ev, Option.getD_some]) (by
  rw [List.length_map, (fP _).length_eq, List.length_map, List.length_nil, sizeLine_eq]; omega)]
 congr 1
 rw [List.foldl_map]
 exact UT (f := fun k => (bQ rs k).getD .non) (dG (rs.map (·.1))) [] (by rw [List.map_nil, List.nil_append]; exact (fP _).nodup_iff.mpr nd)
end
end Pg
namespace Pg
open aH hiding top
open PySem PySem.Spec PyProof.Rows L2 Mi Rc Rd
/-- what a program is made of -/
structure Pr where
 am : Am
 back : List Str
 rt : List (Str × D)
 body : D
def Pr.c (p : Pr) : Ctx := ⟨srt p.am, dG p.back, cG p.rt⟩
def bodyOf (d : D) : D := (nth d 1).getD .non
def total (p : Pr) : Nat := cnt 60 p.body + ((cG p.rt).map fun q => cnt 60 (bodyOf q.2)).sum
structure Right (p : Pr) : Prop where
 am : By p.am
 bk : JO p.am p.back
 rt : UQ p.rt
 body : lX p.c 60 p.body ∧ PD p.body
 procs : ∀ q ∈ p.rt, lX p.c 60 (bodyOf q.2)
 len : total p ≤ 100000
theorem BA {rs : List (Str × D)} {q : Str × D} (h : q ∈ cG rs) : q ∈ rs := by
 obtain ⟨k, hk, rfl⟩ := List.mem_map.mp h
 have hm : k ∈ rs.map (·.1) := (fP _).mem_iff.mp hk
 obtain ⟨v, e⟩ := Option.isSome_iff_exists.mp (zq.mpr hm)
 rw [e]
 unfold bQ at e
 obtain ⟨q, e1, e2⟩ := Option.map_eq_some_iff.mp e
 have h1 := List.mem_of_find?_eq_some e1
 have h2 := List.find?_some e1
 simp only [decide_eq_true_eq] at h2
 rw [← e2, ← h2]
 exact h1
theorem ED {rs : List (Str × D)} {k : Str} {d : D} (h : bQ rs k = some d) : (k, d) ∈ rs := by
 unfold bQ at h
 obtain ⟨q, e1, e2⟩ := Option.map_eq_some_iff.mp h
 have h1 := List.mem_of_find?_eq_some e1
 have h2 := List.find?_some e1
 simp only [decide_eq_true_eq] at h2
 rw [← e2, ← h2]
 exact h1
theorem JQ {d : D} (h : uU d = true) : ∃ ps b rs, d = .tup [.tup ps, b, .tup rs] := by
 unfold uU at h
 split at h
 ·rename_i a b c
  rw [Bool.and_eq_true] at h
  obtain ⟨x, _, rfl, _⟩ := Bx h.1
  obtain ⟨y, _, rfl, _⟩ := Bx h.2
  exact ⟨x, b, y, rfl⟩
 ·cases h
theorem Right.ok {p : Pr} (h : Right p) : p.c.Ok where
 bk := fun y hy => (h.bk.nm y ((fP _).mem_iff.mp hy)).2.2
 rt := fun k d e => JQ (h.rt.nm _ (BA (ED e))).2.1
section
variable {S : Store} {n : Nat} {c : Ctx} {b d : D} {t : Option D} {E : bD → Store → Prop} {Q : D → Store → Prop}
theorem UX {cl : Str} {fs fs' : List (Str × D)} (h : S[n]? = some (.ins cl fs)) : aU (S.set n (.ins cl fs')) d = aU S d := by
 cases d with
 | ref m =>
  simp only [aU]
  by_cases e : n = m
  ·subst e
   rw [List.getElem?_set_self (List.getElem?_eq_some_iff.mp h).1, h]
  ·rw [List.getElem?_set_ne e]
 | _ => rfl
/-- a loop over a dict bR an expression makes or reads, not of the store -/
theorem UY {md : EX} {ρ : aF} {xs : List (Key × D)} (h : md ρ S = .ok (.dct xs) S) : je md ρ S = none := by
 unfold je
 rw [h]
theorem UZ {cs : List Str} {f : Str} {i : Nat} {ρ : aF} {x : D} (hr : ρ[i]? = some (.sh (.ref n))) (h : lM cs f S (.ref n) = some x) : cC cs f (ak i) ρ S = .ok x S := by
 unfold cC cW ak
 rw [hr]
 simp only [R.bind, h, R.opt]
theorem a4a {p : Pr} (h : d7 S n p.c p.body t) (hp : Right p) : (wR [.ref n] S).al (fun r S' => ∃ T xs, r = .ref S.length ∧ S' = S ++ (.lst xs :: T) ∧ xs.length = total p) E := by
 have hlen := hp.len
 unfold total at hlen
 have hg : ∀ {T : Store}, (S ++ T)[n]? = some (.ins "Program" (dH p.c p.body t)) := qm h
 unfold wR Jt
 simp! [oM, Bv h]
 refine mV (JN (E := fun e S => _) 60 p.body S hp.body.1 hp.body.2 (by omega)) ?_ (fun _ _ h => h)
 rintro r _ ⟨T, xs, rfl, rfl, hl⟩
 have hrt : ∀ {T : Store}, lM iD "routines" (S ++ T) (.ref n) = some (.dct (kq p.c.rt)) := uV hg
 rw [Ds, UY (UZ rfl hrt)]
 simp! [AI, oM, hrt, iz]
 refine jV (fun i ρ S' => ∃ T xs x2, ρ = [.sh (.ref n), .sh (.ref S.length), x2] ∧ S' = S ++ (.lst xs :: T) ∧ xs.length = cnt 60 p.body + (((cG p.rt).take i).map fun q => cnt 60 (bodyOf q.2)).sum) ⟨T, xs, _, rfl, rfl, by simp [hl]⟩ ?_ ?_
 ·rintro i x ρ _ hi ⟨T, xs, x2, rfl, rfl, hx⟩
  unfold uG kq at hi
  rw [List.map_map, List.getElem?_map] at hi
  cases e : p.c.rt[i]? with
  | none => rw [e] at hi; cases hi
  | some q =>
   rw [e] at hi
   cases hi
   have e' : (cG p.rt)[i]? = some q := e
   have hm := BA (List.mem_of_getElem? e')
   obtain ⟨_, h2, h3⟩ := hp.rt.nm q hm
   obtain ⟨ps, b, rs, eq⟩ := JQ h2
   have hb : bodyOf q.2 = b := by rw [eq]; rfl
   have hstep : (((cG p.rt).take (i + 1)).map fun q => cnt 60 (bodyOf q.2)).sum = (((cG p.rt).take i).map fun q => cnt 60 (bodyOf q.2)).sum + cnt 60 b := by
    rw [List.take_add_one, e', List.map_append, List.sum_append]
    simp [hb]
   have hle : (((cG p.rt).take (i + 1)).map fun q => cnt 60 (bodyOf q.2)).sum ≤ ((cG p.rt).map fun q => cnt 60 (bodyOf q.2)).sum := by
    rw [List.map_take]; exact EB _ _
   have hpd : PD b := by
    rw [eq] at h3
    exact zp (i := 1) h3 rfl
   have hok := hp.procs q hm
   rw [hb] at hok
   refine ⟨_, rfl, ?_⟩
   simp only [Function.comp, eq]
   refine UL (n := S.length) rfl uW ?_
   simp! [at1]
   refine mV (JN (E := fun e S => _) 60 b (S ++ .lst xs :: T) hok hpd (by omega)) ?_ (fun _ _ h => h)
   rintro r _ ⟨T2, zs, rfl, rfl, hz⟩
   refine ⟨xs, zs, ?_, ?_, ?_, T ++ .lst zs :: T2, xs ++ zs, _, rfl, ?_, ?_⟩
   ·simp
   ·simp only [bu, uW]
   ·first | (rw [sizeLine_eq]; omega) | omega
   ·simp
   ·rw [List.length_append, hstep, hz, hx]; omega
 ·rintro ρ _ ⟨T, xs, x2, rfl, rfl, hx⟩
  simp!
  refine ⟨T, xs, rfl, ?_⟩
  rw [hx, show (uG (kq p.c.rt)).length = (cG p.rt).length from by unfold uG kq; rw [List.length_map, List.length_map]; rfl, List.take_length]
  rfl
theorem V4 {p : Pr} {path : List D} (h : d7 S n p.c b t) (hp : Right p) (ho : lX p.c 60 d) (hd : PD d) (hl : path.length ≤ 800) (q : Q .non S) : (kI 60 [.ref n, d, .tup path] S).al Q E := by
 rw [UK h hp.ok 60 d path ho hd (by omega)]
 exact q
theorem a4b {p : Pr} {bd pd : D} (h : S[n]? = some (.ins "Program" [])) (hp : Right p) (hb : aU S bd = some (kd p.am)) (hq : (pd = .non ∧ p.rt = []) ∨ aU S pd = some (kq p.rt) ∧ pd ≠ .non)
  (q : ∀ T xs, xs.length = total p → Q .non (S.set n (.ins "Program" (dH p.c p.body (some (.ref S.length)))) ++ (.lst xs :: T))) : (jf [.ref n, bd, p.body, .tup (p.back.map D.str), pd] S).al Q E := by
 have hn : n < S.length := (List.getElem?_eq_some_iff.mp h).1
 obtain ⟨rd, hrd, hif⟩ : ∃ rd, aU S rd = some (kq p.rt) ∧ ∀ Q2 : D → Store → Prop, (∀ E2, Q2 rd S → (mG (bH (aC xQ (ak 4) (mC .non))) Ar (ak 4) [.sh (.ref n), .sh bd, .sh p.body, .sh (.tup (p.back.map D.str)), .sh pd, .un, .un, .un] S).al Q2 E2) := by
  rcases hq with ⟨rfl, e⟩ | ⟨e, ne⟩
  ·refine ⟨.dct [], by rw [e]; rfl, fun Q2 E2 z => ?_⟩
   simp! [HD]
   exact z
  ·refine ⟨pd, e, fun Q2 E2 z => ?_⟩
   have : xQ S pd .non = some (.bl false) := by
    cases pd with
    | dct xs => rfl
    | ref m => rfl
    | non => exact absurd rfl ne
    | _ => cases e
   simp! [this]
   exact z
 have at_ : ∀ x : SO, (S.set n x)[n]? = some x := fun x => List.getElem?_set_self hn
 have vb : ∀ fs : List (Str × D), aU (S.set n (.ins "Program" fs)) bd = some (kq (nu p.am)) := fun fs => by rw [UX h, hb, JP]
 have vr : ∀ fs : List (Str × D), aU (S.set n (.ins "Program" fs)) rd = some (kq p.rt) := fun fs => by rw [UX h, hrd]
 have V5 : aU S bd = some (kq (nu p.am)) := by rw [hb, JP]
 have amk : (nu p.am).map (·.1) = p.am.map (·.1) := by unfold nu; rw [List.map_map]; rfl
 have V6 : (nu p.am).length ≤ 60 := by unfold nu; rw [List.length_map]; exact hp.am.len
 have p1 : lN lV "own_amounts" (.ref n) (.dct (kd (srt p.am))) S = some (S.set n (.ins "Program" [("own_amounts", .dct (kd (srt p.am)))])) := AQ h Uw (by decide)
 have p2 : lN lQ "given_back" (.ref n) (.tup ((dG p.back).map D.str)) (S.set n (.ins "Program" [("own_amounts", .dct (kd (srt p.am)))])) = some (S.set n (.ins "Program" [("own_amounts", .dct (kd (srt p.am))), ("given_back", .tup ((dG p.back).map D.str))])) := by
  rw [AQ (at_ _) Ux (by simp), List.set_set]; congr 2
 have p3 : lN iD "routines" (.ref n) (.dct (kq (cG p.rt))) (S.set n (.ins "Program" [("own_amounts", .dct (kd (srt p.am))), ("given_back", .tup ((dG p.back).map D.str))])) = some (S.set n (.ins "Program" [("own_amounts", .dct (kd (srt p.am))), ("given_back", .tup ((dG p.back).map D.str)), ("routines", .dct (kq (cG p.rt)))])) := by
  rw [AQ (at_ _) Uy (by simp), List.set_set]; congr 2
 have p4 : lN lU "main" (.ref n) p.body (S.set n (.ins "Program" [("own_amounts", .dct (kd (srt p.am))), ("given_back", .tup ((dG p.back).map D.str)), ("routines", .dct (kq (cG p.rt)))])) = some (S.set n (.ins "Program" (dH p.c p.body none))) := by
  rw [AQ (at_ _) Uz (by simp), List.set_set]; congr 2
 have hat : d7 (S.set n (.ins "Program" (dH p.c p.body none))) n p.c p.body none := at_ _
 have hso : ∀ S, uM S [.tup (p.back.map D.str)] = some (.lst ((dG p.back).map D.str)) := fun S => by
  unfold uM
  simp only [Uh]
  rw [if_pos (by have := hp.bk.len; omega)]
 unfold jf Ju
 rw [we, AA, Hj]
 refine hif _ _ ?_
 simp!
 refine mV (a3T (E := fun e S => _) hb hp.am) ?_ (fun _ _ h => h)
 rintro r _ ⟨rfl, rfl⟩
 refine mV (a3U (E := fun e S => _) hb hp.bk) ?_ (fun _ _ h => h)
 rintro r _ ⟨rfl, rfl⟩
 refine mV (a3W (E := fun e S => _) hrd hp.rt) ?_ (fun _ _ h => h)
 rintro r _ ⟨rfl, rfl⟩
 simp! [Ry, RB, cJ, UU V5 V6]
 rw [UW (by simp) (by decide) rfl V5 (by rw [amk]; exact hp.am.nd) V6, a3Y hp.am.nd]
 simp! [p1, hso, p2, Ry, RB, cJ, UU (vr _) hp.rt.len]
 rw [UW (by simp) (by decide) rfl (vr _) hp.rt.nd hp.rt.len]
 simp! [p3, p4]
 have hnS : n < (S.set n (.ins "Program" (dH p.c p.body none))).length := by rw [List.length_set]; exact hn
 obtain ⟨Sx, hSx⟩ : ∃ Sx, Sx = S.set n (.ins "Program" (dH p.c p.body none)) := ⟨_, rfl⟩
 have hlx : Sx.length = S.length := by rw [hSx, List.length_set]
 rw [← hSx] at hat hnS ⊢
 simp! [qD, dW hat, Prod.mk.injEq, JK]
 refine V4 hat hp hp.body.1 hp.body.2 (by simp) ?_
 rw [Ds, UY (UZ rfl (uV hat))]
 simp! [AI, oM, uV hat, iz]
 refine jV (fun _ ρ S' => Sx = S' ∧ ∃ x6 x7, ρ = [.sh (.ref n), .sh bd, .sh p.body, .sh (.tup (p.back.map D.str)), .sh pd, .sh rd, x6, x7]) ⟨rfl, _, _, rfl⟩ ?_ ?_
 ·rintro i x ρ _ hi ⟨rfl, x6, x7, rfl⟩
  unfold jG kq at hi
  rw [List.map_map, List.getElem?_map] at hi
  cases e : p.c.rt[i]? with
  | none => rw [e] at hi; cases hi
  | some q =>
   rw [e] at hi
   cases hi
   have e' : (cG p.rt)[i]? = some q := e
   have hm := BA (List.mem_of_getElem? e')
   obtain ⟨_, h2, h3⟩ := hp.rt.nm q hm
   obtain ⟨ps, b, rs, eq⟩ := JQ h2
   have hb : bodyOf q.2 = b := by rw [eq]; rfl
   have hpd : PD b := by
    rw [eq] at h3
    exact zp (i := 1) h3 rfl
   have hok := hp.procs q hm
   rw [hb] at hok
   refine ⟨([.sh (.ref n), .sh bd, .sh p.body, .sh (.tup (p.back.map D.str)), .sh pd, .sh rd, .sh (.str q.1), .sh q.2], Sx), rfl, ?_⟩
   rw [eq]
   simp! [qD, dW hat, Prod.mk.injEq, JK, at1]
   refine V4 hat hp hok hpd (by simp) ?_
   first | exact ⟨rfl, _, _, rfl⟩ | exact ⟨_, _, rfl⟩
 ·rintro ρ _ ⟨rfl, x6, x7, rfl⟩
  simp! [qD, dW hat, Prod.mk.injEq, a3k]
  refine mV (a4a (E := fun e S => _) hat hp) ?_ (fun _ _ h => h)
  rintro r _ ⟨T, xs, rfl, rfl, hx⟩
  have hpt : lN wJ "statement_list" (.ref n) (.ref Sx.length) (Sx ++ (.lst xs :: T)) = some (S.set n (.ins "Program" (dH p.c p.body (some (.ref S.length)))) ++ (.lst xs :: T)) := by
   rw [AQ (qm hat) UA (by simp [dH])]
   congr 1
   rw [List.set_append_left _ _ hnS, hSx, List.set_set, List.length_set]
   congr 2
  simp! [hpt]
  exact q T xs hx
end
end Pg
namespace Pg
open aH hiding top
open PySem PySem.Spec PyProof.Rows L2 Mi Rc Rd
/-- plain data of little size -/
structure Sm (d : D) : Prop where
 ok : aR d
 nk : bO d
 bk : bT d ≤ 100000
 dp : bJ d ≤ 38
structure Fine (c : Ctx) (b : D) : Prop where
 nm : ∀ k ∈ c.am.map (·.1), cD k
 sz : ∀ p ∈ c.am, p.2.natAbs ≤ 10 ^ 30
 al : c.am.length ≤ 60
 bk : Sm (.tup (c.back.map D.str))
 b : Sm b
 rt : ∀ q ∈ c.rt, cD q.1 ∧ Sm q.2
 rk : jd (kq c.rt) ∧ jW (kq c.rt) ≤ 100000 ∧ qb (kq c.rt) ≤ 38
def pq (x y : D) : Bool := match toPy false x, toPy false y with
 | some p, some q => PyData.eqv p q
 | _, _ => false
theorem JR {x : D} (h : bO x) : pq x x = true := by
 obtain ⟨p, e, l, _⟩ := AF x h
 unfold pq
 rw [e]
 exact SeqAt.eqv_refl p l
def zu (r r' : List (Str × D)) : Bool := decide (r.length = r'.length) && r.all fun q => match bQ r' q.1 with
 | none => false
 | some u => pq q.2 u
def BD (c : Ctx) (b : D) (c' : Ctx) (b' : D) : Bool := same c.am c'.am && (pq b b' && (pq (.tup (c.back.map D.str)) (.tup (c'.back.map D.str)) && zu c.rt c'.rt))
section
variable {S : Store} {n m : Nat} {c c' : Ctx} {b b' x y : D} {t t' : Option D} {E : bD → Store → Prop} {Q : D → Store → Prop}
theorem a4d (hx : Sm x) (hy : Sm y) (hs : ∀ a b, ¬ (x = .str a ∧ y = .str b)) : jk S x y = some (.bl (!pq x y)) := by
 obtain ⟨p, e1, e2, _⟩ := yj (S := S) hx.nk (by have := hx.dp; omega)
 obtain ⟨q, f1, f2, _⟩ := yj (S := S) hy.nk (by have := hy.dp; omega)
 unfold jk
 rw [Pn e1 f1 hs]
 simp only [pq, e2, f2]
theorem a4e (hx : Sm x) (hy : Sm y) (hs : ∀ a b, ¬ (x = .str a ∧ y = .str b)) : cX S x y = some (.bl (pq x y)) := by
 obtain ⟨p, e1, e2, _⟩ := yj (S := S) hx.nk (by have := hx.dp; omega)
 obtain ⟨q, f1, f2, _⟩ := yj (S := S) hy.nk (by have := hy.dp; omega)
 have h := Pn e1 f1 hs
 rw [ZQ h]
 simp only [pq, e2, f2]
theorem a4f {k : Nat} (hx : Sm x) (hy : Sm y) : Mi.eqT (k + 1) x y = some (pq x y) := by
 obtain ⟨p, e, l, d1⟩ := AF x hx.nk
 obtain ⟨q, f, l2, d2⟩ := AF y hy.nk
 have hp : uK x = some p := by
  unfold uK; rw [e]; simp only; rw [if_pos ⟨l, by have := hx.dp; omega⟩]
 have hq : uK y = some q := by
  unfold uK; rw [f]; simp only; rw [if_pos ⟨l2, by have := hy.dp; omega⟩]
 unfold Mi.eqT
 rw [hp, hq]
 simp only [pq, e, f]
theorem a4g {rs : List (Str × D)} : (kq rs).length = rs.length := by unfold kq; rw [List.length_map]
theorem V7 {k : Nat} {r' : List (Str × D)} (h' : ∀ q ∈ r', Sm q.2) : ∀ r : List (Str × D), (∀ q ∈ r, Sm q.2) → qF (Mi.eqT (k + 1)) (kq r') (kq r) = some (r.all fun q => match bQ r' q.1 with | none => false | some u => pq q.2 u)
 | [], _ => rfl
 | p :: r, h => by
  have ih := V7 (k := k) h' r (fun q hq => h q (List.mem_cons_of_mem _ hq))
  have e : kq (p :: r) = (.inr p.1, p.2) :: kq r := rfl
  rw [e]
  unfold qF
  rw [Bt]
  cases el : bQ r' p.1 with
  | none => simp [el]
  | some v =>
   have hv : Sm v := h' _ (ED el)
   simp only [ih, a4f (h p List.mem_cons_self) hv, List.all_cons, el]
theorem JS {ks : Am} : jD (.dct (kd ks)) = true := by
 have : ∀ ks : Am, tZ (kd ks) = true := by
  intro ks
  induction ks with
  | nil => rfl
  | cons p ks ih => exact ih
 simp only [jD, this]
theorem JT {rs : List (Str × D)} (h : ∀ q ∈ rs, Sm q.2) : jD (.dct (kq rs)) = true := by
 have : ∀ rs : List (Str × D), (∀ q ∈ rs, Sm q.2) → tZ (kq rs) = true := by
  intro rs
  induction rs with
  | nil => intro _; rfl
  | cons p rs ih =>
   intro h
   have h1 := Hu _ (h p List.mem_cons_self).nk
   have h2 := ih fun q hq => h q (List.mem_cons_of_mem _ hq)
   show tZ ((.inr p.1, p.2) :: kq rs) = true
   simp only [tZ, Gv, h1, h2, Bool.and_self]
 simp only [jD, this rs h]
theorem a4h {ks ls : Am} : yS S (.dct (kd ks)) (.dct (kd ls)) = some (.bl (!same ks ls)) := by
 have e1 : jk S (.dct (kd ks)) (.dct (kd ls)) = none := by
  unfold jk lC j9
  simp only [qd (JS (ks := ks)), toPy]
 unfold yS
 rw [e1, qd JS, qd JS, a2U]
 rfl
theorem a4i {r r' : List (Str × D)} (h : ∀ q ∈ r, Sm q.2) (h' : ∀ q ∈ r', Sm q.2) : yM S (.dct (kq r)) (.dct (kq r')) = some (.bl (zu r r')) := by
 have e1 : cX S (.dct (kq r)) (.dct (kq r')) = none := by
  have : lC S (.dct (kq r)) (.dct (kq r')) = none := by
   unfold lC j9
   simp only [qd (JT h), toPy]
  show (match lC S (.dct (kq r)) (.dct (kq r')) with | some b => some (D.bl b) | none => none) = none
  rw [this]
 unfold yM
 rw [e1, qd (JT h), qd (JT h')]
 have : jH (Mi.eqT 6) (.dct (kq r)) (.dct (kq r')) = some (zu r r') := by
  unfold jH zu
  simp only [a4g]
  by_cases hl : r.length = r'.length
  ·rw [if_pos hl, V7 h' r h]; simp [hl]
  ·rw [if_neg hl]; simp [hl]
 rw [this]
 rfl
/-- __eq__, with a a2h own tables of classes -/
def V8 (cs : List Str) (T : List ((Str × Str) × Bool)) (U : List ((Str × String) × Bool)) : SX := aN (cI (fR (eY (eX (aQ (yH cs T U) (ao (ak 1) (ao (mC (.fn "Program")) (aq)))))) (fR (bH (aC yS (cC lV "own_amounts" (ak 0)) (cC lV "own_amounts" (ak 1)))) (bH (aC jk (cC lU "main" (ak 0)) (cC lU "main" (ak 1)))))) (aW (mC (.bl false))) (dN)) <|
 aW (fu (aC cX (cC lQ "given_back" (ak 0)) (cC lQ "given_back" (ak 1))) (aC yM (cC iD "routines" (ak 0)) (cC iD "routines" (ak 1))))
def JU (cs : List Str) (T : List ((Str × Str) × Bool)) (U : List ((Str × String) × Bool)) : FX := aY 2 (V8 cs T U)
theorem V9 {cs : List Str} {T : List ((Str × Str) × Bool)} {U : List ((Str × String) × Bool)} (h : d7 S n c b t) (h' : d7 S m c' b' t') (f : Fine c b) (f' : Fine c' b') (hb : ∃ xs, b = .tup xs) (hc : cs.contains ("Program" : Str) = true) (hT : T.lookup (("Program" : Str), ("Program" : Str)) = some true)
  (q : Q (.bl (BD c b c' b')) S) : (JU cs T U [.ref n, .ref m] S).al Q E := by
 have hi : yH cs T U S [.ref m, .fn "Program"] = some (.bl true) := by
  unfold yH
  have : oJ cs S (.ref m) = some (.own "Program") := by
   unfold oJ
   rw [dW h']
   simp only [hc, if_true]
  simp only [this, isOne, Qy, hT]
  rfl
 obtain ⟨xs, rfl⟩ := hb
 have e2 := a4d (S := S) f.b f'.b (fun a b z => nomatch z.1)
 have e3 := a4e (S := S) f.bk f'.bk (fun a b z => nomatch z.1)
 have e4 := a4i (S := S) (fun q hq => (f.rt q hq).2) (fun q hq => (f'.rt q hq).2)
 unfold JU V8
 simp! [hi, oM, Bu h, Bu h', a4h, Bv h, Bv h', e2, f_back h, f_back h', e3, uV h, uV h', e4]
 unfold BD at q
 cases h1 : same c.am c'.am with
 | false => simpa [h1] using q
 | true =>
  cases h2 : pq (.tup xs) b' with
  | false => simpa [h1, h2] using q
  | true =>
   cases h3 : pq (.tup (c.back.map D.str)) (.tup (c'.back.map D.str)) with
   | false => simpa [h1, h2, h3] using q
   | true => simpa [h1, h2, h3] using q
theorem a4j {ks : Am} (h : (ks.map (·.1)).Nodup) : same ks ks = true := same_refl h
theorem a4k {r : List (Str × D)} (h : ∀ q ∈ r, Sm q.2) (hn : ∀ q ∈ r, bQ r q.1 = some q.2) : zu r r = true := by
 unfold zu
 simp only [decide_true, Bool.true_and]
 rw [List.all_eq_true]
 intro q hq
 rw [hn q hq]
 exact JR (h q hq).nk
structure Rp (c : Ctx) (b : D) (ra rb rg rr : Str) : Prop where
 a : ∀ S, mQ S [.dct (kd c.am)] = some (.str ra)
 b : ∀ S, mQ S [b] = some (.str rb)
 g : ∀ S, mQ S [.tup (c.back.map D.str)] = some (.str rg)
 r : ∀ S, mQ S [.dct (kq c.rt)] = some (.str rr)
 ca : Cv ra
 cb : Cv rb
 cg : Cv rg
 cr : Cv rr
 la : ra.length ≤ 100000
 lb : rb.length ≤ 6700000
 lg : rg.length ≤ 6700000
 lr : rr.length ≤ 6700000
def tx (ra rb rg rr : Str) : Str := ((((((Str.empty ++ ("Program(" : Str)) ++ ra) ++ ", ") ++ rb) ++ ", ") ++ ((((Str.empty ++ ("returnable=" : Str)) ++ rg) ++ ", procedures=") ++ rr)) ++ ")"
theorem lits : ("Program(" : Str).length = 8 ∧ (", " : Str).length = 2 ∧ (")" : Str).length = 1 ∧ ("returnable=" : Str).length = 11 ∧ (", procedures=" : Str).length = 13 ∧ Str.empty.length = 0 := by decide +kernel
theorem sl {a b : Str} : (a ++ b).length = a.length + b.length := strLen_append _ _
theorem Va {ra rb rg rr : Str} (h : d7 S n c b t) (r : Rp c b ra rb rg rr) (hl : ra.length + rb.length + rg.length + rr.length ≤ 16000000) (q : Q (.str (tx ra rb rg rr)) S) : (nj [.ref n] S).al Q E := by
 obtain ⟨h1, h2, h3, h4, h5, h6⟩ := lits
 unfold nj Jv uz
 have hz : sizeLine = 16777216 := rfl
 have hf : yr S (.str (((Str.empty ++ ("returnable=" : Str)) ++ rg) ++ ", procedures=" ++ rr)) = some (.str (((Str.empty ++ ("returnable=" : Str)) ++ rg) ++ ", procedures=" ++ rr)) := by
  unfold yr
  simp only [sl, h1, h2, h3, h4, h5, h6]
  rw [if_pos (by omega)]
 simp! [a1n, a1m, oM, Bu h, hf, Bv h, f_back h, uV h, a1l, r.a, r.b, r.g, r.r, sl, h1, h2, h3, h4, h5, h6, D.str.injEq]
 unfold tx at q
 repeat (first | exact q | refine ⟨by omega, ?_⟩)
theorem a4l {xs : List D} {k : Nat} (h : d7 S n c b (some (.ref k))) (hk : S[k]? = some (.lst xs)) (q : Q (.int xs.length) S) : (qI [.ref n] S).al Q E := by
 have hf : lM wJ "statement_list" S (.ref n) = some (.ref k) := AO h UA a3g
 have hl : fH S [.ref k] = some (.int xs.length) := by
  unfold fH
  simp only [bu, hk]
 unfold qI Jw
 simp! [oM, hf, hl]
 exact q
theorem Vb {z : Str} (h : d7 S n c b t) (hz : PD (.str z)) (hh : (look c.am z).isSome = true) (q : Q .non S) : (jK [.ref n, .str z] S).al Q E := by
 unfold jK DN
 simp! [qD, dW h, Prod.mk.injEq, Em, has_eq h hz, hasB, hh]
 exact q
end
end Pg
namespace Pg
open aH hiding top
open PySem PySem.Spec PyProof.Rows L2 Mi Rc Rd
section
variable {S : Store} {c : Ctx} {d x : D} {E : bD → Store → Prop} {Q : D → Store → Prop}
theorem Vc {T : Store} {kvs : List (Key × D)} (h : aU S d = some kvs) : aU (S ++ T) d = some kvs := by
 cases d with
 | ref k =>
  simp only [aU] at h ⊢
  cases e : S[k]? with
  | none => rw [e] at h; cases h
  | some so => rw [e] at h; rw [qm e]; exact h
 | _ => exact h
theorem JV {p : Pr} {bd pd : D} (hp : Right p) (hb : aU S bd = some (kd p.am)) (hq : (pd = .non ∧ p.rt = []) ∨ aU S pd = some (kq p.rt) ∧ pd ≠ .non)
  (q : ∀ T xs, xs.length = total p → Q .non (S ++ (.ins "Program" (dH p.c p.body (some (.ref (S.length + 1)))) :: .lst xs :: T))) : (jf [.ref S.length, bd, p.body, .tup (p.back.map D.str), pd] (S ++ [.ins "Program" []])).al Q E := by
 refine a4b (by simp) hp (Vc hb) (hq.imp id fun h => ⟨Vc h.1, h.2⟩) fun T xs hx => ?_
 have := q T xs hx
 rw [List.length_append, List.length_singleton, show (S ++ [SO.ins "Program" []]).set S.length (.ins "Program" (dH p.c p.body (some (.ref (S.length + 1))))) = S ++ [.ins "Program" (dH p.c p.body (some (.ref (S.length + 1))))] by simp, List.append_assoc]
 exact this
theorem Vd : gD c "operand" d = wU d := by
 unfold gD wV
 rw [if_neg (by decide +kernel), if_neg (by decide +kernel), if_neg (by decide +kernel), if_neg (by decide +kernel), if_neg (by decide +kernel), if_pos (by decide +kernel)]
theorem Ve : gD c "budget" d = hasB c d := by
 unfold gD
 rw [if_pos (by decide +kernel)]
theorem Vf : shape "out" = some (["operand"] : List Str) := by kernel_rfl
theorem Vg : shape "use" = some (["budget", "operand"] : List Str) := by kernel_rfl
theorem Vh : (("out" : Str) == "out") = true ∧ (("out" : Str) == "use") = false ∧ (("out" : Str) == "call") = false ∧ (("out" : Str) == "both") = false := by decide +kernel
theorem Vi : (("use" : Str) == "out") = false ∧ (("use" : Str) == "use") = true ∧ (("use" : Str) == "call") = false ∧ (("use" : Str) == "both") = false := by decide +kernel
theorem Vj : (("call" : Str) == "out") = false ∧ (("call" : Str) == "use") = false ∧ (("call" : Str) == "call") = true ∧ (("call" : Str) == "both") = false := by decide +kernel
theorem Vk : (("both" : Str) == "out") = false ∧ (("both" : Str) == "use") = false ∧ (("both" : Str) == "call") = false ∧ (("both" : Str) == "both") = true := by decide +kernel
theorem a4m : j5 c (.tup [.str "out", d]) = wU d := by
 unfold j5
 simp only [Vf, List.zip_cons_cons, List.zip_nil_right, List.all_cons, List.all_nil, Vd, Vh, Vi, Vj, Vk, List.length_cons, List.length_nil, decide_true, Bool.true_and, Bool.and_true, Bool.false_eq_true, if_false, Bool.not_false, Bool.true_or]
theorem a4n : j5 c (.tup [.str "use", x, d]) = (hasB c x && wU d) := by
 unfold j5
 simp only [Vg, List.zip_cons_cons, List.zip_nil_right, List.all_cons, List.all_nil, Vd, Ve, Vh, Vi, Vj, Vk, List.length_cons, List.length_nil, decide_true, Bool.true_and, Bool.and_true, Bool.false_eq_true, if_false, Bool.not_false, Bool.true_or]
theorem Vl : pl (["operand"] : List Str) = [] ∧ pl (["budget", "operand"] : List Str) = [] ∧ pl (["procedure", "operands", "names"] : List Str) = [] := by decide +kernel
/-- a statement without bodies -/
def flat (s : D) : Prop := pl (kindsOf s) = []
theorem a4o : flat (.tup [.str "out", d]) := by unfold flat; rw [zm Vf]; exact Vl.1
theorem a4p : flat (.tup [.str "use", x, d]) := by unfold flat; rw [zm Vg]; exact Vl.2.1
theorem sort_1 {z : Str} : dG [z] = [z] := List.perm_singleton.mp (fP [z])
theorem a4q {z : Str} {d : D} : cG [(z, d)] = [(z, d)] := by
 unfold cG
 simp only [List.map_cons, List.map_nil, sort_1, bQ, List.find?_cons, decide_true, Option.map_some, Option.getD_some]
theorem Vm {xs : List D} (h : ∀ x ∈ xs, PD x) (hl : xs.length ≤ 1000) : PD (.tup xs) := .tup hl h
theorem JW {z : Str} (h : cD z) : PD (.str z) := .str (by have := h.2.1; omega) h.chars
end
end Pg
namespace Dp
open aH hiding top
open PySem PySem.Spec PyProof.Rows L2 Mi
abbrev jt : List Str := ["InvalidProgram"]
def xT : List ((Str × Str) × Bool) := [(("InvalidProgram", "ExactStopError"), true), (("InvalidProgram", "InvalidLine"), false)]
def wL : List (Str × Bool) := [("InvalidProgram", true)]
end Dp
namespace Dp
open aH hiding top
open PySem PySem.Spec PyProof.Rows L2 Mi Rc Rd Pg
/-- the world: the b2n names, the places of the EC, the Vn, the number left; the names bR are given back -/
structure Wd where
 names : List Str
 kb : Nat
 kp : Nat
 kl : Nat
 zA : List Str
 z : Int
 base : Store
def Wd.d (w : Wd) : D := .dct [(.inr "names", .lst (w.names.map D.str)), (.inr "budgets", .ref w.kb), (.inr "backs", .lst (w.zA.map D.str)), (.inr "procs", .ref w.kp), (.inr "left", .ref w.kl)]
/-- the world stands in the store -/
structure At (w : Wd) (am : Am) (rt : List (Str × D)) (n : Nat) (S : Store) : Prop where
 rng : iw S n
 kb : S[w.kb]? = some (.dct (kd am))
 kp : S[w.kp]? = some (.dct (kq rt))
 kl : S[w.kl]? = some (.lst [.int w.z])
 ne : n ≠ w.kb ∧ n ≠ w.kp ∧ n ≠ w.kl ∧ w.kl ≠ w.kb ∧ w.kl ≠ w.kp
 ge : w.base.length ≤ w.kb ∧ w.base.length ≤ w.kp ∧ w.base.length ≤ w.kl
 fr : w.base.length ≤ S.length ∧ ∀ j < w.base.length, j ≠ n → S[j]? = w.base[j]?
theorem At.app {w : Wd} {am : Am} {rt : List (Str × D)} {n : Nat} {S : Store} (h : At w am rt n S) (T : Store) : At w am rt n (S ++ T) :=
 ⟨h.rng.app, qm h.kb, qm h.kp, qm h.kl, h.ne, h.ge, by rw [List.length_append]; have := h.fr.1; omega, fun j hj hn => by rw [List.getElem?_append_left (Nat.lt_of_lt_of_le hj h.fr.1)]; exact h.fr.2 j hj hn⟩
end Dp
namespace Dp
open aH hiding top
open PySem PySem.Spec PyProof.Rows L2 Mi Rc Rd Pg
section
variable {c : Pg.Ctx} {x y d e : D} {k : Nat}
theorem a4r : gD c "name" d = jL d := by
 unfold gD wV
 rw [if_neg (by decide +kernel), if_neg (by decide +kernel), if_neg (by decide +kernel), if_pos (by decide +kernel)]
theorem Vo : shape "rest" = some (["name", "budget"] : List Str) := by kernel_rfl
theorem a4s : (("set" : Str) == "set") = true ∧ (("set" : Str) == "rest") = false ∧ (("set" : Str) == "back") = false ∧ (("set" : Str) == "if") = false ∧ (("set" : Str) == "repeat") = false ∧ (("set" : Str) == "limit") = false ∧ (("set" : Str) == "both") = false ∧ (("set" : Str) == "call") = false := by decide +kernel
theorem a4t : (("rest" : Str) == "set") = false ∧ (("rest" : Str) == "rest") = true ∧ (("rest" : Str) == "back") = false ∧ (("rest" : Str) == "if") = false ∧ (("rest" : Str) == "repeat") = false ∧ (("rest" : Str) == "limit") = false ∧ (("rest" : Str) == "both") = false ∧ (("rest" : Str) == "call") = false := by decide +kernel
theorem a4u : (("back" : Str) == "set") = false ∧ (("back" : Str) == "rest") = false ∧ (("back" : Str) == "back") = true ∧ (("back" : Str) == "if") = false ∧ (("back" : Str) == "repeat") = false ∧ (("back" : Str) == "limit") = false ∧ (("back" : Str) == "both") = false ∧ (("back" : Str) == "call") = false := by decide +kernel
theorem a4v : (("if" : Str) == "set") = false ∧ (("if" : Str) == "rest") = false ∧ (("if" : Str) == "back") = false ∧ (("if" : Str) == "if") = true ∧ (("if" : Str) == "repeat") = false ∧ (("if" : Str) == "limit") = false ∧ (("if" : Str) == "both") = false ∧ (("if" : Str) == "call") = false := by decide +kernel
theorem a4w : (("repeat" : Str) == "set") = false ∧ (("repeat" : Str) == "rest") = false ∧ (("repeat" : Str) == "back") = false ∧ (("repeat" : Str) == "if") = false ∧ (("repeat" : Str) == "repeat") = true ∧ (("repeat" : Str) == "limit") = false ∧ (("repeat" : Str) == "both") = false ∧ (("repeat" : Str) == "call") = false := by decide +kernel
theorem a4x : (("limit" : Str) == "set") = false ∧ (("limit" : Str) == "rest") = false ∧ (("limit" : Str) == "back") = false ∧ (("limit" : Str) == "if") = false ∧ (("limit" : Str) == "repeat") = false ∧ (("limit" : Str) == "limit") = true ∧ (("limit" : Str) == "both") = false ∧ (("limit" : Str) == "call") = false := by decide +kernel
theorem a4y : (("both" : Str) == "set") = false ∧ (("both" : Str) == "rest") = false ∧ (("both" : Str) == "back") = false ∧ (("both" : Str) == "if") = false ∧ (("both" : Str) == "repeat") = false ∧ (("both" : Str) == "limit") = false ∧ (("both" : Str) == "both") = true ∧ (("both" : Str) == "call") = false := by decide +kernel
theorem a4z : (("call" : Str) == "set") = false ∧ (("call" : Str) == "rest") = false ∧ (("call" : Str) == "back") = false ∧ (("call" : Str) == "if") = false ∧ (("call" : Str) == "repeat") = false ∧ (("call" : Str) == "limit") = false ∧ (("call" : Str) == "both") = false ∧ (("call" : Str) == "call") = true := by decide +kernel
theorem a4A : j5 c (.tup [.str "rest", x, d]) = (jL x && hasB c d) := by
 unfold j5
 simp only [Vo, List.zip_cons_cons, List.zip_nil_right, List.all_cons, List.all_nil, a4r, Ve, a4s, a4t, a4u, a4v, a4w, a4x, a4y, a4z, List.length_cons, List.length_nil, decide_true, Bool.true_and, Bool.and_true, Bool.false_eq_true, if_false, Bool.not_false, Bool.true_or]
theorem pls : pl (["name", "operand", "operator", "operand"] : List Str) = [] ∧ pl (["name", "budget"] : List Str) = [] ∧ pl (["returnable", "operand"] : List Str) = [] ∧ pl (["operand", "body", "body"] : List Str) = [1, 2] ∧ pl (["operand", "body"] : List Str) = [1] ∧ pl (["budget", "operand", "kind", "body", "body"] : List Str) = [3, 4] ∧ pl (["body", "names", "body", "names"] : List Str) = [0, 2] := by decide +kernel
theorem a4C : Pg.flat (.tup [.str "rest", x, d]) := by unfold Pg.flat; rw [zm Vo]; exact pls.2.1
/-- elements of statements -/
structure P1 (d : D) : Prop where
 pd : PD d
 ok : aR d
 nk : bO d
 dp : bJ d ≤ 1
structure P2 (d : D) : Prop where
 pd : PD d
 ok : aR d
 nk : bO d
 bk : bT d ≤ 90
 dp : bJ d ≤ 2
theorem JX : ∀ {xs : List D}, (∀ x ∈ xs, aR x) → fO xs
 | [], _ => trivial
 | x :: xs, h => ⟨h x List.mem_cons_self, JX fun y hy => h y (List.mem_cons_of_mem _ hy)⟩
theorem JY {xs : List D} (h : ∀ x ∈ xs, P1 x) (hl : xs.length ≤ 1000) (hb : eO xs ≤ 90) : P2 (.tup xs) where
 pd := Vm (fun x hx => (h x hx).pd) hl
 ok := by simp only [aR]; exact JX fun x hx => (h x hx).ok
 nk := by simp only [bO]; exact rP.mpr fun x hx => (h x hx).nk
 bk := by simp only [bT]; exact hb
 dp := by
  have := yh (n := 1) fun x hx => (h x hx).dp
  simp only [bJ]; omega
theorem JZ {z : Str} (h : cD z) : P1 (.str z) := ⟨JW h, by simp only [aR]; exact h.chars, by simp only [bO]; exact h.chars, by simp only [bJ]; omega⟩
def zB (xs : List D) : List Str := xs.filterMap fun
 | .str x => some x
 | _ => none
def K6 : Option D → List D
 | some (.tup xs) => xs
 | _ => []
def uX : D → List Str
 | .tup (.str w :: ds) => if w = "set" then zB (ds.take 1) else if w = "rest" then zB (ds.take 1) else if w = "call" then zB (K6 ds[2]?) else if w = "both" then zB (K6 ds[1]?) ++ zB (K6 ds[3]?) else []
 | _ => []
def lY : Nat → D → List Str
 | 0, _ => []
 | m + 1, .tup ss => ss.flatMap fun s => uX s ++ (pl (kindsOf s)).flatMap fun i => lY m ((nth s (i + 1)).getD .non)
 | _ + 1, _ => []
section
variable {a b : D} {z : Str} {ns : List D}
theorem a4D : uX (.tup [.str "out", a]) = [] := by kernel_rfl
theorem a4E : uX (.tup [.str "use", a, b]) = [] := by kernel_rfl
theorem a4F : uX (.tup [.str "rest", .str z, a]) = [z] := by kernel_rfl
theorem Ih : uX (.tup [.str "call", a, b, .tup ns]) = zB ns := by kernel_rfl
end
/-- a statement bR is right, its bodies at most k deep; N: how many statements there are in all -/
structure sU (c : Pg.Ctx) (k N : Nat) (s : D) : Prop where
 st : j5 c s = true
 pd : PD s
 bd : ∀ i ∈ pl (kindsOf s), ∃ e, nth s (i + 1) = some e ∧ lX c k e
 cn : ∀ m, k ≤ m → 1 + ((pl (kindsOf s)).map fun i => Pg.cnt m ((nth s (i + 1)).getD .non)).sum = N
 ok : aR s
 nk : bO s
 bk : bT s + 1 ≤ 100 * N
 dp : bJ s ≤ 2 * k + 2
 ac : ∀ m, k ≤ m → (uX s ++ (pl (kindsOf s)).flatMap fun i => lY m ((nth s (i + 1)).getD .non)).length ≤ 3 * N
theorem sU.K7 (h1 : j5 c d = true) (h2 : P2 d) (h3 : Pg.flat d) (h4 : (uX d).length ≤ 3) : sU c k 1 d where
 ac := fun m _ => by rw [show pl (kindsOf d) = [] from h3, List.flatMap_nil, List.append_nil]; exact h4
 st := h1
 pd := h2.pd
 bd := fun i hi => by rw [show pl (kindsOf d) = [] from h3] at hi; cases hi
 cn := fun m _ => by rw [show pl (kindsOf d) = [] from h3]; rfl
 ok := h2.ok
 nk := h2.nk
 bk := by have := h2.bk; omega
 dp := by have := h2.dp; omega
end
/-- what the world holds -/
structure K8 (w : Wd) (am : Am) : Prop where
 nd : w.names.Nodup
 nl : w.names.length = 5
 nm : ∀ z ∈ w.names, cD z
 amr : By am
 al : am.length ≤ 5
 bs : ∀ b ∈ w.zA, b ∈ am.map (·.1) ∧ b ≠ "steps" ∧ cD b
 bl : w.zA.length ≤ 5
/-- the context has the b2o EC -/
structure Hc (c : Pg.Ctx) (w : Wd) (am : Am) : Prop where
 ha : ∀ b ∈ am.map (·.1), (look c.am b).isSome = true
 bk : ∀ b ∈ w.zA, c.back.any (· == b) = true
section
variable {w : Wd} {c : Pg.Ctx}
theorem EE (w : Str) (h : w ∈ (["set", "out", "use", "back", "rest", "if", "repeat", "call", "both", "limit", "keep", "restore", "+", "-", "*", "min", "max", "less"] : List Str)) : w.length ≤ 7 ∧ ∀ c ∈ w.cps.toList, c < 0x110000 := by
 have : ∀ w ∈ (["set", "out", "use", "back", "rest", "if", "repeat", "call", "both", "limit", "keep", "restore", "+", "-", "*", "min", "max", "less"] : List Str), w.length ≤ 7 ∧ ∀ c ∈ w.cps.toList, c < 0x110000 := by decide +kernel
 exact this w h
theorem K9 (w : Str) (h : w ∈ (["set", "out", "use", "back", "rest", "if", "repeat", "call", "both", "limit", "keep", "restore", "+", "-", "*", "min", "max", "less"] : List Str)) : P1 (.str w) := by
 obtain ⟨h1, h2⟩ := EE w h
 exact ⟨.str (by omega) h2, by simp only [aR]; exact h2, by simp only [bO]; exact h2, by simp only [bJ]; omega⟩
end
end Dp
namespace Dp
open aH hiding top
open PySem PySem.Spec PyProof.Rows L2 Mi Rc Rd Pg
section
theorem BE {xs : List D} (h : ∀ x ∈ xs, PD x) (hl : xs.length ≤ 1000) : PD (.tup xs) := Vm h hl
end
end Dp
namespace Dp
open aH hiding top
open PySem PySem.Spec PyProof.Rows L2 Mi Rc Rd Pg
/-- the Vn drawn so far -/
structure Vp (rt : List (Str × D)) : Prop where
 nd : (rt.map (·.1)).Nodup
 len : rt.length ≤ 5
 it : ∀ p ∈ rt, cD p.1 ∧ ∃ (ps rs : List Str) (b : D), p.2 = .tup [.tup (ps.map D.str), b, .tup (rs.map D.str)] ∧ ps.length ≤ 3 ∧ rs.length ≤ 3 ∧ ps.Nodup ∧ rs.Nodup ∧ (∀ z ∈ ps, cD z) ∧ (∀ z ∈ rs, cD z)
section
theorem zE : ∀ {rs : List (Str × D)} {p : Str × D}, (rs.map (·.1)).Nodup → p ∈ rs → bQ rs p.1 = some p.2
 | q :: rs, p, hn, hm => by
  rw [List.map_cons, List.nodup_cons] at hn
  unfold bQ
  rw [List.find?_cons]
  rcases List.mem_cons.mp hm with rfl | hm
  ·simp
  ·have hne : q.1 ≠ p.1 := fun e => hn.1 (e ▸ List.mem_map.mpr ⟨p, hm, rfl⟩)
   simp only [hne, decide_false]
   exact zE hn.2 hm
theorem Vq {zs : List Str} (hn : zs.Nodup) (h : ∀ z ∈ zs, cD z) : jM (.tup (zs.map D.str)) = true := by
 unfold jM
 simp only [SG]
 rw [Bool.and_eq_true]
 refine ⟨?_, decide_eq_true hn⟩
 rw [List.all_eq_true]
 intro d hd
 obtain ⟨z, hz, rfl⟩ := List.mem_map.mp hd
 exact oX.mpr (h z hz)
theorem Vr {zs : List Str} (hl : zs.length ≤ 1000) (h : ∀ z ∈ zs, cD z) : PD (.tup (zs.map D.str)) := by
 refine BE (fun x hx => ?_) (by rw [List.length_map]; exact hl)
 obtain ⟨z, hz, rfl⟩ := List.mem_map.mp hx
 exact JW (h z hz)
end
end Dp
namespace Dp
open aH hiding top
open PySem PySem.Spec PyProof.Rows L2 Mi Rc Rd Pg
section
variable {w : Wd} {am : Am} {rt : List (Str × D)} {n k : Nat} {S : Store} {Q : D → Store → Prop} {E : bD → Store → Prop} {c : Pg.Ctx}
/-- a body bR is right: N statements in all -/
structure ju (c : Pg.Ctx) (k N : Nat) (ss : List D) : Prop where
 ok : lX c (k + 1) (.tup ss)
 pd : PD (.tup ss)
 cn : ∀ m, k ≤ m → Pg.cnt (m + 1) (.tup ss) = N
 okd : aR (.tup ss)
 nk : bO (.tup ss)
 bk : bT (.tup ss) ≤ 100 * N
 dp : bJ (.tup ss) ≤ 2 * k + 3
 ac : ∀ m, k ≤ m → (lY (m + 1) (.tup ss)).length ≤ 3 * N
theorem Vs {m : Nat} {ss ts : List D} : lY (m + 1) (.tup (ss ++ ts)) = lY (m + 1) (.tup ss) ++ lY (m + 1) (.tup ts) := by
 simp only [lY, List.flatMap_append]
theorem ju.nil : ju c k 0 [] := ⟨⟨[], rfl, nofun⟩, BE nofun (by simp), fun _ _ => rfl, by simp [aR, fO], by simp [bO, jX], by simp [bT, eO], by simp [bJ, fW], fun _ _ => Nat.le_refl _⟩
theorem Vt : ∀ {xs : List D} {x : D}, fO xs → aR x → fO (xs ++ [x])
 | [], _, _, h => ⟨h, trivial⟩
 | _ :: xs, _, h, h' => ⟨h.1, Vt h.2 h'⟩
theorem Vu : ∀ {xs : List D} {x : D}, eO (xs ++ [x]) = eO xs + (bT x + 1)
 | [], x => by simp [eO]
 | y :: xs, x => by simp only [List.cons_append, eO, Vu (xs := xs)]; omega
theorem EF : ∀ {xs : List D} {x : D}, x ∈ xs → bJ x ≤ fW xs
 | y :: xs, x, h => by
  simp only [fW]
  rcases List.mem_cons.mp h with rfl | h
  ·omega
  ·have := EF h
   omega
theorem ju.snoc {N M : Nat} {ss : List D} {s : D} (h : ju c k N ss) (hs : sU c k M s) (hl : ss.length < 1000) : ju c k (N + M) (ss ++ [s]) where
 ok := by
  obtain ⟨ss', e, h'⟩ := h.ok
  cases e
  refine ⟨_, rfl, fun t ht => ?_⟩
  rcases List.mem_append.mp ht with ht | ht
  ·exact h' t ht
  ·rw [List.mem_singleton.mp ht]; exact ⟨hs.st, hs.bd⟩
 pd := by
  have := h.pd
  cases this with
  | tup _ h1 =>
   refine BE (fun t ht => ?_) (by rw [List.length_append, List.length_singleton]; omega)
   rcases List.mem_append.mp ht with ht | ht
   ·exact h1 t ht
   ·rw [List.mem_singleton.mp ht]; exact hs.pd
 cn := fun m hm => by
  have h1 := h.cn m hm
  have h2 := hs.cn m hm
  simp only [Pg.cnt] at h1 ⊢
  rw [List.map_append, List.sum_append, h1, List.map_singleton, List.sum_singleton, h2]
 okd := by simp only [aR]; exact Vt (by simpa only [aR] using h.okd) hs.ok
 nk := by
  have := h.nk
  simp only [bO] at this ⊢
  refine rP.mpr fun t ht => ?_
  rcases List.mem_append.mp ht with ht | ht
  ·exact rP.mp this t ht
  ·rw [List.mem_singleton.mp ht]; exact hs.nk
 bk := by
  have h1 := h.bk
  have h2 := hs.bk
  simp only [bT] at h1 ⊢
  rw [Vu]
  omega
 dp := by
  have h1 := h.dp
  have h2 := hs.dp
  simp only [bJ] at h1 ⊢
  have : fW (ss ++ [s]) ≤ 2 * k + 2 := yh fun t ht => by
   rcases List.mem_append.mp ht with ht | ht
   ·have : bJ t ≤ fW ss := EF ht
    omega
   ·rw [List.mem_singleton.mp ht]; exact h2
  omega
 ac := fun m hm => by
  have h1 := h.ac m hm
  have h2 := hs.ac m hm
  rw [Vs, List.length_append]
  have e : lY (m + 1) (.tup [s]) = uX s ++ (pl (kindsOf s)).flatMap fun i => lY m ((nth s (i + 1)).getD .non) := by simp only [lY, List.flatMap_cons, List.flatMap_nil, List.append_nil]
  rw [e]; omega
/-- what a statement of the depth is, z statements left -/
def St (c : Pg.Ctx) (w : Wd) (am : Am) (rt : List (Str × D)) (n dep : Nat) (f : FX) : Prop := ∀ (z : Int) (S : Store) (r : R D) (Q : D → Store → Prop) (E : bD → Store → Prop), 0 < z → f [.ref n, w.d, .int (dep : Int)] S = r → At { w with z := z } am rt n S → (∀ s N z' S', sU c dep N s → 0 ≤ z' → (N : Int) = z - z' → At { w with z := z' } am rt n S' → Q s S') → r.al Q E
end
end Dp
namespace Dp
open aH hiding top
open PySem PySem.Spec PyProof.Rows L2 Mi Rc Rd Pg
section
variable {w : Wd} {am : Am} {c : Pg.Ctx}
theorem K8.at (h : K8 w am) (z : Int) : K8 { w with z := z } am := ⟨h.nd, h.nl, h.nm, h.amr, h.al, h.bs, h.bl⟩
theorem Hc.at (h : Hc c w am) (z : Int) : Hc c { w with z := z } am := ⟨h.ha, h.bk⟩
end
end Dp
namespace Dp
open aH hiding top
open PySem PySem.Spec PyProof.Rows L2 Mi Rc
/-- a name bR is drawn: no "newone", no "newproc" -/
def Vv (z : Str) : Prop := cD z ∧ z.length ≠ 6 ∧ z.length ≠ 7
end Dp
namespace Dp
open aH hiding top
open PySem PySem.Spec PyProof.Rows L2 Mi Rc Rd Pg
section
variable {w : Wd} {am : Am} {rt : List (Str × D)} {k : Nat} {c c' : Pg.Ctx}
/-- c' a4H what c a4H -/
structure Le (c c' : Pg.Ctx) : Prop where
 ha : ∀ b, (look c.am b).isSome = true → (look c'.am b).isSome = true
 bk : ∀ b, c.back.any (· == b) = true → c'.back.any (· == b) = true
 rt : ∀ p ps b rs, bQ c.rt p = some (.tup [.tup ps, b, .tup rs]) → ∃ b', bQ c'.rt p = some (.tup [.tup ps, b', .tup rs])
theorem Le.refl : Le c c := ⟨fun _ h => h, fun _ h => h, fun _ _ b _ h => ⟨b, h⟩⟩
theorem Le.trans {c'' : Pg.Ctx} (h : Le c c') (h' : Le c' c'') : Le c c'' := ⟨fun b x => h'.ha b (h.ha b x), fun b x => h'.bk b (h.bk b x), fun p ps b rs e => by
 obtain ⟨b', e'⟩ := h.rt p ps b rs e
 exact h'.rt p ps b' rs e'⟩
theorem Vw (h : Le c c') {d : D} (e : hasB c d = true) : hasB c' d = true := by
 unfold hasB at e ⊢
 split at e
 ·exact h.ha _ e
 ·cases e
theorem a4I (h : Le c c') {d : D} (e : Bw c d = true) : Bw c' d = true := by
 unfold Bw at e ⊢
 split at e
 ·exact h.bk _ e
 ·cases e
theorem a4J (h : Le c c') {k : Str} {d : D} (e : gD c k d = true) : gD c' k d = true := by
 unfold gD at e ⊢
 split
 ·rename_i q
  rw [if_pos q] at e; exact Vw h e
 ·rename_i q
  rw [if_neg q] at e
  split
  ·rename_i q'
   rw [if_pos q', Bool.and_eq_true] at e
   rw [Bool.and_eq_true]
   exact ⟨Vw h e.1, a4I h e.2⟩
  ·rename_i q'
   rw [if_neg q'] at e; exact e
theorem a4K (h : Le c c') {xs : List D} (e : zj c xs = true) : zj c' xs = true := by
 unfold zj at e ⊢
 split at e
 ·rename_i p os ns
  split at e
  ·rename_i ps b rs e1
   obtain ⟨b', e2⟩ := h.rt _ _ _ _ e1
   rw [e2]; exact e
  ·cases e
 ·cases e
theorem a4L (h : Le c c') {d : D} (e : j5 c d = true) : j5 c' d = true := by
 unfold j5 at e ⊢
 split at e
 ·rename_i w ps
  split at e
  ·rename_i ks e1
   simp only [Bool.and_eq_true] at e ⊢
   obtain ⟨⟨h1, h2⟩, h3⟩ := e
   refine ⟨⟨h1, ?_⟩, ?_⟩
   ·rw [List.all_eq_true] at h2 ⊢
    exact fun p hp => a4J h (h2 p hp)
   ·split
    ·rename_i q
     rw [if_pos q] at h3; exact h3
    ·rename_i q
     rw [if_neg q, Bool.or_eq_true] at h3
     rw [Bool.or_eq_true]
     exact h3.imp id (a4K h)
  ·cases e
 ·cases e
theorem Ka (h : Le c c') : ∀ {k : Nat} {d : D}, lX c k d → lX c' k d
 | 0, _, e => e.elim
 | k + 1, d, ⟨ss, e1, e2⟩ => ⟨ss, e1, fun s hs => ⟨a4L h (e2 s hs).1, fun i hi => by
   obtain ⟨e, a, b⟩ := (e2 s hs).2 i hi
   exact ⟨e, a, Ka h b⟩⟩⟩
theorem Vx : ∀ {xs ys : List D}, fO xs → fO ys → fO (xs ++ ys)
 | [], _, _, h => h
 | _ :: xs, _, h, h' => ⟨h.1, Vx h.2 h'⟩
theorem Vy : ∀ {xs ys : List D}, eO (xs ++ ys) = eO xs + eO ys
 | [], ys => by simp [eO]
 | y :: xs, ys => by simp only [List.cons_append, eO, Vy (xs := xs)]; omega
theorem ju.app {N M : Nat} {ss ts : List D} (h : ju c k N ss) (h' : ju c k M ts) (hl : ss.length + ts.length ≤ 1000) : ju c k (N + M) (ss ++ ts) where
 ac := fun m hm => by
  have h1 := h.ac m hm
  have h2 := h'.ac m hm
  rw [Vs, List.length_append]; omega
 ok := by
  obtain ⟨ss', e, g⟩ := h.ok
  obtain ⟨ts', e', g'⟩ := h'.ok
  cases e; cases e'
  refine ⟨_, rfl, fun t ht => ?_⟩
  rcases List.mem_append.mp ht with ht | ht
  ·exact g t ht
  ·exact g' t ht
 pd := by
  have a := h.pd
  have b := h'.pd
  cases a with
  | tup _ h1 =>
   cases b with
   | tup _ h2 =>
    refine BE (fun t ht => ?_) (by rw [List.length_append]; exact hl)
    rcases List.mem_append.mp ht with ht | ht
    ·exact h1 t ht
    ·exact h2 t ht
 cn := fun m hm => by
  have h1 := h.cn m hm
  have h2 := h'.cn m hm
  simp only [Pg.cnt] at h1 h2 ⊢
  rw [List.map_append, List.sum_append, h1, h2]
 okd := by simp only [aR]; exact Vx (by simpa only [aR] using h.okd) (by simpa only [aR] using h'.okd)
 nk := by
  have a := h.nk
  have b := h'.nk
  simp only [bO] at a b ⊢
  refine rP.mpr fun t ht => ?_
  rcases List.mem_append.mp ht with ht | ht
  ·exact rP.mp a t ht
  ·exact rP.mp b t ht
 bk := by
  have h1 := h.bk
  have h2 := h'.bk
  simp only [bT] at h1 h2 ⊢
  rw [Vy]
  omega
 dp := by
  have h1 := h.dp
  have h2 := h'.dp
  simp only [bJ] at h1 h2 ⊢
  have : fW (ss ++ ts) ≤ 2 * k + 2 := yh fun t ht => by
   rcases List.mem_append.mp ht with ht | ht
   ·have : bJ t ≤ fW ss := EF ht
    omega
   ·have : bJ t ≤ fW ts := EF ht
    omega
  omega
end
end Dp
namespace Dp
open aH hiding top
open PySem PySem.Spec PyProof.Rows L2 Mi Rc Rd Pg
def c0 (p : Pr) : Pg.Ctx := ⟨p.am, p.back, p.rt⟩
/-- a program whose parts are right -/
structure Good (p : Pr) : Prop where
 am : By p.am
 al : p.am.length ≤ 10
 bk : JO p.am p.back
 bl : p.back.length ≤ 10
 rt : Vp p.rt
 body : ∃ k N ss, k ≤ 15 ∧ N ≤ 300 ∧ p.body = .tup ss ∧ ju (c0 p) k N ss
 rb : ∀ q ∈ p.rt, ∃ N ss, N ≤ 300 ∧ bodyOf q.2 = .tup ss ∧ ju (c0 p) 2 N ss
theorem Vz {rs : List (Str × D)} {k : Str} (h : k ∉ rs.map (·.1)) : bQ rs k = none := by
 cases e : bQ rs k with
 | none => rfl
 | some d => exact absurd (zq.mp (by rw [e]; rfl)) h
theorem Kc {rs : List (Str × D)} : (cG rs).map (·.1) = dG (rs.map (·.1)) := by
 unfold cG
 rw [List.map_map]
 exact (List.map_congr_left fun _ _ => rfl).trans (List.map_id _)
theorem a4M {rs : List (Str × D)} (h : (rs.map (·.1)).Nodup) {k : Str} : bQ (cG rs) k = bQ rs k := by
 have hs : ((cG rs).map (·.1)).Nodup := by rw [Kc]; exact (fP _).nodup_iff.mpr h
 by_cases hm : k ∈ rs.map (·.1)
 ·obtain ⟨v, e⟩ := Option.isSome_iff_exists.mp (zq.mpr hm)
  have : (k, v) ∈ cG rs := List.mem_map.mpr ⟨k, (fP _).mem_iff.mpr hm, by rw [e]; rfl⟩
  rw [e]; exact zE hs this
 ·rw [Vz hm, Vz]
  rw [Kc]
  exact fun z => hm ((fP _).mem_iff.mp z)
theorem VA {rs : List (Str × D)} (h : (rs.map (·.1)).Nodup) : (cG rs).Perm rs := by
 have e : rs = (rs.map (·.1)).map fun k => (k, (bQ rs k).getD .non) := by
  rw [List.map_map]
  refine ((List.map_congr_left fun q hq => ?_).trans (List.map_id _)).symm
  show (q.1, (bQ rs q.1).getD .non) = q
  rw [zE h hq]; rfl
 have := (fP (rs.map (·.1))).map fun k => (k, (bQ rs k).getD .non)
 rw [← e] at this
 exact this
theorem VB {p : Pr} (ha : (p.am.map (·.1)).Nodup) (hr : (p.rt.map (·.1)).Nodup) : Le (c0 p) p.c where
 ha := fun b h => by
  show (look (srt p.am) b).isSome = true
  rw [Uo ha]; exact h
 bk := fun b h => by
  show (dG p.back).any (· == b) = true
  rw [List.any_eq_true] at h ⊢
  obtain ⟨x, hx, e⟩ := h
  exact ⟨x, (fP _).mem_iff.mpr hx, e⟩
 rt := fun q ps b rs h => ⟨b, by show bQ (cG p.rt) q = _; rw [a4M hr]; exact h⟩
section
variable {p : Pr}
theorem a4N {l l' : List Nat} (h : l.Perm l') : l.sum = l'.sum := h.sum_nat
theorem Good.keys (h : Good p) : ∀ z ∈ p.am.map (·.1), cD z := fun z hz => by
 obtain ⟨q, hq, rfl⟩ := List.mem_map.mp hz
 exact oX.mp (h.am.nm q hq).1
theorem Good.zA (h : Good p) : ∀ z ∈ p.back, cD z := fun z hz => h.keys z (nq.mp (h.bk.nm z hz).2.1)
theorem Kd {zs : List Str} (h : ∀ z ∈ zs, cD z) (hl : zs.length ≤ 60) : aR (.tup (zs.map D.str)) ∧ bO (.tup (zs.map D.str)) ∧ bT (.tup (zs.map D.str)) ≤ 9 * zs.length ∧ bJ (.tup (zs.map D.str)) ≤ 1 := by
 refine ⟨?_, ?_, ?_, ?_⟩
 ·simp only [aR]
  exact JX fun x hx => by
   obtain ⟨z, hz, rfl⟩ := List.mem_map.mp hx
   simp only [aR]; exact (h z hz).chars
 ·simp only [bO]
  exact rP.mpr fun x hx => by
   obtain ⟨z, hz, rfl⟩ := List.mem_map.mp hx
   simp only [bO]; exact (h z hz).chars
 ·simp only [bT]
  have : eO (zs.map D.str) ≤ (zs.map D.str).length * 9 := Pk (n := 8) fun x hx => by
   obtain ⟨z, hz, rfl⟩ := List.mem_map.mp hx
   simp only [bT]; exact (h z hz).2.1
  rw [List.length_map] at this
  omega
 ·have := yh (n := 0) (ds := zs.map D.str) fun x hx => by
   obtain ⟨z, hz, rfl⟩ := List.mem_map.mp hx
   simp [bJ]
  simp only [bJ]; omega
theorem Good.proc (h : Good p) {q : Str × D} (hq : q ∈ p.rt) : cD q.1 ∧ uU q.2 = true ∧ PD q.2 ∧ aR q.2 ∧ bO q.2 ∧ bT q.2 ≤ 31000 ∧ bJ q.2 ≤ 20 ∧ lX p.c 60 (bodyOf q.2) := by
 obtain ⟨h1, ps, rs, b, e, l1, l2, n1, n2, m1, m2⟩ := h.rt.it q hq
 obtain ⟨N, ss, hN, e2, hb⟩ := h.rb q hq
 have eb : b = .tup ss := by rw [← e2, e]; rfl
 subst eb
 obtain ⟨a1, a2, a3, a4⟩ := Kd m1 (by omega)
 obtain ⟨b1, b2, b3, b4⟩ := Kd m2 (by omega)
 have k1 := hb.bk
 have k2 := hb.dp
 refine ⟨h1, ?_, ?_, ?_, ?_, ?_, ?_, ?_⟩
 ·rw [e]
  show (jM _ && jM _) = true
  rw [Vq n1 m1, Vq n2 m2]; rfl
 ·rw [e]
  refine BE (fun x hx => ?_) (by simp)
  simp only [List.mem_cons, List.not_mem_nil, or_false] at hx
  rcases hx with rfl | rfl | rfl
  ·exact Vr (by omega) m1
  ·exact hb.pd
  ·exact Vr (by omega) m2
 ·rw [e]; simp only [aR, fO] at a1 b1 ⊢
  exact ⟨a1, by simpa only [aR] using hb.okd, b1, trivial⟩
 ·rw [e]; simp only [bO, jX] at a2 b2 ⊢
  exact ⟨a2, by simpa only [bO] using hb.nk, b2, trivial⟩
 ·rw [e]; simp only [bT, eO] at a3 b3 k1 ⊢
  omega
 ·rw [e]; simp only [bJ, fW] at a4 b4 k2 ⊢
  omega
 ·rw [e2]
  exact JM (Ka (VB h.am.nd h.rt.nd) hb.ok) (by omega)
theorem Good.total (h : Good p) : total p = cnt 60 p.body + (p.rt.map fun q => cnt 60 (bodyOf q.2)).sum := by
 unfold Pg.total
 rw [a4N ((VA h.rt.nd).map _)]
theorem sum_le {α : Type} {f : α → Nat} {n : Nat} : ∀ {l : List α}, (∀ x ∈ l, f x ≤ n) → (l.map f).sum ≤ n * l.length
 | [], _ => by simp
 | x :: l, h => by
  have := sum_le (l := l) fun y hy => h y (List.mem_cons_of_mem _ hy)
  have := h x List.mem_cons_self
  rw [List.map_cons, List.sum_cons, List.length_cons, Nat.mul_succ]
  omega
theorem Good.right (h : Good p) : Right p where
 am := h.am
 bk := h.bk
 rt := ⟨h.rt.nd, by have := h.rt.len; omega, fun q hq => ⟨oX.mpr (h.proc hq).1, (h.proc hq).2.1, (h.proc hq).2.2.1⟩⟩
 body := by
  obtain ⟨k, N, ss, hk, hN, e, hb⟩ := h.body
  rw [e]
  exact ⟨JM (Ka (VB h.am.nd h.rt.nd) hb.ok) (by omega), hb.pd⟩
 procs := fun q hq => (h.proc hq).2.2.2.2.2.2.2
 len := by
  rw [h.total]
  obtain ⟨k, N, ss, hk, hN, e, hb⟩ := h.body
  have e1 : cnt 60 p.body = N := by rw [e]; exact hb.cn 59 (by omega)
  have := sum_le (f := fun q : Str × D => cnt 60 (bodyOf q.2)) (n := 300) (l := p.rt) fun q hq => by
   obtain ⟨M, ts, hM, e2, hb'⟩ := h.rb q hq
   show cnt 60 (bodyOf q.2) ≤ 300
   rw [e2, hb'.cn 59 (by omega)]; exact hM
  have := h.rt.len
  have : 300 * p.rt.length ≤ 300 * 5 := Nat.mul_le_mul_left _ this
  omega
theorem VC : ∀ {l : List (Str × D)}, (∀ q ∈ l, cD q.1 ∧ aR q.2 ∧ bT q.2 ≤ 31000 ∧ bJ q.2 ≤ 20) → jd (kq l) ∧ jW (kq l) ≤ 31010 * l.length ∧ qb (kq l) ≤ 20
 | [], _ => ⟨trivial, Nat.le_refl _, Nat.zero_le _⟩
 | q :: l, h => by
  obtain ⟨a, b, c⟩ := VC (l := l) fun x hx => h x (List.mem_cons_of_mem _ hx)
  obtain ⟨h1, h2, h3, h4⟩ := h q List.mem_cons_self
  unfold kq at a b c ⊢
  simp only [List.map_cons, jd, jW, qb, uy, De, Df, ux, kW, List.length_cons]
  have := h1.2.1
  exact ⟨⟨⟨h1.chars, h2⟩, a⟩, by omega, by omega⟩
theorem Good.fine (h : Good p) (hr : p.rt.length ≤ 3) : Fine p.c p.body where
 nm := fun k hk => h.keys k (by
  have : k ∈ (srt p.am).map (·.1) := hk
  rw [JE] at this
  exact (fP _).mem_iff.mp this)
 sz := fun q hq => by
  have hq : q ∈ srt p.am := hq
  have e : look (srt p.am) q.1 = some q.2 := z9 (JF h.am.nd) hq
  rw [Uo h.am.nd] at e
  have := h.am.nm (q.1, q.2) (Bq e)
  omega
 al := by
  show (srt p.am).length ≤ 60
  rw [a2T]; have := h.al; omega
 bk := by
  have hb : ∀ z ∈ dG p.back, cD z := fun z hz => h.zA z ((fP _).mem_iff.mp hz)
  have hl : (dG p.back).length ≤ 10 := by rw [(fP _).length_eq]; exact h.bl
  obtain ⟨a, b, c, d⟩ := Kd hb (by omega)
  exact ⟨a, b, by show bT (.tup ((dG p.back).map D.str)) ≤ _; omega, by show bJ (.tup ((dG p.back).map D.str)) ≤ _; omega⟩
 b := by
  obtain ⟨k, N, ss, hk, hN, e, hb⟩ := h.body
  have k1 := hb.bk
  have k2 := hb.dp
  rw [e]
  exact ⟨hb.okd, hb.nk, by omega, by omega⟩
 rt := fun q hq => by
  obtain ⟨h1, _, _, h4, h5, h6, h7, _⟩ := h.proc (BA hq)
  exact ⟨h1, h4, h5, by omega, by omega⟩
 rk := by
  obtain ⟨a, b, c⟩ := VC (l := cG p.rt) fun q hq => by
   obtain ⟨h1, _, _, h4, h5, h6, h7, _⟩ := h.proc (BA hq)
   exact ⟨h1, h4, h6, h7⟩
  have hl : (cG p.rt).length = p.rt.length := (VA h.rt.nd).length_eq
  refine ⟨a, ?_, Nat.le_trans c (by omega)⟩
  show jW (kq (cG p.rt)) ≤ 100000
  rw [hl] at b
  have : 31010 * p.rt.length ≤ 31010 * 3 := Nat.mul_le_mul_left _ hr
  omega
end
end Dp
namespace Dp
open aH hiding top
open PySem PySem.Spec PyProof.Rows L2 Mi Rc Rd Pg
/-- what is drawn -/
structure Drawn (m : Nat) (p : Pr) : Prop where
 good : Good p
 an : ∀ z ∈ p.am.map (·.1), Vv z
 rn : ∀ z ∈ p.rt.map (·.1), Vv z ∧ z ≠ "steps"
 st : ∃ v r, p.am = (("steps", v) : Str × Int) :: r ∧ v ≤ 60
 al : p.am.length ≤ 3
 rl : p.rt.length ≤ 2
 body : ∃ N ss, N ≤ m ∧ p.body = .tup ss ∧ ss.length ≤ 6 ∧ ju (c0 p) 3 N ss
 rb : ∀ q ∈ p.rt, ∃ N ss, N ≤ m ∧ bodyOf q.2 = .tup ss ∧ ss.length ≤ 3 ∧ ju (c0 p) 2 N ss
 asg : (lY 4 p.body).length + (p.rt.map fun q => (lY 4 (bodyOf q.2)).length).sum ≤ 3 * m
section
variable {w : Wd} {am : Am} {rt : List (Str × D)} {n : Nat} {S : Store} {bs : List Str}
theorem At.procs {rt' : List (Str × D)} (h : At w am rt n S) (hk : w.kb ≠ w.kp) : At w am rt' n (S.set w.kp (.dct (kq rt'))) := by
 obtain ⟨a, b, g1, g2⟩ := h.rng
 obtain ⟨h1, h2, h3, h4, h5⟩ := h.ne
 exact ⟨⟨a, b, by rw [List.getElem?_set_ne h2.symm]; exact g1, g2⟩, by rw [List.getElem?_set_ne hk.symm]; exact h.kb, by rw [List.getElem?_set_self (List.getElem?_eq_some_iff.mp h.kp).1], by rw [List.getElem?_set_ne h5.symm]; exact h.kl, h.ne, h.ge, by rw [List.length_set]; exact h.fr.1, fun j hj hn => by rw [List.getElem?_set_ne (by have := h.ge.2.1; omega)]; exact h.fr.2 j hj hn⟩
/-- Vn with a3V bodies, M statements in all -/
structure Ro (am : Am) (bs : List Str) (rt : List (Str × D)) (M : Int) : Prop where
 ok : Vp rt
 rb : ∀ q ∈ rt, ∃ (N : Nat) (ss : List D), (N : Int) ≤ M ∧ bodyOf q.2 = .tup ss ∧ ss.length ≤ 3 ∧ ju ⟨am, bs, rt⟩ 2 N ss
 pd : ∀ q ∈ rt, PD q.2
 ra : (((rt.map fun q => (lY 4 (bodyOf q.2)).length).sum : Nat) : Int) ≤ 3 * M
theorem Ro.nil {M : Int} (hM : 0 ≤ M) : Ro am bs [] M := ⟨⟨by simp, by simp, nofun⟩, nofun, nofun, by simp; omega⟩
end
end Dp
namespace Dp
open aH hiding top
open PySem PySem.Spec PyProof.Rows L2 Mi Rc Rd Pg
theorem Ke {xs ys : List Str} (h : xs.Perm ys) : dG xs = dG ys := Du ((fP xs).trans h) (Io xs)
theorem a4O {ks ls : Am} (h : ks.Perm ls) (nd : (ks.map (·.1)).Nodup) {k : Str} : look ks k = look ls k := by
 have nd' : (ls.map (·.1)).Nodup := (h.map _).nodup_iff.mp nd
 cases e : look ks k with
 | some v => exact (z9 nd' (h.mem_iff.mp (Bq e))).symm
 | none =>
  cases e' : look ls k with
  | none => rfl
  | some v => rw [z9 nd (h.mem_iff.mpr (Bq e'))] at e; cases e
theorem a4P {ks ls : Am} (h : ks.Perm ls) (nd : (ks.map (·.1)).Nodup) : srt ks = srt ls := by
 unfold srt
 rw [Ke (h.map _)]
 exact List.map_congr_left fun k _ => by rw [a4O h nd]
theorem a4Q {r r' : List (Str × D)} (h : r.Perm r') (nd : (r.map (·.1)).Nodup) {k : Str} : bQ r k = bQ r' k := by
 have nd' : (r'.map (·.1)).Nodup := (h.map _).nodup_iff.mp nd
 cases e : bQ r k with
 | some v => exact (zE nd' (p := (k, v)) (h.mem_iff.mp (ED e))).symm
 | none =>
  cases e' : bQ r' k with
  | none => rfl
  | some v => rw [zE nd (p := (k, v)) (h.mem_iff.mpr (ED e'))] at e; cases e
theorem a4R {r r' : List (Str × D)} (h : r.Perm r') (nd : (r.map (·.1)).Nodup) : cG r = cG r' := by
 unfold cG
 rw [Ke (h.map _)]
 exact List.map_congr_left fun k _ => by rw [a4Q h nd]
/-- the entries in another order -/
structure Turn (p p' : Pr) : Prop where
 am : p.am.Perm p'.am
 bk : p.back.Perm p'.back
 rt : p.rt.Perm p'.rt
 bd : p.body = p'.body
section
variable {p p' : Pr}
theorem Turn.c (t : Turn p p') (h : Good p) : p.c = p'.c := by
 unfold Pr.c
 rw [a4P t.am h.am.nd, Ke t.bk, a4R t.rt h.rt.nd]
theorem Good.a4S (h : Good p) (hr : p.rt.length ≤ 3) : BD p.c p.body p.c p.body = true := by
 have f := h.fine hr
 unfold BD
 rw [show same p.c.am p.c.am = true from a4j (JF h.am.nd), JR f.b.nk, JR f.bk.nk, a4k (fun q hq => (f.rt q hq).2) fun q hq => ?_]
 ·rfl
 ·have hq : q ∈ cG p.rt := hq
  have nd : ((cG p.rt).map (·.1)).Nodup := by rw [Kc]; exact (fP _).nodup_iff.mpr h.rt.nd
  exact zE nd hq
end
end Dp
namespace aH
open PySem PySem.Spec PyProof.Rows L2 Mi
local macro_rules
 | `(nofun) => `(by first | exact .inl rfl | exact .inr rfl)
 | `(nomatch 0) => `(⟨rfl, rfl, rfl, by decide +kernel, rfl, by decide +kernel, by decide +kernel⟩)
 | `(#[$i]) => `(Xi (pv $i))
 | `(#[$i, $s]) => `(XX (pg_name (i := $i) (($s).nd) rfl (by first | exact .inl rfl | exact .inr rfl)))
 | `(#[$i, $s, $e]) => `(Mz (ps_set (i := $i) (($s).nd) rfl (by first | exact .inl rfl | exact .inr rfl) $e) (fun _ _ _ h => h))
 | `(#[0, $a, $b, 0]) => `(fun _ _ _ _ _ _ _ _ us ws hu hw => match us, ws, hu, hw with | $a, $b, _, _ => rfl)
 | `(#[1, $a, $b, 1]) => `(fun vs zs hv hz => match vs, zs, hv, hz with | $a, $b, _, _ => rfl)
 | `(#[1, $d, $g, $r, $x0]) => `(vJ (ks := []) (idx := [0]) (n := 1) $d $g $r (by first | decide | omega) (takes_of rfl rfl rfl rfl) (fun _ _ _ _ _ _ _ _ us ws hu hw => match us, ws, hu, hw with | [_], [], _, _ => rfl) (au $x0 aD) dU (bh bB) bB (fun vs zs hv hz => match vs, zs, hv, hz with | [_], [], _, _ => rfl))
 | `(#[2, $d, $g, $r, $x0, $x1]) => `(vJ (ks := []) (idx := [0, 1]) (n := 2) $d $g $r (by first | decide | omega) (takes_of rfl rfl rfl rfl) (fun _ _ _ _ _ _ _ _ us ws hu hw => match us, ws, hu, hw with | [_, _], [], _, _ => rfl) (au $x0 (au $x1 aD)) dU (bh (bh bB)) bB (fun vs zs hv hz => match vs, zs, hv, hz with | [_, _], [], _, _ => rfl))
 | `(#[4, $d, $g, $r, $x0, $x1, $x2, $x3]) => `(vJ (ks := []) (idx := [0, 1, 2, 3]) (n := 4) $d $g $r (by first | decide | omega) (takes_of rfl rfl rfl rfl) (fun _ _ _ _ _ _ _ _ us ws hu hw => match us, ws, hu, hw with | [_, _, _, _], [], _, _ => rfl) (au $x0 (au $x1 (au $x2 (au $x3 aD)))) dU (bh (bh (bh (bh bB)))) bB (fun vs zs hv hz => match vs, zs, hv, hz with | [_, _, _, _], [], _, _ => rfl))
structure Txt (K : PySem.W.Frag) (mg : Str → Option Value) (w : World) : Prop where
 a4T : mg "LookupError" = none
 VD : mg "abs" = none
 BF : mg "all" = none
 a4U : mg "any" = none
 a4V : mg "bool" = none
 VE : mg "dict" = none
 a4W : mg "divmod" = none
 Kf : mg "enumerate" = none
 a4X : mg "int" = none
 jg : mg "isinstance" = none
 kY : mg "len" = none
 VF : mg "max" = none
 a4Y : mg "min" = none
 a4Z : mg "range" = none
 VG : mg "repr" = none
 a5a : mg "set" = none
 Kg : mg "sorted" = none
 zF : mg "str" = none
 wX : mg "tuple" = none
 VH : mg "zip" = none
 a5b : ∃ t, mg "GREATEST_VALUE" = some (.int 1000000000000000000 t)
 a5c : ∃ a, mg "KINDS" = some (.ref a) ∧ KT K a ([.str "keep", .str "restore"].map dV)
 a5d : ∃ t, mg "LETTERS" = some (.str "abcdefghijklmnopqrstuvwxyz" t)
 a5e : ∃ t, mg "MOST_AMOUNT" = some (.int 1000000000000 t)
 a5f : ∃ t, mg "MOST_LETTERS" = some (.int 8 t)
 a5g : ∃ a, mg "OPERATORS" = some (.ref a) ∧ KT K a ([.str "+", .str "-", .str "*", .str "min", .str "max", .str "less"].map dV)
 VI : ∃ t, mg "STEPS" = some (.str "steps" t)
 VJ : ∃ a, mg "SHAPES" = some (.ref a) ∧ KTab K (vY mg) w a iH
 a5h : ∃ a, mg "TESTS" = some (.ref a) ∧ KTab K (vY mg) w a oZ
 EG : ∃ Ca, mg "InvalidProgram" = some (.ref Ca) ∧ PySem.W.keepIn K (.ref Ca) = true
 Kh : ∃ Ca, mg "Program" = some (.ref Ca) ∧ PySem.W.keepIn K (.ref Ca) = true
 EH : ∃ Ca, mg "UnknownBudget" = some (.ref Ca) ∧ PySem.W.keepIn K (.ref Ca) = true
 BH : ∃ Ca fI fd, S8 K mg "InvalidProgram" "InvalidProgram.__init__" vg "reason" "path" Ca fI fd
 a5i : ∃ Ca fI fd, Sv K mg "UnknownBudget" "UnknownBudget.__init__" vh "value" Ca fI fd
 a5j : ∃ Ba, mg "ExactStopError" = some (.ref Ba) ∧ HG K Ba
 xE : yu K mg jt
 xT : rR K mg xT
 xU : rW K mg xU
 a5k : uE K mg "path" jt
 a5l : uE K mg "reason" jt
 a5m : uE K mg "value" jt
 wL : ∀ {Ca : Addr}, mg "InvalidProgram" = some (.ref Ca) → uD K mg (.ref Ca) wL
 yV : ∀ {Ca : Addr}, mg "UnknownBudget" = some (.ref Ca) → uD K mg (.ref Ca) yV
 VL : HV K mg "Program"
 zG : fX K mg lQ
 zH : mW K mg "given_back" lQ
 zJ : fX K mg lU
 zK : mW K mg "main" lU
 zL : fX K mg lV
 zM : mW K mg "own_amounts" lV
 sV : fX K mg iD
 sW : mW K mg "routines" iD
 VM : fX K mg wJ
 VN : mW K mg "statement_list" wJ
 Kl : QW K mg "Program"
 EJ : R4 K mg "Program"
 EK : IW K mg "Program" "STEPS" "steps"
 iC : fX K mg DI
 iT : rR K mg iT
 iU : rW K mg iU
section
variable {P : Program} {w : World} {K : PySem.W.Frag} {mg : Str → Option Value} {base : Heap}
theorem a5n : FnScope ["self", "reason", "path"] ["self", "reason", "path"] (defScope vg) := nomatch 0
theorem sX {Ca fI : Addr} {fd : FuncData} (T : Txt K mg w) (E : S8 K mg "InvalidProgram" "InvalidProgram.__init__" vg "reason" "path" Ca fI fd) : cQ P w K mg base 1 fI fd ["self", "reason", "path"] (spI ⟨K, mg, w, []⟩ Ca oU.length mZ oU) := by
 obtain ⟨Ba, hB, BI⟩ := T.a5j
 exact a1q E.F a5n E.o E.f E.g rfl fun cdv A outer s H E hg hr => ⟨ps_expr (a04 hB BI (pa_cons (pv 0) (pa_cons (Dh (.cons (aO) (.cons (Qs #[1]) (.cons (aO) (.cons (yt hg (cO hr) #[2]) (qj.nil)))))) pa_nil))), ps_ost (pv 0) (pv 1), ps_ost (pv 0) (pv 2)⟩
theorem a5o : FnScope ["self", "value"] ["self", "value"] (defScope vh) := nomatch 0
theorem a5p {Ca fI : Addr} {fd : FuncData} (T : Txt K mg w) (E : Sv K mg "UnknownBudget" "UnknownBudget.__init__" vh "value" Ca fI fd) : cQ P w K mg base 1 fI fd ["self", "value"] (spI ⟨K, mg, w, []⟩ Ca IX.length Tn IX) := by
 exact a1C E.F a5o E.o E.f rfl fun cdv A outer s H E hg hr => ⟨ps_expr (a1B IJ rfl T.a4T (by decide +kernel) (pa_cons (pv 0) (pa_cons (Dh (.cons (aO) (.cons (yt hg (cO hr) #[1]) (qj.nil)))) pa_nil))), a1A IJ (pv 0) (pv 1)⟩
theorem VO : FnScope To DJ (defScope qK) := nomatch 0
theorem a5q {x : Str} {fa : Addr} {fd : FuncData} (T : Txt K mg w) (F : Fun K "_law_rng" "_law_rng" qK fa fd) (hm : mg x = some (.ref fa)) : aK P w K mg base 1 x qK DJ DK := by
 refine ⟨fa, _, "_law_rng", fd, F, hm, fn_ok F VO fun cdv A outer s H E hg hr => ?_⟩
 unfold Tp
 have hu1 := cO hr
 have hu0 := cY hr
 exact aZ #[2, VO, Mr (gJ Yp Yr #[1] (bK lD lE T.kY (by decide +kernel) (au #[0] (aD)))) (dO #[0] #[1]) (fj pW pX (fj Cu Cy (aJ) #[1]) (aJ))] <|
  aM (cA (Mj (j8 (au (bK (call_max2 rfl) MV T.VF (by decide +kernel) (au (aJ) (au (fj op_sub Yl (bK call_abs MU T.VD (by decide +kernel) (au #[2] (aD))) (fj op_pow CA (aJ) (aJ))) (aD)))) (au (fj pW pX (fj pW pX (fj op_modN Cz (bK call_abs MU T.VD (by decide +kernel) (au #[2] (aD))) (aJ)) (fj Cu Cy (aJ) #[1])) (aJ)) (aD))))))
theorem VP : FnScope Tq DL (defScope qL) := nomatch 0
theorem a5r {x : Str} {fa : Addr} {fd : FuncData} (T : Txt K mg w) (F : Fun K "_law_draw" "_law_draw" qL fa fd) (hm : mg x = some (.ref fa)) : aK P w K mg base 1 x qL DL kh := by
 refine ⟨fa, _, "_law_draw", fd, F, hm, fn_ok F VP fun cdv A outer s H E hg hr => ?_⟩
 unfold Tt
 have hu1 := cO hr
 have hu0 := cY hr
 exact aZ (fB (gJ Yq Ys (dO #[0] (aJ)) (aJ)) (aZ (G9 (bK call_divmod YF T.a4W (by decide +kernel) (au (dO #[0] (aJ)) (au #[1] (aD)))) (rH (n := 2) rfl (gY (N8 (W := W0) #[0] (aJ)) (gY #[2, VP] (rG))) (fM (fM (ou))))) <|
  aM (cA #[2])) (fV)) <|
  aZ (G9 (fj op_modN Cz (fj pW pX (fj Cu Cy (dO #[0] (aJ)) (aJ)) (aJ)) (aJ)) (N8 (W := W0) #[0] (aJ))) <|
  aM (cA (fj op_modN Cz (fj op_fdivN Yo (fj op_modN Cz (fj Cu Cy (dO #[0] (aJ)) (dO #[0] (aJ))) (aJ)) (aJ)) #[1]))
theorem a5s : FnScope Tv B5 (defScope pA) := nomatch 0
theorem a5t {x : Str} {fa : Addr} {fd : FuncData} (T : Txt K mg w) (F : Fun K "is_integer" "is_integer" pA fa fd) (hm : mg x = some (.ref fa)) : aK P w K mg base 1 x pA B5 oV := by
 refine ⟨fa, _, "is_integer", fd, F, hm, fn_ok F a5s fun cdv A outer s H E hg hr => ?_⟩
 unfold Tw
 have hu1 := cO hr
 have hu0 := cY hr
 exact aM (cA (jj (bK call_isi jm T.jg (by decide +kernel) (au #[0] (au (ji T.a4X (by decide +kernel)) (aD)))) (jA (Ms (bK call_isi jm T.jg (by decide +kernel) (au #[0] (au (ji T.a4V (by decide +kernel)) (aD))))))))
theorem a5u : FnScope Tz B6 (defScope pB) := nomatch 0
theorem a5v {x : Str} {fa : Addr} {fd : FuncData} (T : Txt K mg w) (F : Fun K "is_amount" "is_amount" pB fa fd) (hm : mg x = some (.ref fa)) (Km : aK P w K mg base 1 "is_integer" pA B5 oV) : aK P w K mg base 2 x pB B6 kE := by
 obtain ⟨a5w, a5x⟩ := T.a5e
 refine ⟨fa, _, "is_amount", fd, F, hm, fn_ok F a5u fun cdv A outer s H E hg hr => ?_⟩
 unfold IY
 have hu1 := cO hr
 have hu0 := cY hr
 exact aM (cA (jj #[1, Km, hg, hr, #[0]] (jA (Mv xO xP xO xP (aJ) #[0] (rF (v := .int 1000000000000) a5x ⟨_, rfl⟩ (fun _ _ _ => .int _))))))
theorem a5y : FnScope TF B7 (defScope pC) := nomatch 0
theorem a5z {Ca fa : Addr} {fd : FuncData} {kws : List (Str × V)} (T : Txt K mg w) (hm : mg "Program" = some (.ref Ca)) (hc : Cls K Ca) (hM : Meth K Ca "has_budget" fa) (F : iY K "has_budget" "Program.has_budget" pC kws fa fd) (hk : kws.map (·.1) = ([] : List (Str × D)).map (·.1)) (hv : CD K (kws.map (·.2)) (([] : List (Str × D)).map (·.2))) : bU P w K mg base 1 "Program" "has_budget" pC B7 [] ni := by
 refine ⟨Ca, fa, _, "Program.has_budget", fd, kws, hm, hc, hM, F, hk, hv, fn_ok (mX F) a5y fun cdv A outer s H E hg hr => ?_⟩
 unfold J5
 have hu1 := cO hr
 have hu0 := cY hr
 exact aM (cA (jj (bK call_isi jm T.jg (by decide +kernel) (au #[1] (au (ji T.zF (by decide +kernel)) (aD)))) (jA (j7 (a0f hu1) a0g #[1] (fJ T.zL T.zM #[0]) (by with_unfolding_all rfl)))))
theorem a5A : FnScope TH DM (defScope qM) := nomatch 0
theorem a5B {Ca fa : Addr} {fd : FuncData} {kws : List (Str × V)} (T : Txt K mg w) (hm : mg "Program" = some (.ref Ca)) (hc : Cls K Ca) (hM : Meth K Ca "require_budget" fa) (F : iY K "require_budget" "Program.require_budget" qM kws fa fd) (hk : kws.map (·.1) = ([] : List (Str × D)).map (·.1)) (hv : CD K (kws.map (·.2)) (([] : List (Str × D)).map (·.2))) (EL : bU P w K mg base 1 "Program" "has_budget" pC B7 [] ni) : bU P w K mg base 3 "Program" "require_budget" qM DM [] jK := by
 obtain ⟨b2p, b2q, b2r, zN⟩ := T.a5i
 refine ⟨Ca, fa, _, "Program.require_budget", fd, kws, hm, hc, hM, F, hk, hv, fn_ok (mX F) a5A fun cdv A outer s H E hg hr => ?_⟩
 unfold DN
 have hu1 := cO hr
 have hu0 := cY hr
 exact aM (fB (gK (gU (qw (T := [("Program", ⟨[0, 1], [], ni⟩)]) (ks := []) (n := 1) (k := 1) ⟨MethAt.of0 EL (by decide) #[0, [_, _], [], 0] #[1, [_, _], [], 1], trivial⟩ hg hr (by decide) (takes_of rfl rfl rfl rfl) #[0] (au #[1] (aD)) (dU) (bh (bB)) (bB)))) (aM (a1E IJ rfl (takes_of rfl rfl rfl rfl) zN.o zN.i zN.t (a5p T zN) hg hr (by decide) (ql zN.F (ps := ["self", "value"]) (n := 2) #[0, [_, _], [], 0] rfl) zN.m (au #[1] (aD)))) (fV))
theorem Ko : FnScope J8 uN (defScope jN) := nomatch 0
theorem a5C {x : Str} {fa : Addr} {fd : FuncData} (T : Txt K mg w) (F : Fun K "is_name" "is_name" jN fa fd) (hm : mg x = some (.ref fa)) : aK P w K mg base 1 x jN uN gR := by
 obtain ⟨a5D, a5E⟩ := T.a5d
 obtain ⟨a5F, a5G⟩ := T.a5f
 refine ⟨fa, _, "is_name", fd, F, hm, fn_ok F Ko fun cdv A outer s H E hg hr => ?_⟩
 unfold J9
 have hu1 := cO hr
 have hu0 := cY hr
 exact aZ (fB (pO (jy (gK (gU (bK call_isi jm T.jg (by decide +kernel) (au #[0] (au (ji T.zF (by decide +kernel)) (aD)))))) (pN (gK (XG xO xP xO xP (aJ) (bK lD lE T.kY (by decide +kernel) (au #[0] (aD))) (rF (v := .int 8) a5G ⟨_, rfl⟩ (fun _ _ _ => .int _))))))) (aM (cA (pK))) (fV)) <|
  aM (cA (bK (cr_all rfl) Aj T.BF (by decide +kernel) (au (dJ (vI (own := [("letter", 1)]) rfl Ko.nd (rK #[0]) (blkOk_by (N := J8) (sc := defScope jN) (by decide +kernel)) ⟨fun _ _ _ _ _ => pg_name (i := 1) Ko.nd rfl nofun, vH, fun _ _ _ _ _ => tU pts_nil fun σ H Q h => tV h, fun _ _ _ _ _ => j7 (vN hu1) vO #[1] (rF (v := .str "abcdefghijklmnopqrstuvwxyz") a5E ⟨_, rfl⟩ (fun _ _ _ => .str _)) (by with_unfolding_all rfl)⟩)) (aD))))
theorem Kr : FnScope TJ DP (defScope qN) := nomatch 0
theorem a5H {x : Str} {fa : Addr} {fd : FuncData} (T : Txt K mg w) (F : Fun K "check_budgets" "check_budgets" qN fa fd) (hm : mg x = some (.ref fa)) (sY : aK P w K mg base 1 "is_name" jN uN gR) (Ks : aK P w K mg base 2 "is_amount" pB B6 kE) : aK P w K mg base 3 x qN DP yW := by
 obtain ⟨VQ, Ku⟩ := T.VI
 obtain ⟨ER, EV, EW, aV⟩ := T.BH
 refine ⟨fa, _, "check_budgets", fd, F, hm, fn_ok F Kr fun cdv A outer s H E hg hr => ?_⟩
 unfold Ja
 have hu1 := cO hr
 have hu0 := cY hr
 exact aZ (fB (pO (jy (gK (gU (bK call_isi jm T.jg (by decide +kernel) (au #[0] (au (ji T.VE (by decide +kernel)) (aD)))))) (pN (gJ (HP hu1) HQ (rF (v := .str "steps") Ku ⟨_, rfl⟩ (fun _ _ _ => .str _)) #[0] (by with_unfolding_all rfl))))) (aM (rY rfl (takes_of rfl rfl rfl rfl) aV.o aV.i aV.t (sX T aV) hg hr (by decide) (ql aV.F (ps := ["self", "reason", "path"]) (n := 3) #[0, [_, _, _], [], 0] rfl) aV.m (au (aO) (au (dM (aD)) (aD))))) (fV)) <|
  aM (yC (mH (passes_of rfl) rfl (Dj #[0]) (rH (n := 2) rfl (gY #[1, Kr] (gY #[2, Kr] (rG))) (fM (fM (ou)))) (aM (fB (pO (jy (gK (gU #[1, sY, hg, hr, #[1]])) (pN (gK (gU #[1, Ks, hg, hr, #[2]]))))) (aM (rY rfl (takes_of rfl rfl rfl rfl) aV.o aV.i aV.t (sX T aV) hg hr (by decide) (ql aV.F (ps := ["self", "reason", "path"]) (n := 3) #[0, [_, _, _], [], 0] rfl) aV.m (au (aO) (au (dM (au #[1] (aD))) (aD))))) (fV)))))
theorem Kv : FnScope TN DQ (defScope qO) := nomatch 0
theorem a5I {x : Str} {fa : Addr} {fd : FuncData} (T : Txt K mg w) (F : Fun K "check_returnable" "check_returnable" qO fa fd) (hm : mg x = some (.ref fa)) : aK P w K mg base 3 x qO DQ yX := by
 obtain ⟨VQ, Ku⟩ := T.VI
 obtain ⟨ER, EV, EW, aV⟩ := T.BH
 refine ⟨fa, _, "check_returnable", fd, F, hm, fn_ok F Kv fun cdv A outer s H E hg hr => ?_⟩
 unfold Jb
 have hu1 := cO hr
 have hu0 := cY hr
 exact aZ (fB (gK (gU (bK call_isi jm T.jg (by decide +kernel) (au #[0] (au (ji T.wX (by decide +kernel)) (aD)))))) (aM (rY rfl (takes_of rfl rfl rfl rfl) aV.o aV.i aV.t (sX T aV) hg hr (by decide) (ql aV.F (ps := ["self", "reason", "path"]) (n := 3) #[0, [_, _, _], [], 0] rfl) aV.m (au (aO) (au (dM (aD)) (aD))))) (fV)) <|
  aM (mH (passes_of rfl) rfl (Hi T.Kf (au #[0] (aD))) (rH (n := 2) rfl (gY #[2, Kv] (gY #[3, Kv] (rG))) (fM (fM (ou)))) (aM (fB (pO (jy (gK (gU (bK call_isi jm T.jg (by decide +kernel) (au #[3] (au (ji T.zF (by decide +kernel)) (aD)))))) (jy (gJ (HP hu1) HQ #[3] #[1] (by with_unfolding_all rfl)) (jy (gJ (or_eq hu0) iK #[3] (rF (v := .str "steps") Ku ⟨_, rfl⟩ (fun _ _ _ => .str _))) (pN (gJ (vN hu1) vO #[3] (Nz #[0] (Nu) (Nv #[2])) (by with_unfolding_all rfl))))))) (aM (rY rfl (takes_of rfl rfl rfl rfl) aV.o aV.i aV.t (sX T aV) hg hr (by decide) (ql aV.F (ps := ["self", "reason", "path"]) (n := 3) #[0, [_, _, _], [], 0] rfl) aV.m (au (aO) (au (dM (au #[2] (aD))) (aD))))) (fV))))
theorem Kw : FnScope Jc Bb (defScope nJ) := nomatch 0
theorem a5J {x : Str} {fa : Addr} {fd : FuncData} (T : Txt K mg w) (F : Fun K "are_names" "are_names" nJ fa fd) (hm : mg x = some (.ref fa)) (sY : aK P w K mg base 1 "is_name" jN uN gR) : aK P w K mg base 2 x nJ Bb qG := by
 refine ⟨fa, _, "are_names", fd, F, hm, fn_ok F Kw fun cdv A outer s H E hg hr => ?_⟩
 unfold Jd
 have hu1 := cO hr
 have hu0 := cY hr
 exact aZ (fB (pO (jy (gK (gU (bK call_isi jm T.jg (by decide +kernel) (au #[0] (au (ji T.wX (by decide +kernel)) (aD)))))) (pN (gK (gU (bK (cr_all rfl) Aj T.BF (by decide +kernel) (au (dJ (vI (own := [("name", 1)]) rfl Kw.nd (rK #[0]) (blkOk_by (N := Jc) (sc := defScope nJ) (by decide +kernel)) ⟨fun _ _ _ _ _ => pg_name (i := 1) Kw.nd rfl nofun, vH, fun _ _ _ _ _ => tU pts_nil fun σ H Q h => tV h, fun _ _ _ _ _ => vJ (ks := []) (idx := [0]) (n := 1) sY hg hr (by decide) takes0 #[0, [_], [], 0] (au #[1] (aD)) (dU) (bh (bB)) (bB) #[1, [_], [], 1]⟩)) (aD)))))))) (aM (cA (pK))) (fV)) <|
  aM (cA (j7 (or_eq hu0) iK (a1P rfl T.kY T.a5a #[0]) (bK lD lE T.kY (by decide +kernel) (au #[0] (aD)))))
theorem a5K : FnScope TQ DR (defScope qP) := nomatch 0
theorem a5L {x : Str} {fa : Addr} {fd : FuncData} (T : Txt K mg w) (F : Fun K "is_procedure" "is_procedure" qP fa fd) (hm : mg x = some (.ref fa)) (EY : aK P w K mg base 2 "are_names" nJ Bb qG) : aK P w K mg base 3 x qP DR yY := by
 refine ⟨fa, _, "is_procedure", fd, F, hm, fn_ok F a5K fun cdv A outer s H E hg hr => ?_⟩
 unfold Je
 have hu1 := cO hr
 have hu0 := cY hr
 exact aM (cA (jj (bK call_isi jm T.jg (by decide +kernel) (au #[0] (au (ji T.wX (by decide +kernel)) (aD)))) (jj (j7 (or_eq hu0) iK (bK lD lE T.kY (by decide +kernel) (au #[0] (aD))) (aJ)) (jj #[1, EY, hg, hr, dO #[0] (aJ)] (jA #[1, EY, hg, hr, dO #[0] (aJ)])))))
theorem Ky : FnScope TR DU (defScope qQ) := nomatch 0
theorem a5M {x : Str} {fa : Addr} {fd : FuncData} (T : Txt K mg w) (F : Fun K "check_procedures" "check_procedures" qQ fa fd) (hm : mg x = some (.ref fa)) (sY : aK P w K mg base 1 "is_name" jN uN gR) (a5N : aK P w K mg base 3 "is_procedure" qP DR yY) : aK P w K mg base 4 x qQ DU yZ := by
 obtain ⟨ER, EV, EW, aV⟩ := T.BH
 refine ⟨fa, _, "check_procedures", fd, F, hm, fn_ok F Ky fun cdv A outer s H E hg hr => ?_⟩
 unfold Jf
 have hu1 := cO hr
 have hu0 := cY hr
 exact aZ (fB (gK (gU (bK call_isi jm T.jg (by decide +kernel) (au #[0] (au (ji T.VE (by decide +kernel)) (aD)))))) (aM (rY rfl (takes_of rfl rfl rfl rfl) aV.o aV.i aV.t (sX T aV) hg hr (by decide) (ql aV.F (ps := ["self", "reason", "path"]) (n := 3) #[0, [_, _, _], [], 0] rfl) aV.m (au (aO) (au (dM (aD)) (aD))))) (fV)) <|
  aM (yC (mH (passes_of rfl) rfl (Dj #[0]) (rH (n := 2) rfl (gY #[1, Ky] (gY #[2, Ky] (rG))) (fM (fM (ou)))) (aM (fB (pO (jy (gK (gU #[1, sY, hg, hr, #[1]])) (pN (gK (gU #[1, a5N, hg, hr, #[2]]))))) (aM (rY rfl (takes_of rfl rfl rfl rfl) aV.o aV.i aV.t (sX T aV) hg hr (by decide) (ql aV.F (ps := ["self", "reason", "path"]) (n := 3) #[0, [_, _, _], [], 0] rfl) aV.m (au (aO) (au (dM (au #[1] (aD))) (aD))))) (fV)))))
theorem EZ : FnScope Jg Bc (defScope nM) := nomatch 0
theorem a5O {x : Str} {fa : Addr} {fd : FuncData} (T : Txt K mg w) (F : Fun K "body_places" "body_places" nM fa fd) (hm : mg x = some (.ref fa)) : aK P w K mg base 1 x nM Bc uO := by
 obtain ⟨a5P, Fb, Fd⟩ := T.VJ
 refine ⟨fa, _, "body_places", fd, F, hm, fn_ok F EZ fun cdv A outer s H E hg hr => ?_⟩
 unfold Jh
 have hu1 := cO hr
 have hu0 := cY hr
 exact aM (cA (dJ (vI (own := [("index", 1), ("kind", 2)]) rfl EZ.nd (Hi T.Kf (au (GU Fd Fb (dO #[0] (aJ))) (aD))) (blkOk_by (N := Jg) (sc := defScope nM) (by decide +kernel)) ⟨fun _ _ _ _ _ => pg_tup rfl (pgs_cons (pg_name (i := 1) EZ.nd rfl nofun) (pgs_cons (pg_name (i := 2) EZ.nd rfl nofun) (pgs_nil))), O4 (O3 (n := 2) (D9 (D8 (by decide)) (D9 (D8 (by decide)) (O2))) (fM (fM (ou)))), fun _ _ _ _ _ => pts_one (gJ (or_eq hu0) iK #[2] (aO)), fun _ _ _ _ _ => fj pW pX #[1] (aJ)⟩)))
theorem a5Q : FnScope Ji DV (defScope qR) := nomatch 0
theorem a5R {x : Str} {fa : Addr} {fd : FuncData} (T : Txt K mg w) (F : Fun K "is_value" "is_value" qR fa fd) (hm : mg x = some (.ref fa)) (Km : aK P w K mg base 1 "is_integer" pA B5 oV) : aK P w K mg base 2 x qR DV oW := by
 obtain ⟨a5S, VR⟩ := T.a5b
 refine ⟨fa, _, "is_value", fd, F, hm, fn_ok F a5Q fun cdv A outer s H E hg hr => ?_⟩
 unfold Be
 have hu1 := cO hr
 have hu0 := cY hr
 exact aM (cA (jj #[1, Km, hg, hr, #[0]] (jA (Mv xO xP xO xP (Mh un_neg MP (rF (v := .int 1000000000000000000) VR ⟨_, rfl⟩ (fun _ _ _ => .int _))) #[0] (rF (v := .int 1000000000000000000) VR ⟨_, rfl⟩ (fun _ _ _ => .int _))))))
theorem a5T : FnScope TU Bf (defScope pD) := nomatch 0
theorem a5U {x : Str} {fa : Addr} {fd : FuncData} (T : Txt K mg w) (F : Fun K "is_operand" "is_operand" pD fa fd) (hm : mg x = some (.ref fa)) (sY : aK P w K mg base 1 "is_name" jN uN gR) (a5V : aK P w K mg base 2 "is_value" qR DV oW) : aK P w K mg base 3 x pD Bf sH := by
 refine ⟨fa, _, "is_operand", fd, F, hm, fn_ok F a5T fun cdv A outer s H E hg hr => ?_⟩
 unfold Jj
 have hu1 := cO hr
 have hu0 := cY hr
 exact aM (cA (G5 #[1, a5V, hg, hr, #[0]] (jA #[1, sY, hg, hr, #[0]])))
theorem Kz : FnScope Jk DW (defScope pF) := nomatch 0
theorem a5W {x : Str} {fa : Addr} {fd : FuncData} (T : Txt K mg w) (F : Fun K "are_operands" "are_operands" pF fa fd) (hm : mg x = some (.ref fa)) (KA : aK P w K mg base 3 "is_operand" pD Bf sH) : aK P w K mg base 4 x pF DW wM := by
 refine ⟨fa, _, "are_operands", fd, F, hm, fn_ok F Kz fun cdv A outer s H E hg hr => ?_⟩
 unfold Jl
 have hu1 := cO hr
 have hu0 := cY hr
 exact aM (cA (jj (bK call_isi jm T.jg (by decide +kernel) (au #[0] (au (ji T.wX (by decide +kernel)) (aD)))) (jA (bK (cr_all rfl) Aj T.BF (by decide +kernel) (au (dJ (vI (own := [("operand", 1)]) rfl Kz.nd (rK #[0]) (blkOk_by (N := Jk) (sc := defScope pF) (by decide +kernel)) ⟨fun _ _ _ _ _ => pg_name (i := 1) Kz.nd rfl nofun, vH, fun _ _ _ _ _ => tU pts_nil fun σ H Q h => tV h, fun _ _ _ _ _ => vJ (ks := []) (idx := [0]) (n := 1) KA hg hr (by decide) takes0 #[0, [_], [], 0] (au #[1] (aD)) (dU) (bh (bB)) (bB) #[1, [_], [], 1]⟩)) (aD))))))
theorem a5X : FnScope TV DY (defScope qT) := nomatch 0
theorem a5Y {x : Str} {fa : Addr} {fd : FuncData} (T : Txt K mg w) (F : Fun K "is_operator" "is_operator" qT fa fd) (hm : mg x = some (.ref fa)) : aK P w K mg base 1 x qT DY wN := by
 obtain ⟨b2s, a5Z, a65⟩ := T.a5g
 refine ⟨fa, _, "is_operator", fd, F, hm, fn_ok F a5X fun cdv A outer s H E hg hr => ?_⟩
 unfold Jm
 have hu1 := cO hr
 have hu0 := cY hr
 exact aM (cA (jj (bK call_isi jm T.jg (by decide +kernel) (au #[0] (au (ji T.zF (by decide +kernel)) (aD)))) (jA (j7 (vN hu1) vO #[0] (NP a5Z rfl a65) (by with_unfolding_all rfl)))))
theorem a66 : FnScope TX DZ (defScope qU) := nomatch 0
theorem a67 {x : Str} {fa : Addr} {fd : FuncData} (T : Txt K mg w) (F : Fun K "is_kind" "is_kind" qU fa fd) (hm : mg x = some (.ref fa)) : aK P w K mg base 1 x qU DZ wO := by
 obtain ⟨b2t, a68, a69⟩ := T.a5c
 refine ⟨fa, _, "is_kind", fd, F, hm, fn_ok F a66 fun cdv A outer s H E hg hr => ?_⟩
 unfold Jo
 have hu1 := cO hr
 have hu0 := cY hr
 exact aM (cA (jj (bK call_isi jm T.jg (by decide +kernel) (au #[0] (au (ji T.zF (by decide +kernel)) (aD)))) (jA (j7 (vN hu1) vO #[0] (NP a68 rfl a69) (by with_unfolding_all rfl)))))
theorem a6a : FnScope TY E3 (defScope qW) := nomatch 0
theorem a6b {Ca fa : Addr} {fd : FuncData} {kws : List (Str × V)} (T : Txt K mg w) (hm : mg "Program" = some (.ref Ca)) (hc : Cls K Ca) (hM : Meth K Ca "fits" fa) (F : iY K "fits" "Program.fits" qW kws fa fd) (hk : kws.map (·.1) = ([] : List (Str × D)).map (·.1)) (hv : CD K (kws.map (·.2)) (([] : List (Str × D)).map (·.2))) (sY : aK P w K mg base 1 "is_name" jN uN gR) (KA : aK P w K mg base 3 "is_operand" pD Bf sH) (EY : aK P w K mg base 2 "are_names" nJ Bb qG) (a6c : aK P w K mg base 4 "are_operands" pF DW wM) (a6d : aK P w K mg base 1 "is_operator" qT DY wN) (a6e : aK P w K mg base 1 "is_kind" qU DZ wO) (EL : bU P w K mg base 1 "Program" "has_budget" pC B7 [] ni) : bU P w K mg base 5 "Program" "fits" qW E3 [] sJ := by
 obtain ⟨b2u, a6f, a6g⟩ := T.a5h
 refine ⟨Ca, fa, _, "Program.fits", fd, kws, hm, hc, hM, F, hk, hv, fn_ok (mX F) a6a fun cdv A outer s H E hg hr => ?_⟩
 unfold Jp
 have hu1 := cO hr
 have hu0 := cY hr
 exact aZ (fB (gJ (or_eq hu0) iK #[1] (aO)) (aM (cA (qw (T := [("Program", ⟨[0, 1], [], ni⟩)]) (ks := []) (n := 1) (k := 1) ⟨MethAt.of0 EL (by decide) #[0, [_, _], [], 0] #[1, [_, _], [], 1], trivial⟩ hg hr (by decide) (takes_of rfl rfl rfl rfl) #[0] (au #[2] (aD)) (dU) (bh (bB)) (bB)))) (fV)) <|
  aZ (fB (gJ (or_eq hu0) iK #[1] (aO)) (aM (cA (jj (qw (T := [("Program", ⟨[0, 1], [], ni⟩)]) (ks := []) (n := 1) (k := 1) ⟨MethAt.of0 EL (by decide) #[0, [_, _], [], 0] #[1, [_, _], [], 1], trivial⟩ hg hr (by decide) (takes_of rfl rfl rfl rfl) #[0] (au #[2] (aD)) (dU) (bh (bB)) (bB)) (jA (j7 (vN hu1) vO #[2] (fJ T.zG T.zH #[0]) (by with_unfolding_all rfl)))))) (fV)) <|
  aM (cA (G5 (j7 (or_eq hu0) iK #[1] (aO)) (jA (YR (T := [("is_name", gR), ("is_operand", sH), ("is_operator", wN), ("is_kind", wO), ("are_operands", wM), ("are_names", qG)]) (k := 4) (n := 1) (yc ⟨_, _, (sY).mono (by decide), #[0, [_], [], 0], rfl⟩ (yc ⟨_, _, (KA).mono (by decide), #[0, [_], [], 0], rfl⟩ (yc ⟨_, _, (a6d).mono (by decide), #[0, [_], [], 0], rfl⟩ (yc ⟨_, _, (a6e).mono (by decide), #[0, [_], [], 0], rfl⟩ (yc ⟨_, _, (a6c).mono (by decide), #[0, [_], [], 0], rfl⟩ (yc ⟨_, _, (EY).mono (by decide), #[0, [_], [], 0], rfl⟩ (Z4))))))) hg hr (by decide) (takes_of rfl rfl rfl rfl) (GU a6g a6f #[1]) (au #[2] (aD)) (bh (bB))))))
theorem Fe : FnScope U0 E4 (defScope qX) := nomatch 0
theorem a6h {Ca fa : Addr} {fd : FuncData} {kws : List (Str × V)} (T : Txt K mg w) (hm : mg "Program" = some (.ref Ca)) (hc : Cls K Ca) (hM : Meth K Ca "fits_procedure" fa) (F : iY K "fits_procedure" "Program.fits_procedure" qX kws fa fd) (hk : kws.map (·.1) = ([] : List (Str × D)).map (·.1)) (hv : CD K (kws.map (·.2)) (([] : List (Str × D)).map (·.2))) : bU P w K mg base 1 "Program" "fits_procedure" qX E4 [] uP := by
 refine ⟨Ca, fa, _, "Program.fits_procedure", fd, kws, hm, hc, hM, F, hk, hv, fn_ok (mX F) Fe fun cdv A outer s H E hg hr => ?_⟩
 unfold Jq
 have hu1 := cO hr
 have hu0 := cY hr
 exact aZ (fB (gJ (HP hu1) HQ (dO #[1] (aJ)) (fJ T.sV T.sW #[0]) (by with_unfolding_all rfl)) (aM (cA (pK))) (fV)) <|
  aZ (G9 (yw hu0 (fJ T.sV T.sW #[0]) (dO #[1] (aJ))) (rH (n := 3) rfl (gY #[2, Fe] (gY #[3, Fe] (gY #[4, Fe] (rG)))) (fM (fM (fM (ou)))))) <|
  aM (cA (jj (j7 (or_eq hu0) iK (bK lD lE T.kY (by decide +kernel) (au (dO #[1] (aJ)) (aD))) (bK lD lE T.kY (by decide +kernel) (au #[2] (aD)))) (jA (j7 (or_eq hu0) iK (bK lD lE T.kY (by decide +kernel) (au (dO #[1] (aJ)) (aD))) (bK lD lE T.kY (by decide +kernel) (au #[4] (aD)))))))
theorem wY : FnScope E5 E6 (defScope nO) := nomatch 0
theorem a6i {Ca fa : Addr} {fd : FuncData} {kws : List (Str × V)} (T : Txt K mg w) (hm : mg "Program" = some (.ref Ca)) (hc : Cls K Ca) (hM : Meth K Ca "is_statement" fa) (F : iY K "is_statement" "Program.is_statement" nO kws fa fd) (hk : kws.map (·.1) = ([] : List (Str × D)).map (·.1)) (hv : CD K (kws.map (·.2)) (([] : List (Str × D)).map (·.2))) (a6j : bU P w K mg base 5 "Program" "fits" qW E3 [] sJ) (a6k : bU P w K mg base 1 "Program" "fits_procedure" qX E4 [] uP) : bU P w K mg base 6 "Program" "is_statement" nO E6 [] wQ := by
 obtain ⟨a5P, Fb, Fd⟩ := T.VJ
 refine ⟨Ca, fa, _, "Program.is_statement", fd, kws, hm, hc, hM, F, hk, hv, fn_ok (mX F) wY fun cdv A outer s H E hg hr => ?_⟩
 unfold Jr
 have hu1 := cO hr
 have hu0 := cY hr
 exact aZ (fB (pO (jy (gK (gU (bK call_isi jm T.jg (by decide +kernel) (au #[1] (au (ji T.wX (by decide +kernel)) (aD)))))) (jy (gJ (or_eq hu0) iK #[1] (dM (aD))) (jy (gK (gU (bK call_isi jm T.jg (by decide +kernel) (au (dO #[1] (aJ)) (au (ji T.zF (by decide +kernel)) (aD)))))) (pN (Ze Fd Fb (dO #[1] (aJ)))))))) (aM (cA (pK))) (fV)) <|
  aZ #[2, wY, GU Fd Fb (dO #[1] (aJ))] <|
  aZ (fB (pO (jy (gJ (xW hu0) xX (bK lD lE T.kY (by decide +kernel) (au #[1] (aD))) (fj pW pX (aJ) (bK lD lE T.kY (by decide +kernel) (au #[2] (aD))))) (pN (gK (gU (bK (cr_all rfl) Aj T.BF (by decide +kernel) (au (dJ (vI (own := [("kind", 3), ("one", 4)]) rfl wY.nd (NZ T.VH (au #[2] (au (Nz #[1] (Nv (aJ)) (Nu)) (aD)))) (blkOk_by (N := E5) (sc := defScope nO) (by decide +kernel)) ⟨fun _ _ _ _ _ => pg_tup rfl (pgs_cons (pg_name (i := 3) wY.nd rfl nofun) (pgs_cons (pg_name (i := 4) wY.nd rfl nofun) (pgs_nil))), O4 (O3 (n := 2) (D9 (D8 (by decide)) (D9 (D8 (by decide)) (O2))) (fM (fM (ou)))), fun _ _ _ _ _ => tU pts_nil fun σ H Q h => tV h, fun _ _ _ _ _ => qw (T := [("Program", ⟨[0, 1, 2], [], sJ⟩)]) (ks := []) (n := 2) (k := 5) ⟨MethAt.of0 a6j (by decide) #[0, [_, _, _], [], 0] #[1, [_, _, _], [], 1], trivial⟩ hg hr (by decide) takes0 #[0] (au #[3] (au #[4] (aD))) (dU) (bh (bh (bB))) (bB)⟩)) (aD)))))))) (aM (cA (pK))) (fV)) <|
  aZ (fB (gJ (or_eq hu0) iK (dO #[1] (aJ)) (aO)) (aM (cA (Ms (bK (cr_any rfl) YG T.a4U (by decide +kernel) (au (dJ (vI (own := [("name", 5)]) rfl wY.nd (rK (dO #[1] (aJ))) (blkOk_by (N := E5) (sc := defScope nO) (by decide +kernel)) ⟨fun _ _ _ _ _ => pg_name (i := 5) wY.nd rfl nofun, vH, fun _ _ _ _ _ => tU pts_nil fun σ H Q h => tV h, fun _ _ _ _ _ => j7 (vN hu1) vO #[5] (dO #[1] (aJ)) (by with_unfolding_all rfl)⟩)) (aD)))))) (fV)) <|
  aM (cA (G5 (j7 (xW hu0) xX (dO #[1] (aJ)) (aO)) (jA (qw (T := [("Program", ⟨[0, 1], [], uP⟩)]) (ks := []) (n := 1) (k := 1) ⟨MethAt.of0 a6k (by decide) #[0, [_, _], [], 0] #[1, [_, _], [], 1], trivial⟩ hg hr (by decide) (takes_of rfl rfl rfl rfl) #[0] (au #[1] (aD)) (dU) (bh (bB)) (bB)))))
theorem Fg : FnScope U3 z7 (defScope nQ) := nomatch 0
theorem a6l {n : Nat} {Ca fa : Addr} {fd : FuncData} {kws : List (Str × V)} (T : Txt K mg w) (hm : mg "Program" = some (.ref Ca)) (hc : Cls K Ca) (hM : Meth K Ca "check_body" fa) (F : iY K "check_body" "Program.check_body" nQ kws fa fd) (hk : kws.map (·.1) = ([] : List (Str × D)).map (·.1)) (hv : CD K (kws.map (·.2)) (([] : List (Str × D)).map (·.2))) (KC : aK P w K mg base 1 "body_places" nM Bc uO) (Fj : bU P w K mg base (7 + n) "Program" "check_body" nQ z7 [] (kI (n))) (a6m : bU P w K mg base 6 "Program" "is_statement" nO E6 [] wQ) : bU P w K mg base (7 + n + 1) "Program" "check_body" nQ z7 [] (kI (n + 1)) := by
 obtain ⟨ER, EV, EW, aV⟩ := T.BH
 refine ⟨Ca, fa, _, "Program.check_body", fd, kws, hm, hc, hM, F, hk, hv, fn_ok (mX F) Fg fun cdv A outer s H E hg hr => ?_⟩
 unfold E7
 have hu1 := cO hr
 have hu0 := cY hr
 exact aZ (fB (gK (gU (bK call_isi jm T.jg (by decide +kernel) (au #[1] (au (ji T.wX (by decide +kernel)) (aD)))))) (aM (rY rfl (takes_of rfl rfl rfl rfl) aV.o aV.i aV.t (sX T aV) hg hr (by first | decide | omega) (ql aV.F (ps := ["self", "reason", "path"]) (n := 3) #[0, [_, _, _], [], 0] rfl) aV.m (au (aO) (au #[2] (aD))))) (fV)) <|
  aM (mH (passes_of rfl) rfl (Hi T.Kf (au #[1] (aD))) (rH (n := 2) rfl (gY #[3, Fg] (gY #[4, Fg] (rG))) (fM (fM (ou)))) (aZ (fB (gK (gU (qw (T := [("Program", ⟨[0, 1], [], wQ⟩)]) (ks := []) (n := 1) (k := 6) ⟨MethAt.of0 a6m (by first | decide | omega) #[0, [_, _], [], 0] #[1, [_, _], [], 1], trivial⟩ hg hr (by first | decide | omega) (takes_of rfl rfl rfl rfl) #[0] (au #[4] (aD)) (dU) (bh (bB)) (bB)))) (aM (rY rfl (takes_of rfl rfl rfl rfl) aV.o aV.i aV.t (sX T aV) hg hr (by first | decide | omega) (ql aV.F (ps := ["self", "reason", "path"]) (n := 3) #[0, [_, _, _], [], 0] rfl) aV.m (au (aO) (au (fj pW pX #[2] (dM (au #[3] (aD)))) (aD))))) (fV)) <|
  aM (mH (passes_of rfl) rfl (rK #[1, KC, hg, hr, #[4]]) #[5, Fg] (aM (pQ (qw (T := [("Program", ⟨[0, 1, 2], [], (kI n)⟩)]) (ks := []) (n := 2) (k := (7 + n)) ⟨MethAt.of0 Fj (by first | decide | omega) #[0, [_, _, _], [], 0] #[1, [_, _, _], [], 1], trivial⟩ hg hr (by first | decide | omega) (takes_of rfl rfl rfl rfl) #[0] (au (dO #[4] #[5]) (au (fj pW pX #[2] (dM (au #[3] (au #[5] (aD))))) (aD))) (dU) (bh (bh (bB))) (bB)))))))
theorem Fl : FnScope U4 z8 (defScope nR) := nomatch 0
theorem a6n {n : Nat} {x : Str} {fa : Addr} {fd : FuncData} (T : Txt K mg w) (F : Fun K "statements_in" "statements_in" nR fa fd) (hm : mg x = some (.ref fa)) (KC : aK P w K mg base 1 "body_places" nM Bc uO) (Fo : aK P w K mg base (2 + n) "statements_in" nR z8 (qH (n))) : aK P w K mg base (2 + n + 1) x nR z8 (qH (n + 1)) := by
 refine ⟨fa, _, "statements_in", fd, F, hm, fn_ok F Fl fun cdv A outer s H E hg hr => ?_⟩
 unfold E8
 have hu1 := cO hr
 have hu0 := cY hr
 exact aZ #[1, Fl, Mj (j8 (aD))] <|
  aZ (mH (passes_of rfl) rfl (rK #[0]) #[2, Fl] (aZ (GO (i := 1) (pv 1) #[2]) <|
  aM (mH (passes_of rfl) rfl (rK #[1, KC, hg, hr, #[2]]) #[3, Fl] (aM (RY (i := 1) (pv 1) #[1, Fo, hg, hr, dO #[2] #[3]]))))) <|
  aM (cA #[1])
theorem KD : FnScope U5 E9 (defScope qY) := nomatch 0
theorem a6o {Ca fa : Addr} {fd : FuncData} {kws : List (Str × V)} (T : Txt K mg w) (hm : mg "Program" = some (.ref Ca)) (hc : Cls K Ca) (hM : Meth K Ca "all_statements" fa) (F : iY K "all_statements" "Program.all_statements" qY kws fa fd) (hk : kws.map (·.1) = ([] : List (Str × D)).map (·.1)) (hv : CD K (kws.map (·.2)) (([] : List (Str × D)).map (·.2))) (Fo : aK P w K mg base 62 "statements_in" nR z8 (qH 60)) : bU P w K mg base 63 "Program" "all_statements" qY E9 [] wR := by
 refine ⟨Ca, fa, _, "Program.all_statements", fd, kws, hm, hc, hM, F, hk, hv, fn_ok (mX F) KD fun cdv A outer s H E hg hr => ?_⟩
 unfold Jt
 have hu1 := cO hr
 have hu0 := cY hr
 exact aZ #[1, KD, #[1, Fo, hg, hr, fJ T.zJ T.zK #[0]]] <|
  aZ (yC (mH (passes_of rfl) rfl (a0k (fJ T.sV T.sW #[0])) #[2, KD] (aM (RY (i := 1) (pv 1) #[1, Fo, hg, hr, dO #[2] (aJ)])))) <|
  aM (cA #[1])
theorem uY : FnScope Ea Bg (defScope lZ) := nomatch 0
theorem a6p {Ca fa : Addr} {fd : FuncData} {kws : List (Str × V)} (T : Txt K mg w) (hm : mg "Program" = some (.ref Ca)) (hc : Cls K Ca) (hM : Meth K Ca "__init__" fa) (F : iY K "__init__" "Program.__init__" lZ kws fa fd) (hk : kws.map (·.1) = (lW : List (Str × D)).map (·.1)) (hv : CD K (kws.map (·.2)) ((lW : List (Str × D)).map (·.2))) (a6q : aK P w K mg base 3 "check_budgets" qN DP yW) (a6r : aK P w K mg base 3 "check_returnable" qO DQ yX) (a6s : aK P w K mg base 4 "check_procedures" qQ DU yZ) (a6t : bU P w K mg base 63 "Program" "all_statements" qY E9 [] wR) (Fj : bU P w K mg base 67 "Program" "check_body" nQ z7 [] (kI 60)) : bU P w K mg base 68 "Program" "__init__" lZ Bg lW jf := by
 refine ⟨Ca, fa, _, "Program.__init__", fd, kws, hm, hc, hM, F, hk, hv, fn_ok (mX F) uY fun cdv A outer s H E hg hr => ?_⟩
 unfold Ju
 have hu1 := cO hr
 have hu0 := cY hr
 exact aZ #[5, uY, Mr (gJ op_isN Yw #[4] (Mg)) (dJ (Nm)) #[4]] <|
  aZ (pQ #[1, a6q, hg, hr, #[1]]) <|
  aZ (pQ #[2, a6r, hg, hr, #[3], #[1]]) <|
  aZ (pQ #[1, a6s, hg, hr, #[5]]) <|
  aZ (AJ T.zL T.zM #[0] (dJ (Rg (own := [("name", 6)]) rfl uY.nd (rK (bK (Ip rfl) Rx T.Kg (by decide +kernel) (au #[1] (aD)))) (blkOk_by (N := Ea) (sc := defScope lZ) (by decide +kernel)) ⟨fun _ _ _ _ _ => pg_name (i := 6) uY.nd rfl nofun, vH, fun _ _ _ _ _ => tU pts_nil fun σ H Q h => tV h, fun _ _ _ _ _ => #[6], fun _ _ _ _ _ => yw hu0 #[1] #[6]⟩))) <|
  aZ (AJ T.zG T.zH #[0] (Xr call_tuple_of Z9 T.wX (by decide +kernel) (au (bK (a1X rfl) a2a T.Kg (by decide +kernel) (au #[3] (aD))) (aD)))) <|
  aZ (AJ T.sV T.sW #[0] (dJ (Rg (own := [("name", 6)]) rfl uY.nd (rK (bK (Ip rfl) Rx T.Kg (by decide +kernel) (au #[5] (aD)))) (blkOk_by (N := Ea) (sc := defScope lZ) (by decide +kernel)) ⟨fun _ _ _ _ _ => pg_name (i := 6) uY.nd rfl nofun, vH, fun _ _ _ _ _ => tU pts_nil fun σ H Q h => tV h, fun _ _ _ _ _ => #[6], fun _ _ _ _ _ => yw hu0 #[5] #[6]⟩))) <|
  aZ (AJ T.zJ T.zK #[0] #[2]) <|
  aZ (pQ (qw (T := [("Program", ⟨[0, 1, 2], [], (kI 60)⟩)]) (ks := []) (n := 2) (k := 67) ⟨MethAt.of0 Fj (by decide) #[0, [_, _, _], [], 0] #[1, [_, _, _], [], 1], trivial⟩ hg hr (by decide) (takes_of rfl rfl rfl rfl) #[0] (au #[2] (au (dM (au (aO) (aD))) (aD))) (dU) (bh (bh (bB))) (bB))) <|
  aZ (yC (mH (passes_of rfl) rfl (Dj (fJ T.sV T.sW #[0])) (rH (n := 2) rfl (gY #[6, uY] (gY #[7, uY] (rG))) (fM (fM (ou)))) (aM (pQ (qw (T := [("Program", ⟨[0, 1, 2], [], (kI 60)⟩)]) (ks := []) (n := 2) (k := 67) ⟨MethAt.of0 Fj (by decide) #[0, [_, _, _], [], 0] #[1, [_, _, _], [], 1], trivial⟩ hg hr (by decide) (takes_of rfl rfl rfl rfl) #[0] (au (dO #[7] (aJ)) (au (dM (au #[6] (aD))) (aD))) (dU) (bh (bh (bB))) (bB)))))) <|
  aM (AJ T.VM T.VN #[0] (a0B (T := [("Program", ⟨[0], [], wR⟩)]) (ks := []) (k := 63) ⟨MethAt.of0 a6t (by decide) #[0, [_], [], 0] #[1, [_], [], 1], trivial⟩ hg hr (by decide) (takes_of rfl rfl rfl rfl) #[0] (dU) (bB)))
theorem BJ : FnScope U6 a2J (defScope pG) := nomatch 0
theorem a6u {Ca fa : Addr} {fd : FuncData} {kws : List (Str × V)} (T : Txt K mg w) (hm : mg "Program" = some (.ref Ca)) (hc : Cls K Ca) (hM : Meth K Ca "with_amounts" fa) (F : iY K "with_amounts" "Program.with_amounts" pG kws fa fd) (hk : kws.map (·.1) = ([] : List (Str × D)).map (·.1)) (hv : CD K (kws.map (·.2)) (([] : List (Str × D)).map (·.2))) (Ks : aK P w K mg base 2 "is_amount" pB B6 kE) (Fp : bU P w K mg base 68 "Program" "__init__" lZ Bg lW jf) (a6v : bU P w K mg base 3 "Program" "require_budget" qM DM [] jK) : yU P w K mg base 70 "Program" "with_amounts" pG "amounts" fZ := by
 obtain ⟨ER, EV, EW, aV⟩ := T.BH
 refine ⟨Ca, fa, hm, hc, hM, a2w (mX F) BJ fun cdv A outer s H E hg hr => ?_⟩
 unfold Bh
 have hu1 := cO hr
 have hu0 := cY hr
 exact aZ (yC (mH (passes_of rfl) rfl (a0l #[1]) #[2, BJ] (aM (pQ (qw (T := [("Program", ⟨[0, 1], [], jK⟩)]) (ks := []) (n := 1) (k := 3) ⟨MethAt.of0 a6v (by decide) #[0, [_, _], [], 0] #[1, [_, _], [], 1], trivial⟩ hg hr (by decide) (takes_of rfl rfl rfl rfl) #[0] (au #[2] (aD)) (dU) (bh (bB)) (bB)))))) <|
  aZ (yC (mH (passes_of rfl) rfl (Dj #[1]) (rH (n := 2) rfl (gY #[2, BJ] (gY #[4, BJ] (rG))) (fM (fM (ou)))) (aM (fB (gK (gU #[1, Ks, hg, hr, #[4]])) (aM (rY rfl (takes_of rfl rfl rfl rfl) aV.o aV.i aV.t (sX T aV) hg hr (by decide) (ql aV.F (ps := ["self", "reason", "path"]) (n := 3) #[0, [_, _, _], [], 0] rfl) aV.m (au (aO) (au (dM (au #[2] (aD))) (aD))))) (fV))))) <|
  aZ #[3, BJ, dJ (a2s (fJ T.zL T.zM #[0]) #[1])] <|
  aM (a1S (cA (HY (ks := ["returnable", "procedures"]) (n := 2) (k := 68) (r := ⟨[0, 1, 2, 3, 4], (lW.map (·.2)), jf⟩) (yG.of T.Kl (MethAt.of1 (lk := []) Fp (by decide) (by decide) (fun _ _ _ _ _ _ _ _ us ws its hu hw hi => match us, ws, its, hu, hw, hi with | [_, _, _], [_, _], [_, _], _, _, _ => rfl) (fun vs zs ds hv hz hd => match vs, zs, ds, hv, hz, hd with | [_, _, _], [_, _], [_, _], _, _, _ => rfl))) hg hr (by decide) (takes_of rfl rfl rfl rfl) (au #[3] (au (fJ T.zJ T.zK #[0]) (aD))) (i9 (fJ T.zG T.zH #[0]) (i9 (fJ T.sV T.sW #[0]) (dU))) (bh (bh (bB))) (bh (bh (bB))))) (by exact rfl))
theorem zP : FnScope U7 Eb (defScope qZ) := nomatch 0
theorem a6w {x : Str} {fa : Addr} {fd : FuncData} (T : Txt K mg w) (F : Fun K "_law_told" "_law_told" qZ fa fd) (hm : mg x = some (.ref fa)) (uZ : yU P w K mg base 70 "Program" "with_amounts" pG "amounts" fZ) : aK P w K mg base 71 x qZ Eb kJ := by
 obtain ⟨b2v, EG, VS⟩ := T.EG
 obtain ⟨b2w, EH, VU⟩ := T.EH
 refine ⟨fa, _, "_law_told", fd, F, hm, fn_ok F zP fun cdv A outer s H E hg hr => ?_⟩
 unfold Bj
 have hu1 := cO hr
 have hu0 := cY hr
 exact aZ #[4, zP, dJ (j8 (au (aO) (aD)))] <|
  aZ (a1L (l := [(fun y => yV.lookup y, some 5, eG 4 (dZ (ao (mC (.str "unknown")) (ao (lJ jt 5 "value") (aq))))), (fun y => wL.lookup y, some 5, eG 4 (dZ (ao (mC (.str "invalid")) (ao (lJ jt 5 "reason") (ao (lJ jt 5 "path") (aq))))))]) rfl rfl (takes_of rfl rfl rfl rfl) (fun W1 pn xe tk hp => aM (fB (gJ (or_eq hu0) iK #[0] (aJ)) (aM (pQ (wH (ks := ["mem", "nobody", "other"]) (k := 70) uZ (fun _ _ _ _ _ _ _ _ _ ws h => match ws, h with | [_, _, _], _ => rfl) (by decide +kernel) hg hr (by decide) tk #[1] (i9 #[2] (i9 #[3] (i9 (aJ) (dU)))) (bh (bh (bh (bB)))) (by decide)))) (aM (fB (gJ (or_eq hu0) iK #[0] (aJ)) (aM (pQ (wH (ks := ["zip", "mem"]) (k := 70) uZ (fun _ _ _ _ _ _ _ _ _ ws h => match ws, h with | [_, _], _ => rfl) (by decide +kernel) hg hr (by decide) tk #[1] (i9 #[2] (i9 #[3] (dU))) (bh (bh (bB))) (by decide)))) (aM (pQ (wH (ks := ["steps"]) (k := 70) uZ (fun _ _ _ _ _ _ _ _ _ ws h => match ws, h with | [_], _ => rfl) (by decide +kernel) hg hr (by decide) tk #[1] (i9 #[3] (dU)) (bh (bB)) (by decide)))))))) (.cons ⟨rfl, by decide, .inl EH⟩ ⟨zP.nd, rfl, rfl⟩ (fun y b q Ca hc => uD.at (T.yV EH) q hc) (fun a oe pn => aM #[4, zP, dJ (j8 (au (aO) (au (HF T.xE T.a5m (pv 5)) (aD))))]) (.cons ⟨rfl, by decide, .inl EG⟩ ⟨zP.nd, rfl, rfl⟩ (fun y b q Ca hc => uD.at (T.wL EG) q hc) (fun a oe pn => aM #[4, zP, dJ (j8 (au (aO) (au (HF T.xE T.a5l (pv 5)) (au (HF T.xE T.a5k (pv 5)) (aD)))))]) (.nil)))) <|
  aM (cA #[4])
theorem VX : FnScope U8 Ec (defScope rA) := nomatch 0
theorem a6x {Ca fa : Addr} {fd : FuncData} {kws : List (Str × V)} (T : Txt K mg w) (hm : mg "Program" = some (.ref Ca)) (hc : Cls K Ca) (hM : Meth K Ca "__repr__" fa) (F : iY K "__repr__" "Program.__repr__" rA kws fa fd) (hk : kws.map (·.1) = ([] : List (Str × D)).map (·.1)) (hv : CD K (kws.map (·.2)) (([] : List (Str × D)).map (·.2))) : bU P w K mg base 1 "Program" "__repr__" rA Ec [] nj := by
 refine ⟨Ca, fa, _, "Program.__repr__", fd, kws, hm, hc, hM, F, hk, hv, fn_ok (mX F) VX fun cdv A outer s H E hg hr => ?_⟩
 unfold Jv
 have hu1 := cO hr
 have hu0 := cY hr
 exact aZ #[1, VX, Dh (.cons (aO) (.cons (yt hg hu1 (fJ T.zG T.zH #[0])) (.cons (aO) (.cons (yt hg hu1 (fJ T.sV T.sW #[0])) (qj.nil)))))] <|
  aM (cA (Dh (.cons (aO) (.cons (yt hg hu1 (fJ T.zL T.zM #[0])) (.cons (aO) (.cons (yt hg hu1 (fJ T.zJ T.zK #[0])) (.cons (aO) (.cons (Qs #[1]) (.cons (aO) (qj.nil))))))))))
theorem a6y : FnScope U9 Ed (defScope rB) := nomatch 0
theorem a6z {Ca fa : Addr} {fd : FuncData} {kws : List (Str × V)} (T : Txt K mg w) (hm : mg "Program" = some (.ref Ca)) (hc : Cls K Ca) (hM : Meth K Ca "__len__" fa) (F : iY K "__len__" "Program.__len__" rB kws fa fd) (hk : kws.map (·.1) = ([] : List (Str × D)).map (·.1)) (hv : CD K (kws.map (·.2)) (([] : List (Str × D)).map (·.2))) : bU P w K mg base 1 "Program" "__len__" rB Ed [] qI := by
 refine ⟨Ca, fa, _, "Program.__len__", fd, kws, hm, hc, hM, F, hk, hv, fn_ok (mX F) a6y fun cdv A outer s H E hg hr => ?_⟩
 unfold Jw
 have hu1 := cO hr
 have hu0 := cY hr
 exact aM (cA (bK lD lE T.kY (by decide +kernel) (au (fJ T.VM T.VN #[0]) (aD))))
theorem a6A : FnScope Ua Ef (defScope rC) := nomatch 0
theorem a6B {Ca fa : Addr} {fd : FuncData} {kws : List (Str × V)} (T : Txt K mg w) (hm : mg "Program" = some (.ref Ca)) (hc : Cls K Ca) (hM : Meth K Ca "__eq__" fa) (F : iY K "__eq__" "Program.__eq__" rC kws fa fd) (hk : kws.map (·.1) = ([] : List (Str × D)).map (·.1)) (hv : CD K (kws.map (·.2)) (([] : List (Str × D)).map (·.2))) : bU P w K mg base 1 "Program" "__eq__" rC Ef [] sO := by
 obtain ⟨b2x, Kh, KG⟩ := T.Kh
 refine ⟨Ca, fa, _, "Program.__eq__", fd, kws, hm, hc, hM, F, hk, hv, fn_ok (mX F) a6A fun cdv A outer s H E hg hr => ?_⟩
 unfold Ub
 have hu1 := cO hr
 have hu0 := cY hr
 exact aZ (fB (pO (jy (gK (gU (bK a0E (a0G T.iC T.iT T.iU) T.jg (by decide +kernel) (au #[1] (au (a02 Kh KG) (aD)))))) (jy (gJ (a1U hu0) a1V (fJ T.zL T.zM #[0]) (fJ T.zL T.zM #[1])) (pN (gJ (xW hu0) xX (fJ T.zJ T.zK #[0]) (fJ T.zJ T.zK #[1])))))) (aM (cA (pK))) (fV)) <|
  aM (cA (jj (j7 (or_eq hu0) iK (fJ T.zG T.zH #[0]) (fJ T.zG T.zH #[1])) (jA (j7 (a1h hu0) a1i (fJ T.sV T.sW #[0]) (fJ T.sV T.sW #[1])))))
theorem nA : FnScope Uc Eh (defScope rD) := nomatch 0
theorem a6C {x : Str} {fa : Addr} {fd : FuncData} (T : Txt K mg w) (F : Fun K "_law_right" "_law_right" rD fa fd) (hm : mg x = some (.ref fa)) (wZ : aK P w K mg base 1 "_law_draw" qL DL kh) (Ft : aK P w K mg base 71 "_law_told" qZ Eb kJ) (VY : bU P w K mg base 1 "Program" "__eq__" rC Ef [] sO) (Fp : bU P w K mg base 68 "Program" "__init__" lZ Bg lW jf) (a6D : bU P w K mg base 1 "Program" "__len__" rB Ed [] qI) (VZ : bU P w K mg base 1 "Program" "__repr__" rA Ec [] nj) (uZ : yU P w K mg base 70 "Program" "with_amounts" pG "amounts" fZ) : aK P w K mg base 72 x rD Eh uQ := by
 refine ⟨fa, _, "_law_right", fd, F, hm, fn_ok F nA fun cdv A outer s H E hg hr => ?_⟩
 unfold Jx
 have hu1 := cO hr
 have hu0 := cY hr
 exact aZ #[1, nA, dJ (As (ms := [((mC (.str "steps")), (bF kh [0, 1] (ao (ak 0) (ao (mC (.int 60)) (aq))) (aq))), ((mC (.str "mem")), (bF kh [0, 1] (ao (ak 0) (ao (mC (.int 30)) (aq))) (aq))), ((mC (.str "zip")), (mC (.int 0)))]) (pps_cons (aO) #[2, wZ, hg, hr, #[0], aJ] (pps_cons (aO) #[2, wZ, hg, hr, #[0], aJ] (pps_cons (aO) (aJ) (pps_nil)))))] <|
  aZ #[2, nA, dM (au (dO (dM (au (dM (au (aO) (au (aJ) (aD)))) (au (dM (au (aO) (au (aO) (au (aJ) (aD))))) (au (dM (au (aO) (au (aO) (au (aO) (aD))))) (aD))))) #[2, wZ, hg, hr, #[0], aJ]) (aD))] <|
  aZ (Mz (ps_set (i := 3) nA.nd rfl nofun (HY (ks := ["returnable", "procedures"]) (n := 2) (k := 68) (yG.of T.Kl (MethAt.of1 (idx := [0, 1, 2, 3, 4]) (lk := []) Fp (by decide) (by decide) (fun _ _ _ _ _ _ _ _ us ws its hu hw hi => match us, ws, its, hu, hw, hi with | [_, _, _], [_, _], [_, _], _, _, _ => rfl) (fun vs zs ds hv hz hd => match vs, zs, ds, hv, hz, hd with | [_, _, _], [_, _], [_, _], _, _, _ => rfl))) hg hr (by decide) (takes_of rfl rfl rfl rfl) (au #[1] (au #[2] (aD))) (i9 (dM (au (aO) (aD))) (i9 (dJ (As (ms := [((mC (.str "p")), (bY (ao (bY (aq)) (ao (ak 2) (ao (bY (aq)) (aq))))))]) (pps_cons (aO) (dM (au (dM (aD)) (au #[2] (au (dM (aD)) (aD))))) (pps_nil)))) (dU))) (bh (bh (bB))) (bh (bh (bB))))) (fun _ _ _ h => by exact h)) <|
  aZ (Zx (i := 9) (j := 10) (l := 11) rfl nA.nd rfl rfl rfl (by decide) (by decide) (by decide) rfl rfl rfl (au (Rf (T := [("Program", nj)]) (k := 1) ⟨uJ.of VZ (by decide) #[0, [_], [], 0], trivial⟩ hg hu1 hr (by decide) T.VG #[3] (by decide +kernel)) (au #[2, wZ, hg, hr, #[0], aJ] (au (dO (dJ (j8 (au (aJ) (au (fj op_pow CA (aJ) (aJ)) (au #[2, wZ, hg, hr, #[0], fj op_pow CA (aJ) (aJ)] (aD)))))) #[2, wZ, hg, hr, #[0], aJ]) (aD))))) <|
  aZ (MA (ps_set (i := 4) nA.nd rfl nofun (j8 (au (wH (ks := []) (k := 70) uZ (fun _ _ _ _ _ _ _ _ _ ws h => match ws, h with | [], _ => rfl) (by decide +kernel) hg hr (by decide) (takes_of rfl rfl rfl rfl) #[3] (dU) (bB) (by decide)) (au (wH (ks := ["mem"]) (k := 70) uZ (fun _ _ _ _ _ _ _ _ _ ws h => match ws, h with | [_], _ => rfl) (by decide +kernel) hg hr (by decide) (takes_of rfl rfl rfl rfl) #[3] (i9 #[10] (dU)) (bh (bB)) (by decide)) (au (wH (ks := ["zip", "steps", "mem"]) (k := 70) uZ (fun _ _ _ _ _ _ _ _ _ ws h => match ws, h with | [_, _, _], _ => rfl) (by decide +kernel) hg hr (by decide) (takes_of rfl rfl rfl rfl) #[3] (i9 #[11] (i9 #[10] (i9 #[11] (dU)))) (bh (bh (bh (bB)))) (by decide)) (aD)))))) (fun _ _ _ h => h)) <|
  aZ (GO (i := 4) (pv 4) (wH (ks := ["steps", "mem", "zip"]) (k := 70) uZ (fun _ _ _ _ _ _ _ _ _ ws h => match ws, h with | [_, _, _], _ => rfl) (by decide +kernel) hg hr (by decide) (takes_of rfl rfl rfl rfl) (Xn (dO #[4] (aJ))) (i9 (yw hu0 #[1] (aO)) (i9 (yw hu0 #[1] (aO)) (i9 (aJ) (dU)))) (bh (bh (bh (bB)))) (by decide))) <|
  aZ #[5, nA, dJ (j8 (au #[1] (au (dJ (As (ms := [((mC (.str "steps")), (aC iW (ak 1) (mC (.str "steps")))), ((mC (.str "mem")), (ak 10)), ((mC (.str "zip")), (mC (.int 0)))]) (pps_cons (aO) (yw hu0 #[1] (aO)) (pps_cons (aO) #[10] (pps_cons (aO) (aJ) (pps_nil)))))) (au (dJ (As (ms := [((mC (.str "steps")), (ak 10)), ((mC (.str "mem")), (ak 11)), ((mC (.str "zip")), (ak 11))]) (pps_cons (aO) #[10] (pps_cons (aO) #[11] (pps_cons (aO) #[11] (pps_nil)))))) (au #[1] (aD))))))] <|
  aZ (MB (mH (passes_of rfl) rfl (NZ T.VH (au #[4] (au #[5] (aD)))) (rH (n := 2) rfl (gY #[12, nA] (gY #[8, nA] (rG))) (fM (fM (ou)))) (aM (fB (pO (jy (a0M (T := [("Program", sO)]) (k := 1) ⟨wA.of VY (by decide) T.VL T.EJ #[0, [_, _], [], 0], trivial⟩ hg hr (by decide) #[12] (HY (ks := ["returnable", "procedures"]) (n := 2) (k := 68) (yG.of T.Kl (MethAt.of1 (idx := [0, 1, 2, 3, 4]) (lk := []) Fp (by decide) (by decide) (fun _ _ _ _ _ _ _ _ us ws its hu hw hi => match us, ws, its, hu, hw, hi with | [_, _, _], [_, _], [_, _], _, _, _ => rfl) (fun vs zs ds hv hz hd => match vs, zs, ds, hv, hz, hd with | [_, _, _], [_, _], [_, _], _, _, _ => rfl))) hg hr (by decide) (takes_of rfl rfl rfl rfl) (au #[8] (au #[2] (aD))) (i9 (dM (au (aO) (aD))) (i9 (dJ (As (ms := [((mC (.str "p")), (bY (ao (bY (aq)) (ao (ak 2) (ao (bY (aq)) (aq))))))]) (pps_cons (aO) (dM (au (dM (aD)) (au #[2] (au (dM (aD)) (aD))))) (pps_nil)))) (dU))) (bh (bh (bB))) (bh (bh (bB))))) (pN (gJ (xW hu0) xX (a0S (T := [("Program", qI)]) (k := 1) ⟨uJ.of a6D (by decide) #[0, [_], [], 0], trivial⟩ hg hr (by decide) T.kY #[12] (by decide +kernel)) (aJ))))) (aM (cA (pK))) (fV))))) <|
  aZ #[6, nA, dO (dJ (j8 (au (Mg) (au (Mh un_neg MP (aJ)) (au (pK) (au (pK) (au (aO) (au (aO) (au (fj pW pX (fj op_pow CA (aJ) (aJ)) (aJ)) (au (dM (aD)) (au (dJ (j8 (aD))) (au (dJ (Nm)) (aD))))))))))))) #[2, wZ, hg, hr, #[0], aJ]] <|
  aZ (MA (ps_set (i := 7) nA.nd rfl nofun (j8 (au #[4, Ft, hg, hr, aJ, #[3], #[6], #[6]] (au #[4, Ft, hg, hr, aJ, #[3], #[10], #[6]] (au #[4, Ft, hg, hr, aJ, #[3], aJ, #[6]] (aD)))))) (fun _ _ _ h => h)) <|
  aZ (GO (i := 7) (pv 7) #[4, Ft, hg, hr, aJ, #[3], #[6], #[6]]) <|
  aZ #[8, nA, dJ (j8 (au (dJ (j8 (au (aO) (au (aO) (aD))))) (au (dJ (j8 (au (aO) (au (aO) (au (dM (au (aO) (aD))) (aD)))))) (au (dJ (j8 (au (aO) (au (aO) (au (dM (au (aO) (aD))) (aD)))))) (aD)))))] <|
  aZ (fB (Xo (gJ (xW hu0) xX #[7] (fj pW pX #[8] (dJ (j8 (au (dJ (j8 (au (aO) (au (aO) (au (dM (au (aO) (aD))) (aD)))))) (aD))))))) (aM (cA (pK))) (fV)) <|
  aM (MB (cA (jj (j7 (or_eq hu0) iK (Rf (T := [("Program", nj)]) (k := 1) ⟨uJ.of VZ (by decide) #[0, [_], [], 0], trivial⟩ hg hu1 hr (by decide) T.VG #[3] (by decide +kernel)) #[9]) (jj (j7 (or_eq hu0) iK (a2E T.EK) (aO)) (jj (j7 (or_eq hu0) iK (a2F T.EK #[3]) (aO)) (jA (a0L (T := [("Program", sO)]) (k := 1) ⟨wA.of VY (by decide) T.VL T.EJ #[0, [_, _], [], 0], trivial⟩ hg hr (by decide) (dO #[4] (aJ)) #[3])))))))
theorem KH : FnScope Jy Ei (defScope m7) := nomatch 0
theorem a6E {x : Str} {fa : Addr} {fd : FuncData} (T : Txt K mg w) (F : Fun K "law" "law" m7 fa fd) (hm : mg x = some (.ref fa)) (a6F : aK P w K mg base 1 "_law_rng" qK DJ DK) (a6G : aK P w K mg base 72 "_law_right" rD Eh uQ) : aK P w K mg base 73 x m7 Ei uR := by
 refine ⟨fa, _, "law", fd, F, hm, fn_ok F KH fun cdv A outer s H E hg hr => ?_⟩
 unfold Jz
 have hu1 := cO hr
 have hu0 := cY hr
 exact aM (cA (bK (cr_all rfl) Aj T.BF (by decide +kernel) (au (dJ (vI (own := [("_law_k", 1)]) rfl KH.nd (YW T.a4Z (au (bK (call_max2 rfl) MV T.VF (by decide +kernel) (au (aJ) (au (bK (call_min2 rfl) YD T.a4Y (by decide +kernel) (au (aJ) (au (bK lD lE T.kY (by decide +kernel) (au #[0] (aD))) (aD)))) (aD)))) (aD))) (blkOk_by (N := Jy) (sc := defScope m7) (by decide +kernel)) ⟨fun _ _ _ _ _ => pg_name (i := 1) KH.nd rfl nofun, vH, fun _ _ _ _ _ => tU pts_nil fun σ H Q h => tV h, fun _ _ _ _ _ => vJ (ks := []) (idx := [0]) (n := 1) a6G hg hr (by decide) takes0 #[0, [_], [], 0] (au (vJ (ks := []) (idx := [0, 1]) (n := 2) a6F hg hr (by decide) takes0 #[0, [_, _], [], 0] (au #[0] (au #[1] (aD))) (dU) (bh (bh (bB))) (bB) #[1, [_, _], [], 1]) (aD)) (dU) (bh (bB)) (bB) #[1, [_], [], 1]⟩)) (aD))))
end
end aH
namespace aH
open PySem PySem.Spec PyProof.Rows L2 Mi Rc Rd Pg Dp
theorem e_init : aH.jf = aH.jf := rfl
theorem W4 : aH.nj = aH.nj := rfl
theorem e_len : aH.qI = aH.qI := rfl
theorem e_eq : aH.sO = JU DI iT iU := rfl
theorem W6 : aH.jK = aH.jK := rfl
theorem a6H : aH.kE = aH.kE := rfl
abbrev B3 (s m z : Int) : Am := [("steps", s), ("mem", m), ("zip", z)]
abbrev C3 (s m z : Int) : Am := [("mem", m), ("steps", s), ("zip", z)]
theorem a6I {s m z : Int} : srt (B3 s m z) = C3 s m z := by kernel_rfl
theorem a6J {s m z : Int} : srt (C3 s m z) = C3 s m z := by kernel_rfl
def KI : Nat → D
 | 0 => .tup [.str "out", .int 1]
 | 1 => .tup [.str "use", .str "zip", .int 2]
 | _ => .tup [.str "rest", .str "x", .str "mem"]
def eU (i : Nat) : D := .tup [KI i]
def v5 (i : Nat) : List (Str × D) := [("p", .tup [.tup [], eU i, .tup []])]
def P3 (am : Am) (i : Nat) : Pr := ⟨am, ["mem"], v5 i, eU i⟩
/-- a list of W7 bR a program of the three can have -/
def BK (am : Am) (s m z : Int) : Prop := am = B3 s m z ∨ am = C3 s m z
def tD (s m z : Int) : Prop := (0 ≤ s ∧ s ≤ 1000000000000) ∧ (0 ≤ m ∧ m ≤ 1000000000000) ∧ 0 ≤ z ∧ z ≤ 1000000000000
def iG (s m z : Int) (i : Nat) : Pg.Ctx := ⟨C3 s m z, ["mem"], v5 i⟩
theorem W8 {i : Nat} : cG (v5 i) = v5 i := a4q
theorem ctx_eq {am : Am} {s m z : Int} {i : Nat} (h : BK am s m z) : (P3 am i).c = iG s m z i := by
 show (⟨srt am, dG ["mem"], cG (v5 i)⟩ : Pg.Ctx) = _
 rw [W8, sort_1]
 rcases h with rfl | rfl
 ·rw [a6I]; rfl
 ·rw [a6J]; rfl
section
variable {am : Am} {s m z : Int} {i k : Nat}
theorem W9 {c : Pg.Ctx} {s : D} {M : Nat} (h : sU c k M s) : ju c k M [s] := by
 have := ju.nil.snoc h (by show 0 < 1000; decide)
 rw [Nat.zero_add] at this
 exact this
theorem Wb : cD "steps" := oX.mp (by decide +kernel)
theorem zQ : cD "mem" := oX.mp (by decide +kernel)
theorem Fv : cD "zip" := oX.mp (by decide +kernel)
theorem Wc : cD "x" := oX.mp (by decide +kernel)
theorem n_p : cD "p" := oX.mp (by decide +kernel)
theorem Wf {z : Int} (h : z.natAbs < 10 ^ 60) : P1 (.int z) := ⟨.int z, by simp only [aR]; exact h, trivial, Nat.zero_le _⟩
theorem Wg (h : BK am s m z) : hasB (c0 (P3 am i)) (.str "zip") = true ∧ hasB (c0 (P3 am i)) (.str "mem") = true := by
 rcases h with rfl | rfl
 ·exact ⟨by kernel_rfl, by kernel_rfl⟩
 ·exact ⟨by kernel_rfl, by kernel_rfl⟩
theorem st3 {c : Pg.Ctx} (h : hasB c (.str "zip") = true ∧ hasB c (.str "mem") = true) : sU c k 1 (KI i) := by
 match i with
 | 0 =>
  show sU c k 1 (.tup [.str "out", .int 1])
  refine .K7 ?_ ?_ a4o (by rw [a4D]; simp)
  ·rw [a4m]; decide +kernel
  ·refine JY (fun x hx => ?_) (by simp) ?_
   ·simp only [List.mem_cons, List.not_mem_nil, or_false] at hx
    rcases hx with rfl | rfl
    ·exact K9 "out" (by simp)
    ·exact Wf (by decide)
   ·have e1 := (EE "out" (by simp)).1
    simp only [eO, bT]; omega
 | 1 =>
  show sU c k 1 (.tup [.str "use", .str "zip", .int 2])
  refine .K7 ?_ ?_ a4p (by rw [a4E]; simp)
  ·rw [a4n, h.1]; decide +kernel
  ·refine JY (fun x hx => ?_) (by simp) ?_
   ·simp only [List.mem_cons, List.not_mem_nil, or_false] at hx
    rcases hx with rfl | rfl | rfl
    ·exact K9 "use" (by simp)
    ·exact JZ Fv
    ·exact Wf (by decide)
   ·have e1 := (EE "use" (by simp)).1
    have e2 := Fv.2.1
    simp only [eO, bT]; omega
 | i + 2 =>
  show sU c k 1 (.tup [.str "rest", .str "x", .str "mem"])
  refine .K7 ?_ ?_ a4C (by rw [a4F]; simp)
  ·rw [a4A, h.2]; decide +kernel
  ·refine JY (fun x hx => ?_) (by simp) ?_
   ·simp only [List.mem_cons, List.not_mem_nil, or_false] at hx
    rcases hx with rfl | rfl | rfl
    ·exact K9 "rest" (by simp)
    ·exact JZ Wc
    ·exact JZ zQ
   ·have e1 := (EE "rest" (by simp)).1
    have e2 := Wc.2.1
    have e3 := zQ.2.1
    simp only [eO, bT]; omega
theorem a6L (h : BK am s m z) (o : tD s m z) : By am where
 nd := by
  rcases h with rfl | rfl
  ·show (["steps", "mem", "zip"] : List Str).Nodup; decide +kernel
  ·show (["mem", "steps", "zip"] : List Str).Nodup; decide +kernel
 len := by rcases h with rfl | rfl <;> simp
 nm := fun q hq => by
  obtain ⟨⟨a1, a2⟩, ⟨b1, b2⟩, c1, c2⟩ := o
  rcases h with rfl | rfl <;> (simp only [List.mem_cons, List.not_mem_nil, or_false] at hq; rcases hq with rfl | rfl | rfl <;> exact ⟨by kernel_rfl, by assumption, by assumption⟩)
 st := by rcases h with rfl | rfl <;> kernel_rfl
theorem good3 (h : BK am s m z) (o : tD s m z) : Good (P3 am i) where
 am := a6L h o
 al := by rcases h with rfl | rfl <;> (show 3 ≤ 10; decide)
 bk := ⟨List.nodup_cons.mpr ⟨nofun, List.nodup_nil⟩, by show 1 ≤ 60; decide, fun x hx => by
  rw [List.mem_singleton.mp hx]
  exact ⟨by decide +kernel, by rcases h with rfl | rfl <;> kernel_rfl, zQ.chars⟩⟩
 bl := by show 1 ≤ 10; decide
 rt := ⟨List.nodup_cons.mpr ⟨nofun, List.nodup_nil⟩, by show 1 ≤ 5; decide, fun q hq => by
  rw [List.mem_singleton.mp hq]
  exact ⟨n_p, [], [], eU i, rfl, by simp, by simp, List.nodup_nil, List.nodup_nil, nofun, nofun⟩⟩
 body := ⟨2, 1, _, by decide, by decide, rfl, W9 (st3 (Wg h))⟩
 rb := fun q hq => by
  rw [List.mem_singleton.mp hq]
  exact ⟨1, _, by decide, rfl, W9 (st3 (Wg h))⟩
theorem a6M {c : Pg.Ctx} {b : D} (f : Fine c b) (h2 : bT b ≤ 1000) (h3 : jW (kq c.rt) ≤ 1000) (h4 : bT (.tup (c.back.map D.str)) ≤ 1000) : ∃ ra rb rg rr, Rp c b ra rb rg rr ∧ ra.length + rb.length + rg.length + rr.length ≤ 16000000 := by
 obtain ⟨a1, a2, a3⟩ := Ur f.nm f.sz
 have al := f.al
 obtain ⟨ra, p1, p2, p3⟩ := DE (d := .dct (kd c.am)) (by simpa only [aR] using a1) (by simp only [bT]; omega) (by simp only [bJ]; omega)
 obtain ⟨rb, q1, q2, q3⟩ := DE f.b.ok (by omega) (by have := f.b.dp; omega)
 obtain ⟨rg, g1, g2, g3⟩ := DE f.bk.ok (by omega) (by have := f.bk.dp; omega)
 obtain ⟨rr, r1, r2, r3⟩ := DE (d := .dct (kq c.rt)) (by simpa only [aR] using f.rk.1) (by simp only [bT]; omega) (by simp only [bJ]; have := f.rk.2.2; omega)
 simp only [bT] at p2 r2
 exact ⟨ra, rb, rg, rr, ⟨fun S => (p3 S).1, fun S => (q3 S).1, fun S => (g3 S).1, fun S => (r3 S).1, p1, q1, g1, r1, by omega, by omega, by omega, by omega⟩, by omega⟩
theorem KJ : bT (eU i) ≤ 1000 ∧ jW (kq (v5 i)) ≤ 1000 ∧ bT (.tup ((["mem"] : List Str).map D.str)) ≤ 1000 := by
 match i with
 | 0 => exact ⟨by decide +kernel, by decide +kernel, by decide +kernel⟩
 | 1 => exact ⟨by decide +kernel, by decide +kernel, by decide +kernel⟩
 | i + 2 =>
  refine ⟨?_, ?_, by decide +kernel⟩
  ·show bT (eU 2) ≤ 1000; decide +kernel
  ·show jW (kq (v5 2)) ≤ 1000; decide +kernel
theorem BL (o : tD s m z) : Fine (iG s m z i) (eU i) := by
 have g := good3 (am := C3 s m z) (i := i) (.inr rfl) o
 have := g.fine (by show 1 ≤ 3; decide)
 rw [ctx_eq (.inr rfl)] at this
 exact this
theorem rp3 (o : tD s m z) : ∃ ra rb rg rr, Rp (iG s m z i) (eU i) ra rb rg rr ∧ ra.length + rb.length + rg.length + rr.length ≤ 16000000 := a6M (BL o) (KJ (i := i)).1 (KJ (i := i)).2.1 (KJ (i := i)).2.2
theorem eq3 (o : tD s m z) : BD (iG s m z i) (eU i) (iG s m z i) (eU i) = true := by
 have g := good3 (am := C3 s m z) (i := i) (.inr rfl) o
 have := g.a4S (by show 1 ≤ 3; decide)
 rw [ctx_eq (.inr rfl)] at this
 exact this
end
section
variable {S : Store} {n i : Nat} {c : Pg.Ctx} {b d : D} {t : Option D} {s m z s' m' z' : Int} {Q : D → Store → Prop} {E : bD → Store → Prop} {kvs : List (Str × D)} {ρ : aF} {N : aF → Store → Prop} {p : Po}
/-- what b2y answers -/
def oY (d : D) (k : Bool) : Prop := ∀ S : Store, kE [d] S = .ok (.bl k) S
theorem Fw {j : Nat} {xs : List (Key × D)} {B : SX} (hr : ρ[j]? = some (.sh (.dct xs))) (h : (B ρ S).al N p) : (lK (ak j) B ρ S).al N p := by
 have hmv : ak j ρ S = .ok (.dct xs) S := by unfold ak; rw [hr]
 rw [Ds]
 have : je (ak j) ρ S = none := by unfold je; rw [hmv]
 rw [this]
 exact h
theorem a6O {x : Str} (h : d7 S n c b t) (hz : PD (.str x)) (hth : Th (.str x)) (hh : (look c.am x).isSome = false) (q : E ⟨"UnknownBudget", [("value", .str x)]⟩ S) : (aH.jK [.ref n, .str x] S).al Q E := by
 unfold aH.jK aH.DN
 simp! [qD, dW h, Prod.mk.injEq, Em, has_eq h hz, hasB, hh, QE]
 exact ⟨a07 (x := "unknown budget: ") hth (by decide +kernel), q⟩
theorem Wh {j : Nat} {x : D} (hx : (oH (kq kvs))[j]? = some x) : ∃ q, kvs[j]? = some q ∧ x = .str q.1 := by
 unfold oH kq at hx
 rw [List.getElem?_map, List.getElem?_map] at hx
 cases e : kvs[j]? with
 | none => rw [e] at hx; cases hx
 | some q => rw [e] at hx; cases hx; exact ⟨q, rfl, rfl⟩
theorem Wi {j : Nat} {x : D} (hx : (jG (kq kvs))[j]? = some x) : ∃ q, kvs[j]? = some q ∧ x = .tup [.str q.1, q.2] := by
 unfold jG kq at hx
 rw [List.getElem?_map, List.getElem?_map] at hx
 cases e : kvs[j]? with
 | none => rw [e] at hx; cases hx
 | some q => rw [e] at hx; cases hx; exact ⟨q, rfl, rfl⟩
theorem a6P : (oH (kq kvs)).length = kvs.length := by unfold oH kq; rw [List.length_map, List.length_map]
theorem a6Q : (jG (kq kvs)).length = kvs.length := by unfold jG kq; rw [List.length_map, List.length_map]
/-- up to the first key bR is no budget -/
theorem a6R {j : Nat} {x : Str} (h : d7 S n c b t) (hk : ∀ q ∈ kvs, PD (.str q.1) ∧ Th (.str q.1)) (ej : kvs[j]? = some (x, d)) (hj : (look c.am x).isSome = false) (hb : ∀ (i : Nat) (q : Str × D), i < j → kvs[i]? = some q → (look c.am q.1).isSome = true)
  (q : E ⟨"UnknownBudget", [("value", .str x)]⟩ S) : (fZ [.ref n, .dct (kq kvs)] S).al Q E := by
 unfold fZ Bh
 generalize xg : jK = BO
 generalize ham : kE = fam
 generalize hpi : jf = KN
 rw [we]
 refine iV (fun ρ U => False) ?_ fun _ _ z => z.elim
 refine Fw rfl ?_
 have sq : HU S (.dct (kq kvs)) = some (oH (kq kvs)) := rfl
 simp! [QK, sq]
 refine jV (fun i ρ U => S = U ∧ i ≤ j ∧ ∃ x2, ρ = [.sh (.ref n), .sh (.dct (kq kvs)), x2, .un, .un]) ⟨rfl, Nat.zero_le _, _, rfl⟩ ?_ ?_
 ·rintro i e ρ _ hx ⟨rfl, hij, x2, rfl⟩
  obtain ⟨⟨y, v⟩, eq, rfl⟩ := Wh hx
  obtain ⟨p1, p2⟩ := hk _ (List.mem_of_getElem? eq)
  refine ⟨_, rfl, ?_⟩
  simp! [qD, dW h, Prod.mk.injEq]
  refine ⟨Uv, ?_⟩
  rw [← xg, W6]
  by_cases hl : i < j
  ·refine Vb h p1 (hb i _ hl eq) ?_
   exact ⟨rfl, hl, _, rfl⟩
  ·have : i = j := by omega
   subst this
   rw [ej] at eq
   cases eq
   exact a6O h p1 p2 hj q
 ·rintro ρ _ ⟨rfl, hij, _⟩
  rw [a6P] at hij
  have := (List.getElem?_eq_some_iff.mp ej).1
  omega
/-- all keys are EC -/
theorem Wj {N : aF → Store → Prop} {BO : FX} (xg : jK = BO) (h : d7 S n c b t) (hk : ∀ q ∈ kvs, PD (.str q.1) ∧ Th (.str q.1)) (hb : ∀ q ∈ kvs, (look c.am q.1).isSome = true)
  (q : ∀ x2, N [.sh (.ref n), .sh (.dct (kq kvs)), x2, .un, .un] S) :
  (lK (ak 1) (gW (yx (ak 1)) (aX 2) (jB (fY [("Program", ⟨[0, 1], [], BO⟩)] "require_budget" (ak 0) (ao (ak 2) (aq)) (aq)))) [.sh (.ref n), .sh (.dct (kq kvs)), .un, .un, .un] S).al N p := by
 refine Fw rfl ?_
 have sq : HU S (.dct (kq kvs)) = some (oH (kq kvs)) := rfl
 simp! [QK, sq]
 refine jV (fun i ρ U => S = U ∧ ∃ x2, ρ = [.sh (.ref n), .sh (.dct (kq kvs)), x2, .un, .un]) ⟨rfl, _, rfl⟩ ?_ ?_
 ·rintro i e ρ _ hx ⟨rfl, x2, rfl⟩
  obtain ⟨⟨y, v⟩, eq, rfl⟩ := Wh hx
  obtain ⟨p1, p2⟩ := hk _ (List.mem_of_getElem? eq)
  refine ⟨_, rfl, ?_⟩
  simp! [qD, dW h, Prod.mk.injEq]
  refine ⟨Uv, ?_⟩
  rw [← xg, W6]
  refine Vb h p1 (hb _ (List.mem_of_getElem? eq)) ?_
  exact ⟨rfl, _, rfl⟩
 ·rintro ρ _ ⟨rfl, x2, rfl⟩
  exact q x2
theorem KO {j : Nat} {x : Str} (h : d7 S n c b t) (hk : ∀ q ∈ kvs, PD (.str q.1) ∧ Th (.str q.1)) (hb : ∀ q ∈ kvs, (look c.am q.1).isSome = true) (ej : kvs[j]? = some (x, d)) (hj : oY d false) (ha : ∀ (i : Nat) (q : Str × D), i < j → kvs[i]? = some q → oY q.2 true)
  (hm : ∃ d S', mZ [.un, .sh (.str "budget"), .sh (.tup [.str x])] S = .ok d S')
  (q : E ⟨"InvalidProgram", [("reason", .str "budget"), ("path", .tup [.str x])]⟩ S) : (fZ [.ref n, .dct (kq kvs)] S).al Q E := by
 unfold fZ Bh
 generalize xg : jK = BO
 generalize ham : kE = fam
 generalize hpi : jf = KN
 rw [we]
 refine iV (fun ρ U => S = U ∧ ∃ x2, ρ = [.sh (.ref n), .sh (.dct (kq kvs)), x2, .un, .un]) (Wj xg h hk hb fun x2 => ⟨rfl, _, rfl⟩) ?_
 rintro _ _ ⟨rfl, x2, rfl⟩
 refine iV (fun ρ U => False) ?_ fun _ _ z => z.elim
 refine Fw rfl ?_
 have vf : iz S (.dct (kq kvs)) = some (kq kvs) := rfl
 simp! [AI, vf]
 refine jV (fun i ρ U => S = U ∧ i ≤ j ∧ ∃ x2 x4, ρ = [.sh (.ref n), .sh (.dct (kq kvs)), x2, .un, x4]) ⟨rfl, Nat.zero_le _, _, _, rfl⟩ ?_ ?_
 ·rintro i e ρ _ hx ⟨rfl, hij, x2, x4, rfl⟩
  obtain ⟨⟨y, v⟩, eq, rfl⟩ := Wi hx
  have gu : fU (bL (aX 2) (bL (aX 4) gq)) (.tup [.str y, v]) [.sh (.ref n), .sh (.dct (kq kvs)), x2, .un, x4] S = some ([.sh (.ref n), .sh (.dct (kq kvs)), .sh (.str y), .un, .sh v], S) := rfl
  refine ⟨_, gu, ?_⟩
  by_cases hl : i < j
  ·have am : fam [v] S = .ok (.bl true) S := by rw [← ham]; exact ha i _ hl eq S
   simp! [am]
   exact ⟨hl, _, _, rfl⟩
  ·have : i = j := by omega
   subst this
   rw [ej] at eq
   cases eq
   have am : fam [d] S = .ok (.bl false) S := by rw [← ham]; exact hj S
   simp! [am, QE]
   exact ⟨hm, q⟩
 ·rintro ρ _ ⟨rfl, hij, _⟩
  rw [a6Q] at hij
  have := (List.getElem?_eq_some_iff.mp ej).1
  omega
theorem a6S (h : d7 S n (iG s m z i) (eU i) t) (hk : ∀ q ∈ kvs, PD (.str q.1) ∧ Th (.str q.1)) (hb : ∀ q ∈ kvs, (look (C3 s m z) q.1).isSome = true) (hp : ∀ q ∈ kvs, oY q.2 true) (hl : kvs.length ≤ 1000)
  (hg : pZ (pZ [] (kd (C3 s m z))) (kq kvs) = kd (C3 s' m' z')) (ho : tD s' m' z')
  (q : ∀ xs T, xs.length = total (P3 (C3 s' m' z') i) → Q (.ref S.length) (S ++ (.ins "Program" (dH (iG s' m' z' i) (eU i) (some (.ref (S.length + 1)))) :: .lst xs :: T))) : (fZ [.ref n, .dct (kq kvs)] S).al Q E := by
 unfold fZ Bh
 generalize xg : jK = BO
 generalize ham : kE = fam
 generalize hpi : jf = KN
 rw [we]
 refine iV (fun ρ U => S = U ∧ ∃ x2, ρ = [.sh (.ref n), .sh (.dct (kq kvs)), x2, .un, .un]) (Wj xg h hk hb fun x2 => ⟨rfl, _, rfl⟩) ?_
 rintro _ _ ⟨rfl, x2, rfl⟩
 refine iV (fun ρ U => S = U ∧ ∃ x2 x4, ρ = [.sh (.ref n), .sh (.dct (kq kvs)), x2, .un, x4]) ?_ ?_
 ·refine Fw rfl ?_
  have vf : iz S (.dct (kq kvs)) = some (kq kvs) := rfl
  simp! [AI, vf]
  refine jV (fun i ρ U => S = U ∧ ∃ x2 x4, ρ = [.sh (.ref n), .sh (.dct (kq kvs)), x2, .un, x4]) ⟨rfl, _, _, rfl⟩ ?_ ?_
  ·rintro i e ρ _ hx ⟨rfl, x2, x4, rfl⟩
   obtain ⟨⟨y, v⟩, eq, rfl⟩ := Wi hx
   have gu : fU (bL (aX 2) (bL (aX 4) gq)) (.tup [.str y, v]) [.sh (.ref n), .sh (.dct (kq kvs)), x2, .un, x4] S = some ([.sh (.ref n), .sh (.dct (kq kvs)), .sh (.str y), .un, .sh v], S) := rfl
   refine ⟨_, gu, ?_⟩
   have am : fam [v] S = .ok (.bl true) S := by rw [← ham]; exact hp _ (List.mem_of_getElem? eq) S
   simp! [am]
   exact ⟨_, _, rfl⟩
  ·rintro ρ _ ⟨rfl, x2, x4, rfl⟩
   exact ⟨rfl, _, _, rfl⟩
 rintro _ _ ⟨rfl, x2, x4, rfl⟩
 simp! [a2C, oM, Ir, lW]
 have vk : aU S (.dct (kd (iG s m z i).am)) = some (kd (C3 s m z)) := rfl
 refine ⟨_, Bu h, _, vk, by show 3 ≤ 1000; decide, _, rfl, by unfold kq; rw [List.length_map]; exact hl, _, Bv h, _, f_back h, _, uV h, ?_⟩
 rw [hg, ← hpi, e_init]
 have g := good3 (am := C3 s' m' z') (i := i) (.inr rfl) ho
 refine JV (p := P3 (C3 s' m' z') i) g.right rfl (.inr ⟨rfl, nofun⟩) fun T xs hx => ⟨rfl, ?_⟩
 have := q xs T hx
 rw [ctx_eq (.inr rfl)]
 exact this
end
section
variable {S : Store} {n i : Nat} {c : Pg.Ctx} {b d : D} {t : Option D} {s m z : Int} {Q : D → Store → Prop} {E : bD → Store → Prop} {ρ : aF} {N : aF → Store → Prop} {po : Po}
theorem KP {r : SR} {e : bD} (h : r.al (fun _ _ => False) ⟨fun _ _ => False, fun x S' => x = e ∧ S' = S, fun _ _ => False, fun _ _ => False, fun _ ρ' _ => ρ' = ρ⟩) : r = .exc e ρ S := by
 cases r with
 | exc x ρ' S' =>
  obtain ⟨⟨rfl, rfl⟩, rfl⟩ : (x = e ∧ S' = S) ∧ ρ' = ρ := h
  rfl
 | nx ρ' S' => exact h.elim
 | rt d S' => exact h.elim
 | bk ρ' S' => exact h.elim
 | ct ρ' S' => exact h.elim
 | stuck => exact h.elim
theorem a6T {r : SR} {i : Nat} (h : r.al (fun ρ2 S2 => bZ (ρ2.set i .un) = true ∧ N (ρ2.set i .un) S2) ⟨po.T, fun _ _ => False, fun _ _ => False, fun _ _ => False, fun _ _ _ => False⟩) : (r.wg i).al N po := by
 cases r with
 | nx ρ2 S2 => obtain ⟨h1, h2⟩ := h; simp only [SR.wg]; rw [if_pos h1]; exact h2
 | rt d S2 => exact h
 | bk ρ2 S2 => exact h.elim
 | ct ρ2 S2 => exact h.elim
 | exc e ρ2 S2 => exact h.1.elim
 | stuck => exact h
theorem KQ {cs : List Cl} {body : SX} {e : bD} (h0 : bZ ρ = true) (hb : body ρ S = .exc e ρ S) (h : (oO cs e ρ S).al N po) : (AW cs body ρ S).al N po := by
 unfold AW
 rw [if_pos h0, hb]
 simp only [SR.chk]
 rw [if_pos h0]
 exact h
theorem Wk {g : Str → Option Bool} {i : Nat} {u : SX} {r : List Cl} {e : bD} (hg : g e.cls = some true) (hi : i < ρ.length) (h : (u (ρ.set i (.ex e)) S).al (fun ρ2 S2 => bZ (ρ2.set i .un) = true ∧ N (ρ2.set i .un) S2) ⟨po.T, fun _ _ => False, fun _ _ => False, fun _ _ => False, fun _ _ _ => False⟩) : (oO ((g, some i, u) :: r) e ρ S).al N po := by
 unfold oO
 simp only [hg, if_pos hi]
 exact a6T h
theorem a6U {g : Str → Option Bool} {oi : Option Nat} {u : SX} {r : List Cl} {e : bD} (hg : g e.cls = some false) (h : (oO r e ρ S).al N po) : (oO ((g, oi, u) :: r) e ρ S).al N po := by
 simp only [oO, hg]
 exact h
theorem a6V {x : Str} (h : ∀ c ∈ x.cps.toList, c < 0x110000) (hl : x.length ≤ 100) : Th (.str x) := ⟨by simp only [aR]; exact h, by simp only [bT]; omega, by simp [bJ]⟩
theorem tE {x : Str} (h : cD x) : PD (.str x) ∧ Th (.str x) := ⟨JW h, a6V h.chars (by have := h.2.1; omega)⟩
theorem a6W : cD "nobody" := oX.mp (by decide +kernel)
theorem a6X : cD "other" := oX.mp (by decide +kernel)
theorem xq {c : Pg.Ctx} {b : D} {t : Option D} : (dH c b t).lookup ("with_amounts" : Str) = none := sS (by decide +kernel)
theorem zR : (look (C3 s m z) "steps").isSome = true ∧ (look (C3 s m z) "mem").isSome = true ∧ (look (C3 s m z) "zip").isSome = true ∧ (look (C3 s m z) "nobody").isSome = false := ⟨by kernel_rfl, by kernel_rfl, by kernel_rfl, by kernel_rfl⟩
theorem KR {x : Str} (h : x = "mem" ∨ x = "steps" ∨ x = "zip") : ∃ d S', mZ [.un, .sh (.str "budget"), .sh (.tup [.str x])] S = .ok d S' := by
 rcases h with rfl | rfl | rfl
 ·exact ⟨.str "invalid program: budget at ('mem',)", S, by kernel_rfl⟩
 ·exact ⟨.str "invalid program: budget at ('steps',)", S, by kernel_rfl⟩
 ·exact ⟨.str "invalid program: budget at ('zip',)", S, by kernel_rfl⟩
theorem a6Y {v w : D} (h : d7 S n (iG s m z i) b t) (q : Q (.lst [.str "unknown", .str "nobody"]) S) : (kJ [.int 0, .ref n, v, w] S).al Q E := by
 obtain ⟨l1, l2, l3, l4⟩ := zR (s := s) (m := m) (z := z)
 unfold kJ Bj
 generalize nH : fZ = zU
 simp!
 refine KQ (e := ⟨"UnknownBudget", [("value", .str "nobody")]⟩) rfl (KP ?_) ?_
 ·simp! [wI, dW h, Prod.mk.injEq]
  refine ⟨xq, ?_⟩
  rw [← nH]
  refine a6R (kvs := [("mem", v), ("nobody", w), ("other", .int 1)]) (j := 1) h ?_ rfl l4 ?_ ?_
  ·intro q hq
   simp only [List.mem_cons, List.not_mem_nil, or_false] at hq
   rcases hq with rfl | rfl | rfl
   ·exact tE zQ
   ·exact tE a6W
   ·exact tE a6X
  ·intro i q hi e
   have : i = 0 := by omega
   subst this
   cases e
   exact l2
  ·exact ⟨rfl, rfl⟩
 ·refine Wk (by kernel_rfl) (show 5 < 6 by decide) ?_
  simp!
  refine (HJ (e := ⟨"UnknownBudget", [("value", .str "nobody")]⟩) rfl (by decide +kernel)).mpr ⟨.str "nobody", by kernel_rfl, ?_⟩
  exact ⟨rfl, q⟩
theorem Wl {x : Str} {x0 x1 x2 x3 : D} (q : N [.sh x0, .sh x1, .sh x2, .sh x3, .sh (.lst [.str "invalid", .str "budget", .tup [.str x]]), .un] S) :
  (oO [(fun y => yV.lookup y, some 5, eG 4 (dZ (ao (mC (.str "unknown")) (ao (lJ jt 5 "value") (aq))))), (fun y => wL.lookup y, some 5, eG 4 (dZ (ao (mC (.str "invalid")) (ao (lJ jt 5 "reason") (ao (lJ jt 5 "path") (aq))))))] ⟨"InvalidProgram", [("reason", .str "budget"), ("path", .tup [.str x])]⟩ [.sh x0, .sh x1, .sh x2, .sh x3, .sh (.lst [.str "made"]), .un] S).al N po := by
 have hc : jt.contains ("InvalidProgram" : Str) = true := by decide +kernel
 refine a6U (by kernel_rfl) (Wk (by kernel_rfl) (show 5 < 6 by decide) ?_)
 simp!
 refine (HJ (e := ⟨"InvalidProgram", [("reason", .str "budget"), ("path", .tup [.str x])]⟩) rfl hc).mpr ⟨.str "budget", by kernel_rfl, ?_⟩
 refine (HJ (e := ⟨"InvalidProgram", [("reason", .str "budget"), ("path", .tup [.str x])]⟩) rfl hc).mpr ⟨.tup [.str x], by kernel_rfl, ?_⟩
 exact ⟨rfl, q⟩
theorem Wm {v w : D} {x : Str} (h : d7 S n (iG s m z i) b t) (hx : (oY v true ∧ oY w false ∧ x = "mem") ∨ (oY v false ∧ x = "zip")) (q : Q (.lst [.str "invalid", .str "budget", .tup [.str x]]) S) : (kJ [.int 1, .ref n, v, w] S).al Q E := by
 obtain ⟨l1, l2, l3, l4⟩ := zR (s := s) (m := m) (z := z)
 unfold kJ Bj
 generalize nH : fZ = zU
 simp!
 have hk : ∀ q ∈ [(("zip" : Str), v), ("mem", w)], PD (.str q.1) ∧ Th (.str q.1) := fun q hq => by
  simp only [List.mem_cons, List.not_mem_nil, or_false] at hq
  rcases hq with rfl | rfl
  ·exact tE Fv
  ·exact tE zQ
 have hb : ∀ q ∈ [(("zip" : Str), v), ("mem", w)], (look (C3 s m z) q.1).isSome = true := fun q hq => by
  simp only [List.mem_cons, List.not_mem_nil, or_false] at hq
  rcases hq with rfl | rfl
  ·exact l3
  ·exact l2
 refine KQ (e := ⟨"InvalidProgram", [("reason", .str "budget"), ("path", .tup [.str x])]⟩) rfl (KP ?_) (Wl q)
 simp! [wI, dW h, Prod.mk.injEq]
 refine ⟨xq, ?_⟩
 rw [← nH]
 rcases hx with ⟨h1, h2, rfl⟩ | ⟨h1, rfl⟩
 ·refine KO (kvs := [("zip", v), ("mem", w)]) (j := 1) (d := w) h hk hb rfl h2 ?_ (KR (.inl rfl)) ⟨rfl, rfl⟩
  intro i q hi e
  have : i = 0 := by omega
  subst this
  cases e
  exact h1
 ·exact KO (kvs := [("zip", v), ("mem", w)]) (j := 0) (d := v) h hk hb rfl h1 (fun i q hi => by omega) (KR (.inr (.inr rfl))) ⟨rfl, rfl⟩
theorem a6Z {v w : D} (h : d7 S n (iG s m z i) b t) (hw : oY w false) (q : Q (.lst [.str "invalid", .str "budget", .tup [.str "steps"]]) S) : (kJ [.int 2, .ref n, v, w] S).al Q E := by
 obtain ⟨l1, l2, l3, l4⟩ := zR (s := s) (m := m) (z := z)
 unfold kJ Bj
 generalize nH : fZ = zU
 simp!
 have hk : ∀ q ∈ [(("steps" : Str), w)], PD (.str q.1) ∧ Th (.str q.1) := fun q hq => by
  rw [List.mem_singleton.mp hq]
  exact tE Wb
 have hb : ∀ q ∈ [(("steps" : Str), w)], (look (C3 s m z) q.1).isSome = true := fun q hq => by
  rw [List.mem_singleton.mp hq]
  exact l1
 refine KQ (e := ⟨"InvalidProgram", [("reason", .str "budget"), ("path", .tup [.str "steps"])]⟩) rfl (KP ?_) (Wl q)
 simp! [wI, dW h, Prod.mk.injEq]
 refine ⟨xq, ?_⟩
 rw [← nH]
 exact KO (kvs := [("steps", w)]) (j := 0) (d := w) h hk hb rfl hw (fun i q hi => by omega) (KR (.inr (.inl rfl))) ⟨rfl, rfl⟩
end
theorem Fy : aH.kh = aH.kh := rfl
section
variable {S U W : Store} {n i k : Nat} {am : Am} {c : Pg.Ctx} {b d : D} {t : Option D} {s m z : Int} {Q : D → Store → Prop} {E : bD → Store → Prop} {ρ : aF}
theorem Wn (h : BK am s m z) : total (P3 am i) = 2 := by
 have e : (cG (P3 am i).rt) = v5 i := W8
 unfold total
 rw [e]
 match i with
 | 0 => kernel_rfl
 | 1 => kernel_rfl
 | _ + 2 => kernel_rfl
/-- a program of the three at a place -/
def eZ (S : Store) (r : Nat) (s m z : Int) (i : Nat) : Prop := ∃ xs, d7 S r (iG s m z i) (eU i) (some (.ref (r + 1))) ∧ S[r + 1]? = some (.lst xs) ∧ xs.length = 2
theorem eZ.app {r : Nat} {T : Store} (h : eZ S r s m z i) : eZ (S ++ T) r s m z i := by
 obtain ⟨xs, h1, h2, h3⟩ := h
 exact ⟨xs, qm h1, qm h2, h3⟩
theorem eZ.gn {r g : Nat} (h : eZ U r s m z i) (hg : Gn g U W) (hr : g < r) : eZ W r s m z i := by
 obtain ⟨xs, h1, h2, h3⟩ := h
 exact ⟨xs, by show W[r]? = _; rw [hg.same r (by omega)]; exact h1, by rw [hg.same (r + 1) (by omega)]; exact h2, h3⟩
theorem Wo {xs : List D} {T : Store} (hx : xs.length = 2) : eZ (S ++ (.ins "Program" (dH (iG s m z i) (eU i) (some (.ref (S.length + 1)))) :: .lst xs :: T)) S.length s m z i :=
 ⟨xs, uW, by simp, hx⟩
theorem Wq {v : Int} (h0 : 0 ≤ v) (h1 : v ≤ 1000000000000) : oY (.int v) true := fun S => by
 rw [a6H, Ut (.int v)]
 have : zf (.int v) = true := by
  unfold zf
  simp [h0, h1]
 rw [this]
def kZ : List D := [.non, .int (-1), .bl true, .bl false, .str "1", .str "", .int 1000000000001, .tup [], .lst [], .dct []]
theorem a70 {v : D} (h : v ∈ kZ) : oY v false := fun S => by
 unfold kZ at h
 simp only [List.mem_cons, List.not_mem_nil, or_false] at h
 rcases h with rfl | rfl | rfl | rfl | rfl | rfl | rfl | rfl | rfl | rfl <;> kernel_rfl
theorem iC : (DI.contains ("Program" : Str)) = true := by decide +kernel
theorem Wr : iT.lookup (("Program" : Str), ("Program" : Str)) = some true := by kernel_rfl
theorem Ws {c : Pg.Ctx} {b : D} {t : Option D} {r : Nat} (h : d7 S r c b t) : (oJ [("Program" : Str)] S (.ref r)).isSome = true := by
 have e := dW h
 unfold oJ
 rw [e]
 rfl
theorem a71 {c : Str} {ff : FX} {ma : EX} (h : (ma ρ S).al (fun x S1 => ∃ fs, cZ S1 x = some (c, fs) ∧ (ff [x] S1).al (fun d S2 => ∃ z : Int, d = .int z ∧ (0 ≤ z ∧ z < 2 ^ 63) ∧ Q (.int z) S2) (fun _ _ => False)) E) : (AK [(c, ff)] ma ρ S).al Q E := by
 unfold AK
 rw [bM]
 refine mV h ?_ (fun _ _ h => h)
 rintro x S1 ⟨fs, e, h⟩
 rw [e]
 simp only [DA, if_true]
 cases h3 : ff [x] S1 with
 | ok d S2 =>
  rw [h3] at h
  obtain ⟨z, rfl, hz, q⟩ := h
  simp only
  rw [if_pos hz]
  exact q
 | exc e S2 => rw [h3] at h; exact h.elim
 | stuck => rw [h3] at h; exact h.elim
theorem a72 {k : Int} (h0 : 0 ≤ k) (h1 : k < 10) : ∃ v, (∀ S, bA S (.lst [.non, .int (-1), .bl true, .bl false, .str "1", .str "", .int (1000000000000 + 1), .tup [], .lst [], .dct []]) (.int k) = some v) ∧ v ∈ kZ := by
 have : k = 0 ∨ k = 1 ∨ k = 2 ∨ k = 3 ∨ k = 4 ∨ k = 5 ∨ k = 6 ∨ k = 7 ∨ k = 8 ∨ k = 9 := by omega
 rcases this with rfl | rfl | rfl | rfl | rfl | rfl | rfl | rfl | rfl | rfl
 ·exact ⟨.non, fun _ => rfl, by simp [kZ]⟩
 ·exact ⟨.int (-1), fun _ => rfl, by simp [kZ]⟩
 ·exact ⟨.bl true, fun _ => rfl, by simp [kZ]⟩
 ·exact ⟨.bl false, fun _ => rfl, by simp [kZ]⟩
 ·exact ⟨.str "1", fun _ => rfl, by simp [kZ]⟩
 ·exact ⟨.str "", fun _ => rfl, by simp [kZ]⟩
 ·exact ⟨.int 1000000000001, fun _ => rfl, by simp [kZ]⟩
 ·exact ⟨.tup [], fun _ => rfl, by simp [kZ]⟩
 ·exact ⟨.lst [], fun _ => rfl, by simp [kZ]⟩
 ·exact ⟨.dct [], fun _ => rfl, by simp [kZ]⟩
theorem a73 {k : Int} (h0 : 0 ≤ k) (h1 : k < 3) : ∃ i, i < 3 ∧ ∀ S, bA S (.tup [.tup [.str "out", .int 1], .tup [.str "use", .str "zip", .int 2], .tup [.str "rest", .str "x", .str "mem"]]) (.int k) = some (KI i) := by
 have : k = 0 ∨ k = 1 ∨ k = 2 := by omega
 rcases this with rfl | rfl | rfl
 ·exact ⟨0, by decide, fun _ => rfl⟩
 ·exact ⟨1, by decide, fun _ => rfl⟩
 ·exact ⟨2, by decide, fun _ => rfl⟩
theorem FA {zU : FX} {r : Nat} {s' m' z' : Int} {kvs : List (Str × D)} (nH : fZ = zU) (h : eZ U r s m z i) (hk : ∀ q ∈ kvs, (q.1 = "steps" ∨ q.1 = "mem" ∨ q.1 = "zip") ∧ oY q.2 true) (hl : kvs.length ≤ 1000)
  (hg : pZ (kd (C3 s m z)) (kq kvs) = kd (C3 s' m' z')) (ho : tD s' m' z') (q : ∀ T, eZ (U ++ T) U.length s' m' z' i → Q (.ref U.length) (U ++ T)) : (zU [.ref r, .dct (kq kvs)] U).al Q E := by
 obtain ⟨xs, ap, _, _⟩ := h
 have kk : ∀ {x : Str}, x = "steps" ∨ x = "mem" ∨ x = "zip" → (PD (.str x) ∧ Th (.str x)) ∧ (look (C3 s m z) x).isSome = true := fun {x} h => by
  rcases h with rfl | rfl | rfl
  ·exact ⟨tE Wb, zR.1⟩
  ·exact ⟨tE zQ, zR.2.1⟩
  ·exact ⟨tE Fv, zR.2.2.1⟩
 have mg : pZ [] (kd (C3 s m z)) = kd (C3 s m z) := by kernel_rfl
 rw [← nH]
 refine a6S ap (fun q hq => (kk (hk q hq).1).1) (fun q hq => (kk (hk q hq).1).2) (fun q hq => (hk q hq).2) hl (by rw [mg]; exact hg) ho fun xs T hx => ?_
 rw [Wn (.inr rfl)] at hx
 exact q _ (Wo hx)
theorem a74 (h : iw S n) (q : ∀ S', Q (.bl true) S') : (uQ [.ref n] S).al Q E := by
 generalize hr : uQ [.ref n] S = r
 rw [← hr]
 unfold uQ Jx
 generalize hpi : jf = KN
 generalize nH : fZ = zU
 generalize hto : kJ = fto
 generalize hre : nj = fre
 generalize heq : sO = feq
 generalize hle : qI = fle
 rw [we]
 have dd : ∀ a b c : Int, xY [.str "steps", .int a, .str "mem", .int b, .str "zip", .int c] = some (.dct (kd (B3 a b c))) := fun a b c => by kernel_rfl
 have dp : ∀ d : D, xY [.str "p", d] = some (.dct (kq [("p", d)])) := fun d => by kernel_rfl
 -- the W7
 refine iV (fun ρ U => ∃ a b : Int, iw U n ∧ (0 ≤ a ∧ a < 60) ∧ (0 ≤ b ∧ b < 30) ∧ ρ = [.sh (.ref n), .sh (.dct (kd (B3 a b 0))), .un, .un, .un, .un, .un, .un, .un, .un, .un, .un, .un]) ?_ ?_
 ·simp! [Dc, lG]
  rw [Fy]
  refine wu h (by decide) (by decide) fun a S1 a0 a1 g1 => ?_
  refine wu g1.at_ (by decide) (by decide) fun b S2 b0 b1 g2 => ?_
  exact ⟨_, dd a b 0, a, b, g2.at_, ⟨a0, a1⟩, ⟨b0, b1⟩, rfl⟩
 rintro _ U ⟨a, b, r1, ha, hb, rfl⟩
 refine iV (fun ρ W => ∃ i, iw W n ∧ i < 3 ∧ ρ = [.sh (.ref n), .sh (.dct (kd (B3 a b 0))), .sh (eU i), .un, .un, .un, .un, .un, .un, .un, .un, .un, .un]) ?_ ?_
 ·simp!
  rw [Fy]
  refine wu r1 (by decide) (by decide) fun k S1 k0 k1 g1 => ?_
  obtain ⟨i, hi, ei⟩ := a73 k0 k1
  exact ⟨_, ei S1, i, g1.at_, hi, rfl⟩
 rintro _ U ⟨i, r1, hi, rfl⟩
 have ok1 : tD a b 0 := ⟨by omega, by omega, by decide, by decide⟩
 refine iV (fun ρ W => ∃ p0, n < p0 ∧ iw W n ∧ eZ W p0 a b 0 i ∧ ρ = [.sh (.ref n), .sh (.dct (kd (B3 a b 0))), .sh (eU i), .sh (.ref p0), .un, .un, .un, .un, .un, .un, .un, .un, .un]) ?_ ?_
 ·simp! [Ir, lW, Dc, lG, dp]
  rw [← hpi, e_init]
  have g := good3 (am := B3 a b 0) (i := i) (.inl rfl) ok1
  refine JV (p := P3 (B3 a b 0) i) g.right rfl (.inr ⟨rfl, nofun⟩) fun T xs hx => ⟨rfl, ?_⟩
  rw [ctx_eq (.inl rfl)]
  rw [Wn (.inl rfl)] at hx
  exact ⟨_, r1.lt, r1.app, Wo hx, rfl⟩
 rintro _ U ⟨p0, hp, r1, o0, rfl⟩
 obtain ⟨ra, rb, rg, rr, rp, hlen⟩ : ∃ ra rb rg rr, Rp (iG a b 0 i) (eU i) ra rb rg rr ∧ ra.length + rb.length + rg.length + rr.length ≤ 16000000  := rp3 ok1
 have p12 : ∀ S, o7 S (.int 10) (.int 12) = some (.int 1000000000000) := fun S => by kernel_rfl
 have p9 : ∀ S, o7 S (.int 10) (.int 9) = some (.int 1000000000) := fun S => by kernel_rfl
 refine iV (fun ρ W => ∃ o g : Int, (0 ≤ o ∧ o < 99) ∧ (0 ≤ g ∧ g ≤ 1000000000000) ∧ iw W n ∧ eZ W p0 a b 0 i ∧ ρ = [.sh (.ref n), .sh (.dct (kd (B3 a b 0))), .sh (eU i), .sh (.ref p0), .un, .un, .un, .un, .un, .sh (.str (tx ra rb rg rr)), .sh (.int o), .sh (.int g), .un]) ?_ ?_
 ·obtain ⟨xs, ap, hl, hx⟩ := o0
  simp! [RA, dW ap]
  rw [← hre, W4]
  refine Va ap rp hlen ?_
  rw [Fy]
  try simp!
  refine wu r1 (by decide) (by decide) fun o S1 d0 d1 g1 => ?_
  simp! [p12, p9]
  refine wu g1.at_ (by decide) (by decide) fun e S2 e0 e1 g2 => ?_
  try simp!
  refine wu g2.at_ (by decide) (by decide) fun k S3 k0 k1 g3 => ?_
  obtain ⟨g, eg, hg⟩ : ∃ g : Int, bA S3 (.lst [.int 0, .int 1000000000000, .int e]) (.int k) = some (.int g) ∧ 0 ≤ g ∧ g ≤ 1000000000000 := by
   have : k = 0 ∨ k = 1 ∨ k = 2 := by omega
   rcases this with rfl | rfl | rfl
   ·exact ⟨0, rfl, by decide, by decide⟩
   ·exact ⟨1000000000000, rfl, by decide, by decide⟩
   ·exact ⟨e, rfl, by omega, by omega⟩
  have o0 : eZ U p0 a b 0 i := ⟨xs, ap, hl, hx⟩
  have o3 : eZ S3 p0 a b 0 i := ((o0.gn g1 hp).gn g2 hp).gn g3 hp
  exact ⟨_, eg, o, ⟨d0, d1⟩, g, hg, g3.at_, o3, rfl, rfl⟩
 rintro _ U ⟨o, g, ho, hg, r1, o0, rfl⟩
 have ai : ∀ {v : Int}, 0 ≤ v → v ≤ 1000000000000 → oY (.int v) true := Wq
 -- b2D with other W7
 refine iV (fun ρ W => ∃ r0 r1' r2, n < r0 ∧ iw W n ∧ eZ W p0 a b 0 i ∧ eZ W r0 a b 0 i ∧ eZ W r1' a o 0 i ∧ eZ W r2 o g g i ∧ ρ = [.sh (.ref n), .sh (.dct (kd (B3 a b 0))), .sh (eU i), .sh (.ref p0), .ow (.lst [.ref r0, .ref r1', .ref r2]), .un, .un, .un, .un, .sh (.str (tx ra rb rg rr)), .sh (.int o), .sh (.int g), .un]) ?_ ?_
 ·have hnu := r1.lt
  obtain ⟨xs, ap, hl, hx⟩ := id o0
  simp! [wI, dW ap, Prod.mk.injEq]
  refine ⟨xq, ?_⟩
  refine FA (kvs := []) nH o0 (fun _ z => nomatch z) (by decide) (by kernel_rfl) ok1 fun T1 oa => ?_
  have o0 := o0.app (T := T1)
  have r1 := r1.app (J := T1)
  obtain ⟨V1, e1⟩ : ∃ V, V = U ++ T1 := ⟨_, rfl⟩
  rw [← e1] at oa o0 r1 ⊢
  obtain ⟨xs, ap, hl, hx⟩ := id o0
  simp! [wI, dW ap, Prod.mk.injEq]
  refine ⟨xq, ?_⟩
  refine FA (s' := a) (m' := o) (z' := 0) (kvs := [("mem", .int o)]) nH o0 (fun q hq => ?_) (by show 1 ≤ 1000; decide) (by kernel_rfl) ⟨by omega, by omega, by decide, by decide⟩ fun T2 ob => ?_
  ·rw [List.mem_singleton.mp hq]
   exact ⟨.inr (.inl rfl), ai (by omega) (by omega)⟩
  have o0 := o0.app (T := T2)
  have r1 := r1.app (J := T2)
  have oa := oa.app (T := T2)
  obtain ⟨V2, e2⟩ : ∃ V, V = V1 ++ T2 := ⟨_, rfl⟩
  rw [← e2] at oa ob o0 r1 ⊢
  obtain ⟨xs, ap, hl, hx⟩ := id o0
  simp! [wI, dW ap, Prod.mk.injEq]
  refine ⟨xq, ?_⟩
  refine FA (s' := o) (m' := g) (z' := g) (kvs := [("zip", .int g), ("steps", .int o), ("mem", .int g)]) nH o0 (fun q hq => ?_) (by show 3 ≤ 1000; decide) (by kernel_rfl) ⟨by omega, hg, hg⟩ fun T3 oc => ?_
  ·simp only [List.mem_cons, List.not_mem_nil, or_false] at hq
   rcases hq with rfl | rfl | rfl
   ·exact ⟨.inr (.inr rfl), ai hg.1 hg.2⟩
   ·exact ⟨.inl rfl, ai (by omega) (by omega)⟩
   ·exact ⟨.inr (.inl rfl), ai hg.1 hg.2⟩
  have o0 := o0.app (T := T3)
  have r1 := r1.app (J := T3)
  have oa := oa.app (T := T3)
  have ob := ob.app (T := T3)
  obtain ⟨V3, e3⟩ : ∃ V, V = V2 ++ T3 := ⟨_, rfl⟩
  rw [← e3] at oa ob oc o0 r1 ⊢
  exact ⟨_, _, _, hnu, r1, o0, oa, ob, oc, rfl⟩
 rintro _ U ⟨r0, r1', r2, ha0, rn, o0, oa, ob, oc, rfl⟩
 refine iV (fun ρ W => ∃ r3, iw W n ∧ eZ W p0 a b 0 i ∧ eZ W r0 a b 0 i ∧ eZ W r1' a o 0 i ∧ eZ W r2 o g g i ∧ eZ W r3 a b 0 i ∧ ρ = [.sh (.ref n), .sh (.dct (kd (B3 a b 0))), .sh (eU i), .sh (.ref p0), .ow (.lst [.ref r0, .ref r1', .ref r2, .ref r3]), .un, .un, .un, .un, .sh (.str (tx ra rb rg rr)), .sh (.int o), .sh (.int g), .un]) ?_ ?_
 ·have g1 : iW U (.dct (kd (B3 a b 0))) (.str "steps") = some (.int a) := by kernel_rfl
  have g2 : iW U (.dct (kd (B3 a b 0))) (.str "mem") = some (.int b) := by kernel_rfl
  have a2 : atI [D.ref r0, .ref r1', .ref r2] 2 = some (.ref r2) := rfl
  obtain ⟨xs, ap, hl, hx⟩ := id oc
  simp! [wI, dW ap, Prod.mk.injEq, g1, g2, a2]
  refine ⟨rfl, xq, ?_⟩
  refine FA (kvs := [("steps", .int a), ("mem", .int b), ("zip", .int 0)]) nH oc (fun q hq => ?_) (by show 3 ≤ 1000; decide) (by kernel_rfl) ok1 fun T od => ?_
  ·simp only [List.mem_cons, List.not_mem_nil, or_false] at hq
   rcases hq with rfl | rfl | rfl
   ·exact ⟨.inl rfl, ai (by omega) (by omega)⟩
   ·exact ⟨.inr (.inl rfl), ai (by omega) (by omega)⟩
   ·exact ⟨.inr (.inr rfl), ai (by decide) (by decide)⟩
  exact ⟨by decide, _, rn.app, o0.app, oa.app, ob.app, oc.app, od, rfl⟩
 rintro _ U ⟨r3, rn, o0, oa, ob, oc, od, rfl⟩
 refine iV (fun ρ W => U = W ∧ ρ = [.sh (.ref n), .sh (.dct (kd (B3 a b 0))), .sh (eU i), .sh (.ref p0), .ow (.lst [.ref r0, .ref r1', .ref r2, .ref r3]), .sh (.lst [.dct (kd (B3 a b 0)), .dct (kd (B3 a o 0)), .dct (kd (B3 o g g)), .dct (kd (B3 a b 0))]), .un, .un, .un, .sh (.str (tx ra rb rg rr)), .sh (.int o), .sh (.int g), .un]) ?_ ?_
 ·have g1 : iW U (.dct (kd (B3 a b 0))) (.str "steps") = some (.int a) := by kernel_rfl
  simp! [Dc, lG, g1, dd]
 rintro _ _ ⟨rfl, rfl⟩
 obtain ⟨ρ0, hρ0⟩ : ∃ ρ0 : Sl → Sl → aF, ρ0 = fun x8 x12 => [.sh (.ref n), .sh (.dct (kd (B3 a b 0))), .sh (eU i), .sh (.ref p0), .sh (.lst [.ref r0, .ref r1', .ref r2, .ref r3]), .sh (.lst [.dct (kd (B3 a b 0)), .dct (kd (B3 a o 0)), .dct (kd (B3 o g g)), .dct (kd (B3 a b 0))]), .un, .un, x8, .sh (.str (tx ra rb rg rr)), .sh (.int o), .sh (.int g), x12] := ⟨_, rfl⟩
 refine iV (fun ρ W => (∃ T, W = U ++ T) ∧ ∃ x8 x12, ρ = ρ0 x8 x12) ?_ ?_
 ·have zz : vZ [.lst [.ref r0, .ref r1', .ref r2, .ref r3], .lst [.dct (kd (B3 a b 0)), .dct (kd (B3 a o 0)), .dct (kd (B3 o g g)), .dct (kd (B3 a b 0))]] = some [.tup [.ref r0, .dct (kd (B3 a b 0))], .tup [.ref r1', .dct (kd (B3 a o 0))], .tup [.ref r2, .dct (kd (B3 o g g))], .tup [.ref r3, .dct (kd (B3 a b 0))]] := rfl
  simp! [QD, zz]
  refine jV (fun j ρ W => (∃ T, W = U ++ T) ∧ ∃ x8 x12, ρ = ρ0 x8 x12) ⟨⟨[], (List.append_nil _).symm⟩, .un, .un, by rw [hρ0]⟩ ?_ ?_
  ·rintro j d ρ W hx ⟨⟨T, rfl⟩, x8, x12, rfl⟩
   obtain ⟨r, s, m, z, rfl, ob, ok⟩ : ∃ r s m z, d = .tup [.ref r, .dct (kd (B3 s m z))] ∧ eZ (U ++ T) r s m z i ∧ tD s m z := by
    have hm := List.mem_of_getElem? hx
    simp only [List.mem_cons, List.not_mem_nil, or_false] at hm
    rcases hm with rfl | rfl | rfl | rfl
    ·exact ⟨_, _, _, _, rfl, oa.app, ok1⟩
    ·exact ⟨_, _, _, _, rfl, ob.app, by omega, by omega, by decide, by decide⟩
    ·exact ⟨_, _, _, _, rfl, oc.app, by omega, hg, hg⟩
    ·exact ⟨_, _, _, _, rfl, od.app, ok1⟩
   rw [hρ0]
   refine ⟨_, rfl, ?_⟩
   obtain ⟨xs, ap, hl, hx2⟩ := id ob
   simp! [Rz, dW ap, Prod.mk.injEq, Ir, lW, Dc, lG, dp]
   rw [← hpi, e_init]
   have g := good3 (am := B3 s m z) (i := i) (.inl rfl) ok
   refine JV (p := P3 (B3 s m z) i) g.right rfl (.inr ⟨rfl, nofun⟩) fun T2 xs2 hx3 => ⟨rfl, ?_⟩
   rw [ctx_eq (.inl rfl)]
   obtain ⟨V, hV⟩ : ∃ V, V = U ++ T ++ (SO.ins "Program" (dH (iG s m z i) (P3 (B3 s m z) i).body (some (.ref ((U ++ T).length + 1)))) :: .lst xs2 :: T2) := ⟨_, rfl⟩
   obtain ⟨R, hR⟩ : ∃ R, R = (U ++ T).length := ⟨_, rfl⟩
   have on : d7 V R (iG s m z i) (eU i) (some (.ref (R + 1))) := by rw [hV, hR]; exact uW
   have FD : d7 V r (iG s m z i) (eU i) (some (.ref (r + 1))) := by rw [hV]; exact qm ap
   have hl2 : V[r + 1]? = some (.lst xs) := by rw [hV]; exact qm hl
   have hT : ∃ T3, V = U ++ T3 := ⟨_, by rw [hV, List.append_assoc]⟩
   rw [← hV, ← hR]
   refine ⟨_, dW FD, Ws on, ?_⟩
   rw [← heq, e_eq]
   refine V9 FD on (BL ok) (BL ok) ⟨_, rfl⟩ iC Wr ?_
   simp! [eq3 ok, D.bl.injEq]
   refine a71 ?_
   simp! [dW FD, Prod.mk.injEq]
   rw [← hle, e_len]
   refine a4l FD hl2 ?_
   rw [hx2]
   refine ⟨2, rfl, by decide, ?_⟩
   rw [if_neg (by decide)]
   exact ⟨hT, _, _, rfl⟩
  ·rintro ρ W hh
   exact hh
 rintro _ W ⟨⟨T, hW⟩, x8, x12, rfl⟩
 have rn : iw W n := by rw [hW]; exact rn.app
 have o0 : eZ W p0 a b 0 i := by rw [hW]; exact o0.app
 have oa : eZ W r0 a b 0 i := by rw [hW]; exact oa.app
 obtain ⟨ρ1, hρ1⟩ : ∃ ρ1 : D → Sl → Sl → aF, ρ1 = fun v x7 x8 => [.sh (.ref n), .sh (.dct (kd (B3 a b 0))), .sh (eU i), .sh (.ref p0), .sh (.lst [.ref r0, .ref r1', .ref r2, .ref r3]), .sh (.lst [.dct (kd (B3 a b 0)), .dct (kd (B3 a o 0)), .dct (kd (B3 o g g)), .dct (kd (B3 a b 0))]), .sh v, x7, x8, .sh (.str (tx ra rb rg rr)), .sh (.int o), .sh (.int g), x12] := ⟨_, rfl⟩
 refine iV (fun ρ V => ∃ v, v ∈ kZ ∧ (∃ rr', d7 V p0 (iG a b 0 i) (eU i) rr') ∧ (∃ rr', d7 V r0 (iG a b 0 i) (eU i) rr') ∧ ρ = ρ1 v .un x8) ?_ ?_
 ·rw [hρ0]
  simp! [p12]
  rw [Fy]
  refine wu rn (by decide) (by decide) fun k V k0 k1 g1 => ?_
  obtain ⟨v, ev, hv⟩ := a72 k0 k1
  refine ⟨_, ev V, v, hv, ?_, ?_, by rw [hρ1]⟩
  ·obtain ⟨xs, h1, _, _⟩ := o0.gn g1 hp
   exact ⟨_, h1⟩
  ·obtain ⟨xs, h1, _, _⟩ := oa.gn g1 ha0
   exact ⟨_, h1⟩
 rintro _ V ⟨v, hv, ⟨t0, a0⟩, ⟨ta, aa⟩, rfl⟩
 have av := a70 hv
 refine iV (fun ρ V' => V = V' ∧ ρ = ρ1 v (.ow (.lst [.lst [.str "unknown", .str "nobody"], .lst [.str "invalid", .str "budget", .tup [.str "mem"]], .lst [.str "invalid", .str "budget", .tup [.str "steps"]]])) x8) ?_ ?_
 ·rw [hρ1]
  simp!
  rw [← hto]
  refine a6Y a0 ?_
  simp!
  refine Wm (x := "mem") a0 (.inl ⟨Wq (by omega) (by omega), av, rfl⟩) ?_
  simp!
  refine a6Z a0 av ?_
  simp!
 rintro _ _ ⟨rfl, rfl⟩
 refine iV (fun ρ V' => V = V' ∧ ρ = ρ1 v (.ow (.lst [.lst [.str "unknown", .str "nobody"], .lst [.str "invalid", .str "budget", .tup [.str "mem"]], .lst [.str "invalid", .str "budget", .tup [.str "steps"]], .lst [.str "invalid", .str "budget", .tup [.str "zip"]]])) x8) ?_ ?_
 ·rw [hρ1]
  simp!
  rw [← hto]
  refine Wm (x := "zip") a0 (.inr ⟨av, rfl⟩) ?_
  simp!
  decide
 rintro _ _ ⟨rfl, rfl⟩
 refine iV (fun ρ V' => V = V' ∧ ρ = ρ1 v (.ow (.lst [.lst [.str "unknown", .str "nobody"], .lst [.str "invalid", .str "budget", .tup [.str "mem"]], .lst [.str "invalid", .str "budget", .tup [.str "steps"]], .lst [.str "invalid", .str "budget", .tup [.str "zip"]]])) (.sh (.lst [.lst [.str "unknown", .str "nobody"], .lst [.str "invalid", .str "budget", .tup [.str "mem"]], .lst [.str "invalid", .str "budget", .tup [.str "steps"]]]))) ?_ ?_
 ·rw [hρ1]
  simp!
 rintro _ _ ⟨rfl, rfl⟩
 refine iV (fun ρ V' => V = V' ∧ ∃ x7, ρ = ρ1 v x7 (.sh (.lst [.lst [.str "unknown", .str "nobody"], .lst [.str "invalid", .str "budget", .tup [.str "mem"]], .lst [.str "invalid", .str "budget", .tup [.str "steps"]]]))) ?_ ?_
 ·rw [hρ1]
  simp!
  refine ⟨.lst [.lst [.str "unknown", .str "nobody"], .lst [.str "invalid", .str "budget", .tup [.str "mem"]], .lst [.str "invalid", .str "budget", .tup [.str "steps"]], .lst [.str "invalid", .str "budget", .tup [.str "zip"]]], by kernel_rfl, .bl false, by kernel_rfl, ?_⟩
  refine ⟨false, rfl, ?_⟩
  rw [if_neg (by decide)]
  exact ⟨_, rfl⟩
 rintro _ _ ⟨rfl, x7, rfl⟩
 rw [hρ1]
 simp! [QD, RA, dW a0]
 rw [← hre, W4]
 refine Va a0 rp hlen ?_
 refine ⟨_, rfl, ?_⟩
 rw [if_pos (beq_self_eq_true _), if_pos (beq_self_eq_true _)]
 refine a2G.mpr ?_
 simp! [dW a0, Prod.mk.injEq]
 refine ⟨sS (by decide +kernel), ?_⟩
 rw [if_pos (beq_self_eq_true _)]
 have d0 : atI [D.ref r0, .ref r1', .ref r2, .ref r3] 0 = some (.ref r0) := rfl
 simp! [Rz, d0, dW aa, Prod.mk.injEq]
 refine ⟨Ws a0, ?_⟩
 rw [← heq, e_eq]
 refine V9 aa a0 (BL ok1) (BL ok1) ⟨_, rfl⟩ iC Wr ?_
 simp! [eq3 ok1]
 exact ⟨_, rfl, q _⟩
theorem a75 (ns : List Int) (hn : ns.length ≤ 63) : (uR [.lst (gM ns)] []).al (fun d _ => d = .bl true) fun _ _ => False := by
 have hl : (gM ns).length = ns.length := List.length_map ..
 unfold uR Jz
 simp! [ZL (show 0 ≤ max (2 : Int) (min 4 ((gM ns).length : Int)) ∧ max (2 : Int) (min 4 ((gM ns).length : Int)) < 2 ^ 62 by omega), cJ]
 refine Zy (fun i acc W => acc = (List.replicate i ()).map (fun _ => D.bl true)) rfl ?_ ?_
 ·rintro i d acc W hd rfl
  obtain ⟨rfl, hi⟩ := ZO hd
  refine ⟨_, rfl, ?_⟩
  generalize hf : uQ = fr
  simp!
  refine ZW (k := i) hn (by omega) fun S1 hS1 => ?_
  rw [← hf]
  refine a74 hS1.at fun W3 => ?_
  refine ⟨by rw [List.length_map, List.length_replicate]; omega, ?_⟩
  show _ = List.map (fun _ => D.bl true) (List.replicate (i + 1) ())
  rw [List.replicate_succ', List.map_append]
  rfl
 ·rintro ys W rfl
  refine ⟨_, Bm (fun _ => true), ?_⟩
  rw [List.all_eq_true.mpr fun _ _ => rfl]
theorem a76 (ns : List Int) (hn : ns.length ≤ 63) (_ : ∀ z ∈ ns, Builtin.Int.intBits z ≤ 1048576) : ∃ S, uR [.lst (gM ns)] [] = .ok (.bl true) S := by
 have h := a75 ns hn
 cases e : uR [.lst (gM ns)] [] with
 | ok d S => rw [e] at h; exact ⟨S, by rw [show d = .bl true from h]⟩
 | exc _ _ => rw [e] at h; exact h.elim
 | stuck => rw [e] at h; exact h.elim
end
end aH
namespace aH
open PySem PySem.Spec PyProof.Rows L2 Mi
theorem all_mk {w : World} {P : Program} {K : PySem.W.Frag} {h : Heap} {mg : Str → Option Value} {fa : Addr} (X : K.In h) (c : qJ mj m9 hTb w K) (G : h.Ns mainGlobals mg) (hfa : mg "law" = some (.ref fa))
  : ∃ fd : FuncData, (∀ (s : Shared) (v : Value), BindsTo s fd ⟨[v], []⟩ [("_law_script", v)]) ∧ ∀ base : Heap, K.In base → base.Ns mainGlobals mg → cQ P w K mg base 73 fa fd Ei (cM ⟨K, mg, w, []⟩ 1 uR) := by
 obtain ⟨cR, cU, cV, d8, d9, dh, dB, dD, dF, a77, a78, a79⟩ := c.fn (d := Ld) 0 rfl
 obtain ⟨cR, cU, cV, d8, d9, dh, dB, dD, dF, a7a, a7b, a7c⟩ := c.fn (d := hD1) 1 rfl
 obtain ⟨cR, cU, cV, d8, d9, dh, dB, dD, dF, a7d, a7e, a7f⟩ := c.fn (d := hD2) 2 rfl
 obtain ⟨cR, cU, cV, d8, d9, dh, dB, dD, dF, a7g, a7h, a7i⟩ := c.fn (d := Lf) 3 rfl
 obtain ⟨cR, cU, cV, d8, d9, dh, dB, dD, dF, a7j, a7k, a7l⟩ := c.fn (d := Lg) 4 rfl
 obtain ⟨cR, cU, cV, d8, d9, dh, dB, dD, dF, a7m, a7n, a7o⟩ := c.fn (d := Lh) 5 rfl
 obtain ⟨cR, cU, cV, d8, d9, dh, dB, dD, dF, a7p, a7q, a7r⟩ := c.fn (d := Lj) 6 rfl
 obtain ⟨cR, cU, cV, d8, d9, dh, dB, dD, dF, a7s, a7t, a7u⟩ := c.fn (d := Ln) 7 rfl
 obtain ⟨cR, cU, cV, d8, d9, dh, dB, dD, dF, a7v, a7w, a7x⟩ := c.fn (d := Lp) 8 rfl
 obtain ⟨cR, cU, cV, d8, d9, dh, dB, dD, dF, a7y, a7z, a7A⟩ := c.fn (d := Lq) 9 rfl
 obtain ⟨cR, cU, cV, d8, d9, dh, dB, dD, dF, a7B, a7C, a7D⟩ := c.fn (d := hD10) 10 rfl
 obtain ⟨cR, cU, cV, d8, d9, dh, dB, dD, dF, a7E, a7F, a7G⟩ := c.fn (d := hD11) 11 rfl
 obtain ⟨cR, cU, cV, d8, d9, dh, dB, dD, dF, a7H, a7I, a7J⟩ := c.fn (d := Lr) 12 rfl
 obtain ⟨cR, cU, cV, d8, d9, dh, dB, dD, dF, a7K, a7L, a7M⟩ := c.fn (d := Ls) 13 rfl
 obtain ⟨cR, cU, cV, d8, d9, dh, dB, dD, dF, a7N, a7O, a7P⟩ := c.fn (d := Lw) 14 rfl
 obtain ⟨cR, cU, cV, d8, d9, dh, dB, dD, dF, a7Q, a7R, a7S⟩ := c.fn (d := Ly) 15 rfl
 obtain ⟨cR, cU, cV, d8, d9, dh, dB, dD, dF, a7T, a7U, a7V⟩ := c.fn (d := Lz) 16 rfl
 obtain ⟨cR, cU, cV, d8, d9, dh, dB, dD, dF, a7W, a7X, a7Y⟩ := c.fn (d := hD17) 17 rfl
 obtain ⟨cR, cU, cV, d8, d9, dh, dB, dD, dF, a7Z, a80, a81⟩ := c.fn (d := LA) 18 rfl
 obtain ⟨cR, cU, cV, a82, a83, a84, a85, a86, a87, a88, a89, a8a⟩ := c.fn (d := LC) 19 rfl
 obtain ⟨a5S, a8b⟩ := GV (c.ck 40)
 obtain ⟨a5D, a8c⟩ := NQ (c.ck 43)
 obtain ⟨a5w, a8d⟩ := GV (c.ck 44)
 obtain ⟨a5F, a8e⟩ := GV (c.ck 45)
 obtain ⟨VQ, a8f⟩ := NQ (c.ck 48)
 obtain ⟨cR, cU, cV, d8, d9, dh, dB, dD, dF, a8g, a8h, a8i⟩ := c.fn (d := LD) 20 rfl
 obtain ⟨cR, cU, cV, d8, d9, dh, dB, dD, dF, a8j, a8k, a8l⟩ := c.fn (d := LJ) 21 rfl
 obtain ⟨cR, cU, cV, d8, d9, dh, dB, dD, dF, a8m, a8n, a8o⟩ := c.fn (d := LK) 22 rfl
 obtain ⟨cR, cU, cV, d8, d9, dh, dB, dD, dF, a8p, a8q, a8r⟩ := c.fn (d := LL) 23 rfl
 obtain ⟨cR, cU, cV, d8, d9, dh, dB, dD, dF, a8s, a8t, a8u⟩ := c.fn (d := LN) 24 rfl
 obtain ⟨cR, cU, cV, d8, d9, dh, dB, dD, dF, a8v, a8w, a8x⟩ := c.fn (d := LQ) 25 rfl
 obtain ⟨cR, cU, cV, d8, d9, dh, dB, dD, dF, a8y, a8z, a8A⟩ := c.fn (d := LU) 26 rfl
 obtain ⟨cR, cU, cV, d8, d9, dh, dB, dD, dF, a8B, a8C, a8D⟩ := c.fn (d := LV) 27 rfl
 obtain ⟨cR, cU, cV, d8, d9, dh, dB, dD, dF, a8E, a8F, a8G⟩ := c.fn (d := LX) 28 rfl
 obtain ⟨cR, cU, cV, d8, d9, dh, dB, dD, dF, Wt, a8H, a8I⟩ := c.fn (d := LY) 29 rfl
 have a8J := Zf (c.ck 108) Wt
 subst a8J
 obtain ⟨cR, cU, cV, d8, d9, dh, dB, dD, dF, a8K, a8L, a8M⟩ := c.fn (d := LZ) 30 rfl
 obtain ⟨cR, cU, cV, d8, d9, dh, dB, dD, dF, a8N, a8O, a8P⟩ := c.fn (d := M3) 31 rfl
 obtain ⟨cR, cU, cV, d8, d9, dh, dB, dD, dF, a8Q, a8R, a8S⟩ := c.fn (d := M4) 32 rfl
 obtain ⟨cR, cU, cV, d8, d9, dh, dB, dD, dF, a8T, a8U, a8V⟩ := c.fn (d := M5) 33 rfl
 have a0 := (He.eqO_ok (c.ck 0))
 have a1 := (He.eqO_ok (c.ck 1))
 have a2 := (He.eqO_ok (c.ck 2))
 have a3 := (He.eqO_ok (c.ck 3))
 have a4 := (He.eqO_ok (c.ck 4))
 have a5 := (He.eqO_ok (c.ck 5))
 have a6 := (He.eqO_ok (c.ck 6))
 have a7 := (He.eqO_ok (c.ck 7))
 have a8 := (He.eqO_ok (c.ck 8))
 have a9 := (He.eqO_ok (c.ck 9))
 have a10 := (He.eqO_ok (c.ck 10))
 have a11 := (He.eqO_ok (c.ck 11))
 have a12 := (He.eqO_ok (c.ck 12))
 have a13 := (He.eqO_ok (c.ck 13))
 have a14 := (He.eqO_ok (c.ck 14))
 have a15 := (He.eqO_ok (c.ck 15))
 have a16 := (He.eqO_ok (c.ck 16))
 have a17 := (He.eqO_ok (c.ck 17))
 have a18 := (He.eqO_ok (c.ck 18))
 have a19 := (He.eqO_ok (c.ck 19))
 have l0 := a77
 have c0 := a78
 have k0 := a79
 have l1 := a7a
 have c1 := a7b
 have k1 := a7c
 have l2 := a7d
 have c2 := a7e
 have k2 := a7f
 have l3 := a7g
 have c3 := a7h
 have k3 := a7i
 have l4 := a7j
 have c4 := a7k
 have k4 := a7l
 have l5 := a7m
 have c5 := a7n
 have k5 := a7o
 have l6 := a7p
 have c6 := a7q
 have k6 := a7r
 have l7 := a7s
 have c7 := a7t
 have k7 := a7u
 have l8 := a7v
 have c8 := a7w
 have k8 := a7x
 have l9 := a7y
 have c9 := a7z
 have k9 := a7A
 have l10 := a7B
 have c10 := a7C
 have k10 := a7D
 have l11 := a7E
 have c11 := a7F
 have k11 := a7G
 have l12 := a7H
 have c12 := a7I
 have k12 := a7J
 have l13 := a7K
 have c13 := a7L
 have k13 := a7M
 have l14 := a7N
 have c14 := a7O
 have k14 := a7P
 have l15 := a7Q
 have c15 := a7R
 have k15 := a7S
 have l16 := a7T
 have c16 := a7U
 have k16 := a7V
 have l17 := a7W
 have c17 := a7X
 have k17 := a7Y
 have l18 := a7Z
 have c18 := a80
 have k18 := a81
 have l19 := a88
 have c19 := a89
 have k19 := a8a
 have a9f := (He.eqO_ok (c.ck 20))
 have a9g := (He.eqO_ok (c.ck 21))
 have a9h := (He.eqO_ok (c.ck 22))
 have a9i := (He.eqO_ok (c.ck 23))
 have a9j := (He.eqO_ok (c.ck 24))
 have a9k := (He.eqO_ok (c.ck 25))
 have a9l := (He.eqO_ok (c.ck 26))
 have a9m := (He.eqO_ok (c.ck 27))
 have a9n := (He.eqO_ok (c.ck 28))
 have a9o := (He.eqO_ok (c.ck 29))
 have a9p := (He.eqO_ok (c.ck 30))
 have a9q := (He.eqO_ok (c.ck 31))
 have a9r := (He.eqO_ok (c.ck 32))
 have a9s := (He.eqO_ok (c.ck 33))
 have a9t := (He.eqO_ok (c.ck 34))
 have a9u := (He.eqO_ok (c.ck 35))
 have a9v := (He.eqO_ok (c.ck 36))
 have a9w := (He.eqO_ok (c.ck 37))
 have a9x := (He.eqO_ok (c.ck 38))
 have a9y := (He.eqO_ok (c.ck 39))
 have a9z := (He.eqO_ok (c.ck 41))
 have a9A := (CY (c.ck 42))
 have a9B := (He.eqO_ok (c.ck 46))
 have a9C := (CY (c.ck 47))
 have a9D := (He.eqO_ok (c.ck 49))
 have a9E := (NT (c.ck 50) (c.tab (t := hT0) 0 rfl))
 have a9F := (He.eqO_ok (c.ck 51))
 have a9G := (NT (c.ck 52) (c.tab (t := hT1) 1 rfl))
 have a9H := (He.eqO_ok (c.ck 53))
 have tG := (He.eqO_ok (c.ck 54))
 have dI := (He.eqO_ok (c.ck 55))
 have tH := (He.eqO_ok (c.ck 56))
 have VS := (c.ck 57)
 have KG := (c.ck 58)
 have VU := (c.ck 59)
 have a9I := (He.eqO_ok (c.ck 60))
 have a9J := (a2c (c.ck 62) (c.ck 61))
 have a9K := (CZ (c.ck 63))
 have a9L := (He.eqO_ok (c.ck 64))
 have a9M := (He.eqO_ok (c.ck 65))
 have a9N := a8g
 have a9O := a8h
 have a9P := a8i
 have a9Q := (SY (c.ck 66))
 have a9R := (He.eqO_ok (c.ck 67))
 have a9S := (a2d (c.ck 69) (c.ck 68))
 have a9T := (CZ (c.ck 70))
 have a9U := (He.eqO_ok (c.ck 71))
 have a9V := a8j
 have a9W := a8k
 have a9X := a8l
 have a9Y := (SY (c.ck 72))
 have a9Z := (a2g (c.ck 73))
 have b00 := (He.eqO_ok (c.ck 65))
 have b01 := (He.eqO_ok (c.ck 74))
 have b02 := (He.eqO_ok (c.ck 64))
 have b03 := (He.eqO_ok (c.ck 75))
 have b04 := (He.eqO_ok (c.ck 76))
 have b05 := (He.eqO_ok (c.ck 71))
 have b06 := (oF (c.ck 77))
 have b07 := (oF (c.ck 78))
 have b08 := (oF (c.ck 79))
 have b09 := (oF (c.ck 80))
 have gG := (a2f (c.ck 81))
 have xr := (a2e (c.ck 82))
 have b0a := (He.eqO_ok (c.ck 83))
 have b0b := (He.eqO_ok (c.ck 84))
 have b0c := (He.eqO_ok (c.ck 85))
 have b0d := (He.eqO_ok (c.ck 86))
 have b0e := (He.eqO_ok (c.ck 87))
 have b0f := (c.ck 88)
 have b0g := (c.ck 58)
 have EJ := (He.eqO_ok (c.ck 89))
 have EK := (a2D (c.ck 90))
 have b0h := (c.ck 58)
 have b0i := (oF (c.ck 91))
 have b0j := (He.eqO_ok (c.ck 92))
 have b0k := (c.ck 93)
 have b0l := a8m
 have b0m := a8n
 have Wu := a8o
 have b0n := (He.eqO_ok (c.ck 94))
 have b0o := (c.ck 95)
 have b0p := a8p
 have b0q := a8q
 have Wv := a8r
 have b0r := (He.eqO_ok (c.ck 96))
 have b0s := (c.ck 97)
 have b0t := a8s
 have b0u := a8t
 have Ww := a8u
 have b0v := (He.eqO_ok (c.ck 98))
 have b0w := (c.ck 99)
 have b0x := a8v
 have b0y := a8w
 have Wx := a8x
 have b0z := (He.eqO_ok (c.ck 100))
 have b0A := (c.ck 101)
 have b0B := a8y
 have b0C := a8z
 have Wy := a8A
 have Wz := (He.eqO_ok (c.ck 102))
 have WB := (c.ck 103)
 have b0D := a8B
 have b0E := a8C
 have KU := a8D
 have b0F := (He.eqO_ok (c.ck 104))
 have b0G := (c.ck 105)
 have b0H := a8E
 have b0I := a8F
 have WC := a8G
 have b0J := (He.eqO_ok (c.ck 106))
 have b0K := (c.ck 107)
 have b0L := Wt
 have b0M := a8H
 have WD := a8I
 have b0N := (He.eqO_ok (c.ck 109))
 have b0O := (CY (c.ck 110))
 have b0P := (He.eqO_ok (c.ck 111))
 have b0Q := (He.eqO_ok (c.ck 112))
 have b0R := (c.ck 113)
 have b0S := a8K
 have b0T := a8L
 have WG := a8M
 have b0U := (He.eqO_ok (c.ck 114))
 have b0V := (c.ck 115)
 have b0W := a8N
 have b0X := a8O
 have WH := a8P
 have b0Y := (He.eqO_ok (c.ck 116))
 have b0Z := (c.ck 117)
 have b11 := a8Q
 have b12 := a8R
 have WK := a8S
 have b13 := (He.eqO_ok (c.ck 118))
 have b14 := (c.ck 119)
 have b15 := a8T
 have b16 := a8U
 have WL := a8V
 have e := hfa.symm.trans (PySem.W.mg_of X G a19)
 cases e
 have T : Txt K mg w := ⟨PySem.W.mg_none_of X G a9f, PySem.W.mg_none_of X G a9g, PySem.W.mg_none_of X G a9h, PySem.W.mg_none_of X G a9i, PySem.W.mg_none_of X G a9j, PySem.W.mg_none_of X G a9k, PySem.W.mg_none_of X G a9l, PySem.W.mg_none_of X G a9m, PySem.W.mg_none_of X G a9n, PySem.W.mg_none_of X G a9o, PySem.W.mg_none_of X G a9p, PySem.W.mg_none_of X G a9q, PySem.W.mg_none_of X G a9r, PySem.W.mg_none_of X G a9s, PySem.W.mg_none_of X G a9t, PySem.W.mg_none_of X G a9u, PySem.W.mg_none_of X G a9v, PySem.W.mg_none_of X G a9w, PySem.W.mg_none_of X G a9x, PySem.W.mg_none_of X G a9y, ⟨_, PySem.W.mg_of X G a8b⟩, ⟨_, PySem.W.mg_of X G a9z, a9A⟩, ⟨_, PySem.W.mg_of X G a8c⟩, ⟨_, PySem.W.mg_of X G a8d⟩, ⟨_, PySem.W.mg_of X G a8e⟩, ⟨_, PySem.W.mg_of X G a9B, a9C⟩, ⟨_, PySem.W.mg_of X G a8f⟩, ⟨_, PySem.W.mg_of X G a9D, a9E.imp fun _ _ h => PySem.W.mg_of X G h⟩, ⟨_, PySem.W.mg_of X G a9F, a9G.imp fun _ _ h => PySem.W.mg_of X G h⟩, ⟨_, PySem.W.mg_of X G tG, VS⟩, ⟨_, PySem.W.mg_of X G dI, KG⟩, ⟨_, PySem.W.mg_of X G tH, VU⟩, ⟨_, _, _, PySem.W.mg_of X G tG, a9J, a9I, a9K, a9L, a9M, fun_mk (st := vg) a9N a9O a9P⟩, ⟨_, _, _, PySem.W.mg_of X G tH, a9S, a9R, a9T, a9U, fun_mk (st := vh) a9V a9W a9X⟩, ⟨_, PySem.W.mg_of X G a9H, a9Z⟩, ⟨⟨_, PySem.W.mg_of X G tG, a9Q⟩, ⟨_, PySem.W.mg_of X G tH, a9Y⟩, trivial⟩, trivial, trivial, ⟨⟨_, PySem.W.mg_of X G tG, b00⟩, ⟨_, PySem.W.mg_of X G tH, b01⟩, trivial⟩, ⟨⟨_, PySem.W.mg_of X G tG, b02⟩, ⟨_, PySem.W.mg_of X G tH, b03⟩, trivial⟩, ⟨⟨_, PySem.W.mg_of X G tG, b04⟩, ⟨_, PySem.W.mg_of X G tH, b05⟩, trivial⟩, fun {Ca} hc => by
   have e := hc.symm.trans (PySem.W.mg_of X G tG)
   cases e
   exact ⟨⟨_, PySem.W.mg_of X G tG, b06⟩, ⟨_, PySem.W.mg_of X G tH, b07⟩, trivial⟩, fun {Ca} hc => by
   have e := hc.symm.trans (PySem.W.mg_of X G tH)
   cases e
   exact ⟨⟨_, PySem.W.mg_of X G tG, b08⟩, ⟨_, PySem.W.mg_of X G tH, b09⟩, trivial⟩, ⟨_, PySem.W.mg_of X G dI, gG, xr⟩, ⟨⟨_, PySem.W.mg_of X G dI, gG, xr⟩, trivial⟩, ⟨⟨_, PySem.W.mg_of X G dI, b0a⟩, trivial⟩, ⟨⟨_, PySem.W.mg_of X G dI, gG, xr⟩, trivial⟩, ⟨⟨_, PySem.W.mg_of X G dI, b0b⟩, trivial⟩, ⟨⟨_, PySem.W.mg_of X G dI, gG, xr⟩, trivial⟩, ⟨⟨_, PySem.W.mg_of X G dI, b0c⟩, trivial⟩, ⟨⟨_, PySem.W.mg_of X G dI, gG, xr⟩, trivial⟩, ⟨⟨_, PySem.W.mg_of X G dI, b0d⟩, trivial⟩, ⟨⟨_, PySem.W.mg_of X G dI, gG, xr⟩, trivial⟩, ⟨⟨_, PySem.W.mg_of X G dI, b0e⟩, trivial⟩, ⟨_, PySem.W.mg_of X G dI, b0f, b0g⟩, ⟨_, PySem.W.mg_of X G dI, EJ⟩, (let ⟨h1, ⟨_, h2⟩, ⟨_, h3⟩⟩ := EK; ⟨_, _, _, _, PySem.W.mg_of X G dI, b0h, h1, h2, h3, gG⟩), ⟨⟨_, PySem.W.mg_of X G dI, gG, xr⟩, trivial⟩, ⟨⟨_, _, PySem.W.mg_of X G dI, PySem.W.mg_of X G dI, b0i⟩, trivial⟩, trivial⟩
 have F0 := fun_mk (st := qK) l0 c0 k0
 have F1 := fun_mk (st := qL) l1 c1 k1
 have F2 := fun_mk (st := pA) l2 c2 k2
 have F3 := fun_mk (st := pB) l3 c3 k3
 have F4 := fun_mk (st := jN) l4 c4 k4
 have F5 := fun_mk (st := qN) l5 c5 k5
 have F6 := fun_mk (st := qO) l6 c6 k6
 have F7 := fun_mk (st := nJ) l7 c7 k7
 have F8 := fun_mk (st := qP) l8 c8 k8
 have F9 := fun_mk (st := qQ) l9 c9 k9
 have F10 := fun_mk (st := nM) l10 c10 k10
 have F11 := fun_mk (st := qR) l11 c11 k11
 have F12 := fun_mk (st := pD) l12 c12 k12
 have F13 := fun_mk (st := pF) l13 c13 k13
 have F14 := fun_mk (st := qT) l14 c14 k14
 have F15 := fun_mk (st := qU) l15 c15 k15
 have WM := fun_mk (st := nR) l16 c16 k16
 have F17 := fun_mk (st := qZ) l17 c17 k17
 have F18 := fun_mk (st := rD) l18 c18 k18
 have WN := fun_mk (st := m7) l19 c19 k19
 refine ⟨_, fun s v => .of_eq (fd := PySem.W.fnOf "law" "law" (defArgs m7) (defBody m7) (defScope m7) .none a82 a83 a84 a85 a86 a87) rfl, fun base _ _ => ?_⟩
 have e0 : aK P w K mg base 1 "_law_rng" qK DJ DK := a5q T F0 (PySem.W.mg_of X G a0) 
 have e1 : aK P w K mg base 1 "_law_draw" qL DL kh := a5r T F1 (PySem.W.mg_of X G a1) 
 have e2 : aK P w K mg base 1 "is_integer" pA B5 oV := a5t T F2 (PySem.W.mg_of X G a2) 
 have e3 : aK P w K mg base 2 "is_amount" pB B6 kE := a5v T F3 (PySem.W.mg_of X G a3) e2
 have b1f := oK (st := pC) b0l b0m Wu
 have WO : bU P w K mg base 1 "Program" "has_budget" pC B7 [] ni := a5z T (PySem.W.mg_of X G dI) gG ⟨b0j, b0k, Wu⟩ b1f rfl (fun C h H P β => .nil) 
 have b1g := oK (st := qM) b0p b0q Wv
 have b1h : bU P w K mg base 3 "Program" "require_budget" qM DM [] jK := a5B T (PySem.W.mg_of X G dI) gG ⟨b0n, b0o, Wv⟩ b1g rfl (fun C h H P β => .nil) WO
 have e4 : aK P w K mg base 1 "is_name" jN uN gR := a5C T F4 (PySem.W.mg_of X G a4) 
 have e5 : aK P w K mg base 3 "check_budgets" qN DP yW := a5H T F5 (PySem.W.mg_of X G a5) e4 e3
 have e6 : aK P w K mg base 3 "check_returnable" qO DQ yX := a5I T F6 (PySem.W.mg_of X G a6) 
 have e7 : aK P w K mg base 2 "are_names" nJ Bb qG := a5J T F7 (PySem.W.mg_of X G a7) e4
 have e8 : aK P w K mg base 3 "is_procedure" qP DR yY := a5L T F8 (PySem.W.mg_of X G a8) e7
 have e9 : aK P w K mg base 4 "check_procedures" qQ DU yZ := a5M T F9 (PySem.W.mg_of X G a9) e4 e8
 have e10 : aK P w K mg base 1 "body_places" nM Bc uO := a5O T F10 (PySem.W.mg_of X G a10) 
 have e11 : aK P w K mg base 2 "is_value" qR DV oW := a5R T F11 (PySem.W.mg_of X G a11) e2
 have WQ : aK P w K mg base 3 "is_operand" pD Bf sH := a5U T F12 (PySem.W.mg_of X G a12) e4 e11
 have e13 : aK P w K mg base 4 "are_operands" pF DW wM := a5W T F13 (PySem.W.mg_of X G a13) WQ
 have e14 : aK P w K mg base 1 "is_operator" qT DY wN := a5Y T F14 (PySem.W.mg_of X G a14) 
 have e15 : aK P w K mg base 1 "is_kind" qU DZ wO := a67 T F15 (PySem.W.mg_of X G a15) 
 have b1m := oK (st := qW) b0t b0u Ww
 have b1n : bU P w K mg base 5 "Program" "fits" qW E3 [] sJ := a6b T (PySem.W.mg_of X G dI) gG ⟨b0r, b0s, Ww⟩ b1m rfl (fun C h H P β => .nil) e4 WQ e7 e13 e14 e15 WO
 have b1o := oK (st := qX) b0x b0y Wx
 have b1p : bU P w K mg base 1 "Program" "fits_procedure" qX E4 [] uP := a6h T (PySem.W.mg_of X G dI) gG ⟨b0v, b0w, Wx⟩ b1o rfl (fun C h H P β => .nil) 
 have b1q := oK (st := nO) b0B b0C Wy
 have b1r : bU P w K mg base 6 "Program" "is_statement" nO E6 [] wQ := a6i T (PySem.W.mg_of X G dI) gG ⟨b0z, b0A, Wy⟩ b1q rfl (fun C h H P β => .nil) b1n b1p
 have WR := oK (st := nQ) b0D b0E KU
 have b1s : ∀ n : Nat, bU P w K mg base (7 + n) "Program" "check_body" nQ z7 [] (kI (n)) := by
  intro n
  induction n with
  | zero => exact ⟨⟨_, _, _, _, _, _, PySem.W.mg_of X G dI, gG, ⟨Wz, WB, KU⟩, WR, rfl, (fun C h H P β => .nil), MH (fun _ _ => rfl)⟩⟩
  | succ n ih =>
   have b1t := ih
   exact a6l T (PySem.W.mg_of X G dI) gG ⟨Wz, WB, KU⟩ WR rfl (fun C h H P β => .nil) e10 b1t b1r
 have b1u : bU P w K mg base 67 "Program" "check_body" nQ z7 [] (kI 60) := (b1s 60)
 have b1v : ∀ n : Nat, aK P w K mg base (2 + n) "statements_in" nR z8 (qH (n)) := by
  intro n
  induction n with
  | zero => exact ⟨⟨_, _, _, _, WM, PySem.W.mg_of X G a16, MH (fun _ _ => rfl)⟩⟩
  | succ n ih =>
   have b1w := ih
   exact a6n T WM (PySem.W.mg_of X G a16) e10 b1w
 have e16 : aK P w K mg base 62 "statements_in" nR z8 (qH 60) := (b1v 60)
 have b1y := oK (st := qY) b0H b0I WC
 have b1z : bU P w K mg base 63 "Program" "all_statements" qY E9 [] wR := a6o T (PySem.W.mg_of X G dI) gG ⟨b0F, b0G, WC⟩ b1y rfl (fun C h H P β => .nil) e16
 have b1A := a0Z (st := lZ) (kws := [("returnable", .ref _), ("procedures", .non)]) b0L b0M WD (by
  intro q hq; simp only [List.mem_cons, List.not_mem_nil, or_false] at hq; rcases hq with rfl | rfl
  ·exact ⟨_, b0N, rfl⟩
  ·exact ⟨_, b0P, rfl⟩
  )
 have WT : bU P w K mg base 68 "Program" "__init__" lZ Bg lW jf := a6p T (PySem.W.mg_of X G dI) gG ⟨b0J, b0K, WD⟩ b1A rfl (fun C h H P β => .cons (.eV (h ▸ b0O) .nil) (.cons (.non) (.nil))) e5 e6 e9 b1z b1u
 have b1B := oK (st := pG) b0S b0T WG
 have WU : yU P w K mg base 70 "Program" "with_amounts" pG "amounts" fZ := a6u T (PySem.W.mg_of X G dI) gG ⟨b0Q, b0R, WG⟩ b1B rfl (fun C h H P β => .nil) e3 WT b1h
 have e17 : aK P w K mg base 71 "_law_told" qZ Eb kJ := a6w T F17 (PySem.W.mg_of X G a17) WU
 have b1D := oK (st := rA) b0W b0X WH
 have b1E : bU P w K mg base 1 "Program" "__repr__" rA Ec [] nj := a6x T (PySem.W.mg_of X G dI) gG ⟨b0U, b0V, WH⟩ b1D rfl (fun C h H P β => .nil) 
 have b1F := oK (st := rB) b11 b12 WK
 have b1G : bU P w K mg base 1 "Program" "__len__" rB Ed [] qI := a6z T (PySem.W.mg_of X G dI) gG ⟨b0Y, b0Z, WK⟩ b1F rfl (fun C h H P β => .nil) 
 have b1H := oK (st := rC) b15 b16 WL
 have b1I : bU P w K mg base 1 "Program" "__eq__" rC Ef [] sO := a6B T (PySem.W.mg_of X G dI) gG ⟨b13, b14, WL⟩ b1H rfl (fun C h H P β => .nil) 
 have e18 : aK P w K mg base 72 "_law_right" rD Eh uQ := a6C T F18 (PySem.W.mg_of X G a18) e1 e17 b1I WT b1G b1E WU
 have e19 : aK P w K mg base 73 "law" m7 Ei uR := a6E T WN (PySem.W.mg_of X G a19) e0 e18
 obtain ⟨fb, yy, qual, fd, Fq, hm, Gq⟩ := e19
 have ee := hfa.symm.trans hm
 cases ee
 exact Z3 WN Fq Gq
end aH
open PySem PySem.W PyProof.Rows L2 Mi in
set_option maxRecDepth 100000 in
set_option maxHeartbeats 0 in
theorem PySem.Challenge.cw_exactstop_k16_amounts_changed_holds : PySem.Challenge.rw_exactstop_k16_amounts_changed.Holds :=
 aH.close (Mi.a2i (l := PySem.Challenge.rw_exactstop_k16_amounts_changed) (k := 73) (n := 63) (x := "_law_script") (f := aH.uR) rfl (by decide) rfl ⟨rfl, by decide, by decide⟩ rfl aH.a76 (fun w K mg fa h KX c G hmg => aH.all_mk KX c G hmg))
