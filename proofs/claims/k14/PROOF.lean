import PyProof.Rows.All
import Wide.All
import OpenK.AllK
import Wide.FinOn
import HandS.ForMost
import HandS.ForExc
import HandS.Head0
import HandS.Head1
import HandS.Head2
import HandS.HeadHook1
import HandS.HeadHook2
import HandS.HeadHook3
import HandS.ExcIs
import KE.KExcInit
import KE.KExcPX
import HandS.ExcInit
import HandS.Flow
import HandS.IsInst
import HandS.TupAny
import PyProof.Rows.SeqMore
import HandS.Deep
import HandS.WordsDict
import PyProof.ReprRoads
import PyProof.CallFns
import HandS.EndBits
import HandS.More
import HandS.RaiseMore
import HandS.RevTup
import PyProof.WalksMore
import KE.GoesMore
import KE.GoesEnum
import HandS.Star
import HandS.Style
import PyProof.ReprBulk
import HandS.FStr
import HandS.Exc
import HandS.ExcField
import HandS.TryOnly
import KE.KExcIs
import HandS.WordsExc
import HandS.Iter
import HandS.Call
import HandS.Defaults
import HandS.MakeKwOnly
import HandS.OwnEq
import OpenK.KOps
import HandS.Finally
import HandS.DictComp
import HandS.DeepEq
import PyProof.P3Eq
import HandS.TryMany
import HandS.Strs
import HandS.StrMore
import HandS.DictEq
import HandS.SetTxt0
import HandS.Set
import PyProof.Rows.SortStr
import HandS.SetBool
import HandS.CallLocal
import HandS.Text
import KE.KUnpackStar
import HandS.DictTup
import HandS.ListItems
import KE.KSortTupAny
import KE.KDictZip
import KE.KDictList
import KE.KTryMore
import KE.KSortTupG
import PyProof.NeKinds
import HandS.HotCalls
import PyProof.DictUpdate
import PyProof.DictIter
import PyProof.FactsAll.dict_1
import HandS.ClsMeth
import PySem.Challenge.RW_exactstop_k14_errors_made
set_option Elab.async false
set_option linter.all false
set_option maxRecDepth 100000
set_option maxHeartbeats 2000000
namespace Mi
open PySem L2
/-- a value as a tree; ref n: the n-th thing of the store -/
inductive D where
 | non | bl (b : Bool) | int (i : Int) | str (x : Str)
 | tup (xs : List D) | lst (xs : List D) | dct (kvs : List (Key × D))
 | ref (n : Nat) | ty (n : String) | fn (x : Str)
/-- a thing of the store: it may change -/
inductive SO where
 | lst (xs : List D) | dct (kvs : List (Key × D)) | ins (c : Str) (fs : List (Str × D)) | fD (kvs : List (Key × D)) | fG (xs : List D)
 | exo (c : Str) (m : Option Nat) | exd (fs : List (Str × D))
abbrev Store := List SO
structure cM where
 cls : Str
 fs : List (Str × D)
/-- a slot: not set, a value, a container cX this slot alone holds -/
inductive Sl where
 | un | sh (d : D) | ow (d : D) | ex (e : cM)
abbrev aH := List Sl
inductive R (α : Type) where
 | ok (a : α) (S : Store) | exc (e : cM) (S : Store) | stuck
abbrev EX := aH → Store → R D
abbrev AX := aH → Store → R (List D)
abbrev BX := aH → Store → R Bool
inductive SR where
 | nx (ρ : aH) (S : Store) | rt (d : D) (S : Store) | bk (ρ : aH) (S : Store) | ct (ρ : aH) (S : Store) | exc (e : cM) (ρ : aH) (S : Store) | stuck
abbrev SX := aH → Store → SR
abbrev FX := List D → Store → R D
@[reducible] def R.bind {α β : Type} (r : R α) (f : α → Store → R β) : R β := match r with
 | .ok a S => f a S
 | .exc e S => .exc e S
 | .stuck => .stuck
def dV : D → V
 | .str x => .str x
 | .int i => .int i
 | _ => .non
end Mi
namespace Mi
open PySem PySem.Spec PyProof.Rows L2
def inC (s : Stmt) (j : Nat) : Stmt := match s with
 | .ClassDef _ _ _ body _ _ _ _ _ _ _ => body.getD j (.Pass ⟨0, 0, 0, 0⟩)
 | _ => .Pass ⟨0, 0, 0, 0⟩
def kY {α : Type} (g : Addr → Option Obj) (k : PySem.W.Frag → α) : Nat → PySem.W.Frag → α
 | 0, acc => match g mainGlobals with
  | some ⟨c, d, t, s⟩ => k ((mainGlobals, ⟨c, d, t, s⟩) :: acc)
  | none => k acc
 | n + 1, acc => match g n with
  | some ⟨c, d, t, s⟩ => kY g k n ((n, ⟨c, d, t, s⟩) :: acc)
  | none => kY g k n acc
theorem uH {α : Type} {g : Addr → Option Obj} {k : PySem.W.Frag → α} : ∀ (n : Nat) (acc : PySem.W.Frag), (∀ a o, acc.lookup a = some o → g a = some o) → ∃ K : PySem.W.Frag, (∀ a o, K.lookup a = some o → g a = some o) ∧ kY g k n acc = k K
 | 0, acc, h => by
  unfold kY
  cases e : g mainGlobals with
  | none => exact ⟨acc, h, rfl⟩
  | some o =>
   obtain ⟨c, d, t, s⟩ := o
   refine ⟨_, fun a o q => ?_, rfl⟩
   by_cases ha : a = mainGlobals
   ·subst ha
    rw [List.lookup_cons_self] at q
    exact e.trans q
   ·rw [List.lookup_cons, show (a == mainGlobals) = false from beq_eq_false_iff_ne.mpr ha] at q
    exact h a o q
 | n + 1, acc, h => by
  unfold kY
  cases e : g n with
  | none => exact uH n acc h
  | some o =>
   obtain ⟨c, d, t, s⟩ := o
   refine uH n _ fun a o q => ?_
   by_cases ha : a = n
   ·subst ha
    rw [List.lookup_cons_self] at q
    exact e.trans q
   ·rw [List.lookup_cons, show (a == n) = false from beq_eq_false_iff_ne.mpr ha] at q
    exact h a o q
abbrev kZ : Type := Bool × List He.FnV × List (Option (List (Option (Str × Int))))
def rO (cs : List (PySem.W.Frag → Bool)) (fn : List He.FnD) (ts : List He.Tab) (K : PySem.W.Frag) : kZ :=
 ((cs.all fun c => c K) && fn.all fun d => (He.Fa.code d.at_ d.qual).ok K && PySem.W.keepIn K (.ref (He.fAd K d.at_)), fn.map fun d => He.fnObs K d.at_, ts.map fun t => He.dicW K (t.1 K))
def xZ (fn : List He.FnD) (ts : List He.Tab) (w : World) : kZ := (true, fn.map He.FnD.val, ts.map fun t => some (He.keysIn w.params t.2))
def lg (cs : List (PySem.W.Frag → Bool)) (fn : List He.FnD) (ts : List He.Tab) (w : World) (K : PySem.W.Frag) : Prop := rO cs fn ts K = xZ fn ts w
def jG (n : Nat) (cs : List (PySem.W.Frag → Bool)) (fn : List He.FnD) (ts : List He.Tab) : PySem.W.Hook where
 α := kZ
 obs := fun s => kY s.heap.get? (rO cs fn ts) n []
 val := fun w => xZ fn ts w
 says := fun w h => ∃ K : PySem.W.Frag, K.In h ∧ lg cs fn ts w K
 of := fun _ s e => by
  obtain ⟨K, hK, q⟩ := uH (g := s.heap.get?) (k := rO cs fn ts) n [] (fun a o z => nomatch (show (none : Option Obj) = some o from z))
  exact ⟨K, hK, q.symm.trans e⟩
 keeps := fun _ _ _ ⟨K, hK, c⟩ k => ⟨K, PySem.W.Frag.In.keeps hK k, c⟩
noncomputable def lu (n : Nat) (cs : List (PySem.W.Frag → Bool)) (fn : List He.FnD) (ts : List He.Tab) (s : PySem.W.SharedT) : kZ := kY (HandSHeadRun.getT s) (rO cs fn ts) n []
theorem Ef {n : Nat} {cs : List (PySem.W.Frag → Bool)} {fn : List He.FnD} {ts : List He.Tab} (s : PySem.W.SharedT) : lu n cs fn ts s = (jG n cs fn ts).obs s.abs := by
 have e : HandSHeadRun.getT s = s.abs.heap.get? := funext (HandSHeadRun.getT_eq s)
 unfold lu
 rw [e] <;> rfl
def eO (K : PySem.W.Frag) (C : Addr) (newId : String) (p : List Value → Bool) : Bool := match K.lookup C with
 | some ⟨.type t, _, .cls cd, sl⟩ => decide (t = "type") && (match cd.mro, sl.toList with
  | .ref C' :: bm, [_, _, _, _, some (.builtin n), _] => decide (C' = C) && (decide (n = newId) && (cd.hasDict && (!cd.hasDel && p bm)))
  | _, _ => false)
 | _ => false
def eqB (a b : Option Value) : Bool := decide (a = b)
def eqP (a b : Option Bool) : Bool := decide (a = b)
def eZ (K : PySem.W.Frag) (C : Addr) : Bool := He.eqO (PySem.W.findIn K (.ref C) "__setattr__") (some (some (.builtin "object.__setattr__"))) && (eqP (PySem.W.subIn K (.ref C) (.type "BaseException")) (some true) && (eqB (PySem.W.typeIn K (.ref C)) (some (.type "type")) && PySem.W.keepIn K (.ref C)))
def fK (K : PySem.W.Frag) (D : Addr) : Bool := He.eqO (PySem.W.findIn K (.ref D) "__getattribute__") (some (some (.builtin "BaseException.__getattribute__"))) && (He.eqO (PySem.W.findIn K (.ref D) "__getattr__") (some none) && (eqP (PySem.W.subIn K (.ref D) (.type "BaseException")) (some true) && (PySem.W.hasDictIn K D &&
 (He.eqO (PySem.W.findIn K (.ref D) "__class__") (some (some (.builtin "object.__class__"))) && (He.eqO (PySem.W.specialIn K (.builtin "object.__class__") "__get__") (some (some (.builtin "getset_descriptor.__get__"))) && (eqP (PySem.W.takesIn K (.builtin "object.__class__")) (some true) && eqP (PySem.W.mroIn K D (.type "object")) (some true)))))))
def yc (K : PySem.W.Frag) (B : Addr) : Bool := PySem.W.readsIn K B (.type "type") && ((match PySem.W.findCls K (.ref B) (.type "type") "__init__" with
 | some (.val v) => decide (v = .builtin "ValueError.__init__")
 | _ => false) && He.eqO (PySem.W.specialIn K (.ref B) "__getattribute__") (some (some (.builtin "type.__getattribute__"))))
end Mi
namespace bO
open PySem PySem.Spec PyProof.Rows L2 Mi
def top (i : Nat) : Stmt := PySem.Challenge.pw_exactstop_k14_errors_made.main.body.getD i (.Pass ⟨0, 0, 0, 0⟩)
abbrev lA : Stmt := inC (top 6) 0
abbrev lB : Stmt := inC (top 7) 0
abbrev lC : Stmt := inC (top 8) 0
abbrev lD : Stmt := inC (top 3) 0
abbrev lE : Stmt := inC (top 2) 0
abbrev lF : Stmt := inC (top 5) 0
abbrev lG : Stmt := inC (top 4) 0
abbrev lH : Stmt := inC (top 13) 0
abbrev lJ : Stmt := inC (top 14) 0
abbrev lK : Stmt := inC (top 15) 0
abbrev lM : Stmt := inC (top 16) 0
abbrev lN : Stmt := inC (top 9) 0
abbrev lO : Stmt := inC (top 10) 0
abbrev lQ : Stmt := inC (top 12) 0
abbrev lU : Stmt := inC (top 11) 0
abbrev jj : Stmt := top 18
abbrev jk : Stmt := top 19
abbrev jm : Stmt := top 20
abbrev jo : Stmt := top 21
abbrev iZ : Stmt := top 22
abbrev jr : Stmt := top 23
abbrev iK : Stmt := top 24
abbrev hR : PySem.W.OpenRow := PySem.W.OpenLaw.row PySem.Challenge.rw_exactstop_k14_errors_made
abbrev hQ : Program := PySem.W.view hR.prog [24]
def Eh : List (Str) := ["ExactStopError", "InvalidProgram", "InvalidLine", "InvalidText", "InvalidRow", "InvalidAmount", "InvalidChoice", "InvalidCommand", "UnknownBudget", "UnknownProcedure", "UnknownTask", "UnknownScope", "NotReady", "NotWaiting", "NothingToUndo", "TooMany", "_law_rng", "_law_draw", "_law_made_errors", "_law_classes", "_law_bases_right", "_law_fields"]
def hNames : List (Str) := Eh
abbrev yd : He.FnD := ⟨("_law_rng", none), "_law_rng", "_law_rng", defArgs jj, defBody jj, defScope jj⟩
abbrev hD1 : He.FnD := ⟨("_law_draw", none), "_law_draw", "_law_draw", defArgs jk, defBody jk, defScope jk⟩
abbrev hD2 : He.FnD := ⟨("_law_made_errors", none), "_law_made_errors", "_law_made_errors", defArgs jm, defBody jm, defScope jm⟩
abbrev yg : He.FnD := ⟨("_law_classes", none), "_law_classes", "_law_classes", defArgs jo, defBody jo, defScope jo⟩
abbrev yh : He.FnD := ⟨("_law_bases_right", none), "_law_bases_right", "_law_bases_right", defArgs iZ, defBody iZ, defScope iZ⟩
abbrev yj : He.FnD := ⟨("_law_fields", none), "_law_fields", "_law_fields", defArgs jr, defBody jr, defScope jr⟩
abbrev yq : He.FnD := ⟨("law", none), "law", "law", defArgs iK, defBody iK, defScope iK⟩
abbrev yr : He.FnD := ⟨("InvalidAmount", some "__init__"), "__init__", "InvalidAmount.__init__", defArgs lA, defBody lA, defScope lA⟩
abbrev yt : He.FnD := ⟨("InvalidChoice", some "__init__"), "__init__", "InvalidChoice.__init__", defArgs lB, defBody lB, defScope lB⟩
abbrev yu : He.FnD := ⟨("InvalidCommand", some "__init__"), "__init__", "InvalidCommand.__init__", defArgs lC, defBody lC, defScope lC⟩
abbrev hD10 : He.FnD := ⟨("InvalidLine", some "__init__"), "__init__", "InvalidLine.__init__", defArgs lD, defBody lD, defScope lD⟩
abbrev hD11 : He.FnD := ⟨("InvalidProgram", some "__init__"), "__init__", "InvalidProgram.__init__", defArgs lE, defBody lE, defScope lE⟩
abbrev yw : He.FnD := ⟨("InvalidRow", some "__init__"), "__init__", "InvalidRow.__init__", defArgs lF, defBody lF, defScope lF⟩
abbrev yx : He.FnD := ⟨("InvalidText", some "__init__"), "__init__", "InvalidText.__init__", defArgs lG, defBody lG, defScope lG⟩
abbrev yC : He.FnD := ⟨("NotReady", some "__init__"), "__init__", "NotReady.__init__", defArgs lH, defBody lH, defScope lH⟩
abbrev yD : He.FnD := ⟨("NotWaiting", some "__init__"), "__init__", "NotWaiting.__init__", defArgs lJ, defBody lJ, defScope lJ⟩
abbrev yE : He.FnD := ⟨("NothingToUndo", some "__init__"), "__init__", "NothingToUndo.__init__", defArgs lK, defBody lK, defScope lK⟩
abbrev hD17 : He.FnD := ⟨("TooMany", some "__init__"), "__init__", "TooMany.__init__", defArgs lM, defBody lM, defScope lM⟩
abbrev yF : He.FnD := ⟨("UnknownBudget", some "__init__"), "__init__", "UnknownBudget.__init__", defArgs lN, defBody lN, defScope lN⟩
abbrev yG : He.FnD := ⟨("UnknownProcedure", some "__init__"), "__init__", "UnknownProcedure.__init__", defArgs lO, defBody lO, defScope lO⟩
abbrev yH : He.FnD := ⟨("UnknownScope", some "__init__"), "__init__", "UnknownScope.__init__", defArgs lQ, defBody lQ, defScope lQ⟩
abbrev yI : He.FnD := ⟨("UnknownTask", some "__init__"), "__init__", "UnknownTask.__init__", defArgs lU, defBody lU, defScope lU⟩
def Ei : List (He.FnD) := [yd, hD1, hD2, yg, yh, yj, yq, yr, yt, yu, hD10, hD11, yw, yx, yC, yD, yE, hD17, yF, yG, yH, yI]
def ie : List (He.FnD) := Ei
def hTb : List (He.Tab) := []
def Ek : List (PySem.W.Frag → Bool) := [(fun K => He.eqO (PySem.W.nsIn K mainGlobals "_law_rng") (some (some (.ref (He.ga K "_law_rng"))))), (fun K => He.eqO (PySem.W.nsIn K mainGlobals "_law_draw") (some (some (.ref (He.ga K "_law_draw"))))), (fun K => He.eqO (PySem.W.nsIn K mainGlobals "_law_made_errors") (some (some (.ref (He.ga K "_law_made_errors"))))), (fun K => He.eqO (PySem.W.nsIn K mainGlobals "_law_classes") (some (some (.ref (He.ga K "_law_classes"))))), (fun K => He.eqO (PySem.W.nsIn K mainGlobals "_law_bases_right") (some (some (.ref (He.ga K "_law_bases_right"))))), (fun K => He.eqO (PySem.W.nsIn K mainGlobals "_law_fields") (some (some (.ref (He.ga K "_law_fields"))))), (fun K => He.eqO (PySem.W.nsIn K mainGlobals "law") (some (some (.ref (He.ga K "law"))))), (fun K => He.eqO (PySem.W.nsIn K mainGlobals "ArithmeticError") (some none)), (fun K => He.eqO (PySem.W.nsIn K mainGlobals "IndexError") (some none)), (fun K => He.eqO (PySem.W.nsIn K mainGlobals "KeyError") (some none)), (fun K => He.eqO (PySem.W.nsIn K mainGlobals "LookupError") (some none)), (fun K => He.eqO (PySem.W.nsIn K mainGlobals "NotImplementedError") (some none)), (fun K => He.eqO (PySem.W.nsIn K mainGlobals "OverflowError") (some none)), (fun K => He.eqO (PySem.W.nsIn K mainGlobals "RuntimeError") (some none)), (fun K => He.eqO (PySem.W.nsIn K mainGlobals "ValueError") (some none)), (fun K => He.eqO (PySem.W.nsIn K mainGlobals "ZeroDivisionError") (some none)), (fun K => He.eqO (PySem.W.nsIn K mainGlobals "abs") (some none)), (fun K => He.eqO (PySem.W.nsIn K mainGlobals "divmod") (some none)), (fun K => He.eqO (PySem.W.nsIn K mainGlobals "isinstance") (some none)), (fun K => He.eqO (PySem.W.nsIn K mainGlobals "len") (some none)), (fun K => He.eqO (PySem.W.nsIn K mainGlobals "max") (some none)), (fun K => He.eqO (PySem.W.nsIn K mainGlobals "min") (some none)), (fun K => He.eqO (PySem.W.nsIn K mainGlobals "range") (some none)), (fun K => He.eqO (PySem.W.nsIn K mainGlobals "repr") (some none)), (fun K => He.eqO (PySem.W.nsIn K mainGlobals "sum") (some none)), (fun K => He.eqO (PySem.W.nsIn K mainGlobals "ExactStopError") (some (some (.ref (He.ga K "ExactStopError"))))), (fun K => He.eqO (PySem.W.nsIn K mainGlobals "InvalidAmount") (some (some (.ref (He.ga K "InvalidAmount"))))), (fun K => He.eqO (PySem.W.nsIn K mainGlobals "InvalidChoice") (some (some (.ref (He.ga K "InvalidChoice"))))), (fun K => He.eqO (PySem.W.nsIn K mainGlobals "InvalidCommand") (some (some (.ref (He.ga K "InvalidCommand"))))), (fun K => He.eqO (PySem.W.nsIn K mainGlobals "InvalidLine") (some (some (.ref (He.ga K "InvalidLine")))))]
def El : List (PySem.W.Frag → Bool) := [(fun K => He.eqO (PySem.W.nsIn K mainGlobals "InvalidProgram") (some (some (.ref (He.ga K "InvalidProgram"))))), (fun K => He.eqO (PySem.W.nsIn K mainGlobals "InvalidRow") (some (some (.ref (He.ga K "InvalidRow"))))), (fun K => He.eqO (PySem.W.nsIn K mainGlobals "InvalidText") (some (some (.ref (He.ga K "InvalidText"))))), (fun K => He.eqO (PySem.W.nsIn K mainGlobals "NotReady") (some (some (.ref (He.ga K "NotReady"))))), (fun K => He.eqO (PySem.W.nsIn K mainGlobals "NotWaiting") (some (some (.ref (He.ga K "NotWaiting"))))), (fun K => He.eqO (PySem.W.nsIn K mainGlobals "NothingToUndo") (some (some (.ref (He.ga K "NothingToUndo"))))), (fun K => He.eqO (PySem.W.nsIn K mainGlobals "TooMany") (some (some (.ref (He.ga K "TooMany"))))), (fun K => He.eqO (PySem.W.nsIn K mainGlobals "UnknownBudget") (some (some (.ref (He.ga K "UnknownBudget"))))), (fun K => He.eqO (PySem.W.nsIn K mainGlobals "UnknownProcedure") (some (some (.ref (He.ga K "UnknownProcedure"))))), (fun K => He.eqO (PySem.W.nsIn K mainGlobals "UnknownScope") (some (some (.ref (He.ga K "UnknownScope"))))), (fun K => He.eqO (PySem.W.nsIn K mainGlobals "UnknownTask") (some (some (.ref (He.ga K "UnknownTask"))))), (fun K => PySem.W.keepIn K (.ref (He.ga K "ExactStopError"))), (fun K => PySem.W.keepIn K (.ref (He.ga K "InvalidAmount"))), (fun K => PySem.W.keepIn K (.ref (He.ga K "InvalidChoice"))), (fun K => PySem.W.keepIn K (.ref (He.ga K "InvalidCommand"))), (fun K => PySem.W.keepIn K (.ref (He.ga K "InvalidLine"))), (fun K => PySem.W.keepIn K (.ref (He.ga K "InvalidProgram"))), (fun K => PySem.W.keepIn K (.ref (He.ga K "InvalidRow"))), (fun K => PySem.W.keepIn K (.ref (He.ga K "InvalidText"))), (fun K => PySem.W.keepIn K (.ref (He.ga K "NotReady"))), (fun K => PySem.W.keepIn K (.ref (He.ga K "NotWaiting"))), (fun K => PySem.W.keepIn K (.ref (He.ga K "NothingToUndo"))), (fun K => PySem.W.keepIn K (.ref (He.ga K "TooMany"))), (fun K => PySem.W.keepIn K (.ref (He.ga K "UnknownBudget"))), (fun K => PySem.W.keepIn K (.ref (He.ga K "UnknownProcedure"))), (fun K => PySem.W.keepIn K (.ref (He.ga K "UnknownScope"))), (fun K => PySem.W.keepIn K (.ref (He.ga K "UnknownTask"))), (fun K => He.eqO (PySem.W.findIn K (.ref (He.ga K "InvalidAmount")) "__init__") (some (some (.ref (He.ma K (He.ga K "InvalidAmount") "__init__"))))), (fun K => eZ K (He.ga K "InvalidAmount")), (fun K => eO K (He.ga K "InvalidAmount") "ValueError.__new__" PySem.HandSPX.refsVE)]
def Em : List (PySem.W.Frag → Bool) := [(fun K => eqB (PySem.W.typeIn K (.ref (He.ma K (He.ga K "InvalidAmount") "__init__"))) (some (.type "function"))), (fun K => He.eqO (PySem.W.findIn K (.ref (He.ga K "InvalidAmount")) "value") (some none)), (fun K => fK K (He.ga K "InvalidAmount")), (fun K => He.eqO (PySem.W.findIn K (.ref (He.ga K "InvalidChoice")) "__init__") (some (some (.ref (He.ma K (He.ga K "InvalidChoice") "__init__"))))), (fun K => eZ K (He.ga K "InvalidChoice")), (fun K => eO K (He.ga K "InvalidChoice") "ValueError.__new__" PySem.HandSPX.refsVE), (fun K => eqB (PySem.W.typeIn K (.ref (He.ma K (He.ga K "InvalidChoice") "__init__"))) (some (.type "function"))), (fun K => He.eqO (PySem.W.findIn K (.ref (He.ga K "InvalidChoice")) "value") (some none)), (fun K => fK K (He.ga K "InvalidChoice")), (fun K => He.eqO (PySem.W.findIn K (.ref (He.ga K "InvalidCommand")) "__init__") (some (some (.ref (He.ma K (He.ga K "InvalidCommand") "__init__"))))), (fun K => eZ K (He.ga K "InvalidCommand")), (fun K => eO K (He.ga K "InvalidCommand") "ValueError.__new__" PySem.HandSPX.refsVE), (fun K => eqB (PySem.W.typeIn K (.ref (He.ma K (He.ga K "InvalidCommand") "__init__"))) (some (.type "function"))), (fun K => He.eqO (PySem.W.findIn K (.ref (He.ga K "InvalidCommand")) "value") (some none)), (fun K => fK K (He.ga K "InvalidCommand")), (fun K => He.eqO (PySem.W.findIn K (.ref (He.ga K "InvalidLine")) "__init__") (some (some (.ref (He.ma K (He.ga K "InvalidLine") "__init__"))))), (fun K => eZ K (He.ga K "InvalidLine")), (fun K => eO K (He.ga K "InvalidLine") "ValueError.__new__" PySem.HandSPX.refsVE), (fun K => eqB (PySem.W.typeIn K (.ref (He.ma K (He.ga K "InvalidLine") "__init__"))) (some (.type "function"))), (fun K => He.eqO (PySem.W.findIn K (.ref (He.ga K "InvalidLine")) "line") (some none)), (fun K => fK K (He.ga K "InvalidLine")), (fun K => He.eqO (PySem.W.findIn K (.ref (He.ga K "InvalidProgram")) "__init__") (some (some (.ref (He.ma K (He.ga K "InvalidProgram") "__init__"))))), (fun K => eZ K (He.ga K "InvalidProgram")), (fun K => eO K (He.ga K "InvalidProgram") "ValueError.__new__" PySem.HandSPX.refsVE), (fun K => eqB (PySem.W.typeIn K (.ref (He.ma K (He.ga K "InvalidProgram") "__init__"))) (some (.type "function"))), (fun K => He.eqO (PySem.W.findIn K (.ref (He.ga K "InvalidProgram")) "reason") (some none)), (fun K => He.eqO (PySem.W.findIn K (.ref (He.ga K "InvalidProgram")) "path") (some none)), (fun K => fK K (He.ga K "InvalidProgram")), (fun K => He.eqO (PySem.W.findIn K (.ref (He.ga K "InvalidRow")) "__init__") (some (some (.ref (He.ma K (He.ga K "InvalidRow") "__init__"))))), (fun K => eZ K (He.ga K "InvalidRow"))]
def En : List (PySem.W.Frag → Bool) := [(fun K => eO K (He.ga K "InvalidRow") "ValueError.__new__" PySem.HandSPX.refsVE), (fun K => eqB (PySem.W.typeIn K (.ref (He.ma K (He.ga K "InvalidRow") "__init__"))) (some (.type "function"))), (fun K => He.eqO (PySem.W.findIn K (.ref (He.ga K "InvalidRow")) "value") (some none)), (fun K => fK K (He.ga K "InvalidRow")), (fun K => He.eqO (PySem.W.findIn K (.ref (He.ga K "InvalidText")) "__init__") (some (some (.ref (He.ma K (He.ga K "InvalidText") "__init__"))))), (fun K => eZ K (He.ga K "InvalidText")), (fun K => eO K (He.ga K "InvalidText") "ValueError.__new__" PySem.HandSPX.refsVE), (fun K => eqB (PySem.W.typeIn K (.ref (He.ma K (He.ga K "InvalidText") "__init__"))) (some (.type "function"))), (fun K => He.eqO (PySem.W.findIn K (.ref (He.ga K "InvalidText")) "value") (some none)), (fun K => fK K (He.ga K "InvalidText")), (fun K => He.eqO (PySem.W.findIn K (.ref (He.ga K "NotReady")) "__init__") (some (some (.ref (He.ma K (He.ga K "NotReady") "__init__"))))), (fun K => eZ K (He.ga K "NotReady")), (fun K => eO K (He.ga K "NotReady") "RuntimeError.__new__" (PySem.W.excTail [.type "RuntimeError", .type "Exception", .type "BaseException", .type "object"])), (fun K => eqB (PySem.W.typeIn K (.ref (He.ma K (He.ga K "NotReady") "__init__"))) (some (.type "function"))), (fun K => He.eqO (PySem.W.findIn K (.ref (He.ga K "NotReady")) "value") (some none)), (fun K => fK K (He.ga K "NotReady")), (fun K => He.eqO (PySem.W.findIn K (.ref (He.ga K "NotWaiting")) "__init__") (some (some (.ref (He.ma K (He.ga K "NotWaiting") "__init__"))))), (fun K => eZ K (He.ga K "NotWaiting")), (fun K => eO K (He.ga K "NotWaiting") "RuntimeError.__new__" (PySem.W.excTail [.type "RuntimeError", .type "Exception", .type "BaseException", .type "object"])), (fun K => eqB (PySem.W.typeIn K (.ref (He.ma K (He.ga K "NotWaiting") "__init__"))) (some (.type "function"))), (fun K => He.eqO (PySem.W.findIn K (.ref (He.ga K "NotWaiting")) "value") (some none)), (fun K => fK K (He.ga K "NotWaiting")), (fun K => He.eqO (PySem.W.findIn K (.ref (He.ga K "NothingToUndo")) "__init__") (some (some (.ref (He.ma K (He.ga K "NothingToUndo") "__init__"))))), (fun K => eZ K (He.ga K "NothingToUndo")), (fun K => eO K (He.ga K "NothingToUndo") "RuntimeError.__new__" (PySem.W.excTail [.type "RuntimeError", .type "Exception", .type "BaseException", .type "object"])), (fun K => eqB (PySem.W.typeIn K (.ref (He.ma K (He.ga K "NothingToUndo") "__init__"))) (some (.type "function"))), (fun K => fK K (He.ga K "NothingToUndo")), (fun K => He.eqO (PySem.W.findIn K (.ref (He.ga K "TooMany")) "__init__") (some (some (.ref (He.ma K (He.ga K "TooMany") "__init__"))))), (fun K => eZ K (He.ga K "TooMany")), (fun K => eO K (He.ga K "TooMany") "ArithmeticError.__new__" (PySem.W.excTail [.type "ArithmeticError", .type "Exception", .type "BaseException", .type "object"]))]
def Eo : List (PySem.W.Frag → Bool) := [(fun K => eqB (PySem.W.typeIn K (.ref (He.ma K (He.ga K "TooMany") "__init__"))) (some (.type "function"))), (fun K => He.eqO (PySem.W.findIn K (.ref (He.ga K "TooMany")) "limit") (some none)), (fun K => fK K (He.ga K "TooMany")), (fun K => He.eqO (PySem.W.findIn K (.ref (He.ga K "UnknownBudget")) "__init__") (some (some (.ref (He.ma K (He.ga K "UnknownBudget") "__init__"))))), (fun K => eZ K (He.ga K "UnknownBudget")), (fun K => eO K (He.ga K "UnknownBudget") "LookupError.__new__" (PySem.W.excTail [.type "LookupError", .type "Exception", .type "BaseException", .type "object"])), (fun K => eqB (PySem.W.typeIn K (.ref (He.ma K (He.ga K "UnknownBudget") "__init__"))) (some (.type "function"))), (fun K => He.eqO (PySem.W.findIn K (.ref (He.ga K "UnknownBudget")) "value") (some none)), (fun K => fK K (He.ga K "UnknownBudget")), (fun K => He.eqO (PySem.W.findIn K (.ref (He.ga K "UnknownProcedure")) "__init__") (some (some (.ref (He.ma K (He.ga K "UnknownProcedure") "__init__"))))), (fun K => eZ K (He.ga K "UnknownProcedure")), (fun K => eO K (He.ga K "UnknownProcedure") "LookupError.__new__" (PySem.W.excTail [.type "LookupError", .type "Exception", .type "BaseException", .type "object"])), (fun K => eqB (PySem.W.typeIn K (.ref (He.ma K (He.ga K "UnknownProcedure") "__init__"))) (some (.type "function"))), (fun K => He.eqO (PySem.W.findIn K (.ref (He.ga K "UnknownProcedure")) "value") (some none)), (fun K => fK K (He.ga K "UnknownProcedure")), (fun K => He.eqO (PySem.W.findIn K (.ref (He.ga K "UnknownScope")) "__init__") (some (some (.ref (He.ma K (He.ga K "UnknownScope") "__init__"))))), (fun K => eZ K (He.ga K "UnknownScope")), (fun K => eO K (He.ga K "UnknownScope") "LookupError.__new__" (PySem.W.excTail [.type "LookupError", .type "Exception", .type "BaseException", .type "object"])), (fun K => eqB (PySem.W.typeIn K (.ref (He.ma K (He.ga K "UnknownScope") "__init__"))) (some (.type "function"))), (fun K => He.eqO (PySem.W.findIn K (.ref (He.ga K "UnknownScope")) "value") (some none)), (fun K => fK K (He.ga K "UnknownScope")), (fun K => He.eqO (PySem.W.findIn K (.ref (He.ga K "UnknownTask")) "__init__") (some (some (.ref (He.ma K (He.ga K "UnknownTask") "__init__"))))), (fun K => eZ K (He.ga K "UnknownTask")), (fun K => eO K (He.ga K "UnknownTask") "LookupError.__new__" (PySem.W.excTail [.type "LookupError", .type "Exception", .type "BaseException", .type "object"])), (fun K => eqB (PySem.W.typeIn K (.ref (He.ma K (He.ga K "UnknownTask") "__init__"))) (some (.type "function"))), (fun K => He.eqO (PySem.W.findIn K (.ref (He.ga K "UnknownTask")) "value") (some none)), (fun K => fK K (He.ga K "UnknownTask")), (fun K => yc K (He.ga K "ExactStopError")), (fun K => eqP (PySem.W.kitOne K (.ref (He.ga K "InvalidAmount")) (.ref (He.ga K "ExactStopError"))) (some true)), (fun K => eqP (PySem.W.kitOne K (.ref (He.ga K "InvalidAmount")) (.ref (He.ga K "InvalidAmount"))) (some true))]
def Ep : List (PySem.W.Frag → Bool) := [(fun K => eqP (PySem.W.kitOne K (.ref (He.ga K "InvalidAmount")) (.ref (He.ga K "InvalidChoice"))) (some false)), (fun K => eqP (PySem.W.kitOne K (.ref (He.ga K "InvalidAmount")) (.ref (He.ga K "InvalidCommand"))) (some false)), (fun K => eqP (PySem.W.kitOne K (.ref (He.ga K "InvalidAmount")) (.ref (He.ga K "InvalidLine"))) (some false)), (fun K => eqP (PySem.W.kitOne K (.ref (He.ga K "InvalidAmount")) (.ref (He.ga K "InvalidProgram"))) (some false)), (fun K => eqP (PySem.W.kitOne K (.ref (He.ga K "InvalidAmount")) (.ref (He.ga K "InvalidRow"))) (some false)), (fun K => eqP (PySem.W.kitOne K (.ref (He.ga K "InvalidAmount")) (.ref (He.ga K "InvalidText"))) (some false)), (fun K => eqP (PySem.W.kitOne K (.ref (He.ga K "InvalidAmount")) (.ref (He.ga K "NotReady"))) (some false)), (fun K => eqP (PySem.W.kitOne K (.ref (He.ga K "InvalidAmount")) (.ref (He.ga K "NotWaiting"))) (some false)), (fun K => eqP (PySem.W.kitOne K (.ref (He.ga K "InvalidAmount")) (.ref (He.ga K "NothingToUndo"))) (some false)), (fun K => eqP (PySem.W.kitOne K (.ref (He.ga K "InvalidAmount")) (.ref (He.ga K "TooMany"))) (some false)), (fun K => eqP (PySem.W.kitOne K (.ref (He.ga K "InvalidAmount")) (.ref (He.ga K "UnknownBudget"))) (some false)), (fun K => eqP (PySem.W.kitOne K (.ref (He.ga K "InvalidAmount")) (.ref (He.ga K "UnknownProcedure"))) (some false)), (fun K => eqP (PySem.W.kitOne K (.ref (He.ga K "InvalidAmount")) (.ref (He.ga K "UnknownScope"))) (some false)), (fun K => eqP (PySem.W.kitOne K (.ref (He.ga K "InvalidAmount")) (.ref (He.ga K "UnknownTask"))) (some false)), (fun K => eqP (PySem.W.kitOne K (.ref (He.ga K "InvalidChoice")) (.ref (He.ga K "ExactStopError"))) (some true)), (fun K => eqP (PySem.W.kitOne K (.ref (He.ga K "InvalidChoice")) (.ref (He.ga K "InvalidAmount"))) (some false)), (fun K => eqP (PySem.W.kitOne K (.ref (He.ga K "InvalidChoice")) (.ref (He.ga K "InvalidChoice"))) (some true)), (fun K => eqP (PySem.W.kitOne K (.ref (He.ga K "InvalidChoice")) (.ref (He.ga K "InvalidCommand"))) (some false)), (fun K => eqP (PySem.W.kitOne K (.ref (He.ga K "InvalidChoice")) (.ref (He.ga K "InvalidLine"))) (some false)), (fun K => eqP (PySem.W.kitOne K (.ref (He.ga K "InvalidChoice")) (.ref (He.ga K "InvalidProgram"))) (some false)), (fun K => eqP (PySem.W.kitOne K (.ref (He.ga K "InvalidChoice")) (.ref (He.ga K "InvalidRow"))) (some false)), (fun K => eqP (PySem.W.kitOne K (.ref (He.ga K "InvalidChoice")) (.ref (He.ga K "InvalidText"))) (some false)), (fun K => eqP (PySem.W.kitOne K (.ref (He.ga K "InvalidChoice")) (.ref (He.ga K "NotReady"))) (some false)), (fun K => eqP (PySem.W.kitOne K (.ref (He.ga K "InvalidChoice")) (.ref (He.ga K "NotWaiting"))) (some false)), (fun K => eqP (PySem.W.kitOne K (.ref (He.ga K "InvalidChoice")) (.ref (He.ga K "NothingToUndo"))) (some false)), (fun K => eqP (PySem.W.kitOne K (.ref (He.ga K "InvalidChoice")) (.ref (He.ga K "TooMany"))) (some false)), (fun K => eqP (PySem.W.kitOne K (.ref (He.ga K "InvalidChoice")) (.ref (He.ga K "UnknownBudget"))) (some false)), (fun K => eqP (PySem.W.kitOne K (.ref (He.ga K "InvalidChoice")) (.ref (He.ga K "UnknownProcedure"))) (some false)), (fun K => eqP (PySem.W.kitOne K (.ref (He.ga K "InvalidChoice")) (.ref (He.ga K "UnknownScope"))) (some false)), (fun K => eqP (PySem.W.kitOne K (.ref (He.ga K "InvalidChoice")) (.ref (He.ga K "UnknownTask"))) (some false))]
def Es : List (PySem.W.Frag → Bool) := [(fun K => eqP (PySem.W.kitOne K (.ref (He.ga K "InvalidCommand")) (.ref (He.ga K "ExactStopError"))) (some true)), (fun K => eqP (PySem.W.kitOne K (.ref (He.ga K "InvalidCommand")) (.ref (He.ga K "InvalidAmount"))) (some false)), (fun K => eqP (PySem.W.kitOne K (.ref (He.ga K "InvalidCommand")) (.ref (He.ga K "InvalidChoice"))) (some false)), (fun K => eqP (PySem.W.kitOne K (.ref (He.ga K "InvalidCommand")) (.ref (He.ga K "InvalidCommand"))) (some true)), (fun K => eqP (PySem.W.kitOne K (.ref (He.ga K "InvalidCommand")) (.ref (He.ga K "InvalidLine"))) (some false)), (fun K => eqP (PySem.W.kitOne K (.ref (He.ga K "InvalidCommand")) (.ref (He.ga K "InvalidProgram"))) (some false)), (fun K => eqP (PySem.W.kitOne K (.ref (He.ga K "InvalidCommand")) (.ref (He.ga K "InvalidRow"))) (some false)), (fun K => eqP (PySem.W.kitOne K (.ref (He.ga K "InvalidCommand")) (.ref (He.ga K "InvalidText"))) (some false)), (fun K => eqP (PySem.W.kitOne K (.ref (He.ga K "InvalidCommand")) (.ref (He.ga K "NotReady"))) (some false)), (fun K => eqP (PySem.W.kitOne K (.ref (He.ga K "InvalidCommand")) (.ref (He.ga K "NotWaiting"))) (some false)), (fun K => eqP (PySem.W.kitOne K (.ref (He.ga K "InvalidCommand")) (.ref (He.ga K "NothingToUndo"))) (some false)), (fun K => eqP (PySem.W.kitOne K (.ref (He.ga K "InvalidCommand")) (.ref (He.ga K "TooMany"))) (some false)), (fun K => eqP (PySem.W.kitOne K (.ref (He.ga K "InvalidCommand")) (.ref (He.ga K "UnknownBudget"))) (some false)), (fun K => eqP (PySem.W.kitOne K (.ref (He.ga K "InvalidCommand")) (.ref (He.ga K "UnknownProcedure"))) (some false)), (fun K => eqP (PySem.W.kitOne K (.ref (He.ga K "InvalidCommand")) (.ref (He.ga K "UnknownScope"))) (some false)), (fun K => eqP (PySem.W.kitOne K (.ref (He.ga K "InvalidCommand")) (.ref (He.ga K "UnknownTask"))) (some false)), (fun K => eqP (PySem.W.kitOne K (.ref (He.ga K "InvalidLine")) (.ref (He.ga K "ExactStopError"))) (some true)), (fun K => eqP (PySem.W.kitOne K (.ref (He.ga K "InvalidLine")) (.ref (He.ga K "InvalidAmount"))) (some false)), (fun K => eqP (PySem.W.kitOne K (.ref (He.ga K "InvalidLine")) (.ref (He.ga K "InvalidChoice"))) (some false)), (fun K => eqP (PySem.W.kitOne K (.ref (He.ga K "InvalidLine")) (.ref (He.ga K "InvalidCommand"))) (some false)), (fun K => eqP (PySem.W.kitOne K (.ref (He.ga K "InvalidLine")) (.ref (He.ga K "InvalidLine"))) (some true)), (fun K => eqP (PySem.W.kitOne K (.ref (He.ga K "InvalidLine")) (.ref (He.ga K "InvalidProgram"))) (some false)), (fun K => eqP (PySem.W.kitOne K (.ref (He.ga K "InvalidLine")) (.ref (He.ga K "InvalidRow"))) (some false)), (fun K => eqP (PySem.W.kitOne K (.ref (He.ga K "InvalidLine")) (.ref (He.ga K "InvalidText"))) (some false)), (fun K => eqP (PySem.W.kitOne K (.ref (He.ga K "InvalidLine")) (.ref (He.ga K "NotReady"))) (some false)), (fun K => eqP (PySem.W.kitOne K (.ref (He.ga K "InvalidLine")) (.ref (He.ga K "NotWaiting"))) (some false)), (fun K => eqP (PySem.W.kitOne K (.ref (He.ga K "InvalidLine")) (.ref (He.ga K "NothingToUndo"))) (some false)), (fun K => eqP (PySem.W.kitOne K (.ref (He.ga K "InvalidLine")) (.ref (He.ga K "TooMany"))) (some false)), (fun K => eqP (PySem.W.kitOne K (.ref (He.ga K "InvalidLine")) (.ref (He.ga K "UnknownBudget"))) (some false)), (fun K => eqP (PySem.W.kitOne K (.ref (He.ga K "InvalidLine")) (.ref (He.ga K "UnknownProcedure"))) (some false))]
def Et : List (PySem.W.Frag → Bool) := [(fun K => eqP (PySem.W.kitOne K (.ref (He.ga K "InvalidLine")) (.ref (He.ga K "UnknownScope"))) (some false)), (fun K => eqP (PySem.W.kitOne K (.ref (He.ga K "InvalidLine")) (.ref (He.ga K "UnknownTask"))) (some false)), (fun K => eqP (PySem.W.kitOne K (.ref (He.ga K "InvalidProgram")) (.ref (He.ga K "ExactStopError"))) (some true)), (fun K => eqP (PySem.W.kitOne K (.ref (He.ga K "InvalidProgram")) (.ref (He.ga K "InvalidAmount"))) (some false)), (fun K => eqP (PySem.W.kitOne K (.ref (He.ga K "InvalidProgram")) (.ref (He.ga K "InvalidChoice"))) (some false)), (fun K => eqP (PySem.W.kitOne K (.ref (He.ga K "InvalidProgram")) (.ref (He.ga K "InvalidCommand"))) (some false)), (fun K => eqP (PySem.W.kitOne K (.ref (He.ga K "InvalidProgram")) (.ref (He.ga K "InvalidLine"))) (some false)), (fun K => eqP (PySem.W.kitOne K (.ref (He.ga K "InvalidProgram")) (.ref (He.ga K "InvalidProgram"))) (some true)), (fun K => eqP (PySem.W.kitOne K (.ref (He.ga K "InvalidProgram")) (.ref (He.ga K "InvalidRow"))) (some false)), (fun K => eqP (PySem.W.kitOne K (.ref (He.ga K "InvalidProgram")) (.ref (He.ga K "InvalidText"))) (some false)), (fun K => eqP (PySem.W.kitOne K (.ref (He.ga K "InvalidProgram")) (.ref (He.ga K "NotReady"))) (some false)), (fun K => eqP (PySem.W.kitOne K (.ref (He.ga K "InvalidProgram")) (.ref (He.ga K "NotWaiting"))) (some false)), (fun K => eqP (PySem.W.kitOne K (.ref (He.ga K "InvalidProgram")) (.ref (He.ga K "NothingToUndo"))) (some false)), (fun K => eqP (PySem.W.kitOne K (.ref (He.ga K "InvalidProgram")) (.ref (He.ga K "TooMany"))) (some false)), (fun K => eqP (PySem.W.kitOne K (.ref (He.ga K "InvalidProgram")) (.ref (He.ga K "UnknownBudget"))) (some false)), (fun K => eqP (PySem.W.kitOne K (.ref (He.ga K "InvalidProgram")) (.ref (He.ga K "UnknownProcedure"))) (some false)), (fun K => eqP (PySem.W.kitOne K (.ref (He.ga K "InvalidProgram")) (.ref (He.ga K "UnknownScope"))) (some false)), (fun K => eqP (PySem.W.kitOne K (.ref (He.ga K "InvalidProgram")) (.ref (He.ga K "UnknownTask"))) (some false)), (fun K => eqP (PySem.W.kitOne K (.ref (He.ga K "InvalidRow")) (.ref (He.ga K "ExactStopError"))) (some true)), (fun K => eqP (PySem.W.kitOne K (.ref (He.ga K "InvalidRow")) (.ref (He.ga K "InvalidAmount"))) (some false)), (fun K => eqP (PySem.W.kitOne K (.ref (He.ga K "InvalidRow")) (.ref (He.ga K "InvalidChoice"))) (some false)), (fun K => eqP (PySem.W.kitOne K (.ref (He.ga K "InvalidRow")) (.ref (He.ga K "InvalidCommand"))) (some false)), (fun K => eqP (PySem.W.kitOne K (.ref (He.ga K "InvalidRow")) (.ref (He.ga K "InvalidLine"))) (some false)), (fun K => eqP (PySem.W.kitOne K (.ref (He.ga K "InvalidRow")) (.ref (He.ga K "InvalidProgram"))) (some false)), (fun K => eqP (PySem.W.kitOne K (.ref (He.ga K "InvalidRow")) (.ref (He.ga K "InvalidRow"))) (some true)), (fun K => eqP (PySem.W.kitOne K (.ref (He.ga K "InvalidRow")) (.ref (He.ga K "InvalidText"))) (some false)), (fun K => eqP (PySem.W.kitOne K (.ref (He.ga K "InvalidRow")) (.ref (He.ga K "NotReady"))) (some false)), (fun K => eqP (PySem.W.kitOne K (.ref (He.ga K "InvalidRow")) (.ref (He.ga K "NotWaiting"))) (some false)), (fun K => eqP (PySem.W.kitOne K (.ref (He.ga K "InvalidRow")) (.ref (He.ga K "NothingToUndo"))) (some false)), (fun K => eqP (PySem.W.kitOne K (.ref (He.ga K "InvalidRow")) (.ref (He.ga K "TooMany"))) (some false))]
def Eu : List (PySem.W.Frag → Bool) := [(fun K => eqP (PySem.W.kitOne K (.ref (He.ga K "InvalidRow")) (.ref (He.ga K "UnknownBudget"))) (some false)), (fun K => eqP (PySem.W.kitOne K (.ref (He.ga K "InvalidRow")) (.ref (He.ga K "UnknownProcedure"))) (some false)), (fun K => eqP (PySem.W.kitOne K (.ref (He.ga K "InvalidRow")) (.ref (He.ga K "UnknownScope"))) (some false)), (fun K => eqP (PySem.W.kitOne K (.ref (He.ga K "InvalidRow")) (.ref (He.ga K "UnknownTask"))) (some false)), (fun K => eqP (PySem.W.kitOne K (.ref (He.ga K "InvalidText")) (.ref (He.ga K "ExactStopError"))) (some true)), (fun K => eqP (PySem.W.kitOne K (.ref (He.ga K "InvalidText")) (.ref (He.ga K "InvalidAmount"))) (some false)), (fun K => eqP (PySem.W.kitOne K (.ref (He.ga K "InvalidText")) (.ref (He.ga K "InvalidChoice"))) (some false)), (fun K => eqP (PySem.W.kitOne K (.ref (He.ga K "InvalidText")) (.ref (He.ga K "InvalidCommand"))) (some false)), (fun K => eqP (PySem.W.kitOne K (.ref (He.ga K "InvalidText")) (.ref (He.ga K "InvalidLine"))) (some false)), (fun K => eqP (PySem.W.kitOne K (.ref (He.ga K "InvalidText")) (.ref (He.ga K "InvalidProgram"))) (some false)), (fun K => eqP (PySem.W.kitOne K (.ref (He.ga K "InvalidText")) (.ref (He.ga K "InvalidRow"))) (some false)), (fun K => eqP (PySem.W.kitOne K (.ref (He.ga K "InvalidText")) (.ref (He.ga K "InvalidText"))) (some true)), (fun K => eqP (PySem.W.kitOne K (.ref (He.ga K "InvalidText")) (.ref (He.ga K "NotReady"))) (some false)), (fun K => eqP (PySem.W.kitOne K (.ref (He.ga K "InvalidText")) (.ref (He.ga K "NotWaiting"))) (some false)), (fun K => eqP (PySem.W.kitOne K (.ref (He.ga K "InvalidText")) (.ref (He.ga K "NothingToUndo"))) (some false)), (fun K => eqP (PySem.W.kitOne K (.ref (He.ga K "InvalidText")) (.ref (He.ga K "TooMany"))) (some false)), (fun K => eqP (PySem.W.kitOne K (.ref (He.ga K "InvalidText")) (.ref (He.ga K "UnknownBudget"))) (some false)), (fun K => eqP (PySem.W.kitOne K (.ref (He.ga K "InvalidText")) (.ref (He.ga K "UnknownProcedure"))) (some false)), (fun K => eqP (PySem.W.kitOne K (.ref (He.ga K "InvalidText")) (.ref (He.ga K "UnknownScope"))) (some false)), (fun K => eqP (PySem.W.kitOne K (.ref (He.ga K "InvalidText")) (.ref (He.ga K "UnknownTask"))) (some false)), (fun K => eqP (PySem.W.kitOne K (.ref (He.ga K "NotReady")) (.ref (He.ga K "ExactStopError"))) (some false)), (fun K => eqP (PySem.W.kitOne K (.ref (He.ga K "NotReady")) (.ref (He.ga K "InvalidAmount"))) (some false)), (fun K => eqP (PySem.W.kitOne K (.ref (He.ga K "NotReady")) (.ref (He.ga K "InvalidChoice"))) (some false)), (fun K => eqP (PySem.W.kitOne K (.ref (He.ga K "NotReady")) (.ref (He.ga K "InvalidCommand"))) (some false)), (fun K => eqP (PySem.W.kitOne K (.ref (He.ga K "NotReady")) (.ref (He.ga K "InvalidLine"))) (some false)), (fun K => eqP (PySem.W.kitOne K (.ref (He.ga K "NotReady")) (.ref (He.ga K "InvalidProgram"))) (some false)), (fun K => eqP (PySem.W.kitOne K (.ref (He.ga K "NotReady")) (.ref (He.ga K "InvalidRow"))) (some false)), (fun K => eqP (PySem.W.kitOne K (.ref (He.ga K "NotReady")) (.ref (He.ga K "InvalidText"))) (some false)), (fun K => eqP (PySem.W.kitOne K (.ref (He.ga K "NotReady")) (.ref (He.ga K "NotReady"))) (some true)), (fun K => eqP (PySem.W.kitOne K (.ref (He.ga K "NotReady")) (.ref (He.ga K "NotWaiting"))) (some false))]
def Ew : List (PySem.W.Frag → Bool) := [(fun K => eqP (PySem.W.kitOne K (.ref (He.ga K "NotReady")) (.ref (He.ga K "NothingToUndo"))) (some false)), (fun K => eqP (PySem.W.kitOne K (.ref (He.ga K "NotReady")) (.ref (He.ga K "TooMany"))) (some false)), (fun K => eqP (PySem.W.kitOne K (.ref (He.ga K "NotReady")) (.ref (He.ga K "UnknownBudget"))) (some false)), (fun K => eqP (PySem.W.kitOne K (.ref (He.ga K "NotReady")) (.ref (He.ga K "UnknownProcedure"))) (some false)), (fun K => eqP (PySem.W.kitOne K (.ref (He.ga K "NotReady")) (.ref (He.ga K "UnknownScope"))) (some false)), (fun K => eqP (PySem.W.kitOne K (.ref (He.ga K "NotReady")) (.ref (He.ga K "UnknownTask"))) (some false)), (fun K => eqP (PySem.W.kitOne K (.ref (He.ga K "NotWaiting")) (.ref (He.ga K "ExactStopError"))) (some false)), (fun K => eqP (PySem.W.kitOne K (.ref (He.ga K "NotWaiting")) (.ref (He.ga K "InvalidAmount"))) (some false)), (fun K => eqP (PySem.W.kitOne K (.ref (He.ga K "NotWaiting")) (.ref (He.ga K "InvalidChoice"))) (some false)), (fun K => eqP (PySem.W.kitOne K (.ref (He.ga K "NotWaiting")) (.ref (He.ga K "InvalidCommand"))) (some false)), (fun K => eqP (PySem.W.kitOne K (.ref (He.ga K "NotWaiting")) (.ref (He.ga K "InvalidLine"))) (some false)), (fun K => eqP (PySem.W.kitOne K (.ref (He.ga K "NotWaiting")) (.ref (He.ga K "InvalidProgram"))) (some false)), (fun K => eqP (PySem.W.kitOne K (.ref (He.ga K "NotWaiting")) (.ref (He.ga K "InvalidRow"))) (some false)), (fun K => eqP (PySem.W.kitOne K (.ref (He.ga K "NotWaiting")) (.ref (He.ga K "InvalidText"))) (some false)), (fun K => eqP (PySem.W.kitOne K (.ref (He.ga K "NotWaiting")) (.ref (He.ga K "NotReady"))) (some false)), (fun K => eqP (PySem.W.kitOne K (.ref (He.ga K "NotWaiting")) (.ref (He.ga K "NotWaiting"))) (some true)), (fun K => eqP (PySem.W.kitOne K (.ref (He.ga K "NotWaiting")) (.ref (He.ga K "NothingToUndo"))) (some false)), (fun K => eqP (PySem.W.kitOne K (.ref (He.ga K "NotWaiting")) (.ref (He.ga K "TooMany"))) (some false)), (fun K => eqP (PySem.W.kitOne K (.ref (He.ga K "NotWaiting")) (.ref (He.ga K "UnknownBudget"))) (some false)), (fun K => eqP (PySem.W.kitOne K (.ref (He.ga K "NotWaiting")) (.ref (He.ga K "UnknownProcedure"))) (some false)), (fun K => eqP (PySem.W.kitOne K (.ref (He.ga K "NotWaiting")) (.ref (He.ga K "UnknownScope"))) (some false)), (fun K => eqP (PySem.W.kitOne K (.ref (He.ga K "NotWaiting")) (.ref (He.ga K "UnknownTask"))) (some false)), (fun K => eqP (PySem.W.kitOne K (.ref (He.ga K "NothingToUndo")) (.ref (He.ga K "ExactStopError"))) (some false)), (fun K => eqP (PySem.W.kitOne K (.ref (He.ga K "NothingToUndo")) (.ref (He.ga K "InvalidAmount"))) (some false)), (fun K => eqP (PySem.W.kitOne K (.ref (He.ga K "NothingToUndo")) (.ref (He.ga K "InvalidChoice"))) (some false)), (fun K => eqP (PySem.W.kitOne K (.ref (He.ga K "NothingToUndo")) (.ref (He.ga K "InvalidCommand"))) (some false)), (fun K => eqP (PySem.W.kitOne K (.ref (He.ga K "NothingToUndo")) (.ref (He.ga K "InvalidLine"))) (some false)), (fun K => eqP (PySem.W.kitOne K (.ref (He.ga K "NothingToUndo")) (.ref (He.ga K "InvalidProgram"))) (some false)), (fun K => eqP (PySem.W.kitOne K (.ref (He.ga K "NothingToUndo")) (.ref (He.ga K "InvalidRow"))) (some false)), (fun K => eqP (PySem.W.kitOne K (.ref (He.ga K "NothingToUndo")) (.ref (He.ga K "InvalidText"))) (some false))]
def Ey : List (PySem.W.Frag → Bool) := [(fun K => eqP (PySem.W.kitOne K (.ref (He.ga K "NothingToUndo")) (.ref (He.ga K "NotReady"))) (some false)), (fun K => eqP (PySem.W.kitOne K (.ref (He.ga K "NothingToUndo")) (.ref (He.ga K "NotWaiting"))) (some false)), (fun K => eqP (PySem.W.kitOne K (.ref (He.ga K "NothingToUndo")) (.ref (He.ga K "NothingToUndo"))) (some true)), (fun K => eqP (PySem.W.kitOne K (.ref (He.ga K "NothingToUndo")) (.ref (He.ga K "TooMany"))) (some false)), (fun K => eqP (PySem.W.kitOne K (.ref (He.ga K "NothingToUndo")) (.ref (He.ga K "UnknownBudget"))) (some false)), (fun K => eqP (PySem.W.kitOne K (.ref (He.ga K "NothingToUndo")) (.ref (He.ga K "UnknownProcedure"))) (some false)), (fun K => eqP (PySem.W.kitOne K (.ref (He.ga K "NothingToUndo")) (.ref (He.ga K "UnknownScope"))) (some false)), (fun K => eqP (PySem.W.kitOne K (.ref (He.ga K "NothingToUndo")) (.ref (He.ga K "UnknownTask"))) (some false)), (fun K => eqP (PySem.W.kitOne K (.ref (He.ga K "TooMany")) (.ref (He.ga K "ExactStopError"))) (some false)), (fun K => eqP (PySem.W.kitOne K (.ref (He.ga K "TooMany")) (.ref (He.ga K "InvalidAmount"))) (some false)), (fun K => eqP (PySem.W.kitOne K (.ref (He.ga K "TooMany")) (.ref (He.ga K "InvalidChoice"))) (some false)), (fun K => eqP (PySem.W.kitOne K (.ref (He.ga K "TooMany")) (.ref (He.ga K "InvalidCommand"))) (some false)), (fun K => eqP (PySem.W.kitOne K (.ref (He.ga K "TooMany")) (.ref (He.ga K "InvalidLine"))) (some false)), (fun K => eqP (PySem.W.kitOne K (.ref (He.ga K "TooMany")) (.ref (He.ga K "InvalidProgram"))) (some false)), (fun K => eqP (PySem.W.kitOne K (.ref (He.ga K "TooMany")) (.ref (He.ga K "InvalidRow"))) (some false)), (fun K => eqP (PySem.W.kitOne K (.ref (He.ga K "TooMany")) (.ref (He.ga K "InvalidText"))) (some false)), (fun K => eqP (PySem.W.kitOne K (.ref (He.ga K "TooMany")) (.ref (He.ga K "NotReady"))) (some false)), (fun K => eqP (PySem.W.kitOne K (.ref (He.ga K "TooMany")) (.ref (He.ga K "NotWaiting"))) (some false)), (fun K => eqP (PySem.W.kitOne K (.ref (He.ga K "TooMany")) (.ref (He.ga K "NothingToUndo"))) (some false)), (fun K => eqP (PySem.W.kitOne K (.ref (He.ga K "TooMany")) (.ref (He.ga K "TooMany"))) (some true)), (fun K => eqP (PySem.W.kitOne K (.ref (He.ga K "TooMany")) (.ref (He.ga K "UnknownBudget"))) (some false)), (fun K => eqP (PySem.W.kitOne K (.ref (He.ga K "TooMany")) (.ref (He.ga K "UnknownProcedure"))) (some false)), (fun K => eqP (PySem.W.kitOne K (.ref (He.ga K "TooMany")) (.ref (He.ga K "UnknownScope"))) (some false)), (fun K => eqP (PySem.W.kitOne K (.ref (He.ga K "TooMany")) (.ref (He.ga K "UnknownTask"))) (some false)), (fun K => eqP (PySem.W.kitOne K (.ref (He.ga K "UnknownBudget")) (.ref (He.ga K "ExactStopError"))) (some false)), (fun K => eqP (PySem.W.kitOne K (.ref (He.ga K "UnknownBudget")) (.ref (He.ga K "InvalidAmount"))) (some false)), (fun K => eqP (PySem.W.kitOne K (.ref (He.ga K "UnknownBudget")) (.ref (He.ga K "InvalidChoice"))) (some false)), (fun K => eqP (PySem.W.kitOne K (.ref (He.ga K "UnknownBudget")) (.ref (He.ga K "InvalidCommand"))) (some false)), (fun K => eqP (PySem.W.kitOne K (.ref (He.ga K "UnknownBudget")) (.ref (He.ga K "InvalidLine"))) (some false)), (fun K => eqP (PySem.W.kitOne K (.ref (He.ga K "UnknownBudget")) (.ref (He.ga K "InvalidProgram"))) (some false))]
def Ez : List (PySem.W.Frag → Bool) := [(fun K => eqP (PySem.W.kitOne K (.ref (He.ga K "UnknownBudget")) (.ref (He.ga K "InvalidRow"))) (some false)), (fun K => eqP (PySem.W.kitOne K (.ref (He.ga K "UnknownBudget")) (.ref (He.ga K "InvalidText"))) (some false)), (fun K => eqP (PySem.W.kitOne K (.ref (He.ga K "UnknownBudget")) (.ref (He.ga K "NotReady"))) (some false)), (fun K => eqP (PySem.W.kitOne K (.ref (He.ga K "UnknownBudget")) (.ref (He.ga K "NotWaiting"))) (some false)), (fun K => eqP (PySem.W.kitOne K (.ref (He.ga K "UnknownBudget")) (.ref (He.ga K "NothingToUndo"))) (some false)), (fun K => eqP (PySem.W.kitOne K (.ref (He.ga K "UnknownBudget")) (.ref (He.ga K "TooMany"))) (some false)), (fun K => eqP (PySem.W.kitOne K (.ref (He.ga K "UnknownBudget")) (.ref (He.ga K "UnknownBudget"))) (some true)), (fun K => eqP (PySem.W.kitOne K (.ref (He.ga K "UnknownBudget")) (.ref (He.ga K "UnknownProcedure"))) (some false)), (fun K => eqP (PySem.W.kitOne K (.ref (He.ga K "UnknownBudget")) (.ref (He.ga K "UnknownScope"))) (some false)), (fun K => eqP (PySem.W.kitOne K (.ref (He.ga K "UnknownBudget")) (.ref (He.ga K "UnknownTask"))) (some false)), (fun K => eqP (PySem.W.kitOne K (.ref (He.ga K "UnknownProcedure")) (.ref (He.ga K "ExactStopError"))) (some false)), (fun K => eqP (PySem.W.kitOne K (.ref (He.ga K "UnknownProcedure")) (.ref (He.ga K "InvalidAmount"))) (some false)), (fun K => eqP (PySem.W.kitOne K (.ref (He.ga K "UnknownProcedure")) (.ref (He.ga K "InvalidChoice"))) (some false)), (fun K => eqP (PySem.W.kitOne K (.ref (He.ga K "UnknownProcedure")) (.ref (He.ga K "InvalidCommand"))) (some false)), (fun K => eqP (PySem.W.kitOne K (.ref (He.ga K "UnknownProcedure")) (.ref (He.ga K "InvalidLine"))) (some false)), (fun K => eqP (PySem.W.kitOne K (.ref (He.ga K "UnknownProcedure")) (.ref (He.ga K "InvalidProgram"))) (some false)), (fun K => eqP (PySem.W.kitOne K (.ref (He.ga K "UnknownProcedure")) (.ref (He.ga K "InvalidRow"))) (some false)), (fun K => eqP (PySem.W.kitOne K (.ref (He.ga K "UnknownProcedure")) (.ref (He.ga K "InvalidText"))) (some false)), (fun K => eqP (PySem.W.kitOne K (.ref (He.ga K "UnknownProcedure")) (.ref (He.ga K "NotReady"))) (some false)), (fun K => eqP (PySem.W.kitOne K (.ref (He.ga K "UnknownProcedure")) (.ref (He.ga K "NotWaiting"))) (some false)), (fun K => eqP (PySem.W.kitOne K (.ref (He.ga K "UnknownProcedure")) (.ref (He.ga K "NothingToUndo"))) (some false)), (fun K => eqP (PySem.W.kitOne K (.ref (He.ga K "UnknownProcedure")) (.ref (He.ga K "TooMany"))) (some false)), (fun K => eqP (PySem.W.kitOne K (.ref (He.ga K "UnknownProcedure")) (.ref (He.ga K "UnknownBudget"))) (some false)), (fun K => eqP (PySem.W.kitOne K (.ref (He.ga K "UnknownProcedure")) (.ref (He.ga K "UnknownProcedure"))) (some true)), (fun K => eqP (PySem.W.kitOne K (.ref (He.ga K "UnknownProcedure")) (.ref (He.ga K "UnknownScope"))) (some false)), (fun K => eqP (PySem.W.kitOne K (.ref (He.ga K "UnknownProcedure")) (.ref (He.ga K "UnknownTask"))) (some false)), (fun K => eqP (PySem.W.kitOne K (.ref (He.ga K "UnknownScope")) (.ref (He.ga K "ExactStopError"))) (some false)), (fun K => eqP (PySem.W.kitOne K (.ref (He.ga K "UnknownScope")) (.ref (He.ga K "InvalidAmount"))) (some false)), (fun K => eqP (PySem.W.kitOne K (.ref (He.ga K "UnknownScope")) (.ref (He.ga K "InvalidChoice"))) (some false)), (fun K => eqP (PySem.W.kitOne K (.ref (He.ga K "UnknownScope")) (.ref (He.ga K "InvalidCommand"))) (some false))]
def EA : List (PySem.W.Frag → Bool) := [(fun K => eqP (PySem.W.kitOne K (.ref (He.ga K "UnknownScope")) (.ref (He.ga K "InvalidLine"))) (some false)), (fun K => eqP (PySem.W.kitOne K (.ref (He.ga K "UnknownScope")) (.ref (He.ga K "InvalidProgram"))) (some false)), (fun K => eqP (PySem.W.kitOne K (.ref (He.ga K "UnknownScope")) (.ref (He.ga K "InvalidRow"))) (some false)), (fun K => eqP (PySem.W.kitOne K (.ref (He.ga K "UnknownScope")) (.ref (He.ga K "InvalidText"))) (some false)), (fun K => eqP (PySem.W.kitOne K (.ref (He.ga K "UnknownScope")) (.ref (He.ga K "NotReady"))) (some false)), (fun K => eqP (PySem.W.kitOne K (.ref (He.ga K "UnknownScope")) (.ref (He.ga K "NotWaiting"))) (some false)), (fun K => eqP (PySem.W.kitOne K (.ref (He.ga K "UnknownScope")) (.ref (He.ga K "NothingToUndo"))) (some false)), (fun K => eqP (PySem.W.kitOne K (.ref (He.ga K "UnknownScope")) (.ref (He.ga K "TooMany"))) (some false)), (fun K => eqP (PySem.W.kitOne K (.ref (He.ga K "UnknownScope")) (.ref (He.ga K "UnknownBudget"))) (some false)), (fun K => eqP (PySem.W.kitOne K (.ref (He.ga K "UnknownScope")) (.ref (He.ga K "UnknownProcedure"))) (some false)), (fun K => eqP (PySem.W.kitOne K (.ref (He.ga K "UnknownScope")) (.ref (He.ga K "UnknownScope"))) (some true)), (fun K => eqP (PySem.W.kitOne K (.ref (He.ga K "UnknownScope")) (.ref (He.ga K "UnknownTask"))) (some false)), (fun K => eqP (PySem.W.kitOne K (.ref (He.ga K "UnknownTask")) (.ref (He.ga K "ExactStopError"))) (some false)), (fun K => eqP (PySem.W.kitOne K (.ref (He.ga K "UnknownTask")) (.ref (He.ga K "InvalidAmount"))) (some false)), (fun K => eqP (PySem.W.kitOne K (.ref (He.ga K "UnknownTask")) (.ref (He.ga K "InvalidChoice"))) (some false)), (fun K => eqP (PySem.W.kitOne K (.ref (He.ga K "UnknownTask")) (.ref (He.ga K "InvalidCommand"))) (some false)), (fun K => eqP (PySem.W.kitOne K (.ref (He.ga K "UnknownTask")) (.ref (He.ga K "InvalidLine"))) (some false)), (fun K => eqP (PySem.W.kitOne K (.ref (He.ga K "UnknownTask")) (.ref (He.ga K "InvalidProgram"))) (some false)), (fun K => eqP (PySem.W.kitOne K (.ref (He.ga K "UnknownTask")) (.ref (He.ga K "InvalidRow"))) (some false)), (fun K => eqP (PySem.W.kitOne K (.ref (He.ga K "UnknownTask")) (.ref (He.ga K "InvalidText"))) (some false)), (fun K => eqP (PySem.W.kitOne K (.ref (He.ga K "UnknownTask")) (.ref (He.ga K "NotReady"))) (some false)), (fun K => eqP (PySem.W.kitOne K (.ref (He.ga K "UnknownTask")) (.ref (He.ga K "NotWaiting"))) (some false)), (fun K => eqP (PySem.W.kitOne K (.ref (He.ga K "UnknownTask")) (.ref (He.ga K "NothingToUndo"))) (some false)), (fun K => eqP (PySem.W.kitOne K (.ref (He.ga K "UnknownTask")) (.ref (He.ga K "TooMany"))) (some false)), (fun K => eqP (PySem.W.kitOne K (.ref (He.ga K "UnknownTask")) (.ref (He.ga K "UnknownBudget"))) (some false)), (fun K => eqP (PySem.W.kitOne K (.ref (He.ga K "UnknownTask")) (.ref (He.ga K "UnknownProcedure"))) (some false)), (fun K => eqP (PySem.W.kitOne K (.ref (He.ga K "UnknownTask")) (.ref (He.ga K "UnknownScope"))) (some false)), (fun K => eqP (PySem.W.kitOne K (.ref (He.ga K "UnknownTask")) (.ref (He.ga K "UnknownTask"))) (some true)), (fun K => eqP (PySem.W.kitOne K (.ref (He.ga K "InvalidAmount")) (.type "ArithmeticError")) (some false)), (fun K => eqP (PySem.W.kitOne K (.ref (He.ga K "InvalidAmount")) (.type "IndexError")) (some false))]
def EC : List (PySem.W.Frag → Bool) := [(fun K => eqP (PySem.W.kitOne K (.ref (He.ga K "InvalidAmount")) (.type "KeyError")) (some false)), (fun K => eqP (PySem.W.kitOne K (.ref (He.ga K "InvalidAmount")) (.type "LookupError")) (some false)), (fun K => eqP (PySem.W.kitOne K (.ref (He.ga K "InvalidAmount")) (.type "NotImplementedError")) (some false)), (fun K => eqP (PySem.W.kitOne K (.ref (He.ga K "InvalidAmount")) (.type "OverflowError")) (some false)), (fun K => eqP (PySem.W.kitOne K (.ref (He.ga K "InvalidAmount")) (.type "RuntimeError")) (some false)), (fun K => eqP (PySem.W.kitOne K (.ref (He.ga K "InvalidAmount")) (.type "ValueError")) (some true)), (fun K => eqP (PySem.W.kitOne K (.ref (He.ga K "InvalidAmount")) (.type "ZeroDivisionError")) (some false)), (fun K => eqP (PySem.W.kitOne K (.ref (He.ga K "InvalidChoice")) (.type "ArithmeticError")) (some false)), (fun K => eqP (PySem.W.kitOne K (.ref (He.ga K "InvalidChoice")) (.type "IndexError")) (some false)), (fun K => eqP (PySem.W.kitOne K (.ref (He.ga K "InvalidChoice")) (.type "KeyError")) (some false)), (fun K => eqP (PySem.W.kitOne K (.ref (He.ga K "InvalidChoice")) (.type "LookupError")) (some false)), (fun K => eqP (PySem.W.kitOne K (.ref (He.ga K "InvalidChoice")) (.type "NotImplementedError")) (some false)), (fun K => eqP (PySem.W.kitOne K (.ref (He.ga K "InvalidChoice")) (.type "OverflowError")) (some false)), (fun K => eqP (PySem.W.kitOne K (.ref (He.ga K "InvalidChoice")) (.type "RuntimeError")) (some false)), (fun K => eqP (PySem.W.kitOne K (.ref (He.ga K "InvalidChoice")) (.type "ValueError")) (some true)), (fun K => eqP (PySem.W.kitOne K (.ref (He.ga K "InvalidChoice")) (.type "ZeroDivisionError")) (some false)), (fun K => eqP (PySem.W.kitOne K (.ref (He.ga K "InvalidCommand")) (.type "ArithmeticError")) (some false)), (fun K => eqP (PySem.W.kitOne K (.ref (He.ga K "InvalidCommand")) (.type "IndexError")) (some false)), (fun K => eqP (PySem.W.kitOne K (.ref (He.ga K "InvalidCommand")) (.type "KeyError")) (some false)), (fun K => eqP (PySem.W.kitOne K (.ref (He.ga K "InvalidCommand")) (.type "LookupError")) (some false)), (fun K => eqP (PySem.W.kitOne K (.ref (He.ga K "InvalidCommand")) (.type "NotImplementedError")) (some false)), (fun K => eqP (PySem.W.kitOne K (.ref (He.ga K "InvalidCommand")) (.type "OverflowError")) (some false)), (fun K => eqP (PySem.W.kitOne K (.ref (He.ga K "InvalidCommand")) (.type "RuntimeError")) (some false)), (fun K => eqP (PySem.W.kitOne K (.ref (He.ga K "InvalidCommand")) (.type "ValueError")) (some true)), (fun K => eqP (PySem.W.kitOne K (.ref (He.ga K "InvalidCommand")) (.type "ZeroDivisionError")) (some false)), (fun K => eqP (PySem.W.kitOne K (.ref (He.ga K "InvalidLine")) (.type "ArithmeticError")) (some false)), (fun K => eqP (PySem.W.kitOne K (.ref (He.ga K "InvalidLine")) (.type "IndexError")) (some false)), (fun K => eqP (PySem.W.kitOne K (.ref (He.ga K "InvalidLine")) (.type "KeyError")) (some false)), (fun K => eqP (PySem.W.kitOne K (.ref (He.ga K "InvalidLine")) (.type "LookupError")) (some false)), (fun K => eqP (PySem.W.kitOne K (.ref (He.ga K "InvalidLine")) (.type "NotImplementedError")) (some false))]
def ED : List (PySem.W.Frag → Bool) := [(fun K => eqP (PySem.W.kitOne K (.ref (He.ga K "InvalidLine")) (.type "OverflowError")) (some false)), (fun K => eqP (PySem.W.kitOne K (.ref (He.ga K "InvalidLine")) (.type "RuntimeError")) (some false)), (fun K => eqP (PySem.W.kitOne K (.ref (He.ga K "InvalidLine")) (.type "ValueError")) (some true)), (fun K => eqP (PySem.W.kitOne K (.ref (He.ga K "InvalidLine")) (.type "ZeroDivisionError")) (some false)), (fun K => eqP (PySem.W.kitOne K (.ref (He.ga K "InvalidProgram")) (.type "ArithmeticError")) (some false)), (fun K => eqP (PySem.W.kitOne K (.ref (He.ga K "InvalidProgram")) (.type "IndexError")) (some false)), (fun K => eqP (PySem.W.kitOne K (.ref (He.ga K "InvalidProgram")) (.type "KeyError")) (some false)), (fun K => eqP (PySem.W.kitOne K (.ref (He.ga K "InvalidProgram")) (.type "LookupError")) (some false)), (fun K => eqP (PySem.W.kitOne K (.ref (He.ga K "InvalidProgram")) (.type "NotImplementedError")) (some false)), (fun K => eqP (PySem.W.kitOne K (.ref (He.ga K "InvalidProgram")) (.type "OverflowError")) (some false)), (fun K => eqP (PySem.W.kitOne K (.ref (He.ga K "InvalidProgram")) (.type "RuntimeError")) (some false)), (fun K => eqP (PySem.W.kitOne K (.ref (He.ga K "InvalidProgram")) (.type "ValueError")) (some true)), (fun K => eqP (PySem.W.kitOne K (.ref (He.ga K "InvalidProgram")) (.type "ZeroDivisionError")) (some false)), (fun K => eqP (PySem.W.kitOne K (.ref (He.ga K "InvalidRow")) (.type "ArithmeticError")) (some false)), (fun K => eqP (PySem.W.kitOne K (.ref (He.ga K "InvalidRow")) (.type "IndexError")) (some false)), (fun K => eqP (PySem.W.kitOne K (.ref (He.ga K "InvalidRow")) (.type "KeyError")) (some false)), (fun K => eqP (PySem.W.kitOne K (.ref (He.ga K "InvalidRow")) (.type "LookupError")) (some false)), (fun K => eqP (PySem.W.kitOne K (.ref (He.ga K "InvalidRow")) (.type "NotImplementedError")) (some false)), (fun K => eqP (PySem.W.kitOne K (.ref (He.ga K "InvalidRow")) (.type "OverflowError")) (some false)), (fun K => eqP (PySem.W.kitOne K (.ref (He.ga K "InvalidRow")) (.type "RuntimeError")) (some false)), (fun K => eqP (PySem.W.kitOne K (.ref (He.ga K "InvalidRow")) (.type "ValueError")) (some true)), (fun K => eqP (PySem.W.kitOne K (.ref (He.ga K "InvalidRow")) (.type "ZeroDivisionError")) (some false)), (fun K => eqP (PySem.W.kitOne K (.ref (He.ga K "InvalidText")) (.type "ArithmeticError")) (some false)), (fun K => eqP (PySem.W.kitOne K (.ref (He.ga K "InvalidText")) (.type "IndexError")) (some false)), (fun K => eqP (PySem.W.kitOne K (.ref (He.ga K "InvalidText")) (.type "KeyError")) (some false)), (fun K => eqP (PySem.W.kitOne K (.ref (He.ga K "InvalidText")) (.type "LookupError")) (some false)), (fun K => eqP (PySem.W.kitOne K (.ref (He.ga K "InvalidText")) (.type "NotImplementedError")) (some false)), (fun K => eqP (PySem.W.kitOne K (.ref (He.ga K "InvalidText")) (.type "OverflowError")) (some false)), (fun K => eqP (PySem.W.kitOne K (.ref (He.ga K "InvalidText")) (.type "RuntimeError")) (some false)), (fun K => eqP (PySem.W.kitOne K (.ref (He.ga K "InvalidText")) (.type "ValueError")) (some true))]
def EE : List (PySem.W.Frag → Bool) := [(fun K => eqP (PySem.W.kitOne K (.ref (He.ga K "InvalidText")) (.type "ZeroDivisionError")) (some false)), (fun K => eqP (PySem.W.kitOne K (.ref (He.ga K "NotReady")) (.type "ArithmeticError")) (some false)), (fun K => eqP (PySem.W.kitOne K (.ref (He.ga K "NotReady")) (.type "IndexError")) (some false)), (fun K => eqP (PySem.W.kitOne K (.ref (He.ga K "NotReady")) (.type "KeyError")) (some false)), (fun K => eqP (PySem.W.kitOne K (.ref (He.ga K "NotReady")) (.type "LookupError")) (some false)), (fun K => eqP (PySem.W.kitOne K (.ref (He.ga K "NotReady")) (.type "NotImplementedError")) (some false)), (fun K => eqP (PySem.W.kitOne K (.ref (He.ga K "NotReady")) (.type "OverflowError")) (some false)), (fun K => eqP (PySem.W.kitOne K (.ref (He.ga K "NotReady")) (.type "RuntimeError")) (some true)), (fun K => eqP (PySem.W.kitOne K (.ref (He.ga K "NotReady")) (.type "ValueError")) (some false)), (fun K => eqP (PySem.W.kitOne K (.ref (He.ga K "NotReady")) (.type "ZeroDivisionError")) (some false)), (fun K => eqP (PySem.W.kitOne K (.ref (He.ga K "NotWaiting")) (.type "ArithmeticError")) (some false)), (fun K => eqP (PySem.W.kitOne K (.ref (He.ga K "NotWaiting")) (.type "IndexError")) (some false)), (fun K => eqP (PySem.W.kitOne K (.ref (He.ga K "NotWaiting")) (.type "KeyError")) (some false)), (fun K => eqP (PySem.W.kitOne K (.ref (He.ga K "NotWaiting")) (.type "LookupError")) (some false)), (fun K => eqP (PySem.W.kitOne K (.ref (He.ga K "NotWaiting")) (.type "NotImplementedError")) (some false)), (fun K => eqP (PySem.W.kitOne K (.ref (He.ga K "NotWaiting")) (.type "OverflowError")) (some false)), (fun K => eqP (PySem.W.kitOne K (.ref (He.ga K "NotWaiting")) (.type "RuntimeError")) (some true)), (fun K => eqP (PySem.W.kitOne K (.ref (He.ga K "NotWaiting")) (.type "ValueError")) (some false)), (fun K => eqP (PySem.W.kitOne K (.ref (He.ga K "NotWaiting")) (.type "ZeroDivisionError")) (some false)), (fun K => eqP (PySem.W.kitOne K (.ref (He.ga K "NothingToUndo")) (.type "ArithmeticError")) (some false)), (fun K => eqP (PySem.W.kitOne K (.ref (He.ga K "NothingToUndo")) (.type "IndexError")) (some false)), (fun K => eqP (PySem.W.kitOne K (.ref (He.ga K "NothingToUndo")) (.type "KeyError")) (some false)), (fun K => eqP (PySem.W.kitOne K (.ref (He.ga K "NothingToUndo")) (.type "LookupError")) (some false)), (fun K => eqP (PySem.W.kitOne K (.ref (He.ga K "NothingToUndo")) (.type "NotImplementedError")) (some false)), (fun K => eqP (PySem.W.kitOne K (.ref (He.ga K "NothingToUndo")) (.type "OverflowError")) (some false)), (fun K => eqP (PySem.W.kitOne K (.ref (He.ga K "NothingToUndo")) (.type "RuntimeError")) (some true)), (fun K => eqP (PySem.W.kitOne K (.ref (He.ga K "NothingToUndo")) (.type "ValueError")) (some false)), (fun K => eqP (PySem.W.kitOne K (.ref (He.ga K "NothingToUndo")) (.type "ZeroDivisionError")) (some false)), (fun K => eqP (PySem.W.kitOne K (.ref (He.ga K "TooMany")) (.type "ArithmeticError")) (some true)), (fun K => eqP (PySem.W.kitOne K (.ref (He.ga K "TooMany")) (.type "IndexError")) (some false))]
def EF : List (PySem.W.Frag → Bool) := [(fun K => eqP (PySem.W.kitOne K (.ref (He.ga K "TooMany")) (.type "KeyError")) (some false)), (fun K => eqP (PySem.W.kitOne K (.ref (He.ga K "TooMany")) (.type "LookupError")) (some false)), (fun K => eqP (PySem.W.kitOne K (.ref (He.ga K "TooMany")) (.type "NotImplementedError")) (some false)), (fun K => eqP (PySem.W.kitOne K (.ref (He.ga K "TooMany")) (.type "OverflowError")) (some false)), (fun K => eqP (PySem.W.kitOne K (.ref (He.ga K "TooMany")) (.type "RuntimeError")) (some false)), (fun K => eqP (PySem.W.kitOne K (.ref (He.ga K "TooMany")) (.type "ValueError")) (some false)), (fun K => eqP (PySem.W.kitOne K (.ref (He.ga K "TooMany")) (.type "ZeroDivisionError")) (some false)), (fun K => eqP (PySem.W.kitOne K (.ref (He.ga K "UnknownBudget")) (.type "ArithmeticError")) (some false)), (fun K => eqP (PySem.W.kitOne K (.ref (He.ga K "UnknownBudget")) (.type "IndexError")) (some false)), (fun K => eqP (PySem.W.kitOne K (.ref (He.ga K "UnknownBudget")) (.type "KeyError")) (some false)), (fun K => eqP (PySem.W.kitOne K (.ref (He.ga K "UnknownBudget")) (.type "LookupError")) (some true)), (fun K => eqP (PySem.W.kitOne K (.ref (He.ga K "UnknownBudget")) (.type "NotImplementedError")) (some false)), (fun K => eqP (PySem.W.kitOne K (.ref (He.ga K "UnknownBudget")) (.type "OverflowError")) (some false)), (fun K => eqP (PySem.W.kitOne K (.ref (He.ga K "UnknownBudget")) (.type "RuntimeError")) (some false)), (fun K => eqP (PySem.W.kitOne K (.ref (He.ga K "UnknownBudget")) (.type "ValueError")) (some false)), (fun K => eqP (PySem.W.kitOne K (.ref (He.ga K "UnknownBudget")) (.type "ZeroDivisionError")) (some false)), (fun K => eqP (PySem.W.kitOne K (.ref (He.ga K "UnknownProcedure")) (.type "ArithmeticError")) (some false)), (fun K => eqP (PySem.W.kitOne K (.ref (He.ga K "UnknownProcedure")) (.type "IndexError")) (some false)), (fun K => eqP (PySem.W.kitOne K (.ref (He.ga K "UnknownProcedure")) (.type "KeyError")) (some false)), (fun K => eqP (PySem.W.kitOne K (.ref (He.ga K "UnknownProcedure")) (.type "LookupError")) (some true)), (fun K => eqP (PySem.W.kitOne K (.ref (He.ga K "UnknownProcedure")) (.type "NotImplementedError")) (some false)), (fun K => eqP (PySem.W.kitOne K (.ref (He.ga K "UnknownProcedure")) (.type "OverflowError")) (some false)), (fun K => eqP (PySem.W.kitOne K (.ref (He.ga K "UnknownProcedure")) (.type "RuntimeError")) (some false)), (fun K => eqP (PySem.W.kitOne K (.ref (He.ga K "UnknownProcedure")) (.type "ValueError")) (some false)), (fun K => eqP (PySem.W.kitOne K (.ref (He.ga K "UnknownProcedure")) (.type "ZeroDivisionError")) (some false)), (fun K => eqP (PySem.W.kitOne K (.ref (He.ga K "UnknownScope")) (.type "ArithmeticError")) (some false)), (fun K => eqP (PySem.W.kitOne K (.ref (He.ga K "UnknownScope")) (.type "IndexError")) (some false)), (fun K => eqP (PySem.W.kitOne K (.ref (He.ga K "UnknownScope")) (.type "KeyError")) (some false)), (fun K => eqP (PySem.W.kitOne K (.ref (He.ga K "UnknownScope")) (.type "LookupError")) (some true)), (fun K => eqP (PySem.W.kitOne K (.ref (He.ga K "UnknownScope")) (.type "NotImplementedError")) (some false))]
def EG : List (PySem.W.Frag → Bool) := [(fun K => eqP (PySem.W.kitOne K (.ref (He.ga K "UnknownScope")) (.type "OverflowError")) (some false)), (fun K => eqP (PySem.W.kitOne K (.ref (He.ga K "UnknownScope")) (.type "RuntimeError")) (some false)), (fun K => eqP (PySem.W.kitOne K (.ref (He.ga K "UnknownScope")) (.type "ValueError")) (some false)), (fun K => eqP (PySem.W.kitOne K (.ref (He.ga K "UnknownScope")) (.type "ZeroDivisionError")) (some false)), (fun K => eqP (PySem.W.kitOne K (.ref (He.ga K "UnknownTask")) (.type "ArithmeticError")) (some false)), (fun K => eqP (PySem.W.kitOne K (.ref (He.ga K "UnknownTask")) (.type "IndexError")) (some false)), (fun K => eqP (PySem.W.kitOne K (.ref (He.ga K "UnknownTask")) (.type "KeyError")) (some false)), (fun K => eqP (PySem.W.kitOne K (.ref (He.ga K "UnknownTask")) (.type "LookupError")) (some true)), (fun K => eqP (PySem.W.kitOne K (.ref (He.ga K "UnknownTask")) (.type "NotImplementedError")) (some false)), (fun K => eqP (PySem.W.kitOne K (.ref (He.ga K "UnknownTask")) (.type "OverflowError")) (some false)), (fun K => eqP (PySem.W.kitOne K (.ref (He.ga K "UnknownTask")) (.type "RuntimeError")) (some false)), (fun K => eqP (PySem.W.kitOne K (.ref (He.ga K "UnknownTask")) (.type "ValueError")) (some false)), (fun K => eqP (PySem.W.kitOne K (.ref (He.ga K "UnknownTask")) (.type "ZeroDivisionError")) (some false)), (fun K => He.eqO (PySem.W.findIn K (.ref (He.ga K "InvalidAmount")) "limit") (some none)), (fun K => He.eqO (PySem.W.findIn K (.ref (He.ga K "InvalidChoice")) "limit") (some none)), (fun K => He.eqO (PySem.W.findIn K (.ref (He.ga K "InvalidCommand")) "limit") (some none)), (fun K => He.eqO (PySem.W.findIn K (.ref (He.ga K "InvalidLine")) "limit") (some none)), (fun K => He.eqO (PySem.W.findIn K (.ref (He.ga K "InvalidProgram")) "limit") (some none)), (fun K => He.eqO (PySem.W.findIn K (.ref (He.ga K "InvalidRow")) "limit") (some none)), (fun K => He.eqO (PySem.W.findIn K (.ref (He.ga K "InvalidText")) "limit") (some none)), (fun K => He.eqO (PySem.W.findIn K (.ref (He.ga K "NotReady")) "limit") (some none)), (fun K => He.eqO (PySem.W.findIn K (.ref (He.ga K "NotWaiting")) "limit") (some none)), (fun K => He.eqO (PySem.W.findIn K (.ref (He.ga K "NothingToUndo")) "limit") (some none)), (fun K => He.eqO (PySem.W.findIn K (.ref (He.ga K "UnknownBudget")) "limit") (some none)), (fun K => He.eqO (PySem.W.findIn K (.ref (He.ga K "UnknownProcedure")) "limit") (some none)), (fun K => He.eqO (PySem.W.findIn K (.ref (He.ga K "UnknownScope")) "limit") (some none)), (fun K => He.eqO (PySem.W.findIn K (.ref (He.ga K "UnknownTask")) "limit") (some none)), (fun K => He.eqO (PySem.W.findIn K (.ref (He.ga K "InvalidAmount")) "line") (some none)), (fun K => He.eqO (PySem.W.findIn K (.ref (He.ga K "InvalidChoice")) "line") (some none)), (fun K => He.eqO (PySem.W.findIn K (.ref (He.ga K "InvalidCommand")) "line") (some none))]
def EH : List (PySem.W.Frag → Bool) := [(fun K => He.eqO (PySem.W.findIn K (.ref (He.ga K "InvalidProgram")) "line") (some none)), (fun K => He.eqO (PySem.W.findIn K (.ref (He.ga K "InvalidRow")) "line") (some none)), (fun K => He.eqO (PySem.W.findIn K (.ref (He.ga K "InvalidText")) "line") (some none)), (fun K => He.eqO (PySem.W.findIn K (.ref (He.ga K "NotReady")) "line") (some none)), (fun K => He.eqO (PySem.W.findIn K (.ref (He.ga K "NotWaiting")) "line") (some none)), (fun K => He.eqO (PySem.W.findIn K (.ref (He.ga K "NothingToUndo")) "line") (some none)), (fun K => He.eqO (PySem.W.findIn K (.ref (He.ga K "TooMany")) "line") (some none)), (fun K => He.eqO (PySem.W.findIn K (.ref (He.ga K "UnknownBudget")) "line") (some none)), (fun K => He.eqO (PySem.W.findIn K (.ref (He.ga K "UnknownProcedure")) "line") (some none)), (fun K => He.eqO (PySem.W.findIn K (.ref (He.ga K "UnknownScope")) "line") (some none)), (fun K => He.eqO (PySem.W.findIn K (.ref (He.ga K "UnknownTask")) "line") (some none)), (fun K => He.eqO (PySem.W.findIn K (.ref (He.ga K "InvalidAmount")) "path") (some none)), (fun K => He.eqO (PySem.W.findIn K (.ref (He.ga K "InvalidChoice")) "path") (some none)), (fun K => He.eqO (PySem.W.findIn K (.ref (He.ga K "InvalidCommand")) "path") (some none)), (fun K => He.eqO (PySem.W.findIn K (.ref (He.ga K "InvalidLine")) "path") (some none)), (fun K => He.eqO (PySem.W.findIn K (.ref (He.ga K "InvalidRow")) "path") (some none)), (fun K => He.eqO (PySem.W.findIn K (.ref (He.ga K "InvalidText")) "path") (some none)), (fun K => He.eqO (PySem.W.findIn K (.ref (He.ga K "NotReady")) "path") (some none)), (fun K => He.eqO (PySem.W.findIn K (.ref (He.ga K "NotWaiting")) "path") (some none)), (fun K => He.eqO (PySem.W.findIn K (.ref (He.ga K "NothingToUndo")) "path") (some none)), (fun K => He.eqO (PySem.W.findIn K (.ref (He.ga K "TooMany")) "path") (some none)), (fun K => He.eqO (PySem.W.findIn K (.ref (He.ga K "UnknownBudget")) "path") (some none)), (fun K => He.eqO (PySem.W.findIn K (.ref (He.ga K "UnknownProcedure")) "path") (some none)), (fun K => He.eqO (PySem.W.findIn K (.ref (He.ga K "UnknownScope")) "path") (some none)), (fun K => He.eqO (PySem.W.findIn K (.ref (He.ga K "UnknownTask")) "path") (some none)), (fun K => He.eqO (PySem.W.findIn K (.ref (He.ga K "InvalidAmount")) "reason") (some none)), (fun K => He.eqO (PySem.W.findIn K (.ref (He.ga K "InvalidChoice")) "reason") (some none)), (fun K => He.eqO (PySem.W.findIn K (.ref (He.ga K "InvalidCommand")) "reason") (some none)), (fun K => He.eqO (PySem.W.findIn K (.ref (He.ga K "InvalidLine")) "reason") (some none)), (fun K => He.eqO (PySem.W.findIn K (.ref (He.ga K "InvalidRow")) "reason") (some none))]
def EJ : List (PySem.W.Frag → Bool) := [(fun K => He.eqO (PySem.W.findIn K (.ref (He.ga K "InvalidText")) "reason") (some none)), (fun K => He.eqO (PySem.W.findIn K (.ref (He.ga K "NotReady")) "reason") (some none)), (fun K => He.eqO (PySem.W.findIn K (.ref (He.ga K "NotWaiting")) "reason") (some none)), (fun K => He.eqO (PySem.W.findIn K (.ref (He.ga K "NothingToUndo")) "reason") (some none)), (fun K => He.eqO (PySem.W.findIn K (.ref (He.ga K "TooMany")) "reason") (some none)), (fun K => He.eqO (PySem.W.findIn K (.ref (He.ga K "UnknownBudget")) "reason") (some none)), (fun K => He.eqO (PySem.W.findIn K (.ref (He.ga K "UnknownProcedure")) "reason") (some none)), (fun K => He.eqO (PySem.W.findIn K (.ref (He.ga K "UnknownScope")) "reason") (some none)), (fun K => He.eqO (PySem.W.findIn K (.ref (He.ga K "UnknownTask")) "reason") (some none)), (fun K => He.eqO (PySem.W.findIn K (.ref (He.ga K "InvalidLine")) "value") (some none)), (fun K => He.eqO (PySem.W.findIn K (.ref (He.ga K "InvalidProgram")) "value") (some none)), (fun K => He.eqO (PySem.W.findIn K (.ref (He.ga K "NothingToUndo")) "value") (some none)), (fun K => He.eqO (PySem.W.findIn K (.ref (He.ga K "TooMany")) "value") (some none))]
def ig : List (PySem.W.Frag → Bool) := Ek ++ El ++ Em ++ En ++ Eo ++ Ep ++ Es ++ Et ++ Eu ++ Ew ++ Ey ++ Ez ++ EA ++ EC ++ ED ++ EE ++ EF ++ EG ++ EH ++ EJ
set_option maxHeartbeats 0 in
theorem EK (w : World) : HandSHeadRun.RunEq hR hQ (jG 1600 ig ie hTb) (lu 1600 ig ie hTb) 40000 hNames (w.withFollow "special-get-raises" false) := by
 intro os
 kernel_rfl
set_option maxHeartbeats 0 in
theorem EL (w : World) : HandSHeadRun.RunEq hR hQ (jG 1600 ig ie hTb) (lu 1600 ig ie hTb) 40000 hNames (w.withFollow "special-get-raises" true) := by
 intro os
 kernel_rfl
theorem ER (w : World) : HandSHeadRun.RunEq hR hQ (jG 1600 ig ie hTb) (lu 1600 ig ie hTb) 40000 hNames w := PySem.W.byRow2 "special-get-raises" (P := fun w => HandSHeadRun.RunEq hR hQ (jG 1600 ig ie hTb) (lu 1600 ig ie hTb) 40000 hNames w) EK EL w
def EV : DefRec := match PySem.W.defOf hQ hR.name with
 | some (d, _) => d
 | none => HandSHeadRun.topDef hR.prog 0
end bO
open PySem PySem.W PyProof.Rows L2 Mi in
set_option maxRecDepth 100000 in
set_option maxHeartbeats 0 in
theorem bO.close (hc : PySem.W.WalkO bO.hQ bO.hNames (PySem.W.XL bO.hQ []) (Mi.jG 1600 bO.ig bO.ie bO.hTb).says bO.hR.toRowW bO.EV [] (fun f vs => PySem.call f vs)) : PySem.Challenge.rw_exactstop_k14_errors_made.Holds := by
 w_on; o_law
 refine HandSHeadRun.head_any (r := bO.hR) (q := bO.hQ) (H := Mi.jG 1600 bO.ig bO.ie bO.hTb) (ob := Mi.lu 1600 bO.ig bO.ie bO.hTb) (M := 40000) (loose := bO.hNames) (kwd := []) Mi.Ef (by kernel_rfl) (fun s => by kernel_rfl) bO.ER (by rfl) (by rfl) (by rfl) (by rfl) (by first | assumption | decide +kernel) (by decide +kernel) ⟨rfl, rfl, rfl, rfl, rfl, by decide +kernel⟩ ?hw hc
 case hw => w_witness2
namespace Mi
open PySem L2
/-- what is known of the module -/
structure Ct where
 K : PySem.W.Frag
 mg : Str → Option Value
 w : World
 pn : List (Addr × Obj)
def KL (K : PySem.W.Frag) (a : Addr) (xs : List V) : Prop :=
 ∃ (o : Obj) (its : Array Value) (n : Nat), K.lookup a = some o ∧ o.cls = .type "list" ∧ o.dict = none ∧ o.data = .seq its n ∧ its.size ≤ sizeLine ∧ Vals xs its.toList
def KT (K : PySem.W.Frag) (a : Addr) (xs : List V) : Prop :=
 ∃ (o : Obj) (its : Array Value) (n : Nat), K.lookup a = some o ∧ o.cls = .type "tuple" ∧ o.data = .seq its n ∧ its.size ≤ sizeLine ∧ Vals xs its.toList
/-- a thing cX is frozen for EW -/
def Fz (H : Hp) (a : Addr) (u : HO) : Prop := ∃ o, H a = some (.frz o u)
theorem Fz.rd {H : Hp} {a : Addr} {u : HO} (h : Fz H a u) : Rd H a u := .inr h
mutual
inductive RV (C : Ct) (H : Hp) (P : Addr → Prop) (β : List Addr) : V → D → Prop
 | non : RV C H P β .non .non
 | bl (b : Bool) : RV C H P β (.bl b) (.bl b)
 | int (i : Int) : RV C H P β (.int i) (.int i)
 | str (x : Str) : RV C H P β (.str x) (.str x)
 | ty (n : String) : RV C H P β (.ty n) (.ty n)
 | lst {a : Addr} {xs : List V} {ds : List D} : ¬ P a → a ∉ β → Rd H a (.lst xs) → aC C H P β xs ds → RV C H P β (.ref a) (.lst ds)
 | tup {a : Addr} {xs : List V} {ds : List D} : Rd H a (.tup xs) → aC C H P β xs ds → RV C H P β (.ref a) (.tup ds)
 | eU {a : Addr} {xs : List V} {ds : List D} : KT C.K a xs → aC C H P β xs ds → RV C H P β (.ref a) (.tup ds)
 | dJ {a : Addr} {xs : List V} {ds : List D} : KL C.K a xs → aC C H P β xs ds → RV C H P β (.ref a) (.lst ds)
 | dct {a : Addr} {xs : List (Key × V)} {ds : List (Key × D)} : ¬ P a → a ∉ β → Fz H a (.dK xs) → aG C H P β xs ds → RV C H P β (.ref a) (.dct ds)
 | ref {n : Nat} {a : Addr} : β[n]? = some a → RV C H P β (.ref a) (.ref n)
 | fn {x : Str} {f : Addr} : C.mg x = some (.ref f) → PySem.W.keepIn C.K (.ref f) = true → RV C H P β (.ref f) (.fn x)
inductive aC (C : Ct) (H : Hp) (P : Addr → Prop) (β : List Addr) : List V → List D → Prop
 | nil : aC C H P β [] []
 | cons {v : V} {vs : List V} {d : D} {ds : List D} : RV C H P β v d → aC C H P β vs ds → aC C H P β (v :: vs) (d :: ds)
inductive aG (C : Ct) (H : Hp) (P : Addr → Prop) (β : List Addr) : List (Key × V) → List (Key × D) → Prop
 | nil : aG C H P β [] []
 | cons {k : Key} {v : V} {vs : List (Key × V)} {d : D} {ds : List (Key × D)} : RV C H P β v d → aG C H P β vs ds → aG C H P β ((k, v) :: vs) ((k, d) :: ds)
end
/-- what an expression may do to the heap and the oh places -/
structure Ext (H : Hp) (β : List Addr) (H' : Hp) (β' : List Addr) : Prop where
 pre : ∃ γ, β' = β ++ γ
 keep : ∀ a o, H a = some o → a ∉ β → H' a = some o
 fresh : ∀ a ∈ β', a ∈ β ∨ H a = none
 tups : ∀ a xs, Rd H a (.tup xs) → Rd H' a (.tup xs)
 stay : ∀ a, H a ≠ none → H' a ≠ none
 cY : ∀ a o u, H a = some (.frz o u) → H' a = some (.frz o u)
theorem Ext.refl (H : Hp) (β : List Addr) : Ext H β H β := ⟨⟨[], (List.append_nil β).symm⟩, fun _ _ h _ => h, fun _ h => .inl h, fun _ _ h => h, fun _ h => h, fun _ _ _ h => h⟩
theorem Ext.mem {H H' : Hp} {β β' : List Addr} (e : Ext H β H' β') {a : Addr} (h : a ∈ β) : a ∈ β' := by
 obtain ⟨γ, r⟩ := e.pre
 rw [r]; exact List.mem_append_left _ h
theorem Ext.get {H H' : Hp} {β β' : List Addr} (e : Ext H β H' β') {n : Nat} {a : Addr} (h : β[n]? = some a) : β'[n]? = some a := by
 obtain ⟨γ, r⟩ := e.pre
 rw [r, List.getElem?_append_left (List.getElem?_eq_some_iff.mp h).1]; exact h
theorem Ext.out {H H' : Hp} {β β' : List Addr} (e : Ext H β H' β') {a : Addr} (h : a ∉ β) (hn : H a ≠ none) : a ∉ β' := fun m => (e.fresh a m).elim h hn
theorem Ext.trans {H H1 H2 : Hp} {β β1 β2 : List Addr} (a : Ext H β H1 β1) (b : Ext H1 β1 H2 β2) : Ext H β H2 β2 where
 pre := by
  obtain ⟨γ, r⟩ := a.pre
  obtain ⟨γ', r'⟩ := b.pre
  exact ⟨γ ++ γ', by rw [r', r, List.append_assoc]⟩
 keep := fun c o h hn => b.keep c o (a.keep c o h hn) (a.out hn (by rw [h]; exact Option.some_ne_none _))
 fresh := fun c h => by
  rcases b.fresh c h with q | q
  ·exact a.fresh c q
  ·by_cases m : c ∈ β
   ·exact .inl m
   ·right
    cases z : H c with
    | none => rfl
    | some o => rw [a.keep c o z m] at q; cases q
 tups := fun c xs h => b.tups c xs (a.tups c xs h)
 stay := fun c h => b.stay c (a.stay c h)
 cY := fun c o u h => b.cY c o u (a.cY c o u h)
/-- a new thing laid -/
theorem Ext.laid {H : Hp} {β : List Addr} {p : Addr} {o : HO} (hp : H p = none) : Ext H β (upd H p o) β where
 pre := ⟨[], (List.append_nil β).symm⟩
 keep := fun a u h _ => by rw [upd_ne (ne_of_none h hp)]; exact h
 fresh := fun _ h => .inl h
 tups := fun a xs h => by
  rcases h with h | ⟨ob, h⟩
  ·exact .inl (by rw [upd_ne (ne_of_none h hp)]; exact h)
  ·exact .inr ⟨ob, by rw [upd_ne (ne_of_none h hp)]; exact h⟩
 stay := fun a h => by
  by_cases e : a = p
  ·rw [e, upd_same]; exact Option.some_ne_none _
  ·rw [upd_ne e]; exact h
 cY := fun a o u h => by rw [upd_ne (ne_of_none h hp)]; exact h
theorem jH {H : Hp} {a : Addr} {u : HO} (h : Rd H a u) : H a ≠ none := by
 rcases h with h | ⟨o, h⟩ <;> (rw [h]; exact Option.some_ne_none _)
theorem Ext.fz {H H' : Hp} {β β' : List Addr} (e : Ext H β H' β') {a : Addr} {u : HO} (hn : a ∉ β) (h : Fz H a u) : Fz H' a u := let ⟨o, q⟩ := h; ⟨o, e.keep _ _ q hn⟩
theorem Ext.rd {H H' : Hp} {β β' : List Addr} (e : Ext H β H' β') {a : Addr} {u : HO} (hn : a ∉ β) (h : Rd H a u) : Rd H' a u := by
 rcases h with h | ⟨o, h⟩
 ·exact .inl (e.keep _ _ h hn)
 ·exact .inr ⟨o, e.keep _ _ h hn⟩
section
variable {C : Ct} {H H' : Hp} {P P' : Addr → Prop} {β β' : List Addr}
mutual
theorem RV.mono (e : Ext H β H' β') : ∀ {v : V} {d : D}, RV C H P β v d → RV C H' P β' v d
 | _, _, .non => .non
 | _, _, .bl b => .bl b
 | _, _, .int i => .int i
 | _, _, .str x => .str x
 | _, _, .ty n => .ty n
 | _, _, .lst hp hb hr h => .lst hp (e.out hb (jH hr)) (e.rd hb hr) (aC.mono e h)
 | _, _, .tup hr h => .tup (e.tups _ _ hr) (aC.mono e h)
 | _, _, .eU k h => .eU k (aC.mono e h)
 | _, _, .dJ k h => .dJ k (aC.mono e h)
 | _, _, .dct hp hb hr h => .dct hp (e.out hb (jH hr.rd)) (e.fz hb hr) (aG.mono e h)
 | _, _, .ref h => .ref (e.get h)
 | _, _, .fn h k => .fn h k
theorem aC.mono (e : Ext H β H' β') : ∀ {vs : List V} {ds : List D}, aC C H P β vs ds → aC C H' P β' vs ds
 | _, _, .nil => .nil
 | _, _, .cons h t => .cons (RV.mono e h) (aC.mono e t)
theorem aG.mono (e : Ext H β H' β') : ∀ {vs : List (Key × V)} {ds : List (Key × D)}, aG C H P β vs ds → aG C H' P β' vs ds
 | _, _, .nil => .nil
 | _, _, .cons h t => .cons (RV.mono e h) (aG.mono e t)
end
mutual
theorem RV.ct {C' : Ct} (k : C'.K = C.K) (m : C'.mg = C.mg) : ∀ {v : V} {d : D}, RV C H P β v d → RV C' H P β v d
 | _, _, .non => .non
 | _, _, .bl b => .bl b
 | _, _, .int i => .int i
 | _, _, .str x => .str x
 | _, _, .ty n => .ty n
 | _, _, .lst hp hb hr h => .lst hp hb hr (aC.ct k m h)
 | _, _, .tup hr h => .tup hr (aC.ct k m h)
 | _, _, .eU q h => .eU (k ▸ q) (aC.ct k m h)
 | _, _, .dJ q h => .dJ (k ▸ q) (aC.ct k m h)
 | _, _, .dct hp hb hr h => .dct hp hb hr (aG.ct k m h)
 | _, _, .ref h => .ref h
 | _, _, .fn h q => .fn (m ▸ h) (k ▸ q)
theorem aC.ct {C' : Ct} (k : C'.K = C.K) (m : C'.mg = C.mg) : ∀ {vs : List V} {ds : List D}, aC C H P β vs ds → aC C' H P β vs ds
 | _, _, .nil => .nil
 | _, _, .cons h t => .cons (RV.ct k m h) (aC.ct k m t)
theorem aG.ct {C' : Ct} (k : C'.K = C.K) (m : C'.mg = C.mg) : ∀ {vs : List (Key × V)} {ds : List (Key × D)}, aG C H P β vs ds → aG C' H P β vs ds
 | _, _, .nil => .nil
 | _, _, .cons h t => .cons (RV.ct k m h) (aG.ct k m t)
end
mutual
theorem RV.less (e : ∀ a, P' a → P a) : ∀ {v : V} {d : D}, RV C H P β v d → RV C H P' β v d
 | _, _, .non => .non
 | _, _, .bl b => .bl b
 | _, _, .int i => .int i
 | _, _, .str x => .str x
 | _, _, .ty n => .ty n
 | _, _, .lst hp hb hr h => .lst (fun z => hp (e _ z)) hb hr (aC.less e h)
 | _, _, .tup hr h => .tup hr (aC.less e h)
 | _, _, .eU k h => .eU k (aC.less e h)
 | _, _, .dJ k h => .dJ k (aC.less e h)
 | _, _, .dct hp hb hr h => .dct (fun z => hp (e _ z)) hb hr (aG.less e h)
 | _, _, .ref h => .ref h
 | _, _, .fn h k => .fn h k
theorem aC.less (e : ∀ a, P' a → P a) : ∀ {vs : List V} {ds : List D}, aC C H P β vs ds → aC C H P' β vs ds
 | _, _, .nil => .nil
 | _, _, .cons h t => .cons (RV.less e h) (aC.less e t)
theorem aG.less (e : ∀ a, P' a → P a) : ∀ {vs : List (Key × V)} {ds : List (Key × D)}, aG C H P β vs ds → aG C H P' β vs ds
 | _, _, .nil => .nil
 | _, _, .cons h t => .cons (RV.less e h) (aG.less e t)
end
mutual
theorem RV.more {p : Addr} (hp : H p = none) : ∀ {v : V} {d : D}, RV C H P β v d → RV C H (fun a => P a ∨ a = p) β v d
 | _, _, .non => .non
 | _, _, .bl b => .bl b
 | _, _, .int i => .int i
 | _, _, .str x => .str x
 | _, _, .ty n => .ty n
 | _, _, .lst h1 hb hr h => .lst (fun z => z.elim h1 fun e => (jH hr) (by rw [e]; exact hp)) hb hr (aC.more hp h)
 | _, _, .tup hr h => .tup hr (aC.more hp h)
 | _, _, .eU k h => .eU k (aC.more hp h)
 | _, _, .dJ k h => .dJ k (aC.more hp h)
 | _, _, .dct h1 hb hr h => .dct (fun z => z.elim h1 fun e => (jH hr.rd) (by rw [e]; exact hp)) hb hr (aG.more hp h)
 | _, _, .ref h => .ref h
 | _, _, .fn h k => .fn h k
theorem aC.more {p : Addr} (hp : H p = none) : ∀ {vs : List V} {ds : List D}, aC C H P β vs ds → aC C H (fun a => P a ∨ a = p) β vs ds
 | _, _, .nil => .nil
 | _, _, .cons h t => .cons (RV.more hp h) (aC.more hp t)
theorem aG.more {p : Addr} (hp : H p = none) : ∀ {vs : List (Key × V)} {ds : List (Key × D)}, aG C H P β vs ds → aG C H (fun a => P a ∨ a = p) β vs ds
 | _, _, .nil => .nil
 | _, _, .cons h t => .cons (RV.more hp h) (aG.more hp t)
end
mutual
theorem RV.set {p : Addr} {o : HO} (hp : P p ∨ p ∈ β) (ht : ∀ xs, ¬ Rd H p (.tup xs)) : ∀ {v : V} {d : D}, RV C H P β v d → RV C (upd H p o) P β v d
 | _, _, .non => .non
 | _, _, .bl b => .bl b
 | _, _, .int i => .int i
 | _, _, .str x => .str x
 | _, _, .ty n => .ty n
 | .ref a, _, .lst (xs := xs) h1 hb hr h => by
  have ne : a ≠ p := fun e => hp.elim (fun z => h1 (e ▸ z)) (fun z => hb (e ▸ z))
  exact .lst h1 hb (by unfold Rd; rw [upd_ne ne]; exact hr) (aC.set hp ht h)
 | .ref a, _, .tup (xs := xs) hr h => by
  have ne : a ≠ p := fun e => ht xs (e ▸ hr)
  exact .tup (by unfold Rd; rw [upd_ne ne]; exact hr) (aC.set hp ht h)
 | _, _, .eU k h => .eU k (aC.set hp ht h)
 | _, _, .dJ k h => .dJ k (aC.set hp ht h)
 | .ref a, _, .dct (xs := xs) h1 hb hr h => by
  have ne : a ≠ p := fun e => hp.elim (fun z => h1 (e ▸ z)) (fun z => hb (e ▸ z))
  exact .dct h1 hb (let ⟨o, q⟩ := hr; ⟨o, by rw [upd_ne ne]; exact q⟩) (aG.set hp ht h)
 | _, _, .ref h => .ref h
 | _, _, .fn h k => .fn h k
theorem aC.set {p : Addr} {o : HO} (hp : P p ∨ p ∈ β) (ht : ∀ xs, ¬ Rd H p (.tup xs)) : ∀ {vs : List V} {ds : List D}, aC C H P β vs ds → aC C (upd H p o) P β vs ds
 | _, _, .nil => .nil
 | _, _, .cons h t => .cons (RV.set hp ht h) (aC.set hp ht t)
theorem aG.set {p : Addr} {o : HO} (hp : P p ∨ p ∈ β) (ht : ∀ xs, ¬ Rd H p (.tup xs)) : ∀ {vs : List (Key × V)} {ds : List (Key × D)}, aG C H P β vs ds → aG C (upd H p o) P β vs ds
 | _, _, .nil => .nil
 | _, _, .cons h t => .cons (RV.set hp ht h) (aG.set hp ht t)
end
mutual
theorem RV.box {p : Addr} (hp : ¬ P p → H p = none ∨ P p) (hn : ∀ u, ¬ Rd H p u) : ∀ {v : V} {d : D}, RV C H P β v d → RV C H P (β ++ [p]) v d
 | _, _, .non => .non
 | _, _, .bl b => .bl b
 | _, _, .int i => .int i
 | _, _, .str x => .str x
 | _, _, .ty n => .ty n
 | _, _, .lst h1 hb hr h => .lst h1 (fun z => (List.mem_append.mp z).elim hb fun e => hn _ (by rw [← List.mem_singleton.mp e]; exact hr)) hr (aC.box hp hn h)
 | _, _, .tup hr h => .tup hr (aC.box hp hn h)
 | _, _, .eU k h => .eU k (aC.box hp hn h)
 | _, _, .dJ k h => .dJ k (aC.box hp hn h)
 | _, _, .dct h1 hb hr h => .dct h1 (fun z => (List.mem_append.mp z).elim hb fun e => hn _ (by rw [← List.mem_singleton.mp e]; exact hr.rd)) hr (aG.box hp hn h)
 | _, _, .ref (n := n) (a := a) h => .ref (by rw [List.getElem?_append_left (List.getElem?_eq_some_iff.mp h).1]; exact h)
 | _, _, .fn h k => .fn h k
theorem aC.box {p : Addr} (hp : ¬ P p → H p = none ∨ P p) (hn : ∀ u, ¬ Rd H p u) : ∀ {vs : List V} {ds : List D}, aC C H P β vs ds → aC C H P (β ++ [p]) vs ds
 | _, _, .nil => .nil
 | _, _, .cons h t => .cons (RV.box hp hn h) (aC.box hp hn t)
theorem aG.box {p : Addr} (hp : ¬ P p → H p = none ∨ P p) (hn : ∀ u, ¬ Rd H p u) : ∀ {vs : List (Key × V)} {ds : List (Key × D)}, aG C H P β vs ds → aG C H P (β ++ [p]) vs ds
 | _, _, .nil => .nil
 | _, _, .cons h t => .cons (RV.box hp hn h) (aG.box hp hn t)
end
end
section
variable {C : Ct} {H : Hp} {P : Addr → Prop} {β : List Addr}
theorem aC.length : ∀ {vs : List V} {ds : List D}, aC C H P β vs ds → vs.length = ds.length
 | _, _, .nil => rfl
 | _, _, .cons _ t => by simp [aC.length t]
theorem aC.get : ∀ {vs : List V} {ds : List D} {i : Nat} {d : D}, aC C H P β vs ds → ds[i]? = some d → ∃ v, vs[i]? = some v ∧ RV C H P β v d
 | _, _, 0, _, .cons h _, e => by simp at e; subst e; exact ⟨_, rfl, h⟩
 | _, _, i + 1, _, .cons _ t, e => by
  obtain ⟨v, h1, h2⟩ := aC.get (i := i) t (by simpa using e)
  exact ⟨v, by simpa using h1, h2⟩
 | _, _, _, _, .nil, e => by simp at e
theorem aC.of : ∀ {vs : List V} {ds : List D} {i : Nat} {v : V}, aC C H P β vs ds → vs[i]? = some v → ∃ d, ds[i]? = some d ∧ RV C H P β v d
 | _, _, 0, _, .cons h _, e => by simp at e; subst e; exact ⟨_, rfl, h⟩
 | _, _, i + 1, _, .cons _ t, e => by
  obtain ⟨v, h1, h2⟩ := aC.of (i := i) t (by simpa using e)
  exact ⟨v, by simpa using h1, h2⟩
 | _, _, _, _, .nil, e => by simp at e
theorem aC.append : ∀ {vs us : List V} {ds es : List D}, aC C H P β vs ds → aC C H P β us es → aC C H P β (vs ++ us) (ds ++ es)
 | _, _, _, _, .nil, s => s
 | _, _, _, _, .cons r t, s => .cons r (aC.append t s)
theorem aC.set' : ∀ {vs : List V} {ds : List D} {v : V} {d : D} (i : Nat), aC C H P β vs ds → RV C H P β v d → aC C H P β (vs.set i v) (ds.set i d)
 | _, _, _, _, _, .nil, _ => .nil
 | _, _, _, _, 0, .cons _ t, r => .cons r t
 | _, _, _, _, i + 1, .cons h t, r => .cons h (aC.set' i t r)
theorem aC.take : ∀ {vs : List V} {ds : List D} (n : Nat), aC C H P β vs ds → aC C H P β (vs.take n) (ds.take n)
 | _, _, 0, _ => .nil
 | _, _, _ + 1, .nil => .nil
 | _, _, n + 1, .cons r t => .cons r (aC.take n t)
theorem aC.drop : ∀ {vs : List V} {ds : List D} (n : Nat), aC C H P β vs ds → aC C H P β (vs.drop n) (ds.drop n)
 | _, _, 0, r => r
 | _, _, _ + 1, .nil => .nil
 | _, _, n + 1, .cons _ t => aC.drop n t
theorem aC.reverse : ∀ {vs : List V} {ds : List D}, aC C H P β vs ds → aC C H P β vs.reverse ds.reverse
 | _, _, .nil => .nil
 | _, _, .cons r t => by
  rw [List.reverse_cons, List.reverse_cons]
  exact aC.append (aC.reverse t) (.cons r .nil)
theorem aG.keys : ∀ {vs : List (Key × V)} {ds : List (Key × D)}, aG C H P β vs ds → vs.map (·.1) = ds.map (·.1)
 | _, _, .nil => rfl
 | _, _, .cons _ t => by simp [aG.keys t]
theorem aG.length {vs : List (Key × V)} {ds : List (Key × D)} (h : aG C H P β vs ds) : vs.length = ds.length := by
 have := congrArg List.length h.keys
 simpa using this
end
section
variable {C : Ct} {H : Hp} {P : Addr → Prop} {β : List Addr}
mutual
theorem RV.gj {p : Addr} : ∀ {v : V} {d : D}, RV C H (fun b => P b ∨ b = p) β v d → RV C H P (β ++ [p]) v d
 | _, _, .non => .non
 | _, _, .bl b => .bl b
 | _, _, .int i => .int i
 | _, _, .str x => .str x
 | _, _, .ty n => .ty n
 | _, _, .lst h1 hb hr h => .lst (fun z => h1 (.inl z)) (fun z => (List.mem_append.mp z).elim hb fun e => h1 (.inr (List.mem_singleton.mp e))) hr (aC.gj h)
 | _, _, .tup hr h => .tup hr (aC.gj h)
 | _, _, .eU k h => .eU k (aC.gj h)
 | _, _, .dJ k h => .dJ k (aC.gj h)
 | _, _, .dct h1 hb hr h => .dct (fun z => h1 (.inl z)) (fun z => (List.mem_append.mp z).elim hb fun e => h1 (.inr (List.mem_singleton.mp e))) hr (aG.gj h)
 | _, _, .ref (n := n) (a := a) h => .ref (by rw [List.getElem?_append_left (List.getElem?_eq_some_iff.mp h).1]; exact h)
 | _, _, .fn h k => .fn h k
theorem aC.gj {p : Addr} : ∀ {vs : List V} {ds : List D}, aC C H (fun b => P b ∨ b = p) β vs ds → aC C H P (β ++ [p]) vs ds
 | _, _, .nil => .nil
 | _, _, .cons h t => .cons (RV.gj h) (aC.gj t)
theorem aG.gj {p : Addr} : ∀ {vs : List (Key × V)} {ds : List (Key × D)}, aG C H (fun b => P b ∨ b = p) β vs ds → aG C H P (β ++ [p]) vs ds
 | _, _, .nil => .nil
 | _, _, .cons h t => .cons (RV.gj h) (aG.gj t)
end
end
/-- a uI entry: the heap, the oh places, what its callers keep apart; the yJ cX its loops have locked -/
structure Cf where
 H0 : Hp
 β0 : List Addr
 P0 : Addr → Prop
 lk : List Addr
structure jJ (cf : Cf) (H : Hp) (β : List Addr) : Prop where
 pre : ∃ γ, β = cf.β0 ++ γ
 keep : ∀ a o, cf.H0 a = some o → a ∉ cf.β0 → H a = some o ∨ (a ∈ cf.lk ∧ ∃ ob, H a = some (.frz ob o))
 fresh : ∀ a ∈ β, a ∈ cf.β0 ∨ cf.H0 a = none
 tups : ∀ a xs, Rd cf.H0 a (.tup xs) → Rd H a (.tup xs)
 stay : ∀ a, cf.H0 a ≠ none → H a ≠ none
 cY : ∀ a o u, cf.H0 a = some (.frz o u) → H a = some (.frz o u)
def lV (C : Ct) (H : Hp) (P : Addr → Prop) (β : List Addr) (vs : List (Str × V)) (fs : List (Str × D)) : Prop :=
 vs.map (·.1) = fs.map (·.1) ∧ aC C H P β (vs.map (·.2)) (fs.map (·.2))
/-- the place of an EY dict -/
def rP (β : List Addr) (m : Option Nat) (d : Option Addr) : Prop := match m with
 | none => d = none
 | some k => ∃ dd, d = some dd ∧ β[k]? = some dd
theorem rP.app {β γ : List Addr} {m : Option Nat} {d : Option Addr} (h : rP β m d) : rP (β ++ γ) m d := by
 cases m with
 | none => exact h
 | some k =>
  obtain ⟨dd, e, h⟩ := h
  exact ⟨dd, e, by rw [List.getElem?_append_left (List.getElem?_eq_some_iff.mp h).1]; exact h⟩
def bK (C : Ct) (H : Hp) (P : Addr → Prop) (β : List Addr) (a : Addr) : SO → Prop
 | .lst ds => ∃ xs, H a = some (.lst xs) ∧ aC C H P β xs ds
 | .dct ds => ∃ xs, H a = some (.dK xs) ∧ aG C H P β xs ds
 | .ins c fs => ∃ Ca dx vs, C.mg c = some (.ref Ca) ∧ H a = some (.ins Ca dx vs) ∧ lV C H P β vs fs
 | .fD ds => ∃ od xs, H a = some (.frz od (.dK xs)) ∧ aG C H P β xs ds
 | .fG ds => ∃ od xs, H a = some (.frz od (.lst xs)) ∧ aC C H P β xs ds
 | .exo c m => ∃ Ca d, C.mg c = some (.ref Ca) ∧ H a = some (L2.exo a Ca d) ∧ rP β m d
 | .exd fs => ∃ vs, H a = some (L2.exd a vs) ∧ lV C H P β vs fs
structure aK (C : Ct) (H : Hp) (P : Addr → Prop) (β : List Addr) (S : Store) : Prop where
 len : β.length = S.length
 nd : β.Nodup
 ok : ∀ (n : Nat) (a : Addr) (so : SO), β[n]? = some a → S[n]? = some so → bK C H P β a so
/-- a container cX one slot alone holds -/
def cJ (C : Ct) (H : Hp) (P : Addr → Prop) (β : List Addr) (a : Addr) : D → Prop
 | .lst ds => ∃ xs, H a = some (.lst xs) ∧ aC C H P β xs ds
 | .dct ds => ∃ xs, H a = some (.dK xs) ∧ aG C H P β xs ds
 | _ => False
/-- the exception cX a suite a1Y -/
def gM (C : Ct) (H : Hp) (P : Addr → Prop) (β : List Addr) (a : Addr) (e : cM) : Prop :=
 ∃ oe Ca dd vs, (a, oe) ∈ C.pn ∧ Zc (.ref Ca) (some dd) oe ∧ (∃ ws, oe.data = .fields ws) ∧ C.mg e.cls = some (.ref Ca) ∧ H dd = some (.xd vs) ∧ dd ∉ β ∧ ¬ P dd ∧ ∀ f x, e.fs.lookup f = some x → ∃ v, vs.lookup f = some v ∧ RV C H P β v x
theorem gM.mono {C : Ct} {H H' : Hp} {P : Addr → Prop} {β β' : List Addr} {a : Addr} {e : cM} (h : gM C H P β a e) (x : Ext H β H' β') : gM C H' P β' a e := by
 obtain ⟨oe, Ca, dd, vs, h1, h2, h3, h4, h5, h6, h7, h8⟩ := h
 exact ⟨oe, Ca, dd, vs, h1, h2, h3, h4, x.keep _ _ h5 h6, x.out h6 (by rw [h5]; exact Option.some_ne_none _), h7, fun f y q => let ⟨v, q1, q2⟩ := h8 f y q; ⟨v, q1, q2.mono x⟩⟩
theorem gM.less {C : Ct} {H : Hp} {P P' : Addr → Prop} {β : List Addr} {a : Addr} {e : cM} (h : gM C H P β a e) (x : ∀ a, P' a → P a) : gM C H P' β a e := by
 obtain ⟨oe, Ca, dd, vs, h1, h2, h3, h4, h5, h6, h7, h8⟩ := h
 exact ⟨oe, Ca, dd, vs, h1, h2, h3, h4, h5, h6, fun z => h7 (x _ z), fun f y q => let ⟨v, q1, q2⟩ := h8 f y q; ⟨v, q1, q2.less x⟩⟩
theorem gM.more {C : Ct} {H : Hp} {P : Addr → Prop} {β : List Addr} {a : Addr} {e : cM} {p : Addr} (h : gM C H P β a e) (hp : H p = none) : gM C H (fun b => P b ∨ b = p) β a e := by
 obtain ⟨oe, Ca, dd, vs, h1, h2, h3, h4, h5, h6, h7, h8⟩ := h
 exact ⟨oe, Ca, dd, vs, h1, h2, h3, h4, h5, h6, fun (z : P dd ∨ dd = p) => Or.elim z h7 fun q => (by rw [q, hp] at h5; cases h5), fun f y q => let ⟨v, q1, q2⟩ := h8 f y q; ⟨v, q1, q2.more hp⟩⟩
theorem gM.set {C : Ct} {H : Hp} {P : Addr → Prop} {β : List Addr} {a : Addr} {e : cM} {p : Addr} {o : HO} (h : gM C H P β a e) (hp : P p) (ht : ∀ xs, ¬ Rd H p (.tup xs)) : gM C (upd H p o) P β a e := by
 obtain ⟨oe, Ca, dd, vs, h1, h2, h3, h4, h5, h6, h7, h8⟩ := h
 exact ⟨oe, Ca, dd, vs, h1, h2, h3, h4, by rw [upd_ne (show dd ≠ p from fun z => h7 (by rw [z]; exact hp))]; exact h5, h6, h7, fun f y q => let ⟨v, q1, q2⟩ := h8 f y q; ⟨v, q1, q2.set (.inl hp) ht⟩⟩
structure LR (C : Ct) (cf : Cf) (oa : Nat → Option Addr) (P : Addr → Prop) (σ : St) (H : Hp) (β : List Addr) (ρ : aH) (S : Store) : Prop where
 len : σ.length = ρ.length
 p : ∀ a, P a → H a ≠ none ∧ a ∉ β
 sub : ∀ a, cf.P0 a → P a
 p0 : ∀ a, cf.P0 a → cf.H0 a ≠ none
 ext : jJ cf H β
 own : ∀ i a, oa i = some a → P a ∧ cf.H0 a = none
 inj : ∀ i j a, oa i = some a → oa j = some a → i = j
 st : aK C H P β S
 slot : ∀ (i : Nat) (d : D), ρ[i]? = some (Sl.sh d) → ∃ v, σ[i]? = some (some v) ∧ RV C H P β v d
 dM : ∀ (i : Nat) (d : D), ρ[i]? = some (Sl.ow d) → ∃ a, oa i = some a ∧ σ[i]? = some (some (.ref a)) ∧ cJ C H P β a d
 xslot : ∀ (i : Nat) (e : cM), ρ[i]? = some (Sl.ex e) → ∃ a, σ[i]? = some (some (.ref a)) ∧ gM C H P β a e
section
variable {C : Ct} {cf : Cf} {oa : Nat → Option Addr} {P P' : Addr → Prop} {σ : St} {H H' : Hp} {β β' : List Addr} {ρ : aH} {S S' : Store}
theorem jJ.step (x : jJ cf H β) (e : Ext H β H' β') : jJ cf H' β' where
 pre := by
  obtain ⟨γ, r⟩ := x.pre
  obtain ⟨γ', r'⟩ := e.pre
  exact ⟨γ ++ γ', by rw [r', r, List.append_assoc]⟩
 keep := fun a o h hn => by
  have nb : a ∉ β := fun m => (x.fresh a m).elim hn fun z => by rw [h] at z; cases z
  rcases x.keep a o h hn with q | ⟨m, ob, q⟩
  ·exact .inl (e.keep _ _ q nb)
  ·exact .inr ⟨m, ob, e.keep _ _ q nb⟩
 fresh := fun a h => by
  rcases e.fresh a h with q | q
  ·exact x.fresh a q
  ·right
   cases z : cf.H0 a with
   | none => rfl
   | some o => exact absurd q (x.stay a (by rw [z]; exact Option.some_ne_none _))
 tups := fun a xs h => e.tups a xs (x.tups a xs h)
 stay := fun a h => e.stay a (x.stay a h)
 cY := fun a o u h => e.cY a o u (x.cY a o u h)
theorem jJ.done (x : jJ cf H β) (hl : cf.lk = []) : Ext cf.H0 cf.β0 H β :=
 ⟨x.pre, fun a o h hn => (x.keep a o h hn).elim id fun z => by rw [hl] at z; exact absurd z.1 (by simp), x.fresh, x.tups, x.stay, x.cY⟩
theorem bK.rQ {a : Addr} {so : SO} (h : bK C H P β a so) : H a ≠ none := by
 cases so with
 | lst ds => obtain ⟨xs, e, _⟩ := h; rw [e]; exact Option.some_ne_none _
 | dct ds => obtain ⟨xs, e, _⟩ := h; rw [e]; exact Option.some_ne_none _
 | ins c fs => obtain ⟨Ca, dx, vs, _, e, _⟩ := h; rw [e]; exact Option.some_ne_none _
 | fD ds => obtain ⟨od, xs, e, _⟩ := h; rw [e]; exact Option.some_ne_none _
 | fG ds => obtain ⟨od, xs, e, _⟩ := h; rw [e]; exact Option.some_ne_none _
 | exo c m => obtain ⟨Ca, d, _, e, _⟩ := h; rw [e]; exact Option.some_ne_none _
 | exd fs => obtain ⟨vs, e, _⟩ := h; rw [e]; exact Option.some_ne_none _
theorem bK.lW {a : Addr} {so : SO} (h : bK C H P β a so) : ∀ xs, ¬ Rd H a (.tup xs) := by
 intro xs r
 cases so with
 | lst ds => obtain ⟨xs, e, _⟩ := h; rcases r with r | ⟨o, r⟩ <;> (rw [e] at r; cases r)
 | dct ds => obtain ⟨xs, e, _⟩ := h; rcases r with r | ⟨o, r⟩ <;> (rw [e] at r; cases r)
 | ins c fs => obtain ⟨Ca, dx, vs, _, e, _⟩ := h; rcases r with r | ⟨o, r⟩ <;> (rw [e] at r; cases r)
 | fD ds => obtain ⟨od, xs, e, _⟩ := h; rcases r with r | ⟨o, r⟩ <;> (rw [e] at r; cases r)
 | fG ds => obtain ⟨od, xs, e, _⟩ := h; rcases r with r | ⟨o, r⟩ <;> (rw [e] at r; cases r)
 | exo c m => obtain ⟨Ca, d, _, e, _⟩ := h; rcases r with r | ⟨o, r⟩ <;> (rw [e] at r; unfold L2.exo at r; cases r)
 | exd fs => obtain ⟨vs, e, _⟩ := h; rcases r with r | ⟨o, r⟩ <;> (rw [e] at r; unfold L2.exd at r; cases r)
theorem cJ.rQ {a : Addr} {d : D} (h : cJ C H P β a d) : H a ≠ none := by
 cases d <;> first | exact h.elim | (obtain ⟨xs, e, _⟩ := h; rw [e]; exact Option.some_ne_none _)
theorem cJ.lW {a : Addr} {d : D} (h : cJ C H P β a d) : ∀ xs, ¬ Rd H a (.tup xs) := by
 intro xs r
 cases d <;> first | exact h.elim | (obtain ⟨xs, e, _⟩ := h; rcases r with r | ⟨o, r⟩ <;> (rw [e] at r; cases r))
theorem cJ.mono {a : Addr} {d : D} (h : cJ C H P β a d) (e : Ext H β H' β') (hn : a ∉ β) : cJ C H' P β' a d := by
 cases d <;> first | exact h.elim | skip
 ·obtain ⟨xs, q, r⟩ := h; exact ⟨xs, e.keep _ _ q hn, r.mono e⟩
 ·obtain ⟨xs, q, r⟩ := h; exact ⟨xs, e.keep _ _ q hn, r.mono e⟩
theorem cJ.less {a : Addr} {d : D} (h : cJ C H P β a d) (e : ∀ a, P' a → P a) : cJ C H P' β a d := by
 cases d <;> first | exact h.elim | skip
 ·obtain ⟨xs, q, r⟩ := h; exact ⟨xs, q, r.less e⟩
 ·obtain ⟨xs, q, r⟩ := h; exact ⟨xs, q, r.less e⟩
theorem cJ.more {a p : Addr} {d : D} (h : cJ C H P β a d) (hp : H p = none) : cJ C H (fun b => P b ∨ b = p) β a d := by
 cases d <;> first | exact h.elim | skip
 ·obtain ⟨xs, q, r⟩ := h; exact ⟨xs, q, r.more hp⟩
 ·obtain ⟨xs, q, r⟩ := h; exact ⟨xs, q, r.more hp⟩
theorem cJ.set {a p : Addr} {o : HO} {d : D} (h : cJ C H P β a d) (hp : P p ∨ p ∈ β) (ht : ∀ xs, ¬ Rd H p (.tup xs)) (ne : a ≠ p) : cJ C (upd H p o) P β a d := by
 cases d <;> first | exact h.elim | skip
 ·obtain ⟨xs, q, r⟩ := h; exact ⟨xs, by rw [upd_ne ne]; exact q, r.set hp ht⟩
 ·obtain ⟨xs, q, r⟩ := h; exact ⟨xs, by rw [upd_ne ne]; exact q, r.set hp ht⟩
theorem bK.less {a : Addr} {so : SO} (h : bK C H P β a so) (e : ∀ a, P' a → P a) : bK C H P' β a so := by
 cases so with
 | lst ds => obtain ⟨xs, q, r⟩ := h; exact ⟨xs, q, r.less e⟩
 | dct ds => obtain ⟨xs, q, r⟩ := h; exact ⟨xs, q, r.less e⟩
 | ins c fs => obtain ⟨Ca, dx, vs, m, q, n, r⟩ := h; exact ⟨Ca, dx, vs, m, q, n, r.less e⟩
 | fD ds => obtain ⟨od, xs, q, r⟩ := h; exact ⟨od, xs, q, r.less e⟩
 | fG ds => obtain ⟨od, xs, q, r⟩ := h; exact ⟨od, xs, q, r.less e⟩
 | exo c m => exact h
 | exd fs => obtain ⟨vs, q, n, r⟩ := h; exact ⟨vs, q, n, r.less e⟩
theorem bK.more {a p : Addr} {so : SO} (h : bK C H P β a so) (hp : H p = none) : bK C H (fun b => P b ∨ b = p) β a so := by
 cases so with
 | lst ds => obtain ⟨xs, q, r⟩ := h; exact ⟨xs, q, r.more hp⟩
 | dct ds => obtain ⟨xs, q, r⟩ := h; exact ⟨xs, q, r.more hp⟩
 | ins c fs => obtain ⟨Ca, dx, vs, m, q, n, r⟩ := h; exact ⟨Ca, dx, vs, m, q, n, r.more hp⟩
 | fD ds => obtain ⟨od, xs, q, r⟩ := h; exact ⟨od, xs, q, r.more hp⟩
 | fG ds => obtain ⟨od, xs, q, r⟩ := h; exact ⟨od, xs, q, r.more hp⟩
 | exo c m => exact h
 | exd fs => obtain ⟨vs, q, n, r⟩ := h; exact ⟨vs, q, n, r.more hp⟩
theorem bK.laid {a p : Addr} {o : HO} {so : SO} (h : bK C H P β a so) (hp : H p = none) : bK C (upd H p o) P β a so := by
 have ne : a ≠ p := fun e => h.rQ (by rw [e]; exact hp)
 have x : Ext H β (upd H p o) β := Ext.laid hp
 cases so with
 | lst ds => obtain ⟨xs, q, r⟩ := h; exact ⟨xs, by rw [upd_ne ne]; exact q, r.mono x⟩
 | dct ds => obtain ⟨xs, q, r⟩ := h; exact ⟨xs, by rw [upd_ne ne]; exact q, r.mono x⟩
 | ins c fs => obtain ⟨Ca, dx, vs, m, q, n, r⟩ := h; exact ⟨Ca, dx, vs, m, by rw [upd_ne ne]; exact q, n, r.mono x⟩
 | fD ds => obtain ⟨od, xs, q, r⟩ := h; exact ⟨od, xs, by rw [upd_ne ne]; exact q, r.mono x⟩
 | fG ds => obtain ⟨od, xs, q, r⟩ := h; exact ⟨od, xs, by rw [upd_ne ne]; exact q, r.mono x⟩
 | exo c m => obtain ⟨Ca, d, m1, q, n⟩ := h; exact ⟨Ca, d, m1, by rw [upd_ne ne]; exact q, n⟩
 | exd fs => obtain ⟨vs, q, n, r⟩ := h; exact ⟨vs, by rw [upd_ne ne]; exact q, n, r.mono x⟩
theorem bK.set {a p : Addr} {o : HO} {so : SO} (h : bK C H P β a so) (hp : P p ∨ p ∈ β) (ht : ∀ xs, ¬ Rd H p (.tup xs)) (ne : a ≠ p) : bK C (upd H p o) P β a so := by
 cases so with
 | lst ds => obtain ⟨xs, q, r⟩ := h; exact ⟨xs, by rw [upd_ne ne]; exact q, r.set hp ht⟩
 | dct ds => obtain ⟨xs, q, r⟩ := h; exact ⟨xs, by rw [upd_ne ne]; exact q, r.set hp ht⟩
 | ins c fs => obtain ⟨Ca, dx, vs, m, q, n, r⟩ := h; exact ⟨Ca, dx, vs, m, by rw [upd_ne ne]; exact q, n, r.set hp ht⟩
 | fD ds => obtain ⟨od, xs, q, r⟩ := h; exact ⟨od, xs, by rw [upd_ne ne]; exact q, r.set hp ht⟩
 | fG ds => obtain ⟨od, xs, q, r⟩ := h; exact ⟨od, xs, by rw [upd_ne ne]; exact q, r.set hp ht⟩
 | exo c m => obtain ⟨Ca, d, m1, q, n⟩ := h; exact ⟨Ca, d, m1, by rw [upd_ne ne]; exact q, n⟩
 | exd fs => obtain ⟨vs, q, n, r⟩ := h; exact ⟨vs, by rw [upd_ne ne]; exact q, n, r.set hp ht⟩
theorem bK.box {a p : Addr} {so : SO} (h : bK C H P β a so) (hp : ¬ P p → H p = none ∨ P p) (hn : ∀ u, ¬ Rd H p u) : bK C H P (β ++ [p]) a so := by
 cases so with
 | lst ds => obtain ⟨xs, q, r⟩ := h; exact ⟨xs, q, r.box hp hn⟩
 | dct ds => obtain ⟨xs, q, r⟩ := h; exact ⟨xs, q, r.box hp hn⟩
 | ins c fs => obtain ⟨Ca, dx, vs, m, q, n, r⟩ := h; exact ⟨Ca, dx, vs, m, q, n, r.box hp hn⟩
 | fD ds => obtain ⟨od, xs, q, r⟩ := h; exact ⟨od, xs, q, r.box hp hn⟩
 | fG ds => obtain ⟨od, xs, q, r⟩ := h; exact ⟨od, xs, q, r.box hp hn⟩
 | exo c m => obtain ⟨Ca, d, m1, q, n⟩ := h; exact ⟨Ca, d, m1, q, n.app⟩
 | exd fs => obtain ⟨vs, q, n, r⟩ := h; exact ⟨vs, q, n, r.box hp hn⟩
theorem aK.less (h : aK C H P β S) (e : ∀ a, P' a → P a) : aK C H P' β S := ⟨h.len, h.nd, fun n a so h1 h2 => (h.ok n a so h1 h2).less e⟩
theorem aK.more {p : Addr} (h : aK C H P β S) (hp : H p = none) : aK C H (fun b => P b ∨ b = p) β S := ⟨h.len, h.nd, fun n a so h1 h2 => (h.ok n a so h1 h2).more hp⟩
theorem aK.laid {p : Addr} {o : HO} (h : aK C H P β S) (hp : H p = none) : aK C (upd H p o) P β S := ⟨h.len, h.nd, fun n a so h1 h2 => (h.ok n a so h1 h2).laid hp⟩
theorem aK.at (h : aK C H P β S) {n : Nat} {so : SO} (e : S[n]? = some so) : ∃ a, β[n]? = some a ∧ bK C H P β a so := by
 have hl : n < β.length := by rw [h.len]; exact (List.getElem?_eq_some_iff.mp e).1
 exact ⟨β[n], List.getElem?_eq_getElem hl, h.ok n _ so (List.getElem?_eq_getElem hl) e⟩
theorem aK.of (h : aK C H P β S) {n : Nat} {a : Addr} (e : β[n]? = some a) : ∃ so, S[n]? = some so ∧ bK C H P β a so := by
 have hl : n < S.length := by rw [← h.len]; exact (List.getElem?_eq_some_iff.mp e).1
 exact ⟨S[n], List.getElem?_eq_getElem hl, h.ok n _ _ e (List.getElem?_eq_getElem hl)⟩
theorem aK.mem (h : aK C H P β S) {a : Addr} (m : a ∈ β) : H a ≠ none := by
 obtain ⟨n, hn⟩ := List.getElem?_of_mem m
 obtain ⟨so, _, q⟩ := h.of hn
 exact q.rQ
theorem aK.lW (h : aK C H P β S) {a : Addr} (m : a ∈ β) : ∀ xs, ¬ Rd H a (.tup xs) := by
 obtain ⟨n, hn⟩ := List.getElem?_of_mem m
 obtain ⟨so, _, q⟩ := h.of hn
 exact q.lW
theorem EZ {l : List Addr} (h : l.Nodup) {i j : Nat} {a : Addr} (h1 : l[i]? = some a) (h2 : l[j]? = some a) : i = j := by
 obtain ⟨h1, e1⟩ := List.getElem?_eq_some_iff.mp h1
 obtain ⟨h2, e2⟩ := List.getElem?_eq_some_iff.mp h2
 exact (List.getElem_inj h).mp (e1.trans e2.symm)
/-- a thing of the store is changed -/
theorem aK.set {n : Nat} {a : Addr} {o : HO} {so : SO} (h : aK C H P β S) (e : β[n]? = some a) (new : bK C (upd H a o) P β a so) : aK C (upd H a o) P β (S.set n so) := by
 have m : a ∈ β := List.mem_of_getElem? e
 refine ⟨by rw [List.length_set]; exact h.len, h.nd, fun k b sb h1 h2 => ?_⟩
 by_cases hk : n = k
 ·subst hk
  rw [e] at h1; cases h1
  rw [List.getElem?_set_self (by rw [← h.len]; exact (List.getElem?_eq_some_iff.mp e).1)] at h2
  cases h2
  exact new
 ·rw [List.getElem?_set_ne hk] at h2
  exact (h.ok k b sb h1 h2).set (.inr m) (h.lW m) fun z => hk (EZ h.nd e (z ▸ h1))
/-- a container cX is kept apart is changed -/
theorem aK.own {p : Addr} {o : HO} (h : aK C H P β S) (hp : P p) (hn : p ∉ β) (ht : ∀ xs, ¬ Rd H p (.tup xs)) : aK C (upd H p o) P β S :=
 ⟨h.len, h.nd, fun n a so h1 h2 => (h.ok n a so h1 h2).set (.inl hp) ht fun z => hn (z ▸ List.mem_of_getElem? h1)⟩
/-- a new thing of the store -/
theorem aK.box {p : Addr} {o : HO} {so : SO} (h : aK C H P β S) (hp : H p = none) (hpP : ¬ P p) (new : bK C (upd H p o) P (β ++ [p]) p so) : aK C (upd H p o) P (β ++ [p]) (S ++ [so]) := by
 have nb : p ∉ β := fun m => h.mem m hp
 refine ⟨by simp [h.len], ?_, fun n a sb h1 h2 => ?_⟩
 ·rw [List.nodup_append]
  exact ⟨h.nd, by simp, fun x hx y hy => by rw [List.mem_singleton.mp hy]; exact fun z => nb (z ▸ hx)⟩
 ·by_cases hn : n < β.length
  ·rw [List.getElem?_append_left hn] at h1
   rw [List.getElem?_append_left (by rw [← h.len]; exact hn)] at h2
   have q := h.ok n a sb h1 h2
   have ne : a ≠ p := fun e => q.rQ (by rw [e]; exact hp)
   have rn : ∀ u, ¬ Rd H p u := fun u r => jH r hp
   have q2 := q.box (p := p) (fun _ => .inl hp) rn
   have x : Ext H (β ++ [p]) (upd H p o) (β ++ [p]) := Ext.laid hp
   cases sb with
   | lst ds => obtain ⟨xs, q, r⟩ := q2; exact ⟨xs, by rw [upd_ne ne]; exact q, r.mono x⟩
   | dct ds => obtain ⟨xs, q, r⟩ := q2; exact ⟨xs, by rw [upd_ne ne]; exact q, r.mono x⟩
   | ins c fs => obtain ⟨Ca, dx, vs, m, q, n, r⟩ := q2; exact ⟨Ca, dx, vs, m, by rw [upd_ne ne]; exact q, n, r.mono x⟩
   | fD ds => obtain ⟨od, xs, q, r⟩ := q2; exact ⟨od, xs, by rw [upd_ne ne]; exact q, r.mono x⟩
   | fG ds => obtain ⟨od, xs, q, r⟩ := q2; exact ⟨od, xs, by rw [upd_ne ne]; exact q, r.mono x⟩
   | exo c m => obtain ⟨Ca, d, m1, q, n⟩ := q2; exact ⟨Ca, d, m1, by rw [upd_ne ne]; exact q, n⟩
   | exd fs => obtain ⟨vs, q, n, r⟩ := q2; exact ⟨vs, by rw [upd_ne ne]; exact q, n, r.mono x⟩
  ·have hl : n = β.length := by
    have := (List.getElem?_eq_some_iff.mp h1).1
    simp at this; omega
   subst hl
   rw [List.getElem?_append_right (Nat.le_refl _)] at h1
   rw [h.len, List.getElem?_append_right (Nat.le_refl _)] at h2
   simp at h1 h2
   subst h1; subst h2
   exact new
theorem Ext.boxed {p : Addr} {o : HO} (hp : H p = none) : Ext H β (upd H p o) (β ++ [p]) where
 pre := ⟨[p], rfl⟩
 keep := fun a u h _ => by rw [upd_ne (ne_of_none h hp)]; exact h
 fresh := fun a h => by
  rcases List.mem_append.mp h with h | h
  ·exact .inl h
  ·rw [List.mem_singleton.mp h]; exact .inr hp
 tups := (Ext.laid (β := β) hp).tups
 stay := (Ext.laid (β := β) hp).stay
 cY := (Ext.laid (β := β) hp).cY
/-- the oh thing at a changes -/
theorem Ext.wrote {a : Addr} {o : HO} (m : a ∈ β) (ht : ∀ xs, ¬ Rd H a (.tup xs)) (hf : ∀ o u, H a ≠ some (.frz o u)) : Ext H β (upd H a o) β where
 pre := ⟨[], (List.append_nil β).symm⟩
 keep := fun b u h hn => by rw [upd_ne (fun z => hn (by rw [z]; exact m))]; exact h
 fresh := fun _ h => .inl h
 tups := fun b xs h => by
  have ne : b ≠ a := fun z => ht xs (z ▸ h)
  unfold Rd; rw [upd_ne ne]; exact h
 stay := fun b h => by
  by_cases e : b = a
  ·rw [e, upd_same]; exact Option.some_ne_none _
  ·rw [upd_ne e]; exact h
 cY := fun b o u h => by rw [upd_ne (fun z => hf o u (by rw [← z]; exact h))]; exact h
/-- behind an expression -/
theorem LR.step (L : LR C cf oa P σ H β ρ S) (e : Ext H β H' β') (s : aK C H' P β' S') : LR C cf oa P σ H' β' ρ S' where
 len := L.len
 p := fun a h => ⟨e.stay _ (L.p a h).1, e.out (L.p a h).2 (L.p a h).1⟩
 sub := L.sub
 p0 := L.p0
 ext := L.ext.step e
 own := L.own
 inj := L.inj
 st := s
 slot := fun i d h => let ⟨v, h1, h2⟩ := L.slot i d h; ⟨v, h1, h2.mono e⟩
 dM := fun i d h => let ⟨a, h1, h2, h3⟩ := L.dM i d h; ⟨a, h1, h2, h3.mono e (L.p a (L.own i a h1).1).2⟩
 xslot := fun i x h => let ⟨a, h1, h2⟩ := L.xslot i x h; ⟨a, h1, h2.mono e⟩
theorem LR.laid {p : Addr} {o : HO} (L : LR C cf oa P σ H β ρ S) (hp : H p = none) : LR C cf oa P σ (upd H p o) β ρ S := L.step (Ext.laid hp) (L.st.laid hp)
theorem LR.ou {p : Addr} (L : LR C cf oa P σ H β ρ S) (hp : H p = none) : ¬ P p := fun z => (L.p p z).1 hp
theorem LR.rR {p : Addr} (L : LR C cf oa P σ H β ρ S) (hp : H p = none) : p ∉ β := fun z => L.st.mem z hp
/-- fewer places kept apart, the owned ones and the a2a still -/
theorem LR.less (L : LR C cf oa P σ H β ρ S) (e : ∀ a, P' a → P a) (h1 : ∀ a, cf.P0 a → P' a) (h2 : ∀ i a, oa i = some a → P' a) : LR C cf oa P' σ H β ρ S where
 len := L.len
 p := fun a h => L.p a (e a h)
 sub := h1
 p0 := L.p0
 ext := L.ext
 own := fun i a h => ⟨h2 i a h, (L.own i a h).2⟩
 inj := L.inj
 st := L.st.less e
 slot := fun i d h => let ⟨v, q1, q2⟩ := L.slot i d h; ⟨v, q1, q2.less e⟩
 dM := fun i d h => let ⟨a, q1, q2, q3⟩ := L.dM i d h; ⟨a, q1, q2, q3.less e⟩
 xslot := fun i x h => let ⟨a, h1, h2⟩ := L.xslot i x h; ⟨a, h1, h2.less e⟩
end
def lX (C : Ct) (H : Hp) (P : Addr → Prop) (β : List Addr) (cls : Value) (d : Option Addr) (e : cM) : Prop :=
 ∃ Ca dd vs, C.mg e.cls = some (.ref Ca) ∧ cls = .ref Ca ∧ d = some dd ∧ H dd = some (.xd vs) ∧ dd ∉ β ∧ ¬ P dd ∧ ∀ f x, e.fs.lookup f = some x → ∃ v, vs.lookup f = some v ∧ RV C H P β v x
/-- all cX is tracked stays -/
theorem Ext.same {H H' : Hp} {β : List Addr} (e : Same H H') : Ext H β H' β where
 pre := ⟨[], (List.append_nil β).symm⟩
 keep := fun a o h _ => e a o h
 fresh := fun _ h => .inl h
 tups := fun a xs h => h.elim (fun h => .inl (e _ _ h)) fun ⟨o, h⟩ => .inr ⟨o, e _ _ h⟩
 stay := fun a h => by
  cases z : H a with
  | none => exact absurd z h
  | some o => rw [e a o z]; exact Option.some_ne_none _
 cY := fun a o u h => e _ _ h
theorem bK.same {C : Ct} {H H' : Hp} {P : Addr → Prop} {β : List Addr} {a : Addr} {so : SO} (h : bK C H P β a so) (e : Same H H') : bK C H' P β a so := by
 cases so with
 | lst ds => obtain ⟨xs, q, r⟩ := h; exact ⟨xs, e _ _ q, r.mono (Ext.same e)⟩
 | dct ds => obtain ⟨xs, q, r⟩ := h; exact ⟨xs, e _ _ q, r.mono (Ext.same e)⟩
 | ins c fs => obtain ⟨Ca, dx, vs, m, q, n, r⟩ := h; exact ⟨Ca, dx, vs, m, e _ _ q, n, r.mono (Ext.same e)⟩
 | fD ds => obtain ⟨od, xs, q, r⟩ := h; exact ⟨od, xs, e _ _ q, r.mono (Ext.same e)⟩
 | fG ds => obtain ⟨od, xs, q, r⟩ := h; exact ⟨od, xs, e _ _ q, r.mono (Ext.same e)⟩
 | exo c m => obtain ⟨Ca, d, m1, q, n⟩ := h; exact ⟨Ca, d, m1, e _ _ q, n⟩
 | exd fs => obtain ⟨vs, q, n, r⟩ := h; exact ⟨vs, e _ _ q, n, r.mono (Ext.same e)⟩
theorem aK.same {C : Ct} {H H' : Hp} {P : Addr → Prop} {β : List Addr} {S : Store} (h : aK C H P β S) (e : Same H H') : aK C H' P β S := ⟨h.len, h.nd, fun n a so h1 h2 => (h.ok n a so h1 h2).same e⟩
theorem LR.same {C : Ct} {cf : Cf} {oa : Nat → Option Addr} {P : Addr → Prop} {σ : St} {H H' : Hp} {β : List Addr} {ρ : aH} {S : Store} (L : LR C cf oa P σ H β ρ S) (e : Same H H') : LR C cf oa P σ H' β ρ S := L.step (Ext.same e) (L.st.same e)
theorem jt {H : Hp} {p : Addr} {o : HO} (hp : H p = none) : Same H (upd H p o) := fun a u h => by rw [upd_ne (ne_of_none h hp)]; exact h
/-- from ahead of an expression to behind it. b: it is read only (a F7 of the slots' own yJ is allowed) -/
structure Tr (b : Bool) (H : Hp) (β : List Addr) (S : Store) (H' : Hp) (β' : List Addr) (S' : Store) : Prop where
 ext : Ext H β H' β'
 ro : b = true → Same H H' ∧ β' = β ∧ S' = S
theorem Tr.refl {b : Bool} {H : Hp} {β : List Addr} {S : Store} : Tr b H β S H β S := ⟨Ext.refl _ _, fun _ => ⟨Same.refl _, rfl, rfl⟩⟩
theorem Tr.trans {b : Bool} {H H1 H2 : Hp} {β β1 β2 : List Addr} {S S1 S2 : Store} (x : Tr b H β S H1 β1 S1) (y : Tr b H1 β1 S1 H2 β2 S2) : Tr b H β S H2 β2 S2 :=
 ⟨x.ext.trans y.ext, fun e => let ⟨a1, a2, a3⟩ := x.ro e; let ⟨b1, b2, b3⟩ := y.ro e; ⟨a1.trans b1, b2.trans a2, b3.trans a3⟩⟩
theorem Tr.same {b : Bool} {H H' : Hp} {β : List Addr} {S : Store} (e : Same H H') : Tr b H β S H' β S := ⟨Ext.same e, fun _ => ⟨e, rfl, rfl⟩⟩
structure Fx (H : Hp) (P : Addr → Prop) (β : List Addr) (H' : Hp) (P' : Addr → Prop) (β' : List Addr) : Prop where
 pre : ∃ γ, β' = β ++ γ
 con : ∀ a u, ¬ P a → a ∉ β → Rd H a u → Rd H' a u ∧ ¬ P' a ∧ a ∉ β'
 fz : ∀ a o u, H a = some (.frz o u) → H' a = some (.frz o u)
 tups : ∀ a xs, Rd H a (.tup xs) → Rd H' a (.tup xs)
section
variable {C : Ct} {H H1 H2 H' : Hp} {P P1 P2 P' : Addr → Prop} {β β1 β2 β' : List Addr}
theorem Fx.refl : Fx H P β H P β := ⟨⟨[], (List.append_nil β).symm⟩, fun _ _ h1 h2 r => ⟨r, h1, h2⟩, fun _ _ _ h => h, fun _ _ h => h⟩
theorem Fx.trans (a : Fx H P β H1 P1 β1) (b : Fx H1 P1 β1 H2 P2 β2) : Fx H P β H2 P2 β2 where
 pre := by
  obtain ⟨γ, r⟩ := a.pre
  obtain ⟨γ', r'⟩ := b.pre
  exact ⟨γ ++ γ', by rw [r', r, List.append_assoc]⟩
 con := fun c u h1 h2 r => let ⟨r1, q1, q2⟩ := a.con c u h1 h2 r; b.con c u q1 q2 r1
 fz := fun c o u r => b.fz c o u (a.fz c o u r)
 tups := fun c xs h => b.tups c xs (a.tups c xs h)
theorem Fx.of (e : Ext H β H' β') : Fx H P β H' P β' := ⟨e.pre, fun a u h1 h2 r => ⟨e.rd h2 r, h1, e.out h2 (jH r)⟩, e.cY, e.tups⟩
/-- a place cX was free is kept apart as well -/
theorem Fx.more (e : Ext H β H' β') {p : Addr} (hp : H p = none) : Fx H P β H' (fun b => P b ∨ b = p) β' :=
 ⟨e.pre, fun a u h1 h2 r => ⟨e.rd h2 r, fun z => z.elim h1 fun q => jH r (by rw [q]; exact hp), e.out h2 (jH r)⟩, e.cY, e.tups⟩
theorem Fx.less (h : ∀ a, P' a → P a) : Fx H P β H P' β := ⟨⟨[], (List.append_nil β).symm⟩, fun a u h1 h2 r => ⟨r, fun z => h1 (h a z), h2⟩, fun _ _ _ h => h, fun _ _ h => h⟩
/-- a container cX is kept apart changes -/
theorem Fx.own {p : Addr} {o : HO} (hp : P p) (ht : ∀ xs, ¬ Rd H p (.tup xs)) (hf : ∀ o u, H p ≠ some (.frz o u)) : Fx H P β (upd H p o) P β := by
 refine ⟨⟨[], (List.append_nil β).symm⟩, fun a u h1 h2 r => ⟨?_, h1, h2⟩, fun a o u r => ?_, fun a xs r => ?_⟩
 ·have ne : a ≠ p := fun e => h1 (e ▸ hp)
  unfold Rd; rw [upd_ne ne]; exact r
 ·have ne : a ≠ p := fun e => hf o u (by rw [← e]; exact r)
  rw [upd_ne ne]; exact r
 ·have ne : a ≠ p := fun e => ht xs (e ▸ r)
  unfold Rd; rw [upd_ne ne]; exact r
theorem Fx.get (e : Fx H P β H' P' β') {n : Nat} {a : Addr} (h : β[n]? = some a) : β'[n]? = some a := by
 obtain ⟨γ, r⟩ := e.pre
 rw [r, List.getElem?_append_left (List.getElem?_eq_some_iff.mp h).1]; exact h
mutual
theorem RV.fx (e : Fx H P β H' P' β') : ∀ {v : V} {d : D}, RV C H P β v d → RV C H' P' β' v d
 | _, _, .non => .non
 | _, _, .bl b => .bl b
 | _, _, .int i => .int i
 | _, _, .str x => .str x
 | _, _, .ty n => .ty n
 | _, _, .lst hp hb hr h => let ⟨r, q1, q2⟩ := e.con _ _ hp hb hr; .lst q1 q2 r (aC.fx e h)
 | _, _, .tup hr h => .tup (e.tups _ _ hr) (aC.fx e h)
 | _, _, .eU k h => .eU k (aC.fx e h)
 | _, _, .dJ k h => .dJ k (aC.fx e h)
 | _, _, .dct hp hb hr h => let ⟨_, q1, q2⟩ := e.con _ _ hp hb hr.rd; .dct q1 q2 (let ⟨o, q⟩ := hr; ⟨o, e.fz _ _ _ q⟩) (aG.fx e h)
 | _, _, .ref h => .ref (e.get h)
 | _, _, .fn h k => .fn h k
theorem aC.fx (e : Fx H P β H' P' β') : ∀ {vs : List V} {ds : List D}, aC C H P β vs ds → aC C H' P' β' vs ds
 | _, _, .nil => .nil
 | _, _, .cons h t => .cons (RV.fx e h) (aC.fx e t)
theorem aG.fx (e : Fx H P β H' P' β') : ∀ {vs : List (Key × V)} {ds : List (Key × D)}, aG C H P β vs ds → aG C H' P' β' vs ds
 | _, _, .nil => .nil
 | _, _, .cons h t => .cons (RV.fx e h) (aG.fx e t)
end
end
/-- what is kept of the frozen things and the oh places -/
structure Fs (H : Hp) (β : List Addr) (H' : Hp) (β' : List Addr) : Prop where
 pre : ∃ γ, β' = β ++ γ
 fz : ∀ a o u, H a = some (.frz o u) → H' a = some (.frz o u)
theorem Fs.refl {H : Hp} {β : List Addr} : Fs H β H β := ⟨⟨[], (List.append_nil β).symm⟩, fun _ _ _ h => h⟩
theorem Fx.fs {H H' : Hp} {P P' : Addr → Prop} {β β' : List Addr} (f : Fx H P β H' P' β') : Fs H β H' β' := ⟨f.pre, f.fz⟩
theorem Ext.fs {H H' : Hp} {β β' : List Addr} (f : Ext H β H' β') : Fs H β H' β' := ⟨f.pre, f.cY⟩
theorem Fs.trans {H H1 H2 : Hp} {β β1 β2 : List Addr} (a : Fs H β H1 β1) (b : Fs H1 β1 H2 β2) : Fs H β H2 β2 where
 pre := by
  obtain ⟨γ, r⟩ := a.pre
  obtain ⟨γ', r'⟩ := b.pre
  exact ⟨γ ++ γ', by rw [r', r, List.append_assoc]⟩
 fz := fun c o u r => b.fz c o u (a.fz c o u r)
/-- what an exception must find -/
abbrev XP (C : Ct) (W : WX) (cf : Cf) (oa : Nat → Option Addr) (P : Addr → Prop) (σ : St) (b : Bool) (H : Hp) (β : List Addr) (ρ : aH) (S : Store) (e : cM) (S' : Store) : Prop :=
 ∀ cls x H' β', Tr b H β S H' β' S' → LR C cf oa P σ H' β' ρ S' → lX C H' P β' cls x e → W cls x σ H'
/-- the reading of an expression with the tree-value m -/
def EM (C : Ct) (W : WX) (b : Bool) (m : EX) : TE := fun σ H Q => ∃ cf oa P β ρ S, LR C cf oa P σ H β ρ S ∧ (match m ρ S with
 | .ok d S' => ∀ v H' β', Tr b H β S H' β' S' → LR C cf oa P σ H' β' ρ S' → RV C H' P β' v d → Q v H'
 | .exc e S' => XP C W cf oa P σ b H β ρ S e S'
 | .stuck => False)
/-- .. cX makes a new container -/
def EO (C : Ct) (W : WX) (b : Bool) (m : EX) : TE := fun σ H Q => ∃ cf oa P β ρ S, LR C cf oa P σ H β ρ S ∧ (match m ρ S with
 | .ok d S' => ∀ a H' β', Tr b H β S H' β' S' → H a = none → LR C cf oa (fun b => P b ∨ b = a) σ H' β' ρ S' → cJ C H' (fun c => P c ∨ c = a) β' a d → Q (.ref a) H'
 | .exc e S' => XP C W cf oa P σ b H β ρ S e S'
 | .stuck => False)
def AM (C : Ct) (W : WX) (b : Bool) (m : AX) : TA := fun σ H Q => ∃ cf oa P β ρ S, LR C cf oa P σ H β ρ S ∧ (match m ρ S with
 | .ok ds S' => ∀ vs H' β', Tr b H β S H' β' S' → LR C cf oa P σ H' β' ρ S' → aC C H' P β' vs ds → Q vs H'
 | .exc e S' => XP C W cf oa P σ b H β ρ S e S'
 | .stuck => False)
def BM (C : Ct) (W : WX) (b : Bool) (m : BX) : TT := fun σ H Q => ∃ cf oa P β ρ S, LR C cf oa P σ H β ρ S ∧ (match m ρ S with
 | .ok k S' => ∀ H' β', Tr b H β S H' β' S' → LR C cf oa P σ H' β' ρ S' → Q k H'
 | .exc e S' => XP C W cf oa P σ b H β ρ S e S'
 | .stuck => False)
/-- what is wanted of a F8 result, from a state cX H, P, β stand for -/
def SQ (C : Ct) (W : WX) (cf : Cf) (H : Hp) (P : Addr → Prop) (β : List Addr) (D : Ends) (r : SR) : Prop := match r with
 | .nx ρ' S' => ∀ σ' H' β' cZ P', LR C cf cZ P' σ' H' β' ρ' S' → Fx H P β H' P' β' → D.nx σ' H'
 | .bk ρ' S' => ∀ σ' H' β' cZ P', LR C cf cZ P' σ' H' β' ρ' S' → Fx H P β H' P' β' → D.bk σ' H'
 | .ct ρ' S' => ∀ σ' H' β' cZ P', LR C cf cZ P' σ' H' β' ρ' S' → Fx H P β H' P' β' → D.ct σ' H'
 | .rt d S' => ∀ v H' β', jJ cf H' β' → Fs H β H' β' → aK C H' cf.P0 β' S' → RV C H' cf.P0 β' v d → D.rt v H'
 | .exc e ρ' S' => ∀ cls x σ' H' β' cZ P', LR C cf cZ P' σ' H' β' ρ' S' → Fx H P β H' P' β' → lX C H' P' β' cls x e → W cls x σ' H'
 | .stuck => False
theorem SQ.fx {C : Ct} {W : WX} {cf : Cf} {H H1 : Hp} {P P1 : Addr → Prop} {β β1 : List Addr} {D : Ends} {r : SR} (f1 : Fx H P β H1 P1 β1) (h : SQ C W cf H P β D r) : SQ C W cf H1 P1 β1 D r := by
 cases r with
 | nx ρ2 S2 => intro σ2 H2 β2 fL P2 L2 f2; exact h σ2 H2 β2 fL P2 L2 (f1.trans f2)
 | bk ρ2 S2 => intro σ2 H2 β2 fL P2 L2 f2; exact h σ2 H2 β2 fL P2 L2 (f1.trans f2)
 | ct ρ2 S2 => intro σ2 H2 β2 fL P2 L2 f2; exact h σ2 H2 β2 fL P2 L2 (f1.trans f2)
 | rt d S2 => intro v H2 β2 x f s r; exact h v H2 β2 x (f1.fs.trans f) s r
 | exc e ρ2 S2 => intro cls x σ2 H2 β2 fL P2 L2 f2 ex; exact h cls x σ2 H2 β2 fL P2 L2 (f1.trans f2) ex
 | stuck => exact h
def SM (C : Ct) (W : WX) (m : SX) : TS := fun D σ H => ∃ cf oa P β ρ S, LR C cf oa P σ H β ρ S ∧ SQ C W cf H P β D (m ρ S)
abbrev PM (C : Ct) (W : WX) (b : Bool) (X : Cx) (e : Expr) (m : EX) : Prop := PE X e (EM C W b m)
abbrev PN (C : Ct) (W : WX) (b : Bool) (X : Cx) (e : Expr) (m : EX) : Prop := PE X e (EO C W b m)
abbrev j5 (C : Ct) (W : WX) (b : Bool) (X : Cx) (es : List Expr) (m : AX) : Prop := PA X es (AM C W b m)
abbrev PB (C : Ct) (W : WX) (b : Bool) (X : Cx) (e : Expr) (m : BX) : Prop := PT X e (BM C W b m)
abbrev iQ (C : Ct) (W : WX) (X : Cx) (s : Stmt) (m : SX) : Prop := PS X s (SM C W m)
abbrev jK (C : Ct) (W : WX) (X : Cx) (s : List Stmt) (m : SX) : Prop := PSs X s (SM C W m)
theorem dB {X : Cx} {e : Expr} {t t' : TE} (h : PE X e t) (i : ∀ σ H Q, t' σ H Q → t σ H Q) : PE X e t' := ⟨fun pins s σ H Q I hw => h.run pins s σ H Q I (i σ H Q hw)⟩
theorem uJ {X : Cx} {e : Expr} {t t' : TT} (h : PT X e t) (i : ∀ σ H Q, t' σ H Q → t σ H Q) : PT X e t' := ⟨fun pins s σ H Q I hw => h.run pins s σ H Q I (i σ H Q hw)⟩
theorem yK {X : Cx} {es : List Expr} {t t' : TA} (h : PA X es t) (i : ∀ σ H Q, t' σ H Q → t σ H Q) : PA X es t' := ⟨fun pos pins s σ H Q I hw => h.run pos pins s σ H Q I (i σ H Q hw)⟩
theorem oA {X : Cx} {s : Stmt} {t t' : TS} (h : PS X s t) (i : ∀ D σ H, t' D σ H → t D σ H) : PS X s t' := ⟨fun pins sh σ H D I hw => h.run pins sh σ H D I (i D σ H hw)⟩
theorem yL {X : Cx} {s : List Stmt} {t t' : TS} (h : PSs X s t) (i : ∀ D σ H, t' D σ H → t D σ H) : PSs X s t' := ⟨fun pins sh σ H D I hw => h.run pins sh σ H D I (i D σ H hw)⟩
end Mi
namespace Mi
open PySem PySem.Spec PyProof.Rows L2
abbrev au (X : Cx) : Ct := ⟨X.K, X.mg, X.w, X.pn⟩
def mC (d : D) : EX := fun _ S => .ok d S
def aA (i : Nat) : EX := fun ρ S => match ρ[i]? with
 | some (Sl.sh d) => .ok d S
 | _ => .stuck
def R.opt {α : Type} (o : Option α) (S : Store) : R α := match o with
 | some z => .ok z S
 | none => .stuck
def aF (f : Store → D → D → Option D) (a b : EX) : EX := fun ρ S => (a ρ S).bind fun x S1 => (b ρ S1).bind fun y S2 => R.opt (f S2 x y) S2
def d7 (f : Store → D → Option D) (a : EX) : EX := fun ρ S => (a ρ S).bind fun x S1 => R.opt (f S1 x) S1
def aq : AX := fun _ S => .ok [] S
def ak (a : EX) (r : AX) : AX := fun ρ S => (a ρ S).bind fun x S1 => (r ρ S1).bind fun xs S2 => .ok (x :: xs) S2
def aN (f : Store → List D → Option D) (a : AX) : EX := fun ρ S => (a ρ S).bind fun xs S1 => R.opt (f S1 xs) S1
def dTup (xs : List D) : Option D := if xs.length ≤ sizeLine then some (.tup xs) else none
def rW (xs : List D) : Option D := if xs.length ≤ sizeLine then some (.lst xs) else none
def bH (a : AX) : EX := fun ρ S => (a ρ S).bind fun xs S1 => R.opt (dTup xs) S1
def bL (a : AX) : EX := fun ρ S => (a ρ S).bind fun xs S1 => R.opt (rW xs) S1
def uK : D → Option SO
 | .lst xs => some (.lst xs)
 | .dct kvs => some (.dct kvs)
 | _ => none
/-- a new container becomes a thing of the store -/
def ql (a : EX) : EX := fun ρ S => (a ρ S).bind fun x S1 => match uK x with
 | some so => .ok (.ref S1.length) (S1 ++ [so])
 | none => .stuck
/-- no list or dict in it -/
def flat : D → Bool
 | .non | .bl _ | .int _ | .str _ | .ty _ | .fn _ | .ref _ => true
 | .tup _ | .lst _ | .dct _ => false
def lent (ρ : aH) : aH := ρ.map fun s => match s with
 | .ow (.lst xs) => .sh (.lst xs)
 | .ow _ => .un
 | s => s
/-- read on F7 (all slots' own yJ): what comes is flat -/
def yM (a : EX) : EX := fun ρ S => match a (lent ρ) S with
 | .ok x S1 => if flat x = true then .ok x S1 else .stuck
 | _ => .stuck
/-- the same of a test -/
def yN (a : BX) : BX := fun ρ S => match a (lent ρ) S with
 | .ok x S1 => .ok x S1
 | _ => .stuck
section
variable {X : Cx} {W : WX} {b : Bool}
/-- a state for an operation -/
structure At (C : Ct) (H : Hp) (Z : Addr → Prop) (β : List Addr) (S : Store) : Prop where
 st : aK C H Z β S
 dom : ∀ a, Z a → H a ≠ none
def fj (X : Cx) (r : R2) (f : Store → D → D → Option D) : Prop :=
 ∀ (Z : Addr → Prop) (H : Hp) (β : List Addr) (S : Store) (x y : V) (dx dy dz : D) (Q : VK), At (au X) H Z β S → RV (au X) H Z β x dx → RV (au X) H Z β y dy → f S dx dy = some dz →
  (∀ v H', Same H H' → RV (au X) H' Z β v dz → Q v H') → r x y H Q
def yO (X : Cx) (r : R2) (f : Store → D → D → Option D) : Prop :=
 ∀ (Z : Addr → Prop) (H : Hp) (β : List Addr) (S : Store) (x y : V) (dx dy dz : D) (Q : VK), At (au X) H Z β S → RV (au X) H Z β x dx → RV (au X) H Z β y dy → f S dx dy = some dz →
  (∀ a H', Same H H' → H a = none → cJ (au X) H' (fun c => Z c ∨ c = a) β a dz → Q (.ref a) H') → r x y H Q
def uL (X : Cx) (r : V → Hp → VK → Prop) (f : Store → D → Option D) : Prop :=
 ∀ (Z : Addr → Prop) (H : Hp) (β : List Addr) (S : Store) (x : V) (dx dz : D) (Q : VK), At (au X) H Z β S → RV (au X) H Z β x dx → f S dx = some dz →
  (∀ v H', Same H H' → RV (au X) H' Z β v dz → Q v H') → r x H Q
def j6 (X : Cx) (r : List V → Hp → VK → Prop) (f : Store → List D → Option D) : Prop :=
 ∀ (Z : Addr → Prop) (H : Hp) (β : List Addr) (S : Store) (xs : List V) (ds : List D) (dz : D) (Q : VK), At (au X) H Z β S → aC (au X) H Z β xs ds → f S ds = some dz →
  (∀ v H', Same H H' → RV (au X) H' Z β v dz → Q v H') → r xs H Q
theorem At.Fb {C : Ct} {H : Hp} {Z : Addr → Prop} {β : List Addr} {S : Store} (A : At C H Z β S) {p : Addr} (hp : H p = none) : ¬ Z p := fun z => A.dom p z hp
theorem At.rR {C : Ct} {H : Hp} {Z : Addr → Prop} {β : List Addr} {S : Store} (A : At C H Z β S) {p : Addr} (hp : H p = none) : p ∉ β := fun z => A.st.mem z hp
theorem LR.at {C : Ct} {cf : Cf} {oa : Nat → Option Addr} {P : Addr → Prop} {σ : L2.St} {H : Hp} {β : List Addr} {ρ : aH} {S : Store} (L : LR C cf oa P σ H β ρ S) : At C H P β S :=
 ⟨L.st, fun a h => (L.p a h).1⟩
def qm (d : D) : Prop := ∃ ds, d = .lst ds
/-- a new list, Fd to be new -/
theorem uM {C : Ct} {H : Hp} {P : Addr → Prop} {β : List Addr} {a : Addr} {d : D} (o : cJ C H (fun b => P b ∨ b = a) β a d) (hp : ¬ P a) (hb : a ∉ β) (hl : qm d) : RV C H P β (.ref a) d := by
 obtain ⟨ds, rfl⟩ := hl
 obtain ⟨xs, q, r⟩ := o
 exact .lst hp hb (.inl q) (r.less fun _ h => .inl h)
theorem LR.forget {C : Ct} {cf : Cf} {oa : Nat → Option Addr} {P : Addr → Prop} {σ : L2.St} {H : Hp} {β : List Addr} {ρ : aH} {S : Store} {a : Addr} (L : LR C cf oa (fun b => P b ∨ b = a) σ H β ρ S) (h1 : ∀ a, cf.P0 a → P a) (h2 : ∀ i a, oa i = some a → P a) : LR C cf oa P σ H β ρ S :=
 L.less (fun _ h => .inl h) h1 h2
/-- a new container laid and kept apart -/
theorem LR.uN {C : Ct} {cf : Cf} {oa : Nat → Option Addr} {P : Addr → Prop} {σ : L2.St} {H H' : Hp} {β : List Addr} {ρ : aH} {S : Store} {p : Addr} (L : LR C cf oa P σ H β ρ S) (e : Same H H') (hp : H p = none) (hp' : H' p ≠ none) : LR C cf oa (fun b => P b ∨ b = p) σ H' β ρ S where
 len := L.len
 p := fun a h => by
  rcases h with h | rfl
  ·exact (L.same e).p a h
  ·exact ⟨hp', L.rR hp⟩
 sub := fun a h => .inl (L.sub a h)
 p0 := L.p0
 ext := (L.same e).ext
 own := fun i a h => ⟨.inl (L.own i a h).1, (L.own i a h).2⟩
 inj := L.inj
 st := (L.st.more hp).same e
 slot := fun i d h => let ⟨v, q1, q2⟩ := L.slot i d h; ⟨v, q1, (q2.more hp).mono (Ext.same e)⟩
 dM := fun i d h => let ⟨a, q1, q2, q3⟩ := L.dM i d h; ⟨a, q1, q2, (q3.more hp).mono (Ext.same e) (L.p a (L.own i a q1).1).2⟩
 xslot := fun i x h => let ⟨a, h1, h2⟩ := L.xslot i x h; ⟨a, h1, (h2.more hp).mono (Ext.same e)⟩
theorem fj.Fe {r : R2} {f : Store → D → D → Option D} (h : yO X r f) (hl : ∀ S x y d, f S x y = some d → qm d) : fj X r f := by
 intro Z H β S x y dx dy dz Q A rx ry e k
 exact h Z H β S x y dx dy dz Q A rx ry e fun a H' E hn o => k _ H' E (uM o (A.Fb hn) (A.rR hn) (hl _ _ _ _ e))
theorem yP {H H1 : Hp} {β β1 : List Addr} (e : Ext H β H1 β1) {a : Addr} (hn : H1 a = none) : H a = none := by
 cases z : H a with
 | none => rfl
 | some o => exact absurd hn (e.stay a (by rw [z]; exact Option.some_ne_none _))
theorem em2 {f : Store → D → D → Option D} {r : R2} {ma mb : EX} {σ : L2.St} {H : Hp} {Q : VK} (hm : fj X r f) (h : EM (au X) W b (aF f ma mb) σ H Q) : tOp r (EM (au X) W b ma) (EM (au X) W b mb) σ H Q := by
 obtain ⟨cf, oa, P, β, ρ, S, L, h⟩ := h
 unfold aF at h
 refine ⟨cf, oa, P, β, ρ, S, L, ?_⟩
 cases ea : ma ρ S with
 | stuck => rw [ea] at h; exact h
 | exc e S1 => rw [ea] at h; exact h
 | ok dx S1 =>
  rw [ea] at h
  simp only [R.bind] at h
  intro x H1 β1 e1 L1 rx
  refine ⟨cf, oa, P, β1, ρ, S1, L1, ?_⟩
  cases eb : mb ρ S1 with
  | stuck => rw [eb] at h; exact h
  | exc e S2 =>
   rw [eb] at h
   intro cls d H' β' e2 L2 ex
   exact h cls d H' β' (e1.trans e2) L2 ex
  | ok dy S2 =>
   rw [eb] at h
   simp only [R.bind] at h
   intro y H2 β2 e2 L2 ry
   cases ef : f S2 dx dy with
   | none => rw [ef] at h; exact h.elim
   | some dz =>
    rw [ef] at h
    exact hm P H2 β2 S2 x y dx dy dz Q L2.at (rx.mono e2.ext) ry ef fun v H' e3 r3 => h v H' β2 (e1.trans (e2.trans (Tr.same e3))) (L2.same e3) r3
theorem uO {f : Store → D → Option D} {r : V → Hp → VK → Prop} {ma : EX} {σ : L2.St} {H : Hp} {Q : VK} (hm : uL X r f) (h : EM (au X) W b (d7 f ma) σ H Q) : tUn r (EM (au X) W b ma) σ H Q := by
 obtain ⟨cf, oa, P, β, ρ, S, L, h⟩ := h
 unfold d7 at h
 refine ⟨cf, oa, P, β, ρ, S, L, ?_⟩
 cases ea : ma ρ S with
 | stuck => rw [ea] at h; exact h
 | exc e S1 => rw [ea] at h; exact h
 | ok dx S1 =>
  rw [ea] at h
  simp only [R.bind] at h
  intro x H1 β1 e1 L1 rx
  cases ef : f S1 dx with
  | none => rw [ef] at h; exact h.elim
  | some dz =>
   rw [ef] at h
   exact hm P H1 β1 S1 x dx dz Q L1.at rx ef fun v H' e3 r3 => h v H' β1 (e1.trans (Tr.same e3)) (L1.same e3) r3
theorem Fg {f : Store → List D → Option D} {r : List V → Hp → VK → Prop} {ma : AX} {σ : L2.St} {H : Hp} {Q : VK} (hm : j6 X r f) (h : EM (au X) W b (aN f ma) σ H Q) : AM (au X) W b ma σ H fun vs H1 => r vs H1 Q := by
 obtain ⟨cf, oa, P, β, ρ, S, L, h⟩ := h
 unfold aN at h
 refine ⟨cf, oa, P, β, ρ, S, L, ?_⟩
 cases ea : ma ρ S with
 | stuck => rw [ea] at h; exact h
 | exc e S1 => rw [ea] at h; exact h
 | ok dx S1 =>
  rw [ea] at h
  simp only [R.bind] at h
  intro x H1 β1 e1 L1 rx
  cases ef : f S1 dx with
  | none => rw [ef] at h; exact h.elim
  | some dz =>
   rw [ef] at h
   exact hm P H1 β1 S1 x dx dz Q L1.at rx ef fun v H' e3 r3 => h v H' β1 (e1.trans (Tr.same e3)) (L1.same e3) r3
theorem yQ {a : EX} {r : AX} {σ : L2.St} {H : Hp} {Q : List V → Hp → Prop} (h : AM (au X) W b (ak a r) σ H Q) : tCons (EM (au X) W b a) (AM (au X) W b r) σ H Q := by
 obtain ⟨cf, oa, P, β, ρ, S, L, h⟩ := h
 unfold ak at h
 refine ⟨cf, oa, P, β, ρ, S, L, ?_⟩
 cases ea : a ρ S with
 | stuck => rw [ea] at h; exact h
 | exc e S1 => rw [ea] at h; exact h
 | ok dx S1 =>
  rw [ea] at h
  simp only [R.bind] at h
  intro x H1 β1 e1 L1 rx
  refine ⟨cf, oa, P, β1, ρ, S1, L1, ?_⟩
  cases eb : r ρ S1 with
  | stuck => rw [eb] at h; exact h
  | exc e S2 =>
   rw [eb] at h
   intro cls d H' β' e2 L2 ex
   exact h cls d H' β' (e1.trans e2) L2 ex
  | ok ds S2 =>
   rw [eb] at h
   intro xs H2 β2 e2 L2 rs
   exact h _ H2 β2 (e1.trans e2) L2 (.cons (rx.mono e2.ext) rs)
theorem Fj {i : Nat} {x : Str} {pos : Pos} (h : PE X (.Name x pos) (tVar i)) : PM (au X) W b X (.Name x pos) (aA i) := dB h fun σ H Q h => by
 obtain ⟨cf, oa, P, β, ρ, S, L, h⟩ := h
 unfold aA at h
 cases e : ρ[i]? with
 | none => rw [e] at h; exact h.elim
 | some sl =>
  rw [e] at h
  cases sl with
  | un => exact h.elim
  | ow d => exact h.elim
  | ex d => exact h.elim
  | sh d =>
   obtain ⟨v, e1, r⟩ := L.slot i d e
   exact ⟨v, e1, h v H β Tr.refl L r⟩
theorem oE {v : V} {d : D} (r : ∀ H P β, RV (au X) H P β v d) {σ : L2.St} {H : Hp} {Q : VK} (h : EM (au X) W b (mC d) σ H Q) : Q v H := by
 obtain ⟨cf, oa, P, β, ρ, S, L, h⟩ := h
 exact h v H β Tr.refl L (r _ _ _)
theorem bZ {i j pos} : PM (au X) W b X (.Constant (.int i) j pos) (mC (.int i)) := dB pe_int fun σ H Q h => oE (fun _ _ _ => .int i) h
theorem qp {k j pos} : PM (au X) W b X (.Constant (.bool k) j pos) (mC (.bl k)) := dB pe_bl fun σ H Q h => oE (fun _ _ _ => .bl k) h
theorem Fl {j pos} : PM (au X) W b X (.Constant .none j pos) (mC .non) := dB pe_non fun σ H Q h => oE (fun _ _ _ => .non) h
theorem aM {x j pos} : PM (au X) W b X (.Constant (.str x) j pos) (mC (.str x)) := dB pe_str fun σ H Q h => oE (fun _ _ _ => .str x) h
/-- a global of the module: d is what it holds -/
theorem Fo {x : Str} {v : V} {u : Value} {d : D} {pos : Pos} (hm : X.mg x = some u) (r : RelV v u) (rd : ∀ H P β, RV (au X) H P β v d) (hg : Gl X x := by rfl) (hd : (x == ("__debug__" : Str)) = false := by decide) : PM (au X) W b X (.Name x pos) (mC d) :=
 dB (pe_glob hg hm r hd) fun σ H Q h => oE rd h
theorem ju {x : Str} {n : String} {pos : Pos} (hm : X.mg x = none) (hv : bootBuiltins x = some (.type n)) (hg : Gl X x := by rfl) (hn : x ≠ "__name__" := by decide) (hd : (x == ("__debug__" : Str)) = false := by decide) : PM (au X) W b X (.Name x pos) (mC (.ty n)) :=
 dB (pe_bltn (v := .ty n) hg hm hv rfl hn hd) fun σ H Q h => oE (fun _ _ _ => .ty n) h
variable {a b' c e : Expr} {es : List Expr} {ma mb : EX} {iw : AX} {pos : Pos}
theorem bU {op : Operator} {r : R2} {f : Store → D → D → Option D} (ho : OpR X (binaryOp op) r) (hm : fj X r f) (ha : PM (au X) W b X a ma) (hb : PM (au X) W b X b' mb) : PM (au X) W b X (.BinOp a op b' pos) (aF f ma mb) :=
 dB (pe_op ho ha hb) fun σ H Q h => em2 hm h
theorem uP {op : CmpOp} {r : R2} {f : Store → D → D → Option D} (ho : OpR X (compareOp op) r) (hm : fj X r f) (ha : PM (au X) W b X a ma) (hb : PM (au X) W b X b' mb) (hk : behindInMarks op b' = false := by first | exact nobehind _ (by decide) (by decide) | rfl) :
  PM (au X) W b X (.Compare a [op] [b'] pos) (aF f ma mb) := dB (pe_cmpR ho ha hb hk) fun σ H Q h => em2 hm h
theorem Fp {op : UnaryOp} {r : V → Hp → VK → Prop} {f : Store → D → Option D} (ho : UnR X (unaryOp op) r) (hm : uL X r f) (ha : PM (au X) W b X a ma) : PM (au X) W b X (.UnaryOp op a pos) (d7 f ma) :=
 dB (pe_un ho ha) fun σ H Q h => uO hm h
theorem CallR.or {f : Value} {r r' : List V → Hp → VK → Prop} (h : CallR X f r) (h' : CallR X f r') : CallR X f (fun xs H Q => r xs H Q ∨ r' xs H Q) := by
 intro pins s σ H xs us Q I rx q
 rcases q with q | q
 ·exact h pins s σ H xs us Q I rx q
 ·exact h' pins s σ H xs us Q I rx q
theorem aD : j5 (au X) W b X [] aq := yK pa_nil fun σ H Q h => by
 obtain ⟨cf, oa, P, β, ρ, S, L, h⟩ := h
 exact h [] H β Tr.refl L .nil
theorem ao {r : AX} (ha : PM (au X) W b X e ma) (hr : j5 (au X) W b X es r) (hs : starEach (e :: es) X.env = (false, eval e X.env) :: starEach es X.env := by rfl) : j5 (au X) W b X (e :: es) (ak ma r) :=
 yK (pa_cons ha hr hs) fun σ H Q h => yQ h
theorem bY {k : Nat} (h : j5 (au X) W b X es iw) : PM (au X) W b X (.Tuple es k pos) (bH iw) := dB (pe_tup h) fun σ H Q h => by
 obtain ⟨cf, oa, P, β, ρ, S, L, h⟩ := h
 unfold bH at h
 refine ⟨cf, oa, P, β, ρ, S, L, ?_⟩
 cases ea : iw ρ S with
 | stuck => rw [ea] at h; exact h
 | exc e S1 => rw [ea] at h; exact h
 | ok ds S1 =>
  rw [ea] at h
  simp only [R.bind, dTup] at h
  intro xs H1 β1 e1 L1 rs
  by_cases hz : ds.length ≤ sizeLine
  ·rw [if_pos hz] at h
   refine ⟨by rw [rs.length]; exact hz, fun p hp => ?_⟩
   have x : Same H1 (upd H1 p (.tup xs)) := jt hp
   exact h _ _ β1 (e1.trans (Tr.same x)) (L1.same x) (.tup (.inl upd_same) (rs.mono (Ext.same x)))
  ·rw [if_neg hz] at h; exact h.elim
theorem cA (h : j5 (au X) W b X es iw) : PN (au X) W b X (.List es pos) (bL iw) := dB (pe_lst h) fun σ H Q h => by
 obtain ⟨cf, oa, P, β, ρ, S, L, h⟩ := h
 unfold bL at h
 refine ⟨cf, oa, P, β, ρ, S, L, ?_⟩
 cases ea : iw ρ S with
 | stuck => rw [ea] at h; exact h
 | exc e S1 => rw [ea] at h; exact h
 | ok ds S1 =>
  rw [ea] at h
  simp only [R.bind, rW] at h
  intro xs H1 β1 e1 L1 rs
  by_cases hz : ds.length ≤ sizeLine
  ·rw [if_pos hz] at h
   refine ⟨by rw [rs.length]; exact hz, fun p hp => ?_⟩
   have x : Same H1 (upd H1 p (.lst xs)) := jt hp
   exact h p _ β1 (e1.trans (Tr.same x)) (yP e1.ext hp) (L1.uN x hp (by rw [upd_same]; exact Option.some_ne_none _)) ⟨xs, upd_same, (rs.more hp).mono (Ext.same x)⟩
  ·rw [if_neg hz] at h; exact h.elim
/-- a dict is frozen for EW -/
theorem Fx.frz {H : Hp} {P : Addr → Prop} {β : List Addr} {a : Addr} {od : Obj} {xs : List (Key × V)} (e : H a = some (.dK xs)) : Fx H P β (upd H a (.frz od (.dK xs))) P β := by
 refine ⟨⟨[], (List.append_nil β).symm⟩, fun b u h1 h2 r => ⟨?_, h1, h2⟩, fun b o u r => ?_, fun b xs r => ?_⟩
 ·by_cases hb : b = a
  ·subst hb
   rcases r with r | ⟨o, r⟩
   ·rw [e] at r; cases r; exact .inr ⟨od, upd_same⟩
   ·rw [e] at r; cases r
  ·unfold Rd; rw [upd_ne hb]; exact r
 ·have hb : b ≠ a := fun z => by rw [z, e] at r; cases r
  rw [upd_ne hb]; exact r
 ·have hb : b ≠ a := fun z => by rw [z] at r; rcases r with r | ⟨o, r⟩ <;> (rw [e] at r; cases r)
  unfold Rd; rw [upd_ne hb]; exact r
theorem bK.uQ {C : Ct} {H H' : Hp} {P P' : Addr → Prop} {β : List Addr} {b : Addr} {so : SO} (f : Fx H P β H' P' β) (hb : H' b = H b) (h : bK C H P β b so) : bK C H' P' β b so := by
 cases so with
 | lst ds => obtain ⟨xs, q, r⟩ := h; exact ⟨xs, by rw [hb]; exact q, r.fx f⟩
 | dct ds => obtain ⟨xs, q, r⟩ := h; exact ⟨xs, by rw [hb]; exact q, r.fx f⟩
 | ins c fs => obtain ⟨Ca, dx, vs, m, q, n, r⟩ := h; exact ⟨Ca, dx, vs, m, by rw [hb]; exact q, n, r.fx f⟩
 | fD ds => obtain ⟨od, xs, q, r⟩ := h; exact ⟨od, xs, by rw [hb]; exact q, r.fx f⟩
 | fG ds => obtain ⟨od, xs, q, r⟩ := h; exact ⟨od, xs, by rw [hb]; exact q, r.fx f⟩
 | exo c m => obtain ⟨Ca, d, m1, q, n⟩ := h; exact ⟨Ca, d, m1, by rw [hb]; exact q, n⟩
 | exd fs => obtain ⟨vs, q, n, r⟩ := h; exact ⟨vs, by rw [hb]; exact q, n, r.fx f⟩
theorem cJ.uQ {C : Ct} {H H' : Hp} {P P' : Addr → Prop} {β : List Addr} {b : Addr} {d : D} (f : Fx H P β H' P' β) (hb : H' b = H b) (h : cJ C H P β b d) : cJ C H' P' β b d := by
 cases d <;> first | exact h.elim | skip
 ·obtain ⟨xs, q, r⟩ := h; exact ⟨xs, by rw [hb]; exact q, r.fx f⟩
 ·obtain ⟨xs, q, r⟩ := h; exact ⟨xs, by rw [hb]; exact q, r.fx f⟩
theorem LR.frz {C : Ct} {cf : Cf} {oa : Nat → Option Addr} {P : Addr → Prop} {σ : L2.St} {H : Hp} {β : List Addr} {ρ : aH} {S : Store} (L : LR C cf oa P σ H β ρ S) {a : Addr} {od : Obj} {xs : List (Key × V)} (e : H a = some (.dK xs)) (hp : ¬ P a) (hb : a ∉ β) (h0 : cf.H0 a = none) :
  LR C cf oa P σ (upd H a (.frz od (.dK xs))) β ρ S where
 len := L.len
 p := fun b h => ⟨by rw [upd_ne (show b ≠ a from fun z => hp (z ▸ h))]; exact (L.p b h).1, (L.p b h).2⟩
 sub := L.sub
 p0 := L.p0
 ext := {
  pre := L.ext.pre
  keep := fun b o h hn => by rw [upd_ne (fun z => by rw [z, h0] at h; cases h)]; exact L.ext.keep b o h hn
  fresh := L.ext.fresh
  tups := fun b xs h => (Fx.frz (P := P) (β := β) e).tups b xs (L.ext.tups b xs h)
  stay := fun b h => by rw [upd_ne (fun z => by rw [z, h0] at h; exact h rfl)]; exact L.ext.stay b h
  cY := fun b o u h => by rw [upd_ne (fun z => by rw [z, h0] at h; cases h)]; exact L.ext.cY b o u h }
 own := L.own
 inj := L.inj
 st := ⟨L.st.len, L.st.nd, fun n b so h1 h2 => (L.st.ok n b so h1 h2).uQ (Fx.frz e) (upd_ne fun z => hb (z ▸ List.mem_of_getElem? h1))⟩
 slot := fun i d h => let ⟨v, q1, q2⟩ := L.slot i d h; ⟨v, q1, q2.fx (Fx.frz e)⟩
 dM := fun i d h => let ⟨b, q1, q2, q3⟩ := L.dM i d h; ⟨b, q1, q2, q3.uQ (Fx.frz e) (upd_ne fun z => hp (z ▸ (L.own i b q1).1))⟩
 xslot := fun i x h => by
  obtain ⟨b, h1, oe, Ca, dd, vs, k1, k2, k3, k4, k5, k6, k7, k8⟩ := L.xslot i x h
  exact ⟨b, h1, oe, Ca, dd, vs, k1, k2, k3, k4, by rw [upd_ne (fun z => by rw [z, e] at k5; cases k5)]; exact k5, k6, k7, fun f y q => let ⟨v, q1, q2⟩ := k8 f y q; ⟨v, q1, q2.fx (Fx.frz e)⟩⟩
/-- a new dict cX comes is frozen -/
def Ft (t : TE) : TE := fun σ H Q => t σ H fun v H1 => Q v H1 ∨ ∃ a xs, v = .ref a ∧ H1 a = some (.dK xs) ∧ ∀ od, Q v (upd H1 a (.frz od (.dK xs)))
theorem Fv {t : TE} (h : PE X e t) : PE X e (Ft t) := ⟨fun pins s σ H Q I hw => by
 refine wpAny_mono (h.run pins s σ H _ I hw) (fun u s1 hv => ?_) fun _ _ z => z
 obtain ⟨v, H1, I1, r, q⟩ := hv
 rcases q with q | ⟨a, xs, rfl, e, q⟩
 ·exact ⟨v, H1, I1, r, q⟩
 ·obtain ⟨od, I2⟩ := I1.lock e True.intro
  exact ⟨_, _, I2, r, q od⟩⟩
/-- a new container as a value -/
theorem cC (h : PN (au X) W b X e ma) : PM (au X) W b X e ma := dB (Fv h) fun σ H Q h => by
 obtain ⟨cf, oa, P, β, ρ, S, L, h⟩ := h
 refine ⟨cf, oa, P, β, ρ, S, L, ?_⟩
 cases ea : ma ρ S with
 | stuck => rw [ea] at h; exact h
 | exc e S1 => rw [ea] at h; exact h
 | ok d S1 =>
  rw [ea] at h
  intro p H1 β1 e1 hn L1 o
  have L2 := L1.forget L.sub fun i a h => (L.own i a h).1
  cases d with
  | lst ds => exact .inl (h (.ref p) H1 β1 e1 L2 (uM o (L.ou hn) (L1.p p (.inr rfl)).2 ⟨_, rfl⟩))
  | dct ds =>
   obtain ⟨xs, q, r⟩ := o
   have nb := (L1.p p (.inr rfl)).2
   have h0 : cf.H0 p = none := by
    cases z : cf.H0 p with
    | none => rfl
    | some o => exact absurd hn (L.ext.stay p (by rw [z]; exact Option.some_ne_none _))
   refine .inr ⟨p, xs, rfl, q, fun od => ?_⟩
   have f : Fx H1 P β1 (upd H1 p (.frz od (.dK xs))) P β1 := Fx.frz q
   have sm : Same H1 (upd H1 p (.frz od (.dK xs))) → False ∨ True := fun _ => .inr trivial
   refine h (.ref p) _ β1 ⟨⟨e1.ext.pre, fun b o hb hnb => ?_, e1.ext.fresh, fun b ys hb => f.tups b ys (e1.ext.tups b ys hb), fun b hb => ?_, fun b o u hb => f.fz b o u (e1.ext.cY b o u hb)⟩, fun Fw => ?_⟩ (L2.frz q (L.ou hn) nb h0) (.dct (L.ou hn) nb ⟨od, upd_same⟩ ((r.less fun _ h => .inl h).fx f))
   ·rw [upd_ne (fun z => by rw [z, hn] at hb; cases hb)]; exact e1.ext.keep b o hb hnb
   ·rw [upd_ne (show b ≠ p from fun z => hb (z ▸ hn))]; exact e1.ext.stay b hb
   ·obtain ⟨s1, s2, s3⟩ := e1.ro Fw
    exact ⟨fun b o hb => by rw [upd_ne (fun z => by rw [z, hn] at hb; cases hb)]; exact s1 b o hb, s2, s3⟩
  | _ => exact o.elim
/-- .. as a thing of the store -/
theorem Fy (h : PN (au X) W false X e ma) : PM (au X) W false X e (ql ma) := dB h fun σ H Q h => by
 obtain ⟨cf, oa, P, β, ρ, S, L, h⟩ := h
 refine ⟨cf, oa, P, β, ρ, S, L, ?_⟩
 unfold ql at h
 cases ea : ma ρ S with
 | stuck => rw [ea] at h; exact h
 | exc e S1 => rw [ea] at h; exact h
 | ok d S1 =>
  rw [ea] at h
  simp only [R.bind] at h
  intro p H1 β1 t1 hn L1 o
  have e1 := t1.ext
  have hb := (L1.p p (.inr rfl)).2
  -- the list at p is no longer kept apart, it is of the store
  have L2 := L1.forget L.sub fun i a h => (L.own i a h).1
  cases es : uK d with
  | none => rw [es] at h; exact h.elim
  | some so =>
   rw [es] at h
   have nP : ¬ P p := L.ou hn
   have ext : Ext H β H1 (β1 ++ [p]) := by
    obtain ⟨γ, g⟩ := e1.pre
    refine ⟨⟨γ ++ [p], by rw [g, List.append_assoc]⟩, e1.keep, fun b hb => ?_, e1.tups, e1.stay, e1.cY⟩
    rcases List.mem_append.mp hb with hb | hb
    ·exact e1.fresh b hb
    ·rw [List.mem_singleton.mp hb]; exact .inr hn
   -- the slots' and the oh values do not lean on p: FA avoid it
   have more : ∀ {v : V} {x : D}, RV (au X) H1 (fun b => P b ∨ b = p) β1 v x → RV (au X) H1 P (β1 ++ [p]) v x := fun r => RV.gj r
   have oF : ∀ {v : List V} {x : List D}, aC (au X) H1 (fun b => P b ∨ b = p) β1 v x → aC (au X) H1 P (β1 ++ [p]) v x := fun r => aC.gj r
   have rY : ∀ {v : List (Key × V)} {x : List (Key × D)}, aG (au X) H1 (fun b => P b ∨ b = p) β1 v x → aG (au X) H1 P (β1 ++ [p]) v x := fun r => aG.gj r
   have FD : ∀ {a : Addr} {s : SO}, bK (au X) H1 (fun b => P b ∨ b = p) β1 a s → bK (au X) H1 P (β1 ++ [p]) a s := fun {a s} q => by
    cases s with
    | lst ds => obtain ⟨xs, q, r⟩ := q; exact ⟨xs, q, oF r⟩
    | dct ds => obtain ⟨xs, q, r⟩ := q; exact ⟨xs, q, rY r⟩
    | ins c fs => obtain ⟨Ca, dx, vs, m, q, n, r⟩ := q; exact ⟨Ca, dx, vs, m, q, n, oF r⟩
    | fD ds => obtain ⟨od, xs, q, r⟩ := q; exact ⟨od, xs, q, rY r⟩
    | fG ds => obtain ⟨od, xs, q, r⟩ := q; exact ⟨od, xs, q, oF r⟩
    | exo c m => obtain ⟨Ca, d, m1, q, n⟩ := q; exact ⟨Ca, d, m1, q, n.app⟩
    | exd fs => obtain ⟨vs, q, n, r⟩ := q; exact ⟨vs, q, n, oF r⟩
   have new : bK (au X) H1 P (β1 ++ [p]) p so := by
    cases d <;> first | (cases es; done) | skip
    ·cases es; obtain ⟨xs, q, r⟩ := o; exact ⟨xs, q, oF r⟩
    ·cases es; obtain ⟨xs, q, r⟩ := o; exact ⟨xs, q, rY r⟩
   have st : aK (au X) H1 P (β1 ++ [p]) (S1 ++ [so]) := by
    refine ⟨by simp [L1.st.len], ?_, fun n a sb h1 h2 => ?_⟩
    ·rw [List.nodup_append]
     exact ⟨L1.st.nd, by simp, fun x hx y hy => by rw [List.mem_singleton.mp hy]; exact fun z => hb (z ▸ hx)⟩
    ·by_cases hn : n < β1.length
     ·rw [List.getElem?_append_left hn] at h1
      rw [List.getElem?_append_left (by rw [← L1.st.len]; exact hn)] at h2
      exact FD (L1.st.ok n a sb h1 h2)
     ·have hl : n = β1.length := by
       have := (List.getElem?_eq_some_iff.mp h1).1
       simp at this; omega
      subst hl
      rw [List.getElem?_append_right (Nat.le_refl _)] at h1
      rw [L1.st.len, List.getElem?_append_right (Nat.le_refl _)] at h2
      simp at h1 h2
      subst h1; subst h2
      exact new
   have L3 : LR (au X) cf oa P σ H1 (β1 ++ [p]) ρ (S1 ++ [so]) := by
    refine ⟨L1.len, fun a h => ⟨(L2.p a h).1, fun z => ?_⟩, L.sub, L.p0, ?_, L2.own, L1.inj, st, fun i x h => ?_, fun i x h => ?_, fun i x h => ?_⟩
    ·rcases List.mem_append.mp z with z | z
     ·exact (L2.p a h).2 z
     ·exact nP (List.mem_singleton.mp z ▸ h)
    ·exact L.ext.step ext
    ·obtain ⟨v, q1, q2⟩ := L1.slot i x h
     exact ⟨v, q1, more q2⟩
    ·obtain ⟨a, q1, q2, q3⟩ := L1.dM i x h
     refine ⟨a, q1, q2, ?_⟩
     cases x <;> first | exact q3.elim | skip
     ·obtain ⟨xs, q, r⟩ := q3; exact ⟨xs, q, oF r⟩
     ·obtain ⟨xs, q, r⟩ := q3; exact ⟨xs, q, rY r⟩
    ·obtain ⟨a, q1, oe, Ca, dd, vs, x1, x2, x3, x4, x5, x6, x7, x8⟩ := L1.xslot i x h
     have nd : dd ≠ p := fun z => by
      subst z
      cases so with
      | lst _ => obtain ⟨xs, q, _⟩ := new; rw [x5] at q; cases q
      | dct _ => obtain ⟨xs, q, _⟩ := new; rw [x5] at q; cases q
      | ins _ _ => obtain ⟨_, _, _, _, q, _⟩ := new; rw [x5] at q; cases q
      | fD _ => obtain ⟨_, _, q, _⟩ := new; rw [x5] at q; cases q
      | fG _ => obtain ⟨_, _, q, _⟩ := new; rw [x5] at q; cases q
      | exo _ _ => obtain ⟨_, _, _, q, _⟩ := new; rw [x5] at q; unfold exo at q; cases q
      | exd _ => obtain ⟨_, q, _⟩ := new; rw [x5] at q; unfold exd at q; cases q
     exact ⟨a, q1, oe, Ca, dd, vs, x1, x2, x3, x4, x5, fun z => (List.mem_append.mp z).elim x6 fun z => nd (List.mem_singleton.mp z), fun z => x7 (.inl z), fun f y q => let ⟨v, r1, r2⟩ := x8 f y q; ⟨v, r1, more r2⟩⟩
   refine h (.ref p) H1 (β1 ++ [p]) ⟨ext, fun e => nomatch e⟩ L3 (.ref ?_)
   rw [← L1.st.len, List.getElem?_append_right (Nat.le_refl _)]
   simp
variable {x : Str} {p : Pos} {id : String} {r : List V → Hp → VK → Prop} {f : Store → List D → Option D}
theorem bQ (hc : CallR X (.builtin id) r) (hf : j6 X r f) (hm : X.mg x = none) (hv : bootBuiltins x = some (.builtin id)) (ha : j5 (au X) W b X (e :: es) iw)
  (hg : Gl X x := by rfl) (hn : x ≠ "__name__" := by decide) (hdb : (x == ("__debug__" : Str)) = false := by decide) (he : starEach (e :: es) X.env = (false, eval e X.env) :: starEach es X.env := by rfl) (hpl : (backTo pos (starEach es X.env)).any (·.1) = false := by rfl) :
  PM (au X) W b X (.Call (.Name x p) (e :: es) [] pos) (aN f iw) := dB (pe_callB hc hg hm hv ha hn hdb he hpl) fun σ H Q h => Fg hf h
end
def j7 (d : D) : Option Bool := match d with
 | .bl b => some b
 | _ => none
/-- the items of a list, a list of the store yR -/
def cH (S : Store) : D → Option (List D)
 | .lst xs => some xs
 | .ref n => match S[n]? with
  | some (.lst xs) => some xs
  | some (.fG xs) => some xs
  | _ => none
 | _ => none
def gq : D → Option (List D)
 | .tup xs => some xs
 | _ => none
def j8 (S : Store) : D → Option (List (Key × D))
 | .dct xs => some xs
 | .ref n => match S[n]? with
  | some (.dct xs) => some xs
  | some (.fD xs) => some xs
  | _ => none
 | _ => none
def dD (S : Store) (d : D) : Option Bool := match d with
 | .non => some false
 | .bl b => some b
 | .int i => some (i != 0)
 | .str y => if y.length ≤ sizeLine then some ((y.length : Int) != 0) else none
 | .tup xs => some (!xs.isEmpty)
 | d => match cH S d with
  | some xs => some (!xs.isEmpty)
  | none => match j8 S d with
   | some xs => some (!xs.isEmpty)
   | none => none
def iz (a : EX) : BX := fun ρ S => (a ρ S).bind fun x S1 => R.opt (dD S1 x) S1
def fR (a : EX) : BX := fun ρ S => (a ρ S).bind fun x S1 => R.opt (j7 x) S1
def yS (a b : BX) : BX := fun ρ S => (a ρ S).bind fun x S1 => if x = true then b ρ S1 else .ok false S1
def oG (a b : BX) : BX := fun ρ S => (a ρ S).bind fun x S1 => if x = true then .ok true S1 else b ρ S1
def oH (a : BX) : BX := fun ρ S => (a ρ S).bind fun x S1 => .ok (!x) S1
def iT (c : BX) (a b : EX) : EX := fun ρ S => (c ρ S).bind fun x S1 => if x = true then a ρ S1 else b ρ S1
def qu (a b : EX) : EX := fun ρ S => (a ρ S).bind fun x S1 => (R.opt (dD S1 x) S1).bind fun k S2 => if k = true then b ρ S2 else .ok x S2
def yU (a b : EX) : EX := fun ρ S => (a ρ S).bind fun x S1 => (R.opt (dD S1 x) S1).bind fun k S2 => if k = true then .ok x S2 else b ρ S2
def yV (a : EX) : EX := fun ρ S => (a ρ S).bind fun x S1 => (R.opt (dD S1 x) S1).bind fun k S2 => .ok (.bl (!k)) S2
/-- a < b < c -/
def yW (f g : Store → D → D → Option D) (a b c : EX) : EX := fun ρ S => (a ρ S).bind fun x S1 => (b ρ S1).bind fun y S2 => (R.opt ((f S2 x y).bind j7) S2).bind fun k S3 =>
 if k = true then (c ρ S3).bind fun z S4 => R.opt (g S4 y z) S4 else .ok (.bl false) S3
section
variable {C : Ct} {H : Hp} {Z : Addr → Prop} {β : List Addr} {S : Store} {v : V} {d : D}
/-- a list seen -/
theorem RV.cH (r : RV C H Z β v d) (s : aK C H Z β S) {ds : List D} (h : Mi.cH S d = some ds) : ∃ a xs, v = .ref a ∧ SqL C.K H a xs ∧ aC C H Z β xs ds := by
 cases r with
 | lst hp hb hr hs => cases h; exact ⟨_, _, rfl, .inl hr, hs⟩
 | dJ k hs => cases h; exact ⟨_, _, rfl, .inr k, hs⟩
 | ref hn =>
  simp only [Mi.cH] at h
  split at h
  ·rename_i xs e
   cases h
   have q := s.ok _ _ _ hn e
   obtain ⟨us, q1, q2⟩ := q
   exact ⟨_, _, rfl, .inl (.inl q1), q2⟩
  ·rename_i xs e
   cases h
   obtain ⟨od, us, q1, q2⟩ := s.ok _ _ _ hn e
   exact ⟨_, _, rfl, .inl (.inr ⟨od, q1⟩), q2⟩
  ·cases h
 | _ => cases h
theorem RV.gq (r : RV C H Z β v d) {ds : List D} (h : Mi.gq d = some ds) : ∃ a xs, v = .ref a ∧ SqT C.K H a xs ∧ aC C H Z β xs ds := by
 cases r with
 | tup hr hs => cases h; exact ⟨_, _, rfl, .inl hr, hs⟩
 | eU k hs => cases h; exact ⟨_, _, rfl, .inr k, hs⟩
 | _ => cases h
theorem RV.j8 (r : RV C H Z β v d) (s : aK C H Z β S) {ds : List (Key × D)} (h : Mi.j8 S d = some ds) : ∃ a xs, v = .ref a ∧ Rd H a (.dK xs) ∧ aG C H Z β xs ds := by
 cases r with
 | dct hp hb hr hs => cases h; exact ⟨_, _, rfl, hr.rd, hs⟩
 | ref hn =>
  simp only [Mi.j8] at h
  split at h
  ·rename_i xs e
   cases h
   have q := s.ok _ _ _ hn e
   obtain ⟨us, q1, q2⟩ := q
   exact ⟨_, _, rfl, .inl q1, q2⟩
  ·rename_i xs e
   cases h
   obtain ⟨od, us, q1, q2⟩ := s.ok _ _ _ hn e
   exact ⟨_, _, rfl, .inr ⟨od, q1⟩, q2⟩
  ·cases h
 | _ => cases h
end
section
variable {X : Cx} {W : WX} {b : Bool}
/-- truth, a dict cX a loop has locked yR -/
def oJ (K : PySem.W.Frag) (x : V) (H : Hp) (k : Bool) : Prop := TruV K x H k ∨ ∃ p kvs, x = .ref p ∧ Rd H p (.dK kvs) ∧ k = !kvs.isEmpty
theorem yX : TruR X (fun x H Q => ∃ k, oJ X.K x H k ∧ Q k H) := by
 intro pins s σ H x v Q I rx h
 obtain ⟨k, e, q⟩ := h
 rcases e with e | ⟨p, kvs, rfl, hr, rfl⟩
 ·exact tru_ok pins s σ H x v Q I rx ⟨k, e, q⟩
 ·cases rx
  obtain ⟨hz, hS, vs, r, m⟩ := dk_rd I.hok hr
  have hl := line63
  have hlen : kvs.length = vs.length := Paired.length r
  exact wpAny_truthy_dict hS m (by omega) ⟨H, I.tok _, by rw [isEmpty_kv r]; exact q⟩
theorem yY {C : Ct} {H : Hp} {Z : Addr → Prop} {β : List Addr} {xs : List V} {ds : List D} (h : aC C H Z β xs ds) : xs.isEmpty = ds.isEmpty := by
 cases h <;> rfl
theorem FJ {C : Ct} {H : Hp} {Z : Addr → Prop} {β : List Addr} {xs : List (Key × V)} {ds : List (Key × D)} (h : aG C H Z β xs ds) : xs.isEmpty = ds.isEmpty := by
 cases h <;> rfl
theorem yZ {Z : Addr → Prop} {H : Hp} {β : List Addr} {S : Store} {x : V} {d : D} {k : Bool} (A : At (au X) H Z β S) (r : RV (au X) H Z β x d) (h : dD S d = some k) : oJ X.K x H k := by
 have tail : ∀ {d : D}, RV (au X) H Z β x d → (match cH S d with
  | some xs => some (!xs.isEmpty)
  | none => match j8 S d with
   | some xs => some (!xs.isEmpty)
   | none => none) = some k → oJ X.K x H k := fun {d} r h => by
  cases e : cH S d with
  | some ds =>
   rw [e] at h
   cases h
   obtain ⟨a, xs, rfl, q1, q2⟩ := r.cH A.st e
   exact .inl (.inl ⟨xs, q1, by rw [yY q2]⟩)
  | none =>
   rw [e] at h
   cases e2 : j8 S d with
   | none => rw [e2] at h; cases h
   | some ds =>
    rw [e2] at h
    cases h
    obtain ⟨a, xs, rfl, q1, q2⟩ := r.j8 A.st e2
    exact .inr ⟨a, xs, rfl, q1, by rw [FJ q2]⟩
 unfold dD at h
 cases d with
 | non => cases r; cases h; exact .inl rfl
 | bl b => cases r; cases h; exact .inl rfl
 | int i => cases r; cases h; exact .inl rfl
 | str y =>
  cases r
  simp only at h
  split at h
  ·cases h; exact .inl ⟨by assumption, rfl⟩
  ·cases h
 | tup xs =>
  cases h
  obtain ⟨a, us, rfl, q1, q2⟩ := r.gq rfl
  exact .inl (.inr (.inl ⟨us, q1, by rw [yY q2]⟩))
 | lst xs => exact tail r h
 | dct xs => exact tail r h
 | ref n => exact tail r h
 | ty n => exact tail r h
 | fn n => exact tail r h
theorem FO {m : EX} {σ : L2.St} {H : Hp} {Q : Bool → Hp → Prop} (h : BM (au X) W b (fR m) σ H Q) : EM (au X) W b m σ H fun x H' => ∃ k, x = .bl k ∧ Q k H' := by
 obtain ⟨cf, oa, P, β, ρ, S, L, h⟩ := h
 refine ⟨cf, oa, P, β, ρ, S, L, ?_⟩
 unfold fR at h
 cases ea : m ρ S with
 | stuck => rw [ea] at h; exact h
 | exc e S1 => rw [ea] at h; exact h
 | ok d S1 =>
  rw [ea] at h
  intro v H1 β1 e1 L1 r
  cases d with
  | bl k => cases r; exact ⟨k, rfl, h H1 β1 e1 L1⟩
  | _ => exact h.elim
theorem FP {m : EX} {σ : L2.St} {H : Hp} {Q : Bool → Hp → Prop} (h : BM (au X) W b (iz m) σ H Q) : EM (au X) W b m σ H fun x H' => ∃ k, oJ X.K x H' k ∧ Q k H' := by
 obtain ⟨cf, oa, P, β, ρ, S, L, h⟩ := h
 refine ⟨cf, oa, P, β, ρ, S, L, ?_⟩
 unfold iz at h
 cases ea : m ρ S with
 | stuck => rw [ea] at h; exact h
 | exc e S1 => rw [ea] at h; exact h
 | ok d S1 =>
  rw [ea] at h
  intro v H1 β1 e1 L1 r
  simp only [R.bind] at h
  cases et : dD S1 d with
  | none => rw [et] at h; exact h.elim
  | some k => rw [et] at h; exact ⟨k, yZ L1.at r et, h H1 β1 e1 L1⟩
variable {a b' c e : Expr} {rest : List Expr} {ma mb : EX} {ka kb : BX} {pos : Pos}
theorem uR {op : CmpOp} {r : R2} {f : Store → D → D → Option D} (ho : OpR X (compareOp op) r) (hm : fj X r f) (ha : PM (au X) W b X a ma) (hb : PM (au X) W b X b' mb) (hk : behindInMarks op b' = false := by first | exact nobehind _ (by decide) (by decide) | rfl) :
  PB (au X) W b X (.Compare a [op] [b'] pos) (fR (aF f ma mb)) := uJ (pt_cmpR ho ha hb hk) fun σ H Q h => em2 hm (FO h)
/-- a test cX is the truth of a value -/
theorem lY (h : PM (au X) W b X e ma) (he : ∀ whole, isTrue e X.env whole = (do let v ← whole; standAt e.pos; holding [v] (truthy v)) := by intro _; rfl) : PB (au X) W b X e (iz ma) := by
 refine uJ (t := fun σ H Q => EM (au X) W b ma σ H fun x H' => ∃ k, oJ X.K x H' k ∧ Q k H') ⟨fun pins s σ H Q I h' => ?_⟩ fun σ H Q h => FP h
 exact isTrue_plain (thn (h.run pins s σ H _ I h') fun v s1 ⟨x, H1, I1, r1, q1⟩ => yX pins s1 σ H1 x v Q I1 r1 q1) (he _)
structure rZ (C : Ct) (W : WX) (b : Bool) (X : Cx) (e : Expr) (m : BX) : Prop where
 pw : PW X e (BM C W b m)
theorem FQ {X : Cx} {e : Expr} {t t' : TT} (h : PW X e t) (i : ∀ σ H Q, t' σ H Q → t σ H Q) : PW X e t' := ⟨fun wh pins s σ H Q I hw => h.run wh pins s σ H Q I (i σ H Q hw)⟩
theorem FT {k1 k2 : BX} {σ : L2.St} {H : Hp} {Q : Bool → Hp → Prop} (h : BM (au X) W b (oG k1 k2) σ H Q) : tOr (BM (au X) W b k1) (BM (au X) W b k2) σ H Q := by
 obtain ⟨cf, oa, P, β, ρ, S, L, h⟩ := h
 refine ⟨cf, oa, P, β, ρ, S, L, ?_⟩
 unfold oG at h
 cases ea : k1 ρ S with
 | stuck => rw [ea] at h; exact h
 | exc e S1 => rw [ea] at h; exact h
 | ok k S1 =>
  rw [ea] at h
  simp only [R.bind] at h
  intro H1 β1 e1 L1
  cases k with
  | true => rw [if_pos rfl] at h ⊢; exact h H1 β1 e1 L1
  | false =>
   rw [if_neg Bool.false_ne_true] at h ⊢
   refine ⟨cf, oa, P, β1, ρ, S1, L1, ?_⟩
   cases eb : k2 ρ S1 with
   | stuck => rw [eb] at h; exact h
   | exc e S2 => rw [eb] at h; intro cls d H' β' e2 L2 ex; exact h cls d H' β' (e1.trans e2) L2 ex
   | ok k' S2 => rw [eb] at h; intro H2 β2 e2 L2; exact h H2 β2 (e1.trans e2) L2
theorem FU (ha : PB (au X) W b X a ka) : rZ (au X) W b X (.BoolOp .Or [a] pos) ka := ⟨pw_or1 ha⟩
theorem FW (ha : PB (au X) W b X a ka) (hb : rZ (au X) W b X (.BoolOp .Or (b' :: rest) pos) kb) : rZ (au X) W b X (.BoolOp .Or (a :: b' :: rest) pos) (oG ka kb) :=
 ⟨FQ (pw_or ha hb.pw) fun σ H Q h => FT h⟩
theorem FY (h : rZ (au X) W b X e ka) : PB (au X) W b X e ka := h.pw.pt
theorem z7 (h : PB (au X) W b X a ka) : PB (au X) W b X (.UnaryOp .Not a pos) (oH ka) := uJ (pt_not h) fun σ H Q h => by
 obtain ⟨cf, oa, P, β, ρ, S, L, h⟩ := h
 refine ⟨cf, oa, P, β, ρ, S, L, ?_⟩
 unfold oH at h
 cases ea : ka ρ S with
 | stuck => rw [ea] at h; exact h
 | exc e S1 => rw [ea] at h; exact h
 | ok k S1 => rw [ea] at h; exact h
theorem uU (hc : PB (au X) W b X c ka) (ha : PM (au X) W b X a ma) (hb : PM (au X) W b X b' mb) : PM (au X) W b X (.IfExp c a b' pos) (iT ka ma mb) := dB (pe_ifExp hc ha hb) fun σ H Q h => by
 obtain ⟨cf, oa, P, β, ρ, S, L, h⟩ := h
 refine ⟨cf, oa, P, β, ρ, S, L, ?_⟩
 unfold iT at h
 cases ea : ka ρ S with
 | stuck => rw [ea] at h; exact h
 | exc e S1 => rw [ea] at h; exact h
 | ok k S1 =>
  rw [ea] at h
  simp only [R.bind] at h
  intro H1 β1 e1 L1
  cases k with
  | true =>
   rw [if_pos rfl] at h ⊢
   refine ⟨cf, oa, P, β1, ρ, S1, L1, ?_⟩
   cases eb : ma ρ S1 with
   | stuck => rw [eb] at h; exact h
   | exc e S2 => rw [eb] at h; intro cls d H' β' e2 L2 ex; exact h cls d H' β' (e1.trans e2) L2 ex
   | ok d S2 => rw [eb] at h; intro v H2 β2 e2 L2 r; exact h v H2 β2 (e1.trans e2) L2 r
  | false =>
   rw [if_neg Bool.false_ne_true] at h ⊢
   refine ⟨cf, oa, P, β1, ρ, S1, L1, ?_⟩
   cases eb : mb ρ S1 with
   | stuck => rw [eb] at h; exact h
   | exc e S2 => rw [eb] at h; intro cls d H' β' e2 L2 ex; exact h cls d H' β' (e1.trans e2) L2 ex
   | ok d S2 => rw [eb] at h; intro v H2 β2 e2 L2 r; exact h v H2 β2 (e1.trans e2) L2 r
def FZ (K : PySem.W.Frag) (ta tb : TE) : TE := fun σ H Q => ta σ H fun x H1 => ∃ k, oJ K x H1 k ∧ if k = true then tb σ H1 Q else Q x H1
theorem G3 {ta tb : TE} (ha : PE X a ta) (hb : PE X (.BoolOp .And (b' :: rest) pos) tb) : PE X (.BoolOp .And (a :: b' :: rest) pos) (FZ X.K ta tb) := by
 refine ⟨fun pins s σ H Q I h => ?_⟩
 refine BoolOp_and (thn (ha.run pins s σ H _ I h) fun v s1 ⟨x, H1, I1, r1, q1⟩ => ?_)
 obtain ⟨k, e, q1⟩ := q1
 refine thn (yX pins s1 σ H1 x v (fun c H2 => c = k ∧ H2 = H1) I1 r1 ⟨k, e, rfl, rfl⟩) fun c s2 hc => ?_
 obtain ⟨H2, I2, e1, e2⟩ := hc
 rw [e2] at I2
 rw [← e1] at q1
 cases c with
 | true => exact hb.run pins s2 σ H1 Q I2 q1
 | false => exact ⟨x, H1, I2, r1, q1⟩
theorem G4 {op : BoolOp} (h : PM (au X) W b X a ma) : PM (au X) W b X (.BoolOp op [a] pos) ma := pe_one h
theorem G5 (ha : PM (au X) W b X a ma) (hb : PM (au X) W b X (.BoolOp .And (b' :: rest) pos) mb) : PM (au X) W b X (.BoolOp .And (a :: b' :: rest) pos) (qu ma mb) := dB (G3 ha hb) fun σ H Q h => by
 obtain ⟨cf, oa, P, β, ρ, S, L, h⟩ := h
 refine ⟨cf, oa, P, β, ρ, S, L, ?_⟩
 unfold qu at h
 cases ea : ma ρ S with
 | stuck => rw [ea] at h; exact h
 | exc e S1 => rw [ea] at h; exact h
 | ok d S1 =>
  rw [ea] at h
  simp only [R.bind] at h
  intro v H1 β1 e1 L1 r
  cases et : dD S1 d with
  | none => rw [et] at h; exact h.elim
  | some k =>
   rw [et] at h
   simp only [R.opt] at h
   refine ⟨k, yZ L1.at r et, ?_⟩
   cases k with
   | false => rw [if_neg Bool.false_ne_true] at h ⊢; exact h v H1 β1 e1 L1 r
   | true =>
    rw [if_pos rfl] at h ⊢
    refine ⟨cf, oa, P, β1, ρ, S1, L1, ?_⟩
    cases eb : mb ρ S1 with
    | stuck => rw [eb] at h; exact h
    | exc e S2 => rw [eb] at h; intro cls d H' β' e2 L2 ex; exact h cls d H' β' (e1.trans e2) L2 ex
    | ok d S2 => rw [eb] at h; intro v H2 β2 e2 L2 r; exact h v H2 β2 (e1.trans e2) L2 r
end
def R.st {α : Type} (r : R α) (ρ : aH) (k : α → Store → SR) : SR := match r with
 | .ok a S => k a S
 | .exc e S => .exc e ρ S
 | .stuck => .stuck
def j9 : SX := fun ρ S => .nx ρ S
def bD (s t : SX) : SX := fun ρ S => match s ρ S with
 | .nx ρ' S' => t ρ' S'
 | r => r
def G6 : SX := fun ρ S => .bk ρ S
def G7 : SX := fun ρ S => .ct ρ S
def z8 (a : EX) : SX := fun ρ S => (a ρ S).st ρ fun _ S' => .nx ρ S'
def cU (a : EX) : SX := fun ρ S => (a ρ S).st ρ fun d S' => .rt d S'
def G8 : SX := fun _ S => .rt .non S
/-- return x: the a2b own container goes with it -/
def z9 (i : Nat) : SX := fun ρ S => match ρ[i]? with
 | some (Sl.sh d) => .rt d S
 | some (Sl.ow d) => .rt d S
 | _ => .stuck
def gQ (c : BX) (s t : SX) : SX := fun ρ S => (c ρ S).st ρ fun k S' => if k = true then s ρ S' else t ρ S'
def bR (i : Nat) (a : EX) : SX := fun ρ S => (a ρ S).st ρ fun d S' => .nx (ρ.set i (.sh d)) S'
def za (i : Nat) (a : EX) : SX := fun ρ S => (a ρ S).st ρ fun d S' => .nx (ρ.set i (.ow d)) S'
abbrev GX := D → aH → Store → Option (aH × Store)
def gR (i : Nat) : GX := fun d ρ S => some (ρ.set i (.sh d), S)
abbrev jL := List D → aH → Store → Option (aH × Store)
def lZ : jL := fun ds ρ S => match ds with
 | [] => some (ρ, S)
 | _ => none
def gU (g : GX) (r : jL) : jL := fun ds ρ S => match ds with
 | d :: t => (g d ρ S).bind fun p => r t p.1 p.2
 | [] => none
def m7 (g : jL) : GX := fun d ρ S => (gq d).bind fun ds => g ds ρ S
def jc (a : EX) (g : GX) : SX := fun ρ S => (a ρ S).st ρ fun d S' => match g d ρ S' with
 | some (ρ', G9) => .nx ρ' G9
 | none => .stuck
/-- a loop over known items -/
def forL (g : GX) (body : SX) : List D → SX
 | [], ρ, S => .nx ρ S
 | d :: ds, ρ, S => match g d ρ S with
  | none => .stuck
  | some (ρ1, S1) => match body ρ1 S1 with
   | .nx ρ' S' => forL g body ds ρ' S'
   | .ct ρ' S' => forL g body ds ρ' S'
   | .bk ρ' S' => .nx ρ' S'
   | r => r
def oK (it : AX) (g : GX) (body : SX) : SX := fun ρ S => (it ρ S).st ρ fun ds S' => forL g body ds ρ S'
/-- a uI body as a function of its arguments; n: how many slots -/
def eV (n : Nat) (body : SX) : FX := fun ds S => match body (ds.map Sl.sh ++ List.replicate (n - ds.length) Sl.un) S with
 | .nx _ S' => .ok .non S'
 | .rt d S' => .ok d S'
 | .exc e _ S' => .exc e S'
 | _ => .stuck
section
variable {C : Ct} {cf : Cf} {oa : Nat → Option Addr} {P : Addr → Prop} {σ : L2.St} {H : Hp} {β : List Addr} {ρ : aH} {S : Store}
/-- a slot is set -/
theorem LR.set (L : LR C cf oa P σ H β ρ S) {i : Nat} {v : V} {d : D} (r : RV C H P β v d) : LR C cf (fun j => if j = i then none else oa j) P (σ.set i (some v)) H β (ρ.set i (.sh d)) S where
 len := by rw [List.length_set, List.length_set]; exact L.len
 p := L.p
 sub := L.sub
 p0 := L.p0
 ext := L.ext
 own := fun j a h => by
  by_cases e : j = i
  ·rw [if_pos e] at h; cases h
  ·rw [if_neg e] at h; exact L.own j a h
 inj := fun j k a h1 h2 => by
  by_cases e : j = i
  ·rw [if_pos e] at h1; cases h1
  ·by_cases e2 : k = i
   ·rw [if_pos e2] at h2; cases h2
   ·rw [if_neg e] at h1; rw [if_neg e2] at h2; exact L.inj j k a h1 h2
 st := L.st
 slot := fun j x h => by
  by_cases e : i = j
  ·subst e
   by_cases hl : i < ρ.length
   ·rw [List.getElem?_set_self hl] at h
    cases h
    exact ⟨v, List.getElem?_set_self (by rw [L.len]; exact hl), r⟩
   ·rw [List.getElem?_eq_none (by rw [List.length_set]; omega)] at h; cases h
  ·rw [List.getElem?_set_ne e] at h
   obtain ⟨u, q1, q2⟩ := L.slot j x h
   exact ⟨u, by rw [List.getElem?_set_ne e]; exact q1, q2⟩
 dM := fun j x h => by
  by_cases e : i = j
  ·subst e
   by_cases hl : i < ρ.length
   ·rw [List.getElem?_set_self hl] at h; cases h
   ·rw [List.getElem?_eq_none (by rw [List.length_set]; omega)] at h; cases h
  ·rw [List.getElem?_set_ne e] at h
   obtain ⟨a, q0, q1, q2⟩ := L.dM j x h
   exact ⟨a, by rw [if_neg fun z => e z.symm]; exact q0, by rw [List.getElem?_set_ne e]; exact q1, q2⟩
 xslot := fun j x h => by
  by_cases e : i = j
  ·subst e
   by_cases hl : i < ρ.length
   ·rw [List.getElem?_set_self hl] at h; cases h
   ·rw [List.getElem?_eq_none (by rw [List.length_set]; omega)] at h; cases h
  ·rw [List.getElem?_set_ne e] at h
   obtain ⟨b, q1, q2⟩ := L.xslot j x h
   exact ⟨b, by rw [List.getElem?_set_ne e]; exact q1, q2⟩
end
section
variable {X : Cx} {W : WX} {a e : Expr} {ma : EX} {ka : BX} {s1 s2 : SX} {st : Stmt} {rest : List Stmt} {pos : Pos}
theorem oM : jK (au X) W X [] j9 := yL pss_nil fun D σ H h => by
 obtain ⟨cf, oa, P, β, ρ, S, L, h⟩ := h
 exact h σ H β oa P L Fx.refl
theorem fU (h : iQ (au X) W X st s1) : jK (au X) W X [st] s1 := pss_one h
theorem bV (h1 : iQ (au X) W X st s1) (h2 : jK (au X) W X rest s2) : jK (au X) W X (st :: rest) (bD s1 s2) := yL (pss_cons h1 h2) fun D σ H h => by
 obtain ⟨cf, oa, P, β, ρ, S, L, h⟩ := h
 refine ⟨cf, oa, P, β, ρ, S, L, ?_⟩
 unfold bD at h
 cases es : s1 ρ S with
 | nx ρ1 S1 =>
  rw [es] at h
  intro σ1 H1 β1 uV P1 L1 f1
  exact ⟨cf, uV, P1, β1, ρ1, S1, L1, h.fx f1⟩
 | bk ρ1 S1 => rw [es] at h; exact h
 | ct ρ1 S1 => rw [es] at h; exact h
 | rt d S1 => rw [es] at h; exact h
 | exc e ρ1 S1 => rw [es] at h; exact h
 | stuck => rw [es] at h; exact h
/-- what an exception wants, from an Ge to a F8 -/
theorem oN {C : Ct} {cf : Cf} {oa : Nat → Option Addr} {P : Addr → Prop} {σ : L2.St} {b : Bool} {H : Hp} {β : List Addr} {ρ : aH} {S S' : Store} {e : cM}
  (h : ∀ cls x σ' H' β' cZ P', LR C cf cZ P' σ' H' β' ρ S' → Fx H P β H' P' β' → lX C H' P' β' cls x e → W cls x σ' H') : XP C W cf oa P σ b H β ρ S e S' :=
 fun cls x H' β' t L ex => h cls x σ H' β' oa P L (Fx.of t.ext) ex
theorem Gf {C : Ct} {cf : Cf} {oa : Nat → Option Addr} {P : Addr → Prop} {σ : L2.St} {H : Hp} {β : List Addr} {ρ : aH} {S : Store} {v : V} {d : D} (L : LR C cf oa P σ H β ρ S) (r : RV C H P β v d) :
  jJ cf H β ∧ aK C H cf.P0 β S ∧ RV C H cf.P0 β v d := ⟨L.ext, L.st.less L.sub, r.less L.sub⟩
theorem gW (h : PM (au X) W false X e ma) : iQ (au X) W X (.Return (some e) pos) (cU ma) := oA (ps_ret h) fun D σ H h => by
 obtain ⟨cf, oa, P, β, ρ, S, L, h⟩ := h
 refine ⟨cf, oa, P, β, ρ, S, L, ?_⟩
 unfold cU at h
 cases ea : ma ρ S with
 | stuck => rw [ea] at h; exact h
 | exc e S1 => rw [ea] at h; exact oN h
 | ok d S1 =>
  rw [ea] at h
  intro v H1 β1 t L1 r
  obtain ⟨q1, q2, q3⟩ := Gf L1 r
  exact h v H1 β1 q1 t.ext.fs q2 q3
theorem oO {p q : List Stmt} {c : Expr} (hc : PB (au X) W false X c ka) (h1 : jK (au X) W X p s1) (h2 : jK (au X) W X q s2) : iQ (au X) W X (.If c p q pos) (gQ ka s1 s2) := oA (ps_if hc h1 h2) fun D σ H h => by
 obtain ⟨cf, oa, P, β, ρ, S, L, h⟩ := h
 refine ⟨cf, oa, P, β, ρ, S, L, ?_⟩
 unfold gQ at h
 cases ea : ka ρ S with
 | stuck => rw [ea] at h; exact h
 | exc e S1 => rw [ea] at h; exact oN h
 | ok k S1 =>
  rw [ea] at h
  simp only [R.st] at h
  intro H1 β1 t L1
  cases k with
  | true => rw [if_pos rfl] at h ⊢; exact ⟨cf, oa, P, β1, ρ, S1, L1, h.fx (Fx.of t.ext)⟩
  | false => rw [if_neg Bool.false_ne_true] at h ⊢; exact ⟨cf, oa, P, β1, ρ, S1, L1, h.fx (Fx.of t.ext)⟩
/-- name = e, by what the statement reads -/
theorem fV {i : Nat} {t : TE} (h : PS X st (tAsg t (gName i))) (ht : ∀ σ H Q, EM (au X) W false ma σ H Q → t σ H Q) : iQ (au X) W X st (bR i ma) := oA h fun D σ H h => by
 obtain ⟨cf, oa, P, β, ρ, S, L, h⟩ := h
 refine ht _ _ _ ⟨cf, oa, P, β, ρ, S, L, ?_⟩
 unfold bR at h
 cases ea : ma ρ S with
 | stuck => rw [ea] at h; exact h
 | exc e S1 => rw [ea] at h; exact oN h
 | ok d S1 =>
  rw [ea] at h
  intro v H1 β1 t L1 r
  exact h _ H1 β1 _ P (L1.set r) (Fx.of t.ext)
def GM (C : Ct) (T : GX) : TG := fun v σ H Q => ∃ cf oa P β ρ S d, LR C cf oa P σ H β ρ S ∧ RV C H P β v d ∧ (match T d ρ S with
 | some p => ∀ σ' H' β' cZ P', LR C cf cZ P' σ' H' β' p.1 p.2 → Fx H P β H' P' β' → Q σ' H'
 | none => False)
def Gg (C : Ct) (T : jL) : TGs := fun vs σ H Q => ∃ cf oa P β ρ S ds, LR C cf oa P σ H β ρ S ∧ aC C H P β vs ds ∧ (match T ds ρ S with
 | some p => ∀ σ' H' β' cZ P', LR C cf cZ P' σ' H' β' p.1 p.2 → Fx H P β H' P' β' → Q σ' H'
 | none => False)
abbrev oR (X : Cx) (e : Expr) (T : GX) : Prop := PG X e (GM (au X) T)
abbrev su (X : Cx) (es : List Expr) (T : jL) : Prop := PGs X es (Gg (au X) T)
theorem uW {X : Cx} {e : Expr} {t t' : TG} (h : PG X e t) (i : ∀ v σ H Q, t' v σ H Q → t v σ H Q) : PG X e t' := ⟨fun pins s σ H v u Q I r hw => h.run pins s σ H v u Q I r (i v σ H Q hw)⟩
theorem zf {X : Cx} {e : List Expr} {t t' : TGs} (h : PGs X e t) (i : ∀ v σ H Q, t' v σ H Q → t v σ H Q) : PGs X e t' := ⟨fun pins s σ H v u Q I r hw => h.run pins s σ H v u Q I r (i v σ H Q hw)⟩
variable {tg : Expr} {jM : List Expr} {g : GX} {gs : jL}
theorem Gh {i : Nat} (h : PG X tg (gName i)) : oR X tg (gR i) := uW h fun v σ H Q h => by
 obtain ⟨cf, oa, P, β, ρ, S, d, L, r, h⟩ := h
 exact h _ H β _ P (L.set r) Fx.refl
theorem zj : su X [] lZ := zf pgs_nil fun vs σ H Q h => by
 obtain ⟨cf, oa, P, β, ρ, S, ds, L, r, h⟩ := h
 cases r with
 | nil => exact ⟨rfl, h σ H β oa P L Fx.refl⟩
 | cons r rs => exact h.elim
theorem sE (h1 : oR X tg g) (h2 : su X jM gs) (hs : (assignEach (tg :: jM) X.env).map (·.2) = assign tg X.env :: (assignEach jM X.env).map (·.2) := by rfl) : su X (tg :: jM) (gU g gs) := zf (pgs_cons h1 h2 hs) fun vs σ H Q h => by
 obtain ⟨cf, oa, P, β, ρ, S, ds, L, r, h⟩ := h
 cases r with
 | nil => exact h.elim
 | @cons v vs d ds r rs =>
  refine ⟨v, vs, rfl, cf, oa, P, β, ρ, S, d, L, r, ?_⟩
  simp only [gU] at h
  cases eg : g d ρ S with
  | none => rw [eg] at h; exact h.elim
  | some p =>
   rw [eg] at h
   intro σ1 H1 β1 uV P1 L1 f1
   refine ⟨cf, uV, P1, β1, p.1, p.2, ds, L1, rs.fx f1, ?_⟩
   simp only [Option.bind] at h
   cases e2 : gs ds p.1 p.2 with
   | none => rw [e2] at h; exact h.elim
   | some q => rw [e2] at h; intro σ2 H2 β2 fL P2 L2 f2; exact h σ2 H2 β2 fL P2 L2 (f1.trans f2)
theorem zm {k : Nat} {n : Nat} (hc : X.calm = true) (h : su X jM gs) (hgs : ∀ ds ρ S, ds.length ≠ n → gs ds ρ S = none) (hn : (assignEach jM X.env).length = n := by rfl) (hst : (assignEach jM X.env).findIdx? (·.1) = none := by rfl) : oR X (.Tuple jM k pos) (m7 gs) :=
 uW (pg_tup hc h hn hst) fun v σ H Q h => by
  obtain ⟨cf, oa, P, β, ρ, S, d, L, r, h⟩ := h
  unfold m7 at h
  cases ev : gq d with
  | none => rw [ev] at h; exact h.elim
  | some ds =>
   rw [ev] at h
   obtain ⟨a, xs, rfl, q1, q2⟩ := r.gq ev
   refine ⟨a, xs, rfl, q1, ?_, cf, oa, P, β, ρ, S, ds, L, q2, h⟩
   by_cases hl : ds.length = n
   ·rw [q2.length]; exact hl
   ·simp only [Option.bind] at h
    rw [hgs ds ρ S hl] at h
    exact h.elim
theorem zp (he : PM (au X) W false X e ma) (hg : oR X tg g) (hs : swapsWithSole [tg] e pos.line X.env = pure false := by rfl) (hw : swappedStores [tg] e X.env = pure none := by rfl)
  (h1 : (assignEach [tg] X.env).map (·.2) = [assign tg X.env] := by rfl) : iQ (au X) W X (.Assign [tg] e pos) (jc ma g) := oA (ps_asg he hg hs hw h1) fun D σ H h => by
 obtain ⟨cf, oa, P, β, ρ, S, L, h⟩ := h
 refine ⟨cf, oa, P, β, ρ, S, L, ?_⟩
 unfold jc at h
 cases ea : ma ρ S with
 | stuck => rw [ea] at h; exact h
 | exc e S1 => rw [ea] at h; exact oN h
 | ok d S1 =>
  rw [ea] at h
  simp only [R.st] at h
  intro v H1 β1 t L1 r
  refine ⟨cf, oa, P, β1, ρ, S1, d, L1, r, ?_⟩
  cases eg : g d ρ S1 with
  | none => rw [eg] at h; exact h.elim
  | some p => rw [eg] at h; intro σ2 H2 β2 fL P2 L2 f2; exact h σ2 H2 β2 fL P2 L2 ((Fx.of t.ext).trans f2)
def m9 (C : Ct) (J : It) (ds : List D) (H : Hp) (P : Addr → Prop) (β : List Addr) : Prop :=
 ∀ (i : Nat) (H2 : Hp) (P2 : Addr → Prop) (β2 : List Addr), Fx H P β H2 P2 β2 → (∀ p, H2 p = none → ¬ P2 p ∧ p ∉ β2) →
  (∀ d, ds[i]? = some d → J.go i H2 ∧ ∀ x H3, J.yld i H2 x H3 → Same H2 H3 ∧ RV C H3 P2 β2 x d) ∧ (ds.length = i → J.stop i H2)
def IM (C : Ct) (W : WX) (b : Bool) (m : AX) : TI := fun σ H R => ∃ cf oa P β ρ S, LR C cf oa P σ H β ρ S ∧ (match m ρ S with
 | .ok ds S' => ∀ J H' β', Tr b H β S H' β' S' → LR C cf oa P σ H' β' ρ S' → m9 C J ds H' P β' → R J H'
 | .exc e S' => XP C W cf oa P σ b H β ρ S e S'
 | .stuck => False)
abbrev sG (C : Ct) (W : WX) (b : Bool) (X : Cx) (tg iter : Expr) (m : AX) : Prop := PI X tg iter (IM C W b m)
theorem zq {X : Cx} {tg iter : Expr} {t t' : TI} (h : PI X tg iter t) (i : ∀ σ H R, t' σ H R → t σ H R) : PI X tg iter t' := ⟨fun pins s σ H R I hw => h.run pins s σ H R I (i σ H R hw)⟩
variable {iter : Expr} {it : AX} {body : List Stmt}
theorem LR.new {C : Ct} {cf : Cf} {oa : Nat → Option Addr} {P : Addr → Prop} {σ : L2.St} {H : Hp} {β : List Addr} {ρ : aH} {S : Store} (L : LR C cf oa P σ H β ρ S) : ∀ p, H p = none → ¬ P p ∧ p ∉ β := fun _ h => ⟨L.ou h, L.rR h⟩
theorem zu (hp : PassesOwn (model X.prog X.w) X.A X.env X.xe) (hc : X.calm = true) (hi : sG (au X) W false X tg iter it) (hg : oR X tg g) (hb : jK (au X) W X body s1)
  (hs : ∀ x, foldedSetIterable iter X.env x = pure x := by intro _; rfl) : iQ (au X) W X (.For tg iter body [] pos) (oK it g s1) := oA (ps_for hp hc hi hg hb hs) fun D σ H h => by
 obtain ⟨cf, oa, P, β, ρ, S, L, h⟩ := h
 refine ⟨cf, oa, P, β, ρ, S, L, ?_⟩
 unfold oK at h
 cases ea : it ρ S with
 | stuck => rw [ea] at h; exact h
 | exc e S1 => rw [ea] at h; exact oN h
 | ok ds S1 =>
  rw [ea] at h
  intro J H1 β1 t L1 im
  have h1 : SQ (au X) W cf H1 P β1 D (forL g s1 ds ρ S1) := SQ.fx (Fx.of t.ext) h
  have im' : m9 (au X) J ds H1 P β1 := im
  refine ⟨fun i m σ2 H2 => m = ds.length - i ∧ i ≤ ds.length ∧ ∃ fL P2 β2 ρ2 S2, LR (au X) cf fL P2 σ2 H2 β2 ρ2 S2 ∧ Fx H1 P β1 H2 P2 β2 ∧ SQ (au X) W cf H2 P2 β2 D (forL g s1 (ds.drop i) ρ2 S2),
   ⟨ds.length, by simp, Nat.zero_le _, oa, P, β1, ρ, S1, L1, Fx.refl, h1⟩, ?_⟩
  rintro i m σ2 H2 ⟨rfl, hi, fL, P2, β2, ρ2, S2, L2, f2, q⟩
  obtain ⟨go, stop⟩ := im' i H2 P2 β2 f2 L2.new
  by_cases hl : i < ds.length
  ·right
   have hd : ds[i]? = some ds[i] := List.getElem?_eq_getElem hl
   obtain ⟨g1, g2⟩ := go _ hd
   rw [List.drop_eq_getElem_cons hl] at q
   simp only [forL] at q
   refine ⟨g1, fun σ' H' => ∃ Gi P3 β3 ρ3 S3, LR (au X) cf Gi P3 σ' H' β3 ρ3 S3 ∧ Fx H1 P β1 H' P3 β3 ∧ SQ (au X) W cf H' P3 β3 D (forL g s1 (ds.drop (i + 1)) ρ3 S3), fun σ' H' hN => ⟨ds.length - (i + 1), by omega, rfl, hl, hN⟩, fun x H3 y => ?_⟩
   obtain ⟨e3, r3⟩ := g2 x H3 y
   have L3 := L2.same e3
   have f3 : Fx H2 P2 β2 H3 P2 β2 := Fx.of (Ext.same e3)
   refine ⟨cf, fL, P2, β2, ρ2, S2, ds[i], L3, r3, ?_⟩
   cases eg : g ds[i] ρ2 S2 with
   | none => rw [eg] at q; exact q.elim
   | some p =>
    rw [eg] at q
    intro σ4 H4 β4 Gj P4 L4 f4
    refine ⟨cf, Gj, P4, β4, p.1, p.2, L4, ?_⟩
    have mj := f3.trans f4
    simp only at q
    cases es : s1 p.1 p.2 with
    | nx ρ5 S5 => rw [es] at q; intro σ5 H5 β5 uX P5 L5 f5; exact ⟨uX, P5, β5, ρ5, S5, L5, f2.trans (mj.trans f5), SQ.fx (mj.trans f5) q⟩
    | ct ρ5 S5 => rw [es] at q; intro σ5 H5 β5 uX P5 L5 f5; exact ⟨uX, P5, β5, ρ5, S5, L5, f2.trans (mj.trans f5), SQ.fx (mj.trans f5) q⟩
    | bk ρ5 S5 => rw [es] at q; exact SQ.fx (r := .nx ρ5 S5) mj q
    | rt d S5 => rw [es] at q; exact SQ.fx (r := .rt d S5) mj q
    | exc e ρ5 S5 => rw [es] at q; exact SQ.fx (r := .exc e ρ5 S5) mj q
    | stuck => rw [es] at q; exact q
  ·left
   have e : i = ds.length := by omega
   subst e
   rw [List.drop_length] at q
   exact ⟨stop rfl, q σ2 H2 β2 fL P2 L2 Fx.refl⟩
end
def qw (x : Str) : List D := x.cps.toList.map fun c => .str ⟨#[c]⟩
def kD : Key → D
 | .inl i => .int i
 | .inr x => .str x
theorem Gk {C : Ct} {H : Hp} {P : Addr → Prop} {β : List Addr} : ∀ k : Key, RV C H P β (kV k) (kD k)
 | .inl i => .int i
 | .inr x => .str x
/-- what a loop over a value sees -/
def itemsOf (d : D) : Option (List D) := match d with
 | .lst xs => some xs
 | .tup xs => some xs
 | .str x => some (qw x)
 | .dct kvs => some (kvs.map fun p => kD p.1)
 | _ => none
def oU (a : EX) : AX := fun ρ S => (a ρ S).bind fun x S1 => R.opt (itemsOf x) S1
def jw (lo : Int) (n : Nat) : List D := (List.range n).map fun i => .int (lo + (i : Nat))
section
variable {X : Cx} {W : WX} {b : Bool} {tg e : Expr} {ma : EX}
theorem Gm {te : TE} (he : PE X e te) : PI X tg e (fun σ H R => te σ H fun x H1 =>
  (∃ a, x = .ref a ∧ (∃ xs, SqL X.K H1 a xs) ∧ R (Itl X.K a) H1) ∨ (∃ a, x = .ref a ∧ (∃ xs, SqT X.K H1 a xs) ∧ R (Itt X.K a) H1) ∨ ∃ z, x = .str z ∧ R (Its z) H1) := by
 refine ⟨fun pins s σ H R I h => ?_⟩
 refine thn (he.run pins s σ H _ I h) fun v s1 ⟨x, H1, I1, r1, q1⟩ => ?_
 rcases q1 with ⟨a, e, ⟨xs, hq⟩, q⟩ | ⟨a, e, ⟨xs, hq⟩, q⟩ | ⟨z, e, q⟩
 ·subst e
  cases r1
  obtain ⟨its, rv, p, hz⟩ := I1.list hq
  refine wpAny_pyIter_list p.isList ?_
  refine ⟨s1.heap.objs.size, [s1.heap.objs.size], _, _, H1, rfl, I1.kept (t' := s1.toks) fun b o e => Heap.get?_push_of_some _ e, turn_list a _, ⟨_, Heap.get?_push_size _ rfl, rfl, rfl⟩, fun b hb => ?_, q⟩
  have e : b = s1.heap.objs.size := by simpa using hb
  subst e
  exact I1.fpOk (Nat.le_refl _) (I1.hok.fresh (Nat.le_refl _))
 ·subst e
  cases r1
  obtain ⟨its, rv, p, hz⟩ := I1.tuple hq
  refine wpAny_pyIter_tuple (show s1.heap.IsTuple a its.toArray from p) ?_
  refine ⟨s1.heap.objs.size, [s1.heap.objs.size], _, _, H1, rfl, I1.kept (t' := s1.toks) fun b o e => Heap.get?_push_of_some _ e, turn_tuple a _, ⟨_, Heap.get?_push_size _ rfl, rfl, rfl⟩, fun b hb => ?_, q⟩
  have e : b = s1.heap.objs.size := by simpa using hb
  subst e
  exact I1.fpOk (Nat.le_refl _) (I1.hok.fresh (Nat.le_refl _))
 ·subst e
  obtain ⟨t, rfl⟩ := r1
  cases ha : z.cps.all (· < 128)
  ·exact wpAny_pyIter_wide ha (pi_one (tk := s1.toks) I1 _ (turn_str _ z t "str_iterator" (.inr rfl)) ⟨_, Heap.get?_push_size _ rfl, rfl, rfl⟩ q)
  ·exact wpAny_pyIter_ascii ha (pi_one (tk := s1.toks) I1 _ (turn_str _ z t "str_ascii_iterator" (.inl rfl)) ⟨_, Heap.get?_push_size _ rfl, rfl, rfl⟩ q)
/-- a list, a tuple cX stands still -/
theorem zA {C : Ct} {H : Hp} {P : Addr → Prop} {β : List Addr} {a : Addr} {xs : List V} {ds : List D} (hs : ∀ H2 P2 β2, Fx H P β H2 P2 β2 → SqL C.K H2 a xs) (rs : aC C H P β xs ds) : m9 C (Itl C.K a) ds H P β := by
 intro i H2 P2 β2 f n
 have q := hs H2 P2 β2 f
 have r2 := rs.fx f
 refine ⟨fun d hd => ?_, fun hl => ⟨xs, q, by rw [r2.length]; exact Nat.le_of_eq hl⟩⟩
 obtain ⟨v, hv, rv⟩ := r2.get hd
 refine ⟨⟨xs, v, q, hv⟩, fun x H3 y => ?_⟩
 obtain ⟨e, y⟩ := y
 subst e
 refine ⟨Same.refl _, ?_⟩
 have := y xs q
 rw [hv] at this
 cases this
 exact rv
theorem zB {C : Ct} {H : Hp} {P : Addr → Prop} {β : List Addr} {a : Addr} {xs : List V} {ds : List D} (hs : ∀ H2 P2 β2, Fx H P β H2 P2 β2 → SqT C.K H2 a xs) (rs : aC C H P β xs ds) : m9 C (Itt C.K a) ds H P β := by
 intro i H2 P2 β2 f n
 have q := hs H2 P2 β2 f
 have r2 := rs.fx f
 refine ⟨fun d hd => ?_, fun hl => ⟨xs, q, by rw [r2.length]; exact Nat.le_of_eq hl⟩⟩
 obtain ⟨v, hv, rv⟩ := r2.get hd
 refine ⟨⟨xs, v, q, hv⟩, fun x H3 y => ?_⟩
 obtain ⟨e, y⟩ := y
 subst e
 refine ⟨Same.refl _, ?_⟩
 have := y xs q
 rw [hv] at this
 cases this
 exact rv
theorem zE {C : Ct} {H : Hp} {P : Addr → Prop} {β : List Addr} : ∀ {xs : List (Key × V)} {ds : List (Key × D)} {i : Nat} {k : Key} {d : D}, aG C H P β xs ds → ds[i]? = some (k, d) → ∃ v, xs[i]? = some (k, v) ∧ RV C H P β v d
 | _, _, 0, _, _, .cons h _, e => by cases e; exact ⟨_, rfl, h⟩
 | _, _, i + 1, k, d, .cons (ds := ds) _ t, e => by
  have e' : ds[i]? = some (k, d) := by simpa using e
  obtain ⟨v, h1, h2⟩ := zE t e'
  exact ⟨v, by simpa using h1, h2⟩
 | _, _, _, _, _, .nil, e => by cases e
theorem zF {C : Ct} {H : Hp} {P : Addr → Prop} {β : List Addr} : ∀ {xs : List (Key × V)} {ds : List (Key × D)}, aG C H P β xs ds → xs.length = ds.length
 | _, _, .nil => rfl
 | _, _, .cons _ t => by simp [zF t]
/-- a a2c keys -/
theorem Gp {C : Ct} {H : Hp} {P : Addr → Prop} {β : List Addr} {a : Addr} {o : Obj} {xs : List (Key × V)} {ds : List (Key × D)} (hp : ¬ P a) (hb : a ∉ β) (e : H a = some (.frz o (.dK xs))) (rs : aG C H P β xs ds) : m9 C (Itk a o xs) (ds.map fun p => kD p.1) H P β := by
 intro i H2 P2 β2 f n
 have q := f.fz _ _ _ e
 refine ⟨fun d hd => ?_, fun hl => ⟨q, by rw [zF rs]; rw [List.length_map] at hl; exact Nat.le_of_eq hl⟩⟩
 rw [List.getElem?_map] at hd
 cases ed : ds[i]? with
 | none => rw [ed] at hd; cases hd
 | some p =>
  obtain ⟨k, d'⟩ := p
  rw [ed] at hd
  cases hd
  obtain ⟨v, hv, _⟩ := zE rs ed
  refine ⟨⟨q, (List.getElem?_eq_some_iff.mp hv).1⟩, fun x H3 y => ?_⟩
  obtain ⟨rfl, k', v', hk, rfl⟩ := y
  rw [hv] at hk
  cases hk
  exact ⟨Same.refl _, Gk _⟩
theorem Gr {X : Cx} {tg e : Expr} {w1 w2 : TI} (a : PI X tg e w1) (b : PI X tg e w2) : PI X tg e (fun σ H R => w1 σ H R ∨ w2 σ H R) := ⟨fun pins s σ H R I h => h.elim (a.run pins s σ H R I) (b.run pins s σ H R I)⟩
theorem Gu {C : Ct} {H : Hp} {P : Addr → Prop} {β : List Addr} {z : Str} : m9 C (Its z) (qw z) H P β := by
 intro i H2 P2 β2 f n
 refine ⟨fun d hd => ?_, fun hl => ?_⟩
 ·unfold qw at hd
  rw [List.getElem?_map] at hd
  have hi : i < z.cps.toList.length := by
   cases e : z.cps.toList[i]? with
   | none => rw [e] at hd; cases hd
   | some c => exact (List.getElem?_eq_some_iff.mp e).1
  refine ⟨show i < z.cps.size by simpa using hi, fun x H3 y => ?_⟩
  obtain ⟨e, c, hc, ex⟩ := y
  subst e ex
  refine ⟨Same.refl _, ?_⟩
  rw [Array.getElem?_toList, hc] at hd
  cases hd
  exact .str _
 ·show z.cps.size ≤ i
  unfold qw at hl
  have := Nat.le_of_eq hl; simpa using this
theorem Gv {C : Ct} {H : Hp} {P : Addr → Prop} {β : List Addr} {lo : Int} {n : Nat} : m9 C (Itr lo n) (jw lo n) H P β := by
 intro i H2 P2 β2 f _
 refine ⟨fun d hd => ?_, fun hl => ?_⟩
 ·unfold jw at hd
  have hi : i < n := by
   by_cases h : i < n
   ·exact h
   ·rw [List.getElem?_eq_none (by simp; omega)] at hd; cases hd
  refine ⟨hi, fun x H3 y => ?_⟩
  obtain ⟨e, ex⟩ := y
  subst e ex
  refine ⟨Same.refl _, ?_⟩
  rw [List.getElem?_map, List.getElem?_range hi] at hd
  cases hd
  exact .int _
 ·show n ≤ i
  have := Nat.le_of_eq hl; simpa [jw] using this
theorem zG (he : PM (au X) W b X e ma) : sG (au X) W b X tg e (oU ma) := zq (Gr (Gm he) (pi_keys he)) fun σ H R h => by
 obtain ⟨cf, oa, P, β, ρ, S, L, h⟩ := h
 unfold oU at h
 cases ea : ma ρ S with
 | stuck => rw [ea] at h; exact h.elim
 | exc e S1 => rw [ea] at h; exact .inl ⟨cf, oa, P, β, ρ, S, L, by rw [ea]; exact h⟩
 | ok d S1 =>
  rw [ea] at h
  by_cases hd : ∃ ks, d = .dct ks
  ·obtain ⟨ks, rfl⟩ := hd
   refine .inr ⟨cf, oa, P, β, ρ, S, L, ?_⟩
   rw [ea]
   intro v H1 β1 t L1 r
   cases r with
   | dct hp hb hr hs =>
    obtain ⟨o, q⟩ := hr
    exact ⟨_, o, rfl, .inl ⟨_, q, h _ H1 β1 t L1 (Gp hp hb q hs)⟩⟩
  refine .inl ⟨cf, oa, P, β, ρ, S, L, ?_⟩
  rw [ea]
  intro v H1 β1 t L1 r
  cases r with
  | lst hp hb hr hs =>
   refine .inl ⟨_, rfl, ⟨_, .inl hr⟩, h _ H1 β1 t L1 ?_⟩
   exact zA (fun H2 P2 β2 f => .inl (f.con _ _ hp hb hr).1) hs
  | tup hr hs =>
   refine .inr (.inl ⟨_, rfl, ⟨_, .inl hr⟩, h _ H1 β1 t L1 ?_⟩)
   exact zB (fun H2 P2 β2 f => .inl (f.tups _ _ hr)) hs
  | eU k hs =>
   refine .inr (.inl ⟨_, rfl, ⟨_, .inr k⟩, h _ H1 β1 t L1 ?_⟩)
   exact zB (fun H2 P2 β2 f => .inr k) hs
  | dJ k hs =>
   refine .inl ⟨_, rfl, ⟨_, .inr k⟩, h _ H1 β1 t L1 ?_⟩
   exact zA (fun H2 P2 β2 f => .inr k) hs
  | str z => exact .inr (.inr ⟨z, rfl, h _ H1 β1 t L1 Gu⟩)
  | dct _ _ _ _ => exact (hd ⟨_, rfl⟩).elim
  | _ => exact h.elim
end
def dN (ρ : aH) : List Nat → aH
 | [] => ρ
 | v :: vs => (dN ρ vs).set v .un
def fW (vs : List Nat) (g : GX) (t : BX) (e : EX) (ρ : aH) : List D → List D → Store → R (List D)
 | [], acc, S => .ok acc S
 | d :: ds, acc, S => match g d ρ S with
  | none => .stuck
  | some p => match t p.1 p.2 with
   | .ok true S2 => match e p.1 S2 with
    | .ok y S3 => if acc.length < sizeLine then fW vs g t e ρ ds (acc ++ [y]) S3 else .stuck
    | _ => .stuck
   | .ok false S2 => fW vs g t e ρ ds acc S2
   | _ => .stuck
/-- [e for .. in it if t]; vs: the slots of the uY own names -/
def jN (it : AX) (vs : List Nat) (g : GX) (t : BX) (e : EX) : EX := fun ρ S => (it ρ S).bind fun ds S1 => (fW vs g t e (dN ρ vs) ds [] S1).bind fun ys S2 => .ok (.lst ys) S2
def qC : BX := fun _ S => .ok true S
section
variable {C : Ct} {cf : Cf} {oa : Nat → Option Addr} {P : Addr → Prop} {σ : L2.St} {H H' : Hp} {β β' : List Addr} {ρ : aH} {S S' : Store}
/-- a container cX no slot has and cX is kept apart is changed -/
theorem LR.uZ {p : Addr} {o : HO} (L : LR C cf oa P σ H β ρ S) (hp : P p) (h0 : cf.H0 p = none) (hn : ∀ i, oa i ≠ some p) (ht : ∀ xs, ¬ Rd H p (.tup xs)) (hf : ∀ o u, H p ≠ some (.frz o u)) : LR C cf oa P σ (upd H p o) β ρ S where
 len := L.len
 p := fun a h => by
  refine ⟨?_, (L.p a h).2⟩
  by_cases e : a = p
  ·rw [e, upd_same]; exact Option.some_ne_none _
  ·rw [upd_ne e]; exact (L.p a h).1
 sub := L.sub
 p0 := L.p0
 ext := ⟨L.ext.pre, fun a u h1 h2 => by
   have ne : a ≠ p := fun e => by rw [e, h0] at h1; cases h1
   rw [upd_ne ne]; exact L.ext.keep a u h1 h2, L.ext.fresh, fun a xs h => by
   have r := L.ext.tups a xs h
   have ne : a ≠ p := fun e => ht xs (e ▸ r)
   unfold Rd; rw [upd_ne ne]; exact r, fun a h => by
   by_cases e : a = p
   ·rw [e, upd_same]; exact Option.some_ne_none _
   ·rw [upd_ne e]; exact L.ext.stay a h, fun a o u h => by rw [upd_ne (fun z => by rw [z, h0] at h; cases h)]; exact L.ext.cY a o u h⟩
 own := L.own
 inj := L.inj
 st := L.st.own hp (L.p p hp).2 ht
 slot := fun i d h => let ⟨v, q1, q2⟩ := L.slot i d h; ⟨v, q1, q2.set (.inl hp) ht⟩
 dM := fun i d h => let ⟨a, q1, q2, q3⟩ := L.dM i d h; ⟨a, q1, q2, q3.set (.inl hp) ht fun e => hn i (e ▸ q1)⟩
 xslot := fun i x h => let ⟨a, h1, h2⟩ := L.xslot i x h; ⟨a, h1, h2.set hp ht⟩
theorem Tr.uZ {b : Bool} {p : Addr} {o : HO} (t : Tr b H β S H' β' S') (hp : H p = none) (ht : ∀ xs, ¬ Rd H' p (.tup xs)) (hf : ∀ o u, H' p ≠ some (.frz o u)) : Tr b H β S (upd H' p o) β' S' where
 ext := ⟨t.ext.pre, fun a u h1 h2 => by rw [upd_ne (ne_of_none h1 hp)]; exact t.ext.keep a u h1 h2, t.ext.fresh, fun a xs h => by
   have r := t.ext.tups a xs h
   have ne : a ≠ p := fun e => ht xs (e ▸ r)
   unfold Rd; rw [upd_ne ne]; exact r, fun a h => by
   by_cases e : a = p
   ·rw [e, upd_same]; exact Option.some_ne_none _
   ·rw [upd_ne e]; exact t.ext.stay a h, fun a o u h => by rw [upd_ne (fun z => by rw [z, hp] at h; cases h)]; exact t.ext.cY a o u h⟩
 ro := fun e => let ⟨q1, q2, q3⟩ := t.ro e; ⟨fun a u h => by rw [upd_ne (ne_of_none h hp)]; exact q1 a u h, q2, q3⟩
theorem oV (ρ : aH) : ∀ vs : List Nat, (dN ρ vs).length = ρ.length
 | [] => rfl
 | v :: vs => by unfold dN; rw [List.length_set, oV ρ vs]
theorem sH {ρ : aH} {i : Nat} : ∀ {vs : List Nat}, i ∈ vs → i < ρ.length → (dN ρ vs)[i]? = some .un
 | [], h, _ => nomatch h
 | v :: vs, h, hl => by
  unfold dN
  by_cases e : v = i
  ·subst e; rw [List.getElem?_set_self (by rw [oV]; exact hl)]
  ·rw [List.getElem?_set_ne e]
   exact sH ((List.mem_cons.mp h).resolve_left fun z => e z.symm) hl
theorem sJ {ρ : aH} {i : Nat} : ∀ {vs : List Nat}, i ∉ vs → (dN ρ vs)[i]? = ρ[i]?
 | [], _ => rfl
 | v :: vs, h => by
  unfold dN
  rw [List.getElem?_set_ne fun e => h (by rw [e]; exact List.mem_cons_self)]
  exact sJ fun m => h (List.mem_cons_of_mem _ m)
/-- the uY own names Fd -/
theorem LR.wipe (L : LR C cf oa P σ H β ρ S) (vs : List Nat) : LR C cf oa P (L2.wipe σ vs) H β (dN ρ vs) S where
 len := by rw [wipe_length, oV]; exact L.len
 p := L.p
 sub := L.sub
 p0 := L.p0
 ext := L.ext
 own := L.own
 inj := L.inj
 st := L.st
 slot := fun i d h => by
  by_cases m : i ∈ vs
  ·by_cases hl : i < ρ.length
   ·rw [sH m hl] at h; cases h
   ·rw [List.getElem?_eq_none (by rw [oV]; omega)] at h; cases h
  ·rw [sJ m] at h
   obtain ⟨v, q1, q2⟩ := L.slot i d h
   exact ⟨v, by rw [L2.wipe_out m]; exact q1, q2⟩
 dM := fun i d h => by
  by_cases m : i ∈ vs
  ·by_cases hl : i < ρ.length
   ·rw [sH m hl] at h; cases h
   ·rw [List.getElem?_eq_none (by rw [oV]; omega)] at h; cases h
  ·rw [sJ m] at h
   obtain ⟨a, q0, q1, q2⟩ := L.dM i d h
   exact ⟨a, q0, by rw [L2.wipe_out m]; exact q1, q2⟩
 xslot := fun i d h => by
  by_cases m : i ∈ vs
  ·by_cases hl : i < ρ.length
   ·rw [sH m hl] at h; cases h
   ·rw [List.getElem?_eq_none (by rw [oV]; omega)] at h; cases h
  ·rw [sJ m] at h
   obtain ⟨a, q1, q2⟩ := L.xslot i d h
   exact ⟨a, by rw [L2.wipe_out m]; exact q1, q2⟩
/-- the uY target: it stores to the uY own slots alone, and nothing else changes -/
def BG (X : Cx) (vs : List Nat) (g : GX) (t : TG) : Prop :=
 ∀ (cf : Cf) (oa : Nat → Option Addr) (P : Addr → Prop) (σ : L2.St) (H : Hp) (β : List Addr) (ρ : aH) (S : Store) (v : V) (d : D) (p : aH × Store) (Q : L2.St → Hp → Prop), LR (au X) cf oa P (L2.wipe σ vs) H β (dN ρ vs) S → RV (au X) H P β v d → g d (dN ρ vs) S = some p →
  (∀ σ', L2.wipe σ' vs = L2.wipe σ vs → LR (au X) cf oa P σ' H β p.1 p.2 → p.2 = S → Q σ' H) → t v (L2.wipe σ vs) H Q
end
section
variable {X : Cx} {W : WX} {b : Bool} {e : Expr} {ma : EX} {it : AX}
theorem v5 {σ : L2.St} {i : Nat} {x : Option V} : ∀ {vs : List Nat}, i ∈ vs → L2.wipe (σ.set i x) vs = L2.wipe σ vs
 | [], h => nomatch h
 | v :: vs, h => by
  unfold L2.wipe
  by_cases m : i ∈ vs
  ·rw [v5 m]
  ·have e : i = v := (List.mem_cons.mp h).resolve_right m
   subst e
   have q : ∀ {ws : List Nat}, i ∉ ws → L2.wipe (σ.set i x) ws = (L2.wipe σ ws).set i x := by
    intro ws
    induction ws with
    | nil => intro _; rfl
    | cons w ws ih =>
     intro hn
     unfold L2.wipe
     rw [ih fun z => hn (List.mem_cons_of_mem _ z), List.set_comm]
     exact fun z => hn (by rw [z]; exact List.mem_cons_self)
   rw [q m, List.set_set]
theorem zH {σ : L2.St} : ∀ {vs ws : List Nat}, (∀ v ∈ vs, v ∈ ws) → L2.wipe (L2.wipe σ vs) ws = L2.wipe σ ws
 | [], _, _ => rfl
 | v :: vs, ws, h => by
  have e : L2.wipe σ (v :: vs) = (L2.wipe σ vs).set v none := rfl
  rw [e, v5 (h v List.mem_cons_self)]
  exact zH fun u hu => h u (List.mem_cons_of_mem _ hu)
theorem Gx {i : Nat} : BG X [i] (gR i) (gName i) := by
 intro cf oa P σ H β ρ S v d p Q L r e k
 cases e
 refine k _ ?_ ?_ rfl
 ·rw [v5 (List.mem_singleton.mpr rfl), zH fun _ h => h]
 ·have L2 := L.set (i := i) r
  have hn : dN ρ [i] = ρ.set i .un := rfl
  refine ⟨L2.len, L2.p, L2.sub, L2.p0, L2.ext, L.own, L.inj, L2.st, L2.slot, fun j x h => ?_, L2.xslot⟩
  obtain ⟨a, q0, q1, q2⟩ := L2.dM j x h
  refine ⟨a, ?_, q1, q2⟩
  by_cases ej : j = i
  ·rw [if_pos ej] at q0; cases q0
  ·rw [if_neg ej] at q0; exact q0
theorem Gy {wi : TI} {g : GX} {gt : TG} {t : BX} {tt : TT} {te : TE} {vs : List Nat} {σ : L2.St} {H : Hp} {Q : VK}
  (hi : ∀ σ H R, IM (au X) W b it σ H R → wi σ H R) (hg : BG X vs g gt) (ht : ∀ σ H Q, BM (au X) (fun _ _ _ _ => False) b t σ H Q → tt σ H Q) (he : ∀ σ H Q, EM (au X) (fun _ _ _ _ => False) b ma σ H Q → te σ H Q)
  (h : EO (au X) W b (jN it vs g t ma) σ H Q) : tLc wi gt tt te vs σ H Q := by
 obtain ⟨cf, oa, P, β, ρ, S, L, h⟩ := h
 refine hi _ _ _ ⟨cf, oa, P, β, ρ, S, L, ?_⟩
 unfold jN at h
 cases ea : it ρ S with
 | stuck => rw [ea] at h; exact h
 | exc e S1 => rw [ea] at h; exact h
 | ok ds S1 =>
  rw [ea] at h
  simp only [R.bind] at h
  intro J H1 β1 t1 L1 im D hD
  have zJ : Same H1 (upd H1 D (.lst [])) := jt hD
  -- what a turn a2d
  refine ⟨fun i m H2 => m = ds.length - i ∧ i ≤ ds.length ∧ ∃ β2 S2 acc xs, LR (au X) cf oa (fun a => P a ∨ a = D) σ H2 β2 ρ S2 ∧ Tr b H1 β1 S1 H2 β2 S2 ∧ H2 D = some (.lst xs) ∧ aC (au X) H2 (fun a => P a ∨ a = D) β2 xs acc ∧
    fW vs g t ma (dN ρ vs) ds [] S1 = fW vs g t ma (dN ρ vs) (ds.drop i) acc S2,
   ⟨ds.length, by simp, Nat.zero_le _, β1, S1, [], [], L1.uN zJ hD (by rw [upd_same]; exact Option.some_ne_none _), Tr.same zJ, upd_same, .nil, by rw [List.drop_zero]⟩, ?_⟩
  rintro i m H2 ⟨rfl, hil, β2, S2, acc, xs, L2, t2, hx, rs, eq⟩
  have h0 : cf.H0 D = none := by
   cases z : cf.H0 D with
   | none => rfl
   | some u => exact absurd hD (L1.ext.stay D (by rw [z]; exact Option.some_ne_none _))
  have no : ∀ j, oa j ≠ some D := fun j z => (L1.p D (L1.own j D z).1).1 hD
  obtain ⟨go, stop⟩ := im i H2 (fun a => P a ∨ a = D) β2 (Fx.more t2.ext hD) L2.new
  by_cases hl : i < ds.length
  ·right
   have hd : ds[i]? = some ds[i] := List.getElem?_eq_getElem hl
   obtain ⟨g1, g2⟩ := go _ hd
   rw [List.drop_eq_getElem_cons hl] at eq
   simp only [fW] at eq
   refine ⟨g1, fun H' => ∃ β2 S2 acc xs, LR (au X) cf oa (fun a => P a ∨ a = D) σ H' β2 ρ S2 ∧ Tr b H1 β1 S1 H' β2 S2 ∧ H' D = some (.lst xs) ∧ aC (au X) H' (fun a => P a ∨ a = D) β2 xs acc ∧
    fW vs g t ma (dN ρ vs) ds [] S1 = fW vs g t ma (dN ρ vs) (ds.drop (i + 1)) acc S2, fun H' hN => ⟨ds.length - (i + 1), by omega, rfl, hl, hN⟩, fun x H3 y => ?_⟩
   obtain ⟨e3, r3⟩ := g2 x H3 y
   have L3 := L2.same e3
   cases eg : g ds[i] (dN ρ vs) S2 with
   | none => rw [eg] at eq; rw [eq] at h; exact h.elim
   | some p =>
    rw [eg] at eq
    simp only at eq
    refine hg cf oa _ σ H3 β2 ρ S2 x ds[i] p _ (L3.wipe vs) r3 eg fun σ4 hw L4 hS => ⟨hw, ?_⟩
    -- back to the uI own slots
    have back : ∀ {H5 : Hp} {β5 : List Addr} {S5 : Store}, Tr b H3 β2 S2 H5 β5 S5 → aK (au X) H5 (fun a => P a ∨ a = D) β5 S5 → LR (au X) cf oa (fun a => P a ∨ a = D) σ H5 β5 ρ S5 := fun t5 s5 => L3.step t5.ext s5
    refine ht _ _ _ ⟨cf, oa, _, β2, p.1, p.2, L4, ?_⟩
    cases et : t p.1 p.2 with
    | stuck => rw [et] at eq; rw [eq] at h; exact h.elim
    | exc e S5 => rw [et] at eq; rw [eq] at h; exact h.elim
    | ok k S5 =>
     rw [et] at eq
     intro H5 β5 t5 L5
     rw [hS] at t5
     have nD : ∀ {H6 : Hp}, H6 D = some (.lst xs) → ∀ ys, ¬ Rd H6 D (.tup ys) := fun {H6} q ys r => by
      rcases r with r | ⟨o, r⟩ <;> (rw [q] at r; cases r)
     have zK : H5 D = some (.lst xs) := t5.ext.keep _ _ (e3 _ _ hx) (L3.p D (.inr rfl)).2
     cases k with
     | false =>
      rw [if_neg Bool.false_ne_true]
      exact ⟨β5, S5, acc, xs, back t5 L5.st, t2.trans ((Tr.same e3).trans t5), zK, (rs.mono (Ext.same e3)).mono t5.ext, eq⟩
     | true =>
      rw [if_pos rfl]
      simp only at eq
      refine he _ _ _ ⟨cf, oa, _, β5, p.1, S5, L5, ?_⟩
      cases ee : ma p.1 S5 with
      | stuck => rw [ee] at eq; rw [eq] at h; exact h.elim
      | exc e S6 => rw [ee] at eq; rw [eq] at h; exact h.elim
      | ok d S6 =>
       rw [ee] at eq
       intro v H6 β6 t6 L6 r6
       have oW : H6 D = some (.lst xs) := t6.ext.keep _ _ zK (L5.p D (.inr rfl)).2
       have len : xs.length = acc.length := rs.length
       by_cases hz : acc.length < sizeLine
       ·simp only [if_pos hz] at eq
        have v7 := t5.trans t6
        have L7 := back v7 L6.st
        have Gz := ((rs.mono (Ext.same e3)).mono v7.ext)
        refine ⟨xs, oW, by rw [len]; exact hz, β6, S6, acc ++ [d], xs ++ [v], L7.uZ (.inr rfl) h0 no (nD oW) (fun o u z => by rw [oW] at z; cases z), (t2.trans ((Tr.same e3).trans v7)).uZ hD (nD oW) (fun o u z => by rw [oW] at z; cases z), upd_same, ?_, eq⟩
        exact (Gz.append (.cons r6 .nil)).set (.inl (.inr rfl)) (nD oW)
       ·simp only [if_neg hz] at eq
        rw [eq] at h; exact h.elim
  ·left
   have e : i = ds.length := by omega
   subst e
   rw [List.drop_length] at eq
   simp only [fW] at eq
   rw [eq] at h
   exact ⟨stop rfl, h D H2 β2 (t1.trans t2) (yP t1.ext hD) L2 ⟨xs, hx, rs⟩⟩
end
section
variable {X : Cx} {W : WX} {b : Bool} {e elt tg iter : Expr} {ifs : List Expr} {ma m : EX} {it : AX} {pos : Pos} {g : GX} {kt : BX}
theorem GA {it : AX} {vs : List Nat} {g : GX} {t : BX} {e : EX} (ρ : aH) (S : Store) (d : D) (S' : Store) (h : jN it vs g t e ρ S = .ok d S') : qm d := by
 unfold jN at h
 cases ei : it ρ S with
 | ok ds S1 =>
  rw [ei] at h
  simp only [R.bind] at h
  cases ec : fW vs g t e (dN ρ vs) ds [] S1 with
  | ok ys S2 => rw [ec] at h; cases h; exact ⟨_, rfl⟩
  | exc _ _ => rw [ec] at h; cases h
  | stuck => rw [ec] at h; cases h
 | exc _ _ => rw [ei] at h; cases h
 | stuck => rw [ei] at h; cases h
theorem GB {C : Ct} {σ : L2.St} {H : Hp} {Q : VK} (hl : ∀ ρ S d S', ma ρ S = .ok d S' → qm d) (h : EM C W b ma σ H Q) : EO C W b ma σ H Q := by
 obtain ⟨cf, oa, P, β, ρ, S, L, h⟩ := h
 refine ⟨cf, oa, P, β, ρ, S, L, ?_⟩
 cases ea : ma ρ S with
 | stuck => rw [ea] at h; exact h
 | exc e S1 => rw [ea] at h; exact h
 | ok d S1 =>
  rw [ea] at h
  intro p H1 β1 e1 hn L1 o
  exact h (.ref p) H1 β1 e1 (L1.forget L.sub fun i a h => (L.own i a h).1) (uM o (L.ou hn) (L1.p p (.inr rfl)).2 (hl _ _ _ _ ea))
abbrev GD (C : Ct) (W : WX) (b : Bool) (X : Cx) (ifs : List Expr) (k : BX) : Prop := PTs X ifs (BM C W b k)
theorem GF {t t' : TT} (h : PTs X ifs t) (i : ∀ σ H Q, t' σ H Q → t σ H Q) : PTs X ifs t' := ⟨fun pins s σ H Q I hw => h.run pins s σ H Q I (i σ H Q hw)⟩
abbrev W0 : WX := fun _ _ _ _ => False
/-- the parts of a a2e block -/
structure Blk (X : Cx) (b : Bool) (scope : Scope) (tg : Expr) (ifs : List Expr) (elt : Expr) (vs : List Nat) (g : GX) (gt : TG) (kt : BX) (m : EX) : Prop where
 hg : ∀ (s : Shared) (H : Hp) (C : Addr) (cl : List (Str × Addr)) (fp : List Addr), PG (X.blk s H scope (compEnvC scope cl C X.env) fp) tg gt
 bg : BG X vs g gt
 ht : ∀ (s : Shared) (H : Hp) (C : Addr) (cl : List (Str × Addr)) (fp : List Addr), GD (au X) W0 b (X.blk s H scope (compEnvC scope cl C X.env) fp) ifs kt
 he : ∀ (s : Shared) (H : Hp) (C : Addr) (cl : List (Str × Addr)) (fp : List Addr), PM (au X) W0 b (X.blk s H scope (compEnvC scope cl C X.env) fp) elt m
theorem GH {i : Nat} {y : Str} {py spos : Pos} {scope : Scope} {own : List (Str × Nat)} {gt : TG} (hc : X.calm = true) (hN : X.N.Nodup) (hy : X.N[i]? = some y) (hyl : X.env.scope.names.lookup y = some .local)
  (hsw : swapsWith (.ListComp elt [⟨tg, iter, ifs, 0⟩] scope pos) (some (.Name y py)) spos.line X.env = pure true) (hi : sG (au X) W false X tg iter it) (ok : BlkOk X.N X.env.scope scope own) (B : Blk X false scope tg ifs elt (own.map (·.2)) g gt kt m)
  (hs : ∀ x, foldedSetIterable iter X.env x = pure x := by intro _; rfl) : iQ (au X) W X (.Assign [.Name y py] (.ListComp elt [⟨tg, iter, ifs, 0⟩] scope pos) spos) (bR i (jN it (own.map (·.2)) g kt m)) :=
 fV (ps_setLc hc hN hy hyl hsw hi ok B.hg B.ht B.he hs) fun σ H Q h => Gy (fun _ _ _ h => h) B.bg (fun _ _ _ h => h) (fun _ _ _ h => h) (GB GA h)
theorem GJ {C : Ct} {σ : L2.St} {H : Hp} {Q : Bool → Hp → Prop} (h : BM C W b qC σ H Q) : Q true H := by
 obtain ⟨cf, oa, P, β, ρ, S, L, h⟩ := h
 exact h H β Tr.refl L
end
def fu (C : Ct) (n : Nat) (f : FX) : Sp := fun vs H Q E => vs.length = n ∧ ∃ P β ds S, aK C H P β S ∧ (∀ a, P a → H a ≠ none ∧ a ∉ β) ∧ aC C H P β vs ds ∧ (match f ds S with
 | .ok d S' => ∀ v H' β', Ext H β H' β' → aK C H' P β' S' → RV C H' P β' v d → Q v H'
 | .exc e S' => ∀ cls x H' β', Ext H β H' β' → aK C H' P β' S' → lX C H' P β' cls x e → E cls x H'
 | .stuck => False)
theorem bK.ct {C C' : Ct} (k : C'.K = C.K) (m : C'.mg = C.mg) {H : Hp} {P : Addr → Prop} {β : List Addr} {a : Addr} {so : SO} (h : bK C H P β a so) : bK C' H P β a so := by
 cases so with
 | lst ds => obtain ⟨xs, q, r⟩ := h; exact ⟨xs, q, r.ct k m⟩
 | dct ds => obtain ⟨xs, q, r⟩ := h; exact ⟨xs, q, r.ct k m⟩
 | ins c fs => obtain ⟨Ca, dx, vs, h1, q, h2, r⟩ := h; exact ⟨Ca, dx, vs, by rw [m]; exact h1, q, h2, r.ct k m⟩
 | fD ds => obtain ⟨od, xs, q, r⟩ := h; exact ⟨od, xs, q, r.ct k m⟩
 | fG ds => obtain ⟨od, xs, q, r⟩ := h; exact ⟨od, xs, q, r.ct k m⟩
 | exo c i => obtain ⟨Ca, d, m1, q, n⟩ := h; exact ⟨Ca, d, by rw [m]; exact m1, q, n⟩
 | exd fs => obtain ⟨vs, q, n, r⟩ := h; exact ⟨vs, q, n, r.ct k m⟩
theorem aK.ct {C C' : Ct} (k : C'.K = C.K) (m : C'.mg = C.mg) {H : Hp} {P : Addr → Prop} {β : List Addr} {S : Store} (h : aK C H P β S) : aK C' H P β S := ⟨h.len, h.nd, fun n a so h1 h2 => (h.ok n a so h1 h2).ct k m⟩
theorem lX.ct {C C' : Ct} (k : C'.K = C.K) (m : C'.mg = C.mg) {H : Hp} {P : Addr → Prop} {β : List Addr} {cls : Value} {d : Option Addr} {e : cM} (h : lX C H P β cls d e) : lX C' H P β cls d e := by
 obtain ⟨Ca, dd, vs, h1, h2, h3, h4, h6, h7, h5⟩ := h
 exact ⟨Ca, dd, vs, by rw [m]; exact h1, h2, h3, h4, h6, h7, fun f x q => let ⟨v, q1, q2⟩ := h5 f x q; ⟨v, q1, q2.ct k m⟩⟩
theorem GO {C C' : Ct} (k : C'.K = C.K) (m : C'.mg = C.mg) {n : Nat} {f : FX} {vs : List V} {H : Hp} {Q : VK} {E : XK} (h : fu C n f vs H Q E) : fu C' n f vs H Q E := by
 obtain ⟨hl, P, β, ds, S, h1, h2, h3, h4⟩ := h
 refine ⟨hl, P, β, ds, S, h1.ct k m, h2, h3.ct k m, ?_⟩
 cases e : f ds S with
 | stuck => rw [e] at h4; exact h4
 | exc x S' => rw [e] at h4; exact fun cls d H' β' a b c => h4 cls d H' β' a (b.ct k.symm m.symm) (c.ct k.symm m.symm)
 | ok d S' => rw [e] at h4; exact fun v H' β' a b c => h4 v H' β' a (b.ct k.symm m.symm) (c.ct k.symm m.symm)
/-- a def cX keeps its promise GP nothing is a2f shown (no repr is under way) -/
structure bJ (P : Program) (w : World) (K : PySem.W.Frag) (mg : Str → Option Value) (base : Heap) (k : Nat) (f : Addr) (fd : FuncData) (ps : List Str) (sp : Sp) : Prop where
 len : ∀ vs H Q E, sp vs H Q E → vs.length = ps.length
 run : ∀ (A : Around) (outer : List Env) (s : Shared) (H : Hp) (args : Args) (us : List Value) (vs : List V) (Q : VK) (E : XK), A.guards = some [] → Room k A → Env0 P w K mg base A outer s H →
  BindsTo s fd args (ps.zip us) → Vals vs us → sp vs H Q E → codeAny (model P w) A (.call (.ref f) args) (CR (L2.CX P w) outer P w H s Q E) s
theorem LR.start {C : Ct} {H : Hp} {P : Addr → Prop} {β : List Addr} {S : Store} {vs : List V} {ds : List D} {N : List Str} (st : aK C H P β S) (hp : ∀ a, P a → H a ≠ none ∧ a ∉ β) (r : aC C H P β vs ds) :
  LR C ⟨H, β, P, []⟩ (fun _ => none) P (L2.start N vs) H β (ds.map Sl.sh ++ List.replicate (N.length - ds.length) Sl.un) S where
 len := by unfold L2.start; simp [r.length]
 p := hp
 sub := fun _ h => h
 p0 := fun a h => (hp a h).1
 ext := ⟨⟨[], (List.append_nil β).symm⟩, fun a o h _ => .inl h, fun _ h => .inl h, fun _ _ h => h, fun _ h => h, fun _ _ _ h => h⟩
 own := fun _ _ h => nomatch h
 inj := fun _ _ _ h => nomatch h
 st := st
 slot := fun i d h => by
  by_cases hi : i < ds.length
  ·rw [List.getElem?_append_left (by simpa using hi), List.getElem?_map] at h
   cases e : ds[i]? with
   | none => rw [e] at h; cases h
   | some x =>
    rw [e] at h
    cases h
    obtain ⟨v, hv, rv⟩ := r.get e
    refine ⟨v, ?_, rv⟩
    unfold L2.start
    rw [List.getElem?_append_left (by simpa [r.length] using hi), List.getElem?_map, hv]
    rfl
  ·rw [List.getElem?_append_right (by simpa using hi), List.getElem?_replicate] at h
   split at h <;> cases h
 dM := fun i d h => by
  by_cases hi : i < ds.length
  ·rw [List.getElem?_append_left (by simpa using hi), List.getElem?_map] at h
   cases e : ds[i]? with
   | none => rw [e] at h; cases h
   | some x => rw [e] at h; cases h
  ·rw [List.getElem?_append_right (by simpa using hi), List.getElem?_replicate] at h
   split at h <;> cases h
 xslot := fun i d h => by
  by_cases hi : i < ds.length
  ·rw [List.getElem?_append_left (by simpa using hi), List.getElem?_map] at h
   cases e : ds[i]? with
   | none => rw [e] at h; cases h
   | some x => rw [e] at h; cases h
  ·rw [List.getElem?_append_right (by simpa using hi), List.getElem?_replicate] at h
   split at h <;> cases h
section
variable {P : Program} {w : World} {K : PySem.W.Frag} {mg : Str → Option Value} {base : Heap}
abbrev dw (P : Program) (w : World) (K : PySem.W.Frag) (mg : Str → Option Value) (base : Heap) (N : List Str) (qual : Str) (st : Stmt) (f : Addr) (cdv : Value) (A : Around) (outer : List Env) (s : Shared) (H : Hp) (E : XK) : Cx :=
 cxOf (L2.CX P w) P w K mg base N qual (defScope st) f cdv A outer s H E
/-- a uI body run at its arguments, by any reading of it -/
theorem qD {x qual : Str} {st : Stmt} {f : Addr} {fd : FuncData} {N ps : List Str} {k : Nat} {sp : Sp} (F : Fun K x qual st f fd) (S : FnScope N ps (defScope st)) (len : ∀ vs H Q E, sp vs H Q E → vs.length = ps.length)
  (body : ∀ (cdv : Value) (A : Around) (outer : List Env) (s : Shared) (H : Hp) (vs : List V) (Q : VK) (E : XK), A.guards = some [] → Room k (dw P w K mg base N qual st f cdv A outer s H E).A → sp vs H Q E →
   ∃ t, PSs (dw P w K mg base N qual st f cdv A outer s H E) (defBody st) t ∧ t { nx := fun _ H' => Q .non H', rt := Q } (L2.start N vs) H) : bJ P w K mg base (k + 1) f fd ps sp := by
 obtain ⟨oc, od, kV, doc, pm, an, cdv, ct, osl, rfl, GU, GV⟩ := F.ex
 constructor
 ·exact len
 intro A outer s H args us vs Q E guards room env0 bound vals prom
 have zL : K.In s.heap := env0.mod.kin.keeps (fun b o e => (env0.bs b o e).1)
 have kinds : ∀ y ∈ ps.zip us, (defScope st).names.lookup y.1 = some .local ∨ ((defScope st).names.lookup y.1 = some .cell ∧ ((cellsFrom (s.heap.objs.size + 1) (defScope st).names []).lookup y.1).isSome = true) := by
  rintro ⟨n, v⟩ hy
  cases S.par n (List.of_mem_zip hy).1 with
  | inl q => exact .inl q
  | inr q => exact .inr ⟨q, PySem.W.cellsFrom_some _ _ _ (.inl q)⟩
 refine codeAny_call_function room.depth (zL _ _ GU) rfl S.co S.gen rfl (PySem.W.codeRec_of zL GV) (bound _ _ _ _ ?_)
 refine wpAny_newFunctionEnv_cells S.kind kinds ?_
 rintro _ rfl s1 zM
 refine ⟨(env0.mod.nolimit.keeps fun b o e => (env0.bs b o e).1).keeps zM.toInCall.keep, codeAny_func ?_⟩
 obtain ⟨t, run, start⟩ := body cdv A outer s H vs Q E guards (room.deeper _) prom
 have inv : L2.Inv (dw P w K mg base N qual st f cdv A outer s H E) [] (L2.start N vs) H s1 := inv_start S room.hd env0 (len _ _ _ _ prom) vals zM
 refine wpAny_mono (run.run [] s1 _ H _ inv start) ?_ fun _ _ h => h
 intro flow s' h
 cases flow with
 | ret u =>
  obtain ⟨v, σ', H', J, rv, q⟩ := h
  exact ⟨v, H', J.os, J.bare, J.base, J.hok, rv, q⟩
 | next =>
  obtain ⟨σ', H', J, q⟩ := h
  exact ⟨.non, H', J.os, J.bare, J.base, J.hok, rfl, q⟩
 | brk => obtain ⟨_, _, _, q⟩ := h; exact q.elim
 | cont => obtain ⟨_, _, _, q⟩ := h; exact q.elim
/-- THE a2h for a def -/
theorem fn_ok {x qual : Str} {st : Stmt} {f : Addr} {fd : FuncData} {N ps : List Str} {k : Nat} {m : SX} (F : Fun K x qual st f fd) (S : FnScope N ps (defScope st))
  (hbody : ∀ (cdv : Value) (A : Around) (outer : List Env) (s : Shared) (H : Hp) (E : XK), (dw P w K mg base N qual st f cdv A outer s H E).A.guards = some [] → Room k (dw P w K mg base N qual st f cdv A outer s H E).A →
   jK ⟨K, mg, w, []⟩ (fun cls d _ H' => E cls d H') (dw P w K mg base N qual st f cdv A outer s H E) (defBody st) m) : bJ P w K mg base (k + 1) f fd ps (fu ⟨K, mg, w, []⟩ ps.length (eV N.length m)) := by
 refine qD F S (fun vs H Q E h => h.1) fun cdv A outer s H vs Q E hg hr h => ?_
 obtain ⟨hl, Pf, β, ds, St, st', hp, r, q⟩ := h
 refine ⟨_, hbody cdv A outer s H E hg hr, ?_⟩
 refine ⟨⟨H, β, Pf, []⟩, _, Pf, β, _, St, LR.start st' hp r, ?_⟩
 unfold eV at q
 cases e : m (ds.map Sl.sh ++ List.replicate (N.length - ds.length) Sl.un) St with
 | nx ρ' S' =>
  rw [e] at q
  intro σ' H' β' cZ P' L' f'
  exact q .non H' β' (L'.ext.done rfl) (L'.st.less L'.sub) .non
 | rt d S' =>
  rw [e] at q
  intro v H' β' x' _ s' r'
  exact q v H' β' (x'.done rfl) s' r'
 | bk ρ' S' => rw [e] at q; exact q.elim
 | ct ρ' S' => rw [e] at q; exact q.elim
 | exc ex ρ' S' =>
  rw [e] at q
  intro cls x σ' H' β' cZ P' L' f' ea
  refine q cls x H' β' (L'.ext.done rfl) (L'.st.less L'.sub) ?_
  obtain ⟨Ca, dd, vs, h1, h2, h3, h4, h6, h7, h5⟩ := ea
  exact ⟨Ca, dd, vs, h1, h2, h3, h4, h6, fun z => h7 (L'.sub _ z), fun f x hx => let ⟨v, q1, q2⟩ := h5 f x hx; ⟨v, q1, q2.less L'.sub⟩⟩
 | stuck => rw [e] at q; exact q.elim
end
/-- the arguments in the a2i order: places among the positional ones, then the keywords' -/
def pick {α : Type} (idx : List Nat) (us ws : List α) : List α := idx.filterMap fun i => (us ++ ws)[i]?
def gY (f : FX) (idx : List Nat) (a k : AX) : EX := fun ρ S => (a ρ S).bind fun us S1 => (k ρ S1).bind fun ws S2 => f (pick idx us ws) S2
def iD (a : AX) (n : Nat) : Prop := ∀ ρ S us S', a ρ S = .ok us S' → us.length = n
theorem bF : iD aq 0 := fun ρ S us S' h => by cases h; rfl
theorem bW {a : EX} {r : AX} {n : Nat} (h : iD r n) : iD (ak a r) (n + 1) := fun ρ S us S' e => by
 unfold ak at e
 cases ea : a ρ S with
 | stuck => rw [ea] at e; cases e
 | exc x S1 => rw [ea] at e; cases e
 | ok d S1 =>
  rw [ea] at e
  simp only [R.bind] at e
  cases er : r ρ S1 with
  | stuck => rw [er] at e; cases e
  | exc x S2 => rw [er] at e; cases e
  | ok ds S2 =>
   rw [er] at e
   cases e
   simp [h ρ S1 ds _ er]
theorem zN {idx : List Nat} {vs zs : List V} {us ws : List Value} (r : Vals vs us) (q : Vals zs ws) : Vals (pick idx vs zs) (pick idx us ws) := by
 have h := r.append q
 induction idx with
 | nil => exact .nil
 | cons i idx ih =>
  unfold pick
  rw [List.filterMap_cons, List.filterMap_cons]
  cases e : (vs ++ zs)[i]? with
  | none => rw [h.none_of e]; exact ih
  | some v =>
   obtain ⟨u, e2, rv⟩ := h.get e
   rw [e2]
   exact .cons rv ih
theorem zP {C : Ct} {H : Hp} {P : Addr → Prop} {β : List Addr} {idx : List Nat} {vs zs : List V} {ds es : List D} (r : aC C H P β vs ds) (q : aC C H P β zs es) : aC C H P β (pick idx vs zs) (pick idx ds es) := by
 have h := r.append q
 induction idx with
 | nil => exact .nil
 | cons i idx ih =>
  unfold pick
  rw [List.filterMap_cons, List.filterMap_cons]
  cases e : (vs ++ zs)[i]? with
  | none =>
   have : (ds ++ es)[i]? = none := by
    rw [List.getElem?_eq_none_iff] at e ⊢
    rw [← h.length]; exact e
   rw [this]; exact ih
  | some v =>
   obtain ⟨d, e2, rv⟩ := h.of e
   rw [e2]
   exact .cons rv ih
/-- a def of the module cX keeps its promise -/
structure cV (P : Program) (w : World) (K : PySem.W.Frag) (mg : Str → Option Value) (base : Heap) (k : Nat) (x : Str) (st : Stmt) (ps : List Str) (f : FX) : Prop where
 ex : ∃ (fa : Addr) (y qual : Str) (fd : FuncData), Fun K y qual st fa fd ∧ mg x = some (.ref fa) ∧ bJ P w K mg base k fa fd ps (fu ⟨K, mg, w, []⟩ ps.length f)
/-- how a def binds us positional arguments and the keywords ks -/
def jO (st : Stmt) (ps ks : List Str) (n : Nat) (idx : List Nat) : Prop :=
 ∀ (x qual : Str) (kV doc pm : Value) (an : Option Addr) (cdv ct : Value) (us ws : List Value), us.length = n → ws.length = ks.length → bindArgs (PySem.W.fnOf x qual (defArgs st) (defBody st) (defScope st) .none kV doc pm an cdv ct) ⟨us, ks.zip ws⟩ = pure (ps.zip (pick idx us ws))
abbrev oX (C : Ct) (W : WX) (b : Bool) (X : Cx) (kws : List Keyword) (m : AX) : Prop := PK X kws (AM C W b m)
section
variable {X : Cx} {W : WX} {b : Bool} {e : Expr} {es : List Expr} {kws : List Keyword} {me : EX} {ma mk : AX} {pos p : Pos} {x : Str} {st : Stmt} {ps ks : List Str} {f : FX} {k j n : Nat} {idx : List Nat}
theorem zQ {t t' : TA} (h : PK X kws t) (i : ∀ σ H Q, t' σ H Q → t σ H Q) : PK X kws t' := ⟨fun pos pins s σ H Q I hw => h.run pos pins s σ H Q I (i σ H Q hw)⟩
theorem cD : oX (au X) W b X [] aq := zQ pk_nil fun σ H Q h => by
 obtain ⟨cf, oa, P, β, ρ, S, L, h⟩ := h
 exact h [] H β Tr.refl L .nil
theorem fX {nm : Option Str} {kpos : Pos} (ha : PM (au X) W b X e me) (hr : oX (au X) W b X kws mk) : oX (au X) W b X (⟨nm, e, kpos⟩ :: kws) (ak me mk) :=
 zQ (pk_cons ha hr) fun σ H Q h => yQ h
theorem GW {fa : Addr} {fd : FuncData} {sp : Sp} {σ : L2.St} {E : XK} {pins : List (Addr × Obj)} {H : Hp} {s : Shared} {Q : VK} {us ws us' : List Value} {vs : List V} (F : bJ X.prog X.w X.K X.mg X.base k fa fd ps sp) (hgd : X.A.guards = some []) (hr : Room k X.A) (hx : PassesAt (L2.CX X.prog X.w) X σ E)
  (I : Inv X pins σ H s) (bd : BindsTo s fd ⟨us, ks.zip ws⟩ (ps.zip us')) (r : Vals vs us') (h : sp vs H Q E) : wpAny (model X.prog X.w) X.A (call (.ref fa) us (ks.zip ws)) (EP X pins σ Q) X.xe s := by
 refine wpAny_call (codeAny_mono (F.run X.A X.stack s H ⟨us, ks.zip ws⟩ us' vs Q E hgd hr I.env0 bd r h) fun r s' hq => ?_)
 cases r with
 | error e => exact hx pins H s e s' I hq
 | ok fl =>
  cases fl with
  | ret u => exact I.after hq
  | next => exact False.elim hq
  | brk => exact False.elim hq
  | cont => exact False.elim hq
/-- from an Ge reading to the a2j promise -/
theorem GZ {C : Ct} {cf : Cf} {oa : Nat → Option Addr} {P : Addr → Prop} {σ : L2.St} {H H1 : Hp} {β β1 : List Addr} {ρ : aH} {S S1 : Store} {vs : List V} {ds : List D} {Q : VK} {n : Nat} (t : Tr false H β S H1 β1 S1) (L1 : LR C cf oa P σ H1 β1 ρ S1) (r : aC C H1 P β1 vs ds) (hn : vs.length = n)
  (h : match f ds S1 with
   | .ok d S' => ∀ v H' β', Tr false H β S H' β' S' → LR C cf oa P σ H' β' ρ S' → RV C H' P β' v d → Q v H'
   | .exc e S' => XP C W cf oa P σ false H β ρ S e S'
   | .stuck => False) : fu C n f vs H1 Q (WE W σ) := by
 refine ⟨hn, P, β1, ds, S1, L1.st, L1.p, r, ?_⟩
 cases ef : f ds S1 with
 | stuck => rw [ef] at h; exact h
 | exc e S' =>
  rw [ef] at h
  intro cls x H' β' e1 s1 ea
  exact h cls x H' β' ⟨t.ext.trans e1, fun z => nomatch z⟩ (L1.step e1 s1) ea
 | ok d S' =>
  rw [ef] at h
  intro v H' β' e1 s1 rv
  exact h v H' β' ⟨t.ext.trans e1, fun z => nomatch z⟩ (L1.step e1 s1) rv
theorem Hf {σ : L2.St} {H : Hp} {Q : VK} {nv : Nat} (h : EM (au X) W false (gY f idx ma mk) σ H Q) (hl : ∀ vs zs : List V, vs.length = n → zs.length = ks.length → (pick idx vs zs).length = nv) (h1 : iD ma n) (h2 : iD mk ks.length) :
  AM (au X) W false ma σ H fun vs H1 => AM (au X) W false mk σ H1 fun zs H2 => vs.length = n ∧ zs.length = ks.length ∧ fu (au X) nv f (pick idx vs zs) H2 Q (WE W σ) := by
 obtain ⟨cf, oa, P, β, ρ, S, L, h⟩ := h
 refine ⟨cf, oa, P, β, ρ, S, L, ?_⟩
 unfold gY at h
 cases ea : ma ρ S with
 | stuck => rw [ea] at h; exact h
 | exc e S1 => rw [ea] at h; exact h
 | ok us S1 =>
  rw [ea] at h
  simp only [R.bind] at h
  intro vs H1 β1 t1 L1 r1
  refine ⟨cf, oa, P, β1, ρ, S1, L1, ?_⟩
  cases eb : mk ρ S1 with
  | stuck => rw [eb] at h; exact h
  | exc e S2 => rw [eb] at h; intro cls d H' β' e2 L2 ex; exact h cls d H' β' (t1.trans e2) L2 ex
  | ok ws S2 =>
   rw [eb] at h
   simp only [R.bind] at h
   intro zs H2 β2 t2 L2 r2
   have n1 : vs.length = n := by rw [r1.length]; exact h1 _ _ _ _ ea
   have n2 : zs.length = ks.length := by rw [r2.length]; exact h2 _ _ _ _ eb
   exact ⟨n1, n2, GZ (t1.trans t2) L2 (zP (r1.mono t2.ext) r2) (hl vs zs n1 n2) h⟩
theorem zR {s : Shared} {qual : Str} {fa : Addr} {fd : FuncData} {us ws : List Value} (F : Fun X.K x qual st fa fd) (B : jO st ps ks n idx) (hu : us.length = n) (hw : ws.length = ks.length) : BindsTo s fd ⟨us, ks.zip ws⟩ (ps.zip (pick idx us ws)) := by
 obtain ⟨oc, od, kV, doc, pm, an, cdv, ct, osl, rfl, lk, hcd⟩ := F.ex
 exact .of_eq (B _ qual kV doc pm an cdv ct us ws hu hw)
/-- f(e, .., k = v, ..) -/
theorem zU (Dk : cV X.prog X.w X.K X.mg X.base k x st ps f) (hgd : X.A.guards = some []) (hr : Room j X.A) (hkj : k ≤ j) (tk : Takes X W) (B : jO st ps ks n idx) (ha : j5 (au X) W false X (e :: es) ma) (hkw : oX (au X) W false X kws mk) (h1 : iD ma n) (h2 : iD mk ks.length)
  (hl : ∀ vs zs : List V, vs.length = n → zs.length = ks.length → (pick idx vs zs).length = ps.length) (hg : Gl X x := by rfl)
  (hall : (backToKw pos (keywordEach kws X.env)).all (·.1.isSome) = true := by rfl) (hks : (backToKw pos (keywordEach kws X.env)).filterMap (·.1) = ks := by rfl)
  (hdb : (x == ("__debug__" : Str)) = false := by decide) (he : starEach (e :: es) X.env = (false, eval e X.env) :: starEach es X.env := by rfl)
  (hpl : ((backTo pos (starEach (e :: es) X.env)).any (·.1) || (backToKw pos (keywordEach kws X.env)).any (·.1.isNone)) = false := by rfl) : PM (au X) W false X (.Call (.Name x p) (e :: es) kws pos) (gY f idx ma mk) := by
 obtain ⟨fa, y, qual, fd, F, hm, G⟩ := Dk.ex
 refine ⟨fun pins s σ H Q I h => ?_⟩
 have h := Hf h hl h1 h2
 refine wpAny_Call_Name_kw (ld_glob I hg hm ?_ hdb)
 refine PySem.W.callWith_KW (h₀ := X.base) I.ok.mod.kin F.kp hall (thn (ha.run pos pins s σ H _ I h) fun us s1 ⟨vs, H1, I1, r, q⟩ => ?_) hpl he
 refine thn (hkw.run pos pins s1 σ H1 _ I1 q) fun ws s2 ⟨zs, H2, I2, rz, n1, n2, q2⟩ => ⟨I2.kIn, ?_⟩
 rw [hks]
 exact GW G hgd (hr.mono hkj) (passAt tk σ) I2 (us := us) (zR F B (by rw [← r.length]; exact n1) (by rw [← rz.length]; exact n2)) (zN r rz) (GO (C := au X) (C' := ⟨X.K, X.mg, X.w, []⟩) rfl rfl q2)
end
def iU (i j : Int) : Bool := decide (i.natAbs < 2 ^ 64) || decide (j.natAbs < 2 ^ 64)
def bG (S : Store) (x y : D) : Option D := match x, y with
 | .int i, .int j => some (.int (i + j))
 | .str i, .str j => if i.length + j.length ≤ sizeLine then some (.str (i ++ j)) else none
 | .tup xs, .tup ys => if xs.length + ys.length ≤ sizeLine then some (.tup (xs ++ ys)) else none
 | x, y => match cH S x, cH S y with
  | some xs, some ys => if xs.length + ys.length ≤ sizeLine then some (.lst (xs ++ ys)) else none
  | _, _ => none
def dCat (S : Store) (x y : D) : Option D := match cH S x, cH S y with
  | some xs, some ys => if xs.length + ys.length ≤ sizeLine then some (.lst (xs ++ ys)) else none
  | _, _ => none
def oY (_ : Store) (x y : D) : Option D := match x, y with
 | .int i, .int j => some (.int (i - j))
 | _, _ => none
def sO (x : Str) (n : Int) : Str := if n < 1 then Str.empty else if (n == 1 || x.length == 0) = true then x else ⟨(List.replicate n.toNat x.cps).foldl (· ++ ·) #[]⟩
def gA (_ : Store) (x y : D) : Option D := match x, y with
 | .int i, .int j => if iU i j = true then some (.int (i * j)) else none
 | .str x, .int n => if n.natAbs ≤ 1000000 ∧ x.length ≤ 1000000 ∧ Builtin.Str.tooLong (x.length * n.toNat) = false then some (.str (sO x n)) else none
 | _, _ => none
def qF (_ : Store) (x y : D) : Option D := match x, y with
 | .int i, .int j => if j ≠ 0 ∧ j.natAbs < 1073741824 then some (.int (i.fdiv j)) else none
 | _, _ => none
def iG (_ : Store) (x y : D) : Option D := match x, y with
 | .int i, .int j => if j ≠ 0 then some (.int (i.fmod j)) else none
 | _, _ => none
def mD (_ : Store) (x y : D) : Option D := match x, y with
 | .int i, .int j => if 0 ≤ j ∧ j ≤ 1000000 ∧ i.natAbs < 2 ^ 64 then some (.int (i ^ j.toNat)) else none
 | _, _ => none
def qG (_ : Store) (x : D) : Option D := match x with
 | .int i => some (.int (-i))
 | _ => none
def jP (_ : Store) (x y : D) : Option D := match x, y with
 | .int i, .int j => some (.bl (decide (i < j)))
 | .str i, .str j => some (.bl (decide (i.cps.toList < j.cps.toList)))
 | _, _ => none
def Hg (_ : Store) (x y : D) : Option D := match x, y with
 | .int i, .int j => some (.bl (decide (i ≤ j)))
 | .str i, .str j => some (.bl (!decide (j.cps.toList < i.cps.toList)))
 | _, _ => none
def mF (_ : Store) (x y : D) : Option D := match x, y with
 | .int i, .int j => some (.bl (decide (j < i)))
 | .str i, .str j => some (.bl (decide (j.cps.toList < i.cps.toList)))
 | _, _ => none
def Hh (_ : Store) (x y : D) : Option D := match x, y with
 | .int i, .int j => some (.bl (decide (j ≤ i)))
 | .str i, .str j => some (.bl (!decide (i.cps.toList < j.cps.toList)))
 | _, _ => none
section
variable {X : Cx}
/-- list + list -/
def rCatS (K : PySem.W.Frag) : R2 := fun x y H Q => ∃ l b xs zs, x = .ref l ∧ y = .ref b ∧ SqL K H l xs ∧ SqL K H b zs ∧ xs.length + zs.length ≤ sizeLine ∧ ∀ p, H p = none → Q (.ref p) (upd H p (.lst (xs ++ zs)))
theorem Hi : OpR X (binaryOp .Add) (rCatS X.K) := by
 intro pins s σ H x y v u Q I rx ry h
 obtain ⟨l, b, xs, zs, rfl, rfl, hx, hy, hz, q⟩ := h
 cases rx
 cases ry
 obtain ⟨its, r1, ⟨o1, n1, g1, c1, _, d1⟩, _⟩ := I.list hx
 obtain ⟨its2, r2, ⟨o2, n2, g2, c2, _, d2⟩, _⟩ := I.list hy
 obtain ⟨cl1, Hj, da1, Hl⟩ := o1
 obtain ⟨cl2, dd2, da2, sl2⟩ := o2
 simp only at c1 d1 c2 d2
 subst c1 d1 c2 d2
 have hl : its.toArray.size + its2.toArray.size ≤ sizeLine := by
  rw [List.size_toArray, List.size_toArray, ← r1.length, ← r2.length]; exact hz
 refine concat_meets ⟨_, g1, rfl⟩ ⟨_, g2, rfl⟩ noFill_list_add seq_list_add F.slot_list_add F.entry_list_add (F.args_list_add_2 _ _) (list_addW l b _ _ n1 n2 Hj dd2 Hl sl2 hl) ⟨g1, g2, ?_⟩
 have ea : its.toArray ++ its2.toArray = (its ++ its2).toArray := by simp
 rw [ea]
 exact ⟨.ref _, _, I.lnew (t' := s.toks) (r1.append r2) (by rw [List.length_append]; exact hz), rfl, q _ I.fresh⟩
def rAdd (K : PySem.W.Frag) : R2 := fun x y H Q => (∃ i j, x = .int i ∧ y = .int j ∧ Q (.int (i + j)) H) ∨ (∃ i j, x = .str i ∧ y = .str j ∧ i.length + j.length ≤ sizeLine ∧ Q (.str (i ++ j)) H) ∨ rCatA K x y H Q ∨ rCatS K x y H Q
theorem d8 : OpR X (binaryOp .Add) (rAdd X.K) := OpR.or op_add (OpR.or op_add_str (OpR.or op_catA Hi))
theorem Ho {C : Ct} {H : Hp} {Z : Addr → Prop} {β : List Addr} {S : Store} {p : Addr} {xs : List V} {ds : List D} (A : At C H Z β S) (hp : H p = none) (r : aC C H Z β xs ds) :
  cJ C (upd H p (.lst xs)) (fun c => Z c ∨ c = p) β p (.lst ds) :=
 ⟨xs, upd_same, (r.more hp).mono (Ext.laid hp)⟩
theorem Hq : yO X (rCatS X.K) dCat := by
 intro Z H β S x y dx dy dz Q A rx ry e k
 unfold dCat at e
 split at e
 ·rename_i xs ys e1 e2
  split at e
  ·rename_i hz
   cases e
   obtain ⟨a, us, rfl, q1, r1⟩ := rx.cH A.st e1
   obtain ⟨b, ws, rfl, q2, r2⟩ := ry.cH A.st e2
   refine ⟨a, b, us, ws, rfl, rfl, q1, q2, by rw [r1.length, r2.length]; exact hz, fun p hp => ?_⟩
   exact k p _ (jt hp) hp (Ho A hp (r1.append r2))
  ·cases e
 ·cases e
theorem Hr (S : Store) (x y d : D) (h : dCat S x y = some d) : qm d := by
 unfold dCat at h
 split at h
 ·split at h
  ·cases h; exact ⟨_, rfl⟩
  ·cases h
 ·cases h
theorem d9 : fj X (rAdd X.K) bG := by
 intro Z H β S x y dx dy dz Q A rx ry e k
 unfold bG at e
 split at e
 ·cases rx; cases ry; cases e
  exact .inl ⟨_, _, rfl, rfl, k _ H (Same.refl _) (.int _)⟩
 ·split at e
  ·rename_i hz
   cases rx; cases ry; cases e
   exact .inr (.inl ⟨_, _, rfl, rfl, hz, k _ H (Same.refl _) (.str _)⟩)
  ·cases e
 ·rename_i xs ys
  split at e
  ·rename_i hz
   cases e
   obtain ⟨a, us, rfl, q1, r1⟩ := rx.gq rfl
   obtain ⟨b, ws, rfl, q2, r2⟩ := ry.gq rfl
   refine .inr (.inr (.inl ⟨a, b, us, ws, rfl, rfl, q1, q2, by rw [r1.length, r2.length]; exact hz, fun z => ?_, fun z1 z2 => ?_, fun z1 z2 p hp => ?_⟩))
   ·subst z
    cases r1
    exact k _ H (Same.refl _) ry
   ·subst z2
    cases r2
    rw [List.append_nil] at k
    exact k _ H (Same.refl _) rx
   ·exact k _ _ (jt hp) (.tup (.inl upd_same) ((r1.append r2).mono (Ext.laid hp)))
  ·cases e
 ·rename_i x' y' n1 n2 n3
  exact .inr (.inr (.inr (fj.Fe (Hq (X := X)) Hr Z H β S x y dx dy dz Q A rx ry e k)))
theorem Ht : fj X (rI0 fun i j => .int (i - j)) oY := by
 intro Z H β S x y dx dy dz Q A rx ry e k
 unfold oY at e
 split at e
 ·cases rx; cases ry; cases e
  exact ⟨_, _, rfl, rfl, k _ H (Same.refl _) (.int _)⟩
 ·cases e
theorem zV {α : Type} (a : Array α) : ∀ (n : Nat) (b : Array α), ((List.replicate n a).foldl (· ++ ·) b).size = b.size + n * a.size
 | 0, b => by simp
 | n + 1, b => by
  rw [List.replicate_succ, List.foldl_cons, zV a n (b ++ a), Array.size_append, Nat.succ_mul]
  omega
def zW : R2 := fun x y H Q => rI CMul (fun i j => .int (i * j)) x y H Q ∨ ∃ z n, x = .str z ∧ y = .int n ∧ (n.natAbs ≤ 1000000 ∧ z.length ≤ 1000000 ∧ Builtin.Str.tooLong (z.length * n.toNat) = false) ∧ Q (.str (sO z n)) H
theorem Hu : OpR X (binaryOp .Mult) (fun x y H Q => ∃ z n, x = .str z ∧ y = .int n ∧ (n.natAbs ≤ 1000000 ∧ z.length ≤ 1000000 ∧ Builtin.Str.tooLong (z.length * n.toNat) = false) ∧ Q (.str (sO z n)) H) := by
 intro pins s σ H x y v u Q I rx ry h
 obtain ⟨z, n, rfl, rfl, ⟨h1, h2, h3⟩, q⟩ := h
 obtain ⟨t, rfl⟩ := rx
 obtain ⟨t', rfl⟩ := ry
 refine P.mul_str (by
            have a1 : ¬ n < -(2 ^ 63 : Int) := by omega
            have a2 : ¬ n ≥ 2 ^ 63 := by omega
            rw [decide_eq_false a1, decide_eq_false a2]; rfl) (fun g1 _ => ?_) (fun _ _ => h3) ?_
 ·have : (1000000 : Int) ≤ (2 ^ 63 - 1) / n := by
   rw [Int.le_ediv_iff_mul_le (by omega)]
   omega
  omega
 ·unfold sO at q
  split
  ·rename_i g
   rw [if_pos g] at q
   exact ⟨by decide, ⟨.str _, H, I.tok _, ⟨_, rfl⟩, q⟩⟩
  ·rename_i g
   rw [if_neg g] at q
   split
   ·rename_i g2
    rw [if_pos g2] at q
    exact ⟨.str z, H, I, ⟨_, rfl⟩, q⟩
   ·rename_i g2
    rw [if_neg g2] at q
    refine ⟨?_, ⟨.str _, H, I.tok _, ⟨_, rfl⟩, q⟩⟩
    show ((List.replicate n.toNat z.cps).foldl (· ++ ·) #[]).size ≤ sizeLine
    rw [zV]
    have h4 : z.cps.size = z.length := rfl
    have h5 := of_decide_eq_false h3
    rw [h4, Nat.mul_comm n.toNat, Array.size_empty, Nat.zero_add]
    exact Nat.le_of_not_gt h5
theorem sS : OpR X (binaryOp .Mult) zW := OpR.or op_mul Hu
theorem Hv {i j : Int} (h : iU i j = true) : CMul i j := by
 unfold iU at h
 rw [Bool.or_eq_true, decide_eq_true_eq, decide_eq_true_eq] at h
 unfold CMul
 omega
theorem sU : fj X zW gA := by
 intro Z H β S x y dx dy dz Q A rx ry e k
 unfold gA at e
 split at e
 ·split at e
  ·rename_i hz
   cases rx; cases ry; cases e
   exact .inl ⟨_, _, rfl, rfl, Hv hz, k _ H (Same.refl _) (.int _)⟩
  ·cases e
 ·split at e
  ·rename_i hz
   cases rx; cases ry; cases e
   exact .inr ⟨_, _, rfl, rfl, hz, k _ H (Same.refl _) (.str _)⟩
  ·cases e
 ·cases e
theorem Hw : fj X (rI CDivN fun i j => .int (i.fdiv j)) qF := by
 intro Z H β S x y dx dy dz Q A rx ry e k
 unfold qF at e
 split at e
 ·split at e
  ·rename_i hz
   cases rx; cases ry; cases e
   exact ⟨_, _, rfl, rfl, hz, k _ H (Same.refl _) (.int _)⟩
  ·cases e
 ·cases e
theorem sV : fj X (rI (fun _ j => j ≠ 0) fun i j => .int (i.fmod j)) iG := by
 intro Z H β S x y dx dy dz Q A rx ry e k
 unfold iG at e
 split at e
 ·split at e
  ·rename_i hz
   cases rx; cases ry; cases e
   exact ⟨_, _, rfl, rfl, hz, k _ H (Same.refl _) (.int _)⟩
  ·cases e
 ·cases e
theorem zX : fj X (rI CPow fun i j => .int (i ^ j.toNat)) mD := by
 intro Z H β S x y dx dy dz Q A rx ry e k
 unfold mD at e
 split at e
 ·split at e
  ·rename_i hz
   cases rx; cases ry; cases e
   exact ⟨_, _, rfl, rfl, hz, k _ H (Same.refl _) (.int _)⟩
  ·cases e
 ·cases e
theorem Hz : uL X (rU fun i => .int (-i)) qG := by
 intro Z H β S x dx dz Q A rx e k
 unfold qG at e
 split at e
 ·cases rx; cases e
  exact ⟨_, rfl, k _ H (Same.refl _) (.int _)⟩
 ·cases e
abbrev sW (f : Int → Int → Bool) (g : Str → Str → Bool) : R2 := fun x y H Q => (∃ i j, x = .int i ∧ y = .int j ∧ Q (.bl (f i j)) H) ∨ ∃ i j, x = .str i ∧ y = .str j ∧ Q (.bl (g i j)) H
theorem HA : OpR X (compareOp .Lt) (sW (fun i j => decide (i < j)) fun i j => decide (i.cps.toList < j.cps.toList)) := OpR.or op_lt op_lt_str
theorem HC : OpR X (compareOp .Gt) (sW (fun i j => decide (j < i)) fun i j => decide (j.cps.toList < i.cps.toList)) := OpR.or op_gt op_gt_str
theorem HD : fj X (sW (fun i j => decide (i < j)) fun i j => decide (i.cps.toList < j.cps.toList)) jP := by
 intro Z H β S x y dx dy dz Q A rx ry e k
 unfold jP at e
 split at e
 ·cases rx; cases ry; cases e; exact .inl ⟨_, _, rfl, rfl, k _ H (Same.refl _) (.bl _)⟩
 ·cases rx; cases ry; cases e; exact .inr ⟨_, _, rfl, rfl, k _ H (Same.refl _) (.bl _)⟩
 ·cases e
theorem HE : fj X (sW (fun i j => decide (j < i)) fun i j => decide (j.cps.toList < i.cps.toList)) mF := by
 intro Z H β S x y dx dy dz Q A rx ry e k
 unfold mF at e
 split at e
 ·cases rx; cases ry; cases e; exact .inl ⟨_, _, rfl, rfl, k _ H (Same.refl _) (.bl _)⟩
 ·cases rx; cases ry; cases e; exact .inr ⟨_, _, rfl, rfl, k _ H (Same.refl _) (.bl _)⟩
 ·cases e
end
def qH : Key → PyData
 | .inl i => .int i
 | .inr x => .str x
mutual
/-- k: dicts yR -/
def toPy (k : Bool) : D → Option PyData
 | .non => some .none
 | .bl b => some (.bool b)
 | .int i => some (.int i)
 | .str x => some (.str x)
 | .tup xs => match i6 k xs with
  | some l => some (.tuple l)
  | none => none
 | .lst xs => match i6 k xs with
  | some l => some (.list l)
  | none => none
 | .dct xs => match k with
  | true => match qI k xs with
   | some l => some (.dict l)
   | none => none
  | false => none
 | .ref _ => none
 | .ty _ => none
 | .fn _ => none
def i6 (k : Bool) : List D → Option (List PyData)
 | [] => some []
 | d :: r => match toPy k d with
  | some x => match i6 k r with
   | some l => some (x :: l)
   | none => none
  | none => none
def qI (k : Bool) : List (Key × D) → Option (List (PyData × PyData))
 | [] => some []
 | p :: r => match zY k p with
  | some x => match qI k r with
   | some l => some (x :: l)
   | none => none
  | none => none
def zY (k : Bool) : Key × D → Option (PyData × PyData)
 | (a, d) => match toPy k d with
  | some x => some (qH a, x)
  | none => none
end
/-- a thing of the store seen from outside -/
def A5 (S : Store) (d : D) : D := match d with
 | .ref n => match S[n]? with
  | some (.lst xs) => .lst xs
  | some (.dct xs) => .dct xs
  | some (.fD xs) => .dct xs
  | some (.fG xs) => .lst xs
  | _ => .ref n
 | d => d
mutual
/-- the oh things read in, one step deep -/
def stp (S : Store) : D → D
 | .non => .non
 | .bl b => .bl b
 | .int i => .int i
 | .str x => .str x
 | .tup xs => .tup (i7 S xs)
 | .lst xs => .lst (i7 S xs)
 | .dct kvs => .dct (qJ S kvs)
 | .ref n => A5 S (.ref n)
 | .ty n => .ty n
 | .fn x => .fn x
def i7 (S : Store) : List D → List D
 | [] => []
 | d :: r => stp S d :: i7 S r
def qJ (S : Store) : List (Key × D) → List (Key × D)
 | [] => []
 | p :: r => A6 S p :: qJ S r
def A6 (S : Store) : Key × D → Key × D
 | (k, d) => (k, stp S d)
/-- nothing of the store in it -/
def mG : D → Bool
 | .non => true
 | .bl _ => true
 | .int _ => true
 | .str _ => true
 | .tup xs => qK xs
 | .lst xs => qK xs
 | .dct kvs => A7 kvs
 | .ref _ => false
 | .ty _ => true
 | .fn _ => true
def qK : List D → Bool
 | [] => true
 | d :: r => mG d && qK r
def A7 : List (Key × D) → Bool
 | [] => true
 | p :: r => HF p && A7 r
def HF : Key × D → Bool
 | (_, d) => mG d
end
/-- a value as a tree, the oh lists and dicts read in -/
def top (S : Store) (d : D) : D := if mG d = true then d else stp S (stp S (stp S (stp S (stp S d))))
def i9 (S : Store) (d : D) : Option PyData := match toPy false (top S d) with
 | some p => if SeqAt.shaped p = true then some p else none
 | none => none
def iV (S : Store) (x y : D) : Option Bool := match x, y with
 | .str a, .str b => some (a == b)
 | x, y => match i9 S x, i9 S y with
  | some p, some q => some (PyData.eqv p q)
  | _, _ => none
def fM (S : Store) (x y : D) : Option D := match x, y with
 | .tup xs, .tup [] => some (.bl xs.isEmpty)
 | x, y => match iV S x y with
  | some b => some (.bl b)
  | none => none
def qL (S : Store) (x y : D) : Option D := match iV S x y with
 | some b => some (.bl (!b))
 | none => none
/-- .. is None -/
def HG (_ : Store) (x y : D) : Option D := match y with
 | .non => match x with
  | .non => some (.bl true)
  | _ => some (.bl false)
 | _ => none
def v8 (x z : Str) : Bool := if h : x.cps.size = 1 then decide (x.cps[0] ∈ z.cps.toList) else !(Builtin.Str.occurrences z x 0 z.length 1).isEmpty
def A8 (S : Store) (x y : D) : Option Bool := match x, y with
 | .str a, .str z => some (v8 a z)
 | x, y => match i9 S x, i9 S y with
  | some p, some (.list qs) => some (qs.any fun z => PyData.eqv z p)
  | some p, some (.tuple qs) => some (qs.any fun z => PyData.eqv z p)
  | _, _ => none
def HH (S : Store) (x y : D) : Option D := match A8 S x y with
 | some b => some (.bl b)
 | none => none
def HJ (S : Store) (x y : D) : Option D := match A8 S x y with
 | some b => some (.bl (!b))
 | none => none
section
variable {C : Ct} {H : Hp} {Z : Addr → Prop} {β : List Addr} {S : Store}
mutual
/-- how a value reads -/
inductive VW (C : Ct) (H : Hp) (β : List Addr) : V → D → Prop
 | non : VW C H β .non .non
 | bl (b : Bool) : VW C H β (.bl b) (.bl b)
 | int (i : Int) : VW C H β (.int i) (.int i)
 | str (x : Str) : VW C H β (.str x) (.str x)
 | ty (n : String) : VW C H β (.ty n) (.ty n)
 | lst {a : Addr} {xs : List V} {ds : List D} : SqL C.K H a xs → dO C H β xs ds → VW C H β (.ref a) (.lst ds)
 | tup {a : Addr} {xs : List V} {ds : List D} : SqT C.K H a xs → dO C H β xs ds → VW C H β (.ref a) (.tup ds)
 | dct {a : Addr} {xs : List (Key × V)} {ds : List (Key × D)} : Rd H a (.dK xs) → gD C H β xs ds → VW C H β (.ref a) (.dct ds)
 | ref {n : Nat} {a : Addr} : β[n]? = some a → VW C H β (.ref a) (.ref n)
 | fn {v : V} {x : Str} : VW C H β v (.fn x)
inductive dO (C : Ct) (H : Hp) (β : List Addr) : List V → List D → Prop
 | nil : dO C H β [] []
 | cons {v : V} {vs : List V} {d : D} {ds : List D} : VW C H β v d → dO C H β vs ds → dO C H β (v :: vs) (d :: ds)
inductive gD (C : Ct) (H : Hp) (β : List Addr) : List (Key × V) → List (Key × D) → Prop
 | nil : gD C H β [] []
 | cons {k : Key} {v : V} {vs : List (Key × V)} {d : D} {ds : List (Key × D)} : VW C H β v d → gD C H β vs ds → gD C H β ((k, v) :: vs) ((k, d) :: ds)
end
mutual
theorem RV.vw : ∀ {v : V} {d : D}, RV C H Z β v d → VW C H β v d
 | _, _, .non => .non
 | _, _, .bl b => .bl b
 | _, _, .int i => .int i
 | _, _, .str x => .str x
 | _, _, .ty n => .ty n
 | _, _, .lst _ _ hr h => .lst (.inl hr) (aC.vw h)
 | _, _, .tup hr h => .tup (.inl hr) (aC.vw h)
 | _, _, .eU k h => .tup (.inr k) (aC.vw h)
 | _, _, .dJ k h => .lst (.inr k) (aC.vw h)
 | _, _, .dct _ _ hr h => .dct hr.rd (aG.vw h)
 | _, _, .ref h => .ref h
 | _, _, .fn h k => .fn
theorem aC.vw : ∀ {vs : List V} {ds : List D}, aC C H Z β vs ds → dO C H β vs ds
 | _, _, .nil => .nil
 | _, _, .cons h t => .cons (RV.vw h) (aC.vw t)
theorem aG.vw : ∀ {vs : List (Key × V)} {ds : List (Key × D)}, aG C H Z β vs ds → gD C H β vs ds
 | _, _, .nil => .nil
 | _, _, .cons h t => .cons (RV.vw h) (aG.vw t)
end
mutual
theorem VW.stp (s : aK C H Z β S) : ∀ {v : V} {d : D}, VW C H β v d → VW C H β v (Mi.stp S d)
 | _, _, .non => by simp only [Mi.stp]; exact .non
 | _, _, .bl b => by simp only [Mi.stp]; exact .bl b
 | _, _, .int i => by simp only [Mi.stp]; exact .int i
 | _, _, .str x => by simp only [Mi.stp]; exact .str x
 | _, _, .ty n => by simp only [Mi.stp]; exact .ty n
 | _, _, .lst hr h => by simp only [Mi.stp]; exact .lst hr (dO.stp s h)
 | _, _, .tup hr h => by simp only [Mi.stp]; exact .tup hr (dO.stp s h)
 | _, _, .dct hr h => by simp only [Mi.stp]; exact .dct hr (gD.stp s h)
 | _, _, .ref (n := n) (a := a) h => by
  simp only [Mi.stp, A5]
  split
  ·rename_i xs e; obtain ⟨us, q1, q2⟩ := s.ok _ _ _ h e; exact .lst (.inl (.inl q1)) q2.vw
  ·rename_i xs e; obtain ⟨us, q1, q2⟩ := s.ok _ _ _ h e; exact .dct (.inl q1) q2.vw
  ·rename_i xs e; obtain ⟨od, us, q1, q2⟩ := s.ok _ _ _ h e; exact .dct (.inr ⟨od, q1⟩) q2.vw
  ·rename_i xs e; obtain ⟨od, us, q1, q2⟩ := s.ok _ _ _ h e; exact .lst (.inl (.inr ⟨od, q1⟩)) q2.vw
  ·exact .ref h
 | _, _, .fn => by simp only [Mi.stp]; exact .fn
theorem dO.stp (s : aK C H Z β S) : ∀ {vs : List V} {ds : List D}, dO C H β vs ds → dO C H β vs (Mi.i7 S ds)
 | _, _, .nil => by simp only [Mi.i7]; exact .nil
 | _, _, .cons h t => by simp only [Mi.i7]; exact .cons (VW.stp s h) (dO.stp s t)
theorem gD.stp (s : aK C H Z β S) : ∀ {vs : List (Key × V)} {ds : List (Key × D)}, gD C H β vs ds → gD C H β vs (Mi.qJ S ds)
 | _, _, .nil => by simp only [Mi.qJ]; exact .nil
 | _, _, .cons h t => by simp only [Mi.qJ, Mi.A6]; exact .cons (VW.stp s h) (gD.stp s t)
end
theorem RV.top {v : V} {d : D} (r : RV C H Z β v d) (s : aK C H Z β S) : VW C H β v (Mi.top S d) := by
 unfold Mi.top
 split
 ·exact r.vw
 ·exact ((((r.vw.stp s).stp s).stp s).stp s).stp s
mutual
theorem A9 : ∀ {v : V} {d : D} {p : PyData}, VW C H β v d → toPy false d = some p → Dp C.K H v p
 | _, .non, _, r, e => by cases r; simp only [toPy] at e; cases e; exact .non
 | _, .bl b, _, r, e => by cases r; simp only [toPy] at e; cases e; exact .bl b
 | _, .int i, _, r, e => by cases r; simp only [toPy] at e; cases e; exact .int i
 | _, .str x, _, r, e => by cases r; simp only [toPy] at e; cases e; exact .str x
 | _, .tup xs, _, r, e => by
  simp only [toPy] at e
  split at e
  ·rename_i l el
   cases e
   cases r with
   | tup hr hs => exact .tup hr (v9 hs el)
  ·cases e
 | _, .lst xs, _, r, e => by
  simp only [toPy] at e
  split at e
  ·rename_i l el
   cases e
   cases r with
   | lst hr hs => exact .lst hr (v9 hs el)
  ·cases e
 | _, .dct xs, _, r, e => by simp only [toPy] at e; cases e
 | _, .ref n, _, r, e => by simp only [toPy] at e; cases e
 | _, .ty n, _, r, e => by simp only [toPy] at e; cases e
 | _, .fn n, _, r, e => by simp only [toPy] at e; cases e
theorem v9 : ∀ {vs : List V} {ds : List D} {ps : List PyData}, dO C H β vs ds → i6 false ds = some ps → DpAll C.K H vs ps
 | _, [], _, r, e => by cases r; simp only [i6] at e; cases e; exact .nil
 | _, d :: ds, _, r, e => by
  simp only [i6] at e
  split at e
  ·rename_i x ex
   split at e
   ·rename_i l el
    cases e
    cases r with
    | cons r1 r2 => exact .cons (A9 r1 ex) (v9 r2 el)
   ·cases e
  ·cases e
end
/-- a value, seen at the top -/
theorem HL {v : V} {d : D} {p : PyData} (r : RV C H Z β v d) (s : aK C H Z β S) (h : toPy false (top S d) = some p) : Dp C.K H v p := A9 (r.top s) h
theorem sX {v : V} {d : D} {p : PyData} (r : RV C H Z β v d) (s : aK C H Z β S) (h : i9 S d = some p) : Dp C.K H v p ∧ SeqAt.shaped p = true := by
 unfold i9 at h
 split at h
 ·rename_i q e
  split at h
  ·cases h; exact ⟨HL r s e, by assumption⟩
  ·cases h
 ·cases h
end
section
variable {X : Cx}
/-- a tuple, and the empty one -/
def Aa (K : PySem.W.Frag) : R2 := fun x y H Q => ∃ a b xs, x = .ref a ∧ y = .ref b ∧ SqT K H a xs ∧ SqT K H b [] ∧ Q (.bl xs.isEmpty) H
theorem HM (hu : X.A.units + 64 < cLine) : OpR X (compareOp .Eq) (Aa X.K) := by
 intro pins s σ H x y v u Q I rx ry h
 obtain ⟨a, b, xs, rfl, rfl, ha, hb, q⟩ := h
 cases (show v = Value.ref a from rx)
 cases (show u = Value.ref b from ry)
 obtain ⟨us, r1, ⟨o1, g1, c1, n1, d1⟩, _⟩ := I.tuple ha
 obtain ⟨ws, r2, ⟨o2, g2, c2, n2, d2⟩, _⟩ := I.tuple hb
 cases r2
 refine SeqAt.eq_tupleAt (e := fun _ => true) ⟨o1, g1, c1, n1, d1⟩ ⟨o2, g2, c2, n2, d2⟩ (by omega) (fun j h1 h2 => absurd h2 (Nat.not_lt_zero j)) ?_
 refine ⟨.bl xs.isEmpty, H, I, ?_, q⟩
 have e : xs.length = us.length := r1.length
 show Value.bool _ = Value.bool _
 congr 1
 cases us with
 | nil =>
  cases xs with
  | nil => rfl
  | cons x xs => cases e
 | cons u us =>
  cases xs with
  | nil => cases e
  | cons x xs => simp
def Ab (K : PySem.W.Frag) : R2 := fun x y H Q => rEq x y H Q ∨ rEqD K x y H Q ∨ Aa K x y H Q
def Ac (K : PySem.W.Frag) : R2 := fun x y H Q => rNe x y H Q ∨ rNeD K x y H Q
theorem or_eq (hu : X.A.units + 64 < cLine) : OpR X (compareOp .Eq) (Ab X.K) := OpR.or op_eq (OpR.or (op_eqD hu) (HM hu))
theorem HP (hu : X.A.units + 64 < cLine) : OpR X (compareOp .NotEq) (Ac X.K) := OpR.or op_ne (op_neD hu)
theorem vf : fj X (Ab X.K) fM := by
 intro Z H β S x y dx dy dz Q A rx ry e k
 unfold fM at e
 split at e
 ·rename_i xs
  cases e
  obtain ⟨a, us, rfl, q1, r1⟩ := rx.gq rfl
  obtain ⟨b, ws, rfl, q2, r2⟩ := ry.gq rfl
  cases r2
  refine .inr (.inr ⟨a, b, us, rfl, rfl, q1, q2, ?_⟩)
  have e : us.isEmpty = xs.isEmpty := by
   have := r1.length
   cases us <;> cases xs <;> first | rfl | cases this
  rw [e]
  exact k _ H (Same.refl _) (.bl _)
 ·split at e
  ·rename_i b eb
   cases e
   unfold iV at eb
   split at eb
   ·cases rx; cases ry; cases eb
    refine .inl ⟨rfl, ?_⟩
    rw [dec_str]
    exact k _ H (Same.refl _) (.bl _)
   ·split at eb
    ·rename_i p q e1 e2
     cases eb
     obtain ⟨a1, a2⟩ := sX rx A.st e1
     obtain ⟨b1, b2⟩ := sX ry A.st e2
     exact .inr (.inl ⟨p, q, a1, b1, a2, b2, k _ H (Same.refl _) (.bl _)⟩)
    ·cases eb
  ·cases e
theorem HQ : fj X (Ac X.K) qL := by
 intro Z H β S x y dx dy dz Q A rx ry e k
 unfold qL at e
 split at e
 ·rename_i b eb
  cases e
  unfold iV at eb
  split at eb
  ·cases rx; cases ry; cases eb
   refine .inl ⟨rfl, ?_⟩
   rw [dec_str]
   exact k _ H (Same.refl _) (.bl _)
  ·split at eb
   ·rename_i p q e1 e2
    cases eb
    obtain ⟨a1, a2⟩ := sX rx A.st e1
    obtain ⟨b1, b2⟩ := sX ry A.st e2
    exact .inr ⟨p, q, a1, b1, a2, b2, k _ H (Same.refl _) (.bl _)⟩
   ·cases eb
 ·cases e
end
section
variable {X : Cx} {Z : Addr → Prop} {H : Hp} {β : List Addr} {S : Store}
theorem qM {C : Ct} {xs : List V} {a b : D} (r : aC C H Z β xs [a, b]) : ∃ x y, xs = [x, y] ∧ RV C H Z β x a ∧ RV C H Z β y b := by
 cases r with
 | cons r1 r2 => cases r2 with
  | cons r2 r3 => cases r3; exact ⟨_, _, rfl, r1, r2⟩
theorem oZ {C : Ct} {xs : List V} {a : D} (r : aC C H Z β xs [a]) : ∃ x, xs = [x] ∧ RV C H Z β x a := by
 cases r with
 | cons r1 r2 => cases r2; exact ⟨_, rfl, r1⟩
def jd (S : Store) (ds : List D) : Option D := match ds with
 | [.str x] => if x.length ≤ sizeLine then some (.int x.length) else none
 | [.tup xs] => some (.int xs.length)
 | [d] => match cH S d with
  | some xs => some (.int xs.length)
  | none => match j8 S d with
   | some xs => some (.int xs.length)
   | none => none
 | _ => none
def rLen (K : PySem.W.Frag) : List V → Hp → VK → Prop := fun xs H Q => (∃ x n, xs = [x] ∧ LenV K x H n ∧ Q (.int n) H) ∨ ∃ a kvs, xs = [V.ref a] ∧ Rd H a (.dK kvs) ∧ Q (.int kvs.length) H
theorem HR : CallR X (.builtin "len") (fun xs H Q => ∃ a kvs, xs = [V.ref a] ∧ Rd H a (.dK kvs) ∧ Q (.int kvs.length) H) := by
 intro pins s σ H xs us Q I r h
 obtain ⟨a, kvs, rfl, ha, q⟩ := h
 obtain ⟨u, rfl, ru⟩ := vals1 r
 cases (show u = Value.ref a from ru)
 obtain ⟨hlen, hns, vs, rk, hd⟩ := dk_rd I.hok ha
 have hl := line63
 have hs : sizeLine = 16777216 := sizeLine_eq
 have hn := rk.length
 exact call_len_dict hns hd (by omega) ⟨.int kvs.length, H, I.tok _, ⟨_, by rw [hn]⟩, q⟩
theorem Ad : CallR X (.builtin "len") (rLen X.K) := CallR.or call_len HR
theorem Ae : j6 X (rLen X.K) jd := by
 intro Z H β S xs ds dz Q A r e k
 have tail : ∀ {d : D}, aC (au X) H Z β xs [d] → (match cH S d with
   | some xs => some (D.int xs.length)
   | none => match j8 S d with
    | some xs => some (.int xs.length)
    | none => none) = some dz → rLen X.K xs H Q := fun {d} r e => by
  obtain ⟨x, rfl, r1⟩ := oZ r
  split at e
  ·rename_i ys e1
   cases e
   obtain ⟨a, us, rfl, q1, r2⟩ := r1.cH A.st e1
   exact .inl ⟨_, us.length, rfl, .inl ⟨us, q1, rfl⟩, by rw [r2.length]; exact k _ H (Same.refl _) (.int _)⟩
  ·split at e
   ·rename_i ys e1
    cases e
    obtain ⟨a, us, rfl, q1, r2⟩ := r1.j8 A.st e1
    exact .inr ⟨_, us, rfl, q1, by rw [r2.length]; exact k _ H (Same.refl _) (.int _)⟩
   ·cases e
 unfold jd at e
 split at e
 ·split at e
  ·rename_i hz
   cases e
   obtain ⟨x, rfl, r1⟩ := oZ r
   cases r1
   exact .inl ⟨_, _, rfl, ⟨hz, rfl⟩, k _ H (Same.refl _) (.int _)⟩
  ·cases e
 ·cases e
  obtain ⟨x, rfl, r1⟩ := oZ r
  obtain ⟨a, us, rfl, q1, r2⟩ := r1.gq rfl
  exact .inl ⟨_, us.length, rfl, .inr ⟨us, q1, rfl⟩, by rw [r2.length]; exact k _ H (Same.refl _) (.int _)⟩
 ·exact tail r e
 ·cases e
def jQ (_ : Store) (ds : List D) : Option D := match ds with
 | [.int i] => some (.int (if i < 0 then -i else i))
 | _ => none
theorem Af : j6 X (fun xs H Q => ∃ i, xs = [.int i] ∧ Q (.int (if i < 0 then -i else i)) H) jQ := by
 intro Z H β S xs ds dz Q A r e k
 unfold jQ at e
 split at e
 ·cases e
  obtain ⟨x, rfl, r1⟩ := oZ r
  cases r1
  exact ⟨_, rfl, k _ H (Same.refl _) (.int _)⟩
 ·cases e
def mH (_ : Store) (ds : List D) : Option D := match ds with
 | [.int i, .int j] => some (.int (if j > i then j else i))
 | _ => none
def sY (_ : Store) (ds : List D) : Option D := match ds with
 | [.int i, .int j] => some (.int (if j < i then j else i))
 | _ => none
theorem Ag : j6 X (fun xs H Q => ∃ i j, xs = [.int i, .int j] ∧ Q (.int (if j > i then j else i)) H) mH := by
 intro Z H β S xs ds dz Q A r e k
 unfold mH at e
 split at e
 ·cases e
  obtain ⟨x, y, rfl, r1, r2⟩ := qM r
  cases r1; cases r2
  exact ⟨_, _, rfl, k _ H (Same.refl _) (.int _)⟩
 ·cases e
theorem HS : j6 X (fun xs H Q => ∃ i j, xs = [.int i, .int j] ∧ Q (.int (if j < i then j else i)) H) sY := by
 intro Z H β S xs ds dz Q A r e k
 unfold sY at e
 split at e
 ·cases e
  obtain ⟨x, y, rfl, r1, r2⟩ := qM r
  cases r1; cases r2
  exact ⟨_, _, rfl, k _ H (Same.refl _) (.int _)⟩
 ·cases e
def qN (_ : Store) (ds : List D) : Option D := match ds with
 | [.int i, .int j] => if 0 < j ∧ j < 1073741824 then some (.tup [.int (i / j), .int (i % j)]) else none
 | _ => none
theorem HU : j6 X (fun xs H Q => ∃ i j, xs = [.int i, .int j] ∧ CDiv i j ∧ ∀ p, H p = none → Q (.ref p) (upd H p (.tup [.int (i / j), .int (i % j)]))) qN := by
 intro Z H β S xs ds dz Q A r e k
 unfold qN at e
 split at e
 ·split at e
  ·rename_i hz
   cases e
   obtain ⟨x, y, rfl, r1, r2⟩ := qM r
   cases r1; cases r2
   exact ⟨_, _, rfl, hz, fun p hp => k _ _ (jt hp) (.tup (.inl upd_same) (.cons (.int _) (.cons (.int _) .nil)))⟩
  ·cases e
 ·cases e
end
mutual
/-- v reads as d, no dict of it is the table of modules -/
inductive RD (h : Heap) : Value → PyData → Prop
 | non : RD h .none .none
 | bl (b : Bool) : RD h (.bool b) (.bool b)
 | int (i : Int) (t : Tok) : RD h (.int i t) (.int i)
 | str (x : Str) (t : Tok) : RD h (.str x t) (.str x)
 | lst {a : Addr} {o : Obj} {l : List Value} {n : Nat} {xs : List PyData} : h.get? a = some o → o.cls = .type "list" → o.data = .seq l.toArray n → fB h l xs → RD h (.ref a) (.list xs)
 | tup {a : Addr} {o : Obj} {l : List Value} {n : Nat} {xs : List PyData} : h.get? a = some o → o.cls = .type "tuple" → o.data = .seq l.toArray n → fB h l xs → RD h (.ref a) (.tuple xs)
 | dct {a : Addr} {o : Obj} {es : Array DictEntry} {n : Nat} {kvs : List (PyData × PyData)} : h.get? a = some o → o.cls = .type "dict" → o.data = .dict es n → (a == sysModules) = false →
   fB h (es.toList.map (·.key)) (kvs.map (·.1)) → fB h (es.toList.map (·.val)) (kvs.map (·.2)) → RD h (.ref a) (.dict kvs)
inductive fB (h : Heap) : List Value → List PyData → Prop
 | nil : fB h [] []
 | cons {v : Value} {vs : List Value} {d : PyData} {ds : List PyData} : RD h v d → fB h vs ds → fB h (v :: vs) (d :: ds)
end
section
variable {h : Heap} {pr : Program} {w : World}
mutual
theorem RD.reads : ∀ {v : Value} {d : PyData}, RD h v d → ∃ as, Reads h v d as
 | _, _, .non => ⟨_, .none⟩
 | _, _, .bl b => ⟨_, .bool b⟩
 | _, _, .int i t => ⟨_, .int i t⟩
 | _, _, .str x t => ⟨_, .str x t⟩
 | _, _, .lst g c e r => let ⟨_, q⟩ := fB.reads r; ⟨_, .list g c e q⟩
 | _, _, .tup g c e r => let ⟨_, q⟩ := fB.reads r; ⟨_, .tuple g c e q⟩
 | _, _, .dct g c e _ r1 r2 => let ⟨_, q1⟩ := fB.reads r1; let ⟨_, q2⟩ := fB.reads r2; ⟨_, .dict g c e q1 q2⟩
theorem fB.reads : ∀ {vs : List Value} {ds : List PyData}, fB h vs ds → ∃ as, ReadsAll h vs ds as
 | _, _, .nil => ⟨_, .nil⟩
 | _, _, .cons r rs => let ⟨_, q⟩ := RD.reads r; let ⟨_, qs⟩ := fB.reads rs; ⟨_, .cons q qs⟩
end
/-- what stands below: addresses and a level -/
abbrev Lo (pr : Program) (w : World) (h : Heap) (v : Value) (d : PyData) : Prop := ∃ bs, ReadAtMost h d.depth bs ∧ ReprK pr w bs h d.depth v d.shown
abbrev Ah (pr : Program) (w : World) (h : Heap) (vs : List Value) (ds : List PyData) : Prop := ∃ bs, ReadAtMost h (PyData.depthAll ds) bs ∧ ReprAllK pr w bs h (PyData.depthAll ds) vs (PyData.shownAll ds)
theorem HV {a : Addr} {o : Obj} {l : List Value} {n : Nat} {xs : List PyData} (r : RD h (.ref a) (.list xs)) (g : h.get? a = some o) (c : o.cls = .type "list") (e : o.data = .seq l.toArray n) (q : Ah pr w h l xs) (hl : l.length = (PyData.shownAll xs).length) : Lo pr w h (.ref a) (.list xs) := by
 obtain ⟨bs, hb, k⟩ := q
 obtain ⟨as, rr⟩ := r.reads
 have up : PyData.depthAll xs < (PyData.list xs).depth := by simp only [PyData.depth]; omega
 refine ⟨a :: bs, ReadAtMost.cons rr (Nat.le_of_lt up) hb, ?_⟩
 simp only [PyData.depth, PyData.shown]
 have out := not_mem_of_deeper rr up hb
 match l, e, k, hl with
 | [], e, k, hl =>
  cases hx : PyData.shownAll xs with
  | nil => rw [listText_nil]; exact ReprK.listEmpty g c e
  | cons t ts => rw [hx] at hl; cases hl
 | x :: l, e, k, hl => exact ReprK.list g c e out (by simpa using hl.symm) fun i y z => k.item i y (by simpa using z)
theorem qO {bs : List Addr} {n : Nat} : ∀ {vs : List Value} {ts : List Str}, ReprAllK pr w bs h n vs ts → vs.length = ts.length
 | _, _, .nil => rfl
 | _, _, .cons _ r => congrArg Nat.succ (qO r)
mutual
theorem HW : ∀ {v : Value} {d : PyData}, RD h v d → d.showable = true → d.shown.length ≤ sizeLine → Lo pr w h v d
 | _, _, .non, _, _ => ⟨[], nofun, by simp only [PyData.shown]; exact .of_is ReprIs.none _ _ _⟩
 | _, _, .bl b, _, _ => ⟨[], nofun, by simp only [PyData.shown]; exact .of_is (ReprIs.bool b) _ _ _⟩
 | _, _, .int i t, sh, _ => ⟨[], nofun, by simp only [PyData.shown]; exact .of_is (ReprIs.int t (by simpa [PyData.showable] using sh)) _ _ _⟩
 | _, _, .str x t, _, sz => ⟨[], nofun, by simp only [PyData.shown] at sz ⊢; exact .of_is (ReprIs.str x t sz) _ _ _⟩
 | _, _, .lst (xs := xs) g c e r, sh, sz => by
  simp only [PyData.shown] at sz
  have q := fH r (by simpa [PyData.showable] using sh) fun t m => Nat.le_trans (listText_mem_le m) sz
  exact HV (.lst g c e r) g c e q (let ⟨_, _, k⟩ := q; qO k)
 | _, _, .tup (a := a) (xs := xs) g c e r, sh, sz => by
  simp only [PyData.shown] at sz
  obtain ⟨bs, hb, k⟩ := fH r (by simpa [PyData.showable] using sh) fun t m => Nat.le_trans (tupleText_mem_le m) sz
  obtain ⟨as, rr⟩ := (RD.tup g c e r).reads
  have up : PyData.depthAll xs < (PyData.tuple xs).depth := by simp only [PyData.depth]; omega
  refine ⟨a :: bs, ReadAtMost.cons rr (Nat.le_of_lt up) hb, ?_⟩
  have out := not_mem_of_deeper rr up hb
  simp only [PyData.depth, PyData.shown]
  exact ReprK.tuple g c e out (by simpa using k)
 | _, _, .dct (a := a) (es := es) (kvs := kvs) g c e sy r1 r2, sh, sz => by
  simp only [PyData.shown] at sz
  obtain ⟨sh1, mJ⟩ := PyData.showableKv_split kvs (by simpa [PyData.showable] using sh)
  have low : ∀ t : Str, (∃ p ∈ PyData.shownKv kvs, t.length ≤ p.length) → t.length ≤ sizeLine := fun t ⟨p, m, q⟩ => Nat.le_trans q (Nat.le_trans (dictText_mem_le m) sz)
  obtain ⟨b1, hb1, k1⟩ := fH r1 sh1 fun t m => low t (PyData.shownKv_key_le kvs t m)
  obtain ⟨b2, hb2, k2⟩ := fH r2 mJ fun t m => low t (PyData.shownKv_val_le kvs t m)
  obtain ⟨as, rr⟩ := (RD.dct g c e sy r1 r2).reads
  have l1 := PyData.depthAll_keys_le kvs
  have l2 := PyData.depthAll_vals_le kvs
  have hb : ReadAtMost h (PyData.depthKv kvs) (b1 ++ b2) := (hb1.mono l1).append (hb2.mono l2)
  have up : PyData.depthKv kvs < (PyData.dict kvs).depth := by simp only [PyData.depth]; omega
  have out := not_mem_of_deeper rr up hb
  refine ⟨a :: (b1 ++ b2), ReadAtMost.cons rr (Nat.le_of_lt up) hb, ?_⟩
  simp only [PyData.depth, PyData.shown]
  rw [PyData.shownKv_eq]
  refine ReprK.dict g c e sy out (ReprEntriesK.of_two _ _ _ (k1.more_le (fun b m => ?_) l1) (k2.more_le (fun b m => ?_) l2))
  ·exact List.mem_append.mpr (.inl m)
  ·exact List.mem_append.mpr (.inr m)
theorem fH : ∀ {vs : List Value} {ds : List PyData}, fB h vs ds → PyData.showableAll ds = true → (∀ t ∈ PyData.shownAll ds, t.length ≤ sizeLine) → Ah pr w h vs ds
 | _, _, .nil, _, _ => ⟨[], nofun, by simp only [PyData.shownAll]; exact .nil⟩
 | _, _, .cons (d := d) (ds := ds) r rs, sh, sz => by
  simp only [PyData.showableAll, Bool.and_eq_true] at sh
  simp only [PyData.shownAll, List.mem_cons] at sz
  obtain ⟨b1, hb1, k1⟩ := HW r sh.1 (sz _ (.inl rfl))
  obtain ⟨b2, hb2, k2⟩ := fH rs sh.2 fun t m => sz t (.inr m)
  refine ⟨b1 ++ b2, ?_, ?_⟩
  ·simp only [PyData.depthAll]
   exact (hb1.mono (Nat.le_max_left _ _)).append (hb2.mono (Nat.le_max_right _ _))
  ·simp only [PyData.depthAll, PyData.shownAll]
   refine .cons ((k1.more fun b m => ?_).level_le (Nat.le_max_left _ _)) (k2.more_le (fun b m => ?_) (Nat.le_max_right _ _))
   ·exact List.mem_append.mpr (.inl m)
   ·exact List.mem_append.mpr (.inr m)
end
/-- repr(v) -/
theorem HX {A : Around} {E Q : Value → Shared → Prop} {s : Shared} {v : Value} {d : PyData} (r : RD s.heap v d) (sh : d.showable = true) (sz : d.shown.length ≤ sizeLine) (hg : A.guards = some []) (hu : A.units + (d.depth + 1) < cLine)
  (hQ : ∀ h' u tk, (∀ b o, s.heap.get? b = some o → h'.get? b = some o) → Q (.str d.shown u) { s with heap := h', toks := tk }) : wpAny (model pr w) A (call (.builtin "repr") [v]) Q E s := by
 cases r with
 | non => simp only [PyData.shown] at hQ; exact P.repr_of_none (hQ s.heap _ _ fun _ _ e => e)
 | bl b => simp only [PyData.shown] at hQ; exact P.repr_of_bool (hQ s.heap _ _ fun _ _ e => e)
 | int i t => simp only [PyData.shown] at hQ; exact P.repr_of_int (by simpa [PyData.showable] using sh) (hQ s.heap _ _ fun _ _ e => e)
 | str x t => simp only [PyData.shown] at hQ sz; exact P.repr_of_str (hQ s.heap _ _ fun _ _ e => e) sz
 | @lst a o l n xs g c e r =>
  simp only [PyData.shown] at sz hQ
  simp only [PyData.depth] at hu
  obtain ⟨bs, hb, k⟩ := fH (pr := pr) (w := w) r (by simpa [PyData.showable] using sh) fun t m => Nat.le_trans (listText_mem_le m) sz
  obtain ⟨as, rr⟩ := (RD.lst g c e r).reads
  have out := not_mem_of_deeper rr (by simp only [PyData.depth]; omega : PyData.depthAll xs < _) hb
  refine call_repr_slot (by omega) ⟨o, g, c⟩ F.slot_list_repr.toG ?_
  match l, e, k with
  | [], e, k =>
   cases hx : PyData.shownAll xs with
   | cons t ts => rw [hx] at k; cases k
   | nil => rw [hx, listText_nil] at hQ; exact call_list_repr_empty ⟨o, g, c⟩ g e ⟨_, _, rfl, hQ s.heap _ _ fun _ _ e => e⟩
  | x :: l, e, k => exact call_list_reprK g c e out (by simpa using (qO k).symm) (fun i y z => k.item i y (by simpa using z)) hg (fun b _ => Clear.nil b) (by show A.units + 1 + _ < _; omega) (fun _ _ e => e) (fun h' u tk q => ⟨_, _, rfl, hQ h' u tk q⟩) sz
 | @tup a o l n xs g c e r =>
  simp only [PyData.shown] at sz hQ
  simp only [PyData.depth] at hu
  obtain ⟨bs, hb, k⟩ := fH (pr := pr) (w := w) r (by simpa [PyData.showable] using sh) fun t m => Nat.le_trans (tupleText_mem_le m) sz
  obtain ⟨as, rr⟩ := (RD.tup g c e r).reads
  have out := not_mem_of_deeper rr (by simp only [PyData.depth]; omega : PyData.depthAll xs < _) hb
  refine call_repr_slot (by omega) ⟨o, g, c⟩ F.slot_tuple_repr ?_
  exact call_tuple_reprK g c e out (by simpa using k) hg (fun b _ => Clear.nil b) (by show A.units + 1 + _ < _; omega) (fun _ _ e => e) (fun h' u tk q => ⟨_, _, rfl, hQ h' u tk q⟩) sz
 | @dct a o es n kvs g c e sy r1 r2 =>
  simp only [PyData.shown] at sz hQ
  simp only [PyData.depth] at hu
  obtain ⟨sh1, mJ⟩ := PyData.showableKv_split kvs (by simpa [PyData.showable] using sh)
  have low : ∀ t : Str, (∃ p ∈ PyData.shownKv kvs, t.length ≤ p.length) → t.length ≤ sizeLine := fun t ⟨p, m, q⟩ => Nat.le_trans q (Nat.le_trans (dictText_mem_le m) sz)
  obtain ⟨b1, hb1, k1⟩ := fH (pr := pr) (w := w) r1 sh1 fun t m => low t (PyData.shownKv_key_le kvs t m)
  obtain ⟨b2, hb2, k2⟩ := fH (pr := pr) (w := w) r2 mJ fun t m => low t (PyData.shownKv_val_le kvs t m)
  obtain ⟨as, rr⟩ := (RD.dct g c e sy r1 r2).reads
  have l1 := PyData.depthAll_keys_le kvs
  have l2 := PyData.depthAll_vals_le kvs
  have out := not_mem_of_deeper rr (by simp only [PyData.depth]; omega : PyData.depthKv kvs < _) ((hb1.mono l1).append (hb2.mono l2))
  refine call_repr_slot (by omega) ⟨o, g, c⟩ F.slot_dict_repr ?_
  rw [PyData.shownKv_eq] at sz hQ
  refine call_dict_reprK g c e sy out (ReprEntriesK.of_two _ _ _ (k1.more_le (fun b m => ?_) l1) (k2.more_le (fun b m => ?_) l2)) hg (fun b _ => Clear.nil b) (by show A.units + 1 + _ < _; omega) (fun _ _ e => e) (fun h' u tk q => ⟨_, _, rfl, hQ h' u tk q⟩) sz
  ·exact List.mem_append.mpr (.inl m)
  ·exact List.mem_append.mpr (.inr m)
end
section
variable {X : Cx} {pins : List (Addr × Obj)} {σ : L2.St} {H : Hp} {s : Shared} {Z : Addr → Prop} {β : List Addr} {S : Store}
theorem HY {es : List DictEntry} {vs : List (Key × Value)} (p : Pairs (mixKind X.prog X.w) es vs) : fB s.heap (es.map (·.key)) (vs.map fun q => qH q.1) := by
 induction p with
 | nil => exact .nil
 | @cons e kv es kvs h1 h2 _ ih =>
  refine .cons ?_ ih
  rcases keyIs_shape (show keyIs kv.1 e.key = true from h1) with ⟨i, t, q, z⟩ | ⟨y, t, q, z⟩
  ·show RD _ e.key (qH kv.1)
   rw [q, z]; exact .int i t
  ·show RD _ e.key (qH kv.1)
   rw [q, z]; exact .str y t
theorem Ib {P : Program} {w : World} {es : List DictEntry} {vs : List (Key × Value)} (p : Pairs (mixKind P w) es vs) : es.map (·.val) = vs.map (·.2) := by
 induction p with
 | nil => rfl
 | cons h1 h2 _ ih => rw [List.map_cons, List.map_cons, h2, ih]
mutual
theorem qP (I : L2.Inv X pins σ H s) : ∀ {v : V} {u : Value} {d : D} {p : PyData}, VW (au X) H β v d → RelV v u → toPy true d = some p → RD s.heap u p
 | _, _, .non, _, r, q, e => by cases r; cases q; simp only [toPy] at e; cases e; exact .non
 | _, _, .bl b, _, r, q, e => by cases r; cases q; simp only [toPy] at e; cases e; exact .bl b
 | _, _, .int i, _, r, q, e => by cases r; obtain ⟨t, rfl⟩ := q; simp only [toPy] at e; cases e; exact .int i t
 | _, _, .str x, _, r, q, e => by cases r; obtain ⟨t, rfl⟩ := q; simp only [toPy] at e; cases e; exact .str x t
 | _, _, .tup xs, _, r, q, e => by
  simp only [toPy] at e
  split at e
  ·rename_i l el
   cases e
   cases r with
   | tup q1 q2 =>
   cases q
   obtain ⟨its, rv, ⟨o, g, c, n, dd⟩, _⟩ := I.tuple q1
   exact .tup g c dd (vg I q2 rv el)
  ·cases e
 | _, _, .lst xs, _, r, q, e => by
  simp only [toPy] at e
  split at e
  ·rename_i l el
   cases e
   cases r with
   | lst q1 q2 =>
   cases q
   obtain ⟨its, rv, ⟨o, n, g, c, _, dd⟩, _⟩ := I.list q1
   exact .lst g c dd (vg I q2 rv el)
  ·cases e
 | _, _, .dct xs, _, r, q, e => by
  simp only [toPy] at e
  split at e
  ·rename_i l el
   cases e
   cases r with
   | dct hr hs =>
    cases q
    obtain ⟨_, sy, vs, rk, o, es, ep, g, ⟨c, _⟩, dd, _, pp, _⟩ := dk_rd I.hok hr
    have q2 := Ai I hs rk el
    refine .dct g c dd sy ?_ ?_
    ·have := HY (X := X) (s := s) pp
     rw [← q2.1]
     exact this
    ·rw [Ib pp]
     exact q2.2
  ·cases e
 | _, _, .ref n, _, r, q, e => by simp only [toPy] at e; cases e
 | _, _, .ty n, _, r, q, e => by simp only [toPy] at e; cases e
 | _, _, .fn n, _, r, q, e => by simp only [toPy] at e; cases e
theorem vg (I : L2.Inv X pins σ H s) : ∀ {vs : List V} {us : List Value} {ds : List D} {ps : List PyData}, dO (au X) H β vs ds → Vals vs us → i6 true ds = some ps → fB s.heap us ps
 | _, _, [], _, r, q, e => by cases r; cases q; simp only [i6] at e; cases e; exact .nil
 | _, _, d :: ds, _, r, q, e => by
  simp only [i6] at e
  split at e
  ·rename_i x ex
   split at e
   ·rename_i l el
    cases e
    cases r with
    | cons r1 r2 => cases q with
     | cons q1 q2 => exact .cons (qP I r1 q1 ex) (vg I r2 q2 el)
   ·cases e
  ·cases e
theorem Ai (I : L2.Inv X pins σ H s) : ∀ {vs : List (Key × V)} {us : List (Key × Value)} {ds : List (Key × D)} {ps : List (PyData × PyData)}, gD (au X) H β vs ds → KV vs us → qI true ds = some ps →
  (us.map fun q => qH q.1) = ps.map (·.1) ∧ fB s.heap (us.map (·.2)) (ps.map (·.2))
 | _, _, [], _, r, q, e => by cases r; cases q; simp only [qI] at e; cases e; exact ⟨rfl, .nil⟩
 | _, _, (k, d) :: ds, _, r, q, e => by
  simp only [qI, zY] at e
  split at e
  ·rename_i x ex
   split at e
   ·rename_i l el
    cases e
    split at ex
    ·rename_i y ey
     cases ex
     cases r with
     | cons r1 r2 => cases q with
      | cons q1 q2 =>
       obtain ⟨e1, e2⟩ := q1
       obtain ⟨a1, a2⟩ := Ai I r2 q2 el
       refine ⟨?_, .cons (qP I r1 e2 ey) a2⟩
       rw [List.map_cons, List.map_cons, a1, ← e1]
    ·cases ex
   ·cases e
  ·cases e
end
def pq (S : Store) (ds : List D) : Option D := match ds with
 | [d] => match toPy true (top S d) with
  | some p => if p.showable = true ∧ p.shown.length ≤ sizeLine ∧ p.depth ≤ 64 then some (.str p.shown) else none
  | none => none
 | _ => none
/-- the a2m for repr: a state is needed -/
def tD (X : Cx) : List V → Hp → VK → Prop := fun xs H Q => ∃ (β : List Addr) (x : V) (d : D) (p : PyData), xs = [x] ∧ VW (au X) H β x d ∧ toPy true d = some p ∧ p.showable = true ∧ p.shown.length ≤ sizeLine ∧ p.depth ≤ 64 ∧ Q (.str p.shown) H
theorem Aj (hg : X.A.guards = some []) (hu : X.A.units + 65 < cLine) : CallR X (.builtin "repr") (tD X) := by
 intro pins s σ H xs us Q I r h
 obtain ⟨β, x, d, p, rfl, rv, e, h1, h2, h3, q⟩ := h
 obtain ⟨u, rfl, ru⟩ := vals1 r
 exact HX (qP I rv ru e) h1 h2 hg (by omega) fun h' t tk k => ⟨.str p.shown, H, I.kept k, ⟨_, rfl⟩, q⟩
theorem Ak : j6 X (tD X) pq := by
 intro Z H β S xs ds dz Q A r e k
 unfold pq at e
 split at e
 ·rename_i d
  split at e
  ·rename_i p ep
   split at e
   ·rename_i hz
    cases e
    obtain ⟨x, rfl, r1⟩ := oZ r
    exact ⟨β, x, top S d, p, rfl, r1.top A.st, ep, hz.1, hz.2.1, hz.2.2, k _ H (Same.refl _) (.str _)⟩
   ·cases e
  ·cases e
 ·cases e
end
def cW (S : Store) (x y : D) : Option D := match x, y with
 | .str z, .int i => if z.length ≤ sizeLine then (match atI z.cps.toList i with
  | some c => some (.str ⟨#[c]⟩)
  | none => none) else none
 | .tup xs, .int i => atI xs i
 | x, .int i => match cH S x with
  | some xs => atI xs i
  | none => none
 | _, _ => none
section
variable {X : Cx} {W : WX} {b : Bool} {a e o : Expr} {es : List Expr} {ma mb me mo : EX} {pos : Pos}
theorem Am {C : Ct} {H : Hp} {Z : Addr → Prop} {β : List Addr} {vs : List V} {ds : List D} {i : Int} {d : D} (r : aC C H Z β vs ds) (h : atI ds i = some d) : ∃ v, atI vs i = some v ∧ RV C H Z β v d := by
 unfold atI at h ⊢
 rw [r.length]
 cases e : ixN ds.length i with
 | none => rw [e] at h; cases h
 | some j =>
  rw [e] at h
  exact r.get h
theorem Ie : fj X (rIx X.K) cW := by
 intro Z H β S x y dx dy dz Q A rx ry e k
 have tail : ∀ {d : D} {i : Int}, RV (au X) H Z β x d → RV (au X) H Z β y (.int i) → (match cH S d with
  | some xs => atI xs i
  | none => none) = some dz → rIx X.K x y H Q := fun {d i} rx ry e => by
  split at e
  ·rename_i xs e1
   obtain ⟨a, us, rfl, q1, r1⟩ := rx.cH A.st e1
   obtain ⟨v, e2, r2⟩ := Am r1 e
   cases ry
   exact .inl ⟨a, us, i, v, rfl, rfl, q1, e2, k _ H (Same.refl _) r2⟩
  ·cases e
 unfold cW at e
 split at e
 ·split at e
  ·rename_i hz
   split at e
   ·rename_i c ec
    cases e; cases rx; cases ry
    exact .inr (.inr ⟨_, _, c, rfl, rfl, hz, ec, k _ H (Same.refl _) (.str _)⟩)
   ·cases e
  ·cases e
 ·obtain ⟨a, us, rfl, q1, r1⟩ := rx.gq rfl
  obtain ⟨v, e2, r2⟩ := Am r1 e
  cases ry
  exact .inr (.inl ⟨a, us, _, v, rfl, rfl, q1, e2, k _ H (Same.refl _) r2⟩)
 ·exact tail rx ry e
 ·cases e
/-- a[b] -/
theorem jR (ha : PM (au X) W b X a ma) (hb : PM (au X) W b X e mb) (hs : PlainIx e := by exact fun _ _ => rfl) : PM (au X) W b X (.Subscript a e pos) (aF cW ma mb) :=
 dB (pe_ix ix_seq ha hb hs) fun σ H Q h => em2 Ie h
def qQ (o i v : D) (S : Store) : Option Store := match o, i with
 | .ref n, .int k => match S[n]? with
  | some (.lst xs) => match ixN xs.length k with
   | some j => some (S.set n (.lst (xs.set j v)))
   | none => none
  | _ => none
 | _, _ => none
def jT (mo mi : EX) : GX := fun v ρ S => match mo ρ S with
 | .ok o S1 => match mi ρ S1 with
  | .ok i S2 => match qQ o i v S2 with
   | some S3 => some (ρ, S3)
   | none => none
  | _ => none
 | _ => none
theorem LR.wrote {C : Ct} {cf : Cf} {oa : Nat → Option Addr} {P : Addr → Prop} {σ : L2.St} {H : Hp} {β : List Addr} {ρ : aH} {S : Store} {n : Nat} {p : Addr} {o : HO} {so : SO} (L : LR C cf oa P σ H β ρ S) (hp : β[n]? = some p) (new : bK C (upd H p o) P β p so) (hf : ∀ o u, H p ≠ some (.frz o u)) : LR C cf oa P σ (upd H p o) β ρ (S.set n so) := by
 have m : p ∈ β := List.mem_of_getElem? hp
 exact L.step (Ext.wrote m (L.st.lW m) hf) (L.st.set hp new)
theorem An (ho : PM (au X) W true X o mo) (hi : PM (au X) W true X e me)
  (ha : ∀ v, assign (.Subscript o e pos) X.env v = (do
   let ov ← holding [v] (eval o X.env)
   let iv ← holding [v, ov] (eval e X.env)
   standAt pos
   holding [v, ov, iv] (setItem ov iv v)
   release [v, ov, iv] []) := by intro _; rfl) : oR X (.Subscript o e pos) (jT mo me) :=
 uW (pg_sub ho hi set_list ha) fun v σ H Q h => by
  obtain ⟨cf, oa, P, β, ρ, S, d, L, r, h⟩ := h
  unfold jT at h
  refine ⟨cf, oa, P, β, ρ, S, L, ?_⟩
  cases eo : mo ρ S with
  | stuck => rw [eo] at h; exact h.elim
  | exc x S1 => rw [eo] at h; exact h.elim
  | ok od S1 =>
   rw [eo] at h
   simp only at h
   intro ov H1 β1 t1 L1 r1
   obtain ⟨s1, rfl, rfl⟩ := t1.ro rfl
   refine ⟨cf, oa, P, β1, ρ, S1, L1, ?_⟩
   cases ei : me ρ S1 with
   | stuck => rw [ei] at h; exact h.elim
   | exc x S2 => rw [ei] at h; exact h.elim
   | ok id S2 =>
    rw [ei] at h
    intro iv H2 β2 t2 L2 r2
    obtain ⟨s2, rfl, rfl⟩ := t2.ro rfl
    simp only at h
    cases es : qQ od id d S2 with
    | none => rw [es] at h; exact h.elim
    | some S3 =>
     rw [es] at h
     unfold qQ at es
     split at es
     ·rename_i n k
      split at es
      ·rename_i xs eS
       split at es
       ·rename_i j ej
        cases es
        have r1' := r1.mono (Ext.same s2)
        cases r1' with
        | ref hn =>
         obtain ⟨us, q1, q2⟩ := L2.st.ok _ _ _ hn eS
         cases r2
         refine ⟨_, us, k, j, rfl, rfl, q1, by rw [q2.length]; exact ej, ?_⟩
         have m := List.mem_of_getElem? hn
         have nt := L2.st.lW m
         have rd : RV (au X) H2 P β2 v d := (r.mono (Ext.same s1)).mono (Ext.same s2)
         have new : bK (au X) (upd H2 _ (.lst (us.set j v))) P β2 _ (.lst (xs.set j d)) := ⟨_, upd_same, (q2.set' j rd).set (.inr m) nt⟩
         have hf : ∀ o u, H2 _ ≠ some (.frz o u) := fun o u z => by rw [q1] at z; cases z
         exact h σ _ β2 oa P (L2.wrote hn new hf) ((Fx.of (Ext.same (s1.trans s2))).trans (Fx.of (Ext.wrote m nt hf)))
       ·cases es
      ·cases es
     ·cases es
end
def vh : EX := fun _ S => .ok (.dct []) S
section
variable {X : Cx} {W : WX} {b : Bool} {pos : Pos}
/-- {} -/
theorem Ig : PN (au X) W b X (.Dict [] [] pos) vh := dB pe_dnewK fun σ H Q h => by
 obtain ⟨cf, oa, P, β, ρ, S, L, h⟩ := h
 intro p hp
 have x : Same H (upd H p (.dK [])) := jt hp
 exact h p _ β (Tr.same x) hp (L.uN x hp (by rw [upd_same]; exact Option.some_ne_none _)) ⟨[], upd_same, .nil⟩
def pA (ds : List D) : Option (List D) := match ds with
 | [.int j] => if -(2 ^ 62) ≤ j ∧ j < 2 ^ 62 then some (jw 0 j.toNat) else none
 | _ => none
def qR (f : List D → Option (List D)) (a : AX) : AX := fun ρ S => (a ρ S).bind fun xs S1 => R.opt (f xs) S1
theorem Ih {tg a : Expr} {p : Pos} {iw : AX} (hm : X.mg "range" = none) (ha : j5 (au X) W b X [a] iw) (hg : Gl X "range" := by rfl) (hs : starEach [a] X.env = [(false, eval a X.env)] := by rfl) : sG (au X) W b X tg (.Call (.Name "range" p) [a] [] pos) (qR pA iw) :=
 zq (pi_range1 hg hm ha hs) fun σ H Q h => by
  obtain ⟨cf, oa, P, β, ρ, S, L, h⟩ := h
  refine ⟨cf, oa, P, β, ρ, S, L, ?_⟩
  unfold qR at h
  cases ea : iw ρ S with
  | stuck => rw [ea] at h; exact h
  | exc e S1 => rw [ea] at h; exact h
  | ok ds S1 =>
   rw [ea] at h
   simp only [R.bind] at h
   intro vs H1 β1 t L1 rs
   cases er : pA ds with
   | none => rw [er] at h; exact h.elim
   | some xs =>
    rw [er] at h
    unfold pA at er
    split at er
    ·split at er
     ·rename_i hz
      cases er
      obtain ⟨v, rfl, r1⟩ := oZ rs
      cases r1
      exact ⟨_, rfl, hz.1, hz.2, h _ H1 β1 t L1 Gv⟩
     ·cases er
    ·cases er
end
def cI (ns : List Int) : List D := ns.map D.int
theorem vm {C : Ct} {H : Hp} {P : Addr → Prop} {β : List Addr} : ∀ ns : List Int, aC C H P β (ns.map V.int) (cI ns)
 | [] => .nil
 | n :: ns => .cons (.int n) (vm ns)
/-- the a2n list as a tree -/
theorem Ii {C : Ct} {H : Hp} {a : Addr} {ns : List Int} (h : SqL C.K H a (ns.map V.int)) : RV C H (fun _ => False) [] (.ref a) (.lst (cI ns)) := by
 rcases h with h | h
 ·exact .lst (fun z => z) (fun z => nomatch z) h (vm ns)
 ·exact .dJ h (vm ns)
/-- the pure law meets the a2o wish -/
theorem Ij {C : Ct} {f : FX} {H : Hp} {a : Addr} {ns : List Int} (h : SqL C.K H a (ns.map V.int)) (ok : ∃ S, f [.lst (cI ns)] [] = .ok (.bl true) S) : fu C 1 f [.ref a] H (fun v _ => v = .bl true) fun _ _ _ => False := by
 obtain ⟨S, ok⟩ := ok
 refine ⟨rfl, fun _ => False, [], [.lst (cI ns)], [], ⟨rfl, List.nodup_nil, fun n a so e => nomatch e⟩, fun a z => z.elim, .cons (Ii h) .nil, ?_⟩
 rw [ok]
 intro v H' β' e s r
 cases r
 rfl
theorem Ik {P : Program} {w : World} {H : Hp} {s s' : Shared} {e : Value} (h : L2.CX P w [] H s (fun _ _ _ => False) e s') : False := by
 obtain ⟨a, B, H', cls, d, _, _, _, _, _, _, _, q⟩ := h
 exact q
section
variable {P : Program} {w : World} {K : PySem.W.Frag} {mg mb : Str → Option Value} {k : Nat} {fa a : Addr} {fd : FuncData} {x : Str} {f : FX} {s : Shared} {vs : List Value} {ns : List Int}
/-- behind the top: the def run at the script, which is tracked (as a thing the object of which is known), or one of the a2p own objects -/
theorem Ao (KX : K.In s.heap) (N : s.heap.Ns mainGlobals mg) (B : s.heap.Ns builtinsNs mb) (bb : ∀ x : Str, x ≠ "__name__" → mb x = bootBuiltins x) (lim : s.heap.NoLimit) (gg : s.gens = #[])
  (ob : s.heap.get? a = some { cls := .type "list", data := .seq vs.toArray }) (rm : Room k callerA) (F : ∀ base : Heap, K.In base → base.Ns mainGlobals mg → bJ P w K mg base k fa fd [x] (fu ⟨K, mg, w, []⟩ 1 f)) (bd : ∀ (s : Shared) (u : Value), BindsTo s fd ⟨[u], []⟩ [(x, u)])
  (ok : ∃ S, f [.lst (cI ns)] [] = .ok (.bl true) S) (H : Hp) (hH : HOk P w H s.heap) (sq : SqL K H a (ns.map V.int)) (on : ∀ b, H b = none ∨ (b = a ∧ K.lookup a = none ∧ ∃ xs, H b = some (.frz { cls := .type "list", data := .seq vs.toArray } (.lst xs)))) :
  codeAny (model P w) callerA (.call (.ref fa) ⟨[.ref a], []⟩) (fun r s' => r = .ok (.ret (.bool true)) ∧ OldK s.heap s'.heap ∧ s'.os = s.os ∧ AllBare s'.gens) s := by
 have Il : ∀ {b : Addr} {o : Obj} {es : Array DictEntry} {ep : Nat}, s.heap.get? b = some o → o.data = .dict es ep → H b = none := by
  intro b o es ep g d
  rcases on b with z | ⟨rfl, _, _⟩
  ·exact z
  ·rw [ob] at g
   injection g with g
   rw [← g] at d
   cases d
 have Im : ∀ {b : Addr} {o : Obj}, K.lookup b = some o → H b = none := by
  intro b o g
  rcases on b with z | ⟨rfl, n, _⟩
  ·exact z
  ·rw [n] at g; cases g
 have tE : ∀ {b : Addr} {m : Str → Option Value}, s.heap.Ns b m → (hidT s.heap H).Ns b m := by
  rintro b m ⟨o, es, ep, g, d, r⟩
  exact ⟨o, es, ep, hidT_get g (Il g d), d, r⟩
 have kin : K.In (hidT s.heap H) := fun b o g => hidT_get (KX b o g) (Im g)
 obtain ⟨ml, l1, l2⟩ := lim
 have mod : Mod K mg (hidT s.heap H) := ⟨kin, tE N, ⟨mb, tE B, bb⟩, ⟨ml, tE l1, l2⟩⟩
 have env : Env0 P w K mg (hidT s.heap H) callerA [] s H := ⟨rfl, mod, fun b o g => of_hidT g, Nat.le_of_eq (hidT_size _ _), trivial, fun b z => (List.not_mem_nil z).elim, hH, .of_eq gg⟩
 have run := (F _ kin (tE N)).run callerA [] s H ⟨[.ref a], []⟩ [.ref a] [.ref a] _ _ rfl rm env (bd s (.ref a)) (.cons rfl .nil) (Ij (C := ⟨K, mg, w, []⟩) sq ok)
 refine codeAny_mono run fun r s' q => ?_
 match r, q with
 | .error e, q => exact (Ik q).elim
 | .ok .next, q => exact False.elim q
 | .ok .brk, q => exact False.elim q
 | .ok .cont, q => exact False.elim q
 | .ok (.ret u), q =>
  obtain ⟨v, H', os, ba, un, hH', rv, e⟩ := q
  have e' : v = .bl true := e
  subst e'
  obtain rfl : u = Value.bool true := rv
  refine ⟨rfl, OldK.of_keep fun b o g => ?_, os, ba⟩
  rcases on b with z | ⟨_, _, xs, z⟩
  ·exact un.keep b o g z (fun m => (List.not_mem_nil m).elim) (fun m => (List.not_mem_nil m).elim)
  ·obtain ⟨g1, _⟩ := hH b _ z
   obtain ⟨g2, _⟩ := hH' b _ (un.frzs b _ _ z)
   rw [g] at g1
   injection g1 with g1
   rw [g1]
   exact g2
theorem Io (KX : K.In s.heap) (N : s.heap.Ns mainGlobals mg) (B : s.heap.Ns builtinsNs mb) (bb : ∀ x : Str, x ≠ "__name__" → mb x = bootBuiltins x) (lim : s.heap.NoLimit) (gg : s.gens = #[])
  (ob : s.heap.get? a = some { cls := .type "list", data := .seq vs.toArray }) (hi : IntsAre vs ns) (hz : ns.length ≤ sizeLine) (rm : Room k callerA) (F : ∀ base : Heap, K.In base → base.Ns mainGlobals mg → bJ P w K mg base k fa fd [x] (fu ⟨K, mg, w, []⟩ 1 f)) (bd : ∀ (s : Shared) (u : Value), BindsTo s fd ⟨[u], []⟩ [(x, u)])
  (ok : ∃ S, f [.lst (cI ns)] [] = .ok (.bl true) S) :
  codeAny (model P w) callerA (.call (.ref fa) ⟨[.ref a], []⟩) (fun r s' => r = .ok (.ret (.bool true)) ∧ OldK s.heap s'.heap ∧ s'.os = s.os ∧ AllBare s'.gens) s := by
 have vals := vals_ints hi
 cases hk : K.lookup a with
 | none =>
  refine Ao KX N B bb lim gg ob rm F bd ok (fun b => if b = a then some (.frz { cls := .type "list", data := .seq vs.toArray } (.lst (ns.map V.int))) else none) ?_ (.inl (.inr ⟨_, if_pos rfl⟩)) fun b => ?_
  ·intro b u z
   simp only at z
   by_cases e : b = a
   ·rw [if_pos e] at z
    injection z with z
    subst z e
    exact ⟨ob, by rw [List.length_map]; exact hz, vs, 0, vals, ob⟩
   ·rw [if_neg e] at z; cases z
  ·by_cases e : b = a
   ·exact .inr ⟨e, hk, _, if_pos e⟩
   ·exact .inl (if_neg e)
 | some o =>
  have g := KX a o hk
  rw [ob] at g
  injection g with g
  refine Ao KX N B bb lim gg ob rm F bd ok (fun _ => none) (fun b u z => nomatch z) (.inr ⟨o, vs.toArray, 0, hk, ?_⟩) fun b => .inl rfl
  rw [← g]
  refine ⟨rfl, rfl, rfl, ?_, vals⟩
  rw [List.size_toArray, ← vals.length, List.length_map]
  exact hz
end
theorem mK {k : Nat} {A : Around} (h : Room k A) : A.units + 64 < cLine := by have := h.un; omega
theorem eY {k : Nat} {A : Around} (h : Room k A) : A.units + 65 < cLine := by have := h.un; omega
theorem Aq : ∀ ds ρ S, ds.length ≠ 0 → lZ ds ρ S = none := by
 intro ds ρ S h
 cases ds with
 | nil => exact absurd rfl h
 | cons d ds => rfl
theorem tG {g : GX} {r : jL} {n : Nat} (h : ∀ ds ρ S, ds.length ≠ n → r ds ρ S = none) : ∀ ds ρ S, ds.length ≠ n + 1 → gU g r ds ρ S = none := by
 intro ds ρ S hl
 cases ds with
 | nil => rfl
 | cons d ds =>
  unfold gU
  simp only
  cases g d ρ S with
  | none => rfl
  | some p => exact h ds p.1 p.2 fun z => hl (by rw [List.length_cons, z])
section
variable {P : Program} {w : World} {K : PySem.W.Frag} {mg : Str → Option Value} {base : Heap}
theorem bJ.mono {j k : Nat} {f : Addr} {fd : FuncData} {ps : List Str} {sp : Sp} (F : bJ P w K mg base j f fd ps sp) (h : j ≤ k) : bJ P w K mg base k f fd ps sp :=
 ⟨F.len, fun A outer s H args us vs Q E hg hr => F.run A outer s H args us vs Q E hg (hr.mono h)⟩
theorem cV.mono {j k : Nat} {x : Str} {st : Stmt} {ps : List Str} {f : FX} (D : cV P w K mg base j x st ps f) (h : j ≤ k) : cV P w K mg base k x st ps f := by
 obtain ⟨fa, y, qual, fd, F, hm, G⟩ := D.ex
 exact ⟨fa, y, qual, fd, F, hm, G.mono h⟩
theorem Ip {x x' qual qual' : Str} {st st' : Stmt} {fa : Addr} {fd fd' : FuncData} {k : Nat} {ps : List Str} {sp : Sp} (F : Fun K x qual st fa fd) (F' : Fun K x' qual' st' fa fd') (G : bJ P w K mg base k fa fd' ps sp) : bJ P w K mg base k fa fd ps sp := by
 obtain ⟨oc, od, kV, doc, pm, an, cdv, ct, osl, e1, l1, _⟩ := F.ex
 obtain ⟨oc', od', kV', doc', pm', an', a2r, ct', a2s, e2, l2, _⟩ := F'.ex
 have e := l1.symm.trans l2
 injection e with e
 injection e with _ _ e _
 injection e with e
 rw [e]
 exact G
end
def tH : SX := bD (bR 2 (iT (fR (aF jP (aA 1) (aN jd (ak (aA 0) (aq))))) (aF cW (aA 0) (aA 1)) (aF bG (aF gA (mC (.int 13)) (aA 1)) (mC (.int 6))))) <|
 cU (ql (bL (ak (aN mH (ak (mC (.int 0)) (ak (aF oY (aN jQ (ak (aA 2) (aq))) (aF mD (mC (.int 10)) (mC (.int 18)))) (aq)))) (ak (aF bG (aF bG (aF iG (aN jQ (ak (aA 2) (aq))) (mC (.int 2147483579))) (aF gA (mC (.int 307)) (aA 1))) (mC (.int 11))) (aq)))))
def tK : SX := bD (gQ (fR (aF mF (aF cW (aA 0) (mC (.int 0))) (mC (.int 0)))) (bD (jc (aN qN (ak (aF cW (aA 0) (mC (.int 0))) (ak (aA 1) (aq)))) (m7 (gU (jT (aA 0) (mC (.int 0))) (gU (gR 2) (lZ))))) <|
 cU (aA 2)) (j9)) <|
 bD (jc (aF iG (aF bG (aF gA (aF cW (aA 0) (mC (.int 1))) (mC (.int 48271))) (mC (.int 20011))) (mC (.int 2147483399))) (jT (aA 0) (mC (.int 1)))) <|
 cU (aF iG (aF qF (aF iG (aF gA (aF cW (aA 0) (mC (.int 1))) (aF cW (aA 0) (mC (.int 1)))) (mC (.int 2147483323))) (mC (.int 13))) (aA 1))
def jx (S : Store) (n : Nat) : Prop := ∃ a b : Int, S[n]? = some (.lst [.int a, .int b]) ∧ 0 ≤ a ∧ 0 ≤ b ∧ b < 2 ^ 33
section
variable {vs : List Nat} {g : GX} {t : BX} {e : EX} {ρ : aH}
theorem vo {S : Store} {p : D → Bool} {f : D → D} : ∀ (ds acc : List D), (∀ d ∈ ds, ∃ q, g d ρ S = some (q, S) ∧ t q S = .ok (p d) S ∧ (p d = true → e q S = .ok (f d) S)) → acc.length + ds.length ≤ sizeLine → fW vs g t e ρ ds acc S = .ok (acc ++ (ds.filter p).map f) S
 | [], acc, _, _ => by simp [fW]
 | d :: ds, acc, h, hl => by
  rw [List.length_cons] at hl
  obtain ⟨q, e1, e2, e3⟩ := h d List.mem_cons_self
  unfold fW
  rw [e1]
  simp only [e2]
  have h' := fun x hx => h x (List.mem_cons_of_mem _ hx)
  cases hp : p d with
  | false =>
   simp only
   rw [vo ds acc h' (by omega), List.filter_cons, if_neg (by rw [hp]; exact Bool.false_ne_true)]
  | true =>
   simp only [e3 hp]
   rw [if_pos (by omega), vo ds (acc ++ [f d]) h' (by rw [List.length_append, List.length_singleton]; omega), List.filter_cons, if_pos hp, List.map_cons, List.append_assoc]
   rfl
end
abbrev OX := aH → Store → R (Option Int)
def Ir : OX := fun _ S => .ok none S
def Ar (a : EX) : OX := fun ρ S => (a ρ S).bind fun x S1 => match x with
 | .int i => .ok (some i) S1
 | _ => .stuck
def cutD (xs : List D) (lo hi : Option Int) : List D := (xs.drop (HT.sIx xs.length 0 lo)).take (HT.sIx xs.length xs.length hi - HT.sIx xs.length 0 lo)
def As (S : Store) (x : D) (lo hi : Option Int) : Option D := match x with
 | .str z => if z.length ≤ sizeLine then some (.str (cutS z lo hi)) else none
 | .tup xs => some (.tup (cutD xs lo hi))
 | x => match cH S x with
  | some xs => some (.lst (cutD xs lo hi))
  | none => none
def Av (o : EX) (lo hi : OX) : EX := fun ρ S => (o ρ S).bind fun x S1 => (lo ρ S1).bind fun l S2 => (hi ρ S2).bind fun h S3 => R.opt (As S3 x l h) S3
def Ax (i : Nat) (a : EX) : SX := fun ρ S => match ρ[i]? with
 | some (Sl.ow (.lst xs)) => (a ρ S).st ρ fun d S1 => if xs.length < sizeLine then .nx (ρ.set i (.ow (.lst (xs ++ [d])))) S1 else .stuck
 | some (Sl.sh (.ref n)) => match S[n]? with
  | some (.lst _) => (a ρ S).st ρ fun d S1 => match S1[n]? with
   | some (.lst xs) => if xs.length < sizeLine then .nx ρ (S1.set n (.lst (xs ++ [d]))) else .stuck
   | _ => .stuck
  | _ => .stuck
 | _ => .stuck
def Iu (_ : Store) (x y : D) : Option D := match x, y with
 | .int i, .int j => some (.int (i + j))
 | _, _ => none
section
def fTuple (S : Store) (ds : List D) : Option D := match ds with
 | [.tup xs] => some (.tup xs)
 | [d] => match cH S d with
  | some xs => some (.tup xs)
  | none => none
 | _ => none
end
section
variable {cs : List (PySem.W.Frag → Bool)} {fns : List He.FnD} {ts : List He.Tab} {w : World} {K : PySem.W.Frag}
theorem lg.ck (c : lg cs fns ts w K) (i : Nat) {f : PySem.W.Frag → Bool} (h : cs[i]? = some f := by rfl) : f K = true := by
 have c1 := (He.ba (show ((cs.all fun c => c K) && fns.all fun d => (He.Fa.code d.at_ d.qual).ok K && PySem.W.keepIn K (.ref (He.fAd K d.at_))) = true from congrArg (fun z : kZ => z.1) c)).1
 exact List.all_eq_true.mp c1 f (List.mem_of_getElem? h)
theorem lg.fn (c : lg cs fns ts w K) (i : Nat) {d : He.FnD} (h : fns[i]? = some d := by rfl) :
  ∃ oc od osl kV doc pm an cdv ct, K.lookup (He.fAd K d.at_) = some ⟨oc, od, .func (PySem.W.fnOf d.name d.qual d.params d.body d.scope .none kV doc pm an cdv ct), osl⟩ ∧ PySem.W.codeIn K cdv d.qual = true ∧ PySem.W.keepIn K (.ref (He.fAd K d.at_)) = true := by
 have c2 := (He.ba (show ((cs.all fun c => c K) && fns.all fun d => (He.Fa.code d.at_ d.qual).ok K && PySem.W.keepIn K (.ref (He.fAd K d.at_))) = true from congrArg (fun z : kZ => z.1) c)).2
 have e : fns.map (fun d => He.fnObs K d.at_) = fns.map He.FnD.val := congrArg (fun z : kZ => z.2.1) c
 have e2 : (fns.map fun d => He.fnObs K d.at_)[i]? = (fns.map He.FnD.val)[i]? := by rw [e]
 rw [List.getElem?_map, List.getElem?_map, h] at e2
 obtain ⟨k1, k2⟩ := He.ba (List.all_eq_true.mp c2 d (List.mem_of_getElem? h))
 obtain ⟨oc, od, osl, kV, doc, pm, an, cdv, ct, l, q⟩ := He.fn_ok (Option.some.inj e2) k1
 exact ⟨oc, od, osl, kV, doc, pm, an, cdv, ct, l, q, k2⟩
end
section
variable {K : PySem.W.Frag}
theorem bd {a b : Bool} (h : (a && b) = true) : a = true ∧ b = true := Bool.and_eq_true_iff.mp h
theorem Ay {C : Addr} {newId : String} {p : List Value → Bool} (h : eO K C newId p = true) : ∃ nm q N bs bm sn sub ab col dd k0 k1 k2 k3 k5, K.lookup C = some (excClassObj nm q C N bs bm true sn sub ab col dd k0 k1 k2 k3 k5 newId) ∧ p bm = true := by
 unfold eO at h
 split at h
 ·rename_i t dd cd sl ho
  obtain ⟨h0, h⟩ := bd h
  split at h
  ·rename_i C' bm k0 k1 k2 k3 n k5 hm hs
   obtain ⟨h1, h⟩ := bd h
   obtain ⟨h2, h⟩ := bd h
   obtain ⟨h3, h⟩ := bd h
   obtain ⟨h4, h5⟩ := bd h
   obtain ⟨nm, bs, mro, ns, qn, hd, sn, sb, ab, col, del⟩ := cd
   obtain ⟨sl⟩ := sl
   have e0 : t = "type" := of_decide_eq_true h0
   have e1 : C' = C := of_decide_eq_true h1
   have e2 : n = newId := of_decide_eq_true h2
   have e3 : hd = true := h3
   have e4 : del = false := by simpa using h4
   have e5 : mro = .ref C' :: bm := hm
   have e6 : sl = [k0, k1, k2, k3, some (.builtin n), k5] := hs
   subst e0 e1 e2 e3 e4 e5 e6
   exact ⟨nm, qn, ns, bs, bm, sn, sb, ab, col, dd, k0, k1, k2, k3, k5, ho, h5⟩
  ·cases h
 ·cases h
theorem fO {a b : Option Value} (h : eqB a b = true) : a = b := of_decide_eq_true h
theorem aj {a b : Option Bool} (h : eqP a b = true) : a = b := of_decide_eq_true h
theorem Az {C : Addr} (h : eZ K C = true) : PySem.W.findIn K (.ref C) "__setattr__" = some (some (.builtin "object.__setattr__")) ∧ PySem.W.subIn K (.ref C) (.type "BaseException") = some true ∧ PySem.W.typeIn K (.ref C) = some (.type "type") ∧ PySem.W.keepIn K (.ref C) = true := by
 obtain ⟨h1, h⟩ := bd h
 obtain ⟨h2, h⟩ := bd h
 obtain ⟨h3, h4⟩ := bd h
 exact ⟨He.eqO_ok h1, aj h2, fO h3, h4⟩
end
/-- what Iv an iterator walks -/
inductive Src where
 | lst (a : Addr) | tup (a : Addr) | txt (z : Str)
def Src.val : Src → V
 | .lst a => .ref a | .tup a => .ref a | .txt z => .str z
def Src.ext : Src → List Addr
 | .lst a => [a] | .tup a => [a] | .txt _ => []
def Src.at (K : PySem.W.Frag) (c : Src) (H : Hp) (xs : List V) : Prop := match c with
 | .lst a => SqL K H a xs
 | .tup a => SqT K H a xs
 | .txt z => xs = z.cps.toList.map fun c => V.str ⟨#[c]⟩
section
variable {X : Cx} {pins : List (Addr × Obj)} {σ : L2.St} {H : Hp} {s : Shared} {xs ys : List V} {c : Src}
theorem Src.inj (I : Inv X pins σ H s) (h1 : c.at X.K H xs) (h2 : c.at X.K H ys) : xs = ys := by
 cases c with
 | lst a => exact I.list_inj h1 h2
 | tup a => exact I.tuple_inj h1 h2
 | txt z => exact h1.trans h2.symm
end
end Mi
namespace Mi
open StX (vals_split run_bnd env0_laid un_laid cxUp)
open PySem PySem.Spec PyProof.Rows L2
structure FnV (P : Program) (w : World) (K : PySem.W.Frag) (mg : Str → Option Value) (base : Heap) (k : Nat) (f : Addr) (sp : Sp) : Prop where
 run : ∀ (A : Around) (outer : List Env) (s : Shared) (H : Hp) (us : List Value) (vs : List V) (Q : VK) (E : XK), A.guards = some [] → Room k A → Env0 P w K mg base A outer s H →
  Vals vs us → sp vs H Q E → codeAny (model P w) A (.call (.ref f) ⟨us, []⟩) (CR (L2.CX P w) outer P w H s Q E) s
section
variable {f : FX}
def AA (f : FX) (a : AX) : EX := fun ρ S => (a ρ S).bind fun us S1 => f us S1
end
end Mi
namespace Mi
open PySem PySem.Spec PyProof.Rows L2
section
variable {X : Cx} {W : WX} {pos : Pos}
def qT (i j : Nat) (a : AX) : SX := fun ρ S => (a ρ S).st ρ fun ds S' => match ds with
 | [x, y] => .nx ((ρ.set i (.sh x)).set j (.sh y)) S'
 | _ => .stuck
def AB (i j l : Nat) (a : AX) : SX := fun ρ S => (a ρ S).st ρ fun ds S' => match ds with
 | [x, y, z] => .nx (((ρ.set i (.sh x)).set j (.sh y)).set l (.sh z)) S'
 | _ => .stuck
theorem Iw {i j : Nat} {x y : Str} {e1 e2 : Expr} {ma : AX} {px py pt : Pos} {kt k2 pt2} (hc : X.calm = true) (hN : X.N.Nodup) (hi : X.N[i]? = some x) (hj : X.N[j]? = some y) (hij : i ≠ j)
  (hx : X.env.scope.names.lookup x = some .local) (hy : X.env.scope.names.lookup y = some .local) (ha : j5 (au X) W false X [e1, e2] ma)
  (hw : swappedStores [.Tuple [.Name x px, .Name y py] kt pt] (.Tuple [e1, e2] k2 pt2) X.env = pure (some [x, y]) := by rfl)
  (hs : swapsWithSole [.Tuple [.Name x px, .Name y py] kt pt] (.Tuple [e1, e2] k2 pt2) pos.line X.env = pure false := by rfl) :
  iQ (au X) W X (.Assign [.Tuple [.Name x px, .Name y py] kt pt] (.Tuple [e1, e2] k2 pt2) pos) (qT i j ma) := oA (ps_par hc hN hi hj hij hx hy ha hw hs) fun D σ H h => by
 obtain ⟨cf, oa, P, β, ρ, S, L, h⟩ := h
 refine ⟨cf, oa, P, β, ρ, S, L, ?_⟩
 unfold qT at h
 cases ea : ma ρ S with
 | stuck => rw [ea] at h; exact h
 | exc e S1 => rw [ea] at h; exact oN h
 | ok ds S1 =>
  rw [ea] at h
  simp only [R.st] at h
  intro vs H1 β1 t L1 rs
  split at h
  ·obtain ⟨v, w, rfl, r1, r2⟩ := qM rs
   exact ⟨v, w, rfl, h _ H1 β1 _ P ((L1.set r1).set r2) (Fx.of t.ext)⟩
  ·exact h.elim
end
def R.al {α : Type} (r : R α) (Q : α → Store → Prop) (E : cM → Store → Prop) : Prop := match r with
 | .ok a S => Q a S
 | .exc e S => E e S
 | .stuck => False
structure Po where
 T : D → Store → Prop
 E : cM → Store → Prop
 B : aH → Store → Prop
 C : aH → Store → Prop
 X : cM → aH → Store → Prop
def SR.al (r : SR) (N : aH → Store → Prop) (p : Po) : Prop := match r with
 | .nx ρ S => N ρ S
 | .rt d S => p.T d S
 | .bk ρ S => p.B ρ S
 | .ct ρ S => p.C ρ S
 | .exc e ρ S => p.E e S ∧ p.X e ρ S
 | .stuck => False
section
variable {α β : Type} {Q : D → Store → Prop} {QL : List D → Store → Prop} {QB : Bool → Store → Prop} {E : cM → Store → Prop} {ρ ρ1 : aH} {S S1 S2 S3 : Store} {d x y : D} {ds us ws : List D} {m a b c : EX} {r k : AX} {i j l : Nat} {idx : List Nat} {f : FX} {t u : BX} {s s1 s2 : SX} {g : GX} {N : aH → Store → Prop} {p : Po}
theorem pB {a : α} {Q : α → Store → Prop} : (R.ok a S).al Q E ↔ Q a S := Iff.rfl
theorem AF {Q : α → Store → Prop} : (R.stuck).al Q E ↔ False := Iff.rfl
theorem cO {r : R α} {f : α → Store → R β} {Q : β → Store → Prop} : (r.bind f).al Q E ↔ r.al (fun a S => (f a S).al Q E) E := by cases r <;> rfl
theorem fY {o : Option α} {Q : α → Store → Prop} : (R.opt o S).al Q E ↔ ∃ z, o = some z ∧ Q z S := by
 cases o with
 | none => exact ⟨fun h => h.elim, fun ⟨_, h, _⟩ => nomatch h⟩
 | some z => exact ⟨fun h => ⟨z, rfl, h⟩, fun ⟨w, h, q⟩ => by cases h; exact q⟩
theorem iW {r : R α} {κ : α → Store → SR} : (r.st ρ κ).al N p ↔ r.al (fun a S => (κ a S).al N p) (fun e S => p.E e S ∧ p.X e ρ S) := by cases r <;> rfl
theorem AG : (mC d ρ S).al Q E ↔ Q d S := Iff.rfl
theorem w_var : (aA i ρ S).al Q E ↔ match ρ[i]? with
  | some (Sl.sh d) => Q d S
  | _ => False := by
 unfold aA
 rcases ρ[i]? with _ | (_ | d | d) <;> exact Iff.rfl
theorem AH {f : Store → D → D → Option D} : (aF f a b ρ S).al Q E ↔ (a ρ S).al (fun x S1 => (b ρ S1).al (fun y S2 => ∃ z, f S2 x y = some z ∧ Q z S2) E) E := by
 unfold aF; simp only [cO, fY]
theorem AI {f : Store → D → Option D} : (d7 f a ρ S).al Q E ↔ (a ρ S).al (fun x S1 => ∃ z, f S1 x = some z ∧ Q z S1) E := by
 unfold d7; simp only [cO, fY]
theorem AJ : (aq ρ S).al QL E ↔ QL [] S := Iff.rfl
theorem AK : (ak a r ρ S).al QL E ↔ (a ρ S).al (fun x S1 => (r ρ S1).al (fun xs S2 => QL (x :: xs) S2) E) E := by
 unfold ak; simp only [cO, pB]
theorem AO {f : Store → List D → Option D} : (aN f r ρ S).al Q E ↔ (r ρ S).al (fun xs S1 => ∃ z, f S1 xs = some z ∧ Q z S1) E := by
 unfold aN; simp only [cO, fY]
theorem AQ : (bH r ρ S).al Q E ↔ (r ρ S).al (fun xs S1 => xs.length ≤ sizeLine ∧ Q (.tup xs) S1) E := by
 unfold bH dTup
 simp only [cO, fY]
 refine iff_of_eq (congrArg (fun z => R.al (r ρ S) z E) (funext fun xs => funext fun S1 => propext ?_))
 by_cases h : xs.length ≤ sizeLine <;> simp [h]
theorem AU : (bL r ρ S).al Q E ↔ (r ρ S).al (fun xs S1 => xs.length ≤ sizeLine ∧ Q (.lst xs) S1) E := by
 unfold bL rW
 simp only [cO, fY]
 refine iff_of_eq (congrArg (fun z => R.al (r ρ S) z E) (funext fun xs => funext fun S1 => propext ?_))
 by_cases h : xs.length ≤ sizeLine <;> simp [h]
theorem vp : (vh ρ S).al Q E ↔ Q (.dct []) S := Iff.rfl
theorem w_call : (gY f idx r k ρ S).al Q E ↔ (r ρ S).al (fun us S1 => (k ρ S1).al (fun ws S2 => (f (pick idx us ws) S2).al Q E) E) E := by
 unfold gY; simp only [cO]
theorem AV : (AA f r ρ S).al Q E ↔ (r ρ S).al (fun us S1 => (f us S1).al Q E) E := by
 unfold AA; simp only [cO]
theorem AW : (iT t a b ρ S).al Q E ↔ (t ρ S).al (fun q S1 => if q = true then (a ρ S1).al Q E else (b ρ S1).al Q E) E := by
 unfold iT
 simp only [cO]
 refine iff_of_eq (congrArg (fun z => R.al (t ρ S) z E) (funext fun q => funext fun S1 => ?_))
 cases q <;> rfl
theorem w_and : (qu a b ρ S).al Q E ↔ (a ρ S).al (fun x S1 => ∃ q, dD S1 x = some q ∧ if q = true then (b ρ S1).al Q E else Q x S1) E := by
 unfold qu
 simp only [cO, fY]
 refine iff_of_eq (congrArg (fun z => R.al (a ρ S) z E) (funext fun x => funext fun S1 => propext (exists_congr fun q => and_congr_right fun _ => ?_)))
 cases q <;> exact Iff.rfl
theorem w_or : (yU a b ρ S).al Q E ↔ (a ρ S).al (fun x S1 => ∃ q, dD S1 x = some q ∧ if q = true then Q x S1 else (b ρ S1).al Q E) E := by
 unfold yU
 simp only [cO, fY]
 refine iff_of_eq (congrArg (fun z => R.al (a ρ S) z E) (funext fun x => funext fun S1 => propext (exists_congr fun q => and_congr_right fun _ => ?_)))
 cases q <;> exact Iff.rfl
theorem w_not : (yV a ρ S).al Q E ↔ (a ρ S).al (fun x S1 => ∃ q, dD S1 x = some q ∧ Q (.bl (!q)) S1) E := by
 unfold yV
 simp only [cO, fY, pB]
theorem AY {f h : Store → D → D → Option D} : (yW f h a b c ρ S).al Q E ↔ (a ρ S).al (fun x S1 => (b ρ S1).al (fun y S2 => ∃ q, (f S2 x y).bind j7 = some q ∧ if q = true then (c ρ S2).al (fun z S4 => ∃ w, h S4 y z = some w ∧ Q w S4) E else Q (.bl false) S2) E) E := by
 unfold yW
 simp only [cO, fY]
 refine iff_of_eq (congrArg (fun z => R.al (a ρ S) z E) (funext fun x => funext fun S1 => congrArg (fun z => R.al (b ρ S1) z E) (funext fun y => funext fun S2 => propext (exists_congr fun q => and_congr_right fun _ => ?_))))
 cases q
 ·exact Iff.rfl
 ·simp only [if_true, cO, fY]
theorem AZ : (fR m ρ S).al QB E ↔ (m ρ S).al (fun x S1 => ∃ q, j7 x = some q ∧ QB q S1) E := by
 unfold fR; simp only [cO, fY]
theorem B4 : (iz m ρ S).al QB E ↔ (m ρ S).al (fun x S1 => ∃ q, dD S1 x = some q ∧ QB q S1) E := by
 unfold iz; simp only [cO, fY]
theorem B5 : (oH t ρ S).al QB E ↔ (t ρ S).al (fun q S1 => QB (!q) S1) E := by
 unfold oH; simp only [cO, pB]
theorem w_band : (yS t u ρ S).al QB E ↔ (t ρ S).al (fun q S1 => if q = true then (u ρ S1).al QB E else QB false S1) E := by
 unfold yS
 simp only [cO]
 refine iff_of_eq (congrArg (fun z => R.al (t ρ S) z E) (funext fun q => funext fun S1 => ?_))
 cases q <;> rfl
theorem w_bor : (oG t u ρ S).al QB E ↔ (t ρ S).al (fun q S1 => if q = true then QB true S1 else (u ρ S1).al QB E) E := by
 unfold oG
 simp only [cO]
 refine iff_of_eq (congrArg (fun z => R.al (t ρ S) z E) (funext fun q => funext fun S1 => ?_))
 cases q <;> rfl
theorem B6 : (qC ρ S).al QB E ↔ QB true S := Iff.rfl
theorem B7 : (oU m ρ S).al QL E ↔ (m ρ S).al (fun x S1 => ∃ z, itemsOf x = some z ∧ QL z S1) E := by
 unfold oU; simp only [cO, fY]
theorem Bb {f : List D → Option (List D)} : (qR f r ρ S).al QL E ↔ (r ρ S).al (fun xs S1 => ∃ z, f xs = some z ∧ QL z S1) E := by
 unfold qR; simp only [cO, fY]
theorem Bc {it : AX} {vs : List Nat} {e : EX} : (jN it vs g t e ρ S).al Q E ↔ (it ρ S).al (fun ds S1 => (fW vs g t e (dN ρ vs) ds [] S1).al (fun ys S2 => Q (.lst ys) S2) E) E := by
 unfold jN; simp only [cO, pB]
theorem Be {QO : Option Int → Store → Prop} : (Ir ρ S).al QO E ↔ QO none S := Iff.rfl
theorem Bf {QO : Option Int → Store → Prop} : (Ar m ρ S).al QO E ↔ (m ρ S).al (fun x S1 => ∃ i, x = .int i ∧ QO (some i) S1) E := by
 unfold Ar
 simp only [cO]
 refine iff_of_eq (congrArg (fun z => R.al (m ρ S) z E) (funext fun x => funext fun S1 => propext ?_))
 cases x <;> first
  | exact ⟨fun h => ⟨_, rfl, h⟩, fun ⟨_, e, h⟩ => by cases e; exact h⟩
  | exact ⟨fun h => h.elim, fun ⟨_, e, _⟩ => nomatch e⟩
theorem Bg {lo hi : OX} : (Av m lo hi ρ S).al Q E ↔ (m ρ S).al (fun x S1 => (lo ρ S1).al (fun l S2 => (hi ρ S2).al (fun h S3 => ∃ z, As S3 x l h = some z ∧ Q z S3) E) E) E := by
 unfold Av; simp only [cO, fY]
theorem Bh : (yM m ρ S).al Q E ↔ (m (lent ρ) S).al (fun x S1 => flat x = true ∧ Q x S1) (fun _ _ => False) := by
 unfold yM
 cases m (lent ρ) S with
 | ok x S1 => by_cases h : flat x = true <;> simp [h, R.al]
 | exc e S1 => exact Iff.rfl
 | stuck => exact Iff.rfl
theorem Bj : (yN t ρ S).al QB E ↔ (t (lent ρ) S).al QB (fun _ _ => False) := by
 unfold yN
 cases t (lent ρ) S <;> exact Iff.rfl
theorem vq : (bD s1 s2 ρ S).al N p ↔ (s1 ρ S).al (fun ρ1 S1 => (s2 ρ1 S1).al N p) p := by
 unfold bD
 cases s1 ρ S <;> exact Iff.rfl
theorem Bl : (j9 ρ S).al N p ↔ N ρ S := Iff.rfl
theorem Bm : (bR i m ρ S).al N p ↔ (m ρ S).al (fun d S1 => N (ρ.set i (.sh d)) S1) (fun e S => p.E e S ∧ p.X e ρ S) := by unfold bR; exact iW
theorem Bo : (za i m ρ S).al N p ↔ (m ρ S).al (fun d S1 => N (ρ.set i (.ow d)) S1) (fun e S => p.E e S ∧ p.X e ρ S) := by unfold za; exact iW
theorem Bp : (cU m ρ S).al N p ↔ (m ρ S).al p.T (fun e S => p.E e S ∧ p.X e ρ S) := by unfold cU; exact iW
theorem Bq : (G8 ρ S).al N p ↔ p.T .non S := Iff.rfl
theorem Br : (z9 i ρ S).al N p ↔ match ρ[i]? with
  | some (Sl.sh d) => p.T d S
  | some (Sl.ow d) => p.T d S
  | _ => False := by
 unfold z9
 rcases ρ[i]? with _ | (_ | d | d) <;> exact Iff.rfl
theorem Bs : (z8 m ρ S).al N p ↔ (m ρ S).al (fun _ S1 => N ρ S1) (fun e S => p.E e S ∧ p.X e ρ S) := by unfold z8; exact iW
theorem Bt : (gQ t s1 s2 ρ S).al N p ↔ (t ρ S).al (fun q S1 => if q = true then (s1 ρ S1).al N p else (s2 ρ S1).al N p) (fun e S => p.E e S ∧ p.X e ρ S) := by
 unfold gQ
 rw [iW]
 refine iff_of_eq (congrArg (fun z => R.al (t ρ S) z _) (funext fun q => funext fun S1 => ?_))
 cases q <;> rfl
theorem Bu : (jc m g ρ S).al N p ↔ (m ρ S).al (fun d S1 => ∃ q, g d ρ S1 = some q ∧ N q.1 q.2) (fun e S => p.E e S ∧ p.X e ρ S) := by
 unfold jc
 rw [iW]
 refine iff_of_eq (congrArg (fun z => R.al (m ρ S) z _) (funext fun d => funext fun S1 => propext ?_))
 cases h : g d ρ S1 with
 | none => exact ⟨fun z => z.elim, fun ⟨_, e, _⟩ => nomatch e⟩
 | some q => exact ⟨fun z => ⟨q, rfl, z⟩, fun ⟨_, e, z⟩ => by cases e; exact z⟩
theorem Bv {it : AX} : (oK it g s ρ S).al N p ↔ (it ρ S).al (fun ds S1 => (forL g s ds ρ S1).al N p) (fun e S => p.E e S ∧ p.X e ρ S) := by unfold oK; exact iW
theorem Bw : (G6 ρ S).al N p ↔ p.B ρ S := Iff.rfl
theorem Bx : (G7 ρ S).al N p ↔ p.C ρ S := Iff.rfl
theorem By : (qT i j r ρ S).al N p ↔ (r ρ S).al (fun ds S1 => match ds with
  | [x, y] => N ((ρ.set i (.sh x)).set j (.sh y)) S1
  | _ => False) (fun e S => p.E e S ∧ p.X e ρ S) := by
 unfold qT
 rw [iW]
 refine iff_of_eq (congrArg (fun z => R.al (r ρ S) z _) (funext fun ds => funext fun S1 => propext ?_))
 rcases ds with _ | ⟨x, _ | ⟨y, _ | ⟨z, ds⟩⟩⟩ <;> exact Iff.rfl
theorem BA : (AB i j l r ρ S).al N p ↔ (r ρ S).al (fun ds S1 => match ds with
  | [x, y, z] => N (((ρ.set i (.sh x)).set j (.sh y)).set l (.sh z)) S1
  | _ => False) (fun e S => p.E e S ∧ p.X e ρ S) := by
 unfold AB
 rw [iW]
 refine iff_of_eq (congrArg (fun z => R.al (r ρ S) z _) (funext fun ds => funext fun S1 => propext ?_))
 rcases ds with _ | ⟨x, _ | ⟨y, _ | ⟨z, _ | ⟨w, ds⟩⟩⟩⟩ <;> exact Iff.rfl
theorem vA {n : Nat} : (eV n s ds S).al Q E ↔ (s (ds.map Sl.sh ++ List.replicate (n - ds.length) Sl.un) S).al (fun _ S1 => Q .non S1) ⟨Q, E, fun _ _ => False, fun _ _ => False, fun _ _ _ => True⟩ := by
 unfold eV
 cases s (ds.map Sl.sh ++ List.replicate (n - ds.length) Sl.un) S <;> first
  | exact Iff.rfl
  | exact ⟨fun h => ⟨h, trivial⟩, fun h => h.1⟩
theorem Iz {r : SR} {N N' : aH → Store → Prop} {p p' : Po} (h : r.al N p) (hn : ∀ ρ S, N ρ S → N' ρ S) (ht : ∀ d S, p.T d S → p'.T d S) (he : ∀ e ρ S, p.E e S ∧ p.X e ρ S → p'.E e S ∧ p'.X e ρ S) (hb : ∀ ρ S, p.B ρ S → p'.B ρ S) (hc : ∀ ρ S, p.C ρ S → p'.C ρ S) : r.al N' p' := by
 cases r with
 | nx ρ S => exact hn _ _ h
 | rt d S => exact ht _ _ h
 | bk ρ S => exact hb _ _ h
 | ct ρ S => exact hc _ _ h
 | exc e ρ S => exact he _ _ _ h
 | stuck => exact h
theorem pC (M : aH → Store → Prop) (h1 : (s1 ρ S).al M p) (h2 : ∀ ρ S, M ρ S → (s2 ρ S).al N p) : (bD s1 s2 ρ S).al N p :=
 vq.mpr (Iz h1 h2 (fun _ _ h => h) (fun _ _ _ h => h) (fun _ _ h => h) fun _ _ h => h)
theorem BD (I : Nat → aH → Store → Prop) {ds : List D} (h0 : I 0 ρ S) (step : ∀ i d ρ S, ds[i]? = some d → I i ρ S → ∃ q, g d ρ S = some q ∧ (s q.1 q.2).al (I (i + 1)) ⟨p.T, p.E, N, I (i + 1), p.X⟩)
  (done : ∀ ρ S, I ds.length ρ S → N ρ S) : (forL g s ds ρ S).al N p := by
 have key : ∀ (n k : Nat) (ρ : aH) (S : Store), n = ds.length - k → k ≤ ds.length → I k ρ S → (forL g s (ds.drop k) ρ S).al N p := by
  intro n
  induction n with
  | zero =>
   intro k ρ S hn hk h
   have e : k = ds.length := by omega
   subst e
   rw [List.drop_length]
   exact done _ _ h
  | succ n ih =>
   intro k ρ S hn hk h
   have hl : k < ds.length := by omega
   rw [List.drop_eq_getElem_cons hl]
   obtain ⟨⟨ρ1, S1⟩, e, q⟩ := step k ds[k] ρ S (List.getElem?_eq_getElem hl) h
   simp only [forL, e]
   cases es : s ρ1 S1 with
   | nx ρ2 S2 => rw [es] at q; exact ih (k + 1) ρ2 S2 (by omega) hl q
   | ct ρ2 S2 => rw [es] at q; exact ih (k + 1) ρ2 S2 (by omega) hl q
   | bk ρ2 S2 => rw [es] at q; exact q
   | rt d S2 => rw [es] at q; exact q
   | exc e ρ2 S2 => rw [es] at q; exact q
   | stuck => rw [es] at q; exact q
 have := key ds.length 0 ρ S (by simp) (Nat.zero_le _) h0
 simpa using this
end
/-- S is S0 but for the generator at n -/
def RS (S0 : Store) (n : Nat) (S : Store) : Prop := ∃ a b : Int, 0 ≤ a ∧ 0 ≤ b ∧ b < 2 ^ 33 ∧ n < S0.length ∧ S = S0.set n (.lst [.int a, .int b])
theorem RS.at {S0 S : Store} {n : Nat} (h : RS S0 n S) : jx S n := by
 obtain ⟨a, b, h1, h2, h3, h4, rfl⟩ := h
 exact ⟨a, b, List.getElem?_set_self h4, h1, h2, h3⟩
theorem IB {S : Store} {n : Nat} {m : Int} (h : jx S n) (h0 : 0 < m) (h1 : m < 1073741824) : ∃ d a b, (eV 3 tK) [.ref n, .int m] S = .ok (.int d) (S.set n (.lst [.int a, .int b])) ∧ 0 ≤ d ∧ d < m ∧ 0 ≤ a ∧ 0 ≤ b ∧ b < 2 ^ 33 := by
 obtain ⟨a, b, e, ha, hb, hb2⟩ := h
 have hl : n < S.length := (List.getElem?_eq_some_iff.mp e).1
 by_cases hp : 0 < a
 ·refine ⟨a % m, a / m, b, ?_, Int.emod_nonneg _ (by omega), Int.emod_lt_of_pos _ h0, Int.ediv_nonneg ha (by omega), hb, hb2⟩
  unfold eV tK
  simp [bD, gQ, fR, aF, aA, mC, cW, cH, e, R.bind, R.opt, R.st, mF, atI, ixN, j7, hp, jc, aN, ak, aq, qN, m7, gq, gU, lZ, jT, gR, qQ, cU, h0, h1]
 ·have hm : m ≠ 0 := by omega
  obtain ⟨c, hc⟩ : ∃ c : Int, c = (b * 48271 + 20011).fmod 2147483399 := ⟨_, rfl⟩
  have c0 : 0 ≤ c := by rw [hc, Int.fmod_eq_emod_of_nonneg _ (by decide)]; exact Int.emod_nonneg _ (by decide)
  have c1 : c < 2147483399 := by rw [hc, Int.fmod_eq_emod_of_nonneg _ (by decide)]; exact Int.emod_lt_of_pos _ (by decide)
  have k1 : iU b 48271 = true := by unfold iU; simp
  have k2 : iU c c = true := by unfold iU; simp; omega
  have e2 : ∀ x : SO, (S.set n x)[n]? = some x := fun x => List.getElem?_set_self hl
  refine ⟨(((c * c).fmod 2147483323).fdiv 13).fmod m, a, c, ?_, ?_, ?_, ha, c0, by omega⟩
  ·unfold eV tK
   simp [bD, gQ, fR, aF, aA, mC, cW, cH, e, R.bind, R.opt, R.st, mF, atI, ixN, j7, hp, jc, j9, jT, qQ, cU, gA, bG, iG, qF, k1, k2, ← hc, hm, e2]
  ·rw [Int.fmod_eq_emod_of_nonneg _ (by omega)]; exact Int.emod_nonneg _ hm
  ·rw [Int.fmod_eq_emod_of_nonneg _ (by omega)]; exact Int.emod_lt_of_pos _ h0
theorem BE {S0 S : Store} {n : Nat} {m : Int} {Q : D → Store → Prop} {E : cM → Store → Prop} (h : RS S0 n S) (h0 : 0 < m) (h1 : m < 1073741824) (k : ∀ d S', 0 ≤ d → d < m → RS S0 n S' → Q (.int d) S') : ((eV 3 tK) [.ref n, .int m] S).al Q E := by
 obtain ⟨d, a, b, e, d0, d1, a0, b0, b1⟩ := IB h.at h0 h1
 rw [e]
 obtain ⟨a', b', _, _, _, h4, rfl⟩ := h
 exact k d _ d0 d1 ⟨a, b, a0, b0, b1, h4, by rw [List.set_set]⟩
def kW : Key → Nat
 | .inl _ => 0
 | .inr x => x.length
def IC : Key → Prop
 | .inl i => i.natAbs < 10 ^ 60
 | .inr x => ∀ c ∈ x.cps.toList, c < 0x110000
mutual
def iY : D → Prop
 | .non => True
 | .bl _ => True
 | .int i => i.natAbs < 10 ^ 60
 | .str x => ∀ c ∈ x.cps.toList, c < 0x110000
 | .tup xs => jy xs
 | .lst xs => jy xs
 | .dct kvs => vB kvs
 | .ref _ => False
 | .ty _ => False
 | .fn _ => False
def jy : List D → Prop
 | [] => True
 | d :: r => iY d ∧ jy r
def vB : List (Key × D) → Prop
 | [] => True
 | p :: r => IE p ∧ vB r
def IE : Key × D → Prop
 | (k, d) => IC k ∧ iY d
end
mutual
def qU : D → Nat
 | .str x => x.length
 | .tup xs => qW xs
 | .lst xs => qW xs
 | .dct kvs => BF kvs
 | .non => 0
 | .bl _ => 0
 | .int _ => 0
 | .ref _ => 0
 | .ty _ => 0
 | .fn _ => 0
def qW : List D → Nat
 | [] => 0
 | d :: r => qU d + 1 + qW r
def BF : List (Key × D) → Nat
 | [] => 0
 | p :: r => IG p + BF r
def IG : Key × D → Nat
 | (k, d) => kW k + qU d + 2
end
mutual
def iH : D → Nat
 | .tup xs => jU xs + 1
 | .lst xs => jU xs + 1
 | .dct kvs => BH kvs + 1
 | .str _ => 0
 | .non => 0
 | .bl _ => 0
 | .int _ => 0
 | .ref _ => 0
 | .ty _ => 0
 | .fn _ => 0
def jU : List D → Nat
 | [] => 0
 | d :: r => max (iH d) (jU r)
def BH : List (Key × D) → Nat
 | [] => 0
 | p :: r => max (II p) (BH r)
def II : Key × D → Nat
 | (_, d) => iH d
end
theorem IJ {S : Store} {d : D} (h : mG d = true) : Mi.top S d = d := by unfold Mi.top; rw [if_pos h]
theorem BJ (S : Store) : ∀ xs : List D, (i7 S xs).length = xs.length
 | [] => rfl
 | _ :: r => by simp only [i7, List.length_cons, BJ S r]
theorem IK (S : Store) (xs : List D) : ∃ ys, Mi.top S (.tup xs) = .tup ys ∧ ys.length = xs.length := by
 unfold Mi.top
 split
 ·exact ⟨xs, rfl, rfl⟩
 ·exact ⟨i7 S (i7 S (i7 S (i7 S (i7 S xs)))), by simp only [stp], by simp only [BJ]⟩
theorem BK : ∀ {ds : List D}, jy ds ↔ ∀ d ∈ ds, iY d
 | [] => by simp [jy]
 | d :: r => by simp only [jy, BK (ds := r), List.mem_cons, forall_eq_or_imp]
theorem BL {i : Nat} {a : EX} {ρ : aH} {S : Store} {N : aH → Store → Prop} {p : Po} : (Ax i a ρ S).al N p ↔ match ρ[i]? with
  | some (Sl.ow (.lst xs)) => (a ρ S).al (fun d S1 => xs.length < sizeLine ∧ N (ρ.set i (.ow (.lst (xs ++ [d])))) S1) (fun e S => p.E e S ∧ p.X e ρ S)
  | some (Sl.sh (.ref n)) => (match S[n]? with
   | some (.lst _) => (a ρ S).al (fun d S1 => ∃ xs, S1[n]? = some (.lst xs) ∧ xs.length < sizeLine ∧ N ρ (S1.set n (.lst (xs ++ [d])))) (fun e S => p.E e S ∧ p.X e ρ S)
   | _ => False)
  | _ => False := by
 unfold Ax
 rcases ρ[i]? with _ | (_ | d | d | d)
 ·exact Iff.rfl
 ·exact Iff.rfl
 ·cases d with
  | ref n =>
   simp only
   rcases hS : S[n]? with _ | (ys | ys | ⟨c, fs⟩ | ys | ys | ⟨c, m⟩ | fs)
   ·exact Iff.rfl
   ·simp only [iW]
    refine iff_of_eq (congrArg (fun z => R.al (a ρ S) z _) (funext fun d => funext fun S1 => propext ?_))
    rcases h : S1[n]? with _ | (xs | xs | ⟨c, fs⟩ | xs | xs | ⟨c, m⟩ | fs)
    ·simp [SR.al]
    ·by_cases h2 : xs.length < sizeLine <;> simp [h2, SR.al]
    ·simp [SR.al]
    ·simp [SR.al]
    ·simp [SR.al]
    ·simp [SR.al]
    ·simp [SR.al]
    ·simp [SR.al]
   ·exact Iff.rfl
   ·exact Iff.rfl
   ·exact Iff.rfl
   ·exact Iff.rfl
   ·exact Iff.rfl
   ·exact Iff.rfl
  | _ => exact Iff.rfl
 ·cases d with
  | lst xs =>
   simp only [iW]
   refine iff_of_eq (congrArg (fun z => R.al (a ρ S) z _) (funext fun d => funext fun S1 => propext ?_))
   by_cases h : xs.length < sizeLine <;> simp [h, SR.al]
  | _ => exact Iff.rfl
 ·exact Iff.rfl
theorem IL {j : Int} (h : 0 ≤ j ∧ j < 2 ^ 62) : pA [.int j] = some (jw 0 j.toNat) := by
 unfold pA
 simp only
 rw [if_pos (by omega)]
theorem IP {n : Nat} : (jw 0 n).length = n := by simp [jw]
theorem IQ {n i : Nat} {d : D} (h : (jw 0 n)[i]? = some d) : d = .int i ∧ i < n := by
 have hi := (List.getElem?_eq_some_iff.mp h).1
 rw [IP] at hi
 unfold jw at h
 rw [List.getElem?_map, List.getElem?_range hi] at h
 cases h
 exact ⟨by simp, hi⟩
mutual
/-- no dict in it -/
def dF : D → Prop
 | .non => True
 | .bl _ => True
 | .int _ => True
 | .str x => ∀ c ∈ x.cps.toList, c < 0x110000
 | .tup xs => je xs
 | .lst xs => je xs
 | .dct _ => False
 | .ref _ => False
 | .ty _ => False
 | .fn _ => False
def je : List D → Prop
 | [] => True
 | d :: r => dF d ∧ je r
end
mutual
theorem BO : ∀ d : D, dF d → ∃ p, toPy false d = some p ∧ p.canLay0 = true ∧ p.depth = iH d
 | .non, _ => ⟨.none, rfl, rfl, rfl⟩
 | .bl b, _ => ⟨.bool b, rfl, rfl, rfl⟩
 | .int i, _ => ⟨.int i, rfl, rfl, rfl⟩
 | .str x, h => ⟨.str x, rfl, by
   have h' : ∀ c ∈ x.cps.toList, c < 0x110000 := by simpa only [dF] using h
   simp only [PyData.canLay0, PyData.strOk]
   exact Array.all_eq_true_iff_forall_mem.mpr fun c hc => decide_eq_true (h' c (Array.mem_toList_iff.mpr hc)), rfl⟩
 | .tup xs, h => by
  obtain ⟨ps, e, s, t⟩ := vC xs (by simpa only [dF] using h)
  exact ⟨.tuple ps, by simp only [toPy, e], by simpa only [PyData.canLay0] using s, by simp only [PyData.depth, iH, t]⟩
 | .lst xs, h => by
  obtain ⟨ps, e, s, t⟩ := vC xs (by simpa only [dF] using h)
  exact ⟨.list ps, by simp only [toPy, e], by simpa only [PyData.canLay0] using s, by simp only [PyData.depth, iH, t]⟩
 | .dct kvs, h => by simp only [dF] at h
 | .ref _, h => by simp only [dF] at h
 | .ty _, h => by simp only [dF] at h
 | .fn _, h => by simp only [dF] at h
theorem vC : ∀ ds : List D, je ds → ∃ p, i6 false ds = some p ∧ PyData.canLayAll0 p = true ∧ PyData.depthAll p = jU ds
 | [], _ => ⟨[], rfl, rfl, rfl⟩
 | d :: r, h => by
  have h' : dF d ∧ je r := by simpa only [je] using h
  obtain ⟨p, e1, s1, t1⟩ := BO d h'.1
  obtain ⟨ps, e2, s2, t2⟩ := vC r h'.2
  exact ⟨p :: ps, by simp only [i6, e1, e2], by simp only [PyData.canLayAll0, s1, s2, Bool.and_true], by simp only [PyData.depthAll, jU, t1, t2]⟩
end
mutual
theorem BP : ∀ d : D, dF d → mG d = true
 | .non, _ => rfl
 | .bl _, _ => rfl
 | .int _, _ => rfl
 | .str _, _ => rfl
 | .tup xs, h => by simp only [mG]; exact vD xs (by simpa only [dF] using h)
 | .lst xs, h => by simp only [mG]; exact vD xs (by simpa only [dF] using h)
 | .dct xs, h => by simp only [dF] at h
 | .ref _, h => by simp only [dF] at h
 | .ty _, _ => rfl
 | .fn _, _ => rfl
theorem vD : ∀ ds : List D, je ds → qK ds = true
 | [], _ => rfl
 | d :: r, h => by
  have h' : dF d ∧ je r := by simpa only [je] using h
  simp only [qK, BP d h'.1, vD r h'.2, Bool.and_self]
end
theorem IT {S : Store} {d : D} (h : dF d) : Mi.top S d = d := IJ (BP d h)
theorem IU {S : Store} {d : D} (h : dF d) (hd : iH d ≤ 64) : ∃ p, i9 S d = some p ∧ toPy false d = some p ∧ p.canLay0 = true := by
 obtain ⟨p, e, s, t⟩ := BO d h
 refine ⟨p, ?_, e, s⟩
 unfold i9
 simp only [IT h, e]
 rw [if_pos]
 unfold SeqAt.shaped
 rw [s, t, decide_eq_true hd]
 rfl
theorem IV {S : Store} {a b : D} {p q : PyData} (h1 : i9 S a = some p) (h2 : i9 S b = some q) (hs : ∀ x y, ¬ (a = .str x ∧ b = .str y)) : iV S a b = some (PyData.eqv p q) := by
 cases a <;> cases b <;> first
  | (exact absurd ⟨rfl, rfl⟩ (hs _ _))
  | (have e : p = q := Option.some.inj (h1.symm.trans h2); subst e; simp only [iV, h1]; done)
  | (simp only [iV, h1, h2]; done)
theorem eq_refl {S : Store} {d : D} (h : dF d) (hd : iH d ≤ 64) : iV S d d = some true := by
 obtain ⟨p, e, _, s⟩ := IU (S := S) h hd
 by_cases hs : ∃ x, d = .str x
 ·obtain ⟨x, rfl⟩ := hs
  simp [iV]
 ·rw [IV e e fun x y z => hs ⟨x, z.1⟩, SeqAt.eqv_refl p s]
theorem IW {S : Store} {x y : D} {b : Bool} (h : iV S x y = some b) : fM S x y = some (.bl b) := by
 unfold fM
 split
 ·rename_i xs
  unfold iV at h
  simp only at h
  have e3 : i9 S (.tup []) = some (.tuple []) := rfl
  rw [e3] at h
  cases e : i9 S (.tup xs) with
  | none => rw [e] at h; cases h
  | some p =>
   rw [e] at h
   cases h
   unfold i9 at e
   obtain ⟨ys, ey, el⟩ := IK S xs
   rw [ey] at e
   simp only [toPy] at e
   cases ys with
   | nil =>
    have : xs = [] := List.length_eq_zero_iff.mp el.symm
    subst this
    cases e; rfl
   | cons x zs =>
    cases xs with
    | nil => cases el
    | cons x0 xs0 =>
    cases e4 : i6 false (x :: zs) with
    | none => rw [e4] at e; cases e
    | some l =>
     rw [e4] at e
     simp only at e
     split at e
     ·cases e
      cases l with
      | nil =>
       simp only [i6] at e4
       split at e4
       ·split at e4 <;> cases e4
       ·cases e4
      | cons a l => simp [PyData.eqv, PyData.eqvAll]
     ·cases e
 ·rw [h]
theorem IX {S : Store} {d : D} (h : dF d) (hd : iH d ≤ 64) : fM S d d = some (.bl true) := IW (eq_refl h hd)
section
variable {S : Store} {i j : Int} {x y : Str} {xs ys : List D} {p : Bool}
theorem BQ : bG S (.int i) (.int j) = some (.int (i + j)) := rfl
theorem tL (h : xs.length + ys.length ≤ sizeLine) : bG S (.lst xs) (.lst ys) = some (.lst (xs ++ ys)) := by
 show (if xs.length + ys.length ≤ sizeLine then some (D.lst (xs ++ ys)) else none) = _
 rw [if_pos h]
theorem BR : Iu S (.int i) (.int j) = some (.int (i + j)) := rfl
theorem BU : oY S (.int i) (.int j) = some (.int (i - j)) := rfl
theorem BV : qG S (.int i) = some (.int (-i)) := rfl
theorem BW : jP S (.int i) (.int j) = some (.bl (decide (i < j))) := rfl
theorem BZ : Hg S (.int i) (.int j) = some (.bl (decide (i ≤ j))) := rfl
theorem C3 : mF S (.int i) (.int j) = some (.bl (decide (j < i))) := rfl
theorem C4 : Hh S (.int i) (.int j) = some (.bl (decide (j ≤ i))) := rfl
theorem vG : fM S (.str x) (.str y) = some (.bl (x == y)) := rfl
theorem C5 : qL S (.str x) (.str y) = some (.bl (!(x == y))) := rfl
theorem C6 : fM S (.int i) (.int j) = some (.bl (i == j)) := by
 show (match (some (PyData.eqv (.int i) (.int j)) : Option Bool) with | some b => some (D.bl b) | none => none) = _
 simp [PyData.eqv]
theorem C7 : qL S (.int i) (.int j) = some (.bl (!(i == j))) := by
 show (match (some (PyData.eqv (.int i) (.int j)) : Option Bool) with | some b => some (D.bl (!b)) | none => none) = _
 simp [PyData.eqv]
theorem vH : cW S (.lst xs) (.int i) = atI xs i := rfl
theorem C9 : cW S (.tup xs) (.int i) = atI xs i := rfl
theorem Cd : jd S [.lst xs] = some (.int xs.length) := rfl
theorem Ce : jd S [.tup xs] = some (.int xs.length) := rfl
theorem Cg : mH S [.int i, .int j] = some (.int (max i j)) := by
 show some (D.int (if j > i then j else i)) = _
 congr 2
 split <;> omega
theorem Ci : sY S [.int i, .int j] = some (.int (min i j)) := by
 show some (D.int (if j < i then j else i)) = _
 congr 2
 split <;> omega
theorem Cj : jQ S [.int i] = some (.int (if i < 0 then -i else i)) := rfl
theorem Ck : j7 (.bl p) = some p := rfl
theorem Cm : dD S (.bl p) = some p := rfl
theorem Cp : itemsOf (.lst xs) = some xs := rfl
theorem Cq : itemsOf (.tup xs) = some xs := rfl
theorem Cr : itemsOf (.str x) = some (qw x) := rfl
theorem Cu : fTuple S [.lst xs] = some (.tup xs) := rfl
theorem Cy : fTuple S [.tup xs] = some (.tup xs) := rfl
theorem Cz : HH S (.str x) (.str y) = some (.bl (v8 x y)) := rfl
theorem CA : HJ S (.str x) (.str y) = some (.bl (!v8 x y)) := rfl
theorem CB : HG S .non .non = some (.bl true) := rfl
theorem CF : (some (D.bl p)).bind j7 = some p := rfl
end
theorem IY {xs : List D} {i : Nat} (h : i < xs.length) : atI xs (i : Int) = xs[i]? := by
 unfold atI ixN
 rw [if_pos (by omega), if_pos (by omega)]
 simp
theorem J5 {S : Store} {ns : List Int} {k : Nat} {Q : D → Store → Prop} {E : cM → Store → Prop} (hn : ns.length ≤ 63) (hk : k < 100) (q : ∀ S', RS (S ++ [.lst []]) S.length S' → Q (.ref S.length) S') : ((eV 3 tH) [.lst (cI ns), .int k] S).al Q E := by
 have hl : (cI ns).length = ns.length := by unfold cI; rw [List.length_map]
 have key : ∀ z : Int, (iT (fR (aF jP (aA 1) (aN jd (ak (aA 0) aq)))) (aF cW (aA 0) (aA 1)) (aF bG (aF gA (mC (.int 13)) (aA 1)) (mC (.int 6)))) [.sh (.lst (cI ns)), .sh (.int k), .un] S = .ok (.int z) S →
   ((eV 3 tH) [.lst (cI ns), .int k] S).al Q E := by
  intro z hz
  obtain ⟨A, hA⟩ : ∃ A : Int, A = (if z < 0 then -z else z) := ⟨_, rfl⟩
  have hA0 : 0 ≤ A := by rw [hA]; split <;> omega
  obtain ⟨B, hB⟩ : ∃ B : Int, B = A.fmod 2147483579 := ⟨_, rfl⟩
  have hB0 : 0 ≤ B := by rw [hB, Int.fmod_eq_emod_of_nonneg _ (by decide)]; exact Int.emod_nonneg _ (by decide)
  have hB1 : B < 2147483579 := by rw [hB, Int.fmod_eq_emod_of_nonneg _ (by decide)]; exact Int.emod_lt_of_pos _ (by decide)
  have k1 : iU 307 (k : Int) = true := by unfold iU; simp
  have e : (eV 3 tH) [.lst (cI ns), .int k] S = .ok (.ref S.length) (S ++ [.lst [.int (if A - 1000000000000000000 > 0 then A - 1000000000000000000 else 0), .int (B + 307 * k + 11)]]) := by
   unfold eV tH
   simp only [List.length_cons, List.length_nil, List.map_cons, List.map_nil, List.replicate, List.cons_append, List.nil_append, bD, bR]
   rw [hz]
   simp [R.st, cU, ql, bL, ak, aq, aN, aF, mC, aA, mH, jQ, oY, mD, bG, iG, gA, R.bind, R.opt, ← hA, ← hB, k1, rW, sizeLine_eq, uK]
  rw [e]
  refine q _ ⟨(if A - 1000000000000000000 > 0 then A - 1000000000000000000 else 0), (B + 307 * k + 11), ?_, ?_, ?_, by simp, ?_⟩
  ·split <;> omega
  ·omega
  ·omega
  ·rw [List.set_append_right _ _ (Nat.le_refl _)]; simp
 by_cases hlt : k < ns.length
 ·refine key ns[k] ?_
  simp [iT, fR, aF, aA, aN, ak, aq, jd, cH, hl, jP, R.bind, R.opt, j7, hlt, cW, atI, ixN, cI]
 ·refine key (13 * k + 6) ?_
  have k1 : iU 13 (k : Int) = true := by unfold iU; simp
  simp [iT, fR, aF, aA, aN, ak, aq, jd, cH, hl, jP, R.bind, R.opt, j7, hlt, mC, gA, bG, k1]
section
variable {pr : Program} {w : World}
/-- repr(v), as an f-string asks for it -/
theorem J8 {A : Around} {E Q : Value → Shared → Prop} {s : Shared} {v : Value} {d : PyData} (r : RD s.heap v d) (sh : d.showable = true) (sz : d.shown.length ≤ sizeLine) (hg : A.guards = some []) (hu : A.units + (d.depth + 1) < cLine)
  (hQ : ∀ h' u tk, (∀ b o, s.heap.get? b = some o → h'.get? b = some o) → Q (.str d.shown u) { s with heap := h', toks := tk }) : wpAny (model pr w) A (pyReprObj v) Q E s := by
 cases r with
 | non => simp only [PyData.shown] at hQ; exact wpAny_pyReprObj_gives (PySem.typeIs_none s) F.slot_NoneType_repr F.entry_NoneType_repr (F.args_NoneType_repr_1 _) gives_none_repr (hQ s.heap _ _ fun _ _ e => e)
 | bl b => simp only [PyData.shown] at hQ; exact wpAny_pyReprObj_gives (PySem.typeIs_bool s b) F.slot_bool_repr F.entry_bool_repr (F.args_bool_repr_1 _) (gives_bool_repr b) (hQ s.heap _ _ fun _ _ e => e) (hx := by cases b <;> decide)
 | int i t => simp only [PyData.shown] at hQ; exact pyReprObj_int (by simpa [PyData.showable] using sh) (hQ s.heap _ _ fun _ _ e => e)
 | str x t => simp only [PyData.shown] at hQ sz; exact pyReprObj_str (hQ s.heap _ _ fun _ _ e => e) sz
 | @lst a o l n xs g c e r =>
  simp only [PyData.shown] at sz hQ
  simp only [PyData.depth] at hu
  obtain ⟨bs, hb, k⟩ := fH (pr := pr) (w := w) r (by simpa [PyData.showable] using sh) fun t m => Nat.le_trans (listText_mem_le m) sz
  obtain ⟨as, rr⟩ := (RD.lst g c e r).reads
  have out := not_mem_of_deeper rr (by simp only [PyData.depth]; omega : PyData.depthAll xs < _) hb
  refine wpAny_pyReprObj_slot (by omega) ⟨o, g, c⟩ F.slot_list_repr.toG ?_
  match l, e, k with
  | [], e, k =>
   cases hx : PyData.shownAll xs with
   | cons t ts => rw [hx] at k; cases k
   | nil => rw [hx, listText_nil] at hQ; exact call_list_repr_empty ⟨o, g, c⟩ g e ⟨_, _, rfl, hQ s.heap _ _ fun _ _ e => e⟩
  | x :: l, e, k => exact call_list_reprK g c e out (by simpa using (qO k).symm) (fun i y z => k.item i y (by simpa using z)) hg (fun b _ => Clear.nil b) (by omega) (fun _ _ e => e) (fun h' u tk q => ⟨_, _, rfl, hQ h' u tk q⟩) sz
 | @tup a o l n xs g c e r =>
  simp only [PyData.shown] at sz hQ
  simp only [PyData.depth] at hu
  obtain ⟨bs, hb, k⟩ := fH (pr := pr) (w := w) r (by simpa [PyData.showable] using sh) fun t m => Nat.le_trans (tupleText_mem_le m) sz
  obtain ⟨as, rr⟩ := (RD.tup g c e r).reads
  have out := not_mem_of_deeper rr (by simp only [PyData.depth]; omega : PyData.depthAll xs < _) hb
  refine wpAny_pyReprObj_slot (by omega) ⟨o, g, c⟩ F.slot_tuple_repr ?_
  exact call_tuple_reprK g c e out (by simpa using k) hg (fun b _ => Clear.nil b) (by omega) (fun _ _ e => e) (fun h' u tk q => ⟨_, _, rfl, hQ h' u tk q⟩) sz
 | @dct a o es n kvs g c e sy r1 r2 =>
  simp only [PyData.shown] at sz hQ
  simp only [PyData.depth] at hu
  obtain ⟨sh1, mJ⟩ := PyData.showableKv_split kvs (by simpa [PyData.showable] using sh)
  have low : ∀ t : Str, (∃ p ∈ PyData.shownKv kvs, t.length ≤ p.length) → t.length ≤ sizeLine := fun t ⟨p, m, q⟩ => Nat.le_trans q (Nat.le_trans (dictText_mem_le m) sz)
  obtain ⟨b1, hb1, k1⟩ := fH (pr := pr) (w := w) r1 sh1 fun t m => low t (PyData.shownKv_key_le kvs t m)
  obtain ⟨b2, hb2, k2⟩ := fH (pr := pr) (w := w) r2 mJ fun t m => low t (PyData.shownKv_val_le kvs t m)
  obtain ⟨as, rr⟩ := (RD.dct g c e sy r1 r2).reads
  have l1 := PyData.depthAll_keys_le kvs
  have l2 := PyData.depthAll_vals_le kvs
  have out := not_mem_of_deeper rr (by simp only [PyData.depth]; omega : PyData.depthKv kvs < _) ((hb1.mono l1).append (hb2.mono l2))
  refine wpAny_pyReprObj_slot (by omega) ⟨o, g, c⟩ F.slot_dict_repr ?_
  rw [PyData.shownKv_eq] at sz hQ
  refine call_dict_reprK g c e sy out (ReprEntriesK.of_two _ _ _ (k1.more_le (fun b m => ?_) l1) (k2.more_le (fun b m => ?_) l2)) hg (fun b _ => Clear.nil b) (by omega) (fun _ _ e => e) (fun h' u tk q => ⟨_, _, rfl, hQ h' u tk q⟩) sz
  ·exact List.mem_append.mpr (.inl m)
  ·exact List.mem_append.mpr (.inr m)
end
def fP (S : Store) (d : D) : Option D := match toPy true (top S d) with
 | some p => if p.showable = true ∧ p.shown.length ≤ sizeLine ∧ p.depth ≤ 64 then some (.str p.shown) else none
 | none => none
def qX : List EX → Str → EX
 | [], acc => fun _ S => .ok (.str acc) S
 | t :: ts, acc => fun ρ S => (t ρ S).bind fun x S1 => match x with
  | .str y => if (acc ++ y).length ≤ sizeLine then qX ts (acc ++ y) ρ S1 else .stuck
  | _ => .stuck
def fZ (ts : List EX) : EX := qX ts Str.empty
section
variable {X : Cx} {W : WX} {b : Bool} {e : Expr} {ma : EX} {pos : Pos}
theorem iI (hg : X.A.guards = some []) (hu : X.A.units + 65 < cLine) (he : PM (au X) W b X e ma) : PM (au X) W b X (.FormattedValue e 114 none pos) (d7 fP ma) := by
 refine ⟨fun pins s σ H Q I h => ?_⟩
 have h' := uO (r := fun x H1 Q => tD X [x] H1 Q) (fun Z H β S x dx dz Q A rx e k => by
  unfold fP at e
  split at e
  ·rename_i p ep
   split at e
   ·rename_i hz
    cases e
    exact ⟨β, x, top S dx, p, rfl, rx.top A.st, ep, hz.1, hz.2.1, hz.2.2, k _ H (Same.refl _) (.str _)⟩
   ·cases e
  ·cases e) h
 refine wpAny_FormattedValue_repr (thn (he.run pins s σ H _ I h') fun v s1 hv => ?_)
 obtain ⟨x, H1, I1, r1, β, x', d, p, ex, rv, e, h1, h2, h3, q⟩ := hv
 cases ex
 exact J8 (qP I1 rv r1 e) h1 h2 hg (by omega) fun h' t tk k => wpAny_formatField_str ⟨.str p.shown, H1, I1.kept k, ⟨_, rfl⟩, q⟩ ⟨.str p.shown, H1, I1.kept k, ⟨_, rfl⟩, q⟩ h2
inductive dR (C : Ct) (W : WX) (b : Bool) (X : Cx) : List Expr → List EX → Prop where
 | nil : dR C W b X [] []
 | cons {e : Expr} {m : EX} {es : List Expr} {ms : List EX} (h : PM C W b X e m) (r : dR C W b X es ms) : dR C W b X (e :: es) (m :: ms)
theorem dR.pj {C : Ct} {es : List Expr} {ms : List EX} (h : dR C W b X es ms) : PJ X es (ms.map (EM C W b)) := by
 induction h with
 | nil => exact .nil
 | cons h r ih => exact .cons h ih
theorem CG {C : Ct} : ∀ {ms : List EX} {acc : Str} {σ : L2.St} {H : Hp} {Q : VK}, EM C W b (qX ms acc) σ H Q → tJs (ms.map (EM C W b)) acc σ H fun out H1 => Q (.str out) H1
 | [], acc, σ, H, Q, h => by
  obtain ⟨cf, oa, P, β, ρ, S, L, h⟩ := h
  exact h _ H β Tr.refl L (.str _)
 | m :: ms, acc, σ, H, Q, h => by
  obtain ⟨cf, oa, P, β, ρ, S, L, h⟩ := h
  unfold qX at h
  refine ⟨cf, oa, P, β, ρ, S, L, ?_⟩
  cases ea : m ρ S with
  | stuck => rw [ea] at h; exact h
  | exc e S1 => rw [ea] at h; exact h
  | ok dx S1 =>
   rw [ea] at h
   simp only [R.bind] at h
   intro x H1 β1 e1 L1 rx
   cases dx with
   | str y =>
    simp only at h
    by_cases hz : (acc ++ y).length ≤ sizeLine
    ·rw [if_pos hz] at h
     cases rx
     refine ⟨y, rfl, hz, CG ⟨cf, oa, P, β1, ρ, S1, L1, ?_⟩⟩
     cases eb : qX ms (acc ++ y) ρ S1 with
     | stuck => rw [eb] at h; exact h
     | exc e S2 =>
      rw [eb] at h
      intro cls d H' β' e2 L2 ex
      exact h cls d H' β' (e1.trans e2) L2 ex
     | ok d S2 =>
      rw [eb] at h
      intro v H' β' e2 L2 r
      exact h v H' β' (e1.trans e2) L2 r
    ·rw [if_neg hz] at h; exact h.elim
   | _ => exact (show False from h).elim
theorem gG {v1 v2 : Expr} {rest : List Expr} {ms : List EX} (h : dR (au X) W b X (v1 :: v2 :: rest) ms) : PM (au X) W b X (.JoinedStr (v1 :: v2 :: rest) pos) (fZ ms) :=
 dB (pe_joined h.pj) fun σ H Q h => CG h
end
def jf (ρ : aH) : Bool := ρ.all fun s => match s with | .ex _ => false | _ => true
def SR.chk : SR → SR
 | .nx ρ S => if jf ρ = true then .nx ρ S else .stuck
 | .bk ρ S => if jf ρ = true then .bk ρ S else .stuck
 | .ct ρ S => if jf ρ = true then .ct ρ S else .stuck
 | .exc e ρ S => if jf ρ = true then .exc e ρ S else .stuck
 | .rt d S => .rt d S
 | .stuck => .stuck
section
variable {C C' : Ct} {cf : Cf} {oa : Nat → Option Addr} {P P' : Addr → Prop} {σ : L2.St} {H H' : Hp} {β β' : List Addr} {ρ : aH} {S : Store}
theorem J9 (h : jf ρ = true) {i : Nat} {e : cM} (q : ρ[i]? = some (Sl.ex e)) : False := by
 have := List.all_eq_true.mp h _ (List.mem_of_getElem? q)
 exact Bool.false_ne_true this
theorem cJ.ct (k : C'.K = C.K) (m : C'.mg = C.mg) {a : Addr} {d : D} (h : cJ C H P β a d) : cJ C' H P β a d := by
 cases d <;> first | exact h.elim | skip
 ·obtain ⟨xs, q, r⟩ := h; exact ⟨xs, q, r.ct k m⟩
 ·obtain ⟨xs, q, r⟩ := h; exact ⟨xs, q, r.ct k m⟩
theorem LR.ct (k : C'.K = C.K) (m : C'.mg = C.mg) (L : LR C cf oa P σ H β ρ S) (hn : jf ρ = true) : LR C' cf oa P σ H β ρ S where
 len := L.len
 p := L.p
 sub := L.sub
 p0 := L.p0
 ext := L.ext
 own := L.own
 inj := L.inj
 st := L.st.ct k m
 slot := fun i d h => let ⟨v, q1, q2⟩ := L.slot i d h; ⟨v, q1, q2.ct k m⟩
 dM := fun i d h => let ⟨a, q1, q2, q3⟩ := L.dM i d h; ⟨a, q1, q2, q3.ct k m⟩
 xslot := fun i e h => (J9 hn h).elim
theorem SQ.ct {W : WX} {D : Ends} {r : SR} (k : C'.K = C.K) (m : C'.mg = C.mg) (h : SQ C W cf H P β D r.chk) : SQ C' W cf H P β D r := by
 cases r with
 | nx ρ1 S1 =>
  unfold SR.chk at h
  by_cases hn : jf ρ1 = true
  ·simp only [if_pos hn] at h
   exact fun σ' H' β' cZ P' L f => h σ' H' β' cZ P' (L.ct k.symm m.symm hn) f
  ·simp only [if_neg hn] at h; exact h.elim
 | bk ρ1 S1 =>
  unfold SR.chk at h
  by_cases hn : jf ρ1 = true
  ·simp only [if_pos hn] at h
   exact fun σ' H' β' cZ P' L f => h σ' H' β' cZ P' (L.ct k.symm m.symm hn) f
  ·simp only [if_neg hn] at h; exact h.elim
 | ct ρ1 S1 =>
  unfold SR.chk at h
  by_cases hn : jf ρ1 = true
  ·simp only [if_pos hn] at h
   exact fun σ' H' β' cZ P' L f => h σ' H' β' cZ P' (L.ct k.symm m.symm hn) f
  ·simp only [if_neg hn] at h; exact h.elim
 | exc e ρ1 S1 =>
  unfold SR.chk at h
  by_cases hn : jf ρ1 = true
  ·simp only [if_pos hn] at h
   exact fun cls x σ' H' β' cZ P' L f q => h cls x σ' H' β' cZ P' (L.ct k.symm m.symm hn) f (q.ct k.symm m.symm)
  ·simp only [if_neg hn] at h; exact h.elim
 | rt d S1 => exact fun v H' β' a f b c => h v H' β' a f (b.ct k.symm m.symm) (c.ct k.symm m.symm)
 | stuck => exact h
end
abbrev tM : WX := fun _ _ _ _ => False
/-- isinstance(e, ..) by a table: class, class asked for -/
def tO (T : List ((Str × Str) × Bool)) (U : List ((Str × String) × Bool)) (c : Str) : D → Option Bool
 | .fn x => T.lookup (c, x)
 | .ty n => U.lookup (c, n)
 | _ => none
def pD (T : List ((Str × Str) × Bool)) (U : List ((Str × String) × Bool)) (c : Str) : List D → Option Bool
 | [] => some false
 | d :: r => match tO T U c d with
  | some true => (pD T U c r).map fun _ => true
  | some false => pD T U c r
  | none => none
def vI (T : List ((Str × Str) × Bool)) (U : List ((Str × String) × Bool)) (c : Str) : D → Option Bool
 | .tup ds => pD T U c ds
 | d => tO T U c d
def mO (K : PySem.W.Frag) (mg : Str → Option Value) : List Str → Prop
 | [] => True
 | c :: r => (∃ Ca, mg c = some (.ref Ca) ∧ ExcC K Ca) ∧ mO K mg r
def jV (K : PySem.W.Frag) (mg : Str → Option Value) : List ((Str × Str) × Bool) → Prop
 | [] => True
 | p :: r => (∃ Ca Da, mg p.1.1 = some (.ref Ca) ∧ mg p.1.2 = some (.ref Da) ∧ PySem.W.kitOne K (.ref Ca) (.ref Da) = some p.2) ∧ jV K mg r
def jW (K : PySem.W.Frag) (mg : Str → Option Value) : List ((Str × String) × Bool) → Prop
 | [] => True
 | p :: r => (∃ Ca, mg p.1.1 = some (.ref Ca) ∧ PySem.W.kitOne K (.ref Ca) (.type p.1.2) = some p.2) ∧ jW K mg r
def tQ (K : PySem.W.Frag) (mg : Str → Option Value) (c : Value) : List (Str × Bool) → Prop
 | [] => True
 | p :: r => (∃ Ca, mg p.1 = some (.ref Ca) ∧ PySem.W.exmOne K (.ref Ca) c = some p.2) ∧ tQ K mg c r
def jg (K : PySem.W.Frag) (mg : Str → Option Value) (f : Str) : List Str → Prop
 | [] => True
 | c :: r => (∃ Ca, mg c = some (.ref Ca) ∧ PySem.W.findIn K (.ref Ca) f = some none) ∧ jg K mg f r
section
variable {K : PySem.W.Frag} {mg : Str → Option Value}
theorem mO.at : ∀ {cs : List Str}, mO K mg cs → ∀ {c : Str}, cs.contains c = true → ∀ {Ca : Addr}, mg c = some (.ref Ca) → ExcC K Ca
 | [], _, _, q, _, _ => by cases q
 | c :: r, ⟨⟨Ca, h1, h2⟩, h⟩, x, q, Da, hx => by
  rw [List.contains_cons, Bool.or_eq_true] at q
  rcases q with q | q
  ·rw [eq_of_beq q, h1] at hx
   cases hx
   exact h2
  ·exact mO.at h q hx
theorem jg.at {f : Str} : ∀ {cs : List Str}, jg K mg f cs → ∀ {c : Str}, cs.contains c = true → ∀ {Ca : Addr}, mg c = some (.ref Ca) → PySem.W.findIn K (.ref Ca) f = some none
 | [], _, _, q, _, _ => by cases q
 | c :: r, ⟨⟨Ca, h1, h2⟩, h⟩, x, q, Da, hx => by
  rw [List.contains_cons, Bool.or_eq_true] at q
  rcases q with q | q
  ·rw [eq_of_beq q, h1] at hx
   cases hx
   exact h2
  ·exact jg.at h q hx
theorem jV.at : ∀ {T : List ((Str × Str) × Bool)}, jV K mg T → ∀ {c x : Str} {b : Bool}, T.lookup (c, x) = some b → ∀ {Ca Da : Addr}, mg c = some (.ref Ca) → mg x = some (.ref Da) → PySem.W.kitOne K (.ref Ca) (.ref Da) = some b
 | [], _, _, _, _, q, _, _, _, _ => by cases q
 | ((c1, x1), b1) :: r, ⟨⟨C1, D1, h1, h2, h3⟩, h⟩, c, x, b, q, Ca, Da, hc, hx => by
  rw [List.lookup_cons] at q
  by_cases e : (c, x) == (c1, x1)
  ·simp only [e, if_true] at q
   have e' := eq_of_beq e
   cases e'
   cases q
   rw [hc] at h1; cases h1
   rw [hx] at h2; cases h2
   exact h3
  ·simp only [Bool.not_eq_true] at e
   simp only [e, Bool.false_eq_true, if_false] at q
   exact jV.at h q hc hx
theorem jW.at : ∀ {T : List ((Str × String) × Bool)}, jW K mg T → ∀ {c : Str} {n : String} {b : Bool}, T.lookup (c, n) = some b → ∀ {Ca : Addr}, mg c = some (.ref Ca) → PySem.W.kitOne K (.ref Ca) (.type n) = some b
 | [], _, _, _, _, q, _, _ => by cases q
 | ((c1, x1), b1) :: r, ⟨⟨C1, h1, h3⟩, h⟩, c, x, b, q, Ca, hc => by
  rw [List.lookup_cons] at q
  by_cases e : (c, x) == (c1, x1)
  ·simp only [e, if_true] at q
   have e' := eq_of_beq e
   cases e'
   cases q
   rw [hc] at h1; cases h1
   exact h3
  ·simp only [Bool.not_eq_true] at e
   simp only [e, Bool.false_eq_true, if_false] at q
   exact jW.at h q hc
theorem tQ.at {k : Value} : ∀ {T : List (Str × Bool)}, tQ K mg k T → ∀ {c : Str} {b : Bool}, T.lookup c = some b → ∀ {Ca : Addr}, mg c = some (.ref Ca) → PySem.W.exmOne K (.ref Ca) k = some b
 | [], _, _, _, q, _, _ => by cases q
 | (c1, b1) :: r, ⟨⟨C1, h1, h3⟩, h⟩, c, b, q, Ca, hc => by
  rw [List.lookup_cons] at q
  by_cases e : c == c1
  ·simp only [e, if_true] at q
   have e' := eq_of_beq e
   cases e'
   cases q
   rw [hc] at h1; cases h1
   exact h3
  ·simp only [Bool.not_eq_true] at e
   simp only [e, Bool.false_eq_true, if_false] at q
   exact tQ.at h q hc
end
section
variable {X : Cx} {W : WX} {b : Bool} {n x : Str} {p : Pos} {t : Expr} {T : List ((Str × Str) × Bool)} {U : List ((Str × String) × Bool)}
theorem CH {C : Ct} {Ca : Addr} {e : cM} {H : Hp} {Z : Addr → Prop} {β : List Addr} {v : V} {d : D} {r : Bool} (hT : jV C.K C.mg T) (hU : jW C.K C.mg U) (hc : C.mg e.cls = some (.ref Ca)) (rv : RV C H Z β v d) (h : tO T U e.cls d = some r) :
  ∃ u, ClsV v u ∧ PySem.W.kitOne C.K (.ref Ca) u = some r := by
 cases d with
 | fn y =>
  cases rv with
  | fn hm hk => exact ⟨_, .own _, hT.at h hc hm⟩
 | ty n =>
  cases rv
  exact ⟨_, .ty _, hU.at h hc⟩
 | _ => cases h
theorem kitAny_cons {K : PySem.W.Frag} {t c : Value} {r : List Value} {b1 b : Bool} (h1 : PySem.W.kitOne K t c = some b1) (h2 : b1 = true ∧ b = true ∨ b1 = false ∧ PySem.W.kitAny K t r = some b) : PySem.W.kitAny K t (c :: r) = some b := by
 unfold PySem.W.kitAny
 rw [h1]
 rcases h2 with ⟨rfl, rfl⟩ | ⟨rfl, h2⟩
 ·rfl
 ·exact h2
theorem vJ {C : Ct} {Ca : Addr} {e : cM} {H : Hp} {Z : Addr → Prop} {β : List Addr} (hT : jV C.K C.mg T) (hU : jW C.K C.mg U) (hc : C.mg e.cls = some (.ref Ca)) : ∀ {vs : List V} {ds : List D} {r : Bool}, aC C H Z β vs ds → pD T U e.cls ds = some r →
  ∃ us, Paired ClsV vs us ∧ PySem.W.kitAny C.K (.ref Ca) us = some r
 | _, [], r, .nil, h => by cases h; exact ⟨[], .nil, rfl⟩
 | _, d :: ds, r, .cons rv rs, h => by
  unfold pD at h
  cases e1 : tO T U e.cls d with
  | none => rw [e1] at h; cases h
  | some b1 =>
   obtain ⟨u, k1, k2⟩ := CH hT hU hc rv e1
   rw [e1] at h
   cases b1 with
   | true =>
    simp only at h
    cases e2 : pD T U e.cls ds with
    | none => rw [e2] at h; cases h
    | some b2 =>
     rw [e2] at h
     cases h
     obtain ⟨us, q1, q2⟩ := vJ hT hU hc rs e2
     exact ⟨u :: us, .cons k1 q1, kitAny_cons k2 (.inl ⟨rfl, rfl⟩)⟩
   | false =>
    simp only at h
    obtain ⟨us, q1, q2⟩ := vJ hT hU hc rs h
    exact ⟨u :: us, .cons k1 q1, kitAny_cons k2 (.inr ⟨rfl, q2⟩)⟩
/-- a class of the module as a value -/
theorem dU {Ca : Addr} (hm : X.mg x = some (.ref Ca)) (hk : PySem.W.keepIn X.K (.ref Ca) = true) (hg : Gl X x := by rfl) (hdb : (x == ("__debug__" : Str)) = false := by decide) : PM (au X) W b X (.Name x p) (mC (.fn x)) :=
 Fo (v := .ref Ca) hm rfl (fun _ _ _ => .fn hm hk) hg hdb
end
/-- the base CJ __init__ is a2v -/
structure vK (K : PySem.W.Frag) (B : Addr) : Prop where
 rd : PySem.W.readsIn K B (.type "type") = true
 fv : PySem.W.findCls K (.ref B) (.type "type") "__init__" = some (.val (.builtin "ValueError.__init__"))
 sg : PySem.W.specialIn K (.ref B) "__getattribute__" = some (some (.builtin "type.__getattribute__"))
section
variable {X : Cx} {e : Expr} {es : List Expr} {ta : TA} {bx : Str} {B : Addr} {p1 p2 pos : Pos}
theorem mQ {pl : Sem Bool} (hm : X.mg bx = some (.ref B)) (T : vK X.K B) (ha : PA X (e :: es) ta) (hg : Gl X bx := by rfl) (hdb : (bx == ("__debug__" : Str)) = false := by decide)
  (hc : eval (.Call (.Attribute (.Name bx p1) "__init__" p2) (e :: es) [] pos) X.env = (do
   let ov ← eval (.Name bx p1) X.env
   standAt p2.atName
   let (f, first) ← holding [ov] (getMethod ov "__init__" pl)
   callWith pos f first (backTo pos (starEach (e :: es) X.env)) (backToKw pos (keywordEach [] X.env))) := by rfl)
  (he : starEach (e :: es) X.env = (false, eval e X.env) :: starEach es X.env := by rfl) (hpl : (backTo pos (starEach es X.env)).any (·.1) = false := by rfl) :
  PE X (.Call (.Attribute (.Name bx p1) "__init__" p2) (e :: es) [] pos) (tVeI X.K ta) := by
 refine ⟨fun pins s σ H Q I h => ?_⟩
 refine PySem.W.methodCall_KW (ld_glob I hg hm ?_ hdb) hc
 refine PySem.W.method_cls I.kIn T.sg (PySem.W.cls_value I.kIn T.rd T.fv (by decide +kernel) ?_)
 show wpAny _ _ (callWith pos (Value.builtin "ValueError.__init__") [] (backTo pos (starEach (e :: es) X.env)) []) _ _ _
 refine PyProof.Rows.callWith_method1 (thn (ha.run pos pins _ σ H _ (I.tok _) h) fun us s1 ⟨vs, H1, I1, r1, a, C, ws, ev, hl, T, ea, q⟩ => ?_) he hpl
 subst ev
 cases r1 with
 | @cons _ u0 _ ur ra rw' =>
  obtain rfl : u0 = Value.ref a := ra
  have hlen : ur.length ≤ sizeLine := by
   rw [← Paired.length rw', sizeLine_eq]
   omega
  exact oinit_ok T I1 ea hlen fun s' J => ⟨.non, H1, J, rfl, q⟩
end
/-- what an __init__ of the class at Ca a2w -/
def spI (C : Ct) (Ca : Addr) (n : Nat) (msg : EX) (fs : List Str) : Sp := fun vs H Q E => ∃ a ws, vs = V.ref a :: ws ∧ ws.length = n ∧ H a = some (exo a Ca none) ∧
 ∃ P β ds S, aK C H P β S ∧ (∀ b, P b → H b ≠ none ∧ b ∉ β) ∧ aC C H P β ws ds ∧ (∃ d S', msg (.un :: ds.map Sl.sh) S = .ok d S') ∧
 ∀ H1 dd, Same H H1 → H1 dd = none → dd ≠ a → Q .non (upd (upd H1 dd (exd dd (fs.zip ws).reverse)) a (exo a Ca (some dd)))
theorem LR.tR {C : Ct} {H : Hp} {P : Addr → Prop} {β : List Addr} {S : Store} {a : Addr} {ws : List V} {ds : List D} {N : List Str} (st : aK C H P β S) (hp : ∀ a, P a → H a ≠ none ∧ a ∉ β) (r : aC C H P β ws ds) (hN : N.length = ds.length + 1) :
  LR C ⟨H, β, P, []⟩ (fun _ => none) P (L2.start N (.ref a :: ws)) H β (.un :: ds.map Sl.sh) S where
 len := by unfold L2.start; simp [r.length, hN]
 p := hp
 sub := fun _ h => h
 p0 := fun a h => (hp a h).1
 ext := ⟨⟨[], (List.append_nil β).symm⟩, fun a o h _ => .inl h, fun _ h => .inl h, fun _ _ h => h, fun _ h => h, fun _ _ _ h => h⟩
 own := fun _ _ h => nomatch h
 inj := fun _ _ _ h => nomatch h
 st := st
 slot := fun i d h => by
  cases i with
  | zero => cases h
  | succ i =>
   rw [List.getElem?_cons_succ, List.getElem?_map] at h
   cases e : ds[i]? with
   | none => rw [e] at h; cases h
   | some x =>
    rw [e] at h
    cases h
    obtain ⟨v, hv, rv⟩ := r.get e
    refine ⟨v, ?_, rv⟩
    have hi : i < ws.length := (List.getElem?_eq_some_iff.mp hv).1
    unfold L2.start
    rw [List.getElem?_append_left (by simp; omega), List.getElem?_map, List.getElem?_cons_succ, hv]
    rfl
 dM := fun i d h => by
  cases i with
  | zero => cases h
  | succ i =>
   rw [List.getElem?_cons_succ, List.getElem?_map] at h
   cases e : ds[i]? with
   | none => rw [e] at h; cases h
   | some x => rw [e] at h; cases h
 xslot := fun i d h => by
  cases i with
  | zero => cases h
  | succ i =>
   rw [List.getElem?_cons_succ, List.getElem?_map] at h
   cases e : ds[i]? with
   | none => rw [e] at h; cases h
   | some x => rw [e] at h; cases h
section
variable {P : Program} {w : World} {K : PySem.W.Frag} {mg : Str → Option Value} {base : Heap}
/-- __init__(self, v): B.__init__(self, msg); self.f = v -/
theorem pF {x qual f v : Str} {st : Stmt} {fa Ca : Addr} {fd : FuncData} {k : Nat} {msg : EX} {s1 s2 : Stmt} (F : Fun K x qual st fa fd) (S : FnScope ["self", v] ["self", v] (defScope st)) (O : OexC K Ca) (hf : PySem.W.findIn K (.ref Ca) f = some none) (hst : defBody st = [s1, s2])
  (h1 : ∀ (cdv : Value) (A : Around) (outer : List Env) (s : Shared) (H : Hp) (E : XK), (dw P w K mg base ["self", v] qual st fa cdv A outer s H E).A.guards = some [] → Room k (dw P w K mg base ["self", v] qual st fa cdv A outer s H E).A →
   PS (dw P w K mg base ["self", v] qual st fa cdv A outer s H E) s1 (tDrop (tVeI K (tCons (tVar 0) (tCons (EM ⟨K, mg, w, []⟩ tM true msg) tNil)))) ∧
   PS (dw P w K mg base ["self", v] qual st fa cdv A outer s H E) s2 (tOst K f (tVar 0) (tVar 1))) : bJ P w K mg base (k + 1) fa fd ["self", v] (spI ⟨K, mg, w, []⟩ Ca 1 msg [f]) := by
 refine qD F S (fun vs H Q E ⟨a, ws, e, hl, _⟩ => by rw [e]; simp [hl]) fun cdv A outer s H vs Q E hg hr h => ?_
 obtain ⟨p1, p2⟩ := h1 cdv A outer s H E hg hr
 rw [hst]
 refine ⟨_, pss_cons p1 (pss_cons p2 pss_nil), ?_⟩
 obtain ⟨a, ws, rfl, hl, ea, Pf, β, ds, St, hs, hp, r, ⟨d, S', em⟩, q⟩ := h
 match ws, hl with
 | [y], _ =>
  have hN : (["self", v] : List Str).length = ds.length + 1 := by rw [← r.length]; rfl
  refine ⟨.ref a, rfl, ⟨H, β, Pf, []⟩, _, Pf, β, _, St, LR.tR hs hp r hN, ?_⟩
  rw [em]
  intro m H1 β1 t1 L1 rm
  have sm := (t1.ro rfl).1
  refine ⟨a, Ca, [m], rfl, by simp, O, sm _ _ ea, ?_⟩
  refine ⟨y, rfl, .ref a, rfl, a, Ca, rfl, O, hf, .inl ⟨sm _ _ ea, fun dx hn hne => ?_⟩⟩
  exact q H1 dx sm hn hne
end
/-- the class c, made with one field f by its own __init__ st -/
structure iJ (K : PySem.W.Frag) (mg : Str → Option Value) (c qual : Str) (st : Stmt) (f : Str) (Ca fI : Addr) (fd : FuncData) : Prop where
 m : mg c = some (.ref Ca)
 o : OexC K Ca
 i : PySem.W.findIn K (.ref Ca) "__init__" = some (some (.ref fI))
 t : PySem.W.typeIn K (.ref fI) = some (.type "function")
 f : PySem.W.findIn K (.ref Ca) f = some none
 F : Fun K "__init__" qual st fI fd
structure Th (d : D) : Prop where
 ok : iY d
 bk : qU d ≤ 2000
 dp : iH d ≤ 10
theorem CK {x : D} : ∀ {xs : List D}, x ∈ xs → qU x ≤ qW xs
 | y :: r, h => by
  simp only [qW]
  rcases List.mem_cons.mp h with rfl | h
  ·omega
  ·have := CK h; omega
theorem CL {x : D} : ∀ {xs : List D}, x ∈ xs → iH x ≤ jU xs
 | y :: r, h => by
  simp only [jU]
  rcases List.mem_cons.mp h with rfl | h
  ·omega
  ·have := CL h; omega
theorem Th.mem {xs : List D} {x : D} (h : Th (.tup xs)) (m : x ∈ xs) : Th x where
 ok := BK.mp (by simpa only [iY] using h.ok) x m
 bk := Nat.le_trans (CK m) (by have := h.bk; simpa only [qU] using this)
 dp := Nat.le_trans (CL m) (by have := h.dp; simp only [iH] at this; omega)
def CM (x : Str) : Bool := x.cps.toList.all fun c => decide (c < 0x110000)
mutual
def okB : D → Bool
 | .non => true
 | .bl _ => true
 | .int i => decide (i.natAbs < 10 ^ 60)
 | .str x => CM x
 | .tup xs => qY xs
 | .lst xs => qY xs
 | .dct [] => true
 | .dct (_ :: _) => false
 | .ref _ => false
 | .ty _ => false
 | .fn _ => false
def qY : List D → Bool
 | [] => true
 | d :: r => okB d && qY r
end
theorem Ja {x : Str} (h : CM x = true) : ∀ c ∈ x.cps.toList, c < 0x110000 := fun c hc => of_decide_eq_true (List.all_eq_true.mp h c hc)
mutual
theorem tU : ∀ {d : D}, okB d = true → iY d
 | .non, _ => trivial
 | .bl _, _ => trivial
 | .int i, h => by simp only [okB, decide_eq_true_eq] at h; simpa only [iY] using h
 | .str x, h => by simp only [okB] at h; simp only [iY]; exact Ja h
 | .tup xs, h => by simp only [okB] at h; simp only [iY]; exact vL h
 | .lst xs, h => by simp only [okB] at h; simp only [iY]; exact vL h
 | .dct [], h => by simp only [iY, vB]
 | .dct (_ :: _), h => by simp only [okB] at h; cases h
 | .ref _, h => by simp only [okB] at h; cases h
 | .ty _, h => by simp only [okB] at h; cases h
 | .fn _, h => by simp only [okB] at h; cases h
theorem vL : ∀ {ds : List D}, qY ds = true → jy ds
 | [], _ => by simp only [jy]
 | d :: r, h => by
  simp only [qY, Bool.and_eq_true] at h
  simp only [jy]
  exact ⟨tU h.1, vL h.2⟩
end
section
variable {X : Cx} {o i : Expr}
theorem PSet.or {t t' : TSet} (h : PSet X t) (h' : PSet X t') : PSet X (fun o i v H Q => t o i v H Q ∨ t' o i v H Q) := by
 intro pins s σ H o i v ov iv u Q I ro ri rv q
 rcases q with q | q
 ·exact h pins s σ H o i v ov iv u Q I ro ri rv q
 ·exact h' pins s σ H o i v ov iv u Q I ro ri rv q
end
def Jb : SO → Option SO
 | .dct k => some (.fD k)
 | .lst x => some (.fG x)
 | _ => none
section
variable {C : Ct} {cf : Cf} {oa : Nat → Option Addr} {P P' : Addr → Prop} {σ : L2.St} {H H' : Hp} {β β' : List Addr} {ρ : aH} {S : Store}
/-- what the lock needs -/
structure Lk (H : Hp) (β : List Addr) (n : Nat) (a : Addr) (u : HO) : Prop where
 at_ : β[n]? = some a
 dk : H a = some u
 mu : Mut (some u)
 fr : ∀ o v, u ≠ .frz o v
 tu : ∀ ys, u ≠ .tup ys
theorem Lk.ne {n : Nat} {a : Addr} {u : HO} (k : Lk H β n a u) : ∀ o u, H a ≠ some (.frz o u) := fun o u z => by rw [k.dk] at z; cases z; exact k.fr _ _ rfl
theorem Lk.nt {n : Nat} {a : Addr} {u : HO} (k : Lk H β n a u) : ∀ ys, ¬ Rd H a (.tup ys) := fun ys z => by
 rcases z with z | ⟨o, z⟩
 ·rw [k.dk] at z; cases z; exact k.tu _ rfl
 ·rw [k.dk] at z; cases z; exact k.fr _ _ rfl
theorem LR.lk (L : LR C cf oa P σ H β ρ S) {n : Nat} {so so' : SO} {a : Addr} (hn : β[n]? = some a) (e : S[n]? = some so) (e' : Jb so = some so') : ∃ u, Lk H β n a u ∧ ∀ od, bK C (upd H a (.frz od u)) P β a so' := by
 have q := L.st.ok _ _ _ hn e
 have m := List.mem_of_getElem? hn
 have nt := L.st.lW m
 cases so with
 | dct kvs =>
  cases e'
  obtain ⟨us, q1, q2⟩ := q
  exact ⟨.dK us, ⟨hn, q1, True.intro, (fun _ _ z => nomatch z), (fun _ z => nomatch z)⟩, fun od => ⟨od, us, upd_same, q2.set (.inr m) nt⟩⟩
 | lst xs =>
  cases e'
  obtain ⟨us, q1, q2⟩ := q
  exact ⟨.lst us, ⟨hn, q1, True.intro, (fun _ _ z => nomatch z), (fun _ z => nomatch z)⟩, fun od => ⟨od, us, upd_same, q2.set (.inr m) nt⟩⟩
 | _ => cases e'
/-- the way as a whole -/
theorem Lk.ext {n : Nat} {a : Addr} {u : HO} (k : Lk H β n a u) {od : Obj} (x : Ext (upd H a (.frz od u)) β H' β') (nt : ∀ ys, ¬ Rd H' a (.tup ys)) : Ext H β (upd H' a u) β' := by
 have m := List.mem_of_getElem? k.at_
 have x1 : Ext H β (upd H a (.frz od u)) β := Ext.wrote m k.nt k.ne
 have x2 := x1.trans x
 refine ⟨x2.pre, fun b o h hb => ?_, x2.fresh, fun b ys h => ?_, fun b h => ?_, fun b o v h => ?_⟩
 ·rw [upd_ne (fun z => hb (by rw [z]; exact m))]; exact x2.keep b o h hb
 ·have r := x2.tups b ys h
  have ne : b ≠ a := fun z => nt ys (z ▸ r)
  unfold Rd; rw [upd_ne ne]; exact r
 ·by_cases e : b = a
  ·rw [e, upd_same]; exact Option.some_ne_none _
  ·rw [upd_ne e]; exact x2.stay b h
 ·have ne : b ≠ a := fun z => k.ne o v (z ▸ h)
  rw [upd_ne ne]; exact x2.cY b o v h
theorem Lk.fx {n : Nat} {a : Addr} {u : HO} (k : Lk H β n a u) {od : Obj} (x : Fx (upd H a (.frz od u)) P β H' P' β') (hm : a ∈ β') (nt : ∀ ys, ¬ Rd H' a (.tup ys)) : Fx H P β (upd H' a u) P' β' := by
 have m := List.mem_of_getElem? k.at_
 have x1 : Ext H β (upd H a (.frz od u)) β := Ext.wrote m k.nt k.ne
 have x2 := (Fx.of (P := P) x1).trans x
 refine ⟨x2.pre, fun b v h1 h2 r => ?_, fun b o v h => ?_, fun b ys h => ?_⟩
 ·obtain ⟨q1, q2, q3⟩ := x2.con b v h1 h2 r
  have ne : b ≠ a := fun z => q3 (z ▸ hm)
  exact ⟨by unfold Rd; rw [upd_ne ne]; exact q1, q2, q3⟩
 ·have ne : b ≠ a := fun z => k.ne o v (z ▸ h)
  rw [upd_ne ne]; exact x2.fz b o v h
 ·have r := x2.tups b ys h
  have ne : b ≠ a := fun z => nt ys (z ▸ r)
  unfold Rd; rw [upd_ne ne]; exact r
theorem Lk.fs {n : Nat} {a : Addr} {u : HO} (k : Lk H β n a u) {od : Obj} (x : Fs (upd H a (.frz od u)) β H' β') : Fs H β (upd H' a u) β' := by
 refine ⟨x.pre, fun b o v h => ?_⟩
 have ne : b ≠ a := fun z => k.ne o v (z ▸ h)
 rw [upd_ne ne]; exact x.fz b o v (by rw [upd_ne ne]; exact h)
end
structure Gn (n : Nat) (S S' : Store) : Prop where
 at_ : jx S' n
 len : S'.length = S.length
 same : ∀ k, k ≠ n → S'[k]? = S[k]?
theorem Gn.refl {n : Nat} {S : Store} (h : jx S n) : Gn n S S := ⟨h, rfl, fun _ _ => rfl⟩
theorem Gn.trans {n : Nat} {S S1 S2 : Store} (a : Gn n S S1) (b : Gn n S1 S2) : Gn n S S2 := ⟨b.at_, b.len.trans a.len, fun k h => (b.same k h).trans (a.same k h)⟩
theorem CN {S : Store} {n : Nat} (h : jx S n) : RS S n S := by
 obtain ⟨a, b, e, a0, b0, b1⟩ := h
 obtain ⟨hl, e⟩ := List.getElem?_eq_some_iff.mp e
 refine ⟨a, b, a0, b0, b1, hl, ?_⟩
 rw [← e]
 exact (List.set_getElem_self hl).symm
theorem jx.app {S J : Store} {n : Nat} (h : jx S n) : jx (S ++ J) n := by
 obtain ⟨a, b, e, r⟩ := h
 exact ⟨a, b, by rw [List.getElem?_append_left (List.getElem?_eq_some_iff.mp e).1]; exact e, r⟩
/-- what a class must have for isinstance -/
structure CI (K : PySem.W.Frag) (C : Addr) : Prop where
 ha : PySem.W.findIn K (.ref C) "__class__" = some (some (.builtin "object.__class__"))
 hn : PySem.W.specialIn K (.builtin "object.__class__") "__get__" = some (some (.builtin "getset_descriptor.__get__"))
 tk : PySem.W.takesIn K (.builtin "object.__class__") = some true
 mo : PySem.W.mroIn K C (.type "object") = some true
 ct : PySem.W.typeIn K (.ref C) = some (.type "type")
/-- what a class must have -/
structure CO (K : PySem.W.Frag) (mg : Str → Option Value) (c : Str) : Prop where
 ex : ∃ Ca, mg c = some (.ref Ca) ∧ Cls K Ca ∧ CI K Ca
structure Jc (K : PySem.W.Frag) (mg : Str → Option Value) (f c : Str) : Prop where
 ex : ∃ Ca, mg c = some (.ref Ca) ∧ NoAttr K Ca f
def pG (K : PySem.W.Frag) (mg : Str → Option Value) : List Str → Prop
 | [] => True
 | c :: r => CO K mg c ∧ pG K mg r
def tV (K : PySem.W.Frag) (mg : Str → Option Value) (f : Str) : List Str → Prop
 | [] => True
 | c :: r => Jc K mg f c ∧ tV K mg f r
theorem pG.ci {K : PySem.W.Frag} {mg : Str → Option Value} {c : Str} {Ca : Addr} : ∀ {cs : List Str}, pG K mg cs → cs.contains c = true → mg c = some (.ref Ca) → Cls K Ca ∧ CI K Ca
 | [], _, h, _ => by cases h
 | x :: r, ⟨q, t⟩, h, m => by
  by_cases e : c = x
  ·subst e
   obtain ⟨Cb, h1, h2⟩ := q.ex
   rw [m] at h1; cases h1; exact h2
  ·exact pG.ci t (by rw [List.contains_cons] at h; simpa [e] using h) m
theorem pG.at {K : PySem.W.Frag} {mg : Str → Option Value} {c : Str} {Ca : Addr} {cs : List Str} (h : pG K mg cs) (q : cs.contains c = true) (m : mg c = some (.ref Ca)) : Cls K Ca := (h.ci q m).1
theorem tV.at {K : PySem.W.Frag} {mg : Str → Option Value} {f c : Str} {Ca : Addr} : ∀ {cs : List Str}, tV K mg f cs → cs.contains c = true → mg c = some (.ref Ca) → NoAttr K Ca f
 | [], _, h, _ => by cases h
 | x :: r, ⟨q, t⟩, h, m => by
  by_cases e : c = x
  ·subst e
   obtain ⟨Cb, h1, h2⟩ := q.ex
   rw [m] at h1; cases h1; exact h2
  ·exact tV.at t (by rw [List.contains_cons] at h; simpa [e] using h) m
theorem CP {C : Ct} {H : Hp} {P : Addr → Prop} {β : List Addr} {f : Str} : ∀ {vs : List (Str × V)} {fs : List (Str × D)} {d : D}, lV C H P β vs fs → fs.lookup f = some d → ∃ v, vs.lookup f = some v ∧ RV C H P β v d
 | [], [], _, _, e => by cases e
 | [], (g, w) :: r, _, h, _ => by cases h.1
 | (g, w) :: r, [], _, h, _ => by cases h.1
 | (g, w) :: vs, (g', w') :: fs, d, ⟨h1, h2⟩, e => by
  have hg : g = g' := (List.cons.inj h1).1
  subst hg
  cases h2 with
  | cons q t =>
   rw [List.lookup_cons] at e ⊢
   cases hk : (f == g) with
   | true => rw [hk] at e; cases e; exact ⟨w, rfl, q⟩
   | false => rw [hk] at e; exact CP ⟨(List.cons.inj h1).2, t⟩ e
theorem lV.set {C : Ct} {H : Hp} {P : Addr → Prop} {β : List Addr} {vs : List (Str × V)} {fs : List (Str × D)} {p : Addr} {o : HO} (h : lV C H P β vs fs) (hp : P p ∨ p ∈ β) (ht : ∀ xs, ¬ Rd H p (.tup xs)) : lV C (upd H p o) P β vs fs := ⟨h.1, h.2.set hp ht⟩
/-- how a call binds: idx places among the positional values, the keywords' values and all keyword-only defaults dvs -/
structure Bnd (K : PySem.W.Frag) (fd : FuncData) (ps ks : List Str) (n : Nat) (idx : List Nat) (dvs : List V) : Prop where
 to : ∃ its : List Value, Vals dvs its ∧ ∀ (s : Shared) (us ws : List Value), K.In s.heap → us.length = n → ws.length = ks.length → BindsTo s fd ⟨us, ks.zip ws⟩ (ps.zip (pick idx us (ws ++ its)))
section
variable {K : PySem.W.Frag} {x qual : Str} {st : Stmt} {kws : List (Str × V)} {fa : Addr} {fd : FuncData} {ps ks : List Str} {n : Nat} {idx lk : List Nat}
abbrev CQ (K : PySem.W.Frag) (x qual : Str) (st : Stmt) (kws : List (Str × V)) (fa : Addr) (fd : FuncData) : Prop := FunD K x qual (defArgs st) (defBody st) (defScope st) [] kws fa fd
theorem CT (F : CQ K x qual st kws fa fd) (B : jO st ps ks n idx) : Bnd K fd ps ks n idx [] := by
 obtain ⟨oc, od, dV, kV, doc, pm, an, cdv, ct, osl, rfl, lk, hcd, hD, hK⟩ := F.ex
 rcases hD with ⟨_, rfl⟩ | ⟨e, _⟩
 ·exact ⟨[], .nil, fun s us ws _ hu hw => .of_eq (by rw [List.append_nil]; exact B x qual kV doc pm an cdv ct us ws hu hw)⟩
 ·exact absurd rfl e
end
/-- values cX read as ds GP FA stand -/
def CD (K : PySem.W.Frag) (vs : List V) (ds : List D) : Prop := ∀ (C : Ct), C.K = K → ∀ (H : Hp) (P : Addr → Prop) (β : List Addr), aC C H P β vs ds
structure MR where
 idx : List Nat
 dd : List D
 f : FX
/-- a CJ method cX keeps its promise -/
structure CU (P : Program) (w : World) (K : PySem.W.Frag) (mg : Str → Option Value) (base : Heap) (k : Nat) (c m : Str) (st : Stmt) (ps : List Str) (kd : List (Str × D)) (f : FX) : Prop where
 ex : ∃ (Ca fa : Addr) (x qual : Str) (fd : FuncData) (kws : List (Str × V)), mg c = some (.ref Ca) ∧ Cls K Ca ∧ Meth K Ca m fa ∧ CQ K x qual st kws fa fd ∧ kws.map (·.1) = kd.map (·.1) ∧ CD K (kws.map (·.2)) (kd.map (·.2)) ∧ bJ P w K mg base k fa fd ps (fu ⟨K, mg, w, []⟩ ps.length f)
/-- a method at a call -/
structure MethAt (X : Cx) (k n : Nat) (ks : List Str) (m c : Str) (r : MR) : Prop where
 ex : ∃ (Ca fa : Addr) (fd : FuncData) (ps : List Str) (dvs : List V), X.mg c = some (.ref Ca) ∧ Cls X.K Ca ∧ Meth X.K Ca m fa ∧ bJ X.prog X.w X.K X.mg X.base k fa fd ps (fu ⟨X.K, X.mg, X.w, []⟩ ps.length r.f) ∧ Bnd X.K fd ps ks n r.idx dvs ∧ CD X.K dvs r.dd ∧
  ∀ vs zs : List V, vs.length = n → zs.length = ks.length → (pick r.idx vs (zs ++ dvs)).length = ps.length
def vM (X : Cx) (k n : Nat) (ks : List Str) (m : Str) : List (Str × MR) → Prop
 | [] => True
 | (c, r) :: t => MethAt X k n ks m c r ∧ vM X k n ks m t
theorem vM.at {X : Cx} {k n : Nat} {ks : List Str} {m c : Str} {r : MR} : ∀ {T : List (Str × MR)}, vM X k n ks m T → T.lookup c = some r → MethAt X k n ks m c r
 | [], _, h => by cases h
 | (d, q) :: t, ⟨h1, h2⟩, h => by
  rw [List.lookup_cons] at h
  cases e : (c == d) with
  | true => rw [e] at h; cases h; rw [show c = d from by simpa using e]; exact h1
  | false => rw [e] at h; exact h2.at h
/-- a class cX can be made -/
structure CV (X : Cx) (k n : Nat) (ks : List Str) (c : Str) (r : MR) : Prop where
 ex : ∃ (Ca fa : Addr) (fd : FuncData) (ps : List Str) (dvs : List V), X.mg c = some (.ref Ca) ∧ Mk X.K Ca fa ∧ bJ X.prog X.w X.K X.mg X.base k fa fd ps (fu ⟨X.K, X.mg, X.w, []⟩ ps.length r.f) ∧ Bnd X.K fd ps ks n r.idx dvs ∧ CD X.K dvs r.dd ∧
  ∀ vs zs : List V, vs.length = n → zs.length = ks.length → (pick r.idx vs (zs ++ dvs)).length = ps.length
/-- what of the text a class must have to be made -/
structure Jd (K : PySem.W.Frag) (mg : Str → Option Value) (c : Str) : Prop where
 ex : ∃ Ca, mg c = some (.ref Ca) ∧ PySem.W.makesIn K Ca = true ∧ PySem.W.keepIn K (.ref Ca) = true
section
variable {X : Cx} {k n : Nat} {ks ps : List Str} {c : Str}
theorem CV.of {r : MR} (Z : Jd X.K X.mg c) (M : MethAt X k n ks "__init__" c r) : CV X k n ks c r := by
 obtain ⟨Ca, h1, h2, h3⟩ := Z.ex
 obtain ⟨CW, fa, fd, ps, dvs, g1, g2, g3, g4, g5, g6, g7⟩ := M.ex
 have Je : CW = Ca := by have z := g1.symm.trans h1; injection z with z; injection z
 subst Je
 exact ⟨CW, fa, fd, ps, dvs, g1, ⟨h2, g3.at_, g3.fn, h3⟩, g4, g5, g6, g7⟩
end
end Mi
namespace PySem.W
open PySem PySem.Spec PySem.Calls PyProof.Rows Builtin
end PySem.W
namespace Mi
open PySem PySem.Spec PyProof.Rows L2
/-- what of the text a class with an own == must have -/
structure Jf (K : PySem.W.Frag) (mg : Str → Option Value) (c : Str) : Prop where
 ex : ∃ Ca, mg c = some (.ref Ca) ∧ PySem.W.findIn K (.ref Ca) "__ne__" = some (some (.builtin "object.__ne__"))
structure tW (X : Cx) (k : Nat) (c : Str) (f : FX) : Prop where
 ex : ∃ (Ca fa : Addr) (fd : FuncData) (ps : List Str), X.mg c = some (.ref Ca) ∧ Cls X.K Ca ∧ CI X.K Ca ∧ PySem.W.findIn X.K (.ref Ca) "__eq__" = some (some (.ref fa)) ∧ PySem.W.isFn X.K (.ref fa) = true ∧
  PySem.W.findIn X.K (.ref Ca) "__ne__" = some (some (.builtin "object.__ne__")) ∧ bJ X.prog X.w X.K X.mg X.base k fa fd ps (fu ⟨X.K, X.mg, X.w, []⟩ ps.length f) ∧ Bnd X.K fd ps [] 2 [0, 1] [] ∧ ps.length = 2
def vN (X : Cx) (k : Nat) : List (Str × FX) → Prop
 | [] => True
 | (c, f) :: t => tW X k c f ∧ vN X k t
theorem vN.at {X : Cx} {k : Nat} {c : Str} {f : FX} : ∀ {T : List (Str × FX)}, vN X k T → T.lookup c = some f → tW X k c f
 | [], _, h => by cases h
 | (d, q) :: t, ⟨h1, h2⟩, h => by
  rw [List.lookup_cons] at h
  cases e : (c == d) with
  | true => rw [e] at h; cases h; rw [show c = d from by simpa using e]; exact h1
  | false => rw [e] at h; exact h2.at h
theorem tW.of {X : Cx} {j k : Nat} {c : Str} {st : Stmt} {a b : Str} {kd : List (Str × D)} {f : FX} (M : CU X.prog X.w X.K X.mg X.base k c "__eq__" st [a, b] kd f) (h : k ≤ j) (ci : CO X.K X.mg c) (ne : Jf X.K X.mg c) (B : jO st [a, b] [] 2 [0, 1]) : tW X j c f := by
 obtain ⟨Ca, fa, x, qual, fd, kws, h1, h2, h3, h4, h5, h6, h7⟩ := M.ex
 obtain ⟨Cb, g1, _, g2⟩ := ci.ex
 rw [h1] at g1; cases g1
 obtain ⟨Cb, e1, e2⟩ := ne.ex
 rw [h1] at e1; cases e1
 exact ⟨Ca, fa, fd, [a, b], h1, h2, g2, h3.at_, h3.fn, e2, h7.mono h, CT h4 B, rfl⟩
section
variable {X : Cx} {W : WX} {e : Expr} {T : String}
structure tX (X : Cx) (k : Nat) (m c : Str) (f : FX) : Prop where
 ex : ∃ (Ca fa : Addr) (fd : FuncData) (ps : List Str), X.mg c = some (.ref Ca) ∧ PySem.W.findIn X.K (.ref Ca) m = some (some (.ref fa)) ∧ PySem.W.isFn X.K (.ref fa) = true ∧
  bJ X.prog X.w X.K X.mg X.base k fa fd ps (fu ⟨X.K, X.mg, X.w, []⟩ ps.length f) ∧ Bnd X.K fd ps [] 1 [0] [] ∧ ps.length = 1
def vO (X : Cx) (k : Nat) (m : Str) : List (Str × FX) → Prop
 | [] => True
 | (c, f) :: t => tX X k m c f ∧ vO X k m t
theorem vO.at {X : Cx} {k : Nat} {m c : Str} {f : FX} : ∀ {T : List (Str × FX)}, vO X k m T → T.lookup c = some f → tX X k m c f
 | [], _, h => by cases h
 | (d, q) :: t, ⟨h1, h2⟩, h => by
  rw [List.lookup_cons] at h
  cases e : (c == d) with
  | true => rw [e] at h; cases h; rw [show c = d from by simpa using e]; exact h1
  | false => rw [e] at h; exact h2.at h
theorem tX.of {X : Cx} {j k : Nat} {m c : Str} {st : Stmt} {a : Str} {kd : List (Str × D)} {f : FX} (M : CU X.prog X.w X.K X.mg X.base k c m st [a] kd f) (h : k ≤ j) (B : jO st [a] [] 1 [0]) : tX X j m c f := by
 obtain ⟨Ca, fa, x, qual, fd, kws, h1, h2, h3, h4, h5, h6, h7⟩ := M.ex
 exact ⟨Ca, fa, fd, [a], h1, h3.at_, h3.fn, h7.mono h, CT h4 B, rfl⟩
end
end Mi
namespace PySem.SeqAt
open AutoSeq1 (wpAny_loadPart')
open MeetsSeq MeetsSeq2 MeetsSeq3 SeqRoads2
end PySem.SeqAt
namespace Mi
open PySem PySem.Spec PyProof.Rows L2
section
variable {H : Hp} {β : List Addr}
theorem dO.get {C : Ct} : ∀ {vs : List V} {ds : List D} {i : Nat} {v : V}, dO C H β vs ds → vs[i]? = some v → ∃ d, ds[i]? = some d ∧ VW C H β v d
 | _, _, _, _, .nil, h => by simp at h
 | _, _, 0, _, .cons h _, e => by simp at e; subst e; exact ⟨_, rfl, h⟩
 | _, _, i + 1, _, .cons _ t, e => by
  obtain ⟨d, h1, h2⟩ := dO.get (i := i) t (by simpa using e)
  exact ⟨d, by simpa using h1, h2⟩
theorem dO.len {C : Ct} : ∀ {vs : List V} {ds : List D}, dO C H β vs ds → vs.length = ds.length
 | _, _, .nil => rfl
 | _, _, .cons _ t => by simp [dO.len t]
theorem gD.len {C : Ct} : ∀ {vs : List (Key × V)} {ds : List (Key × D)}, gD C H β vs ds → vs.length = ds.length
 | _, _, .nil => rfl
 | _, _, .cons _ t => by simp [gD.len t]
end
/-- Jg cX are Jg -/
def Cv (x : Str) : Prop := ∀ c ∈ x.cps.toList, c < 0x110000
theorem Cv.app {x y : Str} (h1 : Cv x) (h2 : Cv y) : Cv (x ++ y) := by
 intro c hc
 have hc' : c ∈ (x.cps ++ y.cps).toList := hc
 rw [Array.toList_append] at hc'
 exact (List.mem_append.mp hc').elim (h1 c) (h2 c)
end Mi
namespace PySem.AutoSeq1
end PySem.AutoSeq1
namespace Mi
open PySem PySem.Spec PyProof.Rows L2
section
variable {P : Program} {w : World} {K : PySem.W.Frag} {mg : Str → Option Value} {base : Heap}
/-- __init__(self, v1, v2): B.__init__(self, msg); self.f = v1; self.g = v2 -/
theorem Jh {x qual f g v1 v2 : Str} {st : Stmt} {fa Ca : Addr} {fd : FuncData} {k : Nat} {msg : EX} {s1 s2 s3 : Stmt} (F : Fun K x qual st fa fd) (S : FnScope ["self", v1, v2] ["self", v1, v2] (defScope st)) (O : OexC K Ca) (hf : PySem.W.findIn K (.ref Ca) f = some none) (hg' : PySem.W.findIn K (.ref Ca) g = some none) (hst : defBody st = [s1, s2, s3])
  (h1 : ∀ (cdv : Value) (A : Around) (outer : List Env) (s : Shared) (H : Hp) (E : XK), (dw P w K mg base ["self", v1, v2] qual st fa cdv A outer s H E).A.guards = some [] → Room k (dw P w K mg base ["self", v1, v2] qual st fa cdv A outer s H E).A →
   PS (dw P w K mg base ["self", v1, v2] qual st fa cdv A outer s H E) s1 (tDrop (tVeI K (tCons (tVar 0) (tCons (EM ⟨K, mg, w, []⟩ tM true msg) tNil)))) ∧
   PS (dw P w K mg base ["self", v1, v2] qual st fa cdv A outer s H E) s2 (tOst K f (tVar 0) (tVar 1)) ∧
   PS (dw P w K mg base ["self", v1, v2] qual st fa cdv A outer s H E) s3 (tOst K g (tVar 0) (tVar 2))) : bJ P w K mg base (k + 1) fa fd ["self", v1, v2] (spI ⟨K, mg, w, []⟩ Ca 2 msg [f, g]) := by
 refine qD F S (fun vs H Q E ⟨a, ws, e, hl, _⟩ => by rw [e]; simp [hl]) fun cdv A outer s H vs Q E hg hr h => ?_
 obtain ⟨p1, p2, p3⟩ := h1 cdv A outer s H E hg hr
 rw [hst]
 refine ⟨_, pss_cons p1 (pss_cons p2 (pss_cons p3 pss_nil)), ?_⟩
 obtain ⟨a, ws, rfl, hl, ea, Pf, β, ds, St, hs, hp, r, ⟨d, S', em⟩, q⟩ := h
 match ws, hl with
 | [y, z], _ =>
  have hN : (["self", v1, v2] : List Str).length = ds.length + 1 := by rw [← r.length]; rfl
  refine ⟨.ref a, rfl, ⟨H, β, Pf, []⟩, _, Pf, β, _, St, LR.tR hs hp r hN, ?_⟩
  rw [em]
  intro m H1 β1 t1 L1 rm
  have sm := (t1.ro rfl).1
  refine ⟨a, Ca, [m], rfl, by simp, O, sm _ _ ea, ?_⟩
  refine ⟨y, rfl, .ref a, rfl, a, Ca, rfl, O, hf, .inl ⟨sm _ _ ea, fun dx hn hne => ?_⟩⟩
  refine ⟨z, rfl, .ref a, rfl, a, Ca, rfl, O, hg', .inr ⟨dx, [(f, y)], upd_same, by rw [upd_ne hne]; exact upd_same, by simp, ?_⟩⟩
  have e := q H1 dx sm hn hne
  have eh : upd (upd (upd H1 dx (exd dx [(f, y)])) a (exo a Ca (some dx))) dx (exd dx [(g, z), (f, y)]) = upd (upd H1 dx (exd dx (([f, g] : List Str).zip [y, z]).reverse)) a (exo a Ca (some dx)) := by
   funext b
   by_cases b1 : b = dx
   ·subst b1
    rw [upd_same, upd_ne hne, upd_same]
    rfl
   ·rw [upd_ne b1]
    by_cases b2 : b = a
    ·subst b2; rw [upd_same, upd_same]
    ·rw [upd_ne b2, upd_ne b1, upd_ne b2, upd_ne b1]
  rw [eh]
  exact e
end
/-- the class c, made with two fields by its own __init__ st -/
structure CY (K : PySem.W.Frag) (mg : Str → Option Value) (c qual : Str) (st : Stmt) (f g : Str) (Ca fI : Addr) (fd : FuncData) : Prop where
 m : mg c = some (.ref Ca)
 o : OexC K Ca
 i : PySem.W.findIn K (.ref Ca) "__init__" = some (some (.ref fI))
 t : PySem.W.typeIn K (.ref fI) = some (.type "function")
 f : PySem.W.findIn K (.ref Ca) f = some none
 g : PySem.W.findIn K (.ref Ca) g = some none
 F : Fun K "__init__" qual st fI fd
/-- the members, each at its first place -/
def Ji (acc : List Str) (x : Str) : List Str := if acc.contains x then acc else acc ++ [x]
def dst (xs : List Str) : List Str := xs.foldl Ji []
section
variable {prog : Program} {w : World}
/-- the members so far -/
abbrev vP (prog : Program) (w : World) (h : Heap) (S : Addr) (xs : List Str) : Prop := h.SetOf (PySem.strKind prog w) S (fun k => (dst xs).contains k) (dst xs).length
theorem vP.heap {h h' : Heap} {S : Addr} {xs : List Str} (u : vP prog w h S xs) (e : ∀ o, h.get? S = some o → h'.get? S = some o) : vP prog w h' S xs :=
 let ⟨o, es, ep, t, ho, r⟩ := u; ⟨o, es, ep, t, e o ho, r⟩
end
/-- what is known of the built-in class B -/
structure jX (B newId initId : String) (tl : List Value) : Prop where
 eb : ExcBaseFacts B newId initId tl
 sf : StoreFacts B tl "object.__setattr__" "object"
 ty : typeOf (.type B) = pure (.type "type")
 st : Manifest.isStub B = false
 fc : ∀ K : PySem.W.Frag, PySem.W.findCls K (.type B) (.type "type") "__init__" = some (.val (.builtin initId))
 hd : PySem.W.handedIn (.builtin initId) = true
/-- what the written part says of an own class over it -/
structure jh (K : PySem.W.Frag) (newId : String) (tl : List Value) (C : Addr) : Prop where
 cls : ∃ nm q N bs bm sn sub ab col dd k0 k1 k2 k3 k5, K.lookup C = some (excClassObj nm q C N bs bm true sn sub ab col dd k0 k1 k2 k3 k5 newId) ∧ PySem.W.excTail tl bm = true
 sa : PySem.W.findIn K (.ref C) "__setattr__" = some (some (.builtin "object.__setattr__"))
 exC : PySem.W.subIn K (.ref C) (.type "BaseException") = some true
 tyC : PySem.W.typeIn K (.ref C) = some (.type "type")
 kC : PySem.W.keepIn K (.ref C) = true
section
variable {prog : Program} {w : World} {A : Around} {R : Result → Shared → Prop} {hp : Heap} {g : Array GenState} {d : Drawn} {t : Nat} {os : OsState} {B : String} {tl : List Value}
/-- the first field of an exception -/
theorem Jj {K : PySem.W.Frag} {name : Str} {tk : Tok} {v : Value} {x C : Addr} {fv : Array Value} {cd : ClassData} {bm : List Value} (SF : StoreFacts B tl "object.__setattr__" "object") (X : K.In hp) (hx : hp.get? x = some { cls := .ref C, data := .fields fv })
  (hcd : PySem.W.clsIn K C = some cd) (hm : cd.mro = .ref C :: bm) (ht : PySem.W.excTail tl bm = true) (hh : cd.hasDict = true) (ha : PySem.W.findIn K (.ref C) name = some none)
  (hq : ∀ h' tk' dx, (∀ b o, b ≠ x → hp.get? b = some o → h'.get? b = some o) → hp.objs.size ≤ dx → dx ≠ x → h'.get? x = some { cls := .ref C, dict := some dx, data := .fields fv } →
   h'.Ns1 dx (fun y => if y = name then some v else none) → R (.ok (.ret .none)) ⟨h', g, d, tk', os⟩) :
  codeAny (model prog w) A (.call (.builtin "object.__setattr__") ⟨[.ref x, .str name tk, v], []⟩) R ⟨hp, g, d, t, os⟩ := by
 have J : PySem.W.InstAt hp x { cls := .ref C, data := .fields fv } C none := ⟨hx, rfl, rfl, trivial⟩
 have hcls : PySem.W.Looks (model prog w) hp (classData C) cd := PySem.W.looks_clsIn X hcd
 have ne : x ≠ hp.objs.size := Nat.ne_of_lt (Heap.lt_size hx)
 refine PySem.W.osa_openX (s := ⟨hp, g, d, t, os⟩) SF X J (by unfold PySem.W.excOver; rw [hcd]; simp [hm, ht]) (r := none) (by unfold PySem.W.takerIn; rw [ha]; rfl) fun b => ?_
 simp only
 obtain ⟨nm, bs, mro, ns, qn, hd, sn, sb, ab, col, del⟩ := cd
 dsimp only at hh
 subst hh
 unfold Builtin.ObjectAttr.storeInOwnDict Builtin.ObjectAttr.ownDictForStores
 repeat (first | with_reducible refine PySem.HandSPX.store_in_new ?_ ?_ | with_reducible refine wpAny_loadPart_at hx ?_ | with_reducible refine hcls.at ?_ | wp_step)
 ·exact ⟨_, #[], _, (Heap.get?_update_ne _ _ _ _ ne.symm).trans (Heap.get?_push_at rfl rfl), rfl, fun e he => absurd he (by simp), fun _ => rfl⟩
 ·intro h' tk' hn' hs
  have hx1 : (hp.push { cls := .type "dict", data := .dict #[] }).get? x = some { cls := .ref C, data := .fields fv } := Heap.get?_push_of_some _ hx
  refine hq h' tk' hp.objs.size (fun b o hb ho => ?_) (Nat.le_refl _) ne.symm ?_ hn'
  ·exact (hs.2 b (Nat.ne_of_lt (Heap.lt_size ho))).trans ((Heap.get?_update_ne _ _ _ _ hb).trans (Heap.get?_push_of_some _ ho))
  ·exact (hs.2 x ne).trans (Heap.get?_update_self _ hx1 rfl)
end
section
variable {X : Cx} {pins : List (Addr × Obj)} {σ : L2.St} {H : Hp} {s : Shared} {a C : Addr} {f : Str} {y : V} {u : Value} {B newId initId : String} {tl : List Value} {E : Value → Shared → Prop} {A : Around}
theorem Jk {Q : Unit → Shared → Prop} (RF : jX B newId initId tl) (T : jh X.K newId tl C) (I : Inv X pins σ H s) (e : H a = some (exo a C none)) (hno : PySem.W.findIn X.K (.ref C) f = some none) (ry : RelV y u)
  (h : ∀ dx s', H dx = none → dx ≠ a → Inv X pins σ (upd (upd H dx (exd dx [(f, y)])) a (exo a C (some dx))) s' → Q () s') : wpAny (model X.prog X.w) A (setAttr (.ref a) f u) Q E s := by
 obtain ⟨nm, q, N, bs, bm, sn, sub, ab, col, dd, k0, k1, k2, k3, k5, hC, hbm⟩ := T.cls
 have hcl : PySem.W.clsIn X.K C = some { name := nm, bases := bs, mro := .ref C :: bm, ns := N, qualname := q, hasDict := true, slotNames := sn, subclasses := sub, abstract := ab, collection := col, hasDel := false } := by unfold PySem.W.clsIn; rw [hC] <;> rfl
 obtain ⟨t1, ho⟩ := exo_at I.hok e
 obtain ⟨hp, g, d, t, os⟩ := s
 refine PySem.W.set_plain I.kIn (ox := { cls := .ref C, dict := none, data := .fields #[.ref t1, .none, .none, .none, .bool false, .none] }) (od := none) ⟨ho, rfl, rfl, trivial⟩ T.sa ?_
 refine Jj RF.sf I.kIn ho hcl rfl hbm rfl hno (fun h' tk' dx k dn dne hx hn => ?_)
 have hnd : H dx = none := I.hok.fresh dn
 have nd : ∀ {b : Addr} {o : Obj}, hp.get? b = some o → b ≠ dx := fun {b o} q => Nat.ne_of_lt (Nat.lt_of_lt_of_le (Heap.lt_size q) dn)
 have na : ∀ {b : Addr}, H b = none → b ≠ a := fun {b} n z => by rw [z, e] at n; cases n
 have U : Un X.fs [] H (upd (upd H dx (exd dx [(f, y)])) a (exo a C (some dx))) hp h' := {
  keep := fun b o q n _ _ => k b o (na n) q
  slot := fun b o q n _ _ => ⟨o.slots, k b o (na n) q⟩
  free := fun b o q n _ => by rw [upd_ne (na n), upd_ne (nd q)]; exact n
  there := fun b o q _ => by
   by_cases hb : b = a
   ·subst hb; exact ⟨_, hx⟩
   ·exact ⟨o, k b o hb q⟩
  tups := fun b xs q => by rw [upd_ne (at_ne e q exo_tup), upd_ne (ne_of_none q hnd)]; exact q
  frzs := fun b o v q => by rw [upd_ne (at_ne e q exo_frz), upd_ne (ne_of_none q hnd)]; exact q
  tbls := fun b ps q => ⟨#[], by rw [upd_ne (at_ne e q exo_tbl), upd_ne (ne_of_none q hnd), q]; simp⟩ }
 refine h dx _ hnd dne (I.un (t' := tk') U fun b o q => ?_)
 by_cases hb : b = a
 ·subst hb
  rw [upd_same] at q
  cases q
  exact exo_ok hx
 ·rw [upd_ne hb] at q
  by_cases hd : b = dx
  ·subst hd
   rw [upd_same] at q
   cases q
   exact exd_ok hn (relO_put (fs := []) ry fun g => True.intro)
  ·rw [upd_ne hd] at q
   exact (I.hok b o q).stay (fun c v hc z => k c v (hc.elim (fun hc => hc ▸ hb) fun hc => at_ne e hc exo_own) z)
    (fun c hc => by rw [upd_ne (at_ne e hc exo_own), upd_ne (ne_of_none hc hnd)]; exact hc) (fun c xs hc => by rw [upd_ne (at_ne e hc exo_tup), upd_ne (ne_of_none hc hnd)]; exact hc)
theorem Jl {us : List Value} {Q : Value → Shared → Prop} (RF : jX B newId initId tl) (T : jh X.K newId tl C) (I : Inv X pins σ H s) (e : H a = some (exo a C none)) (hl : us.length ≤ sizeLine) (h : ∀ s', Inv X pins σ H s' → Q .none s') :
  wpAny (model X.prog X.w) A (call (.builtin initId) (.ref a :: us)) Q E s := by
 obtain ⟨nm, q, N, bs, bm, sn, sub, ab, col, dd, k0, k1, k2, k3, k5, hC, hbm⟩ := T.cls
 obtain ⟨t1, ho⟩ := exo_at I.hok e
 obtain ⟨hp, g, d, t, os⟩ := s
 refine wpAny_call (PySem.HandSPX.init_base RF.eb (fun Y => PySem.W.excTail_contains Y bm hbm) (I.kIn _ _ hC) ho hl fun h' t2 k hx => ?_)
 have J := I.write (t' := t) (x := a) (e := a) (o := exo a C none) (by rw [e]; exact True.intro) (.inl rfl) k ⟨_, hx⟩ (exo_ok hx)
 have eu : upd H a (exo a C none) = H := funext fun b => if hb : b = a then by rw [hb, upd_same, e] else upd_ne hb
 rw [eu] at J
 exact h _ J
end
/-- B.__init__(self, ..) -/
def vQ (K : PySem.W.Frag) (newId : String) (tl : List Value) (ta : TA) : TE := fun σ H Q => ta σ H fun vs H1 => ∃ (a C : Addr) (ws : List V), vs = .ref a :: ws ∧ ws.length ≤ 1000 ∧ jh K newId tl C ∧ H1 a = some (exo a C none) ∧ Q .non H1
/-- self.f = e, the first field -/
def CZ (K : PySem.W.Frag) (newId : String) (tl : List Value) (f : Str) (to te : TE) : TS := fun D σ H => te σ H fun y H1 => to σ H1 fun x H2 => ∃ a C : Addr, x = .ref a ∧ jh K newId tl C ∧ PySem.W.findIn K (.ref C) f = some none ∧
 H2 a = some (exo a C none) ∧ ∀ dx, H2 dx = none → dx ≠ a → D.nx σ (upd (upd H2 dx (exd dx [(f, y)])) a (exo a C (some dx)))
section
variable {X : Cx} {o e : Expr} {es : List Expr} {to te : TE} {ta : TA} {f x : Str} {p' p1 p2 pos : Pos} {B newId initId : String} {tl : List Value}
theorem mU (RF : jX B newId initId tl) (ho : PE X o to) (he : PE X e te) (hs : swapsWith e (some (.Attribute o f p')) pos.line X.env = pure false := by rfl) : PS X (.Assign [.Attribute o f p'] e pos) (CZ X.K newId tl f to te) := by
 refine ⟨fun pins s σ H D I h => ?_⟩
 refine plainObj_wpAny_Assign_Attribute (thn (he.run pins s σ H _ I h) fun v s1 ⟨y, H1, I1, r1, q1⟩ => thn (ho.run pins s1 σ H1 _ I1 q1) fun u s2 ⟨x, H2, I2, r2, a, C, ex, T, hno, ea, q⟩ => ?_) hs
 subst ex
 obtain rfl : u = Value.ref a := r2
 exact Jk RF T I2 ea hno r1 fun dx s' n ne J => ⟨σ, _, J, q dx n ne⟩
theorem jY {pl : Sem Bool} (RF : jX B newId initId tl) (hg : Gl X x) (hm : X.mg x = none) (hv : bootBuiltins x = some (.type B)) (ha : PA X (e :: es) ta) (hn : x ≠ "__name__" := by decide) (hdb : (x == ("__debug__" : Str)) = false := by decide)
  (hc : eval (.Call (.Attribute (.Name x p1) "__init__" p2) (e :: es) [] pos) X.env = (do
   let ov ← eval (.Name x p1) X.env
   standAt p2.atName
   let (f, first) ← holding [ov] (getMethod ov "__init__" pl)
   callWith pos f first (backTo pos (starEach (e :: es) X.env)) (backToKw pos (keywordEach [] X.env))) := by rfl)
  (he : starEach (e :: es) X.env = (false, eval e X.env) :: starEach es X.env := by rfl) (hpl : (backTo pos (starEach es X.env)).any (·.1) = false := by rfl) :
  PE X (.Call (.Attribute (.Name x p1) "__init__" p2) (e :: es) [] pos) (vQ X.K newId tl ta) := by
 refine ⟨fun pins s σ H Q I h => ?_⟩
 refine PySem.W.methodCall_KW (ld_blt I hg hm hv ?_ hn hdb) hc
 obtain ⟨m, fr⟩ := I.fr
 refine PySem.W.method_type fr I.ok.mod.kin RF.ty RF.st (RF.fc _) RF.hd ?_
 show wpAny _ _ (callWith pos (Value.builtin initId) [] (backTo pos (starEach (e :: es) X.env)) []) _ _ _
 refine PyProof.Rows.callWith_method1 (thn (ha.run pos pins _ σ H _ (I.tok _) h) fun us s1 ⟨vs, H1, I1, r1, a, C, ws, ev, hl, T, ea, q⟩ => ?_) he hpl
 subst ev
 cases r1 with
 | @cons _ u0 _ ur ra rw' =>
  obtain rfl : u0 = Value.ref a := ra
  have hlen : ur.length ≤ sizeLine := by rw [← Paired.length rw', sizeLine_eq]; omega
  exact Jl RF T I1 ea hlen fun s' J => ⟨.non, H1, J, rfl, q⟩
end
section
variable {P : Program} {w : World} {K : PySem.W.Frag} {mg : Str → Option Value} {base : Heap} {B newId : String} {tl : List Value}
/-- __init__(self, v): B.__init__(self, msg); self.f = v -/
theorem mV {x qual f v : Str} {st : Stmt} {fa Ca : Addr} {fd : FuncData} {k : Nat} {msg : EX} {s1 s2 : Stmt} (F : Fun K x qual st fa fd) (S : FnScope ["self", v] ["self", v] (defScope st)) (O : jh K newId tl Ca) (hf : PySem.W.findIn K (.ref Ca) f = some none) (hst : defBody st = [s1, s2])
  (h1 : ∀ (cdv : Value) (A : Around) (outer : List Env) (s : Shared) (H : Hp) (E : XK), (dw P w K mg base ["self", v] qual st fa cdv A outer s H E).A.guards = some [] → Room k (dw P w K mg base ["self", v] qual st fa cdv A outer s H E).A →
   PS (dw P w K mg base ["self", v] qual st fa cdv A outer s H E) s1 (tDrop (vQ K newId tl (tCons (tVar 0) (tCons (EM ⟨K, mg, w, []⟩ tM true msg) tNil)))) ∧
   PS (dw P w K mg base ["self", v] qual st fa cdv A outer s H E) s2 (CZ K newId tl f (tVar 0) (tVar 1))) : bJ P w K mg base (k + 1) fa fd ["self", v] (spI ⟨K, mg, w, []⟩ Ca 1 msg [f]) := by
 refine qD F S (fun vs H Q E ⟨a, ws, e, hl, _⟩ => by rw [e]; simp [hl]) fun cdv A outer s H vs Q E hg hr h => ?_
 obtain ⟨p1, p2⟩ := h1 cdv A outer s H E hg hr
 rw [hst]
 refine ⟨_, pss_cons p1 (pss_cons p2 pss_nil), ?_⟩
 obtain ⟨a, ws, rfl, hl, ea, Pf, β, ds, St, hs, hp, r, ⟨d, S', em⟩, q⟩ := h
 match ws, hl with
 | [y], _ =>
  have hN : (["self", v] : List Str).length = ds.length + 1 := by rw [← r.length]; rfl
  refine ⟨.ref a, rfl, ⟨H, β, Pf, []⟩, _, Pf, β, _, St, LR.tR hs hp r hN, ?_⟩
  rw [em]
  intro m H1 β1 t1 L1 rm
  have sm := (t1.ro rfl).1
  refine ⟨a, Ca, [m], rfl, by simp, O, sm _ _ ea, ?_⟩
  refine ⟨y, rfl, .ref a, rfl, a, Ca, rfl, O, hf, sm _ _ ea, fun dx hn hne => ?_⟩
  exact q H1 dx sm hn hne
end
section
variable {K : PySem.W.Frag}
theorem fQ : jX "LookupError" "LookupError.__new__" "LookupError.__init__" [.type "LookupError", .type "Exception", .type "BaseException", .type "object"] where
 eb := PySem.F.excBase_LookupError
 sf := PySem.F.store_LookupError
 ty := by kernel_rfl
 st := by decide +kernel
 fc := fun K => by kernel_rfl
 hd := by decide +kernel
theorem ji : jX "RuntimeError" "RuntimeError.__new__" "RuntimeError.__init__" [.type "RuntimeError", .type "Exception", .type "BaseException", .type "object"] where
 eb := PySem.F.excBase_RuntimeError
 sf := PySem.F.store_RuntimeError
 ty := by kernel_rfl
 st := by decide +kernel
 fc := fun K => by kernel_rfl
 hd := by decide +kernel
theorem tY : jX "ArithmeticError" "ArithmeticError.__new__" "ArithmeticError.__init__" [.type "ArithmeticError", .type "Exception", .type "BaseException", .type "object"] where
 eb := PySem.F.excBase_ArithmeticError
 sf := PySem.F.store_ArithmeticError
 ty := by kernel_rfl
 st := by decide +kernel
 fc := fun K => by kernel_rfl
 hd := by decide +kernel
abbrev Jm : List Value := [.type "LookupError", .type "Exception", .type "BaseException", .type "object"]
abbrev vR : List Value := [.type "RuntimeError", .type "Exception", .type "BaseException", .type "object"]
abbrev Jo : List Value := [.type "ArithmeticError", .type "Exception", .type "BaseException", .type "object"]
/-- the class c over a built-in one, made with one field f by its own __init__ st -/
structure vU (K : PySem.W.Frag) (mg : Str → Option Value) (newId : String) (tl : List Value) (c qual : Str) (st : Stmt) (f : Str) (Ca fI : Addr) (fd : FuncData) : Prop where
 m : mg c = some (.ref Ca)
 o : jh K newId tl Ca
 i : PySem.W.findIn K (.ref Ca) "__init__" = some (some (.ref fI))
 t : PySem.W.typeIn K (.ref fI) = some (.type "function")
 f : PySem.W.findIn K (.ref Ca) f = some none
 F : Fun K "__init__" qual st fI fd
abbrev jZ (K : PySem.W.Frag) (mg : Str → Option Value) := vU K mg "LookupError.__new__" Jm
abbrev tZ (K : PySem.W.Frag) (mg : Str → Option Value) := vU K mg "RuntimeError.__new__" vR
abbrev D4 (K : PySem.W.Frag) (mg : Str → Option Value) := vU K mg "ArithmeticError.__new__" Jo
end
end Mi
namespace PySem.W
open PySem.Calls PyProof.Rows PyProof.V PySem.Spec
end PySem.W
namespace Mi
open PySem PySem.Spec PyProof.Rows L2
theorem Jp {C : Ct} {W : WX} {X : Cx} {s : Stmt} {m m' : SX} (h : iQ C W X s m) (e : m = m') : iQ C W X s m' := e ▸ h
/-- at a stands a set of the texts l, cX can be walked -/
structure TS (P : Program) (w : World) (h : Heap) (a : Addr) (l : List Str) : Prop where
 ex : ∃ D : PySem.Froz.SD, h.get? a = some (PySem.Froz.sObj "set" D) ∧ PySem.Froz.TxOk P w D l ∧ Ris D.2.2.place.toList ∧ (w.params.followText "set-order" = true ∨ D.2.2.led = true)
 nd : l.Nodup
 sz : l.length < scanBound
section
variable {P : Program} {w : World} {a : Addr} {l : List Str}
theorem TS.at {h h' : Heap} (T : TS P w h a l) (e : ∀ o, h.get? a = some o → h'.get? a = some o) : TS P w h' a l :=
 ⟨let ⟨D, q, r⟩ := T.ex; ⟨D, e _ q, r⟩, T.nd, T.sz⟩
end
def Jq : Nat → Bool := fun i => i == 0
/-- v is a pair (text, whole number) -/
def D5 (h : Heap) (v : Value) (y : Str) (m : Int) : Prop := ∃ (a : Addr) (o : Obj) (n : Nat) (t u : Tok), v = .ref a ∧ h.get? a = some o ∧ o.cls = .type "tuple" ∧ o.data = .seq #[.str y t, .int m u] n
theorem D5.key {h : Heap} {v : Value} {y : Str} {m : Int} (x : D5 h v y m) : tupKey h Jq v = some [.inr y.cps.toList, .inl m] := by
 obtain ⟨a, o, n, t, u, rfl, ho, hc, hd⟩ := x
 unfold tupKey
 simp only [ho, hd]
 rfl
end Mi
namespace Mi
open PySem PySem.Spec PyProof.Rows L2
open PySem.W (KdxIt kdx_alive)
section
variable {P1 P2 : Nat → Value → Prop}
/-- what has a2x collected -/
structure ZG (P1 P2 : Nat → Value → Prop) (lo : Addr) (h : Heap) (as : List Addr) : Prop where
 rise : as.Pairwise (· < ·)
 above : ∀ a ∈ as, lo ≤ a
 pairs : ∀ (j : Nat) (a : Addr), as[j]? = some a → ∃ x y, P1 j x ∧ P2 j y ∧ h.get? a = some { cls := .type "tuple", data := .seq #[x, y] }
theorem ZG.keep {lo : Addr} {h h' : Heap} {as : List Addr} (g : ZG P1 P2 lo h as) (k : ∀ b o, lo ≤ b → h.get? b = some o → h'.get? b = some o) : ZG P1 P2 lo h' as :=
 ⟨g.rise, g.above, fun j a hj => by
  obtain ⟨x, y, e1, e2, e3⟩ := g.pairs j a hj
  exact ⟨x, y, e1, e2, k a _ (g.above a (List.mem_of_getElem? hj)) e3⟩⟩
theorem ZG.push {lo N : Addr} {h : Heap} {as : List Addr} {x y : Value} (g : ZG P1 P2 lo h as) (hN : lo ≤ N) (hl : ∀ a ∈ as, a < N) (hx : P1 as.length x) (hy : P2 as.length y) (e : h.get? N = some { cls := .type "tuple", data := .seq #[x, y] }) : ZG P1 P2 lo h (as ++ [N]) := by
 refine ⟨List.pairwise_append.mpr ⟨g.rise, List.pairwise_singleton _ _, fun a ha b hb => ?_⟩, fun a ha => ?_, fun j b hj => ?_⟩
 ·rw [List.mem_singleton.mp hb]; exact hl a ha
 ·rcases List.mem_append.mp ha with ha | ha
  ·exact g.above a ha
  ·rw [List.mem_singleton.mp ha]; exact hN
 ·rcases Nat.lt_trichotomy j as.length with h1 | h1 | h1
  ·rw [List.getElem?_append_left h1] at hj
   exact g.pairs j b hj
  ·subst h1
   have hb : N = b := by simpa using hj
   subst hb
   exact ⟨x, y, hx, hy, e⟩
  ·rw [List.getElem?_eq_none (by rw [List.length_append, List.length_singleton]; omega)] at hj
   cases hj
end
end Mi
namespace Mi
open PySem PySem.Spec PyProof.Rows L2
end Mi
namespace Mi
open PySem PySem.Spec PyProof.Rows L2 HT
end Mi
namespace Mi
open PySem PySem.Spec PyProof.Rows L2
section
variable {K : PySem.W.Frag}
theorem mW {C : Addr} (h : eO K C "ValueError.__new__" PySem.HandSPX.refsVE = true) (h2 : eZ K C = true) : OexC K C := by
 obtain ⟨a, b, c, d⟩ := Az h2
 exact ⟨Ay h, a, b, c, d⟩
theorem kh {C : Addr} {newId : String} {tl : List Value} (h : eO K C newId (PySem.W.excTail tl) = true) (h2 : eZ K C = true) : jh K newId tl C := by
 obtain ⟨a, b, c, d⟩ := Az h2
 exact ⟨Ay h, a, b, c, d⟩
theorem g8 {D : Addr} (h : fK K D = true) : ExcC K D := by
 obtain ⟨h1, h⟩ := bd h
 obtain ⟨h2, h⟩ := bd h
 obtain ⟨h3, h⟩ := bd h
 obtain ⟨h4, h⟩ := bd h
 obtain ⟨h5, h⟩ := bd h
 obtain ⟨h6, h⟩ := bd h
 obtain ⟨h7, h8⟩ := bd h
 exact ⟨He.eqO_ok h1, He.eqO_ok h2, aj h3, h4, He.eqO_ok h5, He.eqO_ok h6, aj h7, aj h8⟩
theorem Jr {B : Addr} (h : yc K B = true) : vK K B := by
 obtain ⟨h1, h⟩ := bd h
 obtain ⟨h2, h3⟩ := bd h
 refine ⟨h1, ?_, He.eqO_ok h3⟩
 split at h2
 ·rename_i v e
  rw [e, of_decide_eq_true h2]
 ·cases h2
end
/-- the a2y call over Iv a head -/
theorem Jt {l : PySem.W.OpenLaw} {n k : Nat} {q : Program} {loose : List Str} {XP : (Str → Option Value) → Heap → Prop} {d : DefRec} {x : Str} {f : FX} {N : Nat} {cs : List (PySem.W.Frag → Bool)} {fn : List He.FnD} {ts : List He.Tab}
  (hn : l.most = some n) (hn2 : n ≤ sizeLine) (hdf : d.params.defaults = []) (hr : Room k callerA) (hd : d.name = "law")
  (law : ∀ ns : List Int, ns.length ≤ n → (∀ z ∈ ns, Builtin.Int.intBits z ≤ 1048576) → ∃ S, f [.lst (cI ns)] [] = .ok (.bl true) S)
  (F : ∀ (w : World) (K : PySem.W.Frag) (mg : Str → Option Value) (fa : Addr) (h : Heap), K.In h → lg cs fn ts w K → h.Ns mainGlobals mg → mg "law" = some (.ref fa) →
   ∃ fd : FuncData, (∀ (s : Shared) (u : Value), BindsTo s fd ⟨[u], []⟩ [(x, u)]) ∧ ∀ base : Heap, K.In base → base.Ns mainGlobals mg → bJ l.prog w K mg base k fa fd [x] (fu ⟨K, mg, w, []⟩ 1 f)) :
  PySem.W.WalkO q loose XP (jG N cs fn ts).says l.row.toRowW d [] (fun f vs => PySem.call f vs) := by
 refine Att.attach_callB hn hdf fun w s₀ s₁ mg mb fa o pm cd doc a vs ns G Y ho hd' hcd hmg hobj hints hlen hbits hg => ?_
 obtain ⟨K, KX, c⟩ := Y
 rw [hd] at hmg
 obtain ⟨fd, hb, hF⟩ := F w K mg fa _ KX c G.T.g hmg
 exact Io KX G.T.g G.T.b G.T.builtins G.T.nolimit hg hobj hints (Nat.le_trans hlen hn2) hr hF hb (law ns hlen hbits)
def Ju : Nat → Bool := fun i => decide (i < 2)
/-- the pair at a -/
def D6 (h : Heap) (a : Addr) (x y : Str) : Prop := ∃ (o : Obj) (n : Nat) (t u : Tok), h.get? a = some o ∧ o.cls = .type "tuple" ∧ o.data = .seq #[.str x t, .str y u] n
theorem D6.key {h : Heap} {a : Addr} {x y : Str} (q : D6 h a x y) : G.tupKeyC h Ju (.ref a) = some [.inr x.cps.toList, .inr y.cps.toList] := by
 obtain ⟨o, n, t, u, ho, hc, hd⟩ := q
 have e1 : G.isTupObj h (.ref a) = true := by
  simp only [G.isTupObj, ho, hc]
  rfl
 unfold G.tupKeyC
 rw [if_pos e1]
 unfold tupKey
 simp only [ho, hd]
 rfl
end Mi
namespace PySem.AutoSeq1
end PySem.AutoSeq1
namespace Mi
open PySem PySem.Spec PyProof.Rows L2
end Mi
namespace PySem.SeqAt
open AutoSeq1 (wpAny_loadPart')
open MeetsSeq MeetsSeq2 MeetsSeq3 SeqRoads2
end PySem.SeqAt
namespace Mi
open PySem PySem.Spec PyProof.Rows L2
structure Jv (K : PySem.W.Frag) (A : Around) (q : Addr × Obj) : Prop where
 gd : ∃ g, A.guards = some g ∧ ∀ b, b ≠ q.1 → Clear g b
 nk : K.lookup q.1 = none
structure FnR (P : Program) (w : World) (K : PySem.W.Frag) (mg : Str → Option Value) (base : Heap) (k : Nat) (f : Addr) (fd : FuncData) (ps : List Str) (sp : Sp) : Prop where
 len : ∀ vs H Q E, sp vs H Q E → vs.length = ps.length
 run : ∀ (A : Around) (outer : List Env) (s : Shared) (H : Hp) (args : Args) (us : List Value) (vs : List V) (Q : VK) (E : XK) (q : Addr × Obj), Jv K A q → Room k A → L2H.PinOk outer H s q → Env0 P w K mg base A outer s H →
  BindsTo s fd args (ps.zip us) → Vals vs us → sp vs H Q E → codeAny (model P w) A (.call (.ref f) args) (CR (L2.CX P w) outer P w H s Q E) s
/-- a class whose __repr__ may be called while a tuple is shown -/
structure u5 (X : Cx) (k : Nat) (c : Str) (f : FX) : Prop where
 ex : ∃ (Ca fa : Addr) (fd : FuncData) (ps : List Str), X.mg c = some (.ref Ca) ∧ PySem.W.findIn X.K (.ref Ca) "__repr__" = some (some (.ref fa)) ∧ PySem.W.isFn X.K (.ref fa) = true ∧
  FnR X.prog X.w X.K X.mg X.base k fa fd ps (fu ⟨X.K, X.mg, X.w, []⟩ ps.length f) ∧ Bnd X.K fd ps [] 1 [0] [] ∧ ps.length = 1
/-- the same, ahead of a context -/
structure Jw (P : Program) (w : World) (K : PySem.W.Frag) (mg : Str → Option Value) (base : Heap) (k : Nat) (c : Str) (f : FX) : Prop where
 ex : ∃ (Ca fa : Addr) (fd : FuncData) (ps : List Str), mg c = some (.ref Ca) ∧ PySem.W.findIn K (.ref Ca) "__repr__" = some (some (.ref fa)) ∧ PySem.W.isFn K (.ref fa) = true ∧
  FnR P w K mg base k fa fd ps (fu ⟨K, mg, w, []⟩ ps.length f) ∧ Bnd K fd ps [] 1 [0] [] ∧ ps.length = 1
theorem FnR.mono {P : Program} {w : World} {K : PySem.W.Frag} {mg : Str → Option Value} {base : Heap} {j k : Nat} {f : Addr} {fd : FuncData} {ps : List Str} {sp : Sp} (F : FnR P w K mg base j f fd ps sp) (h : j ≤ k) : FnR P w K mg base k f fd ps sp :=
 ⟨F.len, fun A outer s H args us vs Q E q hg hr => F.run A outer s H args us vs Q E q hg (hr.mono h)⟩
theorem u5.of {X : Cx} {j k : Nat} {c : Str} {f : FX} (M : Jw X.prog X.w X.K X.mg X.base k c f) (h : k ≤ j) : u5 X j c f := by
 obtain ⟨Ca, fa, fd, ps, h1, h2, h3, h4, h5, h6⟩ := M.ex
 exact ⟨Ca, fa, fd, ps, h1, h2, h3, h4.mono h, h5, h6⟩
def vW (X : Cx) (k : Nat) : List (Str × FX) → Prop
 | [] => True
 | (c, f) :: t => u5 X k c f ∧ vW X k t
theorem vW.at {X : Cx} {k : Nat} {c : Str} {f : FX} : ∀ {T : List (Str × FX)}, vW X k T → T.lookup c = some f → u5 X k c f
 | [], _, h => by cases h
 | (d, q) :: t, ⟨h1, h2⟩, h => by
  rw [List.lookup_cons] at h
  cases e : (c == d) with
  | true => rw [e] at h; cases h; rw [show c = d from by simpa using e]; exact h1
  | false => rw [e] at h; exact h2.at h
/-- d is no class below c -/
structure vX (K : PySem.W.Frag) (mg : Str → Option Value) (c d : Str) : Prop where
 ex : ∃ Ca Cb, mg c = some (.ref Ca) ∧ mg d = some (.ref Cb) ∧ PySem.W.subIn K (.ref Cb) (.ref Ca) = some false
def u6 (K : PySem.W.Frag) (mg : Str → Option Value) (c : Str) : List Str → Prop
 | [] => True
 | d :: r => vX K mg c d ∧ u6 K mg c r
theorem u6.at {K : PySem.W.Frag} {mg : Str → Option Value} {c : Str} : ∀ {xs : List Str}, u6 K mg c xs → ∀ d ∈ xs, vX K mg c d
 | _ :: _, ⟨h, t⟩, d, hd => by
  rcases List.mem_cons.mp hd with rfl | hd
  ·exact h
  ·exact t.at d hd
def vY (K : PySem.W.Frag) (mg : Str → Option Value) : List (Str × FX) → List Str → Prop
 | [], _ => True
 | (c, _) :: t, xs => u6 K mg c xs ∧ vY K mg t xs
theorem vY.at {K : PySem.W.Frag} {mg : Str → Option Value} {xs : List Str} {c : Str} {f : FX} : ∀ {T : List (Str × FX)}, vY K mg T xs → T.lookup c = some f → ∀ d ∈ xs, vX K mg c d
 | [], _, h => by cases h
 | (d, q) :: t, ⟨h1, h2⟩, h => by
  rw [List.lookup_cons] at h
  cases e : (c == d) with
  | true => rw [show c = d from by simpa using e]; exact h1.at
  | false => rw [e] at h; exact h2.at h
end Mi
namespace Mi
open StX (env0_laid un_laid cxUp)
open PySem PySem.Spec PyProof.Rows L2
end Mi
namespace Mi
open StX (env0_laid un_laid cxUp)
open PySem PySem.Spec PyProof.Rows L2
end Mi
namespace Mi
open PySem PySem.Spec PyProof.Rows L2
end Mi
namespace PySem.HandSPX
open PySem.Spec PyProof.Rows
section
variable {M : Model} {A : Around} {E : Value → Shared → Prop} {h : Heap} {g : Array GenState} {d : Drawn} {t : Nat} {os : OsState}
variable {nm q : Str} {C N : Addr} {bs bm bmB : List Value} {hdct : Bool} {sn : List Str} {sub : List Value} {ab : Bool} {col : Option Bool} {dd : Option Addr} {k0 k1 k2 k3 k5 : Option Value} {B newId initId : String} {kw : List (Str × Value)}
theorem Jx (F : ExcBaseFacts B newId initId bmB) (hT : ∀ X : String, bm.contains (.type X) = bmB.contains (.type X)) {rest : List Value} {Q : Unit → Shared → Prop}
  (hC : h.get? C = some (excClassObj nm q C N bs bm hdct sn sub ab col dd k0 k1 k2 k3 k5 newId)) (hq : Q () ⟨h, g, d, t, os⟩) : wpAny M A (checkBuiltinCall newId ⟨.ref C :: rest, kw⟩) Q E ⟨h, g, d, t, os⟩ := by
 have hcont : (Value.ref C :: bm).contains (.type B) = true := by rw [List.contains_cons, hT, F.hasB, Bool.or_true]
 have hstar := F.noStar
 simp only [checkBuiltinCall, F.newKind, F.newSplit, F.newRow]
 repeat (first | refine wpAny_loadPart_at hC ?_ | (refine wpAny_isSubtype_exc hC ?_; rw [hcont]) | refine wpAny_staticBase_exc hC ?_ | refine wpAny_madeBy_exc hC ?_ | simp only [bne_self_eq_false, Bool.false_eq_true, if_false] | wp_step)
 exact hq
theorem Jy {rest : List Value} {Q : Unit → Shared → Prop} (hC : h.get? C = some (excClassObj nm q C N bs bm hdct sn sub ab col dd k0 k1 k2 k3 k5 newId))
  (hq : Q () ⟨h, g, d, t, os⟩) : wpAny M A (checkBuiltinCall "type.__call__" ⟨.ref C :: rest, kw⟩) Q E ⟨h, g, d, t, os⟩ := by
 have f3 := tc_sub
 have hT : (⟨h, g, d, t, os⟩ : Shared).TypeIs (.ref C) "type" := ⟨_, hC, rfl⟩
 simp only [checkBuiltinCall, tc_kind, tc_split]
 repeat (any_goals (first | assumption | with_reducible refine wpAny_loadPart_at hC ?_ | with_reducible refine wpAny_onRaise ?_ | with_reducible refine wpAny_map ?_ | wp_step))
end
section
variable {prog : Program} {w : World} {A : Around} {E : Value → Shared → Prop} {R : Result → Shared → Prop} {h : Heap} {g : Array GenState} {d : Drawn} {t : Nat} {os : OsState}
variable {nm q : Str} {C N : Addr} {bs bm bmB : List Value} {hdct : Bool} {sn : List Str} {sub : List Value} {ab : Bool} {col : Option Bool} {dd : Option Addr} {k0 k1 k2 k3 k5 : Option Value} {B newId initId : String} {kw : List (Str × Value)}
theorem Jz (F : ExcBaseFacts B newId initId bmB) (hT : ∀ X : String, bm.contains (.type X) = bmB.contains (.type X)) {rest : List Value}
  (hC : h.get? C = some (excClassObj nm q C N bs bm hdct sn sub ab col dd k0 k1 k2 k3 k5 newId))
  (hq : R (.ok (.ret (.ref (h.objs.size + 1)))) ⟨(h.push { cls := .type "tuple", data := .seq rest.toArray }).push
   { cls := .ref C, data := .fields #[.ref h.objs.size, .none, .none, .none, .bool false, .none] }, g, d, t, os⟩) (hrest : rest.length ≤ sizeLine) :
  codeAny (model prog w) A (.builtin newId ⟨.ref C :: rest, kw⟩) R ⟨h, g, d, t, os⟩ := by
 have hends := F.ends
 have hcB : (Value.ref C :: bm).contains (.type B) = true := by rw [List.contains_cons, hT, F.hasB, Bool.or_true]
 have hcA : (Value.ref C :: bm).contains (.type "AttributeError") = false := by rw [List.contains_cons, hT, F.noAttr]; rfl
 have hcN : (Value.ref C :: bm).contains (.type "NameError") = false := by rw [List.contains_cons, hT, F.noName]; rfl
 refine codeAny_builtinAt F.entry ?_
 unfold Builtin.«BaseException.__new__»
 refine wpAt_bind ?_
 show wpAt _ _ _ (stack >>= _) _ _ _
 refine wpAt_bind (wpAt_stack fun p below => wpAt_of_wpAny ?_)
 wp_walk
 refine wpAt_of_wpAny ?_
 rw [F.owner]
 repeat (first | with_reducible refine wpAny_madeHere_exc F.canon hC ?_ | with_reducible refine wpAny_loadPart_at hC ?_ | (with_reducible refine wpAny_isSubtype_exc hC ?_; first | rw [hcB] | rw [hcA] | rw [hcN]) | wp_step)
 show R _ _
 rw [Heap.size_push]
 exact hq
theorem JA (F : ExcBaseFacts B newId initId bmB) (hT : ∀ X : String, bm.contains (.type X) = bmB.contains (.type X)) {rest : List Value} {fI : Addr} {Q : Fin → Shared → Prop}
  (hC : h.get? C = some (excClassObj nm q C N bs bm hdct sn sub ab col dd k0 k1 k2 k3 k5 newId))
  (hi : W.Looks (model prog w) h (typeLookup (.ref C) "__init__") (some (.ref fI))) (hb : ∀ self, W.Looks (model prog w) h (bindSpecial (.ref fI) self) (.ref fI, [self])) (hrest : rest.length ≤ sizeLine)
  (hq : codeAny (model prog w) A (.call (.ref fI) ⟨.ref (h.objs.size + 1) :: rest, kw⟩)
   (fun r s' => match r with | .ok (.ret v) => v = .none ∧ Q (.done (.ret (.ref (h.objs.size + 1)))) s' | .ok _ => False | .error e => E e s')
   ⟨(h.push (W.kdv_tup rest)).push (excO C h.objs.size), g, d, t, os⟩) :
  wpAny (model prog w) A (Builtin.«type.__call__» ⟨.ref C :: rest, kw⟩) Q E ⟨h, g, d, t, os⟩ := by
 repeat (first | with_reducible refine wpAny_loadPart_at hC ?_ | with_reducible refine wpAny_madeBy_exc hC ?_ | wp_step)
 refine codeAny_call_builtin_code (Code.quiet_builtin _ F.quiet) (Jx F hT hC ?_)
 refine Jz F hT hC ?_ hrest
 show wpAny _ _ _ _ _ _
 have k : ∀ b o, h.get? b = some o → ((h.push (W.kdv_tup rest)).push (excO C h.objs.size)).get? b = some o := fun b o e => Heap.get?_push_of_some _ (Heap.get?_push_of_some _ e)
 have hC₁ := k _ _ hC
 have hget : ((h.push (W.kdv_tup rest)).push (excO C h.objs.size)).get? (h.objs.size + 1) = some (excO C h.objs.size) := by heap_get
 have hcC : (Value.ref C :: bm).contains (.ref C) = true := by simp
 have i1 := hi.keeps k
 have b1 := (hb (.ref (h.objs.size + 1))).keeps k
 unfold isInstance
 repeat (first | with_reducible refine wpAny_loadPart_at hget ?_ | (with_reducible refine wpAny_isSubtype_exc hC₁ ?_; rw [hcC]) | wp_step)
 show wpAny _ _ (typeLookup (.ref C) _) _ _ _
 refine i1.at ?_
 refine wpAny_holding (wpAny_bind (b1.at ?_))
 refine wpAny_bind (wpAny_call (codeAny_mono hq fun r s' z => ?_))
 rcases r with e | (v | _ | _ | _) <;> first | exact z | exact z.elim | skip
 obtain ⟨rfl, z⟩ := z
 first
  | exact wpAny_pure (wpAny_pure z)
  | (wp_walk; exact z)
theorem JB (F : ExcBaseFacts B newId initId bmB) (hT : ∀ X : String, bm.contains (.type X) = bmB.contains (.type X)) {rest : List Value} {fI : Addr}
  (hC : h.get? C = some (excClassObj nm q C N bs bm hdct sn sub ab col dd k0 k1 k2 k3 k5 newId))
  (hi : W.Looks (model prog w) h (typeLookup (.ref C) "__init__") (some (.ref fI))) (hb : ∀ self, W.Looks (model prog w) h (bindSpecial (.ref fI) self) (.ref fI, [self])) (hrest : rest.length ≤ sizeLine)
  (hq : codeAny (model prog w) (A.under (.builtin "type.__call__" ⟨.ref C :: rest, kw⟩)) (.call (.ref fI) ⟨.ref (h.objs.size + 1) :: rest, kw⟩) (W.InitBack (h.objs.size + 1) R)
   ⟨(h.push (W.kdv_tup rest)).push (excO C h.objs.size), g, d, t, os⟩) :
  codeAny (model prog w) A (.call (.ref C) ⟨rest, kw⟩) R ⟨h, g, d, t, os⟩ := by
 have f1 := tc_lookup
 have f2 := tc_bind (.ref C)
 have hTy : (⟨h, g, d, t, os⟩ : Shared).TypeIs (.ref C) "type" := ⟨_, hC, rfl⟩
 refine codeAny_of_tree ?_
 show wpAny _ _ (callAny (.ref C) _) _ _ _
 repeat (any_goals (first | assumption | with_reducible refine wpAny_loadPart_at hC ?_ | wp_step))
 refine ⟨rfl, ?_⟩
 refine codeAny_call_builtin_at (Code.quiet_builtin _ (by decide +kernel)) entry_typeCall (Jy hC (JA F hT hC hi hb hrest ?_))
 refine codeAny_mono hq fun r s' z => ?_
 rcases r with e | (v | _ | _ | _) <;> exact z
end
end PySem.HandSPX
namespace Mi
open PySem PySem.Spec PyProof.Rows L2
def mX (c : Str) (fs : List Str) (msg : EX) (ds : List D) (S : Store) : R D :=
 if ds.length = fs.length then match msg (.un :: ds.map Sl.sh) S with
  | .ok _ _ => .ok (.ref (S.length + 1)) (S ++ [.exd (fs.zip ds).reverse] ++ [.exo c (some S.length)])
  | _ => .stuck
 else .stuck
def bM (c : Str) (fs : List Str) (msg : EX) (idx : List Nat) (a k : AX) : EX := fun ρ S => (a ρ S).bind fun us S1 => (k ρ S1).bind fun ws S2 => mX c fs msg (pick idx us ws) S2
structure bT (K : PySem.W.Frag) (C : Addr) : Prop where
 ex : ∃ (B newId initId : String) (bmB : List Value) (nm q : Str) (N : Addr) (bs bm : List Value) (sn : List Str) (sub : List Value) (ab : Bool) (col : Option Bool) (dd : Option Addr) (k0 k1 k2 k3 k5 : Option Value),
  ExcBaseFacts B newId initId bmB ∧ (∀ Y : String, bm.contains (.type Y) = bmB.contains (.type Y)) ∧ K.lookup C = some (excClassObj nm q C N bs bm true sn sub ab col dd k0 k1 k2 k3 k5 newId)
 kC : PySem.W.keepIn K (.ref C) = true
theorem bT.ve {K : PySem.W.Frag} {C : Addr} (T : OexC K C) : bT K C := by
 obtain ⟨nm, q, N, bs, bm, sn, sub, ab, col, dd, k0, k1, k2, k3, k5, hC, hbm⟩ := T.cls
 exact ⟨⟨_, _, _, _, nm, q, N, bs, bm, sn, sub, ab, col, dd, k0, k1, k2, k3, k5, F.excBase_ValueError, fun Y => PySem.HandSPX.refsVE_contains Y bm hbm, hC⟩, T.kC⟩
theorem bT.rt {K : PySem.W.Frag} {C : Addr} {B newId initId : String} {tl : List Value} (RF : jX B newId initId tl) (T : jh K newId tl C) : bT K C := by
 obtain ⟨nm, q, N, bs, bm, sn, sub, ab, col, dd, k0, k1, k2, k3, k5, hC, hbm⟩ := T.cls
 exact ⟨⟨_, _, _, _, nm, q, N, bs, bm, sn, sub, ab, col, dd, k0, k1, k2, k3, k5, RF.eb, fun Y => PySem.W.excTail_contains Y bm hbm, hC⟩, T.kC⟩
theorem JC {α : Type} {idx : List Nat} {x : α} {us ws : List α} : pick (0 :: idx.map (· + 1)) (x :: us) ws = x :: pick idx us ws := by
 unfold pick
 rw [List.filterMap_cons]
 simp only [List.cons_append, List.getElem?_cons_zero]
 rw [List.filterMap_map]
 rfl
/-- what a CJ call needs -/
structure ExOk (P : Program) (w : World) (K : PySem.W.Frag) (mg : Str → Option Value) (base : Heap) (k n : Nat) (ks : List Str) (c : Str) (fs : List Str) (msg : EX) (idx : List Nat) : Prop where
 ex : ∃ (C fI : Addr) (x qual : Str) (st : Stmt) (fd : FuncData) (ps : List Str), mg c = some (.ref C) ∧ bT K C ∧ PySem.W.findIn K (.ref C) "__init__" = some (some (.ref fI)) ∧ PySem.W.typeIn K (.ref fI) = some (.type "function") ∧ Fun K x qual st fI fd ∧
  bJ P w K mg base k fI fd ps (spI ⟨K, mg, w, []⟩ C fs.length msg fs) ∧ jO st ps ks (n + 1) (0 :: idx.map (· + 1))
 hl : ∀ vs zs : List V, vs.length = n → zs.length = ks.length → (pick idx vs zs).length = fs.length
section
variable {X : Cx} {W : WX} {e : Expr} {es : List Expr} {kws : List Keyword} {ma mk : AX} {p pos : Pos} {x : Str} {ks fs : List Str} {k j n : Nat} {msg : EX} {idx : List Nat}
/-- the call itself -/
theorem vZ {C fI : Addr} {y qual : Str} {st : Stmt} {fd : FuncData} {ps : List Str} {sp : Sp} {σ : L2.St} {pins : List (Addr × Obj)} {H : Hp} {s : Shared} {Q : VK} {us ws : List Value} {vs zs : List V} (T : bT X.K C) (iC : PySem.W.findIn X.K (.ref C) "__init__" = some (some (.ref fI))) (tI : PySem.W.typeIn X.K (.ref fI) = some (.type "function"))
  (F0 : Fun X.K y qual st fI fd) (F1 : bJ X.prog X.w X.K X.mg X.base k fI fd ps sp) (B : jO st ps ks (n + 1) (0 :: idx.map (· + 1))) (hgd : X.A.guards = some []) (hr : Room (k + 1) X.A)
  (I : Inv X pins σ H s) (r : Vals vs us) (rz : Vals zs ws) (l1 : vs.length = n) (l2 : zs.length = ks.length) (l3 : vs.length ≤ 1000)
  (h : ∀ a, H a = none → sp (.ref a :: pick idx vs zs) (upd H a (exo a C none)) (fun v H3 => v = .non ∧ Q (.ref a) H3) (fun _ _ _ => False)) :
  wpAny (model X.prog X.w) X.A (call (.ref C) us (ks.zip ws)) (EP X pins σ Q) X.xe s := by
 obtain ⟨B', newId, initId, bmB, nm, q, N, bs, bm, sn, sub, ab, col, dd, k0, k1, k2, k3, k5, EB, hbm, hC⟩ := T.ex
 obtain ⟨hp, g, dr, tk, os⟩ := s
 have hsz : hp.objs.size ≤ hp.objs.size + 1 := Nat.le_succ _
 have hn : H (hp.objs.size + 1) = none := I.hok.fresh hsz
 have hq := h (hp.objs.size + 1) hn
 have kk : ∀ b o, hp.get? b = some o → ((hp.push (PySem.W.kdv_tup us)).push (PySem.HandSPX.excO C hp.objs.size)).get? b = some o := fun b o e => Heap.get?_push_of_some _ (Heap.get?_push_of_some _ e)
 have hget : ((hp.push (PySem.W.kdv_tup us)).push (PySem.HandSPX.excO C hp.objs.size)).get? (hp.objs.size + 1) = some (PySem.HandSPX.excO C hp.objs.size) := by heap_get
 have I2 : Inv X pins σ (upd H (hp.objs.size + 1) (exo (hp.objs.size + 1) C none)) ⟨(hp.push (PySem.W.kdv_tup us)).push (PySem.HandSPX.excO C hp.objs.size), g, dr, tk, os⟩ :=
  I.laid (t' := tk) (a := hp.objs.size + 1) (o := exo (hp.objs.size + 1) C none) (h' := (hp.push (PySem.W.kdv_tup us)).push (PySem.HandSPX.excO C hp.objs.size)) kk hsz (exo_ok hget)
 have r2 : Vals (V.ref (hp.objs.size + 1) :: pick idx vs zs) (pick (0 :: idx.map (· + 1)) (Value.ref (hp.objs.size + 1) :: us) ws) := by
  rw [JC]
  exact .cons rfl (zN r rz)
 have hus : us.length ≤ sizeLine := by rw [← Paired.length r, sizeLine_eq]; omega
 refine wpAny_call (PySem.HandSPX.JB EB hbm (I.kIn _ _ hC) (PySem.W.looks_findIn I.kIn iC) (fun self => PySem.W.bind_fn I.kIn self tI) hus
  (codeAny_mono (F1.run _ X.stack _ _ ⟨Value.ref (hp.objs.size + 1) :: us, ks.zip ws⟩ (pick (0 :: idx.map (· + 1)) (Value.ref (hp.objs.size + 1) :: us) ws) _ _ (fun _ _ _ => False) (by show X.A.guards = some []; exact hgd) (hr.make C us (ks.zip ws)) (I2.env0.make C us (ks.zip ws))
   (zR F0 B (by rw [List.length_cons, ← Paired.length r, l1]) (by rw [← Paired.length rz]; exact l2)) r2 hq) fun r s' hq' => ?_))
 cases r with
 | error er => exact passL pins σ _ _ er s' I2 hq'
 | ok fl =>
  cases fl with
  | ret u =>
   obtain ⟨v, H', I3, rv, ev, q3⟩ := I2.after hq'
   subst ev
   exact ⟨rv, ⟨V.ref (hp.objs.size + 1), H', I3, rfl, q3⟩⟩
  | next => exact False.elim hq'
  | brk => exact False.elim hq'
  | cont => exact False.elim hq'
theorem D7 : ∀ {fs : List Str} {vs : List V} {ds : List D}, vs.length = fs.length → ds.length = fs.length → (fs.zip vs).map (·.1) = (fs.zip ds).map (·.1)
 | [], _, _, _, _ => by simp
 | f :: fs, v :: vs, d :: ds, h1, h2 => by
  simp only [List.zip_cons_cons, List.map_cons]
  rw [D7 (by simpa using h1) (by simpa using h2)]
 | _ :: _, [], _, h1, _ => by simp at h1
 | _ :: _, _ :: _, [], _, h2 => by simp at h2
theorem D8 {C : Ct} {H : Hp} {P : Addr → Prop} {β : List Addr} : ∀ {vs : List V} {ds : List D}, aC C H P β vs ds → aC C H P β vs.reverse ds.reverse
 | _, _, .nil => .nil
 | _, _, .cons r t => by
  rw [List.reverse_cons, List.reverse_cons]
  exact (D8 t).append (.cons r .nil)
theorem JD {C : Ct} {H : Hp} {P : Addr → Prop} {β : List Addr} {vs : List V} {ds : List D} (r : aC C H P β vs ds) (h : ds.length = fs.length) : lV C H P β (fs.zip vs).reverse (fs.zip ds).reverse := by
 have hv : vs.length = fs.length := by rw [r.length, h]
 refine ⟨?_, ?_⟩
 ·rw [List.map_reverse, List.map_reverse, D7 hv h]
 ·rw [List.map_reverse, List.map_reverse, List.map_snd_zip (by omega), List.map_snd_zip (by omega)]
  exact D8 r
theorem D9 {C : Addr} {σ : L2.St} {H : Hp} {Q : VK} (hm : X.mg x = some (.ref C)) (hl : ∀ vs zs : List V, vs.length = n → zs.length = ks.length → (pick idx vs zs).length = fs.length) (h1 : iD ma n) (h2 : iD mk ks.length) (h : EM (au X) W false (bM x fs msg idx ma mk) σ H Q) :
  AM (au X) W false ma σ H fun us H1 => AM (au X) W false mk σ H1 fun zs H2 => us.length = n ∧ zs.length = ks.length ∧ ∀ a, H2 a = none →
   spI ⟨X.K, X.mg, X.w, []⟩ C fs.length msg fs (.ref a :: pick idx us zs) (upd H2 a (exo a C none)) (fun v H3 => v = .non ∧ Q (.ref a) H3) (fun _ _ _ => False) := by
 obtain ⟨cf, oa, P, β, ρ, S, L, h⟩ := h
 refine ⟨cf, oa, P, β, ρ, S, L, ?_⟩
 unfold bM at h
 cases ea : ma ρ S with
 | stuck => rw [ea] at h; exact h
 | exc e S1 => rw [ea] at h; exact h
 | ok us S1 =>
  rw [ea] at h
  simp only [R.bind] at h
  intro uv H1 β1 t1 L1 r1
  refine ⟨cf, oa, P, β1, ρ, S1, L1, ?_⟩
  cases eb : mk ρ S1 with
  | stuck => rw [eb] at h; exact h
  | exc e S2 => rw [eb] at h; intro cls d H' β' e2 L2 ex; exact h cls d H' β' (t1.trans e2) L2 ex
  | ok ws S2 =>
   rw [eb] at h
   simp only [R.bind] at h
   intro zv H2 β2 t2 L2 r2
   have n1 : uv.length = n := by rw [r1.length]; exact h1 _ _ _ _ ea
   have n2 : zv.length = ks.length := by rw [r2.length]; exact h2 _ _ _ _ eb
   refine ⟨n1, n2, fun a hna => ?_⟩
   have rs := zP (idx := idx) (r1.mono t2.ext) r2
   have hlv := hl uv zv n1 n2
   have Dc : (pick idx us ws).length = fs.length := by rw [← rs.length, hlv]
   unfold mX at h
   rw [if_pos Dc] at h
   have sl : Same H2 (upd H2 a (exo a C none)) := jt hna
   have em : ∃ d S', msg (.un :: (pick idx us ws).map Sl.sh) S2 = .ok d S' := by
    cases em : msg (.un :: (pick idx us ws).map Sl.sh) S2 with
    | ok d S' => exact ⟨d, S', rfl⟩
    | exc e S' => rw [em] at h; exact h.elim
    | stuck => rw [em] at h; exact h.elim
   refine ⟨a, _, rfl, hlv, upd_same, P, β2, pick idx us ws, S2, aK.ct (C := au X) (C' := ⟨X.K, X.mg, X.w, []⟩) rfl rfl (L2.st.laid hna), fun b hb => ⟨(Ext.same (β := β2) sl).stay b (L2.p b hb).1, (L2.p b hb).2⟩,
    aC.ct (C := au X) (C' := ⟨X.K, X.mg, X.w, []⟩) rfl rfl (rs.mono (Ext.same sl)), em, fun H3 dd sm hn hne => ⟨rfl, ?_⟩⟩
   obtain ⟨d, S', em⟩ := em
   rw [em] at h
   have hn2 : H2 dd = none := by
    cases z : H2 dd with
    | none => rfl
    | some o => rw [sm dd o (sl dd o z)] at hn; cases hn
   obtain ⟨o2, ho2⟩ : ∃ o2, o2 = exd dd (fs.zip (pick idx uv zv)).reverse := ⟨_, rfl⟩
   obtain ⟨o1, ho1⟩ : ∃ o1, o1 = exo a C (some dd) := ⟨_, rfl⟩
   rw [← ho2, ← ho1]
   have ha3 : (upd H2 dd o2) a = none := by rw [upd_ne (Ne.symm hne)]; exact hna
   have e3 : Ext H2 β2 (upd H2 dd o2) (β2 ++ [dd]) := Ext.boxed hn2
   have s3 := L2.st.box (o := o2) (so := .exd (fs.zip (pick idx us ws)).reverse) hn2 (fun z => (L2.p dd z).1 hn2) ⟨_, by rw [upd_same, ho2], JD (rs.mono e3) Dc⟩
   have L3 := L2.step e3 s3
   have e4 : Ext (upd H2 dd o2) (β2 ++ [dd]) (upd (upd H2 dd o2) a o1) (β2 ++ [dd] ++ [a]) := Ext.boxed ha3
   have hlen : β2.length = S2.length := L2.st.len
   have s4 := L3.st.box (o := o1) (so := .exo x (some S2.length)) ha3 (fun z => (L3.p a z).1 ha3) ⟨C, some dd, hm, by rw [upd_same, ho1], ⟨dd, rfl, by
    rw [List.append_assoc, ← hlen, List.getElem?_append_right (Nat.le_refl _)]; simp⟩⟩
   have L4 := L3.step e4 s4
   have sf : Same (upd (upd H2 dd o2) a o1) (upd (upd H3 dd o2) a o1) := fun b o z => by
    by_cases ba : b = a
    ·subst ba; rw [upd_same] at z ⊢; exact z
    ·rw [upd_ne ba] at z ⊢
     by_cases bd : b = dd
     ·subst bd; rw [upd_same] at z ⊢; exact z
     ·rw [upd_ne bd] at z ⊢
      exact sm b o (sl b o z)
   have L5 := L4.same sf
   have ra : RV (au X) (upd (upd H3 dd o2) a o1) P (β2 ++ [dd] ++ [a]) (.ref a) (.ref (S2.length + 1)) := .ref (by
    rw [← hlen, List.append_assoc, List.getElem?_append_right (Nat.le_succ _)]; simp)
   exact h (.ref a) _ _ ⟨((t1.trans t2).ext.trans (e3.trans e4)).trans (Ext.same sf), fun z => nomatch z⟩ L5 ra
theorem gH (hT : ExOk X.prog X.w X.K X.mg X.base k n ks x fs msg idx) (hgd : X.A.guards = some []) (hr : Room j X.A) (hkj : k + 1 ≤ j) (ha : j5 (au X) W false X (e :: es) ma) (hkw : oX (au X) W false X kws mk) (h1 : iD ma n) (h2 : iD mk ks.length) (hn : n ≤ 1000) (hg : Gl X x := by rfl)
  (hall : (backToKw pos (keywordEach kws X.env)).all (·.1.isSome) = true := by rfl) (hks : (backToKw pos (keywordEach kws X.env)).filterMap (·.1) = ks := by rfl)
  (hdb : (x == ("__debug__" : Str)) = false := by decide) (he : starEach (e :: es) X.env = (false, eval e X.env) :: starEach es X.env := by rfl)
  (hpl : ((backTo pos (starEach (e :: es) X.env)).any (·.1) || (backToKw pos (keywordEach kws X.env)).any (·.1.isNone)) = false := by rfl) : PM (au X) W false X (.Call (.Name x p) (e :: es) kws pos) (bM x fs msg idx ma mk) := by
 obtain ⟨C, fI, y, qual, st, fd, ps, hm, T, iC, tI, F0, G, B⟩ := hT.ex
 refine ⟨fun pins s σ H Q I h => ?_⟩
 have h := D9 hm hT.hl h1 h2 h
 refine wpAny_Call_Name_kw (ld_glob I hg hm ?_ hdb)
 refine PySem.W.callWith_KW (h₀ := X.base) I.ok.mod.kin T.kC hall (thn (ha.run pos pins s σ H _ I h) fun us s1 ⟨vs, H1, I1, r, q⟩ => ?_) hpl he
 refine thn (hkw.run pos pins s1 σ H1 _ I1 q) fun ws s2 ⟨zs, H2, I2, rz, n1, n2, q2⟩ => ⟨I2.kIn, ?_⟩
 rw [hks]
 exact vZ T iC tI F0 G B hgd (hr.mono hkj) I2 r rz n1 n2 (by omega) q2
theorem gJ (hT : ExOk X.prog X.w X.K X.mg X.base k 0 ks x fs msg idx) (hgd : X.A.guards = some []) (hr : Room j X.A) (hkj : k + 1 ≤ j) (hkw : oX (au X) W false X kws mk) (h2 : iD mk ks.length) (hg : Gl X x := by rfl)
  (hall : (backToKw pos (keywordEach kws X.env)).all (·.1.isSome) = true := by rfl) (hks : (backToKw pos (keywordEach kws X.env)).filterMap (·.1) = ks := by rfl)
  (hdb : (x == ("__debug__" : Str)) = false := by decide)
  (hpl : ((backTo pos (starEach [] X.env)).any (·.1) || (backToKw pos (keywordEach kws X.env)).any (·.1.isNone)) = false := by rfl) : PM (au X) W false X (.Call (.Name x p) [] kws pos) (bM x fs msg idx aq mk) := by
 obtain ⟨C, fI, y, qual, st, fd, ps, hm, T, iC, tI, F0, G, B⟩ := hT.ex
 refine ⟨fun pins s σ H Q I h => ?_⟩
 have h := D9 hm hT.hl bF h2 h
 have h' : AM (au X) W false mk σ H fun zs H2 => zs.length = ks.length ∧ ∀ a, H2 a = none → spI ⟨X.K, X.mg, X.w, []⟩ C fs.length msg fs (.ref a :: pick idx [] zs) (upd H2 a (exo a C none)) (fun v H3 => v = .non ∧ Q (.ref a) H3) (fun _ _ _ => False) := by
  obtain ⟨cf, oa, P, β, ρ, S, L, h⟩ := h
  have q := h [] H β Tr.refl L .nil
  obtain ⟨cf, oa, P, β, ρ, S, L, q⟩ := q
  refine ⟨cf, oa, P, β, ρ, S, L, ?_⟩
  cases eb : mk ρ S with
  | stuck => rw [eb] at q; exact q
  | exc e S2 => rw [eb] at q; exact q
  | ok ws S2 => rw [eb] at q; intro zs H2 β2 t2 L2 r2; exact (q zs H2 β2 t2 L2 r2).2
 refine wpAny_Call_Name_kw (ld_glob I hg hm ?_ hdb)
 refine PySem.W.callWith_KW0 (h₀ := X.base) I.ok.mod.kin T.kC hall (thn (hkw.run pos pins s σ H _ I h') fun ws s2 ⟨zs, H2, I2, rz, n2, q2⟩ => ⟨I2.kIn, ?_⟩) hpl
 rw [hks]
 exact vZ (n := 0) T iC tI F0 G B hgd (hr.mono hkj) I2 (us := []) (vs := []) .nil rz rfl n2 (by simp) q2
end
/-- is an EY dict there -/
def mY (S : Store) : Option Nat → Bool
 | none => true
 | some k => match S[k]? with
  | some (.exd _) => true
  | _ => false
def jA (cs : List Str) (f : Str) (m : EX) : EX := fun ρ S => (m ρ S).bind fun x S1 => match x with
 | .ref n => match S1[n]? with
  | some (.exo c (some k)) => match S1[k]? with
   | some (.exd fs) => if cs.contains c = true then R.opt (fs.lookup f) S1 else .stuck
   | _ => .stuck
  | _ => .stuck
 | _ => .stuck
def cG (cs : List Str) (T : List ((Str × Str) × Bool)) (U : List ((Str × String) × Bool)) (S : Store) (ds : List D) : Option D := match ds with
 | [.ref n, d] => match S[n]? with
  | some (.exo c m) => if mY S m = true ∧ cs.contains c = true then (vI T U c d).map D.bl else none
  | _ => none
 | _ => none
def qZ (S : Store) (d : D) : Option D := match d with
 | .str y => if y.length ≤ sizeLine then some (.str y) else none
 | .int i => if i.natAbs.log2 < 1920 then some (.str (toString i)) else none
 | d => fP S d
section
variable {X : Cx} {W : WX} {b : Bool} {n f x : Str} {pos : Pos} {e : Expr} {me : EX} {te : TE} {cs : List Str} {T : List ((Str × Str) × Bool)} {U : List ((Str × String) × Bool)}
theorem JE (he : PE X e te) (hb : attributeBase e f X.env (eval e X.env) = eval e X.env) :
  PE X (.Attribute e f pos) (fun σ H Q => te σ H fun x H1 => ∃ (a C dd : Addr) (fs : List (Str × V)) (v : V), x = .ref a ∧ ExcC X.K C ∧ PySem.W.findIn X.K (.ref C) f = some none ∧ H1 a = some (exo a C (some dd)) ∧ H1 dd = some (exd dd fs) ∧ fs.lookup f = some v ∧ Q v H1) := by
 refine ⟨fun pins s σ H Q I h => ?_⟩
 refine attr_of hb (thn (he.run pins s σ H _ I h) fun u s1 hh => ?_)
 obtain ⟨x, H1, I1, rx, a, C, dd, fs, v, ex, E, hf, ea, ed, l, q⟩ := hh
 subst ex
 obtain rfl : u = Value.ref a := rx
 obtain ⟨t1, ha⟩ := exo_at I1.hok ea
 obtain ⟨mA, hns, hr⟩ := exd_at I1.hok ed
 obtain ⟨od, ho, hl⟩ := lookIn_ns hns
 obtain ⟨u, hu, ru⟩ := RelO.some_of (v := v) (o := mA f) (by rw [← l]; exact hr f)
 have J : PySem.W.InstAt s1.heap a { cls := .ref C, dict := some dd, data := .fields #[.ref t1, .none, .none, .none, .bool false, .none] } C (some od) := ⟨ha, rfl, rfl, ho⟩
 exact HandSPX.exc_get I1.kIn J E.hg E.hk E.hs (PySem.W.findObj_own E.hd hf rfl (by rw [hl, hu])) (handed_of ru) ⟨v, H1, I1.tok _, ru, q⟩
theorem rA (hE : mO X.K X.mg cs) (hF : jg X.K X.mg f cs) (he : PM (au X) W b X e me) (hb : attributeBase e f X.env (eval e X.env) = eval e X.env := by rfl) : PM (au X) W b X (.Attribute e f pos) (jA cs f me) :=
 dB (JE he hb) fun σ H Q h => by
  obtain ⟨cf, oa, P, β, ρ, S, L, h⟩ := h
  refine ⟨cf, oa, P, β, ρ, S, L, ?_⟩
  unfold jA at h
  cases ea : me ρ S with
  | stuck => rw [ea] at h; exact h
  | exc e1 S1 => rw [ea] at h; exact h
  | ok d S1 =>
   rw [ea] at h
   simp only [R.bind] at h
   intro v H1 β1 t1 L1 rv
   cases d with
   | ref n =>
    simp only at h
    cases rv with
    | @ref _ a hn =>
     cases en : S1[n]? with
     | none => rw [en] at h; exact h.elim
     | some so =>
      rw [en] at h
      cases so with
      | exo c m =>
       cases m with
       | none => exact h.elim
       | some k =>
        simp only at h
        cases ek : S1[k]? with
        | none => rw [ek] at h; exact h.elim
        | some JF =>
         rw [ek] at h
         cases JF with
         | exd fs =>
          simp only at h
          by_cases hc : cs.contains c = true
          ·rw [if_pos hc] at h
           cases ef : fs.lookup f with
           | none => rw [ef] at h; exact h.elim
           | some d =>
            rw [ef] at h
            obtain ⟨Ca, dd0, m1, q1, dd, e0, q2⟩ := L1.st.ok _ _ _ hn en
            subst e0
            obtain ⟨vs, q3, q4⟩ := L1.st.ok _ _ _ q2 ek
            obtain ⟨v, l, rv⟩ := CP q4 ef
            exact ⟨a, Ca, dd, vs, v, rfl, hE.at hc m1, hF.at hc m1, q1, q3, l, h v H1 β1 t1 L1 rv⟩
          ·rw [if_neg hc] at h; exact h.elim
         | _ => exact h.elim
      | _ => exact h.elim
   | _ => exact h.elim
def Dd (X : Cx) : List V → Hp → VK → Prop := fun xs H Q => ∃ (a Ca : Addr) (d : Option Addr) (c : V) (b : Bool), xs = [.ref a, c] ∧ H a = some (exo a Ca d) ∧ (d = none ∨ ∃ dd fs, d = some dd ∧ H dd = some (exd dd fs)) ∧ ExcC X.K Ca ∧
 ((∃ u, ClsV c u ∧ PySem.W.kitOne X.K (.ref Ca) u = some b) ∨ ∃ tp cs us, c = .ref tp ∧ SqT X.K H tp cs ∧ Paired ClsV cs us ∧ PySem.W.kitAny X.K (.ref Ca) us = some b) ∧ Q (.bl b) H
theorem cP : CallR X (.builtin "isinstance") (Dd X) := by
 intro pins s σ H xs us Q I r h
 obtain ⟨a, Ca, d, c, b, rfl, ha, hd, E, hk, q⟩ := h
 obtain ⟨u1, u2, rfl, r1, r2⟩ := vals2 r
 cases (show u1 = Value.ref a from r1)
 obtain ⟨t1, ho⟩ := exo_at I.hok ha
 have key : ∀ od : Option Obj, PySem.W.InstAt s.heap a { cls := .ref Ca, dict := d, data := .fields #[.ref t1, .none, .none, .none, .bool false, .none] } Ca od → wpAny (model X.prog X.w) X.A (call (.builtin "isinstance") [.ref a, u2]) (EP X pins σ Q) X.xe s := fun od J => by
  have Z := PySem.W.kitx_exc (x := a) (ox := { cls := .ref Ca, dict := d, data := .fields #[.ref t1, .none, .none, .none, .bool false, .none] }) (od := od) (by obtain ⟨cd, hc, _⟩ := PySem.W.any_some E.hd; rw [hc]; rfl) E.hg E.hk E.hs E.ha E.hn E.ht E.hm
  rcases hk with ⟨u, k, e⟩ | ⟨tp, cs, us, rfl, hT, k, e⟩
  ·have e2 := k.eq r2
   subst e2
   exact PySem.W.kia_one Z I.kIn J e (fun z => nomatch z) fun tk => ⟨.bl b, H, I.tok tk, rfl, q⟩
  ·cases (show u2 = Value.ref tp from r2)
   obtain ⟨its, rv, ⟨o, h1, h2, n, h3⟩, _⟩ := I.tuple hT
   have e3 := ClsV.all k rv
   subst e3
   obtain ⟨oc, od', dt, sl⟩ := o
   simp only at h2 h3
   subst h2 h3
   exact PySem.W.kia_tup Z I.kIn J h1 e (fun z => nomatch z) fun tk => ⟨.bl b, H, I.tok tk, rfl, q⟩
 rcases hd with rfl | ⟨dd, fs, rfl, ed⟩
 ·exact key none ⟨ho, rfl, rfl, trivial⟩
 ·obtain ⟨mA, hns, hr⟩ := exd_at I.hok ed
  obtain ⟨od, hod, hl⟩ := lookIn_ns hns
  exact key (some od) ⟨ho, rfl, rfl, hod⟩
theorem cQ (hE : mO X.K X.mg cs) (hT : jV X.K X.mg T) (hU : jW X.K X.mg U) : j6 X (Dd X) (cG cs T U) := by
 intro Z H β S xs ds dz Q A r e k
 unfold cG at e
 split at e
 ·rename_i n d
  obtain ⟨x, y, rfl, r1, r2⟩ := qM r
  split at e
  ·rename_i c m en
   split at e
   ·rename_i hc
    obtain ⟨hm, hc⟩ := hc
    cases r1 with
    | @ref _ a hn =>
     obtain ⟨Ca, dd, m1, q1, q2⟩ := A.st.ok _ _ _ hn en
     have hd : dd = none ∨ ∃ d0 fs, dd = some d0 ∧ H d0 = some (exd d0 fs) := by
      cases m with
      | none => exact .inl q2
      | some k =>
       obtain ⟨d0, e0, q3⟩ := q2
       have hm : (match S[k]? with | some (SO.exd _) => true | _ => false) = true := hm
       split at hm
       ·rename_i fs ek
        obtain ⟨vs, q4, _⟩ := A.st.ok _ _ _ q3 ek
        exact .inr ⟨d0, vs, e0, q4⟩
       ·cases hm
     obtain ⟨b, eb, rfl⟩ := Option.map_eq_some_iff.mp e
     refine ⟨a, Ca, dd, _, b, rfl, q1, hd, hE.at hc m1, ?_, k _ H (Same.refl _) (.bl _)⟩
     unfold vI at eb
     split at eb
     ·obtain ⟨tp, us, rfl, w1, w2⟩ := r2.gq rfl
      obtain ⟨ks, z1, z2⟩ := vJ (e := ⟨c, []⟩) hT hU m1 w2 eb
      exact .inr ⟨tp, us, ks, rfl, w1, z1, z2⟩
     ·exact .inl (CH (e := ⟨c, []⟩) hT hU m1 r2 eb)
   ·cases e
  ·cases e
 ·cases e
end
section
variable {pr : Program} {w : World}
theorem JG {A : Around} {E Q : Value → Shared → Prop} {s : Shared} {v : Value} {d : PyData} (r : RD s.heap v d) (hs : ∀ x, d ≠ .str x) (sh : d.showable = true) (sz : d.shown.length ≤ sizeLine) (hg : A.guards = some []) (hu : A.units + (d.depth + 2) < cLine)
  (hQ : ∀ h' u tk, (∀ b o, s.heap.get? b = some o → h'.get? b = some o) → Q (.str d.shown u) { s with heap := h', toks := tk }) : wpAny (model pr w) A (formatField v Str.empty) Q E s := by
 cases r with
 | non => simp only [PyData.shown] at hQ; exact wpAny_formatField_none (hQ s.heap _ _ fun _ _ e => e)
 | bl b => simp only [PyData.shown] at hQ; exact wpAny_formatField_bool (hQ s.heap _ _ fun _ _ e => e)
 | int i t => simp only [PyData.shown] at hQ; exact wpAny_formatField_int (by simpa [PyData.showable] using sh) (hQ s.heap _ _ fun _ _ e => e)
 | str x t => exact absurd rfl (hs x)
 | @lst a o l n xs g c e r =>
  simp only [PyData.shown] at sz hQ
  simp only [PyData.depth] at hu
  obtain ⟨bs, hb, k⟩ := fH (pr := pr) (w := w) r (by simpa [PyData.showable] using sh) fun t m => Nat.le_trans (listText_mem_le m) sz
  obtain ⟨as, rr⟩ := (RD.lst g c e r).reads
  have out := not_mem_of_deeper rr (by simp only [PyData.depth]; omega : PyData.depthAll xs < _) hb
  refine wpAny_formatField_slot (fun _ _ => nofun) (by omega) ⟨o, g, c⟩ F.slot_list_format F.slot_list_str F.slot_list_repr.toG ?_
  match l, e, k with
  | [], e, k =>
   cases hx : PyData.shownAll xs with
   | cons t ts => rw [hx] at k; cases k
   | nil => rw [hx, listText_nil] at hQ; exact call_list_repr_empty ⟨o, g, c⟩ g e ⟨_, _, rfl, hQ s.heap _ _ fun _ _ e => e⟩
  | x :: l, e, k => exact call_list_reprK g c e out (by simpa using (qO k).symm) (fun i y z => k.item i y (by simpa using z)) hg (fun b _ => Clear.nil b) (by show A.units + 2 + _ < _; omega) (fun _ _ e => e) (fun h' u tk q => ⟨_, _, rfl, hQ h' u tk q⟩) sz
 | @tup a o l n xs g c e r =>
  simp only [PyData.shown] at sz hQ
  simp only [PyData.depth] at hu
  obtain ⟨bs, hb, k⟩ := fH (pr := pr) (w := w) r (by simpa [PyData.showable] using sh) fun t m => Nat.le_trans (tupleText_mem_le m) sz
  obtain ⟨as, rr⟩ := (RD.tup g c e r).reads
  have out := not_mem_of_deeper rr (by simp only [PyData.depth]; omega : PyData.depthAll xs < _) hb
  refine wpAny_formatField_slot (fun _ _ => nofun) (by omega) ⟨o, g, c⟩ F.slot_tuple_format F.slot_tuple_str F.slot_tuple_repr ?_
  exact call_tuple_reprK g c e out (by simpa using k) hg (fun b _ => Clear.nil b) (by show A.units + 2 + _ < _; omega) (fun _ _ e => e) (fun h' u tk q => ⟨_, _, rfl, hQ h' u tk q⟩) sz
 | @dct a o es n kvs g c e sy r1 r2 =>
  simp only [PyData.shown] at sz hQ
  simp only [PyData.depth] at hu
  obtain ⟨sh1, mJ⟩ := PyData.showableKv_split kvs (by simpa [PyData.showable] using sh)
  have low : ∀ t : Str, (∃ p ∈ PyData.shownKv kvs, t.length ≤ p.length) → t.length ≤ sizeLine := fun t ⟨p, m, q⟩ => Nat.le_trans q (Nat.le_trans (dictText_mem_le m) sz)
  obtain ⟨b1, hb1, k1⟩ := fH (pr := pr) (w := w) r1 sh1 fun t m => low t (PyData.shownKv_key_le kvs t m)
  obtain ⟨b2, hb2, k2⟩ := fH (pr := pr) (w := w) r2 mJ fun t m => low t (PyData.shownKv_val_le kvs t m)
  obtain ⟨as, rr⟩ := (RD.dct g c e sy r1 r2).reads
  have l1 := PyData.depthAll_keys_le kvs
  have l2 := PyData.depthAll_vals_le kvs
  have out := not_mem_of_deeper rr (by simp only [PyData.depth]; omega : PyData.depthKv kvs < _) ((hb1.mono l1).append (hb2.mono l2))
  refine wpAny_formatField_slot (fun _ _ => nofun) (by omega) ⟨o, g, c⟩ F.slot_dict_format F.slot_dict_str F.slot_dict_repr ?_
  rw [PyData.shownKv_eq] at sz hQ
  refine call_dict_reprK g c e sy out (ReprEntriesK.of_two _ _ _ (k1.more_le (fun b m => ?_) l1) (k2.more_le (fun b m => ?_) l2)) hg (fun b _ => Clear.nil b) (by show A.units + 2 + _ < _; omega) (fun _ _ e => e) (fun h' u tk q => ⟨_, _, rfl, hQ h' u tk q⟩) sz
  ·exact List.mem_append.mpr (.inl m)
  ·exact List.mem_append.mpr (.inr m)
end
section
variable {X : Cx} {W : WX} {b : Bool} {e : Expr} {ma : EX} {pos : Pos}
theorem w6 {k : Nat} {A : Around} (h : Room k A) : A.units + 80 < cLine := by have := h.un; omega
theorem we (hg : X.A.guards = some []) (hu : X.A.units + 80 < cLine) (he : PM (au X) W b X e ma) : PM (au X) W b X (.FormattedValue e (-1) none pos) (d7 qZ ma) := by
 refine ⟨fun pins s σ H Q I h => ?_⟩
 have h' := uO (r := fun x H1 Q => ((∃ y : Str, x = .str y ∧ y.length ≤ sizeLine ∧ Q (.str y) H1) ∨ ∃ i : Int, x = .int i ∧ i.natAbs.log2 < 1920 ∧ Q (.str (toString i)) H1) ∨ (tD X [x] H1 Q ∧ ∀ y, x ≠ .str y)) (fun Z H β S x dx dz Q A rx e k => by
  unfold qZ at e
  split at e
  ·split at e
   ·rename_i hz
    cases e
    cases rx
    exact .inl (.inl ⟨_, rfl, hz, k _ H (Same.refl _) (.str _)⟩)
   ·cases e
  ·split at e
   ·rename_i hz
    cases e
    cases rx
    exact .inl (.inr ⟨_, rfl, hz, k _ H (Same.refl _) (.str _)⟩)
   ·cases e
  ·rename_i h1 h2
   unfold fP at e
   split at e
   ·rename_i p ep
    split at e
    ·rename_i hz
     cases e
     refine .inr ⟨⟨β, x, top S dx, p, rfl, rx.top A.st, ep, hz.1, hz.2.1, hz.2.2, k _ H (Same.refl _) (.str _)⟩, fun y z => ?_⟩
     subst z
     cases rx
     exact h1 _ rfl
    ·cases e
   ·cases e) h
 refine wpAny_FormattedValue_plain (thn (he.run pins s σ H _ I h') fun v s1 hv => ?_)
 obtain ⟨x, H1, I1, r1, q⟩ := hv
 rcases q with (⟨y, rfl, hz, q⟩ | ⟨i, rfl, hz, q⟩) | ⟨⟨β, x', d, p, ex, rv, e, h1, h2, h3, q⟩, hns⟩
 ·obtain ⟨t, rfl⟩ := r1
  exact wpAny_formatField_str ⟨.str y, H1, I1, ⟨t, rfl⟩, q⟩ ⟨.str y, H1, I1.tok _, ⟨_, rfl⟩, q⟩ hz
 ·obtain ⟨t, rfl⟩ := r1
  exact wpAny_formatField_int hz ⟨.str (toString i), H1, I1.tok _, ⟨_, rfl⟩, q⟩
 ·cases ex
  have rd := qP I1 rv r1 e
  exact JG rd (fun y z => by subst z; cases rd with | str _ _ => cases x <;> first | exact hns _ rfl | (cases r1; done) | (obtain ⟨_, z⟩ := r1; cases z; done) | skip) h1 h2 hg (by omega) fun h' t tk k => ⟨.str p.shown, H1, I1.kept k, ⟨_, rfl⟩, q⟩
end
def rB (c : Str) (msg : EX) : EX := fun _ S => match msg [.un] S with
 | .ok _ _ => .ok (.ref S.length) (S ++ [.exo c none])
 | _ => .stuck
def u9 (C : Ct) (Ca : Addr) (msg : EX) : Sp := fun vs H Q E => ∃ a, vs = [V.ref a] ∧ H a = some (exo a Ca none) ∧
 ∃ P β S, aK C H P β S ∧ (∀ b, P b → H b ≠ none ∧ b ∉ β) ∧ (∃ d S', msg [.un] S = .ok d S') ∧ ∀ H1, Same H H1 → Q .non H1
section
variable {P : Program} {w : World} {K : PySem.W.Frag} {mg : Str → Option Value} {base : Heap} {B newId : String} {tl : List Value}
/-- __init__(self): B.__init__(self, msg) -/
theorem JH {x qual : Str} {st : Stmt} {fa Ca : Addr} {fd : FuncData} {k : Nat} {msg : EX} {s1 : Stmt} (F : Fun K x qual st fa fd) (S : FnScope ["self"] ["self"] (defScope st)) (O : jh K newId tl Ca) (hst : defBody st = [s1])
  (h1 : ∀ (cdv : Value) (A : Around) (outer : List Env) (s : Shared) (H : Hp) (E : XK), (dw P w K mg base ["self"] qual st fa cdv A outer s H E).A.guards = some [] → Room k (dw P w K mg base ["self"] qual st fa cdv A outer s H E).A →
   PS (dw P w K mg base ["self"] qual st fa cdv A outer s H E) s1 (tDrop (vQ K newId tl (tCons (tVar 0) (tCons (EM ⟨K, mg, w, []⟩ tM true msg) tNil))))) : bJ P w K mg base (k + 1) fa fd ["self"] (u9 ⟨K, mg, w, []⟩ Ca msg) := by
 refine qD F S (fun vs H Q E ⟨a, e, _⟩ => by rw [e]; rfl) fun cdv A outer s H vs Q E hg hr h => ?_
 have p1 := h1 cdv A outer s H E hg hr
 rw [hst]
 refine ⟨_, pss_cons p1 pss_nil, ?_⟩
 obtain ⟨a, rfl, ea, Pf, β, St, hs, hp, ⟨d, S', em⟩, q⟩ := h
 refine ⟨.ref a, rfl, ⟨H, β, Pf, []⟩, _, Pf, β, _, St, LR.tR (ws := []) (ds := []) hs hp .nil rfl, ?_⟩
 rw [show (Sl.un :: ([] : List D).map Sl.sh) = [Sl.un] from rfl, em]
 intro m H1 β1 t1 L1 rm
 have sm := (t1.ro rfl).1
 refine ⟨a, Ca, [m], rfl, by simp, O, sm _ _ ea, ?_⟩
 exact q H1 sm
end
/-- the class c, without fields -/
structure De (K : PySem.W.Frag) (mg : Str → Option Value) (c qual : Str) (st : Stmt) (newId : String) (tl : List Value) (Ca fI : Addr) (fd : FuncData) : Prop where
 m : mg c = some (.ref Ca)
 o : jh K newId tl Ca
 i : PySem.W.findIn K (.ref Ca) "__init__" = some (some (.ref fI))
 t : PySem.W.typeIn K (.ref fI) = some (.type "function")
 F : Fun K "__init__" qual st fI fd
structure Df (P : Program) (w : World) (K : PySem.W.Frag) (mg : Str → Option Value) (base : Heap) (k : Nat) (c : Str) (msg : EX) : Prop where
 ex : ∃ (C fI : Addr) (x qual : Str) (st : Stmt) (fd : FuncData) (ps : List Str), mg c = some (.ref C) ∧ bT K C ∧ PySem.W.findIn K (.ref C) "__init__" = some (some (.ref fI)) ∧ PySem.W.typeIn K (.ref fI) = some (.type "function") ∧ Fun K x qual st fI fd ∧
  bJ P w K mg base k fI fd ps (u9 ⟨K, mg, w, []⟩ C msg) ∧ jO st ps [] 1 [0]
section
variable {X : Cx} {W : WX} {p pos : Pos} {x : Str} {k j : Nat} {msg : EX}
theorem JI (hT : Df X.prog X.w X.K X.mg X.base k x msg) (hgd : X.A.guards = some []) (hr : Room j X.A) (hkj : k + 1 ≤ j) (hg : Gl X x := by rfl) (hdb : (x == ("__debug__" : Str)) = false := by decide) : PM (au X) W false X (.Call (.Name x p) [] [] pos) (rB x msg) := by
 obtain ⟨C, fI, y, qual, st, fd, ps, hm, T, iC, tI, F0, G, B⟩ := hT.ex
 refine ⟨fun pins s σ H Q I h => ?_⟩
 have h' : ∀ a, H a = none → u9 ⟨X.K, X.mg, X.w, []⟩ C msg (.ref a :: pick [] [] []) (upd H a (exo a C none)) (fun v H3 => v = .non ∧ Q (.ref a) H3) (fun _ _ _ => False) := fun a hna => by
  obtain ⟨cf, oa, P, β, ρ, S, L, h⟩ := h
  unfold rB at h
  cases em : msg [.un] S with
  | exc e S' => rw [em] at h; exact h.elim
  | stuck => rw [em] at h; exact h.elim
  | ok d S' =>
   rw [em] at h
   have sl : Same H (upd H a (exo a C none)) := jt hna
   refine ⟨a, rfl, upd_same, P, β, S, aK.ct (C := au X) (C' := ⟨X.K, X.mg, X.w, []⟩) rfl rfl (L.st.laid hna), fun b hb => ⟨(Ext.same (β := β) sl).stay b (L.p b hb).1, (L.p b hb).2⟩, ⟨d, S', em⟩, fun H1 sm => ⟨rfl, ?_⟩⟩
   have e4 : Ext H β (upd H a (exo a C none)) (β ++ [a]) := Ext.boxed hna
   have s4 := L.st.box (o := exo a C none) (so := .exo x none) hna (fun z => (L.p a z).1 hna) ⟨C, none, hm, upd_same, rfl⟩
   have L4 := (L.step e4 s4).same sm
   have hlen : β.length = S.length := L.st.len
   exact h (.ref a) _ _ ⟨e4.trans (Ext.same sm), fun z => nomatch z⟩ L4 (.ref (by rw [← hlen, List.getElem?_append_right (Nat.le_refl _)]; simp))
 refine wpAny_Call_Name_kw (ld_glob I hg hm ?_ hdb)
 refine PySem.W.callWith_K0 I.kIn T.kC ?_
 exact vZ (n := 0) (ks := []) (idx := []) T iC tI F0 G B hgd (hr.mono hkj) I (us := []) (ws := []) (vs := []) (zs := []) .nil .nil rfl rfl (by simp) h'
end
end Mi
namespace PySem.rC
open PySem.Spec PyProof.Rows
def dh (b : Bool) : Int := if b then 1 else 0
section
variable {prog : Program} {w : World} {A : Around} {R : Result → Shared → Prop} {I : Addr} {fp wr : List Addr} {n : Nat} {P : Nat → Value → Prop} {St : Nat → Heap → Prop}
theorem JK (W : Walks prog w A.in1 I fp wr n P St) (val : Nat → Int) (hval : ∀ i v, P i v → ∃ b, v = .bool b ∧ val i = dh b) (hfit : ∀ j, j < n → InLong (val j) ∧ InLong (preSum val (j + 1))) (S : Addr) (hSf : S ∉ fp) :
  ∀ (k i : Nat) (s : Shared) (tA : Tok) (c : Nat), n - i = k → i ≤ n → St i s.heap → s.heap.get? S = some { cls := .type "list", dict := none, data := .seq #[.int (preSum val i) tA] c, slots := #[] } →
  (∀ h' tk t', (∀ b o, b ∉ wr → b ≠ S → s.heap.get? b = some o → h'.get? b = some o) → R (.ok (.ret (.int (preSum val n) t'))) { s with heap := h', toks := tk }) →
  codeAny (model prog w) A (.builtin "sum.loop" ⟨[.ref I, .ref S, rawInt 0, rawInt 0], []⟩) R s := by
 have hSw : S ∉ wr := fun h => hSf (W.sub _ h)
 intro k
 induction k with
 | zero =>
  intro i s tA c hk hi hst hS hR
  have hin : i = n := by omega
  subst hin
  refine codeAny_builtin F.entry_sum_loop ?_
  rw [Around.under_plainId F.plain_sum_loop _]
  show wpAny _ A.in1 (seqItems? (.ref S) >>= _) _ _ s
  refine wpAny_bind (wpAny_seqItems hS rfl ?_)
  show wpAny _ A.in1 (tryCatch (pyNext (.ref I)) _ >>= _) _ _ s
  refine wpAny_bind (wpAny_tryCatch (W.done s _ _ hst fun h' tk hk' => ?_))
  exact wpAny_pure (hR h' tk tA fun b o hbw _ e => hk' b o hbw e)
 | succ k ih =>
  intro i s tA c hk hi hst hS hR
  have hlt : i < n := by omega
  refine codeAny_builtin F.entry_sum_loop ?_
  rw [Around.under_plainId F.plain_sum_loop _]
  show wpAny _ A.in1 (seqItems? (.ref S) >>= _) _ _ s
  refine wpAny_bind (wpAny_seqItems hS rfl ?_)
  show wpAny _ A.in1 (tryCatch (pyNext (.ref I)) _ >>= _) _ _ s
  refine wpAny_bind (wpAny_tryCatch (W.item i s _ _ hlt hst fun v h' tk hP hst' hk' => ?_))
  obtain ⟨b, rfl, hb⟩ := hval i v hP
  have hS' := hk' S _ hSw hS
  obtain ⟨⟨f1, f2⟩, f3, f4⟩ := hfit i hlt
  have hc : ((decide (-(2 ^ 63) ≤ dh b) && decide (dh b < 2 ^ 63)) && (decide (-(2 ^ 63) ≤ preSum val i + dh b) && decide (preSum val i + dh b < 2 ^ 63))) = true := by
   simp only [preSum] at f3 f4
   rw [hb] at f1 f2 f3 f4
   simp only [Bool.and_eq_true, decide_eq_true_eq]
   exact ⟨⟨f1, f2⟩, f3, f4⟩
  have e1 : preSum val (i + 1) = preSum val i + dh b := by simp only [preSum, hb]
  cases b with
  | true =>
   show wpAny _ A.in1 (if (_ : Bool) = true then (mkInt (preSum val i + dh true) >>= _) else _) _ _ _
   refine PySem.W.KFB.if_so hc ?_
   refine wpAny_bind (wpAny_mkInt ?_)
   show wpAny _ A.in1 (updateSeq S (fun _ => #[.int (preSum val i + dh true) tk]) >>= _) _ _ _
   refine wpAny_bind ?_
   refine wpAny_updateSeq hS' rfl (wpAny_pure ⟨plainId_quiet F.plain_sum_loop _, ih (i + 1) _ tk _ (by omega) hlt (W.frame _ _ _ hst' fun b o hb e => ?_) (by rw [e1]; exact Heap.get?_update_self _ hS' rfl) fun h'' tk'' t'' hk'' => ?_⟩)
   ·exact (Heap.get?_update_other _ _ (fun h : S = b => hSf (by rw [h]; exact o))).trans e
   ·exact hR h'' tk'' t'' fun b o hbw hbS e => hk'' b o hbw hbS ((Heap.get?_update_other _ _ (Ne.symm hbS)).trans (hk' b o hbw e))
  | false =>
   show wpAny _ A.in1 (if (_ : Bool) = true then (mkInt (preSum val i + dh false) >>= _) else _) _ _ _
   refine PySem.W.KFB.if_so hc ?_
   refine wpAny_bind (wpAny_mkInt ?_)
   show wpAny _ A.in1 (updateSeq S (fun _ => #[.int (preSum val i + dh false) tk]) >>= _) _ _ _
   refine wpAny_bind ?_
   refine wpAny_updateSeq hS' rfl (wpAny_pure ⟨plainId_quiet F.plain_sum_loop _, ih (i + 1) _ tk _ (by omega) hlt (W.frame _ _ _ hst' fun b o hb e => ?_) (by rw [e1]; exact Heap.get?_update_self _ hS' rfl) fun h'' tk'' t'' hk'' => ?_⟩)
   ·exact (Heap.get?_update_other _ _ (fun h : S = b => hSf (by rw [h]; exact o))).trans e
   ·exact hR h'' tk'' t'' fun b o hbw hbS e => hk'' b o hbw hbS ((Heap.get?_update_other _ _ (Ne.symm hbS)).trans (hk' b o hbw e))
end
section
variable {prog : Program} {w : World} {A : Around} {E : Value → Shared → Prop} {s : Shared}
theorem JL {x : Value} {Q : Value → Shared → Prop}
  (h : wpAny (model prog w) A.in1 (pyIter x) (fun it s₂ => ∃ I fp wr n P St val, it = .ref I ∧ Walks prog w A.in1 I fp wr n P St ∧ St 0 s₂.heap ∧ (∀ b ∈ fp, b < s₂.heap.objs.size) ∧
   (∀ i v, P i v → ∃ b, v = .bool b ∧ val i = dh b) ∧ (∀ j, j < n → InLong (val j) ∧ InLong (preSum val (j + 1))) ∧
   ∀ h' tk t', (∀ b o, b ∉ wr → s₂.heap.get? b = some o → h'.get? b = some o) → Q (.int (preSum val n) t') { s₂ with heap := h', toks := tk }) E s) :
  wpAny (model prog w) A (call (.builtin "sum") [x]) Q E s := by
 refine call_function_tree F.kind_sum F.plain_sum F.entry_sum (F.args_sum1 _) ?_
 unfold Builtin.«sum»
 simp only [List.length_cons, List.length_nil]
 rw [if_neg (by decide)]
 refine wpAny_bind (wpAny_of_eq (show Builtin.Builtins.bindParams "sum" ["start"] 0 { } = pure [none] from rfl) ?_)
 refine wpAny_bind (wpAny_mono h (fun it s₂ h₂ => ?_) fun _ _ e => e)
 obtain ⟨I, fp, wr, n, P, St, val, rfl, W, hst, hfp, hval, hfit, hQ⟩ := h₂
 refine wpAny_bind (wpAny_mkInt ?_)
 refine wpAny_bind (wpAny_pure ?_)
 simp only [List.forIn_cons, List.forIn_nil]
 refine wpAny_bind (wpAny_bind (wpAny_bind (wpAny_isInstance (T := "int") (b := false) (typeIs_int _ _ _) sub_int_str ?_)))
 simp only [Bool.false_eq_true, if_false]
 refine wpAny_pure (wpAny_bind (wpAny_bind (wpAny_isInstance (T := "int") (b := false) (typeIs_int _ _ _) sub_int_bytes ?_)))
 simp only [Bool.false_eq_true, if_false]
 refine wpAny_pure (wpAny_bind (wpAny_bind (wpAny_isInstance (T := "int") (b := false) (typeIs_int _ _ _) sub_int_bytearray ?_)))
 simp only [Bool.false_eq_true, if_false]
 refine wpAny_pure (wpAny_pure ?_)
 refine wpAny_bind (wpAny_newObj_type ?_)
 have hSf : s₂.heap.objs.size ∉ fp := fun hm => Nat.lt_irrefl _ (hfp _ hm)
 refine wpAny_pure ⟨plainId_quiet F.plain_sum_loop _, JK W val hval hfit s₂.heap.objs.size hSf n 0 _ s₂.toks 0 rfl (Nat.zero_le _)
  (W.frame _ _ _ hst fun b _ o e => Heap.get?_push_of_some _ e) (Heap.get?_push_size _ rfl) fun h' tk t' hk => ?_⟩
 exact hQ h' tk t' fun b o hbw e => hk b o hbw (Nat.ne_of_lt (Heap.lt_size e)) (Heap.get?_push_of_some _ e)
def jB (bs : List Bool) (i : Nat) : Int := dh (bs.getD i false)
theorem Dg (b : Bool) : 0 ≤ dh b ∧ dh b ≤ 1 := by cases b <;> decide
theorem Dh (bs : List Bool) : ∀ j, 0 ≤ preSum (jB bs) j ∧ preSum (jB bs) j ≤ j
 | 0 => ⟨Int.le_refl _, Int.le_refl _⟩
 | j + 1 => by
  obtain ⟨h1, h2⟩ := Dh bs j
  obtain ⟨h3, h4⟩ := Dg (bs.getD j false)
  have e : preSum (jB bs) (j + 1) = preSum (jB bs) j + dh (bs.getD j false) := rfl
  rw [e]
  constructor <;> (push_cast; omega)
theorem pre_take (bs : List Bool) : ∀ j, j ≤ bs.length → preSum (jB bs) j = ((bs.take j).map dh).sum
 | 0, _ => rfl
 | j + 1, h => by
  have e : preSum (jB bs) (j + 1) = preSum (jB bs) j + dh (bs.getD j false) := rfl
  have ej : bs[j]? = some (bs.getD j false) := by
   rw [List.getD_eq_getElem?_getD, List.getElem?_eq_getElem (show j < bs.length by omega)]
   rfl
  rw [e, pre_take bs j (by omega), List.take_succ, ej]
  simp
/-- sum(xs), xs a list of bools -/
theorem JM {l : Addr} {its : List Value} {bs : List Bool} {Q : Value → Shared → Prop} (hh : A.handled = none) (hl : s.heap.IsList l its.toArray) (hi : its = bs.map Value.bool) (hz : bs.length ≤ sizeLine)
  (h : ∀ h' tk t', (∀ b o, s.heap.get? b = some o → h'.get? b = some o) → Q (.int (bs.map dh).sum t') { s with heap := h', toks := tk }) : wpAny (model prog w) A (call (.builtin "sum") [.ref l]) Q E s := by
 subst hi
 have hlt : l < s.heap.objs.size := by obtain ⟨_, e, _⟩ := hl; exact Heap.lt_size e
 have hsz : ((bs.map Value.bool).toArray).size = bs.length := by simp
 refine JL (wpAny_pyIter_list hl ⟨_, [s.heap.objs.size, l], [s.heap.objs.size], _, _, _, jB bs, rfl, Walks.list (A := A.in1) hh s.heap.objs.size l (Nat.ne_of_lt hlt) (bs.map Value.bool).toArray, ⟨⟨_, Heap.get?_push_size _ rfl, rfl, rfl⟩, hl.push _⟩, fun b hb => ?_, fun i v hv => ?_, fun j hj => ?_, fun h' tk t' hk => ?_⟩)
 ·show b < (s.heap.push _).objs.size
  rw [Heap.size_push]
  rcases List.mem_cons.mp hb with rfl | hb
  ·exact Nat.lt_succ_self _
  ·rcases List.mem_cons.mp hb with rfl | hb
   ·exact Nat.lt_succ_of_lt hlt
   ·cases hb
 ·have hv : (bs.map Value.bool)[i]? = some v := by simpa using hv
  rw [List.getElem?_map] at hv
  obtain ⟨b, hb, rfl⟩ := Option.map_eq_some_iff.mp hv
  refine ⟨b, rfl, ?_⟩
  unfold jB
  rw [List.getD_eq_getElem?_getD, hb]
  rfl
 ·rw [hsz] at hj
  rw [sizeLine_eq] at hz
  have h1 := Dg (bs.getD j false)
  have h2 := Dh bs (j + 1)
  refine ⟨⟨?_, ?_⟩, ?_, ?_⟩
  ·show -(2 ^ 63) ≤ dh _; omega
  ·show dh _ < 2 ^ 63; omega
  ·omega
  ·have : ((j + 1 : Nat) : Int) ≤ 16777216 := by omega
   omega
 ·have := h h' tk t' (old_kept hk)
  rw [hsz, pre_take bs _ (Nat.le_refl _), List.take_length]
  exact this
end
end PySem.rC
namespace Mi
open PySem PySem.Spec PyProof.Rows L2
def mZ : List D → Option (List Bool)
 | [] => some []
 | .bl b :: r => match mZ r with
  | some l => some (b :: l)
  | none => none
 | _ :: _ => none
def rD (S : Store) (ds : List D) : Option D := match ds with
 | [d] => match cH S d with
  | some xs => match mZ xs with
   | some bs => if bs.length ≤ sizeLine then some (.int (bs.map rC.dh).sum) else none
   | none => none
  | none => none
 | _ => none
def Di (X : Cx) : List V → Hp → VK → Prop := fun vs H Q => ∃ (a : Addr) (bs : List Bool), vs = [V.ref a] ∧ SqL X.K H a (bs.map V.bl) ∧ bs.length ≤ sizeLine ∧ Q (.int (bs.map rC.dh).sum) H
section
variable {X : Cx}
theorem Dj : ∀ {bs : List Bool} {its : List Value}, Vals (bs.map V.bl) its → its = bs.map Value.bool
 | [], _, .nil => rfl
 | b :: bs, _, .cons r t => by
  have h1 := Dj t
  rw [h1]
  cases r
  rfl
theorem JN (hc : X.calm = true) : CallR X (.builtin "sum") (Di X) := by
 intro pins s σ H vs us Q I r h
 obtain ⟨a, bs, rfl, hs, hz, q⟩ := h
 obtain ⟨its, rv, hl, _⟩ := I.list hs
 rw [Vals.ref1 r]
 exact rC.JM (I.ok.hd hc) hl.isList (Dj rv) hz fun h' tk t' hk => ⟨.int _, H, I.kept hk, ⟨_, rfl⟩, q⟩
theorem Dm {C : Ct} {H : Hp} {P : Addr → Prop} {β : List Addr} : ∀ {vs : List V} {ds : List D} {bs : List Bool}, aC C H P β vs ds → mZ ds = some bs → vs = bs.map V.bl
 | _, [], bs, .nil, h => by cases h; rfl
 | _, d :: ds, bs, .cons r t, h => by
  cases d with
  | bl b =>
   unfold mZ at h
   cases e : mZ ds with
   | none => rw [e] at h; cases h
   | some l =>
    rw [e] at h
    cases h
    rw [Dm t e]
    cases r
    rfl
  | _ => cases h
theorem JO : j6 X (Di X) rD := by
 intro Z H β S xs ds dz Q A r e k
 unfold rD at e
 split at e
 ·rename_i d
  split at e
  ·rename_i us e1
   split at e
   ·rename_i bs e2
    split at e
    ·rename_i hz
     cases e
     cases r with
     | cons r1 r2 =>
      cases r2
      obtain ⟨a, vs, rfl, q1, q2⟩ := r1.cH A.st e1
      exact ⟨a, bs, rfl, by rw [← Dm q2 e2]; exact q1, hz, k _ H (Same.refl _) (.int _)⟩
    ·cases e
   ·cases e
  ·cases e
 ·cases e
end
end Mi
namespace bO
open PySem PySem.Spec PyProof.Rows L2 Mi
abbrev aJ : List Str := ["InvalidAmount", "InvalidChoice", "InvalidCommand", "InvalidLine", "InvalidProgram", "InvalidRow", "InvalidText", "NotReady", "NotWaiting", "NothingToUndo", "TooMany", "UnknownBudget", "UnknownProcedure", "UnknownScope", "UnknownTask"]
def xT : List ((Str × Str) × Bool) := ([(("InvalidAmount", "ExactStopError"), true), (("InvalidAmount", "InvalidAmount"), true), (("InvalidAmount", "InvalidChoice"), false), (("InvalidAmount", "InvalidCommand"), false), (("InvalidAmount", "InvalidLine"), false), (("InvalidAmount", "InvalidProgram"), false), (("InvalidAmount", "InvalidRow"), false), (("InvalidAmount", "InvalidText"), false), (("InvalidAmount", "NotReady"), false), (("InvalidAmount", "NotWaiting"), false), (("InvalidAmount", "NothingToUndo"), false), (("InvalidAmount", "TooMany"), false), (("InvalidAmount", "UnknownBudget"), false), (("InvalidAmount", "UnknownProcedure"), false), (("InvalidAmount", "UnknownScope"), false), (("InvalidAmount", "UnknownTask"), false), (("InvalidChoice", "ExactStopError"), true), (("InvalidChoice", "InvalidAmount"), false), (("InvalidChoice", "InvalidChoice"), true), (("InvalidChoice", "InvalidCommand"), false), (("InvalidChoice", "InvalidLine"), false), (("InvalidChoice", "InvalidProgram"), false), (("InvalidChoice", "InvalidRow"), false), (("InvalidChoice", "InvalidText"), false), (("InvalidChoice", "NotReady"), false), (("InvalidChoice", "NotWaiting"), false), (("InvalidChoice", "NothingToUndo"), false), (("InvalidChoice", "TooMany"), false), (("InvalidChoice", "UnknownBudget"), false), (("InvalidChoice", "UnknownProcedure"), false)] : List ((Str × Str) × Bool)) ++ ([(("InvalidChoice", "UnknownScope"), false), (("InvalidChoice", "UnknownTask"), false), (("InvalidCommand", "ExactStopError"), true), (("InvalidCommand", "InvalidAmount"), false), (("InvalidCommand", "InvalidChoice"), false), (("InvalidCommand", "InvalidCommand"), true), (("InvalidCommand", "InvalidLine"), false), (("InvalidCommand", "InvalidProgram"), false), (("InvalidCommand", "InvalidRow"), false), (("InvalidCommand", "InvalidText"), false), (("InvalidCommand", "NotReady"), false), (("InvalidCommand", "NotWaiting"), false), (("InvalidCommand", "NothingToUndo"), false), (("InvalidCommand", "TooMany"), false), (("InvalidCommand", "UnknownBudget"), false), (("InvalidCommand", "UnknownProcedure"), false), (("InvalidCommand", "UnknownScope"), false), (("InvalidCommand", "UnknownTask"), false), (("InvalidLine", "ExactStopError"), true), (("InvalidLine", "InvalidAmount"), false), (("InvalidLine", "InvalidChoice"), false), (("InvalidLine", "InvalidCommand"), false), (("InvalidLine", "InvalidLine"), true), (("InvalidLine", "InvalidProgram"), false), (("InvalidLine", "InvalidRow"), false), (("InvalidLine", "InvalidText"), false), (("InvalidLine", "NotReady"), false), (("InvalidLine", "NotWaiting"), false), (("InvalidLine", "NothingToUndo"), false), (("InvalidLine", "TooMany"), false)] : List ((Str × Str) × Bool)) ++ ([(("InvalidLine", "UnknownBudget"), false), (("InvalidLine", "UnknownProcedure"), false), (("InvalidLine", "UnknownScope"), false), (("InvalidLine", "UnknownTask"), false), (("InvalidProgram", "ExactStopError"), true), (("InvalidProgram", "InvalidAmount"), false), (("InvalidProgram", "InvalidChoice"), false), (("InvalidProgram", "InvalidCommand"), false), (("InvalidProgram", "InvalidLine"), false), (("InvalidProgram", "InvalidProgram"), true), (("InvalidProgram", "InvalidRow"), false), (("InvalidProgram", "InvalidText"), false), (("InvalidProgram", "NotReady"), false), (("InvalidProgram", "NotWaiting"), false), (("InvalidProgram", "NothingToUndo"), false), (("InvalidProgram", "TooMany"), false), (("InvalidProgram", "UnknownBudget"), false), (("InvalidProgram", "UnknownProcedure"), false), (("InvalidProgram", "UnknownScope"), false), (("InvalidProgram", "UnknownTask"), false), (("InvalidRow", "ExactStopError"), true), (("InvalidRow", "InvalidAmount"), false), (("InvalidRow", "InvalidChoice"), false), (("InvalidRow", "InvalidCommand"), false), (("InvalidRow", "InvalidLine"), false), (("InvalidRow", "InvalidProgram"), false), (("InvalidRow", "InvalidRow"), true), (("InvalidRow", "InvalidText"), false), (("InvalidRow", "NotReady"), false), (("InvalidRow", "NotWaiting"), false)] : List ((Str × Str) × Bool)) ++ ([(("InvalidRow", "NothingToUndo"), false), (("InvalidRow", "TooMany"), false), (("InvalidRow", "UnknownBudget"), false), (("InvalidRow", "UnknownProcedure"), false), (("InvalidRow", "UnknownScope"), false), (("InvalidRow", "UnknownTask"), false), (("InvalidText", "ExactStopError"), true), (("InvalidText", "InvalidAmount"), false), (("InvalidText", "InvalidChoice"), false), (("InvalidText", "InvalidCommand"), false), (("InvalidText", "InvalidLine"), false), (("InvalidText", "InvalidProgram"), false), (("InvalidText", "InvalidRow"), false), (("InvalidText", "InvalidText"), true), (("InvalidText", "NotReady"), false), (("InvalidText", "NotWaiting"), false), (("InvalidText", "NothingToUndo"), false), (("InvalidText", "TooMany"), false), (("InvalidText", "UnknownBudget"), false), (("InvalidText", "UnknownProcedure"), false), (("InvalidText", "UnknownScope"), false), (("InvalidText", "UnknownTask"), false), (("NotReady", "ExactStopError"), false), (("NotReady", "InvalidAmount"), false), (("NotReady", "InvalidChoice"), false), (("NotReady", "InvalidCommand"), false), (("NotReady", "InvalidLine"), false), (("NotReady", "InvalidProgram"), false), (("NotReady", "InvalidRow"), false), (("NotReady", "InvalidText"), false)] : List ((Str × Str) × Bool)) ++ ([(("NotReady", "NotReady"), true), (("NotReady", "NotWaiting"), false), (("NotReady", "NothingToUndo"), false), (("NotReady", "TooMany"), false), (("NotReady", "UnknownBudget"), false), (("NotReady", "UnknownProcedure"), false), (("NotReady", "UnknownScope"), false), (("NotReady", "UnknownTask"), false), (("NotWaiting", "ExactStopError"), false), (("NotWaiting", "InvalidAmount"), false), (("NotWaiting", "InvalidChoice"), false), (("NotWaiting", "InvalidCommand"), false), (("NotWaiting", "InvalidLine"), false), (("NotWaiting", "InvalidProgram"), false), (("NotWaiting", "InvalidRow"), false), (("NotWaiting", "InvalidText"), false), (("NotWaiting", "NotReady"), false), (("NotWaiting", "NotWaiting"), true), (("NotWaiting", "NothingToUndo"), false), (("NotWaiting", "TooMany"), false), (("NotWaiting", "UnknownBudget"), false), (("NotWaiting", "UnknownProcedure"), false), (("NotWaiting", "UnknownScope"), false), (("NotWaiting", "UnknownTask"), false), (("NothingToUndo", "ExactStopError"), false), (("NothingToUndo", "InvalidAmount"), false), (("NothingToUndo", "InvalidChoice"), false), (("NothingToUndo", "InvalidCommand"), false), (("NothingToUndo", "InvalidLine"), false), (("NothingToUndo", "InvalidProgram"), false)] : List ((Str × Str) × Bool)) ++ ([(("NothingToUndo", "InvalidRow"), false), (("NothingToUndo", "InvalidText"), false), (("NothingToUndo", "NotReady"), false), (("NothingToUndo", "NotWaiting"), false), (("NothingToUndo", "NothingToUndo"), true), (("NothingToUndo", "TooMany"), false), (("NothingToUndo", "UnknownBudget"), false), (("NothingToUndo", "UnknownProcedure"), false), (("NothingToUndo", "UnknownScope"), false), (("NothingToUndo", "UnknownTask"), false), (("TooMany", "ExactStopError"), false), (("TooMany", "InvalidAmount"), false), (("TooMany", "InvalidChoice"), false), (("TooMany", "InvalidCommand"), false), (("TooMany", "InvalidLine"), false), (("TooMany", "InvalidProgram"), false), (("TooMany", "InvalidRow"), false), (("TooMany", "InvalidText"), false), (("TooMany", "NotReady"), false), (("TooMany", "NotWaiting"), false), (("TooMany", "NothingToUndo"), false), (("TooMany", "TooMany"), true), (("TooMany", "UnknownBudget"), false), (("TooMany", "UnknownProcedure"), false), (("TooMany", "UnknownScope"), false), (("TooMany", "UnknownTask"), false), (("UnknownBudget", "ExactStopError"), false), (("UnknownBudget", "InvalidAmount"), false), (("UnknownBudget", "InvalidChoice"), false), (("UnknownBudget", "InvalidCommand"), false)] : List ((Str × Str) × Bool)) ++ ([(("UnknownBudget", "InvalidLine"), false), (("UnknownBudget", "InvalidProgram"), false), (("UnknownBudget", "InvalidRow"), false), (("UnknownBudget", "InvalidText"), false), (("UnknownBudget", "NotReady"), false), (("UnknownBudget", "NotWaiting"), false), (("UnknownBudget", "NothingToUndo"), false), (("UnknownBudget", "TooMany"), false), (("UnknownBudget", "UnknownBudget"), true), (("UnknownBudget", "UnknownProcedure"), false), (("UnknownBudget", "UnknownScope"), false), (("UnknownBudget", "UnknownTask"), false), (("UnknownProcedure", "ExactStopError"), false), (("UnknownProcedure", "InvalidAmount"), false), (("UnknownProcedure", "InvalidChoice"), false), (("UnknownProcedure", "InvalidCommand"), false), (("UnknownProcedure", "InvalidLine"), false), (("UnknownProcedure", "InvalidProgram"), false), (("UnknownProcedure", "InvalidRow"), false), (("UnknownProcedure", "InvalidText"), false), (("UnknownProcedure", "NotReady"), false), (("UnknownProcedure", "NotWaiting"), false), (("UnknownProcedure", "NothingToUndo"), false), (("UnknownProcedure", "TooMany"), false), (("UnknownProcedure", "UnknownBudget"), false), (("UnknownProcedure", "UnknownProcedure"), true), (("UnknownProcedure", "UnknownScope"), false), (("UnknownProcedure", "UnknownTask"), false), (("UnknownScope", "ExactStopError"), false), (("UnknownScope", "InvalidAmount"), false)] : List ((Str × Str) × Bool)) ++ ([(("UnknownScope", "InvalidChoice"), false), (("UnknownScope", "InvalidCommand"), false), (("UnknownScope", "InvalidLine"), false), (("UnknownScope", "InvalidProgram"), false), (("UnknownScope", "InvalidRow"), false), (("UnknownScope", "InvalidText"), false), (("UnknownScope", "NotReady"), false), (("UnknownScope", "NotWaiting"), false), (("UnknownScope", "NothingToUndo"), false), (("UnknownScope", "TooMany"), false), (("UnknownScope", "UnknownBudget"), false), (("UnknownScope", "UnknownProcedure"), false), (("UnknownScope", "UnknownScope"), true), (("UnknownScope", "UnknownTask"), false), (("UnknownTask", "ExactStopError"), false), (("UnknownTask", "InvalidAmount"), false), (("UnknownTask", "InvalidChoice"), false), (("UnknownTask", "InvalidCommand"), false), (("UnknownTask", "InvalidLine"), false), (("UnknownTask", "InvalidProgram"), false), (("UnknownTask", "InvalidRow"), false), (("UnknownTask", "InvalidText"), false), (("UnknownTask", "NotReady"), false), (("UnknownTask", "NotWaiting"), false), (("UnknownTask", "NothingToUndo"), false), (("UnknownTask", "TooMany"), false), (("UnknownTask", "UnknownBudget"), false), (("UnknownTask", "UnknownProcedure"), false), (("UnknownTask", "UnknownScope"), false), (("UnknownTask", "UnknownTask"), true)] : List ((Str × Str) × Bool))
def xU : List ((Str × String) × Bool) := ([(("InvalidAmount", "ArithmeticError"), false), (("InvalidAmount", "IndexError"), false), (("InvalidAmount", "KeyError"), false), (("InvalidAmount", "LookupError"), false), (("InvalidAmount", "NotImplementedError"), false), (("InvalidAmount", "OverflowError"), false), (("InvalidAmount", "RuntimeError"), false), (("InvalidAmount", "ValueError"), true), (("InvalidAmount", "ZeroDivisionError"), false), (("InvalidChoice", "ArithmeticError"), false), (("InvalidChoice", "IndexError"), false), (("InvalidChoice", "KeyError"), false), (("InvalidChoice", "LookupError"), false), (("InvalidChoice", "NotImplementedError"), false), (("InvalidChoice", "OverflowError"), false), (("InvalidChoice", "RuntimeError"), false), (("InvalidChoice", "ValueError"), true), (("InvalidChoice", "ZeroDivisionError"), false), (("InvalidCommand", "ArithmeticError"), false), (("InvalidCommand", "IndexError"), false), (("InvalidCommand", "KeyError"), false), (("InvalidCommand", "LookupError"), false), (("InvalidCommand", "NotImplementedError"), false), (("InvalidCommand", "OverflowError"), false), (("InvalidCommand", "RuntimeError"), false), (("InvalidCommand", "ValueError"), true), (("InvalidCommand", "ZeroDivisionError"), false), (("InvalidLine", "ArithmeticError"), false), (("InvalidLine", "IndexError"), false), (("InvalidLine", "KeyError"), false)] : List ((Str × String) × Bool)) ++ ([(("InvalidLine", "LookupError"), false), (("InvalidLine", "NotImplementedError"), false), (("InvalidLine", "OverflowError"), false), (("InvalidLine", "RuntimeError"), false), (("InvalidLine", "ValueError"), true), (("InvalidLine", "ZeroDivisionError"), false), (("InvalidProgram", "ArithmeticError"), false), (("InvalidProgram", "IndexError"), false), (("InvalidProgram", "KeyError"), false), (("InvalidProgram", "LookupError"), false), (("InvalidProgram", "NotImplementedError"), false), (("InvalidProgram", "OverflowError"), false), (("InvalidProgram", "RuntimeError"), false), (("InvalidProgram", "ValueError"), true), (("InvalidProgram", "ZeroDivisionError"), false), (("InvalidRow", "ArithmeticError"), false), (("InvalidRow", "IndexError"), false), (("InvalidRow", "KeyError"), false), (("InvalidRow", "LookupError"), false), (("InvalidRow", "NotImplementedError"), false), (("InvalidRow", "OverflowError"), false), (("InvalidRow", "RuntimeError"), false), (("InvalidRow", "ValueError"), true), (("InvalidRow", "ZeroDivisionError"), false), (("InvalidText", "ArithmeticError"), false), (("InvalidText", "IndexError"), false), (("InvalidText", "KeyError"), false), (("InvalidText", "LookupError"), false), (("InvalidText", "NotImplementedError"), false), (("InvalidText", "OverflowError"), false)] : List ((Str × String) × Bool)) ++ ([(("InvalidText", "RuntimeError"), false), (("InvalidText", "ValueError"), true), (("InvalidText", "ZeroDivisionError"), false), (("NotReady", "ArithmeticError"), false), (("NotReady", "IndexError"), false), (("NotReady", "KeyError"), false), (("NotReady", "LookupError"), false), (("NotReady", "NotImplementedError"), false), (("NotReady", "OverflowError"), false), (("NotReady", "RuntimeError"), true), (("NotReady", "ValueError"), false), (("NotReady", "ZeroDivisionError"), false), (("NotWaiting", "ArithmeticError"), false), (("NotWaiting", "IndexError"), false), (("NotWaiting", "KeyError"), false), (("NotWaiting", "LookupError"), false), (("NotWaiting", "NotImplementedError"), false), (("NotWaiting", "OverflowError"), false), (("NotWaiting", "RuntimeError"), true), (("NotWaiting", "ValueError"), false), (("NotWaiting", "ZeroDivisionError"), false), (("NothingToUndo", "ArithmeticError"), false), (("NothingToUndo", "IndexError"), false), (("NothingToUndo", "KeyError"), false), (("NothingToUndo", "LookupError"), false), (("NothingToUndo", "NotImplementedError"), false), (("NothingToUndo", "OverflowError"), false), (("NothingToUndo", "RuntimeError"), true), (("NothingToUndo", "ValueError"), false), (("NothingToUndo", "ZeroDivisionError"), false)] : List ((Str × String) × Bool)) ++ ([(("TooMany", "ArithmeticError"), true), (("TooMany", "IndexError"), false), (("TooMany", "KeyError"), false), (("TooMany", "LookupError"), false), (("TooMany", "NotImplementedError"), false), (("TooMany", "OverflowError"), false), (("TooMany", "RuntimeError"), false), (("TooMany", "ValueError"), false), (("TooMany", "ZeroDivisionError"), false), (("UnknownBudget", "ArithmeticError"), false), (("UnknownBudget", "IndexError"), false), (("UnknownBudget", "KeyError"), false), (("UnknownBudget", "LookupError"), true), (("UnknownBudget", "NotImplementedError"), false), (("UnknownBudget", "OverflowError"), false), (("UnknownBudget", "RuntimeError"), false), (("UnknownBudget", "ValueError"), false), (("UnknownBudget", "ZeroDivisionError"), false), (("UnknownProcedure", "ArithmeticError"), false), (("UnknownProcedure", "IndexError"), false), (("UnknownProcedure", "KeyError"), false), (("UnknownProcedure", "LookupError"), true), (("UnknownProcedure", "NotImplementedError"), false), (("UnknownProcedure", "OverflowError"), false), (("UnknownProcedure", "RuntimeError"), false), (("UnknownProcedure", "ValueError"), false), (("UnknownProcedure", "ZeroDivisionError"), false), (("UnknownScope", "ArithmeticError"), false), (("UnknownScope", "IndexError"), false), (("UnknownScope", "KeyError"), false)] : List ((Str × String) × Bool)) ++ ([(("UnknownScope", "LookupError"), true), (("UnknownScope", "NotImplementedError"), false), (("UnknownScope", "OverflowError"), false), (("UnknownScope", "RuntimeError"), false), (("UnknownScope", "ValueError"), false), (("UnknownScope", "ZeroDivisionError"), false), (("UnknownTask", "ArithmeticError"), false), (("UnknownTask", "IndexError"), false), (("UnknownTask", "KeyError"), false), (("UnknownTask", "LookupError"), true), (("UnknownTask", "NotImplementedError"), false), (("UnknownTask", "OverflowError"), false), (("UnknownTask", "RuntimeError"), false), (("UnknownTask", "ValueError"), false), (("UnknownTask", "ZeroDivisionError"), false)] : List ((Str × String) × Bool))
abbrev pH : List Str := ["value"]
def ni : EX := fZ [(mC (.str "invalid amount: ")), (d7 fP (aA 1))]
abbrev pJ : List Str := ["value"]
def nj : EX := fZ [(mC (.str "invalid choice: ")), (d7 fP (aA 1))]
abbrev pK : List Str := ["value"]
def nq : EX := fZ [(mC (.str "invalid command: ")), (d7 fP (aA 1))]
abbrev pM : List Str := ["line"]
def nu : EX := fZ [(mC (.str "line ")), (d7 qZ (aA 1)), (mC (.str " is wrong"))]
abbrev jC : List Str := ["reason", "path"]
def jD : EX := fZ [(mC (.str "invalid program: ")), (d7 qZ (aA 1)), (mC (.str " at ")), (d7 fP (aA 2))]
abbrev pN : List Str := ["value"]
def nA : EX := fZ [(mC (.str "invalid row: ")), (d7 fP (aA 1))]
abbrev pO : List Str := ["value"]
def nH : EX := fZ [(mC (.str "invalid text: ")), (d7 fP (aA 1))]
abbrev pP : List Str := ["value"]
def nJ : EX := fZ [(mC (.str "not ready: ")), (d7 fP (aA 1))]
abbrev pQ : List Str := ["value"]
def nM : EX := fZ [(mC (.str "not waiting: ")), (d7 fP (aA 1))]
def rE : EX := mC (.str "there is nothing to undo")
abbrev pU : List Str := ["limit"]
def nO : EX := fZ [(mC (.str "more than ")), (d7 qZ (aA 1))]
abbrev pW : List Str := ["value"]
def nQ : EX := fZ [(mC (.str "unknown budget: ")), (d7 fP (aA 1))]
abbrev pX : List Str := ["value"]
def nR : EX := fZ [(mC (.str "unknown procedure: ")), (d7 fP (aA 1))]
abbrev pY : List Str := ["value"]
def nU : EX := fZ [(mC (.str "unknown scope: ")), (d7 fP (aA 1))]
abbrev pZ : List Str := ["value"]
def nW : EX := fZ [(mC (.str "unknown task: ")), (d7 fP (aA 1))]
abbrev Dq : List Str := ["_law_script", "_law_k", "_law_cell"]
abbrev uf : List Str := ["_law_script", "_law_k"]
def Dr : SX := bD (bR 2 (iT (fR (aF jP (aA 1) (aN jd (ak (aA 0) (aq))))) (aF cW (aA 0) (aA 1)) (aF bG (aF gA (mC (.int 13)) (aA 1)) (mC (.int 6))))) <|
 cU (ql (bL (ak (aN mH (ak (mC (.int 0)) (ak (aF oY (aN jQ (ak (aA 2) (aq))) (aF mD (mC (.int 10)) (mC (.int 18)))) (aq)))) (ak (aF bG (aF bG (aF iG (aN jQ (ak (aA 2) (aq))) (mC (.int 2147483579))) (aF gA (mC (.int 307)) (aA 1))) (mC (.int 11))) (aq)))))
def ug : FX := eV Dq.length Dr
abbrev Ds : List Str := ["_law_rng_here", "_law_many", "_law_digit"]
abbrev uh : List Str := ["_law_rng_here", "_law_many"]
def Dt : SX := bD (gQ (fR (aF mF (aF cW (aA 0) (mC (.int 0))) (mC (.int 0)))) (bD (jc (aN qN (ak (aF cW (aA 0) (mC (.int 0))) (ak (aA 1) (aq)))) (m7 (gU (jT (aA 0) (mC (.int 0))) (gU (gR 2) (lZ))))) <|
 cU (aA 2)) (j9)) <|
 bD (jc (aF iG (aF bG (aF gA (aF cW (aA 0) (mC (.int 1))) (mC (.int 48271))) (mC (.int 20011))) (mC (.int 2147483399))) (jT (aA 0) (mC (.int 1)))) <|
 cU (aF iG (aF qF (aF iG (aF gA (aF cW (aA 0) (mC (.int 1))) (aF cW (aA 0) (mC (.int 1)))) (mC (.int 2147483323))) (mC (.int 13))) (aA 1))
def rF : FX := eV Ds.length Dt
abbrev Du : List Str := ["_law_one", "_law_other", "_law_found"]
abbrev uo : List Str := ["_law_one", "_law_other"]
def wg : SX := bD (bR 2 (bL (ak (bH (ak (bM "InvalidProgram" jC jD [0, 1] (ak (aA 0) (ak (aA 1) (aq))) (aq)) (ak (mC (.str "value")) (aq)))) (ak (bH (ak (bM "InvalidProgram" jC jD [1, 0] (aq) (ak (aA 1) (ak (aA 0) (aq)))) (ak (mC (.str "value")) (aq)))) (aq))))) <|
 bD (bR 2 (aF bG (aA 2) (bL (ak (bH (ak (bM "InvalidLine" pM nu [0] (ak (aA 0) (aq)) (aq)) (ak (mC (.str "value")) (aq)))) (ak (bH (ak (bM "InvalidLine" pM nu [0] (aq) (ak (aA 0) (aq))) (ak (mC (.str "value")) (aq)))) (aq)))))) <|
 bD (bR 2 (aF bG (aA 2) (bL (ak (bH (ak (bM "InvalidText" pO nH [0] (ak (aA 0) (aq)) (aq)) (ak (mC (.str "value")) (aq)))) (ak (bH (ak (bM "InvalidText" pO nH [0] (aq) (ak (aA 0) (aq))) (ak (mC (.str "value")) (aq)))) (aq)))))) <|
 bD (bR 2 (aF bG (aA 2) (bL (ak (bH (ak (bM "InvalidRow" pN nA [0] (ak (aA 0) (aq)) (aq)) (ak (mC (.str "value")) (aq)))) (ak (bH (ak (bM "InvalidRow" pN nA [0] (aq) (ak (aA 0) (aq))) (ak (mC (.str "value")) (aq)))) (aq)))))) <|
 bD (bR 2 (aF bG (aA 2) (bL (ak (bH (ak (bM "InvalidAmount" pH ni [0] (ak (aA 0) (aq)) (aq)) (ak (mC (.str "value")) (aq)))) (ak (bH (ak (bM "InvalidAmount" pH ni [0] (aq) (ak (aA 0) (aq))) (ak (mC (.str "value")) (aq)))) (aq)))))) <|
 bD (bR 2 (aF bG (aA 2) (bL (ak (bH (ak (bM "InvalidChoice" pJ nj [0] (ak (aA 0) (aq)) (aq)) (ak (mC (.str "value")) (aq)))) (ak (bH (ak (bM "InvalidChoice" pJ nj [0] (aq) (ak (aA 0) (aq))) (ak (mC (.str "value")) (aq)))) (aq)))))) <|
 bD (bR 2 (aF bG (aA 2) (bL (ak (bH (ak (bM "InvalidCommand" pK nq [0] (ak (aA 0) (aq)) (aq)) (ak (mC (.str "value")) (aq)))) (ak (bH (ak (bM "InvalidCommand" pK nq [0] (aq) (ak (aA 0) (aq))) (ak (mC (.str "value")) (aq)))) (aq)))))) <|
 bD (bR 2 (aF bG (aA 2) (bL (ak (bH (ak (bM "UnknownBudget" pW nQ [0] (ak (aA 0) (aq)) (aq)) (ak (mC (.str "lookup")) (aq)))) (ak (bH (ak (bM "UnknownBudget" pW nQ [0] (aq) (ak (aA 0) (aq))) (ak (mC (.str "lookup")) (aq)))) (aq)))))) <|
 bD (bR 2 (aF bG (aA 2) (bL (ak (bH (ak (bM "UnknownProcedure" pX nR [0] (ak (aA 0) (aq)) (aq)) (ak (mC (.str "lookup")) (aq)))) (ak (bH (ak (bM "UnknownProcedure" pX nR [0] (aq) (ak (aA 0) (aq))) (ak (mC (.str "lookup")) (aq)))) (aq)))))) <|
 bD (bR 2 (aF bG (aA 2) (bL (ak (bH (ak (bM "UnknownTask" pZ nW [0] (ak (aA 0) (aq)) (aq)) (ak (mC (.str "lookup")) (aq)))) (ak (bH (ak (bM "UnknownTask" pZ nW [0] (aq) (ak (aA 0) (aq))) (ak (mC (.str "lookup")) (aq)))) (aq)))))) <|
 bD (bR 2 (aF bG (aA 2) (bL (ak (bH (ak (bM "UnknownScope" pY nU [0] (ak (aA 0) (aq)) (aq)) (ak (mC (.str "lookup")) (aq)))) (ak (bH (ak (bM "UnknownScope" pY nU [0] (aq) (ak (aA 0) (aq))) (ak (mC (.str "lookup")) (aq)))) (aq)))))) <|
 bD (bR 2 (aF bG (aA 2) (bL (ak (bH (ak (bM "NotReady" pP nJ [0] (ak (aA 0) (aq)) (aq)) (ak (mC (.str "runtime")) (aq)))) (ak (bH (ak (bM "NotReady" pP nJ [0] (aq) (ak (aA 0) (aq))) (ak (mC (.str "runtime")) (aq)))) (aq)))))) <|
 bD (bR 2 (aF bG (aA 2) (bL (ak (bH (ak (bM "NotWaiting" pQ nM [0] (ak (aA 0) (aq)) (aq)) (ak (mC (.str "runtime")) (aq)))) (ak (bH (ak (bM "NotWaiting" pQ nM [0] (aq) (ak (aA 0) (aq))) (ak (mC (.str "runtime")) (aq)))) (aq)))))) <|
 cU (aF bG (aA 2) (bL (ak (bH (ak (bM "TooMany" pU nO [0] (ak (aA 0) (aq)) (aq)) (ak (mC (.str "arithmetic")) (aq)))) (ak (bH (ak (bM "TooMany" pU nO [0] (aq) (ak (aA 0) (aq))) (ak (mC (.str "arithmetic")) (aq)))) (aq)))))
def nY : FX := eV Du.length wg
abbrev Dy : List Str := ["_law_error", "_law_found"]
abbrev uw : List Str := ["_law_error"]
def wj : SX := bD (bR 1 (bL (ak (aN (cG aJ xT xU) (ak (aA 0) (ak (mC (.fn "InvalidProgram")) (aq)))) (ak (aN (cG aJ xT xU) (ak (aA 0) (ak (mC (.fn "InvalidLine")) (aq)))) (ak (aN (cG aJ xT xU) (ak (aA 0) (ak (mC (.fn "InvalidText")) (aq)))) (aq)))))) <|
 bD (bR 1 (aF bG (aA 1) (bL (ak (aN (cG aJ xT xU) (ak (aA 0) (ak (mC (.fn "InvalidRow")) (aq)))) (ak (aN (cG aJ xT xU) (ak (aA 0) (ak (mC (.fn "InvalidAmount")) (aq)))) (ak (aN (cG aJ xT xU) (ak (aA 0) (ak (mC (.fn "InvalidChoice")) (aq)))) (aq))))))) <|
 bD (bR 1 (aF bG (aA 1) (bL (ak (aN (cG aJ xT xU) (ak (aA 0) (ak (mC (.fn "InvalidCommand")) (aq)))) (ak (aN (cG aJ xT xU) (ak (aA 0) (ak (mC (.fn "UnknownBudget")) (aq)))) (aq)))))) <|
 bD (bR 1 (aF bG (aA 1) (bL (ak (aN (cG aJ xT xU) (ak (aA 0) (ak (mC (.fn "UnknownTask")) (aq)))) (ak (aN (cG aJ xT xU) (ak (aA 0) (ak (mC (.fn "UnknownProcedure")) (aq)))) (aq)))))) <|
 bD (bR 1 (aF bG (aA 1) (bL (ak (aN (cG aJ xT xU) (ak (aA 0) (ak (mC (.fn "UnknownScope")) (aq)))) (ak (aN (cG aJ xT xU) (ak (aA 0) (ak (mC (.fn "NotReady")) (aq)))) (aq)))))) <|
 cU (aF bG (aA 1) (bL (ak (aN (cG aJ xT xU) (ak (aA 0) (ak (mC (.fn "NotWaiting")) (aq)))) (ak (aN (cG aJ xT xU) (ak (aA 0) (ak (mC (.fn "NothingToUndo")) (aq)))) (ak (aN (cG aJ xT xU) (ak (aA 0) (ak (mC (.fn "TooMany")) (aq)))) (aq))))))
def nZ : FX := eV Dy.length wj
abbrev wk : List Str := ["_law_error", "_law_base", "_law_told", "_law_due", "_law_kind"]
abbrev ux : List Str := ["_law_error", "_law_base"]
def wu : SX := bD (bR 2 (bL (ak (aN (cG aJ xT xU) (ak (aA 0) (ak (mC (.ty "ValueError")) (aq)))) (ak (aN (cG aJ xT xU) (ak (aA 0) (ak (mC (.ty "LookupError")) (aq)))) (ak (aN (cG aJ xT xU) (ak (aA 0) (ak (mC (.ty "RuntimeError")) (aq)))) (aq)))))) <|
 bD (bR 2 (aF bG (aA 2) (bL (ak (aN (cG aJ xT xU) (ak (aA 0) (ak (mC (.ty "ArithmeticError")) (aq)))) (ak (aN (cG aJ xT xU) (ak (aA 0) (ak (mC (.fn "ExactStopError")) (aq)))) (aq)))))) <|
 bD (bR 3 (jN (oU (bH (ak (mC (.str "value")) (ak (mC (.str "lookup")) (ak (mC (.str "runtime")) (ak (mC (.str "arithmetic")) (ak (mC (.str "value")) (aq)))))))) [4] (gR 4) (qC) (aF fM (aA 1) (aA 4)))) <|
 bD (gQ (iz (aN (cG aJ xT xU) (ak (aA 0) (ak (bH (ak (mC (.ty "KeyError")) (ak (mC (.ty "IndexError")) (ak (mC (.ty "NotImplementedError")) (ak (mC (.ty "OverflowError")) (ak (mC (.ty "ZeroDivisionError")) (aq))))))) (aq))))) (cU (mC (.bl false))) (j9)) <|
 cU (qu (aF fM (aA 2) (aA 3)) (aF fM (aN rD (ak (gY nZ [0] (ak (aA 0) (aq)) (aq)) (aq))) (mC (.int 1))))
def kE : FX := eV wk.length wu
abbrev Dz : List Str := ["_law_error"]
abbrev uy : List Str := ["_law_error"]
def wz : SX := bD (gQ (iz (aN (cG aJ xT xU) (ak (aA 0) (ak (mC (.fn "InvalidProgram")) (aq))))) (cU (bL (ak (jA aJ "reason" (aA 0)) (ak (jA aJ "path" (aA 0)) (aq))))) (j9)) <|
 bD (gQ (iz (aN (cG aJ xT xU) (ak (aA 0) (ak (mC (.fn "InvalidLine")) (aq))))) (cU (bL (ak (jA aJ "line" (aA 0)) (aq)))) (j9)) <|
 cU (iT (iz (aN (cG aJ xT xU) (ak (aA 0) (ak (mC (.fn "TooMany")) (aq))))) (bL (ak (jA aJ "limit" (aA 0)) (aq))) (bL (ak (jA aJ "value" (aA 0)) (aq))))
def o7 : FX := eV Dz.length wz
abbrev DA : List Str := ["_law_script", "_law_k", "_law_rng_here", "_law_some", "_law_one", "_law_other", "_law_error", "_law_base", "_law_due"]
abbrev uz : List Str := ["_law_script"]
def wA : SX := bD (oK (qR pA (ak (aN mH (ak (mC (.int 1)) (ak (aN sY (ak (mC (.int 4)) (ak (aN jd (ak (aA 0) (aq))) (aq)))) (aq)))) (aq))) (gR 1) (bD (bR 2 (gY ug [0, 1] (ak (aA 0) (ak (aA 1) (aq))) (aq))) <|
 bD (bR 3 (bL (ak (mC .non) (ak (mC (.int 0)) (ak (mC (.bl true)) (ak (mC (.str "")) (ak (mC (.str "x")) (ak (bH (aq)) (ak (bH (ak (mC (.str "")) (ak (mC (.int 0)) (aq)))) (ak (bL (aq)) (ak (vh) (ak (aF mD (mC (.int 10)) (mC (.int 20))) (ak (d7 qG (mC (.int 1))) (aq)))))))))))))) <|
 bD (qT 4 5 (ak (aF cW (aA 3) (gY rF [0, 1] (ak (aA 2) (ak (mC (.int 11)) (aq))) (aq))) (ak (aF cW (aA 3) (gY rF [0, 1] (ak (aA 2) (ak (mC (.int 11)) (aq))) (aq))) (aq)))) <|
 bD (oK (oU (gY nY [0, 1] (ak (aA 4) (ak (aA 5) (aq))) (aq))) (m7 (gU (gR 6) (gU (gR 7) (lZ)))) (bD (bR 8 (iT (iz (aN (cG aJ xT xU) (ak (aA 6) (ak (mC (.fn "InvalidProgram")) (aq))))) (bL (ak (aA 4) (ak (aA 5) (aq)))) (bL (ak (aA 4) (aq))))) <|
 gQ (oG (fR (aF qL (aN pq (ak (gY o7 [0] (ak (aA 6) (aq)) (aq)) (aq))) (aN pq (ak (aA 8) (aq))))) (oH (iz (gY kE [0, 1] (ak (aA 6) (ak (aA 7) (aq))) (aq))))) (cU (mC (.bl false))) (j9))) <|
 gQ (oH (iz (gY kE [0, 1] (ak (rB "NothingToUndo" rE) (ak (mC (.str "runtime")) (aq))) (aq)))) (cU (mC (.bl false))) (j9))) <|
 cU (mC (.bl true))
def kI : FX := eV DA.length wA
end bO
namespace Rc
open bO hiding top
open PySem PySem.Spec PyProof.Rows L2 Mi
end Rc
open PySem PySem.Spec PyProof.Rows L2 Mi
local macro_rules
 | `(tactic| simp!) => `(tactic| simp only [AG, w_var, AH, AI, AJ, AK, AO, AQ, AU, vp, w_call, AV, AW, w_and, w_or, w_not, AY, AZ, B4, B5, w_band, w_bor, B6, B7, Bb, Bc, Be, Bf, Bg, Bh, Bj, vq, Bl, Bm, Bo, Bp, Bq, Br, Bs, Bt, Bu, Bv, Bw, Bx, By, BA, BL, vA, lent, pB, AF, BQ, BR, BU, BV, BW, BZ, C3, C4, vG, C5, C6, C7, vH, C9, Cd, Ce, Cg, Ci, Cj, Ck, Cm, Cp, Cq, Cr, Cu, Cy, Cz, CA, CB, CF, List.getElem?_cons_zero, List.getElem?_cons_succ, List.set_cons_zero, List.set_cons_succ, List.map_cons, List.map_nil, List.length_cons, List.length_nil, List.replicate, List.cons_append, List.nil_append, List.append_nil, Nat.reduceSub, Nat.reduceAdd, Nat.sub_self, Nat.zero_add, sizeLine_eq, Nat.reduceLeDiff, pick, List.filterMap_cons, List.filterMap_nil, Option.some.injEq, exists_eq_left', exists_eq_left, exists_const, true_and, and_true, Bool.not_true, Bool.not_false, if_true, if_false, reduceIte, Bool.false_eq_true, eq_self, D.int.injEq])
 | `(tactic| simp! [$ts,*]) => `(tactic| simp only [AG, w_var, AH, AI, AJ, AK, AO, AQ, AU, vp, w_call, AV, AW, w_and, w_or, w_not, AY, AZ, B4, B5, w_band, w_bor, B6, B7, Bb, Bc, Be, Bf, Bg, Bh, Bj, vq, Bl, Bm, Bo, Bp, Bq, Br, Bs, Bt, Bu, Bv, Bw, Bx, By, BA, BL, vA, lent, pB, AF, BQ, BR, BU, BV, BW, BZ, C3, C4, vG, C5, C6, C7, vH, C9, Cd, Ce, Cg, Ci, Cj, Ck, Cm, Cp, Cq, Cr, Cu, Cy, Cz, CA, CB, CF, List.getElem?_cons_zero, List.getElem?_cons_succ, List.set_cons_zero, List.set_cons_succ, List.map_cons, List.map_nil, List.length_cons, List.length_nil, List.replicate, List.cons_append, List.nil_append, List.append_nil, Nat.reduceSub, Nat.reduceAdd, Nat.sub_self, Nat.zero_add, sizeLine_eq, Nat.reduceLeDiff, pick, List.filterMap_cons, List.filterMap_nil, Option.some.injEq, exists_eq_left', exists_eq_left, exists_const, true_and, and_true, Bool.not_true, Bool.not_false, if_true, if_false, reduceIte, Bool.false_eq_true, eq_self, D.int.injEq, $ts,*])
namespace Rc
open bO hiding top
open PySem PySem.Spec PyProof.Rows L2 Mi
end Rc
namespace Rc
open bO hiding top
open PySem PySem.Spec PyProof.Rows L2 Mi
def letters : Str := "abcdefghijklmnopqrstuvwxyz"
def uD (z : Str) : Prop := 1 ≤ z.length ∧ z.length ≤ 8 ∧ ∀ c ∈ z.cps.toList, c ∈ letters.cps.toList
def qs : List Str := letters.cps.toList.map fun c => (⟨#[c]⟩ : Str) ++ "q"
end Rc
namespace Rc
open bO hiding top
open PySem PySem.Spec PyProof.Rows L2 Mi
inductive Row where
 | step | use (b : Str) (n : Int) | back (b : Str) (n : Int) | give (b : Str) (n : Int) | out (v : Int) | put (v : Int) | caught (b : Str)
def big : Int := 10 ^ 18 + 9 * 10 ^ 9
def Row.ok : Row → Prop
 | .step => True
 | .use b n => uD b ∧ 0 ≤ n ∧ n ≤ big
 | .back b n => uD b ∧ 0 ≤ n ∧ n ≤ big
 | .give b n => uD b ∧ n ≠ 0 ∧ -big ≤ n ∧ n ≤ big
 | .out v => -(10 ^ 18) ≤ v ∧ v ≤ 10 ^ 18
 | .put v => -(10 ^ 18) ≤ v ∧ v ≤ 10 ^ 18
 | .caught b => uD b
end Rc
namespace Rc
open bO hiding top
open PySem PySem.Spec PyProof.Rows L2 Mi
section
variable {S : Store}
theorem al_eq {r : R D} {v : D} (h : r.al (fun d S' => d = v ∧ S' = S) fun _ _ => False) : r = .ok v S := by
 cases r with
 | ok a S' => obtain ⟨rfl, rfl⟩ := h; rfl
 | exc _ _ => exact h.elim
 | stuck => exact h.elim
end
end Rc
namespace bO
open PySem PySem.Spec PyProof.Rows L2 Mi
local macro_rules
 | `(nofun) => `(by first | exact .inl rfl | exact .inr rfl)
 | `(nomatch 0) => `(⟨rfl, rfl, rfl, by decide +kernel, rfl, by decide +kernel, by decide +kernel⟩)
 | `(#[$i]) => `(Fj (pv $i))
 | `(#[$i, $s]) => `(Gh (pg_name (i := $i) (($s).nd) rfl (by first | exact .inl rfl | exact .inr rfl)))
 | `(#[$i, $s, $e]) => `(fV (ps_set (i := $i) (($s).nd) rfl (by first | exact .inl rfl | exact .inr rfl) $e) (fun _ _ _ h => h))
 | `(#[0, $a, $b, 0]) => `(fun _ _ _ _ _ _ _ _ us ws hu hw => match us, ws, hu, hw with | $a, $b, _, _ => rfl)
 | `(#[1, $a, $b, 1]) => `(fun vs zs hv hz => match vs, zs, hv, hz with | $a, $b, _, _ => rfl)
 | `(#[1, $d, $g, $r, $x0]) => `(zU (ks := []) (idx := [0]) (n := 1) $d $g $r (by first | decide | omega) (takes_of rfl rfl rfl rfl) (fun _ _ _ _ _ _ _ _ us ws hu hw => match us, ws, hu, hw with | [_], [], _, _ => rfl) (ao $x0 aD) cD (bW bF) bF (fun vs zs hv hz => match vs, zs, hv, hz with | [_], [], _, _ => rfl))
 | `(#[2, $d, $g, $r, $x0, $x1]) => `(zU (ks := []) (idx := [0, 1]) (n := 2) $d $g $r (by first | decide | omega) (takes_of rfl rfl rfl rfl) (fun _ _ _ _ _ _ _ _ us ws hu hw => match us, ws, hu, hw with | [_, _], [], _, _ => rfl) (ao $x0 (ao $x1 aD)) cD (bW (bW bF)) bF (fun vs zs hv hz => match vs, zs, hv, hz with | [_, _], [], _, _ => rfl))
structure Txt (K : PySem.W.Frag) (mg : Str → Option Value) (w : World) : Prop where
 DB : mg "ArithmeticError" = none
 JP : mg "IndexError" = none
 JQ : mg "KeyError" = none
 rG : mg "LookupError" = none
 JR : mg "NotImplementedError" = none
 JS : mg "OverflowError" = none
 uE : mg "RuntimeError" = none
 JT : mg "ValueError" = none
 JU : mg "ZeroDivisionError" = none
 DC : mg "abs" = none
 JV : mg "divmod" = none
 cR : mg "isinstance" = none
 DE : mg "len" = none
 DF : mg "max" = none
 JW : mg "min" = none
 JX : mg "range" = none
 DG : mg "repr" = none
 JY : mg "sum" = none
 wB : ∃ Ca, mg "ExactStopError" = some (.ref Ca) ∧ PySem.W.keepIn K (.ref Ca) = true
 wC : ∃ Ca, mg "InvalidAmount" = some (.ref Ca) ∧ PySem.W.keepIn K (.ref Ca) = true
 wD : ∃ Ca, mg "InvalidChoice" = some (.ref Ca) ∧ PySem.W.keepIn K (.ref Ca) = true
 wF : ∃ Ca, mg "InvalidCommand" = some (.ref Ca) ∧ PySem.W.keepIn K (.ref Ca) = true
 qb : ∃ Ca, mg "InvalidLine" = some (.ref Ca) ∧ PySem.W.keepIn K (.ref Ca) = true
 jE : ∃ Ca, mg "InvalidProgram" = some (.ref Ca) ∧ PySem.W.keepIn K (.ref Ca) = true
 wG : ∃ Ca, mg "InvalidRow" = some (.ref Ca) ∧ PySem.W.keepIn K (.ref Ca) = true
 wH : ∃ Ca, mg "InvalidText" = some (.ref Ca) ∧ PySem.W.keepIn K (.ref Ca) = true
 wI : ∃ Ca, mg "NotReady" = some (.ref Ca) ∧ PySem.W.keepIn K (.ref Ca) = true
 wJ : ∃ Ca, mg "NotWaiting" = some (.ref Ca) ∧ PySem.W.keepIn K (.ref Ca) = true
 wL : ∃ Ca, mg "NothingToUndo" = some (.ref Ca) ∧ PySem.W.keepIn K (.ref Ca) = true
 qd : ∃ Ca, mg "TooMany" = some (.ref Ca) ∧ PySem.W.keepIn K (.ref Ca) = true
 wM : ∃ Ca, mg "UnknownBudget" = some (.ref Ca) ∧ PySem.W.keepIn K (.ref Ca) = true
 wN : ∃ Ca, mg "UnknownProcedure" = some (.ref Ca) ∧ PySem.W.keepIn K (.ref Ca) = true
 wO : ∃ Ca, mg "UnknownScope" = some (.ref Ca) ∧ PySem.W.keepIn K (.ref Ca) = true
 wQ : ∃ Ca, mg "UnknownTask" = some (.ref Ca) ∧ PySem.W.keepIn K (.ref Ca) = true
 wR : ∃ Ca fI fd, iJ K mg "InvalidAmount" "InvalidAmount.__init__" lA "value" Ca fI fd
 wU : ∃ Ca fI fd, iJ K mg "InvalidChoice" "InvalidChoice.__init__" lB "value" Ca fI fd
 wV : ∃ Ca fI fd, iJ K mg "InvalidCommand" "InvalidCommand.__init__" lC "value" Ca fI fd
 wW : ∃ Ca fI fd, iJ K mg "InvalidLine" "InvalidLine.__init__" lD "line" Ca fI fd
 wX : ∃ Ca fI fd, CY K mg "InvalidProgram" "InvalidProgram.__init__" lE "reason" "path" Ca fI fd
 wY : ∃ Ca fI fd, iJ K mg "InvalidRow" "InvalidRow.__init__" lF "value" Ca fI fd
 wZ : ∃ Ca fI fd, iJ K mg "InvalidText" "InvalidText.__init__" lG "value" Ca fI fd
 xg : ∃ Ca fI fd, tZ K mg "NotReady" "NotReady.__init__" lH "value" Ca fI fd
 xq : ∃ Ca fI fd, tZ K mg "NotWaiting" "NotWaiting.__init__" lJ "value" Ca fI fd
 DH : ∃ Ca fI fd, De K mg "NothingToUndo" "NothingToUndo.__init__" lK "RuntimeError.__new__" vR Ca fI fd
 xr : ∃ Ca fI fd, D4 K mg "TooMany" "TooMany.__init__" lM "limit" Ca fI fd
 xA : ∃ Ca fI fd, jZ K mg "UnknownBudget" "UnknownBudget.__init__" lN "value" Ca fI fd
 xB : ∃ Ca fI fd, jZ K mg "UnknownProcedure" "UnknownProcedure.__init__" lO "value" Ca fI fd
 xC : ∃ Ca fI fd, jZ K mg "UnknownScope" "UnknownScope.__init__" lQ "value" Ca fI fd
 xD : ∃ Ca fI fd, jZ K mg "UnknownTask" "UnknownTask.__init__" lU "value" Ca fI fd
 o8 : ∃ Ba, mg "ExactStopError" = some (.ref Ba) ∧ vK K Ba
 xE : mO K mg aJ
 xT : jV K mg xT
 xU : jW K mg xU
 JZ : jg K mg "limit" aJ
 K6 : jg K mg "line" aJ
 K7 : jg K mg "path" aJ
 K8 : jg K mg "reason" aJ
 K9 : jg K mg "value" aJ
section
variable {P : Program} {w : World} {K : PySem.W.Frag} {mg : Str → Option Value} {base : Heap}
theorem Ka : FnScope ["self", "value"] ["self", "value"] (defScope lA) := nomatch 0
theorem DI {Ca fI : Addr} {fd : FuncData} (T : Txt K mg w) (E : iJ K mg "InvalidAmount" "InvalidAmount.__init__" lA "value" Ca fI fd) : bJ P w K mg base 1 fI fd ["self", "value"] (spI ⟨K, mg, w, []⟩ Ca pH.length ni pH) := by
 obtain ⟨Ba, hB, BI⟩ := T.o8
 exact pF E.F Ka E.o E.f rfl fun cdv A outer s H E hg hr => ⟨ps_expr (mQ hB BI (pa_cons (pv 0) (pa_cons (gG (.cons (aM) (.cons (iI hg (eY hr) #[1]) (dR.nil)))) pa_nil))), ps_ost (pv 0) (pv 1)⟩
theorem Kc : FnScope ["self", "value"] ["self", "value"] (defScope lB) := nomatch 0
theorem DJ {Ca fI : Addr} {fd : FuncData} (T : Txt K mg w) (E : iJ K mg "InvalidChoice" "InvalidChoice.__init__" lB "value" Ca fI fd) : bJ P w K mg base 1 fI fd ["self", "value"] (spI ⟨K, mg, w, []⟩ Ca pJ.length nj pJ) := by
 obtain ⟨Ba, hB, BI⟩ := T.o8
 exact pF E.F Kc E.o E.f rfl fun cdv A outer s H E hg hr => ⟨ps_expr (mQ hB BI (pa_cons (pv 0) (pa_cons (gG (.cons (aM) (.cons (iI hg (eY hr) #[1]) (dR.nil)))) pa_nil))), ps_ost (pv 0) (pv 1)⟩
theorem Kd : FnScope ["self", "value"] ["self", "value"] (defScope lC) := nomatch 0
theorem DK {Ca fI : Addr} {fd : FuncData} (T : Txt K mg w) (E : iJ K mg "InvalidCommand" "InvalidCommand.__init__" lC "value" Ca fI fd) : bJ P w K mg base 1 fI fd ["self", "value"] (spI ⟨K, mg, w, []⟩ Ca pK.length nq pK) := by
 obtain ⟨Ba, hB, BI⟩ := T.o8
 exact pF E.F Kd E.o E.f rfl fun cdv A outer s H E hg hr => ⟨ps_expr (mQ hB BI (pa_cons (pv 0) (pa_cons (gG (.cons (aM) (.cons (iI hg (eY hr) #[1]) (dR.nil)))) pa_nil))), ps_ost (pv 0) (pv 1)⟩
theorem Ke : FnScope ["self", "line"] ["self", "line"] (defScope lD) := nomatch 0
theorem DL {Ca fI : Addr} {fd : FuncData} (T : Txt K mg w) (E : iJ K mg "InvalidLine" "InvalidLine.__init__" lD "line" Ca fI fd) : bJ P w K mg base 1 fI fd ["self", "line"] (spI ⟨K, mg, w, []⟩ Ca pM.length nu pM) := by
 obtain ⟨Ba, hB, BI⟩ := T.o8
 exact pF E.F Ke E.o E.f rfl fun cdv A outer s H E hg hr => ⟨ps_expr (mQ hB BI (pa_cons (pv 0) (pa_cons (gG (.cons (aM) (.cons (we hg (w6 hr) #[1]) (.cons (aM) (dR.nil))))) pa_nil))), ps_ost (pv 0) (pv 1)⟩
theorem Kf : FnScope ["self", "reason", "path"] ["self", "reason", "path"] (defScope lE) := nomatch 0
theorem DM {Ca fI : Addr} {fd : FuncData} (T : Txt K mg w) (E : CY K mg "InvalidProgram" "InvalidProgram.__init__" lE "reason" "path" Ca fI fd) : bJ P w K mg base 1 fI fd ["self", "reason", "path"] (spI ⟨K, mg, w, []⟩ Ca jC.length jD jC) := by
 obtain ⟨Ba, hB, BI⟩ := T.o8
 exact Jh E.F Kf E.o E.f E.g rfl fun cdv A outer s H E hg hr => ⟨ps_expr (mQ hB BI (pa_cons (pv 0) (pa_cons (gG (.cons (aM) (.cons (we hg (w6 hr) #[1]) (.cons (aM) (.cons (iI hg (eY hr) #[2]) (dR.nil)))))) pa_nil))), ps_ost (pv 0) (pv 1), ps_ost (pv 0) (pv 2)⟩
theorem Kg : FnScope ["self", "value"] ["self", "value"] (defScope lF) := nomatch 0
theorem DN {Ca fI : Addr} {fd : FuncData} (T : Txt K mg w) (E : iJ K mg "InvalidRow" "InvalidRow.__init__" lF "value" Ca fI fd) : bJ P w K mg base 1 fI fd ["self", "value"] (spI ⟨K, mg, w, []⟩ Ca pN.length nA pN) := by
 obtain ⟨Ba, hB, BI⟩ := T.o8
 exact pF E.F Kg E.o E.f rfl fun cdv A outer s H E hg hr => ⟨ps_expr (mQ hB BI (pa_cons (pv 0) (pa_cons (gG (.cons (aM) (.cons (iI hg (eY hr) #[1]) (dR.nil)))) pa_nil))), ps_ost (pv 0) (pv 1)⟩
theorem Kh : FnScope ["self", "value"] ["self", "value"] (defScope lG) := nomatch 0
theorem DP {Ca fI : Addr} {fd : FuncData} (T : Txt K mg w) (E : iJ K mg "InvalidText" "InvalidText.__init__" lG "value" Ca fI fd) : bJ P w K mg base 1 fI fd ["self", "value"] (spI ⟨K, mg, w, []⟩ Ca pO.length nH pO) := by
 obtain ⟨Ba, hB, BI⟩ := T.o8
 exact pF E.F Kh E.o E.f rfl fun cdv A outer s H E hg hr => ⟨ps_expr (mQ hB BI (pa_cons (pv 0) (pa_cons (gG (.cons (aM) (.cons (iI hg (eY hr) #[1]) (dR.nil)))) pa_nil))), ps_ost (pv 0) (pv 1)⟩
theorem Kl : FnScope ["self", "value"] ["self", "value"] (defScope lH) := nomatch 0
theorem DQ {Ca fI : Addr} {fd : FuncData} (T : Txt K mg w) (E : tZ K mg "NotReady" "NotReady.__init__" lH "value" Ca fI fd) : bJ P w K mg base 1 fI fd ["self", "value"] (spI ⟨K, mg, w, []⟩ Ca pP.length nJ pP) := by
 exact mV E.F Kl E.o E.f rfl fun cdv A outer s H E hg hr => ⟨ps_expr (jY ji rfl T.uE (by decide +kernel) (pa_cons (pv 0) (pa_cons (gG (.cons (aM) (.cons (iI hg (eY hr) #[1]) (dR.nil)))) pa_nil))), mU ji (pv 0) (pv 1)⟩
theorem Km : FnScope ["self", "value"] ["self", "value"] (defScope lJ) := nomatch 0
theorem DR {Ca fI : Addr} {fd : FuncData} (T : Txt K mg w) (E : tZ K mg "NotWaiting" "NotWaiting.__init__" lJ "value" Ca fI fd) : bJ P w K mg base 1 fI fd ["self", "value"] (spI ⟨K, mg, w, []⟩ Ca pQ.length nM pQ) := by
 exact mV E.F Km E.o E.f rfl fun cdv A outer s H E hg hr => ⟨ps_expr (jY ji rfl T.uE (by decide +kernel) (pa_cons (pv 0) (pa_cons (gG (.cons (aM) (.cons (iI hg (eY hr) #[1]) (dR.nil)))) pa_nil))), mU ji (pv 0) (pv 1)⟩
theorem Ko : FnScope ["self"] ["self"] (defScope lK) := nomatch 0
theorem Kr {Ca fI : Addr} {fd : FuncData} (T : Txt K mg w) (E : De K mg "NothingToUndo" "NothingToUndo.__init__" lK "RuntimeError.__new__" vR Ca fI fd) : bJ P w K mg base 1 fI fd ["self"] (u9 ⟨K, mg, w, []⟩ Ca rE) := by
 exact JH E.F Ko E.o rfl fun cdv A outer s H E hg hr => ps_expr (jY ji rfl T.uE (by decide +kernel) (pa_cons (pv 0) (pa_cons (aM) pa_nil)))
theorem Ks : FnScope ["self", "limit"] ["self", "limit"] (defScope lM) := nomatch 0
theorem DU {Ca fI : Addr} {fd : FuncData} (T : Txt K mg w) (E : D4 K mg "TooMany" "TooMany.__init__" lM "limit" Ca fI fd) : bJ P w K mg base 1 fI fd ["self", "limit"] (spI ⟨K, mg, w, []⟩ Ca pU.length nO pU) := by
 exact mV E.F Ks E.o E.f rfl fun cdv A outer s H E hg hr => ⟨ps_expr (jY tY rfl T.DB (by decide +kernel) (pa_cons (pv 0) (pa_cons (gG (.cons (aM) (.cons (we hg (w6 hr) #[1]) (dR.nil)))) pa_nil))), mU tY (pv 0) (pv 1)⟩
theorem Ku : FnScope ["self", "value"] ["self", "value"] (defScope lN) := nomatch 0
theorem DV {Ca fI : Addr} {fd : FuncData} (T : Txt K mg w) (E : jZ K mg "UnknownBudget" "UnknownBudget.__init__" lN "value" Ca fI fd) : bJ P w K mg base 1 fI fd ["self", "value"] (spI ⟨K, mg, w, []⟩ Ca pW.length nQ pW) := by
 exact mV E.F Ku E.o E.f rfl fun cdv A outer s H E hg hr => ⟨ps_expr (jY fQ rfl T.rG (by decide +kernel) (pa_cons (pv 0) (pa_cons (gG (.cons (aM) (.cons (iI hg (eY hr) #[1]) (dR.nil)))) pa_nil))), mU fQ (pv 0) (pv 1)⟩
theorem Kv : FnScope ["self", "value"] ["self", "value"] (defScope lO) := nomatch 0
theorem DW {Ca fI : Addr} {fd : FuncData} (T : Txt K mg w) (E : jZ K mg "UnknownProcedure" "UnknownProcedure.__init__" lO "value" Ca fI fd) : bJ P w K mg base 1 fI fd ["self", "value"] (spI ⟨K, mg, w, []⟩ Ca pX.length nR pX) := by
 exact mV E.F Kv E.o E.f rfl fun cdv A outer s H E hg hr => ⟨ps_expr (jY fQ rfl T.rG (by decide +kernel) (pa_cons (pv 0) (pa_cons (gG (.cons (aM) (.cons (iI hg (eY hr) #[1]) (dR.nil)))) pa_nil))), mU fQ (pv 0) (pv 1)⟩
theorem Kw : FnScope ["self", "value"] ["self", "value"] (defScope lQ) := nomatch 0
theorem DY {Ca fI : Addr} {fd : FuncData} (T : Txt K mg w) (E : jZ K mg "UnknownScope" "UnknownScope.__init__" lQ "value" Ca fI fd) : bJ P w K mg base 1 fI fd ["self", "value"] (spI ⟨K, mg, w, []⟩ Ca pY.length nU pY) := by
 exact mV E.F Kw E.o E.f rfl fun cdv A outer s H E hg hr => ⟨ps_expr (jY fQ rfl T.rG (by decide +kernel) (pa_cons (pv 0) (pa_cons (gG (.cons (aM) (.cons (iI hg (eY hr) #[1]) (dR.nil)))) pa_nil))), mU fQ (pv 0) (pv 1)⟩
theorem Ky : FnScope ["self", "value"] ["self", "value"] (defScope lU) := nomatch 0
theorem DZ {Ca fI : Addr} {fd : FuncData} (T : Txt K mg w) (E : jZ K mg "UnknownTask" "UnknownTask.__init__" lU "value" Ca fI fd) : bJ P w K mg base 1 fI fd ["self", "value"] (spI ⟨K, mg, w, []⟩ Ca pZ.length nW pZ) := by
 exact mV E.F Ky E.o E.f rfl fun cdv A outer s H E hg hr => ⟨ps_expr (jY fQ rfl T.rG (by decide +kernel) (pa_cons (pv 0) (pa_cons (gG (.cons (aM) (.cons (iI hg (eY hr) #[1]) (dR.nil)))) pa_nil))), mU fQ (pv 0) (pv 1)⟩
theorem Kz (T : Txt K mg w) : ExOk P w K mg base 1 0 ["value"] "InvalidAmount" pH ni [0] := by
 obtain ⟨Ca, fI, fd, E⟩ := T.wR
 exact ⟨⟨_, _, _, _, _, _, ["self", "value"], E.m, (bT.ve E.o), E.i, E.t, E.F, DI T E, #[0, [_], [_], 0]⟩, #[1, [], [_], 1]⟩
theorem KA (T : Txt K mg w) : ExOk P w K mg base 1 1 [] "InvalidAmount" pH ni [0] := by
 obtain ⟨Ca, fI, fd, E⟩ := T.wR
 exact ⟨⟨_, _, _, _, _, _, ["self", "value"], E.m, (bT.ve E.o), E.i, E.t, E.F, DI T E, #[0, [_, _], [], 0]⟩, #[1, [_], [], 1]⟩
theorem KC (T : Txt K mg w) : ExOk P w K mg base 1 0 ["value"] "InvalidChoice" pJ nj [0] := by
 obtain ⟨Ca, fI, fd, E⟩ := T.wU
 exact ⟨⟨_, _, _, _, _, _, ["self", "value"], E.m, (bT.ve E.o), E.i, E.t, E.F, DJ T E, #[0, [_], [_], 0]⟩, #[1, [], [_], 1]⟩
theorem KD (T : Txt K mg w) : ExOk P w K mg base 1 1 [] "InvalidChoice" pJ nj [0] := by
 obtain ⟨Ca, fI, fd, E⟩ := T.wU
 exact ⟨⟨_, _, _, _, _, _, ["self", "value"], E.m, (bT.ve E.o), E.i, E.t, E.F, DJ T E, #[0, [_, _], [], 0]⟩, #[1, [_], [], 1]⟩
theorem KG (T : Txt K mg w) : ExOk P w K mg base 1 0 ["value"] "InvalidCommand" pK nq [0] := by
 obtain ⟨Ca, fI, fd, E⟩ := T.wV
 exact ⟨⟨_, _, _, _, _, _, ["self", "value"], E.m, (bT.ve E.o), E.i, E.t, E.F, DK T E, #[0, [_], [_], 0]⟩, #[1, [], [_], 1]⟩
theorem KH (T : Txt K mg w) : ExOk P w K mg base 1 1 [] "InvalidCommand" pK nq [0] := by
 obtain ⟨Ca, fI, fd, E⟩ := T.wV
 exact ⟨⟨_, _, _, _, _, _, ["self", "value"], E.m, (bT.ve E.o), E.i, E.t, E.F, DK T E, #[0, [_, _], [], 0]⟩, #[1, [_], [], 1]⟩
theorem KI (T : Txt K mg w) : ExOk P w K mg base 1 0 ["line"] "InvalidLine" pM nu [0] := by
 obtain ⟨Ca, fI, fd, E⟩ := T.wW
 exact ⟨⟨_, _, _, _, _, _, ["self", "line"], E.m, (bT.ve E.o), E.i, E.t, E.F, DL T E, #[0, [_], [_], 0]⟩, #[1, [], [_], 1]⟩
theorem KJ (T : Txt K mg w) : ExOk P w K mg base 1 1 [] "InvalidLine" pM nu [0] := by
 obtain ⟨Ca, fI, fd, E⟩ := T.wW
 exact ⟨⟨_, _, _, _, _, _, ["self", "line"], E.m, (bT.ve E.o), E.i, E.t, E.F, DL T E, #[0, [_, _], [], 0]⟩, #[1, [_], [], 1]⟩
theorem KN (T : Txt K mg w) : ExOk P w K mg base 1 0 ["path", "reason"] "InvalidProgram" jC jD [1, 0] := by
 obtain ⟨Ca, fI, fd, E⟩ := T.wX
 exact ⟨⟨_, _, _, _, _, _, ["self", "reason", "path"], E.m, (bT.ve E.o), E.i, E.t, E.F, DM T E, #[0, [_], [_, _], 0]⟩, #[1, [], [_, _], 1]⟩
theorem KO (T : Txt K mg w) : ExOk P w K mg base 1 2 [] "InvalidProgram" jC jD [0, 1] := by
 obtain ⟨Ca, fI, fd, E⟩ := T.wX
 exact ⟨⟨_, _, _, _, _, _, ["self", "reason", "path"], E.m, (bT.ve E.o), E.i, E.t, E.F, DM T E, #[0, [_, _, _], [], 0]⟩, #[1, [_, _], [], 1]⟩
theorem KP (T : Txt K mg w) : ExOk P w K mg base 1 0 ["value"] "InvalidRow" pN nA [0] := by
 obtain ⟨Ca, fI, fd, E⟩ := T.wY
 exact ⟨⟨_, _, _, _, _, _, ["self", "value"], E.m, (bT.ve E.o), E.i, E.t, E.F, DN T E, #[0, [_], [_], 0]⟩, #[1, [], [_], 1]⟩
theorem KQ (T : Txt K mg w) : ExOk P w K mg base 1 1 [] "InvalidRow" pN nA [0] := by
 obtain ⟨Ca, fI, fd, E⟩ := T.wY
 exact ⟨⟨_, _, _, _, _, _, ["self", "value"], E.m, (bT.ve E.o), E.i, E.t, E.F, DN T E, #[0, [_, _], [], 0]⟩, #[1, [_], [], 1]⟩
theorem KR (T : Txt K mg w) : ExOk P w K mg base 1 0 ["value"] "InvalidText" pO nH [0] := by
 obtain ⟨Ca, fI, fd, E⟩ := T.wZ
 exact ⟨⟨_, _, _, _, _, _, ["self", "value"], E.m, (bT.ve E.o), E.i, E.t, E.F, DP T E, #[0, [_], [_], 0]⟩, #[1, [], [_], 1]⟩
theorem KU (T : Txt K mg w) : ExOk P w K mg base 1 1 [] "InvalidText" pO nH [0] := by
 obtain ⟨Ca, fI, fd, E⟩ := T.wZ
 exact ⟨⟨_, _, _, _, _, _, ["self", "value"], E.m, (bT.ve E.o), E.i, E.t, E.F, DP T E, #[0, [_, _], [], 0]⟩, #[1, [_], [], 1]⟩
theorem KW (T : Txt K mg w) : ExOk P w K mg base 1 0 ["value"] "NotReady" pP nJ [0] := by
 obtain ⟨Ca, fI, fd, E⟩ := T.xg
 exact ⟨⟨_, _, _, _, _, _, ["self", "value"], E.m, (bT.rt ji E.o), E.i, E.t, E.F, DQ T E, #[0, [_], [_], 0]⟩, #[1, [], [_], 1]⟩
theorem KY (T : Txt K mg w) : ExOk P w K mg base 1 1 [] "NotReady" pP nJ [0] := by
 obtain ⟨Ca, fI, fd, E⟩ := T.xg
 exact ⟨⟨_, _, _, _, _, _, ["self", "value"], E.m, (bT.rt ji E.o), E.i, E.t, E.F, DQ T E, #[0, [_, _], [], 0]⟩, #[1, [_], [], 1]⟩
theorem KZ (T : Txt K mg w) : ExOk P w K mg base 1 0 ["value"] "NotWaiting" pQ nM [0] := by
 obtain ⟨Ca, fI, fd, E⟩ := T.xq
 exact ⟨⟨_, _, _, _, _, _, ["self", "value"], E.m, (bT.rt ji E.o), E.i, E.t, E.F, DR T E, #[0, [_], [_], 0]⟩, #[1, [], [_], 1]⟩
theorem La (T : Txt K mg w) : ExOk P w K mg base 1 1 [] "NotWaiting" pQ nM [0] := by
 obtain ⟨Ca, fI, fd, E⟩ := T.xq
 exact ⟨⟨_, _, _, _, _, _, ["self", "value"], E.m, (bT.rt ji E.o), E.i, E.t, E.F, DR T E, #[0, [_, _], [], 0]⟩, #[1, [_], [], 1]⟩
theorem Ld (T : Txt K mg w) : Df P w K mg base 1 "NothingToUndo" rE := by
 obtain ⟨Ca, fI, fd, E⟩ := T.DH
 exact ⟨⟨_, _, _, _, _, _, ["self"], E.m, (bT.rt ji E.o), E.i, E.t, E.F, Kr T E, #[0, [_], [], 0]⟩⟩
theorem Le (T : Txt K mg w) : ExOk P w K mg base 1 0 ["limit"] "TooMany" pU nO [0] := by
 obtain ⟨Ca, fI, fd, E⟩ := T.xr
 exact ⟨⟨_, _, _, _, _, _, ["self", "limit"], E.m, (bT.rt tY E.o), E.i, E.t, E.F, DU T E, #[0, [_], [_], 0]⟩, #[1, [], [_], 1]⟩
theorem Lf (T : Txt K mg w) : ExOk P w K mg base 1 1 [] "TooMany" pU nO [0] := by
 obtain ⟨Ca, fI, fd, E⟩ := T.xr
 exact ⟨⟨_, _, _, _, _, _, ["self", "limit"], E.m, (bT.rt tY E.o), E.i, E.t, E.F, DU T E, #[0, [_, _], [], 0]⟩, #[1, [_], [], 1]⟩
theorem Lg (T : Txt K mg w) : ExOk P w K mg base 1 0 ["value"] "UnknownBudget" pW nQ [0] := by
 obtain ⟨Ca, fI, fd, E⟩ := T.xA
 exact ⟨⟨_, _, _, _, _, _, ["self", "value"], E.m, (bT.rt fQ E.o), E.i, E.t, E.F, DV T E, #[0, [_], [_], 0]⟩, #[1, [], [_], 1]⟩
theorem Lh (T : Txt K mg w) : ExOk P w K mg base 1 1 [] "UnknownBudget" pW nQ [0] := by
 obtain ⟨Ca, fI, fd, E⟩ := T.xA
 exact ⟨⟨_, _, _, _, _, _, ["self", "value"], E.m, (bT.rt fQ E.o), E.i, E.t, E.F, DV T E, #[0, [_, _], [], 0]⟩, #[1, [_], [], 1]⟩
theorem Lj (T : Txt K mg w) : ExOk P w K mg base 1 0 ["value"] "UnknownProcedure" pX nR [0] := by
 obtain ⟨Ca, fI, fd, E⟩ := T.xB
 exact ⟨⟨_, _, _, _, _, _, ["self", "value"], E.m, (bT.rt fQ E.o), E.i, E.t, E.F, DW T E, #[0, [_], [_], 0]⟩, #[1, [], [_], 1]⟩
theorem Ln (T : Txt K mg w) : ExOk P w K mg base 1 1 [] "UnknownProcedure" pX nR [0] := by
 obtain ⟨Ca, fI, fd, E⟩ := T.xB
 exact ⟨⟨_, _, _, _, _, _, ["self", "value"], E.m, (bT.rt fQ E.o), E.i, E.t, E.F, DW T E, #[0, [_, _], [], 0]⟩, #[1, [_], [], 1]⟩
theorem Lp (T : Txt K mg w) : ExOk P w K mg base 1 0 ["value"] "UnknownScope" pY nU [0] := by
 obtain ⟨Ca, fI, fd, E⟩ := T.xC
 exact ⟨⟨_, _, _, _, _, _, ["self", "value"], E.m, (bT.rt fQ E.o), E.i, E.t, E.F, DY T E, #[0, [_], [_], 0]⟩, #[1, [], [_], 1]⟩
theorem Lq (T : Txt K mg w) : ExOk P w K mg base 1 1 [] "UnknownScope" pY nU [0] := by
 obtain ⟨Ca, fI, fd, E⟩ := T.xC
 exact ⟨⟨_, _, _, _, _, _, ["self", "value"], E.m, (bT.rt fQ E.o), E.i, E.t, E.F, DY T E, #[0, [_, _], [], 0]⟩, #[1, [_], [], 1]⟩
theorem Lr (T : Txt K mg w) : ExOk P w K mg base 1 0 ["value"] "UnknownTask" pZ nW [0] := by
 obtain ⟨Ca, fI, fd, E⟩ := T.xD
 exact ⟨⟨_, _, _, _, _, _, ["self", "value"], E.m, (bT.rt fQ E.o), E.i, E.t, E.F, DZ T E, #[0, [_], [_], 0]⟩, #[1, [], [_], 1]⟩
theorem Lw (T : Txt K mg w) : ExOk P w K mg base 1 1 [] "UnknownTask" pZ nW [0] := by
 obtain ⟨Ca, fI, fd, E⟩ := T.xD
 exact ⟨⟨_, _, _, _, _, _, ["self", "value"], E.m, (bT.rt fQ E.o), E.i, E.t, E.F, DZ T E, #[0, [_, _], [], 0]⟩, #[1, [_], [], 1]⟩
theorem E3 : FnScope Dq uf (defScope jj) := nomatch 0
theorem Ly {x : Str} {fa : Addr} {fd : FuncData} (T : Txt K mg w) (F : Fun K "_law_rng" "_law_rng" jj fa fd) (hm : mg x = some (.ref fa)) : cV P w K mg base 1 x jj uf ug := by
 refine ⟨fa, _, "_law_rng", fd, F, hm, fn_ok F E3 fun cdv A outer s H E hg hr => ?_⟩
 unfold Dr
 have hu1 := eY hr
 have hu0 := mK hr
 exact bV #[2, E3, uU (uR HA HD #[1] (bQ Ad Ae T.DE (by decide +kernel) (ao #[0] (aD)))) (jR #[0] #[1]) (bU d8 d9 (bU sS sU (bZ) #[1]) (bZ))] <|
  fU (gW (Fy (cA (ao (bQ (call_max2 rfl) Ag T.DF (by decide +kernel) (ao (bZ) (ao (bU op_sub Ht (bQ call_abs Af T.DC (by decide +kernel) (ao #[2] (aD))) (bU op_pow zX (bZ) (bZ))) (aD)))) (ao (bU d8 d9 (bU d8 d9 (bU op_modN sV (bQ call_abs Af T.DC (by decide +kernel) (ao #[2] (aD))) (bZ)) (bU sS sU (bZ) #[1])) (bZ)) (aD))))))
theorem E4 : FnScope Ds uh (defScope jk) := nomatch 0
theorem Lz {x : Str} {fa : Addr} {fd : FuncData} (T : Txt K mg w) (F : Fun K "_law_draw" "_law_draw" jk fa fd) (hm : mg x = some (.ref fa)) : cV P w K mg base 1 x jk uh rF := by
 refine ⟨fa, _, "_law_draw", fd, F, hm, fn_ok F E4 fun cdv A outer s H E hg hr => ?_⟩
 unfold Dt
 have hu1 := eY hr
 have hu0 := mK hr
 exact bV (oO (uR HC HE (jR #[0] (bZ)) (bZ)) (bV (zp (bQ call_divmod HU T.JV (by decide +kernel) (ao (jR #[0] (bZ)) (ao #[1] (aD)))) (zm (n := 2) rfl (sE (An (W := W0) #[0] (bZ)) (sE #[2, E4] (zj))) (tG (tG (Aq))))) <|
  fU (gW #[2])) (oM)) <|
  bV (zp (bU op_modN sV (bU d8 d9 (bU sS sU (jR #[0] (bZ)) (bZ)) (bZ)) (bZ)) (An (W := W0) #[0] (bZ))) <|
  fU (gW (bU op_modN sV (bU op_fdivN Hw (bU op_modN sV (bU sS sU (jR #[0] (bZ)) (jR #[0] (bZ))) (bZ)) (bZ)) #[1]))
theorem gK : FnScope Du uo (defScope jm) := nomatch 0
theorem LA {x : Str} {fa : Addr} {fd : FuncData} (T : Txt K mg w) (F : Fun K "_law_made_errors" "_law_made_errors" jm fa fd) (hm : mg x = some (.ref fa)) : cV P w K mg base 3 x jm uo nY := by
 obtain ⟨a2A, a2B, a2C, a2D⟩ := T.wR
 obtain ⟨a2E, a2F, a2G, a2H⟩ := T.wU
 obtain ⟨a2I, a2J, a2K, a2L⟩ := T.wV
 obtain ⟨a2M, a2N, a2O, a2P⟩ := T.wW
 obtain ⟨a2Q, a2R, a2S, a2T⟩ := T.wX
 obtain ⟨a2U, a2V, a2W, a2X⟩ := T.wY
 obtain ⟨a2Y, a2Z, a3a, a3b⟩ := T.wZ
 obtain ⟨a3c, a3d, a3e, a3f⟩ := T.xg
 obtain ⟨a3g, a3h, a3i, a3j⟩ := T.xq
 obtain ⟨a3k, a3l, a3m, a3n⟩ := T.xr
 obtain ⟨a3o, a3p, a3q, a3r⟩ := T.xA
 obtain ⟨a3s, a3t, a3u, a3v⟩ := T.xB
 obtain ⟨a3w, a3x, a3y, a3z⟩ := T.xC
 obtain ⟨a3A, a3B, a3C, a3D⟩ := T.xD
 refine ⟨fa, _, "_law_made_errors", fd, F, hm, fn_ok F gK fun cdv A outer s H E hg hr => ?_⟩
 unfold wg
 have hu1 := eY hr
 have hu0 := mK hr
 exact bV (fV (ps_set (i := 2) gK.nd rfl nofun (cC (cA (ao (bY (ao (gH (KO T) hg hr (by decide) (ao #[0] (ao #[1] (aD))) (cD) (bW (bW (bF))) (bF) (by decide)) (ao (aM) (aD)))) (ao (bY (ao (gJ (KN T) hg hr (by decide) (fX #[1] (fX #[0] (cD))) (bW (bW (bF)))) (ao (aM) (aD)))) (aD)))))) (fun _ _ _ h => by exact h)) <|
  bV (fV (ps_set (i := 2) gK.nd rfl nofun (bU d8 d9 #[2] (cC (cA (ao (bY (ao (gH (KJ T) hg hr (by decide) (ao #[0] (aD)) (cD) (bW (bF)) (bF) (by decide)) (ao (aM) (aD)))) (ao (bY (ao (gJ (KI T) hg hr (by decide) (fX #[0] (cD)) (bW (bF))) (ao (aM) (aD)))) (aD))))))) (fun _ _ _ h => by exact h)) <|
  bV (fV (ps_set (i := 2) gK.nd rfl nofun (bU d8 d9 #[2] (cC (cA (ao (bY (ao (gH (KU T) hg hr (by decide) (ao #[0] (aD)) (cD) (bW (bF)) (bF) (by decide)) (ao (aM) (aD)))) (ao (bY (ao (gJ (KR T) hg hr (by decide) (fX #[0] (cD)) (bW (bF))) (ao (aM) (aD)))) (aD))))))) (fun _ _ _ h => by exact h)) <|
  bV (fV (ps_set (i := 2) gK.nd rfl nofun (bU d8 d9 #[2] (cC (cA (ao (bY (ao (gH (KQ T) hg hr (by decide) (ao #[0] (aD)) (cD) (bW (bF)) (bF) (by decide)) (ao (aM) (aD)))) (ao (bY (ao (gJ (KP T) hg hr (by decide) (fX #[0] (cD)) (bW (bF))) (ao (aM) (aD)))) (aD))))))) (fun _ _ _ h => by exact h)) <|
  bV (fV (ps_set (i := 2) gK.nd rfl nofun (bU d8 d9 #[2] (cC (cA (ao (bY (ao (gH (KA T) hg hr (by decide) (ao #[0] (aD)) (cD) (bW (bF)) (bF) (by decide)) (ao (aM) (aD)))) (ao (bY (ao (gJ (Kz T) hg hr (by decide) (fX #[0] (cD)) (bW (bF))) (ao (aM) (aD)))) (aD))))))) (fun _ _ _ h => by exact h)) <|
  bV (fV (ps_set (i := 2) gK.nd rfl nofun (bU d8 d9 #[2] (cC (cA (ao (bY (ao (gH (KD T) hg hr (by decide) (ao #[0] (aD)) (cD) (bW (bF)) (bF) (by decide)) (ao (aM) (aD)))) (ao (bY (ao (gJ (KC T) hg hr (by decide) (fX #[0] (cD)) (bW (bF))) (ao (aM) (aD)))) (aD))))))) (fun _ _ _ h => by exact h)) <|
  bV (fV (ps_set (i := 2) gK.nd rfl nofun (bU d8 d9 #[2] (cC (cA (ao (bY (ao (gH (KH T) hg hr (by decide) (ao #[0] (aD)) (cD) (bW (bF)) (bF) (by decide)) (ao (aM) (aD)))) (ao (bY (ao (gJ (KG T) hg hr (by decide) (fX #[0] (cD)) (bW (bF))) (ao (aM) (aD)))) (aD))))))) (fun _ _ _ h => by exact h)) <|
  bV (fV (ps_set (i := 2) gK.nd rfl nofun (bU d8 d9 #[2] (cC (cA (ao (bY (ao (gH (Lh T) hg hr (by decide) (ao #[0] (aD)) (cD) (bW (bF)) (bF) (by decide)) (ao (aM) (aD)))) (ao (bY (ao (gJ (Lg T) hg hr (by decide) (fX #[0] (cD)) (bW (bF))) (ao (aM) (aD)))) (aD))))))) (fun _ _ _ h => by exact h)) <|
  bV (fV (ps_set (i := 2) gK.nd rfl nofun (bU d8 d9 #[2] (cC (cA (ao (bY (ao (gH (Ln T) hg hr (by decide) (ao #[0] (aD)) (cD) (bW (bF)) (bF) (by decide)) (ao (aM) (aD)))) (ao (bY (ao (gJ (Lj T) hg hr (by decide) (fX #[0] (cD)) (bW (bF))) (ao (aM) (aD)))) (aD))))))) (fun _ _ _ h => by exact h)) <|
  bV (fV (ps_set (i := 2) gK.nd rfl nofun (bU d8 d9 #[2] (cC (cA (ao (bY (ao (gH (Lw T) hg hr (by decide) (ao #[0] (aD)) (cD) (bW (bF)) (bF) (by decide)) (ao (aM) (aD)))) (ao (bY (ao (gJ (Lr T) hg hr (by decide) (fX #[0] (cD)) (bW (bF))) (ao (aM) (aD)))) (aD))))))) (fun _ _ _ h => by exact h)) <|
  bV (fV (ps_set (i := 2) gK.nd rfl nofun (bU d8 d9 #[2] (cC (cA (ao (bY (ao (gH (Lq T) hg hr (by decide) (ao #[0] (aD)) (cD) (bW (bF)) (bF) (by decide)) (ao (aM) (aD)))) (ao (bY (ao (gJ (Lp T) hg hr (by decide) (fX #[0] (cD)) (bW (bF))) (ao (aM) (aD)))) (aD))))))) (fun _ _ _ h => by exact h)) <|
  bV (fV (ps_set (i := 2) gK.nd rfl nofun (bU d8 d9 #[2] (cC (cA (ao (bY (ao (gH (KY T) hg hr (by decide) (ao #[0] (aD)) (cD) (bW (bF)) (bF) (by decide)) (ao (aM) (aD)))) (ao (bY (ao (gJ (KW T) hg hr (by decide) (fX #[0] (cD)) (bW (bF))) (ao (aM) (aD)))) (aD))))))) (fun _ _ _ h => by exact h)) <|
  bV (fV (ps_set (i := 2) gK.nd rfl nofun (bU d8 d9 #[2] (cC (cA (ao (bY (ao (gH (La T) hg hr (by decide) (ao #[0] (aD)) (cD) (bW (bF)) (bF) (by decide)) (ao (aM) (aD)))) (ao (bY (ao (gJ (KZ T) hg hr (by decide) (fX #[0] (cD)) (bW (bF))) (ao (aM) (aD)))) (aD))))))) (fun _ _ _ h => by exact h)) <|
  fU (Jp (gW (bU d8 d9 #[2] (cC (cA (ao (bY (ao (gH (Lf T) hg hr (by decide) (ao #[0] (aD)) (cD) (bW (bF)) (bF) (by decide)) (ao (aM) (aD)))) (ao (bY (ao (gJ (Le T) hg hr (by decide) (fX #[0] (cD)) (bW (bF))) (ao (aM) (aD)))) (aD))))))) (by exact rfl))
theorem qj : FnScope Dy uw (defScope jo) := nomatch 0
theorem LC {x : Str} {fa : Addr} {fd : FuncData} (T : Txt K mg w) (F : Fun K "_law_classes" "_law_classes" jo fa fd) (hm : mg x = some (.ref fa)) : cV P w K mg base 1 x jo uw nZ := by
 obtain ⟨a3E, wC, xF⟩ := T.wC
 obtain ⟨a3F, wD, xG⟩ := T.wD
 obtain ⟨a3G, wF, xH⟩ := T.wF
 obtain ⟨LD, qb, rH⟩ := T.qb
 obtain ⟨E5, jE, o9⟩ := T.jE
 obtain ⟨a3H, wG, xJ⟩ := T.wG
 obtain ⟨a3I, wH, xK⟩ := T.wH
 obtain ⟨a3J, wI, xM⟩ := T.wI
 obtain ⟨a3K, wJ, xN⟩ := T.wJ
 obtain ⟨a3L, wL, xO⟩ := T.wL
 obtain ⟨LJ, qd, rJ⟩ := T.qd
 obtain ⟨a3M, wM, xP⟩ := T.wM
 obtain ⟨a3N, wN, xQ⟩ := T.wN
 obtain ⟨a3O, wO, xR⟩ := T.wO
 obtain ⟨a3P, wQ, xV⟩ := T.wQ
 refine ⟨fa, _, "_law_classes", fd, F, hm, fn_ok F qj fun cdv A outer s H E hg hr => ?_⟩
 unfold wj
 have hu1 := eY hr
 have hu0 := mK hr
 exact bV #[1, qj, cC (cA (ao (bQ cP (cQ T.xE T.xT T.xU) T.cR (by decide +kernel) (ao #[0] (ao (dU jE o9) (aD)))) (ao (bQ cP (cQ T.xE T.xT T.xU) T.cR (by decide +kernel) (ao #[0] (ao (dU qb rH) (aD)))) (ao (bQ cP (cQ T.xE T.xT T.xU) T.cR (by decide +kernel) (ao #[0] (ao (dU wH xK) (aD)))) (aD)))))] <|
  bV #[1, qj, bU d8 d9 #[1] (cC (cA (ao (bQ cP (cQ T.xE T.xT T.xU) T.cR (by decide +kernel) (ao #[0] (ao (dU wG xJ) (aD)))) (ao (bQ cP (cQ T.xE T.xT T.xU) T.cR (by decide +kernel) (ao #[0] (ao (dU wC xF) (aD)))) (ao (bQ cP (cQ T.xE T.xT T.xU) T.cR (by decide +kernel) (ao #[0] (ao (dU wD xG) (aD)))) (aD))))))] <|
  bV #[1, qj, bU d8 d9 #[1] (cC (cA (ao (bQ cP (cQ T.xE T.xT T.xU) T.cR (by decide +kernel) (ao #[0] (ao (dU wF xH) (aD)))) (ao (bQ cP (cQ T.xE T.xT T.xU) T.cR (by decide +kernel) (ao #[0] (ao (dU wM xP) (aD)))) (aD)))))] <|
  bV #[1, qj, bU d8 d9 #[1] (cC (cA (ao (bQ cP (cQ T.xE T.xT T.xU) T.cR (by decide +kernel) (ao #[0] (ao (dU wQ xV) (aD)))) (ao (bQ cP (cQ T.xE T.xT T.xU) T.cR (by decide +kernel) (ao #[0] (ao (dU wN xQ) (aD)))) (aD)))))] <|
  bV #[1, qj, bU d8 d9 #[1] (cC (cA (ao (bQ cP (cQ T.xE T.xT T.xU) T.cR (by decide +kernel) (ao #[0] (ao (dU wO xR) (aD)))) (ao (bQ cP (cQ T.xE T.xT T.xU) T.cR (by decide +kernel) (ao #[0] (ao (dU wI xM) (aD)))) (aD)))))] <|
  fU (gW (bU d8 d9 #[1] (cC (cA (ao (bQ cP (cQ T.xE T.xT T.xU) T.cR (by decide +kernel) (ao #[0] (ao (dU wJ xN) (aD)))) (ao (bQ cP (cQ T.xE T.xT T.xU) T.cR (by decide +kernel) (ao #[0] (ao (dU wL xO) (aD)))) (ao (bQ cP (cQ T.xE T.xT T.xU) T.cR (by decide +kernel) (ao #[0] (ao (dU qd rJ) (aD)))) (aD))))))))
theorem rK : FnScope wk ux (defScope iZ) := nomatch 0
theorem LK {x : Str} {fa : Addr} {fd : FuncData} (T : Txt K mg w) (F : Fun K "_law_bases_right" "_law_bases_right" iZ fa fd) (hm : mg x = some (.ref fa)) (LL : cV P w K mg base 1 "_law_classes" jo uw nZ) : cV P w K mg base 2 x iZ ux kE := by
 obtain ⟨a3Q, wB, xW⟩ := T.wB
 refine ⟨fa, _, "_law_bases_right", fd, F, hm, fn_ok F rK fun cdv A outer s H E hg hr => ?_⟩
 unfold wu
 have hu1 := eY hr
 have hu0 := mK hr
 exact bV #[2, rK, cC (cA (ao (bQ cP (cQ T.xE T.xT T.xU) T.cR (by decide +kernel) (ao #[0] (ao (ju T.JT (by decide +kernel)) (aD)))) (ao (bQ cP (cQ T.xE T.xT T.xU) T.cR (by decide +kernel) (ao #[0] (ao (ju T.rG (by decide +kernel)) (aD)))) (ao (bQ cP (cQ T.xE T.xT T.xU) T.cR (by decide +kernel) (ao #[0] (ao (ju T.uE (by decide +kernel)) (aD)))) (aD)))))] <|
  bV #[2, rK, bU d8 d9 #[2] (cC (cA (ao (bQ cP (cQ T.xE T.xT T.xU) T.cR (by decide +kernel) (ao #[0] (ao (ju T.DB (by decide +kernel)) (aD)))) (ao (bQ cP (cQ T.xE T.xT T.xU) T.cR (by decide +kernel) (ao #[0] (ao (dU wB xW) (aD)))) (aD)))))] <|
  bV (GH (i := 3) (own := [("_law_kind", 4)]) rfl rK.nd rfl rfl (sw_true rfl rfl rfl (by decide +kernel)) (zG (bY (ao (aM) (ao (aM) (ao (aM) (ao (aM) (ao (aM) (aD)))))))) (blkOk_by (N := wk) (sc := defScope iZ) (by decide +kernel)) ⟨fun _ _ _ _ _ => pg_name (i := 4) rK.nd rfl nofun, Gx, fun _ _ _ _ _ => GF pts_nil fun σ H Q h => GJ h, fun _ _ _ _ _ => uP (or_eq hu0) vf #[1] #[4]⟩) <|
  bV (oO (lY (bQ cP (cQ T.xE T.xT T.xU) T.cR (by decide +kernel) (ao #[0] (ao (bY (ao (ju T.JQ (by decide +kernel)) (ao (ju T.JP (by decide +kernel)) (ao (ju T.JR (by decide +kernel)) (ao (ju T.JS (by decide +kernel)) (ao (ju T.JU (by decide +kernel)) (aD))))))) (aD))))) (fU (gW (qp))) (oM)) <|
  fU (gW (G5 (uP (or_eq hu0) vf #[2] #[3]) (G4 (uP (or_eq hu0) vf (bQ (JN rfl) JO T.JY (by decide +kernel) (ao #[1, LL, hg, hr, #[0]] (aD))) (bZ)))))
theorem LN : FnScope Dz uy (defScope jr) := nomatch 0
theorem LQ {x : Str} {fa : Addr} {fd : FuncData} (T : Txt K mg w) (F : Fun K "_law_fields" "_law_fields" jr fa fd) (hm : mg x = some (.ref fa)) : cV P w K mg base 1 x jr uy o7 := by
 obtain ⟨LD, qb, rH⟩ := T.qb
 obtain ⟨E5, jE, o9⟩ := T.jE
 obtain ⟨LJ, qd, rJ⟩ := T.qd
 refine ⟨fa, _, "_law_fields", fd, F, hm, fn_ok F LN fun cdv A outer s H E hg hr => ?_⟩
 unfold wz
 have hu1 := eY hr
 have hu0 := mK hr
 exact bV (oO (lY (bQ cP (cQ T.xE T.xT T.xU) T.cR (by decide +kernel) (ao #[0] (ao (dU jE o9) (aD))))) (fU (gW (cC (cA (ao (rA T.xE T.K8 #[0]) (ao (rA T.xE T.K7 #[0]) (aD))))))) (oM)) <|
  bV (oO (lY (bQ cP (cQ T.xE T.xT T.xU) T.cR (by decide +kernel) (ao #[0] (ao (dU qb rH) (aD))))) (fU (gW (cC (cA (ao (rA T.xE T.K6 #[0]) (aD)))))) (oM)) <|
  fU (gW (uU (lY (bQ cP (cQ T.xE T.xT T.xU) T.cR (by decide +kernel) (ao #[0] (ao (dU qd rJ) (aD))))) (cC (cA (ao (rA T.xE T.JZ #[0]) (aD)))) (cC (cA (ao (rA T.xE T.K9 #[0]) (aD))))))
theorem kJ : FnScope DA uz (defScope iK) := nomatch 0
theorem LU {x : Str} {fa : Addr} {fd : FuncData} (T : Txt K mg w) (F : Fun K "law" "law" iK fa fd) (hm : mg x = some (.ref fa)) (LV : cV P w K mg base 1 "_law_rng" jj uf ug) (E6 : cV P w K mg base 1 "_law_draw" jk uh rF) (LX : cV P w K mg base 3 "_law_made_errors" jm uo nY) (E7 : cV P w K mg base 2 "_law_bases_right" iZ ux kE) (LY : cV P w K mg base 1 "_law_fields" jr uy o7) : cV P w K mg base 4 x iK uz kI := by
 obtain ⟨E5, jE, o9⟩ := T.jE
 obtain ⟨a3R, a3S, a3T, a3U⟩ := T.DH
 refine ⟨fa, _, "law", fd, F, hm, fn_ok F kJ fun cdv A outer s H E hg hr => ?_⟩
 unfold wA
 have hu1 := eY hr
 have hu0 := mK hr
 exact bV (zu (passes_of rfl) rfl (Ih T.JX (ao (bQ (call_max2 rfl) Ag T.DF (by decide +kernel) (ao (bZ) (ao (bQ (call_min2 rfl) HS T.JW (by decide +kernel) (ao (bZ) (ao (bQ Ad Ae T.DE (by decide +kernel) (ao #[0] (aD))) (aD)))) (aD)))) (aD))) #[1, kJ] (bV #[2, kJ, #[2, LV, hg, hr, #[0], #[1]]] <|
  bV #[3, kJ, cC (cA (ao (Fl) (ao (bZ) (ao (qp) (ao (aM) (ao (aM) (ao (bY (aD)) (ao (bY (ao (aM) (ao (bZ) (aD)))) (ao (cC (cA (aD))) (ao (cC (Ig)) (ao (bU op_pow zX (bZ) (bZ)) (ao (Fp un_neg Hz (bZ)) (aD)))))))))))))] <|
  bV (Iw (i := 4) (j := 5) rfl kJ.nd rfl rfl (by decide) rfl rfl (ao (jR #[3] #[2, E6, hg, hr, #[2], bZ]) (ao (jR #[3] #[2, E6, hg, hr, #[2], bZ]) (aD)))) <|
  bV (zu (passes_of rfl) rfl (zG #[2, LX, hg, hr, #[4], #[5]]) (zm (n := 2) rfl (sE #[6, kJ] (sE #[7, kJ] (zj))) (tG (tG (Aq)))) (bV #[8, kJ, uU (lY (bQ cP (cQ T.xE T.xT T.xU) T.cR (by decide +kernel) (ao #[6] (ao (dU jE o9) (aD))))) (cC (cA (ao #[4] (ao #[5] (aD))))) (cC (cA (ao #[4] (aD))))] <|
  fU (oO (FY (FW (uR (HP hu0) HQ (bQ (Aj hg hu1) Ak T.DG (by decide +kernel) (ao #[1, LY, hg, hr, #[6]] (aD))) (bQ (Aj hg hu1) Ak T.DG (by decide +kernel) (ao #[8] (aD)))) (FU (z7 (lY #[2, E7, hg, hr, #[6], #[7]]))))) (fU (gW (qp))) (oM)))) <|
  fU (oO (z7 (lY #[2, E7, hg, hr, JI (Ld T) hg hr (by decide), aM])) (fU (gW (qp))) (oM)))) <|
  fU (gW (qp))
end
end bO
namespace bO
open PySem PySem.Spec PyProof.Rows L2 Mi Rc
def vals : List D := [.non, .int 0, .bl true, .str "", .str "x", .tup [], .tup [.str "", .int 0], .lst [], .dct [], .int 100000000000000000000, .int (-1)]
/-- the classes with one field: the field, the kind -/
def tab : List (Str × Str × Str) := [("InvalidProgram", "reason", "value"), ("InvalidLine", "line", "value"), ("InvalidText", "value", "value"), ("InvalidRow", "value", "value"), ("InvalidAmount", "value", "value"), ("InvalidChoice", "value", "value"), ("InvalidCommand", "value", "value"), ("UnknownBudget", "value", "lookup"), ("UnknownProcedure", "value", "lookup"), ("UnknownTask", "value", "lookup"), ("UnknownScope", "value", "lookup"), ("NotReady", "value", "runtime"), ("NotWaiting", "value", "runtime"), ("TooMany", "limit", "arithmetic"), ("NothingToUndo", "", "runtime")]
def bs (c : Str) : Str := ((tab.lookup c).map (·.2)).getD ""
def ans (c : Str) (d : D) : Option Bool := if aJ.contains c = true then vI xT xU c d else none
section
variable {S : Store} {n : Nat} {c y : Str} {m : Option Nat} {d : D} {ρ : aH}
theorem E8 (h : S[n]? = some (.exo c m)) (hm : mY S m = true) : cG aJ xT xU S [.ref n, d] = (ans c d).map D.bl := by
 unfold cG ans
 simp only [h, hm, true_and]
 split <;> rfl
theorem LZ : ∀ c ∈ aJ, ∀ y ∈ aJ, ans c (.fn y) = some (c == y) := by decide +kernel
theorem M3 : ∀ c ∈ aJ, ans c (.ty "ValueError") = some (bs c == "value") ∧ ans c (.ty "LookupError") = some (bs c == "lookup") ∧ ans c (.ty "RuntimeError") = some (bs c == "runtime") ∧ ans c (.ty "ArithmeticError") = some (bs c == "arithmetic") ∧ ans c (.fn "ExactStopError") = some (bs c == "value") ∧
  ans c (.tup [.ty "KeyError", .ty "IndexError", .ty "NotImplementedError", .ty "OverflowError", .ty "ZeroDivisionError"]) = some false := by decide +kernel
theorem one_of : ∀ c ∈ aJ, (([c == "InvalidProgram", c == "InvalidLine", c == "InvalidText", c == "InvalidRow", c == "InvalidAmount", c == "InvalidChoice", c == "InvalidCommand", c == "UnknownBudget", c == "UnknownTask", c == "UnknownProcedure", c == "UnknownScope", c == "NotReady", c == "NotWaiting", c == "NothingToUndo", c == "TooMany"] : List Bool).map rC.dh).sum = 1 := by decide +kernel
theorem M4 : ∀ y ∈ (["InvalidProgram", "InvalidLine", "InvalidText", "InvalidRow", "InvalidAmount", "InvalidChoice", "InvalidCommand", "UnknownBudget", "UnknownTask", "UnknownProcedure", "UnknownScope", "NotReady", "NotWaiting", "NothingToUndo", "TooMany"] : List Str), y ∈ aJ := by decide +kernel
theorem rM (hc : c ∈ aJ) (h : S[n]? = some (.exo c m)) (hm : mY S m = true) (hy : y ∈ aJ) : cG aJ xT xU S [.ref n, .fn y] = some (.bl (c == y)) := by
 rw [E8 h hm, LZ c hc y hy]; rfl
theorem M5 (hc : c ∈ aJ) (h : S[n]? = some (.exo c m)) (hm : mY S m = true) : nZ [.ref n] S = .ok (.lst ([c == "InvalidProgram", c == "InvalidLine", c == "InvalidText", c == "InvalidRow", c == "InvalidAmount", c == "InvalidChoice", c == "InvalidCommand", c == "UnknownBudget", c == "UnknownTask", c == "UnknownProcedure", c == "UnknownScope", c == "NotReady", c == "NotWaiting", c == "NothingToUndo", c == "TooMany"].map D.bl)) S := by
 have o := fun y hy => rM (y := y) hc h hm (M4 y hy)
 have a1 := o "InvalidProgram" (by simp)
 have a2 := o "InvalidLine" (by simp)
 have a3 := o "InvalidText" (by simp)
 have a4 := o "InvalidRow" (by simp)
 have a5 := o "InvalidAmount" (by simp)
 have a6 := o "InvalidChoice" (by simp)
 have a7 := o "InvalidCommand" (by simp)
 have a8 := o "UnknownBudget" (by simp)
 have a9 := o "UnknownTask" (by simp)
 have b1 := o "UnknownProcedure" (by simp)
 have b2 := o "UnknownScope" (by simp)
 have b3 := o "NotReady" (by simp)
 have b4 := o "NotWaiting" (by simp)
 have b5 := o "NothingToUndo" (by simp)
 have b6 := o "TooMany" (by simp)
 have ad : ∀ S (u v : List D), u.length + v.length ≤ 16777216 → bG S (.lst u) (.lst v) = some (.lst (u ++ v)) := fun _ _ _ h => tL (by rw [sizeLine_eq]; exact h)
 refine al_eq ?_
 unfold nZ wj
 simp! [a1, a2, a3, a4, a5, a6, a7, a8, a9, b1, b2, b3, b4, b5, b6, ad]
theorem M6 : ∀ (a b : Str) S, fM S (.str a) (.str b) = some (.bl (a == b)) := fun a b S => vG
theorem E9 (hc : c ∈ aJ) (h : S[n]? = some (.exo c m)) (hm : mY S m = true) : kE [.ref n, .str (bs c)] S = .ok (.bl true) S := by
 obtain ⟨c1, c2, c3, c4, c5, c6⟩ := M3 c hc
 have at' := fun d => E8 (d := d) h hm
 have a1 := at' (.ty "ValueError")
 have a2 := at' (.ty "LookupError")
 have a3 := at' (.ty "RuntimeError")
 have a4 := at' (.ty "ArithmeticError")
 have a5 := at' (.fn "ExactStopError")
 have a6 := at' (.tup [.ty "KeyError", .ty "IndexError", .ty "NotImplementedError", .ty "OverflowError", .ty "ZeroDivisionError"])
 rw [c1] at a1
 rw [c2] at a2
 rw [c3] at a3
 rw [c4] at a4
 rw [c5] at a5
 rw [c6] at a6
 simp only [Option.map_some] at a1 a2 a3 a4 a5 a6
 have cl := M5 hc h hm
 have ad : ∀ S (u v : List D), u.length + v.length ≤ 16777216 → bG S (.lst u) (.lst v) = some (.lst (u ++ v)) := fun _ _ _ h => tL (by rw [sizeLine_eq]; exact h)
 obtain ⟨b, hb⟩ : ∃ b, b = bs c := ⟨_, rfl⟩
 rw [← hb] at a1 a2 a3 a4 a5 ⊢
 obtain ⟨cls, hcl⟩ : ∃ cls, cls = [c == "InvalidProgram", c == "InvalidLine", c == "InvalidText", c == "InvalidRow", c == "InvalidAmount", c == "InvalidChoice", c == "InvalidCommand", c == "UnknownBudget", c == "UnknownTask", c == "UnknownProcedure", c == "UnknownScope", c == "NotReady", c == "NotWaiting", c == "NothingToUndo", c == "TooMany"] := ⟨_, rfl⟩
 rw [← hcl] at cl
 have bls : ∀ l : List Bool, mZ (l.map D.bl) = some l := fun l => by
  induction l with
  | nil => rfl
  | cons b l ih => simp only [List.map_cons, mZ, ih]
 have sm : rD S [.lst (cls.map D.bl)] = some (.int 1) := by
  unfold rD
  simp only [cH, bls]
  rw [if_pos (by rw [hcl, sizeLine_eq]; simp), hcl, one_of c hc]
 generalize hf : nZ = fc at cl
 refine al_eq ?_
 unfold kE wu
 rw [hf]
 have cm : fW [4] (gR 4) qC (aF fM (aA 1) (aA 4)) [.sh (.ref n), .sh (.str b), .sh (.lst [.bl (b == "value"), .bl (b == "lookup"), .bl (b == "runtime"), .bl (b == "arithmetic"), .bl (b == "value")]), .un, .un] [.str "value", .str "lookup", .str "runtime", .str "arithmetic", .str "value"] [] S = .ok [.bl (b == "value"), .bl (b == "lookup"), .bl (b == "runtime"), .bl (b == "arithmetic"), .bl (b == "value")] S := by
  have := vo (vs := [4]) (g := gR 4) (t := qC) (e := aF fM (aA 1) (aA 4)) (ρ := [.sh (.ref n), .sh (.str b), .sh (.lst [.bl (b == "value"), .bl (b == "lookup"), .bl (b == "runtime"), .bl (b == "arithmetic"), .bl (b == "value")]), .un, .un]) (S := S)
   (p := fun _ => true) (f := fun d => match d with | .str z => .bl (b == z) | _ => .non) [.str "value", .str "lookup", .str "runtime", .str "arithmetic", .str "value"] [] (fun d hd => by
    obtain ⟨z, rfl⟩ : ∃ z, d = .str z := by
     simp only [List.mem_cons, List.not_mem_nil, or_false] at hd
     rcases hd with rfl | rfl | rfl | rfl | rfl <;> exact ⟨_, rfl⟩
    refine ⟨_, rfl, rfl, fun _ => ?_⟩
    show (R.opt (fM S (.str b) (.str z)) S) = _
    rw [M6]; rfl) (by simp [sizeLine_eq])
  rw [this]
  rfl
 have nk : fM S (.lst [.bl (b == "value"), .bl (b == "lookup"), .bl (b == "runtime"), .bl (b == "arithmetic"), .bl (b == "value")]) (.lst [.bl (b == "value"), .bl (b == "lookup"), .bl (b == "runtime"), .bl (b == "arithmetic"), .bl (b == "value")]) = some (.bl true) := IX (by simp [dF, je]) (by simp [iH, jU])
 have e1 : fM S (.int 1) (.int 1) = some (.bl true) := by kernel_rfl
 simp! [a1, a2, a3, a4, a5, a6, ad, dN, cm, w_and, nk, dD, cl, sm, e1]
end
def okR : R D → Bool
 | .ok _ _ => true
 | _ => false
theorem tU {r : R D} (h : okR r = true) : ∃ d S, r = .ok d S := by
 cases r with
 | ok d S => exact ⟨d, S, rfl⟩
 | exc _ _ => cases h
 | stuck => cases h
section
variable {S : Store} {n k : Nat} {c f b : Str} {x y d : D} {ds : List D} {fs : List Str} {msg : EX} {idx : List Nat} {ma mk : AX} {ρ : aH} {Q : D → Store → Prop} {E : cM → Store → Prop} {p : Po}
theorem Ea : (bM c fs msg idx ma mk ρ S).al Q E ↔ (ma ρ S).al (fun us S1 => (mk ρ S1).al (fun ws S2 => (mX c fs msg (pick idx us ws) S2).al Q E) E) E := by
 unfold bM
 simp only [cO]
theorem Eb (h : ds.length = fs.length) (hm : okR (msg (.un :: ds.map Sl.sh) S) = true) : mX c fs msg ds S = .ok (.ref (S.length + 1)) (S ++ [.exd (fs.zip ds).reverse] ++ [.exo c (some S.length)]) := by
 unfold mX
 rw [if_pos h]
 obtain ⟨d, S', e⟩ := tU hm
 rw [e]
def jF (c : Str) (x y : D) : List (Str × D) := if c = "InvalidProgram" then [("path", y), ("reason", x)] else [(((tab.lookup c).map (·.1)).getD "", x)]
/-- an error of the list -/
def Er (S : Store) (x y : D) (d : D) : Prop := ∃ n k c, d = .tup [.ref n, .str (bs c)] ∧ c ∈ aJ ∧ c ≠ "NothingToUndo" ∧ S[n]? = some (.exo c (some k)) ∧ S[k]? = some (.exd (jF c x y))
theorem Er.app {T : Store} (h : Er S x y d) : Er (S ++ T) x y d := by
 obtain ⟨n, k, c, h1, h2, h3, h4, h5⟩ := h
 exact ⟨n, k, c, h1, h2, h3, by rw [List.getElem?_append_left (List.getElem?_eq_some_iff.mp h4).1]; exact h4, by rw [List.getElem?_append_left (List.getElem?_eq_some_iff.mp h5).1]; exact h5⟩
theorem uF (hc : c ∈ aJ) (h0 : c ≠ "NothingToUndo") (hf : jF c x y = fd) : Er (S ++ [.exd fd] ++ [.exo c (some S.length)]) x y (.tup [.ref (S.length + 1), .str (bs c)]) :=
 ⟨S.length + 1, S.length, c, rfl, hc, h0, by rw [List.getElem?_append_right (by simp)]; simp, by rw [List.append_assoc, List.getElem?_append_right (Nat.le_refl _), hf]; simp⟩
def pairE (c f b : Str) (msg : EX) : EX := bL (ak (bH (ak (bM c [f] msg [0] (ak (aA 0) (aq)) (aq)) (ak (mC (.str b)) (aq)))) (ak (bH (ak (bM c [f] msg [0] (aq) (ak (aA 0) (aq))) (ak (mC (.str b)) (aq)))) (aq)))
/-- what a list so far is -/
def Ls (S U : Store) (x y : D) (ds : List D) (m : Nat) : Prop := (∃ T, U = S ++ T) ∧ ds.length = m ∧ ∀ d ∈ ds, Er U x y d
theorem Ec {U : Store} {z : Sl} {m : Nat} (hc : c ∈ aJ) (h0 : c ≠ "NothingToUndo") (hb : b = bs c) (hf : jF c x y = [(f, x)]) (hm : ∀ S, okR (msg [.un, .sh x] S) = true) (h : Ls S U x y ds m) (q : ∀ ds' U', Ls S U' x y (ds ++ ds') (m + 2) → ds'.length = 2 → Q (.lst ds') U') : (pairE c f b msg [.sh x, .sh y, z] U).al Q E := by
 have k1 := fun S : Store => Eb (c := c) (fs := [f]) (ds := [x]) (msg := msg) (S := S) rfl (hm S)
 have z1 : ∀ S : Store, mX c [f] msg [x] S = .ok (.ref (S.length + 1)) (S ++ [.exd [(f, x)]] ++ [.exo c (some S.length)]) := k1
 unfold pairE
 simp! [Ea, z1]
 obtain ⟨⟨T, rfl⟩, h2, h3⟩ := h
 subst hb
 obtain ⟨U2, hU2⟩ : ∃ U2, U2 = S ++ T ++ [.exd [(f, x)]] ++ [.exo c (some (S ++ T).length)] := ⟨_, rfl⟩
 have e1 : Er U2 x y (.tup [.ref ((S ++ T).length + 1), .str (bs c)]) := by rw [hU2]; exact uF hc h0 hf
 have e2 : Er (U2 ++ [.exd [(f, x)]] ++ [.exo c (some U2.length)]) x y (.tup [.ref (U2.length + 1), .str (bs c)]) := uF hc h0 hf
 rw [← hU2]
 refine q _ _ ⟨⟨T ++ [.exd [(f, x)]] ++ [.exo c (some (S ++ T).length)] ++ [.exd [(f, x)]] ++ [.exo c (some U2.length)], by rw [hU2]; simp⟩, by rw [List.length_append, h2]; rfl, fun d hd => ?_⟩ rfl
 rcases List.mem_append.mp hd with hd | hd
 ·rw [List.append_assoc, hU2, List.append_assoc, List.append_assoc]
  exact (h3 d hd).app
 ·simp only [List.mem_cons, List.not_mem_nil, or_false] at hd
  rcases hd with rfl | rfl
  ·rw [List.append_assoc]
   exact e1.app
  ·exact e2
theorem M7 {m : Nat} {U : Store} (hc : c ∈ aJ) (h0 : c ≠ "NothingToUndo") (hb : b = bs c) (hf : jF c x y = [(f, x)]) (hm : ∀ S, okR (msg [.un, .sh x] S) = true) (hl : m ≤ 1000) (h : Ls S U x y ds m) :
  (bR 2 (aF bG (aA 2) (pairE c f b msg)) [.sh x, .sh y, .sh (.lst ds)] U).al (fun ρ U' => ∃ ds', ρ = [.sh x, .sh y, .sh (.lst ds')] ∧ Ls S U' x y ds' (m + 2)) p := by
 have hm' := h.2.1
 simp!
 refine Ec hc h0 hb hf hm h fun ds' U' h' hl' => ?_
 refine ⟨_, tL (by rw [hm', hl', sizeLine_eq]; omega), ?_⟩
 exact ⟨_, rfl, h'⟩
end
theorem M8 : ∀ v ∈ vals, ∀ S, okR (nu [.un, .sh v] S) = true := by
 intro v hv S
 simp only [vals, List.mem_cons, List.not_mem_nil, or_false] at hv
 rcases hv with rfl | rfl | rfl | rfl | rfl | rfl | rfl | rfl | rfl | rfl | rfl <;> kernel_rfl
theorem M9 : ∀ v ∈ vals, ∀ S, okR (nH [.un, .sh v] S) = true := by
 intro v hv S
 simp only [vals, List.mem_cons, List.not_mem_nil, or_false] at hv
 rcases hv with rfl | rfl | rfl | rfl | rfl | rfl | rfl | rfl | rfl | rfl | rfl <;> kernel_rfl
theorem Ma : ∀ v ∈ vals, ∀ S, okR (nA [.un, .sh v] S) = true := by
 intro v hv S
 simp only [vals, List.mem_cons, List.not_mem_nil, or_false] at hv
 rcases hv with rfl | rfl | rfl | rfl | rfl | rfl | rfl | rfl | rfl | rfl | rfl <;> kernel_rfl
theorem Mf : ∀ v ∈ vals, ∀ S, okR (ni [.un, .sh v] S) = true := by
 intro v hv S
 simp only [vals, List.mem_cons, List.not_mem_nil, or_false] at hv
 rcases hv with rfl | rfl | rfl | rfl | rfl | rfl | rfl | rfl | rfl | rfl | rfl <;> kernel_rfl
theorem Mg : ∀ v ∈ vals, ∀ S, okR (nj [.un, .sh v] S) = true := by
 intro v hv S
 simp only [vals, List.mem_cons, List.not_mem_nil, or_false] at hv
 rcases hv with rfl | rfl | rfl | rfl | rfl | rfl | rfl | rfl | rfl | rfl | rfl <;> kernel_rfl
theorem Mh : ∀ v ∈ vals, ∀ S, okR (nq [.un, .sh v] S) = true := by
 intro v hv S
 simp only [vals, List.mem_cons, List.not_mem_nil, or_false] at hv
 rcases hv with rfl | rfl | rfl | rfl | rfl | rfl | rfl | rfl | rfl | rfl | rfl <;> kernel_rfl
theorem Mj : ∀ v ∈ vals, ∀ S, okR (nQ [.un, .sh v] S) = true := by
 intro v hv S
 simp only [vals, List.mem_cons, List.not_mem_nil, or_false] at hv
 rcases hv with rfl | rfl | rfl | rfl | rfl | rfl | rfl | rfl | rfl | rfl | rfl <;> kernel_rfl
theorem Ml : ∀ v ∈ vals, ∀ S, okR (nR [.un, .sh v] S) = true := by
 intro v hv S
 simp only [vals, List.mem_cons, List.not_mem_nil, or_false] at hv
 rcases hv with rfl | rfl | rfl | rfl | rfl | rfl | rfl | rfl | rfl | rfl | rfl <;> kernel_rfl
theorem Mp : ∀ v ∈ vals, ∀ S, okR (nW [.un, .sh v] S) = true := by
 intro v hv S
 simp only [vals, List.mem_cons, List.not_mem_nil, or_false] at hv
 rcases hv with rfl | rfl | rfl | rfl | rfl | rfl | rfl | rfl | rfl | rfl | rfl <;> kernel_rfl
theorem Mq : ∀ v ∈ vals, ∀ S, okR (nU [.un, .sh v] S) = true := by
 intro v hv S
 simp only [vals, List.mem_cons, List.not_mem_nil, or_false] at hv
 rcases hv with rfl | rfl | rfl | rfl | rfl | rfl | rfl | rfl | rfl | rfl | rfl <;> kernel_rfl
theorem Mr : ∀ v ∈ vals, ∀ S, okR (nJ [.un, .sh v] S) = true := by
 intro v hv S
 simp only [vals, List.mem_cons, List.not_mem_nil, or_false] at hv
 rcases hv with rfl | rfl | rfl | rfl | rfl | rfl | rfl | rfl | rfl | rfl | rfl <;> kernel_rfl
theorem Ms : ∀ v ∈ vals, ∀ S, okR (nM [.un, .sh v] S) = true := by
 intro v hv S
 simp only [vals, List.mem_cons, List.not_mem_nil, or_false] at hv
 rcases hv with rfl | rfl | rfl | rfl | rfl | rfl | rfl | rfl | rfl | rfl | rfl <;> kernel_rfl
theorem Mu : ∀ v ∈ vals, ∀ S, okR (nO [.un, .sh v] S) = true := by
 intro v hv S
 simp only [vals, List.mem_cons, List.not_mem_nil, or_false] at hv
 rcases hv with rfl | rfl | rfl | rfl | rfl | rfl | rfl | rfl | rfl | rfl | rfl <;> kernel_rfl
theorem Mv : ∀ v ∈ vals, ∀ u ∈ vals, ∀ S, okR (jD [.un, .sh v, .sh u] S) = true := by
 intro v hv u hu S
 simp only [vals, List.mem_cons, List.not_mem_nil, or_false] at hv hu
 rcases hv with rfl | rfl | rfl | rfl | rfl | rfl | rfl | rfl | rfl | rfl | rfl <;> rcases hu with rfl | rfl | rfl | rfl | rfl | rfl | rfl | rfl | rfl | rfl | rfl <;> kernel_rfl
theorem Mw : ∀ S, okR (rE [.un] S) = true := fun S => by kernel_rfl
def uG : Option D → Bool
 | some (.str _) => true
 | _ => false
theorem Ed {o : Option D} (h : uG o = true) : ∃ X, o = some (.str X) := by
 unfold uG at h
 split at h
 ·exact ⟨_, rfl⟩
 ·cases h
theorem Mx : ∀ v ∈ vals, ∀ S, uG (pq S [.lst [v]]) = true := by
 intro v hv S
 simp only [vals, List.mem_cons, List.not_mem_nil, or_false] at hv
 rcases hv with rfl | rfl | rfl | rfl | rfl | rfl | rfl | rfl | rfl | rfl | rfl <;> kernel_rfl
theorem My : ∀ v ∈ vals, ∀ u ∈ vals, ∀ S, uG (pq S [.lst [v, u]]) = true := by
 intro v hv u hu S
 simp only [vals, List.mem_cons, List.not_mem_nil, or_false] at hv hu
 rcases hv with rfl | rfl | rfl | rfl | rfl | rfl | rfl | rfl | rfl | rfl | rfl <;> rcases hu with rfl | rfl | rfl | rfl | rfl | rfl | rfl | rfl | rfl | rfl | rfl <;> kernel_rfl
section
variable {S U : Store} {n k : Nat} {c f b : Str} {x y d : D} {ds : List D} {Q : D → Store → Prop} {E : cM → Store → Prop}
def fo (c : Str) : Str := ((tab.lookup c).map (·.1)).getD ""
theorem xX (c : Str) (h : c ≠ ("InvalidProgram" : Str)) : jF c x y = [(fo c, x)] := by unfold jF; rw [if_neg h]; rfl
theorem step1 {m : Nat} {msg : EX} {p : Po} (hc : c ∈ aJ) (hn : (c == "InvalidProgram") = false ∧ (c == "NothingToUndo") = false ∧ fo c = f ∧ b = bs c) (hm : ∀ S, okR (msg [.un, .sh x] S) = true) (hl : m ≤ 1000) (h : Ls S U x y ds m) :
  (bR 2 (aF bG (aA 2) (pairE c f b msg)) [.sh x, .sh y, .sh (.lst ds)] U).al (fun ρ U' => ∃ ds', ρ = [.sh x, .sh y, .sh (.lst ds')] ∧ Ls S U' x y ds' (m + 2)) p := by
 obtain ⟨h1, h2, h3, h4⟩ := hn
 refine M7 hc (by simpa using h2) h4 ?_ hm hl h
 rw [xX c (by simpa using h1), h3]
theorem chain {m : Nat} {msg : EX} {N : aH → Store → Prop} {p : Po} {rest : SX} (hc : c ∈ aJ) (hn : (c == "InvalidProgram") = false ∧ (c == "NothingToUndo") = false ∧ fo c = f ∧ b = bs c) (hm : ∀ S, okR (msg [.un, .sh x] S) = true) (hl : m ≤ 1000)
  (hr : ∀ ds U, Ls S U x y ds (m + 2) → (rest [.sh x, .sh y, .sh (.lst ds)] U).al N p) : ∀ ds U, Ls S U x y ds m → (bD (bR 2 (aF bG (aA 2) (pairE c f b msg))) rest [.sh x, .sh y, .sh (.lst ds)] U).al N p := fun ds U h => by
 refine pC _ (step1 hc hn hm hl h) ?_
 rintro _ U' ⟨ds', rfl, h'⟩
 exact hr ds' U' h'
theorem Mz {p : Po} (hx : x ∈ vals) (hy : y ∈ vals) : (bR 2 (bL (ak (bH (ak (bM "InvalidProgram" jC jD [0, 1] (ak (aA 0) (ak (aA 1) (aq))) (aq)) (ak (mC (.str "value")) (aq)))) (ak (bH (ak (bM "InvalidProgram" jC jD [1, 0] (aq) (ak (aA 1) (ak (aA 0) (aq)))) (ak (mC (.str "value")) (aq)))) (aq)))) [.sh x, .sh y, .un] S).al (fun ρ U => ∃ ds, ρ = [.sh x, .sh y, .sh (.lst ds)] ∧ Ls S U x y ds 2) p := by
 have hm := Mv x hx y hy
 have z1 : ∀ S : Store, mX "InvalidProgram" jC jD [x, y] S = .ok (.ref (S.length + 1)) (S ++ [.exd [("path", y), ("reason", x)]] ++ [.exo "InvalidProgram" (some S.length)]) := fun S => Eb (ds := [x, y]) rfl (hm S)
 simp! [Ea, z1]
 obtain ⟨U2, hU2⟩ : ∃ U2, U2 = S ++ [.exd [("path", y), ("reason", x)]] ++ [.exo "InvalidProgram" (some S.length)] := ⟨_, rfl⟩
 have e1 : Er U2 x y (.tup [.ref (S.length + 1), .str (bs "InvalidProgram")]) := by rw [hU2]; exact uF (by decide +kernel) (by decide +kernel) rfl
 have e2 : Er (U2 ++ [.exd [("path", y), ("reason", x)]] ++ [.exo "InvalidProgram" (some U2.length)]) x y (.tup [.ref (U2.length + 1), .str (bs "InvalidProgram")]) := uF (by decide +kernel) (by decide +kernel) rfl
 have eb : bs "InvalidProgram" = "value" := by decide +kernel
 rw [eb] at e1 e2
 rw [← hU2]
 refine ⟨_, rfl, ⟨[.exd [("path", y), ("reason", x)]] ++ [.exo "InvalidProgram" (some S.length)] ++ [.exd [("path", y), ("reason", x)]] ++ [.exo "InvalidProgram" (some U2.length)], by rw [hU2]; simp⟩, rfl, fun d hd => ?_⟩
 simp only [List.mem_cons, List.not_mem_nil, or_false] at hd
 rcases hd with rfl | rfl
 ·rw [List.append_assoc]
  exact e1.app
 ·exact e2
theorem MA (hx : x ∈ vals) (q : ∀ ds U, ds.length = 28 → (∀ d ∈ ds, Er U x y d) → (∃ T, U = S ++ T) → Q (.lst ds) U) {N : aH → Store → Prop} {X : cM → aH → Store → Prop} {B C : aH → Store → Prop} : ∀ ds U, Ls S U x y ds 26 → (cU (aF bG (aA 2) (pairE "TooMany" "limit" "arithmetic" nO)) [.sh x, .sh y, .sh (.lst ds)] U).al N ⟨Q, E, B, C, X⟩ := fun ds U h => by
 have hl := h.2.1
 simp!
 refine Ec (c := "TooMany") (b := "arithmetic") (f := "limit") (by decide +kernel) (by decide +kernel) (by decide +kernel) ?_ (Mu x hx) h fun ds' U' h' hl' => ?_
 ·rw [xX "TooMany" (by decide +kernel), show fo "TooMany" = "limit" by decide +kernel]
 ·refine ⟨_, tL (by rw [hl, hl', sizeLine_eq]; omega), ?_⟩
  exact q _ _ h'.2.1 h'.2.2 h'.1
theorem MB (hx : x ∈ vals) (hy : y ∈ vals) (q : ∀ ds U, ds.length = 28 → (∀ d ∈ ds, Er U x y d) → (∃ T, U = S ++ T) → Q (.lst ds) U) : (nY [x, y] S).al Q E := by
 unfold nY wg
 rw [vA]
 refine pC _ (Mz hx hy) ?_
 rintro _ U ⟨ds, rfl, h⟩
 refine
  (chain (c := "InvalidLine") (f := "line") (b := "value") (msg := nu) (m := 2) (by decide +kernel) (by decide +kernel) (M8 x hx) (by omega)
  (chain (c := "InvalidText") (f := "value") (b := "value") (msg := nH) (m := 4) (by decide +kernel) (by decide +kernel) (M9 x hx) (by omega)
  (chain (c := "InvalidRow") (f := "value") (b := "value") (msg := nA) (m := 6) (by decide +kernel) (by decide +kernel) (Ma x hx) (by omega)
  (chain (c := "InvalidAmount") (f := "value") (b := "value") (msg := ni) (m := 8) (by decide +kernel) (by decide +kernel) (Mf x hx) (by omega)
  (chain (c := "InvalidChoice") (f := "value") (b := "value") (msg := nj) (m := 10) (by decide +kernel) (by decide +kernel) (Mg x hx) (by omega)
  (chain (c := "InvalidCommand") (f := "value") (b := "value") (msg := nq) (m := 12) (by decide +kernel) (by decide +kernel) (Mh x hx) (by omega)
  (chain (c := "UnknownBudget") (f := "value") (b := "lookup") (msg := nQ) (m := 14) (by decide +kernel) (by decide +kernel) (Mj x hx) (by omega)
  (chain (c := "UnknownProcedure") (f := "value") (b := "lookup") (msg := nR) (m := 16) (by decide +kernel) (by decide +kernel) (Ml x hx) (by omega)
  (chain (c := "UnknownTask") (f := "value") (b := "lookup") (msg := nW) (m := 18) (by decide +kernel) (by decide +kernel) (Mp x hx) (by omega)
  (chain (c := "UnknownScope") (f := "value") (b := "lookup") (msg := nU) (m := 20) (by decide +kernel) (by decide +kernel) (Mq x hx) (by omega)
  (chain (c := "NotReady") (f := "value") (b := "runtime") (msg := nJ) (m := 22) (by decide +kernel) (by decide +kernel) (Mr x hx) (by omega)
  (chain (c := "NotWaiting") (f := "value") (b := "runtime") (msg := nM) (m := 24) (by decide +kernel) (by decide +kernel) (Ms x hx) (by omega)
  (MA hx q))))))))))))) ds U h
theorem rN {f : Str} {fs : List (Str × D)} {c : Str} (h1 : S[n]? = some (.exo c (some k))) (h2 : S[k]? = some (.exd fs)) (hc : c ∈ aJ) (hl : fs.lookup f = some d) : jA aJ f (aA 0) [.sh (.ref n)] S = .ok d S := by
 have hc' : aJ.contains c = true := by
  rw [List.contains_iff_exists_mem_beq]
  exact ⟨c, hc, beq_self_eq_true _⟩
 unfold jA
 show (match S[n]? with
  | some (.exo c (some k)) => match S[k]? with
   | some (.exd fs) => if aJ.contains c = true then R.opt (fs.lookup f) S else .stuck
   | _ => .stuck
  | _ => .stuck) = _
 rw [h1]
 show (match S[k]? with
   | some (.exd fs) => if aJ.contains c = true then R.opt (fs.lookup f) S else .stuck
   | _ => .stuck) = _
 rw [h2]
 show (if aJ.contains c = true then R.opt (fs.lookup f) S else .stuck) = _
 rw [if_pos hc', hl]
 rfl
theorem MC : ∀ c ∈ aJ, c ≠ ("InvalidProgram" : Str) → c ≠ ("NothingToUndo" : Str) → fo c = if c = ("InvalidLine" : Str) then ("line" : Str) else if c = ("TooMany" : Str) then ("limit" : Str) else ("value" : Str) := by decide +kernel
theorem MD (hc : c ∈ aJ) (h0 : c ≠ "NothingToUndo") (h1 : S[n]? = some (.exo c (some k))) (h2 : S[k]? = some (.exd (jF c x y))) : o7 [.ref n] S = .ok (.lst (if c = "InvalidProgram" then [x, y] else [x])) S := by
 have hm : mY S (some k) = true := by show (match S[k]? with | some (.exd _) => true | _ => false) = true; rw [h2]
 have a1 := rM (y := "InvalidProgram") hc h1 hm (by decide +kernel)
 have a2 := rM (y := "InvalidLine") hc h1 hm (by decide +kernel)
 have a3 := rM (y := "TooMany") hc h1 hm (by decide +kernel)
 refine al_eq ?_
 unfold o7 wz
 by_cases e1 : c = "InvalidProgram"
 ·rw [if_pos e1]
  have b1 : (c == "InvalidProgram") = true := by rw [e1]; decide +kernel
  have f1 : jF c x y = ([("path", y), ("reason", x)] : List (Str × D)) := by unfold jF; rw [if_pos e1]
  rw [f1] at h2
  have x1 := rN (f := "reason") (d := x) h1 h2 hc (by kernel_rfl)
  have x2 := rN (f := "path") (d := y) h1 h2 hc (by simp [List.lookup])
  simp! [a1, b1, dD, x1, x2]
 ·have b1 : (c == "InvalidProgram") = false := by simpa using e1
  rw [if_neg e1]
  have f1 := xX (x := x) (y := y) c e1
  rw [MC c hc e1 h0] at f1
  by_cases e2 : c = "InvalidLine"
  ·have b2 : (c == "InvalidLine") = true := by rw [e2]; decide +kernel
   rw [if_pos e2] at f1
   rw [f1] at h2
   have x1 := rN (f := "line") (d := x) h1 h2 hc (by simp [List.lookup])
   simp! [a1, b1, a2, b2, dD, x1]
  ·have b2 : (c == "InvalidLine") = false := by simpa using e2
   rw [if_neg e2] at f1
   by_cases e3 : c = "TooMany"
   ·have b3 : (c == "TooMany") = true := by rw [e3]; decide +kernel
    rw [if_pos e3] at f1
    rw [f1] at h2
    have x1 := rN (f := "limit") (d := x) h1 h2 hc (by simp [List.lookup])
    simp! [a1, b1, a2, b2, a3, b3, dD, x1]
   ·have b3 : (c == "TooMany") = false := by simpa using e3
    rw [if_neg e3] at f1
    rw [f1] at h2
    have x1 := rN (f := "value") (d := x) h1 h2 hc (by simp [List.lookup])
    simp! [a1, b1, a2, b2, a3, b3, dD, x1]
theorem ME {ρ : aH} : rB "NothingToUndo" rE ρ S = .ok (.ref S.length) (S ++ [.exo "NothingToUndo" none]) := by
 unfold rB
 obtain ⟨d, S', e⟩ := tU (Mw S)
 rw [e]
theorem MF (ns : List Int) (hn : ns.length ≤ 63) : (kI [.lst (cI ns)] []).al (fun d _ => d = .bl true) fun _ _ => False := by
 have hl : (cI ns).length = ns.length := List.length_map ..
 unfold kI wA
 generalize hf1 : o7 = ff
 generalize hf2 : kE = fb
 generalize hf3 : nY = fm
 simp! [IL (show 0 ≤ max (1 : Int) (min 4 ((cI ns).length : Int)) ∧ max (1 : Int) (min 4 ((cI ns).length : Int)) < 2 ^ 62 by omega)]
 refine BD (fun i ρ U => ∃ x1 x2 x3 x4 x5 x6 x7 x8, ρ = [.sh (.lst (cI ns)), x1, x2, x3, x4, x5, x6, x7, x8]) ⟨_, _, _, _, _, _, _, _, rfl⟩ ?_ ?_
 ·rintro i d ρ U hd ⟨x1, x2, x3, x4, x5, x6, x7, x8, rfl⟩
  obtain ⟨rfl, hi⟩ := IQ hd
  refine ⟨_, rfl, ?_⟩
  have e0 : (0 : Int) + (i : Int) = (i : Int) := by omega
  have pw : ∀ S, mD S (.int 10) (.int 20) = some (.int 100000000000000000000) := fun S => by kernel_rfl
  have ng : ∀ S, qG S (.int 1) = some (.int (-1)) := fun S => by kernel_rfl
  refine pC (fun ρ V => jx V U.length ∧ ∃ x3 x4 x5 x6 x7 x8, ρ = [.sh (.lst (cI ns)), .sh (.int (i : Int)), .sh (.ref U.length), x3, x4, x5, x6, x7, x8]) ?_ ?_
  ·simp! [e0]
   refine J5 (k := i) hn (by omega) fun S1 hS1 => ?_
   exact ⟨hS1.at, _, _, _, _, _, _, rfl⟩
  rintro _ V ⟨hV, x3, x4, x5, x6, x7, x8, rfl⟩
  obtain ⟨g, hg⟩ : ∃ g, g = U.length := ⟨_, rfl⟩
  rw [← hg] at hV ⊢
  refine pC (fun ρ W => V = W ∧ ∃ x4 x5 x6 x7 x8, ρ = [.sh (.lst (cI ns)), .sh (.int (i : Int)), .sh (.ref g), .sh (.lst vals), x4, x5, x6, x7, x8]) ?_ ?_
  ·simp! [vp, pw, ng]
   exact ⟨_, _, _, _, _, rfl⟩
  rintro _ _ ⟨rfl, x4, x5, x6, x7, x8, rfl⟩
  have xY : ∀ (t : Int), 0 ≤ t → t < 11 → ∃ v ∈ vals, ∀ S, cW S (.lst vals) (.int t) = some v := fun t t0 t1 => by
   obtain ⟨m, rfl⟩ : ∃ m : Nat, t = (m : Int) := ⟨t.toNat, by omega⟩
   have hm : m < vals.length := by show m < 11; omega
   refine ⟨vals[m], List.getElem_mem hm, fun S => ?_⟩
   rw [vH, IY hm, List.getElem?_eq_getElem hm]
  obtain ⟨vl, hvl⟩ : ∃ vl, vl = D.lst vals := ⟨_, rfl⟩
  rw [← hvl] at xY ⊢
  refine pC (fun ρ W => ∃ x ∈ vals, ∃ y ∈ vals, ∃ x6 x7 x8, ρ = [.sh (.lst (cI ns)), .sh (.int (i : Int)), .sh (.ref g), .sh vl, .sh x, .sh y, x6, x7, x8]) ?_ ?_
  ·simp!
   refine BE (CN hV) (by decide) (by decide) fun t S1 t0 t1 r1 => ?_
   obtain ⟨x, hx, ix⟩ := xY t t0 t1
   refine ⟨x, ix _, ?_⟩
   refine BE (CN r1.at) (by decide) (by decide) fun t' S2 t0' t1' r2 => ?_
   obtain ⟨y, hy, iy⟩ := xY t' t0' t1'
   refine ⟨y, iy _, ?_⟩
   exact ⟨x, hx, y, hy, _, _, _, rfl⟩
  rintro _ W ⟨x, hx, y, hy, x6, x7, x8, rfl⟩
  refine pC (fun ρ W => ∃ x6 x7 x8, ρ = [.sh (.lst (cI ns)), .sh (.int (i : Int)), .sh (.ref g), .sh vl, .sh x, .sh y, x6, x7, x8]) ?_ ?_
  ·simp!
   rw [← hf3]
   refine MB hx hy fun ds W2 hl2 hd2 _ => ?_
   refine ⟨_, rfl, ?_⟩
   refine BD (fun j ρ V => V = W2 ∧ ∃ x6 x7 x8, ρ = [.sh (.lst (cI ns)), .sh (.int (i : Int)), .sh (.ref g), .sh vl, .sh x, .sh y, x6, x7, x8]) ⟨rfl, _, _, _, rfl⟩ ?_ ?_
   ·rintro j d ρ V hd ⟨rfl, y6, y7, y8, rfl⟩
    obtain ⟨n, k, c, rfl, hc, h0, h1, h2⟩ := hd2 d (List.mem_of_getElem? hd)
    have hm : mY V (some k) = true := by show (match V[k]? with | some (.exd _) => true | _ => false) = true; rw [h2]
    have a1 := rM (y := "InvalidProgram") hc h1 hm (by decide +kernel)
    have f1 := MD hc h0 h1 h2
    have f2 := E9 hc h1 hm
    rw [hf1] at f1
    rw [hf2] at f2
    have gu : m7 (gU (gR 6) (gU (gR 7) lZ)) (.tup [.ref n, .str (bs c)]) [.sh (.lst (cI ns)), .sh (.int (i : Int)), .sh (.ref g), .sh vl, .sh x, .sh y, y6, y7, y8] V = some ([.sh (.lst (cI ns)), .sh (.int (i : Int)), .sh (.ref g), .sh vl, .sh x, .sh y, .sh (.ref n), .sh (.str (bs c)), y8], V) := rfl
    refine ⟨_, gu, ?_⟩
    by_cases e1 : c = "InvalidProgram"
    ·have b1 : (c == "InvalidProgram") = true := by rw [e1]; decide +kernel
     rw [if_pos e1] at f1
     obtain ⟨X, hX⟩ := Ed (My x hx y hy V)
     have eX : (X == X) = true := beq_self_eq_true _
     simp! [a1, b1, dD, f1, hX, eX, f2]
     exact ⟨_, _, _, rfl⟩
    ·have b1 : (c == "InvalidProgram") = false := by simpa using e1
     rw [if_neg e1] at f1
     obtain ⟨X, hX⟩ := Ed (Mx x hx V)
     have eX : (X == X) = true := beq_self_eq_true _
     simp! [a1, b1, dD, f1, hX, eX, f2]
     exact ⟨_, _, _, rfl⟩
   ·rintro ρ V ⟨rfl, y6, y7, y8, rfl⟩
    exact ⟨_, _, _, rfl⟩
  rintro _ W3 ⟨y6, y7, y8, rfl⟩
  have nx := fun ρ => ME (S := W3) (ρ := ρ)
  have b0 := E9 (c := "NothingToUndo") (n := W3.length) (m := none) (S := W3 ++ [.exo "NothingToUndo" none]) (by decide +kernel) (by simp) rfl
  rw [hf2, show bs "NothingToUndo" = "runtime" by decide +kernel] at b0
  simp! [nx, b0, dD]
  exact ⟨_, _, _, _, _, _, _, _, rfl⟩
 ·rintro ρ U ⟨x1, x2, x3, x4, x5, x6, x7, x8, rfl⟩
  simp!
theorem MG (ns : List Int) (hn : ns.length ≤ 63) (_ : ∀ z ∈ ns, Builtin.Int.intBits z ≤ 1048576) : ∃ S, kI [.lst (cI ns)] [] = .ok (.bl true) S := by
 have h := MF ns hn
 cases e : kI [.lst (cI ns)] [] with
 | ok d S => rw [e] at h; exact ⟨S, by rw [show d = .bl true from h]⟩
 | exc _ _ => rw [e] at h; exact h.elim
 | stuck => rw [e] at h; exact h.elim
end
end bO
namespace bO
open PySem PySem.Spec PyProof.Rows L2 Mi
theorem all_mk {w : World} {P : Program} {K : PySem.W.Frag} {h : Heap} {mg : Str → Option Value} {fa : Addr} (X : K.In h) (c : lg ig ie hTb w K) (G : h.Ns mainGlobals mg) (hfa : mg "law" = some (.ref fa))
  : ∃ fd : FuncData, (∀ (s : Shared) (v : Value), BindsTo s fd ⟨[v], []⟩ [("_law_script", v)]) ∧ ∀ base : Heap, K.In base → base.Ns mainGlobals mg → bJ P w K mg base 4 fa fd uz (fu ⟨K, mg, w, []⟩ 1 kI) := by
 obtain ⟨dG, dH, dI, dW, dX, dY, dZ, eE, eG, MH, MI, MJ⟩ := c.fn (d := yd) 0 rfl
 obtain ⟨dG, dH, dI, dW, dX, dY, dZ, eE, eG, MK, ML, MM⟩ := c.fn (d := hD1) 1 rfl
 obtain ⟨dG, dH, dI, dW, dX, dY, dZ, eE, eG, MN, MO, MP⟩ := c.fn (d := hD2) 2 rfl
 obtain ⟨dG, dH, dI, dW, dX, dY, dZ, eE, eG, MQ, MS, MT⟩ := c.fn (d := yg) 3 rfl
 obtain ⟨dG, dH, dI, dW, dX, dY, dZ, eE, eG, MU, MV, MX⟩ := c.fn (d := yh) 4 rfl
 obtain ⟨dG, dH, dI, dW, dX, dY, dZ, eE, eG, MY, MZ, N5⟩ := c.fn (d := yj) 5 rfl
 obtain ⟨dG, dH, dI, N6, N7, N8, Nb, Nf, Nh, Nk, Nm, Np⟩ := c.fn (d := yq) 6 rfl
 obtain ⟨dG, dH, dI, dW, dX, dY, dZ, eE, eG, Nq, Nr, Nt⟩ := c.fn (d := yr) 7 rfl
 obtain ⟨dG, dH, dI, dW, dX, dY, dZ, eE, eG, Nu, Nv, Ny⟩ := c.fn (d := yt) 8 rfl
 obtain ⟨dG, dH, dI, dW, dX, dY, dZ, eE, eG, Nz, NB, ND⟩ := c.fn (d := yu) 9 rfl
 obtain ⟨dG, dH, dI, dW, dX, dY, dZ, eE, eG, NK, NN, NP⟩ := c.fn (d := hD10) 10 rfl
 obtain ⟨dG, dH, dI, dW, dX, dY, dZ, eE, eG, NQ, NS, NT⟩ := c.fn (d := hD11) 11 rfl
 obtain ⟨dG, dH, dI, dW, dX, dY, dZ, eE, eG, NU, NV, NW⟩ := c.fn (d := yw) 12 rfl
 obtain ⟨dG, dH, dI, dW, dX, dY, dZ, eE, eG, NY, NZ, O2⟩ := c.fn (d := yx) 13 rfl
 obtain ⟨dG, dH, dI, dW, dX, dY, dZ, eE, eG, O3, O4, O5⟩ := c.fn (d := yC) 14 rfl
 obtain ⟨dG, dH, dI, dW, dX, dY, dZ, eE, eG, O6, O7, O8⟩ := c.fn (d := yD) 15 rfl
 obtain ⟨dG, dH, dI, dW, dX, dY, dZ, eE, eG, O9, Oa, Oc⟩ := c.fn (d := yE) 16 rfl
 obtain ⟨dG, dH, dI, dW, dX, dY, dZ, eE, eG, Od, Oe, Og⟩ := c.fn (d := hD17) 17 rfl
 obtain ⟨dG, dH, dI, dW, dX, dY, dZ, eE, eG, Oh, Oi, Oj⟩ := c.fn (d := yF) 18 rfl
 obtain ⟨dG, dH, dI, dW, dX, dY, dZ, eE, eG, Ol, Om, Oo⟩ := c.fn (d := yG) 19 rfl
 obtain ⟨dG, dH, dI, dW, dX, dY, dZ, eE, eG, Oq, Ot, Ou⟩ := c.fn (d := yH) 20 rfl
 obtain ⟨dG, dH, dI, dW, dX, dY, dZ, eE, eG, Ov, Ow, Ox⟩ := c.fn (d := yI) 21 rfl
 have a0 := (He.eqO_ok (c.ck 0))
 have a1 := (He.eqO_ok (c.ck 1))
 have a2 := (He.eqO_ok (c.ck 2))
 have a3 := (He.eqO_ok (c.ck 3))
 have a4 := (He.eqO_ok (c.ck 4))
 have a5 := (He.eqO_ok (c.ck 5))
 have a6 := (He.eqO_ok (c.ck 6))
 have l0 := MH
 have c0 := MI
 have k0 := MJ
 have l1 := MK
 have c1 := ML
 have k1 := MM
 have l2 := MN
 have c2 := MO
 have k2 := MP
 have l3 := MQ
 have c3 := MS
 have k3 := MT
 have l4 := MU
 have c4 := MV
 have k4 := MX
 have l5 := MY
 have c5 := MZ
 have k5 := N5
 have l6 := Nk
 have c6 := Nm
 have k6 := Np
 have Oz := (He.eqO_ok (c.ck 7))
 have OA := (He.eqO_ok (c.ck 8))
 have OB := (He.eqO_ok (c.ck 9))
 have OC := (He.eqO_ok (c.ck 10))
 have OD := (He.eqO_ok (c.ck 11))
 have OG := (He.eqO_ok (c.ck 12))
 have OH := (He.eqO_ok (c.ck 13))
 have OI := (He.eqO_ok (c.ck 14))
 have OJ := (He.eqO_ok (c.ck 15))
 have OL := (He.eqO_ok (c.ck 16))
 have OM := (He.eqO_ok (c.ck 17))
 have OO := (He.eqO_ok (c.ck 18))
 have OQ := (He.eqO_ok (c.ck 19))
 have OS := (He.eqO_ok (c.ck 20))
 have OT := (He.eqO_ok (c.ck 21))
 have OU := (He.eqO_ok (c.ck 22))
 have OV := (He.eqO_ok (c.ck 23))
 have OW := (He.eqO_ok (c.ck 24))
 have fJ := (He.eqO_ok (c.ck 25))
 have aO := (He.eqO_ok (c.ck 26))
 have aP := (He.eqO_ok (c.ck 27))
 have aQ := (He.eqO_ok (c.ck 28))
 have aR := (He.eqO_ok (c.ck 29))
 have aU := (He.eqO_ok (c.ck 30))
 have aV := (He.eqO_ok (c.ck 31))
 have aW := (He.eqO_ok (c.ck 32))
 have aX := (He.eqO_ok (c.ck 33))
 have aY := (He.eqO_ok (c.ck 34))
 have aZ := (He.eqO_ok (c.ck 35))
 have bf := (He.eqO_ok (c.ck 36))
 have bh := (He.eqO_ok (c.ck 37))
 have bu := (He.eqO_ok (c.ck 38))
 have bA := (He.eqO_ok (c.ck 39))
 have bB := (He.eqO_ok (c.ck 40))
 have xW := (c.ck 41)
 have xF := (c.ck 42)
 have xG := (c.ck 43)
 have xH := (c.ck 44)
 have rH := (c.ck 45)
 have o9 := (c.ck 46)
 have xJ := (c.ck 47)
 have xK := (c.ck 48)
 have xM := (c.ck 49)
 have xN := (c.ck 50)
 have xO := (c.ck 51)
 have rJ := (c.ck 52)
 have xP := (c.ck 53)
 have xQ := (c.ck 54)
 have xR := (c.ck 55)
 have xV := (c.ck 56)
 have OY := (He.eqO_ok (c.ck 57))
 have OZ := (mW (c.ck 59) (c.ck 58))
 have Pa := (fO (c.ck 60))
 have Pb := (He.eqO_ok (c.ck 61))
 have Pg := Nq
 have Ph := Nr
 have Pj := Nt
 have Pk := (g8 (c.ck 62))
 have Pn := (He.eqO_ok (c.ck 63))
 have Pq := (mW (c.ck 65) (c.ck 64))
 have Pr := (fO (c.ck 66))
 have Pu := (He.eqO_ok (c.ck 67))
 have Px := Nu
 have Py := Nv
 have PD := Ny
 have PL := (g8 (c.ck 68))
 have PR := (He.eqO_ok (c.ck 69))
 have PU := (mW (c.ck 71) (c.ck 70))
 have PY := (fO (c.ck 72))
 have PZ := (He.eqO_ok (c.ck 73))
 have Q5 := Nz
 have Q6 := NB
 have Q7 := ND
 have Q8 := (g8 (c.ck 74))
 have Q9 := (He.eqO_ok (c.ck 75))
 have Qa := (mW (c.ck 77) (c.ck 76))
 have Qc := (fO (c.ck 78))
 have Qe := (He.eqO_ok (c.ck 79))
 have Qg := NK
 have Qh := NN
 have Qi := NP
 have Ql := (g8 (c.ck 80))
 have Qm := (He.eqO_ok (c.ck 81))
 have Qn := (mW (c.ck 83) (c.ck 82))
 have Qo := (fO (c.ck 84))
 have Qp := (He.eqO_ok (c.ck 85))
 have Qq := (He.eqO_ok (c.ck 86))
 have Qs := NQ
 have Qt := NS
 have Qu := NT
 have Qv := (g8 (c.ck 87))
 have Qw := (He.eqO_ok (c.ck 88))
 have Qx := (mW (c.ck 90) (c.ck 89))
 have Qy := (fO (c.ck 91))
 have Qz := (He.eqO_ok (c.ck 92))
 have QA := NU
 have QC := NV
 have QD := NW
 have QE := (g8 (c.ck 93))
 have QF := (He.eqO_ok (c.ck 94))
 have QG := (mW (c.ck 96) (c.ck 95))
 have QH := (fO (c.ck 97))
 have QI := (He.eqO_ok (c.ck 98))
 have QJ := NY
 have QK := NZ
 have QM := O2
 have QN := (g8 (c.ck 99))
 have QS := (He.eqO_ok (c.ck 100))
 have QT := (kh (c.ck 102) (c.ck 101))
 have QU := (fO (c.ck 103))
 have QV := (He.eqO_ok (c.ck 104))
 have QW := O3
 have QX := O4
 have QY := O5
 have QZ := (g8 (c.ck 105))
 have R3 := (He.eqO_ok (c.ck 106))
 have R4 := (kh (c.ck 108) (c.ck 107))
 have R5 := (fO (c.ck 109))
 have R6 := (He.eqO_ok (c.ck 110))
 have R7 := O6
 have R8 := O7
 have R9 := O8
 have Ra := (g8 (c.ck 111))
 have Rb := (He.eqO_ok (c.ck 112))
 have Rf := (kh (c.ck 114) (c.ck 113))
 have Rg := (fO (c.ck 115))
 have Rh := O9
 have Ri := Oa
 have Rj := Oc
 have Rk := (g8 (c.ck 116))
 have Rl := (He.eqO_ok (c.ck 117))
 have Rm := (kh (c.ck 119) (c.ck 118))
 have Ro := (fO (c.ck 120))
 have Rp := (He.eqO_ok (c.ck 121))
 have Rq := Od
 have Rr := Oe
 have Ru := Og
 have Rv := (g8 (c.ck 122))
 have Rw := (He.eqO_ok (c.ck 123))
 have Rx := (kh (c.ck 125) (c.ck 124))
 have Ry := (fO (c.ck 126))
 have Rz := (He.eqO_ok (c.ck 127))
 have RA := Oh
 have RB := Oi
 have RE := Oj
 have RG := (g8 (c.ck 128))
 have RH := (He.eqO_ok (c.ck 129))
 have RJ := (kh (c.ck 131) (c.ck 130))
 have RK := (fO (c.ck 132))
 have RL := (He.eqO_ok (c.ck 133))
 have RM := Ol
 have RN := Om
 have RO := Oo
 have RP := (g8 (c.ck 134))
 have RQ := (He.eqO_ok (c.ck 135))
 have RW := (kh (c.ck 137) (c.ck 136))
 have RX := (fO (c.ck 138))
 have RY := (He.eqO_ok (c.ck 139))
 have S7 := Oq
 have S8 := Ot
 have S9 := Ou
 have Sd := (g8 (c.ck 140))
 have Sh := (He.eqO_ok (c.ck 141))
 have Sq := (kh (c.ck 143) (c.ck 142))
 have Ss := (fO (c.ck 144))
 have Sv := (He.eqO_ok (c.ck 145))
 have Sw := Ov
 have Sy := Ow
 have SA := Ox
 have SE := (g8 (c.ck 146))
 have SG := (Jr (c.ck 147))
 have SH := (aj (c.ck 148))
 have SJ := (aj (c.ck 149))
 have SN := (aj (c.ck 150))
 have SV := (aj (c.ck 151))
 have SW := (aj (c.ck 152))
 have SY := (aj (c.ck 153))
 have T5 := (aj (c.ck 154))
 have T6 := (aj (c.ck 155))
 have T7 := (aj (c.ck 156))
 have T8 := (aj (c.ck 157))
 have T9 := (aj (c.ck 158))
 have Tc := (aj (c.ck 159))
 have Td := (aj (c.ck 160))
 have Tf := (aj (c.ck 161))
 have Tg := (aj (c.ck 162))
 have Tj := (aj (c.ck 163))
 have Tn := (aj (c.ck 164))
 have To := (aj (c.ck 165))
 have Tp := (aj (c.ck 166))
 have Tq := (aj (c.ck 167))
 have Tt := (aj (c.ck 168))
 have Tv := (aj (c.ck 169))
 have Tw := (aj (c.ck 170))
 have Tz := (aj (c.ck 171))
 have TF := (aj (c.ck 172))
 have TH := (aj (c.ck 173))
 have TJ := (aj (c.ck 174))
 have TN := (aj (c.ck 175))
 have TQ := (aj (c.ck 176))
 have TR := (aj (c.ck 177))
 have TU := (aj (c.ck 178))
 have TV := (aj (c.ck 179))
 have TX := (aj (c.ck 180))
 have TY := (aj (c.ck 181))
 have U0 := (aj (c.ck 182))
 have U3 := (aj (c.ck 183))
 have U4 := (aj (c.ck 184))
 have U5 := (aj (c.ck 185))
 have U6 := (aj (c.ck 186))
 have U7 := (aj (c.ck 187))
 have U8 := (aj (c.ck 188))
 have U9 := (aj (c.ck 189))
 have Ua := (aj (c.ck 190))
 have Ub := (aj (c.ck 191))
 have Uc := (aj (c.ck 192))
 have Ud := (aj (c.ck 193))
 have Ue := (aj (c.ck 194))
 have Ug := (aj (c.ck 195))
 have Uh := (aj (c.ck 196))
 have Ui := (aj (c.ck 197))
 have Uj := (aj (c.ck 198))
 have Uk := (aj (c.ck 199))
 have Ul := (aj (c.ck 200))
 have Um := (aj (c.ck 201))
 have Uo := (aj (c.ck 202))
 have Uq := (aj (c.ck 203))
 have Ur := (aj (c.ck 204))
 have Us := (aj (c.ck 205))
 have Ut := (aj (c.ck 206))
 have Uu := (aj (c.ck 207))
 have Uv := (aj (c.ck 208))
 have Uw := (aj (c.ck 209))
 have Ux := (aj (c.ck 210))
 have Uy := (aj (c.ck 211))
 have Uz := (aj (c.ck 212))
 have UA := (aj (c.ck 213))
 have UC := (aj (c.ck 214))
 have UD := (aj (c.ck 215))
 have UE := (aj (c.ck 216))
 have UG := (aj (c.ck 217))
 have UH := (aj (c.ck 218))
 have UI := (aj (c.ck 219))
 have UJ := (aj (c.ck 220))
 have UK := (aj (c.ck 221))
 have UL := (aj (c.ck 222))
 have UM := (aj (c.ck 223))
 have UN := (aj (c.ck 224))
 have UO := (aj (c.ck 225))
 have UP := (aj (c.ck 226))
 have UQ := (aj (c.ck 227))
 have UR := (aj (c.ck 228))
 have UT := (aj (c.ck 229))
 have UU := (aj (c.ck 230))
 have UW := (aj (c.ck 231))
 have UX := (aj (c.ck 232))
 have UY := (aj (c.ck 233))
 have UZ := (aj (c.ck 234))
 have V1 := (aj (c.ck 235))
 have V2 := (aj (c.ck 236))
 have V3 := (aj (c.ck 237))
 have V4 := (aj (c.ck 238))
 have V5 := (aj (c.ck 239))
 have V6 := (aj (c.ck 240))
 have V7 := (aj (c.ck 241))
 have V8 := (aj (c.ck 242))
 have V9 := (aj (c.ck 243))
 have Va := (aj (c.ck 244))
 have Vb := (aj (c.ck 245))
 have Vc := (aj (c.ck 246))
 have Vd := (aj (c.ck 247))
 have Ve := (aj (c.ck 248))
 have Vf := (aj (c.ck 249))
 have Vg := (aj (c.ck 250))
 have Vh := (aj (c.ck 251))
 have Vi := (aj (c.ck 252))
 have Vj := (aj (c.ck 253))
 have Vk := (aj (c.ck 254))
 have Vl := (aj (c.ck 255))
 have Vm := (aj (c.ck 256))
 have Vn := (aj (c.ck 257))
 have Vo := (aj (c.ck 258))
 have Vp := (aj (c.ck 259))
 have Vq := (aj (c.ck 260))
 have Vr := (aj (c.ck 261))
 have Vs := (aj (c.ck 262))
 have Vt := (aj (c.ck 263))
 have Vu := (aj (c.ck 264))
 have Vv := (aj (c.ck 265))
 have Vw := (aj (c.ck 266))
 have Vx := (aj (c.ck 267))
 have Vy := (aj (c.ck 268))
 have Vz := (aj (c.ck 269))
 have VA := (aj (c.ck 270))
 have VB := (aj (c.ck 271))
 have VC := (aj (c.ck 272))
 have VD := (aj (c.ck 273))
 have VE := (aj (c.ck 274))
 have VF := (aj (c.ck 275))
 have VG := (aj (c.ck 276))
 have VH := (aj (c.ck 277))
 have VI := (aj (c.ck 278))
 have VJ := (aj (c.ck 279))
 have VL := (aj (c.ck 280))
 have VM := (aj (c.ck 281))
 have VN := (aj (c.ck 282))
 have VO := (aj (c.ck 283))
 have VP := (aj (c.ck 284))
 have VQ := (aj (c.ck 285))
 have VR := (aj (c.ck 286))
 have VS := (aj (c.ck 287))
 have VU := (aj (c.ck 288))
 have VX := (aj (c.ck 289))
 have VY := (aj (c.ck 290))
 have VZ := (aj (c.ck 291))
 have W4 := (aj (c.ck 292))
 have W6 := (aj (c.ck 293))
 have W7 := (aj (c.ck 294))
 have W8 := (aj (c.ck 295))
 have W9 := (aj (c.ck 296))
 have Wb := (aj (c.ck 297))
 have Wc := (aj (c.ck 298))
 have Wd := (aj (c.ck 299))
 have Wf := (aj (c.ck 300))
 have Wg := (aj (c.ck 301))
 have Wh := (aj (c.ck 302))
 have Wi := (aj (c.ck 303))
 have Wj := (aj (c.ck 304))
 have Wk := (aj (c.ck 305))
 have Wl := (aj (c.ck 306))
 have Wm := (aj (c.ck 307))
 have Wn := (aj (c.ck 308))
 have Wo := (aj (c.ck 309))
 have Wq := (aj (c.ck 310))
 have Wr := (aj (c.ck 311))
 have Ws := (aj (c.ck 312))
 have Wt := (aj (c.ck 313))
 have Wu := (aj (c.ck 314))
 have Wv := (aj (c.ck 315))
 have Ww := (aj (c.ck 316))
 have Wx := (aj (c.ck 317))
 have Wy := (aj (c.ck 318))
 have Wz := (aj (c.ck 319))
 have WB := (aj (c.ck 320))
 have WC := (aj (c.ck 321))
 have WD := (aj (c.ck 322))
 have WG := (aj (c.ck 323))
 have WH := (aj (c.ck 324))
 have WK := (aj (c.ck 325))
 have WL := (aj (c.ck 326))
 have WM := (aj (c.ck 327))
 have WN := (aj (c.ck 328))
 have WO := (aj (c.ck 329))
 have WQ := (aj (c.ck 330))
 have WR := (aj (c.ck 331))
 have WT := (aj (c.ck 332))
 have WU := (aj (c.ck 333))
 have WV := (aj (c.ck 334))
 have WW := (aj (c.ck 335))
 have WY := (aj (c.ck 336))
 have WZ := (aj (c.ck 337))
 have X3 := (aj (c.ck 338))
 have X4 := (aj (c.ck 339))
 have X5 := (aj (c.ck 340))
 have X6 := (aj (c.ck 341))
 have X7 := (aj (c.ck 342))
 have X8 := (aj (c.ck 343))
 have Xa := (aj (c.ck 344))
 have Xb := (aj (c.ck 345))
 have Xc := (aj (c.ck 346))
 have Xd := (aj (c.ck 347))
 have Xe := (aj (c.ck 348))
 have Xf := (aj (c.ck 349))
 have Xg := (aj (c.ck 350))
 have Xh := (aj (c.ck 351))
 have Xi := (aj (c.ck 352))
 have Xj := (aj (c.ck 353))
 have Xk := (aj (c.ck 354))
 have Xl := (aj (c.ck 355))
 have Xm := (aj (c.ck 356))
 have Xn := (aj (c.ck 357))
 have Xo := (aj (c.ck 358))
 have Xp := (aj (c.ck 359))
 have Xq := (aj (c.ck 360))
 have Xr := (aj (c.ck 361))
 have Xu := (aj (c.ck 362))
 have Xv := (aj (c.ck 363))
 have Xw := (aj (c.ck 364))
 have Xx := (aj (c.ck 365))
 have Xy := (aj (c.ck 366))
 have Xz := (aj (c.ck 367))
 have XA := (aj (c.ck 368))
 have XC := (aj (c.ck 369))
 have XD := (aj (c.ck 370))
 have XF := (aj (c.ck 371))
 have XG := (aj (c.ck 372))
 have XH := (aj (c.ck 373))
 have XI := (aj (c.ck 374))
 have XJ := (aj (c.ck 375))
 have XM := (aj (c.ck 376))
 have XN := (aj (c.ck 377))
 have XO := (aj (c.ck 378))
 have XQ := (aj (c.ck 379))
 have XR := (aj (c.ck 380))
 have XS := (aj (c.ck 381))
 have XU := (aj (c.ck 382))
 have XW := (aj (c.ck 383))
 have XX := (aj (c.ck 384))
 have XY := (aj (c.ck 385))
 have XZ := (aj (c.ck 386))
 have Y0 := (aj (c.ck 387))
 have Y4 := (aj (c.ck 388))
 have Y5 := (aj (c.ck 389))
 have Y6 := (aj (c.ck 390))
 have Y7 := (aj (c.ck 391))
 have Y8 := (aj (c.ck 392))
 have Y9 := (aj (c.ck 393))
 have Yb := (aj (c.ck 394))
 have Yc := (aj (c.ck 395))
 have Yd := (aj (c.ck 396))
 have Ye := (aj (c.ck 397))
 have Yg := (aj (c.ck 398))
 have Yh := (aj (c.ck 399))
 have Yi := (aj (c.ck 400))
 have Yj := (aj (c.ck 401))
 have Yk := (aj (c.ck 402))
 have Yl := (aj (c.ck 403))
 have Ym := (aj (c.ck 404))
 have Yn := (aj (c.ck 405))
 have Yo := (aj (c.ck 406))
 have Yp := (aj (c.ck 407))
 have Yq := (aj (c.ck 408))
 have Yr := (aj (c.ck 409))
 have Ys := (aj (c.ck 410))
 have Yt := (aj (c.ck 411))
 have Yu := (aj (c.ck 412))
 have Yv := (aj (c.ck 413))
 have Yw := (aj (c.ck 414))
 have Yx := (aj (c.ck 415))
 have Yy := (aj (c.ck 416))
 have Yz := (aj (c.ck 417))
 have YB := (aj (c.ck 418))
 have YC := (aj (c.ck 419))
 have YD := (aj (c.ck 420))
 have YF := (aj (c.ck 421))
 have YG := (aj (c.ck 422))
 have YH := (aj (c.ck 423))
 have YJ := (aj (c.ck 424))
 have YK := (aj (c.ck 425))
 have YL := (aj (c.ck 426))
 have YM := (aj (c.ck 427))
 have YN := (aj (c.ck 428))
 have YQ := (aj (c.ck 429))
 have YR := (aj (c.ck 430))
 have YS := (aj (c.ck 431))
 have YT := (aj (c.ck 432))
 have YV := (aj (c.ck 433))
 have YW := (aj (c.ck 434))
 have YX := (aj (c.ck 435))
 have YY := (aj (c.ck 436))
 have YZ := (aj (c.ck 437))
 have Z0 := (aj (c.ck 438))
 have Z1 := (aj (c.ck 439))
 have Z2 := (aj (c.ck 440))
 have Z3 := (aj (c.ck 441))
 have Z4 := (aj (c.ck 442))
 have Z5 := (aj (c.ck 443))
 have Z6 := (aj (c.ck 444))
 have Z7 := (aj (c.ck 445))
 have Z8 := (aj (c.ck 446))
 have Z9 := (aj (c.ck 447))
 have Za := (aj (c.ck 448))
 have Zb := (aj (c.ck 449))
 have Zd := (aj (c.ck 450))
 have Ze := (aj (c.ck 451))
 have Zf := (aj (c.ck 452))
 have Zg := (aj (c.ck 453))
 have Zh := (aj (c.ck 454))
 have Zi := (aj (c.ck 455))
 have Zj := (aj (c.ck 456))
 have Zk := (aj (c.ck 457))
 have Zm := (aj (c.ck 458))
 have Zo := (aj (c.ck 459))
 have Zq := (aj (c.ck 460))
 have Zr := (aj (c.ck 461))
 have Zt := (aj (c.ck 462))
 have Zu := (aj (c.ck 463))
 have Zv := (aj (c.ck 464))
 have Zw := (aj (c.ck 465))
 have Zx := (aj (c.ck 466))
 have Zy := (aj (c.ck 467))
 have Zz := (aj (c.ck 468))
 have ZC := (aj (c.ck 469))
 have ZD := (aj (c.ck 470))
 have ZE := (aj (c.ck 471))
 have ZF := (aj (c.ck 472))
 have ZJ := (aj (c.ck 473))
 have ZK := (aj (c.ck 474))
 have ZL := (aj (c.ck 475))
 have ZM := (aj (c.ck 476))
 have ZO := (aj (c.ck 477))
 have ZP := (aj (c.ck 478))
 have ZQ := (aj (c.ck 479))
 have ZR := (aj (c.ck 480))
 have ZS := (aj (c.ck 481))
 have ZU := (aj (c.ck 482))
 have ZV := (aj (c.ck 483))
 have ZW := (aj (c.ck 484))
 have ZX := (aj (c.ck 485))
 have ZY := (aj (c.ck 486))
 have ZZ := (aj (c.ck 487))
 have a00 := (aj (c.ck 488))
 have a01 := (aj (c.ck 489))
 have a02 := (aj (c.ck 490))
 have a03 := (aj (c.ck 491))
 have a04 := (aj (c.ck 492))
 have a05 := (aj (c.ck 493))
 have a06 := (aj (c.ck 494))
 have a07 := (aj (c.ck 495))
 have a08 := (aj (c.ck 496))
 have a09 := (aj (c.ck 497))
 have a0a := (aj (c.ck 498))
 have a0b := (aj (c.ck 499))
 have a0c := (aj (c.ck 500))
 have a0d := (aj (c.ck 501))
 have a0e := (aj (c.ck 502))
 have a0f := (aj (c.ck 503))
 have a0g := (aj (c.ck 504))
 have a0h := (aj (c.ck 505))
 have a0i := (aj (c.ck 506))
 have a0j := (aj (c.ck 507))
 have a0k := (aj (c.ck 508))
 have a0l := (aj (c.ck 509))
 have a0m := (aj (c.ck 510))
 have a0n := (aj (c.ck 511))
 have a0o := (aj (c.ck 512))
 have a0p := (aj (c.ck 513))
 have a0q := (aj (c.ck 514))
 have a0r := (aj (c.ck 515))
 have a0s := (aj (c.ck 516))
 have a0t := (aj (c.ck 517))
 have a0u := (aj (c.ck 518))
 have a0v := (aj (c.ck 519))
 have a0w := (aj (c.ck 520))
 have a0x := (aj (c.ck 521))
 have a0y := (aj (c.ck 522))
 have a0z := (He.eqO_ok (c.ck 523))
 have a0A := (He.eqO_ok (c.ck 524))
 have a0B := (He.eqO_ok (c.ck 525))
 have a0C := (He.eqO_ok (c.ck 526))
 have a0D := (He.eqO_ok (c.ck 527))
 have a0E := (He.eqO_ok (c.ck 528))
 have a0F := (He.eqO_ok (c.ck 529))
 have a0G := (He.eqO_ok (c.ck 530))
 have a0H := (He.eqO_ok (c.ck 531))
 have a0I := (He.eqO_ok (c.ck 532))
 have a0J := (He.eqO_ok (c.ck 121))
 have a0K := (He.eqO_ok (c.ck 533))
 have a0L := (He.eqO_ok (c.ck 534))
 have a0M := (He.eqO_ok (c.ck 535))
 have a0N := (He.eqO_ok (c.ck 536))
 have a0O := (He.eqO_ok (c.ck 537))
 have a0P := (He.eqO_ok (c.ck 538))
 have a0Q := (He.eqO_ok (c.ck 539))
 have a0R := (He.eqO_ok (c.ck 79))
 have a0S := (He.eqO_ok (c.ck 540))
 have a0T := (He.eqO_ok (c.ck 541))
 have a0U := (He.eqO_ok (c.ck 542))
 have a0V := (He.eqO_ok (c.ck 543))
 have a0W := (He.eqO_ok (c.ck 544))
 have a0X := (He.eqO_ok (c.ck 545))
 have a0Y := (He.eqO_ok (c.ck 546))
 have a0Z := (He.eqO_ok (c.ck 547))
 have a1a := (He.eqO_ok (c.ck 548))
 have a1b := (He.eqO_ok (c.ck 549))
 have a1c := (He.eqO_ok (c.ck 550))
 have a1d := (He.eqO_ok (c.ck 551))
 have a1e := (He.eqO_ok (c.ck 552))
 have a1f := (He.eqO_ok (c.ck 553))
 have a1g := (He.eqO_ok (c.ck 554))
 have a1h := (He.eqO_ok (c.ck 86))
 have a1i := (He.eqO_ok (c.ck 555))
 have a1j := (He.eqO_ok (c.ck 556))
 have a1k := (He.eqO_ok (c.ck 557))
 have a1l := (He.eqO_ok (c.ck 558))
 have a1m := (He.eqO_ok (c.ck 559))
 have a1n := (He.eqO_ok (c.ck 560))
 have a1o := (He.eqO_ok (c.ck 561))
 have a1p := (He.eqO_ok (c.ck 562))
 have a1q := (He.eqO_ok (c.ck 563))
 have a1r := (He.eqO_ok (c.ck 564))
 have a1s := (He.eqO_ok (c.ck 565))
 have a1t := (He.eqO_ok (c.ck 566))
 have a1u := (He.eqO_ok (c.ck 567))
 have a1v := (He.eqO_ok (c.ck 568))
 have a1w := (He.eqO_ok (c.ck 85))
 have a1x := (He.eqO_ok (c.ck 569))
 have a1y := (He.eqO_ok (c.ck 570))
 have a1z := (He.eqO_ok (c.ck 571))
 have a1A := (He.eqO_ok (c.ck 572))
 have a1B := (He.eqO_ok (c.ck 573))
 have a1C := (He.eqO_ok (c.ck 574))
 have a1D := (He.eqO_ok (c.ck 575))
 have a1E := (He.eqO_ok (c.ck 576))
 have a1F := (He.eqO_ok (c.ck 577))
 have a1G := (He.eqO_ok (c.ck 578))
 have a1H := (He.eqO_ok (c.ck 61))
 have a1I := (He.eqO_ok (c.ck 67))
 have a1J := (He.eqO_ok (c.ck 73))
 have a1K := (He.eqO_ok (c.ck 579))
 have a1L := (He.eqO_ok (c.ck 580))
 have a1M := (He.eqO_ok (c.ck 92))
 have a1N := (He.eqO_ok (c.ck 98))
 have a1O := (He.eqO_ok (c.ck 104))
 have a1P := (He.eqO_ok (c.ck 110))
 have a1Q := (He.eqO_ok (c.ck 581))
 have a1R := (He.eqO_ok (c.ck 582))
 have a1S := (He.eqO_ok (c.ck 127))
 have a1T := (He.eqO_ok (c.ck 133))
 have a1U := (He.eqO_ok (c.ck 139))
 have a1V := (He.eqO_ok (c.ck 145))
 have e := hfa.symm.trans (PySem.W.mg_of X G a6)
 cases e
 have T : Txt K mg w := ⟨PySem.W.mg_none_of X G Oz, PySem.W.mg_none_of X G OA, PySem.W.mg_none_of X G OB, PySem.W.mg_none_of X G OC, PySem.W.mg_none_of X G OD, PySem.W.mg_none_of X G OG, PySem.W.mg_none_of X G OH, PySem.W.mg_none_of X G OI, PySem.W.mg_none_of X G OJ, PySem.W.mg_none_of X G OL, PySem.W.mg_none_of X G OM, PySem.W.mg_none_of X G OO, PySem.W.mg_none_of X G OQ, PySem.W.mg_none_of X G OS, PySem.W.mg_none_of X G OT, PySem.W.mg_none_of X G OU, PySem.W.mg_none_of X G OV, PySem.W.mg_none_of X G OW, ⟨_, PySem.W.mg_of X G fJ, xW⟩, ⟨_, PySem.W.mg_of X G aO, xF⟩, ⟨_, PySem.W.mg_of X G aP, xG⟩, ⟨_, PySem.W.mg_of X G aQ, xH⟩, ⟨_, PySem.W.mg_of X G aR, rH⟩, ⟨_, PySem.W.mg_of X G aU, o9⟩, ⟨_, PySem.W.mg_of X G aV, xJ⟩, ⟨_, PySem.W.mg_of X G aW, xK⟩, ⟨_, PySem.W.mg_of X G aX, xM⟩, ⟨_, PySem.W.mg_of X G aY, xN⟩, ⟨_, PySem.W.mg_of X G aZ, xO⟩, ⟨_, PySem.W.mg_of X G bf, rJ⟩, ⟨_, PySem.W.mg_of X G bh, xP⟩, ⟨_, PySem.W.mg_of X G bu, xQ⟩, ⟨_, PySem.W.mg_of X G bA, xR⟩, ⟨_, PySem.W.mg_of X G bB, xV⟩, ⟨_, _, _, PySem.W.mg_of X G aO, OZ, OY, Pa, Pb, fun_mk (st := lA) Pg Ph Pj⟩, ⟨_, _, _, PySem.W.mg_of X G aP, Pq, Pn, Pr, Pu, fun_mk (st := lB) Px Py PD⟩, ⟨_, _, _, PySem.W.mg_of X G aQ, PU, PR, PY, PZ, fun_mk (st := lC) Q5 Q6 Q7⟩, ⟨_, _, _, PySem.W.mg_of X G aR, Qa, Q9, Qc, Qe, fun_mk (st := lD) Qg Qh Qi⟩, ⟨_, _, _, PySem.W.mg_of X G aU, Qn, Qm, Qo, Qp, Qq, fun_mk (st := lE) Qs Qt Qu⟩, ⟨_, _, _, PySem.W.mg_of X G aV, Qx, Qw, Qy, Qz, fun_mk (st := lF) QA QC QD⟩, ⟨_, _, _, PySem.W.mg_of X G aW, QG, QF, QH, QI, fun_mk (st := lG) QJ QK QM⟩, ⟨_, _, _, PySem.W.mg_of X G aX, QT, QS, QU, QV, fun_mk (st := lH) QW QX QY⟩, ⟨_, _, _, PySem.W.mg_of X G aY, R4, R3, R5, R6, fun_mk (st := lJ) R7 R8 R9⟩, ⟨_, _, _, PySem.W.mg_of X G aZ, Rf, Rb, Rg, fun_mk (st := lK) Rh Ri Rj⟩, ⟨_, _, _, PySem.W.mg_of X G bf, Rm, Rl, Ro, Rp, fun_mk (st := lM) Rq Rr Ru⟩, ⟨_, _, _, PySem.W.mg_of X G bh, Rx, Rw, Ry, Rz, fun_mk (st := lN) RA RB RE⟩, ⟨_, _, _, PySem.W.mg_of X G bu, RJ, RH, RK, RL, fun_mk (st := lO) RM RN RO⟩, ⟨_, _, _, PySem.W.mg_of X G bA, RW, RQ, RX, RY, fun_mk (st := lQ) S7 S8 S9⟩, ⟨_, _, _, PySem.W.mg_of X G bB, Sq, Sh, Ss, Sv, fun_mk (st := lU) Sw Sy SA⟩, ⟨_, PySem.W.mg_of X G fJ, SG⟩, ⟨⟨_, PySem.W.mg_of X G aO, Pk⟩, ⟨_, PySem.W.mg_of X G aP, PL⟩, ⟨_, PySem.W.mg_of X G aQ, Q8⟩, ⟨_, PySem.W.mg_of X G aR, Ql⟩, ⟨_, PySem.W.mg_of X G aU, Qv⟩, ⟨_, PySem.W.mg_of X G aV, QE⟩, ⟨_, PySem.W.mg_of X G aW, QN⟩, ⟨_, PySem.W.mg_of X G aX, QZ⟩, ⟨_, PySem.W.mg_of X G aY, Ra⟩, ⟨_, PySem.W.mg_of X G aZ, Rk⟩, ⟨_, PySem.W.mg_of X G bf, Rv⟩, ⟨_, PySem.W.mg_of X G bh, RG⟩, ⟨_, PySem.W.mg_of X G bu, RP⟩, ⟨_, PySem.W.mg_of X G bA, Sd⟩, ⟨_, PySem.W.mg_of X G bB, SE⟩, trivial⟩, ⟨⟨_, _, PySem.W.mg_of X G aO, PySem.W.mg_of X G fJ, SH⟩, ⟨_, _, PySem.W.mg_of X G aO, PySem.W.mg_of X G aO, SJ⟩, ⟨_, _, PySem.W.mg_of X G aO, PySem.W.mg_of X G aP, SN⟩, ⟨_, _, PySem.W.mg_of X G aO, PySem.W.mg_of X G aQ, SV⟩, ⟨_, _, PySem.W.mg_of X G aO, PySem.W.mg_of X G aR, SW⟩, ⟨_, _, PySem.W.mg_of X G aO, PySem.W.mg_of X G aU, SY⟩, ⟨_, _, PySem.W.mg_of X G aO, PySem.W.mg_of X G aV, T5⟩, ⟨_, _, PySem.W.mg_of X G aO, PySem.W.mg_of X G aW, T6⟩, ⟨_, _, PySem.W.mg_of X G aO, PySem.W.mg_of X G aX, T7⟩, ⟨_, _, PySem.W.mg_of X G aO, PySem.W.mg_of X G aY, T8⟩, ⟨_, _, PySem.W.mg_of X G aO, PySem.W.mg_of X G aZ, T9⟩, ⟨_, _, PySem.W.mg_of X G aO, PySem.W.mg_of X G bf, Tc⟩, ⟨_, _, PySem.W.mg_of X G aO, PySem.W.mg_of X G bh, Td⟩, ⟨_, _, PySem.W.mg_of X G aO, PySem.W.mg_of X G bu, Tf⟩, ⟨_, _, PySem.W.mg_of X G aO, PySem.W.mg_of X G bA, Tg⟩, ⟨_, _, PySem.W.mg_of X G aO, PySem.W.mg_of X G bB, Tj⟩, ⟨_, _, PySem.W.mg_of X G aP, PySem.W.mg_of X G fJ, Tn⟩, ⟨_, _, PySem.W.mg_of X G aP, PySem.W.mg_of X G aO, To⟩, ⟨_, _, PySem.W.mg_of X G aP, PySem.W.mg_of X G aP, Tp⟩, ⟨_, _, PySem.W.mg_of X G aP, PySem.W.mg_of X G aQ, Tq⟩, ⟨_, _, PySem.W.mg_of X G aP, PySem.W.mg_of X G aR, Tt⟩, ⟨_, _, PySem.W.mg_of X G aP, PySem.W.mg_of X G aU, Tv⟩, ⟨_, _, PySem.W.mg_of X G aP, PySem.W.mg_of X G aV, Tw⟩, ⟨_, _, PySem.W.mg_of X G aP, PySem.W.mg_of X G aW, Tz⟩, ⟨_, _, PySem.W.mg_of X G aP, PySem.W.mg_of X G aX, TF⟩, ⟨_, _, PySem.W.mg_of X G aP, PySem.W.mg_of X G aY, TH⟩, ⟨_, _, PySem.W.mg_of X G aP, PySem.W.mg_of X G aZ, TJ⟩, ⟨_, _, PySem.W.mg_of X G aP, PySem.W.mg_of X G bf, TN⟩, ⟨_, _, PySem.W.mg_of X G aP, PySem.W.mg_of X G bh, TQ⟩, ⟨_, _, PySem.W.mg_of X G aP, PySem.W.mg_of X G bu, TR⟩, ⟨_, _, PySem.W.mg_of X G aP, PySem.W.mg_of X G bA, TU⟩, ⟨_, _, PySem.W.mg_of X G aP, PySem.W.mg_of X G bB, TV⟩, ⟨_, _, PySem.W.mg_of X G aQ, PySem.W.mg_of X G fJ, TX⟩, ⟨_, _, PySem.W.mg_of X G aQ, PySem.W.mg_of X G aO, TY⟩, ⟨_, _, PySem.W.mg_of X G aQ, PySem.W.mg_of X G aP, U0⟩, ⟨_, _, PySem.W.mg_of X G aQ, PySem.W.mg_of X G aQ, U3⟩, ⟨_, _, PySem.W.mg_of X G aQ, PySem.W.mg_of X G aR, U4⟩, ⟨_, _, PySem.W.mg_of X G aQ, PySem.W.mg_of X G aU, U5⟩, ⟨_, _, PySem.W.mg_of X G aQ, PySem.W.mg_of X G aV, U6⟩, ⟨_, _, PySem.W.mg_of X G aQ, PySem.W.mg_of X G aW, U7⟩, ⟨_, _, PySem.W.mg_of X G aQ, PySem.W.mg_of X G aX, U8⟩, ⟨_, _, PySem.W.mg_of X G aQ, PySem.W.mg_of X G aY, U9⟩, ⟨_, _, PySem.W.mg_of X G aQ, PySem.W.mg_of X G aZ, Ua⟩, ⟨_, _, PySem.W.mg_of X G aQ, PySem.W.mg_of X G bf, Ub⟩, ⟨_, _, PySem.W.mg_of X G aQ, PySem.W.mg_of X G bh, Uc⟩, ⟨_, _, PySem.W.mg_of X G aQ, PySem.W.mg_of X G bu, Ud⟩, ⟨_, _, PySem.W.mg_of X G aQ, PySem.W.mg_of X G bA, Ue⟩, ⟨_, _, PySem.W.mg_of X G aQ, PySem.W.mg_of X G bB, Ug⟩, ⟨_, _, PySem.W.mg_of X G aR, PySem.W.mg_of X G fJ, Uh⟩, ⟨_, _, PySem.W.mg_of X G aR, PySem.W.mg_of X G aO, Ui⟩, ⟨_, _, PySem.W.mg_of X G aR, PySem.W.mg_of X G aP, Uj⟩, ⟨_, _, PySem.W.mg_of X G aR, PySem.W.mg_of X G aQ, Uk⟩, ⟨_, _, PySem.W.mg_of X G aR, PySem.W.mg_of X G aR, Ul⟩, ⟨_, _, PySem.W.mg_of X G aR, PySem.W.mg_of X G aU, Um⟩, ⟨_, _, PySem.W.mg_of X G aR, PySem.W.mg_of X G aV, Uo⟩, ⟨_, _, PySem.W.mg_of X G aR, PySem.W.mg_of X G aW, Uq⟩, ⟨_, _, PySem.W.mg_of X G aR, PySem.W.mg_of X G aX, Ur⟩, ⟨_, _, PySem.W.mg_of X G aR, PySem.W.mg_of X G aY, Us⟩, ⟨_, _, PySem.W.mg_of X G aR, PySem.W.mg_of X G aZ, Ut⟩, ⟨_, _, PySem.W.mg_of X G aR, PySem.W.mg_of X G bf, Uu⟩, ⟨_, _, PySem.W.mg_of X G aR, PySem.W.mg_of X G bh, Uv⟩, ⟨_, _, PySem.W.mg_of X G aR, PySem.W.mg_of X G bu, Uw⟩, ⟨_, _, PySem.W.mg_of X G aR, PySem.W.mg_of X G bA, Ux⟩, ⟨_, _, PySem.W.mg_of X G aR, PySem.W.mg_of X G bB, Uy⟩, ⟨_, _, PySem.W.mg_of X G aU, PySem.W.mg_of X G fJ, Uz⟩, ⟨_, _, PySem.W.mg_of X G aU, PySem.W.mg_of X G aO, UA⟩, ⟨_, _, PySem.W.mg_of X G aU, PySem.W.mg_of X G aP, UC⟩, ⟨_, _, PySem.W.mg_of X G aU, PySem.W.mg_of X G aQ, UD⟩, ⟨_, _, PySem.W.mg_of X G aU, PySem.W.mg_of X G aR, UE⟩, ⟨_, _, PySem.W.mg_of X G aU, PySem.W.mg_of X G aU, UG⟩, ⟨_, _, PySem.W.mg_of X G aU, PySem.W.mg_of X G aV, UH⟩, ⟨_, _, PySem.W.mg_of X G aU, PySem.W.mg_of X G aW, UI⟩, ⟨_, _, PySem.W.mg_of X G aU, PySem.W.mg_of X G aX, UJ⟩, ⟨_, _, PySem.W.mg_of X G aU, PySem.W.mg_of X G aY, UK⟩, ⟨_, _, PySem.W.mg_of X G aU, PySem.W.mg_of X G aZ, UL⟩, ⟨_, _, PySem.W.mg_of X G aU, PySem.W.mg_of X G bf, UM⟩, ⟨_, _, PySem.W.mg_of X G aU, PySem.W.mg_of X G bh, UN⟩, ⟨_, _, PySem.W.mg_of X G aU, PySem.W.mg_of X G bu, UO⟩, ⟨_, _, PySem.W.mg_of X G aU, PySem.W.mg_of X G bA, UP⟩, ⟨_, _, PySem.W.mg_of X G aU, PySem.W.mg_of X G bB, UQ⟩, ⟨_, _, PySem.W.mg_of X G aV, PySem.W.mg_of X G fJ, UR⟩, ⟨_, _, PySem.W.mg_of X G aV, PySem.W.mg_of X G aO, UT⟩, ⟨_, _, PySem.W.mg_of X G aV, PySem.W.mg_of X G aP, UU⟩, ⟨_, _, PySem.W.mg_of X G aV, PySem.W.mg_of X G aQ, UW⟩, ⟨_, _, PySem.W.mg_of X G aV, PySem.W.mg_of X G aR, UX⟩, ⟨_, _, PySem.W.mg_of X G aV, PySem.W.mg_of X G aU, UY⟩, ⟨_, _, PySem.W.mg_of X G aV, PySem.W.mg_of X G aV, UZ⟩, ⟨_, _, PySem.W.mg_of X G aV, PySem.W.mg_of X G aW, V1⟩, ⟨_, _, PySem.W.mg_of X G aV, PySem.W.mg_of X G aX, V2⟩, ⟨_, _, PySem.W.mg_of X G aV, PySem.W.mg_of X G aY, V3⟩, ⟨_, _, PySem.W.mg_of X G aV, PySem.W.mg_of X G aZ, V4⟩, ⟨_, _, PySem.W.mg_of X G aV, PySem.W.mg_of X G bf, V5⟩, ⟨_, _, PySem.W.mg_of X G aV, PySem.W.mg_of X G bh, V6⟩, ⟨_, _, PySem.W.mg_of X G aV, PySem.W.mg_of X G bu, V7⟩, ⟨_, _, PySem.W.mg_of X G aV, PySem.W.mg_of X G bA, V8⟩, ⟨_, _, PySem.W.mg_of X G aV, PySem.W.mg_of X G bB, V9⟩, ⟨_, _, PySem.W.mg_of X G aW, PySem.W.mg_of X G fJ, Va⟩, ⟨_, _, PySem.W.mg_of X G aW, PySem.W.mg_of X G aO, Vb⟩, ⟨_, _, PySem.W.mg_of X G aW, PySem.W.mg_of X G aP, Vc⟩, ⟨_, _, PySem.W.mg_of X G aW, PySem.W.mg_of X G aQ, Vd⟩, ⟨_, _, PySem.W.mg_of X G aW, PySem.W.mg_of X G aR, Ve⟩, ⟨_, _, PySem.W.mg_of X G aW, PySem.W.mg_of X G aU, Vf⟩, ⟨_, _, PySem.W.mg_of X G aW, PySem.W.mg_of X G aV, Vg⟩, ⟨_, _, PySem.W.mg_of X G aW, PySem.W.mg_of X G aW, Vh⟩, ⟨_, _, PySem.W.mg_of X G aW, PySem.W.mg_of X G aX, Vi⟩, ⟨_, _, PySem.W.mg_of X G aW, PySem.W.mg_of X G aY, Vj⟩, ⟨_, _, PySem.W.mg_of X G aW, PySem.W.mg_of X G aZ, Vk⟩, ⟨_, _, PySem.W.mg_of X G aW, PySem.W.mg_of X G bf, Vl⟩, ⟨_, _, PySem.W.mg_of X G aW, PySem.W.mg_of X G bh, Vm⟩, ⟨_, _, PySem.W.mg_of X G aW, PySem.W.mg_of X G bu, Vn⟩, ⟨_, _, PySem.W.mg_of X G aW, PySem.W.mg_of X G bA, Vo⟩, ⟨_, _, PySem.W.mg_of X G aW, PySem.W.mg_of X G bB, Vp⟩, ⟨_, _, PySem.W.mg_of X G aX, PySem.W.mg_of X G fJ, Vq⟩, ⟨_, _, PySem.W.mg_of X G aX, PySem.W.mg_of X G aO, Vr⟩, ⟨_, _, PySem.W.mg_of X G aX, PySem.W.mg_of X G aP, Vs⟩, ⟨_, _, PySem.W.mg_of X G aX, PySem.W.mg_of X G aQ, Vt⟩, ⟨_, _, PySem.W.mg_of X G aX, PySem.W.mg_of X G aR, Vu⟩, ⟨_, _, PySem.W.mg_of X G aX, PySem.W.mg_of X G aU, Vv⟩, ⟨_, _, PySem.W.mg_of X G aX, PySem.W.mg_of X G aV, Vw⟩, ⟨_, _, PySem.W.mg_of X G aX, PySem.W.mg_of X G aW, Vx⟩, ⟨_, _, PySem.W.mg_of X G aX, PySem.W.mg_of X G aX, Vy⟩, ⟨_, _, PySem.W.mg_of X G aX, PySem.W.mg_of X G aY, Vz⟩, ⟨_, _, PySem.W.mg_of X G aX, PySem.W.mg_of X G aZ, VA⟩, ⟨_, _, PySem.W.mg_of X G aX, PySem.W.mg_of X G bf, VB⟩, ⟨_, _, PySem.W.mg_of X G aX, PySem.W.mg_of X G bh, VC⟩, ⟨_, _, PySem.W.mg_of X G aX, PySem.W.mg_of X G bu, VD⟩, ⟨_, _, PySem.W.mg_of X G aX, PySem.W.mg_of X G bA, VE⟩, ⟨_, _, PySem.W.mg_of X G aX, PySem.W.mg_of X G bB, VF⟩, ⟨_, _, PySem.W.mg_of X G aY, PySem.W.mg_of X G fJ, VG⟩, ⟨_, _, PySem.W.mg_of X G aY, PySem.W.mg_of X G aO, VH⟩, ⟨_, _, PySem.W.mg_of X G aY, PySem.W.mg_of X G aP, VI⟩, ⟨_, _, PySem.W.mg_of X G aY, PySem.W.mg_of X G aQ, VJ⟩, ⟨_, _, PySem.W.mg_of X G aY, PySem.W.mg_of X G aR, VL⟩, ⟨_, _, PySem.W.mg_of X G aY, PySem.W.mg_of X G aU, VM⟩, ⟨_, _, PySem.W.mg_of X G aY, PySem.W.mg_of X G aV, VN⟩, ⟨_, _, PySem.W.mg_of X G aY, PySem.W.mg_of X G aW, VO⟩, ⟨_, _, PySem.W.mg_of X G aY, PySem.W.mg_of X G aX, VP⟩, ⟨_, _, PySem.W.mg_of X G aY, PySem.W.mg_of X G aY, VQ⟩, ⟨_, _, PySem.W.mg_of X G aY, PySem.W.mg_of X G aZ, VR⟩, ⟨_, _, PySem.W.mg_of X G aY, PySem.W.mg_of X G bf, VS⟩, ⟨_, _, PySem.W.mg_of X G aY, PySem.W.mg_of X G bh, VU⟩, ⟨_, _, PySem.W.mg_of X G aY, PySem.W.mg_of X G bu, VX⟩, ⟨_, _, PySem.W.mg_of X G aY, PySem.W.mg_of X G bA, VY⟩, ⟨_, _, PySem.W.mg_of X G aY, PySem.W.mg_of X G bB, VZ⟩, ⟨_, _, PySem.W.mg_of X G aZ, PySem.W.mg_of X G fJ, W4⟩, ⟨_, _, PySem.W.mg_of X G aZ, PySem.W.mg_of X G aO, W6⟩, ⟨_, _, PySem.W.mg_of X G aZ, PySem.W.mg_of X G aP, W7⟩, ⟨_, _, PySem.W.mg_of X G aZ, PySem.W.mg_of X G aQ, W8⟩, ⟨_, _, PySem.W.mg_of X G aZ, PySem.W.mg_of X G aR, W9⟩, ⟨_, _, PySem.W.mg_of X G aZ, PySem.W.mg_of X G aU, Wb⟩, ⟨_, _, PySem.W.mg_of X G aZ, PySem.W.mg_of X G aV, Wc⟩, ⟨_, _, PySem.W.mg_of X G aZ, PySem.W.mg_of X G aW, Wd⟩, ⟨_, _, PySem.W.mg_of X G aZ, PySem.W.mg_of X G aX, Wf⟩, ⟨_, _, PySem.W.mg_of X G aZ, PySem.W.mg_of X G aY, Wg⟩, ⟨_, _, PySem.W.mg_of X G aZ, PySem.W.mg_of X G aZ, Wh⟩, ⟨_, _, PySem.W.mg_of X G aZ, PySem.W.mg_of X G bf, Wi⟩, ⟨_, _, PySem.W.mg_of X G aZ, PySem.W.mg_of X G bh, Wj⟩, ⟨_, _, PySem.W.mg_of X G aZ, PySem.W.mg_of X G bu, Wk⟩, ⟨_, _, PySem.W.mg_of X G aZ, PySem.W.mg_of X G bA, Wl⟩, ⟨_, _, PySem.W.mg_of X G aZ, PySem.W.mg_of X G bB, Wm⟩, ⟨_, _, PySem.W.mg_of X G bf, PySem.W.mg_of X G fJ, Wn⟩, ⟨_, _, PySem.W.mg_of X G bf, PySem.W.mg_of X G aO, Wo⟩, ⟨_, _, PySem.W.mg_of X G bf, PySem.W.mg_of X G aP, Wq⟩, ⟨_, _, PySem.W.mg_of X G bf, PySem.W.mg_of X G aQ, Wr⟩, ⟨_, _, PySem.W.mg_of X G bf, PySem.W.mg_of X G aR, Ws⟩, ⟨_, _, PySem.W.mg_of X G bf, PySem.W.mg_of X G aU, Wt⟩, ⟨_, _, PySem.W.mg_of X G bf, PySem.W.mg_of X G aV, Wu⟩, ⟨_, _, PySem.W.mg_of X G bf, PySem.W.mg_of X G aW, Wv⟩, ⟨_, _, PySem.W.mg_of X G bf, PySem.W.mg_of X G aX, Ww⟩, ⟨_, _, PySem.W.mg_of X G bf, PySem.W.mg_of X G aY, Wx⟩, ⟨_, _, PySem.W.mg_of X G bf, PySem.W.mg_of X G aZ, Wy⟩, ⟨_, _, PySem.W.mg_of X G bf, PySem.W.mg_of X G bf, Wz⟩, ⟨_, _, PySem.W.mg_of X G bf, PySem.W.mg_of X G bh, WB⟩, ⟨_, _, PySem.W.mg_of X G bf, PySem.W.mg_of X G bu, WC⟩, ⟨_, _, PySem.W.mg_of X G bf, PySem.W.mg_of X G bA, WD⟩, ⟨_, _, PySem.W.mg_of X G bf, PySem.W.mg_of X G bB, WG⟩, ⟨_, _, PySem.W.mg_of X G bh, PySem.W.mg_of X G fJ, WH⟩, ⟨_, _, PySem.W.mg_of X G bh, PySem.W.mg_of X G aO, WK⟩, ⟨_, _, PySem.W.mg_of X G bh, PySem.W.mg_of X G aP, WL⟩, ⟨_, _, PySem.W.mg_of X G bh, PySem.W.mg_of X G aQ, WM⟩, ⟨_, _, PySem.W.mg_of X G bh, PySem.W.mg_of X G aR, WN⟩, ⟨_, _, PySem.W.mg_of X G bh, PySem.W.mg_of X G aU, WO⟩, ⟨_, _, PySem.W.mg_of X G bh, PySem.W.mg_of X G aV, WQ⟩, ⟨_, _, PySem.W.mg_of X G bh, PySem.W.mg_of X G aW, WR⟩, ⟨_, _, PySem.W.mg_of X G bh, PySem.W.mg_of X G aX, WT⟩, ⟨_, _, PySem.W.mg_of X G bh, PySem.W.mg_of X G aY, WU⟩, ⟨_, _, PySem.W.mg_of X G bh, PySem.W.mg_of X G aZ, WV⟩, ⟨_, _, PySem.W.mg_of X G bh, PySem.W.mg_of X G bf, WW⟩, ⟨_, _, PySem.W.mg_of X G bh, PySem.W.mg_of X G bh, WY⟩, ⟨_, _, PySem.W.mg_of X G bh, PySem.W.mg_of X G bu, WZ⟩, ⟨_, _, PySem.W.mg_of X G bh, PySem.W.mg_of X G bA, X3⟩, ⟨_, _, PySem.W.mg_of X G bh, PySem.W.mg_of X G bB, X4⟩, ⟨_, _, PySem.W.mg_of X G bu, PySem.W.mg_of X G fJ, X5⟩, ⟨_, _, PySem.W.mg_of X G bu, PySem.W.mg_of X G aO, X6⟩, ⟨_, _, PySem.W.mg_of X G bu, PySem.W.mg_of X G aP, X7⟩, ⟨_, _, PySem.W.mg_of X G bu, PySem.W.mg_of X G aQ, X8⟩, ⟨_, _, PySem.W.mg_of X G bu, PySem.W.mg_of X G aR, Xa⟩, ⟨_, _, PySem.W.mg_of X G bu, PySem.W.mg_of X G aU, Xb⟩, ⟨_, _, PySem.W.mg_of X G bu, PySem.W.mg_of X G aV, Xc⟩, ⟨_, _, PySem.W.mg_of X G bu, PySem.W.mg_of X G aW, Xd⟩, ⟨_, _, PySem.W.mg_of X G bu, PySem.W.mg_of X G aX, Xe⟩, ⟨_, _, PySem.W.mg_of X G bu, PySem.W.mg_of X G aY, Xf⟩, ⟨_, _, PySem.W.mg_of X G bu, PySem.W.mg_of X G aZ, Xg⟩, ⟨_, _, PySem.W.mg_of X G bu, PySem.W.mg_of X G bf, Xh⟩, ⟨_, _, PySem.W.mg_of X G bu, PySem.W.mg_of X G bh, Xi⟩, ⟨_, _, PySem.W.mg_of X G bu, PySem.W.mg_of X G bu, Xj⟩, ⟨_, _, PySem.W.mg_of X G bu, PySem.W.mg_of X G bA, Xk⟩, ⟨_, _, PySem.W.mg_of X G bu, PySem.W.mg_of X G bB, Xl⟩, ⟨_, _, PySem.W.mg_of X G bA, PySem.W.mg_of X G fJ, Xm⟩, ⟨_, _, PySem.W.mg_of X G bA, PySem.W.mg_of X G aO, Xn⟩, ⟨_, _, PySem.W.mg_of X G bA, PySem.W.mg_of X G aP, Xo⟩, ⟨_, _, PySem.W.mg_of X G bA, PySem.W.mg_of X G aQ, Xp⟩, ⟨_, _, PySem.W.mg_of X G bA, PySem.W.mg_of X G aR, Xq⟩, ⟨_, _, PySem.W.mg_of X G bA, PySem.W.mg_of X G aU, Xr⟩, ⟨_, _, PySem.W.mg_of X G bA, PySem.W.mg_of X G aV, Xu⟩, ⟨_, _, PySem.W.mg_of X G bA, PySem.W.mg_of X G aW, Xv⟩, ⟨_, _, PySem.W.mg_of X G bA, PySem.W.mg_of X G aX, Xw⟩, ⟨_, _, PySem.W.mg_of X G bA, PySem.W.mg_of X G aY, Xx⟩, ⟨_, _, PySem.W.mg_of X G bA, PySem.W.mg_of X G aZ, Xy⟩, ⟨_, _, PySem.W.mg_of X G bA, PySem.W.mg_of X G bf, Xz⟩, ⟨_, _, PySem.W.mg_of X G bA, PySem.W.mg_of X G bh, XA⟩, ⟨_, _, PySem.W.mg_of X G bA, PySem.W.mg_of X G bu, XC⟩, ⟨_, _, PySem.W.mg_of X G bA, PySem.W.mg_of X G bA, XD⟩, ⟨_, _, PySem.W.mg_of X G bA, PySem.W.mg_of X G bB, XF⟩, ⟨_, _, PySem.W.mg_of X G bB, PySem.W.mg_of X G fJ, XG⟩, ⟨_, _, PySem.W.mg_of X G bB, PySem.W.mg_of X G aO, XH⟩, ⟨_, _, PySem.W.mg_of X G bB, PySem.W.mg_of X G aP, XI⟩, ⟨_, _, PySem.W.mg_of X G bB, PySem.W.mg_of X G aQ, XJ⟩, ⟨_, _, PySem.W.mg_of X G bB, PySem.W.mg_of X G aR, XM⟩, ⟨_, _, PySem.W.mg_of X G bB, PySem.W.mg_of X G aU, XN⟩, ⟨_, _, PySem.W.mg_of X G bB, PySem.W.mg_of X G aV, XO⟩, ⟨_, _, PySem.W.mg_of X G bB, PySem.W.mg_of X G aW, XQ⟩, ⟨_, _, PySem.W.mg_of X G bB, PySem.W.mg_of X G aX, XR⟩, ⟨_, _, PySem.W.mg_of X G bB, PySem.W.mg_of X G aY, XS⟩, ⟨_, _, PySem.W.mg_of X G bB, PySem.W.mg_of X G aZ, XU⟩, ⟨_, _, PySem.W.mg_of X G bB, PySem.W.mg_of X G bf, XW⟩, ⟨_, _, PySem.W.mg_of X G bB, PySem.W.mg_of X G bh, XX⟩, ⟨_, _, PySem.W.mg_of X G bB, PySem.W.mg_of X G bu, XY⟩, ⟨_, _, PySem.W.mg_of X G bB, PySem.W.mg_of X G bA, XZ⟩, ⟨_, _, PySem.W.mg_of X G bB, PySem.W.mg_of X G bB, Y0⟩, trivial⟩, ⟨⟨_, PySem.W.mg_of X G aO, Y4⟩, ⟨_, PySem.W.mg_of X G aO, Y5⟩, ⟨_, PySem.W.mg_of X G aO, Y6⟩, ⟨_, PySem.W.mg_of X G aO, Y7⟩, ⟨_, PySem.W.mg_of X G aO, Y8⟩, ⟨_, PySem.W.mg_of X G aO, Y9⟩, ⟨_, PySem.W.mg_of X G aO, Yb⟩, ⟨_, PySem.W.mg_of X G aO, Yc⟩, ⟨_, PySem.W.mg_of X G aO, Yd⟩, ⟨_, PySem.W.mg_of X G aP, Ye⟩, ⟨_, PySem.W.mg_of X G aP, Yg⟩, ⟨_, PySem.W.mg_of X G aP, Yh⟩, ⟨_, PySem.W.mg_of X G aP, Yi⟩, ⟨_, PySem.W.mg_of X G aP, Yj⟩, ⟨_, PySem.W.mg_of X G aP, Yk⟩, ⟨_, PySem.W.mg_of X G aP, Yl⟩, ⟨_, PySem.W.mg_of X G aP, Ym⟩, ⟨_, PySem.W.mg_of X G aP, Yn⟩, ⟨_, PySem.W.mg_of X G aQ, Yo⟩, ⟨_, PySem.W.mg_of X G aQ, Yp⟩, ⟨_, PySem.W.mg_of X G aQ, Yq⟩, ⟨_, PySem.W.mg_of X G aQ, Yr⟩, ⟨_, PySem.W.mg_of X G aQ, Ys⟩, ⟨_, PySem.W.mg_of X G aQ, Yt⟩, ⟨_, PySem.W.mg_of X G aQ, Yu⟩, ⟨_, PySem.W.mg_of X G aQ, Yv⟩, ⟨_, PySem.W.mg_of X G aQ, Yw⟩, ⟨_, PySem.W.mg_of X G aR, Yx⟩, ⟨_, PySem.W.mg_of X G aR, Yy⟩, ⟨_, PySem.W.mg_of X G aR, Yz⟩, ⟨_, PySem.W.mg_of X G aR, YB⟩, ⟨_, PySem.W.mg_of X G aR, YC⟩, ⟨_, PySem.W.mg_of X G aR, YD⟩, ⟨_, PySem.W.mg_of X G aR, YF⟩, ⟨_, PySem.W.mg_of X G aR, YG⟩, ⟨_, PySem.W.mg_of X G aR, YH⟩, ⟨_, PySem.W.mg_of X G aU, YJ⟩, ⟨_, PySem.W.mg_of X G aU, YK⟩, ⟨_, PySem.W.mg_of X G aU, YL⟩, ⟨_, PySem.W.mg_of X G aU, YM⟩, ⟨_, PySem.W.mg_of X G aU, YN⟩, ⟨_, PySem.W.mg_of X G aU, YQ⟩, ⟨_, PySem.W.mg_of X G aU, YR⟩, ⟨_, PySem.W.mg_of X G aU, YS⟩, ⟨_, PySem.W.mg_of X G aU, YT⟩, ⟨_, PySem.W.mg_of X G aV, YV⟩, ⟨_, PySem.W.mg_of X G aV, YW⟩, ⟨_, PySem.W.mg_of X G aV, YX⟩, ⟨_, PySem.W.mg_of X G aV, YY⟩, ⟨_, PySem.W.mg_of X G aV, YZ⟩, ⟨_, PySem.W.mg_of X G aV, Z0⟩, ⟨_, PySem.W.mg_of X G aV, Z1⟩, ⟨_, PySem.W.mg_of X G aV, Z2⟩, ⟨_, PySem.W.mg_of X G aV, Z3⟩, ⟨_, PySem.W.mg_of X G aW, Z4⟩, ⟨_, PySem.W.mg_of X G aW, Z5⟩, ⟨_, PySem.W.mg_of X G aW, Z6⟩, ⟨_, PySem.W.mg_of X G aW, Z7⟩, ⟨_, PySem.W.mg_of X G aW, Z8⟩, ⟨_, PySem.W.mg_of X G aW, Z9⟩, ⟨_, PySem.W.mg_of X G aW, Za⟩, ⟨_, PySem.W.mg_of X G aW, Zb⟩, ⟨_, PySem.W.mg_of X G aW, Zd⟩, ⟨_, PySem.W.mg_of X G aX, Ze⟩, ⟨_, PySem.W.mg_of X G aX, Zf⟩, ⟨_, PySem.W.mg_of X G aX, Zg⟩, ⟨_, PySem.W.mg_of X G aX, Zh⟩, ⟨_, PySem.W.mg_of X G aX, Zi⟩, ⟨_, PySem.W.mg_of X G aX, Zj⟩, ⟨_, PySem.W.mg_of X G aX, Zk⟩, ⟨_, PySem.W.mg_of X G aX, Zm⟩, ⟨_, PySem.W.mg_of X G aX, Zo⟩, ⟨_, PySem.W.mg_of X G aY, Zq⟩, ⟨_, PySem.W.mg_of X G aY, Zr⟩, ⟨_, PySem.W.mg_of X G aY, Zt⟩, ⟨_, PySem.W.mg_of X G aY, Zu⟩, ⟨_, PySem.W.mg_of X G aY, Zv⟩, ⟨_, PySem.W.mg_of X G aY, Zw⟩, ⟨_, PySem.W.mg_of X G aY, Zx⟩, ⟨_, PySem.W.mg_of X G aY, Zy⟩, ⟨_, PySem.W.mg_of X G aY, Zz⟩, ⟨_, PySem.W.mg_of X G aZ, ZC⟩, ⟨_, PySem.W.mg_of X G aZ, ZD⟩, ⟨_, PySem.W.mg_of X G aZ, ZE⟩, ⟨_, PySem.W.mg_of X G aZ, ZF⟩, ⟨_, PySem.W.mg_of X G aZ, ZJ⟩, ⟨_, PySem.W.mg_of X G aZ, ZK⟩, ⟨_, PySem.W.mg_of X G aZ, ZL⟩, ⟨_, PySem.W.mg_of X G aZ, ZM⟩, ⟨_, PySem.W.mg_of X G aZ, ZO⟩, ⟨_, PySem.W.mg_of X G bf, ZP⟩, ⟨_, PySem.W.mg_of X G bf, ZQ⟩, ⟨_, PySem.W.mg_of X G bf, ZR⟩, ⟨_, PySem.W.mg_of X G bf, ZS⟩, ⟨_, PySem.W.mg_of X G bf, ZU⟩, ⟨_, PySem.W.mg_of X G bf, ZV⟩, ⟨_, PySem.W.mg_of X G bf, ZW⟩, ⟨_, PySem.W.mg_of X G bf, ZX⟩, ⟨_, PySem.W.mg_of X G bf, ZY⟩, ⟨_, PySem.W.mg_of X G bh, ZZ⟩, ⟨_, PySem.W.mg_of X G bh, a00⟩, ⟨_, PySem.W.mg_of X G bh, a01⟩, ⟨_, PySem.W.mg_of X G bh, a02⟩, ⟨_, PySem.W.mg_of X G bh, a03⟩, ⟨_, PySem.W.mg_of X G bh, a04⟩, ⟨_, PySem.W.mg_of X G bh, a05⟩, ⟨_, PySem.W.mg_of X G bh, a06⟩, ⟨_, PySem.W.mg_of X G bh, a07⟩, ⟨_, PySem.W.mg_of X G bu, a08⟩, ⟨_, PySem.W.mg_of X G bu, a09⟩, ⟨_, PySem.W.mg_of X G bu, a0a⟩, ⟨_, PySem.W.mg_of X G bu, a0b⟩, ⟨_, PySem.W.mg_of X G bu, a0c⟩, ⟨_, PySem.W.mg_of X G bu, a0d⟩, ⟨_, PySem.W.mg_of X G bu, a0e⟩, ⟨_, PySem.W.mg_of X G bu, a0f⟩, ⟨_, PySem.W.mg_of X G bu, a0g⟩, ⟨_, PySem.W.mg_of X G bA, a0h⟩, ⟨_, PySem.W.mg_of X G bA, a0i⟩, ⟨_, PySem.W.mg_of X G bA, a0j⟩, ⟨_, PySem.W.mg_of X G bA, a0k⟩, ⟨_, PySem.W.mg_of X G bA, a0l⟩, ⟨_, PySem.W.mg_of X G bA, a0m⟩, ⟨_, PySem.W.mg_of X G bA, a0n⟩, ⟨_, PySem.W.mg_of X G bA, a0o⟩, ⟨_, PySem.W.mg_of X G bA, a0p⟩, ⟨_, PySem.W.mg_of X G bB, a0q⟩, ⟨_, PySem.W.mg_of X G bB, a0r⟩, ⟨_, PySem.W.mg_of X G bB, a0s⟩, ⟨_, PySem.W.mg_of X G bB, a0t⟩, ⟨_, PySem.W.mg_of X G bB, a0u⟩, ⟨_, PySem.W.mg_of X G bB, a0v⟩, ⟨_, PySem.W.mg_of X G bB, a0w⟩, ⟨_, PySem.W.mg_of X G bB, a0x⟩, ⟨_, PySem.W.mg_of X G bB, a0y⟩, trivial⟩, ⟨⟨_, PySem.W.mg_of X G aO, a0z⟩, ⟨_, PySem.W.mg_of X G aP, a0A⟩, ⟨_, PySem.W.mg_of X G aQ, a0B⟩, ⟨_, PySem.W.mg_of X G aR, a0C⟩, ⟨_, PySem.W.mg_of X G aU, a0D⟩, ⟨_, PySem.W.mg_of X G aV, a0E⟩, ⟨_, PySem.W.mg_of X G aW, a0F⟩, ⟨_, PySem.W.mg_of X G aX, a0G⟩, ⟨_, PySem.W.mg_of X G aY, a0H⟩, ⟨_, PySem.W.mg_of X G aZ, a0I⟩, ⟨_, PySem.W.mg_of X G bf, a0J⟩, ⟨_, PySem.W.mg_of X G bh, a0K⟩, ⟨_, PySem.W.mg_of X G bu, a0L⟩, ⟨_, PySem.W.mg_of X G bA, a0M⟩, ⟨_, PySem.W.mg_of X G bB, a0N⟩, trivial⟩, ⟨⟨_, PySem.W.mg_of X G aO, a0O⟩, ⟨_, PySem.W.mg_of X G aP, a0P⟩, ⟨_, PySem.W.mg_of X G aQ, a0Q⟩, ⟨_, PySem.W.mg_of X G aR, a0R⟩, ⟨_, PySem.W.mg_of X G aU, a0S⟩, ⟨_, PySem.W.mg_of X G aV, a0T⟩, ⟨_, PySem.W.mg_of X G aW, a0U⟩, ⟨_, PySem.W.mg_of X G aX, a0V⟩, ⟨_, PySem.W.mg_of X G aY, a0W⟩, ⟨_, PySem.W.mg_of X G aZ, a0X⟩, ⟨_, PySem.W.mg_of X G bf, a0Y⟩, ⟨_, PySem.W.mg_of X G bh, a0Z⟩, ⟨_, PySem.W.mg_of X G bu, a1a⟩, ⟨_, PySem.W.mg_of X G bA, a1b⟩, ⟨_, PySem.W.mg_of X G bB, a1c⟩, trivial⟩, ⟨⟨_, PySem.W.mg_of X G aO, a1d⟩, ⟨_, PySem.W.mg_of X G aP, a1e⟩, ⟨_, PySem.W.mg_of X G aQ, a1f⟩, ⟨_, PySem.W.mg_of X G aR, a1g⟩, ⟨_, PySem.W.mg_of X G aU, a1h⟩, ⟨_, PySem.W.mg_of X G aV, a1i⟩, ⟨_, PySem.W.mg_of X G aW, a1j⟩, ⟨_, PySem.W.mg_of X G aX, a1k⟩, ⟨_, PySem.W.mg_of X G aY, a1l⟩, ⟨_, PySem.W.mg_of X G aZ, a1m⟩, ⟨_, PySem.W.mg_of X G bf, a1n⟩, ⟨_, PySem.W.mg_of X G bh, a1o⟩, ⟨_, PySem.W.mg_of X G bu, a1p⟩, ⟨_, PySem.W.mg_of X G bA, a1q⟩, ⟨_, PySem.W.mg_of X G bB, a1r⟩, trivial⟩, ⟨⟨_, PySem.W.mg_of X G aO, a1s⟩, ⟨_, PySem.W.mg_of X G aP, a1t⟩, ⟨_, PySem.W.mg_of X G aQ, a1u⟩, ⟨_, PySem.W.mg_of X G aR, a1v⟩, ⟨_, PySem.W.mg_of X G aU, a1w⟩, ⟨_, PySem.W.mg_of X G aV, a1x⟩, ⟨_, PySem.W.mg_of X G aW, a1y⟩, ⟨_, PySem.W.mg_of X G aX, a1z⟩, ⟨_, PySem.W.mg_of X G aY, a1A⟩, ⟨_, PySem.W.mg_of X G aZ, a1B⟩, ⟨_, PySem.W.mg_of X G bf, a1C⟩, ⟨_, PySem.W.mg_of X G bh, a1D⟩, ⟨_, PySem.W.mg_of X G bu, a1E⟩, ⟨_, PySem.W.mg_of X G bA, a1F⟩, ⟨_, PySem.W.mg_of X G bB, a1G⟩, trivial⟩, ⟨⟨_, PySem.W.mg_of X G aO, a1H⟩, ⟨_, PySem.W.mg_of X G aP, a1I⟩, ⟨_, PySem.W.mg_of X G aQ, a1J⟩, ⟨_, PySem.W.mg_of X G aR, a1K⟩, ⟨_, PySem.W.mg_of X G aU, a1L⟩, ⟨_, PySem.W.mg_of X G aV, a1M⟩, ⟨_, PySem.W.mg_of X G aW, a1N⟩, ⟨_, PySem.W.mg_of X G aX, a1O⟩, ⟨_, PySem.W.mg_of X G aY, a1P⟩, ⟨_, PySem.W.mg_of X G aZ, a1Q⟩, ⟨_, PySem.W.mg_of X G bf, a1R⟩, ⟨_, PySem.W.mg_of X G bh, a1S⟩, ⟨_, PySem.W.mg_of X G bu, a1T⟩, ⟨_, PySem.W.mg_of X G bA, a1U⟩, ⟨_, PySem.W.mg_of X G bB, a1V⟩, trivial⟩⟩
 have F0 := fun_mk (st := jj) l0 c0 k0
 have F1 := fun_mk (st := jk) l1 c1 k1
 have F2 := fun_mk (st := jm) l2 c2 k2
 have F3 := fun_mk (st := jo) l3 c3 k3
 have F4 := fun_mk (st := iZ) l4 c4 k4
 have F5 := fun_mk (st := jr) l5 c5 k5
 have F6 := fun_mk (st := iK) l6 c6 k6
 refine ⟨_, fun s v => .of_eq (fd := PySem.W.fnOf "law" "law" (defArgs iK) (defBody iK) (defScope iK) .none N6 N7 N8 Nb Nf Nh) rfl, fun base _ _ => ?_⟩
 have e0 : cV P w K mg base 1 "_law_rng" jj uf ug := Ly T F0 (PySem.W.mg_of X G a0) 
 have e1 : cV P w K mg base 1 "_law_draw" jk uh rF := Lz T F1 (PySem.W.mg_of X G a1) 
 have e2 : cV P w K mg base 3 "_law_made_errors" jm uo nY := LA T F2 (PySem.W.mg_of X G a2) 
 have e3 : cV P w K mg base 1 "_law_classes" jo uw nZ := LC T F3 (PySem.W.mg_of X G a3) 
 have e4 : cV P w K mg base 2 "_law_bases_right" iZ ux kE := LK T F4 (PySem.W.mg_of X G a4) e3
 have e5 : cV P w K mg base 1 "_law_fields" jr uy o7 := LQ T F5 (PySem.W.mg_of X G a5) 
 have e6 : cV P w K mg base 4 "law" iK uz kI := LU T F6 (PySem.W.mg_of X G a6) e0 e1 e2 e4 e5
 obtain ⟨fb, yy, qual, fd, Fq, hm, Gq⟩ := e6
 have ee := hfa.symm.trans hm
 cases ee
 exact Ip F6 Fq Gq
end bO
open PySem PySem.W PyProof.Rows L2 Mi in
set_option maxRecDepth 100000 in
set_option maxHeartbeats 0 in
theorem PySem.Challenge.cw_exactstop_k14_errors_made_holds : PySem.Challenge.rw_exactstop_k14_errors_made.Holds :=
 bO.close (Mi.Jt (l := PySem.Challenge.rw_exactstop_k14_errors_made) (k := 4) (n := 63) (x := "_law_script") (f := bO.kI) rfl (by decide) rfl ⟨rfl, by decide, by decide⟩ rfl bO.MG (fun w K mg fa h KX c G hmg => bO.all_mk KX c G hmg))
