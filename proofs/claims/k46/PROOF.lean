import PyProof.Rows.All
import Wide.All
import OpenK.AllK
import Wide.FinOn
import HandS.ForMost
import HandS.ForExc
import HandS.Head0
import HandS.Head1
import HandS.Head2
import HandS.HeadHook1
import HandS.HeadHook2
import HandS.HeadHook3
import HandS.ExcIs
import KE.KExcInit
import KE.KExcPX
import KE.KNestM
import HandS.HeadHook4
import HandS.ExcInit
import HandS.Flow
import HandS.IsInst
import HandS.TupAny
import PyProof.Rows.SeqMore
import HandS.Deep
import HandS.WordsDict
import PyProof.ReprRoads
import PyProof.CallFns
import HandS.EndBits
import HandS.More
import HandS.RaiseMore
import HandS.RevTup
import PyProof.WalksMore
import KE.GoesMore
import KE.GoesEnum
import HandS.Star
import HandS.Style
import PyProof.ReprBulk
import HandS.FStr
import HandS.Exc
import HandS.ExcField
import HandS.TryOnly
import KE.KExcIs
import HandS.WordsExc
import HandS.Iter
import HandS.Call
import HandS.Defaults
import HandS.MakeKwOnly
import HandS.OwnEq
import OpenK.KOps
import HandS.Finally
import HandS.DictComp
import HandS.DeepEq
import PyProof.P3Eq
import HandS.TryMany
import HandS.Strs
import HandS.StrMore
import HandS.DictEq
import HandS.SetTxt0
import HandS.Set
import PyProof.Rows.SortStr
import HandS.SetBool
import HandS.CallLocal
import HandS.Text
import KE.KUnpackStar
import HandS.DictTup
import HandS.ListItems
import KE.KSortTupAny
import KE.KDictZip
import KE.KDictList
import KE.KTryMore
import KE.KSortTupG
import PyProof.NeKinds
import HandS.HotCalls
import PyProof.DictUpdate
import PyProof.DictIter
import PyProof.FactsAll.dict_1
import HandS.ClsMeth
import HandS.Lambda
import PySem.Challenge.RW_exactstop_k46_records_refused_and_by_nam
set_option Elab.async false
set_option linter.all false
set_option maxRecDepth 100000
set_option maxHeartbeats 2000000
namespace Mi
open PySem L2
/-- a value as a tree; ref n: the n-th thing of the store -/
inductive D where
 | non | bl (b : Bool) | int (i : Int) | str (x : Str)
 | tup (xs : List D) | lst (xs : List D) | dct (kvs : List (Key × D))
 | ref (n : Nat) | ty (n : String) | fn (x : Str)
/-- a thing of the store: it may change -/
inductive SO where
 | lst (xs : List D) | dct (kvs : List (Key × D)) | ins (c : Str) (fs : List (Str × D)) | ig (kvs : List (Key × D)) | cG (xs : List D)
 | exo (c : Str) (m : Option Nat) | exd (fs : List (Str × D)) | tab (x q : Str)
abbrev Store := List SO
structure bT where
 cls : Str
 fs : List (Str × D)
/-- a slot: not set, a value, a container cA this slot alone holds -/
inductive Sl where
 | un | sh (d : D) | ow (d : D) | ex (e : bT)
abbrev aN := List Sl
inductive R (α : Type) where
 | ok (a : α) (S : Store) | exc (e : bT) (S : Store) | stuck
abbrev EX := aN → Store → R D
abbrev AX := aN → Store → R (List D)
abbrev BX := aN → Store → R Bool
inductive SR where
 | nx (ρ : aN) (S : Store) | rt (d : D) (S : Store) | bk (ρ : aN) (S : Store) | ct (ρ : aN) (S : Store) | exc (e : bT) (ρ : aN) (S : Store) | stuck
abbrev SX := aN → Store → SR
abbrev FX := List D → Store → R D
@[reducible] def R.bind {α β : Type} (r : R α) (f : α → Store → R β) : R β := match r with
 | .ok a S => f a S
 | .exc e S => .exc e S
 | .stuck => .stuck
/-- plain literals in a tuple of the module -/
def litOk : D → Bool
 | .str _ => true
 | .int _ => true
 | .non => true
 | _ => false
def dV : D → V
 | .str x => .str x
 | .int i => .int i
 | _ => .non
end Mi
namespace Mi
open PySem PySem.Spec PyProof.Rows L2
def inC (s : Stmt) (j : Nat) : Stmt := match s with
 | .ClassDef _ _ _ body _ _ _ _ _ _ _ => body.getD j (.Pass ⟨0, 0, 0, 0⟩)
 | _ => .Pass ⟨0, 0, 0, 0⟩
abbrev lY : Type := Bool × List He.FnV × List (Option (List (Option (Str × Int))))
def Ly (cs : List (PySem.W.Frag → Bool)) (fn : List He.FnD) (ts : List He.Tab) (K : PySem.W.Frag) : lY :=
 ((cs.all fun c => c K) && fn.all fun d => (He.Fa.code d.at_ d.qual).ok K && PySem.W.keepIn K (.ref (He.fAd K d.at_)), fn.map fun d => He.fnObs K d.at_, ts.map fun t => He.dicW K (t.1 K))
def Lz (fn : List He.FnD) (ts : List He.Tab) (w : World) : lY := (true, fn.map He.FnD.val, ts.map fun t => some (He.keysIn w.params t.2))
def oY (cs : List (PySem.W.Frag → Bool)) (fn : List He.FnD) (ts : List He.Tab) (w : World) (K : PySem.W.Frag) : Prop := Ly cs fn ts K = Lz fn ts w
def lZ (o : Option (Option Value)) (z : Str) : Bool := match o with
 | some (some (.str y _)) => decide (y = z)
 | _ => false
def D9 (o : Option (Option Value)) (z : Int) : Bool := match o with
 | some (some (.int y _)) => decide (y = z)
 | _ => false
def Aa (K : PySem.W.Frag) (a : Addr) (vs : List V) : Bool := match K.lookup a with
 | some ⟨.type c, _, .seq its _, _⟩ => decide (c = "tuple") && (decide (its.size ≤ sizeLine) && He.relAll vs its.toList)
 | _ => false
def Dc (K : PySem.W.Frag) : D → Value → Bool
 | .str x, .str y _ => decide (y = x)
 | .int i, .int j _ => decide (j = i)
 | .bl b, .bool c => b == c
 | .non, .none => true
 | .tup ds, .ref a => ds.all litOk && Aa K a (ds.map dV)
 | .fn x, .ref f => He.eqO (PySem.W.nsIn K mainGlobals x) (some (some (.ref f))) && PySem.W.keepIn K (.ref f)
 | _, _ => false
def Ab (K : PySem.W.Frag) : List DictEntry → List (Str × D) → Bool
 | [], [] => true
 | e :: es, (k, d) :: tab => (match e.key with
  | .str y _ => decide (y = k)
  | _ => false) && (Dc K d e.val && Ab K es tab)
 | _, _ => false
def Dd (K : PySem.W.Frag) (a : Addr) (tab : List (Str × D)) : Bool := match K.lookup a with
 | some ⟨_, _, .dict es _, _⟩ => Ab K es.toList tab
 | _ => false
def xN (K : PySem.W.Frag) (C : Addr) (newId : String) (p : List Value → Bool) : Bool := match K.lookup C with
 | some ⟨.type t, _, .cls cd, sl⟩ => decide (t = "type") && (match cd.mro, sl.toList with
  | .ref C' :: bm, [_, _, _, _, some (.builtin n), _] => decide (C' = C) && (decide (n = newId) && (cd.hasDict && (!cd.hasDel && p bm)))
  | _, _ => false)
 | _ => false
def eqB (a b : Option Value) : Bool := decide (a = b)
def eqP (a b : Option Bool) : Bool := decide (a = b)
def Ac (K : PySem.W.Frag) (C : Addr) : Bool := He.eqO (PySem.W.findIn K (.ref C) "__setattr__") (some (some (.builtin "object.__setattr__"))) && (eqP (PySem.W.subIn K (.ref C) (.type "BaseException")) (some true) && (eqB (PySem.W.typeIn K (.ref C)) (some (.type "type")) && PySem.W.keepIn K (.ref C)))
def De (K : PySem.W.Frag) (D : Addr) : Bool := He.eqO (PySem.W.findIn K (.ref D) "__getattribute__") (some (some (.builtin "BaseException.__getattribute__"))) && (He.eqO (PySem.W.findIn K (.ref D) "__getattr__") (some none) && (eqP (PySem.W.subIn K (.ref D) (.type "BaseException")) (some true) && (PySem.W.hasDictIn K D &&
 (He.eqO (PySem.W.findIn K (.ref D) "__class__") (some (some (.builtin "object.__class__"))) && (He.eqO (PySem.W.specialIn K (.builtin "object.__class__") "__get__") (some (some (.builtin "getset_descriptor.__get__"))) && (eqP (PySem.W.takesIn K (.builtin "object.__class__")) (some true) && eqP (PySem.W.mroIn K D (.type "object")) (some true)))))))
def LC (K : PySem.W.Frag) (B : Addr) : Bool := PySem.W.readsIn K B (.type "type") && ((match PySem.W.findCls K (.ref B) (.type "type") "__init__" with
 | some (.val v) => decide (v = .builtin "ValueError.__init__")
 | _ => false) && He.eqO (PySem.W.specialIn K (.ref B) "__getattribute__") (some (some (.builtin "type.__getattribute__"))))
theorem Df {a b : Bool} (h : (a && b) = true) : a = true ∧ b = true := Bool.and_eq_true_iff.mp h
def qG {α : Type} (g : Addr → Option Obj) (k : PySem.W.Frag → α) : Nat → PySem.W.Frag → α
 | 0, acc => match g mainGlobals with
  | some ⟨c, d, t, s⟩ => k ((mainGlobals, ⟨c, d, t, s⟩) :: acc)
  | none => k acc
 | n + 1, acc => match g n with
  | some ⟨c, d, t, s⟩ => if He.emptyTab ⟨c, d, t, s⟩ = true then qG g k n acc else qG g k n ((n, ⟨c, d, t, s⟩) :: acc)
  | none => qG g k n acc
theorem Ad {α : Type} {g : Addr → Option Obj} {k : PySem.W.Frag → α} : ∀ (n : Nat) (acc : PySem.W.Frag), (∀ a o, acc.lookup a = some o → g a = some o) → ∃ K : PySem.W.Frag, (∀ a o, K.lookup a = some o → g a = some o) ∧ qG g k n acc = k K
 | 0, acc, h => by
  unfold qG
  cases e : g mainGlobals with
  | none => exact ⟨acc, h, rfl⟩
  | some o =>
   obtain ⟨c, d, t, s⟩ := o
   refine ⟨_, fun a o q => ?_, rfl⟩
   by_cases ha : a = mainGlobals
   ·subst ha
    rw [List.lookup_cons_self] at q
    exact e.trans q
   ·rw [List.lookup_cons, show (a == mainGlobals) = false from beq_eq_false_iff_ne.mpr ha] at q
    exact h a o q
 | n + 1, acc, h => by
  unfold qG
  cases e : g n with
  | none => exact Ad n acc h
  | some o =>
   obtain ⟨c, d, t, s⟩ := o
   by_cases he : He.emptyTab ⟨c, d, t, s⟩ = true
   ·simp only [if_pos he]
    exact Ad n acc h
   ·simp only [if_neg he]
    refine Ad n _ fun a o q => ?_
    by_cases ha : a = n
    ·subst ha
     rw [List.lookup_cons_self] at q
     exact e.trans q
    ·rw [List.lookup_cons, show (a == n) = false from beq_eq_false_iff_ne.mpr ha] at q
     exact h a o q
/-- a xO code object and its table -/
def lamP (K : PySem.W.Frag) (x : Str) : Addr × Addr := match PySem.W.nsIn K mainGlobals x with
 | some (some (.ref f)) => match K.lookup f with
  | some ⟨_, _, .func fd, _⟩ => match fd.code with
   | .ref c => (c, He.tabOf K c)
   | _ => (0, 0)
  | _ => (0, 0)
 | _ => (0, 0)
def Ae (K : PySem.W.Frag) (x : Str) : Bool := (match PySem.W.nsIn K mainGlobals x with
 | some (some (.ref f)) => match K.lookup f with
  | some ⟨_, _, .func fd, _⟩ => decide (fd.code = .ref (lamP K x).1)
  | _ => false
 | _ => false) && PySem.W.codeHdIn K (lamP K x).1 (lamP K x).2
def Dg (g : Addr → Option Obj) (P : Addr) : Bool := match g P with
 | some o => He.emptyTab o
 | none => false
def LD (g : Addr → Option Obj) (lx : List Str) (K : PySem.W.Frag) : Bool := (lx.all fun x => Ae K x && ((K.lookup (lamP K x).2).isNone && Dg g (lamP K x).2)) && decide ((lx.map fun x => (lamP K x).2).Nodup)
def Dh (g : Addr → Option Obj) (lx : List Str) (cs : List (PySem.W.Frag → Bool)) (fn : List He.FnD) (ts : List He.Tab) (K : PySem.W.Frag) : Bool × lY := (LD g lx K, Ly cs fn ts K)
/-- what is told of the defs lx cA make LJ -/
structure Af (lx : List Str) (h : Heap) (K : PySem.W.Frag) : Prop where
 one : ∀ x ∈ lx, Ae K x = true ∧ K.lookup (lamP K x).2 = none ∧ h.get? (lamP K x).2 = some { cls := .none, data := .fields #[] }
 nd : (lx.map fun x => (lamP K x).2).Nodup
theorem Vn {lx : List Str} {h : Heap} {K : PySem.W.Frag} (e : LD h.get? lx K = true) : Af lx h K := by
 obtain ⟨h1, h2⟩ := Df (show ((lx.all fun x => Ae K x && ((K.lookup (lamP K x).2).isNone && Dg h.get? (lamP K x).2)) && decide ((lx.map fun x => (lamP K x).2).Nodup)) = true from e)
 refine ⟨fun x hx => ?_, of_decide_eq_true h2⟩
 obtain ⟨a, b⟩ := Df (List.all_eq_true.mp h1 x hx)
 obtain ⟨b, c⟩ := Df b
 refine ⟨a, ?_, ?_⟩
 ·cases z : K.lookup (lamP K x).2 with
  | none => rfl
  | some o => rw [z] at b; cases b
 ·unfold Dg at c
  cases z : h.get? (lamP K x).2 with
  | none => rw [z] at c; cases c
  | some o =>
   rw [z] at c
   rw [He.emptyTab_eq c]
def qH (n : Nat) (lx : List Str) (cs : List (PySem.W.Frag → Bool)) (fn : List He.FnD) (ts : List He.Tab) : PySem.W.Hook where
 α := Bool × lY
 obs := fun s => qG s.heap.get? (Dh s.heap.get? lx cs fn ts) n []
 val := fun w => (true, Lz fn ts w)
 says := fun w h => ∃ K : PySem.W.Frag, K.In h ∧ oY cs fn ts w K ∧ Af lx h K
 of := fun _ s e => by
  obtain ⟨K, hK, q⟩ := Ad (g := s.heap.get?) (k := Dh s.heap.get? lx cs fn ts) n [] (fun a o z => nomatch (show (none : Option Obj) = some o from z))
  have e := q.symm.trans e
  exact ⟨K, hK, congrArg (fun z : Bool × lY => z.2) e, Vn (congrArg (fun z : Bool × lY => z.1) e)⟩
 keeps := fun _ _ _ ⟨K, hK, c, l⟩ k => ⟨K, PySem.W.Frag.In.keeps hK k, c, ⟨fun x hx => let ⟨a, b, d⟩ := l.one x hx; ⟨a, b, k _ _ d⟩, l.nd⟩⟩
noncomputable def tK (n : Nat) (lx : List Str) (cs : List (PySem.W.Frag → Bool)) (fn : List He.FnD) (ts : List He.Tab) (s : PySem.W.SharedT) : Bool × lY := qG (HandSHeadRun.getT s) (Dh (HandSHeadRun.getT s) lx cs fn ts) n []
theorem Vo {n : Nat} {lx : List Str} {cs : List (PySem.W.Frag → Bool)} {fn : List He.FnD} {ts : List He.Tab} (s : PySem.W.SharedT) : tK n lx cs fn ts s = (qH n lx cs fn ts).obs s.abs := by
 have e : HandSHeadRun.getT s = s.abs.heap.get? := funext (HandSHeadRun.getT_eq s)
 unfold tK
 rw [e] <;> rfl
end Mi
namespace bA
open PySem PySem.Spec PyProof.Rows L2 Mi
def top (i : Nat) : Stmt := PySem.Challenge.pw_exactstop_k46_records_refused_and_by_nam.main.body.getD i (.Pass ⟨0, 0, 0, 0⟩)
def fR : List (Str × D) := [("step", .str ""), ("use", .str "bn"), ("back", .str "bn"), ("give", .str "bz"), ("out", .str "v"), ("put", .str "v"), ("caught", .str "b")]
abbrev tL : Stmt := inC (top 4) 0
abbrev tM : Stmt := inC (top 3) 0
abbrev nY : Stmt := top 24
abbrev nZ : Stmt := top 33
abbrev oZ : Stmt := top 43
abbrev jw : Stmt := top 44
abbrev m7 : Stmt := top 45
abbrev pq : Stmt := top 46
abbrev pA : Stmt := top 47
abbrev pB : Stmt := top 48
abbrev o7 : Stmt := top 49
abbrev tO : Stmt := top 50
abbrev o8 : Stmt := top 11
abbrev pC : Stmt := top 9
abbrev pD : Stmt := top 12
abbrev pF : Stmt := top 26
abbrev m9 : Stmt := top 27
abbrev jW : Stmt := top 28
abbrev mj : Stmt := top 30
abbrev mD : Stmt := top 31
abbrev pG : Stmt := top 35
abbrev mF : Stmt := top 36
abbrev lA : Stmt := top 37
abbrev mG : Stmt := top 38
abbrev mH : Stmt := top 39
abbrev lB : Stmt := top 40
abbrev o9 : Stmt := top 41
abbrev jx : Stmt := top 51
abbrev pH : Stmt := top 29
abbrev pJ : Stmt := top 32
abbrev pK : Stmt := top 34
abbrev jM : Stmt := top 52
abbrev lC : Stmt := top 53
abbrev hR : PySem.W.OpenRow := PySem.W.OpenLaw.row PySem.Challenge.rw_exactstop_k46_records_refused_and_by_nam
abbrev hQ : Program := PySem.W.view hR.prog [53]
def Vp : List (Str) := ["ExactStopError", "InvalidText", "InvalidRow", "InvalidAmount", "LETTERS", "MOST_LETTERS", "GREATEST_VALUE", "is_integer", "is_integer_names", "is_name", "is_value", "STEPS", "STEP", "USE", "BACK", "GIVE", "OUT", "PUT", "CAUGHT", "RESTORE", "FORMS", "is_integer_records", "fits", "is_row", "require_rows", "units", "used_by", "summary_of", "join", "power"]
def Vq : List (Str) := ["passes", "budgets_of", "first_failing", "outputs_of", "without_outputs", "after_end", "gives_of", "after_catch", "_law_rng", "_law_draw", "_law_names", "_law_funds", "_law_number", "_law_drawn_row", "_law_drawn_rows", "_law_kind", "_law_refusals_right", "_law_names_right"]
def hNames : List (Str) := Vp ++ Vq
abbrev LK : He.FnD := ⟨("is_integer_records", none), "is_integer", "is_integer", defArgs nY, defBody nY, defScope nY⟩
abbrev hD1 : He.FnD := ⟨("power", none), "power", "power", defArgs nZ, defBody nZ, defScope nZ⟩
abbrev hD2 : He.FnD := ⟨("_law_rng", none), "_law_rng", "_law_rng", defArgs oZ, defBody oZ, defScope oZ⟩
abbrev LL : He.FnD := ⟨("_law_draw", none), "_law_draw", "_law_draw", defArgs jw, defBody jw, defScope jw⟩
abbrev LN : He.FnD := ⟨("_law_names", none), "_law_names", "_law_names", defArgs m7, defBody m7, defScope m7⟩
abbrev LQ : He.FnD := ⟨("_law_funds", none), "_law_funds", "_law_funds", defArgs pq, defBody pq, defScope pq⟩
abbrev LU : He.FnD := ⟨("_law_number", none), "_law_number", "_law_number", defArgs pA, defBody pA, defScope pA⟩
abbrev LV : He.FnD := ⟨("_law_drawn_row", none), "_law_drawn_row", "_law_drawn_row", defArgs pB, defBody pB, defScope pB⟩
abbrev LX : He.FnD := ⟨("_law_drawn_rows", none), "_law_drawn_rows", "_law_drawn_rows", defArgs o7, defBody o7, defScope o7⟩
abbrev LY : He.FnD := ⟨("_law_kind", none), "_law_kind", "_law_kind", defArgs tO, defBody tO, defScope tO⟩
abbrev hD10 : He.FnD := ⟨("is_name", none), "is_name", "is_name", defArgs o8, defBody o8, defScope o8⟩
abbrev hD11 : He.FnD := ⟨("is_integer_names", none), "is_integer", "is_integer", defArgs pC, defBody pC, defScope pC⟩
abbrev LZ : He.FnD := ⟨("is_value", none), "is_value", "is_value", defArgs pD, defBody pD, defScope pD⟩
abbrev M3 : He.FnD := ⟨("fits", none), "fits", "fits", defArgs pF, defBody pF, defScope pF⟩
abbrev M4 : He.FnD := ⟨("is_row", none), "is_row", "is_row", defArgs m9, defBody m9, defScope m9⟩
abbrev M5 : He.FnD := ⟨("require_rows", none), "require_rows", "require_rows", defArgs jW, defBody jW, defScope jW⟩
abbrev M6 : He.FnD := ⟨("used_by", none), "used_by", "used_by", defArgs mj, defBody mj, defScope mj⟩
abbrev hD17 : He.FnD := ⟨("summary_of", none), "summary_of", "summary_of", defArgs mD, defBody mD, defScope mD⟩
abbrev M7 : He.FnD := ⟨("budgets_of", none), "budgets_of", "budgets_of", defArgs pG, defBody pG, defScope pG⟩
abbrev M8 : He.FnD := ⟨("first_failing", none), "first_failing", "first_failing", defArgs mF, defBody mF, defScope mF⟩
abbrev M9 : He.FnD := ⟨("outputs_of", none), "outputs_of", "outputs_of", defArgs lA, defBody lA, defScope lA⟩
abbrev Ma : He.FnD := ⟨("without_outputs", none), "without_outputs", "without_outputs", defArgs mG, defBody mG, defScope mG⟩
abbrev Mf : He.FnD := ⟨("after_end", none), "after_end", "after_end", defArgs mH, defBody mH, defScope mH⟩
abbrev Mg : He.FnD := ⟨("gives_of", none), "gives_of", "gives_of", defArgs lB, defBody lB, defScope lB⟩
abbrev Mh : He.FnD := ⟨("after_catch", none), "after_catch", "after_catch", defArgs o9, defBody o9, defScope o9⟩
abbrev Mj : He.FnD := ⟨("_law_refusals_right", none), "_law_refusals_right", "_law_refusals_right", defArgs jx, defBody jx, defScope jx⟩
abbrev Ml : He.FnD := ⟨("units", none), "units", "units", defArgs pH, defBody pH, defScope pH⟩
abbrev Mp : He.FnD := ⟨("join", none), "join", "join", defArgs pJ, defBody pJ, defScope pJ⟩
abbrev Mq : He.FnD := ⟨("passes", none), "passes", "passes", defArgs pK, defBody pK, defScope pK⟩
abbrev Mr : He.FnD := ⟨("_law_names_right", none), "_law_names_right", "_law_names_right", defArgs jM, defBody jM, defScope jM⟩
abbrev Ms : He.FnD := ⟨("law", none), "law", "law", defArgs lC, defBody lC, defScope lC⟩
abbrev Mu : He.FnD := ⟨("InvalidAmount", some "__init__"), "__init__", "InvalidAmount.__init__", defArgs tL, defBody tL, defScope tL⟩
abbrev Mv : He.FnD := ⟨("InvalidRow", some "__init__"), "__init__", "InvalidRow.__init__", defArgs tM, defBody tM, defScope tM⟩
abbrev hT0 : He.Tab := ((fun K => (He.ga K "FORMS")), ["step", "use", "back", "give", "out", "put", "caught"])
def Vr : List (He.FnD) := [LK, hD1, hD2, LL, LN, LQ, LU, LV, LX, LY, hD10, hD11, LZ, M3, M4, M5, M6, hD17, M7, M8, M9, Ma, Mf, Mg, Mh, Mj, Ml, Mp, Mq, Mr]
def Vs : List (He.FnD) := [Ms, Mu, Mv]
def lD : List (He.FnD) := Vr ++ Vs
def Vt : List (He.Tab) := [hT0]
def hTb : List (He.Tab) := Vt
def Vu : List (PySem.W.Frag → Bool) := [(fun K => He.eqO (PySem.W.nsIn K mainGlobals "is_integer_records") (some (some (.ref (He.ga K "is_integer_records"))))), (fun K => He.eqO (PySem.W.nsIn K mainGlobals "power") (some (some (.ref (He.ga K "power"))))), (fun K => He.eqO (PySem.W.nsIn K mainGlobals "_law_rng") (some (some (.ref (He.ga K "_law_rng"))))), (fun K => He.eqO (PySem.W.nsIn K mainGlobals "_law_draw") (some (some (.ref (He.ga K "_law_draw"))))), (fun K => He.eqO (PySem.W.nsIn K mainGlobals "_law_names") (some (some (.ref (He.ga K "_law_names"))))), (fun K => He.eqO (PySem.W.nsIn K mainGlobals "_law_funds") (some (some (.ref (He.ga K "_law_funds"))))), (fun K => He.eqO (PySem.W.nsIn K mainGlobals "_law_number") (some (some (.ref (He.ga K "_law_number"))))), (fun K => He.eqO (PySem.W.nsIn K mainGlobals "_law_drawn_row") (some (some (.ref (He.ga K "_law_drawn_row"))))), (fun K => He.eqO (PySem.W.nsIn K mainGlobals "_law_drawn_rows") (some (some (.ref (He.ga K "_law_drawn_rows"))))), (fun K => He.eqO (PySem.W.nsIn K mainGlobals "_law_kind") (some (some (.ref (He.ga K "_law_kind"))))), (fun K => He.eqO (PySem.W.nsIn K mainGlobals "is_name") (some (some (.ref (He.ga K "is_name"))))), (fun K => He.eqO (PySem.W.nsIn K mainGlobals "is_integer_names") (some (some (.ref (He.ga K "is_integer_names"))))), (fun K => He.eqO (PySem.W.nsIn K mainGlobals "is_value") (some (some (.ref (He.ga K "is_value"))))), (fun K => He.eqO (PySem.W.nsIn K mainGlobals "fits") (some (some (.ref (He.ga K "fits"))))), (fun K => He.eqO (PySem.W.nsIn K mainGlobals "is_row") (some (some (.ref (He.ga K "is_row"))))), (fun K => He.eqO (PySem.W.nsIn K mainGlobals "require_rows") (some (some (.ref (He.ga K "require_rows"))))), (fun K => He.eqO (PySem.W.nsIn K mainGlobals "used_by") (some (some (.ref (He.ga K "used_by"))))), (fun K => He.eqO (PySem.W.nsIn K mainGlobals "summary_of") (some (some (.ref (He.ga K "summary_of"))))), (fun K => He.eqO (PySem.W.nsIn K mainGlobals "budgets_of") (some (some (.ref (He.ga K "budgets_of"))))), (fun K => He.eqO (PySem.W.nsIn K mainGlobals "first_failing") (some (some (.ref (He.ga K "first_failing"))))), (fun K => He.eqO (PySem.W.nsIn K mainGlobals "outputs_of") (some (some (.ref (He.ga K "outputs_of"))))), (fun K => He.eqO (PySem.W.nsIn K mainGlobals "without_outputs") (some (some (.ref (He.ga K "without_outputs"))))), (fun K => He.eqO (PySem.W.nsIn K mainGlobals "after_end") (some (some (.ref (He.ga K "after_end"))))), (fun K => He.eqO (PySem.W.nsIn K mainGlobals "gives_of") (some (some (.ref (He.ga K "gives_of"))))), (fun K => He.eqO (PySem.W.nsIn K mainGlobals "after_catch") (some (some (.ref (He.ga K "after_catch"))))), (fun K => He.eqO (PySem.W.nsIn K mainGlobals "_law_refusals_right") (some (some (.ref (He.ga K "_law_refusals_right"))))), (fun K => He.eqO (PySem.W.nsIn K mainGlobals "units") (some (some (.ref (He.ga K "units"))))), (fun K => He.eqO (PySem.W.nsIn K mainGlobals "join") (some (some (.ref (He.ga K "join"))))), (fun K => He.eqO (PySem.W.nsIn K mainGlobals "passes") (some (some (.ref (He.ga K "passes"))))), (fun K => He.eqO (PySem.W.nsIn K mainGlobals "_law_names_right") (some (some (.ref (He.ga K "_law_names_right")))))]
def Vv : List (PySem.W.Frag → Bool) := [(fun K => He.eqO (PySem.W.nsIn K mainGlobals "law") (some (some (.ref (He.ga K "law"))))), (fun K => He.eqO (PySem.W.nsIn K mainGlobals "abs") (some none)), (fun K => He.eqO (PySem.W.nsIn K mainGlobals "all") (some none)), (fun K => He.eqO (PySem.W.nsIn K mainGlobals "bool") (some none)), (fun K => He.eqO (PySem.W.nsIn K mainGlobals "dict") (some none)), (fun K => He.eqO (PySem.W.nsIn K mainGlobals "divmod") (some none)), (fun K => He.eqO (PySem.W.nsIn K mainGlobals "enumerate") (some none)), (fun K => He.eqO (PySem.W.nsIn K mainGlobals "int") (some none)), (fun K => He.eqO (PySem.W.nsIn K mainGlobals "isinstance") (some none)), (fun K => He.eqO (PySem.W.nsIn K mainGlobals "len") (some none)), (fun K => He.eqO (PySem.W.nsIn K mainGlobals "list") (some none)), (fun K => He.eqO (PySem.W.nsIn K mainGlobals "max") (some none)), (fun K => He.eqO (PySem.W.nsIn K mainGlobals "min") (some none)), (fun K => He.eqO (PySem.W.nsIn K mainGlobals "range") (some none)), (fun K => He.eqO (PySem.W.nsIn K mainGlobals "repr") (some none)), (fun K => He.eqO (PySem.W.nsIn K mainGlobals "sorted") (some none)), (fun K => He.eqO (PySem.W.nsIn K mainGlobals "str") (some none)), (fun K => He.eqO (PySem.W.nsIn K mainGlobals "tuple") (some none)), (fun K => He.eqO (PySem.W.nsIn K mainGlobals "zip") (some none)), (fun K => lZ (PySem.W.nsIn K mainGlobals "BACK") "back"), (fun K => lZ (PySem.W.nsIn K mainGlobals "CAUGHT") "caught"), (fun K => lZ (PySem.W.nsIn K mainGlobals "GIVE") "give"), (fun K => D9 (PySem.W.nsIn K mainGlobals "GREATEST_VALUE") 1000000000000000000), (fun K => lZ (PySem.W.nsIn K mainGlobals "LETTERS") "abcdefghijklmnopqrstuvwxyz"), (fun K => D9 (PySem.W.nsIn K mainGlobals "MOST_LETTERS") 8), (fun K => lZ (PySem.W.nsIn K mainGlobals "OUT") "out"), (fun K => lZ (PySem.W.nsIn K mainGlobals "PUT") "put"), (fun K => lZ (PySem.W.nsIn K mainGlobals "RESTORE") "restore"), (fun K => lZ (PySem.W.nsIn K mainGlobals "STEP") "step"), (fun K => lZ (PySem.W.nsIn K mainGlobals "STEPS") "steps")]
def Vw : List (PySem.W.Frag → Bool) := [(fun K => lZ (PySem.W.nsIn K mainGlobals "USE") "use"), (fun K => He.eqO (PySem.W.nsIn K mainGlobals "FORMS") (some (some (.ref (He.ga K "FORMS"))))), (fun K => Dd K (He.ga K "FORMS") fR), (fun K => He.eqO (PySem.W.nsIn K mainGlobals "ExactStopError") (some (some (.ref (He.ga K "ExactStopError"))))), (fun K => He.eqO (PySem.W.nsIn K mainGlobals "InvalidAmount") (some (some (.ref (He.ga K "InvalidAmount"))))), (fun K => He.eqO (PySem.W.nsIn K mainGlobals "InvalidRow") (some (some (.ref (He.ga K "InvalidRow"))))), (fun K => He.eqO (PySem.W.nsIn K mainGlobals "InvalidText") (some (some (.ref (He.ga K "InvalidText"))))), (fun K => PySem.W.keepIn K (.ref (He.ga K "ExactStopError"))), (fun K => PySem.W.keepIn K (.ref (He.ga K "InvalidAmount"))), (fun K => PySem.W.keepIn K (.ref (He.ga K "InvalidRow"))), (fun K => PySem.W.keepIn K (.ref (He.ga K "InvalidText"))), (fun K => He.eqO (PySem.W.findIn K (.ref (He.ga K "InvalidAmount")) "__init__") (some (some (.ref (He.ma K (He.ga K "InvalidAmount") "__init__"))))), (fun K => Ac K (He.ga K "InvalidAmount")), (fun K => xN K (He.ga K "InvalidAmount") "ValueError.__new__" PySem.HandSPX.refsVE), (fun K => eqB (PySem.W.typeIn K (.ref (He.ma K (He.ga K "InvalidAmount") "__init__"))) (some (.type "function"))), (fun K => He.eqO (PySem.W.findIn K (.ref (He.ga K "InvalidAmount")) "value") (some none)), (fun K => De K (He.ga K "InvalidAmount")), (fun K => He.eqO (PySem.W.findIn K (.ref (He.ga K "InvalidRow")) "__init__") (some (some (.ref (He.ma K (He.ga K "InvalidRow") "__init__"))))), (fun K => Ac K (He.ga K "InvalidRow")), (fun K => xN K (He.ga K "InvalidRow") "ValueError.__new__" PySem.HandSPX.refsVE), (fun K => eqB (PySem.W.typeIn K (.ref (He.ma K (He.ga K "InvalidRow") "__init__"))) (some (.type "function"))), (fun K => He.eqO (PySem.W.findIn K (.ref (He.ga K "InvalidRow")) "value") (some none)), (fun K => De K (He.ga K "InvalidRow")), (fun K => LC K (He.ga K "ExactStopError")), (fun K => eqP (PySem.W.kitOne K (.ref (He.ga K "InvalidAmount")) (.ref (He.ga K "ExactStopError"))) (some true)), (fun K => eqP (PySem.W.kitOne K (.ref (He.ga K "InvalidAmount")) (.ref (He.ga K "InvalidAmount"))) (some true)), (fun K => eqP (PySem.W.kitOne K (.ref (He.ga K "InvalidAmount")) (.ref (He.ga K "InvalidRow"))) (some false)), (fun K => eqP (PySem.W.kitOne K (.ref (He.ga K "InvalidAmount")) (.ref (He.ga K "InvalidText"))) (some false)), (fun K => eqP (PySem.W.kitOne K (.ref (He.ga K "InvalidRow")) (.ref (He.ga K "ExactStopError"))) (some true)), (fun K => eqP (PySem.W.kitOne K (.ref (He.ga K "InvalidRow")) (.ref (He.ga K "InvalidAmount"))) (some false))]
def Vx : List (PySem.W.Frag → Bool) := [(fun K => eqP (PySem.W.kitOne K (.ref (He.ga K "InvalidRow")) (.ref (He.ga K "InvalidRow"))) (some true)), (fun K => eqP (PySem.W.kitOne K (.ref (He.ga K "InvalidRow")) (.ref (He.ga K "InvalidText"))) (some false)), (fun K => eqP (PySem.W.exmOne K (.ref (He.ga K "InvalidAmount")) (.ref (He.ga K "InvalidAmount"))) (some true)), (fun K => eqP (PySem.W.exmOne K (.ref (He.ga K "InvalidRow")) (.ref (He.ga K "InvalidAmount"))) (some false)), (fun K => eqP (PySem.W.exmOne K (.ref (He.ga K "InvalidAmount")) (.ref (He.ga K "InvalidRow"))) (some false)), (fun K => eqP (PySem.W.exmOne K (.ref (He.ga K "InvalidRow")) (.ref (He.ga K "InvalidRow"))) (some true))]
def lE : List (PySem.W.Frag → Bool) := Vu ++ Vv ++ Vw ++ Vx
abbrev jf : List Str := ["_law_refusals_right", "law"]
set_option maxHeartbeats 0 in
theorem Vy (w : World) : HandSHeadRun.RunEq hR hQ (qH 1600 jf lE lD hTb) (tK 1600 jf lE lD hTb) 40000 hNames (w.withFollow "special-get-raises" false) := by
 intro os
 kernel_rfl
set_option maxHeartbeats 0 in
theorem Vz (w : World) : HandSHeadRun.RunEq hR hQ (qH 1600 jf lE lD hTb) (tK 1600 jf lE lD hTb) 40000 hNames (w.withFollow "special-get-raises" true) := by
 intro os
 kernel_rfl
theorem VA (w : World) : HandSHeadRun.RunEq hR hQ (qH 1600 jf lE lD hTb) (tK 1600 jf lE lD hTb) 40000 hNames w := PySem.W.byRow2 "special-get-raises" (P := fun w => HandSHeadRun.RunEq hR hQ (qH 1600 jf lE lD hTb) (tK 1600 jf lE lD hTb) 40000 hNames w) Vy Vz w
def VB : DefRec := match PySem.W.defOf hQ hR.name with
 | some (d, _) => d
 | none => HandSHeadRun.topDef hR.prog 0
end bA
open PySem PySem.W PyProof.Rows L2 Mi in
set_option maxRecDepth 100000 in
set_option maxHeartbeats 0 in
theorem bA.close (hc : PySem.W.WalkO bA.hQ bA.hNames (PySem.W.XL bA.hQ []) (Mi.qH 1600 bA.jf bA.lE bA.lD bA.hTb).says bA.hR.toRowW bA.VB [] (fun f vs => PySem.call f vs)) : PySem.Challenge.rw_exactstop_k46_records_refused_and_by_nam.Holds := by
 w_on; o_law
 refine HandSHeadRun.head_any (r := bA.hR) (q := bA.hQ) (H := Mi.qH 1600 bA.jf bA.lE bA.lD bA.hTb) (ob := Mi.tK 1600 bA.jf bA.lE bA.lD bA.hTb) (M := 40000) (loose := bA.hNames) (kwd := []) Mi.Vo (by kernel_rfl) (fun s => by kernel_rfl) bA.VA (by rfl) (by rfl) (by rfl) (by rfl) (by first | assumption | decide +kernel) (by decide +kernel) ⟨rfl, rfl, rfl, rfl, rfl, by decide +kernel⟩ ?hw hc
 case hw => w_witness2
namespace Mi
open PySem L2
/-- what is known of the module -/
structure Ct where
 K : PySem.W.Frag
 mg : Str → Option Value
 w : World
 pn : List (Addr × Obj)
def KL (K : PySem.W.Frag) (a : Addr) (xs : List V) : Prop :=
 ∃ (o : Obj) (its : Array Value) (n : Nat), K.lookup a = some o ∧ o.cls = .type "list" ∧ o.dict = none ∧ o.data = .seq its n ∧ its.size ≤ sizeLine ∧ Vals xs its.toList
def KT (K : PySem.W.Frag) (a : Addr) (xs : List V) : Prop :=
 ∃ (o : Obj) (its : Array Value) (n : Nat), K.lookup a = some o ∧ o.cls = .type "tuple" ∧ o.data = .seq its n ∧ its.size ≤ sizeLine ∧ Vals xs its.toList
/-- a thing cA is frozen for VC -/
def Fz (H : Hp) (a : Addr) (u : HO) : Prop := ∃ o, H a = some (.frz o u)
theorem Fz.rd {H : Hp} {a : Addr} {u : HO} (h : Fz H a u) : Rd H a u := .inr h
mutual
inductive RV (C : Ct) (H : Hp) (P : Addr → Prop) (β : List Addr) : V → D → Prop
 | non : RV C H P β .non .non
 | bl (b : Bool) : RV C H P β (.bl b) (.bl b)
 | int (i : Int) : RV C H P β (.int i) (.int i)
 | str (x : Str) : RV C H P β (.str x) (.str x)
 | ty (n : String) : RV C H P β (.ty n) (.ty n)
 | lst {a : Addr} {xs : List V} {ds : List D} : ¬ P a → a ∉ β → Rd H a (.lst xs) → aD C H P β xs ds → RV C H P β (.ref a) (.lst ds)
 | tup {a : Addr} {xs : List V} {ds : List D} : Rd H a (.tup xs) → aD C H P β xs ds → RV C H P β (.ref a) (.tup ds)
 | fK {a : Addr} {xs : List V} {ds : List D} : KT C.K a xs → aD C H P β xs ds → RV C H P β (.ref a) (.tup ds)
 | fL {a : Addr} {xs : List V} {ds : List D} : KL C.K a xs → aD C H P β xs ds → RV C H P β (.ref a) (.lst ds)
 | dct {a : Addr} {xs : List (Key × V)} {ds : List (Key × D)} : ¬ P a → a ∉ β → Fz H a (.dK xs) → aP C H P β xs ds → RV C H P β (.ref a) (.dct ds)
 | ref {n : Nat} {a : Addr} : β[n]? = some a → RV C H P β (.ref a) (.ref n)
 | fn {x : Str} {f : Addr} : C.mg x = some (.ref f) → PySem.W.keepIn C.K (.ref f) = true → RV C H P β (.ref f) (.fn x)
inductive aD (C : Ct) (H : Hp) (P : Addr → Prop) (β : List Addr) : List V → List D → Prop
 | nil : aD C H P β [] []
 | cons {v : V} {vs : List V} {d : D} {ds : List D} : RV C H P β v d → aD C H P β vs ds → aD C H P β (v :: vs) (d :: ds)
inductive aP (C : Ct) (H : Hp) (P : Addr → Prop) (β : List Addr) : List (Key × V) → List (Key × D) → Prop
 | nil : aP C H P β [] []
 | cons {k : Key} {v : V} {vs : List (Key × V)} {d : D} {ds : List (Key × D)} : RV C H P β v d → aP C H P β vs ds → aP C H P β ((k, v) :: vs) ((k, d) :: ds)
end
/-- what an expression may do to the heap and the qI places -/
structure Ext (H : Hp) (β : List Addr) (H' : Hp) (β' : List Addr) : Prop where
 pre : ∃ γ, β' = β ++ γ
 keep : ∀ a o, H a = some o → a ∉ β → H' a = some o
 fresh : ∀ a ∈ β', a ∈ β ∨ H a = none
 tups : ∀ a xs, Rd H a (.tup xs) → Rd H' a (.tup xs)
 stay : ∀ a, H a ≠ none → H' a ≠ none
 fB : ∀ a o u, H a = some (.frz o u) → H' a = some (.frz o u)
theorem Ext.refl (H : Hp) (β : List Addr) : Ext H β H β := ⟨⟨[], (List.append_nil β).symm⟩, fun _ _ h _ => h, fun _ h => .inl h, fun _ _ h => h, fun _ h => h, fun _ _ _ h => h⟩
theorem Ext.mem {H H' : Hp} {β β' : List Addr} (e : Ext H β H' β') {a : Addr} (h : a ∈ β) : a ∈ β' := by
 obtain ⟨γ, r⟩ := e.pre
 rw [r]; exact List.mem_append_left _ h
theorem Ext.get {H H' : Hp} {β β' : List Addr} (e : Ext H β H' β') {n : Nat} {a : Addr} (h : β[n]? = some a) : β'[n]? = some a := by
 obtain ⟨γ, r⟩ := e.pre
 rw [r, List.getElem?_append_left (List.getElem?_eq_some_iff.mp h).1]; exact h
theorem Ext.out {H H' : Hp} {β β' : List Addr} (e : Ext H β H' β') {a : Addr} (h : a ∉ β) (hn : H a ≠ none) : a ∉ β' := fun m => (e.fresh a m).elim h hn
theorem Ext.trans {H H1 H2 : Hp} {β β1 β2 : List Addr} (a : Ext H β H1 β1) (b : Ext H1 β1 H2 β2) : Ext H β H2 β2 where
 pre := by
  obtain ⟨γ, r⟩ := a.pre
  obtain ⟨γ', r'⟩ := b.pre
  exact ⟨γ ++ γ', by rw [r', r, List.append_assoc]⟩
 keep := fun c o h hn => b.keep c o (a.keep c o h hn) (a.out hn (by rw [h]; exact Option.some_ne_none _))
 fresh := fun c h => by
  rcases b.fresh c h with q | q
  ·exact a.fresh c q
  ·by_cases m : c ∈ β
   ·exact .inl m
   ·right
    cases z : H c with
    | none => rfl
    | some o => rw [a.keep c o z m] at q; cases q
 tups := fun c xs h => b.tups c xs (a.tups c xs h)
 stay := fun c h => b.stay c (a.stay c h)
 fB := fun c o u h => b.fB c o u (a.fB c o u h)
/-- a new thing laid -/
theorem Ext.laid {H : Hp} {β : List Addr} {p : Addr} {o : HO} (hp : H p = none) : Ext H β (upd H p o) β where
 pre := ⟨[], (List.append_nil β).symm⟩
 keep := fun a u h _ => by rw [upd_ne (ne_of_none h hp)]; exact h
 fresh := fun _ h => .inl h
 tups := fun a xs h => by
  rcases h with h | ⟨ob, h⟩
  ·exact .inl (by rw [upd_ne (ne_of_none h hp)]; exact h)
  ·exact .inr ⟨ob, by rw [upd_ne (ne_of_none h hp)]; exact h⟩
 stay := fun a h => by
  by_cases e : a = p
  ·rw [e, upd_same]; exact Option.some_ne_none _
  ·rw [upd_ne e]; exact h
 fB := fun a o u h => by rw [upd_ne (ne_of_none h hp)]; exact h
theorem oh {H : Hp} {a : Addr} {u : HO} (h : Rd H a u) : H a ≠ none := by
 rcases h with h | ⟨o, h⟩ <;> (rw [h]; exact Option.some_ne_none _)
theorem Ext.fz {H H' : Hp} {β β' : List Addr} (e : Ext H β H' β') {a : Addr} {u : HO} (hn : a ∉ β) (h : Fz H a u) : Fz H' a u := let ⟨o, q⟩ := h; ⟨o, e.keep _ _ q hn⟩
theorem Ext.rd {H H' : Hp} {β β' : List Addr} (e : Ext H β H' β') {a : Addr} {u : HO} (hn : a ∉ β) (h : Rd H a u) : Rd H' a u := by
 rcases h with h | ⟨o, h⟩
 ·exact .inl (e.keep _ _ h hn)
 ·exact .inr ⟨o, e.keep _ _ h hn⟩
section
variable {C : Ct} {H H' : Hp} {P P' : Addr → Prop} {β β' : List Addr}
mutual
theorem RV.mono (e : Ext H β H' β') : ∀ {v : V} {d : D}, RV C H P β v d → RV C H' P β' v d
 | _, _, .non => .non
 | _, _, .bl b => .bl b
 | _, _, .int i => .int i
 | _, _, .str x => .str x
 | _, _, .ty n => .ty n
 | _, _, .lst hp hb hr h => .lst hp (e.out hb (oh hr)) (e.rd hb hr) (aD.mono e h)
 | _, _, .tup hr h => .tup (e.tups _ _ hr) (aD.mono e h)
 | _, _, .fK k h => .fK k (aD.mono e h)
 | _, _, .fL k h => .fL k (aD.mono e h)
 | _, _, .dct hp hb hr h => .dct hp (e.out hb (oh hr.rd)) (e.fz hb hr) (aP.mono e h)
 | _, _, .ref h => .ref (e.get h)
 | _, _, .fn h k => .fn h k
theorem aD.mono (e : Ext H β H' β') : ∀ {vs : List V} {ds : List D}, aD C H P β vs ds → aD C H' P β' vs ds
 | _, _, .nil => .nil
 | _, _, .cons h t => .cons (RV.mono e h) (aD.mono e t)
theorem aP.mono (e : Ext H β H' β') : ∀ {vs : List (Key × V)} {ds : List (Key × D)}, aP C H P β vs ds → aP C H' P β' vs ds
 | _, _, .nil => .nil
 | _, _, .cons h t => .cons (RV.mono e h) (aP.mono e t)
end
mutual
theorem RV.ct {C' : Ct} (k : C'.K = C.K) (m : C'.mg = C.mg) : ∀ {v : V} {d : D}, RV C H P β v d → RV C' H P β v d
 | _, _, .non => .non
 | _, _, .bl b => .bl b
 | _, _, .int i => .int i
 | _, _, .str x => .str x
 | _, _, .ty n => .ty n
 | _, _, .lst hp hb hr h => .lst hp hb hr (aD.ct k m h)
 | _, _, .tup hr h => .tup hr (aD.ct k m h)
 | _, _, .fK q h => .fK (k ▸ q) (aD.ct k m h)
 | _, _, .fL q h => .fL (k ▸ q) (aD.ct k m h)
 | _, _, .dct hp hb hr h => .dct hp hb hr (aP.ct k m h)
 | _, _, .ref h => .ref h
 | _, _, .fn h q => .fn (m ▸ h) (k ▸ q)
theorem aD.ct {C' : Ct} (k : C'.K = C.K) (m : C'.mg = C.mg) : ∀ {vs : List V} {ds : List D}, aD C H P β vs ds → aD C' H P β vs ds
 | _, _, .nil => .nil
 | _, _, .cons h t => .cons (RV.ct k m h) (aD.ct k m t)
theorem aP.ct {C' : Ct} (k : C'.K = C.K) (m : C'.mg = C.mg) : ∀ {vs : List (Key × V)} {ds : List (Key × D)}, aP C H P β vs ds → aP C' H P β vs ds
 | _, _, .nil => .nil
 | _, _, .cons h t => .cons (RV.ct k m h) (aP.ct k m t)
end
mutual
theorem RV.less (e : ∀ a, P' a → P a) : ∀ {v : V} {d : D}, RV C H P β v d → RV C H P' β v d
 | _, _, .non => .non
 | _, _, .bl b => .bl b
 | _, _, .int i => .int i
 | _, _, .str x => .str x
 | _, _, .ty n => .ty n
 | _, _, .lst hp hb hr h => .lst (fun z => hp (e _ z)) hb hr (aD.less e h)
 | _, _, .tup hr h => .tup hr (aD.less e h)
 | _, _, .fK k h => .fK k (aD.less e h)
 | _, _, .fL k h => .fL k (aD.less e h)
 | _, _, .dct hp hb hr h => .dct (fun z => hp (e _ z)) hb hr (aP.less e h)
 | _, _, .ref h => .ref h
 | _, _, .fn h k => .fn h k
theorem aD.less (e : ∀ a, P' a → P a) : ∀ {vs : List V} {ds : List D}, aD C H P β vs ds → aD C H P' β vs ds
 | _, _, .nil => .nil
 | _, _, .cons h t => .cons (RV.less e h) (aD.less e t)
theorem aP.less (e : ∀ a, P' a → P a) : ∀ {vs : List (Key × V)} {ds : List (Key × D)}, aP C H P β vs ds → aP C H P' β vs ds
 | _, _, .nil => .nil
 | _, _, .cons h t => .cons (RV.less e h) (aP.less e t)
end
mutual
theorem RV.more {p : Addr} (hp : H p = none) : ∀ {v : V} {d : D}, RV C H P β v d → RV C H (fun a => P a ∨ a = p) β v d
 | _, _, .non => .non
 | _, _, .bl b => .bl b
 | _, _, .int i => .int i
 | _, _, .str x => .str x
 | _, _, .ty n => .ty n
 | _, _, .lst h1 hb hr h => .lst (fun z => z.elim h1 fun e => (oh hr) (by rw [e]; exact hp)) hb hr (aD.more hp h)
 | _, _, .tup hr h => .tup hr (aD.more hp h)
 | _, _, .fK k h => .fK k (aD.more hp h)
 | _, _, .fL k h => .fL k (aD.more hp h)
 | _, _, .dct h1 hb hr h => .dct (fun z => z.elim h1 fun e => (oh hr.rd) (by rw [e]; exact hp)) hb hr (aP.more hp h)
 | _, _, .ref h => .ref h
 | _, _, .fn h k => .fn h k
theorem aD.more {p : Addr} (hp : H p = none) : ∀ {vs : List V} {ds : List D}, aD C H P β vs ds → aD C H (fun a => P a ∨ a = p) β vs ds
 | _, _, .nil => .nil
 | _, _, .cons h t => .cons (RV.more hp h) (aD.more hp t)
theorem aP.more {p : Addr} (hp : H p = none) : ∀ {vs : List (Key × V)} {ds : List (Key × D)}, aP C H P β vs ds → aP C H (fun a => P a ∨ a = p) β vs ds
 | _, _, .nil => .nil
 | _, _, .cons h t => .cons (RV.more hp h) (aP.more hp t)
end
mutual
theorem RV.set {p : Addr} {o : HO} (hp : P p ∨ p ∈ β) (ht : ∀ xs, ¬ Rd H p (.tup xs)) : ∀ {v : V} {d : D}, RV C H P β v d → RV C (upd H p o) P β v d
 | _, _, .non => .non
 | _, _, .bl b => .bl b
 | _, _, .int i => .int i
 | _, _, .str x => .str x
 | _, _, .ty n => .ty n
 | .ref a, _, .lst (xs := xs) h1 hb hr h => by
  have ne : a ≠ p := fun e => hp.elim (fun z => h1 (e ▸ z)) (fun z => hb (e ▸ z))
  exact .lst h1 hb (by unfold Rd; rw [upd_ne ne]; exact hr) (aD.set hp ht h)
 | .ref a, _, .tup (xs := xs) hr h => by
  have ne : a ≠ p := fun e => ht xs (e ▸ hr)
  exact .tup (by unfold Rd; rw [upd_ne ne]; exact hr) (aD.set hp ht h)
 | _, _, .fK k h => .fK k (aD.set hp ht h)
 | _, _, .fL k h => .fL k (aD.set hp ht h)
 | .ref a, _, .dct (xs := xs) h1 hb hr h => by
  have ne : a ≠ p := fun e => hp.elim (fun z => h1 (e ▸ z)) (fun z => hb (e ▸ z))
  exact .dct h1 hb (let ⟨o, q⟩ := hr; ⟨o, by rw [upd_ne ne]; exact q⟩) (aP.set hp ht h)
 | _, _, .ref h => .ref h
 | _, _, .fn h k => .fn h k
theorem aD.set {p : Addr} {o : HO} (hp : P p ∨ p ∈ β) (ht : ∀ xs, ¬ Rd H p (.tup xs)) : ∀ {vs : List V} {ds : List D}, aD C H P β vs ds → aD C (upd H p o) P β vs ds
 | _, _, .nil => .nil
 | _, _, .cons h t => .cons (RV.set hp ht h) (aD.set hp ht t)
theorem aP.set {p : Addr} {o : HO} (hp : P p ∨ p ∈ β) (ht : ∀ xs, ¬ Rd H p (.tup xs)) : ∀ {vs : List (Key × V)} {ds : List (Key × D)}, aP C H P β vs ds → aP C (upd H p o) P β vs ds
 | _, _, .nil => .nil
 | _, _, .cons h t => .cons (RV.set hp ht h) (aP.set hp ht t)
end
end
section
variable {C : Ct} {H : Hp} {P : Addr → Prop} {β : List Addr}
theorem aD.length : ∀ {vs : List V} {ds : List D}, aD C H P β vs ds → vs.length = ds.length
 | _, _, .nil => rfl
 | _, _, .cons _ t => by simp [aD.length t]
theorem aD.get : ∀ {vs : List V} {ds : List D} {i : Nat} {d : D}, aD C H P β vs ds → ds[i]? = some d → ∃ v, vs[i]? = some v ∧ RV C H P β v d
 | _, _, 0, _, .cons h _, e => by simp at e; subst e; exact ⟨_, rfl, h⟩
 | _, _, i + 1, _, .cons _ t, e => by
  obtain ⟨v, h1, h2⟩ := aD.get (i := i) t (by simpa using e)
  exact ⟨v, by simpa using h1, h2⟩
 | _, _, _, _, .nil, e => by simp at e
theorem aD.of : ∀ {vs : List V} {ds : List D} {i : Nat} {v : V}, aD C H P β vs ds → vs[i]? = some v → ∃ d, ds[i]? = some d ∧ RV C H P β v d
 | _, _, 0, _, .cons h _, e => by simp at e; subst e; exact ⟨_, rfl, h⟩
 | _, _, i + 1, _, .cons _ t, e => by
  obtain ⟨v, h1, h2⟩ := aD.of (i := i) t (by simpa using e)
  exact ⟨v, by simpa using h1, h2⟩
 | _, _, _, _, .nil, e => by simp at e
theorem aD.append : ∀ {vs us : List V} {ds es : List D}, aD C H P β vs ds → aD C H P β us es → aD C H P β (vs ++ us) (ds ++ es)
 | _, _, _, _, .nil, s => s
 | _, _, _, _, .cons r t, s => .cons r (aD.append t s)
theorem aD.set' : ∀ {vs : List V} {ds : List D} {v : V} {d : D} (i : Nat), aD C H P β vs ds → RV C H P β v d → aD C H P β (vs.set i v) (ds.set i d)
 | _, _, _, _, _, .nil, _ => .nil
 | _, _, _, _, 0, .cons _ t, r => .cons r t
 | _, _, _, _, i + 1, .cons h t, r => .cons h (aD.set' i t r)
theorem aD.take : ∀ {vs : List V} {ds : List D} (n : Nat), aD C H P β vs ds → aD C H P β (vs.take n) (ds.take n)
 | _, _, 0, _ => .nil
 | _, _, _ + 1, .nil => .nil
 | _, _, n + 1, .cons r t => .cons r (aD.take n t)
theorem aD.drop : ∀ {vs : List V} {ds : List D} (n : Nat), aD C H P β vs ds → aD C H P β (vs.drop n) (ds.drop n)
 | _, _, 0, r => r
 | _, _, _ + 1, .nil => .nil
 | _, _, n + 1, .cons _ t => aD.drop n t
theorem aD.reverse : ∀ {vs : List V} {ds : List D}, aD C H P β vs ds → aD C H P β vs.reverse ds.reverse
 | _, _, .nil => .nil
 | _, _, .cons r t => by
  rw [List.reverse_cons, List.reverse_cons]
  exact aD.append (aD.reverse t) (.cons r .nil)
theorem aP.keys : ∀ {vs : List (Key × V)} {ds : List (Key × D)}, aP C H P β vs ds → vs.map (·.1) = ds.map (·.1)
 | _, _, .nil => rfl
 | _, _, .cons _ t => by simp [aP.keys t]
theorem aP.length {vs : List (Key × V)} {ds : List (Key × D)} (h : aP C H P β vs ds) : vs.length = ds.length := by
 have := congrArg List.length h.keys
 simpa using this
end
section
variable {C : Ct} {H : Hp} {P : Addr → Prop} {β : List Addr}
mutual
theorem RV.jN {p : Addr} : ∀ {v : V} {d : D}, RV C H (fun b => P b ∨ b = p) β v d → RV C H P (β ++ [p]) v d
 | _, _, .non => .non
 | _, _, .bl b => .bl b
 | _, _, .int i => .int i
 | _, _, .str x => .str x
 | _, _, .ty n => .ty n
 | _, _, .lst h1 hb hr h => .lst (fun z => h1 (.inl z)) (fun z => (List.mem_append.mp z).elim hb fun e => h1 (.inr (List.mem_singleton.mp e))) hr (aD.jN h)
 | _, _, .tup hr h => .tup hr (aD.jN h)
 | _, _, .fK k h => .fK k (aD.jN h)
 | _, _, .fL k h => .fL k (aD.jN h)
 | _, _, .dct h1 hb hr h => .dct (fun z => h1 (.inl z)) (fun z => (List.mem_append.mp z).elim hb fun e => h1 (.inr (List.mem_singleton.mp e))) hr (aP.jN h)
 | _, _, .ref (n := n) (a := a) h => .ref (by rw [List.getElem?_append_left (List.getElem?_eq_some_iff.mp h).1]; exact h)
 | _, _, .fn h k => .fn h k
theorem aD.jN {p : Addr} : ∀ {vs : List V} {ds : List D}, aD C H (fun b => P b ∨ b = p) β vs ds → aD C H P (β ++ [p]) vs ds
 | _, _, .nil => .nil
 | _, _, .cons h t => .cons (RV.jN h) (aD.jN t)
theorem aP.jN {p : Addr} : ∀ {vs : List (Key × V)} {ds : List (Key × D)}, aP C H (fun b => P b ∨ b = p) β vs ds → aP C H P (β ++ [p]) vs ds
 | _, _, .nil => .nil
 | _, _, .cons h t => .cons (RV.jN h) (aP.jN t)
end
end
/-- a xO entry: the heap, the qI places, what its callers keep apart; the Mw cA its loops have locked -/
structure Cf where
 H0 : Hp
 β0 : List Addr
 P0 : Addr → Prop
 lk : List Addr
structure pM (cf : Cf) (H : Hp) (β : List Addr) : Prop where
 pre : ∃ γ, β = cf.β0 ++ γ
 keep : ∀ a o, cf.H0 a = some o → a ∉ cf.β0 → H a = some o ∨ (a ∈ cf.lk ∧ ∃ ob, H a = some (.frz ob o))
 fresh : ∀ a ∈ β, a ∈ cf.β0 ∨ cf.H0 a = none
 tups : ∀ a xs, Rd cf.H0 a (.tup xs) → Rd H a (.tup xs)
 stay : ∀ a, cf.H0 a ≠ none → H a ≠ none
 fB : ∀ a o u, cf.H0 a = some (.frz o u) → H a = some (.frz o u)
def xP (C : Ct) (H : Hp) (P : Addr → Prop) (β : List Addr) (vs : List (Str × V)) (fs : List (Str × D)) : Prop :=
 vs.map (·.1) = fs.map (·.1) ∧ aD C H P β (vs.map (·.2)) (fs.map (·.2))
/-- the place of an a8w dict -/
def Ag (β : List Addr) (m : Option Nat) (d : Option Addr) : Prop := match m with
 | none => d = none
 | some k => ∃ dd, d = some dd ∧ β[k]? = some dd
theorem Ag.app {β γ : List Addr} {m : Option Nat} {d : Option Addr} (h : Ag β m d) : Ag (β ++ γ) m d := by
 cases m with
 | none => exact h
 | some k =>
  obtain ⟨dd, e, h⟩ := h
  exact ⟨dd, e, by rw [List.getElem?_append_left (List.getElem?_eq_some_iff.mp h).1]; exact h⟩
/-- a code object cA bears the name q -/
def jy (c : Addr) (q : Str) : HO := .ext fun h => ∃ (oc : Obj) (vs : Array Value) (t : Tok), h.get? c = some oc ∧ oc.data = .fields vs ∧ vs[1]? = some (.str q t)
/-- a xO table of the LJ cA it has made -/
def mJ (H : Hp) (P : Addr → Prop) (β : List Addr) (a : Addr) (q : Str) : Prop :=
 ∃ ps : Array Value, H a = some (.tbl ps) ∧ PySem.TriplesOk ps.toList ∧ ∀ (pos : Pos) (cv : Value), codeAmong pos ps.toList = some cv → ∃ c, cv = .ref c ∧ Rd H c (jy c q) ∧ ¬ P c ∧ c ∉ β
theorem mJ.mv {H H' : Hp} {P P' : Addr → Prop} {β β' : List Addr} {a : Addr} {q : Str} (h : mJ H P β a q) (ha : ∀ o, H a = some o → H' a = some o) (k : ∀ c, Rd H c (jy c q) → ¬ P c → c ∉ β → Rd H' c (jy c q) ∧ ¬ P' c ∧ c ∉ β') : mJ H' P' β' a q := by
 obtain ⟨ps, h1, h2, h3⟩ := h
 refine ⟨ps, ha _ h1, h2, fun pos cv hc => ?_⟩
 obtain ⟨c, e, r1, r2, r3⟩ := h3 pos cv hc
 exact ⟨c, e, k c r1 r2 r3⟩
/-- where the table of the def x stands -/
def qJ (C : Ct) (x : Str) : Option Addr := match C.mg x with
 | some (.ref f) => match C.K.lookup f with
  | some ⟨_, _, .func fd, _⟩ => match fd.code with
   | .ref c => match C.K.lookup c with
    | some ⟨_, _, .fields vs, _⟩ => match (vs[11]? : Option Value) with
     | some (.ref P) => some P
     | _ => none
    | _ => none
   | _ => none
  | _ => none
 | _ => none
def bV (C : Ct) (H : Hp) (P : Addr → Prop) (β : List Addr) (a : Addr) : SO → Prop
 | .lst ds => ∃ xs, H a = some (.lst xs) ∧ aD C H P β xs ds
 | .dct ds => ∃ xs, H a = some (.dK xs) ∧ aP C H P β xs ds
 | .ins c fs => ∃ Ca dx vs, C.mg c = some (.ref Ca) ∧ H a = some (.ins Ca dx vs) ∧ xP C H P β vs fs
 | .ig ds => ∃ od xs, H a = some (.frz od (.dK xs)) ∧ aP C H P β xs ds
 | .cG ds => ∃ od xs, H a = some (.frz od (.lst xs)) ∧ aD C H P β xs ds
 | .exo c m => ∃ Ca d, C.mg c = some (.ref Ca) ∧ H a = some (L2.exo a Ca d) ∧ Ag β m d
 | .exd fs => ∃ vs, H a = some (L2.exd a vs) ∧ xP C H P β vs fs
 | .tab x q => qJ C x = some a ∧ mJ H P β a q
structure aU (C : Ct) (H : Hp) (P : Addr → Prop) (β : List Addr) (S : Store) : Prop where
 len : β.length = S.length
 nd : β.Nodup
 ok : ∀ (n : Nat) (a : Addr) (so : SO), β[n]? = some a → S[n]? = some so → bV C H P β a so
/-- a container cA one slot alone holds -/
def cO (C : Ct) (H : Hp) (P : Addr → Prop) (β : List Addr) (a : Addr) : D → Prop
 | .lst ds => ∃ xs, H a = some (.lst xs) ∧ aD C H P β xs ds
 | .dct ds => ∃ xs, H a = some (.dK xs) ∧ aP C H P β xs ds
 | _ => False
/-- the exception cA a suite a8x -/
def g8 (C : Ct) (H : Hp) (P : Addr → Prop) (β : List Addr) (a : Addr) (e : bT) : Prop :=
 ∃ oe Ca dd vs, (a, oe) ∈ C.pn ∧ Zc (.ref Ca) (some dd) oe ∧ (∃ ws, oe.data = .fields ws) ∧ C.mg e.cls = some (.ref Ca) ∧ H dd = some (.xd vs) ∧ dd ∉ β ∧ ¬ P dd ∧ ∀ f x, e.fs.lookup f = some x → ∃ v, vs.lookup f = some v ∧ RV C H P β v x
theorem g8.mono {C : Ct} {H H' : Hp} {P : Addr → Prop} {β β' : List Addr} {a : Addr} {e : bT} (h : g8 C H P β a e) (x : Ext H β H' β') : g8 C H' P β' a e := by
 obtain ⟨oe, Ca, dd, vs, h1, h2, h3, h4, h5, h6, h7, h8⟩ := h
 exact ⟨oe, Ca, dd, vs, h1, h2, h3, h4, x.keep _ _ h5 h6, x.out h6 (by rw [h5]; exact Option.some_ne_none _), h7, fun f y q => let ⟨v, q1, q2⟩ := h8 f y q; ⟨v, q1, q2.mono x⟩⟩
theorem g8.less {C : Ct} {H : Hp} {P P' : Addr → Prop} {β : List Addr} {a : Addr} {e : bT} (h : g8 C H P β a e) (x : ∀ a, P' a → P a) : g8 C H P' β a e := by
 obtain ⟨oe, Ca, dd, vs, h1, h2, h3, h4, h5, h6, h7, h8⟩ := h
 exact ⟨oe, Ca, dd, vs, h1, h2, h3, h4, h5, h6, fun z => h7 (x _ z), fun f y q => let ⟨v, q1, q2⟩ := h8 f y q; ⟨v, q1, q2.less x⟩⟩
theorem g8.more {C : Ct} {H : Hp} {P : Addr → Prop} {β : List Addr} {a : Addr} {e : bT} {p : Addr} (h : g8 C H P β a e) (hp : H p = none) : g8 C H (fun b => P b ∨ b = p) β a e := by
 obtain ⟨oe, Ca, dd, vs, h1, h2, h3, h4, h5, h6, h7, h8⟩ := h
 exact ⟨oe, Ca, dd, vs, h1, h2, h3, h4, h5, h6, fun (z : P dd ∨ dd = p) => Or.elim z h7 fun q => (by rw [q, hp] at h5; cases h5), fun f y q => let ⟨v, q1, q2⟩ := h8 f y q; ⟨v, q1, q2.more hp⟩⟩
theorem g8.set {C : Ct} {H : Hp} {P : Addr → Prop} {β : List Addr} {a : Addr} {e : bT} {p : Addr} {o : HO} (h : g8 C H P β a e) (hp : P p) (ht : ∀ xs, ¬ Rd H p (.tup xs)) : g8 C (upd H p o) P β a e := by
 obtain ⟨oe, Ca, dd, vs, h1, h2, h3, h4, h5, h6, h7, h8⟩ := h
 exact ⟨oe, Ca, dd, vs, h1, h2, h3, h4, by rw [upd_ne (show dd ≠ p from fun z => h7 (by rw [z]; exact hp))]; exact h5, h6, h7, fun f y q => let ⟨v, q1, q2⟩ := h8 f y q; ⟨v, q1, q2.set (.inl hp) ht⟩⟩
structure LR (C : Ct) (cf : Cf) (oa : Nat → Option Addr) (P : Addr → Prop) (σ : St) (H : Hp) (β : List Addr) (ρ : aN) (S : Store) : Prop where
 len : σ.length = ρ.length
 p : ∀ a, P a → H a ≠ none ∧ a ∉ β
 sub : ∀ a, cf.P0 a → P a
 p0 : ∀ a, cf.P0 a → cf.H0 a ≠ none
 ext : pM cf H β
 own : ∀ i a, oa i = some a → P a ∧ cf.H0 a = none
 inj : ∀ i j a, oa i = some a → oa j = some a → i = j
 st : aU C H P β S
 slot : ∀ (i : Nat) (d : D), ρ[i]? = some (Sl.sh d) → ∃ v, σ[i]? = some (some v) ∧ RV C H P β v d
 bY : ∀ (i : Nat) (d : D), ρ[i]? = some (Sl.ow d) → ∃ a, oa i = some a ∧ σ[i]? = some (some (.ref a)) ∧ cO C H P β a d
 xslot : ∀ (i : Nat) (e : bT), ρ[i]? = some (Sl.ex e) → ∃ a, σ[i]? = some (some (.ref a)) ∧ g8 C H P β a e
section
variable {C : Ct} {cf : Cf} {oa : Nat → Option Addr} {P P' : Addr → Prop} {σ : St} {H H' : Hp} {β β' : List Addr} {ρ : aN} {S S' : Store}
theorem pM.step (x : pM cf H β) (e : Ext H β H' β') : pM cf H' β' where
 pre := by
  obtain ⟨γ, r⟩ := x.pre
  obtain ⟨γ', r'⟩ := e.pre
  exact ⟨γ ++ γ', by rw [r', r, List.append_assoc]⟩
 keep := fun a o h hn => by
  have nb : a ∉ β := fun m => (x.fresh a m).elim hn fun z => by rw [h] at z; cases z
  rcases x.keep a o h hn with q | ⟨m, ob, q⟩
  ·exact .inl (e.keep _ _ q nb)
  ·exact .inr ⟨m, ob, e.keep _ _ q nb⟩
 fresh := fun a h => by
  rcases e.fresh a h with q | q
  ·exact x.fresh a q
  ·right
   cases z : cf.H0 a with
   | none => rfl
   | some o => exact absurd q (x.stay a (by rw [z]; exact Option.some_ne_none _))
 tups := fun a xs h => e.tups a xs (x.tups a xs h)
 stay := fun a h => e.stay a (x.stay a h)
 fB := fun a o u h => e.fB a o u (x.fB a o u h)
theorem pM.done (x : pM cf H β) (hl : cf.lk = []) : Ext cf.H0 cf.β0 H β :=
 ⟨x.pre, fun a o h hn => (x.keep a o h hn).elim id fun z => by rw [hl] at z; exact absurd z.1 (by simp), x.fresh, x.tups, x.stay, x.fB⟩
theorem bV.Ah {a : Addr} {so : SO} (h : bV C H P β a so) : H a ≠ none := by
 cases so with
 | lst ds => obtain ⟨xs, e, _⟩ := h; rw [e]; exact Option.some_ne_none _
 | dct ds => obtain ⟨xs, e, _⟩ := h; rw [e]; exact Option.some_ne_none _
 | ins c fs => obtain ⟨Ca, dx, vs, _, e, _⟩ := h; rw [e]; exact Option.some_ne_none _
 | ig ds => obtain ⟨od, xs, e, _⟩ := h; rw [e]; exact Option.some_ne_none _
 | cG ds => obtain ⟨od, xs, e, _⟩ := h; rw [e]; exact Option.some_ne_none _
 | exo c m => obtain ⟨Ca, d, _, e, _⟩ := h; rw [e]; exact Option.some_ne_none _
 | exd fs => obtain ⟨vs, e, _⟩ := h; rw [e]; exact Option.some_ne_none _
 | tab x q => obtain ⟨_, ps, e, _⟩ := h; rw [e]; exact Option.some_ne_none _
theorem bV.mK {a : Addr} {so : SO} (h : bV C H P β a so) : ∀ xs, ¬ Rd H a (.tup xs) := by
 intro xs r
 cases so with
 | lst ds => obtain ⟨xs, e, _⟩ := h; rcases r with r | ⟨o, r⟩ <;> (rw [e] at r; cases r)
 | dct ds => obtain ⟨xs, e, _⟩ := h; rcases r with r | ⟨o, r⟩ <;> (rw [e] at r; cases r)
 | ins c fs => obtain ⟨Ca, dx, vs, _, e, _⟩ := h; rcases r with r | ⟨o, r⟩ <;> (rw [e] at r; cases r)
 | ig ds => obtain ⟨od, xs, e, _⟩ := h; rcases r with r | ⟨o, r⟩ <;> (rw [e] at r; cases r)
 | cG ds => obtain ⟨od, xs, e, _⟩ := h; rcases r with r | ⟨o, r⟩ <;> (rw [e] at r; cases r)
 | exo c m => obtain ⟨Ca, d, _, e, _⟩ := h; rcases r with r | ⟨o, r⟩ <;> (rw [e] at r; unfold L2.exo at r; cases r)
 | exd fs => obtain ⟨vs, e, _⟩ := h; rcases r with r | ⟨o, r⟩ <;> (rw [e] at r; unfold L2.exd at r; cases r)
 | tab x q => obtain ⟨_, ps, e, _⟩ := h; rcases r with r | ⟨o, r⟩ <;> (rw [e] at r; cases r)
theorem cO.Ah {a : Addr} {d : D} (h : cO C H P β a d) : H a ≠ none := by
 cases d <;> first | exact h.elim | (obtain ⟨xs, e, _⟩ := h; rw [e]; exact Option.some_ne_none _)
theorem cO.mK {a : Addr} {d : D} (h : cO C H P β a d) : ∀ xs, ¬ Rd H a (.tup xs) := by
 intro xs r
 cases d <;> first | exact h.elim | (obtain ⟨xs, e, _⟩ := h; rcases r with r | ⟨o, r⟩ <;> (rw [e] at r; cases r))
theorem cO.mono {a : Addr} {d : D} (h : cO C H P β a d) (e : Ext H β H' β') (hn : a ∉ β) : cO C H' P β' a d := by
 cases d <;> first | exact h.elim | skip
 ·obtain ⟨xs, q, r⟩ := h; exact ⟨xs, e.keep _ _ q hn, r.mono e⟩
 ·obtain ⟨xs, q, r⟩ := h; exact ⟨xs, e.keep _ _ q hn, r.mono e⟩
theorem cO.less {a : Addr} {d : D} (h : cO C H P β a d) (e : ∀ a, P' a → P a) : cO C H P' β a d := by
 cases d <;> first | exact h.elim | skip
 ·obtain ⟨xs, q, r⟩ := h; exact ⟨xs, q, r.less e⟩
 ·obtain ⟨xs, q, r⟩ := h; exact ⟨xs, q, r.less e⟩
theorem cO.more {a p : Addr} {d : D} (h : cO C H P β a d) (hp : H p = none) : cO C H (fun b => P b ∨ b = p) β a d := by
 cases d <;> first | exact h.elim | skip
 ·obtain ⟨xs, q, r⟩ := h; exact ⟨xs, q, r.more hp⟩
 ·obtain ⟨xs, q, r⟩ := h; exact ⟨xs, q, r.more hp⟩
theorem cO.set {a p : Addr} {o : HO} {d : D} (h : cO C H P β a d) (hp : P p ∨ p ∈ β) (ht : ∀ xs, ¬ Rd H p (.tup xs)) (ne : a ≠ p) : cO C (upd H p o) P β a d := by
 cases d <;> first | exact h.elim | skip
 ·obtain ⟨xs, q, r⟩ := h; exact ⟨xs, by rw [upd_ne ne]; exact q, r.set hp ht⟩
 ·obtain ⟨xs, q, r⟩ := h; exact ⟨xs, by rw [upd_ne ne]; exact q, r.set hp ht⟩
theorem bV.less {a : Addr} {so : SO} (h : bV C H P β a so) (e : ∀ a, P' a → P a) : bV C H P' β a so := by
 cases so with
 | lst ds => obtain ⟨xs, q, r⟩ := h; exact ⟨xs, q, r.less e⟩
 | dct ds => obtain ⟨xs, q, r⟩ := h; exact ⟨xs, q, r.less e⟩
 | ins c fs => obtain ⟨Ca, dx, vs, m, q, n, r⟩ := h; exact ⟨Ca, dx, vs, m, q, n, r.less e⟩
 | ig ds => obtain ⟨od, xs, q, r⟩ := h; exact ⟨od, xs, q, r.less e⟩
 | cG ds => obtain ⟨od, xs, q, r⟩ := h; exact ⟨od, xs, q, r.less e⟩
 | exo c m => exact h
 | exd fs => obtain ⟨vs, q, n, r⟩ := h; exact ⟨vs, q, n, r.less e⟩
 | tab y q => exact ⟨h.1, mJ.mv h.2 (fun _ z => z) fun c r1 r2 r3 => ⟨r1, fun z => r2 (e c z), r3⟩⟩
theorem bV.more {a p : Addr} {so : SO} (h : bV C H P β a so) (hp : H p = none) : bV C H (fun b => P b ∨ b = p) β a so := by
 cases so with
 | lst ds => obtain ⟨xs, q, r⟩ := h; exact ⟨xs, q, r.more hp⟩
 | dct ds => obtain ⟨xs, q, r⟩ := h; exact ⟨xs, q, r.more hp⟩
 | ins c fs => obtain ⟨Ca, dx, vs, m, q, n, r⟩ := h; exact ⟨Ca, dx, vs, m, q, n, r.more hp⟩
 | ig ds => obtain ⟨od, xs, q, r⟩ := h; exact ⟨od, xs, q, r.more hp⟩
 | cG ds => obtain ⟨od, xs, q, r⟩ := h; exact ⟨od, xs, q, r.more hp⟩
 | exo c m => exact h
 | exd fs => obtain ⟨vs, q, n, r⟩ := h; exact ⟨vs, q, n, r.more hp⟩
 | tab y q => exact ⟨h.1, mJ.mv h.2 (fun _ z => z) fun c r1 r2 r3 => ⟨r1, fun z => z.elim r2 fun z => oh r1 (by rw [z]; exact hp), r3⟩⟩
theorem bV.laid {a p : Addr} {o : HO} {so : SO} (h : bV C H P β a so) (hp : H p = none) : bV C (upd H p o) P β a so := by
 have ne : a ≠ p := fun e => h.Ah (by rw [e]; exact hp)
 have x : Ext H β (upd H p o) β := Ext.laid hp
 cases so with
 | lst ds => obtain ⟨xs, q, r⟩ := h; exact ⟨xs, by rw [upd_ne ne]; exact q, r.mono x⟩
 | dct ds => obtain ⟨xs, q, r⟩ := h; exact ⟨xs, by rw [upd_ne ne]; exact q, r.mono x⟩
 | ins c fs => obtain ⟨Ca, dx, vs, m, q, n, r⟩ := h; exact ⟨Ca, dx, vs, m, by rw [upd_ne ne]; exact q, n, r.mono x⟩
 | ig ds => obtain ⟨od, xs, q, r⟩ := h; exact ⟨od, xs, by rw [upd_ne ne]; exact q, r.mono x⟩
 | cG ds => obtain ⟨od, xs, q, r⟩ := h; exact ⟨od, xs, by rw [upd_ne ne]; exact q, r.mono x⟩
 | exo c m => obtain ⟨Ca, d, m1, q, n⟩ := h; exact ⟨Ca, d, m1, by rw [upd_ne ne]; exact q, n⟩
 | exd fs => obtain ⟨vs, q, n, r⟩ := h; exact ⟨vs, by rw [upd_ne ne]; exact q, n, r.mono x⟩
 | tab y q => exact ⟨h.1, mJ.mv h.2 (fun _ z => by rw [upd_ne ne]; exact z) fun c r1 r2 r3 => ⟨x.rd r3 r1, r2, r3⟩⟩
theorem bV.set {a p : Addr} {o : HO} {so : SO} (h : bV C H P β a so) (hp : P p ∨ p ∈ β) (ht : ∀ xs, ¬ Rd H p (.tup xs)) (ne : a ≠ p) : bV C (upd H p o) P β a so := by
 cases so with
 | lst ds => obtain ⟨xs, q, r⟩ := h; exact ⟨xs, by rw [upd_ne ne]; exact q, r.set hp ht⟩
 | dct ds => obtain ⟨xs, q, r⟩ := h; exact ⟨xs, by rw [upd_ne ne]; exact q, r.set hp ht⟩
 | ins c fs => obtain ⟨Ca, dx, vs, m, q, n, r⟩ := h; exact ⟨Ca, dx, vs, m, by rw [upd_ne ne]; exact q, n, r.set hp ht⟩
 | ig ds => obtain ⟨od, xs, q, r⟩ := h; exact ⟨od, xs, by rw [upd_ne ne]; exact q, r.set hp ht⟩
 | cG ds => obtain ⟨od, xs, q, r⟩ := h; exact ⟨od, xs, by rw [upd_ne ne]; exact q, r.set hp ht⟩
 | exo c m => obtain ⟨Ca, d, m1, q, n⟩ := h; exact ⟨Ca, d, m1, by rw [upd_ne ne]; exact q, n⟩
 | exd fs => obtain ⟨vs, q, n, r⟩ := h; exact ⟨vs, by rw [upd_ne ne]; exact q, n, r.set hp ht⟩
 | tab y q => exact ⟨h.1, mJ.mv h.2 (fun _ z => by rw [upd_ne ne]; exact z) fun c r1 r2 r3 => ⟨by unfold Rd; rw [upd_ne (show c ≠ p from fun z => hp.elim (fun y => r2 (z ▸ y)) fun y => r3 (z ▸ y))]; exact r1, r2, r3⟩⟩
theorem aU.less (h : aU C H P β S) (e : ∀ a, P' a → P a) : aU C H P' β S := ⟨h.len, h.nd, fun n a so h1 h2 => (h.ok n a so h1 h2).less e⟩
theorem aU.more {p : Addr} (h : aU C H P β S) (hp : H p = none) : aU C H (fun b => P b ∨ b = p) β S := ⟨h.len, h.nd, fun n a so h1 h2 => (h.ok n a so h1 h2).more hp⟩
theorem aU.laid {p : Addr} {o : HO} (h : aU C H P β S) (hp : H p = none) : aU C (upd H p o) P β S := ⟨h.len, h.nd, fun n a so h1 h2 => (h.ok n a so h1 h2).laid hp⟩
theorem aU.at (h : aU C H P β S) {n : Nat} {so : SO} (e : S[n]? = some so) : ∃ a, β[n]? = some a ∧ bV C H P β a so := by
 have hl : n < β.length := by rw [h.len]; exact (List.getElem?_eq_some_iff.mp e).1
 exact ⟨β[n], List.getElem?_eq_getElem hl, h.ok n _ so (List.getElem?_eq_getElem hl) e⟩
theorem aU.of (h : aU C H P β S) {n : Nat} {a : Addr} (e : β[n]? = some a) : ∃ so, S[n]? = some so ∧ bV C H P β a so := by
 have hl : n < S.length := by rw [← h.len]; exact (List.getElem?_eq_some_iff.mp e).1
 exact ⟨S[n], List.getElem?_eq_getElem hl, h.ok n _ _ e (List.getElem?_eq_getElem hl)⟩
theorem aU.mem (h : aU C H P β S) {a : Addr} (m : a ∈ β) : H a ≠ none := by
 obtain ⟨n, hn⟩ := List.getElem?_of_mem m
 obtain ⟨so, _, q⟩ := h.of hn
 exact q.Ah
theorem aU.mK (h : aU C H P β S) {a : Addr} (m : a ∈ β) : ∀ xs, ¬ Rd H a (.tup xs) := by
 obtain ⟨n, hn⟩ := List.getElem?_of_mem m
 obtain ⟨so, _, q⟩ := h.of hn
 exact q.mK
theorem VD {l : List Addr} (h : l.Nodup) {i j : Nat} {a : Addr} (h1 : l[i]? = some a) (h2 : l[j]? = some a) : i = j := by
 obtain ⟨h1, e1⟩ := List.getElem?_eq_some_iff.mp h1
 obtain ⟨h2, e2⟩ := List.getElem?_eq_some_iff.mp h2
 exact (List.getElem_inj h).mp (e1.trans e2.symm)
/-- a thing of the store is changed -/
theorem aU.set {n : Nat} {a : Addr} {o : HO} {so : SO} (h : aU C H P β S) (e : β[n]? = some a) (new : bV C (upd H a o) P β a so) : aU C (upd H a o) P β (S.set n so) := by
 have m : a ∈ β := List.mem_of_getElem? e
 refine ⟨by rw [List.length_set]; exact h.len, h.nd, fun k b sb h1 h2 => ?_⟩
 by_cases hk : n = k
 ·subst hk
  rw [e] at h1; cases h1
  rw [List.getElem?_set_self (by rw [← h.len]; exact (List.getElem?_eq_some_iff.mp e).1)] at h2
  cases h2
  exact new
 ·rw [List.getElem?_set_ne hk] at h2
  exact (h.ok k b sb h1 h2).set (.inr m) (h.mK m) fun z => hk (VD h.nd e (z ▸ h1))
/-- a container cA is kept apart is changed -/
theorem aU.own {p : Addr} {o : HO} (h : aU C H P β S) (hp : P p) (hn : p ∉ β) (ht : ∀ xs, ¬ Rd H p (.tup xs)) : aU C (upd H p o) P β S :=
 ⟨h.len, h.nd, fun n a so h1 h2 => (h.ok n a so h1 h2).set (.inl hp) ht fun z => hn (z ▸ List.mem_of_getElem? h1)⟩
/-- the qI thing at a changes -/
theorem Ext.wrote {a : Addr} {o : HO} (m : a ∈ β) (ht : ∀ xs, ¬ Rd H a (.tup xs)) (hf : ∀ o u, H a ≠ some (.frz o u)) : Ext H β (upd H a o) β where
 pre := ⟨[], (List.append_nil β).symm⟩
 keep := fun b u h hn => by rw [upd_ne (fun z => hn (by rw [z]; exact m))]; exact h
 fresh := fun _ h => .inl h
 tups := fun b xs h => by
  have ne : b ≠ a := fun z => ht xs (z ▸ h)
  unfold Rd; rw [upd_ne ne]; exact h
 stay := fun b h => by
  by_cases e : b = a
  ·rw [e, upd_same]; exact Option.some_ne_none _
  ·rw [upd_ne e]; exact h
 fB := fun b o u h => by rw [upd_ne (fun z => hf o u (by rw [← z]; exact h))]; exact h
/-- behind an expression -/
theorem LR.step (L : LR C cf oa P σ H β ρ S) (e : Ext H β H' β') (s : aU C H' P β' S') : LR C cf oa P σ H' β' ρ S' where
 len := L.len
 p := fun a h => ⟨e.stay _ (L.p a h).1, e.out (L.p a h).2 (L.p a h).1⟩
 sub := L.sub
 p0 := L.p0
 ext := L.ext.step e
 own := L.own
 inj := L.inj
 st := s
 slot := fun i d h => let ⟨v, h1, h2⟩ := L.slot i d h; ⟨v, h1, h2.mono e⟩
 bY := fun i d h => let ⟨a, h1, h2, h3⟩ := L.bY i d h; ⟨a, h1, h2, h3.mono e (L.p a (L.own i a h1).1).2⟩
 xslot := fun i x h => let ⟨a, h1, h2⟩ := L.xslot i x h; ⟨a, h1, h2.mono e⟩
theorem LR.laid {p : Addr} {o : HO} (L : LR C cf oa P σ H β ρ S) (hp : H p = none) : LR C cf oa P σ (upd H p o) β ρ S := L.step (Ext.laid hp) (L.st.laid hp)
theorem LR.pN {p : Addr} (L : LR C cf oa P σ H β ρ S) (hp : H p = none) : ¬ P p := fun z => (L.p p z).1 hp
theorem LR.pO {p : Addr} (L : LR C cf oa P σ H β ρ S) (hp : H p = none) : p ∉ β := fun z => L.st.mem z hp
/-- fewer places kept apart, the owned ones and the a8y still -/
theorem LR.less (L : LR C cf oa P σ H β ρ S) (e : ∀ a, P' a → P a) (h1 : ∀ a, cf.P0 a → P' a) (h2 : ∀ i a, oa i = some a → P' a) : LR C cf oa P' σ H β ρ S where
 len := L.len
 p := fun a h => L.p a (e a h)
 sub := h1
 p0 := L.p0
 ext := L.ext
 own := fun i a h => ⟨h2 i a h, (L.own i a h).2⟩
 inj := L.inj
 st := L.st.less e
 slot := fun i d h => let ⟨v, q1, q2⟩ := L.slot i d h; ⟨v, q1, q2.less e⟩
 bY := fun i d h => let ⟨a, q1, q2, q3⟩ := L.bY i d h; ⟨a, q1, q2, q3.less e⟩
 xslot := fun i x h => let ⟨a, h1, h2⟩ := L.xslot i x h; ⟨a, h1, h2.less e⟩
/-- a new container kept apart -/
theorem LR.VE {p : Addr} {o : HO} (L : LR C cf oa P σ H β ρ S) (hp : H p = none) : LR C cf oa (fun b => P b ∨ b = p) σ (upd H p o) β ρ S where
 len := L.len
 p := fun a h => by
  rcases h with h | rfl
  ·exact (L.laid hp).p a h
  ·exact ⟨by rw [upd_same]; exact Option.some_ne_none _, L.pO hp⟩
 sub := fun a h => .inl (L.sub a h)
 p0 := L.p0
 ext := (L.laid (o := o) hp).ext
 own := fun i a h => ⟨.inl (L.own i a h).1, (L.own i a h).2⟩
 inj := L.inj
 st := ⟨L.st.len, L.st.nd, fun n a so h1 h2 => by
  have q := (L.st.ok n a so h1 h2).more hp
  exact q.laid hp⟩
 slot := fun i d h => let ⟨v, q1, q2⟩ := L.slot i d h; ⟨v, q1, (q2.more hp).mono (Ext.laid hp)⟩
 bY := fun i d h => let ⟨a, q1, q2, q3⟩ := L.bY i d h; ⟨a, q1, q2, (q3.more hp).mono (Ext.laid hp) (L.p a (L.own i a q1).1).2⟩
 xslot := fun i x h => let ⟨a, h1, h2⟩ := L.xslot i x h; ⟨a, h1, (h2.more hp).mono (Ext.laid hp)⟩
end
def jA (C : Ct) (H : Hp) (P : Addr → Prop) (β : List Addr) (cls : Value) (d : Option Addr) (e : bT) : Prop :=
 ∃ Ca dd vs, C.mg e.cls = some (.ref Ca) ∧ cls = .ref Ca ∧ d = some dd ∧ H dd = some (.xd vs) ∧ dd ∉ β ∧ ¬ P dd ∧ ∀ f x, e.fs.lookup f = some x → ∃ v, vs.lookup f = some v ∧ RV C H P β v x
/-- all cA is tracked stays -/
theorem Ext.same {H H' : Hp} {β : List Addr} (e : Same H H') : Ext H β H' β where
 pre := ⟨[], (List.append_nil β).symm⟩
 keep := fun a o h _ => e a o h
 fresh := fun _ h => .inl h
 tups := fun a xs h => h.elim (fun h => .inl (e _ _ h)) fun ⟨o, h⟩ => .inr ⟨o, e _ _ h⟩
 stay := fun a h => by
  cases z : H a with
  | none => exact absurd z h
  | some o => rw [e a o z]; exact Option.some_ne_none _
 fB := fun a o u h => e _ _ h
theorem bV.same {C : Ct} {H H' : Hp} {P : Addr → Prop} {β : List Addr} {a : Addr} {so : SO} (h : bV C H P β a so) (e : Same H H') : bV C H' P β a so := by
 cases so with
 | lst ds => obtain ⟨xs, q, r⟩ := h; exact ⟨xs, e _ _ q, r.mono (Ext.same e)⟩
 | dct ds => obtain ⟨xs, q, r⟩ := h; exact ⟨xs, e _ _ q, r.mono (Ext.same e)⟩
 | ins c fs => obtain ⟨Ca, dx, vs, m, q, n, r⟩ := h; exact ⟨Ca, dx, vs, m, e _ _ q, n, r.mono (Ext.same e)⟩
 | ig ds => obtain ⟨od, xs, q, r⟩ := h; exact ⟨od, xs, e _ _ q, r.mono (Ext.same e)⟩
 | cG ds => obtain ⟨od, xs, q, r⟩ := h; exact ⟨od, xs, e _ _ q, r.mono (Ext.same e)⟩
 | exo c m => obtain ⟨Ca, d, m1, q, n⟩ := h; exact ⟨Ca, d, m1, e _ _ q, n⟩
 | exd fs => obtain ⟨vs, q, n, r⟩ := h; exact ⟨vs, e _ _ q, n, r.mono (Ext.same e)⟩
 | tab y q => exact ⟨h.1, mJ.mv h.2 (fun _ z => e _ _ z) fun c r1 r2 r3 => ⟨(Ext.same e).rd r3 r1, r2, r3⟩⟩
theorem aU.same {C : Ct} {H H' : Hp} {P : Addr → Prop} {β : List Addr} {S : Store} (h : aU C H P β S) (e : Same H H') : aU C H' P β S := ⟨h.len, h.nd, fun n a so h1 h2 => (h.ok n a so h1 h2).same e⟩
theorem LR.same {C : Ct} {cf : Cf} {oa : Nat → Option Addr} {P : Addr → Prop} {σ : St} {H H' : Hp} {β : List Addr} {ρ : aN} {S : Store} (L : LR C cf oa P σ H β ρ S) (e : Same H H') : LR C cf oa P σ H' β ρ S := L.step (Ext.same e) (L.st.same e)
theorem fU {H : Hp} {p : Addr} {o : HO} (hp : H p = none) : Same H (upd H p o) := fun a u h => by rw [upd_ne (ne_of_none h hp)]; exact h
/-- from ahead of an expression to behind it. b: it is read only (a Mx of the slots' own Mw is allowed) -/
structure Tr (b : Bool) (H : Hp) (β : List Addr) (S : Store) (H' : Hp) (β' : List Addr) (S' : Store) : Prop where
 ext : Ext H β H' β'
 ro : b = true → Same H H' ∧ β' = β ∧ S' = S
theorem Tr.refl {b : Bool} {H : Hp} {β : List Addr} {S : Store} : Tr b H β S H β S := ⟨Ext.refl _ _, fun _ => ⟨Same.refl _, rfl, rfl⟩⟩
theorem Tr.trans {b : Bool} {H H1 H2 : Hp} {β β1 β2 : List Addr} {S S1 S2 : Store} (x : Tr b H β S H1 β1 S1) (y : Tr b H1 β1 S1 H2 β2 S2) : Tr b H β S H2 β2 S2 :=
 ⟨x.ext.trans y.ext, fun e => let ⟨a1, a2, a3⟩ := x.ro e; let ⟨b1, b2, b3⟩ := y.ro e; ⟨a1.trans b1, b2.trans a2, b3.trans a3⟩⟩
theorem Tr.same {b : Bool} {H H' : Hp} {β : List Addr} {S : Store} (e : Same H H') : Tr b H β S H' β S := ⟨Ext.same e, fun _ => ⟨e, rfl, rfl⟩⟩
structure Fx (H : Hp) (P : Addr → Prop) (β : List Addr) (H' : Hp) (P' : Addr → Prop) (β' : List Addr) : Prop where
 pre : ∃ γ, β' = β ++ γ
 con : ∀ a u, ¬ P a → a ∉ β → Rd H a u → Rd H' a u ∧ ¬ P' a ∧ a ∉ β'
 fz : ∀ a o u, H a = some (.frz o u) → H' a = some (.frz o u)
 tups : ∀ a xs, Rd H a (.tup xs) → Rd H' a (.tup xs)
section
variable {C : Ct} {H H1 H2 H' : Hp} {P P1 P2 P' : Addr → Prop} {β β1 β2 β' : List Addr}
theorem Fx.refl : Fx H P β H P β := ⟨⟨[], (List.append_nil β).symm⟩, fun _ _ h1 h2 r => ⟨r, h1, h2⟩, fun _ _ _ h => h, fun _ _ h => h⟩
theorem Fx.trans (a : Fx H P β H1 P1 β1) (b : Fx H1 P1 β1 H2 P2 β2) : Fx H P β H2 P2 β2 where
 pre := by
  obtain ⟨γ, r⟩ := a.pre
  obtain ⟨γ', r'⟩ := b.pre
  exact ⟨γ ++ γ', by rw [r', r, List.append_assoc]⟩
 con := fun c u h1 h2 r => let ⟨r1, q1, q2⟩ := a.con c u h1 h2 r; b.con c u q1 q2 r1
 fz := fun c o u r => b.fz c o u (a.fz c o u r)
 tups := fun c xs h => b.tups c xs (a.tups c xs h)
theorem Fx.of (e : Ext H β H' β') : Fx H P β H' P β' := ⟨e.pre, fun a u h1 h2 r => ⟨e.rd h2 r, h1, e.out h2 (oh r)⟩, e.fB, e.tups⟩
/-- a place cA was free is kept apart as well -/
theorem Fx.more (e : Ext H β H' β') {p : Addr} (hp : H p = none) : Fx H P β H' (fun b => P b ∨ b = p) β' :=
 ⟨e.pre, fun a u h1 h2 r => ⟨e.rd h2 r, fun z => z.elim h1 fun q => oh r (by rw [q]; exact hp), e.out h2 (oh r)⟩, e.fB, e.tups⟩
theorem Fx.less (h : ∀ a, P' a → P a) : Fx H P β H P' β := ⟨⟨[], (List.append_nil β).symm⟩, fun a u h1 h2 r => ⟨r, fun z => h1 (h a z), h2⟩, fun _ _ _ h => h, fun _ _ h => h⟩
/-- a container cA is kept apart changes -/
theorem Fx.own {p : Addr} {o : HO} (hp : P p) (ht : ∀ xs, ¬ Rd H p (.tup xs)) (hf : ∀ o u, H p ≠ some (.frz o u)) : Fx H P β (upd H p o) P β := by
 refine ⟨⟨[], (List.append_nil β).symm⟩, fun a u h1 h2 r => ⟨?_, h1, h2⟩, fun a o u r => ?_, fun a xs r => ?_⟩
 ·have ne : a ≠ p := fun e => h1 (e ▸ hp)
  unfold Rd; rw [upd_ne ne]; exact r
 ·have ne : a ≠ p := fun e => hf o u (by rw [← e]; exact r)
  rw [upd_ne ne]; exact r
 ·have ne : a ≠ p := fun e => ht xs (e ▸ r)
  unfold Rd; rw [upd_ne ne]; exact r
theorem Fx.get (e : Fx H P β H' P' β') {n : Nat} {a : Addr} (h : β[n]? = some a) : β'[n]? = some a := by
 obtain ⟨γ, r⟩ := e.pre
 rw [r, List.getElem?_append_left (List.getElem?_eq_some_iff.mp h).1]; exact h
mutual
theorem RV.fx (e : Fx H P β H' P' β') : ∀ {v : V} {d : D}, RV C H P β v d → RV C H' P' β' v d
 | _, _, .non => .non
 | _, _, .bl b => .bl b
 | _, _, .int i => .int i
 | _, _, .str x => .str x
 | _, _, .ty n => .ty n
 | _, _, .lst hp hb hr h => let ⟨r, q1, q2⟩ := e.con _ _ hp hb hr; .lst q1 q2 r (aD.fx e h)
 | _, _, .tup hr h => .tup (e.tups _ _ hr) (aD.fx e h)
 | _, _, .fK k h => .fK k (aD.fx e h)
 | _, _, .fL k h => .fL k (aD.fx e h)
 | _, _, .dct hp hb hr h => let ⟨_, q1, q2⟩ := e.con _ _ hp hb hr.rd; .dct q1 q2 (let ⟨o, q⟩ := hr; ⟨o, e.fz _ _ _ q⟩) (aP.fx e h)
 | _, _, .ref h => .ref (e.get h)
 | _, _, .fn h k => .fn h k
theorem aD.fx (e : Fx H P β H' P' β') : ∀ {vs : List V} {ds : List D}, aD C H P β vs ds → aD C H' P' β' vs ds
 | _, _, .nil => .nil
 | _, _, .cons h t => .cons (RV.fx e h) (aD.fx e t)
theorem aP.fx (e : Fx H P β H' P' β') : ∀ {vs : List (Key × V)} {ds : List (Key × D)}, aP C H P β vs ds → aP C H' P' β' vs ds
 | _, _, .nil => .nil
 | _, _, .cons h t => .cons (RV.fx e h) (aP.fx e t)
end
end
/-- what is kept of the frozen things and the qI places -/
structure Fs (H : Hp) (β : List Addr) (H' : Hp) (β' : List Addr) : Prop where
 pre : ∃ γ, β' = β ++ γ
 fz : ∀ a o u, H a = some (.frz o u) → H' a = some (.frz o u)
theorem Fs.refl {H : Hp} {β : List Addr} : Fs H β H β := ⟨⟨[], (List.append_nil β).symm⟩, fun _ _ _ h => h⟩
theorem Fx.fs {H H' : Hp} {P P' : Addr → Prop} {β β' : List Addr} (f : Fx H P β H' P' β') : Fs H β H' β' := ⟨f.pre, f.fz⟩
theorem Ext.fs {H H' : Hp} {β β' : List Addr} (f : Ext H β H' β') : Fs H β H' β' := ⟨f.pre, f.fB⟩
theorem Fs.trans {H H1 H2 : Hp} {β β1 β2 : List Addr} (a : Fs H β H1 β1) (b : Fs H1 β1 H2 β2) : Fs H β H2 β2 where
 pre := by
  obtain ⟨γ, r⟩ := a.pre
  obtain ⟨γ', r'⟩ := b.pre
  exact ⟨γ ++ γ', by rw [r', r, List.append_assoc]⟩
 fz := fun c o u r => b.fz c o u (a.fz c o u r)
/-- what an exception must find -/
abbrev XP (C : Ct) (W : WX) (cf : Cf) (oa : Nat → Option Addr) (P : Addr → Prop) (σ : St) (b : Bool) (H : Hp) (β : List Addr) (ρ : aN) (S : Store) (e : bT) (S' : Store) : Prop :=
 ∀ cls x H' β', Tr b H β S H' β' S' → LR C cf oa P σ H' β' ρ S' → jA C H' P β' cls x e → W cls x σ H'
/-- the reading of an expression with the tree-value m -/
def EM (C : Ct) (W : WX) (b : Bool) (m : EX) : TE := fun σ H Q => ∃ cf oa P β ρ S, LR C cf oa P σ H β ρ S ∧ (match m ρ S with
 | .ok d S' => ∀ v H' β', Tr b H β S H' β' S' → LR C cf oa P σ H' β' ρ S' → RV C H' P β' v d → Q v H'
 | .exc e S' => XP C W cf oa P σ b H β ρ S e S'
 | .stuck => False)
/-- .. cA makes a new container -/
def EO (C : Ct) (W : WX) (b : Bool) (m : EX) : TE := fun σ H Q => ∃ cf oa P β ρ S, LR C cf oa P σ H β ρ S ∧ (match m ρ S with
 | .ok d S' => ∀ a H' β', Tr b H β S H' β' S' → H a = none → LR C cf oa (fun b => P b ∨ b = a) σ H' β' ρ S' → cO C H' (fun c => P c ∨ c = a) β' a d → Q (.ref a) H'
 | .exc e S' => XP C W cf oa P σ b H β ρ S e S'
 | .stuck => False)
def AM (C : Ct) (W : WX) (b : Bool) (m : AX) : TA := fun σ H Q => ∃ cf oa P β ρ S, LR C cf oa P σ H β ρ S ∧ (match m ρ S with
 | .ok ds S' => ∀ vs H' β', Tr b H β S H' β' S' → LR C cf oa P σ H' β' ρ S' → aD C H' P β' vs ds → Q vs H'
 | .exc e S' => XP C W cf oa P σ b H β ρ S e S'
 | .stuck => False)
def BM (C : Ct) (W : WX) (b : Bool) (m : BX) : TT := fun σ H Q => ∃ cf oa P β ρ S, LR C cf oa P σ H β ρ S ∧ (match m ρ S with
 | .ok k S' => ∀ H' β', Tr b H β S H' β' S' → LR C cf oa P σ H' β' ρ S' → Q k H'
 | .exc e S' => XP C W cf oa P σ b H β ρ S e S'
 | .stuck => False)
/-- what is wanted of a VF result, from a state cA H, P, β stand for -/
def SQ (C : Ct) (W : WX) (cf : Cf) (H : Hp) (P : Addr → Prop) (β : List Addr) (D : Ends) (r : SR) : Prop := match r with
 | .nx ρ' S' => ∀ σ' H' β' bB P', LR C cf bB P' σ' H' β' ρ' S' → Fx H P β H' P' β' → D.nx σ' H'
 | .bk ρ' S' => ∀ σ' H' β' bB P', LR C cf bB P' σ' H' β' ρ' S' → Fx H P β H' P' β' → D.bk σ' H'
 | .ct ρ' S' => ∀ σ' H' β' bB P', LR C cf bB P' σ' H' β' ρ' S' → Fx H P β H' P' β' → D.ct σ' H'
 | .rt d S' => ∀ v H' β', pM cf H' β' → Fs H β H' β' → aU C H' cf.P0 β' S' → RV C H' cf.P0 β' v d → D.rt v H'
 | .exc e ρ' S' => ∀ cls x σ' H' β' bB P', LR C cf bB P' σ' H' β' ρ' S' → Fx H P β H' P' β' → jA C H' P' β' cls x e → W cls x σ' H'
 | .stuck => False
theorem SQ.fx {C : Ct} {W : WX} {cf : Cf} {H H1 : Hp} {P P1 : Addr → Prop} {β β1 : List Addr} {D : Ends} {r : SR} (f1 : Fx H P β H1 P1 β1) (h : SQ C W cf H P β D r) : SQ C W cf H1 P1 β1 D r := by
 cases r with
 | nx ρ2 S2 => intro σ2 H2 β2 j5 P2 L2 f2; exact h σ2 H2 β2 j5 P2 L2 (f1.trans f2)
 | bk ρ2 S2 => intro σ2 H2 β2 j5 P2 L2 f2; exact h σ2 H2 β2 j5 P2 L2 (f1.trans f2)
 | ct ρ2 S2 => intro σ2 H2 β2 j5 P2 L2 f2; exact h σ2 H2 β2 j5 P2 L2 (f1.trans f2)
 | rt d S2 => intro v H2 β2 x f s r; exact h v H2 β2 x (f1.fs.trans f) s r
 | exc e ρ2 S2 => intro cls x σ2 H2 β2 j5 P2 L2 f2 ex; exact h cls x σ2 H2 β2 j5 P2 L2 (f1.trans f2) ex
 | stuck => exact h
def SM (C : Ct) (W : WX) (m : SX) : TS := fun D σ H => ∃ cf oa P β ρ S, LR C cf oa P σ H β ρ S ∧ SQ C W cf H P β D (m ρ S)
abbrev PM (C : Ct) (W : WX) (b : Bool) (X : Cx) (e : Expr) (m : EX) : Prop := PE X e (EM C W b m)
abbrev PN (C : Ct) (W : WX) (b : Bool) (X : Cx) (e : Expr) (m : EX) : Prop := PE X e (EO C W b m)
abbrev jg (C : Ct) (W : WX) (b : Bool) (X : Cx) (es : List Expr) (m : AX) : Prop := PA X es (AM C W b m)
abbrev PB (C : Ct) (W : WX) (b : Bool) (X : Cx) (e : Expr) (m : BX) : Prop := PT X e (BM C W b m)
abbrev gj (C : Ct) (W : WX) (X : Cx) (s : Stmt) (m : SX) : Prop := PS X s (SM C W m)
abbrev jB (C : Ct) (W : WX) (X : Cx) (s : List Stmt) (m : SX) : Prop := PSs X s (SM C W m)
theorem cX {X : Cx} {e : Expr} {t t' : TE} (h : PE X e t) (i : ∀ σ H Q, t' σ H Q → t σ H Q) : PE X e t' := ⟨fun pins s σ H Q I hw => h.run pins s σ H Q I (i σ H Q hw)⟩
theorem vD {X : Cx} {e : Expr} {t t' : TT} (h : PT X e t) (i : ∀ σ H Q, t' σ H Q → t σ H Q) : PT X e t' := ⟨fun pins s σ H Q I hw => h.run pins s σ H Q I (i σ H Q hw)⟩
theorem My {X : Cx} {es : List Expr} {t t' : TA} (h : PA X es t) (i : ∀ σ H Q, t' σ H Q → t σ H Q) : PA X es t' := ⟨fun pos pins s σ H Q I hw => h.run pos pins s σ H Q I (i σ H Q hw)⟩
theorem jh {X : Cx} {s : Stmt} {t t' : TS} (h : PS X s t) (i : ∀ D σ H, t' D σ H → t D σ H) : PS X s t' := ⟨fun pins sh σ H D I hw => h.run pins sh σ H D I (i D σ H hw)⟩
theorem xQ {X : Cx} {s : List Stmt} {t t' : TS} (h : PSs X s t) (i : ∀ D σ H, t' D σ H → t D σ H) : PSs X s t' := ⟨fun pins sh σ H D I hw => h.run pins sh σ H D I (i D σ H hw)⟩
end Mi
namespace Mi
open PySem PySem.Spec PyProof.Rows L2
abbrev au (X : Cx) : Ct := ⟨X.K, X.mg, X.w, X.pn⟩
def mC (d : D) : EX := fun _ S => .ok d S
def ak (i : Nat) : EX := fun ρ S => match ρ[i]? with
 | some (Sl.sh d) => .ok d S
 | _ => .stuck
def R.opt {α : Type} (o : Option α) (S : Store) : R α := match o with
 | some z => .ok z S
 | none => .stuck
def aC (f : Store → D → D → Option D) (a b : EX) : EX := fun ρ S => (a ρ S).bind fun x S1 => (b ρ S1).bind fun y S2 => R.opt (f S2 x y) S2
def dU (f : Store → D → Option D) (a : EX) : EX := fun ρ S => (a ρ S).bind fun x S1 => R.opt (f S1 x) S1
def ao : AX := fun _ S => .ok [] S
def aj (a : EX) (r : AX) : AX := fun ρ S => (a ρ S).bind fun x S1 => (r ρ S1).bind fun xs S2 => .ok (x :: xs) S2
def aO (f : Store → List D → Option D) (a : AX) : EX := fun ρ S => (a ρ S).bind fun xs S1 => R.opt (f S1 xs) S1
def dTup (xs : List D) : Option D := if xs.length ≤ sizeLine then some (.tup xs) else none
def Ai (xs : List D) : Option D := if xs.length ≤ sizeLine then some (.lst xs) else none
def aR (a : AX) : EX := fun ρ S => (a ρ S).bind fun xs S1 => R.opt (dTup xs) S1
def cH (a : AX) : EX := fun ρ S => (a ρ S).bind fun xs S1 => R.opt (Ai xs) S1
def tQ : D → Option SO
 | .lst xs => some (.lst xs)
 | .dct kvs => some (.dct kvs)
 | _ => none
/-- a new container becomes a thing of the store -/
def pP (a : EX) : EX := fun ρ S => (a ρ S).bind fun x S1 => match tQ x with
 | some so => .ok (.ref S1.length) (S1 ++ [so])
 | none => .stuck
/-- no list or dict in it -/
def flat : D → Bool
 | .non | .bl _ | .int _ | .str _ | .ty _ | .fn _ | .ref _ => true
 | .tup _ | .lst _ | .dct _ => false
def lent (ρ : aN) : aN := ρ.map fun s => match s with
 | .ow (.lst xs) => .sh (.lst xs)
 | .ow _ => .un
 | s => s
/-- read on Mx (all slots' own Mw): what comes is flat -/
def tR (a : EX) : EX := fun ρ S => match a (lent ρ) S with
 | .ok x S1 => if flat x = true then .ok x S1 else .stuck
 | _ => .stuck
/-- the same of a test -/
def xR (a : BX) : BX := fun ρ S => match a (lent ρ) S with
 | .ok x S1 => .ok x S1
 | _ => .stuck
section
variable {X : Cx} {W : WX} {b : Bool}
/-- a state for an operation -/
structure At (C : Ct) (H : Hp) (Z : Addr → Prop) (β : List Addr) (S : Store) : Prop where
 st : aU C H Z β S
 dom : ∀ a, Z a → H a ≠ none
def cP (X : Cx) (r : R2) (f : Store → D → D → Option D) : Prop :=
 ∀ (Z : Addr → Prop) (H : Hp) (β : List Addr) (S : Store) (x y : V) (dx dy dz : D) (Q : VK), At (au X) H Z β S → RV (au X) H Z β x dx → RV (au X) H Z β y dy → f S dx dy = some dz →
  (∀ v H', Same H H' → RV (au X) H' Z β v dz → Q v H') → r x y H Q
def Di (X : Cx) (r : R2) (f : Store → D → D → Option D) : Prop :=
 ∀ (Z : Addr → Prop) (H : Hp) (β : List Addr) (S : Store) (x y : V) (dx dy dz : D) (Q : VK), At (au X) H Z β S → RV (au X) H Z β x dx → RV (au X) H Z β y dy → f S dx dy = some dz →
  (∀ a H', Same H H' → H a = none → cO (au X) H' (fun c => Z c ∨ c = a) β a dz → Q (.ref a) H') → r x y H Q
def vG (X : Cx) (r : V → Hp → VK → Prop) (f : Store → D → Option D) : Prop :=
 ∀ (Z : Addr → Prop) (H : Hp) (β : List Addr) (S : Store) (x : V) (dx dz : D) (Q : VK), At (au X) H Z β S → RV (au X) H Z β x dx → f S dx = some dz →
  (∀ v H', Same H H' → RV (au X) H' Z β v dz → Q v H') → r x H Q
def lF (X : Cx) (r : List V → Hp → VK → Prop) (f : Store → List D → Option D) : Prop :=
 ∀ (Z : Addr → Prop) (H : Hp) (β : List Addr) (S : Store) (xs : List V) (ds : List D) (dz : D) (Q : VK), At (au X) H Z β S → aD (au X) H Z β xs ds → f S ds = some dz →
  (∀ v H', Same H H' → RV (au X) H' Z β v dz → Q v H') → r xs H Q
def xV (X : Cx) (r : List V → Hp → VK → Prop) (f : Store → List D → Option D) : Prop :=
 ∀ (Z : Addr → Prop) (H : Hp) (β : List Addr) (S : Store) (xs : List V) (ds : List D) (dz : D) (Q : VK), At (au X) H Z β S → aD (au X) H Z β xs ds → f S ds = some dz →
  (∀ a H', Same H H' → H a = none → cO (au X) H' (fun c => Z c ∨ c = a) β a dz → Q (.ref a) H') → r xs H Q
theorem At.VG {C : Ct} {H : Hp} {Z : Addr → Prop} {β : List Addr} {S : Store} (A : At C H Z β S) {p : Addr} (hp : H p = none) : ¬ Z p := fun z => A.dom p z hp
theorem At.pO {C : Ct} {H : Hp} {Z : Addr → Prop} {β : List Addr} {S : Store} (A : At C H Z β S) {p : Addr} (hp : H p = none) : p ∉ β := fun z => A.st.mem z hp
theorem LR.at {C : Ct} {cf : Cf} {oa : Nat → Option Addr} {P : Addr → Prop} {σ : L2.St} {H : Hp} {β : List Addr} {ρ : aN} {S : Store} (L : LR C cf oa P σ H β ρ S) : At C H P β S :=
 ⟨L.st, fun a h => (L.p a h).1⟩
def vH (d : D) : Prop := ∃ ds, d = .lst ds
/-- a new list, VH to be new -/
theorem Aj {C : Ct} {H : Hp} {P : Addr → Prop} {β : List Addr} {a : Addr} {d : D} (o : cO C H (fun b => P b ∨ b = a) β a d) (hp : ¬ P a) (hb : a ∉ β) (hl : vH d) : RV C H P β (.ref a) d := by
 obtain ⟨ds, rfl⟩ := hl
 obtain ⟨xs, q, r⟩ := o
 exact .lst hp hb (.inl q) (r.less fun _ h => .inl h)
theorem LR.forget {C : Ct} {cf : Cf} {oa : Nat → Option Addr} {P : Addr → Prop} {σ : L2.St} {H : Hp} {β : List Addr} {ρ : aN} {S : Store} {a : Addr} (L : LR C cf oa (fun b => P b ∨ b = a) σ H β ρ S) (h1 : ∀ a, cf.P0 a → P a) (h2 : ∀ i a, oa i = some a → P a) : LR C cf oa P σ H β ρ S :=
 L.less (fun _ h => .inl h) h1 h2
/-- a new container laid and kept apart -/
theorem LR.vI {C : Ct} {cf : Cf} {oa : Nat → Option Addr} {P : Addr → Prop} {σ : L2.St} {H H' : Hp} {β : List Addr} {ρ : aN} {S : Store} {p : Addr} (L : LR C cf oa P σ H β ρ S) (e : Same H H') (hp : H p = none) (hp' : H' p ≠ none) : LR C cf oa (fun b => P b ∨ b = p) σ H' β ρ S where
 len := L.len
 p := fun a h => by
  rcases h with h | rfl
  ·exact (L.same e).p a h
  ·exact ⟨hp', L.pO hp⟩
 sub := fun a h => .inl (L.sub a h)
 p0 := L.p0
 ext := (L.same e).ext
 own := fun i a h => ⟨.inl (L.own i a h).1, (L.own i a h).2⟩
 inj := L.inj
 st := (L.st.more hp).same e
 slot := fun i d h => let ⟨v, q1, q2⟩ := L.slot i d h; ⟨v, q1, (q2.more hp).mono (Ext.same e)⟩
 bY := fun i d h => let ⟨a, q1, q2, q3⟩ := L.bY i d h; ⟨a, q1, q2, (q3.more hp).mono (Ext.same e) (L.p a (L.own i a q1).1).2⟩
 xslot := fun i x h => let ⟨a, h1, h2⟩ := L.xslot i x h; ⟨a, h1, (h2.more hp).mono (Ext.same e)⟩
theorem cP.Mz {r : R2} {f : Store → D → D → Option D} (h : Di X r f) (hl : ∀ S x y d, f S x y = some d → vH d) : cP X r f := by
 intro Z H β S x y dx dy dz Q A rx ry e k
 exact h Z H β S x y dx dy dz Q A rx ry e fun a H' E hn o => k _ H' E (Aj o (A.VG hn) (A.pO hn) (hl _ _ _ _ e))
theorem Ak {H H1 : Hp} {β β1 : List Addr} (e : Ext H β H1 β1) {a : Addr} (hn : H1 a = none) : H a = none := by
 cases z : H a with
 | none => rfl
 | some o => exact absurd hn (e.stay a (by rw [z]; exact Option.some_ne_none _))
theorem em2 {f : Store → D → D → Option D} {r : R2} {ma mb : EX} {σ : L2.St} {H : Hp} {Q : VK} (hm : cP X r f) (h : EM (au X) W b (aC f ma mb) σ H Q) : tOp r (EM (au X) W b ma) (EM (au X) W b mb) σ H Q := by
 obtain ⟨cf, oa, P, β, ρ, S, L, h⟩ := h
 unfold aC at h
 refine ⟨cf, oa, P, β, ρ, S, L, ?_⟩
 cases ea : ma ρ S with
 | stuck => rw [ea] at h; exact h
 | exc e S1 => rw [ea] at h; exact h
 | ok dx S1 =>
  rw [ea] at h
  simp only [R.bind] at h
  intro x H1 β1 e1 L1 rx
  refine ⟨cf, oa, P, β1, ρ, S1, L1, ?_⟩
  cases eb : mb ρ S1 with
  | stuck => rw [eb] at h; exact h
  | exc e S2 =>
   rw [eb] at h
   intro cls d H' β' e2 L2 ex
   exact h cls d H' β' (e1.trans e2) L2 ex
  | ok dy S2 =>
   rw [eb] at h
   simp only [R.bind] at h
   intro y H2 β2 e2 L2 ry
   cases ef : f S2 dx dy with
   | none => rw [ef] at h; exact h.elim
   | some dz =>
    rw [ef] at h
    exact hm P H2 β2 S2 x y dx dy dz Q L2.at (rx.mono e2.ext) ry ef fun v H' e3 r3 => h v H' β2 (e1.trans (e2.trans (Tr.same e3))) (L2.same e3) r3
theorem Dj {f : Store → D → Option D} {r : V → Hp → VK → Prop} {ma : EX} {σ : L2.St} {H : Hp} {Q : VK} (hm : vG X r f) (h : EM (au X) W b (dU f ma) σ H Q) : tUn r (EM (au X) W b ma) σ H Q := by
 obtain ⟨cf, oa, P, β, ρ, S, L, h⟩ := h
 unfold dU at h
 refine ⟨cf, oa, P, β, ρ, S, L, ?_⟩
 cases ea : ma ρ S with
 | stuck => rw [ea] at h; exact h
 | exc e S1 => rw [ea] at h; exact h
 | ok dx S1 =>
  rw [ea] at h
  simp only [R.bind] at h
  intro x H1 β1 e1 L1 rx
  cases ef : f S1 dx with
  | none => rw [ef] at h; exact h.elim
  | some dz =>
   rw [ef] at h
   exact hm P H1 β1 S1 x dx dz Q L1.at rx ef fun v H' e3 r3 => h v H' β1 (e1.trans (Tr.same e3)) (L1.same e3) r3
theorem MA {f : Store → List D → Option D} {r : List V → Hp → VK → Prop} {ma : AX} {σ : L2.St} {H : Hp} {Q : VK} (hm : lF X r f) (h : EM (au X) W b (aO f ma) σ H Q) : AM (au X) W b ma σ H fun vs H1 => r vs H1 Q := by
 obtain ⟨cf, oa, P, β, ρ, S, L, h⟩ := h
 unfold aO at h
 refine ⟨cf, oa, P, β, ρ, S, L, ?_⟩
 cases ea : ma ρ S with
 | stuck => rw [ea] at h; exact h
 | exc e S1 => rw [ea] at h; exact h
 | ok dx S1 =>
  rw [ea] at h
  simp only [R.bind] at h
  intro x H1 β1 e1 L1 rx
  cases ef : f S1 dx with
  | none => rw [ef] at h; exact h.elim
  | some dz =>
   rw [ef] at h
   exact hm P H1 β1 S1 x dx dz Q L1.at rx ef fun v H' e3 r3 => h v H' β1 (e1.trans (Tr.same e3)) (L1.same e3) r3
theorem VI {f : Store → List D → Option D} {r : List V → Hp → VK → Prop} {ma : AX} {σ : L2.St} {H : Hp} {Q : VK} (hm : xV X r f) (h : EO (au X) W b (aO f ma) σ H Q) : AM (au X) W b ma σ H fun vs H1 => r vs H1 Q := by
 obtain ⟨cf, oa, P, β, ρ, S, L, h⟩ := h
 unfold aO at h
 refine ⟨cf, oa, P, β, ρ, S, L, ?_⟩
 cases ea : ma ρ S with
 | stuck => rw [ea] at h; exact h
 | exc e S1 => rw [ea] at h; exact h
 | ok dx S1 =>
  rw [ea] at h
  simp only [R.bind] at h
  intro x H1 β1 e1 L1 rx
  cases ef : f S1 dx with
  | none => rw [ef] at h; exact h.elim
  | some dz =>
   rw [ef] at h
   exact hm P H1 β1 S1 x dx dz Q L1.at rx ef fun a H' e3 hn r3 =>
    h a H' β1 (e1.trans (Tr.same e3)) (Ak e1.ext hn) (L1.vI e3 hn r3.Ah) r3
theorem An {a : EX} {r : AX} {σ : L2.St} {H : Hp} {Q : List V → Hp → Prop} (h : AM (au X) W b (aj a r) σ H Q) : tCons (EM (au X) W b a) (AM (au X) W b r) σ H Q := by
 obtain ⟨cf, oa, P, β, ρ, S, L, h⟩ := h
 unfold aj at h
 refine ⟨cf, oa, P, β, ρ, S, L, ?_⟩
 cases ea : a ρ S with
 | stuck => rw [ea] at h; exact h
 | exc e S1 => rw [ea] at h; exact h
 | ok dx S1 =>
  rw [ea] at h
  simp only [R.bind] at h
  intro x H1 β1 e1 L1 rx
  refine ⟨cf, oa, P, β1, ρ, S1, L1, ?_⟩
  cases eb : r ρ S1 with
  | stuck => rw [eb] at h; exact h
  | exc e S2 =>
   rw [eb] at h
   intro cls d H' β' e2 L2 ex
   exact h cls d H' β' (e1.trans e2) L2 ex
  | ok ds S2 =>
   rw [eb] at h
   intro xs H2 β2 e2 L2 rs
   exact h _ H2 β2 (e1.trans e2) L2 (.cons (rx.mono e2.ext) rs)
theorem MB {i : Nat} {x : Str} {pos : Pos} (h : PE X (.Name x pos) (tVar i)) : PM (au X) W b X (.Name x pos) (ak i) := cX h fun σ H Q h => by
 obtain ⟨cf, oa, P, β, ρ, S, L, h⟩ := h
 unfold ak at h
 cases e : ρ[i]? with
 | none => rw [e] at h; exact h.elim
 | some sl =>
  rw [e] at h
  cases sl with
  | un => exact h.elim
  | ow d => exact h.elim
  | ex d => exact h.elim
  | sh d =>
   obtain ⟨v, e1, r⟩ := L.slot i d e
   exact ⟨v, e1, h v H β Tr.refl L r⟩
theorem vJ {v : V} {d : D} (r : ∀ H P β, RV (au X) H P β v d) {σ : L2.St} {H : Hp} {Q : VK} (h : EM (au X) W b (mC d) σ H Q) : Q v H := by
 obtain ⟨cf, oa, P, β, ρ, S, L, h⟩ := h
 exact h v H β Tr.refl L (r _ _ _)
theorem aG {i j pos} : PM (au X) W b X (.Constant (.int i) j pos) (mC (.int i)) := cX pe_int fun σ H Q h => vJ (fun _ _ _ => .int i) h
theorem mO {k j pos} : PM (au X) W b X (.Constant (.bool k) j pos) (mC (.bl k)) := cX pe_bl fun σ H Q h => vJ (fun _ _ _ => .bl k) h
theorem Dm {j pos} : PM (au X) W b X (.Constant .none j pos) (mC .non) := cX pe_non fun σ H Q h => vJ (fun _ _ _ => .non) h
theorem bF {x j pos} : PM (au X) W b X (.Constant (.str x) j pos) (mC (.str x)) := cX pe_str fun σ H Q h => vJ (fun _ _ _ => .str x) h
/-- a global of the module: d is what it holds -/
theorem dF {x : Str} {v : V} {u : Value} {d : D} {pos : Pos} (hm : X.mg x = some u) (r : RelV v u) (rd : ∀ H P β, RV (au X) H P β v d) (hg : Gl X x := by rfl) (hd : (x == ("__debug__" : Str)) = false := by decide) : PM (au X) W b X (.Name x pos) (mC d) :=
 cX (pe_glob hg hm r hd) fun σ H Q h => vJ rd h
theorem tV {x : Str} {n : String} {pos : Pos} (hm : X.mg x = none) (hv : bootBuiltins x = some (.type n)) (hg : Gl X x := by rfl) (hn : x ≠ "__name__" := by decide) (hd : (x == ("__debug__" : Str)) = false := by decide) : PM (au X) W b X (.Name x pos) (mC (.ty n)) :=
 cX (pe_bltn (v := .ty n) hg hm hv rfl hn hd) fun σ H Q h => vJ (fun _ _ _ => .ty n) h
variable {a b' c e : Expr} {es : List Expr} {ma mb : EX} {d8 : AX} {pos : Pos}
theorem bK {op : Operator} {r : R2} {f : Store → D → D → Option D} (ho : OpR X (binaryOp op) r) (hm : cP X r f) (ha : PM (au X) W b X a ma) (hb : PM (au X) W b X b' mb) : PM (au X) W b X (.BinOp a op b' pos) (aC f ma mb) :=
 cX (pe_op ho ha hb) fun σ H Q h => em2 hm h
theorem qK {op : CmpOp} {r : R2} {f : Store → D → D → Option D} (ho : OpR X (compareOp op) r) (hm : cP X r f) (ha : PM (au X) W b X a ma) (hb : PM (au X) W b X b' mb) (hk : behindInMarks op b' = false := by first | exact nobehind _ (by decide) (by decide) | rfl) :
  PM (au X) W b X (.Compare a [op] [b'] pos) (aC f ma mb) := cX (pe_cmpR ho ha hb hk) fun σ H Q h => em2 hm h
theorem qL {op : UnaryOp} {r : V → Hp → VK → Prop} {f : Store → D → Option D} (ho : UnR X (unaryOp op) r) (hm : vG X r f) (ha : PM (au X) W b X a ma) : PM (au X) W b X (.UnaryOp op a pos) (dU f ma) :=
 cX (pe_un ho ha) fun σ H Q h => Dj hm h
theorem CallR.or {f : Value} {r r' : List V → Hp → VK → Prop} (h : CallR X f r) (h' : CallR X f r') : CallR X f (fun xs H Q => r xs H Q ∨ r' xs H Q) := by
 intro pins s σ H xs us Q I rx q
 rcases q with q | q
 ·exact h pins s σ H xs us Q I rx q
 ·exact h' pins s σ H xs us Q I rx q
theorem aF : jg (au X) W b X [] ao := My pa_nil fun σ H Q h => by
 obtain ⟨cf, oa, P, β, ρ, S, L, h⟩ := h
 exact h [] H β Tr.refl L .nil
theorem aA {r : AX} (ha : PM (au X) W b X e ma) (hr : jg (au X) W b X es r) (hs : starEach (e :: es) X.env = (false, eval e X.env) :: starEach es X.env := by rfl) : jg (au X) W b X (e :: es) (aj ma r) :=
 My (pa_cons ha hr hs) fun σ H Q h => An h
theorem bH {k : Nat} (h : jg (au X) W b X es d8) : PM (au X) W b X (.Tuple es k pos) (aR d8) := cX (pe_tup h) fun σ H Q h => by
 obtain ⟨cf, oa, P, β, ρ, S, L, h⟩ := h
 unfold aR at h
 refine ⟨cf, oa, P, β, ρ, S, L, ?_⟩
 cases ea : d8 ρ S with
 | stuck => rw [ea] at h; exact h
 | exc e S1 => rw [ea] at h; exact h
 | ok ds S1 =>
  rw [ea] at h
  simp only [R.bind, dTup] at h
  intro xs H1 β1 e1 L1 rs
  by_cases hz : ds.length ≤ sizeLine
  ·rw [if_pos hz] at h
   refine ⟨by rw [rs.length]; exact hz, fun p hp => ?_⟩
   have x : Same H1 (upd H1 p (.tup xs)) := fU hp
   exact h _ _ β1 (e1.trans (Tr.same x)) (L1.same x) (.tup (.inl upd_same) (rs.mono (Ext.same x)))
  ·rw [if_neg hz] at h; exact h.elim
theorem eO (h : jg (au X) W b X es d8) : PN (au X) W b X (.List es pos) (cH d8) := cX (pe_lst h) fun σ H Q h => by
 obtain ⟨cf, oa, P, β, ρ, S, L, h⟩ := h
 unfold cH at h
 refine ⟨cf, oa, P, β, ρ, S, L, ?_⟩
 cases ea : d8 ρ S with
 | stuck => rw [ea] at h; exact h
 | exc e S1 => rw [ea] at h; exact h
 | ok ds S1 =>
  rw [ea] at h
  simp only [R.bind, Ai] at h
  intro xs H1 β1 e1 L1 rs
  by_cases hz : ds.length ≤ sizeLine
  ·rw [if_pos hz] at h
   refine ⟨by rw [rs.length]; exact hz, fun p hp => ?_⟩
   have x : Same H1 (upd H1 p (.lst xs)) := fU hp
   exact h p _ β1 (e1.trans (Tr.same x)) (Ak e1.ext hp) (L1.vI x hp (by rw [upd_same]; exact Option.some_ne_none _)) ⟨xs, upd_same, (rs.more hp).mono (Ext.same x)⟩
  ·rw [if_neg hz] at h; exact h.elim
/-- a dict is frozen for VC -/
theorem Fx.frz {H : Hp} {P : Addr → Prop} {β : List Addr} {a : Addr} {od : Obj} {xs : List (Key × V)} (e : H a = some (.dK xs)) : Fx H P β (upd H a (.frz od (.dK xs))) P β := by
 refine ⟨⟨[], (List.append_nil β).symm⟩, fun b u h1 h2 r => ⟨?_, h1, h2⟩, fun b o u r => ?_, fun b xs r => ?_⟩
 ·by_cases hb : b = a
  ·subst hb
   rcases r with r | ⟨o, r⟩
   ·rw [e] at r; cases r; exact .inr ⟨od, upd_same⟩
   ·rw [e] at r; cases r
  ·unfold Rd; rw [upd_ne hb]; exact r
 ·have hb : b ≠ a := fun z => by rw [z, e] at r; cases r
  rw [upd_ne hb]; exact r
 ·have hb : b ≠ a := fun z => by rw [z] at r; rcases r with r | ⟨o, r⟩ <;> (rw [e] at r; cases r)
  unfold Rd; rw [upd_ne hb]; exact r
theorem bV.Dq {C : Ct} {H H' : Hp} {P P' : Addr → Prop} {β : List Addr} {b : Addr} {so : SO} (f : Fx H P β H' P' β) (hb : H' b = H b) (h : bV C H P β b so) : bV C H' P' β b so := by
 cases so with
 | lst ds => obtain ⟨xs, q, r⟩ := h; exact ⟨xs, by rw [hb]; exact q, r.fx f⟩
 | dct ds => obtain ⟨xs, q, r⟩ := h; exact ⟨xs, by rw [hb]; exact q, r.fx f⟩
 | ins c fs => obtain ⟨Ca, dx, vs, m, q, n, r⟩ := h; exact ⟨Ca, dx, vs, m, by rw [hb]; exact q, n, r.fx f⟩
 | ig ds => obtain ⟨od, xs, q, r⟩ := h; exact ⟨od, xs, by rw [hb]; exact q, r.fx f⟩
 | cG ds => obtain ⟨od, xs, q, r⟩ := h; exact ⟨od, xs, by rw [hb]; exact q, r.fx f⟩
 | exo c m => obtain ⟨Ca, d, m1, q, n⟩ := h; exact ⟨Ca, d, m1, by rw [hb]; exact q, n⟩
 | exd fs => obtain ⟨vs, q, n, r⟩ := h; exact ⟨vs, by rw [hb]; exact q, n, r.fx f⟩
 | tab y q => exact ⟨h.1, mJ.mv h.2 (fun _ z => by rw [hb]; exact z) fun c r1 r2 r3 => f.con c _ r2 r3 r1⟩
theorem cO.Dq {C : Ct} {H H' : Hp} {P P' : Addr → Prop} {β : List Addr} {b : Addr} {d : D} (f : Fx H P β H' P' β) (hb : H' b = H b) (h : cO C H P β b d) : cO C H' P' β b d := by
 cases d <;> first | exact h.elim | skip
 ·obtain ⟨xs, q, r⟩ := h; exact ⟨xs, by rw [hb]; exact q, r.fx f⟩
 ·obtain ⟨xs, q, r⟩ := h; exact ⟨xs, by rw [hb]; exact q, r.fx f⟩
theorem LR.frz {C : Ct} {cf : Cf} {oa : Nat → Option Addr} {P : Addr → Prop} {σ : L2.St} {H : Hp} {β : List Addr} {ρ : aN} {S : Store} (L : LR C cf oa P σ H β ρ S) {a : Addr} {od : Obj} {xs : List (Key × V)} (e : H a = some (.dK xs)) (hp : ¬ P a) (hb : a ∉ β) (h0 : cf.H0 a = none) :
  LR C cf oa P σ (upd H a (.frz od (.dK xs))) β ρ S where
 len := L.len
 p := fun b h => ⟨by rw [upd_ne (show b ≠ a from fun z => hp (z ▸ h))]; exact (L.p b h).1, (L.p b h).2⟩
 sub := L.sub
 p0 := L.p0
 ext := {
  pre := L.ext.pre
  keep := fun b o h hn => by rw [upd_ne (fun z => by rw [z, h0] at h; cases h)]; exact L.ext.keep b o h hn
  fresh := L.ext.fresh
  tups := fun b xs h => (Fx.frz (P := P) (β := β) e).tups b xs (L.ext.tups b xs h)
  stay := fun b h => by rw [upd_ne (fun z => by rw [z, h0] at h; exact h rfl)]; exact L.ext.stay b h
  fB := fun b o u h => by rw [upd_ne (fun z => by rw [z, h0] at h; cases h)]; exact L.ext.fB b o u h }
 own := L.own
 inj := L.inj
 st := ⟨L.st.len, L.st.nd, fun n b so h1 h2 => (L.st.ok n b so h1 h2).Dq (Fx.frz e) (upd_ne fun z => hb (z ▸ List.mem_of_getElem? h1))⟩
 slot := fun i d h => let ⟨v, q1, q2⟩ := L.slot i d h; ⟨v, q1, q2.fx (Fx.frz e)⟩
 bY := fun i d h => let ⟨b, q1, q2, q3⟩ := L.bY i d h; ⟨b, q1, q2, q3.Dq (Fx.frz e) (upd_ne fun z => hp (z ▸ (L.own i b q1).1))⟩
 xslot := fun i x h => by
  obtain ⟨b, h1, oe, Ca, dd, vs, k1, k2, k3, k4, k5, k6, k7, k8⟩ := L.xslot i x h
  exact ⟨b, h1, oe, Ca, dd, vs, k1, k2, k3, k4, by rw [upd_ne (fun z => by rw [z, e] at k5; cases k5)]; exact k5, k6, k7, fun f y q => let ⟨v, q1, q2⟩ := k8 f y q; ⟨v, q1, q2.fx (Fx.frz e)⟩⟩
/-- a new dict cA comes is frozen -/
def MC (t : TE) : TE := fun σ H Q => t σ H fun v H1 => Q v H1 ∨ ∃ a xs, v = .ref a ∧ H1 a = some (.dK xs) ∧ ∀ od, Q v (upd H1 a (.frz od (.dK xs)))
theorem MD {t : TE} (h : PE X e t) : PE X e (MC t) := ⟨fun pins s σ H Q I hw => by
 refine wpAny_mono (h.run pins s σ H _ I hw) (fun u s1 hv => ?_) fun _ _ z => z
 obtain ⟨v, H1, I1, r, q⟩ := hv
 rcases q with q | ⟨a, xs, rfl, e, q⟩
 ·exact ⟨v, H1, I1, r, q⟩
 ·obtain ⟨od, I2⟩ := I1.lock e True.intro
  exact ⟨_, _, I2, r, q od⟩⟩
/-- a new container as a value -/
theorem cC (h : PN (au X) W b X e ma) : PM (au X) W b X e ma := cX (MD h) fun σ H Q h => by
 obtain ⟨cf, oa, P, β, ρ, S, L, h⟩ := h
 refine ⟨cf, oa, P, β, ρ, S, L, ?_⟩
 cases ea : ma ρ S with
 | stuck => rw [ea] at h; exact h
 | exc e S1 => rw [ea] at h; exact h
 | ok d S1 =>
  rw [ea] at h
  intro p H1 β1 e1 hn L1 o
  have L2 := L1.forget L.sub fun i a h => (L.own i a h).1
  cases d with
  | lst ds => exact .inl (h (.ref p) H1 β1 e1 L2 (Aj o (L.pN hn) (L1.p p (.inr rfl)).2 ⟨_, rfl⟩))
  | dct ds =>
   obtain ⟨xs, q, r⟩ := o
   have nb := (L1.p p (.inr rfl)).2
   have h0 : cf.H0 p = none := by
    cases z : cf.H0 p with
    | none => rfl
    | some o => exact absurd hn (L.ext.stay p (by rw [z]; exact Option.some_ne_none _))
   refine .inr ⟨p, xs, rfl, q, fun od => ?_⟩
   have f : Fx H1 P β1 (upd H1 p (.frz od (.dK xs))) P β1 := Fx.frz q
   have sm : Same H1 (upd H1 p (.frz od (.dK xs))) → False ∨ True := fun _ => .inr trivial
   refine h (.ref p) _ β1 ⟨⟨e1.ext.pre, fun b o hb hnb => ?_, e1.ext.fresh, fun b ys hb => f.tups b ys (e1.ext.tups b ys hb), fun b hb => ?_, fun b o u hb => f.fz b o u (e1.ext.fB b o u hb)⟩, fun VJ => ?_⟩ (L2.frz q (L.pN hn) nb h0) (.dct (L.pN hn) nb ⟨od, upd_same⟩ ((r.less fun _ h => .inl h).fx f))
   ·rw [upd_ne (fun z => by rw [z, hn] at hb; cases hb)]; exact e1.ext.keep b o hb hnb
   ·rw [upd_ne (show b ≠ p from fun z => hb (z ▸ hn))]; exact e1.ext.stay b hb
   ·obtain ⟨s1, s2, s3⟩ := e1.ro VJ
    exact ⟨fun b o hb => by rw [upd_ne (fun z => by rw [z, hn] at hb; cases hb)]; exact s1 b o hb, s2, s3⟩
  | _ => exact o.elim
/-- on Mx: what comes is flat -/
theorem VL {C : Ct} {H : Hp} {P P' : Addr → Prop} {β : List Addr} {v : V} {d : D} (r : RV C H P β v d) (hf : flat d = true) : RV C H P' β v d := by
 cases r with
 | non => exact .non
 | bl b => exact .bl b
 | int i => exact .int i
 | str x => exact .str x
 | ty n => exact .ty n
 | ref h => exact .ref h
 | fn h k => exact .fn h k
 | _ => cases hf
theorem Dr {ρ : aN} {i : Nat} : (lent ρ)[i]? = (ρ[i]?).map fun s => match s with
 | .ow (.lst xs) => Sl.sh (.lst xs)
 | .ow _ => .un
 | s => s := by unfold lent; rw [List.getElem?_map] <;> rfl
theorem LR.lend {C : Ct} {cf : Cf} {oa : Nat → Option Addr} {P : Addr → Prop} {σ : L2.St} {H : Hp} {β : List Addr} {ρ : aN} {S : Store} (L : LR C cf oa P σ H β ρ S) :
  LR C cf (fun _ => none) (fun a => P a ∧ ∀ i, oa i ≠ some a) σ H β (lent ρ) S where
 len := by unfold lent; rw [List.length_map]; exact L.len
 p := fun a h => L.p a h.1
 sub := fun a h => ⟨L.sub a h, fun i z => L.p0 a h (L.own i a z).2⟩
 p0 := L.p0
 ext := L.ext
 own := fun i a h => nomatch h
 inj := fun i j a h => nomatch h
 st := L.st.less fun _ h => h.1
 slot := fun i d h => by
  rw [Dr] at h
  cases e : ρ[i]? with
  | none => rw [e] at h; cases h
  | some s =>
   rw [e] at h
   cases s with
   | un => cases h
   | ex x => cases h
   | sh x =>
    cases h
    obtain ⟨v, e1, r⟩ := L.slot i d e
    exact ⟨v, e1, r.less fun _ h => h.1⟩
   | ow x =>
    cases x with
    | lst ys =>
     cases h
     obtain ⟨a, e1, e2, r⟩ := L.bY i _ e
     have na : ¬ (P a ∧ ∀ i, oa i ≠ some a) := fun z => z.2 i e1
     have nb : a ∉ β := (L.p a (L.own i a e1).1).2
     refine ⟨.ref a, e2, ?_⟩
     obtain ⟨xs, q, r⟩ := r
     exact .lst na nb (.inl q) (r.less fun _ h => h.1)
    | _ => cases h
 bY := fun i d h => by
  rw [Dr] at h
  cases e : ρ[i]? with
  | none => rw [e] at h; cases h
  | some s =>
   rw [e] at h
   cases s with
   | ow x => cases x <;> cases h
   | _ => cases h
 xslot := fun i d h => by
  rw [Dr] at h
  cases e : ρ[i]? with
  | none => rw [e] at h; cases h
  | some s =>
   rw [e] at h
   cases s with
   | un => cases h
   | sh x => cases h
   | ow x => cases x <;> cases h
   | ex x =>
    cases h
    obtain ⟨a, e1, r⟩ := L.xslot i _ e
    exact ⟨a, e1, r.less fun _ h => h.1⟩
theorem Ds (h : PM (au X) W true X e ma) : PM (au X) W b X e (tR ma) := cX h fun σ H Q h => by
 obtain ⟨cf, oa, P, β, ρ, S, L, h⟩ := h
 refine ⟨cf, _, _, β, lent ρ, S, L.lend, ?_⟩
 unfold tR at h
 cases ea : ma (lent ρ) S with
 | stuck => rw [ea] at h; exact h
 | exc e S1 => rw [ea] at h; exact h.elim
 | ok d S1 =>
  rw [ea] at h
  simp only at h
  intro v H1 β1 e1 L1 r
  obtain ⟨q1, q2, q3⟩ := e1.ro rfl
  subst q2 q3
  by_cases hf : flat d = true
  ·rw [if_pos hf] at h
   exact h v H1 _ (Tr.same q1) (L.same q1) (VL r hf)
  ·rw [if_neg hf] at h; exact h.elim
theorem VM {ka : BX} (h : PB (au X) W true X e ka) : PB (au X) W b X e (xR ka) := vD h fun σ H Q h => by
 obtain ⟨cf, oa, P, β, ρ, S, L, h⟩ := h
 refine ⟨cf, _, _, β, lent ρ, S, L.lend, ?_⟩
 unfold xR at h
 cases ea : ka (lent ρ) S with
 | stuck => rw [ea] at h; exact h
 | exc e S1 => rw [ea] at h; exact h.elim
 | ok d S1 =>
  rw [ea] at h
  intro H1 β1 e1 L1
  obtain ⟨q1, q2, q3⟩ := e1.ro rfl
  subst q2 q3
  exact h H1 _ (Tr.same q1) (L.same q1)
/-- .. as a thing of the store -/
theorem Dt (h : PN (au X) W false X e ma) : PM (au X) W false X e (pP ma) := cX h fun σ H Q h => by
 obtain ⟨cf, oa, P, β, ρ, S, L, h⟩ := h
 refine ⟨cf, oa, P, β, ρ, S, L, ?_⟩
 unfold pP at h
 cases ea : ma ρ S with
 | stuck => rw [ea] at h; exact h
 | exc e S1 => rw [ea] at h; exact h
 | ok d S1 =>
  rw [ea] at h
  simp only [R.bind] at h
  intro p H1 β1 t1 hn L1 o
  have e1 := t1.ext
  have hb := (L1.p p (.inr rfl)).2
  -- the list at p is no longer kept apart, it is of the store
  have L2 := L1.forget L.sub fun i a h => (L.own i a h).1
  cases es : tQ d with
  | none => rw [es] at h; exact h.elim
  | some so =>
   rw [es] at h
   have nP : ¬ P p := L.pN hn
   have ext : Ext H β H1 (β1 ++ [p]) := by
    obtain ⟨γ, g⟩ := e1.pre
    refine ⟨⟨γ ++ [p], by rw [g, List.append_assoc]⟩, e1.keep, fun b hb => ?_, e1.tups, e1.stay, e1.fB⟩
    rcases List.mem_append.mp hb with hb | hb
    ·exact e1.fresh b hb
    ·rw [List.mem_singleton.mp hb]; exact .inr hn
   -- the slots' and the qI values do not lean on p: VN avoid it
   have more : ∀ {v : V} {x : D}, RV (au X) H1 (fun b => P b ∨ b = p) β1 v x → RV (au X) H1 P (β1 ++ [p]) v x := fun r => RV.jN r
   have vK : ∀ {v : List V} {x : List D}, aD (au X) H1 (fun b => P b ∨ b = p) β1 v x → aD (au X) H1 P (β1 ++ [p]) v x := fun r => aD.jN r
   have Ao : ∀ {v : List (Key × V)} {x : List (Key × D)}, aP (au X) H1 (fun b => P b ∨ b = p) β1 v x → aP (au X) H1 P (β1 ++ [p]) v x := fun r => aP.jN r
   have VO : ∀ {a : Addr} {s : SO}, bV (au X) H1 (fun b => P b ∨ b = p) β1 a s → bV (au X) H1 P (β1 ++ [p]) a s := fun {a s} q => by
    cases s with
    | lst ds => obtain ⟨xs, q, r⟩ := q; exact ⟨xs, q, vK r⟩
    | dct ds => obtain ⟨xs, q, r⟩ := q; exact ⟨xs, q, Ao r⟩
    | ins c fs => obtain ⟨Ca, dx, vs, m, q, n, r⟩ := q; exact ⟨Ca, dx, vs, m, q, n, vK r⟩
    | ig ds => obtain ⟨od, xs, q, r⟩ := q; exact ⟨od, xs, q, Ao r⟩
    | cG ds => obtain ⟨od, xs, q, r⟩ := q; exact ⟨od, xs, q, vK r⟩
    | exo c m => obtain ⟨Ca, d, m1, q, n⟩ := q; exact ⟨Ca, d, m1, q, n.app⟩
    | exd fs => obtain ⟨vs, q, n, r⟩ := q; exact ⟨vs, q, n, vK r⟩
    | tab y w => exact ⟨q.1, mJ.mv q.2 (fun _ z => z) fun c r1 r2 r3 => ⟨r1, fun z => r2 (.inl z), fun z => (List.mem_append.mp z).elim r3 fun z => r2 (.inr (List.mem_singleton.mp z))⟩⟩
   have new : bV (au X) H1 P (β1 ++ [p]) p so := by
    cases d <;> first | (cases es; done) | skip
    ·cases es; obtain ⟨xs, q, r⟩ := o; exact ⟨xs, q, vK r⟩
    ·cases es; obtain ⟨xs, q, r⟩ := o; exact ⟨xs, q, Ao r⟩
   have st : aU (au X) H1 P (β1 ++ [p]) (S1 ++ [so]) := by
    refine ⟨by simp [L1.st.len], ?_, fun n a sb h1 h2 => ?_⟩
    ·rw [List.nodup_append]
     exact ⟨L1.st.nd, by simp, fun x hx y hy => by rw [List.mem_singleton.mp hy]; exact fun z => hb (z ▸ hx)⟩
    ·by_cases hn : n < β1.length
     ·rw [List.getElem?_append_left hn] at h1
      rw [List.getElem?_append_left (by rw [← L1.st.len]; exact hn)] at h2
      exact VO (L1.st.ok n a sb h1 h2)
     ·have hl : n = β1.length := by
       have := (List.getElem?_eq_some_iff.mp h1).1
       simp at this; omega
      subst hl
      rw [List.getElem?_append_right (Nat.le_refl _)] at h1
      rw [L1.st.len, List.getElem?_append_right (Nat.le_refl _)] at h2
      simp at h1 h2
      subst h1; subst h2
      exact new
   have L3 : LR (au X) cf oa P σ H1 (β1 ++ [p]) ρ (S1 ++ [so]) := by
    refine ⟨L1.len, fun a h => ⟨(L2.p a h).1, fun z => ?_⟩, L.sub, L.p0, ?_, L2.own, L1.inj, st, fun i x h => ?_, fun i x h => ?_, fun i x h => ?_⟩
    ·rcases List.mem_append.mp z with z | z
     ·exact (L2.p a h).2 z
     ·exact nP (List.mem_singleton.mp z ▸ h)
    ·exact L.ext.step ext
    ·obtain ⟨v, q1, q2⟩ := L1.slot i x h
     exact ⟨v, q1, more q2⟩
    ·obtain ⟨a, q1, q2, q3⟩ := L1.bY i x h
     refine ⟨a, q1, q2, ?_⟩
     cases x <;> first | exact q3.elim | skip
     ·obtain ⟨xs, q, r⟩ := q3; exact ⟨xs, q, vK r⟩
     ·obtain ⟨xs, q, r⟩ := q3; exact ⟨xs, q, Ao r⟩
    ·obtain ⟨a, q1, oe, Ca, dd, vs, x1, x2, x3, x4, x5, x6, x7, x8⟩ := L1.xslot i x h
     have nd : dd ≠ p := fun z => by
      subst z
      cases so with
      | lst _ => obtain ⟨xs, q, _⟩ := new; rw [x5] at q; cases q
      | dct _ => obtain ⟨xs, q, _⟩ := new; rw [x5] at q; cases q
      | ins _ _ => obtain ⟨_, _, _, _, q, _⟩ := new; rw [x5] at q; cases q
      | ig _ => obtain ⟨_, _, q, _⟩ := new; rw [x5] at q; cases q
      | cG _ => obtain ⟨_, _, q, _⟩ := new; rw [x5] at q; cases q
      | exo _ _ => obtain ⟨_, _, _, q, _⟩ := new; rw [x5] at q; unfold exo at q; cases q
      | exd _ => obtain ⟨_, q, _⟩ := new; rw [x5] at q; unfold exd at q; cases q
      | tab _ _ => obtain ⟨_, _, q, _⟩ := new; rw [x5] at q; cases q
     exact ⟨a, q1, oe, Ca, dd, vs, x1, x2, x3, x4, x5, fun z => (List.mem_append.mp z).elim x6 fun z => nd (List.mem_singleton.mp z), fun z => x7 (.inl z), fun f y q => let ⟨v, r1, r2⟩ := x8 f y q; ⟨v, r1, more r2⟩⟩
   refine h (.ref p) H1 (β1 ++ [p]) ⟨ext, fun e => nomatch e⟩ L3 (.ref ?_)
   rw [← L1.st.len, List.getElem?_append_right (Nat.le_refl _)]
   simp
variable {x : Str} {p : Pos} {id T : String} {r : List V → Hp → VK → Prop} {f : Store → List D → Option D}
theorem cI (hc : CallR X (.builtin id) r) (hf : lF X r f) (hm : X.mg x = none) (hv : bootBuiltins x = some (.builtin id)) (ha : jg (au X) W b X (e :: es) d8)
  (hg : Gl X x := by rfl) (hn : x ≠ "__name__" := by decide) (hdb : (x == ("__debug__" : Str)) = false := by decide) (he : starEach (e :: es) X.env = (false, eval e X.env) :: starEach es X.env := by rfl) (hpl : (backTo pos (starEach es X.env)).any (·.1) = false := by rfl) :
  PM (au X) W b X (.Call (.Name x p) (e :: es) [] pos) (aO f d8) := cX (pe_callB hc hg hm hv ha hn hdb he hpl) fun σ H Q h => MA hf h
theorem VP (hc : CallR X (.type T) r) (hf : lF X r f) (hm : X.mg x = none) (hv : bootBuiltins x = some (.type T)) (ha : jg (au X) W b X (e :: es) d8)
  (hg : Gl X x := by rfl) (hn : x ≠ "__name__" := by decide) (hdb : (x == ("__debug__" : Str)) = false := by decide) (he : starEach (e :: es) X.env = (false, eval e X.env) :: starEach es X.env := by rfl) (hpl : (backTo pos (starEach es X.env)).any (·.1) = false := by rfl) :
  PM (au X) W b X (.Call (.Name x p) (e :: es) [] pos) (aO f d8) := cX (pe_callTy hc hg hm hv ha hn hdb he hpl) fun σ H Q h => MA hf h
theorem Du (hc : CallR X (.type T) r) (hf : xV X r f) (hm : X.mg x = none) (hv : bootBuiltins x = some (.type T)) (ha : jg (au X) W b X (e :: es) d8)
  (hg : Gl X x := by rfl) (hn : x ≠ "__name__" := by decide) (hdb : (x == ("__debug__" : Str)) = false := by decide) (he : starEach (e :: es) X.env = (false, eval e X.env) :: starEach es X.env := by rfl) (hpl : (backTo pos (starEach es X.env)).any (·.1) = false := by rfl) :
  PN (au X) W b X (.Call (.Name x p) (e :: es) [] pos) (aO f d8) := cX (pe_callTy hc hg hm hv ha hn hdb he hpl) fun σ H Q h => VI hf h
end
def ji (d : D) : Option Bool := match d with
 | .bl b => some b
 | _ => none
/-- the items of a list, a list of the store ME -/
def bL (S : Store) : D → Option (List D)
 | .lst xs => some xs
 | .ref n => match S[n]? with
  | some (.lst xs) => some xs
  | some (.cG xs) => some xs
  | _ => none
 | _ => none
def fH : D → Option (List D)
 | .tup xs => some xs
 | _ => none
def dG (S : Store) : D → Option (List (Key × D))
 | .dct xs => some xs
 | .ref n => match S[n]? with
  | some (.dct xs) => some xs
  | some (.ig xs) => some xs
  | _ => none
 | _ => none
def jO (S : Store) (d : D) : Option Bool := match d with
 | .non => some false
 | .bl b => some b
 | .int i => some (i != 0)
 | .str y => if y.length ≤ sizeLine then some ((y.length : Int) != 0) else none
 | .tup xs => some (!xs.isEmpty)
 | d => match bL S d with
  | some xs => some (!xs.isEmpty)
  | none => match dG S d with
   | some xs => some (!xs.isEmpty)
   | none => none
def gD (a : EX) : BX := fun ρ S => (a ρ S).bind fun x S1 => R.opt (jO S1 x) S1
def aQ (a : EX) : BX := fun ρ S => (a ρ S).bind fun x S1 => R.opt (ji x) S1
def mQ (a b : BX) : BX := fun ρ S => (a ρ S).bind fun x S1 => if x = true then b ρ S1 else .ok false S1
def iw (a b : BX) : BX := fun ρ S => (a ρ S).bind fun x S1 => if x = true then .ok true S1 else b ρ S1
def gG (a : BX) : BX := fun ρ S => (a ρ S).bind fun x S1 => .ok (!x) S1
def gH (c : BX) (a b : EX) : EX := fun ρ S => (c ρ S).bind fun x S1 => if x = true then a ρ S1 else b ρ S1
def gJ (a b : EX) : EX := fun ρ S => (a ρ S).bind fun x S1 => (R.opt (jO S1 x) S1).bind fun k S2 => if k = true then b ρ S2 else .ok x S2
def MF (a b : EX) : EX := fun ρ S => (a ρ S).bind fun x S1 => (R.opt (jO S1 x) S1).bind fun k S2 => if k = true then .ok x S2 else b ρ S2
def ou (a : EX) : EX := fun ρ S => (a ρ S).bind fun x S1 => (R.opt (jO S1 x) S1).bind fun k S2 => .ok (.bl (!k)) S2
/-- a < b < c -/
def oA (f g : Store → D → D → Option D) (a b c : EX) : EX := fun ρ S => (a ρ S).bind fun x S1 => (b ρ S1).bind fun y S2 => (R.opt ((f S2 x y).bind ji) S2).bind fun k S3 =>
 if k = true then (c ρ S3).bind fun z S4 => R.opt (g S4 y z) S4 else .ok (.bl false) S3
section
variable {C : Ct} {H : Hp} {Z : Addr → Prop} {β : List Addr} {S : Store} {v : V} {d : D}
/-- a list seen -/
theorem RV.bL (r : RV C H Z β v d) (s : aU C H Z β S) {ds : List D} (h : Mi.bL S d = some ds) : ∃ a xs, v = .ref a ∧ SqL C.K H a xs ∧ aD C H Z β xs ds := by
 cases r with
 | lst hp hb hr hs => cases h; exact ⟨_, _, rfl, .inl hr, hs⟩
 | fL k hs => cases h; exact ⟨_, _, rfl, .inr k, hs⟩
 | ref hn =>
  simp only [Mi.bL] at h
  split at h
  ·rename_i xs e
   cases h
   have q := s.ok _ _ _ hn e
   obtain ⟨us, q1, q2⟩ := q
   exact ⟨_, _, rfl, .inl (.inl q1), q2⟩
  ·rename_i xs e
   cases h
   obtain ⟨od, us, q1, q2⟩ := s.ok _ _ _ hn e
   exact ⟨_, _, rfl, .inl (.inr ⟨od, q1⟩), q2⟩
  ·cases h
 | _ => cases h
theorem RV.fH (r : RV C H Z β v d) {ds : List D} (h : Mi.fH d = some ds) : ∃ a xs, v = .ref a ∧ SqT C.K H a xs ∧ aD C H Z β xs ds := by
 cases r with
 | tup hr hs => cases h; exact ⟨_, _, rfl, .inl hr, hs⟩
 | fK k hs => cases h; exact ⟨_, _, rfl, .inr k, hs⟩
 | _ => cases h
theorem RV.dG (r : RV C H Z β v d) (s : aU C H Z β S) {ds : List (Key × D)} (h : Mi.dG S d = some ds) : ∃ a xs, v = .ref a ∧ Rd H a (.dK xs) ∧ aP C H Z β xs ds := by
 cases r with
 | dct hp hb hr hs => cases h; exact ⟨_, _, rfl, hr.rd, hs⟩
 | ref hn =>
  simp only [Mi.dG] at h
  split at h
  ·rename_i xs e
   cases h
   have q := s.ok _ _ _ hn e
   obtain ⟨us, q1, q2⟩ := q
   exact ⟨_, _, rfl, .inl q1, q2⟩
  ·rename_i xs e
   cases h
   obtain ⟨od, us, q1, q2⟩ := s.ok _ _ _ hn e
   exact ⟨_, _, rfl, .inr ⟨od, q1⟩, q2⟩
  ·cases h
 | _ => cases h
end
section
variable {X : Cx} {W : WX} {b : Bool}
/-- truth, a dict cA a loop has locked ME -/
def tW (K : PySem.W.Frag) (x : V) (H : Hp) (k : Bool) : Prop := TruV K x H k ∨ ∃ p kvs, x = .ref p ∧ Rd H p (.dK kvs) ∧ k = !kvs.isEmpty
theorem Dy : TruR X (fun x H Q => ∃ k, tW X.K x H k ∧ Q k H) := by
 intro pins s σ H x v Q I rx h
 obtain ⟨k, e, q⟩ := h
 rcases e with e | ⟨p, kvs, rfl, hr, rfl⟩
 ·exact tru_ok pins s σ H x v Q I rx ⟨k, e, q⟩
 ·cases rx
  obtain ⟨hz, hS, vs, r, m⟩ := dk_rd I.hok hr
  have hl := line63
  have hlen : kvs.length = vs.length := Paired.length r
  exact wpAny_truthy_dict hS m (by omega) ⟨H, I.tok _, by rw [isEmpty_kv r]; exact q⟩
theorem MG {C : Ct} {H : Hp} {Z : Addr → Prop} {β : List Addr} {xs : List V} {ds : List D} (h : aD C H Z β xs ds) : xs.isEmpty = ds.isEmpty := by
 cases h <;> rfl
theorem VQ {C : Ct} {H : Hp} {Z : Addr → Prop} {β : List Addr} {xs : List (Key × V)} {ds : List (Key × D)} (h : aP C H Z β xs ds) : xs.isEmpty = ds.isEmpty := by
 cases h <;> rfl
theorem Dz {Z : Addr → Prop} {H : Hp} {β : List Addr} {S : Store} {x : V} {d : D} {k : Bool} (A : At (au X) H Z β S) (r : RV (au X) H Z β x d) (h : jO S d = some k) : tW X.K x H k := by
 have tail : ∀ {d : D}, RV (au X) H Z β x d → (match bL S d with
  | some xs => some (!xs.isEmpty)
  | none => match dG S d with
   | some xs => some (!xs.isEmpty)
   | none => none) = some k → tW X.K x H k := fun {d} r h => by
  cases e : bL S d with
  | some ds =>
   rw [e] at h
   cases h
   obtain ⟨a, xs, rfl, q1, q2⟩ := r.bL A.st e
   exact .inl (.inl ⟨xs, q1, by rw [MG q2]⟩)
  | none =>
   rw [e] at h
   cases e2 : dG S d with
   | none => rw [e2] at h; cases h
   | some ds =>
    rw [e2] at h
    cases h
    obtain ⟨a, xs, rfl, q1, q2⟩ := r.dG A.st e2
    exact .inr ⟨a, xs, rfl, q1, by rw [VQ q2]⟩
 unfold jO at h
 cases d with
 | non => cases r; cases h; exact .inl rfl
 | bl b => cases r; cases h; exact .inl rfl
 | int i => cases r; cases h; exact .inl rfl
 | str y =>
  cases r
  simp only at h
  split at h
  ·cases h; exact .inl ⟨by assumption, rfl⟩
  ·cases h
 | tup xs =>
  cases h
  obtain ⟨a, us, rfl, q1, q2⟩ := r.fH rfl
  exact .inl (.inr (.inl ⟨us, q1, by rw [MG q2]⟩))
 | lst xs => exact tail r h
 | dct xs => exact tail r h
 | ref n => exact tail r h
 | ty n => exact tail r h
 | fn n => exact tail r h
theorem DA {m : EX} {σ : L2.St} {H : Hp} {Q : Bool → Hp → Prop} (h : BM (au X) W b (aQ m) σ H Q) : EM (au X) W b m σ H fun x H' => ∃ k, x = .bl k ∧ Q k H' := by
 obtain ⟨cf, oa, P, β, ρ, S, L, h⟩ := h
 refine ⟨cf, oa, P, β, ρ, S, L, ?_⟩
 unfold aQ at h
 cases ea : m ρ S with
 | stuck => rw [ea] at h; exact h
 | exc e S1 => rw [ea] at h; exact h
 | ok d S1 =>
  rw [ea] at h
  intro v H1 β1 e1 L1 r
  cases d with
  | bl k => cases r; exact ⟨k, rfl, h H1 β1 e1 L1⟩
  | _ => exact h.elim
theorem VR {m : EX} {σ : L2.St} {H : Hp} {Q : Bool → Hp → Prop} (h : BM (au X) W b (gD m) σ H Q) : EM (au X) W b m σ H fun x H' => ∃ k, tW X.K x H' k ∧ Q k H' := by
 obtain ⟨cf, oa, P, β, ρ, S, L, h⟩ := h
 refine ⟨cf, oa, P, β, ρ, S, L, ?_⟩
 unfold gD at h
 cases ea : m ρ S with
 | stuck => rw [ea] at h; exact h
 | exc e S1 => rw [ea] at h; exact h
 | ok d S1 =>
  rw [ea] at h
  intro v H1 β1 e1 L1 r
  simp only [R.bind] at h
  cases et : jO S1 d with
  | none => rw [et] at h; exact h.elim
  | some k => rw [et] at h; exact ⟨k, Dz L1.at r et, h H1 β1 e1 L1⟩
variable {a b' c e : Expr} {rest : List Expr} {ma mb mc : EX} {ka kb : BX} {pos : Pos}
theorem cR {op : CmpOp} {r : R2} {f : Store → D → D → Option D} (ho : OpR X (compareOp op) r) (hm : cP X r f) (ha : PM (au X) W b X a ma) (hb : PM (au X) W b X b' mb) (hk : behindInMarks op b' = false := by first | exact nobehind _ (by decide) (by decide) | rfl) :
  PB (au X) W b X (.Compare a [op] [b'] pos) (aQ (aC f ma mb)) := vD (pt_cmpR ho ha hb hk) fun σ H Q h => em2 hm (DA h)
/-- a test cA is the truth of a value -/
theorem tX (h : PM (au X) W b X e ma) (he : ∀ whole, isTrue e X.env whole = (do let v ← whole; standAt e.pos; holding [v] (truthy v)) := by intro _; rfl) : PB (au X) W b X e (gD ma) := by
 refine vD (t := fun σ H Q => EM (au X) W b ma σ H fun x H' => ∃ k, tW X.K x H' k ∧ Q k H') ⟨fun pins s σ H Q I h' => ?_⟩ fun σ H Q h => VR h
 exact isTrue_plain (thn (h.run pins s σ H _ I h') fun v s1 ⟨x, H1, I1, r1, q1⟩ => Dy pins s1 σ H1 x v Q I1 r1 q1) (he _)
structure tY (C : Ct) (W : WX) (b : Bool) (X : Cx) (e : Expr) (m : BX) : Prop where
 pw : PW X e (BM C W b m)
theorem MH {X : Cx} {e : Expr} {t t' : TT} (h : PW X e t) (i : ∀ σ H Q, t' σ H Q → t σ H Q) : PW X e t' := ⟨fun wh pins s σ H Q I hw => h.run wh pins s σ H Q I (i σ H Q hw)⟩
theorem VS {k1 k2 : BX} {σ : L2.St} {H : Hp} {Q : Bool → Hp → Prop} (h : BM (au X) W b (mQ k1 k2) σ H Q) : tAnd (BM (au X) W b k1) (BM (au X) W b k2) σ H Q := by
 obtain ⟨cf, oa, P, β, ρ, S, L, h⟩ := h
 refine ⟨cf, oa, P, β, ρ, S, L, ?_⟩
 unfold mQ at h
 cases ea : k1 ρ S with
 | stuck => rw [ea] at h; exact h
 | exc e S1 => rw [ea] at h; exact h
 | ok k S1 =>
  rw [ea] at h
  simp only [R.bind] at h
  intro H1 β1 e1 L1
  cases k with
  | false => rw [if_neg Bool.false_ne_true] at h ⊢; exact h H1 β1 e1 L1
  | true =>
   rw [if_pos rfl] at h ⊢
   refine ⟨cf, oa, P, β1, ρ, S1, L1, ?_⟩
   cases eb : k2 ρ S1 with
   | stuck => rw [eb] at h; exact h
   | exc e S2 => rw [eb] at h; intro cls d H' β' e2 L2 ex; exact h cls d H' β' (e1.trans e2) L2 ex
   | ok k' S2 => rw [eb] at h; intro H2 β2 e2 L2; exact h H2 β2 (e1.trans e2) L2
theorem VU {k1 k2 : BX} {σ : L2.St} {H : Hp} {Q : Bool → Hp → Prop} (h : BM (au X) W b (iw k1 k2) σ H Q) : tOr (BM (au X) W b k1) (BM (au X) W b k2) σ H Q := by
 obtain ⟨cf, oa, P, β, ρ, S, L, h⟩ := h
 refine ⟨cf, oa, P, β, ρ, S, L, ?_⟩
 unfold iw at h
 cases ea : k1 ρ S with
 | stuck => rw [ea] at h; exact h
 | exc e S1 => rw [ea] at h; exact h
 | ok k S1 =>
  rw [ea] at h
  simp only [R.bind] at h
  intro H1 β1 e1 L1
  cases k with
  | true => rw [if_pos rfl] at h ⊢; exact h H1 β1 e1 L1
  | false =>
   rw [if_neg Bool.false_ne_true] at h ⊢
   refine ⟨cf, oa, P, β1, ρ, S1, L1, ?_⟩
   cases eb : k2 ρ S1 with
   | stuck => rw [eb] at h; exact h
   | exc e S2 => rw [eb] at h; intro cls d H' β' e2 L2 ex; exact h cls d H' β' (e1.trans e2) L2 ex
   | ok k' S2 => rw [eb] at h; intro H2 β2 e2 L2; exact h H2 β2 (e1.trans e2) L2
theorem xW (ha : PB (au X) W b X a ka) : tY (au X) W b X (.BoolOp .And [a] pos) ka := ⟨pw_and1 ha⟩
theorem xX (ha : PB (au X) W b X a ka) : tY (au X) W b X (.BoolOp .Or [a] pos) ka := ⟨pw_or1 ha⟩
theorem xY (ha : PB (au X) W b X a ka) (hb : tY (au X) W b X (.BoolOp .And (b' :: rest) pos) kb) : tY (au X) W b X (.BoolOp .And (a :: b' :: rest) pos) (mQ ka kb) :=
 ⟨MH (pw_and ha hb.pw) fun σ H Q h => VS h⟩
theorem tZ (ha : PB (au X) W b X a ka) (hb : tY (au X) W b X (.BoolOp .Or (b' :: rest) pos) kb) : tY (au X) W b X (.BoolOp .Or (a :: b' :: rest) pos) (iw ka kb) :=
 ⟨MH (pw_or ha hb.pw) fun σ H Q h => VU h⟩
theorem oE (h : tY (au X) W b X e ka) : PB (au X) W b X e ka := h.pw.pt
theorem qM (h : PB (au X) W b X a ka) : PB (au X) W b X (.UnaryOp .Not a pos) (gG ka) := vD (pt_not h) fun σ H Q h => by
 obtain ⟨cf, oa, P, β, ρ, S, L, h⟩ := h
 refine ⟨cf, oa, P, β, ρ, S, L, ?_⟩
 unfold gG at h
 cases ea : ka ρ S with
 | stuck => rw [ea] at h; exact h
 | exc e S1 => rw [ea] at h; exact h
 | ok k S1 => rw [ea] at h; exact h
theorem u5 (hc : PB (au X) W b X c ka) (ha : PM (au X) W b X a ma) (hb : PM (au X) W b X b' mb) : PM (au X) W b X (.IfExp c a b' pos) (gH ka ma mb) := cX (pe_ifExp hc ha hb) fun σ H Q h => by
 obtain ⟨cf, oa, P, β, ρ, S, L, h⟩ := h
 refine ⟨cf, oa, P, β, ρ, S, L, ?_⟩
 unfold gH at h
 cases ea : ka ρ S with
 | stuck => rw [ea] at h; exact h
 | exc e S1 => rw [ea] at h; exact h
 | ok k S1 =>
  rw [ea] at h
  simp only [R.bind] at h
  intro H1 β1 e1 L1
  cases k with
  | true =>
   rw [if_pos rfl] at h ⊢
   refine ⟨cf, oa, P, β1, ρ, S1, L1, ?_⟩
   cases eb : ma ρ S1 with
   | stuck => rw [eb] at h; exact h
   | exc e S2 => rw [eb] at h; intro cls d H' β' e2 L2 ex; exact h cls d H' β' (e1.trans e2) L2 ex
   | ok d S2 => rw [eb] at h; intro v H2 β2 e2 L2 r; exact h v H2 β2 (e1.trans e2) L2 r
  | false =>
   rw [if_neg Bool.false_ne_true] at h ⊢
   refine ⟨cf, oa, P, β1, ρ, S1, L1, ?_⟩
   cases eb : mb ρ S1 with
   | stuck => rw [eb] at h; exact h
   | exc e S2 => rw [eb] at h; intro cls d H' β' e2 L2 ex; exact h cls d H' β' (e1.trans e2) L2 ex
   | ok d S2 => rw [eb] at h; intro v H2 β2 e2 L2 r; exact h v H2 β2 (e1.trans e2) L2 r
def VX (K : PySem.W.Frag) (ta tb : TE) : TE := fun σ H Q => ta σ H fun x H1 => ∃ k, tW K x H1 k ∧ if k = true then tb σ H1 Q else Q x H1
def VY (K : PySem.W.Frag) (ta : TE) : TE := fun σ H Q => ta σ H fun x H1 => ∃ k, tW K x H1 k ∧ Q (.bl (!k)) H1
theorem VZ {ta tb : TE} (ha : PE X a ta) (hb : PE X (.BoolOp .And (b' :: rest) pos) tb) : PE X (.BoolOp .And (a :: b' :: rest) pos) (VX X.K ta tb) := by
 refine ⟨fun pins s σ H Q I h => ?_⟩
 refine BoolOp_and (thn (ha.run pins s σ H _ I h) fun v s1 ⟨x, H1, I1, r1, q1⟩ => ?_)
 obtain ⟨k, e, q1⟩ := q1
 refine thn (Dy pins s1 σ H1 x v (fun c H2 => c = k ∧ H2 = H1) I1 r1 ⟨k, e, rfl, rfl⟩) fun c s2 hc => ?_
 obtain ⟨H2, I2, e1, e2⟩ := hc
 rw [e2] at I2
 rw [← e1] at q1
 cases c with
 | true => exact hb.run pins s2 σ H1 Q I2 q1
 | false => exact ⟨x, H1, I2, r1, q1⟩
theorem W3 {ta : TE} (ha : PE X a ta) : PE X (.UnaryOp .Not a pos) (VY X.K ta) := by
 refine ⟨fun pins s σ H Q I h => ?_⟩
 refine UnaryOp_ (thn (ha.run pins s σ H _ I h) fun v s1 ⟨x, H1, I1, r1, q1⟩ => ?_)
 obtain ⟨k, e, q1⟩ := q1
 exact not_of (thn (Dy pins s1 σ H1 x v (fun c H2 => Q (.bl (!c)) H2) I1 r1 ⟨k, e, q1⟩) fun c s2 ⟨H2, I2, q2⟩ => ⟨.bl (!c), H2, I2, rfl, q2⟩)
theorem qN {op : BoolOp} (h : PM (au X) W b X a ma) : PM (au X) W b X (.BoolOp op [a] pos) ma := pe_one h
theorem qO (ha : PM (au X) W b X a ma) (hb : PM (au X) W b X (.BoolOp .And (b' :: rest) pos) mb) : PM (au X) W b X (.BoolOp .And (a :: b' :: rest) pos) (gJ ma mb) := cX (VZ ha hb) fun σ H Q h => by
 obtain ⟨cf, oa, P, β, ρ, S, L, h⟩ := h
 refine ⟨cf, oa, P, β, ρ, S, L, ?_⟩
 unfold gJ at h
 cases ea : ma ρ S with
 | stuck => rw [ea] at h; exact h
 | exc e S1 => rw [ea] at h; exact h
 | ok d S1 =>
  rw [ea] at h
  simp only [R.bind] at h
  intro v H1 β1 e1 L1 r
  cases et : jO S1 d with
  | none => rw [et] at h; exact h.elim
  | some k =>
   rw [et] at h
   simp only [R.opt] at h
   refine ⟨k, Dz L1.at r et, ?_⟩
   cases k with
   | false => rw [if_neg Bool.false_ne_true] at h ⊢; exact h v H1 β1 e1 L1 r
   | true =>
    rw [if_pos rfl] at h ⊢
    refine ⟨cf, oa, P, β1, ρ, S1, L1, ?_⟩
    cases eb : mb ρ S1 with
    | stuck => rw [eb] at h; exact h
    | exc e S2 => rw [eb] at h; intro cls d H' β' e2 L2 ex; exact h cls d H' β' (e1.trans e2) L2 ex
    | ok d S2 => rw [eb] at h; intro v H2 β2 e2 L2 r; exact h v H2 β2 (e1.trans e2) L2 r
theorem Aq (ha : PM (au X) W b X a ma) : PM (au X) W b X (.UnaryOp .Not a pos) (ou ma) := cX (W3 ha) fun σ H Q h => by
 obtain ⟨cf, oa, P, β, ρ, S, L, h⟩ := h
 refine ⟨cf, oa, P, β, ρ, S, L, ?_⟩
 unfold ou at h
 cases ea : ma ρ S with
 | stuck => rw [ea] at h; exact h
 | exc e S1 => rw [ea] at h; exact h
 | ok d S1 =>
  rw [ea] at h
  simp only [R.bind] at h
  intro v H1 β1 e1 L1 r
  cases et : jO S1 d with
  | none => rw [et] at h; exact h.elim
  | some k =>
   rw [et] at h
   exact ⟨k, Dz L1.at r et, h _ H1 β1 e1 L1 (.bl _)⟩
theorem MI {f g : Store → D → D → Option D} {r r' : R2} {σ : L2.St} {H : Hp} {Q : VK} (hf : cP X r f) (hg : cP X r' g) (h : EM (au X) W b (oA f g ma mb mc) σ H Q) :
  tChain r r' (EM (au X) W b ma) (EM (au X) W b mb) (EM (au X) W b mc) σ H Q := by
 obtain ⟨cf, oa, P, β, ρ, S, L, h⟩ := h
 refine ⟨cf, oa, P, β, ρ, S, L, ?_⟩
 unfold oA at h
 cases ea : ma ρ S with
 | stuck => rw [ea] at h; exact h
 | exc e S1 => rw [ea] at h; exact h
 | ok dx S1 =>
  rw [ea] at h
  simp only [R.bind] at h
  intro x H1 β1 e1 L1 rx
  refine ⟨cf, oa, P, β1, ρ, S1, L1, ?_⟩
  cases eb : mb ρ S1 with
  | stuck => rw [eb] at h; exact h
  | exc e S2 => rw [eb] at h; intro cls d H' β' e2 L2 ex; exact h cls d H' β' (e1.trans e2) L2 ex
  | ok dy S2 =>
   rw [eb] at h
   simp only [R.bind] at h
   intro y H2 β2 e2 L2 ry
   cases ef : f S2 dx dy with
   | none => rw [ef] at h; exact h.elim
   | some dk =>
    rw [ef] at h
    refine hf P H2 β2 S2 x y dx dy dk _ L2.at (rx.mono e2.ext) ry ef fun v H3 e3 r3 => ?_
    cases dk with
    | bl k =>
     cases r3
     refine ⟨k, rfl, ?_⟩
     simp only [ji, Option.bind, R.opt] at h
     cases k with
     | false => rw [if_neg Bool.false_ne_true] at h ⊢; exact h _ H3 β2 (e1.trans (e2.trans (Tr.same e3))) (L2.same e3) (.bl _)
     | true =>
      rw [if_pos rfl] at h ⊢
      have L3 := L2.same e3
      refine ⟨cf, oa, P, β2, ρ, S2, L3, ?_⟩
      cases ec : mc ρ S2 with
      | stuck => rw [ec] at h; exact h
      | exc e S4 => rw [ec] at h; intro cls d H' β' e4 L4 ex; exact h cls d H' β' (e1.trans (e2.trans ((Tr.same e3).trans e4))) L4 ex
      | ok dz S4 =>
       rw [ec] at h
       simp only [R.bind] at h
       intro z H4 β4 e4 L4 rz
       cases eg : g S4 dy dz with
       | none => rw [eg] at h; exact h.elim
       | some dw =>
        rw [eg] at h
        exact hg P H4 β4 S4 y z dy dz dw Q L4.at ((ry.mono (Ext.same e3)).mono e4.ext) rz eg fun v H5 e5 r5 =>
         h v H5 β4 (e1.trans (e2.trans ((Tr.same e3).trans (e4.trans (Tr.same e5))))) (L4.same e5) r5
    | _ => exact h.elim
theorem W4 {op op' : CmpOp} {f g : Store → D → D → Option D} {r r' : R2} (ho : OpR X (compareOp op) r) (hf : cP X r f) (ho' : OpR X (compareOp op') r') (hg : cP X r' g) (ha : PM (au X) W b X a ma) (hb : PM (au X) W b X b' mb) (hc : PM (au X) W b X c mc)
  (hm : lastMarks [op, op'] [b', c] = false := by with_unfolding_all rfl) : PM (au X) W b X (.Compare a [op, op'] [b', c] pos) (oA f g ma mb mc) := cX (pe_chain ho ho' ha hb hc hm) fun σ H Q h => MI hf hg h
theorem W6 {op op' : CmpOp} {f g : Store → D → D → Option D} {r r' : R2} (ho : OpR X (compareOp op) r) (hf : cP X r f) (ho' : OpR X (compareOp op') r') (hg : cP X r' g) (ha : PM (au X) W b X a ma) (hb : PM (au X) W b X b' mb) (hc : PM (au X) W b X c mc)
  (hm : lastMarks [op, op'] [b', c] = false := by with_unfolding_all rfl) : PB (au X) W b X (.Compare a [op, op'] [b', c] pos) (aQ (oA f g ma mb mc)) := vD (pt_chain ho ho' ha hb hc hm) fun σ H Q h => MI hf hg (DA h)
end
def R.st {α : Type} (r : R α) (ρ : aN) (k : α → Store → SR) : SR := match r with
 | .ok a S => k a S
 | .exc e S => .exc e ρ S
 | .stuck => .stuck
def cY : SX := fun ρ S => .nx ρ S
def aH (s t : SX) : SX := fun ρ S => match s ρ S with
 | .nx ρ' S' => t ρ' S'
 | r => r
def W7 : SX := fun ρ S => .bk ρ S
def W8 : SX := fun ρ S => .ct ρ S
def iy (a : EX) : SX := fun ρ S => (a ρ S).st ρ fun _ S' => .nx ρ S'
def aW (a : EX) : SX := fun ρ S => (a ρ S).st ρ fun d S' => .rt d S'
def W9 : SX := fun _ S => .rt .non S
/-- return x: the DB own container goes with it -/
def xZ (i : Nat) : SX := fun ρ S => match ρ[i]? with
 | some (Sl.sh d) => .rt d S
 | some (Sl.ow d) => .rt d S
 | _ => .stuck
def cJ (c : BX) (s t : SX) : SX := fun ρ S => (c ρ S).st ρ fun k S' => if k = true then s ρ S' else t ρ S'
def bU (i : Nat) (a : EX) : SX := fun ρ S => (a ρ S).st ρ fun d S' => .nx (ρ.set i (.sh d)) S'
def qP (i : Nat) (a : EX) : SX := fun ρ S => (a ρ S).st ρ fun d S' => .nx (ρ.set i (.ow d)) S'
def vL (i : Nat) (s : SX) : SX := fun ρ S => match ρ[i]? with
 | some (Sl.ow d) => s (ρ.set i (.sh d)) S
 | _ => s ρ S
abbrev GX := D → aN → Store → Option (aN × Store)
def aM (i : Nat) : GX := fun d ρ S => some (ρ.set i (.sh d), S)
abbrev lG := List D → aN → Store → Option (aN × Store)
def cV : lG := fun ds ρ S => match ds with
 | [] => some (ρ, S)
 | _ => none
def bf (g : GX) (r : lG) : lG := fun ds ρ S => match ds with
 | d :: t => (g d ρ S).bind fun p => r t p.1 p.2
 | [] => none
def dW (g : lG) : GX := fun d ρ S => (fH d).bind fun ds => g ds ρ S
def fV (a : EX) (g : GX) : SX := fun ρ S => (a ρ S).st ρ fun d S' => match g d ρ S' with
 | some (ρ', Wb) => .nx ρ' Wb
 | none => .stuck
/-- a loop over known items -/
def forL (g : GX) (body : SX) : List D → SX
 | [], ρ, S => .nx ρ S
 | d :: ds, ρ, S => match g d ρ S with
  | none => .stuck
  | some (ρ1, S1) => match body ρ1 S1 with
   | .nx ρ' S' => forL g body ds ρ' S'
   | .ct ρ' S' => forL g body ds ρ' S'
   | .bk ρ' S' => .nx ρ' S'
   | r => r
def j6 (it : AX) (g : GX) (body : SX) : SX := fun ρ S => (it ρ S).st ρ fun ds S' => forL g body ds ρ S'
/-- a xO body as a function of its arguments; n: how many slots -/
def aX (n : Nat) (body : SX) : FX := fun ds S => match body (ds.map Sl.sh ++ List.replicate (n - ds.length) Sl.un) S with
 | .nx _ S' => .ok .non S'
 | .rt d S' => .ok d S'
 | .exc e _ S' => .exc e S'
 | _ => .stuck
section
variable {C : Ct} {cf : Cf} {oa : Nat → Option Addr} {P P' : Addr → Prop} {σ : L2.St} {H : Hp} {β : List Addr} {ρ : aN} {S : Store}
/-- a slot is set -/
theorem LR.set (L : LR C cf oa P σ H β ρ S) {i : Nat} {v : V} {d : D} (r : RV C H P β v d) : LR C cf (fun j => if j = i then none else oa j) P (σ.set i (some v)) H β (ρ.set i (.sh d)) S where
 len := by rw [List.length_set, List.length_set]; exact L.len
 p := L.p
 sub := L.sub
 p0 := L.p0
 ext := L.ext
 own := fun j a h => by
  by_cases e : j = i
  ·rw [if_pos e] at h; cases h
  ·rw [if_neg e] at h; exact L.own j a h
 inj := fun j k a h1 h2 => by
  by_cases e : j = i
  ·rw [if_pos e] at h1; cases h1
  ·by_cases e2 : k = i
   ·rw [if_pos e2] at h2; cases h2
   ·rw [if_neg e] at h1; rw [if_neg e2] at h2; exact L.inj j k a h1 h2
 st := L.st
 slot := fun j x h => by
  by_cases e : i = j
  ·subst e
   by_cases hl : i < ρ.length
   ·rw [List.getElem?_set_self hl] at h
    cases h
    exact ⟨v, List.getElem?_set_self (by rw [L.len]; exact hl), r⟩
   ·rw [List.getElem?_eq_none (by rw [List.length_set]; omega)] at h; cases h
  ·rw [List.getElem?_set_ne e] at h
   obtain ⟨u, q1, q2⟩ := L.slot j x h
   exact ⟨u, by rw [List.getElem?_set_ne e]; exact q1, q2⟩
 bY := fun j x h => by
  by_cases e : i = j
  ·subst e
   by_cases hl : i < ρ.length
   ·rw [List.getElem?_set_self hl] at h; cases h
   ·rw [List.getElem?_eq_none (by rw [List.length_set]; omega)] at h; cases h
  ·rw [List.getElem?_set_ne e] at h
   obtain ⟨a, q0, q1, q2⟩ := L.bY j x h
   exact ⟨a, by rw [if_neg fun z => e z.symm]; exact q0, by rw [List.getElem?_set_ne e]; exact q1, q2⟩
 xslot := fun j x h => by
  by_cases e : i = j
  ·subst e
   by_cases hl : i < ρ.length
   ·rw [List.getElem?_set_self hl] at h; cases h
   ·rw [List.getElem?_eq_none (by rw [List.length_set]; omega)] at h; cases h
  ·rw [List.getElem?_set_ne e] at h
   obtain ⟨b, q1, q2⟩ := L.xslot j x h
   exact ⟨b, by rw [List.getElem?_set_ne e]; exact q1, q2⟩
/-- a slot takes a new container of its own -/
theorem LR.Wc {a : Addr} (L : LR C cf oa (fun b => P b ∨ b = a) σ H β ρ S) {i : Nat} {d : D} (h0 : cf.H0 a = none) (hn : ∀ j, oa j ≠ some a) (o : cO C H (fun b => P b ∨ b = a) β a d) :
  LR C cf (fun j => if j = i then some a else oa j) (fun b => P b ∨ b = a) (σ.set i (some (.ref a))) H β (ρ.set i (.ow d)) S where
 len := by rw [List.length_set, List.length_set]; exact L.len
 p := L.p
 sub := L.sub
 p0 := L.p0
 ext := L.ext
 own := fun j b h => by
  by_cases e : j = i
  ·rw [if_pos e] at h; cases h; exact ⟨.inr rfl, h0⟩
  ·rw [if_neg e] at h; exact L.own j b h
 inj := fun j k b h1 h2 => by
  by_cases e : j = i
  ·by_cases e2 : k = i
   ·rw [e, e2]
   ·rw [if_pos e] at h1; cases h1; rw [if_neg e2] at h2; exact absurd h2 (hn k)
  ·by_cases e2 : k = i
   ·rw [if_pos e2] at h2; cases h2; rw [if_neg e] at h1; exact absurd h1 (hn j)
   ·rw [if_neg e] at h1; rw [if_neg e2] at h2; exact L.inj j k b h1 h2
 st := L.st
 slot := fun j x h => by
  by_cases e : i = j
  ·subst e
   by_cases hl : i < ρ.length
   ·rw [List.getElem?_set_self hl] at h; cases h
   ·rw [List.getElem?_eq_none (by rw [List.length_set]; omega)] at h; cases h
  ·rw [List.getElem?_set_ne e] at h
   obtain ⟨u, q1, q2⟩ := L.slot j x h
   exact ⟨u, by rw [List.getElem?_set_ne e]; exact q1, q2⟩
 bY := fun j x h => by
  by_cases e : i = j
  ·subst e
   by_cases hl : i < ρ.length
   ·rw [List.getElem?_set_self hl] at h
    cases h
    exact ⟨a, if_pos rfl, List.getElem?_set_self (by rw [L.len]; exact hl), o⟩
   ·rw [List.getElem?_eq_none (by rw [List.length_set]; omega)] at h; cases h
  ·rw [List.getElem?_set_ne e] at h
   obtain ⟨b, q0, q1, q2⟩ := L.bY j x h
   exact ⟨b, by rw [if_neg fun z => e z.symm]; exact q0, by rw [List.getElem?_set_ne e]; exact q1, q2⟩
 xslot := fun j x h => by
  by_cases e : i = j
  ·subst e
   by_cases hl : i < ρ.length
   ·rw [List.getElem?_set_self hl] at h; cases h
   ·rw [List.getElem?_eq_none (by rw [List.length_set]; omega)] at h; cases h
  ·rw [List.getElem?_set_ne e] at h
   obtain ⟨b, q1, q2⟩ := L.xslot j x h
   exact ⟨b, by rw [List.getElem?_set_ne e]; exact q1, q2⟩
/-- a DB own container is no longer its own -/
theorem LR.MJ (L : LR C cf oa P σ H β ρ S) {i : Nat} {d : D} (h : ρ[i]? = some (Sl.ow d)) : ∃ a, P a ∧ a ∉ β ∧ cf.H0 a = none ∧ σ[i]? = some (some (.ref a)) ∧ cO C H P β a d ∧ LR C cf (fun j => if j = i then none else oa j) (fun b => P b ∧ b ≠ a) σ H β (ρ.set i .un) S := by
 obtain ⟨a, h1, h2, o⟩ := L.bY i d h
 refine ⟨a, (L.own i a h1).1, (L.p a (L.own i a h1).1).2, (L.own i a h1).2, h2, o, ?_⟩
 have L1 : LR C cf (fun j => if j = i then none else oa j) P σ H β (ρ.set i .un) S := by
  refine ⟨by rw [List.length_set]; exact L.len, L.p, L.sub, L.p0, L.ext, fun j b hb => ?_, fun j k b q1 q2 => ?_, L.st, fun j x hx => ?_, fun j x hx => ?_, fun j x hx => ?_⟩
  ·by_cases e : j = i
   ·rw [if_pos e] at hb; cases hb
   ·rw [if_neg e] at hb; exact L.own j b hb
  ·by_cases e : j = i
   ·rw [if_pos e] at q1; cases q1
   ·by_cases e2 : k = i
    ·rw [if_pos e2] at q2; cases q2
    ·rw [if_neg e] at q1; rw [if_neg e2] at q2; exact L.inj j k b q1 q2
  ·by_cases e : i = j
   ·subst e
    by_cases hl : i < ρ.length
    ·rw [List.getElem?_set_self hl] at hx; cases hx
    ·rw [List.getElem?_eq_none (by rw [List.length_set]; omega)] at hx; cases hx
   ·rw [List.getElem?_set_ne e] at hx; exact L.slot j x hx
  ·by_cases e : i = j
   ·subst e
    by_cases hl : i < ρ.length
    ·rw [List.getElem?_set_self hl] at hx; cases hx
    ·rw [List.getElem?_eq_none (by rw [List.length_set]; omega)] at hx; cases hx
   ·rw [List.getElem?_set_ne e] at hx
    obtain ⟨b, q0, q1, q2⟩ := L.bY j x hx
    exact ⟨b, by rw [if_neg fun z => e z.symm]; exact q0, q1, q2⟩
  ·by_cases e : i = j
   ·subst e
    by_cases hl : i < ρ.length
    ·rw [List.getElem?_set_self hl] at hx; cases hx
    ·rw [List.getElem?_eq_none (by rw [List.length_set]; omega)] at hx; cases hx
   ·rw [List.getElem?_set_ne e] at hx
    exact L.xslot j x hx
 have L2 : LR C cf (fun j => if j = i then none else oa j) (fun b => P b ∧ b ≠ a) σ H β (ρ.set i .un) S := L1.less (fun _ z => z.1) (fun b hb => ⟨L.sub b hb, fun z => L.p0 b hb (by rw [z]; exact (L.own i a h1).2)⟩) fun j b hb => by
  have hb' := hb
  by_cases e : j = i
  ·rw [if_pos e] at hb; cases hb
  ·rw [if_neg e] at hb
   exact ⟨(L.own j b hb).1, fun z => e (L.inj j i a (z ▸ hb) h1)⟩
 exact L2
theorem LR.MK {σ : L2.St} {ρ : aN} {i : Nat} {a : Addr} {d : D} (L : LR C cf (fun j => if j = i then none else oa j) P σ H β (ρ.set i .un) S) (h2 : σ[i]? = some (some (.ref a))) (rv : RV C H P β (.ref a) d) : LR C cf (fun j => if j = i then none else oa j) P σ H β (ρ.set i (.sh d)) S := by
 have L3 := L.set (i := i) rv
 have e1 : (ρ.set i Sl.un).set i (.sh d) = ρ.set i (.sh d) := by rw [List.set_set]
 have e2 : σ.set i (some (.ref a)) = σ := by
  refine List.ext_getElem? fun j => ?_
  by_cases e : i = j
  ·subst e; rw [h2, List.getElem?_set_self (List.getElem?_eq_some_iff.mp h2).1]
  ·rw [List.getElem?_set_ne e]
 have e3 : (fun j => if j = i then none else (if j = i then none else oa j)) = fun j => if j = i then none else oa j := by
  funext j
  by_cases e : j = i
  ·rw [if_pos e, if_pos e]
  ·rw [if_neg e]
 rw [e1, e2] at L3
 exact e3 ▸ L3
/-- a DB own list is shared from now on -/
theorem LR.share (L : LR C cf oa P σ H β ρ S) {i : Nat} {ds : List D} (h : ρ[i]? = some (Sl.ow (.lst ds))) : ∃ P', (∀ a, P' a → P a) ∧ LR C cf (fun j => if j = i then none else oa j) P' σ H β (ρ.set i (.sh (.lst ds))) S := by
 obtain ⟨a, hp, nb, h0, h2, ⟨xs, q, r⟩, L2⟩ := L.MJ h
 exact ⟨fun b => P b ∧ b ≠ a, fun _ z => z.1, L2.MK h2 (.lst (fun z => z.2 rfl) nb (.inl q) (r.less fun _ z => z.1))⟩
/-- .. a dict: it is frozen -/
theorem LR.ML (L : LR C cf oa P σ H β ρ S) {i : Nat} {ds : List (Key × D)} (h : ρ[i]? = some (Sl.ow (.dct ds))) : ∃ a xs, H a = some (.dK xs) ∧ σ[i]? = some (some (.ref a)) ∧ cf.H0 a = none ∧ a ∉ β ∧ P a ∧ ∀ od, Fx H P β (upd H a (.frz od (.dK xs))) (fun b => P b ∧ b ≠ a) β ∧
  RV C (upd H a (.frz od (.dK xs))) (fun b => P b ∧ b ≠ a) β (.ref a) (.dct ds) ∧ LR C cf (fun j => if j = i then none else oa j) (fun b => P b ∧ b ≠ a) σ (upd H a (.frz od (.dK xs))) β (ρ.set i (.sh (.dct ds))) S := by
 obtain ⟨a, hp, nb, h0, h2, ⟨xs, q, r⟩, L2⟩ := L.MJ h
 refine ⟨a, xs, q, h2, h0, nb, hp, fun od => ?_⟩
 have f : Fx H (fun b => P b ∧ b ≠ a) β (upd H a (.frz od (.dK xs))) (fun b => P b ∧ b ≠ a) β := Fx.frz q
 have rv : RV C (upd H a (.frz od (.dK xs))) (fun b => P b ∧ b ≠ a) β (.ref a) (.dct ds) := .dct (fun z => z.2 rfl) nb ⟨od, upd_same⟩ ((r.less fun _ z => z.1).fx f)
 exact ⟨(Fx.less fun _ z => z.1).trans f, rv, (L2.frz q (fun z => z.2 rfl) nb h0).MK h2 rv⟩
end
section
variable {X : Cx} {W : WX} {a e : Expr} {ma : EX} {ka : BX} {s1 s2 : SX} {st : Stmt} {rest : List Stmt} {pos : Pos}
theorem iJ : jB (au X) W X [] cY := xQ pss_nil fun D σ H h => by
 obtain ⟨cf, oa, P, β, ρ, S, L, h⟩ := h
 exact h σ H β oa P L Fx.refl
theorem bu (h : gj (au X) W X st s1) : jB (au X) W X [st] s1 := pss_one h
theorem aY (h1 : gj (au X) W X st s1) (h2 : jB (au X) W X rest s2) : jB (au X) W X (st :: rest) (aH s1 s2) := xQ (pss_cons h1 h2) fun D σ H h => by
 obtain ⟨cf, oa, P, β, ρ, S, L, h⟩ := h
 refine ⟨cf, oa, P, β, ρ, S, L, ?_⟩
 unfold aH at h
 cases es : s1 ρ S with
 | nx ρ1 S1 =>
  rw [es] at h
  intro σ1 H1 β1 DC P1 L1 f1
  exact ⟨cf, DC, P1, β1, ρ1, S1, L1, h.fx f1⟩
 | bk ρ1 S1 => rw [es] at h; exact h
 | ct ρ1 S1 => rw [es] at h; exact h
 | rt d S1 => rw [es] at h; exact h
 | exc e ρ1 S1 => rw [es] at h; exact h
 | stuck => rw [es] at h; exact h
/-- what an exception wants, from an Wd to a VF -/
theorem jC {C : Ct} {cf : Cf} {oa : Nat → Option Addr} {P : Addr → Prop} {σ : L2.St} {b : Bool} {H : Hp} {β : List Addr} {ρ : aN} {S S' : Store} {e : bT}
  (h : ∀ cls x σ' H' β' bB P', LR C cf bB P' σ' H' β' ρ S' → Fx H P β H' P' β' → jA C H' P' β' cls x e → W cls x σ' H') : XP C W cf oa P σ b H β ρ S e S' :=
 fun cls x H' β' t L ex => h cls x σ H' β' oa P L (Fx.of t.ext) ex
theorem u6 (h : PM (au X) W false X e ma) (hs : swapsWith e none pos.line X.env = pure false := by rfl) : gj (au X) W X (.Expr e pos) (iy ma) := jh (ps_expr h hs) fun D σ H h => by
 obtain ⟨cf, oa, P, β, ρ, S, L, h⟩ := h
 refine ⟨cf, oa, P, β, ρ, S, L, ?_⟩
 unfold iy at h
 cases ea : ma ρ S with
 | stuck => rw [ea] at h; exact h
 | exc e S1 => rw [ea] at h; exact jC h
 | ok d S1 => rw [ea] at h; intro v H1 β1 t L1 r; exact h σ H1 β1 oa P L1 (Fx.of t.ext)
theorem Ar {C : Ct} {cf : Cf} {oa : Nat → Option Addr} {P : Addr → Prop} {σ : L2.St} {H : Hp} {β : List Addr} {ρ : aN} {S : Store} {v : V} {d : D} (L : LR C cf oa P σ H β ρ S) (r : RV C H P β v d) :
  pM cf H β ∧ aU C H cf.P0 β S ∧ RV C H cf.P0 β v d := ⟨L.ext, L.st.less L.sub, r.less L.sub⟩
theorem bZ (h : PM (au X) W false X e ma) : gj (au X) W X (.Return (some e) pos) (aW ma) := jh (ps_ret h) fun D σ H h => by
 obtain ⟨cf, oa, P, β, ρ, S, L, h⟩ := h
 refine ⟨cf, oa, P, β, ρ, S, L, ?_⟩
 unfold aW at h
 cases ea : ma ρ S with
 | stuck => rw [ea] at h; exact h
 | exc e S1 => rw [ea] at h; exact jC h
 | ok d S1 =>
  rw [ea] at h
  intro v H1 β1 t L1 r
  obtain ⟨q1, q2, q3⟩ := Ar L1 r
  exact h v H1 β1 q1 t.ext.fs q2 q3
theorem Wf {i : Nat} {x : Str} {px : Pos} (h : PE X (.Name x px) (tVar i)) : gj (au X) W X (.Return (some (.Name x px)) pos) (xZ i) := jh (ps_ret (MD h)) fun D σ H h => by
 obtain ⟨cf, oa, P, β, ρ, S, L, h⟩ := h
 unfold xZ at h
 unfold tRet MC tVar
 cases ei : ρ[i]? with
 | none => rw [ei] at h; exact h.elim
 | some sl =>
  rw [ei] at h
  cases sl with
  | un => exact h.elim
  | ex _ => exact h.elim
  | sh d =>
   obtain ⟨v, e1, r⟩ := L.slot i d ei
   obtain ⟨q1, q2, q3⟩ := Ar L r
   exact ⟨v, e1, .inl (h v H β q1 Fs.refl q2 q3)⟩
  | ow d =>
   cases d with
   | lst ds =>
    obtain ⟨P', hs, L'⟩ := L.share ei
    obtain ⟨v, e1, r⟩ := L'.slot i _ (List.getElem?_set_self (List.getElem?_eq_some_iff.mp ei).1)
    obtain ⟨q1, q2, q3⟩ := Ar L' r
    exact ⟨v, e1, .inl (h v H β q1 Fs.refl q2 q3)⟩
   | dct ds =>
    obtain ⟨a, xs, q, e1, h0, nb, hp, hh⟩ := L.ML ei
    refine ⟨.ref a, e1, .inr ⟨a, xs, rfl, q, fun od => ?_⟩⟩
    obtain ⟨fx, rv, L'⟩ := hh od
    obtain ⟨q1, q2, q3⟩ := Ar L' rv
    exact h _ _ β q1 fx.fs q2 q3
   | _ => obtain ⟨a, e1, e2, o⟩ := L.bY i _ ei; exact o.elim
theorem iz {p q : List Stmt} {c : Expr} (hc : PB (au X) W false X c ka) (h1 : jB (au X) W X p s1) (h2 : jB (au X) W X q s2) : gj (au X) W X (.If c p q pos) (cJ ka s1 s2) := jh (ps_if hc h1 h2) fun D σ H h => by
 obtain ⟨cf, oa, P, β, ρ, S, L, h⟩ := h
 refine ⟨cf, oa, P, β, ρ, S, L, ?_⟩
 unfold cJ at h
 cases ea : ka ρ S with
 | stuck => rw [ea] at h; exact h
 | exc e S1 => rw [ea] at h; exact jC h
 | ok k S1 =>
  rw [ea] at h
  simp only [R.st] at h
  intro H1 β1 t L1
  cases k with
  | true => rw [if_pos rfl] at h ⊢; exact ⟨cf, oa, P, β1, ρ, S1, L1, h.fx (Fx.of t.ext)⟩
  | false => rw [if_neg Bool.false_ne_true] at h ⊢; exact ⟨cf, oa, P, β1, ρ, S1, L1, h.fx (Fx.of t.ext)⟩
/-- name = e, by what the statement reads -/
theorem MM {i : Nat} {t : TE} (h : PS X st (tAsg t (gName i))) (ht : ∀ σ H Q, EM (au X) W false ma σ H Q → t σ H Q) : gj (au X) W X st (bU i ma) := jh h fun D σ H h => by
 obtain ⟨cf, oa, P, β, ρ, S, L, h⟩ := h
 refine ht _ _ _ ⟨cf, oa, P, β, ρ, S, L, ?_⟩
 unfold bU at h
 cases ea : ma ρ S with
 | stuck => rw [ea] at h; exact h
 | exc e S1 => rw [ea] at h; exact jC h
 | ok d S1 =>
  rw [ea] at h
  intro v H1 β1 t L1 r
  exact h _ H1 β1 _ P (L1.set r) (Fx.of t.ext)
theorem As {i : Nat} {t : TE} (h : PS X st (tAsg t (gName i))) (ht : ∀ σ H Q, EO (au X) W false ma σ H Q → t σ H Q) : gj (au X) W X st (qP i ma) := jh h fun D σ H h => by
 obtain ⟨cf, oa, P, β, ρ, S, L, h⟩ := h
 refine ht _ _ _ ⟨cf, oa, P, β, ρ, S, L, ?_⟩
 unfold qP at h
 cases ea : ma ρ S with
 | stuck => rw [ea] at h; exact h
 | exc e S1 => rw [ea] at h; exact jC h
 | ok d S1 =>
  rw [ea] at h
  intro a H1 β1 t hn L1 o
  have h0 : cf.H0 a = none := by
   cases z : cf.H0 a with
   | none => rfl
   | some u => exact absurd hn (L.ext.stay a (by rw [z]; exact Option.some_ne_none _))
  have no : ∀ j, oa j ≠ some a := fun j z => (L.p a (L.own j a z).1).1 hn
  exact h _ H1 β1 _ _ (L1.Wc h0 no o) (Fx.more t.ext hn)
/-- a dict may be frozen ahead of a statement -/
def Wg (t : TS) : TS := fun D σ H => t D σ H ∨ ∃ a xs, H a = some (.dK xs) ∧ ∀ od, t D σ (upd H a (.frz od (.dK xs)))
theorem Wh {t : TS} (h : PS X st t) : PS X st (Wg t) := ⟨fun pins s σ H D I hw => by
 rcases hw with hw | ⟨a, xs, e, hw⟩
 ·exact h.run pins s σ H D I hw
 ·obtain ⟨od, I2⟩ := I.lock e True.intro
  exact h.run pins s σ _ D I2 (hw od)⟩
theorem MN {i : Nat} (h : gj (au X) W X st s1) : gj (au X) W X st (vL i s1) := jh (Wh h) fun D σ H h => by
 obtain ⟨cf, oa, P, β, ρ, S, L, h⟩ := h
 unfold vL at h
 cases ei : ρ[i]? with
 | none => rw [ei] at h; exact .inl ⟨cf, oa, P, β, ρ, S, L, h⟩
 | some sl =>
  rw [ei] at h
  cases sl with
  | un => exact .inl ⟨cf, oa, P, β, ρ, S, L, h⟩
  | ex _ => exact .inl ⟨cf, oa, P, β, ρ, S, L, h⟩
  | sh d => exact .inl ⟨cf, oa, P, β, ρ, S, L, h⟩
  | ow d =>
   cases d with
   | lst ds =>
    obtain ⟨P', hs, L'⟩ := L.share ei
    exact .inl ⟨cf, _, P', β, _, S, L', h.fx (Fx.less hs)⟩
   | dct ds =>
    obtain ⟨a, xs, q, e1, h0, nb, hp, hh⟩ := L.ML ei
    refine .inr ⟨a, xs, q, fun od => ?_⟩
    obtain ⟨f, _, L'⟩ := hh od
    exact ⟨cf, _, _, β, _, S, L', h.fx f⟩
   | _ => obtain ⟨a, e1, e2, o⟩ := L.bY i _ ei; exact o.elim
def GM (C : Ct) (T : GX) : TG := fun v σ H Q => ∃ cf oa P β ρ S d, LR C cf oa P σ H β ρ S ∧ RV C H P β v d ∧ (match T d ρ S with
 | some p => ∀ σ' H' β' bB P', LR C cf bB P' σ' H' β' p.1 p.2 → Fx H P β H' P' β' → Q σ' H'
 | none => False)
def Wi (C : Ct) (T : lG) : TGs := fun vs σ H Q => ∃ cf oa P β ρ S ds, LR C cf oa P σ H β ρ S ∧ aD C H P β vs ds ∧ (match T ds ρ S with
 | some p => ∀ σ' H' β' bB P', LR C cf bB P' σ' H' β' p.1 p.2 → Fx H P β H' P' β' → Q σ' H'
 | none => False)
abbrev qQ (X : Cx) (e : Expr) (T : GX) : Prop := PG X e (GM (au X) T)
abbrev vM (X : Cx) (es : List Expr) (T : lG) : Prop := PGs X es (Wi (au X) T)
theorem Av {X : Cx} {e : Expr} {t t' : TG} (h : PG X e t) (i : ∀ v σ H Q, t' v σ H Q → t v σ H Q) : PG X e t' := ⟨fun pins s σ H v u Q I r hw => h.run pins s σ H v u Q I r (i v σ H Q hw)⟩
theorem DE {X : Cx} {e : List Expr} {t t' : TGs} (h : PGs X e t) (i : ∀ v σ H Q, t' v σ H Q → t v σ H Q) : PGs X e t' := ⟨fun pins s σ H v u Q I r hw => h.run pins s σ H v u Q I r (i v σ H Q hw)⟩
variable {tg : Expr} {qR : List Expr} {g : GX} {gs : lG}
theorem Wj {i : Nat} (h : PG X tg (gName i)) : qQ X tg (aM i) := Av h fun v σ H Q h => by
 obtain ⟨cf, oa, P, β, ρ, S, d, L, r, h⟩ := h
 exact h _ H β _ P (L.set r) Fx.refl
theorem qT : vM X [] cV := DE pgs_nil fun vs σ H Q h => by
 obtain ⟨cf, oa, P, β, ρ, S, ds, L, r, h⟩ := h
 cases r with
 | nil => exact ⟨rfl, h σ H β oa P L Fx.refl⟩
 | cons r rs => exact h.elim
theorem j7 (h1 : qQ X tg g) (h2 : vM X qR gs) (hs : (assignEach (tg :: qR) X.env).map (·.2) = assign tg X.env :: (assignEach qR X.env).map (·.2) := by rfl) : vM X (tg :: qR) (bf g gs) := DE (pgs_cons h1 h2 hs) fun vs σ H Q h => by
 obtain ⟨cf, oa, P, β, ρ, S, ds, L, r, h⟩ := h
 cases r with
 | nil => exact h.elim
 | @cons v vs d ds r rs =>
  refine ⟨v, vs, rfl, cf, oa, P, β, ρ, S, d, L, r, ?_⟩
  simp only [bf] at h
  cases eg : g d ρ S with
  | none => rw [eg] at h; exact h.elim
  | some p =>
   rw [eg] at h
   intro σ1 H1 β1 DC P1 L1 f1
   refine ⟨cf, DC, P1, β1, p.1, p.2, ds, L1, rs.fx f1, ?_⟩
   simp only [Option.bind] at h
   cases e2 : gs ds p.1 p.2 with
   | none => rw [e2] at h; exact h.elim
   | some q => rw [e2] at h; intro σ2 H2 β2 j5 P2 L2 f2; exact h σ2 H2 β2 j5 P2 L2 (f1.trans f2)
theorem qU {k : Nat} {n : Nat} (hc : X.calm = true) (h : vM X qR gs) (hgs : ∀ ds ρ S, ds.length ≠ n → gs ds ρ S = none) (hn : (assignEach qR X.env).length = n := by rfl) (hst : (assignEach qR X.env).findIdx? (·.1) = none := by rfl) : qQ X (.Tuple qR k pos) (dW gs) :=
 Av (pg_tup hc h hn hst) fun v σ H Q h => by
  obtain ⟨cf, oa, P, β, ρ, S, d, L, r, h⟩ := h
  unfold dW at h
  cases ev : fH d with
  | none => rw [ev] at h; exact h.elim
  | some ds =>
   rw [ev] at h
   obtain ⟨a, xs, rfl, q1, q2⟩ := r.fH ev
   refine ⟨a, xs, rfl, q1, ?_, cf, oa, P, β, ρ, S, ds, L, q2, h⟩
   by_cases hl : ds.length = n
   ·rw [q2.length]; exact hl
   ·simp only [Option.bind] at h
    rw [hgs ds ρ S hl] at h
    exact h.elim
theorem pQ (he : PM (au X) W false X e ma) (hg : qQ X tg g) (hs : swapsWithSole [tg] e pos.line X.env = pure false := by rfl) (hw : swappedStores [tg] e X.env = pure none := by rfl)
  (h1 : (assignEach [tg] X.env).map (·.2) = [assign tg X.env] := by rfl) : gj (au X) W X (.Assign [tg] e pos) (fV ma g) := jh (ps_asg he hg hs hw h1) fun D σ H h => by
 obtain ⟨cf, oa, P, β, ρ, S, L, h⟩ := h
 refine ⟨cf, oa, P, β, ρ, S, L, ?_⟩
 unfold fV at h
 cases ea : ma ρ S with
 | stuck => rw [ea] at h; exact h
 | exc e S1 => rw [ea] at h; exact jC h
 | ok d S1 =>
  rw [ea] at h
  simp only [R.st] at h
  intro v H1 β1 t L1 r
  refine ⟨cf, oa, P, β1, ρ, S1, d, L1, r, ?_⟩
  cases eg : g d ρ S1 with
  | none => rw [eg] at h; exact h.elim
  | some p => rw [eg] at h; intro σ2 H2 β2 j5 P2 L2 f2; exact h σ2 H2 β2 j5 P2 L2 ((Fx.of t.ext).trans f2)
def lH (C : Ct) (J : It) (ds : List D) (H : Hp) (P : Addr → Prop) (β : List Addr) : Prop :=
 ∀ (i : Nat) (H2 : Hp) (P2 : Addr → Prop) (β2 : List Addr), Fx H P β H2 P2 β2 → (∀ p, H2 p = none → ¬ P2 p ∧ p ∉ β2) →
  (∀ d, ds[i]? = some d → J.go i H2 ∧ ∀ x H3, J.yld i H2 x H3 → Same H2 H3 ∧ RV C H3 P2 β2 x d) ∧ (ds.length = i → J.stop i H2)
def IM (C : Ct) (W : WX) (b : Bool) (m : AX) : TI := fun σ H R => ∃ cf oa P β ρ S, LR C cf oa P σ H β ρ S ∧ (match m ρ S with
 | .ok ds S' => ∀ J H' β', Tr b H β S H' β' S' → LR C cf oa P σ H' β' ρ S' → lH C J ds H' P β' → R J H'
 | .exc e S' => XP C W cf oa P σ b H β ρ S e S'
 | .stuck => False)
abbrev pU (C : Ct) (W : WX) (b : Bool) (X : Cx) (tg iter : Expr) (m : AX) : Prop := PI X tg iter (IM C W b m)
theorem yc {X : Cx} {tg iter : Expr} {t t' : TI} (h : PI X tg iter t) (i : ∀ σ H R, t' σ H R → t σ H R) : PI X tg iter t' := ⟨fun pins s σ H R I hw => h.run pins s σ H R I (i σ H R hw)⟩
variable {iter : Expr} {it : AX} {body : List Stmt}
theorem LR.new {C : Ct} {cf : Cf} {oa : Nat → Option Addr} {P : Addr → Prop} {σ : L2.St} {H : Hp} {β : List Addr} {ρ : aN} {S : Store} (L : LR C cf oa P σ H β ρ S) : ∀ p, H p = none → ¬ P p ∧ p ∉ β := fun _ h => ⟨L.pN h, L.pO h⟩
theorem pW (hp : PassesOwn (model X.prog X.w) X.A X.env X.xe) (hc : X.calm = true) (hi : pU (au X) W false X tg iter it) (hg : qQ X tg g) (hb : jB (au X) W X body s1)
  (hs : ∀ x, foldedSetIterable iter X.env x = pure x := by intro _; rfl) : gj (au X) W X (.For tg iter body [] pos) (j6 it g s1) := jh (ps_for hp hc hi hg hb hs) fun D σ H h => by
 obtain ⟨cf, oa, P, β, ρ, S, L, h⟩ := h
 refine ⟨cf, oa, P, β, ρ, S, L, ?_⟩
 unfold j6 at h
 cases ea : it ρ S with
 | stuck => rw [ea] at h; exact h
 | exc e S1 => rw [ea] at h; exact jC h
 | ok ds S1 =>
  rw [ea] at h
  intro J H1 β1 t L1 im
  have h1 : SQ (au X) W cf H1 P β1 D (forL g s1 ds ρ S1) := SQ.fx (Fx.of t.ext) h
  have im' : lH (au X) J ds H1 P β1 := im
  refine ⟨fun i m σ2 H2 => m = ds.length - i ∧ i ≤ ds.length ∧ ∃ j5 P2 β2 ρ2 S2, LR (au X) cf j5 P2 σ2 H2 β2 ρ2 S2 ∧ Fx H1 P β1 H2 P2 β2 ∧ SQ (au X) W cf H2 P2 β2 D (forL g s1 (ds.drop i) ρ2 S2),
   ⟨ds.length, by simp, Nat.zero_le _, oa, P, β1, ρ, S1, L1, Fx.refl, h1⟩, ?_⟩
  rintro i m σ2 H2 ⟨rfl, hi, j5, P2, β2, ρ2, S2, L2, f2, q⟩
  obtain ⟨go, stop⟩ := im' i H2 P2 β2 f2 L2.new
  by_cases hl : i < ds.length
  ·right
   have hd : ds[i]? = some ds[i] := List.getElem?_eq_getElem hl
   obtain ⟨g1, g2⟩ := go _ hd
   rw [List.drop_eq_getElem_cons hl] at q
   simp only [forL] at q
   refine ⟨g1, fun σ' H' => ∃ Wk P3 β3 ρ3 S3, LR (au X) cf Wk P3 σ' H' β3 ρ3 S3 ∧ Fx H1 P β1 H' P3 β3 ∧ SQ (au X) W cf H' P3 β3 D (forL g s1 (ds.drop (i + 1)) ρ3 S3), fun σ' H' hN => ⟨ds.length - (i + 1), by omega, rfl, hl, hN⟩, fun x H3 y => ?_⟩
   obtain ⟨e3, r3⟩ := g2 x H3 y
   have L3 := L2.same e3
   have f3 : Fx H2 P2 β2 H3 P2 β2 := Fx.of (Ext.same e3)
   refine ⟨cf, j5, P2, β2, ρ2, S2, ds[i], L3, r3, ?_⟩
   cases eg : g ds[i] ρ2 S2 with
   | none => rw [eg] at q; exact q.elim
   | some p =>
    rw [eg] at q
    intro σ4 H4 β4 Wl P4 L4 f4
    refine ⟨cf, Wl, P4, β4, p.1, p.2, L4, ?_⟩
    have u9 := f3.trans f4
    simp only at q
    cases es : s1 p.1 p.2 with
    | nx ρ5 S5 => rw [es] at q; intro σ5 H5 β5 DF P5 L5 f5; exact ⟨DF, P5, β5, ρ5, S5, L5, f2.trans (u9.trans f5), SQ.fx (u9.trans f5) q⟩
    | ct ρ5 S5 => rw [es] at q; intro σ5 H5 β5 DF P5 L5 f5; exact ⟨DF, P5, β5, ρ5, S5, L5, f2.trans (u9.trans f5), SQ.fx (u9.trans f5) q⟩
    | bk ρ5 S5 => rw [es] at q; exact SQ.fx (r := .nx ρ5 S5) u9 q
    | rt d S5 => rw [es] at q; exact SQ.fx (r := .rt d S5) u9 q
    | exc e ρ5 S5 => rw [es] at q; exact SQ.fx (r := .exc e ρ5 S5) u9 q
    | stuck => rw [es] at q; exact q
  ·left
   have e : i = ds.length := by omega
   subst e
   rw [List.drop_length] at q
   exact ⟨stop rfl, q σ2 H2 β2 j5 P2 L2 Fx.refl⟩
end
def iD (x : Str) : List D := x.cps.toList.map fun c => .str ⟨#[c]⟩
def kD : Key → D
 | .inl i => .int i
 | .inr x => .str x
theorem MO {C : Ct} {H : Hp} {P : Addr → Prop} {β : List Addr} : ∀ k : Key, RV C H P β (kV k) (kD k)
 | .inl i => .int i
 | .inr x => .str x
/-- what a loop over a value sees -/
def itemsOf (d : D) : Option (List D) := match d with
 | .lst xs => some xs
 | .tup xs => some xs
 | .str x => some (iD x)
 | .dct kvs => some (kvs.map fun p => kD p.1)
 | _ => none
def dX (a : EX) : AX := fun ρ S => (a ρ S).bind fun x S1 => R.opt (itemsOf x) S1
def pX (lo : Int) (n : Nat) : List D := (List.range n).map fun i => .int (lo + (i : Nat))
section
variable {X : Cx} {W : WX} {b : Bool} {tg e : Expr} {ma : EX}
theorem DG {te : TE} (he : PE X e te) : PI X tg e (fun σ H R => te σ H fun x H1 =>
  (∃ a, x = .ref a ∧ (∃ xs, SqL X.K H1 a xs) ∧ R (Itl X.K a) H1) ∨ (∃ a, x = .ref a ∧ (∃ xs, SqT X.K H1 a xs) ∧ R (Itt X.K a) H1) ∨ ∃ z, x = .str z ∧ R (Its z) H1) := by
 refine ⟨fun pins s σ H R I h => ?_⟩
 refine thn (he.run pins s σ H _ I h) fun v s1 ⟨x, H1, I1, r1, q1⟩ => ?_
 rcases q1 with ⟨a, e, ⟨xs, hq⟩, q⟩ | ⟨a, e, ⟨xs, hq⟩, q⟩ | ⟨z, e, q⟩
 ·subst e
  cases r1
  obtain ⟨its, rv, p, hz⟩ := I1.list hq
  refine wpAny_pyIter_list p.isList ?_
  refine ⟨s1.heap.objs.size, [s1.heap.objs.size], _, _, H1, rfl, I1.kept (t' := s1.toks) fun b o e => Heap.get?_push_of_some _ e, turn_list a _, ⟨_, Heap.get?_push_size _ rfl, rfl, rfl⟩, fun b hb => ?_, q⟩
  have e : b = s1.heap.objs.size := by simpa using hb
  subst e
  exact I1.fpOk (Nat.le_refl _) (I1.hok.fresh (Nat.le_refl _))
 ·subst e
  cases r1
  obtain ⟨its, rv, p, hz⟩ := I1.tuple hq
  refine wpAny_pyIter_tuple (show s1.heap.IsTuple a its.toArray from p) ?_
  refine ⟨s1.heap.objs.size, [s1.heap.objs.size], _, _, H1, rfl, I1.kept (t' := s1.toks) fun b o e => Heap.get?_push_of_some _ e, turn_tuple a _, ⟨_, Heap.get?_push_size _ rfl, rfl, rfl⟩, fun b hb => ?_, q⟩
  have e : b = s1.heap.objs.size := by simpa using hb
  subst e
  exact I1.fpOk (Nat.le_refl _) (I1.hok.fresh (Nat.le_refl _))
 ·subst e
  obtain ⟨t, rfl⟩ := r1
  cases ha : z.cps.all (· < 128)
  ·exact wpAny_pyIter_wide ha (pi_one (tk := s1.toks) I1 _ (turn_str _ z t "str_iterator" (.inr rfl)) ⟨_, Heap.get?_push_size _ rfl, rfl, rfl⟩ q)
  ·exact wpAny_pyIter_ascii ha (pi_one (tk := s1.toks) I1 _ (turn_str _ z t "str_ascii_iterator" (.inl rfl)) ⟨_, Heap.get?_push_size _ rfl, rfl, rfl⟩ q)
/-- a list, a tuple cA stands still -/
theorem vN {C : Ct} {H : Hp} {P : Addr → Prop} {β : List Addr} {a : Addr} {xs : List V} {ds : List D} (hs : ∀ H2 P2 β2, Fx H P β H2 P2 β2 → SqL C.K H2 a xs) (rs : aD C H P β xs ds) : lH C (Itl C.K a) ds H P β := by
 intro i H2 P2 β2 f n
 have q := hs H2 P2 β2 f
 have r2 := rs.fx f
 refine ⟨fun d hd => ?_, fun hl => ⟨xs, q, by rw [r2.length]; exact Nat.le_of_eq hl⟩⟩
 obtain ⟨v, hv, rv⟩ := r2.get hd
 refine ⟨⟨xs, v, q, hv⟩, fun x H3 y => ?_⟩
 obtain ⟨e, y⟩ := y
 subst e
 refine ⟨Same.refl _, ?_⟩
 have := y xs q
 rw [hv] at this
 cases this
 exact rv
theorem Ax {C : Ct} {H : Hp} {P : Addr → Prop} {β : List Addr} {a : Addr} {xs : List V} {ds : List D} (hs : ∀ H2 P2 β2, Fx H P β H2 P2 β2 → SqT C.K H2 a xs) (rs : aD C H P β xs ds) : lH C (Itt C.K a) ds H P β := by
 intro i H2 P2 β2 f n
 have q := hs H2 P2 β2 f
 have r2 := rs.fx f
 refine ⟨fun d hd => ?_, fun hl => ⟨xs, q, by rw [r2.length]; exact Nat.le_of_eq hl⟩⟩
 obtain ⟨v, hv, rv⟩ := r2.get hd
 refine ⟨⟨xs, v, q, hv⟩, fun x H3 y => ?_⟩
 obtain ⟨e, y⟩ := y
 subst e
 refine ⟨Same.refl _, ?_⟩
 have := y xs q
 rw [hv] at this
 cases this
 exact rv
theorem DH {C : Ct} {H : Hp} {P : Addr → Prop} {β : List Addr} : ∀ {xs : List (Key × V)} {ds : List (Key × D)} {i : Nat} {k : Key} {d : D}, aP C H P β xs ds → ds[i]? = some (k, d) → ∃ v, xs[i]? = some (k, v) ∧ RV C H P β v d
 | _, _, 0, _, _, .cons h _, e => by cases e; exact ⟨_, rfl, h⟩
 | _, _, i + 1, k, d, .cons (ds := ds) _ t, e => by
  have e' : ds[i]? = some (k, d) := by simpa using e
  obtain ⟨v, h1, h2⟩ := DH t e'
  exact ⟨v, by simpa using h1, h2⟩
 | _, _, _, _, _, .nil, e => by cases e
theorem DI {C : Ct} {H : Hp} {P : Addr → Prop} {β : List Addr} : ∀ {xs : List (Key × V)} {ds : List (Key × D)}, aP C H P β xs ds → xs.length = ds.length
 | _, _, .nil => rfl
 | _, _, .cons _ t => by simp [DI t]
/-- a a8z keys -/
theorem Wm {C : Ct} {H : Hp} {P : Addr → Prop} {β : List Addr} {a : Addr} {o : Obj} {xs : List (Key × V)} {ds : List (Key × D)} (hp : ¬ P a) (hb : a ∉ β) (e : H a = some (.frz o (.dK xs))) (rs : aP C H P β xs ds) : lH C (Itk a o xs) (ds.map fun p => kD p.1) H P β := by
 intro i H2 P2 β2 f n
 have q := f.fz _ _ _ e
 refine ⟨fun d hd => ?_, fun hl => ⟨q, by rw [DI rs]; rw [List.length_map] at hl; exact Nat.le_of_eq hl⟩⟩
 rw [List.getElem?_map] at hd
 cases ed : ds[i]? with
 | none => rw [ed] at hd; cases hd
 | some p =>
  obtain ⟨k, d'⟩ := p
  rw [ed] at hd
  cases hd
  obtain ⟨v, hv, _⟩ := DH rs ed
  refine ⟨⟨q, (List.getElem?_eq_some_iff.mp hv).1⟩, fun x H3 y => ?_⟩
  obtain ⟨rfl, k', v', hk, rfl⟩ := y
  rw [hv] at hk
  cases hk
  exact ⟨Same.refl _, MO _⟩
theorem MP {X : Cx} {tg e : Expr} {w1 w2 : TI} (a : PI X tg e w1) (b : PI X tg e w2) : PI X tg e (fun σ H R => w1 σ H R ∨ w2 σ H R) := ⟨fun pins s σ H R I h => h.elim (a.run pins s σ H R I) (b.run pins s σ H R I)⟩
theorem MQ {C : Ct} {H : Hp} {P : Addr → Prop} {β : List Addr} {z : Str} : lH C (Its z) (iD z) H P β := by
 intro i H2 P2 β2 f n
 refine ⟨fun d hd => ?_, fun hl => ?_⟩
 ·unfold iD at hd
  rw [List.getElem?_map] at hd
  have hi : i < z.cps.toList.length := by
   cases e : z.cps.toList[i]? with
   | none => rw [e] at hd; cases hd
   | some c => exact (List.getElem?_eq_some_iff.mp e).1
  refine ⟨show i < z.cps.size by simpa using hi, fun x H3 y => ?_⟩
  obtain ⟨e, c, hc, ex⟩ := y
  subst e ex
  refine ⟨Same.refl _, ?_⟩
  rw [Array.getElem?_toList, hc] at hd
  cases hd
  exact .str _
 ·show z.cps.size ≤ i
  unfold iD at hl
  have := Nat.le_of_eq hl; simpa using this
theorem Wn {C : Ct} {H : Hp} {P : Addr → Prop} {β : List Addr} {lo : Int} {n : Nat} : lH C (Itr lo n) (pX lo n) H P β := by
 intro i H2 P2 β2 f _
 refine ⟨fun d hd => ?_, fun hl => ?_⟩
 ·unfold pX at hd
  have hi : i < n := by
   by_cases h : i < n
   ·exact h
   ·rw [List.getElem?_eq_none (by simp; omega)] at hd; cases hd
  refine ⟨hi, fun x H3 y => ?_⟩
  obtain ⟨e, ex⟩ := y
  subst e ex
  refine ⟨Same.refl _, ?_⟩
  rw [List.getElem?_map, List.getElem?_range hi] at hd
  cases hd
  exact .int _
 ·show n ≤ i
  have := Nat.le_of_eq hl; simpa [pX] using this
theorem j8 (he : PM (au X) W b X e ma) : pU (au X) W b X tg e (dX ma) := yc (MP (DG he) (pi_keys he)) fun σ H R h => by
 obtain ⟨cf, oa, P, β, ρ, S, L, h⟩ := h
 unfold dX at h
 cases ea : ma ρ S with
 | stuck => rw [ea] at h; exact h.elim
 | exc e S1 => rw [ea] at h; exact .inl ⟨cf, oa, P, β, ρ, S, L, by rw [ea]; exact h⟩
 | ok d S1 =>
  rw [ea] at h
  by_cases hd : ∃ ks, d = .dct ks
  ·obtain ⟨ks, rfl⟩ := hd
   refine .inr ⟨cf, oa, P, β, ρ, S, L, ?_⟩
   rw [ea]
   intro v H1 β1 t L1 r
   cases r with
   | dct hp hb hr hs =>
    obtain ⟨o, q⟩ := hr
    exact ⟨_, o, rfl, .inl ⟨_, q, h _ H1 β1 t L1 (Wm hp hb q hs)⟩⟩
  refine .inl ⟨cf, oa, P, β, ρ, S, L, ?_⟩
  rw [ea]
  intro v H1 β1 t L1 r
  cases r with
  | lst hp hb hr hs =>
   refine .inl ⟨_, rfl, ⟨_, .inl hr⟩, h _ H1 β1 t L1 ?_⟩
   exact vN (fun H2 P2 β2 f => .inl (f.con _ _ hp hb hr).1) hs
  | tup hr hs =>
   refine .inr (.inl ⟨_, rfl, ⟨_, .inl hr⟩, h _ H1 β1 t L1 ?_⟩)
   exact Ax (fun H2 P2 β2 f => .inl (f.tups _ _ hr)) hs
  | fK k hs =>
   refine .inr (.inl ⟨_, rfl, ⟨_, .inr k⟩, h _ H1 β1 t L1 ?_⟩)
   exact Ax (fun H2 P2 β2 f => .inr k) hs
  | fL k hs =>
   refine .inl ⟨_, rfl, ⟨_, .inr k⟩, h _ H1 β1 t L1 ?_⟩
   exact vN (fun H2 P2 β2 f => .inr k) hs
  | str z => exact .inr (.inr ⟨z, rfl, h _ H1 β1 t L1 MQ⟩)
  | dct _ _ _ _ => exact (hd ⟨_, rfl⟩).elim
  | _ => exact h.elim
end
def bO (ρ : aN) : List Nat → aN
 | [] => ρ
 | v :: vs => (bO ρ vs).set v .un
def bG (vs : List Nat) (g : GX) (t : BX) (e : EX) (ρ : aN) : List D → List D → Store → R (List D)
 | [], acc, S => .ok acc S
 | d :: ds, acc, S => match g d ρ S with
  | none => .stuck
  | some p => match t p.1 p.2 with
   | .ok true S2 => match e p.1 S2 with
    | .ok y S3 => if acc.length < sizeLine then bG vs g t e ρ ds (acc ++ [y]) S3 else .stuck
    | _ => .stuck
   | .ok false S2 => bG vs g t e ρ ds acc S2
   | _ => .stuck
/-- [e for .. in it if t]; vs: the slots of the DJ own names -/
def cZ (it : AX) (vs : List Nat) (g : GX) (t : BX) (e : EX) : EX := fun ρ S => (it ρ S).bind fun ds S1 => (bG vs g t e (bO ρ vs) ds [] S1).bind fun ys S2 => .ok (.lst ys) S2
def eX : BX := fun _ S => .ok true S
section
variable {C : Ct} {cf : Cf} {oa : Nat → Option Addr} {P : Addr → Prop} {σ : L2.St} {H H' : Hp} {β β' : List Addr} {ρ : aN} {S S' : Store}
/-- a container cA no slot has and cA is kept apart is changed -/
theorem LR.pY {p : Addr} {o : HO} (L : LR C cf oa P σ H β ρ S) (hp : P p) (h0 : cf.H0 p = none) (hn : ∀ i, oa i ≠ some p) (ht : ∀ xs, ¬ Rd H p (.tup xs)) (hf : ∀ o u, H p ≠ some (.frz o u)) : LR C cf oa P σ (upd H p o) β ρ S where
 len := L.len
 p := fun a h => by
  refine ⟨?_, (L.p a h).2⟩
  by_cases e : a = p
  ·rw [e, upd_same]; exact Option.some_ne_none _
  ·rw [upd_ne e]; exact (L.p a h).1
 sub := L.sub
 p0 := L.p0
 ext := ⟨L.ext.pre, fun a u h1 h2 => by
   have ne : a ≠ p := fun e => by rw [e, h0] at h1; cases h1
   rw [upd_ne ne]; exact L.ext.keep a u h1 h2, L.ext.fresh, fun a xs h => by
   have r := L.ext.tups a xs h
   have ne : a ≠ p := fun e => ht xs (e ▸ r)
   unfold Rd; rw [upd_ne ne]; exact r, fun a h => by
   by_cases e : a = p
   ·rw [e, upd_same]; exact Option.some_ne_none _
   ·rw [upd_ne e]; exact L.ext.stay a h, fun a o u h => by rw [upd_ne (fun z => by rw [z, h0] at h; cases h)]; exact L.ext.fB a o u h⟩
 own := L.own
 inj := L.inj
 st := L.st.own hp (L.p p hp).2 ht
 slot := fun i d h => let ⟨v, q1, q2⟩ := L.slot i d h; ⟨v, q1, q2.set (.inl hp) ht⟩
 bY := fun i d h => let ⟨a, q1, q2, q3⟩ := L.bY i d h; ⟨a, q1, q2, q3.set (.inl hp) ht fun e => hn i (e ▸ q1)⟩
 xslot := fun i x h => let ⟨a, h1, h2⟩ := L.xslot i x h; ⟨a, h1, h2.set hp ht⟩
theorem Tr.pY {b : Bool} {p : Addr} {o : HO} (t : Tr b H β S H' β' S') (hp : H p = none) (ht : ∀ xs, ¬ Rd H' p (.tup xs)) (hf : ∀ o u, H' p ≠ some (.frz o u)) : Tr b H β S (upd H' p o) β' S' where
 ext := ⟨t.ext.pre, fun a u h1 h2 => by rw [upd_ne (ne_of_none h1 hp)]; exact t.ext.keep a u h1 h2, t.ext.fresh, fun a xs h => by
   have r := t.ext.tups a xs h
   have ne : a ≠ p := fun e => ht xs (e ▸ r)
   unfold Rd; rw [upd_ne ne]; exact r, fun a h => by
   by_cases e : a = p
   ·rw [e, upd_same]; exact Option.some_ne_none _
   ·rw [upd_ne e]; exact t.ext.stay a h, fun a o u h => by rw [upd_ne (fun z => by rw [z, hp] at h; cases h)]; exact t.ext.fB a o u h⟩
 ro := fun e => let ⟨q1, q2, q3⟩ := t.ro e; ⟨fun a u h => by rw [upd_ne (ne_of_none h hp)]; exact q1 a u h, q2, q3⟩
theorem uf (ρ : aN) : ∀ vs : List Nat, (bO ρ vs).length = ρ.length
 | [] => rfl
 | v :: vs => by unfold bO; rw [List.length_set, uf ρ vs]
theorem yd {ρ : aN} {i : Nat} : ∀ {vs : List Nat}, i ∈ vs → i < ρ.length → (bO ρ vs)[i]? = some .un
 | [], h, _ => nomatch h
 | v :: vs, h, hl => by
  unfold bO
  by_cases e : v = i
  ·subst e; rw [List.getElem?_set_self (by rw [uf]; exact hl)]
  ·rw [List.getElem?_set_ne e]
   exact yd ((List.mem_cons.mp h).resolve_left fun z => e z.symm) hl
theorem Ay {ρ : aN} {i : Nat} : ∀ {vs : List Nat}, i ∉ vs → (bO ρ vs)[i]? = ρ[i]?
 | [], _ => rfl
 | v :: vs, h => by
  unfold bO
  rw [List.getElem?_set_ne fun e => h (by rw [e]; exact List.mem_cons_self)]
  exact Ay fun m => h (List.mem_cons_of_mem _ m)
/-- the DJ own names VH -/
theorem LR.wipe (L : LR C cf oa P σ H β ρ S) (vs : List Nat) : LR C cf oa P (L2.wipe σ vs) H β (bO ρ vs) S where
 len := by rw [wipe_length, uf]; exact L.len
 p := L.p
 sub := L.sub
 p0 := L.p0
 ext := L.ext
 own := L.own
 inj := L.inj
 st := L.st
 slot := fun i d h => by
  by_cases m : i ∈ vs
  ·by_cases hl : i < ρ.length
   ·rw [yd m hl] at h; cases h
   ·rw [List.getElem?_eq_none (by rw [uf]; omega)] at h; cases h
  ·rw [Ay m] at h
   obtain ⟨v, q1, q2⟩ := L.slot i d h
   exact ⟨v, by rw [L2.wipe_out m]; exact q1, q2⟩
 bY := fun i d h => by
  by_cases m : i ∈ vs
  ·by_cases hl : i < ρ.length
   ·rw [yd m hl] at h; cases h
   ·rw [List.getElem?_eq_none (by rw [uf]; omega)] at h; cases h
  ·rw [Ay m] at h
   obtain ⟨a, q0, q1, q2⟩ := L.bY i d h
   exact ⟨a, q0, by rw [L2.wipe_out m]; exact q1, q2⟩
 xslot := fun i d h => by
  by_cases m : i ∈ vs
  ·by_cases hl : i < ρ.length
   ·rw [yd m hl] at h; cases h
   ·rw [List.getElem?_eq_none (by rw [uf]; omega)] at h; cases h
  ·rw [Ay m] at h
   obtain ⟨a, q1, q2⟩ := L.xslot i d h
   exact ⟨a, by rw [L2.wipe_out m]; exact q1, q2⟩
/-- the DJ target: it stores to the DJ own slots alone, and nothing else changes -/
def BG (X : Cx) (vs : List Nat) (g : GX) (t : TG) : Prop :=
 ∀ (cf : Cf) (oa : Nat → Option Addr) (P : Addr → Prop) (σ : L2.St) (H : Hp) (β : List Addr) (ρ : aN) (S : Store) (v : V) (d : D) (p : aN × Store) (Q : L2.St → Hp → Prop), LR (au X) cf oa P (L2.wipe σ vs) H β (bO ρ vs) S → RV (au X) H P β v d → g d (bO ρ vs) S = some p →
  (∀ σ', L2.wipe σ' vs = L2.wipe σ vs → LR (au X) cf oa P σ' H β p.1 p.2 → p.2 = S → Q σ' H) → t v (L2.wipe σ vs) H Q
end
section
variable {X : Cx} {W : WX} {b : Bool} {e : Expr} {ma : EX} {it : AX}
theorem Az {σ : L2.St} {i : Nat} {x : Option V} : ∀ {vs : List Nat}, i ∈ vs → L2.wipe (σ.set i x) vs = L2.wipe σ vs
 | [], h => nomatch h
 | v :: vs, h => by
  unfold L2.wipe
  by_cases m : i ∈ vs
  ·rw [Az m]
  ·have e : i = v := (List.mem_cons.mp h).resolve_right m
   subst e
   have q : ∀ {ws : List Nat}, i ∉ ws → L2.wipe (σ.set i x) ws = (L2.wipe σ ws).set i x := by
    intro ws
    induction ws with
    | nil => intro _; rfl
    | cons w ws ih =>
     intro hn
     unfold L2.wipe
     rw [ih fun z => hn (List.mem_cons_of_mem _ z), List.set_comm]
     exact fun z => hn (by rw [z]; exact List.mem_cons_self)
   rw [q m, List.set_set]
theorem DK {σ : L2.St} : ∀ {vs ws : List Nat}, (∀ v ∈ vs, v ∈ ws) → L2.wipe (L2.wipe σ vs) ws = L2.wipe σ ws
 | [], _, _ => rfl
 | v :: vs, ws, h => by
  have e : L2.wipe σ (v :: vs) = (L2.wipe σ vs).set v none := rfl
  rw [e, Az (h v List.mem_cons_self)]
  exact DK fun u hu => h u (List.mem_cons_of_mem _ hu)
theorem jP {i : Nat} : BG X [i] (aM i) (gName i) := by
 intro cf oa P σ H β ρ S v d p Q L r e k
 cases e
 refine k _ ?_ ?_ rfl
 ·rw [Az (List.mem_singleton.mpr rfl), DK fun _ h => h]
 ·have L2 := L.set (i := i) r
  have hn : bO ρ [i] = ρ.set i .un := rfl
  refine ⟨L2.len, L2.p, L2.sub, L2.p0, L2.ext, L.own, L.inj, L2.st, L2.slot, fun j x h => ?_, L2.xslot⟩
  obtain ⟨a, q0, q1, q2⟩ := L2.bY j x h
  refine ⟨a, ?_, q1, q2⟩
  by_cases ej : j = i
  ·rw [if_pos ej] at q0; cases q0
  ·rw [if_neg ej] at q0; exact q0
theorem MS {wi : TI} {g : GX} {gt : TG} {t : BX} {tt : TT} {te : TE} {vs : List Nat} {σ : L2.St} {H : Hp} {Q : VK}
  (hi : ∀ σ H R, IM (au X) W b it σ H R → wi σ H R) (hg : BG X vs g gt) (ht : ∀ σ H Q, BM (au X) (fun _ _ _ _ => False) b t σ H Q → tt σ H Q) (he : ∀ σ H Q, EM (au X) (fun _ _ _ _ => False) b ma σ H Q → te σ H Q)
  (h : EO (au X) W b (cZ it vs g t ma) σ H Q) : tLc wi gt tt te vs σ H Q := by
 obtain ⟨cf, oa, P, β, ρ, S, L, h⟩ := h
 refine hi _ _ _ ⟨cf, oa, P, β, ρ, S, L, ?_⟩
 unfold cZ at h
 cases ea : it ρ S with
 | stuck => rw [ea] at h; exact h
 | exc e S1 => rw [ea] at h; exact h
 | ok ds S1 =>
  rw [ea] at h
  simp only [R.bind] at h
  intro J H1 β1 t1 L1 im D hD
  have qW : Same H1 (upd H1 D (.lst [])) := fU hD
  -- what a turn a8A
  refine ⟨fun i m H2 => m = ds.length - i ∧ i ≤ ds.length ∧ ∃ β2 S2 acc xs, LR (au X) cf oa (fun a => P a ∨ a = D) σ H2 β2 ρ S2 ∧ Tr b H1 β1 S1 H2 β2 S2 ∧ H2 D = some (.lst xs) ∧ aD (au X) H2 (fun a => P a ∨ a = D) β2 xs acc ∧
    bG vs g t ma (bO ρ vs) ds [] S1 = bG vs g t ma (bO ρ vs) (ds.drop i) acc S2,
   ⟨ds.length, by simp, Nat.zero_le _, β1, S1, [], [], L1.vI qW hD (by rw [upd_same]; exact Option.some_ne_none _), Tr.same qW, upd_same, .nil, by rw [List.drop_zero]⟩, ?_⟩
  rintro i m H2 ⟨rfl, hil, β2, S2, acc, xs, L2, t2, hx, rs, eq⟩
  have h0 : cf.H0 D = none := by
   cases z : cf.H0 D with
   | none => rfl
   | some u => exact absurd hD (L1.ext.stay D (by rw [z]; exact Option.some_ne_none _))
  have no : ∀ j, oa j ≠ some D := fun j z => (L1.p D (L1.own j D z).1).1 hD
  obtain ⟨go, stop⟩ := im i H2 (fun a => P a ∨ a = D) β2 (Fx.more t2.ext hD) L2.new
  by_cases hl : i < ds.length
  ·right
   have hd : ds[i]? = some ds[i] := List.getElem?_eq_getElem hl
   obtain ⟨g1, g2⟩ := go _ hd
   rw [List.drop_eq_getElem_cons hl] at eq
   simp only [bG] at eq
   refine ⟨g1, fun H' => ∃ β2 S2 acc xs, LR (au X) cf oa (fun a => P a ∨ a = D) σ H' β2 ρ S2 ∧ Tr b H1 β1 S1 H' β2 S2 ∧ H' D = some (.lst xs) ∧ aD (au X) H' (fun a => P a ∨ a = D) β2 xs acc ∧
    bG vs g t ma (bO ρ vs) ds [] S1 = bG vs g t ma (bO ρ vs) (ds.drop (i + 1)) acc S2, fun H' hN => ⟨ds.length - (i + 1), by omega, rfl, hl, hN⟩, fun x H3 y => ?_⟩
   obtain ⟨e3, r3⟩ := g2 x H3 y
   have L3 := L2.same e3
   cases eg : g ds[i] (bO ρ vs) S2 with
   | none => rw [eg] at eq; rw [eq] at h; exact h.elim
   | some p =>
    rw [eg] at eq
    simp only at eq
    refine hg cf oa _ σ H3 β2 ρ S2 x ds[i] p _ (L3.wipe vs) r3 eg fun σ4 hw L4 hS => ⟨hw, ?_⟩
    -- back to the xO own slots
    have back : ∀ {H5 : Hp} {β5 : List Addr} {S5 : Store}, Tr b H3 β2 S2 H5 β5 S5 → aU (au X) H5 (fun a => P a ∨ a = D) β5 S5 → LR (au X) cf oa (fun a => P a ∨ a = D) σ H5 β5 ρ S5 := fun t5 s5 => L3.step t5.ext s5
    refine ht _ _ _ ⟨cf, oa, _, β2, p.1, p.2, L4, ?_⟩
    cases et : t p.1 p.2 with
    | stuck => rw [et] at eq; rw [eq] at h; exact h.elim
    | exc e S5 => rw [et] at eq; rw [eq] at h; exact h.elim
    | ok k S5 =>
     rw [et] at eq
     intro H5 β5 t5 L5
     rw [hS] at t5
     have nD : ∀ {H6 : Hp}, H6 D = some (.lst xs) → ∀ ys, ¬ Rd H6 D (.tup ys) := fun {H6} q ys r => by
      rcases r with r | ⟨o, r⟩ <;> (rw [q] at r; cases r)
     have qX : H5 D = some (.lst xs) := t5.ext.keep _ _ (e3 _ _ hx) (L3.p D (.inr rfl)).2
     cases k with
     | false =>
      rw [if_neg Bool.false_ne_true]
      exact ⟨β5, S5, acc, xs, back t5 L5.st, t2.trans ((Tr.same e3).trans t5), qX, (rs.mono (Ext.same e3)).mono t5.ext, eq⟩
     | true =>
      rw [if_pos rfl]
      simp only at eq
      refine he _ _ _ ⟨cf, oa, _, β5, p.1, S5, L5, ?_⟩
      cases ee : ma p.1 S5 with
      | stuck => rw [ee] at eq; rw [eq] at h; exact h.elim
      | exc e S6 => rw [ee] at eq; rw [eq] at h; exact h.elim
      | ok d S6 =>
       rw [ee] at eq
       intro v H6 β6 t6 L6 r6
       have iG : H6 D = some (.lst xs) := t6.ext.keep _ _ qX (L5.p D (.inr rfl)).2
       have len : xs.length = acc.length := rs.length
       by_cases hz : acc.length < sizeLine
       ·simp only [if_pos hz] at eq
        have oF := t5.trans t6
        have L7 := back oF L6.st
        have DL := ((rs.mono (Ext.same e3)).mono oF.ext)
        refine ⟨xs, iG, by rw [len]; exact hz, β6, S6, acc ++ [d], xs ++ [v], L7.pY (.inr rfl) h0 no (nD iG) (fun o u z => by rw [iG] at z; cases z), (t2.trans ((Tr.same e3).trans oF)).pY hD (nD iG) (fun o u z => by rw [iG] at z; cases z), upd_same, ?_, eq⟩
        exact (DL.append (.cons r6 .nil)).set (.inl (.inr rfl)) (nD iG)
       ·simp only [if_neg hz] at eq
        rw [eq] at h; exact h.elim
  ·left
   have e : i = ds.length := by omega
   subst e
   rw [List.drop_length] at eq
   simp only [bG] at eq
   rw [eq] at h
   exact ⟨stop rfl, h D H2 β2 (t1.trans t2) (Ak t1.ext hD) L2 ⟨xs, hx, rs⟩⟩
end
section
variable {X : Cx} {W : WX} {b : Bool} {e elt tg iter : Expr} {ifs : List Expr} {ma m : EX} {it : AX} {pos : Pos} {g : GX} {kt : BX}
theorem Wo {it : AX} {vs : List Nat} {g : GX} {t : BX} {e : EX} (ρ : aN) (S : Store) (d : D) (S' : Store) (h : cZ it vs g t e ρ S = .ok d S') : vH d := by
 unfold cZ at h
 cases ei : it ρ S with
 | ok ds S1 =>
  rw [ei] at h
  simp only [R.bind] at h
  cases ec : bG vs g t e (bO ρ vs) ds [] S1 with
  | ok ys S2 => rw [ec] at h; cases h; exact ⟨_, rfl⟩
  | exc _ _ => rw [ec] at h; cases h
  | stuck => rw [ec] at h; cases h
 | exc _ _ => rw [ei] at h; cases h
 | stuck => rw [ei] at h; cases h
theorem Wq {C : Ct} {σ : L2.St} {H : Hp} {Q : VK} (hl : ∀ ρ S d S', ma ρ S = .ok d S' → vH d) (h : EM C W b ma σ H Q) : EO C W b ma σ H Q := by
 obtain ⟨cf, oa, P, β, ρ, S, L, h⟩ := h
 refine ⟨cf, oa, P, β, ρ, S, L, ?_⟩
 cases ea : ma ρ S with
 | stuck => rw [ea] at h; exact h
 | exc e S1 => rw [ea] at h; exact h
 | ok d S1 =>
  rw [ea] at h
  intro p H1 β1 e1 hn L1 o
  exact h (.ref p) H1 β1 e1 (L1.forget L.sub fun i a h => (L.own i a h).1) (Aj o (L.pN hn) (L1.p p (.inr rfl)).2 (hl _ _ _ _ ea))
abbrev Wr (C : Ct) (W : WX) (b : Bool) (X : Cx) (ifs : List Expr) (k : BX) : Prop := PTs X ifs (BM C W b k)
theorem mU {t t' : TT} (h : PTs X ifs t) (i : ∀ σ H Q, t' σ H Q → t σ H Q) : PTs X ifs t' := ⟨fun pins s σ H Q I hw => h.run pins s σ H Q I (i σ H Q hw)⟩
abbrev W0 : WX := fun _ _ _ _ => False
/-- the parts of a a8B block -/
structure Blk (X : Cx) (b : Bool) (scope : Scope) (tg : Expr) (ifs : List Expr) (elt : Expr) (vs : List Nat) (g : GX) (gt : TG) (kt : BX) (m : EX) : Prop where
 hg : ∀ (s : Shared) (H : Hp) (C : Addr) (cl : List (Str × Addr)) (fp : List Addr), PG (X.blk s H scope (compEnvC scope cl C X.env) fp) tg gt
 bg : BG X vs g gt
 ht : ∀ (s : Shared) (H : Hp) (C : Addr) (cl : List (Str × Addr)) (fp : List Addr), Wr (au X) W0 b (X.blk s H scope (compEnvC scope cl C X.env) fp) ifs kt
 he : ∀ (s : Shared) (H : Hp) (C : Addr) (cl : List (Str × Addr)) (fp : List Addr), PM (au X) W0 b (X.blk s H scope (compEnvC scope cl C X.env) fp) elt m
theorem jX {scope : Scope} {own : List (Str × Nat)} {gt : TG} (hc : X.calm = true) (hN : X.N.Nodup) (hi : pU (au X) W b X tg iter it) (ok : BlkOk X.N X.env.scope scope own) (B : Blk X b scope tg ifs elt (own.map (·.2)) g gt kt m)
  (hs : ∀ x, foldedSetIterable iter X.env x = pure x := by intro _; rfl) : PN (au X) W b X (.ListComp elt [⟨tg, iter, ifs, 0⟩] scope pos) (cZ it (own.map (·.2)) g kt m) :=
 cX (pe_lc hc hN hi ok B.hg B.ht B.he hs) fun σ H Q h => MS (fun _ _ _ h => h) B.bg (fun _ _ _ h => h) (fun _ _ _ h => h) h
theorem MT {i : Nat} {y : Str} {py spos : Pos} {scope : Scope} {own : List (Str × Nat)} {gt : TG} (hc : X.calm = true) (hN : X.N.Nodup) (hy : X.N[i]? = some y) (hyl : X.env.scope.names.lookup y = some .local)
  (hsw : swapsWith (.ListComp elt [⟨tg, iter, ifs, 0⟩] scope pos) (some (.Name y py)) spos.line X.env = pure true) (hi : pU (au X) W false X tg iter it) (ok : BlkOk X.N X.env.scope scope own) (B : Blk X false scope tg ifs elt (own.map (·.2)) g gt kt m)
  (hs : ∀ x, foldedSetIterable iter X.env x = pure x := by intro _; rfl) : gj (au X) W X (.Assign [.Name y py] (.ListComp elt [⟨tg, iter, ifs, 0⟩] scope pos) spos) (bU i (cZ it (own.map (·.2)) g kt m)) :=
 MM (ps_setLc hc hN hy hyl hsw hi ok B.hg B.ht B.he hs) fun σ H Q h => MS (fun _ _ _ h => h) B.bg (fun _ _ _ h => h) (fun _ _ _ h => h) (Wq Wo h)
theorem mV {C : Ct} {σ : L2.St} {H : Hp} {Q : Bool → Hp → Prop} (h : BM C W b eX σ H Q) : Q true H := by
 obtain ⟨cf, oa, P, β, ρ, S, L, h⟩ := h
 exact h H β Tr.refl L
end
def gK (C : Ct) (n : Nat) (f : FX) : Sp := fun vs H Q E => vs.length = n ∧ ∃ P β ds S, aU C H P β S ∧ (∀ a, P a → H a ≠ none ∧ a ∉ β) ∧ aD C H P β vs ds ∧ (match f ds S with
 | .ok d S' => ∀ v H' β', Ext H β H' β' → aU C H' P β' S' → RV C H' P β' v d → Q v H'
 | .exc e S' => ∀ cls x H' β', Ext H β H' β' → aU C H' P β' S' → jA C H' P β' cls x e → E cls x H'
 | .stuck => False)
theorem bV.ct {C C' : Ct} (k : C'.K = C.K) (m : C'.mg = C.mg) {H : Hp} {P : Addr → Prop} {β : List Addr} {a : Addr} {so : SO} (h : bV C H P β a so) : bV C' H P β a so := by
 cases so with
 | lst ds => obtain ⟨xs, q, r⟩ := h; exact ⟨xs, q, r.ct k m⟩
 | dct ds => obtain ⟨xs, q, r⟩ := h; exact ⟨xs, q, r.ct k m⟩
 | ins c fs => obtain ⟨Ca, dx, vs, h1, q, h2, r⟩ := h; exact ⟨Ca, dx, vs, by rw [m]; exact h1, q, h2, r.ct k m⟩
 | ig ds => obtain ⟨od, xs, q, r⟩ := h; exact ⟨od, xs, q, r.ct k m⟩
 | cG ds => obtain ⟨od, xs, q, r⟩ := h; exact ⟨od, xs, q, r.ct k m⟩
 | exo c i => obtain ⟨Ca, d, m1, q, n⟩ := h; exact ⟨Ca, d, by rw [m]; exact m1, q, n⟩
 | exd fs => obtain ⟨vs, q, n, r⟩ := h; exact ⟨vs, q, n, r.ct k m⟩
 | tab x q => exact ⟨by unfold qJ at *; rw [k, m]; exact h.1, h.2⟩
theorem aU.ct {C C' : Ct} (k : C'.K = C.K) (m : C'.mg = C.mg) {H : Hp} {P : Addr → Prop} {β : List Addr} {S : Store} (h : aU C H P β S) : aU C' H P β S := ⟨h.len, h.nd, fun n a so h1 h2 => (h.ok n a so h1 h2).ct k m⟩
theorem jA.ct {C C' : Ct} (k : C'.K = C.K) (m : C'.mg = C.mg) {H : Hp} {P : Addr → Prop} {β : List Addr} {cls : Value} {d : Option Addr} {e : bT} (h : jA C H P β cls d e) : jA C' H P β cls d e := by
 obtain ⟨Ca, dd, vs, h1, h2, h3, h4, h6, h7, h5⟩ := h
 exact ⟨Ca, dd, vs, by rw [m]; exact h1, h2, h3, h4, h6, h7, fun f x q => let ⟨v, q1, q2⟩ := h5 f x q; ⟨v, q1, q2.ct k m⟩⟩
theorem MU {C C' : Ct} (k : C'.K = C.K) (m : C'.mg = C.mg) {n : Nat} {f : FX} {vs : List V} {H : Hp} {Q : VK} {E : XK} (h : gK C n f vs H Q E) : gK C' n f vs H Q E := by
 obtain ⟨hl, P, β, ds, S, h1, h2, h3, h4⟩ := h
 refine ⟨hl, P, β, ds, S, h1.ct k m, h2, h3.ct k m, ?_⟩
 cases e : f ds S with
 | stuck => rw [e] at h4; exact h4
 | exc x S' => rw [e] at h4; exact fun cls d H' β' a b c => h4 cls d H' β' a (b.ct k.symm m.symm) (c.ct k.symm m.symm)
 | ok d S' => rw [e] at h4; exact fun v H' β' a b c => h4 v H' β' a (b.ct k.symm m.symm) (c.ct k.symm m.symm)
/-- a def cA keeps its promise Ws nothing is a8C shown (no repr is under way) -/
structure fJ (P : Program) (w : World) (K : PySem.W.Frag) (mg : Str → Option Value) (base : Heap) (k : Nat) (f : Addr) (fd : FuncData) (ps : List Str) (sp : Sp) : Prop where
 len : ∀ vs H Q E, sp vs H Q E → vs.length = ps.length
 run : ∀ (A : Around) (outer : List Env) (s : Shared) (H : Hp) (args : Args) (us : List Value) (vs : List V) (Q : VK) (E : XK), A.guards = some [] → Room k A → Env0 P w K mg base A outer s H →
  BindsTo s fd args (ps.zip us) → Vals vs us → sp vs H Q E → codeAny (model P w) A (.call (.ref f) args) (CR (L2.CX P w) outer P w H s Q E) s
theorem LR.start {C : Ct} {H : Hp} {P : Addr → Prop} {β : List Addr} {S : Store} {vs : List V} {ds : List D} {N : List Str} (st : aU C H P β S) (hp : ∀ a, P a → H a ≠ none ∧ a ∉ β) (r : aD C H P β vs ds) :
  LR C ⟨H, β, P, []⟩ (fun _ => none) P (L2.start N vs) H β (ds.map Sl.sh ++ List.replicate (N.length - ds.length) Sl.un) S where
 len := by unfold L2.start; simp [r.length]
 p := hp
 sub := fun _ h => h
 p0 := fun a h => (hp a h).1
 ext := ⟨⟨[], (List.append_nil β).symm⟩, fun a o h _ => .inl h, fun _ h => .inl h, fun _ _ h => h, fun _ h => h, fun _ _ _ h => h⟩
 own := fun _ _ h => nomatch h
 inj := fun _ _ _ h => nomatch h
 st := st
 slot := fun i d h => by
  by_cases hi : i < ds.length
  ·rw [List.getElem?_append_left (by simpa using hi), List.getElem?_map] at h
   cases e : ds[i]? with
   | none => rw [e] at h; cases h
   | some x =>
    rw [e] at h
    cases h
    obtain ⟨v, hv, rv⟩ := r.get e
    refine ⟨v, ?_, rv⟩
    unfold L2.start
    rw [List.getElem?_append_left (by simpa [r.length] using hi), List.getElem?_map, hv]
    rfl
  ·rw [List.getElem?_append_right (by simpa using hi), List.getElem?_replicate] at h
   split at h <;> cases h
 bY := fun i d h => by
  by_cases hi : i < ds.length
  ·rw [List.getElem?_append_left (by simpa using hi), List.getElem?_map] at h
   cases e : ds[i]? with
   | none => rw [e] at h; cases h
   | some x => rw [e] at h; cases h
  ·rw [List.getElem?_append_right (by simpa using hi), List.getElem?_replicate] at h
   split at h <;> cases h
 xslot := fun i d h => by
  by_cases hi : i < ds.length
  ·rw [List.getElem?_append_left (by simpa using hi), List.getElem?_map] at h
   cases e : ds[i]? with
   | none => rw [e] at h; cases h
   | some x => rw [e] at h; cases h
  ·rw [List.getElem?_append_right (by simpa using hi), List.getElem?_replicate] at h
   split at h <;> cases h
section
variable {P : Program} {w : World} {K : PySem.W.Frag} {mg : Str → Option Value} {base : Heap}
abbrev fM (P : Program) (w : World) (K : PySem.W.Frag) (mg : Str → Option Value) (base : Heap) (N : List Str) (qual : Str) (st : Stmt) (f : Addr) (cdv : Value) (A : Around) (outer : List Env) (s : Shared) (H : Hp) (E : XK) : Cx :=
 cxOf (L2.CX P w) P w K mg base N qual (defScope st) f cdv A outer s H E
/-- a xO body run at its arguments, by any reading of it -/
theorem MV {x qual : Str} {st : Stmt} {f : Addr} {fd : FuncData} {N ps : List Str} {k : Nat} {sp : Sp} (F : Fun K x qual st f fd) (S : FnScope N ps (defScope st)) (len : ∀ vs H Q E, sp vs H Q E → vs.length = ps.length)
  (body : ∀ (cdv : Value) (A : Around) (outer : List Env) (s : Shared) (H : Hp) (vs : List V) (Q : VK) (E : XK), A.guards = some [] → Room k (fM P w K mg base N qual st f cdv A outer s H E).A → sp vs H Q E →
   ∃ t, PSs (fM P w K mg base N qual st f cdv A outer s H E) (defBody st) t ∧ t { nx := fun _ H' => Q .non H', rt := Q } (L2.start N vs) H) : fJ P w K mg base (k + 1) f fd ps sp := by
 obtain ⟨oc, od, kV, doc, pm, an, cdv, ct, osl, rfl, AA, Wt⟩ := F.ex
 constructor
 ·exact len
 intro A outer s H args us vs Q E guards room env0 bound vals prom
 have MX : K.In s.heap := env0.mod.kin.keeps (fun b o e => (env0.bs b o e).1)
 have kinds : ∀ y ∈ ps.zip us, (defScope st).names.lookup y.1 = some .local ∨ ((defScope st).names.lookup y.1 = some .cell ∧ ((cellsFrom (s.heap.objs.size + 1) (defScope st).names []).lookup y.1).isSome = true) := by
  rintro ⟨n, v⟩ hy
  cases S.par n (List.of_mem_zip hy).1 with
  | inl q => exact .inl q
  | inr q => exact .inr ⟨q, PySem.W.cellsFrom_some _ _ _ (.inl q)⟩
 refine codeAny_call_function room.depth (MX _ _ AA) rfl S.co S.gen rfl (PySem.W.codeRec_of MX Wt) (bound _ _ _ _ ?_)
 refine wpAny_newFunctionEnv_cells S.kind kinds ?_
 rintro _ rfl s1 DM
 refine ⟨(env0.mod.nolimit.keeps fun b o e => (env0.bs b o e).1).keeps DM.toInCall.keep, codeAny_func ?_⟩
 obtain ⟨t, run, start⟩ := body cdv A outer s H vs Q E guards (room.deeper _) prom
 have inv : L2.Inv (fM P w K mg base N qual st f cdv A outer s H E) [] (L2.start N vs) H s1 := inv_start S room.hd env0 (len _ _ _ _ prom) vals DM
 refine wpAny_mono (run.run [] s1 _ H _ inv start) ?_ fun _ _ h => h
 intro flow s' h
 cases flow with
 | ret u =>
  obtain ⟨v, σ', H', J, rv, q⟩ := h
  exact ⟨v, H', J.os, J.bare, J.base, J.hok, rv, q⟩
 | next =>
  obtain ⟨σ', H', J, q⟩ := h
  exact ⟨.non, H', J.os, J.bare, J.base, J.hok, rfl, q⟩
 | brk => obtain ⟨_, _, _, q⟩ := h; exact q.elim
 | cont => obtain ⟨_, _, _, q⟩ := h; exact q.elim
/-- THE a8E for a def -/
theorem fn_ok {x qual : Str} {st : Stmt} {f : Addr} {fd : FuncData} {N ps : List Str} {k : Nat} {m : SX} (F : Fun K x qual st f fd) (S : FnScope N ps (defScope st))
  (hbody : ∀ (cdv : Value) (A : Around) (outer : List Env) (s : Shared) (H : Hp) (E : XK), (fM P w K mg base N qual st f cdv A outer s H E).A.guards = some [] → Room k (fM P w K mg base N qual st f cdv A outer s H E).A →
   jB ⟨K, mg, w, []⟩ (fun cls d _ H' => E cls d H') (fM P w K mg base N qual st f cdv A outer s H E) (defBody st) m) : fJ P w K mg base (k + 1) f fd ps (gK ⟨K, mg, w, []⟩ ps.length (aX N.length m)) := by
 refine MV F S (fun vs H Q E h => h.1) fun cdv A outer s H vs Q E hg hr h => ?_
 obtain ⟨hl, Pf, β, ds, St, st', hp, r, q⟩ := h
 refine ⟨_, hbody cdv A outer s H E hg hr, ?_⟩
 refine ⟨⟨H, β, Pf, []⟩, _, Pf, β, _, St, LR.start st' hp r, ?_⟩
 unfold aX at q
 cases e : m (ds.map Sl.sh ++ List.replicate (N.length - ds.length) Sl.un) St with
 | nx ρ' S' =>
  rw [e] at q
  intro σ' H' β' bB P' L' f'
  exact q .non H' β' (L'.ext.done rfl) (L'.st.less L'.sub) .non
 | rt d S' =>
  rw [e] at q
  intro v H' β' x' _ s' r'
  exact q v H' β' (x'.done rfl) s' r'
 | bk ρ' S' => rw [e] at q; exact q.elim
 | ct ρ' S' => rw [e] at q; exact q.elim
 | exc ex ρ' S' =>
  rw [e] at q
  intro cls x σ' H' β' bB P' L' f' ea
  refine q cls x H' β' (L'.ext.done rfl) (L'.st.less L'.sub) ?_
  obtain ⟨Ca, dd, vs, h1, h2, h3, h4, h6, h7, h5⟩ := ea
  exact ⟨Ca, dd, vs, h1, h2, h3, h4, h6, fun z => h7 (L'.sub _ z), fun f x hx => let ⟨v, q1, q2⟩ := h5 f x hx; ⟨v, q1, q2.less L'.sub⟩⟩
 | stuck => rw [e] at q; exact q.elim
end
/-- the arguments in the a8F order: places among the positional ones, then the keywords' -/
def pick {α : Type} (idx : List Nat) (us ws : List α) : List α := idx.filterMap fun i => (us ++ ws)[i]?
def aK (f : FX) (idx : List Nat) (a k : AX) : EX := fun ρ S => (a ρ S).bind fun us S1 => (k ρ S1).bind fun ws S2 => f (pick idx us ws) S2
def qY (a : AX) (n : Nat) : Prop := ∀ ρ S us S', a ρ S = .ok us S' → us.length = n
theorem cD : qY ao 0 := fun ρ S us S' h => by cases h; rfl
theorem bJ {a : EX} {r : AX} {n : Nat} (h : qY r n) : qY (aj a r) (n + 1) := fun ρ S us S' e => by
 unfold aj at e
 cases ea : a ρ S with
 | stuck => rw [ea] at e; cases e
 | exc x S1 => rw [ea] at e; cases e
 | ok d S1 =>
  rw [ea] at e
  simp only [R.bind] at e
  cases er : r ρ S1 with
  | stuck => rw [er] at e; cases e
  | exc x S2 => rw [er] at e; cases e
  | ok ds S2 =>
   rw [er] at e
   cases e
   simp [h ρ S1 ds _ er]
theorem MY {idx : List Nat} {vs zs : List V} {us ws : List Value} (r : Vals vs us) (q : Vals zs ws) : Vals (pick idx vs zs) (pick idx us ws) := by
 have h := r.append q
 induction idx with
 | nil => exact .nil
 | cons i idx ih =>
  unfold pick
  rw [List.filterMap_cons, List.filterMap_cons]
  cases e : (vs ++ zs)[i]? with
  | none => rw [h.none_of e]; exact ih
  | some v =>
   obtain ⟨u, e2, rv⟩ := h.get e
   rw [e2]
   exact .cons rv ih
theorem Wu {C : Ct} {H : Hp} {P : Addr → Prop} {β : List Addr} {idx : List Nat} {vs zs : List V} {ds es : List D} (r : aD C H P β vs ds) (q : aD C H P β zs es) : aD C H P β (pick idx vs zs) (pick idx ds es) := by
 have h := r.append q
 induction idx with
 | nil => exact .nil
 | cons i idx ih =>
  unfold pick
  rw [List.filterMap_cons, List.filterMap_cons]
  cases e : (vs ++ zs)[i]? with
  | none =>
   have : (ds ++ es)[i]? = none := by
    rw [List.getElem?_eq_none_iff] at e ⊢
    rw [← h.length]; exact e
   rw [this]; exact ih
  | some v =>
   obtain ⟨d, e2, rv⟩ := h.of e
   rw [e2]
   exact .cons rv ih
/-- a def of the module cA keeps its promise -/
structure aJ (P : Program) (w : World) (K : PySem.W.Frag) (mg : Str → Option Value) (base : Heap) (k : Nat) (x : Str) (st : Stmt) (ps : List Str) (f : FX) : Prop where
 ex : ∃ (fa : Addr) (y qual : Str) (fd : FuncData), Fun K y qual st fa fd ∧ mg x = some (.ref fa) ∧ fJ P w K mg base k fa fd ps (gK ⟨K, mg, w, []⟩ ps.length f)
/-- how a def binds us positional arguments and the keywords ks -/
def ug (st : Stmt) (ps ks : List Str) (n : Nat) (idx : List Nat) : Prop :=
 ∀ (x qual : Str) (kV doc pm : Value) (an : Option Addr) (cdv ct : Value) (us ws : List Value), us.length = n → ws.length = ks.length → bindArgs (PySem.W.fnOf x qual (defArgs st) (defBody st) (defScope st) .none kV doc pm an cdv ct) ⟨us, ks.zip ws⟩ = pure (ps.zip (pick idx us ws))
abbrev yg (C : Ct) (W : WX) (b : Bool) (X : Cx) (kws : List Keyword) (m : AX) : Prop := PK X kws (AM C W b m)
section
variable {X : Cx} {W : WX} {b : Bool} {e : Expr} {es : List Expr} {kws : List Keyword} {me : EX} {ma mk : AX} {pos p : Pos} {x : Str} {st : Stmt} {ps ks : List Str} {f : FX} {k j n : Nat} {idx : List Nat}
theorem MZ {t t' : TA} (h : PK X kws t) (i : ∀ σ H Q, t' σ H Q → t σ H Q) : PK X kws t' := ⟨fun pos pins s σ H Q I hw => h.run pos pins s σ H Q I (i σ H Q hw)⟩
theorem fD : yg (au X) W b X [] ao := MZ pk_nil fun σ H Q h => by
 obtain ⟨cf, oa, P, β, ρ, S, L, h⟩ := h
 exact h [] H β Tr.refl L .nil
theorem iK {nm : Option Str} {kpos : Pos} (ha : PM (au X) W b X e me) (hr : yg (au X) W b X kws mk) : yg (au X) W b X (⟨nm, e, kpos⟩ :: kws) (aj me mk) :=
 MZ (pk_cons ha hr) fun σ H Q h => An h
theorem N5 {fa : Addr} {fd : FuncData} {sp : Sp} {σ : L2.St} {E : XK} {pins : List (Addr × Obj)} {H : Hp} {s : Shared} {Q : VK} {us ws us' : List Value} {vs : List V} (F : fJ X.prog X.w X.K X.mg X.base k fa fd ps sp) (hgd : X.A.guards = some []) (hr : Room k X.A) (hx : PassesAt (L2.CX X.prog X.w) X σ E)
  (I : Inv X pins σ H s) (bd : BindsTo s fd ⟨us, ks.zip ws⟩ (ps.zip us')) (r : Vals vs us') (h : sp vs H Q E) : wpAny (model X.prog X.w) X.A (call (.ref fa) us (ks.zip ws)) (EP X pins σ Q) X.xe s := by
 refine wpAny_call (codeAny_mono (F.run X.A X.stack s H ⟨us, ks.zip ws⟩ us' vs Q E hgd hr I.env0 bd r h) fun r s' hq => ?_)
 cases r with
 | error e => exact hx pins H s e s' I hq
 | ok fl =>
  cases fl with
  | ret u => exact I.after hq
  | next => exact False.elim hq
  | brk => exact False.elim hq
  | cont => exact False.elim hq
/-- from an Wd reading to the a8G promise -/
theorem Wv {C : Ct} {cf : Cf} {oa : Nat → Option Addr} {P : Addr → Prop} {σ : L2.St} {H H1 : Hp} {β β1 : List Addr} {ρ : aN} {S S1 : Store} {vs : List V} {ds : List D} {Q : VK} {n : Nat} (t : Tr false H β S H1 β1 S1) (L1 : LR C cf oa P σ H1 β1 ρ S1) (r : aD C H1 P β1 vs ds) (hn : vs.length = n)
  (h : match f ds S1 with
   | .ok d S' => ∀ v H' β', Tr false H β S H' β' S' → LR C cf oa P σ H' β' ρ S' → RV C H' P β' v d → Q v H'
   | .exc e S' => XP C W cf oa P σ false H β ρ S e S'
   | .stuck => False) : gK C n f vs H1 Q (WE W σ) := by
 refine ⟨hn, P, β1, ds, S1, L1.st, L1.p, r, ?_⟩
 cases ef : f ds S1 with
 | stuck => rw [ef] at h; exact h
 | exc e S' =>
  rw [ef] at h
  intro cls x H' β' e1 s1 ea
  exact h cls x H' β' ⟨t.ext.trans e1, fun z => nomatch z⟩ (L1.step e1 s1) ea
 | ok d S' =>
  rw [ef] at h
  intro v H' β' e1 s1 rv
  exact h v H' β' ⟨t.ext.trans e1, fun z => nomatch z⟩ (L1.step e1 s1) rv
theorem N6 {σ : L2.St} {H : Hp} {Q : VK} {nv : Nat} (h : EM (au X) W false (aK f idx ma mk) σ H Q) (hl : ∀ vs zs : List V, vs.length = n → zs.length = ks.length → (pick idx vs zs).length = nv) (h1 : qY ma n) (h2 : qY mk ks.length) :
  AM (au X) W false ma σ H fun vs H1 => AM (au X) W false mk σ H1 fun zs H2 => vs.length = n ∧ zs.length = ks.length ∧ gK (au X) nv f (pick idx vs zs) H2 Q (WE W σ) := by
 obtain ⟨cf, oa, P, β, ρ, S, L, h⟩ := h
 refine ⟨cf, oa, P, β, ρ, S, L, ?_⟩
 unfold aK at h
 cases ea : ma ρ S with
 | stuck => rw [ea] at h; exact h
 | exc e S1 => rw [ea] at h; exact h
 | ok us S1 =>
  rw [ea] at h
  simp only [R.bind] at h
  intro vs H1 β1 t1 L1 r1
  refine ⟨cf, oa, P, β1, ρ, S1, L1, ?_⟩
  cases eb : mk ρ S1 with
  | stuck => rw [eb] at h; exact h
  | exc e S2 => rw [eb] at h; intro cls d H' β' e2 L2 ex; exact h cls d H' β' (t1.trans e2) L2 ex
  | ok ws S2 =>
   rw [eb] at h
   simp only [R.bind] at h
   intro zs H2 β2 t2 L2 r2
   have n1 : vs.length = n := by rw [r1.length]; exact h1 _ _ _ _ ea
   have n2 : zs.length = ks.length := by rw [r2.length]; exact h2 _ _ _ _ eb
   exact ⟨n1, n2, Wv (t1.trans t2) L2 (Wu (r1.mono t2.ext) r2) (hl vs zs n1 n2) h⟩
theorem N7 {s : Shared} {qual : Str} {fa : Addr} {fd : FuncData} {us ws : List Value} (F : Fun X.K x qual st fa fd) (B : ug st ps ks n idx) (hu : us.length = n) (hw : ws.length = ks.length) : BindsTo s fd ⟨us, ks.zip ws⟩ (ps.zip (pick idx us ws)) := by
 obtain ⟨oc, od, kV, doc, pm, an, cdv, ct, osl, rfl, lk, hcd⟩ := F.ex
 exact .of_eq (B _ qual kV doc pm an cdv ct us ws hu hw)
/-- f(e, .., k = v, ..) -/
theorem jD (Dk : aJ X.prog X.w X.K X.mg X.base k x st ps f) (hgd : X.A.guards = some []) (hr : Room j X.A) (hkj : k ≤ j) (tk : Takes X W) (B : ug st ps ks n idx) (ha : jg (au X) W false X (e :: es) ma) (hkw : yg (au X) W false X kws mk) (h1 : qY ma n) (h2 : qY mk ks.length)
  (hl : ∀ vs zs : List V, vs.length = n → zs.length = ks.length → (pick idx vs zs).length = ps.length) (hg : Gl X x := by rfl)
  (hall : (backToKw pos (keywordEach kws X.env)).all (·.1.isSome) = true := by rfl) (hks : (backToKw pos (keywordEach kws X.env)).filterMap (·.1) = ks := by rfl)
  (hdb : (x == ("__debug__" : Str)) = false := by decide) (he : starEach (e :: es) X.env = (false, eval e X.env) :: starEach es X.env := by rfl)
  (hpl : ((backTo pos (starEach (e :: es) X.env)).any (·.1) || (backToKw pos (keywordEach kws X.env)).any (·.1.isNone)) = false := by rfl) : PM (au X) W false X (.Call (.Name x p) (e :: es) kws pos) (aK f idx ma mk) := by
 obtain ⟨fa, y, qual, fd, F, hm, G⟩ := Dk.ex
 refine ⟨fun pins s σ H Q I h => ?_⟩
 have h := N6 h hl h1 h2
 refine wpAny_Call_Name_kw (ld_glob I hg hm ?_ hdb)
 refine PySem.W.callWith_KW (h₀ := X.base) I.ok.mod.kin F.kp hall (thn (ha.run pos pins s σ H _ I h) fun us s1 ⟨vs, H1, I1, r, q⟩ => ?_) hpl he
 refine thn (hkw.run pos pins s1 σ H1 _ I1 q) fun ws s2 ⟨zs, H2, I2, rz, n1, n2, q2⟩ => ⟨I2.kIn, ?_⟩
 rw [hks]
 exact N5 G hgd (hr.mono hkj) (passAt tk σ) I2 (us := us) (N7 F B (by rw [← r.length]; exact n1) (by rw [← rz.length]; exact n2)) (MY r rz) (MU (C := au X) (C' := ⟨X.K, X.mg, X.w, []⟩) rfl rfl q2)
/-- f(k = v, ..) -/
theorem oG (Dk : aJ X.prog X.w X.K X.mg X.base k x st ps f) (hgd : X.A.guards = some []) (hr : Room j X.A) (hkj : k ≤ j) (tk : Takes X W) (B : ug st ps ks 0 idx) (hkw : yg (au X) W false X kws mk) (h2 : qY mk ks.length)
  (hl : ∀ vs zs : List V, vs.length = 0 → zs.length = ks.length → (pick idx vs zs).length = ps.length) (hg : Gl X x := by rfl)
  (hall : (backToKw pos (keywordEach kws X.env)).all (·.1.isSome) = true := by rfl) (hks : (backToKw pos (keywordEach kws X.env)).filterMap (·.1) = ks := by rfl)
  (hdb : (x == ("__debug__" : Str)) = false := by decide)
  (hpl : ((backTo pos (starEach [] X.env)).any (·.1) || (backToKw pos (keywordEach kws X.env)).any (·.1.isNone)) = false := by rfl) : PM (au X) W false X (.Call (.Name x p) [] kws pos) (aK f idx ao mk) := by
 obtain ⟨fa, y, qual, fd, F, hm, G⟩ := Dk.ex
 refine ⟨fun pins s σ H Q I h => ?_⟩
 have h := N6 h hl cD h2
 have h' : AM (au X) W false mk σ H fun zs H2 => zs.length = ks.length ∧ gK (au X) ps.length f (pick idx [] zs) H2 Q (WE W σ) := by
  obtain ⟨cf, oa, P, β, ρ, S, L, h⟩ := h
  have q := h [] H β Tr.refl L .nil
  obtain ⟨cf, oa, P, β, ρ, S, L, q⟩ := q
  refine ⟨cf, oa, P, β, ρ, S, L, ?_⟩
  cases eb : mk ρ S with
  | stuck => rw [eb] at q; exact q
  | exc e S2 => rw [eb] at q; exact q
  | ok ws S2 => rw [eb] at q; intro zs H2 β2 t2 L2 r2; exact (q zs H2 β2 t2 L2 r2).2
 refine wpAny_Call_Name_kw (ld_glob I hg hm ?_ hdb)
 refine PySem.W.callWith_KW0 (h₀ := X.base) I.ok.mod.kin F.kp hall (thn (hkw.run pos pins s σ H _ I h') fun ws s2 ⟨zs, H2, I2, rz, n2, q2⟩ => ⟨I2.kIn, ?_⟩) hpl
 rw [hks]
 exact N5 (us := []) G hgd (hr.mono hkj) (passAt tk σ) I2 (N7 F B rfl (by rw [← rz.length]; exact n2)) (MY .nil rz) (MU (C := au X) (C' := ⟨X.K, X.mg, X.w, []⟩) rfl rfl q2)
end
def iH (i j : Int) : Bool := decide (i.natAbs < 2 ^ 64) || decide (j.natAbs < 2 ^ 64)
def bM (S : Store) (x y : D) : Option D := match x, y with
 | .int i, .int j => some (.int (i + j))
 | .str i, .str j => if i.length + j.length ≤ sizeLine then some (.str (i ++ j)) else none
 | .tup xs, .tup ys => if xs.length + ys.length ≤ sizeLine then some (.tup (xs ++ ys)) else none
 | x, y => match bL S x, bL S y with
  | some xs, some ys => if xs.length + ys.length ≤ sizeLine then some (.lst (xs ++ ys)) else none
  | _, _ => none
def dCat (S : Store) (x y : D) : Option D := match bL S x, bL S y with
  | some xs, some ys => if xs.length + ys.length ≤ sizeLine then some (.lst (xs ++ ys)) else none
  | _, _ => none
def jY (_ : Store) (x y : D) : Option D := match x, y with
 | .int i, .int j => some (.int (i - j))
 | _, _ => none
def AB (x : Str) (n : Int) : Str := if n < 1 then Str.empty else if (n == 1 || x.length == 0) = true then x else ⟨(List.replicate n.toNat x.cps).foldl (· ++ ·) #[]⟩
def gM (_ : Store) (x y : D) : Option D := match x, y with
 | .int i, .int j => if iH i j = true then some (.int (i * j)) else none
 | .str x, .int n => if n.natAbs ≤ 1000000 ∧ x.length ≤ 1000000 ∧ Builtin.Str.tooLong (x.length * n.toNat) = false then some (.str (AB x n)) else none
 | _, _ => none
def yh (_ : Store) (x y : D) : Option D := match x, y with
 | .int i, .int j => if j ≠ 0 ∧ j.natAbs < 1073741824 then some (.int (i.fdiv j)) else none
 | _, _ => none
def lJ (_ : Store) (x y : D) : Option D := match x, y with
 | .int i, .int j => if j ≠ 0 then some (.int (i.fmod j)) else none
 | _, _ => none
def jF (_ : Store) (x y : D) : Option D := match x, y with
 | .int i, .int j => if 0 ≤ j ∧ j ≤ 1000000 ∧ i.natAbs < 2 ^ 64 then some (.int (i ^ j.toNat)) else none
 | _, _ => none
def jZ (_ : Store) (x : D) : Option D := match x with
 | .int i => some (.int (-i))
 | _ => none
def mW (_ : Store) (x y : D) : Option D := match x, y with
 | .int i, .int j => some (.bl (decide (i < j)))
 | .str i, .str j => some (.bl (decide (i.cps.toList < j.cps.toList)))
 | _, _ => none
def lK (_ : Store) (x y : D) : Option D := match x, y with
 | .int i, .int j => some (.bl (decide (i ≤ j)))
 | .str i, .str j => some (.bl (!decide (j.cps.toList < i.cps.toList)))
 | _, _ => none
def qZ (_ : Store) (x y : D) : Option D := match x, y with
 | .int i, .int j => some (.bl (decide (j < i)))
 | .str i, .str j => some (.bl (decide (j.cps.toList < i.cps.toList)))
 | _, _ => none
def vO (_ : Store) (x y : D) : Option D := match x, y with
 | .int i, .int j => some (.bl (decide (j ≤ i)))
 | .str i, .str j => some (.bl (!decide (i.cps.toList < j.cps.toList)))
 | _, _ => none
section
variable {X : Cx}
/-- list + list -/
def rCatS (K : PySem.W.Frag) : R2 := fun x y H Q => ∃ l b xs zs, x = .ref l ∧ y = .ref b ∧ SqL K H l xs ∧ SqL K H b zs ∧ xs.length + zs.length ≤ sizeLine ∧ ∀ p, H p = none → Q (.ref p) (upd H p (.lst (xs ++ zs)))
theorem Ww : OpR X (binaryOp .Add) (rCatS X.K) := by
 intro pins s σ H x y v u Q I rx ry h
 obtain ⟨l, b, xs, zs, rfl, rfl, hx, hy, hz, q⟩ := h
 cases rx
 cases ry
 obtain ⟨its, r1, ⟨o1, n1, g1, c1, _, d1⟩, _⟩ := I.list hx
 obtain ⟨its2, r2, ⟨o2, n2, g2, c2, _, d2⟩, _⟩ := I.list hy
 obtain ⟨cl1, AF, Wx, AG⟩ := o1
 obtain ⟨cl2, dd2, da2, sl2⟩ := o2
 simp only at c1 d1 c2 d2
 subst c1 d1 c2 d2
 have hl : its.toArray.size + its2.toArray.size ≤ sizeLine := by
  rw [List.size_toArray, List.size_toArray, ← r1.length, ← r2.length]; exact hz
 refine concat_meets ⟨_, g1, rfl⟩ ⟨_, g2, rfl⟩ noFill_list_add seq_list_add F.slot_list_add F.entry_list_add (F.args_list_add_2 _ _) (list_addW l b _ _ n1 n2 AF dd2 AG sl2 hl) ⟨g1, g2, ?_⟩
 have ea : its.toArray ++ its2.toArray = (its ++ its2).toArray := by simp
 rw [ea]
 exact ⟨.ref _, _, I.lnew (t' := s.toks) (r1.append r2) (by rw [List.length_append]; exact hz), rfl, q _ I.fresh⟩
def rAdd (K : PySem.W.Frag) : R2 := fun x y H Q => (∃ i j, x = .int i ∧ y = .int j ∧ Q (.int (i + j)) H) ∨ (∃ i j, x = .str i ∧ y = .str j ∧ i.length + j.length ≤ sizeLine ∧ Q (.str (i ++ j)) H) ∨ rCatA K x y H Q ∨ rCatS K x y H Q
theorem gQ : OpR X (binaryOp .Add) (rAdd X.K) := OpR.or op_add (OpR.or op_add_str (OpR.or op_catA Ww))
theorem DN {C : Ct} {H : Hp} {Z : Addr → Prop} {β : List Addr} {S : Store} {p : Addr} {xs : List V} {ds : List D} (A : At C H Z β S) (hp : H p = none) (r : aD C H Z β xs ds) :
  cO C (upd H p (.lst xs)) (fun c => Z c ∨ c = p) β p (.lst ds) :=
 ⟨xs, upd_same, (r.more hp).mono (Ext.laid hp)⟩
theorem Wy : Di X (rCatS X.K) dCat := by
 intro Z H β S x y dx dy dz Q A rx ry e k
 unfold dCat at e
 split at e
 ·rename_i xs ys e1 e2
  split at e
  ·rename_i hz
   cases e
   obtain ⟨a, us, rfl, q1, r1⟩ := rx.bL A.st e1
   obtain ⟨b, ws, rfl, q2, r2⟩ := ry.bL A.st e2
   refine ⟨a, b, us, ws, rfl, rfl, q1, q2, by rw [r1.length, r2.length]; exact hz, fun p hp => ?_⟩
   exact k p _ (fU hp) hp (DN A hp (r1.append r2))
  ·cases e
 ·cases e
theorem Wz (S : Store) (x y d : D) (h : dCat S x y = some d) : vH d := by
 unfold dCat at h
 split at h
 ·split at h
  ·cases h; exact ⟨_, rfl⟩
  ·cases h
 ·cases h
theorem gR : cP X (rAdd X.K) bM := by
 intro Z H β S x y dx dy dz Q A rx ry e k
 unfold bM at e
 split at e
 ·cases rx; cases ry; cases e
  exact .inl ⟨_, _, rfl, rfl, k _ H (Same.refl _) (.int _)⟩
 ·split at e
  ·rename_i hz
   cases rx; cases ry; cases e
   exact .inr (.inl ⟨_, _, rfl, rfl, hz, k _ H (Same.refl _) (.str _)⟩)
  ·cases e
 ·rename_i xs ys
  split at e
  ·rename_i hz
   cases e
   obtain ⟨a, us, rfl, q1, r1⟩ := rx.fH rfl
   obtain ⟨b, ws, rfl, q2, r2⟩ := ry.fH rfl
   refine .inr (.inr (.inl ⟨a, b, us, ws, rfl, rfl, q1, q2, by rw [r1.length, r2.length]; exact hz, fun z => ?_, fun z1 z2 => ?_, fun z1 z2 p hp => ?_⟩))
   ·subst z
    cases r1
    exact k _ H (Same.refl _) ry
   ·subst z2
    cases r2
    rw [List.append_nil] at k
    exact k _ H (Same.refl _) rx
   ·exact k _ _ (fU hp) (.tup (.inl upd_same) ((r1.append r2).mono (Ext.laid hp)))
  ·cases e
 ·rename_i x' y' n1 n2 n3
  exact .inr (.inr (.inr (cP.Mz (Wy (X := X)) Wz Z H β S x y dx dy dz Q A rx ry e k)))
theorem uh : cP X (rI0 fun i j => .int (i - j)) jY := by
 intro Z H β S x y dx dy dz Q A rx ry e k
 unfold jY at e
 split at e
 ·cases rx; cases ry; cases e
  exact ⟨_, _, rfl, rfl, k _ H (Same.refl _) (.int _)⟩
 ·cases e
theorem N8 {α : Type} (a : Array α) : ∀ (n : Nat) (b : Array α), ((List.replicate n a).foldl (· ++ ·) b).size = b.size + n * a.size
 | 0, b => by simp
 | n + 1, b => by
  rw [List.replicate_succ, List.foldl_cons, N8 a n (b ++ a), Array.size_append, Nat.succ_mul]
  omega
def Nb : R2 := fun x y H Q => rI CMul (fun i j => .int (i * j)) x y H Q ∨ ∃ z n, x = .str z ∧ y = .int n ∧ (n.natAbs ≤ 1000000 ∧ z.length ≤ 1000000 ∧ Builtin.Str.tooLong (z.length * n.toNat) = false) ∧ Q (.str (AB z n)) H
theorem WB : OpR X (binaryOp .Mult) (fun x y H Q => ∃ z n, x = .str z ∧ y = .int n ∧ (n.natAbs ≤ 1000000 ∧ z.length ≤ 1000000 ∧ Builtin.Str.tooLong (z.length * n.toNat) = false) ∧ Q (.str (AB z n)) H) := by
 intro pins s σ H x y v u Q I rx ry h
 obtain ⟨z, n, rfl, rfl, ⟨h1, h2, h3⟩, q⟩ := h
 obtain ⟨t, rfl⟩ := rx
 obtain ⟨t', rfl⟩ := ry
 refine P.mul_str (by
            have a1 : ¬ n < -(2 ^ 63 : Int) := by omega
            have a2 : ¬ n ≥ 2 ^ 63 := by omega
            rw [decide_eq_false a1, decide_eq_false a2]; rfl) (fun g1 _ => ?_) (fun _ _ => h3) ?_
 ·have : (1000000 : Int) ≤ (2 ^ 63 - 1) / n := by
   rw [Int.le_ediv_iff_mul_le (by omega)]
   omega
  omega
 ·unfold AB at q
  split
  ·rename_i g
   rw [if_pos g] at q
   exact ⟨by decide, ⟨.str _, H, I.tok _, ⟨_, rfl⟩, q⟩⟩
  ·rename_i g
   rw [if_neg g] at q
   split
   ·rename_i g2
    rw [if_pos g2] at q
    exact ⟨.str z, H, I, ⟨_, rfl⟩, q⟩
   ·rename_i g2
    rw [if_neg g2] at q
    refine ⟨?_, ⟨.str _, H, I.tok _, ⟨_, rfl⟩, q⟩⟩
    show ((List.replicate n.toNat z.cps).foldl (· ++ ·) #[]).size ≤ sizeLine
    rw [N8]
    have h4 : z.cps.size = z.length := rfl
    have h5 := of_decide_eq_false h3
    rw [h4, Nat.mul_comm n.toNat, Array.size_empty, Nat.zero_add]
    exact Nat.le_of_not_gt h5
theorem uo : OpR X (binaryOp .Mult) Nb := OpR.or op_mul WB
theorem WC {i j : Int} (h : iH i j = true) : CMul i j := by
 unfold iH at h
 rw [Bool.or_eq_true, decide_eq_true_eq, decide_eq_true_eq] at h
 unfold CMul
 omega
theorem uv : cP X Nb gM := by
 intro Z H β S x y dx dy dz Q A rx ry e k
 unfold gM at e
 split at e
 ·split at e
  ·rename_i hz
   cases rx; cases ry; cases e
   exact .inl ⟨_, _, rfl, rfl, WC hz, k _ H (Same.refl _) (.int _)⟩
  ·cases e
 ·split at e
  ·rename_i hz
   cases rx; cases ry; cases e
   exact .inr ⟨_, _, rfl, rfl, hz, k _ H (Same.refl _) (.str _)⟩
  ·cases e
 ·cases e
theorem WD : cP X (rI CDivN fun i j => .int (i.fdiv j)) yh := by
 intro Z H β S x y dx dy dz Q A rx ry e k
 unfold yh at e
 split at e
 ·split at e
  ·rename_i hz
   cases rx; cases ry; cases e
   exact ⟨_, _, rfl, rfl, hz, k _ H (Same.refl _) (.int _)⟩
  ·cases e
 ·cases e
theorem AH : cP X (rI (fun _ j => j ≠ 0) fun i j => .int (i.fmod j)) lJ := by
 intro Z H β S x y dx dy dz Q A rx ry e k
 unfold lJ at e
 split at e
 ·split at e
  ·rename_i hz
   cases rx; cases ry; cases e
   exact ⟨_, _, rfl, rfl, hz, k _ H (Same.refl _) (.int _)⟩
  ·cases e
 ·cases e
theorem rA : cP X (rI CPow fun i j => .int (i ^ j.toNat)) jF := by
 intro Z H β S x y dx dy dz Q A rx ry e k
 unfold jF at e
 split at e
 ·split at e
  ·rename_i hz
   cases rx; cases ry; cases e
   exact ⟨_, _, rfl, rfl, hz, k _ H (Same.refl _) (.int _)⟩
  ·cases e
 ·cases e
theorem rB : vG X (rU fun i => .int (-i)) jZ := by
 intro Z H β S x dx dz Q A rx e k
 unfold jZ at e
 split at e
 ·cases rx; cases e
  exact ⟨_, rfl, k _ H (Same.refl _) (.int _)⟩
 ·cases e
abbrev rC (f : Int → Int → Bool) (g : Str → Str → Bool) : R2 := fun x y H Q => (∃ i j, x = .int i ∧ y = .int j ∧ Q (.bl (f i j)) H) ∨ ∃ i j, x = .str i ∧ y = .str j ∧ Q (.bl (g i j)) H
theorem DP : OpR X (compareOp .Lt) (rC (fun i j => decide (i < j)) fun i j => decide (i.cps.toList < j.cps.toList)) := OpR.or op_lt op_lt_str
theorem yj : OpR X (compareOp .LtE) (rC (fun i j => decide (i ≤ j)) fun i j => !decide (j.cps.toList < i.cps.toList)) := OpR.or op_le op_le_str
theorem Nf : OpR X (compareOp .Gt) (rC (fun i j => decide (j < i)) fun i j => decide (j.cps.toList < i.cps.toList)) := OpR.or op_gt op_gt_str
theorem WG : OpR X (compareOp .GtE) (rC (fun i j => decide (j ≤ i)) fun i j => !decide (i.cps.toList < j.cps.toList)) := OpR.or op_ge op_ge_str
theorem DQ : cP X (rC (fun i j => decide (i < j)) fun i j => decide (i.cps.toList < j.cps.toList)) mW := by
 intro Z H β S x y dx dy dz Q A rx ry e k
 unfold mW at e
 split at e
 ·cases rx; cases ry; cases e; exact .inl ⟨_, _, rfl, rfl, k _ H (Same.refl _) (.bl _)⟩
 ·cases rx; cases ry; cases e; exact .inr ⟨_, _, rfl, rfl, k _ H (Same.refl _) (.bl _)⟩
 ·cases e
theorem yq : cP X (rC (fun i j => decide (i ≤ j)) fun i j => !decide (j.cps.toList < i.cps.toList)) lK := by
 intro Z H β S x y dx dy dz Q A rx ry e k
 unfold lK at e
 split at e
 ·cases rx; cases ry; cases e; exact .inl ⟨_, _, rfl, rfl, k _ H (Same.refl _) (.bl _)⟩
 ·cases rx; cases ry; cases e; exact .inr ⟨_, _, rfl, rfl, k _ H (Same.refl _) (.bl _)⟩
 ·cases e
theorem Nh : cP X (rC (fun i j => decide (j < i)) fun i j => decide (j.cps.toList < i.cps.toList)) qZ := by
 intro Z H β S x y dx dy dz Q A rx ry e k
 unfold qZ at e
 split at e
 ·cases rx; cases ry; cases e; exact .inl ⟨_, _, rfl, rfl, k _ H (Same.refl _) (.bl _)⟩
 ·cases rx; cases ry; cases e; exact .inr ⟨_, _, rfl, rfl, k _ H (Same.refl _) (.bl _)⟩
 ·cases e
theorem WH : cP X (rC (fun i j => decide (j ≤ i)) fun i j => !decide (i.cps.toList < j.cps.toList)) vO := by
 intro Z H β S x y dx dy dz Q A rx ry e k
 unfold vO at e
 split at e
 ·cases rx; cases ry; cases e; exact .inl ⟨_, _, rfl, rfl, k _ H (Same.refl _) (.bl _)⟩
 ·cases rx; cases ry; cases e; exact .inr ⟨_, _, rfl, rfl, k _ H (Same.refl _) (.bl _)⟩
 ·cases e
end
def uw : Key → PyData
 | .inl i => .int i
 | .inr x => .str x
mutual
/-- k: dicts ME -/
def toPy (k : Bool) : D → Option PyData
 | .non => some .none
 | .bl b => some (.bool b)
 | .int i => some (.int i)
 | .str x => some (.str x)
 | .tup xs => match gq k xs with
  | some l => some (.tuple l)
  | none => none
 | .lst xs => match gq k xs with
  | some l => some (.list l)
  | none => none
 | .dct xs => match k with
  | true => match oH k xs with
   | some l => some (.dict l)
   | none => none
  | false => none
 | .ref _ => none
 | .ty _ => none
 | .fn _ => none
def gq (k : Bool) : List D → Option (List PyData)
 | [] => some []
 | d :: r => match toPy k d with
  | some x => match gq k r with
   | some l => some (x :: l)
   | none => none
  | none => none
def oH (k : Bool) : List (Key × D) → Option (List (PyData × PyData))
 | [] => some []
 | p :: r => match AI k p with
  | some x => match oH k r with
   | some l => some (x :: l)
   | none => none
  | none => none
def AI (k : Bool) : Key × D → Option (PyData × PyData)
 | (a, d) => match toPy k d with
  | some x => some (uw a, x)
  | none => none
end
/-- a thing of the store seen from outside -/
def yr (S : Store) (d : D) : D := match d with
 | .ref n => match S[n]? with
  | some (.lst xs) => .lst xs
  | some (.dct xs) => .dct xs
  | some (.ig xs) => .dct xs
  | some (.cG xs) => .lst xs
  | _ => .ref n
 | d => d
mutual
/-- the qI things read in, one step deep -/
def stp (S : Store) : D → D
 | .non => .non
 | .bl b => .bl b
 | .int i => .int i
 | .str x => .str x
 | .tup xs => .tup (jG S xs)
 | .lst xs => .lst (jG S xs)
 | .dct kvs => .dct (ux S kvs)
 | .ref n => yr S (.ref n)
 | .ty n => .ty n
 | .fn x => .fn x
def jG (S : Store) : List D → List D
 | [] => []
 | d :: r => stp S d :: jG S r
def ux (S : Store) : List (Key × D) → List (Key × D)
 | [] => []
 | p :: r => DR S p :: ux S r
def DR (S : Store) : Key × D → Key × D
 | (k, d) => (k, stp S d)
/-- nothing of the store in it -/
def gU : D → Bool
 | .non => true
 | .bl _ => true
 | .int _ => true
 | .str _ => true
 | .tup xs => pZ xs
 | .lst xs => pZ xs
 | .dct kvs => vP kvs
 | .ref _ => false
 | .ty _ => true
 | .fn _ => true
def pZ : List D → Bool
 | [] => true
 | d :: r => gU d && pZ r
def vP : List (Key × D) → Bool
 | [] => true
 | p :: r => DU p && vP r
def DU : Key × D → Bool
 | (_, d) => gU d
end
/-- a value as a tree, the qI lists and dicts read in -/
def top (S : Store) (d : D) : D := if gU d = true then d else stp S (stp S (stp S (stp S (stp S d))))
def j9 (S : Store) (d : D) : Option PyData := match toPy false (top S d) with
 | some p => if SeqAt.shaped p = true then some p else none
 | none => none
def mX (S : Store) (x y : D) : Option Bool := match x, y with
 | .str a, .str b => some (a == b)
 | x, y => match j9 S x, j9 S y with
  | some p, some q => some (PyData.eqv p q)
  | _, _ => none
def bQ (S : Store) (x y : D) : Option D := match x, y with
 | .tup xs, .tup [] => some (.bl xs.isEmpty)
 | x, y => match mX S x y with
  | some b => some (.bl b)
  | none => none
def iQ (S : Store) (x y : D) : Option D := match mX S x y with
 | some b => some (.bl (!b))
 | none => none
/-- .. is None -/
def WK (_ : Store) (x y : D) : Option D := match y with
 | .non => match x with
  | .non => some (.bl true)
  | _ => some (.bl false)
 | _ => none
def rD (x z : Str) : Bool := if h : x.cps.size = 1 then decide (x.cps[0] ∈ z.cps.toList) else !(Builtin.Str.occurrences z x 0 z.length 1).isEmpty
def rE (S : Store) (x y : D) : Option Bool := match x, y with
 | .str a, .str z => some (rD a z)
 | x, y => match j9 S x, j9 S y with
  | some p, some (.list qs) => some (qs.any fun z => PyData.eqv z p)
  | some p, some (.tuple qs) => some (qs.any fun z => PyData.eqv z p)
  | _, _ => none
def eV (S : Store) (x y : D) : Option D := match rE S x y with
 | some b => some (.bl b)
 | none => none
def qb (S : Store) (x y : D) : Option D := match rE S x y with
 | some b => some (.bl (!b))
 | none => none
section
variable {C : Ct} {H : Hp} {Z : Addr → Prop} {β : List Addr} {S : Store}
mutual
/-- how a value reads -/
inductive VW (C : Ct) (H : Hp) (β : List Addr) : V → D → Prop
 | non : VW C H β .non .non
 | bl (b : Bool) : VW C H β (.bl b) (.bl b)
 | int (i : Int) : VW C H β (.int i) (.int i)
 | str (x : Str) : VW C H β (.str x) (.str x)
 | ty (n : String) : VW C H β (.ty n) (.ty n)
 | lst {a : Addr} {xs : List V} {ds : List D} : SqL C.K H a xs → gW C H β xs ds → VW C H β (.ref a) (.lst ds)
 | tup {a : Addr} {xs : List V} {ds : List D} : SqT C.K H a xs → gW C H β xs ds → VW C H β (.ref a) (.tup ds)
 | dct {a : Addr} {xs : List (Key × V)} {ds : List (Key × D)} : Rd H a (.dK xs) → jQ C H β xs ds → VW C H β (.ref a) (.dct ds)
 | ref {n : Nat} {a : Addr} : β[n]? = some a → VW C H β (.ref a) (.ref n)
 | fn {v : V} {x : Str} : VW C H β v (.fn x)
inductive gW (C : Ct) (H : Hp) (β : List Addr) : List V → List D → Prop
 | nil : gW C H β [] []
 | cons {v : V} {vs : List V} {d : D} {ds : List D} : VW C H β v d → gW C H β vs ds → gW C H β (v :: vs) (d :: ds)
inductive jQ (C : Ct) (H : Hp) (β : List Addr) : List (Key × V) → List (Key × D) → Prop
 | nil : jQ C H β [] []
 | cons {k : Key} {v : V} {vs : List (Key × V)} {d : D} {ds : List (Key × D)} : VW C H β v d → jQ C H β vs ds → jQ C H β ((k, v) :: vs) ((k, d) :: ds)
end
mutual
theorem RV.vw : ∀ {v : V} {d : D}, RV C H Z β v d → VW C H β v d
 | _, _, .non => .non
 | _, _, .bl b => .bl b
 | _, _, .int i => .int i
 | _, _, .str x => .str x
 | _, _, .ty n => .ty n
 | _, _, .lst _ _ hr h => .lst (.inl hr) (aD.vw h)
 | _, _, .tup hr h => .tup (.inl hr) (aD.vw h)
 | _, _, .fK k h => .tup (.inr k) (aD.vw h)
 | _, _, .fL k h => .lst (.inr k) (aD.vw h)
 | _, _, .dct _ _ hr h => .dct hr.rd (aP.vw h)
 | _, _, .ref h => .ref h
 | _, _, .fn h k => .fn
theorem aD.vw : ∀ {vs : List V} {ds : List D}, aD C H Z β vs ds → gW C H β vs ds
 | _, _, .nil => .nil
 | _, _, .cons h t => .cons (RV.vw h) (aD.vw t)
theorem aP.vw : ∀ {vs : List (Key × V)} {ds : List (Key × D)}, aP C H Z β vs ds → jQ C H β vs ds
 | _, _, .nil => .nil
 | _, _, .cons h t => .cons (RV.vw h) (aP.vw t)
end
mutual
theorem VW.stp (s : aU C H Z β S) : ∀ {v : V} {d : D}, VW C H β v d → VW C H β v (Mi.stp S d)
 | _, _, .non => by simp only [Mi.stp]; exact .non
 | _, _, .bl b => by simp only [Mi.stp]; exact .bl b
 | _, _, .int i => by simp only [Mi.stp]; exact .int i
 | _, _, .str x => by simp only [Mi.stp]; exact .str x
 | _, _, .ty n => by simp only [Mi.stp]; exact .ty n
 | _, _, .lst hr h => by simp only [Mi.stp]; exact .lst hr (gW.stp s h)
 | _, _, .tup hr h => by simp only [Mi.stp]; exact .tup hr (gW.stp s h)
 | _, _, .dct hr h => by simp only [Mi.stp]; exact .dct hr (jQ.stp s h)
 | _, _, .ref (n := n) (a := a) h => by
  simp only [Mi.stp, yr]
  split
  ·rename_i xs e; obtain ⟨us, q1, q2⟩ := s.ok _ _ _ h e; exact .lst (.inl (.inl q1)) q2.vw
  ·rename_i xs e; obtain ⟨us, q1, q2⟩ := s.ok _ _ _ h e; exact .dct (.inl q1) q2.vw
  ·rename_i xs e; obtain ⟨od, us, q1, q2⟩ := s.ok _ _ _ h e; exact .dct (.inr ⟨od, q1⟩) q2.vw
  ·rename_i xs e; obtain ⟨od, us, q1, q2⟩ := s.ok _ _ _ h e; exact .lst (.inl (.inr ⟨od, q1⟩)) q2.vw
  ·exact .ref h
 | _, _, .fn => by simp only [Mi.stp]; exact .fn
theorem gW.stp (s : aU C H Z β S) : ∀ {vs : List V} {ds : List D}, gW C H β vs ds → gW C H β vs (Mi.jG S ds)
 | _, _, .nil => by simp only [Mi.jG]; exact .nil
 | _, _, .cons h t => by simp only [Mi.jG]; exact .cons (VW.stp s h) (gW.stp s t)
theorem jQ.stp (s : aU C H Z β S) : ∀ {vs : List (Key × V)} {ds : List (Key × D)}, jQ C H β vs ds → jQ C H β vs (Mi.ux S ds)
 | _, _, .nil => by simp only [Mi.ux]; exact .nil
 | _, _, .cons h t => by simp only [Mi.ux, Mi.DR]; exact .cons (VW.stp s h) (jQ.stp s t)
end
theorem RV.top {v : V} {d : D} (r : RV C H Z β v d) (s : aU C H Z β S) : VW C H β v (Mi.top S d) := by
 unfold Mi.top
 split
 ·exact r.vw
 ·exact ((((r.vw.stp s).stp s).stp s).stp s).stp s
mutual
theorem Nk : ∀ {v : V} {d : D} {p : PyData}, VW C H β v d → toPy false d = some p → Dp C.K H v p
 | _, .non, _, r, e => by cases r; simp only [toPy] at e; cases e; exact .non
 | _, .bl b, _, r, e => by cases r; simp only [toPy] at e; cases e; exact .bl b
 | _, .int i, _, r, e => by cases r; simp only [toPy] at e; cases e; exact .int i
 | _, .str x, _, r, e => by cases r; simp only [toPy] at e; cases e; exact .str x
 | _, .tup xs, _, r, e => by
  simp only [toPy] at e
  split at e
  ·rename_i l el
   cases e
   cases r with
   | tup hr hs => exact .tup hr (DV hs el)
  ·cases e
 | _, .lst xs, _, r, e => by
  simp only [toPy] at e
  split at e
  ·rename_i l el
   cases e
   cases r with
   | lst hr hs => exact .lst hr (DV hs el)
  ·cases e
 | _, .dct xs, _, r, e => by simp only [toPy] at e; cases e
 | _, .ref n, _, r, e => by simp only [toPy] at e; cases e
 | _, .ty n, _, r, e => by simp only [toPy] at e; cases e
 | _, .fn n, _, r, e => by simp only [toPy] at e; cases e
theorem DV : ∀ {vs : List V} {ds : List D} {ps : List PyData}, gW C H β vs ds → gq false ds = some ps → DpAll C.K H vs ps
 | _, [], _, r, e => by cases r; simp only [gq] at e; cases e; exact .nil
 | _, d :: ds, _, r, e => by
  simp only [gq] at e
  split at e
  ·rename_i x ex
   split at e
   ·rename_i l el
    cases e
    cases r with
    | cons r1 r2 => exact .cons (Nk r1 ex) (DV r2 el)
   ·cases e
  ·cases e
end
/-- a value, seen at the top -/
theorem WL {v : V} {d : D} {p : PyData} (r : RV C H Z β v d) (s : aU C H Z β S) (h : toPy false (top S d) = some p) : Dp C.K H v p := Nk (r.top s) h
theorem rF {v : V} {d : D} {p : PyData} (r : RV C H Z β v d) (s : aU C H Z β S) (h : j9 S d = some p) : Dp C.K H v p ∧ SeqAt.shaped p = true := by
 unfold j9 at h
 split at h
 ·rename_i q e
  split at h
  ·cases h; exact ⟨WL r s e, by assumption⟩
  ·cases h
 ·cases h
end
section
variable {X : Cx}
/-- a tuple, and the empty one -/
def Nm (K : PySem.W.Frag) : R2 := fun x y H Q => ∃ a b xs, x = .ref a ∧ y = .ref b ∧ SqT K H a xs ∧ SqT K H b [] ∧ Q (.bl xs.isEmpty) H
theorem WM (hu : X.A.units + 64 < cLine) : OpR X (compareOp .Eq) (Nm X.K) := by
 intro pins s σ H x y v u Q I rx ry h
 obtain ⟨a, b, xs, rfl, rfl, ha, hb, q⟩ := h
 cases (show v = Value.ref a from rx)
 cases (show u = Value.ref b from ry)
 obtain ⟨us, r1, ⟨o1, g1, c1, n1, d1⟩, _⟩ := I.tuple ha
 obtain ⟨ws, r2, ⟨o2, g2, c2, n2, d2⟩, _⟩ := I.tuple hb
 cases r2
 refine SeqAt.eq_tupleAt (e := fun _ => true) ⟨o1, g1, c1, n1, d1⟩ ⟨o2, g2, c2, n2, d2⟩ (by omega) (fun j h1 h2 => absurd h2 (Nat.not_lt_zero j)) ?_
 refine ⟨.bl xs.isEmpty, H, I, ?_, q⟩
 have e : xs.length = us.length := r1.length
 show Value.bool _ = Value.bool _
 congr 1
 cases us with
 | nil =>
  cases xs with
  | nil => rfl
  | cons x xs => cases e
 | cons u us =>
  cases xs with
  | nil => cases e
  | cons x xs => simp
def Np (K : PySem.W.Frag) : R2 := fun x y H Q => rEq x y H Q ∨ rEqD K x y H Q ∨ Nm K x y H Q
def Nq (K : PySem.W.Frag) : R2 := fun x y H Q => rNe x y H Q ∨ rNeD K x y H Q
theorem or_eq (hu : X.A.units + 64 < cLine) : OpR X (compareOp .Eq) (Np X.K) := OpR.or op_eq (OpR.or (op_eqD hu) (WM hu))
theorem vQ (hu : X.A.units + 64 < cLine) : OpR X (compareOp .NotEq) (Nq X.K) := OpR.or op_ne (op_neD hu)
theorem gY : cP X (Np X.K) bQ := by
 intro Z H β S x y dx dy dz Q A rx ry e k
 unfold bQ at e
 split at e
 ·rename_i xs
  cases e
  obtain ⟨a, us, rfl, q1, r1⟩ := rx.fH rfl
  obtain ⟨b, ws, rfl, q2, r2⟩ := ry.fH rfl
  cases r2
  refine .inr (.inr ⟨a, b, us, rfl, rfl, q1, q2, ?_⟩)
  have e : us.isEmpty = xs.isEmpty := by
   have := r1.length
   cases us <;> cases xs <;> first | rfl | cases this
  rw [e]
  exact k _ H (Same.refl _) (.bl _)
 ·split at e
  ·rename_i b eb
   cases e
   unfold mX at eb
   split at eb
   ·cases rx; cases ry; cases eb
    refine .inl ⟨rfl, ?_⟩
    rw [dec_str]
    exact k _ H (Same.refl _) (.bl _)
   ·split at eb
    ·rename_i p q e1 e2
     cases eb
     obtain ⟨a1, a2⟩ := rF rx A.st e1
     obtain ⟨b1, b2⟩ := rF ry A.st e2
     exact .inr (.inl ⟨p, q, a1, b1, a2, b2, k _ H (Same.refl _) (.bl _)⟩)
    ·cases eb
  ·cases e
theorem vR : cP X (Nq X.K) iQ := by
 intro Z H β S x y dx dy dz Q A rx ry e k
 unfold iQ at e
 split at e
 ·rename_i b eb
  cases e
  unfold mX at eb
  split at eb
  ·cases rx; cases ry; cases eb
   refine .inl ⟨rfl, ?_⟩
   rw [dec_str]
   exact k _ H (Same.refl _) (.bl _)
  ·split at eb
   ·rename_i p q e1 e2
    cases eb
    obtain ⟨a1, a2⟩ := rF rx A.st e1
    obtain ⟨b1, b2⟩ := rF ry A.st e2
    exact .inr ⟨p, q, a1, b1, a2, b2, k _ H (Same.refl _) (.bl _)⟩
   ·cases eb
 ·cases e
def uy (K : PySem.W.Frag) (f : Bool → Bool) : R2 := fun x y H Q => (∃ (c : Nat) (z : Str), x = .str ⟨#[c]⟩ ∧ y = .str z ∧ Q (.bl (f (decide (c ∈ z.cps.toList)))) H) ∨
 (∃ i j, x = .str i ∧ y = .str j ∧ Q (.bl (f (!(Builtin.Str.occurrences j i 0 j.length 1).isEmpty))) H) ∨
 (∃ d ds, Dp K H x d ∧ Dp K H y (.list ds) ∧ SeqAt.shaped d = true ∧ SeqAt.shaped (.list ds) = true ∧ Q (.bl (f (ds.any fun z => PyData.eqv z d))) H) ∨
 ∃ d ds, Dp K H x d ∧ Dp K H y (.tuple ds) ∧ SeqAt.shaped d = true ∧ SeqAt.shaped (.tuple ds) = true ∧ Q (.bl (f (ds.any fun z => PyData.eqv z d))) H
/-- x in a tuple of data -/
theorem WN (hu : X.A.units + 65 < cLine) : OpR X (compareOp .In) (fun x y H Q => ∃ d ds, Dp X.K H x d ∧ Dp X.K H y (.tuple ds) ∧ SeqAt.shaped d = true ∧ SeqAt.shaped (.tuple ds) = true ∧ Q (.bl (ds.any fun z => PyData.eqv z d)) H) := by
 intro pins s σ H x y v u Q I rx ry h
 obtain ⟨d, ds, hx, hy, sx, sy, q⟩ := h
 obtain ⟨l1, r1⟩ := Dp.reads I d x v hx rx
 obtain ⟨l2, r2⟩ := Dp.reads I (.tuple ds) y u hy ry
 refine SeqAt.in_tuple_reads r2 r1 (SeqAt.canLay_of_shaped sy) (SeqAt.canLay_of_shaped sx) ?_ ⟨.bl _, H, I, rfl, q⟩
 exact room_in_shaped sx hu
theorem WO (hu : X.A.units + 65 < cLine) : OpR X (compareOp .NotIn) (fun x y H Q => ∃ d ds, Dp X.K H x d ∧ Dp X.K H y (.tuple ds) ∧ SeqAt.shaped d = true ∧ SeqAt.shaped (.tuple ds) = true ∧ Q (.bl (!ds.any fun z => PyData.eqv z d)) H) := by
 intro pins s σ H x y v u Q I rx ry h
 obtain ⟨d, ds, hx, hy, sx, sy, q⟩ := h
 obtain ⟨l1, r1⟩ := Dp.reads I d x v hx rx
 obtain ⟨l2, r2⟩ := Dp.reads I (.tuple ds) y u hy ry
 refine SeqAt.notIn_tuple_reads r2 r1 (SeqAt.canLay_of_shaped sy) (SeqAt.canLay_of_shaped sx) ?_ ⟨.bl _, H, I, rfl, q⟩
 exact room_in_shaped sx hu
theorem qd (hu : X.A.units + 65 < cLine) : OpR X (compareOp .In) (uy X.K id) := OpR.or op_in_sign (OpR.or op_in_str (OpR.or (op_inD hu) (WN hu)))
theorem WQ (hu : X.A.units + 65 < cLine) : OpR X (compareOp .NotIn) (uy X.K not) := OpR.or op_notIn_sign (OpR.or op_notin_str (OpR.or (op_notInD hu) (WO hu)))
theorem inX {f : Bool → Bool} {Z : Addr → Prop} {H : Hp} {β : List Addr} {S : Store} {x y : V} {dx dy : D} {c : Bool} {Q : VK} (A : At (au X) H Z β S) (rx : RV (au X) H Z β x dx) (ry : RV (au X) H Z β y dy) (e : rE S dx dy = some c) (k : Q (.bl (f c)) H) : uy X.K f x y H Q := by
 unfold rE at e
 split at e
 ·rename_i a z
  cases rx; cases ry; cases e
  unfold rD at k
  split at k
  ·rename_i h
   refine .inl ⟨a.cps[0], z, ?_, rfl, k⟩
   obtain ⟨⟨l⟩⟩ := a
   match l, h with
   | [c], _ => rfl
  ·exact .inr (.inl ⟨_, _, rfl, rfl, k⟩)
 ·split at e
  ·rename_i p qs e1 e2
   cases e
   obtain ⟨a1, a2⟩ := rF rx A.st e1
   obtain ⟨b1, b2⟩ := rF ry A.st e2
   exact .inr (.inr (.inl ⟨p, qs, a1, b1, a2, b2, k⟩))
  ·rename_i p qs e1 e2
   cases e
   obtain ⟨a1, a2⟩ := rF rx A.st e1
   obtain ⟨b1, b2⟩ := rF ry A.st e2
   exact .inr (.inr (.inr ⟨p, qs, a1, b1, a2, b2, k⟩))
  ·cases e
theorem qj : cP X (uy X.K id) eV := by
 intro Z H β S x y dx dy dz Q A rx ry e k
 unfold eV at e
 split at e
 ·rename_i c ec
  cases e
  exact inX A rx ry ec (k _ H (Same.refl _) (.bl _))
 ·cases e
theorem WR : cP X (uy X.K not) qb := by
 intro Z H β S x y dx dy dz Q A rx ry e k
 unfold qb at e
 split at e
 ·rename_i c ec
  cases e
  exact inX A rx ry ec (k _ H (Same.refl _) (.bl _))
 ·cases e
end
def tyOf (S : Store) (d : D) : Option String := match yr S d with
 | .non => some "NoneType"
 | .bl _ => some "bool"
 | .int _ => some "int"
 | .str _ => some "str"
 | .tup _ => some "tuple"
 | .lst _ => some "list"
 | .dct _ => some "dict"
 | _ => none
def DW (t c : String) : Bool := t == c || (t == "bool" && c == "int")
def yt (c : String) : Bool := c == "bool" || c == "int" || c == "str" || c == "tuple" || c == "list" || c == "dict"
def i6 (S : Store) (ds : List D) : Option D := match ds with
 | [d, .ty c] => match tyOf S d with
  | some t => if yt c = true then some (.bl (DW t c)) else none
  | none => none
 | _ => none
theorem kit_ty (K : PySem.W.Frag) {t c : String} (ht : t = "NoneType" ∨ yt t = true) (hc : yt c = true) : PySem.W.kitOne K (.type t) (.type c) = some (DW t c) := by
 simp only [yt, Bool.or_eq_true, beq_iff_eq] at ht hc
 rcases ht with rfl | ((((rfl | rfl) | rfl) | rfl) | rfl) | rfl <;> rcases hc with ((((rfl | rfl) | rfl) | rfl) | rfl) | rfl <;> rfl
section
variable {X : Cx} {Z : Addr → Prop} {H : Hp} {β : List Addr} {S : Store}
theorem WT {v : V} {d : D} {t : String} (A : At (au X) H Z β S) (r : RV (au X) H Z β v d) (h : tyOf S d = some t) : TyX X.K H v (.type t) ∧ (t = "NoneType" ∨ yt t = true) := by
 have DY : ∀ {a : Addr} {xs : List V}, Rd H a (.lst xs) → TyX X.K H (.ref a) (.type "list") := fun hr => hr.elim (fun q => .base (.lst q)) fun ⟨o, q⟩ => .base (.frz q)
 have DZ : ∀ {a : Addr} {xs : List (Key × V)}, Rd H a (.dK xs) → TyX X.K H (.ref a) (.type "dict") := fun hr => hr.elim (fun q => .base (.dK q)) fun ⟨o, q⟩ => .fDict q
 unfold tyOf at h
 cases d with
 | ref n =>
  simp only [yr] at h
  cases e2 : S[n]? with
  | none => rw [e2] at h; cases h
  | some so =>
   rw [e2] at h
   cases so with
   | lst xs =>
    cases h
    obtain ⟨a, us, rfl, q1, _⟩ := r.bL A.st (ds := xs) (by simp only [bL, e2])
    refine ⟨?_, .inr rfl⟩
    rcases q1 with q1 | ⟨o, its, n, q1, q2, _⟩
    ·exact DY q1
    ·exact .kList q1 q2
   | dct xs =>
    cases h
    obtain ⟨a, us, rfl, q1, _⟩ := r.dG A.st (ds := xs) (by simp only [dG, e2])
    exact ⟨DZ q1, .inr rfl⟩
   | ig xs =>
    cases h
    obtain ⟨a, us, rfl, q1, _⟩ := r.dG A.st (ds := xs) (by simp only [dG, e2])
    exact ⟨DZ q1, .inr rfl⟩
   | ins c fs => cases h
   | exo c m => cases h
   | exd fs => cases h
   | tab x q => cases h
   | cG xs =>
    cases h
    obtain ⟨a, us, rfl, q1, _⟩ := r.bL A.st (ds := xs) (by simp only [bL, e2])
    refine ⟨?_, .inr rfl⟩
    rcases q1 with q1 | ⟨o, its, n, q1, q2, _⟩
    ·exact DY q1
    ·exact .kList q1 q2
 | non => cases r; cases h; exact ⟨.base .non, .inl rfl⟩
 | bl b => cases r; cases h; exact ⟨.base (.bl b), .inr rfl⟩
 | int i => cases r; cases h; exact ⟨.base (.int i), .inr rfl⟩
 | str x => cases r; cases h; exact ⟨.base (.str x), .inr rfl⟩
 | ty n => cases h
 | fn n => cases h
 | tup xs =>
  cases h
  cases r with
  | tup hr _ => exact ⟨hr.elim (fun q => .base (.tup q)) fun ⟨o, q⟩ => .fTuple q, .inr rfl⟩
  | fK k _ => obtain ⟨o, its, n, q1, q2, _⟩ := k; exact ⟨.kTuple q1 q2, .inr rfl⟩
 | lst xs =>
  cases h
  cases r with
  | lst _ _ hr _ => exact ⟨DY hr, .inr rfl⟩
  | fL k _ => obtain ⟨o, its, n, q1, q2, _⟩ := k; exact ⟨.kList q1 q2, .inr rfl⟩
 | dct xs =>
  cases h
  cases r with
  | dct _ _ hr _ => exact ⟨DZ hr.rd, .inr rfl⟩
theorem uz {C : Ct} {xs : List V} {a b : D} (r : aD C H Z β xs [a, b]) : ∃ x y, xs = [x, y] ∧ RV C H Z β x a ∧ RV C H Z β y b := by
 cases r with
 | cons r1 r2 => cases r2 with
  | cons r2 r3 => cases r3; exact ⟨_, _, rfl, r1, r2⟩
theorem iT {C : Ct} {xs : List V} {a : D} (r : aD C H Z β xs [a]) : ∃ x, xs = [x] ∧ RV C H Z β x a := by
 cases r with
 | cons r1 r2 => cases r2; exact ⟨_, rfl, r1⟩
theorem uD : lF X (rIsi X.K) i6 := by
 intro Z H β S xs ds dz Q A r e k
 unfold i6 at e
 split at e
 ·rename_i d c
  split at e
  ·rename_i t et
   split at e
   ·rename_i hc
    cases e
    obtain ⟨x, y, rfl, r1, r2⟩ := uz r
    cases r2
    obtain ⟨q1, q2⟩ := WT A r1 et
    exact ⟨x, .ty c, .type t, .type c, DW t c, rfl, .ty c, q1, kit_ty _ q2 hc, k _ H (Same.refl _) (.bl _)⟩
   ·cases e
  ·cases e
 ·cases e
def eY (S : Store) (ds : List D) : Option D := match ds with
 | [.str x] => if x.length ≤ sizeLine then some (.int x.length) else none
 | [.tup xs] => some (.int xs.length)
 | [d] => match bL S d with
  | some xs => some (.int xs.length)
  | none => match dG S d with
   | some xs => some (.int xs.length)
   | none => none
 | _ => none
def rLen (K : PySem.W.Frag) : List V → Hp → VK → Prop := fun xs H Q => (∃ x n, xs = [x] ∧ LenV K x H n ∧ Q (.int n) H) ∨ ∃ a kvs, xs = [V.ref a] ∧ Rd H a (.dK kvs) ∧ Q (.int kvs.length) H
theorem WU : CallR X (.builtin "len") (fun xs H Q => ∃ a kvs, xs = [V.ref a] ∧ Rd H a (.dK kvs) ∧ Q (.int kvs.length) H) := by
 intro pins s σ H xs us Q I r h
 obtain ⟨a, kvs, rfl, ha, q⟩ := h
 obtain ⟨u, rfl, ru⟩ := vals1 r
 cases (show u = Value.ref a from ru)
 obtain ⟨hlen, hns, vs, rk, hd⟩ := dk_rd I.hok ha
 have hl := line63
 have hs : sizeLine = 16777216 := sizeLine_eq
 have hn := rk.length
 exact call_len_dict hns hd (by omega) ⟨.int kvs.length, H, I.tok _, ⟨_, by rw [hn]⟩, q⟩
theorem mY : CallR X (.builtin "len") (rLen X.K) := CallR.or call_len WU
theorem mZ : lF X (rLen X.K) eY := by
 intro Z H β S xs ds dz Q A r e k
 have tail : ∀ {d : D}, aD (au X) H Z β xs [d] → (match bL S d with
   | some xs => some (D.int xs.length)
   | none => match dG S d with
    | some xs => some (.int xs.length)
    | none => none) = some dz → rLen X.K xs H Q := fun {d} r e => by
  obtain ⟨x, rfl, r1⟩ := iT r
  split at e
  ·rename_i ys e1
   cases e
   obtain ⟨a, us, rfl, q1, r2⟩ := r1.bL A.st e1
   exact .inl ⟨_, us.length, rfl, .inl ⟨us, q1, rfl⟩, by rw [r2.length]; exact k _ H (Same.refl _) (.int _)⟩
  ·split at e
   ·rename_i ys e1
    cases e
    obtain ⟨a, us, rfl, q1, r2⟩ := r1.dG A.st e1
    exact .inr ⟨_, us, rfl, q1, by rw [r2.length]; exact k _ H (Same.refl _) (.int _)⟩
   ·cases e
 unfold eY at e
 split at e
 ·split at e
  ·rename_i hz
   cases e
   obtain ⟨x, rfl, r1⟩ := iT r
   cases r1
   exact .inl ⟨_, _, rfl, ⟨hz, rfl⟩, k _ H (Same.refl _) (.int _)⟩
  ·cases e
 ·cases e
  obtain ⟨x, rfl, r1⟩ := iT r
  obtain ⟨a, us, rfl, q1, r2⟩ := r1.fH rfl
  exact .inl ⟨_, us.length, rfl, .inr ⟨us, q1, rfl⟩, by rw [r2.length]; exact k _ H (Same.refl _) (.int _)⟩
 ·exact tail r e
 ·cases e
def rG (_ : Store) (ds : List D) : Option D := match ds with
 | [.int i] => some (.int (if i < 0 then -i else i))
 | _ => none
theorem Nr : lF X (fun xs H Q => ∃ i, xs = [.int i] ∧ Q (.int (if i < 0 then -i else i)) H) rG := by
 intro Z H β S xs ds dz Q A r e k
 unfold rG at e
 split at e
 ·cases e
  obtain ⟨x, rfl, r1⟩ := iT r
  cases r1
  exact ⟨_, rfl, k _ H (Same.refl _) (.int _)⟩
 ·cases e
def kh (_ : Store) (ds : List D) : Option D := match ds with
 | [.int i, .int j] => some (.int (if j > i then j else i))
 | _ => none
def AJ (_ : Store) (ds : List D) : Option D := match ds with
 | [.int i, .int j] => some (.int (if j < i then j else i))
 | _ => none
theorem yu : lF X (fun xs H Q => ∃ i j, xs = [.int i, .int j] ∧ Q (.int (if j > i then j else i)) H) kh := by
 intro Z H β S xs ds dz Q A r e k
 unfold kh at e
 split at e
 ·cases e
  obtain ⟨x, y, rfl, r1, r2⟩ := uz r
  cases r1; cases r2
  exact ⟨_, _, rfl, k _ H (Same.refl _) (.int _)⟩
 ·cases e
theorem WV : lF X (fun xs H Q => ∃ i j, xs = [.int i, .int j] ∧ Q (.int (if j < i then j else i)) H) AJ := by
 intro Z H β S xs ds dz Q A r e k
 unfold AJ at e
 split at e
 ·cases e
  obtain ⟨x, y, rfl, r1, r2⟩ := uz r
  cases r1; cases r2
  exact ⟨_, _, rfl, k _ H (Same.refl _) (.int _)⟩
 ·cases e
def yw (_ : Store) (ds : List D) : Option D := match ds with
 | [.int i, .int j] => if 0 < j ∧ j < 1073741824 then some (.tup [.int (i / j), .int (i % j)]) else none
 | _ => none
theorem WW : lF X (fun xs H Q => ∃ i j, xs = [.int i, .int j] ∧ CDiv i j ∧ ∀ p, H p = none → Q (.ref p) (upd H p (.tup [.int (i / j), .int (i % j)]))) yw := by
 intro Z H β S xs ds dz Q A r e k
 unfold yw at e
 split at e
 ·split at e
  ·rename_i hz
   cases e
   obtain ⟨x, y, rfl, r1, r2⟩ := uz r
   cases r1; cases r2
   exact ⟨_, _, rfl, hz, fun p hp => k _ _ (fU hp) (.tup (.inl upd_same) (.cons (.int _) (.cons (.int _) .nil)))⟩
  ·cases e
 ·cases e
def allB : List D → Option (List Bool)
 | [] => some []
 | .bl b :: r => match allB r with
  | some l => some (b :: l)
  | none => none
 | _ :: _ => none
theorem Nt {C : Ct} : ∀ {xs : List V} {ds : List D} {bs : List Bool}, aD C H Z β xs ds → allB ds = some bs → xs = bs.map V.bl
 | _, [], _, r, e => by cases r; cases e; rfl
 | _, .bl b :: ds, _, r, e => by
  simp only [allB] at e
  split at e
  ·rename_i l el
   cases e
   cases r with
   | cons r1 r2 => cases r1; rw [Nt r2 el]; rfl
  ·cases e
 | _, .non :: _, _, _, e | _, .int _ :: _, _, _, e | _, .str _ :: _, _, _, e | _, .tup _ :: _, _, _, e | _, .lst _ :: _, _, _, e | _, .dct _ :: _, _, _, e | _, .ref _ :: _, _, _, e | _, .ty _ :: _, _, _, e | _, .fn _ :: _, _, _, e => by cases e
def yx (S : Store) (ds : List D) : Option (List Bool) := match ds with
 | [d] => match bL S d with
  | some xs => allB xs
  | none => none
 | _ => none
def lM (S : Store) (ds : List D) : Option D := match yx S ds with
 | some bs => some (.bl (bs.all id))
 | none => none
theorem WY {xs : List V} {ds : List D} {bs : List Bool} (A : At (au X) H Z β S) (r : aD (au X) H Z β xs ds) (e : yx S ds = some bs) : ∃ a, xs = [V.ref a] ∧ SqL X.K H a (bs.map V.bl) := by
 unfold yx at e
 split at e
 ·split at e
  ·rename_i ys e1
   obtain ⟨x, rfl, r1⟩ := iT r
   obtain ⟨a, us, rfl, q1, r2⟩ := r1.bL A.st e1
   exact ⟨a, rfl, by rw [← Nt r2 e]; exact q1⟩
  ·cases e
 ·cases e
theorem E3 : lF X (rAll X.K) lM := by
 intro Z H β S xs ds dz Q A r e k
 unfold lM at e
 split at e
 ·rename_i bs e1
  cases e
  obtain ⟨a, q1, q2⟩ := WY A r e1
  exact ⟨a, bs, q1, q2, k _ H (Same.refl _) (.bl _)⟩
 ·cases e
end
mutual
/-- v reads as d, no dict of it is the table of modules -/
inductive RD (h : Heap) : Value → PyData → Prop
 | non : RD h .none .none
 | bl (b : Bool) : RD h (.bool b) (.bool b)
 | int (i : Int) (t : Tok) : RD h (.int i t) (.int i)
 | str (x : Str) (t : Tok) : RD h (.str x t) (.str x)
 | lst {a : Addr} {o : Obj} {l : List Value} {n : Nat} {xs : List PyData} : h.get? a = some o → o.cls = .type "list" → o.data = .seq l.toArray n → iU h l xs → RD h (.ref a) (.list xs)
 | tup {a : Addr} {o : Obj} {l : List Value} {n : Nat} {xs : List PyData} : h.get? a = some o → o.cls = .type "tuple" → o.data = .seq l.toArray n → iU h l xs → RD h (.ref a) (.tuple xs)
 | dct {a : Addr} {o : Obj} {es : Array DictEntry} {n : Nat} {kvs : List (PyData × PyData)} : h.get? a = some o → o.cls = .type "dict" → o.data = .dict es n → (a == sysModules) = false →
   iU h (es.toList.map (·.key)) (kvs.map (·.1)) → iU h (es.toList.map (·.val)) (kvs.map (·.2)) → RD h (.ref a) (.dict kvs)
inductive iU (h : Heap) : List Value → List PyData → Prop
 | nil : iU h [] []
 | cons {v : Value} {vs : List Value} {d : PyData} {ds : List PyData} : RD h v d → iU h vs ds → iU h (v :: vs) (d :: ds)
end
section
variable {h : Heap} {pr : Program} {w : World}
mutual
theorem RD.reads : ∀ {v : Value} {d : PyData}, RD h v d → ∃ as, Reads h v d as
 | _, _, .non => ⟨_, .none⟩
 | _, _, .bl b => ⟨_, .bool b⟩
 | _, _, .int i t => ⟨_, .int i t⟩
 | _, _, .str x t => ⟨_, .str x t⟩
 | _, _, .lst g c e r => let ⟨_, q⟩ := iU.reads r; ⟨_, .list g c e q⟩
 | _, _, .tup g c e r => let ⟨_, q⟩ := iU.reads r; ⟨_, .tuple g c e q⟩
 | _, _, .dct g c e _ r1 r2 => let ⟨_, q1⟩ := iU.reads r1; let ⟨_, q2⟩ := iU.reads r2; ⟨_, .dict g c e q1 q2⟩
theorem iU.reads : ∀ {vs : List Value} {ds : List PyData}, iU h vs ds → ∃ as, ReadsAll h vs ds as
 | _, _, .nil => ⟨_, .nil⟩
 | _, _, .cons r rs => let ⟨_, q⟩ := RD.reads r; let ⟨_, qs⟩ := iU.reads rs; ⟨_, .cons q qs⟩
end
/-- what stands below: addresses and a level -/
abbrev Lo (pr : Program) (w : World) (h : Heap) (v : Value) (d : PyData) : Prop := ∃ bs, ReadAtMost h d.depth bs ∧ ReprK pr w bs h d.depth v d.shown
abbrev Nu (pr : Program) (w : World) (h : Heap) (vs : List Value) (ds : List PyData) : Prop := ∃ bs, ReadAtMost h (PyData.depthAll ds) bs ∧ ReprAllK pr w bs h (PyData.depthAll ds) vs (PyData.shownAll ds)
theorem WZ {a : Addr} {o : Obj} {l : List Value} {n : Nat} {xs : List PyData} (r : RD h (.ref a) (.list xs)) (g : h.get? a = some o) (c : o.cls = .type "list") (e : o.data = .seq l.toArray n) (q : Nu pr w h l xs) (hl : l.length = (PyData.shownAll xs).length) : Lo pr w h (.ref a) (.list xs) := by
 obtain ⟨bs, hb, k⟩ := q
 obtain ⟨as, rr⟩ := r.reads
 have up : PyData.depthAll xs < (PyData.list xs).depth := by simp only [PyData.depth]; omega
 refine ⟨a :: bs, ReadAtMost.cons rr (Nat.le_of_lt up) hb, ?_⟩
 simp only [PyData.depth, PyData.shown]
 have out := not_mem_of_deeper rr up hb
 match l, e, k, hl with
 | [], e, k, hl =>
  cases hx : PyData.shownAll xs with
  | nil => rw [listText_nil]; exact ReprK.listEmpty g c e
  | cons t ts => rw [hx] at hl; cases hl
 | x :: l, e, k, hl => exact ReprK.list g c e out (by simpa using hl.symm) fun i y z => k.item i y (by simpa using z)
theorem AK {bs : List Addr} {n : Nat} : ∀ {vs : List Value} {ts : List Str}, ReprAllK pr w bs h n vs ts → vs.length = ts.length
 | _, _, .nil => rfl
 | _, _, .cons _ r => congrArg Nat.succ (AK r)
mutual
theorem X3 : ∀ {v : Value} {d : PyData}, RD h v d → d.showable = true → d.shown.length ≤ sizeLine → Lo pr w h v d
 | _, _, .non, _, _ => ⟨[], nofun, by simp only [PyData.shown]; exact .of_is ReprIs.none _ _ _⟩
 | _, _, .bl b, _, _ => ⟨[], nofun, by simp only [PyData.shown]; exact .of_is (ReprIs.bool b) _ _ _⟩
 | _, _, .int i t, sh, _ => ⟨[], nofun, by simp only [PyData.shown]; exact .of_is (ReprIs.int t (by simpa [PyData.showable] using sh)) _ _ _⟩
 | _, _, .str x t, _, sz => ⟨[], nofun, by simp only [PyData.shown] at sz ⊢; exact .of_is (ReprIs.str x t sz) _ _ _⟩
 | _, _, .lst (xs := xs) g c e r, sh, sz => by
  simp only [PyData.shown] at sz
  have q := kE r (by simpa [PyData.showable] using sh) fun t m => Nat.le_trans (listText_mem_le m) sz
  exact WZ (.lst g c e r) g c e q (let ⟨_, _, k⟩ := q; AK k)
 | _, _, .tup (a := a) (xs := xs) g c e r, sh, sz => by
  simp only [PyData.shown] at sz
  obtain ⟨bs, hb, k⟩ := kE r (by simpa [PyData.showable] using sh) fun t m => Nat.le_trans (tupleText_mem_le m) sz
  obtain ⟨as, rr⟩ := (RD.tup g c e r).reads
  have up : PyData.depthAll xs < (PyData.tuple xs).depth := by simp only [PyData.depth]; omega
  refine ⟨a :: bs, ReadAtMost.cons rr (Nat.le_of_lt up) hb, ?_⟩
  have out := not_mem_of_deeper rr up hb
  simp only [PyData.depth, PyData.shown]
  exact ReprK.tuple g c e out (by simpa using k)
 | _, _, .dct (a := a) (es := es) (kvs := kvs) g c e sy r1 r2, sh, sz => by
  simp only [PyData.shown] at sz
  obtain ⟨sh1, yC⟩ := PyData.showableKv_split kvs (by simpa [PyData.showable] using sh)
  have low : ∀ t : Str, (∃ p ∈ PyData.shownKv kvs, t.length ≤ p.length) → t.length ≤ sizeLine := fun t ⟨p, m, q⟩ => Nat.le_trans q (Nat.le_trans (dictText_mem_le m) sz)
  obtain ⟨b1, hb1, k1⟩ := kE r1 sh1 fun t m => low t (PyData.shownKv_key_le kvs t m)
  obtain ⟨b2, hb2, k2⟩ := kE r2 yC fun t m => low t (PyData.shownKv_val_le kvs t m)
  obtain ⟨as, rr⟩ := (RD.dct g c e sy r1 r2).reads
  have l1 := PyData.depthAll_keys_le kvs
  have l2 := PyData.depthAll_vals_le kvs
  have hb : ReadAtMost h (PyData.depthKv kvs) (b1 ++ b2) := (hb1.mono l1).append (hb2.mono l2)
  have up : PyData.depthKv kvs < (PyData.dict kvs).depth := by simp only [PyData.depth]; omega
  have out := not_mem_of_deeper rr up hb
  refine ⟨a :: (b1 ++ b2), ReadAtMost.cons rr (Nat.le_of_lt up) hb, ?_⟩
  simp only [PyData.depth, PyData.shown]
  rw [PyData.shownKv_eq]
  refine ReprK.dict g c e sy out (ReprEntriesK.of_two _ _ _ (k1.more_le (fun b m => ?_) l1) (k2.more_le (fun b m => ?_) l2))
  ·exact List.mem_append.mpr (.inl m)
  ·exact List.mem_append.mpr (.inr m)
theorem kE : ∀ {vs : List Value} {ds : List PyData}, iU h vs ds → PyData.showableAll ds = true → (∀ t ∈ PyData.shownAll ds, t.length ≤ sizeLine) → Nu pr w h vs ds
 | _, _, .nil, _, _ => ⟨[], nofun, by simp only [PyData.shownAll]; exact .nil⟩
 | _, _, .cons (d := d) (ds := ds) r rs, sh, sz => by
  simp only [PyData.showableAll, Bool.and_eq_true] at sh
  simp only [PyData.shownAll, List.mem_cons] at sz
  obtain ⟨b1, hb1, k1⟩ := X3 r sh.1 (sz _ (.inl rfl))
  obtain ⟨b2, hb2, k2⟩ := kE rs sh.2 fun t m => sz t (.inr m)
  refine ⟨b1 ++ b2, ?_, ?_⟩
  ·simp only [PyData.depthAll]
   exact (hb1.mono (Nat.le_max_left _ _)).append (hb2.mono (Nat.le_max_right _ _))
  ·simp only [PyData.depthAll, PyData.shownAll]
   refine .cons ((k1.more fun b m => ?_).level_le (Nat.le_max_left _ _)) (k2.more_le (fun b m => ?_) (Nat.le_max_right _ _))
   ·exact List.mem_append.mpr (.inl m)
   ·exact List.mem_append.mpr (.inr m)
end
/-- repr(v) -/
theorem X4 {A : Around} {E Q : Value → Shared → Prop} {s : Shared} {v : Value} {d : PyData} (r : RD s.heap v d) (sh : d.showable = true) (sz : d.shown.length ≤ sizeLine) (hg : A.guards = some []) (hu : A.units + (d.depth + 1) < cLine)
  (hQ : ∀ h' u tk, (∀ b o, s.heap.get? b = some o → h'.get? b = some o) → Q (.str d.shown u) { s with heap := h', toks := tk }) : wpAny (model pr w) A (call (.builtin "repr") [v]) Q E s := by
 cases r with
 | non => simp only [PyData.shown] at hQ; exact P.repr_of_none (hQ s.heap _ _ fun _ _ e => e)
 | bl b => simp only [PyData.shown] at hQ; exact P.repr_of_bool (hQ s.heap _ _ fun _ _ e => e)
 | int i t => simp only [PyData.shown] at hQ; exact P.repr_of_int (by simpa [PyData.showable] using sh) (hQ s.heap _ _ fun _ _ e => e)
 | str x t => simp only [PyData.shown] at hQ sz; exact P.repr_of_str (hQ s.heap _ _ fun _ _ e => e) sz
 | @lst a o l n xs g c e r =>
  simp only [PyData.shown] at sz hQ
  simp only [PyData.depth] at hu
  obtain ⟨bs, hb, k⟩ := kE (pr := pr) (w := w) r (by simpa [PyData.showable] using sh) fun t m => Nat.le_trans (listText_mem_le m) sz
  obtain ⟨as, rr⟩ := (RD.lst g c e r).reads
  have out := not_mem_of_deeper rr (by simp only [PyData.depth]; omega : PyData.depthAll xs < _) hb
  refine call_repr_slot (by omega) ⟨o, g, c⟩ F.slot_list_repr.toG ?_
  match l, e, k with
  | [], e, k =>
   cases hx : PyData.shownAll xs with
   | cons t ts => rw [hx] at k; cases k
   | nil => rw [hx, listText_nil] at hQ; exact call_list_repr_empty ⟨o, g, c⟩ g e ⟨_, _, rfl, hQ s.heap _ _ fun _ _ e => e⟩
  | x :: l, e, k => exact call_list_reprK g c e out (by simpa using (AK k).symm) (fun i y z => k.item i y (by simpa using z)) hg (fun b _ => Clear.nil b) (by show A.units + 1 + _ < _; omega) (fun _ _ e => e) (fun h' u tk q => ⟨_, _, rfl, hQ h' u tk q⟩) sz
 | @tup a o l n xs g c e r =>
  simp only [PyData.shown] at sz hQ
  simp only [PyData.depth] at hu
  obtain ⟨bs, hb, k⟩ := kE (pr := pr) (w := w) r (by simpa [PyData.showable] using sh) fun t m => Nat.le_trans (tupleText_mem_le m) sz
  obtain ⟨as, rr⟩ := (RD.tup g c e r).reads
  have out := not_mem_of_deeper rr (by simp only [PyData.depth]; omega : PyData.depthAll xs < _) hb
  refine call_repr_slot (by omega) ⟨o, g, c⟩ F.slot_tuple_repr ?_
  exact call_tuple_reprK g c e out (by simpa using k) hg (fun b _ => Clear.nil b) (by show A.units + 1 + _ < _; omega) (fun _ _ e => e) (fun h' u tk q => ⟨_, _, rfl, hQ h' u tk q⟩) sz
 | @dct a o es n kvs g c e sy r1 r2 =>
  simp only [PyData.shown] at sz hQ
  simp only [PyData.depth] at hu
  obtain ⟨sh1, yC⟩ := PyData.showableKv_split kvs (by simpa [PyData.showable] using sh)
  have low : ∀ t : Str, (∃ p ∈ PyData.shownKv kvs, t.length ≤ p.length) → t.length ≤ sizeLine := fun t ⟨p, m, q⟩ => Nat.le_trans q (Nat.le_trans (dictText_mem_le m) sz)
  obtain ⟨b1, hb1, k1⟩ := kE (pr := pr) (w := w) r1 sh1 fun t m => low t (PyData.shownKv_key_le kvs t m)
  obtain ⟨b2, hb2, k2⟩ := kE (pr := pr) (w := w) r2 yC fun t m => low t (PyData.shownKv_val_le kvs t m)
  obtain ⟨as, rr⟩ := (RD.dct g c e sy r1 r2).reads
  have l1 := PyData.depthAll_keys_le kvs
  have l2 := PyData.depthAll_vals_le kvs
  have out := not_mem_of_deeper rr (by simp only [PyData.depth]; omega : PyData.depthKv kvs < _) ((hb1.mono l1).append (hb2.mono l2))
  refine call_repr_slot (by omega) ⟨o, g, c⟩ F.slot_dict_repr ?_
  rw [PyData.shownKv_eq] at sz hQ
  refine call_dict_reprK g c e sy out (ReprEntriesK.of_two _ _ _ (k1.more_le (fun b m => ?_) l1) (k2.more_le (fun b m => ?_) l2)) hg (fun b _ => Clear.nil b) (by show A.units + 1 + _ < _; omega) (fun _ _ e => e) (fun h' u tk q => ⟨_, _, rfl, hQ h' u tk q⟩) sz
  ·exact List.mem_append.mpr (.inl m)
  ·exact List.mem_append.mpr (.inr m)
end
section
variable {X : Cx} {pins : List (Addr × Obj)} {σ : L2.St} {H : Hp} {s : Shared} {Z : Addr → Prop} {β : List Addr} {S : Store}
theorem X5 {es : List DictEntry} {vs : List (Key × Value)} (p : Pairs (mixKind X.prog X.w) es vs) : iU s.heap (es.map (·.key)) (vs.map fun q => uw q.1) := by
 induction p with
 | nil => exact .nil
 | @cons e kv es kvs h1 h2 _ ih =>
  refine .cons ?_ ih
  rcases keyIs_shape (show keyIs kv.1 e.key = true from h1) with ⟨i, t, q, z⟩ | ⟨y, t, q, z⟩
  ·show RD _ e.key (uw kv.1)
   rw [q, z]; exact .int i t
  ·show RD _ e.key (uw kv.1)
   rw [q, z]; exact .str y t
theorem X6 {P : Program} {w : World} {es : List DictEntry} {vs : List (Key × Value)} (p : Pairs (mixKind P w) es vs) : es.map (·.val) = vs.map (·.2) := by
 induction p with
 | nil => rfl
 | cons h1 h2 _ ih => rw [List.map_cons, List.map_cons, h2, ih]
mutual
theorem AO (I : L2.Inv X pins σ H s) : ∀ {v : V} {u : Value} {d : D} {p : PyData}, VW (au X) H β v d → RelV v u → toPy true d = some p → RD s.heap u p
 | _, _, .non, _, r, q, e => by cases r; cases q; simp only [toPy] at e; cases e; exact .non
 | _, _, .bl b, _, r, q, e => by cases r; cases q; simp only [toPy] at e; cases e; exact .bl b
 | _, _, .int i, _, r, q, e => by cases r; obtain ⟨t, rfl⟩ := q; simp only [toPy] at e; cases e; exact .int i t
 | _, _, .str x, _, r, q, e => by cases r; obtain ⟨t, rfl⟩ := q; simp only [toPy] at e; cases e; exact .str x t
 | _, _, .tup xs, _, r, q, e => by
  simp only [toPy] at e
  split at e
  ·rename_i l el
   cases e
   cases r with
   | tup q1 q2 =>
   cases q
   obtain ⟨its, rv, ⟨o, g, c, n, dd⟩, _⟩ := I.tuple q1
   exact .tup g c dd (E4 I q2 rv el)
  ·cases e
 | _, _, .lst xs, _, r, q, e => by
  simp only [toPy] at e
  split at e
  ·rename_i l el
   cases e
   cases r with
   | lst q1 q2 =>
   cases q
   obtain ⟨its, rv, ⟨o, n, g, c, _, dd⟩, _⟩ := I.list q1
   exact .lst g c dd (E4 I q2 rv el)
  ·cases e
 | _, _, .dct xs, _, r, q, e => by
  simp only [toPy] at e
  split at e
  ·rename_i l el
   cases e
   cases r with
   | dct hr hs =>
    cases q
    obtain ⟨_, sy, vs, rk, o, es, ep, g, ⟨c, _⟩, dd, _, pp, _⟩ := dk_rd I.hok hr
    have q2 := Nv I hs rk el
    refine .dct g c dd sy ?_ ?_
    ·have := X5 (X := X) (s := s) pp
     rw [← q2.1]
     exact this
    ·rw [X6 pp]
     exact q2.2
  ·cases e
 | _, _, .ref n, _, r, q, e => by simp only [toPy] at e; cases e
 | _, _, .ty n, _, r, q, e => by simp only [toPy] at e; cases e
 | _, _, .fn n, _, r, q, e => by simp only [toPy] at e; cases e
theorem E4 (I : L2.Inv X pins σ H s) : ∀ {vs : List V} {us : List Value} {ds : List D} {ps : List PyData}, gW (au X) H β vs ds → Vals vs us → gq true ds = some ps → iU s.heap us ps
 | _, _, [], _, r, q, e => by cases r; cases q; simp only [gq] at e; cases e; exact .nil
 | _, _, d :: ds, _, r, q, e => by
  simp only [gq] at e
  split at e
  ·rename_i x ex
   split at e
   ·rename_i l el
    cases e
    cases r with
    | cons r1 r2 => cases q with
     | cons q1 q2 => exact .cons (AO I r1 q1 ex) (E4 I r2 q2 el)
   ·cases e
  ·cases e
theorem Nv (I : L2.Inv X pins σ H s) : ∀ {vs : List (Key × V)} {us : List (Key × Value)} {ds : List (Key × D)} {ps : List (PyData × PyData)}, jQ (au X) H β vs ds → KV vs us → oH true ds = some ps →
  (us.map fun q => uw q.1) = ps.map (·.1) ∧ iU s.heap (us.map (·.2)) (ps.map (·.2))
 | _, _, [], _, r, q, e => by cases r; cases q; simp only [oH] at e; cases e; exact ⟨rfl, .nil⟩
 | _, _, (k, d) :: ds, _, r, q, e => by
  simp only [oH, AI] at e
  split at e
  ·rename_i x ex
   split at e
   ·rename_i l el
    cases e
    split at ex
    ·rename_i y ey
     cases ex
     cases r with
     | cons r1 r2 => cases q with
      | cons q1 q2 =>
       obtain ⟨e1, e2⟩ := q1
       obtain ⟨a1, a2⟩ := Nv I r2 q2 el
       refine ⟨?_, .cons (AO I r1 e2 ey) a2⟩
       rw [List.map_cons, List.map_cons, a1, ← e1]
    ·cases ex
   ·cases e
  ·cases e
end
def d9 (S : Store) (ds : List D) : Option D := match ds with
 | [d] => match toPy true (top S d) with
  | some p => if p.showable = true ∧ p.shown.length ≤ sizeLine ∧ p.depth ≤ 64 then some (.str p.shown) else none
  | none => none
 | _ => none
/-- the a8I for repr: a state is needed -/
def E5 (X : Cx) : List V → Hp → VK → Prop := fun xs H Q => ∃ (β : List Addr) (x : V) (d : D) (p : PyData), xs = [x] ∧ VW (au X) H β x d ∧ toPy true d = some p ∧ p.showable = true ∧ p.shown.length ≤ sizeLine ∧ p.depth ≤ 64 ∧ Q (.str p.shown) H
theorem uE (hg : X.A.guards = some []) (hu : X.A.units + 65 < cLine) : CallR X (.builtin "repr") (E5 X) := by
 intro pins s σ H xs us Q I r h
 obtain ⟨β, x, d, p, rfl, rv, e, h1, h2, h3, q⟩ := h
 obtain ⟨u, rfl, ru⟩ := vals1 r
 exact X4 (AO I rv ru e) h1 h2 hg (by omega) fun h' t tk k => ⟨.str p.shown, H, I.kept k, ⟨_, rfl⟩, q⟩
theorem uF : lF X (E5 X) d9 := by
 intro Z H β S xs ds dz Q A r e k
 unfold d9 at e
 split at e
 ·rename_i d
  split at e
  ·rename_i p ep
   split at e
   ·rename_i hz
    cases e
    obtain ⟨x, rfl, r1⟩ := iT r
    exact ⟨β, x, top S d, p, rfl, r1.top A.st, ep, hz.1, hz.2.1, hz.2.2, k _ H (Same.refl _) (.str _)⟩
   ·cases e
  ·cases e
 ·cases e
end
def aV (S : Store) (x y : D) : Option D := match x, y with
 | .str z, .int i => if z.length ≤ sizeLine then (match atI z.cps.toList i with
  | some c => some (.str ⟨#[c]⟩)
  | none => none) else none
 | .tup xs, .int i => atI xs i
 | x, .int i => match bL S x with
  | some xs => atI xs i
  | none => none
 | _, _ => none
section
variable {X : Cx} {W : WX} {b : Bool} {a e o : Expr} {es : List Expr} {ma mb me mo : EX} {d8 : AX} {pos : Pos}
theorem Ny {C : Ct} {H : Hp} {Z : Addr → Prop} {β : List Addr} {vs : List V} {ds : List D} {i : Int} {d : D} (r : aD C H Z β vs ds) (h : atI ds i = some d) : ∃ v, atI vs i = some v ∧ RV C H Z β v d := by
 unfold atI at h ⊢
 rw [r.length]
 cases e : ixN ds.length i with
 | none => rw [e] at h; cases h
 | some j =>
  rw [e] at h
  exact r.get h
theorem Nz : cP X (rIx X.K) aV := by
 intro Z H β S x y dx dy dz Q A rx ry e k
 have tail : ∀ {d : D} {i : Int}, RV (au X) H Z β x d → RV (au X) H Z β y (.int i) → (match bL S d with
  | some xs => atI xs i
  | none => none) = some dz → rIx X.K x y H Q := fun {d i} rx ry e => by
  split at e
  ·rename_i xs e1
   obtain ⟨a, us, rfl, q1, r1⟩ := rx.bL A.st e1
   obtain ⟨v, e2, r2⟩ := Ny r1 e
   cases ry
   exact .inl ⟨a, us, i, v, rfl, rfl, q1, e2, k _ H (Same.refl _) r2⟩
  ·cases e
 unfold aV at e
 split at e
 ·split at e
  ·rename_i hz
   split at e
   ·rename_i c ec
    cases e; cases rx; cases ry
    exact .inr (.inr ⟨_, _, c, rfl, rfl, hz, ec, k _ H (Same.refl _) (.str _)⟩)
   ·cases e
  ·cases e
 ·obtain ⟨a, us, rfl, q1, r1⟩ := rx.fH rfl
  obtain ⟨v, e2, r2⟩ := Ny r1 e
  cases ry
  exact .inr (.inl ⟨a, us, _, v, rfl, rfl, q1, e2, k _ H (Same.refl _) r2⟩)
 ·exact tail rx ry e
 ·cases e
/-- a[b] -/
theorem bW (ha : PM (au X) W b X a ma) (hb : PM (au X) W b X e mb) (hs : PlainIx e := by exact fun _ _ => rfl) : PM (au X) W b X (.Subscript a e pos) (aC aV ma mb) :=
 cX (pe_ix ix_seq ha hb hs) fun σ H Q h => em2 Nz h
def uG (o i v : D) (S : Store) : Option Store := match o, i with
 | .ref n, .int k => match S[n]? with
  | some (.lst xs) => match ixN xs.length k with
   | some j => some (S.set n (.lst (xs.set j v)))
   | none => none
  | _ => none
 | _, _ => none
def rH (mo mi : EX) : GX := fun v ρ S => match mo ρ S with
 | .ok o S1 => match mi ρ S1 with
  | .ok i S2 => match uG o i v S2 with
   | some S3 => some (ρ, S3)
   | none => none
  | _ => none
 | _ => none
theorem LR.wrote {C : Ct} {cf : Cf} {oa : Nat → Option Addr} {P : Addr → Prop} {σ : L2.St} {H : Hp} {β : List Addr} {ρ : aN} {S : Store} {n : Nat} {p : Addr} {o : HO} {so : SO} (L : LR C cf oa P σ H β ρ S) (hp : β[n]? = some p) (new : bV C (upd H p o) P β p so) (hf : ∀ o u, H p ≠ some (.frz o u)) : LR C cf oa P σ (upd H p o) β ρ (S.set n so) := by
 have m : p ∈ β := List.mem_of_getElem? hp
 exact L.step (Ext.wrote m (L.st.mK m) hf) (L.st.set hp new)
theorem NB (ho : PM (au X) W true X o mo) (hi : PM (au X) W true X e me)
  (ha : ∀ v, assign (.Subscript o e pos) X.env v = (do
   let ov ← holding [v] (eval o X.env)
   let iv ← holding [v, ov] (eval e X.env)
   standAt pos
   holding [v, ov, iv] (setItem ov iv v)
   release [v, ov, iv] []) := by intro _; rfl) : qQ X (.Subscript o e pos) (rH mo me) :=
 Av (pg_sub ho hi set_list ha) fun v σ H Q h => by
  obtain ⟨cf, oa, P, β, ρ, S, d, L, r, h⟩ := h
  unfold rH at h
  refine ⟨cf, oa, P, β, ρ, S, L, ?_⟩
  cases eo : mo ρ S with
  | stuck => rw [eo] at h; exact h.elim
  | exc x S1 => rw [eo] at h; exact h.elim
  | ok od S1 =>
   rw [eo] at h
   simp only at h
   intro ov H1 β1 t1 L1 r1
   obtain ⟨s1, rfl, rfl⟩ := t1.ro rfl
   refine ⟨cf, oa, P, β1, ρ, S1, L1, ?_⟩
   cases ei : me ρ S1 with
   | stuck => rw [ei] at h; exact h.elim
   | exc x S2 => rw [ei] at h; exact h.elim
   | ok id S2 =>
    rw [ei] at h
    intro iv H2 β2 t2 L2 r2
    obtain ⟨s2, rfl, rfl⟩ := t2.ro rfl
    simp only at h
    cases es : uG od id d S2 with
    | none => rw [es] at h; exact h.elim
    | some S3 =>
     rw [es] at h
     unfold uG at es
     split at es
     ·rename_i n k
      split at es
      ·rename_i xs eS
       split at es
       ·rename_i j ej
        cases es
        have r1' := r1.mono (Ext.same s2)
        cases r1' with
        | ref hn =>
         obtain ⟨us, q1, q2⟩ := L2.st.ok _ _ _ hn eS
         cases r2
         refine ⟨_, us, k, j, rfl, rfl, q1, by rw [q2.length]; exact ej, ?_⟩
         have m := List.mem_of_getElem? hn
         have nt := L2.st.mK m
         have rd : RV (au X) H2 P β2 v d := (r.mono (Ext.same s1)).mono (Ext.same s2)
         have new : bV (au X) (upd H2 _ (.lst (us.set j v))) P β2 _ (.lst (xs.set j d)) := ⟨_, upd_same, (q2.set' j rd).set (.inr m) nt⟩
         have hf : ∀ o u, H2 _ ≠ some (.frz o u) := fun o u z => by rw [q1] at z; cases z
         exact h σ _ β2 oa P (L2.wrote hn new hf) ((Fx.of (Ext.same (s1.trans s2))).trans (Fx.of (Ext.wrote m nt hf)))
       ·cases es
      ·cases es
     ·cases es
/-- methods of texts -/
def isStr : D → Bool
 | .str _ => true
 | _ => false
def yD (f : Store → D → List D → Option D) (o : EX) (as : AX) : EX := fun ρ S => (o ρ S).bind fun x S1 => if isStr x = true then (as ρ S1).bind fun ys S2 => R.opt (f S2 x ys) S2 else .stuck
/-- a a8J rule by values, with the a8K type seen before the arguments -/
def MtM (X : Cx) (T : String) (r : V → List V → Hp → VK → Prop) (f : Store → D → List D → Option D) : Prop :=
 ∀ (Z : Addr → Prop) (H : Hp) (β : List Addr) (S : Store) (x : V) (xs : List V) (dx : D) (ds : List D) (dz : D) (Q : VK), At (au X) H Z β S → RV (au X) H Z β x dx → aD (au X) H Z β xs ds → f S dx ds = some dz →
  (∀ v H', Same H H' → RV (au X) H' Z β v dz → Q v H') → r x xs H Q
theorem X7 {id : String} {name : Str} {apos cpos : Pos} {r : V → List V → Hp → VK → Prop} {f : Store → D → List D → Option D} (slot : Slot "str" name id) (hty : typeOf (.builtin id) = pure (.type "method_descriptor")) (hm : MtR X id r) (hf : MtM X "str" r f)
  (ho : PM (au X) W b X o mo) (ha : jg (au X) W b X (e :: es) d8)
  (hbase : attributeBase o name X.env (eval o X.env) = eval o X.env := by rfl)
  (hfew : ((backTo cpos (starEach (e :: es) X.env)).all (fun x => !x.1) && (backToKw cpos (keywordEach [] X.env)).all (fun x => x.1.isSome)
   && decide ((e :: es).length + ([] : List Keyword).length + (if ([] : List Keyword).isEmpty then 0 else 1) < 30)) = true := by rfl)
  (hline : (apos.endLine == cpos.line) = true := by rfl) (hst : starEach (e :: es) X.env = (false, eval e X.env) :: starEach es X.env := by rfl) (hpl : (backTo cpos (starEach es X.env)).any (·.1) = false := by rfl) :
  PM (au X) W b X (.Call (.Attribute o name apos) (e :: es) [] cpos) (yD f mo d8) := cX (pe_bm F.plainAttrs_str slot hty hm ho ha hbase hfew hline hst hpl) fun σ H Q h => by
 obtain ⟨cf, oa, P, β, ρ, S, L, h⟩ := h
 refine ⟨cf, oa, P, β, ρ, S, L, ?_⟩
 unfold yD at h
 cases eo : mo ρ S with
 | stuck => rw [eo] at h; exact h
 | exc x S1 => rw [eo] at h; exact h
 | ok od S1 =>
  rw [eo] at h
  simp only [R.bind] at h
  intro v H1 β1 t1 L1 r1
  cases od with
  | str z =>
   rw [if_pos (by rfl)] at h
   cases r1
   refine ⟨rfl, cf, oa, P, β1, ρ, S1, L1, ?_⟩
   cases ea : d8 ρ S1 with
   | stuck => rw [ea] at h; exact h
   | exc x S2 => rw [ea] at h; intro cls d H' β' t2 L2 ex; exact h cls d H' β' (t1.trans t2) L2 ex
   | ok ds S2 =>
    rw [ea] at h
    simp only [R.bind] at h
    intro xs H2 β2 t2 L2 r2
    cases ef : f S2 (.str z) ds with
    | none => rw [ef] at h; exact h.elim
    | some dz =>
     rw [ef] at h
     exact hf P H2 β2 S2 _ xs _ ds dz Q L2.at (.str z) r2 ef fun v H' e3 r3 => h v H' β2 (t1.trans (t2.trans (Tr.same e3))) (L2.same e3) r3
  | _ => exact (show False from h).elim
def strsOf : List D → Option (List Str)
 | [] => some []
 | .str x :: r => match strsOf r with
  | some l => some (x :: l)
  | none => none
 | _ :: _ => none
theorem E6 {C : Ct} {H : Hp} {Z : Addr → Prop} {β : List Addr} : ∀ {xs : List V} {ds : List D} {bs : List Str}, aD C H Z β xs ds → strsOf ds = some bs → xs = bs.map V.str
 | _, [], _, r, e => by cases r; cases e; rfl
 | _, .str b :: ds, _, r, e => by
  simp only [strsOf] at e
  split at e
  ·rename_i l el
   cases e
   cases r with
   | cons r1 r2 => cases r1; rw [E6 r2 el]; rfl
  ·cases e
 | _, .non :: _, _, _, e | _, .int _ :: _, _, _, e | _, .bl _ :: _, _, _, e | _, .tup _ :: _, _, _, e | _, .lst _ :: _, _, _, e | _, .dct _ :: _, _, _, e | _, .ref _ :: _, _, _, e | _, .ty _ :: _, _, _, e | _, .fn _ :: _, _, _, e => by cases e
def yE (S : Store) (x : D) (ds : List D) : Option D := match x, ds with
 | .str a, [.tup xs] => match strsOf xs with
  | some ys => if (ys.map (·.length)).sum + ys.length * a.length ≤ 16777216 then some (.str (Txt.join a ys)) else none
  | none => none
 | .str a, [d] => match bL S d with
  | some xs => match strsOf xs with
   | some ys => if (ys.map (·.length)).sum + ys.length * a.length ≤ 16777216 then some (.str (Txt.join a ys)) else none
   | none => none
  | none => none
 | _, _ => none
theorem X8 : MtM X "str" (fun x xs H Q => ∃ a p, ∃ ys : List Str, x = .str a ∧ xs = [.ref p] ∧ (SqL X.K H p (ys.map V.str) ∨ SqT X.K H p (ys.map V.str)) ∧
  (ys.map (·.length)).sum + ys.length * a.length ≤ 16777216 ∧ Q (.str (Txt.join a ys)) H) yE := by
 intro Z H β S x xs dx ds dz Q A rx r e k
 unfold yE at e
 split at e
 ·split at e
  ·rename_i ys ey
   split at e
   ·rename_i hz
    cases e
    cases rx
    obtain ⟨v, rfl, r1⟩ := iT r
    obtain ⟨p, us, rfl, q1, q2⟩ := r1.fH rfl
    rw [E6 q2 ey] at q1
    exact ⟨_, p, ys, rfl, rfl, .inr q1, hz, k _ H (Same.refl _) (.str _)⟩
   ·cases e
  ·cases e
 ·split at e
  ·rename_i xs' e1
   split at e
   ·rename_i ys ey
    split at e
    ·rename_i hz
     cases e
     cases rx
     obtain ⟨v, rfl, r1⟩ := iT r
     obtain ⟨p, us, rfl, q1, q2⟩ := r1.bL A.st e1
     rw [E6 q2 ey] at q1
     exact ⟨_, p, ys, rfl, rfl, .inl q1, hz, k _ H (Same.refl _) (.str _)⟩
    ·cases e
   ·cases e
  ·cases e
 ·cases e
theorem Xa {α : Type} : ∀ (us : List α) (n : Nat), us.length = n → pick (List.range n) us [] = us := by
 intro us n h
 unfold pick
 rw [List.append_nil]
 subst h
 induction us with
 | nil => rfl
 | cons u us ih =>
  rw [List.length_cons, List.range_succ_eq_map, List.filterMap_cons]
  simp only [List.getElem?_cons_zero, List.filterMap_map]
  congr 1
end
def rJ (kvs : List (Key × D)) (k : Key) : Bool := kvs.any fun kv => decide (kv.1 = k)
def putD (kvs : List (Key × D)) (k : Key) (v : D) : List (Key × D) :=
 if rJ kvs k = true then kvs.map (fun kv => if kv.1 = k then (kv.1, v) else kv) else kvs ++ [(k, v)]
def uH (kvs more : List (Key × D)) : List (Key × D) := more.foldl (fun acc kv => putD acc kv.1 kv.2) kvs
def keyD : D → Option Key
 | .int i => some (.inl i)
 | .str x => some (.inr x)
 | _ => none
def AQ : List D → Option (List (Key × D))
 | [] => some []
 | [_] => none
 | k :: v :: r => match keyD k with
  | some a => match AQ r with
   | some l => some ((a, v) :: l)
   | none => none
  | none => none
def AU : EX := fun _ S => .ok (.dct []) S
def E7 (xs : List D) : Option D := match AQ xs with
 | some kvs => if kvs.length ≤ 15 then some (.dct (uH [] kvs)) else none
 | none => none
def E8 (m : AX) : EX := fun ρ S => (m ρ S).bind fun xs S1 => R.opt (E7 xs) S1
def yF : List (EX × EX) → AX
 | [] => ao
 | (k, v) :: r => aj k (aj v (yF r))
section
variable {C : Ct} {H : Hp} {P : Addr → Prop} {β : List Addr}
theorem E9 {k : Key} : ∀ {vs : List (Key × V)} {ds : List (Key × D)}, aP C H P β vs ds → (vs.any fun kv => decide (kv.1 = k)) = rJ ds k
 | _, _, .nil => rfl
 | _, _, .cons (vs := vs) (ds := ds) r t => by
  unfold rJ
  rw [List.any_cons, List.any_cons, E9 t]
  rfl
theorem Ea {k : Key} {y : V} {d : D} (q : RV C H P β y d) : ∀ {vs : List (Key × V)} {ds : List (Key × D)}, aP C H P β vs ds → aP C H P β (vs.map fun kv => if kv.1 = k then (kv.1, y) else kv) (ds.map fun kv => if kv.1 = k then (kv.1, d) else kv)
 | _, _, .nil => .nil
 | _, _, .cons (k := k') (v := v) (d := d') r t => by
  rw [List.map_cons, List.map_cons]
  by_cases e : k' = k
  ·rw [if_pos e, if_pos e]; exact .cons q (Ea q t)
  ·rw [if_neg e, if_neg e]; exact .cons r (Ea q t)
theorem ND {k : Key} {y : V} {d : D} (q : RV C H P β y d) : ∀ {vs : List (Key × V)} {ds : List (Key × D)}, aP C H P β vs ds → aP C H P β (vs ++ [(k, y)]) (ds ++ [(k, d)])
 | _, _, .nil => .cons q .nil
 | _, _, .cons r t => .cons r (ND q t)
theorem NK {k : Key} {y : V} {d : D} {vs : List (Key × V)} {ds : List (Key × D)} (r : aP C H P β vs ds) (q : RV C H P β y d) : aP C H P β (putK vs k y) (putD ds k d) := by
 unfold putK putD
 rw [E9 r]
 by_cases e : rJ ds k = true
 ·rw [if_pos e, if_pos e]; exact Ea q r
 ·rw [if_neg e, if_neg e]; exact ND q r
theorem Eb : ∀ {ms : List (Key × V)} {es : List (Key × D)}, aP C H P β ms es → ∀ {vs : List (Key × V)} {ds : List (Key × D)}, aP C H P β vs ds → aP C H P β (mergeK vs ms) (uH ds es)
 | _, _, .nil, _, _, r => r
 | _, _, .cons q t, _, _, r => Eb t (NK r q)
theorem yG {v : V} {d : D} {k : Key} (r : RV C H P β v d) (e : keyD d = some k) : v = kV k := by
 cases r <;> first | (cases e; rfl) | cases e
/-- the pairs cA a flat list stands for -/
inductive Pr : List V → List (V × V) → Prop
 | nil : Pr [] []
 | cons {a b : V} {vs : List V} {ps : List (V × V)} : Pr vs ps → Pr (a :: b :: vs) ((a, b) :: ps)
theorem NN : ∀ {ds : List D} {kvs : List (Key × D)} {vs : List V} {ps : List (V × V)}, aD C H P β vs ds → AQ ds = some kvs → Pr vs ps → ∃ ks : List (Key × V), ps = ks.map (fun kv => (kV kv.1, kv.2)) ∧ aP C H P β ks kvs
 | [], _, _, _, r, e, p => by cases r; cases e; cases p; exact ⟨[], rfl, .nil⟩
 | [_], _, _, _, r, e, p => by cases e
 | a :: b :: ds, _, _, _, r, e, p => by
  simp only [AQ] at e
  split at e
  ·rename_i k ek
   split at e
   ·rename_i l el
    cases e
    cases r with
    | cons r1 r => cases r with
     | cons r2 r =>
      cases p with
      | cons p =>
       obtain ⟨ks, e1, q⟩ := NN r el p
       rw [yG r1 ek, e1]
       exact ⟨(k, _) :: ks, rfl, .cons r2 q⟩
   ·cases e
  ·cases e
end
section
variable {X : Cx} {W : WX} {b : Bool} {pos : Pos}
/-- {} -/
theorem NP : PN (au X) W b X (.Dict [] [] pos) AU := cX pe_dnewK fun σ H Q h => by
 obtain ⟨cf, oa, P, β, ρ, S, L, h⟩ := h
 intro p hp
 have x : Same H (upd H p (.dK [])) := fU hp
 exact h p _ β (Tr.same x) hp (L.vI x hp (by rw [upd_same]; exact Option.some_ne_none _)) ⟨[], upd_same, .nil⟩
theorem NQ {σ : L2.St} : ∀ {ms : List (EX × EX)} {H : Hp} {Q : List (V × V) → Hp → Prop}, AM (au X) W b (yF ms) σ H (fun vs H' => ∀ ps, Pr vs ps → Q ps H') → tPairs (ms.map fun m => (EM (au X) W b m.1, EM (au X) W b m.2)) σ H Q
 | [], H, Q, h => by
  obtain ⟨cf, oa, P, β, ρ, S, L, h⟩ := h
  exact h [] H β Tr.refl L .nil [] .nil
 | (k, v) :: ms, H, Q, h => by
  have h1 := An (X := X) (W := W) h
  refine NS h1 fun x H1 h2 => ?_
  refine NS (An (X := X) (W := W) h2) fun y H2 h3 => ?_
  refine NQ (ms := ms) ?_
  refine Xb h3 fun vs H3 q ps hp => q _ (.cons hp)
where
 NS {σ : L2.St} {m : EX} {H : Hp} {Q Q' : VK} (h : EM (au X) W b m σ H Q) (i : ∀ v H', Q v H' → Q' v H') : EM (au X) W b m σ H Q' := by
  obtain ⟨cf, oa, P, β, ρ, S, L, h⟩ := h
  refine ⟨cf, oa, P, β, ρ, S, L, ?_⟩
  cases e : m ρ S with
  | stuck => rw [e] at h; exact h
  | exc x S1 => rw [e] at h; exact h
  | ok d S1 => rw [e] at h; intro v H' β' t L' r; exact i _ _ (h v H' β' t L' r)
 Xb {σ : L2.St} {m : AX} {H : Hp} {Q Q' : List V → Hp → Prop} (h : AM (au X) W b m σ H Q) (i : ∀ v H', Q v H' → Q' v H') : AM (au X) W b m σ H Q' := by
  obtain ⟨cf, oa, P, β, ρ, S, L, h⟩ := h
  refine ⟨cf, oa, P, β, ρ, S, L, ?_⟩
  cases e : m ρ S with
  | stuck => rw [e] at h; exact h
  | exc x S1 => rw [e] at h; exact h
  | ok d S1 => rw [e] at h; intro v H' β' t L' r; exact i _ _ (h v H' β' t L' r)
/-- {k: v, ..} -/
theorem Xc {keys : List (Option Expr)} {values : List Expr} {ms : List (EX × EX)} (hp : PPs X pos keys values (ms.map fun m => (EM (au X) W b m.1, EM (au X) W b m.2))) (hall : keys.all (·.isSome) = true := by rfl) (hl : keys.length = values.length := by rfl) (h0 : keys ≠ [] := by exact fun z => nomatch z) (h15 : keys.length ≤ 15 := by decide) :
  PN (au X) W b X (.Dict keys values pos) (E8 (yF ms)) := cX (pe_disp hp hall hl h0 h15) fun σ H Q h => by
 obtain ⟨cf, oa, P, β, ρ, S, L, h⟩ := h
 intro p hp
 refine NQ ⟨cf, oa, _, β, ρ, S, L.VE hp, ?_⟩
 unfold E8 at h
 have x0 : Same H (upd H p (.dK [])) := fU hp
 cases ea : yF ms ρ S with
 | stuck => rw [ea] at h; exact h
 | exc e S1 =>
  rw [ea] at h
  intro cls d H' β' t L' ex
  refine h cls d H' β' ((Tr.same x0).trans t) (L'.forget L.sub fun i a h => (L.own i a h).1) ?_
  obtain ⟨Ca, dd, vs, h1, h2, h3, h4, h6, h7, h5⟩ := ex
  exact ⟨Ca, dd, vs, h1, h2, h3, h4, h6, fun z => h7 (.inl z), fun f x hx => let ⟨v, q1, q2⟩ := h5 f x hx; ⟨v, q1, q2.less fun _ z => .inl z⟩⟩
 | ok ds S1 =>
  rw [ea] at h
  simp only [R.bind] at h
  intro vs H1 β1 t L1 rs ps hps
  have hpb : p ∉ β := L.pO hp
  have e0 : H1 p = some (.dK []) := t.ext.keep p _ upd_same hpb
  refine ⟨e0, ?_⟩
  cases ed : E7 ds with
  | none => rw [ed] at h; exact h.elim
  | some dz =>
   rw [ed] at h
   unfold E7 at ed
   split at ed
   ·rename_i kvs ek
    split at ed
    ·rename_i Xd
     cases ed
     obtain ⟨ks, q1, q2⟩ := NN rs ek hps
     refine ⟨ks, q1, by rw [q2.length]; exact Xd, ?_⟩
     have nt : ∀ xs, ¬ Rd H1 p (.tup xs) := fun xs z => by
      rcases z with z | ⟨o, z⟩ <;> (rw [e0] at z; cases z)
     have h0' : cf.H0 p = none := by
      cases z : cf.H0 p with
      | none => rfl
      | some o => exact absurd hp (L.ext.stay p (by rw [z]; exact Option.some_ne_none _))
     have no : ∀ i, oa i ≠ some p := fun i z => (L.p p (L.own i p z).1).1 hp
     have nf : ∀ o u, H1 p ≠ some (.frz o u) := fun o u z => by rw [e0] at z; cases z
     refine h p _ β1 (((Tr.same x0).trans t).pY hp nt nf) hp (L1.pY (.inr rfl) h0' no nt nf) ⟨_, upd_same, ?_⟩
     exact (Eb q2 .nil).set (.inl (.inr rfl)) nt
    ·cases ed
   ·cases ed
def oJ (ds : List D) : Option (List D) := match ds with
 | [.int j] => if -(2 ^ 62) ≤ j ∧ j < 2 ^ 62 then some (pX 0 j.toNat) else none
 | _ => none
def jc (f : List D → Option (List D)) (a : AX) : AX := fun ρ S => (a ρ S).bind fun xs S1 => R.opt (f xs) S1
theorem yH {tg a : Expr} {p : Pos} {d8 : AX} (hm : X.mg "range" = none) (ha : jg (au X) W b X [a] d8) (hg : Gl X "range" := by rfl) (hs : starEach [a] X.env = [(false, eval a X.env)] := by rfl) : pU (au X) W b X tg (.Call (.Name "range" p) [a] [] pos) (jc oJ d8) :=
 yc (pi_range1 hg hm ha hs) fun σ H Q h => by
  obtain ⟨cf, oa, P, β, ρ, S, L, h⟩ := h
  refine ⟨cf, oa, P, β, ρ, S, L, ?_⟩
  unfold jc at h
  cases ea : d8 ρ S with
  | stuck => rw [ea] at h; exact h
  | exc e S1 => rw [ea] at h; exact h
  | ok ds S1 =>
   rw [ea] at h
   simp only [R.bind] at h
   intro vs H1 β1 t L1 rs
   cases er : oJ ds with
   | none => rw [er] at h; exact h.elim
   | some xs =>
    rw [er] at h
    unfold oJ at er
    split at er
    ·split at er
     ·rename_i hz
      cases er
      obtain ⟨v, rfl, r1⟩ := iT rs
      cases r1
      exact ⟨_, rfl, hz.1, hz.2, h _ H1 β1 t L1 Wn⟩
     ·cases er
    ·cases er
end
def fW (ns : List Int) : List D := ns.map D.int
theorem Ec {C : Ct} {H : Hp} {P : Addr → Prop} {β : List Addr} : ∀ ns : List Int, aD C H P β (ns.map V.int) (fW ns)
 | [] => .nil
 | n :: ns => .cons (.int n) (Ec ns)
theorem Xe {P : Program} {w : World} {H : Hp} {s s' : Shared} {e : Value} (h : L2.CX P w [] H s (fun _ _ _ => False) e s') : False := by
 obtain ⟨a, B, H', cls, d, _, _, _, _, _, _, _, q⟩ := h
 exact q
theorem dY {k : Nat} {A : Around} (h : Room k A) : A.units + 64 < cLine := by have := h.un; omega
theorem d7 {k : Nat} {A : Around} (h : Room k A) : A.units + 65 < cLine := by have := h.un; omega
theorem nj : ∀ ds ρ S, ds.length ≠ 0 → cV ds ρ S = none := by
 intro ds ρ S h
 cases ds with
 | nil => exact absurd rfl h
 | cons d ds => rfl
theorem fX {g : GX} {r : lG} {n : Nat} (h : ∀ ds ρ S, ds.length ≠ n → r ds ρ S = none) : ∀ ds ρ S, ds.length ≠ n + 1 → bf g r ds ρ S = none := by
 intro ds ρ S hl
 cases ds with
 | nil => rfl
 | cons d ds =>
  unfold bf
  simp only
  cases g d ρ S with
  | none => rfl
  | some p => exact h ds p.1 p.2 fun z => hl (by rw [List.length_cons, z])
section
variable {P : Program} {w : World} {K : PySem.W.Frag} {mg : Str → Option Value} {base : Heap}
theorem fJ.mono {j k : Nat} {f : Addr} {fd : FuncData} {ps : List Str} {sp : Sp} (F : fJ P w K mg base j f fd ps sp) (h : j ≤ k) : fJ P w K mg base k f fd ps sp :=
 ⟨F.len, fun A outer s H args us vs Q E hg hr => F.run A outer s H args us vs Q E hg (hr.mono h)⟩
theorem aJ.mono {j k : Nat} {x : Str} {st : Stmt} {ps : List Str} {f : FX} (D : aJ P w K mg base j x st ps f) (h : j ≤ k) : aJ P w K mg base k x st ps f := by
 obtain ⟨fa, y, qual, fd, F, hm, G⟩ := D.ex
 exact ⟨fa, y, qual, fd, F, hm, G.mono h⟩
theorem Xf {x x' qual qual' : Str} {st st' : Stmt} {fa : Addr} {fd fd' : FuncData} {k : Nat} {ps : List Str} {sp : Sp} (F : Fun K x qual st fa fd) (F' : Fun K x' qual' st' fa fd') (G : fJ P w K mg base k fa fd' ps sp) : fJ P w K mg base k fa fd ps sp := by
 obtain ⟨oc, od, kV, doc, pm, an, cdv, ct, osl, e1, l1, _⟩ := F.ex
 obtain ⟨oc', od', kV', doc', pm', an', a8M, ct', a8N, e2, l2, _⟩ := F'.ex
 have e := l1.symm.trans l2
 injection e with e
 injection e with _ _ e _
 injection e with e
 rw [e]
 exact G
end
def AV : SX := aH (bU 2 (gH (aQ (aC mW (ak 1) (aO eY (aj (ak 0) (ao))))) (aC aV (ak 0) (ak 1)) (aC bM (aC gM (mC (.int 13)) (ak 1)) (mC (.int 6))))) <|
 aW (pP (cH (aj (aO kh (aj (mC (.int 0)) (aj (aC jY (aO rG (aj (ak 2) (ao))) (aC jF (mC (.int 10)) (mC (.int 18)))) (ao)))) (aj (aC bM (aC bM (aC lJ (aO rG (aj (ak 2) (ao))) (mC (.int 2147483579))) (aC gM (mC (.int 307)) (ak 1))) (mC (.int 11))) (ao)))))
def yI : SX := aH (cJ (aQ (aC qZ (aC aV (ak 0) (mC (.int 0))) (mC (.int 0)))) (aH (fV (aO yw (aj (aC aV (ak 0) (mC (.int 0))) (aj (ak 1) (ao)))) (dW (bf (rH (ak 0) (mC (.int 0))) (bf (aM 2) (cV))))) <|
 aW (ak 2)) (cY)) <|
 aH (fV (aC lJ (aC bM (aC gM (aC aV (ak 0) (mC (.int 1))) (mC (.int 48271))) (mC (.int 20011))) (mC (.int 2147483399))) (rH (ak 0) (mC (.int 1)))) <|
 aW (aC lJ (aC yh (aC lJ (aC gM (aC aV (ak 0) (mC (.int 1))) (aC aV (ak 0) (mC (.int 1)))) (mC (.int 2147483323))) (mC (.int 13))) (ak 1))
def fG (S : Store) (n : Nat) : Prop := ∃ a b : Int, S[n]? = some (.lst [.int a, .int b]) ∧ 0 ≤ a ∧ 0 ≤ b ∧ b < 2 ^ 33
section
variable {vs : List Nat} {g : GX} {t : BX} {e : EX} {ρ : aN}
theorem uI {S : Store} {p : D → Bool} {f : D → D} : ∀ (ds acc : List D), (∀ d ∈ ds, ∃ q, g d ρ S = some (q, S) ∧ t q S = .ok (p d) S ∧ (p d = true → e q S = .ok (f d) S)) → acc.length + ds.length ≤ sizeLine → bG vs g t e ρ ds acc S = .ok (acc ++ (ds.filter p).map f) S
 | [], acc, _, _ => by simp [bG]
 | d :: ds, acc, h, hl => by
  rw [List.length_cons] at hl
  obtain ⟨q, e1, e2, e3⟩ := h d List.mem_cons_self
  unfold bG
  rw [e1]
  simp only [e2]
  have h' := fun x hx => h x (List.mem_cons_of_mem _ hx)
  cases hp : p d with
  | false =>
   simp only
   rw [uI ds acc h' (by omega), List.filter_cons, if_neg (by rw [hp]; exact Bool.false_ne_true)]
  | true =>
   simp only [e3 hp]
   rw [if_pos (by omega), uI ds (acc ++ [f d]) h' (by rw [List.length_append, List.length_singleton]; omega), List.filter_cons, if_pos hp, List.map_cons, List.append_assoc]
   rfl
end
abbrev OX := aN → Store → R (Option Int)
def Xg : OX := fun _ S => .ok none S
def NT (a : EX) : OX := fun ρ S => (a ρ S).bind fun x S1 => match x with
 | .int i => .ok (some i) S1
 | _ => .stuck
def cutD (xs : List D) (lo hi : Option Int) : List D := (xs.drop (HT.sIx xs.length 0 lo)).take (HT.sIx xs.length xs.length hi - HT.sIx xs.length 0 lo)
def NU (S : Store) (x : D) (lo hi : Option Int) : Option D := match x with
 | .str z => if z.length ≤ sizeLine then some (.str (cutS z lo hi)) else none
 | .tup xs => some (.tup (cutD xs lo hi))
 | x => match bL S x with
  | some xs => some (.lst (cutD xs lo hi))
  | none => none
def NV (o : EX) (lo hi : OX) : EX := fun ρ S => (o ρ S).bind fun x S1 => (lo ρ S1).bind fun l S2 => (hi ρ S2).bind fun h S3 => R.opt (NU S3 x l h) S3
def fY (i : Nat) (a : EX) : SX := fun ρ S => match ρ[i]? with
 | some (Sl.ow (.lst xs)) => (a ρ S).st ρ fun d S1 => if xs.length < sizeLine then .nx (ρ.set i (.ow (.lst (xs ++ [d])))) S1 else .stuck
 | some (Sl.sh (.ref n)) => match S[n]? with
  | some (.lst _) => (a ρ S).st ρ fun d S1 => match S1[n]? with
   | some (.lst xs) => if xs.length < sizeLine then .nx ρ (S1.set n (.lst (xs ++ [d]))) else .stuck
   | _ => .stuck
  | _ => .stuck
 | _ => .stuck
section
variable {C : Ct} {cf : Cf} {oa : Nat → Option Addr} {P : Addr → Prop} {σ : L2.St} {H : Hp} {β : List Addr} {ρ : aN} {S : Store}
/-- a DB own container changes -/
theorem LR.Xh {i : Nat} {a : Addr} {o : HO} {d : D} (L : LR C cf oa P σ H β ρ S) (h1 : oa i = some a) (hs : σ[i]? = some (some (.ref a))) (hi : i < ρ.length) (ht : ∀ xs, ¬ Rd H a (.tup xs)) (new : cO C (upd H a o) P β a d) : LR C cf oa P σ (upd H a o) β (ρ.set i (.ow d)) S where
 len := by rw [List.length_set]; exact L.len
 p := fun c h => by
  refine ⟨?_, (L.p c h).2⟩
  by_cases e : c = a
  ·rw [e, upd_same]; exact Option.some_ne_none _
  ·rw [upd_ne e]; exact (L.p c h).1
 sub := L.sub
 p0 := L.p0
 ext := ⟨L.ext.pre, fun c u g1 g2 => by
   have ne : c ≠ a := fun e => by rw [e, (L.own i a h1).2] at g1; cases g1
   rw [upd_ne ne]; exact L.ext.keep c u g1 g2, L.ext.fresh, fun c xs h => by
   have r := L.ext.tups c xs h
   have ne : c ≠ a := fun e => ht xs (e ▸ r)
   unfold Rd; rw [upd_ne ne]; exact r, fun c h => by
   by_cases e : c = a
   ·rw [e, upd_same]; exact Option.some_ne_none _
   ·rw [upd_ne e]; exact L.ext.stay c h, fun c o u h => by rw [upd_ne (fun z => by rw [z, (L.own i a h1).2] at h; cases h)]; exact L.ext.fB c o u h⟩
 own := L.own
 inj := L.inj
 st := L.st.own (L.own i a h1).1 (L.p a (L.own i a h1).1).2 ht
 slot := fun j x h => by
  by_cases e : i = j
  ·subst e; rw [List.getElem?_set_self hi] at h; cases h
  ·rw [List.getElem?_set_ne e] at h
   obtain ⟨v, q1, q2⟩ := L.slot j x h
   exact ⟨v, q1, q2.set (.inl (L.own i a h1).1) ht⟩
 bY := fun j x h => by
  by_cases e : i = j
  ·subst e
   rw [List.getElem?_set_self hi] at h
   cases h
   exact ⟨a, h1, hs, new⟩
  ·rw [List.getElem?_set_ne e] at h
   obtain ⟨c, q0, q1, q2⟩ := L.bY j x h
   exact ⟨c, q0, q1, q2.set (.inl (L.own i a h1).1) ht fun z => e (L.inj i j a h1 (z ▸ q0))⟩
 xslot := fun j x h => by
  by_cases e : i = j
  ·subst e; rw [List.getElem?_set_self hi] at h; cases h
  ·rw [List.getElem?_set_ne e] at h
   obtain ⟨c, q1, q2⟩ := L.xslot j x h
   exact ⟨c, q1, q2.set (L.own i a h1).1 ht⟩
end
section
variable {X : Cx} {W : WX} {x : Str} {px apos cpos pos : Pos} {e : Expr} {me : EX} {i : Nat}
theorem jH (hv : PE X (.Name x px) (tVar i)) (he : PM (au X) W false X e me)
  (hs : swapsWith (.Call (.Attribute (.Name x px) "append" apos) [e] [] cpos) none pos.line X.env = pure false := by rfl)
  (hbase : attributeBase (.Name x px) "append" X.env (eval (.Name x px) X.env) = eval (.Name x px) X.env := by rfl)
  (hfew : ((backTo cpos (starEach [e] X.env)).all (fun x => !x.1) && (backToKw cpos (keywordEach [] X.env)).all (fun x => x.1.isSome)
   && decide (([e] : List Expr).length + ([] : List Keyword).length + (if ([] : List Keyword).isEmpty then 0 else 1) < 30)) = true := by rfl)
  (hline : (apos.endLine == cpos.line) = true := by rfl) (hst : starEach [e] X.env = (false, eval e X.env) :: starEach [] X.env := by rfl) (hpl : (backTo cpos (starEach [] X.env)).any (·.1) = false := by rfl) :
  gj (au X) W X (.Expr (.Call (.Attribute (.Name x px) "append" apos) [e] [] cpos) pos) (fY i me) :=
 jh (ps_expr (pe_bm F.plainAttrs_list F.slot_list_append F.type_list_append mt_append hv (aA he aF hst) hbase hfew hline hst hpl) hs) fun D σ H h => by
  obtain ⟨cf, oa, P, β, ρ, S, L, h⟩ := h
  have one : ∀ {Q : List V → Hp → Prop}, EM (au X) W false me σ H (fun v H' => Q [v] H') → AM (au X) W false (aj me ao) σ H Q := by
   intro Q h
   obtain ⟨cf, oa, P, β, ρ, S, L, h⟩ := h
   refine ⟨cf, oa, P, β, ρ, S, L, ?_⟩
   unfold aj
   cases em : me ρ S with
   | stuck => rw [em] at h; exact h
   | exc x S1 => rw [em] at h; exact h
   | ok d S1 =>
    rw [em] at h
    intro vs H1 β1 t L1 r
    obtain ⟨v, rfl, r1⟩ := iT r
    exact h v H1 β1 t L1 r1
  unfold fY at h
  have go : ∀ {a : Addr} {us : List V}, σ[i]? = some (some (.ref a)) → SqL X.K H a us → EM (au X) W false me σ H (fun v H' => ∃ (l : Addr) (xs : List V) (y : V), V.ref a = .ref l ∧ [v] = [y] ∧ H' l = some (.lst xs) ∧ xs.length < sizeLine ∧ D.nx σ (upd H' l (.lst (xs ++ [y])))) →
    tBM X.K "list" rAppend (tVar i) (AM (au X) W false (aj me ao)) σ H (fun _ H' => D.nx σ H') := by
   intro a us q1 q2 q3
   exact ⟨.ref a, q1, .inl ⟨rfl, us, q2⟩, one q3⟩
  cases es : ρ[i]? with
  | none => rw [es] at h; exact h.elim
  | some sl =>
   rw [es] at h
   cases sl with
   | un => exact h.elim
   | ex _ => exact h.elim
   | ow dx =>
    cases dx with
    | lst xs =>
     obtain ⟨a, o1, o2, us, q1, q2⟩ := L.bY i _ es
     refine go o2 (.inl (.inl q1)) ⟨cf, oa, P, β, ρ, S, L, ?_⟩
     simp only at h
     cases em : me ρ S with
     | stuck => rw [em] at h; exact h
     | exc x S1 => rw [em] at h; exact jC h
     | ok d S1 =>
      rw [em] at h
      simp only [R.st] at h
      intro v H1 β1 t L1 r1
      obtain ⟨a', p1, p2, yJ, w1, w2⟩ := L1.bY i _ es
      have ea : a' = a := by rw [o1] at p1; injection p1 with z; exact z.symm
      subst ea
      by_cases hl : xs.length < sizeLine
      ·rw [if_pos hl] at h
       have hP := (L1.own i a' p1).1
       have nt : ∀ xs, ¬ Rd H1 a' (.tup xs) := fun xs z => by
        rcases z with z | ⟨o, z⟩ <;> (rw [w1] at z; cases z)
       have new : cO (au X) (upd H1 a' (.lst (yJ ++ [v]))) P β1 a' (.lst (xs ++ [d])) := ⟨_, upd_same, (w2.append (.cons r1 .nil)).set (.inl hP) nt⟩
       refine ⟨a', yJ, v, rfl, rfl, w1, by rw [w2.length]; exact hl, ?_⟩
       exact h σ _ β1 oa P (L1.Xh p1 p2 (List.getElem?_eq_some_iff.mp es).1 nt new) ((Fx.of t.ext).trans (Fx.own hP nt fun o u z => by rw [w1] at z; cases z))
      ·rw [if_neg hl] at h; exact h.elim
    | _ => exact (show False from h).elim
   | sh dx =>
    cases dx with
    | ref n =>
     simp only at h
     cases eS : S[n]? with
     | none => rw [eS] at h; exact h.elim
     | some so =>
      rw [eS] at h
      cases so with
      | lst xs0 =>
       obtain ⟨v0, q1, q2⟩ := L.slot i _ es
       cases q2 with
       | ref hn =>
        obtain ⟨us, w1, w2⟩ := L.st.ok _ _ _ hn eS
        refine go q1 (.inl (.inl w1)) ⟨cf, oa, P, β, ρ, S, L, ?_⟩
        simp only at h
        cases em : me ρ S with
        | stuck => rw [em] at h; exact h
        | exc x S1 => rw [em] at h; exact jC h
        | ok d S1 =>
         rw [em] at h
         simp only [R.st] at h
         intro v H1 β1 t L1 r1
         have hn1 := t.ext.get hn
         cases Ed : S1[n]? with
         | none => rw [Ed] at h; exact h.elim
         | some so =>
          rw [Ed] at h
          cases so with
          | lst xs =>
           simp only at h
           by_cases hl : xs.length < sizeLine
           ·rw [if_pos hl] at h
            obtain ⟨yJ, z1, z2⟩ := L1.st.ok _ _ _ hn1 Ed
            have m := List.mem_of_getElem? hn1
            have nt := L1.st.mK m
            have new : bV (au X) (upd H1 _ (.lst (yJ ++ [v]))) P β1 _ (.lst (xs ++ [d])) := ⟨_, upd_same, (z2.append (.cons r1 .nil)).set (.inr m) nt⟩
            refine ⟨_, yJ, v, rfl, rfl, z1, by rw [z2.length]; exact hl, ?_⟩
            have hf : ∀ o u, H1 _ ≠ some (.frz o u) := fun o u z => by rw [z1] at z; cases z
            exact h σ _ β1 oa P (L1.wrote hn1 new hf) ((Fx.of t.ext).trans (Fx.of (Ext.wrote m nt hf)))
           ·rw [if_neg hl] at h; exact h.elim
          | _ => exact (show False from h).elim
      | _ => exact (show False from h).elim
    | _ => exact (show False from h).elim
end
section
variable {X : Cx} {W : WX} {x : Str} {pos pos' : Pos} {e : Expr} {me : EX} {i : Nat} {op : Operator} {r : R2} {f : Store → D → D → Option D}
theorem Ef (hN : X.N.Nodup) (hi : X.N[i]? = some x) (hx : Loc X.env.scope x) (ho : PIp X op r) (hm : cP X r f) (he : PM (au X) W false X e me) (hf : X.fn x = true ∨ X.env.scope.names.lookup x = some .local := by first | exact .inl rfl | exact .inr rfl | assumption) :
  gj (au X) W X (.AugAssign (.Name x pos') op e pos) (bU i (aC f (ak i) me)) := jh (ps_aug hN hi hx he ho hf) fun D σ H h => by
 obtain ⟨cf, oa, P, β, ρ, S, L, h⟩ := h
 unfold bU aC ak at h
 cases es : ρ[i]? with
 | none => rw [es] at h; exact h.elim
 | some sl =>
  rw [es] at h
  cases sl with
  | un => exact h.elim
  | ex _ => exact h.elim
  | ow d => exact h.elim
  | sh dx =>
   obtain ⟨vx, q1, q2⟩ := L.slot i dx es
   refine ⟨vx, q1, cf, oa, P, β, ρ, S, L, ?_⟩
   simp only [R.bind] at h
   cases em : me ρ S with
   | stuck => rw [em] at h; exact h
   | exc z S1 => rw [em] at h; exact jC h
   | ok dy S1 =>
    rw [em] at h
    simp only at h
    intro y H1 β1 t L1 r1
    cases ef : f S1 dx dy with
    | none => rw [ef] at h; exact h.elim
    | some dz =>
     rw [ef] at h
     refine hm P H1 β1 S1 vx y dx dy dz _ L1.at (q2.mono t.ext) r1 ef fun v H2 e2 r2 => ?_
     exact h _ H2 β1 _ P ((L1.same e2).set r2) ((Fx.of t.ext).trans (Fx.of (Ext.same e2)))
end
def uJ (_ : Store) (x y : D) : Option D := match x, y with
 | .int i, .int j => some (.int (i + j))
 | _, _ => none
theorem NW {X : Cx} : cP X (rI0 fun i j => .int (i + j)) uJ := by
 intro Z H β S x y dx dy dz Q A rx ry e k
 unfold uJ at e
 split at e
 ·cases rx; cases ry; cases e
  exact ⟨_, _, rfl, rfl, k _ H (Same.refl _) (.int _)⟩
 ·cases e
section
variable {X : Cx}
/-- the items of a list or a tuple -/
def yK (S : Store) (d : D) : Option (List D) := match d with
 | .tup xs => some xs
 | d => bL S d
theorem RV.yK {C : Ct} {H : Hp} {Z : Addr → Prop} {β : List Addr} {S : Store} {v : V} {d : D} (r : RV C H Z β v d) (s : aU C H Z β S) {ds : List D} (h : Mi.yK S d = some ds) : ∃ a xs, v = .ref a ∧ (SqL C.K H a xs ∨ SqT C.K H a xs) ∧ aD C H Z β xs ds := by
 unfold Mi.yK at h
 split at h
 ·obtain ⟨a, xs, q1, q2, q3⟩ := r.fH (ds := ds) h
  exact ⟨a, xs, q1, .inr q2, q3⟩
 ·obtain ⟨a, xs, q1, q2, q3⟩ := r.bL s h
  exact ⟨a, xs, q1, .inl q2, q3⟩
def AW (S : Store) (ds : List D) : Option D := match ds with
 | [d] => match yK S d with
  | some xs => some (.lst xs)
  | none => none
 | _ => none
theorem Xi : xV X (fun xs H Q => ∃ p ys, xs = [.ref p] ∧ (SqL X.K H p ys ∨ SqT X.K H p ys) ∧ ∀ l, H l = none → Q (.ref l) (upd H l (.lst ys))) AW := by
 intro Z H β S xs ds dz Q A r e k
 unfold AW at e
 split at e
 ·split at e
  ·rename_i ys e1
   cases e
   obtain ⟨x, rfl, r1⟩ := iT r
   obtain ⟨a, us, rfl, q1, r2⟩ := RV.yK r1 A.st e1
   exact ⟨a, us, rfl, q1, fun l hl => k l _ (fU hl) hl (DN A hl r2)⟩
  ·cases e
 ·cases e
def fTuple (S : Store) (ds : List D) : Option D := match ds with
 | [.tup xs] => some (.tup xs)
 | [d] => match bL S d with
  | some xs => some (.tup xs)
  | none => none
 | _ => none
theorem Xj : lF X (fun xs H Q => ∃ p ys, xs = [.ref p] ∧ ((SqL X.K H p ys ∧ ∀ l, H l = none → Q (.ref l) (upd H l (.tup ys))) ∨ (SqT X.K H p ys ∧ Q (.ref p) H))) fTuple := by
 intro Z H β S xs ds dz Q A r e k
 unfold fTuple at e
 split at e
 ·cases e
  obtain ⟨x, rfl, r1⟩ := iT r
  have r0 := r1
  obtain ⟨a, us, rfl, q1, r2⟩ := r1.fH rfl
  exact ⟨a, us, rfl, .inr ⟨q1, k _ H (Same.refl _) r0⟩⟩
 ·split at e
  ·rename_i ys e1
   cases e
   obtain ⟨x, rfl, r1⟩ := iT r
   obtain ⟨a, us, rfl, q1, r2⟩ := r1.bL A.st e1
   exact ⟨a, us, rfl, .inl ⟨q1, fun l hl => k _ _ (fU hl) (.tup (.inl upd_same) (r2.mono (Ext.laid hl)))⟩⟩
  ·cases e
 ·cases e
/-- dict(d): a copy -/
def fDict (S : Store) (ds : List D) : Option D := match ds with
 | [d] => match dG S d with
  | some kvs => some (.dct kvs)
  | none => none
 | _ => none
theorem Eh {C : Ct} {H : Hp} {P : Addr → Prop} {β : List Addr} {p : Addr} {vs : List (Key × V)} {ds : List (Key × D)} (hp : H p = none) (r : aP C H P β vs ds) (o : HO) : aP C (upd H p o) (fun c => P c ∨ c = p) β vs ds := (r.more hp).mono (Ext.laid hp)
theorem Xk : xV X (fun xs H Q => ∃ (a : Addr) (kvs : List (Key × V)), xs = [.ref a] ∧ Rd H a (.dK kvs) ∧ ∀ p, H p = none → Q (.ref p) (upd H p (.dK kvs))) fDict := by
 intro Z H β S xs ds dz Q A r e k
 unfold fDict at e
 split at e
 ·split at e
  ·rename_i ys e1
   cases e
   obtain ⟨x, rfl, r1⟩ := iT r
   obtain ⟨a, us, rfl, q1, r2⟩ := r1.dG A.st e1
   exact ⟨a, us, rfl, q1, fun l hl => k l _ (fU hl) hl ⟨us, upd_same, Eh hl r2 _⟩⟩
  ·cases e
 ·cases e
end
theorem AY {C : Ct} {H : Hp} {P : Addr → Prop} {β : List Addr} : ∀ ds : List D, ds.all litOk = true → aD C H P β (ds.map dV) ds
 | [], _ => .nil
 | .str x :: ds, h => .cons (.str x) (AY ds (by simpa [litOk] using h))
 | .int i :: ds, h => .cons (.int i) (AY ds (by simpa [litOk] using h))
 | .non :: ds, h => .cons .non (AY ds (by simpa [litOk] using h))
 | .bl _ :: _, h | .tup _ :: _, h | .lst _ :: _, h | .dct _ :: _, h | .ref _ :: _, h | .ty _ :: _, h | .fn _ :: _, h => by simp [litOk] at h
/-- what a literal of the module stands for; R: what a a8O name stands for -/
def rK (K : PySem.W.Frag) (R : Str → Value → Prop) : D → Value → Prop
 | .str x, u => ∃ t, u = .str x t
 | .int i, u => ∃ t, u = .int i t
 | .bl b, u => u = .bool b
 | .non, u => u = .none
 | .tup ds, u => ∃ a, u = .ref a ∧ ds.all litOk = true ∧ KT K a (ds.map dV)
 | .fn x, u => ∃ f, u = .ref f ∧ R x (.ref f) ∧ PySem.W.keepIn K (.ref f) = true
 | _, _ => False
inductive nq (K : PySem.W.Frag) (R : Str → Value → Prop) : List DictEntry → List (Str × D) → Prop
 | nil : nq K R [] []
 | cons {e : DictEntry} {k : Str} {t : Tok} {d : D} {es : List DictEntry} {tab : List (Str × D)} : e.key = .str k t → rK K R d e.val → nq K R es tab → nq K R (e :: es) ((k, d) :: tab)
structure KTab (K : PySem.W.Frag) (R : Str → Value → Prop) (w : World) (d : Addr) (tab : List (Str × D)) : Prop where
 ex : ∃ es n, KDict K w d es n ∧ nq K R es.toList tab
theorem rK.imp {K : PySem.W.Frag} {R R' : Str → Value → Prop} (h : ∀ x v, R x v → R' x v) {d : D} {u : Value} (l : rK K R d u) : rK K R' d u := by
 cases d <;> first | exact l | (obtain ⟨f, a, b, c⟩ := l; exact ⟨f, a, h _ _ b, c⟩)
theorem nq.imp {K : PySem.W.Frag} {R R' : Str → Value → Prop} (h : ∀ x v, R x v → R' x v) : ∀ {es : List DictEntry} {tab : List (Str × D)}, nq K R es tab → nq K R' es tab
 | _, _, .nil => .nil
 | _, _, .cons a b c => .cons a (b.imp h) (nq.imp h c)
theorem KTab.imp {K : PySem.W.Frag} {R R' : Str → Value → Prop} (h : ∀ x v, R x v → R' x v) {w : World} {d : Addr} {tab : List (Str × D)} (T : KTab K R w d tab) : KTab K R' w d tab := let ⟨es, n, a, b⟩ := T.ex; ⟨es, n, a, b.imp h⟩
/-- by the written part -/
def Ei (K : PySem.W.Frag) (x : Str) (v : Value) : Prop := PySem.W.nsIn K mainGlobals x = some (some v)
def vU (mg : Str → Option Value) (x : Str) (v : Value) : Prop := mg x = some v
def oK (tab : List (Str × D)) (_ : Store) (x : D) : Option D := match x with
 | .str z => tab.lookup z
 | _ => none
def uK (tab : List (Str × D)) (_ : Store) (x : D) : Option D := match x with
 | .str z => some (.bl (!(tab.lookup z).isSome))
 | _ => none
theorem Xl {C : Ct} {H : Hp} {P : Addr → Prop} {β : List Addr} {d : D} {u : Value} (h : rK C.K (vU C.mg) d u) : ∃ v, RelV v u ∧ RV C H P β v d := by
 cases d with
 | str x => obtain ⟨t, rfl⟩ := h; exact ⟨.str x, ⟨t, rfl⟩, .str x⟩
 | int i => obtain ⟨t, rfl⟩ := h; exact ⟨.int i, ⟨t, rfl⟩, .int i⟩
 | bl b => cases (show u = .bool b from h); exact ⟨.bl b, rfl, .bl b⟩
 | non => cases (show u = .none from h); exact ⟨.non, rfl, .non⟩
 | tup ds => obtain ⟨a, rfl, h1, h2⟩ := h; exact ⟨.ref a, rfl, .fK h2 (AY ds h1)⟩
 | fn x => obtain ⟨f, rfl, h1, h2⟩ := h; exact ⟨.ref f, rfl, .fn h1 h2⟩
 | _ => exact (show False from h).elim
theorem NY {K : PySem.W.Frag} {R : Str → Value → Prop} {z : Str} : ∀ {es : List DictEntry} {tab : List (Str × D)}, nq K R es tab →
  (match es.find? (·.key.isStr z) with
   | some e => ∃ d, tab.lookup z = some d ∧ rK K R d e.val
   | none => tab.lookup z = none) ∧ es.any (·.refKey) = false
 | _, _, .nil => ⟨rfl, rfl⟩
 | _, _, .cons (e := e) (k := k) (t := t) (es := es) (tab := tab) hk hv r => by
  obtain ⟨h1, h2⟩ := NY (z := z) r
  have hr : e.refKey = false := by
   unfold DictEntry.refKey
   rw [hk]
  refine ⟨?_, by rw [List.any_cons, hr, h2]; rfl⟩
  rw [List.find?_cons, hk, List.lookup_cons]
  by_cases hz : z = k
  ·subst hz
   have : (Value.str z t).isStr z = true := by simp [Value.isStr]
   rw [this]
   simp only [beq_self_eq_true]
   exact ⟨_, rfl, hv⟩
  ·have : (Value.str k t).isStr z = false := by simp [Value.isStr]; exact fun q => hz q.symm
   rw [this]
   have hb : (z == k) = false := by simpa using hz
   rw [hb]
   exact h1
theorem NZ {K : PySem.W.Frag} {R : Str → Value → Prop} {w : World} {d : Addr} {tab : List (Str × D)} {es : Array DictEntry} {n : Nat} (D : KDict K w d es n) (E : nq K R es.toList tab) (z : Str) :
  (∃ x u, tab.lookup z = some x ∧ rK K R x u ∧ PySem.W.nsIn K d z = some (some u)) ∨ (tab.lookup z = none ∧ PySem.W.nsIn K d z = some none) := by
 obtain ⟨h1, h2⟩ := NY (z := z) E
 unfold PySem.W.nsIn
 rw [D.at_]
 simp only
 cases e : es.toList.find? (·.key.isStr z) with
 | some q => rw [e] at h1; obtain ⟨x, g1, g2⟩ := h1; exact .inl ⟨x, _, g1, g2, rfl⟩
 | none => rw [e] at h1; exact .inr ⟨h1, by rw [h2]; rfl⟩
section
variable {X : Cx} {W : WX} {b : Bool} {x : Str} {da : Addr} {tab : List (Str × D)} {e : Expr} {me : EX} {p pos : Pos}
theorem O2 {f : Store → D → Option D} {r : V → Hp → VK → Prop} {σ : L2.St} {H : Hp} {Q : VK} (hm : vG X r f) (h : EM (au X) W b (dU f me) σ H Q) : EM (au X) W b me σ H fun y H2 => r y H2 Q := Dj (X := X) (W := W) (b := b) (ma := me) hm h
theorem Xm (T : KTab X.K (vU X.mg) X.w da tab) : vG X (fun y H Q => rIxD X.K X.w (.ref da) y H Q) (oK tab) := by
 intro Z H β S y dy dz Q A ry e k
 obtain ⟨es, n, D, E⟩ := T.ex
 unfold oK at e
 split at e
 ·rename_i z
  cases ry
  rcases NZ D E z with ⟨d, u, g1, g2, g3⟩ | ⟨g1, _⟩
  ·rw [e] at g1
   cases g1
   obtain ⟨v, rv, rd⟩ := Xl (C := au X) (H := H) (P := Z) (β := β) g2
   exact ⟨da, z, v, rfl, rfl, ⟨es, n, u, D.at_, D.lit, g3, rv⟩, k v H (Same.refl _) rd⟩
  ·rw [e] at g1; cases g1
 ·cases e
/-- TABLE[e] -/
theorem O3 (T : KTab X.K (vU X.mg) X.w da tab) (hm : X.mg x = some (.ref da)) (he : PM (au X) W b X e me) (hg : Gl X x := by rfl) (hd : (x == ("__debug__" : Str)) = false := by decide) (hs : PlainIx e := by exact fun _ _ => rfl) :
  PM (au X) W b X (.Subscript (.Name x p) e pos) (dU (oK tab) me) := cX (pe_ix ix_kdict (pe_glob (v := .ref da) hg hm rfl hd) he hs) fun σ H Q h => O2 (Xm T) h
theorem Xn (T : KTab X.K (vU X.mg) X.w da tab) : vG X (fun y H Q => ∃ (z : Str) (r : Option Value), y = .str z ∧ V.ref da = .ref da ∧ PySem.W.nsIn X.K da z = some r ∧ Q (.bl (!r.isSome)) H) (uK tab) := by
 intro Z H β S y dy dz Q A ry e k
 obtain ⟨es, n, D, E⟩ := T.ex
 unfold uK at e
 split at e
 ·rename_i z
  cases ry; cases e
  rcases NZ D E z with ⟨d, u, g1, g2, g3⟩ | ⟨g1, g3⟩
  ·refine ⟨z, _, rfl, rfl, g3, k _ H (Same.refl _) ?_⟩
   rw [g1]; exact .bl _
  ·refine ⟨z, _, rfl, rfl, g3, k _ H (Same.refl _) ?_⟩
   rw [g1]; exact .bl _
 ·cases e
theorem Xo (T : KTab X.K (vU X.mg) X.w da tab) (hm : X.mg x = some (.ref da)) (he : PM (au X) W b X e me) (hg : Gl X x := by rfl) (hd : (x == ("__debug__" : Str)) = false := by decide) (hk : behindInMarks .NotIn (.Name x p) = false := by with_unfolding_all rfl) :
  PB (au X) W b X (.Compare e [.NotIn] [.Name x p] pos) (aQ (dU (uK tab) me)) := by
 obtain ⟨es, n, D, E⟩ := T.ex
 exact vD (pt_cmpR (op_notIn_kd D) he (pe_glob (v := .ref da) hg hm rfl hd) hk) fun σ H Q h => O2 (Xn T) (DA h)
end
section
variable {cs : List (PySem.W.Frag → Bool)} {fns : List He.FnD} {ts : List He.Tab} {w : World} {K : PySem.W.Frag}
theorem oY.ck (c : oY cs fns ts w K) (i : Nat) {f : PySem.W.Frag → Bool} (h : cs[i]? = some f := by rfl) : f K = true := by
 have c1 := (He.ba (show ((cs.all fun c => c K) && fns.all fun d => (He.Fa.code d.at_ d.qual).ok K && PySem.W.keepIn K (.ref (He.fAd K d.at_))) = true from congrArg (fun z : lY => z.1) c)).1
 exact List.all_eq_true.mp c1 f (List.mem_of_getElem? h)
theorem oY.fn (c : oY cs fns ts w K) (i : Nat) {d : He.FnD} (h : fns[i]? = some d := by rfl) :
  ∃ oc od osl kV doc pm an cdv ct, K.lookup (He.fAd K d.at_) = some ⟨oc, od, .func (PySem.W.fnOf d.name d.qual d.params d.body d.scope .none kV doc pm an cdv ct), osl⟩ ∧ PySem.W.codeIn K cdv d.qual = true ∧ PySem.W.keepIn K (.ref (He.fAd K d.at_)) = true := by
 have c2 := (He.ba (show ((cs.all fun c => c K) && fns.all fun d => (He.Fa.code d.at_ d.qual).ok K && PySem.W.keepIn K (.ref (He.fAd K d.at_))) = true from congrArg (fun z : lY => z.1) c)).2
 have e : fns.map (fun d => He.fnObs K d.at_) = fns.map He.FnD.val := congrArg (fun z : lY => z.2.1) c
 have e2 : (fns.map fun d => He.fnObs K d.at_)[i]? = (fns.map He.FnD.val)[i]? := by rw [e]
 rw [List.getElem?_map, List.getElem?_map, h] at e2
 obtain ⟨k1, k2⟩ := He.ba (List.all_eq_true.mp c2 d (List.mem_of_getElem? h))
 obtain ⟨oc, od, osl, kV, doc, pm, an, cdv, ct, l, q⟩ := He.fn_ok (Option.some.inj e2) k1
 exact ⟨oc, od, osl, kV, doc, pm, an, cdv, ct, l, q, k2⟩
theorem oY.tab (c : oY cs fns ts w K) (i : Nat) {t : He.Tab} (h : ts[i]? = some t := by rfl) : ∃ es n, KDict K w (t.1 K) es n := by
 have e : ts.map (fun t => He.dicW K (t.1 K)) = ts.map fun t => some (He.keysIn w.params t.2) := congrArg (fun z : lY => z.2.2) c
 have e2 : (ts.map fun t => He.dicW K (t.1 K))[i]? = (ts.map fun t => some (He.keysIn w.params t.2))[i]? := by rw [e]
 rw [List.getElem?_map, List.getElem?_map, h] at e2
 exact He.dicW_ok (Option.some.inj e2)
end
section
variable {K : PySem.W.Frag}
theorem bd {a b : Bool} (h : (a && b) = true) : a = true ∧ b = true := Bool.and_eq_true_iff.mp h
theorem oM {o : Option (Option Value)} {z : Str} (h : lZ o z = true) : ∃ t, o = some (some (.str z t)) := by
 cases o with
 | none => cases h
 | some o =>
  cases o with
  | none => cases h
  | some v =>
   cases v with
   | str y t =>
    have e : y = z := of_decide_eq_true h
    exact ⟨t, by rw [e]⟩
   | _ => cases h
theorem O4 {o : Option (Option Value)} {z : Int} (h : D9 o z = true) : ∃ t, o = some (some (.int z t)) := by
 cases o with
 | none => cases h
 | some o =>
  cases o with
  | none => cases h
  | some v =>
   cases v with
   | int y t =>
    have e : y = z := of_decide_eq_true h
    exact ⟨t, by rw [e]⟩
   | _ => cases h
theorem Xp {a : Addr} {vs : List V} (h : Aa K a vs = true) : KT K a vs := by
 unfold Aa at h
 cases q : K.lookup a with
 | none =>
  rw [q] at h
  cases h
 | some o =>
  obtain ⟨oc, od, dt, osl⟩ := o
  rw [q] at h
  cases oc with
  | type c =>
   cases dt with
   | seq its n =>
    obtain ⟨h1, h2⟩ := bd (show (decide (c = "tuple") && (decide (its.size ≤ sizeLine) && He.relAll vs its.toList)) = true from h)
    obtain ⟨h3, h4⟩ := bd h2
    exact ⟨_, its, n, q, congrArg Value.type (of_decide_eq_true h1), rfl, of_decide_eq_true h3, He.relAll_ok h4⟩
   | _ => cases h
  | _ => cases dt <;> cases h
theorem Xq {d : D} {u : Value} (h : Dc K d u = true) : rK K (Ei K) d u := by
 cases d with
 | str x => cases u with
  | str y t =>
   have e : y = x := of_decide_eq_true h
   exact ⟨t, by rw [e]⟩
  | _ => cases h
 | int i => cases u with
  | int j t =>
   have e : j = i := of_decide_eq_true h
   exact ⟨t, by rw [e]⟩
  | _ => cases h
 | bl b => cases u with
  | bool c =>
   have h1 : (b == c) = true := h
   rw [eq_of_beq h1]
   rfl
  | _ => cases h
 | non => cases u with
  | none => rfl
  | _ => cases h
 | tup ds => cases u with
  | ref a =>
   obtain ⟨h1, h2⟩ := bd (show (ds.all litOk && Aa K a (ds.map dV)) = true from h)
   exact ⟨a, rfl, h1, Xp h2⟩
  | _ => cases h
 | fn x => cases u with
  | ref f =>
   obtain ⟨h1, h2⟩ := bd (show (He.eqO (PySem.W.nsIn K mainGlobals x) (some (some (.ref f))) && PySem.W.keepIn K (.ref f)) = true from h)
   exact ⟨f, rfl, He.eqO_ok h1, h2⟩
  | _ => cases h
 | _ => cases u <;> cases h
theorem O5 : ∀ {es : List DictEntry} {tab : List (Str × D)}, Ab K es tab = true → nq K (Ei K) es tab
 | [], [], _ => .nil
 | [], _ :: _, h => by cases h
 | _ :: _, [], h => by cases h
 | e :: es, (k, d) :: tab, h => by
  obtain ⟨h1, h2⟩ := bd (show ((match e.key with
   | .str y _ => decide (y = k)
   | _ => false) && (Dc K d e.val && Ab K es tab)) = true from h)
  obtain ⟨h3, h4⟩ := bd h2
  cases q : e.key with
  | str y t =>
   rw [q] at h1
   have ey : y = k := of_decide_eq_true h1
   exact .cons (q.trans (by rw [ey])) (Xq h3) (O5 h4)
  | _ =>
   rw [q] at h1
   cases h1
theorem Xr {w : World} {a : Addr} {tab : List (Str × D)} (h : Dd K a tab = true) (D : ∃ es n, KDict K w a es n) : KTab K (Ei K) w a tab := by
 obtain ⟨es, n, D⟩ := D
 unfold Dd at h
 rw [D.at_] at h
 exact ⟨es, n, D, O5 h⟩
theorem Xu {C : Addr} {newId : String} {p : List Value → Bool} (h : xN K C newId p = true) : ∃ nm q N bs bm sn sub ab col dd k0 k1 k2 k3 k5, K.lookup C = some (excClassObj nm q C N bs bm true sn sub ab col dd k0 k1 k2 k3 k5 newId) ∧ p bm = true := by
 unfold xN at h
 split at h
 ·rename_i t dd cd sl ho
  obtain ⟨h0, h⟩ := bd h
  split at h
  ·rename_i C' bm k0 k1 k2 k3 n k5 hm hs
   obtain ⟨h1, h⟩ := bd h
   obtain ⟨h2, h⟩ := bd h
   obtain ⟨h3, h⟩ := bd h
   obtain ⟨h4, h5⟩ := bd h
   obtain ⟨nm, bs, mro, ns, qn, hd, sn, sb, ab, col, del⟩ := cd
   obtain ⟨sl⟩ := sl
   have e0 : t = "type" := of_decide_eq_true h0
   have e1 : C' = C := of_decide_eq_true h1
   have e2 : n = newId := of_decide_eq_true h2
   have e3 : hd = true := h3
   have e4 : del = false := by simpa using h4
   have e5 : mro = .ref C' :: bm := hm
   have e6 : sl = [k0, k1, k2, k3, some (.builtin n), k5] := hs
   subst e0 e1 e2 e3 e4 e5 e6
   exact ⟨nm, qn, ns, bs, bm, sn, sb, ab, col, dd, k0, k1, k2, k3, k5, ho, h5⟩
  ·cases h
 ·cases h
theorem Ek {a b : Option Value} (h : eqB a b = true) : a = b := of_decide_eq_true h
theorem jj {a b : Option Bool} (h : eqP a b = true) : a = b := of_decide_eq_true h
theorem Xv {C : Addr} (h : Ac K C = true) : PySem.W.findIn K (.ref C) "__setattr__" = some (some (.builtin "object.__setattr__")) ∧ PySem.W.subIn K (.ref C) (.type "BaseException") = some true ∧ PySem.W.typeIn K (.ref C) = some (.type "type") ∧ PySem.W.keepIn K (.ref C) = true := by
 obtain ⟨h1, h⟩ := bd h
 obtain ⟨h2, h⟩ := bd h
 obtain ⟨h3, h4⟩ := bd h
 exact ⟨He.eqO_ok h1, jj h2, Ek h3, h4⟩
end
/-- a walk cA has gone j steps -/
theorem Xw {pr : Program} {w : World} {A : Around} {I : Addr} {fp wr : List Addr} {n : Nat} {P : Nat → Value → Prop} {St : Nat → Heap → Prop} (W : Walks pr w A I fp wr n P St) {j : Nat} (hj : j ≤ n) :
  Walks pr w A I fp wr (n - j) (fun i => P (j + i)) (fun i => St (j + i)) where
 sub := W.sub
 frame := fun i h h' st k => W.frame (j + i) h h' st k
 item := fun i s Q E hi st hQ => W.item (j + i) s Q E (by omega) st fun v h' tk p st' k => hQ v h' tk p st' k
 done := fun s Q E st hQ => W.done s Q E (by rw [show j + (n - j) = n by omega] at st; exact st) hQ
 self := fun i s Q E st hQ => W.self (j + i) s Q E st hQ
theorem Xx : typeLookup (.type "tuple_iterator") "__len__" = pure none := by rw [typeLookup_type, builtinLookup_eq_fast]; kernel_rfl
theorem Xy : typeLookup (.type "tuple_iterator") "__length_hint__" = pure (some (.builtin "tuple_iterator.__length_hint__")) := by rw [typeLookup_type, builtinLookup_eq_fast]; kernel_rfl
section
variable {pr : Program} {w : World} {A : Around} {E : Value → Shared → Prop} {s : Shared}
/-- what is left of a a8P iterator, as a list -/
theorem Xz {it t : Addr} {items : Array Value} {j : Nat} {Q : List Value → Shared → Prop} (hh : A.handled = none) (hit : s.heap.IsTupleIter it t j) (ht : s.heap.IsTuple t items) (hne : t ≠ it) (hj : j ≤ items.size) (hn : items.size ≤ sizeLine)
  (hQ : ∀ (h' : Heap) (tk : Nat) (acc : Array Value), (∀ b o, b ≠ it → s.heap.get? b = some o → h'.get? b = some o) → ItemsOf (fun i v => items[j + i]? = some v) acc (items.size - j) → Q acc.toList { s with heap := h', toks := tk }) :
  wpAny (model pr w) A (collect (.ref it)) Q E s := by
 have W := (Xw (Walks.tuple (prog := pr) (w := w) (A := A.in1) hh it t hne items) hj).toS
 obtain ⟨oi, hoi, _⟩ := id hit
 obtain ⟨ol, hol, _⟩ := id ht
 have ni : s.heap.objs.size ≠ it := Nat.ne_of_gt (Heap.lt_size hoi)
 have nt : s.heap.objs.size ≠ t := Nat.ne_of_gt (Heap.lt_size hol)
 have nf : s.heap.objs.size ∉ [it, t] := by simp only [List.mem_cons, List.not_mem_nil, or_false, not_or]; exact ⟨ni, nt⟩
 unfold collect
 refine wpAny_bind (wpAny_runValue (codeAny_builtin F.entry_proto_collect ?_))
 rw [Around.under_plainId F.plain_proto_collect _]
 show wpAny _ A.in1 (newList [] >>= fun l => again (.builtin "list.__iadd__" ⟨[l, .ref it], []⟩)) _ _ s
 refine wpAny_bind (wpAny_newObj_type ?_)
 refine wpAny_pure ⟨plainId_quiet F.plain_list_iadd _, codeAny_builtin F.entry_list_iadd ?_⟩
 rw [Around.under_plainId F.plain_list_iadd _]
 obtain ⟨s1, hs1⟩ : ∃ s1 : Shared, s1 = { s with heap := s.heap.push { cls := .type "list", data := .seq ([] : List Value).toArray } } := ⟨_, rfl⟩
 have gS : s1.heap.get? s.heap.objs.size = some { cls := .type "list", data := .seq ([] : List Value).toArray } := by rw [hs1]; exact Heap.get?_push_size _ rfl
 have gi : s1.heap.IsTupleIter it t j := by rw [hs1]; exact hit.at fun o e => Heap.get?_push_of_some _ e
 have gt : s1.heap.IsTuple t items := by rw [hs1]; exact ht.at fun o e => Heap.get?_push_of_some _ e
 have hT : s1.TypeIs (.ref it) "tuple_iterator" := gi.typeIs
 have h1 : Builtin.List.listSameRef (.ref s.heap.objs.size) (.ref it) = false := by simp [Builtin.List.listSameRef, ni]
 show wpAny _ A.in1 (Builtin.List.listExtendWith (.ref s.heap.objs.size) (.ref it) (.ref s.heap.objs.size)) _ _ _
 rw [← hs1]
 unfold Builtin.List.listExtendWith
 refine wpAny_bind (wpAny_typeOf hT ?_)
 rw [if_neg (by rw [h1]; decide)]
 refine wpAny_bind (wpAny_pyIter_tupleiter gi ?_)
 refine wpAny_bind (wpAny_holding ?_)
 unfold Builtin.List.listLengthHint
 refine wpAny_bind (wpAny_specialOf hT Xx ?_)
 show wpAny _ A.in1 (specialOf (Value.ref it) (Str.ofString "__length_hint__") >>= _) _ _ _
 refine wpAny_bind (wpAny_specialOf hT Xy ?_)
 generalize hid : ("tuple_iterator.__length_hint__" : String) = id0
 wp_delta
 rw [show splitId id0 = some ("tuple_iterator", "__length_hint__") from by subst hid; decide +kernel]
 subst hid
 refine wpAny_bind (wpAny_isInstance (b := true) hT (by rw [isSubtype_type]; kernel_rfl) ?_)
 refine wpAny_pure ?_
 rw [if_neg (by decide)]
 refine wpAny_pure ⟨plainId_quiet F.plain_extend_loop _, codeAny_extend_loopS W (by omega) _ nf _ (items.size - j) 0 _ _ _ rfl (Nat.zero_le _) ⟨gi, gt⟩ gS (ItemsOf.nil _) fun s' acc c hm hS' hacc => ?_⟩
 show wpAny _ A (load s.heap.objs.size >>= _) _ _ s'
 refine wpAny_bind (wpAny_load hS' ?_)
 refine wpAny_pure ?_
 rw [Moved.eq_with hm]
 rw [hs1] at hm ⊢
 refine hQ s'.heap s'.toks acc (fun b o hb e => hm.heap b o (fun q => ?_) (Heap.get?_push_of_some _ e)) hacc
 rcases List.mem_cons.mp q with e' | q
 ·exact absurd (Heap.lt_size e) (by rw [e']; exact Nat.lt_irrefl _)
 ·exact hb (List.mem_singleton.mp q)
end
section
variable {pr : Program} {w : World} {A : Around} {E : Value → Shared → Prop} {s : Shared}
/-- a, b, .., *rest = a tuple: what comes -/
theorem XA {t : Addr} {items : Array Value} {i : Nat} {Q : List Value → Shared → Prop} (hh : A.handled = none) (ht : IsTup s.heap t items) (hi : i ≤ items.size) (hn : items.size ≤ sizeLine)
  (hQ : ∀ (h' : Heap) (tk : Nat), (∀ b o, s.heap.get? b = some o → h'.get? b = some o) → Q (items.toList.take i ++ [.ref h'.objs.size]) { s with heap := h'.push { cls := .type "list", data := .seq (items.toList.drop i).toArray }, toks := tk }) :
  wpAny (model pr w) A (unpackItems (.ref t) (i + 1) (some i)) Q E s := by
 have lt : t ≠ s.heap.objs.size := by obtain ⟨o, g, _⟩ := ht; exact Nat.ne_of_lt (Heap.lt_size g)
 unfold unpackItems
 refine wpAny_bind ?_
 unfold notIterableAtAll
 refine wpAny_bind (wpAny_specialOf ht.typeIs slot_tuple_iter.lookup ?_)
 refine wpAny_pure ?_
 simp only [Bool.false_eq_true, if_false]
 refine wpAny_bind (wpAny_holding (iter_tuple ht ?_))
 refine wpAny_bind (wpAny_holding (draw_tuple lt i 0 _ _ ⟨_, Heap.get?_push_size _ rfl, rfl, rfl⟩ (ht.push _) (by omega) fun h1 it1 sb1 => ?_))
 have e1 : (List.take i (List.drop 0 items.toList)).length = i := by
  rw [List.drop_zero, List.length_take, Array.length_toList]; omega
 rw [if_neg (by rw [e1]; exact Nat.lt_irrefl _)]
 have XC : h1.IsTupleIter s.heap.objs.size t i := by rw [Nat.zero_add] at it1; exact it1
 have XD : IsTup h1 t items := (ht.push _).extBut sb1.extBut lt
 refine wpAny_bind (wpAny_holding (Xz (s := { s with heap := h1 }) (j := i) hh XC XD lt hi hn fun h2 tk acc keep hacc => ?_))
 have ea : acc.toList = items.toList.drop i := by
  obtain ⟨z1, z2⟩ := hacc
  refine List.ext_getElem? fun m => ?_
  by_cases hm : m < items.size - i
  ·have hm' : m < acc.size := by omega
   have q := z2 m acc[m] (Array.getElem?_eq_getElem hm')
   rw [Array.getElem?_toList, Array.getElem?_eq_getElem hm', List.getElem?_drop, Array.getElem?_toList, q]
  ·rw [List.getElem?_eq_none (by rw [Array.length_toList]; omega), List.getElem?_eq_none (by rw [List.length_drop, Array.length_toList]; omega)]
 have e2 : acc.toList.length = items.size - i := by rw [ea, List.length_drop, Array.length_toList]
 simp only [Nat.add_sub_cancel, Nat.sub_self, Nat.not_lt_zero, if_false, Nat.sub_zero]
 refine wpAny_bind (wpAny_newList ?_ (by rw [List.length_take]; omega))
 refine wpAny_pure ?_
 have e3 : List.take acc.toList.length acc.toList = items.toList.drop i := by rw [List.take_length, ea]
 have e4 : List.drop acc.toList.length acc.toList = [] := List.drop_length
 have e5 : List.take i (List.drop 0 items.toList) = items.toList.take i := by rw [List.drop_zero]
 rw [e3, e4, e5, List.append_nil]
 have k1 : ∀ b o, s.heap.get? b = some o → h2.get? b = some o := fun b o g => by
  have nb : b ≠ s.heap.objs.size := Nat.ne_of_lt (Heap.lt_size g)
  exact keep b o nb (sb1.extBut b o nb (Heap.get?_push_of_some _ g))
 exact hQ h2 tk k1
end
/-- (a, .., *rest) = a tuple -/
def XF (K : PySem.W.Frag) (i : Nat) (t : TGs) : TG := fun v σ H Q => ∃ a xs, v = .ref a ∧ SqT K H a xs ∧ i ≤ xs.length ∧ ∀ p, H p = none → t (xs.take i ++ [.ref p]) σ (upd H p (.lst (xs.drop i))) Q
section
variable {X : Cx} {pos : Pos}
theorem O6 : ∀ {xs : List V} {us : List Value} (i : Nat), Vals xs us → Vals (xs.take i) (us.take i)
 | _, _, 0, _ => .nil
 | _, _, _ + 1, .nil => .nil
 | _, _, i + 1, .cons r t => .cons r (O6 i t)
theorem O7 : ∀ {xs : List V} {us : List Value} (i : Nat), Vals xs us → Vals (xs.drop i) (us.drop i)
 | _, _, 0, r => r
 | _, _, _ + 1, .nil => .nil
 | _, _, i + 1, .cons _ t => O7 i t
theorem XG {es : List Expr} {k : Nat} {t : TGs} {i : Nat} (hc : X.calm = true) (h : PGs X es t) (hn : (assignEach es X.env).length = i + 1 := by rfl) (hst : (assignEach es X.env).findIdx? (·.1) = some i := by rfl) : PG X (.Tuple es k pos) (XF X.K i t) := by
 refine ⟨fun pins s σ H v u Q I r hw => ?_⟩
 obtain ⟨a, xs, rfl, hq, hl, hw⟩ := hw
 cases r
 obtain ⟨its, rv, ht, hz⟩ := I.tuple hq
 have len := rv.length
 rw [assign_Tuple]
 unfold unpack
 rw [hn, hst]
 refine wpAny_bind (wpAny_standAt (wpAny_bind (wpAny_holding (XA (I.ok.hd hc) ht (by rw [List.size_toArray]; omega) (by rw [List.size_toArray]; omega) fun h' tk keep => ?_))))
 have I1 := I.kept (h' := h') (t' := s.toks) keep
 have I2 := I1.lnew (t' := tk) (O7 i rv) (by rw [List.length_drop]; omega)
 refine h.run pins _ σ _ _ _ Q I2 ?_ (hw _ I1.fresh)
 exact (O6 i rv).append (.cons rfl .nil)
/-- the a8Q target, the last one -/
theorem XH {e : Expr} {p : Pos} {t : TG} (h : PG X e t) (hs : (assignEach [.Starred e p] X.env).map (·.2) = [assign e X.env] := by rfl) : PGs X [.Starred e p] (gCons t gNil) := by
 refine ⟨fun pins s σ H vs us Q I r hw => ?_⟩
 obtain ⟨v, rest, rfl, hw⟩ := hw
 cases r with
 | cons r rr =>
  rw [hs]
  refine assignInOrder_cons (thn (h.run pins s σ H v _ _ I r hw) fun _ s1 ⟨σ1, H1, I1, e1, q1⟩ => ?_)
  subst e1
  cases rr
  exact assignInOrder_nil ⟨σ1, H1, I1, q1⟩
end
def uL (i : Nat) (g : lG) : GX := fun d ρ S => match fH d with
 | some ds => if i ≤ ds.length then g (ds.take i ++ [.lst (ds.drop i)]) ρ S else none
 | none => none
section
variable {X : Cx} {pos p : Pos} {e : Expr} {es : List Expr} {g : GX} {gs : lG} {i k : Nat}
theorem XI (h : qQ X e g) (hs : (assignEach [.Starred e p] X.env).map (·.2) = [assign e X.env] := by rfl) : vM X [.Starred e p] (bf g cV) := DE (XH h hs) fun vs σ H Q h => by
 obtain ⟨cf, oa, P, β, ρ, S, ds, L, r, h⟩ := h
 cases r with
 | nil => exact h.elim
 | @cons v vs d ds r1 r2 =>
  refine ⟨v, vs, rfl, cf, oa, P, β, ρ, S, d, L, r1, ?_⟩
  unfold bf at h
  simp only at h
  cases eg : g d ρ S with
  | none => rw [eg] at h; exact h.elim
  | some q =>
   rw [eg] at h
   intro σ' H' β' bB P' L' f'
   cases r2 with
   | nil => exact ⟨rfl, h σ' H' β' bB P' L' f'⟩
   | cons _ _ => exact (show False from h).elim
theorem XJ (hc : X.calm = true) (h : vM X es gs) (hn : (assignEach es X.env).length = i + 1 := by rfl) (hst : (assignEach es X.env).findIdx? (·.1) = some i := by rfl) : qQ X (.Tuple es k pos) (uL i gs) :=
 Av (XG hc h hn hst) fun v σ H Q h => by
  obtain ⟨cf, oa, P, β, ρ, S, d, L, r, h⟩ := h
  unfold uL at h
  cases ev : fH d with
  | none => rw [ev] at h; exact h.elim
  | some ds =>
   rw [ev] at h
   simp only at h
   obtain ⟨a, xs, rfl, q1, q2⟩ := r.fH ev
   by_cases hl : i ≤ ds.length
   ·rw [if_pos hl] at h
    refine ⟨a, xs, rfl, q1, by rw [q2.length]; exact hl, fun p hp => ?_⟩
    have x : Same H (upd H p (.lst (xs.drop i))) := fU hp
    have rest : RV (au X) (upd H p (.lst (xs.drop i))) P β (.ref p) (.lst (ds.drop i)) := .lst (L.pN hp) (L.pO hp) (.inl upd_same) ((q2.drop i).mono (Ext.same x))
    refine ⟨cf, oa, P, β, ρ, S, _, L.same x, ((q2.take i).mono (Ext.same x)).append (.cons rest .nil), ?_⟩
    cases eg : gs (ds.take i ++ [.lst (ds.drop i)]) ρ S with
    | none => rw [eg] at h; exact h.elim
    | some q =>
     rw [eg] at h
     intro σ' H' β' bB P' L' f'
     exact h σ' H' β' bB P' L' ((Fx.of (Ext.same x)).trans f')
   ·rw [if_neg hl] at h; exact h.elim
end
/-- what XM an iterator walks -/
inductive Src where
 | lst (a : Addr) | tup (a : Addr) | txt (z : Str)
def Src.val : Src → V
 | .lst a => .ref a | .tup a => .ref a | .txt z => .str z
def Src.ext : Src → List Addr
 | .lst a => [a] | .tup a => [a] | .txt _ => []
def Src.at (K : PySem.W.Frag) (c : Src) (H : Hp) (xs : List V) : Prop := match c with
 | .lst a => SqL K H a xs
 | .tup a => SqT K H a xs
 | .txt z => xs = z.cps.toList.map fun c => V.str ⟨#[c]⟩
def Src.it (c : Src) (h : Heap) (it : Addr) (i : Nat) : Prop := match c with
 | .lst a => h.IsListIter it a i
 | .tup a => h.IsTupleIter it a i
 | .txt z => ∃ t, h.IsStrIter it (strIterType z) z t i
section
variable {X : Cx} {pins : List (Addr × Obj)} {σ : L2.St} {H : Hp} {s : Shared} {it : Addr} {i : Nat} {xs ys : List V} {c : Src}
theorem El : ∀ {vs : List V} {us : List Value} {i : Nat} {u : Value}, Vals vs us → us[i]? = some u → ∃ v, vs[i]? = some v ∧ RelV v u
 | _, _, 0, _, .cons h _, e => by simp at e; subst e; exact ⟨_, rfl, h⟩
 | _, _, i + 1, _, .cons _ t, e => by
  obtain ⟨v, h1, h2⟩ := El (i := i) t (by simpa using e)
  exact ⟨v, by simpa using h1, h2⟩
 | _, _, _, _, .nil, e => by simp at e
theorem Src.obj {h : Heap} (st : c.it h it i) : ∃ o, h.get? it = some o ∧ ∀ v, o.data ≠ .cell v := by
 cases c with
 | lst a => obtain ⟨o, e, _, d⟩ := st; exact ⟨o, e, fun v q => by rw [d] at q; cases q⟩
 | tup a => obtain ⟨o, e, _, d⟩ := st; exact ⟨o, e, fun v q => by rw [d] at q; cases q⟩
 | txt z => obtain ⟨t, o, e, _, d⟩ := st; exact ⟨o, e, fun v q => by rw [d] at q; cases q⟩
theorem Src.carry {h h' : Heap} (st : c.it h it i) (k : ∀ o, h.get? it = some o → h'.get? it = some o) : c.it h' it i := by
 cases c with
 | lst a => exact st.at k
 | tup a => exact st.at k
 | txt z => obtain ⟨t, o, e, q⟩ := st; exact ⟨t, o, k o e, q⟩
theorem Src.inj (I : Inv X pins σ H s) (h1 : c.at X.K H xs) (h2 : c.at X.K H ys) : xs = ys := by
 cases c with
 | lst a => exact I.list_inj h1 h2
 | tup a => exact I.tuple_inj h1 h2
 | txt z => exact h1.trans h2.symm
theorem Src.low (I : Inv X pins σ H s) (h : c.at X.K H xs) : ∀ b ∈ c.ext, b < s.heap.objs.size := by
 cases c with
 | lst a =>
  obtain ⟨its, r, p, _⟩ := I.list h
  intro b hb
  rw [List.mem_singleton.mp hb]; exact p.lt
 | tup a =>
  obtain ⟨its, r, p, _⟩ := I.tuple h
  obtain ⟨o, ho, _⟩ := id p
  intro b hb
  rw [List.mem_singleton.mp hb]; exact Heap.lt_size ho
 | txt z => exact fun b hb => nomatch hb
theorem Src.draws (I : Inv X pins σ H s) (hh : X.A.handled = none) (q : c.at X.K H xs) (st : c.it s.heap it i) (hn : it ∉ c.ext) :
  ∃ PP St, Draws X.prog X.w X.A.in1 it (it :: c.ext) xs.length PP St ∧ St i s.heap ∧ (∀ j y, PP j y → ∃ x, xs[j]? = some x ∧ RelV x y) ∧ (∀ j h, St j h → c.it h it j) := by
 cases c with
 | lst a =>
  obtain ⟨its, r, p, _⟩ := I.list q
  have D := Draws.list (prog := X.prog) (w := X.w) (A := X.A.in1) hh it a (fun e => hn (by rw [← e]; exact List.mem_singleton.mpr rfl)) its.toArray
  rw [List.size_toArray, ← r.length] at D
  refine ⟨_, _, D, ⟨st, p.isList⟩, fun j y e => ?_, fun j h e => e.1⟩
  have e' : its[j]? = some y := by simpa using e
  obtain ⟨x, hx, rx⟩ := El r e'
  exact ⟨x, hx, rx⟩
 | tup a =>
  obtain ⟨its, r, p, _⟩ := I.tuple q
  have D := Draws.tuple (prog := X.prog) (w := X.w) (A := X.A.in1) hh it a (fun e => hn (by rw [← e]; exact List.mem_singleton.mpr rfl)) its.toArray
  rw [List.size_toArray, ← r.length] at D
  refine ⟨_, _, D, ⟨st, p⟩, fun j y e => ?_, fun j h e => e.1⟩
  have e' : its[j]? = some y := by simpa using e
  obtain ⟨x, hx, rx⟩ := El r e'
  exact ⟨x, hx, rx⟩
 | txt z =>
  obtain ⟨t, st⟩ := st
  have q' : xs = z.cps.toList.map fun c => V.str ⟨#[c]⟩ := q
  subst q'
  have D := Draws.text (prog := X.prog) (w := X.w) (A := X.A.in1) hh it z t
  rw [show z.cps.size = (z.cps.toList.map fun c => V.str ⟨#[c]⟩).length by rw [List.length_map, Array.length_toList]] at D
  refine ⟨_, _, D, st, fun j y e => ?_, fun j h e => ⟨t, e⟩⟩
  obtain ⟨c, u, e1, rfl⟩ := e
  refine ⟨.str ⟨#[c]⟩, ?_, u, rfl⟩
  rw [List.getElem?_map, Array.getElem?_toList, e1]; rfl
theorem Src.begins (I : Inv X pins σ H s) (q : c.at X.K H xs) {u : Value} (r : RelV c.val u) : ∃ o HH, Begins u o HH ∧ HH s.heap ∧ ∀ h b, h.get? b = some o → c.it h b 0 := by
 cases c with
 | lst a =>
  obtain ⟨its, r', p, _⟩ := I.list q
  cases r
  exact ⟨_, _, begins_list a its.toArray, p.isList, fun h b e => ⟨_, e, rfl, rfl⟩⟩
 | tup a =>
  obtain ⟨its, r', p, _⟩ := I.tuple q
  cases r
  exact ⟨_, _, begins_tuple a its.toArray, p, fun h b e => ⟨_, e, rfl, rfl⟩⟩
 | txt z =>
  obtain ⟨t, rfl⟩ := r
  exact ⟨_, _, begins_text z t, trivial, fun h b e => ⟨t, _, e, rfl, rfl⟩⟩
end
/-- zip over two sources -/
def Em (K : PySem.W.Frag) (c d : Src) : It :=
 ⟨fun i H => ∃ (xs ys : List V) (x y : V), c.at K H xs ∧ d.at K H ys ∧ xs[i]? = some x ∧ ys[i]? = some y,
  fun i H v H' => ∃ T x y, v = .ref T ∧ H T = none ∧ H' = upd H T (.tup [x, y]) ∧ (∀ xs, c.at K H xs → xs[i]? = some x) ∧ ∀ ys, d.at K H ys → ys[i]? = some y,
  fun i H => ∃ xs ys : List V, c.at K H xs ∧ d.at K H ys ∧ min xs.length ys.length = i⟩
theorem XN {P : Program} {w : World} {K : PySem.W.Frag} {elts : List Expr} {kk : Nat} {tpos : Pos} {c d : Src} {z TI TO i1 i2 : Addr} (D : ZipSep2 z TI TO i1 i2 (i1 :: c.ext) (i2 :: d.ext)) (n1 : i1 ∉ c.ext) (n2 : i2 ∉ d.ext) :
  Turn P w K (.Tuple elts kk tpos) (Em K c d) [z, TI, TO, i1, i2] z (fun i h => IsZip h z TI TO .none ∧ IsTupOf2 h TI (.ref i1) (.ref i2) ∧ (∃ x y, IsTupOf2 h TO x y) ∧ c.it h i1 i ∧ d.it h i2 i) where
 mem := by simp
 obj := fun i h st b hb => by
  obtain ⟨hz, hTI, ⟨x, y, hTO⟩, h1, h2⟩ := st
  have e' : b = z ∨ b = TI ∨ b = TO ∨ b = i1 ∨ b = i2 := by simpa using hb
  rcases e' with q | q | q | q | q
  ·rw [q]; exact ⟨_, hz, fun v q => nomatch q⟩
  ·rw [q]; exact ⟨_, hTI, fun v q => nomatch q⟩
  ·rw [q]; exact ⟨_, hTO, fun v q => nomatch q⟩
  ·rw [q]; exact Src.obj h1
  ·rw [q]; exact Src.obj h2
 keep := fun i h h' st k => by
  obtain ⟨hz, hTI, ⟨x, y, hTO⟩, h1, h2⟩ := st
  exact ⟨k z (by simp) _ hz, k TI (by simp) _ hTI, ⟨x, y, k TO (by simp) _ hTO⟩, Src.carry h1 fun o q => k i1 (by simp) o q, Src.carry h2 fun o q => k i2 (by simp) o q⟩
 item := by
  intro X hP hw hK hc i pins s σ H E I hf st hg
  subst hP hw hK
  obtain ⟨hz, hTI, ⟨x0, y0, hTO⟩, h1, h2⟩ := st
  obtain ⟨xs, ys, x, y, hqx, hqy, hx, hy⟩ := hg
  have hh : X.A.handled = none := I.ok.hd hc
  obtain ⟨P1, S1, D1, st1, p1, k1⟩ := Src.draws I hh hqx h1 n1
  obtain ⟨P2, S2, D2, st2, p2, k2⟩ := Src.draws I hh hqy h2 n2
  have hzl : z < s.heap.objs.size := Heap.lt_size hz
  refine wpAny_pyNext_zipD2_item D D1 D2 hz hTI hTO st1 st2 (List.getElem?_eq_some_iff.mp hx).1 (List.getElem?_eq_some_iff.mp hy).1 fun u u2 h' tk y1 y2 z' TO' s1 s2 hT hsz hk => ?_
  obtain ⟨x', ex, ru⟩ := p1 i u y1
  obtain ⟨y', ey, ru2⟩ := p2 i u2 y2
  rw [hx] at ex; cases ex
  rw [hy] at ey; cases ey
  refine ⟨_, rfl, wpAny_letOwnedTupleGo_zip (s := { s with heap := h', toks := tk }) z' fun h'' z'' sb => ?_⟩
  have hT2 : h''.get? s.heap.objs.size = some { cls := .type "tuple", data := .seq #[u, u2] } := (sb.2 _ (Nat.ne_of_gt hzl)).trans hT
  have new : ObjOk X.prog X.w (upd H s.heap.objs.size (.tup [x, y])) h'' s.heap.objs.size (.tup [x, y]) :=
   ⟨by show 2 ≤ sizeLine; decide, [u, u2], .cons ru (.cons ru2 .nil), ⟨_, hT2, rfl, _, rfl⟩⟩
  have I1 : Inv X pins σ (upd H s.heap.objs.size (.tup [x, y])) { s with heap := h'', toks := tk } :=
   I.turnedNew (t' := tk) (ch := [z, TI, TO, i1, i2]) (fun c o hb q => (sb.2 c (fun q' => hb (by simp [q']))).trans (hk c o (fun q' => hb (by simp [q'])) (fun q' => hb (by simp [q'])) (fun q' => hb (by simp [q'])) (fun q' => hb (by simp [q'])) q)) hf (Nat.le_refl _) new
  refine ⟨.ref s.heap.objs.size, _, I1, rfl, ⟨_, x, y, rfl, I.hok.fresh (Nat.le_refl _), rfl, fun l hl => by rw [Src.inj I hl hqx]; exact hx, fun l hl => by rw [Src.inj I hl hqy]; exact hy⟩, ⟨z'', ?_, ⟨u, u2, ?_⟩, ?_, ?_⟩, fun b hcm => ?_⟩
  ·exact (sb.2 _ D.TIz).trans (hk _ _ D.TIz D.TITO D.TIi1 D.TIi2 hTI)
  ·exact (sb.2 _ D.TOz).trans TO'
  ·exact Src.carry (k1 _ _ s1) fun o q => (sb.2 _ (Ne.symm D.zi1)).trans q
  ·exact Src.carry (k2 _ _ s2) fun o q => (sb.2 _ (Ne.symm D.zi2)).trans q
  ·have hlt : b < s.heap.objs.size := by
    have e' : b = z ∨ b = TI ∨ b = TO ∨ b = i1 ∨ b = i2 := by simpa using hcm
    rcases e' with q | q | q | q | q
    ·rw [q]; exact hzl
    ·rw [q]; exact Heap.lt_size hTI
    ·rw [q]; exact Heap.lt_size hTO
    ·rw [q]; obtain ⟨_, e1, _⟩ := Src.obj h1; exact Heap.lt_size e1
    ·rw [q]; obtain ⟨_, e2, _⟩ := Src.obj h2; exact Heap.lt_size e2
   rw [upd_ne (Nat.ne_of_lt hlt)]
   exact (hf b hcm).1
 done := by
  intro X hP hw hK hc i pins s σ H E I hf st hg
  subst hP hw hK
  obtain ⟨hz, hTI, ⟨x0, y0, hTO⟩, h1, h2⟩ := st
  obtain ⟨xs, ys, hqx, hqy, hend⟩ := hg
  have hh : X.A.handled = none := I.ok.hd hc
  obtain ⟨P1, S1, D1, st1, p1, k1⟩ := Src.draws I hh hqx h1 n1
  obtain ⟨P2, S2, D2, st2, p2, k2⟩ := Src.draws I hh hqy h2 n2
  exact wpAny_pyNext_zipD2_end D D1 D2 hz hTI hTO st1 st2 (by omega) (by omega) (by omega) fun h' tk hk => ⟨rfl, I.turnedL (t' := tk) (ch := [z, TI, TO, i1, i2]) (fun c o hb q =>
   hk c o (fun q' => hb (by simp [q'])) (fun q' => hb (by simp [q'])) (fun q' => hb (by simp [q'])) (fun q' => hb (by simp [q'])) q) hf⟩
 self := fun A i s Q E st h => wpAny_pyIter_zip st.1 h
/-- enumerate over a source -/
def En (K : PySem.W.Frag) (c : Src) : It :=
 ⟨fun i H => ∃ (xs : List V) (x : V), c.at K H xs ∧ xs[i]? = some x,
  fun i H v H' => ∃ T x, v = .ref T ∧ H T = none ∧ H' = upd H T (.tup [.int (i : Int), x]) ∧ ∀ xs, c.at K H xs → xs[i]? = some x,
  fun i H => ∃ xs : List V, c.at K H xs ∧ xs.length = i⟩
theorem XO {P : Program} {w : World} {K : PySem.W.Frag} {elts : List Expr} {kk : Nat} {tpos : Pos} {c : Src} {e it : Addr} (hne : e ≠ it) (hef : e ∉ it :: c.ext) (n1 : it ∉ c.ext) :
  Turn P w K (.Tuple elts kk tpos) (En K c) [e, it] e (fun i h => (∃ old, IsEnum h e it ((i : Nat) : Int) old) ∧ c.it h it i) where
 mem := by simp
 obj := fun i h st b hb => by
  obtain ⟨⟨old, he⟩, h1⟩ := st
  have e' : b = e ∨ b = it := by simpa using hb
  rcases e' with q | q
  ·rw [q]; exact ⟨_, he, fun v q => nomatch q⟩
  ·rw [q]; exact Src.obj h1
 keep := fun i h h' st k => by
  obtain ⟨⟨old, he⟩, h1⟩ := st
  exact ⟨⟨old, k e (by simp) _ he⟩, Src.carry h1 fun o q => k it (by simp) o q⟩
 item := by
  intro X hP hw hK hc i pins s σ H E I hf st hg
  subst hP hw hK
  obtain ⟨⟨old, he⟩, h1⟩ := st
  obtain ⟨xs, x, hqx, hx⟩ := hg
  have hh : X.A.handled = none := I.ok.hd hc
  obtain ⟨P1, S1, D1, st1, p1, k1⟩ := Src.draws I hh hqx h1 n1
  have hel : e < s.heap.objs.size := Heap.lt_size he
  refine wpAny_pyNext_enum_itemC D1 he st1 (List.getElem?_eq_some_iff.mp hx).1 hne hef fun u h' tk y1 ho s1 hT hsz hk => ?_
  obtain ⟨x', ex, ru⟩ := p1 i u y1
  rw [hx] at ex; cases ex
  refine ⟨_, rfl, wpAny_letOwnedTupleGo_enum (prog := X.prog) (w := X.w) (s := { s with heap := h', toks := tk + 1 }) ho fun h'' XQ sb => ?_⟩
  have hT2 : h''.get? s.heap.objs.size = some { cls := .type "tuple", data := .seq #[.int (i : Int) tk, u] } := (sb.2 _ (Nat.ne_of_gt hel)).trans hT
  have new : ObjOk X.prog X.w (upd H s.heap.objs.size (.tup [.int (i : Int), x])) h'' s.heap.objs.size (.tup [.int (i : Int), x]) :=
   ⟨by show 2 ≤ sizeLine; decide, [.int (i : Int) tk, u], .cons ⟨_, rfl⟩ (.cons ru .nil), ⟨_, hT2, rfl, _, rfl⟩⟩
  have I1 : Inv X pins σ (upd H s.heap.objs.size (.tup [.int (i : Int), x])) { s with heap := h'', toks := tk + 1 } :=
   I.turnedNew (t' := tk + 1) (ch := [e, it]) (fun c o hb q => (sb.2 c (fun q' => hb (by simp [q']))).trans (hk c o (fun q' => hb (by simp [q'])) (fun q' => hb (by simp [q'])) q)) hf (Nat.le_refl _) new
  refine ⟨.ref s.heap.objs.size, _, I1, rfl, ⟨_, x, rfl, I.hok.fresh (Nat.le_refl _), rfl, fun l hl => by rw [Src.inj I hl hqx]; exact hx⟩, ⟨⟨u, ?_⟩, ?_⟩, fun b hcm => ?_⟩
  ·have e1 : ((i + 1 : Nat) : Int) = (i : Int) + 1 := by omega
   rw [e1]; exact XQ
  ·exact Src.carry (k1 _ _ s1) fun o q => (sb.2 _ (Ne.symm hne)).trans q
  ·have hlt : b < s.heap.objs.size := by
    have e' : b = e ∨ b = it := by simpa using hcm
    rcases e' with q | q
    ·rw [q]; exact hel
    ·rw [q]; obtain ⟨_, e1, _⟩ := Src.obj h1; exact Heap.lt_size e1
   rw [upd_ne (Nat.ne_of_lt hlt)]
   exact (hf b hcm).1
 done := by
  intro X hP hw hK hc i pins s σ H E I hf st hg
  subst hP hw hK
  obtain ⟨⟨old, he⟩, h1⟩ := st
  obtain ⟨xs, hqx, hend⟩ := hg
  have hh : X.A.handled = none := I.ok.hd hc
  obtain ⟨P1, S1, D1, st1, p1, k1⟩ := Src.draws I hh hqx h1 n1
  subst hend
  exact wpAny_pyNext_enum_endD D1 he st1 fun h' hx => ⟨rfl, I.turnedL (t' := s.toks) (ch := [e, it]) (fun b o hb y => hx b o (fun e' => hb (by simp [e'])) y) hf⟩
 self := fun A i s Q E st h => by
  obtain ⟨⟨old, he⟩, _⟩ := st
  exact wpAny_pyIter_enum he h
def XR (K : PySem.W.Frag) (ta : TA) : TI := fun σ H R => ta σ H fun vs H1 => ∃ c d xs ys, vs = [Src.val c, Src.val d] ∧ Src.at K c H1 xs ∧ Src.at K d H1 ys ∧ R (Em K c d) H1
def XS (K : PySem.W.Frag) (ta : TA) : TI := fun σ H R => ta σ H fun vs H1 => ∃ c xs, vs = [Src.val c] ∧ Src.at K c H1 xs ∧ R (En K c) H1
theorem AZ {N : Nat} {l : List Addr} (h : ∀ b ∈ l, b < N) {j : Nat} : (N + j : Nat) ∉ l := fun m => absurd (h _ m) (by
 intro z
 have z' : (N + j : Nat) < N := z
 omega)
theorem XU {X : Cx} {e e2 : Expr} {ta : TA} {p pos tpos : Pos} {elts : List Expr} {kk : Nat} (hg : Gl X "zip") (hm : X.mg "zip" = none) (ha : PA X [e, e2] ta)
  (hs : starEach [e, e2] X.env = (false, eval e X.env) :: starEach [e2] X.env := by rfl) (hpl : (backTo pos (starEach [e2] X.env)).any (·.1) = false := by rfl) :
  PI X (.Tuple elts kk tpos) (.Call (.Name "zip" p) [e, e2] [] pos) (XR X.K ta) := by
 refine ⟨fun pins s σ H R I h => ?_⟩
 refine Call_ (ld_blt I hg hm PyProof.Rows.boot_zip (PyProof.Rows.callWith_type1 (thn (ha.run pos pins s σ H _ I h) fun us s1 ⟨vs, H1, I1, r1, q1⟩ => ?_) hs hpl))
 obtain ⟨c, d, xs, ys, ex, hqx, hqy, q⟩ := q1
 subst ex
 cases r1 with
 | @cons _ u _ us r rr =>
  cases rr with
  | @cons _ u2 _ us2 r' rr =>
   cases rr
   obtain ⟨o1, XW, B1, b1, k1⟩ := Src.begins I1 hqx r
   obtain ⟨o2, HH2, B2, b2, k2⟩ := Src.begins I1 hqy r'
   have yL := Src.low I1 hqx
   have O8 := Src.low I1 hqy
   refine zip_begins2 B1 B2 b1 b2 fun h' hz hTI hTO h1 h2 hsz hk => wpAny_pyIter_zip hz ?_
   have I2 : Inv X pins σ H1 { s1 with heap := h' } := I1.kept (t' := s1.toks) hk
   refine ⟨s1.heap.objs.size + 4, [s1.heap.objs.size + 4, s1.heap.objs.size + 2, s1.heap.objs.size + 3, s1.heap.objs.size, s1.heap.objs.size + 1], _, _, H1, rfl, I2, XN (c := c) (d := d) (zip_sep2 yL O8) (AZ yL (j := 0)) (AZ O8 (j := 1)), ⟨hz, hTI, ⟨_, _, hTO⟩, k1 _ _ h1, k2 _ _ h2⟩, fun c hcm => ?_, q⟩
   have e' : c = s1.heap.objs.size + 4 ∨ c = s1.heap.objs.size + 2 ∨ c = s1.heap.objs.size + 3 ∨ c = s1.heap.objs.size ∨ c = s1.heap.objs.size + 1 := by simpa using hcm
   have hle : s1.heap.objs.size ≤ c := by
    rcases e' with z | z | z | z | z
    ·rw [z]; exact Nat.le_add_right _ _
    ·rw [z]; exact Nat.le_add_right _ _
    ·rw [z]; exact Nat.le_add_right _ _
    ·rw [z]; exact Nat.le_refl _
    ·rw [z]; exact Nat.le_add_right _ _
   exact I1.fpOk hle (I1.hok.fresh hle)
theorem XX {v : Value} {o : Obj} {H : Heap → Prop} (B : Begins v o H) :
  Meets (Builtin.«enumerate.__new__» ⟨[.type "enumerate", v], []⟩) (fun _ R s => H s.heap ∧
   R (.ok (.ret (.ref (s.heap.push o).objs.size))) { s with heap := (s.heap.push o).push { cls := .type "enumerate", data := .fields #[.none, .bool false, .ref s.heap.objs.size, rawInt 0, .none, .none] } }) :=
 .of_wp fun prog w A R s h => by
  obtain ⟨hp, g, d, tk, os⟩ := s; obtain ⟨h1, h⟩ := h
  have hsub := sub_enumerate
  have q1 : ∀ {A' : Around} {E : Value → Shared → Prop} {Q : Value → Shared → Prop}, Q (.ref hp.objs.size) ⟨hp.push o, g, d, tk, os⟩ → wpAny (model prog w) A' (pyIter v) Q E ⟨hp, g, d, tk, os⟩ :=
   fun q => B.iter prog w _ _ ⟨hp, g, d, tk, os⟩ _ h1 q
  wp_walk using q1
  refine wpAny_stack_any fun st => wpAny_pure ?_
  split
  ·rename_i c _ _ _ _ _
   cases (c == Value.type "enumerate")
   ·wp_walk using q1
    exact ⟨_, rfl, h⟩
   ·wp_walk using q1
    exact ⟨_, rfl, h⟩
  ·wp_walk using q1
   exact ⟨_, rfl, h⟩
theorem XY {prog : Program} {w : World} {A : Around} {E : Value → Shared → Prop} {s : Shared} {v : Value} {o : Obj} {H : Heap → Prop} {Q : Value → Shared → Prop} (B : Begins v o H) (h1 : H s.heap)
  (h : ∀ h', IsEnum h' (s.heap.objs.size + 1) s.heap.objs.size 0 .none → h'.get? s.heap.objs.size = some o → h'.objs.size = s.heap.objs.size + 2 →
   (∀ b o, s.heap.get? b = some o → h'.get? b = some o) → Q (.ref (s.heap.objs.size + 1)) { s with heap := h' }) :
  wpAny (model prog w) A (call (.type "enumerate") [v]) Q E s := by
 refine callType_new F.called_enumerate (by decide) (F.typeCall_enumerate_1 _) (F.newCall_enumerate_1 _) (fun obj => F.args_object_init_2 obj _) F.entry_enumerate_new
  (XX B) ⟨h1, ?_⟩
 have hz : (s.heap.push o).objs.size = s.heap.objs.size + 1 := Heap.size_push ..
 show _ ∧ _
 rw [hz]
 have he : IsEnum ((s.heap.push o).push { cls := .type "enumerate", data := .fields #[.none, .bool false, .ref s.heap.objs.size, rawInt 0, .none, .none] }) (s.heap.objs.size + 1) s.heap.objs.size 0 .none := by
  have := Heap.get?_push_size (s.heap.push o) (o := { cls := .type "enumerate", data := .fields #[.none, .bool false, .ref s.heap.objs.size, rawInt 0, .none, .none] }) rfl
  rw [hz] at this
  exact this
 exact ⟨⟨_, he, rfl⟩, h _ he (Heap.get?_push_of_some _ (Heap.get?_push_size _ B.free)) (by rw [Heap.size_push, hz]) fun b o x => Heap.get?_push_of_some _ (Heap.get?_push_of_some _ x)⟩
theorem XZ {X : Cx} {e : Expr} {ta : TA} {p pos tpos : Pos} {elts : List Expr} {kk : Nat} (hg : Gl X "enumerate") (hm : X.mg "enumerate" = none) (ha : PA X [e] ta) (hs : starEach [e] X.env = [(false, eval e X.env)] := by rfl) :
  PI X (.Tuple elts kk tpos) (.Call (.Name "enumerate" p) [e] [] pos) (XS X.K ta) := by
 refine ⟨fun pins s σ H R I h => ?_⟩
 refine Call_ (ld_blt I hg hm PyProof.Rows.boot_enumerate (PyProof.Rows.callWith_type1 (thn (ha.run pos pins s σ H _ I h) fun us s1 ⟨vs, H1, I1, r1, q1⟩ => ?_) (by rw [hs]; rfl) (by rfl)))
 obtain ⟨c, xs, ex, hqx, q⟩ := q1
 subst ex
 cases r1 with
 | @cons _ u _ us r rr =>
  cases rr
  obtain ⟨o1, XW, B1, b1, k1⟩ := Src.begins I1 hqx r
  have yL := Src.low I1 hqx
  refine XY B1 b1 fun h' he hit hsz hk => wpAny_pyIter_enum he ?_
  have I2 : Inv X pins σ H1 { s1 with heap := h' } := I1.kept (t' := s1.toks) hk
  refine ⟨s1.heap.objs.size + 1, [s1.heap.objs.size + 1, s1.heap.objs.size], _, _, H1, rfl, I2, XO (c := c) (Nat.succ_ne_self _) (fun m => ?_) (AZ yL (j := 0)), ⟨⟨.none, he⟩, k1 _ _ hit⟩, fun b hb => ?_, q⟩
  ·rcases List.mem_cons.mp m with e | e
   ·exact absurd e (Nat.succ_ne_self _)
   ·exact AZ yL (j := 1) e
  have e' : b = s1.heap.objs.size + 1 ∨ b = s1.heap.objs.size := by simpa using hb
  have hle : s1.heap.objs.size ≤ b := by
   rcases e' with z | z
   ·rw [z]; exact Nat.le_add_right _ _
   ·rw [z]; exact Nat.le_refl _
  exact I1.fpOk hle (I1.hok.fresh hle)
/-- what zip and enumerate walk here: no dict -/
def B4 (d : D) : Option (List D) := match d with
 | .lst xs => some xs
 | .tup xs => some xs
 | .str x => some (iD x)
 | _ => none
def uM (ds : List D) : Option (List D) := match ds with
 | [x, y] => match B4 x, B4 y with
  | some xs, some ys => some ((xs.zip ys).map fun p => .tup [p.1, p.2])
  | _, _ => none
 | _ => none
def uN (xs : List D) : List D := xs.zipIdx.map fun p => .tup [.int (p.2 : Int), p.1]
def yM (ds : List D) : Option (List D) := match ds with
 | [x] => match B4 x with
  | some xs => some (uN xs)
  | none => none
 | _ => none
section
variable {C : Ct} {H : Hp} {P : Addr → Prop} {β : List Addr}
theorem Eo {v : V} {d : D} {ds : List D} (r : RV C H P β v d) (e : B4 d = some ds) : ∃ c : Src, v = c.val ∧ ∀ H2 P2 β2, Fx H P β H2 P2 β2 → ∃ xs, Src.at C.K c H2 xs ∧ aD C H2 P2 β2 xs ds := by
 cases r with
 | @lst a xs _ hp hb hr rs =>
  cases e
  exact ⟨.lst a, rfl, fun H2 P2 β2 f => ⟨xs, .inl (f.con _ _ hp hb hr).1, rs.fx f⟩⟩
 | @fL a xs _ k rs =>
  cases e
  exact ⟨.lst a, rfl, fun H2 P2 β2 f => ⟨xs, .inr k, rs.fx f⟩⟩
 | @tup a xs _ hr rs =>
  cases e
  exact ⟨.tup a, rfl, fun H2 P2 β2 f => ⟨xs, .inl (f.tups _ _ hr), rs.fx f⟩⟩
 | @fK a xs _ k rs =>
  cases e
  exact ⟨.tup a, rfl, fun H2 P2 β2 f => ⟨xs, .inr k, rs.fx f⟩⟩
 | str z =>
  cases e
  refine ⟨.txt z, rfl, fun H2 P2 β2 f => ⟨_, rfl, ?_⟩⟩
  unfold iD
  induction z.cps.toList with
  | nil => exact .nil
  | cons c l ih => exact .cons (.str _) ih
 | non => cases e
 | bl b => cases e
 | int i => cases e
 | ty n => cases e
 | dct _ _ _ _ => cases e
 | ref _ => cases e
 | fn _ _ => cases e
theorem Y0 {v v2 : V} {d d2 : D} {ds Ep : List D} {c c2 : Src} (h1 : ∀ H2 P2 β2, Fx H P β H2 P2 β2 → ∃ xs, Src.at C.K c H2 xs ∧ aD C H2 P2 β2 xs ds) (h2 : ∀ H2 P2 β2, Fx H P β H2 P2 β2 → ∃ xs, Src.at C.K c2 H2 xs ∧ aD C H2 P2 β2 xs Ep) :
  lH C (Em C.K c c2) ((ds.zip Ep).map fun p => .tup [p.1, p.2]) H P β := by
 intro i H2 P2 β2 f n
 obtain ⟨xs, a1, r1⟩ := h1 H2 P2 β2 f
 obtain ⟨ys, a2, r2⟩ := h2 H2 P2 β2 f
 refine ⟨fun d hd => ?_, fun hl => ⟨xs, ys, a1, a2, ?_⟩⟩
 ·rw [List.getElem?_map] at hd
  cases ez : (ds.zip Ep)[i]? with
  | none => rw [ez] at hd; cases hd
  | some p =>
   rw [ez] at hd
   cases hd
   obtain ⟨e1, e2⟩ := List.getElem?_zip_eq_some.mp ez
   obtain ⟨x, hx, rx⟩ := r1.get e1
   obtain ⟨y, hy, ry⟩ := r2.get e2
   refine ⟨⟨xs, ys, x, y, a1, a2, hx, hy⟩, fun u H3 yy => ?_⟩
   obtain ⟨T, x', y', rfl, hT, rfl, q1, q2⟩ := yy
   have e3 := q1 xs a1
   have e4 := q2 ys a2
   rw [hx] at e3; cases e3
   rw [hy] at e4; cases e4
   have sm : Same H2 (upd H2 T (.tup [x, y])) := fU hT
   exact ⟨sm, .tup (.inl upd_same) (.cons (rx.mono (Ext.same sm)) (.cons (ry.mono (Ext.same sm)) .nil))⟩
 ·rw [r1.length, r2.length, ← hl]
  simp
theorem Y4 {ds : List D} {c : Src} (h1 : ∀ H2 P2 β2, Fx H P β H2 P2 β2 → ∃ xs, Src.at C.K c H2 xs ∧ aD C H2 P2 β2 xs ds) : lH C (En C.K c) (uN ds) H P β := by
 intro i H2 P2 β2 f n
 obtain ⟨xs, a1, r1⟩ := h1 H2 P2 β2 f
 unfold uN
 refine ⟨fun d hd => ?_, fun hl => ⟨xs, a1, ?_⟩⟩
 ·rw [List.getElem?_map, List.getElem?_zipIdx] at hd
  cases ez : ds[i]? with
  | none => rw [ez] at hd; cases hd
  | some p =>
   rw [ez] at hd
   simp only [Option.map_some, Nat.zero_add, Option.some.injEq] at hd
   subst hd
   obtain ⟨x, hx, rx⟩ := r1.get ez
   refine ⟨⟨xs, x, a1, hx⟩, fun u H3 yy => ?_⟩
   obtain ⟨T, x', rfl, hT, rfl, q1⟩ := yy
   have e3 := q1 xs a1
   rw [hx] at e3; cases e3
   have sm : Same H2 (upd H2 T (.tup [.int (i : Int), x])) := fU hT
   exact ⟨sm, .tup (.inl upd_same) (.cons (.int _) (.cons (rx.mono (Ext.same sm)) .nil))⟩
 ·rw [r1.length, ← hl]
  simp
end
section
variable {X : Cx} {W : WX} {b : Bool}
theorem Y5 {e e2 : Expr} {d8 : AX} {p pos tpos : Pos} {elts : List Expr} {kk : Nat} (hm : X.mg "zip" = none) (ha : jg (au X) W b X [e, e2] d8) (hg : Gl X "zip" := by rfl)
  (hs : starEach [e, e2] X.env = (false, eval e X.env) :: starEach [e2] X.env := by rfl) (hpl : (backTo pos (starEach [e2] X.env)).any (·.1) = false := by rfl) :
  pU (au X) W b X (.Tuple elts kk tpos) (.Call (.Name "zip" p) [e, e2] [] pos) (jc uM d8) :=
 yc (XU hg hm ha hs hpl) fun σ H Q h => by
  obtain ⟨cf, oa, P, β, ρ, S, L, h⟩ := h
  refine ⟨cf, oa, P, β, ρ, S, L, ?_⟩
  unfold jc at h
  cases ea : d8 ρ S with
  | stuck => rw [ea] at h; exact h
  | exc e S1 => rw [ea] at h; exact h
  | ok ds S1 =>
   rw [ea] at h
   simp only [R.bind] at h
   intro vs H1 β1 t L1 rs
   cases ez : uM ds with
   | none => rw [ez] at h; exact h.elim
   | some zs =>
    rw [ez] at h
    unfold uM at ez
    split at ez
    ·rename_i x y
     obtain ⟨v, v2, rfl, r1, r2⟩ := uz rs
     split at ez
     ·rename_i xs ys e1 e2
      cases ez
      obtain ⟨c, rfl, k1⟩ := Eo r1 e1
      obtain ⟨c2, rfl, k2⟩ := Eo r2 e2
      obtain ⟨us, a1, _⟩ := k1 H1 P β1 Fx.refl
      obtain ⟨us2, a2, _⟩ := k2 H1 P β1 Fx.refl
      exact ⟨c, c2, us, us2, rfl, a1, a2, h _ H1 β1 t L1 (Y0 (v := c.val) (v2 := c2.val) (d := x) (d2 := y) k1 k2)⟩
     ·cases ez
    ·cases ez
theorem Y6 {e : Expr} {d8 : AX} {p pos tpos : Pos} {elts : List Expr} {kk : Nat} (hm : X.mg "enumerate" = none) (ha : jg (au X) W b X [e] d8) (hg : Gl X "enumerate" := by rfl)
  (hs : starEach [e] X.env = [(false, eval e X.env)] := by rfl) :
  pU (au X) W b X (.Tuple elts kk tpos) (.Call (.Name "enumerate" p) [e] [] pos) (jc yM d8) :=
 yc (XZ hg hm ha hs) fun σ H Q h => by
  obtain ⟨cf, oa, P, β, ρ, S, L, h⟩ := h
  refine ⟨cf, oa, P, β, ρ, S, L, ?_⟩
  unfold jc at h
  cases ea : d8 ρ S with
  | stuck => rw [ea] at h; exact h
  | exc e S1 => rw [ea] at h; exact h
  | ok ds S1 =>
   rw [ea] at h
   simp only [R.bind] at h
   intro vs H1 β1 t L1 rs
   cases ez : yM ds with
   | none => rw [ez] at h; exact h.elim
   | some zs =>
    rw [ez] at h
    unfold yM at ez
    split at ez
    ·rename_i x
     obtain ⟨v, rfl, r1⟩ := iT rs
     split at ez
     ·rename_i xs e1
      cases ez
      obtain ⟨c, rfl, k1⟩ := Eo r1 e1
      obtain ⟨us, a1, _⟩ := k1 H1 P β1 Fx.refl
      exact ⟨c, us, rfl, a1, h _ H1 β1 t L1 (Y4 k1)⟩
     ·cases ez
    ·cases ez
end
def B5 (vs : List Nat) (ρ : aN) : Prop := ∀ i ∈ vs, ∀ d, ρ[i]? ≠ some (Sl.ow d)
def BT (X : Cx) (vs : List Nat) (g : GX) (t : TG) : Prop :=
 ∀ (cf : Cf) (oa : Nat → Option Addr) (P : Addr → Prop) (σ : L2.St) (H : Hp) (β : List Addr) (ρ : aN) (S : Store) (v : V) (d : D) (p : aN × Store) (Q : L2.St → Hp → Prop), LR (au X) cf oa P σ H β ρ S → B5 vs ρ → RV (au X) H P β v d → g d ρ S = some p →
  (∀ σ', L2.wipe σ' vs = L2.wipe σ vs → LR (au X) cf oa P σ' H β p.1 p.2 → B5 vs p.1 → p.2 = S → Q σ' H) → t v σ H Q
def B6 (X : Cx) (vs : List Nat) (g : lG) (t : TGs) : Prop :=
 ∀ (cf : Cf) (oa : Nat → Option Addr) (P : Addr → Prop) (σ : L2.St) (H : Hp) (β : List Addr) (ρ : aN) (S : Store) (us : List V) (ds : List D) (p : aN × Store) (Q : L2.St → Hp → Prop), LR (au X) cf oa P σ H β ρ S → B5 vs ρ → aD (au X) H P β us ds → g ds ρ S = some p →
  (∀ σ', L2.wipe σ' vs = L2.wipe σ vs → LR (au X) cf oa P σ' H β p.1 p.2 → B5 vs p.1 → p.2 = S → Q σ' H) → t us σ H Q
section
variable {X : Cx} {vs : List Nat} {g : GX} {t : TG} {gs : lG} {ts : TGs}
theorem vW {i : Nat} (m : i ∈ vs) : BT X vs (aM i) (gName i) := by
 intro cf oa P σ H β ρ S v d p Q L no r e k
 cases e
 have L2 := L.set (i := i) r
 refine k _ (Az m) ?_ (fun j hj x h => ?_) rfl
 ·refine ⟨L2.len, L2.p, L2.sub, L2.p0, L2.ext, L.own, L.inj, L2.st, L2.slot, fun j x h => ?_, L2.xslot⟩
  obtain ⟨a, q0, q1, q2⟩ := L2.bY j x h
  refine ⟨a, ?_, q1, q2⟩
  by_cases ej : j = i
  ·rw [if_pos ej] at q0; cases q0
  ·rw [if_neg ej] at q0; exact q0
 ·by_cases ej : i = j
  ·subst ej
   rw [List.getElem?_set_self'] at h
   cases e : ρ[i]? with
   | none => rw [e] at h; cases h
   | some y => rw [e] at h; cases h
  ·rw [List.getElem?_set_ne ej] at h
   exact no j hj x h
theorem Es : B6 X vs cV gNil := by
 intro cf oa P σ H β ρ S us ds p Q L no r e k
 cases r with
 | nil => cases e; exact ⟨rfl, k σ rfl L no rfl⟩
 | cons _ _ => cases e
theorem vX (h1 : BT X vs g t) (h2 : B6 X vs gs ts) : B6 X vs (bf g gs) (gCons t ts) := by
 intro cf oa P σ H β ρ S us ds p Q L no r e k
 cases r with
 | nil => cases e
 | @cons v us d ds r rs =>
  refine ⟨v, us, rfl, ?_⟩
  simp only [bf] at e
  cases eg : g d ρ S with
  | none => rw [eg] at e; cases e
  | some q =>
   rw [eg] at e
   simp only [Option.bind] at e
   refine h1 cf oa P σ H β ρ S v d q _ L no r eg fun σ1 w1 L1 n1 s1 => ?_
   exact h2 cf oa P σ1 H β q.1 q.2 us ds p Q L1 n1 rs e fun σ2 w2 L2 n2 s2 => k σ2 (w2.trans w1) L2 n2 (s2.trans s1)
theorem Et {n : Nat} (h : B6 X vs gs ts) (hgs : ∀ ds ρ S, ds.length ≠ n → gs ds ρ S = none) : BT X vs (dW gs) (gTup X.K n ts) := by
 intro cf oa P σ H β ρ S v d p Q L no r e k
 unfold dW at e
 cases ev : fH d with
 | none => rw [ev] at e; cases e
 | some ds =>
  rw [ev] at e
  simp only [Option.bind] at e
  obtain ⟨a, xs, rfl, q1, q2⟩ := r.fH ev
  refine ⟨a, xs, rfl, q1, ?_, h cf oa P σ H β ρ S xs ds p Q L no q2 e k⟩
  by_cases hl : ds.length = n
  ·rw [q2.length]; exact hl
  ·rw [hgs ds ρ S hl] at e; cases e
theorem Eu (h : BT X vs g t) : BG X vs g t := by
 intro cf oa P σ H β ρ S v d p Q L r e k
 refine h cf oa P _ H β _ S v d p Q L (fun i hi x e => ?_) r e fun σ' w' L' _ s' => k σ' (by rw [w', DK fun _ h => h]) L' s'
 by_cases hl : i < ρ.length
 ·rw [yd hi hl] at e; cases e
 ·rw [List.getElem?_eq_none (by rw [uf]; omega)] at e; cases e
end
end Mi
namespace Mi
open StX (vals_split run_bnd env0_laid un_laid cxUp)
open PySem PySem.Spec PyProof.Rows L2
section
variable {X : Cx} {W : WX}
def Ew : SX := fun _ _ => .stuck
theorem Y7 (l : Addr) (items : Array Value) (n : Nat) (dd : Option Addr) (sl : Array (Option Value)) (x : Int) (u : Tok) (hc0 : ¬(!Builtin.List.listFitsIndex x) = true) (hc1 : ¬items.size * x.toNat > (2 ^ 63 - 1) / 8) (hc2 : ¬Builtin.List.listTooLong (items.size * x.toNat) = true) :
  Meets (Builtin.«list.__mul__» ⟨[.ref l, .int x u], []⟩) (fun _ R s => s.heap.get? l = some { cls := .type "list", dict := dd, data := .seq items n, slots := sl } ∧ R (.ok (.ret (Value.ref s.heap.objs.size))) { s with heap := s.heap.push { cls := Value.type "list", data := .seq (List.foldl (fun x1 x2 => x1 ++ x2) #[] (List.replicate (if items.isEmpty = true then 0 else x.toNat) items)) } }) :=
 .of_wp fun prog w A R s h => by
  obtain ⟨hp, g, d, tk, os⟩ := s; obtain ⟨hl, h⟩ := h
  have hsz := AutoListH.joined_fits hc2
  wp_walk; refine wpAny_ite_false (decide_eq_false (Nat.not_lt.mpr hsz)) ?_; wp_walk; exact ⟨_, rfl, h⟩
theorem Y8 (a : Int) (t : Tok) (l : Addr) (items : Array Value) (n : Nat) (dd : Option Addr) (sl : Array (Option Value)) :
  Meets (Builtin.«int.__rmul__» ⟨[.int a t, .ref l], []⟩) (fun _ R s => s.heap.get? l = some { cls := .type "list", dict := dd, data := .seq items n, slots := sl } ∧ R (.ok (.ret Value.notImplemented)) s) :=
 .of_wp fun prog w A R s h => by obtain ⟨hp, g, d, tk, os⟩ := s; obtain ⟨hl, h⟩ := h; wp_walk; exact ⟨_, rfl, h⟩
def Ey (K : PySem.W.Frag) : R2 := fun x y H Q => ∃ l k xs, x = .ref l ∧ y = .int k ∧ SqL K H l xs ∧ -(2 ^ 63) ≤ k ∧ k < 2 ^ 63 ∧ xs.length * k.toNat ≤ sizeLine ∧
 ∀ p, H p = none → Q (.ref p) (upd H p (.lst (List.replicate k.toNat xs).flatten))
theorem O9 : OpR X (binaryOp .Mult) (Ey X.K) := by
 intro pins s σ H x y v u Q I rx ry h
 obtain ⟨l, k, xs, rfl, rfl, hH, h1, h2, hz, q⟩ := h
 cases rx
 obtain ⟨t, rfl⟩ := ry
 obtain ⟨its, r, ⟨o1, n, e, c1, _, d1⟩, hl0⟩ := I.list hH
 obtain ⟨cl1, AF, Wx, AG⟩ := o1
 simp only at c1 d1
 subst c1 d1
 have hl := r.length
 have hlen : its.toArray.size * k.toNat ≤ sizeLine := by rw [List.size_toArray, ← hl]; exact hz
 have hcap : ¬ its.toArray.size * k.toNat > (2 ^ 63 - 1) / 8 := by
  have : (sizeLine : Nat) ≤ (2 ^ 63 - 1) / 8 := by decide
  omega
 have hfit : ¬ (!Builtin.List.listFitsIndex k) = true := by
  rw [fitsIndex_both h1 h2]
  exact Bool.false_ne_true
 have hlong : ¬ Builtin.List.listTooLong (its.toArray.size * k.toNat) = true := by
  rw [notLongL hlen]
  exact Bool.false_ne_true
 have hnew : List.foldl (fun x1 x2 => x1 ++ x2) #[] (List.replicate (if its.toArray.isEmpty = true then 0 else k.toNat) its.toArray) = (List.replicate k.toNat its).flatten.toArray := by
  have f0 : ∀ m : Nat, List.foldl (fun x1 x2 => x1 ++ x2) #[] (List.replicate m its.toArray) = (List.replicate m its).flatten.toArray := fun m => by
   have := foldl_rep its m []
   rw [List.nil_append] at this
   exact this
  rw [f0]
  cases its with
  | nil => simp
  | cons a r' => rw [if_neg (by simp)]
 refine wpAny_binaryOp_repeat_ref (T := "list") (U := "int") (by decide) ⟨_, e, rfl⟩ (fun s' => typeIs_int s' k t) noFill_list_mul F.fills_int_mul F.slot_int_rmul repeat_list F.slot_int_index.lookup
  (call_meets F.slot_int_rmul (typeIs_int s k t) F.entry_int_rmul (F.args_int_rmul_2 _ _) (Y8 k t l its.toArray n AF AG)
   ⟨e, rfl, ⟨_, e, rfl⟩, call_meets F.slot_list_mul ⟨_, e, rfl⟩ F.entry_list_mul (F.args_list_mul_2 _ _) (Y7 l its.toArray n AF AG k t hfit hcap hlong) ⟨e, ?_⟩⟩)
 rw [hnew]
 exact ⟨.ref _, _, I.lnew (t' := s.toks) (r.rep k.toNat) (by rw [PyProof.Rows.lm_len_rep_flat, Nat.mul_comm]; exact hz), rfl, q _ I.fresh⟩
theorem Oa {C : Ct} {H : Hp} {P : Addr → Prop} {β : List Addr} {vs : List V} {ds : List D} (r : aD C H P β vs ds) : ∀ n : Nat, aD C H P β (List.replicate n vs).flatten (List.replicate n ds).flatten
 | 0 => .nil
 | n + 1 => by
  rw [List.replicate_succ, List.replicate_succ, List.flatten_cons, List.flatten_cons]
  exact r.append (Oa r n)
def lN (S : Store) (x y : D) : Option D := match y with
 | .int k => match bL S x with
  | some xs => if -(2 ^ 63) ≤ k ∧ k < 2 ^ 63 ∧ xs.length * k.toNat ≤ sizeLine then some (.lst (List.replicate k.toNat xs).flatten) else none
  | none => none
 | _ => none
theorem Y9 : Di X (Ey X.K) lN := by
 intro Z H β S x y dx dy dz Q A rx ry e k
 unfold lN at e
 split at e
 ·rename_i n
  split at e
  ·rename_i xs e1
   split at e
   ·rename_i hz
    cases e
    obtain ⟨a, us, rfl, q1, r1⟩ := rx.bL A.st e1
    cases ry
    refine ⟨a, n, us, rfl, rfl, q1, hz.1, hz.2.1, by rw [r1.length]; exact hz.2.2, fun p hp => ?_⟩
    exact k p _ (fU hp) hp (DN A hp (Oa r1 n.toNat))
   ·cases e
  ·cases e
 ·cases e
theorem Yb (S : Store) (x y d : D) (h : lN S x y = some d) : vH d := by
 unfold lN at h
 split at h
 ·split at h
  ·split at h
   ·cases h; exact ⟨_, rfl⟩
   ·cases h
  ·cases h
 ·cases h
theorem Oc : cP X (Ey X.K) lN := cP.Mz Y9 Yb
end
structure FnV (P : Program) (w : World) (K : PySem.W.Frag) (mg : Str → Option Value) (base : Heap) (k : Nat) (f : Addr) (sp : Sp) : Prop where
 run : ∀ (A : Around) (outer : List Env) (s : Shared) (H : Hp) (us : List Value) (vs : List V) (Q : VK) (E : XK), A.guards = some [] → Room k A → Env0 P w K mg base A outer s H →
  Vals vs us → sp vs H Q E → codeAny (model P w) A (.call (.ref f) ⟨us, []⟩) (CR (L2.CX P w) outer P w H s Q E) s
section
variable {f : FX}
def Od (f : FX) (a : AX) : EX := fun ρ S => (a ρ S).bind fun us S1 => f us S1
end
end Mi
namespace Mi
open PySem PySem.Spec PyProof.Rows L2
section
variable {X : Cx} {W : WX} {pos : Pos}
def yN (i j : Nat) (a : AX) : SX := fun ρ S => (a ρ S).st ρ fun ds S' => match ds with
 | [x, y] => .nx ((ρ.set i (.sh x)).set j (.sh y)) S'
 | _ => .stuck
def Oe (i j l : Nat) (a : AX) : SX := fun ρ S => (a ρ S).st ρ fun ds S' => match ds with
 | [x, y, z] => .nx (((ρ.set i (.sh x)).set j (.sh y)).set l (.sh z)) S'
 | _ => .stuck
theorem Yc {i j : Nat} {x y : Str} {e1 e2 : Expr} {ma : AX} {px py pt : Pos} {kt k2 pt2} (hc : X.calm = true) (hN : X.N.Nodup) (hi : X.N[i]? = some x) (hj : X.N[j]? = some y) (hij : i ≠ j)
  (hx : X.env.scope.names.lookup x = some .local) (hy : X.env.scope.names.lookup y = some .local) (ha : jg (au X) W false X [e1, e2] ma)
  (hw : swappedStores [.Tuple [.Name x px, .Name y py] kt pt] (.Tuple [e1, e2] k2 pt2) X.env = pure (some [x, y]) := by rfl)
  (hs : swapsWithSole [.Tuple [.Name x px, .Name y py] kt pt] (.Tuple [e1, e2] k2 pt2) pos.line X.env = pure false := by rfl) :
  gj (au X) W X (.Assign [.Tuple [.Name x px, .Name y py] kt pt] (.Tuple [e1, e2] k2 pt2) pos) (yN i j ma) := jh (ps_par hc hN hi hj hij hx hy ha hw hs) fun D σ H h => by
 obtain ⟨cf, oa, P, β, ρ, S, L, h⟩ := h
 refine ⟨cf, oa, P, β, ρ, S, L, ?_⟩
 unfold yN at h
 cases ea : ma ρ S with
 | stuck => rw [ea] at h; exact h
 | exc e S1 => rw [ea] at h; exact jC h
 | ok ds S1 =>
  rw [ea] at h
  simp only [R.st] at h
  intro vs H1 β1 t L1 rs
  split at h
  ·obtain ⟨v, w, rfl, r1, r2⟩ := uz rs
   exact ⟨v, w, rfl, h _ H1 β1 _ P ((L1.set r1).set r2) (Fx.of t.ext)⟩
  ·exact h.elim
end
def R.al {α : Type} (r : R α) (Q : α → Store → Prop) (E : bT → Store → Prop) : Prop := match r with
 | .ok a S => Q a S
 | .exc e S => E e S
 | .stuck => False
structure Po where
 T : D → Store → Prop
 E : bT → Store → Prop
 B : aN → Store → Prop
 C : aN → Store → Prop
 X : bT → aN → Store → Prop
def SR.al (r : SR) (N : aN → Store → Prop) (p : Po) : Prop := match r with
 | .nx ρ S => N ρ S
 | .rt d S => p.T d S
 | .bk ρ S => p.B ρ S
 | .ct ρ S => p.C ρ S
 | .exc e ρ S => p.E e S ∧ p.X e ρ S
 | .stuck => False
section
variable {α β : Type} {Q : D → Store → Prop} {QL : List D → Store → Prop} {QB : Bool → Store → Prop} {E : bT → Store → Prop} {ρ ρ1 : aN} {S S1 S2 S3 : Store} {d x y : D} {ds us ws : List D} {m a b c : EX} {r k : AX} {i j l : Nat} {idx : List Nat} {f : FX} {t u : BX} {s s1 s2 : SX} {g : GX} {N : aN → Store → Prop} {p : Po}
theorem uO {a : α} {Q : α → Store → Prop} : (R.ok a S).al Q E ↔ Q a S := Iff.rfl
theorem B7 {Q : α → Store → Prop} : (R.stuck).al Q E ↔ False := Iff.rfl
theorem eE {r : R α} {f : α → Store → R β} {Q : β → Store → Prop} : (r.bind f).al Q E ↔ r.al (fun a S => (f a S).al Q E) E := by cases r <;> rfl
theorem jd {o : Option α} {Q : α → Store → Prop} : (R.opt o S).al Q E ↔ ∃ z, o = some z ∧ Q z S := by
 cases o with
 | none => exact ⟨fun h => h.elim, fun ⟨_, h, _⟩ => nomatch h⟩
 | some z => exact ⟨fun h => ⟨z, rfl, h⟩, fun ⟨w, h, q⟩ => by cases h; exact q⟩
theorem jR {r : R α} {κ : α → Store → SR} : (r.st ρ κ).al N p ↔ r.al (fun a S => (κ a S).al N p) (fun e S => p.E e S ∧ p.X e ρ S) := by cases r <;> rfl
theorem Og : (mC d ρ S).al Q E ↔ Q d S := Iff.rfl
theorem w_var : (ak i ρ S).al Q E ↔ match ρ[i]? with
  | some (Sl.sh d) => Q d S
  | _ => False := by
 unfold ak
 rcases ρ[i]? with _ | (_ | d | d) <;> exact Iff.rfl
theorem Oh {f : Store → D → D → Option D} : (aC f a b ρ S).al Q E ↔ (a ρ S).al (fun x S1 => (b ρ S1).al (fun y S2 => ∃ z, f S2 x y = some z ∧ Q z S2) E) E := by
 unfold aC; simp only [eE, jd]
theorem Ez {f : Store → D → Option D} : (dU f a ρ S).al Q E ↔ (a ρ S).al (fun x S1 => ∃ z, f S1 x = some z ∧ Q z S1) E := by
 unfold dU; simp only [eE, jd]
theorem Oi : (ao ρ S).al QL E ↔ QL [] S := Iff.rfl
theorem Oj : (aj a r ρ S).al QL E ↔ (a ρ S).al (fun x S1 => (r ρ S1).al (fun xs S2 => QL (x :: xs) S2) E) E := by
 unfold aj; simp only [eE, uO]
theorem Ol {f : Store → List D → Option D} : (aO f r ρ S).al Q E ↔ (r ρ S).al (fun xs S1 => ∃ z, f S1 xs = some z ∧ Q z S1) E := by
 unfold aO; simp only [eE, jd]
theorem Om : (aR r ρ S).al Q E ↔ (r ρ S).al (fun xs S1 => xs.length ≤ sizeLine ∧ Q (.tup xs) S1) E := by
 unfold aR dTup
 simp only [eE, jd]
 refine iff_of_eq (congrArg (fun z => R.al (r ρ S) z E) (funext fun xs => funext fun S1 => propext ?_))
 by_cases h : xs.length ≤ sizeLine <;> simp [h]
theorem Oo : (cH r ρ S).al Q E ↔ (r ρ S).al (fun xs S1 => xs.length ≤ sizeLine ∧ Q (.lst xs) S1) E := by
 unfold cH Ai
 simp only [eE, jd]
 refine iff_of_eq (congrArg (fun z => R.al (r ρ S) z E) (funext fun xs => funext fun S1 => propext ?_))
 by_cases h : xs.length ≤ sizeLine <;> simp [h]
theorem Oq : (AU ρ S).al Q E ↔ Q (.dct []) S := Iff.rfl
theorem Ot : (pP m ρ S).al Q E ↔ (m ρ S).al (fun x S1 => ∃ so, tQ x = some so ∧ Q (.ref S1.length) (S1 ++ [so])) E := by
 unfold pP
 simp only [eE]
 refine iff_of_eq (congrArg (fun z => R.al (m ρ S) z E) (funext fun x => funext fun S1 => propext ?_))
 cases h : tQ x with
 | none => simp [B7]
 | some so => simp [uO]
theorem w_call : (aK f idx r k ρ S).al Q E ↔ (r ρ S).al (fun us S1 => (k ρ S1).al (fun ws S2 => (f (pick idx us ws) S2).al Q E) E) E := by
 unfold aK; simp only [eE]
theorem Ou : (Od f r ρ S).al Q E ↔ (r ρ S).al (fun us S1 => (f us S1).al Q E) E := by
 unfold Od; simp only [eE]
theorem Yd {f : Store → D → List D → Option D} : (yD f m r ρ S).al Q E ↔ (m ρ S).al (fun x S1 => isStr x = true ∧ (r ρ S1).al (fun ys S2 => ∃ z, f S2 x ys = some z ∧ Q z S2) E) E := by
 unfold yD
 simp only [eE]
 refine iff_of_eq (congrArg (fun z => R.al (m ρ S) z E) (funext fun x => funext fun S1 => propext ?_))
 by_cases h : isStr x = true
 ·simp [h, eE, jd]
 ·simp [h, B7]
theorem Ov : (gH t a b ρ S).al Q E ↔ (t ρ S).al (fun q S1 => if q = true then (a ρ S1).al Q E else (b ρ S1).al Q E) E := by
 unfold gH
 simp only [eE]
 refine iff_of_eq (congrArg (fun z => R.al (t ρ S) z E) (funext fun q => funext fun S1 => ?_))
 cases q <;> rfl
theorem w_and : (gJ a b ρ S).al Q E ↔ (a ρ S).al (fun x S1 => ∃ q, jO S1 x = some q ∧ if q = true then (b ρ S1).al Q E else Q x S1) E := by
 unfold gJ
 simp only [eE, jd]
 refine iff_of_eq (congrArg (fun z => R.al (a ρ S) z E) (funext fun x => funext fun S1 => propext (exists_congr fun q => and_congr_right fun _ => ?_)))
 cases q <;> exact Iff.rfl
theorem w_or : (MF a b ρ S).al Q E ↔ (a ρ S).al (fun x S1 => ∃ q, jO S1 x = some q ∧ if q = true then Q x S1 else (b ρ S1).al Q E) E := by
 unfold MF
 simp only [eE, jd]
 refine iff_of_eq (congrArg (fun z => R.al (a ρ S) z E) (funext fun x => funext fun S1 => propext (exists_congr fun q => and_congr_right fun _ => ?_)))
 cases q <;> exact Iff.rfl
theorem w_not : (ou a ρ S).al Q E ↔ (a ρ S).al (fun x S1 => ∃ q, jO S1 x = some q ∧ Q (.bl (!q)) S1) E := by
 unfold ou
 simp only [eE, jd, uO]
theorem Ow {f h : Store → D → D → Option D} : (oA f h a b c ρ S).al Q E ↔ (a ρ S).al (fun x S1 => (b ρ S1).al (fun y S2 => ∃ q, (f S2 x y).bind ji = some q ∧ if q = true then (c ρ S2).al (fun z S4 => ∃ w, h S4 y z = some w ∧ Q w S4) E else Q (.bl false) S2) E) E := by
 unfold oA
 simp only [eE, jd]
 refine iff_of_eq (congrArg (fun z => R.al (a ρ S) z E) (funext fun x => funext fun S1 => congrArg (fun z => R.al (b ρ S1) z E) (funext fun y => funext fun S2 => propext (exists_congr fun q => and_congr_right fun _ => ?_))))
 cases q
 ·exact Iff.rfl
 ·simp only [if_true, eE, jd]
theorem Ox : (aQ m ρ S).al QB E ↔ (m ρ S).al (fun x S1 => ∃ q, ji x = some q ∧ QB q S1) E := by
 unfold aQ; simp only [eE, jd]
theorem Oz : (gD m ρ S).al QB E ↔ (m ρ S).al (fun x S1 => ∃ q, jO S1 x = some q ∧ QB q S1) E := by
 unfold gD; simp only [eE, jd]
theorem OA : (gG t ρ S).al QB E ↔ (t ρ S).al (fun q S1 => QB (!q) S1) E := by
 unfold gG; simp only [eE, uO]
theorem w_band : (mQ t u ρ S).al QB E ↔ (t ρ S).al (fun q S1 => if q = true then (u ρ S1).al QB E else QB false S1) E := by
 unfold mQ
 simp only [eE]
 refine iff_of_eq (congrArg (fun z => R.al (t ρ S) z E) (funext fun q => funext fun S1 => ?_))
 cases q <;> rfl
theorem w_bor : (iw t u ρ S).al QB E ↔ (t ρ S).al (fun q S1 => if q = true then QB true S1 else (u ρ S1).al QB E) E := by
 unfold iw
 simp only [eE]
 refine iff_of_eq (congrArg (fun z => R.al (t ρ S) z E) (funext fun q => funext fun S1 => ?_))
 cases q <;> rfl
theorem OB : (eX ρ S).al QB E ↔ QB true S := Iff.rfl
theorem OC : (dX m ρ S).al QL E ↔ (m ρ S).al (fun x S1 => ∃ z, itemsOf x = some z ∧ QL z S1) E := by
 unfold dX; simp only [eE, jd]
theorem OD {f : List D → Option (List D)} : (jc f r ρ S).al QL E ↔ (r ρ S).al (fun xs S1 => ∃ z, f xs = some z ∧ QL z S1) E := by
 unfold jc; simp only [eE, jd]
theorem OG {it : AX} {vs : List Nat} {e : EX} : (cZ it vs g t e ρ S).al Q E ↔ (it ρ S).al (fun ds S1 => (bG vs g t e (bO ρ vs) ds [] S1).al (fun ys S2 => Q (.lst ys) S2) E) E := by
 unfold cZ; simp only [eE, uO]
theorem OH {QO : Option Int → Store → Prop} : (Xg ρ S).al QO E ↔ QO none S := Iff.rfl
theorem OI {QO : Option Int → Store → Prop} : (NT m ρ S).al QO E ↔ (m ρ S).al (fun x S1 => ∃ i, x = .int i ∧ QO (some i) S1) E := by
 unfold NT
 simp only [eE]
 refine iff_of_eq (congrArg (fun z => R.al (m ρ S) z E) (funext fun x => funext fun S1 => propext ?_))
 cases x <;> first
  | exact ⟨fun h => ⟨_, rfl, h⟩, fun ⟨_, e, h⟩ => by cases e; exact h⟩
  | exact ⟨fun h => h.elim, fun ⟨_, e, _⟩ => nomatch e⟩
theorem OJ {lo hi : OX} : (NV m lo hi ρ S).al Q E ↔ (m ρ S).al (fun x S1 => (lo ρ S1).al (fun l S2 => (hi ρ S2).al (fun h S3 => ∃ z, NU S3 x l h = some z ∧ Q z S3) E) E) E := by
 unfold NV; simp only [eE, jd]
theorem OL : (tR m ρ S).al Q E ↔ (m (lent ρ) S).al (fun x S1 => flat x = true ∧ Q x S1) (fun _ _ => False) := by
 unfold tR
 cases m (lent ρ) S with
 | ok x S1 => by_cases h : flat x = true <;> simp [h, R.al]
 | exc e S1 => exact Iff.rfl
 | stuck => exact Iff.rfl
theorem OM : (xR t ρ S).al QB E ↔ (t (lent ρ) S).al QB (fun _ _ => False) := by
 unfold xR
 cases t (lent ρ) S <;> exact Iff.rfl
theorem EA : (aH s1 s2 ρ S).al N p ↔ (s1 ρ S).al (fun ρ1 S1 => (s2 ρ1 S1).al N p) p := by
 unfold aH
 cases s1 ρ S <;> exact Iff.rfl
theorem OO : (cY ρ S).al N p ↔ N ρ S := Iff.rfl
theorem OQ : (bU i m ρ S).al N p ↔ (m ρ S).al (fun d S1 => N (ρ.set i (.sh d)) S1) (fun e S => p.E e S ∧ p.X e ρ S) := by unfold bU; exact jR
theorem OS : (qP i m ρ S).al N p ↔ (m ρ S).al (fun d S1 => N (ρ.set i (.ow d)) S1) (fun e S => p.E e S ∧ p.X e ρ S) := by unfold qP; exact jR
theorem OT : (aW m ρ S).al N p ↔ (m ρ S).al p.T (fun e S => p.E e S ∧ p.X e ρ S) := by unfold aW; exact jR
theorem OU : (W9 ρ S).al N p ↔ p.T .non S := Iff.rfl
theorem OV : (xZ i ρ S).al N p ↔ match ρ[i]? with
  | some (Sl.sh d) => p.T d S
  | some (Sl.ow d) => p.T d S
  | _ => False := by
 unfold xZ
 rcases ρ[i]? with _ | (_ | d | d) <;> exact Iff.rfl
theorem OW : (iy m ρ S).al N p ↔ (m ρ S).al (fun _ S1 => N ρ S1) (fun e S => p.E e S ∧ p.X e ρ S) := by unfold iy; exact jR
theorem EB : (cJ t s1 s2 ρ S).al N p ↔ (t ρ S).al (fun q S1 => if q = true then (s1 ρ S1).al N p else (s2 ρ S1).al N p) (fun e S => p.E e S ∧ p.X e ρ S) := by
 unfold cJ
 rw [jR]
 refine iff_of_eq (congrArg (fun z => R.al (t ρ S) z _) (funext fun q => funext fun S1 => ?_))
 cases q <;> rfl
theorem OY : (fV m g ρ S).al N p ↔ (m ρ S).al (fun d S1 => ∃ q, g d ρ S1 = some q ∧ N q.1 q.2) (fun e S => p.E e S ∧ p.X e ρ S) := by
 unfold fV
 rw [jR]
 refine iff_of_eq (congrArg (fun z => R.al (m ρ S) z _) (funext fun d => funext fun S1 => propext ?_))
 cases h : g d ρ S1 with
 | none => exact ⟨fun z => z.elim, fun ⟨_, e, _⟩ => nomatch e⟩
 | some q => exact ⟨fun z => ⟨q, rfl, z⟩, fun ⟨_, e, z⟩ => by cases e; exact z⟩
theorem OZ {it : AX} : (j6 it g s ρ S).al N p ↔ (it ρ S).al (fun ds S1 => (forL g s ds ρ S1).al N p) (fun e S => p.E e S ∧ p.X e ρ S) := by unfold j6; exact jR
theorem Pa : (W7 ρ S).al N p ↔ p.B ρ S := Iff.rfl
theorem Pb : (W8 ρ S).al N p ↔ p.C ρ S := Iff.rfl
theorem Pg : (yN i j r ρ S).al N p ↔ (r ρ S).al (fun ds S1 => match ds with
  | [x, y] => N ((ρ.set i (.sh x)).set j (.sh y)) S1
  | _ => False) (fun e S => p.E e S ∧ p.X e ρ S) := by
 unfold yN
 rw [jR]
 refine iff_of_eq (congrArg (fun z => R.al (r ρ S) z _) (funext fun ds => funext fun S1 => propext ?_))
 rcases ds with _ | ⟨x, _ | ⟨y, _ | ⟨z, ds⟩⟩⟩ <;> exact Iff.rfl
theorem Ph : (Oe i j l r ρ S).al N p ↔ (r ρ S).al (fun ds S1 => match ds with
  | [x, y, z] => N (((ρ.set i (.sh x)).set j (.sh y)).set l (.sh z)) S1
  | _ => False) (fun e S => p.E e S ∧ p.X e ρ S) := by
 unfold Oe
 rw [jR]
 refine iff_of_eq (congrArg (fun z => R.al (r ρ S) z _) (funext fun ds => funext fun S1 => propext ?_))
 rcases ds with _ | ⟨x, _ | ⟨y, _ | ⟨z, _ | ⟨w, ds⟩⟩⟩⟩ <;> exact Iff.rfl
theorem Pj {n : Nat} : (aX n s ds S).al Q E ↔ (s (ds.map Sl.sh ++ List.replicate (n - ds.length) Sl.un) S).al (fun _ S1 => Q .non S1) ⟨Q, E, fun _ _ => False, fun _ _ => False, fun _ _ _ => True⟩ := by
 unfold aX
 cases s (ds.map Sl.sh ++ List.replicate (n - ds.length) Sl.un) S <;> first
  | exact Iff.rfl
  | exact ⟨fun h => ⟨h, trivial⟩, fun h => h.1⟩
theorem Ye {r : SR} {N N' : aN → Store → Prop} {p p' : Po} (h : r.al N p) (hn : ∀ ρ S, N ρ S → N' ρ S) (ht : ∀ d S, p.T d S → p'.T d S) (he : ∀ e ρ S, p.E e S ∧ p.X e ρ S → p'.E e S ∧ p'.X e ρ S) (hb : ∀ ρ S, p.B ρ S → p'.B ρ S) (hc : ∀ ρ S, p.C ρ S → p'.C ρ S) : r.al N' p' := by
 cases r with
 | nx ρ S => exact hn _ _ h
 | rt d S => exact ht _ _ h
 | bk ρ S => exact hb _ _ h
 | ct ρ S => exact hc _ _ h
 | exc e ρ S => exact he _ _ _ h
 | stuck => exact h
theorem Bb (M : aN → Store → Prop) (h1 : (s1 ρ S).al M p) (h2 : ∀ ρ S, M ρ S → (s2 ρ S).al N p) : (aH s1 s2 ρ S).al N p :=
 EA.mpr (Ye h1 h2 (fun _ _ h => h) (fun _ _ _ h => h) (fun _ _ h => h) fun _ _ h => h)
theorem nu (I : Nat → aN → Store → Prop) {ds : List D} (h0 : I 0 ρ S) (step : ∀ i d ρ S, ds[i]? = some d → I i ρ S → ∃ q, g d ρ S = some q ∧ (s q.1 q.2).al (I (i + 1)) ⟨p.T, p.E, N, I (i + 1), p.X⟩)
  (done : ∀ ρ S, I ds.length ρ S → N ρ S) : (forL g s ds ρ S).al N p := by
 have key : ∀ (n k : Nat) (ρ : aN) (S : Store), n = ds.length - k → k ≤ ds.length → I k ρ S → (forL g s (ds.drop k) ρ S).al N p := by
  intro n
  induction n with
  | zero =>
   intro k ρ S hn hk h
   have e : k = ds.length := by omega
   subst e
   rw [List.drop_length]
   exact done _ _ h
  | succ n ih =>
   intro k ρ S hn hk h
   have hl : k < ds.length := by omega
   rw [List.drop_eq_getElem_cons hl]
   obtain ⟨⟨ρ1, S1⟩, e, q⟩ := step k ds[k] ρ S (List.getElem?_eq_getElem hl) h
   simp only [forL, e]
   cases es : s ρ1 S1 with
   | nx ρ2 S2 => rw [es] at q; exact ih (k + 1) ρ2 S2 (by omega) hl q
   | ct ρ2 S2 => rw [es] at q; exact ih (k + 1) ρ2 S2 (by omega) hl q
   | bk ρ2 S2 => rw [es] at q; exact q
   | rt d S2 => rw [es] at q; exact q
   | exc e ρ2 S2 => rw [es] at q; exact q
   | stuck => rw [es] at q; exact q
 have := key ds.length 0 ρ S (by simp) (Nat.zero_le _) h0
 simpa using this
theorem Pk {vs : List Nat} {e : EX} (I : Nat → List D → Store → Prop) {ds : List D} (h0 : I 0 [] S) (step : ∀ i d acc S, ds[i]? = some d → I i acc S → ∃ q, g d ρ S = some q ∧ (t q.1 q.2).al (fun b S2 => if b = true then (e q.1 S2).al (fun y S3 => acc.length < sizeLine ∧ I (i + 1) (acc ++ [y]) S3) (fun _ _ => False) else I (i + 1) acc S2) (fun _ _ => False))
  (done : ∀ ys S, I ds.length ys S → QL ys S) : (bG vs g t e ρ ds [] S).al QL E := by
 have key : ∀ (n k : Nat) (acc : List D) (S : Store), n = ds.length - k → k ≤ ds.length → I k acc S → (bG vs g t e ρ (ds.drop k) acc S).al QL E := by
  intro n
  induction n with
  | zero =>
   intro k acc S hn hk h
   have e : k = ds.length := by omega
   subst e
   rw [List.drop_length]
   exact done _ _ h
  | succ n ih =>
   intro k acc S hn hk h
   have hl : k < ds.length := by omega
   rw [List.drop_eq_getElem_cons hl]
   obtain ⟨q, e1, h1⟩ := step k ds[k] acc S (List.getElem?_eq_getElem hl) h
   simp only [bG, e1]
   cases et : t q.1 q.2 with
   | stuck => rw [et] at h1; exact h1.elim
   | exc _ _ => rw [et] at h1; exact h1.elim
   | ok b S2 =>
    rw [et] at h1
    cases b with
    | false => exact ih (k + 1) acc S2 (by omega) hl h1
    | true =>
     have h2 : (e q.1 S2).al (fun y S3 => acc.length < sizeLine ∧ I (k + 1) (acc ++ [y]) S3) (fun _ _ => False) := h1
     simp only
     cases ee : e q.1 S2 with
     | stuck => rw [ee] at h2; exact h2.elim
     | exc _ _ => rw [ee] at h2; exact h2.elim
     | ok y S3 =>
      rw [ee] at h2
      obtain ⟨h3, h4⟩ := h2
      simp only [h3, if_true]
      exact ih (k + 1) (acc ++ [y]) S3 (by omega) hl h4
 have := key ds.length 0 [] S (by simp) (Nat.zero_le _) h0
 simpa using this
end
/-- S is S0 but for the generator at n -/
def RS (S0 : Store) (n : Nat) (S : Store) : Prop := ∃ a b : Int, 0 ≤ a ∧ 0 ≤ b ∧ b < 2 ^ 33 ∧ n < S0.length ∧ S = S0.set n (.lst [.int a, .int b])
theorem RS.at {S0 S : Store} {n : Nat} (h : RS S0 n S) : fG S n := by
 obtain ⟨a, b, h1, h2, h3, h4, rfl⟩ := h
 exact ⟨a, b, List.getElem?_set_self h4, h1, h2, h3⟩
theorem Pn {S : Store} {n : Nat} {m : Int} (h : fG S n) (h0 : 0 < m) (h1 : m < 1073741824) : ∃ d a b, (aX 3 yI) [.ref n, .int m] S = .ok (.int d) (S.set n (.lst [.int a, .int b])) ∧ 0 ≤ d ∧ d < m ∧ 0 ≤ a ∧ 0 ≤ b ∧ b < 2 ^ 33 := by
 obtain ⟨a, b, e, ha, hb, hb2⟩ := h
 have hl : n < S.length := (List.getElem?_eq_some_iff.mp e).1
 by_cases hp : 0 < a
 ·refine ⟨a % m, a / m, b, ?_, Int.emod_nonneg _ (by omega), Int.emod_lt_of_pos _ h0, Int.ediv_nonneg ha (by omega), hb, hb2⟩
  unfold aX yI
  simp [aH, cJ, aQ, aC, ak, mC, aV, bL, e, R.bind, R.opt, R.st, qZ, atI, ixN, ji, hp, fV, aO, aj, ao, yw, dW, fH, bf, cV, rH, aM, uG, aW, h0, h1]
 ·have hm : m ≠ 0 := by omega
  obtain ⟨c, hc⟩ : ∃ c : Int, c = (b * 48271 + 20011).fmod 2147483399 := ⟨_, rfl⟩
  have c0 : 0 ≤ c := by rw [hc, Int.fmod_eq_emod_of_nonneg _ (by decide)]; exact Int.emod_nonneg _ (by decide)
  have c1 : c < 2147483399 := by rw [hc, Int.fmod_eq_emod_of_nonneg _ (by decide)]; exact Int.emod_lt_of_pos _ (by decide)
  have k1 : iH b 48271 = true := by unfold iH; simp
  have k2 : iH c c = true := by unfold iH; simp; omega
  have e2 : ∀ x : SO, (S.set n x)[n]? = some x := fun x => List.getElem?_set_self hl
  refine ⟨(((c * c).fmod 2147483323).fdiv 13).fmod m, a, c, ?_, ?_, ?_, ha, c0, by omega⟩
  ·unfold aX yI
   simp [aH, cJ, aQ, aC, ak, mC, aV, bL, e, R.bind, R.opt, R.st, qZ, atI, ixN, ji, hp, fV, cY, rH, uG, aW, gM, bM, lJ, yh, k1, k2, ← hc, hm, e2]
  ·rw [Int.fmod_eq_emod_of_nonneg _ (by omega)]; exact Int.emod_nonneg _ hm
  ·rw [Int.fmod_eq_emod_of_nonneg _ (by omega)]; exact Int.emod_lt_of_pos _ h0
theorem jJ {S0 S : Store} {n : Nat} {m : Int} {Q : D → Store → Prop} {E : bT → Store → Prop} (h : RS S0 n S) (h0 : 0 < m) (h1 : m < 1073741824) (k : ∀ d S', 0 ≤ d → d < m → RS S0 n S' → Q (.int d) S') : ((aX 3 yI) [.ref n, .int m] S).al Q E := by
 obtain ⟨d, a, b, e, d0, d1, a0, b0, b1⟩ := Pn h.at h0 h1
 rw [e]
 obtain ⟨a', b', _, _, _, h4, rfl⟩ := h
 exact k d _ d0 d1 ⟨a, b, a0, b0, b1, h4, by rw [List.set_set]⟩
def kW : Key → Nat
 | .inl _ => 0
 | .inr x => x.length
def vY : Key → Prop
 | .inl i => i.natAbs < 10 ^ 60
 | .inr x => ∀ c ∈ x.cps.toList, c < 0x110000
mutual
def aZ : D → Prop
 | .non => True
 | .bl _ => True
 | .int i => i.natAbs < 10 ^ 60
 | .str x => ∀ c ∈ x.cps.toList, c < 0x110000
 | .tup xs => cQ xs
 | .lst xs => cQ xs
 | .dct kvs => lO kvs
 | .ref _ => False
 | .ty _ => False
 | .fn _ => False
def cQ : List D → Prop
 | [] => True
 | d :: r => aZ d ∧ cQ r
def lO : List (Key × D) → Prop
 | [] => True
 | p :: r => vZ p ∧ lO r
def vZ : Key × D → Prop
 | (k, d) => vY k ∧ aZ d
end
mutual
def bR : D → Nat
 | .str x => x.length
 | .tup xs => dH xs
 | .lst xs => dH xs
 | .dct kvs => Bc kvs
 | .non => 0
 | .bl _ => 0
 | .int _ => 0
 | .ref _ => 0
 | .ty _ => 0
 | .fn _ => 0
def dH : List D → Nat
 | [] => 0
 | d :: r => bR d + 1 + dH r
def Bc : List (Key × D) → Nat
 | [] => 0
 | p :: r => Pq p + Bc r
def Pq : Key × D → Nat
 | (k, d) => kW k + bR d + 2
end
mutual
def bh : D → Nat
 | .tup xs => cU xs + 1
 | .lst xs => cU xs + 1
 | .dct kvs => Be kvs + 1
 | .str _ => 0
 | .non => 0
 | .bl _ => 0
 | .int _ => 0
 | .ref _ => 0
 | .ty _ => 0
 | .fn _ => 0
def cU : List D → Nat
 | [] => 0
 | d :: r => max (bh d) (cU r)
def Be : List (Key × D) → Nat
 | [] => 0
 | p :: r => max (Pu p) (Be r)
def Pu : Key × D → Nat
 | (_, d) => bh d
end
theorem Yg {n : Nat} (h : n < 10 ^ 60) : n.log2 < 1920 := by
 by_cases h0 : n = 0
 ·rw [h0]; decide
 ·exact Nat.lt_of_lt_of_le ((Nat.log2_lt h0).mpr (Nat.lt_trans h (by decide : 10 ^ 60 < 2 ^ 200))) (by decide)
theorem Yh {i : Int} (h : i.natAbs < 10 ^ 60) : (PyData.shown (.int i)).length ≤ 64 := by
 have e := int_text_length_le10 (k := 60) (by decide) h
 show (Str.ofString (toString i)).length ≤ 64
 rw [PySem.ofString_length]; omega
structure Sw (p : PyData) (b d : Nat) : Prop where
 s : p.showable = true
 l : p.leavesShort 64 = true
 b : p.bulk = b
 d : p.depth = d
structure Yi (p : List PyData) (b d : Nat) : Prop where
 s : PyData.showableAll p = true
 l : PyData.leavesShortAll 64 p = true
 b : PyData.bulkAll p = b
 d : PyData.depthAll p = d
structure Yj (p : List (PyData × PyData)) (b d : Nat) : Prop where
 s : PyData.showableKv p = true
 l : PyData.leavesShortKv 64 p = true
 b : PyData.bulkKv p = b
 d : PyData.depthKv p = d
theorem Px {x : Str} (h : ∀ c ∈ x.cps.toList, c < 0x110000) : Sw (.str x) x.length 0 :=
 ⟨rfl, by simp only [PyData.leavesShort, List.all_eq_true, decide_eq_true_eq]; exact fun c hc => Nat.lt_trans (h c hc) (by decide), rfl, rfl⟩
theorem Py {i : Int} (h : i.natAbs < 10 ^ 60) : Sw (.int i) 0 0 :=
 ⟨by simp only [PyData.showable]; exact decide_eq_true (Yg h), by simp only [PyData.leavesShort]; exact decide_eq_true (Yh h), rfl, rfl⟩
theorem Yk {k : Key} (h : vY k) : Sw (uw k) (kW k) 0 := by
 cases k with
 | inl i => exact Py h
 | inr x => exact Px h
mutual
theorem EC : ∀ d : D, aZ d → ∃ p, toPy true d = some p ∧ Sw p (bR d) (bh d)
 | .non, _ => ⟨.none, rfl, rfl, rfl, rfl, rfl⟩
 | .bl b, _ => ⟨.bool b, rfl, rfl, rfl, rfl, rfl⟩
 | .int i, h => ⟨.int i, rfl, Py (by simpa only [aZ] using h)⟩
 | .str x, h => ⟨.str x, rfl, Px (by simpa only [aZ] using h)⟩
 | .tup xs, h => by
  obtain ⟨ps, e, s⟩ := ED xs (by simpa only [aZ] using h)
  exact ⟨.tuple ps, by simp only [toPy, e], ⟨by simpa only [PyData.showable] using s.s, by simpa only [PyData.leavesShort] using s.l, by simpa only [PyData.bulk, bR] using s.b, by simp only [PyData.depth, bh, s.d]⟩⟩
 | .lst xs, h => by
  obtain ⟨ps, e, s⟩ := ED xs (by simpa only [aZ] using h)
  exact ⟨.list ps, by simp only [toPy, e], ⟨by simpa only [PyData.showable] using s.s, by simpa only [PyData.leavesShort] using s.l, by simpa only [PyData.bulk, bR] using s.b, by simp only [PyData.depth, bh, s.d]⟩⟩
 | .dct kvs, h => by
  obtain ⟨ps, e, s⟩ := PD kvs (by simpa only [aZ] using h)
  exact ⟨.dict ps, by simp only [toPy, e], ⟨by simpa only [PyData.showable] using s.s, by simpa only [PyData.leavesShort] using s.l, by simpa only [PyData.bulk, bR] using s.b, by simp only [PyData.depth, bh, s.d]⟩⟩
 | .ref _, h => by simp only [aZ] at h
 | .ty _, h => by simp only [aZ] at h
 | .fn _, h => by simp only [aZ] at h
theorem ED : ∀ ds : List D, cQ ds → ∃ p, gq true ds = some p ∧ Yi p (dH ds) (cU ds)
 | [], _ => ⟨[], rfl, rfl, rfl, rfl, rfl⟩
 | d :: r, h => by
  have h' : aZ d ∧ cQ r := by simpa only [cQ] using h
  obtain ⟨p, e1, s1⟩ := EC d h'.1
  obtain ⟨ps, e2, s2⟩ := ED r h'.2
  exact ⟨p :: ps, by simp only [gq, e1, e2], ⟨by simp only [PyData.showableAll, s1.s, s2.s, Bool.and_true], by simp only [PyData.leavesShortAll, s1.l, s2.l, Bool.and_true], by simp only [PyData.bulkAll, dH, s1.b, s2.b], by simp only [PyData.depthAll, cU, s1.d, s2.d]⟩⟩
theorem PD : ∀ ds : List (Key × D), lO ds → ∃ p, oH true ds = some p ∧ Yj p (Bc ds) (Be ds)
 | [], _ => ⟨[], rfl, rfl, rfl, rfl, rfl⟩
 | (k, d) :: r, h => by
  have h' : vZ (k, d) ∧ lO r := by simpa only [lO] using h
  have h'' : vY k ∧ aZ d := by simpa only [vZ] using h'.1
  obtain ⟨p, e1, s1⟩ := EC d h''.2
  obtain ⟨ps, e2, s2⟩ := PD r h'.2
  have s0 := Yk h''.1
  exact ⟨(uw k, p) :: ps, by simp only [oH, AI, e1, e2], ⟨by simp only [PyData.showableKv, s0.s, s1.s, s2.s, Bool.and_true], by simp only [PyData.leavesShortKv, s0.l, s1.l, s2.l, Bool.and_true], by simp only [PyData.bulkKv, Bc, Pq, s0.b, s1.b, s2.b], by simp only [PyData.depthKv, Be, Pu, s0.d, s1.d, s2.d, Nat.zero_max, Nat.max_eq_right (Nat.zero_le _)]⟩⟩
end
mutual
theorem yO : ∀ d : D, aZ d → gU d = true
 | .non, _ => rfl
 | .bl _, _ => rfl
 | .int _, _ => rfl
 | .str _, _ => rfl
 | .tup xs, h => by simp only [gU]; exact EE xs (by simpa only [aZ] using h)
 | .lst xs, h => by simp only [gU]; exact EE xs (by simpa only [aZ] using h)
 | .dct xs, h => by simp only [gU]; exact PL xs (by simpa only [aZ] using h)
 | .ref _, h => by simp only [aZ] at h
 | .ty _, _ => rfl
 | .fn _, _ => rfl
theorem EE : ∀ ds : List D, cQ ds → pZ ds = true
 | [], _ => rfl
 | d :: r, h => by
  have h' : aZ d ∧ cQ r := by simpa only [cQ] using h
  simp only [pZ, yO d h'.1, EE r h'.2, Bool.and_self]
theorem PL : ∀ ds : List (Key × D), lO ds → vP ds = true
 | [], _ => rfl
 | (k, d) :: r, h => by
  have h' : (vY k ∧ aZ d) ∧ lO r := by simpa only [lO, vZ] using h
  simp only [vP, DU, yO d h'.1.2, PL r h'.2, Bool.and_self]
end
theorem Bf {S : Store} {d : D} (h : gU d = true) : Mi.top S d = d := by unfold Mi.top; rw [if_pos h]
theorem PR (S : Store) : ∀ xs : List D, (jG S xs).length = xs.length
 | [] => rfl
 | _ :: r => by simp only [jG, List.length_cons, PR S r]
theorem Yl (S : Store) (xs : List D) : ∃ ys, Mi.top S (.tup xs) = .tup ys ∧ ys.length = xs.length := by
 unfold Mi.top
 split
 ·exact ⟨xs, rfl, rfl⟩
 ·exact ⟨jG S (jG S (jG S (jG S (jG S xs)))), by simp only [stp], by simp only [PR]⟩
theorem Bg : ∀ {ds : List D}, cQ ds ↔ ∀ d ∈ ds, aZ d
 | [] => by simp [cQ]
 | d :: r => by simp only [cQ, Bg (ds := r), List.mem_cons, forall_eq_or_imp]
theorem EF {n : Nat} : ∀ {ds : List D}, (∀ d ∈ ds, bR d ≤ n) → dH ds ≤ ds.length * (n + 1)
 | [], _ => by simp [dH]
 | d :: r, h => by
  have h1 := h d List.mem_cons_self
  have h2 := EF (ds := r) fun x hx => h x (List.mem_cons_of_mem _ hx)
  simp only [dH, List.length_cons, Nat.succ_mul]
  omega
theorem yP {n : Nat} : ∀ {ds : List D}, (∀ d ∈ ds, bh d ≤ n) → cU ds ≤ n
 | [], _ => by simp [cU]
 | d :: r, h => by
  have h1 := h d List.mem_cons_self
  have h2 := yP (ds := r) fun x hx => h x (List.mem_cons_of_mem _ hx)
  simp only [cU]
  omega
theorem PU {i : Nat} {a : EX} {ρ : aN} {S : Store} {N : aN → Store → Prop} {p : Po} : (fY i a ρ S).al N p ↔ match ρ[i]? with
  | some (Sl.ow (.lst xs)) => (a ρ S).al (fun d S1 => xs.length < sizeLine ∧ N (ρ.set i (.ow (.lst (xs ++ [d])))) S1) (fun e S => p.E e S ∧ p.X e ρ S)
  | some (Sl.sh (.ref n)) => (match S[n]? with
   | some (.lst _) => (a ρ S).al (fun d S1 => ∃ xs, S1[n]? = some (.lst xs) ∧ xs.length < sizeLine ∧ N ρ (S1.set n (.lst (xs ++ [d])))) (fun e S => p.E e S ∧ p.X e ρ S)
   | _ => False)
  | _ => False := by
 unfold fY
 rcases ρ[i]? with _ | (_ | d | d | d)
 ·exact Iff.rfl
 ·exact Iff.rfl
 ·cases d with
  | ref n =>
   simp only
   rcases hS : S[n]? with _ | (ys | ys | ⟨c, fs⟩ | ys | ys | ⟨c, m⟩ | fs | ⟨x, q⟩)
   ·exact Iff.rfl
   ·simp only [jR]
    refine iff_of_eq (congrArg (fun z => R.al (a ρ S) z _) (funext fun d => funext fun S1 => propext ?_))
    rcases h : S1[n]? with _ | (xs | xs | ⟨c, fs⟩ | xs | xs | ⟨c, m⟩ | fs | ⟨x, q⟩)
    ·simp [SR.al]
    ·by_cases h2 : xs.length < sizeLine <;> simp [h2, SR.al]
    ·simp [SR.al]
    ·simp [SR.al]
    ·simp [SR.al]
    ·simp [SR.al]
    ·simp [SR.al]
    ·simp [SR.al]
    ·simp [SR.al]
   ·exact Iff.rfl
   ·exact Iff.rfl
   ·exact Iff.rfl
   ·exact Iff.rfl
   ·exact Iff.rfl
   ·exact Iff.rfl
   ·exact Iff.rfl
  | _ => exact Iff.rfl
 ·cases d with
  | lst xs =>
   simp only [jR]
   refine iff_of_eq (congrArg (fun z => R.al (a ρ S) z _) (funext fun d => funext fun S1 => propext ?_))
   by_cases h : xs.length < sizeLine <;> simp [h, SR.al]
  | _ => exact Iff.rfl
 ·exact Iff.rfl
theorem yQ {j : Int} (h : 0 ≤ j ∧ j < 2 ^ 62) : oJ [.int j] = some (pX 0 j.toNat) := by
 unfold oJ
 simp only
 rw [if_pos (by omega)]
theorem Bh {n : Nat} : (pX 0 n).length = n := by simp [pX]
theorem yR {n i : Nat} {d : D} (h : (pX 0 n)[i]? = some d) : d = .int i ∧ i < n := by
 have hi := (List.getElem?_eq_some_iff.mp h).1
 rw [Bh] at hi
 unfold pX at h
 rw [List.getElem?_map, List.getElem?_range hi] at h
 cases h
 exact ⟨by simp, hi⟩
mutual
/-- no dict in it -/
def bD : D → Prop
 | .non => True
 | .bl _ => True
 | .int _ => True
 | .str x => ∀ c ∈ x.cps.toList, c < 0x110000
 | .tup xs => eZ xs
 | .lst xs => eZ xs
 | .dct _ => False
 | .ref _ => False
 | .ty _ => False
 | .fn _ => False
def eZ : List D → Prop
 | [] => True
 | d :: r => bD d ∧ eZ r
end
theorem EG : ∀ {ds : List D}, eZ ds ↔ ∀ d ∈ ds, bD d
 | [] => by simp [eZ]
 | d :: r => by simp only [eZ, EG (ds := r), List.mem_cons, forall_eq_or_imp]
mutual
theorem PY : ∀ d : D, bD d → ∃ p, toPy false d = some p ∧ p.canLay0 = true ∧ p.depth = bh d
 | .non, _ => ⟨.none, rfl, rfl, rfl⟩
 | .bl b, _ => ⟨.bool b, rfl, rfl, rfl⟩
 | .int i, _ => ⟨.int i, rfl, rfl, rfl⟩
 | .str x, h => ⟨.str x, rfl, by
   have h' : ∀ c ∈ x.cps.toList, c < 0x110000 := by simpa only [bD] using h
   simp only [PyData.canLay0, PyData.strOk]
   exact Array.all_eq_true_iff_forall_mem.mpr fun c hc => decide_eq_true (h' c (Array.mem_toList_iff.mpr hc)), rfl⟩
 | .tup xs, h => by
  obtain ⟨ps, e, s, t⟩ := EH xs (by simpa only [bD] using h)
  exact ⟨.tuple ps, by simp only [toPy, e], by simpa only [PyData.canLay0] using s, by simp only [PyData.depth, bh, t]⟩
 | .lst xs, h => by
  obtain ⟨ps, e, s, t⟩ := EH xs (by simpa only [bD] using h)
  exact ⟨.list ps, by simp only [toPy, e], by simpa only [PyData.canLay0] using s, by simp only [PyData.depth, bh, t]⟩
 | .dct kvs, h => by simp only [bD] at h
 | .ref _, h => by simp only [bD] at h
 | .ty _, h => by simp only [bD] at h
 | .fn _, h => by simp only [bD] at h
theorem EH : ∀ ds : List D, eZ ds → ∃ p, gq false ds = some p ∧ PyData.canLayAll0 p = true ∧ PyData.depthAll p = cU ds
 | [], _ => ⟨[], rfl, rfl, rfl⟩
 | d :: r, h => by
  have h' : bD d ∧ eZ r := by simpa only [eZ] using h
  obtain ⟨p, e1, s1, t1⟩ := PY d h'.1
  obtain ⟨ps, e2, s2, t2⟩ := EH r h'.2
  exact ⟨p :: ps, by simp only [gq, e1, e2], by simp only [PyData.canLayAll0, s1, s2, Bool.and_true], by simp only [PyData.depthAll, cU, t1, t2]⟩
end
mutual
theorem PZ : ∀ d : D, bD d → gU d = true
 | .non, _ => rfl
 | .bl _, _ => rfl
 | .int _, _ => rfl
 | .str _, _ => rfl
 | .tup xs, h => by simp only [gU]; exact EJ xs (by simpa only [bD] using h)
 | .lst xs, h => by simp only [gU]; exact EJ xs (by simpa only [bD] using h)
 | .dct xs, h => by simp only [bD] at h
 | .ref _, h => by simp only [bD] at h
 | .ty _, _ => rfl
 | .fn _, _ => rfl
theorem EJ : ∀ ds : List D, eZ ds → pZ ds = true
 | [], _ => rfl
 | d :: r, h => by
  have h' : bD d ∧ eZ r := by simpa only [eZ] using h
  simp only [pZ, PZ d h'.1, EJ r h'.2, Bool.and_self]
end
theorem Ym {S : Store} {d : D} (h : bD d) : Mi.top S d = d := Bf (PZ d h)
theorem yS {S : Store} {d : D} (h : bD d) (hd : bh d ≤ 64) : ∃ p, j9 S d = some p ∧ toPy false d = some p ∧ p.canLay0 = true := by
 obtain ⟨p, e, s, t⟩ := PY d h
 refine ⟨p, ?_, e, s⟩
 unfold j9
 simp only [Ym h, e]
 rw [if_pos]
 unfold SeqAt.shaped
 rw [s, t, decide_eq_true hd]
 rfl
theorem Yn {S : Store} {a b : D} {p q : PyData} (h1 : j9 S a = some p) (h2 : j9 S b = some q) (hs : ∀ x y, ¬ (a = .str x ∧ b = .str y)) : mX S a b = some (PyData.eqv p q) := by
 cases a <;> cases b <;> first
  | (exact absurd ⟨rfl, rfl⟩ (hs _ _))
  | (have e : p = q := Option.some.inj (h1.symm.trans h2); subst e; simp only [mX, h1]; done)
  | (simp only [mX, h1, h2]; done)
theorem eq_refl {S : Store} {d : D} (h : bD d) (hd : bh d ≤ 64) : mX S d d = some true := by
 obtain ⟨p, e, _, s⟩ := yS (S := S) h hd
 by_cases hs : ∃ x, d = .str x
 ·obtain ⟨x, rfl⟩ := hs
  simp [mX]
 ·rw [Yn e e fun x y z => hs ⟨x, z.1⟩, SeqAt.eqv_refl p s]
theorem Yo {S : Store} {x y : D} {b : Bool} (h : mX S x y = some b) : bQ S x y = some (.bl b) := by
 unfold bQ
 split
 ·rename_i xs
  unfold mX at h
  simp only at h
  have e3 : j9 S (.tup []) = some (.tuple []) := rfl
  rw [e3] at h
  cases e : j9 S (.tup xs) with
  | none => rw [e] at h; cases h
  | some p =>
   rw [e] at h
   cases h
   unfold j9 at e
   obtain ⟨ys, ey, el⟩ := Yl S xs
   rw [ey] at e
   simp only [toPy] at e
   cases ys with
   | nil =>
    have : xs = [] := List.length_eq_zero_iff.mp el.symm
    subst this
    cases e; rfl
   | cons x zs =>
    cases xs with
    | nil => cases el
    | cons x0 xs0 =>
    cases e4 : gq false (x :: zs) with
    | none => rw [e4] at e; cases e
    | some l =>
     rw [e4] at e
     simp only at e
     split at e
     ·cases e
      cases l with
      | nil =>
       simp only [gq] at e4
       split at e4
       ·split at e4 <;> cases e4
       ·cases e4
      | cons a l => simp [PyData.eqv, PyData.eqvAll]
     ·cases e
 ·rw [h]
theorem EK {S : Store} {d : D} (h : bD d) (hd : bh d ≤ 64) : bQ S d d = some (.bl true) := Yo (eq_refl h hd)
theorem Yp {S : Store} {d : D} (h : bD d) (hd : bh d ≤ 64) : iQ S d d = some (.bl false) := by unfold iQ; rw [eq_refl h hd]; rfl
section
variable {S : Store} {i j : Int} {x y z : Str} {xs ys : List D} {p : Bool}
theorem Q5 : bM S (.int i) (.int j) = some (.int (i + j)) := rfl
theorem Yq (h : x.length + y.length ≤ sizeLine) : bM S (.str x) (.str y) = some (.str (x ++ y)) := by
 show (if x.length + y.length ≤ sizeLine then some (D.str (x ++ y)) else none) = _
 rw [if_pos h]
theorem EL (h : xs.length + ys.length ≤ sizeLine) : bM S (.lst xs) (.lst ys) = some (.lst (xs ++ ys)) := by
 show (if xs.length + ys.length ≤ sizeLine then some (D.lst (xs ++ ys)) else none) = _
 rw [if_pos h]
theorem Q6 : uJ S (.int i) (.int j) = some (.int (i + j)) := rfl
theorem Q7 : jY S (.int i) (.int j) = some (.int (i - j)) := rfl
theorem ER (h : iH i j = true) : gM S (.int i) (.int j) = some (.int (i * j)) := by
 show (if iH i j = true then some (D.int (i * j)) else none) = _
 rw [if_pos h]
theorem Q8 : jZ S (.int i) = some (.int (-i)) := rfl
theorem Q9 : mW S (.int i) (.int j) = some (.bl (decide (i < j))) := rfl
theorem Qa : lK S (.int i) (.int j) = some (.bl (decide (i ≤ j))) := rfl
theorem Qc : qZ S (.int i) (.int j) = some (.bl (decide (j < i))) := rfl
theorem Qe : vO S (.int i) (.int j) = some (.bl (decide (j ≤ i))) := rfl
theorem EV : bQ S (.str x) (.str y) = some (.bl (x == y)) := rfl
theorem EW : iQ S (.str x) (.str y) = some (.bl (!(x == y))) := rfl
theorem Qg : bQ S (.int i) (.int j) = some (.bl (i == j)) := by
 show (match (some (PyData.eqv (.int i) (.int j)) : Option Bool) with | some b => some (D.bl b) | none => none) = _
 simp [PyData.eqv]
theorem Qh : iQ S (.int i) (.int j) = some (.bl (!(i == j))) := by
 show (match (some (PyData.eqv (.int i) (.int j)) : Option Bool) with | some b => some (D.bl (!b)) | none => none) = _
 simp [PyData.eqv]
theorem Qi : aV S (.lst xs) (.int i) = atI xs i := rfl
theorem EY : aV S (.tup xs) (.int i) = atI xs i := rfl
theorem Yr (h : x.length ≤ sizeLine) : aV S (.str x) (.int i) = (atI x.cps.toList i).map fun c => .str ⟨#[c]⟩ := by
 show (if x.length ≤ sizeLine then _ else _) = _
 rw [if_pos h]
 cases atI x.cps.toList i <;> rfl
theorem Ql : eY S [.lst xs] = some (.int xs.length) := rfl
theorem Qm : eY S [.tup xs] = some (.int xs.length) := rfl
theorem Qn (h : x.length ≤ sizeLine) : eY S [.str x] = some (.int x.length) := by
 show (if x.length ≤ sizeLine then _ else _) = _
 rw [if_pos h]
theorem Qo : kh S [.int i, .int j] = some (.int (max i j)) := by
 show some (D.int (if j > i then j else i)) = _
 congr 2
 split <;> omega
theorem Qp : AJ S [.int i, .int j] = some (.int (min i j)) := by
 show some (D.int (if j < i then j else i)) = _
 congr 2
 split <;> omega
theorem Qq : rG S [.int i] = some (.int (if i < 0 then -i else i)) := rfl
theorem Qs : ji (.bl p) = some p := rfl
theorem Qt : jO S (.bl p) = some p := rfl
theorem Qu : itemsOf (.lst xs) = some xs := rfl
theorem Qv : itemsOf (.tup xs) = some xs := rfl
theorem Qw : itemsOf (.str x) = some (iD x) := rfl
theorem Qx : fTuple S [.lst xs] = some (.tup xs) := rfl
theorem Qy : fTuple S [.tup xs] = some (.tup xs) := rfl
theorem Qz : eV S (.str x) (.str y) = some (.bl (rD x y)) := rfl
theorem QA : qb S (.str x) (.str y) = some (.bl (!rD x y)) := rfl
theorem QC : WK S .non .non = some (.bl true) := rfl
theorem QD : (some (D.bl p)).bind ji = some p := rfl
theorem QE (xs : List Str) (x : Str) : (xs.map PyData.str).any (fun z => PyData.eqv z (.str x)) = xs.any (· == x) := by
 induction xs with
 | nil => rfl
 | cons a r ih => simp only [List.map_cons, List.any_cons, ih]; simp [PyData.eqv]
end
theorem Ys {S : Store} {x : Str} {ys : List Str} (hx : ∀ c ∈ x.cps.toList, c < 0x110000) (hy : ∀ y ∈ ys, ∀ c ∈ y.cps.toList, c < 0x110000) : rE S (.str x) (.tup (ys.map D.str)) = some (ys.any (· == x)) := by
 have hn : bD (.str x) := by simpa only [bD] using hx
 have hm : bD (.tup (ys.map D.str)) := by
  simp only [bD, EG]
  intro d hd
  obtain ⟨y, hy', rfl⟩ := List.mem_map.mp hd
  simpa only [bD] using hy y hy'
 have hdp : bh (.tup (ys.map D.str)) ≤ 64 := by
  have : cU (ys.map D.str) ≤ 0 := yP fun d hd => by obtain ⟨y, _, rfl⟩ := List.mem_map.mp hd; simp [bh]
  simp only [bh]; omega
 have e1 : j9 S (.str x) = some (.str x) := by
  obtain ⟨p, e, e2, _⟩ := yS (S := S) hn (by simp [bh])
  simp only [toPy] at e2
  rw [e, e2]
 have e2 : j9 S (.tup (ys.map D.str)) = some (.tuple (ys.map PyData.str)) := by
  obtain ⟨p, e, e2, _⟩ := yS (S := S) hm hdp
  have : gq false (ys.map D.str) = some (ys.map PyData.str) := by
   clear hy hm hdp e e2
   induction ys with
   | nil => rfl
   | cons a r ih => simp only [List.map_cons, gq, toPy, ih]
  simp only [toPy, this] at e2
  rw [e, e2]
 simp only [rE, e1, e2, QE]
theorem QF {S : Store} {x : Str} {ys : List Str} (hx : ∀ c ∈ x.cps.toList, c < 0x110000) (hy : ∀ y ∈ ys, ∀ c ∈ y.cps.toList, c < 0x110000) : eV S (.str x) (.tup (ys.map D.str)) = some (.bl (ys.any (· == x))) := by
 unfold eV; rw [Ys hx hy]
theorem QG {S : Store} {x : Str} {ys : List Str} (hx : ∀ c ∈ x.cps.toList, c < 0x110000) (hy : ∀ y ∈ ys, ∀ c ∈ y.cps.toList, c < 0x110000) : rE S (.str x) (.lst (ys.map D.str)) = some (ys.any (· == x)) := by
 have hn : bD (.str x) := by simpa only [bD] using hx
 have hm : bD (.lst (ys.map D.str)) := by
  simp only [bD, EG]
  intro d hd
  obtain ⟨y, hy', rfl⟩ := List.mem_map.mp hd
  simpa only [bD] using hy y hy'
 have hdp : bh (.lst (ys.map D.str)) ≤ 64 := by
  have : cU (ys.map D.str) ≤ 0 := yP fun d hd => by obtain ⟨y, _, rfl⟩ := List.mem_map.mp hd; simp [bh]
  simp only [bh]; omega
 have e1 : j9 S (.str x) = some (.str x) := by
  obtain ⟨p, e, e2, _⟩ := yS (S := S) hn (by simp [bh])
  simp only [toPy] at e2
  rw [e, e2]
 have e2 : j9 S (.lst (ys.map D.str)) = some (.list (ys.map PyData.str)) := by
  obtain ⟨p, e, e2, _⟩ := yS (S := S) hm hdp
  have : gq false (ys.map D.str) = some (ys.map PyData.str) := by
   clear hy hm hdp e e2
   induction ys with
   | nil => rfl
   | cons a r ih => simp only [List.map_cons, gq, toPy, ih]
  simp only [toPy, this] at e2
  rw [e, e2]
 simp only [rE, e1, e2, QE]
theorem Yt {S : Store} {x : Str} {ys : List Str} (hx : ∀ c ∈ x.cps.toList, c < 0x110000) (hy : ∀ y ∈ ys, ∀ c ∈ y.cps.toList, c < 0x110000) : eV S (.str x) (.lst (ys.map D.str)) = some (.bl (ys.any (· == x))) := by
 unfold eV; rw [QG hx hy]
theorem Yu {S : Store} {x : Str} {ys : List Str} (hx : ∀ c ∈ x.cps.toList, c < 0x110000) (hy : ∀ y ∈ ys, ∀ c ∈ y.cps.toList, c < 0x110000) : qb S (.str x) (.lst (ys.map D.str)) = some (.bl (!ys.any (· == x))) := by
 unfold qb; rw [QG hx hy]
theorem EZ {xs : List D} {i : Nat} (h : i < xs.length) : atI xs (i : Int) = xs[i]? := by
 unfold atI ixN
 rw [if_pos (by omega), if_pos (by omega)]
 simp
theorem at0 {x : D} {xs : List D} : atI (x :: xs) 0 = some x := EZ (i := 0) (by simp)
theorem at1 {x y : D} {xs : List D} : atI (x :: y :: xs) 1 = some y := EZ (i := 1) (by simp)
theorem at2 {x y z : D} {xs : List D} : atI (x :: y :: z :: xs) 2 = some z := EZ (i := 2) (by simp)
theorem Yv {S : Store} {ns : List Int} {k : Nat} {Q : D → Store → Prop} {E : bT → Store → Prop} (hn : ns.length ≤ 63) (hk : k < 100) (q : ∀ S', RS (S ++ [.lst []]) S.length S' → Q (.ref S.length) S') : ((aX 3 AV) [.lst (fW ns), .int k] S).al Q E := by
 have hl : (fW ns).length = ns.length := by unfold fW; rw [List.length_map]
 have key : ∀ z : Int, (gH (aQ (aC mW (ak 1) (aO eY (aj (ak 0) ao)))) (aC aV (ak 0) (ak 1)) (aC bM (aC gM (mC (.int 13)) (ak 1)) (mC (.int 6)))) [.sh (.lst (fW ns)), .sh (.int k), .un] S = .ok (.int z) S →
   ((aX 3 AV) [.lst (fW ns), .int k] S).al Q E := by
  intro z hz
  obtain ⟨A, hA⟩ : ∃ A : Int, A = (if z < 0 then -z else z) := ⟨_, rfl⟩
  have hA0 : 0 ≤ A := by rw [hA]; split <;> omega
  obtain ⟨B, hB⟩ : ∃ B : Int, B = A.fmod 2147483579 := ⟨_, rfl⟩
  have hB0 : 0 ≤ B := by rw [hB, Int.fmod_eq_emod_of_nonneg _ (by decide)]; exact Int.emod_nonneg _ (by decide)
  have hB1 : B < 2147483579 := by rw [hB, Int.fmod_eq_emod_of_nonneg _ (by decide)]; exact Int.emod_lt_of_pos _ (by decide)
  have k1 : iH 307 (k : Int) = true := by unfold iH; simp
  have e : (aX 3 AV) [.lst (fW ns), .int k] S = .ok (.ref S.length) (S ++ [.lst [.int (if A - 1000000000000000000 > 0 then A - 1000000000000000000 else 0), .int (B + 307 * k + 11)]]) := by
   unfold aX AV
   simp only [List.length_cons, List.length_nil, List.map_cons, List.map_nil, List.replicate, List.cons_append, List.nil_append, aH, bU]
   rw [hz]
   simp [R.st, aW, pP, cH, aj, ao, aO, aC, mC, ak, kh, rG, jY, jF, bM, lJ, gM, R.bind, R.opt, ← hA, ← hB, k1, Ai, sizeLine_eq, tQ]
  rw [e]
  refine q _ ⟨(if A - 1000000000000000000 > 0 then A - 1000000000000000000 else 0), (B + 307 * k + 11), ?_, ?_, ?_, by simp, ?_⟩
  ·split <;> omega
  ·omega
  ·omega
  ·rw [List.set_append_right _ _ (Nat.le_refl _)]; simp
 by_cases hlt : k < ns.length
 ·refine key ns[k] ?_
  simp [gH, aQ, aC, ak, aO, aj, ao, eY, bL, hl, mW, R.bind, R.opt, ji, hlt, aV, atI, ixN, fW]
 ·refine key (13 * k + 6) ?_
  have k1 : iH 13 (k : Int) = true := by unfold iH; simp
  simp [gH, aQ, aC, ak, aO, aj, ao, eY, bL, hl, mW, R.bind, R.opt, ji, hlt, mC, gM, bM, k1]
section
variable {pr : Program} {w : World}
/-- repr(v), as an f-string asks for it -/
theorem Yw {A : Around} {E Q : Value → Shared → Prop} {s : Shared} {v : Value} {d : PyData} (r : RD s.heap v d) (sh : d.showable = true) (sz : d.shown.length ≤ sizeLine) (hg : A.guards = some []) (hu : A.units + (d.depth + 1) < cLine)
  (hQ : ∀ h' u tk, (∀ b o, s.heap.get? b = some o → h'.get? b = some o) → Q (.str d.shown u) { s with heap := h', toks := tk }) : wpAny (model pr w) A (pyReprObj v) Q E s := by
 cases r with
 | non => simp only [PyData.shown] at hQ; exact wpAny_pyReprObj_gives (PySem.typeIs_none s) F.slot_NoneType_repr F.entry_NoneType_repr (F.args_NoneType_repr_1 _) gives_none_repr (hQ s.heap _ _ fun _ _ e => e)
 | bl b => simp only [PyData.shown] at hQ; exact wpAny_pyReprObj_gives (PySem.typeIs_bool s b) F.slot_bool_repr F.entry_bool_repr (F.args_bool_repr_1 _) (gives_bool_repr b) (hQ s.heap _ _ fun _ _ e => e) (hx := by cases b <;> decide)
 | int i t => simp only [PyData.shown] at hQ; exact pyReprObj_int (by simpa [PyData.showable] using sh) (hQ s.heap _ _ fun _ _ e => e)
 | str x t => simp only [PyData.shown] at hQ sz; exact pyReprObj_str (hQ s.heap _ _ fun _ _ e => e) sz
 | @lst a o l n xs g c e r =>
  simp only [PyData.shown] at sz hQ
  simp only [PyData.depth] at hu
  obtain ⟨bs, hb, k⟩ := kE (pr := pr) (w := w) r (by simpa [PyData.showable] using sh) fun t m => Nat.le_trans (listText_mem_le m) sz
  obtain ⟨as, rr⟩ := (RD.lst g c e r).reads
  have out := not_mem_of_deeper rr (by simp only [PyData.depth]; omega : PyData.depthAll xs < _) hb
  refine wpAny_pyReprObj_slot (by omega) ⟨o, g, c⟩ F.slot_list_repr.toG ?_
  match l, e, k with
  | [], e, k =>
   cases hx : PyData.shownAll xs with
   | cons t ts => rw [hx] at k; cases k
   | nil => rw [hx, listText_nil] at hQ; exact call_list_repr_empty ⟨o, g, c⟩ g e ⟨_, _, rfl, hQ s.heap _ _ fun _ _ e => e⟩
  | x :: l, e, k => exact call_list_reprK g c e out (by simpa using (AK k).symm) (fun i y z => k.item i y (by simpa using z)) hg (fun b _ => Clear.nil b) (by omega) (fun _ _ e => e) (fun h' u tk q => ⟨_, _, rfl, hQ h' u tk q⟩) sz
 | @tup a o l n xs g c e r =>
  simp only [PyData.shown] at sz hQ
  simp only [PyData.depth] at hu
  obtain ⟨bs, hb, k⟩ := kE (pr := pr) (w := w) r (by simpa [PyData.showable] using sh) fun t m => Nat.le_trans (tupleText_mem_le m) sz
  obtain ⟨as, rr⟩ := (RD.tup g c e r).reads
  have out := not_mem_of_deeper rr (by simp only [PyData.depth]; omega : PyData.depthAll xs < _) hb
  refine wpAny_pyReprObj_slot (by omega) ⟨o, g, c⟩ F.slot_tuple_repr ?_
  exact call_tuple_reprK g c e out (by simpa using k) hg (fun b _ => Clear.nil b) (by omega) (fun _ _ e => e) (fun h' u tk q => ⟨_, _, rfl, hQ h' u tk q⟩) sz
 | @dct a o es n kvs g c e sy r1 r2 =>
  simp only [PyData.shown] at sz hQ
  simp only [PyData.depth] at hu
  obtain ⟨sh1, yC⟩ := PyData.showableKv_split kvs (by simpa [PyData.showable] using sh)
  have low : ∀ t : Str, (∃ p ∈ PyData.shownKv kvs, t.length ≤ p.length) → t.length ≤ sizeLine := fun t ⟨p, m, q⟩ => Nat.le_trans q (Nat.le_trans (dictText_mem_le m) sz)
  obtain ⟨b1, hb1, k1⟩ := kE (pr := pr) (w := w) r1 sh1 fun t m => low t (PyData.shownKv_key_le kvs t m)
  obtain ⟨b2, hb2, k2⟩ := kE (pr := pr) (w := w) r2 yC fun t m => low t (PyData.shownKv_val_le kvs t m)
  obtain ⟨as, rr⟩ := (RD.dct g c e sy r1 r2).reads
  have l1 := PyData.depthAll_keys_le kvs
  have l2 := PyData.depthAll_vals_le kvs
  have out := not_mem_of_deeper rr (by simp only [PyData.depth]; omega : PyData.depthKv kvs < _) ((hb1.mono l1).append (hb2.mono l2))
  refine wpAny_pyReprObj_slot (by omega) ⟨o, g, c⟩ F.slot_dict_repr ?_
  rw [PyData.shownKv_eq] at sz hQ
  refine call_dict_reprK g c e sy out (ReprEntriesK.of_two _ _ _ (k1.more_le (fun b m => ?_) l1) (k2.more_le (fun b m => ?_) l2)) hg (fun b _ => Clear.nil b) (by omega) (fun _ _ e => e) (fun h' u tk q => ⟨_, _, rfl, hQ h' u tk q⟩) sz
  ·exact List.mem_append.mpr (.inl m)
  ·exact List.mem_append.mpr (.inr m)
end
def w6 (S : Store) (d : D) : Option D := match toPy true (top S d) with
 | some p => if p.showable = true ∧ p.shown.length ≤ sizeLine ∧ p.depth ≤ 64 then some (.str p.shown) else none
 | none => none
def yU : List EX → Str → EX
 | [], acc => fun _ S => .ok (.str acc) S
 | t :: ts, acc => fun ρ S => (t ρ S).bind fun x S1 => match x with
  | .str y => if (acc ++ y).length ≤ sizeLine then yU ts (acc ++ y) ρ S1 else .stuck
  | _ => .stuck
def Fb (ts : List EX) : EX := yU ts Str.empty
section
variable {X : Cx} {W : WX} {b : Bool} {e : Expr} {ma : EX} {pos : Pos}
theorem QH (hg : X.A.guards = some []) (hu : X.A.units + 65 < cLine) (he : PM (au X) W b X e ma) : PM (au X) W b X (.FormattedValue e 114 none pos) (dU w6 ma) := by
 refine ⟨fun pins s σ H Q I h => ?_⟩
 have h' := Dj (r := fun x H1 Q => E5 X [x] H1 Q) (fun Z H β S x dx dz Q A rx e k => by
  unfold w6 at e
  split at e
  ·rename_i p ep
   split at e
   ·rename_i hz
    cases e
    exact ⟨β, x, top S dx, p, rfl, rx.top A.st, ep, hz.1, hz.2.1, hz.2.2, k _ H (Same.refl _) (.str _)⟩
   ·cases e
  ·cases e) h
 refine wpAny_FormattedValue_repr (thn (he.run pins s σ H _ I h') fun v s1 hv => ?_)
 obtain ⟨x, H1, I1, r1, β, x', d, p, ex, rv, e, h1, h2, h3, q⟩ := hv
 cases ex
 exact Yw (AO I1 rv r1 e) h1 h2 hg (by omega) fun h' t tk k => wpAny_formatField_str ⟨.str p.shown, H1, I1.kept k, ⟨_, rfl⟩, q⟩ ⟨.str p.shown, H1, I1.kept k, ⟨_, rfl⟩, q⟩ h2
inductive rM (C : Ct) (W : WX) (b : Bool) (X : Cx) : List Expr → List EX → Prop where
 | nil : rM C W b X [] []
 | cons {e : Expr} {m : EX} {es : List Expr} {ms : List EX} (h : PM C W b X e m) (r : rM C W b X es ms) : rM C W b X (e :: es) (m :: ms)
theorem rM.pj {C : Ct} {es : List Expr} {ms : List EX} (h : rM C W b X es ms) : PJ X es (ms.map (EM C W b)) := by
 induction h with
 | nil => exact .nil
 | cons h r ih => exact .cons h ih
theorem QI {C : Ct} : ∀ {ms : List EX} {acc : Str} {σ : L2.St} {H : Hp} {Q : VK}, EM C W b (yU ms acc) σ H Q → tJs (ms.map (EM C W b)) acc σ H fun out H1 => Q (.str out) H1
 | [], acc, σ, H, Q, h => by
  obtain ⟨cf, oa, P, β, ρ, S, L, h⟩ := h
  exact h _ H β Tr.refl L (.str _)
 | m :: ms, acc, σ, H, Q, h => by
  obtain ⟨cf, oa, P, β, ρ, S, L, h⟩ := h
  unfold yU at h
  refine ⟨cf, oa, P, β, ρ, S, L, ?_⟩
  cases ea : m ρ S with
  | stuck => rw [ea] at h; exact h
  | exc e S1 => rw [ea] at h; exact h
  | ok dx S1 =>
   rw [ea] at h
   simp only [R.bind] at h
   intro x H1 β1 e1 L1 rx
   cases dx with
   | str y =>
    simp only at h
    by_cases hz : (acc ++ y).length ≤ sizeLine
    ·rw [if_pos hz] at h
     cases rx
     refine ⟨y, rfl, hz, QI ⟨cf, oa, P, β1, ρ, S1, L1, ?_⟩⟩
     cases eb : yU ms (acc ++ y) ρ S1 with
     | stuck => rw [eb] at h; exact h
     | exc e S2 =>
      rw [eb] at h
      intro cls d H' β' e2 L2 ex
      exact h cls d H' β' (e1.trans e2) L2 ex
     | ok d S2 =>
      rw [eb] at h
      intro v H' β' e2 L2 r
      exact h v H' β' (e1.trans e2) L2 r
    ·rw [if_neg hz] at h; exact h.elim
   | _ => exact (show False from h).elim
theorem QJ {v1 v2 : Expr} {rest : List Expr} {ms : List EX} (h : rM (au X) W b X (v1 :: v2 :: rest) ms) : PM (au X) W b X (.JoinedStr (v1 :: v2 :: rest) pos) (Fb ms) :=
 cX (pe_joined h.pj) fun σ H Q h => QI h
end
def cM (ρ : aN) : Bool := ρ.all fun s => match s with | .ex _ => false | _ => true
def SR.chk : SR → SR
 | .nx ρ S => if cM ρ = true then .nx ρ S else .stuck
 | .bk ρ S => if cM ρ = true then .bk ρ S else .stuck
 | .ct ρ S => if cM ρ = true then .ct ρ S else .stuck
 | .exc e ρ S => if cM ρ = true then .exc e ρ S else .stuck
 | .rt d S => .rt d S
 | .stuck => .stuck
/-- behind an except suite: the name is gone -/
def SR.yV (i : Nat) : SR → SR
 | .nx ρ S => if cM (ρ.set i .un) = true then .nx (ρ.set i .un) S else .stuck
 | .bk ρ S => if cM (ρ.set i .un) = true then .bk (ρ.set i .un) S else .stuck
 | .ct ρ S => if cM (ρ.set i .un) = true then .ct (ρ.set i .un) S else .stuck
 | .rt d S => .rt d S
 | .exc _ _ _ => .stuck
 | .stuck => .stuck
section
variable {C C' : Ct} {cf : Cf} {oa : Nat → Option Addr} {P P' : Addr → Prop} {σ : L2.St} {H H' : Hp} {β β' : List Addr} {ρ : aN} {S S' : Store}
theorem Yx (h : cM ρ = true) {i : Nat} {e : bT} (q : ρ[i]? = some (Sl.ex e)) : False := by
 have := List.all_eq_true.mp h _ (List.mem_of_getElem? q)
 exact Bool.false_ne_true this
theorem cO.ct (k : C'.K = C.K) (m : C'.mg = C.mg) {a : Addr} {d : D} (h : cO C H P β a d) : cO C' H P β a d := by
 cases d <;> first | exact h.elim | skip
 ·obtain ⟨xs, q, r⟩ := h; exact ⟨xs, q, r.ct k m⟩
 ·obtain ⟨xs, q, r⟩ := h; exact ⟨xs, q, r.ct k m⟩
theorem LR.ct (k : C'.K = C.K) (m : C'.mg = C.mg) (L : LR C cf oa P σ H β ρ S) (hn : cM ρ = true) : LR C' cf oa P σ H β ρ S where
 len := L.len
 p := L.p
 sub := L.sub
 p0 := L.p0
 ext := L.ext
 own := L.own
 inj := L.inj
 st := L.st.ct k m
 slot := fun i d h => let ⟨v, q1, q2⟩ := L.slot i d h; ⟨v, q1, q2.ct k m⟩
 bY := fun i d h => let ⟨a, q1, q2, q3⟩ := L.bY i d h; ⟨a, q1, q2, q3.ct k m⟩
 xslot := fun i e h => (Yx hn h).elim
/-- a slot is set to what is no value -/
theorem LR.QK (L : LR C cf oa P σ H β ρ S) {i : Nat} {w : Option V} {s : Sl} (h1 : ∀ d, s ≠ .sh d) (h2 : ∀ d, s ≠ .ow d) (h3 : ∀ e, s = .ex e → ∃ a, w = some (.ref a) ∧ g8 C H P β a e) :
  LR C cf (fun j => if j = i then none else oa j) P (σ.set i w) H β (ρ.set i s) S where
 len := by rw [List.length_set, List.length_set]; exact L.len
 p := L.p
 sub := L.sub
 p0 := L.p0
 ext := L.ext
 own := fun j a h => by
  by_cases e : j = i
  ·rw [if_pos e] at h; cases h
  ·rw [if_neg e] at h; exact L.own j a h
 inj := fun j k a h1 h2 => by
  by_cases e : j = i
  ·rw [if_pos e] at h1; cases h1
  ·by_cases e2 : k = i
   ·rw [if_pos e2] at h2; cases h2
   ·rw [if_neg e] at h1; rw [if_neg e2] at h2; exact L.inj j k a h1 h2
 st := L.st
 slot := fun j x h => by
  by_cases e : i = j
  ·subst e
   by_cases hl : i < ρ.length
   ·rw [List.getElem?_set_self hl] at h; cases h; exact (h1 _ rfl).elim
   ·rw [List.getElem?_eq_none (by rw [List.length_set]; omega)] at h; cases h
  ·rw [List.getElem?_set_ne e] at h
   obtain ⟨u, q1, q2⟩ := L.slot j x h
   exact ⟨u, by rw [List.getElem?_set_ne e]; exact q1, q2⟩
 bY := fun j x h => by
  by_cases e : i = j
  ·subst e
   by_cases hl : i < ρ.length
   ·rw [List.getElem?_set_self hl] at h; cases h; exact (h2 _ rfl).elim
   ·rw [List.getElem?_eq_none (by rw [List.length_set]; omega)] at h; cases h
  ·rw [List.getElem?_set_ne e] at h
   obtain ⟨a, q0, q1, q2⟩ := L.bY j x h
   exact ⟨a, by rw [if_neg fun z => e z.symm]; exact q0, by rw [List.getElem?_set_ne e]; exact q1, q2⟩
 xslot := fun j x h => by
  by_cases e : i = j
  ·subst e
   by_cases hl : i < ρ.length
   ·rw [List.getElem?_set_self hl] at h
    cases h
    obtain ⟨a, rfl, q⟩ := h3 _ rfl
    exact ⟨a, List.getElem?_set_self (by rw [L.len]; exact hl), q⟩
   ·rw [List.getElem?_eq_none (by rw [List.length_set]; omega)] at h; cases h
  ·rw [List.getElem?_set_ne e] at h
   obtain ⟨b, q1, q2⟩ := L.xslot j x h
   exact ⟨b, by rw [List.getElem?_set_ne e]; exact q1, q2⟩
theorem LR.Bj (L : LR C cf oa P σ H β ρ S) {i : Nat} {w : Option V} : LR C cf (fun j => if j = i then none else oa j) P (σ.set i w) H β (ρ.set i .un) S :=
 L.QK (fun _ z => nomatch z) (fun _ z => nomatch z) (fun _ z => nomatch z)
theorem SQ.ct {W : WX} {D : Ends} {r : SR} (k : C'.K = C.K) (m : C'.mg = C.mg) (h : SQ C W cf H P β D r.chk) : SQ C' W cf H P β D r := by
 cases r with
 | nx ρ1 S1 =>
  unfold SR.chk at h
  by_cases hn : cM ρ1 = true
  ·simp only [if_pos hn] at h
   exact fun σ' H' β' bB P' L f => h σ' H' β' bB P' (L.ct k.symm m.symm hn) f
  ·simp only [if_neg hn] at h; exact h.elim
 | bk ρ1 S1 =>
  unfold SR.chk at h
  by_cases hn : cM ρ1 = true
  ·simp only [if_pos hn] at h
   exact fun σ' H' β' bB P' L f => h σ' H' β' bB P' (L.ct k.symm m.symm hn) f
  ·simp only [if_neg hn] at h; exact h.elim
 | ct ρ1 S1 =>
  unfold SR.chk at h
  by_cases hn : cM ρ1 = true
  ·simp only [if_pos hn] at h
   exact fun σ' H' β' bB P' L f => h σ' H' β' bB P' (L.ct k.symm m.symm hn) f
  ·simp only [if_neg hn] at h; exact h.elim
 | exc e ρ1 S1 =>
  unfold SR.chk at h
  by_cases hn : cM ρ1 = true
  ·simp only [if_pos hn] at h
   exact fun cls x σ' H' β' bB P' L f q => h cls x σ' H' β' bB P' (L.ct k.symm m.symm hn) f (q.ct k.symm m.symm)
  ·simp only [if_neg hn] at h; exact h.elim
 | rt d S1 => exact fun v H' β' a f b c => h v H' β' a f (b.ct k.symm m.symm) (c.ct k.symm m.symm)
 | stuck => exact h
/-- what is wanted of a a8U result -/
def QM (C : Ct) (i : Nat) (cf : Cf) (H : Hp) (P : Addr → Prop) (β : List Addr) (D : Ends) : SR → Prop
 | .nx ρ' S' => cM (ρ'.set i .un) = true ∧ ∀ σ' H' β' bB P', LR C cf bB P' (σ'.set i none) H' β' (ρ'.set i .un) S' → Fx H P β H' P' β' → D.nx σ' H'
 | .bk ρ' S' => cM (ρ'.set i .un) = true ∧ ∀ σ' H' β' bB P', LR C cf bB P' (σ'.set i none) H' β' (ρ'.set i .un) S' → Fx H P β H' P' β' → D.bk σ' H'
 | .ct ρ' S' => cM (ρ'.set i .un) = true ∧ ∀ σ' H' β' bB P', LR C cf bB P' (σ'.set i none) H' β' (ρ'.set i .un) S' → Fx H P β H' P' β' → D.ct σ' H'
 | .rt d S' => ∀ v H' β', pM cf H' β' → Fs H β H' β' → aU C H' cf.P0 β' S' → RV C H' cf.P0 β' v d → D.rt v H'
 | .exc _ _ _ => False
 | .stuck => False
def QN (C : Ct) (i : Nat) (m : SX) (a : Addr) (cls : Value) (d : Option Addr) : TS := fun D σ H => ∃ cf oa P β ρ S e σ0, σ = σ0.set i (some (.ref a)) ∧ cM ρ = true ∧ LR C cf oa P σ0 H β ρ S ∧ jA C H P β cls d e ∧ QM C i cf H P β D (m (ρ.set i (.ex e)) S)
end
abbrev rN : WX := fun _ _ _ _ => False
section
variable {X : Cx} {W : WX} {i : Nat} {c : Value} {body suite : List Stmt} {ms : SX}
theorem Yy {a : Addr} {oe : Obj} {cls : Value} {d : Option Addr} {pn : List (Addr × Obj)} (hz : Zc cls d oe) (hf : ∃ vs, oe.data = .fields vs) (h : jB (au (X.suite a ((a, oe) :: pn))) rN (X.suite a ((a, oe) :: pn)) body ms) :
  PSs (X.suite a ((a, oe) :: pn)) body (QN (au X) i ms a cls d) := xQ h fun D σ H h => by
 obtain ⟨cf, oa, P, β, ρ, S, e, σ0, rfl, hn, L, ex, q⟩ := h
 obtain ⟨Ca, dd, vs, h1, h2, h3, h4, h5, h6, h7⟩ := ex
 have L1 : LR (au (X.suite a ((a, oe) :: pn))) cf oa P σ0 H β ρ S := LR.ct (C := au X) (C' := au (X.suite a ((a, oe) :: pn))) rfl rfl L hn
 have xa : g8 (au (X.suite a ((a, oe) :: pn))) H P β a e := ⟨oe, Ca, dd, vs, List.mem_cons_self, by rw [← h2, ← h3]; exact hz, hf, h1, h4, h5, h6, fun f y z => let ⟨v, q1, q2⟩ := h7 f y z; ⟨v, q1, RV.ct (C := au X) (C' := au (X.suite a ((a, oe) :: pn))) rfl rfl q2⟩⟩
 have L2 := L1.QK (i := i) (w := some (.ref a)) (s := .ex e) (fun _ z => nomatch z) (fun _ z => nomatch z) (fun e' z => by cases z; exact ⟨a, rfl, xa⟩)
 refine ⟨cf, _, P, β, _, S, L2, ?_⟩
 cases er : ms (ρ.set i (.ex e)) S with
 | nx ρ1 S1 => rw [er] at q; exact fun σ' H' β' bB P' L f => q.2 σ' H' β' _ P' (LR.ct (C := au (X.suite a ((a, oe) :: pn))) (C' := au X) rfl rfl (L.Bj (i := i)) q.1) f
 | bk ρ1 S1 => rw [er] at q; exact fun σ' H' β' bB P' L f => q.2 σ' H' β' _ P' (LR.ct (C := au (X.suite a ((a, oe) :: pn))) (C' := au X) rfl rfl (L.Bj (i := i)) q.1) f
 | ct ρ1 S1 => rw [er] at q; exact fun σ' H' β' bB P' L f => q.2 σ' H' β' _ P' (LR.ct (C := au (X.suite a ((a, oe) :: pn))) (C' := au X) rfl rfl (L.Bj (i := i)) q.1) f
 | rt d1 S1 => rw [er] at q; exact fun v H' β' a f b c => q v H' β' a f (aU.ct (C := au (X.suite _ ((_, oe) :: pn))) (C' := au X) rfl rfl b) (RV.ct (C := au (X.suite _ ((_, oe) :: pn))) (C' := au X) rfl rfl c)
 | exc e1 ρ1 S1 => rw [er] at q; exact q.elim
 | stuck => rw [er] at q; exact q
theorem Yz {cf : Cf} {H H1 : Hp} {P P1 : Addr → Prop} {β β1 : List Addr} {D : Ends} {r : SR} (f1 : Fx H P β H1 P1 β1) (h : SQ (au X) W cf H P β D (r.yV i)) :
  QM (au X) i cf H1 P1 β1 { nx := fun σ' H' => D.nx (σ'.set i none) H', rt := D.rt, bk := fun σ' H' => D.bk (σ'.set i none) H', ct := fun σ' H' => D.ct (σ'.set i none) H' } r := by
 cases r with
 | nx ρ1 S1 =>
  unfold SR.yV at h
  by_cases hn : cM (ρ1.set i .un) = true
  ·simp only [if_pos hn] at h
   exact ⟨hn, fun σ' H' β' bB P' L f => h _ H' β' bB P' L (f1.trans f)⟩
  ·simp only [if_neg hn] at h; exact h.elim
 | bk ρ1 S1 =>
  unfold SR.yV at h
  by_cases hn : cM (ρ1.set i .un) = true
  ·simp only [if_pos hn] at h
   exact ⟨hn, fun σ' H' β' bB P' L f => h _ H' β' bB P' L (f1.trans f)⟩
  ·simp only [if_neg hn] at h; exact h.elim
 | ct ρ1 S1 =>
  unfold SR.yV at h
  by_cases hn : cM (ρ1.set i .un) = true
  ·simp only [if_pos hn] at h
   exact ⟨hn, fun σ' H' β' bB P' L f => h _ H' β' bB P' L (f1.trans f)⟩
  ·simp only [if_neg hn] at h; exact h.elim
 | rt d1 S1 => exact fun v H' β' a f b c => h v H' β' a (f1.fs.trans f) b c
 | exc e1 ρ1 S1 => exact h.elim
 | stuck => exact h
end
/-- e.f -/
def Bl (cs : List Str) (i : Nat) (f : Str) : EX := fun ρ S => match ρ[i]? with
 | some (.ex e) => if cs.contains e.cls = true then R.opt (e.fs.lookup f) S else .stuck
 | _ => .stuck
/-- isinstance(e, ..) by a table: class, class asked for -/
def Bm (T : List ((Str × Str) × Bool)) (U : List ((Str × String) × Bool)) (c : Str) : D → Option Bool
 | .fn x => T.lookup (c, x)
 | .ty n => U.lookup (c, n)
 | _ => none
def we (T : List ((Str × Str) × Bool)) (U : List ((Str × String) × Bool)) (c : Str) : List D → Option Bool
 | [] => some false
 | d :: r => match Bm T U c d with
  | some true => (we T U c r).map fun _ => true
  | some false => we T U c r
  | none => none
def Fd (T : List ((Str × Str) × Bool)) (U : List ((Str × String) × Bool)) (c : Str) : D → Option Bool
 | .tup ds => we T U c ds
 | d => Bm T U c d
def wg (cs : List Str) (T : List ((Str × Str) × Bool)) (U : List ((Str × String) × Bool)) (i : Nat) (a : EX) : EX := fun ρ S => match ρ[i]? with
 | some (.ex e) => if cs.contains e.cls = true then (a ρ S).bind fun d S1 => R.opt ((Fd T U e.cls d).map D.bl) S1 else .stuck
 | _ => .stuck
def uP (K : PySem.W.Frag) (mg : Str → Option Value) : List Str → Prop
 | [] => True
 | c :: r => (∃ Ca, mg c = some (.ref Ca) ∧ ExcC K Ca) ∧ uP K mg r
def rO (K : PySem.W.Frag) (mg : Str → Option Value) : List ((Str × Str) × Bool) → Prop
 | [] => True
 | p :: r => (∃ Ca Da, mg p.1.1 = some (.ref Ca) ∧ mg p.1.2 = some (.ref Da) ∧ PySem.W.kitOne K (.ref Ca) (.ref Da) = some p.2) ∧ rO K mg r
def rP (K : PySem.W.Frag) (mg : Str → Option Value) : List ((Str × String) × Bool) → Prop
 | [] => True
 | p :: r => (∃ Ca, mg p.1.1 = some (.ref Ca) ∧ PySem.W.kitOne K (.ref Ca) (.type p.1.2) = some p.2) ∧ rP K mg r
def rQ (K : PySem.W.Frag) (mg : Str → Option Value) (c : Value) : List (Str × Bool) → Prop
 | [] => True
 | p :: r => (∃ Ca, mg p.1 = some (.ref Ca) ∧ PySem.W.exmOne K (.ref Ca) c = some p.2) ∧ rQ K mg c r
def wj (K : PySem.W.Frag) (mg : Str → Option Value) (f : Str) : List Str → Prop
 | [] => True
 | c :: r => (∃ Ca, mg c = some (.ref Ca) ∧ PySem.W.findIn K (.ref Ca) f = some none) ∧ wj K mg f r
section
variable {K : PySem.W.Frag} {mg : Str → Option Value}
theorem uP.at : ∀ {cs : List Str}, uP K mg cs → ∀ {c : Str}, cs.contains c = true → ∀ {Ca : Addr}, mg c = some (.ref Ca) → ExcC K Ca
 | [], _, _, q, _, _ => by cases q
 | c :: r, ⟨⟨Ca, h1, h2⟩, h⟩, x, q, Da, hx => by
  rw [List.contains_cons, Bool.or_eq_true] at q
  rcases q with q | q
  ·rw [eq_of_beq q, h1] at hx
   cases hx
   exact h2
  ·exact uP.at h q hx
theorem wj.at {f : Str} : ∀ {cs : List Str}, wj K mg f cs → ∀ {c : Str}, cs.contains c = true → ∀ {Ca : Addr}, mg c = some (.ref Ca) → PySem.W.findIn K (.ref Ca) f = some none
 | [], _, _, q, _, _ => by cases q
 | c :: r, ⟨⟨Ca, h1, h2⟩, h⟩, x, q, Da, hx => by
  rw [List.contains_cons, Bool.or_eq_true] at q
  rcases q with q | q
  ·rw [eq_of_beq q, h1] at hx
   cases hx
   exact h2
  ·exact wj.at h q hx
theorem rO.at : ∀ {T : List ((Str × Str) × Bool)}, rO K mg T → ∀ {c x : Str} {b : Bool}, T.lookup (c, x) = some b → ∀ {Ca Da : Addr}, mg c = some (.ref Ca) → mg x = some (.ref Da) → PySem.W.kitOne K (.ref Ca) (.ref Da) = some b
 | [], _, _, _, _, q, _, _, _, _ => by cases q
 | ((c1, x1), b1) :: r, ⟨⟨C1, D1, h1, h2, h3⟩, h⟩, c, x, b, q, Ca, Da, hc, hx => by
  rw [List.lookup_cons] at q
  by_cases e : (c, x) == (c1, x1)
  ·simp only [e, if_true] at q
   have e' := eq_of_beq e
   cases e'
   cases q
   rw [hc] at h1; cases h1
   rw [hx] at h2; cases h2
   exact h3
  ·simp only [Bool.not_eq_true] at e
   simp only [e, Bool.false_eq_true, if_false] at q
   exact rO.at h q hc hx
theorem rP.at : ∀ {T : List ((Str × String) × Bool)}, rP K mg T → ∀ {c : Str} {n : String} {b : Bool}, T.lookup (c, n) = some b → ∀ {Ca : Addr}, mg c = some (.ref Ca) → PySem.W.kitOne K (.ref Ca) (.type n) = some b
 | [], _, _, _, _, q, _, _ => by cases q
 | ((c1, x1), b1) :: r, ⟨⟨C1, h1, h3⟩, h⟩, c, x, b, q, Ca, hc => by
  rw [List.lookup_cons] at q
  by_cases e : (c, x) == (c1, x1)
  ·simp only [e, if_true] at q
   have e' := eq_of_beq e
   cases e'
   cases q
   rw [hc] at h1; cases h1
   exact h3
  ·simp only [Bool.not_eq_true] at e
   simp only [e, Bool.false_eq_true, if_false] at q
   exact rP.at h q hc
theorem rQ.at {k : Value} : ∀ {T : List (Str × Bool)}, rQ K mg k T → ∀ {c : Str} {b : Bool}, T.lookup c = some b → ∀ {Ca : Addr}, mg c = some (.ref Ca) → PySem.W.exmOne K (.ref Ca) k = some b
 | [], _, _, _, q, _, _ => by cases q
 | (c1, b1) :: r, ⟨⟨C1, h1, h3⟩, h⟩, c, b, q, Ca, hc => by
  rw [List.lookup_cons] at q
  by_cases e : c == c1
  ·simp only [e, if_true] at q
   have e' := eq_of_beq e
   cases e'
   cases q
   rw [hc] at h1; cases h1
   exact h3
  ·simp only [Bool.not_eq_true] at e
   simp only [e, Bool.false_eq_true, if_false] at q
   exact rQ.at h q hc
end
/-- isinstance(e, c) of a caught exception -/
def YB (X : Cx) : List V → Hp → VK → Prop := fun xs H Q => ∃ (a : Addr) (oe : Obj) (Ca dd : Addr) (fs : List (Str × V)) (c : V) (b : Bool), xs = [.ref a, c] ∧ (a, oe) ∈ X.pn ∧ Zc (.ref Ca) (some dd) oe ∧ (∃ ws, oe.data = .fields ws) ∧ H dd = some (.xd fs) ∧ ExcC X.K Ca ∧
 ((∃ u, ClsV c u ∧ PySem.W.kitOne X.K (.ref Ca) u = some b) ∨ ∃ tp cs us, c = .ref tp ∧ SqT X.K H tp cs ∧ Paired ClsV cs us ∧ PySem.W.kitAny X.K (.ref Ca) us = some b) ∧ Q (.bl b) H
section
variable {X : Cx} {W : WX} {b : Bool} {i : Nat} {n f x : Str} {p pn pos : Pos} {t : Expr} {mt : EX} {cs : List Str} {T : List ((Str × Str) × Bool)} {U : List ((Str × String) × Bool)}
theorem YC : CallR X (.builtin "isinstance") (YB X) := by
 intro pins s σ H xs us Q I r h
 obtain ⟨a, oe, Ca, dd, fs, c, b, rfl, hp, hz, ⟨ws, hd⟩, hx, E, hk, q⟩ := h
 obtain ⟨u1, u2, rfl, r1, r2⟩ := vals2 r
 cases (show u1 = Value.ref a from r1)
 obtain ⟨ha, _⟩ := I.pin (a, oe) (List.mem_append_left _ hp)
 obtain ⟨mA, hns, _⟩ := (show ObjOk X.prog X.w H s.heap dd (.xd fs) from I.hok dd _ hx)
 obtain ⟨od, ho, _⟩ := lookIn_ns hns
 have J : PySem.W.InstAt s.heap a oe Ca (some od) := ⟨ha, hz.1, by unfold PySem.W.notCls; rw [hd] <;> rfl, by rw [hz.2]; exact ho⟩
 have Z := PySem.W.kitx_exc (x := a) (ox := oe) (od := some od) (by obtain ⟨cd, hc, _⟩ := PySem.W.any_some E.hd; rw [hc]; rfl) E.hg E.hk E.hs E.ha E.hn E.ht E.hm
 rcases hk with ⟨u, k, e⟩ | ⟨tp, cs, us, rfl, hT, k, e⟩
 ·have e2 := k.eq r2
  subst e2
  exact PySem.W.kia_one Z I.kIn J e (fun z => nomatch z) fun tk => ⟨.bl b, H, I.tok tk, rfl, q⟩
 ·cases (show u2 = Value.ref tp from r2)
  obtain ⟨its, rv, ⟨o, h1, h2, n, h3⟩, _⟩ := I.tuple hT
  have e3 := ClsV.all k rv
  subst e3
  obtain ⟨oc, od', dt, sl⟩ := o
  simp only at h2 h3
  subst h2 h3
  exact PySem.W.kia_tup Z I.kIn J h1 e (fun z => nomatch z) fun tk => ⟨.bl b, H, I.tok tk, rfl, q⟩
theorem QS {C : Ct} {Ca : Addr} {e : bT} {H : Hp} {Z : Addr → Prop} {β : List Addr} {v : V} {d : D} {r : Bool} (hT : rO C.K C.mg T) (hU : rP C.K C.mg U) (hc : C.mg e.cls = some (.ref Ca)) (rv : RV C H Z β v d) (h : Bm T U e.cls d = some r) :
  ∃ u, ClsV v u ∧ PySem.W.kitOne C.K (.ref Ca) u = some r := by
 cases d with
 | fn y =>
  cases rv with
  | fn hm hk => exact ⟨_, .own _, hT.at h hc hm⟩
 | ty n =>
  cases rv
  exact ⟨_, .ty _, hU.at h hc⟩
 | _ => cases h
theorem kitAny_cons {K : PySem.W.Frag} {t c : Value} {r : List Value} {b1 b : Bool} (h1 : PySem.W.kitOne K t c = some b1) (h2 : b1 = true ∧ b = true ∨ b1 = false ∧ PySem.W.kitAny K t r = some b) : PySem.W.kitAny K t (c :: r) = some b := by
 unfold PySem.W.kitAny
 rw [h1]
 rcases h2 with ⟨rfl, rfl⟩ | ⟨rfl, h2⟩
 ·rfl
 ·exact h2
theorem Fe {C : Ct} {Ca : Addr} {e : bT} {H : Hp} {Z : Addr → Prop} {β : List Addr} (hT : rO C.K C.mg T) (hU : rP C.K C.mg U) (hc : C.mg e.cls = some (.ref Ca)) : ∀ {vs : List V} {ds : List D} {r : Bool}, aD C H Z β vs ds → we T U e.cls ds = some r →
  ∃ us, Paired ClsV vs us ∧ PySem.W.kitAny C.K (.ref Ca) us = some r
 | _, [], r, .nil, h => by cases h; exact ⟨[], .nil, rfl⟩
 | _, d :: ds, r, .cons rv rs, h => by
  unfold we at h
  cases e1 : Bm T U e.cls d with
  | none => rw [e1] at h; cases h
  | some b1 =>
   obtain ⟨u, k1, k2⟩ := QS hT hU hc rv e1
   rw [e1] at h
   cases b1 with
   | true =>
    simp only at h
    cases e2 : we T U e.cls ds with
    | none => rw [e2] at h; cases h
    | some b2 =>
     rw [e2] at h
     cases h
     obtain ⟨us, q1, q2⟩ := Fe hT hU hc rs e2
     exact ⟨u :: us, .cons k1 q1, kitAny_cons k2 (.inl ⟨rfl, rfl⟩)⟩
   | false =>
    simp only at h
    obtain ⟨us, q1, q2⟩ := Fe hT hU hc rs h
    exact ⟨u :: us, .cons k1 q1, kitAny_cons k2 (.inr ⟨rfl, q2⟩)⟩
theorem Bo (hE : uP X.K X.mg cs) (hT : rO X.K X.mg T) (hU : rP X.K X.mg U) (hv : PE X (.Name n pn) (tVar i)) (ht : PM (au X) W b X t mt) (hm : X.mg x = none) (hb : bootBuiltins x = some (.builtin "isinstance"))
  (hg : Gl X x := by rfl) (hn : x ≠ "__name__" := by decide) (hdb : (x == ("__debug__" : Str)) = false := by decide)
  (he1 : starEach [.Name n pn, t] X.env = (false, eval (.Name n pn) X.env) :: starEach [t] X.env := by rfl) (he2 : starEach [t] X.env = (false, eval t X.env) :: starEach [] X.env := by rfl) (hpl : (backTo pos (starEach [t] X.env)).any (·.1) = false := by rfl) :
  PM (au X) W b X (.Call (.Name x p) [.Name n pn, t] [] pos) (wg cs T U i mt) :=
 cX (pe_callB YC hg hm hb (pa_cons hv (pa_cons ht pa_nil he2) he1) hn hdb he1 hpl) fun σ H Q h => by
  obtain ⟨cf, oa, P, β, ρ, S, L, h⟩ := h
  unfold wg at h
  cases ei : ρ[i]? with
  | none => rw [ei] at h; exact h.elim
  | some sl =>
   rw [ei] at h
   cases sl with
   | un => exact h.elim
   | sh _ => exact h.elim
   | ow _ => exact h.elim
   | ex e =>
    simp only at h
    by_cases hc : cs.contains e.cls = true
    ·rw [if_pos hc] at h
     obtain ⟨a, q1, xa⟩ := L.xslot i e ei
     refine ⟨.ref a, q1, cf, oa, P, β, ρ, S, L, ?_⟩
     cases ea : mt ρ S with
     | stuck => rw [ea] at h; exact h
     | exc e1 S1 => rw [ea] at h; exact h
     | ok d S1 =>
      rw [ea] at h
      simp only [R.bind] at h
      intro v H1 β1 t1 L1 rv
      obtain ⟨oe, Ca, dd, vs, h1, h2, h3, h4, h5, h6, h7, h8⟩ := xa.mono t1.ext
      cases ex : Fd T U e.cls d with
      | none => rw [ex] at h; exact h.elim
      | some r =>
       rw [ex] at h
       refine ⟨a, oe, Ca, dd, vs, v, r, rfl, h1, h2, h3, h5, hE.at hc h4, ?_, h _ H1 β1 t1 L1 (.bl r)⟩
       unfold Fd at ex
       split at ex
       ·obtain ⟨tp, us, rfl, w1, w2⟩ := rv.fH rfl
        obtain ⟨ks, z1, z2⟩ := Fe hT hU h4 w2 ex
        exact .inr ⟨tp, us, ks, rfl, w1, z1, z2⟩
       ·exact .inl (QS hT hU h4 rv ex)
    ·rw [if_neg hc] at h; exact h.elim
/-- e.f -/
theorem QT (hE : uP X.K X.mg cs) (hF : wj X.K X.mg f cs) (hv : PE X (.Name n pn) (tVar i)) (hb : attributeBase (.Name n pn) f X.env (eval (.Name n pn) X.env) = eval (.Name n pn) X.env := by rfl) : PM (au X) W b X (.Attribute (.Name n pn) f pos) (Bl cs i f) := by
 refine ⟨fun pins s σ H Q I h => ?_⟩
 obtain ⟨cf, oa, P, β, ρ, S, L, h⟩ := h
 unfold Bl at h
 cases ei : ρ[i]? with
 | none => rw [ei] at h; exact h.elim
 | some sl =>
  rw [ei] at h
  cases sl with
  | un => exact h.elim
  | sh _ => exact h.elim
  | ow _ => exact h.elim
  | ex e =>
   simp only at h
   by_cases hc : cs.contains e.cls = true
   ·rw [if_pos hc] at h
    obtain ⟨a, q1, oe, Ca, dd, vs, h1, h2, h3, h4, h5, h6, h7, h8⟩ := L.xslot i e ei
    cases ef : e.fs.lookup f with
    | none => rw [ef] at h; exact h.elim
    | some d =>
     rw [ef] at h
     obtain ⟨v, l, rv⟩ := h8 f d ef
     have q := h v H β Tr.refl L rv
     have E := hE.at hc h4
     refine attr_of hb (thn (hv.run pins s σ H (fun v' H' => v' = .ref a ∧ H' = H) I ⟨.ref a, q1, rfl, rfl⟩) fun u s1 hh => ?_)
     obtain ⟨v', H', I1, rx, rfl, rfl⟩ := hh
     obtain rfl : u = Value.ref a := rx
     obtain ⟨ha, _⟩ := I1.pin (a, oe) (List.mem_append_left _ h1)
     obtain ⟨ws, hd⟩ := h3
     obtain ⟨mA, hns, hr⟩ := (show ObjOk X.prog X.w H' s1.heap dd (.xd vs) from I1.hok dd _ h5)
     obtain ⟨od, ho, hl⟩ := lookIn_ns hns
     obtain ⟨u, hu, ru⟩ := RelO.some_of (v := v) (o := mA f) (by rw [← l]; exact hr f)
     have J : PySem.W.InstAt s1.heap a oe Ca (some od) := ⟨ha, h2.1, by unfold PySem.W.notCls; rw [hd] <;> rfl, by rw [h2.2]; exact ho⟩
     exact HandSPX.exc_get I1.kIn J E.hg E.hk E.hs (PySem.W.findObj_own E.hd (hF.at hc h4) rfl (by rw [hl, hu])) (handed_of ru) ⟨v, H', I1.tok _, ru, q⟩
   ·rw [if_neg hc] at h; exact h.elim
/-- a class of the module as a value -/
theorem wk {Ca : Addr} (hm : X.mg x = some (.ref Ca)) (hk : PySem.W.keepIn X.K (.ref Ca) = true) (hg : Gl X x := by rfl) (hdb : (x == ("__debug__" : Str)) = false := by decide) : PM (au X) W b X (.Name x p) (mC (.fn x)) :=
 dF (v := .ref Ca) hm rfl (fun _ _ _ => .fn hm hk) hg hdb
end
/-- raise c(..): its __init__ writes the message msg and sets the fields fs to its parameters -/
def rR (c : Str) (fs : List Str) (msg : EX) (a : AX) : SX := fun ρ S => match a ρ S with
 | .ok ds S1 => if ds.length = fs.length then match msg (.un :: ds.map Sl.sh) S1 with
   | .ok _ _ => .exc ⟨c, fs.zip ds⟩ ρ S1
   | _ => .stuck
  else .stuck
 | .exc e S1 => .exc e ρ S1
 | .stuck => .stuck
/-- the base YD __init__ is a8V -/
structure Fg (K : PySem.W.Frag) (B : Addr) : Prop where
 rd : PySem.W.readsIn K B (.type "type") = true
 fv : PySem.W.findCls K (.ref B) (.type "type") "__init__" = some (.val (.builtin "ValueError.__init__"))
 sg : PySem.W.specialIn K (.ref B) "__getattribute__" = some (some (.builtin "type.__getattribute__"))
section
variable {X : Cx} {e : Expr} {es : List Expr} {ta : TA} {bx : Str} {B : Addr} {p1 p2 pos : Pos}
theorem QU {pl : Sem Bool} (hm : X.mg bx = some (.ref B)) (T : Fg X.K B) (ha : PA X (e :: es) ta) (hg : Gl X bx := by rfl) (hdb : (bx == ("__debug__" : Str)) = false := by decide)
  (hc : eval (.Call (.Attribute (.Name bx p1) "__init__" p2) (e :: es) [] pos) X.env = (do
   let ov ← eval (.Name bx p1) X.env
   standAt p2.atName
   let (f, first) ← holding [ov] (getMethod ov "__init__" pl)
   callWith pos f first (backTo pos (starEach (e :: es) X.env)) (backToKw pos (keywordEach [] X.env))) := by rfl)
  (he : starEach (e :: es) X.env = (false, eval e X.env) :: starEach es X.env := by rfl) (hpl : (backTo pos (starEach es X.env)).any (·.1) = false := by rfl) :
  PE X (.Call (.Attribute (.Name bx p1) "__init__" p2) (e :: es) [] pos) (tVeI X.K ta) := by
 refine ⟨fun pins s σ H Q I h => ?_⟩
 refine PySem.W.methodCall_KW (ld_glob I hg hm ?_ hdb) hc
 refine PySem.W.method_cls I.kIn T.sg (PySem.W.cls_value I.kIn T.rd T.fv (by decide +kernel) ?_)
 show wpAny _ _ (callWith pos (Value.builtin "ValueError.__init__") [] (backTo pos (starEach (e :: es) X.env)) []) _ _ _
 refine PyProof.Rows.callWith_method1 (thn (ha.run pos pins _ σ H _ (I.tok _) h) fun us s1 ⟨vs, H1, I1, r1, a, C, ws, ev, hl, T, ea, q⟩ => ?_) he hpl
 subst ev
 cases r1 with
 | @cons _ u0 _ ur ra rw' =>
  obtain rfl : u0 = Value.ref a := ra
  have hlen : ur.length ≤ sizeLine := by
   rw [← Paired.length rw', sizeLine_eq]
   omega
  exact oinit_ok T I1 ea hlen fun s' J => ⟨.non, H1, J, rfl, q⟩
end
/-- what an __init__ of the class at Ca a8W -/
def spI (C : Ct) (Ca : Addr) (n : Nat) (msg : EX) (fs : List Str) : Sp := fun vs H Q E => ∃ a ws, vs = V.ref a :: ws ∧ ws.length = n ∧ H a = some (exo a Ca none) ∧
 ∃ P β ds S, aU C H P β S ∧ (∀ b, P b → H b ≠ none ∧ b ∉ β) ∧ aD C H P β ws ds ∧ (∃ d S', msg (.un :: ds.map Sl.sh) S = .ok d S') ∧
 ∀ H1 dd, Same H H1 → H1 dd = none → dd ≠ a → Q .non (upd (upd H1 dd (exd dd (fs.zip ws).reverse)) a (exo a Ca (some dd)))
theorem LR.YF {C : Ct} {H : Hp} {P : Addr → Prop} {β : List Addr} {S : Store} {a : Addr} {ws : List V} {ds : List D} {N : List Str} (st : aU C H P β S) (hp : ∀ a, P a → H a ≠ none ∧ a ∉ β) (r : aD C H P β ws ds) (hN : N.length = ds.length + 1) :
  LR C ⟨H, β, P, []⟩ (fun _ => none) P (L2.start N (.ref a :: ws)) H β (.un :: ds.map Sl.sh) S where
 len := by unfold L2.start; simp [r.length, hN]
 p := hp
 sub := fun _ h => h
 p0 := fun a h => (hp a h).1
 ext := ⟨⟨[], (List.append_nil β).symm⟩, fun a o h _ => .inl h, fun _ h => .inl h, fun _ _ h => h, fun _ h => h, fun _ _ _ h => h⟩
 own := fun _ _ h => nomatch h
 inj := fun _ _ _ h => nomatch h
 st := st
 slot := fun i d h => by
  cases i with
  | zero => cases h
  | succ i =>
   rw [List.getElem?_cons_succ, List.getElem?_map] at h
   cases e : ds[i]? with
   | none => rw [e] at h; cases h
   | some x =>
    rw [e] at h
    cases h
    obtain ⟨v, hv, rv⟩ := r.get e
    refine ⟨v, ?_, rv⟩
    have hi : i < ws.length := (List.getElem?_eq_some_iff.mp hv).1
    unfold L2.start
    rw [List.getElem?_append_left (by simp; omega), List.getElem?_map, List.getElem?_cons_succ, hv]
    rfl
 bY := fun i d h => by
  cases i with
  | zero => cases h
  | succ i =>
   rw [List.getElem?_cons_succ, List.getElem?_map] at h
   cases e : ds[i]? with
   | none => rw [e] at h; cases h
   | some x => rw [e] at h; cases h
 xslot := fun i d h => by
  cases i with
  | zero => cases h
  | succ i =>
   rw [List.getElem?_cons_succ, List.getElem?_map] at h
   cases e : ds[i]? with
   | none => rw [e] at h; cases h
   | some x => rw [e] at h; cases h
section
variable {P : Program} {w : World} {K : PySem.W.Frag} {mg : Str → Option Value} {base : Heap}
/-- __init__(self, v): B.__init__(self, msg); self.f = v -/
theorem QV {x qual f v : Str} {st : Stmt} {fa Ca : Addr} {fd : FuncData} {k : Nat} {msg : EX} {s1 s2 : Stmt} (F : Fun K x qual st fa fd) (S : FnScope ["self", v] ["self", v] (defScope st)) (O : OexC K Ca) (hf : PySem.W.findIn K (.ref Ca) f = some none) (hst : defBody st = [s1, s2])
  (h1 : ∀ (cdv : Value) (A : Around) (outer : List Env) (s : Shared) (H : Hp) (E : XK), (fM P w K mg base ["self", v] qual st fa cdv A outer s H E).A.guards = some [] → Room k (fM P w K mg base ["self", v] qual st fa cdv A outer s H E).A →
   PS (fM P w K mg base ["self", v] qual st fa cdv A outer s H E) s1 (tDrop (tVeI K (tCons (tVar 0) (tCons (EM ⟨K, mg, w, []⟩ rN true msg) tNil)))) ∧
   PS (fM P w K mg base ["self", v] qual st fa cdv A outer s H E) s2 (tOst K f (tVar 0) (tVar 1))) : fJ P w K mg base (k + 1) fa fd ["self", v] (spI ⟨K, mg, w, []⟩ Ca 1 msg [f]) := by
 refine MV F S (fun vs H Q E ⟨a, ws, e, hl, _⟩ => by rw [e]; simp [hl]) fun cdv A outer s H vs Q E hg hr h => ?_
 obtain ⟨p1, p2⟩ := h1 cdv A outer s H E hg hr
 rw [hst]
 refine ⟨_, pss_cons p1 (pss_cons p2 pss_nil), ?_⟩
 obtain ⟨a, ws, rfl, hl, ea, Pf, β, ds, St, hs, hp, r, ⟨d, S', em⟩, q⟩ := h
 match ws, hl with
 | [y], _ =>
  have hN : (["self", v] : List Str).length = ds.length + 1 := by rw [← r.length]; rfl
  refine ⟨.ref a, rfl, ⟨H, β, Pf, []⟩, _, Pf, β, _, St, LR.YF hs hp r hN, ?_⟩
  rw [em]
  intro m H1 β1 t1 L1 rm
  have sm := (t1.ro rfl).1
  refine ⟨a, Ca, [m], rfl, by simp, O, sm _ _ ea, ?_⟩
  refine ⟨y, rfl, .ref a, rfl, a, Ca, rfl, O, hf, .inl ⟨sm _ _ ea, fun dx hn hne => ?_⟩⟩
  exact q H1 dx sm hn hne
end
section
variable {X : Cx} {W : WX} {e : Expr} {es : List Expr} {p pos pos' : Pos} {x : Str} {C fI : Addr} {k j : Nat} {st : Stmt} {fd : FuncData} {ps : List Str} {msg : EX} {fs : List Str} {ma : AX}
theorem YG {ta : TA} {sp : Sp} (T : OexC X.K C) (iC : PySem.W.findIn X.K (.ref C) "__init__" = some (some (.ref fI))) (tI : PySem.W.typeIn X.K (.ref fI) = some (.type "function"))
  (F1 : fJ X.prog X.w X.K X.mg X.base k fI fd ps sp) (hgd : X.A.guards = some []) (hr : Room (k + 1) X.A) (hb : ∀ (s : Shared) (us : List Value), us.length = ps.length → BindsTo s fd ⟨us, []⟩ (ps.zip us)) (hm : X.mg x = some (.ref C)) (ha : PA X (e :: es) ta) (hg : Gl X x := by rfl)
  (hdb : (x == ("__debug__" : Str)) = false := by decide) (he : starEach (e :: es) X.env = (false, eval e X.env) :: starEach es X.env := by rfl) (hpl : (backTo pos (starEach es X.env)).any (·.1) = false := by rfl) :
  PMk X (.Call (.Name x p) (e :: es) [] pos) (tMkO C sp [] ta) := by
 intro pins s σ H Q I h
 obtain ⟨nm, q, N, bs, bm, sn, sub, ab, col, dd, k0, k1, k2, k3, k5, hC, hbm⟩ := T.cls
 refine wpAny_Call_Name_kw (ld_glob I hg hm ?_ hdb)
 refine PySem.W.callWith_K (h₀ := X.base) I.ok.mod.kin T.kC (thn (ha.run pos pins s σ H _ I h) fun us s1 ⟨vs, H1, I1, r1, hz, q1⟩ => ⟨I1.kIn, ?_⟩) he hpl
 show wpAny _ _ (call (.ref C) us) _ _ _
 obtain ⟨hp, g, dr, tk, os⟩ := s1
 have hsz : hp.objs.size ≤ hp.objs.size + 1 := Nat.le_succ _
 have hn : H1 (hp.objs.size + 1) = none := I1.hok.fresh hsz
 have hq := q1 (hp.objs.size + 1) hn
 rw [List.append_nil] at hq
 have kk : ∀ b o, hp.get? b = some o → ((hp.push (PySem.W.kdv_tup us)).push (PySem.HandSPX.excO C hp.objs.size)).get? b = some o := fun b o e => Heap.get?_push_of_some _ (Heap.get?_push_of_some _ e)
 have hget : ((hp.push (PySem.W.kdv_tup us)).push (PySem.HandSPX.excO C hp.objs.size)).get? (hp.objs.size + 1) = some (PySem.HandSPX.excO C hp.objs.size) := by heap_get
 have I2 : Inv X pins σ (upd H1 (hp.objs.size + 1) (exo (hp.objs.size + 1) C none)) ⟨(hp.push (PySem.W.kdv_tup us)).push (PySem.HandSPX.excO C hp.objs.size), g, dr, tk, os⟩ :=
  I1.laid (t' := tk) (a := hp.objs.size + 1) (o := exo (hp.objs.size + 1) C none) (h' := (hp.push (PySem.W.kdv_tup us)).push (PySem.HandSPX.excO C hp.objs.size)) kk hsz (exo_ok hget)
 have r2 : Vals (V.ref (hp.objs.size + 1) :: vs) (Value.ref (hp.objs.size + 1) :: us) := .cons rfl r1
 have hl : (Value.ref (hp.objs.size + 1) :: us).length = ps.length := by
  have e := r2.length
  rw [F1.len _ _ _ _ hq] at e
  exact e.symm
 have hus : us.length ≤ sizeLine := by
  rw [← Paired.length r1, sizeLine_eq]
  omega
 refine wpAny_call (PySem.HandSPX.call_own F.excBase_ValueError (fun Y => PySem.HandSPX.refsVE_contains Y bm hbm) (I1.kIn _ _ hC) (PySem.W.looks_findIn I1.kIn iC) (fun self => PySem.W.bind_fn I1.kIn self tI) hus
  (codeAny_mono (F1.run _ X.stack _ _ ⟨Value.ref (hp.objs.size + 1) :: us, []⟩ (Value.ref (hp.objs.size + 1) :: us) _ _ (fun _ _ _ => False) (by show X.A.guards = some []; exact hgd) (hr.make C us []) (I2.env0.make C us []) (hb _ _ hl) r2 hq) fun r s' hq' => ?_))
 cases r with
 | error er => exact passL pins σ _ _ er s' I2 hq'
 | ok fl =>
  cases fl with
  | ret u =>
   obtain ⟨v, H2, os2, bare2, un2, hok2, rv, ev, d, fs, ea, ed, hd1, q2⟩ := hq'
   subst ev
   obtain ⟨h2, g2, d2, t2, os'⟩ := s'
   exact ⟨rv, mk_end (raises_own T.exC T.tyC) I1 hsz kk un2 hok2 os2 bare2 ea ed hd1 q2⟩
  | next => exact False.elim hq'
  | brk => exact False.elim hq'
  | cont => exact False.elim hq'
theorem QW {α : Type} : ∀ {l : List (Str × α)} {f : Str} {v : α}, (l.map (·.1)).Nodup → (f, v) ∈ l → l.lookup f = some v
 | (g, u) :: r, f, v, hn, hm => by
  rw [List.map_cons, List.nodup_cons] at hn
  rw [List.lookup_cons]
  rcases List.mem_cons.mp hm with e | hq
  ·cases e
   simp
  ·have hne : (f == g) = false := by
    rw [beq_eq_false_iff_ne]
    rintro rfl
    exact hn.1 (List.mem_map.mpr ⟨_, hq, rfl⟩)
   rw [hne]
   exact QW hn.2 hq
theorem mem_of_lookup {α : Type} : ∀ {l : List (Str × α)} {f : Str} {v : α}, l.lookup f = some v → (f, v) ∈ l
 | (g, u) :: r, f, v, h => by
  rw [List.lookup_cons] at h
  by_cases e : (f == g) = true
  ·rw [e] at h
   cases h
   rw [eq_of_beq e]
   exact List.mem_cons_self
  ·rw [Bool.not_eq_true] at e
   rw [e] at h
   exact List.mem_cons_of_mem _ (mem_of_lookup h)
theorem YH {C : Ct} {H : Hp} {Z : Addr → Prop} {β : List Addr} {fs : List Str} {vs : List V} {ds : List D} {f : Str} {x : D} (hn : fs.Nodup) (r : aD C H Z β vs ds) (hl : ds.length = fs.length) (h : (fs.zip ds).lookup f = some x) :
  ∃ v, (fs.zip vs).reverse.lookup f = some v ∧ RV C H Z β v x := by
 have hm := mem_of_lookup h
 obtain ⟨i, hi⟩ := List.getElem?_of_mem hm
 rw [List.getElem?_zip_eq_some] at hi
 obtain ⟨h1, h2⟩ := hi
 obtain ⟨v, hv, rv⟩ := r.get h2
 refine ⟨v, QW ?_ ?_, rv⟩
 ·rw [List.map_reverse, List.map_fst_zip (by rw [r.length, hl]; exact Nat.le_refl _)]
  exact (List.pairwise_reverse.mpr (hn.imp fun h => h.symm))
 ·rw [List.mem_reverse]
  exact List.mem_of_getElem? (List.getElem?_zip_eq_some.mpr ⟨h1, hv⟩)
/-- by what is known of the making -/
theorem YJ (hc : X.calm = true) (tk : Takes X W) (hm : X.mg x = some (.ref C)) (hk : PMk X (.Call (.Name x p) (e :: es) [] pos) (tMkO C (spI ⟨X.K, X.mg, X.w, []⟩ C fs.length msg fs) [] (AM (au X) W false ma))) (hfn : fs.Nodup) (hfl : fs.length ≤ 1000) :
  gj (au X) W X (.Raise (some (.Call (.Name x p) (e :: es) [] pos)) none pos') (rR x fs msg ma) :=
 jh (ps_raise hc tk hk) fun D σ H h => by
  obtain ⟨cf, oa, P, β, ρ, S, L, h⟩ := h
  refine ⟨cf, oa, P, β, ρ, S, L, ?_⟩
  unfold rR at h
  cases ea : ma ρ S with
  | stuck => rw [ea] at h; exact h
  | exc e S1 => rw [ea] at h; exact jC h
  | ok ds S1 =>
   rw [ea] at h
   simp only at h
   intro vs H1 β1 t1 L1 rs
   by_cases hl : ds.length = fs.length
   ·rw [if_pos hl] at h
    refine ⟨by rw [rs.length, hl]; exact hfl, fun a hna => ?_⟩
    have sl : Same H1 (upd H1 a (exo a C none)) := fU hna
    have em : ∃ d S', msg (.un :: ds.map Sl.sh) S1 = .ok d S' := by
     cases em : msg (.un :: ds.map Sl.sh) S1 with
     | ok d S' => exact ⟨d, S', rfl⟩
     | exc e S' => rw [em] at h; exact h.elim
     | stuck => rw [em] at h; exact h.elim
    rw [List.append_nil]
    refine ⟨a, vs, rfl, by rw [rs.length, hl], upd_same, P, β1, ds, S1, aU.ct (C := au X) (C' := ⟨X.K, X.mg, X.w, []⟩) rfl rfl (L1.st.laid hna), fun b hb => ⟨(Ext.same (β := β1) sl).stay b (L1.p b hb).1, (L1.p b hb).2⟩, aD.ct (C := au X) (C' := ⟨X.K, X.mg, X.w, []⟩) rfl rfl (rs.mono (Ext.same sl)), em, fun H2 dd sm hn hne => ?_⟩
    have hn1 : H1 dd = none := by
     cases z : H1 dd with
     | none => rfl
     | some o => rw [sm dd o (sl dd o z)] at hn; cases hn
    refine ⟨rfl, dd, (fs.zip vs).reverse, upd_same, by rw [upd_ne hne]; exact upd_same, hn1, ?_⟩
    have sf : Same H1 (upd (del (upd (upd H2 dd (exd dd (fs.zip vs).reverse)) a (exo a C (some dd))) a) dd (.xd (fs.zip vs).reverse)) := fun b o z => by
     have n1 : b ≠ a := ne_of_none z hna
     have n2 : b ≠ dd := ne_of_none z hn1
     rw [upd_ne n2, del_ne n1, upd_ne n1, upd_ne n2]
     exact sm b o (sl b o z)
    obtain ⟨d, S', em⟩ := em
    rw [em] at h
    refine h (.ref C) (some dd) σ _ β1 oa P (L1.same sf) (Fx.of (t1.ext.trans (Ext.same sf))) ⟨C, dd, (fs.zip vs).reverse, hm, rfl, rfl, upd_same, L1.pO hn1, fun z => (L1.p dd z).1 hn1, fun f x hx => ?_⟩
    obtain ⟨v, q1, q2⟩ := YH hfn rs hl hx
    exact ⟨v, q1, q2.mono (Ext.same sf)⟩
   ·rw [if_neg hl] at h; exact h.elim
theorem QX (hc : X.calm = true) (tk : Takes X W) (T : OexC X.K C) (iC : PySem.W.findIn X.K (.ref C) "__init__" = some (some (.ref fI))) (tI : PySem.W.typeIn X.K (.ref fI) = some (.type "function"))
  (F1 : fJ X.prog X.w X.K X.mg X.base k fI fd ps (spI ⟨X.K, X.mg, X.w, []⟩ C fs.length msg fs)) (hgd : X.A.guards = some []) (hr : Room j X.A) (hkj : k + 1 ≤ j) (hb : ∀ (s : Shared) (us : List Value), us.length = ps.length → BindsTo s fd ⟨us, []⟩ (ps.zip us)) (hm : X.mg x = some (.ref C)) (ha : jg (au X) W false X (e :: es) ma)
  (hfn : fs.Nodup := by decide) (hfl : fs.length ≤ 1000 := by decide) (hg : Gl X x := by rfl) (hdb : (x == ("__debug__" : Str)) = false := by decide) (he : starEach (e :: es) X.env = (false, eval e X.env) :: starEach es X.env := by rfl) (hpl : (backTo pos (starEach es X.env)).any (·.1) = false := by rfl) :
  gj (au X) W X (.Raise (some (.Call (.Name x p) (e :: es) [] pos)) none pos') (rR x fs msg ma) :=
 YJ hc tk hm (YG T iC tI F1 hgd (hr.mono hkj) hb hm ha hg hdb he hpl) hfn hfl
end
/-- the class c, made with one field f by its own __init__ st -/
structure Bp (K : PySem.W.Frag) (mg : Str → Option Value) (c qual : Str) (st : Stmt) (f : Str) (Ca fI : Addr) (fd : FuncData) : Prop where
 m : mg c = some (.ref Ca)
 o : OexC K Ca
 i : PySem.W.findIn K (.ref Ca) "__init__" = some (some (.ref fI))
 t : PySem.W.typeIn K (.ref fI) = some (.type "function")
 f : PySem.W.findIn K (.ref Ca) f = some none
 F : Fun K "__init__" qual st fI fd
section
variable {K : PySem.W.Frag} {x qual : Str} {st : Stmt} {fa : Addr} {fd : FuncData} {ps : List Str} {n : Nat}
theorem QY (F : Fun K x qual st fa fd) (B : ug st ps [] n (List.range n)) (hn : ps.length = n) (s : Shared) (us : List Value) (hu : us.length = ps.length) : BindsTo s fd ⟨us, []⟩ (ps.zip us) := by
 obtain ⟨oc, od, kV, doc, pm, an, cdv, ct, osl, rfl, lk, hcd⟩ := F.ex
 have b := B x qual kV doc pm an cdv ct us [] (hu.trans hn) rfl
 rw [Xa us n (hu.trans hn)] at b
 exact .of_eq b
end
section
variable {ρ : aN} {S : Store} {N : aN → Store → Prop} {p : Po} {E : bT → Store → Prop} {i : Nat} {s : SX} {msg : EX} {a : AX} {c : Str} {fs : List Str} {e : bT}
theorem QZ : (vL i s ρ S).al N p ↔ (s (match ρ[i]? with
  | some (Sl.ow d) => ρ.set i (.sh d)
  | _ => ρ) S).al N p := by
 unfold vL
 rcases ρ[i]? with _ | (_ | d | d | d) <;> exact Iff.rfl
theorem YK : (rR c fs msg a ρ S).al N p ↔ (a ρ S).al (fun ds S1 => ds.length = fs.length ∧ (∃ d S', msg (.un :: ds.map Sl.sh) S1 = .ok d S') ∧ p.E ⟨c, fs.zip ds⟩ S1 ∧ p.X ⟨c, fs.zip ds⟩ ρ S1) (fun e S => p.E e S ∧ p.X e ρ S) := by
 unfold rR
 cases a ρ S with
 | stuck => exact Iff.rfl
 | exc e S1 => exact Iff.rfl
 | ok ds S1 =>
  simp only [R.al]
  by_cases h : ds.length = fs.length
  ·rw [if_pos h]
   cases em : msg (.un :: ds.map Sl.sh) S1 with
   | ok d S' => exact ⟨fun q => ⟨h, ⟨d, S', rfl⟩, q⟩, fun q => q.2.2⟩
   | exc e S' => exact ⟨fun q => q.elim, fun ⟨_, ⟨_, _, z⟩, _⟩ => nomatch z⟩
   | stuck => exact ⟨fun q => q.elim, fun ⟨_, ⟨_, _, z⟩, _⟩ => nomatch z⟩
  ·rw [if_neg h]; exact ⟨fun q => q.elim, fun q => h q.1⟩
end
structure Th (d : D) : Prop where
 ok : aZ d
 bk : bR d ≤ 2000
 dp : bh d ≤ 10
theorem R3 {x : D} : ∀ {xs : List D}, x ∈ xs → bR x ≤ dH xs
 | y :: r, h => by
  simp only [dH]
  rcases List.mem_cons.mp h with rfl | h
  ·omega
  ·have := R3 h; omega
theorem R4 {x : D} : ∀ {xs : List D}, x ∈ xs → bh x ≤ cU xs
 | y :: r, h => by
  simp only [cU]
  rcases List.mem_cons.mp h with rfl | h
  ·omega
  ·have := R4 h; omega
theorem Th.mem {xs : List D} {x : D} (h : Th (.tup xs)) (m : x ∈ xs) : Th x where
 ok := Bg.mp (by simpa only [aZ] using h.ok) x m
 bk := Nat.le_trans (R3 m) (by have := h.bk; simpa only [bR] using this)
 dp := Nat.le_trans (R4 m) (by have := h.dp; simp only [bh] at this; omega)
def valD (kvs : List (Key × D)) (k : Key) : Option D := (kvs.find? fun kv => decide (kv.1 = k)).map (·.2)
theorem R5 {C : Ct} {H : Hp} {P : Addr → Prop} {β : List Addr} {k : Key} : ∀ {vs : List (Key × V)} {ds : List (Key × D)} {d : D}, aP C H P β vs ds → valD ds k = some d → ∃ v, valV vs k = some v ∧ RV C H P β v d
 | _, _, _, .nil, e => by cases e
 | _, _, d, .cons (k := k0) (v := v0) (d := d0) (vs := vs) (ds := ds) h t, e => by
  by_cases hk : k0 = k
  ·have e' : valD ((k0, d0) :: ds) k = some d0 := by simp [valD, List.find?_cons, hk]
   rw [e'] at e; cases e
   exact ⟨v0, valV_pos hk, h⟩
  ·have e' : valD ((k0, d0) :: ds) k = valD ds k := by simp [valD, List.find?_cons, hk]
   rw [e'] at e
   obtain ⟨v, h1, h2⟩ := R5 t e
   exact ⟨v, by rw [valV_neg hk]; exact h1, h2⟩
def ql (S : Store) (x y : D) : Option D := match dG S x with
 | some kvs => match keyD y with
  | some k => valD kvs k
  | none => none
 | none => none
def uQ (S : Store) (x y : D) : Option D := match dG S x with
 | some kvs => match keyD y with
  | some k => valD kvs k
  | none => none
 | none => aV S x y
section
variable {X : Cx} {W : WX} {b : Bool} {a e o : Expr} {ma mb : EX} {pos : Pos}
def Bq : R2 := fun x y H Q => ∃ a v, x = .ref a ∧ DGet H a y (some v) ∧ Q v H
theorem YL (hu : X.A.units + 1 < cLine) : IxR X Bq := by
 intro value slice pins s σ H x y v u Q I rx ry h hs
 obtain ⟨a, z, rfl, g, q⟩ := h
 cases rx
 unfold subscriptTail
 refine wpAny_bind ?_
 rw [getitemInPython_of_ne (dict_typeIs I g).not_modules]
 refine wpAny_bind (wpAny_specialOf (dict_typeIs I g) PySem.F.slot_dict_getitem.lookup ?_)
 have fin : wpAny (model X.prog X.w) X.A (subscripted slice false (.ref a) u) (fun r s₃ => wpAny (model X.prog X.w) X.A (letTemporaryGo value (.ref a) r >>= fun _ => pure r) (EP X pins σ Q) X.xe s₃) X.xe s := by
  rw [hs]
  exact wpAny_operating (d_getItem hu I g ry fun w' s3 I3 rw' => wpAny_bind (wpAny_letTemporaryGo (wpAny_pure ⟨z, H, I3, rw', q⟩)))
 first
  | exact wpAny_pure (wpAny_bind fin)
  | exact wpAny_bind (wpAny_pure (wpAny_bind fin))
  | exact wpAny_bind fin
theorem R6 : cP X Bq ql := by
 intro Z H β S x y dx dy dz Q A rx ry e k
 unfold ql at e
 split at e
 ·rename_i kvs ev
  split at e
  ·rename_i ky ek
   obtain ⟨a, us, rfl, q1, q2⟩ := rx.dG A.st ev
   obtain ⟨v, h1, h2⟩ := R5 q2 e
   rw [yG ry ek]
   exact ⟨a, v, rfl, .inl ⟨us, ky, q1, rfl, h1.symm⟩, k v H (Same.refl _) h2⟩
  ·cases e
 ·cases e
def YM (K : PySem.W.Frag) : R2 := fun x y H Q => rIx K x y H Q ∨ Bq x y H Q
theorem YN : cP X (YM X.K) uQ := by
 intro Z H β S x y dx dy dz Q A rx ry e k
 cases ev : dG S dx with
 | some kvs => exact .inr (R6 Z H β S x y dx dy dz Q A rx ry (by unfold ql; unfold uQ at e; rw [ev] at e ⊢; exact e) k)
 | none => exact .inl (Nz Z H β S x y dx dy dz Q A rx ry (by unfold uQ at e; rw [ev] at e; exact e) k)
/-- a[b]: a list, a tuple, a text, a dict -/
theorem YQ (hu : X.A.units + 64 < cLine) (ha : PM (au X) W b X a ma) (hb : PM (au X) W b X e mb) (hs : PlainIx e := by exact fun _ _ => rfl) : PM (au X) W b X (.Subscript a e pos) (aC uQ ma mb) :=
 cX (pe_ix (IxR.or ix_seq (YL (by omega))) ha hb hs) fun σ H Q h => em2 YN h
def uR (S : Store) (x y : D) : Option D := match dG S y with
 | some kvs => match keyD x with
  | some k => some (.bl (rJ kvs k))
  | none => none
 | none => eV S x y
def Br (f : Bool → Bool) : R2 := fun y x H Q => ∃ a o, x = .ref a ∧ DGet H a y o ∧ Q (.bl (f o.isSome)) H
theorem YR (hu : X.A.units + 1 < cLine) : OpR X (compareOp .In) (Br id) := by
 intro pins s σ H y x u v Q I ry rx h
 obtain ⟨a, o, rfl, g, q⟩ := h
 cases rx
 exact d_in hu I g ry fun s3 I3 => ⟨.bl o.isSome, H, I3, rfl, q⟩
theorem YS {k : Key} : ∀ kvs : List (Key × V), (kvs.any fun kv => decide (kv.1 = k)) = (valV kvs k).isSome := valV_any k
theorem YT {f : Bool → Bool} {Z : Addr → Prop} {H : Hp} {β : List Addr} {S : Store} {x y : V} {dx dy : D} {kvs : List (Key × D)} {k : Key} {Q : VK} (A : At (au X) H Z β S) (rx : RV (au X) H Z β x dx) (ry : RV (au X) H Z β y dy)
  (ev : dG S dy = some kvs) (ek : keyD dx = some k) (q : Q (.bl (f (rJ kvs k))) H) : Br f x y H Q := by
 obtain ⟨a, us, rfl, q1, q2⟩ := ry.dG A.st ev
 rw [yG rx ek]
 refine ⟨a, valV us k, rfl, .inl ⟨us, k, q1, rfl, rfl⟩, ?_⟩
 rw [← YS, E9 q2]; exact q
theorem YV (hu : X.A.units + 65 < cLine) : OpR X (compareOp .In) (fun x y H Q => uy X.K id x y H Q ∨ Br id x y H Q) := OpR.or (qd hu) (YR (by omega))
theorem YW : cP X (fun x y H Q => uy X.K id x y H Q ∨ Br id x y H Q) uR := by
 intro Z H β S x y dx dy dz Q A rx ry e k
 unfold uR at e
 split at e
 ·rename_i kvs ev
  split at e
  ·rename_i ky ek
   cases e
   exact .inr (YT A rx ry ev ek (k _ H (Same.refl _) (.bl _)))
  ·cases e
 ·exact .inl (qj Z H β S x y dx dy dz Q A rx ry e k)
end
def rW (o i v : D) (S : Store) : Option Store := match o with
 | .ref n => match S[n]? with
  | some (.dct kvs) => match keyD i with
   | some k => if kvs.length < sizeLine then some (S.set n (.dct (putD kvs k v))) else none
   | none => none
  | _ => uG o i v S
 | _ => none
def rSetD : TSet := fun o i v H Q => ∃ a H', o = .ref a ∧ DPut H a i v H' ∧ Q H'
section
variable {X : Cx} {W : WX} {a e o i : Expr} {me mo mi : EX} {pos : Pos}
theorem set_dict (hu : X.A.units + 1 < cLine) : PSet X rSetD := by
 intro pins s σ H o i v ov iv u Q I ro ri rv h
 obtain ⟨a, H', rfl, g, q⟩ := h
 cases ro
 exact d_setItem hu I g ri rv fun s4 I4 => ⟨H', I4, q⟩
theorem PSet.or {t t' : TSet} (h : PSet X t) (h' : PSet X t') : PSet X (fun o i v H Q => t o i v H Q ∨ t' o i v H Q) := by
 intro pins s σ H o i v ov iv u Q I ro ri rv q
 rcases q with q | q
 ·exact h pins s σ H o i v ov iv u Q I ro ri rv q
 ·exact h' pins s σ H o i v ov iv u Q I ro ri rv q
/-- what a store by a subscript asks and does -/
theorem YX {C : Ct} {cf : Cf} {oa : Nat → Option Addr} {P : Addr → Prop} {σ : L2.St} {H : Hp} {β : List Addr} {ρ : aN} {S S3 : Store} {od id d : D} {ov iv v : V} {Q : Hp → Prop} (L : LR C cf oa P σ H β ρ S) (ro : RV C H P β ov od) (ri : RV C H P β iv id) (rv : RV C H P β v d)
  (e : rW od id d S = some S3) (k : ∀ H', Ext H β H' β → LR C cf oa P σ H' β ρ S3 → Q H') : rSetL ov iv v H Q ∨ rSetD ov iv v H Q := by
 unfold rW at e
 split at e
 ·rename_i n
  cases ro with
  | ref hn =>
   split at e
   ·rename_i kvs eS
    split at e
    ·rename_i ky ek
     split at e
     ·rename_i hl
      cases e
      obtain ⟨us, q1, q2⟩ := L.st.ok _ _ _ hn eS
      have m := List.mem_of_getElem? hn
      have nt := L.st.mK m
      have hf : ∀ o u, H _ ≠ some (.frz o u) := fun o u z => by rw [q1] at z; cases z
      have new : bV C (upd H _ (.dK (putK us ky v))) P β _ (.dct (putD kvs ky d)) := ⟨_, upd_same, (NK (q2.set (.inr m) nt) (rv.set (.inr m) nt))⟩
      rw [yG ri ek]
      refine .inr ⟨_, _, rfl, DPut.k q1 (by rw [q2.length]; exact hl), ?_⟩
      exact k _ (Ext.wrote m nt hf) (L.wrote hn new hf)
     ·cases e
    ·cases e
   ·unfold uG at e
    split at e
    ·rename_i n' kk en
     cases en
     split at e
     ·rename_i xs eS
      split at e
      ·rename_i j ej
       cases e
       obtain ⟨us, q1, q2⟩ := L.st.ok _ _ _ hn eS
       cases ri
       have m := List.mem_of_getElem? hn
       have nt := L.st.mK m
       have hf : ∀ o u, H _ ≠ some (.frz o u) := fun o u z => by rw [q1] at z; cases z
       have new : bV C (upd H _ (.lst (us.set j v))) P β _ (.lst (xs.set j d)) := ⟨_, upd_same, (q2.set' j rv).set (.inr m) nt⟩
       refine .inl ⟨_, us, kk, j, rfl, rfl, q1, by rw [q2.length]; exact ej, ?_⟩
       exact k _ (Ext.wrote m nt hf) (L.wrote hn new hf)
      ·cases e
     ·cases e
    ·cases e
 ·cases e
def yW (f : Store → D → D → Option D) (mo mi me : EX) : SX := fun ρ S => (mo ρ S).st ρ fun o S1 => (mi ρ S1).st ρ fun i S2 => match ql S2 o i with
 | some x => (me ρ S2).st ρ fun y S3 => match f S3 x y with
  | some z => match rW o i z S3 with
   | some S4 => .nx ρ S4
   | none => .stuck
  | none => .stuck
 | none => .stuck
theorem get_dict (hu : X.A.units + 1 < cLine) : PGet X Bq := by
 intro pins s σ H o i ov iv Q I ro ri h
 obtain ⟨a, v, rfl, g, q⟩ := h
 cases ro
 exact d_getItem hu I g ri fun w' s3 I3 rw' => ⟨v, H, I3, rw', q⟩
theorem YY {op : Operator} {r : TIp} {f : Store → D → D → Option D} {tpos : Pos} (hu : X.A.units + 64 < cLine) (hop : PIp X op r) (hm : cP X r f) (ho : PM (au X) W false X o mo) (hi : PM (au X) W false X i mi) (he : PM (au X) W false X e me)
  (ha : ∀ ov iv new, augStore i ov iv new = (do holding [new, ov, iv] (setItem ov iv new); release [new, ov, iv] []; pure .next) := by intros; rfl) : gj (au X) W X (.AugAssign (.Subscript o i tpos) op e pos) (yW f mo mi me) :=
 jh (ps_augS ho hi (get_dict (by omega)) he hop (PSet.or set_list (set_dict (by omega))) ha) fun D σ H h => by
  obtain ⟨cf, oa, P, β, ρ, S, L, h⟩ := h
  unfold yW at h
  refine ⟨cf, oa, P, β, ρ, S, L, ?_⟩
  cases eo : mo ρ S with
  | stuck => rw [eo] at h; exact h
  | exc x S1 => rw [eo] at h; exact jC h
  | ok od S1 =>
   rw [eo] at h
   simp only [R.st] at h
   intro ov H1 β1 t1 L1 r1
   refine ⟨cf, oa, P, β1, ρ, S1, L1, ?_⟩
   cases ei : mi ρ S1 with
   | stuck => rw [ei] at h; exact h
   | exc x S2 => rw [ei] at h; exact jC (SQ.fx (r := .exc x ρ S2) (Fx.of t1.ext) h)
   | ok id S2 =>
    rw [ei] at h
    simp only at h
    intro iv H2 β2 t2 L2 r2
    have r12 := r1.mono t2.ext
    cases ex : ql S2 od id with
    | none => rw [ex] at h; exact h.elim
    | some x =>
     rw [ex] at h
     simp only at h
     refine R6 P H2 β2 S2 ov iv od id x _ L2.at r12 r2 ex fun xv H3 s3 r3 => ?_
     have L3 := L2.same s3
     have R7 := t1.trans (t2.trans (Tr.same s3))
     refine ⟨cf, oa, P, β2, ρ, S2, L3, ?_⟩
     cases ee : me ρ S2 with
     | stuck => rw [ee] at h; exact h
     | exc x S4 => rw [ee] at h; exact jC (SQ.fx (r := .exc x ρ S4) (Fx.of R7.ext) h)
     | ok y S4 =>
      rw [ee] at h
      simp only at h
      intro yv H4 β4 t4 L4 r4
      cases ef : f S4 x y with
      | none => rw [ef] at h; exact h.elim
      | some z =>
       rw [ef] at h
       simp only at h
       refine hm P H4 β4 S4 xv yv x y z _ L4.at (r3.mono t4.ext) r4 ef fun zv H5 s5 r5 => ?_
       have L5 := L4.same s5
       have YZ := R7.trans (t4.trans (Tr.same s5))
       cases es : rW od id z S4 with
       | none => rw [es] at h; exact h.elim
       | some S6 =>
        rw [es] at h
        have w : ∀ {v : V} {d : Mi.D}, RV (au X) H2 P β2 v d → RV (au X) H5 P β4 v d := fun r => ((r.mono (Ext.same s3)).mono t4.ext).mono (Ext.same s5)
        exact YX L5 (w r12) (w r2) r5 es fun H' x L6 => h σ H' β4 oa P L6 ((Fx.of YZ.ext).trans (Fx.of x))
end
def rY (S : Store) : D → Option (List (Key × D))
 | .dct xs => some xs
 | .ref n => match S[n]? with
  | some (.ig xs) => some xs
  | _ => none
 | _ => none
def yX (kvs : List (Key × D)) : List D := kvs.map fun p => kD p.1
/-- the items of a list cA stands still -/
def Bs (S : Store) (d : D) : Option (List D) := match d with
 | .ref n => match S[n]? with
  | some (.cG xs) => some xs
  | _ => none
 | d => itemsOf d
def yY (a : EX) : AX := fun ρ S => (a ρ S).bind fun x S1 => R.opt (match rY S1 x with
 | some kvs => some (yX kvs)
 | none => Bs S1 x) S1
section
variable {X : Cx} {W : WX} {b : Bool} {tg e : Expr} {ma : EX}
theorem RV.rY {C : Ct} {H : Hp} {Z : Addr → Prop} {β : List Addr} {S : Store} {v : V} {d : D} (r : RV C H Z β v d) (s : aU C H Z β S) {ds : List (Key × D)} (h : Mi.rY S d = some ds) : ∃ a o xs, v = .ref a ∧ H a = some (.frz o (.dK xs)) ∧ aP C H Z β xs ds := by
 cases r with
 | dct hp hb hr hs => cases h; obtain ⟨o, q⟩ := hr; exact ⟨_, o, _, rfl, q, hs⟩
 | ref hn =>
  simp only [Mi.rY] at h
  split at h
  ·rename_i xs e
   cases h
   obtain ⟨od, us, q1, q2⟩ := s.ok _ _ _ hn e
   exact ⟨_, od, us, rfl, q1, q2⟩
  ·cases h
 | _ => cases h
theorem Z0 {C : Ct} {H : Hp} {P : Addr → Prop} {β : List Addr} {a : Addr} {o : Obj} {xs : List (Key × V)} {ds : List (Key × D)} (e : H a = some (.frz o (.dK xs))) (rs : aP C H P β xs ds) : lH C (Itk a o xs) (yX ds) H P β := by
 intro i H2 P2 β2 f n
 have q := f.fz _ _ _ e
 refine ⟨fun d hd => ?_, fun hl => ⟨q, by rw [DI rs]; unfold yX at hl; rw [List.length_map] at hl; exact Nat.le_of_eq hl⟩⟩
 unfold yX at hd
 rw [List.getElem?_map] at hd
 cases ed : ds[i]? with
 | none => rw [ed] at hd; cases hd
 | some p =>
  obtain ⟨k, d'⟩ := p
  rw [ed] at hd
  cases hd
  obtain ⟨v, hv, _⟩ := DH rs ed
  refine ⟨⟨q, (List.getElem?_eq_some_iff.mp hv).1⟩, fun x H3 y => ?_⟩
  obtain ⟨rfl, k', v', hk, rfl⟩ := y
  rw [hv] at hk
  cases hk
  exact ⟨Same.refl _, MO _⟩
theorem Z1 (he : PM (au X) W b X e ma) : pU (au X) W b X tg e (yY ma) := yc (MP (DG he) (pi_keys he)) fun σ H R h => by
 obtain ⟨cf, oa, P, β, ρ, S, L, h⟩ := h
 unfold yY at h
 cases ea : ma ρ S with
 | stuck => rw [ea] at h; exact h.elim
 | exc e S1 => rw [ea] at h; exact .inl ⟨cf, oa, P, β, ρ, S, L, by rw [ea]; exact h⟩
 | ok d S1 =>
  rw [ea] at h
  simp only [Mi.R.bind] at h
  cases ev : rY S1 d with
  | none =>
   rw [ev] at h
   refine .inl ⟨cf, oa, P, β, ρ, S, L, ?_⟩
   rw [ea]
   intro v H1 β1 t L1 r
   simp only at h
   cases r with
   | lst hp hb hr hs =>
    refine .inl ⟨_, rfl, ⟨_, .inl hr⟩, h _ H1 β1 t L1 ?_⟩
    exact vN (fun H2 P2 β2 f => .inl (f.con _ _ hp hb hr).1) hs
   | tup hr hs =>
    refine .inr (.inl ⟨_, rfl, ⟨_, .inl hr⟩, h _ H1 β1 t L1 ?_⟩)
    exact Ax (fun H2 P2 β2 f => .inl (f.tups _ _ hr)) hs
   | fK k hs =>
    refine .inr (.inl ⟨_, rfl, ⟨_, .inr k⟩, h _ H1 β1 t L1 ?_⟩)
    exact Ax (fun H2 P2 β2 f => .inr k) hs
   | fL k hs =>
    refine .inl ⟨_, rfl, ⟨_, .inr k⟩, h _ H1 β1 t L1 ?_⟩
    exact vN (fun H2 P2 β2 f => .inr k) hs
   | str z => exact .inr (.inr ⟨z, rfl, h _ H1 β1 t L1 MQ⟩)
   | dct _ _ _ _ => cases ev
   | @ref n0 a0 hn =>
    simp only [Bs] at h
    cases eS : S1[n0]? with
    | none => rw [eS] at h; exact h.elim
    | some so =>
     rw [eS] at h
     cases so with
     | cG xs =>
      obtain ⟨od, us, q1, q2⟩ := L1.st.ok _ _ _ hn eS
      refine .inl ⟨_, rfl, ⟨us, .inl (.inr ⟨od, q1⟩)⟩, h _ H1 β1 t L1 ?_⟩
      exact vN (fun H2 P2 β2 f => .inl (.inr ⟨od, f.fz _ _ _ q1⟩)) q2
     | _ => exact h.elim
   | _ => exact h.elim
  | some kvs =>
   rw [ev] at h
   refine .inr ⟨cf, oa, P, β, ρ, S, L, ?_⟩
   rw [ea]
   intro v H1 β1 t L1 r
   obtain ⟨a, o, xs, rfl, q1, q2⟩ := r.rY L1.st ev
   exact ⟨a, o, rfl, .inl ⟨xs, q1, h _ H1 β1 t L1 (Z0 q1 q2)⟩⟩
end
def wu : SO → Option SO
 | .dct k => some (.ig k)
 | .lst x => some (.cG x)
 | _ => none
def yZ : SO → Option SO
 | .ig k => some (.dct k)
 | .cG x => some (.lst x)
 | _ => none
def iV (n : Nat) (S : Store) : Option Store := match S[n]? with
 | some so => match yZ so with
  | some so' => some (S.set n so')
  | none => none
 | none => none
theorem Bt {n : Nat} {S S' : Store} (h : iV n S = some S') : ∃ so so', S[n]? = some so ∧ yZ so = some so' ∧ S' = S.set n so' := by
 unfold iV at h
 cases e : S[n]? with
 | none => rw [e] at h; cases h
 | some so =>
  rw [e] at h
  simp only at h
  cases e2 : yZ so with
  | none => rw [e2] at h; cases h
  | some so' => rw [e2] at h; cases h; exact ⟨so, so', rfl, e2, rfl⟩
/-- the list or dict of the store cA md names: its place, what stands there, the same locked -/
def lQ (md : EX) (ρ : aN) (S : Store) : Option (Nat × SO) := match md ρ S with
 | .ok (.ref n) _ => match S[n]? with
  | some so => match wu so with
   | some so' => some (n, so')
   | none => none
  | none => none
 | _ => none
theorem Z2 {md : EX} {ρ : aN} {S : Store} {n : Nat} {so' : SO} (h : lQ md ρ S = some (n, so')) : ∃ so, S[n]? = some so ∧ wu so = some so' := by
 unfold lQ at h
 cases e : md ρ S with
 | ok d S0 =>
  rw [e] at h
  cases d with
  | ref n' =>
   simp only at h
   cases e2 : S[n']? with
   | none => rw [e2] at h; cases h
   | some so =>
    rw [e2] at h
    simp only at h
    cases e3 : wu so with
    | none => rw [e3] at h; cases h
    | some s' => rw [e3] at h; cases h; exact ⟨so, e2, e3⟩
  | _ => cases h
 | _ => rw [e] at h; cases h
def qm (n : Nat) : SR → SR
 | .nx ρ S => match iV n S with
  | some S3 => .nx ρ S3
  | none => .stuck
 | .bk ρ S => match iV n S with
  | some S3 => .bk ρ S3
  | none => .stuck
 | .ct ρ S => match iV n S with
  | some S3 => .ct ρ S3
  | none => .stuck
 | .rt d S => match iV n S with
  | some S3 => .rt d S3
  | none => .stuck
 | .exc e ρ S => .exc e ρ S
 | .stuck => .stuck
def z7 (md : EX) (s : SX) : SX := fun ρ S => match lQ md ρ S with
 | some p => qm p.1 (s ρ (S.set p.1 p.2))
 | none => s ρ S
section
variable {C : Ct} {cf : Cf} {oa bB : Nat → Option Addr} {P P' : Addr → Prop} {σ σ' : L2.St} {H H' : Hp} {β β' : List Addr} {ρ ρ' : aN} {S S2 : Store}
theorem g8.setB {a : Addr} {e : bT} {p : Addr} {o : HO} (h : g8 C H P β a e) (hp : p ∈ β) (ht : ∀ xs, ¬ Rd H p (.tup xs)) : g8 C (upd H p o) P β a e := by
 obtain ⟨oe, Ca, dd, vs, h1, h2, h3, h4, h5, h6, h7, h8⟩ := h
 exact ⟨oe, Ca, dd, vs, h1, h2, h3, h4, by rw [upd_ne (show dd ≠ p from fun z => h6 (by rw [z]; exact hp))]; exact h5, h6, h7, fun f y q => let ⟨v, q1, q2⟩ := h8 f y q; ⟨v, q1, q2.set (.inr hp) ht⟩⟩
/-- what the lock needs -/
structure Lk (H : Hp) (β : List Addr) (n : Nat) (a : Addr) (u : HO) : Prop where
 at_ : β[n]? = some a
 dk : H a = some u
 mu : Mut (some u)
 fr : ∀ o v, u ≠ .frz o v
 tu : ∀ ys, u ≠ .tup ys
theorem Lk.ne {n : Nat} {a : Addr} {u : HO} (k : Lk H β n a u) : ∀ o u, H a ≠ some (.frz o u) := fun o u z => by rw [k.dk] at z; cases z; exact k.fr _ _ rfl
theorem Lk.nt {n : Nat} {a : Addr} {u : HO} (k : Lk H β n a u) : ∀ ys, ¬ Rd H a (.tup ys) := fun ys z => by
 rcases z with z | ⟨o, z⟩
 ·rw [k.dk] at z; cases z; exact k.tu _ rfl
 ·rw [k.dk] at z; cases z; exact k.fr _ _ rfl
theorem LR.lk (L : LR C cf oa P σ H β ρ S) {n : Nat} {so so' : SO} {a : Addr} (hn : β[n]? = some a) (e : S[n]? = some so) (e' : wu so = some so') : ∃ u, Lk H β n a u ∧ ∀ od, bV C (upd H a (.frz od u)) P β a so' := by
 have q := L.st.ok _ _ _ hn e
 have m := List.mem_of_getElem? hn
 have nt := L.st.mK m
 cases so with
 | dct kvs =>
  cases e'
  obtain ⟨us, q1, q2⟩ := q
  exact ⟨.dK us, ⟨hn, q1, True.intro, (fun _ _ z => nomatch z), (fun _ z => nomatch z)⟩, fun od => ⟨od, us, upd_same, q2.set (.inr m) nt⟩⟩
 | lst xs =>
  cases e'
  obtain ⟨us, q1, q2⟩ := q
  exact ⟨.lst us, ⟨hn, q1, True.intro, (fun _ _ z => nomatch z), (fun _ z => nomatch z)⟩, fun od => ⟨od, us, upd_same, q2.set (.inr m) nt⟩⟩
 | _ => cases e'
theorem Z3 {a : Addr} {so so' : SO} {od : Obj} {u : HO} (h : bV C H P β a so) (e : yZ so = some so') (hu : H a = some (.frz od u)) (m : a ∈ β) (nt : ∀ ys, ¬ Rd H a (.tup ys)) : bV C (upd H a u) P β a so' := by
 cases so with
 | ig kvs =>
  cases e
  obtain ⟨od', us, q1, q2⟩ := h
  rw [hu] at q1
  cases q1
  exact ⟨us, upd_same, q2.set (.inr m) nt⟩
 | cG xs =>
  cases e
  obtain ⟨od', us, q1, q2⟩ := h
  rw [hu] at q1
  cases q1
  exact ⟨us, upd_same, q2.set (.inr m) nt⟩
 | _ => cases e
theorem LR.Z4 (L : LR C cf oa P σ H β ρ S) {n : Nat} {so' : SO} {a : Addr} {u : HO} (k : Lk H β n a u) (od : Obj) (new : bV C (upd H a (.frz od u)) P β a so') :
  LR C cf oa P σ (upd H a (.frz od u)) β ρ (S.set n so') ∧ Ext H β (upd H a (.frz od u)) β := by
 have m := List.mem_of_getElem? k.at_
 exact ⟨L.wrote k.at_ new k.ne, Ext.wrote m k.nt k.ne⟩
/-- taken back -/
theorem LR.Bu (L : LR C cf oa P σ H β ρ S) {n : Nat} {a : Addr} {u : HO} (k : Lk H β n a u) {od : Obj} (L' : LR C cf bB P' σ' H' β' ρ' S2) (f : Fs (upd H a (.frz od u)) β H' β') {so so' : SO} (e : S2[n]? = some so) (e' : yZ so = some so') :
  H' a = some (.frz od u) ∧ β'[n]? = some a ∧ (∀ ys, ¬ Rd H' a (.tup ys)) ∧ LR C cf bB P' σ' (upd H' a u) β' ρ' (S2.set n so') := by
 have ha : H' a = some (.frz od u) := f.fz a od _ upd_same
 have hn : β'[n]? = some a := by
  obtain ⟨γ, r⟩ := f.pre
  rw [r, List.getElem?_append_left (List.getElem?_eq_some_iff.mp k.at_).1]; exact k.at_
 have m := List.mem_of_getElem? hn
 have nt : ∀ ys, ¬ Rd H' a (.tup ys) := fun ys z => by
  rcases z with z | ⟨o, z⟩
  ·rw [ha] at z; cases z
  ·rw [ha] at z; cases z; exact k.tu _ rfl
 have new : bV C (upd H' a u) P' β' a so' := Z3 (L'.st.ok _ _ _ hn e) e' ha m nt
 refine ⟨ha, hn, nt, ?_⟩
 exact {
  len := L'.len
  p := fun b h => ⟨by
   by_cases e : b = a
   ·rw [e, upd_same]; exact Option.some_ne_none _
   ·rw [upd_ne e]; exact (L'.p b h).1, (L'.p b h).2⟩
  sub := L'.sub
  p0 := L'.p0
  ext := {
   pre := L'.ext.pre
   keep := fun b o h hb => by
    have ne : b ≠ a := fun z => (L'.ext.fresh a m).elim (fun q => hb (z ▸ q)) fun q => by rw [z, q] at h; cases h
    rw [upd_ne ne]; exact L'.ext.keep b o h hb
   fresh := L'.ext.fresh
   tups := fun b ys h => by
    have r := L'.ext.tups b ys h
    have ne : b ≠ a := fun z => nt ys (z ▸ r)
    unfold Rd; rw [upd_ne ne]; exact r
   stay := fun b h => by
    by_cases e : b = a
    ·rw [e, upd_same]; exact Option.some_ne_none _
    ·rw [upd_ne e]; exact L'.ext.stay b h
   fB := fun b o v h => by
    have ne : b ≠ a := fun z => k.ne o v (by have := L.ext.fB b o v h; rw [z] at this; exact this)
    rw [upd_ne ne]; exact L'.ext.fB b o v h }
  own := L'.own
  inj := L'.inj
  st := L'.st.set hn new
  slot := fun i d h => let ⟨v, q1, q2⟩ := L'.slot i d h; ⟨v, q1, q2.set (.inr m) nt⟩
  bY := fun i d h => let ⟨b, q1, q2, q3⟩ := L'.bY i d h; ⟨b, q1, q2, q3.set (.inr m) nt fun z => (L'.p b (L'.own i b q1).1).2 (z ▸ m)⟩
  xslot := fun i x h => let ⟨b, q1, q2⟩ := L'.xslot i x h; ⟨b, q1, q2.setB m nt⟩ }
/-- the way as a whole -/
theorem Lk.ext {n : Nat} {a : Addr} {u : HO} (k : Lk H β n a u) {od : Obj} (x : Ext (upd H a (.frz od u)) β H' β') (nt : ∀ ys, ¬ Rd H' a (.tup ys)) : Ext H β (upd H' a u) β' := by
 have m := List.mem_of_getElem? k.at_
 have x1 : Ext H β (upd H a (.frz od u)) β := Ext.wrote m k.nt k.ne
 have x2 := x1.trans x
 refine ⟨x2.pre, fun b o h hb => ?_, x2.fresh, fun b ys h => ?_, fun b h => ?_, fun b o v h => ?_⟩
 ·rw [upd_ne (fun z => hb (by rw [z]; exact m))]; exact x2.keep b o h hb
 ·have r := x2.tups b ys h
  have ne : b ≠ a := fun z => nt ys (z ▸ r)
  unfold Rd; rw [upd_ne ne]; exact r
 ·by_cases e : b = a
  ·rw [e, upd_same]; exact Option.some_ne_none _
  ·rw [upd_ne e]; exact x2.stay b h
 ·have ne : b ≠ a := fun z => k.ne o v (z ▸ h)
  rw [upd_ne ne]; exact x2.fB b o v h
theorem Lk.fx {n : Nat} {a : Addr} {u : HO} (k : Lk H β n a u) {od : Obj} (x : Fx (upd H a (.frz od u)) P β H' P' β') (hm : a ∈ β') (nt : ∀ ys, ¬ Rd H' a (.tup ys)) : Fx H P β (upd H' a u) P' β' := by
 have m := List.mem_of_getElem? k.at_
 have x1 : Ext H β (upd H a (.frz od u)) β := Ext.wrote m k.nt k.ne
 have x2 := (Fx.of (P := P) x1).trans x
 refine ⟨x2.pre, fun b v h1 h2 r => ?_, fun b o v h => ?_, fun b ys h => ?_⟩
 ·obtain ⟨q1, q2, q3⟩ := x2.con b v h1 h2 r
  have ne : b ≠ a := fun z => q3 (z ▸ hm)
  exact ⟨by unfold Rd; rw [upd_ne ne]; exact q1, q2, q3⟩
 ·have ne : b ≠ a := fun z => k.ne o v (z ▸ h)
  rw [upd_ne ne]; exact x2.fz b o v h
 ·have r := x2.tups b ys h
  have ne : b ≠ a := fun z => nt ys (z ▸ r)
  unfold Rd; rw [upd_ne ne]; exact r
theorem Lk.fs {n : Nat} {a : Addr} {u : HO} (k : Lk H β n a u) {od : Obj} (x : Fs (upd H a (.frz od u)) β H' β') : Fs H β (upd H' a u) β' := by
 refine ⟨x.pre, fun b o v h => ?_⟩
 have ne : b ≠ a := fun z => k.ne o v (z ▸ h)
 rw [upd_ne ne]; exact x.fz b o v (by rw [upd_ne ne]; exact h)
end
section
variable {X : Cx} {W : WX} {e : Expr} {m md : EX} {s : SX} {st : Stmt}
theorem Z5 {t1 t2 : TS} (a : PS X st t1) (b : PS X st t2) : PS X st (fun D σ H => t1 D σ H ∨ t2 D σ H) := ⟨fun pins s σ H Q I h => h.elim (a.run pins s σ H Q I) (b.run pins s σ H Q I)⟩
theorem Z6 (h : gj (au X) W X st s) : gj (au X) W X st (z7 md s) := jh (Z5 h (ps_lock h)) fun D σ H h => by
 obtain ⟨cf, oa, P, β, ρ, S, L, h⟩ := h
 unfold z7 at h
 cases Fj : lQ md ρ S with
 | none => rw [Fj] at h; exact .inl ⟨cf, oa, P, β, ρ, S, L, h⟩
 | some p =>
   obtain ⟨n, so'⟩ := p
   rw [Fj] at h
   obtain ⟨so, eS, eL⟩ := Z2 Fj
   simp only at h
   have hl : n < β.length := by rw [L.st.len]; exact (List.getElem?_eq_some_iff.mp eS).1
   obtain ⟨u, k, rk⟩ := L.lk (List.getElem?_eq_getElem hl) eS eL
   refine .inr ⟨_, u, k.dk, k.mu, fun od => ?_⟩
   obtain ⟨L1, x1⟩ := L.Z4 k od (rk od)
   refine ⟨cf, oa, P, β, ρ, _, L1, ?_⟩
   cases em : s ρ (S.set n so') with
   | stuck => rw [em] at h; exact h
   | exc x ρ2 S2 =>
    rw [em] at h
    intro cls d σ' H' β' bB P' L2 f2 ex
    exact h cls d σ' H' β' bB P' L2 ((Fx.of x1).trans f2) ex
   | nx ρ2 S2 =>
    rw [em] at h
    simp only [qm] at h
    intro σ' H' β' bB P' L2 f2
    cases eu : iV n S2 with
    | none => rw [eu] at h; exact h.elim
    | some S3 =>
     rw [eu] at h
     obtain ⟨sa, sb, e2, e3, rfl⟩ := Bt eu
     obtain ⟨q1, q2, q3, L3⟩ := L.Bu k L2 f2.fs e2 e3
     exact ⟨q1, h σ' _ β' bB P' L3 (k.fx f2 (List.mem_of_getElem? q2) q3)⟩
   | bk ρ2 S2 =>
    rw [em] at h
    simp only [qm] at h
    intro σ' H' β' bB P' L2 f2
    cases eu : iV n S2 with
    | none => rw [eu] at h; exact h.elim
    | some S3 =>
     rw [eu] at h
     obtain ⟨sa, sb, e2, e3, rfl⟩ := Bt eu
     obtain ⟨q1, q2, q3, L3⟩ := L.Bu k L2 f2.fs e2 e3
     exact ⟨q1, h σ' _ β' bB P' L3 (k.fx f2 (List.mem_of_getElem? q2) q3)⟩
   | ct ρ2 S2 =>
    rw [em] at h
    simp only [qm] at h
    intro σ' H' β' bB P' L2 f2
    cases eu : iV n S2 with
    | none => rw [eu] at h; exact h.elim
    | some S3 =>
     rw [eu] at h
     obtain ⟨sa, sb, e2, e3, rfl⟩ := Bt eu
     obtain ⟨q1, q2, q3, L3⟩ := L.Bu k L2 f2.fs e2 e3
     exact ⟨q1, h σ' _ β' bB P' L3 (k.fx f2 (List.mem_of_getElem? q2) q3)⟩
   | rt d S2 =>
    rw [em] at h
    simp only [qm] at h
    intro v H' β' x2 f2 s2 r2
    cases eu : iV n S2 with
    | none => rw [eu] at h; exact h.elim
    | some S3 =>
     rw [eu] at h
     obtain ⟨sa, sb, e2, e3, rfl⟩ := Bt eu
     have L2 : LR (au X) cf (fun _ => none) cf.P0 [] H' β' [] S2 :=
      ⟨rfl, fun b hb => ⟨x2.stay b (L.p0 b hb), fun m => by
       rcases x2.fresh b m with q | q
       ·exact (L.p b (L.sub b hb)).2 (by obtain ⟨γ, e⟩ := L.ext.pre; rw [e]; exact List.mem_append_left _ q)
       ·exact L.p0 b hb q⟩, fun _ h => h, L.p0, x2, (fun _ _ h => nomatch h), (fun _ _ _ h => nomatch h), s2, (fun i d h => by cases h), (fun i d h => by cases h), (fun i d h => by cases h)⟩
     obtain ⟨q1, q2, q3, L3⟩ := L.Bu k L2 f2 e2 e3
     exact ⟨q1, h v _ β' L3.ext (k.fs f2) L3.st (r2.set (.inr (List.mem_of_getElem? q2)) q3)⟩
end
section
variable {a md mo mi me : EX} {ρ : aN} {S : Store} {QL : List D → Store → Prop} {E : bT → Store → Prop} {N : aN → Store → Prop} {p : Po} {s : SX}
def z8 (S : Store) (x : D) : Option (List D) := match rY S x with
 | some kvs => some (yX kvs)
 | none => Bs S x
theorem Bv : (yY a ρ S).al QL E ↔ (a ρ S).al (fun x S1 => ∃ ds, z8 S1 x = some ds ∧ QL ds S1) E := by
 unfold yY; rw [eE]
 refine iff_of_eq (congrArg (fun z => R.al (a ρ S) z _) (funext fun x => funext fun S1 => propext ?_))
 rw [jd]; rfl
theorem Bw : (z7 md s ρ S).al N p ↔ match lQ md ρ S with
  | some q => (s ρ (S.set q.1 q.2)).al (fun ρ2 S2 => ∃ S3, iV q.1 S2 = some S3 ∧ N ρ2 S3) ⟨fun d S2 => ∃ S3, iV q.1 S2 = some S3 ∧ p.T d S3, p.E, fun ρ2 S2 => ∃ S3, iV q.1 S2 = some S3 ∧ p.B ρ2 S3, fun ρ2 S2 => ∃ S3, iV q.1 S2 = some S3 ∧ p.C ρ2 S3, p.X⟩
  | none => (s ρ S).al N p := by
 unfold z7
 cases lQ md ρ S with
 | none => exact Iff.rfl
 | some q =>
  simp only
  cases s ρ (S.set q.1 q.2) with
  | nx ρ2 S2 => simp only [qm, SR.al]; cases h1 : iV q.1 S2 <;> simp [SR.al]
  | bk ρ2 S2 => simp only [qm, SR.al]; cases h1 : iV q.1 S2 <;> simp [SR.al]
  | ct ρ2 S2 => simp only [qm, SR.al]; cases h1 : iV q.1 S2 <;> simp [SR.al]
  | rt d S2 => simp only [qm, SR.al]; cases h1 : iV q.1 S2 <;> simp [SR.al]
  | exc e ρ2 S2 => exact Iff.rfl
  | stuck => exact Iff.rfl
theorem Z7 {f : Store → D → D → Option D} : (yW f mo mi me ρ S).al N p ↔ (mo ρ S).al (fun o S1 => (mi ρ S1).al (fun i S2 => ∃ x, ql S2 o i = some x ∧ (me ρ S2).al (fun y S3 => ∃ z, f S3 x y = some z ∧ ∃ S4, rW o i z S3 = some S4 ∧ N ρ S4) (fun e S => p.E e S ∧ p.X e ρ S)) (fun e S => p.E e S ∧ p.X e ρ S)) (fun e S => p.E e S ∧ p.X e ρ S) := by
 unfold yW
 rw [jR]
 refine iff_of_eq (congrArg (fun z => R.al (mo ρ S) z _) (funext fun o => funext fun S1 => propext ?_))
 rw [jR]
 refine iff_of_eq (congrArg (fun z => R.al (mi ρ S1) z _) (funext fun i => funext fun S2 => propext ?_))
 cases h1 : ql S2 o i with
 | none => simp [SR.al]
 | some x =>
  simp only [jR, Option.some.injEq, exists_eq_left']
  refine iff_of_eq (congrArg (fun z => R.al (me ρ S2) z _) (funext fun y => funext fun S3 => propext ?_))
  cases h2 : f S3 x y with
  | none => simp [SR.al]
  | some z =>
   cases h3 : rW o i z S3 <;> simp [SR.al, h3]
end
structure Gn (n : Nat) (S S' : Store) : Prop where
 at_ : fG S' n
 len : S'.length = S.length
 same : ∀ k, k ≠ n → S'[k]? = S[k]?
theorem Gn.refl {n : Nat} {S : Store} (h : fG S n) : Gn n S S := ⟨h, rfl, fun _ _ => rfl⟩
theorem Gn.trans {n : Nat} {S S1 S2 : Store} (a : Gn n S S1) (b : Gn n S1 S2) : Gn n S S2 := ⟨b.at_, b.len.trans a.len, fun k h => (b.same k h).trans (a.same k h)⟩
theorem wz {S : Store} {n : Nat} {m : Int} {Q : D → Store → Prop} {E : bT → Store → Prop} (h : fG S n) (h0 : 0 < m) (h1 : m < 1073741824) (k : ∀ d S', 0 ≤ d → d < m → Gn n S S' → Q (.int d) S') : ((aX 3 yI) [.ref n, .int m] S).al Q E := by
 obtain ⟨d, a, b, e, d0, d1, a0, b0, b1⟩ := Pn h h0 h1
 rw [e]
 have hl : n < S.length := by obtain ⟨_, _, e, _⟩ := h; exact (List.getElem?_eq_some_iff.mp e).1
 exact k d _ d0 d1 ⟨⟨a, b, List.getElem?_set_self hl, a0, b0, b1⟩, List.length_set, fun k hk => List.getElem?_set_ne hk.symm⟩
theorem Z8 {S : Store} {n : Nat} (h : fG S n) : RS S n S := by
 obtain ⟨a, b, e, a0, b0, b1⟩ := h
 obtain ⟨hl, e⟩ := List.getElem?_eq_some_iff.mp e
 refine ⟨a, b, a0, b0, b1, hl, ?_⟩
 rw [← e]
 exact (List.set_getElem_self hl).symm
theorem RS.gn {S S' : Store} {n : Nat} (h : RS S n S') : Gn n S S' := by
 obtain ⟨a, b, a0, b0, b1, hl, rfl⟩ := h
 exact ⟨⟨a, b, List.getElem?_set_self hl, a0, b0, b1⟩, List.length_set, fun k hk => List.getElem?_set_ne hk.symm⟩
theorem fG.app {S J : Store} {n : Nat} (h : fG S n) : fG (S ++ J) n := by
 obtain ⟨a, b, e, r⟩ := h
 exact ⟨a, b, by rw [List.getElem?_append_left (List.getElem?_eq_some_iff.mp e).1]; exact e, r⟩
theorem fG.lt {S : Store} {n : Nat} (h : fG S n) : n < S.length := by
 obtain ⟨a, b, e, r⟩ := h
 exact (List.getElem?_eq_some_iff.mp e).1
mutual
theorem uU {S : Store} : ∀ d : D, gU d = true → stp S d = d
 | .non, _ => rfl
 | .bl _, _ => rfl
 | .int _, _ => rfl
 | .str _, _ => rfl
 | .tup xs, h => by simp only [stp]; rw [Fl xs (by simpa only [gU] using h)]
 | .lst xs, h => by simp only [stp]; rw [Fl xs (by simpa only [gU] using h)]
 | .dct xs, h => by simp only [stp]; rw [R8 xs (by simpa only [gU] using h)]
 | .ref _, h => by simp only [gU, Bool.false_eq_true] at h
 | .ty _, _ => rfl
 | .fn _, _ => rfl
theorem Fl {S : Store} : ∀ ds : List D, pZ ds = true → jG S ds = ds
 | [], _ => rfl
 | d :: r, h => by
  simp only [pZ, Bool.and_eq_true] at h
  simp only [jG]; rw [uU d h.1, Fl r h.2]
theorem R8 {S : Store} : ∀ ds : List (Key × D), vP ds = true → ux S ds = ds
 | [], _ => rfl
 | (k, d) :: r, h => by
  simp only [vP, DU, Bool.and_eq_true] at h
  simp only [ux, DR]; rw [uU d h.1, R8 r h.2]
end
/-- one step is enough -/
theorem Z9 {S : Store} {d d' : D} (h : stp S d = d') (h' : gU d' = true) : top S d = d' := by
 unfold top
 split
 ·rename_i hn; rw [← h, uU d hn]
 ·rw [h, uU d' h', uU d' h', uU d' h', uU d' h']
theorem Za {S : Store} {d d' : D} (h : top S d = d') (h' : gU d' = true) : d9 S [d] = d9 S [d'] := by
 unfold d9
 simp only [h, Bf h']
/-- what a class must have for isinstance -/
structure CI (K : PySem.W.Frag) (C : Addr) : Prop where
 ha : PySem.W.findIn K (.ref C) "__class__" = some (some (.builtin "object.__class__"))
 hn : PySem.W.specialIn K (.builtin "object.__class__") "__get__" = some (some (.builtin "getset_descriptor.__get__"))
 tk : PySem.W.takesIn K (.builtin "object.__class__") = some true
 mo : PySem.W.mroIn K C (.type "object") = some true
 ct : PySem.W.typeIn K (.ref C) = some (.type "type")
/-- what a class must have -/
structure R9 (K : PySem.W.Frag) (mg : Str → Option Value) (c : Str) : Prop where
 ex : ∃ Ca, mg c = some (.ref Ca) ∧ Cls K Ca ∧ CI K Ca
structure Zb (K : PySem.W.Frag) (mg : Str → Option Value) (f c : Str) : Prop where
 ex : ∃ Ca, mg c = some (.ref Ca) ∧ NoAttr K Ca f
def qp (K : PySem.W.Frag) (mg : Str → Option Value) : List Str → Prop
 | [] => True
 | c :: r => R9 K mg c ∧ qp K mg r
def Bx (K : PySem.W.Frag) (mg : Str → Option Value) (f : Str) : List Str → Prop
 | [] => True
 | c :: r => Zb K mg f c ∧ Bx K mg f r
theorem qp.ci {K : PySem.W.Frag} {mg : Str → Option Value} {c : Str} {Ca : Addr} : ∀ {cs : List Str}, qp K mg cs → cs.contains c = true → mg c = some (.ref Ca) → Cls K Ca ∧ CI K Ca
 | [], _, h, _ => by cases h
 | x :: r, ⟨q, t⟩, h, m => by
  by_cases e : c = x
  ·subst e
   obtain ⟨Cb, h1, h2⟩ := q.ex
   rw [m] at h1; cases h1; exact h2
  ·exact qp.ci t (by rw [List.contains_cons] at h; simpa [e] using h) m
theorem qp.at {K : PySem.W.Frag} {mg : Str → Option Value} {c : Str} {Ca : Addr} {cs : List Str} (h : qp K mg cs) (q : cs.contains c = true) (m : mg c = some (.ref Ca)) : Cls K Ca := (h.ci q m).1
theorem qp.has {K : PySem.W.Frag} {mg : Str → Option Value} {c : Str} : ∀ {cs : List Str}, qp K mg cs → cs.contains c = true → ∃ Ca, mg c = some (.ref Ca) ∧ Cls K Ca ∧ CI K Ca
 | [], _, h => by cases h
 | x :: r, ⟨q, t⟩, h => by
  by_cases e : c = x
  ·subst e
   obtain ⟨Cb, h1, h3, h2⟩ := q.ex
   exact ⟨Cb, h1, h3, h2⟩
  ·exact qp.has t (by rw [List.contains_cons] at h; simpa [e] using h)
theorem Bx.at {K : PySem.W.Frag} {mg : Str → Option Value} {f c : Str} {Ca : Addr} : ∀ {cs : List Str}, Bx K mg f cs → cs.contains c = true → mg c = some (.ref Ca) → NoAttr K Ca f
 | [], _, h, _ => by cases h
 | x :: r, ⟨q, t⟩, h, m => by
  by_cases e : c = x
  ·subst e
   obtain ⟨Cb, h1, h2⟩ := q.ex
   rw [m] at h1; cases h1; exact h2
  ·exact Bx.at t (by rw [List.contains_cons] at h; simpa [e] using h) m
theorem xP.set {C : Ct} {H : Hp} {P : Addr → Prop} {β : List Addr} {vs : List (Str × V)} {fs : List (Str × D)} {p : Addr} {o : HO} (h : xP C H P β vs fs) (hp : P p ∨ p ∈ β) (ht : ∀ xs, ¬ Rd H p (.tup xs)) : xP C (upd H p o) P β vs fs := ⟨h.1, h.2.set hp ht⟩
/-- how a call binds: idx places among the positional values, the keywords' values and all keyword-only defaults dvs -/
structure Bnd (K : PySem.W.Frag) (fd : FuncData) (ps ks : List Str) (n : Nat) (idx : List Nat) (dvs : List V) : Prop where
 to : ∃ its : List Value, Vals dvs its ∧ ∀ (s : Shared) (us ws : List Value), K.In s.heap → us.length = n → ws.length = ks.length → BindsTo s fd ⟨us, ks.zip ws⟩ (ps.zip (pick idx us (ws ++ its)))
section
variable {K : PySem.W.Frag} {x qual : Str} {st : Stmt} {kws : List (Str × V)} {fa : Addr} {fd : FuncData} {ps ks : List Str} {n : Nat} {idx lk : List Nat}
abbrev Ra (K : PySem.W.Frag) (x qual : Str) (st : Stmt) (kws : List (Str × V)) (fa : Addr) (fd : FuncData) : Prop := FunD K x qual (defArgs st) (defBody st) (defScope st) [] kws fa fd
theorem Rb (F : Ra K x qual st kws fa fd) (B : ug st ps ks n idx) : Bnd K fd ps ks n idx [] := by
 obtain ⟨oc, od, dV, kV, doc, pm, an, cdv, ct, osl, rfl, lk, hcd, hD, hK⟩ := F.ex
 rcases hD with ⟨_, rfl⟩ | ⟨e, _⟩
 ·exact ⟨[], .nil, fun s us ws _ hu hw => .of_eq (by rw [List.append_nil]; exact B x qual kV doc pm an cdv ct us ws hu hw)⟩
 ·exact absurd rfl e
end
/-- values cA read as ds Ws VN stand -/
def CD (K : PySem.W.Frag) (vs : List V) (ds : List D) : Prop := ∀ (C : Ct), C.K = K → ∀ (H : Hp) (P : Addr → Prop) (β : List Addr), aD C H P β vs ds
structure MR where
 idx : List Nat
 dd : List D
 f : FX
/-- a YD method cA keeps its promise -/
structure Rf (P : Program) (w : World) (K : PySem.W.Frag) (mg : Str → Option Value) (base : Heap) (k : Nat) (c m : Str) (st : Stmt) (ps : List Str) (kd : List (Str × D)) (f : FX) : Prop where
 ex : ∃ (Ca fa : Addr) (x qual : Str) (fd : FuncData) (kws : List (Str × V)), mg c = some (.ref Ca) ∧ Cls K Ca ∧ Meth K Ca m fa ∧ Ra K x qual st kws fa fd ∧ kws.map (·.1) = kd.map (·.1) ∧ CD K (kws.map (·.2)) (kd.map (·.2)) ∧ fJ P w K mg base k fa fd ps (gK ⟨K, mg, w, []⟩ ps.length f)
/-- a method at a call -/
structure MethAt (X : Cx) (k n : Nat) (ks : List Str) (m c : Str) (r : MR) : Prop where
 ex : ∃ (Ca fa : Addr) (fd : FuncData) (ps : List Str) (dvs : List V), X.mg c = some (.ref Ca) ∧ Cls X.K Ca ∧ Meth X.K Ca m fa ∧ fJ X.prog X.w X.K X.mg X.base k fa fd ps (gK ⟨X.K, X.mg, X.w, []⟩ ps.length r.f) ∧ Bnd X.K fd ps ks n r.idx dvs ∧ CD X.K dvs r.dd ∧
  ∀ vs zs : List V, vs.length = n → zs.length = ks.length → (pick r.idx vs (zs ++ dvs)).length = ps.length
def Fo (X : Cx) (k n : Nat) (ks : List Str) (m : Str) : List (Str × MR) → Prop
 | [] => True
 | (c, r) :: t => MethAt X k n ks m c r ∧ Fo X k n ks m t
theorem Fo.at {X : Cx} {k n : Nat} {ks : List Str} {m c : Str} {r : MR} : ∀ {T : List (Str × MR)}, Fo X k n ks m T → T.lookup c = some r → MethAt X k n ks m c r
 | [], _, h => by cases h
 | (d, q) :: t, ⟨h1, h2⟩, h => by
  rw [List.lookup_cons] at h
  cases e : (c == d) with
  | true => rw [e] at h; cases h; rw [show c = d from by simpa using e]; exact h1
  | false => rw [e] at h; exact h2.at h
/-- a class cA can be made -/
structure Rh (X : Cx) (k n : Nat) (ks : List Str) (c : Str) (r : MR) : Prop where
 ex : ∃ (Ca fa : Addr) (fd : FuncData) (ps : List Str) (dvs : List V), X.mg c = some (.ref Ca) ∧ Mk X.K Ca fa ∧ fJ X.prog X.w X.K X.mg X.base k fa fd ps (gK ⟨X.K, X.mg, X.w, []⟩ ps.length r.f) ∧ Bnd X.K fd ps ks n r.idx dvs ∧ CD X.K dvs r.dd ∧
  ∀ vs zs : List V, vs.length = n → zs.length = ks.length → (pick r.idx vs (zs ++ dvs)).length = ps.length
/-- what of the text a class must have to be made -/
structure Zd (K : PySem.W.Frag) (mg : Str → Option Value) (c : Str) : Prop where
 ex : ∃ Ca, mg c = some (.ref Ca) ∧ PySem.W.makesIn K Ca = true ∧ PySem.W.keepIn K (.ref Ca) = true
section
variable {X : Cx} {k n : Nat} {ks ps : List Str} {c : Str}
theorem Rh.of {r : MR} (Z : Zd X.K X.mg c) (M : MethAt X k n ks "__init__" c r) : Rh X k n ks c r := by
 obtain ⟨Ca, h1, h2, h3⟩ := Z.ex
 obtain ⟨Ri, fa, fd, ps, dvs, g1, g2, g3, g4, g5, g6, g7⟩ := M.ex
 have Ze : Ri = Ca := by have z := g1.symm.trans h1; injection z with z; injection z
 subst Ze
 exact ⟨Ri, fa, fd, ps, dvs, g1, ⟨h2, g3.at_, g3.fn, h3⟩, g4, g5, g6, g7⟩
end
end Mi
namespace PySem.W
open PySem PySem.Spec PySem.Calls PyProof.Rows Builtin
end PySem.W
namespace Mi
open PySem PySem.Spec PyProof.Rows L2
/-- what of the text a class with an own == must have -/
structure Zf (K : PySem.W.Frag) (mg : Str → Option Value) (c : Str) : Prop where
 ex : ∃ Ca, mg c = some (.ref Ca) ∧ PySem.W.findIn K (.ref Ca) "__ne__" = some (some (.builtin "object.__ne__"))
structure By (X : Cx) (k : Nat) (c : Str) (f : FX) : Prop where
 ex : ∃ (Ca fa : Addr) (fd : FuncData) (ps : List Str), X.mg c = some (.ref Ca) ∧ Cls X.K Ca ∧ CI X.K Ca ∧ PySem.W.findIn X.K (.ref Ca) "__eq__" = some (some (.ref fa)) ∧ PySem.W.isFn X.K (.ref fa) = true ∧
  PySem.W.findIn X.K (.ref Ca) "__ne__" = some (some (.builtin "object.__ne__")) ∧ fJ X.prog X.w X.K X.mg X.base k fa fd ps (gK ⟨X.K, X.mg, X.w, []⟩ ps.length f) ∧ Bnd X.K fd ps [] 2 [0, 1] [] ∧ ps.length = 2
def Fp (X : Cx) (k : Nat) : List (Str × FX) → Prop
 | [] => True
 | (c, f) :: t => By X k c f ∧ Fp X k t
theorem Fp.at {X : Cx} {k : Nat} {c : Str} {f : FX} : ∀ {T : List (Str × FX)}, Fp X k T → T.lookup c = some f → By X k c f
 | [], _, h => by cases h
 | (d, q) :: t, ⟨h1, h2⟩, h => by
  rw [List.lookup_cons] at h
  cases e : (c == d) with
  | true => rw [e] at h; cases h; rw [show c = d from by simpa using e]; exact h1
  | false => rw [e] at h; exact h2.at h
theorem By.of {X : Cx} {j k : Nat} {c : Str} {st : Stmt} {a b : Str} {kd : List (Str × D)} {f : FX} (M : Rf X.prog X.w X.K X.mg X.base k c "__eq__" st [a, b] kd f) (h : k ≤ j) (ci : R9 X.K X.mg c) (ne : Zf X.K X.mg c) (B : ug st [a, b] [] 2 [0, 1]) : By X j c f := by
 obtain ⟨Ca, fa, x, qual, fd, kws, h1, h2, h3, h4, h5, h6, h7⟩ := M.ex
 obtain ⟨Cb, g1, _, g2⟩ := ci.ex
 rw [h1] at g1; cases g1
 obtain ⟨Cb, e1, e2⟩ := ne.ex
 rw [h1] at e1; cases e1
 exact ⟨Ca, fa, fd, [a, b], h1, h2, g2, h3.at_, h3.fn, e2, h7.mono h, Rb h4 B, rfl⟩
def isT (T : String) (S : Store) (d : D) : Bool := match d with
 | .ref n => match S[n]? with
  | some (.lst _) => T == "list"
  | some (.dct _) => T == "dict"
  | _ => false
 | _ => false
def wA (T : String) (g : Store → D → List D → Option (D × Store)) (o : EX) (as : AX) : EX := fun ρ S => (o ρ S).bind fun x S1 => if isT T S1 x = true then (as ρ S1).bind fun ys S2 => match g S2 x ys with
 | some (z, S3) => .ok z S3
 | none => .stuck else .stuck
/-- a method cA changes the store, by values -/
def Rj (X : Cx) (r : V → List V → Hp → VK → Prop) (g : Store → D → List D → Option (D × Store)) : Prop :=
 ∀ (cf : Cf) (oa : Nat → Option Addr) (P : Addr → Prop) (σ : L2.St) (H : Hp) (β : List Addr) (ρ : aN) (S : Store) (x : V) (xs : List V) (dx : D) (ds : List D) (z : D) (S' : Store) (Q : VK), LR (au X) cf oa P σ H β ρ S → RV (au X) H P β x dx → aD (au X) H P β xs ds → g S dx ds = some (z, S') →
  (∀ v H', Ext H β H' β → LR (au X) cf oa P σ H' β ρ S' → RV (au X) H' P β v z → Q v H') → r x xs H Q
section
variable {X : Cx} {W : WX} {o e : Expr} {es : List Expr} {mo : EX} {d8 : AX} {apos cpos : Pos} {T id : String} {name : Str} {r : V → List V → Hp → VK → Prop} {g : Store → D → List D → Option (D × Store)}
theorem Zg {Z : Addr → Prop} {H : Hp} {β : List Addr} {S : Store} {v : V} {d : D} (A : aU (au X) H Z β S) (rv : RV (au X) H Z β v d) (h : isT T S d = true) : tyV X.K T v H := by
 unfold isT at h
 split at h
 ·rename_i n
  cases rv with
  | ref hn =>
   split at h
   ·rename_i xs eS
    obtain ⟨us, q1, _⟩ := A.ok _ _ _ hn eS
    rw [eq_of_beq h]
    first
     | exact .inl ⟨rfl, us, .inl (.inl q1)⟩
     | exact ⟨us, .inl (.inl q1)⟩
   ·rename_i xs eS
    obtain ⟨us, q1, _⟩ := A.ok _ _ _ hn eS
    rw [eq_of_beq h]
    first
     | exact .inr (.inr (.inl ⟨rfl, .inl ⟨us, q1⟩⟩))
     | exact .inr (.inl ⟨rfl, .inl ⟨us, q1⟩⟩)
     | exact .inl ⟨us, q1⟩
   ·cases h
 ·cases h
/-- o.name(e, ..) on a list or dict of the store -/
theorem Rk (pa : PlainAttrs T) (slot : Slot T name id) (hty : typeOf (.builtin id) = pure (.type "method_descriptor")) (hm : MtR X id r) (hg : Rj X r g) (ho : PM (au X) W false X o mo) (ha : jg (au X) W false X (e :: es) d8)
  (hbase : attributeBase o name X.env (eval o X.env) = eval o X.env := by rfl)
  (hfew : ((backTo cpos (starEach (e :: es) X.env)).all (fun x => !x.1) && (backToKw cpos (keywordEach [] X.env)).all (fun x => x.1.isSome)
   && decide ((e :: es).length + ([] : List Keyword).length + (if ([] : List Keyword).isEmpty then 0 else 1) < 30)) = true := by rfl)
  (hline : (apos.endLine == cpos.line) = true := by rfl) (hst : starEach (e :: es) X.env = (false, eval e X.env) :: starEach es X.env := by rfl) (hpl : (backTo cpos (starEach es X.env)).any (·.1) = false := by rfl) :
  PM (au X) W false X (.Call (.Attribute o name apos) (e :: es) [] cpos) (wA T g mo d8) := cX (pe_bm pa slot hty hm ho ha hbase hfew hline hst hpl) fun σ H Q h => by
 obtain ⟨cf, oa, P, β, ρ, S, L, h⟩ := h
 refine ⟨cf, oa, P, β, ρ, S, L, ?_⟩
 unfold wA at h
 cases eo : mo ρ S with
 | stuck => rw [eo] at h; exact h
 | exc x S1 => rw [eo] at h; exact h
 | ok od S1 =>
  rw [eo] at h
  simp only [R.bind] at h
  intro v H1 β1 t1 L1 r1
  by_cases ht : isT T S1 od = true
  ·rw [if_pos ht] at h
   refine ⟨Zg L1.st r1 ht, cf, oa, P, β1, ρ, S1, L1, ?_⟩
   cases ea : d8 ρ S1 with
   | stuck => rw [ea] at h; exact h
   | exc x S2 => rw [ea] at h; intro cls d H' β' t2 L2 ex; exact h cls d H' β' (t1.trans t2) L2 ex
   | ok ds S2 =>
    rw [ea] at h
    simp only at h
    intro xs H2 β2 t2 L2 r2
    cases ef : g S2 od ds with
    | none => rw [ef] at h; exact h.elim
    | some q =>
     obtain ⟨z, S3⟩ := q
     rw [ef] at h
     exact hg cf oa P σ H2 β2 ρ S2 v xs od ds z S3 Q L2 (r1.mono t2.ext) r2 ef fun w H' x L3 r3 => h w H' β2 ((t1.trans t2).trans ⟨x, fun z => nomatch z⟩) L3 r3
  ·rw [if_neg ht] at h; exact h.elim
structure BA (X : Cx) (k : Nat) (m c : Str) (f : FX) : Prop where
 ex : ∃ (Ca fa : Addr) (fd : FuncData) (ps : List Str), X.mg c = some (.ref Ca) ∧ PySem.W.findIn X.K (.ref Ca) m = some (some (.ref fa)) ∧ PySem.W.isFn X.K (.ref fa) = true ∧
  fJ X.prog X.w X.K X.mg X.base k fa fd ps (gK ⟨X.K, X.mg, X.w, []⟩ ps.length f) ∧ Bnd X.K fd ps [] 1 [0] [] ∧ ps.length = 1
def Ft (X : Cx) (k : Nat) (m : Str) : List (Str × FX) → Prop
 | [] => True
 | (c, f) :: t => BA X k m c f ∧ Ft X k m t
theorem Ft.at {X : Cx} {k : Nat} {m c : Str} {f : FX} : ∀ {T : List (Str × FX)}, Ft X k m T → T.lookup c = some f → BA X k m c f
 | [], _, h => by cases h
 | (d, q) :: t, ⟨h1, h2⟩, h => by
  rw [List.lookup_cons] at h
  cases e : (c == d) with
  | true => rw [e] at h; cases h; rw [show c = d from by simpa using e]; exact h1
  | false => rw [e] at h; exact h2.at h
theorem BA.of {X : Cx} {j k : Nat} {m c : Str} {st : Stmt} {a : Str} {kd : List (Str × D)} {f : FX} (M : Rf X.prog X.w X.K X.mg X.base k c m st [a] kd f) (h : k ≤ j) (B : ug st [a] [] 1 [0]) : BA X j m c f := by
 obtain ⟨Ca, fa, x, qual, fd, kws, h1, h2, h3, h4, h5, h6, h7⟩ := M.ex
 exact ⟨Ca, fa, fd, [a], h1, h3.at_, h3.fn, h7.mono h, Rb h4 B, rfl⟩
end
def jT (a b : Str) : Prop := a.cps.toList ≤ b.cps.toList
theorem Rl {a b : Str} : ltCps b.cps.toList a.cps.toList = false ↔ jT a b := by
 rw [ltCps_eq]
 unfold jT
 rw [decide_eq_false_iff_not]
 exact List.not_lt
theorem Zh {a b : Str} (h1 : jT a b) (h2 : jT b a) : a = b := by
 have e := List.le_antisymm h1 h2
 obtain ⟨⟨x⟩⟩ := a
 obtain ⟨⟨y⟩⟩ := b
 cases e
 rfl
theorem Rm {a b c : Str} (h1 : jT a b) (h2 : jT b c) : jT a c := List.le_trans h1 h2
theorem Ro : ∀ (p : Str) (l : List Str), risingS p l = true → (p :: l).Pairwise jT
 | p, [], _ => by simp
 | p, x :: r, h => by
  unfold risingS at h
  rw [Bool.and_eq_true, Bool.not_eq_true'] at h
  have h1 := Rl.mp h.1
  have h2 := Ro x r h.2
  rw [List.pairwise_cons]
  refine ⟨fun y hy => ?_, h2⟩
  rcases List.mem_cons.mp hy with rfl | hy
  ·exact h1
  ·exact Rm h1 ((List.pairwise_cons.mp h2).1 y hy)
theorem Zi {l : List Str} (h : sortedS l = true) : l.Pairwise jT := by
 cases l with
 | nil => exact .nil
 | cons x r => exact Ro x r h
def uV (x : Str) : List Str → List Str
 | [] => [x]
 | y :: r => if ltCps y.cps.toList x.cps.toList = true then y :: uV x r else x :: y :: r
def nA : List Str → List Str
 | [] => []
 | x :: r => uV x (nA r)
theorem Fv (x : Str) : ∀ l : List Str, (uV x l).Perm (x :: l)
 | [] => .refl _
 | y :: r => by
  unfold uV
  split
  ·exact ((Fv x r).cons y).trans (List.Perm.swap x y r)
  ·exact .refl _
theorem z9 : ∀ l : List Str, (nA l).Perm l
 | [] => .refl _
 | x :: r => (Fv x (nA r)).trans ((z9 r).cons x)
theorem Rp (x : Str) : ∀ l : List Str, l.Pairwise jT → (uV x l).Pairwise jT
 | [], _ => by simp [uV]
 | y :: r, h => by
  unfold uV
  obtain ⟨h1, h2⟩ := List.pairwise_cons.mp h
  split
  ·rename_i e
   refine List.pairwise_cons.mpr ⟨fun z hz => ?_, Rp x r h2⟩
   rcases List.mem_cons.mp ((Fv x r).mem_iff.mp hz) with rfl | hz
   ·rw [ltCps_eq, decide_eq_true_eq] at e
    exact List.le_of_lt e
   ·exact h1 z hz
  ·rename_i e
   have e' : jT x y := Rl.mp (by simpa using e)
   refine List.pairwise_cons.mpr ⟨fun z hz => ?_, h⟩
   rcases List.mem_cons.mp hz with rfl | hz
   ·exact e'
   ·exact Rm e' (h1 z hz)
theorem Rq : ∀ l : List Str, (nA l).Pairwise jT
 | [] => .nil
 | x :: r => Rp x _ (Rq r)
theorem Zj {ys ks : List Str} (p : ys.Perm ks) (h : ys.Pairwise jT) : ys = nA ks :=
 List.Perm.eq_of_pairwise (fun a b _ _ h1 h2 => Zh h1 h2) h (Rq ks) (p.trans (z9 ks).symm)
section
theorem Rr {C : Ct} {H : Hp} {P : Addr → Prop} {β : List Addr} : ∀ ns : List Str, aD C H P β (ns.map V.str) (ns.map D.str)
 | [] => .nil
 | n :: ns => .cons (.str n) (Rr ns)
end
def wB : List D → Option (List (Key × D))
 | [] => some []
 | .tup [k, v] :: r => match keyD k with
  | some kk => match wB r with
   | some l => some ((kk, v) :: l)
   | none => none
  | none => none
 | _ :: _ => none
def za (S : Store) (ds : List D) : Option D := match ds with
 | [d] => match dG S d with
  | some kvs => some (.dct kvs)
  | none => match bL S d with
   | some xs => match wB xs with
    | some prs => some (.dct (uH [] prs))
    | none => none
   | none => none
 | _ => none
section
variable {X : Cx}
theorem Ru {C : Ct} {H : Hp} {Z : Addr → Prop} {β : List Addr} : ∀ {us : List V} {xs : List D} {prs : List (Key × D)}, aD C H Z β us xs → wB xs = some prs → ∃ (ps : List Addr) (kvs : List (Key × V)), us = ps.map V.ref ∧ Paired (fun p kv => SqT C.K H p [kV kv.1, kv.2]) ps kvs ∧ aP C H Z β kvs prs
 | _, [], _, r, e => by cases r; cases e; exact ⟨[], [], rfl, .nil, .nil⟩
 | _, d :: ds, prs, .cons r1 rs, e => by
  unfold wB at e
  split at e
  ·rename_i heq; cases heq
  ·rename_i k v r heq
   cases heq
   split at e
   ·rename_i kk ek
    split at e
    ·rename_i l el
     cases e
     obtain ⟨ps, kvs, rfl, h1, h2⟩ := Ru rs el
     obtain ⟨a, us, rfl, q1, q2⟩ := r1.fH rfl
     obtain ⟨x, y, rfl, x1, y1⟩ := uz q2
     have := yG x1 ek
     subst this
     exact ⟨a :: ps, (kk, y) :: kvs, rfl, .cons q1 h1, .cons y1 h2⟩
    ·cases e
   ·cases e
  ·cases e
def Rv (K : PySem.W.Frag) : List V → Hp → VK → Prop := fun xs H Q => (∃ (a : Addr) (kvs : List (Key × V)), xs = [.ref a] ∧ Rd H a (.dK kvs) ∧ ∀ p, H p = none → Q (.ref p) (upd H p (.dK kvs))) ∨
 ∃ (a : Addr) (ps : List Addr) (kvs : List (Key × V)), xs = [.ref a] ∧ SqL K H a (ps.map V.ref) ∧ Paired (fun p kv => SqT K H p [kV kv.1, kv.2]) ps kvs ∧ ∀ p, H p = none → Q (.ref p) (upd H p (.dK (mergeK [] kvs)))
theorem Zk (hc : X.calm = true) : CallR X (.type "dict") (Rv X.K) := CallR.or call_dictD (call_dictP hc)
theorem Zm : xV X (Rv X.K) za := by
 intro Z H β S xs ds dz Q A r e k
 unfold za at e
 split at e
 ·split at e
  ·rename_i ys e1
   cases e
   obtain ⟨x, rfl, r1⟩ := iT r
   obtain ⟨a, us, rfl, q1, r2⟩ := r1.dG A.st e1
   exact .inl ⟨a, us, rfl, q1, fun l hl => k l _ (fU hl) hl ⟨us, upd_same, Eh hl r2 _⟩⟩
  ·split at e
   ·rename_i ys e1
    split at e
    ·rename_i prs ep
     cases e
     obtain ⟨x, rfl, r1⟩ := iT r
     obtain ⟨a, us, rfl, q1, q2⟩ := r1.bL A.st e1
     obtain ⟨ps, kvs, rfl, h1, h2⟩ := Ru q2 ep
     exact .inr ⟨a, ps, kvs, rfl, q1, h1, fun l hl => k l _ (fU hl) hl ⟨_, upd_same, Eh hl (Eb h2 .nil) _⟩⟩
    ·cases e
   ·cases e
 ·cases e
end
section
variable {mo : EX} {ar : AX} {ρ : aN} {S : Store} {Q : D → Store → Prop} {E : bT → Store → Prop} {T : String}
theorem Zo {g : Store → D → List D → Option (D × Store)} : (wA T g mo ar ρ S).al Q E ↔ (mo ρ S).al (fun x S1 => isT T S1 x = true ∧ (ar ρ S1).al (fun ys S2 => ∃ z S3, g S2 x ys = some (z, S3) ∧ Q z S3) E) E := by
 unfold wA
 rw [eE]
 refine iff_of_eq (congrArg (fun z => R.al (mo ρ S) z _) (funext fun x => funext fun S1 => propext ?_))
 by_cases h : isT T S1 x = true
 ·simp only [h, if_true, eE, true_and]
  refine iff_of_eq (congrArg (fun z => R.al (ar ρ S1) z _) (funext fun ys => funext fun S2 => propext ?_))
  cases h2 : g S2 x ys with
  | none => simp [R.al]
  | some q =>
   obtain ⟨z, S3⟩ := q
   simp only [R.al, Option.some.injEq, Prod.mk.injEq]
   exact ⟨fun q => ⟨z, S3, ⟨rfl, rfl⟩, q⟩, fun ⟨_, _, ⟨e1, e2⟩, q⟩ => by subst e1; subst e2; exact q⟩
 ·simp [h, R.al]
end
end Mi
namespace PySem.SeqAt
open AutoSeq1 (wpAny_loadPart')
open MeetsSeq MeetsSeq2 MeetsSeq3 SeqRoads2
end PySem.SeqAt
namespace Mi
open PySem PySem.Spec PyProof.Rows L2
section
variable {H : Hp} {β : List Addr}
theorem gW.get {C : Ct} : ∀ {vs : List V} {ds : List D} {i : Nat} {v : V}, gW C H β vs ds → vs[i]? = some v → ∃ d, ds[i]? = some d ∧ VW C H β v d
 | _, _, _, _, .nil, h => by simp at h
 | _, _, 0, _, .cons h _, e => by simp at e; subst e; exact ⟨_, rfl, h⟩
 | _, _, i + 1, _, .cons _ t, e => by
  obtain ⟨d, h1, h2⟩ := gW.get (i := i) t (by simpa using e)
  exact ⟨d, by simpa using h1, h2⟩
theorem gW.len {C : Ct} : ∀ {vs : List V} {ds : List D}, gW C H β vs ds → vs.length = ds.length
 | _, _, .nil => rfl
 | _, _, .cons _ t => by simp [gW.len t]
theorem jQ.len {C : Ct} : ∀ {vs : List (Key × V)} {ds : List (Key × D)}, jQ C H β vs ds → vs.length = ds.length
 | _, _, .nil => rfl
 | _, _, .cons _ t => by simp [jQ.len t]
end
/-- Rw cA are Rw -/
def Cv (x : Str) : Prop := ∀ c ∈ x.cps.toList, c < 0x110000
theorem Cv.app {x y : Str} (h1 : Cv x) (h2 : Cv y) : Cv (x ++ y) := by
 intro c hc
 have hc' : c ∈ (x.cps ++ y.cps).toList := hc
 rw [Array.toList_append] at hc'
 exact (List.mem_append.mp hc').elim (h1 c) (h2 c)
theorem Rx (c : Char) : c.toNat < 0x110000 := by
 have := c.valid
 rcases this with h | ⟨_, h⟩
 ·exact Nat.lt_of_lt_of_le h (by decide)
 ·exact h
theorem jU (s : String) : Cv (Str.ofString s) := by
 rw [Str.ofString_eq_toList]
 intro c hc
 have hc' : c ∈ s.toList.map Char.toNat := by simpa using hc
 obtain ⟨ch, _, rfl⟩ := List.mem_map.mp hc'
 exact Rx ch
theorem Zq : Cv Str.empty := fun c hc => by cases hc
theorem Fw {sep : Str} (hs : Cv sep) : ∀ {xs : List Str}, (∀ x ∈ xs, Cv x) → Cv (Str.join sep xs)
 | [], _ => Zq
 | [x], h => h x List.mem_cons_self
 | x :: y :: r, h => ((h x List.mem_cons_self).app hs).app (Fw hs (xs := y :: r) fun z hz => h z (List.mem_cons_of_mem _ hz))
theorem Ry : ∀ (xs : List Str) (k : Nat) (acc : Str), Cv acc → (∀ x ∈ xs, Cv x) → Cv (textFrom k acc xs)
 | [], _, _, h, _ => h
 | t :: ts, k, acc, h, hx => Ry ts (k + 1) _ ((h.app (by split <;> exact jU _)).app (hx t List.mem_cons_self)) fun z hz => hx z (List.mem_cons_of_mem _ hz)
theorem Zr {q c : Nat} (hq : q < 0x110000) (hc : c < 0x110000) : ∀ x ∈ Builtin.Str.reprChar q c, x < 0x110000 := by
 have hex : ∀ w : Nat, ∀ x ∈ (List.replicate (w - ((Nat.toDigits 16 c).map Char.toNat).length) 48 ++ (Nat.toDigits 16 c).map Char.toNat), x < 0x110000 := fun w x hx => by
  rcases List.mem_append.mp hx with hx | hx
  ·rw [(List.mem_replicate.mp hx).2]; decide
  ·obtain ⟨ch, _, rfl⟩ := List.mem_map.mp hx
   exact Rx ch
 intro x hx
 unfold Builtin.Str.reprChar at hx
 simp only at hx
 have two : ∀ {a b : Nat}, a < 0x110000 → b < 0x110000 → x ∈ [a, b] → x < 0x110000 := fun ha hb h => by
  simp only [List.mem_cons, List.not_mem_nil, or_false] at h
  rcases h with rfl | rfl
  ·exact ha
  ·exact hb
 repeat' split at hx
 ·exact two (by decide) hc hx
 ·exact two (by decide) (by decide) hx
 ·exact two (by decide) (by decide) hx
 ·exact two (by decide) (by decide) hx
 ·rw [List.mem_singleton.mp hx]; exact hc
 ·exact (List.mem_append.mp hx).elim (two (by decide) (by decide)) (hex 2 x)
 ·exact (List.mem_append.mp hx).elim (two (by decide) (by decide)) (hex 4 x)
 ·exact (List.mem_append.mp hx).elim (two (by decide) (by decide)) (hex 8 x)
theorem Rz {q : Nat} (hq : q < 0x110000) : ∀ (l : List Nat) (acc : Array Nat), (∀ c ∈ l, c < 0x110000) → (∀ c ∈ acc.toList, c < 0x110000) → ∀ c ∈ (l.foldl (fun out c => out ++ (Builtin.Str.reprChar q c).toArray) acc).toList, c < 0x110000
 | [], _, _, h => h
 | a :: l, acc, h1, h2 => by
  rw [List.foldl_cons]
  refine Rz hq l _ (fun c hc => h1 c (List.mem_cons_of_mem _ hc)) fun c hc => ?_
  rw [Array.toList_append] at hc
  rcases List.mem_append.mp hc with hc | hc
  ·exact h2 c hc
  ·exact Zr hq (h1 a List.mem_cons_self) c (by simpa using hc)
theorem RA {x : Str} (h : Cv x) : Cv (reprText x) := by
 have hq : reprQuote x < 0x110000 := by
  unfold reprQuote
  split <;> decide
 intro c hc
 have hc' : c ∈ (x.cps.foldl (fun out c => out ++ (Builtin.Str.reprChar (reprQuote x) c).toArray) #[reprQuote x]).toList ++ [reprQuote x] := by
  have : c ∈ ((x.cps.foldl (fun out c => out ++ (Builtin.Str.reprChar (reprQuote x) c).toArray) #[reprQuote x]).push (reprQuote x)).toList := hc
  rwa [Array.toList_push] at this
 rcases List.mem_append.mp hc' with hc' | hc'
 ·rw [← Array.foldl_toList] at hc'
  exact Rz hq x.cps.toList _ h (fun c hc => by rw [List.mem_singleton.mp (show c ∈ [reprQuote x] from hc)]; exact hq) c hc'
 ·rw [List.mem_singleton.mp hc']; exact hq
mutual
theorem Fy : ∀ (d : D) (p : PyData), aZ d → toPy true d = some p → Cv p.shown
 | .non, _, _, e => by cases e; exact jU _
 | .bl b, _, _, e => by cases e; cases b <;> exact jU _
 | .int i, _, _, e => by cases e; exact jU _
 | .str x, _, h, e => by cases e; exact RA (show Cv x by simp only [aZ] at h; exact h)
 | .tup xs, p, h, e => by
  simp only [toPy] at e
  split at e
  ·rename_i l el
   cases e
   have := FA xs l (by simpa only [aZ] using h) el
   simp only [PyData.shown]
   refine ((jU "(").app (Fw (jU ", ") this)).app ?_
   split <;> exact jU _
  ·cases e
 | .lst xs, p, h, e => by
  simp only [toPy] at e
  split at e
  ·rename_i l el
   cases e
   have := FA xs l (by simpa only [aZ] using h) el
   simp only [PyData.shown]
   exact (Ry _ 0 _ (jU "[") this).app (jU "]")
  ·cases e
 | .dct xs, p, h, e => by
  simp only [toPy] at e
  split at e
  ·rename_i l el
   cases e
   have := RB xs l (by simpa only [aZ] using h) el
   simp only [PyData.shown]
   exact ((jU "{").app (Fw (jU ", ") this)).app (jU "}")
  ·cases e
 | .ref _, _, h, _ => by simp only [aZ] at h
 | .ty _, _, h, _ => by simp only [aZ] at h
 | .fn _, _, h, _ => by simp only [aZ] at h
theorem FA : ∀ (ds : List D) (ps : List PyData), cQ ds → gq true ds = some ps → ∀ x ∈ PyData.shownAll ps, Cv x
 | [], _, _, e => by cases e; intro x hx; simp only [PyData.shownAll] at hx; cases hx
 | d :: r, ps, h, e => by
  have h' : aZ d ∧ cQ r := by simpa only [cQ] using h
  simp only [gq] at e
  split at e
  ·rename_i x ex
   split at e
   ·rename_i l el
    cases e
    intro y hy
    simp only [PyData.shownAll] at hy
    rcases List.mem_cons.mp hy with rfl | hy
    ·exact Fy d x h'.1 ex
    ·exact FA r l h'.2 el y hy
   ·cases e
  ·cases e
theorem RB : ∀ (ds : List (Key × D)) (ps : List (PyData × PyData)), lO ds → oH true ds = some ps → ∀ x ∈ PyData.shownKv ps, Cv x
 | [], _, _, e => by cases e; intro x hx; simp only [PyData.shownKv] at hx; cases hx
 | (k, d) :: r, ps, h, e => by
  have h' : vZ (k, d) ∧ lO r := by simpa only [lO] using h
  have h'' : vY k ∧ aZ d := by simpa only [vZ] using h'.1
  simp only [oH, AI] at e
  cases ex : toPy true d with
  | none => rw [ex] at e; cases e
  | some x =>
   rw [ex] at e
   simp only at e
   cases el : oH true r with
   | none => rw [el] at e; cases e
   | some l =>
    rw [el] at e
    cases e
    intro y hy
    simp only [PyData.shownKv] at hy
    rcases List.mem_cons.mp hy with rfl | hy
    ·refine (Cv.app ?_ (jU ": ")).app (Fy d x h''.2 ex)
     cases k with
     | inl i => exact jU _
     | inr s => exact RA (show Cv s from by have q := h''.1; simp only [vY] at q; exact q)
    ·exact RB r l h'.2 el y hy
end
/-- repr of plain data, its length and its Rw -/
theorem RE {d : D} (h : aZ d) (hb : bR d ≤ 200000) (hd : bh d ≤ 64) : ∃ k, Cv k ∧ k.length ≤ 66 * bR d + 64 ∧ ∀ S, d9 S [d] = some (.str k) ∧ w6 S d = some (.str k) := by
 obtain ⟨p, e, s⟩ := EC d h
 have hl := PyData.shown_le_bulk 64 (by decide) p s.l
 rw [s.b] at hl
 have hc : p.showable = true ∧ p.shown.length ≤ sizeLine ∧ p.depth ≤ 64 := ⟨s.s, by rw [sizeLine_eq]; omega, by rw [s.d]; exact hd⟩
 refine ⟨p.shown, Fy d p h e, by omega, fun S => ⟨?_, ?_⟩⟩
 ·unfold d9
  simp only [Bf (yO d h), e]
  rw [if_pos hc]
 ·unfold w6
  simp only [Bf (yO d h), e]
  rw [if_pos hc]
end Mi
namespace PySem.AutoSeq1
end PySem.AutoSeq1
namespace Mi
open PySem PySem.Spec PyProof.Rows L2
/-- the members, each at its first place -/
def Zt (acc : List Str) (x : Str) : List Str := if acc.contains x then acc else acc ++ [x]
def dst (xs : List Str) : List Str := xs.foldl Zt []
section
variable {prog : Program} {w : World}
/-- the members so far -/
abbrev FD (prog : Program) (w : World) (h : Heap) (S : Addr) (xs : List Str) : Prop := h.SetOf (PySem.strKind prog w) S (fun k => (dst xs).contains k) (dst xs).length
theorem FD.heap {h h' : Heap} {S : Addr} {xs : List Str} (u : FD prog w h S xs) (e : ∀ o, h.get? S = some o → h'.get? S = some o) : FD prog w h' S xs :=
 let ⟨o, es, ep, t, ho, r⟩ := u; ⟨o, es, ep, t, e o ho, r⟩
end
/-- what is known of the built-in class B -/
structure Zu (B newId initId : String) (tl : List Value) : Prop where
 eb : ExcBaseFacts B newId initId tl
 sf : StoreFacts B tl "object.__setattr__" "object"
 ty : typeOf (.type B) = pure (.type "type")
 st : Manifest.isStub B = false
 fc : ∀ K : PySem.W.Frag, PySem.W.findCls K (.type B) (.type "type") "__init__" = some (.val (.builtin initId))
 hd : PySem.W.handedIn (.builtin initId) = true
/-- what the written part says of an own class over it -/
structure Zv (K : PySem.W.Frag) (newId : String) (tl : List Value) (C : Addr) : Prop where
 cls : ∃ nm q N bs bm sn sub ab col dd k0 k1 k2 k3 k5, K.lookup C = some (excClassObj nm q C N bs bm true sn sub ab col dd k0 k1 k2 k3 k5 newId) ∧ PySem.W.excTail tl bm = true
 sa : PySem.W.findIn K (.ref C) "__setattr__" = some (some (.builtin "object.__setattr__"))
 exC : PySem.W.subIn K (.ref C) (.type "BaseException") = some true
 tyC : PySem.W.typeIn K (.ref C) = some (.type "type")
 kC : PySem.W.keepIn K (.ref C) = true
/-- what the clauses wish of an exception of the body -/
def zf (K : PySem.W.Frag) (Wout : WX) (D : Ends) : List (Value × Option Nat × (Addr → Value → Option Addr → TS)) → WX
 | [] => Wout
 | (c, oi, ts) :: r => fun cls d σ H => ∃ b, PySem.W.exmOne K cls c = some b ∧ (b = true → ∀ a, H a = none → match oi with
     | none => ts a cls d D σ H
     | some i => ts a cls d { nx := fun σ' H' => D.nx (σ'.set i none) H', rt := D.rt, bk := fun σ' H' => D.bk (σ'.set i none) H', ct := fun σ' H' => D.ct (σ'.set i none) H' } (σ.set i (some (.ref a))) H) ∧ (b = false → zf K Wout D r cls d σ H)
def RG (X : Cx) : Option Str → Option Nat → Prop
 | none, none => True
 | some n, some i => X.N.Nodup ∧ X.N[i]? = some n ∧ X.env.kindOf n = some .local
 | _, _ => False
inductive wC (X : Cx) : List ExceptHandler → List (Value × Option Nat × (Addr → Value → Option Addr → TS)) → Prop
 | nil : wC X [] []
 | cons {x : Str} {c : Value} {on : Option Str} {oi : Option Nat} {ts : Addr → Value → Option Addr → TS} {b₀ : Stmt} {suite : List Stmt} {np pos' : Pos} {hds : List ExceptHandler} {l : List (Value × Option Nat × (Addr → Value → Option Addr → TS))} (hc : Names X x c) (hn : RG X on oi)
   (hsu : ∀ (a : Addr) (oe : Obj) (cls : Value) (d : Option Addr) (pn : List (Addr × Obj)), Zc cls d oe → (∃ vs, oe.data = .fields vs) → PSs (X.suite a ((a, oe) :: pn)) (b₀ :: suite) (ts a cls d)) (r : wC X hds l) :
   wC X (.ExceptHandler (some (.Name x np)) on (b₀ :: suite) pos' :: hds) ((c, oi, ts) :: l)
section
variable {X : Cx} {body : List Stmt} {h₀ : ExceptHandler} {hds : List ExceptHandler} {l : List (Value × Option Nat × (Addr → Value → Option Addr → TS))} {pos : Pos} {tb : WX → TS} {Wout : WX}
theorem Zw (hs : X.stack = X.env :: X.outer) (hf : X.env.frame = some X.env.locals) (tk : Takes X Wout)
  (hb : ∀ (W : WX) (pn : List (Addr × Obj)) (xe : Value → Shared → Prop), Takes (X.tr pn xe) W → PassesOwn (model X.prog X.w) X.A X.env xe → PSs (X.tr pn xe) body (tb W))
  (hh : wC X (h₀ :: hds) l) : PS X (.Try body (h₀ :: hds) [] [] pos) (fun D σ H => tb (zf X.K Wout D l) D σ H) := by
 refine ⟨fun pins s σ H D I h => ?_⟩
 have ok := I.ok
 have hfr : X.A.frames = some (X.env :: X.outer) := by rw [ok.frames, hs]
 refine wpAny_Try_except ?_
 refine wpAny_mono ((hb (zf X.K Wout D l) (X.pn ++ pins) (fun e s₁ => wpAny (model X.prog X.w) X.A (noteFrame e X.env) (fun _ s₂ => wpAny (model X.prog X.w) X.A (setFlight e none) (fun _ s₃ =>
  wpAny (model X.prog X.w) X.A (handleBy e X.env (h₀ :: hds)) (SP X pins D) X.xe s₃) X.xe s₂) X.xe s₁) (fun u s' xx => ?_) PassesOwn.looking).run [] s σ H D (I.toTry _) h) (fun f s1 hsp => ?_) (fun e s1 he => he)
 ·obtain ⟨a, B, sI, pins', σ', H', cls, d, rfl, J', nb, up, sky, na, os, ag, w⟩ := xx
  have J : Inv X pins σ' H' sI := J'.ofTry ok
  have sky' : Sky B (X.env :: X.outer) a (Zc cls d) X.env.locals s'.heap := by rw [← hs]; exact sky
  show wpAny (model X.prog X.w) X.A (noteFrame (.ref a) X.env) _ _ _
  refine Sky.land Zc.steady hfr hf sky' fun h3 fl3 up3 => ?_
  have J3 : Inv X pins σ' H' { s' with heap := h3 } := J.landed nb fl3.1 (up.trans up3) os ag
  obtain ⟨oe3, vs3, he3, hz3, hd3⟩ := fl3.there
  have nfr : a ∉ frs (X.env :: X.outer) := fun hm => by
   obtain ⟨_, o', e', hnf⟩ := fl3.2.2.1.mem hm
   rw [he3] at e'; cases e'
   exact hnf _ hd3
  have nL : a ≠ X.env.locals := fun z => nfr (List.mem_filterMap.mpr ⟨X.env, List.mem_cons_self, by rw [hf, z]⟩)
  have nF : a ∉ X.fs := fun hm => by
   obtain ⟨e, he, q⟩ := List.mem_filterMap.mp hm
   exact nfr (List.mem_filterMap.mpr ⟨e, List.mem_cons_of_mem _ he, q⟩)
  have S3 := J3.suite he3 hd3 na nL nF
  have go : ∀ {hds' : List ExceptHandler} {l' : List (Value × Option Nat × (Addr → Value → Option Addr → TS))}, wC X hds' l' → zf X.K Wout D l' cls d σ' H' →
    wpAny (model X.prog X.w) X.A (handleBy (.ref a) X.env hds') (SP X pins D) X.xe { s' with heap := h3 } := by
   intro hds' l' hk
   induction hk with
   | nil =>
    intro w
    refine wpAny_handleBy_nil ?_
    obtain ⟨k1, k2, k3, oe, vs, T, oT, ts', he, hz, hd, h1, hr⟩ := id fl3
    unfold PySem.passOn
    refine wpAny_bind (wpAny_field he hd h1 ?_)
    rw [if_neg (show ¬ ((Value.ref T == Value.none) = true) from by simp)]
    have fin : wpAny (model X.prog X.w) X.A (setFlight (.ref a) X.env.frame) (fun _ s4 => wpAny (model X.prog X.w) X.A (throw (.ref a) : Sem Flow) (SP X pins D) X.xe s4) X.xe { s' with heap := h3 } := by
     rw [hf]
     refine HandSPX.setFlight_upZ fl3 fun h4 hh4 up4 => wpAny_throw (tk _ _ ?_)
     exact ⟨a, B, sI, pins, σ', H', cls, d, rfl, J, nb, (up.trans up3).trans up4, .inr (.inr (by rw [hs]; exact hh4)), na, os, ag, w⟩
    first
     | exact wpAny_bind (wpAny_pure (wpAny_bind fin))
     | exact wpAny_bind fin
   | @cons x c on oi ts b₀ suite np pos' hds2 l2 hc hnm hsu r ih =>
    intro w
    obtain ⟨b, hb1, hyes, hno⟩ := w
    refine wpAny_handleBy_cons (codeAny_handlers_test ?_) (by intro q; cases q)
    have LT : PySem.W.Looks (model X.prog X.w) h3 (typeOf (.ref a)) cls := fun A Q E s k q => wpAny_typeOf_ref (k _ _ he3) (by rw [hz3.1]; exact q)
    have LM := PySem.W.exm_one (M := model X.prog X.w) (J3.kIn) LT hb1
    have test : ∀ {Q : Value → Shared → Prop} {E : Value → Shared → Prop}, Q c { s' with heap := h3 } → wpAny (model X.prog X.w) (X.A.mark (some (.ref a))) (eval (.Name x np) X.env) Q E { s' with heap := h3 } := fun {Q E} q => by
     obtain ⟨hg, hdbg, hm | ⟨hm, hv, hnn⟩⟩ := hc
     ·exact ld_glob (X := X.suite a ((a, oe3) :: (X.pn ++ pins))) S3 hg hm q hdbg
     ·exact ld_blt (X := X.suite a ((a, oe3) :: (X.pn ++ pins))) S3 hg hm hv q hnn hdbg
    refine test (LM.here ?_)
    cases b with
    | false =>
     show wpAny _ X.A (handleBy (.ref a) X.env hds2) _ _ _
     exact ih (hno rfl)
    | true =>
     have hy := hyes rfl a na
     cases on with
     | none =>
      cases oi with
      | some _ => exact hnm.elim
      | none =>
       refine codeAny_handlers_suite ?_
       refine HandSPX.lands_againZ fl3 fun h4 fl4 up4 => ?_
       have J4 : Inv X pins σ' H' { s' with heap := h4 } := J.landed nb fl4.1 ((up.trans up3).trans up4) os ag
       obtain ⟨oe4, vs4, he4, hz4, hd4⟩ := fl4.there
       have S4 := J4.suite he4 hd4 na nL nF
       refine wpAny_mono ((hsu a oe4 cls d (X.pn ++ pins) hz4 ⟨_, hd4⟩).run [] _ _ H' _ S4 hy) (fun f s6 hsp => ?_) (fun _ _ z => False.elim z)
       cases f with
       | ret u =>
        obtain ⟨v6, σ6, H6, S6, r6, q6⟩ := hsp
        exact ⟨_, _, _, S6.unsuite ok, r6, q6⟩
       | _ =>
        obtain ⟨σ6, H6, S6, q6⟩ := hsp
        exact ⟨_, _, S6.unsuite ok, q6⟩
     | some n =>
      cases oi with
      | none => exact hnm.elim
      | some i =>
       obtain ⟨hN, hi, hln⟩ := hnm
       refine codeAny_handlers_suite_as ?_
       refine HandSPX.lands_againZ fl3 fun h4 fl4 up4 => ?_
       have J4 : Inv X pins σ' H' { s' with heap := h4 } := J.landed nb fl4.1 ((up.trans up3).trans up4) os ag
       obtain ⟨oe4, vs4, he4, hz4, hd4⟩ := fl4.there
       have S4 := J4.suite he4 hd4 na nL nF
       refine store_ok (X := X.suite a ((a, oe4) :: (X.pn ++ pins))) (v := .ref a) S4 hN hi (.inl hln) rfl (fun s5 S5 => ?_) (.inr hln)
       refine wpAny_mono ((hsu a oe4 cls d (X.pn ++ pins) hz4 ⟨_, hd4⟩).run [] s5 _ H' _ S5 hy) (fun f s6 hsp => ?_) (fun _ _ z => False.elim z)
       have end_ : ∀ {σ6 : L2.St} {H6 : Hp} {Q : Shared → Prop}, Inv (X.suite a ((a, oe4) :: (X.pn ++ pins))) [] σ6 H6 s6 → (∀ s7, Inv X pins (σ6.set i none) H6 s7 → Q s7) →
         wpAny (model X.prog X.w) X.A (do bindName X.env n .none; unbindBehindTheSuite X.env n pos') (fun _ s7 => Q s7) X.xe s6 := fun {σ6 H6 Q} S6 hq => gone_ok (S6.unsuite ok) hN hi hln hq
       cases f with
       | ret u =>
        obtain ⟨v6, σ6, H6, S6, r6, q6⟩ := hsp
        exact end_ S6 fun s7 J7 => ⟨_, _, _, J7, r6, q6⟩
       | next =>
        obtain ⟨σ6, H6, S6, q6⟩ := hsp
        exact end_ S6 fun s7 J7 => ⟨_, _, J7, q6⟩
       | brk =>
        obtain ⟨σ6, H6, S6, q6⟩ := hsp
        exact end_ S6 fun s7 J7 => ⟨_, _, J7, q6⟩
       | cont =>
        obtain ⟨σ6, H6, S6, q6⟩ := hsp
        exact end_ S6 fun s7 J7 => ⟨_, _, J7, q6⟩
  exact go hh w
 ·cases f with
  | ret u =>
   obtain ⟨v, σ', H', J', r, q⟩ := hsp
   exact ⟨v, σ', H', J'.ofTry ok, r, q⟩
  | next =>
   obtain ⟨σ', H', J', q⟩ := hsp
   exact wpAny_execs_nil ⟨σ', H', J'.ofTry ok, q⟩
  | brk =>
   obtain ⟨σ', H', J', q⟩ := hsp
   exact ⟨σ', H', J'.ofTry ok, q⟩
  | cont =>
   obtain ⟨σ', H', J', q⟩ := hsp
   exact ⟨σ', H', J'.ofTry ok, q⟩
end
/-- behind a suite without a name -/
def SR.rZ : SR → SR
 | .nx ρ S => if cM ρ = true then .nx ρ S else .stuck
 | .bk ρ S => if cM ρ = true then .bk ρ S else .stuck
 | .ct ρ S => if cM ρ = true then .ct ρ S else .stuck
 | .rt d S => .rt d S
 | .exc _ _ _ => .stuck
 | .stuck => .stuck
abbrev Cl := (Str → Option Bool) × Option Nat × SX
def uW : List Cl → bT → aN → Store → SR
 | [], e, ρ, S => .exc e ρ S
 | (g, oi, u) :: r, e, ρ, S => match g e.cls with
  | some true => match oi with
   | some i => if i < ρ.length then (u (ρ.set i (.ex e)) S).yV i else .stuck
   | none => (u ρ S).rZ
  | some false => uW r e ρ S
  | none => .stuck
section
variable {X : Cx} {W : WX}
/-- the clauses, as the pure side has RH -/
inductive wD (X : Cx) : List ExceptHandler → List Cl → Prop
 | nil : wD X [] []
 | cons {x : Str} {c : Value} {on : Option Str} {oi : Option Nat} {g : Str → Option Bool} {u : SX} {b₀ : Stmt} {suite : List Stmt} {np pos' : Pos} {hds : List ExceptHandler} {l : List Cl} (hc : Names X x c) (hn : RG X on oi)
   (hg : ∀ y b, g y = some b → ∀ Ca, X.mg y = some (.ref Ca) → PySem.W.exmOne X.K (.ref Ca) c = some b)
   (hsu : ∀ (a : Addr) (oe : Obj) (pn : List (Addr × Obj)), jB (au (X.suite a ((a, oe) :: pn))) rN (X.suite a ((a, oe) :: pn)) (b₀ :: suite) u) (r : wD X hds l) :
   wD X (.ExceptHandler (some (.Name x np)) on (b₀ :: suite) pos' :: hds) ((g, oi, u) :: l)
def RJ (C : Ct) (oi : Option Nat) (u : SX) : Addr → Value → Option Addr → TS := fun a cls d => match oi with
 | some i => QN C i u a cls d
 | none => fun D σ H => ∃ cf oa P β ρ S, cM ρ = true ∧ LR C cf oa P σ H β ρ S ∧ SQ C rN cf H P β D (u ρ S).rZ
theorem Zx {r : SR} {C C' : Ct} {cf : Cf} {H : Hp} {P : Addr → Prop} {β : List Addr} {D : Ends} (k : C'.K = C.K) (m : C'.mg = C.mg) (h : SQ C rN cf H P β D r.rZ) : SQ C' rN cf H P β D r := by
 cases r with
 | exc e ρ S => exact h.elim
 | _ => exact SQ.ct k m h
theorem Zy {C : Ct} {W : WX} {cf : Cf} {H : Hp} {P : Addr → Prop} {β : List Addr} {D : Ends} {r : SR} (h : SQ C W cf H P β D r.rZ) : SQ C rN cf H P β D r.rZ := by
 cases r with
 | exc e ρ S => exact h.elim
 | stuck => exact h.elim
 | rt d S => exact h
 | nx ρ S =>
  unfold SR.rZ at h ⊢
  by_cases hn : cM ρ = true
  ·simp only [if_pos hn] at h ⊢; exact h
  ·simp only [if_neg hn] at h; exact h.elim
 | bk ρ S =>
  unfold SR.rZ at h ⊢
  by_cases hn : cM ρ = true
  ·simp only [if_pos hn] at h ⊢; exact h
  ·simp only [if_neg hn] at h; exact h.elim
 | ct ρ S =>
  unfold SR.rZ at h ⊢
  by_cases hn : cM ρ = true
  ·simp only [if_pos hn] at h ⊢; exact h
  ·simp only [if_neg hn] at h; exact h.elim
theorem Zz {oi : Option Nat} {u : SX} {bs : List Stmt} {a : Addr} {oe : Obj} {cls : Value} {d : Option Addr} {pn : List (Addr × Obj)} (hz : Zc cls d oe) (hf : ∃ vs, oe.data = .fields vs) (h : jB (au (X.suite a ((a, oe) :: pn))) rN (X.suite a ((a, oe) :: pn)) bs u) :
  PSs (X.suite a ((a, oe) :: pn)) bs (RJ (au X) oi u a cls d) := by
 cases oi with
 | some i => exact Yy hz hf h
 | none => exact xQ h fun D σ H ⟨cf, oa, P, β, ρ, S, hn, L, q⟩ => ⟨cf, oa, P, β, ρ, S, LR.ct (C := au X) (C' := au (X.suite a ((a, oe) :: pn))) rfl rfl L hn, Zx (C := au X) (C' := au (X.suite a ((a, oe) :: pn))) rfl rfl q⟩
def RK (C : Ct) (hds : List ExceptHandler) (l : List Cl) (cs : List Value) : List (Value × Option Nat × (Addr → Value → Option Addr → TS)) := (cs.zip l).map fun p => (p.1, p.2.2.1, RJ C p.2.2.1 p.2.2.2)
theorem wD.to {hds : List ExceptHandler} {l : List Cl} (h : wD X hds l) : ∃ cs : List Value, cs.length = l.length ∧ wC X hds (RK (au X) hds l cs) ∧
  ∀ {cf : Cf} {oa : Nat → Option Addr} {P P1 : Addr → Prop} {σ : L2.St} {H H1 : Hp} {β β1 : List Addr} {ρ : aN} {S : Store} {e : bT} {cls : Value} {d : Option Addr} {D : Ends}, cM ρ = true → LR (au X) cf oa P1 σ H1 β1 ρ S → Fx H P β H1 P1 β1 → jA (au X) H1 P1 β1 cls d e → SQ (au X) W cf H P β D (uW l e ρ S) →
   zf X.K W D (RK (au X) hds l cs) cls d σ H1 := by
 induction h with
 | nil => exact ⟨[], rfl, .nil, fun hn L f ea q => q _ _ _ _ _ _ _ L f ea⟩
 | @cons x c on oi g u b₀ suite np pos' hds2 l2 hc hnm hg hsu r ih =>
  obtain ⟨cs, h1, h2, h3⟩ := ih
  refine ⟨c :: cs, by simp [h1], .cons hc hnm (fun a oe cls d pn hz hf => Zz hz hf (hsu a oe pn)) h2, ?_⟩
  intro cf oa P P1 σ H H1 β β1 ρ S e cls d D hn L f ea q
  obtain ⟨Ca, dd, vs, k1, k2, k3, hr⟩ := id ea
  unfold uW at q
  cases eg : g e.cls with
  | none => rw [eg] at q; exact q.elim
  | some b =>
   rw [eg] at q
   refine ⟨b, by rw [k2]; exact hg _ _ eg _ k1, fun hb a ha => ?_, fun hb => ?_⟩
   ·subst hb
    simp only at q
    cases oi with
    | none =>
     simp only at q
     exact ⟨cf, oa, P1, β1, ρ, S, hn, L, SQ.fx f (Zy q)⟩
    | some i =>
     simp only at q
     by_cases hl : i < ρ.length
     ·rw [if_pos hl] at q
      exact ⟨cf, oa, P1, β1, ρ, S, e, σ, rfl, hn, L, ea, Yz f q⟩
     ·rw [if_neg hl] at q; exact q.elim
   ·subst hb
    exact h3 hn L f ea q
end
def nH : List D → Option (List Str)
 | [] => some []
 | .str x :: r => (nH r).map (x :: ·)
 | _ => none
theorem RL (xs : List Str) : nH (xs.map D.str) = some xs := by
 induction xs with
 | nil => rfl
 | cons x xs ih => simp [nH, ih]
section
variable {X : Cx}
def wF (S : Store) (d : D) (ds : List D) : Option (D × Store) := match d, ds with
 | .ref n, [.int i, y] => match S[n]? with
  | some (.lst xs) => if xs.length < sizeLine ∧ 0 ≤ i ∧ i < 2 ^ 63 then some (.non, S.set n (.lst (xs.take i.toNat ++ [y] ++ xs.drop i.toNat))) else none
  | _ => none
 | _, _ => none
theorem aD.erase {C : Ct} {H : Hp} {P : Addr → Prop} {β : List Addr} : ∀ {vs : List V} {ds : List D} (i : Nat), aD C H P β vs ds → aD C H P β (vs.eraseIdx i) (ds.eraseIdx i)
 | _, _, _, .nil => .nil
 | _, _, 0, .cons _ t => t
 | _, _, i + 1, .cons h t => .cons h (aD.erase i t)
def RM : V → List V → Hp → VK → Prop := fun x vs H Q => ∃ (l : Addr) (xs : List V) (i : Int) (y : V), x = .ref l ∧ vs = [.int i, y] ∧ H l = some (.lst xs) ∧ xs.length < sizeLine ∧ 0 ≤ i ∧ i < 2 ^ 63 ∧
  Q .non (upd H l (.lst (xs.take i.toNat ++ [y] ++ xs.drop i.toNat)))
theorem RN : MtR X "list.insert" RM := mt_insert
theorem RO : Rj X RM wF := by
 intro cf oa P σ H β ρ S x xs dx ds z S' Q L rx rs e k
 unfold wF at e
 split at e
 ·rename_i n i y
  split at e
  ·rename_i RP eS
   split at e
   ·rename_i hi
    cases e
    cases rs with
    | @cons v1 vs1 _ _ r1 rs =>
    obtain ⟨v2, rfl, r2⟩ := iT rs
    cases r1
    cases rx with
    | ref hn =>
     obtain ⟨us, q1, q2⟩ := L.st.ok _ _ _ hn eS
     have m := List.mem_of_getElem? hn
     have nt := L.st.mK m
     have hf : ∀ o u, H _ ≠ some (.frz o u) := fun o u z => by rw [q1] at z; cases z
     have new : bV (au X) (upd H _ (.lst (us.take i.toNat ++ [v2] ++ us.drop i.toNat))) P β _ (.lst (RP.take i.toNat ++ [y] ++ RP.drop i.toNat)) := ⟨_, upd_same, (((q2.take _).append (.cons r2 .nil)).append (q2.drop _)).set (.inr m) nt⟩
     exact ⟨_, us, i, v2, rfl, rfl, q1, by rw [q2.length]; exact hi.1, hi.2.1, hi.2.2, k .non _ (Ext.wrote m nt hf) (L.wrote hn new hf) .non⟩
   ·cases e
  ·cases e
 ·cases e
end
end Mi
namespace PySem.W
open PySem.Calls PyProof.Rows PyProof.V PySem.Spec
end PySem.W
namespace Mi
open PySem PySem.Spec PyProof.Rows L2
/-- at a stands a set of the texts l, cA can be walked -/
structure TS (P : Program) (w : World) (h : Heap) (a : Addr) (l : List Str) : Prop where
 ex : ∃ D : PySem.Froz.SD, h.get? a = some (PySem.Froz.sObj "set" D) ∧ PySem.Froz.TxOk P w D l ∧ Ris D.2.2.place.toList ∧ (w.params.followText "set-order" = true ∨ D.2.2.led = true)
 nd : l.Nodup
 sz : l.length < scanBound
/-- with one more text -/
def i7 (l : List Str) (k : Str) : List Str := if k ∈ l then l else k :: l
theorem ZC (l : List Str) (k : Str) : (i7 l k).length ≤ l.length + 1 := by unfold i7; split <;> simp
theorem ZD {ep : Nat} {es1 : Array (Int × Value)} {t2 : SetTable} {wd : Bool} (r : Ris t2.place.toList) : Ris (PySem.Froz.tailTx ep es1 t2 wd).2.2.place.toList := by
 unfold PySem.Froz.tailTx
 split
 ·exact (relayAll_ris t2 es1 _)
 ·exact r
theorem ZE {ep : Nat} {es1 : Array (Int × Value)} {t2 : SetTable} {wd : Bool} : (PySem.Froz.tailTx ep es1 t2 wd).2.2.led = t2.led := by
 unfold PySem.Froz.tailTx
 split
 ·exact (relayAll_led t2 es1 _)
 ·rfl
theorem ZF {D : PySem.Froz.SD} {h : Int} {v : Value} (r : Ris D.2.2.place.toList) : Ris (PySem.Froz.addTx h v D).2.2.place.toList := by
 unfold PySem.Froz.addTx
 refine ZD ?_
 have := layNew_ris D.2.2 D.1 h v r
 split <;> exact this
theorem ZJ {D : PySem.Froz.SD} {h : Int} {v : Value} : (PySem.Froz.addTx h v D).2.2.led = D.2.2.led := by
 unfold PySem.Froz.addTx
 rw [ZE]
 have := layNew_led D.2.2 D.1 h v
 split <;> exact this
/-- as many, and all of RH -/
theorem perm_of {α : Type} [DecidableEq α] : ∀ {l m : List α}, l.Nodup → (∀ x ∈ l, x ∈ m) → m.length = l.length → m.Perm l
 | [], m, _, _, hl => by rw [List.length_nil, List.length_eq_zero_iff] at hl; rw [hl]
 | x :: l, m, nd, hs, hl => by
  have hx := hs x List.mem_cons_self
  obtain ⟨n1, n2⟩ := List.nodup_cons.mp nd
  have p := List.perm_cons_erase hx
  refine p.trans (List.Perm.cons x (perm_of n2 (fun y hy => ?_) ?_))
  ·exact (List.mem_erase_of_ne (fun (e : y = x) => n1 (e ▸ hy))).mpr (hs y (List.mem_cons_of_mem _ hy))
  ·have := List.length_erase_of_mem hx
   rw [List.length_cons] at hl
   omega
section
variable {P : Program} {w : World} {A : Around} {E : Value → Shared → Prop} {s : Shared} {a : Addr} {l : List Str} {k : Str} {u : Tok}
theorem TS.at {h h' : Heap} (T : TS P w h a l) (e : ∀ o, h.get? a = some o → h'.get? a = some o) : TS P w h' a l :=
 ⟨let ⟨D, q, r⟩ := T.ex; ⟨D, e _ q, r⟩, T.nd, T.sz⟩
theorem ZK {h : Heap} (P : Program) (w : World) : TS P w (h.push { cls := .type "set", dict := none, data := .set #[] 0 (.fresh 0 0 (!w.params.followText "set-order")) }) h.objs.size [] := by
 refine ⟨⟨(#[], 0, .fresh 0 0 (!w.params.followText "set-order")), Heap.get?_push_size _ rfl, PySem.Froz.TxOk.nil (by rfl), List.Pairwise.nil, ?_⟩, List.nodup_nil, by decide⟩
 show _ ∨ (!w.params.followText "set-order") = true
 cases w.params.followText "set-order"
 ·exact .inr rfl
 ·exact .inl rfl
/-- the text is there already -/
theorem ZL {D : PySem.Froz.SD} {Q : Bool → Shared → Prop} (ho : s.heap.get? a = some (PySem.Froz.sObj "set" D)) (F : PySem.Froz.TxOk P w D l) (hk : k ∈ l) (hb : l.length < scanBound) (h : Q false s) :
  wpAny (model P w) A (setAddHashed a (.str k u) (hashStr w k)) Q E s := by
 obtain ⟨es, ep, t⟩ := D
 have hd : (PySem.Froz.sObj "set" (es, ep, t)).data = .set es ep t := rfl
 have hf : t.fits es.size = true := F.fit
 have hel : ElemsOf (PySem.strKind P w) es.toList := F.el
 have hsz : es.size = l.length := F.sz
 have hkey : (PySem.strKind P w).is k (.str k u) = true := PySem.Froz.is_str k u
 unfold setAddHashed setAddHashedIn
 refine wpAny_holding (wpAny_bind (wpAny_setState_of ho hd hf ?_))
 dsimp only
 rw [byScan_of rfl (by omega) hel]
 simp only [↓reduceIte]
 unfold setAddByScan
 refine wpAny_bind ?_
 refine wpAny_bind (wpAny_rule ?_)
 refine wpAny_bind (wpAny_setScan_of (knd := PySem.strKind P w) (k := k) hkey ho hd hf hel ?_)
 cases hr : List.findIdx? (fun e => (PySem.strKind P w).is k e.2) es.toList with
 | some j => dsimp only; exact wpAny_pure (wpAny_pure h)
 | none =>
  obtain ⟨e, he, q⟩ := (F.mem k).mp hk
  have c := List.findIdx?_eq_none_iff.mp hr e he
  rw [q] at c
  cases c
theorem ZM {Q : Value → Shared → Prop} (T : TS P w s.heap a l) (room : l.length + 1 < scanBound)
  (hQ : ∀ h', Heap.SameBut a s.heap h' → TS P w h' a (i7 l k) → Q .none { s with heap := h', toks := s.toks + 1 }) : wpAny (model P w) A (call (.builtin "set.add") [.ref a, .str k u]) Q E s := by
 obtain ⟨⟨D, ho, G, hr, hl⟩, nd, sz⟩ := T
 refine wpAny_call_entry F.slot_set_add ⟨_, ho, rfl⟩ F.entry_set_add ?_ (F.args_set_add_2 _ _)
 unfold Builtin.«set.add» Builtin.Frozenset.oneOther
 simp only [List.isEmpty_nil, bind_assoc]
 unfold Builtin.Frozenset.addrOf setAdd
 refine wpAny_bind (wpAny_pure ?_)
 try dsimp only
 refine wpAny_bind (wpAny_pure ?_)
 try dsimp only
 refine wpAny_bind ?_
 refine wpAny_holding ?_
 refine wpAny_bind ((PySem.strKind P w).pyHash (PySem.Froz.is_str k u) ?_)
 by_cases hk : k ∈ l
 ·refine ZL (s := { s with toks := s.toks + 1 }) ho G hk sz ?_
  have := hQ s.heap (Heap.SameBut.refl a s.heap) (by unfold i7; rw [if_pos hk]; exact ⟨⟨D, ho, G, hr, hl⟩, nd, sz⟩)
  show wpAny _ _ (ret Value.none) _ _ _
  exact wpAny_pure ⟨_, rfl, this⟩
 ·refine PySem.Froz.add_x (s := { s with toks := s.toks + 1 }) ho G hk room ?_
  have := hQ (s.heap.update a (fun _ => PySem.Froz.sObj "set" (PySem.Froz.addTx (hashStr w k) (.str k u) D))) (Heap.SameBut.update _ a _) (by
   unfold i7
   rw [if_neg hk]
   refine ⟨⟨_, PySem.Froz.get_upd _ ho rfl, PySem.Froz.add_ok u G, ZF hr, hl.imp id fun z => by rw [ZJ]; exact z⟩, List.nodup_cons.mpr ⟨hk, nd⟩, room⟩)
  show wpAny _ _ (ret Value.none) _ _ _
  exact wpAny_pure ⟨_, rfl, this⟩
theorem str_is {k : Str} {v : Value} (h : (PySem.strKind P w).is k v = true) : ∃ t, v = .str k t := by
 have h' : Value.isStrOf k v = true := h
 cases v with
 | str x t =>
  refine ⟨t, ?_⟩
  have : x = k := by simpa [Value.isStrOf] using h'
  rw [this]
 | _ => simp [Value.isStrOf] at h'
/-- sorted(..) of it -/
theorem ZO {Q : Value → Shared → Prop} (T : TS P w s.heap a l) (hh : A.handled = none) (h64 : l.length < 64)
  (hQ : ∀ s' p (out : Array Value) (c : Nat) (ns : List Str), (∀ b o, s.heap.get? b = some o → s'.heap.get? b = some o) → s'.gens = s.gens → s'.os = s.os → s.heap.objs.size ≤ p →
   s'.heap.get? p = some (seqObj "list" out c) → StrsAre out.toList ns → sortedS ns = true → ns.Perm l → Q (.ref p) s') :
  wpAny (model P w) A (call (.builtin "sorted") [.ref a]) Q E s := by
 obtain ⟨⟨⟨es, ep, t⟩, ho, F, hr, hl⟩, nd, sz⟩ := T
 have hsz : es.size = l.length := F.sz
 have hel : ElemsOf (PySem.strKind P w) es.toList := F.el
 refine Calls.call_function_entry kind_sorted plain_sorted entry_sorted (args_sorted1 _) ?_
 unfold Builtin.«sorted»
 refine wpAny_bind (m := checkCount "sorted" 1 1 _) (wpAny_pure ?_)
 refine wpAny_bind (collect_set (A := A.in1) hh ⟨_, ho, rfl, rfl⟩ F.fit (by rw [hsz]; exact sz) hr hl fun s1 vs k1 hz g1 o1 pm => ?_)
 have hvl : vs.length = l.length := by rw [pm.length_eq, List.length_map, Array.length_toList]; exact hsz
 have hall : ∀ v ∈ vs, ∃ x t, v = .str x t := fun v hv => by
  obtain ⟨e, he, q⟩ := List.mem_map.mp (pm.mem_iff.mp hv)
  obtain ⟨⟨k, h1, _⟩, _⟩ := hel e he
  obtain ⟨t, h2⟩ := str_is h1
  exact ⟨k, t, by rw [← q]; exact h2⟩
 have hS : StrsAre vs (vs.map PyProof.Rows.strOf) := strsAre_map vs hall
 have key : (vs.map PyProof.Rows.strOf).Perm l := by
  have p1 : (vs.map PyProof.Rows.strOf).Perm (es.toList.map fun e => PyProof.Rows.strOf e.2) := by
   have q := pm.map PyProof.Rows.strOf
   rw [List.map_map] at q
   exact q
  have mm : ∀ k, k ∈ es.toList.map (fun e => PyProof.Rows.strOf e.2) ↔ k ∈ l := fun k => by
   rw [F.mem k, List.mem_map]
   constructor
   ·rintro ⟨e, he, q⟩
    obtain ⟨⟨k', h1, _⟩, _⟩ := hel e he
    obtain ⟨t, h2⟩ := str_is h1
    refine ⟨e, he, ?_⟩
    rw [h2] at q
    have : k' = k := q
    rw [← this]; exact h1
   ·rintro ⟨e, he, q⟩
    obtain ⟨t, h2⟩ := str_is q
    exact ⟨e, he, by rw [h2]; rfl⟩
  have ln : (es.toList.map fun e => PyProof.Rows.strOf e.2).length = l.length := by rw [List.length_map, Array.length_toList]; exact hsz
  exact p1.trans (perm_of nd (fun k hk => (mm k).mpr hk) ln)
 refine wpAny_bind (wpAny_newList ?_ (by rw [hvl, sizeLine_eq]; omega))
 have hoL : (s1.heap.push (seqObj "list" vs.toArray 0)).get? s1.heap.objs.size = some (seqObj "list" vs.toArray 0) := Heap.get?_push_size _ rfl
 refine wpAny_bind (wpAny_holding (wpAny_call_entry slot_list_sort ⟨_, hoL, rfl⟩ entry_list_sort (list_sort_treeK strKind_oneLt hoL hS.keysOf (fun v₁ v₂ rest e => keyKind_strs (by rw [← e]; exact hS)) (by rw [hvl]; exact h64) fun st' hp hs => ?_) (args_list_sort _)))
 obtain ⟨ss', a1, a2, a3⟩ := sorted_out_str hS hp hs
 refine ⟨_, rfl, ?_⟩
 obtain ⟨c, hc⟩ := sortedHeap_at (vs := vs) (out := (arrOf st').map (·.2)) hoL
 refine wpAny_pure ⟨_, rfl, hQ _ s1.heap.objs.size _ c ss' (fun b u e => ?_) g1 o1 hz hc a1 a3 (a2.trans key)⟩
 have q := k1 b u e
 have hlt := Heap.lt_size q
 show (sortedHeap (s1.heap.push (seqObj "list" vs.toArray 0)) s1.heap.objs.size vs _).get? b = some u
 rw [sortedHeap_old (Nat.ne_of_lt hlt) (by rw [size_push']; exact Nat.lt_succ_of_lt hlt)]
 exact Heap.get?_push_of_some _ q
end
/-- the set of texts at a, as a tracked thing -/
def fO (P : Program) (w : World) (a : Addr) (l : List Str) : HO := .ext fun h => TS P w h a l
theorem RQ {w : World} {P : Program} {H : Hp} {h : Heap} {a : Addr} {l : List Str} (T : TS P w h a l) : ObjOk P w H h a (fO P w a l) := by
 have ⟨D, ho, _⟩ := T.ex
 exact ⟨T, ⟨_, ho⟩, fun h1 h2 p k => TS.at p k⟩
section
variable {X : Cx} {pins : List (Addr × Obj)} {σ : L2.St} {H : Hp} {s : Shared} {a D : Addr} {l : List Str}
theorem RW (I : Inv X pins σ H s) (ha : H a = some (fO X.prog X.w a l)) : TS X.prog X.w s.heap a l := (I.hok a _ ha).1
theorem ZP {E : Value → Shared → Prop} {k : Str} {u : Tok} {Q : Value → Shared → Prop} (I : Inv X pins σ H s) (hD : H D = some (fO X.prog X.w D l)) (room : l.length + 1 < scanBound)
  (h : ∀ s', Inv X pins σ (upd H D (fO X.prog X.w D (i7 l k))) s' → Q .none s') : wpAny (model X.prog X.w) X.A (call (.builtin "set.add") [.ref D, .str k u]) Q E s := by
 refine ZM (RW I hD) room fun h' sb new => ?_
 have he : ∃ u, h'.get? D = some u := let ⟨_, ho, _⟩ := new.ex; ⟨_, ho⟩
 exact h _ (I.write (e := D) (t' := s.toks + 1) (by rw [hD]; trivial) (.inl rfl) (fun b u hb hu => (sb.2 b hb).trans hu) he (RQ new))
/-- sorted(found), a set of fewer ZQ 64 texts -/
def ZR (P : Program) (w : World) : List V → Hp → VK → Prop := fun vs H Q => ∃ (a : Addr) (l : List Str), vs = [V.ref a] ∧ H a = some (fO P w a l) ∧ l.length < 64 ∧
 ∀ (ns : List Str) (p : Addr), sortedS ns = true → ns.Perm l → H p = none → Q (.ref p) (upd H p (.lst (ns.map V.str)))
theorem ZS (hc : X.calm = true) : CallR X (.builtin "sorted") (ZR X.prog X.w) := by
 intro pins s σ H vs us Q I r h
 obtain ⟨a, l, rfl, ha, h64, q⟩ := h
 rw [Vals.ref1 r]
 refine ZO (RW I ha) (I.ok.hd hc) h64 fun s' p out c ns k g o hp hg hi hs hm => ?_
 have hlen : (ns.map V.str).length ≤ sizeLine := by rw [List.length_map, hm.length_eq, sizeLine_eq]; omega
 have hn : H p = none := I.hok.fresh hp
 have J : Inv X pins σ (upd H p (.lst (ns.map V.str))) { s with heap := s'.heap, gens := s'.gens, drawn := s'.drawn, toks := s'.toks } :=
  I.call (ch := []) (Un.laid k hp hn) (I.hok.laid k hp ⟨hlen, out.toList, c, vals_of_strs hi, hg⟩) (by rw [g]; exact I.bare) (fun _ z => nomatch z)
 have e : s' = { s with heap := s'.heap, gens := s'.gens, drawn := s'.drawn, toks := s'.toks } := by
  obtain ⟨h1, g1, d1, t1, o1⟩ := s'
  have : o1 = s.os := o
  rw [this]
 rw [e]
 exact ⟨.ref p, _, J, rfl, q ns p hs hm hn⟩
/-- {elt for target in iter if ..}, elt a text: D the new set -/
def BD (P : Program) (w : World) (wi : TI) (g : TG) (tt : TT) (te : TE) (vs : List Nat) : TE := fun σ H Q => wi σ H fun J H1 => ∀ D, H1 D = none → ∃ W : Nat → Nat → Hp → Prop, (∃ m, W 0 m (upd H1 D (fO P w D []))) ∧ ∀ i m H, W i m H →
 (J.stop i H ∧ Q (.ref D) H) ∨ (J.go i H ∧ ∃ Nx : Hp → Prop, (∀ H', Nx H' → ∃ m', m' < m ∧ W (i + 1) m' H') ∧ ∀ x H', J.yld i H x H' → g x (wipe σ vs) H' fun σ2 H2 => wipe σ2 vs = wipe σ vs ∧ tt σ2 H2 fun b H3 =>
  if b = true then te σ2 H3 fun y H4 => ∃ (k : Str) (l : List Str), y = .str k ∧ H4 D = some (fO P w D l) ∧ l.length + 1 < scanBound ∧ Nx (upd H4 D (fO P w D (i7 l k))) else Nx H3)
theorem ZU {Q : VK} {elt tg iter : Expr} {ifs : List Expr} {scope : Scope} {own : List (PySem.Str × Nat)} {pos pos' : Pos} {wi : TI} {g : TG} {tt : TT} {te : TE} {use : Option (Value → Sem Unit)} {Qf : Value → Shared → Prop}
  (hc : X.calm = true) (hN : X.N.Nodup) (I : Inv X pins σ H s) (hi : PI X tg iter wi) (ok : BlkOk X.N X.env.scope scope own)
  (hg : ∀ (s : Shared) (H : Hp) (C : Addr) (cl : List (PySem.Str × Addr)) (fp : List Addr), PG (X.blk s H scope (compEnvC scope cl C X.env) fp) tg g) (ht : ∀ (s : Shared) (H : Hp) (C : Addr) (cl : List (PySem.Str × Addr)) (fp : List Addr), PTs (X.blk s H scope (compEnvC scope cl C X.env) fp) ifs tt)
  (he : ∀ (s : Shared) (H : Hp) (C : Addr) (cl : List (PySem.Str × Addr)) (fp : List Addr), PE (X.blk s H scope (compEnvC scope cl C X.env) fp) elt te) (hs : ∀ x, foldedSetIterable iter X.env x = pure x)
  (h : BD X.prog X.w wi g tt te (own.map (·.2)) σ H Q)
  (hRR : ∀ D C s' m H', Inv X pins σ H' s' → Q (.ref D) H' → s'.heap.Ns C m → FpOk X pins H' C → compPost (model X.prog X.w) X.A X.xe use Qf (.ref D) C (.ok .next) s') :
  wpAny (model X.prog X.w) X.A (comprehension (.SetComp elt [⟨tg, iter, ifs, 0⟩] scope pos) scope X.env pos' (newSet (.type "set")) false (eval iter X.env) use) Qf X.xe s := by
 refine wpAny_comprehension_free (use := use) rfl hs (closure_ok fun y hy e => ?free) ok.kind (fun y hy e => by rw [ok.uniq y hy, e])
  (thn (hi.run pins s σ H _ I h) fun xv s1 hx => thn hx fun itv s2 h2 => ?_)
 case free => exact (ok.free y hy e).elim (fun k => I.ok.has _ (.inl k)) fun k => I.ok.has _ (.inr k)
 obtain ⟨it, fp, tn, J, H2, rfl, I2, T, st2, f2, q⟩ := h2
 refine PpSet.newSet_ok (newEnv_comp ?_)
 obtain ⟨D, hD⟩ : ∃ D, s2.heap.objs.size = D := ⟨_, rfl⟩
 obtain ⟨W, ⟨m0, w0⟩, turn⟩ := q D (I2.hok.fresh (Nat.le_of_eq hD))
 rw [hD]
 -- the new set
 obtain ⟨s3, hs3⟩ : ∃ s3 : Shared, s3 = { s2 with heap := s2.heap.push { cls := .type "set", dict := none, data := .set #[] 0 (.fresh 0 0 (!X.w.params.followText "set-order")) } } := ⟨_, rfl⟩
 have old : ∀ b o, s2.heap.get? b = some o → s3.heap.get? b = some o := fun b o e => by rw [hs3]; exact Heap.get?_push_of_some _ e
 have ZV : s3.heap.objs.size = s2.heap.objs.size + 1 := by rw [hs3]; exact Heap.size_push ..
 have I3 : Inv X pins σ (upd H2 D (fO X.prog X.w D [])) s3 := by
  rw [hs3]
  refine I2.laid (t' := s2.toks) (fun b o e => Heap.get?_push_of_some _ e) (Nat.le_of_eq hD) ?_
  rw [← hD]
  exact RQ (ZK X.prog X.w)
 have f3 : ∀ b ∈ fp, FpOk X pins (upd H2 D (fO X.prog X.w D [])) b ∧ b < s3.heap.objs.size := fun b hb => by
  obtain ⟨o, e, _⟩ := T.obj _ _ st2 b hb
  have hlt := Heap.lt_size e
  exact ⟨⟨by rw [upd_ne (by rw [← hD]; exact Nat.ne_of_lt hlt)]; exact (f2 b hb).1, (f2 b hb).2⟩, by rw [ZV]; exact Nat.lt_succ_of_lt hlt⟩
 have st3 : tn 0 s3.heap := T.keep _ _ _ st2 fun b _ o e => old b o e
 rw [← hs3]
 obtain ⟨H3, ZW⟩ : ∃ H3, H3 = upd H2 D (fO X.prog X.w D []) := ⟨_, rfl⟩
 rw [← ZW] at w0 I3 f3
 have I4 := block_start I3 ok hN f3
 have pg := hg s3 H3 s3.heap.objs.size (cellsFrom (s3.heap.objs.size + 1) scope.names (cloFrom X.env.cells scope.names [])) fp
 have pt := ht s3 H3 s3.heap.objs.size (cellsFrom (s3.heap.objs.size + 1) scope.names (cloFrom X.env.cells scope.names [])) fp
 have pe := he s3 H3 s3.heap.objs.size (cellsFrom (s3.heap.objs.size + 1) scope.names (cloFrom X.env.cells scope.names [])) fp
 show codeAny _ _ (.compStart (.SetComp elt [⟨tg, iter, ifs, 0⟩] scope pos) 0 (.ref it) (.ref D) (compEnvC scope (cellsFrom (s3.heap.objs.size + 1) scope.names (cloFrom X.env.cells scope.names [])) s3.heap.objs.size X.env)) (compPost (model X.prog X.w) X.A X.xe use Qf (.ref D) s3.heap.objs.size) { s3 with heap := pushCells (s3.heap.push { cls := .type "dict", data := .dict #[] }) scope.names }
 generalize hce : compEnvC scope (cellsFrom (s3.heap.objs.size + 1) scope.names (cloFrom X.env.cells scope.names [])) s3.heap.objs.size X.env = ce at I4 pg pt pe ⊢
 have cL : ce.locals = s3.heap.objs.size := by subst hce; rfl
 generalize hs4 : ({ s3 with heap := pushCells (s3.heap.push { cls := .type "dict", data := .dict #[] }) scope.names } : Shared) = s4 at I4 ⊢
 have st4 : tn 0 s4.heap := T.keep _ _ _ st3 fun b _ o e => by rw [← hs4]; exact pushCells_keeps _ _ _ _ (Heap.get?_push_of_some _ e)
 have stat : ∀ {σ' : L2.St} {H' : Hp} {s' : Shared}, Inv (X.blk s3 H3 scope ce fp) [] σ' H' s' → (∀ b ∈ fp, H' b = none) → ∀ b ∈ fp, FpOk (X.blk s3 H3 scope ce fp) [] H' b := fun {σ' H' s'} I' hn b hb =>
  ⟨hn b hb, (I'.ok.exf b hb).1, I'.ok.exfs b hb, .inl hb, fun x c e => (I'.ok.exf b hb).2 x c e, fun p hp => absurd (show p ∈ ([] : List (Addr × Obj)) ++ [] from hp) (by simp)⟩
 refine PpSet.codeAny_compStart_set ?loop (T.self X.A 0 _ _ _ st4 ?loop)
 refine PpSet.compLoopS_any (fun n s' => ∃ i H', Inv (X.blk s3 H3 scope ce fp) [] (wipe σ (own.map (·.2))) H' s' ∧ tn i s'.heap ∧ (∀ b ∈ fp, H' b = none) ∧ W i n H') ?_ m0 ⟨0, H3, I4, st4, fun b hb => (f3 b hb).1.1, w0⟩
 rintro n s5 ⟨i, H5, I5, st5, n5, w5⟩
 rcases turn i n H5 w5 with ⟨stop, qq⟩ | ⟨go, Nx, hNx, step⟩
 ·refine thnF (T.done (X.blk s3 H3 scope ce fp) rfl rfl rfl hc i [] s5 _ H5 (fun _ _ => False) I5 (stat I5 n5) st5 stop) fun r s6 ⟨hr, I6⟩ => ?_
  subst hr
  have I7 : Inv X pins σ H5 s6 := I3.call' (ch := fp) I6.os I6.base I6.hok I6.bare fun b hb => ⟨(f3 b hb).1.2.2.2.1, (f3 b hb).1.2.1, (f3 b hb).1.2.2.2.2.1, (f3 b hb).1.2.2.2.2.2⟩
  have nC : H5 s3.heap.objs.size = none := by rw [← cL]; exact I6.free
  obtain ⟨m, hn, _⟩ := I6.loc
  have hn : s6.heap.Ns ce.locals m := hn
  rw [cL] at hn
  exact hRR D s3.heap.objs.size s6 m H5 I7 qq hn (I3.fpOk (Nat.le_refl _) nC)
 ·refine thnF (T.item (X.blk s3 H3 scope ce fp) rfl rfl rfl hc i [] s5 _ H5 (fun _ _ => False) I5 (stat I5 n5) st5 go) fun r s6 ⟨u, hr, h6⟩ => ?_
  subst hr
  refine thnF h6 fun _ s7 ⟨x, H7, I7, r7, y7, st7, n7⟩ => ?_
  refine thnF (pg.run _ s7 _ H7 x u _ (I7.pinned (stat I7 n7) (T.obj _ _ st7)) r7 (step x H7 y7)) fun _ s8 ⟨σ8, H8, I8, hw8, q8⟩ => ?_
  refine thnF (pt.run _ s8 σ8 H8 _ I8 q8) fun b s9 ⟨H9, I9, q9⟩ => ?_
  have fin : ∀ {s' : Shared} {H' : Hp}, Inv (X.blk s3 H3 scope ce fp) ([] ++ pinsAt fp s7.heap) σ8 H' s' → Nx H' → ∃ m, m < n ∧ ∃ i H', Inv (X.blk s3 H3 scope ce fp) [] (wipe σ (own.map (·.2))) H' s' ∧ tn i s'.heap ∧ (∀ b ∈ fp, H' b = none) ∧ W i m H' := fun {s' H'} I' nx => by
   obtain ⟨m', hm, w'⟩ := hNx H' nx
   have pin' : ∀ b ∈ fp, ∀ o, s7.heap.get? b = some o → s'.heap.get? b = some o ∧ H' b = none := fun b hb o e =>
    let z := I'.pin (b, o) (List.mem_append_right _ (List.mem_append_right _ (mem_pinsAt hb e)))
    ⟨z.1, z.2.1⟩
   refine ⟨m', hm, i + 1, H', (I'.unpinned (pins := [])).weak (by rw [← hw8, wipe_length]) (fun j v e => by rw [← hw8] at e; exact (wipe_some e).1), T.keep _ _ _ st7 fun b hb o e => (pin' b hb o e).1, fun b hb => ?_, w'⟩
   obtain ⟨o, e, _⟩ := T.obj _ _ st7 b hb
   exact (pin' b hb o e).2
  cases b with
  | false =>
   simp only [Bool.false_eq_true, if_false] at q9 ⊢
   exact fin I9 q9
  | true =>
   simp only [if_true] at q9 ⊢
   refine thnF (pe.run _ s9 σ8 H9 _ I9 q9) fun z s10 ⟨yv, H10, I10, r10, k, l, ey, hD10, hz10, nx⟩ => ?_
   subst ey
   obtain ⟨t, rfl⟩ := (show ∃ t, z = Value.str k t from r10)
   exact ZP (X := X.blk s3 H3 scope ce fp) I10 hD10 hz10 fun s11 I11 => fin I11 nx
end
def fZ (xs : List Str) : List Str := xs.foldl i7 []
def FJ (d : D) : Option (List Str) := match d with
 | .lst ds => match nH ds with
  | some xs => if xs.length + 1 < scanBound ∧ (fZ xs).length < 64 then some (nA (fZ xs)) else none
  | none => none
 | _ => none
/-- the two statements: the a8X slot is not read behind RH -/
def BE (x y : Nat) (c : EX) (vs : List Nat) (g : GX) (t : BX) (e : EX) : SX := fun ρ S => if x < ρ.length then match c ρ S with
 | .ok d S1 => match FJ d with
  | some ns => match bG vs g t e (bO (ρ.set x .un) vs) (ns.map D.str) [] S1 with
   | .ok ys S2 => .nx ((ρ.set x .un).set y (.sh (.lst ys))) S2
   | _ => .stuck
  | none => .stuck
 | _ => .stuck
 else .stuck
theorem RX (xs : List Str) : (fZ xs).length ≤ xs.length := by
 have : ∀ (xs acc : List Str), (xs.foldl i7 acc).length ≤ acc.length + xs.length := by
  intro xs
  induction xs with
  | nil => intro acc; simp
  | cons x xs ih =>
   intro acc
   rw [List.foldl_cons, List.length_cons]
   have := ih (i7 acc x)
   have := ZC acc x
   omega
 have h := this xs []
 unfold fZ
 simpa using h
abbrev zj (xs : List Str) : List D := xs.map D.str
theorem ZX (xs : List Str) (k : Str) : fZ (xs ++ [k]) = i7 (fZ xs) k := by unfold fZ; rw [List.foldl_append]; rfl
theorem FO {vs : List Nat} {g : GX} {t : BX} {e : EX} {ρ : aN} : ∀ {ds acc ys : List D} {S S' : Store}, bG vs g t e ρ ds acc S = .ok ys S' → ∃ zs, ys = acc ++ zs
 | [], acc, ys, S, S', h => by
  unfold bG at h
  cases h
  exact ⟨[], by simp⟩
 | d :: ds, acc, ys, S, S', h => by
  unfold bG at h
  cases eg : g d ρ S with
  | none => rw [eg] at h; cases h
  | some p =>
   rw [eg] at h
   simp only at h
   cases et : t p.1 p.2 with
   | stuck => rw [et] at h; cases h
   | exc _ _ => rw [et] at h; cases h
   | ok k S2 =>
    rw [et] at h
    cases k with
    | false => exact FO h
    | true =>
     simp only at h
     cases ee : e p.1 S2 with
     | stuck => rw [ee] at h; cases h
     | exc _ _ => rw [ee] at h; cases h
     | ok y S3 =>
      rw [ee] at h
      simp only at h
      by_cases hz : acc.length < sizeLine
      ·rw [if_pos hz] at h
       obtain ⟨zs, rfl⟩ := FO h
       exact ⟨y :: zs, by simp⟩
      ·rw [if_neg hz] at h; cases h
theorem FP : ∀ {as bs : List D} {xs : List Str}, nH (as ++ bs) = some xs → ∃ ys zs, nH as = some ys ∧ nH bs = some zs ∧ xs = ys ++ zs
 | [], bs, xs, h => ⟨[], xs, rfl, h, rfl⟩
 | .str x :: as, bs, xs, h => by
  have h' : (nH (as ++ bs)).map (x :: ·) = some xs := h
  obtain ⟨ws, e, rfl⟩ := Option.map_eq_some_iff.mp h'
  obtain ⟨ys, zs, e1, e2, rfl⟩ := FP e
  exact ⟨x :: ys, zs, by show (nH as).map (x :: ·) = _; rw [e1]; rfl, e2, rfl⟩
 | .non :: _, _, _, h => by cases h
 | .bl _ :: _, _, _, h => by cases h
 | .int _ :: _, _, _, h => by cases h
 | .tup _ :: _, _, _, h => by cases h
 | .lst _ :: _, _, _, h => by cases h
 | .dct _ :: _, _, _, h => by cases h
 | .ref _ :: _, _, _, h => by cases h
 | .ty _ :: _, _, _, h => by cases h
 | .fn _ :: _, _, _, h => by cases h
section
variable {X : Cx} {W : WX} {b : Bool} {cf : Cf} {oa : Nat → Option Addr} {P : Addr → Prop} {σ : L2.St} {H1 : Hp} {β1 : List Addr} {ρ : aN} {S1 : Store} {J : It} {ds : List D} {vs : List Nat} {g : GX} {gt : TG} {t : BX} {tt : TT} {te : TE} {ma : EX} {Q : VK}
/-- the walk of a list comprehension, from its items on -/
theorem ZY (L1 : LR (au X) cf oa P σ H1 β1 ρ S1) (im : lH (au X) J ds H1 P β1) (hg : BG X vs g gt) (ht : ∀ σ H Q, BM (au X) W0 b t σ H Q → tt σ H Q) (he : ∀ σ H Q, EM (au X) W0 b ma σ H Q → te σ H Q) {ys : List D} {SE : Store} (hc : bG vs g t ma (bO ρ vs) ds [] S1 = .ok ys SE)
  (h : ∀ a H' β', Tr b H1 β1 S1 H' β' SE → H1 a = none → LR (au X) cf oa (fun c => P c ∨ c = a) σ H' β' ρ SE → cO (au X) H' (fun c => P c ∨ c = a) β' a (.lst ys) → Q (.ref a) H') :
  ∀ D, H1 D = none → ∃ W : Nat → Nat → Hp → Prop, (∃ m, W 0 m (upd H1 D (.lst []))) ∧ ∀ i m H, W i m H →
   (J.stop i H ∧ Q (.ref D) H) ∨ (J.go i H ∧ ∃ Nx : Hp → Prop, (∀ H', Nx H' → ∃ m', m' < m ∧ W (i + 1) m' H') ∧ ∀ x H', J.yld i H x H' → gt x (L2.wipe σ vs) H' fun σ2 H2 => L2.wipe σ2 vs = L2.wipe σ vs ∧ tt σ2 H2 fun b H3 =>
    if b = true then te σ2 H3 fun y H4 => ∃ xs, H4 D = some (.lst xs) ∧ xs.length < sizeLine ∧ Nx (upd H4 D (.lst (xs ++ [y]))) else Nx H3) := by
 intro D hD
 have qW : Same H1 (upd H1 D (.lst [])) := fU hD
 refine ⟨fun i m H2 => m = ds.length - i ∧ i ≤ ds.length ∧ ∃ β2 S2 acc xs, LR (au X) cf oa (fun a => P a ∨ a = D) σ H2 β2 ρ S2 ∧ Tr b H1 β1 S1 H2 β2 S2 ∧ H2 D = some (.lst xs) ∧ aD (au X) H2 (fun a => P a ∨ a = D) β2 xs acc ∧
   bG vs g t ma (bO ρ vs) ds [] S1 = bG vs g t ma (bO ρ vs) (ds.drop i) acc S2,
  ⟨ds.length, by simp, Nat.zero_le _, β1, S1, [], [], L1.vI qW hD (by rw [upd_same]; exact Option.some_ne_none _), Tr.same qW, upd_same, .nil, by rw [List.drop_zero]⟩, ?_⟩
 rintro i m H2 ⟨rfl, hil, β2, S2, acc, xs, L2, t2, hx, rs, eq⟩
 have h0 : cf.H0 D = none := by
  cases z : cf.H0 D with
  | none => rfl
  | some u => exact absurd hD (L1.ext.stay D (by rw [z]; exact Option.some_ne_none _))
 have no : ∀ j, oa j ≠ some D := fun j z => (L1.p D (L1.own j D z).1).1 hD
 obtain ⟨go, stop⟩ := im i H2 (fun a => P a ∨ a = D) β2 (Fx.more t2.ext hD) L2.new
 rw [hc] at eq
 by_cases hl : i < ds.length
 ·right
  have hd : ds[i]? = some ds[i] := List.getElem?_eq_getElem hl
  obtain ⟨g1, g2⟩ := go _ hd
  rw [List.drop_eq_getElem_cons hl] at eq
  simp only [bG] at eq
  refine ⟨g1, fun H' => ∃ β2 S2 acc xs, LR (au X) cf oa (fun a => P a ∨ a = D) σ H' β2 ρ S2 ∧ Tr b H1 β1 S1 H' β2 S2 ∧ H' D = some (.lst xs) ∧ aD (au X) H' (fun a => P a ∨ a = D) β2 xs acc ∧
   bG vs g t ma (bO ρ vs) ds [] S1 = bG vs g t ma (bO ρ vs) (ds.drop (i + 1)) acc S2, fun H' hN => ⟨ds.length - (i + 1), by omega, rfl, hl, hN⟩, fun x H3 y => ?_⟩
  obtain ⟨e3, r3⟩ := g2 x H3 y
  have L3 := L2.same e3
  cases eg : g ds[i] (bO ρ vs) S2 with
  | none => rw [eg] at eq; cases eq
  | some p =>
   rw [eg] at eq
   simp only at eq
   refine hg cf oa _ σ H3 β2 ρ S2 x ds[i] p _ (L3.wipe vs) r3 eg fun σ4 hw L4 hS => ⟨hw, ?_⟩
   have back : ∀ {H5 : Hp} {β5 : List Addr} {S5 : Store}, Tr b H3 β2 S2 H5 β5 S5 → aU (au X) H5 (fun a => P a ∨ a = D) β5 S5 → LR (au X) cf oa (fun a => P a ∨ a = D) σ H5 β5 ρ S5 := fun t5 s5 => L3.step t5.ext s5
   refine ht _ _ _ ⟨cf, oa, _, β2, p.1, p.2, L4, ?_⟩
   cases et : t p.1 p.2 with
   | stuck => rw [et] at eq; cases eq
   | exc e S5 => rw [et] at eq; cases eq
   | ok k S5 =>
    rw [et] at eq
    intro H5 β5 t5 L5
    rw [hS] at t5
    have nD : ∀ {H6 : Hp}, H6 D = some (.lst xs) → ∀ ys, ¬ Rd H6 D (.tup ys) := fun {H6} q ys r => by
     rcases r with r | ⟨o, r⟩ <;> (rw [q] at r; cases r)
    have qX : H5 D = some (.lst xs) := t5.ext.keep _ _ (e3 _ _ hx) (L3.p D (.inr rfl)).2
    cases k with
    | false =>
     rw [if_neg Bool.false_ne_true]
     exact ⟨β5, S5, acc, xs, back t5 L5.st, t2.trans ((Tr.same e3).trans t5), qX, (rs.mono (Ext.same e3)).mono t5.ext, by rw [hc]; exact eq⟩
    | true =>
     rw [if_pos rfl]
     simp only at eq
     refine he _ _ _ ⟨cf, oa, _, β5, p.1, S5, L5, ?_⟩
     cases ee : ma p.1 S5 with
     | stuck => rw [ee] at eq; cases eq
     | exc e S6 => rw [ee] at eq; cases eq
     | ok d S6 =>
      rw [ee] at eq
      intro v H6 β6 t6 L6 r6
      have iG : H6 D = some (.lst xs) := t6.ext.keep _ _ qX (L5.p D (.inr rfl)).2
      have len : xs.length = acc.length := rs.length
      by_cases hz : acc.length < sizeLine
      ·simp only [if_pos hz] at eq
       have oF := t5.trans t6
       have L7 := back oF L6.st
       have DL := ((rs.mono (Ext.same e3)).mono oF.ext)
       refine ⟨xs, iG, by rw [len]; exact hz, β6, S6, acc ++ [d], xs ++ [v], L7.pY (.inr rfl) h0 no (nD iG) (fun o u z => by rw [iG] at z; cases z), (t2.trans ((Tr.same e3).trans oF)).pY hD (nD iG) (fun o u z => by rw [iG] at z; cases z), upd_same, ?_, by rw [hc]; exact eq⟩
       exact (DL.append (.cons r6 .nil)).set (.inl (.inr rfl)) (nD iG)
      ·simp only [if_neg hz] at eq
       cases eq
 ·left
  have e : i = ds.length := by omega
  subst e
  rw [List.drop_length] at eq
  simp only [bG] at eq
  cases eq
  exact ⟨stop rfl, h D H2 β2 t2 hD L2 ⟨xs, hx, rs⟩⟩
/-- the walk of a set comprehension -/
theorem ZZ (L1 : LR (au X) cf oa P σ H1 β1 ρ S1) (im : lH (au X) J ds H1 P β1) (hg : BG X vs g gt) (ht : ∀ σ H Q, BM (au X) W0 b t σ H Q → tt σ H Q) (he : ∀ σ H Q, EM (au X) W0 b ma σ H Q → te σ H Q) {ys : List D} {zs : List Str} {SE : Store} (hc : bG vs g t ma (bO ρ vs) ds [] S1 = .ok ys SE)
  (hz : nH ys = some zs) (hb : zs.length + 1 < scanBound)
  (h : ∀ a H' β', Tr b H1 β1 S1 H' β' SE → H1 a = none → LR (au X) cf oa (fun c => P c ∨ c = a) σ H' β' ρ SE → H' a = some (fO X.prog X.w a (fZ zs)) → Q (.ref a) H') :
  ∀ D, H1 D = none → ∃ W : Nat → Nat → Hp → Prop, (∃ m, W 0 m (upd H1 D (fO X.prog X.w D []))) ∧ ∀ i m H, W i m H →
   (J.stop i H ∧ Q (.ref D) H) ∨ (J.go i H ∧ ∃ Nx : Hp → Prop, (∀ H', Nx H' → ∃ m', m' < m ∧ W (i + 1) m' H') ∧ ∀ x H', J.yld i H x H' → gt x (L2.wipe σ vs) H' fun σ2 H2 => L2.wipe σ2 vs = L2.wipe σ vs ∧ tt σ2 H2 fun b H3 =>
    if b = true then te σ2 H3 fun y H4 => ∃ (k : Str) (l : List Str), y = .str k ∧ H4 D = some (fO X.prog X.w D l) ∧ l.length + 1 < scanBound ∧ Nx (upd H4 D (fO X.prog X.w D (i7 l k))) else Nx H3) := by
 intro D hD
 have qW : Same H1 (upd H1 D (fO X.prog X.w D [])) := fU hD
 refine ⟨fun i m H2 => m = ds.length - i ∧ i ≤ ds.length ∧ ∃ β2 S2 acc, LR (au X) cf oa (fun a => P a ∨ a = D) σ H2 β2 ρ S2 ∧ Tr b H1 β1 S1 H2 β2 S2 ∧ H2 D = some (fO X.prog X.w D (fZ acc)) ∧
   bG vs g t ma (bO ρ vs) ds [] S1 = bG vs g t ma (bO ρ vs) (ds.drop i) (zj acc) S2,
  ⟨ds.length, by simp, Nat.zero_le _, β1, S1, [], L1.vI qW hD (by rw [upd_same]; exact Option.some_ne_none _), Tr.same qW, upd_same, by rw [List.drop_zero]; rfl⟩, ?_⟩
 rintro i m H2 ⟨rfl, hil, β2, S2, acc, L2, t2, hx, eq⟩
 have h0 : cf.H0 D = none := by
  cases z : cf.H0 D with
  | none => rfl
  | some u => exact absurd hD (L1.ext.stay D (by rw [z]; exact Option.some_ne_none _))
 have no : ∀ j, oa j ≠ some D := fun j z => (L1.p D (L1.own j D z).1).1 hD
 obtain ⟨go, stop⟩ := im i H2 (fun a => P a ∨ a = D) β2 (Fx.more t2.ext hD) L2.new
 rw [hc] at eq
 by_cases hl : i < ds.length
 ·right
  have hd : ds[i]? = some ds[i] := List.getElem?_eq_getElem hl
  obtain ⟨g1, g2⟩ := go _ hd
  rw [List.drop_eq_getElem_cons hl] at eq
  simp only [bG] at eq
  refine ⟨g1, fun H' => ∃ β2 S2 acc, LR (au X) cf oa (fun a => P a ∨ a = D) σ H' β2 ρ S2 ∧ Tr b H1 β1 S1 H' β2 S2 ∧ H' D = some (fO X.prog X.w D (fZ acc)) ∧
   bG vs g t ma (bO ρ vs) ds [] S1 = bG vs g t ma (bO ρ vs) (ds.drop (i + 1)) (zj acc) S2, fun H' hN => ⟨ds.length - (i + 1), by omega, rfl, hl, hN⟩, fun x H3 y => ?_⟩
  obtain ⟨e3, r3⟩ := g2 x H3 y
  have L3 := L2.same e3
  cases eg : g ds[i] (bO ρ vs) S2 with
  | none => rw [eg] at eq; cases eq
  | some p =>
   rw [eg] at eq
   simp only at eq
   refine hg cf oa _ σ H3 β2 ρ S2 x ds[i] p _ (L3.wipe vs) r3 eg fun σ4 hw L4 hS => ⟨hw, ?_⟩
   have back : ∀ {H5 : Hp} {β5 : List Addr} {S5 : Store}, Tr b H3 β2 S2 H5 β5 S5 → aU (au X) H5 (fun a => P a ∨ a = D) β5 S5 → LR (au X) cf oa (fun a => P a ∨ a = D) σ H5 β5 ρ S5 := fun t5 s5 => L3.step t5.ext s5
   refine ht _ _ _ ⟨cf, oa, _, β2, p.1, p.2, L4, ?_⟩
   cases et : t p.1 p.2 with
   | stuck => rw [et] at eq; cases eq
   | exc e S5 => rw [et] at eq; cases eq
   | ok k S5 =>
    rw [et] at eq
    intro H5 β5 t5 L5
    rw [hS] at t5
    have nD : ∀ {H6 : Hp}, H6 D = some (fO X.prog X.w D (fZ acc)) → ∀ ys, ¬ Rd H6 D (.tup ys) := fun {H6} q ys r => by
     rcases r with r | ⟨o, r⟩ <;> (rw [q] at r; cases r)
    have qX : H5 D = some (fO X.prog X.w D (fZ acc)) := t5.ext.keep _ _ (e3 _ _ hx) (L3.p D (.inr rfl)).2
    cases k with
    | false =>
     rw [if_neg Bool.false_ne_true]
     exact ⟨β5, S5, acc, back t5 L5.st, t2.trans ((Tr.same e3).trans t5), qX, by rw [hc]; exact eq⟩
    | true =>
     rw [if_pos rfl]
     simp only at eq
     refine he _ _ _ ⟨cf, oa, _, β5, p.1, S5, L5, ?_⟩
     cases ee : ma p.1 S5 with
     | stuck => rw [ee] at eq; cases eq
     | exc e S6 => rw [ee] at eq; cases eq
     | ok d S6 =>
      rw [ee] at eq
      intro v H6 β6 t6 L6 r6
      have iG : H6 D = some (fO X.prog X.w D (fZ acc)) := t6.ext.keep _ _ qX (L5.p D (.inr rfl)).2
      by_cases hsz : (zj acc).length < sizeLine
      ·simp only [if_pos hsz] at eq
       -- the item is a text
       obtain ⟨ws, ew⟩ := FO eq.symm
       rw [ew, List.append_assoc] at hz
       obtain ⟨q1, q2, f1, f2, f3⟩ := FP hz
       rw [RL] at f1
       cases f1
       obtain ⟨k, hk⟩ : ∃ k, d = .str k := by
        obtain ⟨q3, q4, f4, _, _⟩ := FP f2
        cases d with
        | str k => exact ⟨k, rfl⟩
        | _ => cases f4
       subst hk
       have hv : v = .str k := by cases r6; rfl
       have f5 : zs.length = acc.length + q2.length := by rw [f3, List.length_append]
       have oF := t5.trans t6
       have L7 := back oF L6.st
       have := RX acc
       refine ⟨k, fZ acc, hv, iG, by omega, β6, S6, acc ++ [k], L7.pY (.inr rfl) h0 no (nD iG) (fun o u z => by rw [iG] at z; cases z), (t2.trans ((Tr.same e3).trans oF)).pY hD (nD iG) (fun o u z => by rw [iG] at z; cases z), by rw [upd_same, ZX], ?_⟩
       rw [hc, show zj (acc ++ [k]) = zj acc ++ [.str k] from List.map_append ..]
       exact eq
      ·simp only [if_neg hsz] at eq
       cases eq
 ·left
  have e : i = ds.length := by omega
  subst e
  rw [List.drop_length] at eq
  simp only [bG] at eq
  cases eq
  rw [RL] at hz
  cases hz
  exact ⟨stop rfl, h D H2 β2 t2 hD L2 hx⟩
end
section
variable {X : Cx}
/-- name = {..} on one line -/
theorem a00 {i : Nat} {y : Str} {py : Pos} {elt tg iter : Expr} {ifs : List Expr} {scope : Scope} {own : List (Str × Nat)} {pos spos : Pos} {wi : TI} {g : TG} {tt : TT} {te : TE} (hc : X.calm = true) (hN : X.N.Nodup) (hy : X.N[i]? = some y) (hyl : X.env.scope.names.lookup y = some .local)
  (hsw : swapsWith (.SetComp elt [⟨tg, iter, ifs, 0⟩] scope pos) (some (.Name y py)) spos.line X.env = pure true) (hi : PI X tg iter wi) (ok : BlkOk X.N X.env.scope scope own)
  (hg : ∀ (s : Shared) (H : Hp) (C : Addr) (cl : List (Str × Addr)) (fp : List Addr), PG (X.blk s H scope (compEnvC scope cl C X.env) fp) tg g) (ht : ∀ (s : Shared) (H : Hp) (C : Addr) (cl : List (Str × Addr)) (fp : List Addr), PTs (X.blk s H scope (compEnvC scope cl C X.env) fp) ifs tt)
  (he : ∀ (s : Shared) (H : Hp) (C : Addr) (cl : List (Str × Addr)) (fp : List Addr), PE (X.blk s H scope (compEnvC scope cl C X.env) fp) elt te) (hs : ∀ x, foldedSetIterable iter X.env x = pure x := by intro _; rfl) :
  PS X (.Assign [.Name y py] (.SetComp elt [⟨tg, iter, ifs, 0⟩] scope pos) spos) (tAsg (BD X.prog X.w wi g tt te (own.map (·.2))) (gName i)) := by
 refine ⟨fun pins s σ H D I h => ?_⟩
 rw [exec_Assign_Name_used _ _ _ _ hsw]
 refine wpAny_bind (wpAny_standAt (wpAny_bind ?_))
 show wpAny _ X.A (do let _ ← comprehension (.SetComp elt [⟨tg, iter, ifs, 0⟩] scope pos) scope X.env (firstIterPos [⟨tg, iter, ifs, 0⟩] pos) (newSet (.type "set")) false (eval iter X.env) (some (assign (.Name y py) X.env))) _ _ s
 have h : BD X.prog X.w wi g tt te (own.map (·.2)) σ H (fun x H1 => gName i x σ H1 D.nx) := h
 refine wpAny_bind (thn (ZU (Qf := fun _ s' => SP X pins D .next s') hc hN I hi ok hg ht he hs h fun L C s' m H' I' q hn f => ?_) fun _ s' hq => wpAny_pure (wpAny_pure hq))
 show wpAny _ _ (assign (.Name y py) X.env (.ref L)) _ _ _
 refine wpAny_assign_Name (store_ok2 (v := V.ref L) I' hN hy (.inl hyl) rfl (fun s2 I2 ⟨a, sb, ha⟩ => ?_) (.inr hyl))
 obtain ⟨f0, f1, f2, f3, f4, f5⟩ := f
 have haC : C ≠ a := ha.elim (fun z => by rw [z]; exact f1) fun z e => f4 y a z e.symm
 exact ⟨m, hn.sameBut sb haC, fun h3 sb3 => ⟨_, H', I2.turned (t' := s2.toks) (fun b o hb e => (sb3.2 b hb).trans e) f0 f1 f3 f4 f5, q⟩⟩
theorem a01 {elt : Expr} {gs : List Comprehension} {scope : Scope} {pos py : Pos} {y : Str} {l : Nat} {env : Env} (hk : env.scope.kind = .function) (hy : env.scope.names.lookup y = some .local) (hl : (py.line == pos.line) = true)
  (ha : (scope.names.any fun (n, k) => n == y && (k == .local || k == .cell)) = false) : swapsWith (.SetComp elt gs scope pos) (some (.Name y py)) l env = pure true := by
 have ky : env.kindOf y = some .local := hy
 have hb : env.blockKind = .function := by unfold Env.blockKind; rw [hk]; rfl
 unfold swapsWith
 simp only [hb, ky, ha, Expr.pos, hl]
 rfl
/-- sorted(x), x a slot with a set of texts -/
def RY (P : Program) (w : World) (i : Nat) : TE := fun σ H Q => ∃ a l, σ[i]? = some (some (V.ref a)) ∧ H a = some (fO P w a l) ∧ l.length < 64 ∧ ∀ (ns : List Str) (p : Addr), sortedS ns = true → ns.Perm l → H p = none → Q (.ref p) (upd H p (.lst (ns.map V.str)))
end
section
variable {X : Cx} {W : WX}
theorem a02 {i : Nat} {x : Str} {p px pos : Pos} (hc : X.calm = true) (hN : X.N[i]? = some x) (hv : Vis X.env.scope x) (hm : X.mg "sorted" = none) (hg : Gl X "sorted" := by rfl)
  (hd : (x == ("__debug__" : Str)) = false := by decide) (hcd : (x == ("__classdict__" : Str)) = false := by decide) : PE X (.Call (.Name "sorted" p) [.Name x px] [] pos) (RY X.prog X.w i) :=
 cX (pe_callB (ZS hc) hg hm (by decide +kernel) (pa_cons (pe_var hN hv hd hcd) pa_nil)) fun σ H Q ⟨a, l, h1, h2, h3, h4⟩ =>
  ⟨_, h1, a, l, rfl, h2, h3, h4⟩
theorem a03 {x y : Nat} {nx ny : Str} {px FQ py p pc pos1 pos2 sp1 sp2 : Pos} {FT FU tg1 FW iter1 : Expr} {ifs1 ifs2 : List Expr} {BF BH : Scope} {own1 uX : List (Str × Nat)} {it1 : AX} {g1 g2 : GX} {S7 S8 : TG} {k1 k2 : BX} {m1 m2 : EX} {rest : List Stmt} {r : SX}
  (hc : X.calm = true) (hN : X.N.Nodup) (hx : X.N[x]? = some nx) (hxl : X.env.scope.names.lookup nx = some .local) (hsx : swapsWith (.SetComp FT [⟨tg1, iter1, ifs1, 0⟩] BF pos1) (some (.Name nx px)) sp1.line X.env = pure true)
  (hi : pU (au X) W false X tg1 iter1 it1) (ok1 : BlkOk X.N X.env.scope BF own1) (B1 : Blk X false BF tg1 ifs1 FT (own1.map (·.2)) g1 S7 k1 m1)
  (hy : X.N[y]? = some ny) (hyl : X.env.scope.names.lookup ny = some .local) (hsy : swapsWith (.ListComp FU [⟨FW, .Call (.Name "sorted" p) [.Name nx FQ] [] pc, ifs2, 0⟩] BH pos2) (some (.Name ny py)) sp2.line X.env = pure true)
  (hm : X.mg "sorted" = none) (hv : Vis X.env.scope nx) (ok2 : BlkOk X.N X.env.scope BH uX) (B2 : Blk X false BH FW ifs2 FU (uX.map (·.2)) g2 S8 k2 m2) (hC : jB (au X) W X rest r)
  (hg : Gl X "sorted" := by rfl) (hd : (nx == ("__debug__" : Str)) = false := by decide) (hcd : (nx == ("__classdict__" : Str)) = false := by decide)
  (hs1 : ∀ z, foldedSetIterable iter1 X.env z = pure z := by intro _; rfl) (hs2 : ∀ z, foldedSetIterable (.Call (.Name "sorted" p) [.Name nx FQ] [] pc) X.env z = pure z := by intro _; rfl) :
  jB (au X) W X (.Assign [.Name nx px] (.SetComp FT [⟨tg1, iter1, ifs1, 0⟩] BF pos1) sp1 :: .Assign [.Name ny py] (.ListComp FU [⟨FW, .Call (.Name "sorted" p) [.Name nx FQ] [] pc, ifs2, 0⟩] BH pos2) sp2 :: rest)
   (aH (BE x y (cZ it1 (own1.map (·.2)) g1 k1 m1) (uX.map (·.2)) g2 k2 m2) r) :=
 xQ (pss_cons (a00 hc hN hx hxl hsx hi ok1 B1.hg B1.ht B1.he hs1) (pss_cons (ps_setLc hc hN hy hyl hsy (DG (a02 hc hx hv hm hg hd hcd)) ok2 B2.hg B2.ht B2.he hs2) hC)) fun Dn σ H h => by
  obtain ⟨cf, oa, P, β, ρ, S, L, h⟩ := h
  unfold aH BE cZ at h
  by_cases hlt : x < ρ.length
  case neg => rw [if_neg hlt] at h; exact h.elim
  rw [if_pos hlt] at h
  cases ei : it1 ρ S with
  | stuck => rw [ei] at h; exact h.elim
  | exc e S1 => rw [ei] at h; exact h.elim
  | ok ds S0 =>
   rw [ei] at h
   simp only [R.bind] at h
   cases ec : bG (own1.map (·.2)) g1 k1 m1 (bO ρ (own1.map (·.2))) ds [] S0 with
   | stuck => rw [ec] at h; exact h.elim
   | exc e S1 => rw [ec] at h; exact h.elim
   | ok ys S1 =>
    rw [ec] at h
    simp only at h
    cases es : FJ (.lst ys) with
    | none => rw [es] at h; exact h.elim
    | some ns =>
     rw [es] at h
     simp only at h
     cases e2 : bG (uX.map (·.2)) g2 k2 m2 (bO (ρ.set x .un) (uX.map (·.2))) (ns.map D.str) [] S1 with
     | stuck => rw [e2] at h; exact h.elim
     | exc e S2 => rw [e2] at h; exact h.elim
     | ok ys2 S2 =>
      rw [e2] at h
      simp only at h
      unfold FJ at es
      simp only at es
      cases ez : nH ys with
      | none => rw [ez] at es; cases es
      | some zs =>
       rw [ez] at es
       simp only at es
       by_cases hb : zs.length + 1 < scanBound ∧ (fZ zs).length < 64
       ·rw [if_pos hb] at es
        cases es
        have key : ∀ Q : VK, (∀ a H2 β2, Tr false H β S H2 β2 S1 → H a = none → LR (au X) cf oa (fun c => P c ∨ c = a) σ H2 β2 ρ S1 → H2 a = some (fO X.prog X.w a (fZ zs)) → Q (.ref a) H2) →
          BD X.prog X.w (IM (au X) W false it1) S7 (BM (au X) W0 false k1) (EM (au X) W0 false m1) (own1.map (·.2)) σ H Q := fun Q hq => by
         refine ⟨cf, oa, P, β, ρ, S, L, ?_⟩
         rw [ei]
         intro J H1 β1 t1 L1 im
         exact ZZ L1 im B1.bg (fun _ _ _ h => h) (fun _ _ _ h => h) ec ez hb.1 fun a H2 β2 t2 hn L2 ha => hq a H2 β2 (t1.trans t2) (Ak t1.ext hn) L2 ha
        unfold tSeq tAsg
        refine key _ fun a H2 β2 t2 hn L2 ha => ?_
        have L3 := L2.Bj (i := x) (w := some (V.ref a))
        have hlen : (σ.set x (some (V.ref a)))[x]? = some (some (V.ref a)) := List.getElem?_set_self (by rw [L.len]; exact hlt)
        have key2 : ∀ Q : VK, (∀ v H5 β5, Fx H P β H5 (fun c => P c ∨ c = a) β5 → LR (au X) cf (fun j => if j = x then none else oa j) (fun c => P c ∨ c = a) (σ.set x (some (V.ref a))) H5 β5 (ρ.set x .un) S2 → RV (au X) H5 (fun c => P c ∨ c = a) β5 v (.lst ys2) → Q v H5) →
          tLc (fun σ H R => RY X.prog X.w x σ H fun v H1 => (∃ a, v = V.ref a ∧ (∃ xs, SqL X.K H1 a xs) ∧ R (Itl X.K a) H1) ∨ (∃ a, v = V.ref a ∧ (∃ xs, SqT X.K H1 a xs) ∧ R (Itt X.K a) H1) ∨ ∃ z, v = V.str z ∧ R (Its z) H1) S8 (BM (au X) W0 false k2) (EM (au X) W0 false m2) (uX.map (·.2)) (σ.set x (some (V.ref a))) H2 Q := fun Q hq2 => by
         refine ⟨a, fZ zs, hlen, ha, hb.2, fun ns' q hs hp hq => .inl ⟨q, rfl, ⟨_, .inl (.inl upd_same)⟩, ?_⟩⟩
         have en : ns' = nA (fZ zs) := Zj hp (Zi hs)
         subst en
         have L4 := L3.same (fU (o := .lst ((nA (fZ zs)).map V.str)) hq)
         have nP := L3.new q hq
         have im2 := vN (C := au X) (H := upd H2 q (.lst ((nA (fZ zs)).map V.str))) (P := fun c => P c ∨ c = a) (β := β2) (a := q) (fun H6 P6 β6 f => .inl (f.con _ _ nP.1 nP.2 (.inl upd_same)).1) (Rr (nA (fZ zs)))
         refine ZY L4 im2 B2.bg (fun _ _ _ h => h) (fun _ _ _ h => h) e2 fun a5 H5 β5 t5 hn5 L5 o5 => ?_
         have L6 := L5.forget L4.sub fun i b h => (L4.own i b h).1
         have rv := Aj o5 (L4.pN hn5) (L5.p _ (.inr rfl)).2 ⟨_, rfl⟩
         exact hq2 _ H5 β5 (((Fx.more (P := P) t2.ext hn).trans (Fx.of (Ext.same (fU hq)))).trans (Fx.of t5.ext)) L6 rv
        unfold gName
        simp only
        refine key2 _ fun v H5 β5 fx L6 rv => ?_
        exact ⟨cf, _, _, β5, _, S2, L6.set (i := y) rv, h.fx fx⟩
       ·rw [if_neg hb] at es; cases es
end
def a05 : Nat → Bool := fun i => i == 0
/-- v is a pair (text, whole number) -/
def S9 (h : Heap) (v : Value) (y : Str) (m : Int) : Prop := ∃ (a : Addr) (o : Obj) (n : Nat) (t u : Tok), v = .ref a ∧ h.get? a = some o ∧ o.cls = .type "tuple" ∧ o.data = .seq #[.str y t, .int m u] n
theorem S9.key {h : Heap} {v : Value} {y : Str} {m : Int} (x : S9 h v y m) : tupKey h a05 v = some [.inr y.cps.toList, .inl m] := by
 obtain ⟨a, o, n, t, u, rfl, ho, hc, hd⟩ := x
 unfold tupKey
 simp only [ho, hd]
 rfl
end Mi
namespace Mi
open PySem PySem.Spec PyProof.Rows L2
open PySem.W (KdxIt kdx_alive)
section
variable {P1 P2 : Nat → Value → Prop}
/-- what has a8Y collected -/
structure ZG (P1 P2 : Nat → Value → Prop) (lo : Addr) (h : Heap) (as : List Addr) : Prop where
 rise : as.Pairwise (· < ·)
 above : ∀ a ∈ as, lo ≤ a
 pairs : ∀ (j : Nat) (a : Addr), as[j]? = some a → ∃ x y, P1 j x ∧ P2 j y ∧ h.get? a = some { cls := .type "tuple", data := .seq #[x, y] }
theorem ZG.there {lo : Addr} {h : Heap} {as : List Addr} (g : ZG P1 P2 lo h as) {a : Addr} (ha : a ∈ as) : a < h.objs.size := by
 obtain ⟨j, hj⟩ := List.mem_iff_getElem?.mp ha
 obtain ⟨_, _, _, _, e⟩ := g.pairs j a hj
 exact Heap.lt_size e
theorem ZG.keep {lo : Addr} {h h' : Heap} {as : List Addr} (g : ZG P1 P2 lo h as) (k : ∀ b o, lo ≤ b → h.get? b = some o → h'.get? b = some o) : ZG P1 P2 lo h' as :=
 ⟨g.rise, g.above, fun j a hj => by
  obtain ⟨x, y, e1, e2, e3⟩ := g.pairs j a hj
  exact ⟨x, y, e1, e2, k a _ (g.above a (List.mem_of_getElem? hj)) e3⟩⟩
theorem ZG.push {lo N : Addr} {h : Heap} {as : List Addr} {x y : Value} (g : ZG P1 P2 lo h as) (hN : lo ≤ N) (hl : ∀ a ∈ as, a < N) (hx : P1 as.length x) (hy : P2 as.length y) (e : h.get? N = some { cls := .type "tuple", data := .seq #[x, y] }) : ZG P1 P2 lo h (as ++ [N]) := by
 refine ⟨List.pairwise_append.mpr ⟨g.rise, List.pairwise_singleton _ _, fun a ha b hb => ?_⟩, fun a ha => ?_, fun j b hj => ?_⟩
 ·rw [List.mem_singleton.mp hb]; exact hl a ha
 ·rcases List.mem_append.mp ha with ha | ha
  ·exact g.above a ha
  ·rw [List.mem_singleton.mp ha]; exact hN
 ·rcases Nat.lt_trichotomy j as.length with h1 | h1 | h1
  ·rw [List.getElem?_append_left h1] at hj
   exact g.pairs j b hj
  ·subst h1
   have hb : N = b := by simpa using hj
   subst hb
   exact ⟨x, y, hx, hy, e⟩
  ·rw [List.getElem?_eq_none (by rw [List.length_append, List.length_singleton]; omega)] at hj
   cases hj
end
end Mi
namespace Mi
open PySem PySem.Spec PyProof.Rows L2
def Src.big (c : Src) : Bool := match c with
 | .txt _ => false
 | _ => true
section
variable {X : Cx} {pins : List (Addr × Obj)} {σ : L2.St} {H : Hp} {s : Shared} {xs : List V} {c : Src}
theorem Src.fits (I : Inv X pins σ H s) (q : c.at X.K H xs) (hb : c.big = true) : xs.length ≤ sizeLine := by
 cases c with
 | lst a => obtain ⟨_, _, _, z⟩ := I.list q; exact z
 | tup a => obtain ⟨_, _, _, z⟩ := I.tuple q; exact z
 | txt z => cases hb
end
end Mi
namespace Mi
open PySem PySem.Spec PyProof.Rows L2 HT
end Mi
namespace Mi
open PySem PySem.Spec PyProof.Rows L2
section
variable {K : PySem.W.Frag}
theorem Sd {C : Addr} (h : xN K C "ValueError.__new__" PySem.HandSPX.refsVE = true) (h2 : Ac K C = true) : OexC K C := by
 obtain ⟨a, b, c, d⟩ := Xv h2
 exact ⟨Xu h, a, b, c, d⟩
theorem Sq {D : Addr} (h : De K D = true) : ExcC K D := by
 obtain ⟨h1, h⟩ := bd h
 obtain ⟨h2, h⟩ := bd h
 obtain ⟨h3, h⟩ := bd h
 obtain ⟨h4, h⟩ := bd h
 obtain ⟨h5, h⟩ := bd h
 obtain ⟨h6, h⟩ := bd h
 obtain ⟨h7, h8⟩ := bd h
 exact ⟨He.eqO_ok h1, He.eqO_ok h2, jj h3, h4, He.eqO_ok h5, He.eqO_ok h6, jj h7, jj h8⟩
theorem a06 {B : Addr} (h : LC K B = true) : Fg K B := by
 obtain ⟨h1, h⟩ := bd h
 obtain ⟨h2, h3⟩ := bd h
 refine ⟨h1, ?_, He.eqO_ok h3⟩
 split at h2
 ·rename_i v e
  rw [e, of_decide_eq_true h2]
 ·cases h2
end
def a07 : Nat → Bool := fun i => decide (i < 2)
/-- the pair at a -/
def Ss (h : Heap) (a : Addr) (x y : Str) : Prop := ∃ (o : Obj) (n : Nat) (t u : Tok), h.get? a = some o ∧ o.cls = .type "tuple" ∧ o.data = .seq #[.str x t, .str y u] n
theorem Ss.key {h : Heap} {a : Addr} {x y : Str} (q : Ss h a x y) : G.tupKeyC h a07 (.ref a) = some [.inr x.cps.toList, .inr y.cps.toList] := by
 obtain ⟨o, n, t, u, ho, hc, hd⟩ := q
 have e1 : G.isTupObj h (.ref a) = true := by
  simp only [G.isTupObj, ho, hc]
  rfl
 unfold G.tupKeyC
 rw [if_pos e1]
 unfold tupKey
 simp only [ho, hd]
 rfl
end Mi
namespace PySem.AutoSeq1
end PySem.AutoSeq1
namespace Mi
open PySem PySem.Spec PyProof.Rows L2
end Mi
namespace PySem.SeqAt
open AutoSeq1 (wpAny_loadPart')
open MeetsSeq MeetsSeq2 MeetsSeq3 SeqRoads2
end PySem.SeqAt
namespace Mi
open PySem PySem.Spec PyProof.Rows L2
structure Shw (K : PySem.W.Frag) (A : Around) (q : Addr × Obj) : Prop where
 gd : ∃ g, A.guards = some g ∧ ∀ b, b ≠ q.1 → Clear g b
 nk : K.lookup q.1 = none
structure FnR (P : Program) (w : World) (K : PySem.W.Frag) (mg : Str → Option Value) (base : Heap) (k : Nat) (f : Addr) (fd : FuncData) (ps : List Str) (sp : Sp) : Prop where
 len : ∀ vs H Q E, sp vs H Q E → vs.length = ps.length
 run : ∀ (A : Around) (outer : List Env) (s : Shared) (H : Hp) (args : Args) (us : List Value) (vs : List V) (Q : VK) (E : XK) (q : Addr × Obj), Shw K A q → Room k A → L2H.PinOk outer H s q → Env0 P w K mg base A outer s H →
  BindsTo s fd args (ps.zip us) → Vals vs us → sp vs H Q E → codeAny (model P w) A (.call (.ref f) args) (CR (L2.CX P w) outer P w H s Q E) s
/-- a class whose __repr__ may be called while a tuple is shown -/
structure BJ (X : Cx) (k : Nat) (c : Str) (f : FX) : Prop where
 ex : ∃ (Ca fa : Addr) (fd : FuncData) (ps : List Str), X.mg c = some (.ref Ca) ∧ PySem.W.findIn X.K (.ref Ca) "__repr__" = some (some (.ref fa)) ∧ PySem.W.isFn X.K (.ref fa) = true ∧
  FnR X.prog X.w X.K X.mg X.base k fa fd ps (gK ⟨X.K, X.mg, X.w, []⟩ ps.length f) ∧ Bnd X.K fd ps [] 1 [0] [] ∧ ps.length = 1
/-- the same, ahead of a context -/
structure a09 (P : Program) (w : World) (K : PySem.W.Frag) (mg : Str → Option Value) (base : Heap) (k : Nat) (c : Str) (f : FX) : Prop where
 ex : ∃ (Ca fa : Addr) (fd : FuncData) (ps : List Str), mg c = some (.ref Ca) ∧ PySem.W.findIn K (.ref Ca) "__repr__" = some (some (.ref fa)) ∧ PySem.W.isFn K (.ref fa) = true ∧
  FnR P w K mg base k fa fd ps (gK ⟨K, mg, w, []⟩ ps.length f) ∧ Bnd K fd ps [] 1 [0] [] ∧ ps.length = 1
theorem FnR.mono {P : Program} {w : World} {K : PySem.W.Frag} {mg : Str → Option Value} {base : Heap} {j k : Nat} {f : Addr} {fd : FuncData} {ps : List Str} {sp : Sp} (F : FnR P w K mg base j f fd ps sp) (h : j ≤ k) : FnR P w K mg base k f fd ps sp :=
 ⟨F.len, fun A outer s H args us vs Q E q hg hr => F.run A outer s H args us vs Q E q hg (hr.mono h)⟩
theorem BJ.of {X : Cx} {j k : Nat} {c : Str} {f : FX} (M : a09 X.prog X.w X.K X.mg X.base k c f) (h : k ≤ j) : BJ X j c f := by
 obtain ⟨Ca, fa, fd, ps, h1, h2, h3, h4, h5, h6⟩ := M.ex
 exact ⟨Ca, fa, fd, ps, h1, h2, h3, h4.mono h, h5, h6⟩
def FY (X : Cx) (k : Nat) : List (Str × FX) → Prop
 | [] => True
 | (c, f) :: t => BJ X k c f ∧ FY X k t
theorem FY.at {X : Cx} {k : Nat} {c : Str} {f : FX} : ∀ {T : List (Str × FX)}, FY X k T → T.lookup c = some f → BJ X k c f
 | [], _, h => by cases h
 | (d, q) :: t, ⟨h1, h2⟩, h => by
  rw [List.lookup_cons] at h
  cases e : (c == d) with
  | true => rw [e] at h; cases h; rw [show c = d from by simpa using e]; exact h1
  | false => rw [e] at h; exact h2.at h
/-- d is no class below c -/
structure FZ (K : PySem.W.Frag) (mg : Str → Option Value) (c d : Str) : Prop where
 ex : ∃ Ca Cb, mg c = some (.ref Ca) ∧ mg d = some (.ref Cb) ∧ PySem.W.subIn K (.ref Cb) (.ref Ca) = some false
def BK (K : PySem.W.Frag) (mg : Str → Option Value) (c : Str) : List Str → Prop
 | [] => True
 | d :: r => FZ K mg c d ∧ BK K mg c r
theorem BK.at {K : PySem.W.Frag} {mg : Str → Option Value} {c : Str} : ∀ {xs : List Str}, BK K mg c xs → ∀ d ∈ xs, FZ K mg c d
 | _ :: _, ⟨h, t⟩, d, hd => by
  rcases List.mem_cons.mp hd with rfl | hd
  ·exact h
  ·exact t.at d hd
def G3 (K : PySem.W.Frag) (mg : Str → Option Value) : List (Str × FX) → List Str → Prop
 | [], _ => True
 | (c, _) :: t, xs => BK K mg c xs ∧ G3 K mg t xs
theorem G3.at {K : PySem.W.Frag} {mg : Str → Option Value} {xs : List Str} {c : Str} {f : FX} : ∀ {T : List (Str × FX)}, G3 K mg T xs → T.lookup c = some f → ∀ d ∈ xs, FZ K mg c d
 | [], _, h => by cases h
 | (d, q) :: t, ⟨h1, h2⟩, h => by
  rw [List.lookup_cons] at h
  cases e : (c == d) with
  | true => rw [show c = d from by simpa using e]; exact h1.at
  | false => rw [e] at h; exact h2.at h
end Mi
namespace Mi
open StX (env0_laid un_laid cxUp)
open PySem PySem.Spec PyProof.Rows L2
end Mi
namespace Mi
open StX (env0_laid un_laid cxUp)
open PySem PySem.Spec PyProof.Rows L2
end Mi
namespace Mi
open PySem PySem.Spec PyProof.Rows L2
end Mi
namespace PySem.HandSPX
open PySem.Spec PyProof.Rows
end PySem.HandSPX
namespace Mi
open PySem PySem.Spec PyProof.Rows L2
structure Sv (K : PySem.W.Frag) (C : Addr) : Prop where
 ex : ∃ (B newId initId : String) (bmB : List Value) (nm q : Str) (N : Addr) (bs bm : List Value) (sn : List Str) (sub : List Value) (ab : Bool) (col : Option Bool) (dd : Option Addr) (k0 k1 k2 k3 k5 : Option Value),
  ExcBaseFacts B newId initId bmB ∧ (∀ Y : String, bm.contains (.type Y) = bmB.contains (.type Y)) ∧ K.lookup C = some (excClassObj nm q C N bs bm true sn sub ab col dd k0 k1 k2 k3 k5 newId)
 kC : PySem.W.keepIn K (.ref C) = true
theorem Sv.rt {K : PySem.W.Frag} {C : Addr} {B newId initId : String} {tl : List Value} (RF : Zu B newId initId tl) (T : Zv K newId tl C) : Sv K C := by
 obtain ⟨nm, q, N, bs, bm, sn, sub, ab, col, dd, k0, k1, k2, k3, k5, hC, hbm⟩ := T.cls
 exact ⟨⟨_, _, _, _, nm, q, N, bs, bm, sn, sub, ab, col, dd, k0, k1, k2, k3, k5, RF.eb, fun Y => PySem.W.excTail_contains Y bm hbm, hC⟩, T.kC⟩
end Mi
namespace PySem.a0a
open PySem.Spec PyProof.Rows
end PySem.a0a
namespace Mi
open PySem PySem.Spec PyProof.Rows L2
section
variable {C : Ct} {H : Hp} {P P' : Addr → Prop} {β : List Addr}
mutual
theorem RV.wide (e : ∀ a, P' a → P a ∨ H a = none) : ∀ {v : V} {d : D}, RV C H P β v d → RV C H P' β v d
 | _, _, .non => .non
 | _, _, .bl b => .bl b
 | _, _, .int i => .int i
 | _, _, .str x => .str x
 | _, _, .ty n => .ty n
 | _, _, .lst h1 hb hr h => .lst (fun z => (e _ z).elim h1 (oh hr)) hb hr (aD.wide e h)
 | _, _, .tup hr h => .tup hr (aD.wide e h)
 | _, _, .fK k h => .fK k (aD.wide e h)
 | _, _, .fL k h => .fL k (aD.wide e h)
 | _, _, .dct h1 hb hr h => .dct (fun z => (e _ z).elim h1 (oh hr.rd)) hb hr (aP.wide e h)
 | _, _, .ref h => .ref h
 | _, _, .fn h k => .fn h k
theorem aD.wide (e : ∀ a, P' a → P a ∨ H a = none) : ∀ {vs : List V} {ds : List D}, aD C H P β vs ds → aD C H P' β vs ds
 | _, _, .nil => .nil
 | _, _, .cons h t => .cons (RV.wide e h) (aD.wide e t)
theorem aP.wide (e : ∀ a, P' a → P a ∨ H a = none) : ∀ {vs : List (Key × V)} {ds : List (Key × D)}, aP C H P β vs ds → aP C H P' β vs ds
 | _, _, .nil => .nil
 | _, _, .cons h t => .cons (RV.wide e h) (aP.wide e t)
end
theorem cO.wide (e : ∀ a, P' a → P a ∨ H a = none) {a : Addr} {d : D} (h : cO C H P β a d) : cO C H P' β a d := by
 cases d <;> first | exact h.elim | skip
 ·obtain ⟨xs, q, r⟩ := h; exact ⟨xs, q, r.wide e⟩
 ·obtain ⟨xs, q, r⟩ := h; exact ⟨xs, q, r.wide e⟩
theorem g8.wide (e : ∀ a, P' a → P a ∨ H a = none) {a : Addr} {x : bT} (h : g8 C H P β a x) : g8 C H P' β a x := by
 obtain ⟨oe, Ca, dd, vs, h1, h2, h3, h4, h5, h6, h7, h8⟩ := h
 exact ⟨oe, Ca, dd, vs, h1, h2, h3, h4, h5, h6, fun z => (e _ z).elim h7 (fun q => by rw [q] at h5; cases h5), fun f y q => let ⟨v, q1, q2⟩ := h8 f y q; ⟨v, q1, q2.wide e⟩⟩
/-- a a0b state, seen from deeper calls -/
theorem LR.deep {cf : Cf} {oa : Nat → Option Addr} {σ : L2.St} {H' : Hp} {β' : List Addr} {ρ : aN} {S S' : Store} (L : LR C cf oa P σ H β ρ S) (e : Ext H β H' β') (up : ∀ a, P a → P' a) (fr : ∀ a, P' a → P a ∨ H a = none) (hp : ∀ a, P' a → H' a ≠ none ∧ a ∉ β') (s : aU C H' P' β' S') :
  LR C cf oa P' σ H' β' ρ S' where
 len := L.len
 p := hp
 sub := fun a h => up a (L.sub a h)
 p0 := L.p0
 ext := L.ext.step e
 own := fun i a h => ⟨up a (L.own i a h).1, (L.own i a h).2⟩
 inj := L.inj
 st := s
 slot := fun i d h => let ⟨v, h1, h2⟩ := L.slot i d h; ⟨v, h1, (h2.wide fr).mono e⟩
 bY := fun i d h => let ⟨a, h1, h2, h3⟩ := L.bY i d h; ⟨a, h1, h2, (h3.wide fr).mono e (L.p a (L.own i a h1).1).2⟩
 xslot := fun i x h => let ⟨a, h1, h2⟩ := L.xslot i x h; ⟨a, h1, (h2.wide fr).mono e⟩
end
abbrev lamO (X : Cx) (params : Arguments) (body : Expr) (scope : Scope) (pm : Value) (c : Addr) (ct : Value) : Obj :=
 PySem.W.kla_obj "<lambda>" (X.env.qual ++ "<lambda>") params body scope (cloFrom X.env.cells scope.names []) pm c ct
section
variable {X : Cx} {pins : List (Addr × Obj)} {σ : L2.St} {H : Hp} {s : Shared}
theorem a0c {c P : Addr} {ps : Array Value} {params : Arguments} {body : Expr} {scope : Scope} {pos : Pos} {E Q : Value → Shared → Prop} (I : Inv X pins σ H s) (TB : LamX.TabB X.base X.mg c P) (hcode : X.env.code = .ref c)
  (hP : H P = some (.tbl ps)) (htr : PySem.TriplesOk ps.toList) (hit : ∀ cv, codeAmong pos ps.toList = some cv → ∃ d, cv = .ref d ∧ Rd H d (jy d (X.env.qual ++ "<lambda>")))
  (hdef : defaultsOf params X.env = ([], [])) (hfree : ∀ y ∈ scope.names, y.2 = .free → ∃ z, X.env.cells.lookup y.1 = some z)
  (old : ∀ (f d : Addr) (pm ct : Value) (s1 : Shared), codeAmong pos ps.toList = some (.ref d) → Inv X pins σ H s1 → s1.heap.get? f = some (lamO X params body scope pm d ct) → H f = none → f ∉ frs X.stack → Q (.ref f) s1)
  (new : ∀ (f d : Addr) (pm ct : Value) (s1 : Shared), H d = none → Inv X pins σ (upd (upd H P (.tbl (ps ++ #[rawInt pos.line, rawInt pos.col, .ref d]))) d (jy d (X.env.qual ++ "<lambda>"))) s1 →
   s1.heap.get? f = some (lamO X params body scope pm d ct) → upd (upd H P (.tbl (ps ++ #[rawInt pos.line, rawInt pos.col, .ref d]))) d (jy d (X.env.qual ++ "<lambda>")) f = none → f ∉ frs X.stack → Q (.ref f) s1) :
  wpAny (model X.prog X.w) X.A (eval (.Lambda params body scope pos) X.env) Q E s := by
 have bi : s.heap.BuiltinsAt X.mg P := TB.bm.keeps I.bk
 have G4 : s.heap.get? P = some { cls := .none, data := .fields ps } := I.hok P _ hP
 have far : ∀ f, s.heap.objs.size ≤ f → f ∉ frs X.stack := by
  intro f hf z
  cases List.mem_cons.mp (I.stkSub _ z) with
  | inl e => exact absurd (Nat.lt_of_lt_of_le (e ▸ I.lt) hf) (Nat.lt_irrefl _)
  | inr e => exact I.nofs hf e
 apply PySem.W.kla_eval hdef
 cases hc : codeAmong pos ps.toList with
 | some cv =>
  obtain ⟨d, rfl, hd⟩ := hit cv hc
  apply PySem.W.kla_makeFunctionHit (mg := X.mg) (c := c) (P := P) (ps := ps) (closure_ok hfree) I.ok.glob (I.mod.glob.keeps I.bk) hcode (TB.code.keeps I.bk) G4 htr hc bi
  intro ct h' tk hx hsz
  have I1 := I.kept (h' := h'.push (lamO X params body scope ((X.mg "__name__").getD .none) d ct)) (t' := tk) fun b o e => Heap.get?_push_of_some _ (hx b o e)
  exact old h'.objs.size d ((X.mg "__name__").getD .none) ct _ hc I1 (Heap.get?_push_size _ rfl) (I.hok.fresh hsz) (far _ hsz)
 | none =>
  apply PySem.W.kla_makeFunction (mg := X.mg) (c := c) (P := P) (ps := ps) (closure_ok hfree) I.ok.glob (I.mod.glob.keeps I.bk) hcode (TB.code.keeps I.bk) G4 htr hc TB.gP bi
  intro d ct h' tk hx hge hlt hrec htb
  obtain ⟨d2, oc, vs, t, e2, hoc, hdt, hv⟩ := hrec
  cases e2
  have hsz : s.heap.objs.size ≤ h'.objs.size := Nat.le_trans hge (Nat.le_of_lt hlt)
  have nd : H d = none := I.hok.fresh hge
  have I1 := LamX.inv_table (q := X.env.qual ++ "<lambda>") (t' := tk) (more := #[rawInt pos.line, rawInt pos.col, .ref d]) (h' := h'.push (lamO X params body scope ((X.mg "__name__").getD .none) d ct)) I hP
   (fun b o hb e => Heap.get?_push_of_some _ (hx b o hb e)) (Heap.get?_push_of_some _ htb) hge ⟨oc, vs, t, Heap.get?_push_of_some _ hoc, hdt, hv⟩
  have n1 : h'.objs.size ≠ d := Nat.ne_of_gt hlt
  have n2 : h'.objs.size ≠ P := Nat.ne_of_gt (Nat.lt_of_lt_of_le (Heap.lt_size G4) hsz)
  exact new h'.objs.size d ((X.mg "__name__").getD .none) ct _ nd I1 (Heap.get?_push_size _ rfl) (by rw [upd_ne n1, upd_ne n2]; exact I.hok.fresh hsz) (far _ hsz)
end
/-- the frame cA made it stood at H, P, β -/
def Sy (C : Ct) (W : WX) (H0 : Hp) (P0 : Addr → Prop) (β0 : List Addr) (L : Store → R D) : TE := fun σ H Q => ∃ P β S, Ext H0 β0 H β ∧ aU C H P β S ∧ (∀ a, P0 a → P a) ∧ (∀ a, P a → P0 a ∨ H0 a = none) ∧ (∀ a, P a → H a ≠ none ∧ a ∉ β) ∧ (match L S with
 | .ok d S' => ∀ v H' β', Ext H β H' β' → aU C H' P β' S' → RV C H' P β' v d → Q v H'
 | .exc e S' => ∀ cls x H' β', Ext H β H' β' → aU C H' P β' S' → jA C H' P β' cls x e → W cls x σ H'
 | .stuck => False)
abbrev oN (X : Cx) : Ct := ⟨X.K, X.mg, X.w, []⟩
/-- in the context X, cA was DM at H0: a() runs it -/
def SA (X : Cx) (a : Str) (f : Addr) (H0 : Hp) (P0 : Addr → Prop) (β0 : List Addr) (L : Store → R D) : Prop :=
 ∀ (W : WX) (pn : List (Addr × Obj)) (xe : Value → Shared → Prop) (p1 p2 : Pos), Takes (X.tr pn xe) W →
  PE (X.tr pn xe) (.Call (.Name a p1) [] [] p2) fun σ H Q => σ[0]? = some (some (.ref f)) ∧ Sy (oN X) W H0 P0 β0 L σ H Q
section
variable {X : Cx} {pins : List (Addr × Obj)} {σ : L2.St} {H : Hp} {s : Shared}
theorem a0d {params : Arguments} {body : Expr} {scope : Scope} {pm ct : Value} {f d g : Addr} {cf : Cf} {oa : Nat → Option Addr} {P : Addr → Prop} {β : List Addr} {ρ : aN} {S : Store} {N : List Str} {q a : Str} {sg : Scope} {cd : Value} {Eg : XK} {k : Nat} {m : EX}
  (I : Inv X pins σ H s) (Ls : LamX.LamS X.env.scope scope) (hf : s.heap.get? f = some (lamO X params body scope pm d ct)) (nf : H f = none) (nfr : f ∉ frs X.stack) (hd : Rd H d (jy d (X.env.qual ++ "<lambda>"))) (db : d ∉ β)
  (L : LR (oN X) cf oa P σ H β ρ S) (hbind : bindArgs (PySem.W.kla_fn "<lambda>" (X.env.qual ++ "<lambda>") params body scope (cloFrom X.env.cells scope.names []) pm (.ref d) ct) ⟨[], []⟩ = pure [])
  (hgd : X.A.guards = some []) (hr : Room (k + 1) (X.A.deeper (envOfC q sg s.heap.objs.size g cd)))
  (hbody : ∀ (A : Around) (outer : List Env) (s : Shared) (H : Hp) (E : XK), A.guards = some [] → Room k (A.deeper (LamX.lamEnv X scope s.heap.objs.size f d)) → PM (oN X) (fun cls x _ H' => E cls x H') false (LamX.lamCx X A outer s H E scope f d) body m)
  (hN : N[0]? = some a) (hv : Vis sg a) (hdb : (a == ("__debug__" : Str)) = false) (hcd : (a == ("__classdict__" : Str)) = false) :
  SA (cxOf (L2.CX X.prog X.w) X.prog X.w X.K X.mg X.base N q sg g cd X.A X.stack s H Eg) a f H P β (m ρ) := by
 intro W pn xe p1 p2 tk
 refine ⟨fun pinsZ sZ σZ HZ Q IZ h => ?_⟩
 obtain ⟨hs, P', β', S', e, sr, up, fr, hp, h⟩ := h
 refine wpAny_Call_Name_kw (thn ((pe_var (pos := p1) (i := 0) hN hv hdb hcd).run pinsZ sZ σZ HZ (fun v H1 => v = .ref f ∧ H1 = HZ) IZ ⟨.ref f, hs, rfl, rfl⟩) fun u s1 got => ?_)
 obtain ⟨v, H1, I1, r1, ev, eH⟩ := got
 subst ev
 rw [eH] at I1
 cases (show u = Value.ref f from r1)
 have AA : s1.heap.get? f = some (lamO X params body scope pm d ct) := I1.base.keep f _ hf nf nfr (by intro z; exact absurd (show f ∈ ([] : List Addr) from z) (by simp))
 refine PySem.W.callWith_F0 ⟨_, _, _, _, AA⟩ ?_
 have un : Un (frs X.stack) [] H HZ s.heap s1.heap := I1.base
 obtain ⟨⟨oc, vs, t, hoc, hdc, hvc⟩, _, _⟩ := (e.rd db hd).ok I1.hok
 have run : codeAny (model X.prog X.w) (X.A.deeper (envOfC q sg s.heap.objs.size g cd)) (.call (.ref f) ⟨[], []⟩) (CR (L2.CX X.prog X.w) (envOfC q sg s.heap.objs.size g cd :: X.stack) X.prog X.w HZ s1 Q (WE W σZ)) s1 := by
  refine PySem.W.kla_callFunE hr.depth AA rfl Ls.co Ls.gen rfl ⟨d, oc, vs, t, rfl, hoc, hdc, hvc⟩ ?_
  rw [hbind]
  refine wpAny_pure (wpAny_newFunctionEnv (fun y hy => (Ls.own y hy).2) (fun y hy => absurd hy (by simp)) ?_ Ls.kind)
  intro h₁ hns hsb
  refine ⟨I1.nolimit.fresh _ hsb, ?_⟩
  have kp : ∀ b o, s1.heap.get? b = some o → h₁.get? b = some o := fun b o z => hsb.extBut b o (Nat.ne_of_lt (Heap.lt_size z)) (Heap.get?_push_of_some _ z)
  have J : Inv (LamX.lamCx X (X.A.deeper (envOfC q sg s.heap.objs.size g cd)) (envOfC q sg s.heap.objs.size g cd :: X.stack) s1 HZ (WE W σZ) scope f d) [] σ HZ { s1 with heap := h₁, toks := s1.toks + ([] : List (Str × Value)).length } :=
   LamX.lam_start2 I Ls I1.env0 hr.hd un hns kp
  refine PySem.W.kla_codeExpr (wpAny_mono ((hbody (X.A.deeper (envOfC q sg s.heap.objs.size g cd)) _ s1 HZ (WE W σZ) hgd (hr.deeper _)).run [] _ _ HZ Q J ?_) ?_ fun _ _ z => z)
  ·refine ⟨cf, oa, P', β', ρ, S', L.deep e up fr hp sr, ?_⟩
   revert h
   show (match m ρ S' with
    | .ok d S' => _
    | .exc e S' => _
    | .stuck => _) → _
   cases m ρ S' with
   | stuck => exact fun h => h
   | exc x S2 => exact fun h cls z H' β2 t L2 ea => h cls z H' β2 t.ext L2.st ea
   | ok d2 S2 => exact fun h v H' β2 t L2 rv => h v H' β2 t.ext L2.st rv
  ·intro v s' got
   obtain ⟨w', H', J', rv, z⟩ := got
   exact ⟨w', H', J'.os, J'.bare, J'.base, J'.hok, rv, z⟩
 refine wpAny_call (codeAny_mono run fun r s' hq => ?_)
 cases r with
 | error x => exact passAt tk σZ pinsZ HZ s1 x s' I1 hq
 | ok fl =>
  cases fl with
  | ret u => exact I1.after hq
  | next => exact False.elim hq
  | brk => exact False.elim hq
  | cont => exact False.elim hq
end
/-- a def cA calls its one argument; g: what it makes of what cA does -/
structure SG (P : Program) (w : World) (K : PySem.W.Frag) (mg : Str → Option Value) (base : Heap) (k : Nat) (fa : Addr) (fd : FuncData) (a : Str) (g : (Store → R D) → Store → R D) : Prop where
 run : ∀ (A : Around) (outer : List Env) (s : Shared) (H : Hp) (args : Args) (f : Addr) (Q : VK) (E : XK) (Z : Addr → Prop) (β : List Addr) (L : Store → R D) (S : Store), A.guards = some [] → Room k A → Env0 P w K mg base A outer s H →
  BindsTo s fd args [(a, .ref f)] → aU ⟨K, mg, w, []⟩ H Z β S → (∀ b, Z b → H b ≠ none ∧ b ∉ β) →
  (∀ (N : List Str) (q : Str) (sg : Scope) (cd : Value), N[0]? = some a → Vis sg a → SA (cxOf (L2.CX P w) P w K mg base N q sg fa cd A outer s H E) a f H Z β L) →
  (match g L S with
   | .ok d S' => ∀ v H' β', Ext H β H' β' → aU ⟨K, mg, w, []⟩ H' Z β' S' → RV ⟨K, mg, w, []⟩ H' Z β' v d → Q v H'
   | .exc e S' => ∀ cls x H' β', Ext H β H' β' → aU ⟨K, mg, w, []⟩ H' Z β' S' → jA ⟨K, mg, w, []⟩ H' Z β' cls x e → E cls x H'
   | .stuck => False) → codeAny (model P w) A (.call (.ref fa) args) (CR (L2.CX P w) outer P w H s Q E) s
structure zm (P : Program) (w : World) (K : PySem.W.Frag) (mg : Str → Option Value) (base : Heap) (k : Nat) (x a : Str) (g : (Store → R D) → Store → R D) : Prop where
 ex : ∃ (fa : Addr) (y q : Str) (st : Stmt) (fd : FuncData), Fun K y q st fa fd ∧ mg x = some (.ref fa) ∧ (∀ (s : Shared) (u : Value), BindsTo s fd ⟨[u], []⟩ [(a, u)]) ∧ SG P w K mg base k fa fd a g
def tabAt (S : Store) (ti : Nat) (x q : Str) : Bool := match S[ti]? with
 | some (.tab y r) => decide (y = x) && decide (r = q)
 | _ => false
theorem a0e {S : Store} {ti : Nat} {x q : Str} (h : tabAt S ti x q = true) : S[ti]? = some (.tab x q) := by
 unfold tabAt at h
 split at h
 ·rename_i y r e
  rw [Bool.and_eq_true] at h
  rw [e, of_decide_eq_true h.1, of_decide_eq_true h.2]
 ·cases h
/-- x(lambda: m) in the def xo, whose table is the qI thing ti -/
def kI (ti : Nat) (xo q : Str) (g : (Store → R D) → Store → R D) (m : EX) : EX := fun ρ S => if tabAt S ti xo q = true ∧ cM ρ = true then g (m ρ) S else .stuck
section
variable {X : Cx} {W : WX}
theorem uY {x a xo q : Str} {ti k j : Nat} {g : (Store → R D) → Store → R D} {c P : Addr} {params : Arguments} {body : Expr} {scope : Scope} {m : EX} {p lpos pos : Pos} (Dk : zm X.prog X.w X.K X.mg X.base k x a g) (hgd : X.A.guards = some []) (hr : Room (j + 2) X.A) (hkj : k ≤ j + 2) (tk : Takes X W)
  (TB : LamX.TabB X.base X.mg c P) (hcode : X.env.code = .ref c) (hta : qJ (au X) xo = some P) (hq : X.env.qual ++ "<lambda>" = q) (Ls : LamX.LamS X.env.scope scope) (hdef : defaultsOf params X.env = ([], []))
  (hbind : ∀ (y : Str) (cl : List (Str × Addr)) (pm cv ct : Value), bindArgs (PySem.W.kla_fn "<lambda>" y params body scope cl pm cv ct) ⟨[], []⟩ = pure [])
  (hbody : ∀ (A : Around) (outer : List Env) (s : Shared) (H : Hp) (E : XK) (f d : Addr), A.guards = some [] → Room j (A.deeper (LamX.lamEnv X scope s.heap.objs.size f d)) → PM (oN X) (fun cls x _ H' => E cls x H') false (LamX.lamCx X A outer s H E scope f d) body m)
  (hg : Gl X x) (hdb : (x == ("__debug__" : Str)) = false := by decide) (hda : (a == ("__debug__" : Str)) = false := by decide) (hcd : (a == ("__classdict__" : Str)) = false := by decide) :
  PM (au X) W false X (.Call (.Name x p) [.Lambda params body scope lpos] [] pos) (kI ti xo q g m) := by
 obtain ⟨fa, y, qual, st, fd, F, hm, hbi, G⟩ := Dk.ex
 refine ⟨fun pins s σ H Q I h => ?_⟩
 obtain ⟨cf, oa, Z, β, ρ, S, L, h⟩ := h
 unfold kI at h
 have hc : tabAt S ti xo q = true ∧ cM ρ = true := by
  by_cases hc : tabAt S ti xo q = true ∧ cM ρ = true
  ·exact hc
  ·rw [if_neg hc] at h; exact h.elim
 rw [if_pos hc] at h
 obtain ⟨hS, hne⟩ := hc
 have hS := a0e hS
 obtain ⟨b, hb, SH, ps, hP, htr, hit⟩ := L.st.at hS
 have eb : b = P := Option.some.inj (SH.symm.trans hta)
 subst eb
 have mb : b ∈ β := List.mem_of_getElem? hb
 subst hq
 refine wpAny_Call_Name_kw (ld_glob I hg hm ?_ hdb)
 refine PySem.W.callWith_K (h₀ := X.base) I.ok.mod.kin F.kp ?_ (by rfl) (by rfl)
 show wpAny _ _ (spliced ((false, eval (.Lambda params body scope lpos) X.env) :: backTo pos (starEach [] X.env))) _ _ s
 have go : ∀ (f d : Addr) (pm ct : Value) (H1 : Hp) (s1 : Shared), Inv X pins σ H1 s1 → Ext H β H1 β → aU (au X) H1 Z β S → s1.heap.get? f = some (lamO X params body scope pm d ct) → H1 f = none → f ∉ frs X.stack → Rd H1 d (jy d (X.env.qual ++ "<lambda>")) → d ∉ β →
   wpAny (model X.prog X.w) X.A (call (.ref fa) [.ref f] []) (EP X pins σ Q) X.xe s1 := by
  intro f d pm ct H1 s1 I1 e1 r1 hf nf nfr hd db
  have L1 : LR (au X) cf oa Z σ H1 β ρ S := L.step e1 r1
  refine wpAny_call (codeAny_mono (G.run X.A X.stack s1 H1 ⟨[.ref f], []⟩ f Q (WE W σ) Z β (m ρ) S hgd (hr.mono hkj) I1.env0 (hbi s1 (.ref f)) (r1.ct (C := au X) (C' := oN X) rfl rfl) L1.p (fun N q2 sg cd hN hv => ?_) ?_) fun r s2 hq => ?_)
  ·exact a0d I1 Ls hf nf nfr hd db (L1.ct (C := au X) (C' := oN X) rfl rfl hne) (hbind _ _ _ _ _) hgd (hr.deeper _) (fun A outer s H E hg2 hr2 => hbody A outer s H E f d hg2 hr2) hN hv hda hcd
  ·cases eg : g (m ρ) S with
   | stuck => rw [eg] at h; exact h
   | exc x S' =>
    rw [eg] at h
    exact fun cls z H' β' e2 r2 ea => h cls z H' β' ⟨e1.trans e2, fun z => nomatch z⟩ (L1.step e2 (r2.ct (C := oN X) (C' := au X) rfl rfl)) (ea.ct (C := oN X) (C' := au X) rfl rfl)
   | ok d2 S' =>
    rw [eg] at h
    exact fun v H' β' e2 r2 rv => h v H' β' ⟨e1.trans e2, fun z => nomatch z⟩ (L1.step e2 (r2.ct (C := oN X) (C' := au X) rfl rfl)) (rv.ct (C := oN X) (C' := au X) rfl rfl)
  ·cases r with
   | error x => exact passAt tk σ pins H1 s1 x s2 I1 hq
   | ok fl =>
    cases fl with
    | ret u => exact I1.after hq
    | next => exact False.elim hq
    | brk => exact False.elim hq
    | cont => exact False.elim hq
 refine Calls.spliced_cons (a0c I TB hcode hP htr (fun cv hv => let ⟨d, e, r, _⟩ := hit lpos cv hv; ⟨d, e, r⟩) hdef (Ls.has I.ok) ?_ ?_)
 ·intro f d pm ct s1 hcv I1 hf nf nfr
  obtain ⟨d2, e, r1, r2, r3⟩ := hit lpos _ hcv
  cases e
  exact Calls.spliced_nil ⟨I1.kIn, go f d pm ct H s1 I1 (Ext.refl H β) L.st hf nf nfr r1 r3⟩
 ·intro f d pm ct s1 nd I1 hf nf nfr
  have ne : b ≠ d := ne_of_none hP nd
  have db : d ∉ β := L.pO nd
  have dZ : ¬ Z d := L.pN nd
  have com : upd (upd H b (.tbl (ps ++ #[rawInt lpos.line, rawInt lpos.col, .ref d]))) d (jy d (X.env.qual ++ "<lambda>")) = upd (upd H d (jy d (X.env.qual ++ "<lambda>"))) b (.tbl (ps ++ #[rawInt lpos.line, rawInt lpos.col, .ref d])) := by
   funext y
   by_cases h1 : y = d
   ·rw [h1, upd_same, upd_ne (Ne.symm ne), upd_same]
   ·rw [upd_ne h1]
    by_cases h2 : y = b
    ·rw [h2, upd_same, upd_same]
    ·rw [upd_ne h2, upd_ne h2, upd_ne h1]
  have G5 := L.laid (o := jy d (X.env.qual ++ "<lambda>")) nd
  have hP2 : upd H d (jy d (X.env.qual ++ "<lambda>")) b = some (.tbl ps) := by rw [upd_ne ne]; exact hP
  have nt : ∀ xs, ¬ Rd (upd H d (jy d (X.env.qual ++ "<lambda>"))) b (.tup xs) := fun xs r => by rcases r with r | ⟨o, r⟩ <;> (rw [hP2] at r; cases r)
  have e1 : Ext H β (upd (upd H d (jy d (X.env.qual ++ "<lambda>"))) b (.tbl (ps ++ #[rawInt lpos.line, rawInt lpos.col, .ref d]))) β :=
   (Ext.laid nd).trans (Ext.wrote mb nt fun o u z => by rw [hP2] at z; cases z)
  have eL : (ps ++ #[rawInt lpos.line, rawInt lpos.col, .ref d]).toList = ps.toList ++ [rawInt lpos.line, rawInt lpos.col, .ref d] := by simp
  have new : bV (au X) (upd (upd H d (jy d (X.env.qual ++ "<lambda>"))) b (.tbl (ps ++ #[rawInt lpos.line, rawInt lpos.col, .ref d]))) Z β b (.tab xo (X.env.qual ++ "<lambda>")) := by
   refine ⟨SH, _, upd_same, by rw [eL]; exact PySem.TriplesOk_snoc _ _ _ _ htr, fun p' cv hv => ?_⟩
   rw [eL] at hv
   rcases LamX.among_app _ htr hv with z | z
   ·obtain ⟨d2, e, r1, r2, r3⟩ := hit p' cv z
    exact ⟨d2, e, e1.rd r3 r1, r2, r3⟩
   ·exact ⟨d, z, .inl (by rw [upd_ne (Ne.symm ne), upd_same]), dZ, db⟩
  have r1 := G5.st.set hb new
  have es : S.set ti (.tab xo (X.env.qual ++ "<lambda>")) = S := by
   apply List.ext_getElem?
   intro i
   by_cases hi : ti = i
   ·subst hi
    rw [List.getElem?_set_self (List.getElem?_eq_some_iff.mp hS).1, hS]
   ·rw [List.getElem?_set_ne hi]
  rw [es] at r1
  rw [com] at I1 nf
  exact Calls.spliced_nil ⟨I1.kIn, go f d pm ct _ s1 I1 e1 r1 hf nf nfr (.inl (by rw [upd_ne (Ne.symm ne), upd_same])) db⟩
end
/-- try: what the argument does, then the clauses -/
def sG (l : List Cl) (L : Store → R D) : SX := fun ρ S => if cM ρ = true then
  match L S with
  | .ok _ S' => .nx ρ S'
  | .exc e S' => uW l e ρ S'
  | .stuck => .stuck
 else .stuck
def zp (n i : Nat) (m0 : EX) (l : List Cl) (mr : SX) (L : Store → R D) : Store → R D := aX n (aH (bU i m0) (aH (sG l L) mr)) []
/-- a a0b SJ, nothing known of its parameters -/
theorem LR.a0h {C : Ct} {H : Hp} {P : Addr → Prop} {β : List Addr} {S : Store} {vs : List V} {N : List Str} (st : aU C H P β S) (hp : ∀ a, P a → H a ≠ none ∧ a ∉ β) (hn : vs.length ≤ N.length) :
  LR C ⟨H, β, P, []⟩ (fun _ => none) P (L2.start N vs) H β (List.replicate N.length Sl.un) S where
 len := by unfold L2.start; simp; omega
 p := hp
 sub := fun _ h => h
 p0 := fun a h => (hp a h).1
 ext := ⟨⟨[], (List.append_nil β).symm⟩, fun a o h _ => .inl h, fun _ h => .inl h, fun _ _ h => h, fun _ h => h, fun _ _ _ h => h⟩
 own := fun _ _ h => nomatch h
 inj := fun _ _ _ h => nomatch h
 st := st
 slot := fun i d h => by rw [List.getElem?_replicate] at h; split at h <;> cases h
 bY := fun i d h => by rw [List.getElem?_replicate] at h; split at h <;> cases h
 xslot := fun i d h => by rw [List.getElem?_replicate] at h; split at h <;> cases h
section
variable {P : Program} {w : World} {K : PySem.W.Frag} {mg : Str → Option Value} {base : Heap}
/-- x = e, the slots' values told -/
def PSo (X : Cx) (W : WX) (st : Stmt) (i : Nat) (m : EX) : Prop := ∃ t, PS X st (tAsg t (gName i)) ∧ ∀ σ H Q, EM (au X) W false m σ H Q → t σ H Q
theorem a0j {x qual a : Str} {st s1 : Stmt} {fa : Addr} {fd : FuncData} {N : List Str} {k i : Nat} {m0 : EX} {l : List Cl} {mr : SX} {h₀ : ExceptHandler} {hds : List ExceptHandler} {rest : List Stmt} {p1 p2 p3 p4 : Pos}
  (F : Fun K x qual st fa fd) (Sc : FnScope N [a] (defScope st)) (hN : N[0]? = some a) (hv : Vis (defScope st) a) (hb : defBody st = s1 :: .Try [.Expr (.Call (.Name a p1) [] [] p2) p3] (h₀ :: hds) [] [] p4 :: rest) (hi : i ≠ 0)
  (hs1 : ∀ (cdv : Value) (A : Around) (outer : List Env) (s : Shared) (H : Hp) (E : XK), A.guards = some [] → Room k (fM P w K mg base N qual st fa cdv A outer s H E).A → PSo (fM P w K mg base N qual st fa cdv A outer s H E) (fun cls d _ H' => E cls d H') s1 i m0)
  (hcl : ∀ (cdv : Value) (A : Around) (outer : List Env) (s : Shared) (H : Hp) (E : XK), A.guards = some [] → Room k (fM P w K mg base N qual st fa cdv A outer s H E).A → wD (fM P w K mg base N qual st fa cdv A outer s H E) (h₀ :: hds) l)
  (hrest : ∀ (cdv : Value) (A : Around) (outer : List Env) (s : Shared) (H : Hp) (E : XK), A.guards = some [] → Room k (fM P w K mg base N qual st fa cdv A outer s H E).A → jB ⟨K, mg, w, []⟩ (fun cls d _ H' => E cls d H') (fM P w K mg base N qual st fa cdv A outer s H E) rest mr) :
  SG P w K mg base (k + 1) fa fd a (zp N.length i m0 l mr) := by
 obtain ⟨oc, od, kV, doc, pm, an, cdv, ct, osl, rfl, lk, hcd⟩ := F.ex
 refine ⟨fun A outer s H args f Q E Z β L S hg hr e0 hbind sr hp act goal => ?_⟩
 refine LamX.run_ofS (N := N) (ps := [a]) (us := [.ref f]) (vs := [.ref f]) lk hcd Sc hr e0 hbind (.cons rfl .nil) rfl fun hr' => ?_
 have hr2 : Room k (fM P w K mg base N qual st fa cdv A outer s H E).A := hr'
 obtain ⟨t, h1, ht⟩ := hs1 cdv A outer s H E hg hr2
 obtain ⟨cs, hl, h2, h3⟩ := (hcl cdv A outer s H E hg hr2).to (W := fun cls d _ H' => E cls d H')
 have tk : Takes (fM P w K mg base N qual st fa cdv A outer s H E) (fun cls d _ H' => E cls d H') := takes_of rfl rfl rfl rfl
 have T2 := Zw (X := fM P w K mg base N qual st fa cdv A outer s H E) (body := [.Expr (.Call (.Name a p1) [] [] p2) p3]) (pos := p4)
  (tb := fun W' D σ H1 => σ[0]? = some (some (V.ref f)) ∧ Sy ⟨K, mg, w, []⟩ W' H Z β L σ H1 fun _ H2 => D.nx σ H2) rfl rfl tk
  (fun W' pn xe t p => pss_one (jh (ps_expr (pos := p3) (act N qual (defScope st) cdv hN hv W' pn xe p1 p2 t)) fun D σ H h => h)) h2
 show ∃ t, PSs (fM P w K mg base N qual st fa cdv A outer s H E) (defBody st) t ∧ _
 rw [hb]
 refine ⟨_, pss_cons h1 (pss_cons T2 (hrest cdv A outer s H E hg hr2)), ?_⟩
 have nl : 1 ≤ N.length := by
  have := (List.getElem?_eq_some_iff.mp hN).1
  omega
 have L0 : LR ⟨K, mg, w, []⟩ ⟨H, β, Z, []⟩ (fun _ => none) Z (L2.start N [.ref f]) H β (List.replicate N.length Sl.un) S := LR.a0h sr hp nl
 have s0 : (L2.start N [V.ref f])[0]? = some (some (.ref f)) := rfl
 apply ht
 refine ⟨⟨H, β, Z, []⟩, _, Z, β, _, S, L0, ?_⟩
 unfold zp aX at goal
 have goal : match aH (bU i m0) (aH (sG l L) mr) (List.replicate N.length Sl.un) S with
  | .nx _ S' => (match (R.ok .non S' : R D) with
   | .ok d S' => ∀ v H' β', Ext H β H' β' → aU ⟨K, mg, w, []⟩ H' Z β' S' → RV ⟨K, mg, w, []⟩ H' Z β' v d → Q v H'
   | .exc e S' => ∀ cls x H' β', Ext H β H' β' → aU ⟨K, mg, w, []⟩ H' Z β' S' → jA ⟨K, mg, w, []⟩ H' Z β' cls x e → E cls x H'
   | .stuck => False)
  | .rt d S' => ∀ v H' β', Ext H β H' β' → aU ⟨K, mg, w, []⟩ H' Z β' S' → RV ⟨K, mg, w, []⟩ H' Z β' v d → Q v H'
  | .exc e _ S' => ∀ cls x H' β', Ext H β H' β' → aU ⟨K, mg, w, []⟩ H' Z β' S' → jA ⟨K, mg, w, []⟩ H' Z β' cls x e → E cls x H'
  | _ => False := by
  have g := goal
  simp only [List.map_nil, List.nil_append, List.length_nil, Nat.sub_zero] at g
  cases e : aH (bU i m0) (aH (sG l L) mr) (List.replicate N.length Sl.un) S with
  | nx ρ S' => rw [e] at g; exact g
  | rt d S' => rw [e] at g; exact g
  | exc x ρ S' => rw [e] at g; exact g
  | bk ρ S' => rw [e] at g; exact g
  | ct ρ S' => rw [e] at g; exact g
  | stuck => rw [e] at g; exact g
 -- what is wanted of the whole
 have fin : ∀ {r : SR}, (match r with
  | .nx _ S' => (match (R.ok .non S' : R D) with
   | .ok d S' => ∀ v H' β', Ext H β H' β' → aU ⟨K, mg, w, []⟩ H' Z β' S' → RV ⟨K, mg, w, []⟩ H' Z β' v d → Q v H'
   | .exc e S' => ∀ cls x H' β', Ext H β H' β' → aU ⟨K, mg, w, []⟩ H' Z β' S' → jA ⟨K, mg, w, []⟩ H' Z β' cls x e → E cls x H'
   | .stuck => False)
  | .rt d S' => ∀ v H' β', Ext H β H' β' → aU ⟨K, mg, w, []⟩ H' Z β' S' → RV ⟨K, mg, w, []⟩ H' Z β' v d → Q v H'
  | .exc e _ S' => ∀ cls x H' β', Ext H β H' β' → aU ⟨K, mg, w, []⟩ H' Z β' S' → jA ⟨K, mg, w, []⟩ H' Z β' cls x e → E cls x H'
  | _ => False) → SQ ⟨K, mg, w, []⟩ (fun cls d _ H' => E cls d H') ⟨H, β, Z, []⟩ H Z β { nx := fun _ H' => Q .non H', rt := Q } r := by
  intro r g
  cases r with
  | nx ρ S' => intro σ' H' β' bB P' L' f'; exact g .non H' β' (L'.ext.done rfl) (L'.st.less L'.sub) .non
  | rt d S' => intro v H' β' x' _ s' r'; exact g v H' β' (x'.done rfl) s' r'
  | exc e ρ S' =>
   intro cls x σ' H' β' bB P' L' f' ea
   refine g cls x H' β' (L'.ext.done rfl) (L'.st.less L'.sub) ?_
   obtain ⟨Ca, dd, vs, h1, h2, h3, h4, h6, h7, h5⟩ := ea
   exact ⟨Ca, dd, vs, h1, h2, h3, h4, h6, fun z => h7 (L'.sub _ z), fun f x hx => let ⟨v, q1, q2⟩ := h5 f x hx; ⟨v, q1, q2.less L'.sub⟩⟩
  | bk _ _ => exact g.elim
  | ct _ _ => exact g.elim
  | stuck => exact g.elim
 have goal := fin goal
 unfold aH bU at goal
 cases e1 : m0 (List.replicate N.length Sl.un) S with
 | stuck => rw [e1] at goal; exact goal.elim
 | exc x S1 =>
  rw [e1] at goal
  exact fun cls z H' β' t L' ea => goal cls z _ H' β' _ _ L' (Fx.of t.ext) ea
 | ok d0 S1 =>
  rw [e1] at goal
  intro v0 H1 β1 t1 L1 r1
  have L1 := L1.set (i := i) r1
  have s1' : ((L2.start N [V.ref f]).set i (some v0))[0]? = some (some (.ref f)) := by rw [List.getElem?_set_ne hi]; exact s0
  refine ⟨s1', Z, β1, S1, t1.ext, L1.st, fun _ h => h, fun _ h => .inl h, L1.p, ?_⟩
  have goal : SQ ⟨K, mg, w, []⟩ (fun cls d _ H' => E cls d H') ⟨H, β, Z, []⟩ H Z β { nx := fun _ H' => Q .non H', rt := Q } (match sG l L ((List.replicate N.length Sl.un).set i (Sl.sh d0)) S1 with
   | .nx ρ' S' => mr ρ' S'
   | r => r) := goal
  have ne1 : cM ((List.replicate N.length Sl.un).set i (Sl.sh d0)) = true := by
   by_cases hn : cM ((List.replicate N.length Sl.un).set i (Sl.sh d0)) = true
   ·exact hn
   ·unfold sG at goal; rw [if_neg hn] at goal; exact goal.elim
  unfold sG at goal
  rw [if_pos ne1] at goal
  cases e2 : L S1 with
  | stuck => rw [e2] at goal; exact goal.elim
  | ok d2 S2 =>
   rw [e2] at goal
   intro v H' β' e st rv
   exact ⟨⟨H, β, Z, []⟩, _, Z, β', _, S2, L1.step e st, goal.fx (Fx.of (t1.ext.trans e))⟩
  | exc x S2 =>
   rw [e2] at goal
   intro cls z H' β' e st ea
   have G5 := L1.step e st
   refine h3 (H := H) (P := Z) (β := β) ne1 G5 (Fx.of (t1.ext.trans e)) ea ?_
   have goal : SQ ⟨K, mg, w, []⟩ (fun cls d _ H' => E cls d H') ⟨H, β, Z, []⟩ H Z β { nx := fun _ H' => Q .non H', rt := Q } (match uW l x ((List.replicate N.length Sl.un).set i (Sl.sh d0)) S2 with
    | .nx ρ' S' => mr ρ' S'
    | r => r) := goal
   revert goal
   cases uW l x ((List.replicate N.length Sl.un).set i (Sl.sh d0)) S2 with
   | nx ρ3 S3 => exact fun goal σ' H2 β2 j5 P2 L3 f3 => ⟨⟨H, β, Z, []⟩, _, P2, β2, ρ3, S3, L3, goal.fx f3⟩
   | rt d3 S3 => exact fun goal => goal
   | exc x3 ρ3 S3 => exact fun goal => goal
   | bk ρ3 S3 => exact fun goal => goal
   | ct ρ3 S3 => exact fun goal => goal
   | stuck => exact fun goal => goal
end
/-- the name of a lambda cA the def x of the top makes -/
abbrev jk (x : Str) : Str := x ++ ".<locals>." ++ "<lambda>"
/-- what is known of a def cA makes LJ -/
structure qu (K : PySem.W.Frag) (mg : Str → Option Value) (base : Heap) (x : Str) : Prop where
 ex : ∃ (fa c P : Addr) (fd : FuncData) (oc : Value) (od : Option Addr) (sl : Array (Option Value)), mg x = some (.ref fa) ∧ K.lookup fa = some ⟨oc, od, .func fd, sl⟩ ∧ fd.code = .ref c ∧ (∀ C : Ct, C.K = K → C.mg = mg → qJ C x = some P) ∧ LamX.TabB base mg c P
section
variable {P : Program} {w : World} {K : PySem.W.Frag} {mg : Str → Option Value} {base : Heap}
theorem qu.code {x qual y : Str} {st : Stmt} {f : Addr} {fd : FuncData} (A : qu K mg base x) (F : Fun K y qual st f fd) (hm : mg x = some (.ref f)) : ∃ c P, fd.code = .ref c ∧ (∀ C : Ct, C.K = K → C.mg = mg → qJ C x = some P) ∧ LamX.TabB base mg c P := by
 obtain ⟨fa, c, P, fd2, oc, od, sl, h1, h2, h3, h4, h5⟩ := A.ex
 obtain ⟨oc', od', kV, doc, pm, an, cdv, ct, osl, e, lk, _⟩ := F.ex
 rw [hm] at h1
 cases h1
 rw [lk] at h2
 cases h2
 exact ⟨c, P, h3, h4, h5⟩
/-- the rule for XM a def -/
theorem SN {x qual : Str} {st : Stmt} {f : Addr} {fd : FuncData} {N ps : List Str} {k : Nat} {m : SX} {c : Addr} (F : Fun K x qual st f fd) (S : FnScope N ps (defScope st)) (hc : fd.code = .ref c)
  (hbody : ∀ (A : Around) (outer : List Env) (s : Shared) (H : Hp) (E : XK), (fM P w K mg base N qual st f (.ref c) A outer s H E).A.guards = some [] → Room k (fM P w K mg base N qual st f (.ref c) A outer s H E).A →
   jB ⟨K, mg, w, []⟩ (fun cls d _ H' => E cls d H') (fM P w K mg base N qual st f (.ref c) A outer s H E) (defBody st) m) : fJ P w K mg base (k + 1) f fd ps (gK ⟨K, mg, w, []⟩ ps.length (aX N.length m)) := by
 obtain ⟨oc, od, kV, doc, pm, an, cdv, ct, osl, rfl, lk, hcd⟩ := F.ex
 cases (show cdv = .ref c from hc)
 refine ⟨fun vs H Q E h => h.1, fun A outer s H args us vs Q E hg hr e0 hb r h => ?_⟩
 obtain ⟨hl, Pf, β, ds, St, st', hp, rv, q⟩ := h
 refine LamX.run_ofS (N := N) (ps := ps) lk hcd S hr e0 hb r hl fun hr' => ?_
 refine ⟨_, hbody A outer s H E hg hr', ?_⟩
 refine ⟨⟨H, β, Pf, []⟩, _, Pf, β, _, St, LR.start st' hp rv, ?_⟩
 unfold aX at q
 cases e : m (ds.map Sl.sh ++ List.replicate (N.length - ds.length) Sl.un) St with
 | nx ρ' S' =>
  rw [e] at q
  intro σ' H' β' bB P' L' f'
  exact q .non H' β' (L'.ext.done rfl) (L'.st.less L'.sub) .non
 | rt d S' =>
  rw [e] at q
  intro v H' β' x' _ s' r'
  exact q v H' β' (x'.done rfl) s' r'
 | bk ρ' S' => rw [e] at q; exact q.elim
 | ct ρ' S' => rw [e] at q; exact q.elim
 | exc ex ρ' S' =>
  rw [e] at q
  intro cls x σ' H' β' bB P' L' f' ea
  refine q cls x H' β' (L'.ext.done rfl) (L'.st.less L'.sub) ?_
  obtain ⟨Ca, dd, vs, h1, h2, h3, h4, h6, h7, h5⟩ := ea
  exact ⟨Ca, dd, vs, h1, h2, h3, h4, h6, fun z => h7 (L'.sub _ z), fun f x hx => let ⟨v, q1, q2⟩ := h5 f x hx; ⟨v, q1, q2.less L'.sub⟩⟩
 | stuck => rw [e] at q; exact q.elim
end
/-- the store at the a8Z SJ -/
def nJ (lx : List Str) : Store := lx.map fun x => SO.tab x (jk x)
theorem G6 {K : PySem.W.Frag} {mg : Str → Option Value} {h : Heap} {x : Str} (X : K.In h) (G : h.Ns mainGlobals mg) (e : Ae K x = true) : ∃ (fa : Addr) (fd : FuncData) (oc : Value) (od : Option Addr) (sl : Array (Option Value)), mg x = some (.ref fa) ∧ K.lookup fa = some ⟨oc, od, .func fd, sl⟩ ∧
  fd.code = .ref (lamP K x).1 ∧ (∀ C : Ct, C.K = K → C.mg = mg → qJ C x = some (lamP K x).2) ∧ PySem.W.codeHdIn K (lamP K x).1 (lamP K x).2 = true := by
 obtain ⟨h1, h2⟩ := bd (show ((match PySem.W.nsIn K mainGlobals x with
  | some (some (.ref f)) => match K.lookup f with
   | some ⟨_, _, .func fd, _⟩ => decide (fd.code = .ref (lamP K x).1)
   | _ => false
  | _ => false) && PySem.W.codeHdIn K (lamP K x).1 (lamP K x).2) = true from e)
 split at h1
 ·rename_i f hf
  split at h1
  ·rename_i oc od fd sl lk
   have hc := of_decide_eq_true h1
   have hm := PySem.W.mg_of X G hf
   refine ⟨f, fd, oc, od, sl, hm, lk, hc, fun C k m => ?_, h2⟩
   have h3 := h2
   unfold PySem.W.codeHdIn at h3
   unfold qJ
   rw [m, hm, k]
   simp only [lk, hc]
   split at h3
   ·rename_i vs sl2 hk
    simp only [hk]
    simp only [Bool.and_eq_true] at h3
    obtain ⟨⟨⟨⟨⟨e1, _⟩, _⟩, _⟩, _⟩, _⟩ := h3
    split at e1
    ·rename_i P' h11
     simp only [h11, beq_iff_eq.mp e1]
    ·cases e1
   ·cases h3
  ·cases h1
 ·cases h1
section
variable {P : Program} {w : World} {K : PySem.W.Frag} {mg mb : Str → Option Value} {k : Nat} {fa a : Addr} {fd : FuncData} {x : Str} {f : FX} {s : Shared} {vs : List Value} {ns : List Int} {lx : List Str}
theorem a0k {C : Ct} {H : Hp} (h : SqL C.K H a (ns.map V.int)) (nd : (lx.map fun x => (lamP C.K x).2).Nodup) (hT : ∀ x ∈ lx, qJ C x = some (lamP C.K x).2 ∧ H (lamP C.K x).2 = some (.tbl #[])) (hb : ∀ x ∈ lx, a ≠ (lamP C.K x).2)
  (ok : ∃ S, f [.lst (fW ns)] (nJ lx) = .ok (.bl true) S) : gK C 1 f [.ref a] H (fun v _ => v = .bl true) fun _ _ _ => False := by
 obtain ⟨S, ok⟩ := ok
 refine ⟨rfl, fun _ => False, lx.map fun x => (lamP C.K x).2, [.lst (fW ns)], nJ lx, ⟨by unfold nJ; simp, nd, fun n b so e1 e2 => ?_⟩, fun a z => z.elim, .cons ?_ .nil, ?_⟩
 ·unfold nJ at e2
  rw [List.getElem?_map] at e1 e2
  cases ex : lx[n]? with
  | none => rw [ex] at e1; cases e1
  | some y =>
   rw [ex] at e1 e2
   cases e1
   cases e2
   obtain ⟨h1, h2⟩ := hT y (List.mem_of_getElem? ex)
   exact ⟨h1, #[], h2, True.intro, fun pos cv hc => by
    have z : codeAmong pos [] = some cv := hc
    simp [codeAmong] at z⟩
 ·have nb : a ∉ lx.map fun x => (lamP C.K x).2 := fun z => by
   obtain ⟨y, hy, e⟩ := List.mem_map.mp z
   exact hb y hy e.symm
  rcases h with h | h
  ·exact .lst (fun z => z) nb h (Ec ns)
  ·exact .fL h (Ec ns)
 ·rw [ok]
  intro v H' β' e s r
  cases r
  rfl
theorem SV (KX : K.In s.heap) (N : s.heap.Ns mainGlobals mg) (B : s.heap.Ns builtinsNs mb) (bb : ∀ x : Str, x ≠ "__name__" → mb x = bootBuiltins x) (lim : s.heap.NoLimit) (gg : s.gens = #[]) (SL : Af lx s.heap K)
  (hbm : ∃ (bm : Addr) (ob : Obj), mg "__builtins__" = some (.ref bm) ∧ bm ≠ builtinsNs ∧ s.heap.get? bm = some ob ∧ ob.cls = .type "module" ∧ ob.dict = some builtinsNs ∧ ob.data = .plain)
  (ob : s.heap.get? a = some { cls := .type "list", data := .seq vs.toArray }) (rm : Room k callerA) (F : ∀ base : Heap, K.In base → base.Ns mainGlobals mg → (∀ y ∈ lx, qu K mg base y) → fJ P w K mg base k fa fd [x] (gK ⟨K, mg, w, []⟩ 1 f)) (bd : ∀ (s : Shared) (u : Value), BindsTo s fd ⟨[u], []⟩ [(x, u)])
  (ok : ∃ S, f [.lst (fW ns)] (nJ lx) = .ok (.bl true) S) (H : Hp) (hH : HOk P w H s.heap) (sq : SqL K H a (ns.map V.int)) (tb : ∀ y ∈ lx, H (lamP K y).2 = some (.tbl #[]))
  (on : ∀ b, H b = none ∨ (b = a ∧ K.lookup a = none ∧ ∃ xs, H b = some (.frz { cls := .type "list", data := .seq vs.toArray } (.lst xs))) ∨ b ∈ lx.map fun y => (lamP K y).2) :
  codeAny (model P w) callerA (.call (.ref fa) ⟨[.ref a], []⟩) (fun r s' => r = .ok (.ret (.bool true)) ∧ OldK s.heap s'.heap ∧ s'.os = s.os ∧ AllBare s'.gens) s := by
 have isT : ∀ {b : Addr}, b ∈ (lx.map fun y => (lamP K y).2) → s.heap.get? b = some { cls := .none, data := .fields #[] } ∧ K.lookup b = none := fun {b} m => by
  obtain ⟨y, hy, e⟩ := List.mem_map.mp m
  obtain ⟨_, h2, h3⟩ := SL.one y hy
  rw [← e]
  exact ⟨h3, h2⟩
 have SW : ∀ {b : Addr} {o : Obj}, s.heap.get? b = some o → (∀ us n, o.data ≠ .seq us n) → o.data ≠ .fields #[] → H b = none := by
  intro b o g d1 d2
  rcases on b with z | ⟨rfl, _, _⟩ | z
  ·exact z
  ·rw [ob] at g
   cases g
   exact (d1 _ _ rfl).elim
  ·rw [(isT z).1] at g
   cases g
   exact (d2 rfl).elim
 have a0l : ∀ {b : Addr} {o : Obj} {es : Array DictEntry} {ep : Nat}, s.heap.get? b = some o → o.data = .dict es ep → H b = none := fun g d => SW g (fun us n z => by rw [d] at z; cases z) fun z => by rw [d] at z; cases z
 have a0m : ∀ {b : Addr} {o : Obj}, K.lookup b = some o → H b = none := by
  intro b o g
  rcases on b with z | ⟨rfl, n, _⟩ | z
  ·exact z
  ·rw [n] at g; cases g
  ·rw [(isT z).2] at g; cases g
 have BL : ∀ {b : Addr} {m : Str → Option Value}, s.heap.Ns b m → (hidT s.heap H).Ns b m := by
  rintro b m ⟨o, es, ep, g, d, r⟩
  exact ⟨o, es, ep, hidT_get g (a0l g d), d, r⟩
 have kin : K.In (hidT s.heap H) := fun b o g => hidT_get (KX b o g) (a0m g)
 obtain ⟨ml, l1, l2⟩ := lim
 have mod : Mod K mg (hidT s.heap H) := ⟨kin, BL N, ⟨mb, BL B, bb⟩, ⟨ml, BL l1, l2⟩⟩
 have env : Env0 P w K mg (hidT s.heap H) callerA [] s H := ⟨rfl, mod, fun b o g => of_hidT g, Nat.le_of_eq (hidT_size _ _), trivial, fun b z => (List.not_mem_nil z).elim, hH, .of_eq gg⟩
 have nG : ∀ b, b ∈ (lx.map fun y => (lamP K y).2) → mainGlobals ≠ b := by
  intro b m z
  obtain ⟨o, es, ep, g, d, _⟩ := N
  rw [z, (isT m).1] at g
  cases g
  cases d
 have LA : ∀ y ∈ lx, qu K mg (hidT s.heap H) y := by
  intro y hy
  obtain ⟨h1, h2, h3⟩ := SL.one y hy
  obtain ⟨fy, fdy, oc, od, sl, e1, e2, e3, e4, e5⟩ := G6 KX N h1
  have mT : (lamP K y).2 ∈ lx.map fun y => (lamP K y).2 := List.mem_map.mpr ⟨y, hy, rfl⟩
  obtain ⟨bm, o, b1, b2, b3, b4, b5, b6⟩ := hbm
  have n1 : bm ≠ mainGlobals := fun q => by
   obtain ⟨o2, es, ep, g, d, _⟩ := N
   rw [q, g] at b3
   cases b3
   rw [d] at b6
   cases b6
  have n2 : bm ≠ (lamP K y).2 := fun q => by
   rw [q, h3] at b3
   cases b3
   cases b6
  exact ⟨fy, _, _, fdy, oc, od, sl, e1, e2, e3, e4, PySem.W.codeHd_of_K kin e5, ⟨bm, o, b1, b2, n1, n2, hidT_get b3 (SW b3 (fun us n z => by rw [b6] at z; cases z) fun z => by rw [b6] at z; cases z), b4, b5, b6⟩, nG _ mT⟩
 have aT : ∀ y ∈ lx, a ≠ (lamP K y).2 := fun y hy z => by
  obtain ⟨_, _, h3⟩ := SL.one y hy
  rw [z, h3] at ob
  cases ob
 have run := (F _ kin (BL N) LA).run callerA [] s H ⟨[.ref a], []⟩ [.ref a] [.ref a] _ _ rfl rm env (bd s (.ref a)) (.cons rfl .nil)
  (a0k (C := ⟨K, mg, w, []⟩) sq SL.nd (fun y hy => ⟨let ⟨_, _, _, _, _, _, _, _, e, _⟩ := G6 KX N (SL.one y hy).1; e ⟨K, mg, w, []⟩ rfl rfl, tb y hy⟩) aT ok)
 refine codeAny_mono run fun r s' q => ?_
 match r, q with
 | .error e, q => exact (Xe q).elim
 | .ok .next, q => exact False.elim q
 | .ok .brk, q => exact False.elim q
 | .ok .cont, q => exact False.elim q
 | .ok (.ret u), q =>
  obtain ⟨v, H', os, ba, un, hH', rv, e⟩ := q
  have e' : v = .bl true := e
  subst e'
  obtain rfl : u = Value.bool true := rv
  have key : ∀ b o, b ∉ (lx.map fun y => (lamP K y).2) → s.heap.get? b = some o → s'.heap.get? b = some o := by
   intro b o nb g
   rcases on b with z | ⟨_, _, xs, z⟩ | z
   ·exact un.keep b o g z (fun m => (List.not_mem_nil m).elim) (fun m => (List.not_mem_nil m).elim)
   ·obtain ⟨g1, _⟩ := hH b _ z
    obtain ⟨g2, _⟩ := hH' b _ (un.frzs b _ _ z)
    rw [g] at g1
    cases g1
    exact g2
   ·exact absurd z nb
  have grown : ∀ b, b ∈ (lx.map fun y => (lamP K y).2) → ∃ more : Array Value, s'.heap.get? b = some { cls := .none, data := .fields more } := by
   intro b m
   obtain ⟨y, hy, e⟩ := List.mem_map.mp m
   obtain ⟨more, z⟩ := un.tbls b #[] (by rw [← e]; exact tb y hy)
   exact ⟨_, hH' b _ z⟩
  refine ⟨rfl, ⟨fun b o g => ?_, fun b o g => ?_⟩, os, ba⟩
  ·by_cases m : b ∈ lx.map fun y => (lamP K y).2
   ·obtain ⟨more, hm⟩ := grown b m
    obtain ⟨y, hy, e⟩ := List.mem_map.mp m
    obtain ⟨h1, _, h3⟩ := SL.one y hy
    obtain ⟨_, _, _, _, _, _, _, _, _, e5⟩ := G6 KX N h1
    have hd := PySem.W.codeHd_of_K KX e5
    rw [(isT m).1] at g
    cases g
    refine .inr (.inl ⟨?_, rfl, #[], more, rfl, by rw [Array.empty_append]; exact hm⟩)
    rw [← e]
    exact (hd.tab h3).isCodeTable
   ·exact .inl (key b o m g)
  ·by_cases m : b ∈ lx.map fun y => (lamP K y).2
   ·obtain ⟨more, hm⟩ := grown b m
    exact ⟨_, hm⟩
   ·exact ⟨o, key b o m g⟩
theorem a0o (KX : K.In s.heap) (N : s.heap.Ns mainGlobals mg) (B : s.heap.Ns builtinsNs mb) (bb : ∀ x : Str, x ≠ "__name__" → mb x = bootBuiltins x) (lim : s.heap.NoLimit) (gg : s.gens = #[]) (SL : Af lx s.heap K)
  (hbm : ∃ (bm : Addr) (ob : Obj), mg "__builtins__" = some (.ref bm) ∧ bm ≠ builtinsNs ∧ s.heap.get? bm = some ob ∧ ob.cls = .type "module" ∧ ob.dict = some builtinsNs ∧ ob.data = .plain)
  (ob : s.heap.get? a = some { cls := .type "list", data := .seq vs.toArray }) (hi : IntsAre vs ns) (hz : ns.length ≤ sizeLine) (rm : Room k callerA) (F : ∀ base : Heap, K.In base → base.Ns mainGlobals mg → (∀ y ∈ lx, qu K mg base y) → fJ P w K mg base k fa fd [x] (gK ⟨K, mg, w, []⟩ 1 f)) (bd : ∀ (s : Shared) (u : Value), BindsTo s fd ⟨[u], []⟩ [(x, u)])
  (ok : ∃ S, f [.lst (fW ns)] (nJ lx) = .ok (.bl true) S) :
  codeAny (model P w) callerA (.call (.ref fa) ⟨[.ref a], []⟩) (fun r s' => r = .ok (.ret (.bool true)) ∧ OldK s.heap s'.heap ∧ s'.os = s.os ∧ AllBare s'.gens) s := by
 have vals := vals_ints hi
 have isT : ∀ {b : Addr}, b ∈ (lx.map fun y => (lamP K y).2) → s.heap.get? b = some { cls := .none, data := .fields #[] } := fun {b} m => by
  obtain ⟨y, hy, e⟩ := List.mem_map.mp m
  rw [← e]
  exact (SL.one y hy).2.2
 have mT : ∀ y ∈ lx, (lamP K y).2 ∈ lx.map fun y => (lamP K y).2 := fun y hy => List.mem_map.mpr ⟨y, hy, rfl⟩
 have aT : a ∉ lx.map fun y => (lamP K y).2 := fun z => by
  have q := isT z
  rw [ob] at q
  cases q
 cases hk : K.lookup a with
 | none =>
  refine SV KX N B bb lim gg SL hbm ob rm F bd ok (fun b => if b = a then some (.frz { cls := .type "list", data := .seq vs.toArray } (.lst (ns.map V.int))) else if b ∈ (lx.map fun y => (lamP K y).2) then some (.tbl #[]) else none) ?_ (.inl (.inr ⟨_, if_pos rfl⟩)) (fun y hy => ?_) fun b => ?_
  ·intro b u z
   simp only at z
   by_cases e : b = a
   ·rw [if_pos e] at z
    injection z with z
    subst z e
    exact ⟨ob, by rw [List.length_map]; exact hz, vs, 0, vals, ob⟩
   ·rw [if_neg e] at z
    by_cases m : b ∈ lx.map fun y => (lamP K y).2
    ·rw [if_pos m] at z
     cases z
     exact isT m
    ·rw [if_neg m] at z; cases z
  ·rw [if_neg (show ¬ (lamP K y).2 = a from fun z => aT (by rw [← z]; exact mT y hy)), if_pos (mT y hy)]
  ·by_cases e : b = a
   ·exact .inr (.inl ⟨e, hk, _, if_pos e⟩)
   ·by_cases m : b ∈ lx.map fun y => (lamP K y).2
    ·exact .inr (.inr m)
    ·exact .inl ((if_neg e).trans (if_neg m))
 | some o =>
  have g := KX a o hk
  rw [ob] at g
  injection g with g
  refine SV KX N B bb lim gg SL hbm ob rm F bd ok (fun b => if b ∈ (lx.map fun y => (lamP K y).2) then some (.tbl #[]) else none) (fun b u z => ?_) (.inr ⟨o, vs.toArray, 0, hk, ?_⟩) (fun y hy => if_pos (mT y hy)) fun b => ?_
  ·simp only at z
   by_cases m : b ∈ lx.map fun y => (lamP K y).2
   ·rw [if_pos m] at z
    cases z
    exact isT m
   ·rw [if_neg m] at z; cases z
  ·rw [← g]
   refine ⟨rfl, rfl, rfl, ?_, vals⟩
   rw [List.size_toArray, ← vals.length, List.length_map]
   exact hz
  ·by_cases m : b ∈ lx.map fun y => (lamP K y).2
   ·exact .inr (.inr m)
   ·exact .inl (if_neg m)
end
theorem a0p {l : PySem.W.OpenLaw} {n k : Nat} {q : Program} {loose : List Str} {XP : (Str → Option Value) → Heap → Prop} {d : DefRec} {x : Str} {f : FX} {N : Nat} {lx : List Str} {cs : List (PySem.W.Frag → Bool)} {fn : List He.FnD} {ts : List He.Tab}
  (hn : l.most = some n) (hn2 : n ≤ sizeLine) (hdf : d.params.defaults = []) (hr : Room k callerA) (hd : d.name = "law")
  (law : ∀ ns : List Int, ns.length ≤ n → (∀ z ∈ ns, Builtin.Int.intBits z ≤ 1048576) → ∃ S, f [.lst (fW ns)] (nJ lx) = .ok (.bl true) S)
  (F : ∀ (w : World) (K : PySem.W.Frag) (mg : Str → Option Value) (fa : Addr) (h : Heap), K.In h → oY cs fn ts w K → h.Ns mainGlobals mg → mg "law" = some (.ref fa) →
   ∃ fd : FuncData, (∀ (s : Shared) (u : Value), BindsTo s fd ⟨[u], []⟩ [(x, u)]) ∧ ∀ base : Heap, K.In base → base.Ns mainGlobals mg → (∀ y ∈ lx, qu K mg base y) → fJ l.prog w K mg base k fa fd [x] (gK ⟨K, mg, w, []⟩ 1 f)) :
  PySem.W.WalkO q loose XP (qH N lx cs fn ts).says l.row.toRowW d [] (fun f vs => PySem.call f vs) := by
 refine Att.attach_callB hn hdf fun w s₀ s₁ mg mb fa o pm cd doc a vs ns G Y ho hd' hcd hmg hobj hints hlen hbits hg => ?_
 obtain ⟨K, KX, c, SL⟩ := Y
 rw [hd] at hmg
 obtain ⟨fd, hb, hF⟩ := F w K mg fa _ KX c G.T.g hmg
 exact a0o KX G.T.g G.T.b G.T.builtins G.T.nolimit hg SL G.T.bmain hobj hints (Nat.le_trans hlen hn2) hr hF hb (law ns hlen hbits)
end Mi
namespace bA
open PySem PySem.Spec PyProof.Rows L2 Mi
abbrev sH : List Str := ["InvalidAmount", "InvalidRow"]
def xT : List ((Str × Str) × Bool) := [(("InvalidAmount", "ExactStopError"), true), (("InvalidAmount", "InvalidAmount"), true), (("InvalidAmount", "InvalidRow"), false), (("InvalidAmount", "InvalidText"), false), (("InvalidRow", "ExactStopError"), true), (("InvalidRow", "InvalidAmount"), false), (("InvalidRow", "InvalidRow"), true), (("InvalidRow", "InvalidText"), false)]
def xU : List ((Str × String) × Bool) := []
def BO : List (Str × Bool) := [("InvalidAmount", true), ("InvalidRow", false)]
def BP : List (Str × Bool) := [("InvalidAmount", false), ("InvalidRow", true)]
abbrev G7 : List Str := ["value"]
def SY : EX := Fb [(mC (.str "invalid amount: ")), (dU w6 (ak 1))]
abbrev BQ : List Str := ["value"]
def uZ : EX := Fb [(mC (.str "invalid row: ")), (dU w6 (ak 1))]
abbrev T5 : List Str := ["value"]
abbrev zq : List Str := ["value"]
def T6 : SX := aW (gJ (aO i6 (aj (ak 0) (aj (mC (.ty "int")) (ao)))) (ou (aO i6 (aj (ak 0) (aj (mC (.ty "bool")) (ao))))))
def nM : FX := aX T5.length T6
abbrev G8 : List Str := ["summary", "count", "need", "net"]
abbrev zu : List Str := ["summary", "count"]
def zA : SX := aH (cJ (iw (gG (gD (aK nM [0] (aj (ak 1) (ao)) (ao)))) (aQ (aC mW (ak 1) (mC (.int 0))))) (rR "InvalidAmount" G7 SY (aj (ak 1) (ao))) (cY)) <|
 aH (cJ (aQ (aC bQ (ak 1) (mC (.int 0)))) (aW (aR (aj (mC (.int 0)) (aj (mC (.int 0)) (ao))))) (cY)) <|
 aH (fV (ak 0) (dW (bf (aM 2) (bf (aM 3) (cV))))) <|
 aW (aR (aj (aC bM (ak 2) (aO kh (aj (mC (.int 0)) (aj (aC gM (aC jY (ak 1) (mC (.int 1))) (ak 3)) (ao))))) (aj (aC gM (ak 1) (ak 3)) (ao))))
def jm : FX := aX G8.length zA
abbrev T7 : List Str := ["_law_script", "_law_k", "_law_cell"]
abbrev BR : List Str := ["_law_script", "_law_k"]
def T8 : SX := aH (bU 2 (gH (aQ (aC mW (ak 1) (aO eY (aj (ak 0) (ao))))) (aC aV (ak 0) (ak 1)) (aC bM (aC gM (mC (.int 13)) (ak 1)) (mC (.int 6))))) <|
 aW (pP (cH (aj (aO kh (aj (mC (.int 0)) (aj (aC jY (aO rG (aj (ak 2) (ao))) (aC jF (mC (.int 10)) (mC (.int 18)))) (ao)))) (aj (aC bM (aC bM (aC lJ (aO rG (aj (ak 2) (ao))) (mC (.int 2147483579))) (aC gM (mC (.int 307)) (ak 1))) (mC (.int 11))) (ao)))))
def BU : FX := aX T7.length T8
abbrev T9 : List Str := ["_law_rng_here", "_law_many", "_law_digit"]
abbrev oO : List Str := ["_law_rng_here", "_law_many"]
def Tc : SX := aH (cJ (aQ (aC qZ (aC aV (ak 0) (mC (.int 0))) (mC (.int 0)))) (aH (fV (aO yw (aj (aC aV (ak 0) (mC (.int 0))) (aj (ak 1) (ao)))) (dW (bf (rH (ak 0) (mC (.int 0))) (bf (aM 2) (cV))))) <|
 aW (ak 2)) (cY)) <|
 aH (fV (aC lJ (aC bM (aC gM (aC aV (ak 0) (mC (.int 1))) (mC (.int 48271))) (mC (.int 20011))) (mC (.int 2147483399))) (rH (ak 0) (mC (.int 1)))) <|
 aW (aC lJ (aC yh (aC lJ (aC gM (aC aV (ak 0) (mC (.int 1))) (aC aV (ak 0) (mC (.int 1)))) (mC (.int 2147483323))) (mC (.int 13))) (ak 1))
def eU : FX := aX T9.length Tc
abbrev BV : List Str := ["_law_rng_here", "_law_many", "_law_letters", "_law_found", "_law_k", "_law_size", "_law_name", "_law_turn", "_law_letter"]
abbrev BW : List Str := ["_law_rng_here", "_law_many"]
def G9 : SX := aH (bU 2 (mC (.str "abcdefghijklmnopqrstuvwxyz"))) <|
 aH (qP 3 (cH (ao))) <|
 aH (j6 (jc oJ (aj (ak 1) (ao))) (aM 4) (aH (bU 5 (aC aV (cH (aj (mC (.int 1)) (aj (mC (.int 1)) (aj (mC (.int 2)) (aj (mC (.int 8)) (ao)))))) (aK eU [0, 1] (aj (ak 0) (aj (mC (.int 4)) (ao))) (ao)))) <|
 aH (bU 6 (yD yE (mC (.str "")) (aj (cZ (jc oJ (aj (ak 5) (ao))) [7] (aM 7) (eX) (aC aV (ak 2) (aK eU [0, 1] (aj (ak 0) (aj (mC (.int 26)) (ao))) (ao)))) (ao)))) <|
 aH (cJ (aQ (aC bQ (aK eU [0, 1] (aj (ak 0) (aj (mC (.int 6)) (ao))) (ao)) (mC (.int 0)))) (bU 6 (aC aV (cH (aj (mC (.str "use")) (aj (mC (.str "end")) (aj (mC (.str "main")) (aj (mC (.str "limit")) (aj (mC (.str "both")) (aj (mC (.str "keep")) (aj (mC (.str "rest")) (aj (mC (.str "mem")) (ao)))))))))) (aK eU [0, 1] (aj (ak 0) (aj (mC (.int 8)) (ao))) (ao)))) (cY)) <|
 aH (cJ (iw (xR (aQ (aC eV (ak 6) (ak 3)))) (aQ (aC bQ (ak 6) (mC (.str "steps"))))) (bU 6 (tR (aC aV (cZ (dX (ak 2)) [8] (aM 8) (aQ (aC qb (aC bM (ak 8) (mC (.str "q"))) (ak 3))) (aC bM (ak 8) (mC (.str "q")))) (mC (.int 0))))) (cY)) <|
 fY 3 (ak 6))) <|
 xZ 3
def wG : FX := aX BV.length G9
abbrev Td : List Str := ["_law_rng_here"]
abbrev BZ : List Str := ["_law_rng_here"]
def Ge : SX := aW (aC bM (cH (aj (mC (.str "steps")) (ao))) (aK wG [0, 1] (aj (ak 0) (aj (aC bM (mC (.int 1)) (aK eU [0, 1] (aj (ak 0) (aj (mC (.int 3)) (ao))) (ao))) (ao))) (ao)))
def wH : FX := aX Td.length Ge
abbrev Tf : List Str := ["_law_rng_here", "_law_numbers"]
abbrev C3 : List Str := ["_law_rng_here"]
def Gf : SX := aH (bU 1 (cH (aj (aK eU [0, 1] (aj (ak 0) (aj (mC (.int 6)) (ao))) (ao)) (aj (aK eU [0, 1] (aj (ak 0) (aj (mC (.int 40)) (ao))) (ao)) (aj (aC bM (aC jF (mC (.int 10)) (mC (.int 18))) (aC gM (aK eU [0, 1] (aj (ak 0) (aj (mC (.int 9)) (ao))) (ao)) (aC jF (mC (.int 10)) (mC (.int 9))))) (ao)))))) <|
 aW (aC aV (ak 1) (aC aV (cH (aj (mC (.int 0)) (aj (mC (.int 0)) (aj (mC (.int 1)) (aj (mC (.int 2)) (ao)))))) (aK eU [0, 1] (aj (ak 0) (aj (mC (.int 4)) (ao))) (ao))))
def wI : FX := aX Tf.length Gf
abbrev Tg : List Str := ["_law_rng_here", "_law_funds_here", "_law_word", "_law_fund", "_law_number_here"]
abbrev C4 : List Str := ["_law_rng_here", "_law_funds_here"]
def Gg : SX := aH (bU 2 (aC aV (cH (aj (mC (.str "step")) (aj (mC (.str "use")) (aj (mC (.str "back")) (aj (mC (.str "give")) (aj (mC (.str "out")) (aj (mC (.str "put")) (aj (mC (.str "caught")) (aj (mC (.str "use")) (ao)))))))))) (aK eU [0, 1] (aj (ak 0) (aj (mC (.int 8)) (ao))) (ao)))) <|
 aH (yN 3 4 (aj (aC aV (ak 1) (aK eU [0, 1] (aj (ak 0) (aj (aO eY (aj (ak 1) (ao))) (ao))) (ao))) (aj (aK wI [0] (aj (ak 0) (ao)) (ao)) (ao)))) <|
 aH (cJ (aQ (aC bQ (ak 2) (mC (.str "step")))) (aW (aR (aj (ak 2) (ao)))) (cY)) <|
 aH (cJ (aQ (aC bQ (ak 2) (mC (.str "caught")))) (aW (aR (aj (ak 2) (aj (ak 3) (ao))))) (cY)) <|
 aH (cJ (aQ (aC eV (ak 2) (aR (aj (mC (.str "out")) (aj (mC (.str "put")) (ao)))))) (aW (aR (aj (ak 2) (aj (gH (aQ (aC mW (ak 4) (aC jF (mC (.int 10)) (mC (.int 18))))) (aC aV (cH (aj (aC jY (ak 4) (mC (.int 20))) (aj (aC jF (mC (.int 10)) (mC (.int 18))) (aj (dU jZ (aC jF (mC (.int 10)) (mC (.int 18)))) (ao))))) (aK eU [0, 1] (aj (ak 0) (aj (mC (.int 3)) (ao))) (ao))) (aC jF (mC (.int 10)) (mC (.int 18)))) (ao))))) (cY)) <|
 aH (cJ (aQ (aC bQ (ak 2) (mC (.str "give")))) (aW (aR (aj (ak 2) (aj (ak 3) (aj (aC aV (cH (aj (aC bM (ak 4) (mC (.int 1))) (aj (aC jY (dU jZ (mC (.int 1))) (ak 4)) (ao)))) (aK eU [0, 1] (aj (ak 0) (aj (mC (.int 2)) (ao))) (ao))) (ao)))))) (cY)) <|
 aW (aR (aj (ak 2) (aj (ak 3) (aj (ak 4) (ao)))))
def wJ : FX := aX Tg.length Gg
abbrev Gh : List Str := ["_law_rng_here", "_law_funds_here", "_law_most", "_law_turn"]
abbrev C5 : List Str := ["_law_rng_here", "_law_funds_here", "_law_most"]
def Gi : SX := aW (cZ (jc oJ (aj (aK eU [0, 1] (aj (ak 0) (aj (aC bM (ak 2) (mC (.int 1))) (ao))) (ao)) (ao))) [3] (aM 3) (eX) (aK wJ [0, 1] (aj (ak 0) (aj (ak 1) (ao))) (ao)))
def wL : FX := aX Gh.length Gi
abbrev Tj : List Str := ["_law_call", "_law_told", "e"]
abbrev a0q : List Str := ["_law_call"]
def je : (Store → R D) → Store → R D := zp Tj.length 1 (cH (aj (mC (.str "none")) (ao))) [(fun y => BP.lookup y, some 2, bU 1 (cH (aj (mC (.str "row")) (aj (Bl sH 2 "value") (aj (gJ (wg sH xT xU 2 (mC (.fn "ExactStopError"))) (ou (wg sH xT xU 2 (aR (aj (mC (.fn "InvalidAmount")) (aj (mC (.fn "InvalidText")) (ao))))))) (ao)))))), (fun y => BO.lookup y, some 2, bU 1 (cH (aj (mC (.str "amount")) (aj (Bl sH 2 "value") (aj (gJ (wg sH xT xU 2 (mC (.fn "ExactStopError"))) (ou (wg sH xT xU 2 (aR (aj (mC (.fn "InvalidRow")) (aj (mC (.fn "InvalidText")) (ao))))))) (ao))))))] (aW (aO d9 (aj (ak 1) (ao))))
abbrev Gj : List Str := ["value", "letter"]
abbrev C6 : List Str := ["value"]
def Gk : SX := aH (cJ (iw (gG (gD (aO i6 (aj (ak 0) (aj (mC (.ty "str")) (ao)))))) (gG (aQ (oA lK lK (mC (.int 1)) (aO eY (aj (ak 0) (ao))) (mC (.int 8)))))) (aW (mC (.bl false))) (cY)) <|
 aW (aO lM (aj (cZ (dX (ak 0)) [1] (aM 1) (eX) (aC eV (ak 1) (mC (.str "abcdefghijklmnopqrstuvwxyz")))) (ao)))
def qw : FX := aX Gj.length Gk
abbrev Tn : List Str := ["value"]
abbrev C7 : List Str := ["value"]
def To : SX := aW (gJ (aO i6 (aj (ak 0) (aj (mC (.ty "int")) (ao)))) (ou (aO i6 (aj (ak 0) (aj (mC (.ty "bool")) (ao))))))
def C9 : FX := aX Tn.length To
abbrev Cd : List Str := ["value"]
abbrev Ce : List Str := ["value"]
def v5 : SX := aW (gJ (aK C9 [0] (aj (ak 0) (ao)) (ao)) (oA lK lK (dU jZ (mC (.int 1000000000000000000))) (ak 0) (mC (.int 1000000000000000000))))
def oR : FX := aX Cd.length v5
abbrev Cg : List Str := ["sort", "value"]
abbrev Ci : List Str := ["sort", "value"]
def v7 : SX := aH (cJ (aQ (aC bQ (ak 0) (mC (.str "b")))) (aW (aK qw [0] (aj (ak 1) (ao)) (ao))) (cY)) <|
 aH (cJ (aQ (aC bQ (ak 0) (mC (.str "v")))) (aW (aK oR [0] (aj (ak 1) (ao)) (ao))) (cY)) <|
 aW (gJ (aK nM [0] (aj (ak 1) (ao)) (ao)) (gH (aQ (aC bQ (ak 0) (mC (.str "n")))) (aC vO (ak 1) (mC (.int 0))) (aC iQ (ak 1) (mC (.int 0)))))
def lU : FX := aX Cg.length v7
abbrev zB : List Str := ["value", "word", "parts", "sort", "part"]
abbrev zE : List Str := ["value"]
def v8 : SX := aH (cJ (iw (gG (gD (aO i6 (aj (ak 0) (aj (mC (.ty "tuple")) (ao)))))) (iw (aQ (aC bQ (ak 0) (aR (ao)))) (iw (gG (gD (aO i6 (aj (aC aV (ak 0) (mC (.int 0))) (aj (mC (.ty "str")) (ao)))))) (aQ (dU (uK fR) (aC aV (ak 0) (mC (.int 0)))))))) (aW (mC (.bl false))) (cY)) <|
 aH (fV (ak 0) (uL 1 (bf (aM 1) (bf (aM 2) (cV))))) <|
 aW (gJ (aC bQ (aO eY (aj (ak 2) (ao))) (aO eY (aj (dU (oK fR) (ak 1)) (ao)))) (aO lM (aj (cZ (jc uM (aj (dU (oK fR) (ak 1)) (aj (ak 2) (ao)))) [3, 4] (dW (bf (aM 3) (bf (aM 4) (cV)))) (eX) (aK lU [0, 1] (aj (ak 3) (aj (ak 4) (ao))) (ao))) (ao))))
def fP : FX := aX zB.length v8
abbrev Cj : List Str := ["rows", "row"]
abbrev sJ : List Str := ["rows"]
def oU : SX := z7 (ak 0) (j6 (yY (ak 0)) (aM 1) (cJ (gG (gD (aK fP [0] (aj (ak 1) (ao)) (ao)))) (rR "InvalidRow" BQ uZ (aj (ak 1) (ao))) (cY)))
def eG : FX := aX Cj.length oU
abbrev Tp : List Str := ["row", "budget", "found"]
abbrev wM : List Str := ["row", "budget"]
def Gm : SX := aH (bU 2 (gH (mQ (aQ (aC bQ (ak 1) (mC (.str "steps")))) (aQ (aC eV (aC aV (ak 0) (mC (.int 0))) (aR (aj (mC (.str "step")) (aj (mC (.str "use")) (aj (mC (.str "out")) (ao)))))))) (mC (.int 1)) (mC (.int 0)))) <|
 aH (cJ (mQ (aQ (aC bQ (aC aV (ak 0) (mC (.int 0))) (mC (.str "use")))) (aQ (aC bQ (aC aV (ak 0) (mC (.int 1))) (ak 1)))) (bU 2 (aC uJ (ak 2) (aC aV (ak 0) (mC (.int 2))))) (cJ (mQ (aQ (aC eV (aC aV (ak 0) (mC (.int 0))) (aR (aj (mC (.str "back")) (aj (mC (.str "give")) (ao)))))) (aQ (aC bQ (aC aV (ak 0) (mC (.int 1))) (ak 1)))) (bU 2 (aC jY (ak 2) (aC aV (ak 0) (mC (.int 2))))) (cY))) <|
 aW (ak 2)
def jK : FX := aX Tp.length Gm
abbrev Ck : List Str := ["rows", "budget", "row", "need", "net"]
abbrev wN : List Str := ["rows", "budget"]
def oV : SX := aH (iy (aK eG [0] (aj (ak 0) (ao)) (ao))) <|
 aH (fV (aR (aj (mC (.int 0)) (aj (mC (.int 0)) (ao)))) (dW (bf (aM 3) (bf (aM 4) (cV))))) <|
 aH (j6 (dX (ak 0)) (aM 2) (aH (bU 4 (aC uJ (ak 4) (aK jK [0, 1] (aj (ak 2) (aj (ak 1) (ao))) (ao)))) <|
 bU 3 (aO kh (aj (ak 3) (aj (ak 4) (ao)))))) <|
 aW (aR (aj (ak 3) (aj (ak 4) (ao))))
def gA : FX := aX Ck.length oV
abbrev Tq : List Str := ["row"]
abbrev Cm : List Str := ["row"]
def Gp : SX := aW (gH (mQ (aQ (aC eV (aC aV (ak 0) (mC (.int 0))) (aR (aj (mC (.str "use")) (aj (mC (.str "back")) (aj (mC (.str "give")) (ao))))))) (aQ (aC iQ (aC aV (ak 0) (mC (.int 1))) (mC (.str "steps"))))) (cH (aj (mC (.str "steps")) (aj (aC aV (ak 0) (mC (.int 1))) (ao)))) (cH (aj (mC (.str "steps")) (ao))))
def wO : FX := aX Tq.length Gp
abbrev Gr : List Str := ["rows", "amounts", "left", "index", "row", "budgets", "budget"]
abbrev zF : List Str := ["rows", "amounts"]
def Cp : SX := aH (iy (aK eG [0] (aj (ak 0) (ao)) (ao))) <|
 aH (bU 2 (pP (aO fDict (aj (ak 1) (ao))))) <|
 aH (j6 (jc yM (aj (ak 0) (ao))) (dW (bf (aM 3) (bf (aM 4) (cV)))) (aH (bU 5 (cZ (dX (aK wO [0] (aj (ak 4) (ao)) (ao))) [6] (aM 6) (aQ (aC uR (ak 6) (ak 2))) (ak 6))) <|
 aH (j6 (dX (ak 5)) (aM 6) (cJ (aQ (aC qZ (aK jK [0, 1] (aj (ak 4) (aj (ak 6) (ao))) (ao)) (aC uQ (ak 2) (ak 6)))) (aW (aR (aj (ak 3) (aj (ak 6) (ao))))) (cY))) <|
 j6 (dX (ak 5)) (aM 6) (yW jY (ak 2) (ak 6) (aK jK [0, 1] (aj (ak 4) (aj (ak 6) (ao))) (ao))))) <|
 aW (mC .non)
def jo : FX := aX Gr.length Cp
abbrev Cq : List Str := ["rows", "row"]
abbrev wQ : List Str := ["rows"]
def qC : SX := aH (iy (aK eG [0] (aj (ak 0) (ao)) (ao))) <|
 aW (cZ (dX (ak 0)) [1] (aM 1) (aQ (aC eV (aC aV (ak 1) (mC (.int 0))) (aR (aj (mC (.str "out")) (aj (mC (.str "put")) (ao)))))) (aC aV (ak 1) (mC (.int 1))))
def fQ : FX := aX Cq.length qC
abbrev Gu : List Str := ["rows", "row"]
abbrev zG : List Str := ["rows"]
def Gv : SX := aW (cZ (dX (ak 0)) [1] (aM 1) (aQ (aC iQ (aC aV (ak 1) (mC (.int 0))) (mC (.str "put")))) (gH (aQ (aC bQ (aC aV (ak 1) (mC (.int 0))) (mC (.str "out")))) (aR (aj (mC (.str "step")) (ao))) (ak 1)))
def lV : FX := aX Gu.length Gv
abbrev Cr : List Str := ["rows", "puts", "value"]
abbrev zH : List Str := ["rows"]
def wR : SX := aH (bU 1 (cZ (dX (aK fQ [0] (aj (ak 0) (ao)) (ao))) [2] (aM 2) (eX) (aR (aj (mC (.str "put")) (aj (ak 2) (ao)))))) <|
 aW (aC bM (aK lV [0] (aj (ak 0) (ao)) (ao)) (ak 1))
def jr : FX := aX Cr.length wR
abbrev wU : List Str := ["rows", "budgets", "nets", "row", "budget", "net"]
abbrev Cu : List Str := ["rows"]
def Cy : SX := aH (BE 1 2 (cZ (dX (ak 0)) [3] (aM 3) (mQ (aQ (aC eV (aC aV (ak 3) (mC (.int 0))) (aR (aj (mC (.str "use")) (aj (mC (.str "back")) (aj (mC (.str "give")) (ao))))))) (aQ (aC iQ (aC aV (ak 3) (mC (.int 1))) (mC (.str "steps"))))) (aC aV (ak 3) (mC (.int 1)))) [4] (aM 4) (eX) (aR (aj (ak 4) (aj (aC aV (aK gA [0, 1] (aj (ak 0) (aj (ak 4) (ao))) (ao)) (mC (.int 1))) (ao))))) <|
 aW (cZ (dX (ak 2)) [4, 5] (dW (bf (aM 4) (bf (aM 5) (cV)))) (aQ (aC iQ (ak 5) (mC (.int 0)))) (aR (aj (mC (.str "give")) (aj (ak 4) (aj (ak 5) (ao))))))
def wV : FX := aX wU.length Cy
abbrev Gx : List Str := ["rows", "budget", "kind", "given"]
abbrev zJ : List Str := ["rows", "budget", "kind"]
def wW : SX := aH (iy (aK eG [0] (aj (ak 0) (ao)) (ao))) <|
 aH (bU 3 (gH (aQ (aC bQ (ak 2) (mC (.str "restore")))) (aK wV [0] (aj (ak 0) (ao)) (ao)) (cH (ao)))) <|
 aW (aC bM (aC bM (aK lV [0] (aj (ak 0) (ao)) (ao)) (cH (aj (aR (aj (mC (.str "caught")) (aj (ak 1) (ao)))) (ao)))) (ak 3))
def jt : FX := aX Gx.length wW
abbrev Tt : List Str := ["_law_rng_here", "_law_entries", "_law_funds_here", "_law_odd", "_law_at", "_law_told", "_law_wrong", "_law_spoilt", "_law_shown", "_law_fund"]
abbrev Cz : List Str := ["_law_rng_here", "_law_entries", "_law_funds_here"]
def Gy : SX := aW (gJ (tR (aC bQ (ak 5) (aC lN (cH (aj (aO d9 (aj (cH (aj (mC (.str "row")) (aj (ak 6) (aj (mC (.bl true)) (ao))))) (ao))) (ao))) (mC (.int 6))))) (aC bQ (aO d9 (aj (ak 7) (ao))) (ak 8)))
def Gz : SX := aH (fY 5 (kI 0 "_law_refusals_right" (jk "_law_refusals_right") je (aK jt [0, 1, 2] (aj (ak 7) (aj (ak 9) (aj (mC (.str "keep")) (ao)))) (ao)))) <|
 aH (fY 5 (kI 0 "_law_refusals_right" (jk "_law_refusals_right") je (aK jt [0, 1, 2] (aj (ak 7) (aj (ak 9) (aj (mC (.str "restore")) (ao)))) (ao)))) <|
 Gy
def GA : SX := aH (fY 5 (kI 0 "_law_refusals_right" (jk "_law_refusals_right") je (aK fQ [0] (aj (ak 7) (ao)) (ao)))) <|
 aH (fY 5 (kI 0 "_law_refusals_right" (jk "_law_refusals_right") je (aK jr [0] (aj (aO fTuple (aj (ak 7) (ao))) (ao)) (ao)))) <|
 Gz
def GB : SX := aH (qP 5 (cH (aj (kI 0 "_law_refusals_right" (jk "_law_refusals_right") je (aK gA [0, 1] (aj (ak 7) (aj (ak 9) (ao))) (ao))) (ao)))) <|
 aH (fY 5 (kI 0 "_law_refusals_right" (jk "_law_refusals_right") je (aK jo [0, 1] (aj (ak 7) (aj (E8 (yF [((ak 9), (mC (.int 0)))])) (ao))) (ao)))) <|
 GA
def GD : SX := aH (fV (aR (aj (aO d9 (aj (ak 7) (ao))) (aj (aC aV (ak 2) (aK eU [0, 1] (aj (ak 0) (aj (aO eY (aj (ak 2) (ao))) (ao))) (ao))) (ao)))) (dW (bf (aM 8) (bf (aM 9) (cV))))) <|
 GB
def GF : SX := aH (iy (wA "list" wF (ak 7) (aj (ak 4) (aj (ak 6) (ao))))) <|
 aH (vL 3 (iy (wA "list" wF (ak 7) (aj (aC bM (aC bM (ak 4) (mC (.int 1))) (aK eU [0, 1] (aj (ak 0) (aj (aC jY (aO eY (aj (ak 7) (ao))) (ak 4)) (ao))) (ao))) (aj (aC aV (ak 3) (aK eU [0, 1] (aj (ak 0) (aj (mC (.int 12)) (ao))) (ao))) (ao)))))) <|
 GD
def Tv : SX := aH (bU 4 (aK eU [0, 1] (aj (ak 0) (aj (aC bM (aO eY (aj (ak 1) (ao))) (mC (.int 1))) (ao))) (ao))) <|
 GF
def Tw : SX := aH (vL 3 (fV (aR (aj (aC aV (ak 3) (aK eU [0, 1] (aj (ak 0) (aj (mC (.int 12)) (ao))) (ao))) (aj (pP (aO AW (aj (ak 1) (ao)))) (ao)))) (dW (bf (aM 6) (bf (aM 7) (cV)))))) <|
 Tv
def GH : SX := aH (qP 3 (cH (aj (mC .non) (aj (mC (.int 0)) (aj (mC (.str "")) (aj (mC (.str "step")) (aj (cH (ao)) (aj (AU) (aj (aR (ao)) (aj (cH (aj (mC (.str "step")) (ao))) (aj (aR (aj (mC (.str "use")) (aj (mC (.str "mem")) (aj (dU jZ (mC (.int 1))) (ao))))) (aj (aR (aj (mC (.str "out")) (aj (mC (.bl true)) (ao)))) (aj (aR (aj (mC (.str "give")) (aj (mC (.str "mem")) (aj (mC (.int 0)) (ao))))) (ao)))))))))))))) <|
 aH (fY 3 (aR (aj (mC (.str "step")) (aj (mC (.int 1)) (ao))))) <|
 Tw
def wX : FX := aX Tt.length GH
abbrev Tz : List Str := ["row", "budget"]
abbrev CA : List Str := ["row", "budget"]
def GJ : SX := aH (iy (aK eG [0] (aj (cH (aj (ak 0) (ao))) (ao)) (ao))) <|
 aW (aK jK [0, 1] (aj (ak 0) (aj (ak 1) (ao))) (ao))
def nO : FX := aX Tz.length GJ
abbrev TF : List Str := ["summary", "other", "need", "net"]
abbrev CB : List Str := ["summary", "other"]
def m_join : SX := aH (fV (ak 0) (dW (bf (aM 2) (bf (aM 3) (cV))))) <|
 aW (aR (aj (aO kh (aj (ak 2) (aj (aC bM (ak 3) (aC aV (ak 1) (mC (.int 0)))) (ao)))) (aj (aC bM (ak 3) (aC aV (ak 1) (mC (.int 1)))) (ao))))
def oW : FX := aX TF.length m_join
abbrev TH : List Str := ["summary", "amount"]
abbrev CF : List Str := ["summary", "amount"]
def GO : SX := aW (aC lK (aC aV (ak 0) (mC (.int 0))) (ak 1))
def nQ : FX := aX TH.length GO
abbrev v9 : List Str := ["_law_rng_here", "_law_entries", "_law_funds_here", "_law_one", "_law_pairs", "_law_fund", "_law_start", "_law_told", "_law_due", "_law_entry"]
abbrev CG : List Str := ["_law_rng_here", "_law_entries", "_law_funds_here"]
def GP : SX := aW (tR (aO lM (aj (cZ (dX (ak 4)) [7, 8] (dW (bf (aM 7) (bf (aM 8) (cV)))) (eX) (aC bQ (aO d9 (aj (ak 7) (ao))) (aO d9 (aj (ak 8) (ao))))) (ao))))
def TJ : SX := aH (fY 4 (aR (aj (cZ (dX (ak 1)) [9] (aM 9) (eX) (aK nO [1, 0] (ao) (aj (ak 5) (aj (ak 9) (ao))))) (aj (cZ (dX (ak 1)) [9] (aM 9) (eX) (aK nO [0, 1] (aj (ak 9) (aj (ak 5) (ao))) (ao))) (ao))))) <|
 GP
def TN : SX := aH (fY 4 (aR (aj (aK jt [2, 1, 0] (ao) (aj (mC (.str "keep")) (aj (ak 5) (aj (ak 1) (ao))))) (aj (aK jt [0, 1, 2] (aj (ak 1) (aj (ak 5) (aj (mC (.str "keep")) (ao)))) (ao)) (ao))))) <|
 TJ
def TQ : SX := aH (fY 4 (aR (aj (cZ (dX (ak 1)) [9] (aM 9) (eX) (aK fP [0] (ao) (aj (ak 9) (ao)))) (aj (aC lN (cH (aj (mC (.bl true)) (ao))) (aO eY (aj (ak 1) (ao)))) (ao))))) <|
 TN
def TR : SX := aH (fY 4 (aR (aj (aK jr [0] (ao) (aj (ak 1) (ao))) (aj (aK jr [0] (aj (ak 1) (ao)) (ao)) (ao))))) <|
 TQ
def TU : SX := aH (fY 4 (aR (aj (aK fQ [0] (ao) (aj (ak 1) (ao))) (aj (aK fQ [0] (aj (ak 1) (ao)) (ao)) (ao))))) <|
 TR
def TV : SX := aH (fY 4 (aR (aj (aK jo [1, 0] (ao) (aj (ak 6) (aj (ak 1) (ao)))) (aj (aK jo [0, 1] (aj (ak 1) (aj (ak 6) (ao))) (ao)) (ao))))) <|
 TU
def TX : SX := aH (fY 4 (aR (aj (aK nQ [1, 0] (ao) (aj (mC (.int 5)) (aj (ak 3) (ao)))) (aj (aK nQ [0, 1] (aj (ak 3) (aj (mC (.int 5)) (ao))) (ao)) (ao))))) <|
 TV
def TY : SX := aH (fY 4 (aR (aj (aK jm [1, 0] (ao) (aj (mC (.int 3)) (aj (ak 3) (ao)))) (aj (aK jm [0, 1] (aj (ak 3) (aj (mC (.int 3)) (ao))) (ao)) (ao))))) <|
 TX
def U0 : SX := aH (qP 4 (cH (aj (aR (aj (aK gA [1, 0] (ao) (aj (ak 5) (aj (ak 1) (ao)))) (aj (ak 3) (ao)))) (aj (aR (aj (aK oW [1, 0] (ao) (aj (aR (aj (mC (.int 4)) (aj (dU jZ (mC (.int 1))) (ao)))) (aj (ak 3) (ao)))) (aj (aK oW [0, 1] (aj (ak 3) (aj (aR (aj (mC (.int 4)) (aj (dU jZ (mC (.int 1))) (ao)))) (ao))) (ao)) (ao)))) (ao))))) <|
 TY
def GU : SX := aH (bU 3 (aK gA [0, 1] (aj (ak 1) (aj (ak 5) (ao))) (ao))) <|
 U0
def GV : SX := aH (fV (aR (aj (aC aV (ak 2) (aK eU [0, 1] (aj (ak 0) (aj (aO eY (aj (ak 2) (ao))) (ao))) (ao))) (aj (aO za (aj (cZ (dX (ak 2)) [3] (aM 3) (eX) (aR (aj (ak 3) (aj (mC (.int 3)) (ao))))) (ao))) (ao)))) (dW (bf (aM 5) (bf (aM 6) (cV))))) <|
 GU
def wY : FX := aX v9.length GV
abbrev U5 : List Str := ["_law_script", "_law_k", "_law_rng_here", "_law_funds_here", "_law_turn", "_law_entries", "_law_many"]
abbrev CH : List Str := ["_law_script"]
def GW : SX := aH (j6 (jc oJ (aj (aO kh (aj (mC (.int 1)) (aj (aO AJ (aj (mC (.int 4)) (aj (aO eY (aj (ak 0) (ao))) (ao)))) (ao)))) (ao))) (aM 1) (aH (bU 2 (aK BU [0, 1] (aj (ak 0) (aj (ak 1) (ao))) (ao))) <|
 aH (bU 3 (aK wH [0] (aj (ak 2) (ao)) (ao))) <|
 j6 (jc oJ (aj (mC (.int 3)) (ao))) (aM 4) (aH (bU 5 (aK wL [0, 1, 2] (aj (ak 2) (aj (ak 3) (aj (mC (.int 8)) (ao)))) (ao))) <|
 aH (cJ (iw (gG (gD (aK wX [0, 1, 2] (aj (ak 2) (aj (ak 5) (aj (ak 3) (ao)))) (ao)))) (gG (gD (aK wY [0, 1, 2] (aj (ak 2) (aj (ak 5) (aj (ak 3) (ao)))) (ao))))) (aW (mC (.bl false))) (cY)) <|
 j6 (dX (cH (aj (dU jZ (mC (.int 1))) (aj (mC .non) (aj (mC (.bl true)) (aj (mC (.bl false)) (aj (mC (.str "1")) (aj (mC (.str "")) (aj (cH (ao)) (aj (aR (aj (mC (.int 2)) (ao))) (aj (AU) (aj (dU jZ (aC jF (mC (.int 10)) (mC (.int 20)))) (ao))))))))))))) (aM 6) (cJ (aQ (aC iQ (kI 1 "law" (jk "law") je (aK jm [0, 1] (aj (aR (aj (mC (.int 1)) (aj (mC (.int 1)) (ao)))) (aj (ak 6) (ao))) (ao))) (aO d9 (aj (cH (aj (mC (.str "amount")) (aj (ak 6) (aj (mC (.bl true)) (ao))))) (ao))))) (aW (mC (.bl false))) (cY))))) <|
 aW (mC (.bl true))
def sO : FX := aX U5.length GW
end bA
namespace Rc
open bA hiding top
open PySem PySem.Spec PyProof.Rows L2 Mi
abbrev a0r : List Str := ["value"]
def a0s : SX := aW (gJ (aO i6 (aj (ak 0) (aj (mC (.ty "int")) (ao)))) (ou (aO i6 (aj (ak 0) (aj (mC (.ty "bool")) (ao))))))
def U6 : FX := aX a0r.length a0s
def v5 : SX := aW (gJ (aK U6 [0] (aj (ak 0) (ao)) (ao)) (oA lK lK (dU jZ (mC (.int 1000000000000000000))) (ak 0) (mC (.int 1000000000000000000))))
def oR : FX := aX Cd.length v5
def v7 : SX := aH (cJ (aQ (aC bQ (ak 0) (mC (.str "b")))) (aW (aK qw [0] (aj (ak 1) (ao)) (ao))) (cY)) <|
 aH (cJ (aQ (aC bQ (ak 0) (mC (.str "v")))) (aW (aK oR [0] (aj (ak 1) (ao)) (ao))) (cY)) <|
 aW (gJ (aK nM [0] (aj (ak 1) (ao)) (ao)) (gH (aQ (aC bQ (ak 0) (mC (.str "n")))) (aC vO (ak 1) (mC (.int 0))) (aC iQ (ak 1) (mC (.int 0)))))
def lU : FX := aX Cg.length v7
def v8 : SX := aH (cJ (iw (gG (gD (aO i6 (aj (ak 0) (aj (mC (.ty "tuple")) (ao)))))) (iw (aQ (aC bQ (ak 0) (aR (ao)))) (iw (gG (gD (aO i6 (aj (aC aV (ak 0) (mC (.int 0))) (aj (mC (.ty "str")) (ao)))))) (aQ (dU (uK fR) (aC aV (ak 0) (mC (.int 0)))))))) (aW (mC (.bl false))) (cY)) <|
 aH (fV (ak 0) (uL 1 (bf (aM 1) (bf (aM 2) (cV))))) <|
 aW (gJ (aC bQ (aO eY (aj (ak 2) (ao))) (aO eY (aj (dU (oK fR) (ak 1)) (ao)))) (aO lM (aj (cZ (jc uM (aj (dU (oK fR) (ak 1)) (aj (ak 2) (ao)))) [3, 4] (dW (bf (aM 3) (bf (aM 4) (cV)))) (eX) (aK lU [0, 1] (aj (ak 3) (aj (ak 4) (ao))) (ao))) (ao))))
def fP : FX := aX zB.length v8
def oU : SX := j6 (dX (ak 0)) (aM 1) (cJ (gG (gD (aK fP [0] (aj (ak 1) (ao)) (ao)))) (Ew) (cY))
def eG : FX := aX Cj.length oU
def oV : SX := aH (iy (aK eG [0] (aj (ak 0) (ao)) (ao))) <|
 aH (fV (aR (aj (mC (.int 0)) (aj (mC (.int 0)) (ao)))) (dW (bf (aM 3) (bf (aM 4) (cV))))) <|
 aH (j6 (dX (ak 0)) (aM 2) (aH (bU 4 (aC uJ (ak 4) (aK jK [0, 1] (aj (ak 2) (aj (ak 1) (ao))) (ao)))) <|
 bU 3 (aO kh (aj (ak 3) (aj (ak 4) (ao)))))) <|
 aW (aR (aj (ak 3) (aj (ak 4) (ao))))
def gA : FX := aX Ck.length oV
def zA : SX := aH (cJ (iw (gG (gD (aK nM [0] (aj (ak 1) (ao)) (ao)))) (aQ (aC mW (ak 1) (mC (.int 0))))) (Ew) (cY)) <|
 aH (cJ (aQ (aC bQ (ak 1) (mC (.int 0)))) (aW (aR (aj (mC (.int 0)) (aj (mC (.int 0)) (ao))))) (cY)) <|
 aH (fV (ak 0) (dW (bf (aM 2) (bf (aM 3) (cV))))) <|
 aW (aR (aj (aC bM (ak 2) (aO kh (aj (mC (.int 0)) (aj (aC gM (aC jY (ak 1) (mC (.int 1))) (ak 3)) (ao))))) (aj (aC gM (ak 1) (ak 3)) (ao))))
def jm : FX := aX G8.length zA
end Rc
open PySem PySem.Spec PyProof.Rows L2 Mi
local macro_rules
 | `(tactic| simp!) => `(tactic| simp only [Og, w_var, Oh, Ez, Oi, Oj, Ol, Om, Oo, Oq, w_call, Ou, Ov, w_and, w_or, w_not, Ow, Ox, Oz, OA, w_band, w_bor, OB, OC, OD, OG, OH, OI, OJ, OL, OM, EA, OO, OQ, OS, OT, OU, OV, OW, EB, OY, OZ, Pa, Pb, Pg, Ph, PU, Pj, lent, uO, B7, Q5, Q6, Q7, Q8, Q9, Qa, Qc, Qe, EV, EW, Qg, Qh, Qi, EY, Ql, Qm, Qo, Qp, Qq, Qs, Qt, Qu, Qv, Qw, Qx, Qy, Qz, QA, QC, QD, List.getElem?_cons_zero, List.getElem?_cons_succ, List.set_cons_zero, List.set_cons_succ, List.map_cons, List.map_nil, List.length_cons, List.length_nil, List.replicate, List.cons_append, List.nil_append, List.append_nil, Nat.reduceSub, Nat.reduceAdd, Nat.sub_self, Nat.zero_add, sizeLine_eq, Nat.reduceLeDiff, pick, List.filterMap_cons, List.filterMap_nil, Option.some.injEq, exists_eq_left', exists_eq_left, exists_const, true_and, and_true, Bool.not_true, Bool.not_false, if_true, if_false, reduceIte, Bool.false_eq_true, eq_self, D.int.injEq])
 | `(tactic| simp! [$ts,*]) => `(tactic| simp only [Og, w_var, Oh, Ez, Oi, Oj, Ol, Om, Oo, Oq, w_call, Ou, Ov, w_and, w_or, w_not, Ow, Ox, Oz, OA, w_band, w_bor, OB, OC, OD, OG, OH, OI, OJ, OL, OM, EA, OO, OQ, OS, OT, OU, OV, OW, EB, OY, OZ, Pa, Pb, Pg, Ph, PU, Pj, lent, uO, B7, Q5, Q6, Q7, Q8, Q9, Qa, Qc, Qe, EV, EW, Qg, Qh, Qi, EY, Ql, Qm, Qo, Qp, Qq, Qs, Qt, Qu, Qv, Qw, Qx, Qy, Qz, QA, QC, QD, List.getElem?_cons_zero, List.getElem?_cons_succ, List.set_cons_zero, List.set_cons_succ, List.map_cons, List.map_nil, List.length_cons, List.length_nil, List.replicate, List.cons_append, List.nil_append, List.append_nil, Nat.reduceSub, Nat.reduceAdd, Nat.sub_self, Nat.zero_add, sizeLine_eq, Nat.reduceLeDiff, pick, List.filterMap_cons, List.filterMap_nil, Option.some.injEq, exists_eq_left', exists_eq_left, exists_const, true_and, and_true, Bool.not_true, Bool.not_false, if_true, if_false, reduceIte, Bool.false_eq_true, eq_self, D.int.injEq, $ts,*])
namespace Rc
open bA hiding top
open PySem PySem.Spec PyProof.Rows L2 Mi
section
variable {S0 S : Store} {n : Nat} {Q : D → Store → Prop} {E : bT → Store → Prop}
theorem lW {xs : List D} {i : Int} {P : D → Prop} (h0 : 0 ≤ i) (h1 : i < xs.length) (h : ∀ x ∈ xs, P x) : ∃ z, atI xs i = some z ∧ P z := by
 have hi : i.toNat < xs.length := by omega
 refine ⟨xs[i.toNat], ?_, h _ (List.getElem_mem hi)⟩
 unfold atI ixN
 rw [if_pos h0, if_pos h1]
 exact List.getElem?_eq_getElem hi
theorem U7 : jF S (.int 10) (.int 18) = some (.int (10 ^ 18)) := rfl
theorem p9 : jF S (.int 10) (.int 9) = some (.int (10 ^ 9)) := rfl
theorem a0t (h : RS S0 n S) (q : ∀ i S', 0 ≤ i → i ≤ 10 ^ 18 + 8 * 10 ^ 9 → RS S0 n S' → Q (.int i) S') : (wI [.ref n] S).al Q E := by
 unfold wI Gf
 simp! [U7, p9, sizeLine_eq]
 refine jJ h (by decide) (by decide) fun a S1 a0 a1 h1 => ?_
 refine jJ h1 (by decide) (by decide) fun b S2 b0 b1 h2 => ?_
 refine jJ h2 (by decide) (by decide) fun c S3 c0 c1 h3 => ?_
 have k1 : iH c (10 ^ 9) = true := by unfold iH; simp
 simp! [ER k1]
 refine jJ h3 (by decide) (by decide) fun d S4 d0 d1 h4 => ?_
 simp!
 refine lW d0 (by simpa using d1) fun x hx => ?_
 simp only [List.mem_cons, List.not_mem_nil, or_false] at hx
 have key : ∀ i : Int, 0 ≤ i → i < 3 → ∃ z, atI [D.int a, D.int b, D.int (10 ^ 18 + c * 10 ^ 9)] i = some z ∧ Q z S4 := fun i i0 i1 =>
  lW i0 (by simpa using i1) fun y hy => by
   simp only [List.mem_cons, List.not_mem_nil, or_false] at hy
   rcases hy with rfl | rfl | rfl
   ·exact q _ _ a0 (by omega) h4
   ·exact q _ _ b0 (by omega) h4
   ·exact q _ _ (by omega) (by omega) h4
 rcases hx with rfl | rfl | rfl | rfl
 ·exact key 0 (by decide) (by decide)
 ·exact key 0 (by decide) (by decide)
 ·exact key 1 (by decide) (by decide)
 ·exact key 2 (by decide) (by decide)
end
end Rc
namespace Rc
open bA hiding top
open PySem PySem.Spec PyProof.Rows L2 Mi
def letters : Str := "abcdefghijklmnopqrstuvwxyz"
def cW (z : Str) : Prop := 1 ≤ z.length ∧ z.length ≤ 8 ∧ ∀ c ∈ z.cps.toList, c ∈ letters.cps.toList
theorem a0u : ∀ c ∈ letters.cps.toList, c < 0x110000 := by decide +kernel
theorem cW.chars {z : Str} (h : cW z) : ∀ c ∈ z.cps.toList, c < 0x110000 := fun c hc => a0u c (h.2.2 c hc)
theorem U8 : letters.length = 26 := by decide +kernel
theorem join_one : ∀ zs : List Str, (∀ z ∈ zs, ∃ c, z = ⟨#[c]⟩ ∧ c ∈ letters.cps.toList) → (Str.join "" zs).length = zs.length ∧ (∀ c ∈ (Str.join "" zs).cps.toList, c ∈ letters.cps.toList) ∧ (zs.map (·.length)).sum = zs.length
 | [], _ => ⟨rfl, nofun, rfl⟩
 | [z], h => by
  obtain ⟨c, rfl, hc⟩ := h z List.mem_cons_self
  refine ⟨rfl, fun x hx => ?_, rfl⟩
  have : x ∈ [c] := hx
  rw [List.mem_singleton.mp this]; exact hc
 | z :: y :: r, h => by
  obtain ⟨c, rfl, hc⟩ := h z List.mem_cons_self
  obtain ⟨h1, h2, h3⟩ := join_one (y :: r) fun x hx => h x (List.mem_cons_of_mem _ hx)
  have e : Str.join "" ((⟨#[c]⟩ : Str) :: y :: r) = ⟨#[c]⟩ ++ "" ++ Str.join "" (y :: r) := rfl
  rw [e]
  refine ⟨?_, fun x hx => ?_, ?_⟩
  ·rw [strLen_append, strLen_append, h1]
   show 1 + 0 + _ = _
   simp only [List.length_cons]; omega
  ·have hx' : x ∈ ((#[c] ++ ("" : Str).cps) ++ (Str.join "" (y :: r)).cps).toList := hx
   rw [Array.toList_append, Array.toList_append] at hx'
   rcases List.mem_append.mp hx' with q | q
   ·rcases List.mem_append.mp q with q | q
    ·have : x ∈ [c] := q
     rw [List.mem_singleton.mp this]; exact hc
    ·have e0 : ("" : Str).cps.toList = [] := by decide +kernel
     rw [e0] at q; cases q
   ·exact h2 x q
  ·rw [List.map_cons, List.sum_cons, h3]
   show 1 + _ = _
   simp only [List.length_cons]; omega
theorem U9 : ∀ zs : List Str, strsOf (zs.map D.str) = some zs
 | [] => rfl
 | z :: r => by simp only [List.map_cons, strsOf, U9 r]
theorem a0v {S : Store} {zs : List Str} (h : (zs.map (·.length)).sum ≤ 10000) (hl : zs.length ≤ 10000) : yE S (.str "") [.lst (zs.map D.str)] = some (.str (Str.join "" zs)) := by
 unfold yE
 simp only [bL, U9]
 rw [if_pos (by show _ + zs.length * 0 ≤ _; omega), TL.join_eq]
theorem GZ [BEq α] [LawfulBEq α] : ∀ {l m : List α}, l.Nodup → (∀ x ∈ l, x ∈ m) → l.length ≤ m.length
 | [], _, _, _ => Nat.zero_le _
 | a :: l, m, h, s => by
  have ha := s a List.mem_cons_self
  have h2 := GZ (l := l) (m := m.erase a) (List.nodup_cons.mp h).2 fun x hx => by
   have : x ≠ a := fun e => (List.nodup_cons.mp h).1 (e ▸ hx)
   exact (List.mem_erase_of_ne this).mpr (s x (List.mem_cons_of_mem _ hx))
  have h3 := List.length_erase_of_mem ha
  have h4 : 0 < m.length := List.length_pos_of_mem ha
  simp only [List.length_cons]
  omega
def qs : List Str := letters.cps.toList.map fun c => (⟨#[c]⟩ : Str) ++ "q"
theorem a0w : qs.Nodup := by decide +kernel
theorem a0x : qs.length = 26 := by decide +kernel
theorem a0y : ∀ z ∈ qs, z.length = 2 ∧ (∀ c ∈ z.cps.toList, c ∈ letters.cps.toList) ∧ z ≠ "steps" := by decide +kernel
theorem zK {z : Str} (h : z ∈ qs) : cW z ∧ z ≠ "steps" := by
 obtain ⟨h1, h2, h3⟩ := a0y z h
 exact ⟨⟨by omega, by omega, h2⟩, h3⟩
section
variable {S0 S : Store} {n : Nat} {Q : D → Store → Prop} {E : bT → Store → Prop}
/-- the first of the names aq, bq, .. cA is not among zs -/
theorem a0z {zs : List Str} (h : zs.length < 26) : ∃ z, (qs.filter fun x => !zs.any (· == x))[0]? = some z ∧ z ∈ qs ∧ z ∉ zs := by
 cases e : qs.filter fun x => !zs.any (· == x) with
 | nil =>
  exfalso
  have := GZ a0w (m := zs) fun x hx => by
   have := List.filter_eq_nil_iff.mp e x hx
   simp only [Bool.not_eq_true', Bool.not_eq_false, List.any_eq_true, beq_iff_eq] at this
   obtain ⟨y, hy, rfl⟩ := this
   exact hy
  rw [a0x] at this
  omega
 | cons z r =>
  have m : z ∈ qs.filter fun x => !zs.any (· == x) := by rw [e]; exact List.mem_cons_self
  obtain ⟨m1, m2⟩ := List.mem_filter.mp m
  refine ⟨z, rfl, m1, fun hz => ?_⟩
  have : zs.any (· == z) = true := List.any_eq_true.mpr ⟨z, hz, by simp⟩
  rw [this] at m2
  cases m2
theorem a0A {zs : List Str} {x : Str} : zs.any (· == x) = true ↔ x ∈ zs := by
 rw [List.any_eq_true]
 exact ⟨fun ⟨y, hy, e⟩ => by rw [beq_iff_eq] at e; exact e ▸ hy, fun h => ⟨x, h, by simp⟩⟩
def Hf : List Str := ["use", "end", "main", "limit", "both", "keep", "rest", "mem"]
theorem a0B : ∀ z ∈ Hf, 1 ≤ z.length ∧ z.length ≤ 8 ∧ (∀ c ∈ z.cps.toList, c ∈ letters.cps.toList) := by decide +kernel
theorem Hg {m : Int} (h : RS S0 n S) (h0 : 0 ≤ m) (h1 : m ≤ 20) (q : ∀ (zs : List Str) S', zs.length = m.toNat → (∀ z ∈ zs, cW z ∧ z ≠ "steps") → zs.Nodup → RS S0 n S' → Q (.lst (zs.map D.str)) S') : (wG [.ref n, .int m] S).al Q E := by
 unfold wG G9
 simp! [yQ (show 0 ≤ m ∧ m < 2 ^ 62 by omega)]
 refine nu (fun i ρ S => ∃ zs : List Str, ∃ a b c, zs.length = i ∧ (∀ z ∈ zs, cW z ∧ z ≠ "steps") ∧ zs.Nodup ∧ RS S0 n S ∧ ρ = [.sh (.ref n), .sh (.int m), .sh (.str letters), .ow (.lst (zs.map D.str)), a, b, c, .un, .un])
  ⟨[], _, _, _, rfl, nofun, List.nodup_nil, h, rfl⟩ ?_ ?_
 ·rintro i d ρ S1 hd ⟨zs, a, b, c, hl, hz, hn, hS, rfl⟩
  obtain ⟨rfl, hi⟩ := yR hd
  refine ⟨_, rfl, ?_⟩
  -- the size
  refine Bb (fun ρ' S' => RS S0 n S' ∧ ∃ k : Int, 1 ≤ k ∧ k ≤ 8 ∧ ρ' = [.sh (.ref n), .sh (.int m), .sh (.str letters), .ow (.lst (zs.map D.str)), .sh (.int i), .sh (.int k), c, .un, .un]) ?_ ?_
  ·simp!
   refine jJ hS (by decide) (by decide) fun d S2 d0 d1 h2 => ?_
   simp!
   refine lW d0 (by simpa using d1) fun x hx => ?_
   simp only [List.mem_cons, List.not_mem_nil, or_false] at hx
   rcases hx with rfl | rfl | rfl | rfl <;> exact ⟨h2, _, by decide, by decide, rfl⟩
  rintro _ S2 ⟨h2, k, k0, k1, rfl⟩
  -- the letters
  refine Bb (fun ρ' S' => RS S0 n S' ∧ ∃ z, cW z ∧ ρ' = [.sh (.ref n), .sh (.int m), .sh (.str letters), .ow (.lst (zs.map D.str)), .sh (.int i), .sh (.int k), .sh (.str z), .un, .un]) ?_ ?_
  ·simp! [Yd, isStr, yQ (show 0 ≤ k ∧ k < 2 ^ 62 by omega), bO]
   refine Pk (fun j acc S => RS S0 n S ∧ ∃ cs : List Str, acc = cs.map D.str ∧ cs.length = j ∧ ∀ z ∈ cs, ∃ c, z = ⟨#[c]⟩ ∧ c ∈ letters.cps.toList) ⟨h2, [], rfl, rfl, nofun⟩ ?_ ?_
   ·rintro j d acc S3 hd ⟨h3, cs, rfl, hj, hc⟩
    obtain ⟨rfl, hj2⟩ := yR hd
    refine ⟨_, rfl, ?_⟩
    simp!
    refine jJ h3 (by decide) (by decide) fun d S4 d0 d1 h4 => ?_
    simp! [Yr (show letters.length ≤ sizeLine by rw [U8, sizeLine_eq]; decide)]
    have hi : d.toNat < letters.cps.toList.length := by have := U8; unfold Str.length at this; rw [Array.length_toList, this]; omega
    have hat : atI letters.cps.toList d = some letters.cps.toList[d.toNat] := by
     unfold atI ixN
     rw [if_pos d0, if_pos (by omega)]
     exact List.getElem?_eq_getElem hi
    rw [hat]
    refine ⟨_, rfl, by rw [List.length_map]; omega, h4, cs ++ [⟨#[letters.cps.toList[d.toNat]]⟩], by rw [List.map_append]; rfl, by simp [hj], fun z hz => ?_⟩
    rcases List.mem_append.mp hz with hz | hz
    ·exact hc z hz
    ·rw [List.mem_singleton.mp hz]; exact ⟨_, rfl, List.getElem_mem hi⟩
   ·rintro ys S3 ⟨h3, cs, rfl, hj, hc⟩
    obtain ⟨j1, j2, j3⟩ := join_one cs hc
    rw [Bh] at hj
    rw [a0v (by omega) (by omega)]
    exact ⟨_, rfl, h3, _, ⟨by omega, by omega, j2⟩, rfl⟩
  rintro _ S3 ⟨h3, z, hz1, rfl⟩
  -- a90 a word
  refine Bb (fun ρ' S' => RS S0 n S' ∧ ∃ z, cW z ∧ ρ' = [.sh (.ref n), .sh (.int m), .sh (.str letters), .ow (.lst (zs.map D.str)), .sh (.int i), .sh (.int k), .sh (.str z), .un, .un]) ?_ ?_
  ·simp!
   refine jJ h3 (by decide) (by decide) fun d S4 d0 d1 h4 => ?_
   simp!
   split
   ·refine jJ h4 (by decide) (by decide) fun d S5 d0 d1 h5 => ?_
    simp!
    refine lW d0 (by simpa using d1) fun x hx => ?_
    obtain ⟨w, hw, rfl⟩ : ∃ w ∈ Hf, D.str w = x := List.mem_map.mp (show x ∈ Hf.map D.str from hx)
    exact ⟨h5, w, a0B w hw, rfl⟩
   ·exact ⟨h4, z, hz1, rfl⟩
  rintro _ S4 ⟨h4, z, hz1, rfl⟩
  have hzs : ∀ y ∈ zs, ∀ c ∈ y.cps.toList, c < 0x110000 := fun y hy => (hz y hy).1.chars
  -- a new one
  refine Bb (fun ρ' S' => RS S0 n S' ∧ ∃ z, cW z ∧ z ≠ "steps" ∧ z ∉ zs ∧ ρ' = [.sh (.ref n), .sh (.int m), .sh (.str letters), .ow (.lst (zs.map D.str)), .sh (.int i), .sh (.int k), .sh (.str z), .un, .un]) ?_ ?_
  ·have hcl : bG [8] (aM 8) (aQ (aC qb (aC bM (ak 8) (mC (.str "q"))) (ak 3))) (aC bM (ak 8) (mC (.str "q"))) [.sh (.ref n), .sh (.int m), .sh (.str letters), .sh (.lst (zs.map D.str)), .sh (.int i), .sh (.int k), .sh (.str z), .un, .un] (iD letters) [] S4 =
     .ok ((qs.filter fun x => !zs.any (· == x)).map D.str) S4 := by
    have hc := uI (vs := [8]) (g := aM 8) (t := aQ (aC qb (aC bM (ak 8) (mC (.str "q"))) (ak 3))) (e := aC bM (ak 8) (mC (.str "q"))) (ρ := [.sh (.ref n), .sh (.int m), .sh (.str letters), .sh (.lst (zs.map D.str)), .sh (.int i), .sh (.int k), .sh (.str z), .un, .un]) (S := S4)
     (p := fun d => match d with | .str w => !zs.any (· == (w ++ "q")) | _ => false) (f := fun d => match d with | .str w => .str (w ++ "q") | _ => d) (iD letters) [] (fun d hd => by
      obtain ⟨ch, hch, rfl⟩ := List.mem_map.mp hd
      have a1 : ∀ S, bM S (.str ⟨#[ch]⟩) (.str "q") = some (.str ((⟨#[ch]⟩ : Str) ++ "q")) := fun S => Yq (by show 1 + 1 ≤ sizeLine; rw [sizeLine_eq]; decide)
      have a2 : ∀ S, qb S (.str ((⟨#[ch]⟩ : Str) ++ "q")) (.lst (zs.map D.str)) = some (.bl (!zs.any (· == ((⟨#[ch]⟩ : Str) ++ "q")))) := fun S => Yu (zK (List.mem_map.mpr ⟨ch, hch, rfl⟩)).1.chars hzs
      refine ⟨_, rfl, ?_, fun _ => ?_⟩
      ·simp only [aQ, aC, ak, mC, List.set_cons_succ, List.set_cons_zero, List.getElem?_cons_succ, List.getElem?_cons_zero, R.bind, R.opt, a1, a2, ji]
      ·simp only [aC, ak, mC, List.set_cons_succ, List.set_cons_zero, List.getElem?_cons_succ, List.getElem?_cons_zero, R.bind, R.opt, a1]) (by decide +kernel)
    rw [hc]
    simp only [List.nil_append]
    congr 1
    unfold iD qs
    rw [List.filter_map, List.filter_map, List.map_map, List.map_map]
    rfl
   obtain ⟨w, e1, e2, e3⟩ := a0z (zs := zs) (by omega)
   have hat : atI ((qs.filter fun x => !zs.any (· == x)).map D.str) 0 = some (.str w) := by
    have hl0 : 0 < ((qs.filter fun x => !zs.any (· == x)).map D.str).length := by
     rw [List.length_map]; exact (List.getElem?_eq_some_iff.mp e1).1
    unfold atI ixN
    rw [if_pos (by decide), if_pos (by omega)]
    show ((qs.filter fun x => !zs.any (· == x)).map D.str)[0]? = _
    rw [List.getElem?_map, e1]; rfl
   rw [EB]
   simp! [Yt hz1.chars hzs, bO, hcl, hat]
   split
   ·exact ⟨rfl, h4, w, (zK e2).1, (zK e2).2, e3, rfl⟩
   ·rename_i hin
    split
    ·exact ⟨rfl, h4, w, (zK e2).1, (zK e2).2, e3, rfl⟩
    ·rename_i hst
     exact ⟨h4, z, hz1, by simpa using hst, fun hm => hin (a0A.mpr hm), rfl⟩
  rintro _ S5 ⟨h5, z, hz1, hz2, hz3, rfl⟩
  simp!
  refine ⟨by rw [List.length_map]; omega, zs ++ [z], _, _, _, by simp [hl], fun y hy => ?_, ?_, h5, by rw [List.map_append]; rfl⟩
  ·rcases List.mem_append.mp hy with hy | hy
   ·exact hz y hy
   ·rw [List.mem_singleton.mp hy]; exact ⟨hz1, hz2⟩
  ·rw [List.nodup_append]
   exact ⟨hn, by simp, fun x hx y hy => by rw [List.mem_singleton.mp hy]; exact fun e => hz3 (e ▸ hx)⟩
 ·rintro ρ S' ⟨zs, a, b, c, hl, hz, hn, hS, rfl⟩
  rw [Bh] at hl
  simp!
  exact q zs S' hl hz hn hS
end
end Rc
namespace Rc
open bA hiding top
open PySem PySem.Spec PyProof.Rows L2 Mi
inductive Row where
 | step | use (b : Str) (n : Int) | back (b : Str) (n : Int) | give (b : Str) (n : Int) | out (v : Int) | put (v : Int) | caught (b : Str)
def Row.d : Row → D
 | .step => .tup [.str "step"]
 | .use b n => .tup [.str "use", .str b, .int n]
 | .back b n => .tup [.str "back", .str b, .int n]
 | .give b n => .tup [.str "give", .str b, .int n]
 | .out v => .tup [.str "out", .int v]
 | .put v => .tup [.str "put", .int v]
 | .caught b => .tup [.str "caught", .str b]
def big : Int := 10 ^ 18 + 9 * 10 ^ 9
def Row.ok : Row → Prop
 | .step => True
 | .use b n => cW b ∧ 0 ≤ n ∧ n ≤ big
 | .back b n => cW b ∧ 0 ≤ n ∧ n ≤ big
 | .give b n => cW b ∧ n ≠ 0 ∧ -big ≤ n ∧ n ≤ big
 | .out v => -(10 ^ 18) ≤ v ∧ v ≤ 10 ^ 18
 | .put v => -(10 ^ 18) ≤ v ∧ v ≤ 10 ^ 18
 | .caught b => cW b
section
variable {S0 S : Store} {n : Nat} {Q : D → Store → Prop} {E : bT → Store → Prop}
theorem a0C : cW "steps" := by
 refine ⟨by decide +kernel, by decide +kernel, by decide +kernel⟩
theorem a0D (h : RS S0 n S) (q : ∀ (zs : List Str) S', zs ≠ [] → zs.length ≤ 4 → (∀ z ∈ zs, cW z) → zs.Nodup → RS S0 n S' → Q (.lst (zs.map D.str)) S') : (wH [.ref n] S).al Q E := by
 unfold wH Ge
 simp!
 refine jJ h (by decide) (by decide) fun d S1 d0 d1 h1 => ?_
 simp!
 refine Hg h1 (by omega) (by omega) fun zs S2 hl hz hn h2 => ?_
 have ha : ∀ S, bM S (.lst [.str "steps"]) (.lst (zs.map D.str)) = some (.lst (([("steps" : Str)] ++ zs).map D.str)) := fun S => by
  rw [EL (by rw [sizeLine_eq, List.length_map]; simp; omega)]; rfl
 refine ⟨_, ha S2, q ([("steps" : Str)] ++ zs) S2 (by simp) (by simp; omega) (fun z hz' => ?_) ?_ h2⟩
 ·rcases List.mem_append.mp hz' with h | h
  ·rw [List.mem_singleton.mp h]; exact a0C
  ·exact (hz z h).1
 ·rw [List.singleton_append, List.nodup_cons]
  exact ⟨fun hm => (hz _ hm).2 rfl, hn⟩
theorem Hh {S : Store} {x a b : Str} (hx : ∀ c ∈ x.cps.toList, c < 0x110000) (ha : ∀ c ∈ a.cps.toList, c < 0x110000) (hb : ∀ c ∈ b.cps.toList, c < 0x110000) : eV S (.str x) (.tup [.str a, .str b]) = some (.bl (a == x || (b == x || false))) := by
 have := QF (S := S) (x := x) (ys := [a, b]) hx (by intro y hy; simp only [List.mem_cons, List.not_mem_nil, or_false] at hy; rcases hy with rfl | rfl <;> assumption)
 simpa only [List.map_cons, List.map_nil, List.any_cons, List.any_nil] using this
def CJ : List Str := ["step", "use", "back", "give", "out", "put", "caught", "use"]
theorem Hi : ∀ w ∈ CJ, ∀ c ∈ w.cps.toList, c < 0x110000 := by decide +kernel
end
end Rc
namespace Rc
open bA hiding top
open PySem PySem.Spec PyProof.Rows L2 Mi
section
variable {S : Store}
theorem al_eq {r : R D} {v : D} (h : r.al (fun d S' => d = v ∧ S' = S) fun _ _ => False) : r = .ok v S := by
 cases r with
 | ok a S' => obtain ⟨rfl, rfl⟩ := h; rfl
 | exc _ _ => exact h.elim
 | stuck => exact h.elim
def zL (c : Nat) : Bool := decide (c ∈ letters.cps.toList)
def nameS (z : Str) : Bool := decide (1 ≤ z.length) && decide (z.length ≤ 8) && z.cps.toList.all zL
theorem a0E {z : Str} : nameS z = true ↔ cW z := by
 unfold nameS cW zL
 simp only [Bool.and_eq_true, decide_eq_true_eq, List.all_eq_true]
 exact and_assoc
theorem in_one (c : Nat) (z : Str) : rD ⟨#[c]⟩ z = decide (c ∈ z.cps.toList) := by
 unfold rD
 rw [dif_pos (by rfl)]
 rfl
theorem Ua (z : Str) : (iD z).length = z.length := by
 unfold iD
 rw [List.length_map, Array.length_toList]
 rfl
theorem Ub (q : Nat → Bool) : ∀ l : List Nat, Mi.allB (l.map fun c => D.bl (q c)) = some (l.map q)
 | [] => rfl
 | c :: l => by simp only [List.map_cons, Mi.allB, Ub q l]
theorem a0F {z : Str} (hz : z.length ≤ sizeLine) : qw [.str z] S = .ok (.bl (nameS z)) S := by
 have hc : bG [1] (aM 1) eX (aC eV (ak 1) (mC (.str letters))) [.sh (.str z), .un] (iD z) [] S = .ok (z.cps.toList.map fun c => D.bl (zL c)) S := by
  have h := uI (vs := [1]) (g := aM 1) (t := eX) (e := aC eV (ak 1) (mC (.str letters))) (ρ := [.sh (.str z), .un]) (S := S) (p := fun _ => true) (f := fun d => match d with | .str x => .bl (rD x letters) | _ => .non) (iD z) [] (by
   intro d hd
   obtain ⟨c, hc, rfl⟩ := List.mem_map.mp hd
   exact ⟨_, rfl, rfl, fun _ => rfl⟩) (by rw [Ua, List.length_nil, Nat.zero_add]; exact hz)
  rw [h]
  simp only [List.nil_append]
  congr 1
  unfold iD
  rw [List.filter_eq_self.mpr (fun _ _ => rfl), List.map_map]
  refine List.map_congr_left fun c _ => ?_
  show D.bl (rD ⟨#[c]⟩ letters) = _
  rw [in_one]
  rfl
 have isi : ∀ S, i6 S [.str z, .ty "str"] = some (.bl true) := fun _ => rfl
 have al : ∀ S, lM S [.lst (z.cps.toList.map fun c => D.bl (zL c))] = some (.bl (z.cps.toList.all zL)) := by
  intro S
  unfold lM yx
  simp only [bL, Ub]
  congr 2
  rw [List.all_map]
  rfl
 have h1 : ((1 : Int) ≤ (z.length : Int)) = (1 ≤ z.length) := propext (by omega)
 have h2 : ((z.length : Int) ≤ 8) = (z.length ≤ 8) := propext (by omega)
 refine al_eq ?_
 unfold qw Gk
 have hc' := hc
 unfold letters at hc'
 simp! [isi, Qn hz, bO, hc', al, h1, h2]
 unfold nameS
 by_cases h1 : 1 ≤ z.length
 ·by_cases h2 : z.length ≤ 8
  ·simp [h1, h2]
  ·simp [h1, h2]
 ·simp [h1]
def CK : D → Bool
 | .str z => nameS z
 | _ => false
/-- no thing of the store, no class, no def; texts of no great length -/
def Pl : D → Prop
 | .str z => z.length ≤ sizeLine
 | .ref _ => False
 | .ty _ => False
 | .fn _ => False
 | _ => True
theorem name_eq {d : D} (h : Pl d) : qw [d] S = .ok (.bl (CK d)) S := by
 cases d <;> first
  | exact h.elim
  | exact a0F h
  | rfl
def intD : D → Bool
 | .int _ => true
 | _ => false
theorem Uc {d : D} (h : Pl d) : nM [d] S = .ok (.bl (intD d)) S := by
 cases d <;> first
  | exact h.elim
  | rfl
theorem a0H {d : D} (h : Pl d) : U6 [d] S = .ok (.bl (intD d)) S := by
 cases d <;> first
  | exact h.elim
  | rfl
def valD : D → Bool
 | .int i => decide (-(10 ^ 18) ≤ i) && decide (i ≤ 10 ^ 18)
 | _ => false
theorem value_eq {d : D} (h : Pl d) : oR [d] S = .ok (.bl (valD d)) S := by
 refine al_eq ?_
 unfold oR v5
 simp! [a0H h]
 cases d with
 | int i =>
  simp! [intD]
  unfold valD
  by_cases h : -(10 ^ 18) ≤ i
  ·have h' : -1000000000000000000 ≤ i := by omega
   simp [h, h']
  ·have h' : ¬ -1000000000000000000 ≤ i := by omega
   simp [h, h']
 | _ => simp [intD, valD]
def iW (c : Str) (d : D) : Bool := if c = "b" then CK d else if c = "v" then valD d else match d with
 | .int i => if c = "n" then decide (0 ≤ i) else !(i == 0)
 | _ => false
theorem fits_eq {c : Str} {d : D} (h : Pl d) : lU [.str c, d] S = .ok (.bl (iW c d)) S := by
 refine al_eq ?_
 unfold lU v7
 simp! [name_eq h, value_eq h, Uc h, beq_iff_eq]
 unfold iW
 split
 ·rfl
 ·split
  ·rfl
  ·cases d with
   | int i =>
    simp! [intD]
    split
    ·simp
    ·simp
   | _ => simp [intD]
/-- the judge of the items behind the word -/
def wZ (f : Str) (ps : List D) : Bool := decide (ps.length = f.length) && (f.cps.toList.zip ps).all fun p => iW ⟨#[p.1]⟩ p.2
def xg (xs : List D) : Bool := match xs with
 | .str w :: ps => match fR.lookup w with
  | some (.str f) => wZ f ps
  | _ => false
 | _ => false
theorem a0I : ∀ {w : Str} {d : D}, fR.lookup w = some d → ∃ f : Str, d = .str f ∧ f.length ≤ 2 := by
 intro w d h
 have : ∀ p ∈ fR, ∃ f : Str, p.2 = .str f ∧ f.length ≤ 2 := by
  intro p hp
  simp only [fR, List.mem_cons, List.not_mem_nil, or_false] at hp
  rcases hp with rfl | rfl | rfl | rfl | rfl | rfl | rfl <;> exact ⟨_, rfl, by decide +kernel⟩
 have look : ∀ l : List (Str × D), l.lookup w = some d → (w, d) ∈ l := by
  intro l
  induction l with
  | nil => intro h; cases h
  | cons p l ih =>
   intro h
   obtain ⟨a, b⟩ := p
   rw [List.lookup_cons] at h
   cases e : w == a with
   | true =>
    rw [e] at h
    cases h
    rw [beq_iff_eq.mp e]
    exact List.mem_cons_self
   | false => rw [e] at h; exact List.mem_cons_of_mem _ (ih h)
 exact this _ (look _ h)
theorem a0J {xs : List D} : bQ S (.tup xs) (.tup []) = some (.bl xs.isEmpty) := rfl
theorem a0K {f : Str} {ps : List D} (hp : ∀ d ∈ ps, Pl d) (hl : f.length ≤ sizeLine) (a b c : Sl) : bG [3, 4] (dW (bf (aM 3) (bf (aM 4) cV))) eX (aK lU [0, 1] (aj (ak 3) (aj (ak 4) ao)) ao) [a, b, c, .un, .un] (((iD f).zip ps).map fun p => .tup [p.1, p.2]) [] S =
  .ok ((f.cps.toList.zip ps).map fun p => .bl (iW ⟨#[p.1]⟩ p.2)) S := by
 have h := uI (vs := [3, 4]) (g := dW (bf (aM 3) (bf (aM 4) cV))) (t := eX) (e := aK lU [0, 1] (aj (ak 3) (aj (ak 4) ao)) ao) (ρ := [a, b, c, .un, .un]) (S := S) (p := fun _ => true)
  (f := fun d => match d with | .tup [.str x, y] => .bl (iW x y) | _ => d) (((iD f).zip ps).map fun p => .tup [p.1, p.2]) [] (by
  intro d hd
  obtain ⟨⟨x, y⟩, hm, rfl⟩ := List.mem_map.mp hd
  obtain ⟨m1, m2⟩ := List.of_mem_zip hm
  obtain ⟨ch, hch, rfl⟩ := List.mem_map.mp m1
  refine ⟨_, rfl, rfl, fun _ => ?_⟩
  simp only [aK, aj, ak, ao, List.set_cons_succ, List.set_cons_zero, List.getElem?_cons_succ, List.getElem?_cons_zero, R.bind, pick, List.filterMap_cons, List.filterMap_nil, List.append_nil, fits_eq (hp y m2)]) (by
   rw [List.length_map, List.length_zip, Ua, List.length_nil]; omega)
 rw [h]
 simp only [List.nil_append]
 congr 1
 rw [List.filter_eq_self.mpr (fun _ _ => rfl), List.map_map]
 unfold iD
 rw [List.zip_map_left, List.map_map]
 rfl
theorem Ud {l : List α} (q : α → Bool) : lM S [.lst (l.map fun c => D.bl (q c))] = some (.bl (l.all q)) := by
 have : ∀ l : List α, Mi.allB (l.map fun c => D.bl (q c)) = some (l.map q) := by
  intro l
  induction l with
  | nil => rfl
  | cons c l ih => simp only [List.map_cons, Mi.allB, ih]
 unfold lM yx
 simp only [bL, this]
 congr 2
 rw [List.all_map]
 rfl
theorem a0L {d : D} (h : Pl d) : i6 S [d, .ty "str"] = some (.bl (match d with | .str _ => true | _ => false)) := by
 cases d <;> first
  | exact h.elim
  | rfl
theorem a0M {d : D} (h : Pl d) : i6 S [d, .ty "tuple"] = some (.bl (match d with | .tup _ => true | _ => false)) := by
 cases d <;> first
  | exact h.elim
  | rfl
theorem a0N {xs : List D} (hp : ∀ d ∈ xs, Pl d) : fP [.tup xs] S = .ok (.bl (xg xs)) S := by
 refine al_eq ?_
 unfold fP v8
 simp! [a0M (d := .tup xs) trivial, a0J]
 cases xs with
 | nil => rfl
 | cons x ps =>
  have hx := hp x List.mem_cons_self
  simp! [List.isEmpty_cons, at0, a0L hx]
  cases x with
  | str w =>
   have hlk : ∀ S, uK fR S (.str w) = some (.bl (!(fR.lookup w).isSome)) := fun _ => rfl
   have hl2 : ∀ S, oK fR S (.str w) = fR.lookup w := fun _ => rfl
   simp! [Ez, hlk, hl2]
   unfold xg
   cases e : fR.lookup w with
   | none => simp [e]
   | some d =>
    obtain ⟨f, rfl, hf⟩ := a0I e
    have hfl : f.length ≤ sizeLine := by rw [sizeLine_eq]; omega
    have g : ∀ S, uL 1 (bf (aM 1) (bf (aM 2) cV)) (.tup (.str w :: ps)) [.sh (.tup (.str w :: ps)), .un, .un, .un, .un] S = some ([.sh (.tup (.str w :: ps)), .sh (.str w), .sh (.lst ps), .un, .un], S) := fun _ => by
     unfold uL
     simp only [fH]
     rw [if_pos (by simp)]
     rfl
    have hz : uM [.str f, .lst ps] = some (((iD f).zip ps).map fun p => .tup [p.1, p.2]) := rfl
    have hpp : ∀ d ∈ ps, Pl d := fun d hd => hp d (List.mem_cons_of_mem _ hd)
    simp only [Option.isSome_some, Bool.not_true, Bool.false_eq_true, if_false]
    rw [g S]
    simp! [hl2, Qn hfl, e, hz, bO, a0K hpp hfl, Ud]
    unfold wZ
    by_cases hl : ps.length = f.length
    ·simp [hl]
    ·have : ¬ ((ps.length : Int) = (f.length : Int)) := by omega
     simp [hl, this]
  | _ => simp [xg]
end
end Rc
namespace Rc
open bA hiding top
open PySem PySem.Spec PyProof.Rows L2 Mi
theorem Hj : (("steps" : Str) == "steps") = true := by decide +kernel
theorem Hl : (("steps" : Str) == "step") = false := by decide +kernel
theorem Ho : (("steps" : Str) == "use") = false := by decide +kernel
theorem Hq : (("steps" : Str) == "back") = false := by decide +kernel
theorem Hr : (("steps" : Str) == "give") = false := by decide +kernel
theorem Ht : (("steps" : Str) == "out") = false := by decide +kernel
theorem Hu : (("steps" : Str) == "put") = false := by decide +kernel
theorem Hv : (("steps" : Str) == "caught") = false := by decide +kernel
theorem Hw : (("steps" : Str) == "keep") = false := by decide +kernel
theorem Hz : (("steps" : Str) == "restore") = false := by decide +kernel
theorem HA : (("step" : Str) == "steps") = false := by decide +kernel
theorem HC : (("step" : Str) == "step") = true := by decide +kernel
theorem HD : (("step" : Str) == "use") = false := by decide +kernel
theorem HE : (("step" : Str) == "back") = false := by decide +kernel
theorem HF : (("step" : Str) == "give") = false := by decide +kernel
theorem HG : (("step" : Str) == "out") = false := by decide +kernel
theorem HJ : (("step" : Str) == "put") = false := by decide +kernel
theorem HM : (("step" : Str) == "caught") = false := by decide +kernel
theorem HP : (("step" : Str) == "keep") = false := by decide +kernel
theorem HQ : (("step" : Str) == "restore") = false := by decide +kernel
theorem HR : (("use" : Str) == "steps") = false := by decide +kernel
theorem HS : (("use" : Str) == "step") = false := by decide +kernel
theorem HU : (("use" : Str) == "use") = true := by decide +kernel
theorem HV : (("use" : Str) == "back") = false := by decide +kernel
theorem HW : (("use" : Str) == "give") = false := by decide +kernel
theorem HX : (("use" : Str) == "out") = false := by decide +kernel
theorem HY : (("use" : Str) == "put") = false := by decide +kernel
theorem Ib : (("use" : Str) == "caught") = false := by decide +kernel
theorem Ie : (("use" : Str) == "keep") = false := by decide +kernel
theorem Ig : (("use" : Str) == "restore") = false := by decide +kernel
theorem Ih : (("back" : Str) == "steps") = false := by decide +kernel
theorem Ii : (("back" : Str) == "step") = false := by decide +kernel
theorem Ij : (("back" : Str) == "use") = false := by decide +kernel
theorem Ik : (("back" : Str) == "back") = true := by decide +kernel
theorem Il : (("back" : Str) == "give") = false := by decide +kernel
theorem Im : (("back" : Str) == "out") = false := by decide +kernel
theorem Io : (("back" : Str) == "put") = false := by decide +kernel
theorem Ip : (("back" : Str) == "caught") = false := by decide +kernel
theorem Ir : (("back" : Str) == "keep") = false := by decide +kernel
theorem Iu : (("back" : Str) == "restore") = false := by decide +kernel
theorem Iv : (("give" : Str) == "steps") = false := by decide +kernel
theorem Iw : (("give" : Str) == "step") = false := by decide +kernel
theorem Iz : (("give" : Str) == "use") = false := by decide +kernel
theorem IB : (("give" : Str) == "back") = false := by decide +kernel
theorem IC : (("give" : Str) == "give") = true := by decide +kernel
theorem IE : (("give" : Str) == "out") = false := by decide +kernel
theorem IG : (("give" : Str) == "put") = false := by decide +kernel
theorem II : (("give" : Str) == "caught") = false := by decide +kernel
theorem IJ : (("give" : Str) == "keep") = false := by decide +kernel
theorem IK : (("give" : Str) == "restore") = false := by decide +kernel
theorem IL : (("out" : Str) == "steps") = false := by decide +kernel
theorem IP : (("out" : Str) == "step") = false := by decide +kernel
theorem IQ : (("out" : Str) == "use") = false := by decide +kernel
theorem IT : (("out" : Str) == "back") = false := by decide +kernel
theorem IU : (("out" : Str) == "give") = false := by decide +kernel
theorem IV : (("out" : Str) == "out") = true := by decide +kernel
theorem IW : (("out" : Str) == "put") = false := by decide +kernel
theorem IX : (("out" : Str) == "caught") = false := by decide +kernel
theorem IY : (("out" : Str) == "keep") = false := by decide +kernel
theorem J5 : (("out" : Str) == "restore") = false := by decide +kernel
theorem J8 : (("put" : Str) == "steps") = false := by decide +kernel
theorem J9 : (("put" : Str) == "step") = false := by decide +kernel
theorem Ja : (("put" : Str) == "use") = false := by decide +kernel
theorem Jb : (("put" : Str) == "back") = false := by decide +kernel
theorem Jc : (("put" : Str) == "give") = false := by decide +kernel
theorem Jd : (("put" : Str) == "out") = false := by decide +kernel
theorem Je : (("put" : Str) == "put") = true := by decide +kernel
theorem Jf : (("put" : Str) == "caught") = false := by decide +kernel
theorem Jg : (("put" : Str) == "keep") = false := by decide +kernel
theorem Jh : (("put" : Str) == "restore") = false := by decide +kernel
theorem Ji : (("caught" : Str) == "steps") = false := by decide +kernel
theorem Jj : (("caught" : Str) == "step") = false := by decide +kernel
theorem Jk : (("caught" : Str) == "use") = false := by decide +kernel
theorem Jl : (("caught" : Str) == "back") = false := by decide +kernel
theorem Jm : (("caught" : Str) == "give") = false := by decide +kernel
theorem Jo : (("caught" : Str) == "out") = false := by decide +kernel
theorem Jp : (("caught" : Str) == "put") = false := by decide +kernel
theorem Jq : (("caught" : Str) == "caught") = true := by decide +kernel
theorem Jr : (("caught" : Str) == "keep") = false := by decide +kernel
theorem Jt : (("caught" : Str) == "restore") = false := by decide +kernel
theorem Ju : (("keep" : Str) == "steps") = false := by decide +kernel
theorem Jv : (("keep" : Str) == "step") = false := by decide +kernel
theorem Jw : (("keep" : Str) == "use") = false := by decide +kernel
theorem Jx : (("keep" : Str) == "back") = false := by decide +kernel
theorem Jy : (("keep" : Str) == "give") = false := by decide +kernel
theorem Jz : (("keep" : Str) == "out") = false := by decide +kernel
theorem JA : (("keep" : Str) == "put") = false := by decide +kernel
theorem JB : (("keep" : Str) == "caught") = false := by decide +kernel
theorem JC : (("keep" : Str) == "keep") = true := by decide +kernel
theorem JD : (("keep" : Str) == "restore") = false := by decide +kernel
theorem JE : (("restore" : Str) == "steps") = false := by decide +kernel
theorem JF : (("restore" : Str) == "step") = false := by decide +kernel
theorem JG : (("restore" : Str) == "use") = false := by decide +kernel
theorem JH : (("restore" : Str) == "back") = false := by decide +kernel
theorem JI : (("restore" : Str) == "give") = false := by decide +kernel
theorem JK : (("restore" : Str) == "out") = false := by decide +kernel
theorem JL : (("restore" : Str) == "put") = false := by decide +kernel
theorem JM : (("restore" : Str) == "caught") = false := by decide +kernel
theorem JN : (("restore" : Str) == "keep") = false := by decide +kernel
theorem JO : (("restore" : Str) == "restore") = true := by decide +kernel
section
variable {S : Store}
theorem JP {x a b c : Str} (hx : ∀ c ∈ x.cps.toList, c < 0x110000) (ha : ∀ c ∈ a.cps.toList, c < 0x110000) (hb : ∀ c ∈ b.cps.toList, c < 0x110000) (hc : ∀ e ∈ c.cps.toList, e < 0x110000) : eV S (.str x) (.tup [.str a, .str b, .str c]) = some (.bl (a == x || (b == x || (c == x || false)))) := by
 have := QF (S := S) (x := x) (ys := [a, b, c]) hx (by intro y hy; simp only [List.mem_cons, List.not_mem_nil, or_false] at hy; rcases hy with rfl | rfl | rfl <;> assumption)
 simpa only [List.map_cons, List.map_nil, List.any_cons, List.any_nil] using this
theorem nR {x : Str} (h : x ∈ (["steps", "step", "use", "back", "give", "out", "put", "caught"] : List Str)) : ∀ c ∈ x.cps.toList, c < 0x110000 := by
 have : ∀ x ∈ (["steps", "step", "use", "back", "give", "out", "put", "caught"] : List Str), ∀ c ∈ x.cps.toList, c < 0x110000 := by decide +kernel
 exact this x h
theorem vf {x : Str} (h : x ∈ (["steps", "step", "use", "back", "give", "out", "put", "caught"] : List Str)) : eV S (.str x) (.tup [.str "step", .str "use", .str "out"]) = some (.bl (("step" : Str) == x || ("use" == x || ("out" == x || false)))) :=
 JP (nR h) (nR (by simp)) (nR (by simp)) (nR (by simp))
theorem jV {x : Str} (h : x ∈ (["steps", "step", "use", "back", "give", "out", "put", "caught"] : List Str)) : eV S (.str x) (.tup [.str "back", .str "give"]) = some (.bl (("back" : Str) == x || ("give" == x || false))) :=
 Hh (nR h) (nR (by simp)) (nR (by simp))
def jL (b : Str) : Int := if b = "steps" then 1 else 0
def used : Row → Str → Int
 | .step, b => jL b
 | .use c n, b => jL b + if c = b then n else 0
 | .back c n, b => - if c = b then n else 0
 | .give c n, b => - if c = b then n else 0
 | .out _, b => jL b
 | .put _, _ => 0
 | .caught _, _ => 0
theorem used_eq {r : Row} {b : Str} : jK [r.d, .str b] S = .ok (.int (used r b)) S := by
 refine al_eq ?_
 unfold jK Gm
 by_cases hb : b = "steps"
 ·subst hb
  cases r <;> (simp! [Row.d, at0, at1, at2, vf (x := "step") (by simp), vf (x := "use") (by simp), vf (x := "back") (by simp), vf (x := "give") (by simp), vf (x := "out") (by simp), vf (x := "put") (by simp), vf (x := "caught") (by simp), jV (x := "step") (by simp), jV (x := "use") (by simp), jV (x := "back") (by simp), jV (x := "give") (by simp), jV (x := "out") (by simp), jV (x := "put") (by simp), jV (x := "caught") (by simp), Hj, Hl, Ho, Hq, Hr, Ht, Hu, Hv, Hw, Hz, HA, HC, HD, HE, HF, HG, HJ, HM, HP, HQ, HR, HS, HU, HV, HW, HX, HY, Ib, Ie, Ig, Ih, Ii, Ij, Ik, Il, Im, Io, Ip, Ir, Iu, Iv, Iw, Iz, IB, IC, IE, IG, II, IJ, IK, IL, IP, IQ, IT, IU, IV, IW, IX, IY, J5, J8, J9, Ja, Jb, Jc, Jd, Je, Jf, Jg, Jh, Ji, Jj, Jk, Jl, Jm, Jo, Jp, Jq, Jr, Jt, Ju, Jv, Jw, Jx, Jy, Jz, JA, JB, JC, JD, JE, JF, JG, JH, JI, JK, JL, JM, JN, JO, Bool.or_false, Bool.or_true, Bool.true_or, Bool.false_or, beq_iff_eq, used, jL])
  all_goals (try split) <;> simp_all <;> omega
 ·have hb' : (b == "steps") = false := by simpa using hb
  cases r <;> (simp! [Row.d, hb', at0, at1, at2, jV (x := "step") (by simp), jV (x := "use") (by simp), jV (x := "back") (by simp), jV (x := "give") (by simp), jV (x := "out") (by simp), jV (x := "put") (by simp), jV (x := "caught") (by simp), Hj, Hl, Ho, Hq, Hr, Ht, Hu, Hv, Hw, Hz, HA, HC, HD, HE, HF, HG, HJ, HM, HP, HQ, HR, HS, HU, HV, HW, HX, HY, Ib, Ie, Ig, Ih, Ii, Ij, Ik, Il, Im, Io, Ip, Ir, Iu, Iv, Iw, Iz, IB, IC, IE, IG, II, IJ, IK, IL, IP, IQ, IT, IU, IV, IW, IX, IY, J5, J8, J9, Ja, Jb, Jc, Jd, Je, Jf, Jg, Jh, Ji, Jj, Jk, Jl, Jm, Jo, Jp, Jq, Jr, Jt, Ju, Jv, Jw, Jx, Jy, Jz, JA, JB, JC, JD, JE, JF, JG, JH, JI, JK, JL, JM, JN, JO, Bool.or_false, Bool.or_true, Bool.true_or, Bool.false_or, beq_iff_eq, used, jL, hb])
  all_goals (try split) <;> simp_all <;> omega
end
end Rc
namespace Rc
open bA hiding top
open PySem PySem.Spec PyProof.Rows L2 Mi
abbrev Sm := Int × Int
def Sm.d (p : Sm) : D := .tup [.int p.1, .int p.2]
def jn (p q : Sm) : Sm := (max p.1 (p.2 + q.1), p.2 + q.2)
def V (p : Sm) : Prop := 0 ≤ p.1 ∧ p.2 ≤ p.1
def i9 (b : Str) (p : Sm) (r : Row) : Sm := (max p.1 (p.2 + used r b), p.2 + used r b)
def su (b : Str) (rs : List Row) : Sm := rs.foldl (i9 b) (0, 0)
theorem a0O (x y z : Sm) : jn (jn x y) z = jn x (jn y z) := by
 unfold jn
 ext <;> simp <;> omega
theorem a0P {x : Sm} (h : V x) : jn x (0, 0) = x := by
 obtain ⟨h1, h2⟩ := h
 unfold jn
 ext <;> simp <;> omega
theorem a0Q {x y : Sm} (h : V x) (k : V y) : V (jn x y) := by
 unfold jn V at *
 simp only
 omega
theorem V0 : V (0, 0) := ⟨Int.le_refl _, Int.le_refl _⟩
theorem zM (b : Str) : ∀ (rs : List Row) (p : Sm), V p → rs.foldl (i9 b) p = jn p (su b rs) ∧ V (su b rs)
 | [], p, h => ⟨(a0P h).symm, V0⟩
 | r :: rs, p, h => by
  have hv : V (i9 b p r) := by unfold V i9 at *; simp only; omega
  have hv0 : V (i9 b (0, 0) r) := by unfold V i9; simp only; omega
  obtain ⟨e1, v1⟩ := zM b rs (i9 b p r) hv
  obtain ⟨e2, _⟩ := zM b rs (i9 b (0, 0) r) hv0
  have e3 : su b (r :: rs) = jn (i9 b (0, 0) r) (su b rs) := e2
  refine ⟨?_, by rw [e3]; exact a0Q hv0 v1⟩
  rw [List.foldl_cons, e1, e3, ← a0O]
  congr 1
  unfold V at h
  unfold i9 jn
  ext <;> simp <;> omega
theorem a0R (b : Str) (rs : List Row) : V (su b rs) := (zM b rs (0, 0) V0).2
/-- n copies -/
def pw (p : Sm) : Nat → Sm
 | 0 => (0, 0)
 | n + 1 => jn (pw p n) p
theorem pw_form {p : Sm} (h : V p) : ∀ n : Nat, pw p (n + 1) = (p.1 + max 0 ((n : Int) * p.2), ((n + 1 : Nat) : Int) * p.2) ∧ (0 ≤ p.2 → 0 ≤ (n : Int) * p.2) ∧ (p.2 ≤ 0 → (n : Int) * p.2 ≤ 0)
 | 0 => by
  obtain ⟨h1, h2⟩ := h
  refine ⟨?_, by simp, by simp⟩
  show jn (0, 0) p = _
  unfold jn
  ext <;> simp <;> omega
 | n + 1 => by
  obtain ⟨e, s1, s2⟩ := pw_form h n
  obtain ⟨h1, h2⟩ := h
  have m1 : ((n + 1 : Nat) : Int) * p.2 = (n : Int) * p.2 + p.2 := by rw [Int.natCast_add, Int.add_mul]; simp
  have m2 : ((n + 1 + 1 : Nat) : Int) * p.2 = (n : Int) * p.2 + p.2 + p.2 := by rw [Int.natCast_add, Int.add_mul, m1]; simp
  refine ⟨?_, by rw [m1]; omega, by rw [m1]; omega⟩
  show jn (pw p (n + 1)) p = _
  rw [e, m2]
  unfold jn
  rw [m1]
  generalize (n : Int) * p.2 = t at *
  ext <;> simp <;> omega
theorem snoc_ind {α : Type} {P : List α → Prop} (h0 : P []) (h1 : ∀ l a, P l → P (l ++ [a])) (l : List α) : P l := by
 have : ∀ m : List α, P m.reverse := fun m => by
  induction m with
  | nil => exact h0
  | cons a m ih => rw [List.reverse_cons]; exact h1 _ _ ih
 have h := this l.reverse
 rwa [List.reverse_reverse] at h
end Rc
namespace Rc
open bA hiding top
open PySem PySem.Spec PyProof.Rows L2 Mi
section
theorem JQ {z : Str} (h : z.length ≤ 8) : Pl (.str z) := by show z.length ≤ sizeLine; rw [sizeLine_eq]; omega
end
end Rc
namespace Rc
open bA hiding top
open PySem PySem.Spec PyProof.Rows L2 Mi
section
variable {S : Store}
theorem join_eq {p q : Sm} : oW [Sm.d p, Sm.d q] S = .ok (Sm.d (jn p q)) S := by
 refine al_eq ?_
 unfold oW m_join Sm.d
 have g : ∀ (a b : Int) ρ S, dW (bf (aM 2) (bf (aM 3) cV)) (.tup [.int a, .int b]) ρ S = some ((ρ.set 2 (.sh (.int a))).set 3 (.sh (.int b)), S) := fun _ _ _ _ => rfl
 simp! [g, at0, at1]
 rfl
theorem a0S {p : Sm} {n : Nat} (hp : V p) (hn : n < 2 ^ 40) : jm [Sm.d p, .int n] S = .ok (Sm.d (pw p n)) S := by
 refine al_eq ?_
 unfold jm zA Sm.d
 have hi : ∀ S, nM [.int (n : Int)] S = .ok (.bl true) S := fun S => Uc (d := .int n) trivial
 have g : ∀ (a b : Int) ρ S, dW (bf (aM 2) (bf (aM 3) cV)) (.tup [.int a, .int b]) ρ S = some ((ρ.set 2 (.sh (.int a))).set 3 (.sh (.int b)), S) := fun _ _ _ _ => rfl
 have h0 : decide ((n : Int) < 0) = false := decide_eq_false (by omega)
 cases n with
 | zero =>
  simp! [hi, h0]
  rfl
 | succ n =>
  have e1 : (((n + 1 : Nat) : Int) == 0) = false := by simp; omega
  have k1 : iH (((n + 1 : Nat) : Int) - 1) p.2 = true := by
   unfold iH
   rw [Bool.or_eq_true, decide_eq_true_eq]
   left; omega
  have k2 : iH ((n + 1 : Nat) : Int) p.2 = true := by
   unfold iH
   rw [Bool.or_eq_true, decide_eq_true_eq]
   left; omega
  simp! [hi, h0, e1, g, ER k1, ER k2]
  rw [(pw_form hp n).1]
  have : ((n + 1 : Nat) : Int) - 1 = (n : Int) := by omega
  rw [this]
theorem Ue {p : Sm} {a : Int} : nQ [Sm.d p, .int a] S = .ok (.bl (decide (p.1 ≤ a))) S := by
 refine al_eq ?_
 unfold nQ GO Sm.d
 simp! [at0]
end
end Rc
namespace Rc
open bA hiding top
open PySem PySem.Spec PyProof.Rows L2 Mi
section
theorem CL {r : Row} {b : Str} (h : r.ok) : (used r b).natAbs ≤ 2 * 10 ^ 18 := by
 have hi : ∀ b, (jL b).natAbs ≤ 1 := fun b => by unfold jL; split <;> decide
 have := hi b
 unfold Row.ok big at h
 cases r <;> simp only [used] at * <;> (try split) <;> omega
theorem a0T {b : Str} : ∀ rs : List Row, (∀ r ∈ rs, r.ok) → (su b rs).1.natAbs ≤ rs.length * (2 * 10 ^ 18) ∧ (su b rs).2.natAbs ≤ rs.length * (2 * 10 ^ 18) := by
 refine snoc_ind (fun _ => ⟨by simp [su], by simp [su]⟩) fun rs r ih h => ?_
 obtain ⟨h1, h2⟩ := ih fun x hx => h x (List.mem_append_left _ hx)
 have h3 := CL (b := b) (h r (List.mem_append_right _ (List.mem_singleton.mpr rfl)))
 have e2 : su b (rs ++ [r]) = i9 b (su b rs) r := by
  show (rs ++ [r]).foldl _ _ = _
  rw [List.foldl_append]; rfl
 rw [e2]
 unfold i9
 simp only [List.length_append, List.length_singleton, Nat.add_mul]
 omega
theorem pw_bd {p : Sm} {k : Nat} (h1 : p.1.natAbs ≤ k) (h2 : p.2.natAbs ≤ k) : ∀ n, (pw p n).1.natAbs ≤ n * k ∧ (pw p n).2.natAbs ≤ n * k
 | 0 => ⟨by simp [pw], by simp [pw]⟩
 | n + 1 => by
  obtain ⟨i1, i2⟩ := pw_bd h1 h2 n
  show (jn (pw p n) p).1.natAbs ≤ _ ∧ (jn (pw p n) p).2.natAbs ≤ _
  unfold jn
  simp only [Nat.add_mul, Nat.one_mul]
  omega
theorem a0U {p : Sm} (h1 : p.1.natAbs < 10 ^ 60) (h2 : p.2.natAbs < 10 ^ 60) : aZ (Sm.d p) := by
 unfold Sm.d
 simp only [aZ, cQ, and_true]
 exact ⟨h1, h2⟩
theorem a0V {p : Sm} : bR (Sm.d p) = 2 := rfl
theorem a0W {p : Sm} : bh (Sm.d p) = 1 := rfl
theorem a0X {r : Row} (h : r.ok) : aZ r.d ∧ bR r.d ≤ 30 ∧ bh r.d = 1 := by
 have wc : ∀ w ∈ (["step", "use", "back", "give", "out", "put", "caught"] : List Str), (∀ c ∈ w.cps.toList, c < 0x110000) ∧ w.length ≤ 8 := by decide +kernel
 have hb : big < 10 ^ 59 := by decide
 have key : ∀ (w : Str) (xs : List D), w ∈ (["step", "use", "back", "give", "out", "put", "caught"] : List Str) → cQ xs → dH xs ≤ 15 → cU xs = 0 → aZ (.tup (.str w :: xs)) ∧ bR (.tup (.str w :: xs)) ≤ 30 ∧ bh (.tup (.str w :: xs)) = 1 := by
  intro w xs hw h1 h2 h3
  obtain ⟨c1, c2⟩ := wc w hw
  refine ⟨?_, ?_, ?_⟩
  ·simp only [aZ, cQ]; exact ⟨c1, h1⟩
  ·simp only [bR, dH]; omega
  ·simp only [bh, cU]; omega
 have nm : ∀ (b : Str) (i : Int), cW b → i.natAbs < 10 ^ 60 → cQ [.str b, .int i] ∧ dH [.str b, .int i] ≤ 15 ∧ cU [.str b, .int i] = 0 := fun b i h1 h2 => by
  refine ⟨?_, ?_, rfl⟩
  ·simp only [cQ, aZ, and_true]; exact ⟨h1.chars, h2⟩
  ·have := h1.2.1; simp only [dH, bR]; omega
 cases r with
 | step => exact key "step" [] (by simp) (by simp [cQ]) (by simp [dH]) rfl
 | use b i => obtain ⟨a1, a2, a3⟩ := nm b i h.1 (by have h2 := h.2; omega); exact key "use" _ (by simp) a1 a2 a3
 | back b i => obtain ⟨a1, a2, a3⟩ := nm b i h.1 (by have h2 := h.2; omega); exact key "back" _ (by simp) a1 a2 a3
 | give b i => obtain ⟨a1, a2, a3⟩ := nm b i h.1 (by have h2 := h.2; omega); exact key "give" _ (by simp) a1 a2 a3
 | out v => exact key "out" [.int v] (by simp) (by simp only [cQ, aZ, and_true]; have h1 := h.1; have h2 := h.2; omega) (by simp [dH, bR]) rfl
 | put v => exact key "put" [.int v] (by simp) (by simp only [cQ, aZ, and_true]; have h1 := h.1; have h2 := h.2; omega) (by simp [dH, bR]) rfl
 | caught b => exact key "caught" [.str b] (by simp) (by simp only [cQ, aZ, and_true]; exact cW.chars h) (by have := h.2.1; simp only [dH, bR]; omega) rfl
end
end Rc
namespace Rc
open bA hiding top
open PySem PySem.Spec PyProof.Rows L2 Mi
abbrev Am := List (Str × Int)
def kd (ks : Am) : List (Key × D) := ks.map fun p => (.inr p.1, .int p.2)
def look (ks : Am) (k : Str) : Option Int := (ks.find? fun p => decide (p.1 = k)).map (·.2)
theorem a0Y {k : Str} : look [] k = none := rfl
theorem CM {p : Str × Int} {ks : Am} {k : Str} : look (p :: ks) k = if p.1 = k then some p.2 else look ks k := by
 unfold look
 by_cases h : p.1 = k <;> simp [List.find?_cons, h]
theorem JR : ∀ {ks : Am} {k : Str}, Mi.valD (kd ks) (.inr k) = (look ks k).map D.int
 | [], _ => rfl
 | p :: ks, k => by
  have ih := JR (ks := ks) (k := k)
  rw [CM]
  unfold Mi.valD kd at *
  simp only [List.map_cons, List.find?_cons]
  by_cases h : p.1 = k
  ·simp [h]
  ·have : ¬ ((Sum.inr p.1 : Key) = .inr k) := fun e => h (by injection e)
   simp only [this, decide_false, h, if_false]
   exact ih
theorem CN : ∀ {ks : Am} {k : Str}, rJ (kd ks) (.inr k) = (look ks k).isSome
 | [], _ => rfl
 | p :: ks, k => by
  have ih := CN (ks := ks) (k := k)
  rw [CM]
  unfold rJ kd at *
  simp only [List.map_cons, List.any_cons, ih]
  by_cases h : p.1 = k
  ·simp [h]
  ·have : ¬ ((Sum.inr p.1 : Key) = .inr k) := fun e => h (by injection e)
   simp [this, h]
def zN (ks : Am) (k : Str) (v : Int) : Am := ks.map fun p => if p.1 = k then (p.1, v) else p
theorem a0Z {ks : Am} {k : Str} {v : Int} (h : (look ks k).isSome = true) : putD (kd ks) (.inr k) (.int v) = kd (zN ks k v) := by
 unfold putD
 rw [CN, if_pos h]
 unfold kd zN
 rw [List.map_map, List.map_map]
 refine List.map_congr_left fun p _ => ?_
 simp only [Function.comp]
 by_cases e : p.1 = k
 ·simp [e]
 ·have : ¬ ((Sum.inr p.1 : Key) = .inr k) := fun z => e (by injection z)
  simp [e, this]
theorem kd_len {ks : Am} : (kd ks).length = ks.length := by unfold kd; rw [List.length_map]
theorem Ug : ∀ {ks : Am} {k : Str} {v : Int}, (ks.map (·.1)).Nodup → (k, v) ∈ ks → look ks k = some v
 | p :: ks, k, v, hn, h => by
  rw [List.map_cons, List.nodup_cons] at hn
  rw [CM]
  rcases List.mem_cons.mp h with rfl | h
  ·simp
  ·have : ¬ p.1 = k := fun e => hn.1 (by rw [e]; exact List.mem_map.mpr ⟨_, h, rfl⟩)
   rw [if_neg this]; exact Ug hn.2 h
/-- one entry less by what the row uses of it -/
def kJ (r : Row) (ks : Am) (b : Str) : Am := ks.map fun p => if p.1 = b then (p.1, p.2 - used r b) else p
def xq (r : Row) (ks : Am) : Am := ks.map fun p => (p.1, p.2 - used r p.1)
theorem a1a {r : Row} {ks : Am} {b : Str} : (kJ r ks b).map (·.1) = ks.map (·.1) := by
 unfold kJ
 rw [List.map_map]
 refine List.map_congr_left fun p _ => ?_
 simp only [Function.comp]
 split <;> rfl
theorem a1b {r : Row} {ks : Am} : (xq r ks).map (·.1) = ks.map (·.1) := by
 unfold xq
 rw [List.map_map]
 rfl
theorem a1c {r : Row} {ks : Am} {b : Str} {v : Int} (hn : (ks.map (·.1)).Nodup) (h : look ks b = some v) : zN ks b (v - used r b) = kJ r ks b := by
 unfold zN kJ
 refine List.map_congr_left fun p hp => ?_
 by_cases e : p.1 = b
 ·have : look ks b = some p.2 := Ug hn (by rw [← e]; exact hp)
  rw [h] at this
  cases this
  rfl
 ·simp only [e, if_false]
theorem Uh {r : Row} : ∀ {bs : List Str} {ks : Am}, bs.Nodup → bs.foldl (kJ r) ks = ks.map fun p => if p.1 ∈ bs then (p.1, p.2 - used r p.1) else p
 | [], ks, _ => by simp
 | b :: bs, ks, hn => by
  rw [List.nodup_cons] at hn
  rw [List.foldl_cons, Uh hn.2]
  unfold kJ
  rw [List.map_map]
  refine List.map_congr_left fun p _ => ?_
  simp only [Function.comp]
  by_cases e : p.1 = b
  ·subst e
   simp [hn.1]
  ·have : (p.1 ∈ b :: bs) = (p.1 ∈ bs) := by simp [e]
   simp only [e, if_false, this]
theorem zP {r : Row} : ∀ {bs : List Str} {ks : Am}, (bs.foldl (kJ r) ks).map (·.1) = ks.map (·.1)
 | [], _ => rfl
 | b :: bs, ks => by rw [List.foldl_cons, zP, a1a]
def ie : Row → List Str
 | .use b _ | .back b _ | .give b _ => if b = "steps" then ["steps"] else ["steps", b]
 | _ => ["steps"]
theorem a1d {r : Row} : (ie r).Nodup := by
 cases r <;> simp only [ie] <;> (try split) <;> simp_all [eq_comm]
theorem a1e {r : Row} {b : Str} (h : b ∉ ie r) : used r b = 0 := by
 cases r with
 | step => simp only [ie, List.mem_singleton] at h; simp [used, jL, h]
 | out v => simp only [ie, List.mem_singleton] at h; simp [used, jL, h]
 | put v => rfl
 | caught c => rfl
 | use c n => simp only [ie] at h; split at h <;> simp_all [used, jL, eq_comm]
 | back c n => simp only [ie] at h; split at h <;> simp_all [used, jL, eq_comm]
 | give c n => simp only [ie] at h; split at h <;> simp_all [used, jL, eq_comm]
/-- the ie of a row cA there are -/
def iY (r : Row) (ks : Am) : List Str := (ie r).filter fun b => (look ks b).isSome
theorem zQ {ks : Am} {k : Str} : (look ks k).isSome = true ↔ k ∈ ks.map (·.1) := by
 induction ks with
 | nil => simp [a0Y]
 | cons p ks ih =>
  rw [CM, List.map_cons, List.mem_cons]
  by_cases e : p.1 = k
  ·simp [e]
  ·rw [if_neg e, ih]
   exact ⟨fun h => .inr h, fun h => h.elim (fun z => absurd z.symm e) id⟩
theorem a1f {r : Row} {ks : Am} : (iY r ks).foldl (kJ r) ks = xq r ks := by
 rw [Uh (bs := iY r ks) (List.Pairwise.filter _ a1d)]
 unfold xq
 refine List.map_congr_left fun p hp => ?_
 by_cases h : p.1 ∈ iY r ks
 ·rw [if_pos h]
 ·rw [if_neg h]
  have : p.1 ∉ ie r := fun z => h (List.mem_filter.mpr ⟨z, zQ.mpr (List.mem_map.mpr ⟨p, hp, rfl⟩)⟩)
  rw [a1e this]
  simp
/-- a91 the row uses more ZQ there is -/
def over (r : Row) (ks : Am) (b : Str) : Bool := match look ks b with
 | some v => decide (v < used r b)
 | none => false
def fail (r : Row) (ks : Am) : Option Str := (iY r ks).find? (over r ks)
def walk : List Row → Am → Nat → Option (Nat × Str)
 | [], _, _ => none
 | r :: rs, ks, i => match fail r ks with
  | some b => some (i, b)
  | none => walk rs (xq r ks) (i + 1)
theorem a1g {r : Row} {ks : Am} {b : Str} (o : over r ks b = true) : b ∈ ks.map (·.1) := by
 unfold over at o
 cases e : look ks b with
 | none => rw [e] at o; cases o
 | some v => exact zQ.mp (by rw [e]; rfl)
theorem a1h (r : Row) : ie r = [("steps" : Str)] ∨ ∃ b : Str, b ≠ "steps" ∧ ie r = [("steps" : Str), b] := by
 cases r with
 | use b n => simp only [ie]; split; exact .inl rfl; exact .inr ⟨b, by assumption, rfl⟩
 | back b n => simp only [ie]; split; exact .inl rfl; exact .inr ⟨b, by assumption, rfl⟩
 | give b n => simp only [ie]; split; exact .inl rfl; exact .inr ⟨b, by assumption, rfl⟩
 | _ => exact .inl rfl
theorem Ui {b : Str} {r : Row} {rs : List Row} : (su b (r :: rs)).1 = max (max 0 (used r b)) (used r b + (su b rs).1) := by
 have e : su b (r :: rs) = jn (i9 b (0, 0) r) (su b rs) := (zM b rs (i9 b (0, 0) r) (by unfold V i9; simp only; omega)).1
 rw [e]
 unfold jn i9
 simp
theorem Uj : ∀ {rs : List Row} {ks : Am} {i j : Nat} {b : Str}, walk rs ks i = some (j, b) → ∃ k, j = i + k ∧ k < rs.length ∧ walk (rs.take k) ks i = none ∧ ∀ ext, walk (rs.take (k + 1) ++ ext) ks i = some (j, b)
 | [], ks, i, j, b, h => by cases h
 | r :: rs, ks, i, j, b, h => by
  unfold walk at h
  cases e : fail r ks with
  | some c =>
   rw [e] at h
   cases h
   refine ⟨0, rfl, by simp, rfl, fun ext => ?_⟩
   simp only [Nat.zero_add, List.take_succ_cons, List.take_zero, List.cons_append, List.nil_append]
   unfold walk
   rw [e]
  | none =>
   rw [e] at h
   obtain ⟨k, h1, h2, h3, h4⟩ := Uj h
   refine ⟨k + 1, by omega, by simp; omega, ?_, fun ext => ?_⟩
   ·simp only [List.take_succ_cons]
    unfold walk
    rw [e]; exact h3
   ·simp only [List.take_succ_cons, List.cons_append]
    unfold walk
    rw [e]
    have := h4 ext
    simpa only [List.take_succ_cons] using this
end Rc
namespace Rg
open bA hiding top
open PySem PySem.Spec PyProof.Rows L2 Mi
abbrev a1i : List Str := ["value"]
def a1j : SX := aW (gJ (aO i6 (aj (ak 0) (aj (mC (.ty "int")) (ao)))) (ou (aO i6 (aj (ak 0) (aj (mC (.ty "bool")) (ao))))))
def a1k : FX := aX a1i.length a1j
def v5 : SX := aW (gJ (aK a1k [0] (aj (ak 0) (ao)) (ao)) (oA lK lK (dU jZ (mC (.int 1000000000000000000))) (ak 0) (mC (.int 1000000000000000000))))
def oR : FX := aX Cd.length v5
def v7 : SX := aH (cJ (aQ (aC bQ (ak 0) (mC (.str "b")))) (aW (aK qw [0] (aj (ak 1) (ao)) (ao))) (cY)) <|
 aH (cJ (aQ (aC bQ (ak 0) (mC (.str "v")))) (aW (aK oR [0] (aj (ak 1) (ao)) (ao))) (cY)) <|
 aW (gJ (aK nM [0] (aj (ak 1) (ao)) (ao)) (gH (aQ (aC bQ (ak 0) (mC (.str "n")))) (aC vO (ak 1) (mC (.int 0))) (aC iQ (ak 1) (mC (.int 0)))))
def lU : FX := aX Cg.length v7
def v8 : SX := aH (cJ (iw (gG (gD (aO i6 (aj (ak 0) (aj (mC (.ty "tuple")) (ao)))))) (iw (aQ (aC bQ (ak 0) (aR (ao)))) (iw (gG (gD (aO i6 (aj (aC aV (ak 0) (mC (.int 0))) (aj (mC (.ty "str")) (ao)))))) (aQ (dU (uK fR) (aC aV (ak 0) (mC (.int 0)))))))) (aW (mC (.bl false))) (cY)) <|
 aH (fV (ak 0) (uL 1 (bf (aM 1) (bf (aM 2) (cV))))) <|
 aW (gJ (aC bQ (aO eY (aj (ak 2) (ao))) (aO eY (aj (dU (oK fR) (ak 1)) (ao)))) (aO lM (aj (cZ (jc uM (aj (dU (oK fR) (ak 1)) (aj (ak 2) (ao)))) [3, 4] (dW (bf (aM 3) (bf (aM 4) (cV)))) (eX) (aK lU [0, 1] (aj (ak 3) (aj (ak 4) (ao))) (ao))) (ao))))
def fP : FX := aX zB.length v8
def oU : SX := j6 (dX (ak 0)) (aM 1) (cJ (gG (gD (aK fP [0] (aj (ak 1) (ao)) (ao)))) (Ew) (cY))
def eG : FX := aX Cj.length oU
def qC : SX := aH (iy (aK eG [0] (aj (ak 0) (ao)) (ao))) <|
 aW (cZ (dX (ak 0)) [1] (aM 1) (aQ (aC eV (aC aV (ak 1) (mC (.int 0))) (aR (aj (mC (.str "out")) (aj (mC (.str "put")) (ao)))))) (aC aV (ak 1) (mC (.int 1))))
def fQ : FX := aX Cq.length qC
def wR : SX := aH (bU 1 (cZ (dX (aK fQ [0] (aj (ak 0) (ao)) (ao))) [2] (aM 2) (eX) (aR (aj (mC (.str "put")) (aj (ak 2) (ao)))))) <|
 aW (aC bM (aK lV [0] (aj (ak 0) (ao)) (ao)) (ak 1))
def jr : FX := aX Cr.length wR
def oV : SX := aH (iy (aK eG [0] (aj (ak 0) (ao)) (ao))) <|
 aH (fV (aR (aj (mC (.int 0)) (aj (mC (.int 0)) (ao)))) (dW (bf (aM 3) (bf (aM 4) (cV))))) <|
 aH (j6 (dX (ak 0)) (aM 2) (aH (bU 4 (aC uJ (ak 4) (aK jK [0, 1] (aj (ak 2) (aj (ak 1) (ao))) (ao)))) <|
 bU 3 (aO kh (aj (ak 3) (aj (ak 4) (ao)))))) <|
 aW (aR (aj (ak 3) (aj (ak 4) (ao))))
def gA : FX := aX Ck.length oV
def Cy : SX := aH (BE 1 2 (cZ (dX (ak 0)) [3] (aM 3) (mQ (aQ (aC eV (aC aV (ak 3) (mC (.int 0))) (aR (aj (mC (.str "use")) (aj (mC (.str "back")) (aj (mC (.str "give")) (ao))))))) (aQ (aC iQ (aC aV (ak 3) (mC (.int 1))) (mC (.str "steps"))))) (aC aV (ak 3) (mC (.int 1)))) [4] (aM 4) (eX) (aR (aj (ak 4) (aj (aC aV (aK gA [0, 1] (aj (ak 0) (aj (ak 4) (ao))) (ao)) (mC (.int 1))) (ao))))) <|
 aW (cZ (dX (ak 2)) [4, 5] (dW (bf (aM 4) (bf (aM 5) (cV)))) (aQ (aC iQ (ak 5) (mC (.int 0)))) (aR (aj (mC (.str "give")) (aj (ak 4) (aj (ak 5) (ao))))))
def wV : FX := aX wU.length Cy
def wW : SX := aH (iy (aK eG [0] (aj (ak 0) (ao)) (ao))) <|
 aH (bU 3 (gH (aQ (aC bQ (ak 2) (mC (.str "restore")))) (aK wV [0] (aj (ak 0) (ao)) (ao)) (cH (ao)))) <|
 aW (aC bM (aC bM (aK lV [0] (aj (ak 0) (ao)) (ao)) (cH (aj (aR (aj (mC (.str "caught")) (aj (ak 1) (ao)))) (ao)))) (ak 3))
def jt : FX := aX Gx.length wW
end Rg
namespace Rc
open bA hiding top
open PySem PySem.Spec PyProof.Rows L2 Mi
def Row.fj : Row → Prop
 | .step => True
 | .use b n => cW b ∧ 0 ≤ n ∧ True
 | .back b n => cW b ∧ 0 ≤ n ∧ True
 | .give b n => cW b ∧ n ≠ 0 ∧ True
 | .out v => -(10 ^ 18) ≤ v ∧ v ≤ 10 ^ 18
 | .put v => -(10 ^ 18) ≤ v ∧ v ≤ 10 ^ 18
 | .caught b => cW b
theorem Row.ok.weak {r : Row} (h : r.ok) : r.fj := by
 cases r with
 | step => trivial
 | use b n => exact ⟨h.1, h.2.1, trivial⟩
 | back b n => exact ⟨h.1, h.2.1, trivial⟩
 | give b n => exact ⟨h.1, h.2.1, trivial⟩
 | out v => exact h
 | put v => exact h
 | caught b => exact h
def Row.inn (zs : List Str) : Row → Prop
 | .use b _ => b ∈ zs
 | .back b _ => b ∈ zs
 | .give b _ => b ∈ zs
 | .caught b => b ∈ zs
 | _ => True
section
variable {S0 S : Store} {n : Nat} {Q : D → Store → Prop} {E : bT → Store → Prop}
theorem CO {r : Row} (h : r.fj) : fP [r.d] S = .ok (.bl true) S := by
 have t : ∀ b : Str, cW b → CK (.str b) = true := fun b hb => a0E.mpr hb
 have key : ∀ xs : List D, (∀ d ∈ xs, Pl d) → eZ xs → cU xs ≤ 60 → xg xs = true → fP [.tup xs] S = .ok (.bl true) S := fun xs h1 h2 h3 h4 => by rw [a0N h1, h4]
 have wl : ∀ w ∈ (["step", "use", "back", "give", "out", "put", "caught"] : List Str), w.length ≤ 8 := by decide +kernel
 have pw : ∀ w ∈ (["step", "use", "back", "give", "out", "put", "caught"] : List Str), Pl (.str w) := fun w hw => JQ (wl w hw)
 have f1 : ∀ d, iW "b" d = CK d := fun d => by unfold iW; rw [if_pos rfl]
 have f2 : ∀ d, iW "v" d = valD d := fun d => by unfold iW; rw [if_neg (by decide +kernel), if_pos rfl]
 have f3 : ∀ i, iW "n" (.int i) = decide (0 ≤ i) := fun d => by unfold iW; rw [if_neg (by decide +kernel), if_neg (by decide +kernel)]; simp only [if_true]
 have f4 : ∀ i, iW "z" (.int i) = !(i == 0) := fun d => by
  unfold iW; rw [if_neg (by decide +kernel), if_neg (by decide +kernel)]
  simp only
  rw [if_neg (by decide +kernel)]
 have wc : ∀ w ∈ (["step", "use", "back", "give", "out", "put", "caught"] : List Str), ∀ c ∈ w.cps.toList, c < 0x110000 := by decide +kernel
 have p1 : ∀ (f : Str) (c : Nat) (d : D), f.cps.toList = [c] → wZ f [d] = iW ⟨#[c]⟩ d := by
  intro f c d e
  have hl : f.length = 1 := by show f.cps.size = 1; rw [← Array.length_toList, e]; rfl
  unfold wZ
  rw [e, hl]
  simp
 have p2 : ∀ (f : Str) (c c' : Nat) (d e : D), f.cps.toList = [c, c'] → wZ f [d, e] = (iW ⟨#[c]⟩ d && iW ⟨#[c']⟩ e) := by
  intro f c c' d e' e
  have hl : f.length = 2 := by show f.cps.size = 2; rw [← Array.length_toList, e]; rfl
  unfold wZ
  rw [e, hl]
  simp
 have two : ∀ (w f : Str) (b : Str) (i : Int) (c c' : Nat), w ∈ (["step", "use", "back", "give", "out", "put", "caught"] : List Str) → fR.lookup w = some (.str f) → f.cps.toList = [c, c'] → cW b → (⟨#[c]⟩ : Str) = "b" → iW ⟨#[c']⟩ (.int i) = true → fP [.tup [.str w, .str b, .int i]] S = .ok (.bl true) S := by
  intro w f b i c c' hw hf hc hb hc1 hc2
  refine key _ ?_ ?_ ?_ ?_
  ·intro d hd
   simp only [List.mem_cons, List.not_mem_nil, or_false] at hd
   rcases hd with rfl | rfl | rfl
   ·exact pw w hw
   ·exact JQ hb.2.1
   ·trivial
  ·simp only [eZ, bD, and_true]
   exact ⟨wc w hw, hb.chars⟩
  ·simp [cU, bh]
  ·unfold xg
   simp only [hf, p2 f c c' _ _ hc, hc2, Bool.and_true, hc1, f1, t b hb]
 have one : ∀ (w f : Str) (x : D) (c : Nat), w ∈ (["step", "use", "back", "give", "out", "put", "caught"] : List Str) → fR.lookup w = some (.str f) → f.cps.toList = [c] → Pl x → bD x → bh x = 0 → iW ⟨#[c]⟩ x = true → fP [.tup [.str w, x]] S = .ok (.bl true) S := by
  intro w f x c hw hf hc hx hn hd hc2
  refine key _ ?_ ?_ ?_ ?_
  ·intro d hd
   simp only [List.mem_cons, List.not_mem_nil, or_false] at hd
   rcases hd with rfl | rfl
   ·exact pw w hw
   ·exact hx
  ·simp only [eZ, bD, and_true]
   exact ⟨wc w hw, hn⟩
  ·simp [cU, bh, hd]
  ·unfold xg
   simp only [hf, p1 f c _ hc, hc2]
 cases r with
 | step => exact key [.str "step"] (by intro d hd; rw [List.mem_singleton.mp hd]; exact pw "step" (by simp)) (by simp only [eZ, bD, and_true]; exact wc "step" (by simp)) (by simp [cU, bh]) rfl
 | use b i => exact two "use" "bn" b i 98 110 (by simp) rfl (by decide +kernel) h.1 (by decide +kernel) (by rw [show (⟨#[110]⟩ : Str) = "n" by decide +kernel, f3]; exact decide_eq_true h.2.1)
 | back b i => exact two "back" "bn" b i 98 110 (by simp) rfl (by decide +kernel) h.1 (by decide +kernel) (by rw [show (⟨#[110]⟩ : Str) = "n" by decide +kernel, f3]; exact decide_eq_true h.2.1)
 | give b i => exact two "give" "bz" b i 98 122 (by simp) rfl (by decide +kernel) h.1 (by decide +kernel) (by rw [show (⟨#[122]⟩ : Str) = "z" by decide +kernel, f4]; simp [h.2.1])
 | out v => exact one "out" "v" (.int v) 118 (by simp) rfl (by decide +kernel) trivial (by simp [bD]) rfl (by rw [show (⟨#[118]⟩ : Str) = "v" by decide +kernel, f2]; exact Bool.and_eq_true_iff.mpr ⟨decide_eq_true h.1, decide_eq_true h.2⟩)
 | put v => exact one "put" "v" (.int v) 118 (by simp) rfl (by decide +kernel) trivial (by simp [bD]) rfl (by rw [show (⟨#[118]⟩ : Str) = "v" by decide +kernel, f2]; exact Bool.and_eq_true_iff.mpr ⟨decide_eq_true h.1, decide_eq_true h.2⟩)
 | caught b => exact one "caught" "b" (.str b) 98 (by simp) rfl (by decide +kernel) (JQ h.2.1) (by simpa only [bD] using h.chars) rfl (by rw [show (⟨#[98]⟩ : Str) = "b" by decide +kernel, f1]; exact t b h)
theorem CP {d : D} {rs : List Row} (e : itemsOf d = some (rs.map Row.d)) (h : ∀ r ∈ rs, r.fj) : eG [d] S = .ok .non S := by
 refine al_eq ?_
 unfold eG oU
 simp! [e]
 refine nu (fun _ ρ S' => S' = S ∧ ∃ x, ρ = [.sh d, x]) ⟨rfl, _, rfl⟩ ?_ fun ρ S' hI => hI.1
 rintro i x ρ _ hx ⟨rfl, y, rfl⟩
 rw [List.getElem?_map] at hx
 cases er : rs[i]? with
 | none => rw [er] at hx; cases hx
 | some r =>
  rw [er] at hx
  cases hx
  refine ⟨_, rfl, ?_⟩
  simp! [CO (h r (List.mem_of_getElem? er))]
  exact ⟨_, rfl⟩
theorem a1l {d : D} {rs : List Row} {b : Str} (e : itemsOf d = some (rs.map Row.d)) (h : ∀ r ∈ rs, r.fj) : gA [d, .str b] S = .ok (Sm.d (su b rs)) S := by
 refine al_eq ?_
 unfold gA oV
 have g : ∀ ρ S, dW (bf (aM 3) (bf (aM 4) cV)) (.tup [.int 0, .int 0]) ρ S = some ((ρ.set 3 (.sh (.int 0))).set 4 (.sh (.int 0)), S) := fun _ _ => rfl
 simp! [e, CP e h, g]
 refine nu (fun i ρ S' => S' = S ∧ ∃ x, ρ = [.sh d, .sh (.str b), x, .sh (.int (su b (rs.take i)).1), .sh (.int (su b (rs.take i)).2)]) ⟨rfl, _, rfl⟩ ?_ ?_
 ·rintro i x ρ _ hx ⟨rfl, y, rfl⟩
  rw [List.getElem?_map] at hx
  cases er : rs[i]? with
  | none => rw [er] at hx; cases hx
  | some r =>
   rw [er] at hx
   cases hx
   refine ⟨_, rfl, ?_⟩
   simp! [used_eq]
   refine ⟨.sh r.d, ?_⟩
   have e3 : rs.take (i + 1) = rs.take i ++ [r] := by rw [List.take_add_one, er]; rfl
   have e4 : su b (rs.take (i + 1)) = i9 b (su b (rs.take i)) r := by
    rw [e3]
    show (rs.take i ++ [r]).foldl _ _ = _
    rw [List.foldl_append]; rfl
   rw [e4]
   rfl
 ·rintro ρ _ ⟨rfl, y, rfl⟩
  simp! [List.length_map]
  rw [List.take_length]
  rfl
theorem a1m {zs : List Str} (h : RS S0 n S) (h0 : zs ≠ []) (h1 : zs.length ≤ 4) (hz : ∀ z ∈ zs, cW z) (q : ∀ (r : Row) S', r.ok → r.inn zs → RS S0 n S' → Q r.d S') : (wJ [.ref n, .lst (zs.map D.str)] S).al Q E := by
 have hl : 0 < zs.length := List.length_pos_iff.mpr h0
 unfold wJ Gg
 simp!
 refine jJ h (by decide) (by decide) fun d S1 d0 d1 hS1 => ?_
 simp!
 refine lW d0 (by simpa using d1) fun x hx => ?_
 obtain ⟨w, hw, rfl⟩ : ∃ w ∈ CJ, D.str w = x := List.mem_map.mp (show x ∈ CJ.map D.str from hx)
 have hwc := Hi w hw
 simp! [List.length_map, Hh hwc (Hi "out" (by decide +kernel)) (Hi "put" (by decide +kernel)), U7]
 refine jJ hS1 (by omega) (by omega) fun e S2 e0 e1 hS2 => ?_
 refine lW e0 (by rw [List.length_map]; exact e1) fun y hy => ?_
 obtain ⟨b, hb, rfl⟩ := List.mem_map.mp hy
 have hbn := hz b hb
 refine a0t hS2 fun i S3 i0 i1 hS3 => ?_
 have hb1 : i ≤ big := by unfold big; omega
 simp!
 simp only [CJ, List.mem_cons, List.not_mem_nil, or_false] at hw
 rcases hw with rfl | rfl | rfl | rfl | rfl | rfl | rfl | rfl
 ·rw [if_pos (by decide +kernel)]; exact q .step S3 trivial trivial hS3
 ·rw [if_neg (by decide +kernel), if_neg (by decide +kernel), if_neg (by decide +kernel), if_neg (by decide +kernel)]; exact q (.use b i) S3 ⟨hbn, i0, hb1⟩ hb hS3
 ·rw [if_neg (by decide +kernel), if_neg (by decide +kernel), if_neg (by decide +kernel), if_neg (by decide +kernel)]; exact q (.back b i) S3 ⟨hbn, i0, hb1⟩ hb hS3
 ·rw [if_neg (by decide +kernel), if_neg (by decide +kernel), if_neg (by decide +kernel), if_pos (by decide +kernel)]
  refine jJ hS3 (by decide) (by decide) fun f S4 f0 f1 hS4 => ?_
  simp!
  refine lW f0 (by simpa using f1) fun x hx => ?_
  simp only [List.mem_cons, List.not_mem_nil, or_false] at hx
  rcases hx with rfl | rfl
  ·exact q (.give b (i + 1)) S4 ⟨hbn, by omega, by omega, by unfold big; omega⟩ hb hS4
  ·exact q (.give b (-1 - i)) S4 ⟨hbn, by omega, by unfold big; omega, by unfold big; omega⟩ hb hS4
 ·rw [if_neg (by decide +kernel), if_neg (by decide +kernel), if_pos (by decide +kernel)]
  split
  ·rename_i hlt
   have hlt' := of_decide_eq_true hlt
   refine jJ hS3 (by decide) (by decide) fun f S4 f0 f1 hS4 => ?_
   simp!
   refine lW f0 (by simpa using f1) fun x hx => ?_
   simp only [List.mem_cons, List.not_mem_nil, or_false] at hx
   rcases hx with rfl | rfl | rfl
   ·exact q (.out (i - 20)) S4 ⟨by omega, by omega⟩ trivial hS4
   ·exact q (.out (10 ^ 18)) S4 ⟨by decide, by decide⟩ trivial hS4
   ·exact q (.out (-10 ^ 18)) S4 ⟨by decide, by decide⟩ trivial hS4
  ·exact q (.out (10 ^ 18)) S3 ⟨by decide, by decide⟩ trivial hS3
 ·rw [if_neg (by decide +kernel), if_neg (by decide +kernel), if_pos (by decide +kernel)]
  split
  ·rename_i hlt
   have hlt' := of_decide_eq_true hlt
   refine jJ hS3 (by decide) (by decide) fun f S4 f0 f1 hS4 => ?_
   simp!
   refine lW f0 (by simpa using f1) fun x hx => ?_
   simp only [List.mem_cons, List.not_mem_nil, or_false] at hx
   rcases hx with rfl | rfl | rfl
   ·exact q (.put (i - 20)) S4 ⟨by omega, by omega⟩ trivial hS4
   ·exact q (.put (10 ^ 18)) S4 ⟨by decide, by decide⟩ trivial hS4
   ·exact q (.put (-10 ^ 18)) S4 ⟨by decide, by decide⟩ trivial hS4
  ·exact q (.put (10 ^ 18)) S3 ⟨by decide, by decide⟩ trivial hS3
 ·rw [if_neg (by decide +kernel), if_pos (by decide +kernel)]; exact q (.caught b) S3 hbn hb hS3
 ·rw [if_neg (by decide +kernel), if_neg (by decide +kernel), if_neg (by decide +kernel), if_neg (by decide +kernel)]; exact q (.use b i) S3 ⟨hbn, i0, hb1⟩ hb hS3
theorem a1o {zs : List Str} {m : Int} (h : RS S0 n S) (h0 : zs ≠ []) (h1 : zs.length ≤ 4) (hz : ∀ z ∈ zs, cW z) (m0 : 0 ≤ m) (m1 : m ≤ 100) (q : ∀ (rs : List Row) S', rs.length ≤ m.toNat → (∀ r ∈ rs, r.ok ∧ r.inn zs) → RS S0 n S' → Q (.lst (rs.map Row.d)) S') : (wL [.ref n, .lst (zs.map D.str), .int m] S).al Q E := by
 unfold wL Gi
 simp!
 refine jJ h (by omega) (by omega) fun d S1 d0 d1 hS1 => ?_
 simp! [yQ (show 0 ≤ d ∧ d < 2 ^ 62 by omega), bO]
 refine Pk (fun j acc S => RS S0 n S ∧ ∃ rs : List Row, acc = rs.map Row.d ∧ rs.length = j ∧ ∀ r ∈ rs, r.ok ∧ r.inn zs) ⟨hS1, [], rfl, rfl, nofun⟩ ?_ ?_
 ·rintro j e acc S3 hd ⟨h3, rs, rfl, hj, hc⟩
  obtain ⟨rfl, hj2⟩ := yR hd
  refine ⟨_, rfl, ?_⟩
  simp!
  refine a1m h3 h0 h1 hz fun r S4 hr hi h4 => ?_
  refine ⟨by rw [List.length_map]; omega, h4, rs ++ [r], by rw [List.map_append]; rfl, by simp [hj], fun z hz => ?_⟩
  rcases List.mem_append.mp hz with hz | hz
  ·exact hc z hz
  ·rw [List.mem_singleton.mp hz]; exact ⟨hr, hi⟩
 ·rintro ys S3 ⟨h3, rs, rfl, hj, hc⟩
  rw [Bh] at hj
  exact q rs S3 (by omega) hc h3
end
end Rc
namespace Rg
open bA hiding top
open PySem PySem.Spec PyProof.Rows L2 Mi Rc
theorem Uk : eG = Rc.eG := rfl
def JS : Rc.Row → Bool
 | .out _ => true
 | .put _ => true
 | _ => false
def val : Rc.Row → Int
 | .out v => v
 | .put v => v
 | _ => 0
def JT : Rc.Row → Bool
 | .put _ => true
 | _ => false
def pl : Rc.Row → Rc.Row
 | .out _ => .step
 | r => r
def isF : Rc.Row → Bool
 | .use b _ => !(b == "steps")
 | .back b _ => !(b == "steps")
 | .give b _ => !(b == "steps")
 | _ => false
def nm : Rc.Row → Str
 | .use b _ => b
 | .back b _ => b
 | .give b _ => b
 | _ => Str.empty
def outs (rs : List Rc.Row) : List Int := (rs.filter JS).map val
def kY (rs : List Rc.Row) : List Rc.Row := (rs.filter fun r => !JT r).map pl
def sS (rs : List Rc.Row) : List Rc.Row := kY rs ++ (outs rs).map Rc.Row.put
def oX (rs : List Rc.Row) : List Str := nA (fZ ((rs.filter isF).map nm))
def vg (rs : List Rc.Row) (b : Str) : Int := (su b rs).2
def gives (rs : List Rc.Row) : List Rc.Row := ((oX rs).filter fun b => !(vg rs b == 0)).map fun b => .give b (vg rs b)
def catchR (rs : List Rc.Row) (b : Str) (k : Str) : List Rc.Row := kY rs ++ [Rc.Row.caught b] ++ (if k == "restore" then gives rs else [])
theorem vh {α : Type} {vs : List Nat} {g : GX} {t : BX} {e : EX} {ρ : aN} {S : Store} {CQ : α → D} {p : α → Bool} {f : α → D} : ∀ (rs : List α) (acc : List D), (∀ r ∈ rs, ∃ q, g (CQ r) ρ S = some (q, S) ∧ t q S = .ok (p r) S ∧ (p r = true → e q S = .ok (f r) S)) → acc.length + rs.length ≤ sizeLine → bG vs g t e ρ (rs.map CQ) acc S = .ok (acc ++ (rs.filter p).map f) S
 | [], acc, _, _ => by simp [bG]
 | r :: rs, acc, h, hl => by
  rw [List.length_cons] at hl
  obtain ⟨q, e1, e2, e3⟩ := h r List.mem_cons_self
  have h' := fun x hx => h x (List.mem_cons_of_mem _ hx)
  rw [List.map_cons]
  unfold bG
  rw [e1]
  simp only [e2]
  cases hp : p r with
  | false =>
   simp only
   rw [vh rs acc h' (by omega), List.filter_cons_of_neg (by simp [hp])]
  | true =>
   simp only [e3 hp]
   rw [if_pos (by omega), vh rs _ h' (by rw [List.length_append, List.length_singleton]; omega), List.filter_cons_of_pos hp, List.map_cons, List.append_assoc]
   rfl
section
variable {S : Store} {d : D} {rs : List Rc.Row} {b : Str}
def ws : List Str := ["step", "use", "back", "give", "out", "put", "caught"]
theorem a1p : ∀ w ∈ ws, ∀ c ∈ w.cps.toList, c < 0x110000 := by decide +kernel
theorem sU {w : Str} (h : w ∈ ws) : ∀ c ∈ w.cps.toList, c < 0x110000 := a1p w h
theorem vm {x : Str} (h : x ∈ ws) : eV S (.str x) (.tup [.str "out", .str "put"]) = some (.bl (("out" : Str) == x || ("put" == x || false))) :=
 Hh (sU h) (sU (by decide +kernel)) (sU (by decide +kernel))
theorem sV {x : Str} (h : x ∈ ws) : eV S (.str x) (.tup [.str "use", .str "back", .str "give"]) = some (.bl (("use" : Str) == x || ("back" == x || ("give" == x || false)))) :=
 JP (sU h) (sU (by decide +kernel)) (sU (by decide +kernel)) (sU (by decide +kernel))
theorem JU : (("step" : Str) == "step") = true ∧ (("step" : Str) == "use") = false ∧ (("step" : Str) == "back") = false ∧ (("step" : Str) == "give") = false ∧ (("step" : Str) == "out") = false ∧ (("step" : Str) == "put") = false ∧ (("step" : Str) == "caught") = false := by decide +kernel
theorem JV : (("use" : Str) == "step") = false ∧ (("use" : Str) == "use") = true ∧ (("use" : Str) == "back") = false ∧ (("use" : Str) == "give") = false ∧ (("use" : Str) == "out") = false ∧ (("use" : Str) == "put") = false ∧ (("use" : Str) == "caught") = false := by decide +kernel
theorem JW : (("back" : Str) == "step") = false ∧ (("back" : Str) == "use") = false ∧ (("back" : Str) == "back") = true ∧ (("back" : Str) == "give") = false ∧ (("back" : Str) == "out") = false ∧ (("back" : Str) == "put") = false ∧ (("back" : Str) == "caught") = false := by decide +kernel
theorem JX : (("give" : Str) == "step") = false ∧ (("give" : Str) == "use") = false ∧ (("give" : Str) == "back") = false ∧ (("give" : Str) == "give") = true ∧ (("give" : Str) == "out") = false ∧ (("give" : Str) == "put") = false ∧ (("give" : Str) == "caught") = false := by decide +kernel
theorem JY : (("out" : Str) == "step") = false ∧ (("out" : Str) == "use") = false ∧ (("out" : Str) == "back") = false ∧ (("out" : Str) == "give") = false ∧ (("out" : Str) == "out") = true ∧ (("out" : Str) == "put") = false ∧ (("out" : Str) == "caught") = false := by decide +kernel
theorem JZ : (("put" : Str) == "step") = false ∧ (("put" : Str) == "use") = false ∧ (("put" : Str) == "back") = false ∧ (("put" : Str) == "give") = false ∧ (("put" : Str) == "out") = false ∧ (("put" : Str) == "put") = true ∧ (("put" : Str) == "caught") = false := by decide +kernel
theorem K6 : (("caught" : Str) == "step") = false ∧ (("caught" : Str) == "use") = false ∧ (("caught" : Str) == "back") = false ∧ (("caught" : Str) == "give") = false ∧ (("caught" : Str) == "out") = false ∧ (("caught" : Str) == "put") = false ∧ (("caught" : Str) == "caught") = true := by decide +kernel
theorem Ul {a : D} : dTup [a] = some (.tup [a]) := rfl
theorem dt2 {a b : D} : dTup [a, b] = some (.tup [a, b]) := rfl
theorem Um {a b c : D} : dTup [a, b, c] = some (.tup [a, b, c]) := rfl
theorem K7 {w : Str} {xs : List D} : aV S (.tup (.str w :: xs)) (.int 0) = some (.str w) := by rw [EY]; exact at0
theorem a1q (e : itemsOf d = some (rs.map Rc.Row.d)) (h : ∀ r ∈ rs, r.fj) (hl : rs.length ≤ 100000) : fQ [d] S = .ok (.lst ((outs rs).map D.int)) S := by
 refine al_eq ?_
 unfold fQ qC
 have hc : ∀ x, bG [1] (aM 1) (aQ (aC eV (aC aV (ak 1) (mC (.int 0))) (aR (aj (mC (.str "out")) (aj (mC (.str "put")) ao))))) (aC aV (ak 1) (mC (.int 1))) [.sh d, x] (rs.map Rc.Row.d) [] S = .ok ((outs rs).map D.int) S := fun x => by
  rw [vh (p := JS) (f := fun r => .int (val r)) rs [] (fun r hr => by
   refine ⟨[.sh d, .sh r.d], rfl, ?_, ?_⟩
   ·cases r <;> simp only [aQ, aC, ak, mC, aR, Ul, dt2, Um, aj, ao, Rc.Row.d, List.getElem?_cons_succ, List.getElem?_cons_zero, R.bind, R.opt, K7, vm (x := "step") (by decide +kernel), vm (x := "use") (by decide +kernel), vm (x := "back") (by decide +kernel), vm (x := "give") (by decide +kernel), vm (x := "out") (by decide +kernel), vm (x := "put") (by decide +kernel), vm (x := "caught") (by decide +kernel), JU, JV, JW, JX, JY, JZ, K6, Bool.or_false, Bool.or_true, Bool.true_or, ji, JS]
   ·intro hp
    cases r <;> first | rfl | (cases hp; done)) (by rw [List.length_nil, sizeLine_eq]; omega)]
  unfold outs
  rw [List.nil_append, List.map_map]
  rfl
 simp! [e, Uk, CP e h, bO, hc]
theorem Uo (e : itemsOf d = some (rs.map Rc.Row.d)) (hl : rs.length ≤ 100000) : lV [d] S = .ok (.lst ((kY rs).map Rc.Row.d)) S := by
 refine al_eq ?_
 unfold lV Gv
 have hc : ∀ x, bG [1] (aM 1) (aQ (aC iQ (aC aV (ak 1) (mC (.int 0))) (mC (.str "put")))) (gH (aQ (aC bQ (aC aV (ak 1) (mC (.int 0))) (mC (.str "out")))) (aR (aj (mC (.str "step")) ao)) (ak 1)) [.sh d, x] (rs.map Rc.Row.d) [] S = .ok ((kY rs).map Rc.Row.d) S := fun x => by
  rw [vh (p := fun r => !JT r) (f := fun r => (pl r).d) rs [] (fun r hr => by
   refine ⟨[.sh d, .sh r.d], rfl, ?_, ?_⟩
   ·cases r <;> simp only [aQ, aC, ak, mC, Rc.Row.d, List.getElem?_cons_succ, List.getElem?_cons_zero, R.bind, R.opt, K7, EW, JU, JV, JW, JX, JY, JZ, K6, Bool.not_true, Bool.not_false, ji, JT]
   ·intro hp
    cases r <;> first | (cases hp; done) | simp only [gH, aQ, aC, ak, mC, aR, Ul, dt2, Um, aj, ao, Rc.Row.d, pl, List.getElem?_cons_succ, List.getElem?_cons_zero, R.bind, R.opt, K7, EV, JU, JV, JW, JX, JY, JZ, K6, ji, Bool.false_eq_true, if_true, if_false]) (by rw [List.length_nil, sizeLine_eq]; omega)]
  unfold kY
  rw [List.nil_append, List.map_map]
  rfl
 simp! [e, bO, hc]
theorem K8 : (outs rs).length ≤ rs.length := by unfold outs; rw [List.length_map]; exact List.length_filter_le ..
theorem plain_len : (kY rs).length ≤ rs.length := by unfold kY; rw [List.length_map]; exact List.length_filter_le ..
theorem a1r {vs : List Int} {x y : Sl} (hl : vs.length ≤ 100000) : bG [2] (aM 2) eX (aR (aj (mC (.str "put")) (aj (ak 2) ao))) [x, y, .un] (vs.map D.int) [] S = .ok ((vs.map Rc.Row.put).map Rc.Row.d) S := by
 rw [vh (p := fun _ => true) (f := fun v => (Rc.Row.put v).d) vs [] (fun v hv => ⟨[x, y, .sh (.int v)], rfl, rfl, fun _ => rfl⟩) (by rw [List.length_nil, sizeLine_eq]; omega), List.filter_eq_self.mpr (fun _ _ => rfl), List.nil_append, List.map_map]
 rfl
end
end Rg
namespace Rg
open bA hiding top
open PySem PySem.Spec PyProof.Rows L2 Mi Rc
variable {rs : List Rc.Row} {b : Str}
theorem Ui (r : Rc.Row) (xs : List Rc.Row) : su b (r :: xs) = jn (i9 b (0, 0) r) (su b xs) := by
 have hv0 : Rc.V (i9 b (0, 0) r) := by unfold Rc.V i9; simp only; omega
 exact (zM b xs _ hv0).1
theorem keep_ne : ((("keep" : Str) == "restore") = false) ∧ ((("restore" : Str) == "restore") = true) := by decide +kernel
theorem a1s {l : List Str} {k x : Str} : x ∈ i7 l k ↔ x ∈ l ∨ x = k := by
 unfold i7
 split
 ·rename_i h
  exact ⟨.inl, fun z => z.elim id fun e => e ▸ h⟩
 ·rw [List.mem_cons]; exact ⟨fun z => z.symm, fun z => z.symm⟩
theorem a1t {l : List Str} {k : Str} (h : l.Nodup) : (i7 l k).Nodup := by
 unfold i7
 split
 ·exact h
 ·rename_i hn; exact List.nodup_cons.mpr ⟨hn, h⟩
theorem K9 : ∀ (xs acc : List Str), acc.Nodup → (xs.foldl i7 acc).Nodup ∧ ∀ x, x ∈ xs.foldl i7 acc ↔ x ∈ acc ∨ x ∈ xs
 | [], acc, h => ⟨h, fun x => by simp⟩
 | k :: xs, acc, h => by
  obtain ⟨h1, h2⟩ := K9 xs (i7 acc k) (a1t h)
  refine ⟨h1, fun x => ?_⟩
  rw [List.foldl_cons, h2 x, a1s, List.mem_cons, or_assoc]
theorem a1u : (oX rs).Nodup := by
 unfold oX
 exact (z9 _).nodup_iff.mpr (K9 _ [] List.nodup_nil).1
theorem Uq {x : Str} : x ∈ oX rs ↔ ∃ r ∈ rs, isF r = true ∧ nm r = x := by
 unfold oX
 rw [(z9 _).mem_iff]
 show x ∈ List.foldl i7 [] _ ↔ _
 rw [(K9 _ [] List.nodup_nil).2 x]
 constructor
 ·rintro (h | h)
  ·cases h
  ·obtain ⟨r, hr, e⟩ := List.mem_map.mp h
   exact ⟨r, (List.mem_filter.mp hr).1, (List.mem_filter.mp hr).2, e⟩
 ·rintro ⟨r, h1, h2, h3⟩
  exact .inr (List.mem_map.mpr ⟨r, List.mem_filter.mpr ⟨h1, h2⟩, h3⟩)
theorem a1v : (oX rs).length ≤ rs.length := by
 unfold oX
 rw [(z9 _).length_eq]
 have := RX ((rs.filter isF).map nm)
 rw [List.length_map] at this
 exact Nat.le_trans this (List.length_filter_le ..)
theorem a1w (r : Rc.Row) (xs : List Rc.Row) : vg (r :: xs) b = used r b + vg xs b := by
 unfold vg
 rw [Ui]
 show (0 + used r b) + (su b xs).2 = _
 omega
end Rg
namespace Rg
open bA hiding top
open PySem PySem.Spec PyProof.Rows L2 Mi Rc
section
variable {S : Store} {d : D} {rs : List Rc.Row}
theorem Ur {xs ys : List Rc.Row} (hl : xs.length + ys.length ≤ 100000) : bM S (.lst (xs.map Rc.Row.d)) (.lst (ys.map Rc.Row.d)) = some (.lst ((xs ++ ys).map Rc.Row.d)) := by
 rw [EL (by rw [List.length_map, List.length_map, sizeLine_eq]; omega), List.map_append]
theorem a1x : (gives rs).length ≤ (oX rs).length := by unfold gives; rw [List.length_map]; exact List.length_filter_le ..
end
end Rg
namespace bA
open PySem PySem.Spec PyProof.Rows L2 Mi
local macro_rules
 | `(nofun) => `(by first | exact .inl rfl | exact .inr rfl)
 | `(nomatch 0) => `(⟨rfl, rfl, rfl, by decide +kernel, rfl, by decide +kernel, by decide +kernel⟩)
 | `(#[$i]) => `(MB (pv $i))
 | `(#[$i, $s]) => `(Wj (pg_name (i := $i) (($s).nd) rfl (by first | exact .inl rfl | exact .inr rfl)))
 | `(#[$i, $s, $e]) => `(MM (ps_set (i := $i) (($s).nd) rfl (by first | exact .inl rfl | exact .inr rfl) $e) (fun _ _ _ h => h))
 | `(#[0, $a, $b, 0]) => `(fun _ _ _ _ _ _ _ _ us ws hu hw => match us, ws, hu, hw with | $a, $b, _, _ => rfl)
 | `(#[1, $a, $b, 1]) => `(fun vs zs hv hz => match vs, zs, hv, hz with | $a, $b, _, _ => rfl)
 | `(#[1, $d, $g, $r, $x0]) => `(jD (ks := []) (idx := [0]) (n := 1) $d $g $r (by first | decide | omega) (takes_of rfl rfl rfl rfl) (fun _ _ _ _ _ _ _ _ us ws hu hw => match us, ws, hu, hw with | [_], [], _, _ => rfl) (aA $x0 aF) fD (bJ cD) cD (fun vs zs hv hz => match vs, zs, hv, hz with | [_], [], _, _ => rfl))
 | `(#[2, $d, $g, $r, $x0, $x1]) => `(jD (ks := []) (idx := [0, 1]) (n := 2) $d $g $r (by first | decide | omega) (takes_of rfl rfl rfl rfl) (fun _ _ _ _ _ _ _ _ us ws hu hw => match us, ws, hu, hw with | [_, _], [], _, _ => rfl) (aA $x0 (aA $x1 aF)) fD (bJ (bJ cD)) cD (fun vs zs hv hz => match vs, zs, hv, hz with | [_, _], [], _, _ => rfl))
 | `(#[3, $d, $g, $r, $x0, $x1, $x2]) => `(jD (ks := []) (idx := [0, 1, 2]) (n := 3) $d $g $r (by first | decide | omega) (takes_of rfl rfl rfl rfl) (fun _ _ _ _ _ _ _ _ us ws hu hw => match us, ws, hu, hw with | [_, _, _], [], _, _ => rfl) (aA $x0 (aA $x1 (aA $x2 aF))) fD (bJ (bJ (bJ cD))) cD (fun vs zs hv hz => match vs, zs, hv, hz with | [_, _, _], [], _, _ => rfl))
structure Txt (K : PySem.W.Frag) (mg : Str → Option Value) (w : World) : Prop where
 Us : mg "abs" = none
 Ka : mg "all" = none
 Ut : mg "bool" = none
 Uu : mg "dict" = none
 a1y : mg "divmod" = none
 a1z : mg "enumerate" = none
 Uv : mg "int" = none
 nU : mg "isinstance" = none
 nW : mg "len" = none
 a1A : mg "list" = none
 zR : mg "max" = none
 a1B : mg "min" = none
 zU : mg "range" = none
 vo : mg "repr" = none
 a1C : mg "sorted" = none
 Uw : mg "str" = none
 Ux : mg "tuple" = none
 a1D : mg "zip" = none
 Kc : ∃ t, mg "BACK" = some (.str "back" t)
 a1E : ∃ t, mg "CAUGHT" = some (.str "caught" t)
 Kd : ∃ t, mg "GIVE" = some (.str "give" t)
 a1F : ∃ t, mg "GREATEST_VALUE" = some (.int 1000000000000000000 t)
 a1G : ∃ t, mg "LETTERS" = some (.str "abcdefghijklmnopqrstuvwxyz" t)
 a1H : ∃ t, mg "MOST_LETTERS" = some (.int 8 t)
 Ke : ∃ t, mg "OUT" = some (.str "out" t)
 Kf : ∃ t, mg "PUT" = some (.str "put" t)
 a1I : ∃ t, mg "RESTORE" = some (.str "restore" t)
 Uy : ∃ t, mg "STEP" = some (.str "step" t)
 Kg : ∃ t, mg "STEPS" = some (.str "steps" t)
 Kh : ∃ t, mg "USE" = some (.str "use" t)
 a1J : ∃ a, mg "FORMS" = some (.ref a) ∧ KTab K (vU mg) w a fR
 CT : ∃ Ca, mg "ExactStopError" = some (.ref Ca) ∧ PySem.W.keepIn K (.ref Ca) = true
 zV : ∃ Ca, mg "InvalidAmount" = some (.ref Ca) ∧ PySem.W.keepIn K (.ref Ca) = true
 zW : ∃ Ca, mg "InvalidRow" = some (.ref Ca) ∧ PySem.W.keepIn K (.ref Ca) = true
 CU : ∃ Ca, mg "InvalidText" = some (.ref Ca) ∧ PySem.W.keepIn K (.ref Ca) = true
 a1K : ∃ Ca fI fd, Bp K mg "InvalidAmount" "InvalidAmount.__init__" tL "value" Ca fI fd
 a1L : ∃ Ca fI fd, Bp K mg "InvalidRow" "InvalidRow.__init__" tM "value" Ca fI fd
 Uz : ∃ Ba, mg "ExactStopError" = some (.ref Ba) ∧ Fg K Ba
 xE : uP K mg sH
 xT : rO K mg xT
 xU : rP K mg xU
 UA : wj K mg "value" sH
 BO : ∀ {Ca : Addr}, mg "InvalidAmount" = some (.ref Ca) → rQ K mg (.ref Ca) BO
 BP : ∀ {Ca : Addr}, mg "InvalidRow" = some (.ref Ca) → rQ K mg (.ref Ca) BP
section
variable {P : Program} {w : World} {K : PySem.W.Frag} {mg : Str → Option Value} {base : Heap}
theorem a1M : FnScope ["self", "value"] ["self", "value"] (defScope tL) := nomatch 0
theorem a1N {Ca fI : Addr} {fd : FuncData} (T : Txt K mg w) (E : Bp K mg "InvalidAmount" "InvalidAmount.__init__" tL "value" Ca fI fd) : fJ P w K mg base 1 fI fd ["self", "value"] (spI ⟨K, mg, w, []⟩ Ca G7.length SY G7) := by
 obtain ⟨Ba, hB, BI⟩ := T.Uz
 exact QV E.F a1M E.o E.f rfl fun cdv A outer s H E hg hr => ⟨ps_expr (QU hB BI (pa_cons (pv 0) (pa_cons (QJ (.cons (bF) (.cons (QH hg (d7 hr) #[1]) (rM.nil)))) pa_nil))), ps_ost (pv 0) (pv 1)⟩
theorem a1O : FnScope ["self", "value"] ["self", "value"] (defScope tM) := nomatch 0
theorem a1P {Ca fI : Addr} {fd : FuncData} (T : Txt K mg w) (E : Bp K mg "InvalidRow" "InvalidRow.__init__" tM "value" Ca fI fd) : fJ P w K mg base 1 fI fd ["self", "value"] (spI ⟨K, mg, w, []⟩ Ca BQ.length uZ BQ) := by
 obtain ⟨Ba, hB, BI⟩ := T.Uz
 exact QV E.F a1O E.o E.f rfl fun cdv A outer s H E hg hr => ⟨ps_expr (QU hB BI (pa_cons (pv 0) (pa_cons (QJ (.cons (bF) (.cons (QH hg (d7 hr) #[1]) (rM.nil)))) pa_nil))), ps_ost (pv 0) (pv 1)⟩
theorem a1Q : FnScope T5 zq (defScope nY) := nomatch 0
theorem a1R {x : Str} {fa : Addr} {fd : FuncData} (T : Txt K mg w) (F : Fun K "is_integer" "is_integer" nY fa fd) (hm : mg x = some (.ref fa)) : aJ P w K mg base 1 x nY zq nM := by
 refine ⟨fa, _, "is_integer", fd, F, hm, fn_ok F a1Q fun cdv A outer s H E hg hr => ?_⟩
 unfold T6
 have hu1 := d7 hr
 have hu0 := dY hr
 exact bu (bZ (qO (cI call_isi uD T.nU (by decide +kernel) (aA #[0] (aA (tV T.Uv (by decide +kernel)) (aF)))) (qN (Aq (cI call_isi uD T.nU (by decide +kernel) (aA #[0] (aA (tV T.Ut (by decide +kernel)) (aF))))))))
theorem Kl : FnScope G8 zu (defScope nZ) := nomatch 0
theorem a1S {x : Str} {fa : Addr} {fd : FuncData} (T : Txt K mg w) (F : Fun K "power" "power" nZ fa fd) (hm : mg x = some (.ref fa)) (Km : aJ P w K mg base 1 "is_integer_records" nY zq nM) : aJ P w K mg base 3 x nZ zu jm := by
 obtain ⟨a92, a93, a94, xr⟩ := T.a1K
 refine ⟨fa, _, "power", fd, F, hm, fn_ok F Kl fun cdv A outer s H E hg hr => ?_⟩
 unfold zA
 have hu1 := d7 hr
 have hu0 := dY hr
 exact aY (iz (oE (tZ (qM (tX #[1, Km, hg, hr, #[1]])) (xX (cR DP DQ #[1] (aG))))) (bu (QX rfl (takes_of rfl rfl rfl rfl) xr.o xr.i xr.t (a1N T xr) hg hr (by decide) (QY xr.F (ps := ["self", "value"]) (n := 2) #[0, [_, _], [], 0] rfl) xr.m (aA #[1] (aF)))) (iJ)) <|
  aY (iz (cR (or_eq hu0) gY #[1] (aG)) (bu (bZ (bH (aA (aG) (aA (aG) (aF)))))) (iJ)) <|
  aY (pQ #[0] (qU (n := 2) rfl (j7 #[2, Kl] (j7 #[3, Kl] (qT))) (fX (fX (nj))))) <|
  bu (bZ (bH (aA (bK gQ gR #[2] (cI (call_max2 rfl) yu T.zR (by decide +kernel) (aA (aG) (aA (bK uo uv (bK op_sub uh #[1] (aG)) #[3]) (aF))))) (aA (bK uo uv #[1] #[3]) (aF)))))
theorem UC : FnScope T7 BR (defScope oZ) := nomatch 0
theorem a1T {x : Str} {fa : Addr} {fd : FuncData} (T : Txt K mg w) (F : Fun K "_law_rng" "_law_rng" oZ fa fd) (hm : mg x = some (.ref fa)) : aJ P w K mg base 1 x oZ BR BU := by
 refine ⟨fa, _, "_law_rng", fd, F, hm, fn_ok F UC fun cdv A outer s H E hg hr => ?_⟩
 unfold T8
 have hu1 := d7 hr
 have hu0 := dY hr
 exact aY #[2, UC, u5 (cR DP DQ #[1] (cI mY mZ T.nW (by decide +kernel) (aA #[0] (aF)))) (bW #[0] #[1]) (bK gQ gR (bK uo uv (aG) #[1]) (aG))] <|
  bu (bZ (Dt (eO (aA (cI (call_max2 rfl) yu T.zR (by decide +kernel) (aA (aG) (aA (bK op_sub uh (cI call_abs Nr T.Us (by decide +kernel) (aA #[2] (aF))) (bK op_pow rA (aG) (aG))) (aF)))) (aA (bK gQ gR (bK gQ gR (bK op_modN AH (cI call_abs Nr T.Us (by decide +kernel) (aA #[2] (aF))) (aG)) (bK uo uv (aG) #[1])) (aG)) (aF))))))
theorem UD : FnScope T9 oO (defScope jw) := nomatch 0
theorem a1U {x : Str} {fa : Addr} {fd : FuncData} (T : Txt K mg w) (F : Fun K "_law_draw" "_law_draw" jw fa fd) (hm : mg x = some (.ref fa)) : aJ P w K mg base 1 x jw oO eU := by
 refine ⟨fa, _, "_law_draw", fd, F, hm, fn_ok F UD fun cdv A outer s H E hg hr => ?_⟩
 unfold Tc
 have hu1 := d7 hr
 have hu0 := dY hr
 exact aY (iz (cR Nf Nh (bW #[0] (aG)) (aG)) (aY (pQ (cI call_divmod WW T.a1y (by decide +kernel) (aA (bW #[0] (aG)) (aA #[1] (aF)))) (qU (n := 2) rfl (j7 (NB (W := W0) #[0] (aG)) (j7 #[2, UD] (qT))) (fX (fX (nj))))) <|
  bu (bZ #[2])) (iJ)) <|
  aY (pQ (bK op_modN AH (bK gQ gR (bK uo uv (bW #[0] (aG)) (aG)) (aG)) (aG)) (NB (W := W0) #[0] (aG))) <|
  bu (bZ (bK op_modN AH (bK op_fdivN WD (bK op_modN AH (bK uo uv (bW #[0] (aG)) (bW #[0] (aG))) (aG)) (aG)) #[1]))
theorem lX : FnScope BV BW (defScope m7) := nomatch 0
theorem a1V {x : Str} {fa : Addr} {fd : FuncData} (T : Txt K mg w) (F : Fun K "_law_names" "_law_names" m7 fa fd) (hm : mg x = some (.ref fa)) (fu : aJ P w K mg base 1 "_law_draw" jw oO eU) : aJ P w K mg base 2 x m7 BW wG := by
 refine ⟨fa, _, "_law_names", fd, F, hm, fn_ok F lX fun cdv A outer s H E hg hr => ?_⟩
 unfold G9
 have hu1 := d7 hr
 have hu0 := dY hr
 exact aY #[2, lX, bF] <|
  aY (As (ps_set (i := 3) lX.nd rfl nofun (eO (aF))) (fun _ _ _ h => h)) <|
  aY (pW (passes_of rfl) rfl (yH T.zU (aA #[1] (aF))) #[4, lX] (aY #[5, lX, bW (cC (eO (aA (aG) (aA (aG) (aA (aG) (aA (aG) (aF))))))) #[2, fu, hg, hr, #[0], aG]] <|
  aY #[6, lX, X7 PySem.F.slot_str_join PySem.F.type_str_join mt_join X8 (bF) (aA (cC (jX (own := [("_law_turn", 7)]) rfl lX.nd (yH T.zU (aA #[5] (aF))) (blkOk_by (N := BV) (sc := defScope m7) (by decide +kernel)) ⟨fun _ _ _ _ _ => pg_name (i := 7) lX.nd rfl nofun, jP, fun _ _ _ _ _ => mU pts_nil fun σ H Q h => mV h, fun _ _ _ _ _ => bW #[2] (jD (ks := []) (idx := [0, 1]) (n := 2) fu hg hr (by decide) takes0 #[0, [_, _], [], 0] (aA #[0] (aA (aG) (aF))) (fD) (bJ (bJ (cD))) (cD) #[1, [_, _], [], 1])⟩)) (aF))] <|
  aY (iz (cR (or_eq hu0) gY #[2, fu, hg, hr, #[0], aG] (aG)) (bu #[6, lX, bW (cC (eO (aA (bF) (aA (bF) (aA (bF) (aA (bF) (aA (bF) (aA (bF) (aA (bF) (aA (bF) (aF))))))))))) #[2, fu, hg, hr, #[0], aG]]) (iJ)) <|
  aY (iz (oE (tZ (VM (cR (qd hu1) qj #[6] #[3] (by with_unfolding_all rfl))) (xX (cR (or_eq hu0) gY #[6] (bF))))) (bu #[6, lX, Ds (bW (cC (jX (own := [("_law_letter", 8)]) rfl lX.nd (j8 #[2]) (blkOk_by (N := BV) (sc := defScope m7) (by decide +kernel)) ⟨fun _ _ _ _ _ => pg_name (i := 8) lX.nd rfl nofun, jP, fun _ _ _ _ _ => pts_one (cR (WQ hu1) WR (bK gQ gR #[8] (bF)) #[3] (by with_unfolding_all rfl)), fun _ _ _ _ _ => bK gQ gR #[8] (bF)⟩)) (aG))]) (iJ)) <|
  bu (jH (i := 3) (pv 3) #[6]))) <|
  bu (Wf (pv 3))
theorem a1W : FnScope Td BZ (defScope pq) := nomatch 0
theorem a1X {x : Str} {fa : Addr} {fd : FuncData} (T : Txt K mg w) (F : Fun K "_law_funds" "_law_funds" pq fa fd) (hm : mg x = some (.ref fa)) (fu : aJ P w K mg base 1 "_law_draw" jw oO eU) (a1Y : aJ P w K mg base 2 "_law_names" m7 BW wG) : aJ P w K mg base 3 x pq BZ wH := by
 refine ⟨fa, _, "_law_funds", fd, F, hm, fn_ok F a1W fun cdv A outer s H E hg hr => ?_⟩
 unfold Ge
 have hu1 := d7 hr
 have hu0 := dY hr
 exact bu (bZ (bK gQ gR (cC (eO (aA (bF) (aF)))) #[2, a1Y, hg, hr, #[0], bK gQ gR (aG) #[2, fu, hg, hr, #[0], aG]]))
theorem UE : FnScope Tf C3 (defScope pA) := nomatch 0
theorem a1Z {x : Str} {fa : Addr} {fd : FuncData} (T : Txt K mg w) (F : Fun K "_law_number" "_law_number" pA fa fd) (hm : mg x = some (.ref fa)) (fu : aJ P w K mg base 1 "_law_draw" jw oO eU) : aJ P w K mg base 2 x pA C3 wI := by
 refine ⟨fa, _, "_law_number", fd, F, hm, fn_ok F UE fun cdv A outer s H E hg hr => ?_⟩
 unfold Gf
 have hu1 := d7 hr
 have hu0 := dY hr
 exact aY #[1, UE, cC (eO (aA #[2, fu, hg, hr, #[0], aG] (aA #[2, fu, hg, hr, #[0], aG] (aA (bK gQ gR (bK op_pow rA (aG) (aG)) (bK uo uv #[2, fu, hg, hr, #[0], aG] (bK op_pow rA (aG) (aG)))) (aF)))))] <|
  bu (bZ (bW #[1] (bW (cC (eO (aA (aG) (aA (aG) (aA (aG) (aA (aG) (aF))))))) #[2, fu, hg, hr, #[0], aG])))
theorem Ko : FnScope Tg C4 (defScope pB) := nomatch 0
theorem a2a {x : Str} {fa : Addr} {fd : FuncData} (T : Txt K mg w) (F : Fun K "_law_drawn_row" "_law_drawn_row" pB fa fd) (hm : mg x = some (.ref fa)) (fu : aJ P w K mg base 1 "_law_draw" jw oO eU) (a2b : aJ P w K mg base 2 "_law_number" pA C3 wI) : aJ P w K mg base 3 x pB C4 wJ := by
 refine ⟨fa, _, "_law_drawn_row", fd, F, hm, fn_ok F Ko fun cdv A outer s H E hg hr => ?_⟩
 unfold Gg
 have hu1 := d7 hr
 have hu0 := dY hr
 exact aY #[2, Ko, bW (cC (eO (aA (bF) (aA (bF) (aA (bF) (aA (bF) (aA (bF) (aA (bF) (aA (bF) (aA (bF) (aF))))))))))) #[2, fu, hg, hr, #[0], aG]] <|
  aY (Yc (i := 3) (j := 4) rfl Ko.nd rfl rfl (by decide) rfl rfl (aA (bW #[1] #[2, fu, hg, hr, #[0], cI mY mZ T.nW (by decide +kernel) (aA #[1] (aF))]) (aA #[1, a2b, hg, hr, #[0]] (aF)))) <|
  aY (iz (cR (or_eq hu0) gY #[2] (bF)) (bu (bZ (bH (aA #[2] (aF))))) (iJ)) <|
  aY (iz (cR (or_eq hu0) gY #[2] (bF)) (bu (bZ (bH (aA #[2] (aA #[3] (aF)))))) (iJ)) <|
  aY (iz (cR (qd hu1) qj #[2] (bH (aA (bF) (aA (bF) (aF)))) (by with_unfolding_all rfl)) (bu (bZ (bH (aA #[2] (aA (u5 (cR DP DQ #[4] (bK op_pow rA (aG) (aG))) (bW (cC (eO (aA (bK op_sub uh #[4] (aG)) (aA (bK op_pow rA (aG) (aG)) (aA (qL un_neg rB (bK op_pow rA (aG) (aG))) (aF)))))) #[2, fu, hg, hr, #[0], aG]) (bK op_pow rA (aG) (aG))) (aF)))))) (iJ)) <|
  aY (iz (cR (or_eq hu0) gY #[2] (bF)) (bu (bZ (bH (aA #[2] (aA #[3] (aA (bW (cC (eO (aA (bK gQ gR #[4] (aG)) (aA (bK op_sub uh (qL un_neg rB (aG)) #[4]) (aF))))) #[2, fu, hg, hr, #[0], aG]) (aF))))))) (iJ)) <|
  bu (bZ (bH (aA #[2] (aA #[3] (aA #[4] (aF))))))
theorem Kr : FnScope Gh C5 (defScope o7) := nomatch 0
theorem a2c {x : Str} {fa : Addr} {fd : FuncData} (T : Txt K mg w) (F : Fun K "_law_drawn_rows" "_law_drawn_rows" o7 fa fd) (hm : mg x = some (.ref fa)) (fu : aJ P w K mg base 1 "_law_draw" jw oO eU) (a2d : aJ P w K mg base 3 "_law_drawn_row" pB C4 wJ) : aJ P w K mg base 4 x o7 C5 wL := by
 refine ⟨fa, _, "_law_drawn_rows", fd, F, hm, fn_ok F Kr fun cdv A outer s H E hg hr => ?_⟩
 unfold Gi
 have hu1 := d7 hr
 have hu0 := dY hr
 exact bu (bZ (cC (jX (own := [("_law_turn", 3)]) rfl Kr.nd (yH T.zU (aA #[2, fu, hg, hr, #[0], bK gQ gR #[2] (aG)] (aF))) (blkOk_by (N := Gh) (sc := defScope o7) (by decide +kernel)) ⟨fun _ _ _ _ _ => pg_name (i := 3) Kr.nd rfl nofun, jP, fun _ _ _ _ _ => mU pts_nil fun σ H Q h => mV h, fun _ _ _ _ _ => jD (ks := []) (idx := [0, 1]) (n := 2) a2d hg hr (by decide) takes0 #[0, [_, _], [], 0] (aA #[0] (aA #[1] (aF))) (fD) (bJ (bJ (cD))) (cD) #[1, [_, _], [], 1]⟩)))
theorem xA : FnScope Tj a0q (defScope tO) := nomatch 0
theorem a2e {x : Str} {fa : Addr} {fd : FuncData} (T : Txt K mg w) (F : Fun K "_law_kind" "_law_kind" tO fa fd) (hm : mg x = some (.ref fa)) : zm P w K mg base 1 x "_law_call" je := by
 obtain ⟨a95, CT, CV⟩ := T.CT
 obtain ⟨a96, zV, Ks⟩ := T.zV
 obtain ⟨a97, zW, Ku⟩ := T.zW
 obtain ⟨a98, CU, CW⟩ := T.CU
 refine ⟨fa, _, "_law_kind", tO, fd, F, hm, fun s u => ?_, a0j (k := 0) (i := 1) F xA rfl (.inl rfl) rfl (by decide) (fun cdv A outer s H E hg hr => ⟨_, ps_set (i := 1) xA.nd rfl nofun (cC (eO (aA (bF) (aF)))), fun _ _ _ h => h⟩) (fun cdv A outer s H E hg hr => .cons ⟨rfl, by decide, .inl zW⟩ ⟨xA.nd, rfl, rfl⟩ (fun y b q Ca hc => rQ.at (T.BP zW) q hc) (fun a oe pn => bu #[1, xA, cC (eO (aA (bF) (aA (QT T.xE T.UA (pv 2)) (aA (qO (Bo T.xE T.xT T.xU (pv 2) (wk CT CV) T.nU (by decide +kernel)) (qN (Aq (Bo T.xE T.xT T.xU (pv 2) (bH (aA (wk zV Ks) (aA (wk CU CW) (aF)))) T.nU (by decide +kernel))))) (aF)))))]) (.cons ⟨rfl, by decide, .inl zV⟩ ⟨xA.nd, rfl, rfl⟩ (fun y b q Ca hc => rQ.at (T.BO zV) q hc) (fun a oe pn => bu #[1, xA, cC (eO (aA (bF) (aA (QT T.xE T.UA (pv 2)) (aA (qO (Bo T.xE T.xT T.xU (pv 2) (wk CT CV) T.nU (by decide +kernel)) (qN (Aq (Bo T.xE T.xT T.xU (pv 2) (bH (aA (wk zW Ku) (aA (wk CU CW) (aF)))) T.nU (by decide +kernel))))) (aF)))))]) (.nil))) (fun cdv A outer s H E hg hr => bu (bZ (cI (uE hg (d7 hr)) uF T.vo (by decide +kernel) (aA #[1] (aF)))))⟩
 obtain ⟨_, _, _, _, _, _, _, _, _, rfl, _, _⟩ := F.ex
 exact .of_eq rfl
theorem Kv : FnScope Gj C6 (defScope o8) := nomatch 0
theorem a2f {x : Str} {fa : Addr} {fd : FuncData} (T : Txt K mg w) (F : Fun K "is_name" "is_name" o8 fa fd) (hm : mg x = some (.ref fa)) : aJ P w K mg base 1 x o8 C6 qw := by
 obtain ⟨a2g, a2h⟩ := T.a1G
 obtain ⟨a2i, a2j⟩ := T.a1H
 refine ⟨fa, _, "is_name", fd, F, hm, fn_ok F Kv fun cdv A outer s H E hg hr => ?_⟩
 unfold Gk
 have hu1 := d7 hr
 have hu0 := dY hr
 exact aY (iz (oE (tZ (qM (tX (cI call_isi uD T.nU (by decide +kernel) (aA #[0] (aA (tV T.Uw (by decide +kernel)) (aF)))))) (xX (qM (W6 yj yq yj yq (aG) (cI mY mZ T.nW (by decide +kernel) (aA #[0] (aF))) (dF (v := .int 8) a2j ⟨_, rfl⟩ (fun _ _ _ => .int _))))))) (bu (bZ (mO))) (iJ)) <|
  bu (bZ (cI (cr_all rfl) E3 T.Ka (by decide +kernel) (aA (cC (jX (own := [("letter", 1)]) rfl Kv.nd (j8 #[0]) (blkOk_by (N := Gj) (sc := defScope o8) (by decide +kernel)) ⟨fun _ _ _ _ _ => pg_name (i := 1) Kv.nd rfl nofun, jP, fun _ _ _ _ _ => mU pts_nil fun σ H Q h => mV h, fun _ _ _ _ _ => qK (qd hu1) qj #[1] (dF (v := .str "abcdefghijklmnopqrstuvwxyz") a2h ⟨_, rfl⟩ (fun _ _ _ => .str _)) (by with_unfolding_all rfl)⟩)) (aF))))
theorem a2k : FnScope Tn C7 (defScope pC) := nomatch 0
theorem a2l {x : Str} {fa : Addr} {fd : FuncData} (T : Txt K mg w) (F : Fun K "is_integer" "is_integer" pC fa fd) (hm : mg x = some (.ref fa)) : aJ P w K mg base 1 x pC C7 C9 := by
 refine ⟨fa, _, "is_integer", fd, F, hm, fn_ok F a2k fun cdv A outer s H E hg hr => ?_⟩
 unfold To
 have hu1 := d7 hr
 have hu0 := dY hr
 exact bu (bZ (qO (cI call_isi uD T.nU (by decide +kernel) (aA #[0] (aA (tV T.Uv (by decide +kernel)) (aF)))) (qN (Aq (cI call_isi uD T.nU (by decide +kernel) (aA #[0] (aA (tV T.Ut (by decide +kernel)) (aF))))))))
theorem a2m : FnScope Cd Ce (defScope pD) := nomatch 0
theorem a2n {x : Str} {fa : Addr} {fd : FuncData} (T : Txt K mg w) (F : Fun K "is_value" "is_value" pD fa fd) (hm : mg x = some (.ref fa)) (a2o : aJ P w K mg base 1 "is_integer_names" pC C7 C9) : aJ P w K mg base 2 x pD Ce oR := by
 obtain ⟨a2p, UG⟩ := T.a1F
 refine ⟨fa, _, "is_value", fd, F, hm, fn_ok F a2m fun cdv A outer s H E hg hr => ?_⟩
 unfold v5
 have hu1 := d7 hr
 have hu0 := dY hr
 exact bu (bZ (qO #[1, a2o, hg, hr, #[0]] (qN (W4 yj yq yj yq (qL un_neg rB (dF (v := .int 1000000000000000000) UG ⟨_, rfl⟩ (fun _ _ _ => .int _))) #[0] (dF (v := .int 1000000000000000000) UG ⟨_, rfl⟩ (fun _ _ _ => .int _))))))
theorem a2q : FnScope Cg Ci (defScope pF) := nomatch 0
theorem a2r {x : Str} {fa : Addr} {fd : FuncData} (T : Txt K mg w) (F : Fun K "fits" "fits" pF fa fd) (hm : mg x = some (.ref fa)) (a2s : aJ P w K mg base 1 "is_name" o8 C6 qw) (a2t : aJ P w K mg base 2 "is_value" pD Ce oR) (Km : aJ P w K mg base 1 "is_integer_records" nY zq nM) : aJ P w K mg base 3 x pF Ci lU := by
 refine ⟨fa, _, "fits", fd, F, hm, fn_ok F a2q fun cdv A outer s H E hg hr => ?_⟩
 unfold v7
 have hu1 := d7 hr
 have hu0 := dY hr
 exact aY (iz (cR (or_eq hu0) gY #[0] (bF)) (bu (bZ #[1, a2s, hg, hr, #[1]])) (iJ)) <|
  aY (iz (cR (or_eq hu0) gY #[0] (bF)) (bu (bZ #[1, a2t, hg, hr, #[1]])) (iJ)) <|
  bu (bZ (qO #[1, Km, hg, hr, #[1]] (qN (u5 (cR (or_eq hu0) gY #[0] (bF)) (qK WG WH #[1] (aG)) (qK (vQ hu0) vR #[1] (aG))))))
theorem xB : FnScope zB zE (defScope m9) := nomatch 0
theorem a2u {x : Str} {fa : Addr} {fd : FuncData} (T : Txt K mg w) (F : Fun K "is_row" "is_row" m9 fa fd) (hm : mg x = some (.ref fa)) (a2v : aJ P w K mg base 3 "fits" pF Ci lU) : aJ P w K mg base 4 x m9 zE fP := by
 obtain ⟨a99, Kw, Ky⟩ := T.a1J
 refine ⟨fa, _, "is_row", fd, F, hm, fn_ok F xB fun cdv A outer s H E hg hr => ?_⟩
 unfold v8
 have hu1 := d7 hr
 have hu0 := dY hr
 exact aY (iz (oE (tZ (qM (tX (cI call_isi uD T.nU (by decide +kernel) (aA #[0] (aA (tV T.Ux (by decide +kernel)) (aF)))))) (tZ (cR (or_eq hu0) gY #[0] (bH (aF))) (tZ (qM (tX (cI call_isi uD T.nU (by decide +kernel) (aA (bW #[0] (aG)) (aA (tV T.Uw (by decide +kernel)) (aF)))))) (xX (Xo Ky Kw (bW #[0] (aG)))))))) (bu (bZ (mO))) (iJ)) <|
  aY (pQ #[0] (XJ (i := 1) rfl (j7 #[1, xB] (XI #[2, xB])))) <|
  bu (bZ (qO (qK (or_eq hu0) gY (cI mY mZ T.nW (by decide +kernel) (aA #[2] (aF))) (cI mY mZ T.nW (by decide +kernel) (aA (O3 Ky Kw #[1]) (aF)))) (qN (cI (cr_all rfl) E3 T.Ka (by decide +kernel) (aA (cC (jX (own := [("sort", 3), ("part", 4)]) rfl xB.nd (Y5 T.a1D (aA (O3 Ky Kw #[1]) (aA #[2] (aF)))) (blkOk_by (N := zB) (sc := defScope m9) (by decide +kernel)) ⟨fun _ _ _ _ _ => pg_tup rfl (pgs_cons (pg_name (i := 3) xB.nd rfl nofun) (pgs_cons (pg_name (i := 4) xB.nd rfl nofun) (pgs_nil))), Eu (Et (n := 2) (vX (vW (by decide)) (vX (vW (by decide)) (Es))) (fX (fX (nj)))), fun _ _ _ _ _ => mU pts_nil fun σ H Q h => mV h, fun _ _ _ _ _ => jD (ks := []) (idx := [0, 1]) (n := 2) a2v hg hr (by decide) takes0 #[0, [_, _], [], 0] (aA #[3] (aA #[4] (aF))) (fD) (bJ (bJ (cD))) (cD) #[1, [_, _], [], 1]⟩)) (aF))))))
theorem UH : FnScope Cj sJ (defScope jW) := nomatch 0
theorem a2w {x : Str} {fa : Addr} {fd : FuncData} (T : Txt K mg w) (F : Fun K "require_rows" "require_rows" jW fa fd) (hm : mg x = some (.ref fa)) (Kz : aJ P w K mg base 4 "is_row" m9 zE fP) : aJ P w K mg base 5 x jW sJ eG := by
 obtain ⟨a9a, a9b, a9c, xC⟩ := T.a1L
 refine ⟨fa, _, "require_rows", fd, F, hm, fn_ok F UH fun cdv A outer s H E hg hr => ?_⟩
 unfold oU
 have hu1 := d7 hr
 have hu0 := dY hr
 exact bu (Z6 (pW (passes_of rfl) rfl (Z1 #[0]) #[1, UH] (bu (iz (qM (tX #[1, Kz, hg, hr, #[1]])) (bu (QX rfl (takes_of rfl rfl rfl rfl) xC.o xC.i xC.t (a1P T xC) hg hr (by decide) (QY xC.F (ps := ["self", "value"]) (n := 2) #[0, [_, _], [], 0] rfl) xC.m (aA #[1] (aF)))) (iJ)))))
theorem CY : FnScope Tp wM (defScope mj) := nomatch 0
theorem a2x {x : Str} {fa : Addr} {fd : FuncData} (T : Txt K mg w) (F : Fun K "used_by" "used_by" mj fa fd) (hm : mg x = some (.ref fa)) : aJ P w K mg base 1 x mj wM jK := by
 obtain ⟨KA, zX⟩ := T.Kc
 obtain ⟨KC, xD⟩ := T.Kd
 obtain ⟨KD, zY⟩ := T.Ke
 obtain ⟨UI, KG⟩ := T.Uy
 obtain ⟨KH, vp⟩ := T.Kg
 obtain ⟨KI, xF⟩ := T.Kh
 refine ⟨fa, _, "used_by", fd, F, hm, fn_ok F CY fun cdv A outer s H E hg hr => ?_⟩
 unfold Gm
 have hu1 := d7 hr
 have hu0 := dY hr
 exact aY #[2, CY, u5 (oE (xY (cR (or_eq hu0) gY #[1] (dF (v := .str "steps") vp ⟨_, rfl⟩ (fun _ _ _ => .str _))) (xW (cR (qd hu1) qj (bW #[0] (aG)) (bH (aA (dF (v := .str "step") KG ⟨_, rfl⟩ (fun _ _ _ => .str _)) (aA (dF (v := .str "use") xF ⟨_, rfl⟩ (fun _ _ _ => .str _)) (aA (dF (v := .str "out") zY ⟨_, rfl⟩ (fun _ _ _ => .str _)) (aF))))) (by with_unfolding_all rfl))))) (aG) (aG)] <|
  aY (iz (oE (xY (cR (or_eq hu0) gY (bW #[0] (aG)) (dF (v := .str "use") xF ⟨_, rfl⟩ (fun _ _ _ => .str _))) (xW (cR (or_eq hu0) gY (bW #[0] (aG)) #[1])))) (bu (Ef (i := 2) CY.nd rfl nofun iop_add NW (bW #[0] (aG)))) (bu (iz (oE (xY (cR (qd hu1) qj (bW #[0] (aG)) (bH (aA (dF (v := .str "back") zX ⟨_, rfl⟩ (fun _ _ _ => .str _)) (aA (dF (v := .str "give") xD ⟨_, rfl⟩ (fun _ _ _ => .str _)) (aF)))) (by with_unfolding_all rfl)) (xW (cR (or_eq hu0) gY (bW #[0] (aG)) #[1])))) (bu (Ef (i := 2) CY.nd rfl nofun iop_sub uh (bW #[0] (aG)))) (iJ)))) <|
  bu (bZ #[2])
theorem xG : FnScope Ck wN (defScope mD) := nomatch 0
theorem a2y {x : Str} {fa : Addr} {fd : FuncData} (T : Txt K mg w) (F : Fun K "summary_of" "summary_of" mD fa fd) (hm : mg x = some (.ref fa)) (qD : aJ P w K mg base 5 "require_rows" jW sJ eG) (xH : aJ P w K mg base 1 "used_by" mj wM jK) : aJ P w K mg base 6 x mD wN gA := by
 refine ⟨fa, _, "summary_of", fd, F, hm, fn_ok F xG fun cdv A outer s H E hg hr => ?_⟩
 unfold oV
 have hu1 := d7 hr
 have hu0 := dY hr
 exact aY (u6 #[1, qD, hg, hr, #[0]]) <|
  aY (pQ (bH (aA (aG) (aA (aG) (aF)))) (qU (n := 2) rfl (j7 #[3, xG] (j7 #[4, xG] (qT))) (fX (fX (nj))))) <|
  aY (pW (passes_of rfl) rfl (j8 #[0]) #[2, xG] (aY (Ef (i := 4) xG.nd rfl nofun iop_add NW #[2, xH, hg, hr, #[2], #[1]]) <|
  bu #[3, xG, cI (call_max2 rfl) yu T.zR (by decide +kernel) (aA #[3] (aA #[4] (aF)))])) <|
  bu (bZ (bH (aA #[3] (aA #[4] (aF)))))
theorem a2z : FnScope Tq Cm (defScope pG) := nomatch 0
theorem a2A {x : Str} {fa : Addr} {fd : FuncData} (T : Txt K mg w) (F : Fun K "budgets_of" "budgets_of" pG fa fd) (hm : mg x = some (.ref fa)) : aJ P w K mg base 1 x pG Cm wO := by
 obtain ⟨KA, zX⟩ := T.Kc
 obtain ⟨KC, xD⟩ := T.Kd
 obtain ⟨KH, vp⟩ := T.Kg
 obtain ⟨KI, xF⟩ := T.Kh
 refine ⟨fa, _, "budgets_of", fd, F, hm, fn_ok F a2z fun cdv A outer s H E hg hr => ?_⟩
 unfold Gp
 have hu1 := d7 hr
 have hu0 := dY hr
 exact bu (bZ (u5 (oE (xY (cR (qd hu1) qj (bW #[0] (aG)) (bH (aA (dF (v := .str "use") xF ⟨_, rfl⟩ (fun _ _ _ => .str _)) (aA (dF (v := .str "back") zX ⟨_, rfl⟩ (fun _ _ _ => .str _)) (aA (dF (v := .str "give") xD ⟨_, rfl⟩ (fun _ _ _ => .str _)) (aF))))) (by with_unfolding_all rfl)) (xW (cR (vQ hu0) vR (bW #[0] (aG)) (dF (v := .str "steps") vp ⟨_, rfl⟩ (fun _ _ _ => .str _)))))) (cC (eO (aA (dF (v := .str "steps") vp ⟨_, rfl⟩ (fun _ _ _ => .str _)) (aA (bW #[0] (aG)) (aF))))) (cC (eO (aA (dF (v := .str "steps") vp ⟨_, rfl⟩ (fun _ _ _ => .str _)) (aF))))))
theorem sW : FnScope Gr zF (defScope mF) := nomatch 0
theorem a2B {x : Str} {fa : Addr} {fd : FuncData} (T : Txt K mg w) (F : Fun K "first_failing" "first_failing" mF fa fd) (hm : mg x = some (.ref fa)) (qD : aJ P w K mg base 5 "require_rows" jW sJ eG) (xH : aJ P w K mg base 1 "used_by" mj wM jK) (a2C : aJ P w K mg base 1 "budgets_of" pG Cm wO) : aJ P w K mg base 6 x mF zF jo := by
 refine ⟨fa, _, "first_failing", fd, F, hm, fn_ok F sW fun cdv A outer s H E hg hr => ?_⟩
 unfold Cp
 have hu1 := d7 hr
 have hu0 := dY hr
 exact aY (u6 #[1, qD, hg, hr, #[0]]) <|
  aY #[2, sW, Dt (Du call_dictD Xk T.Uu (by decide +kernel) (aA #[1] (aF)))] <|
  aY (pW (passes_of rfl) rfl (Y6 T.a1z (aA #[0] (aF))) (qU (n := 2) rfl (j7 #[3, sW] (j7 #[4, sW] (qT))) (fX (fX (nj)))) (aY (MT (i := 5) (own := [("budget", 6)]) rfl sW.nd rfl rfl (sw_true rfl rfl rfl (by decide +kernel)) (j8 #[1, a2C, hg, hr, #[4]]) (blkOk_by (N := Gr) (sc := defScope mF) (by decide +kernel)) ⟨fun _ _ _ _ _ => pg_name (i := 6) sW.nd rfl nofun, jP, fun _ _ _ _ _ => pts_one (cR (YV hu1) YW #[6] #[2] (by with_unfolding_all rfl)), fun _ _ _ _ _ => MB (pv 6)⟩) <|
  aY (pW (passes_of rfl) rfl (j8 #[5]) #[6, sW] (bu (iz (cR Nf Nh #[2, xH, hg, hr, #[4], #[6]] (YQ hu0 #[2] #[6])) (bu (bZ (bH (aA #[3] (aA #[6] (aF)))))) (iJ)))) <|
  bu (pW (passes_of rfl) rfl (j8 #[5]) #[6, sW] (bu (YY hu0 ip_sub uh #[2] #[6] #[2, xH, hg, hr, #[4], #[6]]))))) <|
  bu (bZ (Dm))
theorem KJ : FnScope Cq wQ (defScope lA) := nomatch 0
theorem a2D {x : Str} {fa : Addr} {fd : FuncData} (T : Txt K mg w) (F : Fun K "outputs_of" "outputs_of" lA fa fd) (hm : mg x = some (.ref fa)) (qD : aJ P w K mg base 5 "require_rows" jW sJ eG) : aJ P w K mg base 6 x lA wQ fQ := by
 obtain ⟨KD, zY⟩ := T.Ke
 obtain ⟨KN, A5⟩ := T.Kf
 refine ⟨fa, _, "outputs_of", fd, F, hm, fn_ok F KJ fun cdv A outer s H E hg hr => ?_⟩
 unfold qC
 have hu1 := d7 hr
 have hu0 := dY hr
 exact aY (u6 #[1, qD, hg, hr, #[0]]) <|
  bu (bZ (cC (jX (own := [("row", 1)]) rfl KJ.nd (j8 #[0]) (blkOk_by (N := Cq) (sc := defScope lA) (by decide +kernel)) ⟨fun _ _ _ _ _ => pg_name (i := 1) KJ.nd rfl nofun, jP, fun _ _ _ _ _ => pts_one (cR (qd hu1) qj (bW #[1] (aG)) (bH (aA (dF (v := .str "out") zY ⟨_, rfl⟩ (fun _ _ _ => .str _)) (aA (dF (v := .str "put") A5 ⟨_, rfl⟩ (fun _ _ _ => .str _)) (aF)))) (by with_unfolding_all rfl)), fun _ _ _ _ _ => bW #[1] (aG)⟩)))
theorem KO : FnScope Gu zG (defScope mG) := nomatch 0
theorem a2E {x : Str} {fa : Addr} {fd : FuncData} (T : Txt K mg w) (F : Fun K "without_outputs" "without_outputs" mG fa fd) (hm : mg x = some (.ref fa)) : aJ P w K mg base 1 x mG zG lV := by
 obtain ⟨KD, zY⟩ := T.Ke
 obtain ⟨KN, A5⟩ := T.Kf
 obtain ⟨UI, KG⟩ := T.Uy
 refine ⟨fa, _, "without_outputs", fd, F, hm, fn_ok F KO fun cdv A outer s H E hg hr => ?_⟩
 unfold Gv
 have hu1 := d7 hr
 have hu0 := dY hr
 exact bu (bZ (cC (jX (own := [("row", 1)]) rfl KO.nd (j8 #[0]) (blkOk_by (N := Gu) (sc := defScope mG) (by decide +kernel)) ⟨fun _ _ _ _ _ => pg_name (i := 1) KO.nd rfl nofun, jP, fun _ _ _ _ _ => pts_one (cR (vQ hu0) vR (bW #[1] (aG)) (dF (v := .str "put") A5 ⟨_, rfl⟩ (fun _ _ _ => .str _))), fun _ _ _ _ _ => u5 (cR (or_eq hu0) gY (bW #[1] (aG)) (dF (v := .str "out") zY ⟨_, rfl⟩ (fun _ _ _ => .str _))) (bH (aA (dF (v := .str "step") KG ⟨_, rfl⟩ (fun _ _ _ => .str _)) (aF))) #[1]⟩)))
theorem KP : FnScope Cr zH (defScope mH) := nomatch 0
theorem a2F {x : Str} {fa : Addr} {fd : FuncData} (T : Txt K mg w) (F : Fun K "after_end" "after_end" mH fa fd) (hm : mg x = some (.ref fa)) (xJ : aJ P w K mg base 6 "outputs_of" lA wQ fQ) (KQ : aJ P w K mg base 1 "without_outputs" mG zG lV) : aJ P w K mg base 7 x mH zH jr := by
 obtain ⟨KN, A5⟩ := T.Kf
 refine ⟨fa, _, "after_end", fd, F, hm, fn_ok F KP fun cdv A outer s H E hg hr => ?_⟩
 unfold wR
 have hu1 := d7 hr
 have hu0 := dY hr
 exact aY (MT (i := 1) (own := [("value", 2)]) rfl KP.nd rfl rfl (sw_true rfl rfl rfl (by decide +kernel)) (j8 #[1, xJ, hg, hr, #[0]]) (blkOk_by (N := Cr) (sc := defScope mH) (by decide +kernel)) ⟨fun _ _ _ _ _ => pg_name (i := 2) KP.nd rfl nofun, jP, fun _ _ _ _ _ => mU pts_nil fun σ H Q h => mV h, fun _ _ _ _ _ => bH (aA (dF (v := .str "put") A5 ⟨_, rfl⟩ (fun _ _ _ => .str _)) (aA #[2] (aF)))⟩) <|
  bu (bZ (bK gQ gR #[1, KQ, hg, hr, #[0]] #[1]))
theorem vq : FnScope wU Cu (defScope lB) := nomatch 0
theorem a2G {x : Str} {fa : Addr} {fd : FuncData} (T : Txt K mg w) (F : Fun K "gives_of" "gives_of" lB fa fd) (hm : mg x = some (.ref fa)) (xK : aJ P w K mg base 6 "summary_of" mD wN gA) : aJ P w K mg base 7 x lB Cu wV := by
 obtain ⟨KA, zX⟩ := T.Kc
 obtain ⟨KC, xD⟩ := T.Kd
 obtain ⟨KH, vp⟩ := T.Kg
 obtain ⟨KI, xF⟩ := T.Kh
 refine ⟨fa, _, "gives_of", fd, F, hm, fn_ok F vq fun cdv A outer s H E hg hr => ?_⟩
 unfold Cy
 have hu1 := d7 hr
 have hu0 := dY hr
 exact a03 (x := 1) (y := 2) (own1 := [("row", 3)]) (uX := [("budget", 4)]) rfl vq.nd rfl rfl (a01 rfl rfl rfl (by decide +kernel)) (j8 #[0]) (blkOk_by (N := wU) (sc := defScope lB) (by decide +kernel)) ⟨fun _ _ _ _ _ => pg_name (i := 3) vq.nd rfl nofun, jP, fun _ _ _ _ _ => pts_one (oE (xY (cR (qd hu1) qj (bW #[3] (aG)) (bH (aA (dF (v := .str "use") xF ⟨_, rfl⟩ (fun _ _ _ => .str _)) (aA (dF (v := .str "back") zX ⟨_, rfl⟩ (fun _ _ _ => .str _)) (aA (dF (v := .str "give") xD ⟨_, rfl⟩ (fun _ _ _ => .str _)) (aF))))) (by with_unfolding_all rfl)) (xW (cR (vQ hu0) vR (bW #[3] (aG)) (dF (v := .str "steps") vp ⟨_, rfl⟩ (fun _ _ _ => .str _)))))), fun _ _ _ _ _ => bW #[3] (aG)⟩ rfl rfl (sw_true rfl rfl rfl (by decide +kernel)) T.a1C nofun (blkOk_by (N := wU) (sc := defScope lB) (by decide +kernel)) ⟨fun _ _ _ _ _ => pg_name (i := 4) vq.nd rfl nofun, jP, fun _ _ _ _ _ => mU pts_nil fun σ H Q h => mV h, fun _ _ _ _ _ => bH (aA #[4] (aA (bW (jD (ks := []) (idx := [0, 1]) (n := 2) xK hg hr (by decide) takes0 #[0, [_, _], [], 0] (aA #[0] (aA #[4] (aF))) (fD) (bJ (bJ (cD))) (cD) #[1, [_, _], [], 1]) (aG)) (aF)))⟩ <|
  bu (bZ (cC (jX (own := [("budget", 4), ("net", 5)]) rfl vq.nd (j8 #[2]) (blkOk_by (N := wU) (sc := defScope lB) (by decide +kernel)) ⟨fun _ _ _ _ _ => pg_tup rfl (pgs_cons (pg_name (i := 4) vq.nd rfl nofun) (pgs_cons (pg_name (i := 5) vq.nd rfl nofun) (pgs_nil))), Eu (Et (n := 2) (vX (vW (by decide)) (vX (vW (by decide)) (Es))) (fX (fX (nj)))), fun _ _ _ _ _ => pts_one (cR (vQ hu0) vR #[5] (aG)), fun _ _ _ _ _ => bH (aA (dF (v := .str "give") xD ⟨_, rfl⟩ (fun _ _ _ => .str _)) (aA #[4] (aA #[5] (aF))))⟩)))
theorem UJ : FnScope Gx zJ (defScope o9) := nomatch 0
theorem a2H {x : Str} {fa : Addr} {fd : FuncData} (T : Txt K mg w) (F : Fun K "after_catch" "after_catch" o9 fa fd) (hm : mg x = some (.ref fa)) (qD : aJ P w K mg base 5 "require_rows" jW sJ eG) (KQ : aJ P w K mg base 1 "without_outputs" mG zG lV) (a2I : aJ P w K mg base 7 "gives_of" lB Cu wV) : aJ P w K mg base 8 x o9 zJ jt := by
 obtain ⟨a2J, a2K⟩ := T.a1E
 obtain ⟨a2L, a2M⟩ := T.a1I
 refine ⟨fa, _, "after_catch", fd, F, hm, fn_ok F UJ fun cdv A outer s H E hg hr => ?_⟩
 unfold wW
 have hu1 := d7 hr
 have hu0 := dY hr
 exact aY (u6 #[1, qD, hg, hr, #[0]]) <|
  aY #[3, UJ, u5 (cR (or_eq hu0) gY #[2] (dF (v := .str "restore") a2M ⟨_, rfl⟩ (fun _ _ _ => .str _))) #[1, a2I, hg, hr, #[0]] (cC (eO (aF)))] <|
  bu (bZ (bK gQ gR (bK gQ gR #[1, KQ, hg, hr, #[0]] (cC (eO (aA (bH (aA (dF (v := .str "caught") a2K ⟨_, rfl⟩ (fun _ _ _ => .str _)) (aA #[1] (aF)))) (aF))))) #[3]))
theorem sX : FnScope Tt Cz (defScope jx) := nomatch 0
theorem a2N {fa : Addr} {fd : FuncData} (T : Txt K mg w) (F : Fun K "_law_refusals_right" "_law_refusals_right" jx fa fd) (hm : mg "_law_refusals_right" = some (.ref fa)) (LA : qu K mg base "_law_refusals_right") (xK : aJ P w K mg base 6 "summary_of" mD wN gA) (CZ : aJ P w K mg base 6 "first_failing" mF zF jo) (xJ : aJ P w K mg base 6 "outputs_of" lA wQ fQ) (D4 : aJ P w K mg base 7 "after_end" mH zH jr) (A6 : aJ P w K mg base 8 "after_catch" o9 zJ jt) (fu : aJ P w K mg base 1 "_law_draw" jw oO eU) (sY : zm P w K mg base 1 "_law_kind" "_law_call" je) : aJ P w K mg base 11 "_law_refusals_right" jx Cz wX := by
 obtain ⟨lc_, lP_, KR, tD, tE⟩ := LA.code F hm
 refine ⟨fa, _, "_law_refusals_right", fd, F, hm, SN F sX KR fun A outer s H E hg hr => ?_⟩
 unfold GH
 have hu1 := d7 hr
 have hu0 := dY hr
 exact aY (As (ps_set (i := 3) sX.nd rfl nofun (eO (aA (Dm) (aA (aG) (aA (bF) (aA (bF) (aA (cC (eO (aF))) (aA (cC (NP)) (aA (bH (aF)) (aA (cC (eO (aA (bF) (aF)))) (aA (bH (aA (bF) (aA (bF) (aA (qL un_neg rB (aG)) (aF))))) (aA (bH (aA (bF) (aA (mO) (aF)))) (aA (bH (aA (bF) (aA (bF) (aA (aG) (aF))))) (aF)))))))))))))) (fun _ _ _ h => h)) <|
  aY (jH (i := 3) (pv 3) (bH (aA (bF) (aA (aG) (aF))))) <|
  aY (MN (pQ (bH (aA (bW #[3] #[2, fu, hg, hr, #[0], aG]) (aA (Dt (Du call_list_of Xi T.a1A (by decide +kernel) (aA #[1] (aF)))) (aF)))) (qU (n := 2) rfl (j7 #[6, sX] (j7 #[7, sX] (qT))) (fX (fX (nj)))))) <|
  aY #[4, sX, #[2, fu, hg, hr, #[0], bK gQ gR (cI mY mZ T.nW (by decide +kernel) (aA #[1] (aF))) (aG)]] <|
  aY (u6 (Rk PySem.F.plainAttrs_list PySem.F.slot_list_insert PySem.F.type_list_insert RN RO #[7] (aA #[4] (aA #[6] (aF))))) <|
  aY (MN (u6 (Rk PySem.F.plainAttrs_list PySem.F.slot_list_insert PySem.F.type_list_insert RN RO #[7] (aA (bK gQ gR (bK gQ gR #[4] (aG)) #[2, fu, hg, hr, #[0], bK op_sub uh (cI mY mZ T.nW (by decide +kernel) (aA #[7] (aF))) #[4]]) (aA (bW #[3] #[2, fu, hg, hr, #[0], aG]) (aF)))))) <|
  aY (pQ (bH (aA (cI (uE hg hu1) uF T.vo (by decide +kernel) (aA #[7] (aF))) (aA (bW #[2] #[2, fu, hg, hr, #[0], cI mY mZ T.nW (by decide +kernel) (aA #[2] (aF))]) (aF)))) (qU (n := 2) rfl (j7 #[8, sX] (j7 #[9, sX] (qT))) (fX (fX (nj))))) <|
  aY (As (ps_set (i := 5) sX.nd rfl nofun (eO (aA (uY sY hg hr (by decide) (takes_of rfl rfl rfl rfl) tE rfl (tD _ rfl rfl) rfl (show LamX.LamS (defScope jx) _ from LamX.lamS_by (by decide +kernel)) rfl (fun _ _ _ _ _ => rfl) (fun A outer s H E f d hg hr => jD (ks := []) (idx := [0, 1]) (n := 2) xK hg hr (by decide) (takes_of rfl rfl rfl rfl) #[0, [_, _], [], 0] (aA #[7] (aA #[9] (aF))) (fD) (bJ (bJ (cD))) (cD) #[1, [_, _], [], 1]) rfl) (aF)))) (fun _ _ _ h => h)) <|
  aY (jH (i := 5) (pv 5) (uY sY hg hr (by decide) (takes_of rfl rfl rfl rfl) tE rfl (tD _ rfl rfl) rfl (show LamX.LamS (defScope jx) _ from LamX.lamS_by (by decide +kernel)) rfl (fun _ _ _ _ _ => rfl) (fun A outer s H E f d hg hr => jD (ks := []) (idx := [0, 1]) (n := 2) CZ hg hr (by decide) (takes_of rfl rfl rfl rfl) #[0, [_, _], [], 0] (aA #[7] (aA (cC (Xc (ms := [((ak 9), (mC (.int 0)))]) (pps_cons #[9] (aG) (pps_nil)))) (aF))) (fD) (bJ (bJ (cD))) (cD) #[1, [_, _], [], 1]) rfl)) <|
  aY (jH (i := 5) (pv 5) (uY sY hg hr (by decide) (takes_of rfl rfl rfl rfl) tE rfl (tD _ rfl rfl) rfl (show LamX.LamS (defScope jx) _ from LamX.lamS_by (by decide +kernel)) rfl (fun _ _ _ _ _ => rfl) (fun A outer s H E f d hg hr => jD (ks := []) (idx := [0]) (n := 1) xJ hg hr (by decide) (takes_of rfl rfl rfl rfl) #[0, [_], [], 0] (aA #[7] (aF)) (fD) (bJ (cD)) (cD) #[1, [_], [], 1]) rfl)) <|
  aY (jH (i := 5) (pv 5) (uY sY hg hr (by decide) (takes_of rfl rfl rfl rfl) tE rfl (tD _ rfl rfl) rfl (show LamX.LamS (defScope jx) _ from LamX.lamS_by (by decide +kernel)) rfl (fun _ _ _ _ _ => rfl) (fun A outer s H E f d hg hr => jD (ks := []) (idx := [0]) (n := 1) D4 hg hr (by decide) (takes_of rfl rfl rfl rfl) #[0, [_], [], 0] (aA (VP call_tuple_of Xj T.Ux (by decide +kernel) (aA #[7] (aF))) (aF)) (fD) (bJ (cD)) (cD) #[1, [_], [], 1]) rfl)) <|
  aY (jH (i := 5) (pv 5) (uY sY hg hr (by decide) (takes_of rfl rfl rfl rfl) tE rfl (tD _ rfl rfl) rfl (show LamX.LamS (defScope jx) _ from LamX.lamS_by (by decide +kernel)) rfl (fun _ _ _ _ _ => rfl) (fun A outer s H E f d hg hr => jD (ks := []) (idx := [0, 1, 2]) (n := 3) A6 hg hr (by decide) (takes_of rfl rfl rfl rfl) #[0, [_, _, _], [], 0] (aA #[7] (aA #[9] (aA (bF) (aF)))) (fD) (bJ (bJ (bJ (cD)))) (cD) #[1, [_, _, _], [], 1]) rfl)) <|
  aY (jH (i := 5) (pv 5) (uY sY hg hr (by decide) (takes_of rfl rfl rfl rfl) tE rfl (tD _ rfl rfl) rfl (show LamX.LamS (defScope jx) _ from LamX.lamS_by (by decide +kernel)) rfl (fun _ _ _ _ _ => rfl) (fun A outer s H E f d hg hr => jD (ks := []) (idx := [0, 1, 2]) (n := 3) A6 hg hr (by decide) (takes_of rfl rfl rfl rfl) #[0, [_, _, _], [], 0] (aA #[7] (aA #[9] (aA (bF) (aF)))) (fD) (bJ (bJ (bJ (cD)))) (cD) #[1, [_, _, _], [], 1]) rfl)) <|
  bu (bZ (qO (Ds (qK (or_eq hu0) gY #[5] (bK O9 Oc (cC (eO (aA (cI (uE hg hu1) uF T.vo (by decide +kernel) (aA (cC (eO (aA (bF) (aA #[6] (aA (mO) (aF)))))) (aF))) (aF)))) (aG)))) (qN (qK (or_eq hu0) gY (cI (uE hg hu1) uF T.vo (by decide +kernel) (aA #[7] (aF))) #[8]))))
theorem a2Q : FnScope Tz CA (defScope pH) := nomatch 0
theorem a2R {x : Str} {fa : Addr} {fd : FuncData} (T : Txt K mg w) (F : Fun K "units" "units" pH fa fd) (hm : mg x = some (.ref fa)) (qD : aJ P w K mg base 5 "require_rows" jW sJ eG) (xH : aJ P w K mg base 1 "used_by" mj wM jK) : aJ P w K mg base 6 x pH CA nO := by
 refine ⟨fa, _, "units", fd, F, hm, fn_ok F a2Q fun cdv A outer s H E hg hr => ?_⟩
 unfold GJ
 have hu1 := d7 hr
 have hu0 := dY hr
 exact aY (u6 #[1, qD, hg, hr, cC (eO (aA #[0] (aF)))]) <|
  bu (bZ #[2, xH, hg, hr, #[0], #[1]])
theorem KU : FnScope TF CB (defScope pJ) := nomatch 0
theorem a2S {x : Str} {fa : Addr} {fd : FuncData} (T : Txt K mg w) (F : Fun K "join" "join" pJ fa fd) (hm : mg x = some (.ref fa)) : aJ P w K mg base 1 x pJ CB oW := by
 refine ⟨fa, _, "join", fd, F, hm, fn_ok F KU fun cdv A outer s H E hg hr => ?_⟩
 unfold m_join
 have hu1 := d7 hr
 have hu0 := dY hr
 exact aY (pQ #[0] (qU (n := 2) rfl (j7 #[2, KU] (j7 #[3, KU] (qT))) (fX (fX (nj))))) <|
  bu (bZ (bH (aA (cI (call_max2 rfl) yu T.zR (by decide +kernel) (aA #[2] (aA (bK gQ gR #[3] (bW #[1] (aG))) (aF)))) (aA (bK gQ gR #[3] (bW #[1] (aG))) (aF)))))
theorem a2T : FnScope TH CF (defScope pK) := nomatch 0
theorem a2U {x : Str} {fa : Addr} {fd : FuncData} (T : Txt K mg w) (F : Fun K "passes" "passes" pK fa fd) (hm : mg x = some (.ref fa)) : aJ P w K mg base 1 x pK CF nQ := by
 refine ⟨fa, _, "passes", fd, F, hm, fn_ok F a2T fun cdv A outer s H E hg hr => ?_⟩
 unfold GO
 have hu1 := d7 hr
 have hu0 := dY hr
 exact bu (bZ (qK yj yq (bW #[0] (aG)) #[1]))
theorem ju : FnScope v9 CG (defScope jM) := nomatch 0
theorem a2V {x : Str} {fa : Addr} {fd : FuncData} (T : Txt K mg w) (F : Fun K "_law_names_right" "_law_names_right" jM fa fd) (hm : mg x = some (.ref fa)) (Kz : aJ P w K mg base 4 "is_row" m9 zE fP) (UK : aJ P w K mg base 6 "units" pH CA nO) (xK : aJ P w K mg base 6 "summary_of" mD wN gA) (UL : aJ P w K mg base 1 "join" pJ CB oW) (D5 : aJ P w K mg base 3 "power" nZ zu jm) (UM : aJ P w K mg base 1 "passes" pK CF nQ) (CZ : aJ P w K mg base 6 "first_failing" mF zF jo) (xJ : aJ P w K mg base 6 "outputs_of" lA wQ fQ) (D4 : aJ P w K mg base 7 "after_end" mH zH jr) (A6 : aJ P w K mg base 8 "after_catch" o9 zJ jt) (fu : aJ P w K mg base 1 "_law_draw" jw oO eU) : aJ P w K mg base 9 x jM CG wY := by
 refine ⟨fa, _, "_law_names_right", fd, F, hm, fn_ok F ju fun cdv A outer s H E hg hr => ?_⟩
 unfold GV
 have hu1 := d7 hr
 have hu0 := dY hr
 exact aY (pQ (bH (aA (bW #[2] #[2, fu, hg, hr, #[0], cI mY mZ T.nW (by decide +kernel) (aA #[2] (aF))]) (aA (cC (Du (Zk rfl) Zm T.Uu (by decide +kernel) (aA (cC (jX (own := [("_law_one", 3)]) rfl ju.nd (j8 #[2]) (blkOk_by (N := v9) (sc := defScope jM) (by decide +kernel)) ⟨fun _ _ _ _ _ => pg_name (i := 3) ju.nd rfl nofun, jP, fun _ _ _ _ _ => mU pts_nil fun σ H Q h => mV h, fun _ _ _ _ _ => bH (aA #[3] (aA (aG) (aF)))⟩)) (aF)))) (aF)))) (qU (n := 2) rfl (j7 #[5, ju] (j7 #[6, ju] (qT))) (fX (fX (nj))))) <|
  aY #[3, ju, #[2, xK, hg, hr, #[1], #[5]]] <|
  aY (As (ps_set (i := 4) ju.nd rfl nofun (eO (aA (bH (aA (oG (ks := ["budget", "rows"]) (idx := [1, 0]) xK hg hr (by decide) (takes_of rfl rfl rfl rfl) #[0, [], [_, _], 0] (iK #[5] (iK #[1] (fD))) (bJ (bJ (cD))) #[1, [], [_, _], 1]) (aA #[3] (aF)))) (aA (bH (aA (oG (ks := ["other", "summary"]) (idx := [1, 0]) UL hg hr (by decide) (takes_of rfl rfl rfl rfl) #[0, [], [_, _], 0] (iK (bH (aA (aG) (aA (qL un_neg rB (aG)) (aF)))) (iK #[3] (fD))) (bJ (bJ (cD))) #[1, [], [_, _], 1]) (aA #[2, UL, hg, hr, #[3], bH (aA (aG) (aA (qL un_neg rB (aG)) (aF)))] (aF)))) (aF))))) (fun _ _ _ h => h)) <|
  aY (jH (i := 4) (pv 4) (bH (aA (oG (ks := ["count", "summary"]) (idx := [1, 0]) D5 hg hr (by decide) (takes_of rfl rfl rfl rfl) #[0, [], [_, _], 0] (iK (aG) (iK #[3] (fD))) (bJ (bJ (cD))) #[1, [], [_, _], 1]) (aA #[2, D5, hg, hr, #[3], aG] (aF))))) <|
  aY (jH (i := 4) (pv 4) (bH (aA (oG (ks := ["amount", "summary"]) (idx := [1, 0]) UM hg hr (by decide) (takes_of rfl rfl rfl rfl) #[0, [], [_, _], 0] (iK (aG) (iK #[3] (fD))) (bJ (bJ (cD))) #[1, [], [_, _], 1]) (aA #[2, UM, hg, hr, #[3], aG] (aF))))) <|
  aY (jH (i := 4) (pv 4) (bH (aA (oG (ks := ["amounts", "rows"]) (idx := [1, 0]) CZ hg hr (by decide) (takes_of rfl rfl rfl rfl) #[0, [], [_, _], 0] (iK #[6] (iK #[1] (fD))) (bJ (bJ (cD))) #[1, [], [_, _], 1]) (aA #[2, CZ, hg, hr, #[1], #[6]] (aF))))) <|
  aY (jH (i := 4) (pv 4) (bH (aA (oG (ks := ["rows"]) (idx := [0]) xJ hg hr (by decide) (takes_of rfl rfl rfl rfl) #[0, [], [_], 0] (iK #[1] (fD)) (bJ (cD)) #[1, [], [_], 1]) (aA #[1, xJ, hg, hr, #[1]] (aF))))) <|
  aY (jH (i := 4) (pv 4) (bH (aA (oG (ks := ["rows"]) (idx := [0]) D4 hg hr (by decide) (takes_of rfl rfl rfl rfl) #[0, [], [_], 0] (iK #[1] (fD)) (bJ (cD)) #[1, [], [_], 1]) (aA #[1, D4, hg, hr, #[1]] (aF))))) <|
  aY (jH (i := 4) (pv 4) (bH (aA (cC (jX (own := [("_law_entry", 9)]) rfl ju.nd (j8 #[1]) (blkOk_by (N := v9) (sc := defScope jM) (by decide +kernel)) ⟨fun _ _ _ _ _ => pg_name (i := 9) ju.nd rfl nofun, jP, fun _ _ _ _ _ => mU pts_nil fun σ H Q h => mV h, fun _ _ _ _ _ => oG (ks := ["value"]) (idx := [0]) Kz hg hr (by decide) takes0 #[0, [], [_], 0] (iK #[9] (fD)) (bJ (cD)) #[1, [], [_], 1]⟩)) (aA (bK O9 Oc (cC (eO (aA (mO) (aF)))) (cI mY mZ T.nW (by decide +kernel) (aA #[1] (aF)))) (aF))))) <|
  aY (jH (i := 4) (pv 4) (bH (aA (oG (ks := ["kind", "budget", "rows"]) (idx := [2, 1, 0]) A6 hg hr (by decide) (takes_of rfl rfl rfl rfl) #[0, [], [_, _, _], 0] (iK (bF) (iK #[5] (iK #[1] (fD)))) (bJ (bJ (bJ (cD)))) #[1, [], [_, _, _], 1]) (aA #[3, A6, hg, hr, #[1], #[5], bF] (aF))))) <|
  aY (jH (i := 4) (pv 4) (bH (aA (cC (jX (own := [("_law_entry", 9)]) rfl ju.nd (j8 #[1]) (blkOk_by (N := v9) (sc := defScope jM) (by decide +kernel)) ⟨fun _ _ _ _ _ => pg_name (i := 9) ju.nd rfl nofun, jP, fun _ _ _ _ _ => mU pts_nil fun σ H Q h => mV h, fun _ _ _ _ _ => oG (ks := ["budget", "row"]) (idx := [1, 0]) UK hg hr (by decide) takes0 #[0, [], [_, _], 0] (iK #[5] (iK #[9] (fD))) (bJ (bJ (cD))) #[1, [], [_, _], 1]⟩)) (aA (cC (jX (own := [("_law_entry", 9)]) rfl ju.nd (j8 #[1]) (blkOk_by (N := v9) (sc := defScope jM) (by decide +kernel)) ⟨fun _ _ _ _ _ => pg_name (i := 9) ju.nd rfl nofun, jP, fun _ _ _ _ _ => mU pts_nil fun σ H Q h => mV h, fun _ _ _ _ _ => jD (ks := []) (idx := [0, 1]) (n := 2) UK hg hr (by decide) takes0 #[0, [_, _], [], 0] (aA #[9] (aA #[5] (aF))) (fD) (bJ (bJ (cD))) (cD) #[1, [_, _], [], 1]⟩)) (aF))))) <|
  bu (bZ (Ds (cI (cr_all rfl) E3 T.Ka (by decide +kernel) (aA (cC (jX (own := [("_law_told", 7), ("_law_due", 8)]) rfl ju.nd (j8 #[4]) (blkOk_by (N := v9) (sc := defScope jM) (by decide +kernel)) ⟨fun _ _ _ _ _ => pg_tup rfl (pgs_cons (pg_name (i := 7) ju.nd rfl nofun) (pgs_cons (pg_name (i := 8) ju.nd rfl nofun) (pgs_nil))), Eu (Et (n := 2) (vX (vW (by decide)) (vX (vW (by decide)) (Es))) (fX (fX (nj)))), fun _ _ _ _ _ => mU pts_nil fun σ H Q h => mV h, fun _ _ _ _ _ => qK (or_eq hu0) gY (cI (uE hg hu1) uF T.vo (by decide +kernel) (aA #[7] (aF))) (cI (uE hg hu1) uF T.vo (by decide +kernel) (aA #[8] (aF)))⟩)) (aF)))))
theorem vA : FnScope U5 CH (defScope lC) := nomatch 0
theorem a2W {fa : Addr} {fd : FuncData} (T : Txt K mg w) (F : Fun K "law" "law" lC fa fd) (hm : mg "law" = some (.ref fa)) (LA : qu K mg base "law") (D5 : aJ P w K mg base 3 "power" nZ zu jm) (a2X : aJ P w K mg base 1 "_law_rng" oZ BR BU) (a2Y : aJ P w K mg base 3 "_law_funds" pq BZ wH) (a2Z : aJ P w K mg base 4 "_law_drawn_rows" o7 C5 wL) (sY : zm P w K mg base 1 "_law_kind" "_law_call" je) (a3a : aJ P w K mg base 11 "_law_refusals_right" jx Cz wX) (a3b : aJ P w K mg base 9 "_law_names_right" jM CG wY) : aJ P w K mg base 12 "law" lC CH sO := by
 obtain ⟨lc_, lP_, KR, tD, tE⟩ := LA.code F hm
 refine ⟨fa, _, "law", fd, F, hm, SN F vA KR fun A outer s H E hg hr => ?_⟩
 unfold GW
 have hu1 := d7 hr
 have hu0 := dY hr
 exact aY (pW (passes_of rfl) rfl (yH T.zU (aA (cI (call_max2 rfl) yu T.zR (by decide +kernel) (aA (aG) (aA (cI (call_min2 rfl) WV T.a1B (by decide +kernel) (aA (aG) (aA (cI mY mZ T.nW (by decide +kernel) (aA #[0] (aF))) (aF)))) (aF)))) (aF))) #[1, vA] (aY #[2, vA, #[2, a2X, hg, hr, #[0], #[1]]] <|
  aY #[3, vA, #[1, a2Y, hg, hr, #[2]]] <|
  bu (pW (passes_of rfl) rfl (yH T.zU (aA (aG) (aF))) #[4, vA] (aY #[5, vA, #[3, a2Z, hg, hr, #[2], #[3], aG]] <|
  aY (iz (oE (tZ (qM (tX #[3, a3a, hg, hr, #[2], #[5], #[3]])) (xX (qM (tX #[3, a3b, hg, hr, #[2], #[5], #[3]]))))) (bu (bZ (mO))) (iJ)) <|
  bu (pW (passes_of rfl) rfl (j8 (cC (eO (aA (qL un_neg rB (aG)) (aA (Dm) (aA (mO) (aA (mO) (aA (bF) (aA (bF) (aA (cC (eO (aF))) (aA (bH (aA (aG) (aF))) (aA (cC (NP)) (aA (qL un_neg rB (bK op_pow rA (aG) (aG))) (aF)))))))))))))) #[6, vA] (bu (iz (cR (vQ hu0) vR (uY sY hg hr (by decide) (takes_of rfl rfl rfl rfl) tE rfl (tD _ rfl rfl) rfl (show LamX.LamS (defScope lC) _ from LamX.lamS_by (by decide +kernel)) rfl (fun _ _ _ _ _ => rfl) (fun A outer s H E f d hg hr => jD (ks := []) (idx := [0, 1]) (n := 2) D5 hg hr (by decide) (takes_of rfl rfl rfl rfl) #[0, [_, _], [], 0] (aA (bH (aA (aG) (aA (aG) (aF)))) (aA #[6] (aF))) (fD) (bJ (bJ (cD))) (cD) #[1, [_, _], [], 1]) rfl) (cI (uE hg hu1) uF T.vo (by decide +kernel) (aA (cC (eO (aA (bF) (aA #[6] (aA (mO) (aF)))))) (aF)))) (bu (bZ (mO))) (iJ)))))))) <|
  bu (bZ (mO))
end
end bA
namespace bA
open PySem PySem.Spec PyProof.Rows L2 Mi Rc Rg
section
variable {S : Store} {rs : List Rc.Row} {b : Str}
theorem KW : fP = Rc.fP := rfl
theorem KY : jK = bA.jK := rfl
theorem a3c : oW = bA.oW := rfl
theorem UN : nQ = bA.nQ := rfl
theorem UO : lV = bA.lV := rfl
theorem seq_eq {xs : List D} : z8 S (.lst xs) = some xs := rfl
theorem req_eq (h : ∀ r ∈ rs, r.fj) : eG [.lst (rs.map Rc.Row.d)] S = .ok .non S := by
 refine al_eq ?_
 unfold eG oU
 have lk : ∀ x S, lQ (ak 0) [.sh (.lst (rs.map Rc.Row.d)), x] S = none := fun _ _ => rfl
 simp! [Bw, lk, Bv, seq_eq]
 refine nu (fun _ ρ S' => S' = S ∧ ∃ x, ρ = [.sh (.lst (rs.map Rc.Row.d)), x]) ⟨rfl, _, rfl⟩ ?_ fun ρ S' hI => hI.1
 rintro i x ρ _ hx ⟨rfl, y, rfl⟩
 rw [List.getElem?_map] at hx
 cases er : rs[i]? with
 | none => rw [er] at hx; cases hx
 | some r =>
  rw [er] at hx
  cases hx
  refine ⟨_, rfl, ?_⟩
  simp! [KW, CO (h r (List.mem_of_getElem? er))]
  exact ⟨_, rfl⟩
theorem D6 {f : FX} {t : SX} {ρ : aN} {d v : D} (hv : ak 0 ρ S = .ok d S) (hf : f [d] S = .ok v S) : aH (iy (aK f [0] (aj (ak 0) ao) ao)) t ρ S = t ρ S := by
 unfold aH iy aK aj ao
 rw [hv]
 simp only [Mi.R.bind, pick, List.filterMap, List.append_nil, List.getElem?_cons_zero]
 rw [hf]
 rfl
theorem a3d (h : ∀ r ∈ rs, r.fj) : gA [.lst (rs.map Rc.Row.d), .str b] S = .ok (Sm.d (su b rs)) S := by
 rw [← Rc.a1l (S := S) (d := .lst (rs.map Rc.Row.d)) rfl h]
 unfold gA oV Rc.gA Rc.oV aX
 rw [D6 rfl (req_eq h), D6 rfl (Rc.CP rfl h)] <;> rfl
theorem KZ (h : ∀ r ∈ rs, r.fj) (hl : rs.length ≤ 100000) : fQ [.lst (rs.map Rc.Row.d)] S = .ok (.lst ((outs rs).map D.int)) S := by
 rw [← Rg.a1q (S := S) (d := .lst (rs.map Rc.Row.d)) rfl h hl]
 unfold fQ qC Rg.fQ Rg.qC aX
 rw [D6 rfl (req_eq h), D6 rfl (by rw [Uk]; exact Rc.CP rfl h)]
theorem UP (h : ∀ r ∈ rs, r.fj) (hl : rs.length ≤ 100000) : jr [.lst (rs.map Rc.Row.d)] S = .ok (.lst ((sS rs).map Rc.Row.d)) S := by
 refine al_eq ?_
 have l1 := K8 (rs := rs); have l2 := plain_len (rs := rs)
 unfold jr wR
 have ad : bM S (.lst ((kY rs).map Rc.Row.d)) (.lst (((outs rs).map Rc.Row.put).map Rc.Row.d)) = some (.lst ((sS rs).map Rc.Row.d)) := by
  rw [EL (by simp only [List.length_map]; rw [sizeLine_eq]; omega)]
  unfold sS
  rw [List.map_append]
 simp! [KZ h hl, bO, a1r (vs := outs rs) (by omega), UO, Uo (d := .lst (rs.map Rc.Row.d)) rfl hl, ad]
theorem UQ (h : ∀ r ∈ rs, r.fj) (hl : rs.length ≤ 1000) (hb : (oX rs).length < 64) : jt [.lst (rs.map Rc.Row.d), .str b, .str "keep"] S = .ok (.lst ((catchR rs b "keep").map Rc.Row.d)) S := by
 refine al_eq ?_
 have l2 := plain_len (rs := rs)
 have a1 : bM S (.lst ((kY rs).map Rc.Row.d)) (.lst [.tup [.str "caught", .str b]]) = some (.lst ((kY rs ++ [Rc.Row.caught b]).map Rc.Row.d)) := Ur (ys := [Rc.Row.caught b]) (by simp; omega)
 have a3 : bM S (.lst ((kY rs ++ [Rc.Row.caught b]).map Rc.Row.d)) (.lst []) = some (.lst ((kY rs ++ [Rc.Row.caught b] ++ []).map Rc.Row.d)) := Ur (ys := []) (by rw [List.length_append]; simp; omega)
 unfold jt wW
 simp! [req_eq h, keep_ne.1, UO, Uo (d := .lst (rs.map Rc.Row.d)) rfl (show rs.length ≤ 100000 by omega), a1, a3]
 unfold catchR
 rw [keep_ne.1, if_neg Bool.false_ne_true, List.append_nil]
theorem units_eq {r : Rc.Row} (h : r.fj) : nO [r.d, .str b] S = .ok (.int (used r b)) S := by
 refine al_eq ?_
 unfold nO GJ
 have hr : eG [.lst [r.d]] S = .ok .non S := req_eq (rs := [r]) fun x hx => by rw [List.mem_singleton.mp hx]; exact h
 simp! [hr, KY, used_eq]
theorem pow_eq {p : Sm} (hp : V p) : jm [Sm.d p, .int 3] S = .ok (Sm.d (pw p 3)) S := by
 rw [← Rc.a0S (S := S) (n := 3) hp (by decide)]
 rfl
end
def iI : List D := [.non, .int 0, .str "", .str "step", .lst [], .dct [], .tup [], .lst [.str "step"], .tup [.str "use", .str "mem", .int (-1)], .tup [.str "out", .bl true], .tup [.str "give", .str "mem", .int 0], .tup [.str "step", .int 1]]
/-- what is shown for a bad row -/
def shown (w : D) : Str := match d9 [] [.lst [.str "row", w, .bl true]] with
 | some (.str k) => k
 | _ => ""
def UR (r : R D) : Bool := match r with
 | .ok _ _ => true
 | _ => false
section
variable {S : Store} {w : D}
theorem A7 {p : D → Prop} (h : w ∈ iI) (h0 : p .non) (h1 : p (.int 0)) (h2 : p (.str "")) (h3 : p (.str "step")) (h4 : p (.lst [])) (h5 : p (.dct [])) (h6 : p (.tup [])) (h7 : p (.lst [.str "step"])) (h8 : p (.tup [.str "use", .str "mem", .int (-1)])) (h9 : p (.tup [.str "out", .bl true])) (h10 : p (.tup [.str "give", .str "mem", .int 0])) (h11 : p (.tup [.str "step", .int 1])) : p w := by
 unfold iI at h
 simp only [List.mem_cons, List.not_mem_nil, or_false] at h
 rcases h with rfl | rfl | rfl | rfl | rfl | rfl | rfl | rfl | rfl | rfl | rfl | rfl <;> assumption
theorem a3e (h : w ∈ iI) : fP [w] S = .ok (.bl false) S := by
 refine A7 (p := fun w => fP [w] S = .ok (.bl false) S) h ?_ ?_ ?_ ?_ ?_ ?_ ?_ ?_ ?_ ?_ ?_ ?_ <;> kernel_rfl
theorem a3f (h : w ∈ iI) : ∃ d S', uZ [.un, .sh w] S = .ok d S' := by
 have key : UR (uZ [.un, .sh w] S) = true := by
  refine A7 (p := fun w => UR (uZ [.un, .sh w] S) = true) h ?_ ?_ ?_ ?_ ?_ ?_ ?_ ?_ ?_ ?_ ?_ ?_ <;> kernel_rfl
 cases e : uZ [.un, .sh w] S with
 | ok d S' => exact ⟨d, S', rfl⟩
 | exc _ _ => rw [e] at key; cases key
 | stuck => rw [e] at key; cases key
theorem UT (h : w ∈ iI) : d9 S [.lst [.str "row", w, .bl true]] = some (.str (shown w)) := by
 refine A7 (p := fun w => d9 S [.lst [.str "row", w, .bl true]] = some (.str (shown w))) h ?_ ?_ ?_ ?_ ?_ ?_ ?_ ?_ ?_ ?_ ?_ ?_ <;> kernel_rfl
theorem a3g (h : w ∈ iI) : ∀ c ∈ (shown w).cps.toList, c < 0x110000 := by
 have key : ((shown w).cps.toList.all fun c => decide (c < 0x110000)) = true := by
  refine A7 (p := fun w => ((shown w).cps.toList.all fun c => decide (c < 0x110000)) = true) h ?_ ?_ ?_ ?_ ?_ ?_ ?_ ?_ ?_ ?_ ?_ ?_ <;> kernel_rfl
 intro c hc
 exact of_decide_eq_true (List.all_eq_true.mp key c hc)
theorem a3h (h : w ∈ iI) : aZ w ∧ bR w ≤ 20 ∧ bh w ≤ 1 ∧ gU w = true := by
 have c : ∀ z ∈ (["", "step", "use", "mem", "out", "give"] : List Str), ∀ c ∈ z.cps.toList, c < 0x110000 := by decide +kernel
 refine A7 (p := fun w => aZ w ∧ bR w ≤ 20 ∧ bh w ≤ 1 ∧ gU w = true) h ?_ ?_ ?_ ?_ ?_ ?_ ?_ ?_ ?_ ?_ ?_ ?_ <;> refine ⟨?_, by decide +kernel, by decide +kernel, by decide +kernel⟩ <;> simp only [aZ, cQ, lO] <;>
  first | decide +kernel | exact ⟨c _ (by decide +kernel), trivial⟩ | exact c _ (by decide +kernel) | exact ⟨c _ (by decide +kernel), c _ (by decide +kernel), by decide, trivial⟩ | exact ⟨c _ (by decide +kernel), by decide, trivial⟩
end
def Sp (S : Store) (n : Nat) (xs : List D) : Prop := S[n]? = some (.lst xs) ∨ S[n]? = some (.cG xs)
/-- the first bad row stands at j -/
structure kZ (xs : List D) (j : Nat) (w : D) : Prop where
 at_ : xs[j]? = some w
 odd : w ∈ iI
 good : ∀ i, i < j → ∃ r : Rc.Row, xs[i]? = some r.d ∧ r.fj
abbrev bx (w : D) : bT := ⟨"InvalidRow", [("value", w)]⟩
section
variable {S : Store} {n j : Nat} {xs : List D} {w : D} {E : bT → Store → Prop}
theorem set_same {so : SO} (h : S[n]? = some so) : S.set n so = S := by
 apply List.ext_getElem?
 intro i
 by_cases hi : n = i
 ·subst hi
  rw [List.getElem?_set_self (List.getElem?_eq_some_iff.mp h).1, h]
 ·rw [List.getElem?_set_ne hi]
theorem exc_eq {r : R D} {e : bT} (h : r.al (fun _ _ => False) fun x S' => x = e ∧ S' = S) : r = .exc e S := by
 cases r with
 | ok d S' => exact h.elim
 | exc x S' => obtain ⟨rfl, rfl⟩ := (show x = e ∧ S' = S from h); rfl
 | stuck => exact h.elim
theorem UU (h : Sp S n xs) : (S.set n (.cG xs))[n]? = some (.cG xs) := by
 have hl : n < S.length := by rcases h with h | h <;> exact (List.getElem?_eq_some_iff.mp h).1
 rw [List.getElem?_set_self hl]
theorem La {ρ0 : Sl} {p : Po} {N : aN → Store → Prop} (h : kZ xs j w) (hp : ∀ ρ, p.E (bx w) S ∧ p.X (bx w) ρ S) :
  (forL (aM 1) (cJ (gG (gD (aK fP [0] (aj (ak 1) ao) ao))) (rR "InvalidRow" BQ uZ (aj (ak 1) ao)) cY) xs [ρ0, .un] S).al N p := by
 refine nu (fun i ρ S' => S = S' ∧ i ≤ j ∧ ∃ x, ρ = [ρ0, x]) ⟨rfl, Nat.zero_le _, _, rfl⟩ ?_ ?_
 ·rintro i d ρ _ hd ⟨rfl, hi, x, rfl⟩
  refine ⟨_, rfl, ?_⟩
  by_cases hij : i = j
  ·subst hij
   rw [h.at_] at hd
   cases hd
   obtain ⟨d, S', hm⟩ := a3f (S := S) h.odd
   simp! [a3e h.odd, YK]
   exact ⟨⟨d, S', hm⟩, (hp []).1, (hp _).2⟩
  ·obtain ⟨r, h1, h2⟩ := h.good i (by omega)
   rw [h1] at hd
   cases hd
   simp! [KW, CO h2]
   exact ⟨by omega, _, rfl⟩
 ·rintro ρ _ ⟨rfl, hi, _⟩
  have := (List.getElem?_eq_some_iff.mp h.at_).1
  omega
theorem D7 (hS : Sp S n xs) (h : kZ xs j w) : eG [.ref n] S = .exc (bx w) (S.set n (.cG xs)) := by
 refine exc_eq ?_
 have sq : z8 (S.set n (.cG xs)) (.ref n) = some xs := by
  simp only [z8, rY, Bs, UU hS]
 unfold eG oU
 rcases hS with hS | hS
 ·have lk : ∀ x, lQ (ak 0) [.sh (.ref n), x] S = some (n, .cG xs) := fun x => by
   unfold lQ ak
   simp only [List.getElem?_cons_zero, hS, wu]
  simp! [Bw, lk, Bv, sq]
  exact La h fun ρ => ⟨⟨rfl, rfl⟩, trivial⟩
 ·have lk : ∀ x, lQ (ak 0) [.sh (.ref n), x] S = none := fun x => by
   unfold lQ ak
   simp only [List.getElem?_cons_zero, hS, wu]
  have es : S.set n (.cG xs) = S := set_same hS
  rw [es] at sq
  simp! [Bw, lk, Bv, sq, es]
  exact La h fun ρ => ⟨⟨rfl, rfl⟩, trivial⟩
theorem a3i (h : kZ xs j w) : eG [.tup xs] S = .exc (bx w) S := by
 refine exc_eq ?_
 have sq : ∀ S, z8 S (.tup xs) = some xs := fun _ => rfl
 have lk : ∀ x S, lQ (ak 0) [.sh (.tup xs), x] S = none := fun _ _ => rfl
 unfold eG oU
 simp! [Bw, lk, Bv, sq]
 exact La h fun ρ => ⟨⟨rfl, rfl⟩, trivial⟩
theorem UW {m i : Nat} {m0 : EX} {l : List Cl} {mr : SX} {L : Store → R D} {d0 v : D} {S1 S2 S3 S4 : Store} {e : bT} {ρ2 : aN} (h1 : m0 (List.replicate m Sl.un) S = .ok d0 S1) (hn : cM ((List.replicate m Sl.un).set i (.sh d0)) = true) (hL : L S1 = .exc e S2)
  (hc : uW l e ((List.replicate m Sl.un).set i (.sh d0)) S2 = .nx ρ2 S3) (hr : mr ρ2 S3 = .rt v S4) : zp m i m0 l mr L S = .ok v S4 := by
 have e1 : bU i m0 (List.replicate m Sl.un) S = .nx ((List.replicate m Sl.un).set i (.sh d0)) S1 := by
  unfold bU
  rw [h1]
  rfl
 have e2 : sG l L ((List.replicate m Sl.un).set i (.sh d0)) S1 = .nx ρ2 S3 := by
  unfold sG
  rw [if_pos hn, hL]
  exact hc
 unfold zp aX
 simp only [List.map_nil, List.nil_append, List.length_nil, Nat.sub_zero, aH, e1, e2, hr]
theorem kind_eq {L : Store → R D} {S' : Store} (hL : L S = .exc (bx w) S') (hw : w ∈ iI) : je L S = .ok (.str (shown w)) S' := by
 unfold je
 refine UW (S3 := S') (ρ2 := [.un, .sh (.lst [.str "row", w, .bl true]), .un]) rfl rfl hL (by kernel_rfl) ?_
 show (R.opt (d9 S' [.lst [.str "row", w, .bl true]]) S').st _ _ = _
 rw [UT hw]
 rfl
end
section
variable {S : Store} {n j : Nat} {xs : List D} {w : D} {Q : D → Store → Prop} {E : bT → Store → Prop} {b : D} {ρ : aN}
theorem A8 {f : FX} {t : SX} {d : D} {e : bT} {S' : Store} (hv : ak 0 ρ S = .ok d S) (hf : f [d] S = .exc e S') : aH (iy (aK f [0] (aj (ak 0) ao) ao)) t ρ S = .exc e ρ S' := by
 unfold aH iy aK aj ao
 rw [hv]
 simp only [Mi.R.bind, pick, List.filterMap, List.append_nil, List.getElem?_cons_zero]
 rw [hf]
 rfl
theorem a3j (hS : Sp S n xs) (h : kZ xs j w) : gA [.ref n, b] S = .exc (bx w) (S.set n (.cG xs)) := by
 unfold gA oV aX
 rw [A8 rfl (D7 hS h)]
theorem a3k (hS : Sp S n xs) (h : kZ xs j w) : jo [.ref n, b] S = .exc (bx w) (S.set n (.cG xs)) := by
 unfold jo Cp aX
 rw [A8 rfl (D7 hS h)]
theorem a3l (hS : Sp S n xs) (h : kZ xs j w) : fQ [.ref n] S = .exc (bx w) (S.set n (.cG xs)) := by
 unfold fQ qC aX
 rw [A8 rfl (D7 hS h)]
theorem a3m (h : kZ xs j w) : fQ [.tup xs] S = .exc (bx w) S := by
 unfold fQ qC aX
 rw [A8 rfl (a3i h)]
theorem a3n (h : kZ xs j w) : jr [.tup xs] S = .exc (bx w) S := by
 refine exc_eq ?_
 unfold jr wR
 simp! [a3m h]
 exact ⟨rfl, rfl⟩
theorem a3o {k : D} (hS : Sp S n xs) (h : kZ xs j w) : jt [.ref n, b, k] S = .exc (bx w) (S.set n (.cG xs)) := by
 unfold jt wW aX
 rw [A8 rfl (D7 hS h)]
theorem xM {m : EX} {S' : Store} (ht : S[0]? = some (.tab "_law_refusals_right" (jk "_law_refusals_right"))) (hn : cM ρ = true) (hm : m ρ S = .exc (bx w) S') (hw : w ∈ iI) (q : Q (.str (shown w)) S') :
  (kI 0 "_law_refusals_right" (jk "_law_refusals_right") je m ρ S).al Q E := by
 have t : tabAt S 0 "_law_refusals_right" (jk "_law_refusals_right") = true := by
  unfold tabAt
  rw [ht]
  simp
 unfold kI
 rw [if_pos ⟨t, hn⟩, kind_eq hm hw]
 exact q
theorem a3p (h : S[n]? = some (.cG xs)) : fTuple S [.ref n] = some (.tup xs) := by
 simp only [fTuple, bL, h]
end
/-- the tables at the qI SJ -/
def Tb (S : Store) : Prop := S[0]? = some (.tab "_law_refusals_right" (jk "_law_refusals_right")) ∧ S[1]? = some (.tab "law" (jk "law"))
section
variable {S : Store} {n m j : Nat} {xs : List D} {w : D} {X b : Str} {N : aN → Store → Prop} {p : Po} {r8 : Sl} {d0 d1 d2 d3 d4 : D}
theorem Tb.gn {S' : Store} (t : Tb S) (g : Gn n S S') (h : 2 ≤ n) : Tb S' := ⟨by rw [g.same 0 (by omega)]; exact t.1, by rw [g.same 1 (by omega)]; exact t.2⟩
theorem a3q : iI.length = 12 := rfl
theorem UX {k : Int} (h0 : 0 ≤ k) (h1 : k < 12) : ∃ w, atI iI k = some w ∧ w ∈ iI := lW (P := fun w => w ∈ iI) h0 (by rw [a3q]; omega) fun x hx => hx
theorem a3r {x : D} : lN S (.lst [x]) (.int 6) = some (.lst [x, x, x, x, x, x]) := by
 unfold lN
 simp [sizeLine_eq]
 rfl
theorem r183 (hw : w ∈ iI) (hX : d9 S [.ref m] = some (.str X)) (hx : ∀ c ∈ X.cps.toList, c < 0x110000) (q : p.T (.bl true) S) :
  (Gy [.sh d0, .sh d1, .sh d2, .sh d3, .sh d4, .ow (.lst [.str (shown w), .str (shown w), .str (shown w), .str (shown w), .str (shown w), .str (shown w)]), .sh w, .sh (.ref m), .sh (.str X), r8] S).al N p := by
 unfold Gy
 have c := a3g hw
 have e1 : ∀ S, bQ S (.lst [.str (shown w), .str (shown w), .str (shown w), .str (shown w), .str (shown w), .str (shown w)]) (.lst [.str (shown w), .str (shown w), .str (shown w), .str (shown w), .str (shown w), .str (shown w)]) = some (.bl true) := fun S => EK (by simp only [bD, eZ]; exact ⟨c, c, c, c, c, c, trivial⟩) (by simp [bh, cU])
 have e2 : ∀ S, bQ S (.str X) (.str X) = some (.bl true) := fun S => EK (by simp only [bD]; exact hx) (by simp [bh])
 simp! [UT hw, hX, a3r, e1, e2]
 exact ⟨rfl, q⟩
theorem r181 (t : Tb S) (hS : S[m]? = some (.cG xs)) (hB : kZ xs j w) (hX : d9 S [.ref m] = some (.str X)) (hx : ∀ c ∈ X.cps.toList, c < 0x110000) (q : p.T (.bl true) S) :
  (Gz [.sh d0, .sh d1, .sh d2, .sh d3, .sh d4, .ow (.lst [.str (shown w), .str (shown w), .str (shown w), .str (shown w)]), .sh w, .sh (.ref m), .sh (.str X), .sh (.str b)] S).al N p := by
 unfold Gz
 have cb : ∀ k, jt [.ref m, .str b, k] S = .exc (bx w) S := fun k => by rw [a3o (.inr hS) hB, set_same hS]
 simp!
 refine xM t.1 rfl (show _ = R.exc (bx w) S from cb _) hB.odd ?_
 simp!
 refine xM t.1 rfl (show _ = R.exc (bx w) S from cb _) hB.odd ?_
 exact r183 hB.odd hX hx q
theorem r179 (t : Tb S) (hS : S[m]? = some (.cG xs)) (hB : kZ xs j w) (hX : d9 S [.ref m] = some (.str X)) (hx : ∀ c ∈ X.cps.toList, c < 0x110000) (q : p.T (.bl true) S) :
  (GA [.sh d0, .sh d1, .sh d2, .sh d3, .sh d4, .ow (.lst [.str (shown w), .str (shown w)]), .sh w, .sh (.ref m), .sh (.str X), .sh (.str b)] S).al N p := by
 unfold GA
 have c1 : fQ [.ref m] S = .exc (bx w) S := by rw [a3l (.inr hS) hB, set_same hS]
 have c2 : aK jr [0] (aj (aO fTuple (aj (ak 7) ao)) ao) ao [.sh d0, .sh d1, .sh d2, .sh d3, .sh d4, .ow (.lst [.str (shown w), .str (shown w), .str (shown w)]), .sh w, .sh (.ref m), .sh (.str X), .sh (.str b)] S = .exc (bx w) S := by
  have e : (aK jr [0] (aj (aO fTuple (aj (ak 7) ao)) ao) ao [.sh d0, .sh d1, .sh d2, .sh d3, .sh d4, .ow (.lst [.str (shown w), .str (shown w), .str (shown w)]), .sh w, .sh (.ref m), .sh (.str X), .sh (.str b)] S).al (fun _ _ => False) (fun x S' => x = bx w ∧ S' = S) := by
   simp! [a3p hS, a3n hB]
   exact ⟨rfl, rfl⟩
  exact exc_eq e
 simp!
 refine xM t.1 rfl (show _ = R.exc (bx w) S from c1) hB.odd ?_
 simp!
 refine xM t.1 rfl c2 hB.odd ?_
 exact r181 t hS hB hX hx q
theorem Tb.set {so : SO} (t : Tb S) (h : 2 ≤ m) : Tb (S.set m so) := ⟨by rw [List.getElem?_set_ne (by omega)]; exact t.1, by rw [List.getElem?_set_ne (by omega)]; exact t.2⟩
theorem r177 (t : Tb S) (hm : 2 ≤ m) (hS : S[m]? = some (.lst xs)) (hB : kZ xs j w) (hX : ∀ S, Sp S m xs → d9 S [.ref m] = some (.str X)) (hx : ∀ c ∈ X.cps.toList, c < 0x110000) (q : p.T (.bl true) (S.set m (.cG xs))) :
  (GB [.sh d0, .sh d1, .sh d2, .sh d3, .sh d4, .un, .sh w, .sh (.ref m), .sh (.str X), .sh (.str b)] S).al N p := by
 unfold GB
 have hS2 := UU (.inl hS : Sp S m xs)
 have c1 : gA [.ref m, .str b] S = .exc (bx w) (S.set m (.cG xs)) := a3j (.inl hS) hB
 have c2 : jo [.ref m, .dct [(.inr b, .int 0)]] (S.set m (.cG xs)) = .exc (bx w) (S.set m (.cG xs)) := by rw [a3k (.inr hS2) hB, set_same hS2]
 simp!
 refine xM t.1 rfl (show _ = R.exc (bx w) _ from c1) hB.odd ?_
 simp!
 refine xM (t.set hm).1 rfl (show _ = R.exc (bx w) _ from c2) hB.odd ?_
 exact r179 (t.set hm) hS2 hB (hX _ (.inr hS2)) hx q
end
/-- rows and odd values, of little size -/
def UY (xs : List D) : Prop := ∀ d ∈ xs, aZ d ∧ bR d ≤ 30 ∧ bh d ≤ 1
section
variable {S : Store} {n m j : Nat} {rs : List Rc.Row} {fs : List Str} {xs : List D} {w : D} {X b : Str} {N : aN → Store → Prop} {p : Po} {d1 d3 d4 : D} {a : Nat}
theorem a3s (h : UY xs) (hl : xs.length ≤ 20) : ∃ X : Str, (∀ c ∈ X.cps.toList, c < 0x110000) ∧ ∀ (S : Store) (m : Nat), Sp S m xs → d9 S [.ref m] = some (.str X) := by
 have o : aZ (.lst xs) := by simp only [aZ]; exact Bg.mpr fun d hd => (h d hd).1
 have k1 : dH xs ≤ xs.length * (30 + 1) := EF fun d hd => (h d hd).2.1
 have k2 : cU xs ≤ 1 := yP fun d hd => (h d hd).2.2
 obtain ⟨X, hc, _, hX⟩ := RE (d := .lst xs) o (by simp only [bR]; omega) (by simp only [bh]; omega)
 refine ⟨X, hc, fun S m hs => ?_⟩
 have nr := yO (.lst xs) o
 rw [Za (Z9 (d' := .lst xs) (by rcases hs with hs | hs <;> simp only [stp, yr, hs]) nr) nr]
 exact (hX S).1
theorem r176 (hr : fG S n) (t : Tb S) (hn : 2 ≤ n) (hm : 2 ≤ m) (nm : n ≠ m) (hf : fs ≠ [] ∧ fs.length ≤ 4) (hS : S[m]? = some (.lst xs)) (hB : kZ xs j w) (hd : UY xs) (hl : xs.length ≤ 20) (q : ∀ S', fG S' n → Tb S' → p.T (.bl true) S') :
  (GD [.sh (.ref n), .sh d1, .sh (.lst (fs.map D.str)), .sh d3, .sh d4, .un, .sh w, .sh (.ref m), .un, .un] S).al N p := by
 obtain ⟨X, hx, hX⟩ := a3s hd hl
 have fl : 0 < fs.length := List.length_pos_iff.mpr hf.1
 unfold GD
 simp! [hX S m (.inl hS), List.length_map]
 refine wz hr (by omega) (by omega) fun k S1 k0 k1 g => ?_
 obtain ⟨z, hz, b, rfl⟩ := lW (xs := fs.map D.str) (P := fun z => ∃ b : Str, z = .str b) k0 (by rw [List.length_map]; exact k1) fun x hx => by
  obtain ⟨b, _, rfl⟩ := List.mem_map.mp hx
  exact ⟨b, rfl⟩
 have vB : S1[m]? = some (.lst xs) := by rw [g.same m (Ne.symm nm)]; exact hS
 simp! [hz]
 refine ⟨_, rfl, ?_⟩
 refine r177 (t.gn g hn) hm vB hB (fun S hs => hX S m hs) hx (q _ ?_ ((t.gn g hn).set hm))
 obtain ⟨u, v, e, r⟩ := g.at_
 exact ⟨u, v, by rw [List.getElem?_set_ne (Ne.symm nm)]; exact e, r⟩
theorem UZ {i : Int} {y : D} (h : S[m]? = some (.lst xs)) (i0 : 0 ≤ i) (i1 : i < 1000) (hl : xs.length ≤ 1000) : wF S (.ref m) [.int i, y] = some (.non, S.set m (.lst (xs.take i.toNat ++ [y] ++ xs.drop i.toNat))) := by
 simp only [wF, h]
 rw [if_pos ⟨by rw [sizeLine_eq]; omega, i0, by omega⟩]
theorem V1 {i : Nat} {y : D} : (xs.take i ++ [y] ++ xs.drop i).length = xs.length + 1 := by
 simp only [List.length_append, List.length_take, List.length_drop, List.length_cons, List.length_nil]
 omega
theorem Ld {i k : Nat} {y : D} (h : k < i) (hi : k < xs.length) : (xs.take i ++ [y] ++ xs.drop i)[k]? = xs[k]? := by
 rw [List.append_assoc, List.getElem?_append_left (by rw [List.length_take]; omega), List.getElem?_take_of_lt h]
theorem a3t {i : Nat} {y : D} (hi : i ≤ xs.length) : (xs.take i ++ [y] ++ xs.drop i)[i]? = some y := by
 rw [List.append_assoc, List.getElem?_append_right (by rw [List.length_take]; omega), List.length_take, Nat.min_eq_left hi, Nat.sub_self]
 rfl
theorem V2 {i : Nat} {y z : D} (h : z ∈ xs.take i ++ [y] ++ xs.drop i) : z ∈ xs ∨ z = y := by
 rcases List.mem_append.mp h with h | h
 ·rcases List.mem_append.mp h with h | h
  ·exact .inl (List.mem_of_mem_take h)
  ·exact .inr (List.mem_singleton.mp h)
 ·exact .inl (List.mem_of_mem_drop h)
theorem len_at (h : S[m]? = some (.lst xs)) : eY S [.ref m] = some (.int xs.length) := by
 simp only [eY, bL, h]
theorem Le (h : S[m]? = some (.lst xs)) : isT "list" S (.ref m) = true := by
 simp only [isT, h]
 rfl
theorem r174 (hr : fG S n) (t : Tb S) (hn : 2 ≤ n) (hm : 2 ≤ m) (nm : n ≠ m) (hf : fs ≠ [] ∧ fs.length ≤ 4) (hok : ∀ r ∈ rs, r.ok) (hl : rs.length ≤ 8) (ha : a ≤ rs.length) (hw : w ∈ iI) (hS : S[m]? = some (.lst (rs.map Rc.Row.d))) (q : ∀ S', fG S' n → Tb S' → p.T (.bl true) S') :
  (GF [.sh (.ref n), .sh (.lst (rs.map Rc.Row.d)), .sh (.lst (fs.map D.str)), .sh (.lst iI), .sh (.int a), .un, .sh w, .sh (.ref m), .un, .un] S).al N p := by
 unfold GF
 have ml : m < S.length := (List.getElem?_eq_some_iff.mp hS).1
 have lr : (rs.map Rc.Row.d).length = rs.length := List.length_map ..
 obtain ⟨ys, hys⟩ : ∃ ys, ys = (rs.map Rc.Row.d).take a ++ [w] ++ (rs.map Rc.Row.d).drop a := ⟨_, rfl⟩
 have ly : ys.length = rs.length + 1 := by rw [hys, V1, lr]
 have i1 := UZ (y := w) hS (i := (a : Int)) (by omega) (by omega) (by omega)
 rw [Int.toNat_natCast, ← hys] at i1
 have vB : (S.set m (.lst ys))[m]? = some (.lst ys) := by rw [List.getElem?_set_self ml]
 simp! [Zo, Le hS, i1, QZ, Le vB, len_at vB, ly]
 refine ⟨_, _, rfl, Le vB, ?_⟩
 simp! [len_at vB, ly]
 have hr1 : fG (S.set m (.lst ys)) n := by
  obtain ⟨u, v, e, r⟩ := hr
  exact ⟨u, v, by rw [List.getElem?_set_ne (Ne.symm nm)]; exact e, r⟩
 refine wz hr1 (by omega) (by omega) fun k S2 k0 k1 g2 => ?_
 simp!
 refine wz g2.at_ (by decide) (by decide) fun k' S3 k0' k1' g3 => ?_
 obtain ⟨w2, hw2, ho2⟩ := UX k0' k1'
 have g := g2.trans g3
 have V3 : S3[m]? = some (.lst ys) := by rw [g.same m (Ne.symm nm)]; exact vB
 obtain ⟨i, rfl⟩ := Int.eq_ofNat_of_zero_le k0
 have i2 := UZ (y := w2) V3 (i := (a : Int) + 1 + (i : Int)) (by omega) (by omega) (by omega)
 have ei : ((a : Int) + 1 + (i : Int)).toNat = a + 1 + i := by omega
 rw [ei] at i2
 simp! [hw2]
 refine ⟨_, _, i2, ?_⟩
 have m3 : m < S3.length := (List.getElem?_eq_some_iff.mp V3).1
 refine r176 (j := a) (xs := ys.take (a + 1 + i) ++ [w2] ++ ys.drop (a + 1 + i)) ?_ ?_ hn hm nm hf (by rw [List.getElem?_set_self m3]) ⟨?_, hw, fun l hl2 => ?_⟩ (fun d hd => ?_) (by rw [V1]; omega) q
 ·obtain ⟨u, v, e, r⟩ := g3.at_
  exact ⟨u, v, by rw [List.getElem?_set_ne (Ne.symm nm)]; exact e, r⟩
 ·exact ((t.set hm).gn g hn).set hm
 ·rw [Ld (by omega) (by omega), hys, a3t (by omega)]
 ·have hr2 : l < rs.length := by omega
  refine ⟨rs[l], ?_, (hok _ (List.getElem_mem hr2)).weak⟩
  rw [Ld (by omega) (by omega), hys, Ld hl2 (by omega), List.getElem?_map, List.getElem?_eq_getElem hr2]
  rfl
 ·have row : ∀ d ∈ rs.map Rc.Row.d, aZ d ∧ bR d ≤ 30 ∧ bh d ≤ 1 := fun d hd => by
   obtain ⟨r, h, rfl⟩ := List.mem_map.mp hd
   obtain ⟨a1, a2, a3⟩ := a0X (hok r h)
   exact ⟨a1, a2, by omega⟩
  have odd : ∀ w, w ∈ iI → aZ w ∧ bR w ≤ 30 ∧ bh w ≤ 1 := fun w h => by
   obtain ⟨a1, a2, a3, _⟩ := a3h h
   exact ⟨a1, by omega, a3⟩
  rcases V2 hd with h | rfl
  ·rw [hys] at h
   rcases V2 h with h | rfl
   ·exact row d h
   ·exact odd _ hw
  ·exact odd _ ho2
theorem a3v {Q : D → Store → Prop} {E : bT → Store → Prop} (hr : fG S n) (t : Tb S) (hn : 2 ≤ n) (hf : fs ≠ [] ∧ fs.length ≤ 4) (hok : ∀ r ∈ rs, r.ok) (hl : rs.length ≤ 8) (q : ∀ S', fG S' n → Tb S' → Q (.bl true) S') :
  (wX [.ref n, .lst (rs.map Rc.Row.d), .lst (fs.map D.str)] S).al Q E := by
 unfold wX GH
 have lr : (rs.map Rc.Row.d).length = rs.length := List.length_map ..
 simp!
 unfold Tw
 simp! [QZ]
 refine ⟨by decide, ?_⟩
 refine wz hr (by decide) (by decide) fun k S1 k0 k1 g1 => ?_
 obtain ⟨w, hw, ho⟩ := UX k0 k1
 have fl : ∀ S, AW S [.lst (rs.map Rc.Row.d)] = some (.lst (rs.map Rc.Row.d)) := fun _ => rfl
 unfold iI at hw
 simp! [hw, Ot, fl, tQ]
 refine ⟨_, rfl, ?_⟩
 unfold Tv
 have n1 : n < S1.length := by obtain ⟨_, _, e, _⟩ := g1.at_; exact (List.getElem?_eq_some_iff.mp e).1
 have hr1 : fG (S1 ++ [.lst (rs.map Rc.Row.d)]) n := by
  obtain ⟨u, v, e, r⟩ := g1.at_
  exact ⟨u, v, by rw [List.getElem?_append_left n1]; exact e, r⟩
 have t1 : Tb (S1 ++ [.lst (rs.map Rc.Row.d)]) := ⟨by rw [List.getElem?_append_left (by omega)]; exact (t.gn g1 hn).1, by rw [List.getElem?_append_left (by omega)]; exact (t.gn g1 hn).2⟩
 simp! [lr]
 refine wz hr1 (by omega) (by omega) fun a S2 a0 a1 g2 => ?_
 obtain ⟨i, rfl⟩ := Int.eq_ofNat_of_zero_le a0
 exact r174 (m := S1.length) g2.at_ (t1.gn g2 hn) hn (by omega) (by omega) hf hok hl (by omega) ho (by rw [g2.same _ (by omega), List.getElem?_append_right (Nat.le_refl _), Nat.sub_self]; rfl) q
end
end bA
namespace bA
open PySem PySem.Spec PyProof.Rows L2 Mi Rc
def ans : Option (Nat × Str) → D
 | none => .non
 | some p => .tup [.int p.1, .str p.2]
section
variable {S : Store}
theorem sV {x : Str} (h : x ∈ (["steps", "step", "use", "back", "give", "out", "put", "caught"] : List Str)) : eV S (.str x) (.tup [.str "use", .str "back", .str "give"]) = some (.bl (("use" : Str) == x || ("back" == x || ("give" == x || false)))) :=
 JP (nR h) (nR (by simp)) (nR (by simp)) (nR (by simp))
theorem a3w {r : Rc.Row} : wO [r.d] S = .ok (.lst ((ie r).map D.str)) S := by
 refine al_eq ?_
 unfold wO Gp
 cases r <;> (simp! [Rc.Row.d, at0, at1, at2, sV (x := "step") (by simp), sV (x := "use") (by simp), sV (x := "back") (by simp), sV (x := "give") (by simp), sV (x := "out") (by simp), sV (x := "put") (by simp), sV (x := "caught") (by simp), Hj, Hl, Ho, Hq, Hr, Ht, Hu, Hv, Hw, Hz, HA, HC, HD, HE, HF, HG, HJ, HM, HP, HQ, HR, HS, HU, HV, HW, HX, HY, Ib, Ie, Ig, Ih, Ii, Ij, Ik, Il, Im, Io, Ip, Ir, Iu, Iv, Iw, Iz, IB, IC, IE, IG, II, IJ, IK, IL, IP, IQ, IT, IU, IV, IW, IX, IY, J5, J8, J9, Ja, Jb, Jc, Jd, Je, Jf, Jg, Jh, Ji, Jj, Jk, Jl, Jm, Jo, Jp, Jq, Jr, Jt, Ju, Jv, Jw, Jx, Jy, Jz, JA, JB, JC, JD, JE, JF, JG, JH, JI, JK, JL, JM, JN, JO, Bool.or_false, Bool.or_true, Bool.true_or, Bool.false_or, ie])
 all_goals (try (rename_i b n; by_cases hb : b = "steps" <;> simp [hb]))
theorem last_at {x : SO} : (S ++ [x])[S.length]? = some x := by simp
theorem a3x {x y : SO} : (S ++ [x]).set S.length y = S ++ [y] := by simp
theorem Lf {k : List (Key × D)} : dG (S ++ [.dct k]) (.ref S.length) = some k := by simp only [dG, last_at]
theorem a3y {k : Str} {ks : Am} : uR (S ++ [.dct (kd ks)]) (.str k) (.ref S.length) = some (.bl (look ks k).isSome) := by
 unfold uR
 rw [Lf]
 simp only [keyD, CN]
theorem a3z {T : Store} {n : Nat} {k : Str} {ks : Am} (h : dG T (.ref n) = some (kd ks)) : uQ T (.ref n) (.str k) = (look ks k).map D.int := by
 unfold uQ
 rw [h]
 simp only [keyD, JR]
theorem a3A {T : Store} {n : Nat} {k : Str} {ks : Am} (h : dG T (.ref n) = some (kd ks)) : ql T (.ref n) (.str k) = (look ks k).map D.int := by
 unfold ql
 rw [h]
 simp only [keyD, JR]
theorem a3B {k : Str} {ks : Am} {v : Int} (h : (look ks k).isSome = true) (hl : ks.length < 1000) : rW (.ref S.length) (.str k) (.int v) (S ++ [.dct (kd ks)]) = some (S ++ [.dct (kd (zN ks k v))]) := by
 unfold rW
 simp only [last_at, keyD]
 rw [if_pos (by rw [kd_len, sizeLine_eq]; omega), a0Z h, a3x]
theorem V4 {r : Rc.Row} {rs : List Rc.Row} {ks : Am} {i : Nat} : walk (r :: rs) ks i = match fail r ks with
 | some b => some (i, b)
 | none => walk rs (xq r ks) (i + 1) := rfl
theorem V5 {r : Rc.Row} {bs : List Str} {ks : Am} : (bs.foldl (kJ r) ks).length = ks.length := by
 have := congrArg List.length (zP (r := r) (bs := bs) (ks := ks))
 simpa using this
theorem a3C {d a : D} {rs : List Rc.Row} {ks : Am} (e : d = .lst (rs.map Rc.Row.d)) (h : ∀ r ∈ rs, r.ok) (ha : dG S a = some (kd ks)) (nd : (ks.map (·.1)).Nodup) (hl : ks.length < 1000) :
  (jo [d, a] S).al (fun z S' => z = ans (walk rs ks 0) ∧ ∃ J, S' = S ++ J) fun _ _ => False := by
 have ei : itemsOf d = some (rs.map Rc.Row.d) := by rw [e]; rfl
 have es : yM [d] = some (uN (rs.map Rc.Row.d)) := by rw [e]; rfl
 have ed : ∀ T : Store, T = S → fDict T [a] = some (.dct (kd ks)) := fun T hT => by subst hT; unfold fDict; simp only [ha]
 unfold jo Cp
 have rq : eG [d] S = .ok .non S := by rw [e]; exact req_eq fun r hr => (h r hr).weak
 simp! [rq, es, Ot, ed S rfl, tQ]
 refine nu (fun i ρ S' => ∃ ks' x3 x4 x5 x6, S' = S ++ [.dct (kd ks')] ∧ walk rs ks 0 = walk (rs.drop i) ks' i ∧ (ks'.map (·.1)).Nodup ∧ ks'.length < 1000 ∧ ρ = [.sh d, .sh a, .sh (.ref S.length), x3, x4, x5, x6]) ⟨ks, _, _, _, _, rfl, by rw [List.drop_zero], nd, hl, rfl⟩ ?_ ?_
 ·rintro i x ρ _ hx ⟨ks', x3, x4, x5, x6, rfl, hw, nd', hl', rfl⟩
  unfold uN at hx
  rw [List.getElem?_map, List.getElem?_zipIdx, List.getElem?_map] at hx
  cases er : rs[i]? with
  | none => rw [er] at hx; cases hx
  | some r =>
   rw [er] at hx
   cases hx
   have hr := h r (List.mem_of_getElem? er)
   have hi := (List.getElem?_eq_some_iff.mp er)
   have hd : rs.drop i = r :: rs.drop (i + 1) := by
    rw [List.drop_eq_getElem_cons hi.1, hi.2]
   rw [hd, V4] at hw
   refine ⟨_, rfl, ?_⟩
   have hc : ∀ x5, bG [6] (aM 6) (aQ (aC uR (ak 6) (ak 2))) (ak 6) [.sh d, .sh a, .sh (.ref S.length), .sh (.int i), .sh r.d, x5, .un] ((ie r).map D.str) [] (S ++ [.dct (kd ks')]) = .ok (.map D.str (iY r ks')) (S ++ [.dct (kd ks')]) := by
    intro x5
    have hp := uI (vs := [6]) (g := aM 6) (t := aQ (aC uR (ak 6) (ak 2))) (e := ak 6) (ρ := [.sh d, .sh a, .sh (.ref S.length), .sh (.int i), .sh r.d, x5, .un]) (S := S ++ [.dct (kd ks')])
     (p := fun d => match d with | .str w => (look ks' w).isSome | _ => false) (f := fun d => d) ((ie r).map D.str) [] (fun d hd => by
      obtain ⟨b, hb, rfl⟩ := List.mem_map.mp hd
      refine ⟨_, rfl, ?_, fun _ => rfl⟩
      simp only [aQ, aC, ak, List.set_cons_succ, List.set_cons_zero, List.getElem?_cons_succ, List.getElem?_cons_zero, R.bind, R.opt, a3y, ji]) (by
      rw [List.length_map, List.length_nil, sizeLine_eq]
      rcases a1h r with e | ⟨c, _, e⟩ <;> rw [e] <;> simp)
    rw [hp]
    simp only [List.nil_append, List.map_id']
    congr 1
    unfold iY
    rw [List.filter_map]
    rfl
   simp! [a3w, bO, hc]
   -- the first loop: is there one
   refine nu (fun j ρ T => (iY r ks').find? (over r ks') = ((iY r ks').drop j).find? (over r ks') ∧ T = S ++ [.dct (kd ks')] ∧ ∃ x6, ρ = [.sh d, .sh a, .sh (.ref S.length), .sh (.int i), .sh r.d, .sh (.lst ((iY r ks').map D.str)), x6]) ⟨by rw [List.drop_zero], rfl, _, rfl⟩ ?_ ?_
   ·rintro j y ρ _ hy ⟨hf, rfl, x6, rfl⟩
    rw [List.getElem?_map] at hy
    cases eb : (iY r ks')[j]? with
    | none => rw [eb] at hy; cases hy
    | some b =>
     rw [eb] at hy
     cases hy
     have hj := List.getElem?_eq_some_iff.mp eb
     have hdj : (iY r ks').drop j = b :: (iY r ks').drop (j + 1) := by rw [List.drop_eq_getElem_cons hj.1, hj.2]
     rw [hdj, List.find?_cons] at hf
     obtain ⟨v, hv⟩ := Option.isSome_iff_exists.mp (List.mem_filter.mp (List.mem_of_getElem? eb)).2
     refine ⟨_, rfl, ?_⟩
     simp! [KY, used_eq, a3z Lf, hv, Option.map_some]
     have ov : over r ks' b = decide (v < used r b) := by unfold over; rw [hv]
     rw [ov] at hf
     by_cases hlt : v < used r b
     ·rw [if_pos (by simpa using hlt)]
      simp only [hlt, decide_true] at hf
      unfold fail at hw
      rw [hf] at hw
      refine ⟨?_, _, rfl⟩
      rw [hw]
      unfold ans
      simp
     ·rw [if_neg (by simpa using hlt)]
      simp only [hlt, decide_false] at hf
      exact ⟨hf, _, rfl⟩
   ·rintro ρ _ ⟨hf, rfl, x6, rfl⟩
    rw [List.length_map, List.drop_length, List.find?_nil] at hf
    have hfail : fail r ks' = none := hf
    rw [hfail] at hw
    simp only at hw
    simp!
    refine nu (fun j ρ T => ∃ x6, T = S ++ [.dct (kd (((iY r ks').take j).foldl (kJ r) ks'))] ∧ ρ = [.sh d, .sh a, .sh (.ref S.length), .sh (.int i), .sh r.d, .sh (.lst ((iY r ks').map D.str)), x6]) ⟨_, by rw [List.take_zero]; rfl, rfl⟩ ?_ ?_
    ·rintro j y ρ _ hy ⟨x6, rfl, rfl⟩
     rw [List.getElem?_map] at hy
     cases eb : (iY r ks')[j]? with
     | none => rw [eb] at hy; cases hy
     | some b =>
      rw [eb] at hy
      cases hy
      have nd2 : ((((iY r ks').take j).foldl (kJ r) ks').map (·.1)).Nodup := by rw [zP]; exact nd'
      have hk : (look (((iY r ks').take j).foldl (kJ r) ks') b).isSome = true := by
       rw [zQ, zP, ← zQ]
       exact (List.mem_filter.mp (List.mem_of_getElem? eb)).2
      have hln : (((iY r ks').take j).foldl (kJ r) ks').length < 1000 := by
       rw [V5]; exact hl'
      obtain ⟨v, hv⟩ := Option.isSome_iff_exists.mp hk
      refine ⟨_, rfl, ?_⟩
      simp! [KY, used_eq, Z7, a3A Lf, hv, Option.map_some, a3B hk hln]
      refine ⟨_, ?_, rfl⟩
      rw [a1c nd2 hv, List.take_add_one, eb, Option.toList_some, List.foldl_append]
      rfl
    ·rintro ρ _ ⟨x6, rfl, rfl⟩
     refine ⟨_, _, _, _, _, rfl, ?_, ?_, ?_, rfl⟩
     ·rw [List.length_map, List.take_length, a1f]; exact hw
     ·rw [zP]; exact nd'
     ·rw [V5]; exact hl'
 ·rintro ρ _ ⟨ks', x3, x4, x5, x6, rfl, hw, nd', hl', rfl⟩
  have : (uN (rs.map Rc.Row.d)).length = rs.length := by unfold uN; simp
  rw [this, List.drop_length] at hw
  exact ⟨by rw [hw]; rfl, _, rfl⟩
end
end bA
namespace bA
open PySem PySem.Spec PyProof.Rows L2 Mi Rc Rg
/-- a value cA is shown -/
def Sh (v : D) : Prop := ∃ k : Str, Cv k ∧ ∀ S, d9 S [v] = some (.str k)
def Pr (ps : List D) : Prop := ∀ p ∈ ps, ∃ v, p = .tup [v, v] ∧ Sh v
theorem vC {d : D} (h : aZ d) (hb : bR d ≤ 200000) (hd : bh d ≤ 64) : Sh d := by
 obtain ⟨k, h1, _, h2⟩ := RE h hb hd
 exact ⟨k, h1, fun S => (h2 S).1⟩
theorem Pr.add {ps : List D} {v : D} (h : Pr ps) (hv : Sh v) : Pr (ps ++ [.tup [v, v]]) := fun p hp => (List.mem_append.mp hp).elim (h p) fun e => ⟨v, List.mem_singleton.mp e, hv⟩
section
variable {S : Store} {rs : List Rc.Row} {N : aN → Store → Prop} {p : Po} {ps : List D} {d0 d1 d2 d3 d5 d6 : D}
theorem a3E (h : Pr ps) (hl : ps.length ≤ 1000) (q : p.T (.bl true) S) : (GP [.sh d0, .sh d1, .sh d2, .sh d3, .ow (.lst ps), .sh d5, .sh d6, .un, .un, .un] S).al N p := by
 unfold GP
 have hc : bG [7, 8] (dW (bf (aM 7) (bf (aM 8) cV))) eX (aC bQ (aO d9 (aj (ak 7) ao)) (aO d9 (aj (ak 8) ao))) [.sh d0, .sh d1, .sh d2, .sh d3, .sh (.lst ps), .sh d5, .sh d6, .un, .un, .un] ps [] S = .ok (ps.map fun _ => .bl true) S := by
  have hp := uI (vs := [7, 8]) (g := dW (bf (aM 7) (bf (aM 8) cV))) (t := eX) (e := aC bQ (aO d9 (aj (ak 7) ao)) (aO d9 (aj (ak 8) ao))) (ρ := [.sh d0, .sh d1, .sh d2, .sh d3, .sh (.lst ps), .sh d5, .sh d6, .un, .un, .un]) (S := S)
   (p := fun _ => true) (f := fun _ => .bl true) ps [] (fun d hd => by
    obtain ⟨v, rfl, k, hk, hv⟩ := h d hd
    refine ⟨_, rfl, rfl, fun _ => ?_⟩
    have e2 : bQ S (.str k) (.str k) = some (.bl true) := EK (by simp only [bD]; exact hk) (by simp [bh])
    simp only [aC, aO, ak, aj, ao, List.set_cons_succ, List.set_cons_zero, List.getElem?_cons_succ, List.getElem?_cons_zero, R.bind, R.opt, hv, e2]) (by
    rw [List.length_nil, sizeLine_eq]; omega)
  rw [hp, List.nil_append, List.filter_eq_self.mpr fun _ _ => rfl]
 have fa : lM S [.lst (ps.map fun _ => D.bl true)] = some (.bl true) := by
  rw [Ud (l := ps) (fun _ => true)]
  simp
 simp! [bO, hc, fa]
 exact ⟨rfl, q⟩
abbrev R0 (d0 d1 d2 d3 d5 d6 : D) (ps : List D) : aN := [.sh d0, .sh d1, .sh d2, .sh d3, .ow (.lst ps), .sh d5, .sh d6, .un, .un, .un]
theorem tG {A B : EX} {t : SX} {v : D} {S1 S2 : Store} (h : ps.length ≤ 1000) (hA : A (R0 d0 d1 d2 d3 d5 d6 ps) S = .ok v S1) (hB : B (R0 d0 d1 d2 d3 d5 d6 ps) S1 = .ok v S2) (q : (t (R0 d0 d1 d2 d3 d5 d6 (ps ++ [.tup [v, v]])) S2).al N p) :
  (aH (fY 4 (aR (aj A (aj B ao)))) t (R0 d0 d1 d2 d3 d5 d6 ps) S).al N p := by
 have e : fY 4 (aR (aj A (aj B ao))) (R0 d0 d1 d2 d3 d5 d6 ps) S = .nx (R0 d0 d1 d2 d3 d5 d6 (ps ++ [.tup [v, v]])) S2 := by
  have e1 : aR (aj A (aj B ao)) (R0 d0 d1 d2 d3 d5 d6 ps) S = .ok (.tup [v, v]) S2 := by
   simp only [aR, aj, ao, hA, hB, Mi.R.bind, dt2, R.opt]
  unfold fY
  simp only [List.getElem?_cons_succ, List.getElem?_cons_zero, e1, R.st]
  rw [if_pos (by rw [sizeLine_eq]; omega)]
  rfl
 unfold aH
 rw [e]
 exact q
theorem Lg {f : FX} {g : Rc.Row → D} {e : EX} (he : ∀ r ∈ rs, e [.sh d0, .sh (.lst (rs.map Rc.Row.d)), .sh d2, .sh d3, .ow (.lst ps), .sh d5, .sh d6, .un, .un, .sh r.d] S = .ok (g r) S) (hl : rs.length ≤ 1000) :
  cZ (dX (ak 1)) [9] (aM 9) eX e (R0 d0 (.lst (rs.map Rc.Row.d)) d2 d3 d5 d6 ps) S = .ok (.lst (rs.map g)) S := by
 have hp := vh (vs := [9]) (g := aM 9) (t := eX) (e := e) (ρ := R0 d0 (.lst (rs.map Rc.Row.d)) d2 d3 d5 d6 ps) (S := S) (CQ := Rc.Row.d) (p := fun _ => true) (f := g) rs [] (fun r hr => ⟨_, rfl, rfl, fun _ => he r hr⟩) (by rw [List.length_nil, sizeLine_eq]; omega)
 refine al_eq ?_
 simp! [bO, hp, List.filter_eq_self.mpr fun _ _ => rfl]
end
section
variable {d : D} {rs : List Rc.Row} {b k : Str}
def iZ : Rc.Row → Nat
 | .use _ n => n.natAbs
 | .back _ n => n.natAbs
 | .give _ n => n.natAbs
 | .out v => v.natAbs
 | .put v => v.natAbs
 | _ => 0
theorem a3F : ∀ w ∈ ws, w.length ≤ 6 := by decide +kernel
theorem a3G {r : Rc.Row} (h : r.fj) (ha : iZ r < 10 ^ 60) : aZ r.d ∧ bD r.d ∧ bR r.d ≤ 20 ∧ bh r.d ≤ 1 := by
 have c := fun (w : Str) (hw : w ∈ ws) => sU hw
 have l := a3F
 cases r with
 | step =>
  have h1 := l "step" (by decide +kernel)
  simp only [Rc.Row.d, aZ, cQ, bD, eZ, bR, dH, bh, cU]
  exact ⟨⟨c "step" (by decide +kernel), trivial⟩, ⟨c "step" (by decide +kernel), trivial⟩, by omega, by omega⟩
 | use b i =>
  have h1 := l "use" (by decide +kernel); have h2 := h.1.2.1
  simp only [Rc.Row.d, aZ, cQ, bD, eZ, bR, dH, bh, cU]
  exact ⟨⟨c "use" (by decide +kernel), h.1.chars, ha, trivial⟩, ⟨c "use" (by decide +kernel), h.1.chars, trivial, trivial⟩, by omega, by omega⟩
 | back b i =>
  have h1 := l "back" (by decide +kernel); have h2 := h.1.2.1
  simp only [Rc.Row.d, aZ, cQ, bD, eZ, bR, dH, bh, cU]
  exact ⟨⟨c "back" (by decide +kernel), h.1.chars, ha, trivial⟩, ⟨c "back" (by decide +kernel), h.1.chars, trivial, trivial⟩, by omega, by omega⟩
 | give b i =>
  have h1 := l "give" (by decide +kernel); have h2 := h.1.2.1
  simp only [Rc.Row.d, aZ, cQ, bD, eZ, bR, dH, bh, cU]
  exact ⟨⟨c "give" (by decide +kernel), h.1.chars, ha, trivial⟩, ⟨c "give" (by decide +kernel), h.1.chars, trivial, trivial⟩, by omega, by omega⟩
 | out v =>
  have h1 := l "out" (by decide +kernel)
  simp only [Rc.Row.d, aZ, cQ, bD, eZ, bR, dH, bh, cU]
  exact ⟨⟨c "out" (by decide +kernel), ha, trivial⟩, ⟨c "out" (by decide +kernel), trivial, trivial⟩, by omega, by omega⟩
 | put v =>
  have h1 := l "put" (by decide +kernel)
  simp only [Rc.Row.d, aZ, cQ, bD, eZ, bR, dH, bh, cU]
  exact ⟨⟨c "put" (by decide +kernel), ha, trivial⟩, ⟨c "put" (by decide +kernel), trivial, trivial⟩, by omega, by omega⟩
 | caught b =>
  have h1 := l "caught" (by decide +kernel); have h2 := (show cW b from h).2.1
  simp only [Rc.Row.d, aZ, cQ, bD, eZ, bR, dH, bh, cU]
  exact ⟨⟨c "caught" (by decide +kernel), (show cW b from h).chars, trivial⟩, ⟨c "caught" (by decide +kernel), (show cW b from h).chars, trivial⟩, by omega, by omega⟩
/-- data of many items -/
theorem many : ∀ ds : List D, (∀ d ∈ ds, aZ d ∧ bD d ∧ bR d ≤ 20 ∧ bh d ≤ 1) → cQ ds ∧ eZ ds ∧ dH ds ≤ 21 * ds.length ∧ cU ds ≤ 1
 | [], _ => by simp [cQ, eZ, dH, cU]
 | d :: ds, h => by
  obtain ⟨a1, a2, a3, a4⟩ := h d List.mem_cons_self
  obtain ⟨b1, b2, b3, b4⟩ := many ds fun x hx => h x (List.mem_cons_of_mem _ hx)
  simp only [cQ, eZ, dH, cU, List.length_cons]
  exact ⟨⟨a1, b1⟩, ⟨a2, b2⟩, by omega, by omega⟩
theorem a3H {xs : List Rc.Row} (h : ∀ r ∈ xs, r.fj ∧ iZ r < 10 ^ 60) : aZ (.lst (xs.map Rc.Row.d)) ∧ bD (.lst (xs.map Rc.Row.d)) ∧ bR (.lst (xs.map Rc.Row.d)) ≤ 21 * xs.length ∧ bh (.lst (xs.map Rc.Row.d)) ≤ 2 := by
 obtain ⟨a, b, c, d⟩ := many (xs.map Rc.Row.d) fun x hx => by
  obtain ⟨r, hr, rfl⟩ := List.mem_map.mp hx
  exact a3G (h r hr).1 (h r hr).2
 rw [List.length_map] at c
 simp only [aZ, bD, bR, bh]
 exact ⟨a, b, c, by omega⟩
theorem a3I {vs : List Int} (h : ∀ v ∈ vs, v.natAbs < 10 ^ 60) : aZ (.lst (vs.map D.int)) ∧ bD (.lst (vs.map D.int)) ∧ bR (.lst (vs.map D.int)) ≤ 21 * vs.length ∧ bh (.lst (vs.map D.int)) ≤ 2 := by
 obtain ⟨a, b, c, d⟩ := many (vs.map D.int) fun x hx => by
  obtain ⟨v, hv, rfl⟩ := List.mem_map.mp hx
  simp only [aZ, bD, bR, bh]
  exact ⟨h v hv, trivial, by omega, by omega⟩
 rw [List.length_map] at c
 simp only [aZ, bD, bR, bh]
 exact ⟨a, b, c, by omega⟩
theorem V6 (h : ∀ r ∈ rs, r.fj) : ∀ v ∈ outs rs, -(10 ^ 18) ≤ v ∧ v ≤ 10 ^ 18 := by
 intro v hv
 obtain ⟨r, hr, rfl⟩ := List.mem_map.mp hv
 obtain ⟨h1, h2⟩ := List.mem_filter.mp hr
 have := h r h1
 cases r <;> first | exact this | (cases h2; done)
theorem V7 {B : Nat} {fs : List Str} (h : ∀ r ∈ rs, r.fj ∧ r.inn fs ∧ iZ r ≤ B) : ∀ r ∈ kY rs, r.fj ∧ r.inn fs ∧ iZ r ≤ B := by
 intro r hr
 obtain ⟨q, hq, rfl⟩ := List.mem_map.mp hr
 have := h q (List.mem_filter.mp hq).1
 cases q <;> first | exact this | exact ⟨trivial, trivial, Nat.zero_le _⟩
theorem a3J {B : Nat} {fs : List Str} (hB : 10 ^ 18 ≤ B) (h : ∀ r ∈ rs, r.fj ∧ r.inn fs ∧ iZ r ≤ B) : ∀ r ∈ sS rs, r.fj ∧ r.inn fs ∧ iZ r ≤ B := by
 intro r hr
 rcases List.mem_append.mp hr with hr | hr
 ·exact V7 h r hr
 ·obtain ⟨v, hv, rfl⟩ := List.mem_map.mp hr
  have := V6 (fun r hr => (h r hr).1) v hv
  exact ⟨this, trivial, by show v.natAbs ≤ B; omega⟩
theorem CL {B : Nat} {r : Rc.Row} (h : iZ r ≤ B) : (used r b).natAbs ≤ B + 1 := by
 have hi : jL b = 0 ∨ jL b = 1 := by unfold jL; split <;> simp
 cases r <;> simp only [used, iZ] at * <;> (try split) <;> omega
theorem V8 {B : Nat} : ∀ rs : List Rc.Row, (∀ r ∈ rs, iZ r ≤ B) → (vg rs b).natAbs ≤ rs.length * (B + 1)
 | [], _ => by simp [vg, su]
 | r :: rs, h => by
  have ih := V8 rs fun x hx => h x (List.mem_cons_of_mem _ hx)
  have := CL (b := b) (h r List.mem_cons_self)
  rw [a1w, List.length_cons, Nat.succ_mul]
  omega
theorem a3K {B : Nat} {fs : List Str} (h : ∀ r ∈ rs, r.fj ∧ r.inn fs ∧ iZ r ≤ B) : ∀ r ∈ gives rs, r.fj ∧ r.inn fs ∧ iZ r ≤ rs.length * (B + 1) := by
 intro r hr
 obtain ⟨c, hc, rfl⟩ := List.mem_map.mp hr
 obtain ⟨h1, h2⟩ := List.mem_filter.mp hc
 obtain ⟨q, hq, hf, rfl⟩ := Uq.mp h1
 have hh := h q hq
 have hn : cW (nm q) ∧ nm q ∈ fs := by
  cases q <;> first | exact ⟨hh.1.1, hh.2.1⟩ | (cases hf; done)
 exact ⟨⟨hn.1, by simpa using h2, trivial⟩, hn.2, V8 rs fun x hx => (h x hx).2.2⟩
theorem a3L {B : Nat} {fs : List Str} (hb : cW b) (hm : b ∈ fs) (h : ∀ r ∈ rs, r.fj ∧ r.inn fs ∧ iZ r ≤ B) : ∀ r ∈ catchR rs b k, r.fj ∧ r.inn fs ∧ iZ r ≤ rs.length * (B + 1) + B := by
 intro r hr
 unfold catchR at hr
 rcases List.mem_append.mp hr with hr | hr
 ·rcases List.mem_append.mp hr with hr | hr
  ·have := V7 h r hr
   exact ⟨this.1, this.2.1, by omega⟩
  ·rw [List.mem_singleton.mp hr]
   exact ⟨hb, hm, Nat.zero_le _⟩
 ·split at hr
  ·have := a3K h r hr
   exact ⟨this.1, this.2.1, by omega⟩
  ·cases hr
theorem a3M {fs : List Str} (h : ∀ r ∈ rs, r.inn fs) : (oX rs).length ≤ fs.length := by
 refine GZ a1u fun x hx => ?_
 obtain ⟨q, hq, hf, rfl⟩ := Uq.mp hx
 have := h q hq
 cases q <;> first | exact this | (cases hf; done)
theorem a3N : (sS rs).length ≤ 2 * rs.length := by
 unfold sS
 have := plain_len (rs := rs); have := K8 (rs := rs)
 rw [List.length_append, List.length_map]; omega
theorem a3O {fs : List Str} (h : ∀ r ∈ rs, r.inn fs) : (catchR rs b k).length ≤ rs.length + 1 + fs.length := by
 unfold catchR
 have := plain_len (rs := rs); have := a1x (rs := rs); have := a3M h
 rw [List.length_append, List.length_append, List.length_singleton]
 split <;> simp <;> omega
end
section
variable {S : Store} {rs : List Rc.Row} {fs : List Str} {b : Str}
theorem kd_new {k : Str} {v : Int} {acc : Am} (h : k ∉ acc.map (·.1)) : putD (kd acc) (.inr k) (.int v) = kd (acc ++ [(k, v)]) := by
 unfold putD
 rw [CN, if_neg fun z => h (zQ.mp z)]
 unfold kd
 rw [List.map_append]
 rfl
theorem V9 : ∀ (fs : List Str) (acc : Am), (acc.map (·.1) ++ fs).Nodup → uH (kd acc) (fs.map fun f => ((.inr f : Key), D.int 3)) = kd (acc ++ fs.map fun f => (f, (3 : Int)))
 | [], acc, _ => by simp [uH]
 | f :: fs, acc, h => by
  have nk : f ∉ acc.map (·.1) := fun z => by
   rw [List.nodup_append] at h
   exact h.2.2 f z f (by simp) rfl
  have e2 : uH (kd acc) ((f :: fs).map fun f => ((.inr f : Key), D.int 3)) = uH (putD (kd acc) (.inr f) (.int 3)) (fs.map fun f => ((.inr f : Key), D.int 3)) := rfl
  rw [e2, kd_new nk, V9 fs (acc ++ [(f, 3)]) (by rw [List.map_append, List.append_assoc]; exact h), List.append_assoc]
  rfl
theorem Va : ∀ fs : List Str, wB (fs.map fun f => D.tup [.str f, .int 3]) = some (fs.map fun f => ((.inr f : Key), D.int 3))
 | [] => rfl
 | f :: fs => by simp only [List.map_cons, wB, keyD, Va fs]
abbrev start (fs : List Str) : Am := fs.map fun f => (f, (3 : Int))
theorem a3P (h : fs.Nodup) : za S [.lst (fs.map fun f => D.tup [.str f, .int 3])] = some (.dct (kd (start fs))) := by
 unfold za
 simp only [dG, bL, Va]
 have := V9 fs [] (by simpa using h)
 rw [List.nil_append] at this
 exact congrArg (fun z => some (D.dct z)) this
theorem Vb (h : ∀ r ∈ rs, r.ok) (nd : fs.Nodup) (hl : fs.length ≤ 4) : ∃ J, jo [.lst (rs.map Rc.Row.d), .dct (kd (start fs))] S = .ok (ans (walk rs (start fs) 0)) (S ++ J) := by
 have e : (start fs).map (·.1) = fs := by unfold start; rw [List.map_map]; simp [Function.comp_def]
 have a := a3C (S := S) (a := .dct (kd (start fs))) (ks := start fs) rfl h rfl (by rw [e]; exact nd) (by unfold start; rw [List.length_map]; omega)
 cases er : jo [.lst (rs.map Rc.Row.d), .dct (kd (start fs))] S with
 | ok d S' =>
  rw [er] at a
  obtain ⟨rfl, J, rfl⟩ := (show d = ans (walk rs (start fs) 0) ∧ ∃ J, S' = S ++ J from a)
  exact ⟨J, rfl⟩
 | exc _ _ => rw [er] at a; exact a.elim
 | stuck => rw [er] at a; exact a.elim
theorem Vc : ∀ {rs : List Rc.Row} {ks : Am} {i j : Nat} {b : Str}, walk rs ks i = some (j, b) → b ∈ ks.map (·.1)
 | [], _, _, _, _, h => by cases h
 | r :: rs, ks, i, j, b, h => by
  rw [V4] at h
  cases e : fail r ks with
  | some c =>
   rw [e] at h
   cases h
   exact a1g (List.find?_some e)
  | none =>
   rw [e] at h
   have := Vc h
   rwa [a1b] at this
theorem a3Q (hn : ∀ z ∈ fs, cW z) (hl : rs.length ≤ 8) : Sh (ans (walk rs (start fs) 0)) := by
 have e0 : (start fs).map (·.1) = fs := by unfold start; rw [List.map_map]; simp [Function.comp_def]
 cases e : walk rs (start fs) 0 with
 | none => exact vC (by simp [ans, aZ]) (by simp [ans, bR]) (by simp [ans, bh])
 | some p =>
  obtain ⟨j, b⟩ := p
  obtain ⟨k, e1, e2, _⟩ := Uj e
  have hb := hn b (by have := Vc e; rwa [e0] at this)
  have hk : k < 14 := by omega
  refine vC ?_ ?_ ?_
  ·simp only [ans, aZ, cQ]
   refine ⟨?_, hb.chars, trivial⟩
   rw [e1]; simp only [Nat.zero_add, Int.natAbs_natCast]; omega
  ·simp only [ans, bR, dH]; have := hb.2.1; omega
  ·simp only [ans, bh, cU]; simp
theorem Lh {q : Sm} (q1 : q.1.natAbs < 10 ^ 60) (q2 : q.2.natAbs < 10 ^ 60) : Sh (Sm.d q) := vC (a0U q1 q2) (by rw [a0V]; decide) (by rw [a0W]; decide)
theorem a3R (b : Bool) : Sh (.bl b) := vC (by simp only [aZ]) (by simp [bR]) (by simp [bh])
theorem Vd (h : ∀ r ∈ rs, r.fj ∧ iZ r < 10 ^ 60) (hl : rs.length ≤ 1000) : Sh (.lst (rs.map Rc.Row.d)) := by
 obtain ⟨a, _, c, d⟩ := a3H h
 exact vC a (by omega) (by omega)
theorem Ve {vs : List Int} (h : ∀ v ∈ vs, v.natAbs < 10 ^ 60) (hl : vs.length ≤ 1000) : Sh (.lst (vs.map D.int)) := by
 obtain ⟨a, _, c, d⟩ := a3I h
 exact vC a (by omega) (by omega)
theorem a3S (k : Nat) (hk : k ≤ 1000) : Sh (.lst (List.replicate k (D.bl true))) := by
 refine vC ?_ ?_ ?_
 ·simp only [aZ]; exact Bg.mpr fun d hd => by rw [List.eq_of_mem_replicate hd]; simp only [aZ]
 ·have : dH (List.replicate k (D.bl true)) ≤ (List.replicate k (D.bl true)).length * (10 + 1) := EF fun d hd => by rw [List.eq_of_mem_replicate hd]; simp [bR]
  rw [List.length_replicate] at this
  simp only [bR]; omega
 ·have : cU (List.replicate k (D.bl true)) ≤ 0 := yP fun d hd => by rw [List.eq_of_mem_replicate hd]; simp [bh]
  simp only [bh]; omega
end
/-- names cA a9d may a9e -/
structure Fn (fs : List Str) : Prop where
 ne : fs ≠ []
 len : fs.length ≤ 4
 nm : ∀ z ∈ fs, cW z
 nd : fs.Nodup
section
variable {S : Store} {n : Nat} {rs : List Rc.Row} {fs : List Str} {b : Str} {N : aN → Store → Prop} {p : Po}
theorem a3T {k : Nat} {x : D} (hk : k ≤ 100) : lN S (.lst [x]) (.int (k : Int)) = some (.lst (List.replicate k x)) := by
 unfold lN
 simp only [bL]
 rw [if_pos ⟨by omega, by omega, by rw [sizeLine_eq]; simp; omega⟩]
 have : ∀ k : Nat, (List.replicate k [x]).flatten = List.replicate k x := by
  intro k
  induction k with
  | zero => rfl
  | succ k ih => rw [List.replicate_succ, List.flatten_cons, ih, List.replicate_succ]; rfl
 rw [Int.toNat_natCast, this]
theorem a3U {d0 d2 d3 d5 d6 : D} {ps : List D} (hl : rs.length ≤ 100) : aC lN (cH (aj (mC (.bl true)) ao)) (aO eY (aj (ak 1) ao)) (R0 d0 (.lst (rs.map Rc.Row.d)) d2 d3 d5 d6 ps) S = .ok (.lst (List.replicate rs.length (.bl true))) S := by
 refine al_eq ?_
 simp! [List.length_map, a3T hl]
theorem Lj {r : Rc.Row} (h : r.ok) : iZ r ≤ 10 ^ 19 := by
 cases r <;> simp only [iZ, Rc.Row.ok, Rc.big] at h ⊢ <;> omega
theorem a3V (hf : Fn fs) (hok : ∀ r ∈ rs, r.ok ∧ r.inn fs) (hl : rs.length ≤ 8) (hb : cW b) (hm : b ∈ fs) (hr : fG S n) (hn : 2 ≤ n) (t : Tb S) (q : ∀ S', fG S' n → Tb S' → p.T (.bl true) S') :
  (GU [.sh (.ref n), .sh (.lst (rs.map Rc.Row.d)), .sh (.lst (fs.map D.str)), .un, .un, .sh (.str b), .sh (.dct (kd (start fs))), .un, .un, .un] S).al N p := by
 have ho : ∀ r ∈ rs, r.ok := fun r h => (hok r h).1
 have hw : ∀ r ∈ rs, r.fj := fun r h => (ho r h).weak
 have hi : ∀ r ∈ rs, r.inn fs := fun r h => (hok r h).2
 have ha : ∀ r ∈ rs, r.fj ∧ r.inn fs ∧ iZ r ≤ 10 ^ 19 := fun r h => ⟨hw r h, hi r h, Lj (ho r h)⟩
 have hv := a0R b rs
 have bd := a0T (b := b) rs ho
 have w1 : (su b rs).1.natAbs ≤ 16 * 10 ^ 18 := by omega
 have w2 : (su b rs).2.natAbs ≤ 16 * 10 ^ 18 := by omega
 have p3 := pw_bd (p := su b rs) (k := 16 * 10 ^ 18) w1 w2 3
 have d4 : (D.tup [.int 4, .int (-1)]) = Sm.d (4, -1) := rfl
 have dl := dt2 (a := D.int 4) (b := D.int (-1))
 have am : ∀ r ∈ rs, r.fj ∧ iZ r < 10 ^ 60 := fun r h => ⟨hw r h, Nat.lt_of_le_of_lt (Lj (ho r h)) (by decide)⟩
 obtain ⟨J1, f1⟩ := Vb (S := S) ho hf.nd hf.len
 obtain ⟨J2, f2⟩ := Vb (S := S ++ J1) ho hf.nd hf.len
 unfold GU U0
 have sE : ∀ S, gA [.lst (rs.map Rc.Row.d), .str b] S = .ok (Sm.d (su b rs)) S := fun S => a3d hw
 have jE : ∀ S, oW [Sm.d (su b rs), .tup [.int 4, .int (-1)]] S = .ok (Sm.d (jn (su b rs) (4, -1))) S := fun S => by rw [a3c]; exact join_eq (q := (4, -1))
 simp! [sE, jE]
 have P0 : Pr [.tup [Sm.d (su b rs), Sm.d (su b rs)], .tup [Sm.d (jn (su b rs) (4, -1)), Sm.d (jn (su b rs) (4, -1))]] := by
  have s1 : Sh (Sm.d (su b rs)) := Lh (by omega) (by omega)
  have s2 : Sh (Sm.d (jn (su b rs) (4, -1))) := Lh (by unfold jn; simp only; omega) (by unfold jn; simp only; omega)
  intro x hx
  simp only [List.mem_cons, List.not_mem_nil, or_false] at hx
  rcases hx with rfl | rfl
  ·exact ⟨_, rfl, s1⟩
  ·exact ⟨_, rfl, s2⟩
 unfold TY
 refine tG (v := Sm.d (pw (su b rs) 3)) (by simp) (show jm [Sm.d (su b rs), .int 3] S = _ from pow_eq hv) (show jm [Sm.d (su b rs), .int 3] S = _ from pow_eq hv) ?_
 have P1 := P0.add (v := Sm.d (pw (su b rs) 3)) (Lh (by omega) (by omega))
 unfold TX
 refine tG (v := .bl (decide ((su b rs).1 ≤ 5))) (by simp) (show nQ [Sm.d (su b rs), .int 5] S = _ by rw [UN]; exact Ue) (show nQ [Sm.d (su b rs), .int 5] S = _ by rw [UN]; exact Ue) ?_
 have P2 := P1.add (a3R (decide ((su b rs).1 ≤ 5)))
 unfold TV
 refine tG (by simp) (show jo [.lst (rs.map Rc.Row.d), .dct (kd (start fs))] S = _ from f1) (show jo [.lst (rs.map Rc.Row.d), .dct (kd (start fs))] (S ++ J1) = _ from f2) ?_
 have P3 := P2.add (a3Q (rs := rs) hf.nm hl)
 generalize hT : S ++ J1 ++ J2 = T
 unfold TU
 refine tG (v := .lst ((outs rs).map D.int)) (by simp) (show fQ [.lst (rs.map Rc.Row.d)] T = _ from KZ hw (by omega)) (show fQ [.lst (rs.map Rc.Row.d)] T = _ from KZ hw (by omega)) ?_
 have lo := K8 (rs := rs)
 have P4 := P3.add (Ve (vs := outs rs) (fun v hv => by have := V6 hw v hv; omega) (by omega))
 unfold TR
 refine tG (v := .lst ((sS rs).map Rc.Row.d)) (by simp) (show jr [.lst (rs.map Rc.Row.d)] T = _ from UP hw (by omega)) (show jr [.lst (rs.map Rc.Row.d)] T = _ from UP hw (by omega)) ?_
 have le := a3N (rs := rs)
 have P5 := P4.add (Vd (rs := sS rs) (fun r hr => let ⟨x, _, y⟩ := a3J (B := 10 ^ 19) (by decide) ha r hr; ⟨x, Nat.lt_of_le_of_lt y (by decide)⟩) (by omega))
 unfold TQ
 have c1 : rs.map (fun _ => D.bl true) = List.replicate rs.length (D.bl true) := List.map_const' ..
 refine tG (v := .lst (List.replicate rs.length (.bl true))) (by simp) (by rw [← c1]; exact Lg (g := fun _ => .bl true) (f := fP) (fun r hr => show fP [r.d] T = _ by rw [KW]; exact CO (hw r hr)) (by omega)) (a3U (by omega)) ?_
 have P6 := P5.add (a3S rs.length (by omega))
 unfold TN
 have bl := a1v (rs := rs)
 refine tG (v := .lst ((catchR rs b "keep").map Rc.Row.d)) (by simp) (show jt [.lst (rs.map Rc.Row.d), .str b, .str "keep"] T = _ from UQ hw (by omega) (by omega)) (show jt [.lst (rs.map Rc.Row.d), .str b, .str "keep"] T = _ from UQ hw (by omega) (by omega)) ?_
 have lc := a3O (rs := rs) (b := b) (k := "keep") hi
 have fl := hf.len
 have P7 := P6.add (Vd (rs := catchR rs b "keep") (fun r hr => let ⟨x, _, y⟩ := a3L (B := 10 ^ 19) hb hm ha r hr; ⟨x, Nat.lt_of_le_of_lt (Nat.le_trans y (Nat.add_le_add_right (Nat.mul_le_mul_right (10 ^ 19 + 1) hl) (10 ^ 19))) (by decide)⟩) (by omega))
 unfold TJ
 refine tG (v := .lst (rs.map fun r => .int (used r b))) (by simp) (Lg (g := fun r => .int (used r b)) (f := nO) (fun r hr => show nO [r.d, .str b] T = _ from units_eq (hw r hr)) (by omega)) (Lg (g := fun r => .int (used r b)) (f := nO) (fun r hr => show nO [r.d, .str b] T = _ from units_eq (hw r hr)) (by omega)) ?_
 have c2 : rs.map (fun r => D.int (used r b)) = (rs.map fun r => used r b).map D.int := by rw [List.map_map]; rfl
 have P8 := P7.add (v := .lst (rs.map fun r => .int (used r b))) (by
  rw [c2]
  refine Ve (fun v hv => ?_) (by rw [List.length_map]; omega)
  obtain ⟨r, hr, rfl⟩ := List.mem_map.mp hv
  have := CL (b := b) (Lj (ho r hr))
  omega)
 refine a3E P8 (by simp) (q T ?_ ?_)
 ·obtain ⟨u, v, e, r⟩ := hr
  have ln : n < S.length := (List.getElem?_eq_some_iff.mp e).1
  exact ⟨u, v, by rw [← hT, List.append_assoc, List.getElem?_append_left ln]; exact e, r⟩
 ·have l1 : 1 < S.length := (List.getElem?_eq_some_iff.mp t.2).1
  exact ⟨by rw [← hT, List.append_assoc, List.getElem?_append_left (by omega)]; exact t.1, by rw [← hT, List.append_assoc, List.getElem?_append_left l1]; exact t.2⟩
end
section
variable {S : Store} {n : Nat} {rs : List Rc.Row} {fs : List Str} {Q : D → Store → Prop} {E : bT → Store → Prop}
theorem Hg (hf : Fn fs) (hok : ∀ r ∈ rs, r.ok ∧ r.inn fs) (hl : rs.length ≤ 8) (hr : fG S n) (hn : 2 ≤ n) (t : Tb S) (q : ∀ S', fG S' n → Tb S' → Q (.bl true) S') :
  (wY [.ref n, .lst (rs.map Rc.Row.d), .lst (fs.map D.str)] S).al Q E := by
 have fl : 0 < fs.length := List.length_pos_iff.mpr hf.ne
 have f4 := hf.len
 unfold wY GV
 simp! [List.length_map]
 refine wz hr (by omega) (by omega) fun k S1 k0 k1 g => ?_
 obtain ⟨z, hz, b, rfl, hb⟩ := lW (xs := fs.map D.str) (P := fun z => ∃ b : Str, z = .str b ∧ b ∈ fs) k0 (by rw [List.length_map]; exact k1) fun x hx => by
  obtain ⟨b, hb, rfl⟩ := List.mem_map.mp hx
  exact ⟨b, rfl, hb⟩
 have hc : bG [3] (aM 3) eX (aR (aj (ak 3) (aj (mC (.int 3)) ao))) [.sh (.ref n), .sh (.lst (rs.map Rc.Row.d)), .sh (.lst (fs.map D.str)), .un, .un, .un, .un, .un, .un, .un] (fs.map D.str) [] S1 = .ok (fs.map fun f => D.tup [.str f, .int 3]) S1 := by
  rw [vh (CQ := D.str) (p := fun _ => true) (f := fun f => D.tup [.str f, .int 3]) fs [] (fun r hr => ⟨_, rfl, rfl, fun _ => rfl⟩) (by rw [List.length_nil, sizeLine_eq]; omega), List.nil_append, List.filter_eq_self.mpr fun _ _ => rfl]
 simp! [hz, bO, hc, a3P hf.nd]
 refine ⟨_, rfl, ?_⟩
 exact a3V hf hok hl (hf.nm b hb) hb g.at_ hn (t.gn g hn) q
end
def tH : List D := [.int (-1), .non, .bl true, .bl false, .str "1", .str "", .lst [], .tup [.int 2], .dct [], .int (-10 ^ 20)]
def qF (w : D) : Str := match d9 [] [.lst [.str "amount", w, .bl true]] with
 | some (.str k) => k
 | _ => ""
abbrev ba (w : D) : bT := ⟨"InvalidAmount", [("value", w)]⟩
section
variable {S : Store} {w : D} {Q : D → Store → Prop} {E : bT → Store → Prop} {ρ : aN}
theorem Ln {p : D → Prop} (h : w ∈ tH) (h0 : p (.int (-1))) (h1 : p .non) (h2 : p (.bl true)) (h3 : p (.bl false)) (h4 : p (.str "1")) (h5 : p (.str "")) (h6 : p (.lst [])) (h7 : p (.tup [.int 2])) (h8 : p (.dct [])) (h9 : p (.int (-10 ^ 20))) : p w := by
 unfold tH at h
 simp only [List.mem_cons, List.not_mem_nil, or_false] at h
 rcases h with rfl | rfl | rfl | rfl | rfl | rfl | rfl | rfl | rfl | rfl <;> assumption
theorem a3W (h : w ∈ tH) : jm [.tup [.int 1, .int 1], w] S = .exc (ba w) S := by
 refine Ln (p := fun w => jm [.tup [.int 1, .int 1], w] S = .exc (ba w) S) h ?_ ?_ ?_ ?_ ?_ ?_ ?_ ?_ ?_ ?_ <;> kernel_rfl
theorem Vf (h : w ∈ tH) : d9 S [.lst [.str "amount", w, .bl true]] = some (.str (qF w)) := by
 refine Ln (p := fun w => d9 S [.lst [.str "amount", w, .bl true]] = some (.str (qF w))) h ?_ ?_ ?_ ?_ ?_ ?_ ?_ ?_ ?_ ?_ <;> kernel_rfl
theorem a3X (h : w ∈ tH) : ∀ c ∈ (qF w).cps.toList, c < 0x110000 := by
 have key : ((qF w).cps.toList.all fun c => decide (c < 0x110000)) = true := by
  refine Ln (p := fun w => ((qF w).cps.toList.all fun c => decide (c < 0x110000)) = true) h ?_ ?_ ?_ ?_ ?_ ?_ ?_ ?_ ?_ ?_ <;> kernel_rfl
 intro c hc
 exact of_decide_eq_true (List.all_eq_true.mp key c hc)
theorem a3Y {L : Store → R D} {S' : Store} (hL : L S = .exc (ba w) S') (hw : w ∈ tH) : je L S = .ok (.str (qF w)) S' := by
 unfold je
 refine UW (S3 := S') (ρ2 := [.un, .sh (.lst [.str "amount", w, .bl true]), .un]) rfl rfl hL (by kernel_rfl) ?_
 show (R.opt (d9 S' [.lst [.str "amount", w, .bl true]]) S').st _ _ = _
 rw [Vf hw]
 rfl
theorem a3Z {m : EX} (ht : S[1]? = some (.tab "law" (jk "law"))) (hn : cM ρ = true) (hm : m ρ S = .exc (ba w) S) (hw : w ∈ tH) (q : Q (.str (qF w)) S) : (kI 1 "law" (jk "law") je m ρ S).al Q E := by
 have t : tabAt S 1 "law" (jk "law") = true := by
  unfold tabAt
  rw [ht]
  simp
 unfold kI
 rw [if_pos ⟨t, hn⟩, a3Y hm hw]
 exact q
end
section
variable {S : Store} {n : Nat}
theorem a4a (t : Tb S) : 2 ≤ S.length := (List.getElem?_eq_some_iff.mp t.2).1
theorem Vg {S0 : Store} (t : Tb S0) (h : RS S0 n S) (hn : 2 ≤ n) : Tb S := by
 obtain ⟨_, _, _, _, _, _, rfl⟩ := h
 exact t.set hn
theorem p20 : jF S (.int 10) (.int 20) = some (.int (10 ^ 20)) := rfl
theorem a4c (ns : List Int) (hn : ns.length ≤ 63) : (sO [.lst (fW ns)] (nJ jf)).al (fun d _ => d = .bl true) fun _ _ => False := by
 have hl : (fW ns).length = ns.length := List.length_map ..
 have t0 : Tb (nJ jf) := ⟨rfl, rfl⟩
 unfold sO GW
 simp! [yQ (show 0 ≤ max (1 : Int) (min 4 ((fW ns).length : Int)) ∧ max (1 : Int) (min 4 ((fW ns).length : Int)) < 2 ^ 62 by omega)]
 refine nu (fun _ ρ S => Tb S ∧ ∃ x1 x2 x3 x4 x5 x6, ρ = [.sh (.lst (fW ns)), x1, x2, x3, x4, x5, x6]) ⟨t0, _, _, _, _, _, _, rfl⟩ ?_ ?_
 ·rintro i d ρ S hd ⟨t, x1, x2, x3, x4, x5, x6, rfl⟩
  obtain ⟨rfl, hi⟩ := yR hd
  refine ⟨_, rfl, ?_⟩
  simp!
  refine Yv (k := i) hn (by omega) fun S1 hS1 => ?_
  refine a0D hS1 fun fs S2 f0 f1 f2 f3 h2 => ?_
  have n2 := a4a t
  have t2 : Tb S2 := Vg (S0 := S ++ [.lst []]) ⟨by rw [List.getElem?_append_left (by omega)]; exact t.1, by rw [List.getElem?_append_left (by omega)]; exact t.2⟩ h2 n2
  simp! [yQ (show 0 ≤ (3 : Int) ∧ (3 : Int) < 2 ^ 62 by decide)]
  refine nu (fun _ ρ U => fG U S.length ∧ Tb U ∧ ∃ x4 x5 x6, ρ = [.sh (.lst (fW ns)), .sh (.int i), .sh (.ref S.length), .sh (.lst (fs.map D.str)), x4, x5, x6]) ⟨h2.at, t2, _, _, _, rfl⟩ ?_ ?_
  ·rintro j d ρ U hd ⟨hU, tU, x4, x5, x6, rfl⟩
   obtain ⟨rfl, hj⟩ := yR hd
   refine ⟨_, rfl, ?_⟩
   simp!
   refine a1o (Z8 hU) f0 f1 f2 (by decide) (by decide) fun rs U2 r1 r2 r3 => ?_
   have r8 : rs.length ≤ 8 := r1
   refine a3v r3.at (Vg tU r3 n2) n2 ⟨f0, f1⟩ (fun r h => (r2 r h).1) r8 fun U3 h3 t3 => ?_
   simp!
   refine Hg ⟨f0, f1, f2, f3⟩ r2 r8 h3 n2 t3 fun U4 h4 t4 => ?_
   simp! [p20]
   refine nu (fun _ ρ U => fG U S.length ∧ Tb U ∧ ∃ x6, ρ = [.sh (.lst (fW ns)), .sh (.int i), .sh (.ref S.length), .sh (.lst (fs.map D.str)), .sh (.int j), .sh (.lst (rs.map Rc.Row.d)), x6]) ⟨h4, t4, _, rfl⟩ ?_ ?_
   ·rintro l v ρ U hv ⟨hU, tU, x6, rfl⟩
    have mv : v ∈ tH := List.mem_of_getElem? hv
    refine ⟨_, rfl, ?_⟩
    have ne : ∀ S, iQ S (.str (qF v)) (.str (qF v)) = some (.bl false) := fun S => Yp (by simp only [bD]; exact a3X mv) (by simp [bh])
    simp!
    refine a3Z tU.2 rfl (show jm [.tup [.int 1, .int 1], v] U = _ from a3W mv) mv ?_
    simp! [Vf mv, ne]
    exact ⟨hU, tU, _, rfl⟩
   ·rintro ρ U ⟨hU, tU, x6, rfl⟩
    exact ⟨hU, tU, _, _, _, rfl⟩
  ·rintro ρ U ⟨hU, tU, x4, x5, x6, rfl⟩
   exact ⟨tU, _, _, _, _, _, _, rfl⟩
 ·rintro ρ S ⟨t, x1, x2, x3, x4, x5, x6, rfl⟩
  simp!
theorem a4d (ns : List Int) (hn : ns.length ≤ 63) (_ : ∀ z ∈ ns, Builtin.Int.intBits z ≤ 1048576) : ∃ S, sO [.lst (fW ns)] (nJ jf) = .ok (.bl true) S := by
 have h := a4c ns hn
 cases e : sO [.lst (fW ns)] (nJ jf) with
 | ok d S => rw [e] at h; exact ⟨S, by rw [show d = .bl true from h]⟩
 | exc _ _ => rw [e] at h; exact h.elim
 | stuck => rw [e] at h; exact h.elim
end
end bA
namespace bA
open PySem PySem.Spec PyProof.Rows L2 Mi
theorem all_mk {w : World} {P : Program} {K : PySem.W.Frag} {h : Heap} {mg : Str → Option Value} {fa : Addr} (X : K.In h) (c : oY lE lD hTb w K) (G : h.Ns mainGlobals mg) (hfa : mg "law" = some (.ref fa))
  : ∃ fd : FuncData, (∀ (s : Shared) (v : Value), BindsTo s fd ⟨[v], []⟩ [("_law_script", v)]) ∧ ∀ base : Heap, K.In base → base.Ns mainGlobals mg → (∀ y ∈ jf, qu K mg base y) → fJ P w K mg base 12 fa fd CH (gK ⟨K, mg, w, []⟩ 1 sO) := by
 obtain ⟨dh, dB, dD, dI, dJ, dM, dN, dO, dR, a4e, a4f, a4g⟩ := c.fn (d := LK) 0 rfl
 obtain ⟨dh, dB, dD, dI, dJ, dM, dN, dO, dR, a4h, a4i, a4j⟩ := c.fn (d := hD1) 1 rfl
 obtain ⟨dh, dB, dD, dI, dJ, dM, dN, dO, dR, a4k, a4l, a4m⟩ := c.fn (d := hD2) 2 rfl
 obtain ⟨dh, dB, dD, dI, dJ, dM, dN, dO, dR, a4n, a4o, a4p⟩ := c.fn (d := LL) 3 rfl
 obtain ⟨dh, dB, dD, dI, dJ, dM, dN, dO, dR, a4q, a4r, a4s⟩ := c.fn (d := LN) 4 rfl
 obtain ⟨dh, dB, dD, dI, dJ, dM, dN, dO, dR, a4t, a4u, a4v⟩ := c.fn (d := LQ) 5 rfl
 obtain ⟨dh, dB, dD, dI, dJ, dM, dN, dO, dR, a4w, a4x, a4y⟩ := c.fn (d := LU) 6 rfl
 obtain ⟨dh, dB, dD, dI, dJ, dM, dN, dO, dR, a4z, a4A, a4B⟩ := c.fn (d := LV) 7 rfl
 obtain ⟨dh, dB, dD, dI, dJ, dM, dN, dO, dR, a4C, a4D, a4E⟩ := c.fn (d := LX) 8 rfl
 obtain ⟨dh, dB, dD, dI, dJ, dM, dN, dO, dR, a4F, a4G, a4H⟩ := c.fn (d := LY) 9 rfl
 obtain ⟨dh, dB, dD, dI, dJ, dM, dN, dO, dR, a4I, a4J, a4K⟩ := c.fn (d := hD10) 10 rfl
 obtain ⟨dh, dB, dD, dI, dJ, dM, dN, dO, dR, a4L, a4M, a4N⟩ := c.fn (d := hD11) 11 rfl
 obtain ⟨dh, dB, dD, dI, dJ, dM, dN, dO, dR, a4O, a4P, a4Q⟩ := c.fn (d := LZ) 12 rfl
 obtain ⟨dh, dB, dD, dI, dJ, dM, dN, dO, dR, a4R, a4S, a4T⟩ := c.fn (d := M3) 13 rfl
 obtain ⟨dh, dB, dD, dI, dJ, dM, dN, dO, dR, a4U, a4V, a4W⟩ := c.fn (d := M4) 14 rfl
 obtain ⟨dh, dB, dD, dI, dJ, dM, dN, dO, dR, a4X, a4Y, a4Z⟩ := c.fn (d := M5) 15 rfl
 obtain ⟨dh, dB, dD, dI, dJ, dM, dN, dO, dR, a5a, a5b, a5c⟩ := c.fn (d := M6) 16 rfl
 obtain ⟨dh, dB, dD, dI, dJ, dM, dN, dO, dR, a5d, a5e, a5f⟩ := c.fn (d := hD17) 17 rfl
 obtain ⟨dh, dB, dD, dI, dJ, dM, dN, dO, dR, a5g, a5h, a5i⟩ := c.fn (d := M7) 18 rfl
 obtain ⟨dh, dB, dD, dI, dJ, dM, dN, dO, dR, a5j, a5k, a5l⟩ := c.fn (d := M8) 19 rfl
 obtain ⟨dh, dB, dD, dI, dJ, dM, dN, dO, dR, a5m, a5n, a5o⟩ := c.fn (d := M9) 20 rfl
 obtain ⟨dh, dB, dD, dI, dJ, dM, dN, dO, dR, a5p, a5q, a5r⟩ := c.fn (d := Ma) 21 rfl
 obtain ⟨dh, dB, dD, dI, dJ, dM, dN, dO, dR, a5s, a5t, a5u⟩ := c.fn (d := Mf) 22 rfl
 obtain ⟨dh, dB, dD, dI, dJ, dM, dN, dO, dR, a5v, a5w, a5x⟩ := c.fn (d := Mg) 23 rfl
 obtain ⟨dh, dB, dD, dI, dJ, dM, dN, dO, dR, a5y, a5z, a5A⟩ := c.fn (d := Mh) 24 rfl
 obtain ⟨dh, dB, dD, dI, dJ, dM, dN, dO, dR, a5B, a5C, a5D⟩ := c.fn (d := Mj) 25 rfl
 obtain ⟨dh, dB, dD, dI, dJ, dM, dN, dO, dR, a5E, a5F, a5G⟩ := c.fn (d := Ml) 26 rfl
 obtain ⟨dh, dB, dD, dI, dJ, dM, dN, dO, dR, a5H, a5I, a5J⟩ := c.fn (d := Mp) 27 rfl
 obtain ⟨dh, dB, dD, dI, dJ, dM, dN, dO, dR, a5K, a5L, a5M⟩ := c.fn (d := Mq) 28 rfl
 obtain ⟨dh, dB, dD, dI, dJ, dM, dN, dO, dR, a5N, a5O, a5P⟩ := c.fn (d := Mr) 29 rfl
 obtain ⟨dh, dB, dD, a5Q, a5R, a5S, a5T, a5U, a5V, a5W, a5X, a5Y⟩ := c.fn (d := Ms) 30 rfl
 obtain ⟨KA, a5Z⟩ := oM (c.ck 49)
 obtain ⟨a2J, a65⟩ := oM (c.ck 50)
 obtain ⟨KC, a66⟩ := oM (c.ck 51)
 obtain ⟨a2p, a67⟩ := O4 (c.ck 52)
 obtain ⟨a2g, a68⟩ := oM (c.ck 53)
 obtain ⟨a2i, a69⟩ := O4 (c.ck 54)
 obtain ⟨KD, a6a⟩ := oM (c.ck 55)
 obtain ⟨KN, a6b⟩ := oM (c.ck 56)
 obtain ⟨a2L, a6c⟩ := oM (c.ck 57)
 obtain ⟨UI, a6d⟩ := oM (c.ck 58)
 obtain ⟨KH, a6e⟩ := oM (c.ck 59)
 obtain ⟨KI, a6f⟩ := oM (c.ck 60)
 obtain ⟨dh, dB, dD, dI, dJ, dM, dN, dO, dR, a6g, a6h, a6i⟩ := c.fn (d := Mu) 31 rfl
 obtain ⟨dh, dB, dD, dI, dJ, dM, dN, dO, dR, a6j, a6k, a6l⟩ := c.fn (d := Mv) 32 rfl
 have a0 := (He.eqO_ok (c.ck 0))
 have a1 := (He.eqO_ok (c.ck 1))
 have a2 := (He.eqO_ok (c.ck 2))
 have a3 := (He.eqO_ok (c.ck 3))
 have a4 := (He.eqO_ok (c.ck 4))
 have a5 := (He.eqO_ok (c.ck 5))
 have a6 := (He.eqO_ok (c.ck 6))
 have a7 := (He.eqO_ok (c.ck 7))
 have a8 := (He.eqO_ok (c.ck 8))
 have a9 := (He.eqO_ok (c.ck 9))
 have a10 := (He.eqO_ok (c.ck 10))
 have a11 := (He.eqO_ok (c.ck 11))
 have a12 := (He.eqO_ok (c.ck 12))
 have a13 := (He.eqO_ok (c.ck 13))
 have a14 := (He.eqO_ok (c.ck 14))
 have a15 := (He.eqO_ok (c.ck 15))
 have a16 := (He.eqO_ok (c.ck 16))
 have a17 := (He.eqO_ok (c.ck 17))
 have a18 := (He.eqO_ok (c.ck 18))
 have a19 := (He.eqO_ok (c.ck 19))
 have a20 := (He.eqO_ok (c.ck 20))
 have a21 := (He.eqO_ok (c.ck 21))
 have a22 := (He.eqO_ok (c.ck 22))
 have a23 := (He.eqO_ok (c.ck 23))
 have a24 := (He.eqO_ok (c.ck 24))
 have a25 := (He.eqO_ok (c.ck 25))
 have a26 := (He.eqO_ok (c.ck 26))
 have a27 := (He.eqO_ok (c.ck 27))
 have a28 := (He.eqO_ok (c.ck 28))
 have a29 := (He.eqO_ok (c.ck 29))
 have a30 := (He.eqO_ok (c.ck 30))
 have l0 := a4e
 have c0 := a4f
 have k0 := a4g
 have l1 := a4h
 have c1 := a4i
 have k1 := a4j
 have l2 := a4k
 have c2 := a4l
 have k2 := a4m
 have l3 := a4n
 have c3 := a4o
 have k3 := a4p
 have l4 := a4q
 have c4 := a4r
 have k4 := a4s
 have l5 := a4t
 have c5 := a4u
 have k5 := a4v
 have l6 := a4w
 have c6 := a4x
 have k6 := a4y
 have l7 := a4z
 have c7 := a4A
 have k7 := a4B
 have l8 := a4C
 have c8 := a4D
 have k8 := a4E
 have l9 := a4F
 have c9 := a4G
 have k9 := a4H
 have l10 := a4I
 have c10 := a4J
 have k10 := a4K
 have l11 := a4L
 have c11 := a4M
 have k11 := a4N
 have l12 := a4O
 have c12 := a4P
 have k12 := a4Q
 have l13 := a4R
 have c13 := a4S
 have k13 := a4T
 have l14 := a4U
 have c14 := a4V
 have k14 := a4W
 have l15 := a4X
 have c15 := a4Y
 have k15 := a4Z
 have l16 := a5a
 have c16 := a5b
 have k16 := a5c
 have l17 := a5d
 have c17 := a5e
 have k17 := a5f
 have l18 := a5g
 have c18 := a5h
 have k18 := a5i
 have l19 := a5j
 have c19 := a5k
 have k19 := a5l
 have l20 := a5m
 have c20 := a5n
 have k20 := a5o
 have l21 := a5p
 have c21 := a5q
 have k21 := a5r
 have l22 := a5s
 have c22 := a5t
 have k22 := a5u
 have l23 := a5v
 have c23 := a5w
 have k23 := a5x
 have l24 := a5y
 have c24 := a5z
 have k24 := a5A
 have l25 := a5B
 have c25 := a5C
 have k25 := a5D
 have l26 := a5E
 have c26 := a5F
 have k26 := a5G
 have l27 := a5H
 have c27 := a5I
 have k27 := a5J
 have l28 := a5K
 have c28 := a5L
 have k28 := a5M
 have l29 := a5N
 have c29 := a5O
 have k29 := a5P
 have l30 := a5W
 have c30 := a5X
 have k30 := a5Y
 have a7a := (He.eqO_ok (c.ck 31))
 have a7b := (He.eqO_ok (c.ck 32))
 have a7c := (He.eqO_ok (c.ck 33))
 have a7d := (He.eqO_ok (c.ck 34))
 have a7e := (He.eqO_ok (c.ck 35))
 have a7f := (He.eqO_ok (c.ck 36))
 have a7g := (He.eqO_ok (c.ck 37))
 have a7h := (He.eqO_ok (c.ck 38))
 have a7i := (He.eqO_ok (c.ck 39))
 have a7j := (He.eqO_ok (c.ck 40))
 have a7k := (He.eqO_ok (c.ck 41))
 have a7l := (He.eqO_ok (c.ck 42))
 have a7m := (He.eqO_ok (c.ck 43))
 have a7n := (He.eqO_ok (c.ck 44))
 have a7o := (He.eqO_ok (c.ck 45))
 have a7p := (He.eqO_ok (c.ck 46))
 have a7q := (He.eqO_ok (c.ck 47))
 have a7r := (He.eqO_ok (c.ck 48))
 have a7s := (He.eqO_ok (c.ck 61))
 have a7t := (Xr (c.ck 62) (c.tab (t := hT0) 0 rfl))
 have D8 := (He.eqO_ok (c.ck 63))
 have lg := (He.eqO_ok (c.ck 64))
 have lu := (He.eqO_ok (c.ck 65))
 have Lp := (He.eqO_ok (c.ck 66))
 have CV := (c.ck 67)
 have Ks := (c.ck 68)
 have Ku := (c.ck 69)
 have CW := (c.ck 70)
 have a7u := (He.eqO_ok (c.ck 71))
 have a7v := (Sd (c.ck 73) (c.ck 72))
 have a7w := (Ek (c.ck 74))
 have a7x := (He.eqO_ok (c.ck 75))
 have a7y := a6g
 have a7z := a6h
 have a7A := a6i
 have a7B := (Sq (c.ck 76))
 have a7C := (He.eqO_ok (c.ck 77))
 have a7D := (Sd (c.ck 79) (c.ck 78))
 have a7E := (Ek (c.ck 80))
 have a7F := (He.eqO_ok (c.ck 81))
 have a7G := a6j
 have a7H := a6k
 have a7I := a6l
 have a7J := (Sq (c.ck 82))
 have a7K := (a06 (c.ck 83))
 have xt0 := (jj (c.ck 84))
 have xt1 := (jj (c.ck 85))
 have xt2 := (jj (c.ck 86))
 have xt3 := (jj (c.ck 87))
 have xt4 := (jj (c.ck 88))
 have xt5 := (jj (c.ck 89))
 have xt6 := (jj (c.ck 90))
 have xt7 := (jj (c.ck 91))
 have a7T := (He.eqO_ok (c.ck 75))
 have a7U := (He.eqO_ok (c.ck 81))
 have a7V := (jj (c.ck 92))
 have a7W := (jj (c.ck 93))
 have a7X := (jj (c.ck 94))
 have a7Y := (jj (c.ck 95))
 have e := hfa.symm.trans (PySem.W.mg_of X G a30)
 cases e
 have T : Txt K mg w := ⟨PySem.W.mg_none_of X G a7a, PySem.W.mg_none_of X G a7b, PySem.W.mg_none_of X G a7c, PySem.W.mg_none_of X G a7d, PySem.W.mg_none_of X G a7e, PySem.W.mg_none_of X G a7f, PySem.W.mg_none_of X G a7g, PySem.W.mg_none_of X G a7h, PySem.W.mg_none_of X G a7i, PySem.W.mg_none_of X G a7j, PySem.W.mg_none_of X G a7k, PySem.W.mg_none_of X G a7l, PySem.W.mg_none_of X G a7m, PySem.W.mg_none_of X G a7n, PySem.W.mg_none_of X G a7o, PySem.W.mg_none_of X G a7p, PySem.W.mg_none_of X G a7q, PySem.W.mg_none_of X G a7r, ⟨_, PySem.W.mg_of X G a5Z⟩, ⟨_, PySem.W.mg_of X G a65⟩, ⟨_, PySem.W.mg_of X G a66⟩, ⟨_, PySem.W.mg_of X G a67⟩, ⟨_, PySem.W.mg_of X G a68⟩, ⟨_, PySem.W.mg_of X G a69⟩, ⟨_, PySem.W.mg_of X G a6a⟩, ⟨_, PySem.W.mg_of X G a6b⟩, ⟨_, PySem.W.mg_of X G a6c⟩, ⟨_, PySem.W.mg_of X G a6d⟩, ⟨_, PySem.W.mg_of X G a6e⟩, ⟨_, PySem.W.mg_of X G a6f⟩, ⟨_, PySem.W.mg_of X G a7s, a7t.imp fun _ _ h => PySem.W.mg_of X G h⟩, ⟨_, PySem.W.mg_of X G D8, CV⟩, ⟨_, PySem.W.mg_of X G lg, Ks⟩, ⟨_, PySem.W.mg_of X G lu, Ku⟩, ⟨_, PySem.W.mg_of X G Lp, CW⟩, ⟨_, _, _, PySem.W.mg_of X G lg, a7v, a7u, a7w, a7x, fun_mk (st := tL) a7y a7z a7A⟩, ⟨_, _, _, PySem.W.mg_of X G lu, a7D, a7C, a7E, a7F, fun_mk (st := tM) a7G a7H a7I⟩, ⟨_, PySem.W.mg_of X G D8, a7K⟩, ⟨⟨_, PySem.W.mg_of X G lg, a7B⟩, ⟨_, PySem.W.mg_of X G lu, a7J⟩, trivial⟩, ⟨⟨_, _, PySem.W.mg_of X G lg, PySem.W.mg_of X G D8, xt0⟩, ⟨_, _, PySem.W.mg_of X G lg, PySem.W.mg_of X G lg, xt1⟩, ⟨_, _, PySem.W.mg_of X G lg, PySem.W.mg_of X G lu, xt2⟩, ⟨_, _, PySem.W.mg_of X G lg, PySem.W.mg_of X G Lp, xt3⟩, ⟨_, _, PySem.W.mg_of X G lu, PySem.W.mg_of X G D8, xt4⟩, ⟨_, _, PySem.W.mg_of X G lu, PySem.W.mg_of X G lg, xt5⟩, ⟨_, _, PySem.W.mg_of X G lu, PySem.W.mg_of X G lu, xt6⟩, ⟨_, _, PySem.W.mg_of X G lu, PySem.W.mg_of X G Lp, xt7⟩, trivial⟩, trivial, ⟨⟨_, PySem.W.mg_of X G lg, a7T⟩, ⟨_, PySem.W.mg_of X G lu, a7U⟩, trivial⟩, fun {Ca} hc => by
   have e := hc.symm.trans (PySem.W.mg_of X G lg)
   cases e
   exact ⟨⟨_, PySem.W.mg_of X G lg, a7V⟩, ⟨_, PySem.W.mg_of X G lu, a7W⟩, trivial⟩, fun {Ca} hc => by
   have e := hc.symm.trans (PySem.W.mg_of X G lu)
   cases e
   exact ⟨⟨_, PySem.W.mg_of X G lg, a7X⟩, ⟨_, PySem.W.mg_of X G lu, a7Y⟩, trivial⟩⟩
 have F0 := fun_mk (st := nY) l0 c0 k0
 have F1 := fun_mk (st := nZ) l1 c1 k1
 have F2 := fun_mk (st := oZ) l2 c2 k2
 have F3 := fun_mk (st := jw) l3 c3 k3
 have F4 := fun_mk (st := m7) l4 c4 k4
 have F5 := fun_mk (st := pq) l5 c5 k5
 have F6 := fun_mk (st := pA) l6 c6 k6
 have F7 := fun_mk (st := pB) l7 c7 k7
 have F8 := fun_mk (st := o7) l8 c8 k8
 have F9 := fun_mk (st := tO) l9 c9 k9
 have F10 := fun_mk (st := o8) l10 c10 k10
 have F11 := fun_mk (st := pC) l11 c11 k11
 have F12 := fun_mk (st := pD) l12 c12 k12
 have F13 := fun_mk (st := pF) l13 c13 k13
 have F14 := fun_mk (st := m9) l14 c14 k14
 have F15 := fun_mk (st := jW) l15 c15 k15
 have F16 := fun_mk (st := mj) l16 c16 k16
 have F17 := fun_mk (st := mD) l17 c17 k17
 have F18 := fun_mk (st := pG) l18 c18 k18
 have F19 := fun_mk (st := mF) l19 c19 k19
 have F20 := fun_mk (st := lA) l20 c20 k20
 have F21 := fun_mk (st := mG) l21 c21 k21
 have F22 := fun_mk (st := mH) l22 c22 k22
 have F23 := fun_mk (st := lB) l23 c23 k23
 have F24 := fun_mk (st := o9) l24 c24 k24
 have F25 := fun_mk (st := jx) l25 c25 k25
 have F26 := fun_mk (st := pH) l26 c26 k26
 have F27 := fun_mk (st := pJ) l27 c27 k27
 have F28 := fun_mk (st := pK) l28 c28 k28
 have F29 := fun_mk (st := jM) l29 c29 k29
 have Vh := fun_mk (st := lC) l30 c30 k30
 refine ⟨_, fun s v => .of_eq (fd := PySem.W.fnOf "law" "law" (defArgs lC) (defBody lC) (defScope lC) .none a5Q a5R a5S a5T a5U a5V) rfl, fun base _ _ HL => ?_⟩
 have e0 : aJ P w K mg base 1 "is_integer_records" nY zq nM := a1R T F0 (PySem.W.mg_of X G a0) 
 have e1 : aJ P w K mg base 3 "power" nZ zu jm := a1S T F1 (PySem.W.mg_of X G a1) e0
 have e2 : aJ P w K mg base 1 "_law_rng" oZ BR BU := a1T T F2 (PySem.W.mg_of X G a2) 
 have e3 : aJ P w K mg base 1 "_law_draw" jw oO eU := a1U T F3 (PySem.W.mg_of X G a3) 
 have e4 : aJ P w K mg base 2 "_law_names" m7 BW wG := a1V T F4 (PySem.W.mg_of X G a4) e3
 have e5 : aJ P w K mg base 3 "_law_funds" pq BZ wH := a1X T F5 (PySem.W.mg_of X G a5) e3 e4
 have e6 : aJ P w K mg base 2 "_law_number" pA C3 wI := a1Z T F6 (PySem.W.mg_of X G a6) e3
 have e7 : aJ P w K mg base 3 "_law_drawn_row" pB C4 wJ := a2a T F7 (PySem.W.mg_of X G a7) e3 e6
 have e8 : aJ P w K mg base 4 "_law_drawn_rows" o7 C5 wL := a2c T F8 (PySem.W.mg_of X G a8) e3 e7
 have e9 : zm P w K mg base 1 "_law_kind" "_law_call" je := a2e T F9 (PySem.W.mg_of X G a9) 
 have e10 : aJ P w K mg base 1 "is_name" o8 C6 qw := a2f T F10 (PySem.W.mg_of X G a10) 
 have e11 : aJ P w K mg base 1 "is_integer_names" pC C7 C9 := a2l T F11 (PySem.W.mg_of X G a11) 
 have e12 : aJ P w K mg base 2 "is_value" pD Ce oR := a2n T F12 (PySem.W.mg_of X G a12) e11
 have e13 : aJ P w K mg base 3 "fits" pF Ci lU := a2r T F13 (PySem.W.mg_of X G a13) e10 e12 e0
 have Vi : aJ P w K mg base 4 "is_row" m9 zE fP := a2u T F14 (PySem.W.mg_of X G a14) e13
 have A9 : aJ P w K mg base 5 "require_rows" jW sJ eG := a2w T F15 (PySem.W.mg_of X G a15) Vi
 have Lq : aJ P w K mg base 1 "used_by" mj wM jK := a2x T F16 (PySem.W.mg_of X G a16) 
 have Lr : aJ P w K mg base 6 "summary_of" mD wN gA := a2y T F17 (PySem.W.mg_of X G a17) A9 Lq
 have e18 : aJ P w K mg base 1 "budgets_of" pG Cm wO := a2A T F18 (PySem.W.mg_of X G a18) 
 have Vj : aJ P w K mg base 6 "first_failing" mF zF jo := a2B T F19 (PySem.W.mg_of X G a19) A9 Lq e18
 have Lw : aJ P w K mg base 6 "outputs_of" lA wQ fQ := a2D T F20 (PySem.W.mg_of X G a20) A9
 have Vk : aJ P w K mg base 1 "without_outputs" mG zG lV := a2E T F21 (PySem.W.mg_of X G a21) 
 have Vl : aJ P w K mg base 7 "after_end" mH zH jr := a2F T F22 (PySem.W.mg_of X G a22) Lw Vk
 have e23 : aJ P w K mg base 7 "gives_of" lB Cu wV := a2G T F23 (PySem.W.mg_of X G a23) Lr
 have Vm : aJ P w K mg base 8 "after_catch" o9 zJ jt := a2H T F24 (PySem.W.mg_of X G a24) A9 Vk e23
 have e25 : aJ P w K mg base 11 "_law_refusals_right" jx Cz wX := a2N T F25 (PySem.W.mg_of X G a25) (HL "_law_refusals_right" (by decide)) Lr Vj Lw Vl Vm e3 e9
 have e26 : aJ P w K mg base 6 "units" pH CA nO := a2R T F26 (PySem.W.mg_of X G a26) A9 Lq
 have e27 : aJ P w K mg base 1 "join" pJ CB oW := a2S T F27 (PySem.W.mg_of X G a27) 
 have e28 : aJ P w K mg base 1 "passes" pK CF nQ := a2U T F28 (PySem.W.mg_of X G a28) 
 have e29 : aJ P w K mg base 9 "_law_names_right" jM CG wY := a2V T F29 (PySem.W.mg_of X G a29) Vi e26 Lr e27 e1 e28 Vj Lw Vl Vm e3
 have e30 : aJ P w K mg base 12 "law" lC CH sO := a2W T Vh (PySem.W.mg_of X G a30) (HL "law" (by decide)) e1 e2 e5 e8 e9 e25 e29
 obtain ⟨fb, yy, qual, fd, Fq, hm, Gq⟩ := e30
 have ee := hfa.symm.trans hm
 cases ee
 exact Xf Vh Fq Gq
end bA
open PySem PySem.W PyProof.Rows L2 Mi in
set_option maxRecDepth 100000 in
set_option maxHeartbeats 0 in
theorem PySem.Challenge.cw_exactstop_k46_records_refused_and_by_nam_holds : PySem.Challenge.rw_exactstop_k46_records_refused_and_by_nam.Holds :=
 bA.close (Mi.a0p (l := PySem.Challenge.rw_exactstop_k46_records_refused_and_by_nam) (k := 12) (n := 63) (x := "_law_script") (f := bA.sO) rfl (by decide) rfl ⟨rfl, by decide, by decide⟩ rfl bA.a4d (fun w K mg fa h KX c G hmg => bA.all_mk KX c G hmg))
