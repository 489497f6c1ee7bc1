import PyProof.Rows.All
import Wide.All
import OpenK.AllK
import Wide.FinOn
import HandS.ForMost
import HandS.ForExc
import HandS.Flow
import HandS.IsInst
import HandS.TupAny
import PyProof.Rows.SeqMore
import HandS.Deep
import HandS.WordsDict
import PyProof.ReprRoads
import PyProof.CallFns
import HandS.EndBits
import HandS.More
import HandS.RaiseMore
import HandS.RevTup
import PyProof.WalksMore
import KE.GoesMore
import KE.GoesEnum
import HandS.Star
import HandS.Style
import PyProof.ReprBulk
import HandS.FStr
import HandS.Exc
import HandS.ExcInit
import HandS.ExcField
import HandS.TryOnly
import KE.KExcIs
import HandS.ExcIs
import HandS.WordsExc
import HandS.Iter
import PySem.Challenge.RW_exactstop_k43_whole_first_failing
set_option Elab.async false
set_option linter.all false
set_option maxRecDepth 100000
set_option maxHeartbeats 2000000
/-! Mi0: data as trees, the store, results; the pure side. -/
namespace Mi
open PySem L2


/-- a value as a tree; ref n: the n-th thing of the store -/
inductive D where
  | non | bl (b : Bool) | int (i : Int) | str (x : Str)
  | tup (xs : List D) | lst (xs : List D) | dct (kvs : List (Key × D))
  | ref (n : Nat) | ty (n : String) | fn (x : Str)
/-- a thing of the store: it may change -/
inductive SO where
  | lst (xs : List D) | dct (kvs : List (Key × D)) | ins (c : Str) (fs : List (Str × D)) | lck (kvs : List (Key × D)) | lkl (xs : List D)
abbrev Store := List SO
structure Exn where
  cls : Str
  fs : List (Str × D)
/-- a slot: not set, a value, a container that this slot alone holds -/
inductive Sl where
  | un | sh (d : D) | ow (d : D) | ex (e : Exn)
abbrev Rho := List Sl
inductive R (α : Type) where
  | ok (a : α) (S : Store) | exc (e : Exn) (S : Store) | stuck
abbrev EX := Rho → Store → R D
abbrev AX := Rho → Store → R (List D)
abbrev BX := Rho → Store → R Bool
inductive SR where
  | nx (ρ : Rho) (S : Store) | rt (d : D) (S : Store) | bk (ρ : Rho) (S : Store) | ct (ρ : Rho) (S : Store) | exc (e : Exn) (ρ : Rho) (S : Store) | stuck
abbrev SX := Rho → Store → SR
abbrev FX := List D → Store → R D
@[reducible] def R.bind {α β : Type} (r : R α) (f : α → Store → R β) : R β := match r with
  | .ok a S => f a S
  | .exc e S => .exc e S
  | .stuck => .stuck
end Mi

/-! Mi1: how trees stand in a heap. -/
namespace Mi
open PySem L2

/-- what is known of the module -/
structure Ct where
  K : PySem.W.Frag
  mg : Str → Option Value
  w : World
  pn : List (Addr × Obj)

def KL (K : PySem.W.Frag) (a : Addr) (xs : List V) : Prop :=
  ∃ (o : Obj) (its : Array Value) (n : Nat), K.lookup a = some o ∧ o.cls = .type "list" ∧ o.dict = none ∧ o.data = .seq its n ∧ its.size ≤ sizeLine ∧ Vals xs its.toList
def KT (K : PySem.W.Frag) (a : Addr) (xs : List V) : Prop :=
  ∃ (o : Obj) (its : Array Value) (n : Nat), K.lookup a = some o ∧ o.cls = .type "tuple" ∧ o.data = .seq its n ∧ its.size ≤ sizeLine ∧ Vals xs its.toList

/-- a thing that is frozen for ever -/
def Fz (H : Hp) (a : Addr) (u : HO) : Prop := ∃ o, H a = some (.frz o u)
theorem Fz.rd {H : Hp} {a : Addr} {u : HO} (h : Fz H a u) : Rd H a u := .inr h
mutual
inductive RV (C : Ct) (H : Hp) (P : Addr → Prop) (β : List Addr) : V → D → Prop
  | non : RV C H P β .non .non
  | bl (b : Bool) : RV C H P β (.bl b) (.bl b)
  | int (i : Int) : RV C H P β (.int i) (.int i)
  | str (x : Str) : RV C H P β (.str x) (.str x)
  | ty (n : String) : RV C H P β (.ty n) (.ty n)
  | lst {a : Addr} {xs : List V} {ds : List D} : ¬ P a → a ∉ β → Rd H a (.lst xs) → RVs C H P β xs ds → RV C H P β (.ref a) (.lst ds)
  | tup {a : Addr} {xs : List V} {ds : List D} : Rd H a (.tup xs) → RVs C H P β xs ds → RV C H P β (.ref a) (.tup ds)
  | ktup {a : Addr} {xs : List V} {ds : List D} : KT C.K a xs → RVs C H P β xs ds → RV C H P β (.ref a) (.tup ds)
  | klst {a : Addr} {xs : List V} {ds : List D} : KL C.K a xs → RVs C H P β xs ds → RV C H P β (.ref a) (.lst ds)
  | dct {a : Addr} {xs : List (Key × V)} {ds : List (Key × D)} : ¬ P a → a ∉ β → Fz H a (.dK xs) → RKs C H P β xs ds → RV C H P β (.ref a) (.dct ds)
  | ref {n : Nat} {a : Addr} : β[n]? = some a → RV C H P β (.ref a) (.ref n)
  | fn {x : Str} {f : Addr} : C.mg x = some (.ref f) → PySem.W.keepIn C.K (.ref f) = true → RV C H P β (.ref f) (.fn x)
inductive RVs (C : Ct) (H : Hp) (P : Addr → Prop) (β : List Addr) : List V → List D → Prop
  | nil : RVs C H P β [] []
  | cons {v : V} {vs : List V} {d : D} {ds : List D} : RV C H P β v d → RVs C H P β vs ds → RVs C H P β (v :: vs) (d :: ds)
inductive RKs (C : Ct) (H : Hp) (P : Addr → Prop) (β : List Addr) : List (Key × V) → List (Key × D) → Prop
  | nil : RKs C H P β [] []
  | cons {k : Key} {v : V} {vs : List (Key × V)} {d : D} {ds : List (Key × D)} : RV C H P β v d → RKs C H P β vs ds → RKs C H P β ((k, v) :: vs) ((k, d) :: ds)
end

/-- what an expression may do to the heap and the store's places -/
structure Ext (H : Hp) (β : List Addr) (H' : Hp) (β' : List Addr) : Prop where
  pre : ∃ γ, β' = β ++ γ
  keep : ∀ a o, H a = some o → a ∉ β → H' a = some o
  fresh : ∀ a ∈ β', a ∈ β ∨ H a = none
  tups : ∀ a xs, Rd H a (.tup xs) → Rd H' a (.tup xs)
  stay : ∀ a, H a ≠ none → H' a ≠ none
  fzs : ∀ a o u, H a = some (.frz o u) → H' a = some (.frz o u)

theorem Ext.refl (H : Hp) (β : List Addr) : Ext H β H β := ⟨⟨[], (List.append_nil β).symm⟩, fun _ _ h _ => h, fun _ h => .inl h, fun _ _ h => h, fun _ h => h, fun _ _ _ h => h⟩
theorem Ext.mem {H H' : Hp} {β β' : List Addr} (e : Ext H β H' β') {a : Addr} (h : a ∈ β) : a ∈ β' := by
  obtain ⟨γ, r⟩ := e.pre
  rw [r]; exact List.mem_append_left _ h
theorem Ext.get {H H' : Hp} {β β' : List Addr} (e : Ext H β H' β') {n : Nat} {a : Addr} (h : β[n]? = some a) : β'[n]? = some a := by
  obtain ⟨γ, r⟩ := e.pre
  rw [r, List.getElem?_append_left (List.getElem?_eq_some_iff.mp h).1]; exact h
theorem Ext.out {H H' : Hp} {β β' : List Addr} (e : Ext H β H' β') {a : Addr} (h : a ∉ β) (hn : H a ≠ none) : a ∉ β' := fun m => (e.fresh a m).elim h hn
theorem Ext.trans {H H1 H2 : Hp} {β β1 β2 : List Addr} (a : Ext H β H1 β1) (b : Ext H1 β1 H2 β2) : Ext H β H2 β2 where
  pre := by
    obtain ⟨γ, r⟩ := a.pre
    obtain ⟨γ', r'⟩ := b.pre
    exact ⟨γ ++ γ', by rw [r', r, List.append_assoc]⟩
  keep := fun c o h hn => b.keep c o (a.keep c o h hn) (a.out hn (by rw [h]; exact Option.some_ne_none _))
  fresh := fun c h => by
    rcases b.fresh c h with q | q
    · exact a.fresh c q
    · by_cases m : c ∈ β
      · exact .inl m
      · right
        cases z : H c with
        | none => rfl
        | some o => rw [a.keep c o z m] at q; cases q
  tups := fun c xs h => b.tups c xs (a.tups c xs h)
  stay := fun c h => b.stay c (a.stay c h)
  fzs := fun c o u h => b.fzs c o u (a.fzs c o u h)
/-- a new thing laid -/
theorem Ext.laid {H : Hp} {β : List Addr} {p : Addr} {o : HO} (hp : H p = none) : Ext H β (upd H p o) β where
  pre := ⟨[], (List.append_nil β).symm⟩
  keep := fun a u h _ => by rw [upd_ne (ne_of_none h hp)]; exact h
  fresh := fun _ h => .inl h
  tups := fun a xs h => by
    rcases h with h | ⟨ob, h⟩
    · exact .inl (by rw [upd_ne (ne_of_none h hp)]; exact h)
    · exact .inr ⟨ob, by rw [upd_ne (ne_of_none h hp)]; exact h⟩
  stay := fun a h => by
    by_cases e : a = p
    · rw [e, upd_same]; exact Option.some_ne_none _
    · rw [upd_ne e]; exact h
  fzs := fun a o u h => by rw [upd_ne (ne_of_none h hp)]; exact h

theorem rd_some {H : Hp} {a : Addr} {u : HO} (h : Rd H a u) : H a ≠ none := by
  rcases h with h | ⟨o, h⟩ <;> (rw [h]; exact Option.some_ne_none _)
theorem Ext.fz {H H' : Hp} {β β' : List Addr} (e : Ext H β H' β') {a : Addr} {u : HO} (hn : a ∉ β) (h : Fz H a u) : Fz H' a u := let ⟨o, q⟩ := h; ⟨o, e.keep _ _ q hn⟩
theorem Ext.rd {H H' : Hp} {β β' : List Addr} (e : Ext H β H' β') {a : Addr} {u : HO} (hn : a ∉ β) (h : Rd H a u) : Rd H' a u := by
  rcases h with h | ⟨o, h⟩
  · exact .inl (e.keep _ _ h hn)
  · exact .inr ⟨o, e.keep _ _ h hn⟩

section
variable {C : Ct} {H H' : Hp} {P P' : Addr → Prop} {β β' : List Addr}
mutual
theorem RV.mono (e : Ext H β H' β') : ∀ {v : V} {d : D}, RV C H P β v d → RV C H' P β' v d
  | _, _, .non => .non
  | _, _, .bl b => .bl b
  | _, _, .int i => .int i
  | _, _, .str x => .str x
  | _, _, .ty n => .ty n
  | _, _, .lst hp hb hr h => .lst hp (e.out hb (rd_some hr)) (e.rd hb hr) (RVs.mono e h)
  | _, _, .tup hr h => .tup (e.tups _ _ hr) (RVs.mono e h)
  | _, _, .ktup k h => .ktup k (RVs.mono e h)
  | _, _, .klst k h => .klst k (RVs.mono e h)
  | _, _, .dct hp hb hr h => .dct hp (e.out hb (rd_some hr.rd)) (e.fz hb hr) (RKs.mono e h)
  | _, _, .ref h => .ref (e.get h)
  | _, _, .fn h k => .fn h k
theorem RVs.mono (e : Ext H β H' β') : ∀ {vs : List V} {ds : List D}, RVs C H P β vs ds → RVs C H' P β' vs ds
  | _, _, .nil => .nil
  | _, _, .cons h t => .cons (RV.mono e h) (RVs.mono e t)
theorem RKs.mono (e : Ext H β H' β') : ∀ {vs : List (Key × V)} {ds : List (Key × D)}, RKs C H P β vs ds → RKs C H' P β' vs ds
  | _, _, .nil => .nil
  | _, _, .cons h t => .cons (RV.mono e h) (RKs.mono e t)
end
-- another context of the same module
mutual
theorem RV.ct {C' : Ct} (k : C'.K = C.K) (m : C'.mg = C.mg) : ∀ {v : V} {d : D}, RV C H P β v d → RV C' H P β v d
  | _, _, .non => .non
  | _, _, .bl b => .bl b
  | _, _, .int i => .int i
  | _, _, .str x => .str x
  | _, _, .ty n => .ty n
  | _, _, .lst hp hb hr h => .lst hp hb hr (RVs.ct k m h)
  | _, _, .tup hr h => .tup hr (RVs.ct k m h)
  | _, _, .ktup q h => .ktup (k ▸ q) (RVs.ct k m h)
  | _, _, .klst q h => .klst (k ▸ q) (RVs.ct k m h)
  | _, _, .dct hp hb hr h => .dct hp hb hr (RKs.ct k m h)
  | _, _, .ref h => .ref h
  | _, _, .fn h q => .fn (m ▸ h) (k ▸ q)
theorem RVs.ct {C' : Ct} (k : C'.K = C.K) (m : C'.mg = C.mg) : ∀ {vs : List V} {ds : List D}, RVs C H P β vs ds → RVs C' H P β vs ds
  | _, _, .nil => .nil
  | _, _, .cons h t => .cons (RV.ct k m h) (RVs.ct k m t)
theorem RKs.ct {C' : Ct} (k : C'.K = C.K) (m : C'.mg = C.mg) : ∀ {vs : List (Key × V)} {ds : List (Key × D)}, RKs C H P β vs ds → RKs C' H P β vs ds
  | _, _, .nil => .nil
  | _, _, .cons h t => .cons (RV.ct k m h) (RKs.ct k m t)
end
-- fewer places kept apart
mutual
theorem RV.less (e : ∀ a, P' a → P a) : ∀ {v : V} {d : D}, RV C H P β v d → RV C H P' β v d
  | _, _, .non => .non
  | _, _, .bl b => .bl b
  | _, _, .int i => .int i
  | _, _, .str x => .str x
  | _, _, .ty n => .ty n
  | _, _, .lst hp hb hr h => .lst (fun z => hp (e _ z)) hb hr (RVs.less e h)
  | _, _, .tup hr h => .tup hr (RVs.less e h)
  | _, _, .ktup k h => .ktup k (RVs.less e h)
  | _, _, .klst k h => .klst k (RVs.less e h)
  | _, _, .dct hp hb hr h => .dct (fun z => hp (e _ z)) hb hr (RKs.less e h)
  | _, _, .ref h => .ref h
  | _, _, .fn h k => .fn h k
theorem RVs.less (e : ∀ a, P' a → P a) : ∀ {vs : List V} {ds : List D}, RVs C H P β vs ds → RVs C H P' β vs ds
  | _, _, .nil => .nil
  | _, _, .cons h t => .cons (RV.less e h) (RVs.less e t)
theorem RKs.less (e : ∀ a, P' a → P a) : ∀ {vs : List (Key × V)} {ds : List (Key × D)}, RKs C H P β vs ds → RKs C H P' β vs ds
  | _, _, .nil => .nil
  | _, _, .cons h t => .cons (RV.less e h) (RKs.less e t)
end
-- a place that was free may be kept apart as well
mutual
theorem RV.more {p : Addr} (hp : H p = none) : ∀ {v : V} {d : D}, RV C H P β v d → RV C H (fun a => P a ∨ a = p) β v d
  | _, _, .non => .non
  | _, _, .bl b => .bl b
  | _, _, .int i => .int i
  | _, _, .str x => .str x
  | _, _, .ty n => .ty n
  | _, _, .lst h1 hb hr h => .lst (fun z => z.elim h1 fun e => (rd_some hr) (by rw [e]; exact hp)) hb hr (RVs.more hp h)
  | _, _, .tup hr h => .tup hr (RVs.more hp h)
  | _, _, .ktup k h => .ktup k (RVs.more hp h)
  | _, _, .klst k h => .klst k (RVs.more hp h)
  | _, _, .dct h1 hb hr h => .dct (fun z => z.elim h1 fun e => (rd_some hr.rd) (by rw [e]; exact hp)) hb hr (RKs.more hp h)
  | _, _, .ref h => .ref h
  | _, _, .fn h k => .fn h k
theorem RVs.more {p : Addr} (hp : H p = none) : ∀ {vs : List V} {ds : List D}, RVs C H P β vs ds → RVs C H (fun a => P a ∨ a = p) β vs ds
  | _, _, .nil => .nil
  | _, _, .cons h t => .cons (RV.more hp h) (RVs.more hp t)
theorem RKs.more {p : Addr} (hp : H p = none) : ∀ {vs : List (Key × V)} {ds : List (Key × D)}, RKs C H P β vs ds → RKs C H (fun a => P a ∨ a = p) β vs ds
  | _, _, .nil => .nil
  | _, _, .cons h t => .cons (RV.more hp h) (RKs.more hp t)
end
-- a thing that is kept apart, or of the store, has changed
mutual
theorem RV.set {p : Addr} {o : HO} (hp : P p ∨ p ∈ β) (ht : ∀ xs, ¬ Rd H p (.tup xs)) : ∀ {v : V} {d : D}, RV C H P β v d → RV C (upd H p o) P β v d
  | _, _, .non => .non
  | _, _, .bl b => .bl b
  | _, _, .int i => .int i
  | _, _, .str x => .str x
  | _, _, .ty n => .ty n
  | .ref a, _, .lst (xs := xs) h1 hb hr h => by
    have ne : a ≠ p := fun e => hp.elim (fun z => h1 (e ▸ z)) (fun z => hb (e ▸ z))
    exact .lst h1 hb (by unfold Rd; rw [upd_ne ne]; exact hr) (RVs.set hp ht h)
  | .ref a, _, .tup (xs := xs) hr h => by
    have ne : a ≠ p := fun e => ht xs (e ▸ hr)
    exact .tup (by unfold Rd; rw [upd_ne ne]; exact hr) (RVs.set hp ht h)
  | _, _, .ktup k h => .ktup k (RVs.set hp ht h)
  | _, _, .klst k h => .klst k (RVs.set hp ht h)
  | .ref a, _, .dct (xs := xs) h1 hb hr h => by
    have ne : a ≠ p := fun e => hp.elim (fun z => h1 (e ▸ z)) (fun z => hb (e ▸ z))
    exact .dct h1 hb (let ⟨o, q⟩ := hr; ⟨o, by rw [upd_ne ne]; exact q⟩) (RKs.set hp ht h)
  | _, _, .ref h => .ref h
  | _, _, .fn h k => .fn h k
theorem RVs.set {p : Addr} {o : HO} (hp : P p ∨ p ∈ β) (ht : ∀ xs, ¬ Rd H p (.tup xs)) : ∀ {vs : List V} {ds : List D}, RVs C H P β vs ds → RVs C (upd H p o) P β vs ds
  | _, _, .nil => .nil
  | _, _, .cons h t => .cons (RV.set hp ht h) (RVs.set hp ht t)
theorem RKs.set {p : Addr} {o : HO} (hp : P p ∨ p ∈ β) (ht : ∀ xs, ¬ Rd H p (.tup xs)) : ∀ {vs : List (Key × V)} {ds : List (Key × D)}, RKs C H P β vs ds → RKs C (upd H p o) P β vs ds
  | _, _, .nil => .nil
  | _, _, .cons h t => .cons (RV.set hp ht h) (RKs.set hp ht t)
end
-- a new thing of the store
mutual
theorem RV.box {p : Addr} (hp : ¬ P p → H p = none ∨ P p) (hn : ∀ u, ¬ Rd H p u) : ∀ {v : V} {d : D}, RV C H P β v d → RV C H P (β ++ [p]) v d
  | _, _, .non => .non
  | _, _, .bl b => .bl b
  | _, _, .int i => .int i
  | _, _, .str x => .str x
  | _, _, .ty n => .ty n
  | _, _, .lst h1 hb hr h => .lst h1 (fun z => (List.mem_append.mp z).elim hb fun e => hn _ (by rw [← List.mem_singleton.mp e]; exact hr)) hr (RVs.box hp hn h)
  | _, _, .tup hr h => .tup hr (RVs.box hp hn h)
  | _, _, .ktup k h => .ktup k (RVs.box hp hn h)
  | _, _, .klst k h => .klst k (RVs.box hp hn h)
  | _, _, .dct h1 hb hr h => .dct h1 (fun z => (List.mem_append.mp z).elim hb fun e => hn _ (by rw [← List.mem_singleton.mp e]; exact hr.rd)) hr (RKs.box hp hn h)
  | _, _, .ref (n := n) (a := a) h => .ref (by rw [List.getElem?_append_left (List.getElem?_eq_some_iff.mp h).1]; exact h)
  | _, _, .fn h k => .fn h k
theorem RVs.box {p : Addr} (hp : ¬ P p → H p = none ∨ P p) (hn : ∀ u, ¬ Rd H p u) : ∀ {vs : List V} {ds : List D}, RVs C H P β vs ds → RVs C H P (β ++ [p]) vs ds
  | _, _, .nil => .nil
  | _, _, .cons h t => .cons (RV.box hp hn h) (RVs.box hp hn t)
theorem RKs.box {p : Addr} (hp : ¬ P p → H p = none ∨ P p) (hn : ∀ u, ¬ Rd H p u) : ∀ {vs : List (Key × V)} {ds : List (Key × D)}, RKs C H P β vs ds → RKs C H P (β ++ [p]) vs ds
  | _, _, .nil => .nil
  | _, _, .cons h t => .cons (RV.box hp hn h) (RKs.box hp hn t)
end
end

section
variable {C : Ct} {H : Hp} {P : Addr → Prop} {β : List Addr}
theorem RVs.length : ∀ {vs : List V} {ds : List D}, RVs C H P β vs ds → vs.length = ds.length
  | _, _, .nil => rfl
  | _, _, .cons _ t => by simp [RVs.length t]
theorem RVs.get : ∀ {vs : List V} {ds : List D} {i : Nat} {d : D}, RVs C H P β vs ds → ds[i]? = some d → ∃ v, vs[i]? = some v ∧ RV C H P β v d
  | _, _, 0, _, .cons h _, e => by simp at e; subst e; exact ⟨_, rfl, h⟩
  | _, _, i + 1, _, .cons _ t, e => by
    obtain ⟨v, h1, h2⟩ := RVs.get (i := i) t (by simpa using e)
    exact ⟨v, by simpa using h1, h2⟩
  | _, _, _, _, .nil, e => by simp at e
theorem RVs.of : ∀ {vs : List V} {ds : List D} {i : Nat} {v : V}, RVs C H P β vs ds → vs[i]? = some v → ∃ d, ds[i]? = some d ∧ RV C H P β v d
  | _, _, 0, _, .cons h _, e => by simp at e; subst e; exact ⟨_, rfl, h⟩
  | _, _, i + 1, _, .cons _ t, e => by
    obtain ⟨v, h1, h2⟩ := RVs.of (i := i) t (by simpa using e)
    exact ⟨v, by simpa using h1, h2⟩
  | _, _, _, _, .nil, e => by simp at e
theorem RVs.append : ∀ {vs us : List V} {ds es : List D}, RVs C H P β vs ds → RVs C H P β us es → RVs C H P β (vs ++ us) (ds ++ es)
  | _, _, _, _, .nil, s => s
  | _, _, _, _, .cons r t, s => .cons r (RVs.append t s)
theorem RVs.set' : ∀ {vs : List V} {ds : List D} {v : V} {d : D} (i : Nat), RVs C H P β vs ds → RV C H P β v d → RVs C H P β (vs.set i v) (ds.set i d)
  | _, _, _, _, _, .nil, _ => .nil
  | _, _, _, _, 0, .cons _ t, r => .cons r t
  | _, _, _, _, i + 1, .cons h t, r => .cons h (RVs.set' i t r)
theorem RVs.take : ∀ {vs : List V} {ds : List D} (n : Nat), RVs C H P β vs ds → RVs C H P β (vs.take n) (ds.take n)
  | _, _, 0, _ => .nil
  | _, _, _ + 1, .nil => .nil
  | _, _, n + 1, .cons r t => .cons r (RVs.take n t)
theorem RVs.drop : ∀ {vs : List V} {ds : List D} (n : Nat), RVs C H P β vs ds → RVs C H P β (vs.drop n) (ds.drop n)
  | _, _, 0, r => r
  | _, _, _ + 1, .nil => .nil
  | _, _, n + 1, .cons _ t => RVs.drop n t
theorem RVs.reverse : ∀ {vs : List V} {ds : List D}, RVs C H P β vs ds → RVs C H P β vs.reverse ds.reverse
  | _, _, .nil => .nil
  | _, _, .cons r t => by
    rw [List.reverse_cons, List.reverse_cons]
    exact RVs.append (RVs.reverse t) (.cons r .nil)
theorem RKs.keys : ∀ {vs : List (Key × V)} {ds : List (Key × D)}, RKs C H P β vs ds → vs.map (·.1) = ds.map (·.1)
  | _, _, .nil => rfl
  | _, _, .cons _ t => by simp [RKs.keys t]
theorem RKs.length {vs : List (Key × V)} {ds : List (Key × D)} (h : RKs C H P β vs ds) : vs.length = ds.length := by
  have := congrArg List.length h.keys
  simpa using this
end
section
variable {C : Ct} {H : Hp} {P : Addr → Prop} {β : List Addr}
-- a place kept apart becomes one of the store
mutual
theorem RV.toBox {p : Addr} : ∀ {v : V} {d : D}, RV C H (fun b => P b ∨ b = p) β v d → RV C H P (β ++ [p]) v d
  | _, _, .non => .non
  | _, _, .bl b => .bl b
  | _, _, .int i => .int i
  | _, _, .str x => .str x
  | _, _, .ty n => .ty n
  | _, _, .lst h1 hb hr h => .lst (fun z => h1 (.inl z)) (fun z => (List.mem_append.mp z).elim hb fun e => h1 (.inr (List.mem_singleton.mp e))) hr (RVs.toBox h)
  | _, _, .tup hr h => .tup hr (RVs.toBox h)
  | _, _, .ktup k h => .ktup k (RVs.toBox h)
  | _, _, .klst k h => .klst k (RVs.toBox h)
  | _, _, .dct h1 hb hr h => .dct (fun z => h1 (.inl z)) (fun z => (List.mem_append.mp z).elim hb fun e => h1 (.inr (List.mem_singleton.mp e))) hr (RKs.toBox h)
  | _, _, .ref (n := n) (a := a) h => .ref (by rw [List.getElem?_append_left (List.getElem?_eq_some_iff.mp h).1]; exact h)
  | _, _, .fn h k => .fn h k
theorem RVs.toBox {p : Addr} : ∀ {vs : List V} {ds : List D}, RVs C H (fun b => P b ∨ b = p) β vs ds → RVs C H P (β ++ [p]) vs ds
  | _, _, .nil => .nil
  | _, _, .cons h t => .cons (RV.toBox h) (RVs.toBox t)
theorem RKs.toBox {p : Addr} : ∀ {vs : List (Key × V)} {ds : List (Key × D)}, RKs C H (fun b => P b ∨ b = p) β vs ds → RKs C H P (β ++ [p]) vs ds
  | _, _, .nil => .nil
  | _, _, .cons h t => .cons (RV.toBox h) (RKs.toBox t)
end
end
end Mi

/-! Mi2: the local state, the readings of expressions and statements. -/
namespace Mi
open PySem L2

/-- a def's entry: the heap, the store's places, what its callers keep apart; the containers that its loops have locked -/
structure Cf where
  H0 : Hp
  β0 : List Addr
  P0 : Addr → Prop
  lk : List Addr

structure ExtL (cf : Cf) (H : Hp) (β : List Addr) : Prop where
  pre : ∃ γ, β = cf.β0 ++ γ
  keep : ∀ a o, cf.H0 a = some o → a ∉ cf.β0 → H a = some o ∨ (a ∈ cf.lk ∧ ∃ ob, H a = some (.frz ob o))
  fresh : ∀ a ∈ β, a ∈ cf.β0 ∨ cf.H0 a = none
  tups : ∀ a xs, Rd cf.H0 a (.tup xs) → Rd H a (.tup xs)
  stay : ∀ a, cf.H0 a ≠ none → H a ≠ none
  fzs : ∀ a o u, cf.H0 a = some (.frz o u) → H a = some (.frz o u)

def RFs (C : Ct) (H : Hp) (P : Addr → Prop) (β : List Addr) (vs : List (Str × V)) (fs : List (Str × D)) : Prop :=
  vs.map (·.1) = fs.map (·.1) ∧ RVs C H P β (vs.map (·.2)) (fs.map (·.2))

def SOK (C : Ct) (H : Hp) (P : Addr → Prop) (β : List Addr) (a : Addr) : SO → Prop
  | .lst ds => ∃ xs, H a = some (.lst xs) ∧ RVs C H P β xs ds
  | .dct ds => ∃ xs, H a = some (.dK xs) ∧ RKs C H P β xs ds
  | .ins c fs => ∃ Ca dx vs, C.mg c = some (.ref Ca) ∧ H a = some (.ins Ca dx vs) ∧ RFs C H P β vs fs
  | .lck ds => ∃ od xs, H a = some (.frz od (.dK xs)) ∧ RKs C H P β xs ds
  | .lkl ds => ∃ od xs, H a = some (.frz od (.lst xs)) ∧ RVs C H P β xs ds
structure SRel (C : Ct) (H : Hp) (P : Addr → Prop) (β : List Addr) (S : Store) : Prop where
  len : β.length = S.length
  nd : β.Nodup
  ok : ∀ (n : Nat) (a : Addr) (so : SO), β[n]? = some a → S[n]? = some so → SOK C H P β a so
/-- a container that one slot alone holds -/
def OwnAt (C : Ct) (H : Hp) (P : Addr → Prop) (β : List Addr) (a : Addr) : D → Prop
  | .lst ds => ∃ xs, H a = some (.lst xs) ∧ RVs C H P β xs ds
  | .dct ds => ∃ xs, H a = some (.dK xs) ∧ RKs C H P β xs ds
  | _ => False

/-- the exception that a suite handles -/
def XAt (C : Ct) (H : Hp) (P : Addr → Prop) (β : List Addr) (a : Addr) (e : Exn) : Prop :=
  ∃ oe Ca dd vs, (a, oe) ∈ C.pn ∧ Zc (.ref Ca) (some dd) oe ∧ (∃ ws, oe.data = .fields ws) ∧ C.mg e.cls = some (.ref Ca) ∧ H dd = some (.xd vs) ∧ dd ∉ β ∧ ¬ P dd ∧ ∀ f x, e.fs.lookup f = some x → ∃ v, vs.lookup f = some v ∧ RV C H P β v x
theorem XAt.mono {C : Ct} {H H' : Hp} {P : Addr → Prop} {β β' : List Addr} {a : Addr} {e : Exn} (h : XAt C H P β a e) (x : Ext H β H' β') : XAt C H' P β' a e := by
  obtain ⟨oe, Ca, dd, vs, h1, h2, h3, h4, h5, h6, h7, h8⟩ := h
  exact ⟨oe, Ca, dd, vs, h1, h2, h3, h4, x.keep _ _ h5 h6, x.out h6 (by rw [h5]; exact Option.some_ne_none _), h7, fun f y q => let ⟨v, q1, q2⟩ := h8 f y q; ⟨v, q1, q2.mono x⟩⟩
theorem XAt.less {C : Ct} {H : Hp} {P P' : Addr → Prop} {β : List Addr} {a : Addr} {e : Exn} (h : XAt C H P β a e) (x : ∀ a, P' a → P a) : XAt C H P' β a e := by
  obtain ⟨oe, Ca, dd, vs, h1, h2, h3, h4, h5, h6, h7, h8⟩ := h
  exact ⟨oe, Ca, dd, vs, h1, h2, h3, h4, h5, h6, fun z => h7 (x _ z), fun f y q => let ⟨v, q1, q2⟩ := h8 f y q; ⟨v, q1, q2.less x⟩⟩
theorem XAt.more {C : Ct} {H : Hp} {P : Addr → Prop} {β : List Addr} {a : Addr} {e : Exn} {p : Addr} (h : XAt C H P β a e) (hp : H p = none) : XAt C H (fun b => P b ∨ b = p) β a e := by
  obtain ⟨oe, Ca, dd, vs, h1, h2, h3, h4, h5, h6, h7, h8⟩ := h
  exact ⟨oe, Ca, dd, vs, h1, h2, h3, h4, h5, h6, fun (z : P dd ∨ dd = p) => Or.elim z h7 fun q => (by rw [q, hp] at h5; cases h5), fun f y q => let ⟨v, q1, q2⟩ := h8 f y q; ⟨v, q1, q2.more hp⟩⟩
theorem XAt.set {C : Ct} {H : Hp} {P : Addr → Prop} {β : List Addr} {a : Addr} {e : Exn} {p : Addr} {o : HO} (h : XAt C H P β a e) (hp : P p) (ht : ∀ xs, ¬ Rd H p (.tup xs)) : XAt C (upd H p o) P β a e := by
  obtain ⟨oe, Ca, dd, vs, h1, h2, h3, h4, h5, h6, h7, h8⟩ := h
  exact ⟨oe, Ca, dd, vs, h1, h2, h3, h4, by rw [upd_ne (show dd ≠ p from fun z => h7 (by rw [z]; exact hp))]; exact h5, h6, h7, fun f y q => let ⟨v, q1, q2⟩ := h8 f y q; ⟨v, q1, q2.set (.inl hp) ht⟩⟩
structure LR (C : Ct) (cf : Cf) (oa : Nat → Option Addr) (P : Addr → Prop) (σ : St) (H : Hp) (β : List Addr) (ρ : Rho) (S : Store) : Prop where
  len : σ.length = ρ.length
  p : ∀ a, P a → H a ≠ none ∧ a ∉ β
  sub : ∀ a, cf.P0 a → P a
  p0 : ∀ a, cf.P0 a → cf.H0 a ≠ none
  ext : ExtL cf H β
  own : ∀ i a, oa i = some a → P a ∧ cf.H0 a = none
  inj : ∀ i j a, oa i = some a → oa j = some a → i = j
  st : SRel C H P β S
  slot : ∀ (i : Nat) (d : D), ρ[i]? = some (Sl.sh d) → ∃ v, σ[i]? = some (some v) ∧ RV C H P β v d
  oslot : ∀ (i : Nat) (d : D), ρ[i]? = some (Sl.ow d) → ∃ a, oa i = some a ∧ σ[i]? = some (some (.ref a)) ∧ OwnAt C H P β a d
  xslot : ∀ (i : Nat) (e : Exn), ρ[i]? = some (Sl.ex e) → ∃ a, σ[i]? = some (some (.ref a)) ∧ XAt C H P β a e

section
variable {C : Ct} {cf : Cf} {oa : Nat → Option Addr} {P P' : Addr → Prop} {σ : St} {H H' : Hp} {β β' : List Addr} {ρ : Rho} {S S' : Store}
theorem ExtL.step (x : ExtL cf H β) (e : Ext H β H' β') : ExtL cf H' β' where
  pre := by
    obtain ⟨γ, r⟩ := x.pre
    obtain ⟨γ', r'⟩ := e.pre
    exact ⟨γ ++ γ', by rw [r', r, List.append_assoc]⟩
  keep := fun a o h hn => by
    have nb : a ∉ β := fun m => (x.fresh a m).elim hn fun z => by rw [h] at z; cases z
    rcases x.keep a o h hn with q | ⟨m, ob, q⟩
    · exact .inl (e.keep _ _ q nb)
    · exact .inr ⟨m, ob, e.keep _ _ q nb⟩
  fresh := fun a h => by
    rcases e.fresh a h with q | q
    · exact x.fresh a q
    · right
      cases z : cf.H0 a with
      | none => rfl
      | some o => exact absurd q (x.stay a (by rw [z]; exact Option.some_ne_none _))
  tups := fun a xs h => e.tups a xs (x.tups a xs h)
  stay := fun a h => e.stay a (x.stay a h)
  fzs := fun a o u h => e.fzs a o u (x.fzs a o u h)
theorem ExtL.done (x : ExtL cf H β) (hl : cf.lk = []) : Ext cf.H0 cf.β0 H β :=
  ⟨x.pre, fun a o h hn => (x.keep a o h hn).elim id fun z => by rw [hl] at z; exact absurd z.1 (by simp), x.fresh, x.tups, x.stay, x.fzs⟩
theorem SOK.notnone {a : Addr} {so : SO} (h : SOK C H P β a so) : H a ≠ none := by
  cases so with
  | lst ds => obtain ⟨xs, e, _⟩ := h; rw [e]; exact Option.some_ne_none _
  | dct ds => obtain ⟨xs, e, _⟩ := h; rw [e]; exact Option.some_ne_none _
  | ins c fs => obtain ⟨Ca, dx, vs, _, e, _⟩ := h; rw [e]; exact Option.some_ne_none _
  | lck ds => obtain ⟨od, xs, e, _⟩ := h; rw [e]; exact Option.some_ne_none _
  | lkl ds => obtain ⟨od, xs, e, _⟩ := h; rw [e]; exact Option.some_ne_none _
theorem SOK.notup {a : Addr} {so : SO} (h : SOK C H P β a so) : ∀ xs, ¬ Rd H a (.tup xs) := by
  intro xs r
  cases so with
  | lst ds => obtain ⟨xs, e, _⟩ := h; rcases r with r | ⟨o, r⟩ <;> (rw [e] at r; cases r)
  | dct ds => obtain ⟨xs, e, _⟩ := h; rcases r with r | ⟨o, r⟩ <;> (rw [e] at r; cases r)
  | ins c fs => obtain ⟨Ca, dx, vs, _, e, _⟩ := h; rcases r with r | ⟨o, r⟩ <;> (rw [e] at r; cases r)
  | lck ds => obtain ⟨od, xs, e, _⟩ := h; rcases r with r | ⟨o, r⟩ <;> (rw [e] at r; cases r)
  | lkl ds => obtain ⟨od, xs, e, _⟩ := h; rcases r with r | ⟨o, r⟩ <;> (rw [e] at r; cases r)
theorem OwnAt.notnone {a : Addr} {d : D} (h : OwnAt C H P β a d) : H a ≠ none := by
  cases d <;> first | exact h.elim | (obtain ⟨xs, e, _⟩ := h; rw [e]; exact Option.some_ne_none _)
theorem OwnAt.notup {a : Addr} {d : D} (h : OwnAt C H P β a d) : ∀ xs, ¬ Rd H a (.tup xs) := by
  intro xs r
  cases d <;> first | exact h.elim | (obtain ⟨xs, e, _⟩ := h; rcases r with r | ⟨o, r⟩ <;> (rw [e] at r; cases r))
theorem OwnAt.mono {a : Addr} {d : D} (h : OwnAt C H P β a d) (e : Ext H β H' β') (hn : a ∉ β) : OwnAt C H' P β' a d := by
  cases d <;> first | exact h.elim | skip
  · obtain ⟨xs, q, r⟩ := h; exact ⟨xs, e.keep _ _ q hn, r.mono e⟩
  · obtain ⟨xs, q, r⟩ := h; exact ⟨xs, e.keep _ _ q hn, r.mono e⟩
theorem OwnAt.less {a : Addr} {d : D} (h : OwnAt C H P β a d) (e : ∀ a, P' a → P a) : OwnAt C H P' β a d := by
  cases d <;> first | exact h.elim | skip
  · obtain ⟨xs, q, r⟩ := h; exact ⟨xs, q, r.less e⟩
  · obtain ⟨xs, q, r⟩ := h; exact ⟨xs, q, r.less e⟩
theorem OwnAt.more {a p : Addr} {d : D} (h : OwnAt C H P β a d) (hp : H p = none) : OwnAt C H (fun b => P b ∨ b = p) β a d := by
  cases d <;> first | exact h.elim | skip
  · obtain ⟨xs, q, r⟩ := h; exact ⟨xs, q, r.more hp⟩
  · obtain ⟨xs, q, r⟩ := h; exact ⟨xs, q, r.more hp⟩
theorem OwnAt.set {a p : Addr} {o : HO} {d : D} (h : OwnAt C H P β a d) (hp : P p ∨ p ∈ β) (ht : ∀ xs, ¬ Rd H p (.tup xs)) (ne : a ≠ p) : OwnAt C (upd H p o) P β a d := by
  cases d <;> first | exact h.elim | skip
  · obtain ⟨xs, q, r⟩ := h; exact ⟨xs, by rw [upd_ne ne]; exact q, r.set hp ht⟩
  · obtain ⟨xs, q, r⟩ := h; exact ⟨xs, by rw [upd_ne ne]; exact q, r.set hp ht⟩
theorem SOK.less {a : Addr} {so : SO} (h : SOK C H P β a so) (e : ∀ a, P' a → P a) : SOK C H P' β a so := by
  cases so with
  | lst ds => obtain ⟨xs, q, r⟩ := h; exact ⟨xs, q, r.less e⟩
  | dct ds => obtain ⟨xs, q, r⟩ := h; exact ⟨xs, q, r.less e⟩
  | ins c fs => obtain ⟨Ca, dx, vs, m, q, n, r⟩ := h; exact ⟨Ca, dx, vs, m, q, n, r.less e⟩
  | lck ds => obtain ⟨od, xs, q, r⟩ := h; exact ⟨od, xs, q, r.less e⟩
  | lkl ds => obtain ⟨od, xs, q, r⟩ := h; exact ⟨od, xs, q, r.less e⟩
theorem SOK.more {a p : Addr} {so : SO} (h : SOK C H P β a so) (hp : H p = none) : SOK C H (fun b => P b ∨ b = p) β a so := by
  cases so with
  | lst ds => obtain ⟨xs, q, r⟩ := h; exact ⟨xs, q, r.more hp⟩
  | dct ds => obtain ⟨xs, q, r⟩ := h; exact ⟨xs, q, r.more hp⟩
  | ins c fs => obtain ⟨Ca, dx, vs, m, q, n, r⟩ := h; exact ⟨Ca, dx, vs, m, q, n, r.more hp⟩
  | lck ds => obtain ⟨od, xs, q, r⟩ := h; exact ⟨od, xs, q, r.more hp⟩
  | lkl ds => obtain ⟨od, xs, q, r⟩ := h; exact ⟨od, xs, q, r.more hp⟩
theorem SOK.laid {a p : Addr} {o : HO} {so : SO} (h : SOK C H P β a so) (hp : H p = none) : SOK C (upd H p o) P β a so := by
  have ne : a ≠ p := fun e => h.notnone (by rw [e]; exact hp)
  have x : Ext H β (upd H p o) β := Ext.laid hp
  cases so with
  | lst ds => obtain ⟨xs, q, r⟩ := h; exact ⟨xs, by rw [upd_ne ne]; exact q, r.mono x⟩
  | dct ds => obtain ⟨xs, q, r⟩ := h; exact ⟨xs, by rw [upd_ne ne]; exact q, r.mono x⟩
  | ins c fs => obtain ⟨Ca, dx, vs, m, q, n, r⟩ := h; exact ⟨Ca, dx, vs, m, by rw [upd_ne ne]; exact q, n, r.mono x⟩
  | lck ds => obtain ⟨od, xs, q, r⟩ := h; exact ⟨od, xs, by rw [upd_ne ne]; exact q, r.mono x⟩
  | lkl ds => obtain ⟨od, xs, q, r⟩ := h; exact ⟨od, xs, by rw [upd_ne ne]; exact q, r.mono x⟩
theorem SOK.set {a p : Addr} {o : HO} {so : SO} (h : SOK C H P β a so) (hp : P p ∨ p ∈ β) (ht : ∀ xs, ¬ Rd H p (.tup xs)) (ne : a ≠ p) : SOK C (upd H p o) P β a so := by
  cases so with
  | lst ds => obtain ⟨xs, q, r⟩ := h; exact ⟨xs, by rw [upd_ne ne]; exact q, r.set hp ht⟩
  | dct ds => obtain ⟨xs, q, r⟩ := h; exact ⟨xs, by rw [upd_ne ne]; exact q, r.set hp ht⟩
  | ins c fs => obtain ⟨Ca, dx, vs, m, q, n, r⟩ := h; exact ⟨Ca, dx, vs, m, by rw [upd_ne ne]; exact q, n, r.set hp ht⟩
  | lck ds => obtain ⟨od, xs, q, r⟩ := h; exact ⟨od, xs, by rw [upd_ne ne]; exact q, r.set hp ht⟩
  | lkl ds => obtain ⟨od, xs, q, r⟩ := h; exact ⟨od, xs, by rw [upd_ne ne]; exact q, r.set hp ht⟩
theorem SOK.box {a p : Addr} {so : SO} (h : SOK C H P β a so) (hp : ¬ P p → H p = none ∨ P p) (hn : ∀ u, ¬ Rd H p u) : SOK C H P (β ++ [p]) a so := by
  cases so with
  | lst ds => obtain ⟨xs, q, r⟩ := h; exact ⟨xs, q, r.box hp hn⟩
  | dct ds => obtain ⟨xs, q, r⟩ := h; exact ⟨xs, q, r.box hp hn⟩
  | ins c fs => obtain ⟨Ca, dx, vs, m, q, n, r⟩ := h; exact ⟨Ca, dx, vs, m, q, n, r.box hp hn⟩
  | lck ds => obtain ⟨od, xs, q, r⟩ := h; exact ⟨od, xs, q, r.box hp hn⟩
  | lkl ds => obtain ⟨od, xs, q, r⟩ := h; exact ⟨od, xs, q, r.box hp hn⟩
theorem SRel.less (h : SRel C H P β S) (e : ∀ a, P' a → P a) : SRel C H P' β S := ⟨h.len, h.nd, fun n a so h1 h2 => (h.ok n a so h1 h2).less e⟩
theorem SRel.more {p : Addr} (h : SRel C H P β S) (hp : H p = none) : SRel C H (fun b => P b ∨ b = p) β S := ⟨h.len, h.nd, fun n a so h1 h2 => (h.ok n a so h1 h2).more hp⟩
theorem SRel.laid {p : Addr} {o : HO} (h : SRel C H P β S) (hp : H p = none) : SRel C (upd H p o) P β S := ⟨h.len, h.nd, fun n a so h1 h2 => (h.ok n a so h1 h2).laid hp⟩
theorem SRel.at (h : SRel C H P β S) {n : Nat} {so : SO} (e : S[n]? = some so) : ∃ a, β[n]? = some a ∧ SOK C H P β a so := by
  have hl : n < β.length := by rw [h.len]; exact (List.getElem?_eq_some_iff.mp e).1
  exact ⟨β[n], List.getElem?_eq_getElem hl, h.ok n _ so (List.getElem?_eq_getElem hl) e⟩
theorem SRel.of (h : SRel C H P β S) {n : Nat} {a : Addr} (e : β[n]? = some a) : ∃ so, S[n]? = some so ∧ SOK C H P β a so := by
  have hl : n < S.length := by rw [← h.len]; exact (List.getElem?_eq_some_iff.mp e).1
  exact ⟨S[n], List.getElem?_eq_getElem hl, h.ok n _ _ e (List.getElem?_eq_getElem hl)⟩
theorem SRel.mem (h : SRel C H P β S) {a : Addr} (m : a ∈ β) : H a ≠ none := by
  obtain ⟨n, hn⟩ := List.getElem?_of_mem m
  obtain ⟨so, _, q⟩ := h.of hn
  exact q.notnone
theorem SRel.notup (h : SRel C H P β S) {a : Addr} (m : a ∈ β) : ∀ xs, ¬ Rd H a (.tup xs) := by
  obtain ⟨n, hn⟩ := List.getElem?_of_mem m
  obtain ⟨so, _, q⟩ := h.of hn
  exact q.notup
theorem nd_inj {l : List Addr} (h : l.Nodup) {i j : Nat} {a : Addr} (h1 : l[i]? = some a) (h2 : l[j]? = some a) : i = j := by
  obtain ⟨h1, e1⟩ := List.getElem?_eq_some_iff.mp h1
  obtain ⟨h2, e2⟩ := List.getElem?_eq_some_iff.mp h2
  exact (List.getElem_inj h).mp (e1.trans e2.symm)
/-- a thing of the store is changed -/
theorem SRel.set {n : Nat} {a : Addr} {o : HO} {so : SO} (h : SRel C H P β S) (e : β[n]? = some a) (new : SOK C (upd H a o) P β a so) : SRel C (upd H a o) P β (S.set n so) := by
  have m : a ∈ β := List.mem_of_getElem? e
  refine ⟨by rw [List.length_set]; exact h.len, h.nd, fun k b sb h1 h2 => ?_⟩
  by_cases hk : n = k
  · subst hk
    rw [e] at h1; cases h1
    rw [List.getElem?_set_self (by rw [← h.len]; exact (List.getElem?_eq_some_iff.mp e).1)] at h2
    cases h2
    exact new
  · rw [List.getElem?_set_ne hk] at h2
    exact (h.ok k b sb h1 h2).set (.inr m) (h.notup m) fun z => hk (nd_inj h.nd e (z ▸ h1))
/-- a container that is kept apart is changed -/
theorem SRel.own {p : Addr} {o : HO} (h : SRel C H P β S) (hp : P p) (hn : p ∉ β) (ht : ∀ xs, ¬ Rd H p (.tup xs)) : SRel C (upd H p o) P β S :=
  ⟨h.len, h.nd, fun n a so h1 h2 => (h.ok n a so h1 h2).set (.inl hp) ht fun z => hn (z ▸ List.mem_of_getElem? h1)⟩
/-- a new thing of the store -/
theorem SRel.box {p : Addr} {o : HO} {so : SO} (h : SRel C H P β S) (hp : H p = none) (hpP : ¬ P p) (new : SOK C (upd H p o) P (β ++ [p]) p so) : SRel C (upd H p o) P (β ++ [p]) (S ++ [so]) := by
  have nb : p ∉ β := fun m => h.mem m hp
  refine ⟨by simp [h.len], ?_, fun n a sb h1 h2 => ?_⟩
  · rw [List.nodup_append]
    exact ⟨h.nd, by simp, fun x hx y hy => by rw [List.mem_singleton.mp hy]; exact fun z => nb (z ▸ hx)⟩
  · by_cases hn : n < β.length
    · rw [List.getElem?_append_left hn] at h1
      rw [List.getElem?_append_left (by rw [← h.len]; exact hn)] at h2
      have q := h.ok n a sb h1 h2
      have ne : a ≠ p := fun e => q.notnone (by rw [e]; exact hp)
      have rn : ∀ u, ¬ Rd H p u := fun u r => rd_some r hp
      have q2 := q.box (p := p) (fun _ => .inl hp) rn
      have x : Ext H (β ++ [p]) (upd H p o) (β ++ [p]) := Ext.laid hp
      cases sb with
      | lst ds => obtain ⟨xs, q, r⟩ := q2; exact ⟨xs, by rw [upd_ne ne]; exact q, r.mono x⟩
      | dct ds => obtain ⟨xs, q, r⟩ := q2; exact ⟨xs, by rw [upd_ne ne]; exact q, r.mono x⟩
      | ins c fs => obtain ⟨Ca, dx, vs, m, q, n, r⟩ := q2; exact ⟨Ca, dx, vs, m, by rw [upd_ne ne]; exact q, n, r.mono x⟩
      | lck ds => obtain ⟨od, xs, q, r⟩ := q2; exact ⟨od, xs, by rw [upd_ne ne]; exact q, r.mono x⟩
      | lkl ds => obtain ⟨od, xs, q, r⟩ := q2; exact ⟨od, xs, by rw [upd_ne ne]; exact q, r.mono x⟩
    · have hl : n = β.length := by
        have := (List.getElem?_eq_some_iff.mp h1).1
        simp at this; omega
      subst hl
      rw [List.getElem?_append_right (Nat.le_refl _)] at h1
      rw [h.len, List.getElem?_append_right (Nat.le_refl _)] at h2
      simp at h1 h2
      subst h1; subst h2
      exact new

theorem Ext.boxed {p : Addr} {o : HO} (hp : H p = none) : Ext H β (upd H p o) (β ++ [p]) where
  pre := ⟨[p], rfl⟩
  keep := fun a u h _ => by rw [upd_ne (ne_of_none h hp)]; exact h
  fresh := fun a h => by
    rcases List.mem_append.mp h with h | h
    · exact .inl h
    · rw [List.mem_singleton.mp h]; exact .inr hp
  tups := (Ext.laid (β := β) hp).tups
  stay := (Ext.laid (β := β) hp).stay
  fzs := (Ext.laid (β := β) hp).fzs
/-- the store's thing at a changes -/
theorem Ext.wrote {a : Addr} {o : HO} (m : a ∈ β) (ht : ∀ xs, ¬ Rd H a (.tup xs)) (hf : ∀ o u, H a ≠ some (.frz o u)) : Ext H β (upd H a o) β where
  pre := ⟨[], (List.append_nil β).symm⟩
  keep := fun b u h hn => by rw [upd_ne (fun z => hn (by rw [z]; exact m))]; exact h
  fresh := fun _ h => .inl h
  tups := fun b xs h => by
    have ne : b ≠ a := fun z => ht xs (z ▸ h)
    unfold Rd; rw [upd_ne ne]; exact h
  stay := fun b h => by
    by_cases e : b = a
    · rw [e, upd_same]; exact Option.some_ne_none _
    · rw [upd_ne e]; exact h
  fzs := fun b o u h => by rw [upd_ne (fun z => hf o u (by rw [← z]; exact h))]; exact h

/-- behind an expression -/
theorem LR.step (L : LR C cf oa P σ H β ρ S) (e : Ext H β H' β') (s : SRel C H' P β' S') : LR C cf oa P σ H' β' ρ S' where
  len := L.len
  p := fun a h => ⟨e.stay _ (L.p a h).1, e.out (L.p a h).2 (L.p a h).1⟩
  sub := L.sub
  p0 := L.p0
  ext := L.ext.step e
  own := L.own
  inj := L.inj
  st := s
  slot := fun i d h => let ⟨v, h1, h2⟩ := L.slot i d h; ⟨v, h1, h2.mono e⟩
  oslot := fun i d h => let ⟨a, h1, h2, h3⟩ := L.oslot i d h; ⟨a, h1, h2, h3.mono e (L.p a (L.own i a h1).1).2⟩
  xslot := fun i x h => let ⟨a, h1, h2⟩ := L.xslot i x h; ⟨a, h1, h2.mono e⟩
theorem LR.laid {p : Addr} {o : HO} (L : LR C cf oa P σ H β ρ S) (hp : H p = none) : LR C cf oa P σ (upd H p o) β ρ S := L.step (Ext.laid hp) (L.st.laid hp)
theorem LR.npP {p : Addr} (L : LR C cf oa P σ H β ρ S) (hp : H p = none) : ¬ P p := fun z => (L.p p z).1 hp
theorem LR.npB {p : Addr} (L : LR C cf oa P σ H β ρ S) (hp : H p = none) : p ∉ β := fun z => L.st.mem z hp
/-- fewer places kept apart, the owned ones and the callers' still -/
theorem LR.less (L : LR C cf oa P σ H β ρ S) (e : ∀ a, P' a → P a) (h1 : ∀ a, cf.P0 a → P' a) (h2 : ∀ i a, oa i = some a → P' a) : LR C cf oa P' σ H β ρ S where
  len := L.len
  p := fun a h => L.p a (e a h)
  sub := h1
  p0 := L.p0
  ext := L.ext
  own := fun i a h => ⟨h2 i a h, (L.own i a h).2⟩
  inj := L.inj
  st := L.st.less e
  slot := fun i d h => let ⟨v, q1, q2⟩ := L.slot i d h; ⟨v, q1, q2.less e⟩
  oslot := fun i d h => let ⟨a, q1, q2, q3⟩ := L.oslot i d h; ⟨a, q1, q2, q3.less e⟩
  xslot := fun i x h => let ⟨a, h1, h2⟩ := L.xslot i x h; ⟨a, h1, h2.less e⟩
/-- a new container kept apart -/
theorem LR.keepNew {p : Addr} {o : HO} (L : LR C cf oa P σ H β ρ S) (hp : H p = none) : LR C cf oa (fun b => P b ∨ b = p) σ (upd H p o) β ρ S where
  len := L.len
  p := fun a h => by
    rcases h with h | rfl
    · exact (L.laid hp).p a h
    · exact ⟨by rw [upd_same]; exact Option.some_ne_none _, L.npB hp⟩
  sub := fun a h => .inl (L.sub a h)
  p0 := L.p0
  ext := (L.laid (o := o) hp).ext
  own := fun i a h => ⟨.inl (L.own i a h).1, (L.own i a h).2⟩
  inj := L.inj
  st := ⟨L.st.len, L.st.nd, fun n a so h1 h2 => by
    have q := (L.st.ok n a so h1 h2).more hp
    exact q.laid hp⟩
  slot := fun i d h => let ⟨v, q1, q2⟩ := L.slot i d h; ⟨v, q1, (q2.more hp).mono (Ext.laid hp)⟩
  oslot := fun i d h => let ⟨a, q1, q2, q3⟩ := L.oslot i d h; ⟨a, q1, q2, (q3.more hp).mono (Ext.laid hp) (L.p a (L.own i a q1).1).2⟩
  xslot := fun i x h => let ⟨a, h1, h2⟩ := L.xslot i x h; ⟨a, h1, (h2.more hp).mono (Ext.laid hp)⟩
end

/-! ### an exception of the program's own -/
def ExnAt (C : Ct) (H : Hp) (P : Addr → Prop) (β : List Addr) (cls : Value) (d : Option Addr) (e : Exn) : Prop :=
  ∃ Ca dd vs, C.mg e.cls = some (.ref Ca) ∧ cls = .ref Ca ∧ d = some dd ∧ H dd = some (.xd vs) ∧ dd ∉ β ∧ ¬ P dd ∧ ∀ f x, e.fs.lookup f = some x → ∃ v, vs.lookup f = some v ∧ RV C H P β v x

/-- all that is tracked stays -/
theorem Ext.same {H H' : Hp} {β : List Addr} (e : Same H H') : Ext H β H' β where
  pre := ⟨[], (List.append_nil β).symm⟩
  keep := fun a o h _ => e a o h
  fresh := fun _ h => .inl h
  tups := fun a xs h => h.elim (fun h => .inl (e _ _ h)) fun ⟨o, h⟩ => .inr ⟨o, e _ _ h⟩
  stay := fun a h => by
    cases z : H a with
    | none => exact absurd z h
    | some o => rw [e a o z]; exact Option.some_ne_none _
  fzs := fun a o u h => e _ _ h
theorem SOK.same {C : Ct} {H H' : Hp} {P : Addr → Prop} {β : List Addr} {a : Addr} {so : SO} (h : SOK C H P β a so) (e : Same H H') : SOK C H' P β a so := by
  cases so with
  | lst ds => obtain ⟨xs, q, r⟩ := h; exact ⟨xs, e _ _ q, r.mono (Ext.same e)⟩
  | dct ds => obtain ⟨xs, q, r⟩ := h; exact ⟨xs, e _ _ q, r.mono (Ext.same e)⟩
  | ins c fs => obtain ⟨Ca, dx, vs, m, q, n, r⟩ := h; exact ⟨Ca, dx, vs, m, e _ _ q, n, r.mono (Ext.same e)⟩
  | lck ds => obtain ⟨od, xs, q, r⟩ := h; exact ⟨od, xs, e _ _ q, r.mono (Ext.same e)⟩
  | lkl ds => obtain ⟨od, xs, q, r⟩ := h; exact ⟨od, xs, e _ _ q, r.mono (Ext.same e)⟩
theorem SRel.same {C : Ct} {H H' : Hp} {P : Addr → Prop} {β : List Addr} {S : Store} (h : SRel C H P β S) (e : Same H H') : SRel C H' P β S := ⟨h.len, h.nd, fun n a so h1 h2 => (h.ok n a so h1 h2).same e⟩
theorem LR.same {C : Ct} {cf : Cf} {oa : Nat → Option Addr} {P : Addr → Prop} {σ : St} {H H' : Hp} {β : List Addr} {ρ : Rho} {S : Store} (L : LR C cf oa P σ H β ρ S) (e : Same H H') : LR C cf oa P σ H' β ρ S := L.step (Ext.same e) (L.st.same e)
theorem same_laid {H : Hp} {p : Addr} {o : HO} (hp : H p = none) : Same H (upd H p o) := fun a u h => by rw [upd_ne (ne_of_none h hp)]; exact h

/-- from ahead of an expression to behind it. b: it is read only (a loan of the slots' own containers is allowed) -/
structure Tr (b : Bool) (H : Hp) (β : List Addr) (S : Store) (H' : Hp) (β' : List Addr) (S' : Store) : Prop where
  ext : Ext H β H' β'
  ro : b = true → Same H H' ∧ β' = β ∧ S' = S
theorem Tr.refl {b : Bool} {H : Hp} {β : List Addr} {S : Store} : Tr b H β S H β S := ⟨Ext.refl _ _, fun _ => ⟨Same.refl _, rfl, rfl⟩⟩
theorem Tr.trans {b : Bool} {H H1 H2 : Hp} {β β1 β2 : List Addr} {S S1 S2 : Store} (x : Tr b H β S H1 β1 S1) (y : Tr b H1 β1 S1 H2 β2 S2) : Tr b H β S H2 β2 S2 :=
  ⟨x.ext.trans y.ext, fun e => let ⟨a1, a2, a3⟩ := x.ro e; let ⟨b1, b2, b3⟩ := y.ro e; ⟨a1.trans b1, b2.trans a2, b3.trans a3⟩⟩
theorem Tr.same {b : Bool} {H H' : Hp} {β : List Addr} {S : Store} (e : Same H H') : Tr b H β S H' β S := ⟨Ext.same e, fun _ => ⟨e, rfl, rfl⟩⟩
/-! ### what is kept through statements -/
structure Fx (H : Hp) (P : Addr → Prop) (β : List Addr) (H' : Hp) (P' : Addr → Prop) (β' : List Addr) : Prop where
  pre : ∃ γ, β' = β ++ γ
  con : ∀ a u, ¬ P a → a ∉ β → Rd H a u → Rd H' a u ∧ ¬ P' a ∧ a ∉ β'
  fz : ∀ a o u, H a = some (.frz o u) → H' a = some (.frz o u)
  tups : ∀ a xs, Rd H a (.tup xs) → Rd H' a (.tup xs)
section
variable {C : Ct} {H H1 H2 H' : Hp} {P P1 P2 P' : Addr → Prop} {β β1 β2 β' : List Addr}
theorem Fx.refl : Fx H P β H P β := ⟨⟨[], (List.append_nil β).symm⟩, fun _ _ h1 h2 r => ⟨r, h1, h2⟩, fun _ _ _ h => h, fun _ _ h => h⟩
theorem Fx.trans (a : Fx H P β H1 P1 β1) (b : Fx H1 P1 β1 H2 P2 β2) : Fx H P β H2 P2 β2 where
  pre := by
    obtain ⟨γ, r⟩ := a.pre
    obtain ⟨γ', r'⟩ := b.pre
    exact ⟨γ ++ γ', by rw [r', r, List.append_assoc]⟩
  con := fun c u h1 h2 r => let ⟨r1, q1, q2⟩ := a.con c u h1 h2 r; b.con c u q1 q2 r1
  fz := fun c o u r => b.fz c o u (a.fz c o u r)
  tups := fun c xs h => b.tups c xs (a.tups c xs h)
theorem Fx.of (e : Ext H β H' β') : Fx H P β H' P β' := ⟨e.pre, fun a u h1 h2 r => ⟨e.rd h2 r, h1, e.out h2 (rd_some r)⟩, e.fzs, e.tups⟩
/-- a place that was free is kept apart as well -/
theorem Fx.more (e : Ext H β H' β') {p : Addr} (hp : H p = none) : Fx H P β H' (fun b => P b ∨ b = p) β' :=
  ⟨e.pre, fun a u h1 h2 r => ⟨e.rd h2 r, fun z => z.elim h1 fun q => rd_some r (by rw [q]; exact hp), e.out h2 (rd_some r)⟩, e.fzs, e.tups⟩
theorem Fx.less (h : ∀ a, P' a → P a) : Fx H P β H P' β := ⟨⟨[], (List.append_nil β).symm⟩, fun a u h1 h2 r => ⟨r, fun z => h1 (h a z), h2⟩, fun _ _ _ h => h, fun _ _ h => h⟩
/-- a container that is kept apart changes -/
theorem Fx.own {p : Addr} {o : HO} (hp : P p) (ht : ∀ xs, ¬ Rd H p (.tup xs)) (hf : ∀ o u, H p ≠ some (.frz o u)) : Fx H P β (upd H p o) P β := by
  refine ⟨⟨[], (List.append_nil β).symm⟩, fun a u h1 h2 r => ⟨?_, h1, h2⟩, fun a o u r => ?_, fun a xs r => ?_⟩
  · have ne : a ≠ p := fun e => h1 (e ▸ hp)
    unfold Rd; rw [upd_ne ne]; exact r
  · have ne : a ≠ p := fun e => hf o u (by rw [← e]; exact r)
    rw [upd_ne ne]; exact r
  · have ne : a ≠ p := fun e => ht xs (e ▸ r)
    unfold Rd; rw [upd_ne ne]; exact r
theorem Fx.get (e : Fx H P β H' P' β') {n : Nat} {a : Addr} (h : β[n]? = some a) : β'[n]? = some a := by
  obtain ⟨γ, r⟩ := e.pre
  rw [r, List.getElem?_append_left (List.getElem?_eq_some_iff.mp h).1]; exact h
mutual
theorem RV.fx (e : Fx H P β H' P' β') : ∀ {v : V} {d : D}, RV C H P β v d → RV C H' P' β' v d
  | _, _, .non => .non
  | _, _, .bl b => .bl b
  | _, _, .int i => .int i
  | _, _, .str x => .str x
  | _, _, .ty n => .ty n
  | _, _, .lst hp hb hr h => let ⟨r, q1, q2⟩ := e.con _ _ hp hb hr; .lst q1 q2 r (RVs.fx e h)
  | _, _, .tup hr h => .tup (e.tups _ _ hr) (RVs.fx e h)
  | _, _, .ktup k h => .ktup k (RVs.fx e h)
  | _, _, .klst k h => .klst k (RVs.fx e h)
  | _, _, .dct hp hb hr h => let ⟨_, q1, q2⟩ := e.con _ _ hp hb hr.rd; .dct q1 q2 (let ⟨o, q⟩ := hr; ⟨o, e.fz _ _ _ q⟩) (RKs.fx e h)
  | _, _, .ref h => .ref (e.get h)
  | _, _, .fn h k => .fn h k
theorem RVs.fx (e : Fx H P β H' P' β') : ∀ {vs : List V} {ds : List D}, RVs C H P β vs ds → RVs C H' P' β' vs ds
  | _, _, .nil => .nil
  | _, _, .cons h t => .cons (RV.fx e h) (RVs.fx e t)
theorem RKs.fx (e : Fx H P β H' P' β') : ∀ {vs : List (Key × V)} {ds : List (Key × D)}, RKs C H P β vs ds → RKs C H' P' β' vs ds
  | _, _, .nil => .nil
  | _, _, .cons h t => .cons (RV.fx e h) (RKs.fx e t)
end
end

/-- what is kept of the frozen things and the store's places -/
structure Fs (H : Hp) (β : List Addr) (H' : Hp) (β' : List Addr) : Prop where
  pre : ∃ γ, β' = β ++ γ
  fz : ∀ a o u, H a = some (.frz o u) → H' a = some (.frz o u)
theorem Fs.refl {H : Hp} {β : List Addr} : Fs H β H β := ⟨⟨[], (List.append_nil β).symm⟩, fun _ _ _ h => h⟩
theorem Fx.fs {H H' : Hp} {P P' : Addr → Prop} {β β' : List Addr} (f : Fx H P β H' P' β') : Fs H β H' β' := ⟨f.pre, f.fz⟩
theorem Ext.fs {H H' : Hp} {β β' : List Addr} (f : Ext H β H' β') : Fs H β H' β' := ⟨f.pre, f.fzs⟩
theorem Fs.trans {H H1 H2 : Hp} {β β1 β2 : List Addr} (a : Fs H β H1 β1) (b : Fs H1 β1 H2 β2) : Fs H β H2 β2 where
  pre := by
    obtain ⟨γ, r⟩ := a.pre
    obtain ⟨γ', r'⟩ := b.pre
    exact ⟨γ ++ γ', by rw [r', r, List.append_assoc]⟩
  fz := fun c o u r => b.fz c o u (a.fz c o u r)
/-! ### readings -/
/-- what an exception must find -/
abbrev XP (C : Ct) (W : WX) (cf : Cf) (oa : Nat → Option Addr) (P : Addr → Prop) (σ : St) (b : Bool) (H : Hp) (β : List Addr) (ρ : Rho) (S : Store) (e : Exn) (S' : Store) : Prop :=
  ∀ cls x H' β', Tr b H β S H' β' S' → LR C cf oa P σ H' β' ρ S' → ExnAt C H' P β' cls x e → W cls x σ H'
/-- the reading of an expression with the tree-value m -/
def EM (C : Ct) (W : WX) (b : Bool) (m : EX) : TE := fun σ H Q => ∃ cf oa P β ρ S, LR C cf oa P σ H β ρ S ∧ (match m ρ S with
  | .ok d S' => ∀ v H' β', Tr b H β S H' β' S' → LR C cf oa P σ H' β' ρ S' → RV C H' P β' v d → Q v H'
  | .exc e S' => XP C W cf oa P σ b H β ρ S e S'
  | .stuck => False)
/-- .. that makes a new container -/
def EO (C : Ct) (W : WX) (b : Bool) (m : EX) : TE := fun σ H Q => ∃ cf oa P β ρ S, LR C cf oa P σ H β ρ S ∧ (match m ρ S with
  | .ok d S' => ∀ a H' β', Tr b H β S H' β' S' → H a = none → LR C cf oa (fun b => P b ∨ b = a) σ H' β' ρ S' → OwnAt C H' (fun c => P c ∨ c = a) β' a d → Q (.ref a) H'
  | .exc e S' => XP C W cf oa P σ b H β ρ S e S'
  | .stuck => False)
def AM (C : Ct) (W : WX) (b : Bool) (m : AX) : TA := fun σ H Q => ∃ cf oa P β ρ S, LR C cf oa P σ H β ρ S ∧ (match m ρ S with
  | .ok ds S' => ∀ vs H' β', Tr b H β S H' β' S' → LR C cf oa P σ H' β' ρ S' → RVs C H' P β' vs ds → Q vs H'
  | .exc e S' => XP C W cf oa P σ b H β ρ S e S'
  | .stuck => False)
def BM (C : Ct) (W : WX) (b : Bool) (m : BX) : TT := fun σ H Q => ∃ cf oa P β ρ S, LR C cf oa P σ H β ρ S ∧ (match m ρ S with
  | .ok k S' => ∀ H' β', Tr b H β S H' β' S' → LR C cf oa P σ H' β' ρ S' → Q k H'
  | .exc e S' => XP C W cf oa P σ b H β ρ S e S'
  | .stuck => False)
/-- what is wanted of a statement's result, from a state that H, P, β stand for -/
def SQ (C : Ct) (W : WX) (cf : Cf) (H : Hp) (P : Addr → Prop) (β : List Addr) (D : Ends) (r : SR) : Prop := match r with
  | .nx ρ' S' => ∀ σ' H' β' oa' P', LR C cf oa' P' σ' H' β' ρ' S' → Fx H P β H' P' β' → D.nx σ' H'
  | .bk ρ' S' => ∀ σ' H' β' oa' P', LR C cf oa' P' σ' H' β' ρ' S' → Fx H P β H' P' β' → D.bk σ' H'
  | .ct ρ' S' => ∀ σ' H' β' oa' P', LR C cf oa' P' σ' H' β' ρ' S' → Fx H P β H' P' β' → D.ct σ' H'
  | .rt d S' => ∀ v H' β', ExtL cf H' β' → Fs H β H' β' → SRel C H' cf.P0 β' S' → RV C H' cf.P0 β' v d → D.rt v H'
  | .exc e ρ' S' => ∀ cls x σ' H' β' oa' P', LR C cf oa' P' σ' H' β' ρ' S' → Fx H P β H' P' β' → ExnAt C H' P' β' cls x e → W cls x σ' H'
  | .stuck => False
theorem SQ.fx {C : Ct} {W : WX} {cf : Cf} {H H1 : Hp} {P P1 : Addr → Prop} {β β1 : List Addr} {D : Ends} {r : SR} (f1 : Fx H P β H1 P1 β1) (h : SQ C W cf H P β D r) : SQ C W cf H1 P1 β1 D r := by
  cases r with
  | nx ρ2 S2 => intro σ2 H2 β2 oa2 P2 L2 f2; exact h σ2 H2 β2 oa2 P2 L2 (f1.trans f2)
  | bk ρ2 S2 => intro σ2 H2 β2 oa2 P2 L2 f2; exact h σ2 H2 β2 oa2 P2 L2 (f1.trans f2)
  | ct ρ2 S2 => intro σ2 H2 β2 oa2 P2 L2 f2; exact h σ2 H2 β2 oa2 P2 L2 (f1.trans f2)
  | rt d S2 => intro v H2 β2 x f s r; exact h v H2 β2 x (f1.fs.trans f) s r
  | exc e ρ2 S2 => intro cls x σ2 H2 β2 oa2 P2 L2 f2 ex; exact h cls x σ2 H2 β2 oa2 P2 L2 (f1.trans f2) ex
  | stuck => exact h
def SM (C : Ct) (W : WX) (m : SX) : TS := fun D σ H => ∃ cf oa P β ρ S, LR C cf oa P σ H β ρ S ∧ SQ C W cf H P β D (m ρ S)

abbrev PM (C : Ct) (W : WX) (b : Bool) (X : Cx) (e : Expr) (m : EX) : Prop := PE X e (EM C W b m)
abbrev PN (C : Ct) (W : WX) (b : Bool) (X : Cx) (e : Expr) (m : EX) : Prop := PE X e (EO C W b m)
abbrev PAM (C : Ct) (W : WX) (b : Bool) (X : Cx) (es : List Expr) (m : AX) : Prop := PA X es (AM C W b m)
abbrev PB (C : Ct) (W : WX) (b : Bool) (X : Cx) (e : Expr) (m : BX) : Prop := PT X e (BM C W b m)
abbrev PSM (C : Ct) (W : WX) (X : Cx) (s : Stmt) (m : SX) : Prop := PS X s (SM C W m)
abbrev PSSM (C : Ct) (W : WX) (X : Cx) (s : List Stmt) (m : SX) : Prop := PSs X s (SM C W m)

theorem PE_imp {X : Cx} {e : Expr} {t t' : TE} (h : PE X e t) (i : ∀ σ H Q, t' σ H Q → t σ H Q) : PE X e t' := ⟨fun pins s σ H Q I hw => h.run pins s σ H Q I (i σ H Q hw)⟩
theorem PT_imp {X : Cx} {e : Expr} {t t' : TT} (h : PT X e t) (i : ∀ σ H Q, t' σ H Q → t σ H Q) : PT X e t' := ⟨fun pins s σ H Q I hw => h.run pins s σ H Q I (i σ H Q hw)⟩
theorem PA_imp {X : Cx} {es : List Expr} {t t' : TA} (h : PA X es t) (i : ∀ σ H Q, t' σ H Q → t σ H Q) : PA X es t' := ⟨fun pos pins s σ H Q I hw => h.run pos pins s σ H Q I (i σ H Q hw)⟩
theorem PS_imp {X : Cx} {s : Stmt} {t t' : TS} (h : PS X s t) (i : ∀ D σ H, t' D σ H → t D σ H) : PS X s t' := ⟨fun pins sh σ H D I hw => h.run pins sh σ H D I (i D σ H hw)⟩
theorem PSs_imp {X : Cx} {s : List Stmt} {t t' : TS} (h : PSs X s t) (i : ∀ D σ H, t' D σ H → t D σ H) : PSs X s t' := ⟨fun pins sh σ H D I hw => h.run pins sh σ H D I (i D σ H hw)⟩
end Mi

/-! Mi3: expressions. -/
namespace Mi
open PySem PySem.Spec PyProof.Rows L2

abbrev ctOf (X : Cx) : Ct := ⟨X.K, X.mg, X.w, X.pn⟩

/-! ### the pure side -/
def mC (d : D) : EX := fun _ S => .ok d S
def mVar (i : Nat) : EX := fun ρ S => match ρ[i]? with
  | some (Sl.sh d) => .ok d S
  | _ => .stuck
def R.opt {α : Type} (o : Option α) (S : Store) : R α := match o with
  | some z => .ok z S
  | none => .stuck
def mBin (f : Store → D → D → Option D) (a b : EX) : EX := fun ρ S => (a ρ S).bind fun x S1 => (b ρ S1).bind fun y S2 => R.opt (f S2 x y) S2
def mUn (f : Store → D → Option D) (a : EX) : EX := fun ρ S => (a ρ S).bind fun x S1 => R.opt (f S1 x) S1
def aNil : AX := fun _ S => .ok [] S
def aCons (a : EX) (r : AX) : AX := fun ρ S => (a ρ S).bind fun x S1 => (r ρ S1).bind fun xs S2 => .ok (x :: xs) S2
def mFun (f : Store → List D → Option D) (a : AX) : EX := fun ρ S => (a ρ S).bind fun xs S1 => R.opt (f S1 xs) S1
def dTup (xs : List D) : Option D := if xs.length ≤ sizeLine then some (.tup xs) else none
def dLst (xs : List D) : Option D := if xs.length ≤ sizeLine then some (.lst xs) else none
def mTup (a : AX) : EX := fun ρ S => (a ρ S).bind fun xs S1 => R.opt (dTup xs) S1
def mLst (a : AX) : EX := fun ρ S => (a ρ S).bind fun xs S1 => R.opt (dLst xs) S1
def soOf : D → Option SO
  | .lst xs => some (.lst xs)
  | .dct kvs => some (.dct kvs)
  | _ => none
/-- a new container becomes a thing of the store -/
def mBox (a : EX) : EX := fun ρ S => (a ρ S).bind fun x S1 => match soOf x with
  | some so => .ok (.ref S1.length) (S1 ++ [so])
  | none => .stuck
/-- no list or dict in it -/
def flat : D → Bool
  | .non | .bl _ | .int _ | .str _ | .ty _ | .fn _ | .ref _ => true
  | .tup _ | .lst _ | .dct _ => false
def lent (ρ : Rho) : Rho := ρ.map fun s => match s with
  | .ow (.lst xs) => .sh (.lst xs)
  | .ow _ => .un
  | s => s
/-- read on loan (all slots' own containers): what comes is flat -/
def mLend (a : EX) : EX := fun ρ S => match a (lent ρ) S with
  | .ok x S1 => if flat x = true then .ok x S1 else .stuck
  | _ => .stuck
/-- the same of a test -/
def bLend (a : BX) : BX := fun ρ S => match a (lent ρ) S with
  | .ok x S1 => .ok x S1
  | _ => .stuck

/-! ### soundness of operations by values -/
section
variable {X : Cx} {W : WX} {b : Bool}
/-- a state for an operation -/
structure At (C : Ct) (H : Hp) (Z : Addr → Prop) (β : List Addr) (S : Store) : Prop where
  st : SRel C H Z β S
  dom : ∀ a, Z a → H a ≠ none
def OpM (X : Cx) (r : R2) (f : Store → D → D → Option D) : Prop :=
  ∀ (Z : Addr → Prop) (H : Hp) (β : List Addr) (S : Store) (x y : V) (dx dy dz : D) (Q : VK), At (ctOf X) H Z β S → RV (ctOf X) H Z β x dx → RV (ctOf X) H Z β y dy → f S dx dy = some dz →
    (∀ v H', Same H H' → RV (ctOf X) H' Z β v dz → Q v H') → r x y H Q
def OpN (X : Cx) (r : R2) (f : Store → D → D → Option D) : Prop :=
  ∀ (Z : Addr → Prop) (H : Hp) (β : List Addr) (S : Store) (x y : V) (dx dy dz : D) (Q : VK), At (ctOf X) H Z β S → RV (ctOf X) H Z β x dx → RV (ctOf X) H Z β y dy → f S dx dy = some dz →
    (∀ a H', Same H H' → H a = none → OwnAt (ctOf X) H' (fun c => Z c ∨ c = a) β a dz → Q (.ref a) H') → r x y H Q
def UnM (X : Cx) (r : V → Hp → VK → Prop) (f : Store → D → Option D) : Prop :=
  ∀ (Z : Addr → Prop) (H : Hp) (β : List Addr) (S : Store) (x : V) (dx dz : D) (Q : VK), At (ctOf X) H Z β S → RV (ctOf X) H Z β x dx → f S dx = some dz →
    (∀ v H', Same H H' → RV (ctOf X) H' Z β v dz → Q v H') → r x H Q
def FnM (X : Cx) (r : List V → Hp → VK → Prop) (f : Store → List D → Option D) : Prop :=
  ∀ (Z : Addr → Prop) (H : Hp) (β : List Addr) (S : Store) (xs : List V) (ds : List D) (dz : D) (Q : VK), At (ctOf X) H Z β S → RVs (ctOf X) H Z β xs ds → f S ds = some dz →
    (∀ v H', Same H H' → RV (ctOf X) H' Z β v dz → Q v H') → r xs H Q
def FnN (X : Cx) (r : List V → Hp → VK → Prop) (f : Store → List D → Option D) : Prop :=
  ∀ (Z : Addr → Prop) (H : Hp) (β : List Addr) (S : Store) (xs : List V) (ds : List D) (dz : D) (Q : VK), At (ctOf X) H Z β S → RVs (ctOf X) H Z β xs ds → f S ds = some dz →
    (∀ a H', Same H H' → H a = none → OwnAt (ctOf X) H' (fun c => Z c ∨ c = a) β a dz → Q (.ref a) H') → r xs H Q
theorem At.npZ {C : Ct} {H : Hp} {Z : Addr → Prop} {β : List Addr} {S : Store} (A : At C H Z β S) {p : Addr} (hp : H p = none) : ¬ Z p := fun z => A.dom p z hp
theorem At.npB {C : Ct} {H : Hp} {Z : Addr → Prop} {β : List Addr} {S : Store} (A : At C H Z β S) {p : Addr} (hp : H p = none) : p ∉ β := fun z => A.st.mem z hp
theorem LR.at {C : Ct} {cf : Cf} {oa : Nat → Option Addr} {P : Addr → Prop} {σ : L2.St} {H : Hp} {β : List Addr} {ρ : Rho} {S : Store} (L : LR C cf oa P σ H β ρ S) : At C H P β S :=
  ⟨L.st, fun a h => (L.p a h).1⟩

def isL (d : D) : Prop := ∃ ds, d = .lst ds
/-- a new list, forgotten to be new -/
theorem own_rv {C : Ct} {H : Hp} {P : Addr → Prop} {β : List Addr} {a : Addr} {d : D} (o : OwnAt C H (fun b => P b ∨ b = a) β a d) (hp : ¬ P a) (hb : a ∉ β) (hl : isL d) : RV C H P β (.ref a) d := by
  obtain ⟨ds, rfl⟩ := hl
  obtain ⟨xs, q, r⟩ := o
  exact .lst hp hb (.inl q) (r.less fun _ h => .inl h)
theorem LR.forget {C : Ct} {cf : Cf} {oa : Nat → Option Addr} {P : Addr → Prop} {σ : L2.St} {H : Hp} {β : List Addr} {ρ : Rho} {S : Store} {a : Addr} (L : LR C cf oa (fun b => P b ∨ b = a) σ H β ρ S) (h1 : ∀ a, cf.P0 a → P a) (h2 : ∀ i a, oa i = some a → P a) : LR C cf oa P σ H β ρ S :=
  L.less (fun _ h => .inl h) h1 h2
/-- a new container laid and kept apart -/
theorem LR.keepMore {C : Ct} {cf : Cf} {oa : Nat → Option Addr} {P : Addr → Prop} {σ : L2.St} {H H' : Hp} {β : List Addr} {ρ : Rho} {S : Store} {p : Addr} (L : LR C cf oa P σ H β ρ S) (e : Same H H') (hp : H p = none) (hp' : H' p ≠ none) : LR C cf oa (fun b => P b ∨ b = p) σ H' β ρ S where
  len := L.len
  p := fun a h => by
    rcases h with h | rfl
    · exact (L.same e).p a h
    · exact ⟨hp', L.npB hp⟩
  sub := fun a h => .inl (L.sub a h)
  p0 := L.p0
  ext := (L.same e).ext
  own := fun i a h => ⟨.inl (L.own i a h).1, (L.own i a h).2⟩
  inj := L.inj
  st := (L.st.more hp).same e
  slot := fun i d h => let ⟨v, q1, q2⟩ := L.slot i d h; ⟨v, q1, (q2.more hp).mono (Ext.same e)⟩
  oslot := fun i d h => let ⟨a, q1, q2, q3⟩ := L.oslot i d h; ⟨a, q1, q2, (q3.more hp).mono (Ext.same e) (L.p a (L.own i a q1).1).2⟩
  xslot := fun i x h => let ⟨a, h1, h2⟩ := L.xslot i x h; ⟨a, h1, (h2.more hp).mono (Ext.same e)⟩
theorem OpM.of_new {r : R2} {f : Store → D → D → Option D} (h : OpN X r f) (hl : ∀ S x y d, f S x y = some d → isL d) : OpM X r f := by
  intro Z H β S x y dx dy dz Q A rx ry e k
  exact h Z H β S x y dx dy dz Q A rx ry e fun a H' E hn o => k _ H' E (own_rv o (A.npZ hn) (A.npB hn) (hl _ _ _ _ e))
theorem FnM.of_new {r : List V → Hp → VK → Prop} {f : Store → List D → Option D} (h : FnN X r f) (hl : ∀ S xs d, f S xs = some d → isL d) : FnM X r f := by
  intro Z H β S xs ds dz Q A rx e k
  exact h Z H β S xs ds dz Q A rx e fun a H' E hn o => k _ H' E (own_rv o (A.npZ hn) (A.npB hn) (hl _ _ _ e))
theorem stay_none {H H1 : Hp} {β β1 : List Addr} (e : Ext H β H1 β1) {a : Addr} (hn : H1 a = none) : H a = none := by
  cases z : H a with
  | none => rfl
  | some o => exact absurd hn (e.stay a (by rw [z]; exact Option.some_ne_none _))

theorem em2 {f : Store → D → D → Option D} {r : R2} {ma mb : EX} {σ : L2.St} {H : Hp} {Q : VK} (hm : OpM X r f) (h : EM (ctOf X) W b (mBin f ma mb) σ H Q) : tOp r (EM (ctOf X) W b ma) (EM (ctOf X) W b mb) σ H Q := by
  obtain ⟨cf, oa, P, β, ρ, S, L, h⟩ := h
  unfold mBin at h
  refine ⟨cf, oa, P, β, ρ, S, L, ?_⟩
  cases ea : ma ρ S with
  | stuck => rw [ea] at h; exact h
  | exc e S1 => rw [ea] at h; exact h
  | ok dx S1 =>
    rw [ea] at h
    simp only [R.bind] at h
    intro x H1 β1 e1 L1 rx
    refine ⟨cf, oa, P, β1, ρ, S1, L1, ?_⟩
    cases eb : mb ρ S1 with
    | stuck => rw [eb] at h; exact h
    | exc e S2 =>
      rw [eb] at h
      intro cls d H' β' e2 L2 ex
      exact h cls d H' β' (e1.trans e2) L2 ex
    | ok dy S2 =>
      rw [eb] at h
      simp only [R.bind] at h
      intro y H2 β2 e2 L2 ry
      cases ef : f S2 dx dy with
      | none => rw [ef] at h; exact h.elim
      | some dz =>
        rw [ef] at h
        exact hm P H2 β2 S2 x y dx dy dz Q L2.at (rx.mono e2.ext) ry ef fun v H' e3 r3 => h v H' β2 (e1.trans (e2.trans (Tr.same e3))) (L2.same e3) r3
theorem eo2 {f : Store → D → D → Option D} {r : R2} {ma mb : EX} {σ : L2.St} {H : Hp} {Q : VK} (hm : OpN X r f) (h : EO (ctOf X) W b (mBin f ma mb) σ H Q) : tOp r (EM (ctOf X) W b ma) (EM (ctOf X) W b mb) σ H Q := by
  obtain ⟨cf, oa, P, β, ρ, S, L, h⟩ := h
  unfold mBin at h
  refine ⟨cf, oa, P, β, ρ, S, L, ?_⟩
  cases ea : ma ρ S with
  | stuck => rw [ea] at h; exact h
  | exc e S1 => rw [ea] at h; exact h
  | ok dx S1 =>
    rw [ea] at h
    simp only [R.bind] at h
    intro x H1 β1 e1 L1 rx
    refine ⟨cf, oa, P, β1, ρ, S1, L1, ?_⟩
    cases eb : mb ρ S1 with
    | stuck => rw [eb] at h; exact h
    | exc e S2 =>
      rw [eb] at h
      intro cls d H' β' e2 L2 ex
      exact h cls d H' β' (e1.trans e2) L2 ex
    | ok dy S2 =>
      rw [eb] at h
      simp only [R.bind] at h
      intro y H2 β2 e2 L2 ry
      cases ef : f S2 dx dy with
      | none => rw [ef] at h; exact h.elim
      | some dz =>
        rw [ef] at h
        exact hm P H2 β2 S2 x y dx dy dz Q L2.at (rx.mono e2.ext) ry ef fun a H' e3 hn r3 =>
          h a H' β2 (e1.trans (e2.trans (Tr.same e3))) (stay_none (e1.trans e2).ext hn) (L2.keepMore e3 hn r3.notnone) r3
theorem em1 {f : Store → D → Option D} {r : V → Hp → VK → Prop} {ma : EX} {σ : L2.St} {H : Hp} {Q : VK} (hm : UnM X r f) (h : EM (ctOf X) W b (mUn f ma) σ H Q) : tUn r (EM (ctOf X) W b ma) σ H Q := by
  obtain ⟨cf, oa, P, β, ρ, S, L, h⟩ := h
  unfold mUn at h
  refine ⟨cf, oa, P, β, ρ, S, L, ?_⟩
  cases ea : ma ρ S with
  | stuck => rw [ea] at h; exact h
  | exc e S1 => rw [ea] at h; exact h
  | ok dx S1 =>
    rw [ea] at h
    simp only [R.bind] at h
    intro x H1 β1 e1 L1 rx
    cases ef : f S1 dx with
    | none => rw [ef] at h; exact h.elim
    | some dz =>
      rw [ef] at h
      exact hm P H1 β1 S1 x dx dz Q L1.at rx ef fun v H' e3 r3 => h v H' β1 (e1.trans (Tr.same e3)) (L1.same e3) r3
theorem amF {f : Store → List D → Option D} {r : List V → Hp → VK → Prop} {ma : AX} {σ : L2.St} {H : Hp} {Q : VK} (hm : FnM X r f) (h : EM (ctOf X) W b (mFun f ma) σ H Q) : AM (ctOf X) W b ma σ H fun vs H1 => r vs H1 Q := by
  obtain ⟨cf, oa, P, β, ρ, S, L, h⟩ := h
  unfold mFun at h
  refine ⟨cf, oa, P, β, ρ, S, L, ?_⟩
  cases ea : ma ρ S with
  | stuck => rw [ea] at h; exact h
  | exc e S1 => rw [ea] at h; exact h
  | ok dx S1 =>
    rw [ea] at h
    simp only [R.bind] at h
    intro x H1 β1 e1 L1 rx
    cases ef : f S1 dx with
    | none => rw [ef] at h; exact h.elim
    | some dz =>
      rw [ef] at h
      exact hm P H1 β1 S1 x dx dz Q L1.at rx ef fun v H' e3 r3 => h v H' β1 (e1.trans (Tr.same e3)) (L1.same e3) r3
theorem aoF {f : Store → List D → Option D} {r : List V → Hp → VK → Prop} {ma : AX} {σ : L2.St} {H : Hp} {Q : VK} (hm : FnN X r f) (h : EO (ctOf X) W b (mFun f ma) σ H Q) : AM (ctOf X) W b ma σ H fun vs H1 => r vs H1 Q := by
  obtain ⟨cf, oa, P, β, ρ, S, L, h⟩ := h
  unfold mFun at h
  refine ⟨cf, oa, P, β, ρ, S, L, ?_⟩
  cases ea : ma ρ S with
  | stuck => rw [ea] at h; exact h
  | exc e S1 => rw [ea] at h; exact h
  | ok dx S1 =>
    rw [ea] at h
    simp only [R.bind] at h
    intro x H1 β1 e1 L1 rx
    cases ef : f S1 dx with
    | none => rw [ef] at h; exact h.elim
    | some dz =>
      rw [ef] at h
      exact hm P H1 β1 S1 x dx dz Q L1.at rx ef fun a H' e3 hn r3 =>
        h a H' β1 (e1.trans (Tr.same e3)) (stay_none e1.ext hn) (L1.keepMore e3 hn r3.notnone) r3
theorem am_cons {a : EX} {r : AX} {σ : L2.St} {H : Hp} {Q : List V → Hp → Prop} (h : AM (ctOf X) W b (aCons a r) σ H Q) : tCons (EM (ctOf X) W b a) (AM (ctOf X) W b r) σ H Q := by
  obtain ⟨cf, oa, P, β, ρ, S, L, h⟩ := h
  unfold aCons at h
  refine ⟨cf, oa, P, β, ρ, S, L, ?_⟩
  cases ea : a ρ S with
  | stuck => rw [ea] at h; exact h
  | exc e S1 => rw [ea] at h; exact h
  | ok dx S1 =>
    rw [ea] at h
    simp only [R.bind] at h
    intro x H1 β1 e1 L1 rx
    refine ⟨cf, oa, P, β1, ρ, S1, L1, ?_⟩
    cases eb : r ρ S1 with
    | stuck => rw [eb] at h; exact h
    | exc e S2 =>
      rw [eb] at h
      intro cls d H' β' e2 L2 ex
      exact h cls d H' β' (e1.trans e2) L2 ex
    | ok ds S2 =>
      rw [eb] at h
      intro xs H2 β2 e2 L2 rs
      exact h _ H2 β2 (e1.trans e2) L2 (.cons (rx.mono e2.ext) rs)

/-! ### rules: names, constants -/
theorem pm_var {i : Nat} {x : Str} {pos : Pos} (h : PE X (.Name x pos) (tVar i)) : PM (ctOf X) W b X (.Name x pos) (mVar i) := PE_imp h fun σ H Q h => by
  obtain ⟨cf, oa, P, β, ρ, S, L, h⟩ := h
  unfold mVar at h
  cases e : ρ[i]? with
  | none => rw [e] at h; exact h.elim
  | some sl =>
    rw [e] at h
    cases sl with
    | un => exact h.elim
    | ow d => exact h.elim
    | ex d => exact h.elim
    | sh d =>
      obtain ⟨v, e1, r⟩ := L.slot i d e
      exact ⟨v, e1, h v H β Tr.refl L r⟩
theorem em_c {v : V} {d : D} (r : ∀ H P β, RV (ctOf X) H P β v d) {σ : L2.St} {H : Hp} {Q : VK} (h : EM (ctOf X) W b (mC d) σ H Q) : Q v H := by
  obtain ⟨cf, oa, P, β, ρ, S, L, h⟩ := h
  exact h v H β Tr.refl L (r _ _ _)
theorem pm_int {i j pos} : PM (ctOf X) W b X (.Constant (.int i) j pos) (mC (.int i)) := PE_imp pe_int fun σ H Q h => em_c (fun _ _ _ => .int i) h
theorem pm_bl {k j pos} : PM (ctOf X) W b X (.Constant (.bool k) j pos) (mC (.bl k)) := PE_imp pe_bl fun σ H Q h => em_c (fun _ _ _ => .bl k) h
theorem pm_non {j pos} : PM (ctOf X) W b X (.Constant .none j pos) (mC .non) := PE_imp pe_non fun σ H Q h => em_c (fun _ _ _ => .non) h
theorem pm_str {x j pos} : PM (ctOf X) W b X (.Constant (.str x) j pos) (mC (.str x)) := PE_imp pe_str fun σ H Q h => em_c (fun _ _ _ => .str x) h
/-- a global of the module: d is what it holds -/
theorem pm_glob {x : Str} {v : V} {u : Value} {d : D} {pos : Pos} (hm : X.mg x = some u) (r : RelV v u) (rd : ∀ H P β, RV (ctOf X) H P β v d) (hg : Gl X x := by rfl) (hd : (x == ("__debug__" : Str)) = false := by decide) : PM (ctOf X) W b X (.Name x pos) (mC d) :=
  PE_imp (pe_glob hg hm r hd) fun σ H Q h => em_c rd h
theorem pm_ty {x : Str} {n : String} {pos : Pos} (hm : X.mg x = none) (hv : bootBuiltins x = some (.type n)) (hg : Gl X x := by rfl) (hn : x ≠ "__name__" := by decide) (hd : (x == ("__debug__" : Str)) = false := by decide) : PM (ctOf X) W b X (.Name x pos) (mC (.ty n)) :=
  PE_imp (pe_bltn (v := .ty n) hg hm hv rfl hn hd) fun σ H Q h => em_c (fun _ _ _ => .ty n) h

/-! ### operators -/
variable {a b' c e : Expr} {es : List Expr} {ma mb mc : EX} {mas : AX} {pos : Pos}
theorem pm_op {op : Operator} {r : R2} {f : Store → D → D → Option D} (ho : OpR X (binaryOp op) r) (hm : OpM X r f) (ha : PM (ctOf X) W b X a ma) (hb : PM (ctOf X) W b X b' mb) : PM (ctOf X) W b X (.BinOp a op b' pos) (mBin f ma mb) :=
  PE_imp (pe_op ho ha hb) fun σ H Q h => em2 hm h
theorem pn_op {op : Operator} {r : R2} {f : Store → D → D → Option D} (ho : OpR X (binaryOp op) r) (hm : OpN X r f) (ha : PM (ctOf X) W b X a ma) (hb : PM (ctOf X) W b X b' mb) : PN (ctOf X) W b X (.BinOp a op b' pos) (mBin f ma mb) :=
  PE_imp (pe_op ho ha hb) fun σ H Q h => eo2 hm h
theorem pm_cmp {op : CmpOp} {r : R2} {f : Store → D → D → Option D} (ho : OpR X (compareOp op) r) (hm : OpM X r f) (ha : PM (ctOf X) W b X a ma) (hb : PM (ctOf X) W b X b' mb) (hk : behindInMarks op b' = false := by first | exact nobehind _ (by decide) (by decide) | rfl) :
    PM (ctOf X) W b X (.Compare a [op] [b'] pos) (mBin f ma mb) := PE_imp (pe_cmpR ho ha hb hk) fun σ H Q h => em2 hm h
theorem pm_un {op : UnaryOp} {r : V → Hp → VK → Prop} {f : Store → D → Option D} (ho : UnR X (unaryOp op) r) (hm : UnM X r f) (ha : PM (ctOf X) W b X a ma) : PM (ctOf X) W b X (.UnaryOp op a pos) (mUn f ma) :=
  PE_imp (pe_un ho ha) fun σ H Q h => em1 hm h
theorem CallR.or {f : Value} {r r' : List V → Hp → VK → Prop} (h : CallR X f r) (h' : CallR X f r') : CallR X f (fun xs H Q => r xs H Q ∨ r' xs H Q) := by
  intro pins s σ H xs us Q I rx q
  rcases q with q | q
  · exact h pins s σ H xs us Q I rx q
  · exact h' pins s σ H xs us Q I rx q

/-! ### argument lists, displays, calls of built-ins -/
theorem pam_nil : PAM (ctOf X) W b X [] aNil := PA_imp pa_nil fun σ H Q h => by
  obtain ⟨cf, oa, P, β, ρ, S, L, h⟩ := h
  exact h [] H β Tr.refl L .nil
theorem pam_cons {r : AX} (ha : PM (ctOf X) W b X e ma) (hr : PAM (ctOf X) W b X es r) (hs : starEach (e :: es) X.env = (false, eval e X.env) :: starEach es X.env := by rfl) : PAM (ctOf X) W b X (e :: es) (aCons ma r) :=
  PA_imp (pa_cons ha hr hs) fun σ H Q h => am_cons h
theorem pm_tup {k : Nat} (h : PAM (ctOf X) W b X es mas) : PM (ctOf X) W b X (.Tuple es k pos) (mTup mas) := PE_imp (pe_tup h) fun σ H Q h => by
  obtain ⟨cf, oa, P, β, ρ, S, L, h⟩ := h
  unfold mTup at h
  refine ⟨cf, oa, P, β, ρ, S, L, ?_⟩
  cases ea : mas ρ S with
  | stuck => rw [ea] at h; exact h
  | exc e S1 => rw [ea] at h; exact h
  | ok ds S1 =>
    rw [ea] at h
    simp only [R.bind, dTup] at h
    intro xs H1 β1 e1 L1 rs
    by_cases hz : ds.length ≤ sizeLine
    · rw [if_pos hz] at h
      refine ⟨by rw [rs.length]; exact hz, fun p hp => ?_⟩
      have x : Same H1 (upd H1 p (.tup xs)) := same_laid hp
      exact h _ _ β1 (e1.trans (Tr.same x)) (L1.same x) (.tup (.inl upd_same) (rs.mono (Ext.same x)))
    · rw [if_neg hz] at h; exact h.elim
theorem pn_lst (h : PAM (ctOf X) W b X es mas) : PN (ctOf X) W b X (.List es pos) (mLst mas) := PE_imp (pe_lst h) fun σ H Q h => by
  obtain ⟨cf, oa, P, β, ρ, S, L, h⟩ := h
  unfold mLst at h
  refine ⟨cf, oa, P, β, ρ, S, L, ?_⟩
  cases ea : mas ρ S with
  | stuck => rw [ea] at h; exact h
  | exc e S1 => rw [ea] at h; exact h
  | ok ds S1 =>
    rw [ea] at h
    simp only [R.bind, dLst] at h
    intro xs H1 β1 e1 L1 rs
    by_cases hz : ds.length ≤ sizeLine
    · rw [if_pos hz] at h
      refine ⟨by rw [rs.length]; exact hz, fun p hp => ?_⟩
      have x : Same H1 (upd H1 p (.lst xs)) := same_laid hp
      exact h p _ β1 (e1.trans (Tr.same x)) (stay_none e1.ext hp) (L1.keepMore x hp (by rw [upd_same]; exact Option.some_ne_none _)) ⟨xs, upd_same, (rs.more hp).mono (Ext.same x)⟩
    · rw [if_neg hz] at h; exact h.elim
/-- a dict is frozen for ever -/
theorem Fx.frz {H : Hp} {P : Addr → Prop} {β : List Addr} {a : Addr} {od : Obj} {xs : List (Key × V)} (e : H a = some (.dK xs)) : Fx H P β (upd H a (.frz od (.dK xs))) P β := by
  refine ⟨⟨[], (List.append_nil β).symm⟩, fun b u h1 h2 r => ⟨?_, h1, h2⟩, fun b o u r => ?_, fun b xs r => ?_⟩
  · by_cases hb : b = a
    · subst hb
      rcases r with r | ⟨o, r⟩
      · rw [e] at r; cases r; exact .inr ⟨od, upd_same⟩
      · rw [e] at r; cases r
    · unfold Rd; rw [upd_ne hb]; exact r
  · have hb : b ≠ a := fun z => by rw [z, e] at r; cases r
    rw [upd_ne hb]; exact r
  · have hb : b ≠ a := fun z => by rw [z] at r; rcases r with r | ⟨o, r⟩ <;> (rw [e] at r; cases r)
    unfold Rd; rw [upd_ne hb]; exact r
theorem SOK.fxs {C : Ct} {H H' : Hp} {P P' : Addr → Prop} {β : List Addr} {b : Addr} {so : SO} (f : Fx H P β H' P' β) (hb : H' b = H b) (h : SOK C H P β b so) : SOK C H' P' β b so := by
  cases so with
  | lst ds => obtain ⟨xs, q, r⟩ := h; exact ⟨xs, by rw [hb]; exact q, r.fx f⟩
  | dct ds => obtain ⟨xs, q, r⟩ := h; exact ⟨xs, by rw [hb]; exact q, r.fx f⟩
  | ins c fs => obtain ⟨Ca, dx, vs, m, q, n, r⟩ := h; exact ⟨Ca, dx, vs, m, by rw [hb]; exact q, n, r.fx f⟩
  | lck ds => obtain ⟨od, xs, q, r⟩ := h; exact ⟨od, xs, by rw [hb]; exact q, r.fx f⟩
  | lkl ds => obtain ⟨od, xs, q, r⟩ := h; exact ⟨od, xs, by rw [hb]; exact q, r.fx f⟩
theorem OwnAt.fxs {C : Ct} {H H' : Hp} {P P' : Addr → Prop} {β : List Addr} {b : Addr} {d : D} (f : Fx H P β H' P' β) (hb : H' b = H b) (h : OwnAt C H P β b d) : OwnAt C H' P' β b d := by
  cases d <;> first | exact h.elim | skip
  · obtain ⟨xs, q, r⟩ := h; exact ⟨xs, by rw [hb]; exact q, r.fx f⟩
  · obtain ⟨xs, q, r⟩ := h; exact ⟨xs, by rw [hb]; exact q, r.fx f⟩
theorem LR.frz {C : Ct} {cf : Cf} {oa : Nat → Option Addr} {P : Addr → Prop} {σ : L2.St} {H : Hp} {β : List Addr} {ρ : Rho} {S : Store} (L : LR C cf oa P σ H β ρ S) {a : Addr} {od : Obj} {xs : List (Key × V)} (e : H a = some (.dK xs)) (hp : ¬ P a) (hb : a ∉ β) (h0 : cf.H0 a = none) :
    LR C cf oa P σ (upd H a (.frz od (.dK xs))) β ρ S where
  len := L.len
  p := fun b h => ⟨by rw [upd_ne (show b ≠ a from fun z => hp (z ▸ h))]; exact (L.p b h).1, (L.p b h).2⟩
  sub := L.sub
  p0 := L.p0
  ext := {
    pre := L.ext.pre
    keep := fun b o h hn => by rw [upd_ne (fun z => by rw [z, h0] at h; cases h)]; exact L.ext.keep b o h hn
    fresh := L.ext.fresh
    tups := fun b xs h => (Fx.frz (P := P) (β := β) e).tups b xs (L.ext.tups b xs h)
    stay := fun b h => by rw [upd_ne (fun z => by rw [z, h0] at h; exact h rfl)]; exact L.ext.stay b h
    fzs := fun b o u h => by rw [upd_ne (fun z => by rw [z, h0] at h; cases h)]; exact L.ext.fzs b o u h }
  own := L.own
  inj := L.inj
  st := ⟨L.st.len, L.st.nd, fun n b so h1 h2 => (L.st.ok n b so h1 h2).fxs (Fx.frz e) (upd_ne fun z => hb (z ▸ List.mem_of_getElem? h1))⟩
  slot := fun i d h => let ⟨v, q1, q2⟩ := L.slot i d h; ⟨v, q1, q2.fx (Fx.frz e)⟩
  oslot := fun i d h => let ⟨b, q1, q2, q3⟩ := L.oslot i d h; ⟨b, q1, q2, q3.fxs (Fx.frz e) (upd_ne fun z => hp (z ▸ (L.own i b q1).1))⟩
  xslot := fun i x h => by
    obtain ⟨b, h1, oe, Ca, dd, vs, k1, k2, k3, k4, k5, k6, k7, k8⟩ := L.xslot i x h
    exact ⟨b, h1, oe, Ca, dd, vs, k1, k2, k3, k4, by rw [upd_ne (fun z => by rw [z, e] at k5; cases k5)]; exact k5, k6, k7, fun f y q => let ⟨v, q1, q2⟩ := k8 f y q; ⟨v, q1, q2.fx (Fx.frz e)⟩⟩
/-- a new dict that comes is frozen -/
def tFrz (t : TE) : TE := fun σ H Q => t σ H fun v H1 => Q v H1 ∨ ∃ a xs, v = .ref a ∧ H1 a = some (.dK xs) ∧ ∀ od, Q v (upd H1 a (.frz od (.dK xs)))
theorem pe_frz {t : TE} (h : PE X e t) : PE X e (tFrz t) := ⟨fun pins s σ H Q I hw => by
  refine wpAny_mono (h.run pins s σ H _ I hw) (fun u s1 hv => ?_) fun _ _ z => z
  obtain ⟨v, H1, I1, r, q⟩ := hv
  rcases q with q | ⟨a, xs, rfl, e, q⟩
  · exact ⟨v, H1, I1, r, q⟩
  · obtain ⟨od, I2⟩ := I1.lock e True.intro
    exact ⟨_, _, I2, r, q od⟩⟩
/-- a new container as a value -/
theorem pm_of (h : PN (ctOf X) W b X e ma) : PM (ctOf X) W b X e ma := PE_imp (pe_frz h) fun σ H Q h => by
  obtain ⟨cf, oa, P, β, ρ, S, L, h⟩ := h
  refine ⟨cf, oa, P, β, ρ, S, L, ?_⟩
  cases ea : ma ρ S with
  | stuck => rw [ea] at h; exact h
  | exc e S1 => rw [ea] at h; exact h
  | ok d S1 =>
    rw [ea] at h
    intro p H1 β1 e1 hn L1 o
    have L2 := L1.forget L.sub fun i a h => (L.own i a h).1
    cases d with
    | lst ds => exact .inl (h (.ref p) H1 β1 e1 L2 (own_rv o (L.npP hn) (L1.p p (.inr rfl)).2 ⟨_, rfl⟩))
    | dct ds =>
      obtain ⟨xs, q, r⟩ := o
      have nb := (L1.p p (.inr rfl)).2
      have h0 : cf.H0 p = none := by
        cases z : cf.H0 p with
        | none => rfl
        | some o => exact absurd hn (L.ext.stay p (by rw [z]; exact Option.some_ne_none _))
      refine .inr ⟨p, xs, rfl, q, fun od => ?_⟩
      have f : Fx H1 P β1 (upd H1 p (.frz od (.dK xs))) P β1 := Fx.frz q
      have sm : Same H1 (upd H1 p (.frz od (.dK xs))) → False ∨ True := fun _ => .inr trivial
      refine h (.ref p) _ β1 ⟨⟨e1.ext.pre, fun b o hb hnb => ?_, e1.ext.fresh, fun b ys hb => f.tups b ys (e1.ext.tups b ys hb), fun b hb => ?_, fun b o u hb => f.fz b o u (e1.ext.fzs b o u hb)⟩, fun hro => ?_⟩ (L2.frz q (L.npP hn) nb h0) (.dct (L.npP hn) nb ⟨od, upd_same⟩ ((r.less fun _ h => .inl h).fx f))
      · rw [upd_ne (fun z => by rw [z, hn] at hb; cases hb)]; exact e1.ext.keep b o hb hnb
      · rw [upd_ne (show b ≠ p from fun z => hb (z ▸ hn))]; exact e1.ext.stay b hb
      · obtain ⟨s1, s2, s3⟩ := e1.ro hro
        exact ⟨fun b o hb => by rw [upd_ne (fun z => by rw [z, hn] at hb; cases hb)]; exact s1 b o hb, s2, s3⟩
    | _ => exact o.elim
/-- on loan: what comes is flat -/
theorem flat_rv {C : Ct} {H : Hp} {P P' : Addr → Prop} {β : List Addr} {v : V} {d : D} (r : RV C H P β v d) (hf : flat d = true) : RV C H P' β v d := by
  cases r with
  | non => exact .non
  | bl b => exact .bl b
  | int i => exact .int i
  | str x => exact .str x
  | ty n => exact .ty n
  | ref h => exact .ref h
  | fn h k => exact .fn h k
  | _ => cases hf
theorem lent_get {ρ : Rho} {i : Nat} : (lent ρ)[i]? = (ρ[i]?).map fun s => match s with
  | .ow (.lst xs) => Sl.sh (.lst xs)
  | .ow _ => .un
  | s => s := by unfold lent; rw [List.getElem?_map] <;> rfl
theorem LR.lend {C : Ct} {cf : Cf} {oa : Nat → Option Addr} {P : Addr → Prop} {σ : L2.St} {H : Hp} {β : List Addr} {ρ : Rho} {S : Store} (L : LR C cf oa P σ H β ρ S) :
    LR C cf (fun _ => none) (fun a => P a ∧ ∀ i, oa i ≠ some a) σ H β (lent ρ) S where
  len := by unfold lent; rw [List.length_map]; exact L.len
  p := fun a h => L.p a h.1
  sub := fun a h => ⟨L.sub a h, fun i z => L.p0 a h (L.own i a z).2⟩
  p0 := L.p0
  ext := L.ext
  own := fun i a h => nomatch h
  inj := fun i j a h => nomatch h
  st := L.st.less fun _ h => h.1
  slot := fun i d h => by
    rw [lent_get] at h
    cases e : ρ[i]? with
    | none => rw [e] at h; cases h
    | some s =>
      rw [e] at h
      cases s with
      | un => cases h
      | ex x => cases h
      | sh x =>
        cases h
        obtain ⟨v, e1, r⟩ := L.slot i d e
        exact ⟨v, e1, r.less fun _ h => h.1⟩
      | ow x =>
        cases x with
        | lst ys =>
          cases h
          obtain ⟨a, e1, e2, r⟩ := L.oslot i _ e
          have na : ¬ (P a ∧ ∀ i, oa i ≠ some a) := fun z => z.2 i e1
          have nb : a ∉ β := (L.p a (L.own i a e1).1).2
          refine ⟨.ref a, e2, ?_⟩
          obtain ⟨xs, q, r⟩ := r
          exact .lst na nb (.inl q) (r.less fun _ h => h.1)
        | _ => cases h
  oslot := fun i d h => by
    rw [lent_get] at h
    cases e : ρ[i]? with
    | none => rw [e] at h; cases h
    | some s =>
      rw [e] at h
      cases s with
      | ow x => cases x <;> cases h
      | _ => cases h
  xslot := fun i d h => by
    rw [lent_get] at h
    cases e : ρ[i]? with
    | none => rw [e] at h; cases h
    | some s =>
      rw [e] at h
      cases s with
      | un => cases h
      | sh x => cases h
      | ow x => cases x <;> cases h
      | ex x =>
        cases h
        obtain ⟨a, e1, r⟩ := L.xslot i _ e
        exact ⟨a, e1, r.less fun _ h => h.1⟩
theorem pm_lend (h : PM (ctOf X) W true X e ma) : PM (ctOf X) W b X e (mLend ma) := PE_imp h fun σ H Q h => by
  obtain ⟨cf, oa, P, β, ρ, S, L, h⟩ := h
  refine ⟨cf, _, _, β, lent ρ, S, L.lend, ?_⟩
  unfold mLend at h
  cases ea : ma (lent ρ) S with
  | stuck => rw [ea] at h; exact h
  | exc e S1 => rw [ea] at h; exact h.elim
  | ok d S1 =>
    rw [ea] at h
    simp only at h
    intro v H1 β1 e1 L1 r
    obtain ⟨q1, q2, q3⟩ := e1.ro rfl
    subst q2 q3
    by_cases hf : flat d = true
    · rw [if_pos hf] at h
      exact h v H1 _ (Tr.same q1) (L.same q1) (flat_rv r hf)
    · rw [if_neg hf] at h; exact h.elim
theorem pb_lend {ka : BX} (h : PB (ctOf X) W true X e ka) : PB (ctOf X) W b X e (bLend ka) := PT_imp h fun σ H Q h => by
  obtain ⟨cf, oa, P, β, ρ, S, L, h⟩ := h
  refine ⟨cf, _, _, β, lent ρ, S, L.lend, ?_⟩
  unfold bLend at h
  cases ea : ka (lent ρ) S with
  | stuck => rw [ea] at h; exact h
  | exc e S1 => rw [ea] at h; exact h.elim
  | ok d S1 =>
    rw [ea] at h
    intro H1 β1 e1 L1
    obtain ⟨q1, q2, q3⟩ := e1.ro rfl
    subst q2 q3
    exact h H1 _ (Tr.same q1) (L.same q1)
/-- .. as a thing of the store -/
theorem pm_box (h : PN (ctOf X) W false X e ma) : PM (ctOf X) W false X e (mBox ma) := PE_imp h fun σ H Q h => by
  obtain ⟨cf, oa, P, β, ρ, S, L, h⟩ := h
  refine ⟨cf, oa, P, β, ρ, S, L, ?_⟩
  unfold mBox at h
  cases ea : ma ρ S with
  | stuck => rw [ea] at h; exact h
  | exc e S1 => rw [ea] at h; exact h
  | ok d S1 =>
    rw [ea] at h
    simp only [R.bind] at h
    intro p H1 β1 t1 hn L1 o
    have e1 := t1.ext
    have hb := (L1.p p (.inr rfl)).2
    -- the list at p is no longer kept apart, it is of the store
    have L2 := L1.forget L.sub fun i a h => (L.own i a h).1
    cases es : soOf d with
    | none => rw [es] at h; exact h.elim
    | some so =>
      rw [es] at h
      have nP : ¬ P p := L.npP hn
      have ext : Ext H β H1 (β1 ++ [p]) := by
        obtain ⟨γ, g⟩ := e1.pre
        refine ⟨⟨γ ++ [p], by rw [g, List.append_assoc]⟩, e1.keep, fun b hb => ?_, e1.tups, e1.stay, e1.fzs⟩
        rcases List.mem_append.mp hb with hb | hb
        · exact e1.fresh b hb
        · rw [List.mem_singleton.mp hb]; exact .inr hn
      -- the slots' and the store's values do not lean on p: they avoid it
      have more : ∀ {v : V} {x : D}, RV (ctOf X) H1 (fun b => P b ∨ b = p) β1 v x → RV (ctOf X) H1 P (β1 ++ [p]) v x := fun r => RV.toBox r
      have mores : ∀ {v : List V} {x : List D}, RVs (ctOf X) H1 (fun b => P b ∨ b = p) β1 v x → RVs (ctOf X) H1 P (β1 ++ [p]) v x := fun r => RVs.toBox r
      have morek : ∀ {v : List (Key × V)} {x : List (Key × D)}, RKs (ctOf X) H1 (fun b => P b ∨ b = p) β1 v x → RKs (ctOf X) H1 P (β1 ++ [p]) v x := fun r => RKs.toBox r
      have sok : ∀ {a : Addr} {s : SO}, SOK (ctOf X) H1 (fun b => P b ∨ b = p) β1 a s → SOK (ctOf X) H1 P (β1 ++ [p]) a s := fun {a s} q => by
        cases s with
        | lst ds => obtain ⟨xs, q, r⟩ := q; exact ⟨xs, q, mores r⟩
        | dct ds => obtain ⟨xs, q, r⟩ := q; exact ⟨xs, q, morek r⟩
        | ins c fs => obtain ⟨Ca, dx, vs, m, q, n, r⟩ := q; exact ⟨Ca, dx, vs, m, q, n, mores r⟩
        | lck ds => obtain ⟨od, xs, q, r⟩ := q; exact ⟨od, xs, q, morek r⟩
        | lkl ds => obtain ⟨od, xs, q, r⟩ := q; exact ⟨od, xs, q, mores r⟩
      have new : SOK (ctOf X) H1 P (β1 ++ [p]) p so := by
        cases d <;> first | (cases es; done) | skip
        · cases es; obtain ⟨xs, q, r⟩ := o; exact ⟨xs, q, mores r⟩
        · cases es; obtain ⟨xs, q, r⟩ := o; exact ⟨xs, q, morek r⟩
      have st : SRel (ctOf X) H1 P (β1 ++ [p]) (S1 ++ [so]) := by
        refine ⟨by simp [L1.st.len], ?_, fun n a sb h1 h2 => ?_⟩
        · rw [List.nodup_append]
          exact ⟨L1.st.nd, by simp, fun x hx y hy => by rw [List.mem_singleton.mp hy]; exact fun z => hb (z ▸ hx)⟩
        · by_cases hn : n < β1.length
          · rw [List.getElem?_append_left hn] at h1
            rw [List.getElem?_append_left (by rw [← L1.st.len]; exact hn)] at h2
            exact sok (L1.st.ok n a sb h1 h2)
          · have hl : n = β1.length := by
              have := (List.getElem?_eq_some_iff.mp h1).1
              simp at this; omega
            subst hl
            rw [List.getElem?_append_right (Nat.le_refl _)] at h1
            rw [L1.st.len, List.getElem?_append_right (Nat.le_refl _)] at h2
            simp at h1 h2
            subst h1; subst h2
            exact new
      have L3 : LR (ctOf X) cf oa P σ H1 (β1 ++ [p]) ρ (S1 ++ [so]) := by
        refine ⟨L1.len, fun a h => ⟨(L2.p a h).1, fun z => ?_⟩, L.sub, L.p0, ?_, L2.own, L1.inj, st, fun i x h => ?_, fun i x h => ?_, fun i x h => ?_⟩
        · rcases List.mem_append.mp z with z | z
          · exact (L2.p a h).2 z
          · exact nP (List.mem_singleton.mp z ▸ h)
        · exact L.ext.step ext
        · obtain ⟨v, q1, q2⟩ := L1.slot i x h
          exact ⟨v, q1, more q2⟩
        · obtain ⟨a, q1, q2, q3⟩ := L1.oslot i x h
          refine ⟨a, q1, q2, ?_⟩
          cases x <;> first | exact q3.elim | skip
          · obtain ⟨xs, q, r⟩ := q3; exact ⟨xs, q, mores r⟩
          · obtain ⟨xs, q, r⟩ := q3; exact ⟨xs, q, morek r⟩
        · obtain ⟨a, q1, oe, Ca, dd, vs, x1, x2, x3, x4, x5, x6, x7, x8⟩ := L1.xslot i x h
          have nd : dd ≠ p := fun z => by
            subst z
            cases so with
            | lst _ => obtain ⟨xs, q, _⟩ := new; rw [x5] at q; cases q
            | dct _ => obtain ⟨xs, q, _⟩ := new; rw [x5] at q; cases q
            | ins _ _ => obtain ⟨_, _, _, _, q, _⟩ := new; rw [x5] at q; cases q
            | lck _ => obtain ⟨_, _, q, _⟩ := new; rw [x5] at q; cases q
            | lkl _ => obtain ⟨_, _, q, _⟩ := new; rw [x5] at q; cases q
          exact ⟨a, q1, oe, Ca, dd, vs, x1, x2, x3, x4, x5, fun z => (List.mem_append.mp z).elim x6 fun z => nd (List.mem_singleton.mp z), fun z => x7 (.inl z), fun f y q => let ⟨v, r1, r2⟩ := x8 f y q; ⟨v, r1, more r2⟩⟩
      refine h (.ref p) H1 (β1 ++ [p]) ⟨ext, fun e => nomatch e⟩ L3 (.ref ?_)
      rw [← L1.st.len, List.getElem?_append_right (Nat.le_refl _)]
      simp
variable {x : Str} {p : Pos} {id T : String} {r : List V → Hp → VK → Prop} {f : Store → List D → Option D}
theorem pm_callB (hc : CallR X (.builtin id) r) (hf : FnM X r f) (hm : X.mg x = none) (hv : bootBuiltins x = some (.builtin id)) (ha : PAM (ctOf X) W b X (e :: es) mas)
    (hg : Gl X x := by rfl) (hn : x ≠ "__name__" := by decide) (hdb : (x == ("__debug__" : Str)) = false := by decide) (he : starEach (e :: es) X.env = (false, eval e X.env) :: starEach es X.env := by rfl) (hpl : (backTo pos (starEach es X.env)).any (·.1) = false := by rfl) :
    PM (ctOf X) W b X (.Call (.Name x p) (e :: es) [] pos) (mFun f mas) := PE_imp (pe_callB hc hg hm hv ha hn hdb he hpl) fun σ H Q h => amF hf h
theorem pn_callB (hc : CallR X (.builtin id) r) (hf : FnN X r f) (hm : X.mg x = none) (hv : bootBuiltins x = some (.builtin id)) (ha : PAM (ctOf X) W b X (e :: es) mas)
    (hg : Gl X x := by rfl) (hn : x ≠ "__name__" := by decide) (hdb : (x == ("__debug__" : Str)) = false := by decide) (he : starEach (e :: es) X.env = (false, eval e X.env) :: starEach es X.env := by rfl) (hpl : (backTo pos (starEach es X.env)).any (·.1) = false := by rfl) :
    PN (ctOf X) W b X (.Call (.Name x p) (e :: es) [] pos) (mFun f mas) := PE_imp (pe_callB hc hg hm hv ha hn hdb he hpl) fun σ H Q h => aoF hf h
theorem pm_callT (hc : CallR X (.type T) r) (hf : FnM X r f) (hm : X.mg x = none) (hv : bootBuiltins x = some (.type T)) (ha : PAM (ctOf X) W b X (e :: es) mas)
    (hg : Gl X x := by rfl) (hn : x ≠ "__name__" := by decide) (hdb : (x == ("__debug__" : Str)) = false := by decide) (he : starEach (e :: es) X.env = (false, eval e X.env) :: starEach es X.env := by rfl) (hpl : (backTo pos (starEach es X.env)).any (·.1) = false := by rfl) :
    PM (ctOf X) W b X (.Call (.Name x p) (e :: es) [] pos) (mFun f mas) := PE_imp (pe_callTy hc hg hm hv ha hn hdb he hpl) fun σ H Q h => amF hf h
theorem pn_callT (hc : CallR X (.type T) r) (hf : FnN X r f) (hm : X.mg x = none) (hv : bootBuiltins x = some (.type T)) (ha : PAM (ctOf X) W b X (e :: es) mas)
    (hg : Gl X x := by rfl) (hn : x ≠ "__name__" := by decide) (hdb : (x == ("__debug__" : Str)) = false := by decide) (he : starEach (e :: es) X.env = (false, eval e X.env) :: starEach es X.env := by rfl) (hpl : (backTo pos (starEach es X.env)).any (·.1) = false := by rfl) :
    PN (ctOf X) W b X (.Call (.Name x p) (e :: es) [] pos) (mFun f mas) := PE_imp (pe_callTy hc hg hm hv ha hn hdb he hpl) fun σ H Q h => aoF hf h
end
end Mi

/-! Mi4: tests, truth, conditional expressions, chains. -/
namespace Mi
open PySem PySem.Spec PyProof.Rows L2

def asB (d : D) : Option Bool := match d with
  | .bl b => some b
  | _ => none
/-- the items of a list, a list of the store too -/
def viewL (S : Store) : D → Option (List D)
  | .lst xs => some xs
  | .ref n => match S[n]? with
    | some (.lst xs) => some xs
    | some (.lkl xs) => some xs
    | _ => none
  | _ => none
def viewT : D → Option (List D)
  | .tup xs => some xs
  | _ => none
def viewK (S : Store) : D → Option (List (Key × D))
  | .dct xs => some xs
  | .ref n => match S[n]? with
    | some (.dct xs) => some xs
    | some (.lck xs) => some xs
    | _ => none
  | _ => none
def tru (S : Store) (d : D) : Option Bool := match d with
  | .non => some false
  | .bl b => some b
  | .int i => some (i != 0)
  | .str y => if y.length ≤ sizeLine then some ((y.length : Int) != 0) else none
  | .tup xs => some (!xs.isEmpty)
  | d => match viewL S d with
    | some xs => some (!xs.isEmpty)
    | none => match viewK S d with
      | some xs => some (!xs.isEmpty)
      | none => none
def bTru (a : EX) : BX := fun ρ S => (a ρ S).bind fun x S1 => R.opt (tru S1 x) S1
def bOf (a : EX) : BX := fun ρ S => (a ρ S).bind fun x S1 => R.opt (asB x) S1
def bAnd (a b : BX) : BX := fun ρ S => (a ρ S).bind fun x S1 => if x = true then b ρ S1 else .ok false S1
def bOr (a b : BX) : BX := fun ρ S => (a ρ S).bind fun x S1 => if x = true then .ok true S1 else b ρ S1
def bNot (a : BX) : BX := fun ρ S => (a ρ S).bind fun x S1 => .ok (!x) S1
def mIf (c : BX) (a b : EX) : EX := fun ρ S => (c ρ S).bind fun x S1 => if x = true then a ρ S1 else b ρ S1
def mAnd (a b : EX) : EX := fun ρ S => (a ρ S).bind fun x S1 => (R.opt (tru S1 x) S1).bind fun k S2 => if k = true then b ρ S2 else .ok x S2
def mOr (a b : EX) : EX := fun ρ S => (a ρ S).bind fun x S1 => (R.opt (tru S1 x) S1).bind fun k S2 => if k = true then .ok x S2 else b ρ S2
def mNot (a : EX) : EX := fun ρ S => (a ρ S).bind fun x S1 => (R.opt (tru S1 x) S1).bind fun k S2 => .ok (.bl (!k)) S2
/-- a < b < c -/
def mChain (f g : Store → D → D → Option D) (a b c : EX) : EX := fun ρ S => (a ρ S).bind fun x S1 => (b ρ S1).bind fun y S2 => (R.opt ((f S2 x y).bind asB) S2).bind fun k S3 =>
  if k = true then (c ρ S3).bind fun z S4 => R.opt (g S4 y z) S4 else .ok (.bl false) S3

section
variable {C : Ct} {H : Hp} {Z : Addr → Prop} {β : List Addr} {S : Store} {v : V} {d : D}
theorem sqL_of_rd {K : PySem.W.Frag} {a : Addr} {xs : List V} (h : Rd H a (.lst xs)) : SqL K H a xs := .inl h
theorem sqT_of_rd {K : PySem.W.Frag} {a : Addr} {xs : List V} (h : Rd H a (.tup xs)) : SqT K H a xs := .inl h
/-- a list seen -/
theorem RV.viewL (r : RV C H Z β v d) (s : SRel C H Z β S) {ds : List D} (h : Mi.viewL S d = some ds) : ∃ a xs, v = .ref a ∧ SqL C.K H a xs ∧ RVs C H Z β xs ds := by
  cases r with
  | lst hp hb hr hs => cases h; exact ⟨_, _, rfl, .inl hr, hs⟩
  | klst k hs => cases h; exact ⟨_, _, rfl, .inr k, hs⟩
  | ref hn =>
    simp only [Mi.viewL] at h
    split at h
    · rename_i xs e
      cases h
      have q := s.ok _ _ _ hn e
      obtain ⟨us, q1, q2⟩ := q
      exact ⟨_, _, rfl, .inl (.inl q1), q2⟩
    · rename_i xs e
      cases h
      obtain ⟨od, us, q1, q2⟩ := s.ok _ _ _ hn e
      exact ⟨_, _, rfl, .inl (.inr ⟨od, q1⟩), q2⟩
    · cases h
  | _ => cases h
theorem RV.viewT (r : RV C H Z β v d) {ds : List D} (h : Mi.viewT d = some ds) : ∃ a xs, v = .ref a ∧ SqT C.K H a xs ∧ RVs C H Z β xs ds := by
  cases r with
  | tup hr hs => cases h; exact ⟨_, _, rfl, .inl hr, hs⟩
  | ktup k hs => cases h; exact ⟨_, _, rfl, .inr k, hs⟩
  | _ => cases h
theorem RV.viewK (r : RV C H Z β v d) (s : SRel C H Z β S) {ds : List (Key × D)} (h : Mi.viewK S d = some ds) : ∃ a xs, v = .ref a ∧ Rd H a (.dK xs) ∧ RKs C H Z β xs ds := by
  cases r with
  | dct hp hb hr hs => cases h; exact ⟨_, _, rfl, hr.rd, hs⟩
  | ref hn =>
    simp only [Mi.viewK] at h
    split at h
    · rename_i xs e
      cases h
      have q := s.ok _ _ _ hn e
      obtain ⟨us, q1, q2⟩ := q
      exact ⟨_, _, rfl, .inl q1, q2⟩
    · rename_i xs e
      cases h
      obtain ⟨od, us, q1, q2⟩ := s.ok _ _ _ hn e
      exact ⟨_, _, rfl, .inr ⟨od, q1⟩, q2⟩
    · cases h
  | _ => cases h
end

section
variable {X : Cx} {W : WX} {b : Bool}
/-- truth, a dict that a loop has locked too -/
def TruVR (K : PySem.W.Frag) (x : V) (H : Hp) (k : Bool) : Prop := TruV K x H k ∨ ∃ p kvs, x = .ref p ∧ Rd H p (.dK kvs) ∧ k = !kvs.isEmpty
theorem tru_okR : TruR X (fun x H Q => ∃ k, TruVR X.K x H k ∧ Q k H) := by
  intro pins s σ H x v Q I rx h
  obtain ⟨k, e, q⟩ := h
  rcases e with e | ⟨p, kvs, rfl, hr, rfl⟩
  · exact tru_ok pins s σ H x v Q I rx ⟨k, e, q⟩
  · cases rx
    obtain ⟨hz, hS, vs, r, m⟩ := dk_rd I.hok hr
    have hl := line63
    have hlen : kvs.length = vs.length := Paired.length r
    exact wpAny_truthy_dict hS m (by omega) ⟨H, I.tok _, by rw [isEmpty_kv r]; exact q⟩
theorem isEmpty_rvs {C : Ct} {H : Hp} {Z : Addr → Prop} {β : List Addr} {xs : List V} {ds : List D} (h : RVs C H Z β xs ds) : xs.isEmpty = ds.isEmpty := by
  cases h <;> rfl
theorem isEmpty_rks {C : Ct} {H : Hp} {Z : Addr → Prop} {β : List Addr} {xs : List (Key × V)} {ds : List (Key × D)} (h : RKs C H Z β xs ds) : xs.isEmpty = ds.isEmpty := by
  cases h <;> rfl
theorem truM {Z : Addr → Prop} {H : Hp} {β : List Addr} {S : Store} {x : V} {d : D} {k : Bool} (A : At (ctOf X) H Z β S) (r : RV (ctOf X) H Z β x d) (h : tru S d = some k) : TruVR X.K x H k := by
  have tail : ∀ {d : D}, RV (ctOf X) H Z β x d → (match viewL S d with
    | some xs => some (!xs.isEmpty)
    | none => match viewK S d with
      | some xs => some (!xs.isEmpty)
      | none => none) = some k → TruVR X.K x H k := fun {d} r h => by
    cases e : viewL S d with
    | some ds =>
      rw [e] at h
      cases h
      obtain ⟨a, xs, rfl, q1, q2⟩ := r.viewL A.st e
      exact .inl (.inl ⟨xs, q1, by rw [isEmpty_rvs q2]⟩)
    | none =>
      rw [e] at h
      cases e2 : viewK S d with
      | none => rw [e2] at h; cases h
      | some ds =>
        rw [e2] at h
        cases h
        obtain ⟨a, xs, rfl, q1, q2⟩ := r.viewK A.st e2
        exact .inr ⟨a, xs, rfl, q1, by rw [isEmpty_rks q2]⟩
  unfold tru at h
  cases d with
  | non => cases r; cases h; exact .inl rfl
  | bl b => cases r; cases h; exact .inl rfl
  | int i => cases r; cases h; exact .inl rfl
  | str y =>
    cases r
    simp only at h
    split at h
    · cases h; exact .inl ⟨by assumption, rfl⟩
    · cases h
  | tup xs =>
    cases h
    obtain ⟨a, us, rfl, q1, q2⟩ := r.viewT rfl
    exact .inl (.inr (.inl ⟨us, q1, by rw [isEmpty_rvs q2]⟩))
  | lst xs => exact tail r h
  | dct xs => exact tail r h
  | ref n => exact tail r h
  | ty n => exact tail r h
  | fn n => exact tail r h

theorem bm_em {m : EX} {σ : L2.St} {H : Hp} {Q : Bool → Hp → Prop} (h : BM (ctOf X) W b (bOf m) σ H Q) : EM (ctOf X) W b m σ H fun x H' => ∃ k, x = .bl k ∧ Q k H' := by
  obtain ⟨cf, oa, P, β, ρ, S, L, h⟩ := h
  refine ⟨cf, oa, P, β, ρ, S, L, ?_⟩
  unfold bOf at h
  cases ea : m ρ S with
  | stuck => rw [ea] at h; exact h
  | exc e S1 => rw [ea] at h; exact h
  | ok d S1 =>
    rw [ea] at h
    intro v H1 β1 e1 L1 r
    cases d with
    | bl k => cases r; exact ⟨k, rfl, h H1 β1 e1 L1⟩
    | _ => exact h.elim
theorem bm_tru {m : EX} {σ : L2.St} {H : Hp} {Q : Bool → Hp → Prop} (h : BM (ctOf X) W b (bTru m) σ H Q) : EM (ctOf X) W b m σ H fun x H' => ∃ k, TruVR X.K x H' k ∧ Q k H' := by
  obtain ⟨cf, oa, P, β, ρ, S, L, h⟩ := h
  refine ⟨cf, oa, P, β, ρ, S, L, ?_⟩
  unfold bTru at h
  cases ea : m ρ S with
  | stuck => rw [ea] at h; exact h
  | exc e S1 => rw [ea] at h; exact h
  | ok d S1 =>
    rw [ea] at h
    intro v H1 β1 e1 L1 r
    simp only [R.bind] at h
    cases et : tru S1 d with
    | none => rw [et] at h; exact h.elim
    | some k => rw [et] at h; exact ⟨k, truM L1.at r et, h H1 β1 e1 L1⟩

variable {a b' c e : Expr} {es rest : List Expr} {ma mb mc : EX} {ka kb : BX} {mas : AX} {pos : Pos}
theorem pb_cmp {op : CmpOp} {r : R2} {f : Store → D → D → Option D} (ho : OpR X (compareOp op) r) (hm : OpM X r f) (ha : PM (ctOf X) W b X a ma) (hb : PM (ctOf X) W b X b' mb) (hk : behindInMarks op b' = false := by first | exact nobehind _ (by decide) (by decide) | rfl) :
    PB (ctOf X) W b X (.Compare a [op] [b'] pos) (bOf (mBin f ma mb)) := PT_imp (pt_cmpR ho ha hb hk) fun σ H Q h => em2 hm (bm_em h)
/-- a test that is the truth of a value -/
theorem pb_val (h : PM (ctOf X) W b X e ma) (he : ∀ whole, isTrue e X.env whole = (do let v ← whole; standAt e.pos; holding [v] (truthy v)) := by intro _; rfl) : PB (ctOf X) W b X e (bTru ma) := by
  refine PT_imp (t := fun σ H Q => EM (ctOf X) W b ma σ H fun x H' => ∃ k, TruVR X.K x H' k ∧ Q k H') ⟨fun pins s σ H Q I h' => ?_⟩ fun σ H Q h => bm_tru h
  exact isTrue_plain (thn (h.run pins s σ H _ I h') fun v s1 ⟨x, H1, I1, r1, q1⟩ => tru_okR pins s1 σ H1 x v Q I1 r1 q1) (he _)
structure PBW (C : Ct) (W : WX) (b : Bool) (X : Cx) (e : Expr) (m : BX) : Prop where
  pw : PW X e (BM C W b m)
theorem PW_imp {X : Cx} {e : Expr} {t t' : TT} (h : PW X e t) (i : ∀ σ H Q, t' σ H Q → t σ H Q) : PW X e t' := ⟨fun wh pins s σ H Q I hw => h.run wh pins s σ H Q I (i σ H Q hw)⟩
theorem bm2 {k1 k2 : BX} {σ : L2.St} {H : Hp} {Q : Bool → Hp → Prop} (h : BM (ctOf X) W b (bAnd k1 k2) σ H Q) : tAnd (BM (ctOf X) W b k1) (BM (ctOf X) W b k2) σ H Q := by
  obtain ⟨cf, oa, P, β, ρ, S, L, h⟩ := h
  refine ⟨cf, oa, P, β, ρ, S, L, ?_⟩
  unfold bAnd at h
  cases ea : k1 ρ S with
  | stuck => rw [ea] at h; exact h
  | exc e S1 => rw [ea] at h; exact h
  | ok k S1 =>
    rw [ea] at h
    simp only [R.bind] at h
    intro H1 β1 e1 L1
    cases k with
    | false => rw [if_neg Bool.false_ne_true] at h ⊢; exact h H1 β1 e1 L1
    | true =>
      rw [if_pos rfl] at h ⊢
      refine ⟨cf, oa, P, β1, ρ, S1, L1, ?_⟩
      cases eb : k2 ρ S1 with
      | stuck => rw [eb] at h; exact h
      | exc e S2 => rw [eb] at h; intro cls d H' β' e2 L2 ex; exact h cls d H' β' (e1.trans e2) L2 ex
      | ok k' S2 => rw [eb] at h; intro H2 β2 e2 L2; exact h H2 β2 (e1.trans e2) L2
theorem bm2o {k1 k2 : BX} {σ : L2.St} {H : Hp} {Q : Bool → Hp → Prop} (h : BM (ctOf X) W b (bOr k1 k2) σ H Q) : tOr (BM (ctOf X) W b k1) (BM (ctOf X) W b k2) σ H Q := by
  obtain ⟨cf, oa, P, β, ρ, S, L, h⟩ := h
  refine ⟨cf, oa, P, β, ρ, S, L, ?_⟩
  unfold bOr at h
  cases ea : k1 ρ S with
  | stuck => rw [ea] at h; exact h
  | exc e S1 => rw [ea] at h; exact h
  | ok k S1 =>
    rw [ea] at h
    simp only [R.bind] at h
    intro H1 β1 e1 L1
    cases k with
    | true => rw [if_pos rfl] at h ⊢; exact h H1 β1 e1 L1
    | false =>
      rw [if_neg Bool.false_ne_true] at h ⊢
      refine ⟨cf, oa, P, β1, ρ, S1, L1, ?_⟩
      cases eb : k2 ρ S1 with
      | stuck => rw [eb] at h; exact h
      | exc e S2 => rw [eb] at h; intro cls d H' β' e2 L2 ex; exact h cls d H' β' (e1.trans e2) L2 ex
      | ok k' S2 => rw [eb] at h; intro H2 β2 e2 L2; exact h H2 β2 (e1.trans e2) L2
theorem pbw_and1 (ha : PB (ctOf X) W b X a ka) : PBW (ctOf X) W b X (.BoolOp .And [a] pos) ka := ⟨pw_and1 ha⟩
theorem pbw_or1 (ha : PB (ctOf X) W b X a ka) : PBW (ctOf X) W b X (.BoolOp .Or [a] pos) ka := ⟨pw_or1 ha⟩
theorem pbw_and (ha : PB (ctOf X) W b X a ka) (hb : PBW (ctOf X) W b X (.BoolOp .And (b' :: rest) pos) kb) : PBW (ctOf X) W b X (.BoolOp .And (a :: b' :: rest) pos) (bAnd ka kb) :=
  ⟨PW_imp (pw_and ha hb.pw) fun σ H Q h => bm2 h⟩
theorem pbw_or (ha : PB (ctOf X) W b X a ka) (hb : PBW (ctOf X) W b X (.BoolOp .Or (b' :: rest) pos) kb) : PBW (ctOf X) W b X (.BoolOp .Or (a :: b' :: rest) pos) (bOr ka kb) :=
  ⟨PW_imp (pw_or ha hb.pw) fun σ H Q h => bm2o h⟩
theorem pb_w (h : PBW (ctOf X) W b X e ka) : PB (ctOf X) W b X e ka := h.pw.pt
theorem pb_not (h : PB (ctOf X) W b X a ka) : PB (ctOf X) W b X (.UnaryOp .Not a pos) (bNot ka) := PT_imp (pt_not h) fun σ H Q h => by
  obtain ⟨cf, oa, P, β, ρ, S, L, h⟩ := h
  refine ⟨cf, oa, P, β, ρ, S, L, ?_⟩
  unfold bNot at h
  cases ea : ka ρ S with
  | stuck => rw [ea] at h; exact h
  | exc e S1 => rw [ea] at h; exact h
  | ok k S1 => rw [ea] at h; exact h
theorem pm_ifE (hc : PB (ctOf X) W b X c ka) (ha : PM (ctOf X) W b X a ma) (hb : PM (ctOf X) W b X b' mb) : PM (ctOf X) W b X (.IfExp c a b' pos) (mIf ka ma mb) := PE_imp (pe_ifExp hc ha hb) fun σ H Q h => by
  obtain ⟨cf, oa, P, β, ρ, S, L, h⟩ := h
  refine ⟨cf, oa, P, β, ρ, S, L, ?_⟩
  unfold mIf at h
  cases ea : ka ρ S with
  | stuck => rw [ea] at h; exact h
  | exc e S1 => rw [ea] at h; exact h
  | ok k S1 =>
    rw [ea] at h
    simp only [R.bind] at h
    intro H1 β1 e1 L1
    cases k with
    | true =>
      rw [if_pos rfl] at h ⊢
      refine ⟨cf, oa, P, β1, ρ, S1, L1, ?_⟩
      cases eb : ma ρ S1 with
      | stuck => rw [eb] at h; exact h
      | exc e S2 => rw [eb] at h; intro cls d H' β' e2 L2 ex; exact h cls d H' β' (e1.trans e2) L2 ex
      | ok d S2 => rw [eb] at h; intro v H2 β2 e2 L2 r; exact h v H2 β2 (e1.trans e2) L2 r
    | false =>
      rw [if_neg Bool.false_ne_true] at h ⊢
      refine ⟨cf, oa, P, β1, ρ, S1, L1, ?_⟩
      cases eb : mb ρ S1 with
      | stuck => rw [eb] at h; exact h
      | exc e S2 => rw [eb] at h; intro cls d H' β' e2 L2 ex; exact h cls d H' β' (e1.trans e2) L2 ex
      | ok d S2 => rw [eb] at h; intro v H2 β2 e2 L2 r; exact h v H2 β2 (e1.trans e2) L2 r
/-! and, or, not as values -/
def tOrR (K : PySem.W.Frag) (ta tb : TE) : TE := fun σ H Q => ta σ H fun x H1 => ∃ k, TruVR K x H1 k ∧ if k = true then Q x H1 else tb σ H1 Q
def tAndR (K : PySem.W.Frag) (ta tb : TE) : TE := fun σ H Q => ta σ H fun x H1 => ∃ k, TruVR K x H1 k ∧ if k = true then tb σ H1 Q else Q x H1
def tNotR (K : PySem.W.Frag) (ta : TE) : TE := fun σ H Q => ta σ H fun x H1 => ∃ k, TruVR K x H1 k ∧ Q (.bl (!k)) H1
theorem pe_orR {ta tb : TE} (ha : PE X a ta) (hb : PE X (.BoolOp .Or (b' :: rest) pos) tb) : PE X (.BoolOp .Or (a :: b' :: rest) pos) (tOrR X.K ta tb) := by
  refine ⟨fun pins s σ H Q I h => ?_⟩
  refine BoolOp_or (thn (ha.run pins s σ H _ I h) fun v s1 ⟨x, H1, I1, r1, q1⟩ => ?_)
  obtain ⟨k, e, q1⟩ := q1
  refine thn (tru_okR pins s1 σ H1 x v (fun c H2 => c = k ∧ H2 = H1) I1 r1 ⟨k, e, rfl, rfl⟩) fun c s2 hc => ?_
  obtain ⟨H2, I2, e1, e2⟩ := hc
  rw [e2] at I2
  rw [← e1] at q1
  cases c with
  | true => exact ⟨x, H1, I2, r1, q1⟩
  | false => exact hb.run pins s2 σ H1 Q I2 q1
theorem pe_andR {ta tb : TE} (ha : PE X a ta) (hb : PE X (.BoolOp .And (b' :: rest) pos) tb) : PE X (.BoolOp .And (a :: b' :: rest) pos) (tAndR X.K ta tb) := by
  refine ⟨fun pins s σ H Q I h => ?_⟩
  refine BoolOp_and (thn (ha.run pins s σ H _ I h) fun v s1 ⟨x, H1, I1, r1, q1⟩ => ?_)
  obtain ⟨k, e, q1⟩ := q1
  refine thn (tru_okR pins s1 σ H1 x v (fun c H2 => c = k ∧ H2 = H1) I1 r1 ⟨k, e, rfl, rfl⟩) fun c s2 hc => ?_
  obtain ⟨H2, I2, e1, e2⟩ := hc
  rw [e2] at I2
  rw [← e1] at q1
  cases c with
  | true => exact hb.run pins s2 σ H1 Q I2 q1
  | false => exact ⟨x, H1, I2, r1, q1⟩
theorem pe_notR {ta : TE} (ha : PE X a ta) : PE X (.UnaryOp .Not a pos) (tNotR X.K ta) := by
  refine ⟨fun pins s σ H Q I h => ?_⟩
  refine UnaryOp_ (thn (ha.run pins s σ H _ I h) fun v s1 ⟨x, H1, I1, r1, q1⟩ => ?_)
  obtain ⟨k, e, q1⟩ := q1
  exact not_of (thn (tru_okR pins s1 σ H1 x v (fun c H2 => Q (.bl (!c)) H2) I1 r1 ⟨k, e, q1⟩) fun c s2 ⟨H2, I2, q2⟩ => ⟨.bl (!c), H2, I2, rfl, q2⟩)
theorem pm_one {op : BoolOp} (h : PM (ctOf X) W b X a ma) : PM (ctOf X) W b X (.BoolOp op [a] pos) ma := pe_one h
theorem pm_or (ha : PM (ctOf X) W b X a ma) (hb : PM (ctOf X) W b X (.BoolOp .Or (b' :: rest) pos) mb) : PM (ctOf X) W b X (.BoolOp .Or (a :: b' :: rest) pos) (mOr ma mb) := PE_imp (pe_orR ha hb) fun σ H Q h => by
  obtain ⟨cf, oa, P, β, ρ, S, L, h⟩ := h
  refine ⟨cf, oa, P, β, ρ, S, L, ?_⟩
  unfold mOr at h
  cases ea : ma ρ S with
  | stuck => rw [ea] at h; exact h
  | exc e S1 => rw [ea] at h; exact h
  | ok d S1 =>
    rw [ea] at h
    simp only [R.bind] at h
    intro v H1 β1 e1 L1 r
    cases et : tru S1 d with
    | none => rw [et] at h; exact h.elim
    | some k =>
      rw [et] at h
      simp only [R.opt] at h
      refine ⟨k, truM L1.at r et, ?_⟩
      cases k with
      | true => rw [if_pos rfl] at h ⊢; exact h v H1 β1 e1 L1 r
      | false =>
        rw [if_neg Bool.false_ne_true] at h ⊢
        refine ⟨cf, oa, P, β1, ρ, S1, L1, ?_⟩
        cases eb : mb ρ S1 with
        | stuck => rw [eb] at h; exact h
        | exc e S2 => rw [eb] at h; intro cls d H' β' e2 L2 ex; exact h cls d H' β' (e1.trans e2) L2 ex
        | ok d S2 => rw [eb] at h; intro v H2 β2 e2 L2 r; exact h v H2 β2 (e1.trans e2) L2 r
theorem pm_and (ha : PM (ctOf X) W b X a ma) (hb : PM (ctOf X) W b X (.BoolOp .And (b' :: rest) pos) mb) : PM (ctOf X) W b X (.BoolOp .And (a :: b' :: rest) pos) (mAnd ma mb) := PE_imp (pe_andR ha hb) fun σ H Q h => by
  obtain ⟨cf, oa, P, β, ρ, S, L, h⟩ := h
  refine ⟨cf, oa, P, β, ρ, S, L, ?_⟩
  unfold mAnd at h
  cases ea : ma ρ S with
  | stuck => rw [ea] at h; exact h
  | exc e S1 => rw [ea] at h; exact h
  | ok d S1 =>
    rw [ea] at h
    simp only [R.bind] at h
    intro v H1 β1 e1 L1 r
    cases et : tru S1 d with
    | none => rw [et] at h; exact h.elim
    | some k =>
      rw [et] at h
      simp only [R.opt] at h
      refine ⟨k, truM L1.at r et, ?_⟩
      cases k with
      | false => rw [if_neg Bool.false_ne_true] at h ⊢; exact h v H1 β1 e1 L1 r
      | true =>
        rw [if_pos rfl] at h ⊢
        refine ⟨cf, oa, P, β1, ρ, S1, L1, ?_⟩
        cases eb : mb ρ S1 with
        | stuck => rw [eb] at h; exact h
        | exc e S2 => rw [eb] at h; intro cls d H' β' e2 L2 ex; exact h cls d H' β' (e1.trans e2) L2 ex
        | ok d S2 => rw [eb] at h; intro v H2 β2 e2 L2 r; exact h v H2 β2 (e1.trans e2) L2 r
theorem pm_not (ha : PM (ctOf X) W b X a ma) : PM (ctOf X) W b X (.UnaryOp .Not a pos) (mNot ma) := PE_imp (pe_notR ha) fun σ H Q h => by
  obtain ⟨cf, oa, P, β, ρ, S, L, h⟩ := h
  refine ⟨cf, oa, P, β, ρ, S, L, ?_⟩
  unfold mNot at h
  cases ea : ma ρ S with
  | stuck => rw [ea] at h; exact h
  | exc e S1 => rw [ea] at h; exact h
  | ok d S1 =>
    rw [ea] at h
    simp only [R.bind] at h
    intro v H1 β1 e1 L1 r
    cases et : tru S1 d with
    | none => rw [et] at h; exact h.elim
    | some k =>
      rw [et] at h
      exact ⟨k, truM L1.at r et, h _ H1 β1 e1 L1 (.bl _)⟩
theorem chain_imp {f g : Store → D → D → Option D} {r r' : R2} {σ : L2.St} {H : Hp} {Q : VK} (hf : OpM X r f) (hg : OpM X r' g) (h : EM (ctOf X) W b (mChain f g ma mb mc) σ H Q) :
    tChain r r' (EM (ctOf X) W b ma) (EM (ctOf X) W b mb) (EM (ctOf X) W b mc) σ H Q := by
  obtain ⟨cf, oa, P, β, ρ, S, L, h⟩ := h
  refine ⟨cf, oa, P, β, ρ, S, L, ?_⟩
  unfold mChain at h
  cases ea : ma ρ S with
  | stuck => rw [ea] at h; exact h
  | exc e S1 => rw [ea] at h; exact h
  | ok dx S1 =>
    rw [ea] at h
    simp only [R.bind] at h
    intro x H1 β1 e1 L1 rx
    refine ⟨cf, oa, P, β1, ρ, S1, L1, ?_⟩
    cases eb : mb ρ S1 with
    | stuck => rw [eb] at h; exact h
    | exc e S2 => rw [eb] at h; intro cls d H' β' e2 L2 ex; exact h cls d H' β' (e1.trans e2) L2 ex
    | ok dy S2 =>
      rw [eb] at h
      simp only [R.bind] at h
      intro y H2 β2 e2 L2 ry
      cases ef : f S2 dx dy with
      | none => rw [ef] at h; exact h.elim
      | some dk =>
        rw [ef] at h
        refine hf P H2 β2 S2 x y dx dy dk _ L2.at (rx.mono e2.ext) ry ef fun v H3 e3 r3 => ?_
        cases dk with
        | bl k =>
          cases r3
          refine ⟨k, rfl, ?_⟩
          simp only [asB, Option.bind, R.opt] at h
          cases k with
          | false => rw [if_neg Bool.false_ne_true] at h ⊢; exact h _ H3 β2 (e1.trans (e2.trans (Tr.same e3))) (L2.same e3) (.bl _)
          | true =>
            rw [if_pos rfl] at h ⊢
            have L3 := L2.same e3
            refine ⟨cf, oa, P, β2, ρ, S2, L3, ?_⟩
            cases ec : mc ρ S2 with
            | stuck => rw [ec] at h; exact h
            | exc e S4 => rw [ec] at h; intro cls d H' β' e4 L4 ex; exact h cls d H' β' (e1.trans (e2.trans ((Tr.same e3).trans e4))) L4 ex
            | ok dz S4 =>
              rw [ec] at h
              simp only [R.bind] at h
              intro z H4 β4 e4 L4 rz
              cases eg : g S4 dy dz with
              | none => rw [eg] at h; exact h.elim
              | some dw =>
                rw [eg] at h
                exact hg P H4 β4 S4 y z dy dz dw Q L4.at ((ry.mono (Ext.same e3)).mono e4.ext) rz eg fun v H5 e5 r5 =>
                  h v H5 β4 (e1.trans (e2.trans ((Tr.same e3).trans (e4.trans (Tr.same e5))))) (L4.same e5) r5
        | _ => exact h.elim
theorem pm_chain {op op' : CmpOp} {f g : Store → D → D → Option D} {r r' : R2} (ho : OpR X (compareOp op) r) (hf : OpM X r f) (ho' : OpR X (compareOp op') r') (hg : OpM X r' g) (ha : PM (ctOf X) W b X a ma) (hb : PM (ctOf X) W b X b' mb) (hc : PM (ctOf X) W b X c mc)
    (hm : lastMarks [op, op'] [b', c] = false := by with_unfolding_all rfl) : PM (ctOf X) W b X (.Compare a [op, op'] [b', c] pos) (mChain f g ma mb mc) := PE_imp (pe_chain ho ho' ha hb hc hm) fun σ H Q h => chain_imp hf hg h
theorem pb_chain {op op' : CmpOp} {f g : Store → D → D → Option D} {r r' : R2} (ho : OpR X (compareOp op) r) (hf : OpM X r f) (ho' : OpR X (compareOp op') r') (hg : OpM X r' g) (ha : PM (ctOf X) W b X a ma) (hb : PM (ctOf X) W b X b' mb) (hc : PM (ctOf X) W b X c mc)
    (hm : lastMarks [op, op'] [b', c] = false := by with_unfolding_all rfl) : PB (ctOf X) W b X (.Compare a [op, op'] [b', c] pos) (bOf (mChain f g ma mb mc)) := PT_imp (pt_chain ho ho' ha hb hc hm) fun σ H Q h => chain_imp hf hg (bm_em h)
end
end Mi

/-! Mi5: statements, targets, loops over lists. -/
namespace Mi
open PySem PySem.Spec PyProof.Rows L2

/-! ### the pure side -/
def R.st {α : Type} (r : R α) (ρ : Rho) (k : α → Store → SR) : SR := match r with
  | .ok a S => k a S
  | .exc e S => .exc e ρ S
  | .stuck => .stuck
def sNil : SX := fun ρ S => .nx ρ S
def sSeq (s t : SX) : SX := fun ρ S => match s ρ S with
  | .nx ρ' S' => t ρ' S'
  | r => r
def sBreak : SX := fun ρ S => .bk ρ S
def sCont : SX := fun ρ S => .ct ρ S
def sExpr (a : EX) : SX := fun ρ S => (a ρ S).st ρ fun _ S' => .nx ρ S'
def sRet (a : EX) : SX := fun ρ S => (a ρ S).st ρ fun d S' => .rt d S'
def sRetN : SX := fun _ S => .rt .non S
/-- return x: the slot's own container goes with it -/
def sRetV (i : Nat) : SX := fun ρ S => match ρ[i]? with
  | some (Sl.sh d) => .rt d S
  | some (Sl.ow d) => .rt d S
  | _ => .stuck
def sIf (c : BX) (s t : SX) : SX := fun ρ S => (c ρ S).st ρ fun k S' => if k = true then s ρ S' else t ρ S'
def sSet (i : Nat) (a : EX) : SX := fun ρ S => (a ρ S).st ρ fun d S' => .nx (ρ.set i (.sh d)) S'
def sOwn (i : Nat) (a : EX) : SX := fun ρ S => (a ρ S).st ρ fun d S' => .nx (ρ.set i (.ow d)) S'
/-- from here on the slot's container may be known elsewhere -/
def shareSl : Option Sl → Option Sl
  | some (Sl.ow d) => some (.sh d)
  | _ => none
def sShare (i : Nat) (s : SX) : SX := fun ρ S => match ρ[i]? with
  | some (Sl.ow d) => s (ρ.set i (.sh d)) S
  | _ => s ρ S
abbrev GX := D → Rho → Store → Option (Rho × Store)
def gSet (i : Nat) : GX := fun d ρ S => some (ρ.set i (.sh d), S)
abbrev GXs := List D → Rho → Store → Option (Rho × Store)
def gsNil : GXs := fun ds ρ S => match ds with
  | [] => some (ρ, S)
  | _ => none
def gsCons (g : GX) (r : GXs) : GXs := fun ds ρ S => match ds with
  | d :: t => (g d ρ S).bind fun p => r t p.1 p.2
  | [] => none
def gUnp (g : GXs) : GX := fun d ρ S => (viewT d).bind fun ds => g ds ρ S
def sAsg (a : EX) (g : GX) : SX := fun ρ S => (a ρ S).st ρ fun d S' => match g d ρ S' with
  | some (ρ', S'') => .nx ρ' S''
  | none => .stuck
/-- a loop over known items -/
def forL (g : GX) (body : SX) : List D → SX
  | [], ρ, S => .nx ρ S
  | d :: ds, ρ, S => match g d ρ S with
    | none => .stuck
    | some (ρ1, S1) => match body ρ1 S1 with
      | .nx ρ' S' => forL g body ds ρ' S'
      | .ct ρ' S' => forL g body ds ρ' S'
      | .bk ρ' S' => .nx ρ' S'
      | r => r
def sFor (it : AX) (g : GX) (body : SX) : SX := fun ρ S => (it ρ S).st ρ fun ds S' => forL g body ds ρ S'
/-- while, at most n turns -/
def whileN (c : BX) (body : SX) : Nat → SX
  | 0, _, _ => .stuck
  | n + 1, ρ, S => (c ρ S).st ρ fun k S1 => if k = true then (match body ρ S1 with
      | .nx ρ' S' => whileN c body n ρ' S'
      | .ct ρ' S' => whileN c body n ρ' S'
      | .bk ρ' S' => .nx ρ' S'
      | r => r) else .nx ρ S1
def sWhile (n : Nat) (c : BX) (body : SX) : SX := whileN c body n
/-- a def's body as a function of its arguments; n: how many slots -/
def mDef (n : Nat) (body : SX) : FX := fun ds S => match body (ds.map Sl.sh ++ List.replicate (n - ds.length) Sl.un) S with
  | .nx _ S' => .ok .non S'
  | .rt d S' => .ok d S'
  | .exc e _ S' => .exc e S'
  | _ => .stuck

/-! ### soundness -/
section
variable {C : Ct} {cf : Cf} {oa : Nat → Option Addr} {P P' : Addr → Prop} {σ : L2.St} {H H' : Hp} {β β' : List Addr} {ρ : Rho} {S S' : Store}
/-- a slot is set -/
theorem LR.set (L : LR C cf oa P σ H β ρ S) {i : Nat} {v : V} {d : D} (r : RV C H P β v d) : LR C cf (fun j => if j = i then none else oa j) P (σ.set i (some v)) H β (ρ.set i (.sh d)) S where
  len := by rw [List.length_set, List.length_set]; exact L.len
  p := L.p
  sub := L.sub
  p0 := L.p0
  ext := L.ext
  own := fun j a h => by
    by_cases e : j = i
    · rw [if_pos e] at h; cases h
    · rw [if_neg e] at h; exact L.own j a h
  inj := fun j k a h1 h2 => by
    by_cases e : j = i
    · rw [if_pos e] at h1; cases h1
    · by_cases e2 : k = i
      · rw [if_pos e2] at h2; cases h2
      · rw [if_neg e] at h1; rw [if_neg e2] at h2; exact L.inj j k a h1 h2
  st := L.st
  slot := fun j x h => by
    by_cases e : i = j
    · subst e
      by_cases hl : i < ρ.length
      · rw [List.getElem?_set_self hl] at h
        cases h
        exact ⟨v, List.getElem?_set_self (by rw [L.len]; exact hl), r⟩
      · rw [List.getElem?_eq_none (by rw [List.length_set]; omega)] at h; cases h
    · rw [List.getElem?_set_ne e] at h
      obtain ⟨u, q1, q2⟩ := L.slot j x h
      exact ⟨u, by rw [List.getElem?_set_ne e]; exact q1, q2⟩
  oslot := fun j x h => by
    by_cases e : i = j
    · subst e
      by_cases hl : i < ρ.length
      · rw [List.getElem?_set_self hl] at h; cases h
      · rw [List.getElem?_eq_none (by rw [List.length_set]; omega)] at h; cases h
    · rw [List.getElem?_set_ne e] at h
      obtain ⟨a, q0, q1, q2⟩ := L.oslot j x h
      exact ⟨a, by rw [if_neg fun z => e z.symm]; exact q0, by rw [List.getElem?_set_ne e]; exact q1, q2⟩
  xslot := fun j x h => by
    by_cases e : i = j
    · subst e
      by_cases hl : i < ρ.length
      · rw [List.getElem?_set_self hl] at h; cases h
      · rw [List.getElem?_eq_none (by rw [List.length_set]; omega)] at h; cases h
    · rw [List.getElem?_set_ne e] at h
      obtain ⟨b, q1, q2⟩ := L.xslot j x h
      exact ⟨b, by rw [List.getElem?_set_ne e]; exact q1, q2⟩
/-- a slot takes a new container of its own -/
theorem LR.setOwn {a : Addr} (L : LR C cf oa (fun b => P b ∨ b = a) σ H β ρ S) {i : Nat} {d : D} (h0 : cf.H0 a = none) (hn : ∀ j, oa j ≠ some a) (o : OwnAt C H (fun b => P b ∨ b = a) β a d) :
    LR C cf (fun j => if j = i then some a else oa j) (fun b => P b ∨ b = a) (σ.set i (some (.ref a))) H β (ρ.set i (.ow d)) S where
  len := by rw [List.length_set, List.length_set]; exact L.len
  p := L.p
  sub := L.sub
  p0 := L.p0
  ext := L.ext
  own := fun j b h => by
    by_cases e : j = i
    · rw [if_pos e] at h; cases h; exact ⟨.inr rfl, h0⟩
    · rw [if_neg e] at h; exact L.own j b h
  inj := fun j k b h1 h2 => by
    by_cases e : j = i
    · by_cases e2 : k = i
      · rw [e, e2]
      · rw [if_pos e] at h1; cases h1; rw [if_neg e2] at h2; exact absurd h2 (hn k)
    · by_cases e2 : k = i
      · rw [if_pos e2] at h2; cases h2; rw [if_neg e] at h1; exact absurd h1 (hn j)
      · rw [if_neg e] at h1; rw [if_neg e2] at h2; exact L.inj j k b h1 h2
  st := L.st
  slot := fun j x h => by
    by_cases e : i = j
    · subst e
      by_cases hl : i < ρ.length
      · rw [List.getElem?_set_self hl] at h; cases h
      · rw [List.getElem?_eq_none (by rw [List.length_set]; omega)] at h; cases h
    · rw [List.getElem?_set_ne e] at h
      obtain ⟨u, q1, q2⟩ := L.slot j x h
      exact ⟨u, by rw [List.getElem?_set_ne e]; exact q1, q2⟩
  oslot := fun j x h => by
    by_cases e : i = j
    · subst e
      by_cases hl : i < ρ.length
      · rw [List.getElem?_set_self hl] at h
        cases h
        exact ⟨a, if_pos rfl, List.getElem?_set_self (by rw [L.len]; exact hl), o⟩
      · rw [List.getElem?_eq_none (by rw [List.length_set]; omega)] at h; cases h
    · rw [List.getElem?_set_ne e] at h
      obtain ⟨b, q0, q1, q2⟩ := L.oslot j x h
      exact ⟨b, by rw [if_neg fun z => e z.symm]; exact q0, by rw [List.getElem?_set_ne e]; exact q1, q2⟩
  xslot := fun j x h => by
    by_cases e : i = j
    · subst e
      by_cases hl : i < ρ.length
      · rw [List.getElem?_set_self hl] at h; cases h
      · rw [List.getElem?_eq_none (by rw [List.length_set]; omega)] at h; cases h
    · rw [List.getElem?_set_ne e] at h
      obtain ⟨b, q1, q2⟩ := L.xslot j x h
      exact ⟨b, by rw [List.getElem?_set_ne e]; exact q1, q2⟩
/-- a slot's own container is no longer its own -/
theorem LR.unown (L : LR C cf oa P σ H β ρ S) {i : Nat} {d : D} (h : ρ[i]? = some (Sl.ow d)) : ∃ a, P a ∧ a ∉ β ∧ cf.H0 a = none ∧ σ[i]? = some (some (.ref a)) ∧ OwnAt C H P β a d ∧ LR C cf (fun j => if j = i then none else oa j) (fun b => P b ∧ b ≠ a) σ H β (ρ.set i .un) S := by
  obtain ⟨a, h1, h2, o⟩ := L.oslot i d h
  refine ⟨a, (L.own i a h1).1, (L.p a (L.own i a h1).1).2, (L.own i a h1).2, h2, o, ?_⟩
  have L1 : LR C cf (fun j => if j = i then none else oa j) P σ H β (ρ.set i .un) S := by
    refine ⟨by rw [List.length_set]; exact L.len, L.p, L.sub, L.p0, L.ext, fun j b hb => ?_, fun j k b q1 q2 => ?_, L.st, fun j x hx => ?_, fun j x hx => ?_, fun j x hx => ?_⟩
    · by_cases e : j = i
      · rw [if_pos e] at hb; cases hb
      · rw [if_neg e] at hb; exact L.own j b hb
    · by_cases e : j = i
      · rw [if_pos e] at q1; cases q1
      · by_cases e2 : k = i
        · rw [if_pos e2] at q2; cases q2
        · rw [if_neg e] at q1; rw [if_neg e2] at q2; exact L.inj j k b q1 q2
    · by_cases e : i = j
      · subst e
        by_cases hl : i < ρ.length
        · rw [List.getElem?_set_self hl] at hx; cases hx
        · rw [List.getElem?_eq_none (by rw [List.length_set]; omega)] at hx; cases hx
      · rw [List.getElem?_set_ne e] at hx; exact L.slot j x hx
    · by_cases e : i = j
      · subst e
        by_cases hl : i < ρ.length
        · rw [List.getElem?_set_self hl] at hx; cases hx
        · rw [List.getElem?_eq_none (by rw [List.length_set]; omega)] at hx; cases hx
      · rw [List.getElem?_set_ne e] at hx
        obtain ⟨b, q0, q1, q2⟩ := L.oslot j x hx
        exact ⟨b, by rw [if_neg fun z => e z.symm]; exact q0, q1, q2⟩
    · by_cases e : i = j
      · subst e
        by_cases hl : i < ρ.length
        · rw [List.getElem?_set_self hl] at hx; cases hx
        · rw [List.getElem?_eq_none (by rw [List.length_set]; omega)] at hx; cases hx
      · rw [List.getElem?_set_ne e] at hx
        exact L.xslot j x hx
  have L2 : LR C cf (fun j => if j = i then none else oa j) (fun b => P b ∧ b ≠ a) σ H β (ρ.set i .un) S := L1.less (fun _ z => z.1) (fun b hb => ⟨L.sub b hb, fun z => L.p0 b hb (by rw [z]; exact (L.own i a h1).2)⟩) fun j b hb => by
    have hb' := hb
    by_cases e : j = i
    · rw [if_pos e] at hb; cases hb
    · rw [if_neg e] at hb
      exact ⟨(L.own j b hb).1, fun z => e (L.inj j i a (z ▸ hb) h1)⟩
  exact L2
theorem LR.setBack {σ : L2.St} {ρ : Rho} {i : Nat} {a : Addr} {d : D} (L : LR C cf (fun j => if j = i then none else oa j) P σ H β (ρ.set i .un) S) (h2 : σ[i]? = some (some (.ref a))) (rv : RV C H P β (.ref a) d) : LR C cf (fun j => if j = i then none else oa j) P σ H β (ρ.set i (.sh d)) S := by
  have L3 := L.set (i := i) rv
  have e1 : (ρ.set i Sl.un).set i (.sh d) = ρ.set i (.sh d) := by rw [List.set_set]
  have e2 : σ.set i (some (.ref a)) = σ := by
    refine List.ext_getElem? fun j => ?_
    by_cases e : i = j
    · subst e; rw [h2, List.getElem?_set_self (List.getElem?_eq_some_iff.mp h2).1]
    · rw [List.getElem?_set_ne e]
  have e3 : (fun j => if j = i then none else (if j = i then none else oa j)) = fun j => if j = i then none else oa j := by
    funext j
    by_cases e : j = i
    · rw [if_pos e, if_pos e]
    · rw [if_neg e]
  rw [e1, e2] at L3
  exact e3 ▸ L3
/-- a slot's own list is shared from now on -/
theorem LR.share (L : LR C cf oa P σ H β ρ S) {i : Nat} {ds : List D} (h : ρ[i]? = some (Sl.ow (.lst ds))) : ∃ P', (∀ a, P' a → P a) ∧ LR C cf (fun j => if j = i then none else oa j) P' σ H β (ρ.set i (.sh (.lst ds))) S := by
  obtain ⟨a, hp, nb, h0, h2, ⟨xs, q, r⟩, L2⟩ := L.unown h
  exact ⟨fun b => P b ∧ b ≠ a, fun _ z => z.1, L2.setBack h2 (.lst (fun z => z.2 rfl) nb (.inl q) (r.less fun _ z => z.1))⟩
/-- .. a dict: it is frozen -/
theorem LR.shareD (L : LR C cf oa P σ H β ρ S) {i : Nat} {ds : List (Key × D)} (h : ρ[i]? = some (Sl.ow (.dct ds))) : ∃ a xs, H a = some (.dK xs) ∧ σ[i]? = some (some (.ref a)) ∧ cf.H0 a = none ∧ a ∉ β ∧ P a ∧ ∀ od, Fx H P β (upd H a (.frz od (.dK xs))) (fun b => P b ∧ b ≠ a) β ∧
    RV C (upd H a (.frz od (.dK xs))) (fun b => P b ∧ b ≠ a) β (.ref a) (.dct ds) ∧ LR C cf (fun j => if j = i then none else oa j) (fun b => P b ∧ b ≠ a) σ (upd H a (.frz od (.dK xs))) β (ρ.set i (.sh (.dct ds))) S := by
  obtain ⟨a, hp, nb, h0, h2, ⟨xs, q, r⟩, L2⟩ := L.unown h
  refine ⟨a, xs, q, h2, h0, nb, hp, fun od => ?_⟩
  have f : Fx H (fun b => P b ∧ b ≠ a) β (upd H a (.frz od (.dK xs))) (fun b => P b ∧ b ≠ a) β := Fx.frz q
  have rv : RV C (upd H a (.frz od (.dK xs))) (fun b => P b ∧ b ≠ a) β (.ref a) (.dct ds) := .dct (fun z => z.2 rfl) nb ⟨od, upd_same⟩ ((r.less fun _ z => z.1).fx f)
  exact ⟨(Fx.less fun _ z => z.1).trans f, rv, (L2.frz q (fun z => z.2 rfl) nb h0).setBack h2 rv⟩
end

section
variable {X : Cx} {W : WX} {a e : Expr} {ma : EX} {ka : BX} {s1 s2 : SX} {st : Stmt} {rest : List Stmt} {pos : Pos}
theorem pss_nilM : PSSM (ctOf X) W X [] sNil := PSs_imp pss_nil fun D σ H h => by
  obtain ⟨cf, oa, P, β, ρ, S, L, h⟩ := h
  exact h σ H β oa P L Fx.refl
theorem pss_oneM (h : PSM (ctOf X) W X st s1) : PSSM (ctOf X) W X [st] s1 := pss_one h
theorem pss_consM (h1 : PSM (ctOf X) W X st s1) (h2 : PSSM (ctOf X) W X rest s2) : PSSM (ctOf X) W X (st :: rest) (sSeq s1 s2) := PSs_imp (pss_cons h1 h2) fun D σ H h => by
  obtain ⟨cf, oa, P, β, ρ, S, L, h⟩ := h
  refine ⟨cf, oa, P, β, ρ, S, L, ?_⟩
  unfold sSeq at h
  cases es : s1 ρ S with
  | nx ρ1 S1 =>
    rw [es] at h
    intro σ1 H1 β1 oa1 P1 L1 f1
    exact ⟨cf, oa1, P1, β1, ρ1, S1, L1, h.fx f1⟩
  | bk ρ1 S1 => rw [es] at h; exact h
  | ct ρ1 S1 => rw [es] at h; exact h
  | rt d S1 => rw [es] at h; exact h
  | exc e ρ1 S1 => rw [es] at h; exact h
  | stuck => rw [es] at h; exact h
theorem ps_passM : PSM (ctOf X) W X (.Pass pos) sNil := PS_imp ps_pass fun D σ H h => by
  obtain ⟨cf, oa, P, β, ρ, S, L, h⟩ := h
  exact h σ H β oa P L Fx.refl
theorem ps_breakM : PSM (ctOf X) W X (.Break pos) sBreak := PS_imp ps_break fun D σ H h => by
  obtain ⟨cf, oa, P, β, ρ, S, L, h⟩ := h
  exact h σ H β oa P L Fx.refl
theorem ps_contM : PSM (ctOf X) W X (.Continue pos) sCont := PS_imp ps_continue fun D σ H h => by
  obtain ⟨cf, oa, P, β, ρ, S, L, h⟩ := h
  exact h σ H β oa P L Fx.refl
theorem ps_docM {x j pos pos'} : PSM (ctOf X) W X (.Expr (.Constant (.str x) j pos) pos') sNil := PS_imp ps_doc fun D σ H h => by
  obtain ⟨cf, oa, P, β, ρ, S, L, h⟩ := h
  exact h σ H β oa P L Fx.refl
/-- what an exception wants, from an expression's to a statement's -/
theorem xp_of {C : Ct} {cf : Cf} {oa : Nat → Option Addr} {P : Addr → Prop} {σ : L2.St} {b : Bool} {H : Hp} {β : List Addr} {ρ : Rho} {S S' : Store} {e : Exn}
    (h : ∀ cls x σ' H' β' oa' P', LR C cf oa' P' σ' H' β' ρ S' → Fx H P β H' P' β' → ExnAt C H' P' β' cls x e → W cls x σ' H') : XP C W cf oa P σ b H β ρ S e S' :=
  fun cls x H' β' t L ex => h cls x σ H' β' oa P L (Fx.of t.ext) ex
theorem ps_exprM (h : PM (ctOf X) W false X e ma) (hs : swapsWith e none pos.line X.env = pure false := by rfl) : PSM (ctOf X) W X (.Expr e pos) (sExpr ma) := PS_imp (ps_expr h hs) fun D σ H h => by
  obtain ⟨cf, oa, P, β, ρ, S, L, h⟩ := h
  refine ⟨cf, oa, P, β, ρ, S, L, ?_⟩
  unfold sExpr at h
  cases ea : ma ρ S with
  | stuck => rw [ea] at h; exact h
  | exc e S1 => rw [ea] at h; exact xp_of h
  | ok d S1 => rw [ea] at h; intro v H1 β1 t L1 r; exact h σ H1 β1 oa P L1 (Fx.of t.ext)
theorem ret_rv {C : Ct} {cf : Cf} {oa : Nat → Option Addr} {P : Addr → Prop} {σ : L2.St} {H : Hp} {β : List Addr} {ρ : Rho} {S : Store} {v : V} {d : D} (L : LR C cf oa P σ H β ρ S) (r : RV C H P β v d) :
    ExtL cf H β ∧ SRel C H cf.P0 β S ∧ RV C H cf.P0 β v d := ⟨L.ext, L.st.less L.sub, r.less L.sub⟩
theorem ps_retM (h : PM (ctOf X) W false X e ma) : PSM (ctOf X) W X (.Return (some e) pos) (sRet ma) := PS_imp (ps_ret h) fun D σ H h => by
  obtain ⟨cf, oa, P, β, ρ, S, L, h⟩ := h
  refine ⟨cf, oa, P, β, ρ, S, L, ?_⟩
  unfold sRet at h
  cases ea : ma ρ S with
  | stuck => rw [ea] at h; exact h
  | exc e S1 => rw [ea] at h; exact xp_of h
  | ok d S1 =>
    rw [ea] at h
    intro v H1 β1 t L1 r
    obtain ⟨q1, q2, q3⟩ := ret_rv L1 r
    exact h v H1 β1 q1 t.ext.fs q2 q3
theorem ps_retNM : PSM (ctOf X) W X (.Return none pos) sRetN := PS_imp ps_retN fun D σ H h => by
  obtain ⟨cf, oa, P, β, ρ, S, L, h⟩ := h
  exact h .non H β L.ext Fs.refl (L.st.less L.sub) .non
/-- the callers' places are not new -/
def CfOk (cf : Cf) : Prop := ∀ a, cf.P0 a → cf.H0 a ≠ none
theorem ps_retVM {i : Nat} {x : Str} {px : Pos} (h : PE X (.Name x px) (tVar i)) : PSM (ctOf X) W X (.Return (some (.Name x px)) pos) (sRetV i) := PS_imp (ps_ret (pe_frz h)) fun D σ H h => by
  obtain ⟨cf, oa, P, β, ρ, S, L, h⟩ := h
  unfold sRetV at h
  unfold tRet tFrz tVar
  cases ei : ρ[i]? with
  | none => rw [ei] at h; exact h.elim
  | some sl =>
    rw [ei] at h
    cases sl with
    | un => exact h.elim
    | ex _ => exact h.elim
    | sh d =>
      obtain ⟨v, e1, r⟩ := L.slot i d ei
      obtain ⟨q1, q2, q3⟩ := ret_rv L r
      exact ⟨v, e1, .inl (h v H β q1 Fs.refl q2 q3)⟩
    | ow d =>
      cases d with
      | lst ds =>
        obtain ⟨P', hs, L'⟩ := L.share ei
        obtain ⟨v, e1, r⟩ := L'.slot i _ (List.getElem?_set_self (List.getElem?_eq_some_iff.mp ei).1)
        obtain ⟨q1, q2, q3⟩ := ret_rv L' r
        exact ⟨v, e1, .inl (h v H β q1 Fs.refl q2 q3)⟩
      | dct ds =>
        obtain ⟨a, xs, q, e1, h0, nb, hp, hh⟩ := L.shareD ei
        refine ⟨.ref a, e1, .inr ⟨a, xs, rfl, q, fun od => ?_⟩⟩
        obtain ⟨fx, rv, L'⟩ := hh od
        obtain ⟨q1, q2, q3⟩ := ret_rv L' rv
        exact h _ _ β q1 fx.fs q2 q3
      | _ => obtain ⟨a, e1, e2, o⟩ := L.oslot i _ ei; exact o.elim
theorem ps_ifM {p q : List Stmt} {c : Expr} (hc : PB (ctOf X) W false X c ka) (h1 : PSSM (ctOf X) W X p s1) (h2 : PSSM (ctOf X) W X q s2) : PSM (ctOf X) W X (.If c p q pos) (sIf ka s1 s2) := PS_imp (ps_if hc h1 h2) fun D σ H h => by
  obtain ⟨cf, oa, P, β, ρ, S, L, h⟩ := h
  refine ⟨cf, oa, P, β, ρ, S, L, ?_⟩
  unfold sIf at h
  cases ea : ka ρ S with
  | stuck => rw [ea] at h; exact h
  | exc e S1 => rw [ea] at h; exact xp_of h
  | ok k S1 =>
    rw [ea] at h
    simp only [R.st] at h
    intro H1 β1 t L1
    cases k with
    | true => rw [if_pos rfl] at h ⊢; exact ⟨cf, oa, P, β1, ρ, S1, L1, h.fx (Fx.of t.ext)⟩
    | false => rw [if_neg Bool.false_ne_true] at h ⊢; exact ⟨cf, oa, P, β1, ρ, S1, L1, h.fx (Fx.of t.ext)⟩
/-- name = e, by what the statement reads -/
theorem ps_setM {i : Nat} {t : TE} (h : PS X st (tAsg t (gName i))) (ht : ∀ σ H Q, EM (ctOf X) W false ma σ H Q → t σ H Q) : PSM (ctOf X) W X st (sSet i ma) := PS_imp h fun D σ H h => by
  obtain ⟨cf, oa, P, β, ρ, S, L, h⟩ := h
  refine ht _ _ _ ⟨cf, oa, P, β, ρ, S, L, ?_⟩
  unfold sSet at h
  cases ea : ma ρ S with
  | stuck => rw [ea] at h; exact h
  | exc e S1 => rw [ea] at h; exact xp_of h
  | ok d S1 =>
    rw [ea] at h
    intro v H1 β1 t L1 r
    exact h _ H1 β1 _ P (L1.set r) (Fx.of t.ext)
theorem ps_ownM {i : Nat} {t : TE} (h : PS X st (tAsg t (gName i))) (ht : ∀ σ H Q, EO (ctOf X) W false ma σ H Q → t σ H Q) : PSM (ctOf X) W X st (sOwn i ma) := PS_imp h fun D σ H h => by
  obtain ⟨cf, oa, P, β, ρ, S, L, h⟩ := h
  refine ht _ _ _ ⟨cf, oa, P, β, ρ, S, L, ?_⟩
  unfold sOwn at h
  cases ea : ma ρ S with
  | stuck => rw [ea] at h; exact h
  | exc e S1 => rw [ea] at h; exact xp_of h
  | ok d S1 =>
    rw [ea] at h
    intro a H1 β1 t hn L1 o
    have h0 : cf.H0 a = none := by
      cases z : cf.H0 a with
      | none => rfl
      | some u => exact absurd hn (L.ext.stay a (by rw [z]; exact Option.some_ne_none _))
    have no : ∀ j, oa j ≠ some a := fun j z => (L.p a (L.own j a z).1).1 hn
    exact h _ H1 β1 _ _ (L1.setOwn h0 no o) (Fx.more t.ext hn)
/-- a dict may be frozen ahead of a statement -/
def tFrzS (t : TS) : TS := fun D σ H => t D σ H ∨ ∃ a xs, H a = some (.dK xs) ∧ ∀ od, t D σ (upd H a (.frz od (.dK xs)))
theorem ps_frz {t : TS} (h : PS X st t) : PS X st (tFrzS t) := ⟨fun pins s σ H D I hw => by
  rcases hw with hw | ⟨a, xs, e, hw⟩
  · exact h.run pins s σ H D I hw
  · obtain ⟨od, I2⟩ := I.lock e True.intro
    exact h.run pins s σ _ D I2 (hw od)⟩
theorem ps_shareM {i : Nat} (h : PSM (ctOf X) W X st s1) : PSM (ctOf X) W X st (sShare i s1) := PS_imp (ps_frz h) fun D σ H h => by
  obtain ⟨cf, oa, P, β, ρ, S, L, h⟩ := h
  unfold sShare at h
  cases ei : ρ[i]? with
  | none => rw [ei] at h; exact .inl ⟨cf, oa, P, β, ρ, S, L, h⟩
  | some sl =>
    rw [ei] at h
    cases sl with
    | un => exact .inl ⟨cf, oa, P, β, ρ, S, L, h⟩
    | ex _ => exact .inl ⟨cf, oa, P, β, ρ, S, L, h⟩
    | sh d => exact .inl ⟨cf, oa, P, β, ρ, S, L, h⟩
    | ow d =>
      cases d with
      | lst ds =>
        obtain ⟨P', hs, L'⟩ := L.share ei
        exact .inl ⟨cf, _, P', β, _, S, L', h.fx (Fx.less hs)⟩
      | dct ds =>
        obtain ⟨a, xs, q, e1, h0, nb, hp, hh⟩ := L.shareD ei
        refine .inr ⟨a, xs, q, fun od => ?_⟩
        obtain ⟨f, _, L'⟩ := hh od
        exact ⟨cf, _, _, β, _, S, L', h.fx f⟩
      | _ => obtain ⟨a, e1, e2, o⟩ := L.oslot i _ ei; exact o.elim

/-! ### targets -/
def GM (C : Ct) (T : GX) : TG := fun v σ H Q => ∃ cf oa P β ρ S d, LR C cf oa P σ H β ρ S ∧ RV C H P β v d ∧ (match T d ρ S with
  | some p => ∀ σ' H' β' oa' P', LR C cf oa' P' σ' H' β' p.1 p.2 → Fx H P β H' P' β' → Q σ' H'
  | none => False)
def GMs (C : Ct) (T : GXs) : TGs := fun vs σ H Q => ∃ cf oa P β ρ S ds, LR C cf oa P σ H β ρ S ∧ RVs C H P β vs ds ∧ (match T ds ρ S with
  | some p => ∀ σ' H' β' oa' P', LR C cf oa' P' σ' H' β' p.1 p.2 → Fx H P β H' P' β' → Q σ' H'
  | none => False)
abbrev PGM (X : Cx) (e : Expr) (T : GX) : Prop := PG X e (GM (ctOf X) T)
abbrev PGMs (X : Cx) (es : List Expr) (T : GXs) : Prop := PGs X es (GMs (ctOf X) T)
theorem PG_imp {X : Cx} {e : Expr} {t t' : TG} (h : PG X e t) (i : ∀ v σ H Q, t' v σ H Q → t v σ H Q) : PG X e t' := ⟨fun pins s σ H v u Q I r hw => h.run pins s σ H v u Q I r (i v σ H Q hw)⟩
theorem PGs_imp {X : Cx} {e : List Expr} {t t' : TGs} (h : PGs X e t) (i : ∀ v σ H Q, t' v σ H Q → t v σ H Q) : PGs X e t' := ⟨fun pins s σ H v u Q I r hw => h.run pins s σ H v u Q I r (i v σ H Q hw)⟩
variable {tg : Expr} {tgs : List Expr} {g : GX} {gs : GXs}
theorem pg_nameM {i : Nat} (h : PG X tg (gName i)) : PGM X tg (gSet i) := PG_imp h fun v σ H Q h => by
  obtain ⟨cf, oa, P, β, ρ, S, d, L, r, h⟩ := h
  exact h _ H β _ P (L.set r) Fx.refl
theorem pgs_nilM : PGMs X [] gsNil := PGs_imp pgs_nil fun vs σ H Q h => by
  obtain ⟨cf, oa, P, β, ρ, S, ds, L, r, h⟩ := h
  cases r with
  | nil => exact ⟨rfl, h σ H β oa P L Fx.refl⟩
  | cons r rs => exact h.elim
theorem pgs_consM (h1 : PGM X tg g) (h2 : PGMs X tgs gs) (hs : (assignEach (tg :: tgs) X.env).map (·.2) = assign tg X.env :: (assignEach tgs X.env).map (·.2) := by rfl) : PGMs X (tg :: tgs) (gsCons g gs) := PGs_imp (pgs_cons h1 h2 hs) fun vs σ H Q h => by
  obtain ⟨cf, oa, P, β, ρ, S, ds, L, r, h⟩ := h
  cases r with
  | nil => exact h.elim
  | @cons v vs d ds r rs =>
    refine ⟨v, vs, rfl, cf, oa, P, β, ρ, S, d, L, r, ?_⟩
    simp only [gsCons] at h
    cases eg : g d ρ S with
    | none => rw [eg] at h; exact h.elim
    | some p =>
      rw [eg] at h
      intro σ1 H1 β1 oa1 P1 L1 f1
      refine ⟨cf, oa1, P1, β1, p.1, p.2, ds, L1, rs.fx f1, ?_⟩
      simp only [Option.bind] at h
      cases e2 : gs ds p.1 p.2 with
      | none => rw [e2] at h; exact h.elim
      | some q => rw [e2] at h; intro σ2 H2 β2 oa2 P2 L2 f2; exact h σ2 H2 β2 oa2 P2 L2 (f1.trans f2)
theorem pg_unpM {k : Nat} {n : Nat} (hc : X.calm = true) (h : PGMs X tgs gs) (hgs : ∀ ds ρ S, ds.length ≠ n → gs ds ρ S = none) (hn : (assignEach tgs X.env).length = n := by rfl) (hst : (assignEach tgs X.env).findIdx? (·.1) = none := by rfl) : PGM X (.Tuple tgs k pos) (gUnp gs) :=
  PG_imp (pg_tup hc h hn hst) fun v σ H Q h => by
    obtain ⟨cf, oa, P, β, ρ, S, d, L, r, h⟩ := h
    unfold gUnp at h
    cases ev : viewT d with
    | none => rw [ev] at h; exact h.elim
    | some ds =>
      rw [ev] at h
      obtain ⟨a, xs, rfl, q1, q2⟩ := r.viewT ev
      refine ⟨a, xs, rfl, q1, ?_, cf, oa, P, β, ρ, S, ds, L, q2, h⟩
      by_cases hl : ds.length = n
      · rw [q2.length]; exact hl
      · simp only [Option.bind] at h
        rw [hgs ds ρ S hl] at h
        exact h.elim
theorem ps_asgM (he : PM (ctOf X) W false X e ma) (hg : PGM X tg g) (hs : swapsWithSole [tg] e pos.line X.env = pure false := by rfl) (hw : swappedStores [tg] e X.env = pure none := by rfl)
    (h1 : (assignEach [tg] X.env).map (·.2) = [assign tg X.env] := by rfl) : PSM (ctOf X) W X (.Assign [tg] e pos) (sAsg ma g) := PS_imp (ps_asg he hg hs hw h1) fun D σ H h => by
  obtain ⟨cf, oa, P, β, ρ, S, L, h⟩ := h
  refine ⟨cf, oa, P, β, ρ, S, L, ?_⟩
  unfold sAsg at h
  cases ea : ma ρ S with
  | stuck => rw [ea] at h; exact h
  | exc e S1 => rw [ea] at h; exact xp_of h
  | ok d S1 =>
    rw [ea] at h
    simp only [R.st] at h
    intro v H1 β1 t L1 r
    refine ⟨cf, oa, P, β1, ρ, S1, d, L1, r, ?_⟩
    cases eg : g d ρ S1 with
    | none => rw [eg] at h; exact h.elim
    | some p => rw [eg] at h; intro σ2 H2 β2 oa2 P2 L2 f2; exact h σ2 H2 β2 oa2 P2 L2 ((Fx.of t.ext).trans f2)

/-! ### loops -/
def ItM (C : Ct) (J : It) (ds : List D) (H : Hp) (P : Addr → Prop) (β : List Addr) : Prop :=
  ∀ (i : Nat) (H2 : Hp) (P2 : Addr → Prop) (β2 : List Addr), Fx H P β H2 P2 β2 → (∀ p, H2 p = none → ¬ P2 p ∧ p ∉ β2) →
    (∀ d, ds[i]? = some d → J.go i H2 ∧ ∀ x H3, J.yld i H2 x H3 → Same H2 H3 ∧ RV C H3 P2 β2 x d) ∧ (ds.length = i → J.stop i H2)
def IM (C : Ct) (W : WX) (b : Bool) (m : AX) : TI := fun σ H R => ∃ cf oa P β ρ S, LR C cf oa P σ H β ρ S ∧ (match m ρ S with
  | .ok ds S' => ∀ J H' β', Tr b H β S H' β' S' → LR C cf oa P σ H' β' ρ S' → ItM C J ds H' P β' → R J H'
  | .exc e S' => XP C W cf oa P σ b H β ρ S e S'
  | .stuck => False)
abbrev PIM (C : Ct) (W : WX) (b : Bool) (X : Cx) (tg iter : Expr) (m : AX) : Prop := PI X tg iter (IM C W b m)
theorem PI_imp {X : Cx} {tg iter : Expr} {t t' : TI} (h : PI X tg iter t) (i : ∀ σ H R, t' σ H R → t σ H R) : PI X tg iter t' := ⟨fun pins s σ H R I hw => h.run pins s σ H R I (i σ H R hw)⟩
variable {iter : Expr} {it : AX} {body : List Stmt}
theorem LR.new {C : Ct} {cf : Cf} {oa : Nat → Option Addr} {P : Addr → Prop} {σ : L2.St} {H : Hp} {β : List Addr} {ρ : Rho} {S : Store} (L : LR C cf oa P σ H β ρ S) : ∀ p, H p = none → ¬ P p ∧ p ∉ β := fun _ h => ⟨L.npP h, L.npB h⟩
theorem ps_forM (hp : PassesOwn (model X.prog X.w) X.A X.env X.xe) (hc : X.calm = true) (hi : PIM (ctOf X) W false X tg iter it) (hg : PGM X tg g) (hb : PSSM (ctOf X) W X body s1)
    (hs : ∀ x, foldedSetIterable iter X.env x = pure x := by intro _; rfl) : PSM (ctOf X) W X (.For tg iter body [] pos) (sFor it g s1) := PS_imp (ps_for hp hc hi hg hb hs) fun D σ H h => by
  obtain ⟨cf, oa, P, β, ρ, S, L, h⟩ := h
  refine ⟨cf, oa, P, β, ρ, S, L, ?_⟩
  unfold sFor at h
  cases ea : it ρ S with
  | stuck => rw [ea] at h; exact h
  | exc e S1 => rw [ea] at h; exact xp_of h
  | ok ds S1 =>
    rw [ea] at h
    intro J H1 β1 t L1 im
    have h1 : SQ (ctOf X) W cf H1 P β1 D (forL g s1 ds ρ S1) := SQ.fx (Fx.of t.ext) h
    have im' : ItM (ctOf X) J ds H1 P β1 := im
    refine ⟨fun i m σ2 H2 => m = ds.length - i ∧ i ≤ ds.length ∧ ∃ oa2 P2 β2 ρ2 S2, LR (ctOf X) cf oa2 P2 σ2 H2 β2 ρ2 S2 ∧ Fx H1 P β1 H2 P2 β2 ∧ SQ (ctOf X) W cf H2 P2 β2 D (forL g s1 (ds.drop i) ρ2 S2),
      ⟨ds.length, by simp, Nat.zero_le _, oa, P, β1, ρ, S1, L1, Fx.refl, h1⟩, ?_⟩
    rintro i m σ2 H2 ⟨rfl, hi, oa2, P2, β2, ρ2, S2, L2, f2, q⟩
    obtain ⟨go, stop⟩ := im' i H2 P2 β2 f2 L2.new
    by_cases hl : i < ds.length
    · right
      have hd : ds[i]? = some ds[i] := List.getElem?_eq_getElem hl
      obtain ⟨g1, g2⟩ := go _ hd
      rw [List.drop_eq_getElem_cons hl] at q
      simp only [forL] at q
      refine ⟨g1, fun σ' H' => ∃ oa3 P3 β3 ρ3 S3, LR (ctOf X) cf oa3 P3 σ' H' β3 ρ3 S3 ∧ Fx H1 P β1 H' P3 β3 ∧ SQ (ctOf X) W cf H' P3 β3 D (forL g s1 (ds.drop (i + 1)) ρ3 S3), fun σ' H' hN => ⟨ds.length - (i + 1), by omega, rfl, hl, hN⟩, fun x H3 y => ?_⟩
      obtain ⟨e3, r3⟩ := g2 x H3 y
      have L3 := L2.same e3
      have f3 : Fx H2 P2 β2 H3 P2 β2 := Fx.of (Ext.same e3)
      refine ⟨cf, oa2, P2, β2, ρ2, S2, ds[i], L3, r3, ?_⟩
      cases eg : g ds[i] ρ2 S2 with
      | none => rw [eg] at q; exact q.elim
      | some p =>
        rw [eg] at q
        intro σ4 H4 β4 oa4 P4 L4 f4
        refine ⟨cf, oa4, P4, β4, p.1, p.2, L4, ?_⟩
        have f24 := f3.trans f4
        simp only at q
        cases es : s1 p.1 p.2 with
        | nx ρ5 S5 => rw [es] at q; intro σ5 H5 β5 oa5 P5 L5 f5; exact ⟨oa5, P5, β5, ρ5, S5, L5, f2.trans (f24.trans f5), SQ.fx (f24.trans f5) q⟩
        | ct ρ5 S5 => rw [es] at q; intro σ5 H5 β5 oa5 P5 L5 f5; exact ⟨oa5, P5, β5, ρ5, S5, L5, f2.trans (f24.trans f5), SQ.fx (f24.trans f5) q⟩
        | bk ρ5 S5 => rw [es] at q; exact SQ.fx (r := .nx ρ5 S5) f24 q
        | rt d S5 => rw [es] at q; exact SQ.fx (r := .rt d S5) f24 q
        | exc e ρ5 S5 => rw [es] at q; exact SQ.fx (r := .exc e ρ5 S5) f24 q
        | stuck => rw [es] at q; exact q
    · left
      have e : i = ds.length := by omega
      subst e
      rw [List.drop_length] at q
      exact ⟨stop rfl, q σ2 H2 β2 oa2 P2 L2 Fx.refl⟩
theorem ps_whileM {c : Expr} (n : Nat) (hp : PassesOwn (model X.prog X.w) X.A X.env X.xe) (hc : PB (ctOf X) W false X c ka) (hb : PSSM (ctOf X) W X body s1) : PSM (ctOf X) W X (.While c body [] pos) (sWhile n ka s1) := PS_imp (ps_while hp hc hb) fun D σ H h => by
  obtain ⟨cf, oa, P, β, ρ, S, L, h⟩ := h
  refine ⟨fun m σ2 H2 => ∃ oa2 P2 β2 ρ2 S2, LR (ctOf X) cf oa2 P2 σ2 H2 β2 ρ2 S2 ∧ SQ (ctOf X) W cf H2 P2 β2 D (whileN ka s1 m ρ2 S2), ⟨n, oa, P, β, ρ, S, L, h⟩, ?_⟩
  rintro m σ2 H2 ⟨oa2, P2, β2, ρ2, S2, L2, q⟩
  refine ⟨cf, oa2, P2, β2, ρ2, S2, L2, ?_⟩
  cases m with
  | zero => exact q.elim
  | succ m =>
    simp only [whileN] at q
    cases ea : ka ρ2 S2 with
    | stuck => rw [ea] at q; exact q
    | exc e S1 => rw [ea] at q; exact xp_of q
    | ok k S1 =>
      rw [ea] at q
      simp only [R.st] at q
      intro H3 β3 t L3
      cases k with
      | false => rw [if_neg Bool.false_ne_true] at q ⊢; exact q σ2 H3 β3 oa2 P2 L3 (Fx.of t.ext)
      | true =>
        rw [if_pos rfl] at q ⊢
        refine ⟨fun σ' H' => ∃ oa4 P4 β4 ρ4 S4, LR (ctOf X) cf oa4 P4 σ' H' β4 ρ4 S4 ∧ SQ (ctOf X) W cf H' P4 β4 D (whileN ka s1 m ρ4 S4), fun σ' H' hN => ⟨m, Nat.lt_succ_self _, hN⟩, cf, oa2, P2, β3, ρ2, S1, L3, ?_⟩
        have f3 : Fx H2 P2 β2 H3 P2 β3 := Fx.of t.ext
        cases es : s1 ρ2 S1 with
        | nx ρ5 S5 => rw [es] at q; intro σ5 H5 β5 oa5 P5 L5 f5; exact ⟨oa5, P5, β5, ρ5, S5, L5, SQ.fx (f3.trans f5) q⟩
        | ct ρ5 S5 => rw [es] at q; intro σ5 H5 β5 oa5 P5 L5 f5; exact ⟨oa5, P5, β5, ρ5, S5, L5, SQ.fx (f3.trans f5) q⟩
        | bk ρ5 S5 => rw [es] at q; exact SQ.fx (r := .nx ρ5 S5) f3 q
        | rt d S5 => rw [es] at q; exact SQ.fx (r := .rt d S5) f3 q
        | exc e ρ5 S5 => rw [es] at q; exact SQ.fx (r := .exc e ρ5 S5) f3 q
        | stuck => rw [es] at q; exact q

end
end Mi

/-! Mi6: what loops walk; comprehensions. -/
namespace Mi
open PySem PySem.Spec PyProof.Rows L2

def strItems (x : Str) : List D := x.cps.toList.map fun c => .str ⟨#[c]⟩
def kD : Key → D
  | .inl i => .int i
  | .inr x => .str x
theorem rv_key {C : Ct} {H : Hp} {P : Addr → Prop} {β : List Addr} : ∀ k : Key, RV C H P β (kV k) (kD k)
  | .inl i => .int i
  | .inr x => .str x
/-- what a loop over a value sees -/
def itemsOf (d : D) : Option (List D) := match d with
  | .lst xs => some xs
  | .tup xs => some xs
  | .str x => some (strItems x)
  | .dct kvs => some (kvs.map fun p => kD p.1)
  | _ => none
def iSeq (a : EX) : AX := fun ρ S => (a ρ S).bind fun x S1 => R.opt (itemsOf x) S1
def rangeD (lo : Int) (n : Nat) : List D := (List.range n).map fun i => .int (lo + (i : Nat))
def rngArg (ds : List D) : Option (List D) := match ds with
  | [.int j] => if -(2 ^ 62) ≤ j ∧ j < 2 ^ 62 then some (rangeD 0 j.toNat) else none
  | [.int i, .int j] => if -(2 ^ 62) ≤ i ∧ i < 2 ^ 62 ∧ -(2 ^ 62) ≤ j ∧ j < 2 ^ 62 then some (rangeD i (j - i).toNat) else none
  | _ => none
def iRng (a : AX) : AX := fun ρ S => (a ρ S).bind fun xs S1 => R.opt (rngArg xs) S1

section
variable {X : Cx} {W : WX} {b : Bool} {tg e : Expr} {ma : EX} {mas : AX}
theorem pi_any {te : TE} (he : PE X e te) : PI X tg e (fun σ H R => te σ H fun x H1 =>
    (∃ a, x = .ref a ∧ (∃ xs, SqL X.K H1 a xs) ∧ R (Itl X.K a) H1) ∨ (∃ a, x = .ref a ∧ (∃ xs, SqT X.K H1 a xs) ∧ R (Itt X.K a) H1) ∨ ∃ z, x = .str z ∧ R (Its z) H1) := by
  refine ⟨fun pins s σ H R I h => ?_⟩
  refine thn (he.run pins s σ H _ I h) fun v s1 ⟨x, H1, I1, r1, q1⟩ => ?_
  rcases q1 with ⟨a, e, ⟨xs, hq⟩, q⟩ | ⟨a, e, ⟨xs, hq⟩, q⟩ | ⟨z, e, q⟩
  · subst e
    cases r1
    obtain ⟨its, rv, p, hz⟩ := I1.list hq
    refine wpAny_pyIter_list p.isList ?_
    refine ⟨s1.heap.objs.size, [s1.heap.objs.size], _, _, H1, rfl, I1.kept (t' := s1.toks) fun b o e => Heap.get?_push_of_some _ e, turn_list a _, ⟨_, Heap.get?_push_size _ rfl, rfl, rfl⟩, fun b hb => ?_, q⟩
    have e : b = s1.heap.objs.size := by simpa using hb
    subst e
    exact I1.fpOk (Nat.le_refl _) (I1.hok.fresh (Nat.le_refl _))
  · subst e
    cases r1
    obtain ⟨its, rv, p, hz⟩ := I1.tuple hq
    refine wpAny_pyIter_tuple (show s1.heap.IsTuple a its.toArray from p) ?_
    refine ⟨s1.heap.objs.size, [s1.heap.objs.size], _, _, H1, rfl, I1.kept (t' := s1.toks) fun b o e => Heap.get?_push_of_some _ e, turn_tuple a _, ⟨_, Heap.get?_push_size _ rfl, rfl, rfl⟩, fun b hb => ?_, q⟩
    have e : b = s1.heap.objs.size := by simpa using hb
    subst e
    exact I1.fpOk (Nat.le_refl _) (I1.hok.fresh (Nat.le_refl _))
  · subst e
    obtain ⟨t, rfl⟩ := r1
    cases ha : z.cps.all (· < 128)
    · exact wpAny_pyIter_wide ha (pi_one (tk := s1.toks) I1 _ (turn_str _ z t "str_iterator" (.inr rfl)) ⟨_, Heap.get?_push_size _ rfl, rfl, rfl⟩ q)
    · exact wpAny_pyIter_ascii ha (pi_one (tk := s1.toks) I1 _ (turn_str _ z t "str_ascii_iterator" (.inl rfl)) ⟨_, Heap.get?_push_size _ rfl, rfl, rfl⟩ q)
/-- a list, a tuple that stands still -/
theorem it_list {C : Ct} {H : Hp} {P : Addr → Prop} {β : List Addr} {a : Addr} {xs : List V} {ds : List D} (hs : ∀ H2 P2 β2, Fx H P β H2 P2 β2 → SqL C.K H2 a xs) (rs : RVs C H P β xs ds) : ItM C (Itl C.K a) ds H P β := by
  intro i H2 P2 β2 f n
  have q := hs H2 P2 β2 f
  have r2 := rs.fx f
  refine ⟨fun d hd => ?_, fun hl => ⟨xs, q, by rw [r2.length]; exact Nat.le_of_eq hl⟩⟩
  obtain ⟨v, hv, rv⟩ := r2.get hd
  refine ⟨⟨xs, v, q, hv⟩, fun x H3 y => ?_⟩
  obtain ⟨e, y⟩ := y
  subst e
  refine ⟨Same.refl _, ?_⟩
  have := y xs q
  rw [hv] at this
  cases this
  exact rv
theorem it_tup {C : Ct} {H : Hp} {P : Addr → Prop} {β : List Addr} {a : Addr} {xs : List V} {ds : List D} (hs : ∀ H2 P2 β2, Fx H P β H2 P2 β2 → SqT C.K H2 a xs) (rs : RVs C H P β xs ds) : ItM C (Itt C.K a) ds H P β := by
  intro i H2 P2 β2 f n
  have q := hs H2 P2 β2 f
  have r2 := rs.fx f
  refine ⟨fun d hd => ?_, fun hl => ⟨xs, q, by rw [r2.length]; exact Nat.le_of_eq hl⟩⟩
  obtain ⟨v, hv, rv⟩ := r2.get hd
  refine ⟨⟨xs, v, q, hv⟩, fun x H3 y => ?_⟩
  obtain ⟨e, y⟩ := y
  subst e
  refine ⟨Same.refl _, ?_⟩
  have := y xs q
  rw [hv] at this
  cases this
  exact rv
theorem rks_get {C : Ct} {H : Hp} {P : Addr → Prop} {β : List Addr} : ∀ {xs : List (Key × V)} {ds : List (Key × D)} {i : Nat} {k : Key} {d : D}, RKs C H P β xs ds → ds[i]? = some (k, d) → ∃ v, xs[i]? = some (k, v) ∧ RV C H P β v d
  | _, _, 0, _, _, .cons h _, e => by cases e; exact ⟨_, rfl, h⟩
  | _, _, i + 1, k, d, .cons (ds := ds) _ t, e => by
    have e' : ds[i]? = some (k, d) := by simpa using e
    obtain ⟨v, h1, h2⟩ := rks_get t e'
    exact ⟨v, by simpa using h1, h2⟩
  | _, _, _, _, _, .nil, e => by cases e
theorem rks_len {C : Ct} {H : Hp} {P : Addr → Prop} {β : List Addr} : ∀ {xs : List (Key × V)} {ds : List (Key × D)}, RKs C H P β xs ds → xs.length = ds.length
  | _, _, .nil => rfl
  | _, _, .cons _ t => by simp [rks_len t]
/-- a dict's keys -/
theorem it_keys {C : Ct} {H : Hp} {P : Addr → Prop} {β : List Addr} {a : Addr} {o : Obj} {xs : List (Key × V)} {ds : List (Key × D)} (hp : ¬ P a) (hb : a ∉ β) (e : H a = some (.frz o (.dK xs))) (rs : RKs C H P β xs ds) : ItM C (Itk a o xs) (ds.map fun p => kD p.1) H P β := by
  intro i H2 P2 β2 f n
  have q := f.fz _ _ _ e
  refine ⟨fun d hd => ?_, fun hl => ⟨q, by rw [rks_len rs]; rw [List.length_map] at hl; exact Nat.le_of_eq hl⟩⟩
  rw [List.getElem?_map] at hd
  cases ed : ds[i]? with
  | none => rw [ed] at hd; cases hd
  | some p =>
    obtain ⟨k, d'⟩ := p
    rw [ed] at hd
    cases hd
    obtain ⟨v, hv, _⟩ := rks_get rs ed
    refine ⟨⟨q, (List.getElem?_eq_some_iff.mp hv).1⟩, fun x H3 y => ?_⟩
    obtain ⟨rfl, k', v', hk, rfl⟩ := y
    rw [hv] at hk
    cases hk
    exact ⟨Same.refl _, rv_key _⟩
theorem pi_or {X : Cx} {tg e : Expr} {w1 w2 : TI} (a : PI X tg e w1) (b : PI X tg e w2) : PI X tg e (fun σ H R => w1 σ H R ∨ w2 σ H R) := ⟨fun pins s σ H R I h => h.elim (a.run pins s σ H R I) (b.run pins s σ H R I)⟩
theorem it_str {C : Ct} {H : Hp} {P : Addr → Prop} {β : List Addr} {z : Str} : ItM C (Its z) (strItems z) H P β := by
  intro i H2 P2 β2 f n
  refine ⟨fun d hd => ?_, fun hl => ?_⟩
  · unfold strItems at hd
    rw [List.getElem?_map] at hd
    have hi : i < z.cps.toList.length := by
      cases e : z.cps.toList[i]? with
      | none => rw [e] at hd; cases hd
      | some c => exact (List.getElem?_eq_some_iff.mp e).1
    refine ⟨show i < z.cps.size by simpa using hi, fun x H3 y => ?_⟩
    obtain ⟨e, c, hc, ex⟩ := y
    subst e ex
    refine ⟨Same.refl _, ?_⟩
    rw [Array.getElem?_toList, hc] at hd
    cases hd
    exact .str _
  · show z.cps.size ≤ i
    unfold strItems at hl
    have := Nat.le_of_eq hl; simpa using this
theorem it_rng {C : Ct} {H : Hp} {P : Addr → Prop} {β : List Addr} {lo : Int} {n : Nat} : ItM C (Itr lo n) (rangeD lo n) H P β := by
  intro i H2 P2 β2 f _
  refine ⟨fun d hd => ?_, fun hl => ?_⟩
  · unfold rangeD at hd
    have hi : i < n := by
      by_cases h : i < n
      · exact h
      · rw [List.getElem?_eq_none (by simp; omega)] at hd; cases hd
    refine ⟨hi, fun x H3 y => ?_⟩
    obtain ⟨e, ex⟩ := y
    subst e ex
    refine ⟨Same.refl _, ?_⟩
    rw [List.getElem?_map, List.getElem?_range hi] at hd
    cases hd
    exact .int _
  · show n ≤ i
    have := Nat.le_of_eq hl; simpa [rangeD] using this
theorem pim_seq (he : PM (ctOf X) W b X e ma) : PIM (ctOf X) W b X tg e (iSeq ma) := PI_imp (pi_or (pi_any he) (pi_keys he)) fun σ H R h => by
  obtain ⟨cf, oa, P, β, ρ, S, L, h⟩ := h
  unfold iSeq at h
  cases ea : ma ρ S with
  | stuck => rw [ea] at h; exact h.elim
  | exc e S1 => rw [ea] at h; exact .inl ⟨cf, oa, P, β, ρ, S, L, by rw [ea]; exact h⟩
  | ok d S1 =>
    rw [ea] at h
    by_cases hd : ∃ ks, d = .dct ks
    · obtain ⟨ks, rfl⟩ := hd
      refine .inr ⟨cf, oa, P, β, ρ, S, L, ?_⟩
      rw [ea]
      intro v H1 β1 t L1 r
      cases r with
      | dct hp hb hr hs =>
        obtain ⟨o, q⟩ := hr
        exact ⟨_, o, rfl, .inl ⟨_, q, h _ H1 β1 t L1 (it_keys hp hb q hs)⟩⟩
    refine .inl ⟨cf, oa, P, β, ρ, S, L, ?_⟩
    rw [ea]
    intro v H1 β1 t L1 r
    cases r with
    | lst hp hb hr hs =>
      refine .inl ⟨_, rfl, ⟨_, .inl hr⟩, h _ H1 β1 t L1 ?_⟩
      exact it_list (fun H2 P2 β2 f => .inl (f.con _ _ hp hb hr).1) hs
    | tup hr hs =>
      refine .inr (.inl ⟨_, rfl, ⟨_, .inl hr⟩, h _ H1 β1 t L1 ?_⟩)
      exact it_tup (fun H2 P2 β2 f => .inl (f.tups _ _ hr)) hs
    | ktup k hs =>
      refine .inr (.inl ⟨_, rfl, ⟨_, .inr k⟩, h _ H1 β1 t L1 ?_⟩)
      exact it_tup (fun H2 P2 β2 f => .inr k) hs
    | klst k hs =>
      refine .inl ⟨_, rfl, ⟨_, .inr k⟩, h _ H1 β1 t L1 ?_⟩
      exact it_list (fun H2 P2 β2 f => .inr k) hs
    | str z => exact .inr (.inr ⟨z, rfl, h _ H1 β1 t L1 it_str⟩)
    | dct _ _ _ _ => exact (hd ⟨_, rfl⟩).elim
    | _ => exact h.elim

/-! ### comprehensions -/
end
def wipeR (ρ : Rho) : List Nat → Rho
  | [] => ρ
  | v :: vs => (wipeR ρ vs).set v .un
def compL (vs : List Nat) (g : GX) (t : BX) (e : EX) (ρ : Rho) : List D → List D → Store → R (List D)
  | [], acc, S => .ok acc S
  | d :: ds, acc, S => match g d ρ S with
    | none => .stuck
    | some p => match t p.1 p.2 with
      | .ok true S2 => match e p.1 S2 with
        | .ok y S3 => if acc.length < sizeLine then compL vs g t e ρ ds (acc ++ [y]) S3 else .stuck
        | _ => .stuck
      | .ok false S2 => compL vs g t e ρ ds acc S2
      | _ => .stuck
/-- [e for .. in it if t]; vs: the slots of the block's own names -/
def mComp (it : AX) (vs : List Nat) (g : GX) (t : BX) (e : EX) : EX := fun ρ S => (it ρ S).bind fun ds S1 => (compL vs g t e (wipeR ρ vs) ds [] S1).bind fun ys S2 => .ok (.lst ys) S2
def bTrue : BX := fun _ S => .ok true S
section
variable {C : Ct} {cf : Cf} {oa : Nat → Option Addr} {P : Addr → Prop} {σ : L2.St} {H H' : Hp} {β β' : List Addr} {ρ : Rho} {S S' : Store}
/-- a container that no slot has and that is kept apart is changed -/
theorem LR.poke {p : Addr} {o : HO} (L : LR C cf oa P σ H β ρ S) (hp : P p) (h0 : cf.H0 p = none) (hn : ∀ i, oa i ≠ some p) (ht : ∀ xs, ¬ Rd H p (.tup xs)) (hf : ∀ o u, H p ≠ some (.frz o u)) : LR C cf oa P σ (upd H p o) β ρ S where
  len := L.len
  p := fun a h => by
    refine ⟨?_, (L.p a h).2⟩
    by_cases e : a = p
    · rw [e, upd_same]; exact Option.some_ne_none _
    · rw [upd_ne e]; exact (L.p a h).1
  sub := L.sub
  p0 := L.p0
  ext := ⟨L.ext.pre, fun a u h1 h2 => by
      have ne : a ≠ p := fun e => by rw [e, h0] at h1; cases h1
      rw [upd_ne ne]; exact L.ext.keep a u h1 h2, L.ext.fresh, fun a xs h => by
      have r := L.ext.tups a xs h
      have ne : a ≠ p := fun e => ht xs (e ▸ r)
      unfold Rd; rw [upd_ne ne]; exact r, fun a h => by
      by_cases e : a = p
      · rw [e, upd_same]; exact Option.some_ne_none _
      · rw [upd_ne e]; exact L.ext.stay a h, fun a o u h => by rw [upd_ne (fun z => by rw [z, h0] at h; cases h)]; exact L.ext.fzs a o u h⟩
  own := L.own
  inj := L.inj
  st := L.st.own hp (L.p p hp).2 ht
  slot := fun i d h => let ⟨v, q1, q2⟩ := L.slot i d h; ⟨v, q1, q2.set (.inl hp) ht⟩
  oslot := fun i d h => let ⟨a, q1, q2, q3⟩ := L.oslot i d h; ⟨a, q1, q2, q3.set (.inl hp) ht fun e => hn i (e ▸ q1)⟩
  xslot := fun i x h => let ⟨a, h1, h2⟩ := L.xslot i x h; ⟨a, h1, h2.set hp ht⟩
theorem Tr.poke {b : Bool} {p : Addr} {o : HO} (t : Tr b H β S H' β' S') (hp : H p = none) (ht : ∀ xs, ¬ Rd H' p (.tup xs)) (hf : ∀ o u, H' p ≠ some (.frz o u)) : Tr b H β S (upd H' p o) β' S' where
  ext := ⟨t.ext.pre, fun a u h1 h2 => by rw [upd_ne (ne_of_none h1 hp)]; exact t.ext.keep a u h1 h2, t.ext.fresh, fun a xs h => by
      have r := t.ext.tups a xs h
      have ne : a ≠ p := fun e => ht xs (e ▸ r)
      unfold Rd; rw [upd_ne ne]; exact r, fun a h => by
      by_cases e : a = p
      · rw [e, upd_same]; exact Option.some_ne_none _
      · rw [upd_ne e]; exact t.ext.stay a h, fun a o u h => by rw [upd_ne (fun z => by rw [z, hp] at h; cases h)]; exact t.ext.fzs a o u h⟩
  ro := fun e => let ⟨q1, q2, q3⟩ := t.ro e; ⟨fun a u h => by rw [upd_ne (ne_of_none h hp)]; exact q1 a u h, q2, q3⟩
theorem wipeR_length (ρ : Rho) : ∀ vs : List Nat, (wipeR ρ vs).length = ρ.length
  | [] => rfl
  | v :: vs => by unfold wipeR; rw [List.length_set, wipeR_length ρ vs]
theorem wipeR_in {ρ : Rho} {i : Nat} : ∀ {vs : List Nat}, i ∈ vs → i < ρ.length → (wipeR ρ vs)[i]? = some .un
  | [], h, _ => nomatch h
  | v :: vs, h, hl => by
    unfold wipeR
    by_cases e : v = i
    · subst e; rw [List.getElem?_set_self (by rw [wipeR_length]; exact hl)]
    · rw [List.getElem?_set_ne e]
      exact wipeR_in ((List.mem_cons.mp h).resolve_left fun z => e z.symm) hl
theorem wipeR_out {ρ : Rho} {i : Nat} : ∀ {vs : List Nat}, i ∉ vs → (wipeR ρ vs)[i]? = ρ[i]?
  | [], _ => rfl
  | v :: vs, h => by
    unfold wipeR
    rw [List.getElem?_set_ne fun e => h (by rw [e]; exact List.mem_cons_self)]
    exact wipeR_out fun m => h (List.mem_cons_of_mem _ m)
/-- the block's own names forgotten -/
theorem LR.wipe (L : LR C cf oa P σ H β ρ S) (vs : List Nat) : LR C cf oa P (L2.wipe σ vs) H β (wipeR ρ vs) S where
  len := by rw [wipe_length, wipeR_length]; exact L.len
  p := L.p
  sub := L.sub
  p0 := L.p0
  ext := L.ext
  own := L.own
  inj := L.inj
  st := L.st
  slot := fun i d h => by
    by_cases m : i ∈ vs
    · by_cases hl : i < ρ.length
      · rw [wipeR_in m hl] at h; cases h
      · rw [List.getElem?_eq_none (by rw [wipeR_length]; omega)] at h; cases h
    · rw [wipeR_out m] at h
      obtain ⟨v, q1, q2⟩ := L.slot i d h
      exact ⟨v, by rw [L2.wipe_out m]; exact q1, q2⟩
  oslot := fun i d h => by
    by_cases m : i ∈ vs
    · by_cases hl : i < ρ.length
      · rw [wipeR_in m hl] at h; cases h
      · rw [List.getElem?_eq_none (by rw [wipeR_length]; omega)] at h; cases h
    · rw [wipeR_out m] at h
      obtain ⟨a, q0, q1, q2⟩ := L.oslot i d h
      exact ⟨a, q0, by rw [L2.wipe_out m]; exact q1, q2⟩
  xslot := fun i d h => by
    by_cases m : i ∈ vs
    · by_cases hl : i < ρ.length
      · rw [wipeR_in m hl] at h; cases h
      · rw [List.getElem?_eq_none (by rw [wipeR_length]; omega)] at h; cases h
    · rw [wipeR_out m] at h
      obtain ⟨a, q1, q2⟩ := L.xslot i d h
      exact ⟨a, by rw [L2.wipe_out m]; exact q1, q2⟩
/-- the block's target: it stores to the block's own slots alone, and nothing else changes -/
def BG (X : Cx) (vs : List Nat) (g : GX) (t : TG) : Prop :=
  ∀ (cf : Cf) (oa : Nat → Option Addr) (P : Addr → Prop) (σ : L2.St) (H : Hp) (β : List Addr) (ρ : Rho) (S : Store) (v : V) (d : D) (p : Rho × Store) (Q : L2.St → Hp → Prop), LR (ctOf X) cf oa P (L2.wipe σ vs) H β (wipeR ρ vs) S → RV (ctOf X) H P β v d → g d (wipeR ρ vs) S = some p →
    (∀ σ', L2.wipe σ' vs = L2.wipe σ vs → LR (ctOf X) cf oa P σ' H β p.1 p.2 → p.2 = S → Q σ' H) → t v (L2.wipe σ vs) H Q
end
section
variable {X : Cx} {W : WX} {b : Bool} {tg e : Expr} {ma : EX} {mas it : AX}
theorem wipe_set_in {σ : L2.St} {i : Nat} {x : Option V} : ∀ {vs : List Nat}, i ∈ vs → L2.wipe (σ.set i x) vs = L2.wipe σ vs
  | [], h => nomatch h
  | v :: vs, h => by
    unfold L2.wipe
    by_cases m : i ∈ vs
    · rw [wipe_set_in m]
    · have e : i = v := (List.mem_cons.mp h).resolve_right m
      subst e
      have q : ∀ {ws : List Nat}, i ∉ ws → L2.wipe (σ.set i x) ws = (L2.wipe σ ws).set i x := by
        intro ws
        induction ws with
        | nil => intro _; rfl
        | cons w ws ih =>
          intro hn
          unfold L2.wipe
          rw [ih fun z => hn (List.mem_cons_of_mem _ z), List.set_comm]
          exact fun z => hn (by rw [z]; exact List.mem_cons_self)
      rw [q m, List.set_set]
theorem wipe_wipe {σ : L2.St} : ∀ {vs ws : List Nat}, (∀ v ∈ vs, v ∈ ws) → L2.wipe (L2.wipe σ vs) ws = L2.wipe σ ws
  | [], _, _ => rfl
  | v :: vs, ws, h => by
    have e : L2.wipe σ (v :: vs) = (L2.wipe σ vs).set v none := rfl
    rw [e, wipe_set_in (h v List.mem_cons_self)]
    exact wipe_wipe fun u hu => h u (List.mem_cons_of_mem _ hu)
theorem bg_name {i : Nat} : BG X [i] (gSet i) (gName i) := by
  intro cf oa P σ H β ρ S v d p Q L r e k
  cases e
  refine k _ ?_ ?_ rfl
  · rw [wipe_set_in (List.mem_singleton.mpr rfl), wipe_wipe fun _ h => h]
  · have L2 := L.set (i := i) r
    have hn : wipeR ρ [i] = ρ.set i .un := rfl
    refine ⟨L2.len, L2.p, L2.sub, L2.p0, L2.ext, L.own, L.inj, L2.st, L2.slot, fun j x h => ?_, L2.xslot⟩
    obtain ⟨a, q0, q1, q2⟩ := L2.oslot j x h
    refine ⟨a, ?_, q1, q2⟩
    by_cases ej : j = i
    · rw [if_pos ej] at q0; cases q0
    · rw [if_neg ej] at q0; exact q0
theorem pm_comp0 {wi : TI} {g : GX} {gt : TG} {t : BX} {tt : TT} {te : TE} {vs : List Nat} {σ : L2.St} {H : Hp} {Q : VK}
    (hi : ∀ σ H R, IM (ctOf X) W b it σ H R → wi σ H R) (hg : BG X vs g gt) (ht : ∀ σ H Q, BM (ctOf X) (fun _ _ _ _ => False) b t σ H Q → tt σ H Q) (he : ∀ σ H Q, EM (ctOf X) (fun _ _ _ _ => False) b ma σ H Q → te σ H Q)
    (h : EO (ctOf X) W b (mComp it vs g t ma) σ H Q) : tLc wi gt tt te vs σ H Q := by
  obtain ⟨cf, oa, P, β, ρ, S, L, h⟩ := h
  refine hi _ _ _ ⟨cf, oa, P, β, ρ, S, L, ?_⟩
  unfold mComp at h
  cases ea : it ρ S with
  | stuck => rw [ea] at h; exact h
  | exc e S1 => rw [ea] at h; exact h
  | ok ds S1 =>
    rw [ea] at h
    simp only [R.bind] at h
    intro J H1 β1 t1 L1 im D hD
    have hDs : Same H1 (upd H1 D (.lst [])) := same_laid hD
    -- what a turn finds
    refine ⟨fun i m H2 => m = ds.length - i ∧ i ≤ ds.length ∧ ∃ β2 S2 acc xs, LR (ctOf X) cf oa (fun a => P a ∨ a = D) σ H2 β2 ρ S2 ∧ Tr b H1 β1 S1 H2 β2 S2 ∧ H2 D = some (.lst xs) ∧ RVs (ctOf X) H2 (fun a => P a ∨ a = D) β2 xs acc ∧
        compL vs g t ma (wipeR ρ vs) ds [] S1 = compL vs g t ma (wipeR ρ vs) (ds.drop i) acc S2,
      ⟨ds.length, by simp, Nat.zero_le _, β1, S1, [], [], L1.keepMore hDs hD (by rw [upd_same]; exact Option.some_ne_none _), Tr.same hDs, upd_same, .nil, by rw [List.drop_zero]⟩, ?_⟩
    rintro i m H2 ⟨rfl, hil, β2, S2, acc, xs, L2, t2, hx, rs, eq⟩
    have h0 : cf.H0 D = none := by
      cases z : cf.H0 D with
      | none => rfl
      | some u => exact absurd hD (L1.ext.stay D (by rw [z]; exact Option.some_ne_none _))
    have no : ∀ j, oa j ≠ some D := fun j z => (L1.p D (L1.own j D z).1).1 hD
    obtain ⟨go, stop⟩ := im i H2 (fun a => P a ∨ a = D) β2 (Fx.more t2.ext hD) L2.new
    by_cases hl : i < ds.length
    · right
      have hd : ds[i]? = some ds[i] := List.getElem?_eq_getElem hl
      obtain ⟨g1, g2⟩ := go _ hd
      rw [List.drop_eq_getElem_cons hl] at eq
      simp only [compL] at eq
      refine ⟨g1, fun H' => ∃ β2 S2 acc xs, LR (ctOf X) cf oa (fun a => P a ∨ a = D) σ H' β2 ρ S2 ∧ Tr b H1 β1 S1 H' β2 S2 ∧ H' D = some (.lst xs) ∧ RVs (ctOf X) H' (fun a => P a ∨ a = D) β2 xs acc ∧
        compL vs g t ma (wipeR ρ vs) ds [] S1 = compL vs g t ma (wipeR ρ vs) (ds.drop (i + 1)) acc S2, fun H' hN => ⟨ds.length - (i + 1), by omega, rfl, hl, hN⟩, fun x H3 y => ?_⟩
      obtain ⟨e3, r3⟩ := g2 x H3 y
      have L3 := L2.same e3
      cases eg : g ds[i] (wipeR ρ vs) S2 with
      | none => rw [eg] at eq; rw [eq] at h; exact h.elim
      | some p =>
        rw [eg] at eq
        simp only at eq
        refine hg cf oa _ σ H3 β2 ρ S2 x ds[i] p _ (L3.wipe vs) r3 eg fun σ4 hw L4 hS => ⟨hw, ?_⟩
        -- back to the def's own slots
        have back : ∀ {H5 : Hp} {β5 : List Addr} {S5 : Store}, Tr b H3 β2 S2 H5 β5 S5 → SRel (ctOf X) H5 (fun a => P a ∨ a = D) β5 S5 → LR (ctOf X) cf oa (fun a => P a ∨ a = D) σ H5 β5 ρ S5 := fun t5 s5 => L3.step t5.ext s5
        refine ht _ _ _ ⟨cf, oa, _, β2, p.1, p.2, L4, ?_⟩
        cases et : t p.1 p.2 with
        | stuck => rw [et] at eq; rw [eq] at h; exact h.elim
        | exc e S5 => rw [et] at eq; rw [eq] at h; exact h.elim
        | ok k S5 =>
          rw [et] at eq
          intro H5 β5 t5 L5
          rw [hS] at t5
          have nD : ∀ {H6 : Hp}, H6 D = some (.lst xs) → ∀ ys, ¬ Rd H6 D (.tup ys) := fun {H6} q ys r => by
            rcases r with r | ⟨o, r⟩ <;> (rw [q] at r; cases r)
          have hx5 : H5 D = some (.lst xs) := t5.ext.keep _ _ (e3 _ _ hx) (L3.p D (.inr rfl)).2
          cases k with
          | false =>
            rw [if_neg Bool.false_ne_true]
            exact ⟨β5, S5, acc, xs, back t5 L5.st, t2.trans ((Tr.same e3).trans t5), hx5, (rs.mono (Ext.same e3)).mono t5.ext, eq⟩
          | true =>
            rw [if_pos rfl]
            simp only at eq
            refine he _ _ _ ⟨cf, oa, _, β5, p.1, S5, L5, ?_⟩
            cases ee : ma p.1 S5 with
            | stuck => rw [ee] at eq; rw [eq] at h; exact h.elim
            | exc e S6 => rw [ee] at eq; rw [eq] at h; exact h.elim
            | ok d S6 =>
              rw [ee] at eq
              intro v H6 β6 t6 L6 r6
              have hx6 : H6 D = some (.lst xs) := t6.ext.keep _ _ hx5 (L5.p D (.inr rfl)).2
              have len : xs.length = acc.length := rs.length
              by_cases hz : acc.length < sizeLine
              · simp only [if_pos hz] at eq
                have t36 := t5.trans t6
                have L7 := back t36 L6.st
                have rs6 := ((rs.mono (Ext.same e3)).mono t36.ext)
                refine ⟨xs, hx6, by rw [len]; exact hz, β6, S6, acc ++ [d], xs ++ [v], L7.poke (.inr rfl) h0 no (nD hx6) (fun o u z => by rw [hx6] at z; cases z), (t2.trans ((Tr.same e3).trans t36)).poke hD (nD hx6) (fun o u z => by rw [hx6] at z; cases z), upd_same, ?_, eq⟩
                exact (rs6.append (.cons r6 .nil)).set (.inl (.inr rfl)) (nD hx6)
              · simp only [if_neg hz] at eq
                rw [eq] at h; exact h.elim
    · left
      have e : i = ds.length := by omega
      subst e
      rw [List.drop_length] at eq
      simp only [compL] at eq
      rw [eq] at h
      exact ⟨stop rfl, h D H2 β2 (t1.trans t2) (stay_none t1.ext hD) L2 ⟨xs, hx, rs⟩⟩
end
end Mi

/-! Mi7: comprehensions as rules; defs and their calls. -/
namespace Mi
open PySem PySem.Spec PyProof.Rows L2

section
variable {X : Cx} {W : WX} {b : Bool} {e elt tg iter : Expr} {es ifs : List Expr} {ma m : EX} {mas it : AX} {pos : Pos} {g : GX} {kt : BX}
theorem comp_isL {it : AX} {vs : List Nat} {g : GX} {t : BX} {e : EX} (ρ : Rho) (S : Store) (d : D) (S' : Store) (h : mComp it vs g t e ρ S = .ok d S') : isL d := by
  unfold mComp at h
  cases ei : it ρ S with
  | ok ds S1 =>
    rw [ei] at h
    simp only [R.bind] at h
    cases ec : compL vs g t e (wipeR ρ vs) ds [] S1 with
    | ok ys S2 => rw [ec] at h; cases h; exact ⟨_, rfl⟩
    | exc _ _ => rw [ec] at h; cases h
    | stuck => rw [ec] at h; cases h
  | exc _ _ => rw [ei] at h; cases h
  | stuck => rw [ei] at h; cases h
theorem eo_of_em {C : Ct} {σ : L2.St} {H : Hp} {Q : VK} (hl : ∀ ρ S d S', ma ρ S = .ok d S' → isL d) (h : EM C W b ma σ H Q) : EO C W b ma σ H Q := by
  obtain ⟨cf, oa, P, β, ρ, S, L, h⟩ := h
  refine ⟨cf, oa, P, β, ρ, S, L, ?_⟩
  cases ea : ma ρ S with
  | stuck => rw [ea] at h; exact h
  | exc e S1 => rw [ea] at h; exact h
  | ok d S1 =>
    rw [ea] at h
    intro p H1 β1 e1 hn L1 o
    exact h (.ref p) H1 β1 e1 (L1.forget L.sub fun i a h => (L.own i a h).1) (own_rv o (L.npP hn) (L1.p p (.inr rfl)).2 (hl _ _ _ _ ea))
abbrev PTM (C : Ct) (W : WX) (b : Bool) (X : Cx) (ifs : List Expr) (k : BX) : Prop := PTs X ifs (BM C W b k)
theorem PTs_imp {t t' : TT} (h : PTs X ifs t) (i : ∀ σ H Q, t' σ H Q → t σ H Q) : PTs X ifs t' := ⟨fun pins s σ H Q I hw => h.run pins s σ H Q I (i σ H Q hw)⟩
abbrev W0 : WX := fun _ _ _ _ => False
/-- the parts of a comprehension's block -/
structure Blk (X : Cx) (b : Bool) (scope : Scope) (tg : Expr) (ifs : List Expr) (elt : Expr) (vs : List Nat) (g : GX) (gt : TG) (kt : BX) (m : EX) : Prop where
  hg : ∀ (s : Shared) (H : Hp) (C : Addr) (cl : List (Str × Addr)) (fp : List Addr), PG (X.blk s H scope (compEnvC scope cl C X.env) fp) tg gt
  bg : BG X vs g gt
  ht : ∀ (s : Shared) (H : Hp) (C : Addr) (cl : List (Str × Addr)) (fp : List Addr), PTM (ctOf X) W0 b (X.blk s H scope (compEnvC scope cl C X.env) fp) ifs kt
  he : ∀ (s : Shared) (H : Hp) (C : Addr) (cl : List (Str × Addr)) (fp : List Addr), PM (ctOf X) W0 b (X.blk s H scope (compEnvC scope cl C X.env) fp) elt m
theorem pn_lc {scope : Scope} {own : List (Str × Nat)} {gt : TG} (hc : X.calm = true) (hN : X.N.Nodup) (hi : PIM (ctOf X) W b X tg iter it) (ok : BlkOk X.N X.env.scope scope own) (B : Blk X b scope tg ifs elt (own.map (·.2)) g gt kt m)
    (hs : ∀ x, foldedSetIterable iter X.env x = pure x := by intro _; rfl) : PN (ctOf X) W b X (.ListComp elt [⟨tg, iter, ifs, 0⟩] scope pos) (mComp it (own.map (·.2)) g kt m) :=
  PE_imp (pe_lc hc hN hi ok B.hg B.ht B.he hs) fun σ H Q h => pm_comp0 (fun _ _ _ h => h) B.bg (fun _ _ _ h => h) (fun _ _ _ h => h) h
/-- name = [..] on one line -/
theorem ps_ownLc {i : Nat} {y : Str} {py spos : Pos} {scope : Scope} {own : List (Str × Nat)} {gt : TG} (hc : X.calm = true) (hN : X.N.Nodup) (hy : X.N[i]? = some y) (hyl : X.env.scope.names.lookup y = some .local)
    (hsw : swapsWith (.ListComp elt [⟨tg, iter, ifs, 0⟩] scope pos) (some (.Name y py)) spos.line X.env = pure true) (hi : PIM (ctOf X) W false X tg iter it) (ok : BlkOk X.N X.env.scope scope own) (B : Blk X false scope tg ifs elt (own.map (·.2)) g gt kt m)
    (hs : ∀ x, foldedSetIterable iter X.env x = pure x := by intro _; rfl) : PSM (ctOf X) W X (.Assign [.Name y py] (.ListComp elt [⟨tg, iter, ifs, 0⟩] scope pos) spos) (sOwn i (mComp it (own.map (·.2)) g kt m)) :=
  ps_ownM (ps_setLc hc hN hy hyl hsw hi ok B.hg B.ht B.he hs) fun σ H Q h => pm_comp0 (fun _ _ _ h => h) B.bg (fun _ _ _ h => h) (fun _ _ _ h => h) h
theorem ps_setLcM {i : Nat} {y : Str} {py spos : Pos} {scope : Scope} {own : List (Str × Nat)} {gt : TG} (hc : X.calm = true) (hN : X.N.Nodup) (hy : X.N[i]? = some y) (hyl : X.env.scope.names.lookup y = some .local)
    (hsw : swapsWith (.ListComp elt [⟨tg, iter, ifs, 0⟩] scope pos) (some (.Name y py)) spos.line X.env = pure true) (hi : PIM (ctOf X) W false X tg iter it) (ok : BlkOk X.N X.env.scope scope own) (B : Blk X false scope tg ifs elt (own.map (·.2)) g gt kt m)
    (hs : ∀ x, foldedSetIterable iter X.env x = pure x := by intro _; rfl) : PSM (ctOf X) W X (.Assign [.Name y py] (.ListComp elt [⟨tg, iter, ifs, 0⟩] scope pos) spos) (sSet i (mComp it (own.map (·.2)) g kt m)) :=
  ps_setM (ps_setLc hc hN hy hyl hsw hi ok B.hg B.ht B.he hs) fun σ H Q h => pm_comp0 (fun _ _ _ h => h) B.bg (fun _ _ _ h => h) (fun _ _ _ h => h) (eo_of_em comp_isL h)
theorem bm_true {C : Ct} {σ : L2.St} {H : Hp} {Q : Bool → Hp → Prop} (h : BM C W b bTrue σ H Q) : Q true H := by
  obtain ⟨cf, oa, P, β, ρ, S, L, h⟩ := h
  exact h H β Tr.refl L
end

/-! ### what a def promises -/
def spM (C : Ct) (n : Nat) (f : FX) : Sp := fun vs H Q E => vs.length = n ∧ ∃ P β ds S, SRel C H P β S ∧ (∀ a, P a → H a ≠ none ∧ a ∉ β) ∧ RVs C H P β vs ds ∧ (match f ds S with
  | .ok d S' => ∀ v H' β', Ext H β H' β' → SRel C H' P β' S' → RV C H' P β' v d → Q v H'
  | .exc e S' => ∀ cls x H' β', Ext H β H' β' → SRel C H' P β' S' → ExnAt C H' P β' cls x e → E cls x H'
  | .stuck => False)
theorem SOK.ct {C C' : Ct} (k : C'.K = C.K) (m : C'.mg = C.mg) {H : Hp} {P : Addr → Prop} {β : List Addr} {a : Addr} {so : SO} (h : SOK C H P β a so) : SOK C' H P β a so := by
  cases so with
  | lst ds => obtain ⟨xs, q, r⟩ := h; exact ⟨xs, q, r.ct k m⟩
  | dct ds => obtain ⟨xs, q, r⟩ := h; exact ⟨xs, q, r.ct k m⟩
  | ins c fs => obtain ⟨Ca, dx, vs, h1, q, h2, r⟩ := h; exact ⟨Ca, dx, vs, by rw [m]; exact h1, q, h2, r.ct k m⟩
  | lck ds => obtain ⟨od, xs, q, r⟩ := h; exact ⟨od, xs, q, r.ct k m⟩
  | lkl ds => obtain ⟨od, xs, q, r⟩ := h; exact ⟨od, xs, q, r.ct k m⟩
theorem SRel.ct {C C' : Ct} (k : C'.K = C.K) (m : C'.mg = C.mg) {H : Hp} {P : Addr → Prop} {β : List Addr} {S : Store} (h : SRel C H P β S) : SRel C' H P β S := ⟨h.len, h.nd, fun n a so h1 h2 => (h.ok n a so h1 h2).ct k m⟩
theorem ExnAt.ct {C C' : Ct} (k : C'.K = C.K) (m : C'.mg = C.mg) {H : Hp} {P : Addr → Prop} {β : List Addr} {cls : Value} {d : Option Addr} {e : Exn} (h : ExnAt C H P β cls d e) : ExnAt C' H P β cls d e := by
  obtain ⟨Ca, dd, vs, h1, h2, h3, h4, h6, h7, h5⟩ := h
  exact ⟨Ca, dd, vs, by rw [m]; exact h1, h2, h3, h4, h6, h7, fun f x q => let ⟨v, q1, q2⟩ := h5 f x q; ⟨v, q1, q2.ct k m⟩⟩
theorem spM_ct {C C' : Ct} (k : C'.K = C.K) (m : C'.mg = C.mg) {n : Nat} {f : FX} {vs : List V} {H : Hp} {Q : VK} {E : XK} (h : spM C n f vs H Q E) : spM C' n f vs H Q E := by
  obtain ⟨hl, P, β, ds, S, h1, h2, h3, h4⟩ := h
  refine ⟨hl, P, β, ds, S, h1.ct k m, h2, h3.ct k m, ?_⟩
  cases e : f ds S with
  | stuck => rw [e] at h4; exact h4
  | exc x S' => rw [e] at h4; exact fun cls d H' β' a b c => h4 cls d H' β' a (b.ct k.symm m.symm) (c.ct k.symm m.symm)
  | ok d S' => rw [e] at h4; exact fun v H' β' a b c => h4 v H' β' a (b.ct k.symm m.symm) (c.ct k.symm m.symm)
/-- a def that keeps its promise wherever nothing is being shown (no repr is under way) -/
structure FnG (P : Program) (w : World) (K : PySem.W.Frag) (mg : Str → Option Value) (base : Heap) (k : Nat) (f : Addr) (fd : FuncData) (ps : List Str) (sp : Sp) : Prop where
  len : ∀ vs H Q E, sp vs H Q E → vs.length = ps.length
  run : ∀ (A : Around) (outer : List Env) (s : Shared) (H : Hp) (args : Args) (us : List Value) (vs : List V) (Q : VK) (E : XK), A.guards = some [] → Room k A → Env0 P w K mg base A outer s H →
    BindsTo s fd args (ps.zip us) → Vals vs us → sp vs H Q E → codeAny (model P w) A (.call (.ref f) args) (CR (L2.CX P w) outer P w H s Q E) s
theorem fn_stuck {P : Program} {w : World} {K : PySem.W.Frag} {mg : Str → Option Value} {base : Heap} {k : Nat} {f : Addr} {fd : FuncData} {ps : List Str} {fm : FX} (h : ∀ ds S, fm ds S = .stuck) : FnG P w K mg base k f fd ps (spM ⟨K, mg, w, []⟩ ps.length fm) where
  len := fun vs H Q E h => h.1
  run := fun A outer s H args us vs Q E hg hr e0 hb r hs => by
    obtain ⟨_, P, β, ds, S, _, _, _, q⟩ := hs
    rw [h] at q
    exact q.elim
theorem LR.start {C : Ct} {H : Hp} {P : Addr → Prop} {β : List Addr} {S : Store} {vs : List V} {ds : List D} {N : List Str} (st : SRel C H P β S) (hp : ∀ a, P a → H a ≠ none ∧ a ∉ β) (r : RVs C H P β vs ds) :
    LR C ⟨H, β, P, []⟩ (fun _ => none) P (L2.start N vs) H β (ds.map Sl.sh ++ List.replicate (N.length - ds.length) Sl.un) S where
  len := by unfold L2.start; simp [r.length]
  p := hp
  sub := fun _ h => h
  p0 := fun a h => (hp a h).1
  ext := ⟨⟨[], (List.append_nil β).symm⟩, fun a o h _ => .inl h, fun _ h => .inl h, fun _ _ h => h, fun _ h => h, fun _ _ _ h => h⟩
  own := fun _ _ h => nomatch h
  inj := fun _ _ _ h => nomatch h
  st := st
  slot := fun i d h => by
    by_cases hi : i < ds.length
    · rw [List.getElem?_append_left (by simpa using hi), List.getElem?_map] at h
      cases e : ds[i]? with
      | none => rw [e] at h; cases h
      | some x =>
        rw [e] at h
        cases h
        obtain ⟨v, hv, rv⟩ := r.get e
        refine ⟨v, ?_, rv⟩
        unfold L2.start
        rw [List.getElem?_append_left (by simpa [r.length] using hi), List.getElem?_map, hv]
        rfl
    · rw [List.getElem?_append_right (by simpa using hi), List.getElem?_replicate] at h
      split at h <;> cases h
  oslot := fun i d h => by
    by_cases hi : i < ds.length
    · rw [List.getElem?_append_left (by simpa using hi), List.getElem?_map] at h
      cases e : ds[i]? with
      | none => rw [e] at h; cases h
      | some x => rw [e] at h; cases h
    · rw [List.getElem?_append_right (by simpa using hi), List.getElem?_replicate] at h
      split at h <;> cases h
  xslot := fun i d h => by
    by_cases hi : i < ds.length
    · rw [List.getElem?_append_left (by simpa using hi), List.getElem?_map] at h
      cases e : ds[i]? with
      | none => rw [e] at h; cases h
      | some x => rw [e] at h; cases h
    · rw [List.getElem?_append_right (by simpa using hi), List.getElem?_replicate] at h
      split at h <;> cases h
section
variable {P : Program} {w : World} {K : PySem.W.Frag} {mg : Str → Option Value} {base : Heap}
abbrev XOf (P : Program) (w : World) (K : PySem.W.Frag) (mg : Str → Option Value) (base : Heap) (N : List Str) (qual : Str) (st : Stmt) (f : Addr) (cdv : Value) (A : Around) (outer : List Env) (s : Shared) (H : Hp) (E : XK) : Cx :=
  cxOf (L2.CX P w) P w K mg base N qual (defScope st) f cdv A outer s H E
/-- a def's body run at its arguments, by any reading of it -/
theorem fng_of {x qual : Str} {st : Stmt} {f : Addr} {fd : FuncData} {N ps : List Str} {k : Nat} {sp : Sp} (F : Fun K x qual st f fd) (S : FnScope N ps (defScope st)) (len : ∀ vs H Q E, sp vs H Q E → vs.length = ps.length)
    (body : ∀ (cdv : Value) (A : Around) (outer : List Env) (s : Shared) (H : Hp) (vs : List V) (Q : VK) (E : XK), A.guards = some [] → Room k (XOf P w K mg base N qual st f cdv A outer s H E).A → sp vs H Q E →
      ∃ t, PSs (XOf P w K mg base N qual st f cdv A outer s H E) (defBody st) t ∧ t { nx := fun _ H' => Q .non H', rt := Q } (L2.start N vs) H) : FnG P w K mg base (k + 1) f fd ps sp := by
  obtain ⟨oc, od, kV, doc, pm, an, cdv, ct, osl, rfl, at_f, code_f⟩ := F.ex
  constructor
  · exact len
  intro A outer s H args us vs Q E guards room env0 bound vals prom
  have inK : K.In s.heap := env0.mod.kin.keeps (fun b o e => (env0.bs b o e).1)
  have kinds : ∀ y ∈ ps.zip us, (defScope st).names.lookup y.1 = some .local ∨ ((defScope st).names.lookup y.1 = some .cell ∧ ((cellsFrom (s.heap.objs.size + 1) (defScope st).names []).lookup y.1).isSome = true) := by
    rintro ⟨n, v⟩ hy
    cases S.par n (List.of_mem_zip hy).1 with
    | inl q => exact .inl q
    | inr q => exact .inr ⟨q, PySem.W.cellsFrom_some _ _ _ (.inl q)⟩
  refine codeAny_call_function room.depth (inK _ _ at_f) rfl S.co S.gen rfl (PySem.W.codeRec_of inK code_f) (bound _ _ _ _ ?_)
  refine wpAny_newFunctionEnv_cells S.kind kinds ?_
  rintro _ rfl s1 entered
  refine ⟨(env0.mod.nolimit.keeps fun b o e => (env0.bs b o e).1).keeps entered.toInCall.keep, codeAny_func ?_⟩
  obtain ⟨t, run, start⟩ := body cdv A outer s H vs Q E guards (room.deeper _) prom
  have inv : L2.Inv (XOf P w K mg base N qual st f cdv A outer s H E) [] (L2.start N vs) H s1 := inv_start S room.hd env0 (len _ _ _ _ prom) vals entered
  refine wpAny_mono (run.run [] s1 _ H _ inv start) ?_ fun _ _ h => h
  intro flow s' h
  cases flow with
  | ret u =>
    obtain ⟨v, σ', H', J, rv, q⟩ := h
    exact ⟨v, H', J.os, J.bare, J.base, J.hok, rv, q⟩
  | next =>
    obtain ⟨σ', H', J, q⟩ := h
    exact ⟨.non, H', J.os, J.bare, J.base, J.hok, rfl, q⟩
  | brk => obtain ⟨_, _, _, q⟩ := h; exact q.elim
  | cont => obtain ⟨_, _, _, q⟩ := h; exact q.elim
/-- THE RULE for a def -/
theorem fn_ok {x qual : Str} {st : Stmt} {f : Addr} {fd : FuncData} {N ps : List Str} {k : Nat} {m : SX} (F : Fun K x qual st f fd) (S : FnScope N ps (defScope st))
    (hbody : ∀ (cdv : Value) (A : Around) (outer : List Env) (s : Shared) (H : Hp) (E : XK), (XOf P w K mg base N qual st f cdv A outer s H E).A.guards = some [] → Room k (XOf P w K mg base N qual st f cdv A outer s H E).A →
      PSSM ⟨K, mg, w, []⟩ (fun cls d _ H' => E cls d H') (XOf P w K mg base N qual st f cdv A outer s H E) (defBody st) m) : FnG P w K mg base (k + 1) f fd ps (spM ⟨K, mg, w, []⟩ ps.length (mDef N.length m)) := by
  refine fng_of F S (fun vs H Q E h => h.1) fun cdv A outer s H vs Q E hg hr h => ?_
  obtain ⟨hl, Pf, β, ds, St, st', hp, r, q⟩ := h
  refine ⟨_, hbody cdv A outer s H E hg hr, ?_⟩
  refine ⟨⟨H, β, Pf, []⟩, _, Pf, β, _, St, LR.start st' hp r, ?_⟩
  unfold mDef at q
  cases e : m (ds.map Sl.sh ++ List.replicate (N.length - ds.length) Sl.un) St with
  | nx ρ' S' =>
    rw [e] at q
    intro σ' H' β' oa' P' L' f'
    exact q .non H' β' (L'.ext.done rfl) (L'.st.less L'.sub) .non
  | rt d S' =>
    rw [e] at q
    intro v H' β' x' _ s' r'
    exact q v H' β' (x'.done rfl) s' r'
  | bk ρ' S' => rw [e] at q; exact q.elim
  | ct ρ' S' => rw [e] at q; exact q.elim
  | exc ex ρ' S' =>
    rw [e] at q
    intro cls x σ' H' β' oa' P' L' f' ea
    refine q cls x H' β' (L'.ext.done rfl) (L'.st.less L'.sub) ?_
    obtain ⟨Ca, dd, vs, h1, h2, h3, h4, h6, h7, h5⟩ := ea
    exact ⟨Ca, dd, vs, h1, h2, h3, h4, h6, fun z => h7 (L'.sub _ z), fun f x hx => let ⟨v, q1, q2⟩ := h5 f x hx; ⟨v, q1, q2.less L'.sub⟩⟩
  | stuck => rw [e] at q; exact q.elim
end

/-! ### calls -/
/-- the arguments in the parameters' order: places among the positional ones, then the keywords' -/
def pick {α : Type} (idx : List Nat) (us ws : List α) : List α := idx.filterMap fun i => (us ++ ws)[i]?
def mCall (f : FX) (idx : List Nat) (a k : AX) : EX := fun ρ S => (a ρ S).bind fun us S1 => (k ρ S1).bind fun ws S2 => f (pick idx us ws) S2
def ALen (a : AX) (n : Nat) : Prop := ∀ ρ S us S', a ρ S = .ok us S' → us.length = n
theorem alen_nil : ALen aNil 0 := fun ρ S us S' h => by cases h; rfl
theorem alen_cons {a : EX} {r : AX} {n : Nat} (h : ALen r n) : ALen (aCons a r) (n + 1) := fun ρ S us S' e => by
  unfold aCons at e
  cases ea : a ρ S with
  | stuck => rw [ea] at e; cases e
  | exc x S1 => rw [ea] at e; cases e
  | ok d S1 =>
    rw [ea] at e
    simp only [R.bind] at e
    cases er : r ρ S1 with
    | stuck => rw [er] at e; cases e
    | exc x S2 => rw [er] at e; cases e
    | ok ds S2 =>
      rw [er] at e
      cases e
      simp [h ρ S1 ds _ er]
theorem pick_vals {idx : List Nat} {vs zs : List V} {us ws : List Value} (r : Vals vs us) (q : Vals zs ws) : Vals (pick idx vs zs) (pick idx us ws) := by
  have h := r.append q
  induction idx with
  | nil => exact .nil
  | cons i idx ih =>
    unfold pick
    rw [List.filterMap_cons, List.filterMap_cons]
    cases e : (vs ++ zs)[i]? with
    | none => rw [h.none_of e]; exact ih
    | some v =>
      obtain ⟨u, e2, rv⟩ := h.get e
      rw [e2]
      exact .cons rv ih
theorem pick_rvs {C : Ct} {H : Hp} {P : Addr → Prop} {β : List Addr} {idx : List Nat} {vs zs : List V} {ds es : List D} (r : RVs C H P β vs ds) (q : RVs C H P β zs es) : RVs C H P β (pick idx vs zs) (pick idx ds es) := by
  have h := r.append q
  induction idx with
  | nil => exact .nil
  | cons i idx ih =>
    unfold pick
    rw [List.filterMap_cons, List.filterMap_cons]
    cases e : (vs ++ zs)[i]? with
    | none =>
      have : (ds ++ es)[i]? = none := by
        rw [List.getElem?_eq_none_iff] at e ⊢
        rw [← h.length]; exact e
      rw [this]; exact ih
    | some v =>
      obtain ⟨d, e2, rv⟩ := h.of e
      rw [e2]
      exact .cons rv ih
/-- a def of the module that keeps its promise -/
structure DefOk (P : Program) (w : World) (K : PySem.W.Frag) (mg : Str → Option Value) (base : Heap) (k : Nat) (x : Str) (st : Stmt) (ps : List Str) (f : FX) : Prop where
  ex : ∃ (fa : Addr) (y qual : Str) (fd : FuncData), Fun K y qual st fa fd ∧ mg x = some (.ref fa) ∧ FnG P w K mg base k fa fd ps (spM ⟨K, mg, w, []⟩ ps.length f)
/-- how a def binds us positional arguments and the keywords ks -/
def BindOk (st : Stmt) (ps ks : List Str) (n : Nat) (idx : List Nat) : Prop :=
  ∀ (x qual : Str) (kV doc pm : Value) (an : Option Addr) (cdv ct : Value) (us ws : List Value), us.length = n → ws.length = ks.length → bindArgs (PySem.W.fnOf x qual (defArgs st) (defBody st) (defScope st) .none kV doc pm an cdv ct) ⟨us, ks.zip ws⟩ = pure (ps.zip (pick idx us ws))
abbrev PKM (C : Ct) (W : WX) (b : Bool) (X : Cx) (kws : List Keyword) (m : AX) : Prop := PK X kws (AM C W b m)
section
variable {X : Cx} {W : WX} {b : Bool} {e : Expr} {es : List Expr} {kws : List Keyword} {me : EX} {ma mk : AX} {pos p : Pos} {x : Str} {st : Stmt} {ps ks : List Str} {f : FX} {k j n : Nat} {idx : List Nat}
theorem PK_imp {t t' : TA} (h : PK X kws t) (i : ∀ σ H Q, t' σ H Q → t σ H Q) : PK X kws t' := ⟨fun pos pins s σ H Q I hw => h.run pos pins s σ H Q I (i σ H Q hw)⟩
theorem pkm_nil : PKM (ctOf X) W b X [] aNil := PK_imp pk_nil fun σ H Q h => by
  obtain ⟨cf, oa, P, β, ρ, S, L, h⟩ := h
  exact h [] H β Tr.refl L .nil
theorem pkm_cons {nm : Option Str} {kpos : Pos} (ha : PM (ctOf X) W b X e me) (hr : PKM (ctOf X) W b X kws mk) : PKM (ctOf X) W b X (⟨nm, e, kpos⟩ :: kws) (aCons me mk) :=
  PK_imp (pk_cons ha hr) fun σ H Q h => am_cons h
theorem run_call {fa : Addr} {fd : FuncData} {sp : Sp} {σ : L2.St} {E : XK} {pins : List (Addr × Obj)} {H : Hp} {s : Shared} {Q : VK} {us ws us' : List Value} {vs : List V} (F : FnG X.prog X.w X.K X.mg X.base k fa fd ps sp) (hgd : X.A.guards = some []) (hr : Room k X.A) (hx : PassesAt (L2.CX X.prog X.w) X σ E)
    (I : Inv X pins σ H s) (bd : BindsTo s fd ⟨us, ks.zip ws⟩ (ps.zip us')) (r : Vals vs us') (h : sp vs H Q E) : wpAny (model X.prog X.w) X.A (call (.ref fa) us (ks.zip ws)) (EP X pins σ Q) X.xe s := by
  refine wpAny_call (codeAny_mono (F.run X.A X.stack s H ⟨us, ks.zip ws⟩ us' vs Q E hgd hr I.env0 bd r h) fun r s' hq => ?_)
  cases r with
  | error e => exact hx pins H s e s' I hq
  | ok fl =>
    cases fl with
    | ret u => exact I.after hq
    | next => exact False.elim hq
    | brk => exact False.elim hq
    | cont => exact False.elim hq
/-- from an expression's reading to the callee's promise -/
theorem call_sp {C : Ct} {cf : Cf} {oa : Nat → Option Addr} {P : Addr → Prop} {σ : L2.St} {H H1 : Hp} {β β1 : List Addr} {ρ : Rho} {S S1 : Store} {vs : List V} {ds : List D} {Q : VK} {n : Nat} (t : Tr false H β S H1 β1 S1) (L1 : LR C cf oa P σ H1 β1 ρ S1) (r : RVs C H1 P β1 vs ds) (hn : vs.length = n)
    (h : match f ds S1 with
      | .ok d S' => ∀ v H' β', Tr false H β S H' β' S' → LR C cf oa P σ H' β' ρ S' → RV C H' P β' v d → Q v H'
      | .exc e S' => XP C W cf oa P σ false H β ρ S e S'
      | .stuck => False) : spM C n f vs H1 Q (WE W σ) := by
  refine ⟨hn, P, β1, ds, S1, L1.st, L1.p, r, ?_⟩
  cases ef : f ds S1 with
  | stuck => rw [ef] at h; exact h
  | exc e S' =>
    rw [ef] at h
    intro cls x H' β' e1 s1 ea
    exact h cls x H' β' ⟨t.ext.trans e1, fun z => nomatch z⟩ (L1.step e1 s1) ea
  | ok d S' =>
    rw [ef] at h
    intro v H' β' e1 s1 rv
    exact h v H' β' ⟨t.ext.trans e1, fun z => nomatch z⟩ (L1.step e1 s1) rv
theorem am_call {σ : L2.St} {H : Hp} {Q : VK} {nv : Nat} (h : EM (ctOf X) W false (mCall f idx ma mk) σ H Q) (hl : ∀ vs zs : List V, vs.length = n → zs.length = ks.length → (pick idx vs zs).length = nv) (h1 : ALen ma n) (h2 : ALen mk ks.length) :
    AM (ctOf X) W false ma σ H fun vs H1 => AM (ctOf X) W false mk σ H1 fun zs H2 => vs.length = n ∧ zs.length = ks.length ∧ spM (ctOf X) nv f (pick idx vs zs) H2 Q (WE W σ) := by
  obtain ⟨cf, oa, P, β, ρ, S, L, h⟩ := h
  refine ⟨cf, oa, P, β, ρ, S, L, ?_⟩
  unfold mCall at h
  cases ea : ma ρ S with
  | stuck => rw [ea] at h; exact h
  | exc e S1 => rw [ea] at h; exact h
  | ok us S1 =>
    rw [ea] at h
    simp only [R.bind] at h
    intro vs H1 β1 t1 L1 r1
    refine ⟨cf, oa, P, β1, ρ, S1, L1, ?_⟩
    cases eb : mk ρ S1 with
    | stuck => rw [eb] at h; exact h
    | exc e S2 => rw [eb] at h; intro cls d H' β' e2 L2 ex; exact h cls d H' β' (t1.trans e2) L2 ex
    | ok ws S2 =>
      rw [eb] at h
      simp only [R.bind] at h
      intro zs H2 β2 t2 L2 r2
      have n1 : vs.length = n := by rw [r1.length]; exact h1 _ _ _ _ ea
      have n2 : zs.length = ks.length := by rw [r2.length]; exact h2 _ _ _ _ eb
      exact ⟨n1, n2, call_sp (t1.trans t2) L2 (pick_rvs (r1.mono t2.ext) r2) (hl vs zs n1 n2) h⟩
theorem bind_to {s : Shared} {qual : Str} {fa : Addr} {fd : FuncData} {us ws : List Value} (F : Fun X.K x qual st fa fd) (B : BindOk st ps ks n idx) (hu : us.length = n) (hw : ws.length = ks.length) : BindsTo s fd ⟨us, ks.zip ws⟩ (ps.zip (pick idx us ws)) := by
  obtain ⟨oc, od, kV, doc, pm, an, cdv, ct, osl, rfl, lk, hcd⟩ := F.ex
  exact .of_eq (B _ qual kV doc pm an cdv ct us ws hu hw)
/-- f(e, .., k = v, ..) -/
theorem pm_call (Dk : DefOk X.prog X.w X.K X.mg X.base k x st ps f) (hgd : X.A.guards = some []) (hr : Room j X.A) (hkj : k ≤ j) (tk : Takes X W) (B : BindOk st ps ks n idx) (ha : PAM (ctOf X) W false X (e :: es) ma) (hkw : PKM (ctOf X) W false X kws mk) (h1 : ALen ma n) (h2 : ALen mk ks.length)
    (hl : ∀ vs zs : List V, vs.length = n → zs.length = ks.length → (pick idx vs zs).length = ps.length) (hg : Gl X x := by rfl)
    (hall : (backToKw pos (keywordEach kws X.env)).all (·.1.isSome) = true := by rfl) (hks : (backToKw pos (keywordEach kws X.env)).filterMap (·.1) = ks := by rfl)
    (hdb : (x == ("__debug__" : Str)) = false := by decide) (he : starEach (e :: es) X.env = (false, eval e X.env) :: starEach es X.env := by rfl)
    (hpl : ((backTo pos (starEach (e :: es) X.env)).any (·.1) || (backToKw pos (keywordEach kws X.env)).any (·.1.isNone)) = false := by rfl) : PM (ctOf X) W false X (.Call (.Name x p) (e :: es) kws pos) (mCall f idx ma mk) := by
  obtain ⟨fa, y, qual, fd, F, hm, G⟩ := Dk.ex
  refine ⟨fun pins s σ H Q I h => ?_⟩
  have h := am_call h hl h1 h2
  refine wpAny_Call_Name_kw (ld_glob I hg hm ?_ hdb)
  refine PySem.W.callWith_KW (h₀ := X.base) I.ok.mod.kin F.kp hall (thn (ha.run pos pins s σ H _ I h) fun us s1 ⟨vs, H1, I1, r, q⟩ => ?_) hpl he
  refine thn (hkw.run pos pins s1 σ H1 _ I1 q) fun ws s2 ⟨zs, H2, I2, rz, n1, n2, q2⟩ => ⟨I2.kIn, ?_⟩
  rw [hks]
  exact run_call G hgd (hr.mono hkj) (passAt tk σ) I2 (us := us) (bind_to F B (by rw [← r.length]; exact n1) (by rw [← rz.length]; exact n2)) (pick_vals r rz) (spM_ct (C := ctOf X) (C' := ⟨X.K, X.mg, X.w, []⟩) rfl rfl q2)
/-- f(k = v, ..) -/
theorem pm_callK (Dk : DefOk X.prog X.w X.K X.mg X.base k x st ps f) (hgd : X.A.guards = some []) (hr : Room j X.A) (hkj : k ≤ j) (tk : Takes X W) (B : BindOk st ps ks 0 idx) (hkw : PKM (ctOf X) W false X kws mk) (h2 : ALen mk ks.length)
    (hl : ∀ vs zs : List V, vs.length = 0 → zs.length = ks.length → (pick idx vs zs).length = ps.length) (hg : Gl X x := by rfl)
    (hall : (backToKw pos (keywordEach kws X.env)).all (·.1.isSome) = true := by rfl) (hks : (backToKw pos (keywordEach kws X.env)).filterMap (·.1) = ks := by rfl)
    (hdb : (x == ("__debug__" : Str)) = false := by decide)
    (hpl : ((backTo pos (starEach [] X.env)).any (·.1) || (backToKw pos (keywordEach kws X.env)).any (·.1.isNone)) = false := by rfl) : PM (ctOf X) W false X (.Call (.Name x p) [] kws pos) (mCall f idx aNil mk) := by
  obtain ⟨fa, y, qual, fd, F, hm, G⟩ := Dk.ex
  refine ⟨fun pins s σ H Q I h => ?_⟩
  have h := am_call h hl alen_nil h2
  have h' : AM (ctOf X) W false mk σ H fun zs H2 => zs.length = ks.length ∧ spM (ctOf X) ps.length f (pick idx [] zs) H2 Q (WE W σ) := by
    obtain ⟨cf, oa, P, β, ρ, S, L, h⟩ := h
    have q := h [] H β Tr.refl L .nil
    obtain ⟨cf, oa, P, β, ρ, S, L, q⟩ := q
    refine ⟨cf, oa, P, β, ρ, S, L, ?_⟩
    cases eb : mk ρ S with
    | stuck => rw [eb] at q; exact q
    | exc e S2 => rw [eb] at q; exact q
    | ok ws S2 => rw [eb] at q; intro zs H2 β2 t2 L2 r2; exact (q zs H2 β2 t2 L2 r2).2
  refine wpAny_Call_Name_kw (ld_glob I hg hm ?_ hdb)
  refine PySem.W.callWith_KW0 (h₀ := X.base) I.ok.mod.kin F.kp hall (thn (hkw.run pos pins s σ H _ I h') fun ws s2 ⟨zs, H2, I2, rz, n2, q2⟩ => ⟨I2.kIn, ?_⟩) hpl
  rw [hks]
  exact run_call (us := []) G hgd (hr.mono hkj) (passAt tk σ) I2 (bind_to F B rfl (by rw [← rz.length]; exact n2)) (pick_vals .nil rz) (spM_ct (C := ctOf X) (C' := ⟨X.K, X.mg, X.w, []⟩) rfl rfl q2)
end
end Mi

/-! Mi8: operations by values. -/
namespace Mi
open PySem PySem.Spec PyProof.Rows L2

/-! ### the pure side -/
def okMul (i j : Int) : Bool := decide (i.natAbs < 2 ^ 64) || decide (j.natAbs < 2 ^ 64)
def dAdd (S : Store) (x y : D) : Option D := match x, y with
  | .int i, .int j => some (.int (i + j))
  | .str i, .str j => if i.length + j.length ≤ sizeLine then some (.str (i ++ j)) else none
  | .tup xs, .tup ys => if xs.length + ys.length ≤ sizeLine then some (.tup (xs ++ ys)) else none
  | x, y => match viewL S x, viewL S y with
    | some xs, some ys => if xs.length + ys.length ≤ sizeLine then some (.lst (xs ++ ys)) else none
    | _, _ => none
def dCat (S : Store) (x y : D) : Option D := match viewL S x, viewL S y with
    | some xs, some ys => if xs.length + ys.length ≤ sizeLine then some (.lst (xs ++ ys)) else none
    | _, _ => none
def dSub (_ : Store) (x y : D) : Option D := match x, y with
  | .int i, .int j => some (.int (i - j))
  | _, _ => none
def strRep (x : Str) (n : Int) : Str := if n < 1 then Str.empty else if (n == 1 || x.length == 0) = true then x else ⟨(List.replicate n.toNat x.cps).foldl (· ++ ·) #[]⟩
def dMul (_ : Store) (x y : D) : Option D := match x, y with
  | .int i, .int j => if okMul i j = true then some (.int (i * j)) else none
  | .str x, .int n => if n.natAbs ≤ 1000000 ∧ x.length ≤ 1000000 ∧ Builtin.Str.tooLong (x.length * n.toNat) = false then some (.str (strRep x n)) else none
  | _, _ => none
def dFdiv (_ : Store) (x y : D) : Option D := match x, y with
  | .int i, .int j => if j ≠ 0 ∧ j.natAbs < 1073741824 then some (.int (i.fdiv j)) else none
  | _, _ => none
def dMod (_ : Store) (x y : D) : Option D := match x, y with
  | .int i, .int j => if j ≠ 0 then some (.int (i.fmod j)) else none
  | _, _ => none
def dPow (_ : Store) (x y : D) : Option D := match x, y with
  | .int i, .int j => if 0 ≤ j ∧ j ≤ 1000000 ∧ i.natAbs < 2 ^ 64 then some (.int (i ^ j.toNat)) else none
  | _, _ => none
def dNeg (_ : Store) (x : D) : Option D := match x with
  | .int i => some (.int (-i))
  | _ => none
def dLt (_ : Store) (x y : D) : Option D := match x, y with
  | .int i, .int j => some (.bl (decide (i < j)))
  | .str i, .str j => some (.bl (decide (i.cps.toList < j.cps.toList)))
  | _, _ => none
def dLe (_ : Store) (x y : D) : Option D := match x, y with
  | .int i, .int j => some (.bl (decide (i ≤ j)))
  | .str i, .str j => some (.bl (!decide (j.cps.toList < i.cps.toList)))
  | _, _ => none
def dGt (_ : Store) (x y : D) : Option D := match x, y with
  | .int i, .int j => some (.bl (decide (j < i)))
  | .str i, .str j => some (.bl (decide (j.cps.toList < i.cps.toList)))
  | _, _ => none
def dGe (_ : Store) (x y : D) : Option D := match x, y with
  | .int i, .int j => some (.bl (decide (j ≤ i)))
  | .str i, .str j => some (.bl (!decide (i.cps.toList < j.cps.toList)))
  | _, _ => none

section
variable {X : Cx}
theorem opI_mk {f : Value → Value → Sem Value} {C : Int → Int → Prop} {g : Int → Int → V} {r : R2} (h : OpR X f (rI C g)) (i : ∀ x y H Q, r x y H Q → rI C g x y H Q) : OpR X f r :=
  fun pins s σ H x y v u Q I rx ry q => h pins s σ H x y v u Q I rx ry (i _ _ _ _ q)
/-- list + list -/
def rCatS (K : PySem.W.Frag) : R2 := fun x y H Q => ∃ l b xs zs, x = .ref l ∧ y = .ref b ∧ SqL K H l xs ∧ SqL K H b zs ∧ xs.length + zs.length ≤ sizeLine ∧ ∀ p, H p = none → Q (.ref p) (upd H p (.lst (xs ++ zs)))
theorem op_catS : OpR X (binaryOp .Add) (rCatS X.K) := by
  intro pins s σ H x y v u Q I rx ry h
  obtain ⟨l, b, xs, zs, rfl, rfl, hx, hy, hz, q⟩ := h
  cases rx
  cases ry
  obtain ⟨its, r1, ⟨o1, n1, g1, c1, _, d1⟩, _⟩ := I.list hx
  obtain ⟨its2, r2, ⟨o2, n2, g2, c2, _, d2⟩, _⟩ := I.list hy
  obtain ⟨cl1, dd1, da1, sl1⟩ := o1
  obtain ⟨cl2, dd2, da2, sl2⟩ := o2
  simp only at c1 d1 c2 d2
  subst c1 d1 c2 d2
  have hl : its.toArray.size + its2.toArray.size ≤ sizeLine := by
    rw [List.size_toArray, List.size_toArray, ← r1.length, ← r2.length]; exact hz
  refine concat_meets ⟨_, g1, rfl⟩ ⟨_, g2, rfl⟩ noFill_list_add seq_list_add F.slot_list_add F.entry_list_add (F.args_list_add_2 _ _) (list_addW l b _ _ n1 n2 dd1 dd2 sl1 sl2 hl) ⟨g1, g2, ?_⟩
  have ea : its.toArray ++ its2.toArray = (its ++ its2).toArray := by simp
  rw [ea]
  exact ⟨.ref _, _, I.lnew (t' := s.toks) (r1.append r2) (by rw [List.length_append]; exact hz), rfl, q _ I.fresh⟩
def rAdd (K : PySem.W.Frag) : R2 := fun x y H Q => (∃ i j, x = .int i ∧ y = .int j ∧ Q (.int (i + j)) H) ∨ (∃ i j, x = .str i ∧ y = .str j ∧ i.length + j.length ≤ sizeLine ∧ Q (.str (i ++ j)) H) ∨ rCatA K x y H Q ∨ rCatS K x y H Q
theorem or_add : OpR X (binaryOp .Add) (rAdd X.K) := OpR.or op_add (OpR.or op_add_str (OpR.or op_catA op_catS))
theorem cat_own {C : Ct} {H : Hp} {Z : Addr → Prop} {β : List Addr} {S : Store} {p : Addr} {xs : List V} {ds : List D} (A : At C H Z β S) (hp : H p = none) (r : RVs C H Z β xs ds) :
    OwnAt C (upd H p (.lst xs)) (fun c => Z c ∨ c = p) β p (.lst ds) :=
  ⟨xs, upd_same, (r.more hp).mono (Ext.laid hp)⟩
theorem cat_new : OpN X (rCatS X.K) dCat := by
  intro Z H β S x y dx dy dz Q A rx ry e k
  unfold dCat at e
  split at e
  · rename_i xs ys e1 e2
    split at e
    · rename_i hz
      cases e
      obtain ⟨a, us, rfl, q1, r1⟩ := rx.viewL A.st e1
      obtain ⟨b, ws, rfl, q2, r2⟩ := ry.viewL A.st e2
      refine ⟨a, b, us, ws, rfl, rfl, q1, q2, by rw [r1.length, r2.length]; exact hz, fun p hp => ?_⟩
      exact k p _ (same_laid hp) hp (cat_own A hp (r1.append r2))
    · cases e
  · cases e
theorem cat_isL (S : Store) (x y d : D) (h : dCat S x y = some d) : isL d := by
  unfold dCat at h
  split at h
  · split at h
    · cases h; exact ⟨_, rfl⟩
    · cases h
  · cases h
theorem add_m : OpM X (rAdd X.K) dAdd := by
  intro Z H β S x y dx dy dz Q A rx ry e k
  unfold dAdd at e
  split at e
  · cases rx; cases ry; cases e
    exact .inl ⟨_, _, rfl, rfl, k _ H (Same.refl _) (.int _)⟩
  · split at e
    · rename_i hz
      cases rx; cases ry; cases e
      exact .inr (.inl ⟨_, _, rfl, rfl, hz, k _ H (Same.refl _) (.str _)⟩)
    · cases e
  · rename_i xs ys
    split at e
    · rename_i hz
      cases e
      obtain ⟨a, us, rfl, q1, r1⟩ := rx.viewT rfl
      obtain ⟨b, ws, rfl, q2, r2⟩ := ry.viewT rfl
      refine .inr (.inr (.inl ⟨a, b, us, ws, rfl, rfl, q1, q2, by rw [r1.length, r2.length]; exact hz, fun z => ?_, fun z1 z2 => ?_, fun z1 z2 p hp => ?_⟩))
      · subst z
        cases r1
        exact k _ H (Same.refl _) ry
      · subst z2
        cases r2
        rw [List.append_nil] at k
        exact k _ H (Same.refl _) rx
      · exact k _ _ (same_laid hp) (.tup (.inl upd_same) ((r1.append r2).mono (Ext.laid hp)))
    · cases e
  · rename_i x' y' n1 n2 n3
    exact .inr (.inr (.inr (OpM.of_new (cat_new (X := X)) cat_isL Z H β S x y dx dy dz Q A rx ry e k)))
theorem sub_m : OpM X (rI0 fun i j => .int (i - j)) dSub := by
  intro Z H β S x y dx dy dz Q A rx ry e k
  unfold dSub at e
  split at e
  · cases rx; cases ry; cases e
    exact ⟨_, _, rfl, rfl, k _ H (Same.refl _) (.int _)⟩
  · cases e
theorem rep_size {α : Type} (a : Array α) : ∀ (n : Nat) (b : Array α), ((List.replicate n a).foldl (· ++ ·) b).size = b.size + n * a.size
  | 0, b => by simp
  | n + 1, b => by
    rw [List.replicate_succ, List.foldl_cons, rep_size a n (b ++ a), Array.size_append, Nat.succ_mul]
    omega
def rMul : R2 := fun x y H Q => rI CMul (fun i j => .int (i * j)) x y H Q ∨ ∃ z n, x = .str z ∧ y = .int n ∧ (n.natAbs ≤ 1000000 ∧ z.length ≤ 1000000 ∧ Builtin.Str.tooLong (z.length * n.toNat) = false) ∧ Q (.str (strRep z n)) H
theorem op_strRep : OpR X (binaryOp .Mult) (fun x y H Q => ∃ z n, x = .str z ∧ y = .int n ∧ (n.natAbs ≤ 1000000 ∧ z.length ≤ 1000000 ∧ Builtin.Str.tooLong (z.length * n.toNat) = false) ∧ Q (.str (strRep z n)) H) := by
  intro pins s σ H x y v u Q I rx ry h
  obtain ⟨z, n, rfl, rfl, ⟨h1, h2, h3⟩, q⟩ := h
  obtain ⟨t, rfl⟩ := rx
  obtain ⟨t', rfl⟩ := ry
  refine P.mul_str (by have a1 : ¬ n < -(2 ^ 63 : Int) := by omega
                       have a2 : ¬ n ≥ 2 ^ 63 := by omega
                       rw [decide_eq_false a1, decide_eq_false a2]; rfl) (fun g1 _ => ?_) (fun _ _ => h3) ?_
  · have : (1000000 : Int) ≤ (2 ^ 63 - 1) / n := by
      rw [Int.le_ediv_iff_mul_le (by omega)]
      omega
    omega
  · unfold strRep at q
    split
    · rename_i g
      rw [if_pos g] at q
      exact ⟨by decide, ⟨.str _, H, I.tok _, ⟨_, rfl⟩, q⟩⟩
    · rename_i g
      rw [if_neg g] at q
      split
      · rename_i g2
        rw [if_pos g2] at q
        exact ⟨.str z, H, I, ⟨_, rfl⟩, q⟩
      · rename_i g2
        rw [if_neg g2] at q
        refine ⟨?_, ⟨.str _, H, I.tok _, ⟨_, rfl⟩, q⟩⟩
        show ((List.replicate n.toNat z.cps).foldl (· ++ ·) #[]).size ≤ sizeLine
        rw [rep_size]
        have h4 : z.cps.size = z.length := rfl
        have h5 := of_decide_eq_false h3
        rw [h4, Nat.mul_comm n.toNat, Array.size_empty, Nat.zero_add]
        exact Nat.le_of_not_gt h5
theorem or_mul : OpR X (binaryOp .Mult) rMul := OpR.or op_mul op_strRep
theorem okMul_c {i j : Int} (h : okMul i j = true) : CMul i j := by
  unfold okMul at h
  rw [Bool.or_eq_true, decide_eq_true_eq, decide_eq_true_eq] at h
  unfold CMul
  omega
theorem mul_m : OpM X rMul dMul := by
  intro Z H β S x y dx dy dz Q A rx ry e k
  unfold dMul at e
  split at e
  · split at e
    · rename_i hz
      cases rx; cases ry; cases e
      exact .inl ⟨_, _, rfl, rfl, okMul_c hz, k _ H (Same.refl _) (.int _)⟩
    · cases e
  · split at e
    · rename_i hz
      cases rx; cases ry; cases e
      exact .inr ⟨_, _, rfl, rfl, hz, k _ H (Same.refl _) (.str _)⟩
    · cases e
  · cases e
theorem fdiv_m : OpM X (rI CDivN fun i j => .int (i.fdiv j)) dFdiv := by
  intro Z H β S x y dx dy dz Q A rx ry e k
  unfold dFdiv at e
  split at e
  · split at e
    · rename_i hz
      cases rx; cases ry; cases e
      exact ⟨_, _, rfl, rfl, hz, k _ H (Same.refl _) (.int _)⟩
    · cases e
  · cases e
theorem mod_m : OpM X (rI (fun _ j => j ≠ 0) fun i j => .int (i.fmod j)) dMod := by
  intro Z H β S x y dx dy dz Q A rx ry e k
  unfold dMod at e
  split at e
  · split at e
    · rename_i hz
      cases rx; cases ry; cases e
      exact ⟨_, _, rfl, rfl, hz, k _ H (Same.refl _) (.int _)⟩
    · cases e
  · cases e
theorem pow_m : OpM X (rI CPow fun i j => .int (i ^ j.toNat)) dPow := by
  intro Z H β S x y dx dy dz Q A rx ry e k
  unfold dPow at e
  split at e
  · split at e
    · rename_i hz
      cases rx; cases ry; cases e
      exact ⟨_, _, rfl, rfl, hz, k _ H (Same.refl _) (.int _)⟩
    · cases e
  · cases e
theorem neg_m : UnM X (rU fun i => .int (-i)) dNeg := by
  intro Z H β S x dx dz Q A rx e k
  unfold dNeg at e
  split at e
  · cases rx; cases e
    exact ⟨_, rfl, k _ H (Same.refl _) (.int _)⟩
  · cases e
abbrev rIS (f : Int → Int → Bool) (g : Str → Str → Bool) : R2 := fun x y H Q => (∃ i j, x = .int i ∧ y = .int j ∧ Q (.bl (f i j)) H) ∨ ∃ i j, x = .str i ∧ y = .str j ∧ Q (.bl (g i j)) H
theorem or_lt : OpR X (compareOp .Lt) (rIS (fun i j => decide (i < j)) fun i j => decide (i.cps.toList < j.cps.toList)) := OpR.or op_lt op_lt_str
theorem or_le : OpR X (compareOp .LtE) (rIS (fun i j => decide (i ≤ j)) fun i j => !decide (j.cps.toList < i.cps.toList)) := OpR.or op_le op_le_str
theorem or_gt : OpR X (compareOp .Gt) (rIS (fun i j => decide (j < i)) fun i j => decide (j.cps.toList < i.cps.toList)) := OpR.or op_gt op_gt_str
theorem or_ge : OpR X (compareOp .GtE) (rIS (fun i j => decide (j ≤ i)) fun i j => !decide (i.cps.toList < j.cps.toList)) := OpR.or op_ge op_ge_str
theorem lt_m : OpM X (rIS (fun i j => decide (i < j)) fun i j => decide (i.cps.toList < j.cps.toList)) dLt := by
  intro Z H β S x y dx dy dz Q A rx ry e k
  unfold dLt at e
  split at e
  · cases rx; cases ry; cases e; exact .inl ⟨_, _, rfl, rfl, k _ H (Same.refl _) (.bl _)⟩
  · cases rx; cases ry; cases e; exact .inr ⟨_, _, rfl, rfl, k _ H (Same.refl _) (.bl _)⟩
  · cases e
theorem le_m : OpM X (rIS (fun i j => decide (i ≤ j)) fun i j => !decide (j.cps.toList < i.cps.toList)) dLe := by
  intro Z H β S x y dx dy dz Q A rx ry e k
  unfold dLe at e
  split at e
  · cases rx; cases ry; cases e; exact .inl ⟨_, _, rfl, rfl, k _ H (Same.refl _) (.bl _)⟩
  · cases rx; cases ry; cases e; exact .inr ⟨_, _, rfl, rfl, k _ H (Same.refl _) (.bl _)⟩
  · cases e
theorem gt_m : OpM X (rIS (fun i j => decide (j < i)) fun i j => decide (j.cps.toList < i.cps.toList)) dGt := by
  intro Z H β S x y dx dy dz Q A rx ry e k
  unfold dGt at e
  split at e
  · cases rx; cases ry; cases e; exact .inl ⟨_, _, rfl, rfl, k _ H (Same.refl _) (.bl _)⟩
  · cases rx; cases ry; cases e; exact .inr ⟨_, _, rfl, rfl, k _ H (Same.refl _) (.bl _)⟩
  · cases e
theorem ge_m : OpM X (rIS (fun i j => decide (j ≤ i)) fun i j => !decide (i.cps.toList < j.cps.toList)) dGe := by
  intro Z H β S x y dx dy dz Q A rx ry e k
  unfold dGe at e
  split at e
  · cases rx; cases ry; cases e; exact .inl ⟨_, _, rfl, rfl, k _ H (Same.refl _) (.bl _)⟩
  · cases rx; cases ry; cases e; exact .inr ⟨_, _, rfl, rfl, k _ H (Same.refl _) (.bl _)⟩
  · cases e
end
end Mi

/-! Mi9: equality, membership, types, built-ins. -/
namespace Mi
open PySem PySem.Spec PyProof.Rows L2

/-! ### as data -/
def kPy : Key → PyData
  | .inl i => .int i
  | .inr x => .str x
mutual
/-- k: dicts too -/
def toPy (k : Bool) : D → Option PyData
  | .non => some .none
  | .bl b => some (.bool b)
  | .int i => some (.int i)
  | .str x => some (.str x)
  | .tup xs => match toPys k xs with
    | some l => some (.tuple l)
    | none => none
  | .lst xs => match toPys k xs with
    | some l => some (.list l)
    | none => none
  | .dct xs => match k with
    | true => match toPyk k xs with
      | some l => some (.dict l)
      | none => none
    | false => none
  | .ref _ => none
  | .ty _ => none
  | .fn _ => none
def toPys (k : Bool) : List D → Option (List PyData)
  | [] => some []
  | d :: r => match toPy k d with
    | some x => match toPys k r with
      | some l => some (x :: l)
      | none => none
    | none => none
def toPyk (k : Bool) : List (Key × D) → Option (List (PyData × PyData))
  | [] => some []
  | p :: r => match toPyp k p with
    | some x => match toPyk k r with
      | some l => some (x :: l)
      | none => none
    | none => none
def toPyp (k : Bool) : Key × D → Option (PyData × PyData)
  | (a, d) => match toPy k d with
    | some x => some (kPy a, x)
    | none => none
end
/-- a thing of the store seen from outside -/
def top1 (S : Store) (d : D) : D := match d with
  | .ref n => match S[n]? with
    | some (.lst xs) => .lst xs
    | some (.dct xs) => .dct xs
    | some (.lck xs) => .dct xs
    | some (.lkl xs) => .lst xs
    | _ => .ref n
  | d => d
mutual
/-- the store's things read in, one step deep -/
def stp (S : Store) : D → D
  | .non => .non
  | .bl b => .bl b
  | .int i => .int i
  | .str x => .str x
  | .tup xs => .tup (stps S xs)
  | .lst xs => .lst (stps S xs)
  | .dct kvs => .dct (stpk S kvs)
  | .ref n => top1 S (.ref n)
  | .ty n => .ty n
  | .fn x => .fn x
def stps (S : Store) : List D → List D
  | [] => []
  | d :: r => stp S d :: stps S r
def stpk (S : Store) : List (Key × D) → List (Key × D)
  | [] => []
  | p :: r => stpp S p :: stpk S r
def stpp (S : Store) : Key × D → Key × D
  | (k, d) => (k, stp S d)
/-- nothing of the store in it -/
def noR : D → Bool
  | .non => true
  | .bl _ => true
  | .int _ => true
  | .str _ => true
  | .tup xs => noRs xs
  | .lst xs => noRs xs
  | .dct kvs => noRk kvs
  | .ref _ => false
  | .ty _ => true
  | .fn _ => true
def noRs : List D → Bool
  | [] => true
  | d :: r => noR d && noRs r
def noRk : List (Key × D) → Bool
  | [] => true
  | p :: r => noRp p && noRk r
def noRp : Key × D → Bool
  | (_, d) => noR d
end
/-- a value as a tree, the store's lists and dicts read in -/
def top (S : Store) (d : D) : D := if noR d = true then d else stp S (stp S (stp S (stp S (stp S d))))
def pyE (S : Store) (d : D) : Option PyData := match toPy false (top S d) with
  | some p => if SeqAt.shaped p = true then some p else none
  | none => none
def dEqB (S : Store) (x y : D) : Option Bool := match x, y with
  | .str a, .str b => some (a == b)
  | x, y => match pyE S x, pyE S y with
    | some p, some q => some (PyData.eqv p q)
    | _, _ => none
def dEq (S : Store) (x y : D) : Option D := match x, y with
  | .tup xs, .tup [] => some (.bl xs.isEmpty)
  | x, y => match dEqB S x y with
    | some b => some (.bl b)
    | none => none
def dNe (S : Store) (x y : D) : Option D := match dEqB S x y with
  | some b => some (.bl (!b))
  | none => none
/-- .. is None -/
def dIs (_ : Store) (x y : D) : Option D := match y with
  | .non => match x with
    | .non => some (.bl true)
    | _ => some (.bl false)
  | _ => none
def dIsnt (_ : Store) (x y : D) : Option D := match y with
  | .non => match x with
    | .non => some (.bl false)
    | _ => some (.bl true)
  | _ => none
def inStr (x z : Str) : Bool := if h : x.cps.size = 1 then decide (x.cps[0] ∈ z.cps.toList) else !(Builtin.Str.occurrences z x 0 z.length 1).isEmpty
def dInB (S : Store) (x y : D) : Option Bool := match x, y with
  | .str a, .str z => some (inStr a z)
  | x, y => match pyE S x, pyE S y with
    | some p, some (.list qs) => some (qs.any fun z => PyData.eqv z p)
    | some p, some (.tuple qs) => some (qs.any fun z => PyData.eqv z p)
    | _, _ => none
def dIn (S : Store) (x y : D) : Option D := match dInB S x y with
  | some b => some (.bl b)
  | none => none
def dNotIn (S : Store) (x y : D) : Option D := match dInB S x y with
  | some b => some (.bl (!b))
  | none => none

section
variable {C : Ct} {H : Hp} {Z : Addr → Prop} {β : List Addr} {S : Store}
mutual
/-- how a value reads -/
inductive VW (C : Ct) (H : Hp) (β : List Addr) : V → D → Prop
  | non : VW C H β .non .non
  | bl (b : Bool) : VW C H β (.bl b) (.bl b)
  | int (i : Int) : VW C H β (.int i) (.int i)
  | str (x : Str) : VW C H β (.str x) (.str x)
  | ty (n : String) : VW C H β (.ty n) (.ty n)
  | lst {a : Addr} {xs : List V} {ds : List D} : SqL C.K H a xs → VWs C H β xs ds → VW C H β (.ref a) (.lst ds)
  | tup {a : Addr} {xs : List V} {ds : List D} : SqT C.K H a xs → VWs C H β xs ds → VW C H β (.ref a) (.tup ds)
  | dct {a : Addr} {xs : List (Key × V)} {ds : List (Key × D)} : Rd H a (.dK xs) → VWk C H β xs ds → VW C H β (.ref a) (.dct ds)
  | ref {n : Nat} {a : Addr} : β[n]? = some a → VW C H β (.ref a) (.ref n)
  | fn {v : V} {x : Str} : VW C H β v (.fn x)
inductive VWs (C : Ct) (H : Hp) (β : List Addr) : List V → List D → Prop
  | nil : VWs C H β [] []
  | cons {v : V} {vs : List V} {d : D} {ds : List D} : VW C H β v d → VWs C H β vs ds → VWs C H β (v :: vs) (d :: ds)
inductive VWk (C : Ct) (H : Hp) (β : List Addr) : List (Key × V) → List (Key × D) → Prop
  | nil : VWk C H β [] []
  | cons {k : Key} {v : V} {vs : List (Key × V)} {d : D} {ds : List (Key × D)} : VW C H β v d → VWk C H β vs ds → VWk C H β ((k, v) :: vs) ((k, d) :: ds)
end
mutual
theorem RV.vw : ∀ {v : V} {d : D}, RV C H Z β v d → VW C H β v d
  | _, _, .non => .non
  | _, _, .bl b => .bl b
  | _, _, .int i => .int i
  | _, _, .str x => .str x
  | _, _, .ty n => .ty n
  | _, _, .lst _ _ hr h => .lst (.inl hr) (RVs.vw h)
  | _, _, .tup hr h => .tup (.inl hr) (RVs.vw h)
  | _, _, .ktup k h => .tup (.inr k) (RVs.vw h)
  | _, _, .klst k h => .lst (.inr k) (RVs.vw h)
  | _, _, .dct _ _ hr h => .dct hr.rd (RKs.vw h)
  | _, _, .ref h => .ref h
  | _, _, .fn h k => .fn
theorem RVs.vw : ∀ {vs : List V} {ds : List D}, RVs C H Z β vs ds → VWs C H β vs ds
  | _, _, .nil => .nil
  | _, _, .cons h t => .cons (RV.vw h) (RVs.vw t)
theorem RKs.vw : ∀ {vs : List (Key × V)} {ds : List (Key × D)}, RKs C H Z β vs ds → VWk C H β vs ds
  | _, _, .nil => .nil
  | _, _, .cons h t => .cons (RV.vw h) (RKs.vw t)
end
mutual
theorem VW.stp (s : SRel C H Z β S) : ∀ {v : V} {d : D}, VW C H β v d → VW C H β v (Mi.stp S d)
  | _, _, .non => by simp only [Mi.stp]; exact .non
  | _, _, .bl b => by simp only [Mi.stp]; exact .bl b
  | _, _, .int i => by simp only [Mi.stp]; exact .int i
  | _, _, .str x => by simp only [Mi.stp]; exact .str x
  | _, _, .ty n => by simp only [Mi.stp]; exact .ty n
  | _, _, .lst hr h => by simp only [Mi.stp]; exact .lst hr (VWs.stp s h)
  | _, _, .tup hr h => by simp only [Mi.stp]; exact .tup hr (VWs.stp s h)
  | _, _, .dct hr h => by simp only [Mi.stp]; exact .dct hr (VWk.stp s h)
  | _, _, .ref (n := n) (a := a) h => by
    simp only [Mi.stp, top1]
    split
    · rename_i xs e; obtain ⟨us, q1, q2⟩ := s.ok _ _ _ h e; exact .lst (.inl (.inl q1)) q2.vw
    · rename_i xs e; obtain ⟨us, q1, q2⟩ := s.ok _ _ _ h e; exact .dct (.inl q1) q2.vw
    · rename_i xs e; obtain ⟨od, us, q1, q2⟩ := s.ok _ _ _ h e; exact .dct (.inr ⟨od, q1⟩) q2.vw
    · rename_i xs e; obtain ⟨od, us, q1, q2⟩ := s.ok _ _ _ h e; exact .lst (.inl (.inr ⟨od, q1⟩)) q2.vw
    · exact .ref h
  | _, _, .fn => by simp only [Mi.stp]; exact .fn
theorem VWs.stp (s : SRel C H Z β S) : ∀ {vs : List V} {ds : List D}, VWs C H β vs ds → VWs C H β vs (Mi.stps S ds)
  | _, _, .nil => by simp only [Mi.stps]; exact .nil
  | _, _, .cons h t => by simp only [Mi.stps]; exact .cons (VW.stp s h) (VWs.stp s t)
theorem VWk.stp (s : SRel C H Z β S) : ∀ {vs : List (Key × V)} {ds : List (Key × D)}, VWk C H β vs ds → VWk C H β vs (Mi.stpk S ds)
  | _, _, .nil => by simp only [Mi.stpk]; exact .nil
  | _, _, .cons h t => by simp only [Mi.stpk, Mi.stpp]; exact .cons (VW.stp s h) (VWk.stp s t)
end
theorem RV.top {v : V} {d : D} (r : RV C H Z β v d) (s : SRel C H Z β S) : VW C H β v (Mi.top S d) := by
  unfold Mi.top
  split
  · exact r.vw
  · exact ((((r.vw.stp s).stp s).stp s).stp s).stp s
mutual
theorem dp_of : ∀ {v : V} {d : D} {p : PyData}, VW C H β v d → toPy false d = some p → Dp C.K H v p
  | _, .non, _, r, e => by cases r; simp only [toPy] at e; cases e; exact .non
  | _, .bl b, _, r, e => by cases r; simp only [toPy] at e; cases e; exact .bl b
  | _, .int i, _, r, e => by cases r; simp only [toPy] at e; cases e; exact .int i
  | _, .str x, _, r, e => by cases r; simp only [toPy] at e; cases e; exact .str x
  | _, .tup xs, _, r, e => by
    simp only [toPy] at e
    split at e
    · rename_i l el
      cases e
      cases r with
      | tup hr hs => exact .tup hr (dps_of hs el)
    · cases e
  | _, .lst xs, _, r, e => by
    simp only [toPy] at e
    split at e
    · rename_i l el
      cases e
      cases r with
      | lst hr hs => exact .lst hr (dps_of hs el)
    · cases e
  | _, .dct xs, _, r, e => by simp only [toPy] at e; cases e
  | _, .ref n, _, r, e => by simp only [toPy] at e; cases e
  | _, .ty n, _, r, e => by simp only [toPy] at e; cases e
  | _, .fn n, _, r, e => by simp only [toPy] at e; cases e
theorem dps_of : ∀ {vs : List V} {ds : List D} {ps : List PyData}, VWs C H β vs ds → toPys false ds = some ps → DpAll C.K H vs ps
  | _, [], _, r, e => by cases r; simp only [toPys] at e; cases e; exact .nil
  | _, d :: ds, _, r, e => by
    simp only [toPys] at e
    split at e
    · rename_i x ex
      split at e
      · rename_i l el
        cases e
        cases r with
        | cons r1 r2 => exact .cons (dp_of r1 ex) (dps_of r2 el)
      · cases e
    · cases e
end
/-- a value, seen at the top -/
theorem rv_top {v : V} {d : D} {p : PyData} (r : RV C H Z β v d) (s : SRel C H Z β S) (h : toPy false (top S d) = some p) : Dp C.K H v p := dp_of (r.top s) h
theorem pyE_of {v : V} {d : D} {p : PyData} (r : RV C H Z β v d) (s : SRel C H Z β S) (h : pyE S d = some p) : Dp C.K H v p ∧ SeqAt.shaped p = true := by
  unfold pyE at h
  split at h
  · rename_i q e
    split at h
    · cases h; exact ⟨rv_top r s e, by assumption⟩
    · cases h
  · cases h
end
section
variable {X : Cx}
/-- a tuple, and the empty one -/
def rEq0 (K : PySem.W.Frag) : R2 := fun x y H Q => ∃ a b xs, x = .ref a ∧ y = .ref b ∧ SqT K H a xs ∧ SqT K H b [] ∧ Q (.bl xs.isEmpty) H
theorem op_eq0 (hu : X.A.units + 64 < cLine) : OpR X (compareOp .Eq) (rEq0 X.K) := by
  intro pins s σ H x y v u Q I rx ry h
  obtain ⟨a, b, xs, rfl, rfl, ha, hb, q⟩ := h
  cases (show v = Value.ref a from rx)
  cases (show u = Value.ref b from ry)
  obtain ⟨us, r1, ⟨o1, g1, c1, n1, d1⟩, _⟩ := I.tuple ha
  obtain ⟨ws, r2, ⟨o2, g2, c2, n2, d2⟩, _⟩ := I.tuple hb
  cases r2
  refine SeqAt.eq_tupleAt (e := fun _ => true) ⟨o1, g1, c1, n1, d1⟩ ⟨o2, g2, c2, n2, d2⟩ (by omega) (fun j h1 h2 => absurd h2 (Nat.not_lt_zero j)) ?_
  refine ⟨.bl xs.isEmpty, H, I, ?_, q⟩
  have e : xs.length = us.length := r1.length
  show Value.bool _ = Value.bool _
  congr 1
  cases us with
  | nil =>
    cases xs with
    | nil => rfl
    | cons x xs => cases e
  | cons u us =>
    cases xs with
    | nil => cases e
    | cons x xs => simp
def rEqX (K : PySem.W.Frag) : R2 := fun x y H Q => rEq x y H Q ∨ rEqD K x y H Q ∨ rEq0 K x y H Q
def rNeX (K : PySem.W.Frag) : R2 := fun x y H Q => rNe x y H Q ∨ rNeD K x y H Q
theorem or_eq (hu : X.A.units + 64 < cLine) : OpR X (compareOp .Eq) (rEqX X.K) := OpR.or op_eq (OpR.or (op_eqD hu) (op_eq0 hu))
theorem or_ne (hu : X.A.units + 64 < cLine) : OpR X (compareOp .NotEq) (rNeX X.K) := OpR.or op_ne (op_neD hu)
theorem eq_m : OpM X (rEqX X.K) dEq := by
  intro Z H β S x y dx dy dz Q A rx ry e k
  unfold dEq at e
  split at e
  · rename_i xs
    cases e
    obtain ⟨a, us, rfl, q1, r1⟩ := rx.viewT rfl
    obtain ⟨b, ws, rfl, q2, r2⟩ := ry.viewT rfl
    cases r2
    refine .inr (.inr ⟨a, b, us, rfl, rfl, q1, q2, ?_⟩)
    have e : us.isEmpty = xs.isEmpty := by
      have := r1.length
      cases us <;> cases xs <;> first | rfl | cases this
    rw [e]
    exact k _ H (Same.refl _) (.bl _)
  · split at e
    · rename_i b eb
      cases e
      unfold dEqB at eb
      split at eb
      · cases rx; cases ry; cases eb
        refine .inl ⟨rfl, ?_⟩
        rw [dec_str]
        exact k _ H (Same.refl _) (.bl _)
      · split at eb
        · rename_i p q e1 e2
          cases eb
          obtain ⟨a1, a2⟩ := pyE_of rx A.st e1
          obtain ⟨b1, b2⟩ := pyE_of ry A.st e2
          exact .inr (.inl ⟨p, q, a1, b1, a2, b2, k _ H (Same.refl _) (.bl _)⟩)
        · cases eb
    · cases e
theorem ne_m : OpM X (rNeX X.K) dNe := by
  intro Z H β S x y dx dy dz Q A rx ry e k
  unfold dNe at e
  split at e
  · rename_i b eb
    cases e
    unfold dEqB at eb
    split at eb
    · cases rx; cases ry; cases eb
      refine .inl ⟨rfl, ?_⟩
      rw [dec_str]
      exact k _ H (Same.refl _) (.bl _)
    · split at eb
      · rename_i p q e1 e2
        cases eb
        obtain ⟨a1, a2⟩ := pyE_of rx A.st e1
        obtain ⟨b1, b2⟩ := pyE_of ry A.st e2
        exact .inr ⟨p, q, a1, b1, a2, b2, k _ H (Same.refl _) (.bl _)⟩
      · cases eb
  · cases e
theorem rv_non {C : Ct} {H : Hp} {Z : Addr → Prop} {β : List Addr} {v : V} {d : D} (r : RV C H Z β v d) : decide (v = .non) = (match d with | .non => true | _ => false) := by
  cases r <;> first | rfl | (exact decide_eq_false fun z => nomatch z)
theorem is_m : OpM X (fun x y H Q => y = .non ∧ Q (.bl (decide (x = .non))) H) dIs := by
  intro Z H β S x y dx dy dz Q A rx ry e k
  unfold dIs at e
  split at e
  · cases ry
    refine ⟨rfl, ?_⟩
    rw [rv_non rx]
    split at e
    · cases e; exact k _ H (Same.refl _) (.bl _)
    · rename_i n
      cases e
      cases dx with
      | non => exact absurd rfl n
      | _ => exact k _ H (Same.refl _) (.bl _)
  · cases e
theorem isnt_m : OpM X (fun x y H Q => y = .non ∧ Q (.bl (!decide (x = .non))) H) dIsnt := by
  intro Z H β S x y dx dy dz Q A rx ry e k
  unfold dIsnt at e
  split at e
  · cases ry
    refine ⟨rfl, ?_⟩
    rw [rv_non rx]
    split at e
    · cases e; exact k _ H (Same.refl _) (.bl _)
    · rename_i n
      cases e
      cases dx with
      | non => exact absurd rfl n
      | _ => exact k _ H (Same.refl _) (.bl _)
  · cases e
def rInX (K : PySem.W.Frag) (f : Bool → Bool) : R2 := fun x y H Q => (∃ (c : Nat) (z : Str), x = .str ⟨#[c]⟩ ∧ y = .str z ∧ Q (.bl (f (decide (c ∈ z.cps.toList)))) H) ∨
  (∃ i j, x = .str i ∧ y = .str j ∧ Q (.bl (f (!(Builtin.Str.occurrences j i 0 j.length 1).isEmpty))) H) ∨
  (∃ d ds, Dp K H x d ∧ Dp K H y (.list ds) ∧ SeqAt.shaped d = true ∧ SeqAt.shaped (.list ds) = true ∧ Q (.bl (f (ds.any fun z => PyData.eqv z d))) H) ∨
  ∃ d ds, Dp K H x d ∧ Dp K H y (.tuple ds) ∧ SeqAt.shaped d = true ∧ SeqAt.shaped (.tuple ds) = true ∧ Q (.bl (f (ds.any fun z => PyData.eqv z d))) H
/-- x in a tuple of data -/
theorem op_inT (hu : X.A.units + 65 < cLine) : OpR X (compareOp .In) (fun x y H Q => ∃ d ds, Dp X.K H x d ∧ Dp X.K H y (.tuple ds) ∧ SeqAt.shaped d = true ∧ SeqAt.shaped (.tuple ds) = true ∧ Q (.bl (ds.any fun z => PyData.eqv z d)) H) := by
  intro pins s σ H x y v u Q I rx ry h
  obtain ⟨d, ds, hx, hy, sx, sy, q⟩ := h
  obtain ⟨l1, r1⟩ := Dp.reads I d x v hx rx
  obtain ⟨l2, r2⟩ := Dp.reads I (.tuple ds) y u hy ry
  refine SeqAt.in_tuple_reads r2 r1 (SeqAt.canLay_of_shaped sy) (SeqAt.canLay_of_shaped sx) ?_ ⟨.bl _, H, I, rfl, q⟩
  exact room_in_shaped sx hu
theorem op_notInT (hu : X.A.units + 65 < cLine) : OpR X (compareOp .NotIn) (fun x y H Q => ∃ d ds, Dp X.K H x d ∧ Dp X.K H y (.tuple ds) ∧ SeqAt.shaped d = true ∧ SeqAt.shaped (.tuple ds) = true ∧ Q (.bl (!ds.any fun z => PyData.eqv z d)) H) := by
  intro pins s σ H x y v u Q I rx ry h
  obtain ⟨d, ds, hx, hy, sx, sy, q⟩ := h
  obtain ⟨l1, r1⟩ := Dp.reads I d x v hx rx
  obtain ⟨l2, r2⟩ := Dp.reads I (.tuple ds) y u hy ry
  refine SeqAt.notIn_tuple_reads r2 r1 (SeqAt.canLay_of_shaped sy) (SeqAt.canLay_of_shaped sx) ?_ ⟨.bl _, H, I, rfl, q⟩
  exact room_in_shaped sx hu
theorem or_in (hu : X.A.units + 65 < cLine) : OpR X (compareOp .In) (rInX X.K id) := OpR.or op_in_sign (OpR.or op_in_str (OpR.or (op_inD hu) (op_inT hu)))
theorem or_notIn (hu : X.A.units + 65 < cLine) : OpR X (compareOp .NotIn) (rInX X.K not) := OpR.or op_notIn_sign (OpR.or op_notin_str (OpR.or (op_notInD hu) (op_notInT hu)))
theorem inX {f : Bool → Bool} {Z : Addr → Prop} {H : Hp} {β : List Addr} {S : Store} {x y : V} {dx dy : D} {c : Bool} {Q : VK} (A : At (ctOf X) H Z β S) (rx : RV (ctOf X) H Z β x dx) (ry : RV (ctOf X) H Z β y dy) (e : dInB S dx dy = some c) (k : Q (.bl (f c)) H) : rInX X.K f x y H Q := by
  unfold dInB at e
  split at e
  · rename_i a z
    cases rx; cases ry; cases e
    unfold inStr at k
    split at k
    · rename_i h
      refine .inl ⟨a.cps[0], z, ?_, rfl, k⟩
      obtain ⟨⟨l⟩⟩ := a
      match l, h with
      | [c], _ => rfl
    · exact .inr (.inl ⟨_, _, rfl, rfl, k⟩)
  · split at e
    · rename_i p qs e1 e2
      cases e
      obtain ⟨a1, a2⟩ := pyE_of rx A.st e1
      obtain ⟨b1, b2⟩ := pyE_of ry A.st e2
      exact .inr (.inr (.inl ⟨p, qs, a1, b1, a2, b2, k⟩))
    · rename_i p qs e1 e2
      cases e
      obtain ⟨a1, a2⟩ := pyE_of rx A.st e1
      obtain ⟨b1, b2⟩ := pyE_of ry A.st e2
      exact .inr (.inr (.inr ⟨p, qs, a1, b1, a2, b2, k⟩))
    · cases e
theorem in_m : OpM X (rInX X.K id) dIn := by
  intro Z H β S x y dx dy dz Q A rx ry e k
  unfold dIn at e
  split at e
  · rename_i c ec
    cases e
    exact inX A rx ry ec (k _ H (Same.refl _) (.bl _))
  · cases e
theorem notIn_m : OpM X (rInX X.K not) dNotIn := by
  intro Z H β S x y dx dy dz Q A rx ry e k
  unfold dNotIn at e
  split at e
  · rename_i c ec
    cases e
    exact inX A rx ry ec (k _ H (Same.refl _) (.bl _))
  · cases e
end

/-! ### types -/
def tyOf (S : Store) (d : D) : Option String := match top1 S d with
  | .non => some "NoneType"
  | .bl _ => some "bool"
  | .int _ => some "int"
  | .str _ => some "str"
  | .tup _ => some "tuple"
  | .lst _ => some "list"
  | .dct _ => some "dict"
  | _ => none
def subTy (t c : String) : Bool := t == c || (t == "bool" && c == "int")
def tyKnown (c : String) : Bool := c == "bool" || c == "int" || c == "str" || c == "tuple" || c == "list" || c == "dict"
def fIsi (S : Store) (ds : List D) : Option D := match ds with
  | [d, .ty c] => match tyOf S d with
    | some t => if tyKnown c = true then some (.bl (subTy t c)) else none
    | none => none
  | _ => none
theorem kit_ty (K : PySem.W.Frag) {t c : String} (ht : t = "NoneType" ∨ tyKnown t = true) (hc : tyKnown c = true) : PySem.W.kitOne K (.type t) (.type c) = some (subTy t c) := by
  simp only [tyKnown, Bool.or_eq_true, beq_iff_eq] at ht hc
  rcases ht with rfl | ((((rfl | rfl) | rfl) | rfl) | rfl) | rfl <;> rcases hc with ((((rfl | rfl) | rfl) | rfl) | rfl) | rfl <;> rfl
section
variable {X : Cx} {Z : Addr → Prop} {H : Hp} {β : List Addr} {S : Store}
theorem tyX_of {v : V} {d : D} {t : String} (A : At (ctOf X) H Z β S) (r : RV (ctOf X) H Z β v d) (h : tyOf S d = some t) : TyX X.K H v (.type t) ∧ (t = "NoneType" ∨ tyKnown t = true) := by
  have rdL : ∀ {a : Addr} {xs : List V}, Rd H a (.lst xs) → TyX X.K H (.ref a) (.type "list") := fun hr => hr.elim (fun q => .base (.lst q)) fun ⟨o, q⟩ => .base (.frz q)
  have rdD : ∀ {a : Addr} {xs : List (Key × V)}, Rd H a (.dK xs) → TyX X.K H (.ref a) (.type "dict") := fun hr => hr.elim (fun q => .base (.dK q)) fun ⟨o, q⟩ => .fDict q
  unfold tyOf at h
  cases d with
  | ref n =>
    simp only [top1] at h
    cases e2 : S[n]? with
    | none => rw [e2] at h; cases h
    | some so =>
      rw [e2] at h
      cases so with
      | lst xs =>
        cases h
        obtain ⟨a, us, rfl, q1, _⟩ := r.viewL A.st (ds := xs) (by simp only [viewL, e2])
        refine ⟨?_, .inr rfl⟩
        rcases q1 with q1 | ⟨o, its, n, q1, q2, _⟩
        · exact rdL q1
        · exact .kList q1 q2
      | dct xs =>
        cases h
        obtain ⟨a, us, rfl, q1, _⟩ := r.viewK A.st (ds := xs) (by simp only [viewK, e2])
        exact ⟨rdD q1, .inr rfl⟩
      | lck xs =>
        cases h
        obtain ⟨a, us, rfl, q1, _⟩ := r.viewK A.st (ds := xs) (by simp only [viewK, e2])
        exact ⟨rdD q1, .inr rfl⟩
      | ins c fs => cases h
      | lkl xs =>
        cases h
        obtain ⟨a, us, rfl, q1, _⟩ := r.viewL A.st (ds := xs) (by simp only [viewL, e2])
        refine ⟨?_, .inr rfl⟩
        rcases q1 with q1 | ⟨o, its, n, q1, q2, _⟩
        · exact rdL q1
        · exact .kList q1 q2
  | non => cases r; cases h; exact ⟨.base .non, .inl rfl⟩
  | bl b => cases r; cases h; exact ⟨.base (.bl b), .inr rfl⟩
  | int i => cases r; cases h; exact ⟨.base (.int i), .inr rfl⟩
  | str x => cases r; cases h; exact ⟨.base (.str x), .inr rfl⟩
  | ty n => cases h
  | fn n => cases h
  | tup xs =>
    cases h
    cases r with
    | tup hr _ => exact ⟨hr.elim (fun q => .base (.tup q)) fun ⟨o, q⟩ => .fTuple q, .inr rfl⟩
    | ktup k _ => obtain ⟨o, its, n, q1, q2, _⟩ := k; exact ⟨.kTuple q1 q2, .inr rfl⟩
  | lst xs =>
    cases h
    cases r with
    | lst _ _ hr _ => exact ⟨rdL hr, .inr rfl⟩
    | klst k _ => obtain ⟨o, its, n, q1, q2, _⟩ := k; exact ⟨.kList q1 q2, .inr rfl⟩
  | dct xs =>
    cases h
    cases r with
    | dct _ _ hr _ => exact ⟨rdD hr.rd, .inr rfl⟩
theorem rvs2 {C : Ct} {xs : List V} {a b : D} (r : RVs C H Z β xs [a, b]) : ∃ x y, xs = [x, y] ∧ RV C H Z β x a ∧ RV C H Z β y b := by
  cases r with
  | cons r1 r2 => cases r2 with
    | cons r2 r3 => cases r3; exact ⟨_, _, rfl, r1, r2⟩
theorem rvs1 {C : Ct} {xs : List V} {a : D} (r : RVs C H Z β xs [a]) : ∃ x, xs = [x] ∧ RV C H Z β x a := by
  cases r with
  | cons r1 r2 => cases r2; exact ⟨_, rfl, r1⟩
theorem isi_m : FnM X (rIsi X.K) fIsi := by
  intro Z H β S xs ds dz Q A r e k
  unfold fIsi at e
  split at e
  · rename_i d c
    split at e
    · rename_i t et
      split at e
      · rename_i hc
        cases e
        obtain ⟨x, y, rfl, r1, r2⟩ := rvs2 r
        cases r2
        obtain ⟨q1, q2⟩ := tyX_of A r1 et
        exact ⟨x, .ty c, .type t, .type c, subTy t c, rfl, .ty c, q1, kit_ty _ q2 hc, k _ H (Same.refl _) (.bl _)⟩
      · cases e
    · cases e
  · cases e
/-! ### len, abs, max, min, divmod, all, any -/
def fLen (S : Store) (ds : List D) : Option D := match ds with
  | [.str x] => if x.length ≤ sizeLine then some (.int x.length) else none
  | [.tup xs] => some (.int xs.length)
  | [d] => match viewL S d with
    | some xs => some (.int xs.length)
    | none => match viewK S d with
      | some xs => some (.int xs.length)
      | none => none
  | _ => none
def rLen (K : PySem.W.Frag) : List V → Hp → VK → Prop := fun xs H Q => (∃ x n, xs = [x] ∧ LenV K x H n ∧ Q (.int n) H) ∨ ∃ a kvs, xs = [V.ref a] ∧ Rd H a (.dK kvs) ∧ Q (.int kvs.length) H
theorem call_lenRd : CallR X (.builtin "len") (fun xs H Q => ∃ a kvs, xs = [V.ref a] ∧ Rd H a (.dK kvs) ∧ Q (.int kvs.length) H) := by
  intro pins s σ H xs us Q I r h
  obtain ⟨a, kvs, rfl, ha, q⟩ := h
  obtain ⟨u, rfl, ru⟩ := vals1 r
  cases (show u = Value.ref a from ru)
  obtain ⟨hlen, hns, vs, rk, hd⟩ := dk_rd I.hok ha
  have hl := line63
  have hs : sizeLine = 16777216 := sizeLine_eq
  have hn := rk.length
  exact call_len_dict hns hd (by omega) ⟨.int kvs.length, H, I.tok _, ⟨_, by rw [hn]⟩, q⟩
theorem or_len : CallR X (.builtin "len") (rLen X.K) := CallR.or call_len call_lenRd
theorem len_m : FnM X (rLen X.K) fLen := by
  intro Z H β S xs ds dz Q A r e k
  have tail : ∀ {d : D}, RVs (ctOf X) H Z β xs [d] → (match viewL S d with
      | some xs => some (D.int xs.length)
      | none => match viewK S d with
        | some xs => some (.int xs.length)
        | none => none) = some dz → rLen X.K xs H Q := fun {d} r e => by
    obtain ⟨x, rfl, r1⟩ := rvs1 r
    split at e
    · rename_i ys e1
      cases e
      obtain ⟨a, us, rfl, q1, r2⟩ := r1.viewL A.st e1
      exact .inl ⟨_, us.length, rfl, .inl ⟨us, q1, rfl⟩, by rw [r2.length]; exact k _ H (Same.refl _) (.int _)⟩
    · split at e
      · rename_i ys e1
        cases e
        obtain ⟨a, us, rfl, q1, r2⟩ := r1.viewK A.st e1
        exact .inr ⟨_, us, rfl, q1, by rw [r2.length]; exact k _ H (Same.refl _) (.int _)⟩
      · cases e
  unfold fLen at e
  split at e
  · split at e
    · rename_i hz
      cases e
      obtain ⟨x, rfl, r1⟩ := rvs1 r
      cases r1
      exact .inl ⟨_, _, rfl, ⟨hz, rfl⟩, k _ H (Same.refl _) (.int _)⟩
    · cases e
  · cases e
    obtain ⟨x, rfl, r1⟩ := rvs1 r
    obtain ⟨a, us, rfl, q1, r2⟩ := r1.viewT rfl
    exact .inl ⟨_, us.length, rfl, .inr ⟨us, q1, rfl⟩, by rw [r2.length]; exact k _ H (Same.refl _) (.int _)⟩
  · exact tail r e
  · cases e
def fAbs (_ : Store) (ds : List D) : Option D := match ds with
  | [.int i] => some (.int (if i < 0 then -i else i))
  | _ => none
theorem abs_m : FnM X (fun xs H Q => ∃ i, xs = [.int i] ∧ Q (.int (if i < 0 then -i else i)) H) fAbs := by
  intro Z H β S xs ds dz Q A r e k
  unfold fAbs at e
  split at e
  · cases e
    obtain ⟨x, rfl, r1⟩ := rvs1 r
    cases r1
    exact ⟨_, rfl, k _ H (Same.refl _) (.int _)⟩
  · cases e
def fMax (_ : Store) (ds : List D) : Option D := match ds with
  | [.int i, .int j] => some (.int (if j > i then j else i))
  | _ => none
def fMin (_ : Store) (ds : List D) : Option D := match ds with
  | [.int i, .int j] => some (.int (if j < i then j else i))
  | _ => none
theorem max_m : FnM X (fun xs H Q => ∃ i j, xs = [.int i, .int j] ∧ Q (.int (if j > i then j else i)) H) fMax := by
  intro Z H β S xs ds dz Q A r e k
  unfold fMax at e
  split at e
  · cases e
    obtain ⟨x, y, rfl, r1, r2⟩ := rvs2 r
    cases r1; cases r2
    exact ⟨_, _, rfl, k _ H (Same.refl _) (.int _)⟩
  · cases e
theorem min_m : FnM X (fun xs H Q => ∃ i j, xs = [.int i, .int j] ∧ Q (.int (if j < i then j else i)) H) fMin := by
  intro Z H β S xs ds dz Q A r e k
  unfold fMin at e
  split at e
  · cases e
    obtain ⟨x, y, rfl, r1, r2⟩ := rvs2 r
    cases r1; cases r2
    exact ⟨_, _, rfl, k _ H (Same.refl _) (.int _)⟩
  · cases e
def fDivmod (_ : Store) (ds : List D) : Option D := match ds with
  | [.int i, .int j] => if 0 < j ∧ j < 1073741824 then some (.tup [.int (i / j), .int (i % j)]) else none
  | _ => none
theorem divmod_m : FnM X (fun xs H Q => ∃ i j, xs = [.int i, .int j] ∧ CDiv i j ∧ ∀ p, H p = none → Q (.ref p) (upd H p (.tup [.int (i / j), .int (i % j)]))) fDivmod := by
  intro Z H β S xs ds dz Q A r e k
  unfold fDivmod at e
  split at e
  · split at e
    · rename_i hz
      cases e
      obtain ⟨x, y, rfl, r1, r2⟩ := rvs2 r
      cases r1; cases r2
      exact ⟨_, _, rfl, hz, fun p hp => k _ _ (same_laid hp) (.tup (.inl upd_same) (.cons (.int _) (.cons (.int _) .nil)))⟩
    · cases e
  · cases e
def allB : List D → Option (List Bool)
  | [] => some []
  | .bl b :: r => match allB r with
    | some l => some (b :: l)
    | none => none
  | _ :: _ => none
theorem allB_rvs {C : Ct} : ∀ {xs : List V} {ds : List D} {bs : List Bool}, RVs C H Z β xs ds → allB ds = some bs → xs = bs.map V.bl
  | _, [], _, r, e => by cases r; cases e; rfl
  | _, .bl b :: ds, _, r, e => by
    simp only [allB] at e
    split at e
    · rename_i l el
      cases e
      cases r with
      | cons r1 r2 => cases r1; rw [allB_rvs r2 el]; rfl
    · cases e
  | _, .non :: _, _, _, e | _, .int _ :: _, _, _, e | _, .str _ :: _, _, _, e | _, .tup _ :: _, _, _, e | _, .lst _ :: _, _, _, e | _, .dct _ :: _, _, _, e | _, .ref _ :: _, _, _, e | _, .ty _ :: _, _, _, e | _, .fn _ :: _, _, _, e => by cases e
def boolsL (S : Store) (ds : List D) : Option (List Bool) := match ds with
  | [d] => match viewL S d with
    | some xs => allB xs
    | none => none
  | _ => none
def fAll (S : Store) (ds : List D) : Option D := match boolsL S ds with
  | some bs => some (.bl (bs.all id))
  | none => none
def fAny (S : Store) (ds : List D) : Option D := match boolsL S ds with
  | some bs => some (.bl (bs.any id))
  | none => none
theorem bools_of {xs : List V} {ds : List D} {bs : List Bool} (A : At (ctOf X) H Z β S) (r : RVs (ctOf X) H Z β xs ds) (e : boolsL S ds = some bs) : ∃ a, xs = [V.ref a] ∧ SqL X.K H a (bs.map V.bl) := by
  unfold boolsL at e
  split at e
  · split at e
    · rename_i ys e1
      obtain ⟨x, rfl, r1⟩ := rvs1 r
      obtain ⟨a, us, rfl, q1, r2⟩ := r1.viewL A.st e1
      exact ⟨a, rfl, by rw [← allB_rvs r2 e]; exact q1⟩
    · cases e
  · cases e
theorem all_m : FnM X (rAll X.K) fAll := by
  intro Z H β S xs ds dz Q A r e k
  unfold fAll at e
  split at e
  · rename_i bs e1
    cases e
    obtain ⟨a, q1, q2⟩ := bools_of A r e1
    exact ⟨a, bs, q1, q2, k _ H (Same.refl _) (.bl _)⟩
  · cases e
theorem any_m : FnM X (rAny X.K) fAny := by
  intro Z H β S xs ds dz Q A r e k
  unfold fAny at e
  split at e
  · rename_i bs e1
    cases e
    obtain ⟨a, q1, q2⟩ := bools_of A r e1
    exact ⟨a, bs, q1, q2, k _ H (Same.refl _) (.bl _)⟩
  · cases e
end
end Mi

/-! Mi10: repr. -/
namespace Mi
open PySem PySem.Spec PyProof.Rows L2

mutual
/-- v reads as d, no dict of it is the table of modules -/
inductive RD (h : Heap) : Value → PyData → Prop
  | non : RD h .none .none
  | bl (b : Bool) : RD h (.bool b) (.bool b)
  | int (i : Int) (t : Tok) : RD h (.int i t) (.int i)
  | str (x : Str) (t : Tok) : RD h (.str x t) (.str x)
  | lst {a : Addr} {o : Obj} {l : List Value} {n : Nat} {xs : List PyData} : h.get? a = some o → o.cls = .type "list" → o.data = .seq l.toArray n → RDs h l xs → RD h (.ref a) (.list xs)
  | tup {a : Addr} {o : Obj} {l : List Value} {n : Nat} {xs : List PyData} : h.get? a = some o → o.cls = .type "tuple" → o.data = .seq l.toArray n → RDs h l xs → RD h (.ref a) (.tuple xs)
  | dct {a : Addr} {o : Obj} {es : Array DictEntry} {n : Nat} {kvs : List (PyData × PyData)} : h.get? a = some o → o.cls = .type "dict" → o.data = .dict es n → (a == sysModules) = false →
      RDs h (es.toList.map (·.key)) (kvs.map (·.1)) → RDs h (es.toList.map (·.val)) (kvs.map (·.2)) → RD h (.ref a) (.dict kvs)
inductive RDs (h : Heap) : List Value → List PyData → Prop
  | nil : RDs h [] []
  | cons {v : Value} {vs : List Value} {d : PyData} {ds : List PyData} : RD h v d → RDs h vs ds → RDs h (v :: vs) (d :: ds)
end
section
variable {h : Heap} {pr : Program} {w : World}
mutual
theorem RD.reads : ∀ {v : Value} {d : PyData}, RD h v d → ∃ as, Reads h v d as
  | _, _, .non => ⟨_, .none⟩
  | _, _, .bl b => ⟨_, .bool b⟩
  | _, _, .int i t => ⟨_, .int i t⟩
  | _, _, .str x t => ⟨_, .str x t⟩
  | _, _, .lst g c e r => let ⟨_, q⟩ := RDs.reads r; ⟨_, .list g c e q⟩
  | _, _, .tup g c e r => let ⟨_, q⟩ := RDs.reads r; ⟨_, .tuple g c e q⟩
  | _, _, .dct g c e _ r1 r2 => let ⟨_, q1⟩ := RDs.reads r1; let ⟨_, q2⟩ := RDs.reads r2; ⟨_, .dict g c e q1 q2⟩
theorem RDs.reads : ∀ {vs : List Value} {ds : List PyData}, RDs h vs ds → ∃ as, ReadsAll h vs ds as
  | _, _, .nil => ⟨_, .nil⟩
  | _, _, .cons r rs => let ⟨_, q⟩ := RD.reads r; let ⟨_, qs⟩ := RDs.reads rs; ⟨_, .cons q qs⟩
end
/-- what stands below: addresses and a level -/
abbrev Lo (pr : Program) (w : World) (h : Heap) (v : Value) (d : PyData) : Prop := ∃ bs, ReadAtMost h d.depth bs ∧ ReprK pr w bs h d.depth v d.shown
abbrev LoAll (pr : Program) (w : World) (h : Heap) (vs : List Value) (ds : List PyData) : Prop := ∃ bs, ReadAtMost h (PyData.depthAll ds) bs ∧ ReprAllK pr w bs h (PyData.depthAll ds) vs (PyData.shownAll ds)
theorem lo_list {a : Addr} {o : Obj} {l : List Value} {n : Nat} {xs : List PyData} (r : RD h (.ref a) (.list xs)) (g : h.get? a = some o) (c : o.cls = .type "list") (e : o.data = .seq l.toArray n) (q : LoAll pr w h l xs) (hl : l.length = (PyData.shownAll xs).length) : Lo pr w h (.ref a) (.list xs) := by
  obtain ⟨bs, hb, k⟩ := q
  obtain ⟨as, rr⟩ := r.reads
  have up : PyData.depthAll xs < (PyData.list xs).depth := by simp only [PyData.depth]; omega
  refine ⟨a :: bs, ReadAtMost.cons rr (Nat.le_of_lt up) hb, ?_⟩
  simp only [PyData.depth, PyData.shown]
  have out := not_mem_of_deeper rr up hb
  match l, e, k, hl with
  | [], e, k, hl =>
    cases hx : PyData.shownAll xs with
    | nil => rw [listText_nil]; exact ReprK.listEmpty g c e
    | cons t ts => rw [hx] at hl; cases hl
  | x :: l, e, k, hl => exact ReprK.list g c e out (by simpa using hl.symm) fun i y z => k.item i y (by simpa using z)
theorem all_length {bs : List Addr} {n : Nat} : ∀ {vs : List Value} {ts : List Str}, ReprAllK pr w bs h n vs ts → vs.length = ts.length
  | _, _, .nil => rfl
  | _, _, .cons _ r => congrArg Nat.succ (all_length r)
mutual
theorem lo_of : ∀ {v : Value} {d : PyData}, RD h v d → d.showable = true → d.shown.length ≤ sizeLine → Lo pr w h v d
  | _, _, .non, _, _ => ⟨[], nofun, by simp only [PyData.shown]; exact .of_is ReprIs.none _ _ _⟩
  | _, _, .bl b, _, _ => ⟨[], nofun, by simp only [PyData.shown]; exact .of_is (ReprIs.bool b) _ _ _⟩
  | _, _, .int i t, sh, _ => ⟨[], nofun, by simp only [PyData.shown]; exact .of_is (ReprIs.int t (by simpa [PyData.showable] using sh)) _ _ _⟩
  | _, _, .str x t, _, sz => ⟨[], nofun, by simp only [PyData.shown] at sz ⊢; exact .of_is (ReprIs.str x t sz) _ _ _⟩
  | _, _, .lst (xs := xs) g c e r, sh, sz => by
    simp only [PyData.shown] at sz
    have q := lo_all r (by simpa [PyData.showable] using sh) fun t m => Nat.le_trans (listText_mem_le m) sz
    exact lo_list (.lst g c e r) g c e q (let ⟨_, _, k⟩ := q; all_length k)
  | _, _, .tup (a := a) (xs := xs) g c e r, sh, sz => by
    simp only [PyData.shown] at sz
    obtain ⟨bs, hb, k⟩ := lo_all r (by simpa [PyData.showable] using sh) fun t m => Nat.le_trans (tupleText_mem_le m) sz
    obtain ⟨as, rr⟩ := (RD.tup g c e r).reads
    have up : PyData.depthAll xs < (PyData.tuple xs).depth := by simp only [PyData.depth]; omega
    refine ⟨a :: bs, ReadAtMost.cons rr (Nat.le_of_lt up) hb, ?_⟩
    have out := not_mem_of_deeper rr up hb
    simp only [PyData.depth, PyData.shown]
    exact ReprK.tuple g c e out (by simpa using k)
  | _, _, .dct (a := a) (es := es) (kvs := kvs) g c e sy r1 r2, sh, sz => by
    simp only [PyData.shown] at sz
    obtain ⟨sh1, sh2⟩ := PyData.showableKv_split kvs (by simpa [PyData.showable] using sh)
    have low : ∀ t : Str, (∃ p ∈ PyData.shownKv kvs, t.length ≤ p.length) → t.length ≤ sizeLine := fun t ⟨p, m, q⟩ => Nat.le_trans q (Nat.le_trans (dictText_mem_le m) sz)
    obtain ⟨b1, hb1, k1⟩ := lo_all r1 sh1 fun t m => low t (PyData.shownKv_key_le kvs t m)
    obtain ⟨b2, hb2, k2⟩ := lo_all r2 sh2 fun t m => low t (PyData.shownKv_val_le kvs t m)
    obtain ⟨as, rr⟩ := (RD.dct g c e sy r1 r2).reads
    have l1 := PyData.depthAll_keys_le kvs
    have l2 := PyData.depthAll_vals_le kvs
    have hb : ReadAtMost h (PyData.depthKv kvs) (b1 ++ b2) := (hb1.mono l1).append (hb2.mono l2)
    have up : PyData.depthKv kvs < (PyData.dict kvs).depth := by simp only [PyData.depth]; omega
    have out := not_mem_of_deeper rr up hb
    refine ⟨a :: (b1 ++ b2), ReadAtMost.cons rr (Nat.le_of_lt up) hb, ?_⟩
    simp only [PyData.depth, PyData.shown]
    rw [PyData.shownKv_eq]
    refine ReprK.dict g c e sy out (ReprEntriesK.of_two _ _ _ (k1.more_le (fun b m => ?_) l1) (k2.more_le (fun b m => ?_) l2))
    · exact List.mem_append.mpr (.inl m)
    · exact List.mem_append.mpr (.inr m)
theorem lo_all : ∀ {vs : List Value} {ds : List PyData}, RDs h vs ds → PyData.showableAll ds = true → (∀ t ∈ PyData.shownAll ds, t.length ≤ sizeLine) → LoAll pr w h vs ds
  | _, _, .nil, _, _ => ⟨[], nofun, by simp only [PyData.shownAll]; exact .nil⟩
  | _, _, .cons (d := d) (ds := ds) r rs, sh, sz => by
    simp only [PyData.showableAll, Bool.and_eq_true] at sh
    simp only [PyData.shownAll, List.mem_cons] at sz
    obtain ⟨b1, hb1, k1⟩ := lo_of r sh.1 (sz _ (.inl rfl))
    obtain ⟨b2, hb2, k2⟩ := lo_all rs sh.2 fun t m => sz t (.inr m)
    refine ⟨b1 ++ b2, ?_, ?_⟩
    · simp only [PyData.depthAll]
      exact (hb1.mono (Nat.le_max_left _ _)).append (hb2.mono (Nat.le_max_right _ _))
    · simp only [PyData.depthAll, PyData.shownAll]
      refine .cons ((k1.more fun b m => ?_).level_le (Nat.le_max_left _ _)) (k2.more_le (fun b m => ?_) (Nat.le_max_right _ _))
      · exact List.mem_append.mpr (.inl m)
      · exact List.mem_append.mpr (.inr m)
end
/-- repr(v) -/
theorem repr_of_rd {A : Around} {E Q : Value → Shared → Prop} {s : Shared} {v : Value} {d : PyData} (r : RD s.heap v d) (sh : d.showable = true) (sz : d.shown.length ≤ sizeLine) (hg : A.guards = some []) (hu : A.units + (d.depth + 1) < cLine)
    (hQ : ∀ h' u tk, (∀ b o, s.heap.get? b = some o → h'.get? b = some o) → Q (.str d.shown u) { s with heap := h', toks := tk }) : wpAny (model pr w) A (call (.builtin "repr") [v]) Q E s := by
  cases r with
  | non => simp only [PyData.shown] at hQ; exact P.repr_of_none (hQ s.heap _ _ fun _ _ e => e)
  | bl b => simp only [PyData.shown] at hQ; exact P.repr_of_bool (hQ s.heap _ _ fun _ _ e => e)
  | int i t => simp only [PyData.shown] at hQ; exact P.repr_of_int (by simpa [PyData.showable] using sh) (hQ s.heap _ _ fun _ _ e => e)
  | str x t => simp only [PyData.shown] at hQ sz; exact P.repr_of_str (hQ s.heap _ _ fun _ _ e => e) sz
  | @lst a o l n xs g c e r =>
    simp only [PyData.shown] at sz hQ
    simp only [PyData.depth] at hu
    obtain ⟨bs, hb, k⟩ := lo_all (pr := pr) (w := w) r (by simpa [PyData.showable] using sh) fun t m => Nat.le_trans (listText_mem_le m) sz
    obtain ⟨as, rr⟩ := (RD.lst g c e r).reads
    have out := not_mem_of_deeper rr (by simp only [PyData.depth]; omega : PyData.depthAll xs < _) hb
    refine call_repr_slot (by omega) ⟨o, g, c⟩ F.slot_list_repr.toG ?_
    match l, e, k with
    | [], e, k =>
      cases hx : PyData.shownAll xs with
      | cons t ts => rw [hx] at k; cases k
      | nil => rw [hx, listText_nil] at hQ; exact call_list_repr_empty ⟨o, g, c⟩ g e ⟨_, _, rfl, hQ s.heap _ _ fun _ _ e => e⟩
    | x :: l, e, k => exact call_list_reprK g c e out (by simpa using (all_length k).symm) (fun i y z => k.item i y (by simpa using z)) hg (fun b _ => Clear.nil b) (by show A.units + 1 + _ < _; omega) (fun _ _ e => e) (fun h' u tk q => ⟨_, _, rfl, hQ h' u tk q⟩) sz
  | @tup a o l n xs g c e r =>
    simp only [PyData.shown] at sz hQ
    simp only [PyData.depth] at hu
    obtain ⟨bs, hb, k⟩ := lo_all (pr := pr) (w := w) r (by simpa [PyData.showable] using sh) fun t m => Nat.le_trans (tupleText_mem_le m) sz
    obtain ⟨as, rr⟩ := (RD.tup g c e r).reads
    have out := not_mem_of_deeper rr (by simp only [PyData.depth]; omega : PyData.depthAll xs < _) hb
    refine call_repr_slot (by omega) ⟨o, g, c⟩ F.slot_tuple_repr ?_
    exact call_tuple_reprK g c e out (by simpa using k) hg (fun b _ => Clear.nil b) (by show A.units + 1 + _ < _; omega) (fun _ _ e => e) (fun h' u tk q => ⟨_, _, rfl, hQ h' u tk q⟩) sz
  | @dct a o es n kvs g c e sy r1 r2 =>
    simp only [PyData.shown] at sz hQ
    simp only [PyData.depth] at hu
    obtain ⟨sh1, sh2⟩ := PyData.showableKv_split kvs (by simpa [PyData.showable] using sh)
    have low : ∀ t : Str, (∃ p ∈ PyData.shownKv kvs, t.length ≤ p.length) → t.length ≤ sizeLine := fun t ⟨p, m, q⟩ => Nat.le_trans q (Nat.le_trans (dictText_mem_le m) sz)
    obtain ⟨b1, hb1, k1⟩ := lo_all (pr := pr) (w := w) r1 sh1 fun t m => low t (PyData.shownKv_key_le kvs t m)
    obtain ⟨b2, hb2, k2⟩ := lo_all (pr := pr) (w := w) r2 sh2 fun t m => low t (PyData.shownKv_val_le kvs t m)
    obtain ⟨as, rr⟩ := (RD.dct g c e sy r1 r2).reads
    have l1 := PyData.depthAll_keys_le kvs
    have l2 := PyData.depthAll_vals_le kvs
    have out := not_mem_of_deeper rr (by simp only [PyData.depth]; omega : PyData.depthKv kvs < _) ((hb1.mono l1).append (hb2.mono l2))
    refine call_repr_slot (by omega) ⟨o, g, c⟩ F.slot_dict_repr ?_
    rw [PyData.shownKv_eq] at sz hQ
    refine call_dict_reprK g c e sy out (ReprEntriesK.of_two _ _ _ (k1.more_le (fun b m => ?_) l1) (k2.more_le (fun b m => ?_) l2)) hg (fun b _ => Clear.nil b) (by show A.units + 1 + _ < _; omega) (fun _ _ e => e) (fun h' u tk q => ⟨_, _, rfl, hQ h' u tk q⟩) sz
    · exact List.mem_append.mpr (.inl m)
    · exact List.mem_append.mpr (.inr m)
end

/-! ### from trees -/
section
variable {X : Cx} {pins : List (Addr × Obj)} {σ : L2.St} {H : Hp} {s : Shared} {Z : Addr → Prop} {β : List Addr} {S : Store}
theorem pairs_keys {es : List DictEntry} {vs : List (Key × Value)} (p : Pairs (mixKind X.prog X.w) es vs) : RDs s.heap (es.map (·.key)) (vs.map fun q => kPy q.1) := by
  induction p with
  | nil => exact .nil
  | @cons e kv es kvs h1 h2 _ ih =>
    refine .cons ?_ ih
    rcases keyIs_shape (show keyIs kv.1 e.key = true from h1) with ⟨i, t, q, z⟩ | ⟨y, t, q, z⟩
    · show RD _ e.key (kPy kv.1)
      rw [q, z]; exact .int i t
    · show RD _ e.key (kPy kv.1)
      rw [q, z]; exact .str y t
theorem pairs_vals {P : Program} {w : World} {es : List DictEntry} {vs : List (Key × Value)} (p : Pairs (mixKind P w) es vs) : es.map (·.val) = vs.map (·.2) := by
  induction p with
  | nil => rfl
  | cons h1 h2 _ ih => rw [List.map_cons, List.map_cons, h2, ih]
theorem rv_lst {v : V} {xs : List D} (r : RV (ctOf X) H Z β v (.lst xs)) : ∃ a us, v = V.ref a ∧ SqL X.K H a us ∧ RVs (ctOf X) H Z β us xs := by
  cases r with
  | lst _ _ hr hs => exact ⟨_, _, rfl, .inl hr, hs⟩
  | klst k hs => exact ⟨_, _, rfl, .inr k, hs⟩
mutual
theorem rd_tree (I : L2.Inv X pins σ H s) : ∀ {v : V} {u : Value} {d : D} {p : PyData}, VW (ctOf X) H β v d → RelV v u → toPy true d = some p → RD s.heap u p
  | _, _, .non, _, r, q, e => by cases r; cases q; simp only [toPy] at e; cases e; exact .non
  | _, _, .bl b, _, r, q, e => by cases r; cases q; simp only [toPy] at e; cases e; exact .bl b
  | _, _, .int i, _, r, q, e => by cases r; obtain ⟨t, rfl⟩ := q; simp only [toPy] at e; cases e; exact .int i t
  | _, _, .str x, _, r, q, e => by cases r; obtain ⟨t, rfl⟩ := q; simp only [toPy] at e; cases e; exact .str x t
  | _, _, .tup xs, _, r, q, e => by
    simp only [toPy] at e
    split at e
    · rename_i l el
      cases e
      cases r with
      | tup q1 q2 =>
      cases q
      obtain ⟨its, rv, ⟨o, g, c, n, dd⟩, _⟩ := I.tuple q1
      exact .tup g c dd (rd_trees I q2 rv el)
    · cases e
  | _, _, .lst xs, _, r, q, e => by
    simp only [toPy] at e
    split at e
    · rename_i l el
      cases e
      cases r with
      | lst q1 q2 =>
      cases q
      obtain ⟨its, rv, ⟨o, n, g, c, _, dd⟩, _⟩ := I.list q1
      exact .lst g c dd (rd_trees I q2 rv el)
    · cases e
  | _, _, .dct xs, _, r, q, e => by
    simp only [toPy] at e
    split at e
    · rename_i l el
      cases e
      cases r with
      | dct hr hs =>
        cases q
        obtain ⟨_, sy, vs, rk, o, es, ep, g, ⟨c, _⟩, dd, _, pp, _⟩ := dk_rd I.hok hr
        have q2 := rd_treek I hs rk el
        refine .dct g c dd sy ?_ ?_
        · have := pairs_keys (X := X) (s := s) pp
          rw [← q2.1]
          exact this
        · rw [pairs_vals pp]
          exact q2.2
    · cases e
  | _, _, .ref n, _, r, q, e => by simp only [toPy] at e; cases e
  | _, _, .ty n, _, r, q, e => by simp only [toPy] at e; cases e
  | _, _, .fn n, _, r, q, e => by simp only [toPy] at e; cases e
theorem rd_trees (I : L2.Inv X pins σ H s) : ∀ {vs : List V} {us : List Value} {ds : List D} {ps : List PyData}, VWs (ctOf X) H β vs ds → Vals vs us → toPys true ds = some ps → RDs s.heap us ps
  | _, _, [], _, r, q, e => by cases r; cases q; simp only [toPys] at e; cases e; exact .nil
  | _, _, d :: ds, _, r, q, e => by
    simp only [toPys] at e
    split at e
    · rename_i x ex
      split at e
      · rename_i l el
        cases e
        cases r with
        | cons r1 r2 => cases q with
          | cons q1 q2 => exact .cons (rd_tree I r1 q1 ex) (rd_trees I r2 q2 el)
      · cases e
    · cases e
theorem rd_treek (I : L2.Inv X pins σ H s) : ∀ {vs : List (Key × V)} {us : List (Key × Value)} {ds : List (Key × D)} {ps : List (PyData × PyData)}, VWk (ctOf X) H β vs ds → KV vs us → toPyk true ds = some ps →
    (us.map fun q => kPy q.1) = ps.map (·.1) ∧ RDs s.heap (us.map (·.2)) (ps.map (·.2))
  | _, _, [], _, r, q, e => by cases r; cases q; simp only [toPyk] at e; cases e; exact ⟨rfl, .nil⟩
  | _, _, (k, d) :: ds, _, r, q, e => by
    simp only [toPyk, toPyp] at e
    split at e
    · rename_i x ex
      split at e
      · rename_i l el
        cases e
        split at ex
        · rename_i y ey
          cases ex
          cases r with
          | cons r1 r2 => cases q with
            | cons q1 q2 =>
              obtain ⟨e1, e2⟩ := q1
              obtain ⟨a1, a2⟩ := rd_treek I r2 q2 el
              refine ⟨?_, .cons (rd_tree I r1 e2 ey) a2⟩
              rw [List.map_cons, List.map_cons, a1, ← e1]
        · cases ex
      · cases e
    · cases e
end
def fRepr (S : Store) (ds : List D) : Option D := match ds with
  | [d] => match toPy true (top S d) with
    | some p => if p.showable = true ∧ p.shown.length ≤ sizeLine ∧ p.depth ≤ 64 then some (.str p.shown) else none
    | none => none
  | _ => none
/-- the relation for repr: a state is needed -/
def rRepr (X : Cx) : List V → Hp → VK → Prop := fun xs H Q => ∃ (β : List Addr) (x : V) (d : D) (p : PyData), xs = [x] ∧ VW (ctOf X) H β x d ∧ toPy true d = some p ∧ p.showable = true ∧ p.shown.length ≤ sizeLine ∧ p.depth ≤ 64 ∧ Q (.str p.shown) H
theorem call_repr (hg : X.A.guards = some []) (hu : X.A.units + 65 < cLine) : CallR X (.builtin "repr") (rRepr X) := by
  intro pins s σ H xs us Q I r h
  obtain ⟨β, x, d, p, rfl, rv, e, h1, h2, h3, q⟩ := h
  obtain ⟨u, rfl, ru⟩ := vals1 r
  exact repr_of_rd (rd_tree I rv ru e) h1 h2 hg (by omega) fun h' t tk k => ⟨.str p.shown, H, I.kept k, ⟨_, rfl⟩, q⟩
theorem repr_m : FnM X (rRepr X) fRepr := by
  intro Z H β S xs ds dz Q A r e k
  unfold fRepr at e
  split at e
  · rename_i d
    split at e
    · rename_i p ep
      split at e
      · rename_i hz
        cases e
        obtain ⟨x, rfl, r1⟩ := rvs1 r
        exact ⟨β, x, top S d, p, rfl, r1.top A.st, ep, hz.1, hz.2.1, hz.2.2, k _ H (Same.refl _) (.str _)⟩
      · cases e
    · cases e
  · cases e
end
end Mi

/-! Mi11: subscripts, stores into things of the store, methods, displays of dicts, calls by value. -/
namespace Mi
open PySem PySem.Spec PyProof.Rows L2

def dIx (S : Store) (x y : D) : Option D := match x, y with
  | .str z, .int i => if z.length ≤ sizeLine then (match atI z.cps.toList i with
    | some c => some (.str ⟨#[c]⟩)
    | none => none) else none
  | .tup xs, .int i => atI xs i
  | x, .int i => match viewL S x with
    | some xs => atI xs i
    | none => none
  | _, _ => none
section
variable {X : Cx} {W : WX} {b : Bool} {a e o : Expr} {es : List Expr} {ma mb me mo : EX} {mas : AX} {pos : Pos}
theorem rvs_at {C : Ct} {H : Hp} {Z : Addr → Prop} {β : List Addr} {vs : List V} {ds : List D} {i : Int} {d : D} (r : RVs C H Z β vs ds) (h : atI ds i = some d) : ∃ v, atI vs i = some v ∧ RV C H Z β v d := by
  unfold atI at h ⊢
  rw [r.length]
  cases e : ixN ds.length i with
  | none => rw [e] at h; cases h
  | some j =>
    rw [e] at h
    exact r.get h
theorem ix_m : OpM X (rIx X.K) dIx := by
  intro Z H β S x y dx dy dz Q A rx ry e k
  have tail : ∀ {d : D} {i : Int}, RV (ctOf X) H Z β x d → RV (ctOf X) H Z β y (.int i) → (match viewL S d with
    | some xs => atI xs i
    | none => none) = some dz → rIx X.K x y H Q := fun {d i} rx ry e => by
    split at e
    · rename_i xs e1
      obtain ⟨a, us, rfl, q1, r1⟩ := rx.viewL A.st e1
      obtain ⟨v, e2, r2⟩ := rvs_at r1 e
      cases ry
      exact .inl ⟨a, us, i, v, rfl, rfl, q1, e2, k _ H (Same.refl _) r2⟩
    · cases e
  unfold dIx at e
  split at e
  · split at e
    · rename_i hz
      split at e
      · rename_i c ec
        cases e; cases rx; cases ry
        exact .inr (.inr ⟨_, _, c, rfl, rfl, hz, ec, k _ H (Same.refl _) (.str _)⟩)
      · cases e
    · cases e
  · obtain ⟨a, us, rfl, q1, r1⟩ := rx.viewT rfl
    obtain ⟨v, e2, r2⟩ := rvs_at r1 e
    cases ry
    exact .inr (.inl ⟨a, us, _, v, rfl, rfl, q1, e2, k _ H (Same.refl _) r2⟩)
  · exact tail rx ry e
  · cases e
/-- a[b] -/
theorem pm_ix (ha : PM (ctOf X) W b X a ma) (hb : PM (ctOf X) W b X e mb) (hs : PlainIx e := by exact fun _ _ => rfl) : PM (ctOf X) W b X (.Subscript a e pos) (mBin dIx ma mb) :=
  PE_imp (pe_ix ix_seq ha hb hs) fun σ H Q h => em2 ix_m h

/-! ### o[i] = v, o a list of the store -/
def storeIx (o i v : D) (S : Store) : Option Store := match o, i with
  | .ref n, .int k => match S[n]? with
    | some (.lst xs) => match ixN xs.length k with
      | some j => some (S.set n (.lst (xs.set j v)))
      | none => none
    | _ => none
  | _, _ => none
def gIx (mo mi : EX) : GX := fun v ρ S => match mo ρ S with
  | .ok o S1 => match mi ρ S1 with
    | .ok i S2 => match storeIx o i v S2 with
      | some S3 => some (ρ, S3)
      | none => none
    | _ => none
  | _ => none
theorem LR.wrote {C : Ct} {cf : Cf} {oa : Nat → Option Addr} {P : Addr → Prop} {σ : L2.St} {H : Hp} {β : List Addr} {ρ : Rho} {S : Store} {n : Nat} {p : Addr} {o : HO} {so : SO} (L : LR C cf oa P σ H β ρ S) (hp : β[n]? = some p) (new : SOK C (upd H p o) P β p so) (hf : ∀ o u, H p ≠ some (.frz o u)) : LR C cf oa P σ (upd H p o) β ρ (S.set n so) := by
  have m : p ∈ β := List.mem_of_getElem? hp
  exact L.step (Ext.wrote m (L.st.notup m) hf) (L.st.set hp new)
theorem pg_ixM (ho : PM (ctOf X) W true X o mo) (hi : PM (ctOf X) W true X e me)
    (ha : ∀ v, assign (.Subscript o e pos) X.env v = (do
      let ov ← holding [v] (eval o X.env)
      let iv ← holding [v, ov] (eval e X.env)
      standAt pos
      holding [v, ov, iv] (setItem ov iv v)
      release [v, ov, iv] []) := by intro _; rfl) : PGM X (.Subscript o e pos) (gIx mo me) :=
  PG_imp (pg_sub ho hi set_list ha) fun v σ H Q h => by
    obtain ⟨cf, oa, P, β, ρ, S, d, L, r, h⟩ := h
    unfold gIx at h
    refine ⟨cf, oa, P, β, ρ, S, L, ?_⟩
    cases eo : mo ρ S with
    | stuck => rw [eo] at h; exact h.elim
    | exc x S1 => rw [eo] at h; exact h.elim
    | ok od S1 =>
      rw [eo] at h
      simp only at h
      intro ov H1 β1 t1 L1 r1
      obtain ⟨s1, rfl, rfl⟩ := t1.ro rfl
      refine ⟨cf, oa, P, β1, ρ, S1, L1, ?_⟩
      cases ei : me ρ S1 with
      | stuck => rw [ei] at h; exact h.elim
      | exc x S2 => rw [ei] at h; exact h.elim
      | ok id S2 =>
        rw [ei] at h
        intro iv H2 β2 t2 L2 r2
        obtain ⟨s2, rfl, rfl⟩ := t2.ro rfl
        simp only at h
        cases es : storeIx od id d S2 with
        | none => rw [es] at h; exact h.elim
        | some S3 =>
          rw [es] at h
          unfold storeIx at es
          split at es
          · rename_i n k
            split at es
            · rename_i xs eS
              split at es
              · rename_i j ej
                cases es
                have r1' := r1.mono (Ext.same s2)
                cases r1' with
                | ref hn =>
                  obtain ⟨us, q1, q2⟩ := L2.st.ok _ _ _ hn eS
                  cases r2
                  refine ⟨_, us, k, j, rfl, rfl, q1, by rw [q2.length]; exact ej, ?_⟩
                  have m := List.mem_of_getElem? hn
                  have nt := L2.st.notup m
                  have rd : RV (ctOf X) H2 P β2 v d := (r.mono (Ext.same s1)).mono (Ext.same s2)
                  have new : SOK (ctOf X) (upd H2 _ (.lst (us.set j v))) P β2 _ (.lst (xs.set j d)) := ⟨_, upd_same, (q2.set' j rd).set (.inr m) nt⟩
                  have hf : ∀ o u, H2 _ ≠ some (.frz o u) := fun o u z => by rw [q1] at z; cases z
                  exact h σ _ β2 oa P (L2.wrote hn new hf) ((Fx.of (Ext.same (s1.trans s2))).trans (Fx.of (Ext.wrote m nt hf)))
              · cases es
            · cases es
          · cases es

/-! ### methods of built-in values -/
/-- methods of texts -/
def isStr : D → Bool
  | .str _ => true
  | _ => false
def mMethS (f : Store → D → List D → Option D) (o : EX) (as : AX) : EX := fun ρ S => (o ρ S).bind fun x S1 => if isStr x = true then (as ρ S1).bind fun ys S2 => R.opt (f S2 x ys) S2 else .stuck
/-- a method's rule by values, with the receiver's type seen before the arguments -/
def MtM (X : Cx) (T : String) (r : V → List V → Hp → VK → Prop) (f : Store → D → List D → Option D) : Prop :=
  ∀ (Z : Addr → Prop) (H : Hp) (β : List Addr) (S : Store) (x : V) (xs : List V) (dx : D) (ds : List D) (dz : D) (Q : VK), At (ctOf X) H Z β S → RV (ctOf X) H Z β x dx → RVs (ctOf X) H Z β xs ds → f S dx ds = some dz →
    (∀ v H', Same H H' → RV (ctOf X) H' Z β v dz → Q v H') → r x xs H Q
theorem pm_methS {id : String} {name : Str} {apos cpos : Pos} {r : V → List V → Hp → VK → Prop} {f : Store → D → List D → Option D} (slot : Slot "str" name id) (hty : typeOf (.builtin id) = pure (.type "method_descriptor")) (hm : MtR X id r) (hf : MtM X "str" r f)
    (ho : PM (ctOf X) W b X o mo) (ha : PAM (ctOf X) W b X (e :: es) mas)
    (hbase : attributeBase o name X.env (eval o X.env) = eval o X.env := by rfl)
    (hfew : ((backTo cpos (starEach (e :: es) X.env)).all (fun x => !x.1) && (backToKw cpos (keywordEach [] X.env)).all (fun x => x.1.isSome)
      && decide ((e :: es).length + ([] : List Keyword).length + (if ([] : List Keyword).isEmpty then 0 else 1) < 30)) = true := by rfl)
    (hline : (apos.endLine == cpos.line) = true := by rfl) (hst : starEach (e :: es) X.env = (false, eval e X.env) :: starEach es X.env := by rfl) (hpl : (backTo cpos (starEach es X.env)).any (·.1) = false := by rfl) :
    PM (ctOf X) W b X (.Call (.Attribute o name apos) (e :: es) [] cpos) (mMethS f mo mas) := PE_imp (pe_bm F.plainAttrs_str slot hty hm ho ha hbase hfew hline hst hpl) fun σ H Q h => by
  obtain ⟨cf, oa, P, β, ρ, S, L, h⟩ := h
  refine ⟨cf, oa, P, β, ρ, S, L, ?_⟩
  unfold mMethS at h
  cases eo : mo ρ S with
  | stuck => rw [eo] at h; exact h
  | exc x S1 => rw [eo] at h; exact h
  | ok od S1 =>
    rw [eo] at h
    simp only [R.bind] at h
    intro v H1 β1 t1 L1 r1
    cases od with
    | str z =>
      rw [if_pos (by rfl)] at h
      cases r1
      refine ⟨rfl, cf, oa, P, β1, ρ, S1, L1, ?_⟩
      cases ea : mas ρ S1 with
      | stuck => rw [ea] at h; exact h
      | exc x S2 => rw [ea] at h; intro cls d H' β' t2 L2 ex; exact h cls d H' β' (t1.trans t2) L2 ex
      | ok ds S2 =>
        rw [ea] at h
        simp only [R.bind] at h
        intro xs H2 β2 t2 L2 r2
        cases ef : f S2 (.str z) ds with
        | none => rw [ef] at h; exact h.elim
        | some dz =>
          rw [ef] at h
          exact hf P H2 β2 S2 _ xs _ ds dz Q L2.at (.str z) r2 ef fun v H' e3 r3 => h v H' β2 (t1.trans (t2.trans (Tr.same e3))) (L2.same e3) r3
    | _ => exact (show False from h).elim
def strsOf : List D → Option (List Str)
  | [] => some []
  | .str x :: r => match strsOf r with
    | some l => some (x :: l)
    | none => none
  | _ :: _ => none
theorem strs_rvs {C : Ct} {H : Hp} {Z : Addr → Prop} {β : List Addr} : ∀ {xs : List V} {ds : List D} {bs : List Str}, RVs C H Z β xs ds → strsOf ds = some bs → xs = bs.map V.str
  | _, [], _, r, e => by cases r; cases e; rfl
  | _, .str b :: ds, _, r, e => by
    simp only [strsOf] at e
    split at e
    · rename_i l el
      cases e
      cases r with
      | cons r1 r2 => cases r1; rw [strs_rvs r2 el]; rfl
    · cases e
  | _, .non :: _, _, _, e | _, .int _ :: _, _, _, e | _, .bl _ :: _, _, _, e | _, .tup _ :: _, _, _, e | _, .lst _ :: _, _, _, e | _, .dct _ :: _, _, _, e | _, .ref _ :: _, _, _, e | _, .ty _ :: _, _, _, e | _, .fn _ :: _, _, _, e => by cases e
def fJoin (S : Store) (x : D) (ds : List D) : Option D := match x, ds with
  | .str a, [.tup xs] => match strsOf xs with
    | some ys => if (ys.map (·.length)).sum + ys.length * a.length ≤ 16777216 then some (.str (Txt.join a ys)) else none
    | none => none
  | .str a, [d] => match viewL S d with
    | some xs => match strsOf xs with
      | some ys => if (ys.map (·.length)).sum + ys.length * a.length ≤ 16777216 then some (.str (Txt.join a ys)) else none
      | none => none
    | none => none
  | _, _ => none
theorem join_m : MtM X "str" (fun x xs H Q => ∃ a p, ∃ ys : List Str, x = .str a ∧ xs = [.ref p] ∧ (SqL X.K H p (ys.map V.str) ∨ SqT X.K H p (ys.map V.str)) ∧
    (ys.map (·.length)).sum + ys.length * a.length ≤ 16777216 ∧ Q (.str (Txt.join a ys)) H) fJoin := by
  intro Z H β S x xs dx ds dz Q A rx r e k
  unfold fJoin at e
  split at e
  · split at e
    · rename_i ys ey
      split at e
      · rename_i hz
        cases e
        cases rx
        obtain ⟨v, rfl, r1⟩ := rvs1 r
        obtain ⟨p, us, rfl, q1, q2⟩ := r1.viewT rfl
        rw [strs_rvs q2 ey] at q1
        exact ⟨_, p, ys, rfl, rfl, .inr q1, hz, k _ H (Same.refl _) (.str _)⟩
      · cases e
    · cases e
  · split at e
    · rename_i xs' e1
      split at e
      · rename_i ys ey
        split at e
        · rename_i hz
          cases e
          cases rx
          obtain ⟨v, rfl, r1⟩ := rvs1 r
          obtain ⟨p, us, rfl, q1, q2⟩ := r1.viewL A.st e1
          rw [strs_rvs q2 ey] at q1
          exact ⟨_, p, ys, rfl, rfl, .inl q1, hz, k _ H (Same.refl _) (.str _)⟩
        · cases e
      · cases e
    · cases e
  · cases e

/-! ### calls of a value: which def it is comes out of the run -/
def mCallV (T : List (Str × FX)) (mf : EX) (a : AX) : EX := fun ρ S => (mf ρ S).bind fun d S1 => match d with
  | .fn x => match T.lookup x with
    | some f => (a ρ S1).bind fun us S2 => f us S2
    | none => .stuck
  | _ => .stuck
structure ValOk (X : Cx) (k : Nat) (n : Nat) (x : Str) (f : FX) : Prop where
  ex : ∃ (st : Stmt) (ps : List Str), DefOk X.prog X.w X.K X.mg X.base k x st ps f ∧ BindOk st ps [] n (List.range n) ∧ ps.length = n
theorem pick_range {α : Type} : ∀ (us : List α) (n : Nat), us.length = n → pick (List.range n) us [] = us := by
  intro us n h
  unfold pick
  rw [List.append_nil]
  subst h
  induction us with
  | nil => rfl
  | cons u us ih =>
    rw [List.length_cons, List.range_succ_eq_map, List.filterMap_cons]
    simp only [List.getElem?_cons_zero, List.filterMap_map]
    congr 1
theorem pm_callV {T : List (Str × FX)} {fe : Expr} {mf : EX} {k j n : Nat} (hT : ∀ x f, T.lookup x = some f → ValOk X k n x f) (hgd : X.A.guards = some []) (hr : Room j X.A) (hkj : k ≤ j) (tk : Takes X W) (hf : PM (ctOf X) W false X fe mf) (ha : PAM (ctOf X) W false X (e :: es) mas) (h1 : ALen mas n)
    (he : starEach (e :: es) X.env = (false, eval e X.env) :: starEach es X.env := by rfl)
    (hc : eval (.Call fe (e :: es) [] pos) X.env = (do callWith pos (← eval fe X.env) [] (backTo pos (starEach (e :: es) X.env)) (backToKw pos (keywordEach [] X.env))) := by rfl)
    (hall : (backToKw pos (keywordEach [] X.env)).all (·.1.isSome) = true := by rfl) (hks : (backToKw pos (keywordEach [] X.env)) = [] := by rfl)
    (hpl : ((backTo pos (starEach (e :: es) X.env)).any (·.1) || (backToKw pos (keywordEach [] X.env)).any (·.1.isNone)) = false := by rfl) : PM (ctOf X) W false X (.Call fe (e :: es) [] pos) (mCallV T mf mas) := by
  refine ⟨fun pins s σ H Q I h => ?_⟩
  have h' : EM (ctOf X) W false mf σ H fun v H1 => ∃ x f, T.lookup x = some f ∧ (∃ fa, v = .ref fa ∧ X.mg x = some (.ref fa) ∧ PySem.W.keepIn X.K (.ref fa) = true) ∧ AM (ctOf X) W false mas σ H1 fun vs H2 => vs.length = n ∧ spM (ctOf X) n f vs H2 Q (WE W σ) := by
    obtain ⟨cf, oa, P, β, ρ, S, L, h⟩ := h
    refine ⟨cf, oa, P, β, ρ, S, L, ?_⟩
    unfold mCallV at h
    cases ef : mf ρ S with
    | stuck => rw [ef] at h; exact h
    | exc x S1 => rw [ef] at h; exact h
    | ok d S1 =>
      rw [ef] at h
      simp only [R.bind] at h
      intro v H1 β1 t1 L1 r1
      cases d with
      | fn x =>
        simp only at h
        cases el : T.lookup x with
        | none => rw [el] at h; exact h.elim
        | some f =>
          rw [el] at h
          simp only at h
          cases r1 with
          | fn hm hk =>
            refine ⟨x, f, el, ⟨_, rfl, hm, hk⟩, cf, oa, P, β1, ρ, S1, L1, ?_⟩
            cases ea : mas ρ S1 with
            | stuck => rw [ea] at h; exact h
            | exc x S2 => rw [ea] at h; intro cls d H' β' e2 L2 ex; exact h cls d H' β' (t1.trans e2) L2 ex
            | ok us S2 =>
              rw [ea] at h
              simp only at h
              intro vs H2 β2 t2 L2 r2
              have n1 : vs.length = n := by rw [r2.length]; exact h1 _ _ _ _ ea
              exact ⟨n1, call_sp (t1.trans t2) L2 r2 n1 h⟩
      | _ => exact h.elim
  rw [hc]
  refine wpAny_bind (thn (hf.run pins s σ H _ I h') fun fv s1 ⟨v, H1, I1, rv, x, f, el, ⟨fa, ev, hm, hk⟩, q⟩ => ?_)
  subst ev
  obtain rfl : fv = Value.ref fa := rv
  obtain ⟨st, ps, ⟨fa', y, qual, fd, F, hm', G⟩, B, hp⟩ := (hT x f el).ex
  have hff : fa = fa' := by have z := hm.symm.trans hm'; injection z with z; injection z
  subst hff
  refine PySem.W.callWith_KW (h₀ := X.base) I.ok.mod.kin F.kp hall (thn (ha.run pos pins s1 σ H1 _ I1 q) fun us s2 ⟨vs, H2, I2, r, n1, q2⟩ => ?_) hpl he
  rw [hks]
  refine evalAll_nil ⟨I2.kIn, ?_⟩
  have hu : us.length = n := by rw [← r.length]; exact n1
  have bd := bind_to (s := s2) (us := us) (ws := []) F B hu rfl
  rw [pick_range us n hu] at bd
  exact run_call (ks := []) (ws := []) G hgd (hr.mono hkj) (passAt tk σ) I2 bd r (hp ▸ spM_ct (C := ctOf X) (C' := ⟨X.K, X.mg, X.w, []⟩) rfl rfl q2)
/-- a def as a value -/
theorem pm_fn {x : Str} {st : Stmt} {ps : List Str} {f : FX} {k : Nat} {p : Pos} (Dk : DefOk X.prog X.w X.K X.mg X.base k x st ps f) (hg : Gl X x := by rfl) (hdb : (x == ("__debug__" : Str)) = false := by decide) : PM (ctOf X) W b X (.Name x p) (mC (.fn x)) := by
  obtain ⟨fa, y, qual, fd, F, hm, G⟩ := Dk.ex
  exact pm_glob (v := .ref fa) hm rfl (fun _ _ _ => .fn hm F.kp) hg hdb
end
end Mi

/-! Mi12: displays of dicts, range. -/
namespace Mi
open PySem PySem.Spec PyProof.Rows L2

def hasD (kvs : List (Key × D)) (k : Key) : Bool := kvs.any fun kv => decide (kv.1 = k)
def putD (kvs : List (Key × D)) (k : Key) (v : D) : List (Key × D) :=
  if hasD kvs k = true then kvs.map (fun kv => if kv.1 = k then (kv.1, v) else kv) else kvs ++ [(k, v)]
def mergeD (kvs more : List (Key × D)) : List (Key × D) := more.foldl (fun acc kv => putD acc kv.1 kv.2) kvs
def keyD : D → Option Key
  | .int i => some (.inl i)
  | .str x => some (.inr x)
  | _ => none
def keysD : List D → Option (List (Key × D))
  | [] => some []
  | [_] => none
  | k :: v :: r => match keyD k with
    | some a => match keysD r with
      | some l => some ((a, v) :: l)
      | none => none
    | none => none
def mDct0 : EX := fun _ S => .ok (.dct []) S
def dDisp (xs : List D) : Option D := match keysD xs with
  | some kvs => if kvs.length ≤ 15 then some (.dct (mergeD [] kvs)) else none
  | none => none
def mDct (m : AX) : EX := fun ρ S => (m ρ S).bind fun xs S1 => R.opt (dDisp xs) S1
def flatA : List (EX × EX) → AX
  | [] => aNil
  | (k, v) :: r => aCons k (aCons v (flatA r))

section
variable {C : Ct} {H : Hp} {P : Addr → Prop} {β : List Addr}
theorem rk_has {k : Key} : ∀ {vs : List (Key × V)} {ds : List (Key × D)}, RKs C H P β vs ds → (vs.any fun kv => decide (kv.1 = k)) = hasD ds k
  | _, _, .nil => rfl
  | _, _, .cons (vs := vs) (ds := ds) r t => by
    unfold hasD
    rw [List.any_cons, List.any_cons, rk_has t]
    rfl
theorem rk_repl {k : Key} {y : V} {d : D} (q : RV C H P β y d) : ∀ {vs : List (Key × V)} {ds : List (Key × D)}, RKs C H P β vs ds → RKs C H P β (vs.map fun kv => if kv.1 = k then (kv.1, y) else kv) (ds.map fun kv => if kv.1 = k then (kv.1, d) else kv)
  | _, _, .nil => .nil
  | _, _, .cons (k := k') (v := v) (d := d') r t => by
    rw [List.map_cons, List.map_cons]
    by_cases e : k' = k
    · rw [if_pos e, if_pos e]; exact .cons q (rk_repl q t)
    · rw [if_neg e, if_neg e]; exact .cons r (rk_repl q t)
theorem rk_snoc {k : Key} {y : V} {d : D} (q : RV C H P β y d) : ∀ {vs : List (Key × V)} {ds : List (Key × D)}, RKs C H P β vs ds → RKs C H P β (vs ++ [(k, y)]) (ds ++ [(k, d)])
  | _, _, .nil => .cons q .nil
  | _, _, .cons r t => .cons r (rk_snoc q t)
theorem rk_put {k : Key} {y : V} {d : D} {vs : List (Key × V)} {ds : List (Key × D)} (r : RKs C H P β vs ds) (q : RV C H P β y d) : RKs C H P β (putK vs k y) (putD ds k d) := by
  unfold putK putD
  rw [rk_has r]
  by_cases e : hasD ds k = true
  · rw [if_pos e, if_pos e]; exact rk_repl q r
  · rw [if_neg e, if_neg e]; exact rk_snoc q r
theorem rk_merge : ∀ {ms : List (Key × V)} {es : List (Key × D)}, RKs C H P β ms es → ∀ {vs : List (Key × V)} {ds : List (Key × D)}, RKs C H P β vs ds → RKs C H P β (mergeK vs ms) (mergeD ds es)
  | _, _, .nil, _, _, r => r
  | _, _, .cons q t, _, _, r => rk_merge t (rk_put r q)
theorem kv_key {v : V} {d : D} {k : Key} (r : RV C H P β v d) (e : keyD d = some k) : v = kV k := by
  cases r <;> first | (cases e; rfl) | cases e
/-- the pairs that a flat list stands for -/
inductive Pr : List V → List (V × V) → Prop
  | nil : Pr [] []
  | cons {a b : V} {vs : List V} {ps : List (V × V)} : Pr vs ps → Pr (a :: b :: vs) ((a, b) :: ps)
theorem keys_rk : ∀ {ds : List D} {kvs : List (Key × D)} {vs : List V} {ps : List (V × V)}, RVs C H P β vs ds → keysD ds = some kvs → Pr vs ps → ∃ ks : List (Key × V), ps = ks.map (fun kv => (kV kv.1, kv.2)) ∧ RKs C H P β ks kvs
  | [], _, _, _, r, e, p => by cases r; cases e; cases p; exact ⟨[], rfl, .nil⟩
  | [_], _, _, _, r, e, p => by cases e
  | a :: b :: ds, _, _, _, r, e, p => by
    simp only [keysD] at e
    split at e
    · rename_i k ek
      split at e
      · rename_i l el
        cases e
        cases r with
        | cons r1 r => cases r with
          | cons r2 r =>
            cases p with
            | cons p =>
              obtain ⟨ks, e1, q⟩ := keys_rk r el p
              rw [kv_key r1 ek, e1]
              exact ⟨(k, _) :: ks, rfl, .cons r2 q⟩
      · cases e
    · cases e
end
section
variable {X : Cx} {W : WX} {b : Bool} {pos : Pos}
/-- {} -/
theorem pn_dct0 : PN (ctOf X) W b X (.Dict [] [] pos) mDct0 := PE_imp pe_dnewK fun σ H Q h => by
  obtain ⟨cf, oa, P, β, ρ, S, L, h⟩ := h
  intro p hp
  have x : Same H (upd H p (.dK [])) := same_laid hp
  exact h p _ β (Tr.same x) hp (L.keepMore x hp (by rw [upd_same]; exact Option.some_ne_none _)) ⟨[], upd_same, .nil⟩
theorem pairs_am {σ : L2.St} : ∀ {ms : List (EX × EX)} {H : Hp} {Q : List (V × V) → Hp → Prop}, AM (ctOf X) W b (flatA ms) σ H (fun vs H' => ∀ ps, Pr vs ps → Q ps H') → tPairs (ms.map fun m => (EM (ctOf X) W b m.1, EM (ctOf X) W b m.2)) σ H Q
  | [], H, Q, h => by
    obtain ⟨cf, oa, P, β, ρ, S, L, h⟩ := h
    exact h [] H β Tr.refl L .nil [] .nil
  | (k, v) :: ms, H, Q, h => by
    have h1 := am_cons (X := X) (W := W) h
    refine em_q h1 fun x H1 h2 => ?_
    refine em_q (am_cons (X := X) (W := W) h2) fun y H2 h3 => ?_
    refine pairs_am (ms := ms) ?_
    refine am_q h3 fun vs H3 q ps hp => q _ (.cons hp)
where
  em_q {σ : L2.St} {m : EX} {H : Hp} {Q Q' : VK} (h : EM (ctOf X) W b m σ H Q) (i : ∀ v H', Q v H' → Q' v H') : EM (ctOf X) W b m σ H Q' := by
    obtain ⟨cf, oa, P, β, ρ, S, L, h⟩ := h
    refine ⟨cf, oa, P, β, ρ, S, L, ?_⟩
    cases e : m ρ S with
    | stuck => rw [e] at h; exact h
    | exc x S1 => rw [e] at h; exact h
    | ok d S1 => rw [e] at h; intro v H' β' t L' r; exact i _ _ (h v H' β' t L' r)
  am_q {σ : L2.St} {m : AX} {H : Hp} {Q Q' : List V → Hp → Prop} (h : AM (ctOf X) W b m σ H Q) (i : ∀ v H', Q v H' → Q' v H') : AM (ctOf X) W b m σ H Q' := by
    obtain ⟨cf, oa, P, β, ρ, S, L, h⟩ := h
    refine ⟨cf, oa, P, β, ρ, S, L, ?_⟩
    cases e : m ρ S with
    | stuck => rw [e] at h; exact h
    | exc x S1 => rw [e] at h; exact h
    | ok d S1 => rw [e] at h; intro v H' β' t L' r; exact i _ _ (h v H' β' t L' r)
/-- {k: v, ..} -/
theorem pn_dct {keys : List (Option Expr)} {values : List Expr} {ms : List (EX × EX)} (hp : PPs X pos keys values (ms.map fun m => (EM (ctOf X) W b m.1, EM (ctOf X) W b m.2))) (hall : keys.all (·.isSome) = true := by rfl) (hl : keys.length = values.length := by rfl) (h0 : keys ≠ [] := by exact fun z => nomatch z) (h15 : keys.length ≤ 15 := by decide) :
    PN (ctOf X) W b X (.Dict keys values pos) (mDct (flatA ms)) := PE_imp (pe_disp hp hall hl h0 h15) fun σ H Q h => by
  obtain ⟨cf, oa, P, β, ρ, S, L, h⟩ := h
  intro p hp
  refine pairs_am ⟨cf, oa, _, β, ρ, S, L.keepNew hp, ?_⟩
  unfold mDct at h
  have x0 : Same H (upd H p (.dK [])) := same_laid hp
  cases ea : flatA ms ρ S with
  | stuck => rw [ea] at h; exact h
  | exc e S1 =>
    rw [ea] at h
    intro cls d H' β' t L' ex
    refine h cls d H' β' ((Tr.same x0).trans t) (L'.forget L.sub fun i a h => (L.own i a h).1) ?_
    obtain ⟨Ca, dd, vs, h1, h2, h3, h4, h6, h7, h5⟩ := ex
    exact ⟨Ca, dd, vs, h1, h2, h3, h4, h6, fun z => h7 (.inl z), fun f x hx => let ⟨v, q1, q2⟩ := h5 f x hx; ⟨v, q1, q2.less fun _ z => .inl z⟩⟩
  | ok ds S1 =>
    rw [ea] at h
    simp only [R.bind] at h
    intro vs H1 β1 t L1 rs ps hps
    have hpb : p ∉ β := L.npB hp
    have e0 : H1 p = some (.dK []) := t.ext.keep p _ upd_same hpb
    refine ⟨e0, ?_⟩
    cases ed : dDisp ds with
    | none => rw [ed] at h; exact h.elim
    | some dz =>
      rw [ed] at h
      unfold dDisp at ed
      split at ed
      · rename_i kvs ek
        split at ed
        · rename_i h15'
          cases ed
          obtain ⟨ks, q1, q2⟩ := keys_rk rs ek hps
          refine ⟨ks, q1, by rw [q2.length]; exact h15', ?_⟩
          have nt : ∀ xs, ¬ Rd H1 p (.tup xs) := fun xs z => by
            rcases z with z | ⟨o, z⟩ <;> (rw [e0] at z; cases z)
          have h0' : cf.H0 p = none := by
            cases z : cf.H0 p with
            | none => rfl
            | some o => exact absurd hp (L.ext.stay p (by rw [z]; exact Option.some_ne_none _))
          have no : ∀ i, oa i ≠ some p := fun i z => (L.p p (L.own i p z).1).1 hp
          have nf : ∀ o u, H1 p ≠ some (.frz o u) := fun o u z => by rw [e0] at z; cases z
          refine h p _ β1 (((Tr.same x0).trans t).poke hp nt nf) hp (L1.poke (.inr rfl) h0' no nt nf) ⟨_, upd_same, ?_⟩
          exact (rk_merge q2 .nil).set (.inl (.inr rfl)) nt
        · cases ed
      · cases ed
/-! ### range -/
def rng1 (ds : List D) : Option (List D) := match ds with
  | [.int j] => if -(2 ^ 62) ≤ j ∧ j < 2 ^ 62 then some (rangeD 0 j.toNat) else none
  | _ => none
def rng2 (ds : List D) : Option (List D) := match ds with
  | [.int i, .int j] => if -(2 ^ 62) ≤ i ∧ i < 2 ^ 62 ∧ -(2 ^ 62) ≤ j ∧ j < 2 ^ 62 then some (rangeD i (j - i).toNat) else none
  | _ => none
def iFun (f : List D → Option (List D)) (a : AX) : AX := fun ρ S => (a ρ S).bind fun xs S1 => R.opt (f xs) S1
theorem pim_rng1 {tg a : Expr} {p : Pos} {mas : AX} (hm : X.mg "range" = none) (ha : PAM (ctOf X) W b X [a] mas) (hg : Gl X "range" := by rfl) (hs : starEach [a] X.env = [(false, eval a X.env)] := by rfl) : PIM (ctOf X) W b X tg (.Call (.Name "range" p) [a] [] pos) (iFun rng1 mas) :=
  PI_imp (pi_range1 hg hm ha hs) fun σ H Q h => by
    obtain ⟨cf, oa, P, β, ρ, S, L, h⟩ := h
    refine ⟨cf, oa, P, β, ρ, S, L, ?_⟩
    unfold iFun at h
    cases ea : mas ρ S with
    | stuck => rw [ea] at h; exact h
    | exc e S1 => rw [ea] at h; exact h
    | ok ds S1 =>
      rw [ea] at h
      simp only [R.bind] at h
      intro vs H1 β1 t L1 rs
      cases er : rng1 ds with
      | none => rw [er] at h; exact h.elim
      | some xs =>
        rw [er] at h
        unfold rng1 at er
        split at er
        · split at er
          · rename_i hz
            cases er
            obtain ⟨v, rfl, r1⟩ := rvs1 rs
            cases r1
            exact ⟨_, rfl, hz.1, hz.2, h _ H1 β1 t L1 it_rng⟩
          · cases er
        · cases er
theorem pim_rng2 {tg a a' : Expr} {p : Pos} {mas : AX} (hm : X.mg "range" = none) (ha : PAM (ctOf X) W b X [a, a'] mas) (hg : Gl X "range" := by rfl) (hs : starEach [a, a'] X.env = [(false, eval a X.env), (false, eval a' X.env)] := by rfl) (hs2 : starEach [a'] X.env = [(false, eval a' X.env)] := by rfl) :
    PIM (ctOf X) W b X tg (.Call (.Name "range" p) [a, a'] [] pos) (iFun rng2 mas) :=
  PI_imp (pi_range2 hg hm ha hs hs2) fun σ H Q h => by
    obtain ⟨cf, oa, P, β, ρ, S, L, h⟩ := h
    refine ⟨cf, oa, P, β, ρ, S, L, ?_⟩
    unfold iFun at h
    cases ea : mas ρ S with
    | stuck => rw [ea] at h; exact h
    | exc e S1 => rw [ea] at h; exact h
    | ok ds S1 =>
      rw [ea] at h
      simp only [R.bind] at h
      intro vs H1 β1 t L1 rs
      cases er : rng2 ds with
      | none => rw [er] at h; exact h.elim
      | some xs =>
        rw [er] at h
        unfold rng2 at er
        split at er
        · split at er
          · rename_i hz
            cases er
            obtain ⟨x, y, rfl, r1, r2⟩ := rvs2 rs
            cases r1; cases r2
            exact ⟨_, _, rfl, hz, h _ H1 β1 t L1 it_rng⟩
          · cases er
        · cases er
end
end Mi

/-! Mi13: from the law's def to the statement. -/
namespace Mi
open PySem PySem.Spec PyProof.Rows L2

def intsD (ns : List Int) : List D := ns.map D.int
theorem rv_ints {C : Ct} {H : Hp} {P : Addr → Prop} {β : List Addr} : ∀ ns : List Int, RVs C H P β (ns.map V.int) (intsD ns)
  | [] => .nil
  | n :: ns => .cons (.int n) (rv_ints ns)
/-- the script's list as a tree -/
theorem rv_script {C : Ct} {H : Hp} {a : Addr} {ns : List Int} (h : SqL C.K H a (ns.map V.int)) : RV C H (fun _ => False) [] (.ref a) (.lst (intsD ns)) := by
  rcases h with h | h
  · exact .lst (fun z => z) (fun z => nomatch z) h (rv_ints ns)
  · exact .klst h (rv_ints ns)
/-- the pure law meets the promise's wish -/
theorem sp_law {C : Ct} {f : FX} {H : Hp} {a : Addr} {ns : List Int} (h : SqL C.K H a (ns.map V.int)) (ok : ∃ S, f [.lst (intsD ns)] [] = .ok (.bl true) S) : spM C 1 f [.ref a] H (fun v _ => v = .bl true) fun _ _ _ => False := by
  obtain ⟨S, ok⟩ := ok
  refine ⟨rfl, fun _ => False, [], [.lst (intsD ns)], [], ⟨rfl, List.nodup_nil, fun n a so e => nomatch e⟩, fun a z => z.elim, .cons (rv_script h) .nil, ?_⟩
  rw [ok]
  intro v H' β' e s r
  cases r
  rfl
theorem cx_no {P : Program} {w : World} {H : Hp} {s s' : Shared} {e : Value} (h : L2.CX P w [] H s (fun _ _ _ => False) e s') : False := by
  obtain ⟨a, B, H', cls, d, _, _, _, _, _, _, _, q⟩ := h
  exact q
section
variable {P : Program} {w : World} {K : PySem.W.Frag} {mg mb : Str → Option Value} {k : Nat} {fa a : Addr} {fd : FuncData} {x : Str} {f : FX} {s : Shared} {vs : List Value} {ns : List Int}
/-- behind the top: the def run at the script, which is tracked (as a thing the object of which is known), or one of the module's own objects -/
theorem head_at (KX : K.In s.heap) (N : s.heap.Ns mainGlobals mg) (B : s.heap.Ns builtinsNs mb) (bb : ∀ x : Str, x ≠ "__name__" → mb x = bootBuiltins x) (lim : s.heap.NoLimit) (gg : s.gens = #[])
    (ob : s.heap.get? a = some { cls := .type "list", data := .seq vs.toArray }) (rm : Room k callerA) (F : ∀ base : Heap, K.In base → base.Ns mainGlobals mg → FnG P w K mg base k fa fd [x] (spM ⟨K, mg, w, []⟩ 1 f)) (bd : ∀ (s : Shared) (u : Value), BindsTo s fd ⟨[u], []⟩ [(x, u)])
    (ok : ∃ S, f [.lst (intsD ns)] [] = .ok (.bl true) S) (H : Hp) (hH : HOk P w H s.heap) (sq : SqL K H a (ns.map V.int)) (on : ∀ b, H b = none ∨ (b = a ∧ K.lookup a = none ∧ ∃ xs, H b = some (.frz { cls := .type "list", data := .seq vs.toArray } (.lst xs)))) :
    codeAny (model P w) callerA (.call (.ref fa) ⟨[.ref a], []⟩) (fun r s' => r = .ok (.ret (.bool true)) ∧ OldK s.heap s'.heap ∧ s'.os = s.os ∧ AllBare s'.gens) s := by
  have dict_free : ∀ {b : Addr} {o : Obj} {es : Array DictEntry} {ep : Nat}, s.heap.get? b = some o → o.data = .dict es ep → H b = none := by
    intro b o es ep g d
    rcases on b with z | ⟨rfl, _, _⟩
    · exact z
    · rw [ob] at g
      injection g with g
      rw [← g] at d
      cases d
  have k_free : ∀ {b : Addr} {o : Obj}, K.lookup b = some o → H b = none := by
    intro b o g
    rcases on b with z | ⟨rfl, n, _⟩
    · exact z
    · rw [n] at g; cases g
  have ns_of : ∀ {b : Addr} {m : Str → Option Value}, s.heap.Ns b m → (hidT s.heap H).Ns b m := by
    rintro b m ⟨o, es, ep, g, d, r⟩
    exact ⟨o, es, ep, hidT_get g (dict_free g d), d, r⟩
  have kin : K.In (hidT s.heap H) := fun b o g => hidT_get (KX b o g) (k_free g)
  obtain ⟨ml, l1, l2⟩ := lim
  have mod : Mod K mg (hidT s.heap H) := ⟨kin, ns_of N, ⟨mb, ns_of B, bb⟩, ⟨ml, ns_of l1, l2⟩⟩
  have env : Env0 P w K mg (hidT s.heap H) callerA [] s H := ⟨rfl, mod, fun b o g => of_hidT g, Nat.le_of_eq (hidT_size _ _), trivial, fun b z => (List.not_mem_nil z).elim, hH, .of_eq gg⟩
  have run := (F _ kin (ns_of N)).run callerA [] s H ⟨[.ref a], []⟩ [.ref a] [.ref a] _ _ rfl rm env (bd s (.ref a)) (.cons rfl .nil) (sp_law (C := ⟨K, mg, w, []⟩) sq ok)
  refine codeAny_mono run fun r s' q => ?_
  match r, q with
  | .error e, q => exact (cx_no q).elim
  | .ok .next, q => exact False.elim q
  | .ok .brk, q => exact False.elim q
  | .ok .cont, q => exact False.elim q
  | .ok (.ret u), q =>
    obtain ⟨v, H', os, ba, un, hH', rv, e⟩ := q
    have e' : v = .bl true := e
    subst e'
    obtain rfl : u = Value.bool true := rv
    refine ⟨rfl, OldK.of_keep fun b o g => ?_, os, ba⟩
    rcases on b with z | ⟨_, _, xs, z⟩
    · exact un.keep b o g z (fun m => (List.not_mem_nil m).elim) (fun m => (List.not_mem_nil m).elim)
    · obtain ⟨g1, _⟩ := hH b _ z
      obtain ⟨g2, _⟩ := hH' b _ (un.frzs b _ _ z)
      rw [g] at g1
      injection g1 with g1
      rw [g1]
      exact g2
theorem head_run (KX : K.In s.heap) (N : s.heap.Ns mainGlobals mg) (B : s.heap.Ns builtinsNs mb) (bb : ∀ x : Str, x ≠ "__name__" → mb x = bootBuiltins x) (lim : s.heap.NoLimit) (gg : s.gens = #[])
    (ob : s.heap.get? a = some { cls := .type "list", data := .seq vs.toArray }) (hi : IntsAre vs ns) (hz : ns.length ≤ sizeLine) (rm : Room k callerA) (F : ∀ base : Heap, K.In base → base.Ns mainGlobals mg → FnG P w K mg base k fa fd [x] (spM ⟨K, mg, w, []⟩ 1 f)) (bd : ∀ (s : Shared) (u : Value), BindsTo s fd ⟨[u], []⟩ [(x, u)])
    (ok : ∃ S, f [.lst (intsD ns)] [] = .ok (.bl true) S) :
    codeAny (model P w) callerA (.call (.ref fa) ⟨[.ref a], []⟩) (fun r s' => r = .ok (.ret (.bool true)) ∧ OldK s.heap s'.heap ∧ s'.os = s.os ∧ AllBare s'.gens) s := by
  have vals := vals_ints hi
  cases hk : K.lookup a with
  | none =>
    refine head_at KX N B bb lim gg ob rm F bd ok (fun b => if b = a then some (.frz { cls := .type "list", data := .seq vs.toArray } (.lst (ns.map V.int))) else none) ?_ (.inl (.inr ⟨_, if_pos rfl⟩)) fun b => ?_
    · intro b u z
      simp only at z
      by_cases e : b = a
      · rw [if_pos e] at z
        injection z with z
        subst z e
        exact ⟨ob, by rw [List.length_map]; exact hz, vs, 0, vals, ob⟩
      · rw [if_neg e] at z; cases z
    · by_cases e : b = a
      · exact .inr ⟨e, hk, _, if_pos e⟩
      · exact .inl (if_neg e)
  | some o =>
    have g := KX a o hk
    rw [ob] at g
    injection g with g
    refine head_at KX N B bb lim gg ob rm F bd ok (fun _ => none) (fun b u z => nomatch z) (.inr ⟨o, vs.toArray, 0, hk, ?_⟩) fun b => .inl rfl
    rw [← g]
    refine ⟨rfl, rfl, rfl, ?_, vals⟩
    rw [List.size_toArray, ← vals.length, List.length_map]
    exact hz
end
/-- the goal that k_head leaves -/
theorem walk_g {l : PySem.W.OpenLaw} {n k : Nat} {q : Program} {loose : List Str} {XP : (Str → Option Value) → Heap → Prop} {YP : World → Heap → Prop} {d : DefRec} {K : Params → PySem.W.Frag} {x : Str} {f : FX}
    (hn : l.most = some n) (hn2 : n ≤ sizeLine) (hdf : d.params.defaults = []) (hr : Room k callerA) (hY : ∀ (w : World) (h : Heap), YP w h → (K w.params).In h)
    (law : ∀ ns : List Int, ns.length ≤ n → (∀ z ∈ ns, Builtin.Int.intBits z ≤ 1048576) → ∃ S, f [.lst (intsD ns)] [] = .ok (.bl true) S)
    (F : ∀ (w : World) (mg : Str → Option Value) (fa : Addr) (h : Heap), (K w.params).In h → h.Ns mainGlobals mg → mg d.name = some (.ref fa) →
      ∃ fd : FuncData, (∀ (s : Shared) (u : Value), BindsTo s fd ⟨[u], []⟩ [(x, u)]) ∧ ∀ base : Heap, (K w.params).In base → base.Ns mainGlobals mg → FnG l.prog w (K w.params) mg base k fa fd [x] (spM ⟨K w.params, mg, w, []⟩ 1 f)) :
    PySem.W.WalkO q loose XP YP l.row.toRowW d [] (fun f vs => PySem.call f vs) := by
  refine Att.attach_callB hn hdf fun w s₀ s₁ mg mb fa o pm cd doc a vs ns G Y ho hd hcd hmg hobj hints hlen hbits hg => ?_
  have KX := hY w _ Y
  obtain ⟨fd, hb, hF⟩ := F w mg fa _ KX G.T.g hmg
  exact head_run KX G.T.g G.T.b G.T.builtins G.T.nolimit hg hobj hints (Nat.le_trans hlen hn2) hr hF hb (law ns hlen hbits)
end Mi

/-! Mi14: small helps for the printed terms. -/
namespace Mi
open PySem PySem.Spec PyProof.Rows L2
theorem hu64 {k : Nat} {A : Around} (h : Room k A) : A.units + 64 < cLine := by have := h.un; omega
theorem hu65 {k : Nat} {A : Around} (h : Room k A) : A.units + 65 < cLine := by have := h.un; omega
theorem glen_nil : ∀ ds ρ S, ds.length ≠ 0 → gsNil ds ρ S = none := by
  intro ds ρ S h
  cases ds with
  | nil => exact absurd rfl h
  | cons d ds => rfl
theorem glen_cons {g : GX} {r : GXs} {n : Nat} (h : ∀ ds ρ S, ds.length ≠ n → r ds ρ S = none) : ∀ ds ρ S, ds.length ≠ n + 1 → gsCons g r ds ρ S = none := by
  intro ds ρ S hl
  cases ds with
  | nil => rfl
  | cons d ds =>
    unfold gsCons
    simp only
    cases g d ρ S with
    | none => rfl
    | some p => exact h ds p.1 p.2 fun z => hl (by rw [List.length_cons, z])
section
variable {P : Program} {w : World} {K : PySem.W.Frag} {mg : Str → Option Value} {base : Heap}
theorem FnG.mono {j k : Nat} {f : Addr} {fd : FuncData} {ps : List Str} {sp : Sp} (F : FnG P w K mg base j f fd ps sp) (h : j ≤ k) : FnG P w K mg base k f fd ps sp :=
  ⟨F.len, fun A outer s H args us vs Q E hg hr => F.run A outer s H args us vs Q E hg (hr.mono h)⟩
theorem DefOk.mono {j k : Nat} {x : Str} {st : Stmt} {ps : List Str} {f : FX} (D : DefOk P w K mg base j x st ps f) (h : j ≤ k) : DefOk P w K mg base k x st ps f := by
  obtain ⟨fa, y, qual, fd, F, hm, G⟩ := D.ex
  exact ⟨fa, y, qual, fd, F, hm, G.mono h⟩
theorem fd_same {x x' qual qual' : Str} {st st' : Stmt} {fa : Addr} {fd fd' : FuncData} {k : Nat} {ps : List Str} {sp : Sp} (F : Fun K x qual st fa fd) (F' : Fun K x' qual' st' fa fd') (G : FnG P w K mg base k fa fd' ps sp) : FnG P w K mg base k fa fd ps sp := by
  obtain ⟨oc, od, kV, doc, pm, an, cdv, ct, osl, e1, l1, _⟩ := F.ex
  obtain ⟨oc', od', kV', doc', pm', an', cdv', ct', osl', e2, l2, _⟩ := F'.ex
  have e := l1.symm.trans l2
  injection e with e
  injection e with _ _ e _
  injection e with e
  rw [e]
  exact G
end
section
variable {X : Cx} {k n : Nat} {T : List (Str × FX)}
theorem lookNil : ∀ (x : Str) (f : FX), ([] : List (Str × FX)).lookup x = some f → ValOk X k n x f := fun x f h => nomatch h
theorem lookCons {y : Str} {g : FX} (h : ValOk X k n y g) (r : ∀ (x : Str) (f : FX), T.lookup x = some f → ValOk X k n x f) : ∀ (x : Str) (f : FX), ((y, g) :: T).lookup x = some f → ValOk X k n x f := by
  intro x f e
  rw [List.lookup_cons] at e
  split at e
  · rename_i q
    have q' : x = y := by simpa using q
    cases e
    rw [q']
    exact h
  · exact r x f e
end
end Mi

/-! Mi15: the pure side: the laws' draws; loops. -/
namespace Mi
open PySem PySem.Spec PyProof.Rows L2
def rngS : SX := sSeq (sSet 2 (mIf (bOf (mBin dLt (mVar 1) (mFun fLen (aCons (mVar 0) (aNil))))) (mBin dIx (mVar 0) (mVar 1)) (mBin dAdd (mBin dMul (mC (.int 13)) (mVar 1)) (mC (.int 6))))) <|
  sRet (mBox (mLst (aCons (mFun fMax (aCons (mC (.int 0)) (aCons (mBin dSub (mFun fAbs (aCons (mVar 2) (aNil))) (mBin dPow (mC (.int 10)) (mC (.int 18)))) (aNil)))) (aCons (mBin dAdd (mBin dAdd (mBin dMod (mFun fAbs (aCons (mVar 2) (aNil))) (mC (.int 2147483579))) (mBin dMul (mC (.int 307)) (mVar 1))) (mC (.int 11))) (aNil)))))
def drawS : SX := sSeq (sIf (bOf (mBin dGt (mBin dIx (mVar 0) (mC (.int 0))) (mC (.int 0)))) (sSeq (sAsg (mFun fDivmod (aCons (mBin dIx (mVar 0) (mC (.int 0))) (aCons (mVar 1) (aNil)))) (gUnp (gsCons (gIx (mVar 0) (mC (.int 0))) (gsCons (gSet 2) (gsNil))))) <|
  sRet (mVar 2)) (sNil)) <|
  sSeq (sAsg (mBin dMod (mBin dAdd (mBin dMul (mBin dIx (mVar 0) (mC (.int 1))) (mC (.int 48271))) (mC (.int 20011))) (mC (.int 2147483399))) (gIx (mVar 0) (mC (.int 1)))) <|
  sRet (mBin dMod (mBin dFdiv (mBin dMod (mBin dMul (mBin dIx (mVar 0) (mC (.int 1))) (mBin dIx (mVar 0) (mC (.int 1)))) (mC (.int 2147483323))) (mC (.int 13))) (mVar 1))
def RngAt (S : Store) (n : Nat) : Prop := ∃ a b : Int, S[n]? = some (.lst [.int a, .int b]) ∧ 0 ≤ a ∧ 0 ≤ b ∧ b < 2 ^ 33
theorem draw_ok {S : Store} {n : Nat} {m : Int} (h : RngAt S n) (h0 : 0 < m) (h1 : m < 1073741824) : ∃ d S', (mDef 3 drawS) [.ref n, .int m] S = .ok (.int d) S' ∧ 0 ≤ d ∧ d < m ∧ RngAt S' n ∧ S'.length = S.length := by
  obtain ⟨a, b, e, ha, hb, hb2⟩ := h
  have hl : n < S.length := (List.getElem?_eq_some_iff.mp e).1
  by_cases hp : 0 < a
  · refine ⟨a % m, S.set n (.lst [.int (a / m), .int b]), ?_, Int.emod_nonneg _ (by omega), Int.emod_lt_of_pos _ h0, ⟨a / m, b, by rw [List.getElem?_set_self hl], Int.ediv_nonneg ha (by omega), hb, hb2⟩, List.length_set⟩
    unfold mDef drawS
    simp [sSeq, sIf, bOf, mBin, mVar, mC, dIx, viewL, e, R.bind, R.opt, R.st, dGt, atI, ixN, asB, hp, sAsg, mFun, aCons, aNil, fDivmod, gUnp, viewT, gsCons, gsNil, gIx, gSet, storeIx, sRet, h0, h1]
  · have hm : m ≠ 0 := by omega
    obtain ⟨c, hc⟩ : ∃ c : Int, c = (b * 48271 + 20011).fmod 2147483399 := ⟨_, rfl⟩
    have c0 : 0 ≤ c := by rw [hc, Int.fmod_eq_emod_of_nonneg _ (by decide)]; exact Int.emod_nonneg _ (by decide)
    have c1 : c < 2147483399 := by rw [hc, Int.fmod_eq_emod_of_nonneg _ (by decide)]; exact Int.emod_lt_of_pos _ (by decide)
    have k1 : okMul b 48271 = true := by unfold okMul; simp
    have k2 : okMul c c = true := by unfold okMul; simp; omega
    have e2 : ∀ x : SO, (S.set n x)[n]? = some x := fun x => List.getElem?_set_self hl
    refine ⟨(((c * c).fmod 2147483323).fdiv 13).fmod m, S.set n (.lst [.int a, .int c]), ?_, ?_, ?_, ⟨a, c, by rw [List.getElem?_set_self hl], ha, c0, by omega⟩, List.length_set⟩
    · unfold mDef drawS
      simp [sSeq, sIf, bOf, mBin, mVar, mC, dIx, viewL, e, R.bind, R.opt, R.st, dGt, atI, ixN, asB, hp, sAsg, sNil, gIx, storeIx, sRet, dMul, dAdd, dMod, dFdiv, k1, k2, ← hc, hm, e2]
    · rw [Int.fmod_eq_emod_of_nonneg _ (by omega)]; exact Int.emod_nonneg _ hm
    · rw [Int.fmod_eq_emod_of_nonneg _ (by omega)]; exact Int.emod_lt_of_pos _ h0
theorem rng_ok {S : Store} {ns : List Int} {k : Nat} (hn : ns.length ≤ 63) (hk : k < 100) : ∃ S', (mDef 3 rngS) [.lst (intsD ns), .int k] S = .ok (.ref S.length) S' ∧ RngAt S' S.length := by
  have hl : (intsD ns).length = ns.length := by unfold intsD; rw [List.length_map]
  have key : ∀ z : Int, (mIf (bOf (mBin dLt (mVar 1) (mFun fLen (aCons (mVar 0) aNil)))) (mBin dIx (mVar 0) (mVar 1)) (mBin dAdd (mBin dMul (mC (.int 13)) (mVar 1)) (mC (.int 6)))) [.sh (.lst (intsD ns)), .sh (.int k), .un] S = .ok (.int z) S →
      ∃ S', (mDef 3 rngS) [.lst (intsD ns), .int k] S = .ok (.ref S.length) S' ∧ RngAt S' S.length := by
    intro z hz
    obtain ⟨A, hA⟩ : ∃ A : Int, A = (if z < 0 then -z else z) := ⟨_, rfl⟩
    have hA0 : 0 ≤ A := by rw [hA]; split <;> omega
    obtain ⟨B, hB⟩ : ∃ B : Int, B = A.fmod 2147483579 := ⟨_, rfl⟩
    have hB0 : 0 ≤ B := by rw [hB, Int.fmod_eq_emod_of_nonneg _ (by decide)]; exact Int.emod_nonneg _ (by decide)
    have hB1 : B < 2147483579 := by rw [hB, Int.fmod_eq_emod_of_nonneg _ (by decide)]; exact Int.emod_lt_of_pos _ (by decide)
    have k1 : okMul 307 (k : Int) = true := by unfold okMul; simp
    refine ⟨S ++ [.lst [.int (if A - 1000000000000000000 > 0 then A - 1000000000000000000 else 0), .int (B + 307 * k + 11)]], ?_, ⟨if A - 1000000000000000000 > 0 then A - 1000000000000000000 else 0, B + 307 * k + 11, by simp, by split <;> omega, by omega, by omega⟩⟩
    unfold mDef rngS
    simp only [List.length_cons, List.length_nil, List.map_cons, List.map_nil, List.replicate, List.cons_append, List.nil_append, sSeq, sSet]
    rw [hz]
    simp [R.st, sRet, mBox, mLst, aCons, aNil, mFun, mBin, mC, mVar, fMax, fAbs, dSub, dPow, dAdd, dMod, dMul, R.bind, R.opt, ← hA, ← hB, k1, dLst, sizeLine_eq, soOf]
  by_cases hlt : k < ns.length
  · refine key ns[k] ?_
    simp [mIf, bOf, mBin, mVar, mFun, aCons, aNil, fLen, viewL, hl, dLt, R.bind, R.opt, asB, hlt, dIx, atI, ixN, intsD]
  · refine key (13 * k + 6) ?_
    have k1 : okMul 13 (k : Int) = true := by unfold okMul; simp
    simp [mIf, bOf, mBin, mVar, mFun, aCons, aNil, fLen, viewL, hl, dLt, R.bind, R.opt, asB, hlt, mC, dMul, dAdd, k1]

/-! ### comprehensions and loops run -/
section
variable {vs : List Nat} {g : GX} {t : BX} {e : EX} {ρ : Rho}
theorem comp_run (I : Store → Prop) (Pd Py : D → Prop) (step : ∀ d S, Pd d → I S → ∃ p, g d ρ S = some p ∧ ((∃ S2, t p.1 p.2 = .ok false S2 ∧ I S2) ∨ ∃ S2 y S3, t p.1 p.2 = .ok true S2 ∧ e p.1 S2 = .ok y S3 ∧ Py y ∧ I S3)) :
    ∀ (ds acc : List D) (S : Store), (∀ d ∈ ds, Pd d) → I S → (∀ y ∈ acc, Py y) → acc.length + ds.length ≤ sizeLine → ∃ ys S', compL vs g t e ρ ds acc S = .ok ys S' ∧ (∀ y ∈ ys, Py y) ∧ ys.length ≤ acc.length + ds.length ∧ I S'
  | [], acc, S, _, hI, ha, _ => ⟨acc, S, rfl, ha, Nat.le_refl _, hI⟩
  | d :: ds, acc, S, hd, hI, ha, hl => by
    rw [List.length_cons] at hl
    obtain ⟨p, e1, h⟩ := step d S (hd d List.mem_cons_self) hI
    unfold compL
    rw [e1]
    rcases h with ⟨S2, e2, hI2⟩ | ⟨S2, y, S3, e2, e3, hy, hI3⟩
    · simp only [e2]
      obtain ⟨ys, S', q1, q2, q3, q4⟩ := comp_run I Pd Py step ds acc S2 (fun d h => hd d (List.mem_cons_of_mem _ h)) hI2 ha (by omega)
      exact ⟨ys, S', q1, q2, by rw [List.length_cons]; omega, q4⟩
    · simp only [e2, e3]
      rw [if_pos (by omega)]
      obtain ⟨ys, S', q1, q2, q3, q4⟩ := comp_run I Pd Py step ds (acc ++ [y]) S3 (fun d h => hd d (List.mem_cons_of_mem _ h)) hI3 (fun z hz => (List.mem_append.mp hz).elim (ha z) fun q => by rw [List.mem_singleton.mp q]; exact hy) (by rw [List.length_append, List.length_singleton]; omega)
      rw [List.length_append, List.length_singleton] at q3
      exact ⟨ys, S', q1, q2, by rw [List.length_cons]; omega, q4⟩
theorem comp_pure {S : Store} {p : D → Bool} {f : D → D} : ∀ (ds acc : List D), (∀ d ∈ ds, ∃ q, g d ρ S = some (q, S) ∧ t q S = .ok (p d) S ∧ (p d = true → e q S = .ok (f d) S)) → acc.length + ds.length ≤ sizeLine → compL vs g t e ρ ds acc S = .ok (acc ++ (ds.filter p).map f) S
  | [], acc, _, _ => by simp [compL]
  | d :: ds, acc, h, hl => by
    rw [List.length_cons] at hl
    obtain ⟨q, e1, e2, e3⟩ := h d List.mem_cons_self
    unfold compL
    rw [e1]
    simp only [e2]
    have h' := fun x hx => h x (List.mem_cons_of_mem _ hx)
    cases hp : p d with
    | false =>
      simp only
      rw [comp_pure ds acc h' (by omega), List.filter_cons, if_neg (by rw [hp]; exact Bool.false_ne_true)]
    | true =>
      simp only [e3 hp]
      rw [if_pos (by omega), comp_pure ds (acc ++ [f d]) h' (by rw [List.length_append, List.length_singleton]; omega), List.filter_cons, if_pos hp, List.map_cons, List.append_assoc]
      rfl
end
theorem for_run {g : GX} {body : SX} (I : Nat → Rho → Store → Prop) : ∀ (ds : List D) (ρ : Rho) (S : Store) (k : Nat), (∀ i d ρ S, ds[i]? = some d → I (k + i) ρ S → ∃ p ρ2 S2, g d ρ S = some p ∧ (body p.1 p.2 = .nx ρ2 S2 ∨ body p.1 p.2 = .ct ρ2 S2) ∧ I (k + i + 1) ρ2 S2) → I k ρ S →
    ∃ ρ' S', forL g body ds ρ S = .nx ρ' S' ∧ I (k + ds.length) ρ' S'
  | [], ρ, S, k, _, h => ⟨ρ, S, rfl, h⟩
  | d :: ds, ρ, S, k, step, h => by
    obtain ⟨p, ρ2, S2, e1, e2, h2⟩ := step 0 d ρ S rfl h
    unfold forL
    rw [e1]
    have go := for_run I ds ρ2 S2 (k + 1) (fun i d' ρ' S' hi hI => by
      have := step (i + 1) d' ρ' S' (by simpa using hi) (by rw [Nat.add_comm i 1, ← Nat.add_assoc]; exact hI)
      rw [Nat.add_comm i 1, ← Nat.add_assoc] at this
      exact this) h2
    rw [List.length_cons, Nat.add_comm ds.length 1, ← Nat.add_assoc]
    rcases e2 with e2 | e2 <;> (simp only [e2]; exact go)
end Mi

/-! Mi16: running the extracted functions, step by step. -/
namespace Mi
open PySem PySem.Spec PyProof.Rows L2
section
variable {ρ ρ1 : Rho} {S S1 S2 S3 : Store} {d x y : D} {ds us ws : List D} {m a b c : EX} {r k : AX} {i : Nat} {idx : List Nat} {f : FX} {t : BX} {s s1 s2 : SX} {g : GX}
theorem k_c : mC d ρ S = .ok d S := rfl
theorem k_var (h : ρ[i]? = some (Sl.sh d)) : mVar i ρ S = .ok d S := by unfold mVar; rw [h]
theorem k_nil : aNil ρ S = .ok [] S := rfl
theorem k_cons (h : a ρ S = .ok d S1) (h2 : r ρ S1 = .ok ds S2) : aCons a r ρ S = .ok (d :: ds) S2 := by
  unfold aCons; rw [h]; simp only [R.bind]; rw [h2]
theorem k_one (h : a ρ S = .ok d S1) : aCons a aNil ρ S = .ok [d] S1 := k_cons h k_nil
theorem k_fun {f : Store → List D → Option D} (h : r ρ S = .ok ds S1) (e : f S1 ds = some d) : mFun f r ρ S = .ok d S1 := by
  unfold mFun; rw [h]; simp only [R.bind]; rw [e]; rfl
theorem k_bin {f : Store → D → D → Option D} (h : a ρ S = .ok x S1) (h2 : b ρ S1 = .ok y S2) (e : f S2 x y = some d) : mBin f a b ρ S = .ok d S2 := by
  unfold mBin; rw [h]; simp only [R.bind]; rw [h2]; simp only [R.bind]; rw [e]; rfl
theorem k_un {f : Store → D → Option D} (h : a ρ S = .ok x S1) (e : f S1 x = some d) : mUn f a ρ S = .ok d S1 := by
  unfold mUn; rw [h]; simp only [R.bind]; rw [e]; rfl
theorem k_tup (h : r ρ S = .ok ds S1) (hl : ds.length ≤ sizeLine) : mTup r ρ S = .ok (.tup ds) S1 := by
  unfold mTup dTup; rw [h]; simp only [R.bind]; rw [if_pos hl]; rfl
theorem k_lst (h : r ρ S = .ok ds S1) (hl : ds.length ≤ sizeLine) : mLst r ρ S = .ok (.lst ds) S1 := by
  unfold mLst dLst; rw [h]; simp only [R.bind]; rw [if_pos hl]; rfl
theorem k_dct {kvs : List (Key × D)} (h : r ρ S = .ok ds S1) (e : dDisp ds = some (.dct kvs)) : mDct r ρ S = .ok (.dct kvs) S1 := by
  unfold mDct; rw [h]; simp only [R.bind]; rw [e]; rfl
theorem k_box (h : m ρ S = .ok x S1) {so : SO} (e : soOf x = some so) : mBox m ρ S = .ok (.ref S1.length) (S1 ++ [so]) := by
  unfold mBox; rw [h]; simp only [R.bind]; rw [e]
theorem k_call {z : R D} (h : r ρ S = .ok us S1) (h2 : k ρ S1 = .ok ws S2) (e : f (pick idx us ws) S2 = z) : mCall f idx r k ρ S = z := by
  unfold mCall; rw [h]; simp only [R.bind]; rw [h2]; exact e
theorem k_callv {T : List (Str × FX)} {n : Str} {z : R D} (h : m ρ S = .ok (.fn n) S1) (l : T.lookup n = some f) (h2 : r ρ S1 = .ok us S2) (e : f us S2 = z) : mCallV T m r ρ S = z := by
  unfold mCallV; rw [h]; simp only [R.bind]; rw [l]; simp only; rw [h2]; exact e
theorem k_meth {f : Store → D → List D → Option D} {w : Str} (h : m ρ S = .ok (.str w) S1) (h2 : r ρ S1 = .ok ds S2) (e : f S2 (.str w) ds = some d) : mMethS f m r ρ S = .ok d S2 := by
  unfold mMethS; rw [h]; simp only [R.bind]; rw [if_pos (by rfl), h2]; simp only; rw [e]; rfl
theorem k_ite {q : Bool} (h : t ρ S = .ok q S1) {z : R D} (e : (if q = true then a ρ S1 else b ρ S1) = z) : mIf t a b ρ S = z := by
  unfold mIf; rw [h]; exact e
theorem k_iteT (h : t ρ S = .ok true S1) : mIf t a b ρ S = a ρ S1 := by unfold mIf; rw [h]; rfl
theorem k_iteF (h : t ρ S = .ok false S1) : mIf t a b ρ S = b ρ S1 := by unfold mIf; rw [h]; rfl
theorem k_andT (h : a ρ S = .ok x S1) (e : tru S1 x = some true) : mAnd a b ρ S = b ρ S1 := by
  unfold mAnd; rw [h]; simp only [R.bind]; rw [e]; rfl
theorem k_andF (h : a ρ S = .ok x S1) (e : tru S1 x = some false) : mAnd a b ρ S = .ok x S1 := by
  unfold mAnd; rw [h]; simp only [R.bind]; rw [e]; rfl
theorem k_orT (h : a ρ S = .ok x S1) (e : tru S1 x = some true) : mOr a b ρ S = .ok x S1 := by
  unfold mOr; rw [h]; simp only [R.bind]; rw [e]; rfl
theorem k_orF (h : a ρ S = .ok x S1) (e : tru S1 x = some false) : mOr a b ρ S = b ρ S1 := by
  unfold mOr; rw [h]; simp only [R.bind]; rw [e]; rfl
theorem k_nt {q : Bool} (h : a ρ S = .ok x S1) (e : tru S1 x = some q) : mNot a ρ S = .ok (.bl (!q)) S1 := by
  unfold mNot; rw [h]; simp only [R.bind]; rw [e]; rfl
theorem k_chT {f h : Store → D → D → Option D} (ha : a ρ S = .ok x S1) (hb : b ρ S1 = .ok y S2) (e : f S2 x y = some (.bl true)) (hc : c ρ S2 = .ok d S3) {z : D} (e2 : h S3 y d = some z) : mChain f h a b c ρ S = .ok z S3 := by
  unfold mChain; rw [ha]; simp only [R.bind]; rw [hb]; simp only [R.bind]; rw [e]; simp only [Option.bind, asB, R.opt, if_true]; rw [hc]; simp only; rw [e2]
theorem k_chF {f h : Store → D → D → Option D} (ha : a ρ S = .ok x S1) (hb : b ρ S1 = .ok y S2) (e : f S2 x y = some (.bl false)) : mChain f h a b c ρ S = .ok (.bl false) S2 := by
  unfold mChain; rw [ha]; simp only [R.bind]; rw [hb]; simp only [R.bind]; rw [e]; rfl
/-! tests -/
theorem k_of {q : Bool} (h : m ρ S = .ok (.bl q) S1) : bOf m ρ S = .ok q S1 := by unfold bOf; rw [h]; rfl
theorem k_tru {q : Bool} (h : m ρ S = .ok x S1) (e : tru S1 x = some q) : bTru m ρ S = .ok q S1 := by unfold bTru; rw [h]; simp only [R.bind]; rw [e]; rfl
theorem k_bnot {q : Bool} (h : t ρ S = .ok q S1) : bNot t ρ S = .ok (!q) S1 := by unfold bNot; rw [h]
theorem k_bandT {u : BX} (h : t ρ S = .ok true S1) : bAnd t u ρ S = u ρ S1 := by unfold bAnd; rw [h]; rfl
theorem k_bandF {u : BX} (h : t ρ S = .ok false S1) : bAnd t u ρ S = .ok false S1 := by unfold bAnd; rw [h]; rfl
theorem k_borT {u : BX} (h : t ρ S = .ok true S1) : bOr t u ρ S = .ok true S1 := by unfold bOr; rw [h]; rfl
theorem k_borF {u : BX} (h : t ρ S = .ok false S1) : bOr t u ρ S = u ρ S1 := by unfold bOr; rw [h]; rfl
/-! what is walked -/
theorem k_iseq (h : m ρ S = .ok x S1) (e : itemsOf x = some ds) : iSeq m ρ S = .ok ds S1 := by unfold iSeq; rw [h]; simp only [R.bind]; rw [e]; rfl
theorem k_ifun {f : List D → Option (List D)} (h : r ρ S = .ok us S1) (e : f us = some ds) : iFun f r ρ S = .ok ds S1 := by unfold iFun; rw [h]; simp only [R.bind]; rw [e]; rfl
theorem k_comp {it : AX} {vs : List Nat} {g : GX} {e : EX} (h : it ρ S = .ok ds S1) (h2 : compL vs g t e (wipeR ρ vs) ds [] S1 = .ok us S2) : mComp it vs g t e ρ S = .ok (.lst us) S2 := by
  unfold mComp; rw [h]; simp only [R.bind]; rw [h2]
/-! statements -/
theorem k_seq {z : SR} (h : s1 ρ S = .nx ρ1 S1) (e : s2 ρ1 S1 = z) : sSeq s1 s2 ρ S = z := by unfold sSeq; rw [h]; exact e
theorem k_seqR (h : s1 ρ S = .rt d S1) : sSeq s1 s2 ρ S = .rt d S1 := by unfold sSeq; rw [h]
theorem k_seqB (h : s1 ρ S = .bk ρ1 S1) : sSeq s1 s2 ρ S = .bk ρ1 S1 := by unfold sSeq; rw [h]
theorem k_seqC (h : s1 ρ S = .ct ρ1 S1) : sSeq s1 s2 ρ S = .ct ρ1 S1 := by unfold sSeq; rw [h]
theorem k_set (h : m ρ S = .ok d S1) : sSet i m ρ S = .nx (ρ.set i (.sh d)) S1 := by unfold sSet; rw [h]; rfl
theorem k_ret (h : m ρ S = .ok d S1) : sRet m ρ S = .rt d S1 := by unfold sRet; rw [h]; rfl
theorem k_exp (h : m ρ S = .ok d S1) : sExpr m ρ S = .nx ρ S1 := by unfold sExpr; rw [h]; rfl
theorem k_asg {p : Rho × Store} (h : m ρ S = .ok d S1) (e : g d ρ S1 = some p) : sAsg m g ρ S = .nx p.1 p.2 := by unfold sAsg; rw [h]; simp only [R.st]; rw [e]
theorem k_ifT {z : SR} (h : t ρ S = .ok true S1) (e : s1 ρ S1 = z) : sIf t s1 s2 ρ S = z := by unfold sIf; rw [h]; exact e
theorem k_ifF {z : SR} (h : t ρ S = .ok false S1) (e : s2 ρ S1 = z) : sIf t s1 s2 ρ S = z := by unfold sIf; rw [h]; exact e
theorem k_for {it : AX} {z : SR} (h : it ρ S = .ok ds S1) (e : forL g s ds ρ S1 = z) : sFor it g s ρ S = z := by unfold sFor; rw [h]; exact e
theorem k_def {n : Nat} (h : s (ds.map Sl.sh ++ List.replicate (n - ds.length) Sl.un) S = .rt d S1) : mDef n s ds S = .ok d S1 := by unfold mDef; rw [h]
theorem k_defN {n : Nat} (h : s (ds.map Sl.sh ++ List.replicate (n - ds.length) Sl.un) S = .nx ρ1 S1) : mDef n s ds S = .ok .non S1 := by unfold mDef; rw [h]
end
end Mi

/-! Mi17: slices. -/
namespace Mi
open PySem PySem.Spec PyProof.Rows L2
abbrev OX := Rho → Store → R (Option Int)
def oNone : OX := fun _ S => .ok none S
def oSome (a : EX) : OX := fun ρ S => (a ρ S).bind fun x S1 => match x with
  | .int i => .ok (some i) S1
  | _ => .stuck
def cutD (xs : List D) (lo hi : Option Int) : List D := (xs.drop (HT.sIx xs.length 0 lo)).take (HT.sIx xs.length xs.length hi - HT.sIx xs.length 0 lo)
def dSl (S : Store) (x : D) (lo hi : Option Int) : Option D := match x with
  | .str z => if z.length ≤ sizeLine then some (.str (cutS z lo hi)) else none
  | .tup xs => some (.tup (cutD xs lo hi))
  | x => match viewL S x with
    | some xs => some (.lst (cutD xs lo hi))
    | none => none
def mSl (o : EX) (lo hi : OX) : EX := fun ρ S => (o ρ S).bind fun x S1 => (lo ρ S1).bind fun l S2 => (hi ρ S2).bind fun h S3 => R.opt (dSl S3 x l h) S3
def OM (C : Ct) (W : WX) (b : Bool) (m : OX) : TO := fun σ H Q => ∃ cf oa P β ρ S, LR C cf oa P σ H β ρ S ∧ (match m ρ S with
  | .ok k S' => ∀ H' β', Tr b H β S H' β' S' → LR C cf oa P σ H' β' ρ S' → Q k H'
  | .exc e S' => XP C W cf oa P σ b H β ρ S e S'
  | .stuck => False)
abbrev POM (C : Ct) (W : WX) (b : Bool) (X : Cx) (e : Option Expr) (m : OX) : Prop := PO X e (OM C W b m)
section
variable {X : Cx} {W : WX} {b : Bool} {e : Expr} {lo hi : Option Expr} {mo me : EX} {ml mh : OX} {pos p2 : Pos}
theorem PO_imp {o : Option Expr} {t t' : TO} (h : PO X o t) (i : ∀ σ H Q, t' σ H Q → t σ H Q) : PO X o t' := ⟨fun pins s σ H Q I hw => h.run pins s σ H Q I (i σ H Q hw)⟩
theorem pom_none : POM (ctOf X) W b X none oNone := PO_imp po_none fun σ H Q h => by
  obtain ⟨cf, oa, P, β, ρ, S, L, h⟩ := h
  exact h H β Tr.refl L
theorem pom_some (h : PM (ctOf X) W b X e me) : POM (ctOf X) W b X (some e) (oSome me) := PO_imp (po_some h) fun σ H Q h => by
  obtain ⟨cf, oa, P, β, ρ, S, L, h⟩ := h
  refine ⟨cf, oa, P, β, ρ, S, L, ?_⟩
  unfold oSome at h
  cases ea : me ρ S with
  | stuck => rw [ea] at h; exact h
  | exc x S1 => rw [ea] at h; exact h
  | ok d S1 =>
    rw [ea] at h
    simp only [R.bind] at h
    intro v H1 β1 t1 L1 r1
    cases d with
    | int i => cases r1; exact ⟨i, rfl, h H1 β1 t1 L1⟩
    | _ => exact (show False from h).elim
theorem rvs_cut {C : Ct} {H : Hp} {Z : Addr → Prop} {β : List Addr} {vs : List V} {ds : List D} (r : RVs C H Z β vs ds) (lo hi : Option Int) : RVs C H Z β (cutV vs lo hi) (cutD ds lo hi) := by
  unfold cutV cutD
  rw [r.length]
  exact (r.drop _).take _
theorem cut_all {C : Ct} {H : Hp} {Z : Addr → Prop} {β : List Addr} {vs : List V} {ds : List D} {lo hi : Option Int} (r : RVs C H Z β vs ds) (h : HT.sIx vs.length 0 lo = 0 ∧ HT.sIx vs.length vs.length hi = vs.length) : cutD ds lo hi = ds := by
  unfold cutD
  rw [← r.length, h.1, h.2, List.drop_zero, Nat.sub_zero, r.length, List.take_length]
def rSlX (K : PySem.W.Frag) : V → Option Int → Option Int → Hp → VK → Prop := fun x lo hi H Q => rSlS x lo hi H Q ∨ rSlA K x lo hi H Q ∨ rSlL K x lo hi H Q
theorem sl_any : SlR X (rSlX X.K) := SlR.or sl_str (SlR.or sl_tupA sl_list)
theorem sl_m {Z : Addr → Prop} {H : Hp} {β : List Addr} {S : Store} {x : V} {dx dz : D} {lo hi : Option Int} {Q : VK} (A : At (ctOf X) H Z β S) (r : RV (ctOf X) H Z β x dx) (e : dSl S dx lo hi = some dz)
    (k : ∀ v H', Same H H' → RV (ctOf X) H' Z β v dz → Q v H') : rSlX X.K x lo hi H Q := by
  have tail : ∀ {d : D}, RV (ctOf X) H Z β x d → (match viewL S d with
    | some xs => some (D.lst (cutD xs lo hi))
    | none => none) = some dz → rSlX X.K x lo hi H Q := fun {d} r e => by
    split at e
    · rename_i xs e1
      cases e
      obtain ⟨a, us, rfl, q1, r1⟩ := r.viewL A.st e1
      refine .inr (.inr ⟨a, us, rfl, q1, fun p hp => k _ _ (same_laid hp) ?_⟩)
      exact .lst (A.npZ hp) (A.npB hp) (.inl upd_same) ((rvs_cut r1 lo hi).mono (Ext.laid hp))
    · cases e
  unfold dSl at e
  split at e
  · split at e
    · rename_i hz
      cases e; cases r
      exact .inl ⟨_, rfl, hz, k _ H (Same.refl _) (.str _)⟩
    · cases e
  · cases e
    have r0 := r
    obtain ⟨a, us, rfl, q1, r1⟩ := r.viewT rfl
    refine .inr (.inl ⟨a, us, rfl, q1, fun h => ?_, fun h p hp => k _ _ (same_laid hp) (.tup (.inl upd_same) ((rvs_cut r1 lo hi).mono (Ext.laid hp)))⟩)
    refine k _ H (Same.refl _) ?_
    rw [cut_all r1 h]
    exact r0
  · exact tail r e
theorem pm_sl (ho : PM (ctOf X) W b X e mo) (hl : POM (ctOf X) W b X lo ml) (hh : POM (ctOf X) W b X hi mh) : PM (ctOf X) W b X (.Subscript e (.Slice lo hi none p2) pos) (mSl mo ml mh) := PE_imp (pe_slice sl_any ho hl hh) fun σ H Q h => by
  obtain ⟨cf, oa, P, β, ρ, S, L, h⟩ := h
  refine ⟨cf, oa, P, β, ρ, S, L, ?_⟩
  unfold mSl at h
  cases eo : mo ρ S with
  | stuck => rw [eo] at h; exact h
  | exc x S1 => rw [eo] at h; exact h
  | ok d S1 =>
    rw [eo] at h
    simp only [R.bind] at h
    intro v H1 β1 t1 L1 r1
    refine ⟨cf, oa, P, β1, ρ, S1, L1, ?_⟩
    cases el : ml ρ S1 with
    | stuck => rw [el] at h; exact h
    | exc x S2 => rw [el] at h; intro cls c H' β' e2 L2 ex; exact h cls c H' β' (t1.trans e2) L2 ex
    | ok l S2 =>
      rw [el] at h
      simp only at h
      intro H2 β2 t2 L2
      refine ⟨cf, oa, P, β2, ρ, S2, L2, ?_⟩
      cases eh : mh ρ S2 with
      | stuck => rw [eh] at h; exact h
      | exc x S3 => rw [eh] at h; intro cls c H' β' e2 L3 ex; exact h cls c H' β' (t1.trans (t2.trans e2)) L3 ex
      | ok u S3 =>
        rw [eh] at h
        simp only at h
        intro H3 β3 t3 L3
        cases es : dSl S3 d l u with
        | none => rw [es] at h; exact h.elim
        | some dz =>
          rw [es] at h
          exact sl_m L3.at ((r1.mono t2.ext).mono t3.ext) es fun v H' e3 r3 => h v H' β3 (t1.trans (t2.trans (t3.trans (Tr.same e3)))) (L3.same e3) r3
end
end Mi

/-! Mi18: a slot's own list grows; a store's list grows. -/
namespace Mi
open PySem PySem.Spec PyProof.Rows L2
def sApp (i : Nat) (a : EX) : SX := fun ρ S => match ρ[i]? with
  | some (Sl.ow (.lst xs)) => (a ρ S).st ρ fun d S1 => if xs.length < sizeLine then .nx (ρ.set i (.ow (.lst (xs ++ [d])))) S1 else .stuck
  | some (Sl.sh (.ref n)) => match S[n]? with
    | some (.lst _) => (a ρ S).st ρ fun d S1 => match S1[n]? with
      | some (.lst xs) => if xs.length < sizeLine then .nx ρ (S1.set n (.lst (xs ++ [d]))) else .stuck
      | _ => .stuck
    | _ => .stuck
  | _ => .stuck
section
variable {C : Ct} {cf : Cf} {oa : Nat → Option Addr} {P : Addr → Prop} {σ : L2.St} {H : Hp} {β : List Addr} {ρ : Rho} {S : Store}
/-- a slot's own container changes -/
theorem LR.pokeOwn {i : Nat} {a : Addr} {o : HO} {d : D} (L : LR C cf oa P σ H β ρ S) (h1 : oa i = some a) (hs : σ[i]? = some (some (.ref a))) (hi : i < ρ.length) (ht : ∀ xs, ¬ Rd H a (.tup xs)) (new : OwnAt C (upd H a o) P β a d) : LR C cf oa P σ (upd H a o) β (ρ.set i (.ow d)) S where
  len := by rw [List.length_set]; exact L.len
  p := fun c h => by
    refine ⟨?_, (L.p c h).2⟩
    by_cases e : c = a
    · rw [e, upd_same]; exact Option.some_ne_none _
    · rw [upd_ne e]; exact (L.p c h).1
  sub := L.sub
  p0 := L.p0
  ext := ⟨L.ext.pre, fun c u g1 g2 => by
      have ne : c ≠ a := fun e => by rw [e, (L.own i a h1).2] at g1; cases g1
      rw [upd_ne ne]; exact L.ext.keep c u g1 g2, L.ext.fresh, fun c xs h => by
      have r := L.ext.tups c xs h
      have ne : c ≠ a := fun e => ht xs (e ▸ r)
      unfold Rd; rw [upd_ne ne]; exact r, fun c h => by
      by_cases e : c = a
      · rw [e, upd_same]; exact Option.some_ne_none _
      · rw [upd_ne e]; exact L.ext.stay c h, fun c o u h => by rw [upd_ne (fun z => by rw [z, (L.own i a h1).2] at h; cases h)]; exact L.ext.fzs c o u h⟩
  own := L.own
  inj := L.inj
  st := L.st.own (L.own i a h1).1 (L.p a (L.own i a h1).1).2 ht
  slot := fun j x h => by
    by_cases e : i = j
    · subst e; rw [List.getElem?_set_self hi] at h; cases h
    · rw [List.getElem?_set_ne e] at h
      obtain ⟨v, q1, q2⟩ := L.slot j x h
      exact ⟨v, q1, q2.set (.inl (L.own i a h1).1) ht⟩
  oslot := fun j x h => by
    by_cases e : i = j
    · subst e
      rw [List.getElem?_set_self hi] at h
      cases h
      exact ⟨a, h1, hs, new⟩
    · rw [List.getElem?_set_ne e] at h
      obtain ⟨c, q0, q1, q2⟩ := L.oslot j x h
      exact ⟨c, q0, q1, q2.set (.inl (L.own i a h1).1) ht fun z => e (L.inj i j a h1 (z ▸ q0))⟩
  xslot := fun j x h => by
    by_cases e : i = j
    · subst e; rw [List.getElem?_set_self hi] at h; cases h
    · rw [List.getElem?_set_ne e] at h
      obtain ⟨c, q1, q2⟩ := L.xslot j x h
      exact ⟨c, q1, q2.set (L.own i a h1).1 ht⟩
end
section
variable {X : Cx} {W : WX} {x : Str} {px apos cpos pos : Pos} {e : Expr} {me : EX} {i : Nat}
theorem ps_appM (hv : PE X (.Name x px) (tVar i)) (he : PM (ctOf X) W false X e me)
    (hs : swapsWith (.Call (.Attribute (.Name x px) "append" apos) [e] [] cpos) none pos.line X.env = pure false := by rfl)
    (hbase : attributeBase (.Name x px) "append" X.env (eval (.Name x px) X.env) = eval (.Name x px) X.env := by rfl)
    (hfew : ((backTo cpos (starEach [e] X.env)).all (fun x => !x.1) && (backToKw cpos (keywordEach [] X.env)).all (fun x => x.1.isSome)
      && decide (([e] : List Expr).length + ([] : List Keyword).length + (if ([] : List Keyword).isEmpty then 0 else 1) < 30)) = true := by rfl)
    (hline : (apos.endLine == cpos.line) = true := by rfl) (hst : starEach [e] X.env = (false, eval e X.env) :: starEach [] X.env := by rfl) (hpl : (backTo cpos (starEach [] X.env)).any (·.1) = false := by rfl) :
    PSM (ctOf X) W X (.Expr (.Call (.Attribute (.Name x px) "append" apos) [e] [] cpos) pos) (sApp i me) :=
  PS_imp (ps_expr (pe_bm F.plainAttrs_list F.slot_list_append F.type_list_append mt_append hv (pam_cons he pam_nil hst) hbase hfew hline hst hpl) hs) fun D σ H h => by
    obtain ⟨cf, oa, P, β, ρ, S, L, h⟩ := h
    have one : ∀ {Q : List V → Hp → Prop}, EM (ctOf X) W false me σ H (fun v H' => Q [v] H') → AM (ctOf X) W false (aCons me aNil) σ H Q := by
      intro Q h
      obtain ⟨cf, oa, P, β, ρ, S, L, h⟩ := h
      refine ⟨cf, oa, P, β, ρ, S, L, ?_⟩
      unfold aCons
      cases em : me ρ S with
      | stuck => rw [em] at h; exact h
      | exc x S1 => rw [em] at h; exact h
      | ok d S1 =>
        rw [em] at h
        intro vs H1 β1 t L1 r
        obtain ⟨v, rfl, r1⟩ := rvs1 r
        exact h v H1 β1 t L1 r1
    unfold sApp at h
    have go : ∀ {a : Addr} {us : List V}, σ[i]? = some (some (.ref a)) → SqL X.K H a us → EM (ctOf X) W false me σ H (fun v H' => ∃ (l : Addr) (xs : List V) (y : V), V.ref a = .ref l ∧ [v] = [y] ∧ H' l = some (.lst xs) ∧ xs.length < sizeLine ∧ D.nx σ (upd H' l (.lst (xs ++ [y])))) →
        tBM X.K "list" rAppend (tVar i) (AM (ctOf X) W false (aCons me aNil)) σ H (fun _ H' => D.nx σ H') := by
      intro a us q1 q2 q3
      exact ⟨.ref a, q1, .inl ⟨rfl, us, q2⟩, one q3⟩
    cases es : ρ[i]? with
    | none => rw [es] at h; exact h.elim
    | some sl =>
      rw [es] at h
      cases sl with
      | un => exact h.elim
      | ex _ => exact h.elim
      | ow dx =>
        cases dx with
        | lst xs =>
          obtain ⟨a, o1, o2, us, q1, q2⟩ := L.oslot i _ es
          refine go o2 (.inl (.inl q1)) ⟨cf, oa, P, β, ρ, S, L, ?_⟩
          simp only at h
          cases em : me ρ S with
          | stuck => rw [em] at h; exact h
          | exc x S1 => rw [em] at h; exact xp_of h
          | ok d S1 =>
            rw [em] at h
            simp only [R.st] at h
            intro v H1 β1 t L1 r1
            obtain ⟨a', p1, p2, us1, w1, w2⟩ := L1.oslot i _ es
            have ea : a' = a := by rw [o1] at p1; injection p1 with z; exact z.symm
            subst ea
            by_cases hl : xs.length < sizeLine
            · rw [if_pos hl] at h
              have hP := (L1.own i a' p1).1
              have nt : ∀ xs, ¬ Rd H1 a' (.tup xs) := fun xs z => by
                rcases z with z | ⟨o, z⟩ <;> (rw [w1] at z; cases z)
              have new : OwnAt (ctOf X) (upd H1 a' (.lst (us1 ++ [v]))) P β1 a' (.lst (xs ++ [d])) := ⟨_, upd_same, (w2.append (.cons r1 .nil)).set (.inl hP) nt⟩
              refine ⟨a', us1, v, rfl, rfl, w1, by rw [w2.length]; exact hl, ?_⟩
              exact h σ _ β1 oa P (L1.pokeOwn p1 p2 (List.getElem?_eq_some_iff.mp es).1 nt new) ((Fx.of t.ext).trans (Fx.own hP nt fun o u z => by rw [w1] at z; cases z))
            · rw [if_neg hl] at h; exact h.elim
        | _ => exact (show False from h).elim
      | sh dx =>
        cases dx with
        | ref n =>
          simp only at h
          cases eS : S[n]? with
          | none => rw [eS] at h; exact h.elim
          | some so =>
            rw [eS] at h
            cases so with
            | lst xs0 =>
              obtain ⟨v0, q1, q2⟩ := L.slot i _ es
              cases q2 with
              | ref hn =>
                obtain ⟨us, w1, w2⟩ := L.st.ok _ _ _ hn eS
                refine go q1 (.inl (.inl w1)) ⟨cf, oa, P, β, ρ, S, L, ?_⟩
                simp only at h
                cases em : me ρ S with
                | stuck => rw [em] at h; exact h
                | exc x S1 => rw [em] at h; exact xp_of h
                | ok d S1 =>
                  rw [em] at h
                  simp only [R.st] at h
                  intro v H1 β1 t L1 r1
                  have hn1 := t.ext.get hn
                  cases eS1 : S1[n]? with
                  | none => rw [eS1] at h; exact h.elim
                  | some so =>
                    rw [eS1] at h
                    cases so with
                    | lst xs =>
                      simp only at h
                      by_cases hl : xs.length < sizeLine
                      · rw [if_pos hl] at h
                        obtain ⟨us1, z1, z2⟩ := L1.st.ok _ _ _ hn1 eS1
                        have m := List.mem_of_getElem? hn1
                        have nt := L1.st.notup m
                        have new : SOK (ctOf X) (upd H1 _ (.lst (us1 ++ [v]))) P β1 _ (.lst (xs ++ [d])) := ⟨_, upd_same, (z2.append (.cons r1 .nil)).set (.inr m) nt⟩
                        refine ⟨_, us1, v, rfl, rfl, z1, by rw [z2.length]; exact hl, ?_⟩
                        have hf : ∀ o u, H1 _ ≠ some (.frz o u) := fun o u z => by rw [z1] at z; cases z
                        exact h σ _ β1 oa P (L1.wrote hn1 new hf) ((Fx.of t.ext).trans (Fx.of (Ext.wrote m nt hf)))
                      · rw [if_neg hl] at h; exact h.elim
                    | _ => exact (show False from h).elim
            | _ => exact (show False from h).elim
        | _ => exact (show False from h).elim
end
end Mi

/-! Mi19: name op= e. -/
namespace Mi
open PySem PySem.Spec PyProof.Rows L2
section
variable {X : Cx} {W : WX} {x : Str} {pos pos' : Pos} {e : Expr} {me : EX} {i : Nat} {op : Operator} {r : R2} {f : Store → D → D → Option D}
theorem ps_augM (hN : X.N.Nodup) (hi : X.N[i]? = some x) (hx : Loc X.env.scope x) (ho : PIp X op r) (hm : OpM X r f) (he : PM (ctOf X) W false X e me) (hf : X.fn x = true ∨ X.env.scope.names.lookup x = some .local := by first | exact .inl rfl | exact .inr rfl | assumption) :
    PSM (ctOf X) W X (.AugAssign (.Name x pos') op e pos) (sSet i (mBin f (mVar i) me)) := PS_imp (ps_aug hN hi hx he ho hf) fun D σ H h => by
  obtain ⟨cf, oa, P, β, ρ, S, L, h⟩ := h
  unfold sSet mBin mVar at h
  cases es : ρ[i]? with
  | none => rw [es] at h; exact h.elim
  | some sl =>
    rw [es] at h
    cases sl with
    | un => exact h.elim
    | ex _ => exact h.elim
    | ow d => exact h.elim
    | sh dx =>
      obtain ⟨vx, q1, q2⟩ := L.slot i dx es
      refine ⟨vx, q1, cf, oa, P, β, ρ, S, L, ?_⟩
      simp only [R.bind] at h
      cases em : me ρ S with
      | stuck => rw [em] at h; exact h
      | exc z S1 => rw [em] at h; exact xp_of h
      | ok dy S1 =>
        rw [em] at h
        simp only at h
        intro y H1 β1 t L1 r1
        cases ef : f S1 dx dy with
        | none => rw [ef] at h; exact h.elim
        | some dz =>
          rw [ef] at h
          refine hm P H1 β1 S1 vx y dx dy dz _ L1.at (q2.mono t.ext) r1 ef fun v H2 e2 r2 => ?_
          exact h _ H2 β1 _ P ((L1.same e2).set r2) ((Fx.of t.ext).trans (Fx.of (Ext.same e2)))
end
end Mi
namespace Mi
open PySem PySem.Spec PyProof.Rows L2
def dAddI (_ : Store) (x y : D) : Option D := match x, y with
  | .int i, .int j => some (.int (i + j))
  | _, _ => none
theorem addI_m {X : Cx} : OpM X (rI0 fun i j => .int (i + j)) dAddI := by
  intro Z H β S x y dx dy dz Q A rx ry e k
  unfold dAddI at e
  split at e
  · cases rx; cases ry; cases e
    exact ⟨_, _, rfl, rfl, k _ H (Same.refl _) (.int _)⟩
  · cases e
end Mi

/-! Mi20: int(..), str(..), list(..), tuple(..), dict(..). -/
namespace Mi
open PySem PySem.Spec PyProof.Rows L2
section
variable {X : Cx}
def fInt (_ : Store) (ds : List D) : Option D := match ds with
  | [.int i] => some (.int i)
  | [.bl k] => some (.int (if k then 1 else 0))
  | _ => none
theorem int_m : FnM X (fun xs H Q => (∃ i, xs = [.int i] ∧ Q (.int i) H) ∨ ∃ k, xs = [.bl k] ∧ Q (.int (if k then 1 else 0)) H) fInt := by
  intro Z H β S xs ds dz Q A r e k
  unfold fInt at e
  split at e
  · cases e
    obtain ⟨x, rfl, r1⟩ := rvs1 r
    cases r1
    exact .inl ⟨_, rfl, k _ H (Same.refl _) (.int _)⟩
  · cases e
    obtain ⟨x, rfl, r1⟩ := rvs1 r
    cases r1
    exact .inr ⟨_, rfl, k _ H (Same.refl _) (.int _)⟩
  · cases e
def fStr (_ : Store) (ds : List D) : Option D := match ds with
  | [.int i] => if i.natAbs.log2 < 1920 then some (.str (toString i)) else none
  | [.str x] => some (.str x)
  | _ => none
theorem or_str : CallR X (.type "str") (fun xs H Q => (∃ i, xs = [.int i] ∧ i.natAbs.log2 < 1920 ∧ Q (.str (toString i)) H) ∨ ∃ a, xs = [.str a] ∧ Q (.str a) H) := CallR.or call_str_int SkE.call_str_str
theorem str_m : FnM X (fun xs H Q => (∃ i, xs = [.int i] ∧ i.natAbs.log2 < 1920 ∧ Q (.str (toString i)) H) ∨ ∃ a, xs = [.str a] ∧ Q (.str a) H) fStr := by
  intro Z H β S xs ds dz Q A r e k
  unfold fStr at e
  split at e
  · split at e
    · rename_i hz
      cases e
      obtain ⟨x, rfl, r1⟩ := rvs1 r
      cases r1
      exact .inl ⟨_, rfl, hz, k _ H (Same.refl _) (.str _)⟩
    · cases e
  · cases e
    obtain ⟨x, rfl, r1⟩ := rvs1 r
    cases r1
    exact .inr ⟨_, rfl, k _ H (Same.refl _) (.str _)⟩
  · cases e
/-- the items of a list or a tuple -/
def viewLT (S : Store) (d : D) : Option (List D) := match d with
  | .tup xs => some xs
  | d => viewL S d
theorem RV.viewLT {C : Ct} {H : Hp} {Z : Addr → Prop} {β : List Addr} {S : Store} {v : V} {d : D} (r : RV C H Z β v d) (s : SRel C H Z β S) {ds : List D} (h : Mi.viewLT S d = some ds) : ∃ a xs, v = .ref a ∧ (SqL C.K H a xs ∨ SqT C.K H a xs) ∧ RVs C H Z β xs ds := by
  unfold Mi.viewLT at h
  split at h
  · obtain ⟨a, xs, q1, q2, q3⟩ := r.viewT (ds := ds) h
    exact ⟨a, xs, q1, .inr q2, q3⟩
  · obtain ⟨a, xs, q1, q2, q3⟩ := r.viewL s h
    exact ⟨a, xs, q1, .inl q2, q3⟩
def fList (S : Store) (ds : List D) : Option D := match ds with
  | [d] => match viewLT S d with
    | some xs => some (.lst xs)
    | none => none
  | _ => none
theorem list_n : FnN X (fun xs H Q => ∃ p ys, xs = [.ref p] ∧ (SqL X.K H p ys ∨ SqT X.K H p ys) ∧ ∀ l, H l = none → Q (.ref l) (upd H l (.lst ys))) fList := by
  intro Z H β S xs ds dz Q A r e k
  unfold fList at e
  split at e
  · split at e
    · rename_i ys e1
      cases e
      obtain ⟨x, rfl, r1⟩ := rvs1 r
      obtain ⟨a, us, rfl, q1, r2⟩ := RV.viewLT r1 A.st e1
      exact ⟨a, us, rfl, q1, fun l hl => k l _ (same_laid hl) hl (cat_own A hl r2)⟩
    · cases e
  · cases e
theorem list_isL (S : Store) (xs : List D) (d : D) (h : fList S xs = some d) : isL d := by
  unfold fList at h
  split at h
  · split at h
    · cases h; exact ⟨_, rfl⟩
    · cases h
  · cases h
theorem list_m : FnM X (fun xs H Q => ∃ p ys, xs = [.ref p] ∧ (SqL X.K H p ys ∨ SqT X.K H p ys) ∧ ∀ l, H l = none → Q (.ref l) (upd H l (.lst ys))) fList := FnM.of_new list_n list_isL
def fTuple (S : Store) (ds : List D) : Option D := match ds with
  | [.tup xs] => some (.tup xs)
  | [d] => match viewL S d with
    | some xs => some (.tup xs)
    | none => none
  | _ => none
theorem tuple_m : FnM X (fun xs H Q => ∃ p ys, xs = [.ref p] ∧ ((SqL X.K H p ys ∧ ∀ l, H l = none → Q (.ref l) (upd H l (.tup ys))) ∨ (SqT X.K H p ys ∧ Q (.ref p) H))) fTuple := by
  intro Z H β S xs ds dz Q A r e k
  unfold fTuple at e
  split at e
  · cases e
    obtain ⟨x, rfl, r1⟩ := rvs1 r
    have r0 := r1
    obtain ⟨a, us, rfl, q1, r2⟩ := r1.viewT rfl
    exact ⟨a, us, rfl, .inr ⟨q1, k _ H (Same.refl _) r0⟩⟩
  · split at e
    · rename_i ys e1
      cases e
      obtain ⟨x, rfl, r1⟩ := rvs1 r
      obtain ⟨a, us, rfl, q1, r2⟩ := r1.viewL A.st e1
      exact ⟨a, us, rfl, .inl ⟨q1, fun l hl => k _ _ (same_laid hl) (.tup (.inl upd_same) (r2.mono (Ext.laid hl)))⟩⟩
    · cases e
  · cases e
/-- dict(d): a copy -/
def fDict (S : Store) (ds : List D) : Option D := match ds with
  | [d] => match viewK S d with
    | some kvs => some (.dct kvs)
    | none => none
  | _ => none
theorem rks_more {C : Ct} {H : Hp} {P : Addr → Prop} {β : List Addr} {p : Addr} {vs : List (Key × V)} {ds : List (Key × D)} (hp : H p = none) (r : RKs C H P β vs ds) (o : HO) : RKs C (upd H p o) (fun c => P c ∨ c = p) β vs ds := (r.more hp).mono (Ext.laid hp)
theorem dict_n : FnN X (fun xs H Q => ∃ (a : Addr) (kvs : List (Key × V)), xs = [.ref a] ∧ Rd H a (.dK kvs) ∧ ∀ p, H p = none → Q (.ref p) (upd H p (.dK kvs))) fDict := by
  intro Z H β S xs ds dz Q A r e k
  unfold fDict at e
  split at e
  · split at e
    · rename_i ys e1
      cases e
      obtain ⟨x, rfl, r1⟩ := rvs1 r
      obtain ⟨a, us, rfl, q1, r2⟩ := r1.viewK A.st e1
      exact ⟨a, us, rfl, q1, fun l hl => k l _ (same_laid hl) hl ⟨us, upd_same, rks_more hl r2 _⟩⟩
    · cases e
  · cases e
end
end Mi

/-! Mi21: tables of the module: dicts with text keys that nobody changes. -/
namespace Mi
open PySem PySem.Spec PyProof.Rows L2
def LitR : D → Value → Prop
  | .str x, u => ∃ t, u = .str x t
  | .int i, u => ∃ t, u = .int i t
  | .bl b, u => u = .bool b
  | .non, u => u = .none
  | _, _ => False
inductive EsTab : List DictEntry → List (Str × D) → Prop
  | nil : EsTab [] []
  | cons {e : DictEntry} {k : Str} {t : Tok} {d : D} {es : List DictEntry} {tab : List (Str × D)} : e.key = .str k t → LitR d e.val → EsTab es tab → EsTab (e :: es) ((k, d) :: tab)
structure KTab (K : PySem.W.Frag) (w : World) (d : Addr) (tab : List (Str × D)) : Prop where
  ex : ∃ es n, KDict K w d es n ∧ EsTab es.toList tab
def dTab (tab : List (Str × D)) (_ : Store) (x : D) : Option D := match x with
  | .str z => tab.lookup z
  | _ => none
def dTabIn (tab : List (Str × D)) (_ : Store) (x : D) : Option D := match x with
  | .str z => some (.bl (tab.lookup z).isSome)
  | _ => none
def dTabOut (tab : List (Str × D)) (_ : Store) (x : D) : Option D := match x with
  | .str z => some (.bl (!(tab.lookup z).isSome))
  | _ => none
theorem lit_rv {C : Ct} {H : Hp} {P : Addr → Prop} {β : List Addr} {d : D} {u : Value} (h : LitR d u) : ∃ v, RelV v u ∧ RV C H P β v d := by
  cases d with
  | str x => obtain ⟨t, rfl⟩ := h; exact ⟨.str x, ⟨t, rfl⟩, .str x⟩
  | int i => obtain ⟨t, rfl⟩ := h; exact ⟨.int i, ⟨t, rfl⟩, .int i⟩
  | bl b => cases (show u = .bool b from h); exact ⟨.bl b, rfl, .bl b⟩
  | non => cases (show u = .none from h); exact ⟨.non, rfl, .non⟩
  | _ => exact (show False from h).elim
theorem tab_find {z : Str} : ∀ {es : List DictEntry} {tab : List (Str × D)}, EsTab es tab →
    (match es.find? (·.key.isStr z) with
      | some e => ∃ d, tab.lookup z = some d ∧ LitR d e.val
      | none => tab.lookup z = none) ∧ es.any (·.refKey) = false
  | _, _, .nil => ⟨rfl, rfl⟩
  | _, _, .cons (e := e) (k := k) (t := t) (es := es) (tab := tab) hk hv r => by
    obtain ⟨h1, h2⟩ := tab_find (z := z) r
    have hr : e.refKey = false := by
      unfold DictEntry.refKey
      rw [hk]
    refine ⟨?_, by rw [List.any_cons, hr, h2]; rfl⟩
    rw [List.find?_cons, hk, List.lookup_cons]
    by_cases hz : z = k
    · subst hz
      have : (Value.str z t).isStr z = true := by simp [Value.isStr]
      rw [this]
      simp only [beq_self_eq_true]
      exact ⟨_, rfl, hv⟩
    · have : (Value.str k t).isStr z = false := by simp [Value.isStr]; exact fun q => hz q.symm
      rw [this]
      have hb : (z == k) = false := by simpa using hz
      rw [hb]
      exact h1
theorem tab_ns {K : PySem.W.Frag} {w : World} {d : Addr} {tab : List (Str × D)} {es : Array DictEntry} {n : Nat} (D : KDict K w d es n) (E : EsTab es.toList tab) (z : Str) :
    (∃ x u, tab.lookup z = some x ∧ LitR x u ∧ PySem.W.nsIn K d z = some (some u)) ∨ (tab.lookup z = none ∧ PySem.W.nsIn K d z = some none) := by
  obtain ⟨h1, h2⟩ := tab_find (z := z) E
  unfold PySem.W.nsIn
  rw [D.at_]
  simp only
  cases e : es.toList.find? (·.key.isStr z) with
  | some q => rw [e] at h1; obtain ⟨x, g1, g2⟩ := h1; exact .inl ⟨x, _, g1, g2, rfl⟩
  | none => rw [e] at h1; exact .inr ⟨h1, by rw [h2]; rfl⟩
section
variable {X : Cx} {W : WX} {b : Bool} {x : Str} {da : Addr} {tab : List (Str × D)} {e : Expr} {me : EX} {p pos : Pos}
theorem tab_em {f : Store → D → Option D} {r : V → Hp → VK → Prop} {σ : L2.St} {H : Hp} {Q : VK} (hm : UnM X r f) (h : EM (ctOf X) W b (mUn f me) σ H Q) : EM (ctOf X) W b me σ H fun y H2 => r y H2 Q := em1 (X := X) (W := W) (b := b) (ma := me) hm h
theorem tabIx_m (T : KTab X.K X.w da tab) : UnM X (fun y H Q => rIxD X.K X.w (.ref da) y H Q) (dTab tab) := by
  intro Z H β S y dy dz Q A ry e k
  obtain ⟨es, n, D, E⟩ := T.ex
  unfold dTab at e
  split at e
  · rename_i z
    cases ry
    rcases tab_ns D E z with ⟨d, u, g1, g2, g3⟩ | ⟨g1, _⟩
    · rw [e] at g1
      cases g1
      obtain ⟨v, rv, rd⟩ := lit_rv (C := ctOf X) (H := H) (P := Z) (β := β) g2
      exact ⟨da, z, v, rfl, rfl, ⟨es, n, u, D.at_, D.lit, g3, rv⟩, k v H (Same.refl _) rd⟩
    · rw [e] at g1; cases g1
  · cases e
/-- TABLE[e] -/
theorem pm_tabIx (T : KTab X.K X.w da tab) (hm : X.mg x = some (.ref da)) (he : PM (ctOf X) W b X e me) (hg : Gl X x := by rfl) (hd : (x == ("__debug__" : Str)) = false := by decide) (hs : PlainIx e := by exact fun _ _ => rfl) :
    PM (ctOf X) W b X (.Subscript (.Name x p) e pos) (mUn (dTab tab) me) := PE_imp (pe_ix ix_kdict (pe_glob (v := .ref da) hg hm rfl hd) he hs) fun σ H Q h => tab_em (tabIx_m T) h
theorem tabIn_m (T : KTab X.K X.w da tab) : UnM X (fun y H Q => ∃ (z : Str) (r : Option Value), y = .str z ∧ V.ref da = .ref da ∧ PySem.W.nsIn X.K da z = some r ∧ Q (.bl r.isSome) H) (dTabIn tab) := by
  intro Z H β S y dy dz Q A ry e k
  obtain ⟨es, n, D, E⟩ := T.ex
  unfold dTabIn at e
  split at e
  · rename_i z
    cases ry; cases e
    rcases tab_ns D E z with ⟨d, u, g1, g2, g3⟩ | ⟨g1, g3⟩
    · refine ⟨z, _, rfl, rfl, g3, k _ H (Same.refl _) ?_⟩
      rw [g1]; exact .bl _
    · refine ⟨z, _, rfl, rfl, g3, k _ H (Same.refl _) ?_⟩
      rw [g1]; exact .bl _
  · cases e
theorem tabOut_m (T : KTab X.K X.w da tab) : UnM X (fun y H Q => ∃ (z : Str) (r : Option Value), y = .str z ∧ V.ref da = .ref da ∧ PySem.W.nsIn X.K da z = some r ∧ Q (.bl (!r.isSome)) H) (dTabOut tab) := by
  intro Z H β S y dy dz Q A ry e k
  obtain ⟨es, n, D, E⟩ := T.ex
  unfold dTabOut at e
  split at e
  · rename_i z
    cases ry; cases e
    rcases tab_ns D E z with ⟨d, u, g1, g2, g3⟩ | ⟨g1, g3⟩
    · refine ⟨z, _, rfl, rfl, g3, k _ H (Same.refl _) ?_⟩
      rw [g1]; exact .bl _
    · refine ⟨z, _, rfl, rfl, g3, k _ H (Same.refl _) ?_⟩
      rw [g1]; exact .bl _
  · cases e
/-- e in TABLE -/
theorem pb_tabIn (T : KTab X.K X.w da tab) (hm : X.mg x = some (.ref da)) (he : PM (ctOf X) W b X e me) (hg : Gl X x := by rfl) (hd : (x == ("__debug__" : Str)) = false := by decide) (hk : behindInMarks .In (.Name x p) = false := by with_unfolding_all rfl) :
    PB (ctOf X) W b X (.Compare e [.In] [.Name x p] pos) (bOf (mUn (dTabIn tab) me)) := by
  obtain ⟨es, n, D, E⟩ := T.ex
  exact PT_imp (pt_cmpR (op_in_kd D) he (pe_glob (v := .ref da) hg hm rfl hd) hk) fun σ H Q h => tab_em (tabIn_m T) (bm_em h)
theorem pb_tabOut (T : KTab X.K X.w da tab) (hm : X.mg x = some (.ref da)) (he : PM (ctOf X) W b X e me) (hg : Gl X x := by rfl) (hd : (x == ("__debug__" : Str)) = false := by decide) (hk : behindInMarks .NotIn (.Name x p) = false := by with_unfolding_all rfl) :
    PB (ctOf X) W b X (.Compare e [.NotIn] [.Name x p] pos) (bOf (mUn (dTabOut tab) me)) := by
  obtain ⟨es, n, D, E⟩ := T.ex
  exact PT_imp (pt_cmpR (op_notIn_kd D) he (pe_glob (v := .ref da) hg hm rfl hd) hk) fun σ H Q h => tab_em (tabOut_m T) (bm_em h)
end
end Mi

/-! Mi22: a target with a star behind. -/
namespace Mi
open PySem PySem.Spec PyProof.Rows L2
/-- a walk that has gone j steps -/
theorem walk_from {pr : Program} {w : World} {A : Around} {I : Addr} {fp wr : List Addr} {n : Nat} {P : Nat → Value → Prop} {St : Nat → Heap → Prop} (W : Walks pr w A I fp wr n P St) {j : Nat} (hj : j ≤ n) :
    Walks pr w A I fp wr (n - j) (fun i => P (j + i)) (fun i => St (j + i)) where
  sub := W.sub
  frame := fun i h h' st k => W.frame (j + i) h h' st k
  item := fun i s Q E hi st hQ => W.item (j + i) s Q E (by omega) st fun v h' tk p st' k => hQ v h' tk p st' k
  done := fun s Q E st hQ => W.done s Q E (by rw [show j + (n - j) = n by omega] at st; exact st) hQ
  self := fun i s Q E st hQ => W.self (j + i) s Q E st hQ
theorem nolen_ti : typeLookup (.type "tuple_iterator") "__len__" = pure none := by rw [typeLookup_type, builtinLookup_eq_fast]; kernel_rfl
theorem hint_ti : typeLookup (.type "tuple_iterator") "__length_hint__" = pure (some (.builtin "tuple_iterator.__length_hint__")) := by rw [typeLookup_type, builtinLookup_eq_fast]; kernel_rfl
section
variable {pr : Program} {w : World} {A : Around} {E : Value → Shared → Prop} {s : Shared}
/-- what is left of a tuple's iterator, as a list -/
theorem collect_ti {it t : Addr} {items : Array Value} {j : Nat} {Q : List Value → Shared → Prop} (hh : A.handled = none) (hit : s.heap.IsTupleIter it t j) (ht : s.heap.IsTuple t items) (hne : t ≠ it) (hj : j ≤ items.size) (hn : items.size ≤ sizeLine)
    (hQ : ∀ (h' : Heap) (tk : Nat) (acc : Array Value), (∀ b o, b ≠ it → s.heap.get? b = some o → h'.get? b = some o) → ItemsOf (fun i v => items[j + i]? = some v) acc (items.size - j) → Q acc.toList { s with heap := h', toks := tk }) :
    wpAny (model pr w) A (collect (.ref it)) Q E s := by
  have W := (walk_from (Walks.tuple (prog := pr) (w := w) (A := A.in1) hh it t hne items) hj).toS
  obtain ⟨oi, hoi, _⟩ := id hit
  obtain ⟨ol, hol, _⟩ := id ht
  have ni : s.heap.objs.size ≠ it := Nat.ne_of_gt (Heap.lt_size hoi)
  have nt : s.heap.objs.size ≠ t := Nat.ne_of_gt (Heap.lt_size hol)
  have nf : s.heap.objs.size ∉ [it, t] := by simp only [List.mem_cons, List.not_mem_nil, or_false, not_or]; exact ⟨ni, nt⟩
  unfold collect
  refine wpAny_bind (wpAny_runValue (codeAny_builtin F.entry_proto_collect ?_))
  rw [Around.under_plainId F.plain_proto_collect _]
  show wpAny _ A.in1 (newList [] >>= fun l => again (.builtin "list.__iadd__" ⟨[l, .ref it], []⟩)) _ _ s
  refine wpAny_bind (wpAny_newObj_type ?_)
  refine wpAny_pure ⟨plainId_quiet F.plain_list_iadd _, codeAny_builtin F.entry_list_iadd ?_⟩
  rw [Around.under_plainId F.plain_list_iadd _]
  obtain ⟨s1, hs1⟩ : ∃ s1 : Shared, s1 = { s with heap := s.heap.push { cls := .type "list", data := .seq ([] : List Value).toArray } } := ⟨_, rfl⟩
  have gS : s1.heap.get? s.heap.objs.size = some { cls := .type "list", data := .seq ([] : List Value).toArray } := by rw [hs1]; exact Heap.get?_push_size _ rfl
  have gi : s1.heap.IsTupleIter it t j := by rw [hs1]; exact hit.at fun o e => Heap.get?_push_of_some _ e
  have gt : s1.heap.IsTuple t items := by rw [hs1]; exact ht.at fun o e => Heap.get?_push_of_some _ e
  have hT : s1.TypeIs (.ref it) "tuple_iterator" := gi.typeIs
  have h1 : Builtin.List.listSameRef (.ref s.heap.objs.size) (.ref it) = false := by simp [Builtin.List.listSameRef, ni]
  show wpAny _ A.in1 (Builtin.List.listExtendWith (.ref s.heap.objs.size) (.ref it) (.ref s.heap.objs.size)) _ _ _
  rw [← hs1]
  unfold Builtin.List.listExtendWith
  refine wpAny_bind (wpAny_typeOf hT ?_)
  rw [if_neg (by rw [h1]; decide)]
  refine wpAny_bind (wpAny_pyIter_tupleiter gi ?_)
  refine wpAny_bind (wpAny_holding ?_)
  unfold Builtin.List.listLengthHint
  refine wpAny_bind (wpAny_specialOf hT nolen_ti ?_)
  show wpAny _ A.in1 (specialOf (Value.ref it) (Str.ofString "__length_hint__") >>= _) _ _ _
  refine wpAny_bind (wpAny_specialOf hT hint_ti ?_)
  generalize hid : ("tuple_iterator.__length_hint__" : String) = id0
  wp_delta
  rw [show splitId id0 = some ("tuple_iterator", "__length_hint__") from by subst hid; decide +kernel]
  subst hid
  refine wpAny_bind (wpAny_isInstance (b := true) hT (by rw [isSubtype_type]; kernel_rfl) ?_)
  refine wpAny_pure ?_
  rw [if_neg (by decide)]
  refine wpAny_pure ⟨plainId_quiet F.plain_extend_loop _, codeAny_extend_loopS W (by omega) _ nf _ (items.size - j) 0 _ _ _ rfl (Nat.zero_le _) ⟨gi, gt⟩ gS (ItemsOf.nil _) fun s' acc c hm hS' hacc => ?_⟩
  show wpAny _ A (load s.heap.objs.size >>= _) _ _ s'
  refine wpAny_bind (wpAny_load hS' ?_)
  refine wpAny_pure ?_
  rw [Moved.eq_with hm]
  rw [hs1] at hm ⊢
  refine hQ s'.heap s'.toks acc (fun b o hb e => hm.heap b o (fun q => ?_) (Heap.get?_push_of_some _ e)) hacc
  rcases List.mem_cons.mp q with e' | q
  · exact absurd (Heap.lt_size e) (by rw [e']; exact Nat.lt_irrefl _)
  · exact hb (List.mem_singleton.mp q)
end
section
variable {pr : Program} {w : World} {A : Around} {E : Value → Shared → Prop} {s : Shared}
/-- a, b, .., *rest = a tuple: what comes -/
theorem unpack_star {t : Addr} {items : Array Value} {i : Nat} {Q : List Value → Shared → Prop} (hh : A.handled = none) (ht : IsTup s.heap t items) (hi : i ≤ items.size) (hn : items.size ≤ sizeLine)
    (hQ : ∀ (h' : Heap) (tk : Nat), (∀ b o, s.heap.get? b = some o → h'.get? b = some o) → Q (items.toList.take i ++ [.ref h'.objs.size]) { s with heap := h'.push { cls := .type "list", data := .seq (items.toList.drop i).toArray }, toks := tk }) :
    wpAny (model pr w) A (unpackItems (.ref t) (i + 1) (some i)) Q E s := by
  have lt : t ≠ s.heap.objs.size := by obtain ⟨o, g, _⟩ := ht; exact Nat.ne_of_lt (Heap.lt_size g)
  unfold unpackItems
  refine wpAny_bind ?_
  unfold notIterableAtAll
  refine wpAny_bind (wpAny_specialOf ht.typeIs slot_tuple_iter.lookup ?_)
  refine wpAny_pure ?_
  simp only [Bool.false_eq_true, if_false]
  refine wpAny_bind (wpAny_holding (iter_tuple ht ?_))
  refine wpAny_bind (wpAny_holding (draw_tuple lt i 0 _ _ ⟨_, Heap.get?_push_size _ rfl, rfl, rfl⟩ (ht.push _) (by omega) fun h1 it1 sb1 => ?_))
  have e1 : (List.take i (List.drop 0 items.toList)).length = i := by
    rw [List.drop_zero, List.length_take, Array.length_toList]; omega
  rw [if_neg (by rw [e1]; exact Nat.lt_irrefl _)]
  have it1' : h1.IsTupleIter s.heap.objs.size t i := by rw [Nat.zero_add] at it1; exact it1
  have tp1 : IsTup h1 t items := (ht.push _).extBut sb1.extBut lt
  refine wpAny_bind (wpAny_holding (collect_ti (s := { s with heap := h1 }) (j := i) hh it1' tp1 lt hi hn fun h2 tk acc keep hacc => ?_))
  have ea : acc.toList = items.toList.drop i := by
    obtain ⟨z1, z2⟩ := hacc
    refine List.ext_getElem? fun m => ?_
    by_cases hm : m < items.size - i
    · have hm' : m < acc.size := by omega
      have q := z2 m acc[m] (Array.getElem?_eq_getElem hm')
      rw [Array.getElem?_toList, Array.getElem?_eq_getElem hm', List.getElem?_drop, Array.getElem?_toList, q]
    · rw [List.getElem?_eq_none (by rw [Array.length_toList]; omega), List.getElem?_eq_none (by rw [List.length_drop, Array.length_toList]; omega)]
  have e2 : acc.toList.length = items.size - i := by rw [ea, List.length_drop, Array.length_toList]
  simp only [Nat.add_sub_cancel, Nat.sub_self, Nat.not_lt_zero, if_false, Nat.sub_zero]
  refine wpAny_bind (wpAny_newList ?_ (by rw [List.length_take]; omega))
  refine wpAny_pure ?_
  have e3 : List.take acc.toList.length acc.toList = items.toList.drop i := by rw [List.take_length, ea]
  have e4 : List.drop acc.toList.length acc.toList = [] := List.drop_length
  have e5 : List.take i (List.drop 0 items.toList) = items.toList.take i := by rw [List.drop_zero]
  rw [e3, e4, e5, List.append_nil]
  have k1 : ∀ b o, s.heap.get? b = some o → h2.get? b = some o := fun b o g => by
    have nb : b ≠ s.heap.objs.size := Nat.ne_of_lt (Heap.lt_size g)
    exact keep b o nb (sb1.extBut b o nb (Heap.get?_push_of_some _ g))
  exact hQ h2 tk k1
end
/-- (a, .., *rest) = a tuple -/
def gStar (K : PySem.W.Frag) (i : Nat) (t : TGs) : TG := fun v σ H Q => ∃ a xs, v = .ref a ∧ SqT K H a xs ∧ i ≤ xs.length ∧ ∀ p, H p = none → t (xs.take i ++ [.ref p]) σ (upd H p (.lst (xs.drop i))) Q
section
variable {X : Cx} {pos : Pos}
theorem vals_take : ∀ {xs : List V} {us : List Value} (i : Nat), Vals xs us → Vals (xs.take i) (us.take i)
  | _, _, 0, _ => .nil
  | _, _, _ + 1, .nil => .nil
  | _, _, i + 1, .cons r t => .cons r (vals_take i t)
theorem vals_drop : ∀ {xs : List V} {us : List Value} (i : Nat), Vals xs us → Vals (xs.drop i) (us.drop i)
  | _, _, 0, r => r
  | _, _, _ + 1, .nil => .nil
  | _, _, i + 1, .cons _ t => vals_drop i t
theorem pg_star {es : List Expr} {k : Nat} {t : TGs} {i : Nat} (hc : X.calm = true) (h : PGs X es t) (hn : (assignEach es X.env).length = i + 1 := by rfl) (hst : (assignEach es X.env).findIdx? (·.1) = some i := by rfl) : PG X (.Tuple es k pos) (gStar X.K i t) := by
  refine ⟨fun pins s σ H v u Q I r hw => ?_⟩
  obtain ⟨a, xs, rfl, hq, hl, hw⟩ := hw
  cases r
  obtain ⟨its, rv, ht, hz⟩ := I.tuple hq
  have len := rv.length
  rw [assign_Tuple]
  unfold unpack
  rw [hn, hst]
  refine wpAny_bind (wpAny_standAt (wpAny_bind (wpAny_holding (unpack_star (I.ok.hd hc) ht (by rw [List.size_toArray]; omega) (by rw [List.size_toArray]; omega) fun h' tk keep => ?_))))
  have I1 := I.kept (h' := h') (t' := s.toks) keep
  have I2 := I1.lnew (t' := tk) (vals_drop i rv) (by rw [List.length_drop]; omega)
  refine h.run pins _ σ _ _ _ Q I2 ?_ (hw _ I1.fresh)
  exact (vals_take i rv).append (.cons rfl .nil)
/-- the star's target, the last one -/
theorem pgs_star {e : Expr} {p : Pos} {t : TG} (h : PG X e t) (hs : (assignEach [.Starred e p] X.env).map (·.2) = [assign e X.env] := by rfl) : PGs X [.Starred e p] (gCons t gNil) := by
  refine ⟨fun pins s σ H vs us Q I r hw => ?_⟩
  obtain ⟨v, rest, rfl, hw⟩ := hw
  cases r with
  | cons r rr =>
    rw [hs]
    refine assignInOrder_cons (thn (h.run pins s σ H v _ _ I r hw) fun _ s1 ⟨σ1, H1, I1, e1, q1⟩ => ?_)
    subst e1
    cases rr
    exact assignInOrder_nil ⟨σ1, H1, I1, q1⟩
end
def gUnpS (i : Nat) (g : GXs) : GX := fun d ρ S => match viewT d with
  | some ds => if i ≤ ds.length then g (ds.take i ++ [.lst (ds.drop i)]) ρ S else none
  | none => none
section
variable {X : Cx} {pos p : Pos} {e : Expr} {es : List Expr} {g : GX} {gs : GXs} {i k : Nat}
theorem pgs_starM (h : PGM X e g) (hs : (assignEach [.Starred e p] X.env).map (·.2) = [assign e X.env] := by rfl) : PGMs X [.Starred e p] (gsCons g gsNil) := PGs_imp (pgs_star h hs) fun vs σ H Q h => by
  obtain ⟨cf, oa, P, β, ρ, S, ds, L, r, h⟩ := h
  cases r with
  | nil => exact h.elim
  | @cons v vs d ds r1 r2 =>
    refine ⟨v, vs, rfl, cf, oa, P, β, ρ, S, d, L, r1, ?_⟩
    unfold gsCons at h
    simp only at h
    cases eg : g d ρ S with
    | none => rw [eg] at h; exact h.elim
    | some q =>
      rw [eg] at h
      intro σ' H' β' oa' P' L' f'
      cases r2 with
      | nil => exact ⟨rfl, h σ' H' β' oa' P' L' f'⟩
      | cons _ _ => exact (show False from h).elim
theorem pg_unpS (hc : X.calm = true) (h : PGMs X es gs) (hn : (assignEach es X.env).length = i + 1 := by rfl) (hst : (assignEach es X.env).findIdx? (·.1) = some i := by rfl) : PGM X (.Tuple es k pos) (gUnpS i gs) :=
  PG_imp (pg_star hc h hn hst) fun v σ H Q h => by
    obtain ⟨cf, oa, P, β, ρ, S, d, L, r, h⟩ := h
    unfold gUnpS at h
    cases ev : viewT d with
    | none => rw [ev] at h; exact h.elim
    | some ds =>
      rw [ev] at h
      simp only at h
      obtain ⟨a, xs, rfl, q1, q2⟩ := r.viewT ev
      by_cases hl : i ≤ ds.length
      · rw [if_pos hl] at h
        refine ⟨a, xs, rfl, q1, by rw [q2.length]; exact hl, fun p hp => ?_⟩
        have x : Same H (upd H p (.lst (xs.drop i))) := same_laid hp
        have rest : RV (ctOf X) (upd H p (.lst (xs.drop i))) P β (.ref p) (.lst (ds.drop i)) := .lst (L.npP hp) (L.npB hp) (.inl upd_same) ((q2.drop i).mono (Ext.same x))
        refine ⟨cf, oa, P, β, ρ, S, _, L.same x, ((q2.take i).mono (Ext.same x)).append (.cons rest .nil), ?_⟩
        cases eg : gs (ds.take i ++ [.lst (ds.drop i)]) ρ S with
        | none => rw [eg] at h; exact h.elim
        | some q =>
          rw [eg] at h
          intro σ' H' β' oa' P' L' f'
          exact h σ' H' β' oa' P' L' ((Fx.of (Ext.same x)).trans f')
      · rw [if_neg hl] at h; exact h.elim
end
end Mi

/-! Mi23: zip and enumerate over lists, tuples and texts, in any mix. -/
namespace Mi
open PySem PySem.Spec PyProof.Rows L2

/-- what such an iterator walks -/
inductive Src where
  | lst (a : Addr) | tup (a : Addr) | txt (z : Str)
def Src.val : Src → V
  | .lst a => .ref a | .tup a => .ref a | .txt z => .str z
def Src.ext : Src → List Addr
  | .lst a => [a] | .tup a => [a] | .txt _ => []
def Src.at (K : PySem.W.Frag) (c : Src) (H : Hp) (xs : List V) : Prop := match c with
  | .lst a => SqL K H a xs
  | .tup a => SqT K H a xs
  | .txt z => xs = z.cps.toList.map fun c => V.str ⟨#[c]⟩
def Src.it (c : Src) (h : Heap) (it : Addr) (i : Nat) : Prop := match c with
  | .lst a => h.IsListIter it a i
  | .tup a => h.IsTupleIter it a i
  | .txt z => ∃ t, h.IsStrIter it (strIterType z) z t i

section
variable {X : Cx} {pins : List (Addr × Obj)} {σ : L2.St} {H : Hp} {s : Shared} {it : Addr} {i : Nat} {xs ys : List V} {c : Src}
theorem vals_of : ∀ {vs : List V} {us : List Value} {i : Nat} {u : Value}, Vals vs us → us[i]? = some u → ∃ v, vs[i]? = some v ∧ RelV v u
  | _, _, 0, _, .cons h _, e => by simp at e; subst e; exact ⟨_, rfl, h⟩
  | _, _, i + 1, _, .cons _ t, e => by
    obtain ⟨v, h1, h2⟩ := vals_of (i := i) t (by simpa using e)
    exact ⟨v, by simpa using h1, h2⟩
  | _, _, _, _, .nil, e => by simp at e
theorem Src.obj {h : Heap} (st : c.it h it i) : ∃ o, h.get? it = some o ∧ ∀ v, o.data ≠ .cell v := by
  cases c with
  | lst a => obtain ⟨o, e, _, d⟩ := st; exact ⟨o, e, fun v q => by rw [d] at q; cases q⟩
  | tup a => obtain ⟨o, e, _, d⟩ := st; exact ⟨o, e, fun v q => by rw [d] at q; cases q⟩
  | txt z => obtain ⟨t, o, e, _, d⟩ := st; exact ⟨o, e, fun v q => by rw [d] at q; cases q⟩
theorem Src.carry {h h' : Heap} (st : c.it h it i) (k : ∀ o, h.get? it = some o → h'.get? it = some o) : c.it h' it i := by
  cases c with
  | lst a => exact st.at k
  | tup a => exact st.at k
  | txt z => obtain ⟨t, o, e, q⟩ := st; exact ⟨t, o, k o e, q⟩
theorem Src.inj (I : Inv X pins σ H s) (h1 : c.at X.K H xs) (h2 : c.at X.K H ys) : xs = ys := by
  cases c with
  | lst a => exact I.list_inj h1 h2
  | tup a => exact I.tuple_inj h1 h2
  | txt z => exact h1.trans h2.symm
theorem Src.low (I : Inv X pins σ H s) (h : c.at X.K H xs) : ∀ b ∈ c.ext, b < s.heap.objs.size := by
  cases c with
  | lst a =>
    obtain ⟨its, r, p, _⟩ := I.list h
    intro b hb
    rw [List.mem_singleton.mp hb]; exact p.lt
  | tup a =>
    obtain ⟨its, r, p, _⟩ := I.tuple h
    obtain ⟨o, ho, _⟩ := id p
    intro b hb
    rw [List.mem_singleton.mp hb]; exact Heap.lt_size ho
  | txt z => exact fun b hb => nomatch hb
theorem Src.draws (I : Inv X pins σ H s) (hh : X.A.handled = none) (q : c.at X.K H xs) (st : c.it s.heap it i) (hn : it ∉ c.ext) :
    ∃ PP St, Draws X.prog X.w X.A.in1 it (it :: c.ext) xs.length PP St ∧ St i s.heap ∧ (∀ j y, PP j y → ∃ x, xs[j]? = some x ∧ RelV x y) ∧ (∀ j h, St j h → c.it h it j) := by
  cases c with
  | lst a =>
    obtain ⟨its, r, p, _⟩ := I.list q
    have D := Draws.list (prog := X.prog) (w := X.w) (A := X.A.in1) hh it a (fun e => hn (by rw [← e]; exact List.mem_singleton.mpr rfl)) its.toArray
    rw [List.size_toArray, ← r.length] at D
    refine ⟨_, _, D, ⟨st, p.isList⟩, fun j y e => ?_, fun j h e => e.1⟩
    have e' : its[j]? = some y := by simpa using e
    obtain ⟨x, hx, rx⟩ := vals_of r e'
    exact ⟨x, hx, rx⟩
  | tup a =>
    obtain ⟨its, r, p, _⟩ := I.tuple q
    have D := Draws.tuple (prog := X.prog) (w := X.w) (A := X.A.in1) hh it a (fun e => hn (by rw [← e]; exact List.mem_singleton.mpr rfl)) its.toArray
    rw [List.size_toArray, ← r.length] at D
    refine ⟨_, _, D, ⟨st, p⟩, fun j y e => ?_, fun j h e => e.1⟩
    have e' : its[j]? = some y := by simpa using e
    obtain ⟨x, hx, rx⟩ := vals_of r e'
    exact ⟨x, hx, rx⟩
  | txt z =>
    obtain ⟨t, st⟩ := st
    have q' : xs = z.cps.toList.map fun c => V.str ⟨#[c]⟩ := q
    subst q'
    have D := Draws.text (prog := X.prog) (w := X.w) (A := X.A.in1) hh it z t
    rw [show z.cps.size = (z.cps.toList.map fun c => V.str ⟨#[c]⟩).length by rw [List.length_map, Array.length_toList]] at D
    refine ⟨_, _, D, st, fun j y e => ?_, fun j h e => ⟨t, e⟩⟩
    obtain ⟨c, u, e1, rfl⟩ := e
    refine ⟨.str ⟨#[c]⟩, ?_, u, rfl⟩
    rw [List.getElem?_map, Array.getElem?_toList, e1]; rfl
theorem Src.begins (I : Inv X pins σ H s) (q : c.at X.K H xs) {u : Value} (r : RelV c.val u) : ∃ o HH, Begins u o HH ∧ HH s.heap ∧ ∀ h b, h.get? b = some o → c.it h b 0 := by
  cases c with
  | lst a =>
    obtain ⟨its, r', p, _⟩ := I.list q
    cases r
    exact ⟨_, _, begins_list a its.toArray, p.isList, fun h b e => ⟨_, e, rfl, rfl⟩⟩
  | tup a =>
    obtain ⟨its, r', p, _⟩ := I.tuple q
    cases r
    exact ⟨_, _, begins_tuple a its.toArray, p, fun h b e => ⟨_, e, rfl, rfl⟩⟩
  | txt z =>
    obtain ⟨t, rfl⟩ := r
    exact ⟨_, _, begins_text z t, trivial, fun h b e => ⟨t, _, e, rfl, rfl⟩⟩
end
/-- zip over two sources -/
def Itz2 (K : PySem.W.Frag) (c d : Src) : It :=
  ⟨fun i H => ∃ (xs ys : List V) (x y : V), c.at K H xs ∧ d.at K H ys ∧ xs[i]? = some x ∧ ys[i]? = some y,
    fun i H v H' => ∃ T x y, v = .ref T ∧ H T = none ∧ H' = upd H T (.tup [x, y]) ∧ (∀ xs, c.at K H xs → xs[i]? = some x) ∧ ∀ ys, d.at K H ys → ys[i]? = some y,
    fun i H => ∃ xs ys : List V, c.at K H xs ∧ d.at K H ys ∧ min xs.length ys.length = i⟩
theorem turn_zip2 {P : Program} {w : World} {K : PySem.W.Frag} {elts : List Expr} {kk : Nat} {tpos : Pos} {c d : Src} {z TI TO i1 i2 : Addr} (D : ZipSep2 z TI TO i1 i2 (i1 :: c.ext) (i2 :: d.ext)) (n1 : i1 ∉ c.ext) (n2 : i2 ∉ d.ext) :
    Turn P w K (.Tuple elts kk tpos) (Itz2 K c d) [z, TI, TO, i1, i2] z (fun i h => IsZip h z TI TO .none ∧ IsTupOf2 h TI (.ref i1) (.ref i2) ∧ (∃ x y, IsTupOf2 h TO x y) ∧ c.it h i1 i ∧ d.it h i2 i) where
  mem := by simp
  obj := fun i h st b hb => by
    obtain ⟨hz, hTI, ⟨x, y, hTO⟩, h1, h2⟩ := st
    have e' : b = z ∨ b = TI ∨ b = TO ∨ b = i1 ∨ b = i2 := by simpa using hb
    rcases e' with q | q | q | q | q
    · rw [q]; exact ⟨_, hz, fun v q => nomatch q⟩
    · rw [q]; exact ⟨_, hTI, fun v q => nomatch q⟩
    · rw [q]; exact ⟨_, hTO, fun v q => nomatch q⟩
    · rw [q]; exact Src.obj h1
    · rw [q]; exact Src.obj h2
  keep := fun i h h' st k => by
    obtain ⟨hz, hTI, ⟨x, y, hTO⟩, h1, h2⟩ := st
    exact ⟨k z (by simp) _ hz, k TI (by simp) _ hTI, ⟨x, y, k TO (by simp) _ hTO⟩, Src.carry h1 fun o q => k i1 (by simp) o q, Src.carry h2 fun o q => k i2 (by simp) o q⟩
  item := by
    intro X hP hw hK hc i pins s σ H E I hf st hg
    subst hP hw hK
    obtain ⟨hz, hTI, ⟨x0, y0, hTO⟩, h1, h2⟩ := st
    obtain ⟨xs, ys, x, y, hqx, hqy, hx, hy⟩ := hg
    have hh : X.A.handled = none := I.ok.hd hc
    obtain ⟨P1, S1, D1, st1, p1, k1⟩ := Src.draws I hh hqx h1 n1
    obtain ⟨P2, S2, D2, st2, p2, k2⟩ := Src.draws I hh hqy h2 n2
    have hzl : z < s.heap.objs.size := Heap.lt_size hz
    refine wpAny_pyNext_zipD2_item D D1 D2 hz hTI hTO st1 st2 (List.getElem?_eq_some_iff.mp hx).1 (List.getElem?_eq_some_iff.mp hy).1 fun u u2 h' tk y1 y2 z' TO' s1 s2 hT hsz hk => ?_
    obtain ⟨x', ex, ru⟩ := p1 i u y1
    obtain ⟨y', ey, ru2⟩ := p2 i u2 y2
    rw [hx] at ex; cases ex
    rw [hy] at ey; cases ey
    refine ⟨_, rfl, wpAny_letOwnedTupleGo_zip (s := { s with heap := h', toks := tk }) z' fun h'' z'' sb => ?_⟩
    have hT2 : h''.get? s.heap.objs.size = some { cls := .type "tuple", data := .seq #[u, u2] } := (sb.2 _ (Nat.ne_of_gt hzl)).trans hT
    have new : ObjOk X.prog X.w (upd H s.heap.objs.size (.tup [x, y])) h'' s.heap.objs.size (.tup [x, y]) :=
      ⟨by show 2 ≤ sizeLine; decide, [u, u2], .cons ru (.cons ru2 .nil), ⟨_, hT2, rfl, _, rfl⟩⟩
    have I1 : Inv X pins σ (upd H s.heap.objs.size (.tup [x, y])) { s with heap := h'', toks := tk } :=
      I.turnedNew (t' := tk) (ch := [z, TI, TO, i1, i2]) (fun c o hb q => (sb.2 c (fun q' => hb (by simp [q']))).trans (hk c o (fun q' => hb (by simp [q'])) (fun q' => hb (by simp [q'])) (fun q' => hb (by simp [q'])) (fun q' => hb (by simp [q'])) q)) hf (Nat.le_refl _) new
    refine ⟨.ref s.heap.objs.size, _, I1, rfl, ⟨_, x, y, rfl, I.hok.fresh (Nat.le_refl _), rfl, fun l hl => by rw [Src.inj I hl hqx]; exact hx, fun l hl => by rw [Src.inj I hl hqy]; exact hy⟩, ⟨z'', ?_, ⟨u, u2, ?_⟩, ?_, ?_⟩, fun b hcm => ?_⟩
    · exact (sb.2 _ D.TIz).trans (hk _ _ D.TIz D.TITO D.TIi1 D.TIi2 hTI)
    · exact (sb.2 _ D.TOz).trans TO'
    · exact Src.carry (k1 _ _ s1) fun o q => (sb.2 _ (Ne.symm D.zi1)).trans q
    · exact Src.carry (k2 _ _ s2) fun o q => (sb.2 _ (Ne.symm D.zi2)).trans q
    · have hlt : b < s.heap.objs.size := by
        have e' : b = z ∨ b = TI ∨ b = TO ∨ b = i1 ∨ b = i2 := by simpa using hcm
        rcases e' with q | q | q | q | q
        · rw [q]; exact hzl
        · rw [q]; exact Heap.lt_size hTI
        · rw [q]; exact Heap.lt_size hTO
        · rw [q]; obtain ⟨_, e1, _⟩ := Src.obj h1; exact Heap.lt_size e1
        · rw [q]; obtain ⟨_, e2, _⟩ := Src.obj h2; exact Heap.lt_size e2
      rw [upd_ne (Nat.ne_of_lt hlt)]
      exact (hf b hcm).1
  done := by
    intro X hP hw hK hc i pins s σ H E I hf st hg
    subst hP hw hK
    obtain ⟨hz, hTI, ⟨x0, y0, hTO⟩, h1, h2⟩ := st
    obtain ⟨xs, ys, hqx, hqy, hend⟩ := hg
    have hh : X.A.handled = none := I.ok.hd hc
    obtain ⟨P1, S1, D1, st1, p1, k1⟩ := Src.draws I hh hqx h1 n1
    obtain ⟨P2, S2, D2, st2, p2, k2⟩ := Src.draws I hh hqy h2 n2
    exact wpAny_pyNext_zipD2_end D D1 D2 hz hTI hTO st1 st2 (by omega) (by omega) (by omega) fun h' tk hk => ⟨rfl, I.turnedL (t' := tk) (ch := [z, TI, TO, i1, i2]) (fun c o hb q =>
      hk c o (fun q' => hb (by simp [q'])) (fun q' => hb (by simp [q'])) (fun q' => hb (by simp [q'])) (fun q' => hb (by simp [q'])) q) hf⟩
  self := fun A i s Q E st h => wpAny_pyIter_zip st.1 h
/-- enumerate over a source -/
def Ite2 (K : PySem.W.Frag) (c : Src) : It :=
  ⟨fun i H => ∃ (xs : List V) (x : V), c.at K H xs ∧ xs[i]? = some x,
    fun i H v H' => ∃ T x, v = .ref T ∧ H T = none ∧ H' = upd H T (.tup [.int (i : Int), x]) ∧ ∀ xs, c.at K H xs → xs[i]? = some x,
    fun i H => ∃ xs : List V, c.at K H xs ∧ xs.length = i⟩
theorem turn_enum2 {P : Program} {w : World} {K : PySem.W.Frag} {elts : List Expr} {kk : Nat} {tpos : Pos} {c : Src} {e it : Addr} (hne : e ≠ it) (hef : e ∉ it :: c.ext) (n1 : it ∉ c.ext) :
    Turn P w K (.Tuple elts kk tpos) (Ite2 K c) [e, it] e (fun i h => (∃ old, IsEnum h e it ((i : Nat) : Int) old) ∧ c.it h it i) where
  mem := by simp
  obj := fun i h st b hb => by
    obtain ⟨⟨old, he⟩, h1⟩ := st
    have e' : b = e ∨ b = it := by simpa using hb
    rcases e' with q | q
    · rw [q]; exact ⟨_, he, fun v q => nomatch q⟩
    · rw [q]; exact Src.obj h1
  keep := fun i h h' st k => by
    obtain ⟨⟨old, he⟩, h1⟩ := st
    exact ⟨⟨old, k e (by simp) _ he⟩, Src.carry h1 fun o q => k it (by simp) o q⟩
  item := by
    intro X hP hw hK hc i pins s σ H E I hf st hg
    subst hP hw hK
    obtain ⟨⟨old, he⟩, h1⟩ := st
    obtain ⟨xs, x, hqx, hx⟩ := hg
    have hh : X.A.handled = none := I.ok.hd hc
    obtain ⟨P1, S1, D1, st1, p1, k1⟩ := Src.draws I hh hqx h1 n1
    have hel : e < s.heap.objs.size := Heap.lt_size he
    refine wpAny_pyNext_enum_itemC D1 he st1 (List.getElem?_eq_some_iff.mp hx).1 hne hef fun u h' tk y1 ho s1 hT hsz hk => ?_
    obtain ⟨x', ex, ru⟩ := p1 i u y1
    rw [hx] at ex; cases ex
    refine ⟨_, rfl, wpAny_letOwnedTupleGo_enum (prog := X.prog) (w := X.w) (s := { s with heap := h', toks := tk + 1 }) ho fun h'' he'' sb => ?_⟩
    have hT2 : h''.get? s.heap.objs.size = some { cls := .type "tuple", data := .seq #[.int (i : Int) tk, u] } := (sb.2 _ (Nat.ne_of_gt hel)).trans hT
    have new : ObjOk X.prog X.w (upd H s.heap.objs.size (.tup [.int (i : Int), x])) h'' s.heap.objs.size (.tup [.int (i : Int), x]) :=
      ⟨by show 2 ≤ sizeLine; decide, [.int (i : Int) tk, u], .cons ⟨_, rfl⟩ (.cons ru .nil), ⟨_, hT2, rfl, _, rfl⟩⟩
    have I1 : Inv X pins σ (upd H s.heap.objs.size (.tup [.int (i : Int), x])) { s with heap := h'', toks := tk + 1 } :=
      I.turnedNew (t' := tk + 1) (ch := [e, it]) (fun c o hb q => (sb.2 c (fun q' => hb (by simp [q']))).trans (hk c o (fun q' => hb (by simp [q'])) (fun q' => hb (by simp [q'])) q)) hf (Nat.le_refl _) new
    refine ⟨.ref s.heap.objs.size, _, I1, rfl, ⟨_, x, rfl, I.hok.fresh (Nat.le_refl _), rfl, fun l hl => by rw [Src.inj I hl hqx]; exact hx⟩, ⟨⟨u, ?_⟩, ?_⟩, fun b hcm => ?_⟩
    · have e1 : ((i + 1 : Nat) : Int) = (i : Int) + 1 := by omega
      rw [e1]; exact he''
    · exact Src.carry (k1 _ _ s1) fun o q => (sb.2 _ (Ne.symm hne)).trans q
    · have hlt : b < s.heap.objs.size := by
        have e' : b = e ∨ b = it := by simpa using hcm
        rcases e' with q | q
        · rw [q]; exact hel
        · rw [q]; obtain ⟨_, e1, _⟩ := Src.obj h1; exact Heap.lt_size e1
      rw [upd_ne (Nat.ne_of_lt hlt)]
      exact (hf b hcm).1
  done := by
    intro X hP hw hK hc i pins s σ H E I hf st hg
    subst hP hw hK
    obtain ⟨⟨old, he⟩, h1⟩ := st
    obtain ⟨xs, hqx, hend⟩ := hg
    have hh : X.A.handled = none := I.ok.hd hc
    obtain ⟨P1, S1, D1, st1, p1, k1⟩ := Src.draws I hh hqx h1 n1
    subst hend
    exact wpAny_pyNext_enum_endD D1 he st1 fun h' hx => ⟨rfl, I.turnedL (t' := s.toks) (ch := [e, it]) (fun b o hb y => hx b o (fun e' => hb (by simp [e'])) y) hf⟩
  self := fun A i s Q E st h => by
    obtain ⟨⟨old, he⟩, _⟩ := st
    exact wpAny_pyIter_enum he h
end Mi

/-! Mi24: for a, b in zip(..), for i, x in enumerate(..); targets of comprehensions. -/
namespace Mi
open PySem PySem.Spec PyProof.Rows L2
def iZip2 (K : PySem.W.Frag) (ta : TA) : TI := fun σ H R => ta σ H fun vs H1 => ∃ c d xs ys, vs = [Src.val c, Src.val d] ∧ Src.at K c H1 xs ∧ Src.at K d H1 ys ∧ R (Itz2 K c d) H1
def iEnum2 (K : PySem.W.Frag) (ta : TA) : TI := fun σ H R => ta σ H fun vs H1 => ∃ c xs, vs = [Src.val c] ∧ Src.at K c H1 xs ∧ R (Ite2 K c) H1
theorem not_low {N : Nat} {l : List Addr} (h : ∀ b ∈ l, b < N) {j : Nat} : (N + j : Nat) ∉ l := fun m => absurd (h _ m) (by
  intro z
  have z' : (N + j : Nat) < N := z
  omega)
theorem pi_zip2 {X : Cx} {e e2 : Expr} {ta : TA} {p pos tpos : Pos} {elts : List Expr} {kk : Nat} (hg : Gl X "zip") (hm : X.mg "zip" = none) (ha : PA X [e, e2] ta)
    (hs : starEach [e, e2] X.env = (false, eval e X.env) :: starEach [e2] X.env := by rfl) (hpl : (backTo pos (starEach [e2] X.env)).any (·.1) = false := by rfl) :
    PI X (.Tuple elts kk tpos) (.Call (.Name "zip" p) [e, e2] [] pos) (iZip2 X.K ta) := by
  refine ⟨fun pins s σ H R I h => ?_⟩
  refine Call_ (ld_blt I hg hm PyProof.Rows.boot_zip (PyProof.Rows.callWith_type1 (thn (ha.run pos pins s σ H _ I h) fun us s1 ⟨vs, H1, I1, r1, q1⟩ => ?_) hs hpl))
  obtain ⟨c, d, xs, ys, ex, hqx, hqy, q⟩ := q1
  subst ex
  cases r1 with
  | @cons _ u _ us r rr =>
    cases rr with
    | @cons _ u2 _ us2 r' rr =>
      cases rr
      obtain ⟨o1, HH1, B1, b1, k1⟩ := Src.begins I1 hqx r
      obtain ⟨o2, HH2, B2, b2, k2⟩ := Src.begins I1 hqy r'
      have low1 := Src.low I1 hqx
      have low2 := Src.low I1 hqy
      refine zip_begins2 B1 B2 b1 b2 fun h' hz hTI hTO h1 h2 hsz hk => wpAny_pyIter_zip hz ?_
      have I2 : Inv X pins σ H1 { s1 with heap := h' } := I1.kept (t' := s1.toks) hk
      refine ⟨s1.heap.objs.size + 4, [s1.heap.objs.size + 4, s1.heap.objs.size + 2, s1.heap.objs.size + 3, s1.heap.objs.size, s1.heap.objs.size + 1], _, _, H1, rfl, I2, turn_zip2 (c := c) (d := d) (zip_sep2 low1 low2) (not_low low1 (j := 0)) (not_low low2 (j := 1)), ⟨hz, hTI, ⟨_, _, hTO⟩, k1 _ _ h1, k2 _ _ h2⟩, fun c hcm => ?_, q⟩
      have e' : c = s1.heap.objs.size + 4 ∨ c = s1.heap.objs.size + 2 ∨ c = s1.heap.objs.size + 3 ∨ c = s1.heap.objs.size ∨ c = s1.heap.objs.size + 1 := by simpa using hcm
      have hle : s1.heap.objs.size ≤ c := by
        rcases e' with z | z | z | z | z
        · rw [z]; exact Nat.le_add_right _ _
        · rw [z]; exact Nat.le_add_right _ _
        · rw [z]; exact Nat.le_add_right _ _
        · rw [z]; exact Nat.le_refl _
        · rw [z]; exact Nat.le_add_right _ _
      exact I1.fpOk hle (I1.hok.fresh hle)
theorem meets_enumerate_newB1 {v : Value} {o : Obj} {H : Heap → Prop} (B : Begins v o H) :
    Meets (Builtin.«enumerate.__new__» ⟨[.type "enumerate", v], []⟩) (fun _ R s => H s.heap ∧
      R (.ok (.ret (.ref (s.heap.push o).objs.size))) { s with heap := (s.heap.push o).push { cls := .type "enumerate", data := .fields #[.none, .bool false, .ref s.heap.objs.size, rawInt 0, .none, .none] } }) :=
  .of_wp fun prog w A R s h => by
    obtain ⟨hp, g, d, tk, os⟩ := s; obtain ⟨h1, h⟩ := h
    have hsub := sub_enumerate
    have q1 : ∀ {A' : Around} {E : Value → Shared → Prop} {Q : Value → Shared → Prop}, Q (.ref hp.objs.size) ⟨hp.push o, g, d, tk, os⟩ → wpAny (model prog w) A' (pyIter v) Q E ⟨hp, g, d, tk, os⟩ :=
      fun q => B.iter prog w _ _ ⟨hp, g, d, tk, os⟩ _ h1 q
    wp_walk using q1
    refine wpAny_stack_any fun st => wpAny_pure ?_
    split
    · rename_i c _ _ _ _ _
      cases (c == Value.type "enumerate")
      · wp_walk using q1
        exact ⟨_, rfl, h⟩
      · wp_walk using q1
        exact ⟨_, rfl, h⟩
    · wp_walk using q1
      exact ⟨_, rfl, h⟩
theorem enum_begins1 {prog : Program} {w : World} {A : Around} {E : Value → Shared → Prop} {s : Shared} {v : Value} {o : Obj} {H : Heap → Prop} {Q : Value → Shared → Prop} (B : Begins v o H) (h1 : H s.heap)
    (h : ∀ h', IsEnum h' (s.heap.objs.size + 1) s.heap.objs.size 0 .none → h'.get? s.heap.objs.size = some o → h'.objs.size = s.heap.objs.size + 2 →
      (∀ b o, s.heap.get? b = some o → h'.get? b = some o) → Q (.ref (s.heap.objs.size + 1)) { s with heap := h' }) :
    wpAny (model prog w) A (call (.type "enumerate") [v]) Q E s := by
  refine callType_new F.called_enumerate (by decide) (F.typeCall_enumerate_1 _) (F.newCall_enumerate_1 _) (fun obj => F.args_object_init_2 obj _) F.entry_enumerate_new
    (meets_enumerate_newB1 B) ⟨h1, ?_⟩
  have hz : (s.heap.push o).objs.size = s.heap.objs.size + 1 := Heap.size_push ..
  show _ ∧ _
  rw [hz]
  have he : IsEnum ((s.heap.push o).push { cls := .type "enumerate", data := .fields #[.none, .bool false, .ref s.heap.objs.size, rawInt 0, .none, .none] }) (s.heap.objs.size + 1) s.heap.objs.size 0 .none := by
    have := Heap.get?_push_size (s.heap.push o) (o := { cls := .type "enumerate", data := .fields #[.none, .bool false, .ref s.heap.objs.size, rawInt 0, .none, .none] }) rfl
    rw [hz] at this
    exact this
  exact ⟨⟨_, he, rfl⟩, h _ he (Heap.get?_push_of_some _ (Heap.get?_push_size _ B.free)) (by rw [Heap.size_push, hz]) fun b o x => Heap.get?_push_of_some _ (Heap.get?_push_of_some _ x)⟩
theorem pi_enum2 {X : Cx} {e : Expr} {ta : TA} {p pos tpos : Pos} {elts : List Expr} {kk : Nat} (hg : Gl X "enumerate") (hm : X.mg "enumerate" = none) (ha : PA X [e] ta) (hs : starEach [e] X.env = [(false, eval e X.env)] := by rfl) :
    PI X (.Tuple elts kk tpos) (.Call (.Name "enumerate" p) [e] [] pos) (iEnum2 X.K ta) := by
  refine ⟨fun pins s σ H R I h => ?_⟩
  refine Call_ (ld_blt I hg hm PyProof.Rows.boot_enumerate (PyProof.Rows.callWith_type1 (thn (ha.run pos pins s σ H _ I h) fun us s1 ⟨vs, H1, I1, r1, q1⟩ => ?_) (by rw [hs]; rfl) (by rfl)))
  obtain ⟨c, xs, ex, hqx, q⟩ := q1
  subst ex
  cases r1 with
  | @cons _ u _ us r rr =>
    cases rr
    obtain ⟨o1, HH1, B1, b1, k1⟩ := Src.begins I1 hqx r
    have low1 := Src.low I1 hqx
    refine enum_begins1 B1 b1 fun h' he hit hsz hk => wpAny_pyIter_enum he ?_
    have I2 : Inv X pins σ H1 { s1 with heap := h' } := I1.kept (t' := s1.toks) hk
    refine ⟨s1.heap.objs.size + 1, [s1.heap.objs.size + 1, s1.heap.objs.size], _, _, H1, rfl, I2, turn_enum2 (c := c) (Nat.succ_ne_self _) (fun m => ?_) (not_low low1 (j := 0)), ⟨⟨.none, he⟩, k1 _ _ hit⟩, fun b hb => ?_, q⟩
    · rcases List.mem_cons.mp m with e | e
      · exact absurd e (Nat.succ_ne_self _)
      · exact not_low low1 (j := 1) e
    have e' : b = s1.heap.objs.size + 1 ∨ b = s1.heap.objs.size := by simpa using hb
    have hle : s1.heap.objs.size ≤ b := by
      rcases e' with z | z
      · rw [z]; exact Nat.le_add_right _ _
      · rw [z]; exact Nat.le_refl _
    exact I1.fpOk hle (I1.hok.fresh hle)

/-! ### by trees -/
/-- what zip and enumerate walk here: no dict -/
def seqOf (d : D) : Option (List D) := match d with
  | .lst xs => some xs
  | .tup xs => some xs
  | .str x => some (strItems x)
  | _ => none
def zipD (ds : List D) : Option (List D) := match ds with
  | [x, y] => match seqOf x, seqOf y with
    | some xs, some ys => some ((xs.zip ys).map fun p => .tup [p.1, p.2])
    | _, _ => none
  | _ => none
def enumL (xs : List D) : List D := xs.zipIdx.map fun p => .tup [.int (p.2 : Int), p.1]
def enumD (ds : List D) : Option (List D) := match ds with
  | [x] => match seqOf x with
    | some xs => some (enumL xs)
    | none => none
  | _ => none
section
variable {C : Ct} {H : Hp} {P : Addr → Prop} {β : List Addr}
theorem src_of {v : V} {d : D} {ds : List D} (r : RV C H P β v d) (e : seqOf d = some ds) : ∃ c : Src, v = c.val ∧ ∀ H2 P2 β2, Fx H P β H2 P2 β2 → ∃ xs, Src.at C.K c H2 xs ∧ RVs C H2 P2 β2 xs ds := by
  cases r with
  | @lst a xs _ hp hb hr rs =>
    cases e
    exact ⟨.lst a, rfl, fun H2 P2 β2 f => ⟨xs, .inl (f.con _ _ hp hb hr).1, rs.fx f⟩⟩
  | @klst a xs _ k rs =>
    cases e
    exact ⟨.lst a, rfl, fun H2 P2 β2 f => ⟨xs, .inr k, rs.fx f⟩⟩
  | @tup a xs _ hr rs =>
    cases e
    exact ⟨.tup a, rfl, fun H2 P2 β2 f => ⟨xs, .inl (f.tups _ _ hr), rs.fx f⟩⟩
  | @ktup a xs _ k rs =>
    cases e
    exact ⟨.tup a, rfl, fun H2 P2 β2 f => ⟨xs, .inr k, rs.fx f⟩⟩
  | str z =>
    cases e
    refine ⟨.txt z, rfl, fun H2 P2 β2 f => ⟨_, rfl, ?_⟩⟩
    unfold strItems
    induction z.cps.toList with
    | nil => exact .nil
    | cons c l ih => exact .cons (.str _) ih
  | non => cases e
  | bl b => cases e
  | int i => cases e
  | ty n => cases e
  | dct _ _ _ _ => cases e
  | ref _ => cases e
  | fn _ _ => cases e
theorem it_zip {v v2 : V} {d d2 : D} {ds ds2 : List D} {c c2 : Src} (h1 : ∀ H2 P2 β2, Fx H P β H2 P2 β2 → ∃ xs, Src.at C.K c H2 xs ∧ RVs C H2 P2 β2 xs ds) (h2 : ∀ H2 P2 β2, Fx H P β H2 P2 β2 → ∃ xs, Src.at C.K c2 H2 xs ∧ RVs C H2 P2 β2 xs ds2) :
    ItM C (Itz2 C.K c c2) ((ds.zip ds2).map fun p => .tup [p.1, p.2]) H P β := by
  intro i H2 P2 β2 f n
  obtain ⟨xs, a1, r1⟩ := h1 H2 P2 β2 f
  obtain ⟨ys, a2, r2⟩ := h2 H2 P2 β2 f
  refine ⟨fun d hd => ?_, fun hl => ⟨xs, ys, a1, a2, ?_⟩⟩
  · rw [List.getElem?_map] at hd
    cases ez : (ds.zip ds2)[i]? with
    | none => rw [ez] at hd; cases hd
    | some p =>
      rw [ez] at hd
      cases hd
      obtain ⟨e1, e2⟩ := List.getElem?_zip_eq_some.mp ez
      obtain ⟨x, hx, rx⟩ := r1.get e1
      obtain ⟨y, hy, ry⟩ := r2.get e2
      refine ⟨⟨xs, ys, x, y, a1, a2, hx, hy⟩, fun u H3 yy => ?_⟩
      obtain ⟨T, x', y', rfl, hT, rfl, q1, q2⟩ := yy
      have e3 := q1 xs a1
      have e4 := q2 ys a2
      rw [hx] at e3; cases e3
      rw [hy] at e4; cases e4
      have sm : Same H2 (upd H2 T (.tup [x, y])) := same_laid hT
      exact ⟨sm, .tup (.inl upd_same) (.cons (rx.mono (Ext.same sm)) (.cons (ry.mono (Ext.same sm)) .nil))⟩
  · rw [r1.length, r2.length, ← hl]
    simp
theorem it_enum {ds : List D} {c : Src} (h1 : ∀ H2 P2 β2, Fx H P β H2 P2 β2 → ∃ xs, Src.at C.K c H2 xs ∧ RVs C H2 P2 β2 xs ds) : ItM C (Ite2 C.K c) (enumL ds) H P β := by
  intro i H2 P2 β2 f n
  obtain ⟨xs, a1, r1⟩ := h1 H2 P2 β2 f
  unfold enumL
  refine ⟨fun d hd => ?_, fun hl => ⟨xs, a1, ?_⟩⟩
  · rw [List.getElem?_map, List.getElem?_zipIdx] at hd
    cases ez : ds[i]? with
    | none => rw [ez] at hd; cases hd
    | some p =>
      rw [ez] at hd
      simp only [Option.map_some, Nat.zero_add, Option.some.injEq] at hd
      subst hd
      obtain ⟨x, hx, rx⟩ := r1.get ez
      refine ⟨⟨xs, x, a1, hx⟩, fun u H3 yy => ?_⟩
      obtain ⟨T, x', rfl, hT, rfl, q1⟩ := yy
      have e3 := q1 xs a1
      rw [hx] at e3; cases e3
      have sm : Same H2 (upd H2 T (.tup [.int (i : Int), x])) := same_laid hT
      exact ⟨sm, .tup (.inl upd_same) (.cons (.int _) (.cons (rx.mono (Ext.same sm)) .nil))⟩
  · rw [r1.length, ← hl]
    simp
end
section
variable {X : Cx} {W : WX} {b : Bool}
theorem pim_zip2 {e e2 : Expr} {mas : AX} {p pos tpos : Pos} {elts : List Expr} {kk : Nat} (hm : X.mg "zip" = none) (ha : PAM (ctOf X) W b X [e, e2] mas) (hg : Gl X "zip" := by rfl)
    (hs : starEach [e, e2] X.env = (false, eval e X.env) :: starEach [e2] X.env := by rfl) (hpl : (backTo pos (starEach [e2] X.env)).any (·.1) = false := by rfl) :
    PIM (ctOf X) W b X (.Tuple elts kk tpos) (.Call (.Name "zip" p) [e, e2] [] pos) (iFun zipD mas) :=
  PI_imp (pi_zip2 hg hm ha hs hpl) fun σ H Q h => by
    obtain ⟨cf, oa, P, β, ρ, S, L, h⟩ := h
    refine ⟨cf, oa, P, β, ρ, S, L, ?_⟩
    unfold iFun at h
    cases ea : mas ρ S with
    | stuck => rw [ea] at h; exact h
    | exc e S1 => rw [ea] at h; exact h
    | ok ds S1 =>
      rw [ea] at h
      simp only [R.bind] at h
      intro vs H1 β1 t L1 rs
      cases ez : zipD ds with
      | none => rw [ez] at h; exact h.elim
      | some zs =>
        rw [ez] at h
        unfold zipD at ez
        split at ez
        · rename_i x y
          obtain ⟨v, v2, rfl, r1, r2⟩ := rvs2 rs
          split at ez
          · rename_i xs ys e1 e2
            cases ez
            obtain ⟨c, rfl, k1⟩ := src_of r1 e1
            obtain ⟨c2, rfl, k2⟩ := src_of r2 e2
            obtain ⟨us, a1, _⟩ := k1 H1 P β1 Fx.refl
            obtain ⟨us2, a2, _⟩ := k2 H1 P β1 Fx.refl
            exact ⟨c, c2, us, us2, rfl, a1, a2, h _ H1 β1 t L1 (it_zip (v := c.val) (v2 := c2.val) (d := x) (d2 := y) k1 k2)⟩
          · cases ez
        · cases ez
theorem pim_enum2 {e : Expr} {mas : AX} {p pos tpos : Pos} {elts : List Expr} {kk : Nat} (hm : X.mg "enumerate" = none) (ha : PAM (ctOf X) W b X [e] mas) (hg : Gl X "enumerate" := by rfl)
    (hs : starEach [e] X.env = [(false, eval e X.env)] := by rfl) :
    PIM (ctOf X) W b X (.Tuple elts kk tpos) (.Call (.Name "enumerate" p) [e] [] pos) (iFun enumD mas) :=
  PI_imp (pi_enum2 hg hm ha hs) fun σ H Q h => by
    obtain ⟨cf, oa, P, β, ρ, S, L, h⟩ := h
    refine ⟨cf, oa, P, β, ρ, S, L, ?_⟩
    unfold iFun at h
    cases ea : mas ρ S with
    | stuck => rw [ea] at h; exact h
    | exc e S1 => rw [ea] at h; exact h
    | ok ds S1 =>
      rw [ea] at h
      simp only [R.bind] at h
      intro vs H1 β1 t L1 rs
      cases ez : enumD ds with
      | none => rw [ez] at h; exact h.elim
      | some zs =>
        rw [ez] at h
        unfold enumD at ez
        split at ez
        · rename_i x
          obtain ⟨v, rfl, r1⟩ := rvs1 rs
          split at ez
          · rename_i xs e1
            cases ez
            obtain ⟨c, rfl, k1⟩ := src_of r1 e1
            obtain ⟨us, a1, _⟩ := k1 H1 P β1 Fx.refl
            exact ⟨c, us, rfl, a1, h _ H1 β1 t L1 (it_enum k1)⟩
          · cases ez
        · cases ez
end
/-! ### targets of a comprehension -/
def NoOwn (vs : List Nat) (ρ : Rho) : Prop := ∀ i ∈ vs, ∀ d, ρ[i]? ≠ some (Sl.ow d)
def BT (X : Cx) (vs : List Nat) (g : GX) (t : TG) : Prop :=
  ∀ (cf : Cf) (oa : Nat → Option Addr) (P : Addr → Prop) (σ : L2.St) (H : Hp) (β : List Addr) (ρ : Rho) (S : Store) (v : V) (d : D) (p : Rho × Store) (Q : L2.St → Hp → Prop), LR (ctOf X) cf oa P σ H β ρ S → NoOwn vs ρ → RV (ctOf X) H P β v d → g d ρ S = some p →
    (∀ σ', L2.wipe σ' vs = L2.wipe σ vs → LR (ctOf X) cf oa P σ' H β p.1 p.2 → NoOwn vs p.1 → p.2 = S → Q σ' H) → t v σ H Q
def BTs (X : Cx) (vs : List Nat) (g : GXs) (t : TGs) : Prop :=
  ∀ (cf : Cf) (oa : Nat → Option Addr) (P : Addr → Prop) (σ : L2.St) (H : Hp) (β : List Addr) (ρ : Rho) (S : Store) (us : List V) (ds : List D) (p : Rho × Store) (Q : L2.St → Hp → Prop), LR (ctOf X) cf oa P σ H β ρ S → NoOwn vs ρ → RVs (ctOf X) H P β us ds → g ds ρ S = some p →
    (∀ σ', L2.wipe σ' vs = L2.wipe σ vs → LR (ctOf X) cf oa P σ' H β p.1 p.2 → NoOwn vs p.1 → p.2 = S → Q σ' H) → t us σ H Q
section
variable {X : Cx} {vs : List Nat} {g : GX} {t : TG} {gs : GXs} {ts : TGs}
theorem bt_name {i : Nat} (m : i ∈ vs) : BT X vs (gSet i) (gName i) := by
  intro cf oa P σ H β ρ S v d p Q L no r e k
  cases e
  have L2 := L.set (i := i) r
  refine k _ (wipe_set_in m) ?_ (fun j hj x h => ?_) rfl
  · refine ⟨L2.len, L2.p, L2.sub, L2.p0, L2.ext, L.own, L.inj, L2.st, L2.slot, fun j x h => ?_, L2.xslot⟩
    obtain ⟨a, q0, q1, q2⟩ := L2.oslot j x h
    refine ⟨a, ?_, q1, q2⟩
    by_cases ej : j = i
    · rw [if_pos ej] at q0; cases q0
    · rw [if_neg ej] at q0; exact q0
  · by_cases ej : i = j
    · subst ej
      rw [List.getElem?_set_self'] at h
      cases e : ρ[i]? with
      | none => rw [e] at h; cases h
      | some y => rw [e] at h; cases h
    · rw [List.getElem?_set_ne ej] at h
      exact no j hj x h
theorem bts_nil : BTs X vs gsNil gNil := by
  intro cf oa P σ H β ρ S us ds p Q L no r e k
  cases r with
  | nil => cases e; exact ⟨rfl, k σ rfl L no rfl⟩
  | cons _ _ => cases e
theorem bts_cons (h1 : BT X vs g t) (h2 : BTs X vs gs ts) : BTs X vs (gsCons g gs) (gCons t ts) := by
  intro cf oa P σ H β ρ S us ds p Q L no r e k
  cases r with
  | nil => cases e
  | @cons v us d ds r rs =>
    refine ⟨v, us, rfl, ?_⟩
    simp only [gsCons] at e
    cases eg : g d ρ S with
    | none => rw [eg] at e; cases e
    | some q =>
      rw [eg] at e
      simp only [Option.bind] at e
      refine h1 cf oa P σ H β ρ S v d q _ L no r eg fun σ1 w1 L1 n1 s1 => ?_
      exact h2 cf oa P σ1 H β q.1 q.2 us ds p Q L1 n1 rs e fun σ2 w2 L2 n2 s2 => k σ2 (w2.trans w1) L2 n2 (s2.trans s1)
theorem bt_tup {n : Nat} (h : BTs X vs gs ts) (hgs : ∀ ds ρ S, ds.length ≠ n → gs ds ρ S = none) : BT X vs (gUnp gs) (gTup X.K n ts) := by
  intro cf oa P σ H β ρ S v d p Q L no r e k
  unfold gUnp at e
  cases ev : viewT d with
  | none => rw [ev] at e; cases e
  | some ds =>
    rw [ev] at e
    simp only [Option.bind] at e
    obtain ⟨a, xs, rfl, q1, q2⟩ := r.viewT ev
    refine ⟨a, xs, rfl, q1, ?_, h cf oa P σ H β ρ S xs ds p Q L no q2 e k⟩
    by_cases hl : ds.length = n
    · rw [q2.length]; exact hl
    · rw [hgs ds ρ S hl] at e; cases e
theorem bg_of (h : BT X vs g t) : BG X vs g t := by
  intro cf oa P σ H β ρ S v d p Q L r e k
  refine h cf oa P _ H β _ S v d p Q L (fun i hi x e => ?_) r e fun σ' w' L' _ s' => k σ' (by rw [w', wipe_wipe fun _ h => h]) L' s'
  by_cases hl : i < ρ.length
  · rw [wipeR_in hi hl] at e; cases e
  · rw [List.getElem?_eq_none (by rw [wipeR_length]; omega)] at e; cases e
end
end Mi

/-! Mi25: statements that are never reached; list * int; max, min, sum of a list; defs with a star. -/
namespace Mi
open StX (vals_split run_bnd env0_laid un_laid cxUp)
open PySem PySem.Spec PyProof.Rows L2
section
variable {X : Cx} {W : WX} {b : Bool} {pos : Pos}
def sStuck : SX := fun _ _ => .stuck
def mStuck : EX := fun _ _ => .stuck
def bStuck : BX := fun _ _ => .stuck
def aStuck : AX := fun _ _ => .stuck
theorem ps_stuckM {st : Stmt} : PSM (ctOf X) W X st sStuck := ⟨fun _ _ _ _ _ _ h => by obtain ⟨cf, oa, P, β, ρ, S, L, h⟩ := h; exact h.elim⟩
theorem pm_stuck {e : Expr} : PM (ctOf X) W b X e mStuck := ⟨fun _ _ _ _ _ _ h => by obtain ⟨cf, oa, P, β, ρ, S, L, h⟩ := h; exact h.elim⟩
theorem pb_stuck {e : Expr} : PB (ctOf X) W b X e bStuck := ⟨fun _ _ _ _ _ _ h => by obtain ⟨cf, oa, P, β, ρ, S, L, h⟩ := h; exact h.elim⟩
/-! ### list * int -/
theorem list_mulW (l : Addr) (items : Array Value) (n : Nat) (dd : Option Addr) (sl : Array (Option Value)) (x : Int) (u : Tok) (hc0 : ¬(!Builtin.List.listFitsIndex x) = true) (hc1 : ¬items.size * x.toNat > (2 ^ 63 - 1) / 8) (hc2 : ¬Builtin.List.listTooLong (items.size * x.toNat) = true) :
    Meets (Builtin.«list.__mul__» ⟨[.ref l, .int x u], []⟩) (fun _ R s => s.heap.get? l = some { cls := .type "list", dict := dd, data := .seq items n, slots := sl } ∧ R (.ok (.ret (Value.ref s.heap.objs.size))) { s with heap := s.heap.push { cls := Value.type "list", data := .seq (List.foldl (fun x1 x2 => x1 ++ x2) #[] (List.replicate (if items.isEmpty = true then 0 else x.toNat) items)) } }) :=
  .of_wp fun prog w A R s h => by
    obtain ⟨hp, g, d, tk, os⟩ := s; obtain ⟨hl, h⟩ := h
    have hsz := AutoListH.joined_fits hc2
    wp_walk; refine wpAny_ite_false (decide_eq_false (Nat.not_lt.mpr hsz)) ?_; wp_walk; exact ⟨_, rfl, h⟩
theorem int_rmulW (a : Int) (t : Tok) (l : Addr) (items : Array Value) (n : Nat) (dd : Option Addr) (sl : Array (Option Value)) :
    Meets (Builtin.«int.__rmul__» ⟨[.int a t, .ref l], []⟩) (fun _ R s => s.heap.get? l = some { cls := .type "list", dict := dd, data := .seq items n, slots := sl } ∧ R (.ok (.ret Value.notImplemented)) s) :=
  .of_wp fun prog w A R s h => by obtain ⟨hp, g, d, tk, os⟩ := s; obtain ⟨hl, h⟩ := h; wp_walk; exact ⟨_, rfl, h⟩
def rRepS (K : PySem.W.Frag) : R2 := fun x y H Q => ∃ l k xs, x = .ref l ∧ y = .int k ∧ SqL K H l xs ∧ -(2 ^ 63) ≤ k ∧ k < 2 ^ 63 ∧ xs.length * k.toNat ≤ sizeLine ∧
  ∀ p, H p = none → Q (.ref p) (upd H p (.lst (List.replicate k.toNat xs).flatten))
theorem op_repS : OpR X (binaryOp .Mult) (rRepS X.K) := by
  intro pins s σ H x y v u Q I rx ry h
  obtain ⟨l, k, xs, rfl, rfl, hH, h1, h2, hz, q⟩ := h
  cases rx
  obtain ⟨t, rfl⟩ := ry
  obtain ⟨its, r, ⟨o1, n, e, c1, _, d1⟩, hl0⟩ := I.list hH
  obtain ⟨cl1, dd1, da1, sl1⟩ := o1
  simp only at c1 d1
  subst c1 d1
  have hl := r.length
  have hlen : its.toArray.size * k.toNat ≤ sizeLine := by rw [List.size_toArray, ← hl]; exact hz
  have hcap : ¬ its.toArray.size * k.toNat > (2 ^ 63 - 1) / 8 := by
    have : (sizeLine : Nat) ≤ (2 ^ 63 - 1) / 8 := by decide
    omega
  have hfit : ¬ (!Builtin.List.listFitsIndex k) = true := by
    rw [fitsIndex_both h1 h2]
    exact Bool.false_ne_true
  have hlong : ¬ Builtin.List.listTooLong (its.toArray.size * k.toNat) = true := by
    rw [notLongL hlen]
    exact Bool.false_ne_true
  have hnew : List.foldl (fun x1 x2 => x1 ++ x2) #[] (List.replicate (if its.toArray.isEmpty = true then 0 else k.toNat) its.toArray) = (List.replicate k.toNat its).flatten.toArray := by
    have f0 : ∀ m : Nat, List.foldl (fun x1 x2 => x1 ++ x2) #[] (List.replicate m its.toArray) = (List.replicate m its).flatten.toArray := fun m => by
      have := foldl_rep its m []
      rw [List.nil_append] at this
      exact this
    rw [f0]
    cases its with
    | nil => simp
    | cons a r' => rw [if_neg (by simp)]
  refine wpAny_binaryOp_repeat_ref (T := "list") (U := "int") (by decide) ⟨_, e, rfl⟩ (fun s' => typeIs_int s' k t) noFill_list_mul F.fills_int_mul F.slot_int_rmul repeat_list F.slot_int_index.lookup
    (call_meets F.slot_int_rmul (typeIs_int s k t) F.entry_int_rmul (F.args_int_rmul_2 _ _) (int_rmulW k t l its.toArray n dd1 sl1)
      ⟨e, rfl, ⟨_, e, rfl⟩, call_meets F.slot_list_mul ⟨_, e, rfl⟩ F.entry_list_mul (F.args_list_mul_2 _ _) (list_mulW l its.toArray n dd1 sl1 k t hfit hcap hlong) ⟨e, ?_⟩⟩)
  rw [hnew]
  exact ⟨.ref _, _, I.lnew (t' := s.toks) (r.rep k.toNat) (by rw [PyProof.Rows.lm_len_rep_flat, Nat.mul_comm]; exact hz), rfl, q _ I.fresh⟩
theorem rvs_rep {C : Ct} {H : Hp} {P : Addr → Prop} {β : List Addr} {vs : List V} {ds : List D} (r : RVs C H P β vs ds) : ∀ n : Nat, RVs C H P β (List.replicate n vs).flatten (List.replicate n ds).flatten
  | 0 => .nil
  | n + 1 => by
    rw [List.replicate_succ, List.replicate_succ, List.flatten_cons, List.flatten_cons]
    exact r.append (rvs_rep r n)
def dRep (S : Store) (x y : D) : Option D := match y with
  | .int k => match viewL S x with
    | some xs => if -(2 ^ 63) ≤ k ∧ k < 2 ^ 63 ∧ xs.length * k.toNat ≤ sizeLine then some (.lst (List.replicate k.toNat xs).flatten) else none
    | none => none
  | _ => none
theorem rep_n : OpN X (rRepS X.K) dRep := by
  intro Z H β S x y dx dy dz Q A rx ry e k
  unfold dRep at e
  split at e
  · rename_i n
    split at e
    · rename_i xs e1
      split at e
      · rename_i hz
        cases e
        obtain ⟨a, us, rfl, q1, r1⟩ := rx.viewL A.st e1
        cases ry
        refine ⟨a, n, us, rfl, rfl, q1, hz.1, hz.2.1, by rw [r1.length]; exact hz.2.2, fun p hp => ?_⟩
        exact k p _ (same_laid hp) hp (cat_own A hp (rvs_rep r1 n.toNat))
      · cases e
    · cases e
  · cases e
theorem rep_isL (S : Store) (x y d : D) (h : dRep S x y = some d) : isL d := by
  unfold dRep at h
  split at h
  · split at h
    · split at h
      · cases h; exact ⟨_, rfl⟩
      · cases h
    · cases h
  · cases h
theorem rep_m : OpM X (rRepS X.K) dRep := OpM.of_new rep_n rep_isL
/-! ### max, min, sum -/
def allI : List D → Option (List Int)
  | [] => some []
  | .int i :: r => match allI r with
    | some l => some (i :: l)
    | none => none
  | _ :: _ => none
def intsL (S : Store) (ds : List D) : Option (List Int) := match ds with
  | [d] => match viewL S d with
    | some xs => allI xs
    | none => none
  | _ => none
def maxI : List Int → Option Int
  | [] => none
  | n :: ns => some (ns.foldl max n)
def minI : List Int → Option Int
  | [] => none
  | n :: ns => some (ns.foldl min n)
def fMaxL (S : Store) (ds : List D) : Option D := ((intsL S ds).bind maxI).map D.int
def fMinL (S : Store) (ds : List D) : Option D := ((intsL S ds).bind minI).map D.int
def fSumL (S : Store) (ds : List D) : Option D := (intsL S ds).map fun l => .int l.sum
theorem allI_rvs {C : Ct} {H : Hp} {Z : Addr → Prop} {β : List Addr} : ∀ {xs : List V} {ds : List D} {bs : List Int}, RVs C H Z β xs ds → allI ds = some bs → xs = bs.map V.int
  | _, [], _, r, e => by cases r; cases e; rfl
  | _, .int b :: ds, _, r, e => by
    simp only [allI] at e
    split at e
    · rename_i l e1
      cases e
      cases r with
      | cons r0 r1 =>
        cases r0
        rw [allI_rvs r1 e1]
        rfl
    · cases e
  | _, .non :: _, _, _, e => by cases e
  | _, .bl _ :: _, _, _, e => by cases e
  | _, .str _ :: _, _, _, e => by cases e
  | _, .tup _ :: _, _, _, e => by cases e
  | _, .lst _ :: _, _, _, e => by cases e
  | _, .dct _ :: _, _, _, e => by cases e
  | _, .ref _ :: _, _, _, e => by cases e
  | _, .ty _ :: _, _, _, e => by cases e
  | _, .fn _ :: _, _, _, e => by cases e
theorem ints_of {Z : Addr → Prop} {H : Hp} {β : List Addr} {S : Store} {xs : List V} {ds : List D} {bs : List Int} (A : At (ctOf X) H Z β S) (r : RVs (ctOf X) H Z β xs ds) (e : intsL S ds = some bs) : ∃ a, xs = [V.ref a] ∧ SqL X.K H a (bs.map V.int) := by
  unfold intsL at e
  split at e
  · split at e
    · rename_i ys e1
      obtain ⟨x, rfl, r1⟩ := rvs1 r
      obtain ⟨a, us, rfl, q1, r2⟩ := r1.viewL A.st e1
      refine ⟨a, rfl, ?_⟩
      rw [← allI_rvs r2 e]
      exact q1
    · cases e
  · cases e
theorem maxI_le : ∀ (ns : List Int) (n : Int), (ns.foldl max n = n ∨ ns.foldl max n ∈ ns) ∧ n ≤ ns.foldl max n ∧ ∀ a ∈ ns, a ≤ ns.foldl max n
  | [], n => ⟨.inl rfl, Int.le_refl _, nofun⟩
  | m :: ns, n => by
    obtain ⟨h1, h2, h3⟩ := maxI_le ns (max n m)
    simp only [List.foldl_cons]
    refine ⟨?_, by omega, fun a ha => ?_⟩
    · rcases h1 with h | h
      · rw [h]
        by_cases q : n ≤ m
        · right; rw [show max n m = m by omega]; exact List.mem_cons_self
        · left; omega
      · exact .inr (List.mem_cons_of_mem _ h)
    · rcases List.mem_cons.mp ha with rfl | ha
      · omega
      · exact h3 a ha
theorem minI_le : ∀ (ns : List Int) (n : Int), (ns.foldl min n = n ∨ ns.foldl min n ∈ ns) ∧ ns.foldl min n ≤ n ∧ ∀ a ∈ ns, ns.foldl min n ≤ a
  | [], n => ⟨.inl rfl, Int.le_refl _, nofun⟩
  | m :: ns, n => by
    obtain ⟨h1, h2, h3⟩ := minI_le ns (min n m)
    simp only [List.foldl_cons]
    refine ⟨?_, by omega, fun a ha => ?_⟩
    · rcases h1 with h | h
      · rw [h]
        by_cases q : n ≤ m
        · left; omega
        · right; rw [show min n m = m by omega]; exact List.mem_cons_self
      · exact .inr (List.mem_cons_of_mem _ h)
    · rcases List.mem_cons.mp ha with rfl | ha
      · omega
      · exact h3 a ha
theorem maxI_eq {ns : List Int} {z m : Int} (e : maxI ns = some z) (h1 : m ∈ ns) (h2 : ∀ y ∈ ns, y ≤ m) : m = z := by
  cases ns with
  | nil => cases e
  | cons n ns =>
    cases e
    obtain ⟨a, b, c⟩ := maxI_le ns n
    have : ns.foldl max n ≤ m := h2 _ (by rcases a with a | a; · rw [a]; exact List.mem_cons_self
                                          · exact List.mem_cons_of_mem _ a)
    rcases List.mem_cons.mp h1 with rfl | h
    · omega
    · have := c m h; omega
theorem minI_eq {ns : List Int} {z m : Int} (e : minI ns = some z) (h1 : m ∈ ns) (h2 : ∀ y ∈ ns, m ≤ y) : m = z := by
  cases ns with
  | nil => cases e
  | cons n ns =>
    cases e
    obtain ⟨a, b, c⟩ := minI_le ns n
    have : m ≤ ns.foldl min n := h2 _ (by rcases a with a | a; · rw [a]; exact List.mem_cons_self
                                          · exact List.mem_cons_of_mem _ a)
    rcases List.mem_cons.mp h1 with rfl | h
    · omega
    · have := c m h; omega
theorem maxL_m : FnM X (rMax X.K) fMaxL := by
  intro Z H β S xs ds dz Q A r e k
  unfold fMaxL at e
  cases e1 : intsL S ds with
  | none => rw [e1] at e; cases e
  | some ns =>
    rw [e1] at e
    simp only [Option.bind_some] at e
    cases e2 : maxI ns with
    | none => rw [e2] at e; cases e
    | some z =>
      rw [e2] at e
      cases e
      obtain ⟨a, rfl, q⟩ := ints_of A r e1
      refine ⟨a, ns, rfl, q, by cases ns; · cases e2
                                · simp, fun m h1 h2 => ?_⟩
      rw [maxI_eq e2 h1 h2]
      exact k _ H (Same.refl _) (.int _)
theorem minL_m : FnM X (rMin X.K) fMinL := by
  intro Z H β S xs ds dz Q A r e k
  unfold fMinL at e
  cases e1 : intsL S ds with
  | none => rw [e1] at e; cases e
  | some ns =>
    rw [e1] at e
    simp only [Option.bind_some] at e
    cases e2 : minI ns with
    | none => rw [e2] at e; cases e
    | some z =>
      rw [e2] at e
      cases e
      obtain ⟨a, rfl, q⟩ := ints_of A r e1
      refine ⟨a, ns, rfl, q, by cases ns; · cases e2
                                · simp, fun m h1 h2 => ?_⟩
      rw [minI_eq e2 h1 h2]
      exact k _ H (Same.refl _) (.int _)
theorem sumL_m : FnM X (rSum X.K) fSumL := by
  intro Z H β S xs ds dz Q A r e k
  unfold fSumL at e
  cases e1 : intsL S ds with
  | none => rw [e1] at e; cases e
  | some ns =>
    rw [e1] at e
    cases e
    obtain ⟨a, rfl, q⟩ := ints_of A r e1
    exact ⟨a, ns, rfl, q, k _ H (Same.refl _) (.int _)⟩
end
/-! ### a def with a star parameter behind n others -/
def starF (n : Nat) (f : FX) : FX := fun ds S => if n ≤ ds.length ∧ ds.length ≤ sizeLine then f (ds.take n ++ [.tup (ds.drop n)]) S else .stuck
structure FnV (P : Program) (w : World) (K : PySem.W.Frag) (mg : Str → Option Value) (base : Heap) (k : Nat) (f : Addr) (sp : Sp) : Prop where
  run : ∀ (A : Around) (outer : List Env) (s : Shared) (H : Hp) (us : List Value) (vs : List V) (Q : VK) (E : XK), A.guards = some [] → Room k A → Env0 P w K mg base A outer s H →
    Vals vs us → sp vs H Q E → codeAny (model P w) A (.call (.ref f) ⟨us, []⟩) (CR (L2.CX P w) outer P w H s Q E) s
def spV (C : Ct) (f : FX) : Sp := fun vs H Q E => ∃ P β ds S, SRel C H P β S ∧ (∀ a, P a → H a ≠ none ∧ a ∉ β) ∧ RVs C H P β vs ds ∧ (match f ds S with
  | .ok d S' => ∀ v H' β', Ext H β H' β' → SRel C H' P β' S' → RV C H' P β' v d → Q v H'
  | .exc e S' => ∀ cls x H' β', Ext H β H' β' → SRel C H' P β' S' → ExnAt C H' P β' cls x e → E cls x H'
  | .stuck => False)
structure DefOkV (P : Program) (w : World) (K : PySem.W.Frag) (mg : Str → Option Value) (base : Heap) (k : Nat) (x : Str) (st : Stmt) (f : FX) : Prop where
  ex : ∃ (fa : Addr) (y qual : Str) (fd : FuncData), Fun K y qual st fa fd ∧ mg x = some (.ref fa) ∧ FnV P w K mg base k fa (spV ⟨K, mg, w, []⟩ f)
theorem fnv_ok {P : Program} {w : World} {K : PySem.W.Frag} {mg : Str → Option Value} {base : Heap} {x qual pv : Str} {st : Stmt} {f : Addr} {fd : FuncData} {N ps : List Str} {k : Nat} {m : SX} (F : Fun K x qual st f fd) (S : FnScope N (ps ++ [pv]) (defScope st))
    (hb : ∀ (x qual : Str) (kV doc pm : Value) (an : Option Addr) (cdv ct : Value) (us rest : List Value), us.length = ps.length → bindArgs (PySem.W.fnOf x qual (defArgs st) (defBody st) (defScope st) .none kV doc pm an cdv ct) ⟨us ++ rest, []⟩ = (newTuple rest >>= fun t => pure (ps.zip us ++ [(pv, t)])))
    (hbody : ∀ (cdv : Value) (A : Around) (outer : List Env) (s : Shared) (H : Hp) (E : XK), (XOf P w K mg base N qual st f cdv A outer s H E).A.guards = some [] → Room k (XOf P w K mg base N qual st f cdv A outer s H E).A →
      PSSM ⟨K, mg, w, []⟩ (fun cls d _ H' => E cls d H') (XOf P w K mg base N qual st f cdv A outer s H E) (defBody st) m) : FnV P w K mg base (k + 1) f (spV ⟨K, mg, w, []⟩ (starF ps.length (mDef N.length m))) := by
  obtain ⟨oc, od, kV, doc, pm, an, cdv, ct, osl, rfl, lk, hcd⟩ := F.ex
  constructor
  intro A outer s H us vs Q E hg hr e0 r hsp
  obtain ⟨Pf, β, ds, St, st', hp, rs, q⟩ := hsp
  unfold starF at q
  have hz : ps.length ≤ ds.length ∧ ds.length ≤ sizeLine := by
    by_cases hz : ps.length ≤ ds.length ∧ ds.length ≤ sizeLine
    · exact hz
    · rw [if_neg hz] at q; exact q.elim
  rw [if_pos hz] at q
  have hvl : vs.length = ds.length := rs.length
  have hul : us.length = ds.length := by rw [← r.length]; exact hvl
  have rw1 : Vals (vs.take ps.length) (us.take ps.length) ∧ Vals (vs.drop ps.length) (us.drop ps.length) := by
    obtain ⟨u1, u2, e, r1, r2⟩ := vals_split (ws := vs.take ps.length) (rest := vs.drop ps.length) (by rw [List.take_append_drop]; exact r)
    have l1 : u1.length = ps.length := by rw [← r1.length, List.length_take]; omega
    subst e
    rw [List.take_left' l1, List.drop_left' l1]
    exact ⟨r1, r2⟩
  obtain ⟨r1, r2⟩ := rw1
  have hn : H s.heap.objs.size = Option.none := e0.hok.fresh (Nat.le_refl _)
  have hl1 : (us.take ps.length).length = ps.length := by rw [List.length_take]; omega
  have hl2 : (us.drop ps.length).length ≤ sizeLine := by rw [List.length_drop]; omega
  have hzr : (vs.drop ps.length).length ≤ sizeLine := by rw [List.length_drop]; omega
  rw [show us = us.take ps.length ++ us.drop ps.length from (List.take_append_drop _ _).symm]
  refine run_bnd lk hcd S hr e0 (G := fun xs H2 => ∃ p, H p = Option.none ∧ xs = vs.take ps.length ++ [V.ref p] ∧ H2 = upd H p (.tup (vs.drop ps.length))) (fun A' Ex Q' h => ?_) fun s2 H2 xs ⟨p, hp', ex, eH⟩ hr' => ?_
  · rw [hb _ _ _ _ _ _ _ _ _ _ hl1]
    refine wpAny_bind (wpAny_newTuple (wpAny_pure ?_) hl2)
    have new : ObjOk P w (upd H s.heap.objs.size (.tup (vs.drop ps.length))) (s.heap.push ({ cls := .type "tuple", data := .seq (us.drop ps.length).toArray } : Obj)) s.heap.objs.size (.tup (vs.drop ps.length)) := ⟨hzr, us.drop ps.length, r2, ⟨_, Heap.get?_push_size _ rfl, rfl, _, rfl⟩⟩
    have un := un_laid (fs := frs outer) (s := s) (o := ({ cls := .type "tuple", data := .seq (us.drop ps.length).toArray } : Obj)) (u := .tup (vs.drop ps.length)) hn
    have z := h _ _ (vs.take ps.length ++ [V.ref s.heap.objs.size]) (us.take ps.length ++ [Value.ref s.heap.objs.size]) (env0_laid e0 new) un rfl (fun e s' => cxUp outer s H _ _ E e s' un (fun b o q => Heap.get?_push_of_some _ q) rfl) (r1.append (.cons rfl .nil))
      (by rw [List.length_append, List.length_append, List.length_take]; have : min ps.length vs.length = ps.length := by omega
          rw [this]; rfl) ⟨_, hn, rfl, rfl⟩
    rw [List.zip_append hl1.symm] at z
    exact z
  · subst ex eH
    have e1 : Ext H β (upd H p (.tup (vs.drop ps.length))) β := Ext.laid hp'
    refine ⟨_, hbody cdv A outer s2 _ E hg hr', ?_⟩
    have rds : RVs ⟨K, mg, w, []⟩ (upd H p (.tup (vs.drop ps.length))) Pf β (vs.take ps.length ++ [V.ref p]) (ds.take ps.length ++ [.tup (ds.drop ps.length)]) :=
      ((rs.take ps.length).mono e1).append (.cons (.tup (.inl upd_same) ((rs.drop ps.length).mono e1)) .nil)
    have hpp : ∀ a, Pf a → (upd H p (.tup (vs.drop ps.length))) a ≠ none ∧ a ∉ β := fun a h => ⟨e1.stay a (hp a h).1, (hp a h).2⟩
    refine ⟨⟨upd H p (.tup (vs.drop ps.length)), β, Pf, []⟩, _, Pf, β, _, St, LR.start (st'.laid hp') hpp rds, ?_⟩
    unfold mDef at q
    have hlen : (ds.take ps.length ++ [D.tup (ds.drop ps.length)]).length = ps.length + 1 := by
      rw [List.length_append, List.length_take, List.length_singleton]; omega
    rw [hlen] at q ⊢
    cases e : m ((ds.take ps.length ++ [D.tup (ds.drop ps.length)]).map Sl.sh ++ List.replicate (N.length - (ps.length + 1)) Sl.un) St with
    | nx ρ' S' =>
      rw [e] at q
      intro σ' H' β' oa' P' L' f'
      exact q .non H' β' (e1.trans (L'.ext.done rfl)) (L'.st.less L'.sub) .non
    | rt d S' =>
      rw [e] at q
      intro v H' β' x' _ s' r'
      exact q v H' β' (e1.trans (x'.done rfl)) s' r'
    | bk ρ' S' => rw [e] at q; exact q.elim
    | ct ρ' S' => rw [e] at q; exact q.elim
    | exc ex ρ' S' =>
      rw [e] at q
      intro cls x σ' H' β' oa' P' L' f' ea
      refine q cls x H' β' (e1.trans (L'.ext.done rfl)) (L'.st.less L'.sub) ?_
      obtain ⟨Ca, dd, vs, h1, h2, h3, h4, h6, h7, h5⟩ := ea
      exact ⟨Ca, dd, vs, h1, h2, h3, h4, h6, fun z => h7 (L'.sub _ z), fun f x hx => let ⟨v, q1, q2⟩ := h5 f x hx; ⟨v, q1, q2.less L'.sub⟩⟩
    | stuck => rw [e] at q; exact q.elim
section
variable {X : Cx} {W : WX} {b : Bool} {e : Expr} {es : List Expr} {ma : AX} {pos p : Pos} {x : Str} {st : Stmt} {f : FX} {k j : Nat}
def mCallP (f : FX) (a : AX) : EX := fun ρ S => (a ρ S).bind fun us S1 => f us S1
theorem run_callV {fa : Addr} {sp : Sp} {σ : L2.St} {E : XK} {pins : List (Addr × Obj)} {H : Hp} {s : Shared} {Q : VK} {us : List Value} {vs : List V} (F : FnV X.prog X.w X.K X.mg X.base k fa sp) (hgd : X.A.guards = some []) (hr : Room k X.A) (hx : PassesAt (L2.CX X.prog X.w) X σ E)
    (I : Inv X pins σ H s) (r : Vals vs us) (h : sp vs H Q E) : wpAny (model X.prog X.w) X.A (call (.ref fa) us []) (EP X pins σ Q) X.xe s := by
  refine wpAny_call (codeAny_mono (F.run X.A X.stack s H us vs Q E hgd hr I.env0 r h) fun r s' hq => ?_)
  cases r with
  | error e => exact hx pins H s e s' I hq
  | ok fl =>
    cases fl with
    | ret u => exact I.after hq
    | next => exact False.elim hq
    | brk => exact False.elim hq
    | cont => exact False.elim hq
theorem spV_ct {C C' : Ct} (k : C'.K = C.K) (m : C'.mg = C.mg) {f : FX} {vs : List V} {H : Hp} {Q : VK} {E : XK} (h : spV C f vs H Q E) : spV C' f vs H Q E := by
  obtain ⟨P, β, ds, S, h1, h2, h3, h4⟩ := h
  refine ⟨P, β, ds, S, h1.ct k m, h2, h3.ct k m, ?_⟩
  cases e : f ds S with
  | stuck => rw [e] at h4; exact h4
  | exc x S' => rw [e] at h4; exact fun cls d H' β' a b c => h4 cls d H' β' a (b.ct k.symm m.symm) (c.ct k.symm m.symm)
  | ok d S' => rw [e] at h4; exact fun v H' β' a b c => h4 v H' β' a (b.ct k.symm m.symm) (c.ct k.symm m.symm)
theorem Room.lower {A : Around} (h : k ≤ j) (hr : Room j A) : Room k A := hr.mono h
theorem callV_sp {C : Ct} {cf : Cf} {oa : Nat → Option Addr} {P : Addr → Prop} {σ : L2.St} {H H1 : Hp} {β β1 : List Addr} {ρ : Rho} {S S1 : Store} {vs : List V} {ds : List D} {Q : VK} (t : Tr false H β S H1 β1 S1) (L1 : LR C cf oa P σ H1 β1 ρ S1) (r : RVs C H1 P β1 vs ds)
    (h : match f ds S1 with
      | .ok d S' => ∀ v H' β', Tr false H β S H' β' S' → LR C cf oa P σ H' β' ρ S' → RV C H' P β' v d → Q v H'
      | .exc e S' => XP C W cf oa P σ false H β ρ S e S'
      | .stuck => False) : spV C f vs H1 Q (WE W σ) := by
  refine ⟨P, β1, ds, S1, L1.st, L1.p, r, ?_⟩
  cases ef : f ds S1 with
  | stuck => rw [ef] at h; exact h
  | exc e S' =>
    rw [ef] at h
    intro cls x H' β' e1 s1 ea
    exact h cls x H' β' ⟨t.ext.trans e1, fun z => nomatch z⟩ (L1.step e1 s1) ea
  | ok d S' =>
    rw [ef] at h
    intro v H' β' e1 s1 rv
    exact h v H' β' ⟨t.ext.trans e1, fun z => nomatch z⟩ (L1.step e1 s1) rv
theorem pm_callP (Dk : DefOkV X.prog X.w X.K X.mg X.base k x st f) (hgd : X.A.guards = some []) (hr : Room j X.A) (hkj : k ≤ j) (tk : Takes X W) (ha : PAM (ctOf X) W false X (e :: es) ma) (hg : Gl X x := by rfl)
    (hdb : (x == ("__debug__" : Str)) = false := by decide) (he : starEach (e :: es) X.env = (false, eval e X.env) :: starEach es X.env := by rfl)
    (hpl : ((backTo pos (starEach (e :: es) X.env)).any (·.1) || (backToKw pos (keywordEach [] X.env)).any (·.1.isNone)) = false := by rfl) : PM (ctOf X) W false X (.Call (.Name x p) (e :: es) [] pos) (mCallP f ma) := by
  obtain ⟨fa, y, qual, fd, F, hm, G⟩ := Dk.ex
  refine ⟨fun pins s σ H Q I h => ?_⟩
  have h' : AM (ctOf X) W false ma σ H fun vs H1 => spV (ctOf X) f vs H1 Q (WE W σ) := by
    obtain ⟨cf, oa, P, β, ρ, S, L, h⟩ := h
    refine ⟨cf, oa, P, β, ρ, S, L, ?_⟩
    unfold mCallP at h
    cases ea : ma ρ S with
    | stuck => rw [ea] at h; exact h
    | exc e S1 => rw [ea] at h; exact h
    | ok us S1 =>
      rw [ea] at h
      simp only [R.bind] at h
      intro vs H1 β1 t1 L1 r1
      exact callV_sp t1 L1 r1 h
  refine wpAny_Call_Name_kw (ld_glob I hg hm ?_ hdb)
  refine PySem.W.callWith_KW (h₀ := X.base) I.ok.mod.kin F.kp (by rfl) (thn (ha.run pos pins s σ H _ I h') fun us s1 ⟨vs, H1, I1, r, q⟩ => ?_) hpl he
  refine wpAny_pure ⟨I1.kIn, ?_⟩
  exact run_callV G hgd (hr.mono hkj) (passAt tk σ) I1 r (spV_ct (C := ctOf X) (C' := ⟨X.K, X.mg, X.w, []⟩) rfl rfl q)
theorem pm_callP0 (Dk : DefOkV X.prog X.w X.K X.mg X.base k x st f) (hgd : X.A.guards = some []) (hr : Room j X.A) (hkj : k ≤ j) (tk : Takes X W) (hg : Gl X x := by rfl)
    (hdb : (x == ("__debug__" : Str)) = false := by decide)
    (hpl : ((backTo pos (starEach [] X.env)).any (·.1) || (backToKw pos (keywordEach [] X.env)).any (·.1.isNone)) = false := by rfl) : PM (ctOf X) W false X (.Call (.Name x p) [] [] pos) (mCallP f aNil) := by
  obtain ⟨fa, y, qual, fd, F, hm, G⟩ := Dk.ex
  refine ⟨fun pins s σ H Q I h => ?_⟩
  obtain ⟨cf, oa, P, β, ρ, S, L, h⟩ := h
  have h' : spV (ctOf X) f [] H Q (WE W σ) := callV_sp (Tr.refl) L .nil h
  refine wpAny_Call_Name_kw (ld_glob I hg hm ?_ hdb)
  refine PySem.W.callWith_KW0 (h₀ := X.base) I.ok.mod.kin F.kp (by rfl) (wpAny_pure ⟨I.kIn, ?_⟩) hpl
  exact run_callV G hgd (hr.mono hkj) (passAt tk σ) I .nil (spV_ct (C := ctOf X) (C' := ⟨X.K, X.mg, X.w, []⟩) rfl rfl h')
end
end Mi

/-! Mi26: a, b = x, y and a, b, c = x, y, z with plain names. -/
namespace Mi
open PySem PySem.Spec PyProof.Rows L2
section
variable {X : Cx} {W : WX} {b : Bool} {pos : Pos}
def sPar2 (i j : Nat) (a : AX) : SX := fun ρ S => (a ρ S).st ρ fun ds S' => match ds with
  | [x, y] => .nx ((ρ.set i (.sh x)).set j (.sh y)) S'
  | _ => .stuck
def sPar3 (i j l : Nat) (a : AX) : SX := fun ρ S => (a ρ S).st ρ fun ds S' => match ds with
  | [x, y, z] => .nx (((ρ.set i (.sh x)).set j (.sh y)).set l (.sh z)) S'
  | _ => .stuck
theorem ps_par2M {i j : Nat} {x y : Str} {e1 e2 : Expr} {ma : AX} {px py pt : Pos} {kt k2 pt2} (hc : X.calm = true) (hN : X.N.Nodup) (hi : X.N[i]? = some x) (hj : X.N[j]? = some y) (hij : i ≠ j)
    (hx : X.env.scope.names.lookup x = some .local) (hy : X.env.scope.names.lookup y = some .local) (ha : PAM (ctOf X) W false X [e1, e2] ma)
    (hw : swappedStores [.Tuple [.Name x px, .Name y py] kt pt] (.Tuple [e1, e2] k2 pt2) X.env = pure (some [x, y]) := by rfl)
    (hs : swapsWithSole [.Tuple [.Name x px, .Name y py] kt pt] (.Tuple [e1, e2] k2 pt2) pos.line X.env = pure false := by rfl) :
    PSM (ctOf X) W X (.Assign [.Tuple [.Name x px, .Name y py] kt pt] (.Tuple [e1, e2] k2 pt2) pos) (sPar2 i j ma) := PS_imp (ps_par hc hN hi hj hij hx hy ha hw hs) fun D σ H h => by
  obtain ⟨cf, oa, P, β, ρ, S, L, h⟩ := h
  refine ⟨cf, oa, P, β, ρ, S, L, ?_⟩
  unfold sPar2 at h
  cases ea : ma ρ S with
  | stuck => rw [ea] at h; exact h
  | exc e S1 => rw [ea] at h; exact xp_of h
  | ok ds S1 =>
    rw [ea] at h
    simp only [R.st] at h
    intro vs H1 β1 t L1 rs
    split at h
    · obtain ⟨v, w, rfl, r1, r2⟩ := rvs2 rs
      exact ⟨v, w, rfl, h _ H1 β1 _ P ((L1.set r1).set r2) (Fx.of t.ext)⟩
    · exact h.elim
theorem ps_par3M {i j l : Nat} {x y z : Str} {e1 e2 e3 : Expr} {ma : AX} {px py pz pt : Pos} {kt k2 pt2} (hc : X.calm = true) (hN : X.N.Nodup) (hi : X.N[i]? = some x) (hj : X.N[j]? = some y) (hl : X.N[l]? = some z) (hij : i ≠ j) (hil : i ≠ l) (hjl : j ≠ l)
    (hx : X.env.scope.names.lookup x = some .local) (hy : X.env.scope.names.lookup y = some .local) (hz : X.env.scope.names.lookup z = some .local) (ha : PAM (ctOf X) W false X [e1, e2, e3] ma)
    (hw : swappedStores [.Tuple [.Name x px, .Name y py, .Name z pz] kt pt] (.Tuple [e1, e2, e3] k2 pt2) X.env = pure (some [x, y, z]) := by rfl)
    (hs : swapsWithSole [.Tuple [.Name x px, .Name y py, .Name z pz] kt pt] (.Tuple [e1, e2, e3] k2 pt2) pos.line X.env = pure false := by rfl) :
    PSM (ctOf X) W X (.Assign [.Tuple [.Name x px, .Name y py, .Name z pz] kt pt] (.Tuple [e1, e2, e3] k2 pt2) pos) (sPar3 i j l ma) := PS_imp (L2.ps_par3 hc hN hi hj hl hij hil hjl hx hy hz ha hw hs) fun D σ H h => by
  obtain ⟨cf, oa, P, β, ρ, S, L, h⟩ := h
  refine ⟨cf, oa, P, β, ρ, S, L, ?_⟩
  unfold sPar3 at h
  cases ea : ma ρ S with
  | stuck => rw [ea] at h; exact h
  | exc e S1 => rw [ea] at h; exact xp_of h
  | ok ds S1 =>
    rw [ea] at h
    simp only [R.st] at h
    intro vs H1 β1 t L1 rs
    split at h
    · cases rs with
      | cons r1 rs =>
        obtain ⟨v, w, rfl, r2, r3⟩ := rvs2 rs
        exact ⟨_, v, w, rfl, h _ H1 β1 _ P (((L1.set r1).set r2).set r3) (Fx.of t.ext)⟩
    · exact h.elim
end
end Mi

/-! Mi27: what a run must answer: postconditions carried through the extracted functions. -/
namespace Mi
open PySem PySem.Spec PyProof.Rows L2
def R.al {α : Type} (r : R α) (Q : α → Store → Prop) (E : Exn → Store → Prop) : Prop := match r with
  | .ok a S => Q a S
  | .exc e S => E e S
  | .stuck => False
structure Po where
  T : D → Store → Prop
  E : Exn → Store → Prop
  B : Rho → Store → Prop
  C : Rho → Store → Prop
  X : Exn → Rho → Store → Prop
def SR.al (r : SR) (N : Rho → Store → Prop) (p : Po) : Prop := match r with
  | .nx ρ S => N ρ S
  | .rt d S => p.T d S
  | .bk ρ S => p.B ρ S
  | .ct ρ S => p.C ρ S
  | .exc e ρ S => p.E e S ∧ p.X e ρ S
  | .stuck => False
section
variable {α β : Type} {Q : D → Store → Prop} {QL : List D → Store → Prop} {QB : Bool → Store → Prop} {E : Exn → Store → Prop} {ρ ρ1 : Rho} {S S1 S2 S3 : Store} {d x y : D} {ds us ws : List D} {m a b c : EX} {r k : AX} {i j l : Nat} {idx : List Nat} {f : FX} {t u : BX} {s s1 s2 : SX} {g : GX} {N : Rho → Store → Prop} {p : Po}
theorem al_ok {a : α} {Q : α → Store → Prop} : (R.ok a S).al Q E ↔ Q a S := Iff.rfl
theorem al_exc {e : Exn} {Q : α → Store → Prop} : (R.exc e S).al Q E ↔ E e S := Iff.rfl
theorem al_stuck {Q : α → Store → Prop} : (R.stuck).al Q E ↔ False := Iff.rfl
theorem al_bind {r : R α} {f : α → Store → R β} {Q : β → Store → Prop} : (r.bind f).al Q E ↔ r.al (fun a S => (f a S).al Q E) E := by cases r <;> rfl
theorem al_opt {o : Option α} {Q : α → Store → Prop} : (R.opt o S).al Q E ↔ ∃ z, o = some z ∧ Q z S := by
  cases o with
  | none => exact ⟨fun h => h.elim, fun ⟨_, h, _⟩ => nomatch h⟩
  | some z => exact ⟨fun h => ⟨z, rfl, h⟩, fun ⟨w, h, q⟩ => by cases h; exact q⟩
theorem al_mono {r : R α} {Q Q' : α → Store → Prop} {E' : Exn → Store → Prop} (h : r.al Q E) (i : ∀ a S, Q a S → Q' a S) (j : ∀ e S, E e S → E' e S) : r.al Q' E' := by
  cases r with
  | ok a S => exact i a S h
  | exc e S => exact j e S h
  | stuck => exact h
theorem al_st {r : R α} {κ : α → Store → SR} : (r.st ρ κ).al N p ↔ r.al (fun a S => (κ a S).al N p) (fun e S => p.E e S ∧ p.X e ρ S) := by cases r <;> rfl
theorem w_c : (mC d ρ S).al Q E ↔ Q d S := Iff.rfl
theorem w_var : (mVar i ρ S).al Q E ↔ match ρ[i]? with
    | some (Sl.sh d) => Q d S
    | _ => False := by
  unfold mVar
  rcases ρ[i]? with _ | (_ | d | d) <;> exact Iff.rfl
theorem w_bin {f : Store → D → D → Option D} : (mBin f a b ρ S).al Q E ↔ (a ρ S).al (fun x S1 => (b ρ S1).al (fun y S2 => ∃ z, f S2 x y = some z ∧ Q z S2) E) E := by
  unfold mBin; simp only [al_bind, al_opt]
theorem w_un {f : Store → D → Option D} : (mUn f a ρ S).al Q E ↔ (a ρ S).al (fun x S1 => ∃ z, f S1 x = some z ∧ Q z S1) E := by
  unfold mUn; simp only [al_bind, al_opt]
theorem w_nil : (aNil ρ S).al QL E ↔ QL [] S := Iff.rfl
theorem w_cons : (aCons a r ρ S).al QL E ↔ (a ρ S).al (fun x S1 => (r ρ S1).al (fun xs S2 => QL (x :: xs) S2) E) E := by
  unfold aCons; simp only [al_bind, al_ok]
theorem w_fun {f : Store → List D → Option D} : (mFun f r ρ S).al Q E ↔ (r ρ S).al (fun xs S1 => ∃ z, f S1 xs = some z ∧ Q z S1) E := by
  unfold mFun; simp only [al_bind, al_opt]
theorem w_tup : (mTup r ρ S).al Q E ↔ (r ρ S).al (fun xs S1 => xs.length ≤ sizeLine ∧ Q (.tup xs) S1) E := by
  unfold mTup dTup
  simp only [al_bind, al_opt]
  refine iff_of_eq (congrArg (fun z => R.al (r ρ S) z E) (funext fun xs => funext fun S1 => propext ?_))
  by_cases h : xs.length ≤ sizeLine <;> simp [h]
theorem w_lst : (mLst r ρ S).al Q E ↔ (r ρ S).al (fun xs S1 => xs.length ≤ sizeLine ∧ Q (.lst xs) S1) E := by
  unfold mLst dLst
  simp only [al_bind, al_opt]
  refine iff_of_eq (congrArg (fun z => R.al (r ρ S) z E) (funext fun xs => funext fun S1 => propext ?_))
  by_cases h : xs.length ≤ sizeLine <;> simp [h]
theorem w_dct0 : (mDct0 ρ S).al Q E ↔ Q (.dct []) S := Iff.rfl
theorem w_dct : (mDct r ρ S).al Q E ↔ (r ρ S).al (fun xs S1 => ∃ z, dDisp xs = some z ∧ Q z S1) E := by
  unfold mDct; simp only [al_bind, al_opt]
theorem w_box : (mBox m ρ S).al Q E ↔ (m ρ S).al (fun x S1 => ∃ so, soOf x = some so ∧ Q (.ref S1.length) (S1 ++ [so])) E := by
  unfold mBox
  simp only [al_bind]
  refine iff_of_eq (congrArg (fun z => R.al (m ρ S) z E) (funext fun x => funext fun S1 => propext ?_))
  cases h : soOf x with
  | none => simp [al_stuck]
  | some so => simp [al_ok]
theorem w_call : (mCall f idx r k ρ S).al Q E ↔ (r ρ S).al (fun us S1 => (k ρ S1).al (fun ws S2 => (f (pick idx us ws) S2).al Q E) E) E := by
  unfold mCall; simp only [al_bind]
theorem w_callP : (mCallP f r ρ S).al Q E ↔ (r ρ S).al (fun us S1 => (f us S1).al Q E) E := by
  unfold mCallP; simp only [al_bind]
theorem w_meth {f : Store → D → List D → Option D} : (mMethS f m r ρ S).al Q E ↔ (m ρ S).al (fun x S1 => isStr x = true ∧ (r ρ S1).al (fun ys S2 => ∃ z, f S2 x ys = some z ∧ Q z S2) E) E := by
  unfold mMethS
  simp only [al_bind]
  refine iff_of_eq (congrArg (fun z => R.al (m ρ S) z E) (funext fun x => funext fun S1 => propext ?_))
  by_cases h : isStr x = true
  · simp [h, al_bind, al_opt]
  · simp [h, al_stuck]
theorem w_if : (mIf t a b ρ S).al Q E ↔ (t ρ S).al (fun q S1 => if q = true then (a ρ S1).al Q E else (b ρ S1).al Q E) E := by
  unfold mIf
  simp only [al_bind]
  refine iff_of_eq (congrArg (fun z => R.al (t ρ S) z E) (funext fun q => funext fun S1 => ?_))
  cases q <;> rfl
theorem w_and : (mAnd a b ρ S).al Q E ↔ (a ρ S).al (fun x S1 => ∃ q, tru S1 x = some q ∧ if q = true then (b ρ S1).al Q E else Q x S1) E := by
  unfold mAnd
  simp only [al_bind, al_opt]
  refine iff_of_eq (congrArg (fun z => R.al (a ρ S) z E) (funext fun x => funext fun S1 => propext (exists_congr fun q => and_congr_right fun _ => ?_)))
  cases q <;> exact Iff.rfl
theorem w_or : (mOr a b ρ S).al Q E ↔ (a ρ S).al (fun x S1 => ∃ q, tru S1 x = some q ∧ if q = true then Q x S1 else (b ρ S1).al Q E) E := by
  unfold mOr
  simp only [al_bind, al_opt]
  refine iff_of_eq (congrArg (fun z => R.al (a ρ S) z E) (funext fun x => funext fun S1 => propext (exists_congr fun q => and_congr_right fun _ => ?_)))
  cases q <;> exact Iff.rfl
theorem w_not : (mNot a ρ S).al Q E ↔ (a ρ S).al (fun x S1 => ∃ q, tru S1 x = some q ∧ Q (.bl (!q)) S1) E := by
  unfold mNot
  simp only [al_bind, al_opt, al_ok]
theorem w_chain {f h : Store → D → D → Option D} : (mChain f h a b c ρ S).al Q E ↔ (a ρ S).al (fun x S1 => (b ρ S1).al (fun y S2 => ∃ q, (f S2 x y).bind asB = some q ∧ if q = true then (c ρ S2).al (fun z S4 => ∃ w, h S4 y z = some w ∧ Q w S4) E else Q (.bl false) S2) E) E := by
  unfold mChain
  simp only [al_bind, al_opt]
  refine iff_of_eq (congrArg (fun z => R.al (a ρ S) z E) (funext fun x => funext fun S1 => congrArg (fun z => R.al (b ρ S1) z E) (funext fun y => funext fun S2 => propext (exists_congr fun q => and_congr_right fun _ => ?_))))
  cases q
  · exact Iff.rfl
  · simp only [if_true, al_bind, al_opt]
/-! tests -/
theorem w_bof : (bOf m ρ S).al QB E ↔ (m ρ S).al (fun x S1 => ∃ q, asB x = some q ∧ QB q S1) E := by
  unfold bOf; simp only [al_bind, al_opt]
theorem w_btru : (bTru m ρ S).al QB E ↔ (m ρ S).al (fun x S1 => ∃ q, tru S1 x = some q ∧ QB q S1) E := by
  unfold bTru; simp only [al_bind, al_opt]
theorem w_bnot : (bNot t ρ S).al QB E ↔ (t ρ S).al (fun q S1 => QB (!q) S1) E := by
  unfold bNot; simp only [al_bind, al_ok]
theorem w_band : (bAnd t u ρ S).al QB E ↔ (t ρ S).al (fun q S1 => if q = true then (u ρ S1).al QB E else QB false S1) E := by
  unfold bAnd
  simp only [al_bind]
  refine iff_of_eq (congrArg (fun z => R.al (t ρ S) z E) (funext fun q => funext fun S1 => ?_))
  cases q <;> rfl
theorem w_bor : (bOr t u ρ S).al QB E ↔ (t ρ S).al (fun q S1 => if q = true then QB true S1 else (u ρ S1).al QB E) E := by
  unfold bOr
  simp only [al_bind]
  refine iff_of_eq (congrArg (fun z => R.al (t ρ S) z E) (funext fun q => funext fun S1 => ?_))
  cases q <;> rfl
theorem w_btrue : (bTrue ρ S).al QB E ↔ QB true S := Iff.rfl
/-! what is walked -/
theorem w_iseq : (iSeq m ρ S).al QL E ↔ (m ρ S).al (fun x S1 => ∃ z, itemsOf x = some z ∧ QL z S1) E := by
  unfold iSeq; simp only [al_bind, al_opt]
theorem w_ifun {f : List D → Option (List D)} : (iFun f r ρ S).al QL E ↔ (r ρ S).al (fun xs S1 => ∃ z, f xs = some z ∧ QL z S1) E := by
  unfold iFun; simp only [al_bind, al_opt]
theorem w_comp {it : AX} {vs : List Nat} {e : EX} : (mComp it vs g t e ρ S).al Q E ↔ (it ρ S).al (fun ds S1 => (compL vs g t e (wipeR ρ vs) ds [] S1).al (fun ys S2 => Q (.lst ys) S2) E) E := by
  unfold mComp; simp only [al_bind, al_ok]
theorem w_onone {QO : Option Int → Store → Prop} : (oNone ρ S).al QO E ↔ QO none S := Iff.rfl
theorem w_osome {QO : Option Int → Store → Prop} : (oSome m ρ S).al QO E ↔ (m ρ S).al (fun x S1 => ∃ i, x = .int i ∧ QO (some i) S1) E := by
  unfold oSome
  simp only [al_bind]
  refine iff_of_eq (congrArg (fun z => R.al (m ρ S) z E) (funext fun x => funext fun S1 => propext ?_))
  cases x <;> first
    | exact ⟨fun h => ⟨_, rfl, h⟩, fun ⟨_, e, h⟩ => by cases e; exact h⟩
    | exact ⟨fun h => h.elim, fun ⟨_, e, _⟩ => nomatch e⟩
theorem w_sl {lo hi : OX} : (mSl m lo hi ρ S).al Q E ↔ (m ρ S).al (fun x S1 => (lo ρ S1).al (fun l S2 => (hi ρ S2).al (fun h S3 => ∃ z, dSl S3 x l h = some z ∧ Q z S3) E) E) E := by
  unfold mSl; simp only [al_bind, al_opt]
theorem w_lend : (mLend m ρ S).al Q E ↔ (m (lent ρ) S).al (fun x S1 => flat x = true ∧ Q x S1) (fun _ _ => False) := by
  unfold mLend
  cases m (lent ρ) S with
  | ok x S1 => by_cases h : flat x = true <;> simp [h, R.al]
  | exc e S1 => exact Iff.rfl
  | stuck => exact Iff.rfl
theorem w_blend : (bLend t ρ S).al QB E ↔ (t (lent ρ) S).al QB (fun _ _ => False) := by
  unfold bLend
  cases t (lent ρ) S <;> exact Iff.rfl
/-! statements -/
theorem w_seq : (sSeq s1 s2 ρ S).al N p ↔ (s1 ρ S).al (fun ρ1 S1 => (s2 ρ1 S1).al N p) p := by
  unfold sSeq
  cases s1 ρ S <;> exact Iff.rfl
theorem w_snil : (sNil ρ S).al N p ↔ N ρ S := Iff.rfl
theorem w_set : (sSet i m ρ S).al N p ↔ (m ρ S).al (fun d S1 => N (ρ.set i (.sh d)) S1) (fun e S => p.E e S ∧ p.X e ρ S) := by unfold sSet; exact al_st
theorem w_own : (sOwn i m ρ S).al N p ↔ (m ρ S).al (fun d S1 => N (ρ.set i (.ow d)) S1) (fun e S => p.E e S ∧ p.X e ρ S) := by unfold sOwn; exact al_st
theorem w_ret : (sRet m ρ S).al N p ↔ (m ρ S).al p.T (fun e S => p.E e S ∧ p.X e ρ S) := by unfold sRet; exact al_st
theorem w_retn : (sRetN ρ S).al N p ↔ p.T .non S := Iff.rfl
theorem w_retv : (sRetV i ρ S).al N p ↔ match ρ[i]? with
    | some (Sl.sh d) => p.T d S
    | some (Sl.ow d) => p.T d S
    | _ => False := by
  unfold sRetV
  rcases ρ[i]? with _ | (_ | d | d) <;> exact Iff.rfl
theorem w_exp : (sExpr m ρ S).al N p ↔ (m ρ S).al (fun _ S1 => N ρ S1) (fun e S => p.E e S ∧ p.X e ρ S) := by unfold sExpr; exact al_st
theorem w_sif : (sIf t s1 s2 ρ S).al N p ↔ (t ρ S).al (fun q S1 => if q = true then (s1 ρ S1).al N p else (s2 ρ S1).al N p) (fun e S => p.E e S ∧ p.X e ρ S) := by
  unfold sIf
  rw [al_st]
  refine iff_of_eq (congrArg (fun z => R.al (t ρ S) z _) (funext fun q => funext fun S1 => ?_))
  cases q <;> rfl
theorem w_asg : (sAsg m g ρ S).al N p ↔ (m ρ S).al (fun d S1 => ∃ q, g d ρ S1 = some q ∧ N q.1 q.2) (fun e S => p.E e S ∧ p.X e ρ S) := by
  unfold sAsg
  rw [al_st]
  refine iff_of_eq (congrArg (fun z => R.al (m ρ S) z _) (funext fun d => funext fun S1 => propext ?_))
  cases h : g d ρ S1 with
  | none => exact ⟨fun z => z.elim, fun ⟨_, e, _⟩ => nomatch e⟩
  | some q => exact ⟨fun z => ⟨q, rfl, z⟩, fun ⟨_, e, z⟩ => by cases e; exact z⟩
theorem w_sfor {it : AX} : (sFor it g s ρ S).al N p ↔ (it ρ S).al (fun ds S1 => (forL g s ds ρ S1).al N p) (fun e S => p.E e S ∧ p.X e ρ S) := by unfold sFor; exact al_st
theorem w_brk : (sBreak ρ S).al N p ↔ p.B ρ S := Iff.rfl
theorem w_cont : (sCont ρ S).al N p ↔ p.C ρ S := Iff.rfl
theorem w_par2 : (sPar2 i j r ρ S).al N p ↔ (r ρ S).al (fun ds S1 => match ds with
    | [x, y] => N ((ρ.set i (.sh x)).set j (.sh y)) S1
    | _ => False) (fun e S => p.E e S ∧ p.X e ρ S) := by
  unfold sPar2
  rw [al_st]
  refine iff_of_eq (congrArg (fun z => R.al (r ρ S) z _) (funext fun ds => funext fun S1 => propext ?_))
  rcases ds with _ | ⟨x, _ | ⟨y, _ | ⟨z, ds⟩⟩⟩ <;> exact Iff.rfl
theorem w_par3 : (sPar3 i j l r ρ S).al N p ↔ (r ρ S).al (fun ds S1 => match ds with
    | [x, y, z] => N (((ρ.set i (.sh x)).set j (.sh y)).set l (.sh z)) S1
    | _ => False) (fun e S => p.E e S ∧ p.X e ρ S) := by
  unfold sPar3
  rw [al_st]
  refine iff_of_eq (congrArg (fun z => R.al (r ρ S) z _) (funext fun ds => funext fun S1 => propext ?_))
  rcases ds with _ | ⟨x, _ | ⟨y, _ | ⟨z, _ | ⟨w, ds⟩⟩⟩⟩ <;> exact Iff.rfl
theorem w_def {n : Nat} : (mDef n s ds S).al Q E ↔ (s (ds.map Sl.sh ++ List.replicate (n - ds.length) Sl.un) S).al (fun _ S1 => Q .non S1) ⟨Q, E, fun _ _ => False, fun _ _ => False, fun _ _ _ => True⟩ := by
  unfold mDef
  cases s (ds.map Sl.sh ++ List.replicate (n - ds.length) Sl.un) S <;> first
    | exact Iff.rfl
    | exact ⟨fun h => ⟨h, trivial⟩, fun h => h.1⟩
theorem sal_mono {r : SR} {N N' : Rho → Store → Prop} {p p' : Po} (h : r.al N p) (hn : ∀ ρ S, N ρ S → N' ρ S) (ht : ∀ d S, p.T d S → p'.T d S) (he : ∀ e ρ S, p.E e S ∧ p.X e ρ S → p'.E e S ∧ p'.X e ρ S) (hb : ∀ ρ S, p.B ρ S → p'.B ρ S) (hc : ∀ ρ S, p.C ρ S → p'.C ρ S) : r.al N' p' := by
  cases r with
  | nx ρ S => exact hn _ _ h
  | rt d S => exact ht _ _ h
  | bk ρ S => exact hb _ _ h
  | ct ρ S => exact hc _ _ h
  | exc e ρ S => exact he _ _ _ h
  | stuck => exact h
theorem seq_mid (M : Rho → Store → Prop) (h1 : (s1 ρ S).al M p) (h2 : ∀ ρ S, M ρ S → (s2 ρ S).al N p) : (sSeq s1 s2 ρ S).al N p :=
  w_seq.mpr (sal_mono h1 h2 (fun _ _ h => h) (fun _ _ _ h => h) (fun _ _ h => h) fun _ _ h => h)
/-! loops -/
theorem for_wp (I : Nat → Rho → Store → Prop) {ds : List D} (h0 : I 0 ρ S) (step : ∀ i d ρ S, ds[i]? = some d → I i ρ S → ∃ q, g d ρ S = some q ∧ (s q.1 q.2).al (I (i + 1)) ⟨p.T, p.E, N, I (i + 1), p.X⟩)
    (done : ∀ ρ S, I ds.length ρ S → N ρ S) : (forL g s ds ρ S).al N p := by
  have key : ∀ (n k : Nat) (ρ : Rho) (S : Store), n = ds.length - k → k ≤ ds.length → I k ρ S → (forL g s (ds.drop k) ρ S).al N p := by
    intro n
    induction n with
    | zero =>
      intro k ρ S hn hk h
      have e : k = ds.length := by omega
      subst e
      rw [List.drop_length]
      exact done _ _ h
    | succ n ih =>
      intro k ρ S hn hk h
      have hl : k < ds.length := by omega
      rw [List.drop_eq_getElem_cons hl]
      obtain ⟨⟨ρ1, S1⟩, e, q⟩ := step k ds[k] ρ S (List.getElem?_eq_getElem hl) h
      simp only [forL, e]
      cases es : s ρ1 S1 with
      | nx ρ2 S2 => rw [es] at q; exact ih (k + 1) ρ2 S2 (by omega) hl q
      | ct ρ2 S2 => rw [es] at q; exact ih (k + 1) ρ2 S2 (by omega) hl q
      | bk ρ2 S2 => rw [es] at q; exact q
      | rt d S2 => rw [es] at q; exact q
      | exc e ρ2 S2 => rw [es] at q; exact q
      | stuck => rw [es] at q; exact q
  have := key ds.length 0 ρ S (by simp) (Nat.zero_le _) h0
  simpa using this
theorem while_wp (I : Nat → Rho → Store → Prop) {n : Nat} (k : Nat) (hk : k < n) (h0 : I k ρ S) (step : ∀ k ρ S, I k ρ S → (t ρ S).al (fun q S1 => if q = true then (∃ k', k = k' + 1 ∧ (s ρ S1).al (I k') ⟨p.T, p.E, N, I k', p.X⟩) else N ρ S1) (fun e S => p.E e S ∧ p.X e ρ S)) :
    (sWhile n t s ρ S).al N p := by
  unfold sWhile
  induction n generalizing k ρ S with
  | zero => omega
  | succ n ih =>
    unfold whileN
    rw [al_st]
    refine al_mono (step k ρ S h0) (fun q S1 h => ?_) (fun _ _ h => h)
    cases q with
    | false => exact h
    | true =>
      obtain ⟨k', rfl, h⟩ := h
      show SR.al (match s ρ S1 with
      | .nx ρ' S' => whileN t s n ρ' S'
      | .ct ρ' S' => whileN t s n ρ' S'
      | .bk ρ' S' => .nx ρ' S'
      | r => r) N p
      cases es : s ρ S1 with
      | nx ρ2 S2 => rw [es] at h; exact ih k' (by omega) h
      | ct ρ2 S2 => rw [es] at h; exact ih k' (by omega) h
      | bk ρ2 S2 => rw [es] at h; exact h
      | rt d S2 => rw [es] at h; exact h
      | exc e ρ2 S2 => rw [es] at h; exact h
      | stuck => rw [es] at h; exact h
theorem comp_wp {vs : List Nat} {e : EX} (I : Nat → List D → Store → Prop) {ds : List D} (h0 : I 0 [] S) (step : ∀ i d acc S, ds[i]? = some d → I i acc S → ∃ q, g d ρ S = some q ∧ (t q.1 q.2).al (fun b S2 => if b = true then (e q.1 S2).al (fun y S3 => acc.length < sizeLine ∧ I (i + 1) (acc ++ [y]) S3) (fun _ _ => False) else I (i + 1) acc S2) (fun _ _ => False))
    (done : ∀ ys S, I ds.length ys S → QL ys S) : (compL vs g t e ρ ds [] S).al QL E := by
  have key : ∀ (n k : Nat) (acc : List D) (S : Store), n = ds.length - k → k ≤ ds.length → I k acc S → (compL vs g t e ρ (ds.drop k) acc S).al QL E := by
    intro n
    induction n with
    | zero =>
      intro k acc S hn hk h
      have e : k = ds.length := by omega
      subst e
      rw [List.drop_length]
      exact done _ _ h
    | succ n ih =>
      intro k acc S hn hk h
      have hl : k < ds.length := by omega
      rw [List.drop_eq_getElem_cons hl]
      obtain ⟨q, e1, h1⟩ := step k ds[k] acc S (List.getElem?_eq_getElem hl) h
      simp only [compL, e1]
      cases et : t q.1 q.2 with
      | stuck => rw [et] at h1; exact h1.elim
      | exc _ _ => rw [et] at h1; exact h1.elim
      | ok b S2 =>
        rw [et] at h1
        cases b with
        | false => exact ih (k + 1) acc S2 (by omega) hl h1
        | true =>
          have h2 : (e q.1 S2).al (fun y S3 => acc.length < sizeLine ∧ I (k + 1) (acc ++ [y]) S3) (fun _ _ => False) := h1
          simp only
          cases ee : e q.1 S2 with
          | stuck => rw [ee] at h2; exact h2.elim
          | exc _ _ => rw [ee] at h2; exact h2.elim
          | ok y S3 =>
            rw [ee] at h2
            obtain ⟨h3, h4⟩ := h2
            simp only [h3, if_true]
            exact ih (k + 1) (acc ++ [y]) S3 (by omega) hl h4
  have := key ds.length 0 [] S (by simp) (Nat.zero_le _) h0
  simpa using this
end
/-! ### draws -/
/-- S is S0 but for the generator at n -/
def RS (S0 : Store) (n : Nat) (S : Store) : Prop := ∃ a b : Int, 0 ≤ a ∧ 0 ≤ b ∧ b < 2 ^ 33 ∧ n < S0.length ∧ S = S0.set n (.lst [.int a, .int b])
theorem RS.at {S0 S : Store} {n : Nat} (h : RS S0 n S) : RngAt S n := by
  obtain ⟨a, b, h1, h2, h3, h4, rfl⟩ := h
  exact ⟨a, b, List.getElem?_set_self h4, h1, h2, h3⟩
theorem draw_eq {S : Store} {n : Nat} {m : Int} (h : RngAt S n) (h0 : 0 < m) (h1 : m < 1073741824) : ∃ d a b, (mDef 3 drawS) [.ref n, .int m] S = .ok (.int d) (S.set n (.lst [.int a, .int b])) ∧ 0 ≤ d ∧ d < m ∧ 0 ≤ a ∧ 0 ≤ b ∧ b < 2 ^ 33 := by
  obtain ⟨a, b, e, ha, hb, hb2⟩ := h
  have hl : n < S.length := (List.getElem?_eq_some_iff.mp e).1
  by_cases hp : 0 < a
  · refine ⟨a % m, a / m, b, ?_, Int.emod_nonneg _ (by omega), Int.emod_lt_of_pos _ h0, Int.ediv_nonneg ha (by omega), hb, hb2⟩
    unfold mDef drawS
    simp [sSeq, sIf, bOf, mBin, mVar, mC, dIx, viewL, e, R.bind, R.opt, R.st, dGt, atI, ixN, asB, hp, sAsg, mFun, aCons, aNil, fDivmod, gUnp, viewT, gsCons, gsNil, gIx, gSet, storeIx, sRet, h0, h1]
  · have hm : m ≠ 0 := by omega
    obtain ⟨c, hc⟩ : ∃ c : Int, c = (b * 48271 + 20011).fmod 2147483399 := ⟨_, rfl⟩
    have c0 : 0 ≤ c := by rw [hc, Int.fmod_eq_emod_of_nonneg _ (by decide)]; exact Int.emod_nonneg _ (by decide)
    have c1 : c < 2147483399 := by rw [hc, Int.fmod_eq_emod_of_nonneg _ (by decide)]; exact Int.emod_lt_of_pos _ (by decide)
    have k1 : okMul b 48271 = true := by unfold okMul; simp
    have k2 : okMul c c = true := by unfold okMul; simp; omega
    have e2 : ∀ x : SO, (S.set n x)[n]? = some x := fun x => List.getElem?_set_self hl
    refine ⟨(((c * c).fmod 2147483323).fdiv 13).fmod m, a, c, ?_, ?_, ?_, ha, c0, by omega⟩
    · unfold mDef drawS
      simp [sSeq, sIf, bOf, mBin, mVar, mC, dIx, viewL, e, R.bind, R.opt, R.st, dGt, atI, ixN, asB, hp, sAsg, sNil, gIx, storeIx, sRet, dMul, dAdd, dMod, dFdiv, k1, k2, ← hc, hm, e2]
    · rw [Int.fmod_eq_emod_of_nonneg _ (by omega)]; exact Int.emod_nonneg _ hm
    · rw [Int.fmod_eq_emod_of_nonneg _ (by omega)]; exact Int.emod_lt_of_pos _ h0
theorem draw_wp {S0 S : Store} {n : Nat} {m : Int} {Q : D → Store → Prop} {E : Exn → Store → Prop} (h : RS S0 n S) (h0 : 0 < m) (h1 : m < 1073741824) (k : ∀ d S', 0 ≤ d → d < m → RS S0 n S' → Q (.int d) S') : ((mDef 3 drawS) [.ref n, .int m] S).al Q E := by
  obtain ⟨d, a, b, e, d0, d1, a0, b0, b1⟩ := draw_eq h.at h0 h1
  rw [e]
  obtain ⟨a', b', _, _, _, h4, rfl⟩ := h
  exact k d _ d0 d1 ⟨a, b, a0, b0, b1, h4, by rw [List.set_set]⟩
end Mi

/-! Mi28: what operations answer; repr and == of plain data. -/
namespace Mi
open PySem PySem.Spec PyProof.Rows L2
/-! ### plain data -/
def kW : Key → Nat
  | .inl _ => 0
  | .inr x => x.length
def okK : Key → Prop
  | .inl i => i.natAbs < 10 ^ 60
  | .inr x => ∀ c ∈ x.cps.toList, c < 0x110000
mutual
def okD : D → Prop
  | .non => True
  | .bl _ => True
  | .int i => i.natAbs < 10 ^ 60
  | .str x => ∀ c ∈ x.cps.toList, c < 0x110000
  | .tup xs => okDs xs
  | .lst xs => okDs xs
  | .dct kvs => okDk kvs
  | .ref _ => False
  | .ty _ => False
  | .fn _ => False
def okDs : List D → Prop
  | [] => True
  | d :: r => okD d ∧ okDs r
def okDk : List (Key × D) → Prop
  | [] => True
  | p :: r => okDp p ∧ okDk r
def okDp : Key × D → Prop
  | (k, d) => okK k ∧ okD d
end
mutual
def bkD : D → Nat
  | .str x => x.length
  | .tup xs => bkDs xs
  | .lst xs => bkDs xs
  | .dct kvs => bkDk kvs
  | .non => 0
  | .bl _ => 0
  | .int _ => 0
  | .ref _ => 0
  | .ty _ => 0
  | .fn _ => 0
def bkDs : List D → Nat
  | [] => 0
  | d :: r => bkD d + 1 + bkDs r
def bkDk : List (Key × D) → Nat
  | [] => 0
  | p :: r => bkDp p + bkDk r
def bkDp : Key × D → Nat
  | (k, d) => kW k + bkD d + 2
end
mutual
def dpD : D → Nat
  | .tup xs => dpDs xs + 1
  | .lst xs => dpDs xs + 1
  | .dct kvs => dpDk kvs + 1
  | .str _ => 0
  | .non => 0
  | .bl _ => 0
  | .int _ => 0
  | .ref _ => 0
  | .ty _ => 0
  | .fn _ => 0
def dpDs : List D → Nat
  | [] => 0
  | d :: r => max (dpD d) (dpDs r)
def dpDk : List (Key × D) → Nat
  | [] => 0
  | p :: r => max (dpDp p) (dpDk r)
def dpDp : Key × D → Nat
  | (_, d) => dpD d
end
theorem log_60 {n : Nat} (h : n < 10 ^ 60) : n.log2 < 1920 := by
  by_cases h0 : n = 0
  · rw [h0]; decide
  · exact Nat.lt_of_lt_of_le ((Nat.log2_lt h0).mpr (Nat.lt_trans h (by decide : 10 ^ 60 < 2 ^ 200))) (by decide)
theorem int_61 {i : Int} (h : i.natAbs < 10 ^ 60) : (PyData.shown (.int i)).length ≤ 64 := by
  have e := int_text_length_le10 (k := 60) (by decide) h
  show (Str.ofString (toString i)).length ≤ 64
  rw [PySem.ofString_length]; omega
structure Sw (p : PyData) (b d : Nat) : Prop where
  s : p.showable = true
  l : p.leavesShort 64 = true
  b : p.bulk = b
  d : p.depth = d
structure Sws (p : List PyData) (b d : Nat) : Prop where
  s : PyData.showableAll p = true
  l : PyData.leavesShortAll 64 p = true
  b : PyData.bulkAll p = b
  d : PyData.depthAll p = d
structure Swk (p : List (PyData × PyData)) (b d : Nat) : Prop where
  s : PyData.showableKv p = true
  l : PyData.leavesShortKv 64 p = true
  b : PyData.bulkKv p = b
  d : PyData.depthKv p = d
theorem sw_str {x : Str} (h : ∀ c ∈ x.cps.toList, c < 0x110000) : Sw (.str x) x.length 0 :=
  ⟨rfl, by simp only [PyData.leavesShort, List.all_eq_true, decide_eq_true_eq]; exact fun c hc => Nat.lt_trans (h c hc) (by decide), rfl, rfl⟩
theorem sw_int {i : Int} (h : i.natAbs < 10 ^ 60) : Sw (.int i) 0 0 :=
  ⟨by simp only [PyData.showable]; exact decide_eq_true (log_60 h), by simp only [PyData.leavesShort]; exact decide_eq_true (int_61 h), rfl, rfl⟩
theorem sw_key {k : Key} (h : okK k) : Sw (kPy k) (kW k) 0 := by
  cases k with
  | inl i => exact sw_int h
  | inr x => exact sw_str h
mutual
theorem to_py : ∀ d : D, okD d → ∃ p, toPy true d = some p ∧ Sw p (bkD d) (dpD d)
  | .non, _ => ⟨.none, rfl, rfl, rfl, rfl, rfl⟩
  | .bl b, _ => ⟨.bool b, rfl, rfl, rfl, rfl, rfl⟩
  | .int i, h => ⟨.int i, rfl, sw_int (by simpa only [okD] using h)⟩
  | .str x, h => ⟨.str x, rfl, sw_str (by simpa only [okD] using h)⟩
  | .tup xs, h => by
    obtain ⟨ps, e, s⟩ := to_pys xs (by simpa only [okD] using h)
    exact ⟨.tuple ps, by simp only [toPy, e], ⟨by simpa only [PyData.showable] using s.s, by simpa only [PyData.leavesShort] using s.l, by simpa only [PyData.bulk, bkD] using s.b, by simp only [PyData.depth, dpD, s.d]⟩⟩
  | .lst xs, h => by
    obtain ⟨ps, e, s⟩ := to_pys xs (by simpa only [okD] using h)
    exact ⟨.list ps, by simp only [toPy, e], ⟨by simpa only [PyData.showable] using s.s, by simpa only [PyData.leavesShort] using s.l, by simpa only [PyData.bulk, bkD] using s.b, by simp only [PyData.depth, dpD, s.d]⟩⟩
  | .dct kvs, h => by
    obtain ⟨ps, e, s⟩ := to_pyk kvs (by simpa only [okD] using h)
    exact ⟨.dict ps, by simp only [toPy, e], ⟨by simpa only [PyData.showable] using s.s, by simpa only [PyData.leavesShort] using s.l, by simpa only [PyData.bulk, bkD] using s.b, by simp only [PyData.depth, dpD, s.d]⟩⟩
  | .ref _, h => by simp only [okD] at h
  | .ty _, h => by simp only [okD] at h
  | .fn _, h => by simp only [okD] at h
theorem to_pys : ∀ ds : List D, okDs ds → ∃ p, toPys true ds = some p ∧ Sws p (bkDs ds) (dpDs ds)
  | [], _ => ⟨[], rfl, rfl, rfl, rfl, rfl⟩
  | d :: r, h => by
    have h' : okD d ∧ okDs r := by simpa only [okDs] using h
    obtain ⟨p, e1, s1⟩ := to_py d h'.1
    obtain ⟨ps, e2, s2⟩ := to_pys r h'.2
    exact ⟨p :: ps, by simp only [toPys, e1, e2], ⟨by simp only [PyData.showableAll, s1.s, s2.s, Bool.and_true], by simp only [PyData.leavesShortAll, s1.l, s2.l, Bool.and_true], by simp only [PyData.bulkAll, bkDs, s1.b, s2.b], by simp only [PyData.depthAll, dpDs, s1.d, s2.d]⟩⟩
theorem to_pyk : ∀ ds : List (Key × D), okDk ds → ∃ p, toPyk true ds = some p ∧ Swk p (bkDk ds) (dpDk ds)
  | [], _ => ⟨[], rfl, rfl, rfl, rfl, rfl⟩
  | (k, d) :: r, h => by
    have h' : okDp (k, d) ∧ okDk r := by simpa only [okDk] using h
    have h'' : okK k ∧ okD d := by simpa only [okDp] using h'.1
    obtain ⟨p, e1, s1⟩ := to_py d h''.2
    obtain ⟨ps, e2, s2⟩ := to_pyk r h'.2
    have s0 := sw_key h''.1
    exact ⟨(kPy k, p) :: ps, by simp only [toPyk, toPyp, e1, e2], ⟨by simp only [PyData.showableKv, s0.s, s1.s, s2.s, Bool.and_true], by simp only [PyData.leavesShortKv, s0.l, s1.l, s2.l, Bool.and_true], by simp only [PyData.bulkKv, bkDk, bkDp, s0.b, s1.b, s2.b], by simp only [PyData.depthKv, dpDk, dpDp, s0.d, s1.d, s2.d, Nat.zero_max, Nat.max_eq_right (Nat.zero_le _)]⟩⟩
end
mutual
theorem noR_ok : ∀ d : D, okD d → noR d = true
  | .non, _ => rfl
  | .bl _, _ => rfl
  | .int _, _ => rfl
  | .str _, _ => rfl
  | .tup xs, h => by simp only [noR]; exact noRs_ok xs (by simpa only [okD] using h)
  | .lst xs, h => by simp only [noR]; exact noRs_ok xs (by simpa only [okD] using h)
  | .dct xs, h => by simp only [noR]; exact noRk_ok xs (by simpa only [okD] using h)
  | .ref _, h => by simp only [okD] at h
  | .ty _, _ => rfl
  | .fn _, _ => rfl
theorem noRs_ok : ∀ ds : List D, okDs ds → noRs ds = true
  | [], _ => rfl
  | d :: r, h => by
    have h' : okD d ∧ okDs r := by simpa only [okDs] using h
    simp only [noRs, noR_ok d h'.1, noRs_ok r h'.2, Bool.and_self]
theorem noRk_ok : ∀ ds : List (Key × D), okDk ds → noRk ds = true
  | [], _ => rfl
  | (k, d) :: r, h => by
    have h' : (okK k ∧ okD d) ∧ okDk r := by simpa only [okDk, okDp] using h
    simp only [noRk, noRp, noR_ok d h'.1.2, noRk_ok r h'.2, Bool.and_self]
end
theorem top_id {S : Store} {d : D} (h : noR d = true) : Mi.top S d = d := by unfold Mi.top; rw [if_pos h]
theorem stps_len (S : Store) : ∀ xs : List D, (stps S xs).length = xs.length
  | [] => rfl
  | _ :: r => by simp only [stps, List.length_cons, stps_len S r]
theorem top_tup (S : Store) (xs : List D) : ∃ ys, Mi.top S (.tup xs) = .tup ys ∧ ys.length = xs.length := by
  unfold Mi.top
  split
  · exact ⟨xs, rfl, rfl⟩
  · exact ⟨stps S (stps S (stps S (stps S (stps S xs)))), by simp only [stp], by simp only [stps_len]⟩
/-- repr of plain data of no great size -/
theorem repr_ok {d : D} (h : okD d) (hb : bkD d ≤ 200000) (hd : dpD d ≤ 64) : ∃ k, (∀ c ∈ k.cps.toList, True) ∧ k.length ≤ 15000000 ∧ ∀ S, fRepr S [d] = some (.str k) := by
  obtain ⟨p, e, s⟩ := to_py d h
  have hl := PyData.shown_le_bulk 64 (by decide) p s.l
  rw [s.b] at hl
  refine ⟨p.shown, fun _ _ => trivial, by omega, fun S => ?_⟩
  unfold fRepr
  simp only [top_id (noR_ok d h), e]
  rw [if_pos]
  exact ⟨s.s, by rw [sizeLine_eq]; omega, by rw [s.d]; exact hd⟩
theorem okDs_iff : ∀ {ds : List D}, okDs ds ↔ ∀ d ∈ ds, okD d
  | [] => by simp [okDs]
  | d :: r => by simp only [okDs, okDs_iff (ds := r), List.mem_cons, forall_eq_or_imp]
theorem bkDs_le {n : Nat} : ∀ {ds : List D}, (∀ d ∈ ds, bkD d ≤ n) → bkDs ds ≤ ds.length * (n + 1)
  | [], _ => by simp [bkDs]
  | d :: r, h => by
    have h1 := h d List.mem_cons_self
    have h2 := bkDs_le (ds := r) fun x hx => h x (List.mem_cons_of_mem _ hx)
    simp only [bkDs, List.length_cons, Nat.succ_mul]
    omega
theorem dpDs_le {n : Nat} : ∀ {ds : List D}, (∀ d ∈ ds, dpD d ≤ n) → dpDs ds ≤ n
  | [], _ => by simp [dpDs]
  | d :: r, h => by
    have h1 := h d List.mem_cons_self
    have h2 := dpDs_le (ds := r) fun x hx => h x (List.mem_cons_of_mem _ hx)
    simp only [dpDs]
    omega
theorem w_app {i : Nat} {a : EX} {ρ : Rho} {S : Store} {N : Rho → Store → Prop} {p : Po} : (sApp i a ρ S).al N p ↔ match ρ[i]? with
    | some (Sl.ow (.lst xs)) => (a ρ S).al (fun d S1 => xs.length < sizeLine ∧ N (ρ.set i (.ow (.lst (xs ++ [d])))) S1) (fun e S => p.E e S ∧ p.X e ρ S)
    | some (Sl.sh (.ref n)) => (match S[n]? with
      | some (.lst _) => (a ρ S).al (fun d S1 => ∃ xs, S1[n]? = some (.lst xs) ∧ xs.length < sizeLine ∧ N ρ (S1.set n (.lst (xs ++ [d])))) (fun e S => p.E e S ∧ p.X e ρ S)
      | _ => False)
    | _ => False := by
  unfold sApp
  rcases ρ[i]? with _ | (_ | d | d | d)
  · exact Iff.rfl
  · exact Iff.rfl
  · cases d with
    | ref n =>
      simp only
      rcases hS : S[n]? with _ | (ys | ys | ⟨c, fs⟩ | ys | ys)
      · exact Iff.rfl
      · simp only [al_st]
        refine iff_of_eq (congrArg (fun z => R.al (a ρ S) z _) (funext fun d => funext fun S1 => propext ?_))
        rcases h : S1[n]? with _ | (xs | xs | ⟨c, fs⟩ | xs | xs)
        · simp [SR.al]
        · by_cases h2 : xs.length < sizeLine <;> simp [h2, SR.al]
        · simp [SR.al]
        · simp [SR.al]
        · simp [SR.al]
        · simp [SR.al]
      · exact Iff.rfl
      · exact Iff.rfl
      · exact Iff.rfl
      · exact Iff.rfl
    | _ => exact Iff.rfl
  · cases d with
    | lst xs =>
      simp only [al_st]
      refine iff_of_eq (congrArg (fun z => R.al (a ρ S) z _) (funext fun d => funext fun S1 => propext ?_))
      by_cases h : xs.length < sizeLine <;> simp [h, SR.al]
    | _ => exact Iff.rfl
  · exact Iff.rfl
theorem va_rng1 {j : Int} (h : 0 ≤ j ∧ j < 2 ^ 62) : rng1 [.int j] = some (rangeD 0 j.toNat) := by
  unfold rng1
  simp only
  rw [if_pos (by omega)]
theorem rangeD_len {n : Nat} : (rangeD 0 n).length = n := by simp [rangeD]
theorem range_at {n i : Nat} {d : D} (h : (rangeD 0 n)[i]? = some d) : d = .int i ∧ i < n := by
  have hi := (List.getElem?_eq_some_iff.mp h).1
  rw [rangeD_len] at hi
  unfold rangeD at h
  rw [List.getElem?_map, List.getElem?_range hi] at h
  cases h
  exact ⟨by simp, hi⟩
/-! ### == -/
mutual
/-- no dict in it -/
def noK : D → Prop
  | .non => True
  | .bl _ => True
  | .int _ => True
  | .str x => ∀ c ∈ x.cps.toList, c < 0x110000
  | .tup xs => noKs xs
  | .lst xs => noKs xs
  | .dct _ => False
  | .ref _ => False
  | .ty _ => False
  | .fn _ => False
def noKs : List D → Prop
  | [] => True
  | d :: r => noK d ∧ noKs r
end
theorem noKs_iff : ∀ {ds : List D}, noKs ds ↔ ∀ d ∈ ds, noK d
  | [] => by simp [noKs]
  | d :: r => by simp only [noKs, noKs_iff (ds := r), List.mem_cons, forall_eq_or_imp]
mutual
theorem eq_py : ∀ d : D, noK d → ∃ p, toPy false d = some p ∧ p.canLay0 = true ∧ p.depth = dpD d
  | .non, _ => ⟨.none, rfl, rfl, rfl⟩
  | .bl b, _ => ⟨.bool b, rfl, rfl, rfl⟩
  | .int i, _ => ⟨.int i, rfl, rfl, rfl⟩
  | .str x, h => ⟨.str x, rfl, by
      have h' : ∀ c ∈ x.cps.toList, c < 0x110000 := by simpa only [noK] using h
      simp only [PyData.canLay0, PyData.strOk]
      exact Array.all_eq_true_iff_forall_mem.mpr fun c hc => decide_eq_true (h' c (Array.mem_toList_iff.mpr hc)), rfl⟩
  | .tup xs, h => by
    obtain ⟨ps, e, s, t⟩ := eq_pys xs (by simpa only [noK] using h)
    exact ⟨.tuple ps, by simp only [toPy, e], by simpa only [PyData.canLay0] using s, by simp only [PyData.depth, dpD, t]⟩
  | .lst xs, h => by
    obtain ⟨ps, e, s, t⟩ := eq_pys xs (by simpa only [noK] using h)
    exact ⟨.list ps, by simp only [toPy, e], by simpa only [PyData.canLay0] using s, by simp only [PyData.depth, dpD, t]⟩
  | .dct kvs, h => by simp only [noK] at h
  | .ref _, h => by simp only [noK] at h
  | .ty _, h => by simp only [noK] at h
  | .fn _, h => by simp only [noK] at h
theorem eq_pys : ∀ ds : List D, noKs ds → ∃ p, toPys false ds = some p ∧ PyData.canLayAll0 p = true ∧ PyData.depthAll p = dpDs ds
  | [], _ => ⟨[], rfl, rfl, rfl⟩
  | d :: r, h => by
    have h' : noK d ∧ noKs r := by simpa only [noKs] using h
    obtain ⟨p, e1, s1, t1⟩ := eq_py d h'.1
    obtain ⟨ps, e2, s2, t2⟩ := eq_pys r h'.2
    exact ⟨p :: ps, by simp only [toPys, e1, e2], by simp only [PyData.canLayAll0, s1, s2, Bool.and_true], by simp only [PyData.depthAll, dpDs, t1, t2]⟩
end
mutual
theorem noR_noK : ∀ d : D, noK d → noR d = true
  | .non, _ => rfl
  | .bl _, _ => rfl
  | .int _, _ => rfl
  | .str _, _ => rfl
  | .tup xs, h => by simp only [noR]; exact noRs_noK xs (by simpa only [noK] using h)
  | .lst xs, h => by simp only [noR]; exact noRs_noK xs (by simpa only [noK] using h)
  | .dct xs, h => by simp only [noK] at h
  | .ref _, h => by simp only [noK] at h
  | .ty _, _ => rfl
  | .fn _, _ => rfl
theorem noRs_noK : ∀ ds : List D, noKs ds → noRs ds = true
  | [], _ => rfl
  | d :: r, h => by
    have h' : noK d ∧ noKs r := by simpa only [noKs] using h
    simp only [noRs, noR_noK d h'.1, noRs_noK r h'.2, Bool.and_self]
end
theorem top_of {S : Store} {d : D} (h : noK d) : Mi.top S d = d := top_id (noR_noK d h)
theorem pyE_ok {S : Store} {d : D} (h : noK d) (hd : dpD d ≤ 64) : ∃ p, pyE S d = some p ∧ toPy false d = some p ∧ p.canLay0 = true := by
  obtain ⟨p, e, s, t⟩ := eq_py d h
  refine ⟨p, ?_, e, s⟩
  unfold pyE
  simp only [top_of h, e]
  rw [if_pos]
  unfold SeqAt.shaped
  rw [s, t, decide_eq_true hd]
  rfl
theorem dEqB_of {S : Store} {a b : D} {p q : PyData} (h1 : pyE S a = some p) (h2 : pyE S b = some q) (hs : ∀ x y, ¬ (a = .str x ∧ b = .str y)) : dEqB S a b = some (PyData.eqv p q) := by
  cases a <;> cases b <;> first
    | (exact absurd ⟨rfl, rfl⟩ (hs _ _))
    | (have e : p = q := Option.some.inj (h1.symm.trans h2); subst e; simp only [dEqB, h1]; done)
    | (simp only [dEqB, h1, h2]; done)
theorem eq_refl {S : Store} {d : D} (h : noK d) (hd : dpD d ≤ 64) : dEqB S d d = some true := by
  obtain ⟨p, e, _, s⟩ := pyE_ok (S := S) h hd
  by_cases hs : ∃ x, d = .str x
  · obtain ⟨x, rfl⟩ := hs
    simp [dEqB]
  · rw [dEqB_of e e fun x y z => hs ⟨x, z.1⟩, SeqAt.eqv_refl p s]
theorem dEq_of {S : Store} {x y : D} {b : Bool} (h : dEqB S x y = some b) : dEq S x y = some (.bl b) := by
  unfold dEq
  split
  · rename_i xs
    unfold dEqB at h
    simp only at h
    have e3 : pyE S (.tup []) = some (.tuple []) := rfl
    rw [e3] at h
    cases e : pyE S (.tup xs) with
    | none => rw [e] at h; cases h
    | some p =>
      rw [e] at h
      cases h
      unfold pyE at e
      obtain ⟨ys, ey, el⟩ := top_tup S xs
      rw [ey] at e
      simp only [toPy] at e
      cases ys with
      | nil =>
        have : xs = [] := List.length_eq_zero_iff.mp el.symm
        subst this
        cases e; rfl
      | cons x zs =>
        cases xs with
        | nil => cases el
        | cons x0 xs0 =>
        cases e4 : toPys false (x :: zs) with
        | none => rw [e4] at e; cases e
        | some l =>
          rw [e4] at e
          simp only at e
          split at e
          · cases e
            cases l with
            | nil =>
              simp only [toPys] at e4
              split at e4
              · split at e4 <;> cases e4
              · cases e4
            | cons a l => simp [PyData.eqv, PyData.eqvAll]
          · cases e
  · rw [h]
theorem dEq_refl {S : Store} {d : D} (h : noK d) (hd : dpD d ≤ 64) : dEq S d d = some (.bl true) := dEq_of (eq_refl h hd)
theorem dNe_refl {S : Store} {d : D} (h : noK d) (hd : dpD d ≤ 64) : dNe S d d = some (.bl false) := by unfold dNe; rw [eq_refl h hd]; rfl
/-! ### what operations answer -/
section
variable {S : Store} {i j : Int} {x y z : Str} {xs ys : List D} {d e : D} {p q : Bool}
theorem va_add : dAdd S (.int i) (.int j) = some (.int (i + j)) := rfl
theorem va_addS (h : x.length + y.length ≤ sizeLine) : dAdd S (.str x) (.str y) = some (.str (x ++ y)) := by
  show (if x.length + y.length ≤ sizeLine then some (D.str (x ++ y)) else none) = _
  rw [if_pos h]
theorem va_addT (h : xs.length + ys.length ≤ sizeLine) : dAdd S (.tup xs) (.tup ys) = some (.tup (xs ++ ys)) := by
  show (if xs.length + ys.length ≤ sizeLine then some (D.tup (xs ++ ys)) else none) = _
  rw [if_pos h]
theorem va_addL (h : xs.length + ys.length ≤ sizeLine) : dAdd S (.lst xs) (.lst ys) = some (.lst (xs ++ ys)) := by
  show (if xs.length + ys.length ≤ sizeLine then some (D.lst (xs ++ ys)) else none) = _
  rw [if_pos h]
theorem va_addI : dAddI S (.int i) (.int j) = some (.int (i + j)) := rfl
theorem va_sub : dSub S (.int i) (.int j) = some (.int (i - j)) := rfl
theorem va_mul (h : okMul i j = true) : dMul S (.int i) (.int j) = some (.int (i * j)) := by
  show (if okMul i j = true then some (D.int (i * j)) else none) = _
  rw [if_pos h]
theorem va_neg : dNeg S (.int i) = some (.int (-i)) := rfl
theorem va_lt : dLt S (.int i) (.int j) = some (.bl (decide (i < j))) := rfl
theorem va_le : dLe S (.int i) (.int j) = some (.bl (decide (i ≤ j))) := rfl
theorem va_gt : dGt S (.int i) (.int j) = some (.bl (decide (j < i))) := rfl
theorem va_ge : dGe S (.int i) (.int j) = some (.bl (decide (j ≤ i))) := rfl
theorem va_ltS : dLt S (.str x) (.str y) = some (.bl (decide (x.cps.toList < y.cps.toList))) := rfl
theorem va_eqS : dEq S (.str x) (.str y) = some (.bl (x == y)) := rfl
theorem va_neS : dNe S (.str x) (.str y) = some (.bl (!(x == y))) := rfl
theorem va_eqI : dEq S (.int i) (.int j) = some (.bl (i == j)) := by
  show (match (some (PyData.eqv (.int i) (.int j)) : Option Bool) with | some b => some (D.bl b) | none => none) = _
  simp [PyData.eqv]
theorem va_neI : dNe S (.int i) (.int j) = some (.bl (!(i == j))) := by
  show (match (some (PyData.eqv (.int i) (.int j)) : Option Bool) with | some b => some (D.bl (!b)) | none => none) = _
  simp [PyData.eqv]
theorem va_ixL : dIx S (.lst xs) (.int i) = atI xs i := rfl
theorem va_ixT : dIx S (.tup xs) (.int i) = atI xs i := rfl
theorem va_ixS (h : x.length ≤ sizeLine) : dIx S (.str x) (.int i) = (atI x.cps.toList i).map fun c => .str ⟨#[c]⟩ := by
  show (if x.length ≤ sizeLine then _ else _) = _
  rw [if_pos h]
  cases atI x.cps.toList i <;> rfl
theorem va_lenL : fLen S [.lst xs] = some (.int xs.length) := rfl
theorem va_lenT : fLen S [.tup xs] = some (.int xs.length) := rfl
theorem va_lenS (h : x.length ≤ sizeLine) : fLen S [.str x] = some (.int x.length) := by
  show (if x.length ≤ sizeLine then _ else _) = _
  rw [if_pos h]
theorem va_max : fMax S [.int i, .int j] = some (.int (max i j)) := by
  show some (D.int (if j > i then j else i)) = _
  congr 2
  split <;> omega
theorem va_min : fMin S [.int i, .int j] = some (.int (min i j)) := by
  show some (D.int (if j < i then j else i)) = _
  congr 2
  split <;> omega
theorem va_abs : fAbs S [.int i] = some (.int (if i < 0 then -i else i)) := rfl
theorem va_asB : asB (.bl p) = some p := rfl
theorem va_truB : tru S (.bl p) = some p := rfl
theorem va_itL : itemsOf (.lst xs) = some xs := rfl
theorem va_itT : itemsOf (.tup xs) = some xs := rfl
theorem va_itS : itemsOf (.str x) = some (strItems x) := rfl
theorem va_tupL : fTuple S [.lst xs] = some (.tup xs) := rfl
theorem va_tupT : fTuple S [.tup xs] = some (.tup xs) := rfl
theorem va_pow (h : 0 ≤ j ∧ j ≤ 1000000 ∧ i.natAbs < 2 ^ 64) : dPow S (.int i) (.int j) = some (.int (i ^ j.toNat)) := by
  show (if 0 ≤ j ∧ j ≤ 1000000 ∧ i.natAbs < 2 ^ 64 then _ else _) = _
  rw [if_pos h]
theorem va_fdiv (h : j ≠ 0 ∧ j.natAbs < 1073741824) : dFdiv S (.int i) (.int j) = some (.int (i.fdiv j)) := by
  show (if j ≠ 0 ∧ j.natAbs < 1073741824 then _ else _) = _
  rw [if_pos h]
theorem va_mod (h : j ≠ 0) : dMod S (.int i) (.int j) = some (.int (i.fmod j)) := by
  show (if j ≠ 0 then _ else _) = _
  rw [if_pos h]
theorem va_inS : dIn S (.str x) (.str y) = some (.bl (inStr x y)) := rfl
theorem va_notInS : dNotIn S (.str x) (.str y) = some (.bl (!inStr x y)) := rfl
theorem va_isN : dIs S .non .non = some (.bl true) := rfl
theorem va_some_bl : (some (D.bl p)).bind asB = some p := rfl
theorem strIn_cases (xs : List Str) (x : Str) : (xs.map PyData.str).any (fun z => PyData.eqv z (.str x)) = xs.any (· == x) := by
  induction xs with
  | nil => rfl
  | cons a r ih => simp only [List.map_cons, List.any_cons, ih]; simp [PyData.eqv]
end
theorem inT_strs {S : Store} {x : Str} {ys : List Str} (hx : ∀ c ∈ x.cps.toList, c < 0x110000) (hy : ∀ y ∈ ys, ∀ c ∈ y.cps.toList, c < 0x110000) : dInB S (.str x) (.tup (ys.map D.str)) = some (ys.any (· == x)) := by
  have hn : noK (.str x) := by simpa only [noK] using hx
  have hm : noK (.tup (ys.map D.str)) := by
    simp only [noK, noKs_iff]
    intro d hd
    obtain ⟨y, hy', rfl⟩ := List.mem_map.mp hd
    simpa only [noK] using hy y hy'
  have hdp : dpD (.tup (ys.map D.str)) ≤ 64 := by
    have : dpDs (ys.map D.str) ≤ 0 := dpDs_le fun d hd => by obtain ⟨y, _, rfl⟩ := List.mem_map.mp hd; simp [dpD]
    simp only [dpD]; omega
  have e1 : pyE S (.str x) = some (.str x) := by
    obtain ⟨p, e, e2, _⟩ := pyE_ok (S := S) hn (by simp [dpD])
    simp only [toPy] at e2
    rw [e, e2]
  have e2 : pyE S (.tup (ys.map D.str)) = some (.tuple (ys.map PyData.str)) := by
    obtain ⟨p, e, e2, _⟩ := pyE_ok (S := S) hm hdp
    have : toPys false (ys.map D.str) = some (ys.map PyData.str) := by
      clear hy hm hdp e e2
      induction ys with
      | nil => rfl
      | cons a r ih => simp only [List.map_cons, toPys, toPy, ih]
    simp only [toPy, this] at e2
    rw [e, e2]
  simp only [dInB, e1, e2, strIn_cases]
theorem va_inT {S : Store} {x : Str} {ys : List Str} (hx : ∀ c ∈ x.cps.toList, c < 0x110000) (hy : ∀ y ∈ ys, ∀ c ∈ y.cps.toList, c < 0x110000) : dIn S (.str x) (.tup (ys.map D.str)) = some (.bl (ys.any (· == x))) := by
  unfold dIn; rw [inT_strs hx hy]
theorem inL_strs {S : Store} {x : Str} {ys : List Str} (hx : ∀ c ∈ x.cps.toList, c < 0x110000) (hy : ∀ y ∈ ys, ∀ c ∈ y.cps.toList, c < 0x110000) : dInB S (.str x) (.lst (ys.map D.str)) = some (ys.any (· == x)) := by
  have hn : noK (.str x) := by simpa only [noK] using hx
  have hm : noK (.lst (ys.map D.str)) := by
    simp only [noK, noKs_iff]
    intro d hd
    obtain ⟨y, hy', rfl⟩ := List.mem_map.mp hd
    simpa only [noK] using hy y hy'
  have hdp : dpD (.lst (ys.map D.str)) ≤ 64 := by
    have : dpDs (ys.map D.str) ≤ 0 := dpDs_le fun d hd => by obtain ⟨y, _, rfl⟩ := List.mem_map.mp hd; simp [dpD]
    simp only [dpD]; omega
  have e1 : pyE S (.str x) = some (.str x) := by
    obtain ⟨p, e, e2, _⟩ := pyE_ok (S := S) hn (by simp [dpD])
    simp only [toPy] at e2
    rw [e, e2]
  have e2 : pyE S (.lst (ys.map D.str)) = some (.list (ys.map PyData.str)) := by
    obtain ⟨p, e, e2, _⟩ := pyE_ok (S := S) hm hdp
    have : toPys false (ys.map D.str) = some (ys.map PyData.str) := by
      clear hy hm hdp e e2
      induction ys with
      | nil => rfl
      | cons a r ih => simp only [List.map_cons, toPys, toPy, ih]
    simp only [toPy, this] at e2
    rw [e, e2]
  simp only [dInB, e1, e2, strIn_cases]
theorem va_inL {S : Store} {x : Str} {ys : List Str} (hx : ∀ c ∈ x.cps.toList, c < 0x110000) (hy : ∀ y ∈ ys, ∀ c ∈ y.cps.toList, c < 0x110000) : dIn S (.str x) (.lst (ys.map D.str)) = some (.bl (ys.any (· == x))) := by
  unfold dIn; rw [inL_strs hx hy]
theorem va_notInL {S : Store} {x : Str} {ys : List Str} (hx : ∀ c ∈ x.cps.toList, c < 0x110000) (hy : ∀ y ∈ ys, ∀ c ∈ y.cps.toList, c < 0x110000) : dNotIn S (.str x) (.lst (ys.map D.str)) = some (.bl (!ys.any (· == x))) := by
  unfold dNotIn; rw [inL_strs hx hy]
theorem at_nat {xs : List D} {i : Nat} (h : i < xs.length) : atI xs (i : Int) = xs[i]? := by
  unfold atI ixN
  rw [if_pos (by omega), if_pos (by omega)]
  simp
theorem at0 {x : D} {xs : List D} : atI (x :: xs) 0 = some x := at_nat (i := 0) (by simp)
theorem at1 {x y : D} {xs : List D} : atI (x :: y :: xs) 1 = some y := at_nat (i := 1) (by simp)
theorem at2 {x y z : D} {xs : List D} : atI (x :: y :: z :: xs) 2 = some z := at_nat (i := 2) (by simp)
theorem at3 {x y z w : D} {xs : List D} : atI (x :: y :: z :: w :: xs) 3 = some w := at_nat (i := 3) (by simp)
theorem at_last {x : D} {xs : List D} : atI (xs ++ [x]) (-1) = some x := by
  unfold atI ixN
  rw [if_neg (by decide), if_pos (by simp; omega)]
  have h : ∀ n : Nat, n = xs.length → (xs ++ [x])[n]? = some x := fun n e => by subst e; simp
  exact h _ (by simp; omega)
theorem rng_wp {S : Store} {ns : List Int} {k : Nat} {Q : D → Store → Prop} {E : Exn → Store → Prop} (hn : ns.length ≤ 63) (hk : k < 100) (q : ∀ S', RS (S ++ [.lst []]) S.length S' → Q (.ref S.length) S') : ((mDef 3 rngS) [.lst (intsD ns), .int k] S).al Q E := by
  have hl : (intsD ns).length = ns.length := by unfold intsD; rw [List.length_map]
  have key : ∀ z : Int, (mIf (bOf (mBin dLt (mVar 1) (mFun fLen (aCons (mVar 0) aNil)))) (mBin dIx (mVar 0) (mVar 1)) (mBin dAdd (mBin dMul (mC (.int 13)) (mVar 1)) (mC (.int 6)))) [.sh (.lst (intsD ns)), .sh (.int k), .un] S = .ok (.int z) S →
      ((mDef 3 rngS) [.lst (intsD ns), .int k] S).al Q E := by
    intro z hz
    obtain ⟨A, hA⟩ : ∃ A : Int, A = (if z < 0 then -z else z) := ⟨_, rfl⟩
    have hA0 : 0 ≤ A := by rw [hA]; split <;> omega
    obtain ⟨B, hB⟩ : ∃ B : Int, B = A.fmod 2147483579 := ⟨_, rfl⟩
    have hB0 : 0 ≤ B := by rw [hB, Int.fmod_eq_emod_of_nonneg _ (by decide)]; exact Int.emod_nonneg _ (by decide)
    have hB1 : B < 2147483579 := by rw [hB, Int.fmod_eq_emod_of_nonneg _ (by decide)]; exact Int.emod_lt_of_pos _ (by decide)
    have k1 : okMul 307 (k : Int) = true := by unfold okMul; simp
    have e : (mDef 3 rngS) [.lst (intsD ns), .int k] S = .ok (.ref S.length) (S ++ [.lst [.int (if A - 1000000000000000000 > 0 then A - 1000000000000000000 else 0), .int (B + 307 * k + 11)]]) := by
      unfold mDef rngS
      simp only [List.length_cons, List.length_nil, List.map_cons, List.map_nil, List.replicate, List.cons_append, List.nil_append, sSeq, sSet]
      rw [hz]
      simp [R.st, sRet, mBox, mLst, aCons, aNil, mFun, mBin, mC, mVar, fMax, fAbs, dSub, dPow, dAdd, dMod, dMul, R.bind, R.opt, ← hA, ← hB, k1, dLst, sizeLine_eq, soOf]
    rw [e]
    refine q _ ⟨(if A - 1000000000000000000 > 0 then A - 1000000000000000000 else 0), (B + 307 * k + 11), ?_, ?_, ?_, by simp, ?_⟩
    · split <;> omega
    · omega
    · omega
    · rw [List.set_append_right _ _ (Nat.le_refl _)]; simp
  by_cases hlt : k < ns.length
  · refine key ns[k] ?_
    simp [mIf, bOf, mBin, mVar, mFun, aCons, aNil, fLen, viewL, hl, dLt, R.bind, R.opt, asB, hlt, dIx, atI, ixN, intsD]
  · refine key (13 * k + 6) ?_
    have k1 : okMul 13 (k : Int) = true := by unfold okMul; simp
    simp [mIf, bOf, mBin, mVar, mFun, aCons, aNil, fLen, viewL, hl, dLt, R.bind, R.opt, asB, hlt, mC, dMul, dAdd, k1]
end Mi

/-! Mi29: f-strings. -/
namespace Mi
open PySem PySem.Spec PyProof.Rows L2
section
variable {h : Heap} {pr : Program} {w : World}
/-- repr(v), as an f-string asks for it -/
theorem pyrepr_of_rd {A : Around} {E Q : Value → Shared → Prop} {s : Shared} {v : Value} {d : PyData} (r : RD s.heap v d) (sh : d.showable = true) (sz : d.shown.length ≤ sizeLine) (hg : A.guards = some []) (hu : A.units + (d.depth + 1) < cLine)
    (hQ : ∀ h' u tk, (∀ b o, s.heap.get? b = some o → h'.get? b = some o) → Q (.str d.shown u) { s with heap := h', toks := tk }) : wpAny (model pr w) A (pyReprObj v) Q E s := by
  cases r with
  | non => simp only [PyData.shown] at hQ; exact wpAny_pyReprObj_gives (PySem.typeIs_none s) F.slot_NoneType_repr F.entry_NoneType_repr (F.args_NoneType_repr_1 _) gives_none_repr (hQ s.heap _ _ fun _ _ e => e)
  | bl b => simp only [PyData.shown] at hQ; exact wpAny_pyReprObj_gives (PySem.typeIs_bool s b) F.slot_bool_repr F.entry_bool_repr (F.args_bool_repr_1 _) (gives_bool_repr b) (hQ s.heap _ _ fun _ _ e => e) (hx := by cases b <;> decide)
  | int i t => simp only [PyData.shown] at hQ; exact pyReprObj_int (by simpa [PyData.showable] using sh) (hQ s.heap _ _ fun _ _ e => e)
  | str x t => simp only [PyData.shown] at hQ sz; exact pyReprObj_str (hQ s.heap _ _ fun _ _ e => e) sz
  | @lst a o l n xs g c e r =>
    simp only [PyData.shown] at sz hQ
    simp only [PyData.depth] at hu
    obtain ⟨bs, hb, k⟩ := lo_all (pr := pr) (w := w) r (by simpa [PyData.showable] using sh) fun t m => Nat.le_trans (listText_mem_le m) sz
    obtain ⟨as, rr⟩ := (RD.lst g c e r).reads
    have out := not_mem_of_deeper rr (by simp only [PyData.depth]; omega : PyData.depthAll xs < _) hb
    refine wpAny_pyReprObj_slot (by omega) ⟨o, g, c⟩ F.slot_list_repr.toG ?_
    match l, e, k with
    | [], e, k =>
      cases hx : PyData.shownAll xs with
      | cons t ts => rw [hx] at k; cases k
      | nil => rw [hx, listText_nil] at hQ; exact call_list_repr_empty ⟨o, g, c⟩ g e ⟨_, _, rfl, hQ s.heap _ _ fun _ _ e => e⟩
    | x :: l, e, k => exact call_list_reprK g c e out (by simpa using (all_length k).symm) (fun i y z => k.item i y (by simpa using z)) hg (fun b _ => Clear.nil b) (by omega) (fun _ _ e => e) (fun h' u tk q => ⟨_, _, rfl, hQ h' u tk q⟩) sz
  | @tup a o l n xs g c e r =>
    simp only [PyData.shown] at sz hQ
    simp only [PyData.depth] at hu
    obtain ⟨bs, hb, k⟩ := lo_all (pr := pr) (w := w) r (by simpa [PyData.showable] using sh) fun t m => Nat.le_trans (tupleText_mem_le m) sz
    obtain ⟨as, rr⟩ := (RD.tup g c e r).reads
    have out := not_mem_of_deeper rr (by simp only [PyData.depth]; omega : PyData.depthAll xs < _) hb
    refine wpAny_pyReprObj_slot (by omega) ⟨o, g, c⟩ F.slot_tuple_repr ?_
    exact call_tuple_reprK g c e out (by simpa using k) hg (fun b _ => Clear.nil b) (by omega) (fun _ _ e => e) (fun h' u tk q => ⟨_, _, rfl, hQ h' u tk q⟩) sz
  | @dct a o es n kvs g c e sy r1 r2 =>
    simp only [PyData.shown] at sz hQ
    simp only [PyData.depth] at hu
    obtain ⟨sh1, sh2⟩ := PyData.showableKv_split kvs (by simpa [PyData.showable] using sh)
    have low : ∀ t : Str, (∃ p ∈ PyData.shownKv kvs, t.length ≤ p.length) → t.length ≤ sizeLine := fun t ⟨p, m, q⟩ => Nat.le_trans q (Nat.le_trans (dictText_mem_le m) sz)
    obtain ⟨b1, hb1, k1⟩ := lo_all (pr := pr) (w := w) r1 sh1 fun t m => low t (PyData.shownKv_key_le kvs t m)
    obtain ⟨b2, hb2, k2⟩ := lo_all (pr := pr) (w := w) r2 sh2 fun t m => low t (PyData.shownKv_val_le kvs t m)
    obtain ⟨as, rr⟩ := (RD.dct g c e sy r1 r2).reads
    have l1 := PyData.depthAll_keys_le kvs
    have l2 := PyData.depthAll_vals_le kvs
    have out := not_mem_of_deeper rr (by simp only [PyData.depth]; omega : PyData.depthKv kvs < _) ((hb1.mono l1).append (hb2.mono l2))
    refine wpAny_pyReprObj_slot (by omega) ⟨o, g, c⟩ F.slot_dict_repr ?_
    rw [PyData.shownKv_eq] at sz hQ
    refine call_dict_reprK g c e sy out (ReprEntriesK.of_two _ _ _ (k1.more_le (fun b m => ?_) l1) (k2.more_le (fun b m => ?_) l2)) hg (fun b _ => Clear.nil b) (by omega) (fun _ _ e => e) (fun h' u tk q => ⟨_, _, rfl, hQ h' u tk q⟩) sz
    · exact List.mem_append.mpr (.inl m)
    · exact List.mem_append.mpr (.inr m)
end
/-! ### the pure side -/
def fFmtR (S : Store) (d : D) : Option D := match toPy true (top S d) with
  | some p => if p.showable = true ∧ p.shown.length ≤ sizeLine ∧ p.depth ≤ 64 then some (.str p.shown) else none
  | none => none
def fFmt (S : Store) : D → Option D
  | .str y => if y.length ≤ sizeLine then some (.str y) else none
  | .int i => if i.natAbs.log2 < 1920 then some (.str (toString i)) else none
  | _ => none
def mJs : List EX → Str → EX
  | [], acc => fun _ S => .ok (.str acc) S
  | t :: ts, acc => fun ρ S => (t ρ S).bind fun x S1 => match x with
    | .str y => if (acc ++ y).length ≤ sizeLine then mJs ts (acc ++ y) ρ S1 else .stuck
    | _ => .stuck
def mJoined (ts : List EX) : EX := mJs ts Str.empty
section
variable {X : Cx} {W : WX} {b : Bool} {e : Expr} {ma : EX} {pos : Pos}
theorem pm_fmtR (hg : X.A.guards = some []) (hu : X.A.units + 65 < cLine) (he : PM (ctOf X) W b X e ma) : PM (ctOf X) W b X (.FormattedValue e 114 none pos) (mUn fFmtR ma) := by
  refine ⟨fun pins s σ H Q I h => ?_⟩
  have h' := em1 (r := fun x H1 Q => rRepr X [x] H1 Q) (fun Z H β S x dx dz Q A rx e k => by
    unfold fFmtR at e
    split at e
    · rename_i p ep
      split at e
      · rename_i hz
        cases e
        exact ⟨β, x, top S dx, p, rfl, rx.top A.st, ep, hz.1, hz.2.1, hz.2.2, k _ H (Same.refl _) (.str _)⟩
      · cases e
    · cases e) h
  refine wpAny_FormattedValue_repr (thn (he.run pins s σ H _ I h') fun v s1 hv => ?_)
  obtain ⟨x, H1, I1, r1, β, x', d, p, ex, rv, e, h1, h2, h3, q⟩ := hv
  cases ex
  exact pyrepr_of_rd (rd_tree I1 rv r1 e) h1 h2 hg (by omega) fun h' t tk k => wpAny_formatField_str ⟨.str p.shown, H1, I1.kept k, ⟨_, rfl⟩, q⟩ ⟨.str p.shown, H1, I1.kept k, ⟨_, rfl⟩, q⟩ h2
theorem pm_fmt (he : PM (ctOf X) W b X e ma) : PM (ctOf X) W b X (.FormattedValue e (-1) none pos) (mUn fFmt ma) :=
  PE_imp (pe_fmt he) fun σ H Q h => em1 (r := fun x H1 Q => (∃ y : Str, x = .str y ∧ y.length ≤ sizeLine ∧ Q (.str y) H1) ∨ ∃ i : Int, x = .int i ∧ i.natAbs.log2 < 1920 ∧ Q (.str (toString i)) H1) (fun Z H β S x dx dz Q A rx e k => by
    unfold fFmt at e
    split at e
    · split at e
      · rename_i hz
        cases e
        cases rx
        exact .inl ⟨_, rfl, hz, k _ H (Same.refl _) (.str _)⟩
      · cases e
    · split at e
      · rename_i hz
        cases e
        cases rx
        exact .inr ⟨_, rfl, hz, k _ H (Same.refl _) (.str _)⟩
      · cases e
    · cases e) h
inductive PJM (C : Ct) (W : WX) (b : Bool) (X : Cx) : List Expr → List EX → Prop where
  | nil : PJM C W b X [] []
  | cons {e : Expr} {m : EX} {es : List Expr} {ms : List EX} (h : PM C W b X e m) (r : PJM C W b X es ms) : PJM C W b X (e :: es) (m :: ms)
theorem PJM.pj {C : Ct} {es : List Expr} {ms : List EX} (h : PJM C W b X es ms) : PJ X es (ms.map (EM C W b)) := by
  induction h with
  | nil => exact .nil
  | cons h r ih => exact .cons h ih
theorem tjs_of {C : Ct} : ∀ {ms : List EX} {acc : Str} {σ : L2.St} {H : Hp} {Q : VK}, EM C W b (mJs ms acc) σ H Q → tJs (ms.map (EM C W b)) acc σ H fun out H1 => Q (.str out) H1
  | [], acc, σ, H, Q, h => by
    obtain ⟨cf, oa, P, β, ρ, S, L, h⟩ := h
    exact h _ H β Tr.refl L (.str _)
  | m :: ms, acc, σ, H, Q, h => by
    obtain ⟨cf, oa, P, β, ρ, S, L, h⟩ := h
    unfold mJs at h
    refine ⟨cf, oa, P, β, ρ, S, L, ?_⟩
    cases ea : m ρ S with
    | stuck => rw [ea] at h; exact h
    | exc e S1 => rw [ea] at h; exact h
    | ok dx S1 =>
      rw [ea] at h
      simp only [R.bind] at h
      intro x H1 β1 e1 L1 rx
      cases dx with
      | str y =>
        simp only at h
        by_cases hz : (acc ++ y).length ≤ sizeLine
        · rw [if_pos hz] at h
          cases rx
          refine ⟨y, rfl, hz, tjs_of ⟨cf, oa, P, β1, ρ, S1, L1, ?_⟩⟩
          cases eb : mJs ms (acc ++ y) ρ S1 with
          | stuck => rw [eb] at h; exact h
          | exc e S2 =>
            rw [eb] at h
            intro cls d H' β' e2 L2 ex
            exact h cls d H' β' (e1.trans e2) L2 ex
          | ok d S2 =>
            rw [eb] at h
            intro v H' β' e2 L2 r
            exact h v H' β' (e1.trans e2) L2 r
        · rw [if_neg hz] at h; exact h.elim
      | _ => exact (show False from h).elim
theorem pm_joined {v1 v2 : Expr} {rest : List Expr} {ms : List EX} (h : PJM (ctOf X) W b X (v1 :: v2 :: rest) ms) : PM (ctOf X) W b X (.JoinedStr (v1 :: v2 :: rest) pos) (mJoined ms) :=
  PE_imp (pe_joined h.pj) fun σ H Q h => tjs_of h
end
end Mi

/-! Mi30: try .. except X as e; what is read of e. -/
namespace Mi
open PySem PySem.Spec PyProof.Rows L2

/-! ### the pure side -/
def noEx (ρ : Rho) : Bool := ρ.all fun s => match s with | .ex _ => false | _ => true
def SR.chk : SR → SR
  | .nx ρ S => if noEx ρ = true then .nx ρ S else .stuck
  | .bk ρ S => if noEx ρ = true then .bk ρ S else .stuck
  | .ct ρ S => if noEx ρ = true then .ct ρ S else .stuck
  | .exc e ρ S => if noEx ρ = true then .exc e ρ S else .stuck
  | .rt d S => .rt d S
  | .stuck => .stuck
/-- behind an except suite: the name is gone -/
def SR.unEx (i : Nat) : SR → SR
  | .nx ρ S => if noEx (ρ.set i .un) = true then .nx (ρ.set i .un) S else .stuck
  | .bk ρ S => if noEx (ρ.set i .un) = true then .bk (ρ.set i .un) S else .stuck
  | .ct ρ S => if noEx (ρ.set i .un) = true then .ct (ρ.set i .un) S else .stuck
  | .rt d S => .rt d S
  | .exc _ _ _ => .stuck
  | .stuck => .stuck
def sTry (g : Str → Option Bool) (i : Nat) (body suite : SX) : SX := fun ρ S => if noEx ρ = true then
    match (body ρ S).chk with
    | .exc e ρ1 S1 => match g e.cls with
      | some true => if i < ρ1.length then (suite (ρ1.set i (.ex e)) S1).unEx i else .stuck
      | some false => .exc e ρ1 S1
      | none => .stuck
    | r => r
  else .stuck
/-! ### soundness -/
section
variable {C C' : Ct} {cf : Cf} {oa : Nat → Option Addr} {P P' : Addr → Prop} {σ : L2.St} {H H' : Hp} {β β' : List Addr} {ρ : Rho} {S S' : Store}
theorem noEx_at (h : noEx ρ = true) {i : Nat} {e : Exn} (q : ρ[i]? = some (Sl.ex e)) : False := by
  have := List.all_eq_true.mp h _ (List.mem_of_getElem? q)
  exact Bool.false_ne_true this
theorem OwnAt.ct (k : C'.K = C.K) (m : C'.mg = C.mg) {a : Addr} {d : D} (h : OwnAt C H P β a d) : OwnAt C' H P β a d := by
  cases d <;> first | exact h.elim | skip
  · obtain ⟨xs, q, r⟩ := h; exact ⟨xs, q, r.ct k m⟩
  · obtain ⟨xs, q, r⟩ := h; exact ⟨xs, q, r.ct k m⟩
theorem LR.ct (k : C'.K = C.K) (m : C'.mg = C.mg) (L : LR C cf oa P σ H β ρ S) (hn : noEx ρ = true) : LR C' cf oa P σ H β ρ S where
  len := L.len
  p := L.p
  sub := L.sub
  p0 := L.p0
  ext := L.ext
  own := L.own
  inj := L.inj
  st := L.st.ct k m
  slot := fun i d h => let ⟨v, q1, q2⟩ := L.slot i d h; ⟨v, q1, q2.ct k m⟩
  oslot := fun i d h => let ⟨a, q1, q2, q3⟩ := L.oslot i d h; ⟨a, q1, q2, q3.ct k m⟩
  xslot := fun i e h => (noEx_at hn h).elim
/-- a slot is set to what is no value -/
theorem LR.setS (L : LR C cf oa P σ H β ρ S) {i : Nat} {w : Option V} {s : Sl} (h1 : ∀ d, s ≠ .sh d) (h2 : ∀ d, s ≠ .ow d) (h3 : ∀ e, s = .ex e → ∃ a, w = some (.ref a) ∧ XAt C H P β a e) :
    LR C cf (fun j => if j = i then none else oa j) P (σ.set i w) H β (ρ.set i s) S where
  len := by rw [List.length_set, List.length_set]; exact L.len
  p := L.p
  sub := L.sub
  p0 := L.p0
  ext := L.ext
  own := fun j a h => by
    by_cases e : j = i
    · rw [if_pos e] at h; cases h
    · rw [if_neg e] at h; exact L.own j a h
  inj := fun j k a h1 h2 => by
    by_cases e : j = i
    · rw [if_pos e] at h1; cases h1
    · by_cases e2 : k = i
      · rw [if_pos e2] at h2; cases h2
      · rw [if_neg e] at h1; rw [if_neg e2] at h2; exact L.inj j k a h1 h2
  st := L.st
  slot := fun j x h => by
    by_cases e : i = j
    · subst e
      by_cases hl : i < ρ.length
      · rw [List.getElem?_set_self hl] at h; cases h; exact (h1 _ rfl).elim
      · rw [List.getElem?_eq_none (by rw [List.length_set]; omega)] at h; cases h
    · rw [List.getElem?_set_ne e] at h
      obtain ⟨u, q1, q2⟩ := L.slot j x h
      exact ⟨u, by rw [List.getElem?_set_ne e]; exact q1, q2⟩
  oslot := fun j x h => by
    by_cases e : i = j
    · subst e
      by_cases hl : i < ρ.length
      · rw [List.getElem?_set_self hl] at h; cases h; exact (h2 _ rfl).elim
      · rw [List.getElem?_eq_none (by rw [List.length_set]; omega)] at h; cases h
    · rw [List.getElem?_set_ne e] at h
      obtain ⟨a, q0, q1, q2⟩ := L.oslot j x h
      exact ⟨a, by rw [if_neg fun z => e z.symm]; exact q0, by rw [List.getElem?_set_ne e]; exact q1, q2⟩
  xslot := fun j x h => by
    by_cases e : i = j
    · subst e
      by_cases hl : i < ρ.length
      · rw [List.getElem?_set_self hl] at h
        cases h
        obtain ⟨a, rfl, q⟩ := h3 _ rfl
        exact ⟨a, List.getElem?_set_self (by rw [L.len]; exact hl), q⟩
      · rw [List.getElem?_eq_none (by rw [List.length_set]; omega)] at h; cases h
    · rw [List.getElem?_set_ne e] at h
      obtain ⟨b, q1, q2⟩ := L.xslot j x h
      exact ⟨b, by rw [List.getElem?_set_ne e]; exact q1, q2⟩
theorem LR.setUn (L : LR C cf oa P σ H β ρ S) {i : Nat} {w : Option V} : LR C cf (fun j => if j = i then none else oa j) P (σ.set i w) H β (ρ.set i .un) S :=
  L.setS (fun _ z => nomatch z) (fun _ z => nomatch z) (fun _ z => nomatch z)
theorem SQ.ct {W : WX} {D : Ends} {r : SR} (k : C'.K = C.K) (m : C'.mg = C.mg) (h : SQ C W cf H P β D r.chk) : SQ C' W cf H P β D r := by
  cases r with
  | nx ρ1 S1 =>
    unfold SR.chk at h
    by_cases hn : noEx ρ1 = true
    · simp only [if_pos hn] at h
      exact fun σ' H' β' oa' P' L f => h σ' H' β' oa' P' (L.ct k.symm m.symm hn) f
    · simp only [if_neg hn] at h; exact h.elim
  | bk ρ1 S1 =>
    unfold SR.chk at h
    by_cases hn : noEx ρ1 = true
    · simp only [if_pos hn] at h
      exact fun σ' H' β' oa' P' L f => h σ' H' β' oa' P' (L.ct k.symm m.symm hn) f
    · simp only [if_neg hn] at h; exact h.elim
  | ct ρ1 S1 =>
    unfold SR.chk at h
    by_cases hn : noEx ρ1 = true
    · simp only [if_pos hn] at h
      exact fun σ' H' β' oa' P' L f => h σ' H' β' oa' P' (L.ct k.symm m.symm hn) f
    · simp only [if_neg hn] at h; exact h.elim
  | exc e ρ1 S1 =>
    unfold SR.chk at h
    by_cases hn : noEx ρ1 = true
    · simp only [if_pos hn] at h
      exact fun cls x σ' H' β' oa' P' L f q => h cls x σ' H' β' oa' P' (L.ct k.symm m.symm hn) f (q.ct k.symm m.symm)
    · simp only [if_neg hn] at h; exact h.elim
  | rt d S1 => exact fun v H' β' a f b c => h v H' β' a f (b.ct k.symm m.symm) (c.ct k.symm m.symm)
  | stuck => exact h
/-- the reading of a try's body: the context of the whole stands for it -/
def SMn (C : Ct) (W : WX) (m : SX) : TS := fun D σ H => ∃ cf oa P β ρ S, noEx ρ = true ∧ LR C cf oa P σ H β ρ S ∧ SQ C W cf H P β D (m ρ S).chk
theorem pss_n {X : Cx} {W : WX} {b : List Stmt} {m : SX} (k : C'.K = C.K) (g : C'.mg = C.mg) (h : PSSM C' W X b m) : PSs X b (SMn C W m) := PSs_imp h fun D σ H ⟨cf, oa, P, β, ρ, S, hn, L, q⟩ => ⟨cf, oa, P, β, ρ, S, L.ct k g hn, q.ct k g⟩
/-- what is wanted of a suite's result -/
def SQx (C : Ct) (i : Nat) (cf : Cf) (H : Hp) (P : Addr → Prop) (β : List Addr) (D : Ends) : SR → Prop
  | .nx ρ' S' => noEx (ρ'.set i .un) = true ∧ ∀ σ' H' β' oa' P', LR C cf oa' P' (σ'.set i none) H' β' (ρ'.set i .un) S' → Fx H P β H' P' β' → D.nx σ' H'
  | .bk ρ' S' => noEx (ρ'.set i .un) = true ∧ ∀ σ' H' β' oa' P', LR C cf oa' P' (σ'.set i none) H' β' (ρ'.set i .un) S' → Fx H P β H' P' β' → D.bk σ' H'
  | .ct ρ' S' => noEx (ρ'.set i .un) = true ∧ ∀ σ' H' β' oa' P', LR C cf oa' P' (σ'.set i none) H' β' (ρ'.set i .un) S' → Fx H P β H' P' β' → D.ct σ' H'
  | .rt d S' => ∀ v H' β', ExtL cf H' β' → Fs H β H' β' → SRel C H' cf.P0 β' S' → RV C H' cf.P0 β' v d → D.rt v H'
  | .exc _ _ _ => False
  | .stuck => False
def SMx (C : Ct) (i : Nat) (m : SX) (a : Addr) (cls : Value) (d : Option Addr) : TS := fun D σ H => ∃ cf oa P β ρ S e σ0, σ = σ0.set i (some (.ref a)) ∧ noEx ρ = true ∧ LR C cf oa P σ0 H β ρ S ∧ ExnAt C H P β cls d e ∧ SQx C i cf H P β D (m (ρ.set i (.ex e)) S)
end

abbrev WNo : WX := fun _ _ _ _ => False
section
variable {X : Cx} {W : WX} {i : Nat} {x n : Str} {c : Value} {body suite : List Stmt} {b₀ : Stmt} {np pos pos' : Pos} {mb ms : SX}
theorem pss_x {a : Addr} {oe : Obj} {cls : Value} {d : Option Addr} {pn : List (Addr × Obj)} (hz : Zc cls d oe) (hf : ∃ vs, oe.data = .fields vs) (h : PSSM (ctOf (X.suite a ((a, oe) :: pn))) WNo (X.suite a ((a, oe) :: pn)) body ms) :
    PSs (X.suite a ((a, oe) :: pn)) body (SMx (ctOf X) i ms a cls d) := PSs_imp h fun D σ H h => by
  obtain ⟨cf, oa, P, β, ρ, S, e, σ0, rfl, hn, L, ex, q⟩ := h
  obtain ⟨Ca, dd, vs, h1, h2, h3, h4, h5, h6, h7⟩ := ex
  have L1 : LR (ctOf (X.suite a ((a, oe) :: pn))) cf oa P σ0 H β ρ S := LR.ct (C := ctOf X) (C' := ctOf (X.suite a ((a, oe) :: pn))) rfl rfl L hn
  have xa : XAt (ctOf (X.suite a ((a, oe) :: pn))) H P β a e := ⟨oe, Ca, dd, vs, List.mem_cons_self, by rw [← h2, ← h3]; exact hz, hf, h1, h4, h5, h6, fun f y z => let ⟨v, q1, q2⟩ := h7 f y z; ⟨v, q1, RV.ct (C := ctOf X) (C' := ctOf (X.suite a ((a, oe) :: pn))) rfl rfl q2⟩⟩
  have L2 := L1.setS (i := i) (w := some (.ref a)) (s := .ex e) (fun _ z => nomatch z) (fun _ z => nomatch z) (fun e' z => by cases z; exact ⟨a, rfl, xa⟩)
  refine ⟨cf, _, P, β, _, S, L2, ?_⟩
  cases er : ms (ρ.set i (.ex e)) S with
  | nx ρ1 S1 => rw [er] at q; exact fun σ' H' β' oa' P' L f => q.2 σ' H' β' _ P' (LR.ct (C := ctOf (X.suite a ((a, oe) :: pn))) (C' := ctOf X) rfl rfl (L.setUn (i := i)) q.1) f
  | bk ρ1 S1 => rw [er] at q; exact fun σ' H' β' oa' P' L f => q.2 σ' H' β' _ P' (LR.ct (C := ctOf (X.suite a ((a, oe) :: pn))) (C' := ctOf X) rfl rfl (L.setUn (i := i)) q.1) f
  | ct ρ1 S1 => rw [er] at q; exact fun σ' H' β' oa' P' L f => q.2 σ' H' β' _ P' (LR.ct (C := ctOf (X.suite a ((a, oe) :: pn))) (C' := ctOf X) rfl rfl (L.setUn (i := i)) q.1) f
  | rt d1 S1 => rw [er] at q; exact fun v H' β' a f b c => q v H' β' a f (SRel.ct (C := ctOf (X.suite _ ((_, oe) :: pn))) (C' := ctOf X) rfl rfl b) (RV.ct (C := ctOf (X.suite _ ((_, oe) :: pn))) (C' := ctOf X) rfl rfl c)
  | exc e1 ρ1 S1 => rw [er] at q; exact q.elim
  | stuck => rw [er] at q; exact q
theorem sqx_of {cf : Cf} {H H1 : Hp} {P P1 : Addr → Prop} {β β1 : List Addr} {D : Ends} {r : SR} (f1 : Fx H P β H1 P1 β1) (h : SQ (ctOf X) W cf H P β D (r.unEx i)) :
    SQx (ctOf X) i cf H1 P1 β1 { nx := fun σ' H' => D.nx (σ'.set i none) H', rt := D.rt, bk := fun σ' H' => D.bk (σ'.set i none) H', ct := fun σ' H' => D.ct (σ'.set i none) H' } r := by
  cases r with
  | nx ρ1 S1 =>
    unfold SR.unEx at h
    by_cases hn : noEx (ρ1.set i .un) = true
    · simp only [if_pos hn] at h
      exact ⟨hn, fun σ' H' β' oa' P' L f => h _ H' β' oa' P' L (f1.trans f)⟩
    · simp only [if_neg hn] at h; exact h.elim
  | bk ρ1 S1 =>
    unfold SR.unEx at h
    by_cases hn : noEx (ρ1.set i .un) = true
    · simp only [if_pos hn] at h
      exact ⟨hn, fun σ' H' β' oa' P' L f => h _ H' β' oa' P' L (f1.trans f)⟩
    · simp only [if_neg hn] at h; exact h.elim
  | ct ρ1 S1 =>
    unfold SR.unEx at h
    by_cases hn : noEx (ρ1.set i .un) = true
    · simp only [if_pos hn] at h
      exact ⟨hn, fun σ' H' β' oa' P' L f => h _ H' β' oa' P' L (f1.trans f)⟩
    · simp only [if_neg hn] at h; exact h.elim
  | rt d1 S1 => exact fun v H' β' a f b c => h v H' β' a (f1.fs.trans f) b c
  | exc e1 ρ1 S1 => exact h.elim
  | stuck => exact h
/-- try: body / except x as n: suite -/
theorem ps_tryM {g : Str → Option Bool} (hs : X.stack = X.env :: X.outer) (hf : X.env.frame = some X.env.locals) (hN : X.N.Nodup) (hi : X.N[i]? = some n) (hln : X.env.kindOf n = some .local) (hc : Names X x c) (tk : Takes X W)
    (hg : ∀ y b, g y = some b → ∀ Ca, X.mg y = some (.ref Ca) → PySem.W.exmOne X.K (.ref Ca) c = some b)
    (hb : ∀ (W' : WX) (pn : List (Addr × Obj)) (xe : Value → Shared → Prop), Takes (X.tr pn xe) W' → PassesOwn (model X.prog X.w) X.A X.env xe → PSSM (ctOf (X.tr pn xe)) W' (X.tr pn xe) body mb)
    (hsu : ∀ (a : Addr) (oe : Obj) (pn : List (Addr × Obj)), PSSM (ctOf (X.suite a ((a, oe) :: pn))) WNo (X.suite a ((a, oe) :: pn)) (b₀ :: suite) ms) :
    PSM (ctOf X) W X (.Try body [.ExceptHandler (some (.Name x np)) (some n) (b₀ :: suite) pos'] [] [] pos) (sTry g i mb ms) :=
  PS_imp (ps_try_as (i := i) (tb := fun W' => SMn (ctOf X) W' mb) (ts := fun a cls d => SMx (ctOf X) i ms a cls d) hs hf hN hi hln hc tk (fun W' pn xe t p => pss_n (C := ctOf X) (C' := ctOf (X.tr pn xe)) rfl rfl (hb W' pn xe t p)) (fun a oe cls d pn hz hf => pss_x hz hf (hsu a oe pn))) fun D σ H h => by
    obtain ⟨cf, oa, P, β, ρ, S, L, h⟩ := h
    unfold sTry at h
    by_cases hn : noEx ρ = true
    · rw [if_pos hn] at h
      refine ⟨cf, oa, P, β, ρ, S, hn, L, ?_⟩
      have hchk : ∀ {e : Exn} {ρ1 : Rho} {S1 : Store}, (mb ρ S).chk = .exc e ρ1 S1 → noEx ρ1 = true := by
        intro e ρ1 S1 z
        cases er : mb ρ S with
        | exc e2 ρ2 S2 =>
          rw [er] at z
          unfold SR.chk at z
          by_cases h2 : noEx ρ2 = true
          · simp only [if_pos h2] at z; cases z; exact h2
          · simp only [if_neg h2] at z; cases z
        | nx ρ2 S2 => rw [er] at z; unfold SR.chk at z; by_cases h2 : noEx ρ2 = true <;> simp only [h2, if_true, if_false, Bool.false_eq_true] at z <;> cases z
        | bk ρ2 S2 => rw [er] at z; unfold SR.chk at z; by_cases h2 : noEx ρ2 = true <;> simp only [h2, if_true, if_false, Bool.false_eq_true] at z <;> cases z
        | ct ρ2 S2 => rw [er] at z; unfold SR.chk at z; by_cases h2 : noEx ρ2 = true <;> simp only [h2, if_true, if_false, Bool.false_eq_true] at z <;> cases z
        | rt d2 S2 => rw [er] at z; cases z
        | stuck => rw [er] at z; cases z
      cases er : (mb ρ S).chk with
      | exc e ρ1 S1 =>
        have hn1 := hchk er
        rw [er] at h
        simp only at h
        intro cls d σ' H' β' oa' P' L1 f1 ea
        obtain ⟨Ca, dd, vs, h1, h2, h3, hr⟩ := id ea
        cases eg : g e.cls with
        | none => rw [eg] at h; exact h.elim
        | some b =>
          refine ⟨b, by rw [h2]; exact hg _ _ eg _ h1, fun hb1 a ha => ?_, fun hb0 => ?_⟩
          · subst hb1
            rw [eg] at h
            simp only at h
            by_cases hl : i < ρ1.length
            · rw [if_pos hl] at h
              exact ⟨cf, oa', P', β', ρ1, S1, e, σ', rfl, hn1, L1, ea, sqx_of f1 h⟩
            · rw [if_neg hl] at h; exact h.elim
          · subst hb0
            rw [eg] at h
            exact h cls d σ' H' β' oa' P' L1 f1 ea
      | nx ρ1 S1 => rw [er] at h; exact h
      | bk ρ1 S1 => rw [er] at h; exact h
      | ct ρ1 S1 => rw [er] at h; exact h
      | rt d S1 => rw [er] at h; exact h
      | stuck => rw [er] at h; exact h
    · rw [if_neg hn] at h; exact h.elim
end
end Mi

/-! Mi31: what is read of a caught exception: e.f, isinstance(e, ..); classes as values. -/
namespace Mi
open PySem PySem.Spec PyProof.Rows L2

/-! ### the pure side -/
/-- e.f -/
def mXf (cs : List Str) (i : Nat) (f : Str) : EX := fun ρ S => match ρ[i]? with
  | some (.ex e) => if cs.contains e.cls = true then R.opt (e.fs.lookup f) S else .stuck
  | _ => .stuck
/-- isinstance(e, ..) by a table: class, class asked for -/
def xisOne (T : List ((Str × Str) × Bool)) (U : List ((Str × String) × Bool)) (c : Str) : D → Option Bool
  | .fn x => T.lookup (c, x)
  | .ty n => U.lookup (c, n)
  | _ => none
def xisAny (T : List ((Str × Str) × Bool)) (U : List ((Str × String) × Bool)) (c : Str) : List D → Option Bool
  | [] => some false
  | d :: r => match xisOne T U c d with
    | some true => (xisAny T U c r).map fun _ => true
    | some false => xisAny T U c r
    | none => none
def xis (T : List ((Str × Str) × Bool)) (U : List ((Str × String) × Bool)) (c : Str) : D → Option Bool
  | .tup ds => xisAny T U c ds
  | d => xisOne T U c d
def mXis (cs : List Str) (T : List ((Str × Str) × Bool)) (U : List ((Str × String) × Bool)) (i : Nat) (a : EX) : EX := fun ρ S => match ρ[i]? with
  | some (.ex e) => if cs.contains e.cls = true then (a ρ S).bind fun d S1 => R.opt ((xis T U e.cls d).map D.bl) S1 else .stuck
  | _ => .stuck

/-! ### what is known of the classes -/
def XEok (K : PySem.W.Frag) (mg : Str → Option Value) : List Str → Prop
  | [] => True
  | c :: r => (∃ Ca, mg c = some (.ref Ca) ∧ ExcC K Ca) ∧ XEok K mg r
def XTok (K : PySem.W.Frag) (mg : Str → Option Value) : List ((Str × Str) × Bool) → Prop
  | [] => True
  | p :: r => (∃ Ca Da, mg p.1.1 = some (.ref Ca) ∧ mg p.1.2 = some (.ref Da) ∧ PySem.W.kitOne K (.ref Ca) (.ref Da) = some p.2) ∧ XTok K mg r
def XUok (K : PySem.W.Frag) (mg : Str → Option Value) : List ((Str × String) × Bool) → Prop
  | [] => True
  | p :: r => (∃ Ca, mg p.1.1 = some (.ref Ca) ∧ PySem.W.kitOne K (.ref Ca) (.type p.1.2) = some p.2) ∧ XUok K mg r
def XCok (K : PySem.W.Frag) (mg : Str → Option Value) (c : Value) : List (Str × Bool) → Prop
  | [] => True
  | p :: r => (∃ Ca, mg p.1 = some (.ref Ca) ∧ PySem.W.exmOne K (.ref Ca) c = some p.2) ∧ XCok K mg c r
def XFok (K : PySem.W.Frag) (mg : Str → Option Value) (f : Str) : List Str → Prop
  | [] => True
  | c :: r => (∃ Ca, mg c = some (.ref Ca) ∧ PySem.W.findIn K (.ref Ca) f = some none) ∧ XFok K mg f r
section
variable {K : PySem.W.Frag} {mg : Str → Option Value}
theorem XEok.at : ∀ {cs : List Str}, XEok K mg cs → ∀ {c : Str}, cs.contains c = true → ∀ {Ca : Addr}, mg c = some (.ref Ca) → ExcC K Ca
  | [], _, _, q, _, _ => by cases q
  | c :: r, ⟨⟨Ca, h1, h2⟩, h⟩, x, q, Da, hx => by
    rw [List.contains_cons, Bool.or_eq_true] at q
    rcases q with q | q
    · rw [eq_of_beq q, h1] at hx
      cases hx
      exact h2
    · exact XEok.at h q hx
theorem XFok.at {f : Str} : ∀ {cs : List Str}, XFok K mg f cs → ∀ {c : Str}, cs.contains c = true → ∀ {Ca : Addr}, mg c = some (.ref Ca) → PySem.W.findIn K (.ref Ca) f = some none
  | [], _, _, q, _, _ => by cases q
  | c :: r, ⟨⟨Ca, h1, h2⟩, h⟩, x, q, Da, hx => by
    rw [List.contains_cons, Bool.or_eq_true] at q
    rcases q with q | q
    · rw [eq_of_beq q, h1] at hx
      cases hx
      exact h2
    · exact XFok.at h q hx
theorem XTok.at : ∀ {T : List ((Str × Str) × Bool)}, XTok K mg T → ∀ {c x : Str} {b : Bool}, T.lookup (c, x) = some b → ∀ {Ca Da : Addr}, mg c = some (.ref Ca) → mg x = some (.ref Da) → PySem.W.kitOne K (.ref Ca) (.ref Da) = some b
  | [], _, _, _, _, q, _, _, _, _ => by cases q
  | ((c1, x1), b1) :: r, ⟨⟨C1, D1, h1, h2, h3⟩, h⟩, c, x, b, q, Ca, Da, hc, hx => by
    rw [List.lookup_cons] at q
    by_cases e : (c, x) == (c1, x1)
    · simp only [e, if_true] at q
      have e' := eq_of_beq e
      cases e'
      cases q
      rw [hc] at h1; cases h1
      rw [hx] at h2; cases h2
      exact h3
    · simp only [Bool.not_eq_true] at e
      simp only [e, Bool.false_eq_true, if_false] at q
      exact XTok.at h q hc hx
theorem XUok.at : ∀ {T : List ((Str × String) × Bool)}, XUok K mg T → ∀ {c : Str} {n : String} {b : Bool}, T.lookup (c, n) = some b → ∀ {Ca : Addr}, mg c = some (.ref Ca) → PySem.W.kitOne K (.ref Ca) (.type n) = some b
  | [], _, _, _, _, q, _, _ => by cases q
  | ((c1, x1), b1) :: r, ⟨⟨C1, h1, h3⟩, h⟩, c, x, b, q, Ca, hc => by
    rw [List.lookup_cons] at q
    by_cases e : (c, x) == (c1, x1)
    · simp only [e, if_true] at q
      have e' := eq_of_beq e
      cases e'
      cases q
      rw [hc] at h1; cases h1
      exact h3
    · simp only [Bool.not_eq_true] at e
      simp only [e, Bool.false_eq_true, if_false] at q
      exact XUok.at h q hc
theorem XCok.at {k : Value} : ∀ {T : List (Str × Bool)}, XCok K mg k T → ∀ {c : Str} {b : Bool}, T.lookup c = some b → ∀ {Ca : Addr}, mg c = some (.ref Ca) → PySem.W.exmOne K (.ref Ca) k = some b
  | [], _, _, _, q, _, _ => by cases q
  | (c1, b1) :: r, ⟨⟨C1, h1, h3⟩, h⟩, c, b, q, Ca, hc => by
    rw [List.lookup_cons] at q
    by_cases e : c == c1
    · simp only [e, if_true] at q
      have e' := eq_of_beq e
      cases e'
      cases q
      rw [hc] at h1; cases h1
      exact h3
    · simp only [Bool.not_eq_true] at e
      simp only [e, Bool.false_eq_true, if_false] at q
      exact XCok.at h q hc
end

/-! ### soundness -/
/-- isinstance(e, c) of a caught exception -/
def rXis (X : Cx) : List V → Hp → VK → Prop := fun xs H Q => ∃ (a : Addr) (oe : Obj) (Ca dd : Addr) (fs : List (Str × V)) (c : V) (b : Bool), xs = [.ref a, c] ∧ (a, oe) ∈ X.pn ∧ Zc (.ref Ca) (some dd) oe ∧ (∃ ws, oe.data = .fields ws) ∧ H dd = some (.xd fs) ∧ ExcC X.K Ca ∧
  ((∃ u, ClsV c u ∧ PySem.W.kitOne X.K (.ref Ca) u = some b) ∨ ∃ tp cs us, c = .ref tp ∧ SqT X.K H tp cs ∧ Paired ClsV cs us ∧ PySem.W.kitAny X.K (.ref Ca) us = some b) ∧ Q (.bl b) H
section
variable {X : Cx} {W : WX} {b : Bool} {i : Nat} {n f x : Str} {p pn pos : Pos} {t : Expr} {mt : EX} {cs : List Str} {T : List ((Str × Str) × Bool)} {U : List ((Str × String) × Bool)}
theorem call_xis : CallR X (.builtin "isinstance") (rXis X) := by
  intro pins s σ H xs us Q I r h
  obtain ⟨a, oe, Ca, dd, fs, c, b, rfl, hp, hz, ⟨ws, hd⟩, hx, E, hk, q⟩ := h
  obtain ⟨u1, u2, rfl, r1, r2⟩ := vals2 r
  cases (show u1 = Value.ref a from r1)
  obtain ⟨ha, _⟩ := I.pin (a, oe) (List.mem_append_left _ hp)
  obtain ⟨mA, hns, _⟩ := (show ObjOk X.prog X.w H s.heap dd (.xd fs) from I.hok dd _ hx)
  obtain ⟨od, ho, _⟩ := lookIn_ns hns
  have J : PySem.W.InstAt s.heap a oe Ca (some od) := ⟨ha, hz.1, by unfold PySem.W.notCls; rw [hd] <;> rfl, by rw [hz.2]; exact ho⟩
  have Z := PySem.W.kitx_exc (x := a) (ox := oe) (od := some od) (by obtain ⟨cd, hc, _⟩ := PySem.W.any_some E.hd; rw [hc]; rfl) E.hg E.hk E.hs E.ha E.hn E.ht E.hm
  rcases hk with ⟨u, k, e⟩ | ⟨tp, cs, us, rfl, hT, k, e⟩
  · have e2 := k.eq r2
    subst e2
    exact PySem.W.kia_one Z I.kIn J e (fun z => nomatch z) fun tk => ⟨.bl b, H, I.tok tk, rfl, q⟩
  · cases (show u2 = Value.ref tp from r2)
    obtain ⟨its, rv, ⟨o, h1, h2, n, h3⟩, _⟩ := I.tuple hT
    have e3 := ClsV.all k rv
    subst e3
    obtain ⟨oc, od', dt, sl⟩ := o
    simp only at h2 h3
    subst h2 h3
    exact PySem.W.kia_tup Z I.kIn J h1 e (fun z => nomatch z) fun tk => ⟨.bl b, H, I.tok tk, rfl, q⟩
theorem xis_one {C : Ct} {Ca : Addr} {e : Exn} {H : Hp} {Z : Addr → Prop} {β : List Addr} {v : V} {d : D} {r : Bool} (hT : XTok C.K C.mg T) (hU : XUok C.K C.mg U) (hc : C.mg e.cls = some (.ref Ca)) (rv : RV C H Z β v d) (h : xisOne T U e.cls d = some r) :
    ∃ u, ClsV v u ∧ PySem.W.kitOne C.K (.ref Ca) u = some r := by
  cases d with
  | fn y =>
    cases rv with
    | fn hm hk => exact ⟨_, .own _, hT.at h hc hm⟩
  | ty n =>
    cases rv
    exact ⟨_, .ty _, hU.at h hc⟩
  | _ => cases h
theorem kitAny_cons {K : PySem.W.Frag} {t c : Value} {r : List Value} {b1 b : Bool} (h1 : PySem.W.kitOne K t c = some b1) (h2 : b1 = true ∧ b = true ∨ b1 = false ∧ PySem.W.kitAny K t r = some b) : PySem.W.kitAny K t (c :: r) = some b := by
  unfold PySem.W.kitAny
  rw [h1]
  rcases h2 with ⟨rfl, rfl⟩ | ⟨rfl, h2⟩
  · rfl
  · exact h2
theorem xis_any {C : Ct} {Ca : Addr} {e : Exn} {H : Hp} {Z : Addr → Prop} {β : List Addr} (hT : XTok C.K C.mg T) (hU : XUok C.K C.mg U) (hc : C.mg e.cls = some (.ref Ca)) : ∀ {vs : List V} {ds : List D} {r : Bool}, RVs C H Z β vs ds → xisAny T U e.cls ds = some r →
    ∃ us, Paired ClsV vs us ∧ PySem.W.kitAny C.K (.ref Ca) us = some r
  | _, [], r, .nil, h => by cases h; exact ⟨[], .nil, rfl⟩
  | _, d :: ds, r, .cons rv rs, h => by
    unfold xisAny at h
    cases e1 : xisOne T U e.cls d with
    | none => rw [e1] at h; cases h
    | some b1 =>
      obtain ⟨u, k1, k2⟩ := xis_one hT hU hc rv e1
      rw [e1] at h
      cases b1 with
      | true =>
        simp only at h
        cases e2 : xisAny T U e.cls ds with
        | none => rw [e2] at h; cases h
        | some b2 =>
          rw [e2] at h
          cases h
          obtain ⟨us, q1, q2⟩ := xis_any hT hU hc rs e2
          exact ⟨u :: us, .cons k1 q1, kitAny_cons k2 (.inl ⟨rfl, rfl⟩)⟩
      | false =>
        simp only at h
        obtain ⟨us, q1, q2⟩ := xis_any hT hU hc rs h
        exact ⟨u :: us, .cons k1 q1, kitAny_cons k2 (.inr ⟨rfl, q2⟩)⟩
theorem pm_xis (hE : XEok X.K X.mg cs) (hT : XTok X.K X.mg T) (hU : XUok X.K X.mg U) (hv : PE X (.Name n pn) (tVar i)) (ht : PM (ctOf X) W b X t mt) (hm : X.mg x = none) (hb : bootBuiltins x = some (.builtin "isinstance"))
    (hg : Gl X x := by rfl) (hn : x ≠ "__name__" := by decide) (hdb : (x == ("__debug__" : Str)) = false := by decide)
    (he1 : starEach [.Name n pn, t] X.env = (false, eval (.Name n pn) X.env) :: starEach [t] X.env := by rfl) (he2 : starEach [t] X.env = (false, eval t X.env) :: starEach [] X.env := by rfl) (hpl : (backTo pos (starEach [t] X.env)).any (·.1) = false := by rfl) :
    PM (ctOf X) W b X (.Call (.Name x p) [.Name n pn, t] [] pos) (mXis cs T U i mt) :=
  PE_imp (pe_callB call_xis hg hm hb (pa_cons hv (pa_cons ht pa_nil he2) he1) hn hdb he1 hpl) fun σ H Q h => by
    obtain ⟨cf, oa, P, β, ρ, S, L, h⟩ := h
    unfold mXis at h
    cases ei : ρ[i]? with
    | none => rw [ei] at h; exact h.elim
    | some sl =>
      rw [ei] at h
      cases sl with
      | un => exact h.elim
      | sh _ => exact h.elim
      | ow _ => exact h.elim
      | ex e =>
        simp only at h
        by_cases hc : cs.contains e.cls = true
        · rw [if_pos hc] at h
          obtain ⟨a, q1, xa⟩ := L.xslot i e ei
          refine ⟨.ref a, q1, cf, oa, P, β, ρ, S, L, ?_⟩
          cases ea : mt ρ S with
          | stuck => rw [ea] at h; exact h
          | exc e1 S1 => rw [ea] at h; exact h
          | ok d S1 =>
            rw [ea] at h
            simp only [R.bind] at h
            intro v H1 β1 t1 L1 rv
            obtain ⟨oe, Ca, dd, vs, h1, h2, h3, h4, h5, h6, h7, h8⟩ := xa.mono t1.ext
            cases ex : xis T U e.cls d with
            | none => rw [ex] at h; exact h.elim
            | some r =>
              rw [ex] at h
              refine ⟨a, oe, Ca, dd, vs, v, r, rfl, h1, h2, h3, h5, hE.at hc h4, ?_, h _ H1 β1 t1 L1 (.bl r)⟩
              unfold xis at ex
              split at ex
              · obtain ⟨tp, us, rfl, w1, w2⟩ := rv.viewT rfl
                obtain ⟨ks, z1, z2⟩ := xis_any hT hU h4 w2 ex
                exact .inr ⟨tp, us, ks, rfl, w1, z1, z2⟩
              · exact .inl (xis_one hT hU h4 rv ex)
        · rw [if_neg hc] at h; exact h.elim
/-- e.f -/
theorem pm_xf (hE : XEok X.K X.mg cs) (hF : XFok X.K X.mg f cs) (hv : PE X (.Name n pn) (tVar i)) (hb : attributeBase (.Name n pn) f X.env (eval (.Name n pn) X.env) = eval (.Name n pn) X.env := by rfl) : PM (ctOf X) W b X (.Attribute (.Name n pn) f pos) (mXf cs i f) := by
  refine ⟨fun pins s σ H Q I h => ?_⟩
  obtain ⟨cf, oa, P, β, ρ, S, L, h⟩ := h
  unfold mXf at h
  cases ei : ρ[i]? with
  | none => rw [ei] at h; exact h.elim
  | some sl =>
    rw [ei] at h
    cases sl with
    | un => exact h.elim
    | sh _ => exact h.elim
    | ow _ => exact h.elim
    | ex e =>
      simp only at h
      by_cases hc : cs.contains e.cls = true
      · rw [if_pos hc] at h
        obtain ⟨a, q1, oe, Ca, dd, vs, h1, h2, h3, h4, h5, h6, h7, h8⟩ := L.xslot i e ei
        cases ef : e.fs.lookup f with
        | none => rw [ef] at h; exact h.elim
        | some d =>
          rw [ef] at h
          obtain ⟨v, l, rv⟩ := h8 f d ef
          have q := h v H β Tr.refl L rv
          have E := hE.at hc h4
          refine attr_of hb (thn (hv.run pins s σ H (fun v' H' => v' = .ref a ∧ H' = H) I ⟨.ref a, q1, rfl, rfl⟩) fun u s1 hh => ?_)
          obtain ⟨v', H', I1, rx, rfl, rfl⟩ := hh
          obtain rfl : u = Value.ref a := rx
          obtain ⟨ha, _⟩ := I1.pin (a, oe) (List.mem_append_left _ h1)
          obtain ⟨ws, hd⟩ := h3
          obtain ⟨mA, hns, hr⟩ := (show ObjOk X.prog X.w H' s1.heap dd (.xd vs) from I1.hok dd _ h5)
          obtain ⟨od, ho, hl⟩ := lookIn_ns hns
          obtain ⟨u, hu, ru⟩ := RelO.some_of (v := v) (o := mA f) (by rw [← l]; exact hr f)
          have J : PySem.W.InstAt s1.heap a oe Ca (some od) := ⟨ha, h2.1, by unfold PySem.W.notCls; rw [hd] <;> rfl, by rw [h2.2]; exact ho⟩
          exact HandSPX.exc_get I1.kIn J E.hg E.hk E.hs (PySem.W.findObj_own E.hd (hF.at hc h4) rfl (by rw [hl, hu])) (handed_of ru) ⟨v, H', I1.tok _, ru, q⟩
      · rw [if_neg hc] at h; exact h.elim
/-- a class of the module as a value -/
theorem pm_cls {Ca : Addr} (hm : X.mg x = some (.ref Ca)) (hk : PySem.W.keepIn X.K (.ref Ca) = true) (hg : Gl X x := by rfl) (hdb : (x == ("__debug__" : Str)) = false := by decide) : PM (ctOf X) W b X (.Name x p) (mC (.fn x)) :=
  pm_glob (v := .ref Ca) hm rfl (fun _ _ _ => .fn hm hk) hg hdb
end
end Mi

/-! Mi32: raise C(..), C an own class with its own __init__. -/
namespace Mi
open PySem PySem.Spec PyProof.Rows L2

/-! ### the pure side -/
/-- raise c(..): its __init__ writes the message msg and sets the fields fs to its parameters -/
def sRaise (c : Str) (fs : List Str) (msg : EX) (a : AX) : SX := fun ρ S => match a ρ S with
  | .ok ds S1 => if ds.length = fs.length then match msg (.un :: ds.map Sl.sh) S1 with
      | .ok _ _ => .exc ⟨c, fs.zip ds⟩ ρ S1
      | _ => .stuck
    else .stuck
  | .exc e S1 => .exc e ρ S1
  | .stuck => .stuck

/-! ### an __init__ -/
/-- the base class's __init__ is ValueError's -/
structure BIni (K : PySem.W.Frag) (B : Addr) : Prop where
  rd : PySem.W.readsIn K B (.type "type") = true
  fv : PySem.W.findCls K (.ref B) (.type "type") "__init__" = some (.val (.builtin "ValueError.__init__"))
  sg : PySem.W.specialIn K (.ref B) "__getattribute__" = some (some (.builtin "type.__getattribute__"))
section
variable {X : Cx} {e : Expr} {es : List Expr} {ta : TA} {bx : Str} {B : Addr} {p1 p2 pos : Pos}
theorem pe_binit {pl : Sem Bool} (hm : X.mg bx = some (.ref B)) (T : BIni X.K B) (ha : PA X (e :: es) ta) (hg : Gl X bx := by rfl) (hdb : (bx == ("__debug__" : Str)) = false := by decide)
    (hc : eval (.Call (.Attribute (.Name bx p1) "__init__" p2) (e :: es) [] pos) X.env = (do
      let ov ← eval (.Name bx p1) X.env
      standAt p2.atName
      let (f, first) ← holding [ov] (getMethod ov "__init__" pl)
      callWith pos f first (backTo pos (starEach (e :: es) X.env)) (backToKw pos (keywordEach [] X.env))) := by rfl)
    (he : starEach (e :: es) X.env = (false, eval e X.env) :: starEach es X.env := by rfl) (hpl : (backTo pos (starEach es X.env)).any (·.1) = false := by rfl) :
    PE X (.Call (.Attribute (.Name bx p1) "__init__" p2) (e :: es) [] pos) (tVeI X.K ta) := by
  refine ⟨fun pins s σ H Q I h => ?_⟩
  refine PySem.W.methodCall_KW (ld_glob I hg hm ?_ hdb) hc
  refine PySem.W.method_cls I.kIn T.sg (PySem.W.cls_value I.kIn T.rd T.fv (by decide +kernel) ?_)
  show wpAny _ _ (callWith pos (Value.builtin "ValueError.__init__") [] (backTo pos (starEach (e :: es) X.env)) []) _ _ _
  refine PyProof.Rows.callWith_method1 (thn (ha.run pos pins _ σ H _ (I.tok _) h) fun us s1 ⟨vs, H1, I1, r1, a, C, ws, ev, hl, T, ea, q⟩ => ?_) he hpl
  subst ev
  cases r1 with
  | @cons _ u0 _ ur ra rw' =>
    obtain rfl : u0 = Value.ref a := ra
    have hlen : ur.length ≤ sizeLine := by
      rw [← Paired.length rw', sizeLine_eq]
      omega
    exact oinit_ok T I1 ea hlen fun s' J => ⟨.non, H1, J, rfl, q⟩
end
/-- what an __init__ of the class at Ca promises -/
def spI (C : Ct) (Ca : Addr) (n : Nat) (msg : EX) (fs : List Str) : Sp := fun vs H Q E => ∃ a ws, vs = V.ref a :: ws ∧ ws.length = n ∧ H a = some (exo a Ca none) ∧
  ∃ P β ds S, SRel C H P β S ∧ (∀ b, P b → H b ≠ none ∧ b ∉ β) ∧ RVs C H P β ws ds ∧ (∃ d S', msg (.un :: ds.map Sl.sh) S = .ok d S') ∧
  ∀ H1 dd, Same H H1 → H1 dd = none → dd ≠ a → Q .non (upd (upd H1 dd (exd dd (fs.zip ws).reverse)) a (exo a Ca (some dd)))
theorem LR.startI {C : Ct} {H : Hp} {P : Addr → Prop} {β : List Addr} {S : Store} {a : Addr} {ws : List V} {ds : List D} {N : List Str} (st : SRel C H P β S) (hp : ∀ a, P a → H a ≠ none ∧ a ∉ β) (r : RVs C H P β ws ds) (hN : N.length = ds.length + 1) :
    LR C ⟨H, β, P, []⟩ (fun _ => none) P (L2.start N (.ref a :: ws)) H β (.un :: ds.map Sl.sh) S where
  len := by unfold L2.start; simp [r.length, hN]
  p := hp
  sub := fun _ h => h
  p0 := fun a h => (hp a h).1
  ext := ⟨⟨[], (List.append_nil β).symm⟩, fun a o h _ => .inl h, fun _ h => .inl h, fun _ _ h => h, fun _ h => h, fun _ _ _ h => h⟩
  own := fun _ _ h => nomatch h
  inj := fun _ _ _ h => nomatch h
  st := st
  slot := fun i d h => by
    cases i with
    | zero => cases h
    | succ i =>
      rw [List.getElem?_cons_succ, List.getElem?_map] at h
      cases e : ds[i]? with
      | none => rw [e] at h; cases h
      | some x =>
        rw [e] at h
        cases h
        obtain ⟨v, hv, rv⟩ := r.get e
        refine ⟨v, ?_, rv⟩
        have hi : i < ws.length := (List.getElem?_eq_some_iff.mp hv).1
        unfold L2.start
        rw [List.getElem?_append_left (by simp; omega), List.getElem?_map, List.getElem?_cons_succ, hv]
        rfl
  oslot := fun i d h => by
    cases i with
    | zero => cases h
    | succ i =>
      rw [List.getElem?_cons_succ, List.getElem?_map] at h
      cases e : ds[i]? with
      | none => rw [e] at h; cases h
      | some x => rw [e] at h; cases h
  xslot := fun i d h => by
    cases i with
    | zero => cases h
    | succ i =>
      rw [List.getElem?_cons_succ, List.getElem?_map] at h
      cases e : ds[i]? with
      | none => rw [e] at h; cases h
      | some x => rw [e] at h; cases h
section
variable {P : Program} {w : World} {K : PySem.W.Frag} {mg : Str → Option Value} {base : Heap}
/-- __init__(self, v): B.__init__(self, msg); self.f = v -/
theorem init1_ok {x qual f v : Str} {st : Stmt} {fa Ca : Addr} {fd : FuncData} {k : Nat} {msg : EX} {s1 s2 : Stmt} (F : Fun K x qual st fa fd) (S : FnScope ["self", v] ["self", v] (defScope st)) (O : OexC K Ca) (hf : PySem.W.findIn K (.ref Ca) f = some none) (hst : defBody st = [s1, s2])
    (h1 : ∀ (cdv : Value) (A : Around) (outer : List Env) (s : Shared) (H : Hp) (E : XK), (XOf P w K mg base ["self", v] qual st fa cdv A outer s H E).A.guards = some [] → Room k (XOf P w K mg base ["self", v] qual st fa cdv A outer s H E).A →
      PS (XOf P w K mg base ["self", v] qual st fa cdv A outer s H E) s1 (tDrop (tVeI K (tCons (tVar 0) (tCons (EM ⟨K, mg, w, []⟩ WNo true msg) tNil)))) ∧
      PS (XOf P w K mg base ["self", v] qual st fa cdv A outer s H E) s2 (tOst K f (tVar 0) (tVar 1))) : FnG P w K mg base (k + 1) fa fd ["self", v] (spI ⟨K, mg, w, []⟩ Ca 1 msg [f]) := by
  refine fng_of F S (fun vs H Q E ⟨a, ws, e, hl, _⟩ => by rw [e]; simp [hl]) fun cdv A outer s H vs Q E hg hr h => ?_
  obtain ⟨p1, p2⟩ := h1 cdv A outer s H E hg hr
  rw [hst]
  refine ⟨_, pss_cons p1 (pss_cons p2 pss_nil), ?_⟩
  obtain ⟨a, ws, rfl, hl, ea, Pf, β, ds, St, hs, hp, r, ⟨d, S', em⟩, q⟩ := h
  match ws, hl with
  | [y], _ =>
    have hN : (["self", v] : List Str).length = ds.length + 1 := by rw [← r.length]; rfl
    refine ⟨.ref a, rfl, ⟨H, β, Pf, []⟩, _, Pf, β, _, St, LR.startI hs hp r hN, ?_⟩
    rw [em]
    intro m H1 β1 t1 L1 rm
    have sm := (t1.ro rfl).1
    refine ⟨a, Ca, [m], rfl, by simp, O, sm _ _ ea, ?_⟩
    refine ⟨y, rfl, .ref a, rfl, a, Ca, rfl, O, hf, .inl ⟨sm _ _ ea, fun dx hn hne => ?_⟩⟩
    exact q H1 dx sm hn hne
end

/-! ### raise -/
section
variable {X : Cx} {W : WX} {e : Expr} {es : List Expr} {p pos pos' : Pos} {x : Str} {C fI : Addr} {k j : Nat} {qual : Str} {st : Stmt} {fd : FuncData} {ps : List Str} {msg : EX} {fs : List Str} {ma : AX}
theorem pmk_own' {ta : TA} {sp : Sp} (T : OexC X.K C) (iC : PySem.W.findIn X.K (.ref C) "__init__" = some (some (.ref fI))) (tI : PySem.W.typeIn X.K (.ref fI) = some (.type "function"))
    (F1 : FnG X.prog X.w X.K X.mg X.base k fI fd ps sp) (hgd : X.A.guards = some []) (hr : Room (k + 1) X.A) (hb : ∀ (s : Shared) (us : List Value), us.length = ps.length → BindsTo s fd ⟨us, []⟩ (ps.zip us)) (hm : X.mg x = some (.ref C)) (ha : PA X (e :: es) ta) (hg : Gl X x := by rfl)
    (hdb : (x == ("__debug__" : Str)) = false := by decide) (he : starEach (e :: es) X.env = (false, eval e X.env) :: starEach es X.env := by rfl) (hpl : (backTo pos (starEach es X.env)).any (·.1) = false := by rfl) :
    PMk X (.Call (.Name x p) (e :: es) [] pos) (tMkO C sp [] ta) := by
  intro pins s σ H Q I h
  obtain ⟨nm, q, N, bs, bm, sn, sub, ab, col, dd, k0, k1, k2, k3, k5, hC, hbm⟩ := T.cls
  refine wpAny_Call_Name_kw (ld_glob I hg hm ?_ hdb)
  refine PySem.W.callWith_K (h₀ := X.base) I.ok.mod.kin T.kC (thn (ha.run pos pins s σ H _ I h) fun us s1 ⟨vs, H1, I1, r1, hz, q1⟩ => ⟨I1.kIn, ?_⟩) he hpl
  show wpAny _ _ (call (.ref C) us) _ _ _
  obtain ⟨hp, g, dr, tk, os⟩ := s1
  have hsz : hp.objs.size ≤ hp.objs.size + 1 := Nat.le_succ _
  have hn : H1 (hp.objs.size + 1) = none := I1.hok.fresh hsz
  have hq := q1 (hp.objs.size + 1) hn
  rw [List.append_nil] at hq
  have kk : ∀ b o, hp.get? b = some o → ((hp.push (PySem.W.kdv_tup us)).push (PySem.HandSPX.excO C hp.objs.size)).get? b = some o := fun b o e => Heap.get?_push_of_some _ (Heap.get?_push_of_some _ e)
  have hget : ((hp.push (PySem.W.kdv_tup us)).push (PySem.HandSPX.excO C hp.objs.size)).get? (hp.objs.size + 1) = some (PySem.HandSPX.excO C hp.objs.size) := by heap_get
  have I2 : Inv X pins σ (upd H1 (hp.objs.size + 1) (exo (hp.objs.size + 1) C none)) ⟨(hp.push (PySem.W.kdv_tup us)).push (PySem.HandSPX.excO C hp.objs.size), g, dr, tk, os⟩ :=
    I1.laid (t' := tk) (a := hp.objs.size + 1) (o := exo (hp.objs.size + 1) C none) (h' := (hp.push (PySem.W.kdv_tup us)).push (PySem.HandSPX.excO C hp.objs.size)) kk hsz (exo_ok hget)
  have r2 : Vals (V.ref (hp.objs.size + 1) :: vs) (Value.ref (hp.objs.size + 1) :: us) := .cons rfl r1
  have hl : (Value.ref (hp.objs.size + 1) :: us).length = ps.length := by
    have e := r2.length
    rw [F1.len _ _ _ _ hq] at e
    exact e.symm
  have hus : us.length ≤ sizeLine := by
    rw [← Paired.length r1, sizeLine_eq]
    omega
  refine wpAny_call (PySem.HandSPX.call_own F.excBase_ValueError (fun Y => PySem.HandSPX.refsVE_contains Y bm hbm) (I1.kIn _ _ hC) (PySem.W.looks_findIn I1.kIn iC) (fun self => PySem.W.bind_fn I1.kIn self tI) hus
    (codeAny_mono (F1.run _ X.stack _ _ ⟨Value.ref (hp.objs.size + 1) :: us, []⟩ (Value.ref (hp.objs.size + 1) :: us) _ _ (fun _ _ _ => False) (by show X.A.guards = some []; exact hgd) (hr.make C us []) (I2.env0.make C us []) (hb _ _ hl) r2 hq) fun r s' hq' => ?_))
  cases r with
  | error er => exact passL pins σ _ _ er s' I2 hq'
  | ok fl =>
    cases fl with
    | ret u =>
      obtain ⟨v, H2, os2, bare2, un2, hok2, rv, ev, d, fs, ea, ed, hd1, q2⟩ := hq'
      subst ev
      obtain ⟨h2, g2, d2, t2, os'⟩ := s'
      exact ⟨rv, mk_end (raises_own T.exC T.tyC) I1 hsz kk un2 hok2 os2 bare2 ea ed hd1 q2⟩
    | next => exact False.elim hq'
    | brk => exact False.elim hq'
    | cont => exact False.elim hq'
theorem lookup_of_mem {α : Type} : ∀ {l : List (Str × α)} {f : Str} {v : α}, (l.map (·.1)).Nodup → (f, v) ∈ l → l.lookup f = some v
  | (g, u) :: r, f, v, hn, hm => by
    rw [List.map_cons, List.nodup_cons] at hn
    rw [List.lookup_cons]
    rcases List.mem_cons.mp hm with e | hq
    · cases e
      simp
    · have hne : (f == g) = false := by
        rw [beq_eq_false_iff_ne]
        rintro rfl
        exact hn.1 (List.mem_map.mpr ⟨_, hq, rfl⟩)
      rw [hne]
      exact lookup_of_mem hn.2 hq
theorem mem_of_lookup {α : Type} : ∀ {l : List (Str × α)} {f : Str} {v : α}, l.lookup f = some v → (f, v) ∈ l
  | (g, u) :: r, f, v, h => by
    rw [List.lookup_cons] at h
    by_cases e : (f == g) = true
    · rw [e] at h
      cases h
      rw [eq_of_beq e]
      exact List.mem_cons_self
    · rw [Bool.not_eq_true] at e
      rw [e] at h
      exact List.mem_cons_of_mem _ (mem_of_lookup h)
theorem zip_lookup {C : Ct} {H : Hp} {Z : Addr → Prop} {β : List Addr} {fs : List Str} {vs : List V} {ds : List D} {f : Str} {x : D} (hn : fs.Nodup) (r : RVs C H Z β vs ds) (hl : ds.length = fs.length) (h : (fs.zip ds).lookup f = some x) :
    ∃ v, (fs.zip vs).reverse.lookup f = some v ∧ RV C H Z β v x := by
  have hm := mem_of_lookup h
  obtain ⟨i, hi⟩ := List.getElem?_of_mem hm
  rw [List.getElem?_zip_eq_some] at hi
  obtain ⟨h1, h2⟩ := hi
  obtain ⟨v, hv, rv⟩ := r.get h2
  refine ⟨v, lookup_of_mem ?_ ?_, rv⟩
  · rw [List.map_reverse, List.map_fst_zip (by rw [r.length, hl]; exact Nat.le_refl _)]
    exact (List.pairwise_reverse.mpr (hn.imp fun h => h.symm))
  · rw [List.mem_reverse]
    exact List.mem_of_getElem? (List.getElem?_zip_eq_some.mpr ⟨h1, hv⟩)
theorem ps_raiseM (hc : X.calm = true) (tk : Takes X W) (T : OexC X.K C) (iC : PySem.W.findIn X.K (.ref C) "__init__" = some (some (.ref fI))) (tI : PySem.W.typeIn X.K (.ref fI) = some (.type "function"))
    (F1 : FnG X.prog X.w X.K X.mg X.base k fI fd ps (spI ⟨X.K, X.mg, X.w, []⟩ C fs.length msg fs)) (hgd : X.A.guards = some []) (hr : Room j X.A) (hkj : k + 1 ≤ j) (hb : ∀ (s : Shared) (us : List Value), us.length = ps.length → BindsTo s fd ⟨us, []⟩ (ps.zip us)) (hm : X.mg x = some (.ref C)) (ha : PAM (ctOf X) W false X (e :: es) ma)
    (hfn : fs.Nodup := by decide) (hfl : fs.length ≤ 1000 := by decide) (hg : Gl X x := by rfl) (hdb : (x == ("__debug__" : Str)) = false := by decide) (he : starEach (e :: es) X.env = (false, eval e X.env) :: starEach es X.env := by rfl) (hpl : (backTo pos (starEach es X.env)).any (·.1) = false := by rfl) :
    PSM (ctOf X) W X (.Raise (some (.Call (.Name x p) (e :: es) [] pos)) none pos') (sRaise x fs msg ma) :=
  PS_imp (ps_raise hc tk (pmk_own' T iC tI F1 hgd (hr.mono hkj) hb hm ha hg hdb he hpl)) fun D σ H h => by
    obtain ⟨cf, oa, P, β, ρ, S, L, h⟩ := h
    refine ⟨cf, oa, P, β, ρ, S, L, ?_⟩
    unfold sRaise at h
    cases ea : ma ρ S with
    | stuck => rw [ea] at h; exact h
    | exc e S1 => rw [ea] at h; exact xp_of h
    | ok ds S1 =>
      rw [ea] at h
      simp only at h
      intro vs H1 β1 t1 L1 rs
      by_cases hl : ds.length = fs.length
      · rw [if_pos hl] at h
        refine ⟨by rw [rs.length, hl]; exact hfl, fun a hna => ?_⟩
        have sl : Same H1 (upd H1 a (exo a C none)) := same_laid hna
        have em : ∃ d S', msg (.un :: ds.map Sl.sh) S1 = .ok d S' := by
          cases em : msg (.un :: ds.map Sl.sh) S1 with
          | ok d S' => exact ⟨d, S', rfl⟩
          | exc e S' => rw [em] at h; exact h.elim
          | stuck => rw [em] at h; exact h.elim
        rw [List.append_nil]
        refine ⟨a, vs, rfl, by rw [rs.length, hl], upd_same, P, β1, ds, S1, SRel.ct (C := ctOf X) (C' := ⟨X.K, X.mg, X.w, []⟩) rfl rfl (L1.st.laid hna), fun b hb => ⟨(Ext.same (β := β1) sl).stay b (L1.p b hb).1, (L1.p b hb).2⟩, RVs.ct (C := ctOf X) (C' := ⟨X.K, X.mg, X.w, []⟩) rfl rfl (rs.mono (Ext.same sl)), em, fun H2 dd sm hn hne => ?_⟩
        have hn1 : H1 dd = none := by
          cases z : H1 dd with
          | none => rfl
          | some o => rw [sm dd o (sl dd o z)] at hn; cases hn
        refine ⟨rfl, dd, (fs.zip vs).reverse, upd_same, by rw [upd_ne hne]; exact upd_same, hn1, ?_⟩
        have sf : Same H1 (upd (del (upd (upd H2 dd (exd dd (fs.zip vs).reverse)) a (exo a C (some dd))) a) dd (.xd (fs.zip vs).reverse)) := fun b o z => by
          have n1 : b ≠ a := ne_of_none z hna
          have n2 : b ≠ dd := ne_of_none z hn1
          rw [upd_ne n2, del_ne n1, upd_ne n1, upd_ne n2]
          exact sm b o (sl b o z)
        obtain ⟨d, S', em⟩ := em
        rw [em] at h
        refine h (.ref C) (some dd) σ _ β1 oa P (L1.same sf) (Fx.of (t1.ext.trans (Ext.same sf))) ⟨C, dd, (fs.zip vs).reverse, hm, rfl, rfl, upd_same, L1.npB hn1, fun z => (L1.p dd z).1 hn1, fun f x hx => ?_⟩
        obtain ⟨v, q1, q2⟩ := zip_lookup hfn rs hl hx
        exact ⟨v, q1, q2.mono (Ext.same sf)⟩
      · rw [if_neg hl] at h; exact h.elim
end
end Mi

/-! Mi33: the own exception classes of a module, as the generator names them. -/
namespace Mi
open PySem PySem.Spec PyProof.Rows L2

def inCls (s : Stmt) (j : Nat) : Stmt := match s with
  | .ClassDef _ _ _ body _ _ _ _ _ _ _ => body.getD j (.Pass ⟨0, 0, 0, 0⟩)
  | _ => .Pass ⟨0, 0, 0, 0⟩
/-- the class c, made with one field f by its own __init__ st -/
structure ExI (K : PySem.W.Frag) (mg : Str → Option Value) (c qual : Str) (st : Stmt) (f : Str) (Ca fI : Addr) (fd : FuncData) : Prop where
  m : mg c = some (.ref Ca)
  o : OexC K Ca
  i : PySem.W.findIn K (.ref Ca) "__init__" = some (some (.ref fI))
  t : PySem.W.typeIn K (.ref fI) = some (.type "function")
  f : PySem.W.findIn K (.ref Ca) f = some none
  F : Fun K "__init__" qual st fI fd
section
variable {K : PySem.W.Frag} {x qual : Str} {st : Stmt} {fa : Addr} {fd : FuncData} {ps : List Str} {n : Nat}
theorem bind_pos (F : Fun K x qual st fa fd) (B : BindOk st ps [] n (List.range n)) (hn : ps.length = n) (s : Shared) (us : List Value) (hu : us.length = ps.length) : BindsTo s fd ⟨us, []⟩ (ps.zip us) := by
  obtain ⟨oc, od, kV, doc, pm, an, cdv, ct, osl, rfl, lk, hcd⟩ := F.ex
  have b := B x qual kV doc pm an cdv ct us [] (hu.trans hn) rfl
  rw [pick_range us n (hu.trans hn)] at b
  exact .of_eq b
end
/-- OexC from the head's facts -/
theorem oexC_mk {K : PySem.W.Frag} {C N : Addr} {o : Obj} {nm q : Str} {bs bm sub : List Value} {sn : List Str} {ab : Bool} {col : Option Bool} {dd : Option Addr} {k0 k1 k2 k3 k5 : Option Value} (h : K.lookup C = some o)
    (e : o = excClassObj nm q C N bs bm true sn sub ab col dd k0 k1 k2 k3 k5 "ValueError.__new__") (rv : PySem.HandSPX.refsVE bm = true) (sa : PySem.W.findIn K (.ref C) "__setattr__" = some (some (.builtin "object.__setattr__")))
    (ex : PySem.W.subIn K (.ref C) (.type "BaseException") = some true) (ty : PySem.W.typeIn K (.ref C) = some (.type "type")) (kc : PySem.W.keepIn K (.ref C) = true) : OexC K C :=
  ⟨⟨nm, q, N, bs, bm, sn, sub, ab, col, dd, k0, k1, k2, k3, k5, by rw [h, e], rv⟩, sa, ex, ty, kc⟩
end Mi

/-! Mi34: postconditions of raise and try; plain data of little size. -/
namespace Mi
open PySem PySem.Spec PyProof.Rows L2
section
variable {ρ : Rho} {S : Store} {N : Rho → Store → Prop} {p : Po} {Q : D → Store → Prop} {E : Exn → Store → Prop} {i : Nat} {s b : SX} {m msg : EX} {a : AX} {c : Str} {fs cs : List Str} {g : Str → Option Bool} {e : Exn} {f : Str}
theorem w_share : (sShare i s ρ S).al N p ↔ (s (match ρ[i]? with
    | some (Sl.ow d) => ρ.set i (.sh d)
    | _ => ρ) S).al N p := by
  unfold sShare
  rcases ρ[i]? with _ | (_ | d | d | d) <;> exact Iff.rfl
theorem w_raise : (sRaise c fs msg a ρ S).al N p ↔ (a ρ S).al (fun ds S1 => ds.length = fs.length ∧ (∃ d S', msg (.un :: ds.map Sl.sh) S1 = .ok d S') ∧ p.E ⟨c, fs.zip ds⟩ S1 ∧ p.X ⟨c, fs.zip ds⟩ ρ S1) (fun e S => p.E e S ∧ p.X e ρ S) := by
  unfold sRaise
  cases a ρ S with
  | stuck => exact Iff.rfl
  | exc e S1 => exact Iff.rfl
  | ok ds S1 =>
    simp only [R.al]
    by_cases h : ds.length = fs.length
    · rw [if_pos h]
      cases em : msg (.un :: ds.map Sl.sh) S1 with
      | ok d S' => exact ⟨fun q => ⟨h, ⟨d, S', rfl⟩, q⟩, fun q => q.2.2⟩
      | exc e S' => exact ⟨fun q => q.elim, fun ⟨_, ⟨_, _, z⟩, _⟩ => nomatch z⟩
      | stuck => exact ⟨fun q => q.elim, fun ⟨_, ⟨_, _, z⟩, _⟩ => nomatch z⟩
    · rw [if_neg h]; exact ⟨fun q => q.elim, fun q => h q.1⟩
theorem try_wp (h0 : noEx ρ = true) (hb : (b ρ S).al (fun ρ' S' => noEx ρ' = true ∧ N ρ' S') ⟨p.T, fun _ _ => True, fun ρ' S' => noEx ρ' = true ∧ p.B ρ' S', fun ρ' S' => noEx ρ' = true ∧ p.C ρ' S',
    fun e ρ1 S1 => noEx ρ1 = true ∧ match g e.cls with
      | some true => i < ρ1.length ∧ (s (ρ1.set i (.ex e)) S1).al (fun ρ2 S2 => noEx (ρ2.set i .un) = true ∧ N (ρ2.set i .un) S2) ⟨p.T, fun _ _ => False, fun ρ2 S2 => noEx (ρ2.set i .un) = true ∧ p.B (ρ2.set i .un) S2, fun ρ2 S2 => noEx (ρ2.set i .un) = true ∧ p.C (ρ2.set i .un) S2, fun _ _ _ => False⟩
      | some false => p.E e S1 ∧ p.X e ρ1 S1
      | none => False⟩) : (sTry g i b s ρ S).al N p := by
  unfold sTry
  rw [if_pos h0]
  cases eb : b ρ S with
  | nx ρ1 S1 => rw [eb] at hb; simp only [SR.chk]; obtain ⟨h1, h2⟩ := hb; rw [if_pos h1]; exact h2
  | rt d S1 => rw [eb] at hb; exact hb
  | bk ρ1 S1 => rw [eb] at hb; simp only [SR.chk]; obtain ⟨h1, h2⟩ := hb; rw [if_pos h1]; exact h2
  | ct ρ1 S1 => rw [eb] at hb; simp only [SR.chk]; obtain ⟨h1, h2⟩ := hb; rw [if_pos h1]; exact h2
  | stuck => rw [eb] at hb; exact hb
  | exc e ρ1 S1 =>
    rw [eb] at hb
    obtain ⟨_, h1, h2⟩ := hb
    simp only [SR.chk]
    rw [if_pos h1]
    simp only
    cases eg : g e.cls with
    | none => rw [eg] at h2; exact h2.elim
    | some q =>
      rw [eg] at h2
      cases q with
      | false => exact h2
      | true =>
        simp only
        obtain ⟨hl, h3⟩ := h2
        rw [if_pos hl]
        cases es : s (ρ1.set i (.ex e)) S1 with
        | nx ρ2 S2 => rw [es] at h3; simp only [SR.unEx]; obtain ⟨h4, h5⟩ := h3; rw [if_pos h4]; exact h5
        | bk ρ2 S2 => rw [es] at h3; simp only [SR.unEx]; obtain ⟨h4, h5⟩ := h3; rw [if_pos h4]; exact h5
        | ct ρ2 S2 => rw [es] at h3; simp only [SR.unEx]; obtain ⟨h4, h5⟩ := h3; rw [if_pos h4]; exact h5
        | rt d S2 => rw [es] at h3; exact h3
        | exc e2 ρ2 S2 => rw [es] at h3; exact h3.1.elim
        | stuck => rw [es] at h3; exact h3
theorem w_xf (h : ρ[i]? = some (.ex e)) (hc : cs.contains e.cls = true) : (mXf cs i f ρ S).al Q E ↔ ∃ z, e.fs.lookup f = some z ∧ Q z S := by
  unfold mXf
  rw [h]
  simp only
  rw [if_pos hc]
  exact al_opt
theorem w_xis {T : List ((Str × Str) × Bool)} {U : List ((Str × String) × Bool)} (h : ρ[i]? = some (.ex e)) (hc : cs.contains e.cls = true) : (mXis cs T U i m ρ S).al Q E ↔ (m ρ S).al (fun d S1 => ∃ q, xis T U e.cls d = some q ∧ Q (.bl q) S1) E := by
  unfold mXis
  rw [h]
  simp only
  rw [if_pos hc, al_bind]
  refine iff_of_eq (congrArg (fun z => R.al (m ρ S) z E) (funext fun d => funext fun S1 => propext ?_))
  rw [al_opt]
  constructor
  · rintro ⟨z, h1, h2⟩
    cases ex : xis T U e.cls d with
    | none => rw [ex] at h1; cases h1
    | some q => rw [ex] at h1; cases h1; exact ⟨q, rfl, h2⟩
  · rintro ⟨q, h1, h2⟩
    exact ⟨.bl q, by rw [h1]; rfl, h2⟩
end
/-! ### plain data of little size -/
structure Th (d : D) : Prop where
  ok : okD d
  bk : bkD d ≤ 2000
  dp : dpD d ≤ 10
theorem bk_mem {x : D} : ∀ {xs : List D}, x ∈ xs → bkD x ≤ bkDs xs
  | y :: r, h => by
    simp only [bkDs]
    rcases List.mem_cons.mp h with rfl | h
    · omega
    · have := bk_mem h; omega
theorem dp_mem {x : D} : ∀ {xs : List D}, x ∈ xs → dpD x ≤ dpDs xs
  | y :: r, h => by
    simp only [dpDs]
    rcases List.mem_cons.mp h with rfl | h
    · omega
    · have := dp_mem h; omega
theorem Th.mem {xs : List D} {x : D} (h : Th (.tup xs)) (m : x ∈ xs) : Th x where
  ok := okDs_iff.mp (by simpa only [okD] using h.ok) x m
  bk := Nat.le_trans (bk_mem m) (by have := h.bk; simpa only [bkD] using this)
  dp := Nat.le_trans (dp_mem m) (by have := h.dp; simp only [dpD] at this; omega)
theorem Th.repr {d : D} (h : Th d) : ∃ k, ∀ S, fRepr S [d] = some (.str k) := by
  obtain ⟨k, _, _, q⟩ := repr_ok h.ok (by have := h.bk; omega) (by have := h.dp; omega)
  exact ⟨k, q⟩
theorem Th.repr2 {d : D} {x : Str} (h : Th d) (hx : ∀ c ∈ x.cps.toList, c < 0x110000) (hl : x.length ≤ 100) : ∃ k, ∀ S, fRepr S [.lst [.str x, d]] = some (.str k) := by
  obtain ⟨k, _, _, q⟩ := repr_ok (d := .lst [.str x, d]) (by simp only [okD, okDs, and_true]; exact ⟨hx, h.ok⟩) (by have := h.bk; simp only [bkD, bkDs]; omega) (by have := h.dp; simp only [dpD, dpDs]; omega)
  exact ⟨k, q⟩
/-- the message of an error that shows the value -/
theorem msg_ok {d : D} {x : Str} {S : Store} (h : Th d) (hl : x.length ≤ 100) : ∃ r S', mJoined [mC (.str x), mUn fFmtR (mVar 1)] [.un, .sh d] S = .ok r S' := by
  obtain ⟨p, e, s⟩ := to_py d h.ok
  have hl2 := PyData.shown_le_bulk 64 (by decide) p s.l
  rw [s.b] at hl2
  have hb := h.bk
  have e1 : fFmtR S d = some (.str p.shown) := by
    unfold fFmtR
    simp only [top_id (noR_ok d h.ok), e]
    rw [if_pos ⟨s.s, by rw [sizeLine_eq]; omega, by rw [s.d]; have := h.dp; omega⟩]
  have l1 : (Str.empty ++ x).length ≤ sizeLine := by rw [strLen_append, sizeLine_eq]; show 0 + _ ≤ _; omega
  have l2 : (Str.empty ++ x ++ p.shown).length ≤ sizeLine := by rw [strLen_append, strLen_append, sizeLine_eq]; show 0 + _ + _ ≤ _; omega
  refine ⟨.str (Str.empty ++ x ++ p.shown), S, ?_⟩
  unfold mJoined
  simp only [mJs, mC, mUn, mVar, R.bind, R.opt, List.getElem?_cons_succ, List.getElem?_cons_zero, e1]
  rw [if_pos l1, if_pos l2]
def okStrB (x : Str) : Bool := x.cps.toList.all fun c => decide (c < 0x110000)
mutual
def okB : D → Bool
  | .non => true
  | .bl _ => true
  | .int i => decide (i.natAbs < 10 ^ 60)
  | .str x => okStrB x
  | .tup xs => okBs xs
  | .lst xs => okBs xs
  | .dct [] => true
  | .dct (_ :: _) => false
  | .ref _ => false
  | .ty _ => false
  | .fn _ => false
def okBs : List D → Bool
  | [] => true
  | d :: r => okB d && okBs r
end
theorem okStr_of {x : Str} (h : okStrB x = true) : ∀ c ∈ x.cps.toList, c < 0x110000 := fun c hc => of_decide_eq_true (List.all_eq_true.mp h c hc)
mutual
theorem ok_of : ∀ {d : D}, okB d = true → okD d
  | .non, _ => trivial
  | .bl _, _ => trivial
  | .int i, h => by simp only [okB, decide_eq_true_eq] at h; simpa only [okD] using h
  | .str x, h => by simp only [okB] at h; simp only [okD]; exact okStr_of h
  | .tup xs, h => by simp only [okB] at h; simp only [okD]; exact oks_of h
  | .lst xs, h => by simp only [okB] at h; simp only [okD]; exact oks_of h
  | .dct [], h => by simp only [okD, okDk]
  | .dct (_ :: _), h => by simp only [okB] at h; cases h
  | .ref _, h => by simp only [okB] at h; cases h
  | .ty _, h => by simp only [okB] at h; cases h
  | .fn _, h => by simp only [okB] at h; cases h
theorem oks_of : ∀ {ds : List D}, okBs ds = true → okDs ds
  | [], _ => by simp only [okDs]
  | d :: r, h => by
    simp only [okBs, Bool.and_eq_true] at h
    simp only [okDs]
    exact ⟨ok_of h.1, oks_of h.2⟩
end
def thB (d : D) : Bool := okB d && decide (bkD d ≤ 100) && decide (dpD d ≤ 5)
/-- .. of a part of a row -/
structure Ti (d : D) : Prop where
  ok : okD d
  bk : bkD d ≤ 100
  dp : dpD d ≤ 5
theorem ti_of {d : D} (h : thB d = true) : Ti d := by
  simp only [thB, Bool.and_eq_true, decide_eq_true_eq] at h
  exact ⟨ok_of h.1.1, h.1.2, h.2⟩
theorem Ti.th {d : D} (h : Ti d) : Th d := ⟨h.ok, Nat.le_trans h.bk (by decide), Nat.le_trans h.dp (by decide)⟩
theorem bks_le {k : Nat} : ∀ {xs : List D}, (∀ x ∈ xs, bkD x ≤ k) → bkDs xs ≤ xs.length * (k + 1)
  | [], _ => by simp [bkDs]
  | d :: r, h => by
    have h1 := h d List.mem_cons_self
    have h2 := bks_le (xs := r) fun x hx => h x (List.mem_cons_of_mem _ hx)
    simp only [bkDs, List.length_cons, Nat.add_mul]
    omega
theorem th_list {xs : List D} (h : ∀ x ∈ xs, Ti x) (hl : xs.length ≤ 10) : Th (.tup xs) ∧ Th (.lst xs) := by
  have h1 : okDs xs := okDs_iff.mpr fun x hx => (h x hx).ok
  have h2 := bks_le (k := 100) fun x hx => (h x hx).bk
  have h3 := dpDs_le (n := 5) fun x hx => (h x hx).dp
  have h4 : xs.length * 101 ≤ 10 * 101 := Nat.mul_le_mul_right _ hl
  exact ⟨⟨by simpa only [okD] using h1, by simp only [bkD]; omega, by simp only [dpD]; omega⟩, ⟨by simpa only [okD] using h1, by simp only [bkD]; omega, by simp only [dpD]; omega⟩⟩
end Mi

/-! Mi35: dicts: d[k], k in d, d.get, items and their like. -/
namespace Mi
open PySem PySem.Spec PyProof.Rows L2

def valD (kvs : List (Key × D)) (k : Key) : Option D := (kvs.find? fun kv => decide (kv.1 = k)).map (·.2)
theorem rk_val {C : Ct} {H : Hp} {P : Addr → Prop} {β : List Addr} {k : Key} : ∀ {vs : List (Key × V)} {ds : List (Key × D)} {d : D}, RKs C H P β vs ds → valD ds k = some d → ∃ v, valV vs k = some v ∧ RV C H P β v d
  | _, _, _, .nil, e => by cases e
  | _, _, d, .cons (k := k0) (v := v0) (d := d0) (vs := vs) (ds := ds) h t, e => by
    by_cases hk : k0 = k
    · have e' : valD ((k0, d0) :: ds) k = some d0 := by simp [valD, List.find?_cons, hk]
      rw [e'] at e; cases e
      exact ⟨v0, valV_pos hk, h⟩
    · have e' : valD ((k0, d0) :: ds) k = valD ds k := by simp [valD, List.find?_cons, hk]
      rw [e'] at e
      obtain ⟨v, h1, h2⟩ := rk_val t e
      exact ⟨v, by rw [valV_neg hk]; exact h1, h2⟩
theorem rk_valN {C : Ct} {H : Hp} {P : Addr → Prop} {β : List Addr} {k : Key} : ∀ {vs : List (Key × V)} {ds : List (Key × D)}, RKs C H P β vs ds → valD ds k = none → valV vs k = none
  | _, _, .nil, e => rfl
  | _, _, .cons (k := k0) (v := v0) (d := d0) (vs := vs) (ds := ds) h t, e => by
    by_cases hk : k0 = k
    · have e' : valD ((k0, d0) :: ds) k = some d0 := by simp [valD, List.find?_cons, hk]
      rw [e'] at e; cases e
    · have e' : valD ((k0, d0) :: ds) k = valD ds k := by simp [valD, List.find?_cons, hk]
      rw [e'] at e
      rw [valV_neg hk]; exact rk_valN t e

/-! ### d[k] -/
def dKx (S : Store) (x y : D) : Option D := match viewK S x with
  | some kvs => match keyD y with
    | some k => valD kvs k
    | none => none
  | none => none
def dGx (S : Store) (x y : D) : Option D := match viewK S x with
  | some kvs => match keyD y with
    | some k => valD kvs k
    | none => none
  | none => dIx S x y
section
variable {X : Cx} {W : WX} {b : Bool} {a e o : Expr} {es : List Expr} {ma mb me mo : EX} {mas : AX} {pos : Pos}
def rGet : R2 := fun x y H Q => ∃ a v, x = .ref a ∧ DGet H a y (some v) ∧ Q v H
theorem ix_dict (hu : X.A.units + 1 < cLine) : IxR X rGet := by
  intro value slice pins s σ H x y v u Q I rx ry h hs
  obtain ⟨a, z, rfl, g, q⟩ := h
  cases rx
  unfold subscriptTail
  refine wpAny_bind ?_
  rw [getitemInPython_of_ne (dict_typeIs I g).not_modules]
  refine wpAny_bind (wpAny_specialOf (dict_typeIs I g) PySem.F.slot_dict_getitem.lookup ?_)
  have fin : wpAny (model X.prog X.w) X.A (subscripted slice false (.ref a) u) (fun r s₃ => wpAny (model X.prog X.w) X.A (letTemporaryGo value (.ref a) r >>= fun _ => pure r) (EP X pins σ Q) X.xe s₃) X.xe s := by
    rw [hs]
    exact wpAny_operating (d_getItem hu I g ry fun w' s3 I3 rw' => wpAny_bind (wpAny_letTemporaryGo (wpAny_pure ⟨z, H, I3, rw', q⟩)))
  first
    | exact wpAny_pure (wpAny_bind fin)
    | exact wpAny_bind (wpAny_pure (wpAny_bind fin))
    | exact wpAny_bind fin
theorem get_m : OpM X rGet dKx := by
  intro Z H β S x y dx dy dz Q A rx ry e k
  unfold dKx at e
  split at e
  · rename_i kvs ev
    split at e
    · rename_i ky ek
      obtain ⟨a, us, rfl, q1, q2⟩ := rx.viewK A.st ev
      obtain ⟨v, h1, h2⟩ := rk_val q2 e
      rw [kv_key ry ek]
      exact ⟨a, v, rfl, .inl ⟨us, ky, q1, rfl, h1.symm⟩, k v H (Same.refl _) h2⟩
    · cases e
  · cases e
def rGx (K : PySem.W.Frag) : R2 := fun x y H Q => rIx K x y H Q ∨ rGet x y H Q
theorem gx_m : OpM X (rGx X.K) dGx := by
  intro Z H β S x y dx dy dz Q A rx ry e k
  cases ev : viewK S dx with
  | some kvs => exact .inr (get_m Z H β S x y dx dy dz Q A rx ry (by unfold dKx; unfold dGx at e; rw [ev] at e ⊢; exact e) k)
  | none => exact .inl (ix_m Z H β S x y dx dy dz Q A rx ry (by unfold dGx at e; rw [ev] at e; exact e) k)
/-- a[b]: a list, a tuple, a text, a dict -/
theorem pm_gx (hu : X.A.units + 64 < cLine) (ha : PM (ctOf X) W b X a ma) (hb : PM (ctOf X) W b X e mb) (hs : PlainIx e := by exact fun _ _ => rfl) : PM (ctOf X) W b X (.Subscript a e pos) (mBin dGx ma mb) :=
  PE_imp (pe_ix (IxR.or ix_seq (ix_dict (by omega))) ha hb hs) fun σ H Q h => em2 gx_m h

/-! ### k in d -/
def dKin (S : Store) (x y : D) : Option D := match viewK S y with
  | some kvs => match keyD x with
    | some k => some (.bl (hasD kvs k))
    | none => none
  | none => dIn S x y
def dKout (S : Store) (x y : D) : Option D := match viewK S y with
  | some kvs => match keyD x with
    | some k => some (.bl (!hasD kvs k))
    | none => none
  | none => dNotIn S x y
def rDin (f : Bool → Bool) : R2 := fun y x H Q => ∃ a o, x = .ref a ∧ DGet H a y o ∧ Q (.bl (f o.isSome)) H
theorem op_din (hu : X.A.units + 1 < cLine) : OpR X (compareOp .In) (rDin id) := by
  intro pins s σ H y x u v Q I ry rx h
  obtain ⟨a, o, rfl, g, q⟩ := h
  cases rx
  exact d_in hu I g ry fun s3 I3 => ⟨.bl o.isSome, H, I3, rfl, q⟩
theorem op_dnotin (hu : X.A.units + 1 < cLine) : OpR X (compareOp .NotIn) (rDin not) := by
  intro pins s σ H y x u v Q I ry rx h
  obtain ⟨a, o, rfl, g, q⟩ := h
  cases rx
  exact d_notIn hu I g ry fun s3 I3 => ⟨.bl (!o.isSome), H, I3, rfl, q⟩
theorem has_val {k : Key} : ∀ kvs : List (Key × V), (kvs.any fun kv => decide (kv.1 = k)) = (valV kvs k).isSome := valV_any k
theorem din_m {f : Bool → Bool} {Z : Addr → Prop} {H : Hp} {β : List Addr} {S : Store} {x y : V} {dx dy : D} {kvs : List (Key × D)} {k : Key} {Q : VK} (A : At (ctOf X) H Z β S) (rx : RV (ctOf X) H Z β x dx) (ry : RV (ctOf X) H Z β y dy)
    (ev : viewK S dy = some kvs) (ek : keyD dx = some k) (q : Q (.bl (f (hasD kvs k))) H) : rDin f x y H Q := by
  obtain ⟨a, us, rfl, q1, q2⟩ := ry.viewK A.st ev
  rw [kv_key rx ek]
  refine ⟨a, valV us k, rfl, .inl ⟨us, k, q1, rfl, rfl⟩, ?_⟩
  rw [← has_val, rk_has q2]; exact q
theorem or_kin (hu : X.A.units + 65 < cLine) : OpR X (compareOp .In) (fun x y H Q => rInX X.K id x y H Q ∨ rDin id x y H Q) := OpR.or (or_in hu) (op_din (by omega))
theorem or_kout (hu : X.A.units + 65 < cLine) : OpR X (compareOp .NotIn) (fun x y H Q => rInX X.K not x y H Q ∨ rDin not x y H Q) := OpR.or (or_notIn hu) (op_dnotin (by omega))
theorem kin_m : OpM X (fun x y H Q => rInX X.K id x y H Q ∨ rDin id x y H Q) dKin := by
  intro Z H β S x y dx dy dz Q A rx ry e k
  unfold dKin at e
  split at e
  · rename_i kvs ev
    split at e
    · rename_i ky ek
      cases e
      exact .inr (din_m A rx ry ev ek (k _ H (Same.refl _) (.bl _)))
    · cases e
  · exact .inl (in_m Z H β S x y dx dy dz Q A rx ry e k)
theorem kout_m : OpM X (fun x y H Q => rInX X.K not x y H Q ∨ rDin not x y H Q) dKout := by
  intro Z H β S x y dx dy dz Q A rx ry e k
  unfold dKout at e
  split at e
  · rename_i kvs ev
    split at e
    · rename_i ky ek
      cases e
      exact .inr (din_m A rx ry ev ek (k _ H (Same.refl _) (.bl _)))
    · cases e
  · exact .inl (notIn_m Z H β S x y dx dy dz Q A rx ry e k)

/-! ### d.get(k), d.get(k, x) -/
def isK (S : Store) (d : D) : Bool := (viewK S d).isSome
def mGet1 (md mk : EX) : EX := fun ρ S => (md ρ S).bind fun x S1 => if isK S1 x = true then (mk ρ S1).bind fun y S2 => match viewK S2 x, keyD y with
  | some kvs, some k => .ok ((valD kvs k).getD .non) S2
  | _, _ => .stuck else .stuck
def mGet2 (md mk mx : EX) : EX := fun ρ S => (md ρ S).bind fun x S1 => if isK S1 x = true then (mk ρ S1).bind fun y S2 => (mx ρ S2).bind fun z S3 => match viewK S3 x, keyD y with
  | some kvs, some k => .ok ((valD kvs k).getD z) S3
  | _, _ => .stuck else .stuck
theorem isK_at {C : Ct} {H : Hp} {Z : Addr → Prop} {β : List Addr} {S : Store} {v : V} {d : D} (r : RV C H Z β v d) (s : SRel C H Z β S) (h : isK S d = true) : ∃ a, v = .ref a ∧ IsD H a := by
  unfold isK at h
  cases ev : viewK S d with
  | none => rw [ev] at h; cases h
  | some kvs =>
    obtain ⟨a, us, rfl, q1, q2⟩ := r.viewK s ev
    exact ⟨a, rfl, .inl ⟨us, q1⟩⟩
variable {f : Expr} {apos cpos : Pos} {mx : EX}
theorem pm_get1 (hu : X.A.units + 64 < cLine) (ho : PM (ctOf X) W b X o mo) (he : PM (ctOf X) W b X e me) (m : M1 X o "get" apos e cpos := by exact ⟨rfl, rfl, rfl, rfl⟩) : PM (ctOf X) W b X (.Call (.Attribute o "get" apos) [e] [] cpos) (mGet1 mo me) :=
  PE_imp (pe_dget1 (by omega) ho he m) fun σ H Q h => by
    obtain ⟨cf, oa, P, β, ρ, S, L, h⟩ := h
    refine ⟨cf, oa, P, β, ρ, S, L, ?_⟩
    unfold mGet1 at h
    cases eo : mo ρ S with
    | stuck => rw [eo] at h; exact h
    | exc x S1 => rw [eo] at h; exact h
    | ok x S1 =>
      rw [eo] at h
      simp only [R.bind] at h
      intro v H1 β1 t1 L1 r1
      by_cases hk : isK S1 x = true
      · rw [if_pos hk] at h
        obtain ⟨a, rfl, d⟩ := isK_at r1 L1.st hk
        refine ⟨a, rfl, d, cf, oa, P, β1, ρ, S1, L1, ?_⟩
        cases ee : me ρ S1 with
        | stuck => rw [ee] at h; exact h
        | exc x S2 => rw [ee] at h; intro cls d H' β' e2 L2 ex; exact h cls d H' β' (t1.trans e2) L2 ex
        | ok y S2 =>
          rw [ee] at h
          simp only at h
          intro w H2 β2 t2 L2 r2
          cases ev : viewK S2 x with
          | none => rw [ev] at h; exact h.elim
          | some kvs =>
            cases ek : keyD y with
            | none => rw [ev, ek] at h; exact h.elim
            | some k =>
              rw [ev, ek] at h
              simp only at h
              obtain ⟨a', us, e1, q1, q2⟩ := (r1.mono t2.ext).viewK L2.st ev
              cases e1
              rw [kv_key r2 ek]
              refine ⟨valV us k, .inl ⟨us, k, q1, rfl, rfl⟩, ?_⟩
              cases ez : valD kvs k with
              | none => rw [ez] at h; rw [rk_valN q2 ez]; exact h .non H2 β2 (t1.trans t2) L2 .non
              | some dz =>
                rw [ez] at h
                obtain ⟨vz, h1, h2⟩ := rk_val q2 ez
                rw [h1]; exact h vz H2 β2 (t1.trans t2) L2 h2
      · rw [if_neg hk] at h; exact h.elim
theorem pm_get2 (hu : X.A.units + 64 < cLine) (ho : PM (ctOf X) W b X o mo) (he : PM (ctOf X) W b X e me) (hf : PM (ctOf X) W b X f mx) (m : M2 X o "get" apos e f cpos := by exact ⟨rfl, rfl, rfl, rfl⟩) : PM (ctOf X) W b X (.Call (.Attribute o "get" apos) [e, f] [] cpos) (mGet2 mo me mx) :=
  PE_imp (pe_dget2 (by omega) ho he hf m) fun σ H Q h => by
    obtain ⟨cf, oa, P, β, ρ, S, L, h⟩ := h
    refine ⟨cf, oa, P, β, ρ, S, L, ?_⟩
    unfold mGet2 at h
    cases eo : mo ρ S with
    | stuck => rw [eo] at h; exact h
    | exc x S1 => rw [eo] at h; exact h
    | ok x S1 =>
      rw [eo] at h
      simp only [R.bind] at h
      intro v H1 β1 t1 L1 r1
      by_cases hk : isK S1 x = true
      · rw [if_pos hk] at h
        obtain ⟨a, rfl, d⟩ := isK_at r1 L1.st hk
        refine ⟨a, rfl, d, cf, oa, P, β1, ρ, S1, L1, ?_⟩
        cases ee : me ρ S1 with
        | stuck => rw [ee] at h; exact h
        | exc x S2 => rw [ee] at h; intro cls d H' β' e2 L2 ex; exact h cls d H' β' (t1.trans e2) L2 ex
        | ok y S2 =>
          rw [ee] at h
          simp only at h
          intro w H2 β2 t2 L2 r2
          refine ⟨cf, oa, P, β2, ρ, S2, L2, ?_⟩
          have t12 := t1.trans t2
          cases ef : mx ρ S2 with
          | stuck => rw [ef] at h; exact h
          | exc x S3 => rw [ef] at h; intro cls d H' β' e2 L2 ex; exact h cls d H' β' (t12.trans e2) L2 ex
          | ok z S3 =>
            rw [ef] at h
            simp only at h
            intro w3 H3 β3 t3 L3 r3
            cases ev : viewK S3 x with
            | none => rw [ev] at h; exact h.elim
            | some kvs =>
              cases ek : keyD y with
              | none => rw [ev, ek] at h; exact h.elim
              | some k =>
                rw [ev, ek] at h
                simp only at h
                obtain ⟨a', us, e1, q1, q2⟩ := ((r1.mono t2.ext).mono t3.ext).viewK L3.st ev
                cases e1
                rw [kv_key r2 ek]
                refine ⟨valV us k, .inl ⟨us, k, q1, rfl, rfl⟩, ?_⟩
                cases ez : valD kvs k with
                | none => rw [ez] at h; rw [rk_valN q2 ez]; exact h w3 H3 β3 (t12.trans t3) L3 r3
                | some dz =>
                  rw [ez] at h
                  obtain ⟨vz, h1, h2⟩ := rk_val q2 ez
                  rw [h1]; exact h vz H3 β3 (t12.trans t3) L3 h2
      · rw [if_neg hk] at h; exact h.elim
end
end Mi

/-! Mi36: dicts of the store: stores, walks under a lock; list(d). -/
namespace Mi
open PySem PySem.Spec PyProof.Rows L2

/-! ### d[k] = v -/
def storeKx (o i v : D) (S : Store) : Option Store := match o with
  | .ref n => match S[n]? with
    | some (.dct kvs) => match keyD i with
      | some k => if kvs.length < sizeLine then some (S.set n (.dct (putD kvs k v))) else none
      | none => none
    | _ => storeIx o i v S
  | _ => none
def gKx (mo mi : EX) : GX := fun v ρ S => match mo ρ S with
  | .ok o S1 => match mi ρ S1 with
    | .ok i S2 => match storeKx o i v S2 with
      | some S3 => some (ρ, S3)
      | none => none
    | _ => none
  | _ => none
def rSetD : TSet := fun o i v H Q => ∃ a H', o = .ref a ∧ DPut H a i v H' ∧ Q H'
section
variable {X : Cx} {W : WX} {b : Bool} {a e o i : Expr} {ma mb me mo mi : EX} {pos : Pos}
theorem set_dict (hu : X.A.units + 1 < cLine) : PSet X rSetD := by
  intro pins s σ H o i v ov iv u Q I ro ri rv h
  obtain ⟨a, H', rfl, g, q⟩ := h
  cases ro
  exact d_setItem hu I g ri rv fun s4 I4 => ⟨H', I4, q⟩
theorem PSet.or {t t' : TSet} (h : PSet X t) (h' : PSet X t') : PSet X (fun o i v H Q => t o i v H Q ∨ t' o i v H Q) := by
  intro pins s σ H o i v ov iv u Q I ro ri rv q
  rcases q with q | q
  · exact h pins s σ H o i v ov iv u Q I ro ri rv q
  · exact h' pins s σ H o i v ov iv u Q I ro ri rv q
/-- what a store by a subscript asks and does -/
theorem storeKx_ok {C : Ct} {cf : Cf} {oa : Nat → Option Addr} {P : Addr → Prop} {σ : L2.St} {H : Hp} {β : List Addr} {ρ : Rho} {S S3 : Store} {od id d : D} {ov iv v : V} {Q : Hp → Prop} (L : LR C cf oa P σ H β ρ S) (ro : RV C H P β ov od) (ri : RV C H P β iv id) (rv : RV C H P β v d)
    (e : storeKx od id d S = some S3) (k : ∀ H', Ext H β H' β → LR C cf oa P σ H' β ρ S3 → Q H') : rSetL ov iv v H Q ∨ rSetD ov iv v H Q := by
  unfold storeKx at e
  split at e
  · rename_i n
    cases ro with
    | ref hn =>
      split at e
      · rename_i kvs eS
        split at e
        · rename_i ky ek
          split at e
          · rename_i hl
            cases e
            obtain ⟨us, q1, q2⟩ := L.st.ok _ _ _ hn eS
            have m := List.mem_of_getElem? hn
            have nt := L.st.notup m
            have hf : ∀ o u, H _ ≠ some (.frz o u) := fun o u z => by rw [q1] at z; cases z
            have new : SOK C (upd H _ (.dK (putK us ky v))) P β _ (.dct (putD kvs ky d)) := ⟨_, upd_same, (rk_put (q2.set (.inr m) nt) (rv.set (.inr m) nt))⟩
            rw [kv_key ri ek]
            refine .inr ⟨_, _, rfl, DPut.k q1 (by rw [q2.length]; exact hl), ?_⟩
            exact k _ (Ext.wrote m nt hf) (L.wrote hn new hf)
          · cases e
        · cases e
      · unfold storeIx at e
        split at e
        · rename_i n' kk en
          cases en
          split at e
          · rename_i xs eS
            split at e
            · rename_i j ej
              cases e
              obtain ⟨us, q1, q2⟩ := L.st.ok _ _ _ hn eS
              cases ri
              have m := List.mem_of_getElem? hn
              have nt := L.st.notup m
              have hf : ∀ o u, H _ ≠ some (.frz o u) := fun o u z => by rw [q1] at z; cases z
              have new : SOK C (upd H _ (.lst (us.set j v))) P β _ (.lst (xs.set j d)) := ⟨_, upd_same, (q2.set' j rv).set (.inr m) nt⟩
              refine .inl ⟨_, us, kk, j, rfl, rfl, q1, by rw [q2.length]; exact ej, ?_⟩
              exact k _ (Ext.wrote m nt hf) (L.wrote hn new hf)
            · cases e
          · cases e
        · cases e
  · cases e
theorem pg_kxM (hu : X.A.units + 64 < cLine) (ho : PM (ctOf X) W true X o mo) (hi : PM (ctOf X) W true X e me)
    (ha : ∀ v, assign (.Subscript o e pos) X.env v = (do
      let ov ← holding [v] (eval o X.env)
      let iv ← holding [v, ov] (eval e X.env)
      standAt pos
      holding [v, ov, iv] (setItem ov iv v)
      release [v, ov, iv] []) := by intro _; rfl) : PGM X (.Subscript o e pos) (gKx mo me) :=
  PG_imp (pg_sub ho hi (PSet.or set_list (set_dict (by omega))) ha) fun v σ H Q h => by
    obtain ⟨cf, oa, P, β, ρ, S, d, L, r, h⟩ := h
    unfold gKx at h
    refine ⟨cf, oa, P, β, ρ, S, L, ?_⟩
    cases eo : mo ρ S with
    | stuck => rw [eo] at h; exact h.elim
    | exc x S1 => rw [eo] at h; exact h.elim
    | ok od S1 =>
      rw [eo] at h
      simp only at h
      intro ov H1 β1 t1 L1 r1
      obtain ⟨s1, rfl, rfl⟩ := t1.ro rfl
      refine ⟨cf, oa, P, β1, ρ, S1, L1, ?_⟩
      cases ei : me ρ S1 with
      | stuck => rw [ei] at h; exact h.elim
      | exc x S2 => rw [ei] at h; exact h.elim
      | ok id S2 =>
        rw [ei] at h
        intro iv H2 β2 t2 L2 r2
        obtain ⟨s2, rfl, rfl⟩ := t2.ro rfl
        simp only at h
        cases es : storeKx od id d S2 with
        | none => rw [es] at h; exact h.elim
        | some S3 =>
          rw [es] at h
          exact storeKx_ok L2 (r1.mono (Ext.same s2)) r2 ((r.mono (Ext.same s1)).mono (Ext.same s2)) es fun H' x L3 =>
            h σ H' β2 oa P L3 ((Fx.of (Ext.same (s1.trans s2))).trans (Fx.of x))

/-! ### d[k] op= e -/
def sAugK (f : Store → D → D → Option D) (mo mi me : EX) : SX := fun ρ S => (mo ρ S).st ρ fun o S1 => (mi ρ S1).st ρ fun i S2 => match dKx S2 o i with
  | some x => (me ρ S2).st ρ fun y S3 => match f S3 x y with
    | some z => match storeKx o i z S3 with
      | some S4 => .nx ρ S4
      | none => .stuck
    | none => .stuck
  | none => .stuck
theorem get_dict (hu : X.A.units + 1 < cLine) : PGet X rGet := by
  intro pins s σ H o i ov iv Q I ro ri h
  obtain ⟨a, v, rfl, g, q⟩ := h
  cases ro
  exact d_getItem hu I g ri fun w' s3 I3 rw' => ⟨v, H, I3, rw', q⟩
theorem ps_augKM {op : Operator} {r : TIp} {f : Store → D → D → Option D} {tpos : Pos} (hu : X.A.units + 64 < cLine) (hop : PIp X op r) (hm : OpM X r f) (ho : PM (ctOf X) W false X o mo) (hi : PM (ctOf X) W false X i mi) (he : PM (ctOf X) W false X e me)
    (ha : ∀ ov iv new, augStore i ov iv new = (do holding [new, ov, iv] (setItem ov iv new); release [new, ov, iv] []; pure .next) := by intros; rfl) : PSM (ctOf X) W X (.AugAssign (.Subscript o i tpos) op e pos) (sAugK f mo mi me) :=
  PS_imp (ps_augS ho hi (get_dict (by omega)) he hop (PSet.or set_list (set_dict (by omega))) ha) fun D σ H h => by
    obtain ⟨cf, oa, P, β, ρ, S, L, h⟩ := h
    unfold sAugK at h
    refine ⟨cf, oa, P, β, ρ, S, L, ?_⟩
    cases eo : mo ρ S with
    | stuck => rw [eo] at h; exact h
    | exc x S1 => rw [eo] at h; exact xp_of h
    | ok od S1 =>
      rw [eo] at h
      simp only [R.st] at h
      intro ov H1 β1 t1 L1 r1
      refine ⟨cf, oa, P, β1, ρ, S1, L1, ?_⟩
      cases ei : mi ρ S1 with
      | stuck => rw [ei] at h; exact h
      | exc x S2 => rw [ei] at h; exact xp_of (SQ.fx (r := .exc x ρ S2) (Fx.of t1.ext) h)
      | ok id S2 =>
        rw [ei] at h
        simp only at h
        intro iv H2 β2 t2 L2 r2
        have r12 := r1.mono t2.ext
        cases ex : dKx S2 od id with
        | none => rw [ex] at h; exact h.elim
        | some x =>
          rw [ex] at h
          simp only at h
          refine get_m P H2 β2 S2 ov iv od id x _ L2.at r12 r2 ex fun xv H3 s3 r3 => ?_
          have L3 := L2.same s3
          have t13 := t1.trans (t2.trans (Tr.same s3))
          refine ⟨cf, oa, P, β2, ρ, S2, L3, ?_⟩
          cases ee : me ρ S2 with
          | stuck => rw [ee] at h; exact h
          | exc x S4 => rw [ee] at h; exact xp_of (SQ.fx (r := .exc x ρ S4) (Fx.of t13.ext) h)
          | ok y S4 =>
            rw [ee] at h
            simp only at h
            intro yv H4 β4 t4 L4 r4
            cases ef : f S4 x y with
            | none => rw [ef] at h; exact h.elim
            | some z =>
              rw [ef] at h
              simp only at h
              refine hm P H4 β4 S4 xv yv x y z _ L4.at (r3.mono t4.ext) r4 ef fun zv H5 s5 r5 => ?_
              have L5 := L4.same s5
              have t15 := t13.trans (t4.trans (Tr.same s5))
              cases es : storeKx od id z S4 with
              | none => rw [es] at h; exact h.elim
              | some S6 =>
                rw [es] at h
                have w : ∀ {v : V} {d : Mi.D}, RV (ctOf X) H2 P β2 v d → RV (ctOf X) H5 P β4 v d := fun r => ((r.mono (Ext.same s3)).mono t4.ext).mono (Ext.same s5)
                exact storeKx_ok L5 (w r12) (w r2) r5 es fun H' x L6 => h σ H' β4 oa P L6 ((Fx.of t15.ext).trans (Fx.of x))

/-! ### list(d) -/
def fListK (S : Store) (ds : List D) : Option D := match ds with
  | [d] => match viewK S d with
    | some kvs => some (.lst (kvs.map fun p => kD p.1))
    | none => fList S ds
  | _ => none
theorem rvs_keys {C : Ct} {H : Hp} {P : Addr → Prop} {β : List Addr} {P' : Addr → Prop} {H' : Hp} {β' : List Addr} : ∀ {vs : List (Key × V)} {ds : List (Key × D)}, RKs C H P β vs ds → RVs C H' P' β' (vs.map fun kv => kV kv.1) (ds.map fun p => kD p.1)
  | _, _, .nil => .nil
  | _, _, .cons _ t => .cons (rv_key _) (rvs_keys t)
def rListK (K : PySem.W.Frag) : List V → Hp → VK → Prop := fun xs H Q => (∃ p ys, xs = [.ref p] ∧ (SqL K H p ys ∨ SqT K H p ys) ∧ ∀ l, H l = none → Q (.ref l) (upd H l (.lst ys))) ∨
  ∃ (a : Addr) (kvs : List (Key × V)), xs = [.ref a] ∧ Rd H a (.dK kvs) ∧ ∀ p, H p = none → Q (.ref p) (upd H p (.lst (kvs.map fun kv => kV kv.1)))
theorem call_listK (hc : X.calm = true) : CallR X (.type "list") (rListK X.K) := CallR.or call_list_of (call_listD hc)
theorem listK_n : FnN X (rListK X.K) fListK := by
  intro Z H β S xs ds dz Q A r e k
  unfold fListK at e
  split at e
  · split at e
    · rename_i kvs ev
      cases e
      obtain ⟨x, rfl, r1⟩ := rvs1 r
      obtain ⟨a, us, rfl, q1, q2⟩ := r1.viewK A.st ev
      exact .inr ⟨a, us, rfl, q1, fun p hp => k p _ (same_laid hp) hp ⟨_, upd_same, rvs_keys q2⟩⟩
    · exact .inl (list_n Z H β S xs _ dz Q A r e k)
  · cases e
theorem listK_isL (S : Store) (xs : List D) (d : D) (h : fListK S xs = some d) : isL d := by
  unfold fListK at h
  split at h
  · split at h
    · cases h; exact ⟨_, rfl⟩
    · exact list_isL _ _ _ h
  · cases h
theorem listK_m : FnM X (rListK X.K) fListK := FnM.of_new listK_n listK_isL
end

/-! ### walks over a dict that stands still -/
def viewF (S : Store) : D → Option (List (Key × D))
  | .dct xs => some xs
  | .ref n => match S[n]? with
    | some (.lck xs) => some xs
    | _ => none
  | _ => none
def kItems (kvs : List (Key × D)) : List D := kvs.map fun p => .tup [kD p.1, p.2]
def kVals (kvs : List (Key × D)) : List D := kvs.map fun p => p.2
def kKeys (kvs : List (Key × D)) : List D := kvs.map fun p => kD p.1
def iF (g : List (Key × D) → List D) (a : EX) : AX := fun ρ S => (a ρ S).bind fun x S1 => R.opt ((viewF S1 x).map g) S1
/-- the items of a list that stands still -/
def itemsF (S : Store) (d : D) : Option (List D) := match d with
  | .ref n => match S[n]? with
    | some (.lkl xs) => some xs
    | _ => none
  | d => itemsOf d
def iSeqF (a : EX) : AX := fun ρ S => (a ρ S).bind fun x S1 => R.opt (match viewF S1 x with
  | some kvs => some (kKeys kvs)
  | none => itemsF S1 x) S1
section
variable {X : Cx} {W : WX} {b : Bool} {tg e : Expr} {ma : EX}
theorem RV.viewF {C : Ct} {H : Hp} {Z : Addr → Prop} {β : List Addr} {S : Store} {v : V} {d : D} (r : RV C H Z β v d) (s : SRel C H Z β S) {ds : List (Key × D)} (h : Mi.viewF S d = some ds) : ∃ a o xs, v = .ref a ∧ H a = some (.frz o (.dK xs)) ∧ RKs C H Z β xs ds := by
  cases r with
  | dct hp hb hr hs => cases h; obtain ⟨o, q⟩ := hr; exact ⟨_, o, _, rfl, q, hs⟩
  | ref hn =>
    simp only [Mi.viewF] at h
    split at h
    · rename_i xs e
      cases h
      obtain ⟨od, us, q1, q2⟩ := s.ok _ _ _ hn e
      exact ⟨_, od, us, rfl, q1, q2⟩
    · cases h
  | _ => cases h
theorem itF_keys {C : Ct} {H : Hp} {P : Addr → Prop} {β : List Addr} {a : Addr} {o : Obj} {xs : List (Key × V)} {ds : List (Key × D)} (e : H a = some (.frz o (.dK xs))) (rs : RKs C H P β xs ds) : ItM C (Itk a o xs) (kKeys ds) H P β := by
  intro i H2 P2 β2 f n
  have q := f.fz _ _ _ e
  refine ⟨fun d hd => ?_, fun hl => ⟨q, by rw [rks_len rs]; unfold kKeys at hl; rw [List.length_map] at hl; exact Nat.le_of_eq hl⟩⟩
  unfold kKeys at hd
  rw [List.getElem?_map] at hd
  cases ed : ds[i]? with
  | none => rw [ed] at hd; cases hd
  | some p =>
    obtain ⟨k, d'⟩ := p
    rw [ed] at hd
    cases hd
    obtain ⟨v, hv, _⟩ := rks_get rs ed
    refine ⟨⟨q, (List.getElem?_eq_some_iff.mp hv).1⟩, fun x H3 y => ?_⟩
    obtain ⟨rfl, k', v', hk, rfl⟩ := y
    rw [hv] at hk
    cases hk
    exact ⟨Same.refl _, rv_key _⟩
theorem itF_vals {C : Ct} {H : Hp} {P : Addr → Prop} {β : List Addr} {a : Addr} {o : Obj} {xs : List (Key × V)} {ds : List (Key × D)} (e : H a = some (.frz o (.dK xs))) (rs : RKs C H P β xs ds) : ItM C (Itd a o xs) (kVals ds) H P β := by
  intro i H2 P2 β2 f n
  have q := f.fz _ _ _ e
  refine ⟨fun d hd => ?_, fun hl => ⟨q, by rw [rks_len rs]; unfold kVals at hl; rw [List.length_map] at hl; exact Nat.le_of_eq hl⟩⟩
  unfold kVals at hd
  rw [List.getElem?_map] at hd
  cases ed : ds[i]? with
  | none => rw [ed] at hd; cases hd
  | some p =>
    obtain ⟨k, d'⟩ := p
    rw [ed] at hd
    cases hd
    obtain ⟨v, hv, rv⟩ := rks_get rs ed
    refine ⟨⟨q, (List.getElem?_eq_some_iff.mp hv).1⟩, fun x H3 y => ?_⟩
    obtain ⟨rfl, k', hk⟩ := y
    rw [hv] at hk
    cases hk
    exact ⟨Same.refl _, rv.fx f⟩
theorem itF_items {C : Ct} {H : Hp} {P : Addr → Prop} {β : List Addr} {a : Addr} {o : Obj} {xs : List (Key × V)} {ds : List (Key × D)} (e : H a = some (.frz o (.dK xs))) (rs : RKs C H P β xs ds) : ItM C (Iti a o xs) (kItems ds) H P β := by
  intro i H2 P2 β2 f n
  have q := f.fz _ _ _ e
  refine ⟨fun d hd => ?_, fun hl => ⟨q, by rw [rks_len rs]; unfold kItems at hl; rw [List.length_map] at hl; exact Nat.le_of_eq hl⟩⟩
  unfold kItems at hd
  rw [List.getElem?_map] at hd
  cases ed : ds[i]? with
  | none => rw [ed] at hd; cases hd
  | some p =>
    obtain ⟨k, d'⟩ := p
    rw [ed] at hd
    cases hd
    obtain ⟨v, hv, rv⟩ := rks_get rs ed
    refine ⟨⟨q, (List.getElem?_eq_some_iff.mp hv).1⟩, fun x H3 y => ?_⟩
    obtain ⟨T, k', v', hk, rfl, hT, rfl⟩ := y
    rw [hv] at hk
    cases hk
    have sm : Same H2 (upd H2 T (.tup [kV k, v])) := same_laid hT
    exact ⟨sm, .tup (.inl upd_same) (.cons (rv_key _) (.cons ((rv.fx f).mono (Ext.same sm)) .nil))⟩
theorem im_iF {g : List (Key × D) → List D} {wi : TI} {J : Addr → Obj → List (Key × V) → It} (hw : ∀ σ H R, EM (ctOf X) W b ma σ H (fun x H1 => ∃ d o kvs, x = .ref d ∧ H1 d = some (.frz o (.dK kvs)) ∧ R (J d o kvs) H1) → wi σ H R)
    (hJ : ∀ {H : Hp} {P : Addr → Prop} {β : List Addr} {a : Addr} {o : Obj} {xs : List (Key × V)} {ds : List (Key × D)}, H a = some (.frz o (.dK xs)) → RKs (ctOf X) H P β xs ds → ItM (ctOf X) (J a o xs) (g ds) H P β) :
    ∀ σ H R, IM (ctOf X) W b (iF g ma) σ H R → wi σ H R := by
  intro σ H R h
  refine hw σ H R ?_
  obtain ⟨cf, oa, P, β, ρ, S, L, h⟩ := h
  refine ⟨cf, oa, P, β, ρ, S, L, ?_⟩
  unfold iF at h
  cases ea : ma ρ S with
  | stuck => rw [ea] at h; exact h
  | exc x S1 => rw [ea] at h; exact h
  | ok d S1 =>
    rw [ea] at h
    simp only [Mi.R.bind] at h
    intro v H1 β1 t L1 r
    cases ev : viewF S1 d with
    | none => rw [ev] at h; exact h.elim
    | some kvs =>
      rw [ev] at h
      obtain ⟨a, o, xs, rfl, q1, q2⟩ := r.viewF L1.st ev
      exact ⟨a, o, xs, rfl, q1, h _ H1 β1 t L1 (hJ q1 q2)⟩
variable {apos cpos : Pos} {elts : List Expr} {kk : Nat} {tpos : Pos}
theorem pim_items (he : PM (ctOf X) W b X e ma) (hbase : attributeBase e "items" X.env (eval e X.env) = eval e X.env := by rfl) (hline : (apos.endLine == cpos.line) = true := by rfl) :
    PIM (ctOf X) W b X (.Tuple elts kk tpos) (.Call (.Attribute e "items" apos) [] [] cpos) (iF kItems ma) := PI_imp (pi_items he hbase hline) (im_iF (J := fun d o kvs => Iti d o kvs) (fun σ H R h => h) itF_items)
theorem pim_values (he : PM (ctOf X) W b X e ma) (hbase : attributeBase e "values" X.env (eval e X.env) = eval e X.env := by rfl) (hline : (apos.endLine == cpos.line) = true := by rfl) :
    PIM (ctOf X) W b X tg (.Call (.Attribute e "values" apos) [] [] cpos) (iF kVals ma) := PI_imp (pi_values he hbase hline) (im_iF (J := fun d o kvs => Itd d o kvs) (fun σ H R h => h) itF_vals)
theorem pim_keysM (he : PM (ctOf X) W b X e ma) (hbase : attributeBase e "keys" X.env (eval e X.env) = eval e X.env := by rfl) (hline : (apos.endLine == cpos.line) = true := by rfl) :
    PIM (ctOf X) W b X tg (.Call (.Attribute e "keys" apos) [] [] cpos) (iF kKeys ma) := PI_imp (pi_keysM he hbase hline) (im_iF (J := fun d o kvs => Itk d o kvs) (fun σ H R h => h) itF_keys)
theorem pim_seqF (he : PM (ctOf X) W b X e ma) : PIM (ctOf X) W b X tg e (iSeqF ma) := PI_imp (pi_or (pi_any he) (pi_keys he)) fun σ H R h => by
  obtain ⟨cf, oa, P, β, ρ, S, L, h⟩ := h
  unfold iSeqF at h
  cases ea : ma ρ S with
  | stuck => rw [ea] at h; exact h.elim
  | exc e S1 => rw [ea] at h; exact .inl ⟨cf, oa, P, β, ρ, S, L, by rw [ea]; exact h⟩
  | ok d S1 =>
    rw [ea] at h
    simp only [Mi.R.bind] at h
    cases ev : viewF S1 d with
    | none =>
      rw [ev] at h
      refine .inl ⟨cf, oa, P, β, ρ, S, L, ?_⟩
      rw [ea]
      intro v H1 β1 t L1 r
      simp only at h
      cases r with
      | lst hp hb hr hs =>
        refine .inl ⟨_, rfl, ⟨_, .inl hr⟩, h _ H1 β1 t L1 ?_⟩
        exact it_list (fun H2 P2 β2 f => .inl (f.con _ _ hp hb hr).1) hs
      | tup hr hs =>
        refine .inr (.inl ⟨_, rfl, ⟨_, .inl hr⟩, h _ H1 β1 t L1 ?_⟩)
        exact it_tup (fun H2 P2 β2 f => .inl (f.tups _ _ hr)) hs
      | ktup k hs =>
        refine .inr (.inl ⟨_, rfl, ⟨_, .inr k⟩, h _ H1 β1 t L1 ?_⟩)
        exact it_tup (fun H2 P2 β2 f => .inr k) hs
      | klst k hs =>
        refine .inl ⟨_, rfl, ⟨_, .inr k⟩, h _ H1 β1 t L1 ?_⟩
        exact it_list (fun H2 P2 β2 f => .inr k) hs
      | str z => exact .inr (.inr ⟨z, rfl, h _ H1 β1 t L1 it_str⟩)
      | dct _ _ _ _ => cases ev
      | @ref n0 a0 hn =>
        simp only [itemsF] at h
        cases eS : S1[n0]? with
        | none => rw [eS] at h; exact h.elim
        | some so =>
          rw [eS] at h
          cases so with
          | lkl xs =>
            obtain ⟨od, us, q1, q2⟩ := L1.st.ok _ _ _ hn eS
            refine .inl ⟨_, rfl, ⟨us, .inl (.inr ⟨od, q1⟩)⟩, h _ H1 β1 t L1 ?_⟩
            exact it_list (fun H2 P2 β2 f => .inl (.inr ⟨od, f.fz _ _ _ q1⟩)) q2
          | _ => exact h.elim
      | _ => exact h.elim
    | some kvs =>
      rw [ev] at h
      refine .inr ⟨cf, oa, P, β, ρ, S, L, ?_⟩
      rw [ea]
      intro v H1 β1 t L1 r
      obtain ⟨a, o, xs, rfl, q1, q2⟩ := r.viewF L1.st ev
      exact ⟨a, o, rfl, .inl ⟨xs, q1, h _ H1 β1 t L1 (itF_keys q1 q2)⟩⟩
end
end Mi

/-! Mi37: a dict of the store locked while an expression, a statement runs. -/
namespace Mi
open PySem PySem.Spec PyProof.Rows L2

def lkO : SO → Option SO
  | .dct k => some (.lck k)
  | .lst x => some (.lkl x)
  | _ => none
def ulO : SO → Option SO
  | .lck k => some (.dct k)
  | .lkl x => some (.lst x)
  | _ => none
def unlO (n : Nat) (S : Store) : Option Store := match S[n]? with
  | some so => match ulO so with
    | some so' => some (S.set n so')
    | none => none
  | none => none
theorem unlO_at {n : Nat} {S S' : Store} (h : unlO n S = some S') : ∃ so so', S[n]? = some so ∧ ulO so = some so' ∧ S' = S.set n so' := by
  unfold unlO at h
  cases e : S[n]? with
  | none => rw [e] at h; cases h
  | some so =>
    rw [e] at h
    simp only at h
    cases e2 : ulO so with
    | none => rw [e2] at h; cases h
    | some so' => rw [e2] at h; cases h; exact ⟨so, so', rfl, e2, rfl⟩
def unlR {α : Type} (n : Nat) (r : R α) : R α := r.bind fun d S2 => match unlO n S2 with
  | some S3 => .ok d S3
  | none => .stuck
/-- the list or dict of the store that md names: its place, what stands there, the same locked -/
def lockOf (md : EX) (ρ : Rho) (S : Store) : Option (Nat × SO) := match md ρ S with
  | .ok (.ref n) _ => match S[n]? with
    | some so => match lkO so with
      | some so' => some (n, so')
      | none => none
    | none => none
  | _ => none
theorem lockOf_at {md : EX} {ρ : Rho} {S : Store} {n : Nat} {so' : SO} (h : lockOf md ρ S = some (n, so')) : ∃ so, S[n]? = some so ∧ lkO so = some so' := by
  unfold lockOf at h
  cases e : md ρ S with
  | ok d S0 =>
    rw [e] at h
    cases d with
    | ref n' =>
      simp only at h
      cases e2 : S[n']? with
      | none => rw [e2] at h; cases h
      | some so =>
        rw [e2] at h
        simp only at h
        cases e3 : lkO so with
        | none => rw [e3] at h; cases h
        | some s' => rw [e3] at h; cases h; exact ⟨so, e2, e3⟩
    | _ => cases h
  | _ => rw [e] at h; cases h
/-- m, the dict that md names locked meanwhile -/
def mLock (md : EX) (m : EX) : EX := fun ρ S => match lockOf md ρ S with
  | some p => unlR p.1 (m ρ (S.set p.1 p.2))
  | none => m ρ S
def bLock (md : EX) (m : BX) : BX := fun ρ S => match lockOf md ρ S with
  | some p => unlR p.1 (m ρ (S.set p.1 p.2))
  | none => m ρ S
def unlS (n : Nat) : SR → SR
  | .nx ρ S => match unlO n S with
    | some S3 => .nx ρ S3
    | none => .stuck
  | .bk ρ S => match unlO n S with
    | some S3 => .bk ρ S3
    | none => .stuck
  | .ct ρ S => match unlO n S with
    | some S3 => .ct ρ S3
    | none => .stuck
  | .rt d S => match unlO n S with
    | some S3 => .rt d S3
    | none => .stuck
  | .exc e ρ S => .exc e ρ S
  | .stuck => .stuck
def sLock (md : EX) (s : SX) : SX := fun ρ S => match lockOf md ρ S with
  | some p => unlS p.1 (s ρ (S.set p.1 p.2))
  | none => s ρ S

section
variable {C : Ct} {cf : Cf} {oa oa' : Nat → Option Addr} {P P' : Addr → Prop} {σ σ' : L2.St} {H H' : Hp} {β β' : List Addr} {ρ ρ' : Rho} {S S2 : Store}
theorem XAt.setB {a : Addr} {e : Exn} {p : Addr} {o : HO} (h : XAt C H P β a e) (hp : p ∈ β) (ht : ∀ xs, ¬ Rd H p (.tup xs)) : XAt C (upd H p o) P β a e := by
  obtain ⟨oe, Ca, dd, vs, h1, h2, h3, h4, h5, h6, h7, h8⟩ := h
  exact ⟨oe, Ca, dd, vs, h1, h2, h3, h4, by rw [upd_ne (show dd ≠ p from fun z => h6 (by rw [z]; exact hp))]; exact h5, h6, h7, fun f y q => let ⟨v, q1, q2⟩ := h8 f y q; ⟨v, q1, q2.set (.inr hp) ht⟩⟩
/-- what the lock needs -/
structure Lk (H : Hp) (β : List Addr) (n : Nat) (a : Addr) (u : HO) : Prop where
  at_ : β[n]? = some a
  dk : H a = some u
  mu : Mut (some u)
  fr : ∀ o v, u ≠ .frz o v
  tu : ∀ ys, u ≠ .tup ys
theorem Lk.ne {n : Nat} {a : Addr} {u : HO} (k : Lk H β n a u) : ∀ o u, H a ≠ some (.frz o u) := fun o u z => by rw [k.dk] at z; cases z; exact k.fr _ _ rfl
theorem Lk.nt {n : Nat} {a : Addr} {u : HO} (k : Lk H β n a u) : ∀ ys, ¬ Rd H a (.tup ys) := fun ys z => by
  rcases z with z | ⟨o, z⟩
  · rw [k.dk] at z; cases z; exact k.tu _ rfl
  · rw [k.dk] at z; cases z; exact k.fr _ _ rfl
theorem LR.lk (L : LR C cf oa P σ H β ρ S) {n : Nat} {so so' : SO} {a : Addr} (hn : β[n]? = some a) (e : S[n]? = some so) (e' : lkO so = some so') : ∃ u, Lk H β n a u ∧ ∀ od, SOK C (upd H a (.frz od u)) P β a so' := by
  have q := L.st.ok _ _ _ hn e
  have m := List.mem_of_getElem? hn
  have nt := L.st.notup m
  cases so with
  | dct kvs =>
    cases e'
    obtain ⟨us, q1, q2⟩ := q
    exact ⟨.dK us, ⟨hn, q1, True.intro, (fun _ _ z => nomatch z), (fun _ z => nomatch z)⟩, fun od => ⟨od, us, upd_same, q2.set (.inr m) nt⟩⟩
  | lst xs =>
    cases e'
    obtain ⟨us, q1, q2⟩ := q
    exact ⟨.lst us, ⟨hn, q1, True.intro, (fun _ _ z => nomatch z), (fun _ z => nomatch z)⟩, fun od => ⟨od, us, upd_same, q2.set (.inr m) nt⟩⟩
  | _ => cases e'
theorem lk_out {a : Addr} {so so' : SO} {od : Obj} {u : HO} (h : SOK C H P β a so) (e : ulO so = some so') (hu : H a = some (.frz od u)) (m : a ∈ β) (nt : ∀ ys, ¬ Rd H a (.tup ys)) : SOK C (upd H a u) P β a so' := by
  cases so with
  | lck kvs =>
    cases e
    obtain ⟨od', us, q1, q2⟩ := h
    rw [hu] at q1
    cases q1
    exact ⟨us, upd_same, q2.set (.inr m) nt⟩
  | lkl xs =>
    cases e
    obtain ⟨od', us, q1, q2⟩ := h
    rw [hu] at q1
    cases q1
    exact ⟨us, upd_same, q2.set (.inr m) nt⟩
  | _ => cases e
theorem LR.lockB (L : LR C cf oa P σ H β ρ S) {n : Nat} {so' : SO} {a : Addr} {u : HO} (k : Lk H β n a u) (od : Obj) (new : SOK C (upd H a (.frz od u)) P β a so') :
    LR C cf oa P σ (upd H a (.frz od u)) β ρ (S.set n so') ∧ Ext H β (upd H a (.frz od u)) β := by
  have m := List.mem_of_getElem? k.at_
  exact ⟨L.wrote k.at_ new k.ne, Ext.wrote m k.nt k.ne⟩
/-- taken back -/
theorem LR.unlk (L : LR C cf oa P σ H β ρ S) {n : Nat} {a : Addr} {u : HO} (k : Lk H β n a u) {od : Obj} (L' : LR C cf oa' P' σ' H' β' ρ' S2) (f : Fs (upd H a (.frz od u)) β H' β') {so so' : SO} (e : S2[n]? = some so) (e' : ulO so = some so') :
    H' a = some (.frz od u) ∧ β'[n]? = some a ∧ (∀ ys, ¬ Rd H' a (.tup ys)) ∧ LR C cf oa' P' σ' (upd H' a u) β' ρ' (S2.set n so') := by
  have ha : H' a = some (.frz od u) := f.fz a od _ upd_same
  have hn : β'[n]? = some a := by
    obtain ⟨γ, r⟩ := f.pre
    rw [r, List.getElem?_append_left (List.getElem?_eq_some_iff.mp k.at_).1]; exact k.at_
  have m := List.mem_of_getElem? hn
  have nt : ∀ ys, ¬ Rd H' a (.tup ys) := fun ys z => by
    rcases z with z | ⟨o, z⟩
    · rw [ha] at z; cases z
    · rw [ha] at z; cases z; exact k.tu _ rfl
  have new : SOK C (upd H' a u) P' β' a so' := lk_out (L'.st.ok _ _ _ hn e) e' ha m nt
  refine ⟨ha, hn, nt, ?_⟩
  exact {
    len := L'.len
    p := fun b h => ⟨by
      by_cases e : b = a
      · rw [e, upd_same]; exact Option.some_ne_none _
      · rw [upd_ne e]; exact (L'.p b h).1, (L'.p b h).2⟩
    sub := L'.sub
    p0 := L'.p0
    ext := {
      pre := L'.ext.pre
      keep := fun b o h hb => by
        have ne : b ≠ a := fun z => (L'.ext.fresh a m).elim (fun q => hb (z ▸ q)) fun q => by rw [z, q] at h; cases h
        rw [upd_ne ne]; exact L'.ext.keep b o h hb
      fresh := L'.ext.fresh
      tups := fun b ys h => by
        have r := L'.ext.tups b ys h
        have ne : b ≠ a := fun z => nt ys (z ▸ r)
        unfold Rd; rw [upd_ne ne]; exact r
      stay := fun b h => by
        by_cases e : b = a
        · rw [e, upd_same]; exact Option.some_ne_none _
        · rw [upd_ne e]; exact L'.ext.stay b h
      fzs := fun b o v h => by
        have ne : b ≠ a := fun z => k.ne o v (by have := L.ext.fzs b o v h; rw [z] at this; exact this)
        rw [upd_ne ne]; exact L'.ext.fzs b o v h }
    own := L'.own
    inj := L'.inj
    st := L'.st.set hn new
    slot := fun i d h => let ⟨v, q1, q2⟩ := L'.slot i d h; ⟨v, q1, q2.set (.inr m) nt⟩
    oslot := fun i d h => let ⟨b, q1, q2, q3⟩ := L'.oslot i d h; ⟨b, q1, q2, q3.set (.inr m) nt fun z => (L'.p b (L'.own i b q1).1).2 (z ▸ m)⟩
    xslot := fun i x h => let ⟨b, q1, q2⟩ := L'.xslot i x h; ⟨b, q1, q2.setB m nt⟩ }
/-- the way as a whole -/
theorem Lk.ext {n : Nat} {a : Addr} {u : HO} (k : Lk H β n a u) {od : Obj} (x : Ext (upd H a (.frz od u)) β H' β') (nt : ∀ ys, ¬ Rd H' a (.tup ys)) : Ext H β (upd H' a u) β' := by
  have m := List.mem_of_getElem? k.at_
  have x1 : Ext H β (upd H a (.frz od u)) β := Ext.wrote m k.nt k.ne
  have x2 := x1.trans x
  refine ⟨x2.pre, fun b o h hb => ?_, x2.fresh, fun b ys h => ?_, fun b h => ?_, fun b o v h => ?_⟩
  · rw [upd_ne (fun z => hb (by rw [z]; exact m))]; exact x2.keep b o h hb
  · have r := x2.tups b ys h
    have ne : b ≠ a := fun z => nt ys (z ▸ r)
    unfold Rd; rw [upd_ne ne]; exact r
  · by_cases e : b = a
    · rw [e, upd_same]; exact Option.some_ne_none _
    · rw [upd_ne e]; exact x2.stay b h
  · have ne : b ≠ a := fun z => k.ne o v (z ▸ h)
    rw [upd_ne ne]; exact x2.fzs b o v h
theorem Lk.fx {n : Nat} {a : Addr} {u : HO} (k : Lk H β n a u) {od : Obj} (x : Fx (upd H a (.frz od u)) P β H' P' β') (hm : a ∈ β') (nt : ∀ ys, ¬ Rd H' a (.tup ys)) : Fx H P β (upd H' a u) P' β' := by
  have m := List.mem_of_getElem? k.at_
  have x1 : Ext H β (upd H a (.frz od u)) β := Ext.wrote m k.nt k.ne
  have x2 := (Fx.of (P := P) x1).trans x
  refine ⟨x2.pre, fun b v h1 h2 r => ?_, fun b o v h => ?_, fun b ys h => ?_⟩
  · obtain ⟨q1, q2, q3⟩ := x2.con b v h1 h2 r
    have ne : b ≠ a := fun z => q3 (z ▸ hm)
    exact ⟨by unfold Rd; rw [upd_ne ne]; exact q1, q2, q3⟩
  · have ne : b ≠ a := fun z => k.ne o v (z ▸ h)
    rw [upd_ne ne]; exact x2.fz b o v h
  · have r := x2.tups b ys h
    have ne : b ≠ a := fun z => nt ys (z ▸ r)
    unfold Rd; rw [upd_ne ne]; exact r
theorem Lk.fs {n : Nat} {a : Addr} {u : HO} (k : Lk H β n a u) {od : Obj} (x : Fs (upd H a (.frz od u)) β H' β') : Fs H β (upd H' a u) β' := by
  refine ⟨x.pre, fun b o v h => ?_⟩
  have ne : b ≠ a := fun z => k.ne o v (z ▸ h)
  rw [upd_ne ne]; exact x.fz b o v (by rw [upd_ne ne]; exact h)
end
section
variable {X : Cx} {W : WX} {e : Expr} {m md : EX} {s : SX} {st : Stmt} {kb : BX}
theorem pe_two {t1 t2 : TE} (a : PE X e t1) (b : PE X e t2) : PE X e (fun σ H Q => t1 σ H Q ∨ t2 σ H Q) := ⟨fun pins s σ H Q I h => h.elim (a.run pins s σ H Q I) (b.run pins s σ H Q I)⟩
theorem pm_lock (h : PM (ctOf X) W false X e m) : PM (ctOf X) W false X e (mLock md m) := PE_imp (pe_two h (pe_lock h)) fun σ H Q h => by
  obtain ⟨cf, oa, P, β, ρ, S, L, h⟩ := h
  unfold mLock at h
  cases elk : lockOf md ρ S with
  | none => rw [elk] at h; exact .inl ⟨cf, oa, P, β, ρ, S, L, h⟩
  | some p =>
      obtain ⟨n, so'⟩ := p
      rw [elk] at h
      obtain ⟨so, eS, eL⟩ := lockOf_at elk
      simp only at h
      have hl : n < β.length := by rw [L.st.len]; exact (List.getElem?_eq_some_iff.mp eS).1
      obtain ⟨u, k, rk⟩ := L.lk (List.getElem?_eq_getElem hl) eS eL
      refine .inr ⟨_, u, k.dk, k.mu, fun od => ?_⟩
      obtain ⟨L1, x1⟩ := L.lockB k od (rk od)
      refine ⟨cf, oa, P, β, ρ, _, L1, ?_⟩
      unfold unlR at h
      cases em : m ρ (S.set n so') with
      | stuck => rw [em] at h; exact h
      | exc x S2 =>
        rw [em] at h
        intro cls d H' β' t2 L2 ex
        exact h cls d H' β' ⟨x1.trans t2.ext, fun z => nomatch z⟩ L2 ex
      | ok d S2 =>
        rw [em] at h
        simp only [R.bind] at h
        intro v H' β' t2 L2 r2
        cases eu : unlO n S2 with
        | none => rw [eu] at h; exact h.elim
        | some S3 =>
          rw [eu] at h
          obtain ⟨sa, sb, e2, e3, rfl⟩ := unlO_at eu
          obtain ⟨q1, q2, q3, L3⟩ := L.unlk k L2 t2.ext.fs e2 e3
          exact ⟨q1, h v _ β' ⟨k.ext t2.ext q3, fun z => nomatch z⟩ L3 (r2.set (.inr (List.mem_of_getElem? q2)) q3)⟩
theorem pn_lock (h : PN (ctOf X) W false X e m) : PN (ctOf X) W false X e (mLock md m) := PE_imp (pe_two h (pe_lock h)) fun σ H Q h => by
  obtain ⟨cf, oa, P, β, ρ, S, L, h⟩ := h
  unfold mLock at h
  cases elk : lockOf md ρ S with
  | none => rw [elk] at h; exact .inl ⟨cf, oa, P, β, ρ, S, L, h⟩
  | some p =>
      obtain ⟨n, so'⟩ := p
      rw [elk] at h
      obtain ⟨so, eS, eL⟩ := lockOf_at elk
      simp only at h
      have hl : n < β.length := by rw [L.st.len]; exact (List.getElem?_eq_some_iff.mp eS).1
      obtain ⟨u, k, rk⟩ := L.lk (List.getElem?_eq_getElem hl) eS eL
      refine .inr ⟨_, u, k.dk, k.mu, fun od => ?_⟩
      obtain ⟨L1, x1⟩ := L.lockB k od (rk od)
      refine ⟨cf, oa, P, β, ρ, _, L1, ?_⟩
      unfold unlR at h
      cases em : m ρ (S.set n so') with
      | stuck => rw [em] at h; exact h
      | exc x S2 =>
        rw [em] at h
        intro cls d H' β' t2 L2 ex
        exact h cls d H' β' ⟨x1.trans t2.ext, fun z => nomatch z⟩ L2 ex
      | ok d S2 =>
        rw [em] at h
        simp only [R.bind] at h
        intro p H' β' t2 hp L2 o2
        cases eu : unlO n S2 with
        | none => rw [eu] at h; exact h.elim
        | some S3 =>
          rw [eu] at h
          obtain ⟨sa, sb, e2, e3, rfl⟩ := unlO_at eu
          obtain ⟨q1, q2, q3, L3⟩ := L.unlk k L2 t2.ext.fs e2 e3
          have m2 := List.mem_of_getElem? q2
          have ne : p ≠ β[n] := fun z => (L2.p p (.inr rfl)).2 (by rw [z]; exact m2)
          exact ⟨q1, h p _ β' ⟨k.ext t2.ext q3, fun z => nomatch z⟩ (by rw [upd_ne ne] at hp; exact hp) L3 (o2.set (.inr m2) q3 ne)⟩
theorem ps_two {t1 t2 : TS} (a : PS X st t1) (b : PS X st t2) : PS X st (fun D σ H => t1 D σ H ∨ t2 D σ H) := ⟨fun pins s σ H Q I h => h.elim (a.run pins s σ H Q I) (b.run pins s σ H Q I)⟩
theorem ps_lockM (h : PSM (ctOf X) W X st s) : PSM (ctOf X) W X st (sLock md s) := PS_imp (ps_two h (ps_lock h)) fun D σ H h => by
  obtain ⟨cf, oa, P, β, ρ, S, L, h⟩ := h
  unfold sLock at h
  cases elk : lockOf md ρ S with
  | none => rw [elk] at h; exact .inl ⟨cf, oa, P, β, ρ, S, L, h⟩
  | some p =>
      obtain ⟨n, so'⟩ := p
      rw [elk] at h
      obtain ⟨so, eS, eL⟩ := lockOf_at elk
      simp only at h
      have hl : n < β.length := by rw [L.st.len]; exact (List.getElem?_eq_some_iff.mp eS).1
      obtain ⟨u, k, rk⟩ := L.lk (List.getElem?_eq_getElem hl) eS eL
      refine .inr ⟨_, u, k.dk, k.mu, fun od => ?_⟩
      obtain ⟨L1, x1⟩ := L.lockB k od (rk od)
      refine ⟨cf, oa, P, β, ρ, _, L1, ?_⟩
      cases em : s ρ (S.set n so') with
      | stuck => rw [em] at h; exact h
      | exc x ρ2 S2 =>
        rw [em] at h
        intro cls d σ' H' β' oa' P' L2 f2 ex
        exact h cls d σ' H' β' oa' P' L2 ((Fx.of x1).trans f2) ex
      | nx ρ2 S2 =>
        rw [em] at h
        simp only [unlS] at h
        intro σ' H' β' oa' P' L2 f2
        cases eu : unlO n S2 with
        | none => rw [eu] at h; exact h.elim
        | some S3 =>
          rw [eu] at h
          obtain ⟨sa, sb, e2, e3, rfl⟩ := unlO_at eu
          obtain ⟨q1, q2, q3, L3⟩ := L.unlk k L2 f2.fs e2 e3
          exact ⟨q1, h σ' _ β' oa' P' L3 (k.fx f2 (List.mem_of_getElem? q2) q3)⟩
      | bk ρ2 S2 =>
        rw [em] at h
        simp only [unlS] at h
        intro σ' H' β' oa' P' L2 f2
        cases eu : unlO n S2 with
        | none => rw [eu] at h; exact h.elim
        | some S3 =>
          rw [eu] at h
          obtain ⟨sa, sb, e2, e3, rfl⟩ := unlO_at eu
          obtain ⟨q1, q2, q3, L3⟩ := L.unlk k L2 f2.fs e2 e3
          exact ⟨q1, h σ' _ β' oa' P' L3 (k.fx f2 (List.mem_of_getElem? q2) q3)⟩
      | ct ρ2 S2 =>
        rw [em] at h
        simp only [unlS] at h
        intro σ' H' β' oa' P' L2 f2
        cases eu : unlO n S2 with
        | none => rw [eu] at h; exact h.elim
        | some S3 =>
          rw [eu] at h
          obtain ⟨sa, sb, e2, e3, rfl⟩ := unlO_at eu
          obtain ⟨q1, q2, q3, L3⟩ := L.unlk k L2 f2.fs e2 e3
          exact ⟨q1, h σ' _ β' oa' P' L3 (k.fx f2 (List.mem_of_getElem? q2) q3)⟩
      | rt d S2 =>
        rw [em] at h
        simp only [unlS] at h
        intro v H' β' x2 f2 s2 r2
        cases eu : unlO n S2 with
        | none => rw [eu] at h; exact h.elim
        | some S3 =>
          rw [eu] at h
          obtain ⟨sa, sb, e2, e3, rfl⟩ := unlO_at eu
          have L2 : LR (ctOf X) cf (fun _ => none) cf.P0 [] H' β' [] S2 :=
            ⟨rfl, fun b hb => ⟨x2.stay b (L.p0 b hb), fun m => by
              rcases x2.fresh b m with q | q
              · exact (L.p b (L.sub b hb)).2 (by obtain ⟨γ, e⟩ := L.ext.pre; rw [e]; exact List.mem_append_left _ q)
              · exact L.p0 b hb q⟩, fun _ h => h, L.p0, x2, (fun _ _ h => nomatch h), (fun _ _ _ h => nomatch h), s2, (fun i d h => by cases h), (fun i d h => by cases h), (fun i d h => by cases h)⟩
          obtain ⟨q1, q2, q3, L3⟩ := L.unlk k L2 f2 e2 e3
          exact ⟨q1, h v _ β' L3.ext (k.fs f2) L3.st (r2.set (.inr (List.mem_of_getElem? q2)) q3)⟩
end
end Mi

/-! Mi38: xs[::-1]; postconditions of Mi35 to Mi37. -/
namespace Mi
open PySem PySem.Spec PyProof.Rows L2

def mRev (a : EX) : EX := fun ρ S => (a ρ S).bind fun x S1 => match viewL S1 x with
  | some xs => .ok (.lst xs.reverse) S1
  | none => .stuck
section
variable {X : Cx} {W : WX} {b : Bool} {e : Expr} {ma : EX} {k : Nat} {p1 p2 p3 pos : Pos}
theorem pn_rev (he : PM (ctOf X) W b X e ma) : PN (ctOf X) W b X (.Subscript e (.Slice none none (some (.UnaryOp .USub (.Constant (.int 1) k p1) p2)) p3) pos) (mRev ma) := PE_imp (pe_revL he) fun σ H Q h => by
  obtain ⟨cf, oa, P, β, ρ, S, L, h⟩ := h
  refine ⟨cf, oa, P, β, ρ, S, L, ?_⟩
  unfold mRev at h
  cases ea : ma ρ S with
  | stuck => rw [ea] at h; exact h
  | exc x S1 => rw [ea] at h; exact h
  | ok d S1 =>
    rw [ea] at h
    simp only [R.bind] at h
    intro v H1 β1 t1 L1 r1
    cases ev : viewL S1 d with
    | none => rw [ev] at h; exact h.elim
    | some xs =>
      rw [ev] at h
      obtain ⟨a, us, rfl, q1, q2⟩ := r1.viewL L1.st ev
      refine ⟨a, us, rfl, q1, fun p hp => ?_⟩
      have x : Same H1 (upd H1 p (.lst us.reverse)) := same_laid hp
      exact h p _ β1 (t1.trans (Tr.same x)) (stay_none t1.ext hp) (L1.keepMore x hp (by rw [upd_same]; exact Option.some_ne_none _)) ⟨us.reverse, upd_same, (q2.reverse.more hp).mono (Ext.same x)⟩
end

/-! ### postconditions -/
section
variable {a b m md mk mx mo mi me : EX} {ρ : Rho} {S : Store} {Q : D → Store → Prop} {QL : List D → Store → Prop} {E : Exn → Store → Prop} {N : Rho → Store → Prop} {p : Po} {s : SX} {v : D}
theorem w_rev : (mRev a ρ S).al Q E ↔ (a ρ S).al (fun x S1 => ∃ xs, viewL S1 x = some xs ∧ Q (.lst xs.reverse) S1) E := by
  unfold mRev; rw [al_bind]
  refine iff_of_eq (congrArg (fun z => R.al (a ρ S) z _) (funext fun x => funext fun S1 => propext ?_))
  cases h : viewL S1 x with
  | none => simp [R.al]
  | some xs => simp [R.al]
theorem w_get1 : (mGet1 md mk ρ S).al Q E ↔ (md ρ S).al (fun x S1 => isK S1 x = true ∧ (mk ρ S1).al (fun y S2 => ∃ kvs k, viewK S2 x = some kvs ∧ keyD y = some k ∧ Q ((valD kvs k).getD .non) S2) E) E := by
  unfold mGet1; rw [al_bind]
  refine iff_of_eq (congrArg (fun z => R.al (md ρ S) z _) (funext fun x => funext fun S1 => propext ?_))
  by_cases hk : isK S1 x = true
  · rw [if_pos hk, al_bind]
    refine Iff.trans (iff_of_eq (congrArg (fun z => R.al (mk ρ S1) z _) (funext fun y => funext fun S2 => propext ?_))) ⟨fun h => ⟨hk, h⟩, fun h => h.2⟩
    cases h1 : viewK S2 x <;> cases h2 : keyD y <;> simp [R.al]
  · rw [if_neg hk]; exact ⟨fun h => h.elim, fun h => absurd h.1 hk⟩
theorem w_get2 : (mGet2 md mk mx ρ S).al Q E ↔ (md ρ S).al (fun x S1 => isK S1 x = true ∧ (mk ρ S1).al (fun y S2 => (mx ρ S2).al (fun z S3 => ∃ kvs k, viewK S3 x = some kvs ∧ keyD y = some k ∧ Q ((valD kvs k).getD z) S3) E) E) E := by
  unfold mGet2; rw [al_bind]
  refine iff_of_eq (congrArg (fun z => R.al (md ρ S) z _) (funext fun x => funext fun S1 => propext ?_))
  by_cases hk : isK S1 x = true
  · rw [if_pos hk, al_bind]
    refine Iff.trans (iff_of_eq (congrArg (fun z => R.al (mk ρ S1) z _) (funext fun y => funext fun S2 => propext ?_))) ⟨fun h => ⟨hk, h⟩, fun h => h.2⟩
    rw [al_bind]
    refine iff_of_eq (congrArg (fun z => R.al (mx ρ S2) z _) (funext fun z => funext fun S3 => propext ?_))
    cases h1 : viewK S3 x <;> cases h2 : keyD y <;> simp [R.al]
  · rw [if_neg hk]; exact ⟨fun h => h.elim, fun h => absurd h.1 hk⟩
theorem w_iF {g : List (Key × D) → List D} : (iF g a ρ S).al QL E ↔ (a ρ S).al (fun x S1 => ∃ kvs, viewF S1 x = some kvs ∧ QL (g kvs) S1) E := by
  unfold iF; rw [al_bind]
  refine iff_of_eq (congrArg (fun z => R.al (a ρ S) z _) (funext fun x => funext fun S1 => propext ?_))
  cases h1 : viewF S1 x <;> simp [R.al, R.opt]
def seqF (S : Store) (x : D) : Option (List D) := match viewF S x with
  | some kvs => some (kKeys kvs)
  | none => itemsF S x
theorem w_iSeqF : (iSeqF a ρ S).al QL E ↔ (a ρ S).al (fun x S1 => ∃ ds, seqF S1 x = some ds ∧ QL ds S1) E := by
  unfold iSeqF; rw [al_bind]
  refine iff_of_eq (congrArg (fun z => R.al (a ρ S) z _) (funext fun x => funext fun S1 => propext ?_))
  rw [al_opt]; rfl
theorem al_unlR {α : Type} {n : Nat} {r : R α} {Q : α → Store → Prop} : (unlR n r).al Q E ↔ r.al (fun d S2 => ∃ S3, unlO n S2 = some S3 ∧ Q d S3) E := by
  unfold unlR; rw [al_bind]
  refine iff_of_eq (congrArg (fun z => R.al r z _) (funext fun x => funext fun S1 => propext ?_))
  cases h1 : unlO n S1 <;> simp [R.al]
theorem w_lock : (mLock md m ρ S).al Q E ↔ match lockOf md ρ S with
    | some p => (m ρ (S.set p.1 p.2)).al (fun d S2 => ∃ S3, unlO p.1 S2 = some S3 ∧ Q d S3) E
    | none => (m ρ S).al Q E := by
  unfold mLock
  cases lockOf md ρ S with
  | none => exact Iff.rfl
  | some p => exact al_unlR
theorem w_slock : (sLock md s ρ S).al N p ↔ match lockOf md ρ S with
    | some q => (s ρ (S.set q.1 q.2)).al (fun ρ2 S2 => ∃ S3, unlO q.1 S2 = some S3 ∧ N ρ2 S3) ⟨fun d S2 => ∃ S3, unlO q.1 S2 = some S3 ∧ p.T d S3, p.E, fun ρ2 S2 => ∃ S3, unlO q.1 S2 = some S3 ∧ p.B ρ2 S3, fun ρ2 S2 => ∃ S3, unlO q.1 S2 = some S3 ∧ p.C ρ2 S3, p.X⟩
    | none => (s ρ S).al N p := by
  unfold sLock
  cases lockOf md ρ S with
  | none => exact Iff.rfl
  | some q =>
    simp only
    cases s ρ (S.set q.1 q.2) with
    | nx ρ2 S2 => simp only [unlS, SR.al]; cases h1 : unlO q.1 S2 <;> simp [SR.al]
    | bk ρ2 S2 => simp only [unlS, SR.al]; cases h1 : unlO q.1 S2 <;> simp [SR.al]
    | ct ρ2 S2 => simp only [unlS, SR.al]; cases h1 : unlO q.1 S2 <;> simp [SR.al]
    | rt d S2 => simp only [unlS, SR.al]; cases h1 : unlO q.1 S2 <;> simp [SR.al]
    | exc e ρ2 S2 => exact Iff.rfl
    | stuck => exact Iff.rfl
theorem w_augk {f : Store → D → D → Option D} : (sAugK f mo mi me ρ S).al N p ↔ (mo ρ S).al (fun o S1 => (mi ρ S1).al (fun i S2 => ∃ x, dKx S2 o i = some x ∧ (me ρ S2).al (fun y S3 => ∃ z, f S3 x y = some z ∧ ∃ S4, storeKx o i z S3 = some S4 ∧ N ρ S4) (fun e S => p.E e S ∧ p.X e ρ S)) (fun e S => p.E e S ∧ p.X e ρ S)) (fun e S => p.E e S ∧ p.X e ρ S) := by
  unfold sAugK
  rw [al_st]
  refine iff_of_eq (congrArg (fun z => R.al (mo ρ S) z _) (funext fun o => funext fun S1 => propext ?_))
  rw [al_st]
  refine iff_of_eq (congrArg (fun z => R.al (mi ρ S1) z _) (funext fun i => funext fun S2 => propext ?_))
  cases h1 : dKx S2 o i with
  | none => simp [SR.al]
  | some x =>
    simp only [al_st, Option.some.injEq, exists_eq_left']
    refine iff_of_eq (congrArg (fun z => R.al (me ρ S2) z _) (funext fun y => funext fun S3 => propext ?_))
    cases h2 : f S3 x y with
    | none => simp [SR.al]
    | some z =>
      cases h3 : storeKx o i z S3 <;> simp [SR.al, h3]
end
end Mi

/-! Mi39: helps for laws with a store that grows. -/
namespace Mi
open PySem PySem.Spec PyProof.Rows L2
/-! ### a generator at n, all else as it stood -/
structure Gn (n : Nat) (S S' : Store) : Prop where
  at_ : RngAt S' n
  len : S'.length = S.length
  same : ∀ k, k ≠ n → S'[k]? = S[k]?
theorem Gn.refl {n : Nat} {S : Store} (h : RngAt S n) : Gn n S S := ⟨h, rfl, fun _ _ => rfl⟩
theorem Gn.trans {n : Nat} {S S1 S2 : Store} (a : Gn n S S1) (b : Gn n S1 S2) : Gn n S S2 := ⟨b.at_, b.len.trans a.len, fun k h => (b.same k h).trans (a.same k h)⟩
theorem drawG {S : Store} {n : Nat} {m : Int} {Q : D → Store → Prop} {E : Exn → Store → Prop} (h : RngAt S n) (h0 : 0 < m) (h1 : m < 1073741824) (k : ∀ d S', 0 ≤ d → d < m → Gn n S S' → Q (.int d) S') : ((mDef 3 drawS) [.ref n, .int m] S).al Q E := by
  obtain ⟨d, a, b, e, d0, d1, a0, b0, b1⟩ := draw_eq h h0 h1
  rw [e]
  have hl : n < S.length := by obtain ⟨_, _, e, _⟩ := h; exact (List.getElem?_eq_some_iff.mp e).1
  exact k d _ d0 d1 ⟨⟨a, b, List.getElem?_set_self hl, a0, b0, b1⟩, List.length_set, fun k hk => List.getElem?_set_ne hk.symm⟩
theorem rs_of {S : Store} {n : Nat} (h : RngAt S n) : RS S n S := by
  obtain ⟨a, b, e, a0, b0, b1⟩ := h
  obtain ⟨hl, e⟩ := List.getElem?_eq_some_iff.mp e
  refine ⟨a, b, a0, b0, b1, hl, ?_⟩
  rw [← e]
  exact (List.set_getElem_self hl).symm
theorem RS.gn {S S' : Store} {n : Nat} (h : RS S n S') : Gn n S S' := by
  obtain ⟨a, b, a0, b0, b1, hl, rfl⟩ := h
  exact ⟨⟨a, b, List.getElem?_set_self hl, a0, b0, b1⟩, List.length_set, fun k hk => List.getElem?_set_ne hk.symm⟩
theorem RngAt.app {S J : Store} {n : Nat} (h : RngAt S n) : RngAt (S ++ J) n := by
  obtain ⟨a, b, e, r⟩ := h
  exact ⟨a, b, by rw [List.getElem?_append_left (List.getElem?_eq_some_iff.mp e).1]; exact e, r⟩
theorem RngAt.lt {S : Store} {n : Nat} (h : RngAt S n) : n < S.length := by
  obtain ⟨a, b, e, r⟩ := h
  exact (List.getElem?_eq_some_iff.mp e).1
theorem get_app {S J : Store} {n : Nat} {so : SO} (h : S[n]? = some so) : (S ++ J)[n]? = some so := by
  rw [List.getElem?_append_left (List.getElem?_eq_some_iff.mp h).1]; exact h

/-! ### the store read in -/
mutual
theorem stp_id {S : Store} : ∀ d : D, noR d = true → stp S d = d
  | .non, _ => rfl
  | .bl _, _ => rfl
  | .int _, _ => rfl
  | .str _, _ => rfl
  | .tup xs, h => by simp only [stp]; rw [stps_id xs (by simpa only [noR] using h)]
  | .lst xs, h => by simp only [stp]; rw [stps_id xs (by simpa only [noR] using h)]
  | .dct xs, h => by simp only [stp]; rw [stpk_id xs (by simpa only [noR] using h)]
  | .ref _, h => by simp only [noR, Bool.false_eq_true] at h
  | .ty _, _ => rfl
  | .fn _, _ => rfl
theorem stps_id {S : Store} : ∀ ds : List D, noRs ds = true → stps S ds = ds
  | [], _ => rfl
  | d :: r, h => by
    simp only [noRs, Bool.and_eq_true] at h
    simp only [stps]; rw [stp_id d h.1, stps_id r h.2]
theorem stpk_id {S : Store} : ∀ ds : List (Key × D), noRk ds = true → stpk S ds = ds
  | [], _ => rfl
  | (k, d) :: r, h => by
    simp only [noRk, noRp, Bool.and_eq_true] at h
    simp only [stpk, stpp]; rw [stp_id d h.1, stpk_id r h.2]
end
/-- one step is enough -/
theorem top_1 {S : Store} {d d' : D} (h : stp S d = d') (h' : noR d' = true) : top S d = d' := by
  unfold top
  split
  · rename_i hn; rw [← h, stp_id d hn]
  · rw [h, stp_id d' h', stp_id d' h', stp_id d' h', stp_id d' h']
theorem top_2 {S : Store} {d d1 d' : D} (h : stp S d = d1) (h1 : stp S d1 = d') (h' : noR d' = true) : top S d = d' := by
  unfold top
  split
  · rename_i hn; rw [← h1, ← h, stp_id d hn, stp_id d hn]
  · rw [h, h1, stp_id d' h', stp_id d' h', stp_id d' h']
theorem repr_top {S : Store} {d d' : D} (h : top S d = d') (h' : noR d' = true) : fRepr S [d] = fRepr S [d'] := by
  unfold fRepr
  simp only [h, top_id h']
/-! ### names' tables -/
theorem gk_at {S S' : Store} {i j : Nat} {ρ : Rho} {o k v : D} (h1 : ρ[i]? = some (.sh o)) (h2 : ρ[j]? = some (.sh k)) (h3 : storeKx o k v S = some S') : gKx (mVar i) (mVar j) v ρ S = some (ρ, S') := by
  unfold gKx mVar
  rw [h1]
  simp only
  rw [h2]
  simp only
  rw [h3]
theorem gk_atC {S S' : Store} {i : Nat} {ρ : Rho} {o k v : D} (h1 : ρ[i]? = some (.sh o)) (h3 : storeKx o k v S = some S') : gKx (mVar i) (mC k) v ρ S = some (ρ, S') := by
  unfold gKx mVar mC
  rw [h1]
  simp only
  rw [h3]
theorem lock_at {S : Store} {i : Nat} {ρ : Rho} {k : List (Key × D)} {n : Nat} (h : ρ[i]? = some (.sh (.ref n))) (h2 : S[n]? = some (.dct k)) : lockOf (mVar i) ρ S = some (n, .lck k) := by
  unfold lockOf mVar
  rw [h]
  simp only
  rw [h2]
  rfl
theorem unl_at {S : Store} {k : List (Key × D)} {n : Nat} (h : S[n]? = some (.lck k)) : unlO n S = some (S.set n (.dct k)) := by
  unfold unlO
  rw [h]
  rfl
theorem seqF_at {S : Store} {k : List (Key × D)} {n : Nat} (h : S[n]? = some (.lck k)) : seqF S (.ref n) = some (kKeys k) := by
  unfold seqF viewF
  simp only [h]
end Mi

namespace Rc
open PySem PySem.Spec PyProof.Rows L2 Mi
def tab_FORMS : List (Str × D) := [("step", .str ""), ("use", .str "bn"), ("back", .str "bn"), ("give", .str "bz"), ("out", .str "v"), ("put", .str "v"), ("caught", .str "b")]
abbrev N_is_name : List Str := ["value", "letter"]
def m_is_name : SX := sSeq (sIf (bOr (bNot (bTru (mFun fIsi (aCons (mVar 0) (aCons (mC (.ty "str")) (aNil)))))) (bNot (bOf (mChain dLe dLe (mC (.int 1)) (mFun fLen (aCons (mVar 0) (aNil))) (mC (.int 8)))))) (sRet (mC (.bl false))) (sNil)) <|
  sRet (mFun fAll (aCons (mComp (iSeq (mVar 0)) [1] (gSet 1) (bTrue) (mBin dIn (mVar 1) (mC (.str "abcdefghijklmnopqrstuvwxyz")))) (aNil)))
def f_is_name : FX := mDef N_is_name.length m_is_name
abbrev N_is_integer_8 : List Str := ["value"]
def m_is_integer_8 : SX := sRet (mAnd (mFun fIsi (aCons (mVar 0) (aCons (mC (.ty "int")) (aNil)))) (mNot (mFun fIsi (aCons (mVar 0) (aCons (mC (.ty "bool")) (aNil))))))
def f_is_integer_8 : FX := mDef N_is_integer_8.length m_is_integer_8
abbrev N_is_value : List Str := ["value"]
def m_is_value : SX := sRet (mAnd (mCall f_is_integer_8 [0] (aCons (mVar 0) (aNil)) (aNil)) (mChain dLe dLe (mUn dNeg (mC (.int 1000000000000000000))) (mVar 0) (mC (.int 1000000000000000000))))
def f_is_value : FX := mDef N_is_value.length m_is_value
abbrev N_is_integer : List Str := ["value"]
def m_is_integer : SX := sRet (mAnd (mFun fIsi (aCons (mVar 0) (aCons (mC (.ty "int")) (aNil)))) (mNot (mFun fIsi (aCons (mVar 0) (aCons (mC (.ty "bool")) (aNil))))))
def f_is_integer : FX := mDef N_is_integer.length m_is_integer
abbrev N_fits : List Str := ["sort", "value"]
def m_fits : SX := sSeq (sIf (bOf (mBin dEq (mVar 0) (mC (.str "b")))) (sRet (mCall f_is_name [0] (aCons (mVar 1) (aNil)) (aNil))) (sNil)) <|
  sSeq (sIf (bOf (mBin dEq (mVar 0) (mC (.str "v")))) (sRet (mCall f_is_value [0] (aCons (mVar 1) (aNil)) (aNil))) (sNil)) <|
  sRet (mAnd (mCall f_is_integer [0] (aCons (mVar 1) (aNil)) (aNil)) (mIf (bOf (mBin dEq (mVar 0) (mC (.str "n")))) (mBin dGe (mVar 1) (mC (.int 0))) (mBin dNe (mVar 1) (mC (.int 0)))))
def f_fits : FX := mDef N_fits.length m_fits
abbrev N_is_row : List Str := ["value", "word", "parts", "sort", "part"]
def m_is_row : SX := sSeq (sIf (bOr (bNot (bTru (mFun fIsi (aCons (mVar 0) (aCons (mC (.ty "tuple")) (aNil)))))) (bOr (bOf (mBin dEq (mVar 0) (mTup (aNil)))) (bOr (bNot (bTru (mFun fIsi (aCons (mBin dIx (mVar 0) (mC (.int 0))) (aCons (mC (.ty "str")) (aNil)))))) (bOf (mUn (dTabOut tab_FORMS) (mBin dIx (mVar 0) (mC (.int 0)))))))) (sRet (mC (.bl false))) (sNil)) <|
  sSeq (sAsg (mVar 0) (gUnpS 1 (gsCons (gSet 1) (gsCons (gSet 2) (gsNil))))) <|
  sRet (mAnd (mBin dEq (mFun fLen (aCons (mVar 2) (aNil))) (mFun fLen (aCons (mUn (dTab tab_FORMS) (mVar 1)) (aNil)))) (mFun fAll (aCons (mComp (iFun zipD (aCons (mUn (dTab tab_FORMS) (mVar 1)) (aCons (mVar 2) (aNil)))) [3, 4] (gUnp (gsCons (gSet 3) (gsCons (gSet 4) (gsNil)))) (bTrue) (mCall f_fits [0, 1] (aCons (mVar 3) (aCons (mVar 4) (aNil))) (aNil))) (aNil))))
def f_is_row : FX := mDef N_is_row.length m_is_row
abbrev N_require_rows : List Str := ["rows", "row"]
def m_require_rows : SX := sFor (iSeq (mVar 0)) (gSet 1) (sIf (bNot (bTru (mCall f_is_row [0] (aCons (mVar 1) (aNil)) (aNil)))) (sStuck) (sNil))
def f_require_rows : FX := mDef N_require_rows.length m_require_rows
abbrev N_used_by : List Str := ["row", "budget", "found"]
def m_used_by : SX := sSeq (sSet 2 (mIf (bAnd (bOf (mBin dEq (mVar 1) (mC (.str "steps")))) (bOf (mBin dIn (mBin dIx (mVar 0) (mC (.int 0))) (mTup (aCons (mC (.str "step")) (aCons (mC (.str "use")) (aCons (mC (.str "out")) (aNil)))))))) (mC (.int 1)) (mC (.int 0)))) <|
  sSeq (sIf (bAnd (bOf (mBin dEq (mBin dIx (mVar 0) (mC (.int 0))) (mC (.str "use")))) (bOf (mBin dEq (mBin dIx (mVar 0) (mC (.int 1))) (mVar 1)))) (sSet 2 (mBin dAddI (mVar 2) (mBin dIx (mVar 0) (mC (.int 2))))) (sIf (bAnd (bOf (mBin dIn (mBin dIx (mVar 0) (mC (.int 0))) (mTup (aCons (mC (.str "back")) (aCons (mC (.str "give")) (aNil)))))) (bOf (mBin dEq (mBin dIx (mVar 0) (mC (.int 1))) (mVar 1)))) (sSet 2 (mBin dSub (mVar 2) (mBin dIx (mVar 0) (mC (.int 2))))) (sNil))) <|
  sRet (mVar 2)
def f_used_by : FX := mDef N_used_by.length m_used_by
abbrev N_summary_of : List Str := ["rows", "budget", "row", "need", "net"]
def m_summary_of : SX := sSeq (sExpr (mCall f_require_rows [0] (aCons (mVar 0) (aNil)) (aNil))) <|
  sSeq (sAsg (mTup (aCons (mC (.int 0)) (aCons (mC (.int 0)) (aNil)))) (gUnp (gsCons (gSet 3) (gsCons (gSet 4) (gsNil))))) <|
  sSeq (sFor (iSeq (mVar 0)) (gSet 2) (sSeq (sSet 4 (mBin dAddI (mVar 4) (mCall f_used_by [0, 1] (aCons (mVar 2) (aCons (mVar 1) (aNil))) (aNil)))) <|
  sSet 3 (mFun fMax (aCons (mVar 3) (aCons (mVar 4) (aNil)))))) <|
  sRet (mTup (aCons (mVar 3) (aCons (mVar 4) (aNil))))
def f_summary_of : FX := mDef N_summary_of.length m_summary_of
abbrev N_join : List Str := ["summary", "other", "need", "net"]
def m_join : SX := sSeq (sAsg (mVar 0) (gUnp (gsCons (gSet 2) (gsCons (gSet 3) (gsNil))))) <|
  sRet (mTup (aCons (mFun fMax (aCons (mVar 2) (aCons (mBin dAdd (mVar 3) (mBin dIx (mVar 1) (mC (.int 0)))) (aNil)))) (aCons (mBin dAdd (mVar 3) (mBin dIx (mVar 1) (mC (.int 1)))) (aNil))))
def f_join : FX := mDef N_join.length m_join
abbrev N_join_all : List Str := ["summaries", "found", "summary"]
def m_join_all : SX := sSeq (sSet 1 (mTup (aCons (mC (.int 0)) (aCons (mC (.int 0)) (aNil))))) <|
  sSeq (sFor (iSeq (mVar 0)) (gSet 2) (sSet 1 (mCall f_join [0, 1] (aCons (mVar 1) (aCons (mVar 2) (aNil))) (aNil)))) <|
  sRet (mVar 1)
def f_join_all : FX := starF 0 (mDef N_join_all.length m_join_all)
abbrev N_power : List Str := ["summary", "count", "need", "net"]
def m_power : SX := sSeq (sIf (bOr (bNot (bTru (mCall f_is_integer [0] (aCons (mVar 1) (aNil)) (aNil)))) (bOf (mBin dLt (mVar 1) (mC (.int 0))))) (sStuck) (sNil)) <|
  sSeq (sIf (bOf (mBin dEq (mVar 1) (mC (.int 0)))) (sRet (mTup (aCons (mC (.int 0)) (aCons (mC (.int 0)) (aNil))))) (sNil)) <|
  sSeq (sAsg (mVar 0) (gUnp (gsCons (gSet 2) (gsCons (gSet 3) (gsNil))))) <|
  sRet (mTup (aCons (mBin dAdd (mVar 2) (mFun fMax (aCons (mC (.int 0)) (aCons (mBin dMul (mBin dSub (mVar 1) (mC (.int 1))) (mVar 3)) (aNil))))) (aCons (mBin dMul (mVar 1) (mVar 3)) (aNil))))
def f_power : FX := mDef N_power.length m_power
abbrev N__law_draw : List Str := ["_law_rng_here", "_law_many", "_law_digit"]
def m__law_draw : SX := sSeq (sIf (bOf (mBin dGt (mBin dIx (mVar 0) (mC (.int 0))) (mC (.int 0)))) (sSeq (sAsg (mFun fDivmod (aCons (mBin dIx (mVar 0) (mC (.int 0))) (aCons (mVar 1) (aNil)))) (gUnp (gsCons (gIx (mVar 0) (mC (.int 0))) (gsCons (gSet 2) (gsNil))))) <|
  sRet (mVar 2)) (sNil)) <|
  sSeq (sAsg (mBin dMod (mBin dAdd (mBin dMul (mBin dIx (mVar 0) (mC (.int 1))) (mC (.int 48271))) (mC (.int 20011))) (mC (.int 2147483399))) (gIx (mVar 0) (mC (.int 1)))) <|
  sRet (mBin dMod (mBin dFdiv (mBin dMod (mBin dMul (mBin dIx (mVar 0) (mC (.int 1))) (mBin dIx (mVar 0) (mC (.int 1)))) (mC (.int 2147483323))) (mC (.int 13))) (mVar 1))
def f__law_draw : FX := mDef N__law_draw.length m__law_draw
abbrev N__law_names : List Str := ["_law_rng_here", "_law_many", "_law_letters", "_law_found", "_law_k", "_law_size", "_law_name", "_law_turn", "_law_letter"]
def m__law_names : SX := sSeq (sSet 2 (mC (.str "abcdefghijklmnopqrstuvwxyz"))) <|
  sSeq (sOwn 3 (mLst (aNil))) <|
  sSeq (sFor (iFun rng1 (aCons (mVar 1) (aNil))) (gSet 4) (sSeq (sSet 5 (mBin dIx (mLst (aCons (mC (.int 1)) (aCons (mC (.int 1)) (aCons (mC (.int 2)) (aCons (mC (.int 8)) (aNil)))))) (mCall f__law_draw [0, 1] (aCons (mVar 0) (aCons (mC (.int 4)) (aNil))) (aNil)))) <|
  sSeq (sSet 6 (mMethS fJoin (mC (.str "")) (aCons (mComp (iFun rng1 (aCons (mVar 5) (aNil))) [7] (gSet 7) (bTrue) (mBin dIx (mVar 2) (mCall f__law_draw [0, 1] (aCons (mVar 0) (aCons (mC (.int 26)) (aNil))) (aNil)))) (aNil)))) <|
  sSeq (sIf (bOf (mBin dEq (mCall f__law_draw [0, 1] (aCons (mVar 0) (aCons (mC (.int 6)) (aNil))) (aNil)) (mC (.int 0)))) (sSet 6 (mBin dIx (mLst (aCons (mC (.str "use")) (aCons (mC (.str "end")) (aCons (mC (.str "main")) (aCons (mC (.str "limit")) (aCons (mC (.str "both")) (aCons (mC (.str "keep")) (aCons (mC (.str "rest")) (aCons (mC (.str "mem")) (aNil)))))))))) (mCall f__law_draw [0, 1] (aCons (mVar 0) (aCons (mC (.int 8)) (aNil))) (aNil)))) (sNil)) <|
  sSeq (sIf (bOr (bLend (bOf (mBin dIn (mVar 6) (mVar 3)))) (bOf (mBin dEq (mVar 6) (mC (.str "steps"))))) (sSet 6 (mLend (mBin dIx (mComp (iSeq (mVar 2)) [8] (gSet 8) (bOf (mBin dNotIn (mBin dAdd (mVar 8) (mC (.str "q"))) (mVar 3))) (mBin dAdd (mVar 8) (mC (.str "q")))) (mC (.int 0))))) (sNil)) <|
  sApp 3 (mVar 6))) <|
  sRetV 3
def f__law_names : FX := mDef N__law_names.length m__law_names
abbrev N__law_funds : List Str := ["_law_rng_here"]
def m__law_funds : SX := sRet (mBin dAdd (mLst (aCons (mC (.str "steps")) (aNil))) (mCall f__law_names [0, 1] (aCons (mVar 0) (aCons (mBin dAdd (mC (.int 1)) (mCall f__law_draw [0, 1] (aCons (mVar 0) (aCons (mC (.int 3)) (aNil))) (aNil))) (aNil))) (aNil)))
def f__law_funds : FX := mDef N__law_funds.length m__law_funds
abbrev N__law_number : List Str := ["_law_rng_here", "_law_numbers"]
def m__law_number : SX := sSeq (sSet 1 (mLst (aCons (mCall f__law_draw [0, 1] (aCons (mVar 0) (aCons (mC (.int 6)) (aNil))) (aNil)) (aCons (mCall f__law_draw [0, 1] (aCons (mVar 0) (aCons (mC (.int 40)) (aNil))) (aNil)) (aCons (mBin dAdd (mBin dPow (mC (.int 10)) (mC (.int 18))) (mBin dMul (mCall f__law_draw [0, 1] (aCons (mVar 0) (aCons (mC (.int 9)) (aNil))) (aNil)) (mBin dPow (mC (.int 10)) (mC (.int 9))))) (aNil)))))) <|
  sRet (mBin dIx (mVar 1) (mBin dIx (mLst (aCons (mC (.int 0)) (aCons (mC (.int 0)) (aCons (mC (.int 1)) (aCons (mC (.int 2)) (aNil)))))) (mCall f__law_draw [0, 1] (aCons (mVar 0) (aCons (mC (.int 4)) (aNil))) (aNil))))
def f__law_number : FX := mDef N__law_number.length m__law_number
abbrev N__law_drawn_row : List Str := ["_law_rng_here", "_law_funds_here", "_law_word", "_law_fund", "_law_number_here"]
def m__law_drawn_row : SX := sSeq (sSet 2 (mBin dIx (mLst (aCons (mC (.str "step")) (aCons (mC (.str "use")) (aCons (mC (.str "back")) (aCons (mC (.str "give")) (aCons (mC (.str "out")) (aCons (mC (.str "put")) (aCons (mC (.str "caught")) (aCons (mC (.str "use")) (aNil)))))))))) (mCall f__law_draw [0, 1] (aCons (mVar 0) (aCons (mC (.int 8)) (aNil))) (aNil)))) <|
  sSeq (sPar2 3 4 (aCons (mBin dIx (mVar 1) (mCall f__law_draw [0, 1] (aCons (mVar 0) (aCons (mFun fLen (aCons (mVar 1) (aNil))) (aNil))) (aNil))) (aCons (mCall f__law_number [0] (aCons (mVar 0) (aNil)) (aNil)) (aNil)))) <|
  sSeq (sIf (bOf (mBin dEq (mVar 2) (mC (.str "step")))) (sRet (mTup (aCons (mVar 2) (aNil)))) (sNil)) <|
  sSeq (sIf (bOf (mBin dEq (mVar 2) (mC (.str "caught")))) (sRet (mTup (aCons (mVar 2) (aCons (mVar 3) (aNil))))) (sNil)) <|
  sSeq (sIf (bOf (mBin dIn (mVar 2) (mTup (aCons (mC (.str "out")) (aCons (mC (.str "put")) (aNil)))))) (sRet (mTup (aCons (mVar 2) (aCons (mIf (bOf (mBin dLt (mVar 4) (mBin dPow (mC (.int 10)) (mC (.int 18))))) (mBin dIx (mLst (aCons (mBin dSub (mVar 4) (mC (.int 20))) (aCons (mBin dPow (mC (.int 10)) (mC (.int 18))) (aCons (mUn dNeg (mBin dPow (mC (.int 10)) (mC (.int 18)))) (aNil))))) (mCall f__law_draw [0, 1] (aCons (mVar 0) (aCons (mC (.int 3)) (aNil))) (aNil))) (mBin dPow (mC (.int 10)) (mC (.int 18)))) (aNil))))) (sNil)) <|
  sSeq (sIf (bOf (mBin dEq (mVar 2) (mC (.str "give")))) (sRet (mTup (aCons (mVar 2) (aCons (mVar 3) (aCons (mBin dIx (mLst (aCons (mBin dAdd (mVar 4) (mC (.int 1))) (aCons (mBin dSub (mUn dNeg (mC (.int 1))) (mVar 4)) (aNil)))) (mCall f__law_draw [0, 1] (aCons (mVar 0) (aCons (mC (.int 2)) (aNil))) (aNil))) (aNil)))))) (sNil)) <|
  sRet (mTup (aCons (mVar 2) (aCons (mVar 3) (aCons (mVar 4) (aNil)))))
def f__law_drawn_row : FX := mDef N__law_drawn_row.length m__law_drawn_row
abbrev N__law_drawn_rows : List Str := ["_law_rng_here", "_law_funds_here", "_law_most", "_law_turn"]
def m__law_drawn_rows : SX := sRet (mComp (iFun rng1 (aCons (mCall f__law_draw [0, 1] (aCons (mVar 0) (aCons (mBin dAdd (mVar 2) (mC (.int 1))) (aNil))) (aNil)) (aNil))) [3] (gSet 3) (bTrue) (mCall f__law_drawn_row [0, 1] (aCons (mVar 0) (aCons (mVar 1) (aNil))) (aNil)))
def f__law_drawn_rows : FX := mDef N__law_drawn_rows.length m__law_drawn_rows
abbrev N_passes : List Str := ["summary", "amount"]
def m_passes : SX := sRet (mBin dLe (mBin dIx (mVar 0) (mC (.int 0))) (mVar 1))
def f_passes : FX := mDef N_passes.length m_passes
abbrev N__law_used : List Str := ["_law_row", "_law_fund", "_law_found"]
def m__law_used : SX := sSeq (sSet 2 (mFun fInt (aCons (mAnd (mBin dEq (mVar 1) (mC (.str "steps"))) (mBin dIn (mBin dIx (mVar 0) (mC (.int 0))) (mTup (aCons (mC (.str "step")) (aCons (mC (.str "use")) (aCons (mC (.str "out")) (aNil))))))) (aNil)))) <|
  sSeq (sIf (bAnd (bOf (mBin dEq (mBin dIx (mVar 0) (mC (.int 0))) (mC (.str "use")))) (bOf (mBin dEq (mBin dIx (mVar 0) (mC (.int 1))) (mVar 1)))) (sSet 2 (mBin dAdd (mVar 2) (mBin dIx (mVar 0) (mC (.int 2))))) (sNil)) <|
  sSeq (sIf (bAnd (bOf (mBin dIn (mBin dIx (mVar 0) (mC (.int 0))) (mTup (aCons (mC (.str "back")) (aCons (mC (.str "give")) (aNil)))))) (bOf (mBin dEq (mBin dIx (mVar 0) (mC (.int 1))) (mVar 1)))) (sSet 2 (mBin dSub (mVar 2) (mBin dIx (mVar 0) (mC (.int 2))))) (sNil)) <|
  sRet (mVar 2)
def f__law_used : FX := mDef N__law_used.length m__law_used
abbrev N__law_sums : List Str := ["_law_rows", "_law_fund", "_law_found", "_law_row"]
def m__law_sums : SX := sSeq (sOwn 2 (mLst (aCons (mC (.int 0)) (aNil)))) <|
  sSeq (sFor (iSeq (mVar 0)) (gSet 3) (sApp 2 (mBin dAdd (mLend (mBin dIx (mVar 2) (mUn dNeg (mC (.int 1))))) (mCall f__law_used [0, 1] (aCons (mVar 3) (aCons (mVar 1) (aNil))) (aNil))))) <|
  sRetV 2
def f__law_sums : FX := mDef N__law_sums.length m__law_sums
abbrev N__law_joined : List Str := ["_law_one", "_law_two"]
def m__law_joined : SX := sRet (mTup (aCons (mFun fMax (aCons (mBin dIx (mVar 0) (mC (.int 0))) (aCons (mBin dAdd (mBin dIx (mVar 0) (mC (.int 1))) (mBin dIx (mVar 1) (mC (.int 0)))) (aNil)))) (aCons (mBin dAdd (mBin dIx (mVar 0) (mC (.int 1))) (mBin dIx (mVar 1) (mC (.int 1)))) (aNil))))
def f__law_joined : FX := mDef N__law_joined.length m__law_joined
abbrev N__law_repeated : List Str := ["_law_one", "_law_many", "_law_found", "_law_double", "_law_rest_count"]
def m__law_repeated : SX := sSeq (sPar3 2 3 4 (aCons (mTup (aCons (mC (.int 0)) (aCons (mC (.int 0)) (aNil)))) (aCons (mVar 0) (aCons (mVar 1) (aNil))))) <|
  sSeq (sWhile 100000 (bOf (mBin dGt (mVar 4) (mC (.int 0)))) (sSeq (sIf (bOf (mBin dEq (mBin dMod (mVar 4) (mC (.int 2))) (mC (.int 1)))) (sSet 2 (mCall f__law_joined [0, 1] (aCons (mVar 2) (aCons (mVar 3) (aNil))) (aNil))) (sNil)) <|
  sPar2 3 4 (aCons (mCall f__law_joined [0, 1] (aCons (mVar 3) (aCons (mVar 3) (aNil))) (aNil)) (aCons (mBin dFdiv (mVar 4) (mC (.int 2))) (aNil))))) <|
  sRet (mVar 2)
def f__law_repeated : FX := mDef N__law_repeated.length m__law_repeated
end Rc

/-! Rc1: what is drawn: numbers, names, rows. -/
namespace Rc
open PySem PySem.Spec PyProof.Rows L2 Mi
section
variable {S0 S : Store} {n : Nat} {Q : D → Store → Prop} {E : Exn → Store → Prop}
theorem at_wp {xs : List D} {i : Int} {P : D → Prop} (h0 : 0 ≤ i) (h1 : i < xs.length) (h : ∀ x ∈ xs, P x) : ∃ z, atI xs i = some z ∧ P z := by
  have hi : i.toNat < xs.length := by omega
  refine ⟨xs[i.toNat], ?_, h _ (List.getElem_mem hi)⟩
  unfold atI ixN
  rw [if_pos h0, if_pos h1]
  exact List.getElem?_eq_getElem hi
theorem p18 : dPow S (.int 10) (.int 18) = some (.int (10 ^ 18)) := rfl
theorem p9 : dPow S (.int 10) (.int 9) = some (.int (10 ^ 9)) := rfl
theorem le_line {k : Nat} (h : k ≤ 10000000) : (k ≤ sizeLine) = True := by rw [sizeLine_eq]; exact eq_true (by omega)
theorem number_wp (h : RS S0 n S) (q : ∀ i S', 0 ≤ i → i ≤ 10 ^ 18 + 8 * 10 ^ 9 → RS S0 n S' → Q (.int i) S') : (f__law_number [.ref n] S).al Q E := by
  unfold f__law_number m__law_number
  simp only [w_c, w_var, w_bin, w_un, w_nil, w_cons, w_fun, w_tup, w_lst, w_dct0, w_call, w_callP, w_if, w_and, w_or, w_not, w_chain, w_bof, w_btru, w_bnot, w_band, w_bor, w_btrue, w_iseq, w_ifun, w_comp, w_onone, w_osome, w_sl, w_lend, w_blend, w_seq, w_snil, w_set, w_own, w_ret, w_retn, w_retv, w_exp, w_sif, w_asg, w_sfor, w_brk, w_cont, w_par2, w_par3, w_app, w_def, lent, al_ok, al_stuck, va_add, va_addI, va_sub, va_neg, va_lt, va_le, va_gt, va_ge, va_eqS, va_neS, va_eqI, va_neI, va_ixL, va_ixT, va_lenL, va_lenT, va_max, va_min, va_abs, va_asB, va_truB, va_itL, va_itT, va_itS, va_tupL, va_tupT, va_inS, va_notInS, va_isN, va_some_bl, List.getElem?_cons_zero, List.getElem?_cons_succ, List.set_cons_zero, List.set_cons_succ, List.map_cons, List.map_nil, List.length_cons, List.length_nil, List.replicate, List.cons_append, List.nil_append, List.append_nil, Nat.reduceSub, Nat.reduceAdd, Nat.sub_self, Nat.zero_add, sizeLine_eq, Nat.reduceLeDiff, pick, List.filterMap_cons, List.filterMap_nil, Option.some.injEq, exists_eq_left', exists_eq_left, exists_const, true_and, and_true, Bool.not_true, Bool.not_false, if_true, if_false, reduceIte, Bool.false_eq_true, eq_self, D.int.injEq, p18, p9, sizeLine_eq]
  refine draw_wp h (by decide) (by decide) fun a S1 a0 a1 h1 => ?_
  refine draw_wp h1 (by decide) (by decide) fun b S2 b0 b1 h2 => ?_
  refine draw_wp h2 (by decide) (by decide) fun c S3 c0 c1 h3 => ?_
  have k1 : okMul c (10 ^ 9) = true := by unfold okMul; simp
  simp only [w_c, w_var, w_bin, w_un, w_nil, w_cons, w_fun, w_tup, w_lst, w_dct0, w_call, w_callP, w_if, w_and, w_or, w_not, w_chain, w_bof, w_btru, w_bnot, w_band, w_bor, w_btrue, w_iseq, w_ifun, w_comp, w_onone, w_osome, w_sl, w_lend, w_blend, w_seq, w_snil, w_set, w_own, w_ret, w_retn, w_retv, w_exp, w_sif, w_asg, w_sfor, w_brk, w_cont, w_par2, w_par3, w_app, w_def, lent, al_ok, al_stuck, va_add, va_addI, va_sub, va_neg, va_lt, va_le, va_gt, va_ge, va_eqS, va_neS, va_eqI, va_neI, va_ixL, va_ixT, va_lenL, va_lenT, va_max, va_min, va_abs, va_asB, va_truB, va_itL, va_itT, va_itS, va_tupL, va_tupT, va_inS, va_notInS, va_isN, va_some_bl, List.getElem?_cons_zero, List.getElem?_cons_succ, List.set_cons_zero, List.set_cons_succ, List.map_cons, List.map_nil, List.length_cons, List.length_nil, List.replicate, List.cons_append, List.nil_append, List.append_nil, Nat.reduceSub, Nat.reduceAdd, Nat.sub_self, Nat.zero_add, sizeLine_eq, Nat.reduceLeDiff, pick, List.filterMap_cons, List.filterMap_nil, Option.some.injEq, exists_eq_left', exists_eq_left, exists_const, true_and, and_true, Bool.not_true, Bool.not_false, if_true, if_false, reduceIte, Bool.false_eq_true, eq_self, D.int.injEq, va_mul k1]
  refine draw_wp h3 (by decide) (by decide) fun d S4 d0 d1 h4 => ?_
  simp only [w_c, w_var, w_bin, w_un, w_nil, w_cons, w_fun, w_tup, w_lst, w_dct0, w_call, w_callP, w_if, w_and, w_or, w_not, w_chain, w_bof, w_btru, w_bnot, w_band, w_bor, w_btrue, w_iseq, w_ifun, w_comp, w_onone, w_osome, w_sl, w_lend, w_blend, w_seq, w_snil, w_set, w_own, w_ret, w_retn, w_retv, w_exp, w_sif, w_asg, w_sfor, w_brk, w_cont, w_par2, w_par3, w_app, w_def, lent, al_ok, al_stuck, va_add, va_addI, va_sub, va_neg, va_lt, va_le, va_gt, va_ge, va_eqS, va_neS, va_eqI, va_neI, va_ixL, va_ixT, va_lenL, va_lenT, va_max, va_min, va_abs, va_asB, va_truB, va_itL, va_itT, va_itS, va_tupL, va_tupT, va_inS, va_notInS, va_isN, va_some_bl, List.getElem?_cons_zero, List.getElem?_cons_succ, List.set_cons_zero, List.set_cons_succ, List.map_cons, List.map_nil, List.length_cons, List.length_nil, List.replicate, List.cons_append, List.nil_append, List.append_nil, Nat.reduceSub, Nat.reduceAdd, Nat.sub_self, Nat.zero_add, sizeLine_eq, Nat.reduceLeDiff, pick, List.filterMap_cons, List.filterMap_nil, Option.some.injEq, exists_eq_left', exists_eq_left, exists_const, true_and, and_true, Bool.not_true, Bool.not_false, if_true, if_false, reduceIte, Bool.false_eq_true, eq_self, D.int.injEq]
  refine at_wp d0 (by simpa using d1) fun x hx => ?_
  simp only [List.mem_cons, List.not_mem_nil, or_false] at hx
  have key : ∀ i : Int, 0 ≤ i → i < 3 → ∃ z, atI [D.int a, D.int b, D.int (10 ^ 18 + c * 10 ^ 9)] i = some z ∧ Q z S4 := fun i i0 i1 =>
    at_wp i0 (by simpa using i1) fun y hy => by
      simp only [List.mem_cons, List.not_mem_nil, or_false] at hy
      rcases hy with rfl | rfl | rfl
      · exact q _ _ a0 (by omega) h4
      · exact q _ _ b0 (by omega) h4
      · exact q _ _ (by omega) (by omega) h4
  rcases hx with rfl | rfl | rfl | rfl
  · exact key 0 (by decide) (by decide)
  · exact key 0 (by decide) (by decide)
  · exact key 1 (by decide) (by decide)
  · exact key 2 (by decide) (by decide)
end
end Rc
namespace Rc
open PySem PySem.Spec PyProof.Rows L2 Mi
def letters : Str := "abcdefghijklmnopqrstuvwxyz"
def NameS (z : Str) : Prop := 1 ≤ z.length ∧ z.length ≤ 8 ∧ ∀ c ∈ z.cps.toList, c ∈ letters.cps.toList
theorem letters_ok : ∀ c ∈ letters.cps.toList, c < 0x110000 := by decide +kernel
theorem NameS.chars {z : Str} (h : NameS z) : ∀ c ∈ z.cps.toList, c < 0x110000 := fun c hc => letters_ok c (h.2.2 c hc)
theorem letters_len : letters.length = 26 := by decide +kernel
theorem join_one : ∀ zs : List Str, (∀ z ∈ zs, ∃ c, z = ⟨#[c]⟩ ∧ c ∈ letters.cps.toList) → (Str.join "" zs).length = zs.length ∧ (∀ c ∈ (Str.join "" zs).cps.toList, c ∈ letters.cps.toList) ∧ (zs.map (·.length)).sum = zs.length
  | [], _ => ⟨rfl, nofun, rfl⟩
  | [z], h => by
    obtain ⟨c, rfl, hc⟩ := h z List.mem_cons_self
    refine ⟨rfl, fun x hx => ?_, rfl⟩
    have : x ∈ [c] := hx
    rw [List.mem_singleton.mp this]; exact hc
  | z :: y :: r, h => by
    obtain ⟨c, rfl, hc⟩ := h z List.mem_cons_self
    obtain ⟨h1, h2, h3⟩ := join_one (y :: r) fun x hx => h x (List.mem_cons_of_mem _ hx)
    have e : Str.join "" ((⟨#[c]⟩ : Str) :: y :: r) = ⟨#[c]⟩ ++ "" ++ Str.join "" (y :: r) := rfl
    rw [e]
    refine ⟨?_, fun x hx => ?_, ?_⟩
    · rw [strLen_append, strLen_append, h1]
      show 1 + 0 + _ = _
      simp only [List.length_cons]; omega
    · have hx' : x ∈ ((#[c] ++ ("" : Str).cps) ++ (Str.join "" (y :: r)).cps).toList := hx
      rw [Array.toList_append, Array.toList_append] at hx'
      rcases List.mem_append.mp hx' with q | q
      · rcases List.mem_append.mp q with q | q
        · have : x ∈ [c] := q
          rw [List.mem_singleton.mp this]; exact hc
        · have e0 : ("" : Str).cps.toList = [] := by decide +kernel
          rw [e0] at q; cases q
      · exact h2 x q
    · rw [List.map_cons, List.sum_cons, h3]
      show 1 + _ = _
      simp only [List.length_cons]; omega
theorem strsOf_map : ∀ zs : List Str, strsOf (zs.map D.str) = some zs
  | [] => rfl
  | z :: r => by simp only [List.map_cons, strsOf, strsOf_map r]
theorem va_join {S : Store} {zs : List Str} (h : (zs.map (·.length)).sum ≤ 10000) (hl : zs.length ≤ 10000) : fJoin S (.str "") [.lst (zs.map D.str)] = some (.str (Str.join "" zs)) := by
  unfold fJoin
  simp only [viewL, strsOf_map]
  rw [if_pos (by show _ + zs.length * 0 ≤ _; omega), TL.join_eq]
theorem subset_len [BEq α] [LawfulBEq α] : ∀ {l m : List α}, l.Nodup → (∀ x ∈ l, x ∈ m) → l.length ≤ m.length
  | [], _, _, _ => Nat.zero_le _
  | a :: l, m, h, s => by
    have ha := s a List.mem_cons_self
    have h2 := subset_len (l := l) (m := m.erase a) (List.nodup_cons.mp h).2 fun x hx => by
      have : x ≠ a := fun e => (List.nodup_cons.mp h).1 (e ▸ hx)
      exact (List.mem_erase_of_ne this).mpr (s x (List.mem_cons_of_mem _ hx))
    have h3 := List.length_erase_of_mem ha
    have h4 : 0 < m.length := List.length_pos_of_mem ha
    simp only [List.length_cons]
    omega
def qs : List Str := letters.cps.toList.map fun c => (⟨#[c]⟩ : Str) ++ "q"
theorem qs_nodup : qs.Nodup := by decide +kernel
theorem qs_len : qs.length = 26 := by decide +kernel
theorem qs_ok : ∀ z ∈ qs, z.length = 2 ∧ (∀ c ∈ z.cps.toList, c ∈ letters.cps.toList) ∧ z ≠ "steps" := by decide +kernel
theorem qs_name {z : Str} (h : z ∈ qs) : NameS z ∧ z ≠ "steps" := by
  obtain ⟨h1, h2, h3⟩ := qs_ok z h
  exact ⟨⟨by omega, by omega, h2⟩, h3⟩
section
variable {S0 S : Store} {n : Nat} {Q : D → Store → Prop} {E : Exn → Store → Prop}
/-- the first of the names aq, bq, .. that is not among zs -/
theorem first_q {zs : List Str} (h : zs.length < 26) : ∃ z, (qs.filter fun x => !zs.any (· == x))[0]? = some z ∧ z ∈ qs ∧ z ∉ zs := by
  cases e : qs.filter fun x => !zs.any (· == x) with
  | nil =>
    exfalso
    have := subset_len qs_nodup (m := zs) fun x hx => by
      have := List.filter_eq_nil_iff.mp e x hx
      simp only [Bool.not_eq_true', Bool.not_eq_false, List.any_eq_true, beq_iff_eq] at this
      obtain ⟨y, hy, rfl⟩ := this
      exact hy
    rw [qs_len] at this
    omega
  | cons z r =>
    have m : z ∈ qs.filter fun x => !zs.any (· == x) := by rw [e]; exact List.mem_cons_self
    obtain ⟨m1, m2⟩ := List.mem_filter.mp m
    refine ⟨z, rfl, m1, fun hz => ?_⟩
    have : zs.any (· == z) = true := List.any_eq_true.mpr ⟨z, hz, by simp⟩
    rw [this] at m2
    cases m2
theorem word_in {zs : List Str} {x : Str} : zs.any (· == x) = true ↔ x ∈ zs := by
  rw [List.any_eq_true]
  exact ⟨fun ⟨y, hy, e⟩ => by rw [beq_iff_eq] at e; exact e ▸ hy, fun h => ⟨x, h, by simp⟩⟩
def words8 : List Str := ["use", "end", "main", "limit", "both", "keep", "rest", "mem"]
theorem words8_ok : ∀ z ∈ words8, 1 ≤ z.length ∧ z.length ≤ 8 ∧ (∀ c ∈ z.cps.toList, c ∈ letters.cps.toList) := by decide +kernel
theorem names_wp {m : Int} (h : RS S0 n S) (h0 : 0 ≤ m) (h1 : m ≤ 20) (q : ∀ (zs : List Str) S', zs.length = m.toNat → (∀ z ∈ zs, NameS z ∧ z ≠ "steps") → zs.Nodup → RS S0 n S' → Q (.lst (zs.map D.str)) S') : (f__law_names [.ref n, .int m] S).al Q E := by
  unfold f__law_names m__law_names
  simp only [w_c, w_var, w_bin, w_un, w_nil, w_cons, w_fun, w_tup, w_lst, w_dct0, w_call, w_callP, w_if, w_and, w_or, w_not, w_chain, w_bof, w_btru, w_bnot, w_band, w_bor, w_btrue, w_iseq, w_ifun, w_comp, w_onone, w_osome, w_sl, w_lend, w_blend, w_seq, w_snil, w_set, w_own, w_ret, w_retn, w_retv, w_exp, w_sif, w_asg, w_sfor, w_brk, w_cont, w_par2, w_par3, w_app, w_def, lent, al_ok, al_stuck, va_add, va_addI, va_sub, va_neg, va_lt, va_le, va_gt, va_ge, va_eqS, va_neS, va_eqI, va_neI, va_ixL, va_ixT, va_lenL, va_lenT, va_max, va_min, va_abs, va_asB, va_truB, va_itL, va_itT, va_itS, va_tupL, va_tupT, va_inS, va_notInS, va_isN, va_some_bl, List.getElem?_cons_zero, List.getElem?_cons_succ, List.set_cons_zero, List.set_cons_succ, List.map_cons, List.map_nil, List.length_cons, List.length_nil, List.replicate, List.cons_append, List.nil_append, List.append_nil, Nat.reduceSub, Nat.reduceAdd, Nat.sub_self, Nat.zero_add, sizeLine_eq, Nat.reduceLeDiff, pick, List.filterMap_cons, List.filterMap_nil, Option.some.injEq, exists_eq_left', exists_eq_left, exists_const, true_and, and_true, Bool.not_true, Bool.not_false, if_true, if_false, reduceIte, Bool.false_eq_true, eq_self, D.int.injEq, va_rng1 (show 0 ≤ m ∧ m < 2 ^ 62 by omega)]
  refine for_wp (fun i ρ S => ∃ zs : List Str, ∃ a b c, zs.length = i ∧ (∀ z ∈ zs, NameS z ∧ z ≠ "steps") ∧ zs.Nodup ∧ RS S0 n S ∧ ρ = [.sh (.ref n), .sh (.int m), .sh (.str letters), .ow (.lst (zs.map D.str)), a, b, c, .un, .un])
    ⟨[], _, _, _, rfl, nofun, List.nodup_nil, h, rfl⟩ ?_ ?_
  · rintro i d ρ S1 hd ⟨zs, a, b, c, hl, hz, hn, hS, rfl⟩
    obtain ⟨rfl, hi⟩ := range_at hd
    refine ⟨_, rfl, ?_⟩
    -- the size
    refine seq_mid (fun ρ' S' => RS S0 n S' ∧ ∃ k : Int, 1 ≤ k ∧ k ≤ 8 ∧ ρ' = [.sh (.ref n), .sh (.int m), .sh (.str letters), .ow (.lst (zs.map D.str)), .sh (.int i), .sh (.int k), c, .un, .un]) ?_ ?_
    · simp only [w_c, w_var, w_bin, w_un, w_nil, w_cons, w_fun, w_tup, w_lst, w_dct0, w_call, w_callP, w_if, w_and, w_or, w_not, w_chain, w_bof, w_btru, w_bnot, w_band, w_bor, w_btrue, w_iseq, w_ifun, w_comp, w_onone, w_osome, w_sl, w_lend, w_blend, w_seq, w_snil, w_set, w_own, w_ret, w_retn, w_retv, w_exp, w_sif, w_asg, w_sfor, w_brk, w_cont, w_par2, w_par3, w_app, w_def, lent, al_ok, al_stuck, va_add, va_addI, va_sub, va_neg, va_lt, va_le, va_gt, va_ge, va_eqS, va_neS, va_eqI, va_neI, va_ixL, va_ixT, va_lenL, va_lenT, va_max, va_min, va_abs, va_asB, va_truB, va_itL, va_itT, va_itS, va_tupL, va_tupT, va_inS, va_notInS, va_isN, va_some_bl, List.getElem?_cons_zero, List.getElem?_cons_succ, List.set_cons_zero, List.set_cons_succ, List.map_cons, List.map_nil, List.length_cons, List.length_nil, List.replicate, List.cons_append, List.nil_append, List.append_nil, Nat.reduceSub, Nat.reduceAdd, Nat.sub_self, Nat.zero_add, sizeLine_eq, Nat.reduceLeDiff, pick, List.filterMap_cons, List.filterMap_nil, Option.some.injEq, exists_eq_left', exists_eq_left, exists_const, true_and, and_true, Bool.not_true, Bool.not_false, if_true, if_false, reduceIte, Bool.false_eq_true, eq_self, D.int.injEq]
      refine draw_wp hS (by decide) (by decide) fun d S2 d0 d1 h2 => ?_
      simp only [w_c, w_var, w_bin, w_un, w_nil, w_cons, w_fun, w_tup, w_lst, w_dct0, w_call, w_callP, w_if, w_and, w_or, w_not, w_chain, w_bof, w_btru, w_bnot, w_band, w_bor, w_btrue, w_iseq, w_ifun, w_comp, w_onone, w_osome, w_sl, w_lend, w_blend, w_seq, w_snil, w_set, w_own, w_ret, w_retn, w_retv, w_exp, w_sif, w_asg, w_sfor, w_brk, w_cont, w_par2, w_par3, w_app, w_def, lent, al_ok, al_stuck, va_add, va_addI, va_sub, va_neg, va_lt, va_le, va_gt, va_ge, va_eqS, va_neS, va_eqI, va_neI, va_ixL, va_ixT, va_lenL, va_lenT, va_max, va_min, va_abs, va_asB, va_truB, va_itL, va_itT, va_itS, va_tupL, va_tupT, va_inS, va_notInS, va_isN, va_some_bl, List.getElem?_cons_zero, List.getElem?_cons_succ, List.set_cons_zero, List.set_cons_succ, List.map_cons, List.map_nil, List.length_cons, List.length_nil, List.replicate, List.cons_append, List.nil_append, List.append_nil, Nat.reduceSub, Nat.reduceAdd, Nat.sub_self, Nat.zero_add, sizeLine_eq, Nat.reduceLeDiff, pick, List.filterMap_cons, List.filterMap_nil, Option.some.injEq, exists_eq_left', exists_eq_left, exists_const, true_and, and_true, Bool.not_true, Bool.not_false, if_true, if_false, reduceIte, Bool.false_eq_true, eq_self, D.int.injEq]
      refine at_wp d0 (by simpa using d1) fun x hx => ?_
      simp only [List.mem_cons, List.not_mem_nil, or_false] at hx
      rcases hx with rfl | rfl | rfl | rfl <;> exact ⟨h2, _, by decide, by decide, rfl⟩
    rintro _ S2 ⟨h2, k, k0, k1, rfl⟩
    -- the letters
    refine seq_mid (fun ρ' S' => RS S0 n S' ∧ ∃ z, NameS z ∧ ρ' = [.sh (.ref n), .sh (.int m), .sh (.str letters), .ow (.lst (zs.map D.str)), .sh (.int i), .sh (.int k), .sh (.str z), .un, .un]) ?_ ?_
    · simp only [w_c, w_var, w_bin, w_un, w_nil, w_cons, w_fun, w_tup, w_lst, w_dct0, w_call, w_callP, w_if, w_and, w_or, w_not, w_chain, w_bof, w_btru, w_bnot, w_band, w_bor, w_btrue, w_iseq, w_ifun, w_comp, w_onone, w_osome, w_sl, w_lend, w_blend, w_seq, w_snil, w_set, w_own, w_ret, w_retn, w_retv, w_exp, w_sif, w_asg, w_sfor, w_brk, w_cont, w_par2, w_par3, w_app, w_def, lent, al_ok, al_stuck, va_add, va_addI, va_sub, va_neg, va_lt, va_le, va_gt, va_ge, va_eqS, va_neS, va_eqI, va_neI, va_ixL, va_ixT, va_lenL, va_lenT, va_max, va_min, va_abs, va_asB, va_truB, va_itL, va_itT, va_itS, va_tupL, va_tupT, va_inS, va_notInS, va_isN, va_some_bl, List.getElem?_cons_zero, List.getElem?_cons_succ, List.set_cons_zero, List.set_cons_succ, List.map_cons, List.map_nil, List.length_cons, List.length_nil, List.replicate, List.cons_append, List.nil_append, List.append_nil, Nat.reduceSub, Nat.reduceAdd, Nat.sub_self, Nat.zero_add, sizeLine_eq, Nat.reduceLeDiff, pick, List.filterMap_cons, List.filterMap_nil, Option.some.injEq, exists_eq_left', exists_eq_left, exists_const, true_and, and_true, Bool.not_true, Bool.not_false, if_true, if_false, reduceIte, Bool.false_eq_true, eq_self, D.int.injEq, w_meth, isStr, va_rng1 (show 0 ≤ k ∧ k < 2 ^ 62 by omega), wipeR]
      refine comp_wp (fun j acc S => RS S0 n S ∧ ∃ cs : List Str, acc = cs.map D.str ∧ cs.length = j ∧ ∀ z ∈ cs, ∃ c, z = ⟨#[c]⟩ ∧ c ∈ letters.cps.toList) ⟨h2, [], rfl, rfl, nofun⟩ ?_ ?_
      · rintro j d acc S3 hd ⟨h3, cs, rfl, hj, hc⟩
        obtain ⟨rfl, hj2⟩ := range_at hd
        refine ⟨_, rfl, ?_⟩
        simp only [w_c, w_var, w_bin, w_un, w_nil, w_cons, w_fun, w_tup, w_lst, w_dct0, w_call, w_callP, w_if, w_and, w_or, w_not, w_chain, w_bof, w_btru, w_bnot, w_band, w_bor, w_btrue, w_iseq, w_ifun, w_comp, w_onone, w_osome, w_sl, w_lend, w_blend, w_seq, w_snil, w_set, w_own, w_ret, w_retn, w_retv, w_exp, w_sif, w_asg, w_sfor, w_brk, w_cont, w_par2, w_par3, w_app, w_def, lent, al_ok, al_stuck, va_add, va_addI, va_sub, va_neg, va_lt, va_le, va_gt, va_ge, va_eqS, va_neS, va_eqI, va_neI, va_ixL, va_ixT, va_lenL, va_lenT, va_max, va_min, va_abs, va_asB, va_truB, va_itL, va_itT, va_itS, va_tupL, va_tupT, va_inS, va_notInS, va_isN, va_some_bl, List.getElem?_cons_zero, List.getElem?_cons_succ, List.set_cons_zero, List.set_cons_succ, List.map_cons, List.map_nil, List.length_cons, List.length_nil, List.replicate, List.cons_append, List.nil_append, List.append_nil, Nat.reduceSub, Nat.reduceAdd, Nat.sub_self, Nat.zero_add, sizeLine_eq, Nat.reduceLeDiff, pick, List.filterMap_cons, List.filterMap_nil, Option.some.injEq, exists_eq_left', exists_eq_left, exists_const, true_and, and_true, Bool.not_true, Bool.not_false, if_true, if_false, reduceIte, Bool.false_eq_true, eq_self, D.int.injEq]
        refine draw_wp h3 (by decide) (by decide) fun d S4 d0 d1 h4 => ?_
        simp only [w_c, w_var, w_bin, w_un, w_nil, w_cons, w_fun, w_tup, w_lst, w_dct0, w_call, w_callP, w_if, w_and, w_or, w_not, w_chain, w_bof, w_btru, w_bnot, w_band, w_bor, w_btrue, w_iseq, w_ifun, w_comp, w_onone, w_osome, w_sl, w_lend, w_blend, w_seq, w_snil, w_set, w_own, w_ret, w_retn, w_retv, w_exp, w_sif, w_asg, w_sfor, w_brk, w_cont, w_par2, w_par3, w_app, w_def, lent, al_ok, al_stuck, va_add, va_addI, va_sub, va_neg, va_lt, va_le, va_gt, va_ge, va_eqS, va_neS, va_eqI, va_neI, va_ixL, va_ixT, va_lenL, va_lenT, va_max, va_min, va_abs, va_asB, va_truB, va_itL, va_itT, va_itS, va_tupL, va_tupT, va_inS, va_notInS, va_isN, va_some_bl, List.getElem?_cons_zero, List.getElem?_cons_succ, List.set_cons_zero, List.set_cons_succ, List.map_cons, List.map_nil, List.length_cons, List.length_nil, List.replicate, List.cons_append, List.nil_append, List.append_nil, Nat.reduceSub, Nat.reduceAdd, Nat.sub_self, Nat.zero_add, sizeLine_eq, Nat.reduceLeDiff, pick, List.filterMap_cons, List.filterMap_nil, Option.some.injEq, exists_eq_left', exists_eq_left, exists_const, true_and, and_true, Bool.not_true, Bool.not_false, if_true, if_false, reduceIte, Bool.false_eq_true, eq_self, D.int.injEq, va_ixS (show letters.length ≤ sizeLine by rw [letters_len, sizeLine_eq]; decide)]
        have hi : d.toNat < letters.cps.toList.length := by have := letters_len; unfold Str.length at this; rw [Array.length_toList, this]; omega
        have hat : atI letters.cps.toList d = some letters.cps.toList[d.toNat] := by
          unfold atI ixN
          rw [if_pos d0, if_pos (by omega)]
          exact List.getElem?_eq_getElem hi
        rw [hat]
        refine ⟨_, rfl, by rw [List.length_map]; omega, h4, cs ++ [⟨#[letters.cps.toList[d.toNat]]⟩], by rw [List.map_append]; rfl, by simp [hj], fun z hz => ?_⟩
        rcases List.mem_append.mp hz with hz | hz
        · exact hc z hz
        · rw [List.mem_singleton.mp hz]; exact ⟨_, rfl, List.getElem_mem hi⟩
      · rintro ys S3 ⟨h3, cs, rfl, hj, hc⟩
        obtain ⟨j1, j2, j3⟩ := join_one cs hc
        rw [rangeD_len] at hj
        rw [va_join (by omega) (by omega)]
        exact ⟨_, rfl, h3, _, ⟨by omega, by omega, j2⟩, rfl⟩
    rintro _ S3 ⟨h3, z, hz1, rfl⟩
    -- sometimes a word
    refine seq_mid (fun ρ' S' => RS S0 n S' ∧ ∃ z, NameS z ∧ ρ' = [.sh (.ref n), .sh (.int m), .sh (.str letters), .ow (.lst (zs.map D.str)), .sh (.int i), .sh (.int k), .sh (.str z), .un, .un]) ?_ ?_
    · simp only [w_c, w_var, w_bin, w_un, w_nil, w_cons, w_fun, w_tup, w_lst, w_dct0, w_call, w_callP, w_if, w_and, w_or, w_not, w_chain, w_bof, w_btru, w_bnot, w_band, w_bor, w_btrue, w_iseq, w_ifun, w_comp, w_onone, w_osome, w_sl, w_lend, w_blend, w_seq, w_snil, w_set, w_own, w_ret, w_retn, w_retv, w_exp, w_sif, w_asg, w_sfor, w_brk, w_cont, w_par2, w_par3, w_app, w_def, lent, al_ok, al_stuck, va_add, va_addI, va_sub, va_neg, va_lt, va_le, va_gt, va_ge, va_eqS, va_neS, va_eqI, va_neI, va_ixL, va_ixT, va_lenL, va_lenT, va_max, va_min, va_abs, va_asB, va_truB, va_itL, va_itT, va_itS, va_tupL, va_tupT, va_inS, va_notInS, va_isN, va_some_bl, List.getElem?_cons_zero, List.getElem?_cons_succ, List.set_cons_zero, List.set_cons_succ, List.map_cons, List.map_nil, List.length_cons, List.length_nil, List.replicate, List.cons_append, List.nil_append, List.append_nil, Nat.reduceSub, Nat.reduceAdd, Nat.sub_self, Nat.zero_add, sizeLine_eq, Nat.reduceLeDiff, pick, List.filterMap_cons, List.filterMap_nil, Option.some.injEq, exists_eq_left', exists_eq_left, exists_const, true_and, and_true, Bool.not_true, Bool.not_false, if_true, if_false, reduceIte, Bool.false_eq_true, eq_self, D.int.injEq]
      refine draw_wp h3 (by decide) (by decide) fun d S4 d0 d1 h4 => ?_
      simp only [w_c, w_var, w_bin, w_un, w_nil, w_cons, w_fun, w_tup, w_lst, w_dct0, w_call, w_callP, w_if, w_and, w_or, w_not, w_chain, w_bof, w_btru, w_bnot, w_band, w_bor, w_btrue, w_iseq, w_ifun, w_comp, w_onone, w_osome, w_sl, w_lend, w_blend, w_seq, w_snil, w_set, w_own, w_ret, w_retn, w_retv, w_exp, w_sif, w_asg, w_sfor, w_brk, w_cont, w_par2, w_par3, w_app, w_def, lent, al_ok, al_stuck, va_add, va_addI, va_sub, va_neg, va_lt, va_le, va_gt, va_ge, va_eqS, va_neS, va_eqI, va_neI, va_ixL, va_ixT, va_lenL, va_lenT, va_max, va_min, va_abs, va_asB, va_truB, va_itL, va_itT, va_itS, va_tupL, va_tupT, va_inS, va_notInS, va_isN, va_some_bl, List.getElem?_cons_zero, List.getElem?_cons_succ, List.set_cons_zero, List.set_cons_succ, List.map_cons, List.map_nil, List.length_cons, List.length_nil, List.replicate, List.cons_append, List.nil_append, List.append_nil, Nat.reduceSub, Nat.reduceAdd, Nat.sub_self, Nat.zero_add, sizeLine_eq, Nat.reduceLeDiff, pick, List.filterMap_cons, List.filterMap_nil, Option.some.injEq, exists_eq_left', exists_eq_left, exists_const, true_and, and_true, Bool.not_true, Bool.not_false, if_true, if_false, reduceIte, Bool.false_eq_true, eq_self, D.int.injEq]
      split
      · refine draw_wp h4 (by decide) (by decide) fun d S5 d0 d1 h5 => ?_
        simp only [w_c, w_var, w_bin, w_un, w_nil, w_cons, w_fun, w_tup, w_lst, w_dct0, w_call, w_callP, w_if, w_and, w_or, w_not, w_chain, w_bof, w_btru, w_bnot, w_band, w_bor, w_btrue, w_iseq, w_ifun, w_comp, w_onone, w_osome, w_sl, w_lend, w_blend, w_seq, w_snil, w_set, w_own, w_ret, w_retn, w_retv, w_exp, w_sif, w_asg, w_sfor, w_brk, w_cont, w_par2, w_par3, w_app, w_def, lent, al_ok, al_stuck, va_add, va_addI, va_sub, va_neg, va_lt, va_le, va_gt, va_ge, va_eqS, va_neS, va_eqI, va_neI, va_ixL, va_ixT, va_lenL, va_lenT, va_max, va_min, va_abs, va_asB, va_truB, va_itL, va_itT, va_itS, va_tupL, va_tupT, va_inS, va_notInS, va_isN, va_some_bl, List.getElem?_cons_zero, List.getElem?_cons_succ, List.set_cons_zero, List.set_cons_succ, List.map_cons, List.map_nil, List.length_cons, List.length_nil, List.replicate, List.cons_append, List.nil_append, List.append_nil, Nat.reduceSub, Nat.reduceAdd, Nat.sub_self, Nat.zero_add, sizeLine_eq, Nat.reduceLeDiff, pick, List.filterMap_cons, List.filterMap_nil, Option.some.injEq, exists_eq_left', exists_eq_left, exists_const, true_and, and_true, Bool.not_true, Bool.not_false, if_true, if_false, reduceIte, Bool.false_eq_true, eq_self, D.int.injEq]
        refine at_wp d0 (by simpa using d1) fun x hx => ?_
        obtain ⟨w, hw, rfl⟩ : ∃ w ∈ words8, D.str w = x := List.mem_map.mp (show x ∈ words8.map D.str from hx)
        exact ⟨h5, w, words8_ok w hw, rfl⟩
      · exact ⟨h4, z, hz1, rfl⟩
    rintro _ S4 ⟨h4, z, hz1, rfl⟩
    have hzs : ∀ y ∈ zs, ∀ c ∈ y.cps.toList, c < 0x110000 := fun y hy => (hz y hy).1.chars
    -- a new one
    refine seq_mid (fun ρ' S' => RS S0 n S' ∧ ∃ z, NameS z ∧ z ≠ "steps" ∧ z ∉ zs ∧ ρ' = [.sh (.ref n), .sh (.int m), .sh (.str letters), .ow (.lst (zs.map D.str)), .sh (.int i), .sh (.int k), .sh (.str z), .un, .un]) ?_ ?_
    · have hcl : compL [8] (gSet 8) (bOf (mBin dNotIn (mBin dAdd (mVar 8) (mC (.str "q"))) (mVar 3))) (mBin dAdd (mVar 8) (mC (.str "q"))) [.sh (.ref n), .sh (.int m), .sh (.str letters), .sh (.lst (zs.map D.str)), .sh (.int i), .sh (.int k), .sh (.str z), .un, .un] (strItems letters) [] S4 =
          .ok ((qs.filter fun x => !zs.any (· == x)).map D.str) S4 := by
        have hc := comp_pure (vs := [8]) (g := gSet 8) (t := bOf (mBin dNotIn (mBin dAdd (mVar 8) (mC (.str "q"))) (mVar 3))) (e := mBin dAdd (mVar 8) (mC (.str "q"))) (ρ := [.sh (.ref n), .sh (.int m), .sh (.str letters), .sh (.lst (zs.map D.str)), .sh (.int i), .sh (.int k), .sh (.str z), .un, .un]) (S := S4)
          (p := fun d => match d with | .str w => !zs.any (· == (w ++ "q")) | _ => false) (f := fun d => match d with | .str w => .str (w ++ "q") | _ => d) (strItems letters) [] (fun d hd => by
            obtain ⟨ch, hch, rfl⟩ := List.mem_map.mp hd
            have a1 : ∀ S, dAdd S (.str ⟨#[ch]⟩) (.str "q") = some (.str ((⟨#[ch]⟩ : Str) ++ "q")) := fun S => va_addS (by show 1 + 1 ≤ sizeLine; rw [sizeLine_eq]; decide)
            have a2 : ∀ S, dNotIn S (.str ((⟨#[ch]⟩ : Str) ++ "q")) (.lst (zs.map D.str)) = some (.bl (!zs.any (· == ((⟨#[ch]⟩ : Str) ++ "q")))) := fun S => va_notInL (qs_name (List.mem_map.mpr ⟨ch, hch, rfl⟩)).1.chars hzs
            refine ⟨_, rfl, ?_, fun _ => ?_⟩
            · simp only [bOf, mBin, mVar, mC, List.set_cons_succ, List.set_cons_zero, List.getElem?_cons_succ, List.getElem?_cons_zero, R.bind, R.opt, a1, a2, asB]
            · simp only [mBin, mVar, mC, List.set_cons_succ, List.set_cons_zero, List.getElem?_cons_succ, List.getElem?_cons_zero, R.bind, R.opt, a1]) (by decide +kernel)
        rw [hc]
        simp only [List.nil_append]
        congr 1
        unfold strItems qs
        rw [List.filter_map, List.filter_map, List.map_map, List.map_map]
        rfl
      obtain ⟨w, e1, e2, e3⟩ := first_q (zs := zs) (by omega)
      have hat : atI ((qs.filter fun x => !zs.any (· == x)).map D.str) 0 = some (.str w) := by
        have hl0 : 0 < ((qs.filter fun x => !zs.any (· == x)).map D.str).length := by
          rw [List.length_map]; exact (List.getElem?_eq_some_iff.mp e1).1
        unfold atI ixN
        rw [if_pos (by decide), if_pos (by omega)]
        show ((qs.filter fun x => !zs.any (· == x)).map D.str)[0]? = _
        rw [List.getElem?_map, e1]; rfl
      rw [w_sif]
      simp only [w_c, w_var, w_bin, w_un, w_nil, w_cons, w_fun, w_tup, w_lst, w_dct0, w_call, w_callP, w_if, w_and, w_or, w_not, w_chain, w_bof, w_btru, w_bnot, w_band, w_bor, w_btrue, w_iseq, w_ifun, w_comp, w_onone, w_osome, w_sl, w_lend, w_blend, w_seq, w_snil, w_set, w_own, w_ret, w_retn, w_retv, w_exp, w_sif, w_asg, w_sfor, w_brk, w_cont, w_par2, w_par3, w_app, w_def, lent, al_ok, al_stuck, va_add, va_addI, va_sub, va_neg, va_lt, va_le, va_gt, va_ge, va_eqS, va_neS, va_eqI, va_neI, va_ixL, va_ixT, va_lenL, va_lenT, va_max, va_min, va_abs, va_asB, va_truB, va_itL, va_itT, va_itS, va_tupL, va_tupT, va_inS, va_notInS, va_isN, va_some_bl, List.getElem?_cons_zero, List.getElem?_cons_succ, List.set_cons_zero, List.set_cons_succ, List.map_cons, List.map_nil, List.length_cons, List.length_nil, List.replicate, List.cons_append, List.nil_append, List.append_nil, Nat.reduceSub, Nat.reduceAdd, Nat.sub_self, Nat.zero_add, sizeLine_eq, Nat.reduceLeDiff, pick, List.filterMap_cons, List.filterMap_nil, Option.some.injEq, exists_eq_left', exists_eq_left, exists_const, true_and, and_true, Bool.not_true, Bool.not_false, if_true, if_false, reduceIte, Bool.false_eq_true, eq_self, D.int.injEq, va_inL hz1.chars hzs, wipeR, hcl, hat]
      split
      · exact ⟨rfl, h4, w, (qs_name e2).1, (qs_name e2).2, e3, rfl⟩
      · rename_i hin
        split
        · exact ⟨rfl, h4, w, (qs_name e2).1, (qs_name e2).2, e3, rfl⟩
        · rename_i hst
          exact ⟨h4, z, hz1, by simpa using hst, fun hm => hin (word_in.mpr hm), rfl⟩
    rintro _ S5 ⟨h5, z, hz1, hz2, hz3, rfl⟩
    simp only [w_c, w_var, w_bin, w_un, w_nil, w_cons, w_fun, w_tup, w_lst, w_dct0, w_call, w_callP, w_if, w_and, w_or, w_not, w_chain, w_bof, w_btru, w_bnot, w_band, w_bor, w_btrue, w_iseq, w_ifun, w_comp, w_onone, w_osome, w_sl, w_lend, w_blend, w_seq, w_snil, w_set, w_own, w_ret, w_retn, w_retv, w_exp, w_sif, w_asg, w_sfor, w_brk, w_cont, w_par2, w_par3, w_app, w_def, lent, al_ok, al_stuck, va_add, va_addI, va_sub, va_neg, va_lt, va_le, va_gt, va_ge, va_eqS, va_neS, va_eqI, va_neI, va_ixL, va_ixT, va_lenL, va_lenT, va_max, va_min, va_abs, va_asB, va_truB, va_itL, va_itT, va_itS, va_tupL, va_tupT, va_inS, va_notInS, va_isN, va_some_bl, List.getElem?_cons_zero, List.getElem?_cons_succ, List.set_cons_zero, List.set_cons_succ, List.map_cons, List.map_nil, List.length_cons, List.length_nil, List.replicate, List.cons_append, List.nil_append, List.append_nil, Nat.reduceSub, Nat.reduceAdd, Nat.sub_self, Nat.zero_add, sizeLine_eq, Nat.reduceLeDiff, pick, List.filterMap_cons, List.filterMap_nil, Option.some.injEq, exists_eq_left', exists_eq_left, exists_const, true_and, and_true, Bool.not_true, Bool.not_false, if_true, if_false, reduceIte, Bool.false_eq_true, eq_self, D.int.injEq]
    refine ⟨by rw [List.length_map]; omega, zs ++ [z], _, _, _, by simp [hl], fun y hy => ?_, ?_, h5, by rw [List.map_append]; rfl⟩
    · rcases List.mem_append.mp hy with hy | hy
      · exact hz y hy
      · rw [List.mem_singleton.mp hy]; exact ⟨hz1, hz2⟩
    · rw [List.nodup_append]
      exact ⟨hn, by simp, fun x hx y hy => by rw [List.mem_singleton.mp hy]; exact fun e => hz3 (e ▸ hx)⟩
  · rintro ρ S' ⟨zs, a, b, c, hl, hz, hn, hS, rfl⟩
    rw [rangeD_len] at hl
    simp only [w_c, w_var, w_bin, w_un, w_nil, w_cons, w_fun, w_tup, w_lst, w_dct0, w_call, w_callP, w_if, w_and, w_or, w_not, w_chain, w_bof, w_btru, w_bnot, w_band, w_bor, w_btrue, w_iseq, w_ifun, w_comp, w_onone, w_osome, w_sl, w_lend, w_blend, w_seq, w_snil, w_set, w_own, w_ret, w_retn, w_retv, w_exp, w_sif, w_asg, w_sfor, w_brk, w_cont, w_par2, w_par3, w_app, w_def, lent, al_ok, al_stuck, va_add, va_addI, va_sub, va_neg, va_lt, va_le, va_gt, va_ge, va_eqS, va_neS, va_eqI, va_neI, va_ixL, va_ixT, va_lenL, va_lenT, va_max, va_min, va_abs, va_asB, va_truB, va_itL, va_itT, va_itS, va_tupL, va_tupT, va_inS, va_notInS, va_isN, va_some_bl, List.getElem?_cons_zero, List.getElem?_cons_succ, List.set_cons_zero, List.set_cons_succ, List.map_cons, List.map_nil, List.length_cons, List.length_nil, List.replicate, List.cons_append, List.nil_append, List.append_nil, Nat.reduceSub, Nat.reduceAdd, Nat.sub_self, Nat.zero_add, sizeLine_eq, Nat.reduceLeDiff, pick, List.filterMap_cons, List.filterMap_nil, Option.some.injEq, exists_eq_left', exists_eq_left, exists_const, true_and, and_true, Bool.not_true, Bool.not_false, if_true, if_false, reduceIte, Bool.false_eq_true, eq_self, D.int.injEq]
    exact q zs S' hl hz hn hS
end
end Rc

/-! Rc2: rows drawn. -/
namespace Rc
open PySem PySem.Spec PyProof.Rows L2 Mi
inductive Row where
  | step | use (b : Str) (n : Int) | back (b : Str) (n : Int) | give (b : Str) (n : Int) | out (v : Int) | put (v : Int) | caught (b : Str)
def Row.d : Row → D
  | .step => .tup [.str "step"]
  | .use b n => .tup [.str "use", .str b, .int n]
  | .back b n => .tup [.str "back", .str b, .int n]
  | .give b n => .tup [.str "give", .str b, .int n]
  | .out v => .tup [.str "out", .int v]
  | .put v => .tup [.str "put", .int v]
  | .caught b => .tup [.str "caught", .str b]
def big : Int := 10 ^ 18 + 9 * 10 ^ 9
def Row.ok : Row → Prop
  | .step => True
  | .use b n => NameS b ∧ 0 ≤ n ∧ n ≤ big
  | .back b n => NameS b ∧ 0 ≤ n ∧ n ≤ big
  | .give b n => NameS b ∧ n ≠ 0 ∧ -big ≤ n ∧ n ≤ big
  | .out v => -(10 ^ 18) ≤ v ∧ v ≤ 10 ^ 18
  | .put v => -(10 ^ 18) ≤ v ∧ v ≤ 10 ^ 18
  | .caught b => NameS b
section
variable {S0 S : Store} {n : Nat} {Q : D → Store → Prop} {E : Exn → Store → Prop}
theorem steps_name : NameS "steps" := by
  refine ⟨by decide +kernel, by decide +kernel, by decide +kernel⟩
theorem funds_wp (h : RS S0 n S) (q : ∀ (zs : List Str) S', zs ≠ [] → zs.length ≤ 4 → (∀ z ∈ zs, NameS z) → zs.Nodup → RS S0 n S' → Q (.lst (zs.map D.str)) S') : (f__law_funds [.ref n] S).al Q E := by
  unfold f__law_funds m__law_funds
  simp only [w_c, w_var, w_bin, w_un, w_nil, w_cons, w_fun, w_tup, w_lst, w_dct0, w_call, w_callP, w_if, w_and, w_or, w_not, w_chain, w_bof, w_btru, w_bnot, w_band, w_bor, w_btrue, w_iseq, w_ifun, w_comp, w_onone, w_osome, w_sl, w_lend, w_blend, w_seq, w_snil, w_set, w_own, w_ret, w_retn, w_retv, w_exp, w_sif, w_asg, w_sfor, w_brk, w_cont, w_par2, w_par3, w_app, w_def, lent, al_ok, al_stuck, va_add, va_addI, va_sub, va_neg, va_lt, va_le, va_gt, va_ge, va_eqS, va_neS, va_eqI, va_neI, va_ixL, va_ixT, va_lenL, va_lenT, va_max, va_min, va_abs, va_asB, va_truB, va_itL, va_itT, va_itS, va_tupL, va_tupT, va_inS, va_notInS, va_isN, va_some_bl, List.getElem?_cons_zero, List.getElem?_cons_succ, List.set_cons_zero, List.set_cons_succ, List.map_cons, List.map_nil, List.length_cons, List.length_nil, List.replicate, List.cons_append, List.nil_append, List.append_nil, Nat.reduceSub, Nat.reduceAdd, Nat.sub_self, Nat.zero_add, sizeLine_eq, Nat.reduceLeDiff, pick, List.filterMap_cons, List.filterMap_nil, Option.some.injEq, exists_eq_left', exists_eq_left, exists_const, true_and, and_true, Bool.not_true, Bool.not_false, if_true, if_false, reduceIte, Bool.false_eq_true, eq_self, D.int.injEq]
  refine draw_wp h (by decide) (by decide) fun d S1 d0 d1 h1 => ?_
  simp only [w_c, w_var, w_bin, w_un, w_nil, w_cons, w_fun, w_tup, w_lst, w_dct0, w_call, w_callP, w_if, w_and, w_or, w_not, w_chain, w_bof, w_btru, w_bnot, w_band, w_bor, w_btrue, w_iseq, w_ifun, w_comp, w_onone, w_osome, w_sl, w_lend, w_blend, w_seq, w_snil, w_set, w_own, w_ret, w_retn, w_retv, w_exp, w_sif, w_asg, w_sfor, w_brk, w_cont, w_par2, w_par3, w_app, w_def, lent, al_ok, al_stuck, va_add, va_addI, va_sub, va_neg, va_lt, va_le, va_gt, va_ge, va_eqS, va_neS, va_eqI, va_neI, va_ixL, va_ixT, va_lenL, va_lenT, va_max, va_min, va_abs, va_asB, va_truB, va_itL, va_itT, va_itS, va_tupL, va_tupT, va_inS, va_notInS, va_isN, va_some_bl, List.getElem?_cons_zero, List.getElem?_cons_succ, List.set_cons_zero, List.set_cons_succ, List.map_cons, List.map_nil, List.length_cons, List.length_nil, List.replicate, List.cons_append, List.nil_append, List.append_nil, Nat.reduceSub, Nat.reduceAdd, Nat.sub_self, Nat.zero_add, sizeLine_eq, Nat.reduceLeDiff, pick, List.filterMap_cons, List.filterMap_nil, Option.some.injEq, exists_eq_left', exists_eq_left, exists_const, true_and, and_true, Bool.not_true, Bool.not_false, if_true, if_false, reduceIte, Bool.false_eq_true, eq_self, D.int.injEq]
  refine names_wp h1 (by omega) (by omega) fun zs S2 hl hz hn h2 => ?_
  have ha : ∀ S, dAdd S (.lst [.str "steps"]) (.lst (zs.map D.str)) = some (.lst (([("steps" : Str)] ++ zs).map D.str)) := fun S => by
    rw [va_addL (by rw [sizeLine_eq, List.length_map]; simp; omega)]; rfl
  refine ⟨_, ha S2, q ([("steps" : Str)] ++ zs) S2 (by simp) (by simp; omega) (fun z hz' => ?_) ?_ h2⟩
  · rcases List.mem_append.mp hz' with h | h
    · rw [List.mem_singleton.mp h]; exact steps_name
    · exact (hz z h).1
  · rw [List.singleton_append, List.nodup_cons]
    exact ⟨fun hm => (hz _ hm).2 rfl, hn⟩
theorem va_inT2 {S : Store} {x a b : Str} (hx : ∀ c ∈ x.cps.toList, c < 0x110000) (ha : ∀ c ∈ a.cps.toList, c < 0x110000) (hb : ∀ c ∈ b.cps.toList, c < 0x110000) : dIn S (.str x) (.tup [.str a, .str b]) = some (.bl (a == x || (b == x || false))) := by
  have := va_inT (S := S) (x := x) (ys := [a, b]) hx (by intro y hy; simp only [List.mem_cons, List.not_mem_nil, or_false] at hy; rcases hy with rfl | rfl <;> assumption)
  simpa only [List.map_cons, List.map_nil, List.any_cons, List.any_nil] using this
def words7 : List Str := ["step", "use", "back", "give", "out", "put", "caught", "use"]
theorem words7_ok : ∀ w ∈ words7, ∀ c ∈ w.cps.toList, c < 0x110000 := by decide +kernel
theorem drawn_wp {zs : List Str} (h : RS S0 n S) (h0 : zs ≠ []) (h1 : zs.length ≤ 4) (hz : ∀ z ∈ zs, NameS z) (q : ∀ (r : Row) S', r.ok → RS S0 n S' → Q r.d S') : (f__law_drawn_row [.ref n, .lst (zs.map D.str)] S).al Q E := by
  have hl : 0 < zs.length := List.length_pos_iff.mpr h0
  unfold f__law_drawn_row m__law_drawn_row
  simp only [w_c, w_var, w_bin, w_un, w_nil, w_cons, w_fun, w_tup, w_lst, w_dct0, w_call, w_callP, w_if, w_and, w_or, w_not, w_chain, w_bof, w_btru, w_bnot, w_band, w_bor, w_btrue, w_iseq, w_ifun, w_comp, w_onone, w_osome, w_sl, w_lend, w_blend, w_seq, w_snil, w_set, w_own, w_ret, w_retn, w_retv, w_exp, w_sif, w_asg, w_sfor, w_brk, w_cont, w_par2, w_par3, w_app, w_def, lent, al_ok, al_stuck, va_add, va_addI, va_sub, va_neg, va_lt, va_le, va_gt, va_ge, va_eqS, va_neS, va_eqI, va_neI, va_ixL, va_ixT, va_lenL, va_lenT, va_max, va_min, va_abs, va_asB, va_truB, va_itL, va_itT, va_itS, va_tupL, va_tupT, va_inS, va_notInS, va_isN, va_some_bl, List.getElem?_cons_zero, List.getElem?_cons_succ, List.set_cons_zero, List.set_cons_succ, List.map_cons, List.map_nil, List.length_cons, List.length_nil, List.replicate, List.cons_append, List.nil_append, List.append_nil, Nat.reduceSub, Nat.reduceAdd, Nat.sub_self, Nat.zero_add, sizeLine_eq, Nat.reduceLeDiff, pick, List.filterMap_cons, List.filterMap_nil, Option.some.injEq, exists_eq_left', exists_eq_left, exists_const, true_and, and_true, Bool.not_true, Bool.not_false, if_true, if_false, reduceIte, Bool.false_eq_true, eq_self, D.int.injEq]
  refine draw_wp h (by decide) (by decide) fun d S1 d0 d1 hS1 => ?_
  simp only [w_c, w_var, w_bin, w_un, w_nil, w_cons, w_fun, w_tup, w_lst, w_dct0, w_call, w_callP, w_if, w_and, w_or, w_not, w_chain, w_bof, w_btru, w_bnot, w_band, w_bor, w_btrue, w_iseq, w_ifun, w_comp, w_onone, w_osome, w_sl, w_lend, w_blend, w_seq, w_snil, w_set, w_own, w_ret, w_retn, w_retv, w_exp, w_sif, w_asg, w_sfor, w_brk, w_cont, w_par2, w_par3, w_app, w_def, lent, al_ok, al_stuck, va_add, va_addI, va_sub, va_neg, va_lt, va_le, va_gt, va_ge, va_eqS, va_neS, va_eqI, va_neI, va_ixL, va_ixT, va_lenL, va_lenT, va_max, va_min, va_abs, va_asB, va_truB, va_itL, va_itT, va_itS, va_tupL, va_tupT, va_inS, va_notInS, va_isN, va_some_bl, List.getElem?_cons_zero, List.getElem?_cons_succ, List.set_cons_zero, List.set_cons_succ, List.map_cons, List.map_nil, List.length_cons, List.length_nil, List.replicate, List.cons_append, List.nil_append, List.append_nil, Nat.reduceSub, Nat.reduceAdd, Nat.sub_self, Nat.zero_add, sizeLine_eq, Nat.reduceLeDiff, pick, List.filterMap_cons, List.filterMap_nil, Option.some.injEq, exists_eq_left', exists_eq_left, exists_const, true_and, and_true, Bool.not_true, Bool.not_false, if_true, if_false, reduceIte, Bool.false_eq_true, eq_self, D.int.injEq]
  refine at_wp d0 (by simpa using d1) fun x hx => ?_
  obtain ⟨w, hw, rfl⟩ : ∃ w ∈ words7, D.str w = x := List.mem_map.mp (show x ∈ words7.map D.str from hx)
  have hwc := words7_ok w hw
  simp only [w_c, w_var, w_bin, w_un, w_nil, w_cons, w_fun, w_tup, w_lst, w_dct0, w_call, w_callP, w_if, w_and, w_or, w_not, w_chain, w_bof, w_btru, w_bnot, w_band, w_bor, w_btrue, w_iseq, w_ifun, w_comp, w_onone, w_osome, w_sl, w_lend, w_blend, w_seq, w_snil, w_set, w_own, w_ret, w_retn, w_retv, w_exp, w_sif, w_asg, w_sfor, w_brk, w_cont, w_par2, w_par3, w_app, w_def, lent, al_ok, al_stuck, va_add, va_addI, va_sub, va_neg, va_lt, va_le, va_gt, va_ge, va_eqS, va_neS, va_eqI, va_neI, va_ixL, va_ixT, va_lenL, va_lenT, va_max, va_min, va_abs, va_asB, va_truB, va_itL, va_itT, va_itS, va_tupL, va_tupT, va_inS, va_notInS, va_isN, va_some_bl, List.getElem?_cons_zero, List.getElem?_cons_succ, List.set_cons_zero, List.set_cons_succ, List.map_cons, List.map_nil, List.length_cons, List.length_nil, List.replicate, List.cons_append, List.nil_append, List.append_nil, Nat.reduceSub, Nat.reduceAdd, Nat.sub_self, Nat.zero_add, sizeLine_eq, Nat.reduceLeDiff, pick, List.filterMap_cons, List.filterMap_nil, Option.some.injEq, exists_eq_left', exists_eq_left, exists_const, true_and, and_true, Bool.not_true, Bool.not_false, if_true, if_false, reduceIte, Bool.false_eq_true, eq_self, D.int.injEq, List.length_map, va_inT2 hwc (words7_ok "out" (by decide +kernel)) (words7_ok "put" (by decide +kernel)), p18]
  refine draw_wp hS1 (by omega) (by omega) fun e S2 e0 e1 hS2 => ?_
  refine at_wp e0 (by rw [List.length_map]; exact e1) fun y hy => ?_
  obtain ⟨b, hb, rfl⟩ := List.mem_map.mp hy
  have hbn := hz b hb
  refine number_wp hS2 fun i S3 i0 i1 hS3 => ?_
  have hb1 : i ≤ big := by unfold big; omega
  simp only [w_c, w_var, w_bin, w_un, w_nil, w_cons, w_fun, w_tup, w_lst, w_dct0, w_call, w_callP, w_if, w_and, w_or, w_not, w_chain, w_bof, w_btru, w_bnot, w_band, w_bor, w_btrue, w_iseq, w_ifun, w_comp, w_onone, w_osome, w_sl, w_lend, w_blend, w_seq, w_snil, w_set, w_own, w_ret, w_retn, w_retv, w_exp, w_sif, w_asg, w_sfor, w_brk, w_cont, w_par2, w_par3, w_app, w_def, lent, al_ok, al_stuck, va_add, va_addI, va_sub, va_neg, va_lt, va_le, va_gt, va_ge, va_eqS, va_neS, va_eqI, va_neI, va_ixL, va_ixT, va_lenL, va_lenT, va_max, va_min, va_abs, va_asB, va_truB, va_itL, va_itT, va_itS, va_tupL, va_tupT, va_inS, va_notInS, va_isN, va_some_bl, List.getElem?_cons_zero, List.getElem?_cons_succ, List.set_cons_zero, List.set_cons_succ, List.map_cons, List.map_nil, List.length_cons, List.length_nil, List.replicate, List.cons_append, List.nil_append, List.append_nil, Nat.reduceSub, Nat.reduceAdd, Nat.sub_self, Nat.zero_add, sizeLine_eq, Nat.reduceLeDiff, pick, List.filterMap_cons, List.filterMap_nil, Option.some.injEq, exists_eq_left', exists_eq_left, exists_const, true_and, and_true, Bool.not_true, Bool.not_false, if_true, if_false, reduceIte, Bool.false_eq_true, eq_self, D.int.injEq]
  simp only [words7, List.mem_cons, List.not_mem_nil, or_false] at hw
  rcases hw with rfl | rfl | rfl | rfl | rfl | rfl | rfl | rfl
  · rw [if_pos (by decide +kernel)]; exact q .step S3 trivial hS3
  · rw [if_neg (by decide +kernel), if_neg (by decide +kernel), if_neg (by decide +kernel), if_neg (by decide +kernel)]; exact q (.use b i) S3 ⟨hbn, i0, hb1⟩ hS3
  · rw [if_neg (by decide +kernel), if_neg (by decide +kernel), if_neg (by decide +kernel), if_neg (by decide +kernel)]; exact q (.back b i) S3 ⟨hbn, i0, hb1⟩ hS3
  · rw [if_neg (by decide +kernel), if_neg (by decide +kernel), if_neg (by decide +kernel), if_pos (by decide +kernel)]
    refine draw_wp hS3 (by decide) (by decide) fun f S4 f0 f1 hS4 => ?_
    simp only [w_c, w_var, w_bin, w_un, w_nil, w_cons, w_fun, w_tup, w_lst, w_dct0, w_call, w_callP, w_if, w_and, w_or, w_not, w_chain, w_bof, w_btru, w_bnot, w_band, w_bor, w_btrue, w_iseq, w_ifun, w_comp, w_onone, w_osome, w_sl, w_lend, w_blend, w_seq, w_snil, w_set, w_own, w_ret, w_retn, w_retv, w_exp, w_sif, w_asg, w_sfor, w_brk, w_cont, w_par2, w_par3, w_app, w_def, lent, al_ok, al_stuck, va_add, va_addI, va_sub, va_neg, va_lt, va_le, va_gt, va_ge, va_eqS, va_neS, va_eqI, va_neI, va_ixL, va_ixT, va_lenL, va_lenT, va_max, va_min, va_abs, va_asB, va_truB, va_itL, va_itT, va_itS, va_tupL, va_tupT, va_inS, va_notInS, va_isN, va_some_bl, List.getElem?_cons_zero, List.getElem?_cons_succ, List.set_cons_zero, List.set_cons_succ, List.map_cons, List.map_nil, List.length_cons, List.length_nil, List.replicate, List.cons_append, List.nil_append, List.append_nil, Nat.reduceSub, Nat.reduceAdd, Nat.sub_self, Nat.zero_add, sizeLine_eq, Nat.reduceLeDiff, pick, List.filterMap_cons, List.filterMap_nil, Option.some.injEq, exists_eq_left', exists_eq_left, exists_const, true_and, and_true, Bool.not_true, Bool.not_false, if_true, if_false, reduceIte, Bool.false_eq_true, eq_self, D.int.injEq]
    refine at_wp f0 (by simpa using f1) fun x hx => ?_
    simp only [List.mem_cons, List.not_mem_nil, or_false] at hx
    rcases hx with rfl | rfl
    · exact q (.give b (i + 1)) S4 ⟨hbn, by omega, by omega, by unfold big; omega⟩ hS4
    · exact q (.give b (-1 - i)) S4 ⟨hbn, by omega, by unfold big; omega, by unfold big; omega⟩ hS4
  · rw [if_neg (by decide +kernel), if_neg (by decide +kernel), if_pos (by decide +kernel)]
    split
    · rename_i hlt
      have hlt' := of_decide_eq_true hlt
      refine draw_wp hS3 (by decide) (by decide) fun f S4 f0 f1 hS4 => ?_
      simp only [w_c, w_var, w_bin, w_un, w_nil, w_cons, w_fun, w_tup, w_lst, w_dct0, w_call, w_callP, w_if, w_and, w_or, w_not, w_chain, w_bof, w_btru, w_bnot, w_band, w_bor, w_btrue, w_iseq, w_ifun, w_comp, w_onone, w_osome, w_sl, w_lend, w_blend, w_seq, w_snil, w_set, w_own, w_ret, w_retn, w_retv, w_exp, w_sif, w_asg, w_sfor, w_brk, w_cont, w_par2, w_par3, w_app, w_def, lent, al_ok, al_stuck, va_add, va_addI, va_sub, va_neg, va_lt, va_le, va_gt, va_ge, va_eqS, va_neS, va_eqI, va_neI, va_ixL, va_ixT, va_lenL, va_lenT, va_max, va_min, va_abs, va_asB, va_truB, va_itL, va_itT, va_itS, va_tupL, va_tupT, va_inS, va_notInS, va_isN, va_some_bl, List.getElem?_cons_zero, List.getElem?_cons_succ, List.set_cons_zero, List.set_cons_succ, List.map_cons, List.map_nil, List.length_cons, List.length_nil, List.replicate, List.cons_append, List.nil_append, List.append_nil, Nat.reduceSub, Nat.reduceAdd, Nat.sub_self, Nat.zero_add, sizeLine_eq, Nat.reduceLeDiff, pick, List.filterMap_cons, List.filterMap_nil, Option.some.injEq, exists_eq_left', exists_eq_left, exists_const, true_and, and_true, Bool.not_true, Bool.not_false, if_true, if_false, reduceIte, Bool.false_eq_true, eq_self, D.int.injEq]
      refine at_wp f0 (by simpa using f1) fun x hx => ?_
      simp only [List.mem_cons, List.not_mem_nil, or_false] at hx
      rcases hx with rfl | rfl | rfl
      · exact q (.out (i - 20)) S4 ⟨by omega, by omega⟩ hS4
      · exact q (.out (10 ^ 18)) S4 ⟨by decide, by decide⟩ hS4
      · exact q (.out (-10 ^ 18)) S4 ⟨by decide, by decide⟩ hS4
    · exact q (.out (10 ^ 18)) S3 ⟨by decide, by decide⟩ hS3
  · rw [if_neg (by decide +kernel), if_neg (by decide +kernel), if_pos (by decide +kernel)]
    split
    · rename_i hlt
      have hlt' := of_decide_eq_true hlt
      refine draw_wp hS3 (by decide) (by decide) fun f S4 f0 f1 hS4 => ?_
      simp only [w_c, w_var, w_bin, w_un, w_nil, w_cons, w_fun, w_tup, w_lst, w_dct0, w_call, w_callP, w_if, w_and, w_or, w_not, w_chain, w_bof, w_btru, w_bnot, w_band, w_bor, w_btrue, w_iseq, w_ifun, w_comp, w_onone, w_osome, w_sl, w_lend, w_blend, w_seq, w_snil, w_set, w_own, w_ret, w_retn, w_retv, w_exp, w_sif, w_asg, w_sfor, w_brk, w_cont, w_par2, w_par3, w_app, w_def, lent, al_ok, al_stuck, va_add, va_addI, va_sub, va_neg, va_lt, va_le, va_gt, va_ge, va_eqS, va_neS, va_eqI, va_neI, va_ixL, va_ixT, va_lenL, va_lenT, va_max, va_min, va_abs, va_asB, va_truB, va_itL, va_itT, va_itS, va_tupL, va_tupT, va_inS, va_notInS, va_isN, va_some_bl, List.getElem?_cons_zero, List.getElem?_cons_succ, List.set_cons_zero, List.set_cons_succ, List.map_cons, List.map_nil, List.length_cons, List.length_nil, List.replicate, List.cons_append, List.nil_append, List.append_nil, Nat.reduceSub, Nat.reduceAdd, Nat.sub_self, Nat.zero_add, sizeLine_eq, Nat.reduceLeDiff, pick, List.filterMap_cons, List.filterMap_nil, Option.some.injEq, exists_eq_left', exists_eq_left, exists_const, true_and, and_true, Bool.not_true, Bool.not_false, if_true, if_false, reduceIte, Bool.false_eq_true, eq_self, D.int.injEq]
      refine at_wp f0 (by simpa using f1) fun x hx => ?_
      simp only [List.mem_cons, List.not_mem_nil, or_false] at hx
      rcases hx with rfl | rfl | rfl
      · exact q (.put (i - 20)) S4 ⟨by omega, by omega⟩ hS4
      · exact q (.put (10 ^ 18)) S4 ⟨by decide, by decide⟩ hS4
      · exact q (.put (-10 ^ 18)) S4 ⟨by decide, by decide⟩ hS4
    · exact q (.put (10 ^ 18)) S3 ⟨by decide, by decide⟩ hS3
  · rw [if_neg (by decide +kernel), if_pos (by decide +kernel)]; exact q (.caught b) S3 hbn hS3
  · rw [if_neg (by decide +kernel), if_neg (by decide +kernel), if_neg (by decide +kernel), if_neg (by decide +kernel)]; exact q (.use b i) S3 ⟨hbn, i0, hb1⟩ hS3
theorem rows_wp {zs : List Str} {m : Int} (h : RS S0 n S) (h0 : zs ≠ []) (h1 : zs.length ≤ 4) (hz : ∀ z ∈ zs, NameS z) (m0 : 0 ≤ m) (m1 : m ≤ 100) (q : ∀ (rs : List Row) S', rs.length ≤ m.toNat → (∀ r ∈ rs, r.ok) → RS S0 n S' → Q (.lst (rs.map Row.d)) S') : (f__law_drawn_rows [.ref n, .lst (zs.map D.str), .int m] S).al Q E := by
  unfold f__law_drawn_rows m__law_drawn_rows
  simp only [w_c, w_var, w_bin, w_un, w_nil, w_cons, w_fun, w_tup, w_lst, w_dct0, w_call, w_callP, w_if, w_and, w_or, w_not, w_chain, w_bof, w_btru, w_bnot, w_band, w_bor, w_btrue, w_iseq, w_ifun, w_comp, w_onone, w_osome, w_sl, w_lend, w_blend, w_seq, w_snil, w_set, w_own, w_ret, w_retn, w_retv, w_exp, w_sif, w_asg, w_sfor, w_brk, w_cont, w_par2, w_par3, w_app, w_def, lent, al_ok, al_stuck, va_add, va_addI, va_sub, va_neg, va_lt, va_le, va_gt, va_ge, va_eqS, va_neS, va_eqI, va_neI, va_ixL, va_ixT, va_lenL, va_lenT, va_max, va_min, va_abs, va_asB, va_truB, va_itL, va_itT, va_itS, va_tupL, va_tupT, va_inS, va_notInS, va_isN, va_some_bl, List.getElem?_cons_zero, List.getElem?_cons_succ, List.set_cons_zero, List.set_cons_succ, List.map_cons, List.map_nil, List.length_cons, List.length_nil, List.replicate, List.cons_append, List.nil_append, List.append_nil, Nat.reduceSub, Nat.reduceAdd, Nat.sub_self, Nat.zero_add, sizeLine_eq, Nat.reduceLeDiff, pick, List.filterMap_cons, List.filterMap_nil, Option.some.injEq, exists_eq_left', exists_eq_left, exists_const, true_and, and_true, Bool.not_true, Bool.not_false, if_true, if_false, reduceIte, Bool.false_eq_true, eq_self, D.int.injEq]
  refine draw_wp h (by omega) (by omega) fun d S1 d0 d1 hS1 => ?_
  simp only [w_c, w_var, w_bin, w_un, w_nil, w_cons, w_fun, w_tup, w_lst, w_dct0, w_call, w_callP, w_if, w_and, w_or, w_not, w_chain, w_bof, w_btru, w_bnot, w_band, w_bor, w_btrue, w_iseq, w_ifun, w_comp, w_onone, w_osome, w_sl, w_lend, w_blend, w_seq, w_snil, w_set, w_own, w_ret, w_retn, w_retv, w_exp, w_sif, w_asg, w_sfor, w_brk, w_cont, w_par2, w_par3, w_app, w_def, lent, al_ok, al_stuck, va_add, va_addI, va_sub, va_neg, va_lt, va_le, va_gt, va_ge, va_eqS, va_neS, va_eqI, va_neI, va_ixL, va_ixT, va_lenL, va_lenT, va_max, va_min, va_abs, va_asB, va_truB, va_itL, va_itT, va_itS, va_tupL, va_tupT, va_inS, va_notInS, va_isN, va_some_bl, List.getElem?_cons_zero, List.getElem?_cons_succ, List.set_cons_zero, List.set_cons_succ, List.map_cons, List.map_nil, List.length_cons, List.length_nil, List.replicate, List.cons_append, List.nil_append, List.append_nil, Nat.reduceSub, Nat.reduceAdd, Nat.sub_self, Nat.zero_add, sizeLine_eq, Nat.reduceLeDiff, pick, List.filterMap_cons, List.filterMap_nil, Option.some.injEq, exists_eq_left', exists_eq_left, exists_const, true_and, and_true, Bool.not_true, Bool.not_false, if_true, if_false, reduceIte, Bool.false_eq_true, eq_self, D.int.injEq, va_rng1 (show 0 ≤ d ∧ d < 2 ^ 62 by omega), wipeR]
  refine comp_wp (fun j acc S => RS S0 n S ∧ ∃ rs : List Row, acc = rs.map Row.d ∧ rs.length = j ∧ ∀ r ∈ rs, r.ok) ⟨hS1, [], rfl, rfl, nofun⟩ ?_ ?_
  · rintro j e acc S3 hd ⟨h3, rs, rfl, hj, hc⟩
    obtain ⟨rfl, hj2⟩ := range_at hd
    refine ⟨_, rfl, ?_⟩
    simp only [w_c, w_var, w_bin, w_un, w_nil, w_cons, w_fun, w_tup, w_lst, w_dct0, w_call, w_callP, w_if, w_and, w_or, w_not, w_chain, w_bof, w_btru, w_bnot, w_band, w_bor, w_btrue, w_iseq, w_ifun, w_comp, w_onone, w_osome, w_sl, w_lend, w_blend, w_seq, w_snil, w_set, w_own, w_ret, w_retn, w_retv, w_exp, w_sif, w_asg, w_sfor, w_brk, w_cont, w_par2, w_par3, w_app, w_def, lent, al_ok, al_stuck, va_add, va_addI, va_sub, va_neg, va_lt, va_le, va_gt, va_ge, va_eqS, va_neS, va_eqI, va_neI, va_ixL, va_ixT, va_lenL, va_lenT, va_max, va_min, va_abs, va_asB, va_truB, va_itL, va_itT, va_itS, va_tupL, va_tupT, va_inS, va_notInS, va_isN, va_some_bl, List.getElem?_cons_zero, List.getElem?_cons_succ, List.set_cons_zero, List.set_cons_succ, List.map_cons, List.map_nil, List.length_cons, List.length_nil, List.replicate, List.cons_append, List.nil_append, List.append_nil, Nat.reduceSub, Nat.reduceAdd, Nat.sub_self, Nat.zero_add, sizeLine_eq, Nat.reduceLeDiff, pick, List.filterMap_cons, List.filterMap_nil, Option.some.injEq, exists_eq_left', exists_eq_left, exists_const, true_and, and_true, Bool.not_true, Bool.not_false, if_true, if_false, reduceIte, Bool.false_eq_true, eq_self, D.int.injEq]
    refine drawn_wp h3 h0 h1 hz fun r S4 hr h4 => ?_
    refine ⟨by rw [List.length_map]; omega, h4, rs ++ [r], by rw [List.map_append]; rfl, by simp [hj], fun z hz => ?_⟩
    rcases List.mem_append.mp hz with hz | hz
    · exact hc z hz
    · rw [List.mem_singleton.mp hz]; exact hr
  · rintro ys S3 ⟨h3, rs, rfl, hj, hc⟩
    rw [rangeD_len] at hj
    exact q rs S3 (by omega) hc h3
end
end Rc

/-! Rc3: the judge of rows; what a row uses. -/
namespace Rc
open PySem PySem.Spec PyProof.Rows L2 Mi
section
variable {S : Store}
theorem al_eq {r : R D} {v : D} (h : r.al (fun d S' => d = v ∧ S' = S) fun _ _ => False) : r = .ok v S := by
  cases r with
  | ok a S' => obtain ⟨rfl, rfl⟩ := h; rfl
  | exc _ _ => exact h.elim
  | stuck => exact h.elim
def inL (c : Nat) : Bool := decide (c ∈ letters.cps.toList)
def nameS (z : Str) : Bool := decide (1 ≤ z.length) && decide (z.length ≤ 8) && z.cps.toList.all inL
theorem nameS_iff {z : Str} : nameS z = true ↔ NameS z := by
  unfold nameS NameS inL
  simp only [Bool.and_eq_true, decide_eq_true_eq, List.all_eq_true]
  exact and_assoc
theorem in_one (c : Nat) (z : Str) : inStr ⟨#[c]⟩ z = decide (c ∈ z.cps.toList) := by
  unfold inStr
  rw [dif_pos (by rfl)]
  rfl
theorem items_len (z : Str) : (strItems z).length = z.length := by
  unfold strItems
  rw [List.length_map, Array.length_toList]
  rfl
theorem allB_map (q : Nat → Bool) : ∀ l : List Nat, Mi.allB (l.map fun c => D.bl (q c)) = some (l.map q)
  | [] => rfl
  | c :: l => by simp only [List.map_cons, Mi.allB, allB_map q l]
theorem name_str {z : Str} (hz : z.length ≤ sizeLine) : f_is_name [.str z] S = .ok (.bl (nameS z)) S := by
  have hc : compL [1] (gSet 1) bTrue (mBin dIn (mVar 1) (mC (.str letters))) [.sh (.str z), .un] (strItems z) [] S = .ok (z.cps.toList.map fun c => D.bl (inL c)) S := by
    have h := comp_pure (vs := [1]) (g := gSet 1) (t := bTrue) (e := mBin dIn (mVar 1) (mC (.str letters))) (ρ := [.sh (.str z), .un]) (S := S) (p := fun _ => true) (f := fun d => match d with | .str x => .bl (inStr x letters) | _ => .non) (strItems z) [] (by
      intro d hd
      obtain ⟨c, hc, rfl⟩ := List.mem_map.mp hd
      exact ⟨_, rfl, rfl, fun _ => rfl⟩) (by rw [items_len, List.length_nil, Nat.zero_add]; exact hz)
    rw [h]
    simp only [List.nil_append]
    congr 1
    unfold strItems
    rw [List.filter_eq_self.mpr (fun _ _ => rfl), List.map_map]
    refine List.map_congr_left fun c _ => ?_
    show D.bl (inStr ⟨#[c]⟩ letters) = _
    rw [in_one]
    rfl
  have isi : ∀ S, fIsi S [.str z, .ty "str"] = some (.bl true) := fun _ => rfl
  have al : ∀ S, fAll S [.lst (z.cps.toList.map fun c => D.bl (inL c))] = some (.bl (z.cps.toList.all inL)) := by
    intro S
    unfold fAll boolsL
    simp only [viewL, allB_map]
    congr 2
    rw [List.all_map]
    rfl
  have h1 : ((1 : Int) ≤ (z.length : Int)) = (1 ≤ z.length) := propext (by omega)
  have h2 : ((z.length : Int) ≤ 8) = (z.length ≤ 8) := propext (by omega)
  refine al_eq ?_
  unfold f_is_name m_is_name
  have hc' := hc
  unfold letters at hc'
  simp only [w_c, w_var, w_bin, w_un, w_nil, w_cons, w_fun, w_tup, w_lst, w_dct0, w_call, w_callP, w_if, w_and, w_or, w_not, w_chain, w_bof, w_btru, w_bnot, w_band, w_bor, w_btrue, w_iseq, w_ifun, w_comp, w_onone, w_osome, w_sl, w_lend, w_blend, w_seq, w_snil, w_set, w_own, w_ret, w_retn, w_retv, w_exp, w_sif, w_asg, w_sfor, w_brk, w_cont, w_par2, w_par3, w_app, w_def, lent, al_ok, al_stuck, va_add, va_addI, va_sub, va_neg, va_lt, va_le, va_gt, va_ge, va_eqS, va_neS, va_eqI, va_neI, va_ixL, va_ixT, va_lenL, va_lenT, va_max, va_min, va_abs, va_asB, va_truB, va_itL, va_itT, va_itS, va_tupL, va_tupT, va_inS, va_notInS, va_isN, va_some_bl, List.getElem?_cons_zero, List.getElem?_cons_succ, List.set_cons_zero, List.set_cons_succ, List.map_cons, List.map_nil, List.length_cons, List.length_nil, List.replicate, List.cons_append, List.nil_append, List.append_nil, Nat.reduceSub, Nat.reduceAdd, Nat.sub_self, Nat.zero_add, sizeLine_eq, Nat.reduceLeDiff, pick, List.filterMap_cons, List.filterMap_nil, Option.some.injEq, exists_eq_left', exists_eq_left, exists_const, true_and, and_true, Bool.not_true, Bool.not_false, if_true, if_false, reduceIte, Bool.false_eq_true, eq_self, D.int.injEq, isi, va_lenS hz, wipeR, hc', al, h1, h2]
  unfold nameS
  by_cases h1 : 1 ≤ z.length
  · by_cases h2 : z.length ≤ 8
    · simp [h1, h2]
    · simp [h1, h2]
  · simp [h1]
def nameD : D → Bool
  | .str z => nameS z
  | _ => false
/-- no thing of the store, no class, no def; texts of no great length -/
def Pl : D → Prop
  | .str z => z.length ≤ sizeLine
  | .ref _ => False
  | .ty _ => False
  | .fn _ => False
  | _ => True
theorem name_eq {d : D} (h : Pl d) : f_is_name [d] S = .ok (.bl (nameD d)) S := by
  cases d <;> first
    | exact h.elim
    | exact name_str h
    | rfl
def intD : D → Bool
  | .int _ => true
  | _ => false
theorem integer_eq {d : D} (h : Pl d) : f_is_integer [d] S = .ok (.bl (intD d)) S := by
  cases d <;> first
    | exact h.elim
    | rfl
theorem integer8_eq {d : D} (h : Pl d) : f_is_integer_8 [d] S = .ok (.bl (intD d)) S := by
  cases d <;> first
    | exact h.elim
    | rfl
def valD : D → Bool
  | .int i => decide (-(10 ^ 18) ≤ i) && decide (i ≤ 10 ^ 18)
  | _ => false
theorem value_eq {d : D} (h : Pl d) : f_is_value [d] S = .ok (.bl (valD d)) S := by
  refine al_eq ?_
  unfold f_is_value m_is_value
  simp only [w_c, w_var, w_bin, w_un, w_nil, w_cons, w_fun, w_tup, w_lst, w_dct0, w_call, w_callP, w_if, w_and, w_or, w_not, w_chain, w_bof, w_btru, w_bnot, w_band, w_bor, w_btrue, w_iseq, w_ifun, w_comp, w_onone, w_osome, w_sl, w_lend, w_blend, w_seq, w_snil, w_set, w_own, w_ret, w_retn, w_retv, w_exp, w_sif, w_asg, w_sfor, w_brk, w_cont, w_par2, w_par3, w_app, w_def, lent, al_ok, al_stuck, va_add, va_addI, va_sub, va_neg, va_lt, va_le, va_gt, va_ge, va_eqS, va_neS, va_eqI, va_neI, va_ixL, va_ixT, va_lenL, va_lenT, va_max, va_min, va_abs, va_asB, va_truB, va_itL, va_itT, va_itS, va_tupL, va_tupT, va_inS, va_notInS, va_isN, va_some_bl, List.getElem?_cons_zero, List.getElem?_cons_succ, List.set_cons_zero, List.set_cons_succ, List.map_cons, List.map_nil, List.length_cons, List.length_nil, List.replicate, List.cons_append, List.nil_append, List.append_nil, Nat.reduceSub, Nat.reduceAdd, Nat.sub_self, Nat.zero_add, sizeLine_eq, Nat.reduceLeDiff, pick, List.filterMap_cons, List.filterMap_nil, Option.some.injEq, exists_eq_left', exists_eq_left, exists_const, true_and, and_true, Bool.not_true, Bool.not_false, if_true, if_false, reduceIte, Bool.false_eq_true, eq_self, D.int.injEq, integer8_eq h]
  cases d with
  | int i =>
    simp only [w_c, w_var, w_bin, w_un, w_nil, w_cons, w_fun, w_tup, w_lst, w_dct0, w_call, w_callP, w_if, w_and, w_or, w_not, w_chain, w_bof, w_btru, w_bnot, w_band, w_bor, w_btrue, w_iseq, w_ifun, w_comp, w_onone, w_osome, w_sl, w_lend, w_blend, w_seq, w_snil, w_set, w_own, w_ret, w_retn, w_retv, w_exp, w_sif, w_asg, w_sfor, w_brk, w_cont, w_par2, w_par3, w_app, w_def, lent, al_ok, al_stuck, va_add, va_addI, va_sub, va_neg, va_lt, va_le, va_gt, va_ge, va_eqS, va_neS, va_eqI, va_neI, va_ixL, va_ixT, va_lenL, va_lenT, va_max, va_min, va_abs, va_asB, va_truB, va_itL, va_itT, va_itS, va_tupL, va_tupT, va_inS, va_notInS, va_isN, va_some_bl, List.getElem?_cons_zero, List.getElem?_cons_succ, List.set_cons_zero, List.set_cons_succ, List.map_cons, List.map_nil, List.length_cons, List.length_nil, List.replicate, List.cons_append, List.nil_append, List.append_nil, Nat.reduceSub, Nat.reduceAdd, Nat.sub_self, Nat.zero_add, sizeLine_eq, Nat.reduceLeDiff, pick, List.filterMap_cons, List.filterMap_nil, Option.some.injEq, exists_eq_left', exists_eq_left, exists_const, true_and, and_true, Bool.not_true, Bool.not_false, if_true, if_false, reduceIte, Bool.false_eq_true, eq_self, D.int.injEq, intD]
    unfold valD
    by_cases h : -(10 ^ 18) ≤ i
    · have h' : -1000000000000000000 ≤ i := by omega
      simp [h, h']
    · have h' : ¬ -1000000000000000000 ≤ i := by omega
      simp [h, h']
  | _ => simp [intD, valD]
def fitsD (c : Str) (d : D) : Bool := if c = "b" then nameD d else if c = "v" then valD d else match d with
  | .int i => if c = "n" then decide (0 ≤ i) else !(i == 0)
  | _ => false
theorem fits_eq {c : Str} {d : D} (h : Pl d) : f_fits [.str c, d] S = .ok (.bl (fitsD c d)) S := by
  refine al_eq ?_
  unfold f_fits m_fits
  simp only [w_c, w_var, w_bin, w_un, w_nil, w_cons, w_fun, w_tup, w_lst, w_dct0, w_call, w_callP, w_if, w_and, w_or, w_not, w_chain, w_bof, w_btru, w_bnot, w_band, w_bor, w_btrue, w_iseq, w_ifun, w_comp, w_onone, w_osome, w_sl, w_lend, w_blend, w_seq, w_snil, w_set, w_own, w_ret, w_retn, w_retv, w_exp, w_sif, w_asg, w_sfor, w_brk, w_cont, w_par2, w_par3, w_app, w_def, lent, al_ok, al_stuck, va_add, va_addI, va_sub, va_neg, va_lt, va_le, va_gt, va_ge, va_eqS, va_neS, va_eqI, va_neI, va_ixL, va_ixT, va_lenL, va_lenT, va_max, va_min, va_abs, va_asB, va_truB, va_itL, va_itT, va_itS, va_tupL, va_tupT, va_inS, va_notInS, va_isN, va_some_bl, List.getElem?_cons_zero, List.getElem?_cons_succ, List.set_cons_zero, List.set_cons_succ, List.map_cons, List.map_nil, List.length_cons, List.length_nil, List.replicate, List.cons_append, List.nil_append, List.append_nil, Nat.reduceSub, Nat.reduceAdd, Nat.sub_self, Nat.zero_add, sizeLine_eq, Nat.reduceLeDiff, pick, List.filterMap_cons, List.filterMap_nil, Option.some.injEq, exists_eq_left', exists_eq_left, exists_const, true_and, and_true, Bool.not_true, Bool.not_false, if_true, if_false, reduceIte, Bool.false_eq_true, eq_self, D.int.injEq, name_eq h, value_eq h, integer_eq h, beq_iff_eq]
  unfold fitsD
  split
  · rfl
  · split
    · rfl
    · cases d with
      | int i =>
        simp only [w_c, w_var, w_bin, w_un, w_nil, w_cons, w_fun, w_tup, w_lst, w_dct0, w_call, w_callP, w_if, w_and, w_or, w_not, w_chain, w_bof, w_btru, w_bnot, w_band, w_bor, w_btrue, w_iseq, w_ifun, w_comp, w_onone, w_osome, w_sl, w_lend, w_blend, w_seq, w_snil, w_set, w_own, w_ret, w_retn, w_retv, w_exp, w_sif, w_asg, w_sfor, w_brk, w_cont, w_par2, w_par3, w_app, w_def, lent, al_ok, al_stuck, va_add, va_addI, va_sub, va_neg, va_lt, va_le, va_gt, va_ge, va_eqS, va_neS, va_eqI, va_neI, va_ixL, va_ixT, va_lenL, va_lenT, va_max, va_min, va_abs, va_asB, va_truB, va_itL, va_itT, va_itS, va_tupL, va_tupT, va_inS, va_notInS, va_isN, va_some_bl, List.getElem?_cons_zero, List.getElem?_cons_succ, List.set_cons_zero, List.set_cons_succ, List.map_cons, List.map_nil, List.length_cons, List.length_nil, List.replicate, List.cons_append, List.nil_append, List.append_nil, Nat.reduceSub, Nat.reduceAdd, Nat.sub_self, Nat.zero_add, sizeLine_eq, Nat.reduceLeDiff, pick, List.filterMap_cons, List.filterMap_nil, Option.some.injEq, exists_eq_left', exists_eq_left, exists_const, true_and, and_true, Bool.not_true, Bool.not_false, if_true, if_false, reduceIte, Bool.false_eq_true, eq_self, D.int.injEq, intD]
        split
        · simp
        · simp
      | _ => simp [intD]
/-- the judge of the items behind the word -/
def partsD (f : Str) (ps : List D) : Bool := decide (ps.length = f.length) && (f.cps.toList.zip ps).all fun p => fitsD ⟨#[p.1]⟩ p.2
def rowT (xs : List D) : Bool := match xs with
  | .str w :: ps => match tab_FORMS.lookup w with
    | some (.str f) => partsD f ps
    | _ => false
  | _ => false
def rowD : D → Bool
  | .tup xs => rowT xs
  | _ => false
theorem forms_str : ∀ {w : Str} {d : D}, tab_FORMS.lookup w = some d → ∃ f : Str, d = .str f ∧ f.length ≤ 2 := by
  intro w d h
  have : ∀ p ∈ tab_FORMS, ∃ f : Str, p.2 = .str f ∧ f.length ≤ 2 := by
    intro p hp
    simp only [tab_FORMS, List.mem_cons, List.not_mem_nil, or_false] at hp
    rcases hp with rfl | rfl | rfl | rfl | rfl | rfl | rfl <;> exact ⟨_, rfl, by decide +kernel⟩
  have look : ∀ l : List (Str × D), l.lookup w = some d → (w, d) ∈ l := by
    intro l
    induction l with
    | nil => intro h; cases h
    | cons p l ih =>
      intro h
      obtain ⟨a, b⟩ := p
      rw [List.lookup_cons] at h
      cases e : w == a with
      | true =>
        rw [e] at h
        cases h
        rw [beq_iff_eq.mp e]
        exact List.mem_cons_self
      | false => rw [e] at h; exact List.mem_cons_of_mem _ (ih h)
  exact this _ (look _ h)
theorem va_eqNil {xs : List D} : dEq S (.tup xs) (.tup []) = some (.bl xs.isEmpty) := rfl
theorem all_zip {f : Str} {ps : List D} (hp : ∀ d ∈ ps, Pl d) (hl : f.length ≤ sizeLine) (a b c : Sl) : compL [3, 4] (gUnp (gsCons (gSet 3) (gsCons (gSet 4) gsNil))) bTrue (mCall f_fits [0, 1] (aCons (mVar 3) (aCons (mVar 4) aNil)) aNil) [a, b, c, .un, .un] (((strItems f).zip ps).map fun p => .tup [p.1, p.2]) [] S =
    .ok ((f.cps.toList.zip ps).map fun p => .bl (fitsD ⟨#[p.1]⟩ p.2)) S := by
  have h := comp_pure (vs := [3, 4]) (g := gUnp (gsCons (gSet 3) (gsCons (gSet 4) gsNil))) (t := bTrue) (e := mCall f_fits [0, 1] (aCons (mVar 3) (aCons (mVar 4) aNil)) aNil) (ρ := [a, b, c, .un, .un]) (S := S) (p := fun _ => true)
    (f := fun d => match d with | .tup [.str x, y] => .bl (fitsD x y) | _ => d) (((strItems f).zip ps).map fun p => .tup [p.1, p.2]) [] (by
    intro d hd
    obtain ⟨⟨x, y⟩, hm, rfl⟩ := List.mem_map.mp hd
    obtain ⟨m1, m2⟩ := List.of_mem_zip hm
    obtain ⟨ch, hch, rfl⟩ := List.mem_map.mp m1
    refine ⟨_, rfl, rfl, fun _ => ?_⟩
    simp only [mCall, aCons, mVar, aNil, List.set_cons_succ, List.set_cons_zero, List.getElem?_cons_succ, List.getElem?_cons_zero, R.bind, pick, List.filterMap_cons, List.filterMap_nil, List.append_nil, fits_eq (hp y m2)]) (by
      rw [List.length_map, List.length_zip, items_len, List.length_nil]; omega)
  rw [h]
  simp only [List.nil_append]
  congr 1
  rw [List.filter_eq_self.mpr (fun _ _ => rfl), List.map_map]
  unfold strItems
  rw [List.zip_map_left, List.map_map]
  rfl
theorem fAll_map {l : List α} (q : α → Bool) : fAll S [.lst (l.map fun c => D.bl (q c))] = some (.bl (l.all q)) := by
  have : ∀ l : List α, Mi.allB (l.map fun c => D.bl (q c)) = some (l.map q) := by
    intro l
    induction l with
    | nil => rfl
    | cons c l ih => simp only [List.map_cons, Mi.allB, ih]
  unfold fAll boolsL
  simp only [viewL, this]
  congr 2
  rw [List.all_map]
  rfl
theorem isi_str {d : D} (h : Pl d) : fIsi S [d, .ty "str"] = some (.bl (match d with | .str _ => true | _ => false)) := by
  cases d <;> first
    | exact h.elim
    | rfl
theorem isi_tup {d : D} (h : Pl d) : fIsi S [d, .ty "tuple"] = some (.bl (match d with | .tup _ => true | _ => false)) := by
  cases d <;> first
    | exact h.elim
    | rfl
theorem row_tup {xs : List D} (hp : ∀ d ∈ xs, Pl d) : f_is_row [.tup xs] S = .ok (.bl (rowT xs)) S := by
  refine al_eq ?_
  unfold f_is_row m_is_row
  simp only [w_c, w_var, w_bin, w_un, w_nil, w_cons, w_fun, w_tup, w_lst, w_dct0, w_call, w_callP, w_if, w_and, w_or, w_not, w_chain, w_bof, w_btru, w_bnot, w_band, w_bor, w_btrue, w_iseq, w_ifun, w_comp, w_onone, w_osome, w_sl, w_lend, w_blend, w_seq, w_snil, w_set, w_own, w_ret, w_retn, w_retv, w_exp, w_sif, w_asg, w_sfor, w_brk, w_cont, w_par2, w_par3, w_app, w_def, lent, al_ok, al_stuck, va_add, va_addI, va_sub, va_neg, va_lt, va_le, va_gt, va_ge, va_eqS, va_neS, va_eqI, va_neI, va_ixL, va_ixT, va_lenL, va_lenT, va_max, va_min, va_abs, va_asB, va_truB, va_itL, va_itT, va_itS, va_tupL, va_tupT, va_inS, va_notInS, va_isN, va_some_bl, List.getElem?_cons_zero, List.getElem?_cons_succ, List.set_cons_zero, List.set_cons_succ, List.map_cons, List.map_nil, List.length_cons, List.length_nil, List.replicate, List.cons_append, List.nil_append, List.append_nil, Nat.reduceSub, Nat.reduceAdd, Nat.sub_self, Nat.zero_add, sizeLine_eq, Nat.reduceLeDiff, pick, List.filterMap_cons, List.filterMap_nil, Option.some.injEq, exists_eq_left', exists_eq_left, exists_const, true_and, and_true, Bool.not_true, Bool.not_false, if_true, if_false, reduceIte, Bool.false_eq_true, eq_self, D.int.injEq, isi_tup (d := .tup xs) trivial, va_eqNil]
  cases xs with
  | nil => rfl
  | cons x ps =>
    have hx := hp x List.mem_cons_self
    simp only [w_c, w_var, w_bin, w_un, w_nil, w_cons, w_fun, w_tup, w_lst, w_dct0, w_call, w_callP, w_if, w_and, w_or, w_not, w_chain, w_bof, w_btru, w_bnot, w_band, w_bor, w_btrue, w_iseq, w_ifun, w_comp, w_onone, w_osome, w_sl, w_lend, w_blend, w_seq, w_snil, w_set, w_own, w_ret, w_retn, w_retv, w_exp, w_sif, w_asg, w_sfor, w_brk, w_cont, w_par2, w_par3, w_app, w_def, lent, al_ok, al_stuck, va_add, va_addI, va_sub, va_neg, va_lt, va_le, va_gt, va_ge, va_eqS, va_neS, va_eqI, va_neI, va_ixL, va_ixT, va_lenL, va_lenT, va_max, va_min, va_abs, va_asB, va_truB, va_itL, va_itT, va_itS, va_tupL, va_tupT, va_inS, va_notInS, va_isN, va_some_bl, List.getElem?_cons_zero, List.getElem?_cons_succ, List.set_cons_zero, List.set_cons_succ, List.map_cons, List.map_nil, List.length_cons, List.length_nil, List.replicate, List.cons_append, List.nil_append, List.append_nil, Nat.reduceSub, Nat.reduceAdd, Nat.sub_self, Nat.zero_add, sizeLine_eq, Nat.reduceLeDiff, pick, List.filterMap_cons, List.filterMap_nil, Option.some.injEq, exists_eq_left', exists_eq_left, exists_const, true_and, and_true, Bool.not_true, Bool.not_false, if_true, if_false, reduceIte, Bool.false_eq_true, eq_self, D.int.injEq, List.isEmpty_cons, at0, isi_str hx]
    cases x with
    | str w =>
      have hlk : ∀ S, dTabOut tab_FORMS S (.str w) = some (.bl (!(tab_FORMS.lookup w).isSome)) := fun _ => rfl
      have hl2 : ∀ S, dTab tab_FORMS S (.str w) = tab_FORMS.lookup w := fun _ => rfl
      simp only [w_c, w_var, w_bin, w_un, w_nil, w_cons, w_fun, w_tup, w_lst, w_dct0, w_call, w_callP, w_if, w_and, w_or, w_not, w_chain, w_bof, w_btru, w_bnot, w_band, w_bor, w_btrue, w_iseq, w_ifun, w_comp, w_onone, w_osome, w_sl, w_lend, w_blend, w_seq, w_snil, w_set, w_own, w_ret, w_retn, w_retv, w_exp, w_sif, w_asg, w_sfor, w_brk, w_cont, w_par2, w_par3, w_app, w_def, lent, al_ok, al_stuck, va_add, va_addI, va_sub, va_neg, va_lt, va_le, va_gt, va_ge, va_eqS, va_neS, va_eqI, va_neI, va_ixL, va_ixT, va_lenL, va_lenT, va_max, va_min, va_abs, va_asB, va_truB, va_itL, va_itT, va_itS, va_tupL, va_tupT, va_inS, va_notInS, va_isN, va_some_bl, List.getElem?_cons_zero, List.getElem?_cons_succ, List.set_cons_zero, List.set_cons_succ, List.map_cons, List.map_nil, List.length_cons, List.length_nil, List.replicate, List.cons_append, List.nil_append, List.append_nil, Nat.reduceSub, Nat.reduceAdd, Nat.sub_self, Nat.zero_add, sizeLine_eq, Nat.reduceLeDiff, pick, List.filterMap_cons, List.filterMap_nil, Option.some.injEq, exists_eq_left', exists_eq_left, exists_const, true_and, and_true, Bool.not_true, Bool.not_false, if_true, if_false, reduceIte, Bool.false_eq_true, eq_self, D.int.injEq, w_un, hlk, hl2]
      unfold rowT
      cases e : tab_FORMS.lookup w with
      | none => simp [e]
      | some d =>
        obtain ⟨f, rfl, hf⟩ := forms_str e
        have hfl : f.length ≤ sizeLine := by rw [sizeLine_eq]; omega
        have g : ∀ S, gUnpS 1 (gsCons (gSet 1) (gsCons (gSet 2) gsNil)) (.tup (.str w :: ps)) [.sh (.tup (.str w :: ps)), .un, .un, .un, .un] S = some ([.sh (.tup (.str w :: ps)), .sh (.str w), .sh (.lst ps), .un, .un], S) := fun _ => by
          unfold gUnpS
          simp only [viewT]
          rw [if_pos (by simp)]
          rfl
        have hz : zipD [.str f, .lst ps] = some (((strItems f).zip ps).map fun p => .tup [p.1, p.2]) := rfl
        have hpp : ∀ d ∈ ps, Pl d := fun d hd => hp d (List.mem_cons_of_mem _ hd)
        simp only [Option.isSome_some, Bool.not_true, Bool.false_eq_true, if_false]
        rw [g S]
        simp only [w_c, w_var, w_bin, w_un, w_nil, w_cons, w_fun, w_tup, w_lst, w_dct0, w_call, w_callP, w_if, w_and, w_or, w_not, w_chain, w_bof, w_btru, w_bnot, w_band, w_bor, w_btrue, w_iseq, w_ifun, w_comp, w_onone, w_osome, w_sl, w_lend, w_blend, w_seq, w_snil, w_set, w_own, w_ret, w_retn, w_retv, w_exp, w_sif, w_asg, w_sfor, w_brk, w_cont, w_par2, w_par3, w_app, w_def, lent, al_ok, al_stuck, va_add, va_addI, va_sub, va_neg, va_lt, va_le, va_gt, va_ge, va_eqS, va_neS, va_eqI, va_neI, va_ixL, va_ixT, va_lenL, va_lenT, va_max, va_min, va_abs, va_asB, va_truB, va_itL, va_itT, va_itS, va_tupL, va_tupT, va_inS, va_notInS, va_isN, va_some_bl, List.getElem?_cons_zero, List.getElem?_cons_succ, List.set_cons_zero, List.set_cons_succ, List.map_cons, List.map_nil, List.length_cons, List.length_nil, List.replicate, List.cons_append, List.nil_append, List.append_nil, Nat.reduceSub, Nat.reduceAdd, Nat.sub_self, Nat.zero_add, sizeLine_eq, Nat.reduceLeDiff, pick, List.filterMap_cons, List.filterMap_nil, Option.some.injEq, exists_eq_left', exists_eq_left, exists_const, true_and, and_true, Bool.not_true, Bool.not_false, if_true, if_false, reduceIte, Bool.false_eq_true, eq_self, D.int.injEq, hl2, va_lenS hfl, e, hz, wipeR, all_zip hpp hfl, fAll_map]
        unfold partsD
        by_cases hl : ps.length = f.length
        · simp [hl]
        · have : ¬ ((ps.length : Int) = (f.length : Int)) := by omega
          simp [hl, this]
    | _ => simp [rowT]
theorem row_other {d : D} (h : Pl d) (hd : ∀ xs, d ≠ .tup xs) : f_is_row [d] S = .ok (.bl false) S := by
  cases d <;> first
    | exact h.elim
    | exact absurd rfl (hd _)
    | rfl
end
end Rc

/-! Rc4: what a row uses; summaries. -/
namespace Rc
open PySem PySem.Spec PyProof.Rows L2 Mi
theorem ws_steps_steps : (("steps" : Str) == "steps") = true := by decide +kernel
theorem ws_steps_step : (("steps" : Str) == "step") = false := by decide +kernel
theorem ws_steps_use : (("steps" : Str) == "use") = false := by decide +kernel
theorem ws_steps_back : (("steps" : Str) == "back") = false := by decide +kernel
theorem ws_steps_give : (("steps" : Str) == "give") = false := by decide +kernel
theorem ws_steps_out : (("steps" : Str) == "out") = false := by decide +kernel
theorem ws_steps_put : (("steps" : Str) == "put") = false := by decide +kernel
theorem ws_steps_caught : (("steps" : Str) == "caught") = false := by decide +kernel
theorem ws_steps_keep : (("steps" : Str) == "keep") = false := by decide +kernel
theorem ws_steps_restore : (("steps" : Str) == "restore") = false := by decide +kernel
theorem ws_step_steps : (("step" : Str) == "steps") = false := by decide +kernel
theorem ws_step_step : (("step" : Str) == "step") = true := by decide +kernel
theorem ws_step_use : (("step" : Str) == "use") = false := by decide +kernel
theorem ws_step_back : (("step" : Str) == "back") = false := by decide +kernel
theorem ws_step_give : (("step" : Str) == "give") = false := by decide +kernel
theorem ws_step_out : (("step" : Str) == "out") = false := by decide +kernel
theorem ws_step_put : (("step" : Str) == "put") = false := by decide +kernel
theorem ws_step_caught : (("step" : Str) == "caught") = false := by decide +kernel
theorem ws_step_keep : (("step" : Str) == "keep") = false := by decide +kernel
theorem ws_step_restore : (("step" : Str) == "restore") = false := by decide +kernel
theorem ws_use_steps : (("use" : Str) == "steps") = false := by decide +kernel
theorem ws_use_step : (("use" : Str) == "step") = false := by decide +kernel
theorem ws_use_use : (("use" : Str) == "use") = true := by decide +kernel
theorem ws_use_back : (("use" : Str) == "back") = false := by decide +kernel
theorem ws_use_give : (("use" : Str) == "give") = false := by decide +kernel
theorem ws_use_out : (("use" : Str) == "out") = false := by decide +kernel
theorem ws_use_put : (("use" : Str) == "put") = false := by decide +kernel
theorem ws_use_caught : (("use" : Str) == "caught") = false := by decide +kernel
theorem ws_use_keep : (("use" : Str) == "keep") = false := by decide +kernel
theorem ws_use_restore : (("use" : Str) == "restore") = false := by decide +kernel
theorem ws_back_steps : (("back" : Str) == "steps") = false := by decide +kernel
theorem ws_back_step : (("back" : Str) == "step") = false := by decide +kernel
theorem ws_back_use : (("back" : Str) == "use") = false := by decide +kernel
theorem ws_back_back : (("back" : Str) == "back") = true := by decide +kernel
theorem ws_back_give : (("back" : Str) == "give") = false := by decide +kernel
theorem ws_back_out : (("back" : Str) == "out") = false := by decide +kernel
theorem ws_back_put : (("back" : Str) == "put") = false := by decide +kernel
theorem ws_back_caught : (("back" : Str) == "caught") = false := by decide +kernel
theorem ws_back_keep : (("back" : Str) == "keep") = false := by decide +kernel
theorem ws_back_restore : (("back" : Str) == "restore") = false := by decide +kernel
theorem ws_give_steps : (("give" : Str) == "steps") = false := by decide +kernel
theorem ws_give_step : (("give" : Str) == "step") = false := by decide +kernel
theorem ws_give_use : (("give" : Str) == "use") = false := by decide +kernel
theorem ws_give_back : (("give" : Str) == "back") = false := by decide +kernel
theorem ws_give_give : (("give" : Str) == "give") = true := by decide +kernel
theorem ws_give_out : (("give" : Str) == "out") = false := by decide +kernel
theorem ws_give_put : (("give" : Str) == "put") = false := by decide +kernel
theorem ws_give_caught : (("give" : Str) == "caught") = false := by decide +kernel
theorem ws_give_keep : (("give" : Str) == "keep") = false := by decide +kernel
theorem ws_give_restore : (("give" : Str) == "restore") = false := by decide +kernel
theorem ws_out_steps : (("out" : Str) == "steps") = false := by decide +kernel
theorem ws_out_step : (("out" : Str) == "step") = false := by decide +kernel
theorem ws_out_use : (("out" : Str) == "use") = false := by decide +kernel
theorem ws_out_back : (("out" : Str) == "back") = false := by decide +kernel
theorem ws_out_give : (("out" : Str) == "give") = false := by decide +kernel
theorem ws_out_out : (("out" : Str) == "out") = true := by decide +kernel
theorem ws_out_put : (("out" : Str) == "put") = false := by decide +kernel
theorem ws_out_caught : (("out" : Str) == "caught") = false := by decide +kernel
theorem ws_out_keep : (("out" : Str) == "keep") = false := by decide +kernel
theorem ws_out_restore : (("out" : Str) == "restore") = false := by decide +kernel
theorem ws_put_steps : (("put" : Str) == "steps") = false := by decide +kernel
theorem ws_put_step : (("put" : Str) == "step") = false := by decide +kernel
theorem ws_put_use : (("put" : Str) == "use") = false := by decide +kernel
theorem ws_put_back : (("put" : Str) == "back") = false := by decide +kernel
theorem ws_put_give : (("put" : Str) == "give") = false := by decide +kernel
theorem ws_put_out : (("put" : Str) == "out") = false := by decide +kernel
theorem ws_put_put : (("put" : Str) == "put") = true := by decide +kernel
theorem ws_put_caught : (("put" : Str) == "caught") = false := by decide +kernel
theorem ws_put_keep : (("put" : Str) == "keep") = false := by decide +kernel
theorem ws_put_restore : (("put" : Str) == "restore") = false := by decide +kernel
theorem ws_caught_steps : (("caught" : Str) == "steps") = false := by decide +kernel
theorem ws_caught_step : (("caught" : Str) == "step") = false := by decide +kernel
theorem ws_caught_use : (("caught" : Str) == "use") = false := by decide +kernel
theorem ws_caught_back : (("caught" : Str) == "back") = false := by decide +kernel
theorem ws_caught_give : (("caught" : Str) == "give") = false := by decide +kernel
theorem ws_caught_out : (("caught" : Str) == "out") = false := by decide +kernel
theorem ws_caught_put : (("caught" : Str) == "put") = false := by decide +kernel
theorem ws_caught_caught : (("caught" : Str) == "caught") = true := by decide +kernel
theorem ws_caught_keep : (("caught" : Str) == "keep") = false := by decide +kernel
theorem ws_caught_restore : (("caught" : Str) == "restore") = false := by decide +kernel
theorem ws_keep_steps : (("keep" : Str) == "steps") = false := by decide +kernel
theorem ws_keep_step : (("keep" : Str) == "step") = false := by decide +kernel
theorem ws_keep_use : (("keep" : Str) == "use") = false := by decide +kernel
theorem ws_keep_back : (("keep" : Str) == "back") = false := by decide +kernel
theorem ws_keep_give : (("keep" : Str) == "give") = false := by decide +kernel
theorem ws_keep_out : (("keep" : Str) == "out") = false := by decide +kernel
theorem ws_keep_put : (("keep" : Str) == "put") = false := by decide +kernel
theorem ws_keep_caught : (("keep" : Str) == "caught") = false := by decide +kernel
theorem ws_keep_keep : (("keep" : Str) == "keep") = true := by decide +kernel
theorem ws_keep_restore : (("keep" : Str) == "restore") = false := by decide +kernel
theorem ws_restore_steps : (("restore" : Str) == "steps") = false := by decide +kernel
theorem ws_restore_step : (("restore" : Str) == "step") = false := by decide +kernel
theorem ws_restore_use : (("restore" : Str) == "use") = false := by decide +kernel
theorem ws_restore_back : (("restore" : Str) == "back") = false := by decide +kernel
theorem ws_restore_give : (("restore" : Str) == "give") = false := by decide +kernel
theorem ws_restore_out : (("restore" : Str) == "out") = false := by decide +kernel
theorem ws_restore_put : (("restore" : Str) == "put") = false := by decide +kernel
theorem ws_restore_caught : (("restore" : Str) == "caught") = false := by decide +kernel
theorem ws_restore_keep : (("restore" : Str) == "keep") = false := by decide +kernel
theorem ws_restore_restore : (("restore" : Str) == "restore") = true := by decide +kernel
section
variable {S : Store}
theorem va_in3 {x a b c : Str} (hx : ∀ c ∈ x.cps.toList, c < 0x110000) (ha : ∀ c ∈ a.cps.toList, c < 0x110000) (hb : ∀ c ∈ b.cps.toList, c < 0x110000) (hc : ∀ e ∈ c.cps.toList, e < 0x110000) : dIn S (.str x) (.tup [.str a, .str b, .str c]) = some (.bl (a == x || (b == x || (c == x || false)))) := by
  have := va_inT (S := S) (x := x) (ys := [a, b, c]) hx (by intro y hy; simp only [List.mem_cons, List.not_mem_nil, or_false] at hy; rcases hy with rfl | rfl | rfl <;> assumption)
  simpa only [List.map_cons, List.map_nil, List.any_cons, List.any_nil] using this
theorem w_ok {x : Str} (h : x ∈ (["steps", "step", "use", "back", "give", "out", "put", "caught"] : List Str)) : ∀ c ∈ x.cps.toList, c < 0x110000 := by
  have : ∀ x ∈ (["steps", "step", "use", "back", "give", "out", "put", "caught"] : List Str), ∀ c ∈ x.cps.toList, c < 0x110000 := by decide +kernel
  exact this x h
theorem in_suo {x : Str} (h : x ∈ (["steps", "step", "use", "back", "give", "out", "put", "caught"] : List Str)) : dIn S (.str x) (.tup [.str "step", .str "use", .str "out"]) = some (.bl (("step" : Str) == x || ("use" == x || ("out" == x || false)))) :=
  va_in3 (w_ok h) (w_ok (by simp)) (w_ok (by simp)) (w_ok (by simp))
theorem in_bg {x : Str} (h : x ∈ (["steps", "step", "use", "back", "give", "out", "put", "caught"] : List Str)) : dIn S (.str x) (.tup [.str "back", .str "give"]) = some (.bl (("back" : Str) == x || ("give" == x || false))) :=
  va_inT2 (w_ok h) (w_ok (by simp)) (w_ok (by simp))
def ifS (b : Str) : Int := if b = "steps" then 1 else 0
def used : Row → Str → Int
  | .step, b => ifS b
  | .use c n, b => ifS b + if c = b then n else 0
  | .back c n, b => - if c = b then n else 0
  | .give c n, b => - if c = b then n else 0
  | .out _, b => ifS b
  | .put _, _ => 0
  | .caught _, _ => 0
theorem used_eq {r : Row} {b : Str} : f_used_by [r.d, .str b] S = .ok (.int (used r b)) S := by
  refine al_eq ?_
  unfold f_used_by m_used_by
  by_cases hb : b = "steps"
  · subst hb
    cases r <;> (simp only [w_c, w_var, w_bin, w_un, w_nil, w_cons, w_fun, w_tup, w_lst, w_dct0, w_call, w_callP, w_if, w_and, w_or, w_not, w_chain, w_bof, w_btru, w_bnot, w_band, w_bor, w_btrue, w_iseq, w_ifun, w_comp, w_onone, w_osome, w_sl, w_lend, w_blend, w_seq, w_snil, w_set, w_own, w_ret, w_retn, w_retv, w_exp, w_sif, w_asg, w_sfor, w_brk, w_cont, w_par2, w_par3, w_app, w_def, lent, al_ok, al_stuck, va_add, va_addI, va_sub, va_neg, va_lt, va_le, va_gt, va_ge, va_eqS, va_neS, va_eqI, va_neI, va_ixL, va_ixT, va_lenL, va_lenT, va_max, va_min, va_abs, va_asB, va_truB, va_itL, va_itT, va_itS, va_tupL, va_tupT, va_inS, va_notInS, va_isN, va_some_bl, List.getElem?_cons_zero, List.getElem?_cons_succ, List.set_cons_zero, List.set_cons_succ, List.map_cons, List.map_nil, List.length_cons, List.length_nil, List.replicate, List.cons_append, List.nil_append, List.append_nil, Nat.reduceSub, Nat.reduceAdd, Nat.sub_self, Nat.zero_add, sizeLine_eq, Nat.reduceLeDiff, pick, List.filterMap_cons, List.filterMap_nil, Option.some.injEq, exists_eq_left', exists_eq_left, exists_const, true_and, and_true, Bool.not_true, Bool.not_false, if_true, if_false, reduceIte, Bool.false_eq_true, eq_self, D.int.injEq, Row.d, at0, at1, at2, in_suo (x := "step") (by simp), in_suo (x := "use") (by simp), in_suo (x := "back") (by simp), in_suo (x := "give") (by simp), in_suo (x := "out") (by simp), in_suo (x := "put") (by simp), in_suo (x := "caught") (by simp), in_bg (x := "step") (by simp), in_bg (x := "use") (by simp), in_bg (x := "back") (by simp), in_bg (x := "give") (by simp), in_bg (x := "out") (by simp), in_bg (x := "put") (by simp), in_bg (x := "caught") (by simp), ws_steps_steps, ws_steps_step, ws_steps_use, ws_steps_back, ws_steps_give, ws_steps_out, ws_steps_put, ws_steps_caught, ws_steps_keep, ws_steps_restore, ws_step_steps, ws_step_step, ws_step_use, ws_step_back, ws_step_give, ws_step_out, ws_step_put, ws_step_caught, ws_step_keep, ws_step_restore, ws_use_steps, ws_use_step, ws_use_use, ws_use_back, ws_use_give, ws_use_out, ws_use_put, ws_use_caught, ws_use_keep, ws_use_restore, ws_back_steps, ws_back_step, ws_back_use, ws_back_back, ws_back_give, ws_back_out, ws_back_put, ws_back_caught, ws_back_keep, ws_back_restore, ws_give_steps, ws_give_step, ws_give_use, ws_give_back, ws_give_give, ws_give_out, ws_give_put, ws_give_caught, ws_give_keep, ws_give_restore, ws_out_steps, ws_out_step, ws_out_use, ws_out_back, ws_out_give, ws_out_out, ws_out_put, ws_out_caught, ws_out_keep, ws_out_restore, ws_put_steps, ws_put_step, ws_put_use, ws_put_back, ws_put_give, ws_put_out, ws_put_put, ws_put_caught, ws_put_keep, ws_put_restore, ws_caught_steps, ws_caught_step, ws_caught_use, ws_caught_back, ws_caught_give, ws_caught_out, ws_caught_put, ws_caught_caught, ws_caught_keep, ws_caught_restore, ws_keep_steps, ws_keep_step, ws_keep_use, ws_keep_back, ws_keep_give, ws_keep_out, ws_keep_put, ws_keep_caught, ws_keep_keep, ws_keep_restore, ws_restore_steps, ws_restore_step, ws_restore_use, ws_restore_back, ws_restore_give, ws_restore_out, ws_restore_put, ws_restore_caught, ws_restore_keep, ws_restore_restore, Bool.or_false, Bool.or_true, Bool.true_or, Bool.false_or, beq_iff_eq, used, ifS])
    all_goals (try split) <;> simp_all <;> omega
  · have hb' : (b == "steps") = false := by simpa using hb
    cases r <;> (simp only [w_c, w_var, w_bin, w_un, w_nil, w_cons, w_fun, w_tup, w_lst, w_dct0, w_call, w_callP, w_if, w_and, w_or, w_not, w_chain, w_bof, w_btru, w_bnot, w_band, w_bor, w_btrue, w_iseq, w_ifun, w_comp, w_onone, w_osome, w_sl, w_lend, w_blend, w_seq, w_snil, w_set, w_own, w_ret, w_retn, w_retv, w_exp, w_sif, w_asg, w_sfor, w_brk, w_cont, w_par2, w_par3, w_app, w_def, lent, al_ok, al_stuck, va_add, va_addI, va_sub, va_neg, va_lt, va_le, va_gt, va_ge, va_eqS, va_neS, va_eqI, va_neI, va_ixL, va_ixT, va_lenL, va_lenT, va_max, va_min, va_abs, va_asB, va_truB, va_itL, va_itT, va_itS, va_tupL, va_tupT, va_inS, va_notInS, va_isN, va_some_bl, List.getElem?_cons_zero, List.getElem?_cons_succ, List.set_cons_zero, List.set_cons_succ, List.map_cons, List.map_nil, List.length_cons, List.length_nil, List.replicate, List.cons_append, List.nil_append, List.append_nil, Nat.reduceSub, Nat.reduceAdd, Nat.sub_self, Nat.zero_add, sizeLine_eq, Nat.reduceLeDiff, pick, List.filterMap_cons, List.filterMap_nil, Option.some.injEq, exists_eq_left', exists_eq_left, exists_const, true_and, and_true, Bool.not_true, Bool.not_false, if_true, if_false, reduceIte, Bool.false_eq_true, eq_self, D.int.injEq, Row.d, hb', at0, at1, at2, in_bg (x := "step") (by simp), in_bg (x := "use") (by simp), in_bg (x := "back") (by simp), in_bg (x := "give") (by simp), in_bg (x := "out") (by simp), in_bg (x := "put") (by simp), in_bg (x := "caught") (by simp), ws_steps_steps, ws_steps_step, ws_steps_use, ws_steps_back, ws_steps_give, ws_steps_out, ws_steps_put, ws_steps_caught, ws_steps_keep, ws_steps_restore, ws_step_steps, ws_step_step, ws_step_use, ws_step_back, ws_step_give, ws_step_out, ws_step_put, ws_step_caught, ws_step_keep, ws_step_restore, ws_use_steps, ws_use_step, ws_use_use, ws_use_back, ws_use_give, ws_use_out, ws_use_put, ws_use_caught, ws_use_keep, ws_use_restore, ws_back_steps, ws_back_step, ws_back_use, ws_back_back, ws_back_give, ws_back_out, ws_back_put, ws_back_caught, ws_back_keep, ws_back_restore, ws_give_steps, ws_give_step, ws_give_use, ws_give_back, ws_give_give, ws_give_out, ws_give_put, ws_give_caught, ws_give_keep, ws_give_restore, ws_out_steps, ws_out_step, ws_out_use, ws_out_back, ws_out_give, ws_out_out, ws_out_put, ws_out_caught, ws_out_keep, ws_out_restore, ws_put_steps, ws_put_step, ws_put_use, ws_put_back, ws_put_give, ws_put_out, ws_put_put, ws_put_caught, ws_put_keep, ws_put_restore, ws_caught_steps, ws_caught_step, ws_caught_use, ws_caught_back, ws_caught_give, ws_caught_out, ws_caught_put, ws_caught_caught, ws_caught_keep, ws_caught_restore, ws_keep_steps, ws_keep_step, ws_keep_use, ws_keep_back, ws_keep_give, ws_keep_out, ws_keep_put, ws_keep_caught, ws_keep_keep, ws_keep_restore, ws_restore_steps, ws_restore_step, ws_restore_use, ws_restore_back, ws_restore_give, ws_restore_out, ws_restore_put, ws_restore_caught, ws_restore_keep, ws_restore_restore, Bool.or_false, Bool.or_true, Bool.true_or, Bool.false_or, beq_iff_eq, used, ifS, hb])
    all_goals (try split) <;> simp_all <;> omega
end
end Rc

/-! Rc5: summaries. -/
namespace Rc
open PySem PySem.Spec PyProof.Rows L2 Mi
abbrev Sm := Int × Int
def Sm.d (p : Sm) : D := .tup [.int p.1, .int p.2]
def jn (p q : Sm) : Sm := (max p.1 (p.2 + q.1), p.2 + q.2)
def V (p : Sm) : Prop := 0 ≤ p.1 ∧ p.2 ≤ p.1
def suF (b : Str) (p : Sm) (r : Row) : Sm := (max p.1 (p.2 + used r b), p.2 + used r b)
def su (b : Str) (rs : List Row) : Sm := rs.foldl (suF b) (0, 0)
theorem jn_assoc (x y z : Sm) : jn (jn x y) z = jn x (jn y z) := by
  unfold jn
  ext <;> simp <;> omega
theorem jn_0 {x : Sm} (h : V x) : jn (0, 0) x = x := by
  obtain ⟨h1, h2⟩ := h
  unfold jn
  ext <;> simp <;> omega
theorem jn_1 {x : Sm} (h : V x) : jn x (0, 0) = x := by
  obtain ⟨h1, h2⟩ := h
  unfold jn
  ext <;> simp <;> omega
theorem jn_V {x y : Sm} (h : V x) (k : V y) : V (jn x y) := by
  unfold jn V at *
  simp only
  omega
theorem V0 : V (0, 0) := ⟨Int.le_refl _, Int.le_refl _⟩
theorem fold_jn (b : Str) : ∀ (rs : List Row) (p : Sm), V p → rs.foldl (suF b) p = jn p (su b rs) ∧ V (su b rs)
  | [], p, h => ⟨(jn_1 h).symm, V0⟩
  | r :: rs, p, h => by
    have hv : V (suF b p r) := by unfold V suF at *; simp only; omega
    have hv0 : V (suF b (0, 0) r) := by unfold V suF; simp only; omega
    obtain ⟨e1, v1⟩ := fold_jn b rs (suF b p r) hv
    obtain ⟨e2, _⟩ := fold_jn b rs (suF b (0, 0) r) hv0
    have e3 : su b (r :: rs) = jn (suF b (0, 0) r) (su b rs) := e2
    refine ⟨?_, by rw [e3]; exact jn_V hv0 v1⟩
    rw [List.foldl_cons, e1, e3, ← jn_assoc]
    congr 1
    unfold V at h
    unfold suF jn
    ext <;> simp <;> omega
theorem su_V (b : Str) (rs : List Row) : V (su b rs) := (fold_jn b rs (0, 0) V0).2
theorem su_append (b : Str) (xs ys : List Row) : su b (xs ++ ys) = jn (su b xs) (su b ys) := by
  show (xs ++ ys).foldl _ _ = _
  rw [List.foldl_append]
  exact (fold_jn b ys (su b xs) (su_V b xs)).1
/-- n copies -/
def pw (p : Sm) : Nat → Sm
  | 0 => (0, 0)
  | n + 1 => jn (pw p n) p
theorem pw_V {p : Sm} (h : V p) : ∀ n, V (pw p n)
  | 0 => V0
  | n + 1 => jn_V (pw_V h n) h
theorem pw_add {p : Sm} (h : V p) (a : Nat) : ∀ c, jn (pw p a) (pw p c) = pw p (a + c)
  | 0 => jn_1 (pw_V h a)
  | c + 1 => by
    show jn (pw p a) (jn (pw p c) p) = jn (pw p (a + c)) p
    rw [← jn_assoc, pw_add h a c]
theorem pw_form {p : Sm} (h : V p) : ∀ n : Nat, pw p (n + 1) = (p.1 + max 0 ((n : Int) * p.2), ((n + 1 : Nat) : Int) * p.2) ∧ (0 ≤ p.2 → 0 ≤ (n : Int) * p.2) ∧ (p.2 ≤ 0 → (n : Int) * p.2 ≤ 0)
  | 0 => by
    obtain ⟨h1, h2⟩ := h
    refine ⟨?_, by simp, by simp⟩
    show jn (0, 0) p = _
    unfold jn
    ext <;> simp <;> omega
  | n + 1 => by
    obtain ⟨e, s1, s2⟩ := pw_form h n
    obtain ⟨h1, h2⟩ := h
    have m1 : ((n + 1 : Nat) : Int) * p.2 = (n : Int) * p.2 + p.2 := by rw [Int.natCast_add, Int.add_mul]; simp
    have m2 : ((n + 1 + 1 : Nat) : Int) * p.2 = (n : Int) * p.2 + p.2 + p.2 := by rw [Int.natCast_add, Int.add_mul, m1]; simp
    refine ⟨?_, by rw [m1]; omega, by rw [m1]; omega⟩
    show jn (pw p (n + 1)) p = _
    rw [e, m2]
    unfold jn
    rw [m1]
    generalize (n : Int) * p.2 = t at *
    ext <;> simp <;> omega
theorem su_rep (b : Str) (rs : List Row) : ∀ n : Nat, su b (List.replicate n rs).flatten = pw (su b rs) n
  | 0 => rfl
  | n + 1 => by
    rw [List.replicate_succ', List.flatten_append, su_append, su_rep b rs n]
    simp only [List.flatten_cons, List.flatten_nil, List.append_nil]
    rfl
theorem snoc_ind {α : Type} {P : List α → Prop} (h0 : P []) (h1 : ∀ l a, P l → P (l ++ [a])) (l : List α) : P l := by
  have : ∀ m : List α, P m.reverse := fun m => by
    induction m with
    | nil => exact h0
    | cons a m ih => rw [List.reverse_cons]; exact h1 _ _ ih
  have h := this l.reverse
  rwa [List.reverse_reverse] at h
/-- the sums of all beginnings -/
def sums (b : Str) (rs : List Row) : List Int := rs.foldl (fun l r => l ++ [l.getLastD 0 + used r b]) [0]
theorem sums_spec (b : Str) : ∀ rs : List Row, ∃ l, sums b rs = l ++ [(su b rs).2] ∧ (∀ a ∈ sums b rs, a ≤ (su b rs).1) ∧ (su b rs).1 ∈ sums b rs ∧ (sums b rs).length = rs.length + 1 := by
  refine snoc_ind ⟨[], rfl, by simp [sums, su], by simp [sums, su], rfl⟩ fun rs r ih => ?_
  · obtain ⟨l, e, h1, h2, h3⟩ := ih
    have e1 : sums b (rs ++ [r]) = sums b rs ++ [(su b rs).2 + used r b] := by
      show (rs ++ [r]).foldl _ _ = _
      rw [List.foldl_append]
      show sums b rs ++ [(sums b rs).getLastD 0 + used r b] = _
      rw [show (sums b rs).getLastD 0 = (su b rs).2 by rw [e]; simp]
    have e2 : su b (rs ++ [r]) = suF b (su b rs) r := by
      show (rs ++ [r]).foldl _ _ = _
      rw [List.foldl_append]; rfl
    refine ⟨sums b rs, by rw [e1, e2]; rfl, fun a ha => ?_, ?_, by rw [e1]; simp [h3]⟩
    · rw [e1] at ha
      rw [e2]
      unfold suF
      simp only
      rcases List.mem_append.mp ha with ha | ha
      · have := h1 a ha; omega
      · rw [List.mem_singleton.mp ha]; omega
    · rw [e1, e2]
      unfold suF
      simp only
      by_cases h : (su b rs).1 ≤ (su b rs).2 + used r b
      · rw [Int.max_eq_right h]; exact List.mem_append_right _ (List.mem_singleton.mpr rfl)
      · rw [Int.max_eq_left (by omega)]; exact List.mem_append_left _ h2
end Rc

/-! Rc6: what the defs about summaries answer. -/
namespace Rc
open PySem PySem.Spec PyProof.Rows L2 Mi
section
variable {S : Store}
theorem lused_eq {r : Row} {b : Str} : f__law_used [r.d, .str b] S = .ok (.int (used r b)) S := by
  refine al_eq ?_
  unfold f__law_used m__law_used
  have fi : ∀ S p, fInt S [.bl p] = some (.int (if p then 1 else 0)) := fun _ _ => rfl
  have fi2 : ∀ S p, fInt S [.int p] = some (.int p) := fun _ _ => rfl
  by_cases hb : b = "steps"
  · subst hb
    cases r <;> (simp only [w_c, w_var, w_bin, w_un, w_nil, w_cons, w_fun, w_tup, w_lst, w_dct0, w_call, w_callP, w_if, w_and, w_or, w_not, w_chain, w_bof, w_btru, w_bnot, w_band, w_bor, w_btrue, w_iseq, w_ifun, w_comp, w_onone, w_osome, w_sl, w_lend, w_blend, w_seq, w_snil, w_set, w_own, w_ret, w_retn, w_retv, w_exp, w_sif, w_asg, w_sfor, w_brk, w_cont, w_par2, w_par3, w_app, w_def, lent, al_ok, al_stuck, va_add, va_addI, va_sub, va_neg, va_lt, va_le, va_gt, va_ge, va_eqS, va_neS, va_eqI, va_neI, va_ixL, va_ixT, va_lenL, va_lenT, va_max, va_min, va_abs, va_asB, va_truB, va_itL, va_itT, va_itS, va_tupL, va_tupT, va_inS, va_notInS, va_isN, va_some_bl, List.getElem?_cons_zero, List.getElem?_cons_succ, List.set_cons_zero, List.set_cons_succ, List.map_cons, List.map_nil, List.length_cons, List.length_nil, List.replicate, List.cons_append, List.nil_append, List.append_nil, Nat.reduceSub, Nat.reduceAdd, Nat.sub_self, Nat.zero_add, sizeLine_eq, Nat.reduceLeDiff, pick, List.filterMap_cons, List.filterMap_nil, Option.some.injEq, exists_eq_left', exists_eq_left, exists_const, true_and, and_true, Bool.not_true, Bool.not_false, if_true, if_false, reduceIte, Bool.false_eq_true, eq_self, D.int.injEq, Row.d, fi, fi2, at0, at1, at2, in_suo (x := "step") (by simp), in_suo (x := "use") (by simp), in_suo (x := "back") (by simp), in_suo (x := "give") (by simp), in_suo (x := "out") (by simp), in_suo (x := "put") (by simp), in_suo (x := "caught") (by simp), in_bg (x := "step") (by simp), in_bg (x := "use") (by simp), in_bg (x := "back") (by simp), in_bg (x := "give") (by simp), in_bg (x := "out") (by simp), in_bg (x := "put") (by simp), in_bg (x := "caught") (by simp), ws_steps_steps, ws_steps_step, ws_steps_use, ws_steps_back, ws_steps_give, ws_steps_out, ws_steps_put, ws_steps_caught, ws_steps_keep, ws_steps_restore, ws_step_steps, ws_step_step, ws_step_use, ws_step_back, ws_step_give, ws_step_out, ws_step_put, ws_step_caught, ws_step_keep, ws_step_restore, ws_use_steps, ws_use_step, ws_use_use, ws_use_back, ws_use_give, ws_use_out, ws_use_put, ws_use_caught, ws_use_keep, ws_use_restore, ws_back_steps, ws_back_step, ws_back_use, ws_back_back, ws_back_give, ws_back_out, ws_back_put, ws_back_caught, ws_back_keep, ws_back_restore, ws_give_steps, ws_give_step, ws_give_use, ws_give_back, ws_give_give, ws_give_out, ws_give_put, ws_give_caught, ws_give_keep, ws_give_restore, ws_out_steps, ws_out_step, ws_out_use, ws_out_back, ws_out_give, ws_out_out, ws_out_put, ws_out_caught, ws_out_keep, ws_out_restore, ws_put_steps, ws_put_step, ws_put_use, ws_put_back, ws_put_give, ws_put_out, ws_put_put, ws_put_caught, ws_put_keep, ws_put_restore, ws_caught_steps, ws_caught_step, ws_caught_use, ws_caught_back, ws_caught_give, ws_caught_out, ws_caught_put, ws_caught_caught, ws_caught_keep, ws_caught_restore, ws_keep_steps, ws_keep_step, ws_keep_use, ws_keep_back, ws_keep_give, ws_keep_out, ws_keep_put, ws_keep_caught, ws_keep_keep, ws_keep_restore, ws_restore_steps, ws_restore_step, ws_restore_use, ws_restore_back, ws_restore_give, ws_restore_out, ws_restore_put, ws_restore_caught, ws_restore_keep, ws_restore_restore, Bool.or_false, Bool.or_true, Bool.true_or, Bool.false_or, beq_iff_eq, used, ifS])
    all_goals (try split) <;> simp_all <;> omega
  · have hb' : (b == "steps") = false := by simpa using hb
    cases r <;> (simp only [w_c, w_var, w_bin, w_un, w_nil, w_cons, w_fun, w_tup, w_lst, w_dct0, w_call, w_callP, w_if, w_and, w_or, w_not, w_chain, w_bof, w_btru, w_bnot, w_band, w_bor, w_btrue, w_iseq, w_ifun, w_comp, w_onone, w_osome, w_sl, w_lend, w_blend, w_seq, w_snil, w_set, w_own, w_ret, w_retn, w_retv, w_exp, w_sif, w_asg, w_sfor, w_brk, w_cont, w_par2, w_par3, w_app, w_def, lent, al_ok, al_stuck, va_add, va_addI, va_sub, va_neg, va_lt, va_le, va_gt, va_ge, va_eqS, va_neS, va_eqI, va_neI, va_ixL, va_ixT, va_lenL, va_lenT, va_max, va_min, va_abs, va_asB, va_truB, va_itL, va_itT, va_itS, va_tupL, va_tupT, va_inS, va_notInS, va_isN, va_some_bl, List.getElem?_cons_zero, List.getElem?_cons_succ, List.set_cons_zero, List.set_cons_succ, List.map_cons, List.map_nil, List.length_cons, List.length_nil, List.replicate, List.cons_append, List.nil_append, List.append_nil, Nat.reduceSub, Nat.reduceAdd, Nat.sub_self, Nat.zero_add, sizeLine_eq, Nat.reduceLeDiff, pick, List.filterMap_cons, List.filterMap_nil, Option.some.injEq, exists_eq_left', exists_eq_left, exists_const, true_and, and_true, Bool.not_true, Bool.not_false, if_true, if_false, reduceIte, Bool.false_eq_true, eq_self, D.int.injEq, Row.d, fi, fi2, hb', at0, at1, at2, in_bg (x := "step") (by simp), in_bg (x := "use") (by simp), in_bg (x := "back") (by simp), in_bg (x := "give") (by simp), in_bg (x := "out") (by simp), in_bg (x := "put") (by simp), in_bg (x := "caught") (by simp), ws_steps_steps, ws_steps_step, ws_steps_use, ws_steps_back, ws_steps_give, ws_steps_out, ws_steps_put, ws_steps_caught, ws_steps_keep, ws_steps_restore, ws_step_steps, ws_step_step, ws_step_use, ws_step_back, ws_step_give, ws_step_out, ws_step_put, ws_step_caught, ws_step_keep, ws_step_restore, ws_use_steps, ws_use_step, ws_use_use, ws_use_back, ws_use_give, ws_use_out, ws_use_put, ws_use_caught, ws_use_keep, ws_use_restore, ws_back_steps, ws_back_step, ws_back_use, ws_back_back, ws_back_give, ws_back_out, ws_back_put, ws_back_caught, ws_back_keep, ws_back_restore, ws_give_steps, ws_give_step, ws_give_use, ws_give_back, ws_give_give, ws_give_out, ws_give_put, ws_give_caught, ws_give_keep, ws_give_restore, ws_out_steps, ws_out_step, ws_out_use, ws_out_back, ws_out_give, ws_out_out, ws_out_put, ws_out_caught, ws_out_keep, ws_out_restore, ws_put_steps, ws_put_step, ws_put_use, ws_put_back, ws_put_give, ws_put_out, ws_put_put, ws_put_caught, ws_put_keep, ws_put_restore, ws_caught_steps, ws_caught_step, ws_caught_use, ws_caught_back, ws_caught_give, ws_caught_out, ws_caught_put, ws_caught_caught, ws_caught_keep, ws_caught_restore, ws_keep_steps, ws_keep_step, ws_keep_use, ws_keep_back, ws_keep_give, ws_keep_out, ws_keep_put, ws_keep_caught, ws_keep_keep, ws_keep_restore, ws_restore_steps, ws_restore_step, ws_restore_use, ws_restore_back, ws_restore_give, ws_restore_out, ws_restore_put, ws_restore_caught, ws_restore_keep, ws_restore_restore, Bool.or_false, Bool.or_true, Bool.true_or, Bool.false_or, beq_iff_eq, used, ifS, hb])
    all_goals (try split) <;> simp_all <;> omega
theorem small_str {z : Str} (h : z.length ≤ 8) : Pl (.str z) := by show z.length ≤ sizeLine; rw [sizeLine_eq]; omega
theorem row_ok {r : Row} (h : r.ok) : f_is_row [r.d] S = .ok (.bl true) S := by
  have t : ∀ b : Str, NameS b → nameD (.str b) = true := fun b hb => nameS_iff.mpr hb
  have key : ∀ xs : List D, (∀ d ∈ xs, Pl d) → noKs xs → dpDs xs ≤ 60 → rowT xs = true → f_is_row [.tup xs] S = .ok (.bl true) S := fun xs h1 h2 h3 h4 => by rw [row_tup h1, h4]
  have wl : ∀ w ∈ (["step", "use", "back", "give", "out", "put", "caught"] : List Str), w.length ≤ 8 := by decide +kernel
  have pw : ∀ w ∈ (["step", "use", "back", "give", "out", "put", "caught"] : List Str), Pl (.str w) := fun w hw => small_str (wl w hw)
  have f1 : ∀ d, fitsD "b" d = nameD d := fun d => by unfold fitsD; rw [if_pos rfl]
  have f2 : ∀ d, fitsD "v" d = valD d := fun d => by unfold fitsD; rw [if_neg (by decide +kernel), if_pos rfl]
  have f3 : ∀ i, fitsD "n" (.int i) = decide (0 ≤ i) := fun d => by unfold fitsD; rw [if_neg (by decide +kernel), if_neg (by decide +kernel)]; simp only [if_true]
  have f4 : ∀ i, fitsD "z" (.int i) = !(i == 0) := fun d => by
    unfold fitsD; rw [if_neg (by decide +kernel), if_neg (by decide +kernel)]
    simp only
    rw [if_neg (by decide +kernel)]
  have wc : ∀ w ∈ (["step", "use", "back", "give", "out", "put", "caught"] : List Str), ∀ c ∈ w.cps.toList, c < 0x110000 := by decide +kernel
  have p1 : ∀ (f : Str) (c : Nat) (d : D), f.cps.toList = [c] → partsD f [d] = fitsD ⟨#[c]⟩ d := by
    intro f c d e
    have hl : f.length = 1 := by show f.cps.size = 1; rw [← Array.length_toList, e]; rfl
    unfold partsD
    rw [e, hl]
    simp
  have p2 : ∀ (f : Str) (c c' : Nat) (d e : D), f.cps.toList = [c, c'] → partsD f [d, e] = (fitsD ⟨#[c]⟩ d && fitsD ⟨#[c']⟩ e) := by
    intro f c c' d e' e
    have hl : f.length = 2 := by show f.cps.size = 2; rw [← Array.length_toList, e]; rfl
    unfold partsD
    rw [e, hl]
    simp
  have two : ∀ (w f : Str) (b : Str) (i : Int) (c c' : Nat), w ∈ (["step", "use", "back", "give", "out", "put", "caught"] : List Str) → tab_FORMS.lookup w = some (.str f) → f.cps.toList = [c, c'] → NameS b → (⟨#[c]⟩ : Str) = "b" → fitsD ⟨#[c']⟩ (.int i) = true → f_is_row [.tup [.str w, .str b, .int i]] S = .ok (.bl true) S := by
    intro w f b i c c' hw hf hc hb hc1 hc2
    refine key _ ?_ ?_ ?_ ?_
    · intro d hd
      simp only [List.mem_cons, List.not_mem_nil, or_false] at hd
      rcases hd with rfl | rfl | rfl
      · exact pw w hw
      · exact small_str hb.2.1
      · trivial
    · simp only [noKs, noK, and_true]
      exact ⟨wc w hw, hb.chars⟩
    · simp [dpDs, dpD]
    · unfold rowT
      simp only [hf, p2 f c c' _ _ hc, hc2, Bool.and_true, hc1, f1, t b hb]
  have one : ∀ (w f : Str) (x : D) (c : Nat), w ∈ (["step", "use", "back", "give", "out", "put", "caught"] : List Str) → tab_FORMS.lookup w = some (.str f) → f.cps.toList = [c] → Pl x → noK x → dpD x = 0 → fitsD ⟨#[c]⟩ x = true → f_is_row [.tup [.str w, x]] S = .ok (.bl true) S := by
    intro w f x c hw hf hc hx hn hd hc2
    refine key _ ?_ ?_ ?_ ?_
    · intro d hd
      simp only [List.mem_cons, List.not_mem_nil, or_false] at hd
      rcases hd with rfl | rfl
      · exact pw w hw
      · exact hx
    · simp only [noKs, noK, and_true]
      exact ⟨wc w hw, hn⟩
    · simp [dpDs, dpD, hd]
    · unfold rowT
      simp only [hf, p1 f c _ hc, hc2]
  cases r with
  | step => exact key [.str "step"] (by intro d hd; rw [List.mem_singleton.mp hd]; exact pw "step" (by simp)) (by simp only [noKs, noK, and_true]; exact wc "step" (by simp)) (by simp [dpDs, dpD]) rfl
  | use b i => exact two "use" "bn" b i 98 110 (by simp) rfl (by decide +kernel) h.1 (by decide +kernel) (by rw [show (⟨#[110]⟩ : Str) = "n" by decide +kernel, f3]; exact decide_eq_true h.2.1)
  | back b i => exact two "back" "bn" b i 98 110 (by simp) rfl (by decide +kernel) h.1 (by decide +kernel) (by rw [show (⟨#[110]⟩ : Str) = "n" by decide +kernel, f3]; exact decide_eq_true h.2.1)
  | give b i => exact two "give" "bz" b i 98 122 (by simp) rfl (by decide +kernel) h.1 (by decide +kernel) (by rw [show (⟨#[122]⟩ : Str) = "z" by decide +kernel, f4]; simp [h.2.1])
  | out v => exact one "out" "v" (.int v) 118 (by simp) rfl (by decide +kernel) trivial (by simp [noK]) rfl (by rw [show (⟨#[118]⟩ : Str) = "v" by decide +kernel, f2]; exact Bool.and_eq_true_iff.mpr ⟨decide_eq_true h.1, decide_eq_true h.2⟩)
  | put v => exact one "put" "v" (.int v) 118 (by simp) rfl (by decide +kernel) trivial (by simp [noK]) rfl (by rw [show (⟨#[118]⟩ : Str) = "v" by decide +kernel, f2]; exact Bool.and_eq_true_iff.mpr ⟨decide_eq_true h.1, decide_eq_true h.2⟩)
  | caught b => exact one "caught" "b" (.str b) 98 (by simp) rfl (by decide +kernel) (small_str h.2.1) (by simpa only [noK] using h.chars) rfl (by rw [show (⟨#[98]⟩ : Str) = "b" by decide +kernel, f1]; exact t b h)
theorem require_ok {d : D} {rs : List Row} (e : itemsOf d = some (rs.map Row.d)) (h : ∀ r ∈ rs, r.ok) : f_require_rows [d] S = .ok .non S := by
  refine al_eq ?_
  unfold f_require_rows m_require_rows
  simp only [w_c, w_var, w_bin, w_un, w_nil, w_cons, w_fun, w_tup, w_lst, w_dct0, w_call, w_callP, w_if, w_and, w_or, w_not, w_chain, w_bof, w_btru, w_bnot, w_band, w_bor, w_btrue, w_iseq, w_ifun, w_comp, w_onone, w_osome, w_sl, w_lend, w_blend, w_seq, w_snil, w_set, w_own, w_ret, w_retn, w_retv, w_exp, w_sif, w_asg, w_sfor, w_brk, w_cont, w_par2, w_par3, w_app, w_def, lent, al_ok, al_stuck, va_add, va_addI, va_sub, va_neg, va_lt, va_le, va_gt, va_ge, va_eqS, va_neS, va_eqI, va_neI, va_ixL, va_ixT, va_lenL, va_lenT, va_max, va_min, va_abs, va_asB, va_truB, va_itL, va_itT, va_itS, va_tupL, va_tupT, va_inS, va_notInS, va_isN, va_some_bl, List.getElem?_cons_zero, List.getElem?_cons_succ, List.set_cons_zero, List.set_cons_succ, List.map_cons, List.map_nil, List.length_cons, List.length_nil, List.replicate, List.cons_append, List.nil_append, List.append_nil, Nat.reduceSub, Nat.reduceAdd, Nat.sub_self, Nat.zero_add, sizeLine_eq, Nat.reduceLeDiff, pick, List.filterMap_cons, List.filterMap_nil, Option.some.injEq, exists_eq_left', exists_eq_left, exists_const, true_and, and_true, Bool.not_true, Bool.not_false, if_true, if_false, reduceIte, Bool.false_eq_true, eq_self, D.int.injEq, e]
  refine for_wp (fun _ ρ S' => S' = S ∧ ∃ x, ρ = [.sh d, x]) ⟨rfl, _, rfl⟩ ?_ fun ρ S' hI => hI.1
  rintro i x ρ _ hx ⟨rfl, y, rfl⟩
  rw [List.getElem?_map] at hx
  cases er : rs[i]? with
  | none => rw [er] at hx; cases hx
  | some r =>
    rw [er] at hx
    cases hx
    refine ⟨_, rfl, ?_⟩
    simp only [w_c, w_var, w_bin, w_un, w_nil, w_cons, w_fun, w_tup, w_lst, w_dct0, w_call, w_callP, w_if, w_and, w_or, w_not, w_chain, w_bof, w_btru, w_bnot, w_band, w_bor, w_btrue, w_iseq, w_ifun, w_comp, w_onone, w_osome, w_sl, w_lend, w_blend, w_seq, w_snil, w_set, w_own, w_ret, w_retn, w_retv, w_exp, w_sif, w_asg, w_sfor, w_brk, w_cont, w_par2, w_par3, w_app, w_def, lent, al_ok, al_stuck, va_add, va_addI, va_sub, va_neg, va_lt, va_le, va_gt, va_ge, va_eqS, va_neS, va_eqI, va_neI, va_ixL, va_ixT, va_lenL, va_lenT, va_max, va_min, va_abs, va_asB, va_truB, va_itL, va_itT, va_itS, va_tupL, va_tupT, va_inS, va_notInS, va_isN, va_some_bl, List.getElem?_cons_zero, List.getElem?_cons_succ, List.set_cons_zero, List.set_cons_succ, List.map_cons, List.map_nil, List.length_cons, List.length_nil, List.replicate, List.cons_append, List.nil_append, List.append_nil, Nat.reduceSub, Nat.reduceAdd, Nat.sub_self, Nat.zero_add, sizeLine_eq, Nat.reduceLeDiff, pick, List.filterMap_cons, List.filterMap_nil, Option.some.injEq, exists_eq_left', exists_eq_left, exists_const, true_and, and_true, Bool.not_true, Bool.not_false, if_true, if_false, reduceIte, Bool.false_eq_true, eq_self, D.int.injEq, row_ok (h r (List.mem_of_getElem? er))]
    exact ⟨_, rfl⟩
theorem summary_eq {d : D} {rs : List Row} {b : Str} (e : itemsOf d = some (rs.map Row.d)) (h : ∀ r ∈ rs, r.ok) : f_summary_of [d, .str b] S = .ok (Sm.d (su b rs)) S := by
  refine al_eq ?_
  unfold f_summary_of m_summary_of
  have g : ∀ ρ S, gUnp (gsCons (gSet 3) (gsCons (gSet 4) gsNil)) (.tup [.int 0, .int 0]) ρ S = some ((ρ.set 3 (.sh (.int 0))).set 4 (.sh (.int 0)), S) := fun _ _ => rfl
  simp only [w_c, w_var, w_bin, w_un, w_nil, w_cons, w_fun, w_tup, w_lst, w_dct0, w_call, w_callP, w_if, w_and, w_or, w_not, w_chain, w_bof, w_btru, w_bnot, w_band, w_bor, w_btrue, w_iseq, w_ifun, w_comp, w_onone, w_osome, w_sl, w_lend, w_blend, w_seq, w_snil, w_set, w_own, w_ret, w_retn, w_retv, w_exp, w_sif, w_asg, w_sfor, w_brk, w_cont, w_par2, w_par3, w_app, w_def, lent, al_ok, al_stuck, va_add, va_addI, va_sub, va_neg, va_lt, va_le, va_gt, va_ge, va_eqS, va_neS, va_eqI, va_neI, va_ixL, va_ixT, va_lenL, va_lenT, va_max, va_min, va_abs, va_asB, va_truB, va_itL, va_itT, va_itS, va_tupL, va_tupT, va_inS, va_notInS, va_isN, va_some_bl, List.getElem?_cons_zero, List.getElem?_cons_succ, List.set_cons_zero, List.set_cons_succ, List.map_cons, List.map_nil, List.length_cons, List.length_nil, List.replicate, List.cons_append, List.nil_append, List.append_nil, Nat.reduceSub, Nat.reduceAdd, Nat.sub_self, Nat.zero_add, sizeLine_eq, Nat.reduceLeDiff, pick, List.filterMap_cons, List.filterMap_nil, Option.some.injEq, exists_eq_left', exists_eq_left, exists_const, true_and, and_true, Bool.not_true, Bool.not_false, if_true, if_false, reduceIte, Bool.false_eq_true, eq_self, D.int.injEq, e, require_ok e h, g]
  refine for_wp (fun i ρ S' => S' = S ∧ ∃ x, ρ = [.sh d, .sh (.str b), x, .sh (.int (su b (rs.take i)).1), .sh (.int (su b (rs.take i)).2)]) ⟨rfl, _, rfl⟩ ?_ ?_
  · rintro i x ρ _ hx ⟨rfl, y, rfl⟩
    rw [List.getElem?_map] at hx
    cases er : rs[i]? with
    | none => rw [er] at hx; cases hx
    | some r =>
      rw [er] at hx
      cases hx
      refine ⟨_, rfl, ?_⟩
      simp only [w_c, w_var, w_bin, w_un, w_nil, w_cons, w_fun, w_tup, w_lst, w_dct0, w_call, w_callP, w_if, w_and, w_or, w_not, w_chain, w_bof, w_btru, w_bnot, w_band, w_bor, w_btrue, w_iseq, w_ifun, w_comp, w_onone, w_osome, w_sl, w_lend, w_blend, w_seq, w_snil, w_set, w_own, w_ret, w_retn, w_retv, w_exp, w_sif, w_asg, w_sfor, w_brk, w_cont, w_par2, w_par3, w_app, w_def, lent, al_ok, al_stuck, va_add, va_addI, va_sub, va_neg, va_lt, va_le, va_gt, va_ge, va_eqS, va_neS, va_eqI, va_neI, va_ixL, va_ixT, va_lenL, va_lenT, va_max, va_min, va_abs, va_asB, va_truB, va_itL, va_itT, va_itS, va_tupL, va_tupT, va_inS, va_notInS, va_isN, va_some_bl, List.getElem?_cons_zero, List.getElem?_cons_succ, List.set_cons_zero, List.set_cons_succ, List.map_cons, List.map_nil, List.length_cons, List.length_nil, List.replicate, List.cons_append, List.nil_append, List.append_nil, Nat.reduceSub, Nat.reduceAdd, Nat.sub_self, Nat.zero_add, sizeLine_eq, Nat.reduceLeDiff, pick, List.filterMap_cons, List.filterMap_nil, Option.some.injEq, exists_eq_left', exists_eq_left, exists_const, true_and, and_true, Bool.not_true, Bool.not_false, if_true, if_false, reduceIte, Bool.false_eq_true, eq_self, D.int.injEq, used_eq]
      refine ⟨.sh r.d, ?_⟩
      have e3 : rs.take (i + 1) = rs.take i ++ [r] := by rw [List.take_add_one, er]; rfl
      have e4 : su b (rs.take (i + 1)) = suF b (su b (rs.take i)) r := by
        rw [e3]
        show (rs.take i ++ [r]).foldl _ _ = _
        rw [List.foldl_append]; rfl
      rw [e4]
      rfl
  · rintro ρ _ ⟨rfl, y, rfl⟩
    simp only [w_c, w_var, w_bin, w_un, w_nil, w_cons, w_fun, w_tup, w_lst, w_dct0, w_call, w_callP, w_if, w_and, w_or, w_not, w_chain, w_bof, w_btru, w_bnot, w_band, w_bor, w_btrue, w_iseq, w_ifun, w_comp, w_onone, w_osome, w_sl, w_lend, w_blend, w_seq, w_snil, w_set, w_own, w_ret, w_retn, w_retv, w_exp, w_sif, w_asg, w_sfor, w_brk, w_cont, w_par2, w_par3, w_app, w_def, lent, al_ok, al_stuck, va_add, va_addI, va_sub, va_neg, va_lt, va_le, va_gt, va_ge, va_eqS, va_neS, va_eqI, va_neI, va_ixL, va_ixT, va_lenL, va_lenT, va_max, va_min, va_abs, va_asB, va_truB, va_itL, va_itT, va_itS, va_tupL, va_tupT, va_inS, va_notInS, va_isN, va_some_bl, List.getElem?_cons_zero, List.getElem?_cons_succ, List.set_cons_zero, List.set_cons_succ, List.map_cons, List.map_nil, List.length_cons, List.length_nil, List.replicate, List.cons_append, List.nil_append, List.append_nil, Nat.reduceSub, Nat.reduceAdd, Nat.sub_self, Nat.zero_add, sizeLine_eq, Nat.reduceLeDiff, pick, List.filterMap_cons, List.filterMap_nil, Option.some.injEq, exists_eq_left', exists_eq_left, exists_const, true_and, and_true, Bool.not_true, Bool.not_false, if_true, if_false, reduceIte, Bool.false_eq_true, eq_self, D.int.injEq, List.length_map]
    rw [List.take_length]
    rfl
end
end Rc

/-! Rc7: joins, powers, sums. -/
namespace Rc
open PySem PySem.Spec PyProof.Rows L2 Mi
section
variable {S : Store}
theorem join_eq {p q : Sm} : f_join [Sm.d p, Sm.d q] S = .ok (Sm.d (jn p q)) S := by
  refine al_eq ?_
  unfold f_join m_join Sm.d
  have g : ∀ (a b : Int) ρ S, gUnp (gsCons (gSet 2) (gsCons (gSet 3) gsNil)) (.tup [.int a, .int b]) ρ S = some ((ρ.set 2 (.sh (.int a))).set 3 (.sh (.int b)), S) := fun _ _ _ _ => rfl
  simp only [w_c, w_var, w_bin, w_un, w_nil, w_cons, w_fun, w_tup, w_lst, w_dct0, w_call, w_callP, w_if, w_and, w_or, w_not, w_chain, w_bof, w_btru, w_bnot, w_band, w_bor, w_btrue, w_iseq, w_ifun, w_comp, w_onone, w_osome, w_sl, w_lend, w_blend, w_seq, w_snil, w_set, w_own, w_ret, w_retn, w_retv, w_exp, w_sif, w_asg, w_sfor, w_brk, w_cont, w_par2, w_par3, w_app, w_def, lent, al_ok, al_stuck, va_add, va_addI, va_sub, va_neg, va_lt, va_le, va_gt, va_ge, va_eqS, va_neS, va_eqI, va_neI, va_ixL, va_ixT, va_lenL, va_lenT, va_max, va_min, va_abs, va_asB, va_truB, va_itL, va_itT, va_itS, va_tupL, va_tupT, va_inS, va_notInS, va_isN, va_some_bl, List.getElem?_cons_zero, List.getElem?_cons_succ, List.set_cons_zero, List.set_cons_succ, List.map_cons, List.map_nil, List.length_cons, List.length_nil, List.replicate, List.cons_append, List.nil_append, List.append_nil, Nat.reduceSub, Nat.reduceAdd, Nat.sub_self, Nat.zero_add, sizeLine_eq, Nat.reduceLeDiff, pick, List.filterMap_cons, List.filterMap_nil, Option.some.injEq, exists_eq_left', exists_eq_left, exists_const, true_and, and_true, Bool.not_true, Bool.not_false, if_true, if_false, reduceIte, Bool.false_eq_true, eq_self, D.int.injEq, g, at0, at1]
  rfl
theorem joined_eq {p q : Sm} : f__law_joined [Sm.d p, Sm.d q] S = .ok (Sm.d (jn p q)) S := by
  refine al_eq ?_
  unfold f__law_joined m__law_joined Sm.d
  simp only [w_c, w_var, w_bin, w_un, w_nil, w_cons, w_fun, w_tup, w_lst, w_dct0, w_call, w_callP, w_if, w_and, w_or, w_not, w_chain, w_bof, w_btru, w_bnot, w_band, w_bor, w_btrue, w_iseq, w_ifun, w_comp, w_onone, w_osome, w_sl, w_lend, w_blend, w_seq, w_snil, w_set, w_own, w_ret, w_retn, w_retv, w_exp, w_sif, w_asg, w_sfor, w_brk, w_cont, w_par2, w_par3, w_app, w_def, lent, al_ok, al_stuck, va_add, va_addI, va_sub, va_neg, va_lt, va_le, va_gt, va_ge, va_eqS, va_neS, va_eqI, va_neI, va_ixL, va_ixT, va_lenL, va_lenT, va_max, va_min, va_abs, va_asB, va_truB, va_itL, va_itT, va_itS, va_tupL, va_tupT, va_inS, va_notInS, va_isN, va_some_bl, List.getElem?_cons_zero, List.getElem?_cons_succ, List.set_cons_zero, List.set_cons_succ, List.map_cons, List.map_nil, List.length_cons, List.length_nil, List.replicate, List.cons_append, List.nil_append, List.append_nil, Nat.reduceSub, Nat.reduceAdd, Nat.sub_self, Nat.zero_add, sizeLine_eq, Nat.reduceLeDiff, pick, List.filterMap_cons, List.filterMap_nil, Option.some.injEq, exists_eq_left', exists_eq_left, exists_const, true_and, and_true, Bool.not_true, Bool.not_false, if_true, if_false, reduceIte, Bool.false_eq_true, eq_self, D.int.injEq, at0, at1]
  rfl
theorem join_all_eq {ps : List Sm} (h : ps.length ≤ 1000) : f_join_all (ps.map Sm.d) S = .ok (Sm.d (ps.foldl jn (0, 0))) S := by
  refine al_eq ?_
  unfold f_join_all starF
  rw [if_pos ⟨Nat.zero_le _, by rw [List.length_map, sizeLine_eq]; omega⟩]
  simp only [List.take_zero, List.drop_zero, List.nil_append]
  unfold m_join_all
  simp only [w_c, w_var, w_bin, w_un, w_nil, w_cons, w_fun, w_tup, w_lst, w_dct0, w_call, w_callP, w_if, w_and, w_or, w_not, w_chain, w_bof, w_btru, w_bnot, w_band, w_bor, w_btrue, w_iseq, w_ifun, w_comp, w_onone, w_osome, w_sl, w_lend, w_blend, w_seq, w_snil, w_set, w_own, w_ret, w_retn, w_retv, w_exp, w_sif, w_asg, w_sfor, w_brk, w_cont, w_par2, w_par3, w_app, w_def, lent, al_ok, al_stuck, va_add, va_addI, va_sub, va_neg, va_lt, va_le, va_gt, va_ge, va_eqS, va_neS, va_eqI, va_neI, va_ixL, va_ixT, va_lenL, va_lenT, va_max, va_min, va_abs, va_asB, va_truB, va_itL, va_itT, va_itS, va_tupL, va_tupT, va_inS, va_notInS, va_isN, va_some_bl, List.getElem?_cons_zero, List.getElem?_cons_succ, List.set_cons_zero, List.set_cons_succ, List.map_cons, List.map_nil, List.length_cons, List.length_nil, List.replicate, List.cons_append, List.nil_append, List.append_nil, Nat.reduceSub, Nat.reduceAdd, Nat.sub_self, Nat.zero_add, sizeLine_eq, Nat.reduceLeDiff, pick, List.filterMap_cons, List.filterMap_nil, Option.some.injEq, exists_eq_left', exists_eq_left, exists_const, true_and, and_true, Bool.not_true, Bool.not_false, if_true, if_false, reduceIte, Bool.false_eq_true, eq_self, D.int.injEq]
  refine for_wp (fun i ρ S' => S' = S ∧ ∃ x, ρ = [.sh (.tup (ps.map Sm.d)), .sh (Sm.d ((ps.take i).foldl jn (0, 0))), x]) ⟨rfl, _, rfl⟩ ?_ ?_
  · rintro i x ρ _ hx ⟨rfl, y, rfl⟩
    rw [List.getElem?_map] at hx
    cases er : ps[i]? with
    | none => rw [er] at hx; cases hx
    | some r =>
      rw [er] at hx
      cases hx
      refine ⟨_, rfl, ?_⟩
      simp only [w_c, w_var, w_bin, w_un, w_nil, w_cons, w_fun, w_tup, w_lst, w_dct0, w_call, w_callP, w_if, w_and, w_or, w_not, w_chain, w_bof, w_btru, w_bnot, w_band, w_bor, w_btrue, w_iseq, w_ifun, w_comp, w_onone, w_osome, w_sl, w_lend, w_blend, w_seq, w_snil, w_set, w_own, w_ret, w_retn, w_retv, w_exp, w_sif, w_asg, w_sfor, w_brk, w_cont, w_par2, w_par3, w_app, w_def, lent, al_ok, al_stuck, va_add, va_addI, va_sub, va_neg, va_lt, va_le, va_gt, va_ge, va_eqS, va_neS, va_eqI, va_neI, va_ixL, va_ixT, va_lenL, va_lenT, va_max, va_min, va_abs, va_asB, va_truB, va_itL, va_itT, va_itS, va_tupL, va_tupT, va_inS, va_notInS, va_isN, va_some_bl, List.getElem?_cons_zero, List.getElem?_cons_succ, List.set_cons_zero, List.set_cons_succ, List.map_cons, List.map_nil, List.length_cons, List.length_nil, List.replicate, List.cons_append, List.nil_append, List.append_nil, Nat.reduceSub, Nat.reduceAdd, Nat.sub_self, Nat.zero_add, sizeLine_eq, Nat.reduceLeDiff, pick, List.filterMap_cons, List.filterMap_nil, Option.some.injEq, exists_eq_left', exists_eq_left, exists_const, true_and, and_true, Bool.not_true, Bool.not_false, if_true, if_false, reduceIte, Bool.false_eq_true, eq_self, D.int.injEq, join_eq]
      refine ⟨.sh (Sm.d r), ?_⟩
      have e3 : ps.take (i + 1) = ps.take i ++ [r] := by rw [List.take_add_one, er]; rfl
      rw [e3, List.foldl_append]
      rfl
  · rintro ρ _ ⟨rfl, y, rfl⟩
    simp only [w_c, w_var, w_bin, w_un, w_nil, w_cons, w_fun, w_tup, w_lst, w_dct0, w_call, w_callP, w_if, w_and, w_or, w_not, w_chain, w_bof, w_btru, w_bnot, w_band, w_bor, w_btrue, w_iseq, w_ifun, w_comp, w_onone, w_osome, w_sl, w_lend, w_blend, w_seq, w_snil, w_set, w_own, w_ret, w_retn, w_retv, w_exp, w_sif, w_asg, w_sfor, w_brk, w_cont, w_par2, w_par3, w_app, w_def, lent, al_ok, al_stuck, va_add, va_addI, va_sub, va_neg, va_lt, va_le, va_gt, va_ge, va_eqS, va_neS, va_eqI, va_neI, va_ixL, va_ixT, va_lenL, va_lenT, va_max, va_min, va_abs, va_asB, va_truB, va_itL, va_itT, va_itS, va_tupL, va_tupT, va_inS, va_notInS, va_isN, va_some_bl, List.getElem?_cons_zero, List.getElem?_cons_succ, List.set_cons_zero, List.set_cons_succ, List.map_cons, List.map_nil, List.length_cons, List.length_nil, List.replicate, List.cons_append, List.nil_append, List.append_nil, Nat.reduceSub, Nat.reduceAdd, Nat.sub_self, Nat.zero_add, sizeLine_eq, Nat.reduceLeDiff, pick, List.filterMap_cons, List.filterMap_nil, Option.some.injEq, exists_eq_left', exists_eq_left, exists_const, true_and, and_true, Bool.not_true, Bool.not_false, if_true, if_false, reduceIte, Bool.false_eq_true, eq_self, D.int.injEq, List.length_map]
    rw [List.take_length]
theorem join2 {p q : Sm} (hp : V p) : f_join_all [Sm.d p, Sm.d q] S = .ok (Sm.d (jn p q)) S := by
  have := join_all_eq (S := S) (ps := [p, q]) (by simp)
  simp only [List.map_cons, List.map_nil, List.foldl_cons, List.foldl_nil, jn_0 hp] at this
  exact this
theorem join3 {p q r : Sm} (hp : V p) : f_join_all [Sm.d p, Sm.d q, Sm.d r] S = .ok (Sm.d (jn (jn p q) r)) S := by
  have := join_all_eq (S := S) (ps := [p, q, r]) (by simp)
  simp only [List.map_cons, List.map_nil, List.foldl_cons, List.foldl_nil, jn_0 hp] at this
  exact this
theorem join5 {p : Sm} (hp : V p) : f_join_all [Sm.d p, Sm.d p, Sm.d p, Sm.d p, Sm.d p] S = .ok (Sm.d (pw p 5)) S := join_all_eq (S := S) (ps := [p, p, p, p, p]) (by simp)
def Bd (k : Nat) (p : Sm) : Prop := p.1.natAbs ≤ k ∧ p.2.natAbs ≤ k
theorem power_eq {p : Sm} {n : Nat} (hp : V p) (hn : n < 2 ^ 40) : f_power [Sm.d p, .int n] S = .ok (Sm.d (pw p n)) S := by
  refine al_eq ?_
  unfold f_power m_power Sm.d
  have hi : ∀ S, f_is_integer [.int (n : Int)] S = .ok (.bl true) S := fun S => integer_eq (d := .int n) trivial
  have g : ∀ (a b : Int) ρ S, gUnp (gsCons (gSet 2) (gsCons (gSet 3) gsNil)) (.tup [.int a, .int b]) ρ S = some ((ρ.set 2 (.sh (.int a))).set 3 (.sh (.int b)), S) := fun _ _ _ _ => rfl
  have h0 : decide ((n : Int) < 0) = false := decide_eq_false (by omega)
  cases n with
  | zero =>
    simp only [w_c, w_var, w_bin, w_un, w_nil, w_cons, w_fun, w_tup, w_lst, w_dct0, w_call, w_callP, w_if, w_and, w_or, w_not, w_chain, w_bof, w_btru, w_bnot, w_band, w_bor, w_btrue, w_iseq, w_ifun, w_comp, w_onone, w_osome, w_sl, w_lend, w_blend, w_seq, w_snil, w_set, w_own, w_ret, w_retn, w_retv, w_exp, w_sif, w_asg, w_sfor, w_brk, w_cont, w_par2, w_par3, w_app, w_def, lent, al_ok, al_stuck, va_add, va_addI, va_sub, va_neg, va_lt, va_le, va_gt, va_ge, va_eqS, va_neS, va_eqI, va_neI, va_ixL, va_ixT, va_lenL, va_lenT, va_max, va_min, va_abs, va_asB, va_truB, va_itL, va_itT, va_itS, va_tupL, va_tupT, va_inS, va_notInS, va_isN, va_some_bl, List.getElem?_cons_zero, List.getElem?_cons_succ, List.set_cons_zero, List.set_cons_succ, List.map_cons, List.map_nil, List.length_cons, List.length_nil, List.replicate, List.cons_append, List.nil_append, List.append_nil, Nat.reduceSub, Nat.reduceAdd, Nat.sub_self, Nat.zero_add, sizeLine_eq, Nat.reduceLeDiff, pick, List.filterMap_cons, List.filterMap_nil, Option.some.injEq, exists_eq_left', exists_eq_left, exists_const, true_and, and_true, Bool.not_true, Bool.not_false, if_true, if_false, reduceIte, Bool.false_eq_true, eq_self, D.int.injEq, hi, h0]
    rfl
  | succ n =>
    have e1 : (((n + 1 : Nat) : Int) == 0) = false := by simp; omega
    have k1 : okMul (((n + 1 : Nat) : Int) - 1) p.2 = true := by
      unfold okMul
      rw [Bool.or_eq_true, decide_eq_true_eq]
      left; omega
    have k2 : okMul ((n + 1 : Nat) : Int) p.2 = true := by
      unfold okMul
      rw [Bool.or_eq_true, decide_eq_true_eq]
      left; omega
    simp only [w_c, w_var, w_bin, w_un, w_nil, w_cons, w_fun, w_tup, w_lst, w_dct0, w_call, w_callP, w_if, w_and, w_or, w_not, w_chain, w_bof, w_btru, w_bnot, w_band, w_bor, w_btrue, w_iseq, w_ifun, w_comp, w_onone, w_osome, w_sl, w_lend, w_blend, w_seq, w_snil, w_set, w_own, w_ret, w_retn, w_retv, w_exp, w_sif, w_asg, w_sfor, w_brk, w_cont, w_par2, w_par3, w_app, w_def, lent, al_ok, al_stuck, va_add, va_addI, va_sub, va_neg, va_lt, va_le, va_gt, va_ge, va_eqS, va_neS, va_eqI, va_neI, va_ixL, va_ixT, va_lenL, va_lenT, va_max, va_min, va_abs, va_asB, va_truB, va_itL, va_itT, va_itS, va_tupL, va_tupT, va_inS, va_notInS, va_isN, va_some_bl, List.getElem?_cons_zero, List.getElem?_cons_succ, List.set_cons_zero, List.set_cons_succ, List.map_cons, List.map_nil, List.length_cons, List.length_nil, List.replicate, List.cons_append, List.nil_append, List.append_nil, Nat.reduceSub, Nat.reduceAdd, Nat.sub_self, Nat.zero_add, sizeLine_eq, Nat.reduceLeDiff, pick, List.filterMap_cons, List.filterMap_nil, Option.some.injEq, exists_eq_left', exists_eq_left, exists_const, true_and, and_true, Bool.not_true, Bool.not_false, if_true, if_false, reduceIte, Bool.false_eq_true, eq_self, D.int.injEq, hi, h0, e1, g, va_mul k1, va_mul k2]
    rw [(pw_form hp n).1]
    have : ((n + 1 : Nat) : Int) - 1 = (n : Int) := by omega
    rw [this]
theorem repeated_eq {p : Sm} {n : Nat} (hp : V p) (hn : n < 2 ^ 40) : f__law_repeated [Sm.d p, .int n] S = .ok (Sm.d (pw p n)) S := by
  refine al_eq ?_
  unfold f__law_repeated m__law_repeated
  simp only [w_c, w_var, w_bin, w_un, w_nil, w_cons, w_fun, w_tup, w_lst, w_dct0, w_call, w_callP, w_if, w_and, w_or, w_not, w_chain, w_bof, w_btru, w_bnot, w_band, w_bor, w_btrue, w_iseq, w_ifun, w_comp, w_onone, w_osome, w_sl, w_lend, w_blend, w_seq, w_snil, w_set, w_own, w_ret, w_retn, w_retv, w_exp, w_sif, w_asg, w_sfor, w_brk, w_cont, w_par2, w_par3, w_app, w_def, lent, al_ok, al_stuck, va_add, va_addI, va_sub, va_neg, va_lt, va_le, va_gt, va_ge, va_eqS, va_neS, va_eqI, va_neI, va_ixL, va_ixT, va_lenL, va_lenT, va_max, va_min, va_abs, va_asB, va_truB, va_itL, va_itT, va_itS, va_tupL, va_tupT, va_inS, va_notInS, va_isN, va_some_bl, List.getElem?_cons_zero, List.getElem?_cons_succ, List.set_cons_zero, List.set_cons_succ, List.map_cons, List.map_nil, List.length_cons, List.length_nil, List.replicate, List.cons_append, List.nil_append, List.append_nil, Nat.reduceSub, Nat.reduceAdd, Nat.sub_self, Nat.zero_add, sizeLine_eq, Nat.reduceLeDiff, pick, List.filterMap_cons, List.filterMap_nil, Option.some.injEq, exists_eq_left', exists_eq_left, exists_const, true_and, and_true, Bool.not_true, Bool.not_false, if_true, if_false, reduceIte, Bool.false_eq_true, eq_self, D.int.injEq]
  refine while_wp (fun k ρ S' => S' = S ∧ ∃ a c r : Nat, ρ = [.sh (Sm.d p), .sh (.int n), .sh (Sm.d (pw p a)), .sh (Sm.d (pw p c)), .sh (.int r)] ∧ a + c * r = n ∧ r < 2 ^ k) 40 (by decide) ⟨rfl, 0, 1, n, ?_, by omega, hn⟩ ?_
  · show _ = [_, _, _, Sl.sh (Sm.d (jn (0, 0) p)), _]
    rw [jn_0 hp]
    rfl
  · rintro k ρ _ ⟨rfl, a, c, r, rfl, hr, hk⟩
    simp only [w_c, w_var, w_bin, w_un, w_nil, w_cons, w_fun, w_tup, w_lst, w_dct0, w_call, w_callP, w_if, w_and, w_or, w_not, w_chain, w_bof, w_btru, w_bnot, w_band, w_bor, w_btrue, w_iseq, w_ifun, w_comp, w_onone, w_osome, w_sl, w_lend, w_blend, w_seq, w_snil, w_set, w_own, w_ret, w_retn, w_retv, w_exp, w_sif, w_asg, w_sfor, w_brk, w_cont, w_par2, w_par3, w_app, w_def, lent, al_ok, al_stuck, va_add, va_addI, va_sub, va_neg, va_lt, va_le, va_gt, va_ge, va_eqS, va_neS, va_eqI, va_neI, va_ixL, va_ixT, va_lenL, va_lenT, va_max, va_min, va_abs, va_asB, va_truB, va_itL, va_itT, va_itS, va_tupL, va_tupT, va_inS, va_notInS, va_isN, va_some_bl, List.getElem?_cons_zero, List.getElem?_cons_succ, List.set_cons_zero, List.set_cons_succ, List.map_cons, List.map_nil, List.length_cons, List.length_nil, List.replicate, List.cons_append, List.nil_append, List.append_nil, Nat.reduceSub, Nat.reduceAdd, Nat.sub_self, Nat.zero_add, sizeLine_eq, Nat.reduceLeDiff, pick, List.filterMap_cons, List.filterMap_nil, Option.some.injEq, exists_eq_left', exists_eq_left, exists_const, true_and, and_true, Bool.not_true, Bool.not_false, if_true, if_false, reduceIte, Bool.false_eq_true, eq_self, D.int.injEq]
    by_cases h0 : r = 0
    · subst h0
      rw [if_neg (by simp)]
      simp only [Nat.mul_zero, Nat.add_zero] at hr
      rw [hr]
    · rw [if_pos (by simp; omega)]
      cases k with
      | zero => omega
      | succ k =>
        refine ⟨k, rfl, ?_⟩
        have f2 : ((r : Int).fmod 2) = ((r % 2 : Nat) : Int) := by rw [Int.fmod_eq_emod_of_nonneg _ (by decide)]; rfl
        have d2 : ((r : Int).fdiv 2) = ((r / 2 : Nat) : Int) := by rw [Int.fdiv_eq_ediv_of_nonneg _ (by decide)]; rfl
        simp only [w_c, w_var, w_bin, w_un, w_nil, w_cons, w_fun, w_tup, w_lst, w_dct0, w_call, w_callP, w_if, w_and, w_or, w_not, w_chain, w_bof, w_btru, w_bnot, w_band, w_bor, w_btrue, w_iseq, w_ifun, w_comp, w_onone, w_osome, w_sl, w_lend, w_blend, w_seq, w_snil, w_set, w_own, w_ret, w_retn, w_retv, w_exp, w_sif, w_asg, w_sfor, w_brk, w_cont, w_par2, w_par3, w_app, w_def, lent, al_ok, al_stuck, va_add, va_addI, va_sub, va_neg, va_lt, va_le, va_gt, va_ge, va_eqS, va_neS, va_eqI, va_neI, va_ixL, va_ixT, va_lenL, va_lenT, va_max, va_min, va_abs, va_asB, va_truB, va_itL, va_itT, va_itS, va_tupL, va_tupT, va_inS, va_notInS, va_isN, va_some_bl, List.getElem?_cons_zero, List.getElem?_cons_succ, List.set_cons_zero, List.set_cons_succ, List.map_cons, List.map_nil, List.length_cons, List.length_nil, List.replicate, List.cons_append, List.nil_append, List.append_nil, Nat.reduceSub, Nat.reduceAdd, Nat.sub_self, Nat.zero_add, sizeLine_eq, Nat.reduceLeDiff, pick, List.filterMap_cons, List.filterMap_nil, Option.some.injEq, exists_eq_left', exists_eq_left, exists_const, true_and, and_true, Bool.not_true, Bool.not_false, if_true, if_false, reduceIte, Bool.false_eq_true, eq_self, D.int.injEq, va_mod (show (2 : Int) ≠ 0 by decide), va_fdiv (show (2 : Int) ≠ 0 ∧ (2 : Int).natAbs < 1073741824 by decide), joined_eq, f2, d2]
        have dd : jn (pw p c) (pw p c) = pw p (c + c) := pw_add hp c c
        have hdiv : r = 2 * (r / 2) + r % 2 := by omega
        by_cases h1 : r % 2 = 1
        · rw [if_pos (by rw [h1]; rfl), pw_add hp, dd]
          refine ⟨a + c, c + c, r / 2, rfl, ?_, by rw [Nat.pow_succ] at hk; omega⟩
          rw [← hr]
          have : c * r = c * (2 * (r / 2)) + c * 1 := by rw [← Nat.mul_add, ← h1, ← hdiv]
          rw [this, Nat.add_mul, ← Nat.mul_assoc, Nat.mul_comm c 2, Nat.mul_assoc]
          omega
        · rw [if_neg (by have : r % 2 = 0 := by omega
                         rw [this]; decide), dd]
          refine ⟨a, c + c, r / 2, rfl, ?_, by rw [Nat.pow_succ] at hk; omega⟩
          rw [← hr]
          have h2 : r % 2 = 0 := by omega
          have : c * r = c * (2 * (r / 2)) := by congr 1; omega
          rw [this, Nat.add_mul, ← Nat.mul_assoc, Nat.mul_comm c 2, Nat.mul_assoc]
          omega
theorem passes_eq {p : Sm} {a : Int} : f_passes [Sm.d p, .int a] S = .ok (.bl (decide (p.1 ≤ a))) S := by
  refine al_eq ?_
  unfold f_passes m_passes Sm.d
  simp only [w_c, w_var, w_bin, w_un, w_nil, w_cons, w_fun, w_tup, w_lst, w_dct0, w_call, w_callP, w_if, w_and, w_or, w_not, w_chain, w_bof, w_btru, w_bnot, w_band, w_bor, w_btrue, w_iseq, w_ifun, w_comp, w_onone, w_osome, w_sl, w_lend, w_blend, w_seq, w_snil, w_set, w_own, w_ret, w_retn, w_retv, w_exp, w_sif, w_asg, w_sfor, w_brk, w_cont, w_par2, w_par3, w_app, w_def, lent, al_ok, al_stuck, va_add, va_addI, va_sub, va_neg, va_lt, va_le, va_gt, va_ge, va_eqS, va_neS, va_eqI, va_neI, va_ixL, va_ixT, va_lenL, va_lenT, va_max, va_min, va_abs, va_asB, va_truB, va_itL, va_itT, va_itS, va_tupL, va_tupT, va_inS, va_notInS, va_isN, va_some_bl, List.getElem?_cons_zero, List.getElem?_cons_succ, List.set_cons_zero, List.set_cons_succ, List.map_cons, List.map_nil, List.length_cons, List.length_nil, List.replicate, List.cons_append, List.nil_append, List.append_nil, Nat.reduceSub, Nat.reduceAdd, Nat.sub_self, Nat.zero_add, sizeLine_eq, Nat.reduceLeDiff, pick, List.filterMap_cons, List.filterMap_nil, Option.some.injEq, exists_eq_left', exists_eq_left, exists_const, true_and, and_true, Bool.not_true, Bool.not_false, if_true, if_false, reduceIte, Bool.false_eq_true, eq_self, D.int.injEq, at0]
theorem sums_eq {rs : List Row} {b : Str} (h : rs.length ≤ 1000000) : f__law_sums [.lst (rs.map Row.d), .str b] S = .ok (.lst ((sums b rs).map D.int)) S := by
  refine al_eq ?_
  unfold f__law_sums m__law_sums
  simp only [w_c, w_var, w_bin, w_un, w_nil, w_cons, w_fun, w_tup, w_lst, w_dct0, w_call, w_callP, w_if, w_and, w_or, w_not, w_chain, w_bof, w_btru, w_bnot, w_band, w_bor, w_btrue, w_iseq, w_ifun, w_comp, w_onone, w_osome, w_sl, w_lend, w_blend, w_seq, w_snil, w_set, w_own, w_ret, w_retn, w_retv, w_exp, w_sif, w_asg, w_sfor, w_brk, w_cont, w_par2, w_par3, w_app, w_def, lent, al_ok, al_stuck, va_add, va_addI, va_sub, va_neg, va_lt, va_le, va_gt, va_ge, va_eqS, va_neS, va_eqI, va_neI, va_ixL, va_ixT, va_lenL, va_lenT, va_max, va_min, va_abs, va_asB, va_truB, va_itL, va_itT, va_itS, va_tupL, va_tupT, va_inS, va_notInS, va_isN, va_some_bl, List.getElem?_cons_zero, List.getElem?_cons_succ, List.set_cons_zero, List.set_cons_succ, List.map_cons, List.map_nil, List.length_cons, List.length_nil, List.replicate, List.cons_append, List.nil_append, List.append_nil, Nat.reduceSub, Nat.reduceAdd, Nat.sub_self, Nat.zero_add, sizeLine_eq, Nat.reduceLeDiff, pick, List.filterMap_cons, List.filterMap_nil, Option.some.injEq, exists_eq_left', exists_eq_left, exists_const, true_and, and_true, Bool.not_true, Bool.not_false, if_true, if_false, reduceIte, Bool.false_eq_true, eq_self, D.int.injEq]
  refine for_wp (fun i ρ S' => S' = S ∧ ∃ x, ρ = [.sh (.lst (rs.map Row.d)), .sh (.str b), .ow (.lst ((sums b (rs.take i)).map D.int)), x]) ⟨rfl, _, rfl⟩ ?_ ?_
  · rintro i x ρ _ hx ⟨rfl, y, rfl⟩
    rw [List.getElem?_map] at hx
    cases er : rs[i]? with
    | none => rw [er] at hx; cases hx
    | some r =>
      rw [er] at hx
      cases hx
      refine ⟨_, rfl, ?_⟩
      obtain ⟨l, e, _, _, hl⟩ := sums_spec b (rs.take i)
      have hi := (List.getElem?_eq_some_iff.mp er).1
      have hat : atI ((sums b (rs.take i)).map D.int) (-1) = some (.int (su b (rs.take i)).2) := by
        rw [e, List.map_append]; exact at_last
      simp only [w_c, w_var, w_bin, w_un, w_nil, w_cons, w_fun, w_tup, w_lst, w_dct0, w_call, w_callP, w_if, w_and, w_or, w_not, w_chain, w_bof, w_btru, w_bnot, w_band, w_bor, w_btrue, w_iseq, w_ifun, w_comp, w_onone, w_osome, w_sl, w_lend, w_blend, w_seq, w_snil, w_set, w_own, w_ret, w_retn, w_retv, w_exp, w_sif, w_asg, w_sfor, w_brk, w_cont, w_par2, w_par3, w_app, w_def, lent, al_ok, al_stuck, va_add, va_addI, va_sub, va_neg, va_lt, va_le, va_gt, va_ge, va_eqS, va_neS, va_eqI, va_neI, va_ixL, va_ixT, va_lenL, va_lenT, va_max, va_min, va_abs, va_asB, va_truB, va_itL, va_itT, va_itS, va_tupL, va_tupT, va_inS, va_notInS, va_isN, va_some_bl, List.getElem?_cons_zero, List.getElem?_cons_succ, List.set_cons_zero, List.set_cons_succ, List.map_cons, List.map_nil, List.length_cons, List.length_nil, List.replicate, List.cons_append, List.nil_append, List.append_nil, Nat.reduceSub, Nat.reduceAdd, Nat.sub_self, Nat.zero_add, sizeLine_eq, Nat.reduceLeDiff, pick, List.filterMap_cons, List.filterMap_nil, Option.some.injEq, exists_eq_left', exists_eq_left, exists_const, true_and, and_true, Bool.not_true, Bool.not_false, if_true, if_false, reduceIte, Bool.false_eq_true, eq_self, D.int.injEq, hat, lused_eq, flat]
      refine ⟨by rw [List.length_map, hl, List.length_take]; omega, .sh r.d, ?_⟩
      have e3 : rs.take (i + 1) = rs.take i ++ [r] := by rw [List.take_add_one, er]; rfl
      have e4 : sums b (rs.take i ++ [r]) = sums b (rs.take i) ++ [(su b (rs.take i)).2 + used r b] := by
        show (rs.take i ++ [r]).foldl _ _ = _
        rw [List.foldl_append]
        show sums b (rs.take i) ++ [(sums b (rs.take i)).getLastD 0 + used r b] = _
        rw [show (sums b (rs.take i)).getLastD 0 = (su b (rs.take i)).2 by rw [e]; simp]
      rw [e3, e4, List.map_append]
      rfl
  · rintro ρ _ ⟨rfl, y, rfl⟩
    simp only [w_c, w_var, w_bin, w_un, w_nil, w_cons, w_fun, w_tup, w_lst, w_dct0, w_call, w_callP, w_if, w_and, w_or, w_not, w_chain, w_bof, w_btru, w_bnot, w_band, w_bor, w_btrue, w_iseq, w_ifun, w_comp, w_onone, w_osome, w_sl, w_lend, w_blend, w_seq, w_snil, w_set, w_own, w_ret, w_retn, w_retv, w_exp, w_sif, w_asg, w_sfor, w_brk, w_cont, w_par2, w_par3, w_app, w_def, lent, al_ok, al_stuck, va_add, va_addI, va_sub, va_neg, va_lt, va_le, va_gt, va_ge, va_eqS, va_neS, va_eqI, va_neI, va_ixL, va_ixT, va_lenL, va_lenT, va_max, va_min, va_abs, va_asB, va_truB, va_itL, va_itT, va_itS, va_tupL, va_tupT, va_inS, va_notInS, va_isN, va_some_bl, List.getElem?_cons_zero, List.getElem?_cons_succ, List.set_cons_zero, List.set_cons_succ, List.map_cons, List.map_nil, List.length_cons, List.length_nil, List.replicate, List.cons_append, List.nil_append, List.append_nil, Nat.reduceSub, Nat.reduceAdd, Nat.sub_self, Nat.zero_add, sizeLine_eq, Nat.reduceLeDiff, pick, List.filterMap_cons, List.filterMap_nil, Option.some.injEq, exists_eq_left', exists_eq_left, exists_const, true_and, and_true, Bool.not_true, Bool.not_false, if_true, if_false, reduceIte, Bool.false_eq_true, eq_self, D.int.injEq, List.length_map]
    rw [List.take_length]
end
end Rc

/-! Rc8: bounds, reprs, slices. -/
namespace Rc
open PySem PySem.Spec PyProof.Rows L2 Mi
section
variable {S : Store}
theorem used_bd {r : Row} {b : Str} (h : r.ok) : (used r b).natAbs ≤ 2 * 10 ^ 18 := by
  have hi : ∀ b, (ifS b).natAbs ≤ 1 := fun b => by unfold ifS; split <;> decide
  have := hi b
  unfold Row.ok big at h
  cases r <;> simp only [used] at * <;> (try split) <;> omega
theorem su_bd {b : Str} : ∀ rs : List Row, (∀ r ∈ rs, r.ok) → (su b rs).1.natAbs ≤ rs.length * (2 * 10 ^ 18) ∧ (su b rs).2.natAbs ≤ rs.length * (2 * 10 ^ 18) := by
  refine snoc_ind (fun _ => ⟨by simp [su], by simp [su]⟩) fun rs r ih h => ?_
  obtain ⟨h1, h2⟩ := ih fun x hx => h x (List.mem_append_left _ hx)
  have h3 := used_bd (b := b) (h r (List.mem_append_right _ (List.mem_singleton.mpr rfl)))
  have e2 : su b (rs ++ [r]) = suF b (su b rs) r := by
    show (rs ++ [r]).foldl _ _ = _
    rw [List.foldl_append]; rfl
  rw [e2]
  unfold suF
  simp only [List.length_append, List.length_singleton, Nat.add_mul]
  omega
theorem pw_bd {p : Sm} {k : Nat} (h1 : p.1.natAbs ≤ k) (h2 : p.2.natAbs ≤ k) : ∀ n, (pw p n).1.natAbs ≤ n * k ∧ (pw p n).2.natAbs ≤ n * k
  | 0 => ⟨by simp [pw], by simp [pw]⟩
  | n + 1 => by
    obtain ⟨i1, i2⟩ := pw_bd h1 h2 n
    show (jn (pw p n) p).1.natAbs ≤ _ ∧ (jn (pw p n) p).2.natAbs ≤ _
    unfold jn
    simp only [Nat.add_mul, Nat.one_mul]
    omega
theorem sm_ok {p : Sm} (h1 : p.1.natAbs < 10 ^ 60) (h2 : p.2.natAbs < 10 ^ 60) : okD (Sm.d p) := by
  unfold Sm.d
  simp only [okD, okDs, and_true]
  exact ⟨h1, h2⟩
theorem sm_noK {p : Sm} : noK (Sm.d p) := by unfold Sm.d; simp only [noK, noKs, and_true]
theorem sm_bk {p : Sm} : bkD (Sm.d p) = 2 := rfl
theorem sm_dp {p : Sm} : dpD (Sm.d p) = 1 := rfl
theorem repr_sms {ps : List D} {k : Nat} (h : ∀ p ∈ ps, ∃ q : Sm, p = Sm.d q ∧ q.1.natAbs < 10 ^ 60 ∧ q.2.natAbs < 10 ^ 60) (hl : ps.length ≤ 100) : ∃ k, ∀ S, fRepr S [.lst ps] = some (.str k) := by
  have h1 : okDs ps := okDs_iff.mpr fun d hd => by obtain ⟨q, rfl, q1, q2⟩ := h d hd; exact sm_ok q1 q2
  have h2 : bkDs ps ≤ ps.length * (2 + 1) := bkDs_le fun d hd => by obtain ⟨q, rfl, q1, q2⟩ := h d hd; rw [sm_bk]; exact Nat.le_refl _
  have h3 : dpDs ps ≤ 1 := dpDs_le fun d hd => by obtain ⟨q, rfl, q1, q2⟩ := h d hd; rw [sm_dp]; exact Nat.le_refl _
  obtain ⟨k, _, _, e⟩ := repr_ok (d := .lst ps) (by simpa only [okD] using h1) (by simp only [bkD]; omega) (by simp only [dpD]; omega)
  exact ⟨k, e⟩
theorem repr_sm {q : Sm} (q1 : q.1.natAbs < 10 ^ 60) (q2 : q.2.natAbs < 10 ^ 60) : ∃ k, ∀ S, fRepr S [Sm.d q] = some (.str k) := by
  obtain ⟨k, _, _, e⟩ := repr_ok (d := Sm.d q) (sm_ok q1 q2) (by rw [sm_bk]; decide) (by rw [sm_dp]; decide)
  exact ⟨k, e⟩
theorem repr_bl (b : Bool) : ∃ k, ∀ S, fRepr S [.bl b] = some (.str k) := by
  obtain ⟨k, _, _, e⟩ := repr_ok (d := .bl b) (by simp only [okD]) (by simp [bkD]) (by simp [dpD])
  exact ⟨k, e⟩
theorem row_noK {r : Row} (h : r.ok) : okD r.d ∧ bkD r.d ≤ 30 ∧ dpD r.d = 1 := by
  have wc : ∀ w ∈ (["step", "use", "back", "give", "out", "put", "caught"] : List Str), (∀ c ∈ w.cps.toList, c < 0x110000) ∧ w.length ≤ 8 := by decide +kernel
  have hb : big < 10 ^ 59 := by decide
  have key : ∀ (w : Str) (xs : List D), w ∈ (["step", "use", "back", "give", "out", "put", "caught"] : List Str) → okDs xs → bkDs xs ≤ 15 → dpDs xs = 0 → okD (.tup (.str w :: xs)) ∧ bkD (.tup (.str w :: xs)) ≤ 30 ∧ dpD (.tup (.str w :: xs)) = 1 := by
    intro w xs hw h1 h2 h3
    obtain ⟨c1, c2⟩ := wc w hw
    refine ⟨?_, ?_, ?_⟩
    · simp only [okD, okDs]; exact ⟨c1, h1⟩
    · simp only [bkD, bkDs]; omega
    · simp only [dpD, dpDs]; omega
  have nm : ∀ (b : Str) (i : Int), NameS b → i.natAbs < 10 ^ 60 → okDs [.str b, .int i] ∧ bkDs [.str b, .int i] ≤ 15 ∧ dpDs [.str b, .int i] = 0 := fun b i h1 h2 => by
    refine ⟨?_, ?_, rfl⟩
    · simp only [okDs, okD, and_true]; exact ⟨h1.chars, h2⟩
    · have := h1.2.1; simp only [bkDs, bkD]; omega
  cases r with
  | step => exact key "step" [] (by simp) (by simp [okDs]) (by simp [bkDs]) rfl
  | use b i => obtain ⟨a1, a2, a3⟩ := nm b i h.1 (by have h2 := h.2; omega); exact key "use" _ (by simp) a1 a2 a3
  | back b i => obtain ⟨a1, a2, a3⟩ := nm b i h.1 (by have h2 := h.2; omega); exact key "back" _ (by simp) a1 a2 a3
  | give b i => obtain ⟨a1, a2, a3⟩ := nm b i h.1 (by have h2 := h.2; omega); exact key "give" _ (by simp) a1 a2 a3
  | out v => exact key "out" [.int v] (by simp) (by simp only [okDs, okD, and_true]; have h1 := h.1; have h2 := h.2; omega) (by simp [bkDs, bkD]) rfl
  | put v => exact key "put" [.int v] (by simp) (by simp only [okDs, okD, and_true]; have h1 := h.1; have h2 := h.2; omega) (by simp [bkDs, bkD]) rfl
  | caught b => exact key "caught" [.str b] (by simp) (by simp only [okDs, okD, and_true]; exact NameS.chars h) (by have := h.2.1; simp only [bkDs, bkD]; omega) rfl
theorem cut_lo {xs : List D} {k : Nat} : dSl S (.lst xs) none (some (k : Int)) = some (.lst (xs.take k)) := by
  show some (D.lst (Mi.cutD xs none (some (k : Int)))) = _
  unfold Mi.cutD
  rw [HT.sIx_none, HT.sIx_nat, List.drop_zero, Nat.sub_zero]
  congr 2
  by_cases h : k ≤ xs.length
  · rw [Nat.min_eq_left h]
  · rw [Nat.min_eq_right (by omega), List.take_of_length_le (Nat.le_refl _), List.take_of_length_le (by omega)]
theorem cut_hi {xs : List D} {k : Nat} : dSl S (.lst xs) (some (k : Int)) none = some (.lst (xs.drop k)) := by
  show some (D.lst (Mi.cutD xs (some (k : Int)) none)) = _
  unfold Mi.cutD
  rw [HT.sIx_none, HT.sIx_nat]
  congr 2
  by_cases h : k ≤ xs.length
  · rw [Nat.min_eq_left h]; exact List.take_of_length_le (by rw [List.length_drop]; exact Nat.le_refl _)
  · rw [Nat.min_eq_right (by omega), List.drop_of_length_le (Nat.le_refl _), List.drop_of_length_le (by omega)]; simp
theorem cut_mid {xs : List D} {a b : Nat} (h1 : a ≤ b) (h2 : b ≤ xs.length) : dSl S (.lst xs) (some (a : Int)) (some (b : Int)) = some (.lst ((xs.take b).drop a)) := by
  show some (D.lst (Mi.cutD xs (some (a : Int)) (some (b : Int)))) = _
  unfold Mi.cutD
  rw [HT.sIx_nat, HT.sIx_nat, Nat.min_eq_left h2, Nat.min_eq_left (by omega), List.drop_take]
end
end Rc

namespace K43
open PySem PySem.Spec PyProof.Rows L2 Mi
def top (i : Nat) : Stmt := PySem.Challenge.pw_exactstop_k43_whole_first_failing.main.body.getD i (.Pass ⟨0, 0, 0, 0⟩)
def tab_FORMS : List (Str × D) := [("step", .str ""), ("use", .str "bn"), ("back", .str "bn"), ("give", .str "bz"), ("out", .str "v"), ("put", .str "v"), ("caught", .str "b")]
abbrev s_is_name : Stmt := top 9
abbrev N_is_name : List Str := ["value", "letter"]
abbrev P_is_name : List Str := ["value"]
def m_is_name : SX := sSeq (sIf (bOr (bNot (bTru (mFun fIsi (aCons (mVar 0) (aCons (mC (.ty "str")) (aNil)))))) (bNot (bOf (mChain dLe dLe (mC (.int 1)) (mFun fLen (aCons (mVar 0) (aNil))) (mC (.int 8)))))) (sRet (mC (.bl false))) (sNil)) <|
  sRet (mFun fAll (aCons (mComp (iSeq (mVar 0)) [1] (gSet 1) (bTrue) (mBin dIn (mVar 1) (mC (.str "abcdefghijklmnopqrstuvwxyz")))) (aNil)))
def f_is_name : FX := mDef N_is_name.length m_is_name
abbrev s_is_integer_7 : Stmt := top 7
abbrev N_is_integer_7 : List Str := ["value"]
abbrev P_is_integer_7 : List Str := ["value"]
def m_is_integer_7 : SX := sRet (mAnd (mFun fIsi (aCons (mVar 0) (aCons (mC (.ty "int")) (aNil)))) (mNot (mFun fIsi (aCons (mVar 0) (aCons (mC (.ty "bool")) (aNil))))))
def f_is_integer_7 : FX := mDef N_is_integer_7.length m_is_integer_7
abbrev s_is_value : Stmt := top 10
abbrev N_is_value : List Str := ["value"]
abbrev P_is_value : List Str := ["value"]
def m_is_value : SX := sRet (mAnd (mCall f_is_integer_7 [0] (aCons (mVar 0) (aNil)) (aNil)) (mChain dLe dLe (mUn dNeg (mC (.int 1000000000000000000))) (mVar 0) (mC (.int 1000000000000000000))))
def f_is_value : FX := mDef N_is_value.length m_is_value
abbrev s_is_integer : Stmt := top 21
abbrev N_is_integer : List Str := ["value"]
abbrev P_is_integer : List Str := ["value"]
def m_is_integer : SX := sRet (mAnd (mFun fIsi (aCons (mVar 0) (aCons (mC (.ty "int")) (aNil)))) (mNot (mFun fIsi (aCons (mVar 0) (aCons (mC (.ty "bool")) (aNil))))))
def f_is_integer : FX := mDef N_is_integer.length m_is_integer
abbrev s_fits : Stmt := top 23
abbrev N_fits : List Str := ["sort", "value"]
abbrev P_fits : List Str := ["sort", "value"]
def m_fits : SX := sSeq (sIf (bOf (mBin dEq (mVar 0) (mC (.str "b")))) (sRet (mCall f_is_name [0] (aCons (mVar 1) (aNil)) (aNil))) (sNil)) <|
  sSeq (sIf (bOf (mBin dEq (mVar 0) (mC (.str "v")))) (sRet (mCall f_is_value [0] (aCons (mVar 1) (aNil)) (aNil))) (sNil)) <|
  sRet (mAnd (mCall f_is_integer [0] (aCons (mVar 1) (aNil)) (aNil)) (mIf (bOf (mBin dEq (mVar 0) (mC (.str "n")))) (mBin dGe (mVar 1) (mC (.int 0))) (mBin dNe (mVar 1) (mC (.int 0)))))
def f_fits : FX := mDef N_fits.length m_fits
abbrev s_is_row : Stmt := top 24
abbrev N_is_row : List Str := ["value", "word", "parts", "sort", "part"]
abbrev P_is_row : List Str := ["value"]
def m_is_row : SX := sSeq (sIf (bOr (bNot (bTru (mFun fIsi (aCons (mVar 0) (aCons (mC (.ty "tuple")) (aNil)))))) (bOr (bOf (mBin dEq (mVar 0) (mTup (aNil)))) (bOr (bNot (bTru (mFun fIsi (aCons (mBin dIx (mVar 0) (mC (.int 0))) (aCons (mC (.ty "str")) (aNil)))))) (bOf (mUn (dTabOut tab_FORMS) (mBin dIx (mVar 0) (mC (.int 0)))))))) (sRet (mC (.bl false))) (sNil)) <|
  sSeq (sAsg (mVar 0) (gUnpS 1 (gsCons (gSet 1) (gsCons (gSet 2) (gsNil))))) <|
  sRet (mAnd (mBin dEq (mFun fLen (aCons (mVar 2) (aNil))) (mFun fLen (aCons (mUn (dTab tab_FORMS) (mVar 1)) (aNil)))) (mFun fAll (aCons (mComp (iFun zipD (aCons (mUn (dTab tab_FORMS) (mVar 1)) (aCons (mVar 2) (aNil)))) [3, 4] (gUnp (gsCons (gSet 3) (gsCons (gSet 4) (gsNil)))) (bTrue) (mCall f_fits [0, 1] (aCons (mVar 3) (aCons (mVar 4) (aNil))) (aNil))) (aNil))))
def f_is_row : FX := mDef N_is_row.length m_is_row
abbrev s_require_rows : Stmt := top 25
abbrev N_require_rows : List Str := ["rows", "row"]
abbrev P_require_rows : List Str := ["rows"]
def m_require_rows : SX := sFor (iSeq (mVar 0)) (gSet 1) (sIf (bNot (bTru (mCall f_is_row [0] (aCons (mVar 1) (aNil)) (aNil)))) (sStuck) (sNil))
def f_require_rows : FX := mDef N_require_rows.length m_require_rows
abbrev s_used_by : Stmt := top 26
abbrev N_used_by : List Str := ["row", "budget", "found"]
abbrev P_used_by : List Str := ["row", "budget"]
def m_used_by : SX := sSeq (sSet 2 (mIf (bAnd (bOf (mBin dEq (mVar 1) (mC (.str "steps")))) (bOf (mBin dIn (mBin dIx (mVar 0) (mC (.int 0))) (mTup (aCons (mC (.str "step")) (aCons (mC (.str "use")) (aCons (mC (.str "out")) (aNil)))))))) (mC (.int 1)) (mC (.int 0)))) <|
  sSeq (sIf (bAnd (bOf (mBin dEq (mBin dIx (mVar 0) (mC (.int 0))) (mC (.str "use")))) (bOf (mBin dEq (mBin dIx (mVar 0) (mC (.int 1))) (mVar 1)))) (sSet 2 (mBin dAddI (mVar 2) (mBin dIx (mVar 0) (mC (.int 2))))) (sIf (bAnd (bOf (mBin dIn (mBin dIx (mVar 0) (mC (.int 0))) (mTup (aCons (mC (.str "back")) (aCons (mC (.str "give")) (aNil)))))) (bOf (mBin dEq (mBin dIx (mVar 0) (mC (.int 1))) (mVar 1)))) (sSet 2 (mBin dSub (mVar 2) (mBin dIx (mVar 0) (mC (.int 2))))) (sNil))) <|
  sRet (mVar 2)
def f_used_by : FX := mDef N_used_by.length m_used_by
abbrev s_budgets_of : Stmt := top 29
abbrev N_budgets_of : List Str := ["row"]
abbrev P_budgets_of : List Str := ["row"]
def m_budgets_of : SX := sRet (mIf (bAnd (bOf (mBin dIn (mBin dIx (mVar 0) (mC (.int 0))) (mTup (aCons (mC (.str "use")) (aCons (mC (.str "back")) (aCons (mC (.str "give")) (aNil))))))) (bOf (mBin dNe (mBin dIx (mVar 0) (mC (.int 1))) (mC (.str "steps"))))) (mLst (aCons (mC (.str "steps")) (aCons (mBin dIx (mVar 0) (mC (.int 1))) (aNil)))) (mLst (aCons (mC (.str "steps")) (aNil))))
def f_budgets_of : FX := mDef N_budgets_of.length m_budgets_of
abbrev s_first_failing : Stmt := top 30
abbrev N_first_failing : List Str := ["rows", "amounts", "left", "index", "row", "budgets", "budget"]
abbrev P_first_failing : List Str := ["rows", "amounts"]
def m_first_failing : SX := sSeq (sExpr (mCall f_require_rows [0] (aCons (mVar 0) (aNil)) (aNil))) <|
  sSeq (sSet 2 (mBox (mFun fDict (aCons (mVar 1) (aNil))))) <|
  sSeq (sFor (iFun enumD (aCons (mVar 0) (aNil))) (gUnp (gsCons (gSet 3) (gsCons (gSet 4) (gsNil)))) (sSeq (sSet 5 (mComp (iSeq (mCall f_budgets_of [0] (aCons (mVar 4) (aNil)) (aNil))) [6] (gSet 6) (bOf (mBin dKin (mVar 6) (mVar 2))) (mVar 6))) <|
  sSeq (sFor (iSeq (mVar 5)) (gSet 6) (sIf (bOf (mBin dGt (mCall f_used_by [0, 1] (aCons (mVar 4) (aCons (mVar 6) (aNil))) (aNil)) (mBin dGx (mVar 2) (mVar 6)))) (sRet (mTup (aCons (mVar 3) (aCons (mVar 6) (aNil))))) (sNil))) <|
  sFor (iSeq (mVar 5)) (gSet 6) (sAugK dSub (mVar 2) (mVar 6) (mCall f_used_by [0, 1] (aCons (mVar 4) (aCons (mVar 6) (aNil))) (aNil))))) <|
  sRet (mC .non)
def f_first_failing : FX := mDef N_first_failing.length m_first_failing
abbrev s__law_rng : Stmt := top 32
abbrev N__law_rng : List Str := ["_law_script", "_law_k", "_law_cell"]
abbrev P__law_rng : List Str := ["_law_script", "_law_k"]
def m__law_rng : SX := sSeq (sSet 2 (mIf (bOf (mBin dLt (mVar 1) (mFun fLen (aCons (mVar 0) (aNil))))) (mBin dIx (mVar 0) (mVar 1)) (mBin dAdd (mBin dMul (mC (.int 13)) (mVar 1)) (mC (.int 6))))) <|
  sRet (mBox (mLst (aCons (mFun fMax (aCons (mC (.int 0)) (aCons (mBin dSub (mFun fAbs (aCons (mVar 2) (aNil))) (mBin dPow (mC (.int 10)) (mC (.int 18)))) (aNil)))) (aCons (mBin dAdd (mBin dAdd (mBin dMod (mFun fAbs (aCons (mVar 2) (aNil))) (mC (.int 2147483579))) (mBin dMul (mC (.int 307)) (mVar 1))) (mC (.int 11))) (aNil)))))
def f__law_rng : FX := mDef N__law_rng.length m__law_rng
abbrev s__law_draw : Stmt := top 33
abbrev N__law_draw : List Str := ["_law_rng_here", "_law_many", "_law_digit"]
abbrev P__law_draw : List Str := ["_law_rng_here", "_law_many"]
def m__law_draw : SX := sSeq (sIf (bOf (mBin dGt (mBin dIx (mVar 0) (mC (.int 0))) (mC (.int 0)))) (sSeq (sAsg (mFun fDivmod (aCons (mBin dIx (mVar 0) (mC (.int 0))) (aCons (mVar 1) (aNil)))) (gUnp (gsCons (gIx (mVar 0) (mC (.int 0))) (gsCons (gSet 2) (gsNil))))) <|
  sRet (mVar 2)) (sNil)) <|
  sSeq (sAsg (mBin dMod (mBin dAdd (mBin dMul (mBin dIx (mVar 0) (mC (.int 1))) (mC (.int 48271))) (mC (.int 20011))) (mC (.int 2147483399))) (gIx (mVar 0) (mC (.int 1)))) <|
  sRet (mBin dMod (mBin dFdiv (mBin dMod (mBin dMul (mBin dIx (mVar 0) (mC (.int 1))) (mBin dIx (mVar 0) (mC (.int 1)))) (mC (.int 2147483323))) (mC (.int 13))) (mVar 1))
def f__law_draw : FX := mDef N__law_draw.length m__law_draw
abbrev s__law_names : Stmt := top 34
abbrev N__law_names : List Str := ["_law_rng_here", "_law_many", "_law_letters", "_law_found", "_law_k", "_law_size", "_law_name", "_law_turn", "_law_letter"]
abbrev P__law_names : List Str := ["_law_rng_here", "_law_many"]
def m__law_names : SX := sSeq (sSet 2 (mC (.str "abcdefghijklmnopqrstuvwxyz"))) <|
  sSeq (sOwn 3 (mLst (aNil))) <|
  sSeq (sFor (iFun rng1 (aCons (mVar 1) (aNil))) (gSet 4) (sSeq (sSet 5 (mBin dIx (mLst (aCons (mC (.int 1)) (aCons (mC (.int 1)) (aCons (mC (.int 2)) (aCons (mC (.int 8)) (aNil)))))) (mCall f__law_draw [0, 1] (aCons (mVar 0) (aCons (mC (.int 4)) (aNil))) (aNil)))) <|
  sSeq (sSet 6 (mMethS fJoin (mC (.str "")) (aCons (mComp (iFun rng1 (aCons (mVar 5) (aNil))) [7] (gSet 7) (bTrue) (mBin dIx (mVar 2) (mCall f__law_draw [0, 1] (aCons (mVar 0) (aCons (mC (.int 26)) (aNil))) (aNil)))) (aNil)))) <|
  sSeq (sIf (bOf (mBin dEq (mCall f__law_draw [0, 1] (aCons (mVar 0) (aCons (mC (.int 6)) (aNil))) (aNil)) (mC (.int 0)))) (sSet 6 (mBin dIx (mLst (aCons (mC (.str "use")) (aCons (mC (.str "end")) (aCons (mC (.str "main")) (aCons (mC (.str "limit")) (aCons (mC (.str "both")) (aCons (mC (.str "keep")) (aCons (mC (.str "rest")) (aCons (mC (.str "mem")) (aNil)))))))))) (mCall f__law_draw [0, 1] (aCons (mVar 0) (aCons (mC (.int 8)) (aNil))) (aNil)))) (sNil)) <|
  sSeq (sIf (bOr (bLend (bOf (mBin dIn (mVar 6) (mVar 3)))) (bOf (mBin dEq (mVar 6) (mC (.str "steps"))))) (sSet 6 (mLend (mBin dIx (mComp (iSeq (mVar 2)) [8] (gSet 8) (bOf (mBin dNotIn (mBin dAdd (mVar 8) (mC (.str "q"))) (mVar 3))) (mBin dAdd (mVar 8) (mC (.str "q")))) (mC (.int 0))))) (sNil)) <|
  sApp 3 (mVar 6))) <|
  sRetV 3
def f__law_names : FX := mDef N__law_names.length m__law_names
abbrev s__law_funds : Stmt := top 35
abbrev N__law_funds : List Str := ["_law_rng_here"]
abbrev P__law_funds : List Str := ["_law_rng_here"]
def m__law_funds : SX := sRet (mBin dAdd (mLst (aCons (mC (.str "steps")) (aNil))) (mCall f__law_names [0, 1] (aCons (mVar 0) (aCons (mBin dAdd (mC (.int 1)) (mCall f__law_draw [0, 1] (aCons (mVar 0) (aCons (mC (.int 3)) (aNil))) (aNil))) (aNil))) (aNil)))
def f__law_funds : FX := mDef N__law_funds.length m__law_funds
abbrev s__law_number : Stmt := top 36
abbrev N__law_number : List Str := ["_law_rng_here", "_law_numbers"]
abbrev P__law_number : List Str := ["_law_rng_here"]
def m__law_number : SX := sSeq (sSet 1 (mLst (aCons (mCall f__law_draw [0, 1] (aCons (mVar 0) (aCons (mC (.int 6)) (aNil))) (aNil)) (aCons (mCall f__law_draw [0, 1] (aCons (mVar 0) (aCons (mC (.int 40)) (aNil))) (aNil)) (aCons (mBin dAdd (mBin dPow (mC (.int 10)) (mC (.int 18))) (mBin dMul (mCall f__law_draw [0, 1] (aCons (mVar 0) (aCons (mC (.int 9)) (aNil))) (aNil)) (mBin dPow (mC (.int 10)) (mC (.int 9))))) (aNil)))))) <|
  sRet (mBin dIx (mVar 1) (mBin dIx (mLst (aCons (mC (.int 0)) (aCons (mC (.int 0)) (aCons (mC (.int 1)) (aCons (mC (.int 2)) (aNil)))))) (mCall f__law_draw [0, 1] (aCons (mVar 0) (aCons (mC (.int 4)) (aNil))) (aNil))))
def f__law_number : FX := mDef N__law_number.length m__law_number
abbrev s__law_drawn_row : Stmt := top 37
abbrev N__law_drawn_row : List Str := ["_law_rng_here", "_law_funds_here", "_law_word", "_law_fund", "_law_number_here"]
abbrev P__law_drawn_row : List Str := ["_law_rng_here", "_law_funds_here"]
def m__law_drawn_row : SX := sSeq (sSet 2 (mBin dIx (mLst (aCons (mC (.str "step")) (aCons (mC (.str "use")) (aCons (mC (.str "back")) (aCons (mC (.str "give")) (aCons (mC (.str "out")) (aCons (mC (.str "put")) (aCons (mC (.str "caught")) (aCons (mC (.str "use")) (aNil)))))))))) (mCall f__law_draw [0, 1] (aCons (mVar 0) (aCons (mC (.int 8)) (aNil))) (aNil)))) <|
  sSeq (sPar2 3 4 (aCons (mBin dIx (mVar 1) (mCall f__law_draw [0, 1] (aCons (mVar 0) (aCons (mFun fLen (aCons (mVar 1) (aNil))) (aNil))) (aNil))) (aCons (mCall f__law_number [0] (aCons (mVar 0) (aNil)) (aNil)) (aNil)))) <|
  sSeq (sIf (bOf (mBin dEq (mVar 2) (mC (.str "step")))) (sRet (mTup (aCons (mVar 2) (aNil)))) (sNil)) <|
  sSeq (sIf (bOf (mBin dEq (mVar 2) (mC (.str "caught")))) (sRet (mTup (aCons (mVar 2) (aCons (mVar 3) (aNil))))) (sNil)) <|
  sSeq (sIf (bOf (mBin dIn (mVar 2) (mTup (aCons (mC (.str "out")) (aCons (mC (.str "put")) (aNil)))))) (sRet (mTup (aCons (mVar 2) (aCons (mIf (bOf (mBin dLt (mVar 4) (mBin dPow (mC (.int 10)) (mC (.int 18))))) (mBin dIx (mLst (aCons (mBin dSub (mVar 4) (mC (.int 20))) (aCons (mBin dPow (mC (.int 10)) (mC (.int 18))) (aCons (mUn dNeg (mBin dPow (mC (.int 10)) (mC (.int 18)))) (aNil))))) (mCall f__law_draw [0, 1] (aCons (mVar 0) (aCons (mC (.int 3)) (aNil))) (aNil))) (mBin dPow (mC (.int 10)) (mC (.int 18)))) (aNil))))) (sNil)) <|
  sSeq (sIf (bOf (mBin dEq (mVar 2) (mC (.str "give")))) (sRet (mTup (aCons (mVar 2) (aCons (mVar 3) (aCons (mBin dIx (mLst (aCons (mBin dAdd (mVar 4) (mC (.int 1))) (aCons (mBin dSub (mUn dNeg (mC (.int 1))) (mVar 4)) (aNil)))) (mCall f__law_draw [0, 1] (aCons (mVar 0) (aCons (mC (.int 2)) (aNil))) (aNil))) (aNil)))))) (sNil)) <|
  sRet (mTup (aCons (mVar 2) (aCons (mVar 3) (aCons (mVar 4) (aNil)))))
def f__law_drawn_row : FX := mDef N__law_drawn_row.length m__law_drawn_row
abbrev s__law_drawn_rows : Stmt := top 38
abbrev N__law_drawn_rows : List Str := ["_law_rng_here", "_law_funds_here", "_law_most", "_law_turn"]
abbrev P__law_drawn_rows : List Str := ["_law_rng_here", "_law_funds_here", "_law_most"]
def m__law_drawn_rows : SX := sRet (mComp (iFun rng1 (aCons (mCall f__law_draw [0, 1] (aCons (mVar 0) (aCons (mBin dAdd (mVar 2) (mC (.int 1))) (aNil))) (aNil)) (aNil))) [3] (gSet 3) (bTrue) (mCall f__law_drawn_row [0, 1] (aCons (mVar 0) (aCons (mVar 1) (aNil))) (aNil)))
def f__law_drawn_rows : FX := mDef N__law_drawn_rows.length m__law_drawn_rows
abbrev s_summary_of : Stmt := top 27
abbrev N_summary_of : List Str := ["rows", "budget", "row", "need", "net"]
abbrev P_summary_of : List Str := ["rows", "budget"]
def m_summary_of : SX := sSeq (sExpr (mCall f_require_rows [0] (aCons (mVar 0) (aNil)) (aNil))) <|
  sSeq (sAsg (mTup (aCons (mC (.int 0)) (aCons (mC (.int 0)) (aNil)))) (gUnp (gsCons (gSet 3) (gsCons (gSet 4) (gsNil))))) <|
  sSeq (sFor (iSeq (mVar 0)) (gSet 2) (sSeq (sSet 4 (mBin dAddI (mVar 4) (mCall f_used_by [0, 1] (aCons (mVar 2) (aCons (mVar 1) (aNil))) (aNil)))) <|
  sSet 3 (mFun fMax (aCons (mVar 3) (aCons (mVar 4) (aNil)))))) <|
  sRet (mTup (aCons (mVar 3) (aCons (mVar 4) (aNil))))
def f_summary_of : FX := mDef N_summary_of.length m_summary_of
abbrev s__law_given : Stmt := top 41
abbrev N__law_given : List Str := ["_law_rng_here", "_law_rows", "_law_funds_here", "_law_found", "_law_fund", "_law_need", "_law_amounts"]
abbrev P__law_given : List Str := ["_law_rng_here", "_law_rows", "_law_funds_here"]
def m__law_given : SX := sSeq (sSet 3 (mBox (mDct0))) <|
  sSeq (sFor (iSeq (mIf (bOf (mBin dEq (mCall f__law_draw [0, 1] (aCons (mVar 0) (aCons (mC (.int 2)) (aNil))) (aNil)) (mC (.int 0)))) (mRev (mVar 2)) (mVar 2))) (gSet 4) (sSeq (sSet 5 (mBin dIx (mCall f_summary_of [0, 1] (aCons (mVar 1) (aCons (mVar 4) (aNil))) (aNil)) (mC (.int 0)))) <|
  sSeq (sSet 6 (mLst (aCons (mVar 5) (aCons (mFun fMax (aCons (mC (.int 0)) (aCons (mBin dSub (mVar 5) (mC (.int 1))) (aNil)))) (aCons (mCall f__law_draw [0, 1] (aCons (mVar 0) (aCons (mC (.int 8)) (aNil))) (aNil)) (aCons (mCall f__law_draw [0, 1] (aCons (mVar 0) (aCons (mC (.int 40)) (aNil))) (aNil)) (aCons (mBin dPow (mC (.int 10)) (mC (.int 29))) (aCons (mBin dFdiv (mVar 5) (mC (.int 2))) (aNil))))))))) <|
  sIf (bOf (mBin dGt (mCall f__law_draw [0, 1] (aCons (mVar 0) (aCons (mC (.int 5)) (aNil))) (aNil)) (mC (.int 0)))) (sAsg (mBin dIx (mVar 6) (mCall f__law_draw [0, 1] (aCons (mVar 0) (aCons (mC (.int 6)) (aNil))) (aNil))) (gKx (mVar 3) (mVar 4))) (sNil))) <|
  sSeq (sIf (bOf (mBin dEq (mCall f__law_draw [0, 1] (aCons (mVar 0) (aCons (mC (.int 3)) (aNil))) (aNil)) (mC (.int 0)))) (sAsg (mC (.int 0)) (gKx (mVar 3) (mC (.str "nobody")))) (sNil)) <|
  sRet (mVar 3)
def f__law_given : FX := mDef N__law_given.length m__law_given
abbrev s_passes : Stmt := top 28
abbrev N_passes : List Str := ["summary", "amount"]
abbrev P_passes : List Str := ["summary", "amount"]
def m_passes : SX := sRet (mBin dLe (mBin dIx (mVar 0) (mC (.int 0))) (mVar 1))
def f_passes : FX := mDef N_passes.length m_passes
abbrev s__law_used : Stmt := top 39
abbrev N__law_used : List Str := ["_law_row", "_law_fund", "_law_found"]
abbrev P__law_used : List Str := ["_law_row", "_law_fund"]
def m__law_used : SX := sSeq (sSet 2 (mFun fInt (aCons (mAnd (mBin dEq (mVar 1) (mC (.str "steps"))) (mBin dIn (mBin dIx (mVar 0) (mC (.int 0))) (mTup (aCons (mC (.str "step")) (aCons (mC (.str "use")) (aCons (mC (.str "out")) (aNil))))))) (aNil)))) <|
  sSeq (sIf (bAnd (bOf (mBin dEq (mBin dIx (mVar 0) (mC (.int 0))) (mC (.str "use")))) (bOf (mBin dEq (mBin dIx (mVar 0) (mC (.int 1))) (mVar 1)))) (sSet 2 (mBin dAdd (mVar 2) (mBin dIx (mVar 0) (mC (.int 2))))) (sNil)) <|
  sSeq (sIf (bAnd (bOf (mBin dIn (mBin dIx (mVar 0) (mC (.int 0))) (mTup (aCons (mC (.str "back")) (aCons (mC (.str "give")) (aNil)))))) (bOf (mBin dEq (mBin dIx (mVar 0) (mC (.int 1))) (mVar 1)))) (sSet 2 (mBin dSub (mVar 2) (mBin dIx (mVar 0) (mC (.int 2))))) (sNil)) <|
  sRet (mVar 2)
def f__law_used : FX := mDef N__law_used.length m__law_used
abbrev s__law_due : Stmt := top 40
abbrev N__law_due : List Str := ["_law_rows", "_law_given_here", "_law_rests", "_law_at", "_law_row", "_law_lacking", "_law_fund"]
abbrev P__law_due : List Str := ["_law_rows", "_law_given_here"]
def m__law_due : SX := sSeq (sSet 2 (mBox (mFun fDict (aCons (mVar 1) (aNil))))) <|
  sSeq (sFor (iFun enumD (aCons (mVar 0) (aNil))) (gUnp (gsCons (gSet 3) (gsCons (gSet 4) (gsNil)))) (sSeq (sLock (mVar 2) (sSet 5 (mComp (iSeqF (mVar 2)) [6] (gSet 6) (bOf (mBin dGt (mCall f__law_used [0, 1] (aCons (mVar 4) (aCons (mVar 6) (aNil))) (aNil)) (mBin dGx (mVar 2) (mVar 6)))) (mVar 6)))) <|
  sSeq (sIf (bOf (mBin dNe (mVar 5) (mLst (aNil)))) (sRet (mTup (aCons (mVar 3) (aCons (mIf (bOf (mBin dIn (mC (.str "steps")) (mVar 5))) (mC (.str "steps")) (mBin dIx (mVar 5) (mC (.int 0)))) (aNil))))) (sNil)) <|
  sFor (iSeq (mFun fListK (aCons (mVar 2) (aNil)))) (gSet 6) (sAsg (mBin dSub (mBin dGx (mVar 2) (mVar 6)) (mCall f__law_used [0, 1] (aCons (mVar 4) (aCons (mVar 6) (aNil))) (aNil))) (gKx (mVar 2) (mVar 6))))) <|
  sRet (mC .non)
def f__law_due : FX := mDef N__law_due.length m__law_due
abbrev s__law_right : Stmt := top 42
abbrev N__law_right : List Str := ["_law_rng_here", "_law_rows", "_law_given_here", "_law_due_here", "_law_shown", "_law_longer", "_law_fund"]
abbrev P__law_right : List Str := ["_law_rng_here", "_law_rows", "_law_given_here"]
def m__law_right : SX := sSeq (sPar2 3 4 (aCons (mCall f__law_due [0, 1] (aCons (mVar 1) (aCons (mVar 2) (aNil))) (aNil)) (aCons (mFun fRepr (aCons (mLst (aCons (mVar 1) (aCons (mVar 2) (aNil)))) (aNil))) (aNil)))) <|
  sSeq (sIf (bOf (mBin dNe (mFun fRepr (aCons (mLst (aCons (mCall f_first_failing [0, 1] (aCons (mVar 1) (aCons (mVar 2) (aNil))) (aNil)) (aCons (mCall f_first_failing [0, 1] (aCons (mFun fTuple (aCons (mVar 1) (aNil))) (aCons (mVar 2) (aNil))) (aNil)) (aNil)))) (aNil))) (mFun fRepr (aCons (mLst (aCons (mVar 3) (aCons (mVar 3) (aNil)))) (aNil))))) (sRet (mC (.bl false))) (sNil)) <|
  sSeq (sIf (bOf (mBin dNe (mBin dIs (mVar 3) (mC .non)) (mFun fAll (aCons (mLock (mVar 2) (mComp (iSeqF (mVar 2)) [6] (gSet 6) (bTrue) (mCall f_passes [0, 1] (aCons (mCall f_summary_of [0, 1] (aCons (mVar 1) (aCons (mVar 6) (aNil))) (aNil)) (aCons (mBin dGx (mVar 2) (mVar 6)) (aNil))) (aNil)))) (aNil))))) (sRet (mC (.bl false))) (sNil)) <|
  sSeq (sIf (bOf (mBin dIsnt (mVar 3) (mC .non))) (sSeq (sIf (bOf (mBin dIsnt (mCall f_first_failing [0, 1] (aCons (mSl (mVar 1) (oNone) (oSome (mBin dIx (mVar 3) (mC (.int 0))))) (aCons (mVar 2) (aNil))) (aNil)) (mC .non))) (sRet (mC (.bl false))) (sNil)) <|
  sSeq (sSet 5 (mBin dAdd (mSl (mVar 1) (oNone) (oSome (mBin dAdd (mBin dIx (mVar 3) (mC (.int 0))) (mC (.int 1))))) (mLst (aCons (mTup (aCons (mC (.str "back")) (aCons (mC (.str "nobody")) (aCons (mC (.int 5)) (aNil))))) (aCons (mTup (aCons (mC (.str "step")) (aNil))) (aNil)))))) <|
  sIf (bOf (mBin dNe (mCall f_first_failing [0, 1] (aCons (mVar 5) (aCons (mVar 2) (aNil))) (aNil)) (mVar 3))) (sRet (mC (.bl false))) (sNil)) (sNil)) <|
  sRet (mBin dEq (mFun fRepr (aCons (mLst (aCons (mVar 1) (aCons (mVar 2) (aNil)))) (aNil))) (mVar 4))
def f__law_right : FX := mDef N__law_right.length m__law_right
abbrev s_law : Stmt := top 43
abbrev N_law : List Str := ["_law_script", "_law_k", "_law_both", "_law_told", "_law_rng_here", "_law_funds_here", "_law_rows", "_law_turn"]
abbrev P_law : List Str := ["_law_script"]
def m_law : SX := sSeq (sFor (iFun rng1 (aCons (mFun fMax (aCons (mC (.int 1)) (aCons (mFun fMin (aCons (mC (.int 5)) (aCons (mFun fLen (aCons (mVar 0) (aNil))) (aNil)))) (aNil)))) (aNil))) (gSet 1) (sSeq (sSet 4 (mCall f__law_rng [0, 1] (aCons (mVar 0) (aCons (mVar 1) (aNil))) (aNil))) <|
  sSeq (sSet 5 (mCall f__law_funds [0] (aCons (mVar 4) (aNil)) (aNil))) <|
  sSeq (sSet 6 (mCall f__law_drawn_rows [0, 1, 2] (aCons (mVar 4) (aCons (mVar 5) (aCons (mC (.int 14)) (aNil)))) (aNil))) <|
  sFor (iFun rng1 (aCons (mC (.int 4)) (aNil))) (gSet 7) (sIf (bNot (bTru (mCall f__law_right [0, 1, 2] (aCons (mVar 4) (aCons (mVar 6) (aCons (mCall f__law_given [0, 1, 2] (aCons (mVar 4) (aCons (mVar 6) (aCons (mVar 5) (aNil)))) (aNil)) (aNil)))) (aNil)))) (sRet (mC (.bl false))) (sNil)))) <|
  sSeq (sSet 2 (mLst (aCons (mTup (aCons (mC (.str "use")) (aCons (mC (.str "steps")) (aCons (mC (.int 2)) (aNil))))) (aCons (mTup (aCons (mC (.str "use")) (aCons (mC (.str "mem")) (aCons (mC (.int 3)) (aNil))))) (aNil))))) <|
  sSeq (sSet 3 (mLst (aCons (mCall f_first_failing [0, 1] (aCons (mVar 2) (aCons (mDct (flatA [((mC (.str "steps")), (mC (.int 2)))])) (aNil))) (aNil)) (aCons (mCall f_first_failing [0, 1] (aCons (mVar 2) (aCons (mDct (flatA [((mC (.str "mem")), (mC (.int 2))), ((mC (.str "steps")), (mC (.int 3)))])) (aNil))) (aNil)) (aNil))))) <|
  sSeq (sSet 3 (mBin dAdd (mVar 3) (mLst (aCons (mCall f_first_failing [0, 1] (aCons (mLst (aNil)) (aCons (mDct (flatA [((mC (.str "mem")), (mC (.int 0)))])) (aNil))) (aNil)) (aCons (mCall f_first_failing [0, 1] (aCons (mVar 2) (aCons (mDct0) (aNil))) (aNil)) (aNil)))))) <|
  sRet (mBin dEq (mVar 3) (mLst (aCons (mTup (aCons (mC (.int 0)) (aCons (mC (.str "steps")) (aNil)))) (aCons (mTup (aCons (mC (.int 1)) (aCons (mC (.str "steps")) (aNil)))) (aCons (mC .non) (aCons (mC .non) (aNil)))))))
def f_law : FX := mDef N_law.length m_law
structure Txt (K : PySem.W.Frag) (mg : Str → Option Value) (w : World) : Prop where
  b_abs : mg "abs" = none
  b_all : mg "all" = none
  b_bool : mg "bool" = none
  b_dict : mg "dict" = none
  b_divmod : mg "divmod" = none
  b_enumerate : mg "enumerate" = none
  b_int : mg "int" = none
  b_isinstance : mg "isinstance" = none
  b_len : mg "len" = none
  b_list : mg "list" = none
  b_max : mg "max" = none
  b_min : mg "min" = none
  b_range : mg "range" = none
  b_repr : mg "repr" = none
  b_str : mg "str" = none
  b_tuple : mg "tuple" = none
  b_zip : mg "zip" = none
  c_BACK : ∃ t, mg "BACK" = some (.str "back" t)
  c_GIVE : ∃ t, mg "GIVE" = some (.str "give" t)
  c_GREATEST_VALUE : ∃ t, mg "GREATEST_VALUE" = some (.int 1000000000000000000 t)
  c_LETTERS : ∃ t, mg "LETTERS" = some (.str "abcdefghijklmnopqrstuvwxyz" t)
  c_MOST_LETTERS : ∃ t, mg "MOST_LETTERS" = some (.int 8 t)
  c_OUT : ∃ t, mg "OUT" = some (.str "out" t)
  c_STEP : ∃ t, mg "STEP" = some (.str "step" t)
  c_STEPS : ∃ t, mg "STEPS" = some (.str "steps" t)
  c_USE : ∃ t, mg "USE" = some (.str "use" t)
  t_FORMS : ∃ a, mg "FORMS" = some (.ref a) ∧ KTab K w a tab_FORMS
section
variable {P : Program} {w : World} {K : PySem.W.Frag} {mg : Str → Option Value} {base : Heap}
theorem sc_is_name : FnScope N_is_name P_is_name (defScope s_is_name) := ⟨rfl, rfl, rfl, by decide +kernel, rfl, by decide +kernel, by decide +kernel⟩
theorem d_is_name {x : Str} {fa : Addr} {fd : FuncData} (T : Txt K mg w) (F : Fun K "is_name" "is_name" s_is_name fa fd) (hm : mg x = some (.ref fa)) : DefOk P w K mg base 1 x s_is_name P_is_name f_is_name := by
  obtain ⟨t_LETTERS, g_LETTERS⟩ := T.c_LETTERS
  obtain ⟨t_MOST_LETTERS, g_MOST_LETTERS⟩ := T.c_MOST_LETTERS
  refine ⟨fa, _, "is_name", fd, F, hm, fn_ok F sc_is_name fun cdv A outer s H E hg hr => ?_⟩
  unfold m_is_name
  exact pss_consM (ps_ifM (pb_w (pbw_or (pb_not (pb_val (pm_callB call_isi isi_m T.b_isinstance (by decide +kernel) (pam_cons (pm_var (pv 0)) (pam_cons (pm_ty T.b_str (by decide +kernel)) (pam_nil)))))) (pbw_or1 (pb_not (pb_chain or_le le_m or_le le_m (pm_int) (pm_callB or_len len_m T.b_len (by decide +kernel) (pam_cons (pm_var (pv 0)) (pam_nil))) (pm_glob (v := .int 8) g_MOST_LETTERS ⟨_, rfl⟩ (fun _ _ _ => .int _))))))) (pss_oneM (ps_retM (pm_bl))) (pss_nilM)) <|
    pss_oneM (ps_retM (pm_callB (cr_all rfl) all_m T.b_all (by decide +kernel) (pam_cons (pm_of (pn_lc (own := [("letter", 1)]) rfl sc_is_name.nd (pim_seq (pm_var (pv 0))) (blkOk_by (N := N_is_name) (sc := defScope s_is_name) (by decide +kernel)) ⟨fun _ _ _ _ _ => pg_name (i := 1) sc_is_name.nd rfl (by first | exact .inl rfl | exact .inr rfl), bg_name, fun _ _ _ _ _ => PTs_imp pts_nil fun σ H Q h => bm_true h, fun _ _ _ _ _ => pm_cmp (or_in (hu65 hr)) in_m (pm_var (pv 1)) (pm_glob (v := .str "abcdefghijklmnopqrstuvwxyz") g_LETTERS ⟨_, rfl⟩ (fun _ _ _ => .str _)) (by with_unfolding_all rfl)⟩)) (pam_nil))))
theorem sc_is_integer_7 : FnScope N_is_integer_7 P_is_integer_7 (defScope s_is_integer_7) := ⟨rfl, rfl, rfl, by decide +kernel, rfl, by decide +kernel, by decide +kernel⟩
theorem d_is_integer_7 {x : Str} {fa : Addr} {fd : FuncData} (T : Txt K mg w) (F : Fun K "is_integer" "is_integer" s_is_integer_7 fa fd) (hm : mg x = some (.ref fa)) : DefOk P w K mg base 1 x s_is_integer_7 P_is_integer_7 f_is_integer_7 := by
  refine ⟨fa, _, "is_integer", fd, F, hm, fn_ok F sc_is_integer_7 fun cdv A outer s H E hg hr => ?_⟩
  unfold m_is_integer_7
  exact pss_oneM (ps_retM (pm_and (pm_callB call_isi isi_m T.b_isinstance (by decide +kernel) (pam_cons (pm_var (pv 0)) (pam_cons (pm_ty T.b_int (by decide +kernel)) (pam_nil)))) (pm_one (pm_not (pm_callB call_isi isi_m T.b_isinstance (by decide +kernel) (pam_cons (pm_var (pv 0)) (pam_cons (pm_ty T.b_bool (by decide +kernel)) (pam_nil))))))))
theorem sc_is_value : FnScope N_is_value P_is_value (defScope s_is_value) := ⟨rfl, rfl, rfl, by decide +kernel, rfl, by decide +kernel, by decide +kernel⟩
theorem d_is_value {x : Str} {fa : Addr} {fd : FuncData} (T : Txt K mg w) (F : Fun K "is_value" "is_value" s_is_value fa fd) (hm : mg x = some (.ref fa)) (D_is_integer_names : DefOk P w K mg base 1 "is_integer_names" s_is_integer_7 P_is_integer_7 f_is_integer_7) : DefOk P w K mg base 2 x s_is_value P_is_value f_is_value := by
  obtain ⟨t_GREATEST_VALUE, g_GREATEST_VALUE⟩ := T.c_GREATEST_VALUE
  refine ⟨fa, _, "is_value", fd, F, hm, fn_ok F sc_is_value fun cdv A outer s H E hg hr => ?_⟩
  unfold m_is_value
  exact pss_oneM (ps_retM (pm_and (pm_call (ks := []) (idx := [0]) (n := 1) D_is_integer_names hg hr (by decide) (takes_of rfl rfl rfl rfl) (fun _ _ _ _ _ _ _ _ us ws hu hw => match us, ws, hu, hw with | [_], [], _, _ => rfl) (pam_cons (pm_var (pv 0)) (pam_nil)) (pkm_nil) (alen_cons (alen_nil)) (alen_nil) (fun vs zs hv hz => match vs, zs, hv, hz with | [_], [], _, _ => rfl)) (pm_one (pm_chain or_le le_m or_le le_m (pm_un un_neg neg_m (pm_glob (v := .int 1000000000000000000) g_GREATEST_VALUE ⟨_, rfl⟩ (fun _ _ _ => .int _))) (pm_var (pv 0)) (pm_glob (v := .int 1000000000000000000) g_GREATEST_VALUE ⟨_, rfl⟩ (fun _ _ _ => .int _))))))
theorem sc_is_integer : FnScope N_is_integer P_is_integer (defScope s_is_integer) := ⟨rfl, rfl, rfl, by decide +kernel, rfl, by decide +kernel, by decide +kernel⟩
theorem d_is_integer {x : Str} {fa : Addr} {fd : FuncData} (T : Txt K mg w) (F : Fun K "is_integer" "is_integer" s_is_integer fa fd) (hm : mg x = some (.ref fa)) : DefOk P w K mg base 1 x s_is_integer P_is_integer f_is_integer := by
  refine ⟨fa, _, "is_integer", fd, F, hm, fn_ok F sc_is_integer fun cdv A outer s H E hg hr => ?_⟩
  unfold m_is_integer
  exact pss_oneM (ps_retM (pm_and (pm_callB call_isi isi_m T.b_isinstance (by decide +kernel) (pam_cons (pm_var (pv 0)) (pam_cons (pm_ty T.b_int (by decide +kernel)) (pam_nil)))) (pm_one (pm_not (pm_callB call_isi isi_m T.b_isinstance (by decide +kernel) (pam_cons (pm_var (pv 0)) (pam_cons (pm_ty T.b_bool (by decide +kernel)) (pam_nil))))))))
theorem sc_fits : FnScope N_fits P_fits (defScope s_fits) := ⟨rfl, rfl, rfl, by decide +kernel, rfl, by decide +kernel, by decide +kernel⟩
theorem d_fits {x : Str} {fa : Addr} {fd : FuncData} (T : Txt K mg w) (F : Fun K "fits" "fits" s_fits fa fd) (hm : mg x = some (.ref fa)) (D_is_name : DefOk P w K mg base 1 "is_name" s_is_name P_is_name f_is_name) (D_is_value : DefOk P w K mg base 2 "is_value" s_is_value P_is_value f_is_value) (D_is_integer_records : DefOk P w K mg base 1 "is_integer_records" s_is_integer P_is_integer f_is_integer) : DefOk P w K mg base 3 x s_fits P_fits f_fits := by
  refine ⟨fa, _, "fits", fd, F, hm, fn_ok F sc_fits fun cdv A outer s H E hg hr => ?_⟩
  unfold m_fits
  exact pss_consM (ps_ifM (pb_cmp (or_eq (hu64 hr)) eq_m (pm_var (pv 0)) (pm_str)) (pss_oneM (ps_retM (pm_call (ks := []) (idx := [0]) (n := 1) D_is_name hg hr (by decide) (takes_of rfl rfl rfl rfl) (fun _ _ _ _ _ _ _ _ us ws hu hw => match us, ws, hu, hw with | [_], [], _, _ => rfl) (pam_cons (pm_var (pv 1)) (pam_nil)) (pkm_nil) (alen_cons (alen_nil)) (alen_nil) (fun vs zs hv hz => match vs, zs, hv, hz with | [_], [], _, _ => rfl)))) (pss_nilM)) <|
    pss_consM (ps_ifM (pb_cmp (or_eq (hu64 hr)) eq_m (pm_var (pv 0)) (pm_str)) (pss_oneM (ps_retM (pm_call (ks := []) (idx := [0]) (n := 1) D_is_value hg hr (by decide) (takes_of rfl rfl rfl rfl) (fun _ _ _ _ _ _ _ _ us ws hu hw => match us, ws, hu, hw with | [_], [], _, _ => rfl) (pam_cons (pm_var (pv 1)) (pam_nil)) (pkm_nil) (alen_cons (alen_nil)) (alen_nil) (fun vs zs hv hz => match vs, zs, hv, hz with | [_], [], _, _ => rfl)))) (pss_nilM)) <|
    pss_oneM (ps_retM (pm_and (pm_call (ks := []) (idx := [0]) (n := 1) D_is_integer_records hg hr (by decide) (takes_of rfl rfl rfl rfl) (fun _ _ _ _ _ _ _ _ us ws hu hw => match us, ws, hu, hw with | [_], [], _, _ => rfl) (pam_cons (pm_var (pv 1)) (pam_nil)) (pkm_nil) (alen_cons (alen_nil)) (alen_nil) (fun vs zs hv hz => match vs, zs, hv, hz with | [_], [], _, _ => rfl)) (pm_one (pm_ifE (pb_cmp (or_eq (hu64 hr)) eq_m (pm_var (pv 0)) (pm_str)) (pm_cmp or_ge ge_m (pm_var (pv 1)) (pm_int)) (pm_cmp (or_ne (hu64 hr)) ne_m (pm_var (pv 1)) (pm_int))))))
theorem sc_is_row : FnScope N_is_row P_is_row (defScope s_is_row) := ⟨rfl, rfl, rfl, by decide +kernel, rfl, by decide +kernel, by decide +kernel⟩
theorem d_is_row {x : Str} {fa : Addr} {fd : FuncData} (T : Txt K mg w) (F : Fun K "is_row" "is_row" s_is_row fa fd) (hm : mg x = some (.ref fa)) (D_fits : DefOk P w K mg base 3 "fits" s_fits P_fits f_fits) : DefOk P w K mg base 4 x s_is_row P_is_row f_is_row := by
  obtain ⟨r_FORMS, g_FORMS, T_FORMS⟩ := T.t_FORMS
  refine ⟨fa, _, "is_row", fd, F, hm, fn_ok F sc_is_row fun cdv A outer s H E hg hr => ?_⟩
  unfold m_is_row
  exact pss_consM (ps_ifM (pb_w (pbw_or (pb_not (pb_val (pm_callB call_isi isi_m T.b_isinstance (by decide +kernel) (pam_cons (pm_var (pv 0)) (pam_cons (pm_ty T.b_tuple (by decide +kernel)) (pam_nil)))))) (pbw_or (pb_cmp (or_eq (hu64 hr)) eq_m (pm_var (pv 0)) (pm_tup (pam_nil))) (pbw_or (pb_not (pb_val (pm_callB call_isi isi_m T.b_isinstance (by decide +kernel) (pam_cons (pm_ix (pm_var (pv 0)) (pm_int)) (pam_cons (pm_ty T.b_str (by decide +kernel)) (pam_nil)))))) (pbw_or1 (pb_tabOut T_FORMS g_FORMS (pm_ix (pm_var (pv 0)) (pm_int)))))))) (pss_oneM (ps_retM (pm_bl))) (pss_nilM)) <|
    pss_consM (ps_asgM (pm_var (pv 0)) (pg_unpS (i := 1) rfl (pgs_consM (pg_nameM (pg_name (i := 1) sc_is_row.nd rfl (by first | exact .inl rfl | exact .inr rfl))) (pgs_starM (pg_nameM (pg_name (i := 2) sc_is_row.nd rfl (by first | exact .inl rfl | exact .inr rfl))))))) <|
    pss_oneM (ps_retM (pm_and (pm_cmp (or_eq (hu64 hr)) eq_m (pm_callB or_len len_m T.b_len (by decide +kernel) (pam_cons (pm_var (pv 2)) (pam_nil))) (pm_callB or_len len_m T.b_len (by decide +kernel) (pam_cons (pm_tabIx T_FORMS g_FORMS (pm_var (pv 1))) (pam_nil)))) (pm_one (pm_callB (cr_all rfl) all_m T.b_all (by decide +kernel) (pam_cons (pm_of (pn_lc (own := [("sort", 3), ("part", 4)]) rfl sc_is_row.nd (pim_zip2 T.b_zip (pam_cons (pm_tabIx T_FORMS g_FORMS (pm_var (pv 1))) (pam_cons (pm_var (pv 2)) (pam_nil)))) (blkOk_by (N := N_is_row) (sc := defScope s_is_row) (by decide +kernel)) ⟨fun _ _ _ _ _ => pg_tup rfl (pgs_cons (pg_name (i := 3) sc_is_row.nd rfl (by first | exact .inl rfl | exact .inr rfl)) (pgs_cons (pg_name (i := 4) sc_is_row.nd rfl (by first | exact .inl rfl | exact .inr rfl)) (pgs_nil))), bg_of (bt_tup (n := 2) (bts_cons (bt_name (by decide)) (bts_cons (bt_name (by decide)) (bts_nil))) (glen_cons (glen_cons (glen_nil)))), fun _ _ _ _ _ => PTs_imp pts_nil fun σ H Q h => bm_true h, fun _ _ _ _ _ => pm_call (ks := []) (idx := [0, 1]) (n := 2) D_fits hg hr (by decide) takes0 (fun _ _ _ _ _ _ _ _ us ws hu hw => match us, ws, hu, hw with | [_, _], [], _, _ => rfl) (pam_cons (pm_var (pv 3)) (pam_cons (pm_var (pv 4)) (pam_nil))) (pkm_nil) (alen_cons (alen_cons (alen_nil))) (alen_nil) (fun vs zs hv hz => match vs, zs, hv, hz with | [_, _], [], _, _ => rfl)⟩)) (pam_nil))))))
theorem sc_require_rows : FnScope N_require_rows P_require_rows (defScope s_require_rows) := ⟨rfl, rfl, rfl, by decide +kernel, rfl, by decide +kernel, by decide +kernel⟩
theorem d_require_rows {x : Str} {fa : Addr} {fd : FuncData} (T : Txt K mg w) (F : Fun K "require_rows" "require_rows" s_require_rows fa fd) (hm : mg x = some (.ref fa)) (D_is_row : DefOk P w K mg base 4 "is_row" s_is_row P_is_row f_is_row) : DefOk P w K mg base 5 x s_require_rows P_require_rows f_require_rows := by
  refine ⟨fa, _, "require_rows", fd, F, hm, fn_ok F sc_require_rows fun cdv A outer s H E hg hr => ?_⟩
  unfold m_require_rows
  exact pss_oneM (ps_forM (passes_of rfl) rfl (pim_seq (pm_var (pv 0))) (pg_nameM (pg_name (i := 1) sc_require_rows.nd rfl (by first | exact .inl rfl | exact .inr rfl))) (pss_oneM (ps_ifM (pb_not (pb_val (pm_call (ks := []) (idx := [0]) (n := 1) D_is_row hg hr (by decide) (takes_of rfl rfl rfl rfl) (fun _ _ _ _ _ _ _ _ us ws hu hw => match us, ws, hu, hw with | [_], [], _, _ => rfl) (pam_cons (pm_var (pv 1)) (pam_nil)) (pkm_nil) (alen_cons (alen_nil)) (alen_nil) (fun vs zs hv hz => match vs, zs, hv, hz with | [_], [], _, _ => rfl)))) (pss_oneM (ps_stuckM)) (pss_nilM))))
theorem sc_used_by : FnScope N_used_by P_used_by (defScope s_used_by) := ⟨rfl, rfl, rfl, by decide +kernel, rfl, by decide +kernel, by decide +kernel⟩
theorem d_used_by {x : Str} {fa : Addr} {fd : FuncData} (T : Txt K mg w) (F : Fun K "used_by" "used_by" s_used_by fa fd) (hm : mg x = some (.ref fa)) : DefOk P w K mg base 1 x s_used_by P_used_by f_used_by := by
  obtain ⟨t_BACK, g_BACK⟩ := T.c_BACK
  obtain ⟨t_GIVE, g_GIVE⟩ := T.c_GIVE
  obtain ⟨t_OUT, g_OUT⟩ := T.c_OUT
  obtain ⟨t_STEP, g_STEP⟩ := T.c_STEP
  obtain ⟨t_STEPS, g_STEPS⟩ := T.c_STEPS
  obtain ⟨t_USE, g_USE⟩ := T.c_USE
  refine ⟨fa, _, "used_by", fd, F, hm, fn_ok F sc_used_by fun cdv A outer s H E hg hr => ?_⟩
  unfold m_used_by
  exact pss_consM (ps_setM (ps_set (i := 2) sc_used_by.nd rfl (by first | exact .inl rfl | exact .inr rfl) (pm_ifE (pb_w (pbw_and (pb_cmp (or_eq (hu64 hr)) eq_m (pm_var (pv 1)) (pm_glob (v := .str "steps") g_STEPS ⟨_, rfl⟩ (fun _ _ _ => .str _))) (pbw_and1 (pb_cmp (or_in (hu65 hr)) in_m (pm_ix (pm_var (pv 0)) (pm_int)) (pm_tup (pam_cons (pm_glob (v := .str "step") g_STEP ⟨_, rfl⟩ (fun _ _ _ => .str _)) (pam_cons (pm_glob (v := .str "use") g_USE ⟨_, rfl⟩ (fun _ _ _ => .str _)) (pam_cons (pm_glob (v := .str "out") g_OUT ⟨_, rfl⟩ (fun _ _ _ => .str _)) (pam_nil))))) (by with_unfolding_all rfl))))) (pm_int) (pm_int))) (fun _ _ _ h => h)) <|
    pss_consM (ps_ifM (pb_w (pbw_and (pb_cmp (or_eq (hu64 hr)) eq_m (pm_ix (pm_var (pv 0)) (pm_int)) (pm_glob (v := .str "use") g_USE ⟨_, rfl⟩ (fun _ _ _ => .str _))) (pbw_and1 (pb_cmp (or_eq (hu64 hr)) eq_m (pm_ix (pm_var (pv 0)) (pm_int)) (pm_var (pv 1)))))) (pss_oneM (ps_augM (i := 2) sc_used_by.nd rfl (by first | exact .inl rfl | exact .inr rfl) iop_add addI_m (pm_ix (pm_var (pv 0)) (pm_int)))) (pss_oneM (ps_ifM (pb_w (pbw_and (pb_cmp (or_in (hu65 hr)) in_m (pm_ix (pm_var (pv 0)) (pm_int)) (pm_tup (pam_cons (pm_glob (v := .str "back") g_BACK ⟨_, rfl⟩ (fun _ _ _ => .str _)) (pam_cons (pm_glob (v := .str "give") g_GIVE ⟨_, rfl⟩ (fun _ _ _ => .str _)) (pam_nil)))) (by with_unfolding_all rfl)) (pbw_and1 (pb_cmp (or_eq (hu64 hr)) eq_m (pm_ix (pm_var (pv 0)) (pm_int)) (pm_var (pv 1)))))) (pss_oneM (ps_augM (i := 2) sc_used_by.nd rfl (by first | exact .inl rfl | exact .inr rfl) iop_sub sub_m (pm_ix (pm_var (pv 0)) (pm_int)))) (pss_nilM)))) <|
    pss_oneM (ps_retM (pm_var (pv 2)))
theorem sc_budgets_of : FnScope N_budgets_of P_budgets_of (defScope s_budgets_of) := ⟨rfl, rfl, rfl, by decide +kernel, rfl, by decide +kernel, by decide +kernel⟩
theorem d_budgets_of {x : Str} {fa : Addr} {fd : FuncData} (T : Txt K mg w) (F : Fun K "budgets_of" "budgets_of" s_budgets_of fa fd) (hm : mg x = some (.ref fa)) : DefOk P w K mg base 1 x s_budgets_of P_budgets_of f_budgets_of := by
  obtain ⟨t_BACK, g_BACK⟩ := T.c_BACK
  obtain ⟨t_GIVE, g_GIVE⟩ := T.c_GIVE
  obtain ⟨t_STEPS, g_STEPS⟩ := T.c_STEPS
  obtain ⟨t_USE, g_USE⟩ := T.c_USE
  refine ⟨fa, _, "budgets_of", fd, F, hm, fn_ok F sc_budgets_of fun cdv A outer s H E hg hr => ?_⟩
  unfold m_budgets_of
  exact pss_oneM (ps_retM (pm_ifE (pb_w (pbw_and (pb_cmp (or_in (hu65 hr)) in_m (pm_ix (pm_var (pv 0)) (pm_int)) (pm_tup (pam_cons (pm_glob (v := .str "use") g_USE ⟨_, rfl⟩ (fun _ _ _ => .str _)) (pam_cons (pm_glob (v := .str "back") g_BACK ⟨_, rfl⟩ (fun _ _ _ => .str _)) (pam_cons (pm_glob (v := .str "give") g_GIVE ⟨_, rfl⟩ (fun _ _ _ => .str _)) (pam_nil))))) (by with_unfolding_all rfl)) (pbw_and1 (pb_cmp (or_ne (hu64 hr)) ne_m (pm_ix (pm_var (pv 0)) (pm_int)) (pm_glob (v := .str "steps") g_STEPS ⟨_, rfl⟩ (fun _ _ _ => .str _)))))) (pm_of (pn_lst (pam_cons (pm_glob (v := .str "steps") g_STEPS ⟨_, rfl⟩ (fun _ _ _ => .str _)) (pam_cons (pm_ix (pm_var (pv 0)) (pm_int)) (pam_nil))))) (pm_of (pn_lst (pam_cons (pm_glob (v := .str "steps") g_STEPS ⟨_, rfl⟩ (fun _ _ _ => .str _)) (pam_nil))))))
theorem sc_first_failing : FnScope N_first_failing P_first_failing (defScope s_first_failing) := ⟨rfl, rfl, rfl, by decide +kernel, rfl, by decide +kernel, by decide +kernel⟩
theorem d_first_failing {x : Str} {fa : Addr} {fd : FuncData} (T : Txt K mg w) (F : Fun K "first_failing" "first_failing" s_first_failing fa fd) (hm : mg x = some (.ref fa)) (D_require_rows : DefOk P w K mg base 5 "require_rows" s_require_rows P_require_rows f_require_rows) (D_used_by : DefOk P w K mg base 1 "used_by" s_used_by P_used_by f_used_by) (D_budgets_of : DefOk P w K mg base 1 "budgets_of" s_budgets_of P_budgets_of f_budgets_of) : DefOk P w K mg base 6 x s_first_failing P_first_failing f_first_failing := by
  refine ⟨fa, _, "first_failing", fd, F, hm, fn_ok F sc_first_failing fun cdv A outer s H E hg hr => ?_⟩
  unfold m_first_failing
  exact pss_consM (ps_exprM (pm_call (ks := []) (idx := [0]) (n := 1) D_require_rows hg hr (by decide) (takes_of rfl rfl rfl rfl) (fun _ _ _ _ _ _ _ _ us ws hu hw => match us, ws, hu, hw with | [_], [], _, _ => rfl) (pam_cons (pm_var (pv 0)) (pam_nil)) (pkm_nil) (alen_cons (alen_nil)) (alen_nil) (fun vs zs hv hz => match vs, zs, hv, hz with | [_], [], _, _ => rfl))) <|
    pss_consM (ps_setM (ps_set (i := 2) sc_first_failing.nd rfl (by first | exact .inl rfl | exact .inr rfl) (pm_box (pn_callT call_dictD dict_n T.b_dict (by decide +kernel) (pam_cons (pm_var (pv 1)) (pam_nil))))) (fun _ _ _ h => h)) <|
    pss_consM (ps_forM (passes_of rfl) rfl (pim_enum2 T.b_enumerate (pam_cons (pm_var (pv 0)) (pam_nil))) (pg_unpM (n := 2) rfl (pgs_consM (pg_nameM (pg_name (i := 3) sc_first_failing.nd rfl (by first | exact .inl rfl | exact .inr rfl))) (pgs_consM (pg_nameM (pg_name (i := 4) sc_first_failing.nd rfl (by first | exact .inl rfl | exact .inr rfl))) (pgs_nilM))) (glen_cons (glen_cons (glen_nil)))) (pss_consM (ps_setLcM (i := 5) (own := [("budget", 6)]) rfl sc_first_failing.nd rfl rfl (sw_true rfl rfl rfl (by decide +kernel)) (pim_seq (pm_call (ks := []) (idx := [0]) (n := 1) D_budgets_of hg hr (by decide) (takes_of rfl rfl rfl rfl) (fun _ _ _ _ _ _ _ _ us ws hu hw => match us, ws, hu, hw with | [_], [], _, _ => rfl) (pam_cons (pm_var (pv 4)) (pam_nil)) (pkm_nil) (alen_cons (alen_nil)) (alen_nil) (fun vs zs hv hz => match vs, zs, hv, hz with | [_], [], _, _ => rfl))) (blkOk_by (N := N_first_failing) (sc := defScope s_first_failing) (by decide +kernel)) ⟨fun _ _ _ _ _ => pg_name (i := 6) sc_first_failing.nd rfl (by first | exact .inl rfl | exact .inr rfl), bg_name, fun _ _ _ _ _ => pts_one (pb_cmp (or_kin (hu65 hr)) kin_m (pm_var (pv 6)) (pm_var (pv 2)) (by with_unfolding_all rfl)), fun _ _ _ _ _ => pm_var (pv 6)⟩) <|
    pss_consM (ps_forM (passes_of rfl) rfl (pim_seq (pm_var (pv 5))) (pg_nameM (pg_name (i := 6) sc_first_failing.nd rfl (by first | exact .inl rfl | exact .inr rfl))) (pss_oneM (ps_ifM (pb_cmp or_gt gt_m (pm_call (ks := []) (idx := [0, 1]) (n := 2) D_used_by hg hr (by decide) (takes_of rfl rfl rfl rfl) (fun _ _ _ _ _ _ _ _ us ws hu hw => match us, ws, hu, hw with | [_, _], [], _, _ => rfl) (pam_cons (pm_var (pv 4)) (pam_cons (pm_var (pv 6)) (pam_nil))) (pkm_nil) (alen_cons (alen_cons (alen_nil))) (alen_nil) (fun vs zs hv hz => match vs, zs, hv, hz with | [_, _], [], _, _ => rfl)) (pm_gx (hu64 hr) (pm_var (pv 2)) (pm_var (pv 6)))) (pss_oneM (ps_retM (pm_tup (pam_cons (pm_var (pv 3)) (pam_cons (pm_var (pv 6)) (pam_nil)))))) (pss_nilM)))) <|
    pss_oneM (ps_forM (passes_of rfl) rfl (pim_seq (pm_var (pv 5))) (pg_nameM (pg_name (i := 6) sc_first_failing.nd rfl (by first | exact .inl rfl | exact .inr rfl))) (pss_oneM (ps_augKM (hu64 hr) ip_sub sub_m (pm_var (pv 2)) (pm_var (pv 6)) (pm_call (ks := []) (idx := [0, 1]) (n := 2) D_used_by hg hr (by decide) (takes_of rfl rfl rfl rfl) (fun _ _ _ _ _ _ _ _ us ws hu hw => match us, ws, hu, hw with | [_, _], [], _, _ => rfl) (pam_cons (pm_var (pv 4)) (pam_cons (pm_var (pv 6)) (pam_nil))) (pkm_nil) (alen_cons (alen_cons (alen_nil))) (alen_nil) (fun vs zs hv hz => match vs, zs, hv, hz with | [_, _], [], _, _ => rfl))))))) <|
    pss_oneM (ps_retM (pm_non))
theorem sc__law_rng : FnScope N__law_rng P__law_rng (defScope s__law_rng) := ⟨rfl, rfl, rfl, by decide +kernel, rfl, by decide +kernel, by decide +kernel⟩
theorem d__law_rng {x : Str} {fa : Addr} {fd : FuncData} (T : Txt K mg w) (F : Fun K "_law_rng" "_law_rng" s__law_rng fa fd) (hm : mg x = some (.ref fa)) : DefOk P w K mg base 1 x s__law_rng P__law_rng f__law_rng := by
  refine ⟨fa, _, "_law_rng", fd, F, hm, fn_ok F sc__law_rng fun cdv A outer s H E hg hr => ?_⟩
  unfold m__law_rng
  exact pss_consM (ps_setM (ps_set (i := 2) sc__law_rng.nd rfl (by first | exact .inl rfl | exact .inr rfl) (pm_ifE (pb_cmp or_lt lt_m (pm_var (pv 1)) (pm_callB or_len len_m T.b_len (by decide +kernel) (pam_cons (pm_var (pv 0)) (pam_nil)))) (pm_ix (pm_var (pv 0)) (pm_var (pv 1))) (pm_op or_add add_m (pm_op or_mul mul_m (pm_int) (pm_var (pv 1))) (pm_int)))) (fun _ _ _ h => h)) <|
    pss_oneM (ps_retM (pm_box (pn_lst (pam_cons (pm_callB (call_max2 rfl) max_m T.b_max (by decide +kernel) (pam_cons (pm_int) (pam_cons (pm_op op_sub sub_m (pm_callB call_abs abs_m T.b_abs (by decide +kernel) (pam_cons (pm_var (pv 2)) (pam_nil))) (pm_op op_pow pow_m (pm_int) (pm_int))) (pam_nil)))) (pam_cons (pm_op or_add add_m (pm_op or_add add_m (pm_op op_modN mod_m (pm_callB call_abs abs_m T.b_abs (by decide +kernel) (pam_cons (pm_var (pv 2)) (pam_nil))) (pm_int)) (pm_op or_mul mul_m (pm_int) (pm_var (pv 1)))) (pm_int)) (pam_nil))))))
theorem sc__law_draw : FnScope N__law_draw P__law_draw (defScope s__law_draw) := ⟨rfl, rfl, rfl, by decide +kernel, rfl, by decide +kernel, by decide +kernel⟩
theorem d__law_draw {x : Str} {fa : Addr} {fd : FuncData} (T : Txt K mg w) (F : Fun K "_law_draw" "_law_draw" s__law_draw fa fd) (hm : mg x = some (.ref fa)) : DefOk P w K mg base 1 x s__law_draw P__law_draw f__law_draw := by
  refine ⟨fa, _, "_law_draw", fd, F, hm, fn_ok F sc__law_draw fun cdv A outer s H E hg hr => ?_⟩
  unfold m__law_draw
  exact pss_consM (ps_ifM (pb_cmp or_gt gt_m (pm_ix (pm_var (pv 0)) (pm_int)) (pm_int)) (pss_consM (ps_asgM (pm_callB call_divmod divmod_m T.b_divmod (by decide +kernel) (pam_cons (pm_ix (pm_var (pv 0)) (pm_int)) (pam_cons (pm_var (pv 1)) (pam_nil)))) (pg_unpM (n := 2) rfl (pgs_consM (pg_ixM (W := W0) (pm_var (pv 0)) (pm_int)) (pgs_consM (pg_nameM (pg_name (i := 2) sc__law_draw.nd rfl (by first | exact .inl rfl | exact .inr rfl))) (pgs_nilM))) (glen_cons (glen_cons (glen_nil))))) <|
    pss_oneM (ps_retM (pm_var (pv 2)))) (pss_nilM)) <|
    pss_consM (ps_asgM (pm_op op_modN mod_m (pm_op or_add add_m (pm_op or_mul mul_m (pm_ix (pm_var (pv 0)) (pm_int)) (pm_int)) (pm_int)) (pm_int)) (pg_ixM (W := W0) (pm_var (pv 0)) (pm_int))) <|
    pss_oneM (ps_retM (pm_op op_modN mod_m (pm_op op_fdivN fdiv_m (pm_op op_modN mod_m (pm_op or_mul mul_m (pm_ix (pm_var (pv 0)) (pm_int)) (pm_ix (pm_var (pv 0)) (pm_int))) (pm_int)) (pm_int)) (pm_var (pv 1))))
theorem sc__law_names : FnScope N__law_names P__law_names (defScope s__law_names) := ⟨rfl, rfl, rfl, by decide +kernel, rfl, by decide +kernel, by decide +kernel⟩
theorem d__law_names {x : Str} {fa : Addr} {fd : FuncData} (T : Txt K mg w) (F : Fun K "_law_names" "_law_names" s__law_names fa fd) (hm : mg x = some (.ref fa)) (D__law_draw : DefOk P w K mg base 1 "_law_draw" s__law_draw P__law_draw f__law_draw) : DefOk P w K mg base 2 x s__law_names P__law_names f__law_names := by
  refine ⟨fa, _, "_law_names", fd, F, hm, fn_ok F sc__law_names fun cdv A outer s H E hg hr => ?_⟩
  unfold m__law_names
  exact pss_consM (ps_setM (ps_set (i := 2) sc__law_names.nd rfl (by first | exact .inl rfl | exact .inr rfl) (pm_str)) (fun _ _ _ h => h)) <|
    pss_consM (ps_ownM (ps_set (i := 3) sc__law_names.nd rfl (by first | exact .inl rfl | exact .inr rfl) (pn_lst (pam_nil))) (fun _ _ _ h => h)) <|
    pss_consM (ps_forM (passes_of rfl) rfl (pim_rng1 T.b_range (pam_cons (pm_var (pv 1)) (pam_nil))) (pg_nameM (pg_name (i := 4) sc__law_names.nd rfl (by first | exact .inl rfl | exact .inr rfl))) (pss_consM (ps_setM (ps_set (i := 5) sc__law_names.nd rfl (by first | exact .inl rfl | exact .inr rfl) (pm_ix (pm_of (pn_lst (pam_cons (pm_int) (pam_cons (pm_int) (pam_cons (pm_int) (pam_cons (pm_int) (pam_nil))))))) (pm_call (ks := []) (idx := [0, 1]) (n := 2) D__law_draw hg hr (by decide) (takes_of rfl rfl rfl rfl) (fun _ _ _ _ _ _ _ _ us ws hu hw => match us, ws, hu, hw with | [_, _], [], _, _ => rfl) (pam_cons (pm_var (pv 0)) (pam_cons (pm_int) (pam_nil))) (pkm_nil) (alen_cons (alen_cons (alen_nil))) (alen_nil) (fun vs zs hv hz => match vs, zs, hv, hz with | [_, _], [], _, _ => rfl)))) (fun _ _ _ h => h)) <|
    pss_consM (ps_setM (ps_set (i := 6) sc__law_names.nd rfl (by first | exact .inl rfl | exact .inr rfl) (pm_methS PySem.F.slot_str_join PySem.F.type_str_join mt_join join_m (pm_str) (pam_cons (pm_of (pn_lc (own := [("_law_turn", 7)]) rfl sc__law_names.nd (pim_rng1 T.b_range (pam_cons (pm_var (pv 5)) (pam_nil))) (blkOk_by (N := N__law_names) (sc := defScope s__law_names) (by decide +kernel)) ⟨fun _ _ _ _ _ => pg_name (i := 7) sc__law_names.nd rfl (by first | exact .inl rfl | exact .inr rfl), bg_name, fun _ _ _ _ _ => PTs_imp pts_nil fun σ H Q h => bm_true h, fun _ _ _ _ _ => pm_ix (pm_var (pv 2)) (pm_call (ks := []) (idx := [0, 1]) (n := 2) D__law_draw hg hr (by decide) takes0 (fun _ _ _ _ _ _ _ _ us ws hu hw => match us, ws, hu, hw with | [_, _], [], _, _ => rfl) (pam_cons (pm_var (pv 0)) (pam_cons (pm_int) (pam_nil))) (pkm_nil) (alen_cons (alen_cons (alen_nil))) (alen_nil) (fun vs zs hv hz => match vs, zs, hv, hz with | [_, _], [], _, _ => rfl))⟩)) (pam_nil)))) (fun _ _ _ h => h)) <|
    pss_consM (ps_ifM (pb_cmp (or_eq (hu64 hr)) eq_m (pm_call (ks := []) (idx := [0, 1]) (n := 2) D__law_draw hg hr (by decide) (takes_of rfl rfl rfl rfl) (fun _ _ _ _ _ _ _ _ us ws hu hw => match us, ws, hu, hw with | [_, _], [], _, _ => rfl) (pam_cons (pm_var (pv 0)) (pam_cons (pm_int) (pam_nil))) (pkm_nil) (alen_cons (alen_cons (alen_nil))) (alen_nil) (fun vs zs hv hz => match vs, zs, hv, hz with | [_, _], [], _, _ => rfl)) (pm_int)) (pss_oneM (ps_setM (ps_set (i := 6) sc__law_names.nd rfl (by first | exact .inl rfl | exact .inr rfl) (pm_ix (pm_of (pn_lst (pam_cons (pm_str) (pam_cons (pm_str) (pam_cons (pm_str) (pam_cons (pm_str) (pam_cons (pm_str) (pam_cons (pm_str) (pam_cons (pm_str) (pam_cons (pm_str) (pam_nil))))))))))) (pm_call (ks := []) (idx := [0, 1]) (n := 2) D__law_draw hg hr (by decide) (takes_of rfl rfl rfl rfl) (fun _ _ _ _ _ _ _ _ us ws hu hw => match us, ws, hu, hw with | [_, _], [], _, _ => rfl) (pam_cons (pm_var (pv 0)) (pam_cons (pm_int) (pam_nil))) (pkm_nil) (alen_cons (alen_cons (alen_nil))) (alen_nil) (fun vs zs hv hz => match vs, zs, hv, hz with | [_, _], [], _, _ => rfl)))) (fun _ _ _ h => h))) (pss_nilM)) <|
    pss_consM (ps_ifM (pb_w (pbw_or (pb_lend (pb_cmp (or_in (hu65 hr)) in_m (pm_var (pv 6)) (pm_var (pv 3)) (by with_unfolding_all rfl))) (pbw_or1 (pb_cmp (or_eq (hu64 hr)) eq_m (pm_var (pv 6)) (pm_str))))) (pss_oneM (ps_setM (ps_set (i := 6) sc__law_names.nd rfl (by first | exact .inl rfl | exact .inr rfl) (pm_lend (pm_ix (pm_of (pn_lc (own := [("_law_letter", 8)]) rfl sc__law_names.nd (pim_seq (pm_var (pv 2))) (blkOk_by (N := N__law_names) (sc := defScope s__law_names) (by decide +kernel)) ⟨fun _ _ _ _ _ => pg_name (i := 8) sc__law_names.nd rfl (by first | exact .inl rfl | exact .inr rfl), bg_name, fun _ _ _ _ _ => pts_one (pb_cmp (or_notIn (hu65 hr)) notIn_m (pm_op or_add add_m (pm_var (pv 8)) (pm_str)) (pm_var (pv 3)) (by with_unfolding_all rfl)), fun _ _ _ _ _ => pm_op or_add add_m (pm_var (pv 8)) (pm_str)⟩)) (pm_int)))) (fun _ _ _ h => h))) (pss_nilM)) <|
    pss_oneM (ps_appM (i := 3) (pv 3) (pm_var (pv 6))))) <|
    pss_oneM (ps_retVM (pv 3))
theorem sc__law_funds : FnScope N__law_funds P__law_funds (defScope s__law_funds) := ⟨rfl, rfl, rfl, by decide +kernel, rfl, by decide +kernel, by decide +kernel⟩
theorem d__law_funds {x : Str} {fa : Addr} {fd : FuncData} (T : Txt K mg w) (F : Fun K "_law_funds" "_law_funds" s__law_funds fa fd) (hm : mg x = some (.ref fa)) (D__law_draw : DefOk P w K mg base 1 "_law_draw" s__law_draw P__law_draw f__law_draw) (D__law_names : DefOk P w K mg base 2 "_law_names" s__law_names P__law_names f__law_names) : DefOk P w K mg base 3 x s__law_funds P__law_funds f__law_funds := by
  refine ⟨fa, _, "_law_funds", fd, F, hm, fn_ok F sc__law_funds fun cdv A outer s H E hg hr => ?_⟩
  unfold m__law_funds
  exact pss_oneM (ps_retM (pm_op or_add add_m (pm_of (pn_lst (pam_cons (pm_str) (pam_nil)))) (pm_call (ks := []) (idx := [0, 1]) (n := 2) D__law_names hg hr (by decide) (takes_of rfl rfl rfl rfl) (fun _ _ _ _ _ _ _ _ us ws hu hw => match us, ws, hu, hw with | [_, _], [], _, _ => rfl) (pam_cons (pm_var (pv 0)) (pam_cons (pm_op or_add add_m (pm_int) (pm_call (ks := []) (idx := [0, 1]) (n := 2) D__law_draw hg hr (by decide) (takes_of rfl rfl rfl rfl) (fun _ _ _ _ _ _ _ _ us ws hu hw => match us, ws, hu, hw with | [_, _], [], _, _ => rfl) (pam_cons (pm_var (pv 0)) (pam_cons (pm_int) (pam_nil))) (pkm_nil) (alen_cons (alen_cons (alen_nil))) (alen_nil) (fun vs zs hv hz => match vs, zs, hv, hz with | [_, _], [], _, _ => rfl))) (pam_nil))) (pkm_nil) (alen_cons (alen_cons (alen_nil))) (alen_nil) (fun vs zs hv hz => match vs, zs, hv, hz with | [_, _], [], _, _ => rfl))))
theorem sc__law_number : FnScope N__law_number P__law_number (defScope s__law_number) := ⟨rfl, rfl, rfl, by decide +kernel, rfl, by decide +kernel, by decide +kernel⟩
theorem d__law_number {x : Str} {fa : Addr} {fd : FuncData} (T : Txt K mg w) (F : Fun K "_law_number" "_law_number" s__law_number fa fd) (hm : mg x = some (.ref fa)) (D__law_draw : DefOk P w K mg base 1 "_law_draw" s__law_draw P__law_draw f__law_draw) : DefOk P w K mg base 2 x s__law_number P__law_number f__law_number := by
  refine ⟨fa, _, "_law_number", fd, F, hm, fn_ok F sc__law_number fun cdv A outer s H E hg hr => ?_⟩
  unfold m__law_number
  exact pss_consM (ps_setM (ps_set (i := 1) sc__law_number.nd rfl (by first | exact .inl rfl | exact .inr rfl) (pm_of (pn_lst (pam_cons (pm_call (ks := []) (idx := [0, 1]) (n := 2) D__law_draw hg hr (by decide) (takes_of rfl rfl rfl rfl) (fun _ _ _ _ _ _ _ _ us ws hu hw => match us, ws, hu, hw with | [_, _], [], _, _ => rfl) (pam_cons (pm_var (pv 0)) (pam_cons (pm_int) (pam_nil))) (pkm_nil) (alen_cons (alen_cons (alen_nil))) (alen_nil) (fun vs zs hv hz => match vs, zs, hv, hz with | [_, _], [], _, _ => rfl)) (pam_cons (pm_call (ks := []) (idx := [0, 1]) (n := 2) D__law_draw hg hr (by decide) (takes_of rfl rfl rfl rfl) (fun _ _ _ _ _ _ _ _ us ws hu hw => match us, ws, hu, hw with | [_, _], [], _, _ => rfl) (pam_cons (pm_var (pv 0)) (pam_cons (pm_int) (pam_nil))) (pkm_nil) (alen_cons (alen_cons (alen_nil))) (alen_nil) (fun vs zs hv hz => match vs, zs, hv, hz with | [_, _], [], _, _ => rfl)) (pam_cons (pm_op or_add add_m (pm_op op_pow pow_m (pm_int) (pm_int)) (pm_op or_mul mul_m (pm_call (ks := []) (idx := [0, 1]) (n := 2) D__law_draw hg hr (by decide) (takes_of rfl rfl rfl rfl) (fun _ _ _ _ _ _ _ _ us ws hu hw => match us, ws, hu, hw with | [_, _], [], _, _ => rfl) (pam_cons (pm_var (pv 0)) (pam_cons (pm_int) (pam_nil))) (pkm_nil) (alen_cons (alen_cons (alen_nil))) (alen_nil) (fun vs zs hv hz => match vs, zs, hv, hz with | [_, _], [], _, _ => rfl)) (pm_op op_pow pow_m (pm_int) (pm_int)))) (pam_nil))))))) (fun _ _ _ h => h)) <|
    pss_oneM (ps_retM (pm_ix (pm_var (pv 1)) (pm_ix (pm_of (pn_lst (pam_cons (pm_int) (pam_cons (pm_int) (pam_cons (pm_int) (pam_cons (pm_int) (pam_nil))))))) (pm_call (ks := []) (idx := [0, 1]) (n := 2) D__law_draw hg hr (by decide) (takes_of rfl rfl rfl rfl) (fun _ _ _ _ _ _ _ _ us ws hu hw => match us, ws, hu, hw with | [_, _], [], _, _ => rfl) (pam_cons (pm_var (pv 0)) (pam_cons (pm_int) (pam_nil))) (pkm_nil) (alen_cons (alen_cons (alen_nil))) (alen_nil) (fun vs zs hv hz => match vs, zs, hv, hz with | [_, _], [], _, _ => rfl)))))
theorem sc__law_drawn_row : FnScope N__law_drawn_row P__law_drawn_row (defScope s__law_drawn_row) := ⟨rfl, rfl, rfl, by decide +kernel, rfl, by decide +kernel, by decide +kernel⟩
theorem d__law_drawn_row {x : Str} {fa : Addr} {fd : FuncData} (T : Txt K mg w) (F : Fun K "_law_drawn_row" "_law_drawn_row" s__law_drawn_row fa fd) (hm : mg x = some (.ref fa)) (D__law_draw : DefOk P w K mg base 1 "_law_draw" s__law_draw P__law_draw f__law_draw) (D__law_number : DefOk P w K mg base 2 "_law_number" s__law_number P__law_number f__law_number) : DefOk P w K mg base 3 x s__law_drawn_row P__law_drawn_row f__law_drawn_row := by
  refine ⟨fa, _, "_law_drawn_row", fd, F, hm, fn_ok F sc__law_drawn_row fun cdv A outer s H E hg hr => ?_⟩
  unfold m__law_drawn_row
  exact pss_consM (ps_setM (ps_set (i := 2) sc__law_drawn_row.nd rfl (by first | exact .inl rfl | exact .inr rfl) (pm_ix (pm_of (pn_lst (pam_cons (pm_str) (pam_cons (pm_str) (pam_cons (pm_str) (pam_cons (pm_str) (pam_cons (pm_str) (pam_cons (pm_str) (pam_cons (pm_str) (pam_cons (pm_str) (pam_nil))))))))))) (pm_call (ks := []) (idx := [0, 1]) (n := 2) D__law_draw hg hr (by decide) (takes_of rfl rfl rfl rfl) (fun _ _ _ _ _ _ _ _ us ws hu hw => match us, ws, hu, hw with | [_, _], [], _, _ => rfl) (pam_cons (pm_var (pv 0)) (pam_cons (pm_int) (pam_nil))) (pkm_nil) (alen_cons (alen_cons (alen_nil))) (alen_nil) (fun vs zs hv hz => match vs, zs, hv, hz with | [_, _], [], _, _ => rfl)))) (fun _ _ _ h => h)) <|
    pss_consM (ps_par2M (i := 3) (j := 4) rfl sc__law_drawn_row.nd rfl rfl (by decide) rfl rfl (pam_cons (pm_ix (pm_var (pv 1)) (pm_call (ks := []) (idx := [0, 1]) (n := 2) D__law_draw hg hr (by decide) (takes_of rfl rfl rfl rfl) (fun _ _ _ _ _ _ _ _ us ws hu hw => match us, ws, hu, hw with | [_, _], [], _, _ => rfl) (pam_cons (pm_var (pv 0)) (pam_cons (pm_callB or_len len_m T.b_len (by decide +kernel) (pam_cons (pm_var (pv 1)) (pam_nil))) (pam_nil))) (pkm_nil) (alen_cons (alen_cons (alen_nil))) (alen_nil) (fun vs zs hv hz => match vs, zs, hv, hz with | [_, _], [], _, _ => rfl))) (pam_cons (pm_call (ks := []) (idx := [0]) (n := 1) D__law_number hg hr (by decide) (takes_of rfl rfl rfl rfl) (fun _ _ _ _ _ _ _ _ us ws hu hw => match us, ws, hu, hw with | [_], [], _, _ => rfl) (pam_cons (pm_var (pv 0)) (pam_nil)) (pkm_nil) (alen_cons (alen_nil)) (alen_nil) (fun vs zs hv hz => match vs, zs, hv, hz with | [_], [], _, _ => rfl)) (pam_nil)))) <|
    pss_consM (ps_ifM (pb_cmp (or_eq (hu64 hr)) eq_m (pm_var (pv 2)) (pm_str)) (pss_oneM (ps_retM (pm_tup (pam_cons (pm_var (pv 2)) (pam_nil))))) (pss_nilM)) <|
    pss_consM (ps_ifM (pb_cmp (or_eq (hu64 hr)) eq_m (pm_var (pv 2)) (pm_str)) (pss_oneM (ps_retM (pm_tup (pam_cons (pm_var (pv 2)) (pam_cons (pm_var (pv 3)) (pam_nil)))))) (pss_nilM)) <|
    pss_consM (ps_ifM (pb_cmp (or_in (hu65 hr)) in_m (pm_var (pv 2)) (pm_tup (pam_cons (pm_str) (pam_cons (pm_str) (pam_nil)))) (by with_unfolding_all rfl)) (pss_oneM (ps_retM (pm_tup (pam_cons (pm_var (pv 2)) (pam_cons (pm_ifE (pb_cmp or_lt lt_m (pm_var (pv 4)) (pm_op op_pow pow_m (pm_int) (pm_int))) (pm_ix (pm_of (pn_lst (pam_cons (pm_op op_sub sub_m (pm_var (pv 4)) (pm_int)) (pam_cons (pm_op op_pow pow_m (pm_int) (pm_int)) (pam_cons (pm_un un_neg neg_m (pm_op op_pow pow_m (pm_int) (pm_int))) (pam_nil)))))) (pm_call (ks := []) (idx := [0, 1]) (n := 2) D__law_draw hg hr (by decide) (takes_of rfl rfl rfl rfl) (fun _ _ _ _ _ _ _ _ us ws hu hw => match us, ws, hu, hw with | [_, _], [], _, _ => rfl) (pam_cons (pm_var (pv 0)) (pam_cons (pm_int) (pam_nil))) (pkm_nil) (alen_cons (alen_cons (alen_nil))) (alen_nil) (fun vs zs hv hz => match vs, zs, hv, hz with | [_, _], [], _, _ => rfl))) (pm_op op_pow pow_m (pm_int) (pm_int))) (pam_nil)))))) (pss_nilM)) <|
    pss_consM (ps_ifM (pb_cmp (or_eq (hu64 hr)) eq_m (pm_var (pv 2)) (pm_str)) (pss_oneM (ps_retM (pm_tup (pam_cons (pm_var (pv 2)) (pam_cons (pm_var (pv 3)) (pam_cons (pm_ix (pm_of (pn_lst (pam_cons (pm_op or_add add_m (pm_var (pv 4)) (pm_int)) (pam_cons (pm_op op_sub sub_m (pm_un un_neg neg_m (pm_int)) (pm_var (pv 4))) (pam_nil))))) (pm_call (ks := []) (idx := [0, 1]) (n := 2) D__law_draw hg hr (by decide) (takes_of rfl rfl rfl rfl) (fun _ _ _ _ _ _ _ _ us ws hu hw => match us, ws, hu, hw with | [_, _], [], _, _ => rfl) (pam_cons (pm_var (pv 0)) (pam_cons (pm_int) (pam_nil))) (pkm_nil) (alen_cons (alen_cons (alen_nil))) (alen_nil) (fun vs zs hv hz => match vs, zs, hv, hz with | [_, _], [], _, _ => rfl))) (pam_nil))))))) (pss_nilM)) <|
    pss_oneM (ps_retM (pm_tup (pam_cons (pm_var (pv 2)) (pam_cons (pm_var (pv 3)) (pam_cons (pm_var (pv 4)) (pam_nil))))))
theorem sc__law_drawn_rows : FnScope N__law_drawn_rows P__law_drawn_rows (defScope s__law_drawn_rows) := ⟨rfl, rfl, rfl, by decide +kernel, rfl, by decide +kernel, by decide +kernel⟩
theorem d__law_drawn_rows {x : Str} {fa : Addr} {fd : FuncData} (T : Txt K mg w) (F : Fun K "_law_drawn_rows" "_law_drawn_rows" s__law_drawn_rows fa fd) (hm : mg x = some (.ref fa)) (D__law_draw : DefOk P w K mg base 1 "_law_draw" s__law_draw P__law_draw f__law_draw) (D__law_drawn_row : DefOk P w K mg base 3 "_law_drawn_row" s__law_drawn_row P__law_drawn_row f__law_drawn_row) : DefOk P w K mg base 4 x s__law_drawn_rows P__law_drawn_rows f__law_drawn_rows := by
  refine ⟨fa, _, "_law_drawn_rows", fd, F, hm, fn_ok F sc__law_drawn_rows fun cdv A outer s H E hg hr => ?_⟩
  unfold m__law_drawn_rows
  exact pss_oneM (ps_retM (pm_of (pn_lc (own := [("_law_turn", 3)]) rfl sc__law_drawn_rows.nd (pim_rng1 T.b_range (pam_cons (pm_call (ks := []) (idx := [0, 1]) (n := 2) D__law_draw hg hr (by decide) (takes_of rfl rfl rfl rfl) (fun _ _ _ _ _ _ _ _ us ws hu hw => match us, ws, hu, hw with | [_, _], [], _, _ => rfl) (pam_cons (pm_var (pv 0)) (pam_cons (pm_op or_add add_m (pm_var (pv 2)) (pm_int)) (pam_nil))) (pkm_nil) (alen_cons (alen_cons (alen_nil))) (alen_nil) (fun vs zs hv hz => match vs, zs, hv, hz with | [_, _], [], _, _ => rfl)) (pam_nil))) (blkOk_by (N := N__law_drawn_rows) (sc := defScope s__law_drawn_rows) (by decide +kernel)) ⟨fun _ _ _ _ _ => pg_name (i := 3) sc__law_drawn_rows.nd rfl (by first | exact .inl rfl | exact .inr rfl), bg_name, fun _ _ _ _ _ => PTs_imp pts_nil fun σ H Q h => bm_true h, fun _ _ _ _ _ => pm_call (ks := []) (idx := [0, 1]) (n := 2) D__law_drawn_row hg hr (by decide) takes0 (fun _ _ _ _ _ _ _ _ us ws hu hw => match us, ws, hu, hw with | [_, _], [], _, _ => rfl) (pam_cons (pm_var (pv 0)) (pam_cons (pm_var (pv 1)) (pam_nil))) (pkm_nil) (alen_cons (alen_cons (alen_nil))) (alen_nil) (fun vs zs hv hz => match vs, zs, hv, hz with | [_, _], [], _, _ => rfl)⟩)))
theorem sc_summary_of : FnScope N_summary_of P_summary_of (defScope s_summary_of) := ⟨rfl, rfl, rfl, by decide +kernel, rfl, by decide +kernel, by decide +kernel⟩
theorem d_summary_of {x : Str} {fa : Addr} {fd : FuncData} (T : Txt K mg w) (F : Fun K "summary_of" "summary_of" s_summary_of fa fd) (hm : mg x = some (.ref fa)) (D_require_rows : DefOk P w K mg base 5 "require_rows" s_require_rows P_require_rows f_require_rows) (D_used_by : DefOk P w K mg base 1 "used_by" s_used_by P_used_by f_used_by) : DefOk P w K mg base 6 x s_summary_of P_summary_of f_summary_of := by
  refine ⟨fa, _, "summary_of", fd, F, hm, fn_ok F sc_summary_of fun cdv A outer s H E hg hr => ?_⟩
  unfold m_summary_of
  exact pss_consM (ps_exprM (pm_call (ks := []) (idx := [0]) (n := 1) D_require_rows hg hr (by decide) (takes_of rfl rfl rfl rfl) (fun _ _ _ _ _ _ _ _ us ws hu hw => match us, ws, hu, hw with | [_], [], _, _ => rfl) (pam_cons (pm_var (pv 0)) (pam_nil)) (pkm_nil) (alen_cons (alen_nil)) (alen_nil) (fun vs zs hv hz => match vs, zs, hv, hz with | [_], [], _, _ => rfl))) <|
    pss_consM (ps_asgM (pm_tup (pam_cons (pm_int) (pam_cons (pm_int) (pam_nil)))) (pg_unpM (n := 2) rfl (pgs_consM (pg_nameM (pg_name (i := 3) sc_summary_of.nd rfl (by first | exact .inl rfl | exact .inr rfl))) (pgs_consM (pg_nameM (pg_name (i := 4) sc_summary_of.nd rfl (by first | exact .inl rfl | exact .inr rfl))) (pgs_nilM))) (glen_cons (glen_cons (glen_nil))))) <|
    pss_consM (ps_forM (passes_of rfl) rfl (pim_seq (pm_var (pv 0))) (pg_nameM (pg_name (i := 2) sc_summary_of.nd rfl (by first | exact .inl rfl | exact .inr rfl))) (pss_consM (ps_augM (i := 4) sc_summary_of.nd rfl (by first | exact .inl rfl | exact .inr rfl) iop_add addI_m (pm_call (ks := []) (idx := [0, 1]) (n := 2) D_used_by hg hr (by decide) (takes_of rfl rfl rfl rfl) (fun _ _ _ _ _ _ _ _ us ws hu hw => match us, ws, hu, hw with | [_, _], [], _, _ => rfl) (pam_cons (pm_var (pv 2)) (pam_cons (pm_var (pv 1)) (pam_nil))) (pkm_nil) (alen_cons (alen_cons (alen_nil))) (alen_nil) (fun vs zs hv hz => match vs, zs, hv, hz with | [_, _], [], _, _ => rfl))) <|
    pss_oneM (ps_setM (ps_set (i := 3) sc_summary_of.nd rfl (by first | exact .inl rfl | exact .inr rfl) (pm_callB (call_max2 rfl) max_m T.b_max (by decide +kernel) (pam_cons (pm_var (pv 3)) (pam_cons (pm_var (pv 4)) (pam_nil))))) (fun _ _ _ h => h)))) <|
    pss_oneM (ps_retM (pm_tup (pam_cons (pm_var (pv 3)) (pam_cons (pm_var (pv 4)) (pam_nil)))))
theorem sc__law_given : FnScope N__law_given P__law_given (defScope s__law_given) := ⟨rfl, rfl, rfl, by decide +kernel, rfl, by decide +kernel, by decide +kernel⟩
theorem d__law_given {x : Str} {fa : Addr} {fd : FuncData} (T : Txt K mg w) (F : Fun K "_law_given" "_law_given" s__law_given fa fd) (hm : mg x = some (.ref fa)) (D_summary_of : DefOk P w K mg base 6 "summary_of" s_summary_of P_summary_of f_summary_of) (D__law_draw : DefOk P w K mg base 1 "_law_draw" s__law_draw P__law_draw f__law_draw) : DefOk P w K mg base 7 x s__law_given P__law_given f__law_given := by
  refine ⟨fa, _, "_law_given", fd, F, hm, fn_ok F sc__law_given fun cdv A outer s H E hg hr => ?_⟩
  unfold m__law_given
  exact pss_consM (ps_setM (ps_set (i := 3) sc__law_given.nd rfl (by first | exact .inl rfl | exact .inr rfl) (pm_box (pn_dct0))) (fun _ _ _ h => h)) <|
    pss_consM (ps_forM (passes_of rfl) rfl (pim_seq (pm_ifE (pb_cmp (or_eq (hu64 hr)) eq_m (pm_call (ks := []) (idx := [0, 1]) (n := 2) D__law_draw hg hr (by decide) (takes_of rfl rfl rfl rfl) (fun _ _ _ _ _ _ _ _ us ws hu hw => match us, ws, hu, hw with | [_, _], [], _, _ => rfl) (pam_cons (pm_var (pv 0)) (pam_cons (pm_int) (pam_nil))) (pkm_nil) (alen_cons (alen_cons (alen_nil))) (alen_nil) (fun vs zs hv hz => match vs, zs, hv, hz with | [_, _], [], _, _ => rfl)) (pm_int)) (pm_of (pn_rev (pm_var (pv 2)))) (pm_var (pv 2)))) (pg_nameM (pg_name (i := 4) sc__law_given.nd rfl (by first | exact .inl rfl | exact .inr rfl))) (pss_consM (ps_setM (ps_set (i := 5) sc__law_given.nd rfl (by first | exact .inl rfl | exact .inr rfl) (pm_ix (pm_call (ks := []) (idx := [0, 1]) (n := 2) D_summary_of hg hr (by decide) (takes_of rfl rfl rfl rfl) (fun _ _ _ _ _ _ _ _ us ws hu hw => match us, ws, hu, hw with | [_, _], [], _, _ => rfl) (pam_cons (pm_var (pv 1)) (pam_cons (pm_var (pv 4)) (pam_nil))) (pkm_nil) (alen_cons (alen_cons (alen_nil))) (alen_nil) (fun vs zs hv hz => match vs, zs, hv, hz with | [_, _], [], _, _ => rfl)) (pm_int))) (fun _ _ _ h => h)) <|
    pss_consM (ps_setM (ps_set (i := 6) sc__law_given.nd rfl (by first | exact .inl rfl | exact .inr rfl) (pm_of (pn_lst (pam_cons (pm_var (pv 5)) (pam_cons (pm_callB (call_max2 rfl) max_m T.b_max (by decide +kernel) (pam_cons (pm_int) (pam_cons (pm_op op_sub sub_m (pm_var (pv 5)) (pm_int)) (pam_nil)))) (pam_cons (pm_call (ks := []) (idx := [0, 1]) (n := 2) D__law_draw hg hr (by decide) (takes_of rfl rfl rfl rfl) (fun _ _ _ _ _ _ _ _ us ws hu hw => match us, ws, hu, hw with | [_, _], [], _, _ => rfl) (pam_cons (pm_var (pv 0)) (pam_cons (pm_int) (pam_nil))) (pkm_nil) (alen_cons (alen_cons (alen_nil))) (alen_nil) (fun vs zs hv hz => match vs, zs, hv, hz with | [_, _], [], _, _ => rfl)) (pam_cons (pm_call (ks := []) (idx := [0, 1]) (n := 2) D__law_draw hg hr (by decide) (takes_of rfl rfl rfl rfl) (fun _ _ _ _ _ _ _ _ us ws hu hw => match us, ws, hu, hw with | [_, _], [], _, _ => rfl) (pam_cons (pm_var (pv 0)) (pam_cons (pm_int) (pam_nil))) (pkm_nil) (alen_cons (alen_cons (alen_nil))) (alen_nil) (fun vs zs hv hz => match vs, zs, hv, hz with | [_, _], [], _, _ => rfl)) (pam_cons (pm_op op_pow pow_m (pm_int) (pm_int)) (pam_cons (pm_op op_fdivN fdiv_m (pm_var (pv 5)) (pm_int)) (pam_nil)))))))))) (fun _ _ _ h => h)) <|
    pss_oneM (ps_ifM (pb_cmp or_gt gt_m (pm_call (ks := []) (idx := [0, 1]) (n := 2) D__law_draw hg hr (by decide) (takes_of rfl rfl rfl rfl) (fun _ _ _ _ _ _ _ _ us ws hu hw => match us, ws, hu, hw with | [_, _], [], _, _ => rfl) (pam_cons (pm_var (pv 0)) (pam_cons (pm_int) (pam_nil))) (pkm_nil) (alen_cons (alen_cons (alen_nil))) (alen_nil) (fun vs zs hv hz => match vs, zs, hv, hz with | [_, _], [], _, _ => rfl)) (pm_int)) (pss_oneM (ps_asgM (pm_ix (pm_var (pv 6)) (pm_call (ks := []) (idx := [0, 1]) (n := 2) D__law_draw hg hr (by decide) (takes_of rfl rfl rfl rfl) (fun _ _ _ _ _ _ _ _ us ws hu hw => match us, ws, hu, hw with | [_, _], [], _, _ => rfl) (pam_cons (pm_var (pv 0)) (pam_cons (pm_int) (pam_nil))) (pkm_nil) (alen_cons (alen_cons (alen_nil))) (alen_nil) (fun vs zs hv hz => match vs, zs, hv, hz with | [_, _], [], _, _ => rfl))) (pg_kxM (W := W0) (hu64 hr) (pm_var (pv 3)) (pm_var (pv 4))))) (pss_nilM)))) <|
    pss_consM (ps_ifM (pb_cmp (or_eq (hu64 hr)) eq_m (pm_call (ks := []) (idx := [0, 1]) (n := 2) D__law_draw hg hr (by decide) (takes_of rfl rfl rfl rfl) (fun _ _ _ _ _ _ _ _ us ws hu hw => match us, ws, hu, hw with | [_, _], [], _, _ => rfl) (pam_cons (pm_var (pv 0)) (pam_cons (pm_int) (pam_nil))) (pkm_nil) (alen_cons (alen_cons (alen_nil))) (alen_nil) (fun vs zs hv hz => match vs, zs, hv, hz with | [_, _], [], _, _ => rfl)) (pm_int)) (pss_oneM (ps_asgM (pm_int) (pg_kxM (W := W0) (hu64 hr) (pm_var (pv 3)) (pm_str)))) (pss_nilM)) <|
    pss_oneM (ps_retM (pm_var (pv 3)))
theorem sc_passes : FnScope N_passes P_passes (defScope s_passes) := ⟨rfl, rfl, rfl, by decide +kernel, rfl, by decide +kernel, by decide +kernel⟩
theorem d_passes {x : Str} {fa : Addr} {fd : FuncData} (T : Txt K mg w) (F : Fun K "passes" "passes" s_passes fa fd) (hm : mg x = some (.ref fa)) : DefOk P w K mg base 1 x s_passes P_passes f_passes := by
  refine ⟨fa, _, "passes", fd, F, hm, fn_ok F sc_passes fun cdv A outer s H E hg hr => ?_⟩
  unfold m_passes
  exact pss_oneM (ps_retM (pm_cmp or_le le_m (pm_ix (pm_var (pv 0)) (pm_int)) (pm_var (pv 1))))
theorem sc__law_used : FnScope N__law_used P__law_used (defScope s__law_used) := ⟨rfl, rfl, rfl, by decide +kernel, rfl, by decide +kernel, by decide +kernel⟩
theorem d__law_used {x : Str} {fa : Addr} {fd : FuncData} (T : Txt K mg w) (F : Fun K "_law_used" "_law_used" s__law_used fa fd) (hm : mg x = some (.ref fa)) : DefOk P w K mg base 1 x s__law_used P__law_used f__law_used := by
  refine ⟨fa, _, "_law_used", fd, F, hm, fn_ok F sc__law_used fun cdv A outer s H E hg hr => ?_⟩
  unfold m__law_used
  exact pss_consM (ps_setM (ps_set (i := 2) sc__law_used.nd rfl (by first | exact .inl rfl | exact .inr rfl) (pm_callT call_int1 int_m T.b_int (by decide +kernel) (pam_cons (pm_and (pm_cmp (or_eq (hu64 hr)) eq_m (pm_var (pv 1)) (pm_str)) (pm_one (pm_cmp (or_in (hu65 hr)) in_m (pm_ix (pm_var (pv 0)) (pm_int)) (pm_tup (pam_cons (pm_str) (pam_cons (pm_str) (pam_cons (pm_str) (pam_nil))))) (by with_unfolding_all rfl)))) (pam_nil)))) (fun _ _ _ h => h)) <|
    pss_consM (ps_ifM (pb_w (pbw_and (pb_cmp (or_eq (hu64 hr)) eq_m (pm_ix (pm_var (pv 0)) (pm_int)) (pm_str)) (pbw_and1 (pb_cmp (or_eq (hu64 hr)) eq_m (pm_ix (pm_var (pv 0)) (pm_int)) (pm_var (pv 1)))))) (pss_oneM (ps_setM (ps_set (i := 2) sc__law_used.nd rfl (by first | exact .inl rfl | exact .inr rfl) (pm_op or_add add_m (pm_var (pv 2)) (pm_ix (pm_var (pv 0)) (pm_int)))) (fun _ _ _ h => h))) (pss_nilM)) <|
    pss_consM (ps_ifM (pb_w (pbw_and (pb_cmp (or_in (hu65 hr)) in_m (pm_ix (pm_var (pv 0)) (pm_int)) (pm_tup (pam_cons (pm_str) (pam_cons (pm_str) (pam_nil)))) (by with_unfolding_all rfl)) (pbw_and1 (pb_cmp (or_eq (hu64 hr)) eq_m (pm_ix (pm_var (pv 0)) (pm_int)) (pm_var (pv 1)))))) (pss_oneM (ps_setM (ps_set (i := 2) sc__law_used.nd rfl (by first | exact .inl rfl | exact .inr rfl) (pm_op op_sub sub_m (pm_var (pv 2)) (pm_ix (pm_var (pv 0)) (pm_int)))) (fun _ _ _ h => h))) (pss_nilM)) <|
    pss_oneM (ps_retM (pm_var (pv 2)))
theorem sc__law_due : FnScope N__law_due P__law_due (defScope s__law_due) := ⟨rfl, rfl, rfl, by decide +kernel, rfl, by decide +kernel, by decide +kernel⟩
theorem d__law_due {x : Str} {fa : Addr} {fd : FuncData} (T : Txt K mg w) (F : Fun K "_law_due" "_law_due" s__law_due fa fd) (hm : mg x = some (.ref fa)) (D__law_used : DefOk P w K mg base 1 "_law_used" s__law_used P__law_used f__law_used) : DefOk P w K mg base 2 x s__law_due P__law_due f__law_due := by
  refine ⟨fa, _, "_law_due", fd, F, hm, fn_ok F sc__law_due fun cdv A outer s H E hg hr => ?_⟩
  unfold m__law_due
  exact pss_consM (ps_setM (ps_set (i := 2) sc__law_due.nd rfl (by first | exact .inl rfl | exact .inr rfl) (pm_box (pn_callT call_dictD dict_n T.b_dict (by decide +kernel) (pam_cons (pm_var (pv 1)) (pam_nil))))) (fun _ _ _ h => h)) <|
    pss_consM (ps_forM (passes_of rfl) rfl (pim_enum2 T.b_enumerate (pam_cons (pm_var (pv 0)) (pam_nil))) (pg_unpM (n := 2) rfl (pgs_consM (pg_nameM (pg_name (i := 3) sc__law_due.nd rfl (by first | exact .inl rfl | exact .inr rfl))) (pgs_consM (pg_nameM (pg_name (i := 4) sc__law_due.nd rfl (by first | exact .inl rfl | exact .inr rfl))) (pgs_nilM))) (glen_cons (glen_cons (glen_nil)))) (pss_consM (ps_lockM (ps_setLcM (i := 5) (own := [("_law_fund", 6)]) rfl sc__law_due.nd rfl rfl (sw_true rfl rfl rfl (by decide +kernel)) (pim_seqF (pm_var (pv 2))) (blkOk_by (N := N__law_due) (sc := defScope s__law_due) (by decide +kernel)) ⟨fun _ _ _ _ _ => pg_name (i := 6) sc__law_due.nd rfl (by first | exact .inl rfl | exact .inr rfl), bg_name, fun _ _ _ _ _ => pts_one (pb_cmp or_gt gt_m (pm_call (ks := []) (idx := [0, 1]) (n := 2) D__law_used hg hr (by decide) takes0 (fun _ _ _ _ _ _ _ _ us ws hu hw => match us, ws, hu, hw with | [_, _], [], _, _ => rfl) (pam_cons (pm_var (pv 4)) (pam_cons (pm_var (pv 6)) (pam_nil))) (pkm_nil) (alen_cons (alen_cons (alen_nil))) (alen_nil) (fun vs zs hv hz => match vs, zs, hv, hz with | [_, _], [], _, _ => rfl)) (pm_gx (hu64 hr) (pm_var (pv 2)) (pm_var (pv 6)))), fun _ _ _ _ _ => pm_var (pv 6)⟩)) <|
    pss_consM (ps_ifM (pb_cmp (or_ne (hu64 hr)) ne_m (pm_var (pv 5)) (pm_of (pn_lst (pam_nil)))) (pss_oneM (ps_retM (pm_tup (pam_cons (pm_var (pv 3)) (pam_cons (pm_ifE (pb_cmp (or_in (hu65 hr)) in_m (pm_str) (pm_var (pv 5)) (by with_unfolding_all rfl)) (pm_str) (pm_ix (pm_var (pv 5)) (pm_int))) (pam_nil)))))) (pss_nilM)) <|
    pss_oneM (ps_forM (passes_of rfl) rfl (pim_seq (pm_callT (call_listK rfl) listK_m T.b_list (by decide +kernel) (pam_cons (pm_var (pv 2)) (pam_nil)))) (pg_nameM (pg_name (i := 6) sc__law_due.nd rfl (by first | exact .inl rfl | exact .inr rfl))) (pss_oneM (ps_asgM (pm_op op_sub sub_m (pm_gx (hu64 hr) (pm_var (pv 2)) (pm_var (pv 6))) (pm_call (ks := []) (idx := [0, 1]) (n := 2) D__law_used hg hr (by decide) (takes_of rfl rfl rfl rfl) (fun _ _ _ _ _ _ _ _ us ws hu hw => match us, ws, hu, hw with | [_, _], [], _, _ => rfl) (pam_cons (pm_var (pv 4)) (pam_cons (pm_var (pv 6)) (pam_nil))) (pkm_nil) (alen_cons (alen_cons (alen_nil))) (alen_nil) (fun vs zs hv hz => match vs, zs, hv, hz with | [_, _], [], _, _ => rfl))) (pg_kxM (W := W0) (hu64 hr) (pm_var (pv 2)) (pm_var (pv 6)))))))) <|
    pss_oneM (ps_retM (pm_non))
theorem sc__law_right : FnScope N__law_right P__law_right (defScope s__law_right) := ⟨rfl, rfl, rfl, by decide +kernel, rfl, by decide +kernel, by decide +kernel⟩
theorem d__law_right {x : Str} {fa : Addr} {fd : FuncData} (T : Txt K mg w) (F : Fun K "_law_right" "_law_right" s__law_right fa fd) (hm : mg x = some (.ref fa)) (D_summary_of : DefOk P w K mg base 6 "summary_of" s_summary_of P_summary_of f_summary_of) (D_passes : DefOk P w K mg base 1 "passes" s_passes P_passes f_passes) (D_first_failing : DefOk P w K mg base 6 "first_failing" s_first_failing P_first_failing f_first_failing) (D__law_due : DefOk P w K mg base 2 "_law_due" s__law_due P__law_due f__law_due) : DefOk P w K mg base 7 x s__law_right P__law_right f__law_right := by
  refine ⟨fa, _, "_law_right", fd, F, hm, fn_ok F sc__law_right fun cdv A outer s H E hg hr => ?_⟩
  unfold m__law_right
  exact pss_consM (ps_par2M (i := 3) (j := 4) rfl sc__law_right.nd rfl rfl (by decide) rfl rfl (pam_cons (pm_call (ks := []) (idx := [0, 1]) (n := 2) D__law_due hg hr (by decide) (takes_of rfl rfl rfl rfl) (fun _ _ _ _ _ _ _ _ us ws hu hw => match us, ws, hu, hw with | [_, _], [], _, _ => rfl) (pam_cons (pm_var (pv 1)) (pam_cons (pm_var (pv 2)) (pam_nil))) (pkm_nil) (alen_cons (alen_cons (alen_nil))) (alen_nil) (fun vs zs hv hz => match vs, zs, hv, hz with | [_, _], [], _, _ => rfl)) (pam_cons (pm_callB (call_repr hg (hu65 hr)) repr_m T.b_repr (by decide +kernel) (pam_cons (pm_of (pn_lst (pam_cons (pm_var (pv 1)) (pam_cons (pm_var (pv 2)) (pam_nil))))) (pam_nil))) (pam_nil)))) <|
    pss_consM (ps_ifM (pb_cmp (or_ne (hu64 hr)) ne_m (pm_callB (call_repr hg (hu65 hr)) repr_m T.b_repr (by decide +kernel) (pam_cons (pm_of (pn_lst (pam_cons (pm_call (ks := []) (idx := [0, 1]) (n := 2) D_first_failing hg hr (by decide) (takes_of rfl rfl rfl rfl) (fun _ _ _ _ _ _ _ _ us ws hu hw => match us, ws, hu, hw with | [_, _], [], _, _ => rfl) (pam_cons (pm_var (pv 1)) (pam_cons (pm_var (pv 2)) (pam_nil))) (pkm_nil) (alen_cons (alen_cons (alen_nil))) (alen_nil) (fun vs zs hv hz => match vs, zs, hv, hz with | [_, _], [], _, _ => rfl)) (pam_cons (pm_call (ks := []) (idx := [0, 1]) (n := 2) D_first_failing hg hr (by decide) (takes_of rfl rfl rfl rfl) (fun _ _ _ _ _ _ _ _ us ws hu hw => match us, ws, hu, hw with | [_, _], [], _, _ => rfl) (pam_cons (pm_callT call_tuple_of tuple_m T.b_tuple (by decide +kernel) (pam_cons (pm_var (pv 1)) (pam_nil))) (pam_cons (pm_var (pv 2)) (pam_nil))) (pkm_nil) (alen_cons (alen_cons (alen_nil))) (alen_nil) (fun vs zs hv hz => match vs, zs, hv, hz with | [_, _], [], _, _ => rfl)) (pam_nil))))) (pam_nil))) (pm_callB (call_repr hg (hu65 hr)) repr_m T.b_repr (by decide +kernel) (pam_cons (pm_of (pn_lst (pam_cons (pm_var (pv 3)) (pam_cons (pm_var (pv 3)) (pam_nil))))) (pam_nil)))) (pss_oneM (ps_retM (pm_bl))) (pss_nilM)) <|
    pss_consM (ps_ifM (pb_cmp (or_ne (hu64 hr)) ne_m (pm_cmp op_isN is_m (pm_var (pv 3)) (pm_non)) (pm_callB (cr_all rfl) all_m T.b_all (by decide +kernel) (pam_cons (pm_of (pn_lock (pn_lc (own := [("_law_fund", 6)]) rfl sc__law_right.nd (pim_seqF (pm_var (pv 2))) (blkOk_by (N := N__law_right) (sc := defScope s__law_right) (by decide +kernel)) ⟨fun _ _ _ _ _ => pg_name (i := 6) sc__law_right.nd rfl (by first | exact .inl rfl | exact .inr rfl), bg_name, fun _ _ _ _ _ => PTs_imp pts_nil fun σ H Q h => bm_true h, fun _ _ _ _ _ => pm_call (ks := []) (idx := [0, 1]) (n := 2) D_passes hg hr (by decide) takes0 (fun _ _ _ _ _ _ _ _ us ws hu hw => match us, ws, hu, hw with | [_, _], [], _, _ => rfl) (pam_cons (pm_call (ks := []) (idx := [0, 1]) (n := 2) D_summary_of hg hr (by decide) takes0 (fun _ _ _ _ _ _ _ _ us ws hu hw => match us, ws, hu, hw with | [_, _], [], _, _ => rfl) (pam_cons (pm_var (pv 1)) (pam_cons (pm_var (pv 6)) (pam_nil))) (pkm_nil) (alen_cons (alen_cons (alen_nil))) (alen_nil) (fun vs zs hv hz => match vs, zs, hv, hz with | [_, _], [], _, _ => rfl)) (pam_cons (pm_gx (hu64 hr) (pm_var (pv 2)) (pm_var (pv 6))) (pam_nil))) (pkm_nil) (alen_cons (alen_cons (alen_nil))) (alen_nil) (fun vs zs hv hz => match vs, zs, hv, hz with | [_, _], [], _, _ => rfl)⟩))) (pam_nil)))) (pss_oneM (ps_retM (pm_bl))) (pss_nilM)) <|
    pss_consM (ps_ifM (pb_cmp op_notN isnt_m (pm_var (pv 3)) (pm_non)) (pss_consM (ps_ifM (pb_cmp op_notN isnt_m (pm_call (ks := []) (idx := [0, 1]) (n := 2) D_first_failing hg hr (by decide) (takes_of rfl rfl rfl rfl) (fun _ _ _ _ _ _ _ _ us ws hu hw => match us, ws, hu, hw with | [_, _], [], _, _ => rfl) (pam_cons (pm_sl (pm_var (pv 1)) (pom_none) (pom_some (pm_ix (pm_var (pv 3)) (pm_int)))) (pam_cons (pm_var (pv 2)) (pam_nil))) (pkm_nil) (alen_cons (alen_cons (alen_nil))) (alen_nil) (fun vs zs hv hz => match vs, zs, hv, hz with | [_, _], [], _, _ => rfl)) (pm_non)) (pss_oneM (ps_retM (pm_bl))) (pss_nilM)) <|
    pss_consM (ps_setM (ps_set (i := 5) sc__law_right.nd rfl (by first | exact .inl rfl | exact .inr rfl) (pm_op or_add add_m (pm_sl (pm_var (pv 1)) (pom_none) (pom_some (pm_op or_add add_m (pm_ix (pm_var (pv 3)) (pm_int)) (pm_int)))) (pm_of (pn_lst (pam_cons (pm_tup (pam_cons (pm_str) (pam_cons (pm_str) (pam_cons (pm_int) (pam_nil))))) (pam_cons (pm_tup (pam_cons (pm_str) (pam_nil))) (pam_nil))))))) (fun _ _ _ h => h)) <|
    pss_oneM (ps_ifM (pb_cmp (or_ne (hu64 hr)) ne_m (pm_call (ks := []) (idx := [0, 1]) (n := 2) D_first_failing hg hr (by decide) (takes_of rfl rfl rfl rfl) (fun _ _ _ _ _ _ _ _ us ws hu hw => match us, ws, hu, hw with | [_, _], [], _, _ => rfl) (pam_cons (pm_var (pv 5)) (pam_cons (pm_var (pv 2)) (pam_nil))) (pkm_nil) (alen_cons (alen_cons (alen_nil))) (alen_nil) (fun vs zs hv hz => match vs, zs, hv, hz with | [_, _], [], _, _ => rfl)) (pm_var (pv 3))) (pss_oneM (ps_retM (pm_bl))) (pss_nilM))) (pss_nilM)) <|
    pss_oneM (ps_retM (pm_cmp (or_eq (hu64 hr)) eq_m (pm_callB (call_repr hg (hu65 hr)) repr_m T.b_repr (by decide +kernel) (pam_cons (pm_of (pn_lst (pam_cons (pm_var (pv 1)) (pam_cons (pm_var (pv 2)) (pam_nil))))) (pam_nil))) (pm_var (pv 4))))
theorem sc_law : FnScope N_law P_law (defScope s_law) := ⟨rfl, rfl, rfl, by decide +kernel, rfl, by decide +kernel, by decide +kernel⟩
theorem d_law {x : Str} {fa : Addr} {fd : FuncData} (T : Txt K mg w) (F : Fun K "law" "law" s_law fa fd) (hm : mg x = some (.ref fa)) (D_first_failing : DefOk P w K mg base 6 "first_failing" s_first_failing P_first_failing f_first_failing) (D__law_rng : DefOk P w K mg base 1 "_law_rng" s__law_rng P__law_rng f__law_rng) (D__law_funds : DefOk P w K mg base 3 "_law_funds" s__law_funds P__law_funds f__law_funds) (D__law_drawn_rows : DefOk P w K mg base 4 "_law_drawn_rows" s__law_drawn_rows P__law_drawn_rows f__law_drawn_rows) (D__law_given : DefOk P w K mg base 7 "_law_given" s__law_given P__law_given f__law_given) (D__law_right : DefOk P w K mg base 7 "_law_right" s__law_right P__law_right f__law_right) : DefOk P w K mg base 8 x s_law P_law f_law := by
  refine ⟨fa, _, "law", fd, F, hm, fn_ok F sc_law fun cdv A outer s H E hg hr => ?_⟩
  unfold m_law
  exact pss_consM (ps_forM (passes_of rfl) rfl (pim_rng1 T.b_range (pam_cons (pm_callB (call_max2 rfl) max_m T.b_max (by decide +kernel) (pam_cons (pm_int) (pam_cons (pm_callB (call_min2 rfl) min_m T.b_min (by decide +kernel) (pam_cons (pm_int) (pam_cons (pm_callB or_len len_m T.b_len (by decide +kernel) (pam_cons (pm_var (pv 0)) (pam_nil))) (pam_nil)))) (pam_nil)))) (pam_nil))) (pg_nameM (pg_name (i := 1) sc_law.nd rfl (by first | exact .inl rfl | exact .inr rfl))) (pss_consM (ps_setM (ps_set (i := 4) sc_law.nd rfl (by first | exact .inl rfl | exact .inr rfl) (pm_call (ks := []) (idx := [0, 1]) (n := 2) D__law_rng hg hr (by decide) (takes_of rfl rfl rfl rfl) (fun _ _ _ _ _ _ _ _ us ws hu hw => match us, ws, hu, hw with | [_, _], [], _, _ => rfl) (pam_cons (pm_var (pv 0)) (pam_cons (pm_var (pv 1)) (pam_nil))) (pkm_nil) (alen_cons (alen_cons (alen_nil))) (alen_nil) (fun vs zs hv hz => match vs, zs, hv, hz with | [_, _], [], _, _ => rfl))) (fun _ _ _ h => h)) <|
    pss_consM (ps_setM (ps_set (i := 5) sc_law.nd rfl (by first | exact .inl rfl | exact .inr rfl) (pm_call (ks := []) (idx := [0]) (n := 1) D__law_funds hg hr (by decide) (takes_of rfl rfl rfl rfl) (fun _ _ _ _ _ _ _ _ us ws hu hw => match us, ws, hu, hw with | [_], [], _, _ => rfl) (pam_cons (pm_var (pv 4)) (pam_nil)) (pkm_nil) (alen_cons (alen_nil)) (alen_nil) (fun vs zs hv hz => match vs, zs, hv, hz with | [_], [], _, _ => rfl))) (fun _ _ _ h => h)) <|
    pss_consM (ps_setM (ps_set (i := 6) sc_law.nd rfl (by first | exact .inl rfl | exact .inr rfl) (pm_call (ks := []) (idx := [0, 1, 2]) (n := 3) D__law_drawn_rows hg hr (by decide) (takes_of rfl rfl rfl rfl) (fun _ _ _ _ _ _ _ _ us ws hu hw => match us, ws, hu, hw with | [_, _, _], [], _, _ => rfl) (pam_cons (pm_var (pv 4)) (pam_cons (pm_var (pv 5)) (pam_cons (pm_int) (pam_nil)))) (pkm_nil) (alen_cons (alen_cons (alen_cons (alen_nil)))) (alen_nil) (fun vs zs hv hz => match vs, zs, hv, hz with | [_, _, _], [], _, _ => rfl))) (fun _ _ _ h => h)) <|
    pss_oneM (ps_forM (passes_of rfl) rfl (pim_rng1 T.b_range (pam_cons (pm_int) (pam_nil))) (pg_nameM (pg_name (i := 7) sc_law.nd rfl (by first | exact .inl rfl | exact .inr rfl))) (pss_oneM (ps_ifM (pb_not (pb_val (pm_call (ks := []) (idx := [0, 1, 2]) (n := 3) D__law_right hg hr (by decide) (takes_of rfl rfl rfl rfl) (fun _ _ _ _ _ _ _ _ us ws hu hw => match us, ws, hu, hw with | [_, _, _], [], _, _ => rfl) (pam_cons (pm_var (pv 4)) (pam_cons (pm_var (pv 6)) (pam_cons (pm_call (ks := []) (idx := [0, 1, 2]) (n := 3) D__law_given hg hr (by decide) (takes_of rfl rfl rfl rfl) (fun _ _ _ _ _ _ _ _ us ws hu hw => match us, ws, hu, hw with | [_, _, _], [], _, _ => rfl) (pam_cons (pm_var (pv 4)) (pam_cons (pm_var (pv 6)) (pam_cons (pm_var (pv 5)) (pam_nil)))) (pkm_nil) (alen_cons (alen_cons (alen_cons (alen_nil)))) (alen_nil) (fun vs zs hv hz => match vs, zs, hv, hz with | [_, _, _], [], _, _ => rfl)) (pam_nil)))) (pkm_nil) (alen_cons (alen_cons (alen_cons (alen_nil)))) (alen_nil) (fun vs zs hv hz => match vs, zs, hv, hz with | [_, _, _], [], _, _ => rfl)))) (pss_oneM (ps_retM (pm_bl))) (pss_nilM)))))) <|
    pss_consM (ps_setM (ps_set (i := 2) sc_law.nd rfl (by first | exact .inl rfl | exact .inr rfl) (pm_of (pn_lst (pam_cons (pm_tup (pam_cons (pm_str) (pam_cons (pm_str) (pam_cons (pm_int) (pam_nil))))) (pam_cons (pm_tup (pam_cons (pm_str) (pam_cons (pm_str) (pam_cons (pm_int) (pam_nil))))) (pam_nil)))))) (fun _ _ _ h => h)) <|
    pss_consM (ps_setM (ps_set (i := 3) sc_law.nd rfl (by first | exact .inl rfl | exact .inr rfl) (pm_of (pn_lst (pam_cons (pm_call (ks := []) (idx := [0, 1]) (n := 2) D_first_failing hg hr (by decide) (takes_of rfl rfl rfl rfl) (fun _ _ _ _ _ _ _ _ us ws hu hw => match us, ws, hu, hw with | [_, _], [], _, _ => rfl) (pam_cons (pm_var (pv 2)) (pam_cons (pm_of (pn_dct (ms := [((mC (.str "steps")), (mC (.int 2)))]) (pps_cons (pm_str) (pm_int) (pps_nil)))) (pam_nil))) (pkm_nil) (alen_cons (alen_cons (alen_nil))) (alen_nil) (fun vs zs hv hz => match vs, zs, hv, hz with | [_, _], [], _, _ => rfl)) (pam_cons (pm_call (ks := []) (idx := [0, 1]) (n := 2) D_first_failing hg hr (by decide) (takes_of rfl rfl rfl rfl) (fun _ _ _ _ _ _ _ _ us ws hu hw => match us, ws, hu, hw with | [_, _], [], _, _ => rfl) (pam_cons (pm_var (pv 2)) (pam_cons (pm_of (pn_dct (ms := [((mC (.str "mem")), (mC (.int 2))), ((mC (.str "steps")), (mC (.int 3)))]) (pps_cons (pm_str) (pm_int) (pps_cons (pm_str) (pm_int) (pps_nil))))) (pam_nil))) (pkm_nil) (alen_cons (alen_cons (alen_nil))) (alen_nil) (fun vs zs hv hz => match vs, zs, hv, hz with | [_, _], [], _, _ => rfl)) (pam_nil)))))) (fun _ _ _ h => h)) <|
    pss_consM (ps_setM (ps_set (i := 3) sc_law.nd rfl (by first | exact .inl rfl | exact .inr rfl) (pm_op or_add add_m (pm_var (pv 3)) (pm_of (pn_lst (pam_cons (pm_call (ks := []) (idx := [0, 1]) (n := 2) D_first_failing hg hr (by decide) (takes_of rfl rfl rfl rfl) (fun _ _ _ _ _ _ _ _ us ws hu hw => match us, ws, hu, hw with | [_, _], [], _, _ => rfl) (pam_cons (pm_of (pn_lst (pam_nil))) (pam_cons (pm_of (pn_dct (ms := [((mC (.str "mem")), (mC (.int 0)))]) (pps_cons (pm_str) (pm_int) (pps_nil)))) (pam_nil))) (pkm_nil) (alen_cons (alen_cons (alen_nil))) (alen_nil) (fun vs zs hv hz => match vs, zs, hv, hz with | [_, _], [], _, _ => rfl)) (pam_cons (pm_call (ks := []) (idx := [0, 1]) (n := 2) D_first_failing hg hr (by decide) (takes_of rfl rfl rfl rfl) (fun _ _ _ _ _ _ _ _ us ws hu hw => match us, ws, hu, hw with | [_, _], [], _, _ => rfl) (pam_cons (pm_var (pv 2)) (pam_cons (pm_of (pn_dct0)) (pam_nil))) (pkm_nil) (alen_cons (alen_cons (alen_nil))) (alen_nil) (fun vs zs hv hz => match vs, zs, hv, hz with | [_, _], [], _, _ => rfl)) (pam_nil))))))) (fun _ _ _ h => h)) <|
    pss_oneM (ps_retM (pm_cmp (or_eq (hu64 hr)) eq_m (pm_var (pv 3)) (pm_of (pn_lst (pam_cons (pm_tup (pam_cons (pm_int) (pam_cons (pm_str) (pam_nil)))) (pam_cons (pm_tup (pam_cons (pm_int) (pam_cons (pm_str) (pam_nil)))) (pam_cons (pm_non) (pam_cons (pm_non) (pam_nil)))))))))
end
theorem all_mk {w : World} {P : Program} {K : PySem.W.Frag} {h : Heap} {mg : Str → Option Value} {fa f0 f1 f2 f3 f4 f5 f6 f7 f8 f9 f10 f11 f12 f13 f14 f15 f16 f17 f18 f19 f20 f21 f22 f23 r_FORMS : Addr} (X : K.In h) (G : h.Ns mainGlobals mg) (hfa : mg "law" = some (.ref fa))
    {od0 an0 od1 an1 od2 an2 od3 an3 od4 an4 od5 an5 od6 an6 od7 an7 od8 an8 od9 an9 od10 an10 od11 an11 od12 an12 od13 an13 od14 an14 od15 an15 od16 an16 od17 an17 od18 an18 od19 an19 od20 an20 od21 an21 od22 an22 od23 an23 : Option Addr} {sl0 sl1 sl2 sl3 sl4 sl5 sl6 sl7 sl8 sl9 sl10 sl11 sl12 sl13 sl14 sl15 sl16 sl17 sl18 sl19 sl20 sl21 sl22 sl23 : Array (Option Value)} {oc0 kV0 dc0 pm0 cd0 ct0 oc1 kV1 dc1 pm1 cd1 ct1 oc2 kV2 dc2 pm2 cd2 ct2 oc3 kV3 dc3 pm3 cd3 ct3 oc4 kV4 dc4 pm4 cd4 ct4 oc5 kV5 dc5 pm5 cd5 ct5 oc6 kV6 dc6 pm6 cd6 ct6 oc7 kV7 dc7 pm7 cd7 ct7 oc8 kV8 dc8 pm8 cd8 ct8 oc9 kV9 dc9 pm9 cd9 ct9 oc10 kV10 dc10 pm10 cd10 ct10 oc11 kV11 dc11 pm11 cd11 ct11 oc12 kV12 dc12 pm12 cd12 ct12 oc13 kV13 dc13 pm13 cd13 ct13 oc14 kV14 dc14 pm14 cd14 ct14 oc15 kV15 dc15 pm15 cd15 ct15 oc16 kV16 dc16 pm16 cd16 ct16 oc17 kV17 dc17 pm17 cd17 ct17 oc18 kV18 dc18 pm18 cd18 ct18 oc19 kV19 dc19 pm19 cd19 ct19 oc20 kV20 dc20 pm20 cd20 ct20 oc21 kV21 dc21 pm21 cd21 ct21 oc22 kV22 dc22 pm22 cd22 ct22 oc23 kV23 dc23 pm23 cd23 ct23 : Value} {t_BACK t_GIVE t_GREATEST_VALUE t_LETTERS t_MOST_LETTERS t_OUT t_STEP t_STEPS t_USE : Tok}
    (a0 : PySem.W.nsIn K mainGlobals "is_name" = some (some (.ref f0)))
    (a1 : PySem.W.nsIn K mainGlobals "is_integer_names" = some (some (.ref f1)))
    (a2 : PySem.W.nsIn K mainGlobals "is_value" = some (some (.ref f2)))
    (a3 : PySem.W.nsIn K mainGlobals "is_integer_records" = some (some (.ref f3)))
    (a4 : PySem.W.nsIn K mainGlobals "fits" = some (some (.ref f4)))
    (a5 : PySem.W.nsIn K mainGlobals "is_row" = some (some (.ref f5)))
    (a6 : PySem.W.nsIn K mainGlobals "require_rows" = some (some (.ref f6)))
    (a7 : PySem.W.nsIn K mainGlobals "used_by" = some (some (.ref f7)))
    (a8 : PySem.W.nsIn K mainGlobals "budgets_of" = some (some (.ref f8)))
    (a9 : PySem.W.nsIn K mainGlobals "first_failing" = some (some (.ref f9)))
    (a10 : PySem.W.nsIn K mainGlobals "_law_rng" = some (some (.ref f10)))
    (a11 : PySem.W.nsIn K mainGlobals "_law_draw" = some (some (.ref f11)))
    (a12 : PySem.W.nsIn K mainGlobals "_law_names" = some (some (.ref f12)))
    (a13 : PySem.W.nsIn K mainGlobals "_law_funds" = some (some (.ref f13)))
    (a14 : PySem.W.nsIn K mainGlobals "_law_number" = some (some (.ref f14)))
    (a15 : PySem.W.nsIn K mainGlobals "_law_drawn_row" = some (some (.ref f15)))
    (a16 : PySem.W.nsIn K mainGlobals "_law_drawn_rows" = some (some (.ref f16)))
    (a17 : PySem.W.nsIn K mainGlobals "summary_of" = some (some (.ref f17)))
    (a18 : PySem.W.nsIn K mainGlobals "_law_given" = some (some (.ref f18)))
    (a19 : PySem.W.nsIn K mainGlobals "passes" = some (some (.ref f19)))
    (a20 : PySem.W.nsIn K mainGlobals "_law_used" = some (some (.ref f20)))
    (a21 : PySem.W.nsIn K mainGlobals "_law_due" = some (some (.ref f21)))
    (a22 : PySem.W.nsIn K mainGlobals "_law_right" = some (some (.ref f22)))
    (a23 : PySem.W.nsIn K mainGlobals "law" = some (some (.ref f23)))
    (l0 : K.lookup f0 = some ⟨oc0, od0, .func (PySem.W.fnOf "is_name" "is_name" (defArgs s_is_name) (defBody s_is_name) (defScope s_is_name) .none kV0 dc0 pm0 an0 cd0 ct0), sl0⟩) (c0 : PySem.W.codeIn K cd0 "is_name" = true) (k0 : PySem.W.keepIn K (.ref f0) = true)
    (l1 : K.lookup f1 = some ⟨oc1, od1, .func (PySem.W.fnOf "is_integer" "is_integer" (defArgs s_is_integer_7) (defBody s_is_integer_7) (defScope s_is_integer_7) .none kV1 dc1 pm1 an1 cd1 ct1), sl1⟩) (c1 : PySem.W.codeIn K cd1 "is_integer" = true) (k1 : PySem.W.keepIn K (.ref f1) = true)
    (l2 : K.lookup f2 = some ⟨oc2, od2, .func (PySem.W.fnOf "is_value" "is_value" (defArgs s_is_value) (defBody s_is_value) (defScope s_is_value) .none kV2 dc2 pm2 an2 cd2 ct2), sl2⟩) (c2 : PySem.W.codeIn K cd2 "is_value" = true) (k2 : PySem.W.keepIn K (.ref f2) = true)
    (l3 : K.lookup f3 = some ⟨oc3, od3, .func (PySem.W.fnOf "is_integer" "is_integer" (defArgs s_is_integer) (defBody s_is_integer) (defScope s_is_integer) .none kV3 dc3 pm3 an3 cd3 ct3), sl3⟩) (c3 : PySem.W.codeIn K cd3 "is_integer" = true) (k3 : PySem.W.keepIn K (.ref f3) = true)
    (l4 : K.lookup f4 = some ⟨oc4, od4, .func (PySem.W.fnOf "fits" "fits" (defArgs s_fits) (defBody s_fits) (defScope s_fits) .none kV4 dc4 pm4 an4 cd4 ct4), sl4⟩) (c4 : PySem.W.codeIn K cd4 "fits" = true) (k4 : PySem.W.keepIn K (.ref f4) = true)
    (l5 : K.lookup f5 = some ⟨oc5, od5, .func (PySem.W.fnOf "is_row" "is_row" (defArgs s_is_row) (defBody s_is_row) (defScope s_is_row) .none kV5 dc5 pm5 an5 cd5 ct5), sl5⟩) (c5 : PySem.W.codeIn K cd5 "is_row" = true) (k5 : PySem.W.keepIn K (.ref f5) = true)
    (l6 : K.lookup f6 = some ⟨oc6, od6, .func (PySem.W.fnOf "require_rows" "require_rows" (defArgs s_require_rows) (defBody s_require_rows) (defScope s_require_rows) .none kV6 dc6 pm6 an6 cd6 ct6), sl6⟩) (c6 : PySem.W.codeIn K cd6 "require_rows" = true) (k6 : PySem.W.keepIn K (.ref f6) = true)
    (l7 : K.lookup f7 = some ⟨oc7, od7, .func (PySem.W.fnOf "used_by" "used_by" (defArgs s_used_by) (defBody s_used_by) (defScope s_used_by) .none kV7 dc7 pm7 an7 cd7 ct7), sl7⟩) (c7 : PySem.W.codeIn K cd7 "used_by" = true) (k7 : PySem.W.keepIn K (.ref f7) = true)
    (l8 : K.lookup f8 = some ⟨oc8, od8, .func (PySem.W.fnOf "budgets_of" "budgets_of" (defArgs s_budgets_of) (defBody s_budgets_of) (defScope s_budgets_of) .none kV8 dc8 pm8 an8 cd8 ct8), sl8⟩) (c8 : PySem.W.codeIn K cd8 "budgets_of" = true) (k8 : PySem.W.keepIn K (.ref f8) = true)
    (l9 : K.lookup f9 = some ⟨oc9, od9, .func (PySem.W.fnOf "first_failing" "first_failing" (defArgs s_first_failing) (defBody s_first_failing) (defScope s_first_failing) .none kV9 dc9 pm9 an9 cd9 ct9), sl9⟩) (c9 : PySem.W.codeIn K cd9 "first_failing" = true) (k9 : PySem.W.keepIn K (.ref f9) = true)
    (l10 : K.lookup f10 = some ⟨oc10, od10, .func (PySem.W.fnOf "_law_rng" "_law_rng" (defArgs s__law_rng) (defBody s__law_rng) (defScope s__law_rng) .none kV10 dc10 pm10 an10 cd10 ct10), sl10⟩) (c10 : PySem.W.codeIn K cd10 "_law_rng" = true) (k10 : PySem.W.keepIn K (.ref f10) = true)
    (l11 : K.lookup f11 = some ⟨oc11, od11, .func (PySem.W.fnOf "_law_draw" "_law_draw" (defArgs s__law_draw) (defBody s__law_draw) (defScope s__law_draw) .none kV11 dc11 pm11 an11 cd11 ct11), sl11⟩) (c11 : PySem.W.codeIn K cd11 "_law_draw" = true) (k11 : PySem.W.keepIn K (.ref f11) = true)
    (l12 : K.lookup f12 = some ⟨oc12, od12, .func (PySem.W.fnOf "_law_names" "_law_names" (defArgs s__law_names) (defBody s__law_names) (defScope s__law_names) .none kV12 dc12 pm12 an12 cd12 ct12), sl12⟩) (c12 : PySem.W.codeIn K cd12 "_law_names" = true) (k12 : PySem.W.keepIn K (.ref f12) = true)
    (l13 : K.lookup f13 = some ⟨oc13, od13, .func (PySem.W.fnOf "_law_funds" "_law_funds" (defArgs s__law_funds) (defBody s__law_funds) (defScope s__law_funds) .none kV13 dc13 pm13 an13 cd13 ct13), sl13⟩) (c13 : PySem.W.codeIn K cd13 "_law_funds" = true) (k13 : PySem.W.keepIn K (.ref f13) = true)
    (l14 : K.lookup f14 = some ⟨oc14, od14, .func (PySem.W.fnOf "_law_number" "_law_number" (defArgs s__law_number) (defBody s__law_number) (defScope s__law_number) .none kV14 dc14 pm14 an14 cd14 ct14), sl14⟩) (c14 : PySem.W.codeIn K cd14 "_law_number" = true) (k14 : PySem.W.keepIn K (.ref f14) = true)
    (l15 : K.lookup f15 = some ⟨oc15, od15, .func (PySem.W.fnOf "_law_drawn_row" "_law_drawn_row" (defArgs s__law_drawn_row) (defBody s__law_drawn_row) (defScope s__law_drawn_row) .none kV15 dc15 pm15 an15 cd15 ct15), sl15⟩) (c15 : PySem.W.codeIn K cd15 "_law_drawn_row" = true) (k15 : PySem.W.keepIn K (.ref f15) = true)
    (l16 : K.lookup f16 = some ⟨oc16, od16, .func (PySem.W.fnOf "_law_drawn_rows" "_law_drawn_rows" (defArgs s__law_drawn_rows) (defBody s__law_drawn_rows) (defScope s__law_drawn_rows) .none kV16 dc16 pm16 an16 cd16 ct16), sl16⟩) (c16 : PySem.W.codeIn K cd16 "_law_drawn_rows" = true) (k16 : PySem.W.keepIn K (.ref f16) = true)
    (l17 : K.lookup f17 = some ⟨oc17, od17, .func (PySem.W.fnOf "summary_of" "summary_of" (defArgs s_summary_of) (defBody s_summary_of) (defScope s_summary_of) .none kV17 dc17 pm17 an17 cd17 ct17), sl17⟩) (c17 : PySem.W.codeIn K cd17 "summary_of" = true) (k17 : PySem.W.keepIn K (.ref f17) = true)
    (l18 : K.lookup f18 = some ⟨oc18, od18, .func (PySem.W.fnOf "_law_given" "_law_given" (defArgs s__law_given) (defBody s__law_given) (defScope s__law_given) .none kV18 dc18 pm18 an18 cd18 ct18), sl18⟩) (c18 : PySem.W.codeIn K cd18 "_law_given" = true) (k18 : PySem.W.keepIn K (.ref f18) = true)
    (l19 : K.lookup f19 = some ⟨oc19, od19, .func (PySem.W.fnOf "passes" "passes" (defArgs s_passes) (defBody s_passes) (defScope s_passes) .none kV19 dc19 pm19 an19 cd19 ct19), sl19⟩) (c19 : PySem.W.codeIn K cd19 "passes" = true) (k19 : PySem.W.keepIn K (.ref f19) = true)
    (l20 : K.lookup f20 = some ⟨oc20, od20, .func (PySem.W.fnOf "_law_used" "_law_used" (defArgs s__law_used) (defBody s__law_used) (defScope s__law_used) .none kV20 dc20 pm20 an20 cd20 ct20), sl20⟩) (c20 : PySem.W.codeIn K cd20 "_law_used" = true) (k20 : PySem.W.keepIn K (.ref f20) = true)
    (l21 : K.lookup f21 = some ⟨oc21, od21, .func (PySem.W.fnOf "_law_due" "_law_due" (defArgs s__law_due) (defBody s__law_due) (defScope s__law_due) .none kV21 dc21 pm21 an21 cd21 ct21), sl21⟩) (c21 : PySem.W.codeIn K cd21 "_law_due" = true) (k21 : PySem.W.keepIn K (.ref f21) = true)
    (l22 : K.lookup f22 = some ⟨oc22, od22, .func (PySem.W.fnOf "_law_right" "_law_right" (defArgs s__law_right) (defBody s__law_right) (defScope s__law_right) .none kV22 dc22 pm22 an22 cd22 ct22), sl22⟩) (c22 : PySem.W.codeIn K cd22 "_law_right" = true) (k22 : PySem.W.keepIn K (.ref f22) = true)
    (l23 : K.lookup f23 = some ⟨oc23, od23, .func (PySem.W.fnOf "law" "law" (defArgs s_law) (defBody s_law) (defScope s_law) .none kV23 dc23 pm23 an23 cd23 ct23), sl23⟩) (c23 : PySem.W.codeIn K cd23 "law" = true) (k23 : PySem.W.keepIn K (.ref f23) = true)
    (z_abs : PySem.W.nsIn K mainGlobals "abs" = some none)
    (z_all : PySem.W.nsIn K mainGlobals "all" = some none)
    (z_bool : PySem.W.nsIn K mainGlobals "bool" = some none)
    (z_dict : PySem.W.nsIn K mainGlobals "dict" = some none)
    (z_divmod : PySem.W.nsIn K mainGlobals "divmod" = some none)
    (z_enumerate : PySem.W.nsIn K mainGlobals "enumerate" = some none)
    (z_int : PySem.W.nsIn K mainGlobals "int" = some none)
    (z_isinstance : PySem.W.nsIn K mainGlobals "isinstance" = some none)
    (z_len : PySem.W.nsIn K mainGlobals "len" = some none)
    (z_list : PySem.W.nsIn K mainGlobals "list" = some none)
    (z_max : PySem.W.nsIn K mainGlobals "max" = some none)
    (z_min : PySem.W.nsIn K mainGlobals "min" = some none)
    (z_range : PySem.W.nsIn K mainGlobals "range" = some none)
    (z_repr : PySem.W.nsIn K mainGlobals "repr" = some none)
    (z_str : PySem.W.nsIn K mainGlobals "str" = some none)
    (z_tuple : PySem.W.nsIn K mainGlobals "tuple" = some none)
    (z_zip : PySem.W.nsIn K mainGlobals "zip" = some none)
    (q_BACK : PySem.W.nsIn K mainGlobals "BACK" = some (some (.str "back" t_BACK)))
    (q_GIVE : PySem.W.nsIn K mainGlobals "GIVE" = some (some (.str "give" t_GIVE)))
    (q_GREATEST_VALUE : PySem.W.nsIn K mainGlobals "GREATEST_VALUE" = some (some (.int 1000000000000000000 t_GREATEST_VALUE)))
    (q_LETTERS : PySem.W.nsIn K mainGlobals "LETTERS" = some (some (.str "abcdefghijklmnopqrstuvwxyz" t_LETTERS)))
    (q_MOST_LETTERS : PySem.W.nsIn K mainGlobals "MOST_LETTERS" = some (some (.int 8 t_MOST_LETTERS)))
    (q_OUT : PySem.W.nsIn K mainGlobals "OUT" = some (some (.str "out" t_OUT)))
    (q_STEP : PySem.W.nsIn K mainGlobals "STEP" = some (some (.str "step" t_STEP)))
    (q_STEPS : PySem.W.nsIn K mainGlobals "STEPS" = some (some (.str "steps" t_STEPS)))
    (q_USE : PySem.W.nsIn K mainGlobals "USE" = some (some (.str "use" t_USE)))
    (q_FORMS : PySem.W.nsIn K mainGlobals "FORMS" = some (some (.ref r_FORMS))) (v_FORMS : KTab K w r_FORMS tab_FORMS)
    : ∃ fd : FuncData, (∀ (s : Shared) (v : Value), BindsTo s fd ⟨[v], []⟩ [("_law_script", v)]) ∧ ∀ base : Heap, K.In base → base.Ns mainGlobals mg → FnG P w K mg base 8 fa fd P_law (spM ⟨K, mg, w, []⟩ 1 f_law) := by
  have e := hfa.symm.trans (PySem.W.mg_of X G a23)
  cases e
  have T : Txt K mg w := ⟨PySem.W.mg_none_of X G z_abs, PySem.W.mg_none_of X G z_all, PySem.W.mg_none_of X G z_bool, PySem.W.mg_none_of X G z_dict, PySem.W.mg_none_of X G z_divmod, PySem.W.mg_none_of X G z_enumerate, PySem.W.mg_none_of X G z_int, PySem.W.mg_none_of X G z_isinstance, PySem.W.mg_none_of X G z_len, PySem.W.mg_none_of X G z_list, PySem.W.mg_none_of X G z_max, PySem.W.mg_none_of X G z_min, PySem.W.mg_none_of X G z_range, PySem.W.mg_none_of X G z_repr, PySem.W.mg_none_of X G z_str, PySem.W.mg_none_of X G z_tuple, PySem.W.mg_none_of X G z_zip, ⟨_, PySem.W.mg_of X G q_BACK⟩, ⟨_, PySem.W.mg_of X G q_GIVE⟩, ⟨_, PySem.W.mg_of X G q_GREATEST_VALUE⟩, ⟨_, PySem.W.mg_of X G q_LETTERS⟩, ⟨_, PySem.W.mg_of X G q_MOST_LETTERS⟩, ⟨_, PySem.W.mg_of X G q_OUT⟩, ⟨_, PySem.W.mg_of X G q_STEP⟩, ⟨_, PySem.W.mg_of X G q_STEPS⟩, ⟨_, PySem.W.mg_of X G q_USE⟩, ⟨_, PySem.W.mg_of X G q_FORMS, v_FORMS⟩⟩
  have F0 := fun_mk (st := s_is_name) l0 c0 k0
  have F1 := fun_mk (st := s_is_integer_7) l1 c1 k1
  have F2 := fun_mk (st := s_is_value) l2 c2 k2
  have F3 := fun_mk (st := s_is_integer) l3 c3 k3
  have F4 := fun_mk (st := s_fits) l4 c4 k4
  have F5 := fun_mk (st := s_is_row) l5 c5 k5
  have F6 := fun_mk (st := s_require_rows) l6 c6 k6
  have F7 := fun_mk (st := s_used_by) l7 c7 k7
  have F8 := fun_mk (st := s_budgets_of) l8 c8 k8
  have F9 := fun_mk (st := s_first_failing) l9 c9 k9
  have F10 := fun_mk (st := s__law_rng) l10 c10 k10
  have F11 := fun_mk (st := s__law_draw) l11 c11 k11
  have F12 := fun_mk (st := s__law_names) l12 c12 k12
  have F13 := fun_mk (st := s__law_funds) l13 c13 k13
  have F14 := fun_mk (st := s__law_number) l14 c14 k14
  have F15 := fun_mk (st := s__law_drawn_row) l15 c15 k15
  have F16 := fun_mk (st := s__law_drawn_rows) l16 c16 k16
  have F17 := fun_mk (st := s_summary_of) l17 c17 k17
  have F18 := fun_mk (st := s__law_given) l18 c18 k18
  have F19 := fun_mk (st := s_passes) l19 c19 k19
  have F20 := fun_mk (st := s__law_used) l20 c20 k20
  have F21 := fun_mk (st := s__law_due) l21 c21 k21
  have F22 := fun_mk (st := s__law_right) l22 c22 k22
  have F23 := fun_mk (st := s_law) l23 c23 k23
  refine ⟨_, fun s v => .of_eq (fd := PySem.W.fnOf "law" "law" (defArgs s_law) (defBody s_law) (defScope s_law) .none kV23 dc23 pm23 an23 cd23 ct23) rfl, fun base _ _ => ?_⟩
  have e0 : DefOk P w K mg base 1 "is_name" s_is_name P_is_name f_is_name := d_is_name T F0 (PySem.W.mg_of X G a0) 
  have e1 : DefOk P w K mg base 1 "is_integer_names" s_is_integer_7 P_is_integer_7 f_is_integer_7 := d_is_integer_7 T F1 (PySem.W.mg_of X G a1) 
  have e2 : DefOk P w K mg base 2 "is_value" s_is_value P_is_value f_is_value := d_is_value T F2 (PySem.W.mg_of X G a2) e1
  have e3 : DefOk P w K mg base 1 "is_integer_records" s_is_integer P_is_integer f_is_integer := d_is_integer T F3 (PySem.W.mg_of X G a3) 
  have e4 : DefOk P w K mg base 3 "fits" s_fits P_fits f_fits := d_fits T F4 (PySem.W.mg_of X G a4) e0 e2 e3
  have e5 : DefOk P w K mg base 4 "is_row" s_is_row P_is_row f_is_row := d_is_row T F5 (PySem.W.mg_of X G a5) e4
  have e6 : DefOk P w K mg base 5 "require_rows" s_require_rows P_require_rows f_require_rows := d_require_rows T F6 (PySem.W.mg_of X G a6) e5
  have e7 : DefOk P w K mg base 1 "used_by" s_used_by P_used_by f_used_by := d_used_by T F7 (PySem.W.mg_of X G a7) 
  have e8 : DefOk P w K mg base 1 "budgets_of" s_budgets_of P_budgets_of f_budgets_of := d_budgets_of T F8 (PySem.W.mg_of X G a8) 
  have e9 : DefOk P w K mg base 6 "first_failing" s_first_failing P_first_failing f_first_failing := d_first_failing T F9 (PySem.W.mg_of X G a9) e6 e7 e8
  have e10 : DefOk P w K mg base 1 "_law_rng" s__law_rng P__law_rng f__law_rng := d__law_rng T F10 (PySem.W.mg_of X G a10) 
  have e11 : DefOk P w K mg base 1 "_law_draw" s__law_draw P__law_draw f__law_draw := d__law_draw T F11 (PySem.W.mg_of X G a11) 
  have e12 : DefOk P w K mg base 2 "_law_names" s__law_names P__law_names f__law_names := d__law_names T F12 (PySem.W.mg_of X G a12) e11
  have e13 : DefOk P w K mg base 3 "_law_funds" s__law_funds P__law_funds f__law_funds := d__law_funds T F13 (PySem.W.mg_of X G a13) e11 e12
  have e14 : DefOk P w K mg base 2 "_law_number" s__law_number P__law_number f__law_number := d__law_number T F14 (PySem.W.mg_of X G a14) e11
  have e15 : DefOk P w K mg base 3 "_law_drawn_row" s__law_drawn_row P__law_drawn_row f__law_drawn_row := d__law_drawn_row T F15 (PySem.W.mg_of X G a15) e11 e14
  have e16 : DefOk P w K mg base 4 "_law_drawn_rows" s__law_drawn_rows P__law_drawn_rows f__law_drawn_rows := d__law_drawn_rows T F16 (PySem.W.mg_of X G a16) e11 e15
  have e17 : DefOk P w K mg base 6 "summary_of" s_summary_of P_summary_of f_summary_of := d_summary_of T F17 (PySem.W.mg_of X G a17) e6 e7
  have e18 : DefOk P w K mg base 7 "_law_given" s__law_given P__law_given f__law_given := d__law_given T F18 (PySem.W.mg_of X G a18) e17 e11
  have e19 : DefOk P w K mg base 1 "passes" s_passes P_passes f_passes := d_passes T F19 (PySem.W.mg_of X G a19) 
  have e20 : DefOk P w K mg base 1 "_law_used" s__law_used P__law_used f__law_used := d__law_used T F20 (PySem.W.mg_of X G a20) 
  have e21 : DefOk P w K mg base 2 "_law_due" s__law_due P__law_due f__law_due := d__law_due T F21 (PySem.W.mg_of X G a21) e20
  have e22 : DefOk P w K mg base 7 "_law_right" s__law_right P__law_right f__law_right := d__law_right T F22 (PySem.W.mg_of X G a22) e17 e19 e9 e21
  have e23 : DefOk P w K mg base 8 "law" s_law P_law f_law := d_law T F23 (PySem.W.mg_of X G a23) e9 e10 e13 e16 e18 e22
  obtain ⟨fb, yy, qual, fd, Fq, hm, Gq⟩ := e23
  have ee := hfa.symm.trans hm
  cases ee
  exact fd_same F23 Fq Gq
end K43

/-! P43a: the walk over rows, in plain lists. -/
namespace Rc
open PySem PySem.Spec PyProof.Rows L2 Mi
abbrev Am := List (Str × Int)
def kd (ks : Am) : List (Key × D) := ks.map fun p => (.inr p.1, .int p.2)
def look (ks : Am) (k : Str) : Option Int := (ks.find? fun p => decide (p.1 = k)).map (·.2)
theorem look_nil {k : Str} : look [] k = none := rfl
theorem look_cons {p : Str × Int} {ks : Am} {k : Str} : look (p :: ks) k = if p.1 = k then some p.2 else look ks k := by
  unfold look
  by_cases h : p.1 = k <;> simp [List.find?_cons, h]
theorem kd_val : ∀ {ks : Am} {k : Str}, Mi.valD (kd ks) (.inr k) = (look ks k).map D.int
  | [], _ => rfl
  | p :: ks, k => by
    have ih := kd_val (ks := ks) (k := k)
    rw [look_cons]
    unfold Mi.valD kd at *
    simp only [List.map_cons, List.find?_cons]
    by_cases h : p.1 = k
    · simp [h]
    · have : ¬ ((Sum.inr p.1 : Key) = .inr k) := fun e => h (by injection e)
      simp only [this, decide_false, h, if_false]
      exact ih
theorem kd_has : ∀ {ks : Am} {k : Str}, hasD (kd ks) (.inr k) = (look ks k).isSome
  | [], _ => rfl
  | p :: ks, k => by
    have ih := kd_has (ks := ks) (k := k)
    rw [look_cons]
    unfold hasD kd at *
    simp only [List.map_cons, List.any_cons, ih]
    by_cases h : p.1 = k
    · simp [h]
    · have : ¬ ((Sum.inr p.1 : Key) = .inr k) := fun e => h (by injection e)
      simp [this, h]
def setA (ks : Am) (k : Str) (v : Int) : Am := ks.map fun p => if p.1 = k then (p.1, v) else p
theorem kd_put {ks : Am} {k : Str} {v : Int} (h : (look ks k).isSome = true) : putD (kd ks) (.inr k) (.int v) = kd (setA ks k v) := by
  unfold putD
  rw [kd_has, if_pos h]
  unfold kd setA
  rw [List.map_map, List.map_map]
  refine List.map_congr_left fun p _ => ?_
  simp only [Function.comp]
  by_cases e : p.1 = k
  · simp [e]
  · have : ¬ ((Sum.inr p.1 : Key) = .inr k) := fun z => e (by injection z)
    simp [e, this]
theorem kd_len {ks : Am} : (kd ks).length = ks.length := by unfold kd; rw [List.length_map]
theorem kd_keys {ks : Am} : kKeys (kd ks) = (ks.map (·.1)).map D.str := by
  unfold kKeys kd
  rw [List.map_map, List.map_map]
  rfl
theorem look_mem : ∀ {ks : Am} {k : Str} {v : Int}, look ks k = some v → (k, v) ∈ ks
  | [], _, _, h => by cases h
  | p :: ks, k, v, h => by
    rw [look_cons] at h
    by_cases e : p.1 = k
    · rw [if_pos e] at h
      cases h
      rw [← e]; exact List.mem_cons_self
    · rw [if_neg e] at h; exact List.mem_cons_of_mem _ (look_mem h)
theorem look_of : ∀ {ks : Am} {k : Str} {v : Int}, (ks.map (·.1)).Nodup → (k, v) ∈ ks → look ks k = some v
  | p :: ks, k, v, hn, h => by
    rw [List.map_cons, List.nodup_cons] at hn
    rw [look_cons]
    rcases List.mem_cons.mp h with rfl | h
    · simp
    · have : ¬ p.1 = k := fun e => hn.1 (by rw [e]; exact List.mem_map.mpr ⟨_, h, rfl⟩)
      rw [if_neg this]; exact look_of hn.2 h
/-- one entry less by what the row uses of it -/
def upd1 (r : Row) (ks : Am) (b : Str) : Am := ks.map fun p => if p.1 = b then (p.1, p.2 - used r b) else p
def subA (r : Row) (ks : Am) : Am := ks.map fun p => (p.1, p.2 - used r p.1)
theorem upd1_keys {r : Row} {ks : Am} {b : Str} : (upd1 r ks b).map (·.1) = ks.map (·.1) := by
  unfold upd1
  rw [List.map_map]
  refine List.map_congr_left fun p _ => ?_
  simp only [Function.comp]
  split <;> rfl
theorem subA_keys {r : Row} {ks : Am} : (subA r ks).map (·.1) = ks.map (·.1) := by
  unfold subA
  rw [List.map_map]
  rfl
theorem setA_upd {r : Row} {ks : Am} {b : Str} {v : Int} (hn : (ks.map (·.1)).Nodup) (h : look ks b = some v) : setA ks b (v - used r b) = upd1 r ks b := by
  unfold setA upd1
  refine List.map_congr_left fun p hp => ?_
  by_cases e : p.1 = b
  · have : look ks b = some p.2 := look_of hn (by rw [← e]; exact hp)
    rw [h] at this
    cases this
    rfl
  · simp only [e, if_false]
theorem fold_upd {r : Row} : ∀ {bs : List Str} {ks : Am}, bs.Nodup → bs.foldl (upd1 r) ks = ks.map fun p => if p.1 ∈ bs then (p.1, p.2 - used r p.1) else p
  | [], ks, _ => by simp
  | b :: bs, ks, hn => by
    rw [List.nodup_cons] at hn
    rw [List.foldl_cons, fold_upd hn.2]
    unfold upd1
    rw [List.map_map]
    refine List.map_congr_left fun p _ => ?_
    simp only [Function.comp]
    by_cases e : p.1 = b
    · subst e
      simp [hn.1]
    · have : (p.1 ∈ b :: bs) = (p.1 ∈ bs) := by simp [e]
      simp only [e, if_false, this]
theorem fold_keys {r : Row} : ∀ {bs : List Str} {ks : Am}, (bs.foldl (upd1 r) ks).map (·.1) = ks.map (·.1)
  | [], _ => rfl
  | b :: bs, ks => by rw [List.foldl_cons, fold_keys, upd1_keys]
def budgets : Row → List Str
  | .use b _ | .back b _ | .give b _ => if b = "steps" then ["steps"] else ["steps", b]
  | _ => ["steps"]
theorem budgets_nd {r : Row} : (budgets r).Nodup := by
  cases r <;> simp only [budgets] <;> (try split) <;> simp_all [eq_comm]
theorem used_out {r : Row} {b : Str} (h : b ∉ budgets r) : used r b = 0 := by
  cases r with
  | step => simp only [budgets, List.mem_singleton] at h; simp [used, ifS, h]
  | out v => simp only [budgets, List.mem_singleton] at h; simp [used, ifS, h]
  | put v => rfl
  | caught c => rfl
  | use c n => simp only [budgets] at h; split at h <;> simp_all [used, ifS, eq_comm]
  | back c n => simp only [budgets] at h; split at h <;> simp_all [used, ifS, eq_comm]
  | give c n => simp only [budgets] at h; split at h <;> simp_all [used, ifS, eq_comm]
/-- the budgets of a row that there are -/
def bsOf (r : Row) (ks : Am) : List Str := (budgets r).filter fun b => (look ks b).isSome
theorem look_key {ks : Am} {k : Str} : (look ks k).isSome = true ↔ k ∈ ks.map (·.1) := by
  induction ks with
  | nil => simp [look_nil]
  | cons p ks ih =>
    rw [look_cons, List.map_cons, List.mem_cons]
    by_cases e : p.1 = k
    · simp [e]
    · rw [if_neg e, ih]
      exact ⟨fun h => .inr h, fun h => h.elim (fun z => absurd z.symm e) id⟩
theorem bs_upd {r : Row} {ks : Am} : (bsOf r ks).foldl (upd1 r) ks = subA r ks := by
  rw [fold_upd (bs := bsOf r ks) (List.Pairwise.filter _ budgets_nd)]
  unfold subA
  refine List.map_congr_left fun p hp => ?_
  by_cases h : p.1 ∈ bsOf r ks
  · rw [if_pos h]
  · rw [if_neg h]
    have : p.1 ∉ budgets r := fun z => h (List.mem_filter.mpr ⟨z, look_key.mpr (List.mem_map.mpr ⟨p, hp, rfl⟩)⟩)
    rw [used_out this]
    simp
theorem keys_upd {r : Row} {ks : Am} (hn : (ks.map (·.1)).Nodup) : (ks.map (·.1)).foldl (upd1 r) ks = subA r ks := by
  rw [fold_upd hn]
  unfold subA
  refine List.map_congr_left fun p hp => ?_
  rw [if_pos (List.mem_map.mpr ⟨p, hp, rfl⟩)]
/-- whether the row uses more than there is -/
def over (r : Row) (ks : Am) (b : Str) : Bool := match look ks b with
  | some v => decide (v < used r b)
  | none => false
def fail (r : Row) (ks : Am) : Option Str := (bsOf r ks).find? (over r ks)
def walk : List Row → Am → Nat → Option (Nat × Str)
  | [], _, _ => none
  | r :: rs, ks, i => match fail r ks with
    | some b => some (i, b)
    | none => walk rs (subA r ks) (i + 1)
def NN (ks : Am) : Prop := ∀ p ∈ ks, 0 ≤ p.2
def lack (r : Row) (ks : Am) : List Str := (ks.map (·.1)).filter (over r ks)
def lfail (r : Row) (ks : Am) : Option Str := match lack r ks with
  | [] => none
  | b :: _ => some (if ("steps" : Str) ∈ lack r ks then "steps" else b)
theorem over_in {r : Row} {ks : Am} {b : Str} (h : NN ks) (o : over r ks b = true) : b ∈ bsOf r ks := by
  unfold over at o
  cases e : look ks b with
  | none => rw [e] at o; cases o
  | some v =>
    rw [e] at o
    have o' := of_decide_eq_true o
    have hv := h _ (look_mem e)
    refine List.mem_filter.mpr ⟨?_, by rw [e]; rfl⟩
    by_cases hb : b ∈ budgets r
    · exact hb
    · rw [used_out hb] at o'
      simp only at hv
      omega
theorem over_key {r : Row} {ks : Am} {b : Str} (o : over r ks b = true) : b ∈ ks.map (·.1) := by
  unfold over at o
  cases e : look ks b with
  | none => rw [e] at o; cases o
  | some v => exact look_key.mp (by rw [e]; rfl)
theorem mem_lack {r : Row} {ks : Am} {b : Str} : b ∈ lack r ks ↔ over r ks b = true := by
  unfold lack
  rw [List.mem_filter]
  exact ⟨fun h => h.2, fun h => ⟨over_key h, h⟩⟩
theorem budgets_form (r : Row) : budgets r = [("steps" : Str)] ∨ ∃ b : Str, b ≠ "steps" ∧ budgets r = [("steps" : Str), b] := by
  cases r with
  | use b n => simp only [budgets]; split; exact .inl rfl; exact .inr ⟨b, by assumption, rfl⟩
  | back b n => simp only [budgets]; split; exact .inl rfl; exact .inr ⟨b, by assumption, rfl⟩
  | give b n => simp only [budgets]; split; exact .inl rfl; exact .inr ⟨b, by assumption, rfl⟩
  | _ => exact .inl rfl
theorem fail_eq {r : Row} {ks : Am} (h : NN ks) : lfail r ks = fail r ks := by
  unfold lfail
  cases el : lack r ks with
  | nil =>
    have : fail r ks = none := List.find?_eq_none.mpr fun b _ o => by
      have := mem_lack.mpr o
      rw [el] at this
      cases this
    rw [this]
  | cons b t =>
    simp only
    have hb : over r ks b = true := mem_lack.mp (by rw [el]; exact List.mem_cons_self)
    have hbs := over_in h hb
    by_cases hs : over r ks "steps" = true
    · have h1 : ("steps" : Str) ∈ b :: t := by rw [← el]; exact mem_lack.mpr hs
      rw [if_pos h1]
      have h2 := over_in h hs
      unfold fail
      unfold bsOf at h2 ⊢
      have h3 := (List.mem_filter.mp h2).2
      rcases budgets_form r with e | ⟨c, hc, e⟩
      · rw [e]; simp [h3, hs]
      · rw [e]; simp [List.filter_cons, h3, hs]
    · have h1 : ("steps" : Str) ∉ b :: t := fun z => hs (mem_lack.mp (by rw [el]; exact z))
      rw [if_neg h1]
      unfold fail
      unfold bsOf at hbs ⊢
      have h3 := List.mem_filter.mp hbs
      rcases budgets_form r with e | ⟨c, hc, e⟩
      · rw [e] at h3
        have := List.mem_singleton.mp h3.1
        subst this
        exact absurd hb hs
      · rw [e] at h3 ⊢
        have hbc : b = c := by
          have := h3.1
          simp only [List.mem_cons, List.not_mem_nil, or_false] at this
          rcases this with rfl | rfl
          · exact absurd hb hs
          · rfl
        subst hbc
        have hs' : over r ks "steps" = false := by simpa using hs
        by_cases hk : (look ks "steps").isSome = true
        · simp [List.filter_cons, h3.2, hk, hs', hb]
        · simp [List.filter_cons, h3.2, hk, hb]
theorem fail_none {r : Row} {ks : Am} (hn : NN ks) (nd : (ks.map (·.1)).Nodup) (h : fail r ks = none) : ∀ p ∈ ks, used r p.1 ≤ p.2 := by
  intro q hq
  have e := look_of nd (show (q.1, q.2) ∈ ks from hq)
  have o : over r ks q.1 = false := by
    cases ho : over r ks q.1 with
    | false => rfl
    | true => exact absurd ho (List.find?_eq_none.mp h _ (over_in hn ho))
  unfold over at o
  rw [e] at o
  have := of_decide_eq_false o
  omega
theorem fail_none' {r : Row} {ks : Am} (nd : (ks.map (·.1)).Nodup) (h : ∀ p ∈ ks, used r p.1 ≤ p.2) : fail r ks = none := by
  refine List.find?_eq_none.mpr fun b _ o => ?_
  unfold over at o
  cases e : look ks b with
  | none => rw [e] at o; cases o
  | some v =>
    rw [e] at o
    have := of_decide_eq_true o
    have := h _ (look_mem e)
    simp only at this
    omega
theorem sub_nn {r : Row} {ks : Am} (h : ∀ p ∈ ks, used r p.1 ≤ p.2) : NN (subA r ks) := by
  intro p hp
  unfold subA at hp
  obtain ⟨q, hq, rfl⟩ := List.mem_map.mp hp
  have := h q hq
  simp only
  omega
theorem su_cons {b : Str} {r : Row} {rs : List Row} : (su b (r :: rs)).1 = max (max 0 (used r b)) (used r b + (su b rs).1) := by
  have e : su b (r :: rs) = jn (suF b (0, 0) r) (su b rs) := (fold_jn b rs (suF b (0, 0) r) (by unfold V suF; simp only; omega)).1
  rw [e]
  unfold jn suF
  simp
theorem walk_iff : ∀ {rs : List Row} {ks : Am} {i : Nat}, NN ks → (ks.map (·.1)).Nodup → (walk rs ks i = none ↔ ∀ p ∈ ks, (su p.1 rs).1 ≤ p.2)
  | [], ks, i, hn, nd => ⟨fun _ p hp => hn p hp, fun _ => rfl⟩
  | r :: rs, ks, i, hn, nd => by
    unfold walk
    cases e : fail r ks with
    | some b =>
      simp only [reduceCtorEq, false_iff]
      intro h
      have := fail_none' nd (r := r) fun p hp => by
        have := h p hp
        rw [su_cons] at this
        omega
      rw [e] at this
      cases this
    | none =>
      have h1 := fail_none hn nd e
      simp only
      rw [walk_iff (sub_nn h1) (by rw [subA_keys]; exact nd)]
      constructor
      · intro h p hp
        have h2 := h (p.1, p.2 - used r p.1) (List.mem_map.mpr ⟨p, hp, rfl⟩)
        have h3 := h1 p hp
        have h4 := hn p hp
        rw [su_cons]
        simp only at h2
        omega
      · intro h p hp
        obtain ⟨q, hq, rfl⟩ := List.mem_map.mp hp
        have h2 := h q hq
        rw [su_cons] at h2
        simp only
        omega
theorem walk_some : ∀ {rs : List Row} {ks : Am} {i j : Nat} {b : Str}, walk rs ks i = some (j, b) → ∃ k, j = i + k ∧ k < rs.length ∧ walk (rs.take k) ks i = none ∧ ∀ ext, walk (rs.take (k + 1) ++ ext) ks i = some (j, b)
  | [], ks, i, j, b, h => by cases h
  | r :: rs, ks, i, j, b, h => by
    unfold walk at h
    cases e : fail r ks with
    | some c =>
      rw [e] at h
      cases h
      refine ⟨0, rfl, by simp, rfl, fun ext => ?_⟩
      simp only [Nat.zero_add, List.take_succ_cons, List.take_zero, List.cons_append, List.nil_append]
      unfold walk
      rw [e]
    | none =>
      rw [e] at h
      obtain ⟨k, h1, h2, h3, h4⟩ := walk_some h
      refine ⟨k + 1, by omega, by simp; omega, ?_, fun ext => ?_⟩
      · simp only [List.take_succ_cons]
        unfold walk
        rw [e]; exact h3
      · simp only [List.take_succ_cons, List.cons_append]
        unfold walk
        rw [e]
        have := h4 ext
        simpa only [List.take_succ_cons] using this
end Rc

/-! P43b: first_failing. -/
namespace K43
open PySem PySem.Spec PyProof.Rows L2 Mi Rc
theorem e_used : K43.f_used_by = Rc.f_used_by := rfl
theorem e_require : K43.f_require_rows = Rc.f_require_rows := rfl
theorem e_lused : K43.f__law_used = Rc.f__law_used := rfl
def ans : Option (Nat × Str) → D
  | none => .non
  | some p => .tup [.int p.1, .str p.2]
section
variable {S : Store}
theorem in_ubg {x : Str} (h : x ∈ (["steps", "step", "use", "back", "give", "out", "put", "caught"] : List Str)) : dIn S (.str x) (.tup [.str "use", .str "back", .str "give"]) = some (.bl (("use" : Str) == x || ("back" == x || ("give" == x || false)))) :=
  va_in3 (w_ok h) (w_ok (by simp)) (w_ok (by simp)) (w_ok (by simp))
theorem budgets_eq {r : Rc.Row} : f_budgets_of [r.d] S = .ok (.lst ((budgets r).map D.str)) S := by
  refine al_eq ?_
  unfold f_budgets_of m_budgets_of
  cases r <;> (simp only [w_c, w_var, w_bin, w_un, w_nil, w_cons, w_fun, w_tup, w_lst, w_dct0, w_call, w_callP, w_if, w_and, w_or, w_not, w_chain, w_bof, w_btru, w_bnot, w_band, w_bor, w_btrue, w_iseq, w_ifun, w_comp, w_onone, w_osome, w_sl, w_lend, w_blend, w_seq, w_snil, w_set, w_own, w_ret, w_retn, w_retv, w_exp, w_sif, w_asg, w_sfor, w_brk, w_cont, w_par2, w_par3, w_app, w_def, lent, al_ok, al_stuck, va_add, va_addI, va_sub, va_neg, va_lt, va_le, va_gt, va_ge, va_eqS, va_neS, va_eqI, va_neI, va_ixL, va_ixT, va_lenL, va_lenT, va_max, va_min, va_abs, va_asB, va_truB, va_itL, va_itT, va_itS, va_tupL, va_tupT, va_inS, va_notInS, va_isN, va_some_bl, List.getElem?_cons_zero, List.getElem?_cons_succ, List.set_cons_zero, List.set_cons_succ, List.map_cons, List.map_nil, List.length_cons, List.length_nil, List.replicate, List.cons_append, List.nil_append, List.append_nil, Nat.reduceSub, Nat.reduceAdd, Nat.sub_self, Nat.zero_add, sizeLine_eq, Nat.reduceLeDiff, pick, List.filterMap_cons, List.filterMap_nil, Option.some.injEq, exists_eq_left', exists_eq_left, exists_const, true_and, and_true, Bool.not_true, Bool.not_false, if_true, if_false, reduceIte, Bool.false_eq_true, eq_self, D.int.injEq, Rc.Row.d, at0, at1, at2, in_ubg (x := "step") (by simp), in_ubg (x := "use") (by simp), in_ubg (x := "back") (by simp), in_ubg (x := "give") (by simp), in_ubg (x := "out") (by simp), in_ubg (x := "put") (by simp), in_ubg (x := "caught") (by simp), ws_steps_steps, ws_steps_step, ws_steps_use, ws_steps_back, ws_steps_give, ws_steps_out, ws_steps_put, ws_steps_caught, ws_steps_keep, ws_steps_restore, ws_step_steps, ws_step_step, ws_step_use, ws_step_back, ws_step_give, ws_step_out, ws_step_put, ws_step_caught, ws_step_keep, ws_step_restore, ws_use_steps, ws_use_step, ws_use_use, ws_use_back, ws_use_give, ws_use_out, ws_use_put, ws_use_caught, ws_use_keep, ws_use_restore, ws_back_steps, ws_back_step, ws_back_use, ws_back_back, ws_back_give, ws_back_out, ws_back_put, ws_back_caught, ws_back_keep, ws_back_restore, ws_give_steps, ws_give_step, ws_give_use, ws_give_back, ws_give_give, ws_give_out, ws_give_put, ws_give_caught, ws_give_keep, ws_give_restore, ws_out_steps, ws_out_step, ws_out_use, ws_out_back, ws_out_give, ws_out_out, ws_out_put, ws_out_caught, ws_out_keep, ws_out_restore, ws_put_steps, ws_put_step, ws_put_use, ws_put_back, ws_put_give, ws_put_out, ws_put_put, ws_put_caught, ws_put_keep, ws_put_restore, ws_caught_steps, ws_caught_step, ws_caught_use, ws_caught_back, ws_caught_give, ws_caught_out, ws_caught_put, ws_caught_caught, ws_caught_keep, ws_caught_restore, ws_keep_steps, ws_keep_step, ws_keep_use, ws_keep_back, ws_keep_give, ws_keep_out, ws_keep_put, ws_keep_caught, ws_keep_keep, ws_keep_restore, ws_restore_steps, ws_restore_step, ws_restore_use, ws_restore_back, ws_restore_give, ws_restore_out, ws_restore_put, ws_restore_caught, ws_restore_keep, ws_restore_restore, Bool.or_false, Bool.or_true, Bool.true_or, Bool.false_or, budgets])
  all_goals (try (rename_i b n; by_cases hb : b = "steps" <;> simp [hb]))
theorem last_at {x : SO} : (S ++ [x])[S.length]? = some x := by simp
theorem last_set {x y : SO} : (S ++ [x]).set S.length y = S ++ [y] := by simp
theorem last_view {k : List (Key × D)} : viewK (S ++ [.dct k]) (.ref S.length) = some k := by simp only [viewK, last_at]
theorem last_viewL {k : List (Key × D)} : viewK (S ++ [.lck k]) (.ref S.length) = some k := by simp only [viewK, last_at]
theorem kin_at {k : Str} {ks : Am} : dKin (S ++ [.dct (kd ks)]) (.str k) (.ref S.length) = some (.bl (look ks k).isSome) := by
  unfold dKin
  rw [last_view]
  simp only [keyD, kd_has]
theorem gx_at {T : Store} {n : Nat} {k : Str} {ks : Am} (h : viewK T (.ref n) = some (kd ks)) : dGx T (.ref n) (.str k) = (look ks k).map D.int := by
  unfold dGx
  rw [h]
  simp only [keyD, kd_val]
theorem kx_at {T : Store} {n : Nat} {k : Str} {ks : Am} (h : viewK T (.ref n) = some (kd ks)) : dKx T (.ref n) (.str k) = (look ks k).map D.int := by
  unfold dKx
  rw [h]
  simp only [keyD, kd_val]
theorem put_at {k : Str} {ks : Am} {v : Int} (h : (look ks k).isSome = true) (hl : ks.length < 1000) : storeKx (.ref S.length) (.str k) (.int v) (S ++ [.dct (kd ks)]) = some (S ++ [.dct (kd (setA ks k v))]) := by
  unfold storeKx
  simp only [last_at, keyD]
  rw [if_pos (by rw [kd_len, sizeLine_eq]; omega), kd_put h, last_set]
theorem walk_cons {r : Rc.Row} {rs : List Rc.Row} {ks : Am} {i : Nat} : walk (r :: rs) ks i = match fail r ks with
  | some b => some (i, b)
  | none => walk rs (subA r ks) (i + 1) := rfl
theorem fold_len {r : Rc.Row} {bs : List Str} {ks : Am} : (bs.foldl (upd1 r) ks).length = ks.length := by
  have := congrArg List.length (fold_keys (r := r) (bs := bs) (ks := ks))
  simpa using this
theorem ff_al {d a : D} {rs : List Rc.Row} {ks : Am} (e : d = .lst (rs.map Rc.Row.d) ∨ d = .tup (rs.map Rc.Row.d)) (h : ∀ r ∈ rs, r.ok) (ha : viewK S a = some (kd ks)) (nd : (ks.map (·.1)).Nodup) (hl : ks.length < 1000) :
    (f_first_failing [d, a] S).al (fun z S' => z = ans (walk rs ks 0) ∧ ∃ J, S' = S ++ J) fun _ _ => False := by
  have ei : itemsOf d = some (rs.map Rc.Row.d) := by rcases e with rfl | rfl <;> rfl
  have es : enumD [d] = some (enumL (rs.map Rc.Row.d)) := by rcases e with rfl | rfl <;> rfl
  have ed : ∀ T : Store, T = S → fDict T [a] = some (.dct (kd ks)) := fun T hT => by subst hT; unfold fDict; simp only [ha]
  unfold f_first_failing m_first_failing
  simp only [w_c, w_var, w_bin, w_un, w_nil, w_cons, w_fun, w_tup, w_lst, w_dct0, w_call, w_callP, w_if, w_and, w_or, w_not, w_chain, w_bof, w_btru, w_bnot, w_band, w_bor, w_btrue, w_iseq, w_ifun, w_comp, w_onone, w_osome, w_sl, w_lend, w_blend, w_seq, w_snil, w_set, w_own, w_ret, w_retn, w_retv, w_exp, w_sif, w_asg, w_sfor, w_brk, w_cont, w_par2, w_par3, w_app, w_def, lent, al_ok, al_stuck, va_add, va_addI, va_sub, va_neg, va_lt, va_le, va_gt, va_ge, va_eqS, va_neS, va_eqI, va_neI, va_ixL, va_ixT, va_lenL, va_lenT, va_max, va_min, va_abs, va_asB, va_truB, va_itL, va_itT, va_itS, va_tupL, va_tupT, va_inS, va_notInS, va_isN, va_some_bl, List.getElem?_cons_zero, List.getElem?_cons_succ, List.set_cons_zero, List.set_cons_succ, List.map_cons, List.map_nil, List.length_cons, List.length_nil, List.replicate, List.cons_append, List.nil_append, List.append_nil, Nat.reduceSub, Nat.reduceAdd, Nat.sub_self, Nat.zero_add, sizeLine_eq, Nat.reduceLeDiff, pick, List.filterMap_cons, List.filterMap_nil, Option.some.injEq, exists_eq_left', exists_eq_left, exists_const, true_and, and_true, Bool.not_true, Bool.not_false, if_true, if_false, reduceIte, Bool.false_eq_true, eq_self, D.int.injEq, e_require, require_ok ei h, es, w_box, ed S rfl, soOf]
  refine for_wp (fun i ρ S' => ∃ ks' x3 x4 x5 x6, S' = S ++ [.dct (kd ks')] ∧ walk rs ks 0 = walk (rs.drop i) ks' i ∧ (ks'.map (·.1)).Nodup ∧ ks'.length < 1000 ∧ ρ = [.sh d, .sh a, .sh (.ref S.length), x3, x4, x5, x6]) ⟨ks, _, _, _, _, rfl, by rw [List.drop_zero], nd, hl, rfl⟩ ?_ ?_
  · rintro i x ρ _ hx ⟨ks', x3, x4, x5, x6, rfl, hw, nd', hl', rfl⟩
    unfold enumL at hx
    rw [List.getElem?_map, List.getElem?_zipIdx, List.getElem?_map] at hx
    cases er : rs[i]? with
    | none => rw [er] at hx; cases hx
    | some r =>
      rw [er] at hx
      cases hx
      have hr := h r (List.mem_of_getElem? er)
      have hi := (List.getElem?_eq_some_iff.mp er)
      have hd : rs.drop i = r :: rs.drop (i + 1) := by
        rw [List.drop_eq_getElem_cons hi.1, hi.2]
      rw [hd, walk_cons] at hw
      refine ⟨_, rfl, ?_⟩
      have hc : ∀ x5, compL [6] (gSet 6) (bOf (mBin dKin (mVar 6) (mVar 2))) (mVar 6) [.sh d, .sh a, .sh (.ref S.length), .sh (.int i), .sh r.d, x5, .un] ((budgets r).map D.str) [] (S ++ [.dct (kd ks')]) = .ok (.map D.str (bsOf r ks')) (S ++ [.dct (kd ks')]) := by
        intro x5
        have hp := comp_pure (vs := [6]) (g := gSet 6) (t := bOf (mBin dKin (mVar 6) (mVar 2))) (e := mVar 6) (ρ := [.sh d, .sh a, .sh (.ref S.length), .sh (.int i), .sh r.d, x5, .un]) (S := S ++ [.dct (kd ks')])
          (p := fun d => match d with | .str w => (look ks' w).isSome | _ => false) (f := fun d => d) ((budgets r).map D.str) [] (fun d hd => by
            obtain ⟨b, hb, rfl⟩ := List.mem_map.mp hd
            refine ⟨_, rfl, ?_, fun _ => rfl⟩
            simp only [bOf, mBin, mVar, List.set_cons_succ, List.set_cons_zero, List.getElem?_cons_succ, List.getElem?_cons_zero, R.bind, R.opt, kin_at, asB]) (by
            rw [List.length_map, List.length_nil, sizeLine_eq]
            rcases budgets_form r with e | ⟨c, _, e⟩ <;> rw [e] <;> simp)
        rw [hp]
        simp only [List.nil_append, List.map_id']
        congr 1
        unfold bsOf
        rw [List.filter_map]
        rfl
      simp only [w_c, w_var, w_bin, w_un, w_nil, w_cons, w_fun, w_tup, w_lst, w_dct0, w_call, w_callP, w_if, w_and, w_or, w_not, w_chain, w_bof, w_btru, w_bnot, w_band, w_bor, w_btrue, w_iseq, w_ifun, w_comp, w_onone, w_osome, w_sl, w_lend, w_blend, w_seq, w_snil, w_set, w_own, w_ret, w_retn, w_retv, w_exp, w_sif, w_asg, w_sfor, w_brk, w_cont, w_par2, w_par3, w_app, w_def, lent, al_ok, al_stuck, va_add, va_addI, va_sub, va_neg, va_lt, va_le, va_gt, va_ge, va_eqS, va_neS, va_eqI, va_neI, va_ixL, va_ixT, va_lenL, va_lenT, va_max, va_min, va_abs, va_asB, va_truB, va_itL, va_itT, va_itS, va_tupL, va_tupT, va_inS, va_notInS, va_isN, va_some_bl, List.getElem?_cons_zero, List.getElem?_cons_succ, List.set_cons_zero, List.set_cons_succ, List.map_cons, List.map_nil, List.length_cons, List.length_nil, List.replicate, List.cons_append, List.nil_append, List.append_nil, Nat.reduceSub, Nat.reduceAdd, Nat.sub_self, Nat.zero_add, sizeLine_eq, Nat.reduceLeDiff, pick, List.filterMap_cons, List.filterMap_nil, Option.some.injEq, exists_eq_left', exists_eq_left, exists_const, true_and, and_true, Bool.not_true, Bool.not_false, if_true, if_false, reduceIte, Bool.false_eq_true, eq_self, D.int.injEq, budgets_eq, wipeR, hc]
      -- the first loop: is there one
      refine for_wp (fun j ρ T => (bsOf r ks').find? (over r ks') = ((bsOf r ks').drop j).find? (over r ks') ∧ T = S ++ [.dct (kd ks')] ∧ ∃ x6, ρ = [.sh d, .sh a, .sh (.ref S.length), .sh (.int i), .sh r.d, .sh (.lst ((bsOf r ks').map D.str)), x6]) ⟨by rw [List.drop_zero], rfl, _, rfl⟩ ?_ ?_
      · rintro j y ρ _ hy ⟨hf, rfl, x6, rfl⟩
        rw [List.getElem?_map] at hy
        cases eb : (bsOf r ks')[j]? with
        | none => rw [eb] at hy; cases hy
        | some b =>
          rw [eb] at hy
          cases hy
          have hj := List.getElem?_eq_some_iff.mp eb
          have hdj : (bsOf r ks').drop j = b :: (bsOf r ks').drop (j + 1) := by rw [List.drop_eq_getElem_cons hj.1, hj.2]
          rw [hdj, List.find?_cons] at hf
          obtain ⟨v, hv⟩ := Option.isSome_iff_exists.mp (List.mem_filter.mp (List.mem_of_getElem? eb)).2
          refine ⟨_, rfl, ?_⟩
          simp only [w_c, w_var, w_bin, w_un, w_nil, w_cons, w_fun, w_tup, w_lst, w_dct0, w_call, w_callP, w_if, w_and, w_or, w_not, w_chain, w_bof, w_btru, w_bnot, w_band, w_bor, w_btrue, w_iseq, w_ifun, w_comp, w_onone, w_osome, w_sl, w_lend, w_blend, w_seq, w_snil, w_set, w_own, w_ret, w_retn, w_retv, w_exp, w_sif, w_asg, w_sfor, w_brk, w_cont, w_par2, w_par3, w_app, w_def, lent, al_ok, al_stuck, va_add, va_addI, va_sub, va_neg, va_lt, va_le, va_gt, va_ge, va_eqS, va_neS, va_eqI, va_neI, va_ixL, va_ixT, va_lenL, va_lenT, va_max, va_min, va_abs, va_asB, va_truB, va_itL, va_itT, va_itS, va_tupL, va_tupT, va_inS, va_notInS, va_isN, va_some_bl, List.getElem?_cons_zero, List.getElem?_cons_succ, List.set_cons_zero, List.set_cons_succ, List.map_cons, List.map_nil, List.length_cons, List.length_nil, List.replicate, List.cons_append, List.nil_append, List.append_nil, Nat.reduceSub, Nat.reduceAdd, Nat.sub_self, Nat.zero_add, sizeLine_eq, Nat.reduceLeDiff, pick, List.filterMap_cons, List.filterMap_nil, Option.some.injEq, exists_eq_left', exists_eq_left, exists_const, true_and, and_true, Bool.not_true, Bool.not_false, if_true, if_false, reduceIte, Bool.false_eq_true, eq_self, D.int.injEq, e_used, used_eq, gx_at last_view, hv, Option.map_some]
          have ov : over r ks' b = decide (v < used r b) := by unfold over; rw [hv]
          rw [ov] at hf
          by_cases hlt : v < used r b
          · rw [if_pos (by simpa using hlt)]
            simp only [hlt, decide_true] at hf
            unfold fail at hw
            rw [hf] at hw
            refine ⟨?_, _, rfl⟩
            rw [hw]
            unfold ans
            simp
          · rw [if_neg (by simpa using hlt)]
            simp only [hlt, decide_false] at hf
            exact ⟨hf, _, rfl⟩
      · rintro ρ _ ⟨hf, rfl, x6, rfl⟩
        rw [List.length_map, List.drop_length, List.find?_nil] at hf
        have hfail : fail r ks' = none := hf
        rw [hfail] at hw
        simp only at hw
        simp only [w_c, w_var, w_bin, w_un, w_nil, w_cons, w_fun, w_tup, w_lst, w_dct0, w_call, w_callP, w_if, w_and, w_or, w_not, w_chain, w_bof, w_btru, w_bnot, w_band, w_bor, w_btrue, w_iseq, w_ifun, w_comp, w_onone, w_osome, w_sl, w_lend, w_blend, w_seq, w_snil, w_set, w_own, w_ret, w_retn, w_retv, w_exp, w_sif, w_asg, w_sfor, w_brk, w_cont, w_par2, w_par3, w_app, w_def, lent, al_ok, al_stuck, va_add, va_addI, va_sub, va_neg, va_lt, va_le, va_gt, va_ge, va_eqS, va_neS, va_eqI, va_neI, va_ixL, va_ixT, va_lenL, va_lenT, va_max, va_min, va_abs, va_asB, va_truB, va_itL, va_itT, va_itS, va_tupL, va_tupT, va_inS, va_notInS, va_isN, va_some_bl, List.getElem?_cons_zero, List.getElem?_cons_succ, List.set_cons_zero, List.set_cons_succ, List.map_cons, List.map_nil, List.length_cons, List.length_nil, List.replicate, List.cons_append, List.nil_append, List.append_nil, Nat.reduceSub, Nat.reduceAdd, Nat.sub_self, Nat.zero_add, sizeLine_eq, Nat.reduceLeDiff, pick, List.filterMap_cons, List.filterMap_nil, Option.some.injEq, exists_eq_left', exists_eq_left, exists_const, true_and, and_true, Bool.not_true, Bool.not_false, if_true, if_false, reduceIte, Bool.false_eq_true, eq_self, D.int.injEq]
        refine for_wp (fun j ρ T => ∃ x6, T = S ++ [.dct (kd (((bsOf r ks').take j).foldl (upd1 r) ks'))] ∧ ρ = [.sh d, .sh a, .sh (.ref S.length), .sh (.int i), .sh r.d, .sh (.lst ((bsOf r ks').map D.str)), x6]) ⟨_, by rw [List.take_zero]; rfl, rfl⟩ ?_ ?_
        · rintro j y ρ _ hy ⟨x6, rfl, rfl⟩
          rw [List.getElem?_map] at hy
          cases eb : (bsOf r ks')[j]? with
          | none => rw [eb] at hy; cases hy
          | some b =>
            rw [eb] at hy
            cases hy
            have nd2 : ((((bsOf r ks').take j).foldl (upd1 r) ks').map (·.1)).Nodup := by rw [fold_keys]; exact nd'
            have hk : (look (((bsOf r ks').take j).foldl (upd1 r) ks') b).isSome = true := by
              rw [look_key, fold_keys, ← look_key]
              exact (List.mem_filter.mp (List.mem_of_getElem? eb)).2
            have hln : (((bsOf r ks').take j).foldl (upd1 r) ks').length < 1000 := by
              rw [fold_len]; exact hl'
            obtain ⟨v, hv⟩ := Option.isSome_iff_exists.mp hk
            refine ⟨_, rfl, ?_⟩
            simp only [w_c, w_var, w_bin, w_un, w_nil, w_cons, w_fun, w_tup, w_lst, w_dct0, w_call, w_callP, w_if, w_and, w_or, w_not, w_chain, w_bof, w_btru, w_bnot, w_band, w_bor, w_btrue, w_iseq, w_ifun, w_comp, w_onone, w_osome, w_sl, w_lend, w_blend, w_seq, w_snil, w_set, w_own, w_ret, w_retn, w_retv, w_exp, w_sif, w_asg, w_sfor, w_brk, w_cont, w_par2, w_par3, w_app, w_def, lent, al_ok, al_stuck, va_add, va_addI, va_sub, va_neg, va_lt, va_le, va_gt, va_ge, va_eqS, va_neS, va_eqI, va_neI, va_ixL, va_ixT, va_lenL, va_lenT, va_max, va_min, va_abs, va_asB, va_truB, va_itL, va_itT, va_itS, va_tupL, va_tupT, va_inS, va_notInS, va_isN, va_some_bl, List.getElem?_cons_zero, List.getElem?_cons_succ, List.set_cons_zero, List.set_cons_succ, List.map_cons, List.map_nil, List.length_cons, List.length_nil, List.replicate, List.cons_append, List.nil_append, List.append_nil, Nat.reduceSub, Nat.reduceAdd, Nat.sub_self, Nat.zero_add, sizeLine_eq, Nat.reduceLeDiff, pick, List.filterMap_cons, List.filterMap_nil, Option.some.injEq, exists_eq_left', exists_eq_left, exists_const, true_and, and_true, Bool.not_true, Bool.not_false, if_true, if_false, reduceIte, Bool.false_eq_true, eq_self, D.int.injEq, e_used, used_eq, w_augk, kx_at last_view, hv, Option.map_some, put_at hk hln]
            refine ⟨_, ?_, rfl⟩
            rw [setA_upd nd2 hv, List.take_add_one, eb, Option.toList_some, List.foldl_append]
            rfl
        · rintro ρ _ ⟨x6, rfl, rfl⟩
          refine ⟨_, _, _, _, _, rfl, ?_, ?_, ?_, rfl⟩
          · rw [List.length_map, List.take_length, bs_upd]; exact hw
          · rw [fold_keys]; exact nd'
          · rw [fold_len]; exact hl'
  · rintro ρ _ ⟨ks', x3, x4, x5, x6, rfl, hw, nd', hl', rfl⟩
    have : (enumL (rs.map Rc.Row.d)).length = rs.length := by unfold enumL; simp
    rw [this, List.drop_length] at hw
    exact ⟨by rw [hw]; rfl, _, rfl⟩
end
end K43

/-! P43c: the law's own walk. -/
namespace K43
open PySem PySem.Spec PyProof.Rows L2 Mi Rc
section
variable {S : Store}
def OkS (xs : List Str) : Prop := ∀ x ∈ xs, ∀ c ∈ x.cps.toList, c < 0x110000
theorem strs_noK {xs : List Str} (h : OkS xs) : noK (.lst (xs.map D.str)) := by
  simp only [noK, noKs_iff]
  intro d hd
  obtain ⟨x, hx, rfl⟩ := List.mem_map.mp hd
  simp only [noK]
  exact h x hx
theorem strs_dp {xs : List Str} : dpD (.lst (xs.map D.str)) ≤ 64 := by
  have : dpDs (xs.map D.str) ≤ 0 := dpDs_le fun d hd => by
    obtain ⟨x, _, rfl⟩ := List.mem_map.mp hd
    exact Nat.le_refl _
  simp only [dpD]
  omega
theorem ne_nil {xs : List Str} (h : OkS xs) : dNe S (.lst (xs.map D.str)) (.lst []) = some (.bl (!xs.isEmpty)) := by
  obtain ⟨p, e1, t1, _⟩ := pyE_ok (S := S) (strs_noK h) strs_dp
  obtain ⟨q, e2, t2, _⟩ := pyE_ok (S := S) (d := .lst []) (by simp [noK, noKs]) (by simp [dpD, dpDs])
  have hq : q = .list [] := by simp only [toPy, toPys] at t2; cases t2; rfl
  subst hq
  unfold dNe
  rw [dEqB_of e1 e2 (fun x y z => nomatch z.1)]
  simp only
  cases xs with
  | nil => simp only [List.map_nil, toPy, toPys] at t1; cases t1; rfl
  | cons x xs =>
    simp only [List.map_cons, toPy, toPys] at t1
    split at t1
    · rename_i l el
      cases t1
      split at el
      · cases el; simp [PyData.eqv, PyData.eqvAll]
      · cases el
    · cases t1
theorem due_al {a : D} {rs : List Rc.Row} {ks : Am} (h : ∀ r ∈ rs, r.ok) (ha : viewK S a = some (kd ks)) (nd : (ks.map (·.1)).Nodup) (hl : ks.length < 1000) (hs : OkS (ks.map (·.1))) (nn : NN ks) :
    (f__law_due [.lst (rs.map Rc.Row.d), a] S).al (fun z S' => z = ans (walk rs ks 0) ∧ ∃ J, S' = S ++ J) fun _ _ => False := by
  have es : enumD [.lst (rs.map Rc.Row.d)] = some (enumL (rs.map Rc.Row.d)) := rfl
  have ed : fDict S [a] = some (.dct (kd ks)) := by unfold fDict; simp only [ha]
  unfold f__law_due m__law_due
  simp only [w_c, w_var, w_bin, w_un, w_nil, w_cons, w_fun, w_tup, w_lst, w_dct0, w_call, w_callP, w_if, w_and, w_or, w_not, w_chain, w_bof, w_btru, w_bnot, w_band, w_bor, w_btrue, w_iseq, w_ifun, w_comp, w_onone, w_osome, w_sl, w_lend, w_blend, w_seq, w_snil, w_set, w_own, w_ret, w_retn, w_retv, w_exp, w_sif, w_asg, w_sfor, w_brk, w_cont, w_par2, w_par3, w_app, w_def, lent, al_ok, al_stuck, va_add, va_addI, va_sub, va_neg, va_lt, va_le, va_gt, va_ge, va_eqS, va_neS, va_eqI, va_neI, va_ixL, va_ixT, va_lenL, va_lenT, va_max, va_min, va_abs, va_asB, va_truB, va_itL, va_itT, va_itS, va_tupL, va_tupT, va_inS, va_notInS, va_isN, va_some_bl, List.getElem?_cons_zero, List.getElem?_cons_succ, List.set_cons_zero, List.set_cons_succ, List.map_cons, List.map_nil, List.length_cons, List.length_nil, List.replicate, List.cons_append, List.nil_append, List.append_nil, Nat.reduceSub, Nat.reduceAdd, Nat.sub_self, Nat.zero_add, sizeLine_eq, Nat.reduceLeDiff, pick, List.filterMap_cons, List.filterMap_nil, Option.some.injEq, exists_eq_left', exists_eq_left, exists_const, true_and, and_true, Bool.not_true, Bool.not_false, if_true, if_false, reduceIte, Bool.false_eq_true, eq_self, D.int.injEq, w_box, ed, soOf, es]
  refine for_wp (fun i ρ S' => ∃ ks' x3 x4 x5 x6, S' = S ++ [.dct (kd ks')] ∧ walk rs ks 0 = walk (rs.drop i) ks' i ∧ ks'.map (·.1) = ks.map (·.1) ∧ NN ks' ∧ ρ = [.sh (.lst (rs.map Rc.Row.d)), .sh a, .sh (.ref S.length), x3, x4, x5, x6]) ⟨ks, _, _, _, _, rfl, by rw [List.drop_zero], rfl, nn, rfl⟩ ?_ ?_
  · rintro i x ρ _ hx ⟨ks', x3, x4, x5, x6, rfl, hw, hk, nn', rfl⟩
    have nd' : (ks'.map (·.1)).Nodup := by rw [hk]; exact nd
    have hs' : OkS (ks'.map (·.1)) := by rw [hk]; exact hs
    have hl' : ks'.length < 1000 := by have := congrArg List.length hk; rw [List.length_map, List.length_map] at this; omega
    unfold enumL at hx
    rw [List.getElem?_map, List.getElem?_zipIdx, List.getElem?_map] at hx
    cases er : rs[i]? with
    | none => rw [er] at hx; cases hx
    | some r =>
      rw [er] at hx
      cases hx
      have hi := (List.getElem?_eq_some_iff.mp er)
      have hd : rs.drop i = r :: rs.drop (i + 1) := by
        rw [List.drop_eq_getElem_cons hi.1, hi.2]
      rw [hd, walk_cons, ← fail_eq nn'] at hw
      refine ⟨_, rfl, ?_⟩
      have hc : compL [6] (gSet 6) (bOf (mBin dGt (mCall f__law_used [0, 1] (aCons (mVar 4) (aCons (mVar 6) aNil)) aNil) (mBin dGx (mVar 2) (mVar 6)))) (mVar 6) [.sh (.lst (rs.map Rc.Row.d)), .sh a, .sh (.ref S.length), .sh (.int i), .sh r.d, x5, .un] ((ks'.map (·.1)).map D.str) [] (S ++ [.lck (kd ks')]) = .ok ((lack r ks').map D.str) (S ++ [.lck (kd ks')]) := by
        have hp := comp_pure (vs := [6]) (g := gSet 6) (t := bOf (mBin dGt (mCall f__law_used [0, 1] (aCons (mVar 4) (aCons (mVar 6) aNil)) aNil) (mBin dGx (mVar 2) (mVar 6)))) (e := mVar 6) (ρ := [.sh (.lst (rs.map Rc.Row.d)), .sh a, .sh (.ref S.length), .sh (.int i), .sh r.d, x5, .un]) (S := S ++ [.lck (kd ks')])
          (p := fun d => match d with | .str w => over r ks' w | _ => false) (f := fun d => d) ((ks'.map (·.1)).map D.str) [] (fun d hd => by
            obtain ⟨b, hb, rfl⟩ := List.mem_map.mp hd
            obtain ⟨v, hv⟩ := Option.isSome_iff_exists.mp (look_key.mpr hb)
            have ov : over r ks' b = decide (v < used r b) := by unfold over; rw [hv]
            refine ⟨_, rfl, ?_, fun _ => rfl⟩
            simp only [bOf, mBin, mVar, mCall, aCons, aNil, pick, List.filterMap_cons, List.filterMap_nil, List.cons_append, List.nil_append, List.set_cons_succ, List.set_cons_zero, List.getElem?_cons_succ, List.getElem?_cons_zero, R.bind, R.opt, e_lused, lused_eq, gx_at last_viewL, hv, Option.map_some, asB, va_gt, ov]) (by
            rw [List.length_map, List.length_map, List.length_nil, sizeLine_eq]; omega)
        rw [hp]
        simp only [List.nil_append, List.map_id']
        congr 1
        unfold lack
        rw [List.filter_map]
        rfl
      have lk : lockOf (mVar 2) [.sh (.lst (rs.map Rc.Row.d)), .sh a, .sh (.ref S.length), .sh (.int i), .sh r.d, x5, x6] (S ++ [.dct (kd ks')]) = some (S.length, .lck (kd ks')) := lock_at rfl last_at
      have hlack : OkS (lack r ks') := fun x hx => hs' x (List.mem_filter.mp hx).1
      simp only [w_c, w_var, w_bin, w_un, w_nil, w_cons, w_fun, w_tup, w_lst, w_dct0, w_call, w_callP, w_if, w_and, w_or, w_not, w_chain, w_bof, w_btru, w_bnot, w_band, w_bor, w_btrue, w_iseq, w_ifun, w_comp, w_onone, w_osome, w_sl, w_lend, w_blend, w_seq, w_snil, w_set, w_own, w_ret, w_retn, w_retv, w_exp, w_sif, w_asg, w_sfor, w_brk, w_cont, w_par2, w_par3, w_app, w_def, lent, al_ok, al_stuck, va_add, va_addI, va_sub, va_neg, va_lt, va_le, va_gt, va_ge, va_eqS, va_neS, va_eqI, va_neI, va_ixL, va_ixT, va_lenL, va_lenT, va_max, va_min, va_abs, va_asB, va_truB, va_itL, va_itT, va_itS, va_tupL, va_tupT, va_inS, va_notInS, va_isN, va_some_bl, List.getElem?_cons_zero, List.getElem?_cons_succ, List.set_cons_zero, List.set_cons_succ, List.map_cons, List.map_nil, List.length_cons, List.length_nil, List.replicate, List.cons_append, List.nil_append, List.append_nil, Nat.reduceSub, Nat.reduceAdd, Nat.sub_self, Nat.zero_add, sizeLine_eq, Nat.reduceLeDiff, pick, List.filterMap_cons, List.filterMap_nil, Option.some.injEq, exists_eq_left', exists_eq_left, exists_const, true_and, and_true, Bool.not_true, Bool.not_false, if_true, if_false, reduceIte, Bool.false_eq_true, eq_self, D.int.injEq, w_slock, lk, last_set, w_iSeqF, seqF_at (last_at (S := S)), kd_keys, wipeR, hc, unl_at (last_at (S := S)), ne_nil hlack]
      cases el : lack r ks' with
      | cons b t =>
        have lf : lfail r ks' = some (if ("steps" : Str) ∈ lack r ks' then ("steps" : Str) else b) := by unfold lfail; rw [el]
        rw [lf] at hw
        have stc : ∀ c ∈ ("steps" : Str).cps.toList, c < 0x110000 := w_ok (x := "steps") (by simp)
        rw [← el]
        have a0 : atI ((lack r ks').map D.str) 0 = some (.str b) := by rw [el]; exact at0
        have ne : (!(lack r ks').isEmpty) = true := by rw [el]; rfl
        simp only [w_c, w_var, w_bin, w_un, w_nil, w_cons, w_fun, w_tup, w_lst, w_dct0, w_call, w_callP, w_if, w_and, w_or, w_not, w_chain, w_bof, w_btru, w_bnot, w_band, w_bor, w_btrue, w_iseq, w_ifun, w_comp, w_onone, w_osome, w_sl, w_lend, w_blend, w_seq, w_snil, w_set, w_own, w_ret, w_retn, w_retv, w_exp, w_sif, w_asg, w_sfor, w_brk, w_cont, w_par2, w_par3, w_app, w_def, lent, al_ok, al_stuck, va_add, va_addI, va_sub, va_neg, va_lt, va_le, va_gt, va_ge, va_eqS, va_neS, va_eqI, va_neI, va_ixL, va_ixT, va_lenL, va_lenT, va_max, va_min, va_abs, va_asB, va_truB, va_itL, va_itT, va_itS, va_tupL, va_tupT, va_inS, va_notInS, va_isN, va_some_bl, List.getElem?_cons_zero, List.getElem?_cons_succ, List.set_cons_zero, List.set_cons_succ, List.map_cons, List.map_nil, List.length_cons, List.length_nil, List.replicate, List.cons_append, List.nil_append, List.append_nil, Nat.reduceSub, Nat.reduceAdd, Nat.sub_self, Nat.zero_add, sizeLine_eq, Nat.reduceLeDiff, pick, List.filterMap_cons, List.filterMap_nil, Option.some.injEq, exists_eq_left', exists_eq_left, exists_const, true_and, and_true, Bool.not_true, Bool.not_false, if_true, if_false, reduceIte, Bool.false_eq_true, eq_self, D.int.injEq, va_inL stc hlack, a0, ne]
        by_cases hin : ("steps" : Str) ∈ lack r ks'
        · rw [if_pos (word_in.mpr hin)]
          rw [if_pos hin] at hw
          exact ⟨by rw [hw]; rfl, _, rfl⟩
        · rw [if_neg (fun z => hin (word_in.mp z))]
          rw [if_neg hin] at hw
          exact ⟨by rw [hw]; rfl, _, rfl⟩
      | nil =>
        have lf : lfail r ks' = none := by unfold lfail; rw [el]
        rw [lf] at hw
        simp only at hw
        have f0 : fail r ks' = none := by rw [← fail_eq nn']; exact lf
        have hfl : fListK (S ++ [.dct (kd ks')]) [.ref S.length] = some (.lst ((ks'.map (·.1)).map D.str)) := by
          unfold fListK
          simp only [last_view]
          rw [show (kd ks').map (fun p => kD p.1) = kKeys (kd ks') from rfl, kd_keys]
        simp only [w_c, w_var, w_bin, w_un, w_nil, w_cons, w_fun, w_tup, w_lst, w_dct0, w_call, w_callP, w_if, w_and, w_or, w_not, w_chain, w_bof, w_btru, w_bnot, w_band, w_bor, w_btrue, w_iseq, w_ifun, w_comp, w_onone, w_osome, w_sl, w_lend, w_blend, w_seq, w_snil, w_set, w_own, w_ret, w_retn, w_retv, w_exp, w_sif, w_asg, w_sfor, w_brk, w_cont, w_par2, w_par3, w_app, w_def, lent, al_ok, al_stuck, va_add, va_addI, va_sub, va_neg, va_lt, va_le, va_gt, va_ge, va_eqS, va_neS, va_eqI, va_neI, va_ixL, va_ixT, va_lenL, va_lenT, va_max, va_min, va_abs, va_asB, va_truB, va_itL, va_itT, va_itS, va_tupL, va_tupT, va_inS, va_notInS, va_isN, va_some_bl, List.getElem?_cons_zero, List.getElem?_cons_succ, List.set_cons_zero, List.set_cons_succ, List.map_cons, List.map_nil, List.length_cons, List.length_nil, List.replicate, List.cons_append, List.nil_append, List.append_nil, Nat.reduceSub, Nat.reduceAdd, Nat.sub_self, Nat.zero_add, sizeLine_eq, Nat.reduceLeDiff, pick, List.filterMap_cons, List.filterMap_nil, Option.some.injEq, exists_eq_left', exists_eq_left, exists_const, true_and, and_true, Bool.not_true, Bool.not_false, if_true, if_false, reduceIte, Bool.false_eq_true, eq_self, D.int.injEq, List.isEmpty_nil, hfl, List.map_nil]
        refine for_wp (fun j ρ T => ∃ x6, T = S ++ [.dct (kd (((ks'.map (·.1)).take j).foldl (upd1 r) ks'))] ∧ ρ = [.sh (.lst (rs.map Rc.Row.d)), .sh a, .sh (.ref S.length), .sh (.int i), .sh r.d, .sh (.lst []), x6]) ⟨_, by rw [List.take_zero]; rfl, rfl⟩ ?_ ?_
        · rintro j y ρ _ hy ⟨x6, rfl, rfl⟩
          rw [List.getElem?_map] at hy
          cases eb : (ks'.map (·.1))[j]? with
          | none => rw [eb] at hy; cases hy
          | some b =>
            rw [eb] at hy
            cases hy
            have nd2 : ((((ks'.map (·.1)).take j).foldl (upd1 r) ks').map (·.1)).Nodup := by rw [fold_keys]; exact nd'
            have hkk : (look (((ks'.map (·.1)).take j).foldl (upd1 r) ks') b).isSome = true := by
              rw [look_key, fold_keys]
              exact List.mem_of_getElem? eb
            have hln : (((ks'.map (·.1)).take j).foldl (upd1 r) ks').length < 1000 := by rw [fold_len]; exact hl'
            obtain ⟨v, hv⟩ := Option.isSome_iff_exists.mp hkk
            refine ⟨_, rfl, ?_⟩
            simp only [w_c, w_var, w_bin, w_un, w_nil, w_cons, w_fun, w_tup, w_lst, w_dct0, w_call, w_callP, w_if, w_and, w_or, w_not, w_chain, w_bof, w_btru, w_bnot, w_band, w_bor, w_btrue, w_iseq, w_ifun, w_comp, w_onone, w_osome, w_sl, w_lend, w_blend, w_seq, w_snil, w_set, w_own, w_ret, w_retn, w_retv, w_exp, w_sif, w_asg, w_sfor, w_brk, w_cont, w_par2, w_par3, w_app, w_def, lent, al_ok, al_stuck, va_add, va_addI, va_sub, va_neg, va_lt, va_le, va_gt, va_ge, va_eqS, va_neS, va_eqI, va_neI, va_ixL, va_ixT, va_lenL, va_lenT, va_max, va_min, va_abs, va_asB, va_truB, va_itL, va_itT, va_itS, va_tupL, va_tupT, va_inS, va_notInS, va_isN, va_some_bl, List.getElem?_cons_zero, List.getElem?_cons_succ, List.set_cons_zero, List.set_cons_succ, List.map_cons, List.map_nil, List.length_cons, List.length_nil, List.replicate, List.cons_append, List.nil_append, List.append_nil, Nat.reduceSub, Nat.reduceAdd, Nat.sub_self, Nat.zero_add, sizeLine_eq, Nat.reduceLeDiff, pick, List.filterMap_cons, List.filterMap_nil, Option.some.injEq, exists_eq_left', exists_eq_left, exists_const, true_and, and_true, Bool.not_true, Bool.not_false, if_true, if_false, reduceIte, Bool.false_eq_true, eq_self, D.int.injEq, e_lused, lused_eq, gx_at last_view, hv, Option.map_some]
            refine ⟨_, gk_at rfl rfl (put_at hkk hln), _, ?_, rfl⟩
            rw [setA_upd nd2 hv, List.take_add_one, eb, Option.toList_some, List.foldl_append]
            rfl
        · rintro ρ _ ⟨x6, rfl, rfl⟩
          refine ⟨subA r ks', _, _, _, _, ?_, hw, by rw [subA_keys]; exact hk, sub_nn (fail_none nn' nd' f0), rfl⟩
          rw [List.length_map, List.take_length, keys_upd nd']
  · rintro ρ _ ⟨ks', x3, x4, x5, x6, rfl, hw, _, _, rfl⟩
    have : (enumL (rs.map Rc.Row.d)).length = rs.length := by unfold enumL; simp
    rw [this, List.drop_length] at hw
    exact ⟨by rw [hw]; rfl, _, rfl⟩
end
end K43

/-! P43d: the amounts drawn. -/
namespace K43
open PySem PySem.Spec PyProof.Rows L2 Mi Rc
theorem e_summary : K43.f_summary_of = Rc.f_summary_of := rfl
theorem e_passes : K43.f_passes = Rc.f_passes := rfl
theorem e_rng : K43.f__law_rng = mDef 3 rngS := rfl
theorem e_draw : K43.f__law_draw = mDef 3 drawS := rfl
theorem e_funds : K43.f__law_funds = Rc.f__law_funds := rfl
theorem e_rows : K43.f__law_drawn_rows = Rc.f__law_drawn_rows := rfl
def putA (ks : Am) (k : Str) (v : Int) : Am := if (look ks k).isSome = true then setA ks k v else ks ++ [(k, v)]
theorem kd_putA {ks : Am} {k : Str} {v : Int} : putD (kd ks) (.inr k) (.int v) = kd (putA ks k v) := by
  unfold putA
  by_cases h : (look ks k).isSome = true
  · rw [if_pos h, kd_put h]
  · rw [if_neg h]
    unfold putD
    rw [kd_has, if_neg h]
    unfold kd
    rw [List.map_append]; rfl
theorem setA_keys {ks : Am} {k : Str} {v : Int} : (setA ks k v).map (·.1) = ks.map (·.1) := by
  unfold setA
  rw [List.map_map]
  refine List.map_congr_left fun p _ => ?_
  simp only [Function.comp]
  split <;> rfl
/-- amounts as they are drawn -/
structure AmOk (ks : Am) (m : Nat) : Prop where
  nd : (ks.map (·.1)).Nodup
  nm : ∀ k ∈ ks.map (·.1), NameS k
  lo : NN ks
  hi : ∀ p ∈ ks, p.2 ≤ 10 ^ 30
  len : ks.length ≤ m
theorem AmOk.put {ks : Am} {m : Nat} {k : Str} {v : Int} (h : AmOk ks m) (hk : NameS k) (v0 : 0 ≤ v) (v1 : v ≤ 10 ^ 30) : AmOk (putA ks k v) (m + 1) := by
  unfold putA
  by_cases e : (look ks k).isSome = true
  · rw [if_pos e]
    refine ⟨by rw [setA_keys]; exact h.nd, by rw [setA_keys]; exact h.nm, ?_, ?_, ?_⟩
    · intro p hp
      obtain ⟨q, hq, rfl⟩ := List.mem_map.mp hp
      split
      · exact v0
      · exact h.lo q hq
    · intro p hp
      obtain ⟨q, hq, rfl⟩ := List.mem_map.mp hp
      split
      · exact v1
      · exact h.hi q hq
    · unfold setA; rw [List.length_map]; have := h.len; omega
  · rw [if_neg e]
    have nk : k ∉ ks.map (·.1) := fun z => e (look_key.mpr z)
    refine ⟨?_, ?_, ?_, ?_, ?_⟩
    · rw [List.map_append, List.nodup_append]
      exact ⟨h.nd, by simp, fun x hx y hy => by
        have : y = k := by simpa using hy
        rw [this]; exact fun z => nk (z ▸ hx)⟩
    · intro x hx
      rw [List.map_append] at hx
      rcases List.mem_append.mp hx with hx | hx
      · exact h.nm x hx
      · have : x = k := by simpa using hx
        rw [this]; exact hk
    · intro p hp
      rcases List.mem_append.mp hp with hp | hp
      · exact h.lo p hp
      · rw [List.mem_singleton.mp hp]; exact v0
    · intro p hp
      rcases List.mem_append.mp hp with hp | hp
      · exact h.hi p hp
      · rw [List.mem_singleton.mp hp]; exact v1
    · rw [List.length_append, List.length_singleton]; have := h.len; omega
theorem put_gen {S : Store} {n : Nat} {k : Str} {ks : Am} {v : Int} (h : S[n]? = some (.dct (kd ks))) (hl : ks.length < 1000) : storeKx (.ref n) (.str k) (.int v) S = some (S.set n (.dct (kd (putA ks k v)))) := by
  unfold storeKx
  simp only [h, keyD]
  rw [if_pos (by rw [kd_len, sizeLine_eq]; omega), kd_putA]
theorem Gn.set {n m : Nat} {S : Store} {so : SO} (h : RngAt S n) (hm : m ≠ n) : RngAt (S.set m so) n := by
  obtain ⟨a, b, e, r⟩ := h
  exact ⟨a, b, by rw [List.getElem?_set_ne hm]; exact e, r⟩
section
variable {S : Store} {n : Nat} {Q : D → Store → Prop} {E : Exn → Store → Prop}
theorem va_rev {xs : List D} : viewL S (.lst xs) = some xs := rfl
theorem p29 : dPow S (.int 10) (.int 29) = some (.int (10 ^ 29)) := rfl
theorem given_wp {rs : List Rc.Row} {zs : List Str} (h : RngAt S n) (hr : ∀ r ∈ rs, r.ok) (hl : rs.length ≤ 14) (hz : ∀ z ∈ zs, NameS z) (hzl : zs.length ≤ 4)
    (q : ∀ ks S', AmOk ks 5 → RngAt S' n → S'[S.length]? = some (.dct (kd ks)) → Q (.ref S.length) S') : (f__law_given [.ref n, .lst (rs.map Rc.Row.d), .lst (zs.map D.str)] S).al Q E := by
  have hn : n ≠ S.length := Nat.ne_of_lt h.lt
  unfold f__law_given m__law_given
  simp only [w_c, w_var, w_bin, w_un, w_nil, w_cons, w_fun, w_tup, w_lst, w_dct0, w_call, w_callP, w_if, w_and, w_or, w_not, w_chain, w_bof, w_btru, w_bnot, w_band, w_bor, w_btrue, w_iseq, w_ifun, w_comp, w_onone, w_osome, w_sl, w_lend, w_blend, w_seq, w_snil, w_set, w_own, w_ret, w_retn, w_retv, w_exp, w_sif, w_asg, w_sfor, w_brk, w_cont, w_par2, w_par3, w_app, w_def, lent, al_ok, al_stuck, va_add, va_addI, va_sub, va_neg, va_lt, va_le, va_gt, va_ge, va_eqS, va_neS, va_eqI, va_neI, va_ixL, va_ixT, va_lenL, va_lenT, va_max, va_min, va_abs, va_asB, va_truB, va_itL, va_itT, va_itS, va_tupL, va_tupT, va_inS, va_notInS, va_isN, va_some_bl, List.getElem?_cons_zero, List.getElem?_cons_succ, List.set_cons_zero, List.set_cons_succ, List.map_cons, List.map_nil, List.length_cons, List.length_nil, List.replicate, List.cons_append, List.nil_append, List.append_nil, Nat.reduceSub, Nat.reduceAdd, Nat.sub_self, Nat.zero_add, sizeLine_eq, Nat.reduceLeDiff, pick, List.filterMap_cons, List.filterMap_nil, Option.some.injEq, exists_eq_left', exists_eq_left, exists_const, true_and, and_true, Bool.not_true, Bool.not_false, if_true, if_false, reduceIte, Bool.false_eq_true, eq_self, D.int.injEq, w_box, soOf, Mi.w_rev, va_rev]
  refine drawG h.app (by decide) (by decide) fun d S1 d0 d1 g1 => ?_
  have b1 : S1[S.length]? = some (.dct (kd [])) := by rw [g1.same _ (Ne.symm hn)]; exact last_at
  have l1 : S1.length = S.length + 1 := by rw [g1.len, List.length_append, List.length_singleton]
  simp only [w_c, w_var, w_bin, w_un, w_nil, w_cons, w_fun, w_tup, w_lst, w_dct0, w_call, w_callP, w_if, w_and, w_or, w_not, w_chain, w_bof, w_btru, w_bnot, w_band, w_bor, w_btrue, w_iseq, w_ifun, w_comp, w_onone, w_osome, w_sl, w_lend, w_blend, w_seq, w_snil, w_set, w_own, w_ret, w_retn, w_retv, w_exp, w_sif, w_asg, w_sfor, w_brk, w_cont, w_par2, w_par3, w_app, w_def, lent, al_ok, al_stuck, va_add, va_addI, va_sub, va_neg, va_lt, va_le, va_gt, va_ge, va_eqS, va_neS, va_eqI, va_neI, va_ixL, va_ixT, va_lenL, va_lenT, va_max, va_min, va_abs, va_asB, va_truB, va_itL, va_itT, va_itS, va_tupL, va_tupT, va_inS, va_notInS, va_isN, va_some_bl, List.getElem?_cons_zero, List.getElem?_cons_succ, List.set_cons_zero, List.set_cons_succ, List.map_cons, List.map_nil, List.length_cons, List.length_nil, List.replicate, List.cons_append, List.nil_append, List.append_nil, Nat.reduceSub, Nat.reduceAdd, Nat.sub_self, Nat.zero_add, sizeLine_eq, Nat.reduceLeDiff, pick, List.filterMap_cons, List.filterMap_nil, Option.some.injEq, exists_eq_left', exists_eq_left, exists_const, true_and, and_true, Bool.not_true, Bool.not_false, if_true, if_false, reduceIte, Bool.false_eq_true, eq_self, D.int.injEq]
  have main : ∀ us : List Str, (∀ z ∈ us, NameS z) → us.length ≤ 4 → (forL (gSet 4) (sSeq (sSet 5 (mBin dIx (mCall f_summary_of [0, 1] (aCons (mVar 1) (aCons (mVar 4) aNil)) aNil) (mC (.int 0)))) <| sSeq (sSet 6 (mLst (aCons (mVar 5) (aCons (mFun fMax (aCons (mC (.int 0)) (aCons (mBin dSub (mVar 5) (mC (.int 1))) aNil))) (aCons (mCall f__law_draw [0, 1] (aCons (mVar 0) (aCons (mC (.int 8)) aNil)) aNil) (aCons (mCall f__law_draw [0, 1] (aCons (mVar 0) (aCons (mC (.int 40)) aNil)) aNil) (aCons (mBin dPow (mC (.int 10)) (mC (.int 29))) (aCons (mBin dFdiv (mVar 5) (mC (.int 2))) aNil)))))))) <|
      sIf (bOf (mBin dGt (mCall f__law_draw [0, 1] (aCons (mVar 0) (aCons (mC (.int 5)) aNil)) aNil) (mC (.int 0)))) (sAsg (mBin dIx (mVar 6) (mCall f__law_draw [0, 1] (aCons (mVar 0) (aCons (mC (.int 6)) aNil)) aNil)) (gKx (mVar 3) (mVar 4))) sNil) (us.map D.str) [.sh (.ref n), .sh (.lst (rs.map Rc.Row.d)), .sh (.lst (zs.map D.str)), .sh (.ref S.length), .un, .un, .un] S1).al
      (fun ρ T => ∃ ks x4 x5 x6, AmOk ks 4 ∧ RngAt T n ∧ T[S.length]? = some (.dct (kd ks)) ∧ T.length = S.length + 1 ∧ ρ = [.sh (.ref n), .sh (.lst (rs.map Rc.Row.d)), .sh (.lst (zs.map D.str)), .sh (.ref S.length), x4, x5, x6]) ⟨Q, E, fun _ _ => False, fun _ _ => False, fun _ _ _ => True⟩ := by
    intro us hus hul
    refine for_wp (fun i ρ T => ∃ ks x4 x5 x6, AmOk ks i ∧ RngAt T n ∧ T[S.length]? = some (.dct (kd ks)) ∧ T.length = S.length + 1 ∧ ρ = [.sh (.ref n), .sh (.lst (rs.map Rc.Row.d)), .sh (.lst (zs.map D.str)), .sh (.ref S.length), x4, x5, x6]) ⟨[], _, _, _, ⟨by simp, by simp, nofun, nofun, Nat.le_refl _⟩, g1.at_, b1, l1, rfl⟩ ?_ ?_
    · rintro i x ρ T hx ⟨ks, x4, x5, x6, ok, rt, bt, lt, rfl⟩
      rw [List.getElem?_map] at hx
      cases eu : us[i]? with
      | none => rw [eu] at hx; cases hx
      | some u =>
        rw [eu] at hx
        cases hx
        have hu := hus u (List.mem_of_getElem? eu)
        have iu := (List.getElem?_eq_some_iff.mp eu).1
        refine ⟨_, rfl, ?_⟩
        obtain ⟨p, hp⟩ : ∃ p : Sm, p = su u rs := ⟨_, rfl⟩
        have hv : V p := hp ▸ su_V u rs
        obtain ⟨w1, w2⟩ := su_bd (b := u) rs hr
        rw [← hp] at w1 w2
        have hk : rs.length * (2 * 10 ^ 18) ≤ 14 * (2 * 10 ^ 18) := Nat.mul_le_mul_right _ hl
        have p1 : p.1 ≤ 10 ^ 20 := by omega
        have p0 : 0 ≤ p.1 := hv.1
        have es : ∀ T, f_summary_of [.lst (rs.map Rc.Row.d), .str u] T = .ok (Sm.d p) T := fun T => by rw [e_summary, hp]; exact summary_eq rfl hr
        have i0 : ∀ T, dIx T (Sm.d p) (.int 0) = some (.int p.1) := fun _ => rfl
        have f2 : p.1.fdiv 2 = p.1 / 2 := Int.fdiv_eq_ediv_of_nonneg _ (by decide)
        simp only [w_c, w_var, w_bin, w_un, w_nil, w_cons, w_fun, w_tup, w_lst, w_dct0, w_call, w_callP, w_if, w_and, w_or, w_not, w_chain, w_bof, w_btru, w_bnot, w_band, w_bor, w_btrue, w_iseq, w_ifun, w_comp, w_onone, w_osome, w_sl, w_lend, w_blend, w_seq, w_snil, w_set, w_own, w_ret, w_retn, w_retv, w_exp, w_sif, w_asg, w_sfor, w_brk, w_cont, w_par2, w_par3, w_app, w_def, lent, al_ok, al_stuck, va_add, va_addI, va_sub, va_neg, va_lt, va_le, va_gt, va_ge, va_eqS, va_neS, va_eqI, va_neI, va_ixL, va_ixT, va_lenL, va_lenT, va_max, va_min, va_abs, va_asB, va_truB, va_itL, va_itT, va_itS, va_tupL, va_tupT, va_inS, va_notInS, va_isN, va_some_bl, List.getElem?_cons_zero, List.getElem?_cons_succ, List.set_cons_zero, List.set_cons_succ, List.map_cons, List.map_nil, List.length_cons, List.length_nil, List.replicate, List.cons_append, List.nil_append, List.append_nil, Nat.reduceSub, Nat.reduceAdd, Nat.sub_self, Nat.zero_add, sizeLine_eq, Nat.reduceLeDiff, pick, List.filterMap_cons, List.filterMap_nil, Option.some.injEq, exists_eq_left', exists_eq_left, exists_const, true_and, and_true, Bool.not_true, Bool.not_false, if_true, if_false, reduceIte, Bool.false_eq_true, eq_self, D.int.injEq, es, i0]
        refine drawG rt (by decide) (by decide) fun a T1 a0 a1 g1 => ?_
        refine drawG g1.at_ (by decide) (by decide) fun b T2 b0 b1 g2 => ?_
        simp only [w_c, w_var, w_bin, w_un, w_nil, w_cons, w_fun, w_tup, w_lst, w_dct0, w_call, w_callP, w_if, w_and, w_or, w_not, w_chain, w_bof, w_btru, w_bnot, w_band, w_bor, w_btrue, w_iseq, w_ifun, w_comp, w_onone, w_osome, w_sl, w_lend, w_blend, w_seq, w_snil, w_set, w_own, w_ret, w_retn, w_retv, w_exp, w_sif, w_asg, w_sfor, w_brk, w_cont, w_par2, w_par3, w_app, w_def, lent, al_ok, al_stuck, va_add, va_addI, va_sub, va_neg, va_lt, va_le, va_gt, va_ge, va_eqS, va_neS, va_eqI, va_neI, va_ixL, va_ixT, va_lenL, va_lenT, va_max, va_min, va_abs, va_asB, va_truB, va_itL, va_itT, va_itS, va_tupL, va_tupT, va_inS, va_notInS, va_isN, va_some_bl, List.getElem?_cons_zero, List.getElem?_cons_succ, List.set_cons_zero, List.set_cons_succ, List.map_cons, List.map_nil, List.length_cons, List.length_nil, List.replicate, List.cons_append, List.nil_append, List.append_nil, Nat.reduceSub, Nat.reduceAdd, Nat.sub_self, Nat.zero_add, sizeLine_eq, Nat.reduceLeDiff, pick, List.filterMap_cons, List.filterMap_nil, Option.some.injEq, exists_eq_left', exists_eq_left, exists_const, true_and, and_true, Bool.not_true, Bool.not_false, if_true, if_false, reduceIte, Bool.false_eq_true, eq_self, D.int.injEq, p29, va_fdiv (show (2 : Int) ≠ 0 ∧ (2 : Int).natAbs < 1073741824 by decide), f2]
        refine drawG g2.at_ (by decide) (by decide) fun c T3 c0 c1 g3 => ?_
        simp only [w_c, w_var, w_bin, w_un, w_nil, w_cons, w_fun, w_tup, w_lst, w_dct0, w_call, w_callP, w_if, w_and, w_or, w_not, w_chain, w_bof, w_btru, w_bnot, w_band, w_bor, w_btrue, w_iseq, w_ifun, w_comp, w_onone, w_osome, w_sl, w_lend, w_blend, w_seq, w_snil, w_set, w_own, w_ret, w_retn, w_retv, w_exp, w_sif, w_asg, w_sfor, w_brk, w_cont, w_par2, w_par3, w_app, w_def, lent, al_ok, al_stuck, va_add, va_addI, va_sub, va_neg, va_lt, va_le, va_gt, va_ge, va_eqS, va_neS, va_eqI, va_neI, va_ixL, va_ixT, va_lenL, va_lenT, va_max, va_min, va_abs, va_asB, va_truB, va_itL, va_itT, va_itS, va_tupL, va_tupT, va_inS, va_notInS, va_isN, va_some_bl, List.getElem?_cons_zero, List.getElem?_cons_succ, List.set_cons_zero, List.set_cons_succ, List.map_cons, List.map_nil, List.length_cons, List.length_nil, List.replicate, List.cons_append, List.nil_append, List.append_nil, Nat.reduceSub, Nat.reduceAdd, Nat.sub_self, Nat.zero_add, sizeLine_eq, Nat.reduceLeDiff, pick, List.filterMap_cons, List.filterMap_nil, Option.some.injEq, exists_eq_left', exists_eq_left, exists_const, true_and, and_true, Bool.not_true, Bool.not_false, if_true, if_false, reduceIte, Bool.false_eq_true, eq_self, D.int.injEq]
        have g13 := (g1.trans g2).trans g3
        split
        · refine drawG g3.at_ (by decide) (by decide) fun e T4 e0 e1 g4 => ?_
          simp only [w_c, w_var, w_bin, w_un, w_nil, w_cons, w_fun, w_tup, w_lst, w_dct0, w_call, w_callP, w_if, w_and, w_or, w_not, w_chain, w_bof, w_btru, w_bnot, w_band, w_bor, w_btrue, w_iseq, w_ifun, w_comp, w_onone, w_osome, w_sl, w_lend, w_blend, w_seq, w_snil, w_set, w_own, w_ret, w_retn, w_retv, w_exp, w_sif, w_asg, w_sfor, w_brk, w_cont, w_par2, w_par3, w_app, w_def, lent, al_ok, al_stuck, va_add, va_addI, va_sub, va_neg, va_lt, va_le, va_gt, va_ge, va_eqS, va_neS, va_eqI, va_neI, va_ixL, va_ixT, va_lenL, va_lenT, va_max, va_min, va_abs, va_asB, va_truB, va_itL, va_itT, va_itS, va_tupL, va_tupT, va_inS, va_notInS, va_isN, va_some_bl, List.getElem?_cons_zero, List.getElem?_cons_succ, List.set_cons_zero, List.set_cons_succ, List.map_cons, List.map_nil, List.length_cons, List.length_nil, List.replicate, List.cons_append, List.nil_append, List.append_nil, Nat.reduceSub, Nat.reduceAdd, Nat.sub_self, Nat.zero_add, sizeLine_eq, Nat.reduceLeDiff, pick, List.filterMap_cons, List.filterMap_nil, Option.some.injEq, exists_eq_left', exists_eq_left, exists_const, true_and, and_true, Bool.not_true, Bool.not_false, if_true, if_false, reduceIte, Bool.false_eq_true, eq_self, D.int.injEq]
          have g14 := g13.trans g4
          have b4 : T4[S.length]? = some (.dct (kd ks)) := by rw [g14.same _ (Ne.symm hn)]; exact bt
          have l4 : T4.length = S.length + 1 := g14.len.trans lt
          refine at_wp e0 (by simpa using e1) fun x hx => ?_
          have hv : ∃ v : Int, x = .int v ∧ 0 ≤ v ∧ v ≤ 10 ^ 30 := by
            simp only [List.mem_cons, List.not_mem_nil, or_false] at hx
            rcases hx with rfl | rfl | rfl | rfl | rfl | rfl
            · exact ⟨_, rfl, by omega, by omega⟩
            · exact ⟨_, rfl, by omega, by omega⟩
            · exact ⟨_, rfl, by omega, by omega⟩
            · exact ⟨_, rfl, by omega, by omega⟩
            · exact ⟨_, rfl, by decide, by decide⟩
            · exact ⟨_, rfl, by omega, by omega⟩
          obtain ⟨v, rfl, v0, v1⟩ := hv
          have okl := ok.len
          refine ⟨_, gk_at rfl rfl (put_gen b4 (by omega)), putA ks u v, _, _, _, ok.put hu v0 v1, Gn.set g14.at_ (Ne.symm hn), ?_, ?_, rfl⟩
          · rw [List.getElem?_set_self (by omega)]
          · rw [List.length_set]; exact l4
        · exact ⟨ks, _, _, _, ⟨ok.nd, ok.nm, ok.lo, ok.hi, Nat.le_succ_of_le ok.len⟩, g13.at_, by rw [g13.same _ (Ne.symm hn)]; exact bt, g13.len.trans lt, rfl⟩
    · rintro ρ T ⟨ks, x4, x5, x6, ok, r⟩
      rw [List.length_map] at ok
      exact ⟨ks, x4, x5, x6, ⟨ok.nd, ok.nm, ok.lo, ok.hi, Nat.le_trans ok.len hul⟩, r⟩
  have fin : ∀ us : List Str, (∀ z ∈ us, NameS z) → us.length ≤ 4 → (sSeq (sFor (iSeq (mC (.lst (us.map D.str)))) (gSet 4) (sSeq (sSet 5 (mBin dIx (mCall f_summary_of [0, 1] (aCons (mVar 1) (aCons (mVar 4) aNil)) aNil) (mC (.int 0)))) <| sSeq (sSet 6 (mLst (aCons (mVar 5) (aCons (mFun fMax (aCons (mC (.int 0)) (aCons (mBin dSub (mVar 5) (mC (.int 1))) aNil))) (aCons (mCall f__law_draw [0, 1] (aCons (mVar 0) (aCons (mC (.int 8)) aNil)) aNil) (aCons (mCall f__law_draw [0, 1] (aCons (mVar 0) (aCons (mC (.int 40)) aNil)) aNil) (aCons (mBin dPow (mC (.int 10)) (mC (.int 29))) (aCons (mBin dFdiv (mVar 5) (mC (.int 2))) aNil)))))))) <|
      sIf (bOf (mBin dGt (mCall f__law_draw [0, 1] (aCons (mVar 0) (aCons (mC (.int 5)) aNil)) aNil) (mC (.int 0)))) (sAsg (mBin dIx (mVar 6) (mCall f__law_draw [0, 1] (aCons (mVar 0) (aCons (mC (.int 6)) aNil)) aNil)) (gKx (mVar 3) (mVar 4))) sNil)) (sSeq (sIf (bOf (mBin dEq (mCall f__law_draw [0, 1] (aCons (mVar 0) (aCons (mC (.int 3)) aNil)) aNil) (mC (.int 0)))) (sAsg (mC (.int 0)) (gKx (mVar 3) (mC (.str "nobody")))) sNil) (sRet (mVar 3))) [.sh (.ref n), .sh (.lst (rs.map Rc.Row.d)), .sh (.lst (zs.map D.str)), .sh (.ref S.length), .un, .un, .un] S1).al (fun _ S' => Q .non S') ⟨Q, E, fun _ _ => False, fun _ _ => False, fun _ _ _ => True⟩ := by
    intro us hus hul
    refine seq_mid _ (by rw [w_sfor, w_iseq, w_c]; exact ⟨_, rfl, main us hus hul⟩) ?_
    rintro ρ T ⟨ks, x4, x5, x6, ok, rt, bt, lt, rfl⟩
    simp only [w_c, w_var, w_bin, w_un, w_nil, w_cons, w_fun, w_tup, w_lst, w_dct0, w_call, w_callP, w_if, w_and, w_or, w_not, w_chain, w_bof, w_btru, w_bnot, w_band, w_bor, w_btrue, w_iseq, w_ifun, w_comp, w_onone, w_osome, w_sl, w_lend, w_blend, w_seq, w_snil, w_set, w_own, w_ret, w_retn, w_retv, w_exp, w_sif, w_asg, w_sfor, w_brk, w_cont, w_par2, w_par3, w_app, w_def, lent, al_ok, al_stuck, va_add, va_addI, va_sub, va_neg, va_lt, va_le, va_gt, va_ge, va_eqS, va_neS, va_eqI, va_neI, va_ixL, va_ixT, va_lenL, va_lenT, va_max, va_min, va_abs, va_asB, va_truB, va_itL, va_itT, va_itS, va_tupL, va_tupT, va_inS, va_notInS, va_isN, va_some_bl, List.getElem?_cons_zero, List.getElem?_cons_succ, List.set_cons_zero, List.set_cons_succ, List.map_cons, List.map_nil, List.length_cons, List.length_nil, List.replicate, List.cons_append, List.nil_append, List.append_nil, Nat.reduceSub, Nat.reduceAdd, Nat.sub_self, Nat.zero_add, sizeLine_eq, Nat.reduceLeDiff, pick, List.filterMap_cons, List.filterMap_nil, Option.some.injEq, exists_eq_left', exists_eq_left, exists_const, true_and, and_true, Bool.not_true, Bool.not_false, if_true, if_false, reduceIte, Bool.false_eq_true, eq_self, D.int.injEq]
    refine drawG rt (by decide) (by decide) fun c T3 c0 c1 g3 => ?_
    have b3 : T3[S.length]? = some (.dct (kd ks)) := by rw [g3.same _ (Ne.symm hn)]; exact bt
    simp only [w_c, w_var, w_bin, w_un, w_nil, w_cons, w_fun, w_tup, w_lst, w_dct0, w_call, w_callP, w_if, w_and, w_or, w_not, w_chain, w_bof, w_btru, w_bnot, w_band, w_bor, w_btrue, w_iseq, w_ifun, w_comp, w_onone, w_osome, w_sl, w_lend, w_blend, w_seq, w_snil, w_set, w_own, w_ret, w_retn, w_retv, w_exp, w_sif, w_asg, w_sfor, w_brk, w_cont, w_par2, w_par3, w_app, w_def, lent, al_ok, al_stuck, va_add, va_addI, va_sub, va_neg, va_lt, va_le, va_gt, va_ge, va_eqS, va_neS, va_eqI, va_neI, va_ixL, va_ixT, va_lenL, va_lenT, va_max, va_min, va_abs, va_asB, va_truB, va_itL, va_itT, va_itS, va_tupL, va_tupT, va_inS, va_notInS, va_isN, va_some_bl, List.getElem?_cons_zero, List.getElem?_cons_succ, List.set_cons_zero, List.set_cons_succ, List.map_cons, List.map_nil, List.length_cons, List.length_nil, List.replicate, List.cons_append, List.nil_append, List.append_nil, Nat.reduceSub, Nat.reduceAdd, Nat.sub_self, Nat.zero_add, sizeLine_eq, Nat.reduceLeDiff, pick, List.filterMap_cons, List.filterMap_nil, Option.some.injEq, exists_eq_left', exists_eq_left, exists_const, true_and, and_true, Bool.not_true, Bool.not_false, if_true, if_false, reduceIte, Bool.false_eq_true, eq_self, D.int.injEq]
    have okl := ok.len
    have bn : NameS "nobody" := ⟨by decide +kernel, by decide +kernel, by decide +kernel⟩
    split
    · refine ⟨_, gk_atC rfl (put_gen b3 (by omega)), ?_⟩
      refine q (putA ks "nobody" 0) _ (ok.put bn (by decide) (by decide)) (Gn.set g3.at_ (Ne.symm hn)) ?_
      rw [List.getElem?_set_self (by rw [g3.len, lt]; omega)]
    · exact q ks _ ⟨ok.nd, ok.nm, ok.lo, ok.hi, Nat.le_succ_of_le ok.len⟩ g3.at_ b3
  have f1 := fin zs hz hzl
  have f2 := fin zs.reverse (fun z hz' => hz z (List.mem_reverse.mp hz')) (by rw [List.length_reverse]; exact hzl)
  rw [List.map_reverse] at f2
  split
  · simp only [w_c, w_var, w_bin, w_un, w_nil, w_cons, w_fun, w_tup, w_lst, w_dct0, w_call, w_callP, w_if, w_and, w_or, w_not, w_chain, w_bof, w_btru, w_bnot, w_band, w_bor, w_btrue, w_iseq, w_ifun, w_comp, w_onone, w_osome, w_sl, w_lend, w_blend, w_seq, w_snil, w_set, w_own, w_ret, w_retn, w_retv, w_exp, w_sif, w_asg, w_sfor, w_brk, w_cont, w_par2, w_par3, w_app, w_def, lent, al_ok, al_stuck, va_add, va_addI, va_sub, va_neg, va_lt, va_le, va_gt, va_ge, va_eqS, va_neS, va_eqI, va_neI, va_ixL, va_ixT, va_lenL, va_lenT, va_max, va_min, va_abs, va_asB, va_truB, va_itL, va_itT, va_itS, va_tupL, va_tupT, va_inS, va_notInS, va_isN, va_some_bl, List.getElem?_cons_zero, List.getElem?_cons_succ, List.set_cons_zero, List.set_cons_succ, List.map_cons, List.map_nil, List.length_cons, List.length_nil, List.replicate, List.cons_append, List.nil_append, List.append_nil, Nat.reduceSub, Nat.reduceAdd, Nat.sub_self, Nat.zero_add, sizeLine_eq, Nat.reduceLeDiff, pick, List.filterMap_cons, List.filterMap_nil, Option.some.injEq, exists_eq_left', exists_eq_left, exists_const, true_and, and_true, Bool.not_true, Bool.not_false, if_true, if_false, reduceIte, Bool.false_eq_true, eq_self, D.int.injEq, w_box, soOf, Mi.w_rev, va_rev] at f2
    exact f2
  · simp only [w_c, w_var, w_bin, w_un, w_nil, w_cons, w_fun, w_tup, w_lst, w_dct0, w_call, w_callP, w_if, w_and, w_or, w_not, w_chain, w_bof, w_btru, w_bnot, w_band, w_bor, w_btrue, w_iseq, w_ifun, w_comp, w_onone, w_osome, w_sl, w_lend, w_blend, w_seq, w_snil, w_set, w_own, w_ret, w_retn, w_retv, w_exp, w_sif, w_asg, w_sfor, w_brk, w_cont, w_par2, w_par3, w_app, w_def, lent, al_ok, al_stuck, va_add, va_addI, va_sub, va_neg, va_lt, va_le, va_gt, va_ge, va_eqS, va_neS, va_eqI, va_neI, va_ixL, va_ixT, va_lenL, va_lenT, va_max, va_min, va_abs, va_asB, va_truB, va_itL, va_itT, va_itS, va_tupL, va_tupT, va_inS, va_notInS, va_isN, va_some_bl, List.getElem?_cons_zero, List.getElem?_cons_succ, List.set_cons_zero, List.set_cons_succ, List.map_cons, List.map_nil, List.length_cons, List.length_nil, List.replicate, List.cons_append, List.nil_append, List.append_nil, Nat.reduceSub, Nat.reduceAdd, Nat.sub_self, Nat.zero_add, sizeLine_eq, Nat.reduceLeDiff, pick, List.filterMap_cons, List.filterMap_nil, Option.some.injEq, exists_eq_left', exists_eq_left, exists_const, true_and, and_true, Bool.not_true, Bool.not_false, if_true, if_false, reduceIte, Bool.false_eq_true, eq_self, D.int.injEq, w_box, soOf, Mi.w_rev, va_rev] at f1
    exact f1
end
end K43

/-! P43: the law. -/
namespace K43
open PySem PySem.Spec PyProof.Rows L2 Mi Rc
theorem walk_key : ∀ {rs : List Rc.Row} {ks : Am} {i j : Nat} {b : Str}, walk rs ks i = some (j, b) → b ∈ ks.map (·.1)
  | [], _, _, _, _, h => by cases h
  | r :: rs, ks, i, j, b, h => by
    rw [walk_cons] at h
    cases e : fail r ks with
    | some c =>
      rw [e] at h
      cases h
      exact over_key (List.find?_some e)
    | none =>
      rw [e] at h
      have := walk_key h
      rwa [subA_keys] at this
theorem name_th {z : Str} (h : NameS z) : okD (.str z) ∧ bkD (.str z) ≤ 8 := ⟨by simpa only [okD] using h.chars, by simpa only [bkD] using h.2.1⟩
section
variable {S : Store} {n : Nat} {Q : D → Store → Prop} {E : Exn → Store → Prop}
theorem ans_ok {rs : List Rc.Row} {ks : Am} {m : Nat} (h : AmOk ks m) (hl : rs.length ≤ 14) : okD (ans (walk rs ks 0)) ∧ noK (ans (walk rs ks 0)) ∧ bkD (ans (walk rs ks 0)) ≤ 12 ∧ dpD (ans (walk rs ks 0)) ≤ 1 := by
  cases e : walk rs ks 0 with
  | none => exact ⟨by simp [ans, okD], by simp [ans, noK], by simp [ans, bkD], by simp [ans, dpD]⟩
  | some p =>
    obtain ⟨j, b⟩ := p
    obtain ⟨k, e1, e2, _⟩ := walk_some e
    have hb := h.nm b (walk_key e)
    have hk : k < 14 := by omega
    simp only [ans, okD, okDs, noK, noKs, bkD, bkDs, dpD, dpDs]
    refine ⟨⟨?_, hb.chars, trivial⟩, ⟨trivial, hb.chars, trivial⟩, ?_, by simp⟩
    · rw [e1]; simp only [Nat.zero_add, Int.natAbs_natCast]; omega
    · have := hb.2.1; omega
theorem rows_ok {rs : List Rc.Row} (h : ∀ r ∈ rs, r.ok) (hl : rs.length ≤ 14) : okDs (rs.map Rc.Row.d) ∧ bkDs (rs.map Rc.Row.d) ≤ 14 * 31 ∧ dpDs (rs.map Rc.Row.d) ≤ 1 := by
  refine ⟨?_, ?_, ?_⟩
  · rw [okDs_iff]
    intro d hd
    obtain ⟨r, hr, rfl⟩ := List.mem_map.mp hd
    exact (row_noK (h r hr)).1
  · have : bkDs (rs.map Rc.Row.d) ≤ (rs.map Rc.Row.d).length * (30 + 1) := bkDs_le fun d hd => by
      obtain ⟨r, hr, rfl⟩ := List.mem_map.mp hd
      exact (row_noK (h r hr)).2.1
    rw [List.length_map] at this
    omega
  · exact dpDs_le fun d hd => by
      obtain ⟨r, hr, rfl⟩ := List.mem_map.mp hd
      rw [(row_noK (h r hr)).2.2]; exact Nat.le_refl _
theorem kd_ok : ∀ {ks : Am}, (∀ k ∈ ks.map (·.1), NameS k) → NN ks → (∀ p ∈ ks, p.2 ≤ 10 ^ 30) → okDk (kd ks) ∧ bkDk (kd ks) ≤ ks.length * 20 ∧ dpDk (kd ks) ≤ 1
  | [], _, _, _ => by simp [kd, okDk, bkDk, dpDk]
  | p :: ks, h1, h2, h3 => by
    obtain ⟨a1, a2, a3⟩ := kd_ok (ks := ks) (fun k hk => h1 k (List.mem_cons_of_mem _ hk)) (fun q hq => h2 q (List.mem_cons_of_mem _ hq)) (fun q hq => h3 q (List.mem_cons_of_mem _ hq))
    have hn := h1 p.1 List.mem_cons_self
    have v0 := h2 p List.mem_cons_self
    have v1 := h3 p List.mem_cons_self
    have e : kd (p :: ks) = (.inr p.1, .int p.2) :: kd ks := rfl
    rw [e]
    refine ⟨?_, ?_, ?_⟩
    · simp only [okDk, okDp, okK, okD]
      exact ⟨⟨hn.chars, by omega⟩, a1⟩
    · simp only [bkDk, bkDp, kW, bkD, List.length_cons]
      have := hn.2.1
      omega
    · simp only [dpDk, dpDp, dpD]
      omega
theorem right_wp {rs : List Rc.Row} {ks : Am} {m : Nat} (h : RngAt S n) (hr : ∀ r ∈ rs, r.ok) (hl : rs.length ≤ 14) (ok : AmOk ks 5) (hm : S[m]? = some (.dct (kd ks)))
    (q : ∀ S', (∃ J, S' = S ++ J) → Q (.bl true) S') : (f__law_right [.ref n, .lst (rs.map Rc.Row.d), .ref m] S).al Q E := by
  have okl := ok.len
  have hs : OkS (ks.map (·.1)) := fun x hx => (ok.nm x hx).chars
  have vk : ∀ J, viewK (S ++ J) (.ref m) = some (kd ks) := fun J => by simp only [viewK, get_app hm]
  obtain ⟨w, hw⟩ : ∃ w, w = walk rs ks 0 := ⟨_, rfl⟩
  obtain ⟨o1, o2, o3, o4⟩ := ans_ok ok hl
  rw [← hw] at o1 o2 o3 o4
  -- repr of the rows and the amounts
  obtain ⟨r1, r2, r3⟩ := rows_ok hr hl
  obtain ⟨a1, a2, a3⟩ := kd_ok ok.nm ok.lo ok.hi
  obtain ⟨k1, _, _, hk1⟩ := repr_ok (d := .lst [.lst (rs.map Rc.Row.d), .dct (kd ks)]) (by simp only [okD, okDs, and_true]; exact ⟨r1, a1⟩) (by simp only [bkD, bkDs]; omega) (by simp only [dpD, dpDs]; omega)
  have nr : noR (.lst [.lst (rs.map Rc.Row.d), .dct (kd ks)]) = true := noR_ok _ (by simp only [okD, okDs, and_true]; exact ⟨r1, a1⟩)
  have nrr : noRs (rs.map Rc.Row.d) = true := noRs_ok _ r1
  have sh : ∀ J, fRepr (S ++ J) [.lst [.lst (rs.map Rc.Row.d), .ref m]] = some (.str k1) := fun J => by
    rw [repr_top (d' := .lst [.lst (rs.map Rc.Row.d), .dct (kd ks)]) (top_1 (by simp only [stp, stps, top1, get_app hm]; rw [stps_id _ nrr]) nr) nr]
    exact hk1 _
  obtain ⟨k2, _, _, hk2⟩ := repr_ok (d := .lst [ans w, ans w]) (by simp only [okD, okDs, and_true]; exact ⟨o1, o1⟩) (by simp only [bkD, bkDs]; omega) (by simp only [dpD, dpDs]; omega)
  have ff : ∀ (J : Store) (d : D) (us : List Rc.Row) {Q : D → Store → Prop} {E : Exn → Store → Prop}, (d = .lst (us.map Rc.Row.d) ∨ d = .tup (us.map Rc.Row.d)) → (∀ r ∈ us, r.ok) → (∀ J', Q (ans (walk us ks 0)) (S ++ J')) → (f_first_failing [d, .ref m] (S ++ J)).al Q E := fun J d us Q E e hu k =>
    al_mono (ff_al (S := S ++ J) e hu (vk J) ok.nd (by omega)) (fun z S' ⟨h1, J', h2⟩ => by rw [h1, h2, List.append_assoc]; exact k _) fun _ _ h => h.elim
  have e0 : S = S ++ [] := (List.append_nil S).symm
  unfold f__law_right m__law_right
  simp only [w_c, w_var, w_bin, w_un, w_nil, w_cons, w_fun, w_tup, w_lst, w_dct0, w_call, w_callP, w_if, w_and, w_or, w_not, w_chain, w_bof, w_btru, w_bnot, w_band, w_bor, w_btrue, w_iseq, w_ifun, w_comp, w_onone, w_osome, w_sl, w_lend, w_blend, w_seq, w_snil, w_set, w_own, w_ret, w_retn, w_retv, w_exp, w_sif, w_asg, w_sfor, w_brk, w_cont, w_par2, w_par3, w_app, w_def, lent, al_ok, al_stuck, va_add, va_addI, va_sub, va_neg, va_lt, va_le, va_gt, va_ge, va_eqS, va_neS, va_eqI, va_neI, va_ixL, va_ixT, va_lenL, va_lenT, va_max, va_min, va_abs, va_asB, va_truB, va_itL, va_itT, va_itS, va_tupL, va_tupT, va_inS, va_notInS, va_isN, va_some_bl, List.getElem?_cons_zero, List.getElem?_cons_succ, List.set_cons_zero, List.set_cons_succ, List.map_cons, List.map_nil, List.length_cons, List.length_nil, List.replicate, List.cons_append, List.nil_append, List.append_nil, Nat.reduceSub, Nat.reduceAdd, Nat.sub_self, Nat.zero_add, sizeLine_eq, Nat.reduceLeDiff, pick, List.filterMap_cons, List.filterMap_nil, Option.some.injEq, exists_eq_left', exists_eq_left, exists_const, true_and, and_true, Bool.not_true, Bool.not_false, if_true, if_false, reduceIte, Bool.false_eq_true, eq_self, D.int.injEq]
  rw [e0]
  refine al_mono (due_al (S := S ++ []) hr (vk []) ok.nd (by omega) hs ok.lo) ?_ (fun _ _ h => h.elim)
  rintro _ _ ⟨rfl, J1, rfl⟩
  rw [List.append_assoc, List.nil_append, ← hw]
  simp only [w_c, w_var, w_bin, w_un, w_nil, w_cons, w_fun, w_tup, w_lst, w_dct0, w_call, w_callP, w_if, w_and, w_or, w_not, w_chain, w_bof, w_btru, w_bnot, w_band, w_bor, w_btrue, w_iseq, w_ifun, w_comp, w_onone, w_osome, w_sl, w_lend, w_blend, w_seq, w_snil, w_set, w_own, w_ret, w_retn, w_retv, w_exp, w_sif, w_asg, w_sfor, w_brk, w_cont, w_par2, w_par3, w_app, w_def, lent, al_ok, al_stuck, va_add, va_addI, va_sub, va_neg, va_lt, va_le, va_gt, va_ge, va_eqS, va_neS, va_eqI, va_neI, va_ixL, va_ixT, va_lenL, va_lenT, va_max, va_min, va_abs, va_asB, va_truB, va_itL, va_itT, va_itS, va_tupL, va_tupT, va_inS, va_notInS, va_isN, va_some_bl, List.getElem?_cons_zero, List.getElem?_cons_succ, List.set_cons_zero, List.set_cons_succ, List.map_cons, List.map_nil, List.length_cons, List.length_nil, List.replicate, List.cons_append, List.nil_append, List.append_nil, Nat.reduceSub, Nat.reduceAdd, Nat.sub_self, Nat.zero_add, sizeLine_eq, Nat.reduceLeDiff, pick, List.filterMap_cons, List.filterMap_nil, Option.some.injEq, exists_eq_left', exists_eq_left, exists_const, true_and, and_true, Bool.not_true, Bool.not_false, if_true, if_false, reduceIte, Bool.false_eq_true, eq_self, D.int.injEq, sh]
  refine ff _ _ rs (.inl rfl) hr fun J2 => ?_
  refine ff _ _ rs (.inr rfl) hr fun J3 => ?_
  rw [← hw]
  simp only [w_c, w_var, w_bin, w_un, w_nil, w_cons, w_fun, w_tup, w_lst, w_dct0, w_call, w_callP, w_if, w_and, w_or, w_not, w_chain, w_bof, w_btru, w_bnot, w_band, w_bor, w_btrue, w_iseq, w_ifun, w_comp, w_onone, w_osome, w_sl, w_lend, w_blend, w_seq, w_snil, w_set, w_own, w_ret, w_retn, w_retv, w_exp, w_sif, w_asg, w_sfor, w_brk, w_cont, w_par2, w_par3, w_app, w_def, lent, al_ok, al_stuck, va_add, va_addI, va_sub, va_neg, va_lt, va_le, va_gt, va_ge, va_eqS, va_neS, va_eqI, va_neI, va_ixL, va_ixT, va_lenL, va_lenT, va_max, va_min, va_abs, va_asB, va_truB, va_itL, va_itT, va_itS, va_tupL, va_tupT, va_inS, va_notInS, va_isN, va_some_bl, List.getElem?_cons_zero, List.getElem?_cons_succ, List.set_cons_zero, List.set_cons_succ, List.map_cons, List.map_nil, List.length_cons, List.length_nil, List.replicate, List.cons_append, List.nil_append, List.append_nil, Nat.reduceSub, Nat.reduceAdd, Nat.sub_self, Nat.zero_add, sizeLine_eq, Nat.reduceLeDiff, pick, List.filterMap_cons, List.filterMap_nil, Option.some.injEq, exists_eq_left', exists_eq_left, exists_const, true_and, and_true, Bool.not_true, Bool.not_false, if_true, if_false, reduceIte, Bool.false_eq_true, eq_self, D.int.injEq, hk2, beq_self_eq_true]
  -- all of them
  have lk : ∀ (J : Store) (x3 x4 x5 x6 : Sl), lockOf (mVar 2) [.sh (.ref n), .sh (.lst (rs.map Rc.Row.d)), .sh (.ref m), x3, x4, x5, x6] (S ++ J) = some (m, .lck (kd ks)) := fun J _ _ _ _ => lock_at rfl (get_app hm)
  have hml : m < S.length := (List.getElem?_eq_some_iff.mp hm).1
  have hst : ∀ (J : Store) (so : SO), (S ++ J).set m so = S.set m so ++ J := fun J so => by rw [List.set_append_left _ _ hml]
  have hb : (S.set m (.dct (kd ks))) = S := by
    obtain ⟨hl, e⟩ := List.getElem?_eq_some_iff.mp hm
    rw [← e]; exact List.set_getElem_self hl
  have lat : ∀ J, (S.set m (.lck (kd ks)) ++ J)[m]? = some (.lck (kd ks)) := fun J => by
    rw [List.getElem?_append_left (by rw [List.length_set]; exact hml), List.getElem?_set_self hml]
  have hc : ∀ (J : Store) (x3 x4 x5 : Sl), compL [6] (gSet 6) bTrue (mCall f_passes [0, 1] (aCons (mCall f_summary_of [0, 1] (aCons (mVar 1) (aCons (mVar 6) aNil)) aNil) (aCons (mBin dGx (mVar 2) (mVar 6)) aNil)) aNil) [.sh (.ref n), .sh (.lst (rs.map Rc.Row.d)), .sh (.ref m), x3, x4, x5, .un] ((ks.map (·.1)).map D.str) [] (S.set m (.lck (kd ks)) ++ J) =
      .ok ((ks.map (·.1)).map fun b => D.bl (match look ks b with | some v => decide ((su b rs).1 ≤ v) | none => false)) (S.set m (.lck (kd ks)) ++ J) := by
    intro J x3 x4 x5
    have vl : viewK (S.set m (.lck (kd ks)) ++ J) (.ref m) = some (kd ks) := by simp only [viewK, lat]
    have hp := comp_pure (vs := [6]) (g := gSet 6) (t := bTrue) (e := mCall f_passes [0, 1] (aCons (mCall f_summary_of [0, 1] (aCons (mVar 1) (aCons (mVar 6) aNil)) aNil) (aCons (mBin dGx (mVar 2) (mVar 6)) aNil)) aNil) (ρ := [.sh (.ref n), .sh (.lst (rs.map Rc.Row.d)), .sh (.ref m), x3, x4, x5, .un]) (S := S.set m (.lck (kd ks)) ++ J) (p := fun _ => true)
      (f := fun d => match d with | .str b => .bl (match look ks b with | some v => decide ((su b rs).1 ≤ v) | none => false) | _ => d) ((ks.map (·.1)).map D.str) [] (fun d hd => by
        obtain ⟨b, hb, rfl⟩ := List.mem_map.mp hd
        obtain ⟨v, hv⟩ := Option.isSome_iff_exists.mp (look_key.mpr hb)
        refine ⟨_, rfl, rfl, fun _ => ?_⟩
        simp only [mBin, mVar, mCall, aCons, aNil, pick, List.filterMap_cons, List.filterMap_nil, List.cons_append, List.nil_append, List.set_cons_succ, List.set_cons_zero, List.getElem?_cons_succ, List.getElem?_cons_zero, R.bind, R.opt, e_summary, e_passes, summary_eq (d := .lst (rs.map Rc.Row.d)) rfl hr, gx_at vl, hv, Option.map_some, passes_eq]) (by
        rw [List.length_map, List.length_map, List.length_nil, sizeLine_eq]; omega)
    rw [hp]
    simp only [List.nil_append]
    congr 1
    rw [List.filter_eq_self.mpr (fun _ _ => rfl), List.map_map]
    rfl
  have hall : (ks.map (·.1)).all (fun b => match look ks b with | some v => decide ((su b rs).1 ≤ v) | none => false) = w.isNone := by
    rw [hw, Bool.eq_iff_iff, Option.isNone_iff_eq_none, walk_iff ok.lo ok.nd, List.all_eq_true]
    constructor
    · intro hh p hp
      have := hh p.1 (List.mem_map.mpr ⟨p, hp, rfl⟩)
      rw [look_of ok.nd (show (p.1, p.2) ∈ ks from hp)] at this
      exact of_decide_eq_true this
    · intro hh b hb
      obtain ⟨p, hp, rfl⟩ := List.mem_map.mp hb
      rw [look_of ok.nd (show (p.1, p.2) ∈ ks from hp)]
      exact decide_eq_true (hh p hp)
  have isw : ∀ T, dIs T (ans w) .non = some (.bl w.isNone) := fun T => by cases w <;> rfl
  have isn : ∀ T, dIsnt T (ans w) .non = some (.bl (!w.isNone)) := fun T => by cases w <;> rfl
  have neb : ∀ T (b : Bool), dNe T (.bl b) (.bl b) = some (.bl false) := fun T b => by cases b <;> rfl
  have ulk : ∀ J, unlO m (S.set m (.lck (kd ks)) ++ J) = some (S ++ J) := fun J => by
    rw [unl_at (lat J), List.set_append_left _ _ (by rw [List.length_set]; exact hml), List.set_set, hb]
  simp only [w_c, w_var, w_bin, w_un, w_nil, w_cons, w_fun, w_tup, w_lst, w_dct0, w_call, w_callP, w_if, w_and, w_or, w_not, w_chain, w_bof, w_btru, w_bnot, w_band, w_bor, w_btrue, w_iseq, w_ifun, w_comp, w_onone, w_osome, w_sl, w_lend, w_blend, w_seq, w_snil, w_set, w_own, w_ret, w_retn, w_retv, w_exp, w_sif, w_asg, w_sfor, w_brk, w_cont, w_par2, w_par3, w_app, w_def, lent, al_ok, al_stuck, va_add, va_addI, va_sub, va_neg, va_lt, va_le, va_gt, va_ge, va_eqS, va_neS, va_eqI, va_neI, va_ixL, va_ixT, va_lenL, va_lenT, va_max, va_min, va_abs, va_asB, va_truB, va_itL, va_itT, va_itS, va_tupL, va_tupT, va_inS, va_notInS, va_isN, va_some_bl, List.getElem?_cons_zero, List.getElem?_cons_succ, List.set_cons_zero, List.set_cons_succ, List.map_cons, List.map_nil, List.length_cons, List.length_nil, List.replicate, List.cons_append, List.nil_append, List.append_nil, Nat.reduceSub, Nat.reduceAdd, Nat.sub_self, Nat.zero_add, sizeLine_eq, Nat.reduceLeDiff, pick, List.filterMap_cons, List.filterMap_nil, Option.some.injEq, exists_eq_left', exists_eq_left, exists_const, true_and, and_true, Bool.not_true, Bool.not_false, if_true, if_false, reduceIte, Bool.false_eq_true, eq_self, D.int.injEq, w_lock, lk, hst, w_iSeqF, seqF_at (lat _), kd_keys, wipeR, hc, ulk, fAll_map, hall, isw, neb, isn]
  cases w with
  | none =>
    simp only [w_c, w_var, w_bin, w_un, w_nil, w_cons, w_fun, w_tup, w_lst, w_dct0, w_call, w_callP, w_if, w_and, w_or, w_not, w_chain, w_bof, w_btru, w_bnot, w_band, w_bor, w_btrue, w_iseq, w_ifun, w_comp, w_onone, w_osome, w_sl, w_lend, w_blend, w_seq, w_snil, w_set, w_own, w_ret, w_retn, w_retv, w_exp, w_sif, w_asg, w_sfor, w_brk, w_cont, w_par2, w_par3, w_app, w_def, lent, al_ok, al_stuck, va_add, va_addI, va_sub, va_neg, va_lt, va_le, va_gt, va_ge, va_eqS, va_neS, va_eqI, va_neI, va_ixL, va_ixT, va_lenL, va_lenT, va_max, va_min, va_abs, va_asB, va_truB, va_itL, va_itT, va_itS, va_tupL, va_tupT, va_inS, va_notInS, va_isN, va_some_bl, List.getElem?_cons_zero, List.getElem?_cons_succ, List.set_cons_zero, List.set_cons_succ, List.map_cons, List.map_nil, List.length_cons, List.length_nil, List.replicate, List.cons_append, List.nil_append, List.append_nil, Nat.reduceSub, Nat.reduceAdd, Nat.sub_self, Nat.zero_add, sizeLine_eq, Nat.reduceLeDiff, pick, List.filterMap_cons, List.filterMap_nil, Option.some.injEq, exists_eq_left', exists_eq_left, exists_const, true_and, and_true, Bool.not_true, Bool.not_false, if_true, if_false, reduceIte, Bool.false_eq_true, eq_self, D.int.injEq, Option.isNone_none, sh, beq_self_eq_true]
    exact q _ ⟨_, rfl⟩
  | some p =>
    obtain ⟨j, b⟩ := p
    obtain ⟨k, e1, e2, e3, e4⟩ := walk_some hw.symm
    rw [Nat.zero_add] at e1
    subst e1
    have ix0 : ∀ T, dIx T (ans (some (j, b))) (.int 0) = some (.int j) := fun _ => rfl
    have cl : ∀ T, dSl T (.lst (rs.map Rc.Row.d)) none (some (j : Int)) = some (.lst (rs.map Rc.Row.d |>.take j)) := fun _ => cut_lo
    have cl2 : ∀ T, dSl T (.lst (rs.map Rc.Row.d)) none (some ((j : Int) + 1)) = some (.lst (rs.map Rc.Row.d |>.take (j + 1))) := fun _ => cut_lo (k := j + 1)
    simp only [w_c, w_var, w_bin, w_un, w_nil, w_cons, w_fun, w_tup, w_lst, w_dct0, w_call, w_callP, w_if, w_and, w_or, w_not, w_chain, w_bof, w_btru, w_bnot, w_band, w_bor, w_btrue, w_iseq, w_ifun, w_comp, w_onone, w_osome, w_sl, w_lend, w_blend, w_seq, w_snil, w_set, w_own, w_ret, w_retn, w_retv, w_exp, w_sif, w_asg, w_sfor, w_brk, w_cont, w_par2, w_par3, w_app, w_def, lent, al_ok, al_stuck, va_add, va_addI, va_sub, va_neg, va_lt, va_le, va_gt, va_ge, va_eqS, va_neS, va_eqI, va_neI, va_ixL, va_ixT, va_lenL, va_lenT, va_max, va_min, va_abs, va_asB, va_truB, va_itL, va_itT, va_itS, va_tupL, va_tupT, va_inS, va_notInS, va_isN, va_some_bl, List.getElem?_cons_zero, List.getElem?_cons_succ, List.set_cons_zero, List.set_cons_succ, List.map_cons, List.map_nil, List.length_cons, List.length_nil, List.replicate, List.cons_append, List.nil_append, List.append_nil, Nat.reduceSub, Nat.reduceAdd, Nat.sub_self, Nat.zero_add, sizeLine_eq, Nat.reduceLeDiff, pick, List.filterMap_cons, List.filterMap_nil, Option.some.injEq, exists_eq_left', exists_eq_left, exists_const, true_and, and_true, Bool.not_true, Bool.not_false, if_true, if_false, reduceIte, Bool.false_eq_true, eq_self, D.int.injEq, Option.isNone_some, ix0, cl, cl2]
    refine ff _ _ (rs.take j) (.inl (by rw [List.map_take])) (fun r hr' => hr r (List.mem_of_mem_take hr')) fun J4 => ?_
    rw [e3]
    have is0 : ∀ T, dIsnt T (ans none) .non = some (.bl false) := fun _ => rfl
    have ad : ∀ T, dAdd T (.lst (rs.map Rc.Row.d |>.take (j + 1))) (.lst [.tup [.str "back", .str "nobody", .int 5], .tup [.str "step"]]) = some (.lst ((rs.take (j + 1) ++ [Rc.Row.back "nobody" 5, Rc.Row.step]).map Rc.Row.d)) := fun T => by
      rw [va_addL (by rw [sizeLine_eq, List.length_take, List.length_map]; simp; omega), List.map_append, List.map_take]
      rfl
    simp only [w_c, w_var, w_bin, w_un, w_nil, w_cons, w_fun, w_tup, w_lst, w_dct0, w_call, w_callP, w_if, w_and, w_or, w_not, w_chain, w_bof, w_btru, w_bnot, w_band, w_bor, w_btrue, w_iseq, w_ifun, w_comp, w_onone, w_osome, w_sl, w_lend, w_blend, w_seq, w_snil, w_set, w_own, w_ret, w_retn, w_retv, w_exp, w_sif, w_asg, w_sfor, w_brk, w_cont, w_par2, w_par3, w_app, w_def, lent, al_ok, al_stuck, va_add, va_addI, va_sub, va_neg, va_lt, va_le, va_gt, va_ge, va_eqS, va_neS, va_eqI, va_neI, va_ixL, va_ixT, va_lenL, va_lenT, va_max, va_min, va_abs, va_asB, va_truB, va_itL, va_itT, va_itS, va_tupL, va_tupT, va_inS, va_notInS, va_isN, va_some_bl, List.getElem?_cons_zero, List.getElem?_cons_succ, List.set_cons_zero, List.set_cons_succ, List.map_cons, List.map_nil, List.length_cons, List.length_nil, List.replicate, List.cons_append, List.nil_append, List.append_nil, Nat.reduceSub, Nat.reduceAdd, Nat.sub_self, Nat.zero_add, sizeLine_eq, Nat.reduceLeDiff, pick, List.filterMap_cons, List.filterMap_nil, Option.some.injEq, exists_eq_left', exists_eq_left, exists_const, true_and, and_true, Bool.not_true, Bool.not_false, if_true, if_false, reduceIte, Bool.false_eq_true, eq_self, D.int.injEq, is0, ix0, cl2, ad]
    have bn : NameS "nobody" := ⟨by decide +kernel, by decide +kernel, by decide +kernel⟩
    refine ff _ _ (rs.take (j + 1) ++ [Rc.Row.back "nobody" 5, Rc.Row.step]) (.inl rfl) (fun r hr' => by
      rcases List.mem_append.mp hr' with hr' | hr'
      · exact hr r (List.mem_of_mem_take hr')
      · simp only [List.mem_cons, List.not_mem_nil, or_false] at hr'
        rcases hr' with rfl | rfl
        · exact ⟨bn, by decide, by unfold big; decide⟩
        · trivial) fun J5 => ?_
    rw [e4]
    simp only [w_c, w_var, w_bin, w_un, w_nil, w_cons, w_fun, w_tup, w_lst, w_dct0, w_call, w_callP, w_if, w_and, w_or, w_not, w_chain, w_bof, w_btru, w_bnot, w_band, w_bor, w_btrue, w_iseq, w_ifun, w_comp, w_onone, w_osome, w_sl, w_lend, w_blend, w_seq, w_snil, w_set, w_own, w_ret, w_retn, w_retv, w_exp, w_sif, w_asg, w_sfor, w_brk, w_cont, w_par2, w_par3, w_app, w_def, lent, al_ok, al_stuck, va_add, va_addI, va_sub, va_neg, va_lt, va_le, va_gt, va_ge, va_eqS, va_neS, va_eqI, va_neI, va_ixL, va_ixT, va_lenL, va_lenT, va_max, va_min, va_abs, va_asB, va_truB, va_itL, va_itT, va_itS, va_tupL, va_tupT, va_inS, va_notInS, va_isN, va_some_bl, List.getElem?_cons_zero, List.getElem?_cons_succ, List.set_cons_zero, List.set_cons_succ, List.map_cons, List.map_nil, List.length_cons, List.length_nil, List.replicate, List.cons_append, List.nil_append, List.append_nil, Nat.reduceSub, Nat.reduceAdd, Nat.sub_self, Nat.zero_add, sizeLine_eq, Nat.reduceLeDiff, pick, List.filterMap_cons, List.filterMap_nil, Option.some.injEq, exists_eq_left', exists_eq_left, exists_const, true_and, and_true, Bool.not_true, Bool.not_false, if_true, if_false, reduceIte, Bool.false_eq_true, eq_self, D.int.injEq, dNe_refl o2 (by omega), sh, beq_self_eq_true]
    exact q _ ⟨_, rfl⟩
end
theorem law_al (ns : List Int) (hn : ns.length ≤ 63) : (f_law [.lst (intsD ns)] []).al (fun d _ => d = .bl true) fun _ _ => False := by
  have hl : (intsD ns).length = ns.length := by unfold intsD; rw [List.length_map]
  obtain ⟨m, hm, hm4⟩ : ∃ m : Nat, max 1 (min 5 ((intsD ns).length : Int)) = (m : Int) ∧ m ≤ 5 := ⟨(max 1 (min 5 ((intsD ns).length : Int))).toNat, by omega, by omega⟩
  unfold f_law m_law
  simp only [w_c, w_var, w_bin, w_un, w_nil, w_cons, w_fun, w_tup, w_lst, w_dct0, w_call, w_callP, w_if, w_and, w_or, w_not, w_chain, w_bof, w_btru, w_bnot, w_band, w_bor, w_btrue, w_iseq, w_ifun, w_comp, w_onone, w_osome, w_sl, w_lend, w_blend, w_seq, w_snil, w_set, w_own, w_ret, w_retn, w_retv, w_exp, w_sif, w_asg, w_sfor, w_brk, w_cont, w_par2, w_par3, w_app, w_def, lent, al_ok, al_stuck, va_add, va_addI, va_sub, va_neg, va_lt, va_le, va_gt, va_ge, va_eqS, va_neS, va_eqI, va_neI, va_ixL, va_ixT, va_lenL, va_lenT, va_max, va_min, va_abs, va_asB, va_truB, va_itL, va_itT, va_itS, va_tupL, va_tupT, va_inS, va_notInS, va_isN, va_some_bl, List.getElem?_cons_zero, List.getElem?_cons_succ, List.set_cons_zero, List.set_cons_succ, List.map_cons, List.map_nil, List.length_cons, List.length_nil, List.replicate, List.cons_append, List.nil_append, List.append_nil, Nat.reduceSub, Nat.reduceAdd, Nat.sub_self, Nat.zero_add, sizeLine_eq, Nat.reduceLeDiff, pick, List.filterMap_cons, List.filterMap_nil, Option.some.injEq, exists_eq_left', exists_eq_left, exists_const, true_and, and_true, Bool.not_true, Bool.not_false, if_true, if_false, reduceIte, Bool.false_eq_true, eq_self, D.int.injEq, hm, va_rng1 (show 0 ≤ (m : Int) ∧ (m : Int) < 2 ^ 62 by omega)]
  refine for_wp (fun _ ρ S' => ∃ x1 x4 x5 x6 x7, ρ = [.sh (.lst (intsD ns)), x1, .un, .un, x4, x5, x6, x7]) ⟨_, _, _, _, _, rfl⟩ ?_ ?_
  · rintro i d ρ S hd ⟨x1, x4, x5, x6, x7, rfl⟩
    obtain ⟨rfl, hi⟩ := range_at hd
    refine ⟨_, rfl, ?_⟩
    simp only [w_c, w_var, w_bin, w_un, w_nil, w_cons, w_fun, w_tup, w_lst, w_dct0, w_call, w_callP, w_if, w_and, w_or, w_not, w_chain, w_bof, w_btru, w_bnot, w_band, w_bor, w_btrue, w_iseq, w_ifun, w_comp, w_onone, w_osome, w_sl, w_lend, w_blend, w_seq, w_snil, w_set, w_own, w_ret, w_retn, w_retv, w_exp, w_sif, w_asg, w_sfor, w_brk, w_cont, w_par2, w_par3, w_app, w_def, lent, al_ok, al_stuck, va_add, va_addI, va_sub, va_neg, va_lt, va_le, va_gt, va_ge, va_eqS, va_neS, va_eqI, va_neI, va_ixL, va_ixT, va_lenL, va_lenT, va_max, va_min, va_abs, va_asB, va_truB, va_itL, va_itT, va_itS, va_tupL, va_tupT, va_inS, va_notInS, va_isN, va_some_bl, List.getElem?_cons_zero, List.getElem?_cons_succ, List.set_cons_zero, List.set_cons_succ, List.map_cons, List.map_nil, List.length_cons, List.length_nil, List.replicate, List.cons_append, List.nil_append, List.append_nil, Nat.reduceSub, Nat.reduceAdd, Nat.sub_self, Nat.zero_add, sizeLine_eq, Nat.reduceLeDiff, pick, List.filterMap_cons, List.filterMap_nil, Option.some.injEq, exists_eq_left', exists_eq_left, exists_const, true_and, and_true, Bool.not_true, Bool.not_false, if_true, if_false, reduceIte, Bool.false_eq_true, eq_self, D.int.injEq]
    refine rng_wp (k := i) hn (by rw [Int.toNat_natCast] at hi; omega) fun S1 h1 => ?_
    simp only [w_c, w_var, w_bin, w_un, w_nil, w_cons, w_fun, w_tup, w_lst, w_dct0, w_call, w_callP, w_if, w_and, w_or, w_not, w_chain, w_bof, w_btru, w_bnot, w_band, w_bor, w_btrue, w_iseq, w_ifun, w_comp, w_onone, w_osome, w_sl, w_lend, w_blend, w_seq, w_snil, w_set, w_own, w_ret, w_retn, w_retv, w_exp, w_sif, w_asg, w_sfor, w_brk, w_cont, w_par2, w_par3, w_app, w_def, lent, al_ok, al_stuck, va_add, va_addI, va_sub, va_neg, va_lt, va_le, va_gt, va_ge, va_eqS, va_neS, va_eqI, va_neI, va_ixL, va_ixT, va_lenL, va_lenT, va_max, va_min, va_abs, va_asB, va_truB, va_itL, va_itT, va_itS, va_tupL, va_tupT, va_inS, va_notInS, va_isN, va_some_bl, List.getElem?_cons_zero, List.getElem?_cons_succ, List.set_cons_zero, List.set_cons_succ, List.map_cons, List.map_nil, List.length_cons, List.length_nil, List.replicate, List.cons_append, List.nil_append, List.append_nil, Nat.reduceSub, Nat.reduceAdd, Nat.sub_self, Nat.zero_add, sizeLine_eq, Nat.reduceLeDiff, pick, List.filterMap_cons, List.filterMap_nil, Option.some.injEq, exists_eq_left', exists_eq_left, exists_const, true_and, and_true, Bool.not_true, Bool.not_false, if_true, if_false, reduceIte, Bool.false_eq_true, eq_self, D.int.injEq, e_funds]
    refine funds_wp h1 fun zs S2 z0 z1 z2 _ h2 => ?_
    simp only [w_c, w_var, w_bin, w_un, w_nil, w_cons, w_fun, w_tup, w_lst, w_dct0, w_call, w_callP, w_if, w_and, w_or, w_not, w_chain, w_bof, w_btru, w_bnot, w_band, w_bor, w_btrue, w_iseq, w_ifun, w_comp, w_onone, w_osome, w_sl, w_lend, w_blend, w_seq, w_snil, w_set, w_own, w_ret, w_retn, w_retv, w_exp, w_sif, w_asg, w_sfor, w_brk, w_cont, w_par2, w_par3, w_app, w_def, lent, al_ok, al_stuck, va_add, va_addI, va_sub, va_neg, va_lt, va_le, va_gt, va_ge, va_eqS, va_neS, va_eqI, va_neI, va_ixL, va_ixT, va_lenL, va_lenT, va_max, va_min, va_abs, va_asB, va_truB, va_itL, va_itT, va_itS, va_tupL, va_tupT, va_inS, va_notInS, va_isN, va_some_bl, List.getElem?_cons_zero, List.getElem?_cons_succ, List.set_cons_zero, List.set_cons_succ, List.map_cons, List.map_nil, List.length_cons, List.length_nil, List.replicate, List.cons_append, List.nil_append, List.append_nil, Nat.reduceSub, Nat.reduceAdd, Nat.sub_self, Nat.zero_add, sizeLine_eq, Nat.reduceLeDiff, pick, List.filterMap_cons, List.filterMap_nil, Option.some.injEq, exists_eq_left', exists_eq_left, exists_const, true_and, and_true, Bool.not_true, Bool.not_false, if_true, if_false, reduceIte, Bool.false_eq_true, eq_self, D.int.injEq, e_rows]
    refine rows_wp h2 z0 z1 z2 (by decide) (by decide) fun rs S3 r1 r2 h3 => ?_
    simp only [w_c, w_var, w_bin, w_un, w_nil, w_cons, w_fun, w_tup, w_lst, w_dct0, w_call, w_callP, w_if, w_and, w_or, w_not, w_chain, w_bof, w_btru, w_bnot, w_band, w_bor, w_btrue, w_iseq, w_ifun, w_comp, w_onone, w_osome, w_sl, w_lend, w_blend, w_seq, w_snil, w_set, w_own, w_ret, w_retn, w_retv, w_exp, w_sif, w_asg, w_sfor, w_brk, w_cont, w_par2, w_par3, w_app, w_def, lent, al_ok, al_stuck, va_add, va_addI, va_sub, va_neg, va_lt, va_le, va_gt, va_ge, va_eqS, va_neS, va_eqI, va_neI, va_ixL, va_ixT, va_lenL, va_lenT, va_max, va_min, va_abs, va_asB, va_truB, va_itL, va_itT, va_itS, va_tupL, va_tupT, va_inS, va_notInS, va_isN, va_some_bl, List.getElem?_cons_zero, List.getElem?_cons_succ, List.set_cons_zero, List.set_cons_succ, List.map_cons, List.map_nil, List.length_cons, List.length_nil, List.replicate, List.cons_append, List.nil_append, List.append_nil, Nat.reduceSub, Nat.reduceAdd, Nat.sub_self, Nat.zero_add, sizeLine_eq, Nat.reduceLeDiff, pick, List.filterMap_cons, List.filterMap_nil, Option.some.injEq, exists_eq_left', exists_eq_left, exists_const, true_and, and_true, Bool.not_true, Bool.not_false, if_true, if_false, reduceIte, Bool.false_eq_true, eq_self, D.int.injEq, va_rng1 (show 0 ≤ (4 : Int) ∧ (4 : Int) < 2 ^ 62 by decide)]
    refine for_wp (fun _ ρ T => RngAt T S.length ∧ ∃ x7, ρ = [.sh (.lst (intsD ns)), .sh (.int i), .un, .un, .sh (.ref S.length), .sh (.lst (zs.map D.str)), .sh (.lst (rs.map Rc.Row.d)), x7]) ⟨h3.at, _, rfl⟩ ?_ ?_
    · rintro j d ρ T hd ⟨rt, x7, rfl⟩
      refine ⟨_, rfl, ?_⟩
      simp only [w_c, w_var, w_bin, w_un, w_nil, w_cons, w_fun, w_tup, w_lst, w_dct0, w_call, w_callP, w_if, w_and, w_or, w_not, w_chain, w_bof, w_btru, w_bnot, w_band, w_bor, w_btrue, w_iseq, w_ifun, w_comp, w_onone, w_osome, w_sl, w_lend, w_blend, w_seq, w_snil, w_set, w_own, w_ret, w_retn, w_retv, w_exp, w_sif, w_asg, w_sfor, w_brk, w_cont, w_par2, w_par3, w_app, w_def, lent, al_ok, al_stuck, va_add, va_addI, va_sub, va_neg, va_lt, va_le, va_gt, va_ge, va_eqS, va_neS, va_eqI, va_neI, va_ixL, va_ixT, va_lenL, va_lenT, va_max, va_min, va_abs, va_asB, va_truB, va_itL, va_itT, va_itS, va_tupL, va_tupT, va_inS, va_notInS, va_isN, va_some_bl, List.getElem?_cons_zero, List.getElem?_cons_succ, List.set_cons_zero, List.set_cons_succ, List.map_cons, List.map_nil, List.length_cons, List.length_nil, List.replicate, List.cons_append, List.nil_append, List.append_nil, Nat.reduceSub, Nat.reduceAdd, Nat.sub_self, Nat.zero_add, sizeLine_eq, Nat.reduceLeDiff, pick, List.filterMap_cons, List.filterMap_nil, Option.some.injEq, exists_eq_left', exists_eq_left, exists_const, true_and, and_true, Bool.not_true, Bool.not_false, if_true, if_false, reduceIte, Bool.false_eq_true, eq_self, D.int.injEq]
      refine given_wp rt r2 r1 z2 z1 fun ks T1 ok rt1 bt1 => ?_
      refine right_wp rt1 r2 r1 ok bt1 ?_
      rintro T2 ⟨J, rfl⟩
      refine ⟨_, rfl, ?_⟩
      simp only [Bool.not_true, Bool.false_eq_true, if_false]
      exact ⟨rt1.app, _, rfl⟩
    · rintro ρ T ⟨rt, x7, rfl⟩
      exact ⟨_, _, _, _, _, rfl⟩
  · rintro ρ S ⟨x1, x4, x5, x6, x7, rfl⟩
    have both : D.lst [.tup [.str "use", .str "steps", .int 2], .tup [.str "use", .str "mem", .int 3]] = .lst ([Rc.Row.use "steps" 2, Rc.Row.use "mem" 3].map Rc.Row.d) := rfl
    have bk : ∀ r ∈ [Rc.Row.use "steps" 2, Rc.Row.use "mem" 3], r.ok := by
      intro r hr
      simp only [List.mem_cons, List.not_mem_nil, or_false] at hr
      rcases hr with rfl | rfl
      · exact ⟨steps_name, by decide, by unfold big; decide⟩
      · exact ⟨⟨by decide +kernel, by decide +kernel, by decide +kernel⟩, by decide, by unfold big; decide⟩
    have ff : ∀ (T : Store) (d a : D) (us : List Rc.Row) (ks : Am) {Q : D → Store → Prop} {E : Exn → Store → Prop}, d = .lst (us.map Rc.Row.d) → a = .dct (kd ks) → (∀ r ∈ us, r.ok) → (ks.map (·.1)).Nodup → ks.length < 1000 → (∀ T', Q (ans (walk us ks 0)) T') → (f_first_failing [d, a] T).al Q E := fun T d a us ks Q E ed ea hu nd hl k =>
      al_mono (ff_al (S := T) (.inl ed) hu (by rw [ea]; rfl) nd hl) (fun z S' ⟨h1, J', h2⟩ => by rw [h1]; exact k _) fun _ _ h => h.elim
    have d1 : dDisp [.str "steps", .int 2] = some (.dct (kd [("steps", 2)])) := rfl
    have d2 : dDisp [.str "mem", .int 2, .str "steps", .int 3] = some (.dct (kd [("mem", 2), ("steps", 3)])) := by
      unfold dDisp
      simp only [keysD, keyD]
      rw [if_pos (by decide)]
      congr 1
    have d3 : dDisp [.str "mem", .int 0] = some (.dct (kd [("mem", 0)])) := rfl
    simp only [w_c, w_var, w_bin, w_un, w_nil, w_cons, w_fun, w_tup, w_lst, w_dct0, w_call, w_callP, w_if, w_and, w_or, w_not, w_chain, w_bof, w_btru, w_bnot, w_band, w_bor, w_btrue, w_iseq, w_ifun, w_comp, w_onone, w_osome, w_sl, w_lend, w_blend, w_seq, w_snil, w_set, w_own, w_ret, w_retn, w_retv, w_exp, w_sif, w_asg, w_sfor, w_brk, w_cont, w_par2, w_par3, w_app, w_def, lent, al_ok, al_stuck, va_add, va_addI, va_sub, va_neg, va_lt, va_le, va_gt, va_ge, va_eqS, va_neS, va_eqI, va_neI, va_ixL, va_ixT, va_lenL, va_lenT, va_max, va_min, va_abs, va_asB, va_truB, va_itL, va_itT, va_itS, va_tupL, va_tupT, va_inS, va_notInS, va_isN, va_some_bl, List.getElem?_cons_zero, List.getElem?_cons_succ, List.set_cons_zero, List.set_cons_succ, List.map_cons, List.map_nil, List.length_cons, List.length_nil, List.replicate, List.cons_append, List.nil_append, List.append_nil, Nat.reduceSub, Nat.reduceAdd, Nat.sub_self, Nat.zero_add, sizeLine_eq, Nat.reduceLeDiff, pick, List.filterMap_cons, List.filterMap_nil, Option.some.injEq, exists_eq_left', exists_eq_left, exists_const, true_and, and_true, Bool.not_true, Bool.not_false, if_true, if_false, reduceIte, Bool.false_eq_true, eq_self, D.int.injEq, w_dct, flatA, d1, d2, d3, both]
    refine ff _ _ _ [Rc.Row.use "steps" 2, Rc.Row.use "mem" 3] [("steps", 2)] rfl rfl bk (by simp) (by simp) fun T1 => ?_
    refine ff _ _ _ [Rc.Row.use "steps" 2, Rc.Row.use "mem" 3] [("mem", 2), ("steps", 3)] rfl rfl bk (by simp; decide +kernel) (by simp) fun T2 => ?_
    refine ff _ _ _ [] [("mem", 0)] rfl rfl nofun (by simp) (by simp) fun T3 => ?_
    refine ff _ _ _ [Rc.Row.use "steps" 2, Rc.Row.use "mem" 3] [] rfl rfl bk (by simp) (by simp) fun T4 => ?_
    have w1 : walk [Rc.Row.use "steps" 2, Rc.Row.use "mem" 3] [("steps", 2)] 0 = some (0, ("steps" : Str)) := by decide +kernel
    have w2 : walk [Rc.Row.use "steps" 2, Rc.Row.use "mem" 3] [("mem", 2), ("steps", 3)] 0 = some (1, ("steps" : Str)) := by decide +kernel
    have w3 : walk [] [("mem", 0)] 0 = none := rfl
    have w4 : walk [Rc.Row.use "steps" 2, Rc.Row.use "mem" 3] [] 0 = none := by decide +kernel
    rw [w1, w2, w3, w4]
    simp only [ans]
    have ad : ∀ T, dAdd T (.lst [.tup [.int ((0 : Nat) : Int), .str "steps"], .tup [.int ((1 : Nat) : Int), .str "steps"]]) (.lst [.non, .non]) = some (.lst [.tup [.int 0, .str "steps"], .tup [.int 1, .str "steps"], .non, .non]) := fun T => by
      rw [va_addL (by rw [sizeLine_eq]; decide)]; rfl
    have nk : noK (.lst [.tup [.int 0, .str "steps"], .tup [.int 1, .str "steps"], .non, .non]) := by
      have := steps_name.chars
      simp only [noK, noKs, and_true, true_and]
      exact ⟨this, this⟩
    simp only [w_c, w_var, w_bin, w_un, w_nil, w_cons, w_fun, w_tup, w_lst, w_dct0, w_call, w_callP, w_if, w_and, w_or, w_not, w_chain, w_bof, w_btru, w_bnot, w_band, w_bor, w_btrue, w_iseq, w_ifun, w_comp, w_onone, w_osome, w_sl, w_lend, w_blend, w_seq, w_snil, w_set, w_own, w_ret, w_retn, w_retv, w_exp, w_sif, w_asg, w_sfor, w_brk, w_cont, w_par2, w_par3, w_app, w_def, lent, al_ok, al_stuck, va_add, va_addI, va_sub, va_neg, va_lt, va_le, va_gt, va_ge, va_eqS, va_neS, va_eqI, va_neI, va_ixL, va_ixT, va_lenL, va_lenT, va_max, va_min, va_abs, va_asB, va_truB, va_itL, va_itT, va_itS, va_tupL, va_tupT, va_inS, va_notInS, va_isN, va_some_bl, List.getElem?_cons_zero, List.getElem?_cons_succ, List.set_cons_zero, List.set_cons_succ, List.map_cons, List.map_nil, List.length_cons, List.length_nil, List.replicate, List.cons_append, List.nil_append, List.append_nil, Nat.reduceSub, Nat.reduceAdd, Nat.sub_self, Nat.zero_add, sizeLine_eq, Nat.reduceLeDiff, pick, List.filterMap_cons, List.filterMap_nil, Option.some.injEq, exists_eq_left', exists_eq_left, exists_const, true_and, and_true, Bool.not_true, Bool.not_false, if_true, if_false, reduceIte, Bool.false_eq_true, eq_self, D.int.injEq, ad, dEq_refl nk (by simp [dpD, dpDs])]
theorem law_ok (ns : List Int) (hn : ns.length ≤ 63) (_ : ∀ z ∈ ns, PySem.Builtin.Int.intBits z ≤ 1048576) : ∃ S, f_law [.lst (intsD ns)] [] = .ok (.bl true) S := by
  have h := law_al ns hn
  cases e : f_law [.lst (intsD ns)] [] with
  | ok d S => rw [e] at h; exact ⟨S, by rw [show d = .bl true from h]⟩
  | exc _ _ => rw [e] at h; exact h.elim
  | stuck => rw [e] at h; exact h.elim
end K43

open PySem PySem.W PyProof.Rows L2 Mi in
set_option maxRecDepth 100000 in
set_option maxHeartbeats 0 in
theorem PySem.Challenge.cw_exactstop_k43_whole_first_failing_holds : PySem.Challenge.rw_exactstop_k43_whole_first_failing.Holds := by
  w_on; o_law; k_head; (case hw => w_witness2)
  k_fill
  refine Mi.walk_g (l := PySem.Challenge.rw_exactstop_k43_whole_first_failing) (k := 8) (n := 63) (x := "_law_script") (f := K43.f_law) rfl (by decide) rfl ⟨rfl, by decide, by decide⟩ (fun w h Y => PySem.W.kIn_of Y) K43.law_ok ?F
  case F =>
    intro w mg fa h KX G hmg
    refine' K43.all_mk KX G hmg ?a0 ?a1 ?a2 ?a3 ?a4 ?a5 ?a6 ?a7 ?a8 ?a9 ?a10 ?a11 ?a12 ?a13 ?a14 ?a15 ?a16 ?a17 ?a18 ?a19 ?a20 ?a21 ?a22 ?a23 ?l0 ?c0 ?k0 ?l1 ?c1 ?k1 ?l2 ?c2 ?k2 ?l3 ?c3 ?k3 ?l4 ?c4 ?k4 ?l5 ?c5 ?k5 ?l6 ?c6 ?k6 ?l7 ?c7 ?k7 ?l8 ?c8 ?k8 ?l9 ?c9 ?k9 ?l10 ?c10 ?k10 ?l11 ?c11 ?k11 ?l12 ?c12 ?k12 ?l13 ?c13 ?k13 ?l14 ?c14 ?k14 ?l15 ?c15 ?k15 ?l16 ?c16 ?k16 ?l17 ?c17 ?k17 ?l18 ?c18 ?k18 ?l19 ?c19 ?k19 ?l20 ?c20 ?k20 ?l21 ?c21 ?k21 ?l22 ?c22 ?k22 ?l23 ?c23 ?k23 ?z_abs ?z_all ?z_bool ?z_dict ?z_divmod ?z_enumerate ?z_int ?z_isinstance ?z_len ?z_list ?z_max ?z_min ?z_range ?z_repr ?z_str ?z_tuple ?z_zip ?q_BACK ?q_GIVE ?q_GREATEST_VALUE ?q_LETTERS ?q_MOST_LETTERS ?q_OUT ?q_STEP ?q_STEPS ?q_USE ?q_FORMS ?v_FORMS
    (case a0 => k_is)
    (case a1 => k_is)
    (case a2 => k_is)
    (case a3 => k_is)
    (case a4 => k_is)
    (case a5 => k_is)
    (case a6 => k_is)
    (case a7 => k_is)
    (case a8 => k_is)
    (case a9 => k_is)
    (case a10 => k_is)
    (case a11 => k_is)
    (case a12 => k_is)
    (case a13 => k_is)
    (case a14 => k_is)
    (case a15 => k_is)
    (case a16 => k_is)
    (case a17 => k_is)
    (case a18 => k_is)
    (case a19 => k_is)
    (case a20 => k_is)
    (case a21 => k_is)
    (case a22 => k_is)
    (case a23 => k_is)
    (case l0 => k_is)
    (case c0 => k_is)
    (case k0 => k_is)
    (case l1 => k_is)
    (case c1 => k_is)
    (case k1 => k_is)
    (case l2 => k_is)
    (case c2 => k_is)
    (case k2 => k_is)
    (case l3 => k_is)
    (case c3 => k_is)
    (case k3 => k_is)
    (case l4 => k_is)
    (case c4 => k_is)
    (case k4 => k_is)
    (case l5 => k_is)
    (case c5 => k_is)
    (case k5 => k_is)
    (case l6 => k_is)
    (case c6 => k_is)
    (case k6 => k_is)
    (case l7 => k_is)
    (case c7 => k_is)
    (case k7 => k_is)
    (case l8 => k_is)
    (case c8 => k_is)
    (case k8 => k_is)
    (case l9 => k_is)
    (case c9 => k_is)
    (case k9 => k_is)
    (case l10 => k_is)
    (case c10 => k_is)
    (case k10 => k_is)
    (case l11 => k_is)
    (case c11 => k_is)
    (case k11 => k_is)
    (case l12 => k_is)
    (case c12 => k_is)
    (case k12 => k_is)
    (case l13 => k_is)
    (case c13 => k_is)
    (case k13 => k_is)
    (case l14 => k_is)
    (case c14 => k_is)
    (case k14 => k_is)
    (case l15 => k_is)
    (case c15 => k_is)
    (case k15 => k_is)
    (case l16 => k_is)
    (case c16 => k_is)
    (case k16 => k_is)
    (case l17 => k_is)
    (case c17 => k_is)
    (case k17 => k_is)
    (case l18 => k_is)
    (case c18 => k_is)
    (case k18 => k_is)
    (case l19 => k_is)
    (case c19 => k_is)
    (case k19 => k_is)
    (case l20 => k_is)
    (case c20 => k_is)
    (case k20 => k_is)
    (case l21 => k_is)
    (case c21 => k_is)
    (case k21 => k_is)
    (case l22 => k_is)
    (case c22 => k_is)
    (case k22 => k_is)
    (case l23 => k_is)
    (case c23 => k_is)
    (case k23 => k_is)
    (case z_abs => k_is)
    (case z_all => k_is)
    (case z_bool => k_is)
    (case z_dict => k_is)
    (case z_divmod => k_is)
    (case z_enumerate => k_is)
    (case z_int => k_is)
    (case z_isinstance => k_is)
    (case z_len => k_is)
    (case z_list => k_is)
    (case z_max => k_is)
    (case z_min => k_is)
    (case z_range => k_is)
    (case z_repr => k_is)
    (case z_str => k_is)
    (case z_tuple => k_is)
    (case z_zip => k_is)
    (case q_BACK => k_is)
    (case q_GIVE => k_is)
    (case q_GREATEST_VALUE => k_is)
    (case q_LETTERS => k_is)
    (case q_MOST_LETTERS => k_is)
    (case q_OUT => k_is)
    (case q_STEP => k_is)
    (case q_STEPS => k_is)
    (case q_USE => k_is)
    (case q_FORMS => k_is)
    (case v_FORMS => refine' KTab.mk ⟨_, _, KDict.mk ?l ?k ?z, ?e⟩; (case l => k_is); (case k => k_keys); (case z => first | decide | rfl | k_is); (case e => repeat (first | exact EsTab.nil | refine' EsTab.cons rfl ⟨_, rfl⟩ ?_ | refine' EsTab.cons rfl rfl ?_)))

