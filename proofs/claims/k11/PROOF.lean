import PyProof.Rows.All
import Wide.All
import OpenK.AllK
import Wide.FinOn
import HandS.ForMost
import HandS.ForExc
import HandS.Flow
import HandS.IsInst
import HandS.TupAny
import PyProof.Rows.SeqMore
import HandS.Deep
import HandS.WordsDict
import PyProof.ReprRoads
import PyProof.CallFns
import HandS.EndBits
import PySem.Challenge.RW_exactstop_k11_names_and_values
set_option Elab.async false
set_option linter.all false
set_option maxRecDepth 100000
set_option maxHeartbeats 2000000
/-! Mi0: data as trees, the store, results; the pure side. -/
namespace Mi
open PySem L2


/-- a value as a tree; ref n: the n-th thing of the store -/
inductive D where
  | non | bl (b : Bool) | int (i : Int) | str (x : Str)
  | tup (xs : List D) | lst (xs : List D) | dct (kvs : List (Key × D))
  | ref (n : Nat) | ty (n : String) | fn (x : Str)
/-- a thing of the store: it may change -/
inductive SO where
  | lst (xs : List D) | dct (kvs : List (Key × D)) | ins (c : Str) (fs : List (Str × D))
abbrev Store := List SO
structure Exn where
  cls : Str
  fs : List (Str × D)
/-- a slot: not set, a value, a container that this slot alone holds -/
inductive Sl where
  | un | sh (d : D) | ow (d : D)
abbrev Rho := List Sl
inductive R (α : Type) where
  | ok (a : α) (S : Store) | exc (e : Exn) (S : Store) | stuck
abbrev EX := Rho → Store → R D
abbrev AX := Rho → Store → R (List D)
abbrev BX := Rho → Store → R Bool
inductive SR where
  | nx (ρ : Rho) (S : Store) | rt (d : D) (S : Store) | bk (ρ : Rho) (S : Store) | ct (ρ : Rho) (S : Store) | exc (e : Exn) (ρ : Rho) (S : Store) | stuck
abbrev SX := Rho → Store → SR
abbrev FX := List D → Store → R D
@[reducible] def R.bind {α β : Type} (r : R α) (f : α → Store → R β) : R β := match r with
  | .ok a S => f a S
  | .exc e S => .exc e S
  | .stuck => .stuck
end Mi

/-! Mi1: how trees stand in a heap. -/
namespace Mi
open PySem L2

/-- what is known of the module -/
structure Ct where
  K : PySem.W.Frag
  mg : Str → Option Value
  w : World

def KL (K : PySem.W.Frag) (a : Addr) (xs : List V) : Prop :=
  ∃ (o : Obj) (its : Array Value) (n : Nat), K.lookup a = some o ∧ o.cls = .type "list" ∧ o.dict = none ∧ o.data = .seq its n ∧ its.size ≤ sizeLine ∧ Vals xs its.toList
def KT (K : PySem.W.Frag) (a : Addr) (xs : List V) : Prop :=
  ∃ (o : Obj) (its : Array Value) (n : Nat), K.lookup a = some o ∧ o.cls = .type "tuple" ∧ o.data = .seq its n ∧ its.size ≤ sizeLine ∧ Vals xs its.toList

mutual
inductive RV (C : Ct) (H : Hp) (P : Addr → Prop) (β : List Addr) : V → D → Prop
  | non : RV C H P β .non .non
  | bl (b : Bool) : RV C H P β (.bl b) (.bl b)
  | int (i : Int) : RV C H P β (.int i) (.int i)
  | str (x : Str) : RV C H P β (.str x) (.str x)
  | ty (n : String) : RV C H P β (.ty n) (.ty n)
  | lst {a : Addr} {xs : List V} {ds : List D} : ¬ P a → a ∉ β → Rd H a (.lst xs) → RVs C H P β xs ds → RV C H P β (.ref a) (.lst ds)
  | tup {a : Addr} {xs : List V} {ds : List D} : Rd H a (.tup xs) → RVs C H P β xs ds → RV C H P β (.ref a) (.tup ds)
  | ktup {a : Addr} {xs : List V} {ds : List D} : KT C.K a xs → RVs C H P β xs ds → RV C H P β (.ref a) (.tup ds)
  | klst {a : Addr} {xs : List V} {ds : List D} : KL C.K a xs → RVs C H P β xs ds → RV C H P β (.ref a) (.lst ds)
  | dct {a : Addr} {xs : List (Key × V)} {ds : List (Key × D)} : ¬ P a → a ∉ β → Rd H a (.dK xs) → RKs C H P β xs ds → RV C H P β (.ref a) (.dct ds)
  | ref {n : Nat} {a : Addr} : β[n]? = some a → RV C H P β (.ref a) (.ref n)
  | fn {x : Str} {f : Addr} : C.mg x = some (.ref f) → PySem.W.keepIn C.K (.ref f) = true → RV C H P β (.ref f) (.fn x)
inductive RVs (C : Ct) (H : Hp) (P : Addr → Prop) (β : List Addr) : List V → List D → Prop
  | nil : RVs C H P β [] []
  | cons {v : V} {vs : List V} {d : D} {ds : List D} : RV C H P β v d → RVs C H P β vs ds → RVs C H P β (v :: vs) (d :: ds)
inductive RKs (C : Ct) (H : Hp) (P : Addr → Prop) (β : List Addr) : List (Key × V) → List (Key × D) → Prop
  | nil : RKs C H P β [] []
  | cons {k : Key} {v : V} {vs : List (Key × V)} {d : D} {ds : List (Key × D)} : RV C H P β v d → RKs C H P β vs ds → RKs C H P β ((k, v) :: vs) ((k, d) :: ds)
end

/-- what an expression may do to the heap and the store's places -/
structure Ext (H : Hp) (β : List Addr) (H' : Hp) (β' : List Addr) : Prop where
  pre : ∃ γ, β' = β ++ γ
  keep : ∀ a o, H a = some o → a ∉ β → H' a = some o
  fresh : ∀ a ∈ β', a ∈ β ∨ H a = none
  tups : ∀ a xs, Rd H a (.tup xs) → Rd H' a (.tup xs)
  stay : ∀ a, H a ≠ none → H' a ≠ none

theorem Ext.refl (H : Hp) (β : List Addr) : Ext H β H β := ⟨⟨[], (List.append_nil β).symm⟩, fun _ _ h _ => h, fun _ h => .inl h, fun _ _ h => h, fun _ h => h⟩
theorem Ext.mem {H H' : Hp} {β β' : List Addr} (e : Ext H β H' β') {a : Addr} (h : a ∈ β) : a ∈ β' := by
  obtain ⟨γ, r⟩ := e.pre
  rw [r]; exact List.mem_append_left _ h
theorem Ext.get {H H' : Hp} {β β' : List Addr} (e : Ext H β H' β') {n : Nat} {a : Addr} (h : β[n]? = some a) : β'[n]? = some a := by
  obtain ⟨γ, r⟩ := e.pre
  rw [r, List.getElem?_append_left (List.getElem?_eq_some_iff.mp h).1]; exact h
theorem Ext.out {H H' : Hp} {β β' : List Addr} (e : Ext H β H' β') {a : Addr} (h : a ∉ β) (hn : H a ≠ none) : a ∉ β' := fun m => (e.fresh a m).elim h hn
theorem Ext.trans {H H1 H2 : Hp} {β β1 β2 : List Addr} (a : Ext H β H1 β1) (b : Ext H1 β1 H2 β2) : Ext H β H2 β2 where
  pre := by
    obtain ⟨γ, r⟩ := a.pre
    obtain ⟨γ', r'⟩ := b.pre
    exact ⟨γ ++ γ', by rw [r', r, List.append_assoc]⟩
  keep := fun c o h hn => b.keep c o (a.keep c o h hn) (a.out hn (by rw [h]; exact Option.some_ne_none _))
  fresh := fun c h => by
    rcases b.fresh c h with q | q
    · exact a.fresh c q
    · by_cases m : c ∈ β
      · exact .inl m
      · right
        cases z : H c with
        | none => rfl
        | some o => rw [a.keep c o z m] at q; cases q
  tups := fun c xs h => b.tups c xs (a.tups c xs h)
  stay := fun c h => b.stay c (a.stay c h)
/-- a new thing laid -/
theorem Ext.laid {H : Hp} {β : List Addr} {p : Addr} {o : HO} (hp : H p = none) : Ext H β (upd H p o) β where
  pre := ⟨[], (List.append_nil β).symm⟩
  keep := fun a u h _ => by rw [upd_ne (ne_of_none h hp)]; exact h
  fresh := fun _ h => .inl h
  tups := fun a xs h => by
    rcases h with h | ⟨ob, h⟩
    · exact .inl (by rw [upd_ne (ne_of_none h hp)]; exact h)
    · exact .inr ⟨ob, by rw [upd_ne (ne_of_none h hp)]; exact h⟩
  stay := fun a h => by
    by_cases e : a = p
    · rw [e, upd_same]; exact Option.some_ne_none _
    · rw [upd_ne e]; exact h

theorem rd_some {H : Hp} {a : Addr} {u : HO} (h : Rd H a u) : H a ≠ none := by
  rcases h with h | ⟨o, h⟩ <;> (rw [h]; exact Option.some_ne_none _)
theorem Ext.rd {H H' : Hp} {β β' : List Addr} (e : Ext H β H' β') {a : Addr} {u : HO} (hn : a ∉ β) (h : Rd H a u) : Rd H' a u := by
  rcases h with h | ⟨o, h⟩
  · exact .inl (e.keep _ _ h hn)
  · exact .inr ⟨o, e.keep _ _ h hn⟩

section
variable {C : Ct} {H H' : Hp} {P P' : Addr → Prop} {β β' : List Addr}
mutual
theorem RV.mono (e : Ext H β H' β') : ∀ {v : V} {d : D}, RV C H P β v d → RV C H' P β' v d
  | _, _, .non => .non
  | _, _, .bl b => .bl b
  | _, _, .int i => .int i
  | _, _, .str x => .str x
  | _, _, .ty n => .ty n
  | _, _, .lst hp hb hr h => .lst hp (e.out hb (rd_some hr)) (e.rd hb hr) (RVs.mono e h)
  | _, _, .tup hr h => .tup (e.tups _ _ hr) (RVs.mono e h)
  | _, _, .ktup k h => .ktup k (RVs.mono e h)
  | _, _, .klst k h => .klst k (RVs.mono e h)
  | _, _, .dct hp hb hr h => .dct hp (e.out hb (rd_some hr)) (e.rd hb hr) (RKs.mono e h)
  | _, _, .ref h => .ref (e.get h)
  | _, _, .fn h k => .fn h k
theorem RVs.mono (e : Ext H β H' β') : ∀ {vs : List V} {ds : List D}, RVs C H P β vs ds → RVs C H' P β' vs ds
  | _, _, .nil => .nil
  | _, _, .cons h t => .cons (RV.mono e h) (RVs.mono e t)
theorem RKs.mono (e : Ext H β H' β') : ∀ {vs : List (Key × V)} {ds : List (Key × D)}, RKs C H P β vs ds → RKs C H' P β' vs ds
  | _, _, .nil => .nil
  | _, _, .cons h t => .cons (RV.mono e h) (RKs.mono e t)
end
-- fewer places kept apart
mutual
theorem RV.less (e : ∀ a, P' a → P a) : ∀ {v : V} {d : D}, RV C H P β v d → RV C H P' β v d
  | _, _, .non => .non
  | _, _, .bl b => .bl b
  | _, _, .int i => .int i
  | _, _, .str x => .str x
  | _, _, .ty n => .ty n
  | _, _, .lst hp hb hr h => .lst (fun z => hp (e _ z)) hb hr (RVs.less e h)
  | _, _, .tup hr h => .tup hr (RVs.less e h)
  | _, _, .ktup k h => .ktup k (RVs.less e h)
  | _, _, .klst k h => .klst k (RVs.less e h)
  | _, _, .dct hp hb hr h => .dct (fun z => hp (e _ z)) hb hr (RKs.less e h)
  | _, _, .ref h => .ref h
  | _, _, .fn h k => .fn h k
theorem RVs.less (e : ∀ a, P' a → P a) : ∀ {vs : List V} {ds : List D}, RVs C H P β vs ds → RVs C H P' β vs ds
  | _, _, .nil => .nil
  | _, _, .cons h t => .cons (RV.less e h) (RVs.less e t)
theorem RKs.less (e : ∀ a, P' a → P a) : ∀ {vs : List (Key × V)} {ds : List (Key × D)}, RKs C H P β vs ds → RKs C H P' β vs ds
  | _, _, .nil => .nil
  | _, _, .cons h t => .cons (RV.less e h) (RKs.less e t)
end
-- a place that was free may be kept apart as well
mutual
theorem RV.more {p : Addr} (hp : H p = none) : ∀ {v : V} {d : D}, RV C H P β v d → RV C H (fun a => P a ∨ a = p) β v d
  | _, _, .non => .non
  | _, _, .bl b => .bl b
  | _, _, .int i => .int i
  | _, _, .str x => .str x
  | _, _, .ty n => .ty n
  | _, _, .lst h1 hb hr h => .lst (fun z => z.elim h1 fun e => (rd_some hr) (by rw [e]; exact hp)) hb hr (RVs.more hp h)
  | _, _, .tup hr h => .tup hr (RVs.more hp h)
  | _, _, .ktup k h => .ktup k (RVs.more hp h)
  | _, _, .klst k h => .klst k (RVs.more hp h)
  | _, _, .dct h1 hb hr h => .dct (fun z => z.elim h1 fun e => (rd_some hr) (by rw [e]; exact hp)) hb hr (RKs.more hp h)
  | _, _, .ref h => .ref h
  | _, _, .fn h k => .fn h k
theorem RVs.more {p : Addr} (hp : H p = none) : ∀ {vs : List V} {ds : List D}, RVs C H P β vs ds → RVs C H (fun a => P a ∨ a = p) β vs ds
  | _, _, .nil => .nil
  | _, _, .cons h t => .cons (RV.more hp h) (RVs.more hp t)
theorem RKs.more {p : Addr} (hp : H p = none) : ∀ {vs : List (Key × V)} {ds : List (Key × D)}, RKs C H P β vs ds → RKs C H (fun a => P a ∨ a = p) β vs ds
  | _, _, .nil => .nil
  | _, _, .cons h t => .cons (RV.more hp h) (RKs.more hp t)
end
-- a thing that is kept apart, or of the store, has changed
mutual
theorem RV.set {p : Addr} {o : HO} (hp : P p ∨ p ∈ β) (ht : ∀ xs, ¬ Rd H p (.tup xs)) : ∀ {v : V} {d : D}, RV C H P β v d → RV C (upd H p o) P β v d
  | _, _, .non => .non
  | _, _, .bl b => .bl b
  | _, _, .int i => .int i
  | _, _, .str x => .str x
  | _, _, .ty n => .ty n
  | .ref a, _, .lst (xs := xs) h1 hb hr h => by
    have ne : a ≠ p := fun e => hp.elim (fun z => h1 (e ▸ z)) (fun z => hb (e ▸ z))
    exact .lst h1 hb (by unfold Rd; rw [upd_ne ne]; exact hr) (RVs.set hp ht h)
  | .ref a, _, .tup (xs := xs) hr h => by
    have ne : a ≠ p := fun e => ht xs (e ▸ hr)
    exact .tup (by unfold Rd; rw [upd_ne ne]; exact hr) (RVs.set hp ht h)
  | _, _, .ktup k h => .ktup k (RVs.set hp ht h)
  | _, _, .klst k h => .klst k (RVs.set hp ht h)
  | .ref a, _, .dct (xs := xs) h1 hb hr h => by
    have ne : a ≠ p := fun e => hp.elim (fun z => h1 (e ▸ z)) (fun z => hb (e ▸ z))
    exact .dct h1 hb (by unfold Rd; rw [upd_ne ne]; exact hr) (RKs.set hp ht h)
  | _, _, .ref h => .ref h
  | _, _, .fn h k => .fn h k
theorem RVs.set {p : Addr} {o : HO} (hp : P p ∨ p ∈ β) (ht : ∀ xs, ¬ Rd H p (.tup xs)) : ∀ {vs : List V} {ds : List D}, RVs C H P β vs ds → RVs C (upd H p o) P β vs ds
  | _, _, .nil => .nil
  | _, _, .cons h t => .cons (RV.set hp ht h) (RVs.set hp ht t)
theorem RKs.set {p : Addr} {o : HO} (hp : P p ∨ p ∈ β) (ht : ∀ xs, ¬ Rd H p (.tup xs)) : ∀ {vs : List (Key × V)} {ds : List (Key × D)}, RKs C H P β vs ds → RKs C (upd H p o) P β vs ds
  | _, _, .nil => .nil
  | _, _, .cons h t => .cons (RV.set hp ht h) (RKs.set hp ht t)
end
-- a new thing of the store
mutual
theorem RV.box {p : Addr} (hp : ¬ P p → H p = none ∨ P p) (hn : ∀ u, ¬ Rd H p u) : ∀ {v : V} {d : D}, RV C H P β v d → RV C H P (β ++ [p]) v d
  | _, _, .non => .non
  | _, _, .bl b => .bl b
  | _, _, .int i => .int i
  | _, _, .str x => .str x
  | _, _, .ty n => .ty n
  | _, _, .lst h1 hb hr h => .lst h1 (fun z => (List.mem_append.mp z).elim hb fun e => hn _ (by rw [← List.mem_singleton.mp e]; exact hr)) hr (RVs.box hp hn h)
  | _, _, .tup hr h => .tup hr (RVs.box hp hn h)
  | _, _, .ktup k h => .ktup k (RVs.box hp hn h)
  | _, _, .klst k h => .klst k (RVs.box hp hn h)
  | _, _, .dct h1 hb hr h => .dct h1 (fun z => (List.mem_append.mp z).elim hb fun e => hn _ (by rw [← List.mem_singleton.mp e]; exact hr)) hr (RKs.box hp hn h)
  | _, _, .ref (n := n) (a := a) h => .ref (by rw [List.getElem?_append_left (List.getElem?_eq_some_iff.mp h).1]; exact h)
  | _, _, .fn h k => .fn h k
theorem RVs.box {p : Addr} (hp : ¬ P p → H p = none ∨ P p) (hn : ∀ u, ¬ Rd H p u) : ∀ {vs : List V} {ds : List D}, RVs C H P β vs ds → RVs C H P (β ++ [p]) vs ds
  | _, _, .nil => .nil
  | _, _, .cons h t => .cons (RV.box hp hn h) (RVs.box hp hn t)
theorem RKs.box {p : Addr} (hp : ¬ P p → H p = none ∨ P p) (hn : ∀ u, ¬ Rd H p u) : ∀ {vs : List (Key × V)} {ds : List (Key × D)}, RKs C H P β vs ds → RKs C H P (β ++ [p]) vs ds
  | _, _, .nil => .nil
  | _, _, .cons h t => .cons (RV.box hp hn h) (RKs.box hp hn t)
end
end

section
variable {C : Ct} {H : Hp} {P : Addr → Prop} {β : List Addr}
theorem RVs.length : ∀ {vs : List V} {ds : List D}, RVs C H P β vs ds → vs.length = ds.length
  | _, _, .nil => rfl
  | _, _, .cons _ t => by simp [RVs.length t]
theorem RVs.get : ∀ {vs : List V} {ds : List D} {i : Nat} {d : D}, RVs C H P β vs ds → ds[i]? = some d → ∃ v, vs[i]? = some v ∧ RV C H P β v d
  | _, _, 0, _, .cons h _, e => by simp at e; subst e; exact ⟨_, rfl, h⟩
  | _, _, i + 1, _, .cons _ t, e => by
    obtain ⟨v, h1, h2⟩ := RVs.get (i := i) t (by simpa using e)
    exact ⟨v, by simpa using h1, h2⟩
  | _, _, _, _, .nil, e => by simp at e
theorem RVs.of : ∀ {vs : List V} {ds : List D} {i : Nat} {v : V}, RVs C H P β vs ds → vs[i]? = some v → ∃ d, ds[i]? = some d ∧ RV C H P β v d
  | _, _, 0, _, .cons h _, e => by simp at e; subst e; exact ⟨_, rfl, h⟩
  | _, _, i + 1, _, .cons _ t, e => by
    obtain ⟨v, h1, h2⟩ := RVs.of (i := i) t (by simpa using e)
    exact ⟨v, by simpa using h1, h2⟩
  | _, _, _, _, .nil, e => by simp at e
theorem RVs.append : ∀ {vs us : List V} {ds es : List D}, RVs C H P β vs ds → RVs C H P β us es → RVs C H P β (vs ++ us) (ds ++ es)
  | _, _, _, _, .nil, s => s
  | _, _, _, _, .cons r t, s => .cons r (RVs.append t s)
theorem RVs.set' : ∀ {vs : List V} {ds : List D} {v : V} {d : D} (i : Nat), RVs C H P β vs ds → RV C H P β v d → RVs C H P β (vs.set i v) (ds.set i d)
  | _, _, _, _, _, .nil, _ => .nil
  | _, _, _, _, 0, .cons _ t, r => .cons r t
  | _, _, _, _, i + 1, .cons h t, r => .cons h (RVs.set' i t r)
theorem RVs.take : ∀ {vs : List V} {ds : List D} (n : Nat), RVs C H P β vs ds → RVs C H P β (vs.take n) (ds.take n)
  | _, _, 0, _ => .nil
  | _, _, _ + 1, .nil => .nil
  | _, _, n + 1, .cons r t => .cons r (RVs.take n t)
theorem RVs.drop : ∀ {vs : List V} {ds : List D} (n : Nat), RVs C H P β vs ds → RVs C H P β (vs.drop n) (ds.drop n)
  | _, _, 0, r => r
  | _, _, _ + 1, .nil => .nil
  | _, _, n + 1, .cons _ t => RVs.drop n t
theorem RVs.reverse : ∀ {vs : List V} {ds : List D}, RVs C H P β vs ds → RVs C H P β vs.reverse ds.reverse
  | _, _, .nil => .nil
  | _, _, .cons r t => by
    rw [List.reverse_cons, List.reverse_cons]
    exact RVs.append (RVs.reverse t) (.cons r .nil)
theorem RKs.keys : ∀ {vs : List (Key × V)} {ds : List (Key × D)}, RKs C H P β vs ds → vs.map (·.1) = ds.map (·.1)
  | _, _, .nil => rfl
  | _, _, .cons _ t => by simp [RKs.keys t]
theorem RKs.length {vs : List (Key × V)} {ds : List (Key × D)} (h : RKs C H P β vs ds) : vs.length = ds.length := by
  have := congrArg List.length h.keys
  simpa using this
end
section
variable {C : Ct} {H : Hp} {P : Addr → Prop} {β : List Addr}
-- a place kept apart becomes one of the store
mutual
theorem RV.toBox {p : Addr} : ∀ {v : V} {d : D}, RV C H (fun b => P b ∨ b = p) β v d → RV C H P (β ++ [p]) v d
  | _, _, .non => .non
  | _, _, .bl b => .bl b
  | _, _, .int i => .int i
  | _, _, .str x => .str x
  | _, _, .ty n => .ty n
  | _, _, .lst h1 hb hr h => .lst (fun z => h1 (.inl z)) (fun z => (List.mem_append.mp z).elim hb fun e => h1 (.inr (List.mem_singleton.mp e))) hr (RVs.toBox h)
  | _, _, .tup hr h => .tup hr (RVs.toBox h)
  | _, _, .ktup k h => .ktup k (RVs.toBox h)
  | _, _, .klst k h => .klst k (RVs.toBox h)
  | _, _, .dct h1 hb hr h => .dct (fun z => h1 (.inl z)) (fun z => (List.mem_append.mp z).elim hb fun e => h1 (.inr (List.mem_singleton.mp e))) hr (RKs.toBox h)
  | _, _, .ref (n := n) (a := a) h => .ref (by rw [List.getElem?_append_left (List.getElem?_eq_some_iff.mp h).1]; exact h)
  | _, _, .fn h k => .fn h k
theorem RVs.toBox {p : Addr} : ∀ {vs : List V} {ds : List D}, RVs C H (fun b => P b ∨ b = p) β vs ds → RVs C H P (β ++ [p]) vs ds
  | _, _, .nil => .nil
  | _, _, .cons h t => .cons (RV.toBox h) (RVs.toBox t)
theorem RKs.toBox {p : Addr} : ∀ {vs : List (Key × V)} {ds : List (Key × D)}, RKs C H (fun b => P b ∨ b = p) β vs ds → RKs C H P (β ++ [p]) vs ds
  | _, _, .nil => .nil
  | _, _, .cons h t => .cons (RV.toBox h) (RKs.toBox t)
end
end
end Mi

/-! Mi2: the local state, the readings of expressions and statements. -/
namespace Mi
open PySem L2

/-- a def's entry: the heap, the store's places, what its callers keep apart; the containers that its loops have locked -/
structure Cf where
  H0 : Hp
  β0 : List Addr
  P0 : Addr → Prop
  lk : List Addr

structure ExtL (cf : Cf) (H : Hp) (β : List Addr) : Prop where
  pre : ∃ γ, β = cf.β0 ++ γ
  keep : ∀ a o, cf.H0 a = some o → a ∉ cf.β0 → H a = some o ∨ (a ∈ cf.lk ∧ ∃ ob, H a = some (.frz ob o))
  fresh : ∀ a ∈ β, a ∈ cf.β0 ∨ cf.H0 a = none
  tups : ∀ a xs, Rd cf.H0 a (.tup xs) → Rd H a (.tup xs)
  stay : ∀ a, cf.H0 a ≠ none → H a ≠ none

def RFs (C : Ct) (H : Hp) (P : Addr → Prop) (β : List Addr) (vs : List (Str × V)) (fs : List (Str × D)) : Prop :=
  vs.map (·.1) = fs.map (·.1) ∧ RVs C H P β (vs.map (·.2)) (fs.map (·.2))

def SOK (C : Ct) (H : Hp) (P : Addr → Prop) (β : List Addr) (a : Addr) : SO → Prop
  | .lst ds => ∃ xs, H a = some (.lst xs) ∧ RVs C H P β xs ds
  | .dct ds => ∃ xs, H a = some (.dK xs) ∧ RKs C H P β xs ds
  | .ins c fs => ∃ Ca dx vs, C.mg c = some (.ref Ca) ∧ H a = some (.ins Ca dx vs) ∧ RFs C H P β vs fs
structure SRel (C : Ct) (H : Hp) (P : Addr → Prop) (β : List Addr) (S : Store) : Prop where
  len : β.length = S.length
  nd : β.Nodup
  ok : ∀ (n : Nat) (a : Addr) (so : SO), β[n]? = some a → S[n]? = some so → SOK C H P β a so
/-- a container that one slot alone holds -/
def OwnAt (C : Ct) (H : Hp) (P : Addr → Prop) (β : List Addr) (a : Addr) : D → Prop
  | .lst ds => ∃ xs, H a = some (.lst xs) ∧ RVs C H P β xs ds
  | .dct ds => ∃ xs, H a = some (.dK xs) ∧ RKs C H P β xs ds
  | _ => False

structure LR (C : Ct) (cf : Cf) (oa : Nat → Option Addr) (P : Addr → Prop) (σ : St) (H : Hp) (β : List Addr) (ρ : Rho) (S : Store) : Prop where
  len : σ.length = ρ.length
  p : ∀ a, P a → H a ≠ none ∧ a ∉ β
  sub : ∀ a, cf.P0 a → P a
  p0 : ∀ a, cf.P0 a → cf.H0 a ≠ none
  ext : ExtL cf H β
  own : ∀ i a, oa i = some a → P a ∧ cf.H0 a = none
  inj : ∀ i j a, oa i = some a → oa j = some a → i = j
  st : SRel C H P β S
  slot : ∀ (i : Nat) (d : D), ρ[i]? = some (Sl.sh d) → ∃ v, σ[i]? = some (some v) ∧ RV C H P β v d
  oslot : ∀ (i : Nat) (d : D), ρ[i]? = some (Sl.ow d) → ∃ a, oa i = some a ∧ σ[i]? = some (some (.ref a)) ∧ OwnAt C H P β a d

section
variable {C : Ct} {cf : Cf} {oa : Nat → Option Addr} {P P' : Addr → Prop} {σ : St} {H H' : Hp} {β β' : List Addr} {ρ : Rho} {S S' : Store}
theorem ExtL.step (x : ExtL cf H β) (e : Ext H β H' β') : ExtL cf H' β' where
  pre := by
    obtain ⟨γ, r⟩ := x.pre
    obtain ⟨γ', r'⟩ := e.pre
    exact ⟨γ ++ γ', by rw [r', r, List.append_assoc]⟩
  keep := fun a o h hn => by
    have nb : a ∉ β := fun m => (x.fresh a m).elim hn fun z => by rw [h] at z; cases z
    rcases x.keep a o h hn with q | ⟨m, ob, q⟩
    · exact .inl (e.keep _ _ q nb)
    · exact .inr ⟨m, ob, e.keep _ _ q nb⟩
  fresh := fun a h => by
    rcases e.fresh a h with q | q
    · exact x.fresh a q
    · right
      cases z : cf.H0 a with
      | none => rfl
      | some o => exact absurd q (x.stay a (by rw [z]; exact Option.some_ne_none _))
  tups := fun a xs h => e.tups a xs (x.tups a xs h)
  stay := fun a h => e.stay a (x.stay a h)
theorem ExtL.done (x : ExtL cf H β) (hl : cf.lk = []) : Ext cf.H0 cf.β0 H β :=
  ⟨x.pre, fun a o h hn => (x.keep a o h hn).elim id fun z => by rw [hl] at z; exact absurd z.1 (by simp), x.fresh, x.tups, x.stay⟩
theorem SOK.notnone {a : Addr} {so : SO} (h : SOK C H P β a so) : H a ≠ none := by
  cases so with
  | lst ds => obtain ⟨xs, e, _⟩ := h; rw [e]; exact Option.some_ne_none _
  | dct ds => obtain ⟨xs, e, _⟩ := h; rw [e]; exact Option.some_ne_none _
  | ins c fs => obtain ⟨Ca, dx, vs, _, e, _⟩ := h; rw [e]; exact Option.some_ne_none _
theorem SOK.notup {a : Addr} {so : SO} (h : SOK C H P β a so) : ∀ xs, ¬ Rd H a (.tup xs) := by
  intro xs r
  cases so with
  | lst ds => obtain ⟨xs, e, _⟩ := h; rcases r with r | ⟨o, r⟩ <;> (rw [e] at r; cases r)
  | dct ds => obtain ⟨xs, e, _⟩ := h; rcases r with r | ⟨o, r⟩ <;> (rw [e] at r; cases r)
  | ins c fs => obtain ⟨Ca, dx, vs, _, e, _⟩ := h; rcases r with r | ⟨o, r⟩ <;> (rw [e] at r; cases r)
theorem OwnAt.notnone {a : Addr} {d : D} (h : OwnAt C H P β a d) : H a ≠ none := by
  cases d <;> first | exact h.elim | (obtain ⟨xs, e, _⟩ := h; rw [e]; exact Option.some_ne_none _)
theorem OwnAt.notup {a : Addr} {d : D} (h : OwnAt C H P β a d) : ∀ xs, ¬ Rd H a (.tup xs) := by
  intro xs r
  cases d <;> first | exact h.elim | (obtain ⟨xs, e, _⟩ := h; rcases r with r | ⟨o, r⟩ <;> (rw [e] at r; cases r))
theorem OwnAt.mono {a : Addr} {d : D} (h : OwnAt C H P β a d) (e : Ext H β H' β') (hn : a ∉ β) : OwnAt C H' P β' a d := by
  cases d <;> first | exact h.elim | skip
  · obtain ⟨xs, q, r⟩ := h; exact ⟨xs, e.keep _ _ q hn, r.mono e⟩
  · obtain ⟨xs, q, r⟩ := h; exact ⟨xs, e.keep _ _ q hn, r.mono e⟩
theorem OwnAt.less {a : Addr} {d : D} (h : OwnAt C H P β a d) (e : ∀ a, P' a → P a) : OwnAt C H P' β a d := by
  cases d <;> first | exact h.elim | skip
  · obtain ⟨xs, q, r⟩ := h; exact ⟨xs, q, r.less e⟩
  · obtain ⟨xs, q, r⟩ := h; exact ⟨xs, q, r.less e⟩
theorem OwnAt.more {a p : Addr} {d : D} (h : OwnAt C H P β a d) (hp : H p = none) : OwnAt C H (fun b => P b ∨ b = p) β a d := by
  cases d <;> first | exact h.elim | skip
  · obtain ⟨xs, q, r⟩ := h; exact ⟨xs, q, r.more hp⟩
  · obtain ⟨xs, q, r⟩ := h; exact ⟨xs, q, r.more hp⟩
theorem OwnAt.set {a p : Addr} {o : HO} {d : D} (h : OwnAt C H P β a d) (hp : P p ∨ p ∈ β) (ht : ∀ xs, ¬ Rd H p (.tup xs)) (ne : a ≠ p) : OwnAt C (upd H p o) P β a d := by
  cases d <;> first | exact h.elim | skip
  · obtain ⟨xs, q, r⟩ := h; exact ⟨xs, by rw [upd_ne ne]; exact q, r.set hp ht⟩
  · obtain ⟨xs, q, r⟩ := h; exact ⟨xs, by rw [upd_ne ne]; exact q, r.set hp ht⟩
theorem SOK.less {a : Addr} {so : SO} (h : SOK C H P β a so) (e : ∀ a, P' a → P a) : SOK C H P' β a so := by
  cases so with
  | lst ds => obtain ⟨xs, q, r⟩ := h; exact ⟨xs, q, r.less e⟩
  | dct ds => obtain ⟨xs, q, r⟩ := h; exact ⟨xs, q, r.less e⟩
  | ins c fs => obtain ⟨Ca, dx, vs, m, q, n, r⟩ := h; exact ⟨Ca, dx, vs, m, q, n, r.less e⟩
theorem SOK.more {a p : Addr} {so : SO} (h : SOK C H P β a so) (hp : H p = none) : SOK C H (fun b => P b ∨ b = p) β a so := by
  cases so with
  | lst ds => obtain ⟨xs, q, r⟩ := h; exact ⟨xs, q, r.more hp⟩
  | dct ds => obtain ⟨xs, q, r⟩ := h; exact ⟨xs, q, r.more hp⟩
  | ins c fs => obtain ⟨Ca, dx, vs, m, q, n, r⟩ := h; exact ⟨Ca, dx, vs, m, q, n, r.more hp⟩
theorem SOK.laid {a p : Addr} {o : HO} {so : SO} (h : SOK C H P β a so) (hp : H p = none) : SOK C (upd H p o) P β a so := by
  have ne : a ≠ p := fun e => h.notnone (by rw [e]; exact hp)
  have x : Ext H β (upd H p o) β := Ext.laid hp
  cases so with
  | lst ds => obtain ⟨xs, q, r⟩ := h; exact ⟨xs, by rw [upd_ne ne]; exact q, r.mono x⟩
  | dct ds => obtain ⟨xs, q, r⟩ := h; exact ⟨xs, by rw [upd_ne ne]; exact q, r.mono x⟩
  | ins c fs => obtain ⟨Ca, dx, vs, m, q, n, r⟩ := h; exact ⟨Ca, dx, vs, m, by rw [upd_ne ne]; exact q, n, r.mono x⟩
theorem SOK.set {a p : Addr} {o : HO} {so : SO} (h : SOK C H P β a so) (hp : P p ∨ p ∈ β) (ht : ∀ xs, ¬ Rd H p (.tup xs)) (ne : a ≠ p) : SOK C (upd H p o) P β a so := by
  cases so with
  | lst ds => obtain ⟨xs, q, r⟩ := h; exact ⟨xs, by rw [upd_ne ne]; exact q, r.set hp ht⟩
  | dct ds => obtain ⟨xs, q, r⟩ := h; exact ⟨xs, by rw [upd_ne ne]; exact q, r.set hp ht⟩
  | ins c fs => obtain ⟨Ca, dx, vs, m, q, n, r⟩ := h; exact ⟨Ca, dx, vs, m, by rw [upd_ne ne]; exact q, n, r.set hp ht⟩
theorem SOK.box {a p : Addr} {so : SO} (h : SOK C H P β a so) (hp : ¬ P p → H p = none ∨ P p) (hn : ∀ u, ¬ Rd H p u) : SOK C H P (β ++ [p]) a so := by
  cases so with
  | lst ds => obtain ⟨xs, q, r⟩ := h; exact ⟨xs, q, r.box hp hn⟩
  | dct ds => obtain ⟨xs, q, r⟩ := h; exact ⟨xs, q, r.box hp hn⟩
  | ins c fs => obtain ⟨Ca, dx, vs, m, q, n, r⟩ := h; exact ⟨Ca, dx, vs, m, q, n, r.box hp hn⟩
theorem SRel.less (h : SRel C H P β S) (e : ∀ a, P' a → P a) : SRel C H P' β S := ⟨h.len, h.nd, fun n a so h1 h2 => (h.ok n a so h1 h2).less e⟩
theorem SRel.more {p : Addr} (h : SRel C H P β S) (hp : H p = none) : SRel C H (fun b => P b ∨ b = p) β S := ⟨h.len, h.nd, fun n a so h1 h2 => (h.ok n a so h1 h2).more hp⟩
theorem SRel.laid {p : Addr} {o : HO} (h : SRel C H P β S) (hp : H p = none) : SRel C (upd H p o) P β S := ⟨h.len, h.nd, fun n a so h1 h2 => (h.ok n a so h1 h2).laid hp⟩
theorem SRel.at (h : SRel C H P β S) {n : Nat} {so : SO} (e : S[n]? = some so) : ∃ a, β[n]? = some a ∧ SOK C H P β a so := by
  have hl : n < β.length := by rw [h.len]; exact (List.getElem?_eq_some_iff.mp e).1
  exact ⟨β[n], List.getElem?_eq_getElem hl, h.ok n _ so (List.getElem?_eq_getElem hl) e⟩
theorem SRel.of (h : SRel C H P β S) {n : Nat} {a : Addr} (e : β[n]? = some a) : ∃ so, S[n]? = some so ∧ SOK C H P β a so := by
  have hl : n < S.length := by rw [← h.len]; exact (List.getElem?_eq_some_iff.mp e).1
  exact ⟨S[n], List.getElem?_eq_getElem hl, h.ok n _ _ e (List.getElem?_eq_getElem hl)⟩
theorem SRel.mem (h : SRel C H P β S) {a : Addr} (m : a ∈ β) : H a ≠ none := by
  obtain ⟨n, hn⟩ := List.getElem?_of_mem m
  obtain ⟨so, _, q⟩ := h.of hn
  exact q.notnone
theorem SRel.notup (h : SRel C H P β S) {a : Addr} (m : a ∈ β) : ∀ xs, ¬ Rd H a (.tup xs) := by
  obtain ⟨n, hn⟩ := List.getElem?_of_mem m
  obtain ⟨so, _, q⟩ := h.of hn
  exact q.notup
theorem nd_inj {l : List Addr} (h : l.Nodup) {i j : Nat} {a : Addr} (h1 : l[i]? = some a) (h2 : l[j]? = some a) : i = j := by
  obtain ⟨h1, e1⟩ := List.getElem?_eq_some_iff.mp h1
  obtain ⟨h2, e2⟩ := List.getElem?_eq_some_iff.mp h2
  exact (List.getElem_inj h).mp (e1.trans e2.symm)
/-- a thing of the store is changed -/
theorem SRel.set {n : Nat} {a : Addr} {o : HO} {so : SO} (h : SRel C H P β S) (e : β[n]? = some a) (new : SOK C (upd H a o) P β a so) : SRel C (upd H a o) P β (S.set n so) := by
  have m : a ∈ β := List.mem_of_getElem? e
  refine ⟨by rw [List.length_set]; exact h.len, h.nd, fun k b sb h1 h2 => ?_⟩
  by_cases hk : n = k
  · subst hk
    rw [e] at h1; cases h1
    rw [List.getElem?_set_self (by rw [← h.len]; exact (List.getElem?_eq_some_iff.mp e).1)] at h2
    cases h2
    exact new
  · rw [List.getElem?_set_ne hk] at h2
    exact (h.ok k b sb h1 h2).set (.inr m) (h.notup m) fun z => hk (nd_inj h.nd e (z ▸ h1))
/-- a container that is kept apart is changed -/
theorem SRel.own {p : Addr} {o : HO} (h : SRel C H P β S) (hp : P p) (hn : p ∉ β) (ht : ∀ xs, ¬ Rd H p (.tup xs)) : SRel C (upd H p o) P β S :=
  ⟨h.len, h.nd, fun n a so h1 h2 => (h.ok n a so h1 h2).set (.inl hp) ht fun z => hn (z ▸ List.mem_of_getElem? h1)⟩
/-- a new thing of the store -/
theorem SRel.box {p : Addr} {o : HO} {so : SO} (h : SRel C H P β S) (hp : H p = none) (hpP : ¬ P p) (new : SOK C (upd H p o) P (β ++ [p]) p so) : SRel C (upd H p o) P (β ++ [p]) (S ++ [so]) := by
  have nb : p ∉ β := fun m => h.mem m hp
  refine ⟨by simp [h.len], ?_, fun n a sb h1 h2 => ?_⟩
  · rw [List.nodup_append]
    exact ⟨h.nd, by simp, fun x hx y hy => by rw [List.mem_singleton.mp hy]; exact fun z => nb (z ▸ hx)⟩
  · by_cases hn : n < β.length
    · rw [List.getElem?_append_left hn] at h1
      rw [List.getElem?_append_left (by rw [← h.len]; exact hn)] at h2
      have q := h.ok n a sb h1 h2
      have ne : a ≠ p := fun e => q.notnone (by rw [e]; exact hp)
      have rn : ∀ u, ¬ Rd H p u := fun u r => rd_some r hp
      have q2 := q.box (p := p) (fun _ => .inl hp) rn
      have x : Ext H (β ++ [p]) (upd H p o) (β ++ [p]) := Ext.laid hp
      cases sb with
      | lst ds => obtain ⟨xs, q, r⟩ := q2; exact ⟨xs, by rw [upd_ne ne]; exact q, r.mono x⟩
      | dct ds => obtain ⟨xs, q, r⟩ := q2; exact ⟨xs, by rw [upd_ne ne]; exact q, r.mono x⟩
      | ins c fs => obtain ⟨Ca, dx, vs, m, q, n, r⟩ := q2; exact ⟨Ca, dx, vs, m, by rw [upd_ne ne]; exact q, n, r.mono x⟩
    · have hl : n = β.length := by
        have := (List.getElem?_eq_some_iff.mp h1).1
        simp at this; omega
      subst hl
      rw [List.getElem?_append_right (Nat.le_refl _)] at h1
      rw [h.len, List.getElem?_append_right (Nat.le_refl _)] at h2
      simp at h1 h2
      subst h1; subst h2
      exact new

theorem Ext.boxed {p : Addr} {o : HO} (hp : H p = none) : Ext H β (upd H p o) (β ++ [p]) where
  pre := ⟨[p], rfl⟩
  keep := fun a u h _ => by rw [upd_ne (ne_of_none h hp)]; exact h
  fresh := fun a h => by
    rcases List.mem_append.mp h with h | h
    · exact .inl h
    · rw [List.mem_singleton.mp h]; exact .inr hp
  tups := (Ext.laid (β := β) hp).tups
  stay := (Ext.laid (β := β) hp).stay
/-- the store's thing at a changes -/
theorem Ext.wrote {a : Addr} {o : HO} (m : a ∈ β) (ht : ∀ xs, ¬ Rd H a (.tup xs)) : Ext H β (upd H a o) β where
  pre := ⟨[], (List.append_nil β).symm⟩
  keep := fun b u h hn => by rw [upd_ne (fun z => hn (by rw [z]; exact m))]; exact h
  fresh := fun _ h => .inl h
  tups := fun b xs h => by
    have ne : b ≠ a := fun z => ht xs (z ▸ h)
    unfold Rd; rw [upd_ne ne]; exact h
  stay := fun b h => by
    by_cases e : b = a
    · rw [e, upd_same]; exact Option.some_ne_none _
    · rw [upd_ne e]; exact h

/-- behind an expression -/
theorem LR.step (L : LR C cf oa P σ H β ρ S) (e : Ext H β H' β') (s : SRel C H' P β' S') : LR C cf oa P σ H' β' ρ S' where
  len := L.len
  p := fun a h => ⟨e.stay _ (L.p a h).1, e.out (L.p a h).2 (L.p a h).1⟩
  sub := L.sub
  p0 := L.p0
  ext := L.ext.step e
  own := L.own
  inj := L.inj
  st := s
  slot := fun i d h => let ⟨v, h1, h2⟩ := L.slot i d h; ⟨v, h1, h2.mono e⟩
  oslot := fun i d h => let ⟨a, h1, h2, h3⟩ := L.oslot i d h; ⟨a, h1, h2, h3.mono e (L.p a (L.own i a h1).1).2⟩
theorem LR.laid {p : Addr} {o : HO} (L : LR C cf oa P σ H β ρ S) (hp : H p = none) : LR C cf oa P σ (upd H p o) β ρ S := L.step (Ext.laid hp) (L.st.laid hp)
theorem LR.npP {p : Addr} (L : LR C cf oa P σ H β ρ S) (hp : H p = none) : ¬ P p := fun z => (L.p p z).1 hp
theorem LR.npB {p : Addr} (L : LR C cf oa P σ H β ρ S) (hp : H p = none) : p ∉ β := fun z => L.st.mem z hp
/-- fewer places kept apart, the owned ones and the callers' still -/
theorem LR.less (L : LR C cf oa P σ H β ρ S) (e : ∀ a, P' a → P a) (h1 : ∀ a, cf.P0 a → P' a) (h2 : ∀ i a, oa i = some a → P' a) : LR C cf oa P' σ H β ρ S where
  len := L.len
  p := fun a h => L.p a (e a h)
  sub := h1
  p0 := L.p0
  ext := L.ext
  own := fun i a h => ⟨h2 i a h, (L.own i a h).2⟩
  inj := L.inj
  st := L.st.less e
  slot := fun i d h => let ⟨v, q1, q2⟩ := L.slot i d h; ⟨v, q1, q2.less e⟩
  oslot := fun i d h => let ⟨a, q1, q2, q3⟩ := L.oslot i d h; ⟨a, q1, q2, q3.less e⟩
/-- a new container kept apart -/
theorem LR.keepNew {p : Addr} {o : HO} (L : LR C cf oa P σ H β ρ S) (hp : H p = none) : LR C cf oa (fun b => P b ∨ b = p) σ (upd H p o) β ρ S where
  len := L.len
  p := fun a h => by
    rcases h with h | rfl
    · exact (L.laid hp).p a h
    · exact ⟨by rw [upd_same]; exact Option.some_ne_none _, L.npB hp⟩
  sub := fun a h => .inl (L.sub a h)
  p0 := L.p0
  ext := (L.laid (o := o) hp).ext
  own := fun i a h => ⟨.inl (L.own i a h).1, (L.own i a h).2⟩
  inj := L.inj
  st := ⟨L.st.len, L.st.nd, fun n a so h1 h2 => by
    have q := (L.st.ok n a so h1 h2).more hp
    exact q.laid hp⟩
  slot := fun i d h => let ⟨v, q1, q2⟩ := L.slot i d h; ⟨v, q1, (q2.more hp).mono (Ext.laid hp)⟩
  oslot := fun i d h => let ⟨a, q1, q2, q3⟩ := L.oslot i d h; ⟨a, q1, q2, (q3.more hp).mono (Ext.laid hp) (L.p a (L.own i a q1).1).2⟩
end

/-! ### an exception of the program's own -/
def ExnAt (C : Ct) (H : Hp) (P : Addr → Prop) (β : List Addr) (cls : Value) (d : Option Addr) (e : Exn) : Prop :=
  ∃ Ca dd vs, C.mg e.cls = some (.ref Ca) ∧ cls = .ref Ca ∧ d = some dd ∧ H dd = some (.xd vs) ∧ ∀ f x, e.fs.lookup f = some x → ∃ v, vs.lookup f = some v ∧ RV C H P β v x

/-- all that is tracked stays -/
theorem Ext.same {H H' : Hp} {β : List Addr} (e : Same H H') : Ext H β H' β where
  pre := ⟨[], (List.append_nil β).symm⟩
  keep := fun a o h _ => e a o h
  fresh := fun _ h => .inl h
  tups := fun a xs h => h.elim (fun h => .inl (e _ _ h)) fun ⟨o, h⟩ => .inr ⟨o, e _ _ h⟩
  stay := fun a h => by
    cases z : H a with
    | none => exact absurd z h
    | some o => rw [e a o z]; exact Option.some_ne_none _
theorem SOK.same {C : Ct} {H H' : Hp} {P : Addr → Prop} {β : List Addr} {a : Addr} {so : SO} (h : SOK C H P β a so) (e : Same H H') : SOK C H' P β a so := by
  cases so with
  | lst ds => obtain ⟨xs, q, r⟩ := h; exact ⟨xs, e _ _ q, r.mono (Ext.same e)⟩
  | dct ds => obtain ⟨xs, q, r⟩ := h; exact ⟨xs, e _ _ q, r.mono (Ext.same e)⟩
  | ins c fs => obtain ⟨Ca, dx, vs, m, q, n, r⟩ := h; exact ⟨Ca, dx, vs, m, e _ _ q, n, r.mono (Ext.same e)⟩
theorem SRel.same {C : Ct} {H H' : Hp} {P : Addr → Prop} {β : List Addr} {S : Store} (h : SRel C H P β S) (e : Same H H') : SRel C H' P β S := ⟨h.len, h.nd, fun n a so h1 h2 => (h.ok n a so h1 h2).same e⟩
theorem LR.same {C : Ct} {cf : Cf} {oa : Nat → Option Addr} {P : Addr → Prop} {σ : St} {H H' : Hp} {β : List Addr} {ρ : Rho} {S : Store} (L : LR C cf oa P σ H β ρ S) (e : Same H H') : LR C cf oa P σ H' β ρ S := L.step (Ext.same e) (L.st.same e)
theorem same_laid {H : Hp} {p : Addr} {o : HO} (hp : H p = none) : Same H (upd H p o) := fun a u h => by rw [upd_ne (ne_of_none h hp)]; exact h

/-- from ahead of an expression to behind it. b: it is read only (a loan of the slots' own containers is allowed) -/
structure Tr (b : Bool) (H : Hp) (β : List Addr) (S : Store) (H' : Hp) (β' : List Addr) (S' : Store) : Prop where
  ext : Ext H β H' β'
  ro : b = true → Same H H' ∧ β' = β ∧ S' = S
theorem Tr.refl {b : Bool} {H : Hp} {β : List Addr} {S : Store} : Tr b H β S H β S := ⟨Ext.refl _ _, fun _ => ⟨Same.refl _, rfl, rfl⟩⟩
theorem Tr.trans {b : Bool} {H H1 H2 : Hp} {β β1 β2 : List Addr} {S S1 S2 : Store} (x : Tr b H β S H1 β1 S1) (y : Tr b H1 β1 S1 H2 β2 S2) : Tr b H β S H2 β2 S2 :=
  ⟨x.ext.trans y.ext, fun e => let ⟨a1, a2, a3⟩ := x.ro e; let ⟨b1, b2, b3⟩ := y.ro e; ⟨a1.trans b1, b2.trans a2, b3.trans a3⟩⟩
theorem Tr.same {b : Bool} {H H' : Hp} {β : List Addr} {S : Store} (e : Same H H') : Tr b H β S H' β S := ⟨Ext.same e, fun _ => ⟨e, rfl, rfl⟩⟩
/-! ### what is kept through statements -/
structure Fx (H : Hp) (P : Addr → Prop) (β : List Addr) (H' : Hp) (P' : Addr → Prop) (β' : List Addr) : Prop where
  pre : ∃ γ, β' = β ++ γ
  con : ∀ a u, ¬ P a → a ∉ β → Rd H a u → Rd H' a u ∧ ¬ P' a ∧ a ∉ β'
  tups : ∀ a xs, Rd H a (.tup xs) → Rd H' a (.tup xs)
section
variable {C : Ct} {H H1 H2 H' : Hp} {P P1 P2 P' : Addr → Prop} {β β1 β2 β' : List Addr}
theorem Fx.refl : Fx H P β H P β := ⟨⟨[], (List.append_nil β).symm⟩, fun _ _ h1 h2 r => ⟨r, h1, h2⟩, fun _ _ h => h⟩
theorem Fx.trans (a : Fx H P β H1 P1 β1) (b : Fx H1 P1 β1 H2 P2 β2) : Fx H P β H2 P2 β2 where
  pre := by
    obtain ⟨γ, r⟩ := a.pre
    obtain ⟨γ', r'⟩ := b.pre
    exact ⟨γ ++ γ', by rw [r', r, List.append_assoc]⟩
  con := fun c u h1 h2 r => let ⟨r1, q1, q2⟩ := a.con c u h1 h2 r; b.con c u q1 q2 r1
  tups := fun c xs h => b.tups c xs (a.tups c xs h)
theorem Fx.of (e : Ext H β H' β') : Fx H P β H' P β' := ⟨e.pre, fun a u h1 h2 r => ⟨e.rd h2 r, h1, e.out h2 (rd_some r)⟩, e.tups⟩
/-- a place that was free is kept apart as well -/
theorem Fx.more (e : Ext H β H' β') {p : Addr} (hp : H p = none) : Fx H P β H' (fun b => P b ∨ b = p) β' :=
  ⟨e.pre, fun a u h1 h2 r => ⟨e.rd h2 r, fun z => z.elim h1 fun q => rd_some r (by rw [q]; exact hp), e.out h2 (rd_some r)⟩, e.tups⟩
theorem Fx.less (h : ∀ a, P' a → P a) : Fx H P β H P' β := ⟨⟨[], (List.append_nil β).symm⟩, fun a u h1 h2 r => ⟨r, fun z => h1 (h a z), h2⟩, fun _ _ h => h⟩
/-- a container that is kept apart changes -/
theorem Fx.own {p : Addr} {o : HO} (hp : P p) (ht : ∀ xs, ¬ Rd H p (.tup xs)) : Fx H P β (upd H p o) P β := by
  refine ⟨⟨[], (List.append_nil β).symm⟩, fun a u h1 h2 r => ⟨?_, h1, h2⟩, fun a xs r => ?_⟩
  · have ne : a ≠ p := fun e => h1 (e ▸ hp)
    unfold Rd; rw [upd_ne ne]; exact r
  · have ne : a ≠ p := fun e => ht xs (e ▸ r)
    unfold Rd; rw [upd_ne ne]; exact r
theorem Fx.get (e : Fx H P β H' P' β') {n : Nat} {a : Addr} (h : β[n]? = some a) : β'[n]? = some a := by
  obtain ⟨γ, r⟩ := e.pre
  rw [r, List.getElem?_append_left (List.getElem?_eq_some_iff.mp h).1]; exact h
mutual
theorem RV.fx (e : Fx H P β H' P' β') : ∀ {v : V} {d : D}, RV C H P β v d → RV C H' P' β' v d
  | _, _, .non => .non
  | _, _, .bl b => .bl b
  | _, _, .int i => .int i
  | _, _, .str x => .str x
  | _, _, .ty n => .ty n
  | _, _, .lst hp hb hr h => let ⟨r, q1, q2⟩ := e.con _ _ hp hb hr; .lst q1 q2 r (RVs.fx e h)
  | _, _, .tup hr h => .tup (e.tups _ _ hr) (RVs.fx e h)
  | _, _, .ktup k h => .ktup k (RVs.fx e h)
  | _, _, .klst k h => .klst k (RVs.fx e h)
  | _, _, .dct hp hb hr h => let ⟨r, q1, q2⟩ := e.con _ _ hp hb hr; .dct q1 q2 r (RKs.fx e h)
  | _, _, .ref h => .ref (e.get h)
  | _, _, .fn h k => .fn h k
theorem RVs.fx (e : Fx H P β H' P' β') : ∀ {vs : List V} {ds : List D}, RVs C H P β vs ds → RVs C H' P' β' vs ds
  | _, _, .nil => .nil
  | _, _, .cons h t => .cons (RV.fx e h) (RVs.fx e t)
theorem RKs.fx (e : Fx H P β H' P' β') : ∀ {vs : List (Key × V)} {ds : List (Key × D)}, RKs C H P β vs ds → RKs C H' P' β' vs ds
  | _, _, .nil => .nil
  | _, _, .cons h t => .cons (RV.fx e h) (RKs.fx e t)
end
end

/-! ### readings -/
/-- what an exception must find -/
abbrev XP (C : Ct) (W : WX) (cf : Cf) (oa : Nat → Option Addr) (P : Addr → Prop) (σ : St) (b : Bool) (H : Hp) (β : List Addr) (ρ : Rho) (S : Store) (e : Exn) (S' : Store) : Prop :=
  ∀ cls x H' β', Tr b H β S H' β' S' → LR C cf oa P σ H' β' ρ S' → ExnAt C H' P β' cls x e → W cls x σ H'
/-- the reading of an expression with the tree-value m -/
def EM (C : Ct) (W : WX) (b : Bool) (m : EX) : TE := fun σ H Q => ∃ cf oa P β ρ S, LR C cf oa P σ H β ρ S ∧ (match m ρ S with
  | .ok d S' => ∀ v H' β', Tr b H β S H' β' S' → LR C cf oa P σ H' β' ρ S' → RV C H' P β' v d → Q v H'
  | .exc e S' => XP C W cf oa P σ b H β ρ S e S'
  | .stuck => False)
/-- .. that makes a new container -/
def EO (C : Ct) (W : WX) (b : Bool) (m : EX) : TE := fun σ H Q => ∃ cf oa P β ρ S, LR C cf oa P σ H β ρ S ∧ (match m ρ S with
  | .ok d S' => ∀ a H' β', Tr b H β S H' β' S' → H a = none → LR C cf oa (fun b => P b ∨ b = a) σ H' β' ρ S' → OwnAt C H' (fun c => P c ∨ c = a) β' a d → Q (.ref a) H'
  | .exc e S' => XP C W cf oa P σ b H β ρ S e S'
  | .stuck => False)
def AM (C : Ct) (W : WX) (b : Bool) (m : AX) : TA := fun σ H Q => ∃ cf oa P β ρ S, LR C cf oa P σ H β ρ S ∧ (match m ρ S with
  | .ok ds S' => ∀ vs H' β', Tr b H β S H' β' S' → LR C cf oa P σ H' β' ρ S' → RVs C H' P β' vs ds → Q vs H'
  | .exc e S' => XP C W cf oa P σ b H β ρ S e S'
  | .stuck => False)
def BM (C : Ct) (W : WX) (b : Bool) (m : BX) : TT := fun σ H Q => ∃ cf oa P β ρ S, LR C cf oa P σ H β ρ S ∧ (match m ρ S with
  | .ok k S' => ∀ H' β', Tr b H β S H' β' S' → LR C cf oa P σ H' β' ρ S' → Q k H'
  | .exc e S' => XP C W cf oa P σ b H β ρ S e S'
  | .stuck => False)
/-- what is wanted of a statement's result, from a state that H, P, β stand for -/
def SQ (C : Ct) (W : WX) (cf : Cf) (H : Hp) (P : Addr → Prop) (β : List Addr) (D : Ends) (r : SR) : Prop := match r with
  | .nx ρ' S' => ∀ σ' H' β' oa' P', LR C cf oa' P' σ' H' β' ρ' S' → Fx H P β H' P' β' → D.nx σ' H'
  | .bk ρ' S' => ∀ σ' H' β' oa' P', LR C cf oa' P' σ' H' β' ρ' S' → Fx H P β H' P' β' → D.bk σ' H'
  | .ct ρ' S' => ∀ σ' H' β' oa' P', LR C cf oa' P' σ' H' β' ρ' S' → Fx H P β H' P' β' → D.ct σ' H'
  | .rt d S' => ∀ v H' β', ExtL cf H' β' → SRel C H' cf.P0 β' S' → RV C H' cf.P0 β' v d → D.rt v H'
  | .exc e ρ' S' => ∀ cls x σ' H' β' oa' P', LR C cf oa' P' σ' H' β' ρ' S' → Fx H P β H' P' β' → ExnAt C H' P' β' cls x e → W cls x σ' H'
  | .stuck => False
theorem SQ.fx {C : Ct} {W : WX} {cf : Cf} {H H1 : Hp} {P P1 : Addr → Prop} {β β1 : List Addr} {D : Ends} {r : SR} (f1 : Fx H P β H1 P1 β1) (h : SQ C W cf H P β D r) : SQ C W cf H1 P1 β1 D r := by
  cases r with
  | nx ρ2 S2 => intro σ2 H2 β2 oa2 P2 L2 f2; exact h σ2 H2 β2 oa2 P2 L2 (f1.trans f2)
  | bk ρ2 S2 => intro σ2 H2 β2 oa2 P2 L2 f2; exact h σ2 H2 β2 oa2 P2 L2 (f1.trans f2)
  | ct ρ2 S2 => intro σ2 H2 β2 oa2 P2 L2 f2; exact h σ2 H2 β2 oa2 P2 L2 (f1.trans f2)
  | rt d S2 => exact h
  | exc e ρ2 S2 => intro cls x σ2 H2 β2 oa2 P2 L2 f2 ex; exact h cls x σ2 H2 β2 oa2 P2 L2 (f1.trans f2) ex
  | stuck => exact h
def SM (C : Ct) (W : WX) (m : SX) : TS := fun D σ H => ∃ cf oa P β ρ S, LR C cf oa P σ H β ρ S ∧ SQ C W cf H P β D (m ρ S)

abbrev PM (C : Ct) (W : WX) (b : Bool) (X : Cx) (e : Expr) (m : EX) : Prop := PE X e (EM C W b m)
abbrev PN (C : Ct) (W : WX) (b : Bool) (X : Cx) (e : Expr) (m : EX) : Prop := PE X e (EO C W b m)
abbrev PAM (C : Ct) (W : WX) (b : Bool) (X : Cx) (es : List Expr) (m : AX) : Prop := PA X es (AM C W b m)
abbrev PB (C : Ct) (W : WX) (b : Bool) (X : Cx) (e : Expr) (m : BX) : Prop := PT X e (BM C W b m)
abbrev PSM (C : Ct) (W : WX) (X : Cx) (s : Stmt) (m : SX) : Prop := PS X s (SM C W m)
abbrev PSSM (C : Ct) (W : WX) (X : Cx) (s : List Stmt) (m : SX) : Prop := PSs X s (SM C W m)

theorem PE_imp {X : Cx} {e : Expr} {t t' : TE} (h : PE X e t) (i : ∀ σ H Q, t' σ H Q → t σ H Q) : PE X e t' := ⟨fun pins s σ H Q I hw => h.run pins s σ H Q I (i σ H Q hw)⟩
theorem PT_imp {X : Cx} {e : Expr} {t t' : TT} (h : PT X e t) (i : ∀ σ H Q, t' σ H Q → t σ H Q) : PT X e t' := ⟨fun pins s σ H Q I hw => h.run pins s σ H Q I (i σ H Q hw)⟩
theorem PA_imp {X : Cx} {es : List Expr} {t t' : TA} (h : PA X es t) (i : ∀ σ H Q, t' σ H Q → t σ H Q) : PA X es t' := ⟨fun pos pins s σ H Q I hw => h.run pos pins s σ H Q I (i σ H Q hw)⟩
theorem PS_imp {X : Cx} {s : Stmt} {t t' : TS} (h : PS X s t) (i : ∀ D σ H, t' D σ H → t D σ H) : PS X s t' := ⟨fun pins sh σ H D I hw => h.run pins sh σ H D I (i D σ H hw)⟩
theorem PSs_imp {X : Cx} {s : List Stmt} {t t' : TS} (h : PSs X s t) (i : ∀ D σ H, t' D σ H → t D σ H) : PSs X s t' := ⟨fun pins sh σ H D I hw => h.run pins sh σ H D I (i D σ H hw)⟩
end Mi

/-! Mi3: expressions. -/
namespace Mi
open PySem PySem.Spec PyProof.Rows L2

abbrev ctOf (X : Cx) : Ct := ⟨X.K, X.mg, X.w⟩

/-! ### the pure side -/
def mC (d : D) : EX := fun _ S => .ok d S
def mVar (i : Nat) : EX := fun ρ S => match ρ[i]? with
  | some (Sl.sh d) => .ok d S
  | _ => .stuck
def R.opt {α : Type} (o : Option α) (S : Store) : R α := match o with
  | some z => .ok z S
  | none => .stuck
def mBin (f : Store → D → D → Option D) (a b : EX) : EX := fun ρ S => (a ρ S).bind fun x S1 => (b ρ S1).bind fun y S2 => R.opt (f S2 x y) S2
def mUn (f : Store → D → Option D) (a : EX) : EX := fun ρ S => (a ρ S).bind fun x S1 => R.opt (f S1 x) S1
def aNil : AX := fun _ S => .ok [] S
def aCons (a : EX) (r : AX) : AX := fun ρ S => (a ρ S).bind fun x S1 => (r ρ S1).bind fun xs S2 => .ok (x :: xs) S2
def mFun (f : Store → List D → Option D) (a : AX) : EX := fun ρ S => (a ρ S).bind fun xs S1 => R.opt (f S1 xs) S1
def dTup (xs : List D) : Option D := if xs.length ≤ sizeLine then some (.tup xs) else none
def dLst (xs : List D) : Option D := if xs.length ≤ sizeLine then some (.lst xs) else none
def mTup (a : AX) : EX := fun ρ S => (a ρ S).bind fun xs S1 => R.opt (dTup xs) S1
def mLst (a : AX) : EX := fun ρ S => (a ρ S).bind fun xs S1 => R.opt (dLst xs) S1
def soOf : D → Option SO
  | .lst xs => some (.lst xs)
  | .dct kvs => some (.dct kvs)
  | _ => none
/-- a new container becomes a thing of the store -/
def mBox (a : EX) : EX := fun ρ S => (a ρ S).bind fun x S1 => match soOf x with
  | some so => .ok (.ref S1.length) (S1 ++ [so])
  | none => .stuck
/-- no list or dict in it -/
def flat : D → Bool
  | .non | .bl _ | .int _ | .str _ | .ty _ | .fn _ | .ref _ => true
  | .tup _ | .lst _ | .dct _ => false
def lent (ρ : Rho) : Rho := ρ.map fun s => match s with
  | .ow d => .sh d
  | s => s
/-- read on loan (all slots' own containers): what comes is flat -/
def mLend (a : EX) : EX := fun ρ S => match a (lent ρ) S with
  | .ok x S1 => if flat x = true then .ok x S1 else .stuck
  | _ => .stuck
/-- the same of a test -/
def bLend (a : BX) : BX := fun ρ S => match a (lent ρ) S with
  | .ok x S1 => .ok x S1
  | _ => .stuck

/-! ### soundness of operations by values -/
section
variable {X : Cx} {W : WX} {b : Bool}
/-- a state for an operation -/
structure At (C : Ct) (H : Hp) (Z : Addr → Prop) (β : List Addr) (S : Store) : Prop where
  st : SRel C H Z β S
  dom : ∀ a, Z a → H a ≠ none
def OpM (X : Cx) (r : R2) (f : Store → D → D → Option D) : Prop :=
  ∀ (Z : Addr → Prop) (H : Hp) (β : List Addr) (S : Store) (x y : V) (dx dy dz : D) (Q : VK), At (ctOf X) H Z β S → RV (ctOf X) H Z β x dx → RV (ctOf X) H Z β y dy → f S dx dy = some dz →
    (∀ v H', Same H H' → RV (ctOf X) H' Z β v dz → Q v H') → r x y H Q
def OpN (X : Cx) (r : R2) (f : Store → D → D → Option D) : Prop :=
  ∀ (Z : Addr → Prop) (H : Hp) (β : List Addr) (S : Store) (x y : V) (dx dy dz : D) (Q : VK), At (ctOf X) H Z β S → RV (ctOf X) H Z β x dx → RV (ctOf X) H Z β y dy → f S dx dy = some dz →
    (∀ a H', Same H H' → H a = none → OwnAt (ctOf X) H' (fun c => Z c ∨ c = a) β a dz → Q (.ref a) H') → r x y H Q
def UnM (X : Cx) (r : V → Hp → VK → Prop) (f : Store → D → Option D) : Prop :=
  ∀ (Z : Addr → Prop) (H : Hp) (β : List Addr) (S : Store) (x : V) (dx dz : D) (Q : VK), At (ctOf X) H Z β S → RV (ctOf X) H Z β x dx → f S dx = some dz →
    (∀ v H', Same H H' → RV (ctOf X) H' Z β v dz → Q v H') → r x H Q
def FnM (X : Cx) (r : List V → Hp → VK → Prop) (f : Store → List D → Option D) : Prop :=
  ∀ (Z : Addr → Prop) (H : Hp) (β : List Addr) (S : Store) (xs : List V) (ds : List D) (dz : D) (Q : VK), At (ctOf X) H Z β S → RVs (ctOf X) H Z β xs ds → f S ds = some dz →
    (∀ v H', Same H H' → RV (ctOf X) H' Z β v dz → Q v H') → r xs H Q
def FnN (X : Cx) (r : List V → Hp → VK → Prop) (f : Store → List D → Option D) : Prop :=
  ∀ (Z : Addr → Prop) (H : Hp) (β : List Addr) (S : Store) (xs : List V) (ds : List D) (dz : D) (Q : VK), At (ctOf X) H Z β S → RVs (ctOf X) H Z β xs ds → f S ds = some dz →
    (∀ a H', Same H H' → H a = none → OwnAt (ctOf X) H' (fun c => Z c ∨ c = a) β a dz → Q (.ref a) H') → r xs H Q
theorem At.npZ {C : Ct} {H : Hp} {Z : Addr → Prop} {β : List Addr} {S : Store} (A : At C H Z β S) {p : Addr} (hp : H p = none) : ¬ Z p := fun z => A.dom p z hp
theorem At.npB {C : Ct} {H : Hp} {Z : Addr → Prop} {β : List Addr} {S : Store} (A : At C H Z β S) {p : Addr} (hp : H p = none) : p ∉ β := fun z => A.st.mem z hp
theorem LR.at {C : Ct} {cf : Cf} {oa : Nat → Option Addr} {P : Addr → Prop} {σ : L2.St} {H : Hp} {β : List Addr} {ρ : Rho} {S : Store} (L : LR C cf oa P σ H β ρ S) : At C H P β S :=
  ⟨L.st, fun a h => (L.p a h).1⟩

/-- a new container, forgotten to be new -/
theorem own_rv {C : Ct} {H : Hp} {P : Addr → Prop} {β : List Addr} {a : Addr} {d : D} (o : OwnAt C H (fun b => P b ∨ b = a) β a d) (hp : ¬ P a) (hb : a ∉ β) : RV C H P β (.ref a) d := by
  cases d <;> first | exact o.elim | skip
  · obtain ⟨xs, q, r⟩ := o; exact .lst hp hb (.inl q) (r.less fun _ h => .inl h)
  · obtain ⟨xs, q, r⟩ := o; exact .dct hp hb (.inl q) (r.less fun _ h => .inl h)
theorem LR.forget {C : Ct} {cf : Cf} {oa : Nat → Option Addr} {P : Addr → Prop} {σ : L2.St} {H : Hp} {β : List Addr} {ρ : Rho} {S : Store} {a : Addr} (L : LR C cf oa (fun b => P b ∨ b = a) σ H β ρ S) (h1 : ∀ a, cf.P0 a → P a) (h2 : ∀ i a, oa i = some a → P a) : LR C cf oa P σ H β ρ S :=
  L.less (fun _ h => .inl h) h1 h2
/-- a new container laid and kept apart -/
theorem LR.keepMore {C : Ct} {cf : Cf} {oa : Nat → Option Addr} {P : Addr → Prop} {σ : L2.St} {H H' : Hp} {β : List Addr} {ρ : Rho} {S : Store} {p : Addr} (L : LR C cf oa P σ H β ρ S) (e : Same H H') (hp : H p = none) (hp' : H' p ≠ none) : LR C cf oa (fun b => P b ∨ b = p) σ H' β ρ S where
  len := L.len
  p := fun a h => by
    rcases h with h | rfl
    · exact (L.same e).p a h
    · exact ⟨hp', L.npB hp⟩
  sub := fun a h => .inl (L.sub a h)
  p0 := L.p0
  ext := (L.same e).ext
  own := fun i a h => ⟨.inl (L.own i a h).1, (L.own i a h).2⟩
  inj := L.inj
  st := (L.st.more hp).same e
  slot := fun i d h => let ⟨v, q1, q2⟩ := L.slot i d h; ⟨v, q1, (q2.more hp).mono (Ext.same e)⟩
  oslot := fun i d h => let ⟨a, q1, q2, q3⟩ := L.oslot i d h; ⟨a, q1, q2, (q3.more hp).mono (Ext.same e) (L.p a (L.own i a q1).1).2⟩
theorem OpM.of_new {r : R2} {f : Store → D → D → Option D} (h : OpN X r f) : OpM X r f := by
  intro Z H β S x y dx dy dz Q A rx ry e k
  exact h Z H β S x y dx dy dz Q A rx ry e fun a H' E hn o => k _ H' E (own_rv o (A.npZ hn) (A.npB hn))
theorem FnM.of_new {r : List V → Hp → VK → Prop} {f : Store → List D → Option D} (h : FnN X r f) : FnM X r f := by
  intro Z H β S xs ds dz Q A rx e k
  exact h Z H β S xs ds dz Q A rx e fun a H' E hn o => k _ H' E (own_rv o (A.npZ hn) (A.npB hn))
theorem stay_none {H H1 : Hp} {β β1 : List Addr} (e : Ext H β H1 β1) {a : Addr} (hn : H1 a = none) : H a = none := by
  cases z : H a with
  | none => rfl
  | some o => exact absurd hn (e.stay a (by rw [z]; exact Option.some_ne_none _))

theorem em2 {f : Store → D → D → Option D} {r : R2} {ma mb : EX} {σ : L2.St} {H : Hp} {Q : VK} (hm : OpM X r f) (h : EM (ctOf X) W b (mBin f ma mb) σ H Q) : tOp r (EM (ctOf X) W b ma) (EM (ctOf X) W b mb) σ H Q := by
  obtain ⟨cf, oa, P, β, ρ, S, L, h⟩ := h
  unfold mBin at h
  refine ⟨cf, oa, P, β, ρ, S, L, ?_⟩
  cases ea : ma ρ S with
  | stuck => rw [ea] at h; exact h
  | exc e S1 => rw [ea] at h; exact h
  | ok dx S1 =>
    rw [ea] at h
    simp only [R.bind] at h
    intro x H1 β1 e1 L1 rx
    refine ⟨cf, oa, P, β1, ρ, S1, L1, ?_⟩
    cases eb : mb ρ S1 with
    | stuck => rw [eb] at h; exact h
    | exc e S2 =>
      rw [eb] at h
      intro cls d H' β' e2 L2 ex
      exact h cls d H' β' (e1.trans e2) L2 ex
    | ok dy S2 =>
      rw [eb] at h
      simp only [R.bind] at h
      intro y H2 β2 e2 L2 ry
      cases ef : f S2 dx dy with
      | none => rw [ef] at h; exact h.elim
      | some dz =>
        rw [ef] at h
        exact hm P H2 β2 S2 x y dx dy dz Q L2.at (rx.mono e2.ext) ry ef fun v H' e3 r3 => h v H' β2 (e1.trans (e2.trans (Tr.same e3))) (L2.same e3) r3
theorem eo2 {f : Store → D → D → Option D} {r : R2} {ma mb : EX} {σ : L2.St} {H : Hp} {Q : VK} (hm : OpN X r f) (h : EO (ctOf X) W b (mBin f ma mb) σ H Q) : tOp r (EM (ctOf X) W b ma) (EM (ctOf X) W b mb) σ H Q := by
  obtain ⟨cf, oa, P, β, ρ, S, L, h⟩ := h
  unfold mBin at h
  refine ⟨cf, oa, P, β, ρ, S, L, ?_⟩
  cases ea : ma ρ S with
  | stuck => rw [ea] at h; exact h
  | exc e S1 => rw [ea] at h; exact h
  | ok dx S1 =>
    rw [ea] at h
    simp only [R.bind] at h
    intro x H1 β1 e1 L1 rx
    refine ⟨cf, oa, P, β1, ρ, S1, L1, ?_⟩
    cases eb : mb ρ S1 with
    | stuck => rw [eb] at h; exact h
    | exc e S2 =>
      rw [eb] at h
      intro cls d H' β' e2 L2 ex
      exact h cls d H' β' (e1.trans e2) L2 ex
    | ok dy S2 =>
      rw [eb] at h
      simp only [R.bind] at h
      intro y H2 β2 e2 L2 ry
      cases ef : f S2 dx dy with
      | none => rw [ef] at h; exact h.elim
      | some dz =>
        rw [ef] at h
        exact hm P H2 β2 S2 x y dx dy dz Q L2.at (rx.mono e2.ext) ry ef fun a H' e3 hn r3 =>
          h a H' β2 (e1.trans (e2.trans (Tr.same e3))) (stay_none (e1.trans e2).ext hn) (L2.keepMore e3 hn r3.notnone) r3
theorem em1 {f : Store → D → Option D} {r : V → Hp → VK → Prop} {ma : EX} {σ : L2.St} {H : Hp} {Q : VK} (hm : UnM X r f) (h : EM (ctOf X) W b (mUn f ma) σ H Q) : tUn r (EM (ctOf X) W b ma) σ H Q := by
  obtain ⟨cf, oa, P, β, ρ, S, L, h⟩ := h
  unfold mUn at h
  refine ⟨cf, oa, P, β, ρ, S, L, ?_⟩
  cases ea : ma ρ S with
  | stuck => rw [ea] at h; exact h
  | exc e S1 => rw [ea] at h; exact h
  | ok dx S1 =>
    rw [ea] at h
    simp only [R.bind] at h
    intro x H1 β1 e1 L1 rx
    cases ef : f S1 dx with
    | none => rw [ef] at h; exact h.elim
    | some dz =>
      rw [ef] at h
      exact hm P H1 β1 S1 x dx dz Q L1.at rx ef fun v H' e3 r3 => h v H' β1 (e1.trans (Tr.same e3)) (L1.same e3) r3
theorem amF {f : Store → List D → Option D} {r : List V → Hp → VK → Prop} {ma : AX} {σ : L2.St} {H : Hp} {Q : VK} (hm : FnM X r f) (h : EM (ctOf X) W b (mFun f ma) σ H Q) : AM (ctOf X) W b ma σ H fun vs H1 => r vs H1 Q := by
  obtain ⟨cf, oa, P, β, ρ, S, L, h⟩ := h
  unfold mFun at h
  refine ⟨cf, oa, P, β, ρ, S, L, ?_⟩
  cases ea : ma ρ S with
  | stuck => rw [ea] at h; exact h
  | exc e S1 => rw [ea] at h; exact h
  | ok dx S1 =>
    rw [ea] at h
    simp only [R.bind] at h
    intro x H1 β1 e1 L1 rx
    cases ef : f S1 dx with
    | none => rw [ef] at h; exact h.elim
    | some dz =>
      rw [ef] at h
      exact hm P H1 β1 S1 x dx dz Q L1.at rx ef fun v H' e3 r3 => h v H' β1 (e1.trans (Tr.same e3)) (L1.same e3) r3
theorem aoF {f : Store → List D → Option D} {r : List V → Hp → VK → Prop} {ma : AX} {σ : L2.St} {H : Hp} {Q : VK} (hm : FnN X r f) (h : EO (ctOf X) W b (mFun f ma) σ H Q) : AM (ctOf X) W b ma σ H fun vs H1 => r vs H1 Q := by
  obtain ⟨cf, oa, P, β, ρ, S, L, h⟩ := h
  unfold mFun at h
  refine ⟨cf, oa, P, β, ρ, S, L, ?_⟩
  cases ea : ma ρ S with
  | stuck => rw [ea] at h; exact h
  | exc e S1 => rw [ea] at h; exact h
  | ok dx S1 =>
    rw [ea] at h
    simp only [R.bind] at h
    intro x H1 β1 e1 L1 rx
    cases ef : f S1 dx with
    | none => rw [ef] at h; exact h.elim
    | some dz =>
      rw [ef] at h
      exact hm P H1 β1 S1 x dx dz Q L1.at rx ef fun a H' e3 hn r3 =>
        h a H' β1 (e1.trans (Tr.same e3)) (stay_none e1.ext hn) (L1.keepMore e3 hn r3.notnone) r3
theorem am_cons {a : EX} {r : AX} {σ : L2.St} {H : Hp} {Q : List V → Hp → Prop} (h : AM (ctOf X) W b (aCons a r) σ H Q) : tCons (EM (ctOf X) W b a) (AM (ctOf X) W b r) σ H Q := by
  obtain ⟨cf, oa, P, β, ρ, S, L, h⟩ := h
  unfold aCons at h
  refine ⟨cf, oa, P, β, ρ, S, L, ?_⟩
  cases ea : a ρ S with
  | stuck => rw [ea] at h; exact h
  | exc e S1 => rw [ea] at h; exact h
  | ok dx S1 =>
    rw [ea] at h
    simp only [R.bind] at h
    intro x H1 β1 e1 L1 rx
    refine ⟨cf, oa, P, β1, ρ, S1, L1, ?_⟩
    cases eb : r ρ S1 with
    | stuck => rw [eb] at h; exact h
    | exc e S2 =>
      rw [eb] at h
      intro cls d H' β' e2 L2 ex
      exact h cls d H' β' (e1.trans e2) L2 ex
    | ok ds S2 =>
      rw [eb] at h
      intro xs H2 β2 e2 L2 rs
      exact h _ H2 β2 (e1.trans e2) L2 (.cons (rx.mono e2.ext) rs)

/-! ### rules: names, constants -/
theorem pm_var {i : Nat} {x : Str} {pos : Pos} (h : PE X (.Name x pos) (tVar i)) : PM (ctOf X) W b X (.Name x pos) (mVar i) := PE_imp h fun σ H Q h => by
  obtain ⟨cf, oa, P, β, ρ, S, L, h⟩ := h
  unfold mVar at h
  cases e : ρ[i]? with
  | none => rw [e] at h; exact h.elim
  | some sl =>
    rw [e] at h
    cases sl with
    | un => exact h.elim
    | ow d => exact h.elim
    | sh d =>
      obtain ⟨v, e1, r⟩ := L.slot i d e
      exact ⟨v, e1, h v H β Tr.refl L r⟩
theorem em_c {v : V} {d : D} (r : ∀ H P β, RV (ctOf X) H P β v d) {σ : L2.St} {H : Hp} {Q : VK} (h : EM (ctOf X) W b (mC d) σ H Q) : Q v H := by
  obtain ⟨cf, oa, P, β, ρ, S, L, h⟩ := h
  exact h v H β Tr.refl L (r _ _ _)
theorem pm_int {i j pos} : PM (ctOf X) W b X (.Constant (.int i) j pos) (mC (.int i)) := PE_imp pe_int fun σ H Q h => em_c (fun _ _ _ => .int i) h
theorem pm_bl {k j pos} : PM (ctOf X) W b X (.Constant (.bool k) j pos) (mC (.bl k)) := PE_imp pe_bl fun σ H Q h => em_c (fun _ _ _ => .bl k) h
theorem pm_non {j pos} : PM (ctOf X) W b X (.Constant .none j pos) (mC .non) := PE_imp pe_non fun σ H Q h => em_c (fun _ _ _ => .non) h
theorem pm_str {x j pos} : PM (ctOf X) W b X (.Constant (.str x) j pos) (mC (.str x)) := PE_imp pe_str fun σ H Q h => em_c (fun _ _ _ => .str x) h
/-- a global of the module: d is what it holds -/
theorem pm_glob {x : Str} {v : V} {u : Value} {d : D} {pos : Pos} (hm : X.mg x = some u) (r : RelV v u) (rd : ∀ H P β, RV (ctOf X) H P β v d) (hg : Gl X x := by rfl) (hd : (x == ("__debug__" : Str)) = false := by decide) : PM (ctOf X) W b X (.Name x pos) (mC d) :=
  PE_imp (pe_glob hg hm r hd) fun σ H Q h => em_c rd h
theorem pm_ty {x : Str} {n : String} {pos : Pos} (hm : X.mg x = none) (hv : bootBuiltins x = some (.type n)) (hg : Gl X x := by rfl) (hn : x ≠ "__name__" := by decide) (hd : (x == ("__debug__" : Str)) = false := by decide) : PM (ctOf X) W b X (.Name x pos) (mC (.ty n)) :=
  PE_imp (pe_bltn (v := .ty n) hg hm hv rfl hn hd) fun σ H Q h => em_c (fun _ _ _ => .ty n) h

/-! ### operators -/
variable {a b' c e : Expr} {es : List Expr} {ma mb mc : EX} {mas : AX} {pos : Pos}
theorem pm_op {op : Operator} {r : R2} {f : Store → D → D → Option D} (ho : OpR X (binaryOp op) r) (hm : OpM X r f) (ha : PM (ctOf X) W b X a ma) (hb : PM (ctOf X) W b X b' mb) : PM (ctOf X) W b X (.BinOp a op b' pos) (mBin f ma mb) :=
  PE_imp (pe_op ho ha hb) fun σ H Q h => em2 hm h
theorem pn_op {op : Operator} {r : R2} {f : Store → D → D → Option D} (ho : OpR X (binaryOp op) r) (hm : OpN X r f) (ha : PM (ctOf X) W b X a ma) (hb : PM (ctOf X) W b X b' mb) : PN (ctOf X) W b X (.BinOp a op b' pos) (mBin f ma mb) :=
  PE_imp (pe_op ho ha hb) fun σ H Q h => eo2 hm h
theorem pm_cmp {op : CmpOp} {r : R2} {f : Store → D → D → Option D} (ho : OpR X (compareOp op) r) (hm : OpM X r f) (ha : PM (ctOf X) W b X a ma) (hb : PM (ctOf X) W b X b' mb) (hk : behindInMarks op b' = false := by first | exact nobehind _ (by decide) (by decide) | rfl) :
    PM (ctOf X) W b X (.Compare a [op] [b'] pos) (mBin f ma mb) := PE_imp (pe_cmpR ho ha hb hk) fun σ H Q h => em2 hm h
theorem pm_un {op : UnaryOp} {r : V → Hp → VK → Prop} {f : Store → D → Option D} (ho : UnR X (unaryOp op) r) (hm : UnM X r f) (ha : PM (ctOf X) W b X a ma) : PM (ctOf X) W b X (.UnaryOp op a pos) (mUn f ma) :=
  PE_imp (pe_un ho ha) fun σ H Q h => em1 hm h
theorem CallR.or {f : Value} {r r' : List V → Hp → VK → Prop} (h : CallR X f r) (h' : CallR X f r') : CallR X f (fun xs H Q => r xs H Q ∨ r' xs H Q) := by
  intro pins s σ H xs us Q I rx q
  rcases q with q | q
  · exact h pins s σ H xs us Q I rx q
  · exact h' pins s σ H xs us Q I rx q

/-! ### argument lists, displays, calls of built-ins -/
theorem pam_nil : PAM (ctOf X) W b X [] aNil := PA_imp pa_nil fun σ H Q h => by
  obtain ⟨cf, oa, P, β, ρ, S, L, h⟩ := h
  exact h [] H β Tr.refl L .nil
theorem pam_cons {r : AX} (ha : PM (ctOf X) W b X e ma) (hr : PAM (ctOf X) W b X es r) (hs : starEach (e :: es) X.env = (false, eval e X.env) :: starEach es X.env := by rfl) : PAM (ctOf X) W b X (e :: es) (aCons ma r) :=
  PA_imp (pa_cons ha hr hs) fun σ H Q h => am_cons h
theorem pm_tup {k : Nat} (h : PAM (ctOf X) W b X es mas) : PM (ctOf X) W b X (.Tuple es k pos) (mTup mas) := PE_imp (pe_tup h) fun σ H Q h => by
  obtain ⟨cf, oa, P, β, ρ, S, L, h⟩ := h
  unfold mTup at h
  refine ⟨cf, oa, P, β, ρ, S, L, ?_⟩
  cases ea : mas ρ S with
  | stuck => rw [ea] at h; exact h
  | exc e S1 => rw [ea] at h; exact h
  | ok ds S1 =>
    rw [ea] at h
    simp only [R.bind, dTup] at h
    intro xs H1 β1 e1 L1 rs
    by_cases hz : ds.length ≤ sizeLine
    · rw [if_pos hz] at h
      refine ⟨by rw [rs.length]; exact hz, fun p hp => ?_⟩
      have x : Same H1 (upd H1 p (.tup xs)) := same_laid hp
      exact h _ _ β1 (e1.trans (Tr.same x)) (L1.same x) (.tup (.inl upd_same) (rs.mono (Ext.same x)))
    · rw [if_neg hz] at h; exact h.elim
theorem pn_lst (h : PAM (ctOf X) W b X es mas) : PN (ctOf X) W b X (.List es pos) (mLst mas) := PE_imp (pe_lst h) fun σ H Q h => by
  obtain ⟨cf, oa, P, β, ρ, S, L, h⟩ := h
  unfold mLst at h
  refine ⟨cf, oa, P, β, ρ, S, L, ?_⟩
  cases ea : mas ρ S with
  | stuck => rw [ea] at h; exact h
  | exc e S1 => rw [ea] at h; exact h
  | ok ds S1 =>
    rw [ea] at h
    simp only [R.bind, dLst] at h
    intro xs H1 β1 e1 L1 rs
    by_cases hz : ds.length ≤ sizeLine
    · rw [if_pos hz] at h
      refine ⟨by rw [rs.length]; exact hz, fun p hp => ?_⟩
      have x : Same H1 (upd H1 p (.lst xs)) := same_laid hp
      exact h p _ β1 (e1.trans (Tr.same x)) (stay_none e1.ext hp) (L1.keepMore x hp (by rw [upd_same]; exact Option.some_ne_none _)) ⟨xs, upd_same, (rs.more hp).mono (Ext.same x)⟩
    · rw [if_neg hz] at h; exact h.elim
/-- a new container as a value -/
theorem pm_of (h : PN (ctOf X) W b X e ma) : PM (ctOf X) W b X e ma := PE_imp h fun σ H Q h => by
  obtain ⟨cf, oa, P, β, ρ, S, L, h⟩ := h
  refine ⟨cf, oa, P, β, ρ, S, L, ?_⟩
  cases ea : ma ρ S with
  | stuck => rw [ea] at h; exact h
  | exc e S1 => rw [ea] at h; exact h
  | ok d S1 =>
    rw [ea] at h
    intro p H1 β1 e1 hn L1 o
    exact h (.ref p) H1 β1 e1 (L1.forget L.sub fun i a h => (L.own i a h).1) (own_rv o (L.npP hn) (L1.p p (.inr rfl)).2)
/-- on loan: what comes is flat -/
theorem flat_rv {C : Ct} {H : Hp} {P P' : Addr → Prop} {β : List Addr} {v : V} {d : D} (r : RV C H P β v d) (hf : flat d = true) : RV C H P' β v d := by
  cases r with
  | non => exact .non
  | bl b => exact .bl b
  | int i => exact .int i
  | str x => exact .str x
  | ty n => exact .ty n
  | ref h => exact .ref h
  | fn h k => exact .fn h k
  | _ => cases hf
theorem lent_get {ρ : Rho} {i : Nat} : (lent ρ)[i]? = (ρ[i]?).map fun s => match s with
  | .ow d => Sl.sh d
  | s => s := by unfold lent; rw [List.getElem?_map] <;> rfl
theorem LR.lend {C : Ct} {cf : Cf} {oa : Nat → Option Addr} {P : Addr → Prop} {σ : L2.St} {H : Hp} {β : List Addr} {ρ : Rho} {S : Store} (L : LR C cf oa P σ H β ρ S) :
    LR C cf (fun _ => none) (fun a => P a ∧ ∀ i, oa i ≠ some a) σ H β (lent ρ) S where
  len := by unfold lent; rw [List.length_map]; exact L.len
  p := fun a h => L.p a h.1
  sub := fun a h => ⟨L.sub a h, fun i z => L.p0 a h (L.own i a z).2⟩
  p0 := L.p0
  ext := L.ext
  own := fun i a h => nomatch h
  inj := fun i j a h => nomatch h
  st := L.st.less fun _ h => h.1
  slot := fun i d h => by
    rw [lent_get] at h
    cases e : ρ[i]? with
    | none => rw [e] at h; cases h
    | some s =>
      rw [e] at h
      cases s with
      | un => cases h
      | sh x =>
        cases h
        obtain ⟨v, e1, r⟩ := L.slot i d e
        exact ⟨v, e1, r.less fun _ h => h.1⟩
      | ow x =>
        cases h
        obtain ⟨a, e1, e2, r⟩ := L.oslot i d e
        have na : ¬ (P a ∧ ∀ i, oa i ≠ some a) := fun z => z.2 i e1
        have nb : a ∉ β := (L.p a (L.own i a e1).1).2
        refine ⟨.ref a, e2, ?_⟩
        cases d <;> first | exact r.elim | skip
        · obtain ⟨xs, q, r⟩ := r; exact .lst na nb (.inl q) (r.less fun _ h => h.1)
        · obtain ⟨xs, q, r⟩ := r; exact .dct na nb (.inl q) (r.less fun _ h => h.1)
  oslot := fun i d h => by
    rw [lent_get] at h
    cases e : ρ[i]? with
    | none => rw [e] at h; cases h
    | some s => rw [e] at h; cases s <;> cases h
theorem pm_lend (h : PM (ctOf X) W true X e ma) : PM (ctOf X) W b X e (mLend ma) := PE_imp h fun σ H Q h => by
  obtain ⟨cf, oa, P, β, ρ, S, L, h⟩ := h
  refine ⟨cf, _, _, β, lent ρ, S, L.lend, ?_⟩
  unfold mLend at h
  cases ea : ma (lent ρ) S with
  | stuck => rw [ea] at h; exact h
  | exc e S1 => rw [ea] at h; exact h.elim
  | ok d S1 =>
    rw [ea] at h
    simp only at h
    intro v H1 β1 e1 L1 r
    obtain ⟨q1, q2, q3⟩ := e1.ro rfl
    subst q2 q3
    by_cases hf : flat d = true
    · rw [if_pos hf] at h
      exact h v H1 _ (Tr.same q1) (L.same q1) (flat_rv r hf)
    · rw [if_neg hf] at h; exact h.elim
theorem pb_lend {ka : BX} (h : PB (ctOf X) W true X e ka) : PB (ctOf X) W b X e (bLend ka) := PT_imp h fun σ H Q h => by
  obtain ⟨cf, oa, P, β, ρ, S, L, h⟩ := h
  refine ⟨cf, _, _, β, lent ρ, S, L.lend, ?_⟩
  unfold bLend at h
  cases ea : ka (lent ρ) S with
  | stuck => rw [ea] at h; exact h
  | exc e S1 => rw [ea] at h; exact h.elim
  | ok d S1 =>
    rw [ea] at h
    intro H1 β1 e1 L1
    obtain ⟨q1, q2, q3⟩ := e1.ro rfl
    subst q2 q3
    exact h H1 _ (Tr.same q1) (L.same q1)
/-- .. as a thing of the store -/
theorem pm_box (h : PN (ctOf X) W false X e ma) : PM (ctOf X) W false X e (mBox ma) := PE_imp h fun σ H Q h => by
  obtain ⟨cf, oa, P, β, ρ, S, L, h⟩ := h
  refine ⟨cf, oa, P, β, ρ, S, L, ?_⟩
  unfold mBox at h
  cases ea : ma ρ S with
  | stuck => rw [ea] at h; exact h
  | exc e S1 => rw [ea] at h; exact h
  | ok d S1 =>
    rw [ea] at h
    simp only [R.bind] at h
    intro p H1 β1 t1 hn L1 o
    have e1 := t1.ext
    have hb := (L1.p p (.inr rfl)).2
    -- the list at p is no longer kept apart, it is of the store
    have L2 := L1.forget L.sub fun i a h => (L.own i a h).1
    cases es : soOf d with
    | none => rw [es] at h; exact h.elim
    | some so =>
      rw [es] at h
      have nP : ¬ P p := L.npP hn
      have ext : Ext H β H1 (β1 ++ [p]) := by
        obtain ⟨γ, g⟩ := e1.pre
        refine ⟨⟨γ ++ [p], by rw [g, List.append_assoc]⟩, e1.keep, fun b hb => ?_, e1.tups, e1.stay⟩
        rcases List.mem_append.mp hb with hb | hb
        · exact e1.fresh b hb
        · rw [List.mem_singleton.mp hb]; exact .inr hn
      -- the slots' and the store's values do not lean on p: they avoid it
      have more : ∀ {v : V} {x : D}, RV (ctOf X) H1 (fun b => P b ∨ b = p) β1 v x → RV (ctOf X) H1 P (β1 ++ [p]) v x := fun r => RV.toBox r
      have mores : ∀ {v : List V} {x : List D}, RVs (ctOf X) H1 (fun b => P b ∨ b = p) β1 v x → RVs (ctOf X) H1 P (β1 ++ [p]) v x := fun r => RVs.toBox r
      have morek : ∀ {v : List (Key × V)} {x : List (Key × D)}, RKs (ctOf X) H1 (fun b => P b ∨ b = p) β1 v x → RKs (ctOf X) H1 P (β1 ++ [p]) v x := fun r => RKs.toBox r
      have sok : ∀ {a : Addr} {s : SO}, SOK (ctOf X) H1 (fun b => P b ∨ b = p) β1 a s → SOK (ctOf X) H1 P (β1 ++ [p]) a s := fun {a s} q => by
        cases s with
        | lst ds => obtain ⟨xs, q, r⟩ := q; exact ⟨xs, q, mores r⟩
        | dct ds => obtain ⟨xs, q, r⟩ := q; exact ⟨xs, q, morek r⟩
        | ins c fs => obtain ⟨Ca, dx, vs, m, q, n, r⟩ := q; exact ⟨Ca, dx, vs, m, q, n, mores r⟩
      have new : SOK (ctOf X) H1 P (β1 ++ [p]) p so := by
        cases d <;> first | (cases es; done) | skip
        · cases es; obtain ⟨xs, q, r⟩ := o; exact ⟨xs, q, mores r⟩
        · cases es; obtain ⟨xs, q, r⟩ := o; exact ⟨xs, q, morek r⟩
      have st : SRel (ctOf X) H1 P (β1 ++ [p]) (S1 ++ [so]) := by
        refine ⟨by simp [L1.st.len], ?_, fun n a sb h1 h2 => ?_⟩
        · rw [List.nodup_append]
          exact ⟨L1.st.nd, by simp, fun x hx y hy => by rw [List.mem_singleton.mp hy]; exact fun z => hb (z ▸ hx)⟩
        · by_cases hn : n < β1.length
          · rw [List.getElem?_append_left hn] at h1
            rw [List.getElem?_append_left (by rw [← L1.st.len]; exact hn)] at h2
            exact sok (L1.st.ok n a sb h1 h2)
          · have hl : n = β1.length := by
              have := (List.getElem?_eq_some_iff.mp h1).1
              simp at this; omega
            subst hl
            rw [List.getElem?_append_right (Nat.le_refl _)] at h1
            rw [L1.st.len, List.getElem?_append_right (Nat.le_refl _)] at h2
            simp at h1 h2
            subst h1; subst h2
            exact new
      have L3 : LR (ctOf X) cf oa P σ H1 (β1 ++ [p]) ρ (S1 ++ [so]) := by
        refine ⟨L1.len, fun a h => ⟨(L2.p a h).1, fun z => ?_⟩, L.sub, L.p0, ?_, L2.own, L1.inj, st, fun i x h => ?_, fun i x h => ?_⟩
        · rcases List.mem_append.mp z with z | z
          · exact (L2.p a h).2 z
          · exact nP (List.mem_singleton.mp z ▸ h)
        · exact L.ext.step ext
        · obtain ⟨v, q1, q2⟩ := L1.slot i x h
          exact ⟨v, q1, more q2⟩
        · obtain ⟨a, q1, q2, q3⟩ := L1.oslot i x h
          refine ⟨a, q1, q2, ?_⟩
          cases x <;> first | exact q3.elim | skip
          · obtain ⟨xs, q, r⟩ := q3; exact ⟨xs, q, mores r⟩
          · obtain ⟨xs, q, r⟩ := q3; exact ⟨xs, q, morek r⟩
      refine h (.ref p) H1 (β1 ++ [p]) ⟨ext, fun e => nomatch e⟩ L3 (.ref ?_)
      rw [← L1.st.len, List.getElem?_append_right (Nat.le_refl _)]
      simp
variable {x : Str} {p : Pos} {id T : String} {r : List V → Hp → VK → Prop} {f : Store → List D → Option D}
theorem pm_callB (hc : CallR X (.builtin id) r) (hf : FnM X r f) (hm : X.mg x = none) (hv : bootBuiltins x = some (.builtin id)) (ha : PAM (ctOf X) W b X (e :: es) mas)
    (hg : Gl X x := by rfl) (hn : x ≠ "__name__" := by decide) (hdb : (x == ("__debug__" : Str)) = false := by decide) (he : starEach (e :: es) X.env = (false, eval e X.env) :: starEach es X.env := by rfl) (hpl : (backTo pos (starEach es X.env)).any (·.1) = false := by rfl) :
    PM (ctOf X) W b X (.Call (.Name x p) (e :: es) [] pos) (mFun f mas) := PE_imp (pe_callB hc hg hm hv ha hn hdb he hpl) fun σ H Q h => amF hf h
theorem pn_callB (hc : CallR X (.builtin id) r) (hf : FnN X r f) (hm : X.mg x = none) (hv : bootBuiltins x = some (.builtin id)) (ha : PAM (ctOf X) W b X (e :: es) mas)
    (hg : Gl X x := by rfl) (hn : x ≠ "__name__" := by decide) (hdb : (x == ("__debug__" : Str)) = false := by decide) (he : starEach (e :: es) X.env = (false, eval e X.env) :: starEach es X.env := by rfl) (hpl : (backTo pos (starEach es X.env)).any (·.1) = false := by rfl) :
    PN (ctOf X) W b X (.Call (.Name x p) (e :: es) [] pos) (mFun f mas) := PE_imp (pe_callB hc hg hm hv ha hn hdb he hpl) fun σ H Q h => aoF hf h
theorem pm_callT (hc : CallR X (.type T) r) (hf : FnM X r f) (hm : X.mg x = none) (hv : bootBuiltins x = some (.type T)) (ha : PAM (ctOf X) W b X (e :: es) mas)
    (hg : Gl X x := by rfl) (hn : x ≠ "__name__" := by decide) (hdb : (x == ("__debug__" : Str)) = false := by decide) (he : starEach (e :: es) X.env = (false, eval e X.env) :: starEach es X.env := by rfl) (hpl : (backTo pos (starEach es X.env)).any (·.1) = false := by rfl) :
    PM (ctOf X) W b X (.Call (.Name x p) (e :: es) [] pos) (mFun f mas) := PE_imp (pe_callTy hc hg hm hv ha hn hdb he hpl) fun σ H Q h => amF hf h
theorem pn_callT (hc : CallR X (.type T) r) (hf : FnN X r f) (hm : X.mg x = none) (hv : bootBuiltins x = some (.type T)) (ha : PAM (ctOf X) W b X (e :: es) mas)
    (hg : Gl X x := by rfl) (hn : x ≠ "__name__" := by decide) (hdb : (x == ("__debug__" : Str)) = false := by decide) (he : starEach (e :: es) X.env = (false, eval e X.env) :: starEach es X.env := by rfl) (hpl : (backTo pos (starEach es X.env)).any (·.1) = false := by rfl) :
    PN (ctOf X) W b X (.Call (.Name x p) (e :: es) [] pos) (mFun f mas) := PE_imp (pe_callTy hc hg hm hv ha hn hdb he hpl) fun σ H Q h => aoF hf h
end
end Mi

/-! Mi4: tests, truth, conditional expressions, chains. -/
namespace Mi
open PySem PySem.Spec PyProof.Rows L2

def asB (d : D) : Option Bool := match d with
  | .bl b => some b
  | _ => none
/-- the items of a list, a list of the store too -/
def viewL (S : Store) : D → Option (List D)
  | .lst xs => some xs
  | .ref n => match S[n]? with
    | some (.lst xs) => some xs
    | _ => none
  | _ => none
def viewT : D → Option (List D)
  | .tup xs => some xs
  | _ => none
def viewK (S : Store) : D → Option (List (Key × D))
  | .dct xs => some xs
  | .ref n => match S[n]? with
    | some (.dct xs) => some xs
    | _ => none
  | _ => none
def tru (S : Store) (d : D) : Option Bool := match d with
  | .non => some false
  | .bl b => some b
  | .int i => some (i != 0)
  | .str y => if y.length ≤ sizeLine then some ((y.length : Int) != 0) else none
  | .tup xs => some (!xs.isEmpty)
  | d => match viewL S d with
    | some xs => some (!xs.isEmpty)
    | none => match viewK S d with
      | some xs => some (!xs.isEmpty)
      | none => none
def bTru (a : EX) : BX := fun ρ S => (a ρ S).bind fun x S1 => R.opt (tru S1 x) S1
def bOf (a : EX) : BX := fun ρ S => (a ρ S).bind fun x S1 => R.opt (asB x) S1
def bAnd (a b : BX) : BX := fun ρ S => (a ρ S).bind fun x S1 => if x = true then b ρ S1 else .ok false S1
def bOr (a b : BX) : BX := fun ρ S => (a ρ S).bind fun x S1 => if x = true then .ok true S1 else b ρ S1
def bNot (a : BX) : BX := fun ρ S => (a ρ S).bind fun x S1 => .ok (!x) S1
def mIf (c : BX) (a b : EX) : EX := fun ρ S => (c ρ S).bind fun x S1 => if x = true then a ρ S1 else b ρ S1
def mAnd (a b : EX) : EX := fun ρ S => (a ρ S).bind fun x S1 => (R.opt (tru S1 x) S1).bind fun k S2 => if k = true then b ρ S2 else .ok x S2
def mOr (a b : EX) : EX := fun ρ S => (a ρ S).bind fun x S1 => (R.opt (tru S1 x) S1).bind fun k S2 => if k = true then .ok x S2 else b ρ S2
def mNot (a : EX) : EX := fun ρ S => (a ρ S).bind fun x S1 => (R.opt (tru S1 x) S1).bind fun k S2 => .ok (.bl (!k)) S2
/-- a < b < c -/
def mChain (f g : Store → D → D → Option D) (a b c : EX) : EX := fun ρ S => (a ρ S).bind fun x S1 => (b ρ S1).bind fun y S2 => (R.opt ((f S2 x y).bind asB) S2).bind fun k S3 =>
  if k = true then (c ρ S3).bind fun z S4 => R.opt (g S4 y z) S4 else .ok (.bl false) S3

section
variable {C : Ct} {H : Hp} {Z : Addr → Prop} {β : List Addr} {S : Store} {v : V} {d : D}
theorem sqL_of_rd {K : PySem.W.Frag} {a : Addr} {xs : List V} (h : Rd H a (.lst xs)) : SqL K H a xs := .inl h
theorem sqT_of_rd {K : PySem.W.Frag} {a : Addr} {xs : List V} (h : Rd H a (.tup xs)) : SqT K H a xs := .inl h
/-- a list seen -/
theorem RV.viewL (r : RV C H Z β v d) (s : SRel C H Z β S) {ds : List D} (h : Mi.viewL S d = some ds) : ∃ a xs, v = .ref a ∧ SqL C.K H a xs ∧ RVs C H Z β xs ds := by
  cases r with
  | lst hp hb hr hs => cases h; exact ⟨_, _, rfl, .inl hr, hs⟩
  | klst k hs => cases h; exact ⟨_, _, rfl, .inr k, hs⟩
  | ref hn =>
    simp only [Mi.viewL] at h
    split at h
    · rename_i xs e
      cases h
      have q := s.ok _ _ _ hn e
      obtain ⟨us, q1, q2⟩ := q
      exact ⟨_, _, rfl, .inl (.inl q1), q2⟩
    · cases h
  | _ => cases h
theorem RV.viewT (r : RV C H Z β v d) {ds : List D} (h : Mi.viewT d = some ds) : ∃ a xs, v = .ref a ∧ SqT C.K H a xs ∧ RVs C H Z β xs ds := by
  cases r with
  | tup hr hs => cases h; exact ⟨_, _, rfl, .inl hr, hs⟩
  | ktup k hs => cases h; exact ⟨_, _, rfl, .inr k, hs⟩
  | _ => cases h
theorem RV.viewK (r : RV C H Z β v d) (s : SRel C H Z β S) {ds : List (Key × D)} (h : Mi.viewK S d = some ds) : ∃ a xs, v = .ref a ∧ Rd H a (.dK xs) ∧ RKs C H Z β xs ds := by
  cases r with
  | dct hp hb hr hs => cases h; exact ⟨_, _, rfl, hr, hs⟩
  | ref hn =>
    simp only [Mi.viewK] at h
    split at h
    · rename_i xs e
      cases h
      have q := s.ok _ _ _ hn e
      obtain ⟨us, q1, q2⟩ := q
      exact ⟨_, _, rfl, .inl q1, q2⟩
    · cases h
  | _ => cases h
end

section
variable {X : Cx} {W : WX} {b : Bool}
/-- truth, a dict that a loop has locked too -/
def TruVR (K : PySem.W.Frag) (x : V) (H : Hp) (k : Bool) : Prop := TruV K x H k ∨ ∃ p kvs, x = .ref p ∧ Rd H p (.dK kvs) ∧ k = !kvs.isEmpty
theorem tru_okR : TruR X (fun x H Q => ∃ k, TruVR X.K x H k ∧ Q k H) := by
  intro pins s σ H x v Q I rx h
  obtain ⟨k, e, q⟩ := h
  rcases e with e | ⟨p, kvs, rfl, hr, rfl⟩
  · exact tru_ok pins s σ H x v Q I rx ⟨k, e, q⟩
  · cases rx
    obtain ⟨hz, hS, vs, r, m⟩ := dk_rd I.hok hr
    have hl := line63
    have hlen : kvs.length = vs.length := Paired.length r
    exact wpAny_truthy_dict hS m (by omega) ⟨H, I.tok _, by rw [isEmpty_kv r]; exact q⟩
theorem isEmpty_rvs {C : Ct} {H : Hp} {Z : Addr → Prop} {β : List Addr} {xs : List V} {ds : List D} (h : RVs C H Z β xs ds) : xs.isEmpty = ds.isEmpty := by
  cases h <;> rfl
theorem isEmpty_rks {C : Ct} {H : Hp} {Z : Addr → Prop} {β : List Addr} {xs : List (Key × V)} {ds : List (Key × D)} (h : RKs C H Z β xs ds) : xs.isEmpty = ds.isEmpty := by
  cases h <;> rfl
theorem truM {Z : Addr → Prop} {H : Hp} {β : List Addr} {S : Store} {x : V} {d : D} {k : Bool} (A : At (ctOf X) H Z β S) (r : RV (ctOf X) H Z β x d) (h : tru S d = some k) : TruVR X.K x H k := by
  have tail : ∀ {d : D}, RV (ctOf X) H Z β x d → (match viewL S d with
    | some xs => some (!xs.isEmpty)
    | none => match viewK S d with
      | some xs => some (!xs.isEmpty)
      | none => none) = some k → TruVR X.K x H k := fun {d} r h => by
    cases e : viewL S d with
    | some ds =>
      rw [e] at h
      cases h
      obtain ⟨a, xs, rfl, q1, q2⟩ := r.viewL A.st e
      exact .inl (.inl ⟨xs, q1, by rw [isEmpty_rvs q2]⟩)
    | none =>
      rw [e] at h
      cases e2 : viewK S d with
      | none => rw [e2] at h; cases h
      | some ds =>
        rw [e2] at h
        cases h
        obtain ⟨a, xs, rfl, q1, q2⟩ := r.viewK A.st e2
        exact .inr ⟨a, xs, rfl, q1, by rw [isEmpty_rks q2]⟩
  unfold tru at h
  cases d with
  | non => cases r; cases h; exact .inl rfl
  | bl b => cases r; cases h; exact .inl rfl
  | int i => cases r; cases h; exact .inl rfl
  | str y =>
    cases r
    simp only at h
    split at h
    · cases h; exact .inl ⟨by assumption, rfl⟩
    · cases h
  | tup xs =>
    cases h
    obtain ⟨a, us, rfl, q1, q2⟩ := r.viewT rfl
    exact .inl (.inr (.inl ⟨us, q1, by rw [isEmpty_rvs q2]⟩))
  | lst xs => exact tail r h
  | dct xs => exact tail r h
  | ref n => exact tail r h
  | ty n => exact tail r h
  | fn n => exact tail r h

theorem bm_em {m : EX} {σ : L2.St} {H : Hp} {Q : Bool → Hp → Prop} (h : BM (ctOf X) W b (bOf m) σ H Q) : EM (ctOf X) W b m σ H fun x H' => ∃ k, x = .bl k ∧ Q k H' := by
  obtain ⟨cf, oa, P, β, ρ, S, L, h⟩ := h
  refine ⟨cf, oa, P, β, ρ, S, L, ?_⟩
  unfold bOf at h
  cases ea : m ρ S with
  | stuck => rw [ea] at h; exact h
  | exc e S1 => rw [ea] at h; exact h
  | ok d S1 =>
    rw [ea] at h
    intro v H1 β1 e1 L1 r
    cases d with
    | bl k => cases r; exact ⟨k, rfl, h H1 β1 e1 L1⟩
    | _ => exact h.elim
theorem bm_tru {m : EX} {σ : L2.St} {H : Hp} {Q : Bool → Hp → Prop} (h : BM (ctOf X) W b (bTru m) σ H Q) : EM (ctOf X) W b m σ H fun x H' => ∃ k, TruVR X.K x H' k ∧ Q k H' := by
  obtain ⟨cf, oa, P, β, ρ, S, L, h⟩ := h
  refine ⟨cf, oa, P, β, ρ, S, L, ?_⟩
  unfold bTru at h
  cases ea : m ρ S with
  | stuck => rw [ea] at h; exact h
  | exc e S1 => rw [ea] at h; exact h
  | ok d S1 =>
    rw [ea] at h
    intro v H1 β1 e1 L1 r
    simp only [R.bind] at h
    cases et : tru S1 d with
    | none => rw [et] at h; exact h.elim
    | some k => rw [et] at h; exact ⟨k, truM L1.at r et, h H1 β1 e1 L1⟩

variable {a b' c e : Expr} {es rest : List Expr} {ma mb mc : EX} {ka kb : BX} {mas : AX} {pos : Pos}
theorem pb_cmp {op : CmpOp} {r : R2} {f : Store → D → D → Option D} (ho : OpR X (compareOp op) r) (hm : OpM X r f) (ha : PM (ctOf X) W b X a ma) (hb : PM (ctOf X) W b X b' mb) (hk : behindInMarks op b' = false := by first | exact nobehind _ (by decide) (by decide) | rfl) :
    PB (ctOf X) W b X (.Compare a [op] [b'] pos) (bOf (mBin f ma mb)) := PT_imp (pt_cmpR ho ha hb hk) fun σ H Q h => em2 hm (bm_em h)
/-- a test that is the truth of a value -/
theorem pb_val (h : PM (ctOf X) W b X e ma) (he : ∀ whole, isTrue e X.env whole = (do let v ← whole; standAt e.pos; holding [v] (truthy v)) := by intro _; rfl) : PB (ctOf X) W b X e (bTru ma) := by
  refine PT_imp (t := fun σ H Q => EM (ctOf X) W b ma σ H fun x H' => ∃ k, TruVR X.K x H' k ∧ Q k H') ⟨fun pins s σ H Q I h' => ?_⟩ fun σ H Q h => bm_tru h
  exact isTrue_plain (thn (h.run pins s σ H _ I h') fun v s1 ⟨x, H1, I1, r1, q1⟩ => tru_okR pins s1 σ H1 x v Q I1 r1 q1) (he _)
structure PBW (C : Ct) (W : WX) (b : Bool) (X : Cx) (e : Expr) (m : BX) : Prop where
  pw : PW X e (BM C W b m)
theorem PW_imp {X : Cx} {e : Expr} {t t' : TT} (h : PW X e t) (i : ∀ σ H Q, t' σ H Q → t σ H Q) : PW X e t' := ⟨fun wh pins s σ H Q I hw => h.run wh pins s σ H Q I (i σ H Q hw)⟩
theorem bm2 {k1 k2 : BX} {σ : L2.St} {H : Hp} {Q : Bool → Hp → Prop} (h : BM (ctOf X) W b (bAnd k1 k2) σ H Q) : tAnd (BM (ctOf X) W b k1) (BM (ctOf X) W b k2) σ H Q := by
  obtain ⟨cf, oa, P, β, ρ, S, L, h⟩ := h
  refine ⟨cf, oa, P, β, ρ, S, L, ?_⟩
  unfold bAnd at h
  cases ea : k1 ρ S with
  | stuck => rw [ea] at h; exact h
  | exc e S1 => rw [ea] at h; exact h
  | ok k S1 =>
    rw [ea] at h
    simp only [R.bind] at h
    intro H1 β1 e1 L1
    cases k with
    | false => rw [if_neg Bool.false_ne_true] at h ⊢; exact h H1 β1 e1 L1
    | true =>
      rw [if_pos rfl] at h ⊢
      refine ⟨cf, oa, P, β1, ρ, S1, L1, ?_⟩
      cases eb : k2 ρ S1 with
      | stuck => rw [eb] at h; exact h
      | exc e S2 => rw [eb] at h; intro cls d H' β' e2 L2 ex; exact h cls d H' β' (e1.trans e2) L2 ex
      | ok k' S2 => rw [eb] at h; intro H2 β2 e2 L2; exact h H2 β2 (e1.trans e2) L2
theorem bm2o {k1 k2 : BX} {σ : L2.St} {H : Hp} {Q : Bool → Hp → Prop} (h : BM (ctOf X) W b (bOr k1 k2) σ H Q) : tOr (BM (ctOf X) W b k1) (BM (ctOf X) W b k2) σ H Q := by
  obtain ⟨cf, oa, P, β, ρ, S, L, h⟩ := h
  refine ⟨cf, oa, P, β, ρ, S, L, ?_⟩
  unfold bOr at h
  cases ea : k1 ρ S with
  | stuck => rw [ea] at h; exact h
  | exc e S1 => rw [ea] at h; exact h
  | ok k S1 =>
    rw [ea] at h
    simp only [R.bind] at h
    intro H1 β1 e1 L1
    cases k with
    | true => rw [if_pos rfl] at h ⊢; exact h H1 β1 e1 L1
    | false =>
      rw [if_neg Bool.false_ne_true] at h ⊢
      refine ⟨cf, oa, P, β1, ρ, S1, L1, ?_⟩
      cases eb : k2 ρ S1 with
      | stuck => rw [eb] at h; exact h
      | exc e S2 => rw [eb] at h; intro cls d H' β' e2 L2 ex; exact h cls d H' β' (e1.trans e2) L2 ex
      | ok k' S2 => rw [eb] at h; intro H2 β2 e2 L2; exact h H2 β2 (e1.trans e2) L2
theorem pbw_and1 (ha : PB (ctOf X) W b X a ka) : PBW (ctOf X) W b X (.BoolOp .And [a] pos) ka := ⟨pw_and1 ha⟩
theorem pbw_or1 (ha : PB (ctOf X) W b X a ka) : PBW (ctOf X) W b X (.BoolOp .Or [a] pos) ka := ⟨pw_or1 ha⟩
theorem pbw_and (ha : PB (ctOf X) W b X a ka) (hb : PBW (ctOf X) W b X (.BoolOp .And (b' :: rest) pos) kb) : PBW (ctOf X) W b X (.BoolOp .And (a :: b' :: rest) pos) (bAnd ka kb) :=
  ⟨PW_imp (pw_and ha hb.pw) fun σ H Q h => bm2 h⟩
theorem pbw_or (ha : PB (ctOf X) W b X a ka) (hb : PBW (ctOf X) W b X (.BoolOp .Or (b' :: rest) pos) kb) : PBW (ctOf X) W b X (.BoolOp .Or (a :: b' :: rest) pos) (bOr ka kb) :=
  ⟨PW_imp (pw_or ha hb.pw) fun σ H Q h => bm2o h⟩
theorem pb_w (h : PBW (ctOf X) W b X e ka) : PB (ctOf X) W b X e ka := h.pw.pt
theorem pb_not (h : PB (ctOf X) W b X a ka) : PB (ctOf X) W b X (.UnaryOp .Not a pos) (bNot ka) := PT_imp (pt_not h) fun σ H Q h => by
  obtain ⟨cf, oa, P, β, ρ, S, L, h⟩ := h
  refine ⟨cf, oa, P, β, ρ, S, L, ?_⟩
  unfold bNot at h
  cases ea : ka ρ S with
  | stuck => rw [ea] at h; exact h
  | exc e S1 => rw [ea] at h; exact h
  | ok k S1 => rw [ea] at h; exact h
theorem pm_ifE (hc : PB (ctOf X) W b X c ka) (ha : PM (ctOf X) W b X a ma) (hb : PM (ctOf X) W b X b' mb) : PM (ctOf X) W b X (.IfExp c a b' pos) (mIf ka ma mb) := PE_imp (pe_ifExp hc ha hb) fun σ H Q h => by
  obtain ⟨cf, oa, P, β, ρ, S, L, h⟩ := h
  refine ⟨cf, oa, P, β, ρ, S, L, ?_⟩
  unfold mIf at h
  cases ea : ka ρ S with
  | stuck => rw [ea] at h; exact h
  | exc e S1 => rw [ea] at h; exact h
  | ok k S1 =>
    rw [ea] at h
    simp only [R.bind] at h
    intro H1 β1 e1 L1
    cases k with
    | true =>
      rw [if_pos rfl] at h ⊢
      refine ⟨cf, oa, P, β1, ρ, S1, L1, ?_⟩
      cases eb : ma ρ S1 with
      | stuck => rw [eb] at h; exact h
      | exc e S2 => rw [eb] at h; intro cls d H' β' e2 L2 ex; exact h cls d H' β' (e1.trans e2) L2 ex
      | ok d S2 => rw [eb] at h; intro v H2 β2 e2 L2 r; exact h v H2 β2 (e1.trans e2) L2 r
    | false =>
      rw [if_neg Bool.false_ne_true] at h ⊢
      refine ⟨cf, oa, P, β1, ρ, S1, L1, ?_⟩
      cases eb : mb ρ S1 with
      | stuck => rw [eb] at h; exact h
      | exc e S2 => rw [eb] at h; intro cls d H' β' e2 L2 ex; exact h cls d H' β' (e1.trans e2) L2 ex
      | ok d S2 => rw [eb] at h; intro v H2 β2 e2 L2 r; exact h v H2 β2 (e1.trans e2) L2 r
/-! and, or, not as values -/
def tOrR (K : PySem.W.Frag) (ta tb : TE) : TE := fun σ H Q => ta σ H fun x H1 => ∃ k, TruVR K x H1 k ∧ if k = true then Q x H1 else tb σ H1 Q
def tAndR (K : PySem.W.Frag) (ta tb : TE) : TE := fun σ H Q => ta σ H fun x H1 => ∃ k, TruVR K x H1 k ∧ if k = true then tb σ H1 Q else Q x H1
def tNotR (K : PySem.W.Frag) (ta : TE) : TE := fun σ H Q => ta σ H fun x H1 => ∃ k, TruVR K x H1 k ∧ Q (.bl (!k)) H1
theorem pe_orR {ta tb : TE} (ha : PE X a ta) (hb : PE X (.BoolOp .Or (b' :: rest) pos) tb) : PE X (.BoolOp .Or (a :: b' :: rest) pos) (tOrR X.K ta tb) := by
  refine ⟨fun pins s σ H Q I h => ?_⟩
  refine BoolOp_or (thn (ha.run pins s σ H _ I h) fun v s1 ⟨x, H1, I1, r1, q1⟩ => ?_)
  obtain ⟨k, e, q1⟩ := q1
  refine thn (tru_okR pins s1 σ H1 x v (fun c H2 => c = k ∧ H2 = H1) I1 r1 ⟨k, e, rfl, rfl⟩) fun c s2 hc => ?_
  obtain ⟨H2, I2, e1, e2⟩ := hc
  rw [e2] at I2
  rw [← e1] at q1
  cases c with
  | true => exact ⟨x, H1, I2, r1, q1⟩
  | false => exact hb.run pins s2 σ H1 Q I2 q1
theorem pe_andR {ta tb : TE} (ha : PE X a ta) (hb : PE X (.BoolOp .And (b' :: rest) pos) tb) : PE X (.BoolOp .And (a :: b' :: rest) pos) (tAndR X.K ta tb) := by
  refine ⟨fun pins s σ H Q I h => ?_⟩
  refine BoolOp_and (thn (ha.run pins s σ H _ I h) fun v s1 ⟨x, H1, I1, r1, q1⟩ => ?_)
  obtain ⟨k, e, q1⟩ := q1
  refine thn (tru_okR pins s1 σ H1 x v (fun c H2 => c = k ∧ H2 = H1) I1 r1 ⟨k, e, rfl, rfl⟩) fun c s2 hc => ?_
  obtain ⟨H2, I2, e1, e2⟩ := hc
  rw [e2] at I2
  rw [← e1] at q1
  cases c with
  | true => exact hb.run pins s2 σ H1 Q I2 q1
  | false => exact ⟨x, H1, I2, r1, q1⟩
theorem pe_notR {ta : TE} (ha : PE X a ta) : PE X (.UnaryOp .Not a pos) (tNotR X.K ta) := by
  refine ⟨fun pins s σ H Q I h => ?_⟩
  refine UnaryOp_ (thn (ha.run pins s σ H _ I h) fun v s1 ⟨x, H1, I1, r1, q1⟩ => ?_)
  obtain ⟨k, e, q1⟩ := q1
  exact not_of (thn (tru_okR pins s1 σ H1 x v (fun c H2 => Q (.bl (!c)) H2) I1 r1 ⟨k, e, q1⟩) fun c s2 ⟨H2, I2, q2⟩ => ⟨.bl (!c), H2, I2, rfl, q2⟩)
theorem pm_one {op : BoolOp} (h : PM (ctOf X) W b X a ma) : PM (ctOf X) W b X (.BoolOp op [a] pos) ma := pe_one h
theorem pm_or (ha : PM (ctOf X) W b X a ma) (hb : PM (ctOf X) W b X (.BoolOp .Or (b' :: rest) pos) mb) : PM (ctOf X) W b X (.BoolOp .Or (a :: b' :: rest) pos) (mOr ma mb) := PE_imp (pe_orR ha hb) fun σ H Q h => by
  obtain ⟨cf, oa, P, β, ρ, S, L, h⟩ := h
  refine ⟨cf, oa, P, β, ρ, S, L, ?_⟩
  unfold mOr at h
  cases ea : ma ρ S with
  | stuck => rw [ea] at h; exact h
  | exc e S1 => rw [ea] at h; exact h
  | ok d S1 =>
    rw [ea] at h
    simp only [R.bind] at h
    intro v H1 β1 e1 L1 r
    cases et : tru S1 d with
    | none => rw [et] at h; exact h.elim
    | some k =>
      rw [et] at h
      simp only [R.opt] at h
      refine ⟨k, truM L1.at r et, ?_⟩
      cases k with
      | true => rw [if_pos rfl] at h ⊢; exact h v H1 β1 e1 L1 r
      | false =>
        rw [if_neg Bool.false_ne_true] at h ⊢
        refine ⟨cf, oa, P, β1, ρ, S1, L1, ?_⟩
        cases eb : mb ρ S1 with
        | stuck => rw [eb] at h; exact h
        | exc e S2 => rw [eb] at h; intro cls d H' β' e2 L2 ex; exact h cls d H' β' (e1.trans e2) L2 ex
        | ok d S2 => rw [eb] at h; intro v H2 β2 e2 L2 r; exact h v H2 β2 (e1.trans e2) L2 r
theorem pm_and (ha : PM (ctOf X) W b X a ma) (hb : PM (ctOf X) W b X (.BoolOp .And (b' :: rest) pos) mb) : PM (ctOf X) W b X (.BoolOp .And (a :: b' :: rest) pos) (mAnd ma mb) := PE_imp (pe_andR ha hb) fun σ H Q h => by
  obtain ⟨cf, oa, P, β, ρ, S, L, h⟩ := h
  refine ⟨cf, oa, P, β, ρ, S, L, ?_⟩
  unfold mAnd at h
  cases ea : ma ρ S with
  | stuck => rw [ea] at h; exact h
  | exc e S1 => rw [ea] at h; exact h
  | ok d S1 =>
    rw [ea] at h
    simp only [R.bind] at h
    intro v H1 β1 e1 L1 r
    cases et : tru S1 d with
    | none => rw [et] at h; exact h.elim
    | some k =>
      rw [et] at h
      simp only [R.opt] at h
      refine ⟨k, truM L1.at r et, ?_⟩
      cases k with
      | false => rw [if_neg Bool.false_ne_true] at h ⊢; exact h v H1 β1 e1 L1 r
      | true =>
        rw [if_pos rfl] at h ⊢
        refine ⟨cf, oa, P, β1, ρ, S1, L1, ?_⟩
        cases eb : mb ρ S1 with
        | stuck => rw [eb] at h; exact h
        | exc e S2 => rw [eb] at h; intro cls d H' β' e2 L2 ex; exact h cls d H' β' (e1.trans e2) L2 ex
        | ok d S2 => rw [eb] at h; intro v H2 β2 e2 L2 r; exact h v H2 β2 (e1.trans e2) L2 r
theorem pm_not (ha : PM (ctOf X) W b X a ma) : PM (ctOf X) W b X (.UnaryOp .Not a pos) (mNot ma) := PE_imp (pe_notR ha) fun σ H Q h => by
  obtain ⟨cf, oa, P, β, ρ, S, L, h⟩ := h
  refine ⟨cf, oa, P, β, ρ, S, L, ?_⟩
  unfold mNot at h
  cases ea : ma ρ S with
  | stuck => rw [ea] at h; exact h
  | exc e S1 => rw [ea] at h; exact h
  | ok d S1 =>
    rw [ea] at h
    simp only [R.bind] at h
    intro v H1 β1 e1 L1 r
    cases et : tru S1 d with
    | none => rw [et] at h; exact h.elim
    | some k =>
      rw [et] at h
      exact ⟨k, truM L1.at r et, h _ H1 β1 e1 L1 (.bl _)⟩
theorem chain_imp {f g : Store → D → D → Option D} {r r' : R2} {σ : L2.St} {H : Hp} {Q : VK} (hf : OpM X r f) (hg : OpM X r' g) (h : EM (ctOf X) W b (mChain f g ma mb mc) σ H Q) :
    tChain r r' (EM (ctOf X) W b ma) (EM (ctOf X) W b mb) (EM (ctOf X) W b mc) σ H Q := by
  obtain ⟨cf, oa, P, β, ρ, S, L, h⟩ := h
  refine ⟨cf, oa, P, β, ρ, S, L, ?_⟩
  unfold mChain at h
  cases ea : ma ρ S with
  | stuck => rw [ea] at h; exact h
  | exc e S1 => rw [ea] at h; exact h
  | ok dx S1 =>
    rw [ea] at h
    simp only [R.bind] at h
    intro x H1 β1 e1 L1 rx
    refine ⟨cf, oa, P, β1, ρ, S1, L1, ?_⟩
    cases eb : mb ρ S1 with
    | stuck => rw [eb] at h; exact h
    | exc e S2 => rw [eb] at h; intro cls d H' β' e2 L2 ex; exact h cls d H' β' (e1.trans e2) L2 ex
    | ok dy S2 =>
      rw [eb] at h
      simp only [R.bind] at h
      intro y H2 β2 e2 L2 ry
      cases ef : f S2 dx dy with
      | none => rw [ef] at h; exact h.elim
      | some dk =>
        rw [ef] at h
        refine hf P H2 β2 S2 x y dx dy dk _ L2.at (rx.mono e2.ext) ry ef fun v H3 e3 r3 => ?_
        cases dk with
        | bl k =>
          cases r3
          refine ⟨k, rfl, ?_⟩
          simp only [asB, Option.bind, R.opt] at h
          cases k with
          | false => rw [if_neg Bool.false_ne_true] at h ⊢; exact h _ H3 β2 (e1.trans (e2.trans (Tr.same e3))) (L2.same e3) (.bl _)
          | true =>
            rw [if_pos rfl] at h ⊢
            have L3 := L2.same e3
            refine ⟨cf, oa, P, β2, ρ, S2, L3, ?_⟩
            cases ec : mc ρ S2 with
            | stuck => rw [ec] at h; exact h
            | exc e S4 => rw [ec] at h; intro cls d H' β' e4 L4 ex; exact h cls d H' β' (e1.trans (e2.trans ((Tr.same e3).trans e4))) L4 ex
            | ok dz S4 =>
              rw [ec] at h
              simp only [R.bind] at h
              intro z H4 β4 e4 L4 rz
              cases eg : g S4 dy dz with
              | none => rw [eg] at h; exact h.elim
              | some dw =>
                rw [eg] at h
                exact hg P H4 β4 S4 y z dy dz dw Q L4.at ((ry.mono (Ext.same e3)).mono e4.ext) rz eg fun v H5 e5 r5 =>
                  h v H5 β4 (e1.trans (e2.trans ((Tr.same e3).trans (e4.trans (Tr.same e5))))) (L4.same e5) r5
        | _ => exact h.elim
theorem pm_chain {op op' : CmpOp} {f g : Store → D → D → Option D} {r r' : R2} (ho : OpR X (compareOp op) r) (hf : OpM X r f) (ho' : OpR X (compareOp op') r') (hg : OpM X r' g) (ha : PM (ctOf X) W b X a ma) (hb : PM (ctOf X) W b X b' mb) (hc : PM (ctOf X) W b X c mc)
    (hm : lastMarks [op, op'] [b', c] = false := by with_unfolding_all rfl) : PM (ctOf X) W b X (.Compare a [op, op'] [b', c] pos) (mChain f g ma mb mc) := PE_imp (pe_chain ho ho' ha hb hc hm) fun σ H Q h => chain_imp hf hg h
theorem pb_chain {op op' : CmpOp} {f g : Store → D → D → Option D} {r r' : R2} (ho : OpR X (compareOp op) r) (hf : OpM X r f) (ho' : OpR X (compareOp op') r') (hg : OpM X r' g) (ha : PM (ctOf X) W b X a ma) (hb : PM (ctOf X) W b X b' mb) (hc : PM (ctOf X) W b X c mc)
    (hm : lastMarks [op, op'] [b', c] = false := by with_unfolding_all rfl) : PB (ctOf X) W b X (.Compare a [op, op'] [b', c] pos) (bOf (mChain f g ma mb mc)) := PT_imp (pt_chain ho ho' ha hb hc hm) fun σ H Q h => chain_imp hf hg (bm_em h)
end
end Mi

/-! Mi5: statements, targets, loops over lists. -/
namespace Mi
open PySem PySem.Spec PyProof.Rows L2

/-! ### the pure side -/
def R.st {α : Type} (r : R α) (ρ : Rho) (k : α → Store → SR) : SR := match r with
  | .ok a S => k a S
  | .exc e S => .exc e ρ S
  | .stuck => .stuck
def sNil : SX := fun ρ S => .nx ρ S
def sSeq (s t : SX) : SX := fun ρ S => match s ρ S with
  | .nx ρ' S' => t ρ' S'
  | r => r
def sBreak : SX := fun ρ S => .bk ρ S
def sCont : SX := fun ρ S => .ct ρ S
def sExpr (a : EX) : SX := fun ρ S => (a ρ S).st ρ fun _ S' => .nx ρ S'
def sRet (a : EX) : SX := fun ρ S => (a ρ S).st ρ fun d S' => .rt d S'
def sRetN : SX := fun _ S => .rt .non S
/-- return x: the slot's own container goes with it -/
def sRetV (i : Nat) : SX := fun ρ S => match ρ[i]? with
  | some (Sl.sh d) => .rt d S
  | some (Sl.ow d) => .rt d S
  | _ => .stuck
def sIf (c : BX) (s t : SX) : SX := fun ρ S => (c ρ S).st ρ fun k S' => if k = true then s ρ S' else t ρ S'
def sSet (i : Nat) (a : EX) : SX := fun ρ S => (a ρ S).st ρ fun d S' => .nx (ρ.set i (.sh d)) S'
def sOwn (i : Nat) (a : EX) : SX := fun ρ S => (a ρ S).st ρ fun d S' => .nx (ρ.set i (.ow d)) S'
/-- from here on the slot's container may be known elsewhere -/
def shareSl : Option Sl → Option Sl
  | some (Sl.ow d) => some (.sh d)
  | _ => none
def sShare (i : Nat) (s : SX) : SX := fun ρ S => match ρ[i]? with
  | some (Sl.ow d) => s (ρ.set i (.sh d)) S
  | _ => s ρ S
abbrev GX := D → Rho → Store → Option (Rho × Store)
def gSet (i : Nat) : GX := fun d ρ S => some (ρ.set i (.sh d), S)
abbrev GXs := List D → Rho → Store → Option (Rho × Store)
def gsNil : GXs := fun ds ρ S => match ds with
  | [] => some (ρ, S)
  | _ => none
def gsCons (g : GX) (r : GXs) : GXs := fun ds ρ S => match ds with
  | d :: t => (g d ρ S).bind fun p => r t p.1 p.2
  | [] => none
def gUnp (g : GXs) : GX := fun d ρ S => (viewT d).bind fun ds => g ds ρ S
def sAsg (a : EX) (g : GX) : SX := fun ρ S => (a ρ S).st ρ fun d S' => match g d ρ S' with
  | some (ρ', S'') => .nx ρ' S''
  | none => .stuck
/-- a loop over known items -/
def forL (g : GX) (body : SX) : List D → SX
  | [], ρ, S => .nx ρ S
  | d :: ds, ρ, S => match g d ρ S with
    | none => .stuck
    | some (ρ1, S1) => match body ρ1 S1 with
      | .nx ρ' S' => forL g body ds ρ' S'
      | .ct ρ' S' => forL g body ds ρ' S'
      | .bk ρ' S' => .nx ρ' S'
      | r => r
def sFor (it : AX) (g : GX) (body : SX) : SX := fun ρ S => (it ρ S).st ρ fun ds S' => forL g body ds ρ S'
/-- while, at most n turns -/
def whileN (c : BX) (body : SX) : Nat → SX
  | 0, _, _ => .stuck
  | n + 1, ρ, S => (c ρ S).st ρ fun k S1 => if k = true then (match body ρ S1 with
      | .nx ρ' S' => whileN c body n ρ' S'
      | .ct ρ' S' => whileN c body n ρ' S'
      | .bk ρ' S' => .nx ρ' S'
      | r => r) else .nx ρ S1
def sWhile (n : Nat) (c : BX) (body : SX) : SX := whileN c body n
/-- a def's body as a function of its arguments; n: how many slots -/
def mDef (n : Nat) (body : SX) : FX := fun ds S => match body (ds.map Sl.sh ++ List.replicate (n - ds.length) Sl.un) S with
  | .nx _ S' => .ok .non S'
  | .rt d S' => .ok d S'
  | .exc e _ S' => .exc e S'
  | _ => .stuck

/-! ### soundness -/
section
variable {C : Ct} {cf : Cf} {oa : Nat → Option Addr} {P P' : Addr → Prop} {σ : L2.St} {H H' : Hp} {β β' : List Addr} {ρ : Rho} {S S' : Store}
/-- a slot is set -/
theorem LR.set (L : LR C cf oa P σ H β ρ S) {i : Nat} {v : V} {d : D} (r : RV C H P β v d) : LR C cf (fun j => if j = i then none else oa j) P (σ.set i (some v)) H β (ρ.set i (.sh d)) S where
  len := by rw [List.length_set, List.length_set]; exact L.len
  p := L.p
  sub := L.sub
  p0 := L.p0
  ext := L.ext
  own := fun j a h => by
    by_cases e : j = i
    · rw [if_pos e] at h; cases h
    · rw [if_neg e] at h; exact L.own j a h
  inj := fun j k a h1 h2 => by
    by_cases e : j = i
    · rw [if_pos e] at h1; cases h1
    · by_cases e2 : k = i
      · rw [if_pos e2] at h2; cases h2
      · rw [if_neg e] at h1; rw [if_neg e2] at h2; exact L.inj j k a h1 h2
  st := L.st
  slot := fun j x h => by
    by_cases e : i = j
    · subst e
      by_cases hl : i < ρ.length
      · rw [List.getElem?_set_self hl] at h
        cases h
        exact ⟨v, List.getElem?_set_self (by rw [L.len]; exact hl), r⟩
      · rw [List.getElem?_eq_none (by rw [List.length_set]; omega)] at h; cases h
    · rw [List.getElem?_set_ne e] at h
      obtain ⟨u, q1, q2⟩ := L.slot j x h
      exact ⟨u, by rw [List.getElem?_set_ne e]; exact q1, q2⟩
  oslot := fun j x h => by
    by_cases e : i = j
    · subst e
      by_cases hl : i < ρ.length
      · rw [List.getElem?_set_self hl] at h; cases h
      · rw [List.getElem?_eq_none (by rw [List.length_set]; omega)] at h; cases h
    · rw [List.getElem?_set_ne e] at h
      obtain ⟨a, q0, q1, q2⟩ := L.oslot j x h
      exact ⟨a, by rw [if_neg fun z => e z.symm]; exact q0, by rw [List.getElem?_set_ne e]; exact q1, q2⟩
/-- a slot takes a new container of its own -/
theorem LR.setOwn {a : Addr} (L : LR C cf oa (fun b => P b ∨ b = a) σ H β ρ S) {i : Nat} {d : D} (h0 : cf.H0 a = none) (hn : ∀ j, oa j ≠ some a) (o : OwnAt C H (fun b => P b ∨ b = a) β a d) :
    LR C cf (fun j => if j = i then some a else oa j) (fun b => P b ∨ b = a) (σ.set i (some (.ref a))) H β (ρ.set i (.ow d)) S where
  len := by rw [List.length_set, List.length_set]; exact L.len
  p := L.p
  sub := L.sub
  p0 := L.p0
  ext := L.ext
  own := fun j b h => by
    by_cases e : j = i
    · rw [if_pos e] at h; cases h; exact ⟨.inr rfl, h0⟩
    · rw [if_neg e] at h; exact L.own j b h
  inj := fun j k b h1 h2 => by
    by_cases e : j = i
    · by_cases e2 : k = i
      · rw [e, e2]
      · rw [if_pos e] at h1; cases h1; rw [if_neg e2] at h2; exact absurd h2 (hn k)
    · by_cases e2 : k = i
      · rw [if_pos e2] at h2; cases h2; rw [if_neg e] at h1; exact absurd h1 (hn j)
      · rw [if_neg e] at h1; rw [if_neg e2] at h2; exact L.inj j k b h1 h2
  st := L.st
  slot := fun j x h => by
    by_cases e : i = j
    · subst e
      by_cases hl : i < ρ.length
      · rw [List.getElem?_set_self hl] at h; cases h
      · rw [List.getElem?_eq_none (by rw [List.length_set]; omega)] at h; cases h
    · rw [List.getElem?_set_ne e] at h
      obtain ⟨u, q1, q2⟩ := L.slot j x h
      exact ⟨u, by rw [List.getElem?_set_ne e]; exact q1, q2⟩
  oslot := fun j x h => by
    by_cases e : i = j
    · subst e
      by_cases hl : i < ρ.length
      · rw [List.getElem?_set_self hl] at h
        cases h
        exact ⟨a, if_pos rfl, List.getElem?_set_self (by rw [L.len]; exact hl), o⟩
      · rw [List.getElem?_eq_none (by rw [List.length_set]; omega)] at h; cases h
    · rw [List.getElem?_set_ne e] at h
      obtain ⟨b, q0, q1, q2⟩ := L.oslot j x h
      exact ⟨b, by rw [if_neg fun z => e z.symm]; exact q0, by rw [List.getElem?_set_ne e]; exact q1, q2⟩
/-- a slot's own container is shared from now on -/
theorem LR.share (L : LR C cf oa P σ H β ρ S) {i : Nat} {d : D} (h : ρ[i]? = some (Sl.ow d)) : ∃ P', (∀ a, P' a → P a) ∧ LR C cf (fun j => if j = i then none else oa j) P' σ H β (ρ.set i (.sh d)) S := by
  obtain ⟨a, h1, h2, o⟩ := L.oslot i d h
  refine ⟨fun b => P b ∧ b ≠ a, fun _ z => z.1, ?_⟩
  have L1 : LR C cf (fun j => if j = i then none else oa j) P σ H β (ρ.set i .un) S := by
    refine ⟨by rw [List.length_set]; exact L.len, L.p, L.sub, L.p0, L.ext, fun j b hb => ?_, fun j k b q1 q2 => ?_, L.st, fun j x hx => ?_, fun j x hx => ?_⟩
    · by_cases e : j = i
      · rw [if_pos e] at hb; cases hb
      · rw [if_neg e] at hb; exact L.own j b hb
    · by_cases e : j = i
      · rw [if_pos e] at q1; cases q1
      · by_cases e2 : k = i
        · rw [if_pos e2] at q2; cases q2
        · rw [if_neg e] at q1; rw [if_neg e2] at q2; exact L.inj j k b q1 q2
    · by_cases e : i = j
      · subst e
        by_cases hl : i < ρ.length
        · rw [List.getElem?_set_self hl] at hx; cases hx
        · rw [List.getElem?_eq_none (by rw [List.length_set]; omega)] at hx; cases hx
      · rw [List.getElem?_set_ne e] at hx; exact L.slot j x hx
    · by_cases e : i = j
      · subst e
        by_cases hl : i < ρ.length
        · rw [List.getElem?_set_self hl] at hx; cases hx
        · rw [List.getElem?_eq_none (by rw [List.length_set]; omega)] at hx; cases hx
      · rw [List.getElem?_set_ne e] at hx
        obtain ⟨b, q0, q1, q2⟩ := L.oslot j x hx
        exact ⟨b, by rw [if_neg fun z => e z.symm]; exact q0, q1, q2⟩
  have L2 : LR C cf (fun j => if j = i then none else oa j) (fun b => P b ∧ b ≠ a) σ H β (ρ.set i .un) S := L1.less (fun _ z => z.1) (fun b hb => ⟨L.sub b hb, fun z => L.p0 b hb (by rw [z]; exact (L.own i a h1).2)⟩) fun j b hb => by
    have hb' := hb
    by_cases e : j = i
    · rw [if_pos e] at hb; cases hb
    · rw [if_neg e] at hb
      exact ⟨(L.own j b hb).1, fun z => e (L.inj j i a (z ▸ hb) h1)⟩
  have rv : RV C H (fun b => P b ∧ b ≠ a) β (.ref a) d := by
    have nb := (L.p a (L.own i a h1).1).2
    cases d <;> first | exact o.elim | skip
    · obtain ⟨xs, q, r⟩ := o; exact .lst (fun z => z.2 rfl) nb (.inl q) (r.less fun _ z => z.1)
    · obtain ⟨xs, q, r⟩ := o; exact .dct (fun z => z.2 rfl) nb (.inl q) (r.less fun _ z => z.1)
  have L3 := L2.set (i := i) rv
  have e1 : (ρ.set i Sl.un).set i (.sh d) = ρ.set i (.sh d) := by rw [List.set_set]
  have e2 : σ.set i (some (.ref a)) = σ := by
    refine List.ext_getElem? fun j => ?_
    by_cases e : i = j
    · subst e; rw [h2, List.getElem?_set_self (List.getElem?_eq_some_iff.mp h2).1]
    · rw [List.getElem?_set_ne e]
  have e3 : (fun j => if j = i then none else (if j = i then none else oa j)) = fun j => if j = i then none else oa j := by
    funext j
    by_cases e : j = i
    · rw [if_pos e, if_pos e]
    · rw [if_neg e]
  rw [e1, e2] at L3
  exact e3 ▸ L3
end

section
variable {X : Cx} {W : WX} {a e : Expr} {ma : EX} {ka : BX} {s1 s2 : SX} {st : Stmt} {rest : List Stmt} {pos : Pos}
theorem pss_nilM : PSSM (ctOf X) W X [] sNil := PSs_imp pss_nil fun D σ H h => by
  obtain ⟨cf, oa, P, β, ρ, S, L, h⟩ := h
  exact h σ H β oa P L Fx.refl
theorem pss_oneM (h : PSM (ctOf X) W X st s1) : PSSM (ctOf X) W X [st] s1 := pss_one h
theorem pss_consM (h1 : PSM (ctOf X) W X st s1) (h2 : PSSM (ctOf X) W X rest s2) : PSSM (ctOf X) W X (st :: rest) (sSeq s1 s2) := PSs_imp (pss_cons h1 h2) fun D σ H h => by
  obtain ⟨cf, oa, P, β, ρ, S, L, h⟩ := h
  refine ⟨cf, oa, P, β, ρ, S, L, ?_⟩
  unfold sSeq at h
  cases es : s1 ρ S with
  | nx ρ1 S1 =>
    rw [es] at h
    intro σ1 H1 β1 oa1 P1 L1 f1
    exact ⟨cf, oa1, P1, β1, ρ1, S1, L1, h.fx f1⟩
  | bk ρ1 S1 => rw [es] at h; exact h
  | ct ρ1 S1 => rw [es] at h; exact h
  | rt d S1 => rw [es] at h; exact h
  | exc e ρ1 S1 => rw [es] at h; exact h
  | stuck => rw [es] at h; exact h
theorem ps_passM : PSM (ctOf X) W X (.Pass pos) sNil := PS_imp ps_pass fun D σ H h => by
  obtain ⟨cf, oa, P, β, ρ, S, L, h⟩ := h
  exact h σ H β oa P L Fx.refl
theorem ps_breakM : PSM (ctOf X) W X (.Break pos) sBreak := PS_imp ps_break fun D σ H h => by
  obtain ⟨cf, oa, P, β, ρ, S, L, h⟩ := h
  exact h σ H β oa P L Fx.refl
theorem ps_contM : PSM (ctOf X) W X (.Continue pos) sCont := PS_imp ps_continue fun D σ H h => by
  obtain ⟨cf, oa, P, β, ρ, S, L, h⟩ := h
  exact h σ H β oa P L Fx.refl
theorem ps_docM {x j pos pos'} : PSM (ctOf X) W X (.Expr (.Constant (.str x) j pos) pos') sNil := PS_imp ps_doc fun D σ H h => by
  obtain ⟨cf, oa, P, β, ρ, S, L, h⟩ := h
  exact h σ H β oa P L Fx.refl
/-- what an exception wants, from an expression's to a statement's -/
theorem xp_of {C : Ct} {cf : Cf} {oa : Nat → Option Addr} {P : Addr → Prop} {σ : L2.St} {b : Bool} {H : Hp} {β : List Addr} {ρ : Rho} {S S' : Store} {e : Exn}
    (h : ∀ cls x σ' H' β' oa' P', LR C cf oa' P' σ' H' β' ρ S' → Fx H P β H' P' β' → ExnAt C H' P' β' cls x e → W cls x σ' H') : XP C W cf oa P σ b H β ρ S e S' :=
  fun cls x H' β' t L ex => h cls x σ H' β' oa P L (Fx.of t.ext) ex
theorem ps_exprM (h : PM (ctOf X) W false X e ma) (hs : swapsWith e none pos.line X.env = pure false := by rfl) : PSM (ctOf X) W X (.Expr e pos) (sExpr ma) := PS_imp (ps_expr h hs) fun D σ H h => by
  obtain ⟨cf, oa, P, β, ρ, S, L, h⟩ := h
  refine ⟨cf, oa, P, β, ρ, S, L, ?_⟩
  unfold sExpr at h
  cases ea : ma ρ S with
  | stuck => rw [ea] at h; exact h
  | exc e S1 => rw [ea] at h; exact xp_of h
  | ok d S1 => rw [ea] at h; intro v H1 β1 t L1 r; exact h σ H1 β1 oa P L1 (Fx.of t.ext)
theorem ret_rv {C : Ct} {cf : Cf} {oa : Nat → Option Addr} {P : Addr → Prop} {σ : L2.St} {H : Hp} {β : List Addr} {ρ : Rho} {S : Store} {v : V} {d : D} (L : LR C cf oa P σ H β ρ S) (r : RV C H P β v d) :
    ExtL cf H β ∧ SRel C H cf.P0 β S ∧ RV C H cf.P0 β v d := ⟨L.ext, L.st.less L.sub, r.less L.sub⟩
theorem ps_retM (h : PM (ctOf X) W false X e ma) : PSM (ctOf X) W X (.Return (some e) pos) (sRet ma) := PS_imp (ps_ret h) fun D σ H h => by
  obtain ⟨cf, oa, P, β, ρ, S, L, h⟩ := h
  refine ⟨cf, oa, P, β, ρ, S, L, ?_⟩
  unfold sRet at h
  cases ea : ma ρ S with
  | stuck => rw [ea] at h; exact h
  | exc e S1 => rw [ea] at h; exact xp_of h
  | ok d S1 =>
    rw [ea] at h
    intro v H1 β1 t L1 r
    obtain ⟨q1, q2, q3⟩ := ret_rv L1 r
    exact h v H1 β1 q1 q2 q3
theorem ps_retNM : PSM (ctOf X) W X (.Return none pos) sRetN := PS_imp ps_retN fun D σ H h => by
  obtain ⟨cf, oa, P, β, ρ, S, L, h⟩ := h
  exact h .non H β L.ext (L.st.less L.sub) .non
/-- the callers' places are not new -/
def CfOk (cf : Cf) : Prop := ∀ a, cf.P0 a → cf.H0 a ≠ none
theorem ps_retVM {i : Nat} {x : Str} {px : Pos} (h : PE X (.Name x px) (tVar i)) : PSM (ctOf X) W X (.Return (some (.Name x px)) pos) (sRetV i) := PS_imp (ps_ret h) fun D σ H h => by
  obtain ⟨cf, oa, P, β, ρ, S, L, h⟩ := h
  unfold sRetV at h
  show tVar i σ H D.rt
  cases ei : ρ[i]? with
  | none => rw [ei] at h; exact h.elim
  | some sl =>
    rw [ei] at h
    cases sl with
    | un => exact h.elim
    | sh d =>
      obtain ⟨v, e1, r⟩ := L.slot i d ei
      obtain ⟨q1, q2, q3⟩ := ret_rv L r
      exact ⟨v, e1, h v H β q1 q2 q3⟩
    | ow d =>
      obtain ⟨a, e1, e2, o⟩ := L.oslot i d ei
      refine ⟨.ref a, e2, h _ H β L.ext (L.st.less L.sub) ?_⟩
      obtain ⟨hP, h0⟩ := L.own i a e1
      have nb := (L.p a hP).2
      have np : ¬ (fun c => cf.P0 c ∧ c ≠ a) a := fun z => z.2 rfl
      have rv : RV (ctOf X) H (fun c => cf.P0 c ∧ c ≠ a) β (.ref a) d := by
        cases d <;> first | exact o.elim | skip
        · obtain ⟨xs, q, r⟩ := o; exact .lst np nb (.inl q) (r.less fun _ z => L.sub _ z.1)
        · obtain ⟨xs, q, r⟩ := o; exact .dct np nb (.inl q) (r.less fun _ z => L.sub _ z.1)
      exact rv.less fun c hc => ⟨hc, fun z => L.p0 c hc (by rw [z]; exact h0)⟩
theorem ps_ifM {p q : List Stmt} {c : Expr} (hc : PB (ctOf X) W false X c ka) (h1 : PSSM (ctOf X) W X p s1) (h2 : PSSM (ctOf X) W X q s2) : PSM (ctOf X) W X (.If c p q pos) (sIf ka s1 s2) := PS_imp (ps_if hc h1 h2) fun D σ H h => by
  obtain ⟨cf, oa, P, β, ρ, S, L, h⟩ := h
  refine ⟨cf, oa, P, β, ρ, S, L, ?_⟩
  unfold sIf at h
  cases ea : ka ρ S with
  | stuck => rw [ea] at h; exact h
  | exc e S1 => rw [ea] at h; exact xp_of h
  | ok k S1 =>
    rw [ea] at h
    simp only [R.st] at h
    intro H1 β1 t L1
    cases k with
    | true => rw [if_pos rfl] at h ⊢; exact ⟨cf, oa, P, β1, ρ, S1, L1, h.fx (Fx.of t.ext)⟩
    | false => rw [if_neg Bool.false_ne_true] at h ⊢; exact ⟨cf, oa, P, β1, ρ, S1, L1, h.fx (Fx.of t.ext)⟩
/-- name = e, by what the statement reads -/
theorem ps_setM {i : Nat} {t : TE} (h : PS X st (tAsg t (gName i))) (ht : ∀ σ H Q, EM (ctOf X) W false ma σ H Q → t σ H Q) : PSM (ctOf X) W X st (sSet i ma) := PS_imp h fun D σ H h => by
  obtain ⟨cf, oa, P, β, ρ, S, L, h⟩ := h
  refine ht _ _ _ ⟨cf, oa, P, β, ρ, S, L, ?_⟩
  unfold sSet at h
  cases ea : ma ρ S with
  | stuck => rw [ea] at h; exact h
  | exc e S1 => rw [ea] at h; exact xp_of h
  | ok d S1 =>
    rw [ea] at h
    intro v H1 β1 t L1 r
    exact h _ H1 β1 _ P (L1.set r) (Fx.of t.ext)
theorem ps_ownM {i : Nat} {t : TE} (h : PS X st (tAsg t (gName i))) (ht : ∀ σ H Q, EO (ctOf X) W false ma σ H Q → t σ H Q) : PSM (ctOf X) W X st (sOwn i ma) := PS_imp h fun D σ H h => by
  obtain ⟨cf, oa, P, β, ρ, S, L, h⟩ := h
  refine ht _ _ _ ⟨cf, oa, P, β, ρ, S, L, ?_⟩
  unfold sOwn at h
  cases ea : ma ρ S with
  | stuck => rw [ea] at h; exact h
  | exc e S1 => rw [ea] at h; exact xp_of h
  | ok d S1 =>
    rw [ea] at h
    intro a H1 β1 t hn L1 o
    have h0 : cf.H0 a = none := by
      cases z : cf.H0 a with
      | none => rfl
      | some u => exact absurd hn (L.ext.stay a (by rw [z]; exact Option.some_ne_none _))
    have no : ∀ j, oa j ≠ some a := fun j z => (L.p a (L.own j a z).1).1 hn
    exact h _ H1 β1 _ _ (L1.setOwn h0 no o) (Fx.more t.ext hn)
theorem ps_shareM {i : Nat} (h : PSM (ctOf X) W X st s1) : PSM (ctOf X) W X st (sShare i s1) := PS_imp h fun D σ H h => by
  obtain ⟨cf, oa, P, β, ρ, S, L, h⟩ := h
  unfold sShare at h
  cases ei : ρ[i]? with
  | none => rw [ei] at h; exact ⟨cf, oa, P, β, ρ, S, L, h⟩
  | some sl =>
    rw [ei] at h
    cases sl with
    | un => exact ⟨cf, oa, P, β, ρ, S, L, h⟩
    | sh d => exact ⟨cf, oa, P, β, ρ, S, L, h⟩
    | ow d =>
      obtain ⟨P', hs, L'⟩ := L.share ei
      exact ⟨cf, _, P', β, _, S, L', h.fx (Fx.less hs)⟩

/-! ### targets -/
def GM (C : Ct) (T : GX) : TG := fun v σ H Q => ∃ cf oa P β ρ S d, LR C cf oa P σ H β ρ S ∧ RV C H P β v d ∧ (match T d ρ S with
  | some p => ∀ σ' H' β' oa' P', LR C cf oa' P' σ' H' β' p.1 p.2 → Fx H P β H' P' β' → Q σ' H'
  | none => False)
def GMs (C : Ct) (T : GXs) : TGs := fun vs σ H Q => ∃ cf oa P β ρ S ds, LR C cf oa P σ H β ρ S ∧ RVs C H P β vs ds ∧ (match T ds ρ S with
  | some p => ∀ σ' H' β' oa' P', LR C cf oa' P' σ' H' β' p.1 p.2 → Fx H P β H' P' β' → Q σ' H'
  | none => False)
abbrev PGM (X : Cx) (e : Expr) (T : GX) : Prop := PG X e (GM (ctOf X) T)
abbrev PGMs (X : Cx) (es : List Expr) (T : GXs) : Prop := PGs X es (GMs (ctOf X) T)
theorem PG_imp {X : Cx} {e : Expr} {t t' : TG} (h : PG X e t) (i : ∀ v σ H Q, t' v σ H Q → t v σ H Q) : PG X e t' := ⟨fun pins s σ H v u Q I r hw => h.run pins s σ H v u Q I r (i v σ H Q hw)⟩
theorem PGs_imp {X : Cx} {e : List Expr} {t t' : TGs} (h : PGs X e t) (i : ∀ v σ H Q, t' v σ H Q → t v σ H Q) : PGs X e t' := ⟨fun pins s σ H v u Q I r hw => h.run pins s σ H v u Q I r (i v σ H Q hw)⟩
variable {tg : Expr} {tgs : List Expr} {g : GX} {gs : GXs}
theorem pg_nameM {i : Nat} (h : PG X tg (gName i)) : PGM X tg (gSet i) := PG_imp h fun v σ H Q h => by
  obtain ⟨cf, oa, P, β, ρ, S, d, L, r, h⟩ := h
  exact h _ H β _ P (L.set r) Fx.refl
theorem pgs_nilM : PGMs X [] gsNil := PGs_imp pgs_nil fun vs σ H Q h => by
  obtain ⟨cf, oa, P, β, ρ, S, ds, L, r, h⟩ := h
  cases r with
  | nil => exact ⟨rfl, h σ H β oa P L Fx.refl⟩
  | cons r rs => exact h.elim
theorem pgs_consM (h1 : PGM X tg g) (h2 : PGMs X tgs gs) (hs : (assignEach (tg :: tgs) X.env).map (·.2) = assign tg X.env :: (assignEach tgs X.env).map (·.2) := by rfl) : PGMs X (tg :: tgs) (gsCons g gs) := PGs_imp (pgs_cons h1 h2 hs) fun vs σ H Q h => by
  obtain ⟨cf, oa, P, β, ρ, S, ds, L, r, h⟩ := h
  cases r with
  | nil => exact h.elim
  | @cons v vs d ds r rs =>
    refine ⟨v, vs, rfl, cf, oa, P, β, ρ, S, d, L, r, ?_⟩
    simp only [gsCons] at h
    cases eg : g d ρ S with
    | none => rw [eg] at h; exact h.elim
    | some p =>
      rw [eg] at h
      intro σ1 H1 β1 oa1 P1 L1 f1
      refine ⟨cf, oa1, P1, β1, p.1, p.2, ds, L1, rs.fx f1, ?_⟩
      simp only [Option.bind] at h
      cases e2 : gs ds p.1 p.2 with
      | none => rw [e2] at h; exact h.elim
      | some q => rw [e2] at h; intro σ2 H2 β2 oa2 P2 L2 f2; exact h σ2 H2 β2 oa2 P2 L2 (f1.trans f2)
theorem pg_unpM {k : Nat} {n : Nat} (hc : X.calm = true) (h : PGMs X tgs gs) (hgs : ∀ ds ρ S, ds.length ≠ n → gs ds ρ S = none) (hn : (assignEach tgs X.env).length = n := by rfl) (hst : (assignEach tgs X.env).findIdx? (·.1) = none := by rfl) : PGM X (.Tuple tgs k pos) (gUnp gs) :=
  PG_imp (pg_tup hc h hn hst) fun v σ H Q h => by
    obtain ⟨cf, oa, P, β, ρ, S, d, L, r, h⟩ := h
    unfold gUnp at h
    cases ev : viewT d with
    | none => rw [ev] at h; exact h.elim
    | some ds =>
      rw [ev] at h
      obtain ⟨a, xs, rfl, q1, q2⟩ := r.viewT ev
      refine ⟨a, xs, rfl, q1, ?_, cf, oa, P, β, ρ, S, ds, L, q2, h⟩
      by_cases hl : ds.length = n
      · rw [q2.length]; exact hl
      · simp only [Option.bind] at h
        rw [hgs ds ρ S hl] at h
        exact h.elim
theorem ps_asgM (he : PM (ctOf X) W false X e ma) (hg : PGM X tg g) (hs : swapsWithSole [tg] e pos.line X.env = pure false := by rfl) (hw : swappedStores [tg] e X.env = pure none := by rfl)
    (h1 : (assignEach [tg] X.env).map (·.2) = [assign tg X.env] := by rfl) : PSM (ctOf X) W X (.Assign [tg] e pos) (sAsg ma g) := PS_imp (ps_asg he hg hs hw h1) fun D σ H h => by
  obtain ⟨cf, oa, P, β, ρ, S, L, h⟩ := h
  refine ⟨cf, oa, P, β, ρ, S, L, ?_⟩
  unfold sAsg at h
  cases ea : ma ρ S with
  | stuck => rw [ea] at h; exact h
  | exc e S1 => rw [ea] at h; exact xp_of h
  | ok d S1 =>
    rw [ea] at h
    simp only [R.st] at h
    intro v H1 β1 t L1 r
    refine ⟨cf, oa, P, β1, ρ, S1, d, L1, r, ?_⟩
    cases eg : g d ρ S1 with
    | none => rw [eg] at h; exact h.elim
    | some p => rw [eg] at h; intro σ2 H2 β2 oa2 P2 L2 f2; exact h σ2 H2 β2 oa2 P2 L2 ((Fx.of t.ext).trans f2)

/-! ### loops -/
def ItM (C : Ct) (J : It) (ds : List D) (H : Hp) (P : Addr → Prop) (β : List Addr) : Prop :=
  ∀ (i : Nat) (H2 : Hp) (P2 : Addr → Prop) (β2 : List Addr), Fx H P β H2 P2 β2 → (∀ p, H2 p = none → ¬ P2 p ∧ p ∉ β2) →
    (∀ d, ds[i]? = some d → J.go i H2 ∧ ∀ x H3, J.yld i H2 x H3 → Same H2 H3 ∧ RV C H3 P2 β2 x d) ∧ (ds.length ≤ i → J.stop i H2)
def IM (C : Ct) (W : WX) (b : Bool) (m : AX) : TI := fun σ H R => ∃ cf oa P β ρ S, LR C cf oa P σ H β ρ S ∧ (match m ρ S with
  | .ok ds S' => ∀ J H' β', Tr b H β S H' β' S' → LR C cf oa P σ H' β' ρ S' → ItM C J ds H' P β' → R J H'
  | .exc e S' => XP C W cf oa P σ b H β ρ S e S'
  | .stuck => False)
abbrev PIM (C : Ct) (W : WX) (b : Bool) (X : Cx) (tg iter : Expr) (m : AX) : Prop := PI X tg iter (IM C W b m)
theorem PI_imp {X : Cx} {tg iter : Expr} {t t' : TI} (h : PI X tg iter t) (i : ∀ σ H R, t' σ H R → t σ H R) : PI X tg iter t' := ⟨fun pins s σ H R I hw => h.run pins s σ H R I (i σ H R hw)⟩
variable {iter : Expr} {it : AX} {body : List Stmt}
theorem LR.new {C : Ct} {cf : Cf} {oa : Nat → Option Addr} {P : Addr → Prop} {σ : L2.St} {H : Hp} {β : List Addr} {ρ : Rho} {S : Store} (L : LR C cf oa P σ H β ρ S) : ∀ p, H p = none → ¬ P p ∧ p ∉ β := fun _ h => ⟨L.npP h, L.npB h⟩
theorem ps_forM (hp : PassesOwn (model X.prog X.w) X.A X.env X.xe) (hc : X.calm = true) (hi : PIM (ctOf X) W false X tg iter it) (hg : PGM X tg g) (hb : PSSM (ctOf X) W X body s1)
    (hs : ∀ x, foldedSetIterable iter X.env x = pure x := by intro _; rfl) : PSM (ctOf X) W X (.For tg iter body [] pos) (sFor it g s1) := PS_imp (ps_for hp hc hi hg hb hs) fun D σ H h => by
  obtain ⟨cf, oa, P, β, ρ, S, L, h⟩ := h
  refine ⟨cf, oa, P, β, ρ, S, L, ?_⟩
  unfold sFor at h
  cases ea : it ρ S with
  | stuck => rw [ea] at h; exact h
  | exc e S1 => rw [ea] at h; exact xp_of h
  | ok ds S1 =>
    rw [ea] at h
    intro J H1 β1 t L1 im
    have h1 : SQ (ctOf X) W cf H1 P β1 D (forL g s1 ds ρ S1) := SQ.fx (Fx.of t.ext) h
    have im' : ItM (ctOf X) J ds H1 P β1 := im
    refine ⟨fun i m σ2 H2 => m = ds.length - i ∧ i ≤ ds.length ∧ ∃ oa2 P2 β2 ρ2 S2, LR (ctOf X) cf oa2 P2 σ2 H2 β2 ρ2 S2 ∧ Fx H1 P β1 H2 P2 β2 ∧ SQ (ctOf X) W cf H2 P2 β2 D (forL g s1 (ds.drop i) ρ2 S2),
      ⟨ds.length, by simp, Nat.zero_le _, oa, P, β1, ρ, S1, L1, Fx.refl, h1⟩, ?_⟩
    rintro i m σ2 H2 ⟨rfl, hi, oa2, P2, β2, ρ2, S2, L2, f2, q⟩
    obtain ⟨go, stop⟩ := im' i H2 P2 β2 f2 L2.new
    by_cases hl : i < ds.length
    · right
      have hd : ds[i]? = some ds[i] := List.getElem?_eq_getElem hl
      obtain ⟨g1, g2⟩ := go _ hd
      rw [List.drop_eq_getElem_cons hl] at q
      simp only [forL] at q
      refine ⟨g1, fun σ' H' => ∃ oa3 P3 β3 ρ3 S3, LR (ctOf X) cf oa3 P3 σ' H' β3 ρ3 S3 ∧ Fx H1 P β1 H' P3 β3 ∧ SQ (ctOf X) W cf H' P3 β3 D (forL g s1 (ds.drop (i + 1)) ρ3 S3), fun σ' H' hN => ⟨ds.length - (i + 1), by omega, rfl, hl, hN⟩, fun x H3 y => ?_⟩
      obtain ⟨e3, r3⟩ := g2 x H3 y
      have L3 := L2.same e3
      have f3 : Fx H2 P2 β2 H3 P2 β2 := Fx.of (Ext.same e3)
      refine ⟨cf, oa2, P2, β2, ρ2, S2, ds[i], L3, r3, ?_⟩
      cases eg : g ds[i] ρ2 S2 with
      | none => rw [eg] at q; exact q.elim
      | some p =>
        rw [eg] at q
        intro σ4 H4 β4 oa4 P4 L4 f4
        refine ⟨cf, oa4, P4, β4, p.1, p.2, L4, ?_⟩
        have f24 := f3.trans f4
        simp only at q
        cases es : s1 p.1 p.2 with
        | nx ρ5 S5 => rw [es] at q; intro σ5 H5 β5 oa5 P5 L5 f5; exact ⟨oa5, P5, β5, ρ5, S5, L5, f2.trans (f24.trans f5), SQ.fx (f24.trans f5) q⟩
        | ct ρ5 S5 => rw [es] at q; intro σ5 H5 β5 oa5 P5 L5 f5; exact ⟨oa5, P5, β5, ρ5, S5, L5, f2.trans (f24.trans f5), SQ.fx (f24.trans f5) q⟩
        | bk ρ5 S5 => rw [es] at q; exact SQ.fx (r := .nx ρ5 S5) f24 q
        | rt d S5 => rw [es] at q; exact q
        | exc e ρ5 S5 => rw [es] at q; exact SQ.fx (r := .exc e ρ5 S5) f24 q
        | stuck => rw [es] at q; exact q
    · left
      have e : i = ds.length := by omega
      subst e
      rw [List.drop_length] at q
      exact ⟨stop (Nat.le_refl _), q σ2 H2 β2 oa2 P2 L2 Fx.refl⟩
theorem ps_whileM {c : Expr} (n : Nat) (hp : PassesOwn (model X.prog X.w) X.A X.env X.xe) (hc : PB (ctOf X) W false X c ka) (hb : PSSM (ctOf X) W X body s1) : PSM (ctOf X) W X (.While c body [] pos) (sWhile n ka s1) := PS_imp (ps_while hp hc hb) fun D σ H h => by
  obtain ⟨cf, oa, P, β, ρ, S, L, h⟩ := h
  refine ⟨fun m σ2 H2 => ∃ oa2 P2 β2 ρ2 S2, LR (ctOf X) cf oa2 P2 σ2 H2 β2 ρ2 S2 ∧ SQ (ctOf X) W cf H2 P2 β2 D (whileN ka s1 m ρ2 S2), ⟨n, oa, P, β, ρ, S, L, h⟩, ?_⟩
  rintro m σ2 H2 ⟨oa2, P2, β2, ρ2, S2, L2, q⟩
  refine ⟨cf, oa2, P2, β2, ρ2, S2, L2, ?_⟩
  cases m with
  | zero => exact q.elim
  | succ m =>
    simp only [whileN] at q
    cases ea : ka ρ2 S2 with
    | stuck => rw [ea] at q; exact q
    | exc e S1 => rw [ea] at q; exact xp_of q
    | ok k S1 =>
      rw [ea] at q
      simp only [R.st] at q
      intro H3 β3 t L3
      cases k with
      | false => rw [if_neg Bool.false_ne_true] at q ⊢; exact q σ2 H3 β3 oa2 P2 L3 (Fx.of t.ext)
      | true =>
        rw [if_pos rfl] at q ⊢
        refine ⟨fun σ' H' => ∃ oa4 P4 β4 ρ4 S4, LR (ctOf X) cf oa4 P4 σ' H' β4 ρ4 S4 ∧ SQ (ctOf X) W cf H' P4 β4 D (whileN ka s1 m ρ4 S4), fun σ' H' hN => ⟨m, Nat.lt_succ_self _, hN⟩, cf, oa2, P2, β3, ρ2, S1, L3, ?_⟩
        have f3 : Fx H2 P2 β2 H3 P2 β3 := Fx.of t.ext
        cases es : s1 ρ2 S1 with
        | nx ρ5 S5 => rw [es] at q; intro σ5 H5 β5 oa5 P5 L5 f5; exact ⟨oa5, P5, β5, ρ5, S5, L5, SQ.fx (f3.trans f5) q⟩
        | ct ρ5 S5 => rw [es] at q; intro σ5 H5 β5 oa5 P5 L5 f5; exact ⟨oa5, P5, β5, ρ5, S5, L5, SQ.fx (f3.trans f5) q⟩
        | bk ρ5 S5 => rw [es] at q; exact SQ.fx (r := .nx ρ5 S5) f3 q
        | rt d S5 => rw [es] at q; exact q
        | exc e ρ5 S5 => rw [es] at q; exact SQ.fx (r := .exc e ρ5 S5) f3 q
        | stuck => rw [es] at q; exact q

end
end Mi

/-! Mi6: what loops walk; comprehensions. -/
namespace Mi
open PySem PySem.Spec PyProof.Rows L2

def strItems (x : Str) : List D := x.cps.toList.map fun c => .str ⟨#[c]⟩
/-- what a loop over a value sees -/
def itemsOf (d : D) : Option (List D) := match d with
  | .lst xs => some xs
  | .tup xs => some xs
  | .str x => some (strItems x)
  | _ => none
def iSeq (a : EX) : AX := fun ρ S => (a ρ S).bind fun x S1 => R.opt (itemsOf x) S1
def rangeD (lo : Int) (n : Nat) : List D := (List.range n).map fun i => .int (lo + (i : Nat))
def rngArg (ds : List D) : Option (List D) := match ds with
  | [.int j] => if -(2 ^ 62) ≤ j ∧ j < 2 ^ 62 then some (rangeD 0 j.toNat) else none
  | [.int i, .int j] => if -(2 ^ 62) ≤ i ∧ i < 2 ^ 62 ∧ -(2 ^ 62) ≤ j ∧ j < 2 ^ 62 then some (rangeD i (j - i).toNat) else none
  | _ => none
def iRng (a : AX) : AX := fun ρ S => (a ρ S).bind fun xs S1 => R.opt (rngArg xs) S1

section
variable {X : Cx} {W : WX} {b : Bool} {tg e : Expr} {ma : EX} {mas : AX}
theorem pi_any {te : TE} (he : PE X e te) : PI X tg e (fun σ H R => te σ H fun x H1 =>
    (∃ a, x = .ref a ∧ (∃ xs, SqL X.K H1 a xs) ∧ R (Itl X.K a) H1) ∨ (∃ a, x = .ref a ∧ (∃ xs, SqT X.K H1 a xs) ∧ R (Itt X.K a) H1) ∨ ∃ z, x = .str z ∧ R (Its z) H1) := by
  refine ⟨fun pins s σ H R I h => ?_⟩
  refine thn (he.run pins s σ H _ I h) fun v s1 ⟨x, H1, I1, r1, q1⟩ => ?_
  rcases q1 with ⟨a, e, ⟨xs, hq⟩, q⟩ | ⟨a, e, ⟨xs, hq⟩, q⟩ | ⟨z, e, q⟩
  · subst e
    cases r1
    obtain ⟨its, rv, p, hz⟩ := I1.list hq
    refine wpAny_pyIter_list p.isList ?_
    refine ⟨s1.heap.objs.size, [s1.heap.objs.size], _, _, H1, rfl, I1.kept (t' := s1.toks) fun b o e => Heap.get?_push_of_some _ e, turn_list a _, ⟨_, Heap.get?_push_size _ rfl, rfl, rfl⟩, fun b hb => ?_, q⟩
    have e : b = s1.heap.objs.size := by simpa using hb
    subst e
    exact I1.fpOk (Nat.le_refl _) (I1.hok.fresh (Nat.le_refl _))
  · subst e
    cases r1
    obtain ⟨its, rv, p, hz⟩ := I1.tuple hq
    refine wpAny_pyIter_tuple (show s1.heap.IsTuple a its.toArray from p) ?_
    refine ⟨s1.heap.objs.size, [s1.heap.objs.size], _, _, H1, rfl, I1.kept (t' := s1.toks) fun b o e => Heap.get?_push_of_some _ e, turn_tuple a _, ⟨_, Heap.get?_push_size _ rfl, rfl, rfl⟩, fun b hb => ?_, q⟩
    have e : b = s1.heap.objs.size := by simpa using hb
    subst e
    exact I1.fpOk (Nat.le_refl _) (I1.hok.fresh (Nat.le_refl _))
  · subst e
    obtain ⟨t, rfl⟩ := r1
    cases ha : z.cps.all (· < 128)
    · exact wpAny_pyIter_wide ha (pi_one (tk := s1.toks) I1 _ (turn_str _ z t "str_iterator" (.inr rfl)) ⟨_, Heap.get?_push_size _ rfl, rfl, rfl⟩ q)
    · exact wpAny_pyIter_ascii ha (pi_one (tk := s1.toks) I1 _ (turn_str _ z t "str_ascii_iterator" (.inl rfl)) ⟨_, Heap.get?_push_size _ rfl, rfl, rfl⟩ q)
/-- a list, a tuple that stands still -/
theorem it_list {C : Ct} {H : Hp} {P : Addr → Prop} {β : List Addr} {a : Addr} {xs : List V} {ds : List D} (hs : ∀ H2 P2 β2, Fx H P β H2 P2 β2 → SqL C.K H2 a xs) (rs : RVs C H P β xs ds) : ItM C (Itl C.K a) ds H P β := by
  intro i H2 P2 β2 f n
  have q := hs H2 P2 β2 f
  have r2 := rs.fx f
  refine ⟨fun d hd => ?_, fun hl => ⟨xs, q, by rw [r2.length]; exact hl⟩⟩
  obtain ⟨v, hv, rv⟩ := r2.get hd
  refine ⟨⟨xs, v, q, hv⟩, fun x H3 y => ?_⟩
  obtain ⟨e, y⟩ := y
  subst e
  refine ⟨Same.refl _, ?_⟩
  have := y xs q
  rw [hv] at this
  cases this
  exact rv
theorem it_tup {C : Ct} {H : Hp} {P : Addr → Prop} {β : List Addr} {a : Addr} {xs : List V} {ds : List D} (hs : ∀ H2 P2 β2, Fx H P β H2 P2 β2 → SqT C.K H2 a xs) (rs : RVs C H P β xs ds) : ItM C (Itt C.K a) ds H P β := by
  intro i H2 P2 β2 f n
  have q := hs H2 P2 β2 f
  have r2 := rs.fx f
  refine ⟨fun d hd => ?_, fun hl => ⟨xs, q, by rw [r2.length]; exact hl⟩⟩
  obtain ⟨v, hv, rv⟩ := r2.get hd
  refine ⟨⟨xs, v, q, hv⟩, fun x H3 y => ?_⟩
  obtain ⟨e, y⟩ := y
  subst e
  refine ⟨Same.refl _, ?_⟩
  have := y xs q
  rw [hv] at this
  cases this
  exact rv
theorem it_str {C : Ct} {H : Hp} {P : Addr → Prop} {β : List Addr} {z : Str} : ItM C (Its z) (strItems z) H P β := by
  intro i H2 P2 β2 f n
  refine ⟨fun d hd => ?_, fun hl => ?_⟩
  · unfold strItems at hd
    rw [List.getElem?_map] at hd
    have hi : i < z.cps.toList.length := by
      cases e : z.cps.toList[i]? with
      | none => rw [e] at hd; cases hd
      | some c => exact (List.getElem?_eq_some_iff.mp e).1
    refine ⟨show i < z.cps.size by simpa using hi, fun x H3 y => ?_⟩
    obtain ⟨e, c, hc, ex⟩ := y
    subst e ex
    refine ⟨Same.refl _, ?_⟩
    rw [Array.getElem?_toList, hc] at hd
    cases hd
    exact .str _
  · show z.cps.size ≤ i
    unfold strItems at hl
    simpa using hl
theorem it_rng {C : Ct} {H : Hp} {P : Addr → Prop} {β : List Addr} {lo : Int} {n : Nat} : ItM C (Itr lo n) (rangeD lo n) H P β := by
  intro i H2 P2 β2 f _
  refine ⟨fun d hd => ?_, fun hl => ?_⟩
  · unfold rangeD at hd
    have hi : i < n := by
      by_cases h : i < n
      · exact h
      · rw [List.getElem?_eq_none (by simp; omega)] at hd; cases hd
    refine ⟨hi, fun x H3 y => ?_⟩
    obtain ⟨e, ex⟩ := y
    subst e ex
    refine ⟨Same.refl _, ?_⟩
    rw [List.getElem?_map, List.getElem?_range hi] at hd
    cases hd
    exact .int _
  · show n ≤ i
    simpa [rangeD] using hl
theorem pim_seq (he : PM (ctOf X) W b X e ma) : PIM (ctOf X) W b X tg e (iSeq ma) := PI_imp (pi_any he) fun σ H R h => by
  obtain ⟨cf, oa, P, β, ρ, S, L, h⟩ := h
  refine ⟨cf, oa, P, β, ρ, S, L, ?_⟩
  unfold iSeq at h
  cases ea : ma ρ S with
  | stuck => rw [ea] at h; exact h
  | exc e S1 => rw [ea] at h; exact h
  | ok d S1 =>
    rw [ea] at h
    intro v H1 β1 t L1 r
    cases r with
    | lst hp hb hr hs =>
      refine .inl ⟨_, rfl, ⟨_, .inl hr⟩, h _ H1 β1 t L1 ?_⟩
      exact it_list (fun H2 P2 β2 f => .inl (f.con _ _ hp hb hr).1) hs
    | tup hr hs =>
      refine .inr (.inl ⟨_, rfl, ⟨_, .inl hr⟩, h _ H1 β1 t L1 ?_⟩)
      exact it_tup (fun H2 P2 β2 f => .inl (f.tups _ _ hr)) hs
    | ktup k hs =>
      refine .inr (.inl ⟨_, rfl, ⟨_, .inr k⟩, h _ H1 β1 t L1 ?_⟩)
      exact it_tup (fun H2 P2 β2 f => .inr k) hs
    | klst k hs =>
      refine .inl ⟨_, rfl, ⟨_, .inr k⟩, h _ H1 β1 t L1 ?_⟩
      exact it_list (fun H2 P2 β2 f => .inr k) hs
    | str z => exact .inr (.inr ⟨z, rfl, h _ H1 β1 t L1 it_str⟩)
    | _ => exact h.elim

/-! ### comprehensions -/
end
def wipeR (ρ : Rho) : List Nat → Rho
  | [] => ρ
  | v :: vs => (wipeR ρ vs).set v .un
def compL (vs : List Nat) (g : GX) (t : BX) (e : EX) (ρ : Rho) : List D → List D → Store → R (List D)
  | [], acc, S => .ok acc S
  | d :: ds, acc, S => match g d ρ S with
    | none => .stuck
    | some p => match t p.1 p.2 with
      | .ok true S2 => match e p.1 S2 with
        | .ok y S3 => if acc.length < sizeLine then compL vs g t e ρ ds (acc ++ [y]) S3 else .stuck
        | _ => .stuck
      | .ok false S2 => compL vs g t e ρ ds acc S2
      | _ => .stuck
/-- [e for .. in it if t]; vs: the slots of the block's own names -/
def mComp (it : AX) (vs : List Nat) (g : GX) (t : BX) (e : EX) : EX := fun ρ S => (it ρ S).bind fun ds S1 => (compL vs g t e (wipeR ρ vs) ds [] S1).bind fun ys S2 => .ok (.lst ys) S2
def bTrue : BX := fun _ S => .ok true S
section
variable {C : Ct} {cf : Cf} {oa : Nat → Option Addr} {P : Addr → Prop} {σ : L2.St} {H H' : Hp} {β β' : List Addr} {ρ : Rho} {S S' : Store}
/-- a container that no slot has and that is kept apart is changed -/
theorem LR.poke {p : Addr} {o : HO} (L : LR C cf oa P σ H β ρ S) (hp : P p) (h0 : cf.H0 p = none) (hn : ∀ i, oa i ≠ some p) (ht : ∀ xs, ¬ Rd H p (.tup xs)) : LR C cf oa P σ (upd H p o) β ρ S where
  len := L.len
  p := fun a h => by
    refine ⟨?_, (L.p a h).2⟩
    by_cases e : a = p
    · rw [e, upd_same]; exact Option.some_ne_none _
    · rw [upd_ne e]; exact (L.p a h).1
  sub := L.sub
  p0 := L.p0
  ext := ⟨L.ext.pre, fun a u h1 h2 => by
      have ne : a ≠ p := fun e => by rw [e, h0] at h1; cases h1
      rw [upd_ne ne]; exact L.ext.keep a u h1 h2, L.ext.fresh, fun a xs h => by
      have r := L.ext.tups a xs h
      have ne : a ≠ p := fun e => ht xs (e ▸ r)
      unfold Rd; rw [upd_ne ne]; exact r, fun a h => by
      by_cases e : a = p
      · rw [e, upd_same]; exact Option.some_ne_none _
      · rw [upd_ne e]; exact L.ext.stay a h⟩
  own := L.own
  inj := L.inj
  st := L.st.own hp (L.p p hp).2 ht
  slot := fun i d h => let ⟨v, q1, q2⟩ := L.slot i d h; ⟨v, q1, q2.set (.inl hp) ht⟩
  oslot := fun i d h => let ⟨a, q1, q2, q3⟩ := L.oslot i d h; ⟨a, q1, q2, q3.set (.inl hp) ht fun e => hn i (e ▸ q1)⟩
theorem Tr.poke {b : Bool} {p : Addr} {o : HO} (t : Tr b H β S H' β' S') (hp : H p = none) (ht : ∀ xs, ¬ Rd H' p (.tup xs)) : Tr b H β S (upd H' p o) β' S' where
  ext := ⟨t.ext.pre, fun a u h1 h2 => by rw [upd_ne (ne_of_none h1 hp)]; exact t.ext.keep a u h1 h2, t.ext.fresh, fun a xs h => by
      have r := t.ext.tups a xs h
      have ne : a ≠ p := fun e => ht xs (e ▸ r)
      unfold Rd; rw [upd_ne ne]; exact r, fun a h => by
      by_cases e : a = p
      · rw [e, upd_same]; exact Option.some_ne_none _
      · rw [upd_ne e]; exact t.ext.stay a h⟩
  ro := fun e => let ⟨q1, q2, q3⟩ := t.ro e; ⟨fun a u h => by rw [upd_ne (ne_of_none h hp)]; exact q1 a u h, q2, q3⟩
theorem wipeR_length (ρ : Rho) : ∀ vs : List Nat, (wipeR ρ vs).length = ρ.length
  | [] => rfl
  | v :: vs => by unfold wipeR; rw [List.length_set, wipeR_length ρ vs]
theorem wipeR_in {ρ : Rho} {i : Nat} : ∀ {vs : List Nat}, i ∈ vs → i < ρ.length → (wipeR ρ vs)[i]? = some .un
  | [], h, _ => nomatch h
  | v :: vs, h, hl => by
    unfold wipeR
    by_cases e : v = i
    · subst e; rw [List.getElem?_set_self (by rw [wipeR_length]; exact hl)]
    · rw [List.getElem?_set_ne e]
      exact wipeR_in ((List.mem_cons.mp h).resolve_left fun z => e z.symm) hl
theorem wipeR_out {ρ : Rho} {i : Nat} : ∀ {vs : List Nat}, i ∉ vs → (wipeR ρ vs)[i]? = ρ[i]?
  | [], _ => rfl
  | v :: vs, h => by
    unfold wipeR
    rw [List.getElem?_set_ne fun e => h (by rw [e]; exact List.mem_cons_self)]
    exact wipeR_out fun m => h (List.mem_cons_of_mem _ m)
/-- the block's own names forgotten -/
theorem LR.wipe (L : LR C cf oa P σ H β ρ S) (vs : List Nat) : LR C cf oa P (L2.wipe σ vs) H β (wipeR ρ vs) S where
  len := by rw [wipe_length, wipeR_length]; exact L.len
  p := L.p
  sub := L.sub
  p0 := L.p0
  ext := L.ext
  own := L.own
  inj := L.inj
  st := L.st
  slot := fun i d h => by
    by_cases m : i ∈ vs
    · by_cases hl : i < ρ.length
      · rw [wipeR_in m hl] at h; cases h
      · rw [List.getElem?_eq_none (by rw [wipeR_length]; omega)] at h; cases h
    · rw [wipeR_out m] at h
      obtain ⟨v, q1, q2⟩ := L.slot i d h
      exact ⟨v, by rw [L2.wipe_out m]; exact q1, q2⟩
  oslot := fun i d h => by
    by_cases m : i ∈ vs
    · by_cases hl : i < ρ.length
      · rw [wipeR_in m hl] at h; cases h
      · rw [List.getElem?_eq_none (by rw [wipeR_length]; omega)] at h; cases h
    · rw [wipeR_out m] at h
      obtain ⟨a, q0, q1, q2⟩ := L.oslot i d h
      exact ⟨a, q0, by rw [L2.wipe_out m]; exact q1, q2⟩
/-- the block's target: it stores to the block's own slots alone, and nothing else changes -/
def BG (X : Cx) (vs : List Nat) (g : GX) (t : TG) : Prop :=
  ∀ (cf : Cf) (oa : Nat → Option Addr) (P : Addr → Prop) (σ : L2.St) (H : Hp) (β : List Addr) (ρ : Rho) (S : Store) (v : V) (d : D) (p : Rho × Store) (Q : L2.St → Hp → Prop), LR (ctOf X) cf oa P (L2.wipe σ vs) H β (wipeR ρ vs) S → RV (ctOf X) H P β v d → g d (wipeR ρ vs) S = some p →
    (∀ σ', L2.wipe σ' vs = L2.wipe σ vs → LR (ctOf X) cf oa P σ' H β p.1 p.2 → p.2 = S → Q σ' H) → t v (L2.wipe σ vs) H Q
end
section
variable {X : Cx} {W : WX} {b : Bool} {tg e : Expr} {ma : EX} {mas it : AX}
theorem wipe_set_in {σ : L2.St} {i : Nat} {x : Option V} : ∀ {vs : List Nat}, i ∈ vs → L2.wipe (σ.set i x) vs = L2.wipe σ vs
  | [], h => nomatch h
  | v :: vs, h => by
    unfold L2.wipe
    by_cases m : i ∈ vs
    · rw [wipe_set_in m]
    · have e : i = v := (List.mem_cons.mp h).resolve_right m
      subst e
      have q : ∀ {ws : List Nat}, i ∉ ws → L2.wipe (σ.set i x) ws = (L2.wipe σ ws).set i x := by
        intro ws
        induction ws with
        | nil => intro _; rfl
        | cons w ws ih =>
          intro hn
          unfold L2.wipe
          rw [ih fun z => hn (List.mem_cons_of_mem _ z), List.set_comm]
          exact fun z => hn (by rw [z]; exact List.mem_cons_self)
      rw [q m, List.set_set]
theorem wipe_wipe {σ : L2.St} : ∀ {vs ws : List Nat}, (∀ v ∈ vs, v ∈ ws) → L2.wipe (L2.wipe σ vs) ws = L2.wipe σ ws
  | [], _, _ => rfl
  | v :: vs, ws, h => by
    have e : L2.wipe σ (v :: vs) = (L2.wipe σ vs).set v none := rfl
    rw [e, wipe_set_in (h v List.mem_cons_self)]
    exact wipe_wipe fun u hu => h u (List.mem_cons_of_mem _ hu)
theorem bg_name {i : Nat} : BG X [i] (gSet i) (gName i) := by
  intro cf oa P σ H β ρ S v d p Q L r e k
  cases e
  refine k _ ?_ ?_ rfl
  · rw [wipe_set_in (List.mem_singleton.mpr rfl), wipe_wipe fun _ h => h]
  · have L2 := L.set (i := i) r
    have hn : wipeR ρ [i] = ρ.set i .un := rfl
    refine ⟨L2.len, L2.p, L2.sub, L2.p0, L2.ext, L.own, L.inj, L2.st, L2.slot, fun j x h => ?_⟩
    obtain ⟨a, q0, q1, q2⟩ := L2.oslot j x h
    refine ⟨a, ?_, q1, q2⟩
    by_cases ej : j = i
    · rw [if_pos ej] at q0; cases q0
    · rw [if_neg ej] at q0; exact q0
theorem pm_comp0 {wi : TI} {g : GX} {gt : TG} {t : BX} {tt : TT} {te : TE} {vs : List Nat} {σ : L2.St} {H : Hp} {Q : VK}
    (hi : ∀ σ H R, IM (ctOf X) W b it σ H R → wi σ H R) (hg : BG X vs g gt) (ht : ∀ σ H Q, BM (ctOf X) (fun _ _ _ _ => False) b t σ H Q → tt σ H Q) (he : ∀ σ H Q, EM (ctOf X) (fun _ _ _ _ => False) b ma σ H Q → te σ H Q)
    (h : EO (ctOf X) W b (mComp it vs g t ma) σ H Q) : tLc wi gt tt te vs σ H Q := by
  obtain ⟨cf, oa, P, β, ρ, S, L, h⟩ := h
  refine hi _ _ _ ⟨cf, oa, P, β, ρ, S, L, ?_⟩
  unfold mComp at h
  cases ea : it ρ S with
  | stuck => rw [ea] at h; exact h
  | exc e S1 => rw [ea] at h; exact h
  | ok ds S1 =>
    rw [ea] at h
    simp only [R.bind] at h
    intro J H1 β1 t1 L1 im D hD
    have hDs : Same H1 (upd H1 D (.lst [])) := same_laid hD
    -- what a turn finds
    refine ⟨fun i m H2 => m = ds.length - i ∧ i ≤ ds.length ∧ ∃ β2 S2 acc xs, LR (ctOf X) cf oa (fun a => P a ∨ a = D) σ H2 β2 ρ S2 ∧ Tr b H1 β1 S1 H2 β2 S2 ∧ H2 D = some (.lst xs) ∧ RVs (ctOf X) H2 (fun a => P a ∨ a = D) β2 xs acc ∧
        compL vs g t ma (wipeR ρ vs) ds [] S1 = compL vs g t ma (wipeR ρ vs) (ds.drop i) acc S2,
      ⟨ds.length, by simp, Nat.zero_le _, β1, S1, [], [], L1.keepMore hDs hD (by rw [upd_same]; exact Option.some_ne_none _), Tr.same hDs, upd_same, .nil, by rw [List.drop_zero]⟩, ?_⟩
    rintro i m H2 ⟨rfl, hil, β2, S2, acc, xs, L2, t2, hx, rs, eq⟩
    have h0 : cf.H0 D = none := by
      cases z : cf.H0 D with
      | none => rfl
      | some u => exact absurd hD (L1.ext.stay D (by rw [z]; exact Option.some_ne_none _))
    have no : ∀ j, oa j ≠ some D := fun j z => (L1.p D (L1.own j D z).1).1 hD
    obtain ⟨go, stop⟩ := im i H2 (fun a => P a ∨ a = D) β2 (Fx.more t2.ext hD) L2.new
    by_cases hl : i < ds.length
    · right
      have hd : ds[i]? = some ds[i] := List.getElem?_eq_getElem hl
      obtain ⟨g1, g2⟩ := go _ hd
      rw [List.drop_eq_getElem_cons hl] at eq
      simp only [compL] at eq
      refine ⟨g1, fun H' => ∃ β2 S2 acc xs, LR (ctOf X) cf oa (fun a => P a ∨ a = D) σ H' β2 ρ S2 ∧ Tr b H1 β1 S1 H' β2 S2 ∧ H' D = some (.lst xs) ∧ RVs (ctOf X) H' (fun a => P a ∨ a = D) β2 xs acc ∧
        compL vs g t ma (wipeR ρ vs) ds [] S1 = compL vs g t ma (wipeR ρ vs) (ds.drop (i + 1)) acc S2, fun H' hN => ⟨ds.length - (i + 1), by omega, rfl, hl, hN⟩, fun x H3 y => ?_⟩
      obtain ⟨e3, r3⟩ := g2 x H3 y
      have L3 := L2.same e3
      cases eg : g ds[i] (wipeR ρ vs) S2 with
      | none => rw [eg] at eq; rw [eq] at h; exact h.elim
      | some p =>
        rw [eg] at eq
        simp only at eq
        refine hg cf oa _ σ H3 β2 ρ S2 x ds[i] p _ (L3.wipe vs) r3 eg fun σ4 hw L4 hS => ⟨hw, ?_⟩
        -- back to the def's own slots
        have back : ∀ {H5 : Hp} {β5 : List Addr} {S5 : Store}, Tr b H3 β2 S2 H5 β5 S5 → SRel (ctOf X) H5 (fun a => P a ∨ a = D) β5 S5 → LR (ctOf X) cf oa (fun a => P a ∨ a = D) σ H5 β5 ρ S5 := fun t5 s5 => L3.step t5.ext s5
        refine ht _ _ _ ⟨cf, oa, _, β2, p.1, p.2, L4, ?_⟩
        cases et : t p.1 p.2 with
        | stuck => rw [et] at eq; rw [eq] at h; exact h.elim
        | exc e S5 => rw [et] at eq; rw [eq] at h; exact h.elim
        | ok k S5 =>
          rw [et] at eq
          intro H5 β5 t5 L5
          rw [hS] at t5
          have nD : ∀ {H6 : Hp}, H6 D = some (.lst xs) → ∀ ys, ¬ Rd H6 D (.tup ys) := fun {H6} q ys r => by
            rcases r with r | ⟨o, r⟩ <;> (rw [q] at r; cases r)
          have hx5 : H5 D = some (.lst xs) := t5.ext.keep _ _ (e3 _ _ hx) (L3.p D (.inr rfl)).2
          cases k with
          | false =>
            rw [if_neg Bool.false_ne_true]
            exact ⟨β5, S5, acc, xs, back t5 L5.st, t2.trans ((Tr.same e3).trans t5), hx5, (rs.mono (Ext.same e3)).mono t5.ext, eq⟩
          | true =>
            rw [if_pos rfl]
            simp only at eq
            refine he _ _ _ ⟨cf, oa, _, β5, p.1, S5, L5, ?_⟩
            cases ee : ma p.1 S5 with
            | stuck => rw [ee] at eq; rw [eq] at h; exact h.elim
            | exc e S6 => rw [ee] at eq; rw [eq] at h; exact h.elim
            | ok d S6 =>
              rw [ee] at eq
              intro v H6 β6 t6 L6 r6
              have hx6 : H6 D = some (.lst xs) := t6.ext.keep _ _ hx5 (L5.p D (.inr rfl)).2
              have len : xs.length = acc.length := rs.length
              by_cases hz : acc.length < sizeLine
              · simp only [if_pos hz] at eq
                have t36 := t5.trans t6
                have L7 := back t36 L6.st
                have rs6 := ((rs.mono (Ext.same e3)).mono t36.ext)
                refine ⟨xs, hx6, by rw [len]; exact hz, β6, S6, acc ++ [d], xs ++ [v], L7.poke (.inr rfl) h0 no (nD hx6), (t2.trans ((Tr.same e3).trans t36)).poke hD (nD hx6), upd_same, ?_, eq⟩
                exact (rs6.append (.cons r6 .nil)).set (.inl (.inr rfl)) (nD hx6)
              · simp only [if_neg hz] at eq
                rw [eq] at h; exact h.elim
    · left
      have e : i = ds.length := by omega
      subst e
      rw [List.drop_length] at eq
      simp only [compL] at eq
      rw [eq] at h
      exact ⟨stop (Nat.le_refl _), h D H2 β2 (t1.trans t2) (stay_none t1.ext hD) L2 ⟨xs, hx, rs⟩⟩
end
end Mi

/-! Mi7: comprehensions as rules; defs and their calls. -/
namespace Mi
open PySem PySem.Spec PyProof.Rows L2

section
variable {X : Cx} {W : WX} {b : Bool} {e elt tg iter : Expr} {es ifs : List Expr} {ma m : EX} {mas it : AX} {pos : Pos} {g : GX} {kt : BX}
theorem eo_of_em {C : Ct} {σ : L2.St} {H : Hp} {Q : VK} (h : EM C W b ma σ H Q) : EO C W b ma σ H Q := by
  obtain ⟨cf, oa, P, β, ρ, S, L, h⟩ := h
  refine ⟨cf, oa, P, β, ρ, S, L, ?_⟩
  cases ea : ma ρ S with
  | stuck => rw [ea] at h; exact h
  | exc e S1 => rw [ea] at h; exact h
  | ok d S1 =>
    rw [ea] at h
    intro p H1 β1 e1 hn L1 o
    exact h (.ref p) H1 β1 e1 (L1.forget L.sub fun i a h => (L.own i a h).1) (own_rv o (L.npP hn) (L1.p p (.inr rfl)).2)
abbrev PTM (C : Ct) (W : WX) (b : Bool) (X : Cx) (ifs : List Expr) (k : BX) : Prop := PTs X ifs (BM C W b k)
theorem PTs_imp {t t' : TT} (h : PTs X ifs t) (i : ∀ σ H Q, t' σ H Q → t σ H Q) : PTs X ifs t' := ⟨fun pins s σ H Q I hw => h.run pins s σ H Q I (i σ H Q hw)⟩
abbrev W0 : WX := fun _ _ _ _ => False
/-- the parts of a comprehension's block -/
structure Blk (X : Cx) (b : Bool) (scope : Scope) (tg : Expr) (ifs : List Expr) (elt : Expr) (vs : List Nat) (g : GX) (gt : TG) (kt : BX) (m : EX) : Prop where
  hg : ∀ (s : Shared) (H : Hp) (C : Addr) (cl : List (Str × Addr)) (fp : List Addr), PG (X.blk s H scope (compEnvC scope cl C X.env) fp) tg gt
  bg : BG X vs g gt
  ht : ∀ (s : Shared) (H : Hp) (C : Addr) (cl : List (Str × Addr)) (fp : List Addr), PTM (ctOf X) W0 b (X.blk s H scope (compEnvC scope cl C X.env) fp) ifs kt
  he : ∀ (s : Shared) (H : Hp) (C : Addr) (cl : List (Str × Addr)) (fp : List Addr), PM (ctOf X) W0 b (X.blk s H scope (compEnvC scope cl C X.env) fp) elt m
theorem pn_lc {scope : Scope} {own : List (Str × Nat)} {gt : TG} (hc : X.calm = true) (hN : X.N.Nodup) (hi : PIM (ctOf X) W b X tg iter it) (ok : BlkOk X.N X.env.scope scope own) (B : Blk X b scope tg ifs elt (own.map (·.2)) g gt kt m)
    (hs : ∀ x, foldedSetIterable iter X.env x = pure x := by intro _; rfl) : PN (ctOf X) W b X (.ListComp elt [⟨tg, iter, ifs, 0⟩] scope pos) (mComp it (own.map (·.2)) g kt m) :=
  PE_imp (pe_lc hc hN hi ok B.hg B.ht B.he hs) fun σ H Q h => pm_comp0 (fun _ _ _ h => h) B.bg (fun _ _ _ h => h) (fun _ _ _ h => h) h
/-- name = [..] on one line -/
theorem ps_ownLc {i : Nat} {y : Str} {py spos : Pos} {scope : Scope} {own : List (Str × Nat)} {gt : TG} (hc : X.calm = true) (hN : X.N.Nodup) (hy : X.N[i]? = some y) (hyl : X.env.scope.names.lookup y = some .local)
    (hsw : swapsWith (.ListComp elt [⟨tg, iter, ifs, 0⟩] scope pos) (some (.Name y py)) spos.line X.env = pure true) (hi : PIM (ctOf X) W false X tg iter it) (ok : BlkOk X.N X.env.scope scope own) (B : Blk X false scope tg ifs elt (own.map (·.2)) g gt kt m)
    (hs : ∀ x, foldedSetIterable iter X.env x = pure x := by intro _; rfl) : PSM (ctOf X) W X (.Assign [.Name y py] (.ListComp elt [⟨tg, iter, ifs, 0⟩] scope pos) spos) (sOwn i (mComp it (own.map (·.2)) g kt m)) :=
  ps_ownM (ps_setLc hc hN hy hyl hsw hi ok B.hg B.ht B.he hs) fun σ H Q h => pm_comp0 (fun _ _ _ h => h) B.bg (fun _ _ _ h => h) (fun _ _ _ h => h) h
theorem ps_setLcM {i : Nat} {y : Str} {py spos : Pos} {scope : Scope} {own : List (Str × Nat)} {gt : TG} (hc : X.calm = true) (hN : X.N.Nodup) (hy : X.N[i]? = some y) (hyl : X.env.scope.names.lookup y = some .local)
    (hsw : swapsWith (.ListComp elt [⟨tg, iter, ifs, 0⟩] scope pos) (some (.Name y py)) spos.line X.env = pure true) (hi : PIM (ctOf X) W false X tg iter it) (ok : BlkOk X.N X.env.scope scope own) (B : Blk X false scope tg ifs elt (own.map (·.2)) g gt kt m)
    (hs : ∀ x, foldedSetIterable iter X.env x = pure x := by intro _; rfl) : PSM (ctOf X) W X (.Assign [.Name y py] (.ListComp elt [⟨tg, iter, ifs, 0⟩] scope pos) spos) (sSet i (mComp it (own.map (·.2)) g kt m)) :=
  ps_setM (ps_setLc hc hN hy hyl hsw hi ok B.hg B.ht B.he hs) fun σ H Q h => pm_comp0 (fun _ _ _ h => h) B.bg (fun _ _ _ h => h) (fun _ _ _ h => h) (eo_of_em h)
theorem bm_true {C : Ct} {σ : L2.St} {H : Hp} {Q : Bool → Hp → Prop} (h : BM C W b bTrue σ H Q) : Q true H := by
  obtain ⟨cf, oa, P, β, ρ, S, L, h⟩ := h
  exact h H β Tr.refl L
end

/-! ### what a def promises -/
def spM (C : Ct) (n : Nat) (f : FX) : Sp := fun vs H Q E => vs.length = n ∧ ∃ P β ds S, SRel C H P β S ∧ (∀ a, P a → H a ≠ none ∧ a ∉ β) ∧ RVs C H P β vs ds ∧ (match f ds S with
  | .ok d S' => ∀ v H' β', Ext H β H' β' → SRel C H' P β' S' → RV C H' P β' v d → Q v H'
  | .exc e S' => ∀ cls x H' β', Ext H β H' β' → SRel C H' P β' S' → ExnAt C H' P β' cls x e → E cls x H'
  | .stuck => False)
/-- a def that keeps its promise wherever nothing is being shown (no repr is under way) -/
structure FnG (P : Program) (w : World) (K : PySem.W.Frag) (mg : Str → Option Value) (base : Heap) (k : Nat) (f : Addr) (fd : FuncData) (ps : List Str) (sp : Sp) : Prop where
  len : ∀ vs H Q E, sp vs H Q E → vs.length = ps.length
  run : ∀ (A : Around) (outer : List Env) (s : Shared) (H : Hp) (args : Args) (us : List Value) (vs : List V) (Q : VK) (E : XK), A.guards = some [] → Room k A → Env0 P w K mg base A outer s H →
    BindsTo s fd args (ps.zip us) → Vals vs us → sp vs H Q E → codeAny (model P w) A (.call (.ref f) args) (CR (L2.CX P w) outer P w H s Q E) s
theorem fn_stuck {P : Program} {w : World} {K : PySem.W.Frag} {mg : Str → Option Value} {base : Heap} {k : Nat} {f : Addr} {fd : FuncData} {ps : List Str} {fm : FX} (h : ∀ ds S, fm ds S = .stuck) : FnG P w K mg base k f fd ps (spM ⟨K, mg, w⟩ ps.length fm) where
  len := fun vs H Q E h => h.1
  run := fun A outer s H args us vs Q E hg hr e0 hb r hs => by
    obtain ⟨_, P, β, ds, S, _, _, _, q⟩ := hs
    rw [h] at q
    exact q.elim
theorem LR.start {C : Ct} {H : Hp} {P : Addr → Prop} {β : List Addr} {S : Store} {vs : List V} {ds : List D} {N : List Str} (st : SRel C H P β S) (hp : ∀ a, P a → H a ≠ none ∧ a ∉ β) (r : RVs C H P β vs ds) :
    LR C ⟨H, β, P, []⟩ (fun _ => none) P (L2.start N vs) H β (ds.map Sl.sh ++ List.replicate (N.length - ds.length) Sl.un) S where
  len := by unfold L2.start; simp [r.length]
  p := hp
  sub := fun _ h => h
  p0 := fun a h => (hp a h).1
  ext := ⟨⟨[], (List.append_nil β).symm⟩, fun a o h _ => .inl h, fun _ h => .inl h, fun _ _ h => h, fun _ h => h⟩
  own := fun _ _ h => nomatch h
  inj := fun _ _ _ h => nomatch h
  st := st
  slot := fun i d h => by
    by_cases hi : i < ds.length
    · rw [List.getElem?_append_left (by simpa using hi), List.getElem?_map] at h
      cases e : ds[i]? with
      | none => rw [e] at h; cases h
      | some x =>
        rw [e] at h
        cases h
        obtain ⟨v, hv, rv⟩ := r.get e
        refine ⟨v, ?_, rv⟩
        unfold L2.start
        rw [List.getElem?_append_left (by simpa [r.length] using hi), List.getElem?_map, hv]
        rfl
    · rw [List.getElem?_append_right (by simpa using hi), List.getElem?_replicate] at h
      split at h <;> cases h
  oslot := fun i d h => by
    by_cases hi : i < ds.length
    · rw [List.getElem?_append_left (by simpa using hi), List.getElem?_map] at h
      cases e : ds[i]? with
      | none => rw [e] at h; cases h
      | some x => rw [e] at h; cases h
    · rw [List.getElem?_append_right (by simpa using hi), List.getElem?_replicate] at h
      split at h <;> cases h
section
variable {P : Program} {w : World} {K : PySem.W.Frag} {mg : Str → Option Value} {base : Heap}
abbrev XOf (P : Program) (w : World) (K : PySem.W.Frag) (mg : Str → Option Value) (base : Heap) (N : List Str) (qual : Str) (st : Stmt) (f : Addr) (cdv : Value) (A : Around) (outer : List Env) (s : Shared) (H : Hp) (E : XK) : Cx :=
  cxOf (L2.CX P w) P w K mg base N qual (defScope st) f cdv A outer s H E
/-- a def's body run at its arguments, by any reading of it -/
theorem fng_of {x qual : Str} {st : Stmt} {f : Addr} {fd : FuncData} {N ps : List Str} {k : Nat} {sp : Sp} (F : Fun K x qual st f fd) (S : FnScope N ps (defScope st)) (len : ∀ vs H Q E, sp vs H Q E → vs.length = ps.length)
    (body : ∀ (cdv : Value) (A : Around) (outer : List Env) (s : Shared) (H : Hp) (vs : List V) (Q : VK) (E : XK), A.guards = some [] → Room k (XOf P w K mg base N qual st f cdv A outer s H E).A → sp vs H Q E →
      ∃ t, PSs (XOf P w K mg base N qual st f cdv A outer s H E) (defBody st) t ∧ t { nx := fun _ H' => Q .non H', rt := Q } (L2.start N vs) H) : FnG P w K mg base (k + 1) f fd ps sp := by
  obtain ⟨oc, od, kV, doc, pm, an, cdv, ct, osl, rfl, at_f, code_f⟩ := F.ex
  constructor
  · exact len
  intro A outer s H args us vs Q E guards room env0 bound vals prom
  have inK : K.In s.heap := env0.mod.kin.keeps (fun b o e => (env0.bs b o e).1)
  have kinds : ∀ y ∈ ps.zip us, (defScope st).names.lookup y.1 = some .local ∨ ((defScope st).names.lookup y.1 = some .cell ∧ ((cellsFrom (s.heap.objs.size + 1) (defScope st).names []).lookup y.1).isSome = true) := by
    rintro ⟨n, v⟩ hy
    cases S.par n (List.of_mem_zip hy).1 with
    | inl q => exact .inl q
    | inr q => exact .inr ⟨q, PySem.W.cellsFrom_some _ _ _ (.inl q)⟩
  refine codeAny_call_function room.depth (inK _ _ at_f) rfl S.co S.gen rfl (PySem.W.codeRec_of inK code_f) (bound _ _ _ _ ?_)
  refine wpAny_newFunctionEnv_cells S.kind kinds ?_
  rintro _ rfl s1 entered
  refine ⟨(env0.mod.nolimit.keeps fun b o e => (env0.bs b o e).1).keeps entered.toInCall.keep, codeAny_func ?_⟩
  obtain ⟨t, run, start⟩ := body cdv A outer s H vs Q E guards (room.deeper _) prom
  have inv : L2.Inv (XOf P w K mg base N qual st f cdv A outer s H E) [] (L2.start N vs) H s1 := inv_start S room.hd env0 (len _ _ _ _ prom) vals entered
  refine wpAny_mono (run.run [] s1 _ H _ inv start) ?_ fun _ _ h => h
  intro flow s' h
  cases flow with
  | ret u =>
    obtain ⟨v, σ', H', J, rv, q⟩ := h
    exact ⟨v, H', J.os, J.bare, J.base, J.hok, rv, q⟩
  | next =>
    obtain ⟨σ', H', J, q⟩ := h
    exact ⟨.non, H', J.os, J.bare, J.base, J.hok, rfl, q⟩
  | brk => obtain ⟨_, _, _, q⟩ := h; exact q.elim
  | cont => obtain ⟨_, _, _, q⟩ := h; exact q.elim
/-- THE RULE for a def -/
theorem fn_ok {x qual : Str} {st : Stmt} {f : Addr} {fd : FuncData} {N ps : List Str} {k : Nat} {m : SX} (F : Fun K x qual st f fd) (S : FnScope N ps (defScope st))
    (hbody : ∀ (cdv : Value) (A : Around) (outer : List Env) (s : Shared) (H : Hp) (E : XK), (XOf P w K mg base N qual st f cdv A outer s H E).A.guards = some [] → Room k (XOf P w K mg base N qual st f cdv A outer s H E).A →
      PSSM ⟨K, mg, w⟩ (fun cls d _ H' => E cls d H') (XOf P w K mg base N qual st f cdv A outer s H E) (defBody st) m) : FnG P w K mg base (k + 1) f fd ps (spM ⟨K, mg, w⟩ ps.length (mDef N.length m)) := by
  refine fng_of F S (fun vs H Q E h => h.1) fun cdv A outer s H vs Q E hg hr h => ?_
  obtain ⟨hl, Pf, β, ds, St, st', hp, r, q⟩ := h
  refine ⟨_, hbody cdv A outer s H E hg hr, ?_⟩
  refine ⟨⟨H, β, Pf, []⟩, _, Pf, β, _, St, LR.start st' hp r, ?_⟩
  unfold mDef at q
  cases e : m (ds.map Sl.sh ++ List.replicate (N.length - ds.length) Sl.un) St with
  | nx ρ' S' =>
    rw [e] at q
    intro σ' H' β' oa' P' L' f'
    exact q .non H' β' (L'.ext.done rfl) (L'.st.less L'.sub) .non
  | rt d S' =>
    rw [e] at q
    intro v H' β' x' s' r'
    exact q v H' β' (x'.done rfl) s' r'
  | bk ρ' S' => rw [e] at q; exact q.elim
  | ct ρ' S' => rw [e] at q; exact q.elim
  | exc ex ρ' S' =>
    rw [e] at q
    intro cls x σ' H' β' oa' P' L' f' ea
    refine q cls x H' β' (L'.ext.done rfl) (L'.st.less L'.sub) ?_
    obtain ⟨Ca, dd, vs, h1, h2, h3, h4, h5⟩ := ea
    exact ⟨Ca, dd, vs, h1, h2, h3, h4, fun f x hx => let ⟨v, q1, q2⟩ := h5 f x hx; ⟨v, q1, q2.less L'.sub⟩⟩
  | stuck => rw [e] at q; exact q.elim
end

/-! ### calls -/
/-- the arguments in the parameters' order: places among the positional ones, then the keywords' -/
def pick {α : Type} (idx : List Nat) (us ws : List α) : List α := idx.filterMap fun i => (us ++ ws)[i]?
def mCall (f : FX) (idx : List Nat) (a k : AX) : EX := fun ρ S => (a ρ S).bind fun us S1 => (k ρ S1).bind fun ws S2 => f (pick idx us ws) S2
def ALen (a : AX) (n : Nat) : Prop := ∀ ρ S us S', a ρ S = .ok us S' → us.length = n
theorem alen_nil : ALen aNil 0 := fun ρ S us S' h => by cases h; rfl
theorem alen_cons {a : EX} {r : AX} {n : Nat} (h : ALen r n) : ALen (aCons a r) (n + 1) := fun ρ S us S' e => by
  unfold aCons at e
  cases ea : a ρ S with
  | stuck => rw [ea] at e; cases e
  | exc x S1 => rw [ea] at e; cases e
  | ok d S1 =>
    rw [ea] at e
    simp only [R.bind] at e
    cases er : r ρ S1 with
    | stuck => rw [er] at e; cases e
    | exc x S2 => rw [er] at e; cases e
    | ok ds S2 =>
      rw [er] at e
      cases e
      simp [h ρ S1 ds _ er]
theorem pick_vals {idx : List Nat} {vs zs : List V} {us ws : List Value} (r : Vals vs us) (q : Vals zs ws) : Vals (pick idx vs zs) (pick idx us ws) := by
  have h := r.append q
  induction idx with
  | nil => exact .nil
  | cons i idx ih =>
    unfold pick
    rw [List.filterMap_cons, List.filterMap_cons]
    cases e : (vs ++ zs)[i]? with
    | none => rw [h.none_of e]; exact ih
    | some v =>
      obtain ⟨u, e2, rv⟩ := h.get e
      rw [e2]
      exact .cons rv ih
theorem pick_rvs {C : Ct} {H : Hp} {P : Addr → Prop} {β : List Addr} {idx : List Nat} {vs zs : List V} {ds es : List D} (r : RVs C H P β vs ds) (q : RVs C H P β zs es) : RVs C H P β (pick idx vs zs) (pick idx ds es) := by
  have h := r.append q
  induction idx with
  | nil => exact .nil
  | cons i idx ih =>
    unfold pick
    rw [List.filterMap_cons, List.filterMap_cons]
    cases e : (vs ++ zs)[i]? with
    | none =>
      have : (ds ++ es)[i]? = none := by
        rw [List.getElem?_eq_none_iff] at e ⊢
        rw [← h.length]; exact e
      rw [this]; exact ih
    | some v =>
      obtain ⟨d, e2, rv⟩ := h.of e
      rw [e2]
      exact .cons rv ih
/-- a def of the module that keeps its promise -/
structure DefOk (P : Program) (w : World) (K : PySem.W.Frag) (mg : Str → Option Value) (base : Heap) (k : Nat) (x : Str) (st : Stmt) (ps : List Str) (f : FX) : Prop where
  ex : ∃ (fa : Addr) (qual : Str) (fd : FuncData), Fun K x qual st fa fd ∧ mg x = some (.ref fa) ∧ FnG P w K mg base k fa fd ps (spM ⟨K, mg, w⟩ ps.length f)
/-- how a def binds us positional arguments and the keywords ks -/
def BindOk (x : Str) (st : Stmt) (ps ks : List Str) (n : Nat) (idx : List Nat) : Prop :=
  ∀ (qual : Str) (kV doc pm : Value) (an : Option Addr) (cdv ct : Value) (us ws : List Value), us.length = n → ws.length = ks.length → bindArgs (PySem.W.fnOf x qual (defArgs st) (defBody st) (defScope st) .none kV doc pm an cdv ct) ⟨us, ks.zip ws⟩ = pure (ps.zip (pick idx us ws))
abbrev PKM (C : Ct) (W : WX) (b : Bool) (X : Cx) (kws : List Keyword) (m : AX) : Prop := PK X kws (AM C W b m)
section
variable {X : Cx} {W : WX} {b : Bool} {e : Expr} {es : List Expr} {kws : List Keyword} {me : EX} {ma mk : AX} {pos p : Pos} {x : Str} {st : Stmt} {ps ks : List Str} {f : FX} {k j n : Nat} {idx : List Nat}
theorem PK_imp {t t' : TA} (h : PK X kws t) (i : ∀ σ H Q, t' σ H Q → t σ H Q) : PK X kws t' := ⟨fun pos pins s σ H Q I hw => h.run pos pins s σ H Q I (i σ H Q hw)⟩
theorem pkm_nil : PKM (ctOf X) W b X [] aNil := PK_imp pk_nil fun σ H Q h => by
  obtain ⟨cf, oa, P, β, ρ, S, L, h⟩ := h
  exact h [] H β Tr.refl L .nil
theorem pkm_cons {nm : Option Str} {kpos : Pos} (ha : PM (ctOf X) W b X e me) (hr : PKM (ctOf X) W b X kws mk) : PKM (ctOf X) W b X (⟨nm, e, kpos⟩ :: kws) (aCons me mk) :=
  PK_imp (pk_cons ha hr) fun σ H Q h => am_cons h
theorem run_call {fa : Addr} {fd : FuncData} {sp : Sp} {σ : L2.St} {E : XK} {pins : List (Addr × Obj)} {H : Hp} {s : Shared} {Q : VK} {us ws us' : List Value} {vs : List V} (F : FnG X.prog X.w X.K X.mg X.base k fa fd ps sp) (hgd : X.A.guards = some []) (hr : Room k X.A) (hx : PassesAt (L2.CX X.prog X.w) X σ E)
    (I : Inv X pins σ H s) (bd : BindsTo s fd ⟨us, ks.zip ws⟩ (ps.zip us')) (r : Vals vs us') (h : sp vs H Q E) : wpAny (model X.prog X.w) X.A (call (.ref fa) us (ks.zip ws)) (EP X pins σ Q) X.xe s := by
  refine wpAny_call (codeAny_mono (F.run X.A X.stack s H ⟨us, ks.zip ws⟩ us' vs Q E hgd hr I.env0 bd r h) fun r s' hq => ?_)
  cases r with
  | error e => exact hx pins H s e s' I hq
  | ok fl =>
    cases fl with
    | ret u => exact I.after hq
    | next => exact False.elim hq
    | brk => exact False.elim hq
    | cont => exact False.elim hq
/-- from an expression's reading to the callee's promise -/
theorem call_sp {C : Ct} {cf : Cf} {oa : Nat → Option Addr} {P : Addr → Prop} {σ : L2.St} {H H1 : Hp} {β β1 : List Addr} {ρ : Rho} {S S1 : Store} {vs : List V} {ds : List D} {Q : VK} {n : Nat} (t : Tr false H β S H1 β1 S1) (L1 : LR C cf oa P σ H1 β1 ρ S1) (r : RVs C H1 P β1 vs ds) (hn : vs.length = n)
    (h : match f ds S1 with
      | .ok d S' => ∀ v H' β', Tr false H β S H' β' S' → LR C cf oa P σ H' β' ρ S' → RV C H' P β' v d → Q v H'
      | .exc e S' => XP C W cf oa P σ false H β ρ S e S'
      | .stuck => False) : spM C n f vs H1 Q (WE W σ) := by
  refine ⟨hn, P, β1, ds, S1, L1.st, L1.p, r, ?_⟩
  cases ef : f ds S1 with
  | stuck => rw [ef] at h; exact h
  | exc e S' =>
    rw [ef] at h
    intro cls x H' β' e1 s1 ea
    exact h cls x H' β' ⟨t.ext.trans e1, fun z => nomatch z⟩ (L1.step e1 s1) ea
  | ok d S' =>
    rw [ef] at h
    intro v H' β' e1 s1 rv
    exact h v H' β' ⟨t.ext.trans e1, fun z => nomatch z⟩ (L1.step e1 s1) rv
theorem am_call {σ : L2.St} {H : Hp} {Q : VK} {nv : Nat} (h : EM (ctOf X) W false (mCall f idx ma mk) σ H Q) (hl : ∀ vs zs : List V, vs.length = n → zs.length = ks.length → (pick idx vs zs).length = nv) (h1 : ALen ma n) (h2 : ALen mk ks.length) :
    AM (ctOf X) W false ma σ H fun vs H1 => AM (ctOf X) W false mk σ H1 fun zs H2 => vs.length = n ∧ zs.length = ks.length ∧ spM (ctOf X) nv f (pick idx vs zs) H2 Q (WE W σ) := by
  obtain ⟨cf, oa, P, β, ρ, S, L, h⟩ := h
  refine ⟨cf, oa, P, β, ρ, S, L, ?_⟩
  unfold mCall at h
  cases ea : ma ρ S with
  | stuck => rw [ea] at h; exact h
  | exc e S1 => rw [ea] at h; exact h
  | ok us S1 =>
    rw [ea] at h
    simp only [R.bind] at h
    intro vs H1 β1 t1 L1 r1
    refine ⟨cf, oa, P, β1, ρ, S1, L1, ?_⟩
    cases eb : mk ρ S1 with
    | stuck => rw [eb] at h; exact h
    | exc e S2 => rw [eb] at h; intro cls d H' β' e2 L2 ex; exact h cls d H' β' (t1.trans e2) L2 ex
    | ok ws S2 =>
      rw [eb] at h
      simp only [R.bind] at h
      intro zs H2 β2 t2 L2 r2
      have n1 : vs.length = n := by rw [r1.length]; exact h1 _ _ _ _ ea
      have n2 : zs.length = ks.length := by rw [r2.length]; exact h2 _ _ _ _ eb
      exact ⟨n1, n2, call_sp (t1.trans t2) L2 (pick_rvs (r1.mono t2.ext) r2) (hl vs zs n1 n2) h⟩
theorem bind_to {s : Shared} {qual : Str} {fa : Addr} {fd : FuncData} {us ws : List Value} (F : Fun X.K x qual st fa fd) (B : BindOk x st ps ks n idx) (hu : us.length = n) (hw : ws.length = ks.length) : BindsTo s fd ⟨us, ks.zip ws⟩ (ps.zip (pick idx us ws)) := by
  obtain ⟨oc, od, kV, doc, pm, an, cdv, ct, osl, rfl, lk, hcd⟩ := F.ex
  exact .of_eq (B qual kV doc pm an cdv ct us ws hu hw)
/-- f(e, .., k = v, ..) -/
theorem pm_call (Dk : DefOk X.prog X.w X.K X.mg X.base k x st ps f) (hgd : X.A.guards = some []) (hr : Room j X.A) (hkj : k ≤ j) (tk : Takes X W) (B : BindOk x st ps ks n idx) (ha : PAM (ctOf X) W false X (e :: es) ma) (hkw : PKM (ctOf X) W false X kws mk) (h1 : ALen ma n) (h2 : ALen mk ks.length)
    (hl : ∀ vs zs : List V, vs.length = n → zs.length = ks.length → (pick idx vs zs).length = ps.length) (hg : Gl X x := by rfl)
    (hall : (backToKw pos (keywordEach kws X.env)).all (·.1.isSome) = true := by rfl) (hks : (backToKw pos (keywordEach kws X.env)).filterMap (·.1) = ks := by rfl)
    (hdb : (x == ("__debug__" : Str)) = false := by decide) (he : starEach (e :: es) X.env = (false, eval e X.env) :: starEach es X.env := by rfl)
    (hpl : ((backTo pos (starEach (e :: es) X.env)).any (·.1) || (backToKw pos (keywordEach kws X.env)).any (·.1.isNone)) = false := by rfl) : PM (ctOf X) W false X (.Call (.Name x p) (e :: es) kws pos) (mCall f idx ma mk) := by
  obtain ⟨fa, qual, fd, F, hm, G⟩ := Dk.ex
  refine ⟨fun pins s σ H Q I h => ?_⟩
  have h := am_call h hl h1 h2
  refine wpAny_Call_Name_kw (ld_glob I hg hm ?_ hdb)
  refine PySem.W.callWith_KW (h₀ := X.base) I.ok.mod.kin F.kp hall (thn (ha.run pos pins s σ H _ I h) fun us s1 ⟨vs, H1, I1, r, q⟩ => ?_) hpl he
  refine thn (hkw.run pos pins s1 σ H1 _ I1 q) fun ws s2 ⟨zs, H2, I2, rz, n1, n2, q2⟩ => ⟨I2.kIn, ?_⟩
  rw [hks]
  exact run_call G hgd (hr.mono hkj) (passAt tk σ) I2 (us := us) (bind_to F B (by rw [← r.length]; exact n1) (by rw [← rz.length]; exact n2)) (pick_vals r rz) q2
/-- f(k = v, ..) -/
theorem pm_callK (Dk : DefOk X.prog X.w X.K X.mg X.base k x st ps f) (hgd : X.A.guards = some []) (hr : Room j X.A) (hkj : k ≤ j) (tk : Takes X W) (B : BindOk x st ps ks 0 idx) (hkw : PKM (ctOf X) W false X kws mk) (h2 : ALen mk ks.length)
    (hl : ∀ vs zs : List V, vs.length = 0 → zs.length = ks.length → (pick idx vs zs).length = ps.length) (hg : Gl X x := by rfl)
    (hall : (backToKw pos (keywordEach kws X.env)).all (·.1.isSome) = true := by rfl) (hks : (backToKw pos (keywordEach kws X.env)).filterMap (·.1) = ks := by rfl)
    (hdb : (x == ("__debug__" : Str)) = false := by decide)
    (hpl : ((backTo pos (starEach [] X.env)).any (·.1) || (backToKw pos (keywordEach kws X.env)).any (·.1.isNone)) = false := by rfl) : PM (ctOf X) W false X (.Call (.Name x p) [] kws pos) (mCall f idx aNil mk) := by
  obtain ⟨fa, qual, fd, F, hm, G⟩ := Dk.ex
  refine ⟨fun pins s σ H Q I h => ?_⟩
  have h := am_call h hl alen_nil h2
  have h' : AM (ctOf X) W false mk σ H fun zs H2 => zs.length = ks.length ∧ spM (ctOf X) ps.length f (pick idx [] zs) H2 Q (WE W σ) := by
    obtain ⟨cf, oa, P, β, ρ, S, L, h⟩ := h
    have q := h [] H β Tr.refl L .nil
    obtain ⟨cf, oa, P, β, ρ, S, L, q⟩ := q
    refine ⟨cf, oa, P, β, ρ, S, L, ?_⟩
    cases eb : mk ρ S with
    | stuck => rw [eb] at q; exact q
    | exc e S2 => rw [eb] at q; exact q
    | ok ws S2 => rw [eb] at q; intro zs H2 β2 t2 L2 r2; exact (q zs H2 β2 t2 L2 r2).2
  refine wpAny_Call_Name_kw (ld_glob I hg hm ?_ hdb)
  refine PySem.W.callWith_KW0 (h₀ := X.base) I.ok.mod.kin F.kp hall (thn (hkw.run pos pins s σ H _ I h') fun ws s2 ⟨zs, H2, I2, rz, n2, q2⟩ => ⟨I2.kIn, ?_⟩) hpl
  rw [hks]
  exact run_call (us := []) G hgd (hr.mono hkj) (passAt tk σ) I2 (bind_to F B rfl (by rw [← rz.length]; exact n2)) (pick_vals .nil rz) q2
end
end Mi

/-! Mi8: operations by values. -/
namespace Mi
open PySem PySem.Spec PyProof.Rows L2

/-! ### the pure side -/
def okMul (i j : Int) : Bool := decide (i.natAbs < 2 ^ 64) || decide (j.natAbs < 2 ^ 64)
def dAdd (S : Store) (x y : D) : Option D := match x, y with
  | .int i, .int j => some (.int (i + j))
  | .str i, .str j => if i.length + j.length ≤ sizeLine then some (.str (i ++ j)) else none
  | .tup xs, .tup ys => if xs.length + ys.length ≤ sizeLine then some (.tup (xs ++ ys)) else none
  | x, y => match viewL S x, viewL S y with
    | some xs, some ys => if xs.length + ys.length ≤ sizeLine then some (.lst (xs ++ ys)) else none
    | _, _ => none
def dCat (S : Store) (x y : D) : Option D := match viewL S x, viewL S y with
    | some xs, some ys => if xs.length + ys.length ≤ sizeLine then some (.lst (xs ++ ys)) else none
    | _, _ => none
def dSub (_ : Store) (x y : D) : Option D := match x, y with
  | .int i, .int j => some (.int (i - j))
  | _, _ => none
def strRep (x : Str) (n : Int) : Str := if n < 1 then Str.empty else if (n == 1 || x.length == 0) = true then x else ⟨(List.replicate n.toNat x.cps).foldl (· ++ ·) #[]⟩
def dMul (_ : Store) (x y : D) : Option D := match x, y with
  | .int i, .int j => if okMul i j = true then some (.int (i * j)) else none
  | .str x, .int n => if n.natAbs ≤ 1000000 ∧ x.length ≤ 1000000 ∧ Builtin.Str.tooLong (x.length * n.toNat) = false then some (.str (strRep x n)) else none
  | _, _ => none
def dFdiv (_ : Store) (x y : D) : Option D := match x, y with
  | .int i, .int j => if j ≠ 0 ∧ j.natAbs < 1073741824 then some (.int (i.fdiv j)) else none
  | _, _ => none
def dMod (_ : Store) (x y : D) : Option D := match x, y with
  | .int i, .int j => if j ≠ 0 then some (.int (i.fmod j)) else none
  | _, _ => none
def dPow (_ : Store) (x y : D) : Option D := match x, y with
  | .int i, .int j => if 0 ≤ j ∧ j ≤ 1000000 ∧ i.natAbs < 2 ^ 64 then some (.int (i ^ j.toNat)) else none
  | _, _ => none
def dNeg (_ : Store) (x : D) : Option D := match x with
  | .int i => some (.int (-i))
  | _ => none
def dLt (_ : Store) (x y : D) : Option D := match x, y with
  | .int i, .int j => some (.bl (decide (i < j)))
  | .str i, .str j => some (.bl (decide (i.cps.toList < j.cps.toList)))
  | _, _ => none
def dLe (_ : Store) (x y : D) : Option D := match x, y with
  | .int i, .int j => some (.bl (decide (i ≤ j)))
  | .str i, .str j => some (.bl (!decide (j.cps.toList < i.cps.toList)))
  | _, _ => none
def dGt (_ : Store) (x y : D) : Option D := match x, y with
  | .int i, .int j => some (.bl (decide (j < i)))
  | .str i, .str j => some (.bl (decide (j.cps.toList < i.cps.toList)))
  | _, _ => none
def dGe (_ : Store) (x y : D) : Option D := match x, y with
  | .int i, .int j => some (.bl (decide (j ≤ i)))
  | .str i, .str j => some (.bl (!decide (i.cps.toList < j.cps.toList)))
  | _, _ => none

section
variable {X : Cx}
theorem opI_mk {f : Value → Value → Sem Value} {C : Int → Int → Prop} {g : Int → Int → V} {r : R2} (h : OpR X f (rI C g)) (i : ∀ x y H Q, r x y H Q → rI C g x y H Q) : OpR X f r :=
  fun pins s σ H x y v u Q I rx ry q => h pins s σ H x y v u Q I rx ry (i _ _ _ _ q)
/-- list + list -/
def rCatS (K : PySem.W.Frag) : R2 := fun x y H Q => ∃ l b xs zs, x = .ref l ∧ y = .ref b ∧ SqL K H l xs ∧ SqL K H b zs ∧ xs.length + zs.length ≤ sizeLine ∧ ∀ p, H p = none → Q (.ref p) (upd H p (.lst (xs ++ zs)))
theorem op_catS : OpR X (binaryOp .Add) (rCatS X.K) := by
  intro pins s σ H x y v u Q I rx ry h
  obtain ⟨l, b, xs, zs, rfl, rfl, hx, hy, hz, q⟩ := h
  cases rx
  cases ry
  obtain ⟨its, r1, ⟨o1, n1, g1, c1, _, d1⟩, _⟩ := I.list hx
  obtain ⟨its2, r2, ⟨o2, n2, g2, c2, _, d2⟩, _⟩ := I.list hy
  obtain ⟨cl1, dd1, da1, sl1⟩ := o1
  obtain ⟨cl2, dd2, da2, sl2⟩ := o2
  simp only at c1 d1 c2 d2
  subst c1 d1 c2 d2
  have hl : its.toArray.size + its2.toArray.size ≤ sizeLine := by
    rw [List.size_toArray, List.size_toArray, ← r1.length, ← r2.length]; exact hz
  refine concat_meets ⟨_, g1, rfl⟩ ⟨_, g2, rfl⟩ noFill_list_add seq_list_add F.slot_list_add F.entry_list_add (F.args_list_add_2 _ _) (list_addW l b _ _ n1 n2 dd1 dd2 sl1 sl2 hl) ⟨g1, g2, ?_⟩
  have ea : its.toArray ++ its2.toArray = (its ++ its2).toArray := by simp
  rw [ea]
  exact ⟨.ref _, _, I.lnew (t' := s.toks) (r1.append r2) (by rw [List.length_append]; exact hz), rfl, q _ I.fresh⟩
def rAdd (K : PySem.W.Frag) : R2 := fun x y H Q => (∃ i j, x = .int i ∧ y = .int j ∧ Q (.int (i + j)) H) ∨ (∃ i j, x = .str i ∧ y = .str j ∧ i.length + j.length ≤ sizeLine ∧ Q (.str (i ++ j)) H) ∨ rCatA K x y H Q ∨ rCatS K x y H Q
theorem or_add : OpR X (binaryOp .Add) (rAdd X.K) := OpR.or op_add (OpR.or op_add_str (OpR.or op_catA op_catS))
theorem cat_own {C : Ct} {H : Hp} {Z : Addr → Prop} {β : List Addr} {S : Store} {p : Addr} {xs : List V} {ds : List D} (A : At C H Z β S) (hp : H p = none) (r : RVs C H Z β xs ds) :
    OwnAt C (upd H p (.lst xs)) (fun c => Z c ∨ c = p) β p (.lst ds) :=
  ⟨xs, upd_same, (r.more hp).mono (Ext.laid hp)⟩
theorem cat_new : OpN X (rCatS X.K) dCat := by
  intro Z H β S x y dx dy dz Q A rx ry e k
  unfold dCat at e
  split at e
  · rename_i xs ys e1 e2
    split at e
    · rename_i hz
      cases e
      obtain ⟨a, us, rfl, q1, r1⟩ := rx.viewL A.st e1
      obtain ⟨b, ws, rfl, q2, r2⟩ := ry.viewL A.st e2
      refine ⟨a, b, us, ws, rfl, rfl, q1, q2, by rw [r1.length, r2.length]; exact hz, fun p hp => ?_⟩
      exact k p _ (same_laid hp) hp (cat_own A hp (r1.append r2))
    · cases e
  · cases e
theorem add_m : OpM X (rAdd X.K) dAdd := by
  intro Z H β S x y dx dy dz Q A rx ry e k
  unfold dAdd at e
  split at e
  · cases rx; cases ry; cases e
    exact .inl ⟨_, _, rfl, rfl, k _ H (Same.refl _) (.int _)⟩
  · split at e
    · rename_i hz
      cases rx; cases ry; cases e
      exact .inr (.inl ⟨_, _, rfl, rfl, hz, k _ H (Same.refl _) (.str _)⟩)
    · cases e
  · rename_i xs ys
    split at e
    · rename_i hz
      cases e
      obtain ⟨a, us, rfl, q1, r1⟩ := rx.viewT rfl
      obtain ⟨b, ws, rfl, q2, r2⟩ := ry.viewT rfl
      refine .inr (.inr (.inl ⟨a, b, us, ws, rfl, rfl, q1, q2, by rw [r1.length, r2.length]; exact hz, fun z => ?_, fun z1 z2 => ?_, fun z1 z2 p hp => ?_⟩))
      · subst z
        cases r1
        exact k _ H (Same.refl _) ry
      · subst z2
        cases r2
        rw [List.append_nil] at k
        exact k _ H (Same.refl _) rx
      · exact k _ _ (same_laid hp) (.tup (.inl upd_same) ((r1.append r2).mono (Ext.laid hp)))
    · cases e
  · rename_i x' y' n1 n2 n3
    exact .inr (.inr (.inr (OpM.of_new (cat_new (X := X)) Z H β S x y dx dy dz Q A rx ry e k)))
theorem sub_m : OpM X (rI0 fun i j => .int (i - j)) dSub := by
  intro Z H β S x y dx dy dz Q A rx ry e k
  unfold dSub at e
  split at e
  · cases rx; cases ry; cases e
    exact ⟨_, _, rfl, rfl, k _ H (Same.refl _) (.int _)⟩
  · cases e
theorem rep_size {α : Type} (a : Array α) : ∀ (n : Nat) (b : Array α), ((List.replicate n a).foldl (· ++ ·) b).size = b.size + n * a.size
  | 0, b => by simp
  | n + 1, b => by
    rw [List.replicate_succ, List.foldl_cons, rep_size a n (b ++ a), Array.size_append, Nat.succ_mul]
    omega
def rMul : R2 := fun x y H Q => rI CMul (fun i j => .int (i * j)) x y H Q ∨ ∃ z n, x = .str z ∧ y = .int n ∧ (n.natAbs ≤ 1000000 ∧ z.length ≤ 1000000 ∧ Builtin.Str.tooLong (z.length * n.toNat) = false) ∧ Q (.str (strRep z n)) H
theorem op_strRep : OpR X (binaryOp .Mult) (fun x y H Q => ∃ z n, x = .str z ∧ y = .int n ∧ (n.natAbs ≤ 1000000 ∧ z.length ≤ 1000000 ∧ Builtin.Str.tooLong (z.length * n.toNat) = false) ∧ Q (.str (strRep z n)) H) := by
  intro pins s σ H x y v u Q I rx ry h
  obtain ⟨z, n, rfl, rfl, ⟨h1, h2, h3⟩, q⟩ := h
  obtain ⟨t, rfl⟩ := rx
  obtain ⟨t', rfl⟩ := ry
  refine P.mul_str (by have a1 : ¬ n < -(2 ^ 63 : Int) := by omega
                       have a2 : ¬ n ≥ 2 ^ 63 := by omega
                       rw [decide_eq_false a1, decide_eq_false a2]; rfl) (fun g1 _ => ?_) (fun _ _ => h3) ?_
  · have : (1000000 : Int) ≤ (2 ^ 63 - 1) / n := by
      rw [Int.le_ediv_iff_mul_le (by omega)]
      omega
    omega
  · unfold strRep at q
    split
    · rename_i g
      rw [if_pos g] at q
      exact ⟨by decide, ⟨.str _, H, I.tok _, ⟨_, rfl⟩, q⟩⟩
    · rename_i g
      rw [if_neg g] at q
      split
      · rename_i g2
        rw [if_pos g2] at q
        exact ⟨.str z, H, I, ⟨_, rfl⟩, q⟩
      · rename_i g2
        rw [if_neg g2] at q
        refine ⟨?_, ⟨.str _, H, I.tok _, ⟨_, rfl⟩, q⟩⟩
        show ((List.replicate n.toNat z.cps).foldl (· ++ ·) #[]).size ≤ sizeLine
        rw [rep_size]
        have h4 : z.cps.size = z.length := rfl
        have h5 := of_decide_eq_false h3
        rw [h4, Nat.mul_comm n.toNat, Array.size_empty, Nat.zero_add]
        exact Nat.le_of_not_gt h5
theorem or_mul : OpR X (binaryOp .Mult) rMul := OpR.or op_mul op_strRep
theorem okMul_c {i j : Int} (h : okMul i j = true) : CMul i j := by
  unfold okMul at h
  rw [Bool.or_eq_true, decide_eq_true_eq, decide_eq_true_eq] at h
  unfold CMul
  omega
theorem mul_m : OpM X rMul dMul := by
  intro Z H β S x y dx dy dz Q A rx ry e k
  unfold dMul at e
  split at e
  · split at e
    · rename_i hz
      cases rx; cases ry; cases e
      exact .inl ⟨_, _, rfl, rfl, okMul_c hz, k _ H (Same.refl _) (.int _)⟩
    · cases e
  · split at e
    · rename_i hz
      cases rx; cases ry; cases e
      exact .inr ⟨_, _, rfl, rfl, hz, k _ H (Same.refl _) (.str _)⟩
    · cases e
  · cases e
theorem fdiv_m : OpM X (rI CDivN fun i j => .int (i.fdiv j)) dFdiv := by
  intro Z H β S x y dx dy dz Q A rx ry e k
  unfold dFdiv at e
  split at e
  · split at e
    · rename_i hz
      cases rx; cases ry; cases e
      exact ⟨_, _, rfl, rfl, hz, k _ H (Same.refl _) (.int _)⟩
    · cases e
  · cases e
theorem mod_m : OpM X (rI (fun _ j => j ≠ 0) fun i j => .int (i.fmod j)) dMod := by
  intro Z H β S x y dx dy dz Q A rx ry e k
  unfold dMod at e
  split at e
  · split at e
    · rename_i hz
      cases rx; cases ry; cases e
      exact ⟨_, _, rfl, rfl, hz, k _ H (Same.refl _) (.int _)⟩
    · cases e
  · cases e
theorem pow_m : OpM X (rI CPow fun i j => .int (i ^ j.toNat)) dPow := by
  intro Z H β S x y dx dy dz Q A rx ry e k
  unfold dPow at e
  split at e
  · split at e
    · rename_i hz
      cases rx; cases ry; cases e
      exact ⟨_, _, rfl, rfl, hz, k _ H (Same.refl _) (.int _)⟩
    · cases e
  · cases e
theorem neg_m : UnM X (rU fun i => .int (-i)) dNeg := by
  intro Z H β S x dx dz Q A rx e k
  unfold dNeg at e
  split at e
  · cases rx; cases e
    exact ⟨_, rfl, k _ H (Same.refl _) (.int _)⟩
  · cases e
abbrev rIS (f : Int → Int → Bool) (g : Str → Str → Bool) : R2 := fun x y H Q => (∃ i j, x = .int i ∧ y = .int j ∧ Q (.bl (f i j)) H) ∨ ∃ i j, x = .str i ∧ y = .str j ∧ Q (.bl (g i j)) H
theorem or_lt : OpR X (compareOp .Lt) (rIS (fun i j => decide (i < j)) fun i j => decide (i.cps.toList < j.cps.toList)) := OpR.or op_lt op_lt_str
theorem or_le : OpR X (compareOp .LtE) (rIS (fun i j => decide (i ≤ j)) fun i j => !decide (j.cps.toList < i.cps.toList)) := OpR.or op_le op_le_str
theorem or_gt : OpR X (compareOp .Gt) (rIS (fun i j => decide (j < i)) fun i j => decide (j.cps.toList < i.cps.toList)) := OpR.or op_gt op_gt_str
theorem or_ge : OpR X (compareOp .GtE) (rIS (fun i j => decide (j ≤ i)) fun i j => !decide (i.cps.toList < j.cps.toList)) := OpR.or op_ge op_ge_str
theorem lt_m : OpM X (rIS (fun i j => decide (i < j)) fun i j => decide (i.cps.toList < j.cps.toList)) dLt := by
  intro Z H β S x y dx dy dz Q A rx ry e k
  unfold dLt at e
  split at e
  · cases rx; cases ry; cases e; exact .inl ⟨_, _, rfl, rfl, k _ H (Same.refl _) (.bl _)⟩
  · cases rx; cases ry; cases e; exact .inr ⟨_, _, rfl, rfl, k _ H (Same.refl _) (.bl _)⟩
  · cases e
theorem le_m : OpM X (rIS (fun i j => decide (i ≤ j)) fun i j => !decide (j.cps.toList < i.cps.toList)) dLe := by
  intro Z H β S x y dx dy dz Q A rx ry e k
  unfold dLe at e
  split at e
  · cases rx; cases ry; cases e; exact .inl ⟨_, _, rfl, rfl, k _ H (Same.refl _) (.bl _)⟩
  · cases rx; cases ry; cases e; exact .inr ⟨_, _, rfl, rfl, k _ H (Same.refl _) (.bl _)⟩
  · cases e
theorem gt_m : OpM X (rIS (fun i j => decide (j < i)) fun i j => decide (j.cps.toList < i.cps.toList)) dGt := by
  intro Z H β S x y dx dy dz Q A rx ry e k
  unfold dGt at e
  split at e
  · cases rx; cases ry; cases e; exact .inl ⟨_, _, rfl, rfl, k _ H (Same.refl _) (.bl _)⟩
  · cases rx; cases ry; cases e; exact .inr ⟨_, _, rfl, rfl, k _ H (Same.refl _) (.bl _)⟩
  · cases e
theorem ge_m : OpM X (rIS (fun i j => decide (j ≤ i)) fun i j => !decide (i.cps.toList < j.cps.toList)) dGe := by
  intro Z H β S x y dx dy dz Q A rx ry e k
  unfold dGe at e
  split at e
  · cases rx; cases ry; cases e; exact .inl ⟨_, _, rfl, rfl, k _ H (Same.refl _) (.bl _)⟩
  · cases rx; cases ry; cases e; exact .inr ⟨_, _, rfl, rfl, k _ H (Same.refl _) (.bl _)⟩
  · cases e
end
end Mi

/-! Mi9: equality, membership, types, built-ins. -/
namespace Mi
open PySem PySem.Spec PyProof.Rows L2

/-! ### as data -/
def kPy : Key → PyData
  | .inl i => .int i
  | .inr x => .str x
mutual
/-- k: dicts too -/
def toPy (k : Bool) : D → Option PyData
  | .non => some .none
  | .bl b => some (.bool b)
  | .int i => some (.int i)
  | .str x => some (.str x)
  | .tup xs => match toPys k xs with
    | some l => some (.tuple l)
    | none => none
  | .lst xs => match toPys k xs with
    | some l => some (.list l)
    | none => none
  | .dct xs => match k with
    | true => match toPyk k xs with
      | some l => some (.dict l)
      | none => none
    | false => none
  | .ref _ => none
  | .ty _ => none
  | .fn _ => none
def toPys (k : Bool) : List D → Option (List PyData)
  | [] => some []
  | d :: r => match toPy k d with
    | some x => match toPys k r with
      | some l => some (x :: l)
      | none => none
    | none => none
def toPyk (k : Bool) : List (Key × D) → Option (List (PyData × PyData))
  | [] => some []
  | p :: r => match toPyp k p with
    | some x => match toPyk k r with
      | some l => some (x :: l)
      | none => none
    | none => none
def toPyp (k : Bool) : Key × D → Option (PyData × PyData)
  | (a, d) => match toPy k d with
    | some x => some (kPy a, x)
    | none => none
end
/-- a thing of the store seen from outside -/
def top (S : Store) (d : D) : D := match d with
  | .ref n => match S[n]? with
    | some (.lst xs) => .lst xs
    | some (.dct xs) => .dct xs
    | _ => .ref n
  | d => d
def pyE (S : Store) (d : D) : Option PyData := match toPy false (top S d) with
  | some p => if SeqAt.shaped p = true then some p else none
  | none => none
def dEqB (S : Store) (x y : D) : Option Bool := match x, y with
  | .str a, .str b => some (a == b)
  | x, y => match pyE S x, pyE S y with
    | some p, some q => some (PyData.eqv p q)
    | _, _ => none
def dEq (S : Store) (x y : D) : Option D := match dEqB S x y with
  | some b => some (.bl b)
  | none => none
def dNe (S : Store) (x y : D) : Option D := match dEqB S x y with
  | some b => some (.bl (!b))
  | none => none
/-- .. is None -/
def dIs (_ : Store) (x y : D) : Option D := match y with
  | .non => match x with
    | .non => some (.bl true)
    | _ => some (.bl false)
  | _ => none
def dIsnt (_ : Store) (x y : D) : Option D := match y with
  | .non => match x with
    | .non => some (.bl false)
    | _ => some (.bl true)
  | _ => none
def inStr (x z : Str) : Bool := if h : x.cps.size = 1 then decide (x.cps[0] ∈ z.cps.toList) else !(Builtin.Str.occurrences z x 0 z.length 1).isEmpty
def dInB (S : Store) (x y : D) : Option Bool := match x, y with
  | .str a, .str z => some (inStr a z)
  | x, y => match pyE S x, pyE S y with
    | some p, some (.list qs) => some (qs.any fun z => PyData.eqv z p)
    | _, _ => none
def dIn (S : Store) (x y : D) : Option D := match dInB S x y with
  | some b => some (.bl b)
  | none => none
def dNotIn (S : Store) (x y : D) : Option D := match dInB S x y with
  | some b => some (.bl (!b))
  | none => none

section
variable {C : Ct} {H : Hp} {Z : Addr → Prop} {β : List Addr} {S : Store}
mutual
theorem dp_of : ∀ {v : V} {d : D} {p : PyData}, RV C H Z β v d → toPy false d = some p → Dp C.K H v p
  | _, .non, _, r, e => by cases r; simp only [toPy] at e; cases e; exact .non
  | _, .bl b, _, r, e => by cases r; simp only [toPy] at e; cases e; exact .bl b
  | _, .int i, _, r, e => by cases r; simp only [toPy] at e; cases e; exact .int i
  | _, .str x, _, r, e => by cases r; simp only [toPy] at e; cases e; exact .str x
  | _, .tup xs, _, r, e => by
    simp only [toPy] at e
    split at e
    · rename_i l el
      cases e
      cases r with
      | tup hr hs => exact .tup (.inl hr) (dps_of hs el)
      | ktup hk hs => exact .tup (.inr hk) (dps_of hs el)
    · cases e
  | _, .lst xs, _, r, e => by
    simp only [toPy] at e
    split at e
    · rename_i l el
      cases e
      cases r with
      | lst _ _ hr hs => exact .lst (.inl hr) (dps_of hs el)
      | klst hk hs => exact .lst (.inr hk) (dps_of hs el)
    · cases e
  | _, .dct xs, _, r, e => by simp only [toPy] at e; cases e
  | _, .ref n, _, r, e => by simp only [toPy] at e; cases e
  | _, .ty n, _, r, e => by simp only [toPy] at e; cases e
  | _, .fn n, _, r, e => by simp only [toPy] at e; cases e
theorem dps_of : ∀ {vs : List V} {ds : List D} {ps : List PyData}, RVs C H Z β vs ds → toPys false ds = some ps → DpAll C.K H vs ps
  | _, [], _, r, e => by cases r; simp only [toPys] at e; cases e; exact .nil
  | _, d :: ds, _, r, e => by
    simp only [toPys] at e
    split at e
    · rename_i x ex
      split at e
      · rename_i l el
        cases e
        cases r with
        | cons r1 r2 => exact .cons (dp_of r1 ex) (dps_of r2 el)
      · cases e
    · cases e
end
/-- a value, seen at the top -/
theorem rv_top {v : V} {d : D} {p : PyData} (r : RV C H Z β v d) (s : SRel C H Z β S) (h : toPy false (top S d) = some p) : Dp C.K H v p := by
  cases d with
  | ref n =>
    simp only [top] at h
    split at h
    · rename_i xs e
      simp only [toPy] at h
      split at h
      · rename_i l el
        cases h
        obtain ⟨a, us, rfl, q1, q2⟩ := r.viewL s (ds := xs) (by simp only [viewL, e])
        exact .lst q1 (dps_of q2 el)
      · cases h
    · simp only [toPy] at h; cases h
    · simp only [toPy] at h; cases h
  | _ => exact dp_of r h
theorem pyE_of {v : V} {d : D} {p : PyData} (r : RV C H Z β v d) (s : SRel C H Z β S) (h : pyE S d = some p) : Dp C.K H v p ∧ SeqAt.shaped p = true := by
  unfold pyE at h
  split at h
  · rename_i q e
    split at h
    · cases h; exact ⟨rv_top r s e, by assumption⟩
    · cases h
  · cases h
end
section
variable {X : Cx}
def rEqX (K : PySem.W.Frag) : R2 := fun x y H Q => rEq x y H Q ∨ rEqD K x y H Q
def rNeX (K : PySem.W.Frag) : R2 := fun x y H Q => rNe x y H Q ∨ rNeD K x y H Q
theorem or_eq (hu : X.A.units + 64 < cLine) : OpR X (compareOp .Eq) (rEqX X.K) := OpR.or op_eq (op_eqD hu)
theorem or_ne (hu : X.A.units + 64 < cLine) : OpR X (compareOp .NotEq) (rNeX X.K) := OpR.or op_ne (op_neD hu)
theorem eq_m : OpM X (rEqX X.K) dEq := by
  intro Z H β S x y dx dy dz Q A rx ry e k
  unfold dEq at e
  split at e
  · rename_i b eb
    cases e
    unfold dEqB at eb
    split at eb
    · cases rx; cases ry; cases eb
      refine .inl ⟨rfl, ?_⟩
      rw [dec_str]
      exact k _ H (Same.refl _) (.bl _)
    · split at eb
      · rename_i p q e1 e2
        cases eb
        obtain ⟨a1, a2⟩ := pyE_of rx A.st e1
        obtain ⟨b1, b2⟩ := pyE_of ry A.st e2
        exact .inr ⟨p, q, a1, b1, a2, b2, k _ H (Same.refl _) (.bl _)⟩
      · cases eb
  · cases e
theorem ne_m : OpM X (rNeX X.K) dNe := by
  intro Z H β S x y dx dy dz Q A rx ry e k
  unfold dNe at e
  split at e
  · rename_i b eb
    cases e
    unfold dEqB at eb
    split at eb
    · cases rx; cases ry; cases eb
      refine .inl ⟨rfl, ?_⟩
      rw [dec_str]
      exact k _ H (Same.refl _) (.bl _)
    · split at eb
      · rename_i p q e1 e2
        cases eb
        obtain ⟨a1, a2⟩ := pyE_of rx A.st e1
        obtain ⟨b1, b2⟩ := pyE_of ry A.st e2
        exact .inr ⟨p, q, a1, b1, a2, b2, k _ H (Same.refl _) (.bl _)⟩
      · cases eb
  · cases e
theorem rv_non {C : Ct} {H : Hp} {Z : Addr → Prop} {β : List Addr} {v : V} {d : D} (r : RV C H Z β v d) : decide (v = .non) = (match d with | .non => true | _ => false) := by
  cases r <;> first | rfl | (exact decide_eq_false fun z => nomatch z)
theorem is_m : OpM X (fun x y H Q => y = .non ∧ Q (.bl (decide (x = .non))) H) dIs := by
  intro Z H β S x y dx dy dz Q A rx ry e k
  unfold dIs at e
  split at e
  · cases ry
    refine ⟨rfl, ?_⟩
    rw [rv_non rx]
    split at e
    · cases e; exact k _ H (Same.refl _) (.bl _)
    · rename_i n
      cases e
      cases dx with
      | non => exact absurd rfl n
      | _ => exact k _ H (Same.refl _) (.bl _)
  · cases e
theorem isnt_m : OpM X (fun x y H Q => y = .non ∧ Q (.bl (!decide (x = .non))) H) dIsnt := by
  intro Z H β S x y dx dy dz Q A rx ry e k
  unfold dIsnt at e
  split at e
  · cases ry
    refine ⟨rfl, ?_⟩
    rw [rv_non rx]
    split at e
    · cases e; exact k _ H (Same.refl _) (.bl _)
    · rename_i n
      cases e
      cases dx with
      | non => exact absurd rfl n
      | _ => exact k _ H (Same.refl _) (.bl _)
  · cases e
def rInX (K : PySem.W.Frag) (f : Bool → Bool) : R2 := fun x y H Q => (∃ (c : Nat) (z : Str), x = .str ⟨#[c]⟩ ∧ y = .str z ∧ Q (.bl (f (decide (c ∈ z.cps.toList)))) H) ∨
  (∃ i j, x = .str i ∧ y = .str j ∧ Q (.bl (f (!(Builtin.Str.occurrences j i 0 j.length 1).isEmpty))) H) ∨
  ∃ d ds, Dp K H x d ∧ Dp K H y (.list ds) ∧ SeqAt.shaped d = true ∧ SeqAt.shaped (.list ds) = true ∧ Q (.bl (f (ds.any fun z => PyData.eqv z d))) H
theorem or_in (hu : X.A.units + 65 < cLine) : OpR X (compareOp .In) (rInX X.K id) := OpR.or op_in_sign (OpR.or op_in_str (op_inD hu))
theorem or_notIn (hu : X.A.units + 65 < cLine) : OpR X (compareOp .NotIn) (rInX X.K not) := OpR.or op_notIn_sign (OpR.or op_notin_str (op_notInD hu))
theorem inX {f : Bool → Bool} {Z : Addr → Prop} {H : Hp} {β : List Addr} {S : Store} {x y : V} {dx dy : D} {c : Bool} {Q : VK} (A : At (ctOf X) H Z β S) (rx : RV (ctOf X) H Z β x dx) (ry : RV (ctOf X) H Z β y dy) (e : dInB S dx dy = some c) (k : Q (.bl (f c)) H) : rInX X.K f x y H Q := by
  unfold dInB at e
  split at e
  · rename_i a z
    cases rx; cases ry; cases e
    unfold inStr at k
    split at k
    · rename_i h
      refine .inl ⟨a.cps[0], z, ?_, rfl, k⟩
      obtain ⟨⟨l⟩⟩ := a
      match l, h with
      | [c], _ => rfl
    · exact .inr (.inl ⟨_, _, rfl, rfl, k⟩)
  · split at e
    · rename_i p qs e1 e2
      cases e
      obtain ⟨a1, a2⟩ := pyE_of rx A.st e1
      obtain ⟨b1, b2⟩ := pyE_of ry A.st e2
      exact .inr (.inr ⟨p, qs, a1, b1, a2, b2, k⟩)
    · cases e
theorem in_m : OpM X (rInX X.K id) dIn := by
  intro Z H β S x y dx dy dz Q A rx ry e k
  unfold dIn at e
  split at e
  · rename_i c ec
    cases e
    exact inX A rx ry ec (k _ H (Same.refl _) (.bl _))
  · cases e
theorem notIn_m : OpM X (rInX X.K not) dNotIn := by
  intro Z H β S x y dx dy dz Q A rx ry e k
  unfold dNotIn at e
  split at e
  · rename_i c ec
    cases e
    exact inX A rx ry ec (k _ H (Same.refl _) (.bl _))
  · cases e
end

/-! ### types -/
def tyOf (S : Store) (d : D) : Option String := match top S d with
  | .non => some "NoneType"
  | .bl _ => some "bool"
  | .int _ => some "int"
  | .str _ => some "str"
  | .tup _ => some "tuple"
  | .lst _ => some "list"
  | .dct _ => some "dict"
  | _ => none
def subTy (t c : String) : Bool := t == c || (t == "bool" && c == "int")
def tyKnown (c : String) : Bool := c == "bool" || c == "int" || c == "str" || c == "tuple" || c == "list" || c == "dict"
def fIsi (S : Store) (ds : List D) : Option D := match ds with
  | [d, .ty c] => match tyOf S d with
    | some t => if tyKnown c = true then some (.bl (subTy t c)) else none
    | none => none
  | _ => none
theorem kit_ty (K : PySem.W.Frag) {t c : String} (ht : t = "NoneType" ∨ tyKnown t = true) (hc : tyKnown c = true) : PySem.W.kitOne K (.type t) (.type c) = some (subTy t c) := by
  simp only [tyKnown, Bool.or_eq_true, beq_iff_eq] at ht hc
  rcases ht with rfl | ((((rfl | rfl) | rfl) | rfl) | rfl) | rfl <;> rcases hc with ((((rfl | rfl) | rfl) | rfl) | rfl) | rfl <;> rfl
section
variable {X : Cx} {Z : Addr → Prop} {H : Hp} {β : List Addr} {S : Store}
theorem tyX_of {v : V} {d : D} {t : String} (A : At (ctOf X) H Z β S) (r : RV (ctOf X) H Z β v d) (h : tyOf S d = some t) : TyX X.K H v (.type t) ∧ (t = "NoneType" ∨ tyKnown t = true) := by
  have rdL : ∀ {a : Addr} {xs : List V}, Rd H a (.lst xs) → TyX X.K H (.ref a) (.type "list") := fun hr => hr.elim (fun q => .base (.lst q)) fun ⟨o, q⟩ => .base (.frz q)
  have rdD : ∀ {a : Addr} {xs : List (Key × V)}, Rd H a (.dK xs) → TyX X.K H (.ref a) (.type "dict") := fun hr => hr.elim (fun q => .base (.dK q)) fun ⟨o, q⟩ => .fDict q
  unfold tyOf at h
  cases d with
  | ref n =>
    simp only [top] at h
    split at h
    · rename_i w e
      split at e
      · cases e
      · cases e
      · cases e
    · rename_i e; split at e <;> cases e
    · rename_i e; split at e <;> cases e
    · rename_i e; split at e <;> cases e
    · rename_i e; split at e <;> cases e
    · rename_i e
      cases h
      split at e
      · rename_i xs e2
        obtain ⟨a, us, rfl, q1, _⟩ := r.viewL A.st (ds := xs) (by simp only [viewL, e2])
        refine ⟨?_, .inr rfl⟩
        rcases q1 with q1 | ⟨o, its, n, q1, q2, _⟩
        · exact rdL q1
        · exact .kList q1 q2
      · cases e
      · cases e
    · rename_i e
      cases h
      split at e
      · cases e
      · rename_i xs e2
        obtain ⟨a, us, rfl, q1, _⟩ := r.viewK A.st (ds := xs) (by simp only [viewK, e2])
        exact ⟨rdD q1, .inr rfl⟩
      · cases e
    · cases h
  | non => cases r; cases h; exact ⟨.base .non, .inl rfl⟩
  | bl b => cases r; cases h; exact ⟨.base (.bl b), .inr rfl⟩
  | int i => cases r; cases h; exact ⟨.base (.int i), .inr rfl⟩
  | str x => cases r; cases h; exact ⟨.base (.str x), .inr rfl⟩
  | ty n => cases h
  | fn n => cases h
  | tup xs =>
    cases h
    cases r with
    | tup hr _ => exact ⟨hr.elim (fun q => .base (.tup q)) fun ⟨o, q⟩ => .fTuple q, .inr rfl⟩
    | ktup k _ => obtain ⟨o, its, n, q1, q2, _⟩ := k; exact ⟨.kTuple q1 q2, .inr rfl⟩
  | lst xs =>
    cases h
    cases r with
    | lst _ _ hr _ => exact ⟨rdL hr, .inr rfl⟩
    | klst k _ => obtain ⟨o, its, n, q1, q2, _⟩ := k; exact ⟨.kList q1 q2, .inr rfl⟩
  | dct xs =>
    cases h
    cases r with
    | dct _ _ hr _ => exact ⟨rdD hr, .inr rfl⟩
theorem rvs2 {C : Ct} {xs : List V} {a b : D} (r : RVs C H Z β xs [a, b]) : ∃ x y, xs = [x, y] ∧ RV C H Z β x a ∧ RV C H Z β y b := by
  cases r with
  | cons r1 r2 => cases r2 with
    | cons r2 r3 => cases r3; exact ⟨_, _, rfl, r1, r2⟩
theorem rvs1 {C : Ct} {xs : List V} {a : D} (r : RVs C H Z β xs [a]) : ∃ x, xs = [x] ∧ RV C H Z β x a := by
  cases r with
  | cons r1 r2 => cases r2; exact ⟨_, rfl, r1⟩
theorem isi_m : FnM X (rIsi X.K) fIsi := by
  intro Z H β S xs ds dz Q A r e k
  unfold fIsi at e
  split at e
  · rename_i d c
    split at e
    · rename_i t et
      split at e
      · rename_i hc
        cases e
        obtain ⟨x, y, rfl, r1, r2⟩ := rvs2 r
        cases r2
        obtain ⟨q1, q2⟩ := tyX_of A r1 et
        exact ⟨x, .ty c, .type t, .type c, subTy t c, rfl, .ty c, q1, kit_ty _ q2 hc, k _ H (Same.refl _) (.bl _)⟩
      · cases e
    · cases e
  · cases e
/-! ### len, abs, max, min, divmod, all, any -/
def fLen (S : Store) (ds : List D) : Option D := match ds with
  | [.str x] => if x.length ≤ sizeLine then some (.int x.length) else none
  | [.tup xs] => some (.int xs.length)
  | [d] => match viewL S d with
    | some xs => some (.int xs.length)
    | none => match viewK S d with
      | some xs => some (.int xs.length)
      | none => none
  | _ => none
def rLen (K : PySem.W.Frag) : List V → Hp → VK → Prop := fun xs H Q => (∃ x n, xs = [x] ∧ LenV K x H n ∧ Q (.int n) H) ∨ ∃ a kvs, xs = [V.ref a] ∧ Rd H a (.dK kvs) ∧ Q (.int kvs.length) H
theorem call_lenRd : CallR X (.builtin "len") (fun xs H Q => ∃ a kvs, xs = [V.ref a] ∧ Rd H a (.dK kvs) ∧ Q (.int kvs.length) H) := by
  intro pins s σ H xs us Q I r h
  obtain ⟨a, kvs, rfl, ha, q⟩ := h
  obtain ⟨u, rfl, ru⟩ := vals1 r
  cases (show u = Value.ref a from ru)
  obtain ⟨hlen, hns, vs, rk, hd⟩ := dk_rd I.hok ha
  have hl := line63
  have hs : sizeLine = 16777216 := sizeLine_eq
  have hn := rk.length
  exact call_len_dict hns hd (by omega) ⟨.int kvs.length, H, I.tok _, ⟨_, by rw [hn]⟩, q⟩
theorem or_len : CallR X (.builtin "len") (rLen X.K) := CallR.or call_len call_lenRd
theorem len_m : FnM X (rLen X.K) fLen := by
  intro Z H β S xs ds dz Q A r e k
  have tail : ∀ {d : D}, RVs (ctOf X) H Z β xs [d] → (match viewL S d with
      | some xs => some (D.int xs.length)
      | none => match viewK S d with
        | some xs => some (.int xs.length)
        | none => none) = some dz → rLen X.K xs H Q := fun {d} r e => by
    obtain ⟨x, rfl, r1⟩ := rvs1 r
    split at e
    · rename_i ys e1
      cases e
      obtain ⟨a, us, rfl, q1, r2⟩ := r1.viewL A.st e1
      exact .inl ⟨_, us.length, rfl, .inl ⟨us, q1, rfl⟩, by rw [r2.length]; exact k _ H (Same.refl _) (.int _)⟩
    · split at e
      · rename_i ys e1
        cases e
        obtain ⟨a, us, rfl, q1, r2⟩ := r1.viewK A.st e1
        exact .inr ⟨_, us, rfl, q1, by rw [r2.length]; exact k _ H (Same.refl _) (.int _)⟩
      · cases e
  unfold fLen at e
  split at e
  · split at e
    · rename_i hz
      cases e
      obtain ⟨x, rfl, r1⟩ := rvs1 r
      cases r1
      exact .inl ⟨_, _, rfl, ⟨hz, rfl⟩, k _ H (Same.refl _) (.int _)⟩
    · cases e
  · cases e
    obtain ⟨x, rfl, r1⟩ := rvs1 r
    obtain ⟨a, us, rfl, q1, r2⟩ := r1.viewT rfl
    exact .inl ⟨_, us.length, rfl, .inr ⟨us, q1, rfl⟩, by rw [r2.length]; exact k _ H (Same.refl _) (.int _)⟩
  · exact tail r e
  · cases e
def fAbs (_ : Store) (ds : List D) : Option D := match ds with
  | [.int i] => some (.int (if i < 0 then -i else i))
  | _ => none
theorem abs_m : FnM X (fun xs H Q => ∃ i, xs = [.int i] ∧ Q (.int (if i < 0 then -i else i)) H) fAbs := by
  intro Z H β S xs ds dz Q A r e k
  unfold fAbs at e
  split at e
  · cases e
    obtain ⟨x, rfl, r1⟩ := rvs1 r
    cases r1
    exact ⟨_, rfl, k _ H (Same.refl _) (.int _)⟩
  · cases e
def fMax (_ : Store) (ds : List D) : Option D := match ds with
  | [.int i, .int j] => some (.int (if j > i then j else i))
  | _ => none
def fMin (_ : Store) (ds : List D) : Option D := match ds with
  | [.int i, .int j] => some (.int (if j < i then j else i))
  | _ => none
theorem max_m : FnM X (fun xs H Q => ∃ i j, xs = [.int i, .int j] ∧ Q (.int (if j > i then j else i)) H) fMax := by
  intro Z H β S xs ds dz Q A r e k
  unfold fMax at e
  split at e
  · cases e
    obtain ⟨x, y, rfl, r1, r2⟩ := rvs2 r
    cases r1; cases r2
    exact ⟨_, _, rfl, k _ H (Same.refl _) (.int _)⟩
  · cases e
theorem min_m : FnM X (fun xs H Q => ∃ i j, xs = [.int i, .int j] ∧ Q (.int (if j < i then j else i)) H) fMin := by
  intro Z H β S xs ds dz Q A r e k
  unfold fMin at e
  split at e
  · cases e
    obtain ⟨x, y, rfl, r1, r2⟩ := rvs2 r
    cases r1; cases r2
    exact ⟨_, _, rfl, k _ H (Same.refl _) (.int _)⟩
  · cases e
def fDivmod (_ : Store) (ds : List D) : Option D := match ds with
  | [.int i, .int j] => if 0 < j ∧ j < 1073741824 then some (.tup [.int (i / j), .int (i % j)]) else none
  | _ => none
theorem divmod_m : FnM X (fun xs H Q => ∃ i j, xs = [.int i, .int j] ∧ CDiv i j ∧ ∀ p, H p = none → Q (.ref p) (upd H p (.tup [.int (i / j), .int (i % j)]))) fDivmod := by
  intro Z H β S xs ds dz Q A r e k
  unfold fDivmod at e
  split at e
  · split at e
    · rename_i hz
      cases e
      obtain ⟨x, y, rfl, r1, r2⟩ := rvs2 r
      cases r1; cases r2
      exact ⟨_, _, rfl, hz, fun p hp => k _ _ (same_laid hp) (.tup (.inl upd_same) (.cons (.int _) (.cons (.int _) .nil)))⟩
    · cases e
  · cases e
def allB : List D → Option (List Bool)
  | [] => some []
  | .bl b :: r => match allB r with
    | some l => some (b :: l)
    | none => none
  | _ :: _ => none
theorem allB_rvs {C : Ct} : ∀ {xs : List V} {ds : List D} {bs : List Bool}, RVs C H Z β xs ds → allB ds = some bs → xs = bs.map V.bl
  | _, [], _, r, e => by cases r; cases e; rfl
  | _, .bl b :: ds, _, r, e => by
    simp only [allB] at e
    split at e
    · rename_i l el
      cases e
      cases r with
      | cons r1 r2 => cases r1; rw [allB_rvs r2 el]; rfl
    · cases e
  | _, .non :: _, _, _, e | _, .int _ :: _, _, _, e | _, .str _ :: _, _, _, e | _, .tup _ :: _, _, _, e | _, .lst _ :: _, _, _, e | _, .dct _ :: _, _, _, e | _, .ref _ :: _, _, _, e | _, .ty _ :: _, _, _, e | _, .fn _ :: _, _, _, e => by cases e
def boolsL (S : Store) (ds : List D) : Option (List Bool) := match ds with
  | [d] => match viewL S d with
    | some xs => allB xs
    | none => none
  | _ => none
def fAll (S : Store) (ds : List D) : Option D := match boolsL S ds with
  | some bs => some (.bl (bs.all id))
  | none => none
def fAny (S : Store) (ds : List D) : Option D := match boolsL S ds with
  | some bs => some (.bl (bs.any id))
  | none => none
theorem bools_of {xs : List V} {ds : List D} {bs : List Bool} (A : At (ctOf X) H Z β S) (r : RVs (ctOf X) H Z β xs ds) (e : boolsL S ds = some bs) : ∃ a, xs = [V.ref a] ∧ SqL X.K H a (bs.map V.bl) := by
  unfold boolsL at e
  split at e
  · split at e
    · rename_i ys e1
      obtain ⟨x, rfl, r1⟩ := rvs1 r
      obtain ⟨a, us, rfl, q1, r2⟩ := r1.viewL A.st e1
      exact ⟨a, rfl, by rw [← allB_rvs r2 e]; exact q1⟩
    · cases e
  · cases e
theorem all_m : FnM X (rAll X.K) fAll := by
  intro Z H β S xs ds dz Q A r e k
  unfold fAll at e
  split at e
  · rename_i bs e1
    cases e
    obtain ⟨a, q1, q2⟩ := bools_of A r e1
    exact ⟨a, bs, q1, q2, k _ H (Same.refl _) (.bl _)⟩
  · cases e
theorem any_m : FnM X (rAny X.K) fAny := by
  intro Z H β S xs ds dz Q A r e k
  unfold fAny at e
  split at e
  · rename_i bs e1
    cases e
    obtain ⟨a, q1, q2⟩ := bools_of A r e1
    exact ⟨a, bs, q1, q2, k _ H (Same.refl _) (.bl _)⟩
  · cases e
end
end Mi

/-! Mi10: repr. -/
namespace Mi
open PySem PySem.Spec PyProof.Rows L2

mutual
/-- v reads as d, no dict of it is the table of modules -/
inductive RD (h : Heap) : Value → PyData → Prop
  | non : RD h .none .none
  | bl (b : Bool) : RD h (.bool b) (.bool b)
  | int (i : Int) (t : Tok) : RD h (.int i t) (.int i)
  | str (x : Str) (t : Tok) : RD h (.str x t) (.str x)
  | lst {a : Addr} {o : Obj} {l : List Value} {n : Nat} {xs : List PyData} : h.get? a = some o → o.cls = .type "list" → o.data = .seq l.toArray n → RDs h l xs → RD h (.ref a) (.list xs)
  | tup {a : Addr} {o : Obj} {l : List Value} {n : Nat} {xs : List PyData} : h.get? a = some o → o.cls = .type "tuple" → o.data = .seq l.toArray n → RDs h l xs → RD h (.ref a) (.tuple xs)
  | dct {a : Addr} {o : Obj} {es : Array DictEntry} {n : Nat} {kvs : List (PyData × PyData)} : h.get? a = some o → o.cls = .type "dict" → o.data = .dict es n → (a == sysModules) = false →
      RDs h (es.toList.map (·.key)) (kvs.map (·.1)) → RDs h (es.toList.map (·.val)) (kvs.map (·.2)) → RD h (.ref a) (.dict kvs)
inductive RDs (h : Heap) : List Value → List PyData → Prop
  | nil : RDs h [] []
  | cons {v : Value} {vs : List Value} {d : PyData} {ds : List PyData} : RD h v d → RDs h vs ds → RDs h (v :: vs) (d :: ds)
end
section
variable {h : Heap} {pr : Program} {w : World}
mutual
theorem RD.reads : ∀ {v : Value} {d : PyData}, RD h v d → ∃ as, Reads h v d as
  | _, _, .non => ⟨_, .none⟩
  | _, _, .bl b => ⟨_, .bool b⟩
  | _, _, .int i t => ⟨_, .int i t⟩
  | _, _, .str x t => ⟨_, .str x t⟩
  | _, _, .lst g c e r => let ⟨_, q⟩ := RDs.reads r; ⟨_, .list g c e q⟩
  | _, _, .tup g c e r => let ⟨_, q⟩ := RDs.reads r; ⟨_, .tuple g c e q⟩
  | _, _, .dct g c e _ r1 r2 => let ⟨_, q1⟩ := RDs.reads r1; let ⟨_, q2⟩ := RDs.reads r2; ⟨_, .dict g c e q1 q2⟩
theorem RDs.reads : ∀ {vs : List Value} {ds : List PyData}, RDs h vs ds → ∃ as, ReadsAll h vs ds as
  | _, _, .nil => ⟨_, .nil⟩
  | _, _, .cons r rs => let ⟨_, q⟩ := RD.reads r; let ⟨_, qs⟩ := RDs.reads rs; ⟨_, .cons q qs⟩
end
/-- what stands below: addresses and a level -/
abbrev Lo (pr : Program) (w : World) (h : Heap) (v : Value) (d : PyData) : Prop := ∃ bs, ReadAtMost h d.depth bs ∧ ReprK pr w bs h d.depth v d.shown
abbrev LoAll (pr : Program) (w : World) (h : Heap) (vs : List Value) (ds : List PyData) : Prop := ∃ bs, ReadAtMost h (PyData.depthAll ds) bs ∧ ReprAllK pr w bs h (PyData.depthAll ds) vs (PyData.shownAll ds)
theorem lo_list {a : Addr} {o : Obj} {l : List Value} {n : Nat} {xs : List PyData} (r : RD h (.ref a) (.list xs)) (g : h.get? a = some o) (c : o.cls = .type "list") (e : o.data = .seq l.toArray n) (q : LoAll pr w h l xs) (hl : l.length = (PyData.shownAll xs).length) : Lo pr w h (.ref a) (.list xs) := by
  obtain ⟨bs, hb, k⟩ := q
  obtain ⟨as, rr⟩ := r.reads
  have up : PyData.depthAll xs < (PyData.list xs).depth := by simp only [PyData.depth]; omega
  refine ⟨a :: bs, ReadAtMost.cons rr (Nat.le_of_lt up) hb, ?_⟩
  simp only [PyData.depth, PyData.shown]
  have out := not_mem_of_deeper rr up hb
  match l, e, k, hl with
  | [], e, k, hl =>
    cases hx : PyData.shownAll xs with
    | nil => rw [listText_nil]; exact ReprK.listEmpty g c e
    | cons t ts => rw [hx] at hl; cases hl
  | x :: l, e, k, hl => exact ReprK.list g c e out (by simpa using hl.symm) fun i y z => k.item i y (by simpa using z)
theorem all_length {bs : List Addr} {n : Nat} : ∀ {vs : List Value} {ts : List Str}, ReprAllK pr w bs h n vs ts → vs.length = ts.length
  | _, _, .nil => rfl
  | _, _, .cons _ r => congrArg Nat.succ (all_length r)
mutual
theorem lo_of : ∀ {v : Value} {d : PyData}, RD h v d → d.showable = true → d.shown.length ≤ sizeLine → Lo pr w h v d
  | _, _, .non, _, _ => ⟨[], nofun, by simp only [PyData.shown]; exact .of_is ReprIs.none _ _ _⟩
  | _, _, .bl b, _, _ => ⟨[], nofun, by simp only [PyData.shown]; exact .of_is (ReprIs.bool b) _ _ _⟩
  | _, _, .int i t, sh, _ => ⟨[], nofun, by simp only [PyData.shown]; exact .of_is (ReprIs.int t (by simpa [PyData.showable] using sh)) _ _ _⟩
  | _, _, .str x t, _, sz => ⟨[], nofun, by simp only [PyData.shown] at sz ⊢; exact .of_is (ReprIs.str x t sz) _ _ _⟩
  | _, _, .lst (xs := xs) g c e r, sh, sz => by
    simp only [PyData.shown] at sz
    have q := lo_all r (by simpa [PyData.showable] using sh) fun t m => Nat.le_trans (listText_mem_le m) sz
    exact lo_list (.lst g c e r) g c e q (let ⟨_, _, k⟩ := q; all_length k)
  | _, _, .tup (a := a) (xs := xs) g c e r, sh, sz => by
    simp only [PyData.shown] at sz
    obtain ⟨bs, hb, k⟩ := lo_all r (by simpa [PyData.showable] using sh) fun t m => Nat.le_trans (tupleText_mem_le m) sz
    obtain ⟨as, rr⟩ := (RD.tup g c e r).reads
    have up : PyData.depthAll xs < (PyData.tuple xs).depth := by simp only [PyData.depth]; omega
    refine ⟨a :: bs, ReadAtMost.cons rr (Nat.le_of_lt up) hb, ?_⟩
    have out := not_mem_of_deeper rr up hb
    simp only [PyData.depth, PyData.shown]
    exact ReprK.tuple g c e out (by simpa using k)
  | _, _, .dct (a := a) (es := es) (kvs := kvs) g c e sy r1 r2, sh, sz => by
    simp only [PyData.shown] at sz
    obtain ⟨sh1, sh2⟩ := PyData.showableKv_split kvs (by simpa [PyData.showable] using sh)
    have low : ∀ t : Str, (∃ p ∈ PyData.shownKv kvs, t.length ≤ p.length) → t.length ≤ sizeLine := fun t ⟨p, m, q⟩ => Nat.le_trans q (Nat.le_trans (dictText_mem_le m) sz)
    obtain ⟨b1, hb1, k1⟩ := lo_all r1 sh1 fun t m => low t (PyData.shownKv_key_le kvs t m)
    obtain ⟨b2, hb2, k2⟩ := lo_all r2 sh2 fun t m => low t (PyData.shownKv_val_le kvs t m)
    obtain ⟨as, rr⟩ := (RD.dct g c e sy r1 r2).reads
    have l1 := PyData.depthAll_keys_le kvs
    have l2 := PyData.depthAll_vals_le kvs
    have hb : ReadAtMost h (PyData.depthKv kvs) (b1 ++ b2) := (hb1.mono l1).append (hb2.mono l2)
    have up : PyData.depthKv kvs < (PyData.dict kvs).depth := by simp only [PyData.depth]; omega
    have out := not_mem_of_deeper rr up hb
    refine ⟨a :: (b1 ++ b2), ReadAtMost.cons rr (Nat.le_of_lt up) hb, ?_⟩
    simp only [PyData.depth, PyData.shown]
    rw [PyData.shownKv_eq]
    refine ReprK.dict g c e sy out (ReprEntriesK.of_two _ _ _ (k1.more_le (fun b m => ?_) l1) (k2.more_le (fun b m => ?_) l2))
    · exact List.mem_append.mpr (.inl m)
    · exact List.mem_append.mpr (.inr m)
theorem lo_all : ∀ {vs : List Value} {ds : List PyData}, RDs h vs ds → PyData.showableAll ds = true → (∀ t ∈ PyData.shownAll ds, t.length ≤ sizeLine) → LoAll pr w h vs ds
  | _, _, .nil, _, _ => ⟨[], nofun, by simp only [PyData.shownAll]; exact .nil⟩
  | _, _, .cons (d := d) (ds := ds) r rs, sh, sz => by
    simp only [PyData.showableAll, Bool.and_eq_true] at sh
    simp only [PyData.shownAll, List.mem_cons] at sz
    obtain ⟨b1, hb1, k1⟩ := lo_of r sh.1 (sz _ (.inl rfl))
    obtain ⟨b2, hb2, k2⟩ := lo_all rs sh.2 fun t m => sz t (.inr m)
    refine ⟨b1 ++ b2, ?_, ?_⟩
    · simp only [PyData.depthAll]
      exact (hb1.mono (Nat.le_max_left _ _)).append (hb2.mono (Nat.le_max_right _ _))
    · simp only [PyData.depthAll, PyData.shownAll]
      refine .cons ((k1.more fun b m => ?_).level_le (Nat.le_max_left _ _)) (k2.more_le (fun b m => ?_) (Nat.le_max_right _ _))
      · exact List.mem_append.mpr (.inl m)
      · exact List.mem_append.mpr (.inr m)
end
/-- repr(v) -/
theorem repr_of_rd {A : Around} {E Q : Value → Shared → Prop} {s : Shared} {v : Value} {d : PyData} (r : RD s.heap v d) (sh : d.showable = true) (sz : d.shown.length ≤ sizeLine) (hg : A.guards = some []) (hu : A.units + (d.depth + 1) < cLine)
    (hQ : ∀ h' u tk, (∀ b o, s.heap.get? b = some o → h'.get? b = some o) → Q (.str d.shown u) { s with heap := h', toks := tk }) : wpAny (model pr w) A (call (.builtin "repr") [v]) Q E s := by
  cases r with
  | non => simp only [PyData.shown] at hQ; exact P.repr_of_none (hQ s.heap _ _ fun _ _ e => e)
  | bl b => simp only [PyData.shown] at hQ; exact P.repr_of_bool (hQ s.heap _ _ fun _ _ e => e)
  | int i t => simp only [PyData.shown] at hQ; exact P.repr_of_int (by simpa [PyData.showable] using sh) (hQ s.heap _ _ fun _ _ e => e)
  | str x t => simp only [PyData.shown] at hQ sz; exact P.repr_of_str (hQ s.heap _ _ fun _ _ e => e) sz
  | @lst a o l n xs g c e r =>
    simp only [PyData.shown] at sz hQ
    simp only [PyData.depth] at hu
    obtain ⟨bs, hb, k⟩ := lo_all (pr := pr) (w := w) r (by simpa [PyData.showable] using sh) fun t m => Nat.le_trans (listText_mem_le m) sz
    obtain ⟨as, rr⟩ := (RD.lst g c e r).reads
    have out := not_mem_of_deeper rr (by simp only [PyData.depth]; omega : PyData.depthAll xs < _) hb
    refine call_repr_slot (by omega) ⟨o, g, c⟩ F.slot_list_repr.toG ?_
    match l, e, k with
    | [], e, k =>
      cases hx : PyData.shownAll xs with
      | cons t ts => rw [hx] at k; cases k
      | nil => rw [hx, listText_nil] at hQ; exact call_list_repr_empty ⟨o, g, c⟩ g e ⟨_, _, rfl, hQ s.heap _ _ fun _ _ e => e⟩
    | x :: l, e, k => exact call_list_reprK g c e out (by simpa using (all_length k).symm) (fun i y z => k.item i y (by simpa using z)) hg (fun b _ => Clear.nil b) (by show A.units + 1 + _ < _; omega) (fun _ _ e => e) (fun h' u tk q => ⟨_, _, rfl, hQ h' u tk q⟩) sz
  | @tup a o l n xs g c e r =>
    simp only [PyData.shown] at sz hQ
    simp only [PyData.depth] at hu
    obtain ⟨bs, hb, k⟩ := lo_all (pr := pr) (w := w) r (by simpa [PyData.showable] using sh) fun t m => Nat.le_trans (tupleText_mem_le m) sz
    obtain ⟨as, rr⟩ := (RD.tup g c e r).reads
    have out := not_mem_of_deeper rr (by simp only [PyData.depth]; omega : PyData.depthAll xs < _) hb
    refine call_repr_slot (by omega) ⟨o, g, c⟩ F.slot_tuple_repr ?_
    exact call_tuple_reprK g c e out (by simpa using k) hg (fun b _ => Clear.nil b) (by show A.units + 1 + _ < _; omega) (fun _ _ e => e) (fun h' u tk q => ⟨_, _, rfl, hQ h' u tk q⟩) sz
  | @dct a o es n kvs g c e sy r1 r2 =>
    simp only [PyData.shown] at sz hQ
    simp only [PyData.depth] at hu
    obtain ⟨sh1, sh2⟩ := PyData.showableKv_split kvs (by simpa [PyData.showable] using sh)
    have low : ∀ t : Str, (∃ p ∈ PyData.shownKv kvs, t.length ≤ p.length) → t.length ≤ sizeLine := fun t ⟨p, m, q⟩ => Nat.le_trans q (Nat.le_trans (dictText_mem_le m) sz)
    obtain ⟨b1, hb1, k1⟩ := lo_all (pr := pr) (w := w) r1 sh1 fun t m => low t (PyData.shownKv_key_le kvs t m)
    obtain ⟨b2, hb2, k2⟩ := lo_all (pr := pr) (w := w) r2 sh2 fun t m => low t (PyData.shownKv_val_le kvs t m)
    obtain ⟨as, rr⟩ := (RD.dct g c e sy r1 r2).reads
    have l1 := PyData.depthAll_keys_le kvs
    have l2 := PyData.depthAll_vals_le kvs
    have out := not_mem_of_deeper rr (by simp only [PyData.depth]; omega : PyData.depthKv kvs < _) ((hb1.mono l1).append (hb2.mono l2))
    refine call_repr_slot (by omega) ⟨o, g, c⟩ F.slot_dict_repr ?_
    rw [PyData.shownKv_eq] at sz hQ
    refine call_dict_reprK g c e sy out (ReprEntriesK.of_two _ _ _ (k1.more_le (fun b m => ?_) l1) (k2.more_le (fun b m => ?_) l2)) hg (fun b _ => Clear.nil b) (by show A.units + 1 + _ < _; omega) (fun _ _ e => e) (fun h' u tk q => ⟨_, _, rfl, hQ h' u tk q⟩) sz
    · exact List.mem_append.mpr (.inl m)
    · exact List.mem_append.mpr (.inr m)
end

/-! ### from trees -/
section
variable {X : Cx} {pins : List (Addr × Obj)} {σ : L2.St} {H : Hp} {s : Shared} {Z : Addr → Prop} {β : List Addr} {S : Store}
theorem pairs_keys {es : List DictEntry} {vs : List (Key × Value)} (p : Pairs (mixKind X.prog X.w) es vs) : RDs s.heap (es.map (·.key)) (vs.map fun q => kPy q.1) := by
  induction p with
  | nil => exact .nil
  | @cons e kv es kvs h1 h2 _ ih =>
    refine .cons ?_ ih
    rcases keyIs_shape (show keyIs kv.1 e.key = true from h1) with ⟨i, t, q, z⟩ | ⟨y, t, q, z⟩
    · show RD _ e.key (kPy kv.1)
      rw [q, z]; exact .int i t
    · show RD _ e.key (kPy kv.1)
      rw [q, z]; exact .str y t
theorem pairs_vals {P : Program} {w : World} {es : List DictEntry} {vs : List (Key × Value)} (p : Pairs (mixKind P w) es vs) : es.map (·.val) = vs.map (·.2) := by
  induction p with
  | nil => rfl
  | cons h1 h2 _ ih => rw [List.map_cons, List.map_cons, h2, ih]
theorem rv_lst {v : V} {xs : List D} (r : RV (ctOf X) H Z β v (.lst xs)) : ∃ a us, v = V.ref a ∧ SqL X.K H a us ∧ RVs (ctOf X) H Z β us xs := by
  cases r with
  | lst _ _ hr hs => exact ⟨_, _, rfl, .inl hr, hs⟩
  | klst k hs => exact ⟨_, _, rfl, .inr k, hs⟩
mutual
theorem rd_tree (I : L2.Inv X pins σ H s) : ∀ {v : V} {u : Value} {d : D} {p : PyData}, RV (ctOf X) H Z β v d → RelV v u → toPy true d = some p → RD s.heap u p
  | _, _, .non, _, r, q, e => by cases r; cases q; simp only [toPy] at e; cases e; exact .non
  | _, _, .bl b, _, r, q, e => by cases r; cases q; simp only [toPy] at e; cases e; exact .bl b
  | _, _, .int i, _, r, q, e => by cases r; obtain ⟨t, rfl⟩ := q; simp only [toPy] at e; cases e; exact .int i t
  | _, _, .str x, _, r, q, e => by cases r; obtain ⟨t, rfl⟩ := q; simp only [toPy] at e; cases e; exact .str x t
  | _, _, .tup xs, _, r, q, e => by
    simp only [toPy] at e
    split at e
    · rename_i l el
      cases e
      obtain ⟨a, us, rfl, q1, q2⟩ := r.viewT rfl
      cases q
      obtain ⟨its, rv, ⟨o, g, c, n, dd⟩, _⟩ := I.tuple q1
      exact .tup g c dd (rd_trees I q2 rv el)
    · cases e
  | _, _, .lst xs, _, r, q, e => by
    simp only [toPy] at e
    split at e
    · rename_i l el
      cases e
      obtain ⟨a, us, rfl, q1, q2⟩ := rv_lst r
      cases q
      obtain ⟨its, rv, ⟨o, n, g, c, _, dd⟩, _⟩ := I.list q1
      exact .lst g c dd (rd_trees I q2 rv el)
    · cases e
  | _, _, .dct xs, _, r, q, e => by
    simp only [toPy] at e
    split at e
    · rename_i l el
      cases e
      cases r with
      | dct _ _ hr hs =>
        cases q
        obtain ⟨_, sy, vs, rk, o, es, ep, g, ⟨c, _⟩, dd, _, pp, _⟩ := dk_rd I.hok hr
        have q2 := rd_treek I hs rk el
        refine .dct g c dd sy ?_ ?_
        · have := pairs_keys (X := X) (s := s) pp
          rw [← q2.1]
          exact this
        · rw [pairs_vals pp]
          exact q2.2
    · cases e
  | _, _, .ref n, _, r, q, e => by simp only [toPy] at e; cases e
  | _, _, .ty n, _, r, q, e => by simp only [toPy] at e; cases e
  | _, _, .fn n, _, r, q, e => by simp only [toPy] at e; cases e
theorem rd_trees (I : L2.Inv X pins σ H s) : ∀ {vs : List V} {us : List Value} {ds : List D} {ps : List PyData}, RVs (ctOf X) H Z β vs ds → Vals vs us → toPys true ds = some ps → RDs s.heap us ps
  | _, _, [], _, r, q, e => by cases r; cases q; simp only [toPys] at e; cases e; exact .nil
  | _, _, d :: ds, _, r, q, e => by
    simp only [toPys] at e
    split at e
    · rename_i x ex
      split at e
      · rename_i l el
        cases e
        cases r with
        | cons r1 r2 => cases q with
          | cons q1 q2 => exact .cons (rd_tree I r1 q1 ex) (rd_trees I r2 q2 el)
      · cases e
    · cases e
theorem rd_treek (I : L2.Inv X pins σ H s) : ∀ {vs : List (Key × V)} {us : List (Key × Value)} {ds : List (Key × D)} {ps : List (PyData × PyData)}, RKs (ctOf X) H Z β vs ds → KV vs us → toPyk true ds = some ps →
    (us.map fun q => kPy q.1) = ps.map (·.1) ∧ RDs s.heap (us.map (·.2)) (ps.map (·.2))
  | _, _, [], _, r, q, e => by cases r; cases q; simp only [toPyk] at e; cases e; exact ⟨rfl, .nil⟩
  | _, _, (k, d) :: ds, _, r, q, e => by
    simp only [toPyk, toPyp] at e
    split at e
    · rename_i x ex
      split at e
      · rename_i l el
        cases e
        split at ex
        · rename_i y ey
          cases ex
          cases r with
          | cons r1 r2 => cases q with
            | cons q1 q2 =>
              obtain ⟨e1, e2⟩ := q1
              obtain ⟨a1, a2⟩ := rd_treek I r2 q2 el
              refine ⟨?_, .cons (rd_tree I r1 e2 ey) a2⟩
              rw [List.map_cons, List.map_cons, a1, ← e1]
        · cases ex
      · cases e
    · cases e
end
def pyR (S : Store) (d : D) : Option PyData := match toPy true (top S d) with
  | some p => if p.showable = true ∧ p.shown.length ≤ sizeLine ∧ p.depth ≤ 64 then some p else none
  | none => none
def fRepr (S : Store) (ds : List D) : Option D := match ds with
  | [d] => match toPy true d with
    | some p => if p.showable = true ∧ p.shown.length ≤ sizeLine ∧ p.depth ≤ 64 then some (.str p.shown) else none
    | none => none
  | _ => none
/-- the relation for repr: a state is needed -/
def rRepr (X : Cx) : List V → Hp → VK → Prop := fun xs H Q => ∃ (Z : Addr → Prop) (β : List Addr) (x : V) (d : D) (p : PyData), xs = [x] ∧ RV (ctOf X) H Z β x d ∧ toPy true d = some p ∧ p.showable = true ∧ p.shown.length ≤ sizeLine ∧ p.depth ≤ 64 ∧ Q (.str p.shown) H
theorem call_repr (hg : X.A.guards = some []) (hu : X.A.units + 65 < cLine) : CallR X (.builtin "repr") (rRepr X) := by
  intro pins s σ H xs us Q I r h
  obtain ⟨Z, β, x, d, p, rfl, rv, e, h1, h2, h3, q⟩ := h
  obtain ⟨u, rfl, ru⟩ := vals1 r
  exact repr_of_rd (rd_tree I rv ru e) h1 h2 hg (by omega) fun h' t tk k => ⟨.str p.shown, H, I.kept k, ⟨_, rfl⟩, q⟩
theorem repr_m : FnM X (rRepr X) fRepr := by
  intro Z H β S xs ds dz Q A r e k
  unfold fRepr at e
  split at e
  · rename_i d
    split at e
    · rename_i p ep
      split at e
      · rename_i hz
        cases e
        obtain ⟨x, rfl, r1⟩ := rvs1 r
        exact ⟨Z, β, x, d, p, rfl, r1, ep, hz.1, hz.2.1, hz.2.2, k _ H (Same.refl _) (.str _)⟩
      · cases e
    · cases e
  · cases e
end
end Mi

/-! Mi11: subscripts, stores into things of the store, methods, displays of dicts, calls by value. -/
namespace Mi
open PySem PySem.Spec PyProof.Rows L2

def dIx (S : Store) (x y : D) : Option D := match x, y with
  | .str z, .int i => if z.length ≤ sizeLine then (match atI z.cps.toList i with
    | some c => some (.str ⟨#[c]⟩)
    | none => none) else none
  | .tup xs, .int i => atI xs i
  | x, .int i => match viewL S x with
    | some xs => atI xs i
    | none => none
  | _, _ => none
section
variable {X : Cx} {W : WX} {b : Bool} {a e o : Expr} {es : List Expr} {ma mb me mo : EX} {mas : AX} {pos : Pos}
theorem rvs_at {C : Ct} {H : Hp} {Z : Addr → Prop} {β : List Addr} {vs : List V} {ds : List D} {i : Int} {d : D} (r : RVs C H Z β vs ds) (h : atI ds i = some d) : ∃ v, atI vs i = some v ∧ RV C H Z β v d := by
  unfold atI at h ⊢
  rw [r.length]
  cases e : ixN ds.length i with
  | none => rw [e] at h; cases h
  | some j =>
    rw [e] at h
    exact r.get h
theorem ix_m : OpM X (rIx X.K) dIx := by
  intro Z H β S x y dx dy dz Q A rx ry e k
  have tail : ∀ {d : D} {i : Int}, RV (ctOf X) H Z β x d → RV (ctOf X) H Z β y (.int i) → (match viewL S d with
    | some xs => atI xs i
    | none => none) = some dz → rIx X.K x y H Q := fun {d i} rx ry e => by
    split at e
    · rename_i xs e1
      obtain ⟨a, us, rfl, q1, r1⟩ := rx.viewL A.st e1
      obtain ⟨v, e2, r2⟩ := rvs_at r1 e
      cases ry
      exact .inl ⟨a, us, i, v, rfl, rfl, q1, e2, k _ H (Same.refl _) r2⟩
    · cases e
  unfold dIx at e
  split at e
  · split at e
    · rename_i hz
      split at e
      · rename_i c ec
        cases e; cases rx; cases ry
        exact .inr (.inr ⟨_, _, c, rfl, rfl, hz, ec, k _ H (Same.refl _) (.str _)⟩)
      · cases e
    · cases e
  · obtain ⟨a, us, rfl, q1, r1⟩ := rx.viewT rfl
    obtain ⟨v, e2, r2⟩ := rvs_at r1 e
    cases ry
    exact .inr (.inl ⟨a, us, _, v, rfl, rfl, q1, e2, k _ H (Same.refl _) r2⟩)
  · exact tail rx ry e
  · cases e
/-- a[b] -/
theorem pm_ix (ha : PM (ctOf X) W b X a ma) (hb : PM (ctOf X) W b X e mb) (hs : PlainIx e := by exact fun _ _ => rfl) : PM (ctOf X) W b X (.Subscript a e pos) (mBin dIx ma mb) :=
  PE_imp (pe_ix ix_seq ha hb hs) fun σ H Q h => em2 ix_m h

/-! ### o[i] = v, o a list of the store -/
def storeIx (o i v : D) (S : Store) : Option Store := match o, i with
  | .ref n, .int k => match S[n]? with
    | some (.lst xs) => match ixN xs.length k with
      | some j => some (S.set n (.lst (xs.set j v)))
      | none => none
    | _ => none
  | _, _ => none
def gIx (mo mi : EX) : GX := fun v ρ S => match mo ρ S with
  | .ok o S1 => match mi ρ S1 with
    | .ok i S2 => match storeIx o i v S2 with
      | some S3 => some (ρ, S3)
      | none => none
    | _ => none
  | _ => none
theorem LR.wrote {C : Ct} {cf : Cf} {oa : Nat → Option Addr} {P : Addr → Prop} {σ : L2.St} {H : Hp} {β : List Addr} {ρ : Rho} {S : Store} {n : Nat} {p : Addr} {o : HO} {so : SO} (L : LR C cf oa P σ H β ρ S) (hp : β[n]? = some p) (new : SOK C (upd H p o) P β p so) : LR C cf oa P σ (upd H p o) β ρ (S.set n so) := by
  have m : p ∈ β := List.mem_of_getElem? hp
  exact L.step (Ext.wrote m (L.st.notup m)) (L.st.set hp new)
theorem pg_ixM (ho : PM (ctOf X) W true X o mo) (hi : PM (ctOf X) W true X e me)
    (ha : ∀ v, assign (.Subscript o e pos) X.env v = (do
      let ov ← holding [v] (eval o X.env)
      let iv ← holding [v, ov] (eval e X.env)
      standAt pos
      holding [v, ov, iv] (setItem ov iv v)
      release [v, ov, iv] []) := by intro _; rfl) : PGM X (.Subscript o e pos) (gIx mo me) :=
  PG_imp (pg_sub ho hi set_list ha) fun v σ H Q h => by
    obtain ⟨cf, oa, P, β, ρ, S, d, L, r, h⟩ := h
    unfold gIx at h
    refine ⟨cf, oa, P, β, ρ, S, L, ?_⟩
    cases eo : mo ρ S with
    | stuck => rw [eo] at h; exact h.elim
    | exc x S1 => rw [eo] at h; exact h.elim
    | ok od S1 =>
      rw [eo] at h
      simp only at h
      intro ov H1 β1 t1 L1 r1
      obtain ⟨s1, rfl, rfl⟩ := t1.ro rfl
      refine ⟨cf, oa, P, β1, ρ, S1, L1, ?_⟩
      cases ei : me ρ S1 with
      | stuck => rw [ei] at h; exact h.elim
      | exc x S2 => rw [ei] at h; exact h.elim
      | ok id S2 =>
        rw [ei] at h
        intro iv H2 β2 t2 L2 r2
        obtain ⟨s2, rfl, rfl⟩ := t2.ro rfl
        simp only at h
        cases es : storeIx od id d S2 with
        | none => rw [es] at h; exact h.elim
        | some S3 =>
          rw [es] at h
          unfold storeIx at es
          split at es
          · rename_i n k
            split at es
            · rename_i xs eS
              split at es
              · rename_i j ej
                cases es
                have r1' := r1.mono (Ext.same s2)
                cases r1' with
                | ref hn =>
                  obtain ⟨us, q1, q2⟩ := L2.st.ok _ _ _ hn eS
                  cases r2
                  refine ⟨_, us, k, j, rfl, rfl, q1, by rw [q2.length]; exact ej, ?_⟩
                  have m := List.mem_of_getElem? hn
                  have nt := L2.st.notup m
                  have rd : RV (ctOf X) H2 P β2 v d := (r.mono (Ext.same s1)).mono (Ext.same s2)
                  have new : SOK (ctOf X) (upd H2 _ (.lst (us.set j v))) P β2 _ (.lst (xs.set j d)) := ⟨_, upd_same, (q2.set' j rd).set (.inr m) nt⟩
                  exact h σ _ β2 oa P (L2.wrote hn new) ((Fx.of (Ext.same (s1.trans s2))).trans (Fx.of (Ext.wrote m nt)))
              · cases es
            · cases es
          · cases es

/-! ### methods of built-in values -/
/-- methods of texts -/
def isStr : D → Bool
  | .str _ => true
  | _ => false
def mMethS (f : Store → D → List D → Option D) (o : EX) (as : AX) : EX := fun ρ S => (o ρ S).bind fun x S1 => if isStr x = true then (as ρ S1).bind fun ys S2 => R.opt (f S2 x ys) S2 else .stuck
/-- a method's rule by values, with the receiver's type seen before the arguments -/
def MtM (X : Cx) (T : String) (r : V → List V → Hp → VK → Prop) (f : Store → D → List D → Option D) : Prop :=
  ∀ (Z : Addr → Prop) (H : Hp) (β : List Addr) (S : Store) (x : V) (xs : List V) (dx : D) (ds : List D) (dz : D) (Q : VK), At (ctOf X) H Z β S → RV (ctOf X) H Z β x dx → RVs (ctOf X) H Z β xs ds → f S dx ds = some dz →
    (∀ v H', Same H H' → RV (ctOf X) H' Z β v dz → Q v H') → r x xs H Q
theorem pm_methS {id : String} {name : Str} {apos cpos : Pos} {r : V → List V → Hp → VK → Prop} {f : Store → D → List D → Option D} (slot : Slot "str" name id) (hty : typeOf (.builtin id) = pure (.type "method_descriptor")) (hm : MtR X id r) (hf : MtM X "str" r f)
    (ho : PM (ctOf X) W b X o mo) (ha : PAM (ctOf X) W b X (e :: es) mas)
    (hbase : attributeBase o name X.env (eval o X.env) = eval o X.env := by rfl)
    (hfew : ((backTo cpos (starEach (e :: es) X.env)).all (fun x => !x.1) && (backToKw cpos (keywordEach [] X.env)).all (fun x => x.1.isSome)
      && decide ((e :: es).length + ([] : List Keyword).length + (if ([] : List Keyword).isEmpty then 0 else 1) < 30)) = true := by rfl)
    (hline : (apos.endLine == cpos.line) = true := by rfl) (hst : starEach (e :: es) X.env = (false, eval e X.env) :: starEach es X.env := by rfl) (hpl : (backTo cpos (starEach es X.env)).any (·.1) = false := by rfl) :
    PM (ctOf X) W b X (.Call (.Attribute o name apos) (e :: es) [] cpos) (mMethS f mo mas) := PE_imp (pe_bm F.plainAttrs_str slot hty hm ho ha hbase hfew hline hst hpl) fun σ H Q h => by
  obtain ⟨cf, oa, P, β, ρ, S, L, h⟩ := h
  refine ⟨cf, oa, P, β, ρ, S, L, ?_⟩
  unfold mMethS at h
  cases eo : mo ρ S with
  | stuck => rw [eo] at h; exact h
  | exc x S1 => rw [eo] at h; exact h
  | ok od S1 =>
    rw [eo] at h
    simp only [R.bind] at h
    intro v H1 β1 t1 L1 r1
    cases od with
    | str z =>
      rw [if_pos (by rfl)] at h
      cases r1
      refine ⟨rfl, cf, oa, P, β1, ρ, S1, L1, ?_⟩
      cases ea : mas ρ S1 with
      | stuck => rw [ea] at h; exact h
      | exc x S2 => rw [ea] at h; intro cls d H' β' t2 L2 ex; exact h cls d H' β' (t1.trans t2) L2 ex
      | ok ds S2 =>
        rw [ea] at h
        simp only [R.bind] at h
        intro xs H2 β2 t2 L2 r2
        cases ef : f S2 (.str z) ds with
        | none => rw [ef] at h; exact h.elim
        | some dz =>
          rw [ef] at h
          exact hf P H2 β2 S2 _ xs _ ds dz Q L2.at (.str z) r2 ef fun v H' e3 r3 => h v H' β2 (t1.trans (t2.trans (Tr.same e3))) (L2.same e3) r3
    | _ => exact (show False from h).elim
def strsOf : List D → Option (List Str)
  | [] => some []
  | .str x :: r => match strsOf r with
    | some l => some (x :: l)
    | none => none
  | _ :: _ => none
theorem strs_rvs {C : Ct} {H : Hp} {Z : Addr → Prop} {β : List Addr} : ∀ {xs : List V} {ds : List D} {bs : List Str}, RVs C H Z β xs ds → strsOf ds = some bs → xs = bs.map V.str
  | _, [], _, r, e => by cases r; cases e; rfl
  | _, .str b :: ds, _, r, e => by
    simp only [strsOf] at e
    split at e
    · rename_i l el
      cases e
      cases r with
      | cons r1 r2 => cases r1; rw [strs_rvs r2 el]; rfl
    · cases e
  | _, .non :: _, _, _, e | _, .int _ :: _, _, _, e | _, .bl _ :: _, _, _, e | _, .tup _ :: _, _, _, e | _, .lst _ :: _, _, _, e | _, .dct _ :: _, _, _, e | _, .ref _ :: _, _, _, e | _, .ty _ :: _, _, _, e | _, .fn _ :: _, _, _, e => by cases e
def fJoin (S : Store) (x : D) (ds : List D) : Option D := match x, ds with
  | .str a, [.tup xs] => match strsOf xs with
    | some ys => if (ys.map (·.length)).sum + ys.length * a.length ≤ 16777216 then some (.str (Txt.join a ys)) else none
    | none => none
  | .str a, [d] => match viewL S d with
    | some xs => match strsOf xs with
      | some ys => if (ys.map (·.length)).sum + ys.length * a.length ≤ 16777216 then some (.str (Txt.join a ys)) else none
      | none => none
    | none => none
  | _, _ => none
theorem join_m : MtM X "str" (fun x xs H Q => ∃ a p, ∃ ys : List Str, x = .str a ∧ xs = [.ref p] ∧ (SqL X.K H p (ys.map V.str) ∨ SqT X.K H p (ys.map V.str)) ∧
    (ys.map (·.length)).sum + ys.length * a.length ≤ 16777216 ∧ Q (.str (Txt.join a ys)) H) fJoin := by
  intro Z H β S x xs dx ds dz Q A rx r e k
  unfold fJoin at e
  split at e
  · split at e
    · rename_i ys ey
      split at e
      · rename_i hz
        cases e
        cases rx
        obtain ⟨v, rfl, r1⟩ := rvs1 r
        obtain ⟨p, us, rfl, q1, q2⟩ := r1.viewT rfl
        rw [strs_rvs q2 ey] at q1
        exact ⟨_, p, ys, rfl, rfl, .inr q1, hz, k _ H (Same.refl _) (.str _)⟩
      · cases e
    · cases e
  · split at e
    · rename_i xs' e1
      split at e
      · rename_i ys ey
        split at e
        · rename_i hz
          cases e
          cases rx
          obtain ⟨v, rfl, r1⟩ := rvs1 r
          obtain ⟨p, us, rfl, q1, q2⟩ := r1.viewL A.st e1
          rw [strs_rvs q2 ey] at q1
          exact ⟨_, p, ys, rfl, rfl, .inl q1, hz, k _ H (Same.refl _) (.str _)⟩
        · cases e
      · cases e
    · cases e
  · cases e

/-! ### calls of a value: which def it is comes out of the run -/
def mCallV (T : List (Str × FX)) (mf : EX) (a : AX) : EX := fun ρ S => (mf ρ S).bind fun d S1 => match d with
  | .fn x => match T.lookup x with
    | some f => (a ρ S1).bind fun us S2 => f us S2
    | none => .stuck
  | _ => .stuck
structure ValOk (X : Cx) (k : Nat) (n : Nat) (x : Str) (f : FX) : Prop where
  ex : ∃ (st : Stmt) (ps : List Str), DefOk X.prog X.w X.K X.mg X.base k x st ps f ∧ BindOk x st ps [] n (List.range n) ∧ ps.length = n
theorem pick_range {α : Type} : ∀ (us : List α) (n : Nat), us.length = n → pick (List.range n) us [] = us := by
  intro us n h
  unfold pick
  rw [List.append_nil]
  subst h
  induction us with
  | nil => rfl
  | cons u us ih =>
    rw [List.length_cons, List.range_succ_eq_map, List.filterMap_cons]
    simp only [List.getElem?_cons_zero, List.filterMap_map]
    congr 1
theorem pm_callV {T : List (Str × FX)} {fe : Expr} {mf : EX} {k j n : Nat} (hT : ∀ x f, T.lookup x = some f → ValOk X k n x f) (hgd : X.A.guards = some []) (hr : Room j X.A) (hkj : k ≤ j) (tk : Takes X W) (hf : PM (ctOf X) W false X fe mf) (ha : PAM (ctOf X) W false X (e :: es) mas) (h1 : ALen mas n)
    (he : starEach (e :: es) X.env = (false, eval e X.env) :: starEach es X.env := by rfl)
    (hc : eval (.Call fe (e :: es) [] pos) X.env = (do callWith pos (← eval fe X.env) [] (backTo pos (starEach (e :: es) X.env)) (backToKw pos (keywordEach [] X.env))) := by rfl)
    (hall : (backToKw pos (keywordEach [] X.env)).all (·.1.isSome) = true := by rfl) (hks : (backToKw pos (keywordEach [] X.env)) = [] := by rfl)
    (hpl : ((backTo pos (starEach (e :: es) X.env)).any (·.1) || (backToKw pos (keywordEach [] X.env)).any (·.1.isNone)) = false := by rfl) : PM (ctOf X) W false X (.Call fe (e :: es) [] pos) (mCallV T mf mas) := by
  refine ⟨fun pins s σ H Q I h => ?_⟩
  have h' : EM (ctOf X) W false mf σ H fun v H1 => ∃ x f, T.lookup x = some f ∧ (∃ fa, v = .ref fa ∧ X.mg x = some (.ref fa) ∧ PySem.W.keepIn X.K (.ref fa) = true) ∧ AM (ctOf X) W false mas σ H1 fun vs H2 => vs.length = n ∧ spM (ctOf X) n f vs H2 Q (WE W σ) := by
    obtain ⟨cf, oa, P, β, ρ, S, L, h⟩ := h
    refine ⟨cf, oa, P, β, ρ, S, L, ?_⟩
    unfold mCallV at h
    cases ef : mf ρ S with
    | stuck => rw [ef] at h; exact h
    | exc x S1 => rw [ef] at h; exact h
    | ok d S1 =>
      rw [ef] at h
      simp only [R.bind] at h
      intro v H1 β1 t1 L1 r1
      cases d with
      | fn x =>
        simp only at h
        cases el : T.lookup x with
        | none => rw [el] at h; exact h.elim
        | some f =>
          rw [el] at h
          simp only at h
          cases r1 with
          | fn hm hk =>
            refine ⟨x, f, el, ⟨_, rfl, hm, hk⟩, cf, oa, P, β1, ρ, S1, L1, ?_⟩
            cases ea : mas ρ S1 with
            | stuck => rw [ea] at h; exact h
            | exc x S2 => rw [ea] at h; intro cls d H' β' e2 L2 ex; exact h cls d H' β' (t1.trans e2) L2 ex
            | ok us S2 =>
              rw [ea] at h
              simp only at h
              intro vs H2 β2 t2 L2 r2
              have n1 : vs.length = n := by rw [r2.length]; exact h1 _ _ _ _ ea
              exact ⟨n1, call_sp (t1.trans t2) L2 r2 n1 h⟩
      | _ => exact h.elim
  rw [hc]
  refine wpAny_bind (thn (hf.run pins s σ H _ I h') fun fv s1 ⟨v, H1, I1, rv, x, f, el, ⟨fa, ev, hm, hk⟩, q⟩ => ?_)
  subst ev
  obtain rfl : fv = Value.ref fa := rv
  obtain ⟨st, ps, ⟨fa', qual, fd, F, hm', G⟩, B, hp⟩ := (hT x f el).ex
  have hff : fa = fa' := by have z := hm.symm.trans hm'; injection z with z; injection z
  subst hff
  refine PySem.W.callWith_KW (h₀ := X.base) I.ok.mod.kin F.kp hall (thn (ha.run pos pins s1 σ H1 _ I1 q) fun us s2 ⟨vs, H2, I2, r, n1, q2⟩ => ?_) hpl he
  rw [hks]
  refine evalAll_nil ⟨I2.kIn, ?_⟩
  have hu : us.length = n := by rw [← r.length]; exact n1
  have bd := bind_to (s := s2) (us := us) (ws := []) F B hu rfl
  rw [pick_range us n hu] at bd
  exact run_call (ks := []) (ws := []) G hgd (hr.mono hkj) (passAt tk σ) I2 bd r (hp ▸ q2)
/-- a def as a value -/
theorem pm_fn {x : Str} {st : Stmt} {ps : List Str} {f : FX} {k : Nat} {p : Pos} (Dk : DefOk X.prog X.w X.K X.mg X.base k x st ps f) (hg : Gl X x := by rfl) (hdb : (x == ("__debug__" : Str)) = false := by decide) : PM (ctOf X) W b X (.Name x p) (mC (.fn x)) := by
  obtain ⟨fa, qual, fd, F, hm, G⟩ := Dk.ex
  exact pm_glob (v := .ref fa) hm rfl (fun _ _ _ => .fn hm F.kp) hg hdb
end
end Mi

/-! Mi12: displays of dicts, range. -/
namespace Mi
open PySem PySem.Spec PyProof.Rows L2

def hasD (kvs : List (Key × D)) (k : Key) : Bool := kvs.any fun kv => decide (kv.1 = k)
def putD (kvs : List (Key × D)) (k : Key) (v : D) : List (Key × D) :=
  if hasD kvs k = true then kvs.map (fun kv => if kv.1 = k then (kv.1, v) else kv) else kvs ++ [(k, v)]
def mergeD (kvs more : List (Key × D)) : List (Key × D) := more.foldl (fun acc kv => putD acc kv.1 kv.2) kvs
def keyD : D → Option Key
  | .int i => some (.inl i)
  | .str x => some (.inr x)
  | _ => none
def keysD : List D → Option (List (Key × D))
  | [] => some []
  | [_] => none
  | k :: v :: r => match keyD k with
    | some a => match keysD r with
      | some l => some ((a, v) :: l)
      | none => none
    | none => none
def mDct0 : EX := fun _ S => .ok (.dct []) S
def dDisp (xs : List D) : Option D := match keysD xs with
  | some kvs => if kvs.length ≤ 15 then some (.dct (mergeD [] kvs)) else none
  | none => none
def mDct (m : AX) : EX := fun ρ S => (m ρ S).bind fun xs S1 => R.opt (dDisp xs) S1
def flatA : List (EX × EX) → AX
  | [] => aNil
  | (k, v) :: r => aCons k (aCons v (flatA r))

section
variable {C : Ct} {H : Hp} {P : Addr → Prop} {β : List Addr}
theorem rk_has {k : Key} : ∀ {vs : List (Key × V)} {ds : List (Key × D)}, RKs C H P β vs ds → (vs.any fun kv => decide (kv.1 = k)) = hasD ds k
  | _, _, .nil => rfl
  | _, _, .cons (vs := vs) (ds := ds) r t => by
    unfold hasD
    rw [List.any_cons, List.any_cons, rk_has t]
    rfl
theorem rk_repl {k : Key} {y : V} {d : D} (q : RV C H P β y d) : ∀ {vs : List (Key × V)} {ds : List (Key × D)}, RKs C H P β vs ds → RKs C H P β (vs.map fun kv => if kv.1 = k then (kv.1, y) else kv) (ds.map fun kv => if kv.1 = k then (kv.1, d) else kv)
  | _, _, .nil => .nil
  | _, _, .cons (k := k') (v := v) (d := d') r t => by
    rw [List.map_cons, List.map_cons]
    by_cases e : k' = k
    · rw [if_pos e, if_pos e]; exact .cons q (rk_repl q t)
    · rw [if_neg e, if_neg e]; exact .cons r (rk_repl q t)
theorem rk_snoc {k : Key} {y : V} {d : D} (q : RV C H P β y d) : ∀ {vs : List (Key × V)} {ds : List (Key × D)}, RKs C H P β vs ds → RKs C H P β (vs ++ [(k, y)]) (ds ++ [(k, d)])
  | _, _, .nil => .cons q .nil
  | _, _, .cons r t => .cons r (rk_snoc q t)
theorem rk_put {k : Key} {y : V} {d : D} {vs : List (Key × V)} {ds : List (Key × D)} (r : RKs C H P β vs ds) (q : RV C H P β y d) : RKs C H P β (putK vs k y) (putD ds k d) := by
  unfold putK putD
  rw [rk_has r]
  by_cases e : hasD ds k = true
  · rw [if_pos e, if_pos e]; exact rk_repl q r
  · rw [if_neg e, if_neg e]; exact rk_snoc q r
theorem rk_merge : ∀ {ms : List (Key × V)} {es : List (Key × D)}, RKs C H P β ms es → ∀ {vs : List (Key × V)} {ds : List (Key × D)}, RKs C H P β vs ds → RKs C H P β (mergeK vs ms) (mergeD ds es)
  | _, _, .nil, _, _, r => r
  | _, _, .cons q t, _, _, r => rk_merge t (rk_put r q)
theorem kv_key {v : V} {d : D} {k : Key} (r : RV C H P β v d) (e : keyD d = some k) : v = kV k := by
  cases r <;> first | (cases e; rfl) | cases e
/-- the pairs that a flat list stands for -/
inductive Pr : List V → List (V × V) → Prop
  | nil : Pr [] []
  | cons {a b : V} {vs : List V} {ps : List (V × V)} : Pr vs ps → Pr (a :: b :: vs) ((a, b) :: ps)
theorem keys_rk : ∀ {ds : List D} {kvs : List (Key × D)} {vs : List V} {ps : List (V × V)}, RVs C H P β vs ds → keysD ds = some kvs → Pr vs ps → ∃ ks : List (Key × V), ps = ks.map (fun kv => (kV kv.1, kv.2)) ∧ RKs C H P β ks kvs
  | [], _, _, _, r, e, p => by cases r; cases e; cases p; exact ⟨[], rfl, .nil⟩
  | [_], _, _, _, r, e, p => by cases e
  | a :: b :: ds, _, _, _, r, e, p => by
    simp only [keysD] at e
    split at e
    · rename_i k ek
      split at e
      · rename_i l el
        cases e
        cases r with
        | cons r1 r => cases r with
          | cons r2 r =>
            cases p with
            | cons p =>
              obtain ⟨ks, e1, q⟩ := keys_rk r el p
              rw [kv_key r1 ek, e1]
              exact ⟨(k, _) :: ks, rfl, .cons r2 q⟩
      · cases e
    · cases e
end
section
variable {X : Cx} {W : WX} {b : Bool} {pos : Pos}
/-- {} -/
theorem pn_dct0 : PN (ctOf X) W b X (.Dict [] [] pos) mDct0 := PE_imp pe_dnewK fun σ H Q h => by
  obtain ⟨cf, oa, P, β, ρ, S, L, h⟩ := h
  intro p hp
  have x : Same H (upd H p (.dK [])) := same_laid hp
  exact h p _ β (Tr.same x) hp (L.keepMore x hp (by rw [upd_same]; exact Option.some_ne_none _)) ⟨[], upd_same, .nil⟩
theorem pairs_am {σ : L2.St} : ∀ {ms : List (EX × EX)} {H : Hp} {Q : List (V × V) → Hp → Prop}, AM (ctOf X) W b (flatA ms) σ H (fun vs H' => ∀ ps, Pr vs ps → Q ps H') → tPairs (ms.map fun m => (EM (ctOf X) W b m.1, EM (ctOf X) W b m.2)) σ H Q
  | [], H, Q, h => by
    obtain ⟨cf, oa, P, β, ρ, S, L, h⟩ := h
    exact h [] H β Tr.refl L .nil [] .nil
  | (k, v) :: ms, H, Q, h => by
    have h1 := am_cons (X := X) (W := W) h
    refine em_q h1 fun x H1 h2 => ?_
    refine em_q (am_cons (X := X) (W := W) h2) fun y H2 h3 => ?_
    refine pairs_am (ms := ms) ?_
    refine am_q h3 fun vs H3 q ps hp => q _ (.cons hp)
where
  em_q {σ : L2.St} {m : EX} {H : Hp} {Q Q' : VK} (h : EM (ctOf X) W b m σ H Q) (i : ∀ v H', Q v H' → Q' v H') : EM (ctOf X) W b m σ H Q' := by
    obtain ⟨cf, oa, P, β, ρ, S, L, h⟩ := h
    refine ⟨cf, oa, P, β, ρ, S, L, ?_⟩
    cases e : m ρ S with
    | stuck => rw [e] at h; exact h
    | exc x S1 => rw [e] at h; exact h
    | ok d S1 => rw [e] at h; intro v H' β' t L' r; exact i _ _ (h v H' β' t L' r)
  am_q {σ : L2.St} {m : AX} {H : Hp} {Q Q' : List V → Hp → Prop} (h : AM (ctOf X) W b m σ H Q) (i : ∀ v H', Q v H' → Q' v H') : AM (ctOf X) W b m σ H Q' := by
    obtain ⟨cf, oa, P, β, ρ, S, L, h⟩ := h
    refine ⟨cf, oa, P, β, ρ, S, L, ?_⟩
    cases e : m ρ S with
    | stuck => rw [e] at h; exact h
    | exc x S1 => rw [e] at h; exact h
    | ok d S1 => rw [e] at h; intro v H' β' t L' r; exact i _ _ (h v H' β' t L' r)
/-- {k: v, ..} -/
theorem pn_dct {keys : List (Option Expr)} {values : List Expr} {ms : List (EX × EX)} (hp : PPs X pos keys values (ms.map fun m => (EM (ctOf X) W b m.1, EM (ctOf X) W b m.2))) (hall : keys.all (·.isSome) = true := by rfl) (hl : keys.length = values.length := by rfl) (h0 : keys ≠ [] := by exact fun z => nomatch z) (h15 : keys.length ≤ 15 := by decide) :
    PN (ctOf X) W b X (.Dict keys values pos) (mDct (flatA ms)) := PE_imp (pe_disp hp hall hl h0 h15) fun σ H Q h => by
  obtain ⟨cf, oa, P, β, ρ, S, L, h⟩ := h
  intro p hp
  refine pairs_am ⟨cf, oa, _, β, ρ, S, L.keepNew hp, ?_⟩
  unfold mDct at h
  have x0 : Same H (upd H p (.dK [])) := same_laid hp
  cases ea : flatA ms ρ S with
  | stuck => rw [ea] at h; exact h
  | exc e S1 =>
    rw [ea] at h
    intro cls d H' β' t L' ex
    refine h cls d H' β' ((Tr.same x0).trans t) (L'.forget L.sub fun i a h => (L.own i a h).1) ?_
    obtain ⟨Ca, dd, vs, h1, h2, h3, h4, h5⟩ := ex
    exact ⟨Ca, dd, vs, h1, h2, h3, h4, fun f x hx => let ⟨v, q1, q2⟩ := h5 f x hx; ⟨v, q1, q2.less fun _ z => .inl z⟩⟩
  | ok ds S1 =>
    rw [ea] at h
    simp only [R.bind] at h
    intro vs H1 β1 t L1 rs ps hps
    have hpb : p ∉ β := L.npB hp
    have e0 : H1 p = some (.dK []) := t.ext.keep p _ upd_same hpb
    refine ⟨e0, ?_⟩
    cases ed : dDisp ds with
    | none => rw [ed] at h; exact h.elim
    | some dz =>
      rw [ed] at h
      unfold dDisp at ed
      split at ed
      · rename_i kvs ek
        split at ed
        · rename_i h15'
          cases ed
          obtain ⟨ks, q1, q2⟩ := keys_rk rs ek hps
          refine ⟨ks, q1, by rw [q2.length]; exact h15', ?_⟩
          have nt : ∀ xs, ¬ Rd H1 p (.tup xs) := fun xs z => by
            rcases z with z | ⟨o, z⟩ <;> (rw [e0] at z; cases z)
          have h0' : cf.H0 p = none := by
            cases z : cf.H0 p with
            | none => rfl
            | some o => exact absurd hp (L.ext.stay p (by rw [z]; exact Option.some_ne_none _))
          have no : ∀ i, oa i ≠ some p := fun i z => (L.p p (L.own i p z).1).1 hp
          refine h p _ β1 (((Tr.same x0).trans t).poke hp nt) hp (L1.poke (.inr rfl) h0' no nt) ⟨_, upd_same, ?_⟩
          exact (rk_merge q2 .nil).set (.inl (.inr rfl)) nt
        · cases ed
      · cases ed
/-! ### range -/
def rng1 (ds : List D) : Option (List D) := match ds with
  | [.int j] => if -(2 ^ 62) ≤ j ∧ j < 2 ^ 62 then some (rangeD 0 j.toNat) else none
  | _ => none
def rng2 (ds : List D) : Option (List D) := match ds with
  | [.int i, .int j] => if -(2 ^ 62) ≤ i ∧ i < 2 ^ 62 ∧ -(2 ^ 62) ≤ j ∧ j < 2 ^ 62 then some (rangeD i (j - i).toNat) else none
  | _ => none
def iFun (f : List D → Option (List D)) (a : AX) : AX := fun ρ S => (a ρ S).bind fun xs S1 => R.opt (f xs) S1
theorem pim_rng1 {tg a : Expr} {p : Pos} {mas : AX} (hm : X.mg "range" = none) (ha : PAM (ctOf X) W b X [a] mas) (hg : Gl X "range" := by rfl) (hs : starEach [a] X.env = [(false, eval a X.env)] := by rfl) : PIM (ctOf X) W b X tg (.Call (.Name "range" p) [a] [] pos) (iFun rng1 mas) :=
  PI_imp (pi_range1 hg hm ha hs) fun σ H Q h => by
    obtain ⟨cf, oa, P, β, ρ, S, L, h⟩ := h
    refine ⟨cf, oa, P, β, ρ, S, L, ?_⟩
    unfold iFun at h
    cases ea : mas ρ S with
    | stuck => rw [ea] at h; exact h
    | exc e S1 => rw [ea] at h; exact h
    | ok ds S1 =>
      rw [ea] at h
      simp only [R.bind] at h
      intro vs H1 β1 t L1 rs
      cases er : rng1 ds with
      | none => rw [er] at h; exact h.elim
      | some xs =>
        rw [er] at h
        unfold rng1 at er
        split at er
        · split at er
          · rename_i hz
            cases er
            obtain ⟨v, rfl, r1⟩ := rvs1 rs
            cases r1
            exact ⟨_, rfl, hz.1, hz.2, h _ H1 β1 t L1 it_rng⟩
          · cases er
        · cases er
theorem pim_rng2 {tg a a' : Expr} {p : Pos} {mas : AX} (hm : X.mg "range" = none) (ha : PAM (ctOf X) W b X [a, a'] mas) (hg : Gl X "range" := by rfl) (hs : starEach [a, a'] X.env = [(false, eval a X.env), (false, eval a' X.env)] := by rfl) (hs2 : starEach [a'] X.env = [(false, eval a' X.env)] := by rfl) :
    PIM (ctOf X) W b X tg (.Call (.Name "range" p) [a, a'] [] pos) (iFun rng2 mas) :=
  PI_imp (pi_range2 hg hm ha hs hs2) fun σ H Q h => by
    obtain ⟨cf, oa, P, β, ρ, S, L, h⟩ := h
    refine ⟨cf, oa, P, β, ρ, S, L, ?_⟩
    unfold iFun at h
    cases ea : mas ρ S with
    | stuck => rw [ea] at h; exact h
    | exc e S1 => rw [ea] at h; exact h
    | ok ds S1 =>
      rw [ea] at h
      simp only [R.bind] at h
      intro vs H1 β1 t L1 rs
      cases er : rng2 ds with
      | none => rw [er] at h; exact h.elim
      | some xs =>
        rw [er] at h
        unfold rng2 at er
        split at er
        · split at er
          · rename_i hz
            cases er
            obtain ⟨x, y, rfl, r1, r2⟩ := rvs2 rs
            cases r1; cases r2
            exact ⟨_, _, rfl, hz, h _ H1 β1 t L1 it_rng⟩
          · cases er
        · cases er
end
end Mi

/-! Mi13: from the law's def to the statement. -/
namespace Mi
open PySem PySem.Spec PyProof.Rows L2

def intsD (ns : List Int) : List D := ns.map D.int
theorem rv_ints {C : Ct} {H : Hp} {P : Addr → Prop} {β : List Addr} : ∀ ns : List Int, RVs C H P β (ns.map V.int) (intsD ns)
  | [] => .nil
  | n :: ns => .cons (.int n) (rv_ints ns)
/-- the script's list as a tree -/
theorem rv_script {C : Ct} {H : Hp} {a : Addr} {ns : List Int} (h : SqL C.K H a (ns.map V.int)) : RV C H (fun _ => False) [] (.ref a) (.lst (intsD ns)) := by
  rcases h with h | h
  · exact .lst (fun z => z) (fun z => nomatch z) h (rv_ints ns)
  · exact .klst h (rv_ints ns)
/-- the pure law meets the promise's wish -/
theorem sp_law {C : Ct} {f : FX} {H : Hp} {a : Addr} {ns : List Int} (h : SqL C.K H a (ns.map V.int)) (ok : ∃ S, f [.lst (intsD ns)] [] = .ok (.bl true) S) : spM C 1 f [.ref a] H (fun v _ => v = .bl true) fun _ _ _ => False := by
  obtain ⟨S, ok⟩ := ok
  refine ⟨rfl, fun _ => False, [], [.lst (intsD ns)], [], ⟨rfl, List.nodup_nil, fun n a so e => nomatch e⟩, fun a z => z.elim, .cons (rv_script h) .nil, ?_⟩
  rw [ok]
  intro v H' β' e s r
  cases r
  rfl
theorem cx_no {P : Program} {w : World} {H : Hp} {s s' : Shared} {e : Value} (h : L2.CX P w [] H s (fun _ _ _ => False) e s') : False := by
  obtain ⟨a, B, H', cls, d, _, _, _, _, _, _, _, q⟩ := h
  exact q
section
variable {P : Program} {w : World} {K : PySem.W.Frag} {mg mb : Str → Option Value} {k : Nat} {fa a : Addr} {fd : FuncData} {x : Str} {f : FX} {s : Shared} {vs : List Value} {ns : List Int}
/-- behind the top: the def run at the script, which is tracked (as a thing the object of which is known), or one of the module's own objects -/
theorem head_at (KX : K.In s.heap) (N : s.heap.Ns mainGlobals mg) (B : s.heap.Ns builtinsNs mb) (bb : ∀ x : Str, x ≠ "__name__" → mb x = bootBuiltins x) (lim : s.heap.NoLimit) (gg : s.gens = #[])
    (ob : s.heap.get? a = some { cls := .type "list", data := .seq vs.toArray }) (rm : Room k callerA) (F : ∀ base : Heap, K.In base → base.Ns mainGlobals mg → FnG P w K mg base k fa fd [x] (spM ⟨K, mg, w⟩ 1 f)) (bd : ∀ (s : Shared) (u : Value), BindsTo s fd ⟨[u], []⟩ [(x, u)])
    (ok : ∃ S, f [.lst (intsD ns)] [] = .ok (.bl true) S) (H : Hp) (hH : HOk P w H s.heap) (sq : SqL K H a (ns.map V.int)) (on : ∀ b, H b = none ∨ (b = a ∧ K.lookup a = none ∧ ∃ xs, H b = some (.frz { cls := .type "list", data := .seq vs.toArray } (.lst xs)))) :
    codeAny (model P w) callerA (.call (.ref fa) ⟨[.ref a], []⟩) (fun r s' => r = .ok (.ret (.bool true)) ∧ OldK s.heap s'.heap ∧ s'.os = s.os ∧ AllBare s'.gens) s := by
  have dict_free : ∀ {b : Addr} {o : Obj} {es : Array DictEntry} {ep : Nat}, s.heap.get? b = some o → o.data = .dict es ep → H b = none := by
    intro b o es ep g d
    rcases on b with z | ⟨rfl, _, _⟩
    · exact z
    · rw [ob] at g
      injection g with g
      rw [← g] at d
      cases d
  have k_free : ∀ {b : Addr} {o : Obj}, K.lookup b = some o → H b = none := by
    intro b o g
    rcases on b with z | ⟨rfl, n, _⟩
    · exact z
    · rw [n] at g; cases g
  have ns_of : ∀ {b : Addr} {m : Str → Option Value}, s.heap.Ns b m → (hidT s.heap H).Ns b m := by
    rintro b m ⟨o, es, ep, g, d, r⟩
    exact ⟨o, es, ep, hidT_get g (dict_free g d), d, r⟩
  have kin : K.In (hidT s.heap H) := fun b o g => hidT_get (KX b o g) (k_free g)
  obtain ⟨ml, l1, l2⟩ := lim
  have mod : Mod K mg (hidT s.heap H) := ⟨kin, ns_of N, ⟨mb, ns_of B, bb⟩, ⟨ml, ns_of l1, l2⟩⟩
  have env : Env0 P w K mg (hidT s.heap H) callerA [] s H := ⟨rfl, mod, fun b o g => of_hidT g, Nat.le_of_eq (hidT_size _ _), trivial, fun b z => (List.not_mem_nil z).elim, hH, .of_eq gg⟩
  have run := (F _ kin (ns_of N)).run callerA [] s H ⟨[.ref a], []⟩ [.ref a] [.ref a] _ _ rfl rm env (bd s (.ref a)) (.cons rfl .nil) (sp_law (C := ⟨K, mg, w⟩) sq ok)
  refine codeAny_mono run fun r s' q => ?_
  match r, q with
  | .error e, q => exact (cx_no q).elim
  | .ok .next, q => exact False.elim q
  | .ok .brk, q => exact False.elim q
  | .ok .cont, q => exact False.elim q
  | .ok (.ret u), q =>
    obtain ⟨v, H', os, ba, un, hH', rv, e⟩ := q
    have e' : v = .bl true := e
    subst e'
    obtain rfl : u = Value.bool true := rv
    refine ⟨rfl, OldK.of_keep fun b o g => ?_, os, ba⟩
    rcases on b with z | ⟨_, _, xs, z⟩
    · exact un.keep b o g z (fun m => (List.not_mem_nil m).elim) (fun m => (List.not_mem_nil m).elim)
    · obtain ⟨g1, _⟩ := hH b _ z
      obtain ⟨g2, _⟩ := hH' b _ (un.frzs b _ _ z)
      rw [g] at g1
      injection g1 with g1
      rw [g1]
      exact g2
theorem head_run (KX : K.In s.heap) (N : s.heap.Ns mainGlobals mg) (B : s.heap.Ns builtinsNs mb) (bb : ∀ x : Str, x ≠ "__name__" → mb x = bootBuiltins x) (lim : s.heap.NoLimit) (gg : s.gens = #[])
    (ob : s.heap.get? a = some { cls := .type "list", data := .seq vs.toArray }) (hi : IntsAre vs ns) (hz : ns.length ≤ sizeLine) (rm : Room k callerA) (F : ∀ base : Heap, K.In base → base.Ns mainGlobals mg → FnG P w K mg base k fa fd [x] (spM ⟨K, mg, w⟩ 1 f)) (bd : ∀ (s : Shared) (u : Value), BindsTo s fd ⟨[u], []⟩ [(x, u)])
    (ok : ∃ S, f [.lst (intsD ns)] [] = .ok (.bl true) S) :
    codeAny (model P w) callerA (.call (.ref fa) ⟨[.ref a], []⟩) (fun r s' => r = .ok (.ret (.bool true)) ∧ OldK s.heap s'.heap ∧ s'.os = s.os ∧ AllBare s'.gens) s := by
  have vals := vals_ints hi
  cases hk : K.lookup a with
  | none =>
    refine head_at KX N B bb lim gg ob rm F bd ok (fun b => if b = a then some (.frz { cls := .type "list", data := .seq vs.toArray } (.lst (ns.map V.int))) else none) ?_ (.inl (.inr ⟨_, if_pos rfl⟩)) fun b => ?_
    · intro b u z
      simp only at z
      by_cases e : b = a
      · rw [if_pos e] at z
        injection z with z
        subst z e
        exact ⟨ob, by rw [List.length_map]; exact hz, vs, 0, vals, ob⟩
      · rw [if_neg e] at z; cases z
    · by_cases e : b = a
      · exact .inr ⟨e, hk, _, if_pos e⟩
      · exact .inl (if_neg e)
  | some o =>
    have g := KX a o hk
    rw [ob] at g
    injection g with g
    refine head_at KX N B bb lim gg ob rm F bd ok (fun _ => none) (fun b u z => nomatch z) (.inr ⟨o, vs.toArray, 0, hk, ?_⟩) fun b => .inl rfl
    rw [← g]
    refine ⟨rfl, rfl, rfl, ?_, vals⟩
    rw [List.size_toArray, ← vals.length, List.length_map]
    exact hz
end
/-- the goal that k_head leaves -/
theorem walk_g {l : PySem.W.OpenLaw} {n k : Nat} {q : Program} {loose : List Str} {XP : (Str → Option Value) → Heap → Prop} {YP : World → Heap → Prop} {d : DefRec} {K : Params → PySem.W.Frag} {x : Str} {f : FX}
    (hn : l.most = some n) (hn2 : n ≤ sizeLine) (hdf : d.params.defaults = []) (hr : Room k callerA) (hY : ∀ (w : World) (h : Heap), YP w h → (K w.params).In h)
    (law : ∀ ns : List Int, ns.length ≤ n → (∀ z ∈ ns, Builtin.Int.intBits z ≤ 1048576) → ∃ S, f [.lst (intsD ns)] [] = .ok (.bl true) S)
    (F : ∀ (w : World) (mg : Str → Option Value) (fa : Addr) (h : Heap), (K w.params).In h → h.Ns mainGlobals mg → mg d.name = some (.ref fa) →
      ∃ fd : FuncData, (∀ (s : Shared) (u : Value), BindsTo s fd ⟨[u], []⟩ [(x, u)]) ∧ ∀ base : Heap, (K w.params).In base → base.Ns mainGlobals mg → FnG l.prog w (K w.params) mg base k fa fd [x] (spM ⟨K w.params, mg, w⟩ 1 f)) :
    PySem.W.WalkO q loose XP YP l.row.toRowW d [] (fun f vs => PySem.call f vs) := by
  refine Att.attach_callB hn hdf fun w s₀ s₁ mg mb fa o pm cd doc a vs ns G Y ho hd hcd hmg hobj hints hlen hbits hg => ?_
  have KX := hY w _ Y
  obtain ⟨fd, hb, hF⟩ := F w mg fa _ KX G.T.g hmg
  exact head_run KX G.T.g G.T.b G.T.builtins G.T.nolimit hg hobj hints (Nat.le_trans hlen hn2) hr hF hb (law ns hlen hbits)
end Mi

/-! Mi14: small helps for the printed terms. -/
namespace Mi
open PySem PySem.Spec PyProof.Rows L2
theorem hu64 {k : Nat} {A : Around} (h : Room k A) : A.units + 64 < cLine := by have := h.un; omega
theorem hu65 {k : Nat} {A : Around} (h : Room k A) : A.units + 65 < cLine := by have := h.un; omega
theorem glen_nil : ∀ ds ρ S, ds.length ≠ 0 → gsNil ds ρ S = none := by
  intro ds ρ S h
  cases ds with
  | nil => exact absurd rfl h
  | cons d ds => rfl
theorem glen_cons {g : GX} {r : GXs} {n : Nat} (h : ∀ ds ρ S, ds.length ≠ n → r ds ρ S = none) : ∀ ds ρ S, ds.length ≠ n + 1 → gsCons g r ds ρ S = none := by
  intro ds ρ S hl
  cases ds with
  | nil => rfl
  | cons d ds =>
    unfold gsCons
    simp only
    cases g d ρ S with
    | none => rfl
    | some p => exact h ds p.1 p.2 fun z => hl (by rw [List.length_cons, z])
section
variable {P : Program} {w : World} {K : PySem.W.Frag} {mg : Str → Option Value} {base : Heap}
theorem FnG.mono {j k : Nat} {f : Addr} {fd : FuncData} {ps : List Str} {sp : Sp} (F : FnG P w K mg base j f fd ps sp) (h : j ≤ k) : FnG P w K mg base k f fd ps sp :=
  ⟨F.len, fun A outer s H args us vs Q E hg hr => F.run A outer s H args us vs Q E hg (hr.mono h)⟩
theorem DefOk.mono {j k : Nat} {x : Str} {st : Stmt} {ps : List Str} {f : FX} (D : DefOk P w K mg base j x st ps f) (h : j ≤ k) : DefOk P w K mg base k x st ps f := by
  obtain ⟨fa, qual, fd, F, hm, G⟩ := D.ex
  exact ⟨fa, qual, fd, F, hm, G.mono h⟩
theorem fd_same {x x' qual qual' : Str} {st st' : Stmt} {fa : Addr} {fd fd' : FuncData} {k : Nat} {ps : List Str} {sp : Sp} (F : Fun K x qual st fa fd) (F' : Fun K x' qual' st' fa fd') (G : FnG P w K mg base k fa fd' ps sp) : FnG P w K mg base k fa fd ps sp := by
  obtain ⟨oc, od, kV, doc, pm, an, cdv, ct, osl, e1, l1, _⟩ := F.ex
  obtain ⟨oc', od', kV', doc', pm', an', cdv', ct', osl', e2, l2, _⟩ := F'.ex
  have e := l1.symm.trans l2
  injection e with e
  injection e with _ _ e _
  injection e with e
  rw [e]
  exact G
end
section
variable {X : Cx} {k n : Nat} {T : List (Str × FX)}
theorem lookNil : ∀ (x : Str) (f : FX), ([] : List (Str × FX)).lookup x = some f → ValOk X k n x f := fun x f h => nomatch h
theorem lookCons {y : Str} {g : FX} (h : ValOk X k n y g) (r : ∀ (x : Str) (f : FX), T.lookup x = some f → ValOk X k n x f) : ∀ (x : Str) (f : FX), ((y, g) :: T).lookup x = some f → ValOk X k n x f := by
  intro x f e
  rw [List.lookup_cons] at e
  split at e
  · rename_i q
    have q' : x = y := by simpa using q
    cases e
    rw [q']
    exact h
  · exact r x f e
end
end Mi

/-! Mi15: the pure side: the laws' draws; loops. -/
namespace Mi
open PySem PySem.Spec PyProof.Rows L2
def rngS : SX := sSeq (sSet 2 (mIf (bOf (mBin dLt (mVar 1) (mFun fLen (aCons (mVar 0) (aNil))))) (mBin dIx (mVar 0) (mVar 1)) (mBin dAdd (mBin dMul (mC (.int 13)) (mVar 1)) (mC (.int 6))))) <|
  sRet (mBox (mLst (aCons (mFun fMax (aCons (mC (.int 0)) (aCons (mBin dSub (mFun fAbs (aCons (mVar 2) (aNil))) (mBin dPow (mC (.int 10)) (mC (.int 18)))) (aNil)))) (aCons (mBin dAdd (mBin dAdd (mBin dMod (mFun fAbs (aCons (mVar 2) (aNil))) (mC (.int 2147483579))) (mBin dMul (mC (.int 307)) (mVar 1))) (mC (.int 11))) (aNil)))))
def drawS : SX := sSeq (sIf (bOf (mBin dGt (mBin dIx (mVar 0) (mC (.int 0))) (mC (.int 0)))) (sSeq (sAsg (mFun fDivmod (aCons (mBin dIx (mVar 0) (mC (.int 0))) (aCons (mVar 1) (aNil)))) (gUnp (gsCons (gIx (mVar 0) (mC (.int 0))) (gsCons (gSet 2) (gsNil))))) <|
  sRet (mVar 2)) (sNil)) <|
  sSeq (sAsg (mBin dMod (mBin dAdd (mBin dMul (mBin dIx (mVar 0) (mC (.int 1))) (mC (.int 48271))) (mC (.int 20011))) (mC (.int 2147483399))) (gIx (mVar 0) (mC (.int 1)))) <|
  sRet (mBin dMod (mBin dFdiv (mBin dMod (mBin dMul (mBin dIx (mVar 0) (mC (.int 1))) (mBin dIx (mVar 0) (mC (.int 1)))) (mC (.int 2147483323))) (mC (.int 13))) (mVar 1))
def RngAt (S : Store) (n : Nat) : Prop := ∃ a b : Int, S[n]? = some (.lst [.int a, .int b]) ∧ 0 ≤ a ∧ 0 ≤ b ∧ b < 2 ^ 33
theorem draw_ok {S : Store} {n : Nat} {m : Int} (h : RngAt S n) (h0 : 0 < m) (h1 : m < 1073741824) : ∃ d S', (mDef 3 drawS) [.ref n, .int m] S = .ok (.int d) S' ∧ 0 ≤ d ∧ d < m ∧ RngAt S' n ∧ S'.length = S.length := by
  obtain ⟨a, b, e, ha, hb, hb2⟩ := h
  have hl : n < S.length := (List.getElem?_eq_some_iff.mp e).1
  by_cases hp : 0 < a
  · refine ⟨a % m, S.set n (.lst [.int (a / m), .int b]), ?_, Int.emod_nonneg _ (by omega), Int.emod_lt_of_pos _ h0, ⟨a / m, b, by rw [List.getElem?_set_self hl], Int.ediv_nonneg ha (by omega), hb, hb2⟩, List.length_set⟩
    unfold mDef drawS
    simp [sSeq, sIf, bOf, mBin, mVar, mC, dIx, viewL, e, R.bind, R.opt, R.st, dGt, atI, ixN, asB, hp, sAsg, mFun, aCons, aNil, fDivmod, gUnp, viewT, gsCons, gsNil, gIx, gSet, storeIx, sRet, h0, h1]
  · have hm : m ≠ 0 := by omega
    obtain ⟨c, hc⟩ : ∃ c : Int, c = (b * 48271 + 20011).fmod 2147483399 := ⟨_, rfl⟩
    have c0 : 0 ≤ c := by rw [hc, Int.fmod_eq_emod_of_nonneg _ (by decide)]; exact Int.emod_nonneg _ (by decide)
    have c1 : c < 2147483399 := by rw [hc, Int.fmod_eq_emod_of_nonneg _ (by decide)]; exact Int.emod_lt_of_pos _ (by decide)
    have k1 : okMul b 48271 = true := by unfold okMul; simp
    have k2 : okMul c c = true := by unfold okMul; simp; omega
    have e2 : ∀ x : SO, (S.set n x)[n]? = some x := fun x => List.getElem?_set_self hl
    refine ⟨(((c * c).fmod 2147483323).fdiv 13).fmod m, S.set n (.lst [.int a, .int c]), ?_, ?_, ?_, ⟨a, c, by rw [List.getElem?_set_self hl], ha, c0, by omega⟩, List.length_set⟩
    · unfold mDef drawS
      simp [sSeq, sIf, bOf, mBin, mVar, mC, dIx, viewL, e, R.bind, R.opt, R.st, dGt, atI, ixN, asB, hp, sAsg, sNil, gIx, storeIx, sRet, dMul, dAdd, dMod, dFdiv, k1, k2, ← hc, hm, e2]
    · rw [Int.fmod_eq_emod_of_nonneg _ (by omega)]; exact Int.emod_nonneg _ hm
    · rw [Int.fmod_eq_emod_of_nonneg _ (by omega)]; exact Int.emod_lt_of_pos _ h0
theorem rng_ok {S : Store} {ns : List Int} {k : Nat} (hn : ns.length ≤ 63) (hk : k < 100) : ∃ S', (mDef 3 rngS) [.lst (intsD ns), .int k] S = .ok (.ref S.length) S' ∧ RngAt S' S.length := by
  have hl : (intsD ns).length = ns.length := by unfold intsD; rw [List.length_map]
  have key : ∀ z : Int, (mIf (bOf (mBin dLt (mVar 1) (mFun fLen (aCons (mVar 0) aNil)))) (mBin dIx (mVar 0) (mVar 1)) (mBin dAdd (mBin dMul (mC (.int 13)) (mVar 1)) (mC (.int 6)))) [.sh (.lst (intsD ns)), .sh (.int k), .un] S = .ok (.int z) S →
      ∃ S', (mDef 3 rngS) [.lst (intsD ns), .int k] S = .ok (.ref S.length) S' ∧ RngAt S' S.length := by
    intro z hz
    obtain ⟨A, hA⟩ : ∃ A : Int, A = (if z < 0 then -z else z) := ⟨_, rfl⟩
    have hA0 : 0 ≤ A := by rw [hA]; split <;> omega
    obtain ⟨B, hB⟩ : ∃ B : Int, B = A.fmod 2147483579 := ⟨_, rfl⟩
    have hB0 : 0 ≤ B := by rw [hB, Int.fmod_eq_emod_of_nonneg _ (by decide)]; exact Int.emod_nonneg _ (by decide)
    have hB1 : B < 2147483579 := by rw [hB, Int.fmod_eq_emod_of_nonneg _ (by decide)]; exact Int.emod_lt_of_pos _ (by decide)
    have k1 : okMul 307 (k : Int) = true := by unfold okMul; simp
    refine ⟨S ++ [.lst [.int (if A - 1000000000000000000 > 0 then A - 1000000000000000000 else 0), .int (B + 307 * k + 11)]], ?_, ⟨if A - 1000000000000000000 > 0 then A - 1000000000000000000 else 0, B + 307 * k + 11, by simp, by split <;> omega, by omega, by omega⟩⟩
    unfold mDef rngS
    simp only [List.length_cons, List.length_nil, List.map_cons, List.map_nil, List.replicate, List.cons_append, List.nil_append, sSeq, sSet]
    rw [hz]
    simp [R.st, sRet, mBox, mLst, aCons, aNil, mFun, mBin, mC, mVar, fMax, fAbs, dSub, dPow, dAdd, dMod, dMul, R.bind, R.opt, ← hA, ← hB, k1, dLst, sizeLine_eq, soOf]
  by_cases hlt : k < ns.length
  · refine key ns[k] ?_
    simp [mIf, bOf, mBin, mVar, mFun, aCons, aNil, fLen, viewL, hl, dLt, R.bind, R.opt, asB, hlt, dIx, atI, ixN, intsD]
  · refine key (13 * k + 6) ?_
    have k1 : okMul 13 (k : Int) = true := by unfold okMul; simp
    simp [mIf, bOf, mBin, mVar, mFun, aCons, aNil, fLen, viewL, hl, dLt, R.bind, R.opt, asB, hlt, mC, dMul, dAdd, k1]

/-! ### comprehensions and loops run -/
section
variable {vs : List Nat} {g : GX} {t : BX} {e : EX} {ρ : Rho}
theorem comp_run (I : Store → Prop) (Pd Py : D → Prop) (step : ∀ d S, Pd d → I S → ∃ p, g d ρ S = some p ∧ ((∃ S2, t p.1 p.2 = .ok false S2 ∧ I S2) ∨ ∃ S2 y S3, t p.1 p.2 = .ok true S2 ∧ e p.1 S2 = .ok y S3 ∧ Py y ∧ I S3)) :
    ∀ (ds acc : List D) (S : Store), (∀ d ∈ ds, Pd d) → I S → (∀ y ∈ acc, Py y) → acc.length + ds.length ≤ sizeLine → ∃ ys S', compL vs g t e ρ ds acc S = .ok ys S' ∧ (∀ y ∈ ys, Py y) ∧ ys.length ≤ acc.length + ds.length ∧ I S'
  | [], acc, S, _, hI, ha, _ => ⟨acc, S, rfl, ha, Nat.le_refl _, hI⟩
  | d :: ds, acc, S, hd, hI, ha, hl => by
    rw [List.length_cons] at hl
    obtain ⟨p, e1, h⟩ := step d S (hd d List.mem_cons_self) hI
    unfold compL
    rw [e1]
    rcases h with ⟨S2, e2, hI2⟩ | ⟨S2, y, S3, e2, e3, hy, hI3⟩
    · simp only [e2]
      obtain ⟨ys, S', q1, q2, q3, q4⟩ := comp_run I Pd Py step ds acc S2 (fun d h => hd d (List.mem_cons_of_mem _ h)) hI2 ha (by omega)
      exact ⟨ys, S', q1, q2, by rw [List.length_cons]; omega, q4⟩
    · simp only [e2, e3]
      rw [if_pos (by omega)]
      obtain ⟨ys, S', q1, q2, q3, q4⟩ := comp_run I Pd Py step ds (acc ++ [y]) S3 (fun d h => hd d (List.mem_cons_of_mem _ h)) hI3 (fun z hz => (List.mem_append.mp hz).elim (ha z) fun q => by rw [List.mem_singleton.mp q]; exact hy) (by rw [List.length_append, List.length_singleton]; omega)
      rw [List.length_append, List.length_singleton] at q3
      exact ⟨ys, S', q1, q2, by rw [List.length_cons]; omega, q4⟩
theorem comp_pure {S : Store} {p : D → Bool} {f : D → D} : ∀ (ds acc : List D), (∀ d ∈ ds, ∃ q, g d ρ S = some (q, S) ∧ t q S = .ok (p d) S ∧ (p d = true → e q S = .ok (f d) S)) → acc.length + ds.length ≤ sizeLine → compL vs g t e ρ ds acc S = .ok (acc ++ (ds.filter p).map f) S
  | [], acc, _, _ => by simp [compL]
  | d :: ds, acc, h, hl => by
    rw [List.length_cons] at hl
    obtain ⟨q, e1, e2, e3⟩ := h d List.mem_cons_self
    unfold compL
    rw [e1]
    simp only [e2]
    have h' := fun x hx => h x (List.mem_cons_of_mem _ hx)
    cases hp : p d with
    | false =>
      simp only
      rw [comp_pure ds acc h' (by omega), List.filter_cons, if_neg (by rw [hp]; exact Bool.false_ne_true)]
    | true =>
      simp only [e3 hp]
      rw [if_pos (by omega), comp_pure ds (acc ++ [f d]) h' (by rw [List.length_append, List.length_singleton]; omega), List.filter_cons, if_pos hp, List.map_cons, List.append_assoc]
      rfl
end
theorem for_run {g : GX} {body : SX} (I : Nat → Rho → Store → Prop) : ∀ (ds : List D) (ρ : Rho) (S : Store) (k : Nat), (∀ i d ρ S, ds[i]? = some d → I (k + i) ρ S → ∃ p ρ2 S2, g d ρ S = some p ∧ (body p.1 p.2 = .nx ρ2 S2 ∨ body p.1 p.2 = .ct ρ2 S2) ∧ I (k + i + 1) ρ2 S2) → I k ρ S →
    ∃ ρ' S', forL g body ds ρ S = .nx ρ' S' ∧ I (k + ds.length) ρ' S'
  | [], ρ, S, k, _, h => ⟨ρ, S, rfl, h⟩
  | d :: ds, ρ, S, k, step, h => by
    obtain ⟨p, ρ2, S2, e1, e2, h2⟩ := step 0 d ρ S rfl h
    unfold forL
    rw [e1]
    have go := for_run I ds ρ2 S2 (k + 1) (fun i d' ρ' S' hi hI => by
      have := step (i + 1) d' ρ' S' (by simpa using hi) (by rw [Nat.add_comm i 1, ← Nat.add_assoc]; exact hI)
      rw [Nat.add_comm i 1, ← Nat.add_assoc] at this
      exact this) h2
    rw [List.length_cons, Nat.add_comm ds.length 1, ← Nat.add_assoc]
    rcases e2 with e2 | e2 <;> (simp only [e2]; exact go)
end Mi

/-! Mi16: running the extracted functions, step by step. -/
namespace Mi
open PySem PySem.Spec PyProof.Rows L2
section
variable {ρ ρ1 : Rho} {S S1 S2 S3 : Store} {d x y : D} {ds us ws : List D} {m a b c : EX} {r k : AX} {i : Nat} {idx : List Nat} {f : FX} {t : BX} {s s1 s2 : SX} {g : GX}
theorem k_c : mC d ρ S = .ok d S := rfl
theorem k_var (h : ρ[i]? = some (Sl.sh d)) : mVar i ρ S = .ok d S := by unfold mVar; rw [h]
theorem k_nil : aNil ρ S = .ok [] S := rfl
theorem k_cons (h : a ρ S = .ok d S1) (h2 : r ρ S1 = .ok ds S2) : aCons a r ρ S = .ok (d :: ds) S2 := by
  unfold aCons; rw [h]; simp only [R.bind]; rw [h2]
theorem k_one (h : a ρ S = .ok d S1) : aCons a aNil ρ S = .ok [d] S1 := k_cons h k_nil
theorem k_fun {f : Store → List D → Option D} (h : r ρ S = .ok ds S1) (e : f S1 ds = some d) : mFun f r ρ S = .ok d S1 := by
  unfold mFun; rw [h]; simp only [R.bind]; rw [e]; rfl
theorem k_bin {f : Store → D → D → Option D} (h : a ρ S = .ok x S1) (h2 : b ρ S1 = .ok y S2) (e : f S2 x y = some d) : mBin f a b ρ S = .ok d S2 := by
  unfold mBin; rw [h]; simp only [R.bind]; rw [h2]; simp only [R.bind]; rw [e]; rfl
theorem k_un {f : Store → D → Option D} (h : a ρ S = .ok x S1) (e : f S1 x = some d) : mUn f a ρ S = .ok d S1 := by
  unfold mUn; rw [h]; simp only [R.bind]; rw [e]; rfl
theorem k_tup (h : r ρ S = .ok ds S1) (hl : ds.length ≤ sizeLine) : mTup r ρ S = .ok (.tup ds) S1 := by
  unfold mTup dTup; rw [h]; simp only [R.bind]; rw [if_pos hl]; rfl
theorem k_lst (h : r ρ S = .ok ds S1) (hl : ds.length ≤ sizeLine) : mLst r ρ S = .ok (.lst ds) S1 := by
  unfold mLst dLst; rw [h]; simp only [R.bind]; rw [if_pos hl]; rfl
theorem k_dct {kvs : List (Key × D)} (h : r ρ S = .ok ds S1) (e : dDisp ds = some (.dct kvs)) : mDct r ρ S = .ok (.dct kvs) S1 := by
  unfold mDct; rw [h]; simp only [R.bind]; rw [e]; rfl
theorem k_box (h : m ρ S = .ok x S1) {so : SO} (e : soOf x = some so) : mBox m ρ S = .ok (.ref S1.length) (S1 ++ [so]) := by
  unfold mBox; rw [h]; simp only [R.bind]; rw [e]
theorem k_call {z : R D} (h : r ρ S = .ok us S1) (h2 : k ρ S1 = .ok ws S2) (e : f (pick idx us ws) S2 = z) : mCall f idx r k ρ S = z := by
  unfold mCall; rw [h]; simp only [R.bind]; rw [h2]; exact e
theorem k_callv {T : List (Str × FX)} {n : Str} {z : R D} (h : m ρ S = .ok (.fn n) S1) (l : T.lookup n = some f) (h2 : r ρ S1 = .ok us S2) (e : f us S2 = z) : mCallV T m r ρ S = z := by
  unfold mCallV; rw [h]; simp only [R.bind]; rw [l]; simp only; rw [h2]; exact e
theorem k_meth {f : Store → D → List D → Option D} {w : Str} (h : m ρ S = .ok (.str w) S1) (h2 : r ρ S1 = .ok ds S2) (e : f S2 (.str w) ds = some d) : mMethS f m r ρ S = .ok d S2 := by
  unfold mMethS; rw [h]; simp only [R.bind]; rw [if_pos (by rfl), h2]; simp only; rw [e]; rfl
theorem k_ite {q : Bool} (h : t ρ S = .ok q S1) {z : R D} (e : (if q = true then a ρ S1 else b ρ S1) = z) : mIf t a b ρ S = z := by
  unfold mIf; rw [h]; exact e
theorem k_iteT (h : t ρ S = .ok true S1) : mIf t a b ρ S = a ρ S1 := by unfold mIf; rw [h]; rfl
theorem k_iteF (h : t ρ S = .ok false S1) : mIf t a b ρ S = b ρ S1 := by unfold mIf; rw [h]; rfl
theorem k_andT (h : a ρ S = .ok x S1) (e : tru S1 x = some true) : mAnd a b ρ S = b ρ S1 := by
  unfold mAnd; rw [h]; simp only [R.bind]; rw [e]; rfl
theorem k_andF (h : a ρ S = .ok x S1) (e : tru S1 x = some false) : mAnd a b ρ S = .ok x S1 := by
  unfold mAnd; rw [h]; simp only [R.bind]; rw [e]; rfl
theorem k_orT (h : a ρ S = .ok x S1) (e : tru S1 x = some true) : mOr a b ρ S = .ok x S1 := by
  unfold mOr; rw [h]; simp only [R.bind]; rw [e]; rfl
theorem k_orF (h : a ρ S = .ok x S1) (e : tru S1 x = some false) : mOr a b ρ S = b ρ S1 := by
  unfold mOr; rw [h]; simp only [R.bind]; rw [e]; rfl
theorem k_nt {q : Bool} (h : a ρ S = .ok x S1) (e : tru S1 x = some q) : mNot a ρ S = .ok (.bl (!q)) S1 := by
  unfold mNot; rw [h]; simp only [R.bind]; rw [e]; rfl
theorem k_chT {f h : Store → D → D → Option D} (ha : a ρ S = .ok x S1) (hb : b ρ S1 = .ok y S2) (e : f S2 x y = some (.bl true)) (hc : c ρ S2 = .ok d S3) {z : D} (e2 : h S3 y d = some z) : mChain f h a b c ρ S = .ok z S3 := by
  unfold mChain; rw [ha]; simp only [R.bind]; rw [hb]; simp only [R.bind]; rw [e]; simp only [Option.bind, asB, R.opt, if_true]; rw [hc]; simp only; rw [e2]
theorem k_chF {f h : Store → D → D → Option D} (ha : a ρ S = .ok x S1) (hb : b ρ S1 = .ok y S2) (e : f S2 x y = some (.bl false)) : mChain f h a b c ρ S = .ok (.bl false) S2 := by
  unfold mChain; rw [ha]; simp only [R.bind]; rw [hb]; simp only [R.bind]; rw [e]; rfl
/-! tests -/
theorem k_of {q : Bool} (h : m ρ S = .ok (.bl q) S1) : bOf m ρ S = .ok q S1 := by unfold bOf; rw [h]; rfl
theorem k_tru {q : Bool} (h : m ρ S = .ok x S1) (e : tru S1 x = some q) : bTru m ρ S = .ok q S1 := by unfold bTru; rw [h]; simp only [R.bind]; rw [e]; rfl
theorem k_bnot {q : Bool} (h : t ρ S = .ok q S1) : bNot t ρ S = .ok (!q) S1 := by unfold bNot; rw [h]
theorem k_bandT {u : BX} (h : t ρ S = .ok true S1) : bAnd t u ρ S = u ρ S1 := by unfold bAnd; rw [h]; rfl
theorem k_bandF {u : BX} (h : t ρ S = .ok false S1) : bAnd t u ρ S = .ok false S1 := by unfold bAnd; rw [h]; rfl
theorem k_borT {u : BX} (h : t ρ S = .ok true S1) : bOr t u ρ S = .ok true S1 := by unfold bOr; rw [h]; rfl
theorem k_borF {u : BX} (h : t ρ S = .ok false S1) : bOr t u ρ S = u ρ S1 := by unfold bOr; rw [h]; rfl
/-! what is walked -/
theorem k_iseq (h : m ρ S = .ok x S1) (e : itemsOf x = some ds) : iSeq m ρ S = .ok ds S1 := by unfold iSeq; rw [h]; simp only [R.bind]; rw [e]; rfl
theorem k_ifun {f : List D → Option (List D)} (h : r ρ S = .ok us S1) (e : f us = some ds) : iFun f r ρ S = .ok ds S1 := by unfold iFun; rw [h]; simp only [R.bind]; rw [e]; rfl
theorem k_comp {it : AX} {vs : List Nat} {g : GX} {e : EX} (h : it ρ S = .ok ds S1) (h2 : compL vs g t e (wipeR ρ vs) ds [] S1 = .ok us S2) : mComp it vs g t e ρ S = .ok (.lst us) S2 := by
  unfold mComp; rw [h]; simp only [R.bind]; rw [h2]
/-! statements -/
theorem k_seq {z : SR} (h : s1 ρ S = .nx ρ1 S1) (e : s2 ρ1 S1 = z) : sSeq s1 s2 ρ S = z := by unfold sSeq; rw [h]; exact e
theorem k_seqR (h : s1 ρ S = .rt d S1) : sSeq s1 s2 ρ S = .rt d S1 := by unfold sSeq; rw [h]
theorem k_seqB (h : s1 ρ S = .bk ρ1 S1) : sSeq s1 s2 ρ S = .bk ρ1 S1 := by unfold sSeq; rw [h]
theorem k_seqC (h : s1 ρ S = .ct ρ1 S1) : sSeq s1 s2 ρ S = .ct ρ1 S1 := by unfold sSeq; rw [h]
theorem k_set (h : m ρ S = .ok d S1) : sSet i m ρ S = .nx (ρ.set i (.sh d)) S1 := by unfold sSet; rw [h]; rfl
theorem k_ret (h : m ρ S = .ok d S1) : sRet m ρ S = .rt d S1 := by unfold sRet; rw [h]; rfl
theorem k_exp (h : m ρ S = .ok d S1) : sExpr m ρ S = .nx ρ S1 := by unfold sExpr; rw [h]; rfl
theorem k_asg {p : Rho × Store} (h : m ρ S = .ok d S1) (e : g d ρ S1 = some p) : sAsg m g ρ S = .nx p.1 p.2 := by unfold sAsg; rw [h]; simp only [R.st]; rw [e]
theorem k_ifT {z : SR} (h : t ρ S = .ok true S1) (e : s1 ρ S1 = z) : sIf t s1 s2 ρ S = z := by unfold sIf; rw [h]; exact e
theorem k_ifF {z : SR} (h : t ρ S = .ok false S1) (e : s2 ρ S1 = z) : sIf t s1 s2 ρ S = z := by unfold sIf; rw [h]; exact e
theorem k_for {it : AX} {z : SR} (h : it ρ S = .ok ds S1) (e : forL g s ds ρ S1 = z) : sFor it g s ρ S = z := by unfold sFor; rw [h]; exact e
theorem k_def {n : Nat} (h : s (ds.map Sl.sh ++ List.replicate (n - ds.length) Sl.un) S = .rt d S1) : mDef n s ds S = .ok d S1 := by unfold mDef; rw [h]
theorem k_defN {n : Nat} (h : s (ds.map Sl.sh ++ List.replicate (n - ds.length) Sl.un) S = .nx ρ1 S1) : mDef n s ds S = .ok .non S1 := by unfold mDef; rw [h]
end
end Mi

namespace K11
open PySem PySem.Spec PyProof.Rows L2 Mi
def top (i : Nat) : Stmt := PySem.Challenge.pw_exactstop_k11_names_and_values.main.body.getD i (.Pass ⟨0, 0, 0, 0⟩)
abbrev s__law_rng : Stmt := top 8
abbrev N__law_rng : List Str := ["_law_script", "_law_k", "_law_cell"]
abbrev P__law_rng : List Str := ["_law_script", "_law_k"]
def m__law_rng : SX := sSeq (sSet 2 (mIf (bOf (mBin dLt (mVar 1) (mFun fLen (aCons (mVar 0) (aNil))))) (mBin dIx (mVar 0) (mVar 1)) (mBin dAdd (mBin dMul (mC (.int 13)) (mVar 1)) (mC (.int 6))))) <|
  sRet (mBox (mLst (aCons (mFun fMax (aCons (mC (.int 0)) (aCons (mBin dSub (mFun fAbs (aCons (mVar 2) (aNil))) (mBin dPow (mC (.int 10)) (mC (.int 18)))) (aNil)))) (aCons (mBin dAdd (mBin dAdd (mBin dMod (mFun fAbs (aCons (mVar 2) (aNil))) (mC (.int 2147483579))) (mBin dMul (mC (.int 307)) (mVar 1))) (mC (.int 11))) (aNil)))))
def f__law_rng : FX := mDef N__law_rng.length m__law_rng
abbrev s__law_draw : Stmt := top 9
abbrev N__law_draw : List Str := ["_law_rng_here", "_law_many", "_law_digit"]
abbrev P__law_draw : List Str := ["_law_rng_here", "_law_many"]
def m__law_draw : SX := sSeq (sIf (bOf (mBin dGt (mBin dIx (mVar 0) (mC (.int 0))) (mC (.int 0)))) (sSeq (sAsg (mFun fDivmod (aCons (mBin dIx (mVar 0) (mC (.int 0))) (aCons (mVar 1) (aNil)))) (gUnp (gsCons (gIx (mVar 0) (mC (.int 0))) (gsCons (gSet 2) (gsNil))))) <|
  sRet (mVar 2)) (sNil)) <|
  sSeq (sAsg (mBin dMod (mBin dAdd (mBin dMul (mBin dIx (mVar 0) (mC (.int 1))) (mC (.int 48271))) (mC (.int 20011))) (mC (.int 2147483399))) (gIx (mVar 0) (mC (.int 1)))) <|
  sRet (mBin dMod (mBin dFdiv (mBin dMod (mBin dMul (mBin dIx (mVar 0) (mC (.int 1))) (mBin dIx (mVar 0) (mC (.int 1)))) (mC (.int 2147483323))) (mC (.int 13))) (mVar 1))
def f__law_draw : FX := mDef N__law_draw.length m__law_draw
abbrev s__law_string : Stmt := top 10
abbrev N__law_string : List Str := ["_law_rng_here", "_law_signs", "_law_turn"]
abbrev P__law_string : List Str := ["_law_rng_here"]
def m__law_string : SX := sSeq (sSet 1 (mBin dAdd (mBin dMul (mC (.str "abcxyz")) (mC (.int 6))) (mC (.str "AZ0_ -'\n")))) <|
  sRet (mMethS fJoin (mC (.str "")) (aCons (mComp (iFun rng1 (aCons (mCall f__law_draw [0, 1] (aCons (mVar 0) (aCons (mC (.int 11)) (aNil))) (aNil)) (aNil))) [2] (gSet 2) (bTrue) (mBin dIx (mVar 1) (mCall f__law_draw [0, 1] (aCons (mVar 0) (aCons (mFun fLen (aCons (mVar 1) (aNil))) (aNil))) (aNil)))) (aNil)))
def f__law_string : FX := mDef N__law_string.length m__law_string
abbrev s__law_number : Stmt := top 11
abbrev N__law_number : List Str := ["_law_rng_here", "_law_near"]
abbrev P__law_number : List Str := ["_law_rng_here"]
def m__law_number : SX := sSeq (sSet 1 (mBin dIx (mLst (aCons (mC (.int 0)) (aCons (mC (.int 1)) (aCons (mBin dPow (mC (.int 10)) (mC (.int 18))) (aCons (mUn dNeg (mBin dPow (mC (.int 10)) (mC (.int 18)))) (aCons (mBin dPow (mC (.int 10)) (mC (.int 12))) (aCons (mBin dPow (mC (.int 10)) (mC (.int 29))) (aNil)))))))) (mCall f__law_draw [0, 1] (aCons (mVar 0) (aCons (mC (.int 6)) (aNil))) (aNil)))) <|
  sRet (mBin dAdd (mVar 1) (mBin dIx (mLst (aCons (mC (.int 0)) (aCons (mC (.int 1)) (aCons (mUn dNeg (mC (.int 1))) (aCons (mCall f__law_draw [0, 1] (aCons (mVar 0) (aCons (mBin dPow (mC (.int 10)) (mC (.int 9))) (aNil))) (aNil)) (aNil)))))) (mCall f__law_draw [0, 1] (aCons (mVar 0) (aCons (mC (.int 4)) (aNil))) (aNil))))
def f__law_number : FX := mDef N__law_number.length m__law_number
abbrev s__law_other : Stmt := top 12
abbrev N__law_other : List Str := ["_law_rng_here", "_law_some"]
abbrev P__law_other : List Str := ["_law_rng_here"]
def m__law_other : SX := sSeq (sSet 1 (mLst (aCons (mC .non) (aCons (mC (.bl true)) (aCons (mC (.bl false)) (aCons (mTup (aNil)) (aCons (mLst (aNil)) (aCons (mDct0) (aCons (mTup (aCons (mC (.str "a")) (aNil))) (aCons (mLst (aCons (mC (.str "a")) (aNil))) (aCons (mDct (flatA [((mC (.str "a")), (mC (.int 1)))])) (aCons (mTup (aCons (mC (.int 1)) (aNil))) (aCons (mLst (aCons (mC (.int 0)) (aNil))) (aCons (mC (.str "")) (aCons (mC (.str "a")) (aCons (mC (.int 0)) (aCons (mTup (aCons (mTup (aNil)) (aNil))) (aNil)))))))))))))))))) <|
  sSeq (sSet 1 (mBin dAdd (mVar 1) (mLst (aCons (mC (.str "abcdefgh")) (aCons (mC (.str "abcdefghi")) (aNil)))))) <|
  sRet (mBin dIx (mVar 1) (mCall f__law_draw [0, 1] (aCons (mVar 0) (aCons (mFun fLen (aCons (mVar 1) (aNil))) (aNil))) (aNil)))
def f__law_other : FX := mDef N__law_other.length m__law_other
abbrev s_is_name : Stmt := top 5
abbrev N_is_name : List Str := ["value", "letter"]
abbrev P_is_name : List Str := ["value"]
def m_is_name : SX := sSeq (sIf (bOr (bNot (bTru (mFun fIsi (aCons (mVar 0) (aCons (mC (.ty "str")) (aNil)))))) (bNot (bOf (mChain dLe dLe (mC (.int 1)) (mFun fLen (aCons (mVar 0) (aNil))) (mC (.int 8)))))) (sRet (mC (.bl false))) (sNil)) <|
  sRet (mFun fAll (aCons (mComp (iSeq (mVar 0)) [1] (gSet 1) (bTrue) (mBin dIn (mVar 1) (mC (.str "abcdefghijklmnopqrstuvwxyz")))) (aNil)))
def f_is_name : FX := mDef N_is_name.length m_is_name
abbrev s_is_integer : Stmt := top 4
abbrev N_is_integer : List Str := ["value"]
abbrev P_is_integer : List Str := ["value"]
def m_is_integer : SX := sRet (mAnd (mFun fIsi (aCons (mVar 0) (aCons (mC (.ty "int")) (aNil)))) (mNot (mFun fIsi (aCons (mVar 0) (aCons (mC (.ty "bool")) (aNil))))))
def f_is_integer : FX := mDef N_is_integer.length m_is_integer
abbrev s_is_value : Stmt := top 6
abbrev N_is_value : List Str := ["value"]
abbrev P_is_value : List Str := ["value"]
def m_is_value : SX := sRet (mAnd (mCall f_is_integer [0] (aCons (mVar 0) (aNil)) (aNil)) (mChain dLe dLe (mUn dNeg (mC (.int 1000000000000000000))) (mVar 0) (mC (.int 1000000000000000000))))
def f_is_value : FX := mDef N_is_value.length m_is_value
abbrev s__law_right : Stmt := top 13
abbrev N__law_right : List Str := ["_law_thing", "_law_kept", "_law_letters", "_law_name_due", "_law_number_due", "_law_told", "_law_sign"]
abbrev P__law_right : List Str := ["_law_thing"]
def m__law_right : SX := sSeq (sSet 1 (mFun fRepr (aCons (mVar 0) (aNil)))) <|
  sSeq (sSet 2 (mC (.str "abcdefghijklmnopqrstuvwxyz"))) <|
  sSeq (sSet 3 (mAnd (mFun fIsi (aCons (mVar 0) (aCons (mC (.ty "str")) (aNil)))) (mAnd (mChain dLt dLt (mC (.int 0)) (mFun fLen (aCons (mVar 0) (aNil))) (mC (.int 9))) (mBin dEq (mComp (iSeq (mVar 0)) [6] (gSet 6) (bOf (mBin dNotIn (mVar 6) (mVar 2))) (mVar 6)) (mLst (aNil)))))) <|
  sSeq (sSet 4 (mAnd (mFun fIsi (aCons (mVar 0) (aCons (mC (.ty "int")) (aNil)))) (mAnd (mNot (mFun fIsi (aCons (mVar 0) (aCons (mC (.ty "bool")) (aNil))))) (mBin dLe (mFun fAbs (aCons (mVar 0) (aNil))) (mBin dPow (mC (.int 10)) (mC (.int 18))))))) <|
  sSeq (sSet 5 (mLst (aCons (mCall f_is_name [0] (aCons (mVar 0) (aNil)) (aNil)) (aCons (mCall f_is_name [0] (aNil) (aCons (mVar 0) (aNil))) (aCons (mCall f_is_value [0] (aCons (mVar 0) (aNil)) (aNil)) (aCons (mCall f_is_value [0] (aNil) (aCons (mVar 0) (aNil))) (aNil))))))) <|
  sRet (mAnd (mBin dEq (mFun fRepr (aCons (mVar 5) (aNil))) (mFun fRepr (aCons (mLst (aCons (mVar 3) (aCons (mVar 3) (aCons (mVar 4) (aCons (mVar 4) (aNil)))))) (aNil)))) (mBin dEq (mFun fRepr (aCons (mVar 0) (aNil))) (mVar 1)))
def f__law_right : FX := mDef N__law_right.length m__law_right
abbrev s_law : Stmt := top 14
abbrev N_law : List Str := ["_law_script", "_law_k", "_law_rng_here", "_law_turn"]
abbrev P_law : List Str := ["_law_script"]
def m_law : SX := sSeq (sFor (iFun rng1 (aCons (mFun fMax (aCons (mC (.int 2)) (aCons (mFun fMin (aCons (mC (.int 6)) (aCons (mFun fLen (aCons (mVar 0) (aNil))) (aNil)))) (aNil)))) (aNil))) (gSet 1) (sSeq (sSet 2 (mCall f__law_rng [0, 1] (aCons (mVar 0) (aCons (mVar 1) (aNil))) (aNil))) <|
  sFor (iFun rng1 (aCons (mC (.int 8)) (aNil))) (gSet 3) (sIf (bNot (bTru (mCall f__law_right [0] (aCons (mCallV [("_law_string", f__law_string), ("_law_number", f__law_number), ("_law_other", f__law_other)] (mBin dIx (mLst (aCons (mC (.fn "_law_string")) (aCons (mC (.fn "_law_number")) (aCons (mC (.fn "_law_other")) (aNil))))) (mCall f__law_draw [0, 1] (aCons (mVar 2) (aCons (mC (.int 3)) (aNil))) (aNil))) (aCons (mVar 2) (aNil))) (aNil)) (aNil)))) (sRet (mC (.bl false))) (sNil)))) <|
  sRet (mC (.bl true))
def f_law : FX := mDef N_law.length m_law
structure Txt (K : PySem.W.Frag) (mg : Str → Option Value) : Prop where
  b_abs : mg "abs" = none
  b_all : mg "all" = none
  b_bool : mg "bool" = none
  b_divmod : mg "divmod" = none
  b_int : mg "int" = none
  b_isinstance : mg "isinstance" = none
  b_len : mg "len" = none
  b_max : mg "max" = none
  b_min : mg "min" = none
  b_range : mg "range" = none
  b_repr : mg "repr" = none
  b_str : mg "str" = none
  c_GREATEST_VALUE : ∃ t, mg "GREATEST_VALUE" = some (.int 1000000000000000000 t)
  c_LETTERS : ∃ t, mg "LETTERS" = some (.str "abcdefghijklmnopqrstuvwxyz" t)
  c_MOST_LETTERS : ∃ t, mg "MOST_LETTERS" = some (.int 8 t)
section
variable {P : Program} {w : World} {K : PySem.W.Frag} {mg : Str → Option Value} {base : Heap}
theorem sc__law_rng : FnScope N__law_rng P__law_rng (defScope s__law_rng) := ⟨rfl, rfl, rfl, by decide +kernel, rfl, by decide +kernel, by decide +kernel⟩
theorem d__law_rng {fa : Addr} {fd : FuncData} (T : Txt K mg) (F : Fun K "_law_rng" "_law_rng" s__law_rng fa fd) (hm : mg "_law_rng" = some (.ref fa)) : DefOk P w K mg base 1 "_law_rng" s__law_rng P__law_rng f__law_rng := by
  refine ⟨fa, "_law_rng", fd, F, hm, fn_ok F sc__law_rng fun cdv A outer s H E hg hr => ?_⟩
  unfold m__law_rng
  exact pss_consM (ps_setM (ps_set (i := 2) sc__law_rng.nd rfl (by first | exact .inl rfl | exact .inr rfl) (pm_ifE (pb_cmp or_lt lt_m (pm_var (pv 1)) (pm_callB or_len len_m T.b_len (by decide +kernel) (pam_cons (pm_var (pv 0)) (pam_nil)))) (pm_ix (pm_var (pv 0)) (pm_var (pv 1))) (pm_op or_add add_m (pm_op or_mul mul_m (pm_int) (pm_var (pv 1))) (pm_int)))) (fun _ _ _ h => h)) <|
    pss_oneM (ps_retM (pm_box (pn_lst (pam_cons (pm_callB (call_max2 rfl) max_m T.b_max (by decide +kernel) (pam_cons (pm_int) (pam_cons (pm_op op_sub sub_m (pm_callB call_abs abs_m T.b_abs (by decide +kernel) (pam_cons (pm_var (pv 2)) (pam_nil))) (pm_op op_pow pow_m (pm_int) (pm_int))) (pam_nil)))) (pam_cons (pm_op or_add add_m (pm_op or_add add_m (pm_op op_modN mod_m (pm_callB call_abs abs_m T.b_abs (by decide +kernel) (pam_cons (pm_var (pv 2)) (pam_nil))) (pm_int)) (pm_op or_mul mul_m (pm_int) (pm_var (pv 1)))) (pm_int)) (pam_nil))))))
theorem sc__law_draw : FnScope N__law_draw P__law_draw (defScope s__law_draw) := ⟨rfl, rfl, rfl, by decide +kernel, rfl, by decide +kernel, by decide +kernel⟩
theorem d__law_draw {fa : Addr} {fd : FuncData} (T : Txt K mg) (F : Fun K "_law_draw" "_law_draw" s__law_draw fa fd) (hm : mg "_law_draw" = some (.ref fa)) : DefOk P w K mg base 1 "_law_draw" s__law_draw P__law_draw f__law_draw := by
  refine ⟨fa, "_law_draw", fd, F, hm, fn_ok F sc__law_draw fun cdv A outer s H E hg hr => ?_⟩
  unfold m__law_draw
  exact pss_consM (ps_ifM (pb_cmp or_gt gt_m (pm_ix (pm_var (pv 0)) (pm_int)) (pm_int)) (pss_consM (ps_asgM (pm_callB call_divmod divmod_m T.b_divmod (by decide +kernel) (pam_cons (pm_ix (pm_var (pv 0)) (pm_int)) (pam_cons (pm_var (pv 1)) (pam_nil)))) (pg_unpM (n := 2) rfl (pgs_consM (pg_ixM (W := W0) (pm_var (pv 0)) (pm_int)) (pgs_consM (pg_nameM (pg_name (i := 2) sc__law_draw.nd rfl (by first | exact .inl rfl | exact .inr rfl))) (pgs_nilM))) (glen_cons (glen_cons (glen_nil))))) <|
    pss_oneM (ps_retM (pm_var (pv 2)))) (pss_nilM)) <|
    pss_consM (ps_asgM (pm_op op_modN mod_m (pm_op or_add add_m (pm_op or_mul mul_m (pm_ix (pm_var (pv 0)) (pm_int)) (pm_int)) (pm_int)) (pm_int)) (pg_ixM (W := W0) (pm_var (pv 0)) (pm_int))) <|
    pss_oneM (ps_retM (pm_op op_modN mod_m (pm_op op_fdivN fdiv_m (pm_op op_modN mod_m (pm_op or_mul mul_m (pm_ix (pm_var (pv 0)) (pm_int)) (pm_ix (pm_var (pv 0)) (pm_int))) (pm_int)) (pm_int)) (pm_var (pv 1))))
theorem sc__law_string : FnScope N__law_string P__law_string (defScope s__law_string) := ⟨rfl, rfl, rfl, by decide +kernel, rfl, by decide +kernel, by decide +kernel⟩
theorem d__law_string {fa : Addr} {fd : FuncData} (T : Txt K mg) (F : Fun K "_law_string" "_law_string" s__law_string fa fd) (hm : mg "_law_string" = some (.ref fa)) (D__law_draw : DefOk P w K mg base 1 "_law_draw" s__law_draw P__law_draw f__law_draw) : DefOk P w K mg base 2 "_law_string" s__law_string P__law_string f__law_string := by
  refine ⟨fa, "_law_string", fd, F, hm, fn_ok F sc__law_string fun cdv A outer s H E hg hr => ?_⟩
  unfold m__law_string
  exact pss_consM (ps_setM (ps_set (i := 1) sc__law_string.nd rfl (by first | exact .inl rfl | exact .inr rfl) (pm_op or_add add_m (pm_op or_mul mul_m (pm_str) (pm_int)) (pm_str))) (fun _ _ _ h => h)) <|
    pss_oneM (ps_retM (pm_methS PySem.F.slot_str_join PySem.F.type_str_join mt_join join_m (pm_str) (pam_cons (pm_of (pn_lc (own := [("_law_turn", 2)]) rfl sc__law_string.nd (pim_rng1 T.b_range (pam_cons (pm_call (ks := []) (idx := [0, 1]) (n := 2) D__law_draw hg hr (by decide) (takes_of rfl rfl rfl rfl) (fun _ _ _ _ _ _ _ us ws hu hw => match us, ws, hu, hw with | [_, _], [], _, _ => rfl) (pam_cons (pm_var (pv 0)) (pam_cons (pm_int) (pam_nil))) (pkm_nil) (alen_cons (alen_cons (alen_nil))) (alen_nil) (fun vs zs hv hz => match vs, zs, hv, hz with | [_, _], [], _, _ => rfl)) (pam_nil))) (blkOk_by (N := N__law_string) (sc := defScope s__law_string) (by decide +kernel)) ⟨fun _ _ _ _ _ => pg_name (i := 2) sc__law_string.nd rfl (by first | exact .inl rfl | exact .inr rfl), bg_name, fun _ _ _ _ _ => PTs_imp pts_nil fun σ H Q h => bm_true h, fun _ _ _ _ _ => pm_ix (pm_var (pv 1)) (pm_call (ks := []) (idx := [0, 1]) (n := 2) D__law_draw hg hr (by decide) takes0 (fun _ _ _ _ _ _ _ us ws hu hw => match us, ws, hu, hw with | [_, _], [], _, _ => rfl) (pam_cons (pm_var (pv 0)) (pam_cons (pm_callB or_len len_m T.b_len (by decide +kernel) (pam_cons (pm_var (pv 1)) (pam_nil))) (pam_nil))) (pkm_nil) (alen_cons (alen_cons (alen_nil))) (alen_nil) (fun vs zs hv hz => match vs, zs, hv, hz with | [_, _], [], _, _ => rfl))⟩)) (pam_nil))))
theorem sc__law_number : FnScope N__law_number P__law_number (defScope s__law_number) := ⟨rfl, rfl, rfl, by decide +kernel, rfl, by decide +kernel, by decide +kernel⟩
theorem d__law_number {fa : Addr} {fd : FuncData} (T : Txt K mg) (F : Fun K "_law_number" "_law_number" s__law_number fa fd) (hm : mg "_law_number" = some (.ref fa)) (D__law_draw : DefOk P w K mg base 1 "_law_draw" s__law_draw P__law_draw f__law_draw) : DefOk P w K mg base 2 "_law_number" s__law_number P__law_number f__law_number := by
  refine ⟨fa, "_law_number", fd, F, hm, fn_ok F sc__law_number fun cdv A outer s H E hg hr => ?_⟩
  unfold m__law_number
  exact pss_consM (ps_setM (ps_set (i := 1) sc__law_number.nd rfl (by first | exact .inl rfl | exact .inr rfl) (pm_ix (pm_of (pn_lst (pam_cons (pm_int) (pam_cons (pm_int) (pam_cons (pm_op op_pow pow_m (pm_int) (pm_int)) (pam_cons (pm_un un_neg neg_m (pm_op op_pow pow_m (pm_int) (pm_int))) (pam_cons (pm_op op_pow pow_m (pm_int) (pm_int)) (pam_cons (pm_op op_pow pow_m (pm_int) (pm_int)) (pam_nil))))))))) (pm_call (ks := []) (idx := [0, 1]) (n := 2) D__law_draw hg hr (by decide) (takes_of rfl rfl rfl rfl) (fun _ _ _ _ _ _ _ us ws hu hw => match us, ws, hu, hw with | [_, _], [], _, _ => rfl) (pam_cons (pm_var (pv 0)) (pam_cons (pm_int) (pam_nil))) (pkm_nil) (alen_cons (alen_cons (alen_nil))) (alen_nil) (fun vs zs hv hz => match vs, zs, hv, hz with | [_, _], [], _, _ => rfl)))) (fun _ _ _ h => h)) <|
    pss_oneM (ps_retM (pm_op or_add add_m (pm_var (pv 1)) (pm_ix (pm_of (pn_lst (pam_cons (pm_int) (pam_cons (pm_int) (pam_cons (pm_un un_neg neg_m (pm_int)) (pam_cons (pm_call (ks := []) (idx := [0, 1]) (n := 2) D__law_draw hg hr (by decide) (takes_of rfl rfl rfl rfl) (fun _ _ _ _ _ _ _ us ws hu hw => match us, ws, hu, hw with | [_, _], [], _, _ => rfl) (pam_cons (pm_var (pv 0)) (pam_cons (pm_op op_pow pow_m (pm_int) (pm_int)) (pam_nil))) (pkm_nil) (alen_cons (alen_cons (alen_nil))) (alen_nil) (fun vs zs hv hz => match vs, zs, hv, hz with | [_, _], [], _, _ => rfl)) (pam_nil))))))) (pm_call (ks := []) (idx := [0, 1]) (n := 2) D__law_draw hg hr (by decide) (takes_of rfl rfl rfl rfl) (fun _ _ _ _ _ _ _ us ws hu hw => match us, ws, hu, hw with | [_, _], [], _, _ => rfl) (pam_cons (pm_var (pv 0)) (pam_cons (pm_int) (pam_nil))) (pkm_nil) (alen_cons (alen_cons (alen_nil))) (alen_nil) (fun vs zs hv hz => match vs, zs, hv, hz with | [_, _], [], _, _ => rfl)))))
theorem sc__law_other : FnScope N__law_other P__law_other (defScope s__law_other) := ⟨rfl, rfl, rfl, by decide +kernel, rfl, by decide +kernel, by decide +kernel⟩
theorem d__law_other {fa : Addr} {fd : FuncData} (T : Txt K mg) (F : Fun K "_law_other" "_law_other" s__law_other fa fd) (hm : mg "_law_other" = some (.ref fa)) (D__law_draw : DefOk P w K mg base 1 "_law_draw" s__law_draw P__law_draw f__law_draw) : DefOk P w K mg base 2 "_law_other" s__law_other P__law_other f__law_other := by
  refine ⟨fa, "_law_other", fd, F, hm, fn_ok F sc__law_other fun cdv A outer s H E hg hr => ?_⟩
  unfold m__law_other
  exact pss_consM (ps_setM (ps_set (i := 1) sc__law_other.nd rfl (by first | exact .inl rfl | exact .inr rfl) (pm_of (pn_lst (pam_cons (pm_non) (pam_cons (pm_bl) (pam_cons (pm_bl) (pam_cons (pm_tup (pam_nil)) (pam_cons (pm_of (pn_lst (pam_nil))) (pam_cons (pm_of (pn_dct0)) (pam_cons (pm_tup (pam_cons (pm_str) (pam_nil))) (pam_cons (pm_of (pn_lst (pam_cons (pm_str) (pam_nil)))) (pam_cons (pm_of (pn_dct (ms := [((mC (.str "a")), (mC (.int 1)))]) (pps_cons (pm_str) (pm_int) (pps_nil)))) (pam_cons (pm_tup (pam_cons (pm_int) (pam_nil))) (pam_cons (pm_of (pn_lst (pam_cons (pm_int) (pam_nil)))) (pam_cons (pm_str) (pam_cons (pm_str) (pam_cons (pm_int) (pam_cons (pm_tup (pam_cons (pm_tup (pam_nil)) (pam_nil))) (pam_nil))))))))))))))))))) (fun _ _ _ h => h)) <|
    pss_consM (ps_setM (ps_set (i := 1) sc__law_other.nd rfl (by first | exact .inl rfl | exact .inr rfl) (pm_op or_add add_m (pm_var (pv 1)) (pm_of (pn_lst (pam_cons (pm_str) (pam_cons (pm_str) (pam_nil))))))) (fun _ _ _ h => h)) <|
    pss_oneM (ps_retM (pm_ix (pm_var (pv 1)) (pm_call (ks := []) (idx := [0, 1]) (n := 2) D__law_draw hg hr (by decide) (takes_of rfl rfl rfl rfl) (fun _ _ _ _ _ _ _ us ws hu hw => match us, ws, hu, hw with | [_, _], [], _, _ => rfl) (pam_cons (pm_var (pv 0)) (pam_cons (pm_callB or_len len_m T.b_len (by decide +kernel) (pam_cons (pm_var (pv 1)) (pam_nil))) (pam_nil))) (pkm_nil) (alen_cons (alen_cons (alen_nil))) (alen_nil) (fun vs zs hv hz => match vs, zs, hv, hz with | [_, _], [], _, _ => rfl))))
theorem sc_is_name : FnScope N_is_name P_is_name (defScope s_is_name) := ⟨rfl, rfl, rfl, by decide +kernel, rfl, by decide +kernel, by decide +kernel⟩
theorem d_is_name {fa : Addr} {fd : FuncData} (T : Txt K mg) (F : Fun K "is_name" "is_name" s_is_name fa fd) (hm : mg "is_name" = some (.ref fa)) : DefOk P w K mg base 1 "is_name" s_is_name P_is_name f_is_name := by
  obtain ⟨t_LETTERS, g_LETTERS⟩ := T.c_LETTERS
  obtain ⟨t_MOST_LETTERS, g_MOST_LETTERS⟩ := T.c_MOST_LETTERS
  refine ⟨fa, "is_name", fd, F, hm, fn_ok F sc_is_name fun cdv A outer s H E hg hr => ?_⟩
  unfold m_is_name
  exact pss_consM (ps_ifM (pb_w (pbw_or (pb_not (pb_val (pm_callB call_isi isi_m T.b_isinstance (by decide +kernel) (pam_cons (pm_var (pv 0)) (pam_cons (pm_ty T.b_str (by decide +kernel)) (pam_nil)))))) (pbw_or1 (pb_not (pb_chain or_le le_m or_le le_m (pm_int) (pm_callB or_len len_m T.b_len (by decide +kernel) (pam_cons (pm_var (pv 0)) (pam_nil))) (pm_glob (v := .int 8) g_MOST_LETTERS ⟨_, rfl⟩ (fun _ _ _ => .int _))))))) (pss_oneM (ps_retM (pm_bl))) (pss_nilM)) <|
    pss_oneM (ps_retM (pm_callB (cr_all rfl) all_m T.b_all (by decide +kernel) (pam_cons (pm_of (pn_lc (own := [("letter", 1)]) rfl sc_is_name.nd (pim_seq (pm_var (pv 0))) (blkOk_by (N := N_is_name) (sc := defScope s_is_name) (by decide +kernel)) ⟨fun _ _ _ _ _ => pg_name (i := 1) sc_is_name.nd rfl (by first | exact .inl rfl | exact .inr rfl), bg_name, fun _ _ _ _ _ => PTs_imp pts_nil fun σ H Q h => bm_true h, fun _ _ _ _ _ => pm_cmp (or_in (hu65 hr)) in_m (pm_var (pv 1)) (pm_glob (v := .str "abcdefghijklmnopqrstuvwxyz") g_LETTERS ⟨_, rfl⟩ (fun _ _ _ => .str _)) (by with_unfolding_all rfl)⟩)) (pam_nil))))
theorem sc_is_integer : FnScope N_is_integer P_is_integer (defScope s_is_integer) := ⟨rfl, rfl, rfl, by decide +kernel, rfl, by decide +kernel, by decide +kernel⟩
theorem d_is_integer {fa : Addr} {fd : FuncData} (T : Txt K mg) (F : Fun K "is_integer" "is_integer" s_is_integer fa fd) (hm : mg "is_integer" = some (.ref fa)) : DefOk P w K mg base 1 "is_integer" s_is_integer P_is_integer f_is_integer := by
  refine ⟨fa, "is_integer", fd, F, hm, fn_ok F sc_is_integer fun cdv A outer s H E hg hr => ?_⟩
  unfold m_is_integer
  exact pss_oneM (ps_retM (pm_and (pm_callB call_isi isi_m T.b_isinstance (by decide +kernel) (pam_cons (pm_var (pv 0)) (pam_cons (pm_ty T.b_int (by decide +kernel)) (pam_nil)))) (pm_one (pm_not (pm_callB call_isi isi_m T.b_isinstance (by decide +kernel) (pam_cons (pm_var (pv 0)) (pam_cons (pm_ty T.b_bool (by decide +kernel)) (pam_nil))))))))
theorem sc_is_value : FnScope N_is_value P_is_value (defScope s_is_value) := ⟨rfl, rfl, rfl, by decide +kernel, rfl, by decide +kernel, by decide +kernel⟩
theorem d_is_value {fa : Addr} {fd : FuncData} (T : Txt K mg) (F : Fun K "is_value" "is_value" s_is_value fa fd) (hm : mg "is_value" = some (.ref fa)) (D_is_integer : DefOk P w K mg base 1 "is_integer" s_is_integer P_is_integer f_is_integer) : DefOk P w K mg base 2 "is_value" s_is_value P_is_value f_is_value := by
  obtain ⟨t_GREATEST_VALUE, g_GREATEST_VALUE⟩ := T.c_GREATEST_VALUE
  refine ⟨fa, "is_value", fd, F, hm, fn_ok F sc_is_value fun cdv A outer s H E hg hr => ?_⟩
  unfold m_is_value
  exact pss_oneM (ps_retM (pm_and (pm_call (ks := []) (idx := [0]) (n := 1) D_is_integer hg hr (by decide) (takes_of rfl rfl rfl rfl) (fun _ _ _ _ _ _ _ us ws hu hw => match us, ws, hu, hw with | [_], [], _, _ => rfl) (pam_cons (pm_var (pv 0)) (pam_nil)) (pkm_nil) (alen_cons (alen_nil)) (alen_nil) (fun vs zs hv hz => match vs, zs, hv, hz with | [_], [], _, _ => rfl)) (pm_one (pm_chain or_le le_m or_le le_m (pm_un un_neg neg_m (pm_glob (v := .int 1000000000000000000) g_GREATEST_VALUE ⟨_, rfl⟩ (fun _ _ _ => .int _))) (pm_var (pv 0)) (pm_glob (v := .int 1000000000000000000) g_GREATEST_VALUE ⟨_, rfl⟩ (fun _ _ _ => .int _))))))
theorem sc__law_right : FnScope N__law_right P__law_right (defScope s__law_right) := ⟨rfl, rfl, rfl, by decide +kernel, rfl, by decide +kernel, by decide +kernel⟩
theorem d__law_right {fa : Addr} {fd : FuncData} (T : Txt K mg) (F : Fun K "_law_right" "_law_right" s__law_right fa fd) (hm : mg "_law_right" = some (.ref fa)) (D_is_name : DefOk P w K mg base 1 "is_name" s_is_name P_is_name f_is_name) (D_is_value : DefOk P w K mg base 2 "is_value" s_is_value P_is_value f_is_value) : DefOk P w K mg base 3 "_law_right" s__law_right P__law_right f__law_right := by
  refine ⟨fa, "_law_right", fd, F, hm, fn_ok F sc__law_right fun cdv A outer s H E hg hr => ?_⟩
  unfold m__law_right
  exact pss_consM (ps_setM (ps_set (i := 1) sc__law_right.nd rfl (by first | exact .inl rfl | exact .inr rfl) (pm_callB (call_repr hg (hu65 hr)) repr_m T.b_repr (by decide +kernel) (pam_cons (pm_var (pv 0)) (pam_nil)))) (fun _ _ _ h => h)) <|
    pss_consM (ps_setM (ps_set (i := 2) sc__law_right.nd rfl (by first | exact .inl rfl | exact .inr rfl) (pm_str)) (fun _ _ _ h => h)) <|
    pss_consM (ps_setM (ps_set (i := 3) sc__law_right.nd rfl (by first | exact .inl rfl | exact .inr rfl) (pm_and (pm_callB call_isi isi_m T.b_isinstance (by decide +kernel) (pam_cons (pm_var (pv 0)) (pam_cons (pm_ty T.b_str (by decide +kernel)) (pam_nil)))) (pm_and (pm_chain or_lt lt_m or_lt lt_m (pm_int) (pm_callB or_len len_m T.b_len (by decide +kernel) (pam_cons (pm_var (pv 0)) (pam_nil))) (pm_int)) (pm_one (pm_cmp (or_eq (hu64 hr)) eq_m (pm_of (pn_lc (own := [("_law_sign", 6)]) rfl sc__law_right.nd (pim_seq (pm_var (pv 0))) (blkOk_by (N := N__law_right) (sc := defScope s__law_right) (by decide +kernel)) ⟨fun _ _ _ _ _ => pg_name (i := 6) sc__law_right.nd rfl (by first | exact .inl rfl | exact .inr rfl), bg_name, fun _ _ _ _ _ => pts_one (pb_cmp (or_notIn (hu65 hr)) notIn_m (pm_var (pv 6)) (pm_var (pv 2)) (by with_unfolding_all rfl)), fun _ _ _ _ _ => pm_var (pv 6)⟩)) (pm_of (pn_lst (pam_nil)))))))) (fun _ _ _ h => h)) <|
    pss_consM (ps_setM (ps_set (i := 4) sc__law_right.nd rfl (by first | exact .inl rfl | exact .inr rfl) (pm_and (pm_callB call_isi isi_m T.b_isinstance (by decide +kernel) (pam_cons (pm_var (pv 0)) (pam_cons (pm_ty T.b_int (by decide +kernel)) (pam_nil)))) (pm_and (pm_not (pm_callB call_isi isi_m T.b_isinstance (by decide +kernel) (pam_cons (pm_var (pv 0)) (pam_cons (pm_ty T.b_bool (by decide +kernel)) (pam_nil))))) (pm_one (pm_cmp or_le le_m (pm_callB call_abs abs_m T.b_abs (by decide +kernel) (pam_cons (pm_var (pv 0)) (pam_nil))) (pm_op op_pow pow_m (pm_int) (pm_int))))))) (fun _ _ _ h => h)) <|
    pss_consM (ps_setM (ps_set (i := 5) sc__law_right.nd rfl (by first | exact .inl rfl | exact .inr rfl) (pm_of (pn_lst (pam_cons (pm_call (ks := []) (idx := [0]) (n := 1) D_is_name hg hr (by decide) (takes_of rfl rfl rfl rfl) (fun _ _ _ _ _ _ _ us ws hu hw => match us, ws, hu, hw with | [_], [], _, _ => rfl) (pam_cons (pm_var (pv 0)) (pam_nil)) (pkm_nil) (alen_cons (alen_nil)) (alen_nil) (fun vs zs hv hz => match vs, zs, hv, hz with | [_], [], _, _ => rfl)) (pam_cons (pm_callK (ks := ["value"]) (idx := [0]) D_is_name hg hr (by decide) (takes_of rfl rfl rfl rfl) (fun _ _ _ _ _ _ _ us ws hu hw => match us, ws, hu, hw with | [], [_], _, _ => rfl) (pkm_cons (pm_var (pv 0)) (pkm_nil)) (alen_cons (alen_nil)) (fun vs zs hv hz => match vs, zs, hv, hz with | [], [_], _, _ => rfl)) (pam_cons (pm_call (ks := []) (idx := [0]) (n := 1) D_is_value hg hr (by decide) (takes_of rfl rfl rfl rfl) (fun _ _ _ _ _ _ _ us ws hu hw => match us, ws, hu, hw with | [_], [], _, _ => rfl) (pam_cons (pm_var (pv 0)) (pam_nil)) (pkm_nil) (alen_cons (alen_nil)) (alen_nil) (fun vs zs hv hz => match vs, zs, hv, hz with | [_], [], _, _ => rfl)) (pam_cons (pm_callK (ks := ["value"]) (idx := [0]) D_is_value hg hr (by decide) (takes_of rfl rfl rfl rfl) (fun _ _ _ _ _ _ _ us ws hu hw => match us, ws, hu, hw with | [], [_], _, _ => rfl) (pkm_cons (pm_var (pv 0)) (pkm_nil)) (alen_cons (alen_nil)) (fun vs zs hv hz => match vs, zs, hv, hz with | [], [_], _, _ => rfl)) (pam_nil)))))))) (fun _ _ _ h => h)) <|
    pss_oneM (ps_retM (pm_and (pm_cmp (or_eq (hu64 hr)) eq_m (pm_callB (call_repr hg (hu65 hr)) repr_m T.b_repr (by decide +kernel) (pam_cons (pm_var (pv 5)) (pam_nil))) (pm_callB (call_repr hg (hu65 hr)) repr_m T.b_repr (by decide +kernel) (pam_cons (pm_of (pn_lst (pam_cons (pm_var (pv 3)) (pam_cons (pm_var (pv 3)) (pam_cons (pm_var (pv 4)) (pam_cons (pm_var (pv 4)) (pam_nil))))))) (pam_nil)))) (pm_one (pm_cmp (or_eq (hu64 hr)) eq_m (pm_callB (call_repr hg (hu65 hr)) repr_m T.b_repr (by decide +kernel) (pam_cons (pm_var (pv 0)) (pam_nil))) (pm_var (pv 1))))))
theorem sc_law : FnScope N_law P_law (defScope s_law) := ⟨rfl, rfl, rfl, by decide +kernel, rfl, by decide +kernel, by decide +kernel⟩
theorem d_law {fa : Addr} {fd : FuncData} (T : Txt K mg) (F : Fun K "law" "law" s_law fa fd) (hm : mg "law" = some (.ref fa)) (D__law_rng : DefOk P w K mg base 1 "_law_rng" s__law_rng P__law_rng f__law_rng) (D__law_draw : DefOk P w K mg base 1 "_law_draw" s__law_draw P__law_draw f__law_draw) (D__law_string : DefOk P w K mg base 2 "_law_string" s__law_string P__law_string f__law_string) (D__law_number : DefOk P w K mg base 2 "_law_number" s__law_number P__law_number f__law_number) (D__law_other : DefOk P w K mg base 2 "_law_other" s__law_other P__law_other f__law_other) (D__law_right : DefOk P w K mg base 3 "_law_right" s__law_right P__law_right f__law_right) : DefOk P w K mg base 4 "law" s_law P_law f_law := by
  refine ⟨fa, "law", fd, F, hm, fn_ok F sc_law fun cdv A outer s H E hg hr => ?_⟩
  unfold m_law
  exact pss_consM (ps_forM (passes_of rfl) rfl (pim_rng1 T.b_range (pam_cons (pm_callB (call_max2 rfl) max_m T.b_max (by decide +kernel) (pam_cons (pm_int) (pam_cons (pm_callB (call_min2 rfl) min_m T.b_min (by decide +kernel) (pam_cons (pm_int) (pam_cons (pm_callB or_len len_m T.b_len (by decide +kernel) (pam_cons (pm_var (pv 0)) (pam_nil))) (pam_nil)))) (pam_nil)))) (pam_nil))) (pg_nameM (pg_name (i := 1) sc_law.nd rfl (by first | exact .inl rfl | exact .inr rfl))) (pss_consM (ps_setM (ps_set (i := 2) sc_law.nd rfl (by first | exact .inl rfl | exact .inr rfl) (pm_call (ks := []) (idx := [0, 1]) (n := 2) D__law_rng hg hr (by decide) (takes_of rfl rfl rfl rfl) (fun _ _ _ _ _ _ _ us ws hu hw => match us, ws, hu, hw with | [_, _], [], _, _ => rfl) (pam_cons (pm_var (pv 0)) (pam_cons (pm_var (pv 1)) (pam_nil))) (pkm_nil) (alen_cons (alen_cons (alen_nil))) (alen_nil) (fun vs zs hv hz => match vs, zs, hv, hz with | [_, _], [], _, _ => rfl))) (fun _ _ _ h => h)) <|
    pss_oneM (ps_forM (passes_of rfl) rfl (pim_rng1 T.b_range (pam_cons (pm_int) (pam_nil))) (pg_nameM (pg_name (i := 3) sc_law.nd rfl (by first | exact .inl rfl | exact .inr rfl))) (pss_oneM (ps_ifM (pb_not (pb_val (pm_call (ks := []) (idx := [0]) (n := 1) D__law_right hg hr (by decide) (takes_of rfl rfl rfl rfl) (fun _ _ _ _ _ _ _ us ws hu hw => match us, ws, hu, hw with | [_], [], _, _ => rfl) (pam_cons (pm_callV (T := [("_law_string", f__law_string), ("_law_number", f__law_number), ("_law_other", f__law_other)]) (k := 2) (n := 1) (lookCons ⟨_, _, (D__law_string).mono (by decide), (fun _ _ _ _ _ _ _ us ws hu hw => match us, ws, hu, hw with | [_], [], _, _ => rfl), rfl⟩ (lookCons ⟨_, _, (D__law_number).mono (by decide), (fun _ _ _ _ _ _ _ us ws hu hw => match us, ws, hu, hw with | [_], [], _, _ => rfl), rfl⟩ (lookCons ⟨_, _, (D__law_other).mono (by decide), (fun _ _ _ _ _ _ _ us ws hu hw => match us, ws, hu, hw with | [_], [], _, _ => rfl), rfl⟩ (lookNil)))) hg hr (by decide) (takes_of rfl rfl rfl rfl) (pm_ix (pm_of (pn_lst (pam_cons (pm_fn D__law_string) (pam_cons (pm_fn D__law_number) (pam_cons (pm_fn D__law_other) (pam_nil)))))) (pm_call (ks := []) (idx := [0, 1]) (n := 2) D__law_draw hg hr (by decide) (takes_of rfl rfl rfl rfl) (fun _ _ _ _ _ _ _ us ws hu hw => match us, ws, hu, hw with | [_, _], [], _, _ => rfl) (pam_cons (pm_var (pv 2)) (pam_cons (pm_int) (pam_nil))) (pkm_nil) (alen_cons (alen_cons (alen_nil))) (alen_nil) (fun vs zs hv hz => match vs, zs, hv, hz with | [_, _], [], _, _ => rfl))) (pam_cons (pm_var (pv 2)) (pam_nil)) (alen_cons (alen_nil))) (pam_nil)) (pkm_nil) (alen_cons (alen_nil)) (alen_nil) (fun vs zs hv hz => match vs, zs, hv, hz with | [_], [], _, _ => rfl)))) (pss_oneM (ps_retM (pm_bl))) (pss_nilM)))))) <|
    pss_oneM (ps_retM (pm_bl))
end
theorem all_mk {w : World} {P : Program} {K : PySem.W.Frag} {h : Heap} {mg : Str → Option Value} {fa f0 f1 f2 f3 f4 f5 f6 f7 f8 f9 : Addr} (X : K.In h) (G : h.Ns mainGlobals mg) (hfa : mg "law" = some (.ref fa))
    {od0 an0 od1 an1 od2 an2 od3 an3 od4 an4 od5 an5 od6 an6 od7 an7 od8 an8 od9 an9 : Option Addr} {sl0 sl1 sl2 sl3 sl4 sl5 sl6 sl7 sl8 sl9 : Array (Option Value)} {oc0 kV0 dc0 pm0 cd0 ct0 oc1 kV1 dc1 pm1 cd1 ct1 oc2 kV2 dc2 pm2 cd2 ct2 oc3 kV3 dc3 pm3 cd3 ct3 oc4 kV4 dc4 pm4 cd4 ct4 oc5 kV5 dc5 pm5 cd5 ct5 oc6 kV6 dc6 pm6 cd6 ct6 oc7 kV7 dc7 pm7 cd7 ct7 oc8 kV8 dc8 pm8 cd8 ct8 oc9 kV9 dc9 pm9 cd9 ct9 : Value} {t_GREATEST_VALUE t_LETTERS t_MOST_LETTERS : Tok}
    (a0 : PySem.W.nsIn K mainGlobals "_law_rng" = some (some (.ref f0))) (l0 : K.lookup f0 = some ⟨oc0, od0, .func (PySem.W.fnOf "_law_rng" "_law_rng" (defArgs s__law_rng) (defBody s__law_rng) (defScope s__law_rng) .none kV0 dc0 pm0 an0 cd0 ct0), sl0⟩) (c0 : PySem.W.codeIn K cd0 "_law_rng" = true) (k0 : PySem.W.keepIn K (.ref f0) = true)
    (a1 : PySem.W.nsIn K mainGlobals "_law_draw" = some (some (.ref f1))) (l1 : K.lookup f1 = some ⟨oc1, od1, .func (PySem.W.fnOf "_law_draw" "_law_draw" (defArgs s__law_draw) (defBody s__law_draw) (defScope s__law_draw) .none kV1 dc1 pm1 an1 cd1 ct1), sl1⟩) (c1 : PySem.W.codeIn K cd1 "_law_draw" = true) (k1 : PySem.W.keepIn K (.ref f1) = true)
    (a2 : PySem.W.nsIn K mainGlobals "_law_string" = some (some (.ref f2))) (l2 : K.lookup f2 = some ⟨oc2, od2, .func (PySem.W.fnOf "_law_string" "_law_string" (defArgs s__law_string) (defBody s__law_string) (defScope s__law_string) .none kV2 dc2 pm2 an2 cd2 ct2), sl2⟩) (c2 : PySem.W.codeIn K cd2 "_law_string" = true) (k2 : PySem.W.keepIn K (.ref f2) = true)
    (a3 : PySem.W.nsIn K mainGlobals "_law_number" = some (some (.ref f3))) (l3 : K.lookup f3 = some ⟨oc3, od3, .func (PySem.W.fnOf "_law_number" "_law_number" (defArgs s__law_number) (defBody s__law_number) (defScope s__law_number) .none kV3 dc3 pm3 an3 cd3 ct3), sl3⟩) (c3 : PySem.W.codeIn K cd3 "_law_number" = true) (k3 : PySem.W.keepIn K (.ref f3) = true)
    (a4 : PySem.W.nsIn K mainGlobals "_law_other" = some (some (.ref f4))) (l4 : K.lookup f4 = some ⟨oc4, od4, .func (PySem.W.fnOf "_law_other" "_law_other" (defArgs s__law_other) (defBody s__law_other) (defScope s__law_other) .none kV4 dc4 pm4 an4 cd4 ct4), sl4⟩) (c4 : PySem.W.codeIn K cd4 "_law_other" = true) (k4 : PySem.W.keepIn K (.ref f4) = true)
    (a5 : PySem.W.nsIn K mainGlobals "is_name" = some (some (.ref f5))) (l5 : K.lookup f5 = some ⟨oc5, od5, .func (PySem.W.fnOf "is_name" "is_name" (defArgs s_is_name) (defBody s_is_name) (defScope s_is_name) .none kV5 dc5 pm5 an5 cd5 ct5), sl5⟩) (c5 : PySem.W.codeIn K cd5 "is_name" = true) (k5 : PySem.W.keepIn K (.ref f5) = true)
    (a6 : PySem.W.nsIn K mainGlobals "is_integer" = some (some (.ref f6))) (l6 : K.lookup f6 = some ⟨oc6, od6, .func (PySem.W.fnOf "is_integer" "is_integer" (defArgs s_is_integer) (defBody s_is_integer) (defScope s_is_integer) .none kV6 dc6 pm6 an6 cd6 ct6), sl6⟩) (c6 : PySem.W.codeIn K cd6 "is_integer" = true) (k6 : PySem.W.keepIn K (.ref f6) = true)
    (a7 : PySem.W.nsIn K mainGlobals "is_value" = some (some (.ref f7))) (l7 : K.lookup f7 = some ⟨oc7, od7, .func (PySem.W.fnOf "is_value" "is_value" (defArgs s_is_value) (defBody s_is_value) (defScope s_is_value) .none kV7 dc7 pm7 an7 cd7 ct7), sl7⟩) (c7 : PySem.W.codeIn K cd7 "is_value" = true) (k7 : PySem.W.keepIn K (.ref f7) = true)
    (a8 : PySem.W.nsIn K mainGlobals "_law_right" = some (some (.ref f8))) (l8 : K.lookup f8 = some ⟨oc8, od8, .func (PySem.W.fnOf "_law_right" "_law_right" (defArgs s__law_right) (defBody s__law_right) (defScope s__law_right) .none kV8 dc8 pm8 an8 cd8 ct8), sl8⟩) (c8 : PySem.W.codeIn K cd8 "_law_right" = true) (k8 : PySem.W.keepIn K (.ref f8) = true)
    (a9 : PySem.W.nsIn K mainGlobals "law" = some (some (.ref f9))) (l9 : K.lookup f9 = some ⟨oc9, od9, .func (PySem.W.fnOf "law" "law" (defArgs s_law) (defBody s_law) (defScope s_law) .none kV9 dc9 pm9 an9 cd9 ct9), sl9⟩) (c9 : PySem.W.codeIn K cd9 "law" = true) (k9 : PySem.W.keepIn K (.ref f9) = true)
    (z_abs : PySem.W.nsIn K mainGlobals "abs" = some none)
    (z_all : PySem.W.nsIn K mainGlobals "all" = some none)
    (z_bool : PySem.W.nsIn K mainGlobals "bool" = some none)
    (z_divmod : PySem.W.nsIn K mainGlobals "divmod" = some none)
    (z_int : PySem.W.nsIn K mainGlobals "int" = some none)
    (z_isinstance : PySem.W.nsIn K mainGlobals "isinstance" = some none)
    (z_len : PySem.W.nsIn K mainGlobals "len" = some none)
    (z_max : PySem.W.nsIn K mainGlobals "max" = some none)
    (z_min : PySem.W.nsIn K mainGlobals "min" = some none)
    (z_range : PySem.W.nsIn K mainGlobals "range" = some none)
    (z_repr : PySem.W.nsIn K mainGlobals "repr" = some none)
    (z_str : PySem.W.nsIn K mainGlobals "str" = some none)
    (q_GREATEST_VALUE : PySem.W.nsIn K mainGlobals "GREATEST_VALUE" = some (some (.int 1000000000000000000 t_GREATEST_VALUE)))
    (q_LETTERS : PySem.W.nsIn K mainGlobals "LETTERS" = some (some (.str "abcdefghijklmnopqrstuvwxyz" t_LETTERS)))
    (q_MOST_LETTERS : PySem.W.nsIn K mainGlobals "MOST_LETTERS" = some (some (.int 8 t_MOST_LETTERS)))
    : ∃ fd : FuncData, (∀ (s : Shared) (v : Value), BindsTo s fd ⟨[v], []⟩ [("_law_script", v)]) ∧ ∀ base : Heap, K.In base → base.Ns mainGlobals mg → FnG P w K mg base 4 fa fd P_law (spM ⟨K, mg, w⟩ 1 f_law) := by
  have e := hfa.symm.trans (PySem.W.mg_of X G a9)
  cases e
  have T : Txt K mg := ⟨PySem.W.mg_none_of X G z_abs, PySem.W.mg_none_of X G z_all, PySem.W.mg_none_of X G z_bool, PySem.W.mg_none_of X G z_divmod, PySem.W.mg_none_of X G z_int, PySem.W.mg_none_of X G z_isinstance, PySem.W.mg_none_of X G z_len, PySem.W.mg_none_of X G z_max, PySem.W.mg_none_of X G z_min, PySem.W.mg_none_of X G z_range, PySem.W.mg_none_of X G z_repr, PySem.W.mg_none_of X G z_str, ⟨_, PySem.W.mg_of X G q_GREATEST_VALUE⟩, ⟨_, PySem.W.mg_of X G q_LETTERS⟩, ⟨_, PySem.W.mg_of X G q_MOST_LETTERS⟩⟩
  have F0 := fun_mk (st := s__law_rng) l0 c0 k0
  have F1 := fun_mk (st := s__law_draw) l1 c1 k1
  have F2 := fun_mk (st := s__law_string) l2 c2 k2
  have F3 := fun_mk (st := s__law_number) l3 c3 k3
  have F4 := fun_mk (st := s__law_other) l4 c4 k4
  have F5 := fun_mk (st := s_is_name) l5 c5 k5
  have F6 := fun_mk (st := s_is_integer) l6 c6 k6
  have F7 := fun_mk (st := s_is_value) l7 c7 k7
  have F8 := fun_mk (st := s__law_right) l8 c8 k8
  have F9 := fun_mk (st := s_law) l9 c9 k9
  refine ⟨_, fun s v => .of_eq (fd := PySem.W.fnOf "law" "law" (defArgs s_law) (defBody s_law) (defScope s_law) .none kV9 dc9 pm9 an9 cd9 ct9) rfl, fun base _ _ => ?_⟩
  have e0 : DefOk P w K mg base 1 "_law_rng" s__law_rng P__law_rng f__law_rng := d__law_rng T F0 (PySem.W.mg_of X G a0) 
  have e1 : DefOk P w K mg base 1 "_law_draw" s__law_draw P__law_draw f__law_draw := d__law_draw T F1 (PySem.W.mg_of X G a1) 
  have e2 : DefOk P w K mg base 2 "_law_string" s__law_string P__law_string f__law_string := d__law_string T F2 (PySem.W.mg_of X G a2) e1
  have e3 : DefOk P w K mg base 2 "_law_number" s__law_number P__law_number f__law_number := d__law_number T F3 (PySem.W.mg_of X G a3) e1
  have e4 : DefOk P w K mg base 2 "_law_other" s__law_other P__law_other f__law_other := d__law_other T F4 (PySem.W.mg_of X G a4) e1
  have e5 : DefOk P w K mg base 1 "is_name" s_is_name P_is_name f_is_name := d_is_name T F5 (PySem.W.mg_of X G a5) 
  have e6 : DefOk P w K mg base 1 "is_integer" s_is_integer P_is_integer f_is_integer := d_is_integer T F6 (PySem.W.mg_of X G a6) 
  have e7 : DefOk P w K mg base 2 "is_value" s_is_value P_is_value f_is_value := d_is_value T F7 (PySem.W.mg_of X G a7) e6
  have e8 : DefOk P w K mg base 3 "_law_right" s__law_right P__law_right f__law_right := d__law_right T F8 (PySem.W.mg_of X G a8) e5 e7
  have e9 : DefOk P w K mg base 4 "law" s_law P_law f_law := d_law T F9 (PySem.W.mg_of X G a9) e0 e1 e2 e3 e4 e8
  obtain ⟨fb, qual, fd, Fq, hm, Gq⟩ := e9
  have ee := hfa.symm.trans hm
  cases ee
  exact fd_same F9 Fq Gq
end K11

namespace K11
open PySem PySem.Spec PyProof.Rows L2 Mi

theorem draw_f : f__law_draw = mDef 3 drawS := rfl
theorem rng_f : f__law_rng = mDef 3 rngS := rfl
theorem draw_k {S : Store} {n : Nat} {m : Int} (h : RngAt S n) (h0 : 0 < m) (h1 : m < 1073741824) : ∃ d S', f__law_draw [.ref n, .int m] S = .ok (.int d) S' ∧ 0 ≤ d ∧ d < m ∧ RngAt S' n := by
  obtain ⟨d, S', e, h1, h2, h3, _⟩ := draw_ok h h0 h1
  exact ⟨d, S', by rw [draw_f]; exact e, h1, h2, h3⟩
theorem at_mem {xs : List D} {i : Int} (h0 : 0 ≤ i) (h1 : i < xs.length) : ∃ x, atI xs i = some x ∧ x ∈ xs := by
  have hi : i.toNat < xs.length := by omega
  refine ⟨xs[i.toNat], ?_, List.getElem_mem hi⟩
  unfold atI ixN
  rw [if_pos h0, if_pos h1]
  exact List.getElem?_eq_getElem hi
/-! strings -/
def signs : Str := strRep "abcxyz" 6 ++ "AZ0_ -'\n"
theorem signs_len : signs.length = 44 := by decide +kernel
theorem signs_ok : ∀ c ∈ signs.cps.toList, c < 0x110000 := by decide +kernel
theorem atC {xs : List Nat} {i : Int} (h0 : 0 ≤ i) (h1 : i < xs.length) : ∃ x, atI xs i = some x ∧ x ∈ xs := by
  have hi : i.toNat < xs.length := by omega
  refine ⟨xs[i.toNat], ?_, List.getElem_mem hi⟩
  unfold atI ixN
  rw [if_pos h0, if_pos h1]
  exact List.getElem?_eq_getElem hi
def One (d : D) : Prop := ∃ c, d = .str ⟨#[c]⟩ ∧ c < 0x110000
theorem strs_one : ∀ ys : List D, (∀ y ∈ ys, One y) → ∃ zs : List Str, strsOf ys = some zs ∧ (∀ z ∈ zs, ∃ c, z = ⟨#[c]⟩ ∧ c < 0x110000) ∧ zs.length = ys.length
  | [], _ => ⟨[], rfl, nofun, rfl⟩
  | y :: ys, h => by
    obtain ⟨zs, e, h2, h3⟩ := strs_one ys fun z hz => h z (List.mem_cons_of_mem _ hz)
    obtain ⟨c, rfl, hc⟩ := h y List.mem_cons_self
    refine ⟨⟨#[c]⟩ :: zs, by simp only [strsOf, e], fun z hz => ?_, by simp [h3]⟩
    rcases List.mem_cons.mp hz with rfl | hz
    · exact ⟨c, rfl, hc⟩
    · exact h2 z hz
theorem join_one : ∀ zs : List Str, (∀ z ∈ zs, ∃ c, z = ⟨#[c]⟩ ∧ c < 0x110000) → (Str.join "" zs).length = zs.length ∧ (∀ c ∈ (Str.join "" zs).cps.toList, c < 0x110000) ∧ (zs.map (·.length)).sum = zs.length
  | [], _ => ⟨rfl, nofun, rfl⟩
  | [z], h => by
    obtain ⟨c, rfl, hc⟩ := h z List.mem_cons_self
    refine ⟨rfl, fun x hx => ?_, rfl⟩
    have : x ∈ [c] := hx
    rw [List.mem_singleton.mp this]; exact hc
  | z :: y :: r, h => by
    obtain ⟨c, rfl, hc⟩ := h z List.mem_cons_self
    obtain ⟨h1, h2, h3⟩ := join_one (y :: r) fun x hx => h x (List.mem_cons_of_mem _ hx)
    have e : Str.join "" ((⟨#[c]⟩ : Str) :: y :: r) = ⟨#[c]⟩ ++ "" ++ Str.join "" (y :: r) := rfl
    rw [e]
    refine ⟨?_, fun x hx => ?_, ?_⟩
    · rw [strLen_append, strLen_append, h1]
      show 1 + 0 + _ = _
      simp only [List.length_cons]; omega
    · have hx' : x ∈ ((#[c] ++ ("" : Str).cps) ++ (Str.join "" (y :: r)).cps).toList := hx
      rw [Array.toList_append, Array.toList_append] at hx'
      rcases List.mem_append.mp hx' with q | q
      · rcases List.mem_append.mp q with q | q
        · have : x ∈ [c] := q
          rw [List.mem_singleton.mp this]; exact hc
        · have e0 : ("" : Str).cps.toList = [] := by decide +kernel
          rw [e0] at q; cases q
      · exact h2 x q
    · rw [List.map_cons, List.sum_cons, h3]
      show 1 + _ = _
      simp only [List.length_cons]; omega
theorem string_ok {S : Store} {n : Nat} (h : RngAt S n) : ∃ z S', f__law_string [.ref n] S = .ok (.str z) S' ∧ z.length ≤ 10 ∧ (∀ c ∈ z.cps.toList, c < 0x110000) ∧ RngAt S' n := by
  obtain ⟨m, S1, e1, m0, m1, h1⟩ := draw_k (m := 11) h (by decide) (by decide)
  have sg : dMul S (.str "abcxyz") (.int 6) = some (.str (strRep "abcxyz" 6)) := by
    unfold dMul
    simp only
    rw [if_pos (by decide +kernel)]
  have sa : dAdd S (.str (strRep "abcxyz" 6)) (.str "AZ0_ -'\n") = some (.str signs) := by
    unfold dAdd
    simp only
    rw [if_pos (by decide +kernel)]
    rfl
  obtain ⟨ys, S2, q1, q2, q3, q4⟩ := comp_run (vs := [2]) (g := gSet 2) (t := bTrue) (e := mBin dIx (mVar 1) (mCall f__law_draw [0, 1] (aCons (mVar 0) (aCons (mFun fLen (aCons (mVar 1) aNil)) aNil)) aNil)) (ρ := [.sh (.ref n), .sh (.str signs), .un]) (fun S => RngAt S n) (fun _ => True) One (fun d S _ hI => by
    obtain ⟨k, S3, e3, k0, k1, h3⟩ := draw_k (m := 44) hI (by decide) (by decide)
    obtain ⟨c, ec, hc⟩ := atC (xs := signs.cps.toList) k0 (by have := signs_len; unfold Str.length at this; rw [Array.length_toList, this]; exact k1)
    refine ⟨_, rfl, .inr ⟨S, .str ⟨#[c]⟩, S3, rfl, ?_, ⟨c, rfl, signs_ok c hc⟩, h3⟩⟩
    simp [mBin, mVar, R.bind, mCall, aCons, aNil, mFun, fLen, signs_len, sizeLine_eq, R.opt, pick, List.filterMap, e3, dIx, ec]) (rangeD 0 m.toNat) [] S1 (fun _ _ => trivial) h1 (fun y hy => nomatch hy) (by rw [sizeLine_eq]; simp [rangeD]; omega)
  obtain ⟨zs, z1, z2, z3⟩ := strs_one ys q2
  obtain ⟨j1, j2, j3⟩ := join_one zs z2
  have hl : zs.length ≤ 10 := by
    rw [z3]; simp [rangeD] at q3; omega
  refine ⟨Str.join "" zs, S2, ?_, by omega, j2, q4⟩
  unfold f__law_string mDef m__law_string
  have ej : fJoin S2 (.str "") [.lst ys] = some (.str (Str.join "" zs)) := by
    unfold fJoin
    simp only [viewL, z1]
    rw [if_pos (by rw [j3]; show zs.length + zs.length * 0 ≤ _; omega), TL.join_eq]
  have m2 : rng1 [.int m] = some (rangeD 0 m.toNat) := by
    unfold rng1
    simp only
    rw [if_pos (by omega)]
  simp [sSeq, sSet, mBin, mC, R.bind, sg, sa, R.opt, R.st, sRet, mMethS, isStr, aCons, aNil, mComp, iFun, mCall, mVar, pick, List.filterMap, e1, m2, wipeR, q1, ej]
end K11

namespace K11
open PySem PySem.Spec PyProof.Rows L2 Mi

theorem at_prop {P : D → Prop} {xs : List D} {i : Int} (h0 : 0 ≤ i) (h1 : i < xs.length) (h : ∀ x ∈ xs, P x) : ∃ x, atI xs i = some x ∧ P x := by
  obtain ⟨x, e, m⟩ := at_mem h0 h1
  exact ⟨x, e, h x m⟩
def Sm (d : D) : Prop := ∃ i, d = .int i ∧ i.natAbs < 10 ^ 30
theorem number_ok {S : Store} {n : Nat} (h : RngAt S n) : ∃ i S', f__law_number [.ref n] S = .ok (.int i) S' ∧ i.natAbs < 10 ^ 31 ∧ RngAt S' n := by
  obtain ⟨a, S1, e1, a0, a1, h1⟩ := draw_k (m := 6) h (by decide) (by decide)
  obtain ⟨x, ex, i, rfl, hi⟩ := at_prop (P := Sm) (xs := [.int 0, .int 1, .int (10 ^ 18), .int (-(10 ^ 18)), .int (10 ^ 12), .int (10 ^ 29)]) (i := a) a0 a1 (by
    intro x hx
    simp only [List.mem_cons, List.not_mem_nil, or_false] at hx
    rcases hx with rfl | rfl | rfl | rfl | rfl | rfl <;> exact ⟨_, rfl, by decide⟩)
  obtain ⟨b, S2, e2, b0, b1, h2⟩ := draw_k (m := 10 ^ 9) h1 (by decide) (by decide)
  obtain ⟨c, S3, e3, c0, c1, h3⟩ := draw_k (m := 4) h2 (by decide) (by decide)
  obtain ⟨y, ey, j, rfl, hj⟩ := at_prop (P := fun d => ∃ i, d = .int i ∧ i.natAbs < 10 ^ 10) (xs := [.int 0, .int 1, .int (-1), .int b]) (i := c) c0 c1 (by
    intro x hx
    simp only [List.mem_cons, List.not_mem_nil, or_false] at hx
    rcases hx with rfl | rfl | rfl | rfl
    · exact ⟨_, rfl, by decide⟩
    · exact ⟨_, rfl, by decide⟩
    · exact ⟨_, rfl, by decide⟩
    · exact ⟨_, rfl, by omega⟩)
  refine ⟨i + j, S3, ?_, by omega, h3⟩
  have p18 : ∀ S, dPow S (.int 10) (.int 18) = some (.int (10 ^ 18)) := fun S => rfl
  have p12 : ∀ S, dPow S (.int 10) (.int 12) = some (.int (10 ^ 12)) := fun S => rfl
  have p29 : ∀ S, dPow S (.int 10) (.int 29) = some (.int (10 ^ 29)) := fun S => rfl
  have p9 : ∀ S, dPow S (.int 10) (.int 9) = some (.int (10 ^ 9)) := fun S => rfl
  have ng : ∀ S (i : Int), dNeg S (.int i) = some (.int (-i)) := fun S i => rfl
  have l6 : ∀ a b c d e f : D, dLst [a, b, c, d, e, f] = some (.lst [a, b, c, d, e, f]) := fun _ _ _ _ _ _ => rfl
  have l4 : ∀ a b c d : D, dLst [a, b, c, d] = some (.lst [a, b, c, d]) := fun _ _ _ _ => rfl
  have ix : ∀ S (xs : List D) (i : Int), dIx S (.lst xs) (.int i) = atI xs i := fun _ _ _ => rfl
  have ad : ∀ S (i j : Int), dAdd S (.int i) (.int j) = some (.int (i + j)) := fun _ _ _ => rfl
  unfold f__law_number mDef m__law_number
  simp only [N__law_number, List.length_cons, List.length_nil, List.map_cons, List.map_nil, List.replicate, List.cons_append, List.nil_append, sSeq, sSet, sRet, mBin, mUn, mC, mVar, mLst, aCons, aNil, mCall, pick, R.bind, R.opt, R.st, p18, p12, p29, p9, ng, l6, l4,
    List.filterMap, List.getElem?_cons_zero, List.getElem?_cons_succ, e1, e2, e3, ix, ex, ey, ad, List.set_cons_succ, List.set_cons_zero, Nat.reduceSub, Nat.reduceAdd, Nat.sub_self]
end K11

namespace K11
open PySem PySem.Spec PyProof.Rows L2 Mi

def others : List D := [.non, .bl true, .bl false, .tup [], .lst [], .dct [], .tup [.str "a"], .lst [.str "a"], .dct [(.inr "a", .int 1)], .tup [.int 1], .lst [.int 0], .str "", .str "a", .int 0, .tup [.tup []]] ++ [.str "abcdefgh", .str "abcdefghi"]
theorem other_ok {S : Store} {n : Nat} (h : RngAt S n) : ∃ d S', f__law_other [.ref n] S = .ok d S' ∧ d ∈ others ∧ RngAt S' n := by
  obtain ⟨a, S1, e1, a0, a1, h1⟩ := draw_k (m := 17) h (by decide) (by decide)
  obtain ⟨x, ex, hx⟩ := at_mem (xs := others) a0 (by exact a1)
  refine ⟨x, S1, ?_, hx, h1⟩
  unfold f__law_other mDef m__law_other
  have l2 : ∀ a b : D, dLst [a, b] = some (.lst [a, b]) := fun _ _ => rfl
  have l1 : ∀ a : D, dLst [a] = some (.lst [a]) := fun _ => rfl
  have l0 : dLst [] = some (.lst []) := rfl
  have t0 : dTup [] = some (.tup []) := rfl
  have t1 : ∀ a : D, dTup [a] = some (.tup [a]) := fun _ => rfl
  have dd : dDisp [.str "a", .int 1] = some (.dct [(.inr "a", .int 1)]) := by
    unfold dDisp
    simp [keysD, keyD, mergeD, putD, hasD]
  have ix : ∀ S (xs : List D) (i : Int), dIx S (.lst xs) (.int i) = atI xs i := fun _ _ _ => rfl
  have l15 : ∀ a b c d e f g h i j k l m n o : D, dLst [a, b, c, d, e, f, g, h, i, j, k, l, m, n, o] = some (.lst [a, b, c, d, e, f, g, h, i, j, k, l, m, n, o]) := fun _ _ _ _ _ _ _ _ _ _ _ _ _ _ _ => rfl
  have ad : ∀ S (xs ys : List D), xs.length + ys.length ≤ sizeLine → dAdd S (.lst xs) (.lst ys) = some (.lst (xs ++ ys)) := by
    intro S xs ys h
    show (if xs.length + ys.length ≤ sizeLine then some (D.lst (xs ++ ys)) else none) = _
    rw [if_pos h]
  have ln : ∀ S, fLen S [.lst others] = some (.int 17) := fun _ => rfl
  simp only [N__law_other, List.length_cons, List.length_nil, List.map_cons, List.map_nil, List.replicate, List.cons_append, List.nil_append, sSeq, sSet, sRet, mBin, mUn, mC, mVar, mLst, mTup, mDct, mDct0, flatA, mFun, aCons, aNil, mCall, pick, R.bind, R.opt, R.st, l0, l1, l2, t0, t1, dd, l15,
    List.filterMap, List.getElem?_cons_zero, List.getElem?_cons_succ, List.set_cons_succ, List.set_cons_zero, Nat.reduceSub, Nat.reduceAdd, Nat.sub_self]
  rw [ad _ _ _ (by decide +kernel)]
  have ho : ∀ z, z = others → True := fun _ _ => trivial
  have fold : ([.non, .bl true, .bl false, .tup [], .lst [], .dct [], .tup [.str "a"], .lst [.str "a"], .dct [(.inr "a", .int 1)], .tup [.int 1], .lst [.int 0], .str "", .str "a", .int 0, .tup [.tup []]] ++ [.str "abcdefgh", .str "abcdefghi"] : List D) = others := rfl
  rw [fold]
  simp only [List.getElem?_cons_zero, List.getElem?_cons_succ, List.cons_append, List.nil_append, List.append_nil, ln, e1, ix, ex]
/-! the judgement -/
def letters : Str := "abcdefghijklmnopqrstuvwxyz"
def inL (c : Nat) : Bool := decide (c ∈ letters.cps.toList)
def nameS (z : Str) : Bool := decide (1 ≤ z.length) && decide (z.length ≤ 8) && z.cps.toList.all inL
theorem in_one (c : Nat) (z : Str) : inStr ⟨#[c]⟩ z = decide (c ∈ z.cps.toList) := by
  unfold inStr
  rw [dif_pos (by rfl)]
  rfl
theorem items_len (z : Str) : (strItems z).length = z.length := by
  unfold strItems
  rw [List.length_map, Array.length_toList]
  rfl
theorem allB_map (q : Nat → Bool) : ∀ l : List Nat, Mi.allB (l.map fun c => D.bl (q c)) = some (l.map q)
  | [] => rfl
  | c :: l => by simp only [List.map_cons, Mi.allB, allB_map q l]
theorem comp_in {S : Store} {z : Str} (hz : z.length ≤ sizeLine) : mComp (iSeq (mVar 0)) [1] (gSet 1) bTrue (mBin dIn (mVar 1) (mC (.str letters))) [.sh (.str z), .un] S = .ok (.lst (z.cps.toList.map fun c => D.bl (inL c))) S := by
  have h := comp_pure (vs := [1]) (g := gSet 1) (t := bTrue) (e := mBin dIn (mVar 1) (mC (.str letters))) (ρ := [.sh (.str z), .un]) (S := S) (p := fun _ => true) (f := fun d => match d with | .str x => .bl (inStr x letters) | _ => .non) (strItems z) [] (by
    intro d hd
    obtain ⟨c, hc, rfl⟩ := List.mem_map.mp hd
    exact ⟨_, rfl, rfl, fun _ => rfl⟩) (by rw [items_len, List.length_nil, Nat.zero_add]; exact hz)
  unfold mComp iSeq
  simp only [mVar, List.getElem?_cons_zero, R.bind, itemsOf, R.opt, wipeR, List.set_cons_succ, List.set_cons_zero]
  rw [h]
  simp only [List.nil_append]
  congr 2
  unfold strItems
  rw [List.filter_eq_self.mpr (fun _ _ => rfl), List.map_map]
  refine List.map_congr_left fun c _ => ?_
  show D.bl (inStr ⟨#[c]⟩ letters) = _
  rw [in_one]
  rfl
theorem name_str {S : Store} {z : Str} (hz : z.length ≤ sizeLine) : f_is_name [.str z] S = .ok (.bl (nameS z)) S := by
  have hk : (1 : Int) ≤ (z.length : Int) ↔ 1 ≤ z.length := by omega
  have hk2 : (z.length : Int) ≤ 8 ↔ z.length ≤ 8 := by omega
  have isi : ∀ S, fIsi S [.str z, .ty "str"] = some (.bl true) := fun _ => rfl
  have ln : ∀ S, fLen S [.str z] = some (.int z.length) := fun _ => by unfold fLen; simp only; rw [if_pos hz]
  have al : ∀ S, fAll S [.lst (z.cps.toList.map fun c => D.bl (inL c))] = some (.bl (z.cps.toList.all inL)) := by
    intro S
    unfold fAll boolsL
    simp only [viewL, allB_map]
    congr 2
    rw [List.all_map]
    rfl
  unfold f_is_name mDef m_is_name
  have hc := comp_in (S := S) hz
  unfold letters at hc
  by_cases h1 : 1 ≤ z.length
  · by_cases h2 : z.length ≤ 8
    · simp [sSeq, sIf, bOr, bNot, bTru, mFun, aCons, aNil, mVar, mC, R.bind, R.opt, R.st, isi, tru, bOf, mChain, ln, dLe, asB, hk, hk2, h1, h2, sNil, sRet, hc, al, nameS]
    · simp [sSeq, sIf, bOr, bNot, bTru, mFun, aCons, aNil, mVar, mC, R.bind, R.opt, R.st, isi, tru, bOf, mChain, ln, dLe, asB, hk, hk2, h1, h2, sNil, sRet, nameS]
  · simp [sSeq, sIf, bOr, bNot, bTru, mFun, aCons, aNil, mVar, mC, R.bind, R.opt, R.st, isi, tru, bOf, mChain, ln, dLe, asB, hk, hk2, h1, sNil, sRet, nameS]
end K11

namespace K11
open PySem PySem.Spec PyProof.Rows L2 Mi

def big : Int := 10 ^ 18
def valI (i : Int) : Bool := decide (-(10 ^ 18) ≤ i) && decide (i ≤ 10 ^ 18)
theorem value_int {S : Store} {i : Int} : f_is_value [.int i] S = .ok (.bl (valI i)) S := by
  have isi : ∀ S, fIsi S [.int i, .ty "int"] = some (.bl true) := fun _ => rfl
  have isb : ∀ S, fIsi S [.int i, .ty "bool"] = some (.bl false) := fun _ => rfl
  unfold f_is_value mDef m_is_value f_is_integer mDef m_is_integer
  by_cases h : -(10 ^ 18) ≤ i
  · simp [sRet, mAnd, mCall, aCons, aNil, mVar, mC, R.bind, R.opt, R.st, pick, mFun, mNot, isi, isb, tru, mChain, mUn, dNeg, dLe, asB, valI, h] at h ⊢
    simp [h]
  · simp [sRet, mAnd, mCall, aCons, aNil, mVar, mC, R.bind, R.opt, R.st, pick, mFun, mNot, isi, isb, tru, mChain, mUn, dNeg, dLe, asB, valI, h] at h ⊢
    have h' : ¬ -1000000000000000000 ≤ i := by omega
    simp [h']
def dueN : EX := mAnd (mFun fIsi (aCons (mVar 0) (aCons (mC (.ty "str")) (aNil)))) (mAnd (mChain dLt dLt (mC (.int 0)) (mFun fLen (aCons (mVar 0) (aNil))) (mC (.int 9))) (mBin dEq (mComp (iSeq (mVar 0)) [6] (gSet 6) (bOf (mBin dNotIn (mVar 6) (mVar 2))) (mVar 6)) (mLst (aNil))))
def dueV : EX := mAnd (mFun fIsi (aCons (mVar 0) (aCons (mC (.ty "int")) (aNil)))) (mAnd (mNot (mFun fIsi (aCons (mVar 0) (aCons (mC (.ty "bool")) (aNil))))) (mBin dLe (mFun fAbs (aCons (mVar 0) (aNil))) (mBin dPow (mC (.int 10)) (mC (.int 18)))))
theorem four (S : Store) (a b : Bool) : ∃ z, fRepr S [.lst [.bl a, .bl a, .bl b, .bl b]] = some (.str z) := by
  refine ⟨(PyData.list [.bool a, .bool a, .bool b, .bool b]).shown, ?_⟩
  unfold fRepr
  simp only [toPy, toPys]
  rw [if_pos (by revert a b; decide +kernel)]
theorem right_gen {S : Store} {d : D} {k : Str} {nb vb : Bool} (hk : fRepr S [d] = some (.str k)) (hn : f_is_name [d] S = .ok (.bl nb) S) (hv : f_is_value [d] S = .ok (.bl vb) S)
    (dn : dueN [.sh d, .sh (.str k), .sh (.str letters), .un, .un, .un, .un] S = .ok (.bl nb) S) (dv : dueV [.sh d, .sh (.str k), .sh (.str letters), .sh (.bl nb), .un, .un, .un] S = .ok (.bl vb) S) : f__law_right [d] S = .ok (.bl true) S := by
  obtain ⟨z, hz⟩ := four S nb vb
  have l4 : ∀ a b c d : D, dLst [a, b, c, d] = some (.lst [a, b, c, d]) := fun _ _ _ _ => rfl
  have eq : ∀ a : Str, dEq S (.str a) (.str a) = some (.bl true) := by
    intro a
    unfold dEq dEqB
    simp
  unfold dueN letters at dn
  unfold dueV letters at dv
  unfold f__law_right mDef m__law_right
  simp only [N__law_right, List.length_cons, List.length_nil, List.map_cons, List.map_nil, List.replicate, List.cons_append, List.nil_append, List.append_nil, Nat.reduceSub, Nat.reduceAdd, sSeq, sSet]
  have s1 : mFun fRepr (aCons (mVar 0) aNil) [.sh d, .un, .un, .un, .un, .un, .un] S = .ok (.str k) S := by
    simp only [mFun, aCons, aNil, mVar, List.getElem?_cons_zero, R.bind, R.opt, hk]
  rw [s1]
  simp only [R.st, mC, List.set_cons_succ, List.set_cons_zero]
  rw [dn]
  simp only [R.st, List.set_cons_succ, List.set_cons_zero]
  rw [dv]
  simp only [R.st, List.set_cons_succ, List.set_cons_zero, sRet, mLst, aCons, aNil, mCall, mVar, List.getElem?_cons_zero, List.getElem?_cons_succ, R.bind, pick, List.filterMap, List.cons_append, List.nil_append, List.append_nil, hn, hv, R.opt, l4, mAnd, mBin, mFun, hz, eq, hk, tru, if_true]
end K11

namespace K11
open PySem PySem.Spec PyProof.Rows L2 Mi

theorem strs_py : ∀ l : List Nat, toPys false (l.map fun c => D.str ⟨#[c]⟩) = some (l.map fun c => PyData.str ⟨#[c]⟩)
  | [] => rfl
  | c :: l => by simp only [List.map_cons, toPys, toPy, strs_py l]
theorem strs_lay : ∀ l : List Nat, (∀ c ∈ l, c < 0x110000) → PyData.canLayAll0 (l.map fun c => PyData.str ⟨#[c]⟩) = true ∧ PyData.depthAll (l.map fun c => PyData.str ⟨#[c]⟩) = 0
  | [], _ => ⟨rfl, rfl⟩
  | c :: l, h => by
    obtain ⟨h1, h2⟩ := strs_lay l fun x hx => h x (List.mem_cons_of_mem _ hx)
    have hc : c < 0x110000 := h c List.mem_cons_self
    simp only [List.map_cons, PyData.canLayAll0, PyData.canLay0, PyData.depthAll, PyData.depth, h1, h2, Bool.and_true]
    refine ⟨?_, rfl⟩
    simp [PyData.strOk, hc]
theorem eq_nil {S : Store} {l : List Nat} (h : ∀ c ∈ l, c < 0x110000) : dEq S (.lst (l.map fun c => D.str ⟨#[c]⟩)) (.lst []) = some (.bl l.isEmpty) := by
  obtain ⟨h1, h2⟩ := strs_lay l h
  have e1 : pyE S (.lst (l.map fun c => D.str ⟨#[c]⟩)) = some (.list (l.map fun c => PyData.str ⟨#[c]⟩)) := by
    unfold pyE
    simp only [Mi.top, toPy, strs_py]
    rw [if_pos]
    simp only [SeqAt.shaped, PyData.canLay0, PyData.depth, h1, h2]
    rfl
  have e2 : pyE S (.lst []) = some (.list []) := rfl
  unfold dEq dEqB
  simp only [e1, e2]
  cases l with
  | nil => rfl
  | cons c l => rfl
theorem comp_out {S : Store} {z : Str} {a b c e : Sl} (hz : z.length ≤ sizeLine) : mComp (iSeq (mVar 0)) [6] (gSet 6) (bOf (mBin dNotIn (mVar 6) (mVar 2))) (mVar 6) [.sh (.str z), a, .sh (.str letters), b, c, e, .un] S =
    .ok (.lst ((z.cps.toList.filter fun c => !inL c).map fun c => D.str ⟨#[c]⟩)) S := by
  have h := comp_pure (vs := [6]) (g := gSet 6) (t := bOf (mBin dNotIn (mVar 6) (mVar 2))) (e := mVar 6) (ρ := [.sh (.str z), a, .sh (.str letters), b, c, e, .un]) (S := S) (p := fun d => match d with | .str x => !inStr x letters | _ => false) (f := id) (strItems z) [] (by
    intro d hd
    obtain ⟨c, hc, rfl⟩ := List.mem_map.mp hd
    exact ⟨_, rfl, rfl, fun _ => rfl⟩) (by rw [items_len, List.length_nil, Nat.zero_add]; exact hz)
  unfold mComp iSeq
  simp only [mVar, List.getElem?_cons_zero, R.bind, itemsOf, R.opt, wipeR, List.set_cons_succ, List.set_cons_zero]
  rw [h]
  simp only [List.nil_append, List.map_id]
  congr 2
  unfold strItems
  rw [List.filter_map]
  refine congrArg _ (List.filter_congr fun c _ => ?_)
  show (!inStr ⟨#[c]⟩ letters) = _
  rw [in_one]
  rfl
theorem due_str {S : Store} {z : Str} {k : Sl} (hz : z.length ≤ sizeLine) (hc : ∀ c ∈ z.cps.toList, c < 0x110000) : dueN [.sh (.str z), k, .sh (.str letters), .un, .un, .un, .un] S = .ok (.bl (nameS z)) S := by
  have isi : ∀ S, fIsi S [.str z, .ty "str"] = some (.bl true) := fun _ => rfl
  have ln : ∀ S, fLen S [.str z] = some (.int z.length) := fun _ => by unfold fLen; simp only; rw [if_pos hz]
  have eq := eq_nil (S := S) (l := z.cps.toList.filter fun c => !inL c) fun c hm => hc c (List.mem_filter.mp hm).1
  have co := comp_out (S := S) (z := z) (a := k) (b := .un) (c := .un) (e := .un) hz
  have l0 : dLst [] = some (.lst []) := rfl
  have em : (z.cps.toList.filter fun c => !inL c).isEmpty = z.cps.toList.all inL := by
    rw [Bool.eq_iff_iff, List.isEmpty_iff, List.filter_eq_nil_iff, List.all_eq_true]
    refine forall_congr' fun c => forall_congr' fun _ => ?_
    cases inL c <;> decide
  unfold dueN
  simp only [mAnd, mFun, aCons, aNil, mVar, mC, List.getElem?_cons_zero, R.bind, R.opt, isi, tru, if_true, mChain, ln, dLt, Option.bind, asB]
  by_cases h1 : 0 < z.length
  · have h1' : decide ((0 : Int) < (z.length : Int)) = true := decide_eq_true (by omega)
    by_cases h2 : z.length < 9
    · have h2' : decide ((z.length : Int) < 9) = true := decide_eq_true (by omega)
      simp only [h1', h2', if_true, mBin, R.bind, co, mLst, aNil, R.opt, l0, eq]
      congr 2
      unfold nameS
      rw [em, decide_eq_true (show 1 ≤ z.length by omega), decide_eq_true (show z.length ≤ 8 by omega)]
      rfl
    · have h2' : decide ((z.length : Int) < 9) = false := decide_eq_false (by omega)
      simp only [h1', h2', if_true, Bool.false_eq_true, if_false]
      congr 2
      unfold nameS
      rw [decide_eq_false (show ¬ z.length ≤ 8 by omega), Bool.and_false, Bool.false_and]
  · have h1' : decide ((0 : Int) < (z.length : Int)) = false := decide_eq_false (by omega)
    simp only [h1', Bool.false_eq_true, if_false]
    congr 2
    unfold nameS
    rw [decide_eq_false (show ¬ 1 ≤ z.length by omega)]
    rfl
theorem right_str {S : Store} {z : Str} (hz : z.length ≤ 10) (hc : ∀ c ∈ z.cps.toList, c < 0x110000) : f__law_right [.str z] S = .ok (.bl true) S := by
  have hz' : z.length ≤ sizeLine := by rw [sizeLine_eq]; omega
  refine right_gen (k := reprText z) (nb := nameS z) (vb := false) ?_ (name_str hz') rfl (due_str hz' hc) rfl
  have h := StrLaws.reprText_len z fun c hm => Nat.lt_trans (hc c hm) (by decide)
  unfold fRepr
  simp only [toPy]
  rw [if_pos]
  · simp only [PyData.shown]
  · refine ⟨rfl, ?_, by simp only [PyData.depth]; omega⟩
    simp only [PyData.shown]
    rw [sizeLine_eq]; omega
theorem due_int {S : Store} {i : Int} {a b : Sl} : dueV [.sh (.int i), a, b, .sh (.bl false), .un, .un, .un] S = .ok (.bl (valI i)) S := by
  have isi : ∀ S, fIsi S [.int i, .ty "int"] = some (.bl true) := fun _ => rfl
  have isb : ∀ S, fIsi S [.int i, .ty "bool"] = some (.bl false) := fun _ => rfl
  have p18 : ∀ S, dPow S (.int 10) (.int 18) = some (.int (10 ^ 18)) := fun S => rfl
  unfold dueV
  simp only [mAnd, mFun, aCons, aNil, mVar, mC, List.getElem?_cons_zero, R.bind, R.opt, isi, isb, tru, if_true, mNot, Bool.not_false, mBin, fAbs, p18, dLe]
  congr 2
  unfold valI
  rw [Bool.eq_iff_iff]
  simp only [Bool.and_eq_true, decide_eq_true_eq]
  split <;> omega
theorem right_int {S : Store} {i : Int} (h : i.natAbs < 10 ^ 31) : f__law_right [.int i] S = .ok (.bl true) S := by
  have hl : i.natAbs.log2 < 1920 := by
    by_cases h0 : i.natAbs = 0
    · rw [h0]; decide
    · exact Nat.lt_of_lt_of_le ((Nat.log2_lt h0).mpr (Nat.lt_trans h (by decide : 10 ^ 31 < 2 ^ 110))) (by decide)
  refine right_gen (k := toString i) (nb := false) (vb := valI i) ?_ rfl value_int rfl due_int
  unfold fRepr
  simp only [toPy]
  rw [if_pos]
  · simp only [PyData.shown]
  · refine ⟨by simp only [PyData.showable]; exact decide_eq_true hl, ?_, by simp only [PyData.depth]; omega⟩
    simp only [PyData.shown]
    exact int_text_fits hl
end K11

namespace K11
open PySem PySem.Spec PyProof.Rows L2 Mi

theorem repr_at {S : Store} {d : D} {p : PyData} (e : toPy true d = some p) (h : (p.showable = true ∧ p.shown.length ≤ sizeLine ∧ p.depth ≤ 64)) : fRepr S [d] = some (.str p.shown) := by
  unfold fRepr
  simp only [e]
  rw [if_pos h]
theorem right_plain {S : Store} {d : D} {p : PyData} (e : toPy true d = some p) (h : (p.showable = true ∧ p.shown.length ≤ sizeLine ∧ p.depth ≤ 64)) (hn : f_is_name [d] S = .ok (.bl false) S) (hv : f_is_value [d] S = .ok (.bl false) S)
    (dn : ∀ k, dueN [.sh d, .sh (.str k), .sh (.str letters), .un, .un, .un, .un] S = .ok (.bl false) S) (dv : ∀ k, dueV [.sh d, .sh (.str k), .sh (.str letters), .sh (.bl false), .un, .un, .un] S = .ok (.bl false) S) : f__law_right [d] S = .ok (.bl true) S :=
  right_gen (repr_at e h) hn hv (dn _) (dv _)
theorem right_other {S : Store} : ∀ d ∈ others, f__law_right [d] S = .ok (.bl true) S := by
  intro d hd
  simp only [others, List.cons_append, List.nil_append, List.mem_cons, List.not_mem_nil, or_false] at hd
  rcases hd with rfl | rfl | rfl | rfl | rfl | rfl | rfl | rfl | rfl | rfl | rfl | rfl | rfl | rfl | rfl | rfl | rfl
  · exact right_plain rfl (by decide +kernel) rfl rfl (fun _ => rfl) (fun _ => rfl)
  · exact right_plain rfl (by decide +kernel) rfl rfl (fun _ => rfl) (fun _ => rfl)
  · exact right_plain rfl (by decide +kernel) rfl rfl (fun _ => rfl) (fun _ => rfl)
  · exact right_plain rfl (by decide +kernel) rfl rfl (fun _ => rfl) (fun _ => rfl)
  · exact right_plain rfl (by decide +kernel) rfl rfl (fun _ => rfl) (fun _ => rfl)
  · exact right_plain rfl (by decide +kernel) rfl rfl (fun _ => rfl) (fun _ => rfl)
  · exact right_plain rfl (by decide +kernel) rfl rfl (fun _ => rfl) (fun _ => rfl)
  · exact right_plain rfl (by decide +kernel) rfl rfl (fun _ => rfl) (fun _ => rfl)
  · exact right_plain rfl (by decide +kernel) rfl rfl (fun _ => rfl) (fun _ => rfl)
  · exact right_plain rfl (by decide +kernel) rfl rfl (fun _ => rfl) (fun _ => rfl)
  · exact right_plain rfl (by decide +kernel) rfl rfl (fun _ => rfl) (fun _ => rfl)
  · exact right_str (by decide +kernel) (by decide +kernel)
  · exact right_str (by decide +kernel) (by decide +kernel)
  · exact right_int (by decide +kernel)
  · exact right_plain rfl (by decide +kernel) rfl rfl (fun _ => rfl) (fun _ => rfl)
  · exact right_str (by decide +kernel) (by decide +kernel)
  · exact right_str (by decide +kernel) (by decide +kernel)
theorem signs_ok' : ∀ c ∈ signs.cps.toList, c < 0x110000 := by decide +kernel
end K11

namespace K11
open PySem PySem.Spec PyProof.Rows L2 Mi

def tabT : List (Str × FX) := [("_law_string", f__law_string), ("_law_number", f__law_number), ("_law_other", f__law_other)]
def threeF : List D := [D.fn "_law_string", D.fn "_law_number", D.fn "_law_other"]
def thingE : EX := mCallV tabT (mBin dIx (mLst (aCons (mC (.fn "_law_string")) (aCons (mC (.fn "_law_number")) (aCons (mC (.fn "_law_other")) (aNil))))) (mCall f__law_draw [0, 1] (aCons (mVar 2) (aCons (mC (.int 3)) (aNil))) (aNil))) (aCons (mVar 2) (aNil))
def body8 : SX := sIf (bNot (bTru (mCall f__law_right [0] (aCons thingE (aNil)) (aNil)))) (sRet (mC (.bl false))) (sNil)
def body1 : SX := sSeq (sSet 2 (mCall f__law_rng [0, 1] (aCons (mVar 0) (aCons (mVar 1) (aNil))) (aNil))) (sFor (iFun rng1 (aCons (mC (.int 8)) (aNil))) (gSet 3) body8)
theorem m_law_eq : m_law = sSeq (sFor (iFun rng1 (aCons (mFun fMax (aCons (mC (.int 2)) (aCons (mFun fMin (aCons (mC (.int 6)) (aCons (mFun fLen (aCons (mVar 0) (aNil))) (aNil)))) (aNil)))) (aNil))) (gSet 1) body1) (sRet (mC (.bl true))) := rfl
theorem thing_ok {S : Store} {n : Nat} {a b c : Sl} (h : RngAt S n) : ∃ d S', thingE [a, b, .sh (.ref n), c] S = .ok d S' ∧ RngAt S' n ∧ f__law_right [d] S' = .ok (.bl true) S' := by
  obtain ⟨k, S1, e1, k0, k1, h1⟩ := draw_k (m := 3) h (by decide) (by decide)
  have l3 : ∀ a b c : D, dLst [a, b, c] = some (.lst [a, b, c]) := fun _ _ _ => rfl
  have ix : ∀ S (xs : List D) (i : Int), dIx S (.lst xs) (.int i) = atI xs i := fun _ _ _ => rfl
  have go : ∀ (x : Str) (f : FX) (d : D) (S' : Store), atI [D.fn "_law_string", D.fn "_law_number", D.fn "_law_other"] k = some (.fn x) → tabT.lookup x = some f → f [.ref n] S1 = .ok d S' → thingE [a, b, .sh (.ref n), c] S = .ok d S' := by
    intro x f d S' ea el ef
    unfold thingE mCallV
    simp only [mBin, mLst, aCons, aNil, mC, R.bind, R.opt, l3, mCall, mVar, List.getElem?_cons_zero, List.getElem?_cons_succ, pick, List.filterMap, List.cons_append, List.nil_append, List.append_nil, e1, ix, ea, el, ef]
  have hk : k = 0 ∨ k = 1 ∨ k = 2 := by omega
  rcases hk with rfl | rfl | rfl
  · obtain ⟨z, S', q1, q2, q3, q4⟩ := string_ok h1
    exact ⟨_, S', go "_law_string" f__law_string _ S' rfl rfl q1, q4, right_str q2 q3⟩
  · obtain ⟨z, S', q1, q2, q3⟩ := number_ok h1
    exact ⟨_, S', go "_law_number" f__law_number _ S' rfl rfl q1, q3, right_int q2⟩
  · obtain ⟨z, S', q1, q2, q3⟩ := other_ok h1
    exact ⟨_, S', go "_law_other" f__law_other _ S' rfl rfl q1, q3, right_other _ q2⟩
theorem range_at {n i : Nat} {d : D} (h : (rangeD 0 n)[i]? = some d) : d = .int i ∧ i < n := by
  have hi := (List.getElem?_eq_some_iff.mp h).1
  rw [show (rangeD 0 n).length = n by simp [rangeD]] at hi
  unfold rangeD at h
  rw [List.getElem?_map, List.getElem?_range hi] at h
  cases h
  exact ⟨by simp, hi⟩
theorem inner {a b c0 : Sl} {n : Nat} {S : Store} (h : RngAt S n) : ∃ c S', forL (gSet 3) body8 (rangeD 0 8) [a, b, .sh (.ref n), c0] S = .nx [a, b, .sh (.ref n), c] S' := by
  obtain ⟨ρ', S', e, c, rfl, _⟩ := for_run (g := gSet 3) (body := body8) (fun _ ρ S => ∃ c, ρ = [a, b, .sh (.ref n), c] ∧ RngAt S n) (rangeD 0 8) [a, b, .sh (.ref n), c0] S 0 (by
    rintro i d ρ S _ ⟨c, rfl, hS⟩
    obtain ⟨x, S', q1, q2, q3⟩ := thing_ok (a := a) (b := b) (c := .sh d) hS
    refine ⟨([a, b, .sh (.ref n), .sh d], S), [a, b, .sh (.ref n), .sh d], S', rfl, .inl ?_, _, rfl, q2⟩
    simp only [body8, sIf, bNot, bTru, mCall, aCons, R.bind, q1, aNil, pick, List.filterMap, List.getElem?_cons_zero, List.cons_append, List.nil_append, List.append_nil, q3, tru, R.opt, Bool.not_true, R.st, Bool.false_eq_true, if_false, sNil]) ⟨_, rfl, h⟩
  exact ⟨c, S', e⟩
theorem r8 : rng1 [.int 8] = some (rangeD 0 8) := by
  unfold rng1
  simp only
  rw [if_pos (by omega)]
  simp
theorem step1 {ns : List Int} {i : Nat} {c e : Sl} {S : Store} (hn : ns.length ≤ 63) (hi : i < 100) : ∃ z S2, body1 [.sh (.lst (intsD ns)), .sh (.int i), c, e] S = .nx [.sh (.lst (intsD ns)), .sh (.int i), .sh (.ref S.length), z] S2 := by
  obtain ⟨S1, q1, q2⟩ := rng_ok (S := S) (k := i) hn hi
  have q1' : f__law_rng [.lst (intsD ns), .int i] S = .ok (.ref S.length) S1 := by rw [rng_f]; exact q1
  obtain ⟨z, S2, q3⟩ := inner (a := .sh (.lst (intsD ns))) (b := .sh (.int i)) (c0 := e) q2
  refine ⟨z, S2, ?_⟩
  simp only [body1, sSeq, sSet, sFor, mCall, aCons, aNil, mVar, mC, R.bind, R.st, List.getElem?_cons_zero, List.getElem?_cons_succ, pick, List.filterMap, List.cons_append, List.nil_append, List.append_nil, q1', List.set_cons_succ, List.set_cons_zero, iFun, r8, R.opt, q3]
theorem turns (l : Nat) : ∃ m : Nat, (if (if (l : Int) < 6 then (l : Int) else 6) > 2 then (if (l : Int) < 6 then (l : Int) else 6) else 2) = (m : Int) ∧ m ≤ 6 := by
  by_cases h1 : (l : Int) < 6
  · rw [if_pos h1]
    by_cases h2 : (l : Int) > 2
    · exact ⟨l, by rw [if_pos h2], by omega⟩
    · exact ⟨2, by rw [if_neg h2]; rfl, by omega⟩
  · rw [if_neg h1]
    exact ⟨6, by rw [if_pos (by decide)]; rfl, by omega⟩
theorem r1 {m : Nat} (h : m ≤ 6) : rng1 [.int (m : Int)] = some (rangeD 0 m) := by
  unfold rng1
  simp only
  rw [if_pos (by omega)]
  simp
theorem law_ok (ns : List Int) (hn : ns.length ≤ 63) (_ : ∀ z ∈ ns, Builtin.Int.intBits z ≤ 1048576) : ∃ S, f_law [.lst (intsD ns)] [] = .ok (.bl true) S := by
  obtain ⟨m, hm, m0⟩ := turns (intsD ns).length
  obtain ⟨ρ', S', e, _⟩ := for_run (g := gSet 1) (body := body1) (fun i ρ S => ∃ b c d, ρ = [.sh (.lst (intsD ns)), b, c, d]) (rangeD 0 m) [.sh (.lst (intsD ns)), .un, .un, .un] [] 0 (by
      rintro i d ρ S hd ⟨b, c, e, rfl⟩
      obtain ⟨rfl, hi⟩ := range_at hd
      obtain ⟨z, S2, q⟩ := step1 (c := c) (e := e) (S := S) hn (show i < 100 by omega)
      exact ⟨([.sh (.lst (intsD ns)), .sh (.int i), c, e], S), [.sh (.lst (intsD ns)), .sh (.int i), .sh (.ref S.length), z], S2, rfl, .inl q, _, _, _, rfl⟩) ⟨_, _, _, rfl⟩
  refine ⟨S', ?_⟩
  have ln : ∀ S, fLen S [.lst (intsD ns)] = some (.int ((intsD ns).length : Int)) := fun _ => rfl
  have hr := r1 m0
  have it := k_ifun (f := rng1) (S := []) (k_one (k_fun (f := fMax) (k_cons (k_c (d := .int 2)) (k_one (k_fun (f := fMin) (k_cons (k_c (d := .int 6)) (k_one (k_fun (f := fLen) (k_one (k_var (i := 0) (ρ := [.sh (.lst (intsD ns)), .un, .un, .un]) rfl)) (ln [])))) rfl))) rfl)) (show rng1 [.int _] = some (rangeD 0 m) by rw [hm]; exact hr)
  refine k_def ?_
  rw [m_law_eq]
  exact k_seq (k_for it e) (k_ret k_c)
end K11


open PySem PySem.W PyProof.Rows in
set_option maxRecDepth 100000 in
set_option maxHeartbeats 0 in
theorem PySem.Challenge.cw_exactstop_k11_names_and_values_holds : PySem.Challenge.rw_exactstop_k11_names_and_values.Holds := by
  w_on; o_law; k_head; (case hw => w_witness2)
  k_fill
  refine Mi.walk_g (l := PySem.Challenge.rw_exactstop_k11_names_and_values) (k := 4) (n := 63) (x := "_law_script") (f := K11.f_law) rfl (by decide) rfl ⟨rfl, by decide, by decide⟩ (fun w h Y => PySem.W.kIn_of Y) K11.law_ok ?F
  case F =>
    intro w mg fa h KX G hmg
    refine' K11.all_mk KX G hmg ?a0 ?l0 ?c0 ?k0 ?a1 ?l1 ?c1 ?k1 ?a2 ?l2 ?c2 ?k2 ?a3 ?l3 ?c3 ?k3 ?a4 ?l4 ?c4 ?k4 ?a5 ?l5 ?c5 ?k5 ?a6 ?l6 ?c6 ?k6 ?a7 ?l7 ?c7 ?k7 ?a8 ?l8 ?c8 ?k8 ?a9 ?l9 ?c9 ?k9 ?z_abs ?z_all ?z_bool ?z_divmod ?z_int ?z_isinstance ?z_len ?z_max ?z_min ?z_range ?z_repr ?z_str ?q_GREATEST_VALUE ?q_LETTERS ?q_MOST_LETTERS
    (case a0 => k_is)
    (case l0 => k_is)
    (case c0 => k_is)
    (case k0 => k_is)
    (case a1 => k_is)
    (case l1 => k_is)
    (case c1 => k_is)
    (case k1 => k_is)
    (case a2 => k_is)
    (case l2 => k_is)
    (case c2 => k_is)
    (case k2 => k_is)
    (case a3 => k_is)
    (case l3 => k_is)
    (case c3 => k_is)
    (case k3 => k_is)
    (case a4 => k_is)
    (case l4 => k_is)
    (case c4 => k_is)
    (case k4 => k_is)
    (case a5 => k_is)
    (case l5 => k_is)
    (case c5 => k_is)
    (case k5 => k_is)
    (case a6 => k_is)
    (case l6 => k_is)
    (case c6 => k_is)
    (case k6 => k_is)
    (case a7 => k_is)
    (case l7 => k_is)
    (case c7 => k_is)
    (case k7 => k_is)
    (case a8 => k_is)
    (case l8 => k_is)
    (case c8 => k_is)
    (case k8 => k_is)
    (case a9 => k_is)
    (case l9 => k_is)
    (case c9 => k_is)
    (case k9 => k_is)
    (case z_abs => k_is)
    (case z_all => k_is)
    (case z_bool => k_is)
    (case z_divmod => k_is)
    (case z_int => k_is)
    (case z_isinstance => k_is)
    (case z_len => k_is)
    (case z_max => k_is)
    (case z_min => k_is)
    (case z_range => k_is)
    (case z_repr => k_is)
    (case z_str => k_is)
    (case q_GREATEST_VALUE => k_is)
    (case q_LETTERS => k_is)
    (case q_MOST_LETTERS => k_is)

