import PyProof.Rows.All
import Wide.All
import OpenK.AllK
import Wide.FinOn
import HandS.ForMost
import HandS.Exc
import HandS.TryOnly
import HandS.ExcOwn
import HandS.Defaults
import HandS.Lambda
import KE.KDictKeyed
import KE.KeyNested
import HandS.TupAny
import HandS.TupMul
import HandS.TupLe
import HandS.Deep
import HandS.Wide
import HandS.Gcd
import HandS.Style
import HandS.IsInst
import HandS.TupLen
import HandS.CallSlots
import HandS.HeadHook4
import HandS.ReCall
import HandS.Strs
import HandS.More
import HandS.Small
import HandS.Iter
import HandS.Zip
import KE.GoesEnum
import KE.SortCalls
import KE.SortKeyed
import KE.DataCmp
import HandS.ExcIs
import KE.KDictDisplayH
import HandS.Conv
import HandS.Head3
import HandS.HeadWalk
import HandS.Words
import KE.KStateDown
import PySem.Challenge.RW_truthpays_k66_whole_no_lot_gains_by_lies
set_option Elab.async false
set_option linter.all false
set_option maxRecDepth 100000
namespace DL
open PySem PySem.Spec PyProof.Rows L2
/-- the world, held -/
class WW where
  w : World
variable [WW]
abbrev NK := NestedKey

/-! data by value -/
inductive D where
  | non | bl (b : Bool) | int (i : Int) | str (x : Str) | ty (n : String) | ref (a : Addr)
  | tup (xs : List D) | lst (xs : List D) | dK (kvs : List (Key × D)) | dT (kvs : List (NK × D))
  | exc (c : Addr) (fs : List (Str × D)) | own (i : Nat) | kls (xs : List D) | kt (xs : List D)

abbrev KvsV := List (Key × V)

/-- a tuple, and that no dict hangs on it -/
def TupF (K : PySem.W.Frag) (H : Hp) (a : Addr) (vs : List V) : Prop := (∃ o : Obj, H a = some (.frz o (.tup vs)) ∧ o.dict = none) ∨
  ∃ (o : Obj) (its : Array Value) (n : Nat), K.lookup a = some o ∧ o.cls = .type "tuple" ∧ o.dict = none ∧ o.data = .seq its n ∧ its.size ≤ sizeLine ∧ Vals vs its.toList
theorem TupF.sqt {K : PySem.W.Frag} {H : Hp} {a : Addr} {vs : List V} (h : TupF K H a vs) : SqT K H a vs := by
  rcases h with ⟨o, e, _⟩ | ⟨o, its, n, h1, h2, _, h3⟩
  · exact .inl (.inr ⟨o, e⟩)
  · exact .inr ⟨o, its, n, h1, h2, h3⟩
/-! dicts with tuples as keys -/
mutual
def ofNK : NK → D
  | .none => .non
  | .num i => .int i
  | .text x => .str x
  | .tup ks => .tup (ofNKs ks)
def ofNKs : List NK → List D
  | [] => []
  | k :: ks => ofNK k :: ofNKs ks
end
theorem ofNKs_map : ∀ ks : List NK, ofNKs ks = ks.map ofNK
  | [] => rfl
  | k :: ks => by rw [ofNKs, ofNKs_map ks]; rfl
abbrev Ents := List (NK × Addr × Value)
def entW (x : NK × Addr × Value) : DictEntry := ⟨x.1.hash WW.w, .ref x.2.1, x.2.2⟩
/-- the object at a, to the letter -/
def exO (a : Addr) (o : Obj) : HO := .ext fun h => h.get? a = some o
structure DOf (a : Addr) (o : Obj) (xs : Ents) : Prop where
  ex : o.ExactDict
  es : ∃ es ep, o.data = .dict es ep ∧ es.toList = xs.map entW
  nd : (xs.map (·.1)).Nodup
  sm : (a == sysModules) = false
  dp : ∀ x ∈ xs, x.1.depth ≤ 8
  ln : xs.length ≤ sizeLine
/-- heaps that hold nothing but o -/
def allO (o : Obj) : Nat → Heap
  | 0 => {}
  | n + 1 => (allO o n).push o
theorem allO_at {o : Obj} (ho : ∃ es ep, o.data = .dict es ep) : ∀ n : Nat, (allO o n).objs.size = n ∧ ∀ i, i < n → (allO o n).get? i = some o
  | 0 => ⟨rfl, fun i h => absurd h (Nat.not_lt_zero _)⟩
  | n + 1 => by
    obtain ⟨h1, h2⟩ := allO_at ho n
    obtain ⟨es, ep, hd⟩ := ho
    refine ⟨by rw [allO, Heap.size_push, h1], fun i hi => ?_⟩
    by_cases e : i < n
    · exact Heap.get?_push_of_some _ (h2 i e)
    · have e : i = (allO o n).objs.size := by omega
      rw [e]
      exact Heap.get?_push_size _ (by obtain ⟨c, d, dt, sl⟩ := o; cases hd; rfl)
theorem exO_ne {a c : Addr} {o : Obj} {q : Str} (ho : ∃ es ep, o.data = .dict es ep) : exO a o ≠ LamX.CodeO c q := by
  intro e
  unfold exO LamX.CodeO at e
  have e1 := HO.ext.inj e
  have e2 := congrFun e1 (allO o (a + 1))
  have h1 : (allO o (a + 1)).get? a = some o := (allO_at ho (a + 1)).2 a (Nat.lt_succ_self a)
  have e3 : ((allO o (a + 1)).get? a = some o) = _ := e2
  have h2 := e3.mp h1
  obtain ⟨oc, vs, t, g, hd, _⟩ := h2
  have hl : c < a + 1 := by
    have := Heap.lt_size g
    rwa [(allO_at ho (a + 1)).1] at this
  rw [(allO_at ho (a + 1)).2 c hl] at g
  cases g
  obtain ⟨es, ep, hd2⟩ := ho
  rw [hd] at hd2
  cases hd2

/-- a frozen thing -/
def Fz (H : Hp) (a : Addr) (u : HO) : Prop := ∃ o, H a = some (.frz o u)
def SqF (K : PySem.W.Frag) (H : Hp) (a : Addr) (xs : List V) : Prop :=
  Fz H a (.lst xs) ∨
    ∃ (o : Obj) (its : Array Value) (n : Nat), K.lookup a = some o ∧ o.cls = .type "list" ∧ o.dict = none ∧ o.data = .seq its n ∧ its.size ≤ sizeLine ∧ Vals xs its.toList
theorem SqF.sql {K : PySem.W.Frag} {H : Hp} {a : Addr} {xs : List V} (h : SqF K H a xs) : SqL K H a xs := by
  rcases h with h | h
  · exact .inl (.inr h)
  · exact .inr h

/-- tuples and frozen things stay -/
structure Keep (H H' : Hp) : Prop where
  t : ∀ a xs, H a = some (.tup xs) → H' a = some (.tup xs)
  f : ∀ a o u, H a = some (.frz o u) → H' a = some (.frz o u)
theorem Keep.refl (H : Hp) : Keep H H := ⟨fun _ _ h => h, fun _ _ _ h => h⟩
theorem Keep.trans {H H1 H2 : Hp} (a : Keep H H1) (b : Keep H1 H2) : Keep H H2 := ⟨fun _ _ h => b.t _ _ (a.t _ _ h), fun _ _ _ h => b.f _ _ _ (a.f _ _ _ h)⟩
theorem Keep.new {H : Hp} {p : Addr} {o : HO} (h : H p = none) : Keep H (upd H p o) :=
  ⟨fun a xs e => by rw [upd_ne (ne_of_none e h)]; exact e, fun a o' u e => by rw [upd_ne (ne_of_none e h)]; exact e⟩
/-- what stands at p is neither a tuple nor frozen -/
def Loose (u : Option HO) : Prop := (∀ xs, u ≠ some (.tup xs)) ∧ ∀ o w, u ≠ some (.frz o w)
theorem Keep.put {H : Hp} {p : Addr} {o : HO} (h : Loose (H p)) : Keep H (upd H p o) :=
  ⟨fun a xs e => by
    have n : a ≠ p := fun z => by rw [z] at e; exact h.1 _ e
    rw [upd_ne n]; exact e, fun a o' u e => by
    have n : a ≠ p := fun z => by rw [z] at e; exact h.2 _ _ e
    rw [upd_ne n]; exact e⟩
theorem Fz.keep {H H' : Hp} {a : Addr} {u : HO} (h : Fz H a u) (k : Keep H H') : Fz H' a u := let ⟨o, e⟩ := h; ⟨o, k.f _ _ _ e⟩
theorem TupF.keep {K : PySem.W.Frag} {H H' : Hp} {a : Addr} {vs : List V} (h : TupF K H a vs) (k : Keep H H') : TupF K H' a vs := by
  rcases h with ⟨o, e, n⟩ | h
  · exact .inl ⟨o, k.f _ _ _ e, n⟩
  · exact .inr h
theorem SqF.keep {K : PySem.W.Frag} {H H' : Hp} {a : Addr} {xs : List V} (h : SqF K H a xs) (k : Keep H H') : SqF K H' a xs := by
  rcases h with h | h
  · exact .inl (h.keep k)
  · exact .inr h
theorem sqt_keep {K : PySem.W.Frag} {H H' : Hp} {a : Addr} {xs : List V} (h : SqT K H a xs) (k : Keep H H') : SqT K H' a xs := by
  rcases h with (h | ⟨o, h⟩) | h
  · exact .inl (.inl (k.t _ _ h))
  · exact .inl (.inr ⟨o, k.f _ _ _ h⟩)
  · exact .inr h

/-- an exception object of the class c that was caught -/
def EXO (c : Addr) (a : Addr) : HO := .ext fun h => ∃ (oe : Obj) (vs : Array Value), h.get? a = some oe ∧ Zc (.ref c) none oe ∧ oe.data = .fields vs

/-- what a value denotes -/
inductive Den (K : PySem.W.Frag) (H : Hp) : D → V → Prop where
  | non : Den K H .non .non
  | bl (b : Bool) : Den K H (.bl b) (.bl b)
  | int (i : Int) : Den K H (.int i) (.int i)
  | str (x : Str) (ok : PyData.strOk x = true) : Den K H (.str x) (.str x)
  | ty (n : String) : Den K H (.ty n) (.ty n)
  | ref (a : Addr) : Den K H (.ref a) (.ref a)
  | kt {a : Addr} {ds : List D} {vs : List V} (h : SqT K H a vs) (l : ds.length = vs.length) (r : ∀ (i : Nat) d v, ds[i]? = some d → vs[i]? = some v → Den K H d v) : Den K H (.kt ds) (.ref a)
  | tup {a : Addr} {ds : List D} {vs : List V} (h : TupF K H a vs) (l : ds.length = vs.length) (r : ∀ (i : Nat) d v, ds[i]? = some d → vs[i]? = some v → Den K H d v) : Den K H (.tup ds) (.ref a)
  | lst {a : Addr} {ds : List D} {vs : List V} (h : Fz H a (.lst vs)) (l : ds.length = vs.length) (r : ∀ (i : Nat) d v, ds[i]? = some d → vs[i]? = some v → Den K H d v) : Den K H (.lst ds) (.ref a)
  | kls {a : Addr} {ds : List D} {vs : List V} (h : SqF K H a vs) (l : ds.length = vs.length) (r : ∀ (i : Nat) d v, ds[i]? = some d → vs[i]? = some v → Den K H d v) : Den K H (.kls ds) (.ref a)
  | dK {a : Addr} {ds : List (Key × D)} {vs : List (Key × V)} (h : Fz H a (.dK vs)) (l : ds.map (·.1) = vs.map (·.1)) (r : ∀ (i : Nat) d v, (ds.map (·.2))[i]? = some d → (vs.map (·.2))[i]? = some v → Den K H d v) : Den K H (.dK ds) (.ref a)
  | dT {a : Addr} {o : Obj} {ds : List (NK × D)} {xs : Ents} {vs : List V} (h : Fz H a (exO a o)) (q : DOf a o xs) (l : ds.map (·.1) = xs.map (·.1)) (lv : Vals vs (xs.map fun x => x.2.2)) (rk : ∀ (i : Nat) (x : NK × Addr × Value), xs[i]? = some x → Den K H (ofNK x.1) (.ref x.2.1)) (r : ∀ (i : Nat) d v, (ds.map (·.2))[i]? = some d → vs[i]? = some v → Den K H d v) : Den K H (.dT ds) (.ref a)
  | exc {a c : Addr} {o : Obj} (h : H a = some (.frz o (EXO c a))) : Den K H (.exc c []) (.ref a)
theorem Den.keep {K : PySem.W.Frag} {H H' : Hp} {d : D} {v : V} (h : Den K H d v) (k : Keep H H') : Den K H' d v := by
  induction h with
  | non => exact .non
  | bl b => exact .bl b
  | int i => exact .int i
  | str x ok => exact .str x ok
  | ty n => exact .ty n
  | ref a => exact .ref a
  | tup h l _ ih => exact .tup (h.keep k) l ih
  | kt h l _ ih => exact .kt (sqt_keep h k) l ih
  | lst h l _ ih => exact .lst (h.keep k) l ih
  | kls h l _ ih => exact .kls (h.keep k) l ih
  | dK h l _ ih => exact .dK (h.keep k) l ih
  | dT h q l lv _ _ ihk ih => exact .dT (h.keep k) q l lv ihk ih
  | exc h => exact .exc (k.f _ _ _ h)

/-- lists of data and of values -/
def DenL (K : PySem.W.Frag) (H : Hp) (ds : List D) (vs : List V) : Prop := ds.length = vs.length ∧ ∀ (i : Nat) d v, ds[i]? = some d → vs[i]? = some v → Den K H d v
def DenKV {κ : Type} (K : PySem.W.Frag) (H : Hp) (ds : List (κ × D)) (vs : List (κ × V)) : Prop := ds.map (·.1) = vs.map (·.1) ∧ DenL K H (ds.map (·.2)) (vs.map (·.2))
/-- a dict with tuples as keys: what is known of it beside its place -/
structure DTc (K : PySem.W.Frag) (H : Hp) (ds : List (NK × D)) (a : Addr) (o : Obj) (xs : Ents) (vs : List V) : Prop where
  q : DOf a o xs
  l : ds.map (·.1) = xs.map (·.1)
  lv : Vals vs (xs.map fun x => x.2.2)
  rk : ∀ (i : Nat) (x : NK × Addr × Value), xs[i]? = some x → Den K H (ofNK x.1) (.ref x.2.1)
  r : DenL K H (ds.map (·.2)) vs
section
variable {K : PySem.W.Frag} {H H' : Hp}
theorem DenL.keep {ds : List D} {vs : List V} (h : DenL K H ds vs) (k : Keep H H') : DenL K H' ds vs := ⟨h.1, fun i d v e1 e2 => (h.2 i d v e1 e2).keep k⟩
theorem DenKV.keep {κ : Type} {ds : List (κ × D)} {vs : List (κ × V)} (h : DenKV K H ds vs) (k : Keep H H') : DenKV K H' ds vs := ⟨h.1, h.2.keep k⟩
theorem DTc.keep {ds : List (NK × D)} {a : Addr} {o : Obj} {xs : Ents} {vs : List V} (h : DTc K H ds a o xs vs) (k : Keep H H') : DTc K H' ds a o xs vs := ⟨h.q, h.l, h.lv, fun i x e => (h.rk i x e).keep k, h.r.keep k⟩
theorem DTc.den {ds : List (NK × D)} {a : Addr} {o : Obj} {xs : Ents} {vs : List V} (h : DTc K H ds a o xs vs) (e : Fz H a (exO a o)) : Den K H (.dT ds) (.ref a) := .dT e h.q h.l h.lv h.rk h.r.2
theorem dlen {α β γ δ : Type} {f : α → β} {g : γ → β} {h : α → δ} {ds : List α} {xs : List γ} (l : ds.map f = xs.map g) : (ds.map h).length = xs.length := by
  have := congrArg List.length l
  simpa using this
theorem DenL.nil : DenL K H [] [] := ⟨rfl, fun i d v e => by simp at e⟩
theorem DenL.cons {d : D} {ds : List D} {v : V} {vs : List V} (h : Den K H d v) (t : DenL K H ds vs) : DenL K H (d :: ds) (v :: vs) := by
  refine ⟨by simp [t.1], fun i d' v' e1 e2 => ?_⟩
  cases i with
  | zero => simp at e1 e2; subst e1 e2; exact h
  | succ i => exact t.2 i d' v' (by simpa using e1) (by simpa using e2)
theorem DenL.of_nil {vs : List V} (h : DenL K H [] vs) : vs = [] := by
  cases vs with
  | nil => rfl
  | cons v vs => exact absurd h.1 (by simp)
theorem DenL.of_cons {d : D} {ds : List D} {vs : List V} (h : DenL K H (d :: ds) vs) : ∃ v r, vs = v :: r ∧ Den K H d v ∧ DenL K H ds r := by
  cases vs with
  | nil => exact absurd h.1 (by simp)
  | cons v r =>
    refine ⟨v, r, rfl, h.2 0 d v rfl rfl, by have := h.1; simpa using this, fun i d' v' e1 e2 => h.2 (i + 1) d' v' (by simpa using e1) (by simpa using e2)⟩
theorem DenL.append {ds es : List D} {vs ws : List V} (h : DenL K H ds vs) (t : DenL K H es ws) : DenL K H (ds ++ es) (vs ++ ws) := by
  refine ⟨by simp [h.1, t.1], fun i d v e1 e2 => ?_⟩
  by_cases hi : i < ds.length
  · rw [List.getElem?_append_left hi] at e1
    rw [List.getElem?_append_left (by rw [← h.1]; exact hi)] at e2
    exact h.2 i d v e1 e2
  · rw [List.getElem?_append_right (by omega)] at e1
    rw [List.getElem?_append_right (by rw [← h.1]; omega), ← h.1] at e2
    exact t.2 _ d v e1 e2
theorem DenL.get {ds : List D} {vs : List V} (h : DenL K H ds vs) {i : Nat} {d : D} (e : ds[i]? = some d) : ∃ v, vs[i]? = some v ∧ Den K H d v := by
  have hi : i < ds.length := (List.getElem?_eq_some_iff.mp e).1
  have hv : i < vs.length := by rw [← h.1]; exact hi
  exact ⟨vs[i], List.getElem?_eq_getElem hv, h.2 i d _ e (List.getElem?_eq_getElem hv)⟩
theorem DenL.take {ds : List D} {vs : List V} (h : DenL K H ds vs) (n : Nat) : DenL K H (ds.take n) (vs.take n) := by
  refine ⟨by simp [h.1], fun i d v e1 e2 => ?_⟩
  rw [List.getElem?_take] at e1 e2
  split at e1
  · rename_i hi
    rw [if_pos hi] at e2
    exact h.2 i d v e1 e2
  · cases e1
theorem DenL.drop {ds : List D} {vs : List V} (h : DenL K H ds vs) (n : Nat) : DenL K H (ds.drop n) (vs.drop n) := by
  refine ⟨by simp [h.1], fun i d v e1 e2 => ?_⟩
  rw [List.getElem?_drop] at e1 e2
  exact h.2 _ d v e1 e2
theorem DenL.set {ds : List D} {vs : List V} (h : DenL K H ds vs) {d : D} {v : V} (n : Nat) (e : Den K H d v) : DenL K H (ds.set n d) (vs.set n v) := by
  refine ⟨by simp [h.1], fun i d' v' e1 e2 => ?_⟩
  by_cases hi : n = i
  · subst hi
    have hn : n < ds.length := by
      have := (List.getElem?_eq_some_iff.mp e1).1
      simpa using this
    rw [List.getElem?_set_self hn] at e1
    rw [List.getElem?_set_self (by rw [← h.1]; exact hn)] at e2
    cases e1; cases e2; exact e
  · rw [List.getElem?_set_ne hi] at e1 e2
    exact h.2 i d' v' e1 e2
theorem DenL.reverse {ds : List D} {vs : List V} (h : DenL K H ds vs) : DenL K H ds.reverse vs.reverse := by
  refine ⟨by simp [h.1], fun i d v e1 e2 => ?_⟩
  have hi : i < ds.length := by
    have := (List.getElem?_eq_some_iff.mp e1).1
    simpa using this
  rw [List.getElem?_reverse hi] at e1
  rw [List.getElem?_reverse (by rw [← h.1]; exact hi), ← h.1] at e2
  exact h.2 _ d v e1 e2
end

/-! tables of code objects -/
def TX : HO → Prop
  | .tbl _ => True
  | .ext φ => ∃ c q, HO.ext φ = LamX.CodeO c q
  | _ => False
def TabK (H H' : Hp) : Prop := ∀ a o, H a = some o → TX o → H' a = some o
theorem TabK.refl (H : Hp) : TabK H H := fun _ _ h _ => h
theorem TabK.trans {H H1 H2 : Hp} (a : TabK H H1) (b : TabK H1 H2) : TabK H H2 := fun p o h t => b p o (a p o h t) t
theorem TabK.new {H : Hp} {p : Addr} {o : HO} (h : H p = none) : TabK H (upd H p o) := fun a u e _ => by rw [upd_ne (ne_of_none e h)]; exact e
theorem TabK.put {H : Hp} {p : Addr} {u : HO} (h : ∀ o, H p = some o → ¬ TX o) : TabK H (upd H p u) := fun a o e t => by
  rw [upd_ne (fun z => h o (by rw [← z]; exact e) t)]; exact e
theorem tabs_k {T : List (Addr × Str)} {H H' : Hp} (t : LamX.Tabs T H) (k : TabK H H') : LamX.Tabs T H' := fun p hp => by
  obtain ⟨ps, h1, h2, h3⟩ := t p hp
  refine ⟨ps, k _ _ h1 trivial, h2, fun pos cv hc => ?_⟩
  obtain ⟨c, e1, e2⟩ := h3 pos cv hc
  exact ⟨c, e1, k _ _ e2 (show TX (LamX.CodeO c p.2) from ⟨c, p.2, rfl⟩)⟩

/-- something stands there, no table -/
def Ob (H : Hp) (a : Addr) : Prop := ∃ o, H a = some o ∧ ∀ ps, o ≠ .tbl ps
theorem Ob.upd {H : Hp} {a p : Addr} {u : HO} (h : a ≠ p → Ob H a) (hu : ∀ ps, u ≠ .tbl ps) : Ob (upd H p u) a := by
  by_cases n : a = p
  · rw [n]; exact ⟨u, upd_same, hu⟩
  · obtain ⟨o, e, z⟩ := h n
    exact ⟨o, by rw [upd_ne n]; exact e, z⟩
theorem Fable_tbl {ps : Array Value} {o : Obj} {u : HO} : HO.frz o u ≠ .tbl ps := by intro q; cases q
/-! the state of a def -/
inductive Sl where
  | un | val (d : D) | ol (ds : List D) | ok (kvs : List (Key × D)) | ot (kvs : List (NK × D))
inductive SO where
  | lst (ds : List D) | dK (kvs : List (Key × D)) | ins (C dx : Addr) (fs : List (Str × D))
abbrev En := List Sl
abbrev VS := L2.St
abbrev Sto := Addr → Option SO
def supd (st : Sto) (a : Addr) (o : SO) : Sto := fun b => if b = a then some o else st b
theorem supd_same {st : Sto} {a : Addr} {o : SO} : supd st a o a = some o := by unfold supd; rw [if_pos rfl]
theorem supd_ne {st : Sto} {a b : Addr} {o : SO} (h : b ≠ a) : supd st a o b = st b := by unfold supd; rw [if_neg h]
/-- an exception: its class, its fields -/
structure Exn where
  c : Addr
  fs : List (Str × D)
abbrev XD := Exn → En → Sto → Prop

/-- what is fixed in a def's run: G the abstract heap at its entry, dom what is shared then -/
structure DC where
  K : PySem.W.Frag
  G : Hp
  dom : Addr → Prop
  E : XD
  T : List (Addr × Str)

def SlOk (K : PySem.W.Frag) (H : Hp) : Sl → Option V → Prop
  | .un, _ => True
  | .val d, v => ∃ x, v = some x ∧ Den K H d x
  | .ol ds, v => ∃ a vs, v = some (.ref a) ∧ H a = some (.lst vs) ∧ DenL K H ds vs
  | .ok ds, v => ∃ a vs, v = some (.ref a) ∧ H a = some (.dK vs) ∧ DenKV K H ds vs
  | .ot ds, v => ∃ a o xs vs, v = some (.ref a) ∧ H a = some (exO a o) ∧ DTc K H ds a o xs vs
def Sl.owns : Sl → Bool
  | .ol _ => true
  | .ok _ => true
  | .ot _ => true
  | _ => false
def SOk (K : PySem.W.Frag) (H : Hp) (a : Addr) : SO → Prop
  | .lst ds => ∃ vs, H a = some (.lst vs) ∧ DenL K H ds vs
  | .dK ds => ∃ vs, H a = some (.dK vs) ∧ DenKV K H ds vs
  | .ins C dx fs => ∃ vs, H a = some (.ins C dx vs) ∧ DenKV K H fs vs
/-- slot i owns the object at a -/
def Owns (σd : En) (σ : VS) (i : Nat) (a : Addr) : Prop := ∃ x, σd[i]? = some x ∧ x.owns = true ∧ σ[i]? = some (some (.ref a))

structure Rel (C : DC) (σd : En) (st : Sto) (σ : VS) (H : Hp) : Prop where
  len : σd.length = σ.length
  sl : ∀ (i : Nat) x, σd[i]? = some x → SlOk C.K H x (σ[i]?).join
  dist : ∀ i j a, Owns σd σ i a → Owns σd σ j a → i = j
  new : ∀ i a, Owns σd σ i a → C.G a = none ∧ st a = none
  sh : ∀ a o, st a = some o → SOk C.K H a o
  dom : ∀ a, st a ≠ none → C.dom a ∨ C.G a = none
  fr : ∀ a o, C.G a = some o → ¬ C.dom a → (∀ ps, o ≠ .tbl ps) → H a = some o
  th : ∀ a, C.G a ≠ none → Ob H a
  tb : LamX.Tabs C.T H
end DL
namespace DL
open PySem PySem.Spec PyProof.Rows L2
variable [WW]
section
variable {C : DC} {σd σd' : En} {st st' : Sto} {σ σ' : VS} {H H' : Hp}

/-- a step of the abstract heap that leaves what is owned and what is shared -/
theorem SlOk.keep {K : PySem.W.Frag} {x : Sl} {v : Option V} (h : SlOk K H x v) (k : Keep H H') (e : ∀ a, x.owns = true → v = some (.ref a) → H' a = H a) : SlOk K H' x v := by
  cases x with
  | un => trivial
  | val d => obtain ⟨y, e1, h1⟩ := h; exact ⟨y, e1, h1.keep k⟩
  | ol ds => obtain ⟨a, vs, e1, e2, h1⟩ := h; exact ⟨a, vs, e1, (e a rfl e1).trans e2, h1.keep k⟩
  | ok ds => obtain ⟨a, vs, e1, e2, h1⟩ := h; exact ⟨a, vs, e1, (e a rfl e1).trans e2, h1.keep k⟩
  | ot ds => obtain ⟨a, o, xs, vs, e1, e2, h1⟩ := h; exact ⟨a, o, xs, vs, e1, (e a rfl e1).trans e2, h1.keep k⟩
theorem SOk.keep {K : PySem.W.Frag} {a : Addr} {o : SO} (h : SOk K H a o) (k : Keep H H') (e : H' a = H a) : SOk K H' a o := by
  cases o with
  | lst ds => obtain ⟨vs, e2, h1⟩ := h; exact ⟨vs, e.trans e2, h1.keep k⟩
  | dK ds => obtain ⟨vs, e2, h1⟩ := h; exact ⟨vs, e.trans e2, h1.keep k⟩
  | ins c dx ds => obtain ⟨vs, e2, h1⟩ := h; exact ⟨vs, e.trans e2, h1.keep k⟩
theorem SOk.some {K : PySem.W.Frag} {a : Addr} {o : SO} (h : SOk K H a o) : ∃ u, H a = some u ∧ Loose (some u) ∧ ∀ ps, u ≠ .tbl ps := by
  cases o with
  | lst ds => obtain ⟨vs, e2, _⟩ := h; exact ⟨_, e2, ⟨(by intro z q; cases q), (by intro z w q; cases q)⟩, by intro z q; cases q⟩
  | dK ds => obtain ⟨vs, e2, _⟩ := h; exact ⟨_, e2, ⟨(by intro z q; cases q), (by intro z w q; cases q)⟩, by intro z q; cases q⟩
  | ins c dx ds => obtain ⟨vs, e2, _⟩ := h; exact ⟨_, e2, ⟨(by intro z q; cases q), (by intro z w q; cases q)⟩, by intro z q; cases q⟩
theorem SOk.tx {K : PySem.W.Frag} {a : Addr} {o : SO} (h : SOk K H a o) : ∀ u, H a = Option.some u → ¬ TX u := by
  intro u e
  cases o with
  | lst ds => obtain ⟨vs, e2, _⟩ := h; rw [e2] at e; cases e; exact fun z => z
  | dK ds => obtain ⟨vs, e2, _⟩ := h; rw [e2] at e; cases e; exact fun z => z
  | ins c dx ds => obtain ⟨vs, e2, _⟩ := h; rw [e2] at e; cases e; exact fun z => z
theorem SlOk.tx {K : PySem.W.Frag} {x : Sl} {a : Addr} (h : SlOk K H x (some (.ref a))) (o : x.owns = true) : ∀ u, H a = some u → ¬ TX u := by
  intro u e
  cases x with
  | un => cases o
  | val d => cases o
  | ol ds => obtain ⟨b, vs, e1, e2, _⟩ := h; cases e1; rw [e2] at e; cases e; exact fun z => z
  | ok ds => obtain ⟨b, vs, e1, e2, _⟩ := h; cases e1; rw [e2] at e; cases e; exact fun z => z
  | ot ds => obtain ⟨b, o, xs, vs, e1, e2, h1⟩ := h; cases e1; rw [e2] at e; cases e; exact fun ⟨c, q, z⟩ => exO_ne (let ⟨es, ep, d, _⟩ := h1.q.es; ⟨es, ep, d⟩) z
theorem SlOk.some {K : PySem.W.Frag} {x : Sl} {a : Addr} (h : SlOk K H x (some (.ref a))) (o : x.owns = true) : ∃ u, H a = some u ∧ Loose (some u) ∧ ∀ ps, u ≠ .tbl ps := by
  cases x with
  | un => cases o
  | val d => cases o
  | ol ds => obtain ⟨b, vs, e1, e2, _⟩ := h; cases e1; exact ⟨_, e2, ⟨(by intro z q; cases q), (by intro z w q; cases q)⟩, by intro z q; cases q⟩
  | ok ds => obtain ⟨b, vs, e1, e2, _⟩ := h; cases e1; exact ⟨_, e2, ⟨(by intro z q; cases q), (by intro z w q; cases q)⟩, by intro z q; cases q⟩
  | ot ds => obtain ⟨b, o, xs, vs, e1, e2, _⟩ := h; cases e1; exact ⟨_, e2, ⟨(by intro z q; cases q), (by intro z w q; cases q)⟩, by intro z q; cases q⟩
theorem Rel.owned (r : Rel C σd st σ H) {i : Nat} {a : Addr} (h : Owns σd σ i a) : ∃ u, H a = some u ∧ Loose (some u) ∧ ∀ ps, u ≠ .tbl ps := by
  obtain ⟨x, e1, e2, e3⟩ := h
  have q := r.sl i x e1
  rw [e3] at q
  exact SlOk.some q e2
theorem Rel.owned_tx (r : Rel C σd st σ H) {i : Nat} {a : Addr} (h : Owns σd σ i a) : ∀ u, H a = some u → ¬ TX u := by
  obtain ⟨x, e1, e2, e3⟩ := h
  have q := r.sl i x e1
  rw [e3] at q
  exact SlOk.tx q e2
/-- what is new is owned by none, shared by none, not there at the entry -/
theorem Rel.fresh (r : Rel C σd st σ H) {p : Addr} (h : H p = none) : (∀ i, ¬ Owns σd σ i p) ∧ st p = none ∧ C.G p = none := by
  refine ⟨fun i q => ?_, ?_, ?_⟩
  · obtain ⟨u, e, _⟩ := r.owned q
    rw [h] at e; cases e
  · cases e : st p with
    | none => rfl
    | some o =>
      obtain ⟨u, q, _⟩ := (r.sh p o e).some
      rw [h] at q; cases q
  · cases e : C.G p with
    | none => rfl
    | some o =>
      obtain ⟨o', q, _⟩ := r.th p (by rw [e]; simp)
      rw [h] at q; cases q
/-- the heap steps: new things are laid, code tables may grow; what is owned, shared stays as it is -/
structure Mild (H H' : Hp) : Prop where
  k : Keep H H'
  s : ∀ a o, H a = some o → (∀ ps, o ≠ .tbl ps) → H' a = some o
  x : TabK H H'
theorem Mild.refl (H : Hp) : Mild H H := ⟨Keep.refl H, fun _ _ h _ => h, TabK.refl H⟩
theorem Mild.trans {H H1 H2 : Hp} (a : Mild H H1) (b : Mild H1 H2) : Mild H H2 := ⟨a.k.trans b.k, fun p o h n => b.s p o (a.s p o h n) n, a.x.trans b.x⟩
theorem Mild.new {H : Hp} {p : Addr} {o : HO} (h : H p = none) : Mild H (upd H p o) :=
  ⟨Keep.new h, fun a u e _ => by rw [upd_ne (ne_of_none e h)]; exact e, TabK.new h⟩
theorem Rel.mild (r : Rel C σd st σ H) (m : Mild H H') : Rel C σd st σ H' := by
  refine ⟨r.len, fun i x e => ?_, r.dist, r.new, fun a o e => ?_, r.dom, fun a o e1 e2 e3 => m.s a o (r.fr a o e1 e2 e3) e3, fun a e => (let ⟨o, e2, n⟩ := r.th a e; ⟨o, m.s a o e2 n, n⟩), tabs_k r.tb m.x⟩
  · refine (r.sl i x e).keep m.k fun a ho hv => ?_
    have q : σ[i]? = some (some (.ref a)) := by
      cases w : σ[i]? with
      | none => rw [w] at hv; cases hv
      | some y => rw [w] at hv; exact congrArg Option.some hv
    obtain ⟨u, e1, _, e2⟩ := r.owned ⟨x, e, ho, q⟩
    rw [m.s a u e1 e2, e1]
  · obtain ⟨u, e1, _, e2⟩ := (r.sh a o e).some
    exact (r.sh a o e).keep m.k (by rw [m.s a u e1 e2, e1])
end

/-! ### expressions -/
abbrev QD := D → En → Sto → Prop
abbrev TED := XD → En → Sto → QD → Prop
/-- a value held while other things are reckoned -/
def DenT (K : PySem.W.Frag) (σ : VS) (H : Hp) : D → V → Prop
  | .own i, v => σ[i]? = some (some v)
  | d, v => Den K H d v
theorem DenT.keep {K : PySem.W.Frag} {σ : VS} {H H' : Hp} {d : D} {v : V} (h : DenT K σ H d v) (k : Keep H H') : DenT K σ H' d v := by
  cases d <;> first | exact h | exact Den.keep h k
theorem DenT.of {K : PySem.W.Frag} {σ : VS} {H : Hp} {d : D} {v : V} (h : Den K H d v) : DenT K σ H d v := by
  cases d <;> first | exact h | (cases h)
def emb (C : DC) (t : TED) : TE := fun σ H Q => ∃ σd st Qd, Rel C σd st σ H ∧ t C.E σd st Qd ∧
  ∀ v H' d σd' st', Rel C σd' st' σ H' → DenT C.K σ H' d v → Keep H H' → Qd d σd' st' → Q v H'
def DE (X : Cx) (C : DC) (e : Expr) (t : TED) : Prop := PE X e (emb C t)
end DL
namespace DL
open PySem PySem.Spec PyProof.Rows L2
variable [WW]
/-! ### freezing -/
def Fable : HO → Prop
  | .lst _ => True
  | .dK _ => True
  | .ext φ => ¬ ∃ c q, HO.ext φ = LamX.CodeO c q
  | _ => False
theorem Fable.exO {a : Addr} {o : Obj} {xs : Ents} (h : DOf a o xs) : Fable (exO a o) := fun ⟨c, q, z⟩ => exO_ne (let ⟨es, ep, d, _⟩ := h.es; ⟨es, ep, d⟩) z
theorem Fable.tx {u : HO} (h : Fable u) : ¬ TX u := by
  cases u <;> first | exact False.elim h | exact fun z => z | exact h
theorem Fable.loose {u : HO} (h : Fable u) : Loose (some u) := by
  cases u <;> first | exact False.elim h | exact ⟨(by intro z q; cases q), (by intro z w q; cases q)⟩
theorem Inv.freeze {X : Cx} {pins : List (Addr × Obj)} {σ : VS} {H : Hp} {s : Shared} {a : Addr} {u : HO} (I : Inv X pins σ H s) (e : H a = some u) (f : Fable u) : ∃ o, Inv X pins σ (upd H a (.frz o u)) s := by
  obtain ⟨o, ho⟩ : ∃ o, s.heap.get? a = some o := objOk_get (I.hok a u e)
  have nN : ∀ b, H b = none → b ≠ a := fun b q z => by rw [z, e] at q; cases q
  have nT : ∀ b xs, H b = some (.tup xs) → b ≠ a := fun b xs q z => by rw [z, e] at q; cases q; exact f
  have nF : ∀ b o w, H b = some (.frz o w) → b ≠ a := fun b o w q z => by rw [z, e] at q; cases q; exact f
  have nB : ∀ b ps, H b = some (.tbl ps) → b ≠ a := fun b ps q z => by rw [z, e] at q; cases q; exact f
  have nO : ∀ b c, H b = some (.own c) → b ≠ a := fun b c q z => by rw [z, e] at q; cases q; exact f
  refine ⟨o, I.ok, I.os, I.bare, ⟨fun b v h1 h2 h3 h4 => I.base.keep b v h1 h2 h3 h4, fun b v h1 h2 h3 h4 => I.base.slot b v h1 h2 h3 h4, fun b v h1 h2 h3 => ?_, fun b v h1 h2 => I.base.there b v h1 h2, fun b xs q => ?_, fun b v w q => ?_, fun b ps q => ?_⟩, I.loc, I.cell, ?_, fun x c q => ?_, fun p hp => ?_, fun b w q => ?_, I.len⟩
  · have q := I.base.free b v h1 h2 h3
    rw [upd_ne (nN b q)]; exact q
  · have q := I.base.tups b xs q
    rw [upd_ne (nT b xs q)]; exact q
  · have q := I.base.frzs b v w q
    rw [upd_ne (nF b v w q)]; exact q
  · obtain ⟨m, q⟩ := I.base.tbls b ps q
    exact ⟨m, by rw [upd_ne (nB b _ q)]; exact q⟩
  · rw [upd_ne (nN _ I.free)]; exact I.free
  · rw [upd_ne (nN _ (I.freeC x c q))]; exact I.freeC x c q
  · obtain ⟨h1, h2, h3⟩ := I.pin p hp
    exact ⟨h1, by rw [upd_ne (nN _ h2)]; exact h2, h3⟩
  · have st : ∀ {b : Addr} {w : HO}, ObjOk X.prog X.w H s.heap b w → ObjOk X.prog X.w (upd H a (.frz o u)) s.heap b w := fun {b w} z =>
      z.stay (fun _ _ _ q => q) (fun c q => by rw [upd_ne (nO c _ q)]; exact q) fun c xs q => by rw [upd_ne (nT c xs q)]; exact q
    by_cases hb : b = a
    · subst hb
      rw [upd_same] at q; cases q
      exact ⟨ho, st (I.hok b u e)⟩
    · rw [upd_ne hb] at q
      exact st (I.hok b w q)

/-- a value may be frozen behind its making -/
def Shf (Q : VK) (v : V) (H : Hp) : Prop := Q v H ∨ ∃ a u, v = .ref a ∧ H a = some u ∧ Fable u ∧ ∀ o, Q v (upd H a (.frz o u))
theorem ep_shf {X : Cx} {pins : List (Addr × Obj)} {σ : VS} {Q : VK} {u : Value} {s : Shared} (h : EP X pins σ (Shf Q) u s) : EP X pins σ Q u s := by
  obtain ⟨v, H, I, r, q | ⟨a, w, rfl, e, f, q⟩⟩ := h
  · exact ⟨v, H, I, r, q⟩
  · obtain ⟨o, J⟩ := Inv.freeze I e f
    exact ⟨.ref a, _, J, r, q o⟩
theorem pe_shf {X : Cx} {e : Expr} {t : TE} (h : PE X e t) : PE X e (fun σ H Q => t σ H (Shf Q)) :=
  ⟨fun pins s σ H Q I hq => thn (h.run pins s σ H _ I hq) fun _ _ z => ep_shf z⟩

/-! ### reading -/
def rdS (i : Nat) : Option Sl → D
  | some (.ol ds) => .lst ds
  | some (.ok ds) => .dK ds
  | some (.ot ds) => .dT ds
  | some (.val d) => d
  | _ => .own i
def rdA (a : Addr) : Option SO → D
  | some (.lst ds) => .lst ds
  | some (.dK ds) => .dK ds
  | _ => .ref a
def rd (σd : En) (st : Sto) : D → D
  | .own i => rdS i σd[i]?
  | .ref a => rdA a (st a)
  | d => d
def Red (K : PySem.W.Frag) (H : Hp) : D → V → Prop
  | .lst ds, v => ∃ a vs, v = .ref a ∧ Rd H a (.lst vs) ∧ DenL K H ds vs
  | .dK ds, v => ∃ a vs, v = .ref a ∧ Rd H a (.dK vs) ∧ DenKV K H ds vs
  | .dT ds, v => ∃ a o xs vs, v = .ref a ∧ (H a = some (exO a o) ∨ Fz H a (exO a o)) ∧ DTc K H ds a o xs vs
  | .own _, _ => True
  | d, v => Den K H d v
theorem Red.of {K : PySem.W.Frag} {H : Hp} {d : D} {v : V} (h : Den K H d v) : Red K H d v := by
  cases h with
  | lst h l r => exact ⟨_, _, rfl, .inr h, l, r⟩
  | kls h l r => exact .kls h l r
  | dK h l r => exact ⟨_, _, rfl, .inr h, l, by have := congrArg List.length l; simpa using this, r⟩
  | dT h q l lv rk r => exact ⟨_, _, _, _, rfl, .inr h, q, l, lv, rk, by rw [dlen l, lv.length, List.length_map], r⟩
  | non => exact .non
  | bl b => exact .bl b
  | int i => exact .int i
  | str x ok => exact .str x ok
  | ty n => exact .ty n
  | ref a => exact .ref a
  | tup h l r => exact .tup h l r
  | kt h l r => exact .kt h l r
  | exc h => exact .exc h
theorem rd_ok {C : DC} {σd : En} {st : Sto} {σ : VS} {H : Hp} {d : D} {v : V} (r : Rel C σd st σ H) (h : DenT C.K σ H d v) : Red C.K H (rd σd st d) v := by
  cases d with
  | own i =>
    have h' : σ[i]? = some (some v) := h
    show Red C.K H (rdS i σd[i]?) v
    cases e : σd[i]? with
    | none => exact trivial
    | some x =>
      have q := r.sl i x e
      rw [h'] at q
      cases x with
      | un => exact trivial
      | val d =>
        obtain ⟨y, e1, h1⟩ := q
        cases e1
        exact Red.of h1
      | ol ds => obtain ⟨a, vs, e1, e2, h1⟩ := q; cases e1; exact ⟨a, vs, rfl, .of e2, h1⟩
      | ok ds => obtain ⟨a, vs, e1, e2, h1⟩ := q; cases e1; exact ⟨a, vs, rfl, .of e2, h1⟩
      | ot ds => obtain ⟨a, o, xs, vs, e1, e2, h1⟩ := q; cases e1; exact ⟨a, o, xs, vs, rfl, .inl e2, h1⟩
  | ref a =>
    have h' : Den C.K H (.ref a) v := h
    cases h'
    show Red C.K H (rdA a (st a)) (.ref a)
    cases e : st a with
    | none => exact .ref a
    | some o =>
      have q := r.sh a o e
      cases o with
      | lst ds => obtain ⟨vs, e2, h1⟩ := q; exact ⟨a, vs, rfl, .of e2, h1⟩
      | dK ds => obtain ⟨vs, e2, h1⟩ := q; exact ⟨a, vs, rfl, .of e2, h1⟩
      | ins c dx fs => exact .ref a
  | _ => exact Red.of h

/-! ### what is kept for good is frozen -/
def fzV (σd : En) : D → D
  | .own i => rdS i σd[i]?
  | d => d
def fzS (σd : En) (i : Nat) : Option Sl → En
  | some (.ol ds) => σd.set i (.val (.lst ds))
  | some (.ok ds) => σd.set i (.val (.dK ds))
  | some (.ot ds) => σd.set i (.val (.dT ds))
  | _ => σd
def fzE (σd : En) : D → En
  | .own i => fzS σd i σd[i]?
  | _ => σd
def noOwn : D → Prop
  | .own _ => False
  | _ => True
theorem DenT.den {K : PySem.W.Frag} {σ : VS} {H : Hp} {d : D} {v : V} (h : DenT K σ H d v) (n : noOwn d) : Den K H d v := by
  cases d <;> first | exact h | exact n.elim

section
variable {C : DC} {σd : En} {st : Sto} {σ : VS} {H : Hp}
theorem join_some {σ : VS} {i : Nat} {v : V} (h : (σ[i]?).join = some v) : σ[i]? = some (some v) := by
  cases w : σ[i]? with
  | none => rw [w] at h; cases h
  | some y => rw [w] at h; exact congrArg Option.some h
/-- the thing that slot i owns becomes a frozen one -/
theorem Rel.frozen (r : Rel C σd st σ H) {i : Nat} {a : Addr} {u : HO} {d : D} {o : Obj} (w : Owns σd σ i a) (e : H a = some u) (f : Fable u) (hd : Den C.K (upd H a (.frz o u)) d (.ref a)) : Rel C (σd.set i (.val d)) st σ (upd H a (.frz o u)) := by
  have kp : Keep H (upd H a (.frz o u)) := Keep.put (by rw [e]; exact f.loose)
  obtain ⟨x, ei, ho, hs⟩ := id w
  have hi : i < σd.length := (List.getElem?_eq_some_iff.mp ei).1
  obtain ⟨gN, sN⟩ := r.new i a w
  have ow : ∀ j b, Owns (σd.set i (.val d)) σ j b → Owns σd σ j b ∧ b ≠ a := fun j b ⟨y, e1, e2, e3⟩ => by
    by_cases hj : i = j
    · subst hj
      rw [List.getElem?_set_self hi] at e1
      cases e1; cases e2
    · rw [List.getElem?_set_ne hj] at e1
      refine ⟨⟨y, e1, e2, e3⟩, fun z => hj ?_⟩
      subst z
      exact r.dist i j _ w ⟨y, e1, e2, e3⟩
  refine ⟨by simp [r.len], fun j y ej => ?_, fun j k b h1 h2 => r.dist j k b (ow j b h1).1 (ow k b h2).1, fun j b h => r.new j b (ow j b h).1, fun b so eb => ?_, r.dom, fun b v e1 e2 e3 => ?_, fun b e1 => ?_, tabs_k r.tb (TabK.put fun o' q => by rw [e] at q; cases q; exact f.tx)⟩
  · by_cases hj : i = j
    · subst hj
      rw [List.getElem?_set_self hi] at ej
      cases ej
      exact ⟨.ref a, by rw [hs]; rfl, hd⟩
    · rw [List.getElem?_set_ne hj] at ej
      refine (r.sl j y ej).keep kp fun b hb hv => ?_
      have n : b ≠ a := fun z => hj (by subst z; exact r.dist i j _ w ⟨y, ej, hb, join_some hv⟩)
      exact upd_ne n
  · have n : b ≠ a := fun z => by rw [z, sN] at eb; cases eb
    exact (r.sh b so eb).keep kp (upd_ne n)
  · have n : b ≠ a := fun z => by rw [z, gN] at e1; cases e1
    rw [upd_ne n]; exact r.fr b v e1 e2 e3
  · exact Ob.upd (fun _ => r.th b e1) fun _ => Fable_tbl
theorem frz_den_lst {K : PySem.W.Frag} {a : Addr} {ds : List D} {vs : List V} {o : Obj} (e : H a = some (.lst vs)) (h : DenL K H ds vs) : Den K (upd H a (.frz o (.lst vs))) (.lst ds) (.ref a) := by
  have kp : Keep H (upd H a (.frz o (.lst vs))) := Keep.put (by rw [e]; exact Fable.loose (u := .lst vs) trivial)
  exact .lst ⟨o, upd_same⟩ h.1 (h.keep kp).2
theorem frz_den_dK {K : PySem.W.Frag} {a : Addr} {ds : List (Key × D)} {vs : List (Key × V)} {o : Obj} (e : H a = some (.dK vs)) (h : DenKV K H ds vs) : Den K (upd H a (.frz o (.dK vs))) (.dK ds) (.ref a) := by
  have kp : Keep H (upd H a (.frz o (.dK vs))) := Keep.put (by rw [e]; exact Fable.loose (u := .dK vs) trivial)
  exact .dK ⟨o, upd_same⟩ h.1 (h.keep kp).2.2
theorem frz_den_dT {K : PySem.W.Frag} {a : Addr} {ds : List (NK × D)} {xs : Ents} {vs : List V} {o o' : Obj} (e : H a = some (exO a o)) (h : DTc K H ds a o xs vs) : Den K (upd H a (.frz o' (exO a o))) (.dT ds) (.ref a) := by
  have kp : Keep H (upd H a (.frz o' (exO a o))) := Keep.put (by rw [e]; exact Fable.loose (Fable.exO h.q))
  exact (h.keep kp).den ⟨o', upd_same⟩
/-- the end of a thing's making, frozen if it is owned -/
theorem fz_ok (r : Rel C σd st σ H) {d : D} {v : V} (h : DenT C.K σ H d v) (n : noOwn (fzV σd d)) {Q : VK}
    (q : ∀ H', Rel C (fzE σd d) st σ H' → Den C.K H' (fzV σd d) v → Keep H H' → Q v H') : Shf Q v H := by
  cases d with
  | own i =>
    have h' : σ[i]? = some (some v) := h
    have n' : noOwn (rdS i σd[i]?) := n
    have q' : ∀ H', Rel C (fzS σd i σd[i]?) st σ H' → Den C.K H' (rdS i σd[i]?) v → Keep H H' → Q v H' := q
    clear n q
    revert n' q'
    cases e : σd[i]? with
    | none => intro n _; exact n.elim
    | some x =>
      have z := r.sl i x e
      rw [h'] at z
      cases x with
      | un => intro n _; exact n.elim
      | val d =>
        intro n q
        obtain ⟨y, e1, h1⟩ := z
        cases e1
        exact .inl (q H r h1 (Keep.refl H))
      | ol ds =>
        intro n q
        obtain ⟨a, vs, e1, e2, h1⟩ := z
        cases e1
        refine .inr ⟨a, _, rfl, e2, trivial, fun o => q _ ?_ (frz_den_lst e2 h1) (Keep.put (by rw [e2]; exact Fable.loose (u := .lst vs) trivial))⟩
        exact r.frozen ⟨_, e, rfl, h'⟩ e2 trivial (frz_den_lst e2 h1)
      | ok ds =>
        intro n q
        obtain ⟨a, vs, e1, e2, h1⟩ := z
        cases e1
        refine .inr ⟨a, _, rfl, e2, trivial, fun o => q _ ?_ (frz_den_dK e2 h1) (Keep.put (by rw [e2]; exact Fable.loose (u := .dK vs) trivial))⟩
        exact r.frozen ⟨_, e, rfl, h'⟩ e2 trivial (frz_den_dK e2 h1)
      | ot ds =>
        intro n q
        obtain ⟨a, o, xs, vs, e1, e2, h1⟩ := z
        cases e1
        refine .inr ⟨a, _, rfl, e2, Fable.exO h1.q, fun o' => q _ ?_ (frz_den_dT e2 h1) (Keep.put (by rw [e2]; exact Fable.loose (Fable.exO h1.q)))⟩
        exact r.frozen ⟨_, e, rfl, h'⟩ e2 (Fable.exO h1.q) (frz_den_dT e2 h1)
  | _ => exact .inl (q H r (DenT.den h trivial) (Keep.refl H))
end
/-- e, to be kept: frozen if it is owned -/
def eFz (t : TED) : TED := fun E σd st Q => t E σd st fun d σ1 st1 => noOwn (fzV σ1 d) ∧ Q (fzV σ1 d) (fzE σ1 d) st1
/-- .. that is held for good -/
def embD (C : DC) (t : TED) : TE := fun σ H Q => ∃ σd st Qd, Rel C σd st σ H ∧ t C.E σd st Qd ∧
  ∀ v H' d σd' st', Rel C σd' st' σ H' → Den C.K H' d v → Keep H H' → Qd d σd' st' → Q v H'
def DED (X : Cx) (C : DC) (e : Expr) (t : TED) : Prop := PE X e (embD C t)
theorem de_fzD {X : Cx} {C : DC} {e : Expr} {t : TED} (h : DE X C e t) : DED X C e (eFz t) := by
  have h2 : PE X e (fun σ H Q => emb C t σ H (Shf Q)) := pe_shf h
  refine ⟨fun pins s σ H Q I q => h2.run pins s σ H Q I ?_⟩
  obtain ⟨σd, st, Qd, r, ht, k⟩ := q
  refine ⟨σd, st, _, r, ht, fun v H' d σd' st' r' h' kp ⟨n, q⟩ => ?_⟩
  exact fz_ok r' h' n fun H2 r2 h2 k2 => k v H2 _ _ _ r2 h2 (kp.trans k2) q
theorem de_ofD {X : Cx} {C : DC} {e : Expr} {t : TED} (h : DED X C e t) : DE X C e t :=
  ⟨fun pins s σ H Q I ⟨σd, st, Qd, r, ht, k⟩ => h.run pins s σ H Q I ⟨σd, st, Qd, r, ht, fun v H' d σd' st' r' hd => k v H' d σd' st' r' (.of hd)⟩⟩
theorem de_fz {X : Cx} {C : DC} {e : Expr} {t : TED} (h : DE X C e t) : DE X C e (eFz t) := de_ofD (de_fzD h)
end DL

set_option Elab.async false
set_option linter.all false
set_option maxRecDepth 100000
namespace DL
open PySem PySem.Spec PyProof.Rows L2
variable [WW]
/-! ### the context -/
def XDen (K : PySem.W.Frag) (H : Hp) (x : Exn) (cls : Value) (d : Option Addr) : Prop :=
  cls = .ref x.c ∧ ((x.fs = [] ∧ d = none) ∨ (x.fs ≠ [] ∧ ∃ dd vs, d = some dd ∧ H dd = some (.xd vs) ∧ DenKV K H x.fs vs))
structure Ctx (X : Cx) (C : DC) : Prop where
  K : X.K = C.K
  w : X.w = WW.w
  calm : X.calm = true
  nd : X.N.Nodup
  hu : X.A.units + 100 < cLine
  tk : ∃ W : WX, Takes X W ∧ ∀ cls d σ H x σd st, Rel C σd st σ H → XDen C.K H x cls d → C.E x σd st → W cls d σ H

section
variable {X : Cx} {C : DC} {a b e : Expr} {ta tb te : TED} {pos : Pos}
/-! ### names, constants -/
def slD (i : Nat) : Option Sl → (D → Prop) → Prop
  | some (.val d), Q => Q d
  | some (.ol _), Q => Q (.own i)
  | some (.ok _), Q => Q (.own i)
  | some (.ot _), Q => Q (.own i)
  | _, _ => False
def eVar (i : Nat) : TED := fun _ σ st Q => slD i σ[i]? fun d => Q d σ st
def eC (d : D) : TED := fun _ σ st Q => Q d σ st
theorem de_var {i : Nat} {x : Str} (hN : X.N[i]? = some x) (hv : Vis X.env.scope x) (hd : (x == ("__debug__" : Str)) = false := by decide) (hcd : (x == ("__classdict__" : Str)) = false := by decide) : DE X C (.Name x pos) (eVar i) := by
  have h0 : PE X (.Name x pos) (tVar i) := pe_var hN hv hd hcd
  refine ⟨fun pins s σ H Q I q => h0.run pins s σ H Q I ?_⟩
  obtain ⟨σd, st, Qd, r, ht, k⟩ := q
  have ht' : slD i σd[i]? fun d => Qd d σd st := ht
  cases ei : σd[i]? with
  | none => rw [ei] at ht'; exact ht'.elim
  | some y =>
    rw [ei] at ht'
    have z := r.sl i y ei
    cases y with
    | un => exact ht'.elim
    | val d =>
      obtain ⟨v, e1, h1⟩ := z
      exact ⟨v, join_some e1, k v H d σd st r (.of h1) (Keep.refl H) ht'⟩
    | ol ds =>
      obtain ⟨p, vs, e1, _⟩ := z
      exact ⟨_, join_some e1, k _ H (.own i) σd st r (join_some e1) (Keep.refl H) ht'⟩
    | ok ds =>
      obtain ⟨p, vs, e1, _⟩ := z
      exact ⟨_, join_some e1, k _ H (.own i) σd st r (join_some e1) (Keep.refl H) ht'⟩
    | ot ds =>
      obtain ⟨p, o, xs, vs, e1, _⟩ := z
      exact ⟨_, join_some e1, k _ H (.own i) σd st r (join_some e1) (Keep.refl H) ht'⟩
theorem de_const {d : D} {v : V} (h : PE X e (tC v)) (hd : ∀ H, Den C.K H d v) : DE X C e (eC d) := by
  refine ⟨fun pins s σ H Q I q => h.run pins s σ H Q I ?_⟩
  obtain ⟨σd, st, Qd, r, ht, k⟩ := q
  exact k v H d σd st r (.of (hd H)) (Keep.refl H) ht
theorem de_int {i j pos} : DE X C (.Constant (.int i) j pos) (eC (.int i)) := de_const pe_int fun _ => .int i
theorem de_bl {b j pos} : DE X C (.Constant (.bool b) j pos) (eC (.bl b)) := de_const pe_bl fun _ => .bl b
theorem de_non {j pos} : DE X C (.Constant .none j pos) (eC .non) := de_const pe_non fun _ => .non
theorem de_str {x j pos} (h : PyData.strOk x = true := by decide +kernel) : DE X C (.Constant (.str x) j pos) (eC (.str x)) := de_const pe_str fun _ => .str x h
/-- a module's name for an object; a built-in class -/
theorem de_glob {x : Str} {v : V} {u : Value} {d : D} (hg : Gl X x) (hm : X.mg x = some u) (r : RelV v u) (hd : ∀ H, Den C.K H d v) (hb : (x == ("__debug__" : Str)) = false := by decide) : DE X C (.Name x pos) (eC d) := de_const (pe_glob hg hm r hb) hd
theorem de_bltn {x : Str} {v : V} {u : Value} {d : D} (hg : Gl X x) (hm : X.mg x = none) (hv : bootBuiltins x = some u) (r : RelV v u) (hd : ∀ H, Den C.K H d v) (hn : x ≠ "__name__" := by decide) (hb : (x == ("__debug__" : Str)) = false := by decide) :
    DE X C (.Name x pos) (eC d) := de_const (pe_bltn hg hm hv r hn hb) hd

/-! ### operators by values -/
abbrev B2 := D → D → (D → Prop) → Prop
/-- what is left of a reckoning by values: a thing of its own -/
def Out (K : PySem.W.Frag) (H : Hp) (Qd : D → Prop) (Q : VK) : Prop := ∀ z H' d, Mild H H' → Den K H' d z → noOwn d → Qd d → Q z H'
def rB (K : PySem.W.Frag) (b : B2) : R2 := fun x y H Q => ∃ dx dy Qd, Red K H dx x ∧ Red K H dy y ∧ b dx dy Qd ∧ Out K H Qd Q
def OpD (X : Cx) (C : DC) (f : Value → Value → Sem Value) (b : B2) : Prop := OpR X f (rB C.K b)
def eBin (b : B2) (ta tb : TED) : TED := fun E σ st Q => ta E σ st fun x σ1 st1 => tb E σ1 st1 fun y σ2 st2 => b (rd σ2 st2 x) (rd σ2 st2 y) fun d => Q d σ2 st2
theorem DE.imp {t : TE} {td : TED} (h : PE X e t) (i : ∀ σ H Q, emb C td σ H Q → t σ H Q) : DE X C e td := ⟨fun pins s σ H Q I q => h.run pins s σ H Q I (i σ H Q q)⟩
/-- the end of a reckoning: nothing of the def's own changed -/
theorem Out.of {σd : En} {st : Sto} {σ : VS} {H H0 : Hp} {Q : VK} {Qd : QD} (r : Rel C σd st σ H) (kp : Keep H0 H)
    (k : ∀ v H' d σd' st', Rel C σd' st' σ H' → DenT C.K σ H' d v → Keep H0 H' → Qd d σd' st' → Q v H') : Out C.K H (fun d => Qd d σd st) Q :=
  fun z H' d m hd _ q => k z H' d σd st (r.mild m) (.of hd) (kp.trans m.k) q
theorem emb_bin {b : B2} {ta tb : TED} {σ : VS} {H : Hp} {Q : VK} (h : emb C (eBin b ta tb) σ H Q) : tOp (rB C.K b) (emb C ta) (emb C tb) σ H Q := by
  obtain ⟨σd, st, Qd, r, ht, k⟩ := h
  refine ⟨σd, st, _, r, ht, fun x H1 dx σ1 st1 r1 h1 k1 ht1 => ?_⟩
  refine ⟨σ1, st1, _, r1, ht1, fun y H2 dy σ2 st2 r2 h2 k2 q => ?_⟩
  exact ⟨_, _, _, rd_ok r2 (h1.keep k2), rd_ok r2 h2, q, Out.of r2 (k1.trans k2) k⟩
theorem de_binop {op : Operator} {bb : B2} (ho : OpD X C (binaryOp op) bb) (ha : DE X C a ta) (hb : DE X C b tb) : DE X C (.BinOp a op b pos) (eBin bb ta tb) := DE.imp (pe_op ho ha hb) fun _ _ _ h => emb_bin h
theorem de_cmp {op : CmpOp} {bb : B2} (ho : OpD X C (compareOp op) bb) (ha : DE X C a ta) (hb : DE X C b tb) (hm : behindInMarks op b = false) : DE X C (.Compare a [op] [b] pos) (eBin bb ta tb) := DE.imp (pe_cmpR ho ha hb hm) fun _ _ _ h => emb_bin h
/-- from a rule of the layer below -/
theorem OpD.mk {f : Value → Value → Sem Value} {r : R2} {bb : B2} (ho : OpR X f r)
    (h : ∀ (H : Hp) (x y : V) (dx dy : D) (Q : D → Prop) (Qv : VK), Red C.K H dx x → Red C.K H dy y → bb dx dy Q → Out C.K H Q Qv → r x y H (Shf Qv)) : OpD X C f bb := by
  intro pins s σ H x y v u Q I rx ry hq
  obtain ⟨dx, dy, Qd, hx, hy, hb, out⟩ := hq
  exact thn (ho pins s σ H x y v u (Shf Q) I rx ry (h H x y dx dy Qd Q hx hy hb out)) fun w s' z => ep_shf z
/-! unary operators, calls -/
abbrev B1 := D → (D → Prop) → Prop
def rU1 (K : PySem.W.Frag) (b : B1) : V → Hp → VK → Prop := fun x H Q => ∃ dx Qd, Red K H dx x ∧ b dx Qd ∧ Out K H Qd Q
def UnD (X : Cx) (C : DC) (f : Value → Sem Value) (b : B1) : Prop := UnR X f (rU1 C.K b)
def eUn (b : B1) (ta : TED) : TED := fun E σ st Q => ta E σ st fun x σ1 st1 => b (rd σ1 st1 x) fun d => Q d σ1 st1
theorem emb_un {b : B1} {ta : TED} {σ : VS} {H : Hp} {Q : VK} (h : emb C (eUn b ta) σ H Q) : tUn (rU1 C.K b) (emb C ta) σ H Q := by
  obtain ⟨σd, st, Qd, r, ht, k⟩ := h
  exact ⟨σd, st, _, r, ht, fun x H1 dx σ1 st1 r1 h1 k1 q => ⟨_, _, rd_ok r1 h1, q, Out.of r1 k1 k⟩⟩
theorem de_unop {op : UnaryOp} {bb : B1} (ho : UnD X C (unaryOp op) bb) (ha : DE X C a ta) : DE X C (.UnaryOp op a pos) (eUn bb ta) := DE.imp (pe_un ho ha) fun _ _ _ h => emb_un h
theorem UnD.mk {f : Value → Sem Value} {r : V → Hp → VK → Prop} {bb : B1} (ho : UnR X f r)
    (h : ∀ (H : Hp) (x : V) (dx : D) (Q : D → Prop) (Qv : VK), Red C.K H dx x → bb dx Q → Out C.K H Q Qv → r x H (Shf Qv)) : UnD X C f bb := by
  intro pins s σ H x v Q I rx hq
  obtain ⟨dx, Qd, hx, hb, out⟩ := hq
  exact thn (ho pins s σ H x v (Shf Q) I rx (h H x dx Qd Q hx hb out)) fun w s' z => ep_shf z
/-! ints -/
def b2I (C : Int → Int → Prop) (g : Int → Int → D) : B2 := fun x y Q => match x, y with
  | .int i, .int j => C i j ∧ Q (g i j)
  | _, _ => False
theorem red_int {K : PySem.W.Frag} {H : Hp} {i : Int} {v : V} (h : Red K H (.int i) v) : v = .int i := by
  have h' : Den K H (.int i) v := h
  cases h'; rfl
theorem red_str {K : PySem.W.Frag} {H : Hp} {i : Str} {v : V} (h : Red K H (.str i) v) : v = .str i ∧ PyData.strOk i = true := by
  have h' : Den K H (.str i) v := h
  cases h' with
  | str x ok => exact ⟨rfl, ok⟩
theorem red_bl {K : PySem.W.Frag} {H : Hp} {i : Bool} {v : V} (h : Red K H (.bl i) v) : v = .bl i := by
  have h' : Den K H (.bl i) v := h
  cases h'; rfl
theorem red_tup {K : PySem.W.Frag} {H : Hp} {ds : List D} {v : V} (h : Red K H (.tup ds) v) : ∃ a vs, v = .ref a ∧ TupF K H a vs ∧ DenL K H ds vs := by
  have h' : Den K H (.tup ds) v := h
  cases h' with
  | tup h1 l r => exact ⟨_, _, rfl, h1, l, r⟩
theorem red_kt {K : PySem.W.Frag} {H : Hp} {ds : List D} {v : V} (h : Red K H (.kt ds) v) : ∃ a vs, v = .ref a ∧ SqT K H a vs ∧ DenL K H ds vs := by
  have h' : Den K H (.kt ds) v := h
  cases h' with
  | kt h1 l r => exact ⟨_, _, rfl, h1, l, r⟩
theorem opD_int {f : Value → Value → Sem Value} {c : Int → Int → Prop} {g : Int → Int → V} {gd : Int → Int → D} (ho : OpR X f (rI c g)) (hg : ∀ H i j, Den C.K H (gd i j) (g i j)) (hn : ∀ i j, noOwn (gd i j)) : OpD X C f (b2I c gd) := by
  refine OpD.mk ho fun H x y dx dy Q Qv hx hy hb fin => ?_
  cases dx <;> first | exact hb.elim | skip
  cases dy <;> first | exact hb.elim | skip
  obtain ⟨hc, q⟩ := hb
  cases red_int hx
  cases red_int hy
  exact ⟨_, _, rfl, rfl, hc, .inl (fin _ H _ (Mild.refl H) (hg H _ _) (hn _ _) q)⟩
theorem opR_rI0 {f : Value → Value → Sem Value} {g : Int → Int → V} (ho : OpR X f (rI0 g)) : OpR X f (rI (fun _ _ => True) g) := by
  intro pins s σ H x y v u Q I rx ry h
  obtain ⟨i, j, e1, e2, _, q⟩ := h
  exact ho pins s σ H x y v u Q I rx ry ⟨i, j, e1, e2, q⟩
end
end DL

set_option Elab.async false
set_option linter.all false
set_option maxRecDepth 100000
namespace DL
open PySem PySem.Spec PyProof.Rows L2
variable [WW]
section
variable {X : Cx} {C : DC} {K : PySem.W.Frag} {H : Hp} {Qv : VK}
/-! ### new things -/
theorem fin_lst {p : Addr} {vs : List V} {ds : List D} (hp : H p = none) (hd : DenL K H ds vs) (q : ∀ H', Mild H H' → Den K H' (.lst ds) (.ref p) → Qv (.ref p) H') : Shf Qv (.ref p) (upd H p (.lst vs)) := by
  refine .inr ⟨p, _, rfl, upd_same, trivial, fun o => ?_⟩
  rw [upd_upd]
  exact q _ (Mild.new hp) (.lst ⟨o, upd_same⟩ hd.1 (hd.keep (Keep.new hp)).2)
theorem fin_tup {p : Addr} {o : Obj} {vs : List V} {ds : List D} (hp : H p = none) (ho : o.dict = none) (hd : DenL K H ds vs) (q : ∀ H', Mild H H' → Den K H' (.tup ds) (.ref p) → Qv (.ref p) H') : Qv (.ref p) (upd H p (.frz o (.tup vs))) :=
  q _ (Mild.new hp) (.tup (.inl ⟨o, upd_same, ho⟩) hd.1 (hd.keep (Keep.new hp)).2)
/-- a new tuple: nothing hangs on it -/
def NewT (H : Hp) (Q : VK) (vs : List V) : Prop := ∀ p o, H p = none → o.dict = none → Q (.ref p) (upd H p (.frz o (.tup vs)))
theorem ep_tup {pins : List (Addr × Obj)} {σ : VS} {s : Shared} {Q : VK} {vs : List V} {its : List Value} (I : Inv X pins σ H s) (rv : Vals vs its) (hz : vs.length ≤ sizeLine) (q : NewT H Q vs) :
    EP X pins σ Q (.ref s.heap.objs.size) { s with heap := s.heap.push { cls := .type "tuple", data := .seq its.toArray } } :=
  ⟨.ref s.heap.objs.size, _, I.laid (t' := s.toks) (o := .frz { cls := .type "tuple", data := .seq its.toArray } (.tup vs)) (fun _ _ q => Heap.get?_push_of_some _ q) (Nat.le_refl _) ⟨Heap.get?_push_size _ rfl, hz, its, rv, IsTup.new _ _⟩, rfl, q _ _ (I.hok.fresh (Nat.le_refl _)) rfl⟩
theorem fin_dK {p : Addr} {vs : List (Key × V)} {ds : List (Key × D)} (hp : H p = none) (hd : DenKV K H ds vs) (q : ∀ H', Mild H H' → Den K H' (.dK ds) (.ref p) → Qv (.ref p) H') : Shf Qv (.ref p) (upd H p (.dK vs)) := by
  refine .inr ⟨p, _, rfl, upd_same, trivial, fun o => ?_⟩
  rw [upd_upd]
  exact q _ (Mild.new hp) (.dK ⟨o, upd_same⟩ hd.1 (hd.keep (Keep.new hp)).2.2)
/-! ### codes of texts -/
theorem strOk_iff {x : Str} : PyData.strOk x = true ↔ ∀ c ∈ x.cps.toList, c < 1114112 := by
  unfold PyData.strOk
  rw [Array.all_eq_true_iff_forall_mem]
  constructor
  · intro h c hc; simpa using h c (by simpa using hc)
  · intro h c hc; simpa using h c (by simpa using hc)
theorem strOk_of {x : Str} (h : ∀ c ∈ x.cps.toList, c < 1114112) : PyData.strOk x = true := strOk_iff.mpr h
theorem strOk_app {x y : Str} (hx : PyData.strOk x = true) (hy : PyData.strOk y = true) : PyData.strOk (x ++ y) = true := by
  refine strOk_of fun c hc => ?_
  have e : (x ++ y).cps.toList = x.cps.toList ++ y.cps.toList := PySem.W.KT.app_list x y
  rw [e] at hc
  rcases List.mem_append.mp hc with h | h
  · exact strOk_iff.mp hx c h
  · exact strOk_iff.mp hy c h

/-! ### a + b -/
def addD : B2 := fun x y Q => match x, y with
  | .int i, .int j => Q (.int (i + j))
  | .str i, .str j => i.length + j.length ≤ sizeLine ∧ Q (.str (i ++ j))
  | .lst xs, .lst ys => xs.length + ys.length ≤ sizeLine ∧ Q (.lst (xs ++ ys))
  | .tup xs, .tup ys => xs.length + ys.length ≤ sizeLine ∧ Q (.tup (xs ++ ys))
  | _, _ => False
/-- lists that are tracked or frozen, joined -/
def rCatR : R2 := fun x y H Q => ∃ l b xs zs, x = .ref l ∧ y = .ref b ∧ Rd H l (.lst xs) ∧ Rd H b (.lst zs) ∧ xs.length + zs.length ≤ sizeLine ∧ ∀ p, H p = none → Q (.ref p) (upd H p (.lst (xs ++ zs)))
theorem op_catR : OpR X (binaryOp .Add) rCatR := by
  intro pins s σ H x y v u Q I rx ry h
  obtain ⟨l, b, xs, zs, rfl, rfl, hl, hb, hz, q⟩ := h
  cases rx
  cases ry
  obtain ⟨z1, its1, n1, r1, e1⟩ := hl.ok I.hok
  obtain ⟨z2, its2, n2, r2, e2⟩ := hb.ok I.hok
  have l1 := r1.length
  have l2 := r2.length
  refine PySem.P.add_list e1 e2 ?_ (by rw [List.size_toArray, List.size_toArray]; omega)
  rw [show its1.toArray ++ its2.toArray = (its1 ++ its2).toArray by simp]
  exact ⟨.ref _, _, I.lnew (t' := s.toks) (r1.append r2) (by rw [List.length_append]; omega), rfl, q _ I.fresh⟩
theorem red_lst {ds : List D} {v : V} (h : Red K H (.lst ds) v) : ∃ a vs, v = .ref a ∧ Rd H a (.lst vs) ∧ DenL K H ds vs := h
theorem red_dK {ds : List (Key × D)} {v : V} (h : Red K H (.dK ds) v) : ∃ a vs, v = .ref a ∧ Rd H a (.dK vs) ∧ DenKV K H ds vs := h
theorem red_dT {ds : List (NK × D)} {v : V} (h : Red K H (.dT ds) v) : ∃ a o xs vs, v = .ref a ∧ (H a = some (exO a o) ∨ Fz H a (exO a o)) ∧ DTc K H ds a o xs vs := h
theorem red_kls {ds : List D} {v : V} (h : Red K H (.kls ds) v) : ∃ a vs, v = .ref a ∧ SqL K H a vs ∧ DenL K H ds vs := by
  have h' : Den K H (.kls ds) v := h
  cases h' with
  | kls h1 l r => exact ⟨_, _, rfl, h1.sql, l, r⟩
/-- t + u -/
def rCatF (K : PySem.W.Frag) : R2 := fun x y H Q => ∃ a b xs ys, x = .ref a ∧ y = .ref b ∧ SqT K H a xs ∧ SqT K H b ys ∧ xs.length + ys.length ≤ sizeLine ∧ (xs = [] → Q (.ref b) H) ∧ (ys = [] → Q (.ref a) H) ∧ NewT H Q (xs ++ ys)
theorem op_catF : OpR X (binaryOp .Add) (rCatF X.K) := by
  intro pins s σ H x y v u Q I rx ry h
  obtain ⟨a, b, xs, ys, rfl, rfl, ha, hb, hz, q0, q1, q2⟩ := h
  cases rx
  cases ry
  obtain ⟨ia, r1, p1, _⟩ := I.tuple ha
  obtain ⟨ib, r2, p2, _⟩ := I.tuple hb
  by_cases e : xs = []
  · subst e
    cases r1
    exact cat_tup0 p1 p2 ⟨.ref b, H, I, rfl, q0 rfl⟩
  · exact HT.cat_tup p1 p2 (fun z => e (r1.nil_iff.mp z)) (fun z => ⟨.ref a, H, I, rfl, q1 (r2.nil_iff.mp z)⟩) (fun _ => ep_tup I (r1.append r2) (by rw [List.length_append]; exact hz) q2) (by rw [← r1.length, ← r2.length]; exact hz)
theorem opD_add (cx : Ctx X C) : OpD X C (binaryOp .Add) addD := by
  refine OpD.mk (r := fun x y H Q => (rI0 fun i j => .int (i + j)) x y H Q ∨ (∃ i j, x = .str i ∧ y = .str j ∧ i.length + j.length ≤ sizeLine ∧ Q (.str (i ++ j)) H) ∨ rCatR x y H Q ∨ rCatF X.K x y H Q)
    (op_add.or (op_add_str.or (op_catR.or op_catF))) fun H x y dx dy Q Qv hx hy hb fin => ?_
  cases dx <;> first | exact hb.elim | skip
  · cases dy <;> first | exact hb.elim | skip
    cases red_int hx
    cases red_int hy
    exact .inl ⟨_, _, rfl, rfl, .inl (fin _ H _ (Mild.refl H) (.int _) trivial hb)⟩
  · cases dy <;> first | exact hb.elim | skip
    obtain ⟨rfl, o1⟩ := red_str hx
    obtain ⟨rfl, o2⟩ := red_str hy
    exact .inr (.inl ⟨_, _, rfl, rfl, hb.1, .inl (fin _ H _ (Mild.refl H) (.str _ (strOk_app o1 o2)) trivial hb.2)⟩)
  · cases dy <;> first | exact hb.elim | skip
    obtain ⟨a, vs, rfl, h1, l1⟩ := red_tup hx
    obtain ⟨b, ws, rfl, h2, l2⟩ := red_tup hy
    refine .inr (.inr (.inr ⟨a, b, vs, ws, rfl, rfl, by rw [cx.K]; exact h1.sqt, by rw [cx.K]; exact h2.sqt, by rw [← l1.1, ← l2.1]; exact hb.1, fun e => ?_, fun e => ?_, fun p o hp ho => ?_⟩))
    · refine .inl (fin _ H (.tup _) (Mild.refl H) ?_ trivial hb.2)
      subst e
      cases List.eq_nil_of_length_eq_zero (l1.1)
      exact .tup h2 l2.1 l2.2
    · refine .inl (fin _ H (.tup _) (Mild.refl H) ?_ trivial hb.2)
      subst e
      cases List.eq_nil_of_length_eq_zero (l2.1)
      rw [List.append_nil]
      exact .tup h1 l1.1 l1.2
    · exact .inl (fin_tup hp ho (l1.append l2) fun H' m hd => fin _ H' _ m hd trivial hb.2)
  · cases dy <;> first | exact hb.elim | skip
    obtain ⟨a, vs, rfl, h1, l1⟩ := red_lst hx
    obtain ⟨b, ws, rfl, h2, l2⟩ := red_lst hy
    exact .inr (.inr (.inl ⟨a, b, vs, ws, rfl, rfl, h1, h2, by rw [← l1.1, ← l2.1]; exact hb.1, fun p hp => fin_lst hp (l1.append l2) fun H' m hd => fin _ H' _ m hd trivial hb.2⟩))

/-! ### ints -/
def subD : B2 := b2I (fun _ _ => True) fun i j => .int (i - j)
theorem opD_sub : OpD X C (binaryOp .Sub) subD := opD_int (g := fun i j => .int (i - j)) (opR_rI0 op_sub) (fun _ _ _ => .int _) fun _ _ => trivial
def modD : B2 := b2I (fun _ j => j ≠ 0) fun i j => .int (i.fmod j)
theorem opD_mod : OpD X C (binaryOp .Mod) modD := opD_int (g := fun i j => .int (i.fmod j)) op_modN (fun _ _ _ => .int _) fun _ _ => trivial
def powD : B2 := b2I CPow fun i j => .int (i ^ j.toNat)
theorem opD_pow : OpD X C (binaryOp .Pow) powD := opD_int (g := fun i j => .int (i ^ j.toNat)) op_pow (fun _ _ _ => .int _) fun _ _ => trivial
/-- a divisor that no long division is asked for -/
def DivOk (i j : Int) : Prop := j ≠ 0 ∧ (j.natAbs < 1073741824 ∨ j.natAbs.log2 < 9000)
def divD : B2 := b2I DivOk fun i j => .int (i.fdiv j)
theorem op_fdivA : OpR X (binaryOp .FloorDiv) (rI DivOk fun i j => .int (i.fdiv j)) := opI fun i j _ _ _ _ _ hc q => by
  rcases hc.2 with h | h
  · exact floordiv_int hc.1 q (.inl (PyProof.noPylong_small h))
  · exact floordiv_int hc.1 q (.inl (PyProof.noPylong_of_log2 h))
theorem opD_div : OpD X C (binaryOp .FloorDiv) divD := opD_int (g := fun i j => .int (i.fdiv j)) op_fdivA (fun _ _ _ => .int _) fun _ _ => trivial

/-! ### a * b -/
def rep {α : Type} (k : Int) (xs : List α) : List α := (List.replicate k.toNat xs).flatten
def mulD : B2 := fun x y Q => match x, y with
  | .int i, .int j => IntMulOk i j ∧ Q (.int (i * j))
  | .lst xs, .int k => -(2 ^ 63) ≤ k ∧ k < 2 ^ 63 ∧ xs.length * k.toNat ≤ sizeLine ∧ Q (.lst (rep k xs))
  | .tup xs, .int k => xs ≠ [] ∧ 2 ≤ k ∧ k ≤ 1000 ∧ xs.length ≤ 1000 ∧ Q (.tup (rep k xs))
  | _, _ => False
theorem op_mulA : OpR X (binaryOp .Mult) (rI IntMulOk fun i j => .int (i * j)) := opI fun _ _ _ _ _ _ _ hc q => mul_int q hc
theorem rep_length {α β : Type} {xs : List α} {ys : List β} (h : xs.length = ys.length) (k : Int) : (rep k xs).length = (rep k ys).length := by
  unfold rep
  simp [h]
theorem DenL.rep {ds : List D} {vs : List V} (h : DenL K H ds vs) (k : Int) : DenL K H (rep k ds) (rep k vs) := by
  unfold DL.rep
  generalize k.toNat = n
  induction n with
  | zero => exact DenL.nil
  | succ n ih => simp only [List.replicate_succ, List.flatten_cons]; exact h.append ih
end
end DL
namespace DL
open PySem PySem.Spec PyProof.Rows L2
variable [WW]
/-! ### plain data -/
mutual
def toPy : D → PyData
  | .non => .none
  | .bl b => .bool b
  | .int i => .int i
  | .str x => .str x
  | .lst xs => .list (toPyL xs)
  | .tup xs => .tuple (toPyL xs)
  | .kt xs => .tuple (toPyL xs)
  | _ => .dict []
def toPyL : List D → List PyData
  | [] => []
  | x :: xs => toPy x :: toPyL xs
end
theorem toPyL_map : ∀ xs : List D, toPyL xs = xs.map toPy
  | [] => rfl
  | x :: xs => by rw [toPyL, toPyL_map xs]; rfl
/-- no dict, no object; at most so deep -/
def Pl : Nat → D → Prop
  | _, .non => True
  | _, .bl _ => True
  | _, .int _ => True
  | _, .str _ => True
  | n + 1, .tup xs => ∀ x ∈ xs, Pl n x
  | n + 1, .lst xs => ∀ x ∈ xs, Pl n x
  | _, _ => False
theorem depthAll_le {xs : List PyData} {n : Nat} (h : ∀ x ∈ xs, PyData.depth x ≤ n) : PyData.depthAll xs ≤ n := by
  induction xs with
  | nil => simp [PyData.depthAll]
  | cons x xs ih =>
    simp only [PyData.depthAll]
    have h1 := h x (by simp)
    have h2 := ih fun y hy => h y (by simp [hy])
    omega
theorem canLayAll_of {xs : List PyData} (h : ∀ x ∈ xs, PyData.canLay0 x = true) : PyData.canLayAll0 xs = true := by
  induction xs with
  | nil => simp [PyData.canLayAll0]
  | cons x xs ih =>
    simp only [PyData.canLayAll0, Bool.and_eq_true]
    exact ⟨h x (by simp), ih fun y hy => h y (by simp [hy])⟩
section
variable {K : PySem.W.Frag} {H : Hp}
theorem dpAll_of {n : Nat} (ih : ∀ (d : D) (v : V), Pl n d → Den K H d v → Dp K H v (toPy d) ∧ (toPy d).canLay0 = true ∧ (toPy d).depth ≤ n) : ∀ (ds : List D) (vs : List V), (∀ x ∈ ds, Pl n x) → DenL K H ds vs →
    DpAll K H vs (toPyL ds) ∧ PyData.canLayAll0 (toPyL ds) = true ∧ PyData.depthAll (toPyL ds) ≤ n
  | [], vs, _, h => by
    cases h.of_nil
    exact ⟨.nil, by simp [toPyL, PyData.canLayAll0], by simp [toPyL, PyData.depthAll]⟩
  | d :: ds, vs, hp, h => by
    obtain ⟨v, r, rfl, h1, h2⟩ := h.of_cons
    obtain ⟨a1, a2, a3⟩ := ih d v (hp d (by simp)) h1
    obtain ⟨b1, b2, b3⟩ := dpAll_of ih ds r (fun x hx => hp x (by simp [hx])) h2
    refine ⟨.cons a1 b1, ?_, ?_⟩
    · simp only [toPyL, PyData.canLayAll0, Bool.and_eq_true]; exact ⟨a2, b2⟩
    · simp only [toPyL, PyData.depthAll]; omega
theorem dp_of : ∀ (n : Nat) (d : D) (v : V), Pl n d → Red K H d v → Dp K H v (toPy d) ∧ (toPy d).canLay0 = true ∧ (toPy d).depth ≤ n := by
  intro n
  induction n with
  | zero =>
    intro d v hp h
    cases d <;> first | exact hp.elim | skip
    · have h' : Den K H .non v := h
      cases h'; exact ⟨.non, by simp [toPy, PyData.canLay0], by simp [toPy, PyData.depth]⟩
    · cases red_bl h; exact ⟨.bl _, by simp [toPy, PyData.canLay0], by simp [toPy, PyData.depth]⟩
    · cases red_int h; exact ⟨.int _, by simp [toPy, PyData.canLay0], by simp [toPy, PyData.depth]⟩
    · obtain ⟨rfl, o⟩ := red_str h; exact ⟨.str _, by simpa [toPy, PyData.canLay0] using o, by simp [toPy, PyData.depth]⟩
  | succ n ih =>
    intro d v hp h
    cases d <;> first | exact hp.elim | skip
    · have h' : Den K H .non v := h
      cases h'; exact ⟨.non, by simp [toPy, PyData.canLay0], by simp [toPy, PyData.depth]⟩
    · cases red_bl h; exact ⟨.bl _, by simp [toPy, PyData.canLay0], by simp [toPy, PyData.depth]⟩
    · cases red_int h; exact ⟨.int _, by simp [toPy, PyData.canLay0], by simp [toPy, PyData.depth]⟩
    · obtain ⟨rfl, o⟩ := red_str h; exact ⟨.str _, by simpa [toPy, PyData.canLay0] using o, by simp [toPy, PyData.depth]⟩
    · obtain ⟨a, vs, rfl, h1, l1⟩ := red_tup h
      obtain ⟨b1, b2, b3⟩ := dpAll_of (fun d v p q => ih d v p (.of q)) _ vs hp l1
      exact ⟨.tup h1.sqt b1, by simpa [toPy, PyData.canLay0] using b2, by simp only [toPy, PyData.depth]; omega⟩
    · obtain ⟨a, vs, rfl, h1, l1⟩ := red_lst h
      obtain ⟨b1, b2, b3⟩ := dpAll_of (fun d v p q => ih d v p (.of q)) _ vs hp l1
      exact ⟨.lst (.inl h1) b1, by simpa [toPy, PyData.canLay0] using b2, by simp only [toPy, PyData.depth]; omega⟩
theorem shaped_of {n : Nat} (hn : n ≤ 64) {d : D} {v : V} (h : Dp K H v (toPy d) ∧ (toPy d).canLay0 = true ∧ (toPy d).depth ≤ n) : SeqAt.shaped (toPy d) = true := by
  unfold SeqAt.shaped
  rw [Bool.and_eq_true]
  exact ⟨h.2.1, decide_eq_true (by omega)⟩
end
/-! ### ==, != -/
/-- equality as Python has it -/
def peq (a b : D) : Bool := PyData.eqv (toPy a) (toPy b)
def eqD : B2 := fun x y Q => Pl 40 x ∧ Pl 40 y ∧ Q (.bl (peq x y))
def neD : B2 := fun x y Q => Pl 40 x ∧ Pl 40 y ∧ Q (.bl (!peq x y))
section
variable {X : Cx} {C : DC}
theorem opD_eq (cx : Ctx X C) : OpD X C (compareOp .Eq) eqD := by
  have hu := cx.hu
  refine OpD.mk (op_eqD (by omega)) fun H x y dx dy Q Qv hx hy hb fin => ?_
  rw [← cx.K] at hx hy
  have h1 := dp_of 40 _ _ hb.1 hx
  have h2 := dp_of 40 _ _ hb.2.1 hy
  exact ⟨_, _, h1.1, h2.1, shaped_of (by omega) h1, shaped_of (by omega) h2, .inl (fin _ H _ (Mild.refl H) (.bl _) trivial hb.2.2)⟩
theorem opD_ne (cx : Ctx X C) : OpD X C (compareOp .NotEq) neD := by
  have hu := cx.hu
  refine OpD.mk (op_neD (by omega)) fun H x y dx dy Q Qv hx hy hb fin => ?_
  rw [← cx.K] at hx hy
  have h1 := dp_of 40 _ _ hb.1 hx
  have h2 := dp_of 40 _ _ hb.2.1 hy
  exact ⟨_, _, h1.1, h2.1, shaped_of (by omega) h1, shaped_of (by omega) h2, .inl (fin _ H _ (Mild.refl H) (.bl _) trivial hb.2.2)⟩
/-! ### <, <=, >, >= of ints, of texts -/
def scmp (f : Int → Int → Bool) (g : List Nat → List Nat → Bool) : B2 := fun x y Q => match x, y with
  | .int i, .int j => Q (.bl (f i j))
  | .str i, .str j => Q (.bl (g i.cps.toList j.cps.toList))
  | _, _ => False
def ltD : B2 := scmp (fun i j => decide (i < j)) fun i j => decide (i < j)
def icmp (f : Int → Int → Bool) : B2 := b2I (fun _ _ => True) fun i j => .bl (f i j)
def leD : B2 := icmp fun i j => decide (i ≤ j)
def gtD : B2 := icmp fun i j => decide (j < i)
def geD : B2 := icmp fun i j => decide (j ≤ i)
theorem opD_lt : OpD X C (compareOp .Lt) ltD := by
  refine OpD.mk (op_lt.or op_lt_str) fun H x y dx dy Q Qv hx hy hb fin => ?_
  cases dx <;> first | exact hb.elim | skip
  · cases dy <;> first | exact hb.elim | skip
    cases red_int hx
    cases red_int hy
    exact .inl ⟨_, _, rfl, rfl, .inl (fin _ H _ (Mild.refl H) (.bl _) trivial hb)⟩
  · cases dy <;> first | exact hb.elim | skip
    obtain ⟨rfl, o1⟩ := red_str hx
    obtain ⟨rfl, o2⟩ := red_str hy
    exact .inr ⟨_, _, rfl, rfl, .inl (fin _ H _ (Mild.refl H) (.bl _) trivial hb)⟩
theorem opD_le : OpD X C (compareOp .LtE) leD := opD_int (g := fun i j => .bl (decide (i ≤ j))) (opR_rI0 op_le) (fun _ _ _ => .bl _) fun _ _ => trivial
theorem opD_gt : OpD X C (compareOp .Gt) gtD := opD_int (g := fun i j => .bl (decide (j < i))) (opR_rI0 op_gt) (fun _ _ _ => .bl _) fun _ _ => trivial
theorem opD_ge : OpD X C (compareOp .GtE) geD := opD_int (g := fun i j => .bl (decide (j ≤ i))) (opR_rI0 op_ge) (fun _ _ _ => .bl _) fun _ _ => trivial
/-! ### is -/
def isNon : D → Bool
  | .non => true
  | _ => false
def isD : B2 := fun x y Q => match y with
  | .non => Q (.bl (isNon x))
  | .bl j => match x with
    | .bl i => Q (.bl (decide (i = j)))
    | _ => False
  | _ => False
def isNotD : B2 := fun x y Q => isD x y fun d => match d with
  | .bl b => Q (.bl (!b))
  | _ => False
theorem none_iff {K : PySem.W.Frag} {H : Hp} {d : D} {v : V} (h : Red K H d v) (n : noOwn d) : decide (v = .non) = isNon d := by
  cases d with
  | non => have h' : Den K H .non v := h; cases h'; rfl
  | bl b => cases red_bl h; rfl
  | int i => cases red_int h; rfl
  | str x => obtain ⟨rfl, _⟩ := red_str h; rfl
  | ty t => have h' : Den K H (.ty t) v := h; cases h'; rfl
  | ref a => have h' : Den K H (.ref a) v := h; cases h'; rfl
  | tup xs => obtain ⟨a, vs, rfl, _⟩ := red_tup h; rfl
  | lst xs => obtain ⟨a, vs, rfl, _⟩ := red_lst h; rfl
  | dK xs => obtain ⟨a, vs, rfl, _⟩ := red_dK h; rfl
  | dT xs => obtain ⟨a, o, xs, vs, rfl, _⟩ := red_dT h; rfl
  | exc c fs => have h' : Den K H (.exc c fs) v := h; cases h'; rfl
  | own i => exact n.elim
  | kls xs => obtain ⟨a, vs, rfl, _⟩ := red_kls h; rfl
  | kt xs => have h' : Den K H (.kt xs) v := h; cases h'; rfl
def isDO : B2 := fun x y Q => noOwn x ∧ isD x y Q
def isNotDO : B2 := fun x y Q => noOwn x ∧ isNotD x y Q
theorem opD_is : OpD X C (compareOp .Is) isDO := by
  refine OpD.mk (op_isN.or op_is_bl) fun H x y dx dy Q Qv hx hy hb fin => ?_
  obtain ⟨n, hb⟩ := hb
  cases dy <;> first | exact hb.elim | skip
  · have h' : Den C.K H .non y := hy
    cases h'
    refine .inl ⟨rfl, ?_⟩
    rw [none_iff hx n]
    exact .inl (fin _ H _ (Mild.refl H) (.bl _) trivial hb)
  · cases dx <;> first | exact hb.elim | skip
    cases red_bl hx
    cases red_bl hy
    exact .inr ⟨_, _, rfl, rfl, .inl (fin _ H _ (Mild.refl H) (.bl _) trivial hb)⟩
theorem opD_isNot : OpD X C (compareOp .IsNot) isNotDO := by
  refine OpD.mk (op_notN.or op_isnot_bl) fun H x y dx dy Q Qv hx hy hb fin => ?_
  obtain ⟨n, hb⟩ := hb
  cases dy <;> first | exact hb.elim | skip
  · have h' : Den C.K H .non y := hy
    cases h'
    refine .inl ⟨rfl, ?_⟩
    rw [none_iff hx n]
    exact .inl (fin _ H _ (Mild.refl H) (.bl _) trivial hb)
  · cases dx <;> first | exact hb.elim | skip
    cases red_bl hx
    cases red_bl hy
    exact .inr ⟨_, _, rfl, rfl, .inl (fin _ H _ (Mild.refl H) (.bl _) trivial hb)⟩
/-! ### in, not in: a list, a tuple of plain things; a dict -/
def mem (x : D) (ys : List D) : Bool := ys.any fun z => peq z x
def keyK : D → Option Key
  | .int i => some (.inl i)
  | .str x => some (.inr x)
  | _ => none
def keysK : List D → Option (List Key)
  | [] => some []
  | d :: ds => match keyK d, keysK ds with
    | some k, some ks => some (k :: ks)
    | _, _ => none
mutual
/-- what is looked up -/
def nkD : D → Option NK
  | .non => some .none
  | .bl b => some (.num (if b then 1 else 0))
  | .int i => some (.num i)
  | .str x => some (.text x)
  | .tup ds => (nkDs ds).map NestedKey.tup
  | .kt ds => (nkDs ds).map NestedKey.tup
  | _ => none
def nkDs : List D → Option (List NK)
  | [] => some []
  | d :: ds => match nkD d, nkDs ds with
    | some k, some ks => some (k :: ks)
    | _, _ => none
end
def fitK (k : NK) : Option NK := if k.depth ≤ 8 then some k else none
def keyT : D → Option NK
  | .tup ds => (nkDs ds).bind fun ks => fitK (.tup ks)
  | .kt ds => (nkDs ds).bind fun ks => fitK (.tup ks)
  | _ => none
mutual
/-- what is stored: no bools -/
def skD : D → Option NK
  | .non => some .none
  | .int i => some (.num i)
  | .str x => some (.text x)
  | .tup ds => (skDs ds).map NestedKey.tup
  | _ => none
def skDs : List D → Option (List NK)
  | [] => some []
  | d :: ds => match skD d, skDs ds with
    | some k, some ks => some (k :: ks)
    | _, _ => none
end
def keyS : D → Option NK
  | .tup ds => (skDs ds).bind fun ks => fitK (.tup ks)
  | _ => none
mutual
theorem sk_of : ∀ {d : D} {k : NK}, skD d = some k → ofNK k = d ∧ nkD d = some k
  | .non, k, e => by cases e; exact ⟨rfl, rfl⟩
  | .int i, k, e => by cases e; exact ⟨rfl, rfl⟩
  | .str i, k, e => by cases e; exact ⟨rfl, rfl⟩
  | .tup ds, k, e => by
    unfold skD at e
    obtain ⟨ks, e1, rfl⟩ := Option.map_eq_some_iff.mp e
    obtain ⟨h1, h2⟩ := sks_of e1
    exact ⟨by rw [ofNK, h1], by rw [nkD, h2]; rfl⟩
  | .bl b, k, e => by cases e
  | .ty n, k, e => by cases e
  | .ref a, k, e => by cases e
  | .lst xs, k, e => by cases e
  | .dK xs, k, e => by cases e
  | .dT xs, k, e => by cases e
  | .exc c fs, k, e => by cases e
  | .own i, k, e => by cases e
  | .kls xs, k, e => by cases e
  | .kt xs, k, e => by cases e
theorem sks_of : ∀ {ds : List D} {ks : List NK}, skDs ds = some ks → ofNKs ks = ds ∧ nkDs ds = some ks
  | [], ks, e => by cases e; exact ⟨rfl, rfl⟩
  | d :: ds, ks, e => by
    unfold skDs at e
    cases e1 : skD d with
    | none => rw [e1] at e; cases e
    | some k =>
      cases e2 : skDs ds with
      | none => rw [e1, e2] at e; cases e
      | some ks' =>
        rw [e1, e2] at e
        cases e
        obtain ⟨h1, h2⟩ := sk_of e1
        obtain ⟨h3, h4⟩ := sks_of e2
        exact ⟨by rw [ofNKs, h1, h3], by rw [nkDs, h2, h4]⟩
end
theorem keyS_of {d : D} {k : NK} (e : keyS d = some k) : ofNK k = d ∧ keyT d = some k ∧ k.depth ≤ 8 := by
  cases d <;> first | (cases e; done) | skip
  rename_i ds
  unfold keyS at e
  obtain ⟨ks, e1, e2⟩ := Option.bind_eq_some_iff.mp e
  unfold fitK at e2
  split at e2
  · rename_i hd
    cases e2
    obtain ⟨h1, h2⟩ := sks_of e1
    exact ⟨by rw [ofNK, h1], by show (nkDs ds).bind _ = _; rw [h2]; exact if_pos hd, hd⟩
  · cases e2
theorem nk_is {X : Cx} {pins : List (Addr × Obj)} {σ : VS} {H : Hp} {s : Shared} (I : Inv X pins σ H s) : ∀ (d : D) (v : V) (u : Value) (k : NK), Den X.K H d v → RelV v u → nkD d = some k → NestedIs s.heap k u := by
  intro d v u k hd
  induction hd generalizing u k with
  | non => intro r e; cases r; cases e; exact .none
  | bl b => intro r e; cases r; cases e; exact .bool (by cases b <;> rfl)
  | int i => intro r e; obtain ⟨t, rfl⟩ := r; cases e; exact .int _ _
  | str x ok => intro r e; obtain ⟨t, rfl⟩ := r; cases e; exact .text _ _
  | @kt a ds vs h l hr ih =>
    intro r e
    cases r
    unfold nkD at e
    obtain ⟨ks, e1, rfl⟩ := Option.map_eq_some_iff.mp e
    obtain ⟨its, rv, ⟨o, ho, hc, n, hdt⟩, hz⟩ := I.tuple h
    refine .tup ho hc hdt ?_
    clear ho hc hdt h e hz
    rw [List.toList_toArray]
    induction ds generalizing vs its ks with
    | nil =>
      cases e1
      cases List.eq_nil_of_length_eq_zero l.symm
      cases rv
      exact .nil
    | cons d ds ih2 =>
      cases vs with
      | nil => cases l
      | cons v vs =>
        cases rv with
        | cons r1 r2 =>
          unfold nkDs at e1
          cases q1 : nkD d with
          | none => rw [q1] at e1; cases e1
          | some k =>
            cases q2 : nkDs ds with
            | none => rw [q1, q2] at e1; cases e1
            | some ks' =>
              rw [q1, q2] at e1
              cases e1
              exact .cons (ih 0 d v rfl rfl _ _ r1 q1) (ih2 (by simpa using l) (fun i d' v' z1 z2 => hr (i + 1) d' v' (by simpa using z1) (by simpa using z2)) (fun i d' v' z1 z2 => ih (i + 1) d' v' (by simpa using z1) (by simpa using z2)) _ q2 _ r2)
  | @tup a ds vs h l hr ih =>
    intro r e
    cases r
    unfold nkD at e
    obtain ⟨ks, e1, rfl⟩ := Option.map_eq_some_iff.mp e
    obtain ⟨its, rv, ⟨o, ho, hc, n, hdt⟩, hz⟩ := I.tuple h.sqt
    refine .tup ho hc hdt ?_
    clear ho hc hdt h e hz
    rw [List.toList_toArray]
    induction ds generalizing vs its ks with
    | nil =>
      cases e1
      cases List.eq_nil_of_length_eq_zero l.symm
      cases rv
      exact .nil
    | cons d ds ih2 =>
      cases vs with
      | nil => cases l
      | cons v vs =>
        cases rv with
        | cons r1 r2 =>
          unfold nkDs at e1
          cases q1 : nkD d with
          | none => rw [q1] at e1; cases e1
          | some k =>
            cases q2 : nkDs ds with
            | none => rw [q1, q2] at e1; cases e1
            | some ks' =>
              rw [q1, q2] at e1
              cases e1
              exact .cons (ih 0 d v rfl rfl _ _ r1 q1) (ih2 (by simpa using l) (fun i d' v' z1 z2 => hr (i + 1) d' v' (by simpa using z1) (by simpa using z2)) (fun i d' v' z1 z2 => ih (i + 1) d' v' (by simpa using z1) (by simpa using z2)) _ q2 _ r2)
  | _ => intro r e; cases e
/-- the key that a value is, for the dict's rules -/
theorem key_is {X : Cx} {pins : List (Addr × Obj)} {σ : VS} {H : Hp} {s : Shared} (I : Inv X pins σ H s) {d : D} {v : V} {u : Value} {k : NK} (h : Red X.K H d v) (r : RelV v u) (e : keyT d = some k) : ∃ b, v = .ref b ∧ u = .ref b ∧ (nestedKind X.prog X.w).is s.heap k b := by
  have key : ∀ {b : Addr} {ds : List D}, Den X.K H d (.ref b) → nkD d = (nkDs ds).map NestedKey.tup → (nkDs ds).bind (fun ks => fitK (.tup ks)) = some k → (nestedKind X.prog X.w).is s.heap k b := fun {b ds} hd e1 e2 => by
    obtain ⟨ks, e3, e4⟩ := Option.bind_eq_some_iff.mp e2
    unfold fitK at e4
    split at e4
    · rename_i hdp
      cases e4
      exact ⟨nk_is I d (.ref b) (.ref b) _ hd rfl (by rw [e1, e3]; rfl), hdp⟩
    · cases e4
  cases d <;> first | (cases e; done) | skip
  · have h' : Den X.K H (.tup _) v := h
    cases h' with
    | tup q l z => cases r; exact ⟨_, rfl, rfl, key (.tup q l z) rfl e⟩
  · have h' : Den X.K H (.kt _) v := h
    cases h' with
    | kt q l z => cases r; exact ⟨_, rfl, rfl, key (.kt q l z) rfl e⟩
def hasK {κ : Type} [DecidableEq κ] (kvs : List (κ × D)) (k : κ) : Bool := kvs.any fun p => decide (p.1 = k)
def getK {κ : Type} [DecidableEq κ] : List (κ × D) → κ → Option D
  | [], _ => none
  | p :: r, k => if p.1 = k then some p.2 else getK r k
end
end DL

set_option Elab.async false
set_option linter.all false
set_option maxRecDepth 100000
namespace DL
open PySem PySem.Spec PyProof.Rows L2
variable [WW]
section
variable {X : Cx} {C : DC}
/-! ### dicts by their keys -/
theorem keyK_V {d : D} {k : Key} {K : PySem.W.Frag} {H : Hp} {v : V} (e : keyK d = some k) (h : Red K H d v) : v = kV k := by
  cases d <;> first | (cases e; done) | skip
  · cases e; cases red_int h; rfl
  · cases e; obtain ⟨rfl, _⟩ := red_str h; rfl
theorem keysK_V {K : PySem.W.Frag} {H : Hp} : ∀ {ds : List D} {ks : List Key} {vs : List V}, keysK ds = some ks → DenL K H ds vs → vs = ks.map kV
  | [], ks, vs, e, h => by cases e; exact h.of_nil
  | d :: ds, ks, vs, e, h => by
    obtain ⟨v, r, rfl, h1, h2⟩ := h.of_cons
    unfold keysK at e
    cases e1 : keyK d with
    | none => rw [e1] at e; cases e
    | some k =>
      cases e2 : keysK ds with
      | none => rw [e1, e2] at e; cases e
      | some ks' =>
        rw [e1, e2] at e
        cases e
        rw [keyK_V e1 (.of h1), keysK_V e2 h2]; rfl
theorem valV_none {κ : Type} [DecidableEq κ] {kvs : List (κ × V)} {k : κ} : kvs.map (·.1) = kvs.map (·.1) := rfl
theorem getK_den {κ : Type} [DecidableEq κ] {K : PySem.W.Frag} {H : Hp} {k : κ} : ∀ {ds : List (κ × D)} {vs : List (κ × V)}, DenKV K H ds vs →
    (∀ d, getK ds k = some d → ∃ v, valV vs k = some v ∧ Den K H d v) ∧ (getK ds k = none → valV vs k = none)
  | [], vs, h => by
    have e : vs = [] := List.map_eq_nil_iff.mp h.1.symm
    subst e
    exact ⟨fun d e => (by cases e), fun _ => rfl⟩
  | p :: ds, vs, h => by
    cases vs with
    | nil => exact absurd h.1 (by simp)
    | cons q vs =>
      have h1 : p.1 = q.1 ∧ ds.map (·.1) = vs.map (·.1) := by simpa using h.1
      obtain ⟨v, r, e, hd, hl⟩ := h.2.of_cons
      simp only [List.map_cons, List.cons.injEq] at e
      obtain ⟨rfl, rfl⟩ := e
      obtain ⟨i1, i2⟩ := getK_den (k := k) (ds := ds) (vs := vs) ⟨h1.2, hl⟩
      by_cases hk : p.1 = k
      · have hq : q.1 = k := h1.1.symm.trans hk
        refine ⟨fun d e => ⟨q.2, valV_pos hq, ?_⟩, fun e => ?_⟩
        · unfold getK at e
          rw [if_pos hk] at e
          cases e; exact hd
        · unfold getK at e
          rw [if_pos hk] at e
          cases e
      · have hq : ¬ q.1 = k := fun z => hk (h1.1.trans z)
        unfold getK
        rw [if_neg hk, valV_neg hq]
        exact ⟨i1, i2⟩
/-- y of the dict at a: what is found -/
def dGet (x y : D) (r : Option D) : Prop := match x with
  | .dK kvs => ∃ k, keyK y = some k ∧ r = getK kvs k
  | .dT kvs => ∃ k, keyT y = some k ∧ r = getK kvs k
  | _ => False
theorem dGet_V {K : PySem.W.Frag} {H : Hp} {kvs : List (Key × D)} {y : D} {r : Option D} {vx vy : V} (g : dGet (.dK kvs) y r) (hx : Red K H (.dK kvs) vx) (hy : Red K H y vy) :
    ∃ a o, vx = .ref a ∧ DGet H a vy o ∧ (∀ d, r = some d → ∃ v, o = some v ∧ Den K H d v) ∧ (r = none → o = none) := by
  obtain ⟨k, e1, e2⟩ := g
  obtain ⟨a, vs, rfl, h1, l1⟩ := red_dK hx
  cases keyK_V e1 hy
  obtain ⟨i1, i2⟩ := getK_den (k := k) l1
  exact ⟨a, _, rfl, .inl ⟨vs, k, h1, rfl, rfl⟩, fun d e => i1 d (e2.symm.trans e), fun e => i2 (e2.symm.trans e)⟩
/-! dicts with tuples as keys, in the heap -/
theorem ent_w {P : Program} {w : World} (e : w = WW.w) : entW = entryOfKey (nestedKind P w) := by
  funext x
  subst e
  rfl
theorem dt_heap {pins : List (Addr × Obj)} {σ : VS} {H : Hp} {s : Shared} {kvs : List (NK × D)} {a : Addr} {o : Obj} {xs : Ents} {vs : List V} (I : Inv X pins σ H s) (ew : X.w = WW.w) (h : H a = some (exO a o) ∨ Fz H a (exO a o)) (c : DTc X.K H kvs a o xs vs) :
    s.heap.get? a = some o ∧ s.heap.DictOfH (nestedKind X.prog X.w) a xs := by
  have g : s.heap.get? a = some o := by
    rcases h with h | ⟨o', h⟩
    · exact (I.hok a _ h).1
    · exact (I.hok a _ h).2.1
  obtain ⟨es, ep, hd, he⟩ := c.q.es
  refine ⟨g, o, es, ep, g, c.q.ex, hd, by rw [← ent_w ew]; exact he, fun x hx => ?_, c.q.nd⟩
  obtain ⟨i, hi, rfl⟩ := List.mem_iff_getElem.mp hx
  have z := c.rk i _ (List.getElem?_eq_getElem hi)
  have hdp := c.q.dp _ hx
  revert z hdp
  generalize xs[i] = x
  intro z hdp
  obtain ⟨k, b, v⟩ := x
  cases k with
  | none => cases z
  | num j => cases z
  | text j => cases z
  | tup ks =>
    refine ⟨nk_is I (ofNK (.tup ks)) (.ref b) (.ref b) (.tup ks) z rfl ?_, hdp⟩
    have nks : ∀ ks : List NK, nkDs (ofNKs ks) = some ks := by
      have both : ∀ n : Nat, (∀ k : NK, sizeOf k < n → nkD (ofNK k) = some k) ∧ ∀ ks : List NK, sizeOf ks < n → nkDs (ofNKs ks) = some ks := by
        intro n
        induction n with
        | zero => exact ⟨fun k h => absurd h (Nat.not_lt_zero _), fun k h => absurd h (Nat.not_lt_zero _)⟩
        | succ n ih =>
          refine ⟨fun k h => ?_, fun ks h => ?_⟩
          · cases k with
            | none => rfl
            | num _ => rfl
            | text _ => rfl
            | tup ks => rw [ofNK, nkD, ih.2 ks (by simp at h; omega)]; rfl
          · cases ks with
            | nil => rfl
            | cons k ks => rw [ofNKs, nkDs, ih.1 k (by simp at h; omega), ih.2 ks (by simp at h; omega)]
      exact fun ks => (both _).2 ks (Nat.lt_succ_self _)
    rw [ofNK, nkD, nks]; rfl
theorem at_den {K : PySem.W.Frag} {H : Hp} {k : NK} : ∀ {ds : List (NK × D)} {xs : Ents} {vs : List V}, ds.map (·.1) = xs.map (·.1) → Vals vs (xs.map fun x => x.2.2) → DenL K H (ds.map (·.2)) vs →
    (∀ d, getK ds k = some d → ∃ p v, atKey xs k = some p ∧ Den K H d v ∧ RelV v p.2) ∧ (getK ds k = none → atKey xs k = none)
  | [], xs, vs, l, _, _ => by
    have e : xs = [] := List.map_eq_nil_iff.mp l.symm
    subst e
    exact ⟨fun d e => (by cases e), fun _ => rfl⟩
  | p :: ds, [], vs, l, _, _ => absurd l (by simp)
  | p :: ds, x :: xs, vs, l, lv, r => by
    obtain ⟨l1, l2⟩ : p.1 = x.1 ∧ ds.map (·.1) = xs.map (·.1) := by simpa using l
    obtain ⟨v, ws, rfl, hd, hl⟩ := r.of_cons
    cases lv with
    | cons r1 r2 =>
      obtain ⟨i1, i2⟩ := at_den (k := k) l2 r2 hl
      by_cases hk : p.1 = k
      · have hq : x.1 = k := l1.symm.trans hk
        refine ⟨fun d e => ⟨x.2, v, ?_, ?_, r1⟩, fun e => ?_⟩
        · unfold atKey; simp [hq]
        · unfold getK at e; rw [if_pos hk] at e; cases e; exact hd
        · unfold getK at e; rw [if_pos hk] at e; cases e
      · have hq : ¬ x.1 = k := fun z => hk (l1.trans z)
        have ea : atKey (x :: xs) k = atKey xs k := by unfold atKey; simp [hq]
        unfold getK
        rw [if_neg hk, ea]
        exact ⟨i1, i2⟩
/-- found, by the dict's key -/
def rInX (K : PySem.W.Frag) (n : Bool) : R2 := fun x y H Q => ∃ dx kvs k, Red K H dx x ∧ Red K H (.dT kvs) y ∧ keyT dx = some k ∧ Q (.bl (if n then !(getK kvs k).isSome else (getK kvs k).isSome)) H
theorem roomX {A : Around} (hu : A.units + 100 < cLine) : (nestedKind P w).room A.in1 := by
  show A.in1.units + 8 < cLine
  have e : A.in1.units = A.units + 1 := by first | rfl | simp
  omega
theorem op_inX (hu : X.A.units + 100 < cLine) (ew : X.w = WW.w) : OpR X (compareOp .In) (rInX X.K false) := by
  intro pins s σ H x y v u Q I rx ry h
  obtain ⟨dx, kvs, k, hx, hy, ek, q⟩ := h
  obtain ⟨a, o, xs, vs, rfl, ha, c⟩ := red_dT hy
  obtain ⟨b, rfl, rfl, hk⟩ := key_is I hx rx ek
  cases ry
  obtain ⟨_, hm⟩ := dt_heap I ew ha c
  obtain ⟨i1, i2⟩ := at_den (k := k) c.l c.lv c.r
  refine wpAny_in_heap (roomX hu) hk c.q.sm hm ⟨.bl _, H, I.tok _, ?_, q⟩
  show Value.bool _ = Value.bool _
  cases e : getK kvs k with
  | none => rw [i2 e]; rfl
  | some d => obtain ⟨p, v, e1, _⟩ := i1 d e; rw [e1]; rfl
theorem op_notInX (hu : X.A.units + 100 < cLine) (ew : X.w = WW.w) : OpR X (compareOp .NotIn) (rInX X.K true) := by
  intro pins s σ H x y v u Q I rx ry h
  obtain ⟨dx, kvs, k, hx, hy, ek, q⟩ := h
  obtain ⟨a, o, xs, vs, rfl, ha, c⟩ := red_dT hy
  obtain ⟨b, rfl, rfl, hk⟩ := key_is I hx rx ek
  cases ry
  obtain ⟨_, hm⟩ := dt_heap I ew ha c
  obtain ⟨i1, i2⟩ := at_den (k := k) c.l c.lv c.r
  refine wpAny_notIn_heap (roomX hu) hk c.q.sm hm ⟨.bl _, H, I.tok _, ?_, q⟩
  show Value.bool _ = Value.bool _
  cases e : getK kvs k with
  | none => rw [i2 e]; rfl
  | some d => obtain ⟨p, v, e1, _⟩ := i1 d e; rw [e1]; rfl
/-- x[k] of such a dict -/
def rIxX (K : PySem.W.Frag) : R2 := fun x y H Q => ∃ dy kvs k d, Red K H (.dT kvs) x ∧ Red K H dy y ∧ keyT dy = some k ∧ getK kvs k = some d ∧ ∀ v, Den K H d v → Q v H
theorem ix_dictX (hu : X.A.units + 100 < cLine) (ew : X.w = WW.w) : IxR X (rIxX X.K) := by
  intro value slice pins s σ H x y v u Q I rx ry h hs
  obtain ⟨dy, kvs, k, d, hx, hy, ek, ed, q⟩ := h
  obtain ⟨a, o, xs, vs, rfl, ha, c⟩ := red_dT hx
  obtain ⟨b, rfl, rfl, hk⟩ := key_is I hy ry ek
  cases rx
  obtain ⟨_, hm⟩ := dt_heap I ew ha c
  obtain ⟨p, v, e1, hd, rv⟩ := (at_den (k := k) c.l c.lv c.r).1 d ed
  refine tail_any (ops := [.ref a, .ref b]) hm.typeIs PySem.F.slot_dict_getitem.lookup (wpAny_getItem_heap (roomX hu) hk hm e1 ⟨v, H, I.tok _, rv, q v hd⟩) hs
/-! ### in, not in -/
def inD : B2 := fun x y Q => match y with
  | .lst ys => Pl 40 x ∧ Pl 40 y ∧ Q (.bl (mem x ys))
  | .tup ys => Pl 40 x ∧ Pl 40 y ∧ Q (.bl (mem x ys))
  | .kt ys => Pl 40 x ∧ Pl 40 y ∧ Q (.bl (mem x ys))
  | .dK _ => ∃ r, dGet y x r ∧ Q (.bl r.isSome)
  | .dT _ => ∃ r, dGet y x r ∧ Q (.bl r.isSome)
  | _ => False
def notInD : B2 := fun x y Q => inD x y fun d => match d with
  | .bl b => Q (.bl (!b))
  | _ => False
def rInT (K : PySem.W.Frag) (n : Bool) : R2 := fun x y H Q => ∃ d ds, Dp K H x d ∧ Dp K H y (.tuple ds) ∧ SeqAt.shaped d = true ∧ SeqAt.shaped (.tuple ds) = true ∧ Q (.bl (if n then !(ds.any fun z => PyData.eqv z d) else ds.any fun z => PyData.eqv z d)) H
theorem roomT {A : Around} {ds : List PyData} {d : PyData} (hs : SeqAt.shaped d = true) (hu : A.units + 100 < cLine) : A.units + 1 + min (PyData.depthAll ds) d.depth < cLine := by
  have h1 := SeqAt.depth_of_shaped hs
  have h2 : min (PyData.depthAll ds) d.depth ≤ d.depth := Nat.min_le_right _ _
  omega
theorem op_inT (hu : X.A.units + 100 < cLine) : OpR X (compareOp .In) (rInT X.K false) := by
  intro pins s σ H x y v u Q I rx ry h
  obtain ⟨d, ds, hd, he, sd, se, q⟩ := h
  obtain ⟨as, r1⟩ := Dp.reads I d x v hd rx
  obtain ⟨bs, r2⟩ := Dp.reads I (.tuple ds) y u he ry
  exact SeqAt.in_tuple_reads r2 r1 (SeqAt.canLay_of_shaped se) (SeqAt.canLay_of_shaped sd) (roomT sd hu) ⟨.bl _, H, I, rfl, q⟩
theorem op_notInT (hu : X.A.units + 100 < cLine) : OpR X (compareOp .NotIn) (rInT X.K true) := by
  intro pins s σ H x y v u Q I rx ry h
  obtain ⟨d, ds, hd, he, sd, se, q⟩ := h
  obtain ⟨as, r1⟩ := Dp.reads I d x v hd rx
  obtain ⟨bs, r2⟩ := Dp.reads I (.tuple ds) y u he ry
  exact SeqAt.notIn_tuple_reads r2 r1 (SeqAt.canLay_of_shaped se) (SeqAt.canLay_of_shaped sd) (roomT sd hu) ⟨.bl _, H, I, rfl, q⟩
def rInM (n : Bool) : R2 := fun x y H Q => ∃ a o, y = .ref a ∧ DGet H a x o ∧ Q (.bl (if n then !o.isSome else o.isSome)) H
theorem op_inM (hu : X.A.units + 1 < cLine) : OpR X (compareOp .In) (rInM false) := by
  intro pins s σ H x y v u Q I rx ry h
  obtain ⟨a, o, rfl, g, q⟩ := h
  cases ry
  exact d_in hu I g rx fun s' I' => ⟨.bl _, H, I', rfl, q⟩
theorem op_notInM (hu : X.A.units + 1 < cLine) : OpR X (compareOp .NotIn) (rInM true) := by
  intro pins s σ H x y v u Q I rx ry h
  obtain ⟨a, o, rfl, g, q⟩ := h
  cases ry
  exact d_notIn hu I g rx fun s' I' => ⟨.bl _, H, I', rfl, q⟩
theorem mem_any (x : D) (ys : List D) : ((toPyL ys).any fun z => PyData.eqv z (toPy x)) = mem x ys := by
  rw [toPyL_map, List.any_map]
  rfl
theorem opD_in (cx : Ctx X C) : OpD X C (compareOp .In) inD := by
  have hu := cx.hu
  refine OpD.mk ((op_inD (by omega)).or ((op_inT hu).or ((op_inM (by omega)).or (op_inX hu cx.w)))) fun H x y dx dy Q Qv hx hy hb fin => ?_
  rw [← cx.K] at hx hy
  cases dy <;> first | exact hb.elim | skip
  · have h1 := dp_of 40 _ _ hb.1 hx
    have h2 := dp_of 40 _ _ hb.2.1 hy
    refine .inr (.inl ⟨_, _, h1.1, h2.1, shaped_of (by omega) h1, shaped_of (by omega) h2, .inl (fin _ H (.bl _) (Mild.refl H) (.bl _) trivial ?_)⟩)
    simp only [Bool.false_eq_true, if_false]
    rw [mem_any]; exact hb.2.2
  · have h1 := dp_of 40 _ _ hb.1 hx
    have h2 := dp_of 40 _ _ hb.2.1 hy
    refine .inl ⟨_, _, h1.1, h2.1, shaped_of (by omega) h1, shaped_of (by omega) h2, .inl (fin _ H (.bl _) (Mild.refl H) (.bl _) trivial ?_)⟩
    rw [mem_any]; exact hb.2.2
  · obtain ⟨r, g, q⟩ := hb
    obtain ⟨a, o, rfl, g', i1, i2⟩ := dGet_V g hy hx
    have e : o.isSome = r.isSome := by
      cases r with
      | none => rw [i2 rfl]; rfl
      | some d => obtain ⟨v, e, _⟩ := i1 d rfl; rw [e]; rfl
    refine .inr (.inr (.inl ⟨a, o, rfl, g', .inl (fin _ H (.bl _) (Mild.refl H) (.bl _) trivial ?_)⟩))
    simp only [Bool.false_eq_true, if_false]
    rw [e]; exact q
  · obtain ⟨r, ⟨k, ek, er⟩, q⟩ := hb
    refine .inr (.inr (.inr ⟨_, _, k, hx, hy, ek, .inl (fin _ H (.bl _) (Mild.refl H) (.bl _) trivial ?_)⟩))
    simp only [Bool.false_eq_true, if_false]
    rw [← er]; exact q
  · have h1 := dp_of 40 _ _ hb.1 hx
    have h2 := dp_of 40 _ _ hb.2.1 hy
    refine .inr (.inl ⟨_, _, h1.1, h2.1, shaped_of (by omega) h1, shaped_of (by omega) h2, .inl (fin _ H (.bl _) (Mild.refl H) (.bl _) trivial ?_)⟩)
    simp only [Bool.false_eq_true, if_false]
    rw [mem_any]; exact hb.2.2
theorem opD_notIn (cx : Ctx X C) : OpD X C (compareOp .NotIn) notInD := by
  have hu := cx.hu
  refine OpD.mk ((op_notInD (by omega)).or ((op_notInT hu).or ((op_notInM (by omega)).or (op_notInX hu cx.w)))) fun H x y dx dy Q Qv hx hy hb fin => ?_
  rw [← cx.K] at hx hy
  cases dy <;> first | exact hb.elim | skip
  · have h1 := dp_of 40 _ _ hb.1 hx
    have h2 := dp_of 40 _ _ hb.2.1 hy
    refine .inr (.inl ⟨_, _, h1.1, h2.1, shaped_of (by omega) h1, shaped_of (by omega) h2, .inl (fin _ H (.bl _) (Mild.refl H) (.bl _) trivial ?_)⟩)
    simp only [if_true]
    rw [mem_any]; exact hb.2.2
  · have h1 := dp_of 40 _ _ hb.1 hx
    have h2 := dp_of 40 _ _ hb.2.1 hy
    refine .inl ⟨_, _, h1.1, h2.1, shaped_of (by omega) h1, shaped_of (by omega) h2, .inl (fin _ H (.bl _) (Mild.refl H) (.bl _) trivial ?_)⟩
    rw [mem_any]; exact hb.2.2
  · obtain ⟨r, g, q⟩ := hb
    obtain ⟨a, o, rfl, g', i1, i2⟩ := dGet_V g hy hx
    have e : o.isSome = r.isSome := by
      cases r with
      | none => rw [i2 rfl]; rfl
      | some d => obtain ⟨v, e, _⟩ := i1 d rfl; rw [e]; rfl
    refine .inr (.inr (.inl ⟨a, o, rfl, g', .inl (fin _ H (.bl _) (Mild.refl H) (.bl _) trivial ?_)⟩))
    simp only [if_true]
    rw [e]; exact q
  · obtain ⟨r, ⟨k, ek, er⟩, q⟩ := hb
    refine .inr (.inr (.inr ⟨_, _, k, hx, hy, ek, .inl (fin _ H (.bl _) (Mild.refl H) (.bl _) trivial ?_)⟩))
    simp only [if_true]
    rw [← er]; exact q
  · have h1 := dp_of 40 _ _ hb.1 hx
    have h2 := dp_of 40 _ _ hb.2.1 hy
    refine .inr (.inl ⟨_, _, h1.1, h2.1, shaped_of (by omega) h1, shaped_of (by omega) h2, .inl (fin _ H (.bl _) (Mild.refl H) (.bl _) trivial ?_)⟩)
    simp only [if_true]
    rw [mem_any]; exact hb.2.2
end

theorem Den.noOwn {K : PySem.W.Frag} {H : Hp} {d : D} {v : V} (h : Den K H d v) : noOwn d := by
  cases h <;> trivial
section
variable {X : Cx} {C : DC} {a b e : Expr} {ta tb te : TED} {pos p2 : Pos}
/-! ### x[i] -/
def ixD : B2 := fun x y Q => match x with
  | .lst ds => match y with
    | .int i => ∃ d, atI ds i = some d ∧ Q d
    | _ => False
  | .tup ds => match y with
    | .int i => ∃ d, atI ds i = some d ∧ Q d
    | _ => False
  | .kt ds => match y with
    | .int i => ∃ d, atI ds i = some d ∧ Q d
    | _ => False
  | .str z => match y with
    | .int i => z.length ≤ sizeLine ∧ ∃ c, atI z.cps.toList i = some c ∧ Q (.str ⟨#[c]⟩)
    | _ => False
  | x => ∃ d, dGet x y (some d) ∧ Q d
def IxD (X : Cx) (C : DC) (b : B2) : Prop := IxR X (rB C.K b)
theorem IxD.mk {r : R2} {bb : B2} (ho : IxR X r)
    (h : ∀ (H : Hp) (x y : V) (dx dy : D) (Q : D → Prop) (Qv : VK), Red C.K H dx x → Red C.K H dy y → bb dx dy Q → Out C.K H Q Qv → r x y H (Shf Qv)) : IxD X C bb := by
  intro value slice pins s σ H x y v u Q I rx ry hq hs
  obtain ⟨dx, dy, Qd, hx, hy, hb, out⟩ := hq
  exact thn (ho value slice pins s σ H x y v u (Shf Q) I rx ry (h H x y dx dy Qd Q hx hy hb out) hs) fun w s' z => ep_shf z
theorem de_ix {bb : B2} (ho : IxD X C bb) (ha : DE X C a ta) (hb : DE X C b tb) (hs : PlainIx b) : DE X C (.Subscript a b pos) (eBin bb ta tb) := DE.imp (pe_ix ho ha hb hs) fun _ _ _ h => emb_bin h
def rIxM : R2 := fun x y H Q => ∃ a v, x = .ref a ∧ DGet H a y (some v) ∧ Q v H
theorem ix_dict (hu : X.A.units + 1 < cLine) : IxR X rIxM := by
  intro value slice pins s σ H x y v u Q I rx ry h hs
  obtain ⟨a, z, rfl, g, q⟩ := h
  cases rx
  have hT := dict_typeIs I g
  refine tail_any (ops := [.ref a, u]) hT PySem.F.slot_dict_getitem.lookup (d_getItem hu I g ry fun w' s3 I3 rw' => ⟨z, H, I3, rw', q⟩) hs
theorem atI_den {K : PySem.W.Frag} {H : Hp} {ds : List D} {vs : List V} {i : Int} {d : D} (h : DenL K H ds vs) (e : atI ds i = some d) : ∃ v, atI vs i = some v ∧ Den K H d v := by
  unfold atI at e ⊢
  rw [← h.1]
  cases q : ixN ds.length i with
  | none => rw [q] at e; cases e
  | some j =>
    rw [q] at e
    exact h.get (show ds[j]? = some d from e)
theorem strOk_sub {x y : Str} (h : PyData.strOk x = true) (s : ∀ c ∈ y.cps.toList, c ∈ x.cps.toList) : PyData.strOk y = true := strOk_of fun c hc => strOk_iff.mp h c (s c hc)
theorem atI_mem {α : Type} {xs : List α} {i : Int} {v : α} (h : atI xs i = some v) : v ∈ xs := by
  obtain ⟨j, _, e, _⟩ := atI_get h
  exact List.mem_of_getElem? e
theorem ixD_ok (cx : Ctx X C) : IxD X C ixD := by
  have hu := cx.hu
  refine IxD.mk (ix_list.or (ix_tup.or (ix_str.or ((ix_dict (by omega)).or (ix_dictX hu cx.w))))) fun H x y dx dy Q Qv hx hy hb fin => ?_
  rw [← cx.K] at hx hy
  cases dx <;> first | (obtain ⟨d, g, _⟩ := hb; exact g.elim) | skip
  · cases dy <;> first | exact hb.elim | skip
    obtain ⟨rfl, o1⟩ := red_str hx
    cases red_int hy
    obtain ⟨hz, c, e, q⟩ := hb
    refine .inr (.inr (.inl ⟨_, _, c, rfl, rfl, hz, e, .inl (fin _ H _ (Mild.refl H) (.str _ (strOk_sub o1 fun c' hc => ?_)) trivial q)⟩))
    have : c' = c := by simpa using hc
    rw [this]; exact atI_mem e
  · cases dy <;> first | exact hb.elim | skip
    obtain ⟨a, vs, rfl, h1, l1⟩ := red_tup hx
    cases red_int hy
    obtain ⟨d, e, q⟩ := hb
    obtain ⟨v, ev, hv⟩ := atI_den l1 e
    rw [cx.K] at hv
    exact .inr (.inl ⟨a, vs, _, v, rfl, rfl, h1.sqt, ev, .inl (fin _ H _ (Mild.refl H) hv hv.noOwn q)⟩)
  · cases dy <;> first | exact hb.elim | skip
    obtain ⟨a, vs, rfl, h1, l1⟩ := red_lst hx
    cases red_int hy
    obtain ⟨d, e, q⟩ := hb
    obtain ⟨v, ev, hv⟩ := atI_den l1 e
    rw [cx.K] at hv
    exact .inl ⟨a, vs, _, v, rfl, rfl, .inl h1, ev, .inl (fin _ H _ (Mild.refl H) hv hv.noOwn q)⟩
  · obtain ⟨d, g, q⟩ := hb
    obtain ⟨a, o, rfl, g', i1, _⟩ := dGet_V g hx hy
    obtain ⟨v, rfl, hv⟩ := i1 d rfl
    rw [cx.K] at hv
    exact .inr (.inr (.inr (.inl ⟨a, v, rfl, g', .inl (fin _ H _ (Mild.refl H) hv hv.noOwn q)⟩)))
  · obtain ⟨d, ⟨k, ek, er⟩, q⟩ := hb
    exact .inr (.inr (.inr (.inr ⟨_, _, k, d, hx, hy, ek, er.symm, fun v hv => .inl (fin _ H _ (Mild.refl H) (by rw [← cx.K]; exact hv) hv.noOwn q)⟩)))
  · cases dy <;> first | exact hb.elim | skip
    obtain ⟨a, vs, rfl, h1, l1⟩ := red_kt hx
    cases red_int hy
    obtain ⟨d, e, q⟩ := hb
    obtain ⟨v, ev, hv⟩ := atI_den l1 e
    rw [cx.K] at hv
    exact .inr (.inl ⟨a, vs, _, v, rfl, rfl, h1, ev, .inl (fin _ H _ (Mild.refl H) hv hv.noOwn q)⟩)

/-! ### x[lo:hi] -/
abbrev QO := Option Int → En → Sto → Prop
def oP : Option TED → XD → En → Sto → QO → Prop
  | none, _, σ, st, Q => Q none σ st
  | some t, E, σ, st, Q => t E σ st fun d σ1 st1 => match rd σ1 st1 d with
    | .int i => Q (some i) σ1 st1
    | _ => False
def embO (C : DC) (t : Option TED) : TO := fun σ H Q => ∃ σd st Qd, Rel C σd st σ H ∧ oP t C.E σd st Qd ∧ ∀ o H' σd' st', Rel C σd' st' σ H' → Keep H H' → Qd o σd' st' → Q o H'
theorem dpo_none : PO X none (embO C none) := ⟨fun pins s σ H Q I q => po_none.run pins s σ H Q I (by
  obtain ⟨σd, st, Qd, r, ht, k⟩ := q
  exact k none H σd st r (Keep.refl H) ht)⟩
theorem dpo_some (h : DE X C e ta) : PO X (some e) (embO C (some ta)) := ⟨fun pins s σ H Q I q => (po_some h).run pins s σ H Q I (by
  obtain ⟨σd, st, Qd, r, ht, k⟩ := q
  refine ⟨σd, st, _, r, ht, fun v H' d σd' st' r' h' k' z => ?_⟩
  have hr := rd_ok r' h'
  revert z hr
  dsimp only
  cases rd σd' st' d <;> first | exact fun z => z.elim | skip
  intro z hr
  exact ⟨_, red_int hr, k _ H' σd' st' r' k' z⟩)⟩
def cut {α : Type} (xs : List α) (lo hi : Option Int) : List α := (xs.drop (HT.sIx xs.length 0 lo)).take (HT.sIx xs.length xs.length hi - HT.sIx xs.length 0 lo)
theorem DenL.cut {K : PySem.W.Frag} {H : Hp} {ds : List D} {vs : List V} (h : DenL K H ds vs) (lo hi : Option Int) : DenL K H (cut ds lo hi) (cutV vs lo hi) := by
  unfold DL.cut cutV
  rw [← h.1]
  exact (h.drop _).take _
theorem cut_whole {α : Type} {xs : List α} {lo hi : Option Int} (h : HT.sIx xs.length 0 lo = 0 ∧ HT.sIx xs.length xs.length hi = xs.length) : cut xs lo hi = xs := by
  unfold cut
  rw [h.1, h.2]; simp
def slcD (x : D) (lo hi : Option Int) (Q : D → Prop) : Prop := match x with
  | .lst ds => Q (.lst (cut ds lo hi))
  | .tup ds => Q (.tup (cut ds lo hi))
  | .str z => z.length ≤ sizeLine ∧ Q (.str (cutS z lo hi))
  | _ => False
def eSl (ta : TED) (lo hi : Option TED) : TED := fun E σ st Q => ta E σ st fun x σ1 st1 => oP lo E σ1 st1 fun l σ2 st2 => oP hi E σ2 st2 fun h σ3 st3 => slcD (rd σ3 st3 x) l h fun d => Q d σ3 st3
def rSlD (K : PySem.W.Frag) : V → Option Int → Option Int → Hp → VK → Prop := fun x lo hi H Q => ∃ dx Qd, Red K H dx x ∧ slcD dx lo hi Qd ∧ Out K H Qd Q
theorem SlR.shf {r : V → Option Int → Option Int → Hp → VK → Prop} (h : SlR X r) : SlR X (fun x lo hi H Q => r x lo hi H (Shf Q)) := by
  intro pins s σ H x v vl vu lo hi sl Q I rx hs pl pu q
  obtain ⟨T, id, h1, h2, h3⟩ := h pins s σ H x v vl vu lo hi sl (Shf Q) I rx hs pl pu q
  exact ⟨T, id, h1, h2, thn h3 fun w s' z => ep_shf z⟩
/-- t[lo:hi] -/
def rSlF (K : PySem.W.Frag) : V → Option Int → Option Int → Hp → VK → Prop := fun x lo hi H Q => ∃ a xs, x = .ref a ∧ SqT K H a xs ∧ (cutV xs lo hi = xs → Q (.ref a) H) ∧ NewT H Q (cutV xs lo hi)
theorem sl_tupF : SlR X (rSlF X.K) := by
  intro pins s σ H x v vl vu lo hi sl Q I rx hs pl pu h
  obtain ⟨a, xs, rfl, hx, q1, q2⟩ := h
  cases rx
  obtain ⟨its, rv, ht, hz⟩ := I.tuple hx
  have hl : its.toArray.size = xs.length := by rw [List.size_toArray]; exact rv.length.symm
  refine ⟨"tuple", _, PyProof.Rows.slot_tuple_getitem.lookup, ht.typeIs, ?_⟩
  by_cases hw : HT.sIx xs.length 0 lo = 0 ∧ HT.sIx xs.length xs.length hi = xs.length
  · exact getItem_tuple_whole ht hs pl pu (by rw [hl]; exact hw) ⟨.ref a, H, I, rfl, q1 (by unfold cutV; rw [hw.1, hw.2]; simp)⟩
  · refine HT.getItem_tuple_cut ht hs pl pu (by rw [hl]; exact hw) ?_ (by rw [hl]; exact hz)
    rw [hl]
    exact ep_tup I ((rv.drop (HT.sIx xs.length 0 lo)).take (HT.sIx xs.length xs.length hi - HT.sIx xs.length 0 lo)) (Nat.le_trans (cutV_length xs lo hi) hz) q2
theorem sl_D (cx : Ctx X C) : SlR X (rSlD C.K) := by
  intro pins s σ H x v vl vu lo hi sl Q I rx hs pl pu q
  refine SlR.shf (sl_list.or (sl_tupF.or sl_str)) pins s σ H x v vl vu lo hi sl Q I rx hs pl pu ?_
  obtain ⟨dx, Qd, hx, hb, fin⟩ := q
  cases dx <;> first | exact hb.elim | skip
  · obtain ⟨rfl, o1⟩ := red_str hx
    refine .inr (.inr ⟨_, rfl, hb.1, .inl (fin _ H _ (Mild.refl H) (.str _ (strOk_sub o1 fun c hc => ?_)) trivial hb.2)⟩)
    unfold cutS at hc
    exact List.mem_of_mem_drop (List.mem_of_mem_take (by simpa using hc))
  · obtain ⟨a, vs, rfl, h1, l1⟩ := red_tup hx
    refine .inr (.inl ⟨a, vs, rfl, (by rw [cx.K]; exact h1.sqt), fun w => ?_, fun p o hp ho => ?_⟩)
    · refine .inl (fin _ H (.tup _) (Mild.refl H) ?_ trivial hb)
      have lc := l1.cut lo hi
      rw [w] at lc
      exact .tup h1 lc.1 lc.2
    · exact .inl (fin_tup hp ho (l1.cut lo hi) fun H' m hd => fin _ H' _ m hd trivial hb)
  · obtain ⟨a, vs, rfl, h1, l1⟩ := red_lst hx
    exact .inl ⟨a, vs, rfl, .inl h1, fun p hp => fin_lst hp (l1.cut lo hi) fun H' m hd => fin _ H' _ m hd trivial hb⟩
theorem de_slice (cx : Ctx X C) {lo hi : Option Expr} {tl th : Option TED} (ha : DE X C a ta) (hl : PO X lo (embO C tl)) (hh : PO X hi (embO C th)) : DE X C (.Subscript a (.Slice lo hi none p2) pos) (eSl ta tl th) := by
  refine DE.imp (pe_slice (sl_D cx) ha hl hh) fun σ H Q h => ?_
  obtain ⟨σd, st, Qd, r, ht, k⟩ := h
  refine ⟨σd, st, _, r, ht, fun x H1 dx σ1 st1 r1 h1 k1 ht1 => ⟨σ1, st1, _, r1, ht1, fun l H2 σ2 st2 r2 k2 ht2 => ⟨σ2, st2, _, r2, ht2, fun h H3 σ3 st3 r3 k3 q => ?_⟩⟩⟩
  exact ⟨_, _, rd_ok r3 (h1.keep (k2.trans k3)), q, Out.of r3 (k1.trans (k2.trans k3)) k⟩

/-! ### argument lists -/
abbrev QL := List D → En → Sto → Prop
abbrev TAD := XD → En → Sto → QL → Prop
def DenTL (K : PySem.W.Frag) (σ : VS) (H : Hp) (ds : List D) (vs : List V) : Prop := Paired (fun d v => DenT K σ H d v) ds vs
theorem DenTL.keep {K : PySem.W.Frag} {σ : VS} {H H' : Hp} {ds : List D} {vs : List V} (h : DenTL K σ H ds vs) (k : Keep H H') : DenTL K σ H' ds vs := Paired.mapP h fun _ _ z => z.keep k
def embA (C : DC) (t : TAD) : TA := fun σ H Q => ∃ σd st Qd, Rel C σd st σ H ∧ t C.E σd st Qd ∧ ∀ vs H' ds σd' st', Rel C σd' st' σ H' → DenTL C.K σ H' ds vs → Keep H H' → Qd ds σd' st' → Q vs H'
def DA (X : Cx) (C : DC) (es : List Expr) (t : TAD) : Prop := PA X es (embA C t)
def aNil : TAD := fun _ σ st Q => Q [] σ st
def aCons (ta : TED) (tr : TAD) : TAD := fun E σ st Q => ta E σ st fun d σ1 st1 => tr E σ1 st1 fun ds σ2 st2 => Q (d :: ds) σ2 st2
theorem DA.imp {es : List Expr} {t : TA} {td : TAD} (h : PA X es t) (i : ∀ σ H Q, embA C td σ H Q → t σ H Q) : DA X C es td := ⟨fun pos pins s σ H Q I q => h.run pos pins s σ H Q I (i σ H Q q)⟩
theorem da_nil : DA X C [] aNil := DA.imp pa_nil fun σ H Q h => by
  obtain ⟨σd, st, Qd, r, ht, k⟩ := h
  exact k [] H [] σd st r .nil (Keep.refl H) ht
theorem da_cons {es : List Expr} {tr : TAD} (ha : DE X C e ta) (hr : DA X C es tr) (hs : starEach (e :: es) X.env = (false, eval e X.env) :: starEach es X.env := by rfl) : DA X C (e :: es) (aCons ta tr) := DA.imp (pa_cons ha hr hs) fun σ H Q h => by
  obtain ⟨σd, st, Qd, r, ht, k⟩ := h
  exact ⟨σd, st, _, r, ht, fun x H1 d σ1 st1 r1 h1 k1 ht1 => ⟨σ1, st1, _, r1, ht1, fun xs H2 ds σ2 st2 r2 h2 k2 q => k _ H2 _ σ2 st2 r2 (.cons (h1.keep k2) h2) (k1.trans k2) q⟩⟩
/-- arguments that are held for good -/
def aL : List TED → TAD
  | [] => fun _ σ st Q => Q [] σ st
  | t :: ts => fun E σ st Q => eFz t E σ st fun d σ1 st1 => aL ts E σ1 st1 fun ds σ2 st2 => Q (d :: ds) σ2 st2
def embL (C : DC) (ts : List TED) : TA := fun σ H Q => ∃ σd st Qd, Rel C σd st σ H ∧ aL ts C.E σd st Qd ∧ ∀ vs H' ds σd' st', Rel C σd' st' σ H' → DenL C.K H' ds vs → ds.length = ts.length → Keep H H' → Qd ds σd' st' → Q vs H'
def DAr (X : Cx) (C : DC) (es : List Expr) (ts : List TED) : Prop := PA X es (embL C ts)
theorem dl_nil : DAr X C [] [] := ⟨fun pos pins s σ H Q I q => pa_nil.run pos pins s σ H Q I (by
  obtain ⟨σd, st, Qd, r, ht, k⟩ := q
  exact k [] H [] σd st r DenL.nil rfl (Keep.refl H) ht)⟩
theorem dl_cons {es : List Expr} {ts : List TED} (ha : DE X C e ta) (hr : DAr X C es ts) (hs : starEach (e :: es) X.env = (false, eval e X.env) :: starEach es X.env := by rfl) : DAr X C (e :: es) (ta :: ts) := ⟨fun pos pins s σ H Q I q => (pa_cons (de_fzD ha) hr hs).run pos pins s σ H Q I (by
  obtain ⟨σd, st, Qd, r, ht, k⟩ := q
  have ht' : eFz ta C.E σd st (fun d σ1 st1 => aL ts C.E σ1 st1 fun ds σ2 st2 => Qd (d :: ds) σ2 st2) := ht
  exact ⟨σd, st, _, r, ht', fun x H1 d σ1 st1 r1 h1 k1 ht1 => ⟨σ1, st1, _, r1, ht1, fun xs H2 ds σ2 st2 r2 h2 l2 k2 q => k _ H2 _ σ2 st2 r2 (DenL.cons (h1.keep k2) h2) (by simp [l2]) (k1.trans k2) q⟩⟩)⟩

/-! ### displays -/
def eTup (ts : List TED) : TED := fun E σ st Q => aL ts E σ st fun ds σ1 st1 => Q (.tup ds) σ1 st1
def eLst (ts : List TED) : TED := fun E σ st Q => aL ts E σ st fun ds σ1 st1 => Q (.lst ds) σ1 st1
theorem line_ok {n : Nat} (h : n ≤ 1000) : n ≤ sizeLine := by rw [sizeLine_eq]; omega
def tTupF (t : TA) : TE := fun σ H Q => t σ H fun vs H1 => vs.length ≤ sizeLine ∧ NewT H1 Q vs
theorem pe_tupF {es : List Expr} {t : TA} {k : Nat} (h : PA X es t) : PE X (.Tuple es k pos) (tTupF t) :=
  ⟨fun pins s σ H Q I hq => wpAny_Tuple_spliced (thn (h.run pos pins s σ H _ I hq) fun us s1 ⟨xs, H1, I1, rv, z, q⟩ => ⟨by rw [← rv.length]; exact z, ep_tup I1 rv z q⟩)⟩
theorem de_tup {es : List Expr} {k : Nat} {ts : List TED} (h : DAr X C es ts) (hz : ts.length ≤ 1000 := by exact Nat.le_of_ble_eq_true rfl) : DE X C (.Tuple es k pos) (eTup ts) := DE.imp (pe_tupF h) fun σ H Q q => by
  obtain ⟨σd, st, Qd, r, ht, k⟩ := q
  refine ⟨σd, st, _, r, ht, fun vs H1 ds σ1 st1 r1 l z k1 q => ?_⟩
  exact ⟨by rw [← l.1, z]; exact line_ok hz, fun p o hp ho => fin_tup (Qv := Q) hp ho l fun H' m hd => k _ H' _ σ1 st1 (r1.mild m) (.of hd) (k1.trans m.k) q⟩
theorem de_lst {es : List Expr} {ts : List TED} (h : DAr X C es ts) (hz : ts.length ≤ 1000 := by exact Nat.le_of_ble_eq_true rfl) : DE X C (.List es pos) (eLst ts) := DE.imp (pe_shf (pe_lst h)) fun σ H Q q => by
  obtain ⟨σd, st, Qd, r, ht, k⟩ := q
  refine ⟨σd, st, _, r, ht, fun vs H1 ds σ1 st1 r1 l z k1 q => ?_⟩
  exact ⟨by rw [← l.1, z]; exact line_ok hz, fun p hp => fin_lst hp l fun H' m hd => k _ H' _ σ1 st1 (r1.mild m) (.of hd) (k1.trans m.k) q⟩
end
end DL

set_option Elab.async false
set_option linter.all false
set_option maxRecDepth 100000
namespace DL
open PySem PySem.Spec PyProof.Rows L2
variable [WW]
/-! ### calls of built-ins by values -/
abbrev BL := List D → (D → Prop) → Prop
def RedL (K : PySem.W.Frag) (H : Hp) (ds : List D) (vs : List V) : Prop := Paired (Red K H) ds vs
def rL (K : PySem.W.Frag) (b : BL) : List V → Hp → VK → Prop := fun vs H Q => ∃ ds Qd, RedL K H ds vs ∧ b ds Qd ∧ Out K H Qd Q
def CallD (X : Cx) (C : DC) (f : Value) (b : BL) : Prop := CallR X f (rL C.K b)
def eCB (b : BL) (ta : TAD) : TED := fun E σ st Q => ta E σ st fun ds σ1 st1 => b (ds.map (rd σ1 st1)) fun d => Q d σ1 st1
section
variable {X : Cx} {C : DC} {e : Expr} {es : List Expr} {t : TAD} {pos p : Pos} {x : Str}
theorem redL_of {σd : En} {st : Sto} {σ : VS} {H : Hp} (r : Rel C σd st σ H) : ∀ {ds : List D} {vs : List V}, DenTL C.K σ H ds vs → RedL C.K H (ds.map (rd σd st)) vs
  | _, _, .nil => .nil
  | _, _, .cons h t => .cons (rd_ok r h) (redL_of r t)
theorem emb_cb {b : BL} {ta : TAD} {σ : VS} {H : Hp} {Q : VK} (h : emb C (eCB b ta) σ H Q) : tCB (rL C.K b) (embA C ta) σ H Q := by
  obtain ⟨σd, st, Qd, r, ht, k⟩ := h
  exact ⟨σd, st, _, r, ht, fun vs H1 ds σ1 st1 r1 h1 k1 q => ⟨_, _, redL_of r1 h1, q, Out.of r1 k1 k⟩⟩
theorem de_callB {id : String} {b : BL} (hc : CallD X C (.builtin id) b) (hg : Gl X x) (hm : X.mg x = none) (hv : bootBuiltins x = some (.builtin id)) (ha : DA X C (e :: es) t) (hn : x ≠ "__name__" := by decide) (hdb : (x == ("__debug__" : Str)) = false := by decide)
    (he : starEach (e :: es) X.env = (false, eval e X.env) :: starEach es X.env := by rfl) (hpl : (backTo pos (starEach es X.env)).any (·.1) = false := by rfl) : DE X C (.Call (.Name x p) (e :: es) [] pos) (eCB b t) :=
  DE.imp (pe_callB hc hg hm hv ha hn hdb he hpl) fun _ _ _ h => emb_cb h
theorem de_callTy {T : String} {b : BL} (hc : CallD X C (.type T) b) (hg : Gl X x) (hm : X.mg x = none) (hv : bootBuiltins x = some (.type T)) (ha : DA X C (e :: es) t) (hn : x ≠ "__name__" := by decide) (hdb : (x == ("__debug__" : Str)) = false := by decide)
    (he : starEach (e :: es) X.env = (false, eval e X.env) :: starEach es X.env := by rfl) (hpl : (backTo pos (starEach es X.env)).any (·.1) = false := by rfl) : DE X C (.Call (.Name x p) (e :: es) [] pos) (eCB b t) :=
  DE.imp (pe_callTy hc hg hm hv ha hn hdb he hpl) fun _ _ _ h => emb_cb h
theorem de_callF {id : String} {b : BL} (hc : CallD X C (.builtin id) b) (hg : Gl X x) (hm : X.mg x = some (.builtin id)) (ha : DA X C (e :: es) t) (hdb : (x == ("__debug__" : Str)) = false := by decide)
    (he : starEach (e :: es) X.env = (false, eval e X.env) :: starEach es X.env := by rfl) (hpl : (backTo pos (starEach es X.env)).any (·.1) = false := by rfl) : DE X C (.Call (.Name x p) (e :: es) [] pos) (eCB b t) :=
  DE.imp (pe_callBfun hc hg hm ha hdb he hpl) fun _ _ _ h => emb_cb h
theorem CallD.mk {f : Value} {r : List V → Hp → VK → Prop} {b : BL} (ho : CallR X f r)
    (h : ∀ (H : Hp) (vs : List V) (ds : List D) (Q : D → Prop) (Qv : VK), RedL C.K H ds vs → b ds Q → Out C.K H Q Qv → r vs H (Shf Qv)) : CallD X C f b := by
  intro pins s σ H vs us Q I rx hq
  obtain ⟨ds, Qd, hx, hb, out⟩ := hq
  exact thn (ho pins s σ H vs us (Shf Q) I rx (h H vs ds Qd Q hx hb out)) fun w s' z => ep_shf z
/-- one argument -/
def b1 (f : D → (D → Prop) → Prop) : BL := fun ds Q => match ds with
  | [d] => f d Q
  | _ => False
def b2 (f : D → D → (D → Prop) → Prop) : BL := fun ds Q => match ds with
  | [d, e] => f d e Q
  | _ => False
theorem CallD.mk1 {f : Value} {r : List V → Hp → VK → Prop} {b : D → (D → Prop) → Prop} (ho : CallR X f r)
    (h : ∀ (H : Hp) (v : V) (d : D) (Q : D → Prop) (Qv : VK), Red C.K H d v → b d Q → Out C.K H Q Qv → r [v] H (Shf Qv)) : CallD X C f (b1 b) := by
  refine CallD.mk ho fun H vs ds Q Qv hx hb out => ?_
  cases hx with
  | nil => exact hb.elim
  | cons h1 t =>
    cases t with
    | nil => exact h H _ _ Q Qv h1 hb out
    | cons _ _ => exact hb.elim
theorem CallD.mk2 {f : Value} {r : List V → Hp → VK → Prop} {b : D → D → (D → Prop) → Prop} (ho : CallR X f r)
    (h : ∀ (H : Hp) (v u : V) (d e : D) (Q : D → Prop) (Qv : VK), Red C.K H d v → Red C.K H e u → b d e Q → Out C.K H Q Qv → r [v, u] H (Shf Qv)) : CallD X C f (b2 b) := by
  refine CallD.mk ho fun H vs ds Q Qv hx hb out => ?_
  cases hx with
  | nil => exact hb.elim
  | cons h1 t =>
    cases t with
    | nil => exact hb.elim
    | cons h2 t =>
      cases t with
      | nil => exact h H _ _ _ _ Q Qv h1 h2 hb out
      | cons _ _ => exact hb.elim
/-! len -/
def lenD (d : D) (Q : D → Prop) : Prop := match d with
  | .lst ds => Q (.int ds.length)
  | .tup ds => Q (.int ds.length)
  | .kt ds => Q (.int ds.length)
  | .kls ds => Q (.int ds.length)
  | .dK ds => Q (.int ds.length)
  | .dT ds => Q (.int ds.length)
  | .str x => x.length ≤ sizeLine ∧ Q (.int x.length)
  | _ => False
theorem call_len_dK : CallR X (.builtin "len") (fun xs H Q => ∃ a kvs, xs = [V.ref a] ∧ Rd H a (.dK kvs) ∧ Q (.int kvs.length) H) := by
  intro pins s σ H xs us Q I r h
  obtain ⟨a, kvs, rfl, ha, q⟩ := h
  obtain ⟨u, rfl, ru⟩ := vals1 r
  cases ru
  exact d_len I ha fun t s' I' => ⟨.int kvs.length, H, I', ⟨t, rfl⟩, q⟩
theorem call_len_dTR (ew : X.w = WW.w) : CallR X (.builtin "len") (fun ws H Q => ∃ kvs v, ws = [v] ∧ Red X.K H (.dT kvs) v ∧ Q (.int kvs.length) H) := by
  intro pins s σ H ws us Q I r h
  obtain ⟨kvs, v, rfl, hv, q⟩ := h
  obtain ⟨u, rfl, rx⟩ := vals1 r
  obtain ⟨a, o, xs, vs, rfl, ha, c⟩ := red_dT hv
  cases rx
  obtain ⟨_, hm⟩ := dt_heap I ew ha c
  have hl : xs.length = kvs.length := by have := congrArg List.length c.l; simpa using this.symm
  refine PySem.call_len_dictH c.q.sm hm (by have := c.q.ln; have := sizeLine_eq; omega) ?_
  rw [hl]
  exact ⟨.int _, H, I.tok _, ⟨_, rfl⟩, q⟩
theorem callD_len (cx : Ctx X C) : CallD X C (.builtin "len") (b1 lenD) := by
  refine CallD.mk1 (call_len.or (call_len_dK.or (call_len_dTR cx.w))) fun H v d Q Qv h hb fin => ?_
  rw [← cx.K] at h
  cases d <;> first | exact hb.elim | skip
  · obtain ⟨rfl, _⟩ := red_str h
    exact .inl ⟨_, _, rfl, ⟨hb.1, rfl⟩, .inl (fin _ H _ (Mild.refl H) (.int _) trivial hb.2)⟩
  · obtain ⟨a, vs, rfl, h1, l1⟩ := red_tup h
    exact .inl ⟨_, _, rfl, .inr ⟨vs, h1.sqt, l1.1⟩, .inl (fin _ H _ (Mild.refl H) (.int _) trivial hb)⟩
  · obtain ⟨a, vs, rfl, h1, l1⟩ := red_lst h
    exact .inl ⟨_, _, rfl, .inl ⟨vs, .inl h1, l1.1⟩, .inl (fin _ H _ (Mild.refl H) (.int _) trivial hb)⟩
  · obtain ⟨a, vs, rfl, h1, l1⟩ := red_dK h
    refine .inr (.inl ⟨a, vs, rfl, h1, .inl (fin _ H (.int _) (Mild.refl H) (.int _) trivial ?_)⟩)
    rw [show vs.length = _ from by have := congrArg List.length l1.1; simpa using this.symm]; exact hb
  · exact .inr (.inr ⟨_, v, rfl, h, .inl (fin _ H (.int _) (Mild.refl H) (.int _) trivial hb)⟩)
  · obtain ⟨a, vs, rfl, h1, l1⟩ := red_kls h
    exact .inl ⟨_, _, rfl, .inl ⟨vs, h1, l1.1⟩, .inl (fin _ H _ (Mild.refl H) (.int _) trivial hb)⟩
  · obtain ⟨a, vs, rfl, h1, l1⟩ := red_kt h
    exact .inl ⟨_, _, rfl, .inr ⟨vs, h1, l1.1⟩, .inl (fin _ H _ (Mild.refl H) (.int _) trivial hb)⟩
/-! abs, int, min, max of intsD -/
def absD (d : D) (Q : D → Prop) : Prop := match d with
  | .int i => Q (.int (if i < 0 then -i else i))
  | _ => False
theorem callD_abs : CallD X C (.builtin "abs") (b1 absD) := by
  refine CallD.mk1 call_abs fun H v d Q Qv h hb fin => ?_
  cases d <;> first | exact hb.elim | skip
  cases red_int h
  exact ⟨_, rfl, .inl (fin _ H _ (Mild.refl H) (.int _) trivial hb)⟩
def intD (d : D) (Q : D → Prop) : Prop := match d with
  | .int i => Q (.int i)
  | .bl b => Q (.int (if b then 1 else 0))
  | _ => False
theorem callD_int : CallD X C (.type "int") (b1 intD) := by
  refine CallD.mk1 call_int1 fun H v d Q Qv h hb fin => ?_
  cases d <;> first | exact hb.elim | skip
  · cases red_bl h
    exact .inr ⟨_, rfl, .inl (fin _ H _ (Mild.refl H) (.int _) trivial hb)⟩
  · cases red_int h
    exact .inl ⟨_, rfl, .inl (fin _ H _ (Mild.refl H) (.int _) trivial hb)⟩
def min2D (d e : D) (Q : D → Prop) : Prop := match d, e with
  | .int i, .int j => Q (.int (if j < i then j else i))
  | _, _ => False
def max2D (d e : D) (Q : D → Prop) : Prop := match d, e with
  | .int i, .int j => Q (.int (if j > i then j else i))
  | _, _ => False
theorem callD_min2 (cx : Ctx X C) : CallD X C (.builtin "min") (b2 min2D) := by
  refine CallD.mk2 (call_min2 cx.calm) fun H v u d e Q Qv h1 h2 hb fin => ?_
  cases d <;> first | exact hb.elim | skip
  cases e <;> first | exact hb.elim | skip
  cases red_int h1
  cases red_int h2
  exact ⟨_, _, rfl, .inl (fin _ H _ (Mild.refl H) (.int _) trivial hb)⟩
theorem callD_max2 (cx : Ctx X C) : CallD X C (.builtin "max") (b2 max2D) := by
  refine CallD.mk2 (call_max2 cx.calm) fun H v u d e Q Qv h1 h2 hb fin => ?_
  cases d <;> first | exact hb.elim | skip
  cases e <;> first | exact hb.elim | skip
  cases red_int h1
  cases red_int h2
  exact ⟨_, _, rfl, .inl (fin _ H _ (Mild.refl H) (.int _) trivial hb)⟩
def gcdD (d e : D) (Q : D → Prop) : Prop := match d, e with
  | .int i, .int j => Q (.int ((Nat.gcd i.natAbs j.natAbs : Nat) : Int))
  | _, _ => False
theorem callD_gcd : CallD X C (.builtin "math.gcd") (b2 gcdD) := by
  refine CallD.mk2 cr_gcd fun H v u d e Q Qv h1 h2 hb fin => ?_
  cases d <;> first | exact hb.elim | skip
  cases e <;> first | exact hb.elim | skip
  cases red_int h1
  cases red_int h2
  exact ⟨_, _, rfl, .inl (fin _ H _ (Mild.refl H) (.int _) trivial hb)⟩
/-! all, any, sum of a list -/
def boolsD : List D → Option (List Bool)
  | [] => some []
  | .bl b :: r => (boolsD r).map (b :: ·)
  | _ => none
def intsD : List D → Option (List Int)
  | [] => some []
  | .int b :: r => (intsD r).map (b :: ·)
  | _ => none
theorem boolsD_V {K : PySem.W.Frag} {H : Hp} : ∀ {ds : List D} {bs : List Bool} {vs : List V}, boolsD ds = some bs → DenL K H ds vs → vs = bs.map V.bl
  | [], bs, vs, e, h => by cases e; exact h.of_nil
  | d :: ds, bs, vs, e, h => by
    obtain ⟨v, r, rfl, h1, h2⟩ := h.of_cons
    cases d <;> first | (cases e; done) | skip
    obtain ⟨bs', e1, rfl⟩ := Option.map_eq_some_iff.mp (show (boolsD ds).map _ = some bs from e)
    cases h1
    rw [boolsD_V e1 h2]; rfl
theorem intsD_V {K : PySem.W.Frag} {H : Hp} : ∀ {ds : List D} {bs : List Int} {vs : List V}, intsD ds = some bs → DenL K H ds vs → vs = bs.map V.int
  | [], bs, vs, e, h => by cases e; exact h.of_nil
  | d :: ds, bs, vs, e, h => by
    obtain ⟨v, r, rfl, h1, h2⟩ := h.of_cons
    cases d <;> first | (cases e; done) | skip
    obtain ⟨bs', e1, rfl⟩ := Option.map_eq_some_iff.mp (show (intsD ds).map _ = some bs from e)
    cases h1
    rw [intsD_V e1 h2]; rfl
def allD (d : D) (Q : D → Prop) : Prop := match d with
  | .lst ds => ∃ bs, boolsD ds = some bs ∧ Q (.bl (bs.all id))
  | _ => False
def anyD (d : D) (Q : D → Prop) : Prop := match d with
  | .lst ds => ∃ bs, boolsD ds = some bs ∧ Q (.bl (bs.any id))
  | _ => False
def sumD (d : D) (Q : D → Prop) : Prop := match d with
  | .lst ds => ∃ bs, intsD ds = some bs ∧ Q (.int bs.sum)
  | _ => False
theorem callD_all (cx : Ctx X C) : CallD X C (.builtin "all") (b1 allD) := by
  refine CallD.mk1 (cr_all cx.calm) fun H v d Q Qv h hb fin => ?_
  cases d <;> first | exact hb.elim | skip
  obtain ⟨a, vs, rfl, h1, l1⟩ := red_lst h
  obtain ⟨bs, e, q⟩ := hb
  exact ⟨a, bs, rfl, .inl (by rw [← boolsD_V e l1]; exact h1), .inl (fin _ H _ (Mild.refl H) (.bl _) trivial q)⟩
theorem callD_any (cx : Ctx X C) : CallD X C (.builtin "any") (b1 anyD) := by
  refine CallD.mk1 (cr_any cx.calm) fun H v d Q Qv h hb fin => ?_
  cases d <;> first | exact hb.elim | skip
  obtain ⟨a, vs, rfl, h1, l1⟩ := red_lst h
  obtain ⟨bs, e, q⟩ := hb
  exact ⟨a, bs, rfl, .inl (by rw [← boolsD_V e l1]; exact h1), .inl (fin _ H _ (Mild.refl H) (.bl _) trivial q)⟩
theorem callD_sum (cx : Ctx X C) : CallD X C (.builtin "sum") (b1 sumD) := by
  refine CallD.mk1 (cr_sum cx.calm) fun H v d Q Qv h hb fin => ?_
  cases d <;> first | exact hb.elim | skip
  obtain ⟨a, vs, rfl, h1, l1⟩ := red_lst h
  obtain ⟨bs, e, q⟩ := hb
  exact ⟨a, bs, rfl, .inl (by rw [← intsD_V e l1]; exact h1), .inl (fin _ H _ (Mild.refl H) (.int _) trivial q)⟩
/-! tuple(x), list(x) -/
def tupleD (d : D) (Q : D → Prop) : Prop := match d with
  | .lst ds => Q (.tup ds)
  | .tup ds => Q (.tup ds)
  | _ => False
def listD (d : D) (Q : D → Prop) : Prop := match d with
  | .lst ds => Q (.lst ds)
  | .tup ds => Q (.lst ds)
  | .kt ds => Q (.lst ds)
  | _ => False
theorem call_tupleF : CallR X (.type "tuple") (fun ws H Q => ∃ p ys, ws = [.ref p] ∧ ((SqL X.K H p ys ∧ NewT H Q ys) ∨ (SqT X.K H p ys ∧ Q (.ref p) H))) := by
  intro pins s σ H ws us Q I r h
  obtain ⟨p, ys, rfl, h⟩ := h
  obtain ⟨u, rfl, rx⟩ := vals1 r
  cases rx
  rcases h with ⟨hq, q⟩ | ⟨hq, q⟩
  · obtain ⟨its, rv, pl, hz⟩ := I.list hq
    refine call_tuple_list pl.isList (fun h' kp => ?_) (by have := rv.length; simp only [List.size_toArray]; omega)
    exact ep_tup (I.kept (t' := s.toks) kp) rv hz q
  · obtain ⟨its, rv, pl, _⟩ := I.tuple hq
    exact call_tuple_same pl ⟨.ref p, H, I, rfl, q⟩
theorem callD_tuple (cx : Ctx X C) : CallD X C (.type "tuple") (b1 tupleD) := by
  refine CallD.mk1 call_tupleF fun H v d Q Qv h hb fin => ?_
  rw [← cx.K] at h fin
  cases d <;> first | exact hb.elim | skip
  · obtain ⟨a, vs, rfl, h1, l1⟩ := red_tup h
    exact ⟨a, vs, rfl, .inr ⟨h1.sqt, .inl (fin _ H (.tup _) (Mild.refl H) (.tup h1 l1.1 l1.2) trivial hb)⟩⟩
  · obtain ⟨a, vs, rfl, h1, l1⟩ := red_lst h
    exact ⟨a, vs, rfl, .inl ⟨.inl h1, fun p o hp ho => .inl (fin_tup hp ho l1 fun H' m hd => fin _ H' _ m hd trivial hb)⟩⟩
theorem callD_list (cx : Ctx X C) : CallD X C (.type "list") (b1 listD) := by
  refine CallD.mk1 call_list_of fun H v d Q Qv h hb fin => ?_
  rw [← cx.K] at h fin
  cases d <;> first | exact hb.elim | skip
  · obtain ⟨a, vs, rfl, h1, l1⟩ := red_tup h
    exact ⟨a, vs, rfl, .inr h1.sqt, fun p hp => fin_lst hp l1 fun H' m hd => fin _ H' _ m hd trivial hb⟩
  · obtain ⟨a, vs, rfl, h1, l1⟩ := red_lst h
    exact ⟨a, vs, rfl, .inl (.inl h1), fun p hp => fin_lst hp l1 fun H' m hd => fin _ H' _ m hd trivial hb⟩
  · obtain ⟨a, vs, rfl, h1, l1⟩ := red_kt h
    exact ⟨a, vs, rfl, .inr h1, fun p hp => fin_lst hp l1 fun H' m hd => fin _ H' _ m hd trivial hb⟩
end
end DL

set_option Elab.async false
set_option linter.all false
set_option maxRecDepth 100000
namespace DL
open PySem PySem.Spec PyProof.Rows L2
variable [WW]
/-! ### isinstance against built-in classes -/
inductive TyE where
  | non | bl | int | str | lst | tup | dct
  deriving DecidableEq
def TyE.nm : TyE → String
  | .non => "NoneType"
  | .bl => "bool"
  | .int => "int"
  | .str => "str"
  | .lst => "list"
  | .tup => "tuple"
  | .dct => "dict"
def tyE : D → Option TyE
  | .non => some .non
  | .bl _ => some .bl
  | .int _ => some .int
  | .str _ => some .str
  | .lst _ => some .lst
  | .kls _ => some .lst
  | .tup _ => some .tup
  | .kt _ => some .tup
  | .dK _ => some .dct
  | .dT _ => some .dct
  | _ => none
/-- is an instance of the one also one of the other -/
def TyE.sub : TyE → TyE → Bool
  | .non, .non => true
  | .bl, .bl => true
  | .bl, .int => true
  | .int, .int => true
  | .str, .str => true
  | .lst, .lst => true
  | .tup, .tup => true
  | .dct, .dct => true
  | _, _ => false
theorem sub_kit : ∀ a b : TyE, L2.kitB a.nm b.nm = some (a.sub b) := by
  intro a b
  cases a <;> cases b <;> decide +kernel
theorem kitOne_ty (K : PySem.W.Frag) (a b : TyE) : PySem.W.kitOne K (.type a.nm) (.type b.nm) = some (a.sub b) := kit_ty (sub_kit a b)
theorem kitAny_ty (K : PySem.W.Frag) (a : TyE) : ∀ cs : List TyE, PySem.W.kitAny K (.type a.nm) (cs.map fun c => .type c.nm) = some (cs.any a.sub)
  | [] => rfl
  | c :: cs => by
    show (match PySem.W.kitOne K (.type a.nm) (.type c.nm) with
      | some true => some true
      | some false => PySem.W.kitAny K (.type a.nm) (cs.map fun c => .type c.nm)
      | none => none) = some (a.sub c || cs.any a.sub)
    rw [kitOne_ty]
    cases a.sub c with
    | true => rfl
    | false => exact kitAny_ty K a cs
section
variable {X : Cx} {C : DC} {pins : List (Addr × Obj)} {σ : VS} {H : Hp} {s : Shared}
theorem kd_of {d : D} {v : V} {u : Value} {t : TyE} (I : Inv X pins σ H s) (h : Red X.K H d v) (r : RelV v u) (e : tyE d = some t) :
    ∃ P : Heap → Prop, PySem.W.KitX X.K u (.type t.nm) P ∧ P s.heap ∧ u ≠ .builtin "__main__.__loader__#opaque" := by
  cases d <;> first | (cases e; done) | skip
  · cases e
    have h' : Den X.K H .non v := h
    cases h'; cases r
    exact ⟨_, PySem.W.kitx_none, True.intro, fun z => nomatch z⟩
  · cases e; cases red_bl h; cases r
    exact ⟨_, PySem.W.kitx_bool, True.intro, fun z => nomatch z⟩
  · cases e; cases red_int h
    obtain ⟨tk, rfl⟩ := r
    exact ⟨_, PySem.W.kitx_int, True.intro, fun z => nomatch z⟩
  · cases e
    obtain ⟨rfl, _⟩ := red_str h
    obtain ⟨tk, rfl⟩ := r
    exact ⟨_, PySem.W.kitx_str, True.intro, fun z => nomatch z⟩
  · cases e
    obtain ⟨a, vs, rfl, h1, l1⟩ := red_tup h
    cases r
    obtain ⟨_, _, ⟨o, h2, h3, _⟩, _⟩ := I.tuple h1.sqt
    exact ⟨_, PySem.W.kitx_tuple, ⟨o, h2, h3⟩, fun z => nomatch z⟩
  · cases e
    obtain ⟨a, vs, rfl, h1, l1⟩ := red_lst h
    cases r
    obtain ⟨_, _, n, _, h2⟩ := h1.ok I.hok
    exact ⟨_, PySem.W.kitx_list, ⟨_, h2, rfl⟩, fun z => nomatch z⟩
  · cases e
    obtain ⟨a, vs, rfl, h1, l1⟩ := red_dK h
    cases r
    obtain ⟨_, _, vs', _, o, es, ep, h2, h3, _⟩ := h1.ok I.hok
    exact ⟨_, PySem.W.kitx_dict, ⟨o, h2, h3.1⟩, fun z => nomatch z⟩
  · cases e
    obtain ⟨a, o, xs, vs, rfl, ha, c⟩ := red_dT h
    cases r
    have g : s.heap.get? a = some o := by
      rcases ha with z | ⟨o', z⟩
      · exact (I.hok a _ z).1
      · exact (I.hok a _ z).2.1
    exact ⟨_, PySem.W.kitx_dict, ⟨o, g, c.q.ex.1⟩, fun z => nomatch z⟩
  · cases e
    obtain ⟨a, vs, rfl, h1, l1⟩ := red_kls h
    cases r
    obtain ⟨_, _, ⟨o, n, h2, h3, _⟩, _⟩ := I.list h1
    exact ⟨_, PySem.W.kitx_list, ⟨o, h2, h3⟩, fun z => nomatch z⟩
  · cases e
    obtain ⟨a, vs, rfl, h1, l1⟩ := red_kt h
    cases r
    obtain ⟨_, _, ⟨o, h2, h3, _⟩, _⟩ := I.tuple h1
    exact ⟨_, PySem.W.kitx_tuple, ⟨o, h2, h3⟩, fun z => nomatch z⟩
def isiD (cs : List TyE) (d : D) (Q : D → Prop) : Prop := match tyE d with
  | some t => Q (.bl (cs.any t.sub))
  | none => False
def rIsi1 (K : PySem.W.Frag) (c : TyE) : List V → Hp → VK → Prop := fun xs H Q => ∃ x d Qd, xs = [x, .ty c.nm] ∧ Red K H d x ∧ isiD [c] d Qd ∧ Out K H Qd Q
theorem call_isi1 (cx : Ctx X C) (c : TyE) : CallR X (.builtin "isinstance") (rIsi1 C.K c) := by
  intro pins s σ H xs us Q I r h
  obtain ⟨x, d, Qd, rfl, hd, hb, out⟩ := h
  obtain ⟨u1, u2, rfl, r1, r2⟩ := vals2 r
  cases (show u2 = Value.type c.nm from r2)
  unfold isiD at hb
  cases e : tyE d with
  | none => rw [e] at hb; exact hb.elim
  | some t =>
    rw [e] at hb
    rw [← cx.K] at hd
    obtain ⟨P, Z, p, hx⟩ := kd_of I hd r1 e
    refine PySem.W.kia_one Z I.kIn p (kitOne_ty _ t c) hx fun tk => ⟨.bl _, H, I.tok tk, rfl, out _ H (.bl (t.sub c)) (Mild.refl H) (.bl _) trivial ?_⟩
    have : [c].any t.sub = t.sub c := by simp
    rw [← this]; exact hb
def rIsiN (K : PySem.W.Frag) (cs : List TyE) : List V → Hp → VK → Prop := fun xs H Q => ∃ x tp d Qd, xs = [x, .ref tp] ∧ H tp = some (.tup (cs.map fun c => .ty c.nm)) ∧ Red K H d x ∧ isiD cs d Qd ∧ Out K H Qd Q
theorem call_isiN (cx : Ctx X C) (cs : List TyE) : CallR X (.builtin "isinstance") (rIsiN C.K cs) := by
  intro pins s σ H xs us Q I r h
  obtain ⟨x, tp, d, Qd, rfl, hT, hd, hb, out⟩ := h
  obtain ⟨u1, u2, rfl, r1, r2⟩ := vals2 r
  cases (show u2 = Value.ref tp from r2)
  unfold isiD at hb
  cases e : tyE d with
  | none => rw [e] at hb; exact hb.elim
  | some t =>
    rw [e] at hb
    rw [← cx.K] at hd
    obtain ⟨P, Z, p, hx⟩ := kd_of I hd r1 e
    obtain ⟨hz, its, rv, o, h1, h2, n, h3⟩ := (show ObjOk X.prog X.w H s.heap tp (.tup (cs.map fun c => .ty c.nm)) from I.hok tp _ hT)
    have e3 : its = cs.map fun c => Value.type c.nm := by
      clear h3 hb hT hz
      induction cs generalizing its with
      | nil => cases rv; rfl
      | cons c cs ih =>
        cases rv with
        | cons a b =>
          rw [show _ = Value.type c.nm from a, ih _ b]
          rfl
    subst e3
    obtain ⟨oc, od, dt, sl⟩ := o
    simp only at h2 h3
    subst h2 h3
    exact PySem.W.kia_tup Z I.kIn p h1 (kitAny_ty _ t cs) hx fun tk => ⟨.bl _, H, I.tok tk, rfl, out _ H (.bl _) (Mild.refl H) (.bl _) trivial hb⟩
def eIsi (cs : List TyE) (ta : TED) : TED := eUn (isiD cs) ta
variable {e : Expr} {ta : TED} {pos p p2 p3 : Pos}
theorem de_isi1 (cx : Ctx X C) (c : TyE) {T : Str} (hg : Gl X "isinstance") (hm : X.mg "isinstance" = none) (ha : DE X C e ta) (gT : Gl X T) (mT : X.mg T = none) (vT : bootBuiltins T = some (.type c.nm)) (nT : T ≠ "__name__" := by decide) (bT : (T == ("__debug__" : Str)) = false := by decide)
    (he : starEach [e, .Name T p2] X.env = (false, eval e X.env) :: starEach [.Name T p2] X.env := by rfl) (hpl : (backTo pos (starEach [.Name T p2] X.env)).any (·.1) = false := by rfl) :
    DE X C (.Call (.Name "isinstance" p) [e, .Name T p2] [] pos) (eIsi [c] ta) := by
  refine DE.imp (pe_callB (call_isi1 cx c) hg hm (by decide +kernel) (pa_cons ha (pa_cons (pe_bltn gT mT vT (v := .ty c.nm) rfl nT bT) pa_nil) he) (by decide) (by decide) he hpl) fun σ H Q h => ?_
  obtain ⟨σd, st, Qd, r, ht, k⟩ := h
  exact ⟨σd, st, _, r, ht, fun x H1 d σ1 st1 r1 h1 k1 q => ⟨x, _, _, rfl, rd_ok r1 h1, q, Out.of r1 k1 k⟩⟩
theorem de_isi2 (cx : Ctx X C) (c c' : TyE) {T T' : Str} {kk : Nat} {p4 : Pos} (hg : Gl X "isinstance") (hm : X.mg "isinstance" = none) (ha : DE X C e ta) (gT : Gl X T) (mT : X.mg T = none) (vT : bootBuiltins T = some (.type c.nm)) (gT' : Gl X T') (mT' : X.mg T' = none) (vT' : bootBuiltins T' = some (.type c'.nm))
    (nT : T ≠ "__name__" := by decide) (bT : (T == ("__debug__" : Str)) = false := by decide) (nT' : T' ≠ "__name__" := by decide) (bT' : (T' == ("__debug__" : Str)) = false := by decide)
    (he : starEach [e, .Tuple [.Name T p2, .Name T' p3] kk p4] X.env = (false, eval e X.env) :: starEach [.Tuple [.Name T p2, .Name T' p3] kk p4] X.env := by rfl) (hpl : (backTo pos (starEach [.Tuple [.Name T p2, .Name T' p3] kk p4] X.env)).any (·.1) = false := by rfl) :
    DE X C (.Call (.Name "isinstance" p) [e, .Tuple [.Name T p2, .Name T' p3] kk p4] [] pos) (eIsi [c, c'] ta) := by
  refine DE.imp (pe_callB (call_isiN cx [c, c']) hg hm (by decide +kernel) (pa_cons ha (pa_cons (pe_tup (pa_cons (pe_bltn gT mT vT (v := .ty c.nm) rfl nT bT) (pa_cons (pe_bltn gT' mT' vT' (v := .ty c'.nm) rfl nT' bT') pa_nil))) pa_nil) he) (by decide) (by decide) he hpl) fun σ H Q h => ?_
  obtain ⟨σd, st, Qd, r, ht, k⟩ := h
  refine ⟨σd, st, _, r, ht, fun x H1 d σ1 st1 r1 h1 k1 q => ⟨by show 2 ≤ sizeLine; decide, fun tp hp => ?_⟩⟩
  have m : Mild H1 (upd H1 tp (.tup [.ty c.nm, .ty c'.nm])) := Mild.new hp
  exact ⟨x, tp, _, _, rfl, upd_same, rd_ok (r1.mild m) (h1.keep m.k), q, Out.of (r1.mild m) (k1.trans m.k) k⟩

/-! ### tests -/
abbrev QT := Bool → En → Sto → Prop
abbrev TTD := XD → En → Sto → QT → Prop
def embT (C : DC) (t : TTD) : TT := fun σ H Q => ∃ σd st Qd, Rel C σd st σ H ∧ t C.E σd st Qd ∧ ∀ b H' σd' st', Rel C σd' st' σ H' → Keep H H' → Qd b σd' st' → Q b H'
def DT (X : Cx) (C : DC) (e : Expr) (t : TTD) : Prop := PT X e (embT C t)
def DW (X : Cx) (C : DC) (e : Expr) (t : TTD) : Prop := PW X e (embT C t)
def asB (d : D) (Q : Bool → Prop) : Prop := match d with
  | .bl b => Q b
  | _ => False
def tVal (t : TED) : TTD := fun E σ st Q => t E σ st fun d σ1 st1 => asB (rd σ1 st1 d) fun b => Q b σ1 st1
theorem DT.imp {t : TT} {td : TTD} (h : PT X e t) (i : ∀ σ H Q, embT C td σ H Q → t σ H Q) : DT X C e td := ⟨fun pins s σ H Q I q => h.run pins s σ H Q I (i σ H Q q)⟩
theorem DW.imp {t : TT} {td : TTD} (h : PW X e t) (i : ∀ σ H Q, embT C td σ H Q → t σ H Q) : DW X C e td := ⟨fun wh pins s σ H Q I q => h.run wh pins s σ H Q I (i σ H Q q)⟩
theorem asB_red {d : D} {v : V} {K : PySem.W.Frag} {Q : Bool → Prop} (h : Red K H d v) (q : asB d Q) : ∃ b, v = .bl b ∧ Q b := by
  cases d <;> first | exact q.elim | skip
  exact ⟨_, red_bl h, q⟩
theorem dt_val {t : TED} (h : DE X C e t) (he : ∀ whole, isTrue e X.env whole = (do let v ← whole; standAt e.pos; holding [v] (truthy v)) := by intro _; rfl) : DT X C e (tVal t) := DT.imp (pt_val h he) fun σ H Q q => by
  obtain ⟨σd, st, Qd, r, ht, k⟩ := q
  refine ⟨σd, st, _, r, ht, fun v H1 d σ1 st1 r1 h1 k1 q => ?_⟩
  obtain ⟨b, rfl, q⟩ := asB_red (rd_ok r1 h1) q
  exact ⟨b, rfl, k b H1 σ1 st1 r1 k1 q⟩
variable {a b : Expr} {tb : TED}
theorem dt_cmp {op : CmpOp} {bb : B2} (ho : OpD X C (compareOp op) bb) (ha : DE X C a ta) (hb : DE X C b tb) (hm : behindInMarks op b = false) : DT X C (.Compare a [op] [b] pos) (tVal (eBin bb ta tb)) := DT.imp (pt_cmpR ho ha hb hm) fun σ H Q q => by
  obtain ⟨σd, st, Qd, r, ht, k⟩ := q
  refine ⟨σd, st, _, r, ht, fun x H1 dx σ1 st1 r1 h1 k1 ht1 => ⟨σ1, st1, _, r1, ht1, fun y H2 dy σ2 st2 r2 h2 k2 q => ?_⟩⟩
  refine ⟨_, _, _, rd_ok r2 (h1.keep k2), rd_ok r2 h2, q, fun z H' d m hd n q => ?_⟩
  have r3 := r2.mild m
  obtain ⟨b, rfl, q⟩ := asB_red (rd_ok r3 (.of hd)) q
  exact ⟨b, rfl, k b H' σ2 st2 r3 (k1.trans (k2.trans m.k)) q⟩
def tNotD (t : TTD) : TTD := fun E σ st Q => t E σ st fun b => Q (!b)
def tAndD (t u : TTD) : TTD := fun E σ st Q => t E σ st fun b σ1 st1 => if b = true then u E σ1 st1 Q else Q false σ1 st1
def tOrD (t u : TTD) : TTD := fun E σ st Q => t E σ st fun b σ1 st1 => if b = true then Q true σ1 st1 else u E σ1 st1 Q
variable {t u : TTD} {rest : List Expr}
theorem dt_not (h : DT X C a t) : DT X C (.UnaryOp .Not a pos) (tNotD t) := DT.imp (pt_not h) fun σ H Q q => by
  obtain ⟨σd, st, Qd, r, ht, k⟩ := q
  exact ⟨σd, st, _, r, ht, fun b H1 σ1 st1 r1 k1 q => k _ H1 σ1 st1 r1 k1 q⟩
theorem dw_and1 (h : DT X C a t) : DW X C (.BoolOp .And [a] pos) t := pw_and1 h
theorem dw_or1 (h : DT X C a t) : DW X C (.BoolOp .Or [a] pos) t := pw_or1 h
theorem dw_and (h : DT X C a t) (g : DW X C (.BoolOp .And (b :: rest) pos) u) : DW X C (.BoolOp .And (a :: b :: rest) pos) (tAndD t u) := DW.imp (pw_and h g) fun σ H Q q => by
  obtain ⟨σd, st, Qd, r, ht, k⟩ := q
  refine ⟨σd, st, _, r, ht, fun c H1 σ1 st1 r1 k1 q => ?_⟩
  cases c with
  | true => exact ⟨σ1, st1, _, r1, q, fun c H2 σ2 st2 r2 k2 q => k c H2 σ2 st2 r2 (k1.trans k2) q⟩
  | false => exact k false H1 σ1 st1 r1 k1 q
theorem dw_or (h : DT X C a t) (g : DW X C (.BoolOp .Or (b :: rest) pos) u) : DW X C (.BoolOp .Or (a :: b :: rest) pos) (tOrD t u) := DW.imp (pw_or h g) fun σ H Q q => by
  obtain ⟨σd, st, Qd, r, ht, k⟩ := q
  refine ⟨σd, st, _, r, ht, fun c H1 σ1 st1 r1 k1 q => ?_⟩
  cases c with
  | true => exact k true H1 σ1 st1 r1 k1 q
  | false => exact ⟨σ1, st1, _, r1, q, fun c H2 σ2 st2 r2 k2 q => k c H2 σ2 st2 r2 (k1.trans k2) q⟩
theorem dt_w (h : DW X C a t) : DT X C a t := PW.pt h
/-! and, or, not as values; a if t else b -/
def eAnd (ta tb : TED) : TED := fun E σ st Q => ta E σ st fun d σ1 st1 => asB (rd σ1 st1 d) fun b => if b = true then tb E σ1 st1 Q else Q (.bl false) σ1 st1
def eOr (ta tb : TED) : TED := fun E σ st Q => ta E σ st fun d σ1 st1 => asB (rd σ1 st1 d) fun b => if b = true then Q (.bl true) σ1 st1 else tb E σ1 st1 Q
def eNot (ta : TED) : TED := fun E σ st Q => ta E σ st fun d σ1 st1 => asB (rd σ1 st1 d) fun b => Q (.bl (!b)) σ1 st1
def eIf (t : TTD) (ta tb : TED) : TED := fun E σ st Q => t E σ st fun b σ1 st1 => if b = true then ta E σ1 st1 Q else tb E σ1 st1 Q
theorem de_one {op} (h : DE X C a ta) : DE X C (.BoolOp op [a] pos) ta := pe_one h
theorem de_and (ha : DE X C a ta) (hb : DE X C (.BoolOp .And (b :: rest) pos) tb) : DE X C (.BoolOp .And (a :: b :: rest) pos) (eAnd ta tb) := DE.imp (pe_and ha hb) fun σ H Q q => by
  obtain ⟨σd, st, Qd, r, ht, k⟩ := q
  refine ⟨σd, st, _, r, ht, fun v H1 d σ1 st1 r1 h1 k1 q => ?_⟩
  obtain ⟨c, rfl, q⟩ := asB_red (rd_ok r1 h1) q
  refine ⟨c, rfl, ?_⟩
  cases c with
  | true => exact ⟨σ1, st1, _, r1, q, fun v H2 d σ2 st2 r2 h2 k2 q => k v H2 d σ2 st2 r2 h2 (k1.trans k2) q⟩
  | false => exact k _ H1 _ σ1 st1 r1 (.of (.bl false)) k1 q
theorem de_or (ha : DE X C a ta) (hb : DE X C (.BoolOp .Or (b :: rest) pos) tb) : DE X C (.BoolOp .Or (a :: b :: rest) pos) (eOr ta tb) := DE.imp (pe_or ha hb) fun σ H Q q => by
  obtain ⟨σd, st, Qd, r, ht, k⟩ := q
  refine ⟨σd, st, _, r, ht, fun v H1 d σ1 st1 r1 h1 k1 q => ?_⟩
  obtain ⟨c, rfl, q⟩ := asB_red (rd_ok r1 h1) q
  refine ⟨c, rfl, ?_⟩
  cases c with
  | true => exact k _ H1 _ σ1 st1 r1 (.of (.bl true)) k1 q
  | false => exact ⟨σ1, st1, _, r1, q, fun v H2 d σ2 st2 r2 h2 k2 q => k v H2 d σ2 st2 r2 h2 (k1.trans k2) q⟩
theorem de_not (ha : DE X C a ta) : DE X C (.UnaryOp .Not a pos) (eNot ta) := DE.imp (pe_not ha) fun σ H Q q => by
  obtain ⟨σd, st, Qd, r, ht, k⟩ := q
  refine ⟨σd, st, _, r, ht, fun v H1 d σ1 st1 r1 h1 k1 q => ?_⟩
  obtain ⟨c, rfl, q⟩ := asB_red (rd_ok r1 h1) q
  exact ⟨c, rfl, k _ H1 _ σ1 st1 r1 (.of (.bl _)) k1 q⟩
theorem de_if {c : Expr} (hc : DT X C c t) (ha : DE X C a ta) (hb : DE X C b tb) : DE X C (.IfExp c a b pos) (eIf t ta tb) := DE.imp (pe_ifExp hc ha hb) fun σ H Q q => by
  obtain ⟨σd, st, Qd, r, ht, k⟩ := q
  refine ⟨σd, st, _, r, ht, fun c H1 σ1 st1 r1 k1 q => ?_⟩
  cases c with
  | true => exact ⟨σ1, st1, _, r1, q, fun v H2 d σ2 st2 r2 h2 k2 q => k v H2 d σ2 st2 r2 h2 (k1.trans k2) q⟩
  | false => exact ⟨σ1, st1, _, r1, q, fun v H2 d σ2 st2 r2 h2 k2 q => k v H2 d σ2 st2 r2 h2 (k1.trans k2) q⟩
/-! a <= b < c -/
variable {c : Expr} {tc : TED}
def eChain (f g : B2) (ta tb tc : TED) : TED := fun E σ st Q => ta E σ st fun x σ1 st1 => tb E σ1 st1 fun y σ2 st2 => f (rd σ2 st2 x) (rd σ2 st2 y) fun z => asB z fun k => if k = true then tc E σ2 st2 fun w σ3 st3 => g (rd σ3 st3 y) (rd σ3 st3 w) fun d => Q d σ3 st3 else Q (.bl false) σ2 st2
theorem de_chain {op op' : CmpOp} {f g : B2} (ho : OpD X C (compareOp op) f) (ho' : OpD X C (compareOp op') g) (ha : DE X C a ta) (hb : DE X C b tb) (hc : DE X C c tc)
    (hm : lastMarks [op, op'] [b, c] = false := by with_unfolding_all rfl) : DE X C (.Compare a [op, op'] [b, c] pos) (eChain f g ta tb tc) := DE.imp (pe_chain ho ho' ha hb hc hm) fun σ H Q q => by
  obtain ⟨σd, st, Qd, r, ht, k⟩ := q
  refine ⟨σd, st, _, r, ht, fun x H1 dx σ1 st1 r1 h1 k1 ht1 => ⟨σ1, st1, _, r1, ht1, fun y H2 dy σ2 st2 r2 h2 k2 q => ?_⟩⟩
  refine ⟨_, _, _, rd_ok r2 (h1.keep k2), rd_ok r2 h2, q, fun z H3 d m hd n q => ?_⟩
  have r3 := r2.mild m
  have k3 := k1.trans (k2.trans m.k)
  obtain ⟨b, rfl, q⟩ := asB_red (Red.of hd) q
  refine ⟨b, rfl, ?_⟩
  cases b with
  | false => exact k _ H3 _ σ2 st2 r3 (.of (.bl false)) k3 q
  | true => exact ⟨σ2, st2, _, r3, q, fun w H4 dw σ4 st4 r4 h4 k4 q => ⟨_, _, _, rd_ok r4 (h2.keep (m.k.trans k4)), rd_ok r4 h4, q, Out.of r4 (k3.trans k4) k⟩⟩
theorem dt_chain {op op' : CmpOp} {f g : B2} (ho : OpD X C (compareOp op) f) (ho' : OpD X C (compareOp op') g) (ha : DE X C a ta) (hb : DE X C b tb) (hc : DE X C c tc)
    (hm : lastMarks [op, op'] [b, c] = false := by with_unfolding_all rfl) : DT X C (.Compare a [op, op'] [b, c] pos) (tVal (eChain f g ta tb tc)) := DT.imp (pt_chain ho ho' ha hb hc hm) fun σ H Q q => by
  obtain ⟨σd, st, Qd, r, ht, k⟩ := q
  refine ⟨σd, st, _, r, ht, fun x H1 dx σ1 st1 r1 h1 k1 ht1 => ⟨σ1, st1, _, r1, ht1, fun y H2 dy σ2 st2 r2 h2 k2 q => ?_⟩⟩
  refine ⟨_, _, _, rd_ok r2 (h1.keep k2), rd_ok r2 h2, q, fun z H3 d m hd n q => ?_⟩
  have r3 := r2.mild m
  have k3 := k1.trans (k2.trans m.k)
  obtain ⟨b, rfl, q⟩ := asB_red (Red.of hd) q
  refine ⟨b, rfl, ?_⟩
  cases b with
  | false => exact ⟨false, rfl, k _ H3 σ2 st2 r3 k3 q⟩
  | true =>
    refine ⟨σ2, st2, _, r3, q, fun w H4 dw σ4 st4 r4 h4 k4 q => ⟨_, _, _, rd_ok r4 (h2.keep (m.k.trans k4)), rd_ok r4 h4, q, fun z H5 d m5 hd n q => ?_⟩⟩
    have r5 := r4.mild m5
    obtain ⟨b, rfl, q⟩ := asB_red (rd_ok r5 (.of hd)) q
    exact ⟨b, rfl, k b H5 σ4 st4 r5 (k3.trans (k4.trans m5.k)) q⟩
end
end DL

set_option Elab.async false
set_option linter.all false
set_option maxRecDepth 100000
namespace DL
open PySem PySem.Spec PyProof.Rows L2
variable [WW]
/-! ### the state changed -/
section
variable {C : DC} {σd : En} {st : Sto} {σ : VS} {H : Hp}
theorem set_get {α : Type} {l : List α} {i j : Nat} {x y : α} (h : (l.set i x)[j]? = some y) : (i = j ∧ y = x ∧ i < l.length) ∨ (i ≠ j ∧ l[j]? = some y) := by
  by_cases e : i = j
  · subst e
    by_cases hi : i < l.length
    · rw [List.getElem?_set_self hi] at h
      cases h
      exact .inl ⟨rfl, rfl, hi⟩
    · rw [List.getElem?_eq_none (by simpa using hi)] at h
      cases h
  · rw [List.getElem?_set_ne e] at h
    exact .inr ⟨e, h⟩
/-- a name is given a datum -/
theorem Rel.set (r : Rel C σd st σ H) (i : Nat) {d : D} {v : V} (h : Den C.K H d v) : Rel C (σd.set i (.val d)) st (σ.set i (some v)) H := by
  have ow : ∀ j b, Owns (σd.set i (.val d)) (σ.set i (some v)) j b → Owns σd σ j b := fun j b ⟨y, e1, e2, e3⟩ => by
    rcases set_get e1 with ⟨_, rfl, _⟩ | ⟨n, e1⟩
    · cases e2
    · rw [List.getElem?_set_ne n] at e3
      exact ⟨y, e1, e2, e3⟩
  refine ⟨by simp [r.len], fun j y ej => ?_, fun j k b h1 h2 => r.dist j k b (ow j b h1) (ow k b h2), fun j b h => r.new j b (ow j b h), r.sh, r.dom, r.fr, r.th, r.tb⟩
  rcases set_get ej with ⟨rfl, rfl, hi⟩ | ⟨n, ej⟩
  · refine ⟨v, ?_, h⟩
    rw [List.getElem?_set_self (by rw [← r.len]; exact hi)]; rfl
  · rw [List.getElem?_set_ne n]
    exact r.sl j y ej
/-- a name is given a new thing of its own -/
theorem Rel.setOwn (r : Rel C σd st σ H) (i : Nat) {x : Sl} {p : Addr} {u : HO} (hp : H p = none) (hx : SlOk C.K (upd H p u) x (some (.ref p))) (hi : i < σd.length) :
    Rel C (σd.set i x) st (σ.set i (some (.ref p))) (upd H p u) := by
  obtain ⟨f1, f2, f3⟩ := r.fresh hp
  have r' := r.mild (Mild.new (o := u) hp)
  have ow : ∀ j b, Owns (σd.set i x) (σ.set i (some (.ref p))) j b → (j = i ∧ b = p) ∨ (j ≠ i ∧ Owns σd σ j b) := fun j b ⟨y, e1, e2, e3⟩ => by
    rcases set_get e1 with ⟨rfl, rfl, _⟩ | ⟨n, e1⟩
    · rw [List.getElem?_set_self (by rw [← r.len]; exact hi)] at e3
      cases e3
      exact .inl ⟨rfl, rfl⟩
    · rw [List.getElem?_set_ne n] at e3
      exact .inr ⟨Ne.symm n, y, e1, e2, e3⟩
  refine ⟨by simp [r.len], fun j y ej => ?_, fun j k b h1 h2 => ?_, fun j b h => ?_, r'.sh, r'.dom, r'.fr, r'.th, r'.tb⟩
  · rcases set_get ej with ⟨rfl, rfl, _⟩ | ⟨n, ej⟩
    · rw [List.getElem?_set_self (by rw [← r.len]; exact hi)]; exact hx
    · rw [List.getElem?_set_ne n]
      exact r'.sl j y ej
  · rcases ow j b h1 with ⟨rfl, rfl⟩ | ⟨n1, q1⟩
    · rcases ow k b h2 with ⟨rfl, _⟩ | ⟨_, q2⟩
      · rfl
      · exact absurd q2 (f1 k)
    · rcases ow k b h2 with ⟨rfl, rfl⟩ | ⟨_, q2⟩
      · exact absurd q1 (f1 j)
      · exact r.dist j k b q1 q2
  · rcases ow j b h with ⟨_, rfl⟩ | ⟨_, q⟩
    · exact ⟨f3, f2⟩
    · exact r.new j b q
/-- the thing that slot i owns is changed -/
theorem Rel.updOwn (r : Rel C σd st σ H) {i : Nat} {a : Addr} {x : Sl} {u : HO} (w : Owns σd σ i a) (hx : SlOk C.K (upd H a u) x (some (.ref a))) (ho : x.owns = true) :
    Rel C (σd.set i x) st σ (upd H a u) ∧ Keep H (upd H a u) := by
  obtain ⟨u0, e0, lo, nt⟩ := r.owned w
  have kp : Keep H (upd H a u) := Keep.put (by rw [e0]; exact lo)
  obtain ⟨x0, ei, h0, hs⟩ := id w
  have hi : i < σd.length := (List.getElem?_eq_some_iff.mp ei).1
  obtain ⟨gN, sN⟩ := r.new i a w
  have ow : ∀ j b, Owns (σd.set i x) σ j b → Owns σd σ j b := fun j b ⟨y, e1, e2, e3⟩ => by
    rcases set_get e1 with ⟨rfl, rfl, _⟩ | ⟨n, e1⟩
    · exact ⟨x0, ei, h0, e3⟩
    · exact ⟨y, e1, e2, e3⟩
  refine ⟨⟨by simp [r.len], fun j y ej => ?_, fun j k b h1 h2 => r.dist j k b (ow j b h1) (ow k b h2), fun j b h => r.new j b (ow j b h), fun b so eb => ?_, r.dom, fun b v e1 e2 e3 => ?_, fun b e1 => ?_, tabs_k r.tb (TabK.put (r.owned_tx w))⟩, kp⟩
  · rcases set_get ej with ⟨rfl, rfl, _⟩ | ⟨n, ej⟩
    · rw [hs]; exact hx
    · refine (r.sl j y ej).keep kp fun b hb hv => ?_
      have nb : b ≠ a := fun z => n (by subst z; exact r.dist i j _ w ⟨y, ej, hb, join_some hv⟩)
      exact upd_ne nb
  · have n : b ≠ a := fun z => by rw [z, sN] at eb; cases eb
    exact (r.sh b so eb).keep kp (upd_ne n)
  · have n : b ≠ a := fun z => by rw [z, gN] at e1; cases e1
    rw [upd_ne n]; exact r.fr b v e1 e2 e3
  · refine Ob.upd (fun _ => r.th b e1) ?_
    obtain ⟨u', e', _, n'⟩ := SlOk.some hx ho
    rw [upd_same] at e'; cases e'; exact n'
/-- a shared thing is changed -/
theorem Rel.updSh (r : Rel C σd st σ H) {a : Addr} {o o' : SO} {u : HO} (w : st a = some o) (hx : SOk C.K (upd H a u) a o') :
    Rel C σd (supd st a o') σ (upd H a u) ∧ Keep H (upd H a u) := by
  obtain ⟨u0, e0, lo, nt⟩ := (r.sh a o w).some
  have kp : Keep H (upd H a u) := Keep.put (by rw [e0]; exact lo)
  refine ⟨⟨r.len, fun j y ej => ?_, r.dist, fun j b h => ?_, fun b so eb => ?_, fun b h => ?_, fun b v e1 e2 e3 => ?_, fun b e1 => ?_, tabs_k r.tb (TabK.put (r.sh a o w).tx)⟩, kp⟩
  · refine (r.sl j y ej).keep kp fun b hb hv => ?_
    have n : b ≠ a := fun z => by
      subst z
      have q := (r.new j b ⟨y, ej, hb, join_some hv⟩).2
      rw [w] at q; cases q
    exact upd_ne n
  · have q := r.new j b h
    have n : b ≠ a := fun z => by rw [z, w] at q; cases q.2
    exact ⟨q.1, by rw [supd_ne n]; exact q.2⟩
  · by_cases hb : b = a
    · subst hb
      rw [supd_same] at eb; cases eb; exact hx
    · rw [supd_ne hb] at eb
      exact (r.sh b so eb).keep kp (upd_ne hb)
  · by_cases hb : b = a
    · subst hb; exact r.dom b (by rw [w]; simp)
    · rw [supd_ne hb] at h; exact r.dom b h
  · by_cases hb : b = a
    · subst hb
      rcases r.dom b (by rw [w]; simp) with z | z
      · exact absurd z e2
      · rw [z] at e1; cases e1
    · rw [upd_ne hb]; exact r.fr b v e1 e2 e3
  · refine Ob.upd (fun _ => r.th b e1) ?_
    obtain ⟨u', e', _, n'⟩ := hx.some
    rw [upd_same] at e'; cases e'; exact n'
end

/-! ### statements -/
structure DEnds where
  nx : En → Sto → Prop
  rt : D → Sto → Prop
  bk : En → Sto → Prop := fun _ _ => False
  ct : En → Sto → Prop := fun _ _ => False
abbrev TSD := XD → DEnds → En → Sto → Prop
/-- the ends of both layers, from a heap H on -/
structure Link (C : DC) (H : Hp) (Dd : DEnds) (Dv : Ends) : Prop where
  nx : ∀ σ' H' σd' st', Rel C σd' st' σ' H' → Keep H H' → Dd.nx σd' st' → Dv.nx σ' H'
  rt : ∀ v σ' H' d σd' st', Rel C σd' st' σ' H' → Keep H H' → Den C.K H' d v → Dd.rt d st' → Dv.rt v H'
  bk : ∀ σ' H' σd' st', Rel C σd' st' σ' H' → Keep H H' → Dd.bk σd' st' → Dv.bk σ' H'
  ct : ∀ σ' H' σd' st', Rel C σd' st' σ' H' → Keep H H' → Dd.ct σd' st' → Dv.ct σ' H'
theorem Link.later {C : DC} {H H' : Hp} {Dd : DEnds} {Dv : Ends} (l : Link C H Dd Dv) (k : Keep H H') : Link C H' Dd Dv :=
  ⟨fun σ' H2 σd' st' r k2 q => l.nx σ' H2 σd' st' r (k.trans k2) q, fun v σ' H2 d σd' st' r k2 h q => l.rt v σ' H2 d σd' st' r (k.trans k2) h q, fun σ' H2 σd' st' r k2 q => l.bk σ' H2 σd' st' r (k.trans k2) q, fun σ' H2 σd' st' r k2 q => l.ct σ' H2 σd' st' r (k.trans k2) q⟩
def embS (C : DC) (t : TSD) : TS := fun Dv σ H => ∃ σd st Dd, Rel C σd st σ H ∧ t C.E Dd σd st ∧ Link C H Dd Dv
def DS (X : Cx) (C : DC) (s : Stmt) (t : TSD) : Prop := PS X s (embS C t)
def DSs (X : Cx) (C : DC) (s : List Stmt) (t : TSD) : Prop := PSs X s (embS C t)
section
variable {X : Cx} {C : DC} {st : Stmt} {rest : List Stmt} {t u : TSD} {e : Expr} {te : TED} {pos : Pos}
theorem DS.imp {t : TS} {td : TSD} (h : PS X st t) (i : ∀ D σ H, embS C td D σ H → t D σ H) : DS X C st td := ⟨fun pins s σ H D I q => h.run pins s σ H D I (i D σ H q)⟩
theorem DSs.imp {t : TS} {td : TSD} (h : PSs X rest t) (i : ∀ D σ H, embS C td D σ H → t D σ H) : DSs X C rest td := ⟨fun pins s σ H D I q => h.run pins s σ H D I (i D σ H q)⟩
def sNext : TSD := fun _ D σ st => D.nx σ st
def sSeq (t u : TSD) : TSD := fun E D σ st => t E { D with nx := u E D } σ st
theorem dss_nil : DSs X C [] sNext := DSs.imp pss_nil fun D σ H q => by
  obtain ⟨σd, st, Dd, r, ht, l⟩ := q
  exact l.nx σ H σd st r (Keep.refl H) ht
theorem dss_cons (h1 : DS X C st t) (h2 : DSs X C rest u) : DSs X C (st :: rest) (sSeq t u) := DSs.imp (pss_cons h1 h2) fun D σ H q => by
  obtain ⟨σd, st, Dd, r, ht, l⟩ := q
  exact ⟨σd, st, _, r, ht, ⟨fun σ' H' σd' st' r' k q => ⟨σd', st', Dd, r', q, l.later k⟩, l.rt, l.bk, l.ct⟩⟩
theorem dss_one (h1 : DS X C st t) : DSs X C [st] t := pss_one h1
def sNever : TSD := fun _ _ _ _ => False
theorem ds_never : DS X C st sNever := DS.imp ps_never fun D σ H q => by
  obtain ⟨_, _, _, _, h, _⟩ := q
  exact h
theorem dss_never : DSs X C rest sNever := DSs.imp pss_never fun D σ H q => by
  obtain ⟨_, _, _, _, h, _⟩ := q
  exact h
theorem ds_pass : DS X C (.Pass pos) sNext := DS.imp ps_pass fun D σ H q => by
  obtain ⟨σd, st, Dd, r, ht, l⟩ := q
  exact l.nx σ H σd st r (Keep.refl H) ht
def sBreak : TSD := fun _ D σ st => D.bk σ st
def sCont : TSD := fun _ D σ st => D.ct σ st
theorem ds_continue : DS X C (.Continue pos) sCont := DS.imp ps_continue fun D σ H q => by
  obtain ⟨σd, st, Dd, r, ht, l⟩ := q
  exact l.ct σ H σd st r (Keep.refl H) ht
/-- the value is dropped -/
def sDrop (te : TED) : TSD := fun E D σ st => te E σ st fun _ σ1 st1 => D.nx σ1 st1
theorem ds_expr (he : DE X C e te) (hs : swapsWith e none pos.line X.env = pure false := by rfl) : DS X C (.Expr e pos) (sDrop te) := DS.imp (ps_expr he hs) fun D σ H q => by
  obtain ⟨σd, st, Dd, r, ht, l⟩ := q
  exact ⟨σd, st, _, r, ht, fun v H1 d σ1 st1 r1 h1 k1 q => l.nx σ H1 σ1 st1 r1 k1 q⟩
def sRet (te : TED) : TSD := fun E D σ st => eFz te E σ st fun d _ st1 => D.rt d st1
theorem ds_ret (he : DE X C e te) : DS X C (.Return (some e) pos) (sRet te) := DS.imp (ps_ret (de_fzD he)) fun D σ H q => by
  obtain ⟨σd, st, Dd, r, ht, l⟩ := q
  exact ⟨σd, st, _, r, ht, fun v H1 d σ1 st1 r1 h1 k1 q => l.rt v σ H1 d σ1 st1 r1 k1 h1 q⟩
def sIf (c : TTD) (t u : TSD) : TSD := fun E D σ st => c E σ st fun b σ1 st1 => if b = true then t E D σ1 st1 else u E D σ1 st1
theorem ds_if {c : Expr} {a b : List Stmt} {tc : TTD} (hc : DT X C c tc) (ha : DSs X C a t) (hb : DSs X C b u) : DS X C (.If c a b pos) (sIf tc t u) := DS.imp (ps_if hc ha hb) fun D σ H q => by
  obtain ⟨σd, st, Dd, r, ht, l⟩ := q
  refine ⟨σd, st, _, r, ht, fun b H1 σ1 st1 r1 k1 q => ?_⟩
  cases b with
  | true => exact ⟨σ1, st1, Dd, r1, q, l.later k1⟩
  | false => exact ⟨σ1, st1, Dd, r1, q, l.later k1⟩
/-! targets -/
abbrev TGD := D → En → Sto → (En → Sto → Prop) → Prop
abbrev TGsD := List D → En → Sto → (En → Sto → Prop) → Prop
def embG (C : DC) (t : TGD) : TG := fun v σ H Q => ∃ d σd st Qd, Rel C σd st σ H ∧ Den C.K H d v ∧ t d σd st Qd ∧ ∀ σ' H' σd' st', Rel C σd' st' σ' H' → Keep H H' → Qd σd' st' → Q σ' H'
def embGs (C : DC) (t : TGsD) : TGs := fun vs σ H Q => ∃ ds σd st Qd, Rel C σd st σ H ∧ DenL C.K H ds vs ∧ t ds σd st Qd ∧ ∀ σ' H' σd' st', Rel C σd' st' σ' H' → Keep H H' → Qd σd' st' → Q σ' H'
def DG (X : Cx) (C : DC) (e : Expr) (t : TGD) : Prop := PG X e (embG C t)
def DGs (X : Cx) (C : DC) (es : List Expr) (t : TGsD) : Prop := PGs X es (embGs C t)
def gN (i : Nat) : TGD := fun d σ st Q => Q (σ.set i (.val d)) st
theorem DG.imp {t : TG} {td : TGD} (h : PG X e t) (i : ∀ v σ H Q, embG C td v σ H Q → t v σ H Q) : DG X C e td := ⟨fun pins s σ H v u Q I r q => h.run pins s σ H v u Q I r (i v σ H Q q)⟩
theorem DGs.imp {es : List Expr} {t : TGs} {td : TGsD} (h : PGs X es t) (i : ∀ v σ H Q, embGs C td v σ H Q → t v σ H Q) : DGs X C es td := ⟨fun pins s σ H v u Q I r q => h.run pins s σ H v u Q I r (i v σ H Q q)⟩
theorem dg_name {i : Nat} {x : Str} (hN : X.N.Nodup) (hi : X.N[i]? = some x) (hx : Loc X.env.scope x) (hf : X.fn x = true ∨ X.env.scope.names.lookup x = some .local := by first | exact .inl rfl | exact .inr rfl | assumption) : DG X C (.Name x pos) (gN i) :=
  DG.imp (pg_name hN hi hx hf) fun v σ H Q q => by
    obtain ⟨d, σd, st, Qd, r, h, ht, k⟩ := q
    exact k _ H _ st (r.set i h) (Keep.refl H) ht
def gsNil : TGsD := fun ds σ st Q => ds = [] ∧ Q σ st
def gsCons (t : TGD) (u : TGsD) : TGsD := fun ds σ st Q => match ds with
  | d :: r => t d σ st fun σ1 st1 => u r σ1 st1 Q
  | [] => False
theorem dgs_nil : DGs X C [] gsNil := DGs.imp pgs_nil fun v σ H Q q => by
  obtain ⟨ds, σd, st, Qd, r, h, ⟨e, ht⟩, k⟩ := q
  subst e
  exact ⟨h.of_nil, k σ H σd st r (Keep.refl H) ht⟩
theorem dgs_cons {es : List Expr} {tg : TGD} {ug : TGsD} (h1 : DG X C e tg) (h2 : DGs X C es ug) (hs : (assignEach (e :: es) X.env).map (·.2) = assign e X.env :: (assignEach es X.env).map (·.2) := by rfl) : DGs X C (e :: es) (gsCons tg ug) :=
  DGs.imp (pgs_cons h1 h2 hs) fun v σ H Q q => by
    obtain ⟨ds, σd, st, Qd, r, h, ht, k⟩ := q
    cases ds with
    | nil => exact ht.elim
    | cons d ds =>
      obtain ⟨v1, vr, rfl, hd, hl⟩ := h.of_cons
      exact ⟨v1, vr, rfl, d, σd, st, _, r, hd, ht, fun σ1 H1 σd1 st1 r1 k1 q => ⟨ds, σd1, st1, Qd, r1, hl.keep k1, q, fun σ2 H2 σd2 st2 r2 k2 q => k σ2 H2 σd2 st2 r2 (k1.trans k2) q⟩⟩
/-- (a, b, ..) = a tuple; a list -/
def gTupD (n : Nat) (t : TGsD) : TGD := fun d σ st Q => match d with
  | .tup ds => ds.length = n ∧ t ds σ st Q
  | _ => False
def gLstD (n : Nat) (t : TGsD) : TGD := fun d σ st Q => match d with
  | .lst ds => ds.length = n ∧ t ds σ st Q
  | _ => False
theorem dg_tup {es : List Expr} {k : Nat} {ug : TGsD} {n : Nat} (cx : Ctx X C) (h : DGs X C es ug) (hn : (assignEach es X.env).length = n := by rfl) (hst : (assignEach es X.env).findIdx? (·.1) = none := by rfl) : DG X C (.Tuple es k pos) (gTupD n ug) :=
  DG.imp (pg_tup cx.calm h hn hst) fun v σ H Q q => by
    obtain ⟨d, σd, st, Qd, r, hd, ht, k⟩ := q
    cases d <;> first | exact ht.elim | skip
    obtain ⟨a, vs, rfl, h1, l1⟩ := red_tup (Red.of hd)
    exact ⟨a, vs, rfl, (by rw [cx.K]; exact h1.sqt), by rw [← l1.1]; exact ht.1, _, σd, st, Qd, r, l1, ht.2, k⟩
theorem dg_lst {es : List Expr} {k : Nat} {ug : TGsD} {n : Nat} (cx : Ctx X C) (h : DGs X C es ug) (hn : (assignEach es X.env).length = n := by rfl) (hst : (assignEach es X.env).findIdx? (·.1) = none := by rfl) : DG X C (.Tuple es k pos) (gLstD n ug) :=
  DG.imp (pg_lst cx.calm h hn hst) fun v σ H Q q => by
    obtain ⟨d, σd, st, Qd, r, hd, ht, k⟩ := q
    cases d <;> first | exact ht.elim | skip
    obtain ⟨a, vs, rfl, h1, l1⟩ := red_lst (Red.of hd)
    exact ⟨a, vs, rfl, .inl h1, by rw [← l1.1]; exact ht.1, _, σd, st, Qd, r, l1, ht.2, k⟩
/-! assignments -/
def sAsgG (te : TED) (g : TGD) : TSD := fun E D σ st => eFz te E σ st fun d σ1 st1 => g d σ1 st1 D.nx
theorem ds_asg {tg e : Expr} {g : TGD} (he : DE X C e te) (hg : DG X C tg g) (hs : swapsWithSole [tg] e pos.line X.env = pure false := by rfl) (hw : swappedStores [tg] e X.env = pure none := by rfl)
    (h1 : (assignEach [tg] X.env).map (·.2) = [assign tg X.env] := by rfl) : DS X C (.Assign [tg] e pos) (sAsgG te g) := DS.imp (ps_asg (de_fzD he) hg hs hw h1) fun D σ H q => by
  obtain ⟨σd, st, Dd, r, ht, l⟩ := q
  refine ⟨σd, st, _, r, ht, fun v H1 d σ1 st1 r1 h1 k1 q => ?_⟩
  exact ⟨d, σ1, st1, _, r1, h1, q, fun σ2 H2 σd2 st2 r2 k2 q => l.nx σ2 H2 σd2 st2 r2 (k1.trans k2) q⟩
def sAsg (i : Nat) (te : TED) : TSD := fun E D σ st => eFz te E σ st fun d σ1 st1 => D.nx (σ1.set i (.val d)) st1
theorem ds_set {i : Nat} {x : Str} {pos' : Pos} (cx : Ctx X C) (hi : X.N[i]? = some x) (hx : Loc X.env.scope x) (he : DE X C e te) (hs : swapsWith e (some (.Name x pos')) pos.line X.env = pure false := by rfl)
    (hf : X.fn x = true ∨ X.env.scope.names.lookup x = some .local := by first | exact .inl rfl | exact .inr rfl | assumption) : DS X C (.Assign [.Name x pos'] e pos) (sAsg i te) := DS.imp (ps_set cx.nd hi hx (de_fzD he) hs hf) fun D σ H q => by
  obtain ⟨σd, st, Dd, r, ht, l⟩ := q
  refine ⟨σd, st, _, r, ht, fun v H1 d σ1 st1 r1 h1 k1 q => ?_⟩
  exact l.nx _ H1 _ st1 (r1.set i h1) k1 q
/-- a, b = x, y: locals, stored from the right -/
def sPar (i j : Nat) (ta tb : TED) : TSD := fun E D σ st => eFz ta E σ st fun x σ1 st1 => eFz tb E σ1 st1 fun y σ2 st2 => D.nx ((σ2.set i (.val x)).set j (.val y)) st2
theorem ds_par {i j : Nat} {x y : Str} {a b : Expr} {ta tb : TED} {px py pt : Pos} {kt k2 : Nat} {pt2 : Pos} (cx : Ctx X C) (hi : X.N[i]? = some x) (hj : X.N[j]? = some y) (hij : i ≠ j)
    (hx : X.env.scope.names.lookup x = some .local) (hy : X.env.scope.names.lookup y = some .local) (ha : DE X C a ta) (hb : DE X C b tb)
    (hw : swappedStores [.Tuple [.Name x px, .Name y py] kt pt] (.Tuple [a, b] k2 pt2) X.env = pure (some [x, y]) := by rfl)
    (hs : swapsWithSole [.Tuple [.Name x px, .Name y py] kt pt] (.Tuple [a, b] k2 pt2) pos.line X.env = pure false := by rfl)
    (h1 : starEach [a, b] X.env = (false, eval a X.env) :: starEach [b] X.env := by rfl) (h2 : starEach [b] X.env = (false, eval b X.env) :: starEach [] X.env := by rfl) :
    DS X C (.Assign [.Tuple [.Name x px, .Name y py] kt pt] (.Tuple [a, b] k2 pt2) pos) (sPar i j ta tb) :=
  DS.imp (ps_par cx.calm cx.nd hi hj hij hx hy (pa_cons (de_fzD ha) (pa_cons (de_fzD hb) pa_nil h2) h1) hw hs) fun D σ H q => by
    obtain ⟨σd, st, Dd, r, ht, l⟩ := q
    refine ⟨σd, st, _, r, ht, fun v H1 d1 σ1 st1 r1 h1 k1 q => ⟨σ1, st1, _, r1, q, fun w H2 d2 σ2 st2 r2 h2 k2 z => ⟨v, w, rfl, ?_⟩⟩⟩
    exact l.nx _ H2 _ st2 ((r2.set i (h1.keep k2)).set j h2) (k1.trans k2) z
end
end DL

set_option Elab.async false
set_option linter.all false
set_option maxRecDepth 100000
namespace DL
open PySem PySem.Spec PyProof.Rows L2
variable [WW]
/-! ### what a def promises -/
abbrev DSp := List D → Sto → (D → Sto → Prop) → (Exn → Sto → Prop) → Prop
def ShOk (K : PySem.W.Frag) (H : Hp) (st : Sto) : Prop := ∀ a o, st a = some o → SOk K H a o
/-- behind a run that began at H with st: what was tracked and not shared is as it was; what is shared was so, or is new -/
def nt (H : Hp) : Hp := fun a => match H a with
  | some (.tbl _) => none
  | o => o
theorem nt_of {H : Hp} {a : Addr} {o : HO} (e : H a = some o) (n : ∀ ps, o ≠ .tbl ps) : nt H a = some o := by
  unfold nt
  rw [e]
  cases o <;> first | rfl | exact absurd rfl (n _)
theorem of_nt {H : Hp} {a : Addr} {o : HO} (e : nt H a = some o) : H a = some o ∧ ∀ ps, o ≠ .tbl ps := by
  unfold nt at e
  cases q : H a with
  | none => rw [q] at e; cases e
  | some u =>
    rw [q] at e
    cases u <;> first | (cases e; done) | (cases e; exact ⟨rfl, by intro ps z; cases z⟩)
structure Aft (T : List (Addr × Str)) (st : Sto) (H : Hp) (st' : Sto) (H' : Hp) : Prop where
  fr : ∀ a o, H a = some o → st a = none → (∀ ps, o ≠ .tbl ps) → H' a = some o
  dom : ∀ a, st' a ≠ none → st a ≠ none ∨ nt H a = none
  th : ∀ a, Ob H a → Ob H' a
  tb : LamX.Tabs T H'
def lift (K : PySem.W.Frag) (T : List (Addr × Str)) (n : Nat) (sp : DSp) : Sp := fun vs H Q E => vs.length = n ∧ ∃ ds st Qd Ed, DenL K H ds vs ∧ ShOk K H st ∧ LamX.Tabs T H ∧ sp ds st Qd Ed ∧
  (∀ v H' d st', Den K H' d v → ShOk K H' st' → Aft T st H st' H' → Qd d st' → Q v H') ∧
  (∀ x cls dd H' st', XDen K H' x cls dd → ShOk K H' st' → Aft T st H st' H' → Ed x st' → E cls dd H')
def FnD (P : Program) (w : World) (K : PySem.W.Frag) (T : List (Addr × Str)) (mg : Str → Option Value) (base : Heap) (k : Nat) (f : Addr) (fd : FuncData) (ps : List Str) (sp : DSp) : Prop :=
  FnOk P w K mg base (CX P w) k f fd ps (lift K T ps.length sp)
def startD (N : List Str) (ds : List D) : En := ds.map Sl.val ++ List.replicate (N.length - ds.length) .un
section
variable {K : PySem.W.Frag} {H : Hp} {T : List (Addr × Str)}
theorem Aft.keep {st st' : Sto} {H' : Hp} (sh : ShOk K H st) (a : Aft T st H st' H') : Keep H H' := by
  refine ⟨fun p xs e => a.fr p _ e ?_ (by intro z q; cases q), fun p o u e => a.fr p _ e ?_ (by intro z q; cases q)⟩
  · cases q : st p with
    | none => rfl
    | some o =>
      obtain ⟨u, e1, lo, _⟩ := (sh p o q).some
      rw [e] at e1; cases e1
      exact absurd rfl (lo.1 xs)
  · cases q : st p with
    | none => rfl
    | some o' =>
      obtain ⟨u', e1, lo, _⟩ := (sh p o' q).some
      rw [e] at e1; cases e1
      exact absurd rfl (lo.2 o u)
/-- a caller's state behind a call -/
theorem Rel.after {C : DC} {σd : En} {st st' : Sto} {σ : VS} {H' : Hp} (r : Rel C σd st σ H) (sh : ShOk C.K H' st') (a : Aft C.T st H st' H') : Rel C σd st' σ H' := by
  have kp : Keep H H' := a.keep r.sh
  have ow : ∀ {i b}, Owns σd σ i b → H' b = H b := fun {i b} h => by
    obtain ⟨u, e, _, nt⟩ := r.owned h
    rw [a.fr b u e (r.new i b h).2 nt, e]
  refine ⟨r.len, fun i x e => (r.sl i x e).keep kp fun b hb hv => ow ⟨x, e, hb, join_some hv⟩, r.dist, fun i b h => ⟨(r.new i b h).1, ?_⟩, sh, fun b h => ?_, fun b o e1 e2 e3 => ?_, fun b h => a.th b (r.th b h), a.tb⟩
  · cases q : st' b with
    | none => rfl
    | some o =>
      obtain ⟨u, e, _, nu⟩ := r.owned h
      rcases a.dom b (by rw [q]; simp) with z | z
      · exact absurd (r.new i b h).2 z
      · rw [nt_of e nu] at z; cases z
  · rcases a.dom b h with z | z
    · exact r.dom b z
    · refine .inr ?_
      cases q : C.G b with
      | none => rfl
      | some o =>
        obtain ⟨o', e', n'⟩ := r.th b (by rw [q]; simp)
        rw [nt_of e' n'] at z; cases z
  · refine a.fr b o (r.fr b o e1 e2 e3) ?_ e3
    cases q : st b with
    | none => rfl
    | some o' =>
      rcases r.dom b (by rw [q]; simp) with z | z
      · exact absurd z e2
      · rw [z] at e1; cases e1
/-- the state at a def's entry -/
theorem rel_start {C : DC} {st : Sto} {vs : List V} {ds : List D} {N : List Str} (hK : C.K = K) (hG : C.G = nt H) (hD : C.dom = fun a => st a ≠ none) (sh : ShOk K H st) (ht : LamX.Tabs C.T H) (l : DenL K H ds vs) (hn : ds.length ≤ N.length) :
    Rel C (startD N ds) st (start N vs) H := by
  have no : ∀ i a, ¬ Owns (startD N ds) (start N vs) i a := fun i a ⟨x, e, ho, _⟩ => by
    unfold startD at e
    by_cases hi : i < ds.length
    · rw [List.getElem?_append_left (by simpa using hi), List.getElem?_map] at e
      obtain ⟨d, _, rfl⟩ := Option.map_eq_some_iff.mp e
      cases ho
    · rw [List.getElem?_append_right (by simpa using hi), List.getElem?_replicate] at e
      split at e
      · cases e; cases ho
      · cases e
  refine ⟨?_, fun i x e => ?_, fun i j a h => absurd h (no i a), fun i a h => absurd h (no i a), by rw [hK]; exact sh, fun a h => ?_, fun a o e1 e2 e3 => ?_, fun a h => ?_, ht⟩
  · unfold startD L2.start
    simp only [List.length_append, List.length_map, List.length_replicate, l.1]
  · unfold startD at e
    by_cases hi : i < ds.length
    · rw [List.getElem?_append_left (by simpa using hi), List.getElem?_map] at e
      obtain ⟨d, e1, rfl⟩ := Option.map_eq_some_iff.mp e
      obtain ⟨v, e2, h⟩ := l.get e1
      refine ⟨v, ?_, by rw [hK]; exact h⟩
      unfold L2.start
      rw [List.getElem?_append_left (by rw [List.length_map, ← l.1]; exact hi), List.getElem?_map, e2]; rfl
    · rw [List.getElem?_append_right (by simpa using hi), List.getElem?_replicate] at e
      split at e
      · cases e; trivial
      · cases e
  · rw [hD]; exact .inl h
  · rw [hG] at e1; exact (of_nt e1).1
  · rw [hG] at h
    cases q : nt H a with
    | none => exact absurd q h
    | some o => exact ⟨o, of_nt q⟩
end
section
variable {P : Program} {w : World} {K : PySem.W.Frag} {T : List (Addr × Str)} {mg : Str → Option Value} {base : Heap} {x qual : Str} {params : Arguments} {body : List Stmt} {scope : Scope} {dvs : List V} {kws : List (Str × V)} {f : Addr} {fd : FuncData}
/-- the context of a def's run -/
abbrev cxD (P : Program) (w : World) (K : PySem.W.Frag) (mg : Str → Option Value) (base : Heap) (N : List Str) (qual : Str) (scope : Scope) (f : Addr) (cd : Value) (A : Around) (outer : List Env) (s : Shared) (H : Hp) (E : XK) : Cx :=
  cxOf (CX P w) P w K mg base N qual scope f cd A outer s H E
/-- THE RULE: a def by its body -/
theorem FnD.mk (hw : w = WW.w) {N ps : List Str} {k : Nat} {sp : DSp} {t : TSD} (F : FunD K x qual params body scope dvs kws f fd) (S : FnScope N ps scope)
    (hb : ∀ (cd : Value) (A : Around) (outer : List Env) (s : Shared) (H : Hp) (E : XK) (C : DC), Room k (A.deeper (envOfC qual scope s.heap.objs.size f cd)) → Ctx (cxD P w K mg base N qual scope f cd A outer s H E) C → C.K = K → C.T = T → (∀ p, f = He.fAd K p → cd = .ref (He.codeOf K p)) → DSs (cxD P w K mg base N qual scope f cd A outer s H E) C body t)
    (ht : ∀ ds st Qd Ed, ds.length = ps.length → sp ds st Qd Ed → t (fun x _ st' => Ed x st') { nx := fun _ st' => Qd .non st', rt := Qd } (startD N ds) st) : FnD P w K T mg base (k + 1) f fd ps sp := by
  have hpl : ps.length ≤ N.length := by have := congrArg List.length S.pre; rw [List.length_take] at this; omega
  obtain ⟨oc, od, dV, kV, doc, pm, an, cd, ct, osl, efd, lk, hcd, _, _⟩ := F.ex
  subst efd
  have hcd' : ∀ p, f = He.fAd K p → cd = .ref (He.codeOf K p) := fun p e => by
    obtain ⟨c, ec⟩ := He.codeIn_ref hcd
    rw [He.codeOf_eq (c := c) (by rw [← e]; exact lk) ec, ec]
  refine fn_of lk hcd S (fun vs H Q E h => h.1) fun A outer s H vs Q E hr h => ?_
  obtain ⟨hl, ds, st, Qd, Ed, l, sh, htb, hsp, hQ, hE⟩ := h
  let C : DC := ⟨K, nt H, fun a => st a ≠ none, fun x _ st' => Ed x st', T⟩
  have aft : ∀ {σd' : En} {st' : Sto} {σ' : VS} {H' : Hp}, Rel C σd' st' σ' H' → Aft T st H st' H' := fun {σd' st' σ' H'} r =>
    ⟨fun a o e1 e2 e3 => r.fr a o (nt_of e1 e3) (fun z => z e2) e3, fun a h => r.dom a h, fun a ⟨o, e, n⟩ => r.th a (by show nt H a ≠ none; rw [nt_of e n]; simp), r.tb⟩
  have cx : Ctx (cxD P w K mg base N qual scope f cd A outer s H E) C := by
    refine ⟨rfl, hw, rfl, S.nd, ?_, (fun cls d _ H => E cls d H), takes_of rfl rfl rfl rfl, fun cls d σ H' x σd' st' r hx he => hE x cls d H' st' hx r.sh (aft r) he⟩
    have := hr.un
    show (A.deeper (envOfC qual scope s.heap.objs.size f cd)).units + 100 < cLine
    omega
  refine ⟨embS C t, hb cd A outer s H E C hr cx rfl rfl hcd', startD N ds, st, _, rel_start rfl rfl rfl sh htb l (by rw [l.1, hl]; exact hpl), ht ds st Qd Ed (by rw [l.1, hl]) hsp, ⟨fun σ' H' σd' st' r k q => hQ _ _ _ _ .non r.sh (aft r) q, fun v σ' H' d σd' st' r k hd q => hQ _ _ _ _ hd r.sh (aft r) q, fun _ _ _ _ _ _ q => q.elim, fun _ _ _ _ _ _ q => q.elim⟩⟩
end
/-! ### calls of one's own defs -/
def eCall (sp : DSp) (ts : List TED) : TED := fun E σ st Q => aL ts E σ st fun ds σ1 st1 => sp ds st1 (fun d st2 => Q d σ1 st2) fun x st2 => E x σ1 st2
section
variable {X : Cx} {C : DC} {e : Expr} {es : List Expr} {ts : List TED} {pos p : Pos} {x : Str} {f : Addr} {fd : FuncData} {ps : List Str} {sp : DSp} {k : Nat}
theorem lift_call {W : WX} {σ : VS} {H H0 : Hp} {Q : VK} {Qd : QD} {σd : En} {st : Sto} {ds : List D} {vs : List V} {n : Nat} (link : ∀ cls d σ H x σd st, Rel C σd st σ H → XDen C.K H x cls d → C.E x σd st → W cls d σ H)
    (r : Rel C σd st σ H) (l : DenL C.K H ds vs) (hn : ds.length = n) (k0 : Keep H0 H) (k : ∀ v H' d σd' st', Rel C σd' st' σ H' → DenT C.K σ H' d v → Keep H0 H' → Qd d σd' st' → Q v H')
    (q : sp ds st (fun d st2 => Qd d σd st2) fun x st2 => C.E x σd st2) : lift C.K C.T n sp vs H Q (WE W σ) :=
  ⟨by rw [← l.1, hn], ds, st, _, _, l, r.sh, r.tb, q, fun v H' d st' hd sh a q => k v H' d σd st' (r.after sh a) (.of hd) (k0.trans (a.keep r.sh)) q, fun x cls dd H' st' hx sh a q => link cls dd σ H' x σd st' (r.after sh a) hx q⟩
theorem de_call (cx : Ctx X C) (F : FnD X.prog X.w C.K C.T X.mg X.base k f fd ps sp) (hr : Room k X.A) (hg : Gl X x) (hm : X.mg x = some (.ref f)) (hk : PySem.W.keepIn C.K (.ref f) = true) (hb : Binds C.K fd ps []) (ha : DAr X C (e :: es) ts) (hl : ts.length = ps.length)
    (hdb : (x == ("__debug__" : Str)) = false := by decide) (he : starEach (e :: es) X.env = (false, eval e X.env) :: starEach es X.env := by rfl) (hpl : (backTo pos (starEach es X.env)).any (·.1) = false := by rfl) :
    DE X C (.Call (.Name x p) (e :: es) [] pos) (eCall sp ts) := by
  obtain ⟨W, tk, link⟩ := cx.tk
  have F' : FnOk X.prog X.w X.K X.mg X.base (CX X.prog X.w) k f fd ps (lift C.K C.T ps.length sp) := by rw [cx.K]; exact F
  refine DE.imp (pe_callSD F' hr hg hm (by rw [cx.K]; exact hk) (by rw [cx.K]; exact hb) .nil (fun σ => passAt tk σ) ha hdb he hpl) fun σ H Q q => ?_
  obtain ⟨σd, st, Qd, r, ht, k⟩ := q
  refine ⟨σd, st, _, r, ht, fun vs H1 ds σ1 st1 r1 l1 z k1 q => ?_⟩
  show lift C.K C.T ps.length sp (vs ++ []) H1 Q (WE W σ)
  rw [List.append_nil]
  exact lift_call link r1 l1 (by rw [z, hl]) k1 k q
end
end DL

set_option Elab.async false
set_option linter.all false
set_option maxRecDepth 100000
namespace DL
open PySem PySem.Spec PyProof.Rows L2
variable [WW]
/-! ### what is walked -/
structure Walks (K : PySem.W.Frag) (J : It) (ds : List D) (H : Hp) : Prop where
  go : ∀ (i : Nat) d Hi, Keep H Hi → ds[i]? = some d → J.go i Hi ∧ ∀ x H', J.yld i Hi x H' → Mild Hi H' ∧ Den K H' d x
  stop : ∀ (i : Nat) Hi, Keep H Hi → ds.length ≤ i → i ≤ ds.length → J.stop i Hi
  len : ds.length ≤ sizeLine
abbrev TID := XD → En → Sto → (List D → En → Sto → Prop) → Prop
def embI (C : DC) (wi : TID) : TI := fun σ H R => ∃ σd st Qd, Rel C σd st σ H ∧ wi C.E σd st Qd ∧ ∀ J H' ds σd' st', Rel C σd' st' σ H' → Walks C.K J ds H' → Keep H H' → Qd ds σd' st' → R J H'
def DI (X : Cx) (C : DC) (tg iter : Expr) (wi : TID) : Prop := PI X tg iter (embI C wi)
section
variable {X : Cx} {C : DC} {e tg : Expr} {te : TED} {pos p : Pos}
theorem DI.imp {w : TI} {wi : TID} {iter : Expr} (h : PI X tg iter w) (i : ∀ σ H R, embI C wi σ H R → w σ H R) : DI X C tg iter wi := ⟨fun pins s σ H R I q => h.run pins s σ H R I (i σ H R q)⟩
/-- a list, a tuple, held for good -/
def seqOf (d : D) (Q : List D → Prop) : Prop := match d with
  | .lst ds => Q ds
  | .tup ds => Q ds
  | .kt ds => Q ds
  | .kls ds => Q ds
  | _ => False
def iSeq (te : TED) : TID := fun E σ st Q => eFz te E σ st fun d σ1 st1 => seqOf d fun ds => Q ds σ1 st1
/-- the walk over any value, by what it denotes -/
def iAnyV (K : PySem.W.Frag) (t : TE) : TI := fun σ H R => t σ H fun x H1 => ∃ a, x = .ref a ∧ ((∃ xs, SqL K H1 a xs ∧ (xs.length ≤ sizeLine → R (Itl K a) H1)) ∨ ∃ xs, SqT K H1 a xs ∧ (xs.length ≤ sizeLine → R (Itt K a) H1))
theorem pi_any {t : TE} (h : PE X e t) : PI X tg e (iAnyV X.K t) := by
  refine ⟨fun pins s σ H R I q => ?_⟩
  refine thn (h.run pins s σ H _ I q) fun v s1 ⟨x, H1, I1, r1, a, ex, z⟩ => ?_
  subst ex
  cases r1
  have nw : ∀ b, b ∈ [s1.heap.objs.size] → FpOk X pins H1 b := fun b hb => by
    have e : b = s1.heap.objs.size := by simpa using hb
    subst e
    exact I1.fpOk (Nat.le_refl _) (I1.hok.fresh (Nat.le_refl _))
  rcases z with ⟨xs, hq, z⟩ | ⟨xs, hq, z⟩
  · obtain ⟨its, rv, p, hz⟩ := I1.list hq
    exact wpAny_pyIter_list p.isList ⟨s1.heap.objs.size, [s1.heap.objs.size], _, _, H1, rfl, I1.kept (t' := s1.toks) fun b o e => Heap.get?_push_of_some _ e, turn_list a _, ⟨_, Heap.get?_push_size _ rfl, rfl, rfl⟩, nw, z hz⟩
  · obtain ⟨its, rv, p, hz⟩ := I1.tuple hq
    exact wpAny_pyIter_tuple (show s1.heap.IsTuple a its.toArray from p) ⟨s1.heap.objs.size, [s1.heap.objs.size], _, _, H1, rfl, I1.kept (t' := s1.toks) fun b o e => Heap.get?_push_of_some _ e, turn_tuple a _, ⟨_, Heap.get?_push_size _ rfl, rfl, rfl⟩, nw, z hz⟩
theorem fz_keep {K : PySem.W.Frag} {H H' : Hp} {a : Addr} {vs : List V} (h : Fz H a (.lst vs)) (k : Keep H H') : SqL K H' a vs := .inl (.inr (h.keep k))
theorem walks_l {K : PySem.W.Frag} {H : Hp} {a : Addr} {ds : List D} {vs : List V} (h : ∀ Hi, Keep H Hi → SqL K Hi a vs) (l : DenL K H ds vs) (z : vs.length ≤ sizeLine) : Walks K (Itl K a) ds H := by
  refine ⟨fun i d Hi k e => ?_, fun i Hi k e _ => ⟨vs, h Hi k, by rw [← l.1]; exact e⟩, by rw [l.1]; exact z⟩
  obtain ⟨v, ev, hv⟩ := l.get e
  refine ⟨⟨vs, v, h Hi k, ev⟩, fun x H' y => ?_⟩
  obtain ⟨rfl, f⟩ := y
  have q := f vs (h _ k)
  rw [ev] at q; cases q
  exact ⟨Mild.refl _, hv.keep k⟩
theorem walks_t {K : PySem.W.Frag} {H : Hp} {a : Addr} {ds : List D} {vs : List V} (h : ∀ Hi, Keep H Hi → SqT K Hi a vs) (l : DenL K H ds vs) (z : vs.length ≤ sizeLine) : Walks K (Itt K a) ds H := by
  refine ⟨fun i d Hi k e => ?_, fun i Hi k e _ => ⟨vs, h Hi k, by rw [← l.1]; exact e⟩, by rw [l.1]; exact z⟩
  obtain ⟨v, ev, hv⟩ := l.get e
  refine ⟨⟨vs, v, h Hi k, ev⟩, fun x H' y => ?_⟩
  obtain ⟨rfl, f⟩ := y
  have q := f vs (h _ k)
  rw [ev] at q; cases q
  exact ⟨Mild.refl _, hv.keep k⟩
theorem seq_walks {K : PySem.W.Frag} {H : Hp} {d : D} {v : V} {Q : List D → Prop} (h : Den K H d v) (q : seqOf d Q) :
    ∃ a ds, v = .ref a ∧ Q ds ∧ ((∃ xs, SqL K H a xs ∧ (xs.length ≤ sizeLine → Walks K (Itl K a) ds H)) ∨ ∃ xs, SqT K H a xs ∧ (xs.length ≤ sizeLine → Walks K (Itt K a) ds H)) := by
  cases h <;> first | exact q.elim | skip
  · rename_i a ds vs h l r
    exact ⟨a, ds, rfl, q, .inr ⟨vs, h, fun z => walks_t (fun Hi k => sqt_keep h k) ⟨l, r⟩ z⟩⟩
  · rename_i a ds vs h l r
    exact ⟨a, ds, rfl, q, .inr ⟨vs, h.sqt, fun z => walks_t (fun Hi k => (h.keep k).sqt) ⟨l, r⟩ z⟩⟩
  · rename_i a ds vs h l r
    exact ⟨a, ds, rfl, q, .inl ⟨vs, .inl (.inr h), fun z => walks_l (fun Hi k => fz_keep h k) ⟨l, r⟩ z⟩⟩
  · rename_i a ds vs h l r
    exact ⟨a, ds, rfl, q, .inl ⟨vs, h.sql, fun z => walks_l (fun Hi k => (h.keep k).sql) ⟨l, r⟩ z⟩⟩
theorem di_seq (cx : Ctx X C) (h : DE X C e te) : DI X C tg e (iSeq te) := DI.imp (pi_any (de_fzD h)) fun σ H R q => by
  obtain ⟨σd, st, Qd, r, ht, k⟩ := q
  refine ⟨σd, st, _, r, ht, fun v H1 d σ1 st1 r1 h1 k1 q => ?_⟩
  obtain ⟨a, ds, rfl, q, z⟩ := seq_walks h1 q
  rw [cx.K]
  refine ⟨a, rfl, ?_⟩
  rcases z with ⟨xs, z, w⟩ | ⟨xs, z, w⟩
  · exact .inl ⟨xs, z, fun y => k _ H1 ds σ1 st1 r1 (w y) k1 q⟩
  · exact .inr ⟨xs, z, fun y => k _ H1 ds σ1 st1 r1 (w y) k1 q⟩
/-- range(n), range(a, b) -/
def rangeL (lo : Int) (n : Nat) : List D := (List.range n).map fun (i : Nat) => D.int (lo + (i : Int))
theorem walks_r {K : PySem.W.Frag} {H : Hp} (lo : Int) (n : Nat) (z : n ≤ sizeLine) : Walks K (Itr lo n) (rangeL lo n) H := by
  refine ⟨fun i d Hi k e => ?_, fun i Hi k e _ => ?_, by simpa [rangeL] using z⟩
  · unfold rangeL at e
    rw [List.getElem?_map] at e
    obtain ⟨j, e1, rfl⟩ := Option.map_eq_some_iff.mp e
    obtain ⟨h1, h2⟩ := List.getElem?_eq_some_iff.mp e1
    rw [List.getElem_range] at h2
    subst h2
    refine ⟨show i < n by simpa using h1, fun x H' y => ?_⟩
    obtain ⟨rfl, rfl⟩ := y
    exact ⟨Mild.refl _, .int _⟩
  · show n ≤ i
    simpa [rangeL] using e
def big62 : Int := 4611686018427387904
theorem big62_eq : (2 : Int) ^ 62 = big62 := by decide
def iRange1 (te : TED) : TID := fun E σ st Q => te E σ st fun d σ1 st1 => match rd σ1 st1 d with
  | .int n => -big62 ≤ n ∧ n ≤ 16777216 ∧ Q (rangeL 0 n.toNat) σ1 st1
  | _ => False
def iRange2 (ta tb : TED) : TID := fun E σ st Q => ta E σ st fun x σ1 st1 => tb E σ1 st1 fun y σ2 st2 => match rd σ2 st2 x, rd σ2 st2 y with
  | .int a, .int b => (0 ≤ a ∧ a ≤ 16777216 ∧ 0 ≤ b ∧ b ≤ 16777216) ∧ Q (rangeL a (b - a).toNat) σ2 st2
  | _, _ => False
theorem di_range1 (hg : Gl X "range") (hm : X.mg "range" = none) (ha : DE X C e te) (hs : starEach [e] X.env = [(false, eval e X.env)] := by rfl) : DI X C tg (.Call (.Name "range" p) [e] [] pos) (iRange1 te) :=
  DI.imp (pi_range1 hg hm (pa_cons ha pa_nil hs) hs) fun σ H R q => by
    obtain ⟨σd, st, Qd, r, ht, k⟩ := q
    refine ⟨σd, st, _, r, ht, fun v H1 d σ1 st1 r1 h1 k1 q => ?_⟩
    have hr := rd_ok r1 h1
    revert q hr
    dsimp only
    cases rd σ1 st1 d <;> first | exact fun q => q.elim | skip
    intro q hr
    exact ⟨_, by rw [red_int hr], by rw [big62_eq]; exact q.1, by rw [big62_eq]; have := q.2.1; unfold big62; omega, k _ H1 _ σ1 st1 r1 (walks_r 0 _ (by rw [sizeLine_eq]; have := q.2.1; omega)) k1 q.2.2⟩
theorem di_range2 {e2 : Expr} {tb : TED} (hg : Gl X "range") (hm : X.mg "range" = none) (ha : DE X C e te) (hb : DE X C e2 tb) (hs : starEach [e, e2] X.env = [(false, eval e X.env), (false, eval e2 X.env)] := by rfl) (hs2 : starEach [e2] X.env = [(false, eval e2 X.env)] := by rfl)
    (hs3 : starEach [e, e2] X.env = (false, eval e X.env) :: starEach [e2] X.env := by rfl) :
    DI X C tg (.Call (.Name "range" p) [e, e2] [] pos) (iRange2 te tb) :=
  DI.imp (pi_range2 hg hm (pa_cons ha (pa_cons hb pa_nil hs2) hs3) hs hs2) fun σ H R q => by
    obtain ⟨σd, st, Qd, r, ht, k⟩ := q
    refine ⟨σd, st, _, r, ht, fun v H1 d σ1 st1 r1 h1 k1 q => ⟨σ1, st1, _, r1, q, fun u H2 d2 σ2 st2 r2 h2 k2 q => ?_⟩⟩
    have hr1 := rd_ok r2 (h1.keep k2)
    have hr2 := rd_ok r2 h2
    revert q hr1 hr2
    dsimp only
    cases rd σ2 st2 d <;> first | exact fun q => q.elim | skip
    cases rd σ2 st2 d2 <;> first | exact fun q => q.elim | skip
    intro q hr1 hr2
    exact ⟨_, _, by rw [red_int hr1, red_int hr2], by rw [big62_eq]; have := q.1; unfold big62; omega, k _ H2 _ σ2 st2 r2 (walks_r _ _ (by rw [sizeLine_eq]; have := q.1; omega)) (k1.trans k2) q.2⟩
/-! ### for -/
def forD (g : TGD) (tb : TSD) : List D → TSD
  | [] => fun _ D σ st => D.nx σ st
  | d :: ds => fun E D σ st => g d σ st fun σ1 st1 => tb E { nx := fun σ2 st2 => forD g tb ds E D σ2 st2, rt := D.rt, bk := D.nx, ct := fun σ2 st2 => forD g tb ds E D σ2 st2 } σ1 st1
def sFor (wi : TID) (g : TGD) (tb : TSD) : TSD := fun E D σ st => wi E σ st fun ds σ1 st1 => forD g tb ds E D σ1 st1
theorem ds_for {iter : Expr} {body : List Stmt} {wi : TID} {g : TGD} {tb : TSD} (cx : Ctx X C) (hp : PassesOwn (model X.prog X.w) X.A X.env X.xe) (hi : DI X C tg iter wi) (hg : DG X C tg g) (hb : DSs X C body tb)
    (hs : ∀ x, foldedSetIterable iter X.env x = pure x := by intro _; rfl) : DS X C (.For tg iter body [] pos) (sFor wi g tb) := DS.imp (ps_for hp cx.calm hi hg hb hs) fun D σ H q => by
  obtain ⟨σd, st, Dd, r, ht, l⟩ := q
  refine ⟨σd, st, _, r, ht, fun J H1 ds σ1 st1 r1 wk k1 q => ?_⟩
  refine ⟨fun i m σ2 H2 => m = ds.length - i ∧ i ≤ ds.length ∧ Keep H1 H2 ∧ ∃ σd2 st2, Rel C σd2 st2 σ2 H2 ∧ forD g tb (ds.drop i) C.E Dd σd2 st2, ⟨ds.length, by simp, Nat.zero_le _, Keep.refl _, σ1, st1, r1, q⟩, ?_⟩
  rintro i m σ2 H2 ⟨em, hi, k2, σd2, st2, r2, q2⟩
  rcases Nat.lt_or_ge i ds.length with hlt | hge
  · refine .inr ?_
    have ei : ds[i]? = some ds[i] := List.getElem?_eq_getElem hlt
    obtain ⟨hgo, hy⟩ := wk.go i _ H2 k2 ei
    rw [List.drop_eq_getElem_cons hlt] at q2
    refine ⟨hgo, fun σ3 H3 => Keep H1 H3 ∧ ∃ σd3 st3, Rel C σd3 st3 σ3 H3 ∧ forD g tb (ds.drop (i + 1)) C.E Dd σd3 st3, fun σ' H' ⟨k3, z⟩ => ⟨m - 1, by omega, by omega, hlt, k3, z⟩, fun x H' y => ?_⟩
    obtain ⟨ml, hd⟩ := hy x H' y
    have r3 := r2.mild ml
    have k3 := k2.trans ml.k
    refine ⟨_, σd2, st2, _, r3, hd, q2, fun σ4 H4 σd4 st4 r4 k4 q4 => ?_⟩
    refine ⟨σd4, st4, _, r4, q4, ⟨fun σ5 H5 σd5 st5 r5 k5 q5 => ⟨k3.trans (k4.trans k5), σd5, st5, r5, q5⟩, fun v σ5 H5 d σd5 st5 r5 k5 hd q5 => l.rt v σ5 H5 d σd5 st5 r5 (k1.trans (k3.trans (k4.trans k5))) hd q5, fun σ5 H5 σd5 st5 r5 k5 q5 => l.nx σ5 H5 σd5 st5 r5 (k1.trans (k3.trans (k4.trans k5))) q5, fun σ5 H5 σd5 st5 r5 k5 q5 => ⟨k3.trans (k4.trans k5), σd5, st5, r5, q5⟩⟩⟩
  · refine .inl ⟨wk.stop i H2 k2 hge hi, ?_⟩
    rw [List.drop_of_length_le hge] at q2
    exact l.nx σ2 H2 σd2 st2 r2 (k1.trans k2) q2
/-! ### while -/
def whileD (c : TTD) (tb : TSD) : Nat → TSD
  | 0 => fun _ _ _ _ => False
  | n + 1 => fun E D σ st => c E σ st fun b σ1 st1 => if b = true then tb E { nx := fun σ2 st2 => whileD c tb n E D σ2 st2, rt := D.rt, bk := D.nx, ct := fun σ2 st2 => whileD c tb n E D σ2 st2 } σ1 st1 else D.nx σ1 st1
def sWhile (c : TTD) (tb : TSD) : TSD := fun E D σ st => ∃ n, whileD c tb n E D σ st
theorem ds_while {c : Expr} {body : List Stmt} {tc : TTD} {tb : TSD} (hp : PassesOwn (model X.prog X.w) X.A X.env X.xe) (hc : DT X C c tc) (hb : DSs X C body tb) : DS X C (.While c body [] pos) (sWhile tc tb) := DS.imp (ps_while hp hc hb) fun D σ H q => by
  obtain ⟨σd, st, Dd, r, ⟨n, ht⟩, l⟩ := q
  refine ⟨fun m σ2 H2 => Keep H H2 ∧ ∃ σd2 st2, Rel C σd2 st2 σ2 H2 ∧ whileD tc tb m C.E Dd σd2 st2, ⟨n, Keep.refl _, σd, st, r, ht⟩, ?_⟩
  rintro m σ2 H2 ⟨k2, σd2, st2, r2, q2⟩
  cases m with
  | zero => exact q2.elim
  | succ m =>
    refine ⟨σd2, st2, _, r2, q2, fun b H3 σd3 st3 r3 k3 q3 => ?_⟩
    cases b with
    | false => exact l.nx σ2 H3 σd3 st3 r3 (k2.trans k3) q3
    | true =>
      refine ⟨fun σ4 H4 => Keep H H4 ∧ ∃ σd4 st4, Rel C σd4 st4 σ4 H4 ∧ whileD tc tb m C.E Dd σd4 st4, fun σ' H' z => ⟨m, Nat.lt_succ_self m, z⟩, ?_⟩
      refine ⟨σd3, st3, _, r3, q3, ⟨fun σ5 H5 σd5 st5 r5 k5 q5 => ⟨k2.trans (k3.trans k5), σd5, st5, r5, q5⟩, fun v σ5 H5 d σd5 st5 r5 k5 hd q5 => l.rt v σ5 H5 d σd5 st5 r5 (k2.trans (k3.trans k5)) hd q5, fun σ5 H5 σd5 st5 r5 k5 q5 => l.nx σ5 H5 σd5 st5 r5 (k2.trans (k3.trans k5)) q5, fun σ5 H5 σd5 st5 r5 k5 q5 => ⟨k2.trans (k3.trans k5), σd5, st5, r5, q5⟩⟩⟩
end
end DL

set_option Elab.async false
set_option linter.all false
set_option maxRecDepth 100000
namespace DL
open PySem PySem.Spec PyProof.Rows L2
variable [WW]
/-! ### comprehensions -/
def keepV : Option Sl → Sl
  | some (.val d) => .val d
  | _ => .un
def wipeD (σ : En) : List Nat → En
  | [] => σ
  | v :: vs => (wipeD σ vs).set v .un
def backD (σ0 σ : En) : List Nat → En
  | [] => σ
  | v :: vs => (backD σ0 σ vs).set v (keepV σ0[v]?)
theorem wipeD_len (σ : En) : ∀ vs, (wipeD σ vs).length = σ.length
  | [] => rfl
  | v :: vs => by unfold wipeD; rw [List.length_set, wipeD_len σ vs]
theorem backD_len (σ0 σ : En) : ∀ vs, (backD σ0 σ vs).length = σ.length
  | [] => rfl
  | v :: vs => by unfold backD; rw [List.length_set, backD_len σ0 σ vs]
theorem wipeD_get {σ : En} {j : Nat} {x : Sl} : ∀ {vs : List Nat}, (wipeD σ vs)[j]? = some x → (j ∈ vs ∧ x = .un) ∨ (j ∉ vs ∧ σ[j]? = some x)
  | [], h => .inr ⟨by simp, h⟩
  | v :: vs, h => by
    unfold wipeD at h
    rcases set_get h with ⟨rfl, rfl, _⟩ | ⟨n, h⟩
    · exact .inl ⟨by simp, rfl⟩
    · rcases wipeD_get h with ⟨m, e⟩ | ⟨m, e⟩
      · exact .inl ⟨by simp [m], e⟩
      · exact .inr ⟨by simp only [List.mem_cons, not_or]; exact ⟨fun z => n z.symm, m⟩, e⟩
theorem backD_get {σ0 σ : En} {j : Nat} {x : Sl} : ∀ {vs : List Nat}, (backD σ0 σ vs)[j]? = some x → (j ∈ vs ∧ x = keepV σ0[j]?) ∨ (j ∉ vs ∧ σ[j]? = some x)
  | [], h => .inr ⟨by simp, h⟩
  | v :: vs, h => by
    unfold backD at h
    rcases set_get h with ⟨rfl, rfl, _⟩ | ⟨n, h⟩
    · exact .inl ⟨by simp, rfl⟩
    · rcases backD_get h with ⟨m, e⟩ | ⟨m, e⟩
      · exact .inl ⟨by simp [m], e⟩
      · exact .inr ⟨by simp only [List.mem_cons, not_or]; exact ⟨fun z => n z.symm, m⟩, e⟩
theorem wipe_ne {σ : VS} {j : Nat} : ∀ {vs : List Nat}, j ∉ vs → (wipe σ vs)[j]? = σ[j]?
  | [], _ => rfl
  | v :: vs, h => by
    simp only [List.mem_cons, not_or] at h
    unfold wipe
    rw [List.getElem?_set_ne (fun z => h.1 z.symm)]
    exact wipe_ne h.2
theorem wipe_in {j : Nat} {ρ : VS} : ∀ {us : List Nat}, j ∈ us → (wipe ρ us)[j]? = if j < ρ.length then some none else none
  | [], h => by cases h
  | u :: us, h => by
    unfold wipe
    by_cases e : u = j
    · subst e
      by_cases hl : u < (wipe ρ us).length
      · rw [List.getElem?_set_self hl, if_pos (by rw [← wipe_length ρ us]; exact hl)]
      · rw [List.getElem?_eq_none (by simpa using hl), if_neg (by rw [← wipe_length ρ us]; exact hl)]
    · rw [List.getElem?_set_ne e]
      rcases List.mem_cons.mp h with z | z
      · exact absurd z.symm e
      · exact wipe_in z
theorem wipe_set {σ : VS} {i : Nat} {v : Option V} {vs : List Nat} (h : i ∈ vs) : wipe (σ.set i v) vs = wipe σ vs := by
  apply List.ext_getElem?
  intro j
  by_cases hj : j ∈ vs
  · rw [wipe_in hj, wipe_in hj, List.length_set]
  · rw [wipe_ne hj, wipe_ne hj, List.getElem?_set_ne (fun z => hj (by rw [← z]; exact h))]
theorem wipe_idem {σ : VS} {vs : List Nat} : wipe (wipe σ vs) vs = wipe σ vs := by
  apply List.ext_getElem?
  intro j
  by_cases hj : j ∈ vs
  · rw [wipe_in hj, wipe_in hj, wipe_length]
  · rw [wipe_ne hj]
section
variable {C : DC} {σd σ0 : En} {st st0 : Sto} {σ : VS} {H H0 : Hp}
theorem Rel.wiped (r : Rel C σd st σ H) (vs : List Nat) : Rel C (wipeD σd vs) st (wipe σ vs) H := by
  have ow : ∀ j b, Owns (wipeD σd vs) (wipe σ vs) j b → Owns σd σ j b := fun j b ⟨y, e1, e2, e3⟩ => by
    rcases wipeD_get e1 with ⟨_, rfl⟩ | ⟨_, e1⟩
    · cases e2
    · exact ⟨y, e1, e2, (wipe_some e3).1⟩
  refine ⟨by rw [wipeD_len, wipe_length]; exact r.len, fun j y ej => ?_, fun j k b h1 h2 => r.dist j k b (ow j b h1) (ow k b h2), fun j b h => r.new j b (ow j b h), r.sh, r.dom, r.fr, r.th, r.tb⟩
  rcases wipeD_get ej with ⟨_, rfl⟩ | ⟨n, ej⟩
  · trivial
  · rw [wipe_ne n]; exact r.sl j y ej
theorem wipe_eq_at {σ σ' : VS} {vs : List Nat} (e : wipe σ' vs = wipe σ vs) {j : Nat} (n : j ∉ vs) : σ'[j]? = σ[j]? := by
  have h1 := wipe_ne (σ := σ') n
  have h2 := wipe_ne (σ := σ) n
  rw [← h1, ← h2, e]
theorem Rel.back {σ' : VS} {vs : List Nat} (r : Rel C σd st σ' H) (e : wipe σ' vs = wipe σ vs) (r0 : Rel C σ0 st0 σ H0) (k : Keep H0 H) : Rel C (backD σ0 σd vs) st σ H ∧ ∀ j b, Owns (backD σ0 σd vs) σ j b → Owns σd σ' j b := by
  have ow : ∀ j b, Owns (backD σ0 σd vs) σ j b → Owns σd σ' j b := fun j b ⟨y, e1, e2, e3⟩ => by
    rcases backD_get e1 with ⟨_, rfl⟩ | ⟨n, e1⟩
    · unfold keepV at e2
      split at e2 <;> cases e2
    · exact ⟨y, e1, e2, by rw [wipe_eq_at e n]; exact e3⟩
  have hl : σ'.length = σ.length := by have := congrArg List.length e; rwa [wipe_length, wipe_length] at this
  refine ⟨⟨by rw [backD_len, r.len, hl], fun j y ej => ?_, fun j k b h1 h2 => r.dist j k b (ow j b h1) (ow k b h2), fun j b h => r.new j b (ow j b h), r.sh, r.dom, r.fr, r.th, r.tb⟩, ow⟩
  rcases backD_get ej with ⟨_, rfl⟩ | ⟨n, ej⟩
  · cases e : σ0[j]? with
    | none => trivial
    | some x =>
      cases x with
      | val d =>
        obtain ⟨v, e1, h1⟩ := r0.sl j _ e
        exact ⟨v, e1, h1.keep k⟩
      | _ => trivial
  · have q := r.sl j y ej
    rw [wipe_eq_at e n] at q
    exact q
/-- the context while the list at p grows -/
def DC.at (C : DC) (p : Addr) (vs : List V) : DC := ⟨C.K, upd C.G p (.lst vs), fun a => C.dom a ∧ a ≠ p, fun _ _ _ => False, C.T⟩
theorem Rel.into (r : Rel C σd st σ H) {p : Addr} {vs : List V} (hp : H p = none) : Rel (C.at p vs) σd st σ (upd H p (.lst vs)) := by
  obtain ⟨f1, f2, f3⟩ := r.fresh hp
  have r' := r.mild (Mild.new (o := .lst vs) hp)
  refine ⟨r'.len, r'.sl, r'.dist, fun i a h => ⟨?_, (r.new i a h).2⟩, r'.sh, fun a h => ?_, fun a o e1 e2 e3 => ?_, fun a h => ?_, r'.tb⟩
  · have n : a ≠ p := fun z => f1 i (by rw [← z]; exact h)
    show upd C.G p (.lst vs) a = none
    rw [upd_ne n]; exact (r.new i a h).1
  · have n : a ≠ p := fun z => by rw [z] at h; exact h f2
    rcases r.dom a h with z | z
    · exact .inl ⟨z, n⟩
    · refine .inr ?_
      show upd C.G p (.lst vs) a = none
      rw [upd_ne n]; exact z
  · have e1 : upd C.G p (.lst vs) a = some o := e1
    by_cases n : a = p
    · subst n
      rw [upd_same] at e1 ⊢; exact e1
    · rw [upd_ne n] at e1
      exact r'.fr a o e1 (fun z => e2 ⟨z, n⟩) e3
  · have h : upd C.G p (.lst vs) a ≠ none := h
    by_cases n : a = p
    · subst n; exact ⟨_, upd_same, by intro ps q; cases q⟩
    · rw [upd_ne n] at h
      exact r'.th a h
theorem Rel.at_ (r : Rel (C.at p vs) σd st σ H) : H p = some (.lst vs) ∧ (∀ i, ¬ Owns σd σ i p) ∧ st p = none := by
  have hg : (C.at p vs).G p = some (.lst vs) := upd_same
  refine ⟨r.fr p _ hg (fun z => z.2 rfl) (by intro z q; cases q), fun i h => ?_, ?_⟩
  · have q := (r.new i p h).1
    rw [hg] at q; cases q
  · cases e : st p with
    | none => rfl
    | some o =>
      rcases r.dom p (by rw [e]; simp) with z | z
      · exact absurd rfl z.2
      · rw [hg] at z; cases z
theorem Rel.out (r : Rel (C.at p vs) σd st σ H) (hp : C.G p = none) : Rel C σd st σ H := by
  refine ⟨r.len, r.sl, r.dist, fun i a h => ⟨?_, (r.new i a h).2⟩, r.sh, fun a h => ?_, fun a o e1 e2 e3 => ?_, fun a h => ?_, r.tb⟩
  · have q : upd C.G p (.lst vs) a = none := (r.new i a h).1
    by_cases n : a = p
    · rw [n]; exact hp
    · rw [upd_ne n] at q; exact q
  · rcases r.dom a h with z | z
    · exact .inl z.1
    · have q : upd C.G p (.lst vs) a = none := z
      by_cases n : a = p
      · rw [n]; exact .inr hp
      · rw [upd_ne n] at q; exact .inr q
  · have n : a ≠ p := fun z => by rw [z, hp] at e1; cases e1
    exact r.fr a o (show upd C.G p (.lst vs) a = some o by rw [upd_ne n]; exact e1) (fun z => e2 z.1) e3
  · have n : a ≠ p := fun z => by rw [z] at h; exact h hp
    exact r.th a (show upd C.G p (.lst vs) a ≠ none by rw [upd_ne n]; exact h)
/-- the growing list is written -/
theorem Rel.grown (r : Rel (C.at p vs) σd st σ H) (ws : List V) : Rel (C.at p ws) σd st σ (upd H p (.lst ws)) ∧ Keep H (upd H p (.lst ws)) := by
  obtain ⟨hp, no, sp⟩ := r.at_
  have kp : Keep H (upd H p (.lst ws)) := Keep.put (by rw [hp]; exact Fable.loose (u := .lst vs) trivial)
  refine ⟨⟨r.len, fun j y ej => ?_, r.dist, fun i a h => ⟨?_, (r.new i a h).2⟩, fun a o e => ?_, fun a h => ?_, fun a o e1 e2 e3 => ?_, fun a h => ?_, tabs_k r.tb (TabK.put fun o' q => by rw [hp] at q; cases q; exact fun z => z)⟩, kp⟩
  · refine (r.sl j y ej).keep kp fun b hb hv => upd_ne fun z => no j ⟨y, ej, hb, by rw [← z]; exact join_some hv⟩
  · have n : a ≠ p := fun z => no i (by rw [← z]; exact h)
    have q : upd C.G p (.lst vs) a = none := (r.new i a h).1
    show upd C.G p (.lst ws) a = none
    rw [upd_ne n] at q ⊢; exact q
  · have n : a ≠ p := fun z => by rw [z, sp] at e; cases e
    exact (r.sh a o e).keep kp (upd_ne n)
  · have n : a ≠ p := fun z => by rw [z] at h; exact h sp
    rcases r.dom a h with z | z
    · exact .inl z
    · have q : upd C.G p (.lst vs) a = none := z
      refine .inr ?_
      show upd C.G p (.lst ws) a = none
      rw [upd_ne n] at q ⊢; exact q
  · have e1 : upd C.G p (.lst ws) a = some o := e1
    by_cases n : a = p
    · subst n
      rw [upd_same] at e1 ⊢; exact e1
    · rw [upd_ne n] at e1 ⊢
      exact r.fr a o (show upd C.G p (.lst vs) a = some o by rw [upd_ne n]; exact e1) e2 e3
  · by_cases n : a = p
    · subst n; exact ⟨_, upd_same, by intro ps q; cases q⟩
    · have h : upd C.G p (.lst ws) a ≠ none := h
      rw [upd_ne n] at h
      refine Ob.upd (fun _ => ?_) (by intro ps q; cases q)
      exact r.th a (show upd C.G p (.lst vs) a ≠ none by rw [upd_ne n]; exact h)
end
/-- a new list, of its own -/
structure NewL (C : DC) (σ : VS) (H0 : Hp) (Qd : List D → En → Sto → Prop) (v : V) (H : Hp) : Prop where
  ex : ∃ p vs ds σd st, v = .ref p ∧ H p = some (.lst vs) ∧ DenL C.K H ds vs ∧ Rel C σd st σ H ∧ (∀ i, ¬ Owns σd σ i p) ∧ st p = none ∧ C.G p = none ∧ Keep H0 H ∧ Qd ds σd st
abbrev TND := XD → En → Sto → (List D → En → Sto → Prop) → Prop
def embN (C : DC) (t : TND) : TE := fun σ H Q => ∃ σd st Qd, Rel C σd st σ H ∧ t C.E σd st Qd ∧ ∀ v H', NewL C σ H Qd v H' → Q v H'
def DN (X : Cx) (C : DC) (e : Expr) (t : TND) : Prop := PE X e (embN C t)
def eN (t : TND) : TED := fun E σ st Q => t E σ st fun ds σ1 st1 => Q (.lst ds) σ1 st1
section
variable {X : Cx} {C : DC} {e : Expr}
theorem NewL.frozen {σ : VS} {H0 H : Hp} {Qd : List D → En → Sto → Prop} {v : V} (n : NewL C σ H0 Qd v H) {Q : VK}
    (k : ∀ H' ds σd st, Rel C σd st σ H' → Den C.K H' (.lst ds) v → Keep H0 H' → Qd ds σd st → Q v H') : Shf Q v H := by
  obtain ⟨p, vs, ds, σd, st, rfl, hp, l, r, no, sp, gp, kp, q⟩ := n.ex
  refine .inr ⟨p, _, rfl, hp, trivial, fun o => ?_⟩
  have k2 : Keep H (upd H p (.frz o (.lst vs))) := Keep.put (by rw [hp]; exact Fable.loose (u := .lst vs) trivial)
  refine k _ ds σd st ?_ (frz_den_lst hp l) (kp.trans k2) q
  refine ⟨r.len, fun j y ej => ?_, r.dist, r.new, fun a o e => ?_, r.dom, fun a o e1 e2 e3 => ?_, fun a h => ?_, tabs_k r.tb (TabK.put fun o' q => by rw [hp] at q; cases q; exact fun z => z)⟩
  · exact (r.sl j y ej).keep k2 fun b hb hv => upd_ne fun z => no j ⟨y, ej, hb, by rw [← z]; exact join_some hv⟩
  · have n : a ≠ p := fun z => by rw [z, sp] at e; cases e
    exact (r.sh a o e).keep k2 (upd_ne n)
  · have n : a ≠ p := fun z => by rw [z, gp] at e1; cases e1
    rw [upd_ne n]; exact r.fr a o e1 e2 e3
  · exact Ob.upd (fun _ => r.th a h) fun _ => Fable_tbl
theorem de_new {t : TND} (h : DN X C e t) : DE X C e (eN t) := by
  refine ⟨fun pins s σ H Q I q => (pe_shf h).run pins s σ H Q I ?_⟩
  obtain ⟨σd, st, Qd, r, ht, k⟩ := q
  exact ⟨σd, st, _, r, ht, fun v H' n => n.frozen fun H2 ds σ2 st2 r2 hd k2 q => k v H2 _ σ2 st2 r2 (.of hd) k2 q⟩
end
end DL

set_option Elab.async false
set_option linter.all false
set_option maxRecDepth 100000
namespace DL
open PySem PySem.Spec PyProof.Rows L2
variable [WW]
/-! ### the target of a comprehension: a name, or a tuple of names -/
inductive Tgt where
  | n (i : Nat) | t (l : List Nat)
def Tgt.in : Tgt → List Nat → Prop
  | .n i, vs => i ∈ vs
  | .t l, vs => ∀ i ∈ l, i ∈ vs
def gNs : List Nat → TGsD
  | [] => gsNil
  | i :: l => gsCons (gN i) (gNs l)
def gT : Tgt → TGD
  | .n i => gN i
  | .t l => gTupD l.length (gNs l)
def gVs : List Nat → TGs
  | [] => gNil
  | i :: l => gCons (gName i) (gVs l)
def gV (K : PySem.W.Frag) : Tgt → TG
  | .n i => gName i
  | .t l => gTup K l.length (gVs l)
section
variable {C : DC} {K : PySem.W.Frag}
theorem tgts_ok : ∀ {l : List Nat} {σd : En} {st : Sto} {σ : VS} {H : Hp} {ds : List D} {vs : List V} {Qd : En → Sto → Prop} {Q : VS → Hp → Prop}, Rel C σd st σ H → DenL C.K H ds vs → gNs l ds σd st Qd →
    (∀ σ' σd', Rel C σd' st σ' H → (∀ ws, (∀ i ∈ l, i ∈ ws) → wipe σ' ws = wipe σ ws) → Qd σd' st → Q σ' H) → gVs l vs σ H Q
  | [], σd, st, σ, H, ds, vs, Qd, Q, r, h, ht, k => by
    obtain ⟨rfl, ht⟩ := ht
    exact ⟨h.of_nil, k σ σd r (fun _ _ => rfl) ht⟩
  | i :: l, σd, st, σ, H, ds, vs, Qd, Q, r, h, ht, k => by
    cases ds with
    | nil => exact ht.elim
    | cons d ds =>
      obtain ⟨v, w, rfl, h1, h2⟩ := h.of_cons
      refine ⟨v, w, rfl, ?_⟩
      refine tgts_ok (l := l) (r.set i h1) h2 ht fun σ' σd' r' e q => k σ' σd' r' (fun ws hw => ?_) q
      rw [e ws fun j hj => hw j (by simp [hj]), wipe_set (hw i (by simp))]
theorem tgt_ok (hK : C.K = K) {t : Tgt} {σd : En} {st : Sto} {σ : VS} {H : Hp} {d : D} {v : V} {Qd : En → Sto → Prop} {Q : VS → Hp → Prop} (r : Rel C σd st σ H) (h : Den C.K H d v) (ht : gT t d σd st Qd)
    (k : ∀ σ' σd', Rel C σd' st σ' H → (∀ ws, t.in ws → wipe σ' ws = wipe σ ws) → Qd σd' st → Q σ' H) : gV K t v σ H Q := by
  cases t with
  | n i => exact k _ _ (r.set i h) (fun ws hw => wipe_set hw) ht
  | t l =>
    have ht : gTupD l.length (gNs l) d σd st Qd := ht
    cases d <;> first | exact ht.elim | skip
    obtain ⟨a, vs, rfl, h1, l1⟩ := red_tup (Red.of h)
    exact ⟨a, vs, rfl, (hK ▸ h1.sqt), by rw [← l1.1]; exact ht.1, tgts_ok r l1 ht.2 k⟩
end
/-! ### the turns -/
def F0 : XD := fun _ _ _ => False
def mapD (g : Tgt) (tt : TTD) (te : TED) (vs : List Nat) : List D → List D → En → Sto → (List D → En → Sto → Prop) → Prop
  | [], acc, σ, st, Q => Q acc σ st
  | d :: ds, acc, σ, st, Q => gT g d (wipeD σ vs) st fun σ1 st1 => tt F0 σ1 st1 fun b σ2 st2 => if b = true then eFz te F0 σ2 st2 fun y σ3 st3 => mapD g tt te vs ds (acc ++ [y]) σ3 st3 Q else mapD g tt te vs ds acc σ2 st2 Q
def nLc (wi : TID) (g : Tgt) (tt : TTD) (te : TED) (vs : List Nat) : TND := fun E σ st Q => wi E σ st fun ds σ1 st1 => mapD g tt te vs ds [] σ1 st1 fun acc σ2 st2 => Q acc (backD σ1 σ2 vs) st2
def tYesD : TTD := fun _ σ st Q => Q true σ st
/-- any context of the block -/
def anyT (K : PySem.W.Frag) (T : List (Addr × Str)) (t : TTD) : TT := fun σ H Q => ∃ C : DC, C.K = K ∧ C.T = T ∧ C.E = F0 ∧ embT C t σ H Q
def anyE (K : PySem.W.Frag) (T : List (Addr × Str)) (t : TED) : TE := fun σ H Q => ∃ C : DC, C.K = K ∧ C.T = T ∧ C.E = F0 ∧ embD C (eFz t) σ H Q
section
variable {X : Cx} {C : DC} {e elt tg iter : Expr} {ifs : List Expr} {scope : Scope} {own : List (Str × Nat)} {pos : Pos} {wi : TID} {g : Tgt} {tt : TTD} {te : TED}
theorem blk_cx (cx : Ctx X C) {Cb : DC} {s : Shared} {H : Hp} {cenv : Env} {fp : List Addr} (hK : Cb.K = C.K) (hE : Cb.E = F0) : Ctx (X.blk s H scope cenv fp) Cb :=
  ⟨cx.K.trans hK.symm, cx.w, cx.calm, cx.nd, cx.hu, fun _ _ _ _ => False, fun u s' ⟨_, _, _, _, _, _, _, _, _, _, _, _, _, _, _, _, w⟩ => w, fun cls d σ H x σd st _ _ h => by rw [hE] at h; exact h⟩
theorem lc_D (hX : X.K = C.K) (hg : g.in (own.map (·.2))) {σ : VS} {H : Hp} {Qd : List D → En → Sto → Prop} {Q : VK} {σd : En} {st : Sto} (r : Rel C σd st σ H) (ht : nLc wi g tt te (own.map (·.2)) C.E σd st Qd) (k : ∀ v H', NewL C σ H Qd v H' → Q v H') :
    tLc (embI C wi) (gV X.K g) (anyT C.K C.T tt) (anyE C.K C.T te) (own.map (·.2)) σ H Q := by
  refine ⟨σd, st, _, r, ht, fun J H1 ds σ1 st1 r1 wk k1 q D hD => ?_⟩
  have gD : C.G D = none := (r1.fresh hD).2.2
  refine ⟨fun i m H2 => m = ds.length - i ∧ i ≤ ds.length ∧ ∃ vsa acc σd2 st2, acc.length ≤ i ∧ DenL C.K H2 acc vsa ∧ (∃ σ', wipe σ' (own.map (·.2)) = wipe σ (own.map (·.2)) ∧ Rel (C.at D vsa) σd2 st2 σ' H2) ∧ Keep H1 H2 ∧
    mapD g tt te (own.map (·.2)) (ds.drop i) acc σd2 st2 fun acc σ2 st2 => Qd acc (backD σ1 σ2 (own.map (·.2))) st2, ⟨ds.length, by simp, Nat.zero_le _, [], [], σ1, st1, Nat.le_refl _, DenL.nil, ⟨σ, rfl, r1.into hD⟩, Keep.new hD, q⟩, ?_⟩
  rintro i m H2 ⟨em, hi, vsa, acc, σd2, st2, la, l, ⟨σ', ew, r2⟩, k2, q2⟩
  have r2w := r2.wiped (own.map (·.2))
  rw [ew] at r2w
  rcases Nat.lt_or_ge i ds.length with hlt | hge
  · refine .inr ?_
    have ei : ds[i]? = some ds[i] := List.getElem?_eq_getElem hlt
    obtain ⟨hgo, hy⟩ := wk.go i _ H2 k2 ei
    rw [List.drop_eq_getElem_cons hlt] at q2
    refine ⟨hgo, fun H3 => ∃ vsa acc σd2 st2, acc.length ≤ i + 1 ∧ DenL C.K H3 acc vsa ∧ (∃ σ', wipe σ' (own.map (·.2)) = wipe σ (own.map (·.2)) ∧ Rel (C.at D vsa) σd2 st2 σ' H3) ∧ Keep H1 H3 ∧
      mapD g tt te (own.map (·.2)) (ds.drop (i + 1)) acc σd2 st2 fun acc σ2 st2 => Qd acc (backD σ1 σ2 (own.map (·.2))) st2, fun H' z => ⟨m - 1, by omega, by omega, hlt, z⟩, fun x H3 y => ?_⟩
    obtain ⟨ml, hd⟩ := hy x H3 y
    have r3 := r2w.mild ml
    refine tgt_ok (show (C.at D vsa).K = X.K from hX.symm) r3 hd q2 fun σ4 σd4 r4 e4 q4 => ⟨by rw [e4 _ hg]; exact wipe_idem, ?_⟩
    refine ⟨C.at D vsa, rfl, rfl, rfl, σd4, st2, _, r4, q4, fun b H5 σd5 st5 r5 k5 q5 => ?_⟩
    have k15 : Keep H1 H5 := k2.trans (ml.k.trans k5)
    have ew4 : wipe σ4 (own.map (·.2)) = wipe σ (own.map (·.2)) := by rw [e4 _ hg]; exact wipe_idem
    cases b with
    | false => exact ⟨vsa, acc, σd5, st5, by omega, l.keep (ml.k.trans k5), ⟨σ4, ew4, r5⟩, k15, q5⟩
    | true =>
      have q5' : eFz te F0 σd5 st5 fun y σ3 st3 => mapD g tt te (own.map (·.2)) (ds.drop (i + 1)) (acc ++ [y]) σ3 st3 fun acc σ2 st2 => Qd acc (backD σ1 σ2 (own.map (·.2))) st2 := q5
      show anyE C.K C.T te σ4 H5 _
      refine ⟨C.at D vsa, rfl, rfl, rfl, σd5, st5, _, r5, q5', fun v H6 d σd6 st6 r6 h6 k6 q6 => ?_⟩
      obtain ⟨r7, k7⟩ := r6.grown (vsa ++ [v])
      refine ⟨vsa, (r6.at_).1, ?_, vsa ++ [v], acc ++ [d], σd6, st6, by simp; omega, ?_, ⟨σ4, ew4, r7⟩, k15.trans (k6.trans k7), q6⟩
      · have := wk.len
        rw [← l.1]; omega
      · exact ((l.keep (ml.k.trans (k5.trans k6))).append (DenL.cons h6 DenL.nil)).keep k7
  · refine .inl ⟨wk.stop i H2 k2 hge hi, ?_⟩
    rw [List.drop_of_length_le hge] at q2
    obtain ⟨hp, no, sp⟩ := r2.at_
    obtain ⟨ro, ow⟩ := (r2.out gD).back ew r1 k2
    exact k _ H2 ⟨D, vsa, acc, _, st2, rfl, hp, l, ro, fun j w => no j (ow j D w), sp, gD, k1.trans k2, q2⟩
/-- what a block's parts ask -/
def Blk (X : Cx) (C : DC) (scope : Scope) (P : Cx → DC → Prop) : Prop := ∀ (s : Shared) (H : Hp) (Ca : Addr) (cl : List (Str × Addr)) (fp : List Addr) (Cb : DC), Ctx (X.blk s H scope (compEnvC scope cl Ca X.env) fp) Cb → Cb.K = C.K → Cb.T = C.T → P (X.blk s H scope (compEnvC scope cl Ca X.env) fp) Cb
def DTs (X : Cx) (C : DC) (es : List Expr) (t : TTD) : Prop := PTs X es (embT C t)
theorem dts_nil : DTs X C [] tYesD := ⟨fun pins s σ H Q I q => pts_nil.run pins s σ H Q I (by
  obtain ⟨σd, st, Qd, r, ht, k⟩ := q
  exact k true H σd st r (Keep.refl H) ht)⟩
theorem dts_one {c : Expr} {t : TTD} (h : DT X C c t) : DTs X C [c] t := pts_one h
theorem any_t {cxs : Ctx X C} {s : Shared} {H : Hp} {cenv : Env} {fp : List Addr} (h : ∀ Cb : DC, Ctx (X.blk s H scope cenv fp) Cb → Cb.K = C.K → Cb.T = C.T → DTs (X.blk s H scope cenv fp) Cb ifs tt) : PTs (X.blk s H scope cenv fp) ifs (anyT C.K C.T tt) :=
  ⟨fun pins s' σ H' Q I ⟨Cb, hK, hT, hE, q⟩ => (h Cb (blk_cx cxs hK hE) hK hT).run pins s' σ H' Q I q⟩
theorem any_e {cxs : Ctx X C} {s : Shared} {H : Hp} {cenv : Env} {fp : List Addr} (h : ∀ Cb : DC, Ctx (X.blk s H scope cenv fp) Cb → Cb.K = C.K → Cb.T = C.T → DE (X.blk s H scope cenv fp) Cb elt te) : PE (X.blk s H scope cenv fp) elt (anyE C.K C.T te) :=
  ⟨fun pins s' σ H' Q I ⟨Cb, hK, hT, hE, q⟩ => (de_fzD (h Cb (blk_cx cxs hK hE) hK hT)).run pins s' σ H' Q I q⟩
theorem dn_lc (cx : Ctx X C) (hi : DI X C tg iter wi) (ok : BlkOk X.N X.env.scope scope own) (hin : g.in (own.map (·.2))) (hg : ∀ (s : Shared) (H : Hp) (Ca : Addr) (cl : List (Str × Addr)) (fp : List Addr), PG (X.blk s H scope (compEnvC scope cl Ca X.env) fp) tg (gV X.K g))
    (ht : Blk X C scope fun Xb Cb => DTs Xb Cb ifs tt) (he : Blk X C scope fun Xb Cb => DE Xb Cb elt te) (hs : ∀ x, foldedSetIterable iter X.env x = pure x := by intro _; rfl) :
    DN X C (.ListComp elt [⟨tg, iter, ifs, 0⟩] scope pos) (nLc wi g tt te (own.map (·.2))) := by
  refine ⟨fun pins s σ H Q I q => (pe_lc cx.calm cx.nd hi ok hg (fun s H Ca cl fp => any_t (cxs := cx) fun Cb => ht s H Ca cl fp Cb) (fun s H Ca cl fp => any_e (cxs := cx) fun Cb => he s H Ca cl fp Cb) hs).run pins s σ H Q I ?_⟩
  obtain ⟨σd, st, Qd, r, hq, k⟩ := q
  exact lc_D cx.K hin r hq k
theorem de_lc (cx : Ctx X C) (hi : DI X C tg iter wi) (ok : BlkOk X.N X.env.scope scope own) (hin : g.in (own.map (·.2))) (hg : ∀ (s : Shared) (H : Hp) (Ca : Addr) (cl : List (Str × Addr)) (fp : List Addr), PG (X.blk s H scope (compEnvC scope cl Ca X.env) fp) tg (gV X.K g))
    (ht : Blk X C scope fun Xb Cb => DTs Xb Cb ifs tt) (he : Blk X C scope fun Xb Cb => DE Xb Cb elt te) (hs : ∀ x, foldedSetIterable iter X.env x = pure x := by intro _; rfl) :
    DE X C (.ListComp elt [⟨tg, iter, ifs, 0⟩] scope pos) (eN (nLc wi g tt te (own.map (·.2)))) := de_new (dn_lc cx hi ok hin hg ht he hs)
/-! x = a new list -/
/-- a thing may be frozen behind a statement -/
theorem ps_shf {st : Stmt} {t : TS} (h : PS X st t) : PS X st (fun D σ H => t { D with nx := fun σ' H' => D.nx σ' H' ∨ ∃ a u, H' a = some u ∧ Fable u ∧ ∀ o, D.nx σ' (upd H' a (.frz o u)) } σ H) := by
  refine ⟨fun pins s σ H D I q => thn (h.run pins s σ H _ I q) fun f s1 z => ?_⟩
  cases f with
  | next =>
    obtain ⟨σ', H', I', q | ⟨a, u, e, fb, q⟩⟩ := z
    · exact ⟨σ', H', I', q⟩
    · obtain ⟨o, J⟩ := Inv.freeze I' e fb
      exact ⟨σ', _, J, q o⟩
  | ret v => exact z
  | brk => exact z
  | cont => exact z
def sAsgN (i : Nat) (t : TND) : TSD := fun E D σ st => t E σ st fun ds σ1 st1 => i < σ1.length ∧ D.nx (σ1.set i (.ol ds)) st1
def sAsgF (i : Nat) (t : TND) : TSD := fun E D σ st => t E σ st fun ds σ1 st1 => D.nx (σ1.set i (.val (.lst ds))) st1
theorem NewL.toSlot {σ : VS} {H0 H : Hp} {Qd : List DL.D → En → Sto → Prop} {v : V} (n : NewL C σ H0 Qd v H) (i : Nat) :
    ∃ ds σd st, Qd ds σd st ∧ Keep H0 H ∧ (i < σd.length → Rel C (σd.set i (.ol ds)) st (σ.set i (some v)) H) := by
  obtain ⟨p, vs, ds, σd, st, rfl, hp, l, r, no, sp, gp, kp, q⟩ := n.ex
  refine ⟨ds, σd, st, q, kp, fun hi => ?_⟩
  have ow : ∀ j b, Owns (σd.set i (.ol ds)) (σ.set i (some (.ref p))) j b → (j = i ∧ b = p) ∨ (j ≠ i ∧ Owns σd σ j b) := fun j b ⟨y, e1, e2, e3⟩ => by
    rcases set_get e1 with ⟨rfl, rfl, _⟩ | ⟨n, e1⟩
    · rw [List.getElem?_set_self (by rw [← r.len]; exact hi)] at e3
      cases e3
      exact .inl ⟨rfl, rfl⟩
    · rw [List.getElem?_set_ne n] at e3
      exact .inr ⟨Ne.symm n, y, e1, e2, e3⟩
  refine ⟨by simp [r.len], fun j y ej => ?_, fun j k b h1 h2 => ?_, fun j b h => ?_, r.sh, r.dom, r.fr, r.th, r.tb⟩
  · rcases set_get ej with ⟨rfl, rfl, _⟩ | ⟨n, ej⟩
    · rw [List.getElem?_set_self (by rw [← r.len]; exact hi)]; exact ⟨p, vs, rfl, hp, l⟩
    · rw [List.getElem?_set_ne n]; exact r.sl j y ej
  · rcases ow j b h1 with ⟨rfl, rfl⟩ | ⟨n1, q1⟩
    · rcases ow k b h2 with ⟨rfl, _⟩ | ⟨_, q2⟩
      · rfl
      · exact absurd q2 (no k)
    · rcases ow k b h2 with ⟨rfl, rfl⟩ | ⟨_, q2⟩
      · exact absurd q1 (no j)
      · exact r.dist j k b q1 q2
  · rcases ow j b h with ⟨_, rfl⟩ | ⟨_, q⟩
    · exact ⟨gp, sp⟩
    · exact r.new j b q
variable {i : Nat} {x : Str} {pos' spos : Pos}
theorem ds_setN {t : TND} (cx : Ctx X C) (hi : X.N[i]? = some x) (hx : Loc X.env.scope x) (he : DN X C e t) (hs : swapsWith e (some (.Name x pos')) spos.line X.env = pure false := by rfl)
    (hf : X.fn x = true ∨ X.env.scope.names.lookup x = some .local := by first | exact .inl rfl | exact .inr rfl | assumption) : DS X C (.Assign [.Name x pos'] e spos) (sAsgN i t) := DS.imp (ps_set cx.nd hi hx he hs hf) fun D σ H q => by
  obtain ⟨σd, st, Dd, r, ht, l⟩ := q
  refine ⟨σd, st, _, r, ht, fun v H' n => ?_⟩
  obtain ⟨ds, σ2, st2, ⟨hl, q⟩, k, w⟩ := n.toSlot i
  exact l.nx _ H' _ st2 (w hl) k q
theorem lcs {D : Ends} {σ : VS} {H : Hp} {Dd : DEnds} (l : Link C H Dd D) {v : V} {H' : Hp} (n : NewL C σ H (fun ds σ1 st1 => Dd.nx (σ1.set i (.val (.lst ds))) st1) v H') :
    D.nx (σ.set i (some v)) H' ∨ ∃ a u, H' a = some u ∧ Fable u ∧ ∀ o, D.nx (σ.set i (some v)) (upd H' a (.frz o u)) := by
  have z := n.frozen (Q := fun v H2 => D.nx (σ.set i (some v)) H2) fun H2 ds σ2 st2 r2 hd k2 q => l.nx _ H2 _ st2 (r2.set i hd) k2 q
  rcases z with z | ⟨a, u, rfl, e, f, z⟩
  · exact .inl z
  · exact .inr ⟨a, u, e, f, z⟩
/-- x = [..], a comprehension: frozen, or of its own -/
theorem ds_lcF (cx : Ctx X C) (hy : X.N[i]? = some x) (hyl : X.env.scope.names.lookup x = some .local) (hsw : swapsWith (.ListComp elt [⟨tg, iter, ifs, 0⟩] scope pos) (some (.Name x pos')) spos.line X.env = pure true) (hi : DI X C tg iter wi) (ok : BlkOk X.N X.env.scope scope own) (hin : g.in (own.map (·.2)))
    (hg : ∀ (s : Shared) (H : Hp) (Ca : Addr) (cl : List (Str × Addr)) (fp : List Addr), PG (X.blk s H scope (compEnvC scope cl Ca X.env) fp) tg (gV X.K g))
    (ht : Blk X C scope fun Xb Cb => DTs Xb Cb ifs tt) (he : Blk X C scope fun Xb Cb => DE Xb Cb elt te) (hs : ∀ x, foldedSetIterable iter X.env x = pure x := by intro _; rfl) :
    DS X C (.Assign [.Name x pos'] (.ListComp elt [⟨tg, iter, ifs, 0⟩] scope pos) spos) (sAsgF i (nLc wi g tt te (own.map (·.2)))) :=
  DS.imp (ps_shf (ps_setLc cx.calm cx.nd hy hyl hsw hi ok hg (fun s H Ca cl fp => any_t (cxs := cx) fun Cb => ht s H Ca cl fp Cb) (fun s H Ca cl fp => any_e (cxs := cx) fun Cb => he s H Ca cl fp Cb) hs)) fun D σ H q => by
    obtain ⟨σd, st, Dd, r, hq, l⟩ := q
    exact lc_D cx.K hin r hq fun v H' n => lcs l n
theorem ds_lcN (cx : Ctx X C) (hy : X.N[i]? = some x) (hyl : X.env.scope.names.lookup x = some .local) (hsw : swapsWith (.ListComp elt [⟨tg, iter, ifs, 0⟩] scope pos) (some (.Name x pos')) spos.line X.env = pure true) (hi : DI X C tg iter wi) (ok : BlkOk X.N X.env.scope scope own) (hin : g.in (own.map (·.2)))
    (hg : ∀ (s : Shared) (H : Hp) (Ca : Addr) (cl : List (Str × Addr)) (fp : List Addr), PG (X.blk s H scope (compEnvC scope cl Ca X.env) fp) tg (gV X.K g))
    (ht : Blk X C scope fun Xb Cb => DTs Xb Cb ifs tt) (he : Blk X C scope fun Xb Cb => DE Xb Cb elt te) (hs : ∀ x, foldedSetIterable iter X.env x = pure x := by intro _; rfl) :
    DS X C (.Assign [.Name x pos'] (.ListComp elt [⟨tg, iter, ifs, 0⟩] scope pos) spos) (sAsgN i (nLc wi g tt te (own.map (·.2)))) :=
  DS.imp (ps_setLc cx.calm cx.nd hy hyl hsw hi ok hg (fun s H Ca cl fp => any_t (cxs := cx) fun Cb => ht s H Ca cl fp Cb) (fun s H Ca cl fp => any_e (cxs := cx) fun Cb => he s H Ca cl fp Cb) hs) fun D σ H q => by
    obtain ⟨σd, st, Dd, r, hq, l⟩ := q
    refine lc_D cx.K hin r hq fun v H' n => ?_
    obtain ⟨ds, σ2, st2, ⟨hl, q⟩, k, w⟩ := n.toSlot i
    exact l.nx _ H' _ st2 (w hl) k q
end
end DL

set_option Elab.async false
set_option linter.all false
set_option maxRecDepth 100000
namespace DL
open PySem PySem.Spec PyProof.Rows L2
variable [WW]
section
variable {X : Cx} {C : DC}
/-! ### unary minus, products -/
def negD : B1 := fun x Q => match x with
  | .int i => Q (.int (-i))
  | _ => False
theorem unD_neg : UnD X C (unaryOp .USub) negD := by
  refine UnD.mk un_neg fun H x dx Q Qv hx hb fin => ?_
  cases dx <;> first | exact hb.elim | skip
  cases red_int hx
  exact ⟨_, rfl, .inl (fin _ H _ (Mild.refl H) (.int _) trivial hb)⟩
/-- a list, tracked or frozen, times an int -/
def rRepR : R2 := fun x y H Q => ∃ l k xs, x = .ref l ∧ y = .int k ∧ Rd H l (.lst xs) ∧ -(2 ^ 63) ≤ k ∧ k < 2 ^ 63 ∧ xs.length * k.toNat ≤ sizeLine ∧ ∀ p, H p = none → Q (.ref p) (upd H p (.lst (rep k xs)))
theorem op_repR : OpR X (binaryOp .Mult) rRepR := by
  intro pins s σ H x y v u Q I rx ry h
  obtain ⟨l, k, xs, rfl, rfl, hH, h1, h2, hz, q⟩ := h
  cases rx
  obtain ⟨t, rfl⟩ := ry
  obtain ⟨z, its, n, r, e⟩ := hH.ok I.hok
  have hl := r.length
  have hlen : its.toArray.size * k.toNat ≤ sizeLine := by rw [List.size_toArray, ← hl]; exact hz
  have hcap : ¬ its.toArray.size * k.toNat > (2 ^ 63 - 1) / 8 := by
    have : (sizeLine : Nat) ≤ (2 ^ 63 - 1) / 8 := by decide
    omega
  have hfit : ¬ (!Builtin.List.listFitsIndex k) = true := by
    rw [fitsIndex_both h1 h2]
    exact Bool.false_ne_true
  have hlong : ¬ Builtin.List.listTooLong (its.toArray.size * k.toNat) = true := by
    rw [notLongL hlen]
    exact Bool.false_ne_true
  have hnew : List.foldl (fun x1 x2 => x1 ++ x2) #[] (List.replicate (if its.toArray.isEmpty = true then 0 else k.toNat) its.toArray) = (List.replicate k.toNat its).flatten.toArray := by
    have f0 : ∀ m : Nat, List.foldl (fun x1 x2 => x1 ++ x2) #[] (List.replicate m its.toArray) = (List.replicate m its).flatten.toArray := fun m => by
      have := foldl_rep its m []
      rw [List.nil_append] at this
      exact this
    rw [f0]
    cases its with
    | nil => simp
    | cons a r' => rw [if_neg (by simp)]
  refine wpAny_binaryOp_repeat_ref (T := "list") (U := "int") (by decide) ⟨_, e, rfl⟩ (fun s' => typeIs_int s' k t) noFill_list_mul F.fills_int_mul F.slot_int_rmul repeat_list F.slot_int_index.lookup
    (call_meets F.slot_int_rmul (typeIs_int s k t) F.entry_int_rmul (F.args_int_rmul_2 _ _) (int___rmul___int_list k t l its.toArray n)
      ⟨e, rfl, ⟨_, e, rfl⟩, call_meets F.slot_list_mul ⟨_, e, rfl⟩ F.entry_list_mul (F.args_list_mul_2 _ _) (AutoListH.list___mul___list_int_3 l its.toArray n k t hfit hcap hlong) ⟨e, ?_⟩⟩)
  rw [hnew]
  exact ⟨.ref _, _, I.lnew (t' := s.toks) (r.rep k.toNat) (by rw [PyProof.Rows.lm_len_rep_flat, Nat.mul_comm]; exact hz), rfl, q _ I.fresh⟩
/-- a tuple times 1 is itself -/
theorem tuple_mul1 (l : Addr) (items : Array Value) (n : Nat) (dd : Option Addr) (sl : Array (Option Value)) (u : Tok) :
    Meets (Builtin.«tuple.__mul__» ⟨[.ref l, .int 1 u], []⟩) (fun _ R s => s.heap.get? l = some { cls := .type "tuple", dict := dd, data := .seq items n, slots := sl } ∧
      R (.ok (.ret (Value.ref l))) s) :=
  .of_wp fun prog w A R s h => by
    obtain ⟨hp, g, d, tk, os⟩ := s
    obtain ⟨hl, h⟩ := h
    have f1 := AutoSeq1.idx_int
    wp_walk using wpAny_loadPart' hl
    exact ⟨_, rfl, h⟩
def rRep1 (K : PySem.W.Frag) : R2 := fun x y H Q => ∃ l xs, x = .ref l ∧ y = .int 1 ∧ SqT K H l xs ∧ Q (.ref l) H
theorem op_rep1 : OpR X (binaryOp .Mult) (rRep1 X.K) := by
  intro pins s σ H x y v u Q I rx ry h
  obtain ⟨l, xs, rfl, rfl, hT, q⟩ := h
  cases rx
  obtain ⟨t, rfl⟩ := ry
  obtain ⟨its, r, ⟨⟨cls, dd, data, sl⟩, ho, hc, n, hd⟩, hs⟩ := I.tuple hT
  simp only at hc hd
  subst hc hd
  refine wpAny_binaryOp_repeat_ref (T := "tuple") (U := "int") (by decide) ⟨_, ho, rfl⟩ (fun s' => typeIs_int s' 1 t) noFill_tuple_mul F.fills_int_mul F.slot_int_rmul repeat_tuple F.slot_int_index.lookup
    (call_meets F.slot_int_rmul (typeIs_int s 1 t) F.entry_int_rmul (F.args_int_rmul_2 _ _) (int_rmul_tuple 1 t l its.toArray n dd sl)
      ⟨ho, rfl, ⟨_, ho, rfl⟩, call_meets F.slot_tuple_mul ⟨_, ho, rfl⟩ F.entry_tuple_mul (F.args_tuple_mul_2 _ _) (tuple_mul1 l its.toArray n dd sl t) ⟨ho, ?_⟩⟩)
  exact ⟨.ref l, H, I, rfl, q⟩
/-- t * k -/
def rRepF (K : PySem.W.Frag) : R2 := fun x y H Q => ∃ l k xs, x = .ref l ∧ y = .int k ∧ SqT K H l xs ∧ xs ≠ [] ∧ 2 ≤ k ∧ k ≤ 1000 ∧ xs.length ≤ 1000 ∧ NewT H Q (rep k xs)
theorem op_repF : OpR X (binaryOp .Mult) (rRepF X.K) := by
  intro pins s σ H x y v u Q I rx ry h
  obtain ⟨l, k, xs, rfl, rfl, hT, hne, h1, h2, hz, q⟩ := h
  cases rx
  obtain ⟨tk, rfl⟩ := ry
  obtain ⟨its, rv, ⟨⟨cls, dd, data, sl⟩, ho, hc, n, hd⟩, hs⟩ := I.tuple hT
  simp only at hc hd
  subst hc hd
  have hl : its.length = xs.length := rv.length.symm
  have he : its.toArray.isEmpty = false := by
    cases its with
    | nil => exact absurd (List.eq_nil_of_length_eq_zero hl.symm) hne
    | cons _ _ => rfl
  have hsz : its.toArray.size = xs.length := by rw [List.size_toArray, hl]
  have hmul : k.toNat * xs.length ≤ 1000 * 1000 := Nat.mul_le_mul (by omega) hz
  have hfl : (rep k xs).length ≤ sizeLine := by
    unfold rep
    rw [PyProof.Rows.lm_len_rep_flat, sizeLine_eq]; omega
  have hfi : (List.replicate k.toNat its).flatten.length ≤ sizeLine := by rw [PyProof.Rows.lm_len_rep_flat, hl, sizeLine_eq]; omega
  have b0 : (decide (k < -(2 ^ 63)) || decide (k ≥ 2 ^ 63)) = false := by rw [decide_eq_false (by omega), decide_eq_false (by omega)]; rfl
  have b1 : (its.toArray.isEmpty || k == 1) = false := by rw [he, Bool.false_or, beq_eq_false_iff_ne]; omega
  have b2 : (decide (k ≤ 0) || its.toArray.isEmpty) = false := by rw [he, Bool.or_false, decide_eq_false (by omega)]
  have hb : ((its.toArray.size : Nat) : Int) * k ≤ 1000000 := by
    rw [hsz]
    have : ((xs.length : Nat) : Int) * k ≤ 1000 * k := Int.mul_le_mul_of_nonneg_right (by omega) (by omega)
    omega
  have b4 : Builtin.Tuple.tupleTooMany (((its.toArray.size : Nat) : Int) * k) = false := by
    unfold Builtin.Tuple.tupleTooMany
    rw [sizeLine_eq]
    exact decide_eq_false (by omega)
  refine wpAny_binaryOp_repeat_ref (T := "tuple") (U := "int") (by decide) ⟨_, ho, rfl⟩ (fun s' => typeIs_int s' k tk) noFill_tuple_mul F.fills_int_mul F.slot_int_rmul repeat_tuple F.slot_int_index.lookup
    (call_meets F.slot_int_rmul (typeIs_int s k tk) F.entry_int_rmul (F.args_int_rmul_2 _ _) (int_rmul_tuple k tk l its.toArray n dd sl)
      ⟨ho, rfl, ⟨_, ho, rfl⟩, call_meets F.slot_tuple_mul ⟨_, ho, rfl⟩ F.entry_tuple_mul (F.args_tuple_mul_2 _ _) (tuple_mulW l its.toArray n dd sl k tk b0 b1 b2 (by omega) b4 (by rw [size_rep, List.size_toArray]; exact hfi)) ⟨ho, ?_⟩⟩)
  rw [size_rep]
  exact ep_tup I (rv.rep k.toNat) hfl q
def rRepS : R2 := fun x y H Q => ∃ z k, x = .str z ∧ y = .int k ∧ z.length ≤ 1000 ∧ 1 ≤ k ∧ k ≤ 1000 ∧ Q (.str (Txt.mul z k)) H
theorem op_repS : OpR X (binaryOp .Mult) rRepS := by
  intro pins s σ H x y v u Q I rx ry h
  obtain ⟨z, k, rfl, rfl, hz, h1, h2, q⟩ := h
  obtain ⟨t, rfl⟩ := rx
  obtain ⟨t', rfl⟩ := ry
  refine SB.mul ⟨by rw [decide_eq_false (by omega), decide_eq_false (by omega)]; rfl, fun _ _ => ?_, fun _ _ => ?_⟩ fun t' k' => ⟨.str _, H, I.tok _, ⟨_, rfl⟩, q⟩
  · have : (1000 : Int) ≤ (2 ^ 63 - 1) / k := Int.le_ediv_of_mul_le (by omega) (by omega)
    omega
  · unfold Builtin.Str.tooLong
    rw [sizeLine_eq]
    have : z.length * k.toNat ≤ 1000 * 1000 := Nat.mul_le_mul hz (by omega)
    exact decide_eq_false (by omega)
theorem rep_one {α : Type} (xs : List α) : rep 1 xs = xs := by
  unfold rep
  simp
theorem mem_mul {z : Str} {k : Int} {c : Nat} (h : c ∈ (Txt.mul z k).cps.toList) : c ∈ z.cps.toList := by
  unfold Txt.mul at h
  split at h
  · simp [Str.empty] at h
  · split at h
    · exact h
    · have f0 : ∀ (m : Nat) (acc : Array Nat), c ∈ ((List.replicate m z.cps).foldl (· ++ ·) acc).toList → c ∈ acc.toList ∨ c ∈ z.cps.toList := by
        intro m
        induction m with
        | zero => intro acc h; exact .inl h
        | succ m ih =>
          intro acc h
          rcases ih (acc ++ z.cps) h with h | h
          · rcases (by simpa using h : c ∈ acc ∨ c ∈ z.cps) with h | h
            · exact .inl (by simpa using h)
            · exact .inr (by simpa using h)
          · exact .inr h
      rcases f0 _ _ h with h | h
      · simp at h
      · exact h
def mulsD : B2 := fun x y Q => match x, y with
  | .int i, .int j => IntMulOk i j ∧ Q (.int (i * j))
  | .lst xs, .int k => -(2 ^ 63) ≤ k ∧ k < 2 ^ 63 ∧ xs.length * k.toNat ≤ sizeLine ∧ Q (.lst (rep k xs))
  | .tup xs, .int k => xs ≠ [] ∧ 1 ≤ k ∧ k ≤ 1000 ∧ xs.length ≤ 1000 ∧ Q (.tup (rep k xs))
  | .str z, .int k => z.length ≤ 1000 ∧ 1 ≤ k ∧ k ≤ 1000 ∧ Q (.str (Txt.mul z k))
  | _, _ => False
theorem opD_mul (cx : Ctx X C) : OpD X C (binaryOp .Mult) mulsD := by
  refine OpD.mk (op_mulA.or (op_repR.or (op_repF.or (op_rep1.or op_repS)))) fun H x y dx dy Q Qv hx hy hb fin => ?_
  cases dx <;> first | exact hb.elim | skip
  · cases dy <;> first | exact hb.elim | skip
    cases red_int hx
    cases red_int hy
    exact .inl ⟨_, _, rfl, rfl, hb.1, .inl (fin _ H _ (Mild.refl H) (.int _) trivial hb.2)⟩
  · cases dy <;> first | exact hb.elim | skip
    obtain ⟨rfl, o1⟩ := red_str hx
    cases red_int hy
    exact .inr (.inr (.inr (.inr ⟨_, _, rfl, rfl, hb.1, hb.2.1, hb.2.2.1, .inl (fin _ H _ (Mild.refl H) (.str _ (strOk_sub o1 fun c hc => mem_mul hc)) trivial hb.2.2.2)⟩)))
  · cases dy <;> first | exact hb.elim | skip
    obtain ⟨a, vs, rfl, h1, l1⟩ := red_tup hx
    cases red_int hy
    obtain ⟨b0, b1, b2, b3, q⟩ := hb
    rename_i k
    by_cases e : k = 1
    · subst e
      refine .inr (.inr (.inr (.inl ⟨a, vs, rfl, rfl, by rw [cx.K]; exact h1.sqt, .inl (fin _ H (.tup _) (Mild.refl H) ?_ trivial q)⟩)))
      rw [rep_one]
      exact .tup h1 l1.1 l1.2
    · refine .inr (.inr (.inl ⟨a, k, vs, rfl, rfl, by rw [cx.K]; exact h1.sqt, fun e => b0 ?_, by omega, b2, by rw [← l1.1]; exact b3, fun p o hp ho => .inl (fin_tup hp ho (l1.rep k) fun H' m hd => fin _ H' _ m hd trivial q)⟩))
      subst e
      exact List.eq_nil_of_length_eq_zero l1.1
  · cases dy <;> first | exact hb.elim | skip
    obtain ⟨a, vs, rfl, h1, l1⟩ := red_lst hx
    cases red_int hy
    obtain ⟨b0, b1, b2, q⟩ := hb
    exact .inr (.inl ⟨a, _, vs, rfl, rfl, h1, b0, b1, by rw [← l1.1]; exact b2, fun p hp => fin_lst hp (l1.rep _) fun H' m hd => fin _ H' _ m hd trivial q⟩)
end
end DL

set_option Elab.async false
set_option linter.all false
set_option maxRecDepth 100000
namespace DL
open PySem PySem.Spec PyProof.Rows L2
variable [WW]
/-! ### new things of one's own -/
structure NewS (C : DC) (σ : VS) (H0 : Hp) (Qd : Sl → En → Sto → Prop) (v : V) (H : Hp) : Prop where
  ex : ∃ p u x σd st, v = .ref p ∧ x.owns = true ∧ H p = some u ∧ Fable u ∧ SlOk C.K H x (some (.ref p)) ∧ Rel C σd st σ H ∧ (∀ i, ¬ Owns σd σ i p) ∧ st p = none ∧ C.G p = none ∧ Keep H0 H ∧ Qd x σd st
abbrev TNW := XD → En → Sto → (Sl → En → Sto → Prop) → Prop
def embW (C : DC) (t : TNW) : TE := fun σ H Q => ∃ σd st Qd, Rel C σd st σ H ∧ t C.E σd st Qd ∧ ∀ v H', NewS C σ H Qd v H' → Q v H'
def DNw (X : Cx) (C : DC) (e : Expr) (t : TNW) : Prop := PE X e (embW C t)
/-- .. frozen -/
def slF : Sl → D
  | .ol ds => .lst ds
  | .ok ds => .dK ds
  | .ot ds => .dT ds
  | _ => .non
def eNw (t : TNW) : TED := fun E σ st Q => t E σ st fun x σ1 st1 => Q (slF x) σ1 st1
def nwL (t : TND) : TNW := fun E σ st Q => t E σ st fun ds σ1 st1 => Q (.ol ds) σ1 st1
section
variable {X : Cx} {C : DC} {e : Expr}
theorem slok_fz {K : PySem.W.Frag} {H : Hp} {x : Sl} {p : Addr} {u : HO} (o : Obj) (ho : x.owns = true) (e : H p = some u) (h : SlOk K H x (some (.ref p))) : Den K (upd H p (.frz o u)) (slF x) (.ref p) := by
  cases x with
  | un => cases ho
  | val d => cases ho
  | ol ds => obtain ⟨a, vs, e1, e2, h1⟩ := h; cases e1; cases e.symm.trans e2; exact frz_den_lst e2 h1
  | ok ds => obtain ⟨a, vs, e1, e2, h1⟩ := h; cases e1; cases e.symm.trans e2; exact frz_den_dK e2 h1
  | ot ds => obtain ⟨a, o', xs, vs, e1, e2, h1⟩ := h; cases e1; cases e.symm.trans e2; exact frz_den_dT e2 h1
theorem NewL.w {σ : VS} {H0 H : Hp} {Qd : Sl → En → Sto → Prop} {v : V} (n : NewL C σ H0 (fun ds σ1 st1 => Qd (.ol ds) σ1 st1) v H) : NewS C σ H0 Qd v H := by
  obtain ⟨p, vs, ds, σd, st, rfl, hp, l, r, no, sp, gp, kp, q⟩ := n.ex
  exact ⟨p, .lst vs, .ol ds, σd, st, rfl, rfl, hp, trivial, ⟨p, vs, rfl, hp, l⟩, r, no, sp, gp, kp, q⟩
theorem dnw_l {t : TND} (h : DN X C e t) : DNw X C e (nwL t) := by
  refine ⟨fun pins s σ H Q I q => h.run pins s σ H Q I ?_⟩
  obtain ⟨σd, st, Qd, r, ht, k⟩ := q
  exact ⟨σd, st, _, r, ht, fun v H' n => k v H' n.w⟩
theorem NewS.frozen {σ : VS} {H0 H : Hp} {Qd : Sl → En → Sto → Prop} {v : V} (n : NewS C σ H0 Qd v H) {Q : VK}
    (k : ∀ H' x σd st, Rel C σd st σ H' → Den C.K H' (slF x) v → Keep H0 H' → Qd x σd st → Q v H') : Shf Q v H := by
  obtain ⟨p, u, x, σd, st, rfl, ho, hp, fb, l, r, no, sp, gp, kp, q⟩ := n.ex
  refine .inr ⟨p, _, rfl, hp, fb, fun o => ?_⟩
  have k2 : Keep H (upd H p (.frz o u)) := Keep.put (by rw [hp]; exact fb.loose)
  refine k _ x σd st ?_ (slok_fz o ho hp l) (kp.trans k2) q
  refine ⟨r.len, fun j y ej => ?_, r.dist, r.new, fun a o e => ?_, r.dom, fun a o e1 e2 e3 => ?_, fun a h => ?_, tabs_k r.tb (TabK.put fun o' q => by rw [hp] at q; cases q; exact fb.tx)⟩
  · exact (r.sl j y ej).keep k2 fun b hb hv => upd_ne fun z => no j ⟨y, ej, hb, by rw [← z]; exact join_some hv⟩
  · have n : a ≠ p := fun z => by rw [z, sp] at e; cases e
    exact (r.sh a o e).keep k2 (upd_ne n)
  · have n : a ≠ p := fun z => by rw [z, gp] at e1; cases e1
    rw [upd_ne n]; exact r.fr a o e1 e2 e3
  · exact Ob.upd (fun _ => r.th a h) fun _ => Fable_tbl
theorem de_nw {t : TNW} (h : DNw X C e t) : DE X C e (eNw t) := by
  refine ⟨fun pins s σ H Q I q => (pe_shf h).run pins s σ H Q I ?_⟩
  obtain ⟨σd, st, Qd, r, ht, k⟩ := q
  exact ⟨σd, st, _, r, ht, fun v H' n => n.frozen fun H2 x σ2 st2 r2 hd k2 q => k v H2 _ σ2 st2 r2 (.of hd) k2 q⟩
/-- from a rule that lays a new thing -/
theorem NewS.of {σ : VS} {H0 H : Hp} {σd : En} {st : Sto} {p : Addr} {u : HO} {x : Sl} {Qd : Sl → En → Sto → Prop} (r : Rel C σd st σ H) (k : Keep H0 H) (hp : H p = none) (fb : Fable u) (ho : x.owns = true) (hx : SlOk C.K (upd H p u) x (some (.ref p))) (q : Qd x σd st) : NewS C σ H0 Qd (.ref p) (upd H p u) := by
  obtain ⟨f1, f2, f3⟩ := r.fresh hp
  exact ⟨p, u, x, σd, st, rfl, ho, upd_same, fb, hx, r.mild (Mild.new hp), f1, f2, f3, k.trans (Keep.new hp), q⟩
theorem sl_ol {K : PySem.W.Frag} {H : Hp} {p : Addr} {vs : List V} {ds : List D} (hp : H p = none) (l : DenL K H ds vs) : SlOk K (upd H p (.lst vs)) (.ol ds) (some (.ref p)) := ⟨p, vs, rfl, upd_same, l.keep (Keep.new hp)⟩
theorem sl_ok {K : PySem.W.Frag} {H : Hp} {p : Addr} {vs : List (Key × V)} {ds : List (Key × D)} (hp : H p = none) (l : DenKV K H ds vs) : SlOk K (upd H p (.dK vs)) (.ok ds) (some (.ref p)) := ⟨p, vs, rfl, upd_same, l.keep (Keep.new hp)⟩
theorem sl_ot {K : PySem.W.Frag} {H : Hp} {p : Addr} {o : Obj} {xs : Ents} {vs : List V} {ds : List (NK × D)} (hp : H p = none) (c : DTc K H ds p o xs vs) : SlOk K (upd H p (exO p o)) (.ot ds) (some (.ref p)) := ⟨p, o, xs, vs, rfl, upd_same, c.keep (Keep.new hp)⟩
theorem DenKV.nil {κ : Type} {K : PySem.W.Frag} {H : Hp} : DenKV K H ([] : List (κ × D)) [] := ⟨rfl, DenL.nil⟩
/-! {}, [..] -/
def nDictK : TNW := fun _ σ st Q => Q (.ok []) σ st
def nDictT : TNW := fun _ σ st Q => Q (.ot []) σ st
variable {pos : Pos}
theorem dnw_dictK : DNw X C (.Dict [] [] pos) nDictK := ⟨fun pins s σ H Q I q => pe_dnewK.run pins s σ H Q I (by
  obtain ⟨σd, st, Qd, r, ht, k⟩ := q
  exact fun p hp => k _ _ (NewS.of r (Keep.refl H) hp trivial rfl (sl_ok hp DenKV.nil) ht))⟩
def dict0 : Obj := { cls := .type "dict", data := .dict #[] }
theorem dtc0 {K : PySem.W.Frag} {H : Hp} {p : Addr} (h : (p == sysModules) = false) : DTc K H [] p dict0 [] [] :=
  ⟨⟨⟨rfl, rfl, rfl⟩, ⟨#[], 0, rfl, rfl⟩, List.nodup_nil, h, (fun _ z => nomatch z), Nat.zero_le _⟩, rfl, .nil, fun i x e => by simp at e, DenL.nil⟩
theorem pe_dnewX : PE X (.Dict [] [] pos) (fun _ H Q => ∀ p, H p = none → (p == sysModules) = false → Q (.ref p) (upd H p (exO p dict0))) := ⟨fun pins s σ H Q I h =>
  wpAny_Dict_empty ⟨.ref s.heap.objs.size, _, I.laid (a := s.heap.objs.size) (o := exO s.heap.objs.size dict0) (t' := s.toks) (fun _ _ q => Heap.get?_push_of_some _ q) (Nat.le_refl _)
    ⟨Heap.get?_push_size _ rfl, ⟨_, Heap.get?_push_size _ rfl⟩, fun h1 h2 e1 e2 => e2 _ e1⟩, rfl, h _ (I.hok.fresh (Nat.le_refl _)) (beq_eq_false_iff_ne.mpr (Ne.symm (Nat.ne_of_lt I.big)))⟩⟩
theorem dnw_dictT : DNw X C (.Dict [] [] pos) nDictT := ⟨fun pins s σ H Q I q => pe_dnewX.run pins s σ H Q I (by
  obtain ⟨σd, st, Qd, r, ht, k⟩ := q
  exact fun p hp hs => k _ _ (NewS.of r (Keep.refl H) hp (Fable.exO (dtc0 (K := C.K) (H := H) hs).q) rfl (sl_ot hp (dtc0 hs)) ht))⟩
def nLst (ts : List TED) : TNW := fun E σ st Q => aL ts E σ st fun ds σ1 st1 => Q (.ol ds) σ1 st1
theorem dnw_lst {es : List Expr} {ts : List TED} (h : DAr X C es ts) (hz : ts.length ≤ 1000 := by exact Nat.le_of_ble_eq_true rfl) : DNw X C (.List es pos) (nLst ts) := ⟨fun pins s σ H Q I q => (pe_lst h).run pins s σ H Q I (by
  obtain ⟨σd, st, Qd, r, ht, k⟩ := q
  refine ⟨σd, st, _, r, ht, fun vs H1 ds σ1 st1 r1 l z k1 q => ?_⟩
  exact ⟨by rw [← l.1, z]; exact line_ok hz, fun p hp => k _ _ (NewS.of r1 k1 hp trivial rfl (sl_ol hp l) q)⟩)⟩
/-! ### assignments of new things -/
theorem NewS.toSlot {σ : VS} {H0 H : Hp} {Qd : Sl → En → Sto → Prop} {v : V} (n : NewS C σ H0 Qd v H) (i : Nat) :
    ∃ x σd st, Qd x σd st ∧ Keep H0 H ∧ (i < σd.length → Rel C (σd.set i x) st (σ.set i (some v)) H) := by
  obtain ⟨p, u, x, σd, st, rfl, ho, hp, fb, l, r, no, sp, gp, kp, q⟩ := n.ex
  refine ⟨x, σd, st, q, kp, fun hi => ?_⟩
  have ow : ∀ j b, Owns (σd.set i x) (σ.set i (some (.ref p))) j b → (j = i ∧ b = p) ∨ (j ≠ i ∧ Owns σd σ j b) := fun j b ⟨y, e1, e2, e3⟩ => by
    rcases set_get e1 with ⟨rfl, rfl, _⟩ | ⟨n, e1⟩
    · rw [List.getElem?_set_self (by rw [← r.len]; exact hi)] at e3
      cases e3
      exact .inl ⟨rfl, rfl⟩
    · rw [List.getElem?_set_ne n] at e3
      exact .inr ⟨Ne.symm n, y, e1, e2, e3⟩
  refine ⟨by simp [r.len], fun j y ej => ?_, fun j k b h1 h2 => ?_, fun j b h => ?_, r.sh, r.dom, r.fr, r.th, r.tb⟩
  · rcases set_get ej with ⟨rfl, rfl, _⟩ | ⟨n, ej⟩
    · rw [List.getElem?_set_self (by rw [← r.len]; exact hi)]; exact l
    · rw [List.getElem?_set_ne n]; exact r.sl j y ej
  · rcases ow j b h1 with ⟨rfl, rfl⟩ | ⟨n1, q1⟩
    · rcases ow k b h2 with ⟨rfl, _⟩ | ⟨_, q2⟩
      · rfl
      · exact absurd q2 (no k)
    · rcases ow k b h2 with ⟨rfl, rfl⟩ | ⟨_, q2⟩
      · exact absurd q1 (no j)
      · exact r.dist j k b q1 q2
  · rcases ow j b h with ⟨_, rfl⟩ | ⟨_, q⟩
    · exact ⟨gp, sp⟩
    · exact r.new j b q
variable {i : Nat} {x : Str} {pos' : Pos}
def sAsgW (i : Nat) (t : TNW) : TSD := fun E D σ st => t E σ st fun x σ1 st1 => i < σ1.length ∧ D.nx (σ1.set i x) st1
theorem ds_setW {t : TNW} (cx : Ctx X C) (hi : X.N[i]? = some x) (hx : Loc X.env.scope x) (he : DNw X C e t) (hs : swapsWith e (some (.Name x pos')) pos.line X.env = pure false := by rfl)
    (hf : X.fn x = true ∨ X.env.scope.names.lookup x = some .local := by first | exact .inl rfl | exact .inr rfl | assumption) : DS X C (.Assign [.Name x pos'] e pos) (sAsgW i t) := DS.imp (ps_set cx.nd hi hx he hs hf) fun D σ H q => by
  obtain ⟨σd, st, Dd, r, ht, l⟩ := q
  refine ⟨σd, st, _, r, ht, fun v H' n => ?_⟩
  obtain ⟨x, σ2, st2, ⟨hl, q⟩, k, w⟩ := n.toSlot i
  exact l.nx _ H' _ st2 (w hl) k q
end
/-! ### several names at once, some given new things -/
/-- the context while the new thing at p is held -/
def DC.hold (C : DC) (p : Addr) (u : HO) : DC := ⟨C.K, upd C.G p u, fun a => C.dom a ∧ a ≠ p, C.E, C.T⟩
section
variable {C : DC} {σd : En} {st : Sto} {σ : VS} {H : Hp} {p : Addr} {u : HO}
theorem Rel.held (r : Rel C σd st σ H) (nt : ∀ ps, u ≠ .tbl ps) (hp : H p = some u) (no : ∀ i, ¬ Owns σd σ i p) (sp : st p = none) : Rel (C.hold p u) σd st σ H := by
  refine ⟨r.len, r.sl, r.dist, fun i a h => ⟨?_, (r.new i a h).2⟩, r.sh, fun a h => ?_, fun a o e1 e2 e3 => ?_, fun a h => ?_, r.tb⟩
  · have n : a ≠ p := fun z => no i (by rw [← z]; exact h)
    show upd C.G p u a = none
    rw [upd_ne n]; exact (r.new i a h).1
  · have n : a ≠ p := fun z => by rw [z] at h; exact h sp
    rcases r.dom a h with z | z
    · exact .inl ⟨z, n⟩
    · refine .inr ?_
      show upd C.G p u a = none
      rw [upd_ne n]; exact z
  · have e1 : upd C.G p u a = some o := e1
    by_cases n : a = p
    · subst n
      rw [upd_same] at e1; cases e1; exact hp
    · rw [upd_ne n] at e1
      exact r.fr a o e1 (fun z => e2 ⟨z, n⟩) e3
  · have h : upd C.G p u a ≠ none := h
    by_cases n : a = p
    · subst n; exact ⟨_, hp, nt⟩
    · rw [upd_ne n] at h
      exact r.th a h
theorem Rel.hold_at (r : Rel (C.hold p u) σd st σ H) (nt : ∀ ps, u ≠ .tbl ps) : H p = some u ∧ (∀ i, ¬ Owns σd σ i p) ∧ st p = none := by
  have hg : (C.hold p u).G p = some u := upd_same
  refine ⟨r.fr p _ hg (fun z => z.2 rfl) nt, fun i h => ?_, ?_⟩
  · have q := (r.new i p h).1
    rw [hg] at q; cases q
  · cases e : st p with
    | none => rfl
    | some o =>
      rcases r.dom p (by rw [e]; simp) with z | z
      · exact absurd rfl z.2
      · rw [hg] at z; cases z
theorem Rel.unhold (r : Rel (C.hold p u) σd st σ H) (hp : C.G p = none) : Rel C σd st σ H := by
  refine ⟨r.len, r.sl, r.dist, fun i a h => ⟨?_, (r.new i a h).2⟩, r.sh, fun a h => ?_, fun a o e1 e2 e3 => ?_, fun a h => ?_, r.tb⟩
  · have q : upd C.G p u a = none := (r.new i a h).1
    by_cases n : a = p
    · rw [n]; exact hp
    · rw [upd_ne n] at q; exact q
  · rcases r.dom a h with z | z
    · exact .inl z.1
    · have q : upd C.G p u a = none := z
      by_cases n : a = p
      · rw [n]; exact .inr hp
      · rw [upd_ne n] at q; exact .inr q
  · have n : a ≠ p := fun z => by rw [z, hp] at e1; cases e1
    exact r.fr a o (show upd C.G p u a = some o by rw [upd_ne n]; exact e1) (fun z => e2 z.1) e3
  · have n : a ≠ p := fun z => by rw [z] at h; exact h hp
    exact r.th a (show upd C.G p u a ≠ none by rw [upd_ne n]; exact h)
theorem Ctx.hold {X : Cx} (cx : Ctx X C) (hp : C.G p = none) : Ctx X (C.hold p u) := by
  obtain ⟨W, tk, link⟩ := cx.tk
  exact ⟨cx.K, cx.w, cx.calm, cx.nd, cx.hu, W, tk, fun cls d σ H x σd st r hx he => link cls d σ H x σd st (r.unhold hp) hx he⟩
end
/-- an element: a value held for good, or a new thing -/
inductive El where
  | v (t : TED) | w (t : TNW)
def evEls : List El → XD → En → Sto → (List Sl → En → Sto → Prop) → Prop
  | [], _, σ, st, Q => Q [] σ st
  | .v t :: r, E, σ, st, Q => eFz t E σ st fun d σ1 st1 => evEls r E σ1 st1 fun xs σ2 st2 => Q (.val d :: xs) σ2 st2
  | .w t :: r, E, σ, st, Q => t E σ st fun x σ1 st1 => evEls r E σ1 st1 fun xs σ2 st2 => Q (x :: xs) σ2 st2
/-- what the elements came to -/
inductive ResEl (K : PySem.W.Frag) (G : Hp) (H : Hp) (σd : En) (σ : VS) (st : Sto) : List Addr → List Sl → List V → Prop where
  | nil {as} : ResEl K G H σd σ st as [] []
  | v {as d v xs vs} (h : Den K H d v) (t : ResEl K G H σd σ st as xs vs) : ResEl K G H σd σ st as (.val d :: xs) (v :: vs)
  | w {as x p xs vs} (ho : x.owns = true) (h : SlOk K H x (some (.ref p))) (n : p ∉ as) (no : ∀ i, ¬ Owns σd σ i p) (sp : st p = none) (gp : G p = none) (t : ResEl K G H σd σ st (p :: as) xs vs) : ResEl K G H σd σ st as (x :: xs) (.ref p :: vs)
def embEls (C : DC) (els : List El) : TA := fun σ H Q => ∃ σd st Qd, Rel C σd st σ H ∧ evEls els C.E σd st Qd ∧
  ∀ vs H' xs σd' st', Rel C σd' st' σ H' → ResEl C.K C.G H' σd' σ st' [] xs vs → xs.length = els.length → Keep H H' → Qd xs σd' st' → Q vs H'
/-- in any context -/
def DVE (X : Cx) (K : PySem.W.Frag) (T : List (Addr × Str)) (e : Expr) (t : TED) : Prop := ∀ C, Ctx X C → C.K = K → C.T = T → DE X C e t
def DVW (X : Cx) (K : PySem.W.Frag) (T : List (Addr × Str)) (e : Expr) (t : TNW) : Prop := ∀ C, Ctx X C → C.K = K → C.T = T → DNw X C e t
def DEls (X : Cx) (K : PySem.W.Frag) (T : List (Addr × Str)) (es : List Expr) (els : List El) : Prop := ∀ C, Ctx X C → C.K = K → C.T = T → PA X es (embEls C els)
section
variable {X : Cx} {K : PySem.W.Frag} {T : List (Addr × Str)} {e : Expr} {es : List Expr} {els : List El}
theorem els_nil : DEls X K T [] [] := fun C cx hK hT => ⟨fun pos pins s σ H Q I q => pa_nil.run pos pins s σ H Q I (by
  obtain ⟨σd, st, Qd, r, ht, k⟩ := q
  exact k [] H [] σd st r .nil rfl (Keep.refl H) ht)⟩
def anyEls (X : Cx) (K : PySem.W.Frag) (T : List (Addr × Str)) (els : List El) : TA := fun σ H Q => ∃ C, Ctx X C ∧ C.K = K ∧ C.T = T ∧ embEls C els σ H Q
theorem els_any (h : DEls X K T es els) : PA X es (anyEls X K T els) := ⟨fun pos pins s σ H Q I q => by
  obtain ⟨C, cx, hK, hT, q⟩ := q
  exact (h C cx hK hT).run pos pins s σ H Q I q⟩
theorem ResEl.sub {G G' : Hp} {H : Hp} {σd : En} {σ : VS} {st : Sto} (hG : ∀ a, G' a = none → G a = none) : ∀ {as as' : List Addr} {xs : List Sl} {vs : List V}, ResEl K G' H σd σ st as xs vs → (∀ a, a ∈ as' → a ∈ as ∨ G' a ≠ none) → ResEl K G H σd σ st as' xs vs
  | _, _, _, _, .nil, _ => .nil
  | _, _, _, _, .v h t, hs => .v h (ResEl.sub hG t hs)
  | as, as', _, _, .w ho h n no sp gp t, hs => .w ho h (fun z => by rcases hs _ z with q | q; exact n q; exact q gp) no sp (hG _ gp) (ResEl.sub hG t fun a ha => by
    rcases List.mem_cons.mp ha with rfl | ha
    · exact .inl (by simp)
    · rcases hs _ ha with q | q
      · exact .inl (by simp [q])
      · exact .inr q)
theorem els_v {t : TED} (he : DVE X K T e t) (hr : DEls X K T es els) (hs : starEach (e :: es) X.env = (false, eval e X.env) :: starEach es X.env := by rfl) : DEls X K T (e :: es) (.v t :: els) := fun C cx hK hT => ⟨fun pos pins s σ H Q I q => (pa_cons (de_fzD (he C cx hK hT)) (els_any hr) hs).run pos pins s σ H Q I (by
  obtain ⟨σd, st, Qd, r, ht, k⟩ := q
  have ht' : eFz t C.E σd st (fun d σ1 st1 => evEls els C.E σ1 st1 fun xs σ2 st2 => Qd (.val d :: xs) σ2 st2) := ht
  refine ⟨σd, st, _, r, ht', fun v H1 d σ1 st1 r1 h1 k1 q => ⟨C, cx, hK, hT, σ1, st1, _, r1, q, fun vs H2 xs σ2 st2 r2 l lx k2 q => ?_⟩⟩
  exact k _ H2 _ σ2 st2 r2 (.v (h1.keep k2) l) (by simp [lx]) (k1.trans k2) q)⟩
theorem owns_fable {K : PySem.W.Frag} {H : Hp} {x : Sl} {p : Addr} {u : HO} (ho : x.owns = true) (e : H p = some u) (h : SlOk K H x (some (.ref p))) : ∀ ps, u ≠ .tbl ps := by
  obtain ⟨w, e1, _, n⟩ := SlOk.some h ho
  rw [e] at e1; cases e1; exact n
theorem els_w {t : TNW} (he : DVW X K T e t) (hr : DEls X K T es els) (hs : starEach (e :: es) X.env = (false, eval e X.env) :: starEach es X.env := by rfl) : DEls X K T (e :: es) (.w t :: els) := fun C cx hK hT => ⟨fun pos pins s σ H Q I q => (pa_cons (he C cx hK hT) (els_any hr) hs).run pos pins s σ H Q I (by
  obtain ⟨σd, st, Qd, r, ht, k⟩ := q
  have ht' : t C.E σd st (fun x σ1 st1 => evEls els C.E σ1 st1 fun xs σ2 st2 => Qd (x :: xs) σ2 st2) := ht
  refine ⟨σd, st, _, r, ht', fun v H1 n => ?_⟩
  obtain ⟨p, u, x, σ1, st1, rfl, ho, hp, fb, l, r1, no, sp, gp, k1, q⟩ := n.ex
  have nt := owns_fable ho hp l
  refine ⟨C.hold p u, cx.hold gp, hK, hT, σ1, st1, _, r1.held nt hp no sp, q, fun vs H2 xs σ2 st2 r2 l2 lx k2 q => ?_⟩
  obtain ⟨hp2, no2, sp2⟩ := r2.hold_at nt
  refine k _ H2 _ σ2 st2 (r2.unhold gp) (.w ho (l.keep k2 fun a _ ea => ?_) (by simp) no2 sp2 gp (l2.sub (fun a ha => ?_) fun a ha => ?_)) (by simp [lx]) (k1.trans k2) q
  · cases ea; rw [hp2, hp]
  · have ha : upd C.G p u a = none := ha
    by_cases n : a = p
    · rw [n]; exact gp
    · rw [upd_ne n] at ha; exact ha
  · have e : a = p := by simpa using ha
    refine .inr ?_
    show upd C.G p u a ≠ none
    rw [e, upd_same]; simp)⟩
end
/-- the slots are given -/
def setAll : En → List Nat → List Sl → En
  | σ, i :: is, x :: xs => setAll (σ.set i x) is xs
  | σ, _, _ => σ
def setAllV : VS → List Nat → List V → VS
  | σ, i :: is, v :: vs => setAllV (σ.set i (some v)) is vs
  | σ, _, _ => σ
theorem setAll_len : ∀ (is : List Nat) (σ : En) (xs : List Sl), (setAll σ is xs).length = σ.length
  | [], σ, xs => by cases xs <;> rfl
  | i :: is, σ, [] => rfl
  | i :: is, σ, x :: xs => by unfold setAll; rw [setAll_len is]; simp
theorem ResEl.set {C : DC} {H : Hp} {st : Sto} : ∀ {is : List Nat} {as : List Addr} {xs : List Sl} {vs : List V} {σd : En} {σ : VS}, ResEl C.K C.G H σd σ st as xs vs → Rel C σd st σ H → (∀ i ∈ is, i < σd.length) →
    Rel C (setAll σd is xs) st (setAllV σ is vs) H
  | [], as, xs, vs, σd, σ, h, r, _ => by cases xs <;> cases vs <;> exact r
  | i :: is, as, _, _, σd, σ, .nil, r, _ => r
  | i :: is, as, _, _, σd, σ, @ResEl.v _ _ _ _ _ _ _ _ d v0 xs vs h t, r, hl => by
    have r1 := r.set i h
    refine ResEl.set (is := is) (as := as) ?_ r1 (fun j hj => by rw [List.length_set]; exact hl j (by simp [hj]))
    have ow : ∀ j b, Owns (σd.set i (.val d)) (σ.set i (some v0)) j b → Owns σd σ j b := fun j b ⟨y, e1, e2, e3⟩ => by
      rcases set_get e1 with ⟨_, rfl, _⟩ | ⟨n, e1⟩
      · cases e2
      · rw [List.getElem?_set_ne n] at e3
        exact ⟨y, e1, e2, e3⟩
    clear r1 hl
    induction t with
    | nil => exact .nil
    | v h _ ih => exact .v h ih
    | w ho h n no sp gp _ ih => exact .w ho h n (fun j hj => no j (ow j _ hj)) sp gp ih
  | i :: is, as, _, _, σd, σ, @ResEl.w _ _ _ _ _ _ _ _ x p xs vs ho h n no sp gp t, r, hl => by
    have hi : i < σd.length := hl i (by simp)
    obtain ⟨u, hp, lo, nt⟩ := SlOk.some h ho
    have ow : ∀ j b, Owns (σd.set i x) (σ.set i (some (.ref p))) j b → (j = i ∧ b = p) ∨ (j ≠ i ∧ Owns σd σ j b) := fun j b ⟨y, e1, e2, e3⟩ => by
      rcases set_get e1 with ⟨rfl, rfl, _⟩ | ⟨n, e1⟩
      · rw [List.getElem?_set_self (by rw [← r.len]; exact hi)] at e3
        cases e3
        exact .inl ⟨rfl, rfl⟩
      · rw [List.getElem?_set_ne n] at e3
        exact .inr ⟨Ne.symm n, y, e1, e2, e3⟩
    have r1 : Rel C (σd.set i x) st (σ.set i (some (.ref p))) H := by
      refine ⟨by simp [r.len], fun j y ej => ?_, fun j k b h1 h2 => ?_, fun j b h => ?_, r.sh, r.dom, r.fr, r.th, r.tb⟩
      · rcases set_get ej with ⟨rfl, rfl, _⟩ | ⟨n, ej⟩
        · rw [List.getElem?_set_self (by rw [← r.len]; exact hi)]; exact h
        · rw [List.getElem?_set_ne n]; exact r.sl j y ej
      · rcases ow j b h1 with ⟨rfl, rfl⟩ | ⟨n1, q1⟩
        · rcases ow k b h2 with ⟨rfl, _⟩ | ⟨_, q2⟩
          · rfl
          · exact absurd q2 (no k)
        · rcases ow k b h2 with ⟨rfl, rfl⟩ | ⟨_, q2⟩
          · exact absurd q1 (no j)
          · exact r.dist j k b q1 q2
      · rcases ow j b h with ⟨_, rfl⟩ | ⟨_, q⟩
        · exact ⟨gp, sp⟩
        · exact r.new j b q
    refine ResEl.set (is := is) (as := p :: as) ?_ r1 (fun j hj => by rw [List.length_set]; exact hl j (by simp [hj]))
    have key : ∀ {bs : List Addr} {xs : List Sl} {vs : List V}, ResEl C.K C.G H σd σ st bs xs vs → p ∈ bs → ResEl C.K C.G H (σd.set i x) (σ.set i (some (.ref p))) st bs xs vs := by
      intro bs xs vs t
      induction t with
      | nil => exact fun _ => .nil
      | v h _ ih => exact fun hb => .v h (ih hb)
      | w ho h n2 no sp gp _ ih =>
        exact fun hb => .w ho h n2 (fun j hj => by
          rcases ow j _ hj with ⟨_, e⟩ | ⟨_, z⟩
          · exact n2 (by rw [e]; exact hb)
          · exact no j z) sp gp (ih (List.mem_cons_of_mem _ hb))
    exact key t (by simp)
theorem ResEl.len {K : PySem.W.Frag} {G H : Hp} {σd : En} {σ : VS} {st : Sto} {as : List Addr} {xs : List Sl} {vs : List V} (m : ResEl K G H σd σ st as xs vs) : xs.length = vs.length := by
  induction m with
  | nil => rfl
  | v _ _ ih => simp [ih]
  | w _ _ _ _ _ _ _ ih => simp [ih]
def sPars (is : List Nat) (els : List El) : TSD := fun E D σ st => evEls els E σ st fun xs σ1 st1 => (∀ i ∈ is, i < σ1.length) ∧ D.nx (setAll σ1 is xs) st1
section
variable {X : Cx} {C : DC} {pos : Pos}
theorem ds_par2 {i j : Nat} {x y : Str} {a b : Expr} {ta tb : El} {px py pt : Pos} {kt k2 : Nat} {pt2 : Pos} (cx : Ctx X C) (hi : X.N[i]? = some x) (hj : X.N[j]? = some y) (hij : i ≠ j)
    (hx : X.env.scope.names.lookup x = some .local) (hy : X.env.scope.names.lookup y = some .local) (h : DEls X C.K C.T [a, b] [ta, tb])
    (hw : swappedStores [.Tuple [.Name x px, .Name y py] kt pt] (.Tuple [a, b] k2 pt2) X.env = pure (some [x, y]) := by rfl)
    (hs : swapsWithSole [.Tuple [.Name x px, .Name y py] kt pt] (.Tuple [a, b] k2 pt2) pos.line X.env = pure false := by rfl) :
    DS X C (.Assign [.Tuple [.Name x px, .Name y py] kt pt] (.Tuple [a, b] k2 pt2) pos) (sPars [i, j] [ta, tb]) :=
  DS.imp (ps_par cx.calm cx.nd hi hj hij hx hy (h C cx rfl rfl) hw hs) fun D σ H q => by
    obtain ⟨σd, st, Dd, r, ht, l⟩ := q
    have ht' : evEls [ta, tb] C.E σd st fun xs σ1 st1 => (∀ z ∈ [i, j], z < σ1.length) ∧ Dd.nx (setAll σ1 [i, j] xs) st1 := ht
    refine ⟨σd, st, _, r, ht', fun vs H' xs σ1 st1 r1 m lx k q => ?_⟩
    obtain ⟨hlt, q⟩ := q
    have r2 := ResEl.set (is := [i, j]) m r1 hlt
    have lv := m.len.symm.trans lx
    match vs, lv with
    | [v, w], _ => exact ⟨v, w, rfl, l.nx _ H' _ st1 r2 k q⟩
theorem ds_par3 {i j n : Nat} {x y z : Str} {a b c : Expr} {ta tb tc : El} {px py pz pt : Pos} {kt k2 : Nat} {pt2 : Pos} (cx : Ctx X C) (hi : X.N[i]? = some x) (hj : X.N[j]? = some y) (hn : X.N[n]? = some z) (hij : i ≠ j) (hin : i ≠ n) (hjn : j ≠ n)
    (hx : X.env.scope.names.lookup x = some .local) (hy : X.env.scope.names.lookup y = some .local) (hz : X.env.scope.names.lookup z = some .local) (h : DEls X C.K C.T [a, b, c] [ta, tb, tc])
    (hw : swappedStores [.Tuple [.Name x px, .Name y py, .Name z pz] kt pt] (.Tuple [a, b, c] k2 pt2) X.env = pure (some [x, y, z]) := by rfl)
    (hs : swapsWithSole [.Tuple [.Name x px, .Name y py, .Name z pz] kt pt] (.Tuple [a, b, c] k2 pt2) pos.line X.env = pure false := by rfl) :
    DS X C (.Assign [.Tuple [.Name x px, .Name y py, .Name z pz] kt pt] (.Tuple [a, b, c] k2 pt2) pos) (sPars [i, j, n] [ta, tb, tc]) :=
  DS.imp (ps_par3 cx.calm cx.nd hi hj hn hij hin hjn hx hy hz (h C cx rfl rfl) hw hs) fun D σ H q => by
    obtain ⟨σd, st, Dd, r, ht, l⟩ := q
    have ht' : evEls [ta, tb, tc] C.E σd st fun xs σ1 st1 => (∀ z ∈ [i, j, n], z < σ1.length) ∧ Dd.nx (setAll σ1 [i, j, n] xs) st1 := ht
    refine ⟨σd, st, _, r, ht', fun vs H' xs σ1 st1 r1 m lx k q => ?_⟩
    obtain ⟨hlt, q⟩ := q
    have r2 := ResEl.set (is := [i, j, n]) m r1 hlt
    have lv := m.len.symm.trans lx
    match vs, lv with
    | [u, v, w], _ => exact ⟨u, v, w, rfl, l.nx _ H' _ st1 r2 k q⟩
end
end DL

set_option Elab.async false
set_option linter.all false
set_option maxRecDepth 100000
namespace DL
open PySem PySem.Spec PyProof.Rows L2
variable [WW]
/-! ### lists that are changed in place -/
def lstS : Option Sl → Option (List D)
  | some (.ol ds) => some ds
  | _ => none
def lstO : Option SO → Option (List D)
  | some (.lst ds) => some ds
  | _ => none
def lstAt (σ : En) (st : Sto) : D → Option (List D)
  | .own i => lstS σ[i]?
  | .ref a => lstO (st a)
  | _ => none
def setL (σ : En) (st : Sto) (o : D) (ds : List D) (Q : En → Sto → Prop) : Prop := match o with
  | .own i => Q (σ.set i (.ol ds)) st
  | .ref a => Q σ (supd st a (.lst ds))
  | _ => False
section
variable {X : Cx} {C : DC} {σd : En} {st : Sto} {σ : VS} {H : Hp} {o : D} {v : V} {ds : List D}
theorem lstAt_ok (r : Rel C σd st σ H) (h : DenT C.K σ H o v) (e : lstAt σd st o = some ds) : ∃ a vs, v = .ref a ∧ H a = some (.lst vs) ∧ DenL C.K H ds vs ∧
    ∀ ds' vs' Q, DenL C.K H ds' vs' → setL σd st o ds' Q → ∃ σd' st', Rel C σd' st' σ (upd H a (.lst vs')) ∧ Keep H (upd H a (.lst vs')) ∧ Q σd' st' := by
  cases o <;> first | (cases e; done) | skip
  · rename_i a
    cases h with
    | ref =>
    have e : lstO (st a) = some ds := e
    cases es : st a with
    | none => rw [es] at e; cases e
    | some so =>
      rw [es] at e
      cases so <;> first | (cases e; done) | skip
      cases e
      obtain ⟨vs, e2, h1⟩ := r.sh a _ es
      refine ⟨a, vs, rfl, e2, h1, fun ds' vs' Q l q => ?_⟩
      have kp : Keep H (upd H a (.lst vs')) := Keep.put (by rw [e2]; exact Fable.loose (u := .lst vs) trivial)
      obtain ⟨r', k'⟩ := r.updSh (o' := .lst ds') (u := .lst vs') es ⟨vs', upd_same, l.keep kp⟩
      exact ⟨_, _, r', k', q⟩
  · rename_i i
    have h' : σ[i]? = some (some v) := h
    have e : lstS σd[i]? = some ds := e
    cases es : σd[i]? with
    | none => rw [es] at e; cases e
    | some so =>
      rw [es] at e
      cases so <;> first | (cases e; done) | skip
      cases e
      have z := r.sl i _ es
      rw [h'] at z
      obtain ⟨a, vs, e1, e2, h1⟩ := z
      cases e1
      refine ⟨a, vs, rfl, e2, h1, fun ds' vs' Q l q => ?_⟩
      have kp : Keep H (upd H a (.lst vs')) := Keep.put (by rw [e2]; exact Fable.loose (u := .lst vs) trivial)
      obtain ⟨r', k'⟩ := r.updOwn (x := .ol ds') (u := .lst vs') ⟨_, es, rfl, h'⟩ ⟨a, vs', rfl, upd_same, l.keep kp⟩ rfl
      exact ⟨_, _, r', k', q⟩
def tyL : V → Hp → Prop := fun x H => ∃ a xs, x = .ref a ∧ H a = some (.lst xs)
theorem tyL_ok : TyOk X "list" tyL := by
  intro pins σ H s x v I r ty
  obtain ⟨a, xs, rfl, e⟩ := ty
  cases r
  obtain ⟨its, n, _, ho, _⟩ := I.lst e
  refine ⟨⟨_, ho, rfl⟩, fun b q => ?_⟩
  cases q
  exact ⟨_, ho, rfl⟩
/-- the datum that a name of its own, a shared thing is -/
theorem own_keep {K : PySem.W.Frag} {H' : Hp} {d : D} (h : DenT K σ H d v) (k : Keep H H') : DenT K σ H' d v := h.keep k
variable {e oe : Expr} {es : List Expr} {to te ti : TED} {apos cpos : Pos}
def isL (σ : En) (st : Sto) (o : D) : Prop := (lstAt σ st o).isSome = true
theorem isL_ty (r : Rel C σd st σ H) (h : DenT C.K σ H o v) (e : isL σd st o) : tyL v H := by
  obtain ⟨ds, e⟩ := Option.isSome_iff_exists.mp e
  obtain ⟨a, vs, rfl, e2, _⟩ := lstAt_ok r h e
  exact ⟨a, vs, rfl, e2⟩
def md (id : String) : Prop := typeOf (.builtin id) = pure (.type "method_descriptor")
theorem md_append : md "list.append" := by show builtinType _ = _; rw [builtinType_eq_fast]; kernel_rfl
theorem md_pop : md "list.pop" := by show builtinType _ = _; rw [builtinType_eq_fast]; kernel_rfl
theorem md_extend : md "list.extend" := by show builtinType _ = _; rw [builtinType_eq_fast]; kernel_rfl
theorem md_insert : md "list.insert" := by show builtinType _ = _; rw [builtinType_eq_fast]; kernel_rfl
theorem md_lindex : md "list.index" := by show builtinType _ = _; rw [builtinType_eq_fast]; kernel_rfl
theorem md_tindex : md "tuple.index" := by show builtinType _ = _; rw [builtinType_eq_fast]; kernel_rfl
theorem md_sindex : md "str.index" := by show builtinType _ = _; rw [builtinType_eq_fast]; kernel_rfl
theorem md_join : md "str.join" := by show builtinType _ = _; rw [builtinType_eq_fast]; kernel_rfl
/-! x.append(e) -/
def onL (σ : En) (st : Sto) (o : D) (Q : List D → Prop) : Prop := match lstAt σ st o with
  | some ds => Q ds
  | none => False
theorem onL_ex {Q : List D → Prop} (h : onL σd st o Q) : ∃ ds, lstAt σd st o = some ds ∧ Q ds := by
  unfold onL at h
  cases e : lstAt σd st o with
  | none => rw [e] at h; exact h.elim
  | some ds => rw [e] at h; exact ⟨ds, rfl, h⟩
def eAppend (to te : TED) : TED := fun E σ st Q => to E σ st fun o σ1 st1 => isL σ1 st1 o ∧ eFz te E σ1 st1 fun d σ2 st2 => onL σ2 st2 o fun ds => ds.length < sizeLine ∧ setL σ2 st2 o (ds ++ [d]) fun σ3 st3 => Q .non σ3 st3
theorem de_append (ho : DE X C oe to) (he : DE X C e te) (hbase : attributeBase oe "append" X.env (eval oe X.env) = eval oe X.env := by rfl)
    (hfew : ((backTo cpos (starEach [e] X.env)).all (fun x => !x.1) && (backToKw cpos (keywordEach [] X.env)).all (fun x => x.1.isSome)
      && decide ([e].length + ([] : List Keyword).length + (if ([] : List Keyword).isEmpty then 0 else 1) < 30)) = true := by rfl)
    (hline : (apos.endLine == cpos.line) = true := by rfl) (hs : starEach [e] X.env = (false, eval e X.env) :: starEach [] X.env := by rfl) (hplain : (backTo cpos (starEach [] X.env)).any (·.1) = false := by rfl) :
    DE X C (.Call (.Attribute oe "append" apos) [e] [] cpos) (eAppend to te) :=
  DE.imp (pe_mG tyL_ok F.plainAttrs_list F.slot_list_append md_append mt_append ho (pa_cons (de_fzD he) pa_nil hs) hbase hfew hline hs hplain) fun σ H Q q => by
    obtain ⟨σd, st, Qd, r, ht, k⟩ := q
    refine ⟨σd, st, _, r, ht, fun v H1 o σ1 st1 r1 h1 k1 q => ⟨isL_ty r1 h1 q.1, σ1, st1, _, r1, q.2, fun y H2 d σ2 st2 r2 h2 k2 q => ?_⟩⟩
    obtain ⟨ds, e, hz, q⟩ := onL_ex q
    obtain ⟨a, vs, rfl, e2, l, w⟩ := lstAt_ok r2 (h1.keep k2) e
    obtain ⟨σ3, st3, r3, k3, q⟩ := w _ _ _ (l.append (DenL.cons h2 DenL.nil)) q
    exact ⟨a, vs, y, rfl, rfl, e2, by rw [← l.1]; exact hz, k _ _ _ σ3 st3 r3 (.of .non) (k1.trans (k2.trans k3)) q⟩
/-! x.pop(), x.pop(i) -/
def ePop (to : TED) : TED := fun E σ st Q => to E σ st fun o σ1 st1 => isL σ1 st1 o ∧ onL σ1 st1 o fun ds => ∃ d, ds[ds.length - 1]? = some d ∧ setL σ1 st1 o ds.dropLast fun σ3 st3 => Q d σ3 st3
theorem DenL.dropLast {K : PySem.W.Frag} {ds : List D} {vs : List V} (h : DenL K H ds vs) : DenL K H ds.dropLast vs.dropLast := by
  rw [List.dropLast_eq_take, List.dropLast_eq_take, ← h.1]
  exact h.take _
theorem DenL.eraseIdx {K : PySem.W.Frag} : ∀ {ds : List D} {vs : List V} (i : Nat), DenL K H ds vs → DenL K H (ds.eraseIdx i) (vs.eraseIdx i)
  | [], vs, i, h => by cases h.of_nil; exact h
  | d :: ds, vs, 0, h => by
    obtain ⟨v, r, rfl, h1, h2⟩ := h.of_cons
    exact h2
  | d :: ds, vs, i + 1, h => by
    obtain ⟨v, r, rfl, h1, h2⟩ := h.of_cons
    exact DenL.cons h1 (DenL.eraseIdx i h2)
theorem de_pop (ho : DE X C oe to) (hbase : attributeBase oe "pop" X.env (eval oe X.env) = eval oe X.env := by rfl) (hline : (apos.endLine == cpos.line) = true := by rfl) :
    DE X C (.Call (.Attribute oe "pop" apos) [] [] cpos) (ePop to) :=
  DE.imp (pe_mG0 tyL_ok F.plainAttrs_list F.slot_list_pop md_pop mt_pop ho hbase hline) fun σ H Q q => by
    obtain ⟨σd, st, Qd, r, ht, k⟩ := q
    refine ⟨σd, st, _, r, ht, fun v H1 o σ1 st1 r1 h1 k1 q => ⟨isL_ty r1 h1 q.1, ?_⟩⟩
    obtain ⟨ds, e, d, ed, q⟩ := onL_ex q.2
    obtain ⟨a, vs, rfl, e2, l, w⟩ := lstAt_ok r1 h1 e
    obtain ⟨y, ey, hy⟩ := l.get ed
    obtain ⟨σ3, st3, r3, k3, q⟩ := w _ _ _ l.dropLast q
    exact ⟨a, vs, y, rfl, rfl, e2, by rw [← l.1]; exact ey, k _ _ _ σ3 st3 r3 (.of (hy.keep k3)) (k1.trans k3) q⟩
def ePopAt (to te : TED) : TED := fun E σ st Q => to E σ st fun o σ1 st1 => isL σ1 st1 o ∧ eFz te E σ1 st1 fun i σ2 st2 => match i with
  | .int i => -16777216 ≤ i ∧ i ≤ 16777216 ∧ onL σ2 st2 o fun ds => ∃ j d, ixN ds.length i = some j ∧ ds[j]? = some d ∧ setL σ2 st2 o (ds.eraseIdx j) fun σ3 st3 => Q d σ3 st3
  | _ => False
theorem de_popAt (ho : DE X C oe to) (he : DE X C e te) (hbase : attributeBase oe "pop" X.env (eval oe X.env) = eval oe X.env := by rfl)
    (hfew : ((backTo cpos (starEach [e] X.env)).all (fun x => !x.1) && (backToKw cpos (keywordEach [] X.env)).all (fun x => x.1.isSome)
      && decide ([e].length + ([] : List Keyword).length + (if ([] : List Keyword).isEmpty then 0 else 1) < 30)) = true := by rfl)
    (hline : (apos.endLine == cpos.line) = true := by rfl) (hs : starEach [e] X.env = (false, eval e X.env) :: starEach [] X.env := by rfl) (hplain : (backTo cpos (starEach [] X.env)).any (·.1) = false := by rfl) :
    DE X C (.Call (.Attribute oe "pop" apos) [e] [] cpos) (ePopAt to te) :=
  DE.imp (pe_mG tyL_ok F.plainAttrs_list F.slot_list_pop md_pop mt_popAt ho (pa_cons (de_fzD he) pa_nil hs) hbase hfew hline hs hplain) fun σ H Q q => by
    obtain ⟨σd, st, Qd, r, ht, k⟩ := q
    refine ⟨σd, st, _, r, ht, fun v H1 o σ1 st1 r1 h1 k1 q => ⟨isL_ty r1 h1 q.1, σ1, st1, _, r1, q.2, fun y H2 d σ2 st2 r2 h2 k2 q => ?_⟩⟩
    cases d <;> first | exact q.elim | skip
    rename_i i
    obtain ⟨z1, z2, q⟩ := q
    obtain ⟨ds, e, j, d, ej, ed, q⟩ := onL_ex q
    obtain ⟨a, vs, rfl, e2, l, w⟩ := lstAt_ok r2 (h1.keep k2) e
    cases h2
    obtain ⟨y, ey, hy⟩ := l.get ed
    obtain ⟨σ3, st3, r3, k3, q⟩ := w _ _ _ (l.eraseIdx j) q
    rw [l.1] at ej
    obtain ⟨s1, s2, s3, s4⟩ := ixN_seq ej
    exact ⟨a, vs, i, j, y, rfl, rfl, e2, by omega, by omega, s1, ey, k _ _ _ σ3 st3 r3 (.of (hy.keep k3)) (k1.trans (k2.trans k3)) q⟩
/-! x.insert(i, e) -/
def eInsert (to ti te : TED) : TED := fun E σ st Q => to E σ st fun o σ1 st1 => isL σ1 st1 o ∧ aL [ti, te] E σ1 st1 fun ds σ2 st2 => match ds with
  | [.int i, d] => 0 ≤ i ∧ i ≤ 16777216 ∧ onL σ2 st2 o fun ds => ds.length < sizeLine ∧ setL σ2 st2 o (ds.take i.toNat ++ [d] ++ ds.drop i.toNat) fun σ3 st3 => Q .non σ3 st3
  | _ => False
theorem de_insert {ie : Expr} (ho : DE X C oe to) (ha : DAr X C [ie, e] [ti, te]) (hbase : attributeBase oe "insert" X.env (eval oe X.env) = eval oe X.env := by rfl)
    (hfew : ((backTo cpos (starEach [ie, e] X.env)).all (fun x => !x.1) && (backToKw cpos (keywordEach [] X.env)).all (fun x => x.1.isSome)
      && decide ([ie, e].length + ([] : List Keyword).length + (if ([] : List Keyword).isEmpty then 0 else 1) < 30)) = true := by rfl)
    (hline : (apos.endLine == cpos.line) = true := by rfl) (hs : starEach [ie, e] X.env = (false, eval ie X.env) :: starEach [e] X.env := by rfl) (hplain : (backTo cpos (starEach [e] X.env)).any (·.1) = false := by rfl) :
    DE X C (.Call (.Attribute oe "insert" apos) [ie, e] [] cpos) (eInsert to ti te) :=
  DE.imp (pe_mG tyL_ok F.plainAttrs_list F.slot_list_insert md_insert mt_insert ho ha hbase hfew hline hs hplain) fun σ H Q q => by
    obtain ⟨σd, st, Qd, r, ht, k⟩ := q
    refine ⟨σd, st, _, r, ht, fun v H1 o σ1 st1 r1 h1 k1 q => ⟨isL_ty r1 h1 q.1, σ1, st1, _, r1, q.2, fun ys H2 as σ2 st2 r2 l2 z2 k2 q => ?_⟩⟩
    match as, z2, l2 with
    | [.int i, a2], _, l2 =>
      obtain ⟨b0, b1, q⟩ := q
      obtain ⟨ds, e, hz, q⟩ := onL_ex q
      obtain ⟨a, vs, rfl, e2, l, w⟩ := lstAt_ok r2 (h1.keep k2) e
      obtain ⟨w1, r3, rfl, y1, l3⟩ := l2.of_cons
      obtain ⟨w2, r4, rfl, y2, l4⟩ := l3.of_cons
      cases l4.of_nil
      cases y1
      obtain ⟨σ3, st3, r3, k3, q⟩ := w _ _ _ (((l.take i.toNat).append (DenL.cons y2 DenL.nil)).append (l.drop i.toNat)) q
      exact ⟨a, vs, i, w2, rfl, rfl, e2, by rw [← l.1]; exact hz, b0, by omega, k _ _ _ σ3 st3 r3 (.of .non) (k1.trans (k2.trans k3)) q⟩
/-! x.extend(e), of a list, of a tuple -/
theorem ext_tup (l : Addr) (items : Array Value) (n : Nat) (b : Addr) (items2 : Array Value) (n2 : Nat) (dd : Option Addr) (sl : Array (Option Value)) (hs0 : ¬(!items.isEmpty && Builtin.List.listTooLong (items.size + items2.size)) = true) (hs1 : items.size ≤ sizeLine) (hs2 : items.size + items2.size ≤ sizeLine + 1) :
    Meets (Builtin.«list.extend» ⟨[.ref l, .ref b], []⟩) (fun _ R s => s.heap.get? l = some { cls := .type "list", dict := none, data := .seq items n, slots := #[] } ∧ s.heap.get? b = some { cls := .type "tuple", dict := dd, data := .seq items2 n2, slots := sl } ∧ R (.ok (.ret Value.none)) { s with heap := s.heap.update l (Obj.mapSeq fun x => x ++ items2), toks := s.toks }) :=
  .of_wp fun prog w A R s h => by
    obtain ⟨hp, g, d, tk, os⟩ := s
    obtain ⟨hl, hb, h⟩ := h
    have f1 := AutoSeq1.idx_int
    have f2 := AutoSeq1.sub_tuple_tuple
    have f3 := AutoSeq1.sub_list_list
    have f4 := AutoSeq1.sub_tuple_list
    have f5 := AutoSeq1.sub_list_tuple
    have hz' : (items ++ items2).size ≤ sizeLine + 1 := by rw [Array.size_append]; exact hs2
    wp_walk using (PySem.wpAny_updateSeq hl rfl (hz := hs1) (_hz' := hz')), AutoSeq1.wpAny_loadPart' hl, AutoSeq1.wpAny_loadPart' hb
    exact ⟨_, rfl, h⟩
def rExtR (K : PySem.W.Frag) : V → List V → Hp → VK → Prop := fun x vs H Q => ∃ l b xs zs, x = .ref l ∧ vs = [.ref b] ∧ H l = some (.lst xs) ∧ (Rd H b (.lst zs) ∨ SqT K H b zs) ∧ xs.length + zs.length ≤ sizeLine ∧ Q .non (upd H l (.lst (xs ++ zs)))
theorem mt_extR : MtR X "list.extend" (rExtR X.K) := by
  intro pins s σ H x vs v us Q I rx rv h
  obtain ⟨l, b, xs, zs, rfl, rfl, hH, hB, hz, q⟩ := h
  cases rx
  obtain ⟨u, rfl, ru⟩ := rv.one
  cases ru
  obtain ⟨z, its, n, r, hl, e⟩ := I.lstM hH
  rcases hB with hB | hB
  · obtain ⟨_, its2, n2, r2, e2⟩ := hB.ok I.hok
    have hl2 := r2.length
    have hsz : its.toArray.size + its2.toArray.size ≤ sizeLine := by rw [List.size_toArray, List.size_toArray]; omega
    have hlong : ¬ (!its.toArray.isEmpty && Builtin.List.listTooLong (its.toArray.size + its2.toArray.size)) = true := by
      rw [notLongL hsz, Bool.and_false]
      exact Bool.false_ne_true
    refine call_meets F.slot_list_extend ⟨_, e, rfl⟩ F.entry_list_extend (F.args_list_extend_2 _ _)
      (AutoSeq1.list_extend_list_list_0 l its.toArray n b its2.toArray n2 hlong (by rw [List.size_toArray]; omega) (by omega)) ⟨e, e2, ?_⟩
    refine ⟨.non, _, I.lset (its' := its ++ its2) hH e (by simp) (r.append r2) ?_, rfl, q⟩
    rw [List.length_append]
    omega
  · obtain ⟨its2, r2, ⟨⟨cls, dd, data, sl⟩, ho, hc, n2, hd⟩, hz2⟩ := I.tuple hB
    simp only at hc hd
    subst hc hd
    have hl2 := r2.length
    have hsz : its.toArray.size + its2.toArray.size ≤ sizeLine := by rw [List.size_toArray, List.size_toArray]; omega
    have hlong : ¬ (!its.toArray.isEmpty && Builtin.List.listTooLong (its.toArray.size + its2.toArray.size)) = true := by
      rw [notLongL hsz, Bool.and_false]
      exact Bool.false_ne_true
    refine call_meets F.slot_list_extend ⟨_, e, rfl⟩ F.entry_list_extend (F.args_list_extend_2 _ _)
      (ext_tup l its.toArray n b its2.toArray n2 dd sl hlong (by rw [List.size_toArray]; omega) (by omega)) ⟨e, ho, ?_⟩
    refine ⟨.non, _, I.lset (its' := its ++ its2) hH e (by simp) (r.append r2) ?_, rfl, q⟩
    rw [List.length_append]
    omega
def seqD : D → Option (List D)
  | .lst ds => some ds
  | .tup ds => some ds
  | .kt ds => some ds
  | _ => none
def eExtend (to te : TED) : TED := fun E σ st Q => to E σ st fun o σ1 st1 => isL σ1 st1 o ∧ eFz te E σ1 st1 fun d σ2 st2 => ∃ es, seqD d = some es ∧ onL σ2 st2 o fun ds => ds.length + es.length ≤ sizeLine ∧ setL σ2 st2 o (ds ++ es) fun σ3 st3 => Q .non σ3 st3
theorem seqD_V {K : PySem.W.Frag} {d : D} {es : List D} {v : V} (e : seqD d = some es) (h : Den K H d v) : ∃ b zs, v = .ref b ∧ DenL K H es zs ∧ (Rd H b (.lst zs) ∨ SqT K H b zs) := by
  cases h <;> first | (cases e; done) | skip
  · cases e; rename_i a vs h l r; exact ⟨a, vs, rfl, ⟨l, r⟩, .inr h⟩
  · cases e; rename_i a vs h l r; exact ⟨a, vs, rfl, ⟨l, r⟩, .inr h.sqt⟩
  · cases e; rename_i a vs h l r; exact ⟨a, vs, rfl, ⟨l, r⟩, .inl (.inr h)⟩
theorem de_extend (cx : Ctx X C) (ho : DE X C oe to) (he : DE X C e te) (hbase : attributeBase oe "extend" X.env (eval oe X.env) = eval oe X.env := by rfl)
    (hfew : ((backTo cpos (starEach [e] X.env)).all (fun x => !x.1) && (backToKw cpos (keywordEach [] X.env)).all (fun x => x.1.isSome)
      && decide ([e].length + ([] : List Keyword).length + (if ([] : List Keyword).isEmpty then 0 else 1) < 30)) = true := by rfl)
    (hline : (apos.endLine == cpos.line) = true := by rfl) (hs : starEach [e] X.env = (false, eval e X.env) :: starEach [] X.env := by rfl) (hplain : (backTo cpos (starEach [] X.env)).any (·.1) = false := by rfl) :
    DE X C (.Call (.Attribute oe "extend" apos) [e] [] cpos) (eExtend to te) :=
  DE.imp (pe_mG tyL_ok F.plainAttrs_list F.slot_list_extend md_extend mt_extR ho (pa_cons (de_fzD he) pa_nil hs) hbase hfew hline hs hplain) fun σ H Q q => by
    obtain ⟨σd, st, Qd, r, ht, k⟩ := q
    refine ⟨σd, st, _, r, ht, fun v H1 o σ1 st1 r1 h1 k1 q => ⟨isL_ty r1 h1 q.1, σ1, st1, _, r1, q.2, fun y H2 d σ2 st2 r2 h2 k2 q => ?_⟩⟩
    obtain ⟨es, ee, q⟩ := q
    obtain ⟨ds, e, hz, q⟩ := onL_ex q
    obtain ⟨a, vs, rfl, e2, l, w⟩ := lstAt_ok r2 (h1.keep k2) e
    obtain ⟨b, zs, rfl, le, hB⟩ := seqD_V ee h2
    obtain ⟨σ3, st3, r3, k3, q⟩ := w _ _ _ (l.append le) q
    rw [← cx.K] at hB
    exact ⟨a, b, vs, zs, rfl, rfl, e2, hB, by rw [← l.1, ← le.1]; exact hz, k _ _ _ σ3 st3 r3 (.of .non) (k1.trans (k2.trans k3)) q⟩
end
end DL

set_option Elab.async false
set_option linter.all false
set_option maxRecDepth 100000
namespace DL
open PySem PySem.Spec PyProof.Rows L2
variable [WW]
/-! ### stores: x[i] = e, of a list, of a dict -/
def putKD {κ α : Type} [DecidableEq κ] (kvs : List (κ × α)) (k : κ) (d : α) : List (κ × α) := if (kvs.any fun p => decide (p.1 = k)) = true then kvs.map fun p => if p.1 = k then (p.1, d) else p else kvs ++ [(k, d)]
def putSl (k d : D) : Sl → Option Sl
  | .ol ds => match k with
    | .int n => (ixN ds.length n).map fun j => .ol (ds.set j d)
    | _ => none
  | .ok kvs => (keyK k).map fun key => .ok (putKD kvs key d)
  | .ot kvs => (keyS k).map fun key => .ot (putKD kvs key d)
  | _ => none
def soSl : SO → Sl
  | .lst ds => .ol ds
  | .dK kvs => .ok kvs
  | _ => .un
def slSo : Sl → SO
  | .ol ds => .lst ds
  | .ok kvs => .dK kvs
  | _ => .lst []
def slLen : Sl → Nat
  | .ol ds => ds.length
  | .ok kvs => kvs.length
  | .ot kvs => kvs.length
  | _ => 0
section
variable {X : Cx} {C : DC} {σd : En} {st : Sto} {σ : VS} {H : Hp} {o : D} {v : V} {K : PySem.W.Frag}
theorem PSet.or {t u : TSet} (h : PSet X t) (g : PSet X u) : PSet X (fun o i v H Q => t o i v H Q ∨ u o i v H Q) := by
  intro pins s σ H o i v ov iv u' Q I ro ri rv q
  rcases q with q | q
  · exact h pins s σ H o i v ov iv u' Q I ro ri rv q
  · exact g pins s σ H o i v ov iv u' Q I ro ri rv q
theorem any_keys {κ α β : Type} [DecidableEq κ] {ds : List (κ × α)} {vs : List (κ × β)} (k : κ) (h : ds.map (·.1) = vs.map (·.1)) : (ds.any fun p => decide (p.1 = k)) = vs.any fun p => decide (p.1 = k) := by
  have e1 : ∀ {γ : Type} (l : List (κ × γ)), (l.any fun p => decide (p.1 = k)) = (l.map (·.1)).any fun x => decide (x = k) := fun l => by rw [List.any_map]; rfl
  rw [e1, e1, h]
theorem DenKV.cons {κ : Type} {a : κ} {d : D} {v : V} {ds : List (κ × D)} {vs : List (κ × V)} (h : Den K H d v) (t : DenKV K H ds vs) : DenKV K H ((a, d) :: ds) ((a, v) :: vs) :=
  ⟨by simp [t.1], by simpa using DenL.cons h t.2⟩
theorem DenKV.of_cons {κ : Type} {p : κ × D} {ds : List (κ × D)} {vs : List (κ × V)} (h : DenKV K H (p :: ds) vs) : ∃ v r, vs = (p.1, v) :: r ∧ Den K H p.2 v ∧ DenKV K H ds r := by
  cases vs with
  | nil => exact absurd h.1 (by simp)
  | cons q r =>
    have h1 : p.1 = q.1 ∧ ds.map (·.1) = r.map (·.1) := by simpa using h.1
    obtain ⟨v, r', e, hd, hl⟩ := h.2.of_cons
    simp only [List.map_cons, List.cons.injEq] at e
    obtain ⟨rfl, rfl⟩ := e
    exact ⟨q.2, r, by rw [h1.1], hd, h1.2, hl⟩
theorem DenKV.of_nil {κ : Type} {vs : List (κ × V)} (h : DenKV K H ([] : List (κ × D)) vs) : vs = [] := List.map_eq_nil_iff.mp h.1.symm
theorem DenKV.app {κ : Type} : ∀ {ds es : List (κ × D)} {vs ws : List (κ × V)}, DenKV K H ds vs → DenKV K H es ws → DenKV K H (ds ++ es) (vs ++ ws) := fun {ds es vs ws} h t =>
  ⟨by simp [h.1, t.1], by simpa using h.2.append t.2⟩
theorem DenKV.put {κ : Type} [DecidableEq κ] {ds : List (κ × D)} {vs : List (κ × V)} {k : κ} {d : D} {v : V} (h : DenKV K H ds vs) (hd : Den K H d v) : DenKV K H (putKD ds k d) (putK vs k v) := by
  unfold putKD putK
  rw [any_keys k h.1]
  split
  · rename_i z
    clear z
    induction ds generalizing vs with
    | nil => cases h.of_nil; exact h
    | cons p ds ih =>
      obtain ⟨w, r, rfl, h1, h2⟩ := h.of_cons
      simp only [List.map_cons]
      by_cases e : p.1 = k
      · rw [if_pos e, if_pos e]; exact DenKV.cons hd (ih h2)
      · rw [if_neg e, if_neg e]; exact DenKV.cons (a := p.1) h1 (ih h2)
  · exact h.app (DenKV.cons hd DenKV.nil)
/-! a store into a dict with tuples as keys -/
def putX (xs : Ents) (vs : List V) (k : NK) (v : V) : List V := if (atKey xs k).isSome then List.zipWith (fun x w => if x.1 = k then v else w) xs vs else vs ++ [v]
theorem atKey_any {xs : Ents} {k : NK} : (atKey xs k).isSome = xs.any fun x => decide (x.1 = k) := by
  induction xs with
  | nil => rfl
  | cons x xs ih =>
    by_cases e : x.1 = k
    · simp [atKey, e]
    · simpa [atKey, e] using ih
theorem put_lists {k : NK} {d : D} {v : V} {u : Value} {b : Addr} (hd : Den K H d v) (rv : RelV v u) : ∀ {ds : List (NK × D)} {xs : Ents} {vs : List V}, ds.map (·.1) = xs.map (·.1) → Vals vs (xs.map fun x => x.2.2) → DenL K H (ds.map (·.2)) vs →
    (ds.map fun p => if p.1 = k then (p.1, d) else p).map (·.1) = (xs.map (putAt k u)).map (·.1) ∧ Vals (List.zipWith (fun x w => if x.1 = k then v else w) xs vs) ((xs.map (putAt k u)).map fun x => x.2.2) ∧ DenL K H ((ds.map fun p => if p.1 = k then (p.1, d) else p).map (·.2)) (List.zipWith (fun x w => if x.1 = k then v else w) xs vs)
  | [], xs, vs, l, lv, _ => by
    cases List.map_eq_nil_iff.mp l.symm
    cases lv
    exact ⟨rfl, .nil, DenL.nil⟩
  | p :: ds, [], vs, l, _, _ => absurd l (by simp)
  | p :: ds, x :: xs, vs, l, lv, r => by
    obtain ⟨l1, l2⟩ : p.1 = x.1 ∧ ds.map (·.1) = xs.map (·.1) := by simpa using l
    obtain ⟨w, ws, rfl, h1, h2⟩ := r.of_cons
    cases lv with
    | cons r1 r2 =>
      obtain ⟨i1, i2, i3⟩ := put_lists hd rv (b := b) l2 r2 h2
      simp only [List.map_cons, List.zipWith_cons_cons]
      by_cases e : x.1 = k
      · have e' : p.1 = k := l1.trans e
        rw [if_pos e, if_pos e']
        exact ⟨by simp only [putAt, e, if_true]; rw [e', i1], .cons (by simp only [putAt, e, if_true]; exact rv) i2, DenL.cons hd i3⟩
      · have e' : ¬ p.1 = k := fun z => e (l1.symm.trans z)
        rw [if_neg e, if_neg e']
        exact ⟨by simp only [putAt, e, if_false]; rw [l1, i1], .cons (by simp only [putAt, e, if_false]; exact r1) i2, DenL.cons h1 i3⟩
theorem vals_snoc {v : V} {u : Value} (r : RelV v u) : ∀ {vs : List V} {us : List Value}, Vals vs us → Vals (vs ++ [v]) (us ++ [u])
  | _, _, .nil => .cons r .nil
  | _, _, .cons a b => .cons a (vals_snoc r b)
theorem dtc_put {ds : List (NK × D)} {a b : Addr} {o o' : Obj} {xs : Ents} {vs : List V} {k : NK} {d : D} {v : V} {u : Value} (c : DTc K H ds a o xs vs) (hz : ds.length < sizeLine) (hd : Den K H d v) (rv : RelV v u) (hk : Den K H (ofNK k) (.ref b)) (hdp : k.depth ≤ 8)
    (ex : o'.ExactDict) (he : ∃ es ep, o'.data = .dict es ep ∧ es.toList = (storedH xs k b u).map entW) (nd : ((storedH xs k b u).map (·.1)).Nodup) : DTc K H (putKD ds k d) a o' (storedH xs k b u) (putX xs vs k v) := by
  have hl : xs.length = ds.length := by have := congrArg List.length c.l; simpa using this.symm
  have ha : (ds.any fun p => decide (p.1 = k)) = (atKey xs k).isSome := by
    rw [atKey_any]
    have := congrArg (fun l => l.any fun x => decide (x = k)) c.l
    simp only [List.any_map] at this
    exact this
  unfold putKD putX
  rw [ha]
  cases e : (atKey xs k).isSome with
  | true =>
    have es : storedH xs k b u = xs.map (putAt k u) := by unfold storedH; rw [if_pos e]
    rw [es] at he nd ⊢
    obtain ⟨i1, i2, i3⟩ := put_lists hd rv (b := b) c.l c.lv c.r
    have hm : ∀ y ∈ xs.map (putAt k u), ∃ x ∈ xs, y.1 = x.1 ∧ y.2.1 = x.2.1 := fun y hy => by
      obtain ⟨x, hx, rfl⟩ := List.mem_map.mp hy
      refine ⟨x, hx, ?_⟩
      unfold putAt
      split <;> exact ⟨rfl, rfl⟩
    simp only [if_true]
    refine ⟨⟨ex, he, nd, c.q.sm, fun y hy => ?_, by rw [List.length_map]; exact c.q.ln⟩, i1, i2, fun i y ey => ?_, i3⟩
    · obtain ⟨x, hx, e1, _⟩ := hm y hy
      rw [e1]; exact c.q.dp x hx
    · rw [List.getElem?_map] at ey
      obtain ⟨x, ex', rfl⟩ := Option.map_eq_some_iff.mp ey
      have z := c.rk i x ex'
      unfold putAt
      split <;> exact z
  | false =>
    have es : storedH xs k b u = xs ++ [(k, b, u)] := by unfold storedH; rw [if_neg (by rw [e]; exact Bool.false_ne_true)]
    rw [es] at he nd ⊢
    rw [if_neg Bool.false_ne_true, if_neg Bool.false_ne_true]
    refine ⟨⟨ex, he, nd, c.q.sm, fun y hy => ?_, by simp; omega⟩, by simp [c.l], by simpa using vals_snoc rv c.lv, fun i y ey => ?_, by simpa using c.r.append (DenL.cons hd DenL.nil)⟩
    · rcases List.mem_append.mp hy with z | z
      · exact c.q.dp y z
      · cases List.mem_singleton.mp z; exact hdp
    · by_cases hi : i < xs.length
      · rw [List.getElem?_append_left hi] at ey
        exact c.rk i y ey
      · rw [List.getElem?_append_right (by omega)] at ey
        obtain ⟨j, rfl⟩ : ∃ j, i = xs.length + j := ⟨i - xs.length, by omega⟩
        rw [Nat.add_sub_cancel_left] at ey
        cases j with
        | zero => simp at ey; subst ey; exact hk
        | succ j => simp at ey
def rSetX (K : PySem.W.Frag) : TSet := fun ov iv vv H Q => ∃ a o xs vs kvs dk k, ov = .ref a ∧ H a = some (exO a o) ∧ DTc K H kvs a o xs vs ∧ Red K H dk iv ∧ keyS dk = some k ∧ kvs.length < sizeLine ∧
  ∀ o' xs' vs', (∀ d, Den K H d vv → DTc K H (putKD kvs k d) a o' xs' vs') → Q (upd H a (exO a o'))
theorem set_dictX (hu : X.A.units + 100 < cLine) (ew : X.w = WW.w) : PSet X (rSetX X.K) := by
  intro pins s σ H ov iv vv o' i' u Q I ro ri rv q
  obtain ⟨a, o, xs, vs, kvs, dk, k, rfl, ha, c, hk, ek, hz, q⟩ := q
  obtain ⟨ed, ekT, hdp⟩ := keyS_of ek
  obtain ⟨b, rfl, rfl, hkey⟩ := key_is I hk ri ekT
  cases ro
  obtain ⟨hg, hm⟩ := dt_heap I ew (.inl ha) c
  have hdk : Den X.K H (ofNK k) (.ref b) := by
    rw [ed]
    cases dk <;> first | (cases ek; done) | exact hk
  refine wpAny_setItem_heap (roomX hu) hkey hm (fun h' hm' hs => ?_) c.q.ln
  obtain ⟨o2, es2, ep2, g2, ex2, d2, e2, _, nd2⟩ := hm'
  refine ⟨_, I.write (e := a) (o := exO a o2) (t' := s.toks + _) (by rw [ha]; trivial) (.inl rfl) (fun b' u' nb e => (hs.2 b' nb).trans e) ⟨_, g2⟩ ⟨g2, ⟨_, g2⟩, fun h1 h2 z1 z2 => z2 _ z1⟩, q o2 (storedH xs k b u) (putX xs vs k vv) fun d hd => ?_⟩
  exact dtc_put c hz hd rv hdk hdp ex2 ⟨es2, ep2, d2, by rw [ent_w ew]; exact e2⟩ nd2
/-- the write, by the thing that stands there -/
theorem putSl_ok {x y : Sl} {k d : D} {a : Addr} {vk vd : V} (hx : SlOk K H x (some (.ref a))) (e : putSl k d x = some y) (hz : slLen x < sizeLine) (hk : Red K H k vk) (hd : Den K H d vd) :
    y.owns = true ∧ ∀ Q : Hp → Prop, (∀ u, SlOk K (upd H a u) y (some (.ref a)) → Q (upd H a u)) → rSetL (.ref a) vk vd H Q ∨ rSetD (.ref a) vk vd H Q ∨ rSetX K (.ref a) vk vd H Q := by
  cases x <;> first | (cases e; done) | skip
  · rename_i ds
    obtain ⟨b, vs, e1, e2, l⟩ := hx
    cases e1
    unfold putSl at e
    cases k <;> first | (cases e; done) | skip
    rename_i n
    obtain ⟨j, ej, rfl⟩ := Option.map_eq_some_iff.mp e
    cases red_int hk
    have kp : Keep H (upd H a (.lst (vs.set j vd))) := Keep.put (by rw [e2]; exact Fable.loose (u := .lst vs) trivial)
    exact ⟨rfl, fun Q q => .inl ⟨a, vs, n, j, rfl, rfl, e2, by rw [← l.1]; exact ej, q _ ⟨a, _, rfl, upd_same, (l.set j hd).keep kp⟩⟩⟩
  · rename_i kvs
    obtain ⟨b, vs, e1, e2, l⟩ := hx
    cases e1
    obtain ⟨key, ek, rfl⟩ := Option.map_eq_some_iff.mp e
    cases keyK_V ek hk
    have kp : Keep H (upd H a (.dK (putK vs key vd))) := Keep.put (by rw [e2]; exact Fable.loose (u := .dK vs) trivial)
    have hl : vs.length = kvs.length := by have := congrArg List.length l.1; simpa using this.symm
    exact ⟨rfl, fun Q q => .inr (.inl ⟨a, _, rfl, .k e2 (by rw [hl]; exact hz), q _ ⟨a, _, rfl, upd_same, (l.put hd).keep kp⟩⟩)⟩
  · rename_i kvs
    obtain ⟨b, o, xs, vs, e1, e2, c⟩ := hx
    cases e1
    obtain ⟨key, ek, rfl⟩ := Option.map_eq_some_iff.mp e
    refine ⟨rfl, fun Q q => .inr (.inr ⟨a, o, xs, vs, kvs, k, key, rfl, e2, c, hk, ek, hz, fun o' xs' vs' w => q _ ?_⟩)⟩
    have kp : Keep H (upd H a (exO a o')) := Keep.put (by rw [e2]; exact Fable.loose (Fable.exO c.q))
    exact ⟨a, o', xs', vs', rfl, upd_same, (w d hd).keep kp⟩
theorem sok_sl {a : Addr} {x : SO} (h : SOk K H a x) : SlOk K H (soSl x) (some (.ref a)) := by
  cases x with
  | lst ds => obtain ⟨vs, e, l⟩ := h; exact ⟨a, vs, rfl, e, l⟩
  | dK ds => obtain ⟨vs, e, l⟩ := h; exact ⟨a, vs, rfl, e, l⟩
  | ins _ _ _ => trivial
def notT : Sl → Prop
  | .ot _ => False
  | .un => False
  | .val _ => False
  | _ => True
theorem sl_sok {a : Addr} {x : Sl} (h : SlOk K H x (some (.ref a))) (n : notT x) : SOk K H a (slSo x) := by
  cases x <;> first | exact n.elim | skip
  · obtain ⟨b, vs, e1, e2, l⟩ := h; cases e1; exact ⟨vs, e2, l⟩
  · obtain ⟨b, vs, e1, e2, l⟩ := h; cases e1; exact ⟨vs, e2, l⟩
def putS (σ : En) (st : Sto) (o k d : D) (Q : En → Sto → Prop) : Prop := match o with
  | .own i => ∃ x y, σ[i]? = some x ∧ putSl k d x = some y ∧ slLen x < sizeLine ∧ Q (σ.set i y) st
  | .ref a => ∃ x y, st a = some x ∧ putSl k d (soSl x) = some y ∧ slLen (soSl x) < sizeLine ∧ Q σ (supd st a (slSo y))
  | _ => False
theorem putS_ok {k d : D} {vk vd : V} {Q : En → Sto → Prop} (r : Rel C σd st σ H) (h : DenT C.K σ H o v) (hk : Red C.K H k vk) (hd : Den C.K H d vd) (q : putS σd st o k d Q) :
    ∀ Qv : Hp → Prop, (∀ H' σd' st', Rel C σd' st' σ H' → Keep H H' → Q σd' st' → Qv H') → rSetL v vk vd H Qv ∨ rSetD v vk vd H Qv ∨ rSetX C.K v vk vd H Qv := by
  intro Qv fin
  cases o <;> first | exact q.elim | skip
  · rename_i a
    cases h with
    | ref =>
    obtain ⟨x, y, ex, ey, hz, q⟩ := q
    obtain ⟨ho, w⟩ := putSl_ok (sok_sl (r.sh a x ex)) ey hz hk hd
    have nt : notT y := by
      cases x with
      | lst ds =>
        unfold soSl putSl at ey
        cases k <;> first | (cases ey; done) | skip
        obtain ⟨j, _, rfl⟩ := Option.map_eq_some_iff.mp ey
        trivial
      | dK ds =>
        obtain ⟨j, _, rfl⟩ := Option.map_eq_some_iff.mp (show (keyK k).map _ = some y from ey)
        trivial
      | ins _ _ _ => cases ey
    refine w Qv fun u hy => ?_
    obtain ⟨r', k'⟩ := r.updSh (o' := slSo y) (u := u) ex (sl_sok hy nt)
    exact fin _ _ _ r' k' q
  · rename_i i
    have h' : σ[i]? = some (some v) := h
    obtain ⟨x, y, ex, ey, hz, q⟩ := q
    have z := r.sl i _ ex
    rw [h'] at z
    have hx : x.owns = true := by
      cases x <;> first | rfl | (cases ey)
    obtain ⟨a, rfl⟩ : ∃ a, v = .ref a := by
      cases x with
      | un => cases hx
      | val d => cases hx
      | ol ds => obtain ⟨a, _, e, _⟩ := z; exact ⟨a, Option.some.inj e⟩
      | ok ds => obtain ⟨a, _, e, _⟩ := z; exact ⟨a, Option.some.inj e⟩
      | ot ds => obtain ⟨a, _, _, _, e, _⟩ := z; exact ⟨a, Option.some.inj e⟩
    obtain ⟨ho, w⟩ := putSl_ok (a := a) z ey hz hk hd
    refine w Qv fun u hy => ?_
    obtain ⟨r', k'⟩ := r.updOwn (x := y) (u := u) ⟨_, ex, hx, h'⟩ hy ho
    exact fin _ _ _ r' k' q
def sPut (te to ti : TED) : TSD := fun E D σ st => eFz te E σ st fun d σ1 st1 => to E σ1 st1 fun o σ2 st2 => eFz ti E σ2 st2 fun k σ3 st3 => putS σ3 st3 o k d D.nx
variable {e oe ie : Expr} {to te ti : TED} {pos p2 : Pos}
theorem ds_put (cx : Ctx X C) (he : DE X C e te) (ho : DE X C oe to) (hi : DE X C ie ti) (hs : swapsWithSole [.Subscript oe ie p2] e pos.line X.env = pure false := by rfl) (hw : swappedStores [.Subscript oe ie p2] e X.env = pure none := by rfl)
    (h1 : (assignEach [.Subscript oe ie p2] X.env).map (·.2) = [assign (.Subscript oe ie p2) X.env] := by rfl)
    (ha : ∀ v, assign (.Subscript oe ie p2) X.env v = (do
      let ov ← holding [v] (eval oe X.env)
      let iv ← holding [v, ov] (eval ie X.env)
      standAt p2
      holding [v, ov, iv] (setItem ov iv v)
      release [v, ov, iv] []) := by intro _; rfl) :
    DS X C (.Assign [.Subscript oe ie p2] e pos) (sPut te to ti) :=
  DS.imp (ps_asg (de_fzD he) (pg_sub ho (de_fzD hi) (PSet.or set_list (PSet.or (set_dict (by have := cx.hu; omega)) (set_dictX cx.hu cx.w))) ha) hs hw h1) fun D σ H q => by
    obtain ⟨σd, st, Dd, r, ht, l⟩ := q
    refine ⟨σd, st, _, r, ht, fun vd H1 d σ1 st1 r1 h1 k1 q => ⟨σ1, st1, _, r1, q, fun v H2 o σ2 st2 r2 h2 k2 q => ⟨σ2, st2, _, r2, q, fun vk H3 k σ3 st3 r3 h3 k3 q => ?_⟩⟩⟩
    have := putS_ok r3 (h2.keep k3) (.of h3) (h1.keep (k2.trans k3)) q
    rw [← cx.K] at this
    exact this _ fun H4 σ4 st4 r4 k4 q => l.nx σ H4 σ4 st4 r4 (k1.trans (k2.trans (k3.trans k4))) q
end
end DL

set_option Elab.async false
set_option linter.all false
set_option maxRecDepth 100000
namespace DL
open PySem PySem.Spec PyProof.Rows L2
variable [WW]
/-! ### zip, enumerate, of lists and tuples -/
/-- a list (false), a tuple (true) -/
def SrcIs (K : PySem.W.Frag) (b : Bool) (H : Hp) (a : Addr) (vs : List V) : Prop := if b = true then SqT K H a vs else SqL K H a vs
def ItIs (b : Bool) (h : Heap) (it a : Addr) (i : Nat) : Prop := if b = true then h.IsTupleIter it a i else h.IsListIter it a i
def SeqIs (b : Bool) (h : Heap) (a : Addr) (its : Array Value) : Prop := if b = true then h.IsTuple a its else h.IsList a its
def itObj (b : Bool) (a : Addr) : Obj := { cls := .type (if b = true then "tuple_iterator" else "list_iterator"), data := .fields #[.ref a, .int 0 0] }
theorem ItIs.get {b : Bool} {h : Heap} {it a : Addr} {i : Nat} (x : ItIs b h it a i) : ∃ o, h.get? it = some o ∧ ∀ v, o.data ≠ .cell v := by
  cases b
  · obtain ⟨o, e, _, d⟩ := (show h.IsListIter it a i from x); exact ⟨o, e, fun v q => by rw [d] at q; cases q⟩
  · obtain ⟨o, e, _, d⟩ := (show h.IsTupleIter it a i from x); exact ⟨o, e, fun v q => by rw [d] at q; cases q⟩
theorem ItIs.at {b : Bool} {h h' : Heap} {it a : Addr} {i : Nat} (x : ItIs b h it a i) (k : ∀ o, h.get? it = some o → h'.get? it = some o) : ItIs b h' it a i := by
  cases b
  · exact (show h.IsListIter it a i from x).at k
  · exact (show h.IsTupleIter it a i from x).at k
theorem itIs_new {b : Bool} {h : Heap} {it a : Addr} (e : h.get? it = some (itObj b a)) : ItIs b h it a 0 := by
  cases b
  · exact ⟨_, e, rfl, rfl⟩
  · exact ⟨_, e, rfl, rfl⟩
theorem src_draws (prog : Program) (w : World) {A : Around} (hh : A.handled = none) (b : Bool) (it a : Addr) (hne : a ≠ it) (items : Array Value) :
    Draws prog w A it [it, a] items.size (fun i v => items[i]? = some v) (fun i h => ItIs b h it a i ∧ SeqIs b h a items) := by
  cases b
  · exact Draws.list hh it a hne items
  · exact Draws.tuple hh it a hne items
theorem src_begins (b : Bool) (a : Addr) (items : Array Value) : Begins (.ref a) (itObj b a) fun h => SeqIs b h a items := by
  cases b
  · exact begins_list a items
  · exact begins_tuple a items
section
variable {X : Cx} {pins : List (Addr × Obj)} {σ : VS} {H : Hp} {s : Shared}
theorem src_at {b : Bool} {a : Addr} {vs : List V} (I : Inv X pins σ H s) (h : SrcIs X.K b H a vs) : ∃ its : List Value, Vals vs its ∧ SeqIs b s.heap a its.toArray ∧ a < s.heap.objs.size := by
  cases b
  · obtain ⟨its, rv, p, _⟩ := I.list (show SqL X.K H a vs from h)
    exact ⟨its, rv, p.isList, p.lt⟩
  · obtain ⟨its, rv, p, _⟩ := I.tuple (show SqT X.K H a vs from h)
    obtain ⟨o, ho, _⟩ := id p
    exact ⟨its, rv, p, Heap.lt_size ho⟩
theorem src_inj {b : Bool} {a : Addr} {vs ws : List V} (I : Inv X pins σ H s) (h : SrcIs X.K b H a vs) (g : SrcIs X.K b H a ws) : vs = ws := by
  cases b
  · exact I.list_inj h g
  · exact I.tuple_inj h g
end
theorem src_ne {b : Bool} {h : Heap} {it a : Addr} {i : Nat} {its : Array Value} (x : ItIs b h it a i) (p : SeqIs b h a its) : a ≠ it := fun e => by
  cases b
  · obtain ⟨o, eo, _, dt⟩ := (show h.IsListIter it a i from x)
    obtain ⟨o', eo', _, n', dt'⟩ := (show h.IsList a its from p)
    rw [e] at eo'; rw [eo] at eo'; cases eo'; rw [dt] at dt'; cases dt'
  · obtain ⟨o, eo, _, dt⟩ := (show h.IsTupleIter it a i from x)
    obtain ⟨o', eo', _, n', dt'⟩ := (show h.IsTuple a its from p)
    rw [e] at eo'; rw [eo] at eo'; cases eo'; rw [dt] at dt'; cases dt'
def ItZ (K : PySem.W.Frag) (b1 b2 : Bool) (a b : Addr) : It :=
  ⟨fun i H => ∃ (xs ys : List V) (x y : V), SrcIs K b1 H a xs ∧ SrcIs K b2 H b ys ∧ xs[i]? = some x ∧ ys[i]? = some y,
    fun i H v H' => ∃ (T : Addr) (x y : V) (o : Obj), v = .ref T ∧ H T = none ∧ o.dict = none ∧ H' = upd H T (.frz o (.tup [x, y])) ∧ (∀ xs, SrcIs K b1 H a xs → xs[i]? = some x) ∧ ∀ ys, SrcIs K b2 H b ys → ys[i]? = some y,
    fun i H => ∃ xs ys : List V, SrcIs K b1 H a xs ∧ SrcIs K b2 H b ys ∧ i ≤ xs.length ∧ i ≤ ys.length ∧ (i = xs.length ∨ i = ys.length)⟩
theorem turn_Z {P : Program} {w : World} {K : PySem.W.Frag} {elts : List Expr} {kk : Nat} {tpos : Pos} {b1 b2 : Bool} {a b z TI TO i1 i2 : Addr} (D : ZipSep2 z TI TO i1 i2 [i1, a] [i2, b]) :
    Turn P w K (.Tuple elts kk tpos) (ItZ K b1 b2 a b) [z, TI, TO, i1, i2] z (fun i h => IsZip h z TI TO .none ∧ IsTupOf2 h TI (.ref i1) (.ref i2) ∧ (∃ x y, IsTupOf2 h TO x y) ∧ ItIs b1 h i1 a i ∧ ItIs b2 h i2 b i) where
  mem := by simp
  obj := fun i h st c hc => by
    obtain ⟨hz, hTI, ⟨x, y, hTO⟩, h1, h2⟩ := st
    obtain ⟨o1, e1, d1⟩ := h1.get
    obtain ⟨o2, e2, d2⟩ := h2.get
    have e' : c = z ∨ c = TI ∨ c = TO ∨ c = i1 ∨ c = i2 := by simpa using hc
    rcases e' with q | q | q | q | q
    · rw [q]; exact ⟨_, hz, fun v q => nomatch q⟩
    · rw [q]; exact ⟨_, hTI, fun v q => nomatch q⟩
    · rw [q]; exact ⟨_, hTO, fun v q => nomatch q⟩
    · rw [q]; exact ⟨o1, e1, d1⟩
    · rw [q]; exact ⟨o2, e2, d2⟩
  keep := fun i h h' st k => by
    obtain ⟨hz, hTI, ⟨x, y, hTO⟩, h1, h2⟩ := st
    exact ⟨k z (by simp) _ hz, k TI (by simp) _ hTI, ⟨x, y, k TO (by simp) _ hTO⟩, h1.at fun o q => k i1 (by simp) o q, h2.at fun o q => k i2 (by simp) o q⟩
  item := by
    intro X hP hw hK hc i pins s σ H E I hf st hg
    subst hP hw hK
    obtain ⟨hz, hTI, ⟨x0, y0, hTO⟩, h1, h2⟩ := st
    obtain ⟨xs, ys, x, y, hqx, hqy, hx, hy⟩ := hg
    obtain ⟨its, rv, p, _⟩ := src_at I hqx
    obtain ⟨its2, rv2, p2, _⟩ := src_at I hqy
    obtain ⟨u, hu, ru⟩ := rv.get hx
    obtain ⟨u2, hu2, ru2⟩ := rv2.get hy
    have hzl : z < s.heap.objs.size := Heap.lt_size hz
    have l1 : i < its.toArray.size := by simpa using (List.getElem?_eq_some_iff.mp hu).1
    have l2 : i < its2.toArray.size := by simpa using (List.getElem?_eq_some_iff.mp hu2).1
    have n1 := src_ne h1 p
    have n2 := src_ne h2 p2
    refine wpAny_pyNext_zipD2_item D (src_draws (A := X.A.in1) X.prog X.w (I.ok.hd hc) b1 i1 a n1 its.toArray) (src_draws (A := X.A.in1) X.prog X.w (I.ok.hd hc) b2 i2 b n2 its2.toArray) hz hTI hTO ⟨h1, p⟩ ⟨h2, p2⟩ l1 l2 fun x1 x2 h' tk e1 e2 z' TO' s1' s2' hT hsz hk => ?_
    obtain rfl : x1 = u := by
      have : its[i]? = some x1 := by simpa using e1
      rw [hu] at this; cases this; rfl
    obtain rfl : x2 = u2 := by
      have : its2[i]? = some x2 := by simpa using e2
      rw [hu2] at this; cases this; rfl
    refine ⟨_, rfl, wpAny_letOwnedTupleGo_zip (s := { s with heap := h', toks := tk }) z' fun h'' z'' sb => ?_⟩
    have hT2 : h''.get? s.heap.objs.size = some { cls := .type "tuple", data := .seq #[x1, x2] } := (sb.2 _ (Nat.ne_of_gt hzl)).trans hT
    have new : ObjOk X.prog X.w (upd H s.heap.objs.size (.frz { cls := .type "tuple", data := .seq #[x1, x2] } (.tup [x, y]))) h'' s.heap.objs.size (.frz { cls := .type "tuple", data := .seq #[x1, x2] } (.tup [x, y])) :=
      ⟨hT2, by show 2 ≤ sizeLine; decide, [x1, x2], .cons ru (.cons ru2 .nil), ⟨_, hT2, rfl, _, rfl⟩⟩
    have I1 : Inv X pins σ (upd H s.heap.objs.size (.frz { cls := .type "tuple", data := .seq #[x1, x2] } (.tup [x, y]))) { s with heap := h'', toks := tk } :=
      I.turnedNew (t' := tk) (ch := [z, TI, TO, i1, i2]) (fun c o hb q => (sb.2 c (fun q' => hb (by simp [q']))).trans (hk c o (fun q' => hb (by simp [q'])) (fun q' => hb (by simp [q'])) (fun q' => hb (by simp [q'])) (fun q' => hb (by simp [q'])) q)) hf (Nat.le_refl _) new
    refine ⟨.ref s.heap.objs.size, _, I1, rfl, ⟨_, x, y, _, rfl, I.hok.fresh (Nat.le_refl _), rfl, rfl, fun l hl => by rw [src_inj I hl hqx]; exact hx, fun l hl => by rw [src_inj I hl hqy]; exact hy⟩, ⟨z'', ?_, ⟨x1, x2, ?_⟩, ?_, ?_⟩, fun c hcm => ?_⟩
    · exact (sb.2 _ D.TIz).trans (hk _ _ D.TIz D.TITO D.TIi1 D.TIi2 hTI)
    · exact (sb.2 _ D.TOz).trans TO'
    · exact s1'.1.at fun o q => (sb.2 _ (Ne.symm D.zi1)).trans q
    · exact s2'.1.at fun o q => (sb.2 _ (Ne.symm D.zi2)).trans q
    · have hlt : c < s.heap.objs.size := by
        have e' : c = z ∨ c = TI ∨ c = TO ∨ c = i1 ∨ c = i2 := by simpa using hcm
        rcases e' with q | q | q | q | q
        · rw [q]; exact hzl
        · rw [q]; exact Heap.lt_size hTI
        · rw [q]; exact Heap.lt_size hTO
        · rw [q]; obtain ⟨_, e1, _⟩ := h1.get; exact Heap.lt_size e1
        · rw [q]; obtain ⟨_, e2, _⟩ := h2.get; exact Heap.lt_size e2
      rw [upd_ne (Nat.ne_of_lt hlt)]
      exact (hf c hcm).1
  done := by
    intro X hP hw hK hc i pins s σ H E I hf st hg
    subst hP hw hK
    obtain ⟨hz, hTI, ⟨x0, y0, hTO⟩, h1, h2⟩ := st
    obtain ⟨xs, ys, hqx, hqy, w1, w2, hend⟩ := hg
    obtain ⟨its, rv, p, _⟩ := src_at I hqx
    obtain ⟨its2, rv2, p2, _⟩ := src_at I hqy
    have l1 := rv.length
    have l2 := rv2.length
    refine wpAny_pyNext_zipD2_end D (src_draws (A := X.A.in1) X.prog X.w (I.ok.hd hc) b1 i1 a (src_ne h1 p) its.toArray) (src_draws (A := X.A.in1) X.prog X.w (I.ok.hd hc) b2 i2 b (src_ne h2 p2) its2.toArray) hz hTI hTO ⟨h1, p⟩ ⟨h2, p2⟩
      (by rw [List.size_toArray, ← l1]; exact w1) (by rw [List.size_toArray, ← l2]; exact w2) (by rw [List.size_toArray, List.size_toArray, ← l1, ← l2]; exact hend) fun h' tk hk => ⟨rfl, ?_⟩
    exact I.turnedL (t' := tk) (ch := [z, TI, TO, i1, i2]) (fun c o hb q => hk c o (fun q' => hb (by simp [q'])) (fun q' => hb (by simp [q'])) (fun q' => hb (by simp [q'])) (fun q' => hb (by simp [q'])) q) hf
  self := fun A i s Q E st h => wpAny_pyIter_zip st.1 h
def iZ (K : PySem.W.Frag) (ta : TA) : TI := fun σ H R => ta σ H fun vs H1 => ∃ a b b1 b2 xs ys, vs = [.ref a, .ref b] ∧ SrcIs K b1 H1 a xs ∧ SrcIs K b2 H1 b ys ∧ (xs.length ≤ sizeLine → R (ItZ K b1 b2 a b) H1)
theorem pi_Z {X : Cx} {e e2 : Expr} {ta : TA} {p pos tpos : Pos} {elts : List Expr} {kk : Nat} (hg : Gl X "zip") (hm : X.mg "zip" = none) (ha : PA X [e, e2] ta)
    (hs : starEach [e, e2] X.env = (false, eval e X.env) :: starEach [e2] X.env := by rfl) (hpl : (backTo pos (starEach [e2] X.env)).any (·.1) = false := by rfl) :
    PI X (.Tuple elts kk tpos) (.Call (.Name "zip" p) [e, e2] [] pos) (iZ X.K ta) := by
  refine ⟨fun pins s σ H R I h => ?_⟩
  refine Call_ (ld_blt I hg hm PyProof.Rows.boot_zip (PyProof.Rows.callWith_type1 (thn (ha.run pos pins s σ H _ I h) fun us s1 ⟨vs, H1, I1, r1, q1⟩ => ?_) hs hpl))
  obtain ⟨a, b, b1, b2, xs, ys, ex, hqx, hqy, q⟩ := q1
  subst ex
  cases r1 with
  | cons r rr =>
    cases rr with
    | cons r' rr =>
      cases rr
      cases r
      cases r'
      obtain ⟨its, rv, p1, la⟩ := src_at I1 hqx
      obtain ⟨its2, rv2, p2, lb⟩ := src_at I1 hqy
      have fresh5 : ∀ c, c ∈ [s1.heap.objs.size + 4, s1.heap.objs.size + 2, s1.heap.objs.size + 3, s1.heap.objs.size, s1.heap.objs.size + 1] → FpOk X pins H1 c := fun c hcm => by
        have e' : c = s1.heap.objs.size + 4 ∨ c = s1.heap.objs.size + 2 ∨ c = s1.heap.objs.size + 3 ∨ c = s1.heap.objs.size ∨ c = s1.heap.objs.size + 1 := by simpa using hcm
        have hle : s1.heap.objs.size ≤ c := by
          rcases e' with z | z | z | z | z
          · rw [z]; exact Nat.le_add_right _ _
          · rw [z]; exact Nat.le_add_right _ _
          · rw [z]; exact Nat.le_add_right _ _
          · rw [z]; exact Nat.le_refl _
          · rw [z]; exact Nat.le_add_right _ _
        exact I1.fpOk hle (I1.hok.fresh hle)
      refine zip_begins2 (src_begins b1 a its.toArray) (src_begins b2 b its2.toArray) p1 p2 fun h' hz hTI hTO h1 h2 hsz hk => wpAny_pyIter_zip hz ?_
      have I2 : Inv X pins σ H1 { s1 with heap := h' } := I1.kept (t' := s1.toks) hk
      have la1 : ∀ c ∈ [a], c < s1.heap.objs.size := fun c hc => by
        have e : c = a := by simpa using hc
        rw [e]; exact la
      have lb1 : ∀ c ∈ [b], c < s1.heap.objs.size := fun c hc => by
        have e : c = b := by simpa using hc
        rw [e]; exact lb
      have zl : xs.length ≤ sizeLine := by
        cases b1
        · obtain ⟨_, _, _, hz⟩ := I1.list hqx; exact hz
        · obtain ⟨_, _, _, hz⟩ := I1.tuple hqx; exact hz
      exact ⟨s1.heap.objs.size + 4, [s1.heap.objs.size + 4, s1.heap.objs.size + 2, s1.heap.objs.size + 3, s1.heap.objs.size, s1.heap.objs.size + 1], _, _, H1, rfl, I2,
        turn_Z (zip_sep2 (N := s1.heap.objs.size) (fp1 := [a]) (fp2 := [b]) la1 lb1), ⟨hz, hTI, ⟨_, _, hTO⟩, itIs_new h1, itIs_new h2⟩, fresh5, q zl⟩
/-! enumerate -/
def ItE (K : PySem.W.Frag) (b : Bool) (a : Addr) : It :=
  ⟨fun i H => ∃ (xs : List V) (x : V), SrcIs K b H a xs ∧ xs[i]? = some x, fun i H v H' => ∃ (T : Addr) (x : V) (o : Obj), v = .ref T ∧ H T = none ∧ o.dict = none ∧ H' = upd H T (.frz o (.tup [.int (i : Nat), x])) ∧ ∀ xs, SrcIs K b H a xs → xs[i]? = some x, fun i H => ∃ xs : List V, SrcIs K b H a xs ∧ i = xs.length⟩
theorem turn_E {P : Program} {w : World} {K : PySem.W.Frag} {elts : List Expr} {kk : Nat} {tpos : Pos} {bb : Bool} {a e it : Addr} (hne : e ≠ it) (hea : e ≠ a) :
    Turn P w K (.Tuple elts kk tpos) (ItE K bb a) [e, it] e (fun i h => (∃ old, IsEnum h e it ((i : Nat) : Int) old) ∧ ItIs bb h it a i) where
  mem := by simp
  obj := fun i h st b hb => by
    obtain ⟨⟨old, he⟩, hi⟩ := st
    obtain ⟨o, ho, hd⟩ := hi.get
    have e' : b = e ∨ b = it := by simpa using hb
    rcases e' with z | z
    · rw [z]; exact ⟨_, he, fun v q => nomatch q⟩
    · rw [z]; exact ⟨o, ho, hd⟩
  keep := fun i h h' st k => let ⟨⟨old, he⟩, hi⟩ := st; ⟨⟨old, k e (by simp) _ he⟩, hi.at fun o q => k it (by simp) o q⟩
  item := by
    intro X hP hw hK hc i pins s σ H E I hf st hg
    subst hP hw hK
    obtain ⟨⟨old, he⟩, hit⟩ := st
    obtain ⟨xs, x, hq, hx⟩ := hg
    obtain ⟨its, rv, p, la⟩ := src_at I hq
    obtain ⟨u, hu, ru⟩ := rv.get hx
    have hel : e < s.heap.objs.size := Heap.lt_size he
    have hil : it < s.heap.objs.size := by obtain ⟨_, q, _⟩ := hit.get; exact Heap.lt_size q
    have l1 : i < its.toArray.size := by simpa using (List.getElem?_eq_some_iff.mp hu).1
    refine wpAny_pyNext_enum_itemC (src_draws (A := X.A.in1) X.prog X.w (I.ok.hd hc) bb it a (src_ne hit p) its.toArray) he ⟨hit, p⟩ l1 hne (by simp [hne, hea]) fun x1 h' tk e1 ho st' hT hsz hk => ?_
    obtain rfl : x1 = u := by
      have : its[i]? = some x1 := by simpa using e1
      rw [hu] at this; cases this; rfl
    refine ⟨_, rfl, wpAny_letOwnedTupleGo_enum (s := { s with heap := h', toks := tk + 1 }) ho fun h'' he' sb => ?_⟩
    have hT2 : h''.get? s.heap.objs.size = some { cls := .type "tuple", data := .seq #[.int i tk, x1] } := (sb.2 _ (Nat.ne_of_gt hel)).trans hT
    have new : ObjOk X.prog X.w (upd H s.heap.objs.size (.frz { cls := .type "tuple", data := .seq #[.int i tk, x1] } (.tup [.int (i : Nat), x]))) h'' s.heap.objs.size (.frz { cls := .type "tuple", data := .seq #[.int i tk, x1] } (.tup [.int (i : Nat), x])) :=
      ⟨hT2, by show 2 ≤ sizeLine; decide, [.int i tk, x1], .cons ⟨_, rfl⟩ (.cons ru .nil), ⟨_, hT2, rfl, _, rfl⟩⟩
    have I1 : Inv X pins σ (upd H s.heap.objs.size (.frz { cls := .type "tuple", data := .seq #[.int i tk, x1] } (.tup [.int (i : Nat), x]))) { s with heap := h'', toks := tk + 1 } :=
      I.turnedNew (ch := [e, it]) (fun b ob hb q => (sb.2 b (fun z => hb (by simp [z]))).trans (hk b ob (fun z => hb (by simp [z])) (fun z => hb (by simp [z])) q)) hf (Nat.le_refl _) new
    refine ⟨.ref s.heap.objs.size, _, I1, rfl, ⟨_, x, _, rfl, I.hok.fresh (Nat.le_refl _), rfl, rfl, fun ys hy => by rw [src_inj I hy hq]; exact hx⟩, ⟨⟨x1, ?_⟩, st'.1.at fun o q => (sb.2 it (Ne.symm hne)).trans q⟩, fun b hb => ?_⟩
    · have e1 : ((i + 1 : Nat) : Int) = (i : Int) + 1 := by omega
      rw [e1]; exact he'
    · have hb' : b < s.heap.objs.size := by
        have e' : b = e ∨ b = it := by simpa using hb
        rcases e' with z | z
        · rw [z]; exact hel
        · rw [z]; exact hil
      rw [upd_ne (Nat.ne_of_lt hb')]
      exact (hf b hb).1
  done := by
    intro X hP hw hK hc i pins s σ H E I hf st hg
    subst hP hw hK
    obtain ⟨⟨old, he⟩, hit⟩ := st
    obtain ⟨xs, hq, hx⟩ := hg
    obtain ⟨its, rv, p, la⟩ := src_at I hq
    obtain ⟨f0, f1, f2, f3, f4, f5⟩ := hf it (by simp)
    have hl := rv.length
    subst hx
    refine wpAny_pyNext_enum_endD (src_draws (A := X.A.in1) X.prog X.w (I.ok.hd hc) bb it a (src_ne hit p) its.toArray) he ?_ fun h' eb => ⟨rfl, I.turned (t' := s.toks) (fun b o hb q => eb b o hb q) f0 f1 f3 f4 f5⟩
    rw [List.size_toArray, ← hl]
    exact ⟨hit, p⟩
  self := fun A i s Q E st h => let ⟨⟨_, he⟩, _⟩ := st; wpAny_pyIter_enum he h
set_option maxHeartbeats 1000000 in
theorem enum_new1 {v : Value} {o : Obj} {H : Heap → Prop} (B : Begins v o H) :
    Meets (Builtin.«enumerate.__new__» ⟨[.type "enumerate", v], []⟩) (fun _ R s => H s.heap ∧
      R (.ok (.ret (.ref (s.heap.push o).objs.size))) { s with heap := (s.heap.push o).push { cls := .type "enumerate", data := .fields #[.none, .bool false, .ref s.heap.objs.size, rawInt 0, .none, .none] } }) :=
  .of_wp fun prog w A R s h => by
    obtain ⟨hp, g, d, tk, os⟩ := s
    obtain ⟨h1, h⟩ := h
    have hsub := sub_enumerate
    have q1 : ∀ {A' : Around} {E : Value → Shared → Prop} {Q : Value → Shared → Prop}, Q (.ref hp.objs.size) ⟨hp.push o, g, d, tk, os⟩ → wpAny (model prog w) A' (pyIter v) Q E ⟨hp, g, d, tk, os⟩ :=
      fun q => B.iter prog w _ _ ⟨hp, g, d, tk, os⟩ _ h1 q
    wp_walk using q1
    refine wpAny_stack_any fun st => wpAny_pure ?_
    split
    · rename_i c _ _ _ _ _
      cases (c == Value.type "enumerate")
      · wp_walk using q1
        exact ⟨_, rfl, h⟩
      · wp_walk using q1
        exact ⟨_, rfl, h⟩
    · wp_walk using q1
      exact ⟨_, rfl, h⟩
theorem enum_begins1 {prog : Program} {w : World} {A : Around} {E : Value → Shared → Prop} {s : Shared} {v : Value} {o : Obj} {H : Heap → Prop} {Q : Value → Shared → Prop} (B : Begins v o H) (h1 : H s.heap)
    (h : ∀ h', IsEnum h' (s.heap.objs.size + 1) s.heap.objs.size 0 .none → h'.get? s.heap.objs.size = some o → h'.objs.size = s.heap.objs.size + 2 →
      (∀ b o, s.heap.get? b = some o → h'.get? b = some o) → Q (.ref (s.heap.objs.size + 1)) { s with heap := h' }) :
    wpAny (model prog w) A (call (.type "enumerate") [v]) Q E s := by
  refine callType_new F.called_enumerate (by decide) (F.typeCall_enumerate_1 _) (F.newCall_enumerate_1 _) (fun obj => F.args_object_init_2 obj _) F.entry_enumerate_new
    (enum_new1 B) ⟨h1, ?_⟩
  have hz : (s.heap.push o).objs.size = s.heap.objs.size + 1 := Heap.size_push ..
  show _ ∧ _
  rw [hz]
  have he : IsEnum ((s.heap.push o).push { cls := .type "enumerate", data := .fields #[.none, .bool false, .ref s.heap.objs.size, rawInt 0, .none, .none] }) (s.heap.objs.size + 1) s.heap.objs.size 0 .none := by
    have := Heap.get?_push_size (s.heap.push o) (o := { cls := .type "enumerate", data := .fields #[.none, .bool false, .ref s.heap.objs.size, rawInt 0, .none, .none] }) rfl
    rw [hz] at this; exact this
  refine ⟨⟨_, he, rfl⟩, h _ he (Heap.get?_push_of_some _ (Heap.get?_push_size _ B.free)) (by rw [Heap.size_push, hz]) fun b o x => Heap.get?_push_of_some _ (Heap.get?_push_of_some _ x)⟩
def iE (K : PySem.W.Frag) (ta : TA) : TI := fun σ H R => ta σ H fun vs H1 => ∃ a b xs, vs = [.ref a] ∧ SrcIs K b H1 a xs ∧ (xs.length ≤ sizeLine → R (ItE K b a) H1)
theorem pi_E {X : Cx} {e : Expr} {ta : TA} {p pos tpos : Pos} {elts : List Expr} {kk : Nat} (hg : Gl X "enumerate") (hm : X.mg "enumerate" = none) (ha : PA X [e] ta) (hs : starEach [e] X.env = [(false, eval e X.env)] := by rfl) :
    PI X (.Tuple elts kk tpos) (.Call (.Name "enumerate" p) [e] [] pos) (iE X.K ta) := by
  refine ⟨fun pins s σ H R I h => ?_⟩
  refine Call_ (ld_blt I hg hm boot_enumerate (PyProof.Rows.callWith_type1 (thn (ha.run pos pins s σ H _ I h) fun us s1 ⟨vs, H1, I1, r1, q1⟩ => ?_) hs rfl))
  obtain ⟨a, b, xs, ex, hq, q⟩ := q1
  subst ex
  cases r1 with
  | cons r rr =>
    cases rr
    cases r
    obtain ⟨its, rv, p', la⟩ := src_at I1 hq
    have zl : xs.length ≤ sizeLine := by
      cases b
      · obtain ⟨_, _, _, hz⟩ := I1.list hq; exact hz
      · obtain ⟨_, _, _, hz⟩ := I1.tuple hq; exact hz
    refine enum_begins1 (src_begins b a its.toArray) p' fun h' he hit hsz hk => wpAny_pyIter_enum he ?_
    have I2 : Inv X pins σ H1 { s1 with heap := h' } := I1.kept (t' := s1.toks) hk
    refine ⟨s1.heap.objs.size + 1, [s1.heap.objs.size + 1, s1.heap.objs.size], _, _, H1, rfl, I2, turn_E (Nat.succ_ne_self _) (fun z => absurd la (by rw [← z]; exact Nat.not_lt.mpr (Nat.le_add_right _ _))), ⟨⟨.none, he⟩, itIs_new hit⟩, fun b hb => ?_, q zl⟩
    have e' : b = s1.heap.objs.size + 1 ∨ b = s1.heap.objs.size := by simpa using hb
    have hle : s1.heap.objs.size ≤ b := by
      rcases e' with z | z
      · rw [z]; exact Nat.le_add_right _ _
      · rw [z]; exact Nat.le_refl _
    exact I1.fpOk hle (I1.hok.fresh hle)
/-! by values -/
theorem src_keep {K : PySem.W.Frag} {H : Hp} {d : D} {v : V} {ds : List D} (h : Den K H d v) (q : seqOf d fun es => es = ds) : ∃ a b xs, v = .ref a ∧ DenL K H ds xs ∧ ∀ Hi, Keep H Hi → SrcIs K b Hi a xs := by
  cases h <;> first | exact q.elim | skip
  · rename_i a es vs h l r
    cases q
    exact ⟨a, true, vs, rfl, ⟨l, r⟩, fun Hi k => sqt_keep h k⟩
  · rename_i a es vs h l r
    cases q
    exact ⟨a, true, vs, rfl, ⟨l, r⟩, fun Hi k => (h.keep k).sqt⟩
  · rename_i a es vs h l r
    cases q
    exact ⟨a, false, vs, rfl, ⟨l, r⟩, fun Hi k => fz_keep h k⟩
  · rename_i a es vs h l r
    cases q
    exact ⟨a, false, vs, rfl, ⟨l, r⟩, fun Hi k => (h.keep k).sql⟩
theorem walks_Z {K : PySem.W.Frag} {H : Hp} {a b : Addr} {b1 b2 : Bool} {ds es : List D} {xs ys : List V} (h1 : ∀ Hi, Keep H Hi → SrcIs K b1 Hi a xs) (h2 : ∀ Hi, Keep H Hi → SrcIs K b2 Hi b ys) (l1 : DenL K H ds xs) (l2 : DenL K H es ys) (z : xs.length ≤ sizeLine) :
    Walks K (ItZ K b1 b2 a b) (List.zipWith (fun x y => D.tup [x, y]) ds es) H := by
  refine ⟨fun i d Hi k e => ?_, fun i Hi k e e2 => ?_, ?_⟩
  · rw [List.getElem?_zipWith] at e
    cases ed : ds[i]? with
    | none => rw [ed] at e; cases e
    | some d1 =>
      cases ee : es[i]? with
      | none => rw [ed, ee] at e; cases e
      | some d2 =>
        rw [ed, ee] at e
        cases e
        obtain ⟨x, ex, hx⟩ := l1.get ed
        obtain ⟨y, ey, hy⟩ := l2.get ee
        refine ⟨⟨xs, ys, x, y, h1 Hi k, h2 Hi k, ex, ey⟩, fun v H' q => ?_⟩
        obtain ⟨T, x', y', o, rfl, hT, ho, rfl, f1, f2⟩ := q
        have e1 := f1 _ (h1 Hi k)
        have e2 := f2 _ (h2 Hi k)
        rw [ex] at e1; cases e1
        rw [ey] at e2; cases e2
        have kn : Keep Hi (upd Hi T (.frz o (.tup [x, y]))) := Keep.new hT
        have l : DenL K (upd Hi T (.frz o (.tup [x, y]))) [d1, d2] [x, y] := DenL.cons ((hx.keep k).keep kn) (DenL.cons ((hy.keep k).keep kn) DenL.nil)
        exact ⟨Mild.new hT, .tup (.inl ⟨o, upd_same, ho⟩) l.1 l.2⟩
  · have e3 : i = min ds.length es.length := by rw [List.length_zipWith] at e e2; omega
    refine ⟨xs, ys, h1 Hi k, h2 Hi k, ?_, ?_, ?_⟩
    · rw [← l1.1]; omega
    · rw [← l2.1]; omega
    · rw [← l1.1, ← l2.1]; omega
  · rw [List.length_zipWith]
    have := l1.1
    omega
theorem walks_E {K : PySem.W.Frag} {H : Hp} {a : Addr} {b : Bool} {ds : List D} {xs : List V} (h1 : ∀ Hi, Keep H Hi → SrcIs K b Hi a xs) (l1 : DenL K H ds xs) (z : xs.length ≤ sizeLine) :
    Walks K (ItE K b a) (ds.mapIdx fun i x => D.tup [.int (i : Nat), x]) H := by
  refine ⟨fun i d Hi k e => ?_, fun i Hi k e e2 => ?_, ?_⟩
  · rw [List.getElem?_mapIdx] at e
    obtain ⟨d1, ed, rfl⟩ := Option.map_eq_some_iff.mp e
    obtain ⟨x, ex, hx⟩ := l1.get ed
    refine ⟨⟨xs, x, h1 Hi k, ex⟩, fun v H' q => ?_⟩
    obtain ⟨T, x', o, rfl, hT, ho, rfl, f1⟩ := q
    have e1 := f1 _ (h1 Hi k)
    rw [ex] at e1; cases e1
    have kn : Keep Hi (upd Hi T (.frz o (.tup [.int (i : Nat), x]))) := Keep.new hT
    have l : DenL K (upd Hi T (.frz o (.tup [.int (i : Nat), x]))) [.int (i : Nat), d1] [.int (i : Nat), x] := DenL.cons (.int _) (DenL.cons ((hx.keep k).keep kn) DenL.nil)
    exact ⟨Mild.new hT, .tup (.inl ⟨o, upd_same, ho⟩) l.1 l.2⟩
  · rw [List.length_mapIdx] at e e2
    exact ⟨xs, h1 Hi k, by rw [← l1.1]; omega⟩
  · rw [List.length_mapIdx, l1.1]; exact z
def iZipD (ta tb : TED) : TID := fun E σ st Q => aL [ta, tb] E σ st fun as σ1 st1 => match as with
  | [a, b] => seqOf a fun xs => seqOf b fun ys => Q (List.zipWith (fun x y => D.tup [x, y]) xs ys) σ1 st1
  | _ => False
def iEnumD (ta : TED) : TID := fun E σ st Q => eFz ta E σ st fun a σ1 st1 => seqOf a fun xs => Q (xs.mapIdx fun i x => D.tup [.int (i : Nat), x]) σ1 st1
theorem seqOf_ex {d : D} {Q : List D → Prop} (h : seqOf d Q) : ∃ ds, seqOf d (fun es => es = ds) ∧ Q ds := by
  cases d <;> first | exact h.elim | exact ⟨_, rfl, h⟩
section
variable {X : Cx} {C : DC} {e e2 : Expr} {ta tb : TED} {p pos tpos : Pos} {elts : List Expr} {kk : Nat}
theorem di_zip (cx : Ctx X C) (hg : Gl X "zip") (hm : X.mg "zip" = none) (ha : DAr X C [e, e2] [ta, tb])
    (hs : starEach [e, e2] X.env = (false, eval e X.env) :: starEach [e2] X.env := by rfl) (hpl : (backTo pos (starEach [e2] X.env)).any (·.1) = false := by rfl) :
    DI X C (.Tuple elts kk tpos) (.Call (.Name "zip" p) [e, e2] [] pos) (iZipD ta tb) := DI.imp (pi_Z hg hm ha hs hpl) fun σ H R q => by
  obtain ⟨σd, st, Qd, r, ht, k⟩ := q
  refine ⟨σd, st, _, r, ht, fun vs H1 as σ1 st1 r1 l z k1 q => ?_⟩
  match as, l with
  | [a1, a2], l =>
    obtain ⟨v1, r3, rfl, y1, l3⟩ := l.of_cons
    obtain ⟨v2, r4, rfl, y2, l4⟩ := l3.of_cons
    cases l4.of_nil
    obtain ⟨ds, s1, q⟩ := seqOf_ex q
    obtain ⟨es, s2, q⟩ := seqOf_ex q
    obtain ⟨a, b1, xs, rfl, d1, w1⟩ := src_keep y1 s1
    obtain ⟨b, b2, ys, rfl, d2, w2⟩ := src_keep y2 s2
    rw [cx.K]
    exact ⟨a, b, b1, b2, xs, ys, rfl, w1 _ (Keep.refl _), w2 _ (Keep.refl _), fun zl => k _ H1 _ σ1 st1 r1 (walks_Z w1 w2 d1 d2 zl) k1 q⟩
theorem di_enum (cx : Ctx X C) (hg : Gl X "enumerate") (hm : X.mg "enumerate" = none) (ha : DE X C e ta) (hs : starEach [e] X.env = [(false, eval e X.env)] := by rfl) :
    DI X C (.Tuple elts kk tpos) (.Call (.Name "enumerate" p) [e] [] pos) (iEnumD ta) := DI.imp (pi_E hg hm (pa_cons (de_fzD ha) pa_nil hs) hs) fun σ H R q => by
  obtain ⟨σd, st, Qd, r, ht, k⟩ := q
  refine ⟨σd, st, _, r, ht, fun v H1 d σ1 st1 r1 h1 k1 q => ?_⟩
  obtain ⟨ds, s1, q⟩ := seqOf_ex q
  obtain ⟨a, b, xs, rfl, d1, w1⟩ := src_keep h1 s1
  rw [cx.K]
  exact ⟨a, b, xs, rfl, w1 _ (Keep.refl _), fun zl => k _ H1 _ σ1 st1 r1 (walks_E w1 d1 zl) k1 q⟩
end
end DL

set_option Elab.async false
set_option linter.all false
set_option maxRecDepth 100000
namespace DL
open PySem PySem.Spec PyProof.Rows L2 PySem.W PySem.SeqAt
variable [WW]
/-! ### sorted -/
section
variable {prog : Program} {w : World} {A : Around} {E : Value → Shared → Prop} {s : Shared}
/-- two tuples, in a sort whose items are all of one class -/
theorem oneLt_tup {xs ys : List PyData} {a b : Value} {as bs : List Addr} {Q : Bool → Shared → Prop} (ra : Reads s.heap a (.tuple xs) as) (rb : Reads s.heap b (.tuple ys) bs) (hal : alikeAll xs ys = true)
    (hu : A.units + min (PyData.tuple xs).depth (PyData.tuple ys).depth < cLine) (hq : Q (dataLt (.tuple xs) (.tuple ys)) s) : wpAny (model prog w) A (oneLt' true a b) Q E s := by
  cases ra with
  | @tuple l o vs n _ as₁ h1 h2 h3 h4 =>
    cases rb with
    | @tuple l' o' vs' n' _ bs₁ k1 k2 k3 k4 =>
      have n1 : vs.size = xs.length := by simpa using SeqAt.ReadsAll.length _ _ _ h4
      have n2 : vs'.size = ys.length := by simpa using SeqAt.ReadsAll.length _ _ _ k4
      rw [dataLt_tuple, ← firstLt_toks xs ys hal, ← n1, ← n2] at hq
      rw [oneLt'_eq]
      simp only [if_true]
      obtain ⟨cls, dd, data, sl⟩ := o
      obtain ⟨cls2, dd2, data2, sl2⟩ := o'
      simp only at h2 h3 k2 k3
      subst h2 h3 k2 k3
      refine wpAny_bind (wpAny_cRoomFor (room_here hu) ?_)
      refine wpAny_bind (wpAny_callSpecialIfBound?_slot (T := "tuple") ⟨_, h1, rfl⟩ F.slot_tuple_lt (call_meets F.slot_tuple_lt ⟨_, h1, rfl⟩ F.entry_tuple_lt (F.args_tuple_lt_2 _ _)
        (tuple_ltAt l l' vs vs' n n' dd dd2 sl sl2 (pairEq xs ys) fun j => dataLt (xs.getD j .none) (ys.getD j .none)) ⟨h1, k1, fun j j1 j2 => ?_, fun j j1 j2 hj => ?_, ?_⟩))
      · have := eqAt_alikeAll xs ys A.in1 s vs.toList vs'.toList _ _ h4 k4 hal (room_in hu) j (by simpa using j1) (by simpa using j2)
        simpa using this
      · have := rcLt_alikeAll xs ys A.in1 s vs.toList vs'.toList _ _ h4 k4 hal (room_in hu) j (by simpa using j1) (by simpa using j2) hj
        simpa using this
      · exact wpAny_truthy_bool hq
/-- what the sort asks of its keys, all of them tuples -/
theorem firsts_any {M : Model} : ∀ (vs : List Value) (ds : List PyData) {Q : List (Option Value) → Shared → Prop}, EachIs (fun v d => ∃ as, Reads s.heap v d as) vs ds → (∀ d ∈ ds, ∃ xs, d = .tuple xs) →
    (∀ fs : List (Option Value), fs.length = vs.length → (∀ x r, ds = .tuple [] :: x ++ r → fs.head? = some none) → Q fs s) → wpAny M A (vs.mapM firstOfTuple') Q E s
  | [], ds, Q, _, _, h => by rw [List.mapM_nil]; exact wpAny_pure (h [] rfl fun x r e => by subst e; rename_i z _; cases z)
  | v :: vs, ds, Q, e, ht, h => by
    cases e with
    | @cons _ d _ ds h1 t =>
      obtain ⟨as, r⟩ := h1
      obtain ⟨xs, rfl⟩ := ht d (by simp)
      cases r with
      | @tuple a o its n _ _ ho hc hd hr =>
        rw [List.mapM_cons]
        refine wpAny_bind ?_
        rw [kas_first_eq]
        refine wpAny_bind (Looks.here (show Looks M s.heap (typeOf (.ref a)) o.cls from (Looks.ld ho).andThen .now) ?_)
        rw [hc, if_neg (by first | decide | simp)]
        refine wpAny_bind (listItems_at ho hd (wpAny_pure ?_))
        refine wpAny_bind (firsts_any vs ds (Q := fun bs s' => wpAny M A (pure (its[0]? :: bs)) Q E s') t (fun d hd => ht d (by simp [hd])) fun fs hl _ => wpAny_pure (h _ (by simp [hl]) fun x r e => ?_))
        have e1 : xs = [] := by
          simp only [List.cons_append, List.cons.injEq, PyData.tuple.injEq] at e
          exact e.1
        subst e1
        have z : its = #[] := by
          cases q : its.toList with
          | nil => simpa using q
          | cons y ys => rw [q] at hr; cases hr
        subst z
        rfl
theorem kind_first0 {M : Model} {vs : List Value} {ds : List PyData} {Q : SortKind → Shared → Prop} (e : EachIs (fun v d => ∃ as, Reads s.heap v d as) vs (.tuple [] :: ds)) (ht : ∀ d ∈ ds, ∃ xs, d = .tuple xs) (h : Q oneType' s) :
    wpAny M A (keyKind' vs.toArray) Q E s := by
  have ht' : ∀ d ∈ PyData.tuple [] :: ds, ∃ xs, d = .tuple xs := fun d hd => by
    rcases List.mem_cons.mp hd with rfl | hd
    · exact ⟨[], rfl⟩
    · exact ht d hd
  have hT : ∀ v ∈ vs, Looks M s.heap (typeOf v) (.type "tuple") := fun v hv => by
    obtain ⟨d, hd, as, r⟩ := e.left v hv
    obtain ⟨xs, rfl⟩ := ht' d hd
    exact looks_reads r
  obtain ⟨v₁, rest, rfl⟩ : ∃ v₁ rest, vs = v₁ :: rest := by
    cases e with
    | cons _ _ => exact ⟨_, _, rfl⟩
  rw [keyKind'_eq, List.mapM_toArray, map_eq_pure_bind]
  refine wpAny_bind (wpAny_bind (firsts_any _ _ e ht' fun fs hl hh => wpAny_pure ?_))
  have h0 := hh [] ds rfl
  obtain ⟨fr, rfl⟩ : ∃ fr, fs = none :: fr := by
    cases fs with
    | nil => cases h0
    | cons a r => simp at h0; subst h0; exact ⟨r, rfl⟩
  rw [if_neg (by simp), if_neg (by simp)]
  rw [oneTypeOnly'_eq, List.mapM_toArray, map_eq_pure_bind]
  refine wpAny_bind (wpAny_bind (wpAny_bind (kas_mapM (r := .type "tuple") _ (fun v hv Q' hq => (hT v hv).here hq) (wpAny_pure ?_))))
  have hall : ((List.map (fun _ => Value.type "tuple") (v₁ :: rest)).toArray.all fun x => x == Value.type "tuple") = true := by
    simp only [List.all_toArray, List.all_map, List.all_eq_true]
    intro _ _
    rfl
  have h0 : (List.map (fun _ => Value.type "tuple") (v₁ :: rest)).toArray[0]? = some (Value.type "tuple") := by simp
  rw [h0]
  simp only [hall, if_true]
  exact wpAny_pure (wpAny_pure h)
/-- .. or the first is the empty tuple -/
def SortX (ds : List PyData) : Prop := Sortable ds ∨ ∃ r, ds = .tuple [] :: r ∧ ∀ d ∈ r, ∃ xs, d = .tuple xs
theorem sorts_x {vs : List Value} {ds : List PyData} (e : EachIs (fun v d => ∃ as, Reads s.heap v d as) vs ds) (hal : AllAlike ds) (hk : SortX ds) (hu : ∀ d, d ∈ ds → A.units + d.depth < cLine) : SortsAt prog w A s (dataKind s.heap ds) vs := by
  rcases hk with hk | ⟨r, rfl, ht⟩
  · exact SortsAt.data e hal hk hu
  have ht' : ∀ d ∈ PyData.tuple [] :: r, ∃ xs, d = .tuple xs := fun d hd => by
    rcases List.mem_cons.mp hd with rfl | hd
    · exact ⟨[], rfl⟩
    · exact ht d hd
  refine ⟨fun v hv => ?_, oneType', ?_, fun h2 E Q hq => kind_first0 e ht hq⟩
  · obtain ⟨d, hd, as, r⟩ := e.left v hv
    exact ⟨_, dataKind_some hal hd r⟩
  · intro E x y a b Q ha hb hq
    obtain ⟨d, as, hd, ra, rfl⟩ := dataKind_inv ha
    obtain ⟨d', as', hd', rb, rfl⟩ := dataKind_inv hb
    obtain ⟨xs, rfl⟩ := ht' d hd
    obtain ⟨ys, rfl⟩ := ht' d' hd'
    rw [keyLt'_oneType]
    exact oneLt_tup ra rb (by simpa [alike] using hal _ hd _ hd') (Nat.lt_of_le_of_lt (Nat.add_le_add_left (Nat.min_le_left _ _) _) (hu _ hd)) hq
/-- sorted(x), x what can be collected -/
theorem sorted_src {it : Addr} {vs : List Value} {ds : List PyData} {Q : Value → Shared → Prop} (hcol : ∀ (A : Around) (Q' : List Value → Shared → Prop) (E' : Value → Shared → Prop), (∀ h', (∀ b o, s.heap.get? b = some o → h'.get? b = some o) → Q' vs { s with heap := h' }) → wpAny (model prog w) A (collect (.ref it)) Q' E' s)
    (e : EachIs (fun v d => ∃ as, Reads s.heap v d as) vs ds) (hal : AllAlike ds) (hk : SortX ds) (hu : ∀ d, d ∈ ds → A.units + 2 + d.depth < cLine) (hL : vs.length ≤ sizeLine)
    (h : ∀ (h1 h' : Heap) n out, KeyedOut false ds vs out → (∀ b o, s.heap.get? b = some o → h1.get? b = some o) → (∀ b o, h1.get? b = some o → h'.get? b = some o) → h'.get? h1.objs.size = some (seqObj "list" out.toArray n) → Q (.ref h1.objs.size) { s with heap := h' }) :
    wpAny (model prog w) A (call (.builtin "sorted") [.ref it]) Q E s := by
  refine Calls.call_function_entry kind_sorted plain_sorted entry_sorted (args_sorted1 _) ?_
  unfold Builtin.«sorted»
  refine wpAny_bind (m := checkCount "sorted" 1 1 _) (wpAny_pure ?_)
  refine wpAny_bind (hcol _ _ _ fun h1 k1 => ?_)
  refine wpAny_bind (wpAny_newList ?_ hL)
  have hoL : (h1.push (seqObj "list" vs.toArray 0)).get? h1.objs.size = some (seqObj "list" vs.toArray 0) := Heap.get?_push_size _ rfl
  show wpAny _ _ _ _ _ { s with heap := h1.push (seqObj "list" vs.toArray 0) }
  have kS : ∀ b o, s.heap.get? b = some o → (sortingHeap (h1.push (seqObj "list" vs.toArray 0)) h1.objs.size vs).get? b = some o := fun b o q =>
    sortingHeap_old (Nat.ne_of_lt (Heap.lt_size (k1 b o q))) (Heap.get?_push_of_some _ (k1 b o q))
  have eS : EachIs (fun v d => ∃ as, Reads (sortingHeap (h1.push (seqObj "list" vs.toArray 0)) h1.objs.size vs) v d as) vs ds := e.mono fun _ _ ⟨as, r⟩ => ⟨as, PyProof.Rows.Reads.keeps kS r⟩
  refine wpAny_bind (wpAny_holding (wpAny_call_entry slot_list_sort ⟨_, hoL, rfl⟩ entry_list_sort (list_sort_vals (s := { s with heap := h1.push (seqObj "list" vs.toArray 0) }) hoL (sorts_x eS hal hk fun d hd => by have := hu d hd; show A.units + 1 + 1 + d.depth < cLine; omega) hL ⟨_, rfl, ?_⟩) (args_list_sort _)))
  obtain ⟨ep, he'⟩ := sortedHeap_at (vs := vs) (out := (sortVals (dataKind (sortingHeap (h1.push (seqObj "list" vs.toArray 0)) h1.objs.size vs) ds) false vs vs).toArray) hoL
  refine wpAny_pure ⟨_, rfl, h h1 _ ep _ ⟨_, vs, hal, rfl, eS⟩ k1 (fun b o q => ?_) he'⟩
  rw [sortedHeap_old (Nat.ne_of_lt (Heap.lt_size q)) (by rw [size_push']; exact Nat.lt_succ_of_lt (Heap.lt_size q))]
  exact Heap.get?_push_of_some _ q
end
/-! by values -/
def rSrt (K : PySem.W.Frag) : List V → Hp → VK → Prop := fun vs H Q => ∃ a b xs ds, vs = [.ref a] ∧ SrcIs K b H a xs ∧ DpAll K H xs ds ∧ (∀ d ∈ ds, d.depth ≤ 60) ∧ AllAlike ds ∧ SortX ds ∧
  ∀ p, H p = none → Q (.ref p) (upd H p (.lst (((ds.zip xs).mergeSort (dataLe false Prod.fst)).map Prod.snd)))
theorem each_reads {h : Heap} : ∀ {us : List Value} {ds : List PyData} {as : List Addr}, ReadsAll h us ds as → EachIs (fun v d => ∃ as, Reads h v d as) us ds
  | _, _, _, .nil => .nil
  | _, _, _, .cons r rs => .cons ⟨_, r⟩ (each_reads rs)
theorem each_vals : ∀ {xs : List V} {us : List Value} {ds : List PyData}, Vals xs us → xs.length = ds.length → EachIs (fun u (b : PyData × V) => L2.RelV b.2 u) us (ds.zip xs)
  | [], _, [], r, _ => by cases r; exact .nil
  | [], _, _ :: _, _, h => by simp at h
  | _ :: _, _, [], _, h => by simp at h
  | x :: xs, _, d :: ds, r, h => by
    cases r with
    | cons r rs => exact .cons r (each_vals rs (by simpa using h))
theorem vals_each : ∀ {us : List Value} {bs : List (PyData × V)}, EachIs (fun u (b : PyData × V) => L2.RelV b.2 u) us bs → Vals (bs.map Prod.snd) us
  | _, _, .nil => .nil
  | _, _, .cons r rs => .cons r (vals_each rs)
section
variable {X : Cx}
theorem cr_srt (hu : X.A.units + 100 < cLine) : CallR X (.builtin "sorted") (rSrt X.K) := by
  intro pins s σ H vs us Q I r h
  obtain ⟨a, b, xs, ds, rfl, hs, hd, hdep, hal, hsx, q⟩ := h
  rw [Vals.ref1 r]
  obtain ⟨its, rv, p, la⟩ := src_at I hs
  have hz : xs.length ≤ sizeLine := by
    cases b
    · obtain ⟨_, _, _, hz⟩ := I.list hs; exact hz
    · obtain ⟨_, _, _, hz⟩ := I.tuple hs; exact hz
  obtain ⟨as, ra⟩ := Dp.readsAll I ds xs its hd rv
  have hlen : its.length = ds.length := SeqAt.ReadsAll.length _ _ _ ra
  have hlx : xs.length = ds.length := by rw [rv.length, hlen]
  have hcol : ∀ (A : Around) (Q' : List Value → Shared → Prop) (E' : Value → Shared → Prop), (∀ h', (∀ b o, s.heap.get? b = some o → h'.get? b = some o) → Q' its { s with heap := h' }) → wpAny (model X.prog X.w) A (collect (.ref a)) Q' E' s := fun A Q' E' hq => by
    cases b
    · obtain ⟨o, ho, hc, n, hdt⟩ := (show s.heap.IsList a its.toArray from p)
      exact wpAny_collect_seq (T := "list") (n := n) (o := o) a (.inl rfl) ho hc hdt (fun h' k => by simpa using hq h' k) (by rw [List.size_toArray, ← rv.length]; exact hz)
    · obtain ⟨o, ho, hc, n, hdt⟩ := (show s.heap.IsTuple a its.toArray from p)
      exact wpAny_collect_seq (T := "tuple") (n := n) (o := o) a (.inr rfl) ho hc hdt (fun h' k => by simpa using hq h' k) (by rw [List.size_toArray, ← rv.length]; exact hz)
  refine sorted_src hcol (each_reads ra) hal hsx (fun d hd => by have := hdep d hd; omega) (by rw [← rv.length]; exact hz) fun h1 h' n out ko k1 k2 he' => ?_
  have I1 : Inv X pins σ H { s with heap := h1 } := I.kept (t' := s.toks) k1
  have hn : H h1.objs.size = none := I1.hok.fresh (Nat.le_refl _)
  have e2 : EachIs (fun u (b : PyData × V) => L2.RelV b.2 u) out ((ds.zip xs).mergeSort (dataLe false Prod.fst)) := by
    refine keyedOut_each (rev := false) (bs := ds.zip xs) (vs := its) Prod.fst ?_ (each_vals rv hlx)
    rw [List.map_fst_zip (Nat.le_of_eq hlx.symm)]
    exact ko
  have rvo := vals_each e2
  refine ⟨.ref h1.objs.size, _, I1.laid (t' := s.toks) (h' := h') (o := .lst (((ds.zip xs).mergeSort (dataLe false Prod.fst)).map Prod.snd)) (fun b o q => k2 b o q) (Nat.le_refl _) ⟨?_, out, n, rvo, he'⟩, rfl, q _ hn⟩
  rw [List.length_map, (List.mergeSort_perm _ _).length_eq, List.length_zip]
  omega
end
def sortD (ds : List D) : List D := ds.mergeSort (dataLe false toPy)
def SortOk (ds : List D) : Prop := (∀ x ∈ ds, Pl 40 x) ∧ AllAlike (ds.map toPy) ∧ SortX (ds.map toPy)
def sortedD (d : D) (Q : D → Prop) : Prop := ∃ ds, seqD d = some ds ∧ SortOk ds ∧ Q (.lst (sortD ds))
theorem map_msort {α β : Type} (f : α → β) (le : β → β → Bool) (l : List α) : (l.mergeSort fun a b => le (f a) (f b)).map f = (l.map f).mergeSort le := by
  have := List.map_mergeSort (r := fun a b => le (f a) (f b)) (s := le) (f := f) (l := l) (fun a _ b _ => rfl)
  exact this
theorem zip_msort {K : PySem.W.Frag} {H : Hp} {ds : List D} {xs : List V} (l : DenL K H ds xs) : DenL K H (sortD ds) (((((ds.map toPy).zip xs)).mergeSort (dataLe false Prod.fst)).map Prod.snd) := by
  have e1 : (((ds.map toPy).zip xs).mergeSort (dataLe false Prod.fst)).map Prod.snd = (((ds.zip xs).mergeSort fun a b => dataLe false toPy a.1 b.1).map Prod.snd) := by
    have e : (ds.map toPy).zip xs = (ds.zip xs).map fun p => (toPy p.1, p.2) := by
      rw [List.zip_map_left]
      rfl
    rw [e, ← map_msort (fun p : D × V => (toPy p.1, p.2)) (dataLe false Prod.fst), List.map_map]
    rfl
  have e2 : sortD ds = ((ds.zip xs).mergeSort fun a b => dataLe false toPy a.1 b.1).map Prod.fst := by
    rw [map_msort Prod.fst (dataLe false toPy), List.map_fst_zip (Nat.le_of_eq l.1)]
    rfl
  rw [e1, e2]
  have hp := List.mergeSort_perm (ds.zip xs) fun a b => dataLe false toPy a.1 b.1
  have key : ∀ (ps : List (D × V)), (∀ p ∈ ps, Den K H p.1 p.2) → DenL K H (ps.map Prod.fst) (ps.map Prod.snd) := by
    intro ps
    induction ps with
    | nil => exact fun _ => DenL.nil
    | cons p ps ih => exact fun h => DenL.cons (h p (by simp)) (ih fun q hq => h q (by simp [hq]))
  refine key _ fun p hm => ?_
  have hm' := hp.mem_iff.mp hm
  obtain ⟨i, e⟩ := List.mem_iff_getElem?.mp hm'
  rw [List.getElem?_zip_eq_some] at e
  exact l.2 i _ _ e.1 e.2
theorem depthAll_mem {n : Nat} : ∀ {ds : List PyData}, PyData.depthAll ds ≤ n → ∀ d ∈ ds, d.depth ≤ n
  | [], _, d, hd => by cases hd
  | x :: xs, h, d, hd => by
    simp only [PyData.depthAll] at h
    rcases List.mem_cons.mp hd with rfl | hd
    · omega
    · exact depthAll_mem (by omega) d hd
theorem seq_src {X : Cx} {C : DC} {H : Hp} {d : D} {v : V} {ds : List D} (e : seqD d = some ds) (h : Red C.K H d v) : ∃ a b xs, v = .ref a ∧ SrcIs C.K b H a xs ∧ DenL C.K H ds xs := by
  cases d <;> first | (cases e; done) | skip
  · cases e; obtain ⟨a, vs, rfl, h1, l1⟩ := red_tup h; exact ⟨a, true, vs, rfl, h1.sqt, l1⟩
  · cases e; obtain ⟨a, vs, rfl, h1, l1⟩ := red_lst h; exact ⟨a, false, vs, rfl, .inl h1, l1⟩
  · cases e; obtain ⟨a, vs, rfl, h1, l1⟩ := red_kt h; exact ⟨a, true, vs, rfl, h1, l1⟩
theorem callD_sorted {X : Cx} {C : DC} (cx : Ctx X C) : CallD X C (.builtin "sorted") (b1 sortedD) := by
  refine CallD.mk1 (cr_srt cx.hu) fun H v d Q Qv h hb fin => ?_
  obtain ⟨ds, e, ⟨hp, ha, hs⟩, q⟩ := hb
  obtain ⟨a, b, xs, rfl, h1, l1⟩ := seq_src (X := X) e h
  obtain ⟨b1, b2, b3⟩ := dpAll_of (K := C.K) (H := H) (n := 40) (fun d v p q => dp_of 40 d v p (.of q)) ds xs hp l1
  rw [toPyL_map] at b1 b3
  rw [cx.K]
  exact ⟨a, b, xs, _, rfl, h1, b1, fun d hd => by have := depthAll_mem b3 d hd; omega, ha, hs, fun p hp => fin_lst hp (zip_msort l1) fun H' m hd => fin _ H' _ m hd trivial q⟩
end DL

set_option Elab.async false
set_option linter.all false
set_option maxRecDepth 100000
namespace DL
open PySem PySem.Spec PyProof.Rows L2 PySem.W PySem.SeqAt
variable [WW]
/-! ### <, <=, >, >= of ints, texts, tuples -/
def cmpA (f : Int → Int → Bool) (g : List Nat → List Nat → Bool) (t : D → D → Bool) : B2 := fun x y Q => match x, y with
  | .int i, .int j => Q (.bl (f i j))
  | .str i, .str j => Q (.bl (g i.cps.toList j.cps.toList))
  | .tup xs, .tup ys => Pl 40 (.tup xs) ∧ Pl 40 (.tup ys) ∧ alike (toPy (.tup xs)) (toPy (.tup ys)) = true ∧ Q (.bl (t (.tup xs) (.tup ys)))
  | _, _ => False
def dlt (x y : D) : Bool := dataLt (toPy x) (toPy y)
def ltA : B2 := cmpA (fun i j => decide (i < j)) (fun i j => decide (i < j)) dlt
def leA : B2 := cmpA (fun i j => decide (i ≤ j)) (fun i j => !decide (j < i)) fun x y => !dlt y x
def gtA : B2 := cmpA (fun i j => decide (j < i)) (fun i j => decide (j < i)) fun x y => dlt y x
def geA : B2 := cmpA (fun i j => decide (j ≤ i)) (fun i j => !decide (i < j)) fun x y => !dlt x y
section
variable {X : Cx} {C : DC}
def rCmp (K : PySem.W.Frag) (g : PyData → PyData → Bool) : R2 := fun x y H Q => ∃ d e, Dp K H x d ∧ Dp K H y e ∧ alike d e = true ∧ d ≠ .none ∧ d.depth ≤ 60 ∧ Q (.bl (g d e)) H
theorem room60 {A : Around} {d e : PyData} (hu : A.units + 100 < cLine) (h : d.depth ≤ 60) : A.units + min d.depth e.depth < cLine := by
  have := Nat.min_le_left d.depth e.depth
  omega
theorem op_ltG (hu : X.A.units + 100 < cLine) : OpR X (compareOp .Lt) (rCmp X.K dataLt) := by
  intro pins s σ H x y v u Q I rx ry h
  obtain ⟨d, e, hd, he, hal, hn, hz, q⟩ := h
  obtain ⟨as, r1⟩ := Dp.reads I d x v hd rx
  obtain ⟨bs, r2⟩ := Dp.reads I e y u he ry
  exact lt_data r1 r2 hal hn (room60 hu hz) ⟨.bl _, H, I, rfl, q⟩
theorem op_gtG (hu : X.A.units + 100 < cLine) : OpR X (compareOp .Gt) (rCmp X.K fun d e => dataLt e d) := by
  intro pins s σ H x y v u Q I rx ry h
  obtain ⟨d, e, hd, he, hal, hn, hz, q⟩ := h
  obtain ⟨as, r1⟩ := Dp.reads I d x v hd rx
  obtain ⟨bs, r2⟩ := Dp.reads I e y u he ry
  exact gt_data r1 r2 hal hn (room60 hu hz) ⟨.bl _, H, I, rfl, q⟩
theorem op_leG (hu : X.A.units + 100 < cLine) : OpR X (compareOp .LtE) (rCmp X.K fun d e => !dataLt e d) := by
  intro pins s σ H x y v u Q I rx ry h
  obtain ⟨d, e, hd, he, hal, hn, hz, q⟩ := h
  obtain ⟨as, r1⟩ := Dp.reads I d x v hd rx
  obtain ⟨bs, r2⟩ := Dp.reads I e y u he ry
  exact le_data r1 r2 hal hn (room60 hu hz) ⟨.bl _, H, I, rfl, q⟩
theorem op_geG (hu : X.A.units + 100 < cLine) : OpR X (compareOp .GtE) (rCmp X.K fun d e => !dataLt d e) := by
  intro pins s σ H x y v u Q I rx ry h
  obtain ⟨d, e, hd, he, hal, hn, hz, q⟩ := h
  obtain ⟨as, r1⟩ := Dp.reads I d x v hd rx
  obtain ⟨bs, r2⟩ := Dp.reads I e y u he ry
  exact ge_data r1 r2 hal hn (room60 hu hz) ⟨.bl _, H, I, rfl, q⟩
theorem opD_cmpA {op : CmpOp} {f : Int → Int → Bool} {g : List Nat → List Nat → Bool} {t : PyData → PyData → Bool} (cx : Ctx X C) (ho : OpR X (compareOp op) (rCmp X.K t))
    (h1 : ∀ i j, t (.int i) (.int j) = f i j) (h2 : ∀ i j, t (.str i) (.str j) = g i.cps.toList j.cps.toList) : OpD X C (compareOp op) (cmpA f g fun x y => t (toPy x) (toPy y)) := by
  refine OpD.mk ho fun H x y dx dy Q Qv hx hy hb fin => ?_
  rw [← cx.K] at hx hy
  cases dx <;> first | exact hb.elim | skip
  · cases dy <;> first | exact hb.elim | skip
    rename_i i j
    have a := dp_of 0 (.int i) _ trivial hx
    have b := dp_of 0 (.int j) _ trivial hy
    exact ⟨_, _, a.1, b.1, by simp [alike, toPy], by simp [toPy], by simp [toPy, PyData.depth], .inl (fin _ H _ (Mild.refl H) (.bl _) trivial (by rw [show t (toPy (.int i)) (toPy (.int j)) = f i j from h1 i j]; exact hb))⟩
  · cases dy <;> first | exact hb.elim | skip
    rename_i i j
    have a := dp_of 0 (.str i) _ trivial hx
    have b := dp_of 0 (.str j) _ trivial hy
    exact ⟨_, _, a.1, b.1, by simp [alike, toPy], by simp [toPy], by simp [toPy, PyData.depth], .inl (fin _ H _ (Mild.refl H) (.bl _) trivial (by rw [show t (toPy (.str i)) (toPy (.str j)) = _ from h2 i j]; exact hb))⟩
  · cases dy <;> first | exact hb.elim | skip
    obtain ⟨p1, p2, al, q⟩ := hb
    have a := dp_of 40 _ _ p1 hx
    have b := dp_of 40 _ _ p2 hy
    exact ⟨_, _, a.1, b.1, al, by simp [toPy], by omega, .inl (fin _ H _ (Mild.refl H) (.bl _) trivial q)⟩
theorem opD_ltA (cx : Ctx X C) : OpD X C (compareOp .Lt) ltA := opD_cmpA cx (op_ltG cx.hu) (fun i j => dataLt_int i j) fun i j => dataLt_str i j
theorem opD_gtA (cx : Ctx X C) : OpD X C (compareOp .Gt) gtA := opD_cmpA cx (op_gtG cx.hu) (fun i j => dataLt_int j i) fun i j => dataLt_str j i
theorem opD_leA (cx : Ctx X C) : OpD X C (compareOp .LtE) leA := opD_cmpA cx (op_leG cx.hu) (fun i j => by rw [dataLt_int]; by_cases h : i ≤ j <;> simp [h] <;> omega) fun i j => by rw [dataLt_str]
theorem opD_geA (cx : Ctx X C) : OpD X C (compareOp .GtE) geA := opD_cmpA cx (op_geG cx.hu) (fun i j => by rw [dataLt_int]; by_cases h : j ≤ i <;> simp [h] <;> omega) fun i j => by rw [dataLt_str]
end
end DL

set_option Elab.async false
set_option linter.all false
set_option maxRecDepth 100000
namespace DL
open PySem PySem.Spec PyProof.Rows L2
variable [WW]
/-! ### raise -/
section
variable {X : Cx} {C : DC} {pos : Pos}
def sRaise (c : Addr) : TSD := fun E _ σ st => E ⟨c, []⟩ σ st
theorem ds_raise {c : Addr} {bmB : List Value} {B newId initId : String} {x m : Str} {j : Nat} {p p2 p3 : Pos} (cx : Ctx X C) (F : ExcBaseFacts B newId initId bmB) (q : PySem.W.excIn X.K c bmB newId = true) (gC : X.mg x = some (.ref c))
    (kC : PySem.W.keepIn X.K (.ref c) = true) (h1 : PySem.W.subIn X.K (.ref c) (.type "BaseException") = some true) (h2 : PySem.W.typeIn X.K (.ref c) = some (.type "type")) (hg : Gl X x) (hdb : (x == ("__debug__" : Str)) = false := by decide) :
    DS X C (.Raise (some (.Call (.Name x p) [.Constant (.str m) j p2] [] p3)) none pos) (sRaise c) := by
  obtain ⟨W, tk, link⟩ := cx.tk
  refine DS.imp (ps_raise cx.calm tk (pmk_own F q gC kC (raises_own h1 h2) hg hdb)) fun D σ H q => ?_
  obtain ⟨σd, st, Dd, r, ht, l⟩ := q
  exact link _ _ _ _ _ _ _ r ⟨rfl, .inl ⟨rfl, rfl⟩⟩ ht
end
/-! ### try: body / except x as n: y = n, the error kept -/
section
variable {X : Cx} {pins : List (Addr × Obj)} {σ : VS} {H : Hp} {s : Shared}
theorem exo_at {P : Program} {w : World} {h : Heap} {a c : Addr} {oe : Obj} {vs : Array Value} (e : h.get? a = some oe) (hc : Zc (.ref c) none oe) (hd : oe.data = .fields vs) : ObjOk P w H h a (.frz oe (EXO c a)) :=
  ⟨e, ⟨oe, vs, e, hc, hd⟩, ⟨oe, e⟩, fun _ _ ⟨o, v, q, r⟩ k => ⟨o, v, k o q, r⟩⟩
/-- a caught error is known from now on -/
theorem inv_caught {a c : Addr} {oe : Obj} {vs : Array Value} (I : Inv X ((a, oe) :: pins) σ H s) (hc : Zc (.ref c) none oe) (hd : oe.data = .fields vs) (h0 : X.s_0.heap.get? a = none) (hp : ∀ p ∈ X.pn ++ pins, p.1 ≠ a) :
    Inv X pins σ (upd H a (.frz oe (EXO c a))) s := by
  obtain ⟨ha, na, nL, nF, ncell⟩ := I.pin (a, oe) (by simp)
  have nh : ∀ b o, H b = some o → b ≠ a := fun b o e z => by rw [z] at e; have na' : H a = none := na; rw [na'] at e; cases e
  refine ⟨I.ok, I.os, I.bare, ⟨I.base.keep, I.base.slot, fun b v q n hx => ?_, I.base.there, fun b xs q => ?_, fun b u xs q => ?_, fun b ps q => ?_⟩, I.loc, I.cell, ?_, fun y b e => ?_, fun p hm => ?_, fun b u e => ?_, I.len⟩
  · rw [upd_ne (fun z => by rw [z, h0] at q; cases q)]
    exact I.base.free b v q n hx
  · have z := I.base.tups b xs q
    rw [upd_ne (nh _ _ z)]; exact z
  · have z := I.base.frzs b u xs q
    rw [upd_ne (nh _ _ z)]; exact z
  · obtain ⟨m, z⟩ := I.base.tbls b ps q
    exact ⟨m, by rw [upd_ne (nh _ _ z)]; exact z⟩
  · rw [upd_ne (Ne.symm nL)]; exact I.free
  · have n : b ≠ a := fun z => by
      obtain ⟨v, o, ho, hv⟩ := I.cell y b e
      rw [z] at ho
      have ha' : s.heap.get? a = some oe := ha
      rw [ha'] at ho
      cases ho
      exact ncell _ hv
    rw [upd_ne n]; exact I.freeC y b e
  · obtain ⟨z1, z2, z3⟩ := I.pin p (by
      rcases List.mem_append.mp hm with q | q
      · exact List.mem_append_left _ q
      · exact List.mem_append_right _ (List.mem_cons_of_mem _ q))
    exact ⟨z1, by rw [upd_ne (hp p hm)]; exact z2, z3⟩
  · by_cases hb : b = a
    · subst hb
      rw [upd_same] at e; cases e
      exact exo_at ha hc hd
    · rw [upd_ne hb] at e
      exact (I.hok b u e).stay (fun _ _ _ q => q) (fun c' q => by rw [upd_ne (nh _ _ q)]; exact q) fun c' xs q => by rw [upd_ne (nh _ _ q)]; exact q
/-- behind the suite, the error still pinned -/
theorem unsuite_pin {a : Addr} {oe : Obj} {pn' : List (Addr × Obj)} (I : Inv (X.suite a ((a, oe) :: (X.pn ++ pins))) pn' σ H s) (ok : X.Ok) : Inv X ((a, oe) :: pins) σ H s :=
  ⟨ok, I.os, I.bare, I.base, I.loc, I.cell, I.free, I.freeC, fun p hp => I.pin p (List.mem_append_left _ (by
    rcases List.mem_append.mp hp with q | q
    · exact List.mem_cons_of_mem _ (List.mem_append_left _ q)
    · rcases List.mem_cons.mp q with q | q
      · rw [q]; exact List.mem_cons_self
      · exact List.mem_cons_of_mem _ (List.mem_append_right _ q))), I.hok, I.len⟩
/-- the wish of 'except x as n' whose suite keeps the error: what follows knows it -/
def wKeep (K : PySem.W.Frag) (c : Value) (i j : Nat) (Wout : WX) (D : Ends) : WX := fun cls d σ H => ∃ b, PySem.W.exmOne K cls c = some b ∧
  (b = true → d = none ∧ ∃ C, cls = .ref C ∧ ∀ a, H a = none → ∀ o : Obj, D.nx (((σ.set i (some (.ref a))).set j (some (.ref a))).set i none) (upd H a (.frz o (EXO C a)))) ∧ (b = false → Wout cls d σ H)
theorem ps_try_kept {x n y : Str} {c : Value} {i j : Nat} {body : List Stmt} {np np2 yp ap pos pos' : Pos} {tb : WX → TS} {Wout : WX} (hex : X.ex = []) (hs : X.stack = X.env :: X.outer) (hf : X.env.frame = some X.env.locals) (hN : X.N.Nodup) (hi : X.N[i]? = some n) (hln : X.env.kindOf n = some .local)
    (hj : X.N[j]? = some y) (hly : X.env.kindOf y = some .local) (hc : Names X x c) (tk : Takes X Wout) (hdn : (n == ("__debug__" : Str)) = false := by decide) (hcd : (n == ("__classdict__" : Str)) = false := by decide)
    (hb : ∀ (W : WX) (pn : List (Addr × Obj)) (xe : Value → Shared → Prop), Takes (X.tr pn xe) W → PassesOwn (model X.prog X.w) X.A X.env xe → PSs (X.tr pn xe) body (tb W))
    (hsw : ∀ (a : Addr) (pn : List (Addr × Obj)), swapsWith (.Name n np2) (some (.Name y yp)) ap.line (X.suite a pn).env = pure false := by intros; rfl) :
    PS X (.Try body [.ExceptHandler (some (.Name x np)) (some n) [.Assign [.Name y yp] (.Name n np2) ap] pos'] [] [] pos) (fun D σ H => tb (wKeep X.K c i j Wout D) D σ H) := by
  refine ⟨fun pins s σ H D I h => ?_⟩
  have ok := I.ok
  have hfr : X.A.frames = some (X.env :: X.outer) := by rw [ok.frames, hs]
  refine wpAny_Try_except ?_
  refine wpAny_mono ((hb (wKeep X.K c i j Wout D) (X.pn ++ pins) (fun e s₁ => wpAny (model X.prog X.w) X.A (noteFrame e X.env) (fun _ s₂ => wpAny (model X.prog X.w) X.A (setFlight e none) (fun _ s₃ =>
    wpAny (model X.prog X.w) X.A (handleBy e X.env [.ExceptHandler (some (.Name x np)) (some n) [.Assign [.Name y yp] (.Name n np2) ap] pos']) (SP X pins D) X.xe s₃) X.xe s₂) X.xe s₁) (fun u s' xx => ?_) PassesOwn.looking).run [] s σ H D (I.toTry _) h) (fun f s1 hsp => ?_) (fun e s1 he => he)
  · obtain ⟨a, B, sI, pins', σ', H', cls, d, rfl, J', nb, up, sky, na, os, ag, b, hb1, hyes, hno⟩ := xx
    have J : Inv X pins σ' H' sI := J'.ofTry ok
    have sky' : Sky B (X.env :: X.outer) a (Zc cls d) X.env.locals s'.heap := by rw [← hs]; exact sky
    show wpAny (model X.prog X.w) X.A (noteFrame (.ref a) X.env) _ _ _
    refine Sky.land Zc.steady hfr hf sky' fun h3 fl3 up3 => ?_
    have J3 : Inv X pins σ' H' { s' with heap := h3 } := J.landed nb fl3.1 (up.trans up3) os ag
    obtain ⟨oe3, vs3, he3, hz3, hd3⟩ := fl3.there
    have nfr : a ∉ frs (X.env :: X.outer) := fun hm => by
      obtain ⟨_, o', e', hnf⟩ := fl3.2.2.1.mem hm
      rw [he3] at e'; cases e'
      exact hnf _ hd3
    have nL : a ≠ X.env.locals := fun z => nfr (List.mem_filterMap.mpr ⟨X.env, List.mem_cons_self, by rw [hf, z]⟩)
    have nF : a ∉ X.fs := fun hm => by
      obtain ⟨e, he, q⟩ := List.mem_filterMap.mp hm
      exact nfr (List.mem_filterMap.mpr ⟨e, List.mem_cons_of_mem _ he, q⟩)
    have nI : sI.heap.get? a = none := by
      cases q : sI.heap.get? a with
      | none => rfl
      | some o =>
        have z := nb a o q (by rw [hs]; exact nfr)
        have z2 := fl3.2.1
        rw [z2] at z; cases z
    have n0 : X.s_0.heap.get? a = none := by
      cases q : X.s_0.heap.get? a with
      | none => rfl
      | some o =>
        obtain ⟨o', z⟩ := J.base.there a o q (by rw [hex]; simp)
        rw [nI] at z; cases z
    have hpn : ∀ p ∈ X.pn ++ pins, p.1 ≠ a := fun p hp z => by
      have w := (J.pin p hp).1
      rw [z, nI] at w; cases w
    have S3 := J3.suite he3 hd3 na nL nF
    refine wpAny_handleBy_cons (codeAny_handlers_test ?_) (by intro q; cases q)
    have LT : PySem.W.Looks (model X.prog X.w) h3 (typeOf (.ref a)) cls := fun A Q E s k q => wpAny_typeOf_ref (k _ _ he3) (by rw [hz3.1]; exact q)
    have LM := PySem.W.exm_one (M := model X.prog X.w) (J3.kIn) LT hb1
    have test : ∀ {Q : Value → Shared → Prop} {E : Value → Shared → Prop}, Q c { s' with heap := h3 } → wpAny (model X.prog X.w) (X.A.mark (some (.ref a))) (eval (.Name x np) X.env) Q E { s' with heap := h3 } := fun {Q E} q => by
      obtain ⟨hg, hdbg, hm | ⟨hm, hv, hnn⟩⟩ := hc
      · exact ld_glob (X := X.suite a ((a, oe3) :: (X.pn ++ pins))) S3 hg hm q hdbg
      · exact ld_blt (X := X.suite a ((a, oe3) :: (X.pn ++ pins))) S3 hg hm hv q hnn hdbg
    refine test (LM.here ?_)
    cases b with
    | true =>
      obtain ⟨ed, C, ec, hy2⟩ := hyes rfl
      subst ed ec
      refine codeAny_handlers_suite_as ?_
      refine HandSPX.lands_againZ fl3 fun h4 fl4 up4 => ?_
      have J4 : Inv X pins σ' H' { s' with heap := h4 } := J.landed nb fl4.1 ((up.trans up3).trans up4) os ag
      obtain ⟨oe4, vs4, he4, hz4, hd4⟩ := fl4.there
      have S4 := J4.suite he4 hd4 na nL nF
      refine store_ok (X := X.suite a ((a, oe4) :: (X.pn ++ pins))) (v := .ref a) S4 hN hi (.inl hln) rfl (fun s5 S5 => ?_) (.inr hln)
      have hsl : i < σ'.length := by
        have := S5.len
        rw [List.length_set] at this
        have w : i < X.N.length := (List.getElem?_eq_some_iff.mp hi).1
        have e : X.N.length = σ'.length := by first | exact this | exact this.symm | (have := this; omega)
        omega
      have hv : PE (X.suite a ((a, oe4) :: (X.pn ++ pins))) (.Name n np2) (tVar i) := pe_var hi (.inl hln) hdn hcd
      have hst : PS (X.suite a ((a, oe4) :: (X.pn ++ pins))) (.Assign [.Name y yp] (.Name n np2) ap) _ := ps_set hN hj (.inl hly) hv (hsw a _) (.inr hly)
      have run := (pss_one hst).run [] s5 _ H' { nx := fun σ6 H6 => σ6 = ((σ'.set i (some (.ref a))).set j (some (.ref a))) ∧ H6 = H', rt := fun _ _ => False } S5 ⟨.ref a, by rw [List.getElem?_set_self hsl], rfl, rfl⟩
      refine wpAny_mono run (fun f s6 hsp => ?_) (fun _ _ z => False.elim z)
      cases f with
      | next =>
        obtain ⟨σ6, H6, S6, e1, e2⟩ := hsp
        subst e1 e2
        have P6 := unsuite_pin S6 ok
        refine gone_ok P6 hN hi hln fun s7 J7 => ⟨_, _, inv_caught J7 hz4 hd4 n0 hpn, hy2 a na oe4⟩
      | brk =>
        obtain ⟨_, _, _, q6⟩ := hsp
        exact q6.elim
      | cont =>
        obtain ⟨_, _, _, q6⟩ := hsp
        exact q6.elim
      | ret u =>
        obtain ⟨_, _, _, _, _, q6⟩ := hsp
        exact q6.elim
    | false =>
      show wpAny _ X.A (handleBy (.ref a) X.env []) _ _ _
      refine wpAny_handleBy_nil ?_
      obtain ⟨k1, k2, k3, oe, vs, T, oT, ts', he, hz, hd, h1, hr⟩ := id fl3
      unfold PySem.passOn
      refine wpAny_bind (wpAny_field he hd h1 ?_)
      rw [if_neg (show ¬ ((Value.ref T == Value.none) = true) from by simp)]
      have fin : wpAny (model X.prog X.w) X.A (setFlight (.ref a) X.env.frame) (fun _ s4 => wpAny (model X.prog X.w) X.A (throw (.ref a) : Sem Flow) (SP X pins D) X.xe s4) X.xe { s' with heap := h3 } := by
        rw [hf]
        refine HandSPX.setFlight_upZ fl3 fun h4 hh4 up4 => wpAny_throw (tk _ _ ?_)
        exact ⟨a, B, sI, pins, σ', H', cls, d, rfl, J, nb, (up.trans up3).trans up4, .inr (.inr (by rw [hs]; exact hh4)), na, os, ag, hno rfl⟩
      first
        | exact wpAny_bind (wpAny_pure (wpAny_bind fin))
        | exact wpAny_bind fin
  · cases f with
    | next =>
      obtain ⟨σ', H', J', q⟩ := hsp
      exact wpAny_execs_nil ⟨σ', H', J'.ofTry ok, q⟩
    | brk =>
      obtain ⟨σ', H', J', q⟩ := hsp
      exact ⟨σ', H', J'.ofTry ok, q⟩
    | cont =>
      obtain ⟨σ', H', J', q⟩ := hsp
      exact ⟨σ', H', J'.ofTry ok, q⟩
    | ret u =>
      obtain ⟨v, σ', H', J', r, q⟩ := hsp
      exact ⟨v, σ', H', J'.ofTry ok, r, q⟩
end
end DL

set_option Elab.async false
set_option linter.all false
set_option maxRecDepth 100000
namespace DL
open PySem PySem.Spec PyProof.Rows L2
variable [WW]
/-! ### caught(lambda: e): the error kept, or None -/
def TCaught (K : PySem.W.Frag) (CS : Value) : (XK → Hp → VK → Prop) → Hp → VK → Prop := fun tl H Q =>
  tl (fun cls d H' => ∃ b, PySem.W.exmOne K cls CS = some b ∧ (b = true → d = none ∧ ∃ C, cls = .ref C ∧ ∀ a, H' a = none → ∀ o : Obj, Q (.ref a) (upd H' a (.frz o (EXO C a)))) ∧ (b = false → False)) H fun _ H' => ∃ v, some (some V.non) = some (some v) ∧ Q v H'
/-- names hold as many values as there are -/
theorem takes_len {X : Cx} {W : WX} (t : Takes X W) : Takes X (fun c d σ H => X.N.length = σ.length → W c d σ H) := fun u s' ⟨a, B, sI, pins, σ, H, cls, d, e, I, nb, up, sky, na, os, ag, w⟩ =>
  t u s' ⟨a, B, sI, pins, σ, H, cls, d, e, I, nb, up, sky, na, os, ag, w I.len.symm⟩
theorem caught_gives {X : Cx} {x a e n y q : Str} {sg : Scope} {g : Addr} {cs : Value} {cdg : Value} {j0 : Nat} {y0 y1 p0 p00 p1 p2 p3 p4 p5 p6 p7 p8 p9 p10 : Pos} (hN : [a, y, n].Nodup)
    (hln : sg.names.lookup n = some .local) (hly : sg.names.lookup y = some .local) (hge : sg.names.lookup e = some .globalImplicit) (hme : X.mg e = some cs)
    (hde : (e == ("__debug__" : Str)) = false) (hdn : (n == ("__debug__" : Str)) = false) (hcn : (n == ("__classdict__" : Str)) = false) (hdy : (y == ("__debug__" : Str)) = false) (hcy : (y == ("__classdict__" : Str)) = false) :
    LamX.GivesTo X [a, y, n] x sg g cdg [.Assign [.Name y y0] (.Constant .none j0 p0) p00, .Try [.Expr (.Call (.Name a p1) [] [] p2) p3] [.ExceptHandler (some (.Name e p4)) (some n) [.Assign [.Name y p5] (.Name n p6) p7] p8] [] [] p9, .Return (some (.Name y p10)) y1] a q (TCaught X.K cs) := by
  intro f c' s H Q tl act hc h
  have hgl : Gl (cxOf C8.CX0 X.prog X.w X.K X.mg X.base [a, y, n] x sg g cdg X.A X.stack s H C8.E0).nox e := hge
  have s1 := ps_set (X := (cxOf C8.CX0 X.prog X.w X.K X.mg X.base [a, y, n] x sg g cdg X.A X.stack s H C8.E0).nox) (i := 1) (x := y) (pos' := y0) (pos := p00) hN rfl (.inl hly) (pe_non (j := j0) (pos := p0)) rfl (.inr hly)
  have s2 := ps_try_kept (X := (cxOf C8.CX0 X.prog X.w X.K X.mg X.base [a, y, n] x sg g cdg X.A X.stack s H C8.E0).nox) (x := e) (n := n) (y := y) (c := cs) (i := 2) (j := 1) (body := [.Expr (.Call (.Name a p1) [] [] p2) p3]) (np := p4) (np2 := p6) (yp := p5) (ap := p7) (pos := p9) (pos' := p8)
      (tb := fun W D σ H => ∃ Ech : XK, (∀ cls d σ' H', Ech cls d H' → 3 = σ'.length → W cls d σ' H') ∧ σ[0]? = some (some (.ref f)) ∧ H c' = some (LamX.CodeO c' q) ∧ tl Ech H fun _ H' => D.nx σ H') (Wout := fun _ _ _ _ => False)
      rfl rfl rfl hN rfl hln rfl hly ⟨hgl, hde, .inl hme⟩ LamX.takes0 hdn hcn (fun W pn xe tk _ => ?_) (fun _ _ => rfl)
  have s3 := ps_ret (X := (cxOf C8.CX0 X.prog X.w X.K X.mg X.base [a, y, n] x sg g cdg X.A X.stack s H C8.E0).nox) (pos := y1) (pe_var (pos := p10) (i := 1) (x := y) (X := (cxOf C8.CX0 X.prog X.w X.K X.mg X.base [a, y, n] x sg g cdg X.A X.stack s H C8.E0).nox) rfl (.inl hly) hdy hcy)
  · refine ⟨_, pss_cons s1 (pss_cons s2 (pss_one s3)), ?_⟩
    refine ⟨_, fun cls d σ' H' hx hl => ?_, rfl, hc, (h : tl _ H fun _ H' => ∃ v, some (some V.non) = some (some v) ∧ Q v H')⟩
    obtain ⟨b, e1, e2, e3⟩ := hx
    refine ⟨b, e1, fun hb => ?_, fun hb => e3 hb⟩
    obtain ⟨ed, C, ec, z⟩ := e2 hb
    refine ⟨ed, C, ec, fun a ha o => ⟨.ref a, ?_, z a ha o⟩⟩
    match σ', hl with
    | [u, v, w], _ => rfl
  · refine ⟨fun pins s' σ H' D I h' => ?_⟩
    obtain ⟨Ech, hW, h1, h2, h3⟩ := h'
    have hp := act (fun cls d σ' H' => 3 = σ'.length → W cls d σ' H') pn xe Ech p1 p2 (takes_len tk) hW
    have hq := pss_one (ps_expr (pos := p3) hp rfl)
    exact hq.run pins s' σ H' D I ⟨h1, h2, h3⟩
/-! the state inside a lambda -/
def hideS : Sl → Sl
  | .val d => .val d
  | _ => .un
def hide (σ : En) : En := σ.map hideS
section
variable {C : DC} {σd : En} {st : Sto} {σ : VS} {H H1 : Hp}
theorem Rel.lam (r : Rel C σd st σ H) (e : LamX.ExtN H H1) (t : LamX.Tabs C.T H1) : Rel C σd st σ H1 ∧ Keep H H1 := by
  have k : Keep H H1 := ⟨fun a xs q => e a _ q (by intro z w; cases w), fun a o u q => e a _ q (by intro z w; cases w)⟩
  refine ⟨⟨r.len, fun i x ei => ?_, r.dist, r.new, fun a o eo => ?_, r.dom, fun a o e1 e2 e3 => e a o (r.fr a o e1 e2 e3) e3, fun a q => (let ⟨o, e2, n⟩ := r.th a q; ⟨o, e a o e2 n, n⟩), t⟩, k⟩
  · refine (r.sl i x ei).keep k fun a ho hv => ?_
    obtain ⟨u, e1, _, e2⟩ := r.owned ⟨x, ei, ho, join_some hv⟩
    rw [e a u e1 e2, e1]
  · obtain ⟨u, e1, _, e2⟩ := (r.sh a o eo).some
    exact (r.sh a o eo).keep k (by rw [e a u e1 e2, e1])
/-- the context of a lambda's body, run from H on -/
def DC.lam (C : DC) (H : Hp) (st : Sto) (E : XD) : DC := ⟨C.K, nt H, fun a => st a ≠ none, E, C.T⟩
theorem Rel.inLam (r : Rel C σd st σ H) (E : XD) : Rel (C.lam H st E) (hide σd) st σ H := by
  have no : ∀ i a, ¬ Owns (hide σd) σ i a := fun i a ⟨x, e, ho, _⟩ => by
    unfold hide at e
    rw [List.getElem?_map] at e
    obtain ⟨y, _, rfl⟩ := Option.map_eq_some_iff.mp e
    cases y <;> cases ho
  refine ⟨by unfold hide; rw [List.length_map]; exact r.len, fun i x e => ?_, fun i j a h => absurd h (no i a), fun i a h => absurd h (no i a), r.sh, fun a h => .inl h, fun a o e1 _ _ => (of_nt e1).1, fun a h => ?_, r.tb⟩
  · unfold hide at e
    rw [List.getElem?_map] at e
    obtain ⟨y, e1, rfl⟩ := Option.map_eq_some_iff.mp e
    have q := r.sl i y e1
    cases y <;> first | trivial | exact q
  · have h : nt H a ≠ none := h
    cases q : nt H a with
    | none => exact absurd q h
    | some o => exact ⟨o, of_nt q⟩
/-- .. and behind it -/
theorem Rel.outLam {E : XD} {σd' : En} {st' : Sto} {σ' : VS} (r : Rel C σd st σ H) (r' : Rel (C.lam H st E) σd' st' σ' H1) : Rel C σd st' σ H1 ∧ Keep H H1 := by
  have a : Aft C.T st H st' H1 := ⟨fun a o e1 e2 e3 => r'.fr a o (nt_of e1 e3) (fun z => z e2) e3, fun a h => r'.dom a h, fun a ⟨o, e, n⟩ => r'.th a (by show nt H a ≠ none; rw [nt_of e n]; simp), r'.tb⟩
  exact ⟨r.after r'.sh a, a.keep r.sh⟩
end
def eCaught (K : PySem.W.Frag) (cs : Value) (te : TED) : TED := fun _ σ st Q => te (fun x _ st1 => x.fs = [] ∧ PySem.W.exmOne K (.ref x.c) cs = some true ∧ Q (.exc x.c []) σ st1) (hide σ) st fun _ _ st1 => Q .non σ st1
section
variable {X : Cx} {C : DC}
theorem de_caught {x a e n y : Str} {g : Addr} {cs : Value} {k : Nat} {pg : Arguments} {bg : List Stmt} {sg : Scope} {fd : FuncData} {c P : Addr} {params : Arguments} {body : Expr} {scope : Scope} {te : TED} {p lpos pos : Pos}
    {j0 : Nat} {y0 y1 p0 p00 p1 p2 p3 p4 p5 p6 p7 p8 p9 p10 : Pos}
    (cx : Ctx X C) (F : FunD X.K x x pg bg sg [] [] g fd) (hg : Gl X x) (hm : X.mg x = some (.ref g)) (hb : L2.Binds X.K fd [a] [])
    (hbg : bg = [.Assign [.Name y y0] (.Constant .none j0 p0) p00, .Try [.Expr (.Call (.Name a p1) [] [] p2) p3] [.ExceptHandler (some (.Name e p4)) (some n) [.Assign [.Name y p5] (.Name n p6) p7] p8] [] [] p9, .Return (some (.Name y p10)) y1])
    (Sg : FnScope [a, y, n] [a] sg) (hN : [a, y, n].Nodup) (hva : Vis sg a) (hln : sg.names.lookup n = some .local) (hly : sg.names.lookup y = some .local) (hge : sg.names.lookup e = some .globalImplicit) (hme : X.mg e = some cs)
    (TB : LamX.TabB X.base X.mg c P) (hcode : X.env.code = .ref c) (hmT : (P, X.env.qual ++ "<lambda>") ∈ C.T) (hu : ∀ p ∈ C.T, p.1 = P → p.2 = X.env.qual ++ "<lambda>") (hr : Room (k + 2) X.A) (L : LamX.LamS X.env.scope scope) (hdef : defaultsOf params X.env = ([], []))
    (hbind : ∀ (q : Str) (cl : List (Str × Addr)) (pm cv ctv : Value), bindArgs (PySem.W.kla_fn "<lambda>" q params body scope cl pm cv ctv) ⟨[], []⟩ = pure [])
    (hbody : ∀ (A : Around) (outer : List Env) (s : Shared) (H : Hp) (E : XK) (f c' : Addr) (C' : DC), Room k (A.deeper (LamX.lamEnv X scope s.heap.objs.size f c')) → Ctx (LamX.lamCx X A outer s H E scope f c') C' → C'.K = C.K → C'.T = C.T → DE (LamX.lamCx X A outer s H E scope f c') C' body te)
    (hdb : (x == ("__debug__" : Str)) = false := by decide) (hda : (a == ("__debug__" : Str)) = false := by decide) (hca : (a == ("__classdict__" : Str)) = false := by decide)
    (hde : (e == ("__debug__" : Str)) = false := by decide) (hdn : (n == ("__debug__" : Str)) = false := by decide) (hcn : (n == ("__classdict__" : Str)) = false := by decide) (hdy : (y == ("__debug__" : Str)) = false := by decide) (hcy : (y == ("__classdict__" : Str)) = false := by decide) :
    DE X C (.Call (.Name x p) [.Lambda params body scope lpos] [] pos) (eCaught C.K cs te) := by
  obtain ⟨oc, od, dV, kV, doc, pm, an, cdv, ct, osl, efd, lk, hcd, _, _⟩ := F.ex
  subst efd hbg
  have key := LamX.pe_lamcall (T := C.T) (TT := TCaught X.K cs) (c := c) (P := P) (k := k) (params := params) (body := body) (scope := scope) (p := p) (lpos := lpos) (pos := pos)
    (t := fun E σ H Q => ∃ C', C'.K = C.K ∧ C'.T = C.T ∧ (∀ cls d σ H x σd st, Rel C' σd st σ H → XDen C'.K H x cls d → C'.E x σd st → E cls d H) ∧ emb C' te σ H Q)
    hg hm F.kp lk hcd hb Sg rfl hva (caught_gives hN hln hly hge hme hde hdn hcn hdy hcy) TB hcode hmT hu hr L hdef hbind (fun A outer s H E f c' hr2 => ⟨fun pins s' σ H' Q I h => ?_⟩) hdb hda hca
  · refine DE.imp key fun σ H Q q => ?_
    obtain ⟨σd, st, Qd, r, ht, kq⟩ := q
    refine ⟨r.tb, fun H1 eN T1 => ?_⟩
    obtain ⟨r1, k1⟩ := r.lam eN T1
    have ht' : te (fun x _ st1 => x.fs = [] ∧ PySem.W.exmOne C.K (.ref x.c) cs = some true ∧ Qd (.exc x.c []) σd st1) (hide σd) st (fun _ _ st1 => Qd .non σd st1) := ht
    refine ⟨C.lam H1 st fun x _ st1 => x.fs = [] ∧ PySem.W.exmOne C.K (.ref x.c) cs = some true ∧ Qd (.exc x.c []) σd st1, rfl, rfl, ?_, hide σd, st, _, r1.inLam _, ht', ?_⟩
    · rintro cls d σ2 H2 x σd2 st2 r2 ⟨ec, hx⟩ ⟨hfs, hexm, q⟩
      subst ec
      obtain ⟨r3, k3⟩ := r1.outLam r2
      refine ⟨true, by rw [cx.K]; exact hexm, fun _ => ⟨?_, x.c, rfl, fun a ha o => ?_⟩, fun z => by cases z⟩
      · rcases hx with ⟨_, hd⟩ | ⟨nn, _⟩
        · exact hd
        · exact absurd hfs nn
      · exact kq _ _ (.exc x.c []) σd st2 (r3.mild (Mild.new ha)) (.of (.exc upd_same)) (k1.trans (k3.trans (Keep.new ha))) q
    · intro v H2 d σd2 st2 r2 hd k2 q
      obtain ⟨r3, k3⟩ := r1.outLam r2
      exact ⟨.non, rfl, kq .non H2 .non σd st2 r3 (.of .non) (k1.trans k3) q⟩
  · obtain ⟨C', hK, hT, link, z⟩ := h
    have hcl : (LamX.lamCx X A outer s H E scope f c').K = C'.K := by rw [hK]; exact cx.K
    have cx' : Ctx (LamX.lamCx X A outer s H E scope f c') C' := by
      refine ⟨hcl, cx.w, rfl, cx.nd, ?_, (fun cls d _ H => E cls d H), takes_of rfl rfl rfl rfl, fun cls d σ H' x σd st' r hx he => link cls d σ H' x σd st' r hx he⟩
      have := hr2.un
      show (A.deeper (LamX.lamEnv X scope s.heap.objs.size f c')).units + 100 < cLine
      omega
    exact (hbody A outer s H E f c' C' hr2 cx' hK hT).run pins s' σ H' Q I z
end
end DL

set_option Elab.async false
set_option linter.all false
set_option maxRecDepth 100000
namespace DL
open PySem PySem.Spec PyProof.Rows L2
variable [WW]
/-! ### isinstance against an own class -/
def excCB (K : PySem.W.Frag) (D : Addr) : Bool :=
  decide (PySem.W.findIn K (.ref D) "__getattribute__" = some (some (.builtin "BaseException.__getattribute__"))) && (decide (PySem.W.findIn K (.ref D) "__getattr__" = some none) && (decide (PySem.W.subIn K (.ref D) (.type "BaseException") = some true) && (PySem.W.hasDictIn K D &&
  (decide (PySem.W.findIn K (.ref D) "__class__" = some (some (.builtin "object.__class__"))) && (decide (PySem.W.specialIn K (.builtin "object.__class__") "__get__" = some (some (.builtin "getset_descriptor.__get__"))) && (decide (PySem.W.takesIn K (.builtin "object.__class__") = some true) && decide (PySem.W.mroIn K D (.type "object") = some true)))))))
theorem excC_of {K : PySem.W.Frag} {D : Addr} (h : excCB K D = true) : ExcC K D := by
  unfold excCB at h
  simp only [Bool.and_eq_true, decide_eq_true_eq] at h
  obtain ⟨h1, h2, h3, h4, h5, h6, h7, h8⟩ := h
  exact ⟨h1, h2, h3, h4, h5, h6, h7, h8⟩
def isOwnD (K : PySem.W.Frag) (C0 : Addr) (d : D) (Q : Bool → Prop) : Prop := match d with
  | .exc c _ => ∃ b, excCB K c = true ∧ PySem.W.kitOne K (.ref c) (.ref C0) = some b ∧ Q b
  | d => ∃ t b, tyE d = some t ∧ PySem.W.kitOne K (.type t.nm) (.ref C0) = some b ∧ Q b
def rIsO (K : PySem.W.Frag) (C0 : Addr) : List V → Hp → VK → Prop := fun xs H Q => ∃ x d Qd, xs = [x, .ref C0] ∧ Red K H d x ∧ isOwnD K C0 d (fun b => Qd (.bl b)) ∧ Out K H Qd Q
section
variable {X : Cx} {C : DC}
theorem red_exc {K : PySem.W.Frag} {H : Hp} {c : Addr} {fs : List (Str × D)} {v : V} (h : Red K H (.exc c fs) v) : ∃ a o, v = .ref a ∧ H a = some (.frz o (EXO c a)) := by
  have h' : Den K H (.exc c fs) v := h
  cases h' with
  | exc h1 => exact ⟨_, _, rfl, h1⟩
theorem call_isO (cx : Ctx X C) (C0 : Addr) : CallR X (.builtin "isinstance") (rIsO C.K C0) := by
  intro pins s σ H xs us Q I r h
  obtain ⟨x, d, Qd, rfl, hd, hb, out⟩ := h
  obtain ⟨u1, u2, rfl, r1, r2⟩ := vals2 r
  cases (show u2 = Value.ref C0 from r2)
  rw [← cx.K] at hd hb
  have fin : ∀ {t : TyE} {b : Bool}, tyE d = some t → PySem.W.kitOne X.K (.type t.nm) (.ref C0) = some b → Qd (.bl b) → wpAny (model X.prog X.w) X.A (call (.builtin "isinstance") [u1, .ref C0]) (EP X pins σ Q) X.xe s := fun {t b} e eb q => by
    obtain ⟨P, Z, p, hx⟩ := kd_of I hd r1 e
    exact PySem.W.kia_one Z I.kIn p eb hx fun tk => ⟨.bl _, H, I.tok tk, rfl, out _ H (.bl b) (Mild.refl H) (.bl _) trivial q⟩
  cases d
  case exc c fs =>
    obtain ⟨b, hc, eb, q⟩ := hb
    obtain ⟨a, o, rfl, e⟩ := red_exc hd
    cases r1
    have hC := excC_of hc
    obtain ⟨_, ⟨oe, vs, he, hz, hdd⟩, _⟩ := I.hok a _ e
    have J : PySem.W.InstAt s.heap a oe c none := by
      obtain ⟨oc, od, oda, osl⟩ := oe
      obtain ⟨h1, h2⟩ := hz
      dsimp only at h1 h2 hdd
      subst h1 h2 hdd
      exact ⟨he, rfl, rfl, trivial⟩
    exact PySem.W.kia_one (PySem.W.handS_kitx_exc hC.hg hC.hk hC.hs hC.hd hC.ha hC.hn hC.ht hC.hm) I.kIn J eb (fun z => nomatch z) fun tk => ⟨.bl b, H, I.tok tk, rfl, out _ H (.bl b) (Mild.refl H) (.bl _) trivial q⟩
  all_goals (obtain ⟨t, b, e, eb, q⟩ := hb; exact fin e eb q)
def eIsOwn (K : PySem.W.Frag) (C0 : Addr) (ta : TED) : TED := fun E σ st Q => ta E σ st fun d σ1 st1 => isOwnD K C0 (rd σ1 st1 d) fun b => Q (.bl b) σ1 st1
variable {e : Expr} {ta : TED} {pos p p2 : Pos}
theorem de_isOwn (cx : Ctx X C) {C0 : Addr} {T : Str} (hg : Gl X "isinstance") (hm : X.mg "isinstance" = none) (ha : DE X C e ta) (gT : Gl X T) (mT : X.mg T = some (.ref C0)) (bT : (T == ("__debug__" : Str)) = false := by decide)
    (he : starEach [e, .Name T p2] X.env = (false, eval e X.env) :: starEach [.Name T p2] X.env := by rfl) (hpl : (backTo pos (starEach [.Name T p2] X.env)).any (·.1) = false := by rfl) :
    DE X C (.Call (.Name "isinstance" p) [e, .Name T p2] [] pos) (eIsOwn C.K C0 ta) := by
  refine DE.imp (pe_callB (call_isO cx C0) hg hm (by decide +kernel) (pa_cons ha (pa_cons (pe_glob gT mT (v := .ref C0) rfl bT) pa_nil) he) (by decide) (by decide) he hpl) fun σ H Q h => ?_
  obtain ⟨σd, st, Qd, r, ht, k⟩ := h
  exact ⟨σd, st, _, r, ht, fun x H1 d σ1 st1 r1 h1 k1 q => ⟨x, _, _, rfl, rd_ok r1 h1, q, Out.of r1 k1 k⟩⟩
end
end DL

set_option Elab.async false
set_option linter.all false
set_option maxRecDepth 100000
namespace DL
open PySem PySem.Spec PyProof.Rows L2
variable [WW]
/-! ### x.index(e), x a tuple -/
def idxD (ds : List D) (x : D) : Option Nat := ds.findIdx? fun z => PyData.eqv (toPy z) (toPy x)
def rIndexT (K : PySem.W.Frag) : V → List V → Hp → VK → Prop := fun x xs H Q => ∃ (a : Addr) (y : V) (d : PyData) (ds : List PyData) (j : Nat) (z : PyData), x = V.ref a ∧ xs = [y] ∧ Dp K H (V.ref a) (.tuple ds) ∧ Dp K H y d ∧
  SeqAt.shaped (.tuple ds) = true ∧ SeqAt.shaped d = true ∧ ds[j]? = some z ∧ PyData.eqv z d = true ∧ (∀ (m : Nat) (z' : PyData), m < j → ds[m]? = some z' → PyData.eqv z' d = false) ∧ Q (.int (j : Nat)) H
section
variable {X : Cx} {C : DC}
theorem mt_indexT (hu : X.A.units + 65 < cLine) : MtR X "tuple.index" (rIndexT X.K) := by
  intro pins s σ H x xs v us Q I rx rxs h
  obtain ⟨a, y, d, ds, j, z, rfl, rfl, hl, hy, sl, sd, hz, hzj, hno, q⟩ := h
  cases rx
  cases rxs with
  | cons ry rt =>
    rename_i uy ut
    cases rt
    obtain ⟨bs, r1⟩ := Dp.reads I d y uy hy ry
    have hxs : PyData.canLayAll0 ds = true := SeqAt.canLay_of_shaped sl
    have hroom : X.A.units + 1 + min (PyData.depthAll ds) d.depth < cLine := room_in_shaped sd hu
    cases hl with
    | tup hs ha =>
      obtain ⟨its, rv, ⟨⟨cls, dd, data, sls⟩, ho, hc, n, hdt⟩, hlen⟩ := I.tuple hs
      simp only at hc hdt
      subst hc hdt
      obtain ⟨as, h4⟩ := Dp.readsAll I ds _ its ha rv
      have hn : its.length = ds.length := SeqAt.ReadsAll.length ds its as h4
      have hmap : its.map (SeqAt.readOf s.heap) = ds := SeqAt.readsAll_map ds its as hxs h4
      have hvl := rv.length
      have hsl := sizeLine_eq
      obtain ⟨hjd, _⟩ := List.getElem?_eq_some_iff.mp hz
      have hjl : j < its.length := by omega
      have hj : j < its.toArray.size := by simpa using hjl
      have at_ : ∀ (m : Nat) (hm : m < its.toArray.size) (z' : PyData), ds[m]? = some z' → SeqAt.readOf s.heap its.toArray[m] = z' := by
        intro m hm z' hz'
        have hml : m < its.length := by simpa using hm
        rw [← hmap, List.getElem?_map, List.getElem?_eq_getElem hml] at hz'
        have e1 : SeqAt.readOf s.heap its[m] = z' := Option.some.inj (show some (SeqAt.readOf s.heap its[m]) = some z' from hz')
        simpa using e1
      refine call_meets PySem.F.slot_tuple_index ⟨_, ho, rfl⟩ PySem.F.entry_tuple_index (PySem.F.args_tuple_index_2 _ _)
        (TI.tuple_indexAt a its.toArray n dd sls uy (fun u => PyData.eqv (SeqAt.readOf s.heap u) d) j hj ?_ ?_) ⟨ho, SeqAt.items_eqAt (vs := its.toArray) (show ReadsAll s.heap its.toArray.toList ds as from h4) r1 hxs (SeqAt.canLay_of_shaped sd) hroom, ?_⟩
      · show PyData.eqv (SeqAt.readOf s.heap its.toArray[j]) d = true
        rw [at_ j hj z hz]
        exact hzj
      · intro m hm hmj
        have hmd : m < ds.length := by omega
        have hz' : ds[m]? = some ds[m] := List.getElem?_eq_getElem hmd
        show PyData.eqv (SeqAt.readOf s.heap its.toArray[m]) d = false
        rw [at_ m hm _ hz']
        exact hno m _ hmj hz'
      · exact ⟨.int (j : Nat), H, I.tok _, ⟨_, rfl⟩, q⟩
def tyT (K : PySem.W.Frag) : V → Hp → Prop := fun x H => ∃ a xs, x = .ref a ∧ TupF K H a xs
theorem tyT_ok : TyOk X "tuple" (tyT X.K) := by
  intro pins σ H s x v I r ty
  obtain ⟨a, xs, rfl, ⟨o, e, ho⟩ | ⟨o, its, n, e, hc, ho, _⟩⟩ := ty
  case inr =>
    cases r
    exact ⟨⟨o, I.kIn a o e, hc⟩, fun b q => by cases q; exact ⟨o, I.kIn a o e, ho⟩⟩
  cases r
  obtain ⟨h1, _, its, rv, o2, h2, h3, _⟩ := (show ObjOk X.prog X.w H s.heap a (.frz o (.tup xs)) from I.hok a _ e)
  have : o2 = o := by rw [h1] at h2; cases h2; rfl
  subst this
  exact ⟨⟨o2, h1, h3⟩, fun b q => by cases q; exact ⟨o2, h1, ho⟩⟩
variable {e oe : Expr} {es : List Expr} {to te ti : TED} {apos cpos : Pos}
def eIndexT (to te : TED) : TED := fun E σ st Q => to E σ st fun o σ1 st1 => match o with
  | .tup ds => te E σ1 st1 fun d σ2 st2 => Pl 40 (.tup ds) ∧ Pl 40 (rd σ2 st2 d) ∧ ∃ j : Nat, idxD ds (rd σ2 st2 d) = some j ∧ Q (.int (j : Int)) σ2 st2
  | _ => False
theorem idx_at {ds : List D} {x : D} {j : Nat} (h : idxD ds x = some j) : ∃ z, (toPyL ds)[j]? = some z ∧ PyData.eqv z (toPy x) = true ∧ ∀ (m : Nat) z', m < j → (toPyL ds)[m]? = some z' → PyData.eqv z' (toPy x) = false := by
  unfold idxD at h
  obtain ⟨hj, h1, h2⟩ := List.findIdx?_eq_some_iff_getElem.mp h
  rw [toPyL_map]
  refine ⟨toPy ds[j], by rw [List.getElem?_map, List.getElem?_eq_getElem hj]; rfl, h1, fun m z' hm e => ?_⟩
  rw [List.getElem?_map, List.getElem?_eq_getElem (by omega)] at e
  cases e
  exact Bool.eq_false_iff.mpr (h2 m hm)
theorem de_indexT (cx : Ctx X C) (ho : DE X C oe to) (he : DE X C e te) (hbase : attributeBase oe "index" X.env (eval oe X.env) = eval oe X.env := by rfl)
    (hfew : ((backTo cpos (starEach [e] X.env)).all (fun x => !x.1) && (backToKw cpos (keywordEach [] X.env)).all (fun x => x.1.isSome)
      && decide ([e].length + ([] : List Keyword).length + (if ([] : List Keyword).isEmpty then 0 else 1) < 30)) = true := by rfl)
    (hline : (apos.endLine == cpos.line) = true := by rfl) (hs : starEach [e] X.env = (false, eval e X.env) :: starEach [] X.env := by rfl) (hplain : (backTo cpos (starEach [] X.env)).any (·.1) = false := by rfl) :
    DE X C (.Call (.Attribute oe "index" apos) [e] [] cpos) (eIndexT to te) :=
  DE.imp (pe_mG tyT_ok PySem.F.plainAttrs_tuple PySem.F.slot_tuple_index md_tindex (mt_indexT (by have := cx.hu; omega)) ho (pa_cons he pa_nil hs) hbase hfew hline hs hplain) fun σ H Q q => by
    obtain ⟨σd, st, Qd, r, ht, k⟩ := q
    refine ⟨σd, st, _, r, ht, fun v H1 o σ1 st1 r1 h1 k1 q => ?_⟩
    cases o <;> first | exact q.elim | skip
    obtain ⟨a, vs, rfl, h2, l⟩ := red_tup (show Red C.K H1 (.tup _) v from Red.of h1)
    refine ⟨⟨a, vs, rfl, by rw [cx.K]; exact h2⟩, σ1, st1, _, r1, q, fun y H2 d σ2 st2 r2 hy k2 q => ?_⟩
    obtain ⟨p1, p2, j, ej, q⟩ := q
    obtain ⟨z, z1, z2, z3⟩ := idx_at ej
    have hr := rd_ok r2 hy
    have ht2 : Red C.K H2 (.tup _) (.ref a) := Red.of (Den.keep h1 k2)
    rw [← cx.K] at hr ht2
    have d1 := dp_of 40 _ _ p1 ht2
    have d2 := dp_of 40 _ _ p2 hr
    exact ⟨a, y, _, _, j, z, rfl, rfl, d1.1, d2.1, shaped_of (by omega) d1, shaped_of (by omega) d2, z1, z2, z3, k _ H2 _ σ2 st2 r2 (.of (.int _)) (k1.trans k2) q⟩
end
end DL

set_option Elab.async false
set_option linter.all false
set_option maxRecDepth 100000
namespace DL
open PySem PySem.Spec PyProof.Rows L2
variable [WW]
/-! ### calls with keywords -/
def pick {α : Type} (is : List Nat) (xs : List α) : List α := is.filterMap fun i => xs[i]?
structure KwB (K : PySem.W.Frag) (fd : FuncData) (ps : List Str) (n : Nat) (ks : List Str) (is : List Nat) : Prop where
  to : ∀ (s : Shared) (us ws : List Value), K.In s.heap → us.length = n → ws.length = ks.length → BindsTo s fd ⟨us, ks.zip ws⟩ (ps.zip (pick is (us ++ ws)))
  len : is.length = ps.length
  lt : ∀ i ∈ is, i < n + ks.length
theorem pick_den {K : PySem.W.Frag} {H : Hp} {ds : List D} {vs : List V} (h : DenL K H ds vs) : ∀ is : List Nat, DenL K H (pick is ds) (pick is vs)
  | [] => DenL.nil
  | i :: is => by
    unfold pick
    have ih : DenL K H (is.filterMap fun i => ds[i]?) (is.filterMap fun i => vs[i]?) := pick_den h is
    cases e : ds[i]? with
    | none =>
      have e2 : vs[i]? = none := by
        rw [List.getElem?_eq_none_iff] at e ⊢
        rw [← h.1]; exact e
      simp only [List.filterMap_cons, e, e2]
      exact ih
    | some d =>
      obtain ⟨v, e2, hd⟩ := h.get e
      simp only [List.filterMap_cons, e, e2]
      exact DenL.cons hd ih
theorem pick_vals {vs : List V} {us : List Value} (r : Vals vs us) : ∀ is : List Nat, Vals (pick is vs) (pick is us)
  | [] => .nil
  | i :: is => by
    unfold pick
    have ih : Vals (is.filterMap fun i => vs[i]?) (is.filterMap fun i => us[i]?) := pick_vals r is
    cases e : vs[i]? with
    | none =>
      have e2 : us[i]? = none := by
        rw [List.getElem?_eq_none_iff] at e ⊢
        rw [← r.length]; exact e
      simp only [List.filterMap_cons, e, e2]
      exact ih
    | some v =>
      obtain ⟨u, e2, hd⟩ := r.get e
      simp only [List.filterMap_cons, e, e2]
      exact .cons hd ih
theorem pick_len {α : Type} {xs : List α} {n : Nat} (h : xs.length = n) : ∀ {is : List Nat}, (∀ i ∈ is, i < n) → (pick is xs).length = is.length
  | [], _ => rfl
  | i :: is, hl => by
    have hi : i < xs.length := by rw [h]; exact hl i (by simp)
    unfold pick
    simp only [List.filterMap_cons, List.getElem?_eq_getElem hi, List.length_cons]
    have := pick_len h (is := is) fun j hj => hl j (by simp [hj])
    unfold pick at this
    rw [this]
theorem FunD.kw {K : PySem.W.Frag} {x qual : Str} {params : Arguments} {body : List Stmt} {scope : Scope} {kws : List (Str × V)} {f : Addr} {fd : FuncData} {ps ks : List Str} {n : Nat} {is : List Nat} (F : FunD K x qual params body scope [] kws f fd) (hl : is.length = ps.length) (lt : ∀ i ∈ is, i < n + ks.length)
    (h : ∀ (kV doc pm : Value) (an : Option Addr) (cdv ct : Value) (us ws : List Value), us.length = n → ws.length = ks.length → bindArgs (PySem.W.fnOf x qual params body scope .none kV doc pm an cdv ct) ⟨us, ks.zip ws⟩ = pure (ps.zip (pick is (us ++ ws)))) : KwB K fd ps n ks is := by
  obtain ⟨oc, od, dV, kV, doc, pm, an, cdv, ct, osl, rfl, lk, hcd, hD, hK⟩ := F.ex
  rcases hD with ⟨_, rfl⟩ | ⟨e, _⟩
  · exact ⟨fun s us ws _ l1 l2 => .of_eq (h kV doc pm an cdv ct us ws l1 l2), hl, lt⟩
  · exact absurd rfl e
def DKw (X : Cx) (C : DC) (kws : List Keyword) (ts : List TED) : Prop := PK X kws (embL C ts)
section
variable {X : Cx} {C : DC} {e : Expr} {te : TED} {ts tks : List TED} {kws : List Keyword} {nm : Option Str} {kpos pos p : Pos}
theorem kw_nil : DKw X C [] [] := ⟨fun pos pins s σ H Q I q => pk_nil.run pos pins s σ H Q I (by
  obtain ⟨σd, st, Qd, r, ht, k⟩ := q
  exact k [] H [] σd st r DenL.nil rfl (Keep.refl H) ht)⟩
theorem kw_cons (ha : DE X C e te) (hr : DKw X C kws ts) : DKw X C (⟨nm, e, kpos⟩ :: kws) (te :: ts) := ⟨fun pos pins s σ H Q I q => (pk_cons (de_fzD ha) hr).run pos pins s σ H Q I (by
  obtain ⟨σd, st, Qd, r, ht, k⟩ := q
  have ht' : eFz te C.E σd st (fun d σ1 st1 => aL ts C.E σ1 st1 fun ds σ2 st2 => Qd (d :: ds) σ2 st2) := ht
  exact ⟨σd, st, _, r, ht', fun x H1 d σ1 st1 r1 h1 k1 ht1 => ⟨σ1, st1, _, r1, ht1, fun xs H2 ds σ2 st2 r2 h2 l2 k2 q => k _ H2 _ σ2 st2 r2 (DenL.cons (h1.keep k2) h2) (by simp [l2]) (k1.trans k2) q⟩⟩)⟩
def eCallK (sp : DSp) (is : List Nat) (ts tks : List TED) : TED := fun E σ st Q => aL ts E σ st fun ds σ1 st1 => aL tks E σ1 st1 fun es σ2 st2 => sp (pick is (ds ++ es)) st2 (fun d st3 => Q d σ2 st3) fun x st3 => E x σ2 st3
variable {x : Str} {f : Addr} {fd : FuncData} {ps ks : List Str} {sp : DSp} {k n : Nat} {is : List Nat} {es : List Expr}
theorem run_kw {pins : List (Addr × Obj)} {σ : VS} {H : Hp} {s : Shared} {Q : VK} {us ws : List Value} {vs zs : List V} {CX : CXT} {E : XK} {sp : Sp} (F : FnOk X.prog X.w X.K X.mg X.base CX k f fd ps sp) (hr : Room k X.A) (hb : KwB X.K fd ps n ks is) (hx : PassesAt CX X σ E)
    (I : Inv X pins σ H s) (r : Vals vs us) (rz : Vals zs ws) (l1 : vs.length = n) (l2 : zs.length = ks.length) (h : sp (pick is (vs ++ zs)) H Q E) : wpAny (model X.prog X.w) X.A (call (.ref f) us (ks.zip ws)) (EP X pins σ Q) X.xe s := by
  refine wpAny_call (codeAny_mono (F.run X.A X.stack s H ⟨us, ks.zip ws⟩ (pick is (us ++ ws)) (pick is (vs ++ zs)) Q E hr I.env0 (hb.to s us ws I.kIn (r.length.symm.trans l1) (rz.length.symm.trans l2)) (pick_vals (r.append rz) is) h) fun r s' hq => ?_)
  cases r with
  | error e => exact hx pins H s e s' I hq
  | ok fl => cases fl <;> first | exact I.after hq | exact False.elim hq
theorem de_callK0 (cx : Ctx X C) (F : FnD X.prog X.w C.K C.T X.mg X.base k f fd ps sp) (hr : Room k X.A) (hg : Gl X x) (hm : X.mg x = some (.ref f)) (hk : PySem.W.keepIn C.K (.ref f) = true) (hb : KwB C.K fd ps 0 ks is) (hkw : DKw X C kws tks) (hl : tks.length = ks.length)
    (hall : (backToKw pos (keywordEach kws X.env)).all (·.1.isSome) = true := by rfl) (hks : (backToKw pos (keywordEach kws X.env)).filterMap (·.1) = ks := by rfl) (hdb : (x == ("__debug__" : Str)) = false := by decide)
    (hpl : ((backTo pos (starEach [] X.env)).any (·.1) || (backToKw pos (keywordEach kws X.env)).any (·.1.isNone)) = false := by rfl) :
    DE X C (.Call (.Name x p) [] kws pos) (eCallK sp is [] tks) := by
  obtain ⟨W, tk, link⟩ := cx.tk
  have F' : FnOk X.prog X.w X.K X.mg X.base (CX X.prog X.w) k f fd ps (lift C.K C.T ps.length sp) := by rw [cx.K]; exact F
  refine ⟨fun pins s σ H Q I q => ?_⟩
  obtain ⟨σd, st, Qd, r, ht, kq⟩ := q
  refine wpAny_Call_Name_kw (ld_glob I hg hm ?_ hdb)
  refine PySem.W.callWith_KW0 (h₀ := X.base) I.ok.mod.kin (by rw [cx.K]; exact hk) hall ?_ hpl
  refine thn (hkw.run pos pins s σ H (fun zs H2 => zs.length = ks.length ∧ lift C.K C.T ps.length sp (pick is ([] ++ zs)) H2 Q (WE W σ)) I ⟨σd, st, _, r, ht, fun zs H2 es σ2 st2 r2 l2 z2 k2 q => ?_⟩) fun ws s2 ⟨zs, H2, I2, rz, l2, q2⟩ => ⟨I2.kIn, ?_⟩
  · refine ⟨by rw [← l2.1, z2, hl], ?_⟩
    have hp : ([] ++ es : List D).length = 0 + ks.length := by simp [z2, hl]
    exact lift_call link r2 (pick_den (by simpa using l2) is) (by rw [pick_len hp hb.lt, hb.len]) k2 kq q
  · rw [hks]
    exact run_kw (us := []) (vs := []) F' hr (by rw [cx.K]; exact hb) (passAt tk σ) I2 .nil rz rfl l2 q2
theorem de_callK (cx : Ctx X C) (F : FnD X.prog X.w C.K C.T X.mg X.base k f fd ps sp) (hr : Room k X.A) (hg : Gl X x) (hm : X.mg x = some (.ref f)) (hk : PySem.W.keepIn C.K (.ref f) = true) (hb : KwB C.K fd ps n ks is) (ha : DAr X C (e :: es) ts) (hkw : DKw X C kws tks) (hn : ts.length = n) (hl : tks.length = ks.length)
    (hall : (backToKw pos (keywordEach kws X.env)).all (·.1.isSome) = true := by rfl) (hks : (backToKw pos (keywordEach kws X.env)).filterMap (·.1) = ks := by rfl) (hdb : (x == ("__debug__" : Str)) = false := by decide) (he : starEach (e :: es) X.env = (false, eval e X.env) :: starEach es X.env := by rfl)
    (hpl : ((backTo pos (starEach (e :: es) X.env)).any (·.1) || (backToKw pos (keywordEach kws X.env)).any (·.1.isNone)) = false := by rfl) :
    DE X C (.Call (.Name x p) (e :: es) kws pos) (eCallK sp is ts tks) := by
  obtain ⟨W, tk, link⟩ := cx.tk
  have F' : FnOk X.prog X.w X.K X.mg X.base (CX X.prog X.w) k f fd ps (lift C.K C.T ps.length sp) := by rw [cx.K]; exact F
  refine ⟨fun pins s σ H Q I q => ?_⟩
  obtain ⟨σd, st, Qd, r, ht, kq⟩ := q
  refine wpAny_Call_Name_kw (ld_glob I hg hm ?_ hdb)
  refine PySem.W.callWith_KW (h₀ := X.base) I.ok.mod.kin (by rw [cx.K]; exact hk) hall (thn (ha.run pos pins s σ H (fun vs H1 => vs.length = n ∧ embL C tks σ H1 fun zs H2 => zs.length = ks.length ∧ lift C.K C.T ps.length sp (pick is (vs ++ zs)) H2 Q (WE W σ)) I
    ⟨σd, st, _, r, ht, fun vs H1 ds σ1 st1 r1 l1 z1 k1 q => ⟨by rw [← l1.1, z1, hn], σ1, st1, _, r1, q, fun zs H2 es σ2 st2 r2 l2 z2 k2 q => ?_⟩⟩) fun us s1 ⟨vs, H1, I1, rv, l1, q⟩ => ?_) hpl he
  · refine ⟨by rw [← l2.1, z2, hl], ?_⟩
    have hp : (ds ++ es).length = n + ks.length := by simp [z1, z2, hl, hn]
    exact lift_call link r2 (pick_den ((l1.keep k2).append l2) is) (by rw [pick_len hp hb.lt, hb.len]) (k1.trans k2) kq q
  · refine thn (hkw.run pos pins s1 σ H1 _ I1 q) fun ws s2 ⟨zs, H2, I2, rz, l2, q2⟩ => ⟨I2.kIn, ?_⟩
    rw [hks]
    exact run_kw F' hr (by rw [cx.K]; exact hb) (passAt tk σ) I2 rv rz l1 l2 q2
end
end DL

set_option Elab.async false
set_option linter.all false
set_option maxRecDepth 100000
namespace DL
open PySem PySem.Spec PyProof.Rows L2
variable [WW]
/-! ### many stores at once -/
section
variable {K : PySem.W.Frag} {H : Hp} {a : Addr}
theorem stored_nd {xs : Ents} {k : NK} {b : Addr} {u : Value} (h : (xs.map (·.1)).Nodup) : ((storedH xs k b u).map (·.1)).Nodup := by
  unfold storedH
  split
  · have e : (xs.map (putAt k u)).map (·.1) = xs.map (·.1) := by
      rw [List.map_map]
      refine List.map_congr_left fun x _ => ?_
      show (putAt k u x).1 = x.1
      unfold putAt
      split <;> rfl
    rw [e]; exact h
  · rename_i n
    rw [atKey_any] at n
    rw [List.map_append, List.nodup_append]
    refine ⟨h, by simp, fun x hx y hy e => n ?_⟩
    have hy' : y = k := by simpa using hy
    obtain ⟨z, hz, ez⟩ := List.mem_map.mp hx
    exact List.any_eq_true.mpr ⟨z, hz, decide_eq_true (by rw [ez, e, hy'])⟩
/-- an object that holds these entries -/
def entsO (xs : Ents) : Obj := { cls := .type "dict", data := .dict (xs.map entW).toArray 0 }
def putAllD (ds : List (NK × D)) (ps : List (NK × D)) : List (NK × D) := ps.foldl (fun acc p => putKD acc p.1 p.2) ds
/-- pairs that are to be stored -/
structure PairsT (K : PySem.W.Frag) (H : Hp) (kds : List (NK × D)) (ps : Ents) : Prop where
  l : kds.length = ps.length
  at_ : ∀ (i : Nat) (q : NK × D) (p : NK × Addr × Value), kds[i]? = some q → ps[i]? = some p → q.1 = p.1 ∧ q.1.depth ≤ 8 ∧ Den K H (ofNK q.1) (.ref p.2.1) ∧ ∃ v, Den K H q.2 v ∧ RelV v p.2.2
theorem PairsT.tail {q : NK × D} {p : NK × Addr × Value} {kds : List (NK × D)} {ps : Ents} (h : PairsT K H (q :: kds) (p :: ps)) : PairsT K H kds ps := ⟨by simpa using h.l, fun i q p e1 e2 => h.at_ (i + 1) q p (by simpa using e1) (by simpa using e2)⟩
theorem dtc_puts : ∀ {kds : List (NK × D)} {ps : Ents} {ds : List (NK × D)} {xs : Ents} {vs : List V} {o : Obj}, DTc K H ds a o xs vs → PairsT K H kds ps → ds.length + kds.length ≤ sizeLine →
    ∃ vs' o', DTc K H (putAllD ds kds) a o' (storedAllH xs ps) vs'
  | [], [], ds, xs, vs, o, c, _, _ => ⟨vs, o, c⟩
  | [], _ :: _, _, _, _, _, _, h, _ => absurd h.l (by simp)
  | _ :: _, [], _, _, _, _, _, h, _ => absurd h.l (by simp)
  | q :: kds, p :: ps, ds, xs, vs, o, c, h, hz => by
    obtain ⟨e1, hd, hk, v, hv, rv⟩ := h.at_ 0 q p rfl rfl
    rw [List.length_cons] at hz
    have c1 := dtc_put (o' := entsO (storedH xs q.1 p.2.1 p.2.2)) c (by omega) hv rv hk hd ⟨rfl, rfl, rfl⟩ ⟨_, 0, rfl, by simp⟩ (stored_nd c.q.nd)
    have hl : (putKD ds q.1 q.2).length ≤ ds.length + 1 := by
      unfold putKD
      split <;> simp
    obtain ⟨vs', o', c2⟩ := dtc_puts c1 h.tail (by omega)
    refine ⟨vs', o', ?_⟩
    rw [e1] at c2
    show DTc K H (putAllD (putKD ds q.1 q.2) kds) a o' (storedAllH (storedH xs p.1 p.2.1 p.2.2) ps) vs'
    rw [e1]
    exact c2
theorem DTc.re {ds : List (NK × D)} {o o' : Obj} {xs : Ents} {vs : List V} (c : DTc K H ds a o xs vs) (ex : o'.ExactDict) (es : ∃ es ep, o'.data = .dict es ep ∧ es.toList = xs.map entW) : DTc K H ds a o' xs vs :=
  ⟨⟨ex, es, c.q.nd, c.q.sm, c.q.dp, c.q.ln⟩, c.l, c.lv, c.rk, c.r⟩
end
/-! ### {k: v, ..} -/
def evP : List (TED × TED) → XD → En → Sto → (List (D × D) → En → Sto → Prop) → Prop
  | [], _, σ, st, Q => Q [] σ st
  | (a, b) :: r, E, σ, st, Q => eFz a E σ st fun x σ1 st1 => eFz b E σ1 st1 fun y σ2 st2 => evP r E σ2 st2 fun ps σ3 st3 => Q ((x, y) :: ps) σ3 st3
def anyX (X : Cx) (K : PySem.W.Frag) (T : List (Addr × Str)) (t : TED) : TE := fun σ H Q => ∃ C, Ctx X C ∧ C.K = K ∧ C.T = T ∧ embD C (eFz t) σ H Q
def trP (X : Cx) (K : PySem.W.Frag) (T : List (Addr × Str)) (prs : List (TED × TED)) : List (TE × TE) := prs.map fun p => (anyX X K T p.1, anyX X K T p.2)
def DPs (X : Cx) (K : PySem.W.Frag) (T : List (Addr × Str)) (pos : Pos) (keys : List (Option Expr)) (values : List Expr) (prs : List (TED × TED)) : Prop := PPs X pos keys values (trP X K T prs)
section
variable {X : Cx} {K : PySem.W.Frag} {T : List (Addr × Str)} {pos : Pos} {C : DC}
theorem any_run {e : Expr} {t : TED} (h : DVE X K T e t) : PE X e (anyX X K T t) := ⟨fun pins s σ H Q I q => by
  obtain ⟨C, cx, hK, hT, z⟩ := q
  exact (de_fzD (h C cx hK hT)).run pins s σ H Q I z⟩
theorem dps_nil : DPs X K T pos [] [] [] := pps_nil
theorem dps_cons {k v : Expr} {ks : List (Option Expr)} {vs : List Expr} {tk tv : TED} {prs : List (TED × TED)} (hk : DVE X K T k tk) (hv : DVE X K T v tv) (hr : DPs X K T pos ks vs prs) : DPs X K T pos (some k :: ks) (v :: vs) ((tk, tv) :: prs) :=
  pps_cons (any_run hk) (any_run hv) hr
def DenP (K : PySem.W.Frag) (H : Hp) (ds : List (D × D)) (vs : List (V × V)) : Prop := DenL K H (ds.map (·.1)) (vs.map (·.1)) ∧ DenL K H (ds.map (·.2)) (vs.map (·.2))
theorem evP_run (cx : Ctx X C) (hK : C.K = K) (hT : C.T = T) : ∀ {prs : List (TED × TED)} {σd : En} {st : Sto} {σ : VS} {H : Hp} {Qd : List (D × D) → En → Sto → Prop} {Q : List (V × V) → Hp → Prop}, Rel C σd st σ H → evP prs C.E σd st Qd →
    (∀ vs H' ds σd' st', Rel C σd' st' σ H' → DenP C.K H' ds vs → ds.length = prs.length → Keep H H' → Qd ds σd' st' → Q vs H') → tPairs (trP X K T prs) σ H Q
  | [], σd, st, σ, H, Qd, Q, r, h, k => k [] H [] σd st r ⟨DenL.nil, DenL.nil⟩ rfl (Keep.refl H) h
  | (a, b) :: prs, σd, st, σ, H, Qd, Q, r, h, k => by
    refine ⟨C, cx, hK, hT, σd, st, _, r, h, fun v1 H1 d1 σ1 st1 r1 h1 k1 q => ?_⟩
    refine ⟨C, cx, hK, hT, σ1, st1, _, r1, q, fun v2 H2 d2 σ2 st2 r2 h2 k2 q => ?_⟩
    refine evP_run cx hK hT r2 q fun vs H3 ds σ3 st3 r3 h3 l3 k3 q => ?_
    exact k _ H3 ((d1, d2) :: ds) σ3 st3 r3 ⟨DenL.cons (h1.keep (k2.trans k3)) h3.1, DenL.cons (h2.keep k3) h3.2⟩ (by simp [l3]) (k1.trans (k2.trans k3)) q
/-- a held thing is filled -/
theorem Rel.fill {σd : En} {st : Sto} {σ : VS} {H0 H : Hp} {p : Addr} {u u' : HO} {x : Sl} {Qd : Sl → En → Sto → Prop} (r : Rel C σd st σ H) (hp : H p = some u) (fb : Fable u) (fb' : Fable u') (no : ∀ i, ¬ Owns σd σ i p) (sp : st p = none) (gp : C.G p = none) (ho : x.owns = true)
    (hx : SlOk C.K (upd H p u') x (some (.ref p))) (k0 : Keep H0 H) (q : Qd x σd st) : NewS C σ H0 Qd (.ref p) (upd H p u') := by
  have kp : Keep H (upd H p u') := Keep.put (by rw [hp]; exact fb.loose)
  have nt : ∀ ps, u' ≠ .tbl ps := by
    intro ps e
    subst e
    exact fb'
  refine ⟨p, u', x, σd, st, rfl, ho, upd_same, fb', hx, ?_, no, sp, gp, k0.trans kp, q⟩
  refine ⟨r.len, fun j y ej => ?_, r.dist, r.new, fun a o e => ?_, r.dom, fun a o e1 e2 e3 => ?_, fun a h => Ob.upd (fun _ => r.th a h) nt, tabs_k r.tb (TabK.put fun o' q => by rw [hp] at q; cases q; exact fb.tx)⟩
  · exact (r.sl j y ej).keep kp fun b hb hv => upd_ne fun z => no j ⟨y, ej, hb, by rw [← z]; exact join_some hv⟩
  · have n : a ≠ p := fun z => by rw [z, sp] at e; cases e
    exact (r.sh a o e).keep kp (upd_ne n)
  · have n : a ≠ p := fun z => by rw [z, gp] at e1; cases e1
    rw [upd_ne n]; exact r.fr a o e1 e2 e3
/-- keys ints and texts -/
def keysOf {κ : Type} (f : D → Option κ) : List (D × D) → Option (List (κ × D))
  | [] => some []
  | (a, b) :: r => match f a, keysOf f r with
    | some k, some ks => some ((k, b) :: ks)
    | _, _ => none
def putAllK (ds : List (Key × D)) (ps : List (Key × D)) : List (Key × D) := ps.foldl (fun acc p => putKD acc p.1 p.2) ds
def nDispK (prs : List (TED × TED)) : TNW := fun E σ st Q => evP prs E σ st fun ds σ1 st1 => ∃ kds, keysOf keyK ds = some kds ∧ Q (.ok (putAllK [] kds)) σ1 st1
def nDispT (prs : List (TED × TED)) : TNW := fun E σ st Q => evP prs E σ st fun ds σ1 st1 => ∃ kds, keysOf keyS ds = some kds ∧ Q (.ot (putAllD [] kds)) σ1 st1
theorem keysOf_V {H : Hp} : ∀ {ds : List (D × D)} {kds : List (Key × D)} {vs : List (V × V)}, keysOf keyK ds = some kds → DenP K H ds vs → ∃ kvs : List (Key × V), vs = kvs.map (fun p => (kV p.1, p.2)) ∧ DenKV K H kds kvs
  | [], kds, vs, e, h => by
    cases e
    cases vs with
    | nil => exact ⟨[], rfl, DenKV.nil⟩
    | cons v vs => exact absurd h.1.1 (by simp)
  | (a, b) :: ds, kds, vs, e, h => by
    cases vs with
    | nil => exact absurd h.1.1 (by simp)
    | cons v vs =>
      unfold keysOf at e
      cases e1 : keyK a with
      | none => rw [e1] at e; cases e
      | some k =>
        cases e2 : keysOf keyK ds with
        | none => rw [e1, e2] at e; cases e
        | some ks =>
          rw [e1, e2] at e
          cases e
          obtain ⟨w1, r1, q1, h1, t1⟩ := h.1.of_cons
          obtain ⟨w2, r2, q2, h2, t2⟩ := h.2.of_cons
          simp only [List.map_cons, List.cons.injEq] at q1 q2
          obtain ⟨rfl, rfl⟩ := q1
          obtain ⟨rfl, rfl⟩ := q2
          obtain ⟨kvs, rfl, d⟩ := keysOf_V e2 ⟨t1, t2⟩
          have := keyK_V e1 (.of h1)
          refine ⟨(k, v.2) :: kvs, ?_, DenKV.cons h2 d⟩
          rw [List.map_cons, ← this]
theorem DenKV.puts {H : Hp} : ∀ {ps : List (Key × D)} {qs : List (Key × V)} {ds : List (Key × D)} {vs : List (Key × V)}, DenKV K H ps qs → DenKV K H ds vs → DenKV K H (putAllK ds ps) (mergeK vs qs)
  | [], qs, ds, vs, h, t => by cases h.of_nil; exact t
  | p :: ps, qs, ds, vs, h, t => by
    obtain ⟨v, r, rfl, h1, h2⟩ := h.of_cons
    exact DenKV.puts (ds := putKD ds p.1 p.2) (vs := putK vs p.1 v) h2 (t.put h1)
theorem keysOf_len {κ : Type} {f : D → Option κ} : ∀ {ds : List (D × D)} {kds : List (κ × D)}, keysOf f ds = some kds → kds.length = ds.length
  | [], kds, e => by cases e; rfl
  | (a, b) :: ds, kds, e => by
    unfold keysOf at e
    cases e1 : f a with
    | none => rw [e1] at e; cases e
    | some k =>
      cases e2 : keysOf f ds with
      | none => rw [e1, e2] at e; cases e
      | some ks => rw [e1, e2] at e; cases e; simp [keysOf_len e2]
theorem dnw_dispK {keys : List (Option Expr)} {values : List Expr} {prs : List (TED × TED)} (cx : Ctx X C) (h : DPs X C.K C.T pos keys values prs) (hn : prs.length ≤ 15) (hall : keys.all (·.isSome) = true := by rfl) (hl : keys.length = values.length := by rfl) (h0 : keys ≠ [] := by simp) (h15 : keys.length ≤ 15 := by decide) :
    DNw X C (.Dict keys values pos) (nDispK prs) := ⟨fun pins s σ H Q I q => (pe_disp h hall hl h0 h15).run pins s σ H Q I (by
  obtain ⟨σd, st, Qd, r, ht, k⟩ := q
  intro p hp
  obtain ⟨f1, f2, f3⟩ := r.fresh hp
  have r1 : Rel (C.hold p (.dK [])) σd st σ (upd H p (.dK [])) := (r.mild (Mild.new hp)).held (by intro ps q; cases q) upd_same f1 f2
  have ht' : evP prs C.E σd st (fun ds σ1 st1 => ∃ kds, keysOf keyK ds = some kds ∧ Qd (.ok (putAllK [] kds)) σ1 st1) := ht
  refine evP_run (C := C.hold p (.dK [])) (cx.hold f3) rfl rfl r1 ht' fun vs H2 ds σ2 st2 r2 h2 l2 k2 q => ?_
  obtain ⟨hp2, no2, sp2⟩ := r2.hold_at (by intro ps q; cases q)
  obtain ⟨kds, ek, q⟩ := q
  obtain ⟨kvs, ev, dk⟩ := keysOf_V ek h2
  have hk : kvs.length = kds.length := by have := congrArg List.length dk.1; simpa using this.symm
  refine ⟨hp2, kvs, ev, by rw [hk, keysOf_len ek, l2]; exact hn, ?_⟩
  have kp : Keep H2 (upd H2 p (.dK (mergeK [] kvs))) := Keep.put (by rw [hp2]; exact Fable.loose (u := .dK []) trivial)
  exact k _ _ ((r2.unhold f3).fill (x := .ok (putAllK [] kds)) hp2 trivial trivial no2 sp2 f3 rfl ⟨p, _, rfl, upd_same, (dk.puts DenKV.nil).keep kp⟩ ((Keep.new hp).trans k2) q))⟩
/-! keys tuples -/
theorem pairsT_of {H : Hp} {pins : List (Addr × Obj)} {σ : VS} {s : Shared} (I : Inv X pins σ H s) : ∀ {ds : List (D × D)} {kds : List (NK × D)} {vs : List (V × V)} {us : List (Value × Value)}, keysOf keyS ds = some kds → DenP X.K H ds vs → VV vs us →
    ∃ ps : Ents, PairsT X.K H kds ps ∧ CarriesH (nestedKind X.prog X.w) s.heap us ps
  | [], kds, vs, us, e, h, r => by
    cases e
    cases vs with
    | nil => cases r; exact ⟨[], ⟨rfl, fun i q p e => by simp at e⟩, trivial⟩
    | cons v vs => exact absurd h.1.1 (by simp)
  | (a, b) :: ds, kds, vs, us, e, h, r => by
    cases vs with
    | nil => exact absurd h.1.1 (by simp)
    | cons v vs =>
      unfold keysOf at e
      cases e1 : keyS a with
      | none => rw [e1] at e; cases e
      | some k =>
        cases e2 : keysOf keyS ds with
        | none => rw [e1, e2] at e; cases e
        | some ks =>
          rw [e1, e2] at e
          cases e
          cases r with
          | cons r1 r2 =>
            rename_i u us
            obtain ⟨w1, q1, z1, h1, t1⟩ := h.1.of_cons
            obtain ⟨w2, q2, z2, h2, t2⟩ := h.2.of_cons
            simp only [List.map_cons, List.cons.injEq] at z1 z2
            obtain ⟨rfl, rfl⟩ := z1
            obtain ⟨rfl, rfl⟩ := z2
            obtain ⟨ps, hp, hc⟩ := pairsT_of I e2 ⟨t1, t2⟩ r2
            obtain ⟨ea, ekT, hdp⟩ := keyS_of e1
            obtain ⟨u1, u2⟩ := u
            obtain ⟨bb, eb, eu, hk⟩ := key_is I (.of h1) r1.1 ekT
            rw [eb] at h1
            refine ⟨(k, bb, u2) :: ps, ⟨by simp [hp.l], fun i q p z1 z2 => ?_⟩, eu, rfl, hk, hc⟩
            cases i with
            | zero =>
              simp at z1 z2
              subst z1 z2
              exact ⟨rfl, hdp, by rw [ea]; exact h1, v.2, h2, r1.2⟩
            | succ i => exact hp.at_ i q p (by simpa using z1) (by simpa using z2)
theorem PairsT.keep {H H' : Hp} {K : PySem.W.Frag} {kds : List (NK × D)} {ps : Ents} (h : PairsT K H kds ps) (k : Keep H H') : PairsT K H' kds ps :=
  ⟨h.l, fun i q p e1 e2 => let ⟨a, b, c, v, d, e⟩ := h.at_ i q p e1 e2; ⟨a, b, c.keep k, v, d.keep k, e⟩⟩
def tDispX (K : PySem.W.Frag) (trs : List (TE × TE)) : TE := fun σ H Q => ∀ p, H p = none → (p == sysModules) = false → tPairs trs σ (upd H p (exO p dict0)) fun vs H2 => H2 p = some (exO p dict0) ∧ ∃ ds kds, DenP K H2 ds vs ∧ keysOf keyS ds = some kds ∧ kds.length ≤ 15 ∧
  ∀ o' xs' ws, DTc K H2 (putAllD [] kds) p o' xs' ws → Q (.ref p) (upd H2 p (exO p o'))
theorem pe_dispX {keys : List (Option Expr)} {values : List Expr} {trs : List (TE × TE)} (hu : X.A.units + 100 < cLine) (ew : X.w = WW.w) (h : PPs X pos keys values trs) (hall : keys.all (·.isSome) = true) (hl : keys.length = values.length) (h0 : keys ≠ []) (h15 : keys.length ≤ 15) :
    PE X (.Dict keys values pos) (tDispX X.K trs) := by
  refine ⟨fun pins s σ H Q I q => ?_⟩
  have hn := I.hok.fresh (Nat.le_refl s.heap.objs.size)
  have hs : (s.heap.objs.size == sysModules) = false := beq_eq_false_iff_ne.mpr (Ne.symm (Nat.ne_of_lt I.big))
  have I1 := I.laid (a := s.heap.objs.size) (o := exO s.heap.objs.size dict0) (h' := s.heap.push dict0) (t' := s.toks) (fun _ _ q => Heap.get?_push_of_some _ q) (Nat.le_refl _) ⟨Heap.get?_push_size _ rfl, ⟨_, Heap.get?_push_size _ rfl⟩, fun h1 h2 e1 e2 => e2 _ e1⟩
  have hlen := pairTrees_length keys values X.env pos hall hl
  rw [arm_eval_Dict, zip_pairTrees keys values X.env pos hall hl, dictDisplay_pairs _ (fun e => h0 (List.length_eq_zero_iff.mp (by rw [← hlen, e]; rfl))) (by omega)]
  refine wpAny_bind (wpAny_standAt (wpAny_bind (wpAny_subDictH (knd := nestedKind X.prog X.w) (show X.A.units + 8 < cLine by omega) (by omega) (thn (h.run pins _ σ _ _ I1 (q _ hn hs)) fun us s2 ⟨vs, H2, I2, rel, hp2, ds, kds, dp, ek, hz, q2⟩ => ?_))))
  obtain ⟨ps, hps, hc⟩ := pairsT_of I2 ek dp rel
  obtain ⟨hg, hm⟩ := dt_heap I2 ew (.inl hp2) (dtc0 (K := X.K) (H := H2) hs)
  refine ⟨ps, hc, hm, fun h' tk hm' hsb => wpAny_pure ?_⟩
  obtain ⟨o2, es2, ep2, g2, ex2, d2, e2, _, nd2⟩ := hm'
  obtain ⟨ws, o3, c⟩ := dtc_puts (dtc0 (K := X.K) (H := H2) hs) hps (by rw [sizeLine_eq]; simp; omega)
  have c' := c.re ex2 ⟨es2, ep2, d2, by rw [ent_w ew]; exact e2⟩
  exact ⟨.ref s.heap.objs.size, _, I2.write (e := s.heap.objs.size) (o := exO s.heap.objs.size o2) (t' := tk) (by rw [hp2]; trivial) (.inl rfl) (fun b u nb e => (hsb.2 b nb).trans e) ⟨_, g2⟩ ⟨g2, ⟨_, g2⟩, fun h1 h2 z1 z2 => z2 _ z1⟩, rfl, q2 o2 _ ws c'⟩
theorem dnw_dispT {keys : List (Option Expr)} {values : List Expr} {prs : List (TED × TED)} (cx : Ctx X C) (h : DPs X C.K C.T pos keys values prs) (hn : prs.length ≤ 15) (hall : keys.all (·.isSome) = true := by rfl) (hl : keys.length = values.length := by rfl) (h0 : keys ≠ [] := by simp) (h15 : keys.length ≤ 15 := by decide) :
    DNw X C (.Dict keys values pos) (nDispT prs) := ⟨fun pins s σ H Q I q => (pe_dispX cx.hu cx.w h hall hl h0 h15).run pins s σ H Q I (by
  obtain ⟨σd, st, Qd, r, ht, k⟩ := q
  intro p hp hs
  obtain ⟨f1, f2, f3⟩ := r.fresh hp
  have d0 : DOf p dict0 [] := (dtc0 (K := C.K) (H := H) hs).q
  have nt : ∀ ps, exO p dict0 ≠ .tbl ps := by intro ps q; cases q
  have r1 : Rel (C.hold p (exO p dict0)) σd st σ (upd H p (exO p dict0)) := (r.mild (Mild.new hp)).held nt upd_same f1 f2
  have ht' : evP prs C.E σd st (fun ds σ1 st1 => ∃ kds, keysOf keyS ds = some kds ∧ Qd (.ot (putAllD [] kds)) σ1 st1) := ht
  refine evP_run (C := C.hold p (exO p dict0)) (cx.hold f3) rfl rfl r1 ht' fun vs H2 ds σ2 st2 r2 h2 l2 k2 q => ?_
  obtain ⟨hp2, no2, sp2⟩ := r2.hold_at nt
  obtain ⟨kds, ek, q⟩ := q
  refine ⟨hp2, ds, kds, by rw [cx.K]; exact h2, ek, by rw [keysOf_len ek, l2]; exact hn, fun o' xs' ws c => ?_⟩
  rw [cx.K] at c
  have kp : Keep H2 (upd H2 p (exO p o')) := Keep.put (by rw [hp2]; exact Fable.loose (Fable.exO d0))
  exact k _ _ ((r2.unhold f3).fill (x := .ot (putAllD [] kds)) hp2 (Fable.exO d0) (Fable.exO c.q) no2 sp2 f3 rfl ⟨p, o', xs', ws, rfl, upd_same, c.keep kp⟩ ((Keep.new hp).trans k2) q))⟩
end
end DL

set_option Elab.async false
set_option linter.all false
set_option maxRecDepth 100000
namespace DL
open PySem PySem.Spec PyProof.Rows L2
variable [WW]
/-! ### what is owned is shared from now on -/
section
variable {C : DC} {σd : En} {st : Sto} {σ : VS} {H : Hp}
theorem sl_sok' {K : PySem.W.Frag} {a : Addr} {x : Sl} (h : SlOk K H x (some (.ref a))) (n : notT x) : SOk K H a (slSo x) := sl_sok h n
theorem notT.owns {x : Sl} (n : notT x) : x.owns = true := by cases x <;> first | rfl | exact n.elim
theorem Rel.share (r : Rel C σd st σ H) {i : Nat} {x : Sl} {a : Addr} (ei : σd[i]? = some x) (hs : σ[i]? = some (some (.ref a))) (n : notT x) : st a = none ∧ Rel C (σd.set i (.val (.ref a))) (supd st a (slSo x)) σ H := by
  have w : Owns σd σ i a := ⟨x, ei, n.owns, hs⟩
  have hi : i < σd.length := (List.getElem?_eq_some_iff.mp ei).1
  obtain ⟨gN, sN⟩ := r.new i a w
  have q := r.sl i x ei
  rw [hs] at q
  have ow : ∀ j b, Owns (σd.set i (.val (.ref a))) σ j b → Owns σd σ j b ∧ b ≠ a := fun j b ⟨y, e1, e2, e3⟩ => by
    rcases set_get e1 with ⟨rfl, rfl, _⟩ | ⟨nj, e1⟩
    · cases e2
    · have o2 : Owns σd σ j b := ⟨y, e1, e2, e3⟩
      exact ⟨o2, fun z => nj (r.dist i j _ w (by rw [← z]; exact o2))⟩
  refine ⟨sN, ⟨by simp [r.len], fun j y ej => ?_, fun j k b h1 h2 => r.dist j k b (ow j b h1).1 (ow k b h2).1, fun j b h => ⟨(r.new j b (ow j b h).1).1, by rw [supd_ne (ow j b h).2]; exact (r.new j b (ow j b h).1).2⟩, fun b so eb => ?_, fun b h => ?_, r.fr, r.th, r.tb⟩⟩
  · rcases set_get ej with ⟨rfl, rfl, _⟩ | ⟨nj, ej⟩
    · rw [hs]; exact ⟨.ref a, rfl, .ref a⟩
    · exact r.sl j y ej
  · by_cases hb : b = a
    · subst hb
      rw [supd_same] at eb; cases eb
      exact sl_sok q n
    · rw [supd_ne hb] at eb; exact r.sh b so eb
  · by_cases hb : b = a
    · subst hb; exact .inr gN
    · rw [supd_ne hb] at h; exact r.dom b h
theorem Rel.shareNew (r : Rel C σd st σ H) {x : Sl} {p : Addr} (hx : SlOk C.K H x (some (.ref p))) (n : notT x) (no : ∀ i, ¬ Owns σd σ i p) (sp : st p = none) (gp : C.G p = none) : Rel C σd (supd st p (slSo x)) σ H := by
  refine ⟨r.len, r.sl, r.dist, fun j b h => ⟨(r.new j b h).1, ?_⟩, fun b so eb => ?_, fun b h => ?_, r.fr, r.th, r.tb⟩
  · have nb : b ≠ p := fun z => no j (by rw [← z]; exact h)
    rw [supd_ne nb]; exact (r.new j b h).2
  · by_cases hb : b = p
    · subst hb
      rw [supd_same] at eb; cases eb
      exact sl_sok hx n
    · rw [supd_ne hb] at eb; exact r.sh b so eb
  · by_cases hb : b = p
    · subst hb; exact .inr gp
    · rw [supd_ne hb] at h; exact r.dom b h
end
/-- a name's own thing, from now on shared -/
def shS (i : Nat) (σ : En) (st : Sto) (Q : QD) : Option Sl → Prop
  | some x => notT x ∧ ∀ a, st a = none → Q (.ref a) (σ.set i (.val (.ref a))) (supd st a (slSo x))
  | none => False
def eVarS (i : Nat) : TED := fun _ σ st Q => shS i σ st Q σ[i]?
/-- a new thing, from now on shared -/
def eShW (t : TNW) : TED := fun E σ st Q => t E σ st fun x σ1 st1 => notT x ∧ ∀ a, st1 a = none → Q (.ref a) σ1 (supd st1 a (slSo x))
section
variable {X : Cx} {C : DC} {e : Expr} {pos : Pos}
theorem de_varS {i : Nat} {x : Str} (hN : X.N[i]? = some x) (hv : Vis X.env.scope x) (hd : (x == ("__debug__" : Str)) = false := by decide) (hcd : (x == ("__classdict__" : Str)) = false := by decide) : DE X C (.Name x pos) (eVarS i) := by
  have h0 : PE X (.Name x pos) (tVar i) := pe_var hN hv hd hcd
  refine ⟨fun pins s σ H Q I q => h0.run pins s σ H Q I ?_⟩
  obtain ⟨σd, st, Qd, r, ht, k⟩ := q
  have ht' : shS i σd st Qd σd[i]? := ht
  cases ei : σd[i]? with
  | none => rw [ei] at ht'; exact ht'.elim
  | some y =>
    rw [ei] at ht'
    obtain ⟨n, q⟩ := ht'
    have z := r.sl i y ei
    obtain ⟨a, hs⟩ : ∃ a, σ[i]? = some (some (.ref a)) := by
      cases y <;> first | exact n.elim | skip
      · obtain ⟨a, vs, e1, _⟩ := z; exact ⟨a, join_some e1⟩
      · obtain ⟨a, vs, e1, _⟩ := z; exact ⟨a, join_some e1⟩
    obtain ⟨sN, r2⟩ := r.share ei hs n
    exact ⟨.ref a, hs, k _ H (.ref a) _ _ r2 (.of (.ref a)) (Keep.refl H) (q a sN)⟩
theorem de_shW {t : TNW} (h : DNw X C e t) : DE X C e (eShW t) := by
  refine ⟨fun pins s σ H Q I q => h.run pins s σ H Q I ?_⟩
  obtain ⟨σd, st, Qd, r, ht, k⟩ := q
  refine ⟨σd, st, _, r, ht, fun v H' nw => ?_⟩
  obtain ⟨p, u, x, σ1, st1, rfl, ho, hp, fb, hx, r1, no, sp, gp, k1, n, q⟩ := nw.ex
  exact k _ H' (.ref p) _ _ (r1.shareNew hx n no sp gp) (.of (.ref p)) k1 (q p sp)
end
/-! ### walks over dicts -/
def ItX (d : Addr) (o : Obj) (xs : Ents) : It :=
  ⟨fun i H => Fz H d (exO d o) ∧ i < xs.length, fun i H x H' => H' = H ∧ ∃ p : NK × Addr × Value, xs[i]? = some p ∧ x = .ref p.2.1, fun i H => Fz H d (exO d o) ∧ xs.length ≤ i⟩
theorem fz_get {X : Cx} {pins : List (Addr × Obj)} {σ : VS} {H : Hp} {s : Shared} {d : Addr} {o : Obj} (I : Inv X pins σ H s) (h : Fz H d (exO d o)) : s.heap.get? d = some o := by
  obtain ⟨o', h⟩ := h
  exact (I.hok d _ h).2.1
theorem turn_X {P : Program} {w : World} {K : PySem.W.Frag} {tg : Expr} {d it : Addr} {o : Obj} {es : Array DictEntry} {ep : Nat} {xs : Ents} (hod : o.data = .dict es ep) (he : es.toList = xs.map entW) : Turn P w K tg (ItX d o xs) [it] it (fun i h => h.IsKeyIter it d i xs.length ep) where
  mem := by simp
  obj := fun i h st b hb => by
    obtain rfl : b = it := by simpa using hb
    obtain ⟨oi, e, c, dd⟩ := st
    exact ⟨oi, e, fun v z => by rw [dd] at z; cases z⟩
  keep := fun i h h' st k => st.at fun oi e => k it (by simp) oi e
  item := by
    intro X hP hw hK hc i pins s σ H E I hf st hg
    subst hP hw hK
    obtain ⟨hd, hi⟩ := hg
    obtain ⟨f0, f1, f2, f3, f4, f5⟩ := hf it (by simp)
    have hsz : es.size = xs.length := by rw [← Array.length_toList, he, List.length_map]
    have hx : xs[i]? = some xs[i] := List.getElem?_eq_getElem hi
    have hen : es[i]? = some (entW xs[i]) := by rw [← Array.getElem?_toList, he, List.getElem?_map, hx]; rfl
    refine next_key_item st (fz_get I hd) hod hsz hen fun h' st' sb => ?_
    have I1 : Inv X pins σ H { s with heap := h' } := I.turned (t' := s.toks) (fun b ob hb e => (sb.2 b hb).trans e) f0 f1 f3 f4 f5
    obtain ⟨oi, e, c, dd⟩ := id st'
    exact ⟨_, rfl, go_of (s := { s with heap := h' }) e c dd (by decide) ⟨.ref xs[i].2.1, H, I1, rfl, ⟨rfl, xs[i], hx, rfl⟩, st', fun b hb => (hf b hb).1⟩⟩
  done := by
    intro X hP hw hK hc i pins s σ H E I hf st hg
    subst hP hw hK
    obtain ⟨hd, hi⟩ := hg
    obtain ⟨f0, f1, f2, f3, f4, f5⟩ := hf it (by simp)
    have hsz : es.size = xs.length := by rw [← Array.length_toList, he, List.length_map]
    exact next_key_end (I.ok.hd hc) st (fz_get I hd) hod hsz hi fun h' eb => ⟨rfl, I.turned (t' := s.toks) (fun b ob hb e => eb b ob hb e) f0 f1 f3 f4 f5⟩
  self := fun A i s Q E st h => by
    refine wpAny_pyIter_slot st.typeIs PySem.F.slot_dict_keyiterator_iter (wpAny_call_entry PySem.F.slot_dict_keyiterator_iter st.typeIs PySem.F.entry_dict_keyiterator_iter ?_ (PySem.F.args_dict_keyiterator_iter_1 _))
    exact wpAny_pure ⟨_, rfl, "dict_keyiterator", _, st.typeIs, PySem.F.slot_dict_keyiterator_next.lookup, h⟩
def iAnyX (K : PySem.W.Frag) (t : TE) : TI := fun σ H R => t σ H fun x H1 => ∃ a, x = .ref a ∧ ((∃ xs, SqL K H1 a xs ∧ (xs.length ≤ sizeLine → R (Itl K a) H1)) ∨ (∃ xs, SqT K H1 a xs ∧ (xs.length ≤ sizeLine → R (Itt K a) H1)) ∨
  ∃ o xs, Fz H1 a (exO a o) ∧ DOf a o xs ∧ R (ItX a o xs) H1)
section
variable {X : Cx} {C : DC} {e tg : Expr} {te : TED}
theorem pi_anyX {t : TE} (h : PE X e t) : PI X tg e (iAnyX X.K t) := by
  refine ⟨fun pins s σ H R I q => ?_⟩
  refine thn (h.run pins s σ H _ I q) fun v s1 ⟨x, H1, I1, r1, a, ex, z⟩ => ?_
  subst ex
  cases r1
  have nw : ∀ b, b ∈ [s1.heap.objs.size] → FpOk X pins H1 b := fun b hb => by
    obtain rfl : b = s1.heap.objs.size := by simpa using hb
    exact I1.fpOk (Nat.le_refl _) (I1.hok.fresh (Nat.le_refl _))
  rcases z with ⟨xs, hq, z⟩ | ⟨xs, hq, z⟩ | ⟨o, xs, hq, hd, z⟩
  · obtain ⟨its, rv, p, hz⟩ := I1.list hq
    exact wpAny_pyIter_list p.isList ⟨s1.heap.objs.size, [s1.heap.objs.size], _, _, H1, rfl, I1.kept (t' := s1.toks) fun b o e => Heap.get?_push_of_some _ e, turn_list a _, ⟨_, Heap.get?_push_size _ rfl, rfl, rfl⟩, nw, z hz⟩
  · obtain ⟨its, rv, p, hz⟩ := I1.tuple hq
    exact wpAny_pyIter_tuple (show s1.heap.IsTuple a its.toArray from p) ⟨s1.heap.objs.size, [s1.heap.objs.size], _, _, H1, rfl, I1.kept (t' := s1.toks) fun b o e => Heap.get?_push_of_some _ e, turn_tuple a _, ⟨_, Heap.get?_push_size _ rfl, rfl, rfl⟩, nw, z hz⟩
  · obtain ⟨es, ep, hdt, he⟩ := hd.es
    refine iter_keys hd.sm (fz_get I1 hq) hd.ex hdt (pi_one (tk := s1.toks) I1 _ (turn_X hdt he) ⟨_, Heap.get?_push_size _ rfl, rfl, ?_⟩ z)
    have hsz : es.size = xs.length := by rw [← Array.length_toList, he, List.length_map]
    rw [hsz]; rfl
/-- what is walked, held for good -/
def walkOf (d : D) (Q : List D → Prop) : Prop := match d with
  | .dT kvs => Q (kvs.map fun p => ofNK p.1)
  | d => seqOf d Q
def iAnyD (te : TED) : TID := fun E σ st Q => eFz te E σ st fun d σ1 st1 => walkOf d fun ds => Q ds σ1 st1
theorem walks_X {K : PySem.W.Frag} {H : Hp} {a : Addr} {o : Obj} {kvs : List (NK × D)} {xs : Ents} {vs : List V} (h : Fz H a (exO a o)) (c : DTc K H kvs a o xs vs) : Walks K (ItX a o xs) (kvs.map fun p => ofNK p.1) H := by
  have hl : kvs.length = xs.length := by have := congrArg List.length c.l; simpa using this
  refine ⟨fun i d Hi k e => ?_, fun i Hi k e1 e2 => ⟨h.keep k, by rw [← hl]; simpa using e1⟩, by rw [List.length_map, hl]; exact c.q.ln⟩
  rw [List.getElem?_map] at e
  obtain ⟨p, ep, rfl⟩ := Option.map_eq_some_iff.mp e
  have hi : i < xs.length := by rw [← hl]; exact (List.getElem?_eq_some_iff.mp ep).1
  have ex : xs[i]? = some xs[i] := List.getElem?_eq_getElem hi
  have e1 : p.1 = xs[i].1 := by
    have := congrArg (fun l => l[i]?) c.l
    simp only [List.getElem?_map, ep, ex] at this
    exact Option.some.inj this
  refine ⟨⟨h.keep k, hi⟩, fun x H' y => ?_⟩
  obtain ⟨rfl, q, eq, rfl⟩ := y
  rw [ex] at eq; cases eq
  refine ⟨Mild.refl _, ?_⟩
  rw [e1]
  exact (c.rk i _ ex).keep k
theorem di_any (cx : Ctx X C) (h : DE X C e te) : DI X C tg e (iAnyD te) := DI.imp (pi_anyX (de_fzD h)) fun σ H R q => by
  obtain ⟨σd, st, Qd, r, ht, k⟩ := q
  refine ⟨σd, st, _, r, ht, fun v H1 d σ1 st1 r1 h1 k1 q => ?_⟩
  have fin : seqOf d (fun ds => Qd ds σ1 st1) → ∃ a, v = .ref a ∧ ((∃ xs, SqL X.K H1 a xs ∧ (xs.length ≤ sizeLine → R (Itl X.K a) H1)) ∨ (∃ xs, SqT X.K H1 a xs ∧ (xs.length ≤ sizeLine → R (Itt X.K a) H1)) ∨ ∃ o xs, Fz H1 a (exO a o) ∧ DOf a o xs ∧ R (ItX a o xs) H1) := fun q => by
    obtain ⟨a, ds, rfl, q, z⟩ := seq_walks h1 q
    rw [cx.K]
    refine ⟨a, rfl, ?_⟩
    rcases z with ⟨xs, z, w⟩ | ⟨xs, z, w⟩
    · exact .inl ⟨xs, z, fun y => k _ H1 ds σ1 st1 r1 (w y) k1 q⟩
    · exact .inr (.inl ⟨xs, z, fun y => k _ H1 ds σ1 st1 r1 (w y) k1 q⟩)
  cases d with
  | dT kvs =>
    cases h1 with
    | dT hq cq l lv rk rr =>
      rename_i a o xs vs
      have hl : (kvs.map (·.2)).length = vs.length := by rw [dlen l, lv.length, List.length_map]
      exact ⟨a, rfl, .inr (.inr ⟨o, xs, hq, cq, k _ H1 _ σ1 st1 r1 (walks_X hq ⟨cq, l, lv, rk, hl, rr⟩) k1 q⟩)⟩
  | _ => exact fin q
end
end DL

set_option Elab.async false
set_option linter.all false
set_option maxRecDepth 100000
namespace DL
open PySem PySem.Spec PyProof.Rows L2
variable [WW]
/-! ### contracts of a module's defs -/
structure Con (P : Program) (w : World) (K : PySem.W.Frag) (T : List (Addr × Str)) (mg : Str → Option Value) (base : Heap) (x : Str) (pr : Arguments) (bd : List Stmt) (sc : Scope) (ps : List Str) (d : Nat) (sp : DSp) : Prop where
  ex : ∃ f fd, mg x = some (.ref f) ∧ FunD K x x pr bd sc [] [] f fd ∧ FnD P w K T mg base d f fd ps sp
  bi : ∀ (kV doc pm : Value) (an : Option Addr) (cdv ct : Value) (us : List Value), us.length = ps.length → bindArgs (PySem.W.fnOf x x pr bd sc .none kV doc pm an cdv ct) ⟨us, []⟩ = pure (ps.zip us)
section
variable {X : Cx} {C : DC} {K : PySem.W.Frag} {T : List (Addr × Str)} {x : Str} {pr : Arguments} {bd : List Stmt} {sc : Scope} {ps ks : List Str} {d n : Nat} {sp : DSp} {e : Expr} {es : List Expr} {ts tks : List TED} {pos p : Pos} {is : List Nat} {kws : List Keyword}
theorem de_con (cx : Ctx X C) (hK : C.K = K) (hT : C.T = T) (con : Con X.prog X.w K T X.mg X.base x pr bd sc ps d sp) (hr : Room d X.A) (hg : Gl X x) (ha : DAr X C (e :: es) ts) (hl : ts.length = ps.length := by rfl) (hdb : (x == ("__debug__" : Str)) = false := by decide)
    (he : starEach (e :: es) X.env = (false, eval e X.env) :: starEach es X.env := by rfl) (hpl : (backTo pos (starEach es X.env)).any (·.1) = false := by rfl) : DE X C (.Call (.Name x p) (e :: es) [] pos) (eCall sp ts) := by
  subst hK hT
  obtain ⟨f, fd, hm, F, hF⟩ := con.ex
  exact de_call cx hF hr hg hm F.kp (F.bindsN con.bi) ha hl hdb he hpl
theorem de_conK0 (cx : Ctx X C) (hK : C.K = K) (hT : C.T = T) (con : Con X.prog X.w K T X.mg X.base x pr bd sc ps d sp) (hr : Room d X.A) (hg : Gl X x) (hkw : DKw X C kws tks)
    (hb : ∀ (kV doc pm : Value) (an : Option Addr) (cdv ct : Value) (us ws : List Value), us.length = 0 → ws.length = ks.length → bindArgs (PySem.W.fnOf x x pr bd sc .none kV doc pm an cdv ct) ⟨us, ks.zip ws⟩ = pure (ps.zip (pick is (us ++ ws)))) (hi : is.length = ps.length := by rfl) (lt : ∀ i ∈ is, i < 0 + ks.length := by decide) (hl : tks.length = ks.length := by rfl)
    (hall : (backToKw pos (keywordEach kws X.env)).all (·.1.isSome) = true := by rfl) (hks : (backToKw pos (keywordEach kws X.env)).filterMap (·.1) = ks := by rfl) (hdb : (x == ("__debug__" : Str)) = false := by decide)
    (hpl : ((backTo pos (starEach [] X.env)).any (·.1) || (backToKw pos (keywordEach kws X.env)).any (·.1.isNone)) = false := by rfl) :
    DE X C (.Call (.Name x p) [] kws pos) (eCallK sp is [] tks) := by
  subst hK hT
  obtain ⟨f, fd, hm, F, hF⟩ := con.ex
  exact de_callK0 cx hF hr hg hm F.kp (FunD.kw F hi lt hb) hkw hl hall hks hdb hpl
theorem de_conK (cx : Ctx X C) (hK : C.K = K) (hT : C.T = T) (con : Con X.prog X.w K T X.mg X.base x pr bd sc ps d sp) (hr : Room d X.A) (hg : Gl X x) (ha : DAr X C (e :: es) ts) (hkw : DKw X C kws tks)
    (hb : ∀ (kV doc pm : Value) (an : Option Addr) (cdv ct : Value) (us ws : List Value), us.length = n → ws.length = ks.length → bindArgs (PySem.W.fnOf x x pr bd sc .none kV doc pm an cdv ct) ⟨us, ks.zip ws⟩ = pure (ps.zip (pick is (us ++ ws)))) (hi : is.length = ps.length := by rfl) (lt : ∀ i ∈ is, i < n + ks.length := by decide) (hn : ts.length = n := by rfl) (hl : tks.length = ks.length := by rfl)
    (hall : (backToKw pos (keywordEach kws X.env)).all (·.1.isSome) = true := by rfl) (hks : (backToKw pos (keywordEach kws X.env)).filterMap (·.1) = ks := by rfl) (hdb : (x == ("__debug__" : Str)) = false := by decide) (he : starEach (e :: es) X.env = (false, eval e X.env) :: starEach es X.env := by rfl)
    (hpl : ((backTo pos (starEach (e :: es) X.env)).any (·.1) || (backToKw pos (keywordEach kws X.env)).any (·.1.isNone)) = false := by rfl) :
    DE X C (.Call (.Name x p) (e :: es) kws pos) (eCallK sp is ts tks) := by
  subst hK hT
  obtain ⟨f, fd, hm, F, hF⟩ := con.ex
  exact de_callK cx hF hr hg hm F.kp (FunD.kw F hi lt hb) ha hkw hn hl hall hks hdb he hpl
/-- a module's number; a module's tuple -/
theorem de_gint {i : Int} (hg : Gl X x) (hm : ∃ t, X.mg x = some (.int i t)) (hb : (x == ("__debug__" : Str)) = false := by decide) : DE X C (.Name x pos) (eC (.int i)) := by
  obtain ⟨t, hm⟩ := hm
  exact de_glob (v := .int i) hg hm ⟨t, rfl⟩ (fun _ => .int i) hb
theorem de_gkt {a : Addr} {vs : List V} {ds : List D} (hg : Gl X x) (hm : X.mg x = some (.ref a)) (hq : ∀ H, TupF C.K H a vs) (l : ∀ H, DenL C.K H ds vs) (hb : (x == ("__debug__" : Str)) = false := by decide) : DE X C (.Name x pos) (eC (.tup ds)) :=
  de_glob (v := .ref a) hg hm rfl (fun H => .tup (hq H) (l H).1 (l H).2) hb
end
end DL

set_option Elab.async false
set_option linter.all false
set_option maxRecDepth 100000
namespace DL
open PySem PySem.Spec PyProof.Rows L2
variable [WW]
section
variable {X : Cx} {C : DC} {a b c e : Expr} {ta tb te : TED} {t u v : TTD} {pos : Pos}
/-! ### if c: as a test of a choice -/
def tIfD (t u v : TTD) : TTD := fun E σ st Q => t E σ st fun b σ1 st1 => if b = true then u E σ1 st1 Q else v E σ1 st1 Q
theorem dt_if (hc : DT X C c t) (ha : DT X C a u) (hb : DT X C b v) : DT X C (.IfExp c a b pos) (tIfD t u v) := by
  refine ⟨fun pins s σ H Q I q => ?_⟩
  obtain ⟨σd, st, Qd, r, ht, k⟩ := q
  show wpAny _ _ (isTrue c X.env (eval c X.env) >>= fun z => if z = true then isTrue a X.env (eval a X.env) else isTrue b X.env (eval b X.env)) _ _ s
  refine wpAny_bind (thn (hc.run pins s σ H (fun z H1 => if z = true then embT C u σ H1 Q else embT C v σ H1 Q) I ⟨σd, st, _, r, ht, fun z H1 σ1 st1 r1 k1 q => ?_⟩) fun z s1 ⟨H1, I1, q1⟩ => ?_)
  · cases z with
    | true => exact ⟨σ1, st1, _, r1, q, fun b H2 σ2 st2 r2 k2 q => k b H2 σ2 st2 r2 (k1.trans k2) q⟩
    | false => exact ⟨σ1, st1, _, r1, q, fun b H2 σ2 st2 r2 k2 q => k b H2 σ2 st2 r2 (k1.trans k2) q⟩
  · cases z with
    | true => exact ha.run pins s1 σ H1 Q I1 q1
    | false => exact hb.run pins s1 σ H1 Q I1 q1
/-! ### x[::-1], x a list -/
def eRev (te : TED) : TED := fun E σ st Q => te E σ st fun d σ1 st1 => match rd σ1 st1 d with
  | .lst ds => Q (.lst ds.reverse) σ1 st1
  | _ => False
theorem de_rev {k : Nat} {p1 p2 p3 : Pos} (cx : Ctx X C) (he : DE X C e te) : DE X C (.Subscript e (.Slice none none (some (.UnaryOp .USub (.Constant (.int 1) k p1) p2)) p3) pos) (eRev te) := DE.imp (pe_shf (pe_revL he)) fun σ H Q q => by
  obtain ⟨σd, st, Qd, r, ht, kq⟩ := q
  refine ⟨σd, st, _, r, ht, fun v H1 d σ1 st1 r1 h1 k1 q => ?_⟩
  have hr := rd_ok r1 h1
  revert q hr
  dsimp only
  cases rd σ1 st1 d <;> first | exact fun q => q.elim | skip
  intro q hr
  obtain ⟨a, vs, rfl, h2, l⟩ := red_lst hr
  exact ⟨a, vs, rfl, .inl h2, fun p hp => fin_lst hp l.reverse fun H' m hd => kq _ H' _ σ1 st1 (r1.mild m) (.of hd) (k1.trans m.k) q⟩
/-! ### tuple(range(n)), list(range(n)) -/
theorem rg_den {K : PySem.W.Frag} {H : Hp} (n : Int) : DenL K H (rangeL 0 n.toNat) (rgV 0 n) := by
  unfold rangeL rgV
  rw [Int.sub_zero]
  refine ⟨by simp, fun i d v e1 e2 => ?_⟩
  rw [List.getElem?_map] at e1 e2
  obtain ⟨j, h1, rfl⟩ := Option.map_eq_some_iff.mp e1
  obtain ⟨k, h2, rfl⟩ := Option.map_eq_some_iff.mp e2
  rw [h1] at h2; cases h2
  exact .int _
def eTupRg (te : TED) : TED := fun E σ st Q => te E σ st fun d σ1 st1 => match rd σ1 st1 d with
  | .int n => -big62 ≤ n ∧ n ≤ 16777216 ∧ Q (.tup (rangeL 0 n.toNat)) σ1 st1
  | _ => False
def eLstRg (te : TED) : TED := fun E σ st Q => te E σ st fun d σ1 st1 => match rd σ1 st1 d with
  | .int n => -big62 ≤ n ∧ n ≤ 16777216 ∧ Q (.lst (rangeL 0 n.toNat)) σ1 st1
  | _ => False
theorem rg_ok {n : Int} (h1 : -big62 ≤ n) (h2 : n ≤ 16777216) : RgOk 0 n := by
  unfold RgOk
  rw [big62_eq]
  unfold big62 at *
  omega
def tRgX (te : TE) (k : Int → VK → Hp → Prop) : TE := fun σ H Q => te σ H fun x H1 => ∃ n, x = .int n ∧ k n Q H1
theorem pe_tupRgF {p pos p2 pos2 : Pos} {ta : TE} (hc : X.calm = true) (hg : Gl X "tuple") (hm : X.mg "tuple" = none) (hg2 : Gl X "range") (hm2 : X.mg "range" = none) (ha : PE X e ta) (na : starEach [e] X.env = (false, eval e X.env) :: starEach [] X.env)
    (na2 : starEach [.Call (.Name "range" p2) [e] [] pos2] X.env = (false, eval (.Call (.Name "range" p2) [e] [] pos2) X.env) :: starEach [] X.env := by rfl) :
    PE X (.Call (.Name "tuple" p) [.Call (.Name "range" p2) [e] [] pos2] [] pos) (tRgX ta fun n Q H => RgOk 0 n ∧ NewT H Q (rgV 0 n)) := by
  refine ⟨fun pins s σ H Q I h => ?_⟩
  refine Call_ (ld_blt I hg hm boot_tuple (PyProof.Rows.callWith_type1 (args_cons (thn (prg_1 hg2 hm2 ha na pins s σ H (fun a b H1 => a = 0 ∧ RgOk a b ∧ NewT H1 Q (rgV a b)) I (by
    have h' : ta σ H fun x H1 => ∃ n, x = .int n ∧ RgOk 0 n ∧ NewT H1 Q (rgV 0 n) := h
    show ta σ H fun x H1 => ∃ n, x = .int n ∧ 0 = 0 ∧ RgOk 0 n ∧ NewT H1 Q (rgV 0 n)
    simpa using h')) fun x s1 ⟨r, a, b, t, u, v, H1, ex, hr, I1, ea, ok, q⟩ => args_nil ?_) na2) na2))
  subst ex
  obtain ⟨b1, b2, b3, b4, b5⟩ := ok
  refine call_tuple_range (n := (b - a).toNat) (I1.ok.hd hc) hr (small_one b1 b2 b3 b4) (rangeSize_nat a b) b5 fun h' tk acc hk hi => ?_
  have z := ep_tup (I1.kept (t' := tk) hk) (vals_rg hi) (by rw [rgV_length, sizeLine_eq]; omega) q
  rw [Array.toArray_toList] at z
  exact z
theorem de_tupRg (cx : Ctx X C) {p pos p2 pos2 : Pos} (hg : Gl X "tuple") (hm : X.mg "tuple" = none) (hg2 : Gl X "range") (hm2 : X.mg "range" = none) (ha : DE X C e te) (na : starEach [e] X.env = (false, eval e X.env) :: starEach [] X.env := by rfl) :
    DE X C (.Call (.Name "tuple" p) [.Call (.Name "range" p2) [e] [] pos2] [] pos) (eTupRg te) := DE.imp (pe_tupRgF cx.calm hg hm hg2 hm2 ha na) fun σ H Q q => by
  obtain ⟨σd, st, Qd, r, ht, kq⟩ := q
  refine ⟨σd, st, _, r, ht, fun v H1 d σ1 st1 r1 h1 k1 q => ?_⟩
  have hr := rd_ok r1 h1
  revert q hr
  dsimp only
  cases rd σ1 st1 d <;> first | exact fun q => q.elim | skip
  intro q hr
  exact ⟨_, red_int hr, rg_ok q.1 q.2.1, fun p o hp ho => fin_tup (Qv := Q) hp ho (rg_den _) fun H' m hd => kq _ H' _ σ1 st1 (r1.mild m) (.of hd) (k1.trans m.k) q.2.2⟩
theorem de_lstRg (cx : Ctx X C) {p pos p2 pos2 : Pos} (hg : Gl X "list") (hm : X.mg "list" = none) (hg2 : Gl X "range") (hm2 : X.mg "range" = none) (ha : DE X C e te) (na : starEach [e] X.env = (false, eval e X.env) :: starEach [] X.env := by rfl) :
    DE X C (.Call (.Name "list" p) [.Call (.Name "range" p2) [e] [] pos2] [] pos) (eLstRg te) := DE.imp (pe_shf (pe_listRg cx.calm hg hm (prg_1 hg2 hm2 ha na))) fun σ H Q q => by
  obtain ⟨σd, st, Qd, r, ht, kq⟩ := q
  refine ⟨σd, st, _, r, ht, fun v H1 d σ1 st1 r1 h1 k1 q => ?_⟩
  have hr := rd_ok r1 h1
  revert q hr
  dsimp only
  cases rd σ1 st1 d <;> first | exact fun q => q.elim | skip
  intro q hr
  exact ⟨_, red_int hr, rg_ok q.1 q.2.1, fun p hp => fin_lst hp (rg_den _) fun H' m hd => kq _ H' _ σ1 st1 (r1.mild m) (.of hd) (k1.trans m.k) q.2.2⟩
/-! ### short forms -/
def visB (sc : Scope) (x : Str) : Bool := match sc.names.lookup x with
  | some .local => true
  | some .cell => true
  | some .free => true
  | _ => false
def locB (sc : Scope) (x : Str) : Bool := match sc.names.lookup x with
  | some .local => true
  | some .cell => true
  | _ => false
theorem vis_of {sc : Scope} {x : Str} (h : visB sc x = true) : Vis sc x := by
  unfold visB at h
  unfold Vis
  split at h <;> first | (cases h; done) | simp_all
theorem loc_of {sc : Scope} {x : Str} (h : locB sc x = true) : L2.Loc sc x := by
  unfold locB at h
  unfold L2.Loc
  split at h <;> first | (cases h; done) | simp_all
theorem de_v {i : Nat} {x : Str} (hN : X.N[i]? = some x) (hv : visB X.env.scope x = true) (hd : (x == ("__debug__" : Str)) = false := by decide) (hcd : (x == ("__classdict__" : Str)) = false := by decide) : DE X C (.Name x pos) (eVar i) := de_var hN (vis_of hv) hd hcd
theorem de_vS {i : Nat} {x : Str} (hN : X.N[i]? = some x) (hv : visB X.env.scope x = true) (hd : (x == ("__debug__" : Str)) = false := by decide) (hcd : (x == ("__classdict__" : Str)) = false := by decide) : DE X C (.Name x pos) (eVarS i) := de_varS hN (vis_of hv) hd hcd
theorem dg_v {i : Nat} {x : Str} (cx : Ctx X C) (hi : X.N[i]? = some x) (hx : locB X.env.scope x = true) (hf : X.fn x = true ∨ X.env.scope.names.lookup x = some .local := by first | exact .inl rfl | exact .inr rfl | assumption) : DG X C (.Name x pos) (gN i) := dg_name cx.nd hi (loc_of hx) hf
theorem ds_break : DS X C (.Break pos) sBreak := DS.imp ps_break fun D σ H q => by
  obtain ⟨σd, st, Dd, r, ht, l⟩ := q
  exact l.bk σ H σd st r (Keep.refl H) ht
/-- targets of comprehensions -/
theorem hg1 {scope : Scope} {i : Nat} {x : Str} (cx : Ctx X C) (hi : X.N[i]? = some x) (hl : ∀ (cl : List (Str × Addr)) (Ca : Addr), (compEnvC scope cl Ca X.env).scope.names.lookup x = some .local) (s : Shared) (H : Hp) (Ca : Addr) (cl : List (Str × Addr)) (fp : List Addr) : PG (X.blk s H scope (compEnvC scope cl Ca X.env) fp) (.Name x pos) (gV X.K (.n i)) :=
  pg_name cx.nd hi (.inl (hl cl Ca)) (.inr (hl cl Ca))
theorem hg2 {scope : Scope} {i j k : Nat} {x y : Str} {p1 p2 : Pos} (cx : Ctx X C) (hi : X.N[i]? = some x) (hl : ∀ (cl : List (Str × Addr)) (Ca : Addr), (compEnvC scope cl Ca X.env).scope.names.lookup x = some .local) (hj : X.N[j]? = some y) (hm : ∀ (cl : List (Str × Addr)) (Ca : Addr), (compEnvC scope cl Ca X.env).scope.names.lookup y = some .local) (s : Shared) (H : Hp) (Ca : Addr) (cl : List (Str × Addr)) (fp : List Addr) :
    PG (X.blk s H scope (compEnvC scope cl Ca X.env) fp) (.Tuple [.Name x p1, .Name y p2] k pos) (gV X.K (.t [i, j])) :=
  pg_tup cx.calm (pgs_cons (pg_name cx.nd hi (.inl (hl cl Ca)) (.inr (hl cl Ca))) (pgs_cons (pg_name cx.nd hj (.inl (hm cl Ca)) (.inr (hm cl Ca))) pgs_nil))
theorem de_isOwnK {K : PySem.W.Frag} {C0 : Addr} {T : Str} {p p2 : Pos} (cx : Ctx X C) (hK : C.K = K) (hg : Gl X "isinstance") (hm : X.mg "isinstance" = none) (ha : DE X C e te) (gT : Gl X T) (mT : X.mg T = some (.ref C0)) (bT : (T == ("__debug__" : Str)) = false := by decide)
    (he : starEach [e, .Name T p2] X.env = (false, eval e X.env) :: starEach [.Name T p2] X.env := by rfl) (hpl : (backTo pos (starEach [.Name T p2] X.env)).any (·.1) = false := by rfl) :
    DE X C (.Call (.Name "isinstance" p) [e, .Name T p2] [] pos) (eIsOwn K C0 te) := by
  subst hK
  exact de_isOwn cx hg hm ha gT mT bT he hpl
theorem de_gktK {K : PySem.W.Frag} {a : Addr} {x : Str} {vs : List V} {ds : List D} (hK : C.K = K) (hg : Gl X x) (hm : X.mg x = some (.ref a)) (hq : ∀ H, TupF K H a vs) (l : ∀ H, DenL K H ds vs) (hb : (x == ("__debug__" : Str)) = false := by decide) : DE X C (.Name x pos) (eC (.tup ds)) := by
  subst hK
  exact de_gkt hg hm hq l hb
end
end DL

set_option Elab.async false
set_option linter.all false
set_option maxRecDepth 100000
namespace DL
open PySem PySem.Spec PyProof.Rows L2
variable [WW]
/-! ### loops -/
theorem mapD_inv {g : Tgt} {tt : TTD} {te : TED} {vs : List Nat} {P : Nat → List D → En → Sto → Prop} {Q : List D → En → Sto → Prop} (n : Nat) : ∀ (ds : List D) (k : Nat) (acc : List D) (σ : En) (st : Sto), k + ds.length = n → P k acc σ st →
    (∀ (i : Nat) d acc σ st, ds[i]? = some d → P (k + i) acc σ st → ∀ (Kt : D → En → Sto → Prop) (Kf : En → Sto → Prop), (∀ y σ' st', P (k + i + 1) (acc ++ [y]) σ' st' → Kt y σ' st') → (∀ σ' st', P (k + i + 1) acc σ' st' → Kf σ' st') →
      gT g d (wipeD σ vs) st fun σ1 st1 => tt F0 σ1 st1 fun b σ2 st2 => if b = true then eFz te F0 σ2 st2 Kt else Kf σ2 st2) →
    (∀ acc σ st, P n acc σ st → Q acc σ st) → mapD g tt te vs ds acc σ st Q
  | [], k, acc, σ, st, hn, h0, _, he => he acc σ st (by rw [← hn]; exact h0)
  | d :: ds, k, acc, σ, st, hn, h0, hs, he => by
    have rec_ : ∀ acc' σ' st', P (k + 1) acc' σ' st' → mapD g tt te vs ds acc' σ' st' Q := fun acc' σ' st' hp =>
      mapD_inv n ds (k + 1) acc' σ' st' (by rw [List.length_cons] at hn; omega) hp (fun i d acc σ st e hp Kt Kf k1 k2 => by
        have e2 : k + 1 + i = k + (i + 1) := by omega
        rw [e2] at hp k1 k2
        exact hs (i + 1) d acc σ st (by simpa using e) hp Kt Kf k1 k2) he
    exact hs 0 d acc σ st rfl h0 (fun y σ3 st3 => mapD g tt te vs ds (acc ++ [y]) σ3 st3 Q) (fun σ2 st2 => mapD g tt te vs ds acc σ2 st2 Q) (fun y σ' st' hp => rec_ _ _ _ hp) fun σ' st' hp => rec_ _ _ _ hp
theorem backD_at {σ0 σ : En} {j : Nat} : ∀ vs : List Nat, (backD σ0 σ vs)[j]? = if j ∈ vs then (if j < σ.length then some (keepV σ0[j]?) else none) else σ[j]?
  | [] => by simp [backD]
  | v :: vs => by
    unfold backD
    by_cases e : v = j
    · subst e
      rw [if_pos List.mem_cons_self]
      by_cases hv : v < σ.length
      · rw [List.getElem?_set_self (by rw [backD_len]; exact hv), if_pos hv]
      · rw [List.getElem?_eq_none (by rw [List.length_set, backD_len]; omega), if_neg hv]
    · rw [List.getElem?_set_ne e, backD_at vs]
      by_cases h : j ∈ vs
      · rw [if_pos h, if_pos (List.mem_cons_of_mem _ h)]
      · rw [if_neg h, if_neg (by simp only [List.mem_cons, not_or]; exact ⟨fun z => e z.symm, h⟩)]
theorem wipeD_at {σ : En} {j : Nat} : ∀ vs : List Nat, (wipeD σ vs)[j]? = if j ∈ vs then (if j < σ.length then some .un else none) else σ[j]?
  | [] => by simp [wipeD]
  | v :: vs => by
    unfold wipeD
    by_cases e : v = j
    · subst e
      rw [if_pos List.mem_cons_self]
      by_cases hv : v < σ.length
      · rw [List.getElem?_set_self (by rw [wipeD_len]; exact hv), if_pos hv]
      · rw [List.getElem?_eq_none (by rw [List.length_set, wipeD_len]; omega), if_neg hv]
    · rw [List.getElem?_set_ne e, wipeD_at vs]
      by_cases h : j ∈ vs
      · rw [if_pos h, if_pos (List.mem_cons_of_mem _ h)]
      · rw [if_neg h, if_neg (by simp only [List.mem_cons, not_or]; exact ⟨fun z => e z.symm, h⟩)]
theorem wipe_back {σ0 σ σ' : En} {vs : List Nat} (h : wipeD σ' vs = wipeD σ vs) : backD σ0 σ' vs = backD σ0 σ vs := by
  have hl : σ'.length = σ.length := by have := congrArg List.length h; rwa [wipeD_len, wipeD_len] at this
  apply List.ext_getElem?
  intro j
  rw [backD_at, backD_at]
  by_cases hj : j ∈ vs
  · rw [if_pos hj, if_pos hj, hl]
  · rw [if_neg hj, if_neg hj]
    have := congrArg (fun l => l[j]?) h
    simp only [wipeD_at, if_neg hj] at this
    exact this
/-- a comprehension whose body changes nothing, with what it gives: some y, or nothing where the test fails -/
theorem mapD_map {g : Tgt} {tt : TTD} {te : TED} {vs : List Nat} {σ : En} {st : Sto} {Q : List D → En → Sto → Prop} (f : D → Option D) (ds : List D)
    (hs : ∀ d ∈ ds, ∀ (Kt : D → En → Sto → Prop) (Kf : En → Sto → Prop), (∀ y σ', f d = some y → wipeD σ' vs = wipeD σ vs → Kt y σ' st) → (∀ σ', f d = none → wipeD σ' vs = wipeD σ vs → Kf σ' st) →
      gT g d (wipeD σ vs) st fun σ1 st1 => tt F0 σ1 st1 fun b σ2 st2 => if b = true then eFz te F0 σ2 st2 Kt else Kf σ2 st2)
    (he : Q (ds.filterMap f) (backD σ σ vs) st) : mapD g tt te vs ds [] σ st fun acc σ2 st2 => Q acc (backD σ σ2 vs) st2 := by
  refine mapD_inv (P := fun i acc σ' st' => acc = (ds.take i).filterMap f ∧ wipeD σ' vs = wipeD σ vs ∧ st' = st) ds.length ds 0 [] σ st (by simp) ⟨rfl, rfl, rfl⟩ (fun i d acc σ' st' e hp Kt Kf k1 k2 => ?_) fun acc σ' st' hp => ?_
  · obtain ⟨rfl, hw, rfl⟩ := hp
    rw [Nat.zero_add] at k1 k2
    have ht : ds.take (i + 1) = ds.take i ++ [d] := by rw [List.take_add_one, e]; rfl
    rw [hw]
    refine hs d (List.mem_of_getElem? e) Kt Kf (fun y σ2 ey hw2 => k1 y σ2 _ ⟨?_, hw2, rfl⟩) fun σ2 ey hw2 => k2 σ2 _ ⟨?_, hw2, rfl⟩
    · rw [ht, List.filterMap_append]; simp [ey]
    · rw [ht, List.filterMap_append]; simp [ey]
  · obtain ⟨rfl, hw, rfl⟩ := hp
    rw [List.take_length, wipe_back hw]
    exact he
theorem forD_inv {g : TGD} {tb : TSD} {E : XD} {Dd : DEnds} {P : Nat → En → Sto → Prop} (n : Nat) : ∀ (ds : List D) (k : Nat) (σ : En) (st : Sto), k + ds.length = n → P k σ st →
    (∀ (i : Nat) d σ st, ds[i]? = some d → P (k + i) σ st → ∀ Nx : En → Sto → Prop, (∀ σ' st', P (k + i + 1) σ' st' → Nx σ' st') → g d σ st fun σ1 st1 => tb E { nx := Nx, rt := Dd.rt, bk := Dd.nx, ct := Nx } σ1 st1) →
    (∀ σ st, P n σ st → Dd.nx σ st) → forD g tb ds E Dd σ st
  | [], k, σ, st, hn, h0, _, he => he σ st (by rw [← hn]; exact h0)
  | d :: ds, k, σ, st, hn, h0, hs, he => by
    refine hs 0 d σ st rfl h0 (fun σ2 st2 => forD g tb ds E Dd σ2 st2) fun σ' st' hp => ?_
    refine forD_inv n ds (k + 1) σ' st' (by rw [List.length_cons] at hn; omega) hp (fun i d σ st e hp Nx k1 => ?_) he
    have e2 : k + 1 + i = k + (i + 1) := by omega
    rw [e2] at hp k1
    exact hs (i + 1) d σ st (by simpa using e) hp Nx k1
theorem for_inv {g : TGD} {tb : TSD} {E : XD} {Dd : DEnds} (P : Nat → En → Sto → Prop) {ds : List D} {σ : En} {st : Sto} (h0 : P 0 σ st)
    (hs : ∀ (i : Nat) d σ st, ds[i]? = some d → P i σ st → ∀ Nx : En → Sto → Prop, (∀ σ' st', P (i + 1) σ' st' → Nx σ' st') → g d σ st fun σ1 st1 => tb E { nx := Nx, rt := Dd.rt, bk := Dd.nx, ct := Nx } σ1 st1)
    (he : ∀ σ st, P ds.length σ st → Dd.nx σ st) : forD g tb ds E Dd σ st :=
  forD_inv ds.length ds 0 σ st (by simp) h0 (fun i d σ st e hp Nx k1 => by
    rw [Nat.zero_add] at hp k1
    exact hs i d σ st e hp Nx k1) he
theorem while_inv {c : TTD} {tb : TSD} {E : XD} {Dd : DEnds} (P : Nat → En → Sto → Prop)
    (hs : ∀ n σ st, P n σ st → ∀ Nx : En → Sto → Prop, (∀ m σ' st', m < n → P m σ' st' → Nx σ' st') → c E σ st fun b σ1 st1 => if b = true then tb E { nx := Nx, rt := Dd.rt, bk := Dd.nx, ct := Nx } σ1 st1 else Dd.nx σ1 st1)
    (n : Nat) (σ : En) (st : Sto) (h : P n σ st) : sWhile c tb E Dd σ st := by
  have key : ∀ f n σ st, n < f → P n σ st → whileD c tb f E Dd σ st := by
    intro f
    induction f with
    | zero => intro n σ st h; exact absurd h (Nat.not_lt_zero _)
    | succ f ih =>
      intro n σ st hn hp
      exact hs n σ st hp (fun σ2 st2 => whileD c tb f E Dd σ2 st2) fun m σ' st' hm hp' => ih m σ' st' (by omega) hp'
  exact ⟨n + 1, key (n + 1) n σ st (Nat.lt_succ_self n) h⟩
end DL

set_option Elab.async false
set_option linter.all false
set_option maxRecDepth 100000
namespace DL
open PySem PySem.Spec PyProof.Rows L2
/-! ### the ground of running a def by simp: what stands ahead is looked at, what follows is held in an instance, where simp does not look -/
class KB (α : Type) where
  k : α
def lt {α : Type} (x : α) (k : α → Prop) : Prop := k x
def ltF {α : Type} (x : α) [b : KB (α → Prop)] : Prop := b.k x
@[simp ↓] theorem f_lt {α : Type} (x : α) (k : α → Prop) : lt x k = @ltF α x ⟨k⟩ := rfl
@[simp] theorem e_lt {α : Type} (x : α) (k : α → Prop) : @ltF α x ⟨k⟩ = k x := rfl
theorem z_lt {α : Type} (x : α) (k : α → Prop) : lt x k = k x := rfl
def oG {α : Type} (o : Option α) (k : α → Prop) : Prop := match o with | some x => k x | none => False
def oGF {α : Type} (o : Option α) [b : KB (α → Prop)] : Prop := oG o b.k
@[simp ↓] theorem f_oG {α : Type} (o : Option α) (k : α → Prop) : oG o k = @oGF α o ⟨k⟩ := rfl
@[simp] theorem e_oG1 {α : Type} (x : α) (k : α → Prop) : @oGF α (some x) ⟨k⟩ = k x := rfl
@[simp] theorem e_oG0 {α : Type} (k : α → Prop) : @oGF α none ⟨k⟩ = False := rfl
theorem z_oG1 {α : Type} (x : α) (k : α → Prop) : oG (some x) k = k x := rfl
theorem z_oG0 {α : Type} (k : α → Prop) : oG none k = False := rfl
theorem oG_ex {α : Type} (o : Option α) (k : α → Prop) : (∃ x, o = some x ∧ k x) = oG o k := by
  cases o with
  | none => exact propext ⟨fun ⟨_, h, _⟩ => (nomatch h), fun h => h.elim⟩
  | some x => exact propext ⟨fun ⟨y, h, q⟩ => by cases h; exact q, fun q => ⟨x, rfl, q⟩⟩
theorem oG_of {α : Type} {o : Option α} {k : α → Prop} {x : α} (h : o = some x) (q : k x) : oG o k := by rw [h]; exact q
@[simp] theorem e_oGm {α β : Type} (f : α → β) (o : Option α) (k : β → Prop) : @oGF β (o.map f) ⟨k⟩ = @oGF α o ⟨fun x => k (f x)⟩ := by cases o <;> rfl
variable [WW]
/-- neither owned nor shared -/
def nod : D → Prop
  | .own _ => False
  | .ref _ => False
  | _ => True
theorem nod.no {d : D} (h : nod d) : noOwn d := by cases d <;> first | exact h | trivial
abbrev BF := En × (D → En → Prop)
def fzK (d : D) (σ : En) (Q : D → En → Prop) : Prop := noOwn (fzV σ d) ∧ Q (fzV σ d) (fzE σ d)
def fzKF (d : D) [b : KB BF] : Prop := fzK d b.k.1 b.k.2
theorem fzK_no {d : D} {σ : En} {Q : D → En → Prop} (h : noOwn d) : fzK d σ Q = Q d σ := by
  cases d <;> first | exact h.elim | exact propext ⟨fun q => q.2, fun q => ⟨trivial, q⟩⟩
def fzO (i : Nat) (o : Option Sl) (σ : En) (Q : D → En → Prop) : Prop := noOwn (rdS i o) ∧ Q (rdS i o) (fzS σ i o)
def fzOF (i : Nat) (o : Option Sl) [b : KB BF] : Prop := fzO i o b.k.1 b.k.2
abbrev BR := En × Sto × (D → Prop)
section
variable {σ : En} {st : Sto} {Q : D → En → Prop} {k : D → Prop} {i : Nat} {a : Addr} {o : Option Sl}
@[simp ↓] theorem f_fz {d : D} : fzK d σ Q = @fzKF d ⟨σ, Q⟩ := rfl
@[simp ↓] theorem f_fzO : fzO i o σ Q = @fzOF i o ⟨σ, Q⟩ := rfl
@[simp] theorem e_fz_non  : @fzKF .non ⟨σ, Q⟩ = Q .non σ := fzK_no trivial
@[simp] theorem e_fz_bl {b : Bool} : @fzKF (.bl b) ⟨σ, Q⟩ = Q (.bl b) σ := fzK_no trivial
@[simp] theorem e_fz_int {n : Int} : @fzKF (.int n) ⟨σ, Q⟩ = Q (.int n) σ := fzK_no trivial
@[simp] theorem e_fz_str {n : Str} : @fzKF (.str n) ⟨σ, Q⟩ = Q (.str n) σ := fzK_no trivial
@[simp] theorem e_fz_ty {n : String} : @fzKF (.ty n) ⟨σ, Q⟩ = Q (.ty n) σ := fzK_no trivial
@[simp] theorem e_fz_tup {ds : List D} : @fzKF (.tup ds) ⟨σ, Q⟩ = Q (.tup ds) σ := fzK_no trivial
@[simp] theorem e_fz_lst {ds : List D} : @fzKF (.lst ds) ⟨σ, Q⟩ = Q (.lst ds) σ := fzK_no trivial
@[simp] theorem e_fz_dK {ds : List (Key × D)} : @fzKF (.dK ds) ⟨σ, Q⟩ = Q (.dK ds) σ := fzK_no trivial
@[simp] theorem e_fz_dT {ds : List (NK × D)} : @fzKF (.dT ds) ⟨σ, Q⟩ = Q (.dT ds) σ := fzK_no trivial
@[simp] theorem e_fz_exc {ds : List (Str × D)} : @fzKF (.exc a ds) ⟨σ, Q⟩ = Q (.exc a ds) σ := fzK_no trivial
@[simp] theorem e_fz_kls {ds : List D} : @fzKF (.kls ds) ⟨σ, Q⟩ = Q (.kls ds) σ := fzK_no trivial
@[simp] theorem e_fz_kt {ds : List D} : @fzKF (.kt ds) ⟨σ, Q⟩ = Q (.kt ds) σ := fzK_no trivial
@[simp] theorem e_fz_ref  : @fzKF (.ref a) ⟨σ, Q⟩ = Q (.ref a) σ := fzK_no trivial
@[simp] theorem e_fz_nod {d : D} (h : nod d) : @fzKF d ⟨σ, Q⟩ = Q d σ := fzK_no h.no
theorem z_fz_nod {d : D} (h : nod d) : @fzKF d ⟨σ, Q⟩ = Q d σ := fzK_no h.no
@[simp] theorem e_fz_own : @fzKF (.own i) ⟨σ, Q⟩ = fzO i σ[i]? σ Q := rfl
@[simp] theorem e_fzO_val {d : D} (h : noOwn d) : @fzOF i (some (.val d)) ⟨σ, Q⟩ = Q d σ := propext ⟨fun q => q.2, fun q => ⟨h, q⟩⟩
@[simp] theorem e_fzO_ol {ds : List D} : @fzOF i (some (.ol ds)) ⟨σ, Q⟩ = lt (σ.set i (.val (.lst ds))) fun σ' => Q (.lst ds) σ' := propext ⟨fun q => q.2, fun q => ⟨trivial, q⟩⟩
@[simp] theorem e_fzO_ok {ds : List (Key × D)} : @fzOF i (some (.ok ds)) ⟨σ, Q⟩ = lt (σ.set i (.val (.dK ds))) fun σ' => Q (.dK ds) σ' := propext ⟨fun q => q.2, fun q => ⟨trivial, q⟩⟩
@[simp] theorem e_fzO_ot {ds : List (NK × D)} : @fzOF i (some (.ot ds)) ⟨σ, Q⟩ = lt (σ.set i (.val (.dT ds))) fun σ' => Q (.dT ds) σ' := propext ⟨fun q => q.2, fun q => ⟨trivial, q⟩⟩
def rdK (d : D) (σ : En) (st : Sto) (k : D → Prop) : Prop := k (rd σ st d)
def rdKF (d : D) [b : KB BR] : Prop := rdK d b.k.1 b.k.2.1 b.k.2.2
def rdOK (i : Nat) (o : Option Sl) (k : D → Prop) : Prop := k (rdS i o)
def rdOF (i : Nat) (o : Option Sl) [b : KB (D → Prop)] : Prop := rdOK i o b.k
def rdRK (a : Addr) (o : Option SO) (k : D → Prop) : Prop := k (rdA a o)
def rdRF (a : Addr) (o : Option SO) [b : KB (D → Prop)] : Prop := rdRK a o b.k
@[simp ↓] theorem f_rd {d : D} : rdK d σ st k = @rdKF d ⟨σ, st, k⟩ := rfl
@[simp ↓] theorem f_rdO : rdOK i o k = @rdOF i o ⟨k⟩ := rfl
@[simp ↓] theorem f_rdR {o : Option SO} : rdRK a o k = @rdRF a o ⟨k⟩ := rfl
@[simp] theorem e_rd_non  : @rdKF .non ⟨σ, st, k⟩ = k .non := rfl
@[simp] theorem e_rd_bl {b : Bool} : @rdKF (.bl b) ⟨σ, st, k⟩ = k (.bl b) := rfl
@[simp] theorem e_rd_int {n : Int} : @rdKF (.int n) ⟨σ, st, k⟩ = k (.int n) := rfl
@[simp] theorem e_rd_str {n : Str} : @rdKF (.str n) ⟨σ, st, k⟩ = k (.str n) := rfl
@[simp] theorem e_rd_ty {n : String} : @rdKF (.ty n) ⟨σ, st, k⟩ = k (.ty n) := rfl
@[simp] theorem e_rd_tup {ds : List D} : @rdKF (.tup ds) ⟨σ, st, k⟩ = k (.tup ds) := rfl
@[simp] theorem e_rd_lst {ds : List D} : @rdKF (.lst ds) ⟨σ, st, k⟩ = k (.lst ds) := rfl
@[simp] theorem e_rd_dK {ds : List (Key × D)} : @rdKF (.dK ds) ⟨σ, st, k⟩ = k (.dK ds) := rfl
@[simp] theorem e_rd_dT {ds : List (NK × D)} : @rdKF (.dT ds) ⟨σ, st, k⟩ = k (.dT ds) := rfl
@[simp] theorem e_rd_exc {ds : List (Str × D)} : @rdKF (.exc a ds) ⟨σ, st, k⟩ = k (.exc a ds) := rfl
@[simp] theorem e_rd_kls {ds : List D} : @rdKF (.kls ds) ⟨σ, st, k⟩ = k (.kls ds) := rfl
@[simp] theorem e_rd_kt {ds : List D} : @rdKF (.kt ds) ⟨σ, st, k⟩ = k (.kt ds) := rfl
@[simp] theorem e_rd_nod {d : D} (h : nod d) : @rdKF d ⟨σ, st, k⟩ = k d := by cases d <;> first | exact h.elim | rfl
theorem z_rd_nod {d : D} (h : nod d) : @rdKF d ⟨σ, st, k⟩ = k d := by cases d <;> first | exact h.elim | rfl
@[simp] theorem e_rd_own : @rdKF (.own i) ⟨σ, st, k⟩ = rdOK i σ[i]? k := rfl
@[simp] theorem e_rd_ref : @rdKF (.ref a) ⟨σ, st, k⟩ = rdRK a (st a) k := rfl
@[simp] theorem e_rdO_ol {ds : List D} : @rdOF i (some (.ol ds)) ⟨k⟩ = k (.lst ds) := rfl
@[simp] theorem e_rdO_ok {ds : List (Key × D)} : @rdOF i (some (.ok ds)) ⟨k⟩ = k (.dK ds) := rfl
@[simp] theorem e_rdO_ot {ds : List (NK × D)} : @rdOF i (some (.ot ds)) ⟨k⟩ = k (.dT ds) := rfl
@[simp] theorem e_rdO_val {d : D} : @rdOF i (some (.val d)) ⟨k⟩ = k d := rfl
@[simp] theorem e_rdR_lst {ds : List D} : @rdRF a (some (.lst ds)) ⟨k⟩ = k (.lst ds) := rfl
@[simp] theorem e_rdR_dK {ds : List (Key × D)} : @rdRF a (some (.dK ds)) ⟨k⟩ = k (.dK ds) := rfl
def rdL : List D → En → Sto → (List D → Prop) → Prop
  | [], _, _, k => k []
  | d :: ds, σ, st, k => rdK d σ st fun d' => rdL ds σ st fun r => k (d' :: r)
theorem rdL_eq {k : List D → Prop} : ∀ {ds : List D} {k : List D → Prop}, rdL ds σ st k = k (ds.map (rd σ st))
  | [], k => rfl
  | d :: ds, k => by
    show rdL ds σ st (fun r => k (rd σ st d :: r)) = _
    rw [rdL_eq (k := fun _ => True)]; rfl
@[simp ↓] theorem z_rdL0 {k : List D → Prop} : rdL [] σ st k = k [] := rfl
@[simp ↓] theorem z_rdL1 {k : List D → Prop} {d : D} {ds : List D} : rdL (d :: ds) σ st k = rdK d σ st fun d' => rdL ds σ st fun r => k (d' :: r) := rfl
def slDF (i : Nat) (o : Option Sl) [b : KB (D → Prop)] : Prop := slD i o b.k
@[simp ↓] theorem f_sl : slD i o k = @slDF i o ⟨k⟩ := rfl
@[simp] theorem e_sl_val {d : D} : @slDF i (some (.val d)) ⟨k⟩ = k d := rfl
@[simp] theorem e_sl_ol {ds : List D} : @slDF i (some (.ol ds)) ⟨k⟩ = k (.own i) := rfl
@[simp] theorem e_sl_ok {ds : List (Key × D)} : @slDF i (some (.ok ds)) ⟨k⟩ = k (.own i) := rfl
@[simp] theorem e_sl_ot {ds : List (NK × D)} : @slDF i (some (.ot ds)) ⟨k⟩ = k (.own i) := rfl
end
section
variable {E : XD} {D' : DEnds} {σ : En} {st : Sto} {Q : QD} {t u : TSD} {te ta tb to ti : TED} {i : Nat} {g : TGD} {tn : TND} {tw : TNW} {c : TTD} {wi : TID}
@[simp ↓] theorem z_seq : sSeq t u E D' σ st = t E ⟨u E D', D'.rt, D'.bk, D'.ct⟩ σ st := rfl
@[simp ↓] theorem z_next : sNext E D' σ st = D'.nx σ st := rfl
@[simp ↓] theorem z_never : sNever E D' σ st = False := rfl
@[simp ↓] theorem z_break : sBreak E D' σ st = D'.bk σ st := rfl
@[simp ↓] theorem z_cont : sCont E D' σ st = D'.ct σ st := rfl
@[simp ↓] theorem z_drop : sDrop te E D' σ st = te E σ st fun _ σ1 st1 => D'.nx σ1 st1 := rfl
@[simp ↓] theorem z_ret : sRet te E D' σ st = te E σ st fun d σ1 st1 => fzK d σ1 fun d' _ => D'.rt d' st1 := rfl
@[simp ↓] theorem z_if : sIf c t u E D' σ st = c E σ st fun b σ1 st1 => if b = true then t E D' σ1 st1 else u E D' σ1 st1 := rfl
@[simp ↓] theorem z_asgG : sAsgG te g E D' σ st = te E σ st fun d σ1 st1 => fzK d σ1 fun d' σ' => g d' σ' st1 D'.nx := rfl
@[simp ↓] theorem z_asg : sAsg i te E D' σ st = te E σ st fun d σ1 st1 => fzK d σ1 fun d' σ' => lt (σ'.set i (.val d')) fun σ2 => D'.nx σ2 st1 := rfl
@[simp ↓] theorem z_asgN : sAsgN i tn E D' σ st = tn E σ st fun ds σ1 st1 => lt (i < σ1.length) fun p => p ∧ lt (σ1.set i (.ol ds)) fun σ2 => D'.nx σ2 st1 := rfl
@[simp ↓] theorem z_asgF : sAsgF i tn E D' σ st = tn E σ st fun ds σ1 st1 => lt (σ1.set i (.val (.lst ds))) fun σ2 => D'.nx σ2 st1 := rfl
@[simp ↓] theorem z_asgW : sAsgW i tw E D' σ st = tw E σ st fun x σ1 st1 => i < σ1.length ∧ lt (σ1.set i x) fun σ2 => D'.nx σ2 st1 := rfl
@[simp ↓] theorem z_pars {is : List Nat} {els : List El} : sPars is els E D' σ st = evEls els E σ st fun xs σ1 st1 => (∀ i ∈ is, i < σ1.length) ∧ lt (setAll σ1 is xs) fun σ2 => D'.nx σ2 st1 := rfl
@[simp ↓] theorem z_put : sPut te to ti E D' σ st = te E σ st fun d σ1 st1 => fzK d σ1 fun d' σ1' => to E σ1' st1 fun o σ2 st2 => ti E σ2 st2 fun k σ3 st3 => fzK k σ3 fun k' σ3' => putS σ3' st3 o k' d' D'.nx := rfl
@[simp ↓] theorem z_raise {a : Addr} : sRaise a E D' σ st = E ⟨a, []⟩ σ st := rfl
@[simp ↓] theorem z_for : sFor wi g t E D' σ st = wi E σ st fun ds σ1 st1 => lt ds fun ds => forD g t ds E D' σ1 st1 := rfl
@[simp ↓] theorem z_eFz : eFz te E σ st Q = te E σ st fun d σ1 st1 => fzK d σ1 fun d' σ' => Q d' σ' st1 := rfl
@[simp ↓] theorem z_var : eVar i E σ st Q = slD i σ[i]? fun d => Q d σ st := rfl
@[simp ↓] theorem z_C {d : D} : eC d E σ st Q = Q d σ st := rfl
@[simp ↓] theorem z_bin {b : B2} : eBin b ta tb E σ st Q = ta E σ st fun x σ1 st1 => tb E σ1 st1 fun y σ2 st2 => rdK x σ2 st2 fun x' => rdK y σ2 st2 fun y' => b x' y' fun d => Q d σ2 st2 := rfl
@[simp ↓] theorem z_un {b : B1} : eUn b ta E σ st Q = ta E σ st fun x σ1 st1 => rdK x σ1 st1 fun x' => b x' fun d => Q d σ1 st1 := rfl
@[simp ↓] theorem z_nw : eNw tw E σ st Q = tw E σ st fun x σ1 st1 => lt (slF x) fun d => Q d σ1 st1 := rfl
@[simp ↓] theorem z_append : eAppend to te E σ st Q = to E σ st fun o σ1 st1 => isL σ1 st1 o ∧ te E σ1 st1 fun d σ2 st2 => fzK d σ2 fun d' σ2' => onL σ2' st2 o fun ds => ds.length < sizeLine ∧ setL σ2' st2 o (ds ++ [d']) fun σ3 st3 => Q .non σ3 st3 := rfl
@[simp ↓] theorem z_pop : ePop to E σ st Q = to E σ st fun o σ1 st1 => isL σ1 st1 o ∧ onL σ1 st1 o fun ds => oG ds[ds.length - 1]? fun d => setL σ1 st1 o ds.dropLast fun σ3 st3 => Q d σ3 st3 := by
  unfold ePop; simp only [oG_ex]
def popK (o i : D) (σ : En) (st : Sto) (Q : QD) : Prop := match i with
  | .int i => -16777216 ≤ i ∧ i ≤ 16777216 ∧ onL σ st o fun ds => oG (ixN ds.length i) fun j => oG ds[j]? fun d => setL σ st o (ds.eraseIdx j) fun σ3 st3 => Q d σ3 st3
  | _ => False
@[simp ↓] theorem z_popAt : ePopAt to te E σ st Q = to E σ st fun o σ1 st1 => isL σ1 st1 o ∧ te E σ1 st1 fun i σ2 st2 => fzK i σ2 fun i' σ2' => popK o i' σ2' st2 Q := by
  unfold ePopAt
  congr 1; funext o σ1 st1; congr 1; unfold eFz; congr 1; funext i σ2 st2; unfold fzK
  congr 1
  cases fzV σ2 i <;> first | rfl | skip
  unfold popK
  dsimp only
  congr 1; congr 1; congr 1; funext ds
  simp only [← oG_ex, exists_and_left]
@[simp ↓] theorem z_popK {o : D} {n : Int} : popK o (.int n) σ st Q = (-16777216 ≤ n ∧ n ≤ 16777216 ∧ onL σ st o fun ds => oG (ixN ds.length n) fun j => oG ds[j]? fun d => setL σ st o (ds.eraseIdx j) fun σ3 st3 => Q d σ3 st3) := rfl
def insK (o : D) (as : List D) (σ : En) (st : Sto) (Q : QD) : Prop := match as with
  | [.int i, d] => 0 ≤ i ∧ i ≤ 16777216 ∧ onL σ st o fun ds => ds.length < sizeLine ∧ setL σ st o (ds.take i.toNat ++ [d] ++ ds.drop i.toNat) fun σ3 st3 => Q .non σ3 st3
  | _ => False
@[simp ↓] theorem z_insert : eInsert to ti te E σ st Q = to E σ st fun o σ1 st1 => isL σ1 st1 o ∧ aL [ti, te] E σ1 st1 fun ds σ2 st2 => insK o ds σ2 st2 Q := rfl
@[simp ↓] theorem z_insK {o d : D} {n : Int} : insK o [.int n, d] σ st Q = (0 ≤ n ∧ n ≤ 16777216 ∧ onL σ st o fun ds => ds.length < sizeLine ∧ setL σ st o (ds.take n.toNat ++ [d] ++ ds.drop n.toNat) fun σ3 st3 => Q .non σ3 st3) := rfl
@[simp ↓] theorem z_extend : eExtend to te E σ st Q = to E σ st fun o σ1 st1 => isL σ1 st1 o ∧ te E σ1 st1 fun d σ2 st2 => fzK d σ2 fun d' σ2' => oG (seqD d') fun es => onL σ2' st2 o fun ds => ds.length + es.length ≤ sizeLine ∧ setL σ2' st2 o (ds ++ es) fun σ3 st3 => Q .non σ3 st3 := by
  unfold eExtend eFz fzK; simp only [oG_ex]
@[simp ↓] theorem z_caught {K : PySem.W.Frag} {cs : Value} : eCaught K cs te E σ st Q = lt (hide σ) fun σh => te (fun x _ st1 => x.fs = [] ∧ PySem.W.exmOne K (.ref x.c) cs = some true ∧ Q (.exc x.c []) σ st1) σh st fun _ _ st1 => Q .non σ st1 := rfl
@[simp ↓] theorem z_isOwn {K : PySem.W.Frag} {a : Addr} : eIsOwn K a te E σ st Q = te E σ st fun d σ1 st1 => rdK d σ1 st1 fun d' => isOwnD K a d' fun b => Q (.bl b) σ1 st1 := rfl
def ixTK (o d : D) (k : D → Prop) : Prop := match o with
  | .tup ds => Pl 40 (.tup ds) ∧ Pl 40 d ∧ oG (idxD ds d) fun j => k (.int (j : Int))
  | _ => False
def ixTT (o : D) (q : List D → Prop) : Prop := match o with
  | .tup ds => q ds
  | _ => False
@[simp ↓] theorem z_indexT : eIndexT to te E σ st Q = to E σ st fun o σ1 st1 => ixTT o fun ds => te E σ1 st1 fun d σ2 st2 => rdK d σ2 st2 fun d' => Pl 40 (.tup ds) ∧ Pl 40 d' ∧ oG (idxD ds d') fun j => Q (.int (j : Int)) σ2 st2 := by
  unfold eIndexT
  congr 1; funext o σ1 st1
  cases o <;> first | rfl | skip
  unfold ixTT rdK
  simp only [oG_ex]
@[simp ↓] theorem z_ixTT {ds : List D} {q : List D → Prop} : ixTT (.tup ds) q = q ds := rfl
@[simp ↓] theorem z_callK {sp : DSp} {is : List Nat} {ts tks : List TED} : eCallK sp is ts tks E σ st Q = aL ts E σ st fun ds σ1 st1 => aL tks E σ1 st1 fun es σ2 st2 => lt (pick is (ds ++ es)) fun as => sp as st2 (fun d st3 => Q d σ2 st3) fun x st3 => E x σ2 st3 := rfl
@[simp ↓] theorem z_call {sp : DSp} {ts : List TED} : eCall sp ts E σ st Q = aL ts E σ st fun ds σ1 st1 => sp ds st1 (fun d st2 => Q d σ1 st2) fun x st2 => E x σ1 st2 := rfl
@[simp ↓] theorem z_aL0 {q : QL} : aL [] E σ st q = q [] σ st := rfl
@[simp ↓] theorem z_aL1 {q : QL} {ts : List TED} : aL (te :: ts) E σ st q = te E σ st fun d σ1 st1 => fzK d σ1 fun d' σ1' => aL ts E σ1' st1 fun ds σ2 st2 => q (d' :: ds) σ2 st2 := rfl
@[simp ↓] theorem z_aNil {q : QL} : aNil E σ st q = q [] σ st := rfl
@[simp ↓] theorem z_aCons {q : QL} {tr : TAD} : aCons te tr E σ st q = te E σ st fun d σ1 st1 => tr E σ1 st1 fun ds σ2 st2 => q (d :: ds) σ2 st2 := rfl
@[simp ↓] theorem z_tup {ts : List TED} : eTup ts E σ st Q = aL ts E σ st fun ds σ1 st1 => Q (.tup ds) σ1 st1 := rfl
@[simp ↓] theorem z_lst {ts : List TED} : eLst ts E σ st Q = aL ts E σ st fun ds σ1 st1 => Q (.lst ds) σ1 st1 := rfl
@[simp ↓] theorem z_CB {b : BL} {tr : TAD} : eCB b tr E σ st Q = tr E σ st fun ds σ1 st1 => rdL ds σ1 st1 fun ds' => b ds' fun d => Q d σ1 st1 := by
  unfold eCB; congr 1; funext ds σ1 st1; rw [rdL_eq (k := fun _ => True)]
@[simp ↓] theorem z_b1 {f : D → (D → Prop) → Prop} {d : D} {k : D → Prop} : b1 f [d] k = f d k := rfl
@[simp ↓] theorem z_b2 {f : D → D → (D → Prop) → Prop} {d e : D} {k : D → Prop} : b2 f [d, e] k = f d e k := rfl
@[simp ↓] theorem z_varS : eVarS i E σ st Q = shS i σ st Q σ[i]? := rfl
abbrev BS := En × Sto × QD
def shSF (i : Nat) (o : Option Sl) [b : KB BS] : Prop := shS i b.k.1 b.k.2.1 b.k.2.2 o
@[simp ↓] theorem f_shS {o : Option Sl} : shS i σ st Q o = @shSF i o ⟨σ, st, Q⟩ := rfl
@[simp] theorem e_shS {x : Sl} : @shSF i (some x) ⟨σ, st, Q⟩ = (notT x ∧ ∀ a, st a = none → lt (σ.set i (.val (.ref a))) fun σ' => Q (.ref a) σ' (supd st a (slSo x))) := rfl
@[simp ↓] theorem z_shW : eShW tw E σ st Q = tw E σ st fun x σ1 st1 => notT x ∧ ∀ a, st1 a = none → Q (.ref a) σ1 (supd st1 a (slSo x)) := rfl
def revK (d : D) (k : D → Prop) : Prop := match d with | .lst ds => k (.lst ds.reverse) | _ => False
@[simp ↓] theorem z_rev : eRev te E σ st Q = te E σ st fun d σ1 st1 => rdK d σ1 st1 fun d' => revK d' fun d => Q d σ1 st1 := by
  unfold eRev rdK; congr 1
@[simp ↓] theorem z_revK {ds : List D} {k : D → Prop} : revK (.lst ds) k = lt ds.reverse fun r => k (.lst r) := rfl
def rgK (d : D) (k : List D → Prop) : Prop := match d with
  | .int n => -big62 ≤ n ∧ n ≤ 16777216 ∧ lt (rangeL 0 n.toNat) k
  | _ => False
@[simp ↓] theorem z_rgK {n : Int} {k : List D → Prop} : rgK (.int n) k = (-big62 ≤ n ∧ n ≤ 16777216 ∧ lt (rangeL 0 n.toNat) k) := rfl
@[simp ↓] theorem z_tupRg : eTupRg te E σ st Q = te E σ st fun d σ1 st1 => rdK d σ1 st1 fun d' => rgK d' fun l => Q (.tup l) σ1 st1 := by
  unfold eTupRg rdK; congr 1
@[simp ↓] theorem z_lstRg : eLstRg te E σ st Q = te E σ st fun d σ1 st1 => rdK d σ1 st1 fun d' => rgK d' fun l => Q (.lst l) σ1 st1 := by
  unfold eLstRg rdK; congr 1
@[simp ↓] theorem z_range1 {q : List D → En → Sto → Prop} : iRange1 te E σ st q = te E σ st fun d σ1 st1 => rdK d σ1 st1 fun d' => rgK d' fun l => q l σ1 st1 := by
  unfold iRange1 rdK; congr 1
def rg2K (a b : D) (k : List D → Prop) : Prop := match a, b with
  | .int a, .int b => (0 ≤ a ∧ a ≤ 16777216 ∧ 0 ≤ b ∧ b ≤ 16777216) ∧ lt (rangeL a (b - a).toNat) k
  | _, _ => False
@[simp ↓] theorem z_rg2K {n m : Int} {k : List D → Prop} : rg2K (.int n) (.int m) k = ((0 ≤ n ∧ n ≤ 16777216 ∧ 0 ≤ m ∧ m ≤ 16777216) ∧ lt (rangeL n (m - n).toNat) k) := rfl
@[simp ↓] theorem z_range2 {q : List D → En → Sto → Prop} : iRange2 ta tb E σ st q = ta E σ st fun x σ1 st1 => tb E σ1 st1 fun y σ2 st2 => rdK x σ2 st2 fun x' => rdK y σ2 st2 fun y' => rg2K x' y' fun l => q l σ2 st2 := by
  unfold iRange2 rdK; congr 1
@[simp ↓] theorem z_any {q : List D → En → Sto → Prop} : iAnyD te E σ st q = te E σ st fun d σ1 st1 => fzK d σ1 fun d' σ' => walkOf d' fun ds => q ds σ' st1 := rfl
@[simp ↓] theorem z_iseq {q : List D → En → Sto → Prop} : iSeq te E σ st q = te E σ st fun d σ1 st1 => fzK d σ1 fun d' σ' => seqOf d' fun ds => q ds σ' st1 := rfl
def zipK (as : List D) (k : List D → Prop) : Prop := match as with
  | [a, b] => seqOf a fun xs => seqOf b fun ys => k (List.zipWith (fun x y => D.tup [x, y]) xs ys)
  | _ => False
@[simp ↓] theorem z_zip {q : List D → En → Sto → Prop} : iZipD ta tb E σ st q = aL [ta, tb] E σ st fun as σ1 st1 => zipK as fun l => q l σ1 st1 := by
  unfold iZipD; congr 1
@[simp ↓] theorem z_zipK {a b : D} {k : List D → Prop} : zipK [a, b] k = seqOf a fun xs => seqOf b fun ys => lt (List.zipWith (fun x y => D.tup [x, y]) xs ys) k := rfl
@[simp ↓] theorem z_enum {q : List D → En → Sto → Prop} : iEnumD te E σ st q = te E σ st fun d σ1 st1 => fzK d σ1 fun d' σ' => seqOf d' fun xs => lt (xs.mapIdx fun i x => D.tup [.int (i : Nat), x]) fun ds => q ds σ' st1 := rfl
@[simp ↓] theorem z_sl {lo hi : Option TED} : eSl ta lo hi E σ st Q = ta E σ st fun x σ1 st1 => oP lo E σ1 st1 fun l σ2 st2 => oP hi E σ2 st2 fun h σ3 st3 => rdK x σ3 st3 fun x' => slcD x' l h fun d => Q d σ3 st3 := rfl
@[simp ↓] theorem z_oP0 {q : QO} : oP none E σ st q = q none σ st := rfl
def intK (d : D) (k : Int → Prop) : Prop := match d with | .int i => k i | _ => False
@[simp ↓] theorem z_intK {n : Int} {k : Int → Prop} : intK (.int n) k = k n := rfl
@[simp ↓] theorem z_oP1 {q : QO} : oP (some te) E σ st q = te E σ st fun d σ1 st1 => rdK d σ1 st1 fun d' => intK d' fun n => q (some n) σ1 st1 := by
  show te E σ st _ = _
  congr 1
@[simp ↓] theorem z_eAnd : eAnd ta tb E σ st Q = ta E σ st fun d σ1 st1 => rdK d σ1 st1 fun d' => asB d' fun b => if b = true then tb E σ1 st1 Q else Q (.bl false) σ1 st1 := rfl
@[simp ↓] theorem z_eOr : eOr ta tb E σ st Q = ta E σ st fun d σ1 st1 => rdK d σ1 st1 fun d' => asB d' fun b => if b = true then Q (.bl true) σ1 st1 else tb E σ1 st1 Q := rfl
@[simp ↓] theorem z_eNot : eNot ta E σ st Q = ta E σ st fun d σ1 st1 => rdK d σ1 st1 fun d' => asB d' fun b => lt (!b) fun b => Q (.bl b) σ1 st1 := rfl
@[simp ↓] theorem z_eIf : eIf c ta tb E σ st Q = c E σ st fun b σ1 st1 => if b = true then ta E σ1 st1 Q else tb E σ1 st1 Q := rfl
@[simp ↓] theorem z_chain {f g : B2} {tc : TED} : eChain f g ta tb tc E σ st Q = ta E σ st fun x σ1 st1 => tb E σ1 st1 fun y σ2 st2 => rdK x σ2 st2 fun x' => rdK y σ2 st2 fun y' => f x' y' fun z => asB z fun k => if k = true then tc E σ2 st2 fun w σ3 st3 => rdK y σ3 st3 fun y' => rdK w σ3 st3 fun w' => g y' w' fun d => Q d σ3 st3 else Q (.bl false) σ2 st2 := rfl
@[simp ↓] theorem z_asB {b : Bool} {k : Bool → Prop} : asB (.bl b) k = k b := rfl
@[simp ↓] theorem z_tVal {q : QT} : tVal te E σ st q = te E σ st fun d σ1 st1 => rdK d σ1 st1 fun d' => asB d' fun b => q b σ1 st1 := rfl
@[simp ↓] theorem z_tNot {q : QT} : tNotD c E σ st q = c E σ st fun b σ1 st1 => lt (!b) fun b => q b σ1 st1 := rfl
@[simp ↓] theorem z_tAnd {c2 : TTD} {q : QT} : tAndD c c2 E σ st q = c E σ st fun b σ1 st1 => if b = true then c2 E σ1 st1 q else q false σ1 st1 := rfl
@[simp ↓] theorem z_tOr {c2 : TTD} {q : QT} : tOrD c c2 E σ st q = c E σ st fun b σ1 st1 => if b = true then q true σ1 st1 else c2 E σ1 st1 q := rfl
@[simp ↓] theorem z_tIf {c2 c3 : TTD} {q : QT} : tIfD c c2 c3 E σ st q = c E σ st fun b σ1 st1 => if b = true then c2 E σ1 st1 q else c3 E σ1 st1 q := rfl
@[simp ↓] theorem z_tYes {q : QT} : tYesD E σ st q = q true σ st := rfl
@[simp ↓] theorem z_eN : eN tn E σ st Q = tn E σ st fun ds σ1 st1 => Q (.lst ds) σ1 st1 := rfl
@[simp ↓] theorem z_nLc {gt : Tgt} {vs : List Nat} {q : List D → En → Sto → Prop} : nLc wi gt c te vs E σ st q = wi E σ st fun ds σ1 st1 => lt ds fun ds => mapD gt c te vs ds [] σ1 st1 fun acc σ2 st2 => lt (backD σ1 σ2 vs) fun σ3 => q acc σ3 st2 := rfl
@[simp ↓] theorem z_nLst {ts : List TED} {q : Sl → En → Sto → Prop} : nLst ts E σ st q = aL ts E σ st fun ds σ1 st1 => q (.ol ds) σ1 st1 := rfl
@[simp ↓] theorem z_nwL {q : Sl → En → Sto → Prop} : nwL tn E σ st q = tn E σ st fun ds σ1 st1 => q (.ol ds) σ1 st1 := rfl
@[simp ↓] theorem z_nDictK {q : Sl → En → Sto → Prop} : nDictK E σ st q = q (.ok []) σ st := rfl
@[simp ↓] theorem z_nDictT {q : Sl → En → Sto → Prop} : nDictT E σ st q = q (.ot []) σ st := rfl
@[simp ↓] theorem z_nDispK {prs : List (TED × TED)} {q : Sl → En → Sto → Prop} : nDispK prs E σ st q = evP prs E σ st fun ds σ1 st1 => oG (keysOf keyK ds) fun kds => lt (putAllK [] kds) fun r => q (.ok r) σ1 st1 := by
  unfold nDispK; simp only [oG_ex]; rfl
@[simp ↓] theorem z_nDispT {prs : List (TED × TED)} {q : Sl → En → Sto → Prop} : nDispT prs E σ st q = evP prs E σ st fun ds σ1 st1 => oG (keysOf keyS ds) fun kds => lt (putAllD [] kds) fun r => q (.ot r) σ1 st1 := by
  unfold nDispT; simp only [oG_ex]; rfl
@[simp ↓] theorem z_evP0 {q : List (D × D) → En → Sto → Prop} : evP [] E σ st q = q [] σ st := rfl
@[simp ↓] theorem z_evP1 {r : List (TED × TED)} {q : List (D × D) → En → Sto → Prop} : evP ((ta, tb) :: r) E σ st q = ta E σ st fun x σ1 st1 => fzK x σ1 fun x' σ1' => tb E σ1' st1 fun y σ2 st2 => fzK y σ2 fun y' σ2' => evP r E σ2' st2 fun ps σ3 st3 => q ((x', y') :: ps) σ3 st3 := rfl
@[simp ↓] theorem z_els0 {q : List Sl → En → Sto → Prop} : evEls [] E σ st q = q [] σ st := rfl
@[simp ↓] theorem z_elsv {r : List El} {q : List Sl → En → Sto → Prop} : evEls (.v te :: r) E σ st q = te E σ st fun d σ1 st1 => fzK d σ1 fun d' σ' => evEls r E σ' st1 fun xs σ2 st2 => q (.val d' :: xs) σ2 st2 := rfl
@[simp ↓] theorem z_elsw {r : List El} {q : List Sl → En → Sto → Prop} : evEls (.w tw :: r) E σ st q = tw E σ st fun x σ1 st1 => evEls r E σ1 st1 fun xs σ2 st2 => q (x :: xs) σ2 st2 := rfl
@[simp] theorem z_setAll1 {x : Sl} {is : List Nat} {xs : List Sl} : setAll σ (i :: is) (x :: xs) = setAll (σ.set i x) is xs := rfl
@[simp] theorem z_setAll0 : setAll σ [] [] = σ := rfl
@[simp ↓] theorem z_gN {d : D} {q : En → Sto → Prop} : gN i d σ st q = lt (σ.set i (.val d)) fun σ' => q σ' st := rfl
@[simp ↓] theorem z_gTn {d : D} {q : En → Sto → Prop} : gT (.n i) d σ st q = lt (σ.set i (.val d)) fun σ' => q σ' st := rfl
@[simp ↓] theorem z_gTt {d : D} {l : List Nat} {q : En → Sto → Prop} : gT (.t l) d σ st q = gTupD l.length (gNs l) d σ st q := rfl
@[simp] theorem z_gNs0 : gNs [] = gsNil := rfl
@[simp] theorem z_gNs1 {l : List Nat} : gNs (i :: l) = gsCons (gN i) (gNs l) := rfl
@[simp ↓] theorem z_gTup {n : Nat} {tg : TGsD} {ds : List D} {q : En → Sto → Prop} : gTupD n tg (.tup ds) σ st q = (ds.length = n ∧ tg ds σ st q) := rfl
@[simp ↓] theorem z_gsNil {q : En → Sto → Prop} : gsNil [] σ st q = q σ st := propext ⟨fun h => h.2, fun h => ⟨rfl, h⟩⟩
@[simp ↓] theorem z_gsCons {tg : TGsD} {d : D} {ds : List D} {q : En → Sto → Prop} : gsCons g tg (d :: ds) σ st q = g d σ st fun σ1 st1 => tg ds σ1 st1 q := rfl
@[simp ↓] theorem z_isL_own : isL σ st (.own i) = ((lstS σ[i]?).isSome = true) := rfl
@[simp ↓] theorem z_isL_ref {a : Addr} : isL σ st (.ref a) = ((lstO (st a)).isSome = true) := rfl
@[simp] theorem z_lstS {ds : List D} : lstS (some (.ol ds)) = some ds := rfl
@[simp] theorem z_lstO {ds : List D} : lstO (some (.lst ds)) = some ds := rfl
@[simp ↓] theorem z_onL_own {q : List D → Prop} : onL σ st (.own i) q = oG (lstS σ[i]?) q := by
  show (match lstS σ[i]? with | some ds => q ds | none => False) = _
  cases lstS σ[i]? <;> rfl
@[simp ↓] theorem z_onL_ref {a : Addr} {q : List D → Prop} : onL σ st (.ref a) q = oG (lstO (st a)) q := by
  show (match lstO (st a) with | some ds => q ds | none => False) = _
  cases lstO (st a) <;> rfl
@[simp ↓] theorem z_setL_own {ds : List D} {q : En → Sto → Prop} : setL σ st (.own i) ds q = lt (σ.set i (.ol ds)) fun σ' => q σ' st := rfl
@[simp ↓] theorem z_setL_ref {a : Addr} {ds : List D} {q : En → Sto → Prop} : setL σ st (.ref a) ds q = lt ds fun ds => q σ (supd st a (.lst ds)) := rfl
@[simp ↓] theorem z_putS_own {k d : D} {q : En → Sto → Prop} : putS σ st (.own i) k d q = oG σ[i]? fun x => oG (putSl k d x) fun y => slLen x < sizeLine ∧ lt (σ.set i y) fun σ' => q σ' st := by
  show (∃ x y, σ[i]? = some x ∧ putSl k d x = some y ∧ slLen x < sizeLine ∧ q (σ.set i y) st) = _
  simp only [← oG_ex, exists_and_left]; rfl
@[simp ↓] theorem z_putS_ref {a : Addr} {k d : D} {q : En → Sto → Prop} : putS σ st (.ref a) k d q = oG (st a) fun x => oG (putSl k d (soSl x)) fun y => slLen (soSl x) < sizeLine ∧ lt (slSo y) fun y => q σ (supd st a y) := by
  show (∃ x y, st a = some x ∧ putSl k d (soSl x) = some y ∧ slLen (soSl x) < sizeLine ∧ q σ (supd st a (slSo y))) = _
  simp only [← oG_ex, exists_and_left]; rfl
@[simp] theorem z_start0 {d : D} {n : Str} {N : List Str} {ds : List D} : startD (n :: N) (d :: ds) = .val d :: startD N ds := by simp [startD]
@[simp] theorem z_start1 {N : List Str} : startD N [] = List.replicate N.length .un := by simp [startD]
@[simp] theorem z_wipe0 : wipeD σ [] = σ := rfl
@[simp] theorem z_wipe1 {vs : List Nat} : wipeD σ (i :: vs) = (wipeD σ vs).set i .un := rfl
@[simp] theorem z_back0 {σ0 : En} : backD σ0 σ [] = σ := rfl
@[simp] theorem z_back1 {σ0 : En} {vs : List Nat} : backD σ0 σ (i :: vs) = (backD σ0 σ vs).set i (keepV σ0[i]?) := rfl
@[simp] theorem z_hide0 : hide [] = [] := rfl
@[simp] theorem z_hide1 {x : Sl} : hide (x :: σ) = hideS x :: hide σ := rfl
-- what is stopped at: what follows is held where simp does not look
def mapF (gt : Tgt) (c : TTD) (te : TED) (vs : List Nat) (ds acc : List D) (σ : En) (st : Sto) [b : KB (List D → En → Sto → Prop)] : Prop := mapD gt c te vs ds acc σ st b.k
@[simp ↓ low] theorem f_map {gt : Tgt} {vs : List Nat} {ds acc : List D} {q : List D → En → Sto → Prop} : mapD gt c te vs ds acc σ st q = @mapF gt c te vs ds acc σ st ⟨q⟩ := rfl
def forF (g : TGD) (t : TSD) (ds : List D) (σ : En) (st : Sto) [e : KB XD] [d : KB DEnds] : Prop := forD g t ds e.k d.k σ st
@[simp ↓ low] theorem f_for {ds : List D} : forD g t ds E D' σ st = @forF g t ds σ st ⟨E⟩ ⟨D'⟩ := rfl
def whileF (c : TTD) (t : TSD) (σ : En) (st : Sto) [e : KB XD] [d : KB DEnds] : Prop := sWhile c t e.k d.k σ st
@[simp ↓ low] theorem f_while : sWhile c t E D' σ st = @whileF c t σ st ⟨E⟩ ⟨D'⟩ := rfl
theorem u_for0 : forD g t [] E D' σ st = D'.nx σ st := rfl
theorem u_for1 {d : D} {ds : List D} : forD g t (d :: ds) E D' σ st = g d σ st fun σ1 st1 => t E { nx := fun σ2 st2 => forD g t ds E D' σ2 st2, rt := D'.rt, bk := D'.nx, ct := fun σ2 st2 => forD g t ds E D' σ2 st2 } σ1 st1 := rfl
theorem u_map0 {gt : Tgt} {vs : List Nat} {acc : List D} {q : List D → En → Sto → Prop} : mapD gt c te vs [] acc σ st q = q acc σ st := rfl
theorem u_map1 {gt : Tgt} {vs : List Nat} {d : D} {ds acc : List D} {q : List D → En → Sto → Prop} : mapD gt c te vs (d :: ds) acc σ st q = lt (wipeD σ vs) fun σ0 => gT gt d σ0 st fun σ1 st1 => c F0 σ1 st1 fun b σ2 st2 => if b = true then te F0 σ2 st2 fun y σ3 st3 => fzK y σ3 fun y' σ3' => lt (acc ++ [y']) fun acc' => mapD gt c te vs ds acc' σ3' st3 q else mapD gt c te vs ds acc σ2 st2 q := rfl
end
/-! operators -/
section
variable {k : D → Prop} {i j : Int} {x y : D} {ds es : List D} {b c : Bool}
@[simp ↓] theorem z_add : addD (.int i) (.int j) k = lt (i + j) fun n => k (.int n) := rfl
@[simp ↓] theorem z_addS {u v : Str} : addD (.str u) (.str v) k = (u.length + v.length ≤ sizeLine ∧ lt (u ++ v) fun n => k (.str n)) := rfl
@[simp ↓] theorem z_addL : addD (.lst ds) (.lst es) k = (ds.length + es.length ≤ sizeLine ∧ lt (ds ++ es) fun n => k (.lst n)) := rfl
@[simp ↓] theorem z_addT : addD (.tup ds) (.tup es) k = (ds.length + es.length ≤ sizeLine ∧ lt (ds ++ es) fun n => k (.tup n)) := rfl
@[simp ↓] theorem z_sub : subD (.int i) (.int j) k = lt (i - j) fun n => k (.int n) := propext ⟨fun h => h.2, fun h => ⟨trivial, h⟩⟩
@[simp ↓] theorem z_mul : mulsD (.int i) (.int j) k = (IntMulOk i j ∧ lt (i * j) fun n => k (.int n)) := rfl
@[simp ↓] theorem z_mulL : mulsD (.lst ds) (.int i) k = (-(2 ^ 63) ≤ i ∧ i < 2 ^ 63 ∧ ds.length * i.toNat ≤ sizeLine ∧ lt (rep i ds) fun n => k (.lst n)) := rfl
@[simp ↓] theorem z_mulT : mulsD (.tup ds) (.int i) k = (ds ≠ [] ∧ 1 ≤ i ∧ i ≤ 1000 ∧ ds.length ≤ 1000 ∧ lt (rep i ds) fun n => k (.tup n)) := rfl
@[simp ↓] theorem z_mulS {u : Str} : mulsD (.str u) (.int i) k = (u.length ≤ 1000 ∧ 1 ≤ i ∧ i ≤ 1000 ∧ lt (Txt.mul u i) fun n => k (.str n)) := rfl
@[simp ↓] theorem z_mod : modD (.int i) (.int j) k = (j ≠ 0 ∧ lt (i.fmod j) fun n => k (.int n)) := rfl
@[simp ↓] theorem z_div : divD (.int i) (.int j) k = (DivOk i j ∧ lt (i.fdiv j) fun n => k (.int n)) := rfl
@[simp ↓] theorem z_pow : powD (.int i) (.int j) k = (CPow i j ∧ lt (i ^ j.toNat) fun n => k (.int n)) := rfl
@[simp ↓] theorem z_neg : negD (.int i) k = lt (-i) fun n => k (.int n) := rfl
@[simp ↓] theorem z_eq : eqD x y k = (Pl 40 x ∧ Pl 40 y ∧ lt (peq x y) fun b => k (.bl b)) := rfl
@[simp ↓] theorem z_ne : neD x y k = (Pl 40 x ∧ Pl 40 y ∧ lt (!peq x y) fun b => k (.bl b)) := rfl
@[simp ↓] theorem z_ltI : ltD (.int i) (.int j) k = lt (decide (i < j)) fun b => k (.bl b) := rfl
@[simp ↓] theorem z_ltS {u v : Str} : ltD (.str u) (.str v) k = lt (decide (u.cps.toList < v.cps.toList)) fun b => k (.bl b) := rfl
@[simp ↓] theorem z_le : leD (.int i) (.int j) k = lt (decide (i ≤ j)) fun b => k (.bl b) := propext ⟨fun h => h.2, fun h => ⟨trivial, h⟩⟩
@[simp ↓] theorem z_gt : gtD (.int i) (.int j) k = lt (decide (j < i)) fun b => k (.bl b) := propext ⟨fun h => h.2, fun h => ⟨trivial, h⟩⟩
@[simp ↓] theorem z_ge : geD (.int i) (.int j) k = lt (decide (j ≤ i)) fun b => k (.bl b) := propext ⟨fun h => h.2, fun h => ⟨trivial, h⟩⟩
@[simp ↓] theorem z_isNon : isD x .non k = lt (isNon x) fun b => k (.bl b) := rfl
@[simp ↓] theorem z_isBl : isD (.bl b) (.bl c) k = lt (decide (b = c)) fun b => k (.bl b) := rfl
@[simp ↓] theorem z_isNNon : isNotD x .non k = lt (!isNon x) fun b => k (.bl b) := rfl
@[simp ↓] theorem z_isNBl : isNotD (.bl b) (.bl c) k = lt (!decide (b = c)) fun b => k (.bl b) := rfl
@[simp ↓] theorem z_isO : isDO x y k = lt (noOwn x) fun p => p ∧ isD x y k := rfl
@[simp ↓] theorem z_isNO : isNotDO x y k = lt (noOwn x) fun p => p ∧ isNotD x y k := rfl
@[simp ↓] theorem z_inL : inD x (.lst es) k = (Pl 40 x ∧ Pl 40 (.lst es) ∧ lt (mem x es) fun b => k (.bl b)) := rfl
@[simp ↓] theorem z_inT : inD x (.tup es) k = (Pl 40 x ∧ Pl 40 (.tup es) ∧ lt (mem x es) fun b => k (.bl b)) := rfl
@[simp ↓] theorem z_ninL : notInD x (.lst es) k = (Pl 40 x ∧ Pl 40 (.lst es) ∧ lt (!mem x es) fun b => k (.bl b)) := rfl
@[simp ↓] theorem z_ninT : notInD x (.tup es) k = (Pl 40 x ∧ Pl 40 (.tup es) ∧ lt (!mem x es) fun b => k (.bl b)) := rfl
@[simp ↓] theorem z_inDK {kvs : List (Key × D)} : inD x (.dK kvs) k = oG (keyK x) fun key => lt (getK kvs key).isSome fun b => k (.bl b) := by
  show (∃ r, dGet (.dK kvs) x r ∧ k (.bl r.isSome)) = _
  rw [← oG_ex]
  exact propext ⟨fun ⟨r, ⟨key, e, er⟩, q⟩ => ⟨key, e, by subst er; exact q⟩, fun ⟨key, e, q⟩ => ⟨_, ⟨key, e, rfl⟩, q⟩⟩
@[simp ↓] theorem z_inDT {kvs : List (NK × D)} : inD x (.dT kvs) k = oG (keyT x) fun key => lt (getK kvs key).isSome fun b => k (.bl b) := by
  show (∃ r, dGet (.dT kvs) x r ∧ k (.bl r.isSome)) = _
  rw [← oG_ex]
  exact propext ⟨fun ⟨r, ⟨key, e, er⟩, q⟩ => ⟨key, e, by subst er; exact q⟩, fun ⟨key, e, q⟩ => ⟨_, ⟨key, e, rfl⟩, q⟩⟩
@[simp ↓] theorem z_ninDK {kvs : List (Key × D)} : notInD x (.dK kvs) k = oG (keyK x) fun key => lt (!(getK kvs key).isSome) fun b => k (.bl b) := by
  show inD x (.dK kvs) _ = _
  rw [z_inDK]; rfl
@[simp ↓] theorem z_ninDT {kvs : List (NK × D)} : notInD x (.dT kvs) k = oG (keyT x) fun key => lt (!(getK kvs key).isSome) fun b => k (.bl b) := by
  show inD x (.dT kvs) _ = _
  rw [z_inDT]; rfl
@[simp ↓] theorem z_ixL : ixD (.lst ds) (.int i) k = oG (atI ds i) k := oG_ex _ _
@[simp ↓] theorem z_ixT : ixD (.tup ds) (.int i) k = oG (atI ds i) k := oG_ex _ _
@[simp ↓] theorem z_ixS {u : Str} : ixD (.str u) (.int i) k = (u.length ≤ sizeLine ∧ oG (atI u.cps.toList i) fun c => k (.str ⟨#[c]⟩)) := by
  show (_ ∧ ∃ c, _) = _
  rw [oG_ex]
@[simp ↓] theorem z_ixDK {kvs : List (Key × D)} : ixD (.dK kvs) y k = oG (keyK y) fun key => oG (getK kvs key) k := by
  show (∃ d, (∃ key, keyK y = some key ∧ some d = getK kvs key) ∧ k d) = _
  simp only [← oG_ex]
  exact propext ⟨fun ⟨d, ⟨key, e, e2⟩, q⟩ => ⟨key, e, d, e2.symm, q⟩, fun ⟨key, e, d, e2, q⟩ => ⟨d, ⟨key, e, e2.symm⟩, q⟩⟩
@[simp ↓] theorem z_ixDT {kvs : List (NK × D)} : ixD (.dT kvs) y k = oG (keyT y) fun key => oG (getK kvs key) k := by
  show (∃ d, (∃ key, keyT y = some key ∧ some d = getK kvs key) ∧ k d) = _
  simp only [← oG_ex]
  exact propext ⟨fun ⟨d, ⟨key, e, e2⟩, q⟩ => ⟨key, e, d, e2.symm, q⟩, fun ⟨key, e, d, e2, q⟩ => ⟨d, ⟨key, e, e2.symm⟩, q⟩⟩
@[simp ↓] theorem z_lenL : lenD (.lst ds) k = lt (ds.length : Int) fun n => k (.int n) := rfl
@[simp ↓] theorem z_lenT : lenD (.tup ds) k = lt (ds.length : Int) fun n => k (.int n) := rfl
@[simp ↓] theorem z_lenKL : lenD (.kls ds) k = lt (ds.length : Int) fun n => k (.int n) := rfl
@[simp ↓] theorem z_lenDK {kvs : List (Key × D)} : lenD (.dK kvs) k = lt (kvs.length : Int) fun n => k (.int n) := rfl
@[simp ↓] theorem z_lenDT {kvs : List (NK × D)} : lenD (.dT kvs) k = lt (kvs.length : Int) fun n => k (.int n) := rfl
@[simp ↓] theorem z_lenS {u : Str} : lenD (.str u) k = (u.length ≤ sizeLine ∧ lt (u.length : Int) fun n => k (.int n)) := rfl
@[simp ↓] theorem z_abs : absD (.int i) k = lt (if i < 0 then -i else i) fun n => k (.int n) := rfl
@[simp ↓] theorem z_int : intD (.int i) k = k (.int i) := rfl
@[simp ↓] theorem z_intB : intD (.bl b) k = lt (if b then 1 else 0) fun n => k (.int n) := rfl
@[simp ↓] theorem z_min2 : min2D (.int i) (.int j) k = lt (if j < i then j else i) fun n => k (.int n) := rfl
@[simp ↓] theorem z_max2 : max2D (.int i) (.int j) k = lt (if j > i then j else i) fun n => k (.int n) := rfl
@[simp ↓] theorem z_gcd : gcdD (.int i) (.int j) k = lt ((Int.gcd i j : Nat) : Int) fun n => k (.int n) := rfl
@[simp ↓] theorem z_all : allD (.lst ds) k = oG (boolsD ds) fun bs => lt (bs.all id) fun b => k (.bl b) := oG_ex _ _
@[simp ↓] theorem z_anyB : anyD (.lst ds) k = oG (boolsD ds) fun bs => lt (bs.any id) fun b => k (.bl b) := oG_ex _ _
@[simp ↓] theorem z_sum : sumD (.lst ds) k = oG (intsD ds) fun bs => lt bs.sum fun b => k (.int b) := oG_ex _ _
@[simp ↓] theorem z_tupleL : tupleD (.lst ds) k = k (.tup ds) := rfl
@[simp ↓] theorem z_tupleT : tupleD (.tup ds) k = k (.tup ds) := rfl
@[simp ↓] theorem z_listL : listD (.lst ds) k = k (.lst ds) := rfl
@[simp ↓] theorem z_listT : listD (.tup ds) k = k (.lst ds) := rfl
@[simp ↓] theorem z_sorted : sortedD x k = oG (seqD x) fun ds => SortOk ds ∧ lt (sortD ds) fun r => k (.lst r) := by
  unfold sortedD; rw [oG_ex]; rfl
@[simp ↓] theorem z_isi {cs : List TyE} : isiD cs x k = oG (tyE x) fun t => lt (cs.any t.sub) fun b => k (.bl b) := by
  unfold isiD; cases tyE x <;> rfl
@[simp ↓] theorem z_isiE {cs : List TyE} : eIsi cs = eUn (isiD cs) := rfl
@[simp ↓] theorem z_slcL {lo hi : Option Int} : slcD (.lst ds) lo hi k = lt (cut ds lo hi) fun r => k (.lst r) := rfl
@[simp ↓] theorem z_slcT {lo hi : Option Int} : slcD (.tup ds) lo hi k = lt (cut ds lo hi) fun r => k (.tup r) := rfl
@[simp ↓] theorem z_slcS {u : Str} {lo hi : Option Int} : slcD (.str u) lo hi k = (u.length ≤ sizeLine ∧ lt (cutS u lo hi) fun r => k (.str r)) := rfl
@[simp ↓] theorem z_isOwnE {K : PySem.W.Frag} {a c : Addr} {fs : List (Str × D)} {q : Bool → Prop} : isOwnD K a (.exc c fs) q = (excCB K c = true ∧ oG (PySem.W.kitOne K (.ref c) (.ref a)) q) := by
  show (∃ b, excCB K c = true ∧ PySem.W.kitOne K (.ref c) (.ref a) = some b ∧ q b) = _
  rw [← oG_ex, exists_and_left]
@[simp ↓] theorem z_isOwnN {K : PySem.W.Frag} {a : Addr} {q : Bool → Prop} : isOwnD K a .non q = oG (PySem.W.kitOne K (.type "NoneType") (.ref a)) q := by
  show (∃ t b, tyE .non = some t ∧ PySem.W.kitOne K (.type t.nm) (.ref a) = some b ∧ q b) = _
  rw [← oG_ex]
  exact propext ⟨fun ⟨t, b, e, e2, h⟩ => ⟨b, by cases e; exact e2, h⟩, fun ⟨b, e2, h⟩ => ⟨.non, b, rfl, e2, h⟩⟩
@[simp ↓] theorem z_walkL {q : List D → Prop} : walkOf (.lst ds) q = q ds := rfl
@[simp ↓] theorem z_walkT {q : List D → Prop} : walkOf (.tup ds) q = q ds := rfl
@[simp ↓] theorem z_walkKL {q : List D → Prop} : walkOf (.kls ds) q = q ds := rfl
@[simp ↓] theorem z_walkD {q : List D → Prop} {kvs : List (NK × D)} : walkOf (.dT kvs) q = lt (kvs.map fun p => ofNK p.1) q := rfl
@[simp ↓] theorem z_seqL {q : List D → Prop} : seqOf (.lst ds) q = q ds := rfl
@[simp ↓] theorem z_seqT {q : List D → Prop} : seqOf (.tup ds) q = q ds := rfl
@[simp ↓] theorem z_seqKL {q : List D → Prop} : seqOf (.kls ds) q = q ds := rfl
end
end DL

set_option Elab.async false
set_option linter.all false
set_option maxRecDepth 100000
namespace DL
open PySem PySem.Spec PyProof.Rows L2
variable [WW]
/-! plain data -/
section
variable {n : Nat} {ds es : List D} {i j : Int} {b c : Bool} {u v : Str} {x y : D}
@[simp] theorem pl_non : Pl n .non = True := by cases n <;> rfl
@[simp] theorem pl_bl : Pl n (.bl b) = True := by cases n <;> rfl
@[simp] theorem pl_int : Pl n (.int i) = True := by cases n <;> rfl
@[simp] theorem pl_str : Pl n (.str u) = True := by cases n <;> rfl
@[simp] theorem pl_tup : Pl (n + 1) (.tup ds) = ∀ x ∈ ds, Pl n x := rfl
@[simp] theorem pl_lst : Pl (n + 1) (.lst ds) = ∀ x ∈ ds, Pl n x := rfl
def peqL : List D → List D → Bool
  | [], [] => true
  | x :: xs, y :: ys => peq x y && peqL xs ys
  | _, _ => false
theorem eqvAll_L : ∀ xs ys : List D, PyData.eqvAll (toPyL xs) (toPyL ys) = peqL xs ys
  | [], [] => by simp [toPyL, PyData.eqvAll, peqL]
  | [], _ :: _ => by simp [toPyL, PyData.eqvAll, peqL]
  | _ :: _, [] => by simp [toPyL, PyData.eqvAll, peqL]
  | x :: xs, y :: ys => by
    simp only [toPyL, PyData.eqvAll, peqL, eqvAll_L xs ys]; rfl
@[simp] theorem peqL_nil : peqL [] [] = true := rfl
@[simp] theorem peqL_cons {xs ys : List D} : peqL (x :: xs) (y :: ys) = (peq x y && peqL xs ys) := rfl
@[simp] theorem peqL_l {xs : List D} : peqL (x :: xs) [] = false := rfl
@[simp] theorem peqL_r {xs : List D} : peqL [] (x :: xs) = false := rfl
@[simp] theorem peq_int : peq (.int i) (.int j) = decide (i = j) := by
  show (i == j) = _
  rw [Bool.eq_iff_iff]; simp
@[simp] theorem peq_str : peq (.str u) (.str v) = decide (u = v) := by
  show (u == v) = _
  rw [Bool.eq_iff_iff]; simp
@[simp] theorem peq_bl : peq (.bl b) (.bl c) = decide (b = c) := by
  show (b == c) = _
  rw [Bool.eq_iff_iff]; simp
@[simp] theorem peq_tup : peq (.tup ds) (.tup es) = peqL ds es := by
  show PyData.eqv (.tuple (toPyL ds)) (.tuple (toPyL es)) = _
  rw [PyData.eqv, eqvAll_L]
@[simp] theorem peq_lst : peq (.lst ds) (.lst es) = peqL ds es := by
  show PyData.eqv (.list (toPyL ds)) (.list (toPyL es)) = _
  rw [PyData.eqv, eqvAll_L]
@[simp] theorem peq_non : peq .non .non = true := by show PyData.eqv .none .none = true; rw [PyData.eqv]
@[simp] theorem peq_bi : peq (.bl b) (.int i) = decide ((if b then 1 else 0) = i) := by
  show PyData.eqv (.bool b) (.int i) = _
  rw [PyData.eqv, Bool.eq_iff_iff]; simp
@[simp] theorem peq_ib : peq (.int i) (.bl b) = decide (i = (if b then 1 else 0)) := by
  show PyData.eqv (.int i) (.bool b) = _
  rw [PyData.eqv, Bool.eq_iff_iff]; simp
@[simp] theorem peq_ni : peq .non (.int i) = false := by show PyData.eqv .none (.int i) = _; rw [PyData.eqv]
@[simp] theorem peq_ns : peq .non (.str u) = false := by show PyData.eqv .none (.str u) = _; rw [PyData.eqv]
@[simp] theorem peq_nt : peq .non (.tup ds) = false := by show PyData.eqv .none (.tuple _) = _; rw [PyData.eqv]
@[simp] theorem peq_nl : peq .non (.lst ds) = false := by show PyData.eqv .none (.list _) = _; rw [PyData.eqv]
@[simp] theorem peq_nb : peq .non (.bl b) = false := by show PyData.eqv .none (.bool _) = _; rw [PyData.eqv]
@[simp] theorem peq_in : peq (.int i) .non = false := by show PyData.eqv (.int i) .none = _; rw [PyData.eqv]
@[simp] theorem peq_sn : peq (.str u) .non = false := by show PyData.eqv (.str u) .none = _; rw [PyData.eqv]
@[simp] theorem peq_tn : peq (.tup ds) .non = false := by show PyData.eqv (.tuple _) .none = _; rw [PyData.eqv]
@[simp] theorem peq_ln : peq (.lst ds) .non = false := by show PyData.eqv (.list _) .none = _; rw [PyData.eqv]
@[simp] theorem peq_bn : peq (.bl b) .non = false := by show PyData.eqv (.bool _) .none = _; rw [PyData.eqv]
@[simp] theorem peq_is : peq (.int i) (.str u) = false := by show PyData.eqv (.int i) (.str u) = _; rw [PyData.eqv]
@[simp] theorem peq_si : peq (.str u) (.int i) = false := by show PyData.eqv (.str u) (.int i) = _; rw [PyData.eqv]
@[simp] theorem peq_it : peq (.int i) (.tup ds) = false := by show PyData.eqv (.int i) (.tuple _) = _; rw [PyData.eqv]
@[simp] theorem peq_ti : peq (.tup ds) (.int i) = false := by show PyData.eqv (.tuple _) (.int i) = _; rw [PyData.eqv]
@[simp] theorem peq_il : peq (.int i) (.lst ds) = false := by show PyData.eqv (.int i) (.list _) = _; rw [PyData.eqv]
@[simp] theorem peq_li : peq (.lst ds) (.int i) = false := by show PyData.eqv (.list _) (.int i) = _; rw [PyData.eqv]
@[simp] theorem peq_st : peq (.str u) (.tup ds) = false := by show PyData.eqv (.str u) (.tuple _) = _; rw [PyData.eqv]
@[simp] theorem peq_ts : peq (.tup ds) (.str u) = false := by show PyData.eqv (.tuple _) (.str u) = _; rw [PyData.eqv]
@[simp] theorem peq_sl : peq (.str u) (.lst ds) = false := by show PyData.eqv (.str u) (.list _) = _; rw [PyData.eqv]
@[simp] theorem peq_ls : peq (.lst ds) (.str u) = false := by show PyData.eqv (.list _) (.str u) = _; rw [PyData.eqv]
@[simp] theorem peq_tl : peq (.tup ds) (.lst es) = false := by show PyData.eqv (.tuple _) (.list _) = _; rw [PyData.eqv]
@[simp] theorem peq_lt : peq (.lst ds) (.tup es) = false := by show PyData.eqv (.list _) (.tuple _) = _; rw [PyData.eqv]
@[simp] theorem peq_bs : peq (.bl b) (.str u) = false := by show PyData.eqv (.bool b) (.str u) = _; rw [PyData.eqv]
@[simp] theorem peq_sb : peq (.str u) (.bl b) = false := by show PyData.eqv (.str u) (.bool b) = _; rw [PyData.eqv]
@[simp] theorem peq_bt : peq (.bl b) (.tup ds) = false := by show PyData.eqv (.bool b) (.tuple _) = _; rw [PyData.eqv]
@[simp] theorem peq_tb : peq (.tup ds) (.bl b) = false := by show PyData.eqv (.tuple _) (.bool b) = _; rw [PyData.eqv]
@[simp] theorem peq_bL : peq (.bl b) (.lst ds) = false := by show PyData.eqv (.bool b) (.list _) = _; rw [PyData.eqv]
@[simp] theorem peq_Lb : peq (.lst ds) (.bl b) = false := by show PyData.eqv (.list _) (.bool b) = _; rw [PyData.eqv]
@[simp] theorem mem_nil : mem x [] = false := rfl
@[simp] theorem mem_cons {ys : List D} : mem x (y :: ys) = (peq y x || mem x ys) := rfl
/-- data of one kind: equal as Python has it exactly if equal -/
structure Enc {α : Type} [DecidableEq α] (f : α → D) : Prop where
  eq : ∀ a b, peq (f a) (f b) = decide (a = b)
theorem enc_int : Enc D.int := ⟨fun _ _ => peq_int⟩
theorem Enc.list {α : Type} [DecidableEq α] {f : α → D} (h : Enc f) : ∀ a b : List α, peqL (a.map f) (b.map f) = decide (a = b)
  | [], [] => rfl
  | [], _ :: _ => rfl
  | _ :: _, [] => rfl
  | x :: xs, y :: ys => by
    rw [List.map_cons, List.map_cons, peqL_cons, h.eq, Enc.list h xs ys, Bool.eq_iff_iff, Bool.and_eq_true, decide_eq_true_eq, decide_eq_true_eq, decide_eq_true_eq, List.cons.injEq]
theorem Enc.tup {α : Type} [DecidableEq α] {f : α → D} (h : Enc f) : Enc fun a : List α => D.tup (a.map f) := ⟨fun a b => by rw [peq_tup, h.list]⟩
theorem Enc.lst {α : Type} [DecidableEq α] {f : α → D} (h : Enc f) : Enc fun a : List α => D.lst (a.map f) := ⟨fun a b => by rw [peq_lst, h.list]⟩
theorem Enc.mem {α : Type} [DecidableEq α] {f : α → D} (h : Enc f) (x : α) : ∀ ys : List α, mem (f x) (ys.map f) = decide (x ∈ ys)
  | [] => rfl
  | y :: ys => by
    rw [List.map_cons, mem_cons, h.eq, Enc.mem h x ys, Bool.eq_iff_iff, Bool.or_eq_true, decide_eq_true_eq, decide_eq_true_eq, decide_eq_true_eq, List.mem_cons]
    exact ⟨fun h => h.imp Eq.symm id, fun h => h.imp Eq.symm id⟩
theorem Enc.idx {α : Type} [DecidableEq α] {f : α → D} (h : Enc f) (x : α) (ys : List α) : idxD (ys.map f) (f x) = ys.findIdx? (fun y => decide (y = x)) := by
  unfold idxD
  rw [List.findIdx?_map]
  congr 1
  funext y
  exact h.eq y x
@[simp] theorem peqL_ints (a b : List Int) : peqL (a.map .int) (b.map .int) = decide (a = b) := enc_int.list a b
@[simp] theorem mem_ints (x : Int) (a : List Int) : mem (.int x) (a.map .int) = decide (x ∈ a) := enc_int.mem x a
@[simp] theorem idx_ints (x : Int) (a : List Int) : idxD (a.map .int) (.int x) = a.findIdx? (fun y => decide (y = x)) := enc_int.idx x a
@[simp] theorem pl_ints (a : List Int) : (∀ x ∈ a.map D.int, Pl n x) = True := by
  simp only [List.mem_map, forall_exists_index, and_imp, forall_apply_eq_imp_iff₂, pl_int, implies_true]
end
section
variable {α β : Type} {x y z w : α} {xs : List α}
theorem ixN_of {n : Nat} {i : Int} (h0 : 0 ≤ i) (h1 : i < n) : ixN n i = some i.toNat := by unfold ixN; rw [if_pos h0, if_pos h1]
@[simp] theorem at_0 : atI (x :: xs) 0 = some x := by
  unfold atI; rw [ixN_of (by omega) (by simp only [List.length_cons]; omega)]; rfl
@[simp] theorem at_1 : atI (x :: y :: xs) 1 = some y := by
  unfold atI; rw [ixN_of (by omega) (by simp only [List.length_cons]; omega)]; rfl
@[simp] theorem at_2 : atI (x :: y :: z :: xs) 2 = some z := by
  unfold atI; rw [ixN_of (by omega) (by simp only [List.length_cons]; omega)]; rfl
@[simp] theorem at_3 : atI (x :: y :: z :: w :: xs) 3 = some w := by
  unfold atI; rw [ixN_of (by omega) (by simp only [List.length_cons]; omega)]; rfl
theorem at_nat (n : Nat) : atI xs (n : Int) = xs[n]? := by
  unfold atI
  by_cases h : n < xs.length
  · rw [ixN_of (by omega) (by omega)]; rfl
  · unfold ixN
    rw [if_pos (by omega), if_neg (by omega), List.getElem?_eq_none (by omega)]; rfl
theorem at_of {i : Int} (h0 : 0 ≤ i) : atI xs i = xs[i.toNat]? := by
  obtain ⟨n, rfl⟩ : ∃ n : Nat, i = n := ⟨i.toNat, by omega⟩
  rw [at_nat]; rfl
theorem at_map (f : α → β) (i : Int) : atI (xs.map f) i = (atI xs i).map f := by
  unfold atI
  rw [List.length_map]
  cases ixN xs.length i <;> simp
end

@[simp] theorem ty_non : tyE .non = some .non := rfl
@[simp] theorem ty_bl {b : Bool} : tyE (.bl b) = some .bl := rfl
@[simp] theorem ty_int {i : Int} : tyE (.int i) = some .int := rfl
@[simp] theorem ty_str {i : Str} : tyE (.str i) = some .str := rfl
@[simp] theorem ty_lst {ds : List D} : tyE (.lst ds) = some .lst := rfl
@[simp] theorem ty_kls {ds : List D} : tyE (.kls ds) = some .lst := rfl
@[simp] theorem ty_kt {ds : List D} : tyE (.kt ds) = some .tup := rfl
@[simp] theorem ty_tup {ds : List D} : tyE (.tup ds) = some .tup := rfl
@[simp] theorem ty_dK {ds : List (Key × D)} : tyE (.dK ds) = some .dct := rfl
@[simp] theorem ty_dT {ds : List (NK × D)} : tyE (.dT ds) = some .dct := rfl
@[simp] theorem non_non : isNon .non = true := rfl
@[simp] theorem non_bl {b : Bool} : isNon (.bl b) = false := rfl
@[simp] theorem non_int {i : Int} : isNon (.int i) = false := rfl
@[simp] theorem non_str {i : Str} : isNon (.str i) = false := rfl
@[simp] theorem non_lst {ds : List D} : isNon (.lst ds) = false := rfl
@[simp] theorem non_tup {ds : List D} : isNon (.tup ds) = false := rfl
@[simp] theorem non_dT {ds : List (NK × D)} : isNon (.dT ds) = false := rfl
@[simp] theorem non_dK {ds : List (Key × D)} : isNon (.dK ds) = false := rfl
@[simp] theorem non_exc {a : Addr} {fs : List (Str × D)} : isNon (.exc a fs) = false := rfl
@[simp] theorem seq_lst {ds : List D} : seqD (.lst ds) = some ds := rfl
@[simp] theorem seq_tup {ds : List D} : seqD (.tup ds) = some ds := rfl
@[simp] theorem keyK_int {i : Int} : keyK (.int i) = some (.inl i) := rfl
@[simp] theorem keyK_str {i : Str} : keyK (.str i) = some (.inr i) := rfl
@[simp] theorem sl_soL {ds : List D} : soSl (.lst ds) = .ol ds := rfl
@[simp] theorem sl_soK {ds : List (Key × D)} : soSl (.dK ds) = .ok ds := rfl
@[simp] theorem sl_ofL {ds : List D} : slSo (.ol ds) = .lst ds := rfl
@[simp] theorem sl_ofK {ds : List (Key × D)} : slSo (.ok ds) = .dK ds := rfl
@[simp] theorem sl_lenL {ds : List D} : slLen (.ol ds) = ds.length := rfl
@[simp] theorem sl_lenK {ds : List (Key × D)} : slLen (.ok ds) = ds.length := rfl
@[simp] theorem sl_lenT {ds : List (NK × D)} : slLen (.ot ds) = ds.length := rfl
@[simp] theorem sl_putL {ds : List D} {i : Int} {d : D} : putSl (.int i) d (.ol ds) = (ixN ds.length i).map fun j => .ol (ds.set j d) := rfl
@[simp] theorem sl_putK {ds : List (Key × D)} {k d : D} : putSl k d (.ok ds) = (keyK k).map fun key => .ok (putKD ds key d) := rfl
@[simp] theorem sl_putT {ds : List (NK × D)} {k d : D} : putSl k d (.ot ds) = (keyS k).map fun key => .ot (putKD ds key d) := rfl
@[simp] theorem sl_notL {ds : List D} : notT (.ol ds) = True := rfl
@[simp] theorem sl_notK {ds : List (Key × D)} : notT (.ok ds) = True := rfl
@[simp] theorem sl_keepV {d : D} : keepV (some (.val d)) = .val d := rfl
@[simp] theorem sl_keepU : keepV (some .un) = .un := rfl
@[simp] theorem sl_keepL {ds : List D} : keepV (some (.ol ds)) = .un := rfl
@[simp] theorem sl_keepK {ds : List (Key × D)} : keepV (some (.ok ds)) = .un := rfl
@[simp] theorem sl_keepT {ds : List (NK × D)} : keepV (some (.ot ds)) = .un := rfl
@[simp] theorem sl_hideV {d : D} : hideS (.val d) = .val d := rfl
@[simp] theorem sl_hideU : hideS .un = .un := rfl
@[simp] theorem sl_hideL {ds : List D} : hideS (.ol ds) = .un := rfl
@[simp] theorem sl_hideK {ds : List (Key × D)} : hideS (.ok ds) = .un := rfl
@[simp] theorem sl_hideT {ds : List (NK × D)} : hideS (.ot ds) = .un := rfl
@[simp] theorem sl_fL {ds : List D} : slF (.ol ds) = .lst ds := rfl
@[simp] theorem sl_fK {ds : List (Key × D)} : slF (.ok ds) = .dK ds := rfl
@[simp] theorem sl_fT {ds : List (NK × D)} : slF (.ot ds) = .dT ds := rfl
@[simp] theorem no_non : noOwn .non = True := rfl
@[simp] theorem no_bl {b : Bool} : noOwn (.bl b) = True := rfl
@[simp] theorem no_int {i : Int} : noOwn (.int i) = True := rfl
@[simp] theorem no_str {i : Str} : noOwn (.str i) = True := rfl
@[simp] theorem no_lst {ds : List D} : noOwn (.lst ds) = True := rfl
@[simp] theorem no_tup {ds : List D} : noOwn (.tup ds) = True := rfl
@[simp] theorem no_dT {ds : List (NK × D)} : noOwn (.dT ds) = True := rfl
@[simp] theorem no_dK {ds : List (Key × D)} : noOwn (.dK ds) = True := rfl
@[simp] theorem no_exc {a : Addr} {fs : List (Str × D)} : noOwn (.exc a fs) = True := rfl
@[simp] theorem nod_tup {ds : List D} : nod (.tup ds) = True := rfl
@[simp] theorem nod_dT {ds : List (NK × D)} : nod (.dT ds) = True := rfl
@[simp] theorem nod_dK {ds : List (Key × D)} : nod (.dK ds) = True := rfl
@[simp] theorem nod_exc {a : Addr} {fs : List (Str × D)} : nod (.exc a fs) = True := rfl
@[simp] theorem nod_lst {ds : List D} : nod (.lst ds) = True := rfl
@[simp] theorem nod_int {i : Int} : nod (.int i) = True := rfl
@[simp] theorem nod_bl {i : Bool} : nod (.bl i) = True := rfl
@[simp] theorem nod_str {i : Str} : nod (.str i) = True := rfl
@[simp] theorem nod_non : nod .non = True := rfl
theorem pl_nod {n : Nat} {d : D} (h : Pl n d) : nod d := by
  cases d <;> first | trivial | (cases n <;> exact h.elim)
theorem pl_mono : ∀ {n m : Nat} {d : D}, Pl n d → n ≤ m → Pl m d
  | 0, m, d, h, _ => by cases d <;> first | exact h.elim | (cases m <;> trivial)
  | n + 1, 0, d, _, hl => absurd hl (by omega)
  | n + 1, m + 1, d, h, hl => by
    cases d <;> first | exact h.elim | trivial | exact fun x hx => pl_mono (h x hx) (by omega)
end DL

set_option Elab.async false
set_option linter.all false
set_option maxRecDepth 100000
namespace DL
open PySem PySem.Spec PyProof.Rows L2
theorem len0 {α : Type} {ds : List α} (h : ds.length = 0) : ds = [] := List.length_eq_zero_iff.mp h
theorem len1 {α : Type} {ds : List α} (h : ds.length = 1) : ∃ a, ds = [a] := by
  match ds, h with
  | [a], _ => exact ⟨a, rfl⟩
theorem len2 {α : Type} {ds : List α} (h : ds.length = 2) : ∃ a b, ds = [a, b] := by
  match ds, h with
  | [a, b], _ => exact ⟨a, b, rfl⟩
theorem len3 {α : Type} {ds : List α} (h : ds.length = 3) : ∃ a b c, ds = [a, b, c] := by
  match ds, h with
  | [a, b, c], _ => exact ⟨a, b, c, rfl⟩
theorem len4 {α : Type} {ds : List α} (h : ds.length = 4) : ∃ a b c d, ds = [a, b, c, d] := by
  match ds, h with
  | [a, b, c, d], _ => exact ⟨a, b, c, d, rfl⟩
theorem len5 {α : Type} {ds : List α} (h : ds.length = 5) : ∃ a b c d e, ds = [a, b, c, d, e] := by
  match ds, h with
  | [a, b, c, d, e], _ => exact ⟨a, b, c, d, e, rfl⟩
theorem len6 {α : Type} {ds : List α} (h : ds.length = 6) : ∃ a b c d e f, ds = [a, b, c, d, e, f] := by
  match ds, h with
  | [a, b, c, d, e, f], _ => exact ⟨a, b, c, d, e, f, rfl⟩
def toI : D → Option Int
  | .int i => some i
  | _ => none
theorem toI_eq {d : D} {i : Int} (h : toI d = some i) : d = .int i := by
  unfold toI at h
  split at h
  · cases h; rfl
  · cases h
/-! ### sorted, of one kind -/
section
variable [WW]
open PySem.W
def dle (a b : D) : Bool := dataLe false toPy a b
theorem dle_total : TotalLe dle := sortLe_total (listOrd itemOrd) false fun b => keyToks (toPy b)
theorem dle_anti {a b : D} (h1 : dle a b = true) (h2 : dle b a = true) : keyToks (toPy a) = keyToks (toPy b) := by
  have e1 : (listOrd itemOrd).blt (keyToks (toPy b)) (keyToks (toPy a)) = false := by simpa [dle, dataLe, sortLe] using h1
  have e2 : (listOrd itemOrd).blt (keyToks (toPy a)) (keyToks (toPy b)) = false := by simpa [dle, dataLe, sortLe] using h2
  exact (listOrd itemOrd).total _ _ e2 e1
theorem sortD_of {α : Type} (f : α → D) (inj : ∀ a b, keyToks (toPy (f a)) = keyToks (toPy (f b)) → a = b) {xs ys : List α} (hp : xs.Perm ys) (hs : ys.Pairwise fun a b => dle (f a) (f b) = true) : sortD (xs.map f) = ys.map f := by
  have t : TotalLe fun a b : α => dle (f a) (f b) := ⟨fun a b c => dle_total.trans _ _ _, fun a b => dle_total.total _ _⟩
  have e : (xs.mergeSort fun a b => dle (f a) (f b)).map f = sortD (xs.map f) := List.map_mergeSort fun _ _ _ _ => rfl
  rw [← e]
  congr 1
  refine List.Perm.eq_of_pairwise (le := fun a b => dle (f a) (f b) = true) (fun a b _ _ h1 h2 => inj _ _ (dle_anti h1 h2)) (sort_pairwise t xs) hs ((List.mergeSort_perm _ _).trans hp)
theorem sortD_perm {α : Type} (f : α → D) (xs : List α) : ∃ ys : List α, xs.Perm ys ∧ sortD (xs.map f) = ys.map f := by
  have e : (xs.mergeSort fun a b => dle (f a) (f b)).map f = sortD (xs.map f) := List.map_mergeSort fun _ _ _ _ => rfl
  exact ⟨_, (List.mergeSort_perm _ _).symm, e.symm⟩
theorem toks_ints : ∀ a b : List Int, keyToksAll (toPyL (a.map .int)) = keyToksAll (toPyL (b.map .int)) → a = b
  | [], [], _ => rfl
  | [], y :: ys, h => by simp [toPyL, keyToksAll] at h
  | x :: xs, [], h => by simp [toPyL, keyToksAll] at h
  | x :: xs, y :: ys, h => by
    simp only [List.map_cons, toPyL, toPy, keyToksAll, keyToks, List.cons_append, List.nil_append, List.cons.injEq, Sum.inl.injEq, true_and] at h
    rw [h.1, toks_ints xs ys h.2]
theorem inj_int (a b : Int) (h : keyToks (toPy (.int a)) = keyToks (toPy (.int b))) : a = b := by
  simpa [toPy, keyToks] using h
theorem alike_ints (a b : List Int) : alikeAll (toPyL (a.map .int)) (toPyL (b.map .int)) = true := by
  induction a generalizing b with
  | nil => cases b <;> simp [toPyL, alikeAll]
  | cons x xs ih =>
    cases b with
    | nil => simp [toPyL, alikeAll]
    | cons y ys => simp [toPyL, alikeAll, toPy, alike, ih]
theorem sortOk_ints (a : List Int) : SortOk (a.map .int) := by
  refine ⟨fun x hx => ?_, fun d hd d' hd' => ?_, .inl (.inr fun d hd => ?_)⟩
  · obtain ⟨i, _, rfl⟩ := List.mem_map.mp hx; rw [pl_int]; trivial
  · simp only [List.map_map, List.mem_map, Function.comp] at hd hd'
    obtain ⟨i, _, rfl⟩ := hd; obtain ⟨j, _, rfl⟩ := hd'
    simp [toPy, alike]
  · simp only [List.map_map, List.mem_map, Function.comp] at hd
    obtain ⟨i, _, rfl⟩ := hd
    exact ⟨by simp [toPy], fun xs => by simp [toPy]⟩
/-- a tuple of numbers -/
abbrev iL (l : List Int) : D := .tup (l.map .int)
theorem inj_iL (a b : List Int) (h : keyToks (toPy (iL a)) = keyToks (toPy (iL b))) : a = b := toks_ints a b (by simpa [iL, toPy, keyToks] using h)
theorem sortOk_iL {a : List (List Int)} (h : (∀ l ∈ a, l ≠ []) ∨ ∃ r, a = [] :: r) : SortOk (a.map iL) := by
  refine ⟨fun x hx => ?_, fun d hd d' hd' => ?_, ?_⟩
  · obtain ⟨i, _, rfl⟩ := List.mem_map.mp hx
    show ∀ x ∈ i.map D.int, Pl 39 x
    rw [pl_ints]; trivial
  · simp only [List.map_map, List.mem_map, Function.comp] at hd hd'
    obtain ⟨i, _, rfl⟩ := hd; obtain ⟨j, _, rfl⟩ := hd'
    simp [toPy, alike, alike_ints, iL]
  · rcases h with h | ⟨r, rfl⟩
    · refine .inl (.inl fun d hd => ?_)
      simp only [List.map_map, List.mem_map, Function.comp] at hd
      obtain ⟨i, hi, rfl⟩ := hd
      have := h i hi
      cases i with
      | nil => exact absurd rfl this
      | cons x xs => exact ⟨.int x, toPyL (xs.map .int), by simp [iL, toPy, toPyL]⟩
    · refine .inr ⟨(r.map iL).map toPy, by simp [iL, toPy, toPyL], fun d hd => ?_⟩
      simp only [List.map_map, List.mem_map, Function.comp] at hd
      obtain ⟨i, _, rfl⟩ := hd
      exact ⟨_, by simp [iL, toPy]; rfl⟩
theorem sortD_iL {xs ys : List (List Int)} (hp : xs.Perm ys) (hs : ys.Pairwise fun a b => dle (iL a) (iL b) = true) : sortD (xs.map iL) = ys.map iL := sortD_of iL inj_iL hp hs
theorem enc_iL : Enc iL := enc_int.tup
/-- a is said before b -/
def ltI : List Int → List Int → Bool
  | [], [] => false
  | [], _ :: _ => true
  | _ :: _, [] => false
  | x :: xs, y :: ys => decide (x < y) || (decide (x = y) && ltI xs ys)
theorem dlt_iL : ∀ a b : List Int, lexLt itemOrd (keyToksAll (toPyL (a.map .int))) (keyToksAll (toPyL (b.map .int))) = ltI a b
  | [], [] => by simp [toPyL, keyToksAll, PyProof.Rows.lexLt, ltI, itemLt]
  | [], _ :: _ => by simp [toPyL, keyToksAll, PyProof.Rows.lexLt, ltI, itemLt]
  | _ :: _, [] => by simp [toPyL, keyToksAll, PyProof.Rows.lexLt, ltI, itemLt]
  | x :: xs, y :: ys => by
    simp only [List.map_cons, toPyL, toPy, keyToksAll, keyToks, List.cons_append, List.nil_append, PyProof.Rows.lexLt, dlt_iL xs ys, ltI, itemLt]
    rcases Int.lt_trichotomy x y with h | h | h
    · simp [h]
    · subst h; simp
    · have h1 : ¬ x < y := by omega
      have h2 : ¬ x = y := by omega
      simp [h, h1, h2]
theorem dle_iL (a b : List Int) : dle (iL a) (iL b) = !ltI b a := by
  show (!lexLt itemOrd (keyToks (toPy (iL b))) (keyToks (toPy (iL a)))) = _
  simp only [iL, toPy, keyToks, dlt_iL]
end
section
variable [WW]
theorem rangeL_0 (lo : Int) : rangeL lo 0 = [] := rfl
theorem rangeL_s (lo : Int) (n : Nat) : rangeL lo (n + 1) = .int lo :: rangeL (lo + 1) n := by
  unfold rangeL
  rw [List.range_succ_eq_map, List.map_cons, List.map_map]
  congr 1
  · simp
  · apply List.map_congr_left
    intro i _
    simp only [Function.comp]
    congr 1
    omega
theorem rangeL_map (n : Nat) : rangeL 0 n = ((List.range n).map fun i : Nat => (i : Int)).map .int := by
  unfold rangeL
  rw [List.map_map]
  apply List.map_congr_left
  intro i _
  simp
theorem cut_lo {α : Type} (xs : List α) (k : Nat) : cut xs (some (k : Int)) none = xs.drop k := by
  unfold cut
  rw [HT.sIx_nat, HT.sIx_none]
  rcases Nat.le_total k xs.length with h | h
  · rw [Nat.min_eq_left h, List.take_of_length_le (by rw [List.length_drop]; omega)]
  · rw [Nat.min_eq_right h, List.drop_length, List.drop_eq_nil_of_le h]; simp
theorem cut_hi {α : Type} (xs : List α) (k : Nat) : cut xs none (some (k : Int)) = xs.take k := by
  unfold cut
  rw [HT.sIx_nat, HT.sIx_none]
  rcases Nat.le_total k xs.length with h | h
  · rw [Nat.min_eq_left h]; simp
  · rw [Nat.min_eq_right h, List.take_of_length_le h]; simp
theorem cut_loI {α : Type} (xs : List α) {k : Int} (h : 0 ≤ k) : cut xs (some k) none = xs.drop k.toNat := by
  obtain ⟨n, rfl⟩ : ∃ n : Nat, k = n := ⟨k.toNat, by omega⟩
  rw [cut_lo]; rfl
theorem cut_hiI {α : Type} (xs : List α) {k : Int} (h : 0 ≤ k) : cut xs none (some k) = xs.take k.toNat := by
  obtain ⟨n, rfl⟩ : ∃ n : Nat, k = n := ⟨k.toNat, by omega⟩
  rw [cut_hi]; rfl
theorem cut_tail {α : Type} (x : α) (xs : List α) : cut (x :: xs) (some 1) none = xs := by
  rw [cut_loI _ (by omega)]; rfl
end
end DL

set_option Elab.async false
set_option linter.all false
set_option maxRecDepth 100000
namespace DL
open PySem PySem.Spec PyProof.Rows L2
variable [WW]
theorem filterMap_if {α : Type} (p : α → Bool) (h : α → D) (xs : List α) : xs.filterMap (fun x => if p x = true then some (h x) else none) = (xs.filter p).map h := by
  induction xs with
  | nil => rfl
  | cons x xs ih =>
    by_cases hx : p x = true
    · rw [List.filterMap_cons_some (by rw [if_pos hx]), ih, List.filter_cons_of_pos hx, List.map_cons]
    · rw [List.filterMap_cons_none (by rw [if_neg hx]), ih, List.filter_cons_of_neg hx]
section
variable {g : Tgt} {tt : TTD} {te : TED} {vs : List Nat} {σ : En} {st : Sto} {k : List D → Sto → En → Prop} {α : Type}
/-- a comprehension that draws: what it has so far -/
theorem map_inv (e : α → D) (xs : List α) (P : Nat → List D → Sto → Prop) (h0 : P 0 [] st)
    (hs : ∀ (i : Nat) x acc st', xs[i]? = some x → P i acc st' → ∀ (Kt : D → En → Sto → Prop) (Kf : En → Sto → Prop), (∀ y σ' st'', P (i + 1) (acc ++ [y]) st'' → wipeD σ' vs = wipeD σ vs → Kt y σ' st'') → (∀ σ' st'', P (i + 1) acc st'' → wipeD σ' vs = wipeD σ vs → Kf σ' st'') →
      gT g (e x) (wipeD σ vs) st' fun σ1 st1 => tt F0 σ1 st1 fun b σ2 st2 => if b = true then eFz te F0 σ2 st2 Kt else Kf σ2 st2)
    (he : ∀ acc st', P xs.length acc st' → k acc st' (backD σ σ vs)) : mapD g tt te vs (xs.map e) [] σ st fun acc σ2 st2 => lt (backD σ σ2 vs) (k acc st2) := by
  refine mapD_inv (P := fun i acc σ' st' => P i acc st' ∧ wipeD σ' vs = wipeD σ vs) (xs.map e).length (xs.map e) 0 [] σ st (by simp) ⟨h0, rfl⟩ (fun i d acc σ' st' ed hp Kt Kf k1 k2 => ?_) fun acc σ' st' hp => ?_
  · obtain ⟨hp, hw⟩ := hp
    rw [Nat.zero_add] at k1 k2 hp
    rw [List.getElem?_map] at ed
    obtain ⟨x, ex, rfl⟩ := Option.map_eq_some_iff.mp ed
    rw [hw]
    exact hs i x acc st' ex hp Kt Kf (fun y σ2 st2 p w => k1 y σ2 st2 ⟨p, w⟩) fun σ2 st2 p w => k2 σ2 st2 ⟨p, w⟩
  · obtain ⟨hp, hw⟩ := hp
    rw [List.length_map] at hp
    show k acc st' (backD σ σ' vs)
    rw [wipe_back hw]
    exact he acc st' hp
theorem map_opt (e : α → D) (f : α → Option D) (xs : List α)
    (hs : ∀ x ∈ xs, ∀ (Kt : D → En → Sto → Prop) (Kf : En → Sto → Prop), (∀ y σ', f x = some y → wipeD σ' vs = wipeD σ vs → Kt y σ' st) → (∀ σ', f x = none → wipeD σ' vs = wipeD σ vs → Kf σ' st) →
      gT g (e x) (wipeD σ vs) st fun σ1 st1 => tt F0 σ1 st1 fun b σ2 st2 => if b = true then eFz te F0 σ2 st2 Kt else Kf σ2 st2)
    (he : k (xs.filterMap f) st (backD σ σ vs)) : mapD g tt te vs (xs.map e) [] σ st fun acc σ2 st2 => lt (backD σ σ2 vs) (k acc st2) := by
  refine map_inv e xs (fun i acc st' => acc = (xs.take i).filterMap f ∧ st' = st) ⟨rfl, rfl⟩ (fun i x acc st' ex hp Kt Kf k1 k2 => ?_) fun acc st' hp => ?_
  · obtain ⟨rfl, rfl⟩ := hp
    have ht : xs.take (i + 1) = xs.take i ++ [x] := by rw [List.take_add_one, ex]; rfl
    refine hs x (List.mem_of_getElem? ex) Kt Kf (fun y σ2 ey hw2 => k1 y σ2 _ ⟨?_, rfl⟩ hw2) fun σ2 ey hw2 => k2 σ2 _ ⟨?_, rfl⟩ hw2
    · rw [ht, List.filterMap_append]; simp [ey]
    · rw [ht, List.filterMap_append]; simp [ey]
  · obtain ⟨rfl, rfl⟩ := hp
    rw [List.take_length]
    exact he
/-- each item, by h -/
theorem map_all (e : α → D) (h : α → D) (xs : List α)
    (hs : ∀ x ∈ xs, ∀ (Kt : D → En → Sto → Prop) (Kf : En → Sto → Prop), (∀ σ', wipeD σ' vs = wipeD σ vs → Kt (h x) σ' st) →
      gT g (e x) (wipeD σ vs) st fun σ1 st1 => tt F0 σ1 st1 fun b σ2 st2 => if b = true then eFz te F0 σ2 st2 Kt else Kf σ2 st2)
    (he : k (xs.map h) st (backD σ σ vs)) : mapD g tt te vs (xs.map e) [] σ st fun acc σ2 st2 => lt (backD σ σ2 vs) (k acc st2) := by
  refine map_opt e (fun x => some (h x)) xs (fun x hx Kt Kf k1 _ => hs x hx Kt Kf fun σ' w => k1 _ σ' rfl w) ?_
  rw [show xs.filterMap (fun x => some (h x)) = xs.map h from by rw [List.filterMap_eq_map']]
  exact he
/-- those of which p holds, by h -/
theorem map_if (e : α → D) (p : α → Bool) (h : α → D) (xs : List α)
    (hs : ∀ x ∈ xs, ∀ (Kt : D → En → Sto → Prop) (Kf : En → Sto → Prop), (p x = true → ∀ σ', wipeD σ' vs = wipeD σ vs → Kt (h x) σ' st) → (p x = false → ∀ σ', wipeD σ' vs = wipeD σ vs → Kf σ' st) →
      gT g (e x) (wipeD σ vs) st fun σ1 st1 => tt F0 σ1 st1 fun b σ2 st2 => if b = true then eFz te F0 σ2 st2 Kt else Kf σ2 st2)
    (he : k ((xs.filter p).map h) st (backD σ σ vs)) : mapD g tt te vs (xs.map e) [] σ st fun acc σ2 st2 => lt (backD σ σ2 vs) (k acc st2) := by
  refine map_opt e (fun x => if p x = true then some (h x) else none) xs (fun x hx Kt Kf k1 k2 => hs x hx Kt Kf (fun hp σ' w => k1 _ σ' (if_pos hp) w) fun hp σ' w => k2 σ' (if_neg (by rw [hp]; exact Bool.false_ne_true)) w) ?_
  rw [filterMap_if]
  exact he
theorem map_allD (h : D → D) (xs : List D)
    (hs : ∀ x ∈ xs, ∀ (Kt : D → En → Sto → Prop) (Kf : En → Sto → Prop), (∀ σ', wipeD σ' vs = wipeD σ vs → Kt (h x) σ' st) →
      gT g x (wipeD σ vs) st fun σ1 st1 => tt F0 σ1 st1 fun b σ2 st2 => if b = true then eFz te F0 σ2 st2 Kt else Kf σ2 st2)
    (he : k (xs.map h) st (backD σ σ vs)) : mapD g tt te vs xs [] σ st fun acc σ2 st2 => lt (backD σ σ2 vs) (k acc st2) := by
  have := map_all (g := g) (tt := tt) (te := te) (vs := vs) (σ := σ) (st := st) (k := k) id h xs hs he
  rwa [List.map_id] at this
end
end DL

set_option Elab.async false
set_option linter.all false
set_option maxRecDepth 100000
namespace DL
open PySem PySem.Spec PyProof.Rows L2
variable [WW]
theorem ResEl.mild {K : PySem.W.Frag} {G H H' : Hp} {σd : En} {σ : VS} {st : Sto} {as : List Addr} {xs : List Sl} {vs : List V} (m : ResEl K G H σd σ st as xs vs) (k : Mild H H') : ResEl K G H' σd σ st as xs vs := by
  induction m with
  | nil => exact .nil
  | v h _ ih => exact .v (h.keep k.k) ih
  | w ho h n no sp gp _ ih =>
    refine .w ho (h.keep k.k fun a _ ea => ?_) n no sp gp ih
    obtain ⟨u, e, _, nt⟩ := SlOk.some h ho
    cases ea
    rw [k.s _ u e nt, e]
theorem gVs_all : ∀ {is : List Nat} {vs : List V} {σ : VS} {H : Hp} {Q : VS → Hp → Prop}, is.length = vs.length → Q (setAllV σ is vs) H → gVs is vs σ H Q
  | [], [], σ, H, Q, _, q => ⟨rfl, q⟩
  | i :: is, v :: vs, σ, H, Q, h, q => ⟨v, vs, rfl, gVs_all (by simpa using h) q⟩
section
variable {X : Cx} {C : DC} {pos : Pos}
/-- a, b, .. = x, y, ..: not swapped; what is new becomes the names' own -/
theorem ds_parT {es tgs : List Expr} {is : List Nat} {els : List El} {kt k2 : Nat} {pt pt2 : Pos} (cx : Ctx X C) (h : DEls X C.K C.T es els) (hg : PGs X tgs (gVs is)) (hlen : is.length = els.length := by rfl) (hz : els.length ≤ 1000 := by exact Nat.le_of_ble_eq_true rfl)
    (hn : (assignEach tgs X.env).length = els.length := by rfl) (hst : (assignEach tgs X.env).findIdx? (·.1) = none := by rfl)
    (hs : swapsWithSole [.Tuple tgs kt pt] (.Tuple es k2 pt2) pos.line X.env = pure false := by rfl) (hw : swappedStores [.Tuple tgs kt pt] (.Tuple es k2 pt2) X.env = pure none := by rfl)
    (h1 : (assignEach [.Tuple tgs kt pt] X.env).map (·.2) = [assign (.Tuple tgs kt pt) X.env] := by rfl) :
    DS X C (.Assign [.Tuple tgs kt pt] (.Tuple es k2 pt2) pos) (sPars is els) :=
  DS.imp (ps_asg (pe_tup (h C cx rfl rfl)) (pg_tup cx.calm hg hn hst) hs hw h1) fun D σ H q => by
    obtain ⟨σd, st, Dd, r, ht, l⟩ := q
    have ht' : evEls els C.E σd st fun xs σ1 st1 => (∀ z ∈ is, z < σ1.length) ∧ Dd.nx (setAll σ1 is xs) st1 := ht
    refine ⟨σd, st, _, r, ht', fun vs H' xs σ1 st1 r1 m lx k q => ?_⟩
    obtain ⟨hlt, q⟩ := q
    have lv : vs.length = els.length := m.len.symm.trans lx
    refine ⟨by rw [lv, sizeLine_eq]; omega, fun p hp => ⟨p, vs, rfl, .inl (.inl upd_same), lv, ?_⟩⟩
    have mk : Mild H' (upd H' p (.tup vs)) := Mild.new hp
    exact gVs_all (hlen.trans lv.symm) (l.nx _ _ _ st1 (ResEl.set (m.mild mk) (r1.mild mk) hlt) (k.trans mk.k) q)
theorem pgs_v {es : List Expr} {i : Nat} {is : List Nat} {x : Str} {p : Pos} (cx : Ctx X C) (hi : X.N[i]? = some x) (hx : locB X.env.scope x = true) (h : PGs X es (gVs is)) (hs : (assignEach (.Name x p :: es) X.env).map (·.2) = assign (.Name x p) X.env :: (assignEach es X.env).map (·.2) := by rfl)
    (hf : X.fn x = true ∨ X.env.scope.names.lookup x = some .local := by first | exact .inl rfl | exact .inr rfl | assumption) : PGs X (.Name x p :: es) (gVs (i :: is)) :=
  pgs_cons (pg_name cx.nd hi (loc_of hx) hf) h hs
theorem pgs_0 : PGs X [] (gVs []) := pgs_nil
end
end DL

set_option Elab.async false
set_option linter.all false
set_option maxRecDepth 100000
namespace DL
open PySem PySem.Spec PyProof.Rows L2
variable [WW]
/-! ### the law's own call: the script is frozen ahead of the body -/
def frzS (t : TS) : TS := fun D σ H => t D σ H ∨ ∃ a u, H a = some u ∧ Fable u ∧ ∀ o, t D σ (upd H a (.frz o u))
theorem pss_frz {X : Cx} {b : List Stmt} {t : TS} (h : PSs X b t) : PSs X b (frzS t) := ⟨fun pins s σ H D I q => by
  rcases q with q | ⟨a, u, e, f, q⟩
  · exact h.run pins s σ H D I q
  · obtain ⟨o, J⟩ := Inv.freeze I e f
    exact h.run pins s σ _ D J (q o)⟩
/-- the law's promise -/
def spLaw (K : PySem.W.Frag) (T : List (Addr × Str)) (n : Nat) : Sp := fun vs H Q _ => ∃ (a : Addr) (ns : List Int), vs = [.ref a] ∧ SqL K H a (ns.map V.int) ∧ ns.length ≤ n ∧ LamX.Tabs T H ∧ ∀ H', Q (.bl true) H'
theorem den_ns {K : PySem.W.Frag} {H : Hp} (ns : List Int) : DenL K H (ns.map D.int) (ns.map V.int) := by
  refine ⟨by simp, fun i d v e1 e2 => ?_⟩
  rw [List.getElem?_map] at e1 e2
  obtain ⟨j, h1, rfl⟩ := Option.map_eq_some_iff.mp e1
  obtain ⟨k, h2, rfl⟩ := Option.map_eq_some_iff.mp e2
  rw [h1] at h2; cases h2
  exact .int _
section
variable {P : Program} {w : World} {K : PySem.W.Frag} {T : List (Addr × Str)} {mg : Str → Option Value} {base : Heap} {x qual : Str} {params : Arguments} {body : List Stmt} {scope : Scope} {dvs : List V} {kws : List (Str × V)} {f : Addr} {fd : FuncData}
theorem FnL.mk (hw : w = WW.w) {N : List Str} {y : Str} {k n : Nat} {t : TSD} (F : FunD K x qual params body scope dvs kws f fd) (S : FnScope N [y] scope)
    (hb : ∀ (cd : Value) (A : Around) (outer : List Env) (s : Shared) (H : Hp) (E : XK) (C : DC), Room k (A.deeper (envOfC qual scope s.heap.objs.size f cd)) → Ctx (cxD P w K mg base N qual scope f cd A outer s H E) C → C.K = K → C.T = T → (∀ p, f = He.fAd K p → cd = .ref (He.codeOf K p)) → DSs (cxD P w K mg base N qual scope f cd A outer s H E) C body t)
    (ht : ∀ (ns : List Int) (Qd : D → Sto → Prop), ns.length ≤ n → (∀ st', Qd (.bl true) st') → t (fun _ _ _ => False) { nx := fun _ st' => Qd .non st', rt := Qd } (startD N [.kls (ns.map .int)]) fun _ => none) : FnOk P w K mg base (CX P w) (k + 1) f fd [y] (spLaw K T n) := by
  have hpl : 1 ≤ N.length := by have := congrArg List.length S.pre; rw [List.length_take] at this; simp at this; omega
  obtain ⟨oc, od, dV, kV, doc, pm, an, cd, ct, osl, efd, lk, hcd, _, _⟩ := F.ex
  subst efd
  have hcd' : ∀ p, f = He.fAd K p → cd = .ref (He.codeOf K p) := fun p e => by
    obtain ⟨c, ec⟩ := He.codeIn_ref hcd
    rw [He.codeOf_eq (c := c) (by rw [← e]; exact lk) ec, ec]
  refine fn_of lk hcd S (fun vs H Q E ⟨a, ns, e, _⟩ => by rw [e]; rfl) fun A outer s H vs Q E hr h => ?_
  obtain ⟨a, ns, rfl, hq, hn, hT, hQ⟩ := h
  let X := cxD P w K mg base N qual scope f cd A outer s H E
  let any : TS := fun D σ H' => ∃ C : DC, Ctx X C ∧ C.K = K ∧ C.T = T ∧ embS C t D σ H'
  have hany : PSs X body any := ⟨fun pins s' σ H' D I ⟨C, cx, hK, hT, q⟩ => (hb cd A outer s H E C hr cx hK hT hcd').run pins s' σ H' D I q⟩
  refine ⟨frzS any, pss_frz hany, ?_⟩
  have go : ∀ H0 : Hp, LamX.Tabs T H0 → SqF K H0 a (ns.map V.int) → any { nx := fun _ H' => Q .non H', rt := Q } (start N [.ref a]) H0 := by
    intro H0 tb hs
    let C : DC := ⟨K, nt H0, fun _ => False, fun _ _ _ => False, T⟩
    have cx : Ctx X C := by
      refine ⟨rfl, hw, rfl, S.nd, ?_, (fun cls d _ H => E cls d H), takes_of rfl rfl rfl rfl, fun cls d σ H' x σd' st' r hx he => he.elim⟩
      have := hr.un
      show (A.deeper (envOfC qual scope s.heap.objs.size f cd)).units + 100 < cLine
      omega
    refine ⟨C, cx, rfl, rfl, startD N [.kls (ns.map .int)], fun _ => none, { nx := fun _ st' => (fun (d : D) (_ : Sto) => d = .bl true) .non st', rt := fun d _ => d = .bl true }, ?_, ht ns (fun d _ => d = .bl true) hn (fun _ => rfl), ?_⟩
    · have hden := den_ns (K := K) (H := H0) ns
      refine rel_start rfl rfl (by funext b; simp [C]) (fun b o e => by cases e) tb (DenL.cons (.kls hs hden.1 hden.2) DenL.nil) hpl
    · exact ⟨fun σ' H' σd' st' r k q => (by cases q), fun v σ' H' d σd' st' r k hd q => by
        subst q
        cases hd
        exact hQ H', fun _ _ _ _ _ _ q => q.elim, fun _ _ _ _ _ _ q => q.elim⟩
  rcases hq with (hq | hq) | hq
  · refine .inr ⟨a, _, hq, trivial, fun o => go _ (tabs_k hT (TabK.put fun o' q => by rw [hq] at q; cases q; exact fun z => z)) (.inl ⟨o, upd_same⟩)⟩
  · exact .inl (go H hT (.inl hq))
  · exact .inl (go H hT (.inr hq))
end
/-! ### what is tested of the written part -/
def valsB : List Int → List Value → Bool
  | [], [] => true
  | i :: is, .int j _ :: vs => decide (i = j) && valsB is vs
  | _, _ => false
theorem vals_B : ∀ {is : List Int} {vs : List Value}, valsB is vs = true → Vals (is.map V.int) vs
  | [], [], _ => .nil
  | i :: is, .int j t :: vs, h => by
    unfold valsB at h
    rw [Bool.and_eq_true, decide_eq_true_eq] at h
    obtain ⟨rfl, h⟩ := h
    exact .cons ⟨t, rfl⟩ (vals_B h)
def tupB (K : PySem.W.Frag) (a : Addr) (is : List Int) : Bool := match K.lookup a with
  | some o => decide (o.cls = .type "tuple") && (o.dict.isNone && (match o.data with
    | .seq its _ => valsB is its.toList && decide (its.size ≤ 1000)
    | _ => false))
  | none => false
theorem tupF_of {K : PySem.W.Frag} {a : Addr} {is : List Int} (h : tupB K a is = true) (H : Hp) : TupF K H a (is.map V.int) := by
  unfold tupB at h
  split at h
  · rename_i o e
    rw [Bool.and_eq_true, Bool.and_eq_true, decide_eq_true_eq] at h
    obtain ⟨h1, h2, h3⟩ := h
    split at h3
    · rename_i its n ed
      rw [Bool.and_eq_true, decide_eq_true_eq] at h3
      refine .inr ⟨o, its, n, e, h1, ?_, ed, by rw [sizeLine_eq]; omega, vals_B h3.1⟩
      cases q : o.dict with
      | none => rfl
      | some _ => rw [q] at h2; cases h2
    · cases h3
  · cases h
theorem all_mem {α : Type} {l : List α} {p : α → Bool} (h : l.all p = true) {x : α} (hx : x ∈ l) : p x = true := List.all_eq_true.mp h x hx
end DL

set_option Elab.async false
set_option linter.all false
set_option maxRecDepth 100000
namespace LT
open PySem PySem.Spec PyProof.Rows L2 DL
variable [WW]
/-! ratios -/
abbrev Rt := Int × Int
abbrev rD (r : Rt) : D := .tup [.int r.1, .int r.2]
def toR : D → Option Rt
  | .tup [.int n, .int d] => some (n, d)
  | _ => none
theorem toR_eq {d : D} {r : Rt} (h : toR d = some r) : d = .tup [.int r.1, .int r.2] := by
  unfold toR at h
  split at h
  · cases h; rfl
  · cases h
theorem toR_tup (n d : Int) : toR (.tup [.int n, .int d]) = some (n, d) := rfl
def low (n d : Int) : Rt := (n / (Int.gcd n d : Int), d / (Int.gcd n d : Int))
/-- a ratio whose parts are small -/
def Okr (a : Rt) : Prop := 0 < a.2 ∧ a.2 < 4294967296 ∧ -18446744073709551616 < a.1 ∧ a.1 < 18446744073709551616
def sub (a b : Rt) : Rt := low (a.1 * b.2 - b.1 * a.2) (a.2 * b.2)
def add (a b : Rt) : Rt := low (a.1 * b.2 + b.1 * a.2) (a.2 * b.2)
def mul (a b : Rt) : Rt := low (a.1 * b.1) (a.2 * b.2)
def less (a b : Rt) : Bool := decide (a.1 * b.2 < b.1 * a.2)
theorem mulOk {a b : Int} (h1 : -18446744073709551616 < b) (h2 : b < 18446744073709551616) : IntMulOk a b := IntMulOk.of_right (intBits_le_64 h1 h2)
theorem pos_mul {a b : Int} (h1 : 0 < a) (h2 : 0 < b) (h3 : a < 4294967296) (h4 : b < 4294967296) : 0 < a * b ∧ a * b < 18446744073709551616 := by
  refine ⟨Int.mul_pos h1 h2, ?_⟩
  have : a * b ≤ 4294967295 * 4294967295 := Int.mul_le_mul (by omega) (by omega) (by omega) (by omega)
  omega
theorem div_ok {n d : Int} (g : Nat) (h : 0 < g) (hd : (g : Int) ≤ d) (hs : d < 18446744073709551616) : DivOk n g := by
  refine ⟨by omega, .inr ?_⟩
  have : (g : Int).natAbs < 2 ^ 64 := by omega
  have h2 := (Nat.log2_lt (by omega)).mpr this
  omega
theorem gcd_le {n d : Int} (h : 0 < d) : 0 < Int.gcd n d ∧ (Int.gcd n d : Int) ≤ d := by
  have h1 : 0 < Int.gcd n d := Int.gcd_pos_of_ne_zero_right n (by omega)
  exact ⟨h1, Int.le_of_dvd h (Int.gcd_dvd_right ..)⟩
theorem low_gcd {n d : Int} (h : 0 < d) : Int.gcd (low n d).1 (low n d).2 = 1 := Int.gcd_ediv_gcd_ediv_gcd (gcd_le h).1
theorem low_den {n d : Int} (h : 0 < d) : 0 < (low n d).2 ∧ (low n d).2 ≤ d := by
  obtain ⟨h1, h2⟩ := gcd_le (n := n) h
  have hd : (Int.gcd n d : Int) ∣ d := Int.gcd_dvd_right ..
  obtain ⟨c, hc⟩ := hd
  have e : (low n d).2 = c := by
    show d / (Int.gcd n d : Int) = c
    conv => lhs; lhs; rw [hc]
    exact Int.mul_ediv_cancel_left _ (by omega)
  rw [e]
  have hg : (1 : Int) ≤ (Int.gcd n d : Int) := by omega
  have hcp : 0 < c := by
    rcases Int.lt_trichotomy c 0 with z | z | z
    · have := Int.mul_neg_of_pos_of_neg (show (0 : Int) < (Int.gcd n d : Int) by omega) z; omega
    · rw [z, Int.mul_zero] at hc; omega
    · exact z
  refine ⟨hcp, ?_⟩
  have : 1 * c ≤ (Int.gcd n d : Int) * c := Int.mul_le_mul_of_nonneg_right hg (by omega)
  omega
/-- what low keeps -/
theorem low_val {n d : Int} (h : 0 < d) : (low n d).1 * (Int.gcd n d : Int) = n ∧ (low n d).2 * (Int.gcd n d : Int) = d :=
  ⟨Int.ediv_mul_cancel (Int.gcd_dvd_left ..), Int.ediv_mul_cancel (Int.gcd_dvd_right ..)⟩
theorem low_num {n d : Int} (h : 0 < d) : (0 ≤ n → 0 ≤ (low n d).1 ∧ (low n d).1 ≤ n) ∧ (n < 0 → (low n d).1 < 0 ∧ n ≤ (low n d).1) ∧ (0 < n → 0 < (low n d).1) := by
  obtain ⟨h1, _⟩ := gcd_le (n := n) h
  have e := (low_val (n := n) h).1
  generalize (low n d).1 = x at e
  have hg : (1 : Int) ≤ (Int.gcd n d : Int) := by omega
  generalize (Int.gcd n d : Int) = g at e hg
  refine ⟨fun hn => ?_, fun hn => ?_, fun hn => ?_⟩
  · have hx : 0 ≤ x := by
      rcases Int.lt_or_le x 0 with z | z
      · have := Int.mul_neg_of_neg_of_pos z (show 0 < g by omega); omega
      · exact z
    have : x * 1 ≤ x * g := Int.mul_le_mul_of_nonneg_left hg hx
    omega
  · have hx : x < 0 := by
      rcases Int.lt_or_le x 0 with z | z
      · exact z
      · have := Int.mul_nonneg z (show 0 ≤ g by omega); omega
    have : (-x) * 1 ≤ (-x) * g := Int.mul_le_mul_of_nonneg_left hg (by omega)
    simp only [Int.neg_mul] at this
    omega
  · rcases Int.lt_trichotomy x 0 with z | z | z
    · have := Int.mul_neg_of_neg_of_pos z (show 0 < g by omega); omega
    · rw [z, Int.zero_mul] at e; omega
    · exact z
/-- a small amount in lowest terms -/
structure Gd (a : Rt) : Prop where
  d0 : 0 < a.2
  d1 : a.2 ≤ 8
  n0 : 0 ≤ a.1
  n1 : a.1 ≤ 1000
  g : Int.gcd a.1 a.2 = 1
theorem Gd.ok {a : Rt} (h : Gd a) : Okr a := ⟨h.d0, by have := h.d1; omega, by have := h.n0; omega, by have := h.n1; omega⟩
theorem gd_low {n d : Int} (h0 : 0 < d) (h1 : d ≤ 8) (h2 : 0 ≤ n) (h3 : n ≤ 1000) : Gd (low n d) := by
  obtain ⟨a1, a2⟩ := low_den (n := n) h0
  obtain ⟨b1, b2⟩ := (low_num (n := n) h0).1 h2
  exact ⟨a1, by omega, b1, by omega, low_gcd h0⟩
/-- a share -/
def Gs (a : Rt) : Prop := Gd a ∧ a.2 ≤ 2 ∧ a.1 ≤ 100
theorem gs_low {n d : Int} (h0 : 0 < d) (h1 : d ≤ 2) (h2 : 0 ≤ n) (h3 : n ≤ 100) : Gs (low n d) := by
  obtain ⟨a1, a2⟩ := low_den (n := n) h0
  obtain ⟨b1, b2⟩ := (low_num (n := n) h0).1 h2
  exact ⟨gd_low h0 (by omega) h2 (by omega), by omega, by omega⟩
/-- a ratio of middle size -/
def Md (a : Rt) : Prop := 0 < a.2 ∧ a.2 ≤ 64 ∧ -100000 ≤ a.1 ∧ a.1 ≤ 100000
theorem Md.ok {a : Rt} (h : Md a) : Okr a := by obtain ⟨h1, h2, h3, h4⟩ := h; exact ⟨h1, by omega, by omega, by omega⟩
theorem Gd.md {a : Rt} (h : Gd a) : Md a := by obtain ⟨h1, h2, h3, h4, _⟩ := h; exact ⟨h1, by omega, by omega, by omega⟩
theorem abs_low {n d B : Int} (h : 0 < d) (h1 : -B ≤ n) (h2 : n ≤ B) : -B ≤ (low n d).1 ∧ (low n d).1 ≤ B := by
  obtain ⟨a, b, _⟩ := low_num (n := n) h
  rcases Int.lt_or_le n 0 with z | z
  · have := b z; omega
  · have := a z; omega
theorem mul_le_of {a b A B : Int} (h0 : 0 ≤ a) (h1 : a ≤ A) (h2 : 0 ≤ b) (h3 : b ≤ B) : 0 ≤ a * b ∧ a * b ≤ A * B :=
  ⟨Int.mul_nonneg h0 h2, Int.mul_le_mul h1 h3 h2 (by omega)⟩
theorem md_sub {a b : Rt} (ha : Gd a) (hb : Gd b) : Md (sub a b) := by
  obtain ⟨a1, a2, a3, a4, _⟩ := ha
  obtain ⟨b1, b2, b3, b4, _⟩ := hb
  have e1 := mul_le_of a3 a4 (show 0 ≤ b.2 by omega) b2
  have e2 := mul_le_of b3 b4 (show 0 ≤ a.2 by omega) a2
  have e3 := mul_le_of (show 0 ≤ a.2 by omega) a2 (show 0 ≤ b.2 by omega) b2
  have hp := Int.mul_pos a1 b1
  obtain ⟨l1, l2⟩ := low_den (n := a.1 * b.2 - b.1 * a.2) hp
  obtain ⟨l3, l4⟩ := abs_low (n := a.1 * b.2 - b.1 * a.2) (B := 100000) hp (by omega) (by omega)
  exact ⟨l1, by show _ ≤ (64 : Int); unfold sub; omega, l3, l4⟩
/-! the sign of a difference -/
theorem sub_neg_iff {a b : Rt} (ha : 0 < a.2) (hb : 0 < b.2) : (sub a b).1 < 0 ↔ a.1 * b.2 < b.1 * a.2 := by
  have hp := Int.mul_pos ha hb
  obtain ⟨l1, l2, _⟩ := low_num (n := a.1 * b.2 - b.1 * a.2) hp
  unfold sub
  constructor
  · intro h
    rcases Int.lt_or_le (a.1 * b.2 - b.1 * a.2) 0 with z | z
    · omega
    · have := l1 z; omega
  · intro h
    exact (l2 (by omega)).1
theorem sub_pos_iff {a b : Rt} (ha : 0 < a.2) (hb : 0 < b.2) : 0 < (sub a b).1 ↔ b.1 * a.2 < a.1 * b.2 := by
  have hp := Int.mul_pos ha hb
  obtain ⟨l1, l2, l3⟩ := low_num (n := a.1 * b.2 - b.1 * a.2) hp
  unfold sub
  constructor
  · intro h
    rcases Int.lt_trichotomy (a.1 * b.2 - b.1 * a.2) 0 with z | z | z
    · have := l2 z; omega
    · have := l1 (by omega); omega
    · omega
  · intro h
    exact l3 (by omega)
/-! lots -/
def lotsG (k : Int) : Nat → List (List Int)
  | 0 => []
  | m + 1 => [k] :: ((lotsG (k + 1) m).map (k :: ·) ++ lotsG (k + 1) m)
/-- all lots of so many people -/
def lots (p : Nat) : List (List Int) := lotsG 0 p
theorem mem_lotsG : ∀ (m : Nat) (k : Int) (l : List Int), l ∈ lotsG k m ↔ l ≠ [] ∧ l.Pairwise (· < ·) ∧ ∀ i ∈ l, k ≤ i ∧ i < k + m
  | 0, k, l => by
    constructor
    · intro h; cases h
    · intro ⟨h1, _, h3⟩
      cases l with
      | nil => exact absurd rfl h1
      | cons x t => have := h3 x List.mem_cons_self; omega
  | m + 1, k, l => by
    simp only [lotsG, List.mem_cons, List.mem_append, List.mem_map, mem_lotsG m (k + 1)]
    constructor
    · rintro (rfl | ⟨t, ⟨h1, h2, h3⟩, rfl⟩ | ⟨h1, h2, h3⟩)
      · refine ⟨by simp, by simp, fun i hi => ?_⟩
        rw [List.mem_singleton.mp hi]; omega
      · refine ⟨by simp, List.pairwise_cons.mpr ⟨fun y hy => by have := h3 y hy; omega, h2⟩, fun i hi => ?_⟩
        rcases List.mem_cons.mp hi with rfl | hi
        · omega
        · have := h3 i hi; omega
      · exact ⟨h1, h2, fun i hi => by have := h3 i hi; omega⟩
    · intro ⟨h1, h2, h3⟩
      cases l with
      | nil => exact absurd rfl h1
      | cons x t =>
        obtain ⟨q1, q2⟩ := List.pairwise_cons.mp h2
        have hx := h3 x List.mem_cons_self
        by_cases e : x = k
        · subst e
          cases t with
          | nil => exact .inl rfl
          | cons y u =>
            refine .inr (.inl ⟨y :: u, ⟨by simp, q2, fun i hi => ?_⟩, rfl⟩)
            have := q1 i hi
            have := h3 i (List.mem_cons_of_mem _ hi)
            omega
        · refine .inr (.inr ⟨by simp, h2, fun i hi => ?_⟩)
          rcases List.mem_cons.mp hi with rfl | hi'
          · omega
          · have := q1 i hi'
            have := h3 i hi
            omega
theorem mem_lots {p : Nat} {l : List Int} : l ∈ lots p ↔ l ≠ [] ∧ l.Pairwise (· < ·) ∧ ∀ i ∈ l, 0 ≤ i ∧ i < p := by
  unfold lots; rw [mem_lotsG]
  simp
theorem lots_filter {p : Nat} {l : List Int} (h : l ∈ lots p) (f : Int → Bool) (hn : l.filter f ≠ []) : l.filter f ∈ lots p := by
  obtain ⟨_, h2, h3⟩ := mem_lots.mp h
  exact mem_lots.mpr ⟨hn, h2.filter f, fun i hi => h3 i (List.mem_filter.mp hi).1⟩
theorem lots_len {p : Nat} (h : p ≤ 4) : (lots p).length ≤ 15 ∧ ∀ l ∈ lots p, l.length ≤ 4 ∧ l ≠ [] := by
  have : p = 0 ∨ p = 1 ∨ p = 2 ∨ p = 3 ∨ p = 4 := by omega
  rcases this with rfl | rfl | rfl | rfl | rfl <;> decide
theorem lot_len {p : Nat} (h : p ≤ 4) : ∀ l ∈ lots p, l.length ≤ p := by
  have : p = 0 ∨ p = 1 ∨ p = 2 ∨ p = 3 ∨ p = 4 := by omega
  rcases this with rfl | rfl | rfl | rfl | rfl <;> decide
def people (p : Nat) : List Int := (List.range p).map fun i : Nat => (i : Int)
theorem people_lot {p : Nat} (h : 1 ≤ p) : people p ∈ lots p := by
  refine mem_lots.mpr ⟨?_, ?_, fun i hi => ?_⟩
  · intro e
    have := congrArg List.length e
    simp [people] at this
    omega
  · unfold people
    rw [List.pairwise_map]
    exact List.pairwise_lt_range.imp fun h => by omega
  · unfold people at hi
    obtain ⟨j, hj, rfl⟩ := List.mem_map.mp hi
    have := List.mem_range.mp hj
    omega
def fnd : Nat → List (List Int)
  | 0 => [[]]
  | k + 1 => fnd k ++ (fnd k).map (· ++ [(k : Int)])
section
variable [WW]
theorem lots_end {p : Nat} (h : p ≤ 4) {Q : D → Prop} (q : Q (.lst ((lots p).map iL))) : SortOk ((fnd p).map iL) ∧ Q (.lst (cut (sortD ((fnd p).map iL)) (some 1) none)) := by
  have e : sortD ((fnd p).map iL) = ([] :: lots p).map iL := by
    have : (fnd p).Perm ([] :: lots p) ∧ ([] :: lots p).Pairwise (fun a b => (!ltI b a) = true) := by
      have : p = 0 ∨ p = 1 ∨ p = 2 ∨ p = 3 ∨ p = 4 := by omega
      rcases this with rfl | rfl | rfl | rfl | rfl <;> decide
    exact sortD_iL this.1 (by simpa only [dle_iL] using this.2)
  refine ⟨sortOk_iL (.inr ?_), ?_⟩
  · have : p = 0 ∨ p = 1 ∨ p = 2 ∨ p = 3 ∨ p = 4 := by omega
    rcases this with rfl | rfl | rfl | rfl | rfl <;> exact ⟨_, rfl⟩
  · rw [e, List.map_cons, cut_tail]; exact q
end
/-- so many people, 1 to 4 -/
def toP : D → Option Nat
  | .int i => if 1 ≤ i ∧ i ≤ 4 then some i.toNat else none
  | _ => none
theorem toP_eq {d : D} {p : Nat} (h : toP d = some p) : d = .int (p : Int) ∧ 1 ≤ p ∧ p ≤ 4 := by
  unfold toP at h
  split at h
  · split at h
    · cases h
      refine ⟨?_, by omega, by omega⟩
      congr 1; omega
    · cases h
  · cases h
theorem toP_nat {p : Nat} (h1 : 1 ≤ p) (h2 : p ≤ 4) : toP (.int (p : Int)) = some p := by
  unfold toP
  dsimp only
  rw [if_pos (by omega)]; rfl
def intsOf : List D → Option (List Int)
  | [] => some []
  | .int i :: r => (intsOf r).map (i :: ·)
  | _ => none
theorem intsOf_map : ∀ l : List Int, intsOf (l.map .int) = some l
  | [] => rfl
  | x :: xs => by simp [intsOf, intsOf_map xs]
theorem intsOf_eq : ∀ {ds : List D} {l : List Int}, intsOf ds = some l → ds = l.map .int
  | [], l, h => by cases h; rfl
  | d :: ds, l, h => by
    cases d <;> first | (cases h; done) | skip
    obtain ⟨l', e1, rfl⟩ := Option.map_eq_some_iff.mp (show (intsOf ds).map _ = some l from h)
    rw [intsOf_eq e1]; rfl
/-- a tuple of numbers -/
def toL : D → Option (List Int)
  | .tup ds => intsOf ds
  | _ => none
theorem toL_eq {d : D} {l : List Int} (h : toL d = some l) : d = iL l := by
  cases d <;> first | (cases h; done) | skip
  rw [intsOf_eq (show intsOf _ = some l from h)]
theorem toL_tup (ds : List D) : toL (.tup ds) = intsOf ds := rfl
/-! shares -/
def nk (l : List Int) : NK := .tup (l.map .num)
theorem nkDs_ints : ∀ l : List Int, nkDs (l.map .int) = some (l.map .num)
  | [] => rfl
  | x :: xs => by simp [nkDs, nkD, nkDs_ints xs]
theorem depth_nums : ∀ l : List Int, NestedKey.depthAll (l.map .num) = 0
  | [] => rfl
  | x :: xs => by simp [NestedKey.depthAll, NestedKey.depth, depth_nums xs]
theorem keyT_iL (l : List Int) : keyT (.tup (l.map .int)) = some (nk l) := by
  show (nkDs (l.map .int)).bind _ = _
  rw [nkDs_ints]
  show fitK _ = _
  unfold fitK
  rw [if_pos (by rw [NestedKey.depth, depth_nums]; omega)]; rfl
theorem skDs_ints : ∀ l : List Int, skDs (l.map .int) = some (l.map .num)
  | [] => rfl
  | x :: xs => by simp [skDs, skD, skDs_ints xs]
theorem keyS_iL (l : List Int) : keyS (.tup (l.map .int)) = some (nk l) := by
  show (skDs (l.map .int)).bind _ = _
  rw [skDs_ints]
  show fitK _ = _
  unfold fitK
  rw [if_pos (by rw [NestedKey.depth, depth_nums]; omega)]; rfl
theorem ofNK_nk (l : List Int) : ofNK (nk l) = iL l := by
  unfold nk
  rw [ofNK, ofNKs_map, List.map_map]
  rfl
theorem nk_inj {a b : List Int} (h : nk a = nk b) : a = b := by
  unfold nk at h
  injection h with h
  exact List.map_inj_right (fun x y h => by injection h) |>.mp h
theorem getK_map {β : Type} (g : β → List Int) (f : β → D) : ∀ (ls : List β) (b : β), b ∈ ls → (∀ a ∈ ls, g a = g b → a = b) → getK (ls.map fun l => (nk (g l), f l)) (nk (g b)) = some (f b)
  | [], b, h, _ => absurd h (by simp)
  | a :: ls, b, h, hi => by
    rw [List.map_cons, getK]
    by_cases e : g a = g b
    · rw [if_pos (by rw [e])]
      rw [hi a List.mem_cons_self e]
    · rw [if_neg (fun z => e (nk_inj z))]
      refine getK_map g f ls b ?_ fun a ha => hi a (List.mem_cons_of_mem _ ha)
      rcases List.mem_cons.mp h with rfl | h
      · exact absurd rfl e
      · exact h
theorem getK_lot (f : List Int → D) {ls : List (List Int)} {l : List Int} (h : l ∈ ls) : getK (ls.map fun l => (nk l, f l)) (nk l) = some (f l) := getK_map (fun l => l) f ls l h fun _ _ h => h
def shD (ls : List (List Int)) (sh : List Int → List Rt) : D := .dT (ls.map fun l => (nk l, .tup ((sh l).map rD)))
def ShOk (p : Nat) (sh : List Int → List Rt) : Prop := ∀ l ∈ lots p, (sh l).length = l.length ∧ ∀ r ∈ sh l, Gs r
/-- shares of all lots, in any order -/
def IsSh (p : Nat) (S : D) : Prop := ∃ ls sh, ls.Perm (lots p) ∧ ShOk p sh ∧ S = shD ls sh
def rts (ds : List D) : List Rt := ds.map fun d => (toR d).getD (0, 1)
theorem rts_map (l : List Rt) : rts (l.map rD) = l := by
  unfold rts
  rw [List.map_map]
  conv => rhs; rw [← List.map_id l]
  rfl
def shr (S : D) (l : List Int) : List Rt := match S with
  | .dT kvs => match getK kvs (nk l) with
    | some (.tup ds) => rts ds
    | _ => []
  | _ => []
theorem shr_D {ls : List (List Int)} {sh : List Int → List Rt} {l : List Int} (h : l ∈ ls) : shr (shD ls sh) l = sh l := by
  unfold shr shD
  dsimp only
  rw [getK_lot (fun l => D.tup ((sh l).map rD)) h]
  exact rts_map _
/-- what i pays in l -/
def shareAt (S : D) (l : List Int) (i : Int) : Rt := (shr S l).getD (l.idxOf i) (0, 1)
section
variable {p : Nat} {S : D} {l : List Int} {k : D → Prop}
theorem IsSh.nod (h : IsSh p S) : nod S := by obtain ⟨ls, sh, _, _, rfl⟩ := h; trivial
theorem IsSh.ty (h : IsSh p S) : tyE S = some .dct := by obtain ⟨ls, sh, _, _, rfl⟩ := h; rfl
theorem IsSh.ix (h : IsSh p S) (hl : l ∈ lots p) : ixD S (.tup (l.map .int)) k = k (.tup ((shr S l).map rD)) := by
  obtain ⟨ls, sh, hp, _, rfl⟩ := h
  have hl := hp.symm.subset hl
  rw [shr_D hl]
  unfold shD
  rw [z_ixDT, keyT_iL, z_oG1, getK_lot (fun l => D.tup ((sh l).map rD)) hl, z_oG1]
theorem IsSh.getK {kvs : List (NK × D)} (h : IsSh p (.dT kvs)) (hl : l ∈ lots p) : getK kvs (nk l) = some (.tup ((shr (.dT kvs) l).map rD)) := by
  obtain ⟨ls, sh, hp, _, e⟩ := h
  have hl := hp.symm.subset hl
  rw [e, shr_D hl]
  injection e with e
  rw [e]
  exact getK_lot (fun l => D.tup ((sh l).map rD)) hl
theorem IsSh.len (h : IsSh p S) : lenD S k = k (.int ((lots p).length : Int)) := by
  obtain ⟨ls, sh, hp, _, rfl⟩ := h
  unfold shD
  rw [z_lenDT, z_lt, List.length_map, hp.length_eq]
theorem IsSh.walk (h : IsSh p S) : ∃ ls : List (List Int), ls.Perm (lots p) ∧ ∀ q : List D → Prop, walkOf S q = q (ls.map iL) := by
  obtain ⟨ls, sh, hp, _, rfl⟩ := h
  refine ⟨ls, hp, fun q => ?_⟩
  unfold shD
  rw [z_walkD, z_lt, List.map_map]
  congr 1
  apply List.map_congr_left
  intro l _
  exact ofNK_nk l
theorem IsSh.lenAt (h : IsSh p S) (hl : l ∈ lots p) : (shr S l).length = l.length := by
  obtain ⟨ls, sh, hp, ok, rfl⟩ := h
  rw [shr_D (hp.symm.subset hl)]; exact (ok l hl).1
theorem IsSh.gsAt (h : IsSh p S) (hl : l ∈ lots p) : ∀ r ∈ shr S l, Gs r := by
  obtain ⟨ls, sh, hp, ok, rfl⟩ := h
  rw [shr_D (hp.symm.subset hl)]; exact (ok l hl).2
theorem IsSh.gdAt (h : IsSh p S) (hl : l ∈ lots p) : ∀ r ∈ shr S l, Gd r := fun r hr => (h.gsAt hl r hr).1
theorem IsSh.get (h : IsSh p S) (hl : l ∈ lots p) {i : Int} (hi : i ∈ l) : (shr S l)[l.idxOf i]? = some (shareAt S l i) := by
  unfold shareAt
  have hj : l.idxOf i < (shr S l).length := by rw [h.lenAt hl]; exact List.idxOf_lt_length_of_mem hi
  rw [List.getD_eq_getElem?_getD, List.getElem?_eq_getElem hj]; rfl
theorem IsSh.gs (h : IsSh p S) (hl : l ∈ lots p) {i : Int} (hi : i ∈ l) : Gs (shareAt S l i) := h.gsAt hl _ (List.mem_of_getElem? (h.get hl hi))
theorem IsSh.gd (h : IsSh p S) (hl : l ∈ lots p) {i : Int} (hi : i ∈ l) : Gd (shareAt S l i) := h.gdAt hl _ (List.mem_of_getElem? (h.get hl hi))
end
theorem idx_of_mem {l : List Int} {i : Int} (h : i ∈ l) : l.findIdx? (fun y => decide (y = i)) = some (l.idxOf i) := by
  have e : (fun y : Int => decide (y = i)) = fun y => y == i := by funext y; rw [Bool.eq_iff_iff]; simp
  rw [e]
  have := List.idxOf_lt_length_of_mem h
  rw [List.findIdx?_eq_some_iff_findIdx_eq]
  exact ⟨this, rfl⟩
/-! bids -/
def bD (p : Nat) (f : Int → Rt) : D := .tup ((people p).map fun i => rD (f i))
def IsB (p : Nat) (B : D) : Prop := ∃ f : Int → Rt, (∀ i : Int, 0 ≤ i → i < p → Gd (f i)) ∧ B = bD p f
def bid (B : D) (i : Int) : Rt := match B with
  | .tup ds => match atI ds i with
    | some d => (toR d).getD (0, 1)
    | none => (0, 1)
  | _ => (0, 1)
theorem at_people {p : Nat} {i : Int} (h0 : 0 ≤ i) (h1 : i < p) : atI (people p) i = some i := by
  obtain ⟨n, rfl⟩ : ∃ n : Nat, i = n := ⟨i.toNat, by omega⟩
  rw [at_nat]
  unfold people
  rw [List.getElem?_map, List.getElem?_range (by omega)]; rfl
theorem bid_D {p : Nat} {f : Int → Rt} {i : Int} (h0 : 0 ≤ i) (h1 : i < p) : bid (bD p f) i = f i := by
  unfold bid bD
  dsimp only
  rw [at_map, at_people h0 h1]; rfl
theorem bD_congr {p : Nat} {f g : Int → Rt} (h : ∀ i : Int, 0 ≤ i → i < p → f i = g i) : bD p f = bD p g := by
  unfold bD
  congr 1
  apply List.map_congr_left
  intro i hi
  unfold people at hi
  obtain ⟨j, hj, rfl⟩ := List.mem_map.mp hi
  have := List.mem_range.mp hj
  rw [h j (by omega) (by omega)]
section
variable {p : Nat} {B : D} {k : D → Prop} {i : Int}
theorem IsB.nod (h : IsB p B) : nod B := by obtain ⟨f, _, rfl⟩ := h; trivial
theorem IsB.ty (h : IsB p B) : tyE B = some .tup := by obtain ⟨f, _, rfl⟩ := h; rfl
theorem IsB.eq (h : IsB p B) : B = bD p (bid B) := by
  obtain ⟨f, _, rfl⟩ := h
  exact bD_congr fun i h0 h1 => (bid_D h0 h1).symm
theorem IsB.gd (h : IsB p B) (h0 : 0 ≤ i) (h1 : i < p) : Gd (bid B i) := by
  obtain ⟨f, ok, rfl⟩ := h
  rw [bid_D h0 h1]; exact ok i h0 h1
theorem IsB.ix (h : IsB p B) (h0 : 0 ≤ i) (h1 : i < p) : ixD B (.int i) k = k (rD (bid B i)) := by
  obtain ⟨f, ok, rfl⟩ := h
  rw [bid_D h0 h1]
  unfold bD
  rw [z_ixT, at_map, at_people h0 h1]; rfl
theorem IsB.mk' {f : Int → Rt} (h : ∀ i : Int, 0 ≤ i → i < p → Gd (f i)) : IsB p (bD p f) := ⟨f, h, rfl⟩
end
/-! who is served -/
def stay (S : D) (b : Int → Rt) (l : List Int) : List Int := l.filter fun i => !less (b i) (shareAt S l i)
def itS (S : D) (b : Int → Rt) (l : List Int) : Nat → List Int
  | 0 => l
  | n + 1 => stay S b (itS S b l n)
/-- who is served -/
def served (p : Nat) (S : D) (b : Int → Rt) : List Int := itS S b (people p) (p + 1)
theorem stay_len {S : D} {b : Int → Rt} (l : List Int) : stay S b l = l ∨ (stay S b l).length < l.length := by
  by_cases h : stay S b l = l
  · exact .inl h
  · refine .inr ?_
    rcases Nat.lt_or_ge (stay S b l).length l.length with z | z
    · exact z
    · exact absurd (List.Sublist.eq_of_length_le (List.filter_sublist) z) h
theorem it_fix {S : D} {b : Int → Rt} {l : List Int} {n : Nat} (h : stay S b (itS S b l n) = itS S b l n) : ∀ m, itS S b l (n + m) = itS S b l n
  | 0 => rfl
  | m + 1 => by
    show stay S b (itS S b l (n + m)) = _
    rw [it_fix h m, h]
theorem it_len {S : D} {b : Int → Rt} (l : List Int) : ∀ n, stay S b (itS S b l n) = itS S b l n ∨ (itS S b l n).length + n ≤ l.length
  | 0 => .inr (Nat.le_refl _)
  | n + 1 => by
    rcases it_len l n with h | h
    · refine .inl ?_
      show stay S b (stay S b _) = stay S b _
      rw [h, h]
    · rcases stay_len (S := S) (b := b) (itS S b l n) with z | z
      · refine .inl ?_
        show stay S b (stay S b _) = stay S b _
        rw [z, z]
      · refine .inr ?_
        show (stay S b (itS S b l n)).length + (n + 1) ≤ _
        omega
theorem people_len (p : Nat) : (people p).length = p := by simp [people]
theorem served_p {p : Nat} {S : D} {b : Int → Rt} : stay S b (itS S b (people p) p) = itS S b (people p) p := by
  rcases it_len (S := S) (b := b) (people p) p with h | h
  · exact h
  · rw [people_len] at h
    have : itS S b (people p) p = [] := List.length_eq_zero_iff.mp (by omega)
    rw [this]; rfl
theorem served_eq {p : Nat} {S : D} {b : Int → Rt} : served p S b = itS S b (people p) p := served_p
theorem served_fix {p : Nat} {S : D} {b : Int → Rt} : stay S b (served p S b) = served p S b := by rw [served_eq]; exact served_p
theorem served_of_fix {p : Nat} {S : D} {b : Int → Rt} {k : Nat} (h : stay S b (itS S b (people p) k) = itS S b (people p) k) : itS S b (people p) k = served p S b := by
  rw [served_eq]
  rcases Nat.le_total k p with z | z
  · have := it_fix h (p - k)
    rw [← this]; congr 1; omega
  · have := it_fix (served_p (p := p) (S := S) (b := b)) (k - p)
    rw [← this]; congr 1; omega
theorem stay_lot {p : Nat} {S : D} {b : Int → Rt} {l : List Int} (h : l ∈ lots p ∨ l = []) : stay S b l ∈ lots p ∨ stay S b l = [] := by
  rcases h with h | rfl
  · by_cases e : stay S b l = []
    · exact .inr e
    · exact .inl (lots_filter h _ e)
  · exact .inr rfl
theorem it_lot {p : Nat} {S : D} {b : Int → Rt} {l : List Int} (h : l ∈ lots p ∨ l = []) : ∀ n, itS S b l n ∈ lots p ∨ itS S b l n = []
  | 0 => h
  | n + 1 => stay_lot (it_lot h n)
theorem served_lot {p : Nat} {S : D} {b : Int → Rt} (h : 1 ≤ p) : served p S b ∈ lots p ∨ served p S b = [] := it_lot (.inl (people_lot h)) _
theorem mem_lot {p : Nat} {l : List Int} (h : l ∈ lots p) {i : Int} (hi : i ∈ l) : 0 ≤ i ∧ i < p := (mem_lots.mp h).2.2 i hi
theorem served_mem {p : Nat} {S : D} {b : Int → Rt} (h : 1 ≤ p) {i : Int} (hi : i ∈ served p S b) : served p S b ∈ lots p ∧ 0 ≤ i ∧ i < p := by
  rcases served_lot (S := S) (b := b) h with z | z
  · exact ⟨z, mem_lot z hi⟩
  · rw [z] at hi; cases hi
theorem mem_people {p : Nat} {i : Int} : i ∈ people p ↔ 0 ≤ i ∧ i < p := by
  unfold people
  simp only [List.mem_map, List.mem_range]
  constructor
  · rintro ⟨j, h, rfl⟩; omega
  · intro ⟨h0, h1⟩; exact ⟨i.toNat, by omega, by omega⟩
theorem range_people (p : Nat) : rangeL 0 p = (people p).map .int := rangeL_map p
theorem IsSh.zip {p : Nat} {S : D} {l : List Int} (h : IsSh p S) (hl : l ∈ lots p) : List.zipWith (fun x y => D.tup [x, y]) (l.map .int) ((shr S l).map rD) = l.map fun i => D.tup [.int i, rD (shareAt S l i)] := by
  apply List.ext_getElem?
  intro j
  rw [List.getElem?_zipWith, List.getElem?_map, List.getElem?_map, List.getElem?_map]
  rcases Nat.lt_or_ge j l.length with z | z
  · have e1 : l[j]? = some l[j] := List.getElem?_eq_getElem z
    have hn : l.Nodup := (mem_lots.mp hl).2.1.imp (fun h => by omega)
    have e2 : l.idxOf l[j] = j := hn.idxOf_getElem j z
    have e3 := h.get hl (List.getElem_mem z)
    rw [e2] at e3
    rw [e1, e3]; rfl
  · rw [List.getElem?_eq_none (by omega)]; simp
def paid (p : Nat) (S : D) (b : Int → Rt) (i : Int) : Rt := if i ∈ served p S b then shareAt S (served p S b) i else (0, 1)
/-- what i has -/
def hasAt (p : Nat) (S : D) (w b : Int → Rt) (i : Int) : Rt := if i ∈ served p S b then sub (w i) (shareAt S (served p S b) i) else (0, 1)
theorem gd_zero : Gd (0, 1) := ⟨by decide, by decide, by decide, by decide, by decide⟩
theorem paid_gd {p : Nat} {S : D} {b : Int → Rt} (hS : IsSh p S) (h1 : 1 ≤ p) (i : Int) : Gd (paid p S b i) := by
  unfold paid
  split
  · rename_i h
    exact hS.gd (served_mem h1 h).1 h
  · exact gd_zero
theorem has_md {p : Nat} {S : D} {w b : Int → Rt} (hS : IsSh p S) (h1 : 1 ≤ p) (hw : ∀ i : Int, 0 ≤ i → i < p → Gd (w i)) (i : Int) : Md (hasAt p S w b i) := by
  unfold hasAt
  split
  · rename_i h
    obtain ⟨a1, a2, a3⟩ := served_mem h1 h
    exact md_sub (hw i a2 a3) (hS.gd a1 h)
  · exact gd_zero.md
/-! what a lot bids -/
def IsL (l : List Int) (B : D) : Prop := ∃ f : Int → Rt, (∀ i ∈ l, Gd (f i)) ∧ B = .tup (l.map fun i => rD (f i))
def bidL (l : List Int) (B : D) (i : Int) : Rt := match B with
  | .tup ds => match ds[l.idxOf i]? with
    | some d => (toR d).getD (0, 1)
    | none => (0, 1)
  | _ => (0, 1)
theorem at_idx {l : List Int} {i : Int} (h : i ∈ l) : l[l.idxOf i]? = some i := by
  have hj := List.idxOf_lt_length_of_mem h
  rw [List.getElem?_eq_getElem hj, List.getElem_idxOf hj]
theorem bidL_D {l : List Int} {f : Int → Rt} {i : Int} (h : i ∈ l) : bidL l (.tup (l.map fun i => rD (f i))) i = f i := by
  unfold bidL
  dsimp only
  rw [List.getElem?_map, at_idx h]; rfl
section
variable {l : List Int} {B : D} {i : Int} {k : D → Prop}
theorem IsL.nod (h : IsL l B) : nod B := by obtain ⟨f, _, rfl⟩ := h; trivial
theorem IsL.gd (h : IsL l B) (hi : i ∈ l) : Gd (bidL l B i) := by
  obtain ⟨f, ok, rfl⟩ := h
  rw [bidL_D hi]; exact ok i hi
theorem IsL.ix (h : IsL l B) (hi : i ∈ l) : ixD B (.int (l.idxOf i : Nat)) k = k (rD (bidL l B i)) := by
  obtain ⟨f, ok, rfl⟩ := h
  rw [bidL_D hi, z_ixT, at_nat, List.getElem?_map, at_idx hi]; rfl
end
/-- what is told, if a lot lies -/
def toldD (p : Nat) (l : List Int) (b w : Int → Rt) : D := bD p fun i => if i ∈ l then b i else w i
def gain (p : Nat) (S : D) (w t : Int → Rt) (i : Int) : Rt := sub (hasAt p S w t i) (hasAt p S w w i)
theorem told_is {p : Nat} {l : List Int} {b w : Int → Rt} (hb : ∀ i ∈ l, Gd (b i)) (hw : ∀ i : Int, 0 ≤ i → i < p → Gd (w i)) : IsB p (toldD p l b w) := by
  refine IsB.mk' fun i h0 h1 => ?_
  by_cases h : i ∈ l
  · rw [if_pos h]; exact hb i h
  · rw [if_neg h]; exact hw i h0 h1
theorem putKD_new {kvs : List (NK × D)} {k : NK} {d : D} (h : ∀ x ∈ kvs, x.1 ≠ k) : putKD kvs k d = kvs ++ [(k, d)] := by
  unfold putKD
  rw [if_neg]
  intro z
  rw [List.any_eq_true] at z
  obtain ⟨x, hx, e⟩ := z
  exact h x hx (of_decide_eq_true e)
theorem putKD_lots (f : List Int → D) {ls : List (List Int)} {l : List Int} (h : l ∈ ls) (d : D) : putKD (ls.map fun l => (nk l, f l)) (nk l) d = ls.map fun l' => (nk l', if l' = l then d else f l') := by
  unfold putKD
  rw [if_pos]
  · rw [List.map_map]
    apply List.map_congr_left
    intro l' _
    simp only [Function.comp]
    by_cases e : l' = l
    · rw [if_pos (by rw [e]), if_pos e]
    · rw [if_neg (fun z => e (nk_inj z)), if_neg e]
  · rw [List.any_eq_true]
    exact ⟨(nk l, f l), List.mem_map.mpr ⟨l, h, rfl⟩, decide_eq_true rfl⟩
theorem lots_nodup {p : Nat} (h : p ≤ 4) : (lots p).Nodup := by
  have : p = 0 ∨ p = 1 ∨ p = 2 ∨ p = 3 ∨ p = 4 := by omega
  rcases this with rfl | rfl | rfl | rfl | rfl <;> decide
/-- shares of the first lots -/
def ShTo (p i : Nat) (x : Sl) : Prop := ∃ sh : List Int → List Rt, (∀ l ∈ (lots p).take i, (sh l).length = l.length ∧ ∀ r ∈ sh l, Gs r) ∧ x = .ot (((lots p).take i).map fun l => (nk l, D.tup ((sh l).map rD)))
theorem shTo_0 (p : Nat) : ShTo p 0 (.ot []) := ⟨fun _ => [], fun l h => by simp at h, by simp⟩
theorem shTo_put {p i : Nat} {kvs : List (NK × D)} {l : List Int} {rs : List Rt} (h4 : p ≤ 4) (h : ShTo p i (.ot kvs)) (hl : (lots p)[i]? = some l) (h1 : rs.length = l.length) (h2 : ∀ r ∈ rs, Gs r) : ShTo p (i + 1) (.ot (putKD kvs (nk l) (.tup (rs.map rD)))) := by
  obtain ⟨sh, ok, e⟩ := h
  injection e with e
  have ht : (lots p).take (i + 1) = (lots p).take i ++ [l] := by rw [List.take_add_one, hl]; rfl
  have hi : i < (lots p).length := (List.getElem?_eq_some_iff.mp hl).1
  have nin : l ∉ (lots p).take i := by
    intro z
    have hd := lots_nodup h4
    obtain ⟨j, hj, ej⟩ := List.mem_take_iff_getElem.mp z
    have e1 := hd.idxOf_getElem i hi
    have e2 := hd.idxOf_getElem j (by omega)
    rw [ej] at e2
    have e3 : (lots p)[i] = l := by
      rw [List.getElem?_eq_getElem hi] at hl; exact Option.some.inj hl
    rw [e3] at e1
    omega
  refine ⟨fun l' => if l' = l then rs else sh l', fun l' hl' => ?_, ?_⟩
  · rw [ht] at hl'
    rcases List.mem_append.mp hl' with z | z
    · have n : l' ≠ l := fun q => nin (q ▸ z)
      dsimp only
      rw [if_neg n]
      exact ok l' z
    · rw [List.mem_singleton.mp z]
      dsimp only
      rw [if_pos rfl]
      exact ⟨h1, h2⟩
  · subst e
    rw [putKD_new (fun x hx => by
      obtain ⟨l', hl', rfl⟩ := List.mem_map.mp hx
      exact fun z => nin (nk_inj z ▸ hl')), ht, List.map_append]
    congr 2
    · apply List.map_congr_left
      intro l' hl'
      have n : l' ≠ l := fun q => nin (q ▸ hl')
      dsimp only
      rw [if_neg n]
    · simp
theorem shTo_end {p : Nat} {kvs : List (NK × D)} (h : ShTo p (lots p).length (.ot kvs)) : IsSh p (.dT kvs) := by
  obtain ⟨sh, ok, e⟩ := h
  rw [List.take_length] at ok e
  injection e with e
  exact ⟨lots p, sh, List.Perm.refl _, ok, by rw [e]; rfl⟩
theorem shTo_change {p : Nat} {kvs : List (NK × D)} {l : List Int} {rs : List Rt} (h : IsSh p (.dT kvs)) (hl : l ∈ lots p) (h1 : rs.length = l.length) (h2 : ∀ r ∈ rs, Gs r) : IsSh p (.dT (putKD kvs (nk l) (.tup (rs.map rD)))) := by
  obtain ⟨ls, sh, hp, ok, e⟩ := h
  injection e with e
  subst e
  refine ⟨ls, fun l' => if l' = l then rs else sh l', hp, fun l' hl' => ?_, ?_⟩
  · dsimp only
    by_cases e : l' = l
    · rw [if_pos e, e]; exact ⟨h1, h2⟩
    · rw [if_neg e]; exact ok l' hl'
  · rw [putKD_lots (fun l => D.tup ((sh l).map rD)) (hp.symm.subset hl)]
    unfold shD
    congr 1
    apply List.map_congr_left
    intro l' _
    by_cases e : l' = l
    · simp only [e, if_true]
    · simp only [e, if_false]
theorem rep_x {α : Type} (n : Int) (x : α) : rep n [x] = List.replicate n.toNat x := by
  unfold rep
  induction n.toNat with
  | zero => rfl
  | succ k ih => rw [List.replicate_succ, List.flatten_cons, ih]; rfl
/-! ratios as numbers -/
def rq (a : Rt) : Rat := Rat.divInt a.1 a.2
theorem rq_low {n d : Int} (h : 0 < d) : rq (low n d) = Rat.divInt n d := by
  obtain ⟨h1, _⟩ := gcd_le (n := n) h
  obtain ⟨e1, e2⟩ := low_val (n := n) h
  have : (Int.gcd n d : Int) ≠ 0 := by omega
  unfold rq
  rw [← Rat.divInt_mul_right this, e1, e2]
theorem rq_sub {a b : Rt} (ha : 0 < a.2) (hb : 0 < b.2) : rq (sub a b) = rq a - rq b := by
  unfold sub
  rw [rq_low (Int.mul_pos ha hb)]
  unfold rq
  rw [Rat.divInt_sub_divInt _ _ (by omega) (by omega)]
theorem rq_nonneg {a : Rt} (ha : 0 < a.2) : 0 ≤ rq a ↔ 0 ≤ a.1 := Rat.divInt_nonneg_iff_of_pos_right ha
theorem rq_neg {a : Rt} (ha : 0 < a.2) : rq a < 0 ↔ a.1 < 0 := by
  have := rq_nonneg ha
  rw [← Rat.not_le, this]; omega
theorem rq_pos {a : Rt} (ha : 0 < a.2) : 0 < rq a ↔ 0 < a.1 := by
  have h := rq_nonneg (a := (-a.1, a.2)) ha
  have e : rq (-a.1, a.2) = - rq a := by
    unfold rq
    show Rat.divInt (-a.1) a.2 = _
    rw [Rat.neg_divInt]
  rw [e] at h
  have h2 : (0 ≤ - rq a) ↔ rq a ≤ 0 := by grind
  rw [h2] at h
  rw [← Rat.not_le, h]
  show ¬ (0 ≤ -a.1) ↔ _
  omega
theorem rq_less {a b : Rt} (ha : 0 < a.2) (hb : 0 < b.2) : less a b = true ↔ rq a < rq b := by
  have h1 := rq_sub ha hb
  have h2 := rq_neg (a := sub a b) (low_den (Int.mul_pos ha hb)).1
  rw [h1, sub_neg_iff ha hb] at h2
  unfold less
  rw [decide_eq_true_eq, ← h2]
  grind
theorem stay_mem {S : D} {b : Int → Rt} {l : List Int} {i : Int} : i ∈ stay S b l ↔ i ∈ l ∧ less (b i) (shareAt S l i) = false := by
  unfold stay
  rw [List.mem_filter]
  simp
theorem served_pays {p : Nat} {S : D} {b : Int → Rt} {i : Int} (h : i ∈ served p S b) : less (b i) (shareAt S (served p S b) i) = false := by
  have := served_fix (p := p) (S := S) (b := b)
  rw [← this] at h
  exact (stay_mem.mp h).2
/-- never rising -/
def Never (p : Nat) (S : D) : Prop := ∀ l ∈ lots p, ∀ g ∈ lots p, (∀ i ∈ l, i ∈ g) → ∀ i ∈ l, less (shareAt S l i) (shareAt S g i) = false
section
variable {p : Nat} {S : D} {w t : Int → Rt}
theorem has_nonneg (hS : IsSh p S) (h1 : 1 ≤ p) (hw : ∀ i : Int, 0 ≤ i → i < p → Gd (w i)) (i : Int) : 0 ≤ (hasAt p S w w i).1 := by
  unfold hasAt
  split
  · rename_i h
    obtain ⟨a1, a2, a3⟩ := served_mem h1 h
    have d1 := (hw i a2 a3).d0
    have d2 := (hS.gd a1 h).d0
    have e := served_pays h
    have := not_congr (sub_neg_iff d1 d2)
    unfold less at e
    have e := of_decide_eq_false e
    have := this.mpr e
    omega
  · decide
theorem has_rq (hS : IsSh p S) (h1 : 1 ≤ p) (hw : ∀ i : Int, 0 ≤ i → i < p → Gd (w i)) (i : Int) : rq (hasAt p S w t i) = if i ∈ served p S t then rq (w i) - rq (shareAt S (served p S t) i) else 0 := by
  unfold hasAt
  split
  · rename_i h
    obtain ⟨a1, a2, a3⟩ := served_mem h1 h
    exact rq_sub (hw i a2 a3).d0 (hS.gd a1 h).d0
  · unfold rq; simp
theorem holds_all (hS : IsSh p S) (h1 : 1 ≤ p) (hN : Never p S) (hw : ∀ i : Int, 0 ≤ i → i < p → Gd (w i)) {l : List Int} (hl : l ∈ lots p) (hp : ∀ i ∈ l, rq (shareAt S l i) ≤ rq (w i)) : ∀ n, ∀ i ∈ l, i ∈ itS S w (people p) n
  | 0 => fun i hi => mem_people.mpr (mem_lot hl hi)
  | n + 1 => fun i hi => by
    have ih := holds_all hS h1 hN hw hl hp n
    have hz := it_lot (S := S) (b := w) (.inl (people_lot h1)) n
    have hi' := ih i hi
    have hg : itS S w (people p) n ∈ lots p := by
      rcases hz with z | z
      · exact z
      · rw [z] at hi'; cases hi'
    show i ∈ stay S w (itS S w (people p) n)
    refine stay_mem.mpr ⟨hi', ?_⟩
    obtain ⟨a2, a3⟩ := mem_lot hl hi
    have g1 := (hS.gd hl hi).d0
    have g2 := (hS.gd hg hi').d0
    have g3 := (hw i a2 a3).d0
    have e1 := hN l hl _ hg ih i hi
    have e2 := rq_less g1 g2
    have e3 := rq_less g3 g2
    have e4 := hp i hi
    rw [e1] at e2
    cases e : less (w i) (shareAt S (itS S w (people p) n) i) with
    | false => rfl
    | true =>
      rw [e] at e3
      have e3 := e3.mp rfl
      have e2 : ¬ rq (shareAt S l i) < rq (shareAt S (itS S w (people p) n) i) := fun z => Bool.false_ne_true (e2.mpr z)
      grind
/-- no lot gains -/
theorem no_gain (hS : IsSh p S) (h1 : 1 ≤ p) (hN : Never p S) (hw : ∀ i : Int, 0 ≤ i → i < p → Gd (w i)) {l : List Int} (hl : l ∈ lots p) (ht : ∀ i : Int, 0 ≤ i → i < p → i ∉ l → t i = w i)
    (hn : ∀ i ∈ l, ¬ (gain p S w t i).1 < 0) : ∀ i ∈ l, ¬ 0 < (gain p S w t i).1 := by
  intro i hi hpos
  have hmd : ∀ (b : Int → Rt) j, 0 < (hasAt p S w b j).2 := fun b j => (has_md hS h1 hw j).1
  have hg : ∀ j, rq (gain p S w t j) = rq (hasAt p S w t j) - rq (hasAt p S w w j) := fun j => rq_sub (hmd _ _) (hmd _ _)
  have hgd : ∀ j, 0 < (gain p S w t j).2 := fun j => (low_den (Int.mul_pos (hmd _ _) (hmd _ _))).1
  have h0 : ∀ j, 0 ≤ rq (hasAt p S w w j) := fun j => (rq_nonneg (hmd _ _)).mpr (has_nonneg hS h1 hw j)
  have hpos' := (rq_pos (hgd i)).mpr hpos
  rw [hg i] at hpos'
  have hi0 := h0 i
  have his : i ∈ served p S t := by
    by_cases z : i ∈ served p S t
    · exact z
    · have := has_rq (t := t) hS h1 hw i
      rw [if_neg z] at this
      grind
  obtain ⟨a1, a2, a3⟩ := served_mem h1 his
  have hpay : ∀ j ∈ served p S t, rq (shareAt S (served p S t) j) ≤ rq (w j) := by
    intro j hj
    obtain ⟨b1, b2, b3⟩ := served_mem h1 hj
    by_cases z : j ∈ l
    · have e1 := has_rq (t := t) hS h1 hw j
      rw [if_pos hj] at e1
      have e2 := hn j z
      rw [← rq_neg (hgd j), hg j] at e2
      have e3 := h0 j
      grind
    · have e1 := served_pays hj
      rw [ht j b2 b3 z] at e1
      have e2 := rq_less (hw j b2 b3).d0 (hS.gd b1 hj).d0
      rw [e1] at e2
      have e3 : ¬ rq (w j) < rq (shareAt S (served p S t) j) := fun q => Bool.false_ne_true (e2.mpr q)
      grind
  have hsub : ∀ j ∈ served p S t, j ∈ served p S w := fun j hj => holds_all hS h1 hN hw a1 hpay (p + 1) j hj
  have hiw := hsub i his
  obtain ⟨c1, _, _⟩ := served_mem h1 hiw
  have e1 := hN _ a1 _ c1 hsub i his
  have e2 := rq_less (hS.gd a1 his).d0 (hS.gd c1 hiw).d0
  rw [e1] at e2
  have e3 : ¬ rq (shareAt S (served p S t) i) < rq (shareAt S (served p S w) i) := fun q => Bool.false_ne_true (e2.mpr q)
  have e4 := has_rq (t := t) hS h1 hw i
  have e5 := has_rq (t := w) hS h1 hw i
  rw [if_pos his] at e4
  rw [if_pos hiw] at e5
  grind
end
theorem IsB.pl {p : Nat} {B : D} (h : IsB p B) : Pl 3 B := by
  obtain ⟨f, _, rfl⟩ := h
  intro x hx
  obtain ⟨i, _, rfl⟩ := List.mem_map.mp hx
  show ∀ y ∈ [D.int (f i).1, D.int (f i).2], Pl 1 y
  simp [pl_int]
/-! for simp -/
section
variable {n p : Nat} {a b : List Int} {ls : List (List Int)} {x : Int} {ds : List D} {Q : D → Prop}
@[simp ↓] theorem sd_plL : (∀ x ∈ ls.map iL, Pl (n + 1) x) = True := by
  apply eq_true
  intro x hx
  obtain ⟨l, _, rfl⟩ := List.mem_map.mp hx
  show ∀ y ∈ l.map D.int, Pl n y
  rw [pl_ints]; trivial
@[simp ↓] theorem sd_plR {α : Type} {f : α → Rt} {l : List α} : (∀ x ∈ l.map (fun i => rD (f i)), Pl (n + 1) x) = True := by
  apply eq_true
  intro x hx
  obtain ⟨i, _, rfl⟩ := List.mem_map.mp hx
  show ∀ y ∈ [D.int (f i).1, D.int (f i).2], Pl n y
  simp [pl_int]
@[simp ↓] theorem sd_plI {α : Type} {f : α → Int} {l : List α} : (∀ x ∈ l.map (fun i => D.int (f i)), Pl n x) = True := by
  apply eq_true
  intro x hx
  obtain ⟨i, _, rfl⟩ := List.mem_map.mp hx
  rw [pl_int]; trivial
@[simp ↓] theorem sd_plRr {l : List Rt} : (∀ x ∈ l.map rD, Pl (n + 1) x) = True := sd_plR (f := fun x => x)
@[simp] theorem s_memL : mem (.tup (a.map .int)) (ls.map iL) = decide (a ∈ ls) := (enc_iL.mem a ls).trans (by congr)
@[simp] theorem s_toR {i j : Int} : toR (.tup [.int i, .int j]) = some (i, j) := rfl
@[simp] theorem s_toI : toI (.int x) = some x := rfl
@[simp] theorem s_toL : toL (.tup (a.map .int)) = some a := intsOf_map a
@[simp] theorem s_toL0 : toL (.tup []) = some [] := rfl
@[simp] theorem s_keyT : keyT (.tup (a.map .int)) = some (nk a) := keyT_iL a
@[simp] theorem s_keyS : keyS (.tup (a.map .int)) = some (nk a) := keyS_iL a
@[simp] theorem s_peqL0 : peqL (a.map .int) [] = decide (a = []) := by cases a <;> rfl
@[simp] theorem s_peqL1 : peqL [] (a.map .int) = decide (a = []) := by cases a <;> rfl
@[simp] theorem s_peqE : peqL ds [] = ds.isEmpty := by cases ds <;> rfl
@[simp] theorem s_peqE1 : peqL [] ds = ds.isEmpty := by cases ds <;> rfl
@[simp] theorem s_boolsD {α : Type} (f : α → Bool) : ∀ l : List α, boolsD (l.map fun x => .bl (f x)) = some (l.map f)
  | [] => rfl
  | x :: xs => by simp [boolsD, s_boolsD f xs]
end
end LT

set_option Elab.async false
set_option linter.all false
set_option maxRecDepth 100000
namespace DR
open PySem PySem.Spec PyProof.Rows L2 DL LT
variable [WW]
/-! the state of the draws -/
def drD (g : Addr) (cs : List Int) (r t : Int) : List (Key × D) := [(.inr "great", .ref g), (.inr "cells", .lst (cs.map .int)), (.inr "rest", .int r), (.inr "turn", .int t)]
def kGreat : Key := .inr "great"
def kCells : Key := .inr "cells"
def kRest : Key := .inr "rest"
def kTurn : Key := .inr "turn"
section
variable {g : Addr} {cs : List Int} {r t x : Int}
@[simp] theorem s_gGreat : getK (drD g cs r t) (.inr "great") = some (.ref g) := rfl
@[simp] theorem s_gCells : getK (drD g cs r t) (.inr "cells") = some (.lst (cs.map .int)) := rfl
@[simp] theorem s_gRest : getK (drD g cs r t) (.inr "rest") = some (.int r) := rfl
@[simp] theorem s_gTurn : getK (drD g cs r t) (.inr "turn") = some (.int t) := rfl
@[simp] theorem s_pRest : putKD (drD g cs r t) (.inr "rest") (.int x) = drD g cs x t := rfl
@[simp] theorem s_pTurn : putKD (drD g cs r t) (.inr "turn") (.int x) = drD g cs r x := rfl
@[simp] theorem s_put4 {g : Addr} {c : D} {r t : Int} : putAllK [] [(.inr "great", .ref g), (.inr "cells", c), (.inr "rest", .int r), (.inr "turn", .int t)] = [(.inr "great", .ref g), (.inr "cells", c), (.inr "rest", .int r), (.inr "turn", .int t)] := rfl
@[simp] theorem s_dLen : (drD g cs r t).length = 4 := rfl
end
/-- the draws stand at a -/
def DrawS (a : Addr) (st : Sto) : Prop := ∃ (g : Addr) (gs cs : List Int) (r t : Int), g ≠ a ∧ st a = some (.dK (drD g cs r t)) ∧ st g = some (.lst (gs.map .int)) ∧ 0 ≤ t ∧ gs.length ≤ 64
/-- how often blends were made -/
def tn (a : Addr) (st : Sto) : Nat := match st a with
  | some (.dK [_, _, _, (_, .int t)]) => t.toNat
  | _ => 0
theorem tn_eq {a : Addr} {st : Sto} {g : Addr} {cs : List Int} {r t : Int} (h : st a = some (.dK (drD g cs r t))) : tn a st = t.toNat := by
  unfold tn; rw [h]; rfl
@[simp] theorem s_sdA {a : Addr} {st : Sto} {o : SO} : supd st a o a = some o := supd_same
theorem supd_n {a b : Addr} {st : Sto} {o : SO} (h : b ≠ a) : supd st a o b = st b := supd_ne h
def toA : D → Option Addr
  | .ref a => some a
  | _ => none
theorem toA_eq {d : D} {a : Addr} (h : toA d = some a) : d = .ref a := by
  unfold toA at h; split at h
  · cases h; rfl
  · cases h
@[simp] theorem s_toA {a : Addr} : toA (.ref a) = some a := rfl
/-- one of -/
def OneOf (d : D) (ds : List D) : Prop := d ∈ ds
/-- what may follow a draw -/
def After (a : Addr) (st : Sto) (c : Nat) (k : Sto → Prop) : Prop := ∀ st', DrawS a st' → tn a st' ≤ tn a st + c → k st'
def AfterF (a : Addr) (st : Sto) (c : Nat) [k : KB (Sto → Prop)] : Prop := After a st c k.k
@[simp ↓ low] theorem f_after {a : Addr} {st : Sto} {c : Nat} {k : Sto → Prop} : After a st c k = @AfterF a st c ⟨k⟩ := rfl
theorem fmod_room {x n : Int} (h : 0 < n) : 0 ≤ x.fmod n ∧ x.fmod n < n := by
  rw [Int.fmod_eq_emod_of_nonneg _ (by omega)]
  exact ⟨Int.emod_nonneg _ (by omega), Int.emod_lt_of_pos _ h⟩
theorem divOk_small {x n : Int} (h : 0 < n) (h2 : n < 1000000) : DivOk x n := ⟨by omega, .inl (by omega)⟩
theorem mulOkL {a b : Int} (h1 : -18446744073709551616 < a) (h2 : a < 18446744073709551616) : IntMulOk a b := IntMulOk.of_left (intBits_le_64 h1 h2)
def toLst : D → Option (List D)
  | .lst ds => some ds
  | _ => none
theorem toLst_eq {d : D} {ds : List D} (h : toLst d = some ds) : d = .lst ds := by
  unfold toLst at h; split at h
  · cases h; rfl
  · cases h
@[simp] theorem s_toLst {ds : List D} : toLst (.lst ds) = some ds := rfl
def toB : D → Option Bool
  | .bl b => some b
  | _ => none
theorem toB_eq {d : D} {b : Bool} (h : toB d = some b) : d = .bl b := by
  unfold toB at h; split at h
  · cases h; rfl
  · cases h
@[simp] theorem s_toB {b : Bool} : toB (.bl b) = some b := rfl
/-! size of data -/
mutual
def dsz : D → Nat
  | .tup ds => 1 + dszL ds
  | .lst ds => 1 + dszL ds
  | _ => 1
def dszL : List D → Nat
  | [] => 0
  | d :: ds => dsz d + dszL ds
end
theorem dsz_pos (d : D) : 1 ≤ dsz d := by cases d <;> simp [dsz]
theorem dszL_len : ∀ ds : List D, ds.length ≤ dszL ds
  | [] => Nat.le_refl _
  | d :: ds => by have := dszL_len ds; have := dsz_pos d; simp only [List.length_cons, dszL]; omega
theorem dszL_app : ∀ ds es : List D, dszL (ds ++ es) = dszL ds + dszL es
  | [], es => by simp [dszL]
  | d :: ds, es => by simp only [List.cons_append, dszL, dszL_app ds es]; omega
abbrev pr (x : D) : D := .tup [x, x]
theorem zip_self (ds : List D) : List.zipWith (fun x y => D.tup [x, y]) ds ds = ds.map pr := by
  induction ds with
  | nil => rfl
  | cons d ds ih => rw [List.zipWith_cons_cons, ih]; rfl
theorem dsz_rts {α : Type} (f : α → Rt) (l : List α) : dsz (.tup (l.map fun i => rD (f i))) = 1 + 3 * l.length := by
  have : dszL (l.map fun i => rD (f i)) = 3 * l.length := by
    induction l with
    | nil => rfl
    | cons x xs ih => simp only [List.map_cons, dszL, ih, List.length_cons]; simp [dsz, dszL]; omega
  simp [dsz, this]
end DR

set_option Elab.async false
set_option linter.all false
set_option maxRecDepth 100000
set_option maxHeartbeats 4000000
namespace K66
open PySem PySem.Spec PyProof.Rows L2 DL LT DR
variable [WW]
def isW : D → Bool
  | .int _ => true
  | _ => false
def isR : D → Bool
  | .tup [.int n, .int m] => decide (0 < m) && decide (Int.gcd n m = 1)
  | _ => false
/-- an amount -/
def isA : D → Bool
  | .tup [.int n, .int m] => (decide (0 < m) && decide (Int.gcd n m = 1)) && decide (0 ≤ n)
  | _ => false
def isP : D → Bool
  | .int p => decide (1 ≤ p) && decide (p ≤ 4)
  | _ => false
def areA (m : Int) : D → Bool
  | .tup ds => decide ((ds.length : Int) = m) && ds.all isA
  | _ => false
def isLot (p : Nat) (d : D) : Bool := match toL d with
  | some l => decide (l ∈ lots p)
  | none => false
def exn (K : PySem.W.Frag) (x : Str) : Exn := ⟨He.ga K x, []⟩
theorem isW_cases (d : D) : (∃ i, d = .int i) ∨ isW d = false := by
  cases d <;> first | exact .inl ⟨_, rfl⟩ | exact .inr rfl
theorem pl_ty {n : Nat} {d : D} (h : Pl n d) : ∃ t, tyE d = some t := by
  cases d <;> first | exact ⟨_, rfl⟩ | (cases n <;> exact h.elim)
theorem isW_all {ds : List D} (h : ds.all isW = true) : ∃ l : List Int, ds = l.map .int := by
  induction ds with
  | nil => exact ⟨[], rfl⟩
  | cons d ds ih =>
    rw [List.all_cons, Bool.and_eq_true] at h
    obtain ⟨l, rfl⟩ := ih h.2
    rcases isW_cases d with ⟨i, rfl⟩ | e
    · exact ⟨i :: l, rfl⟩
    · rw [e] at h; cases h.1
theorem isR_len {ds : List D} (h : ds.length ≠ 2) : isR (.tup ds) = false := by
  unfold isR; split
  · rename_i e; cases e; exact absurd rfl h
  · rfl
theorem isW_int {i : Int} : isW (.int i) = true := rfl
theorem boolsD_map {α : Type} (f : α → Bool) : ∀ l : List α, boolsD (l.map fun x => .bl (f x)) = some (l.map f)
  | [] => rfl
  | x :: xs => by simp [boolsD, boolsD_map f xs]
def nilT : D → Bool
  | .dT [] => true
  | _ => false
theorem nilT_eq {d : D} (h : nilT d = true) : d = .dT [] := by
  unfold nilT at h; split at h
  · rfl
  · cases h
theorem isA_gd {r : Rt} (h : Gd r) : isA (rD r) = true := by
  show ((decide (0 < r.2) && decide (Int.gcd r.1 r.2 = 1)) && decide (0 ≤ r.1)) = true
  simp [h.d0, h.g, h.n0]
theorem are_gd {n : Nat} {l : List Rt} (h : l.length = n) (g : ∀ r ∈ l, Gd r) : areA n (.tup (l.map rD)) = true := by
  show (decide (((l.map rD).length : Int) = n) && (l.map rD).all isA) = true
  rw [List.length_map, h, List.all_map]
  simp only [decide_true, Bool.true_and, List.all_eq_true]
  intro r hr
  exact isA_gd (g r hr)
theorem lots_pos {p : Nat} (h : 1 ≤ p) : lots p ≠ [] := by
  intro e
  have := people_lot h
  rw [e] at this; cases this
theorem isP_nat {p : Nat} (h1 : 1 ≤ p) (h4 : p ≤ 4) : isP (.int (p : Int)) = true := by
  show (decide (1 ≤ (p : Int)) && decide ((p : Int) ≤ 4)) = true
  simp; omega
theorem nil_sh {p : Nat} {S : D} (h : IsSh p S) (h1 : 1 ≤ p) : nilT S = false := by
  obtain ⟨ls, sh, hp, _, rfl⟩ := h
  unfold shD
  cases e : ls with
  | nil => rw [e] at hp; exact absurd hp.nil_eq.symm (lots_pos h1)
  | cons x xs => rfl
theorem nilT_nil : nilT (.dT []) = true := rfl
theorem are_own {l : List Int} {f : Int → Rt} (h : ∀ i ∈ l, Gd (f i)) : areA l.length (.tup (l.map fun i => rD (f i))) = true := by
  have := are_gd (n := l.length) (l := l.map f) (by simp) (fun r hr => by obtain ⟨i, hi, rfl⟩ := List.mem_map.mp hr; exact h i hi)
  rw [List.map_map] at this
  exact this
theorem are_B {p : Nat} {B : D} (h : IsB p B) : areA p B = true := by
  obtain ⟨f, ok, rfl⟩ := h
  have := are_own (l := people p) (f := f) (fun i hi => ok i (mem_people.mp hi).1 (mem_people.mp hi).2)
  rw [people_len] at this
  exact this
theorem isLot_yes {p : Nat} {l : List Int} : isLot p (.tup (l.map .int)) = decide (l ∈ lots p) := by
  show (match toL (iL l) with | some l => decide (l ∈ lots p) | none => false) = _
  rw [s_toL]
def lstD (p : Nat) (f : Int → Rt) : D := .lst ((people p).map fun i => rD (f i))
abbrev N_is_whole : List Str := ["value"]
abbrev ps_is_whole : List Str := ["value"]
def t_is_whole [WW] : TSD := (sRet (eAnd (eIsi [.int] (eVar 0)) (eNot (eIsi [.bl] (eVar 0)))))
def sp_is_whole : DSp := fun ds st Q E => match ds with
  | [a] => oG (tyE a) fun _ => Q (.bl (isW a)) st
  | _ => False
@[simp ↓] theorem zc_is_whole {a : D} {st : Sto} {Q : D → Sto → Prop} {E : Exn → Sto → Prop} : sp_is_whole [a] st Q E = (oG (tyE a) fun _ => Q (.bl (isW a)) st) := rfl
theorem w_is_whole (ds : List D) (st : Sto) (Qd : D → Sto → Prop) (Ed : Exn → Sto → Prop) (hl : ds.length = ps_is_whole.length) (h : sp_is_whole ds st Qd Ed) : t_is_whole (fun x _ st' => Ed x st') { nx := fun _ st' => Qd .non st', rt := Qd } (startD N_is_whole ds) st := by
  obtain ⟨d0, rfl⟩ := len1 hl
  rw [zc_is_whole] at h
  try simp only [← oG_ex] at h
  obtain ⟨t, e, q⟩ := h
  cases d0 <;> first | (cases e; done) | skip
  all_goals (simp [t_is_whole, N_is_whole, PySem.sizeLine_eq, boolsD, intsD, TyE.sub]; exact q)
abbrev N_lowest : List Str := ["n", "d", "common"]
abbrev ps_lowest : List Str := ["n", "d"]
def t_lowest [WW] : TSD := (sSeq (sAsg 2 (eIf (tVal (eBin gtD (eVar 1) (eC (.int 0)))) (eCB (b2 gcdD) (aCons (eVar 0) (aCons (eVar 1) aNil))) (eUn negD (eCB (b2 gcdD) (aCons (eVar 0) (aCons (eVar 1) aNil)))))) (sRet (eTup [(eBin divD (eVar 0) (eVar 2)), (eBin divD (eVar 1) (eVar 2))])))
def sp_lowest : DSp := fun ds st Q E => match ds with
  | [a, b] => oG (toI a) fun n => oG (toI b) fun d => 0 < d ∧ d < 18446744073709551616 ∧ Q (rD (low n d)) st
  | _ => False
@[simp ↓] theorem zc_lowest {a b : D} {st : Sto} {Q : D → Sto → Prop} {E : Exn → Sto → Prop} : sp_lowest [a, b] st Q E = (oG (toI a) fun n => oG (toI b) fun d => 0 < d ∧ d < 18446744073709551616 ∧ Q (rD (low n d)) st) := rfl
theorem w_lowest (ds : List D) (st : Sto) (Qd : D → Sto → Prop) (Ed : Exn → Sto → Prop) (hl : ds.length = ps_lowest.length) (h : sp_lowest ds st Qd Ed) : t_lowest (fun x _ st' => Ed x st') { nx := fun _ st' => Qd .non st', rt := Qd } (startD N_lowest ds) st := by
  obtain ⟨d0, d1, rfl⟩ := len2 hl
  rw [zc_lowest] at h
  try simp only [← oG_ex] at h
  obtain ⟨n, hn, d, hd, e, hs, q⟩ := h
  cases toI_eq hn; cases toI_eq hd
  simp [t_lowest, N_lowest, PySem.sizeLine_eq, boolsD, intsD, TyE.sub]
  rw [if_pos e]
  obtain ⟨h1, h2⟩ := gcd_le (n := n) e
  refine ⟨div_ok _ h1 h2 hs, div_ok _ h1 h2 hs, ?_⟩
  have e1 : n.fdiv (Int.gcd n d : Int) = n / (Int.gcd n d : Int) := Int.fdiv_eq_ediv_of_nonneg _ (by omega)
  have e2 : d.fdiv (Int.gcd n d : Int) = d / (Int.gcd n d : Int) := Int.fdiv_eq_ediv_of_nonneg _ (by omega)
  rw [e1, e2]
  exact q
abbrev N_is_less : List Str := ["one", "other"]
abbrev ps_is_less : List Str := ["one", "other"]
def t_is_less [WW] : TSD := (sRet (eBin ltD (eBin mulsD (eBin ixD (eVar 0) (eC (.int 0))) (eBin ixD (eVar 1) (eC (.int 1)))) (eBin mulsD (eBin ixD (eVar 1) (eC (.int 0))) (eBin ixD (eVar 0) (eC (.int 1))))))
def sp_is_less : DSp := fun ds st Q E => match ds with
  | [a, b] => oG (toR a) fun a => oG (toR b) fun b => Okr a ∧ Okr b ∧ Q (.bl (less a b)) st
  | _ => False
@[simp ↓] theorem zc_is_less {a b : D} {st : Sto} {Q : D → Sto → Prop} {E : Exn → Sto → Prop} : sp_is_less [a, b] st Q E = (oG (toR a) fun a => oG (toR b) fun b => Okr a ∧ Okr b ∧ Q (.bl (less a b)) st) := rfl
theorem w_is_less (ds : List D) (st : Sto) (Qd : D → Sto → Prop) (Ed : Exn → Sto → Prop) (hl : ds.length = ps_is_less.length) (h : sp_is_less ds st Qd Ed) : t_is_less (fun x _ st' => Ed x st') { nx := fun _ st' => Qd .non st', rt := Qd } (startD N_is_less ds) st := by
  obtain ⟨d0, d1, rfl⟩ := len2 hl
  rw [zc_is_less] at h
  try simp only [← oG_ex] at h
  obtain ⟨a, ha, b, hb, oa, ob, q⟩ := h
  cases toR_eq ha; cases toR_eq hb
  obtain ⟨a1, a2, a3, a4⟩ := oa
  obtain ⟨b1, b2, b3, b4⟩ := ob
  simp [t_is_less, N_is_less, PySem.sizeLine_eq, boolsD, intsD, TyE.sub]
  exact ⟨mulOk (by omega) (by omega), mulOk (by omega) (by omega), q⟩
abbrev N_lots_of : List Str := ["people", "found", "person", "lot"]
abbrev ps_lots_of : List Str := ["people"]
def t_lots_of [WW] : TSD := (sSeq (sAsg 1 (eLst [(eTup [])])) (sSeq (sFor (iRange1 (eVar 0)) (gN 2) (sAsg 1 (eBin addD (eVar 1) (eN (nLc (iAnyD (eVar 1)) (.n 3) tYesD (eBin addD (eVar 3) (eTup [(eVar 2)])) [3]))))) (sRet (eSl (eCB (b1 sortedD) (aCons (eVar 1) aNil)) (some (eC (.int 1))) none))))
def sp_lots_of : DSp := fun ds st Q E => match ds with
  | [a] => oG (toP a) fun p => Q (.lst ((lots p).map iL)) st
  | _ => False
@[simp ↓] theorem zc_lots_of {a : D} {st : Sto} {Q : D → Sto → Prop} {E : Exn → Sto → Prop} : sp_lots_of [a] st Q E = (oG (toP a) fun p => Q (.lst ((lots p).map iL)) st) := rfl
theorem w_lots_of (ds : List D) (st : Sto) (Qd : D → Sto → Prop) (Ed : Exn → Sto → Prop) (hl : ds.length = ps_lots_of.length) (h : sp_lots_of ds st Qd Ed) : t_lots_of (fun x _ st' => Ed x st') { nx := fun _ st' => Qd .non st', rt := Qd } (startD N_lots_of ds) st := by
  obtain ⟨d0, rfl⟩ := len1 hl
  rw [zc_lots_of] at h
  try simp only [← oG_ex] at h
  obtain ⟨p, hp, q⟩ := h
  obtain ⟨rfl, p1, p4⟩ := toP_eq hp
  have : p = 1 ∨ p = 2 ∨ p = 3 ∨ p = 4 := by omega
  rcases this with rfl | rfl | rfl | rfl
  · simp [t_lots_of, N_lots_of, PySem.sizeLine_eq, boolsD, intsD, TyE.sub, ↓DL.u_for0, ↓DL.u_for1, ↓DL.u_map0, ↓DL.u_map1, rangeL_s, rangeL_0, big62, sizeLine_eq]
    exact lots_end (p := 1) (Q := fun d => Qd d st) (by decide) q
  · simp [t_lots_of, N_lots_of, PySem.sizeLine_eq, boolsD, intsD, TyE.sub, ↓DL.u_for0, ↓DL.u_for1, ↓DL.u_map0, ↓DL.u_map1, rangeL_s, rangeL_0, big62, sizeLine_eq]
    exact lots_end (p := 2) (Q := fun d => Qd d st) (by decide) q
  · simp [t_lots_of, N_lots_of, PySem.sizeLine_eq, boolsD, intsD, TyE.sub, ↓DL.u_for0, ↓DL.u_for1, ↓DL.u_map0, ↓DL.u_map1, rangeL_s, rangeL_0, big62, sizeLine_eq]
    exact lots_end (p := 3) (Q := fun d => Qd d st) (by decide) q
  · simp [t_lots_of, N_lots_of, PySem.sizeLine_eq, boolsD, intsD, TyE.sub, ↓DL.u_for0, ↓DL.u_for1, ↓DL.u_map0, ↓DL.u_map1, rangeL_s, rangeL_0, big62, sizeLine_eq]
    exact lots_end (p := 4) (Q := fun d => Qd d st) (by decide) q
abbrev N_share_of : List Str := ["shares", "lot", "person"]
abbrev ps_share_of : List Str := ["shares", "lot", "person"]
def t_share_of [WW] : TSD := (sRet (eBin ixD (eBin ixD (eVar 0) (eVar 1)) (eIndexT (eVar 1) (eVar 2))))
def sp_share_of : DSp := fun ds st Q E => match ds with
  | [a, b, c] => oG (toL b) fun l => oG (toI c) fun i => (∃ p, IsSh p a ∧ l ∈ lots p ∧ p ≤ 4 ∧ i ∈ l) ∧ Q (rD (shareAt a l i)) st
  | _ => False
@[simp ↓] theorem zc_share_of {a b c : D} {st : Sto} {Q : D → Sto → Prop} {E : Exn → Sto → Prop} : sp_share_of [a, b, c] st Q E = (oG (toL b) fun l => oG (toI c) fun i => (∃ p, IsSh p a ∧ l ∈ lots p ∧ p ≤ 4 ∧ i ∈ l) ∧ Q (rD (shareAt a l i)) st) := rfl
theorem w_share_of (ds : List D) (st : Sto) (Qd : D → Sto → Prop) (Ed : Exn → Sto → Prop) (hl : ds.length = ps_share_of.length) (h : sp_share_of ds st Qd Ed) : t_share_of (fun x _ st' => Ed x st') { nx := fun _ st' => Qd .non st', rt := Qd } (startD N_share_of ds) st := by
  obtain ⟨d0, d1, d2, rfl⟩ := len3 hl
  rw [zc_share_of] at h
  try simp only [← oG_ex] at h
  obtain ⟨l, hl', i, hi, ⟨p, hS, hlot, p4, hm⟩, q⟩ := h
  cases toL_eq hl'; cases toI_eq hi
  have nS := hS.nod
  have e1 : idxD (l.map .int) (.int i) = some (l.idxOf i) := by rw [idx_ints, idx_of_mem hm]
  simp [t_share_of, N_share_of, PySem.sizeLine_eq, boolsD, intsD, TyE.sub, DL.z_fz_nod nS, DL.z_rd_nod nS, hS.ix hlot, e1, at_nat, at_map, hS.get hlot hm]
  exact q
abbrev N__law_begun : List Str := ["script", "great", "cell"]
abbrev ps__law_begun : List Str := ["script"]
def t__law_begun [WW] : TSD := (sSeq (sAsgN 1 (nLc (iAnyD (eVar 0)) (.n 2) (tVal (eBin geD (eCB (b1 absD) (aCons (eVar 2) aNil)) (eBin powD (eC (.int 10)) (eC (.int 18))))) (eBin subD (eCB (b1 absD) (aCons (eVar 2) aNil)) (eBin powD (eC (.int 10)) (eC (.int 18)))) [2])) (sRet (eShW (nDispK [((eC (.str "great")), (eVarS 1)), ((eC (.str "cells")), (eN (nLc (iAnyD (eVar 0)) (.n 2) tYesD (eCB (b1 absD) (aCons (eVar 2) aNil)) [2]))), ((eC (.str "rest")), (eC (.int 0))), ((eC (.str "turn")), (eC (.int 0)))]))))
def sp__law_begun : DSp := fun ds st Q E => match ds with
  | [a] => (∃ ns : List Int, a = .kls (ns.map .int) ∧ ns.length ≤ 64) ∧ ∀ a st', DrawS a st' → tn a st' = 0 → Q (.ref a) st'
  | _ => False
@[simp ↓] theorem zc__law_begun {a : D} {st : Sto} {Q : D → Sto → Prop} {E : Exn → Sto → Prop} : sp__law_begun [a] st Q E = ((∃ ns : List Int, a = .kls (ns.map .int) ∧ ns.length ≤ 64) ∧ ∀ a st', DrawS a st' → tn a st' = 0 → Q (.ref a) st') := rfl
theorem w__law_begun (ds : List D) (st : Sto) (Qd : D → Sto → Prop) (Ed : Exn → Sto → Prop) (hl : ds.length = ps__law_begun.length) (h : sp__law_begun ds st Qd Ed) : t__law_begun (fun x _ st' => Ed x st') { nx := fun _ st' => Qd .non st', rt := Qd } (startD N__law_begun ds) st := by
  obtain ⟨d0, rfl⟩ := len1 hl
  rw [zc__law_begun] at h
  try simp only [← oG_ex] at h
  obtain ⟨⟨ns, rfl, hn⟩, q⟩ := h
  simp [t__law_begun, N__law_begun, PySem.sizeLine_eq, boolsD, intsD, TyE.sub]
  have e10 : (10 : Int) ^ 18 = 1000000000000000000 := by decide
  refine map_if D.int (fun i => decide (1000000000000000000 ≤ if i < 0 then -i else i)) (fun i => D.int ((if i < 0 then -i else i) - 1000000000000000000)) ns (fun i hi Kt Kf k1 k2 => ?_) ?_
  · simp [t__law_begun, N__law_begun, PySem.sizeLine_eq, boolsD, intsD, TyE.sub]
    refine ⟨⟨by decide, by decide, by decide⟩, ?_⟩
    by_cases hb : 1000000000000000000 ≤ if i < 0 then -i else i
    · rw [if_pos hb]
      exact ⟨⟨by decide, by decide, by decide⟩, k1 (decide_eq_true hb) _ rfl⟩
    · rw [if_neg hb]
      exact k2 (decide_eq_false hb) _ rfl
  · simp [t__law_begun, N__law_begun, PySem.sizeLine_eq, boolsD, intsD, TyE.sub]
    intro g hg
    refine map_all D.int (fun i => D.int (if i < 0 then -i else i)) ns (fun i hi Kt Kf hk => ?_) ?_
    · simp [t__law_begun, N__law_begun, PySem.sizeLine_eq, boolsD, intsD, TyE.sub]
      exact hk _ rfl
    · simp [t__law_begun, N__law_begun, PySem.sizeLine_eq, boolsD, intsD, TyE.sub, keysOf]
      intro a ha
      have hga : g ≠ a := fun z => by rw [← z, supd_same] at ha; cases ha
      refine q a _ ⟨g, (ns.filter fun i => decide (1000000000000000000 ≤ if i < 0 then -i else i)).map (fun i => (if i < 0 then -i else i) - 1000000000000000000), ns.map (fun i => if i < 0 then -i else i), 0, 0, hga, ?_, ?_, by omega, ?_⟩ ?_
      · rw [supd_same, drD, List.map_map]; rfl
      · rw [supd_ne hga, supd_same, List.map_map]; rfl
      · rw [List.length_map]; exact Nat.le_trans (List.length_filter_le _ _) hn
      · unfold tn; rw [supd_same]; rfl
abbrev N__law_blended : List Str := ["state", "turn", "found", "prime", "blend", "cell"]
abbrev ps__law_blended : List Str := ["state"]
def t__law_blended [WW] : TSD := (sSeq (sPars [1, 2] [.v (eBin addD (eBin ixD (eVar 0) (eC (.str "turn"))) (eC (.int 1))), .v (eC (.int 0))]) (sSeq (sPut (eVar 1) (eVar 0) (eC (.str "turn"))) (sSeq (sFor (iAnyD (eLst [(eC (.int 2147483579)), (eC (.int 2147483629)), (eC (.int 2147483563))])) (gN 3) (sSeq (sAsg 4 (eBin addD (eBin mulsD (eC (.int 48271)) (eVar 1)) (eBin divD (eVar 3) (eC (.int 53))))) (sSeq (sFor (iAnyD (eBin ixD (eVar 0) (eC (.str "cells")))) (gN 5) (sAsg 4 (eBin modD (eCB (b1 intD) (aCons (eBin addD (eBin addD (eBin mulsD (eVar 4) (eC (.int 69621))) (eVar 5)) (eVar 1)) aNil)) (eVar 3)))) (sAsg 2 (eBin addD (eBin mulsD (eVar 2) (eC (.int 2147483647))) (eBin modD (eCB (b1 intD) (aCons (eBin powD (eVar 4) (eC (.int 5))) aNil)) (eVar 3))))))) (sRet (eVar 2)))))
def sp__law_blended : DSp := fun ds st Q E => match ds with
  | [a] => oG (toA a) fun a => (DrawS a st ∧ tn a st < 1000000) ∧ ∀ x, After a st 1 fun st' => Q (.int x) st'
  | _ => False
@[simp ↓] theorem zc__law_blended {a : D} {st : Sto} {Q : D → Sto → Prop} {E : Exn → Sto → Prop} : sp__law_blended [a] st Q E = (oG (toA a) fun a => (DrawS a st ∧ tn a st < 1000000) ∧ ∀ x, After a st 1 fun st' => Q (.int x) st') := rfl
theorem w__law_blended (ds : List D) (st : Sto) (Qd : D → Sto → Prop) (Ed : Exn → Sto → Prop) (hl : ds.length = ps__law_blended.length) (h : sp__law_blended ds st Qd Ed) : t__law_blended (fun x _ st' => Ed x st') { nx := fun _ st' => Qd .non st', rt := Qd } (startD N__law_blended ds) st := by
  obtain ⟨d0, rfl⟩ := len1 hl
  rw [zc__law_blended] at h
  try simp only [← oG_ex] at h
  obtain ⟨a, ea, ⟨⟨g, gs, cs, r, t, hga, ha, hg, ht, hz⟩, htn⟩, q⟩ := h
  obtain rfl := toA_eq ea
  have et := tn_eq ha
  have hD : ∀ x, Qd (.int x) (supd st a (.dK (drD g cs r (t + 1)))) := fun x => q x _ ⟨g, gs, cs, r, t + 1, hga, supd_same, by rw [supd_ne hga]; exact hg, by omega, hz⟩ (by rw [tn_eq (supd_same), et]; omega)
  simp [t__law_blended, N__law_blended, PySem.sizeLine_eq, boolsD, intsD, TyE.sub, ha]
  refine for_inv (fun _ σ st' => st' = supd st a (.dK (drD g cs r (t + 1))) ∧ ∃ f x3 x4 x5, σ = [Sl.val (.ref a), Sl.val (.int (t + 1)), Sl.val (.int f), x3, x4, x5]) ⟨rfl, _, _, _, _, rfl⟩ (fun i d σ st' ed hp Nx hN => ?_) ?_
  · obtain ⟨rfl, f, x3, x4, x5, rfl⟩ := hp
    obtain ⟨p, rfl, hp0, hp1⟩ : ∃ p : Int, d = .int p ∧ 0 < p ∧ p < 2147483648 := by
      have hm := List.mem_of_getElem? ed
      simp only [List.mem_cons, List.not_mem_nil, or_false] at hm
      rcases hm with rfl | rfl | rfl
      · exact ⟨_, rfl, by decide, by decide⟩
      · exact ⟨_, rfl, by decide, by decide⟩
      · exact ⟨_, rfl, by decide, by decide⟩
    simp [t__law_blended, N__law_blended, PySem.sizeLine_eq, boolsD, intsD, TyE.sub, ha, s_sdA]
    refine ⟨mulOkL (by decide) (by decide), ⟨by decide, .inl (by decide)⟩, ?_⟩
    refine for_inv (fun _ σ st' => st' = supd st a (.dK (drD g cs r (t + 1))) ∧ ∃ b x5, (-1000000000000000000 < b ∧ b < 1000000000000000000) ∧ σ = [Sl.val (.ref a), Sl.val (.int (t + 1)), Sl.val (.int f), Sl.val (.int p), Sl.val (.int b), x5]) ⟨rfl, _, _, ?_, rfl⟩ (fun i d σ st' ed hp Nx hN => ?_) ?_
    · have : p.fdiv 53 = p / 53 := Int.fdiv_eq_ediv_of_nonneg _ (by omega)
      rw [this]
      omega
    · obtain ⟨rfl, b, x5, ⟨hb1, hb2⟩, rfl⟩ := hp
      rw [List.getElem?_map] at ed
      obtain ⟨c, _, rfl⟩ := Option.map_eq_some_iff.mp ed
      simp [t__law_blended, N__law_blended, PySem.sizeLine_eq, boolsD, intsD, TyE.sub, ha, s_sdA]
      refine ⟨mulOkL (by omega) (by omega), by omega, ?_⟩
      obtain ⟨m1, m2⟩ := fmod_room (x := b * 69621 + c + (t + 1)) hp0
      exact hN _ _ ⟨rfl, _, _, ⟨by omega, by omega⟩, rfl⟩
    · rintro σ st' ⟨rfl, b, x5, ⟨hb1, hb2⟩, rfl⟩
      simp [t__law_blended, N__law_blended, PySem.sizeLine_eq, boolsD, intsD, TyE.sub, ha, s_sdA]
      refine ⟨IntMulOk.of_right (by decide), ⟨by decide, by decide, by omega⟩, by omega, ?_⟩
      exact hN _ _ ⟨rfl, _, _, _, _, rfl⟩
  · rintro σ st' ⟨rfl, f, x3, x4, x5, rfl⟩
    simp [t__law_blended, N__law_blended, PySem.sizeLine_eq, boolsD, intsD, TyE.sub]
    exact hD f
abbrev N__law_is_truth : List Str := ["found", "due"]
abbrev ps__law_is_truth : List Str := ["found", "due"]
def t__law_is_truth [WW] : TSD := (sRet (eIf (tVal (eVar 1)) (eBin isDO (eVar 0) (eC (.bl true))) (eBin isDO (eVar 0) (eC (.bl false)))))
def sp__law_is_truth : DSp := fun ds st Q E => match ds with
  | [a, b] => oG (toB a) fun a => oG (toB b) fun b => Q (.bl (decide (a = b))) st
  | _ => False
@[simp ↓] theorem zc__law_is_truth {a b : D} {st : Sto} {Q : D → Sto → Prop} {E : Exn → Sto → Prop} : sp__law_is_truth [a, b] st Q E = (oG (toB a) fun a => oG (toB b) fun b => Q (.bl (decide (a = b))) st) := rfl
theorem w__law_is_truth (ds : List D) (st : Sto) (Qd : D → Sto → Prop) (Ed : Exn → Sto → Prop) (hl : ds.length = ps__law_is_truth.length) (h : sp__law_is_truth ds st Qd Ed) : t__law_is_truth (fun x _ st' => Ed x st') { nx := fun _ st' => Qd .non st', rt := Qd } (startD N__law_is_truth ds) st := by
  obtain ⟨d0, d1, rfl⟩ := len2 hl
  rw [zc__law_is_truth] at h
  try simp only [← oG_ex] at h
  obtain ⟨a, ea, b, eb, q⟩ := h
  obtain rfl := toB_eq ea
  obtain rfl := toB_eq eb
  cases b <;> simpa [t__law_is_truth, N__law_is_truth, PySem.sizeLine_eq, boolsD, intsD, TyE.sub] using q
abbrev N__law_q : List Str := ["n", "d", "one", "other"]
abbrev ps__law_q : List Str := ["n", "d"]
def t__law_q [WW] : TSD := (sSeq (sPars [2, 3] [.v (eCB (b1 absD) (aCons (eVar 0) aNil)), .v (eCB (b1 absD) (aCons (eVar 1) aNil))]) (sSeq (sWhile (tVal (eBin gtD (eVar 3) (eC (.int 0)))) (sPars [2, 3] [.v (eVar 3), .v (eBin modD (eCB (b1 intD) (aCons (eVar 2) aNil)) (eVar 3))])) (sRet (eIf (tVal (eBin gtD (eVar 1) (eC (.int 0)))) (eTup [(eBin divD (eVar 0) (eVar 2)), (eBin divD (eVar 1) (eVar 2))]) (eTup [(eBin divD (eUn negD (eVar 0)) (eVar 2)), (eBin divD (eUn negD (eVar 1)) (eVar 2))])))))
def sp__law_q : DSp := fun ds st Q E => match ds with
  | [a, b] => oG (toI a) fun n => oG (toI b) fun d => 0 < d ∧ d < 18446744073709551616 ∧ Q (rD (low n d)) st
  | _ => False
@[simp ↓] theorem zc__law_q {a b : D} {st : Sto} {Q : D → Sto → Prop} {E : Exn → Sto → Prop} : sp__law_q [a, b] st Q E = (oG (toI a) fun n => oG (toI b) fun d => 0 < d ∧ d < 18446744073709551616 ∧ Q (rD (low n d)) st) := rfl
theorem w__law_q (ds : List D) (st : Sto) (Qd : D → Sto → Prop) (Ed : Exn → Sto → Prop) (hl : ds.length = ps__law_q.length) (h : sp__law_q ds st Qd Ed) : t__law_q (fun x _ st' => Ed x st') { nx := fun _ st' => Qd .non st', rt := Qd } (startD N__law_q ds) st := by
  obtain ⟨d0, d1, rfl⟩ := len2 hl
  rw [zc__law_q] at h
  try simp only [← oG_ex] at h
  obtain ⟨n, hn, d, hd, e, hs, q⟩ := h
  cases toI_eq hn; cases toI_eq hd
  simp [t__law_q, N__law_q, PySem.sizeLine_eq, boolsD, intsD, TyE.sub]
  refine while_inv (fun m σ st' => st' = st ∧ ∃ a b : Nat, m = b ∧ σ = [Sl.val (.int n), Sl.val (.int d), Sl.val (.int a), Sl.val (.int b)] ∧ Nat.gcd a b = Int.gcd n d ∧ 0 < Nat.gcd a b) (fun m σ st' hp Nx hN => ?_) d.natAbs _ _ ⟨rfl, n.natAbs, d.natAbs, rfl, ?_, rfl, (gcd_le e).1⟩
  · obtain ⟨rfl, a, b, hm, rfl, hg, h0⟩ := hp
    simp [t__law_q, N__law_q, PySem.sizeLine_eq, boolsD, intsD, TyE.sub]
    by_cases hb : b = 0
    · subst hb
      simp
      rw [Nat.gcd_zero_right] at hg h0
      have hgi : (a : Int) = (Int.gcd n d : Int) := by rw [hg]
      rw [if_pos e]
      obtain ⟨h1, h2⟩ := gcd_le (n := n) e
      rw [hgi]
      refine ⟨div_ok _ h1 h2 hs, div_ok _ h1 h2 hs, ?_⟩
      have e1 : n.fdiv (Int.gcd n d : Int) = n / (Int.gcd n d : Int) := Int.fdiv_eq_ediv_of_nonneg _ (by omega)
      have e2 : d.fdiv (Int.gcd n d : Int) = d / (Int.gcd n d : Int) := Int.fdiv_eq_ediv_of_nonneg _ (by omega)
      rw [e1, e2]
      exact q
    · rw [if_pos (by omega)]
      refine ⟨hb, ?_⟩
      refine hN (a % b) _ _ (by rw [hm]; exact Nat.mod_lt _ (by omega)) ⟨rfl, b, a % b, rfl, ?_, ?_, ?_⟩
      · have : (a : Int).fmod b = ((a % b : Nat) : Int) := by rw [Int.fmod_eq_emod_of_nonneg _ (by omega)]; rfl
        rw [this]
      · rw [Nat.gcd_comm b, ← Nat.gcd_rec, Nat.gcd_comm]; exact hg
      · rw [Nat.gcd_comm b, ← Nat.gcd_rec, Nat.gcd_comm]; exact h0
  · have e1 : (if n < 0 then -n else n) = (n.natAbs : Int) := by split <;> omega
    have e2 : (if d < 0 then -d else d) = (d.natAbs : Int) := by split <;> omega
    rw [e1, e2]
abbrev N__law_less : List Str := ["one", "other"]
abbrev ps__law_less : List Str := ["one", "other"]
def t__law_less [WW] : TSD := (sRet (eBin ltD (eBin mulsD (eBin ixD (eVar 0) (eC (.int 0))) (eBin ixD (eVar 1) (eC (.int 1)))) (eBin mulsD (eBin ixD (eVar 1) (eC (.int 0))) (eBin ixD (eVar 0) (eC (.int 1))))))
def sp__law_less : DSp := fun ds st Q E => match ds with
  | [a, b] => oG (toR a) fun a => oG (toR b) fun b => Okr a ∧ Okr b ∧ Q (.bl (less a b)) st
  | _ => False
@[simp ↓] theorem zc__law_less {a b : D} {st : Sto} {Q : D → Sto → Prop} {E : Exn → Sto → Prop} : sp__law_less [a, b] st Q E = (oG (toR a) fun a => oG (toR b) fun b => Okr a ∧ Okr b ∧ Q (.bl (less a b)) st) := rfl
theorem w__law_less (ds : List D) (st : Sto) (Qd : D → Sto → Prop) (Ed : Exn → Sto → Prop) (hl : ds.length = ps__law_less.length) (h : sp__law_less ds st Qd Ed) : t__law_less (fun x _ st' => Ed x st') { nx := fun _ st' => Qd .non st', rt := Qd } (startD N__law_less ds) st := by
  obtain ⟨d0, d1, rfl⟩ := len2 hl
  rw [zc__law_less] at h
  try simp only [← oG_ex] at h
  obtain ⟨a, ha, b, hb, oa, ob, q⟩ := h
  cases toR_eq ha; cases toR_eq hb
  obtain ⟨a1, a2, a3, a4⟩ := oa
  obtain ⟨b1, b2, b3, b4⟩ := ob
  simp [t__law_less, N__law_less, PySem.sizeLine_eq, boolsD, intsD, TyE.sub]
  exact ⟨mulOk (by omega) (by omega), mulOk (by omega) (by omega), q⟩
abbrev N__law_ct_lots : List Str := ["people", "found", "person", "lot"]
abbrev ps__law_ct_lots : List Str := ["people"]
def t__law_ct_lots [WW] : TSD := (sSeq (sAsg 1 (eLst [(eTup [])])) (sSeq (sFor (iRange1 (eVar 0)) (gN 2) (sAsg 1 (eBin addD (eVar 1) (eN (nLc (iAnyD (eVar 1)) (.n 3) tYesD (eBin addD (eVar 3) (eTup [(eVar 2)])) [3]))))) (sRet (eSl (eCB (b1 sortedD) (aCons (eVar 1) aNil)) (some (eC (.int 1))) none))))
def sp__law_ct_lots : DSp := fun ds st Q E => match ds with
  | [a] => oG (toP a) fun p => Q (.lst ((lots p).map iL)) st
  | _ => False
@[simp ↓] theorem zc__law_ct_lots {a : D} {st : Sto} {Q : D → Sto → Prop} {E : Exn → Sto → Prop} : sp__law_ct_lots [a] st Q E = (oG (toP a) fun p => Q (.lst ((lots p).map iL)) st) := rfl
theorem w__law_ct_lots (ds : List D) (st : Sto) (Qd : D → Sto → Prop) (Ed : Exn → Sto → Prop) (hl : ds.length = ps__law_ct_lots.length) (h : sp__law_ct_lots ds st Qd Ed) : t__law_ct_lots (fun x _ st' => Ed x st') { nx := fun _ st' => Qd .non st', rt := Qd } (startD N__law_ct_lots ds) st := by
  obtain ⟨d0, rfl⟩ := len1 hl
  rw [zc__law_ct_lots] at h
  try simp only [← oG_ex] at h
  obtain ⟨p, hp, q⟩ := h
  obtain ⟨rfl, p1, p4⟩ := toP_eq hp
  have : p = 1 ∨ p = 2 ∨ p = 3 ∨ p = 4 := by omega
  rcases this with rfl | rfl | rfl | rfl
  · simp [t__law_ct_lots, N__law_ct_lots, PySem.sizeLine_eq, boolsD, intsD, TyE.sub, ↓DL.u_for0, ↓DL.u_for1, ↓DL.u_map0, ↓DL.u_map1, rangeL_s, rangeL_0, big62, sizeLine_eq]
    exact lots_end (p := 1) (Q := fun d => Qd d st) (by decide) q
  · simp [t__law_ct_lots, N__law_ct_lots, PySem.sizeLine_eq, boolsD, intsD, TyE.sub, ↓DL.u_for0, ↓DL.u_for1, ↓DL.u_map0, ↓DL.u_map1, rangeL_s, rangeL_0, big62, sizeLine_eq]
    exact lots_end (p := 2) (Q := fun d => Qd d st) (by decide) q
  · simp [t__law_ct_lots, N__law_ct_lots, PySem.sizeLine_eq, boolsD, intsD, TyE.sub, ↓DL.u_for0, ↓DL.u_for1, ↓DL.u_map0, ↓DL.u_map1, rangeL_s, rangeL_0, big62, sizeLine_eq]
    exact lots_end (p := 3) (Q := fun d => Qd d st) (by decide) q
  · simp [t__law_ct_lots, N__law_ct_lots, PySem.sizeLine_eq, boolsD, intsD, TyE.sub, ↓DL.u_for0, ↓DL.u_for1, ↓DL.u_map0, ↓DL.u_map1, rangeL_s, rangeL_0, big62, sizeLine_eq]
    exact lots_end (p := 4) (Q := fun d => Qd d st) (by decide) q
abbrev N__law_ct_share : List Str := ["shares", "lot", "person"]
abbrev ps__law_ct_share : List Str := ["shares", "lot", "person"]
def t__law_ct_share [WW] : TSD := (sRet (eBin ixD (eBin ixD (eVar 0) (eVar 1)) (eIndexT (eVar 1) (eVar 2))))
def sp__law_ct_share : DSp := fun ds st Q E => match ds with
  | [a, b, c] => oG (toL b) fun l => oG (toI c) fun i => (∃ p, IsSh p a ∧ l ∈ lots p ∧ p ≤ 4 ∧ i ∈ l) ∧ Q (rD (shareAt a l i)) st
  | _ => False
@[simp ↓] theorem zc__law_ct_share {a b c : D} {st : Sto} {Q : D → Sto → Prop} {E : Exn → Sto → Prop} : sp__law_ct_share [a, b, c] st Q E = (oG (toL b) fun l => oG (toI c) fun i => (∃ p, IsSh p a ∧ l ∈ lots p ∧ p ≤ 4 ∧ i ∈ l) ∧ Q (rD (shareAt a l i)) st) := rfl
theorem w__law_ct_share (ds : List D) (st : Sto) (Qd : D → Sto → Prop) (Ed : Exn → Sto → Prop) (hl : ds.length = ps__law_ct_share.length) (h : sp__law_ct_share ds st Qd Ed) : t__law_ct_share (fun x _ st' => Ed x st') { nx := fun _ st' => Qd .non st', rt := Qd } (startD N__law_ct_share ds) st := by
  obtain ⟨d0, d1, d2, rfl⟩ := len3 hl
  rw [zc__law_ct_share] at h
  try simp only [← oG_ex] at h
  obtain ⟨l, hl', i, hi, ⟨p, hS, hlot, p4, hm⟩, q⟩ := h
  cases toL_eq hl'; cases toI_eq hi
  have nS := hS.nod
  have e1 : idxD (l.map .int) (.int i) = some (l.idxOf i) := by rw [idx_ints, idx_of_mem hm]
  simp [t__law_ct_share, N__law_ct_share, PySem.sizeLine_eq, boolsD, intsD, TyE.sub, DL.z_fz_nod nS, DL.z_rd_nod nS, hS.ix hlot, e1, at_nat, at_map, hS.get hlot hm]
  exact q
abbrev N__law_k66_kind : List Str := ["error", "told", "at", "here"]
abbrev ps__law_k66_kind : List Str := ["error"]
def t__law_k66_kind [WW] (K : PySem.W.Frag) : TSD := (sSeq (sAsg 1 (eLst [(eIsOwn K (He.ga K "BadPeople") (eVar 0)), (eIsOwn K (He.ga K "BadShares") (eVar 0)), (eIsOwn K (He.ga K "BadWorths") (eVar 0)), (eIsOwn K (He.ga K "BadLot") (eVar 0)), (eIsOwn K (He.ga K "BadBids") (eVar 0))])) (sRet (eN (nLc (iEnumD (eVar 1)) (.t [2, 3]) (tVal (eVar 3)) (eVar 2) [2, 3]))))
def names : List Str := ["BadPeople", "BadShares", "BadWorths", "BadLot", "BadBids"]
/-- what is known of the kinds of error -/
structure Kinds (K : PySem.W.Frag) : Prop where
  ok : ∀ x ∈ names, excCB K (He.ga K x) = true
  kit : ∀ (i j : Nat) (x y : Str), names[i]? = some x → names[j]? = some y → PySem.W.kitOne K (.ref (He.ga K x)) (.ref (He.ga K y)) = some (decide (i = j))
  exm : ∀ x ∈ names, PySem.W.exmOne K (.ref (He.ga K x)) (.ref (He.ga K "LieError")) = some true
def toE : D → Option Addr
  | .exc c [] => some c
  | _ => none
theorem toE_eq {d : D} {c : Addr} (h : toE d = some c) : d = .exc c [] := by
  unfold toE at h; split at h
  · cases h; rfl
  · cases h
theorem toE_exc (c : Addr) : toE (.exc c []) = some c := rfl
def kindOf (K : PySem.W.Frag) (c : Addr) : Nat := names.findIdx fun x => decide (He.ga K x = c)
theorem Kinds.at {K : PySem.W.Frag} (h : Kinds K) {i : Nat} {x : Str} (hx : names[i]? = some x) : kindOf K (He.ga K x) = i := by
  unfold kindOf
  have hi : i < names.length := (List.getElem?_eq_some_iff.mp hx).1
  have hxi : names[i] = x := (List.getElem?_eq_some_iff.mp hx).2
  rw [List.findIdx_eq hi]
  refine ⟨by rw [hxi]; exact decide_eq_true rfl, fun j hj => decide_eq_false fun z => ?_⟩
  have hjl : j < names.length := by omega
  have h1 := h.kit j i names[j] x (List.getElem?_eq_getElem hjl) hx
  have h2 := h.kit i i x x hx hx
  rw [z, h2, decide_eq_true rfl, decide_eq_false (by omega)] at h1
  cases h1
def sp__law_k66_kind (K : PySem.W.Frag) : DSp := fun ds st Q E => match ds with
  | [a] => oG (toE a) fun c => (Kinds K ∧ ∃ (i : Nat) (x : Str), names[i]? = some x ∧ c = He.ga K x) ∧ Q (.lst [.int (kindOf K c)]) st
  | _ => False
@[simp ↓] theorem zc__law_k66_kind {K : PySem.W.Frag} {a : D} {st : Sto} {Q : D → Sto → Prop} {E : Exn → Sto → Prop} : sp__law_k66_kind K [a] st Q E = (oG (toE a) fun c => (Kinds K ∧ ∃ (i : Nat) (x : Str), names[i]? = some x ∧ c = He.ga K x) ∧ Q (.lst [.int (kindOf K c)]) st) := rfl
theorem w__law_k66_kind {K : PySem.W.Frag} (ds : List D) (st : Sto) (Qd : D → Sto → Prop) (Ed : Exn → Sto → Prop) (hl : ds.length = ps__law_k66_kind.length) (h : sp__law_k66_kind K ds st Qd Ed) : t__law_k66_kind K (fun x _ st' => Ed x st') { nx := fun _ st' => Qd .non st', rt := Qd } (startD N__law_k66_kind ds) st := by
  obtain ⟨d0, rfl⟩ := len1 hl
  rw [zc__law_k66_kind] at h
  try simp only [← oG_ex] at h
  obtain ⟨c, hc, ⟨hK, i, x, hx, rfl⟩, q⟩ := h
  obtain rfl := toE_eq hc
  rw [hK.at hx] at q
  have k1 := hK.kit i 0 x "BadPeople" hx rfl
  have k2 := hK.kit i 1 x "BadShares" hx rfl
  have k3 := hK.kit i 2 x "BadWorths" hx rfl
  have k4 := hK.kit i 3 x "BadLot" hx rfl
  have k5 := hK.kit i 4 x "BadBids" hx rfl
  have hi : i < 5 := (List.getElem?_eq_some_iff.mp hx).1
  have h5 : i = 0 ∨ i = 1 ∨ i = 2 ∨ i = 3 ∨ i = 4 := by omega
  have ho := hK.ok x (List.mem_of_getElem? hx)
  rcases h5 with rfl | rfl | rfl | rfl | rfl <;>
  · simp [t__law_k66_kind, N__law_k66_kind, PySem.sizeLine_eq, boolsD, intsD, TyE.sub, ↓DL.u_for0, ↓DL.u_for1, ↓DL.u_map0, ↓DL.u_map1, ho, k1, k2, k3, k4, k5, List.mapIdx, List.mapIdx.go]
    exact q
abbrev N_is_ratio : List Str := ["value", "part"]
abbrev ps_is_ratio : List Str := ["value"]
def t_is_ratio [WW] : TSD := (sSeq (sIf (tOrD (tNotD (tVal (eIsi [.tup] (eVar 0)))) (tOrD (tVal (eBin neD (eCB (b1 lenD) (aCons (eVar 0) aNil)) (eC (.int 2)))) (tNotD (tVal (eCB (b1 allD) (aCons (eN (nLc (iAnyD (eVar 0)) (.n 1) tYesD (eCall sp_is_whole [(eVar 1)]) [1])) aNil)))))) (sRet (eC (.bl false))) sNext) (sRet (eAnd (eBin gtD (eBin ixD (eVar 0) (eC (.int 1))) (eC (.int 0))) (eBin eqD (eCB (b2 gcdD) (aCons (eBin ixD (eVar 0) (eC (.int 0))) (aCons (eBin ixD (eVar 0) (eC (.int 1))) aNil))) (eC (.int 1))))))
def sp_is_ratio : DSp := fun ds st Q E => match ds with
  | [a] => Pl 2 a ∧ Q (.bl (isR a)) st
  | _ => False
@[simp ↓] theorem zc_is_ratio {a : D} {st : Sto} {Q : D → Sto → Prop} {E : Exn → Sto → Prop} : sp_is_ratio [a] st Q E = (Pl 2 a ∧ Q (.bl (isR a)) st) := rfl
theorem w_is_ratio (ds : List D) (st : Sto) (Qd : D → Sto → Prop) (Ed : Exn → Sto → Prop) (hl : ds.length = ps_is_ratio.length) (h : sp_is_ratio ds st Qd Ed) : t_is_ratio (fun x _ st' => Ed x st') { nx := fun _ st' => Qd .non st', rt := Qd } (startD N_is_ratio ds) st := by
  obtain ⟨d0, rfl⟩ := len1 hl
  rw [zc_is_ratio] at h
  try simp only [← oG_ex] at h
  obtain ⟨hp, q⟩ := h
  cases d0 <;> first | (exact hp.elim) | skip
  case tup ds =>
    by_cases h2 : ds.length = 2
    · obtain ⟨x, y, rfl⟩ := len2 h2
      have hx : Pl 1 x := hp x (by simp)
      have hy : Pl 1 y := hp y (by simp)
      obtain ⟨tx, ex⟩ := pl_ty hx
      obtain ⟨ty, ey⟩ := pl_ty hy
      have nx := pl_nod hx
      have ny := pl_nod hy
      rcases isW_cases x with ⟨i, rfl⟩ | wx
      · rcases isW_cases y with ⟨j, rfl⟩ | wy
        · simp [t_is_ratio, N_is_ratio, PySem.sizeLine_eq, boolsD, intsD, TyE.sub, ↓DL.u_for0, ↓DL.u_for1, ↓DL.u_map0, ↓DL.u_map1, isW_int]
          have e1 : isR (.tup [.int i, .int j]) = (decide (0 < j) && decide (Int.gcd i j = 1)) := rfl
          rw [e1] at q
          by_cases hj : 0 < j
          · rw [if_pos hj]
            have e2 : (decide ((Int.gcd i j : Int) = 1)) = decide (Int.gcd i j = 1) := by
              rw [Bool.eq_iff_iff, decide_eq_true_eq, decide_eq_true_eq]; omega
            simpa [hj, e2] using q
          · rw [if_neg hj]
            simpa [hj] using q
        · simp [t_is_ratio, N_is_ratio, PySem.sizeLine_eq, boolsD, intsD, TyE.sub, ↓DL.u_for0, ↓DL.u_for1, ↓DL.u_map0, ↓DL.u_map1, isW_int, ey, wy, DL.z_fz_nod ny, DL.z_rd_nod ny]
          have e1 : isR (.tup [.int i, y]) = false := by cases y <;> first | rfl | cases wy
          rw [e1] at q; exact q
      · simp [t_is_ratio, N_is_ratio, PySem.sizeLine_eq, boolsD, intsD, TyE.sub, ↓DL.u_for0, ↓DL.u_for1, ↓DL.u_map0, ↓DL.u_map1, isW_int, ex, ey, wx, DL.z_fz_nod nx, DL.z_rd_nod nx, DL.z_fz_nod ny, DL.z_rd_nod ny]
        have e1 : isR (.tup [x, y]) = false := by cases x <;> first | rfl | cases wx
        rw [e1] at q; exact q
    · have hl : ¬ (ds.length : Int) = 2 := by omega
      simp [t_is_ratio, N_is_ratio, PySem.sizeLine_eq, boolsD, intsD, TyE.sub, hl]
      rw [isR_len h2] at q; exact q
  all_goals (simp [t_is_ratio, N_is_ratio, PySem.sizeLine_eq, boolsD, intsD, TyE.sub]; exact q)
abbrev N_minus : List Str := ["one", "other"]
abbrev ps_minus : List Str := ["one", "other"]
def t_minus [WW] : TSD := (sRet (eCall sp_lowest [(eBin subD (eBin mulsD (eBin ixD (eVar 0) (eC (.int 0))) (eBin ixD (eVar 1) (eC (.int 1)))) (eBin mulsD (eBin ixD (eVar 1) (eC (.int 0))) (eBin ixD (eVar 0) (eC (.int 1))))), (eBin mulsD (eBin ixD (eVar 0) (eC (.int 1))) (eBin ixD (eVar 1) (eC (.int 1))))]))
def sp_minus : DSp := fun ds st Q E => match ds with
  | [a, b] => oG (toR a) fun a => oG (toR b) fun b => Okr a ∧ Okr b ∧ Q (rD (sub a b)) st
  | _ => False
@[simp ↓] theorem zc_minus {a b : D} {st : Sto} {Q : D → Sto → Prop} {E : Exn → Sto → Prop} : sp_minus [a, b] st Q E = (oG (toR a) fun a => oG (toR b) fun b => Okr a ∧ Okr b ∧ Q (rD (sub a b)) st) := rfl
theorem w_minus (ds : List D) (st : Sto) (Qd : D → Sto → Prop) (Ed : Exn → Sto → Prop) (hl : ds.length = ps_minus.length) (h : sp_minus ds st Qd Ed) : t_minus (fun x _ st' => Ed x st') { nx := fun _ st' => Qd .non st', rt := Qd } (startD N_minus ds) st := by
  obtain ⟨d0, d1, rfl⟩ := len2 hl
  rw [zc_minus] at h
  try simp only [← oG_ex] at h
  obtain ⟨a, ha, b, hb, oa, ob, q⟩ := h
  cases toR_eq ha; cases toR_eq hb
  obtain ⟨a1, a2, a3, a4⟩ := oa
  obtain ⟨b1, b2, b3, b4⟩ := ob
  have hp := pos_mul a1 b1 a2 b2
  simp [t_minus, N_minus, PySem.sizeLine_eq, boolsD, intsD, TyE.sub, toI]
  exact ⟨mulOk (by omega) (by omega), mulOk (by omega) (by omega), mulOk (by omega) (by omega), hp.1, hp.2, q⟩
abbrev N_is_people : List Str := ["value"]
abbrev ps_is_people : List Str := ["value"]
def t_is_people [WW] : TSD := (sRet (eAnd (eCall sp_is_whole [(eVar 0)]) (eChain leD leD (eC (.int 1)) (eVar 0) (eC (.int 4)))))
def sp_is_people : DSp := fun ds st Q E => match ds with
  | [a] => Pl 40 a ∧ Q (.bl (isP a)) st
  | _ => False
@[simp ↓] theorem zc_is_people {a : D} {st : Sto} {Q : D → Sto → Prop} {E : Exn → Sto → Prop} : sp_is_people [a] st Q E = (Pl 40 a ∧ Q (.bl (isP a)) st) := rfl
theorem w_is_people (ds : List D) (st : Sto) (Qd : D → Sto → Prop) (Ed : Exn → Sto → Prop) (hl : ds.length = ps_is_people.length) (h : sp_is_people ds st Qd Ed) : t_is_people (fun x _ st' => Ed x st') { nx := fun _ st' => Qd .non st', rt := Qd } (startD N_is_people ds) st := by
  obtain ⟨d0, rfl⟩ := len1 hl
  rw [zc_is_people] at h
  try simp only [← oG_ex] at h
  obtain ⟨hp, q⟩ := h
  rcases isW_cases d0 with ⟨i, rfl⟩ | wx
  · simp [t_is_people, N_is_people, PySem.sizeLine_eq, boolsD, intsD, TyE.sub, isW_int]
    have e : isP (.int i) = (decide (1 ≤ i) && decide (i ≤ 4)) := rfl
    rw [e] at q
    by_cases h1 : 1 ≤ i
    · simpa [h1] using q
    · simpa [h1] using q
  · obtain ⟨t, e⟩ := pl_ty hp
    have nx := pl_nod hp
    simp [t_is_people, N_is_people, PySem.sizeLine_eq, boolsD, intsD, TyE.sub, e, wx, DL.z_fz_nod nx, DL.z_rd_nod nx]
    have e1 : isP d0 = false := by cases d0 <;> first | rfl | cases wx
    rw [e1] at q; exact q
abbrev N_is_lot_of : List Str := ["people", "value", "person"]
abbrev ps_is_lot_of : List Str := ["people", "value"]
def t_is_lot_of [WW] : TSD := (sSeq (sIf (tOrD (tNotD (tVal (eIsi [.tup] (eVar 1)))) (tOrD (tVal (eBin eqD (eVar 1) (eTup []))) (tNotD (tVal (eCB (b1 allD) (aCons (eN (nLc (iAnyD (eVar 1)) (.n 2) tYesD (eCall sp_is_whole [(eVar 2)]) [2])) aNil)))))) (sRet (eC (.bl false))) sNext) (sRet (eBin inD (eVar 1) (eCall sp_lots_of [(eVar 0)]))))
def sp_is_lot_of : DSp := fun ds st Q E => match ds with
  | [a, b] => oG (toP a) fun p => Pl 3 b ∧ Q (.bl (isLot p b)) st
  | _ => False
@[simp ↓] theorem zc_is_lot_of {a b : D} {st : Sto} {Q : D → Sto → Prop} {E : Exn → Sto → Prop} : sp_is_lot_of [a, b] st Q E = (oG (toP a) fun p => Pl 3 b ∧ Q (.bl (isLot p b)) st) := rfl
theorem w_is_lot_of (ds : List D) (st : Sto) (Qd : D → Sto → Prop) (Ed : Exn → Sto → Prop) (hl : ds.length = ps_is_lot_of.length) (h : sp_is_lot_of ds st Qd Ed) : t_is_lot_of (fun x _ st' => Ed x st') { nx := fun _ st' => Qd .non st', rt := Qd } (startD N_is_lot_of ds) st := by
  obtain ⟨d0, d1, rfl⟩ := len2 hl
  rw [zc_is_lot_of] at h
  try simp only [← oG_ex] at h
  obtain ⟨p, hp, hb, q⟩ := h
  obtain ⟨rfl, p1, p4⟩ := toP_eq hp
  cases d1 <;> first | (exact hb.elim) | skip
  case tup ds =>
    have p39 : ∀ x ∈ ds, Pl 39 x := fun x hx => pl_mono (hb x hx) (show 2 ≤ 39 by omega)
    cases he : ds.isEmpty
    · simp [t_is_lot_of, N_is_lot_of, PySem.sizeLine_eq, boolsD, intsD, TyE.sub, p39, he]
      refine ⟨fun x hx => p39 x hx, map_allD (fun d => .bl (isW d)) ds (fun d hd Kt Kf hk => ?_) ?_⟩
      · have pd : Pl 2 d := hb d hd
        obtain ⟨t, et⟩ := pl_ty pd
        have nd := pl_nod pd
        simp [t_is_lot_of, N_is_lot_of, PySem.sizeLine_eq, boolsD, intsD, TyE.sub, et, DL.z_fz_nod nd, DL.z_rd_nod nd]
        exact hk _ rfl
      · cases ea : ds.all isW
        · have e : isLot p (.tup ds) = false := by
            show (match toL (.tup ds) with | some l => decide (l ∈ lots p) | none => false) = false
            cases et : toL (.tup ds) with
            | none => rfl
            | some l =>
              have := toL_eq et
              injection this with this
              rw [this] at ea
              rw [List.all_map] at ea
              simp [isW, Function.comp_def] at ea
          rw [e] at q
          simp [t_is_lot_of, N_is_lot_of, PySem.sizeLine_eq, boolsD, intsD, TyE.sub, List.all_map, Function.comp_def]
          rw [if_pos (by simpa using ea)]
          exact q
        · obtain ⟨l, rfl⟩ := isW_all ea
          simp [t_is_lot_of, N_is_lot_of, PySem.sizeLine_eq, boolsD, intsD, TyE.sub, List.all_map, Function.comp_def, isW_int, toP_nat p1 p4]
          have e : isLot p (.tup (l.map .int)) = decide (l ∈ lots p) := by
            show (match toL (.tup (l.map .int)) with | some l => decide (l ∈ lots p) | none => false) = _
            rw [s_toL]
          rw [e] at q
          exact q
    · have : ds = [] := by simpa using he
      subst this
      simp [t_is_lot_of, N_is_lot_of, PySem.sizeLine_eq, boolsD, intsD, TyE.sub]
      have e : isLot p (.tup []) = false := by
        show decide ([] ∈ lots p) = false
        rw [decide_eq_false_iff_not]
        intro z; exact ((lots_len p4).2 _ z).2 rfl
      rw [e] at q; exact q
  all_goals (simp [t_is_lot_of, N_is_lot_of, PySem.sizeLine_eq, boolsD, intsD, TyE.sub]; exact q)
abbrev N_stays : List Str := ["shares", "bids", "lot", "person", "share"]
abbrev ps_stays : List Str := ["shares", "bids", "lot"]
def t_stays [WW] : TSD := (sRet (eCB (b1 tupleD) (aCons (eN (nLc (iZipD (eVar 2) (eBin ixD (eVar 0) (eVar 2))) (.t [3, 4]) (tNotD (tVal (eCall sp_is_less [(eBin ixD (eVar 1) (eVar 3)), (eVar 4)]))) (eVar 3) [3, 4])) aNil)))
def sp_stays : DSp := fun ds st Q E => match ds with
  | [a, b, c] => oG (toL c) fun l => (∃ p, IsSh p a ∧ IsB p b ∧ l ∈ lots p ∧ p ≤ 4) ∧ Q (iL (stay a (bid b) l)) st
  | _ => False
@[simp ↓] theorem zc_stays {a b c : D} {st : Sto} {Q : D → Sto → Prop} {E : Exn → Sto → Prop} : sp_stays [a, b, c] st Q E = (oG (toL c) fun l => (∃ p, IsSh p a ∧ IsB p b ∧ l ∈ lots p ∧ p ≤ 4) ∧ Q (iL (stay a (bid b) l)) st) := rfl
theorem w_stays (ds : List D) (st : Sto) (Qd : D → Sto → Prop) (Ed : Exn → Sto → Prop) (hl : ds.length = ps_stays.length) (h : sp_stays ds st Qd Ed) : t_stays (fun x _ st' => Ed x st') { nx := fun _ st' => Qd .non st', rt := Qd } (startD N_stays ds) st := by
  obtain ⟨d0, d1, d2, rfl⟩ := len3 hl
  rw [zc_stays] at h
  try simp only [← oG_ex] at h
  obtain ⟨l, hl', ⟨p, hS, hB, hlot, p4⟩, q⟩ := h
  cases toL_eq hl'
  have nS := hS.nod
  have nB := hB.nod
  simp [t_stays, N_stays, PySem.sizeLine_eq, boolsD, intsD, TyE.sub, DL.z_fz_nod nS, DL.z_rd_nod nS, DL.z_fz_nod nB, DL.z_rd_nod nB, hS.ix hlot, ↓hS.zip hlot]
  refine map_if (fun i => D.tup [.int i, rD (shareAt d0 l i)]) (fun i => !less (bid d1 i) (shareAt d0 l i)) D.int l (fun i hi Kt Kf k1 k2 => ?_) ?_
  · obtain ⟨h0, h1⟩ := mem_lot hlot hi
    have g1 := (hB.gd h0 h1).ok
    have g2 := (hS.gd hlot hi).ok
    simp [t_stays, N_stays, PySem.sizeLine_eq, boolsD, intsD, TyE.sub, DL.z_fz_nod nS, DL.z_rd_nod nS, DL.z_fz_nod nB, DL.z_rd_nod nB, hB.ix h0 h1, g1, g2]
    cases e : less (bid d1 i) (shareAt d0 l i)
    · exact k1 (by rw [e]; rfl) _ rfl
    · exact k2 (by rw [e]; rfl) _ rfl
  · simp [t_stays, N_stays, PySem.sizeLine_eq, boolsD, intsD, TyE.sub]
    exact q
abbrev N__law_draw : List Str := ["state", "room", "found"]
abbrev ps__law_draw : List Str := ["state", "room"]
def t__law_draw [WW] : TSD := (sSeq (sIf (tVal (eBin eqD (eBin ixD (eVar 0) (eC (.str "rest"))) (eC (.int 0)))) (sPut (eIf (tVal (eBin neD (eBin ixD (eVar 0) (eC (.str "great"))) (eLst []))) (ePopAt (eBin ixD (eVar 0) (eC (.str "great"))) (eC (.int 0))) (eCall sp__law_blended [(eVar 0)])) (eVar 0) (eC (.str "rest"))) sNext) (sSeq (sAsg 2 (eBin modD (eCB (b1 intD) (aCons (eBin ixD (eVar 0) (eC (.str "rest"))) aNil)) (eVar 1))) (sSeq (sPut (eBin divD (eBin ixD (eVar 0) (eC (.str "rest"))) (eVar 1)) (eVar 0) (eC (.str "rest"))) (sRet (eVar 2)))))
def sp__law_draw : DSp := fun ds st Q E => match ds with
  | [a, b] => oG (toA a) fun a => oG (toI b) fun n => (DrawS a st ∧ tn a st < 1000000 ∧ 0 < n ∧ n < 1000000) ∧ ∀ x, 0 ≤ x → x < n → After a st 1 fun st' => Q (.int x) st'
  | _ => False
@[simp ↓] theorem zc__law_draw {a b : D} {st : Sto} {Q : D → Sto → Prop} {E : Exn → Sto → Prop} : sp__law_draw [a, b] st Q E = (oG (toA a) fun a => oG (toI b) fun n => (DrawS a st ∧ tn a st < 1000000 ∧ 0 < n ∧ n < 1000000) ∧ ∀ x, 0 ≤ x → x < n → After a st 1 fun st' => Q (.int x) st') := rfl
theorem w__law_draw (ds : List D) (st : Sto) (Qd : D → Sto → Prop) (Ed : Exn → Sto → Prop) (hl : ds.length = ps__law_draw.length) (h : sp__law_draw ds st Qd Ed) : t__law_draw (fun x _ st' => Ed x st') { nx := fun _ st' => Qd .non st', rt := Qd } (startD N__law_draw ds) st := by
  obtain ⟨d0, d1, rfl⟩ := len2 hl
  rw [zc__law_draw] at h
  try simp only [← oG_ex] at h
  obtain ⟨a, ea, n, en, ⟨⟨g, gs, cs, r, t, hga, ha, hg, ht, hz⟩, htn, n0, n1⟩, q⟩ := h
  obtain rfl := toA_eq ea
  obtain rfl := toI_eq en
  have et := tn_eq ha
  have hD : DrawS a st := ⟨g, gs, cs, r, t, hga, ha, hg, ht, hz⟩
  have fin : ∀ st' (g' : Addr) (gs' cs' : List Int) (r' t' : Int), g' ≠ a → st' a = some (.dK (drD g' cs' r' t')) → st' g' = some (.lst (gs'.map .int)) → 0 ≤ t' → t' ≤ t + 1 → gs'.length ≤ 64 → ∀ x, Qd (.int (Int.fmod x n)) (supd st' a (.dK (drD g' cs' (x.fdiv n) t'))) := by
    intro st' g' gs' cs' r' t' h1 h2 h3 h4 h5 h6 x
    obtain ⟨m1, m2⟩ := fmod_room (x := x) n0
    refine q _ m1 m2 _ ⟨g', gs', cs', _, t', h1, supd_same, by rw [supd_ne h1]; exact h3, h4, h6⟩ ?_
    rw [tn_eq supd_same, et]; omega
  by_cases hr : r = 0
  · cases gs with
    | nil =>
      simp [t__law_draw, N__law_draw, PySem.sizeLine_eq, boolsD, intsD, TyE.sub, ha, hg, hr]
      refine ⟨⟨hD, htn⟩, fun x st' hD' ht' => ?_⟩
      obtain ⟨g', gs', cs', r', t', hga', ha', hg', ht0', hz'⟩ := hD'
      have et' := tn_eq ha'
      simp [t__law_draw, N__law_draw, PySem.sizeLine_eq, boolsD, intsD, TyE.sub, ha', s_sdA]
      refine ⟨by omega, divOk_small n0 n1, ?_⟩
      have := fin (supd st' a (.dK (drD g' cs' x t'))) g' gs' cs' x t' hga' supd_same (by rw [supd_ne hga']; exact hg') ht0' (by omega) hz' x
      exact this
    | cons y ys =>
      have hag : a ≠ g := fun z => hga z.symm
      simp [t__law_draw, N__law_draw, PySem.sizeLine_eq, boolsD, intsD, TyE.sub, ha, hg, hr, ixN, supd_n hga, supd_n hag]
      refine ⟨by omega, divOk_small n0 n1, ?_⟩
      have := fin (supd (supd st g (.lst (ys.map .int))) a (.dK (drD g cs y t))) g ys cs y t hga supd_same (by rw [supd_ne hga]; exact supd_same) ht (by omega) (by simp at hz; omega) y
      exact this
  · simp [t__law_draw, N__law_draw, PySem.sizeLine_eq, boolsD, intsD, TyE.sub, ha, hg, hr]
    refine ⟨by omega, divOk_small n0 n1, ?_⟩
    exact fin st g gs cs r t hga ha hg ht (by omega) hz r
abbrev N__law_same : List Str := ["found", "due", "waiting", "one", "other", "alike", "key", "left", "right"]
abbrev ps__law_same : List Str := ["found", "due"]
def t__law_same [WW] : TSD := (sSeq (sAsgW 2 (nLst [(eTup [(eVar 0), (eVar 1)])])) (sSeq (sWhile (tVal (eBin neD (eVar 2) (eLst []))) (sSeq (sAsgG (ePop (eVar 2)) (gTupD 2 (gsCons (gN 3) (gsCons (gN 4) gsNil)))) (sIf (tOrD (tVal (eBin isDO (eVar 4) (eC .non))) (tVal (eIsi [.bl] (eVar 4)))) (sIf (tIfD (tVal (eBin isDO (eVar 4) (eC .non))) (tVal (eBin isNotDO (eVar 3) (eC .non))) (tNotD (tVal (eCall sp__law_is_truth [(eVar 3), (eVar 4)])))) (sRet (eC (.bl false))) sNext) (sIf (tVal (eIsi [.int, .str] (eVar 4))) (sIf (tOrD (tVal (eIsi [.bl] (eVar 3))) (tOrD (tVal (eBin neD (eIsi [.int] (eVar 3)) (eIsi [.int] (eVar 4)))) (tVal (eBin neD (eVar 3) (eVar 4))))) (sRet (eC (.bl false))) sNext) (sIf (tVal (eIsi [.dct] (eVar 4))) (sSeq (sIf (tOrD (tNotD (tVal (eIsi [.dct] (eVar 3)))) (tVal (eBin neD (eCB (b1 listD) (aCons (eVar 3) aNil)) (eCB (b1 listD) (aCons (eVar 4) aNil))))) (sRet (eC (.bl false))) sNext) (sSeq sNever sNever)) (sSeq (sAsg 5 (eLst [(eAnd (eIsi [.tup] (eVar 3)) (eIsi [.tup] (eVar 4))), (eAnd (eIsi [.lst] (eVar 3)) (eIsi [.lst] (eVar 4)))])) (sSeq (sIf (tOrD (tVal (eBin notInD (eC (.bl true)) (eVar 5))) (tVal (eBin neD (eCB (b1 lenD) (aCons (eVar 3) aNil)) (eCB (b1 lenD) (aCons (eVar 4) aNil))))) (sRet (eC (.bl false))) sNext) (sDrop (eExtend (eVar 2) (eN (nLc (iZipD (eVar 3) (eVar 4)) (.t [7, 8]) tYesD (eTup [(eVar 7), (eVar 8)]) [7, 8]))))))))))) (sRet (eC (.bl true)))))
def sp__law_same : DSp := fun ds st Q E => match ds with
  | [a, b] => (Pl 20 a ∧ a = b ∧ dsz a ≤ 1000000) ∧ Q (.bl true) st
  | _ => False
@[simp ↓] theorem zc__law_same {a b : D} {st : Sto} {Q : D → Sto → Prop} {E : Exn → Sto → Prop} : sp__law_same [a, b] st Q E = ((Pl 20 a ∧ a = b ∧ dsz a ≤ 1000000) ∧ Q (.bl true) st) := rfl
theorem w__law_same (ds : List D) (st : Sto) (Qd : D → Sto → Prop) (Ed : Exn → Sto → Prop) (hl : ds.length = ps__law_same.length) (h : sp__law_same ds st Qd Ed) : t__law_same (fun x _ st' => Ed x st') { nx := fun _ st' => Qd .non st', rt := Qd } (startD N__law_same ds) st := by
  obtain ⟨d0, d1, rfl⟩ := len2 hl
  rw [zc__law_same] at h
  try simp only [← oG_ex] at h
  obtain ⟨⟨hp, rfl, hz⟩, q⟩ := h
  have n0 := pl_nod hp
  simp [t__law_same, N__law_same, PySem.sizeLine_eq, boolsD, intsD, TyE.sub, DL.z_fz_nod n0, DL.z_rd_nod n0]
  refine while_inv (fun m σ st' => st' = st ∧ ∃ ws : List D, ∃ x3 x4 x5 x6 x7 x8, m = dszL ws ∧ m ≤ 1000000 ∧ (∀ w ∈ ws, Pl 20 w) ∧ σ = [Sl.val d0, Sl.val d0, Sl.ol (ws.map pr), x3, x4, x5, x6, x7, x8])
    (fun m σ st' hp' Nx hN => ?_) _ _ _ ⟨rfl, [d0], _, _, _, _, _, _, rfl, by simpa [dszL] using hz, by simpa using hp, rfl⟩
  obtain ⟨rfl, ws, x3, x4, x5, x6, x7, x8, rfl, hm, hw, rfl⟩ := hp'
  have hpl : ∀ x ∈ ws.map pr, Pl 39 x := by
    intro x hx
    obtain ⟨w, hw', rfl⟩ := List.mem_map.mp hx
    have := pl_mono (hw w hw') (show 20 ≤ 38 by omega)
    show ∀ y ∈ [w, w], Pl 38 y
    simp [this]
  rcases List.eq_nil_or_concat ws with rfl | ⟨vs, w, rfl⟩
  · simp [t__law_same, N__law_same, PySem.sizeLine_eq, boolsD, intsD, TyE.sub]
    exact q
  · have hpw := hw w (by simp)
    have hvs : ∀ v ∈ vs, Pl 20 v := fun v hv => hw v (by simp [hv])
    have nw := pl_nod hpw
    rw [List.concat_eq_append] at hpl
    have e0 : dszL (vs.concat w) = dszL vs + dsz w := by rw [List.concat_eq_append, dszL_app]; simp [dszL]
    have hgo : ∀ y3 y4 y5 y6 y7 y8, Nx [Sl.val d0, Sl.val d0, Sl.ol (vs.map pr), y3, y4, y5, y6, y7, y8] st' := fun y3 y4 y5 y6 y7 y8 =>
      hN (dszL vs) _ _ (by have := dsz_pos w; omega) ⟨rfl, vs, y3, y4, y5, y6, y7, y8, rfl, by omega, hvs, rfl⟩
    have hgo2 : ∀ (us : List D) y3 y4 y5 y6 y7 y8, dszL us < dsz w → (∀ u ∈ us, Pl 20 u) → Nx [Sl.val d0, Sl.val d0, Sl.ol (vs.map pr ++ us.map pr), y3, y4, y5, y6, y7, y8] st' := fun us y3 y4 y5 y6 y7 y8 h1 h2 =>
      hN (dszL (vs ++ us)) _ _ (by rw [dszL_app]; omega) ⟨rfl, vs ++ us, y3, y4, y5, y6, y7, y8, rfl, by rw [dszL_app]; omega, fun u hu => (List.mem_append.mp hu).elim (hvs u) (h2 u), by simp⟩
    have hpl2 : ∀ x, (∃ a, a ∈ vs ∧ pr a = x) ∨ x = pr w → Pl 39 x := by
      rintro x (⟨a, ha, rfl⟩ | rfl)
      · exact hpl _ (List.mem_map.mpr ⟨a, by simp [ha], rfl⟩)
      · exact hpl _ (List.mem_map.mpr ⟨w, by simp, rfl⟩)
    have l1 := dszL_len vs
    cases w <;> first | (exact hpw.elim) | skip
    case tup ds =>
      have l2 := dszL_len ds
      have e1 : dsz (.tup ds) = 1 + dszL ds := by simp [dsz]
      simp [t__law_same, N__law_same, PySem.sizeLine_eq, boolsD, intsD, TyE.sub, ↓zip_self]
      refine ⟨hpl2, map_all pr pr ds (fun x hx Kt Kf hk => ?_) ?_⟩
      · have nx := pl_nod (show Pl 19 x from hpw x hx)
        simp [t__law_same, N__law_same, PySem.sizeLine_eq, boolsD, intsD, TyE.sub, DL.z_fz_nod nx, DL.z_rd_nod nx]
        exact hk _ rfl
      · simp [t__law_same, N__law_same, PySem.sizeLine_eq, boolsD, intsD, TyE.sub]
        exact ⟨by omega, hgo2 ds _ _ _ _ _ _ (by omega) fun u hu => pl_mono (show Pl 19 u from hpw u hu) (by omega)⟩
    case lst ds =>
      have l2 := dszL_len ds
      have e1 : dsz (.lst ds) = 1 + dszL ds := by simp [dsz]
      simp [t__law_same, N__law_same, PySem.sizeLine_eq, boolsD, intsD, TyE.sub, ↓zip_self]
      refine ⟨hpl2, map_all pr pr ds (fun x hx Kt Kf hk => ?_) ?_⟩
      · have nx := pl_nod (show Pl 19 x from hpw x hx)
        simp [t__law_same, N__law_same, PySem.sizeLine_eq, boolsD, intsD, TyE.sub, DL.z_fz_nod nx, DL.z_rd_nod nx]
        exact hk _ rfl
      · simp [t__law_same, N__law_same, PySem.sizeLine_eq, boolsD, intsD, TyE.sub]
        exact ⟨by omega, hgo2 ds _ _ _ _ _ _ (by omega) fun u hu => pl_mono (show Pl 19 u from hpw u hu) (by omega)⟩
    all_goals
      simp [t__law_same, N__law_same, PySem.sizeLine_eq, boolsD, intsD, TyE.sub, List.concat_eq_append]
      exact ⟨hpl2, hgo _ _ _ _ _ _⟩
abbrev N__law_plus : List Str := ["one", "other"]
abbrev ps__law_plus : List Str := ["one", "other"]
def t__law_plus [WW] : TSD := (sRet (eCall sp__law_q [(eBin addD (eBin mulsD (eBin ixD (eVar 0) (eC (.int 0))) (eBin ixD (eVar 1) (eC (.int 1)))) (eBin mulsD (eBin ixD (eVar 1) (eC (.int 0))) (eBin ixD (eVar 0) (eC (.int 1))))), (eBin mulsD (eBin ixD (eVar 0) (eC (.int 1))) (eBin ixD (eVar 1) (eC (.int 1))))]))
def sp__law_plus : DSp := fun ds st Q E => match ds with
  | [a, b] => oG (toR a) fun a => oG (toR b) fun b => Okr a ∧ Okr b ∧ Q (rD (add a b)) st
  | _ => False
@[simp ↓] theorem zc__law_plus {a b : D} {st : Sto} {Q : D → Sto → Prop} {E : Exn → Sto → Prop} : sp__law_plus [a, b] st Q E = (oG (toR a) fun a => oG (toR b) fun b => Okr a ∧ Okr b ∧ Q (rD (add a b)) st) := rfl
theorem w__law_plus (ds : List D) (st : Sto) (Qd : D → Sto → Prop) (Ed : Exn → Sto → Prop) (hl : ds.length = ps__law_plus.length) (h : sp__law_plus ds st Qd Ed) : t__law_plus (fun x _ st' => Ed x st') { nx := fun _ st' => Qd .non st', rt := Qd } (startD N__law_plus ds) st := by
  obtain ⟨d0, d1, rfl⟩ := len2 hl
  rw [zc__law_plus] at h
  try simp only [← oG_ex] at h
  obtain ⟨a, ha, b, hb, oa, ob, q⟩ := h
  cases toR_eq ha; cases toR_eq hb
  obtain ⟨a1, a2, a3, a4⟩ := oa
  obtain ⟨b1, b2, b3, b4⟩ := ob
  have hp := pos_mul a1 b1 a2 b2
  simp [t__law_plus, N__law_plus, PySem.sizeLine_eq, boolsD, intsD, TyE.sub, toI]
  exact ⟨mulOk (by omega) (by omega), mulOk (by omega) (by omega), mulOk (by omega) (by omega), hp.1, hp.2, q⟩
abbrev N__law_minus : List Str := ["one", "other"]
abbrev ps__law_minus : List Str := ["one", "other"]
def t__law_minus [WW] : TSD := (sRet (eCall sp__law_q [(eBin subD (eBin mulsD (eBin ixD (eVar 0) (eC (.int 0))) (eBin ixD (eVar 1) (eC (.int 1)))) (eBin mulsD (eBin ixD (eVar 1) (eC (.int 0))) (eBin ixD (eVar 0) (eC (.int 1))))), (eBin mulsD (eBin ixD (eVar 0) (eC (.int 1))) (eBin ixD (eVar 1) (eC (.int 1))))]))
def sp__law_minus : DSp := fun ds st Q E => match ds with
  | [a, b] => oG (toR a) fun a => oG (toR b) fun b => Okr a ∧ Okr b ∧ Q (rD (sub a b)) st
  | _ => False
@[simp ↓] theorem zc__law_minus {a b : D} {st : Sto} {Q : D → Sto → Prop} {E : Exn → Sto → Prop} : sp__law_minus [a, b] st Q E = (oG (toR a) fun a => oG (toR b) fun b => Okr a ∧ Okr b ∧ Q (rD (sub a b)) st) := rfl
theorem w__law_minus (ds : List D) (st : Sto) (Qd : D → Sto → Prop) (Ed : Exn → Sto → Prop) (hl : ds.length = ps__law_minus.length) (h : sp__law_minus ds st Qd Ed) : t__law_minus (fun x _ st' => Ed x st') { nx := fun _ st' => Qd .non st', rt := Qd } (startD N__law_minus ds) st := by
  obtain ⟨d0, d1, rfl⟩ := len2 hl
  rw [zc__law_minus] at h
  try simp only [← oG_ex] at h
  obtain ⟨a, ha, b, hb, oa, ob, q⟩ := h
  cases toR_eq ha; cases toR_eq hb
  obtain ⟨a1, a2, a3, a4⟩ := oa
  obtain ⟨b1, b2, b3, b4⟩ := ob
  have hp := pos_mul a1 b1 a2 b2
  simp [t__law_minus, N__law_minus, PySem.sizeLine_eq, boolsD, intsD, TyE.sub, toI]
  exact ⟨mulOk (by omega) (by omega), mulOk (by omega) (by omega), mulOk (by omega) (by omega), hp.1, hp.2, q⟩
abbrev N__law_times : List Str := ["one", "other"]
abbrev ps__law_times : List Str := ["one", "other"]
def t__law_times [WW] : TSD := (sRet (eCall sp__law_q [(eBin mulsD (eBin ixD (eVar 0) (eC (.int 0))) (eBin ixD (eVar 1) (eC (.int 0)))), (eBin mulsD (eBin ixD (eVar 0) (eC (.int 1))) (eBin ixD (eVar 1) (eC (.int 1))))]))
def sp__law_times : DSp := fun ds st Q E => match ds with
  | [a, b] => oG (toR a) fun a => oG (toR b) fun b => Okr a ∧ Okr b ∧ Q (rD (mul a b)) st
  | _ => False
@[simp ↓] theorem zc__law_times {a b : D} {st : Sto} {Q : D → Sto → Prop} {E : Exn → Sto → Prop} : sp__law_times [a, b] st Q E = (oG (toR a) fun a => oG (toR b) fun b => Okr a ∧ Okr b ∧ Q (rD (mul a b)) st) := rfl
theorem w__law_times (ds : List D) (st : Sto) (Qd : D → Sto → Prop) (Ed : Exn → Sto → Prop) (hl : ds.length = ps__law_times.length) (h : sp__law_times ds st Qd Ed) : t__law_times (fun x _ st' => Ed x st') { nx := fun _ st' => Qd .non st', rt := Qd } (startD N__law_times ds) st := by
  obtain ⟨d0, d1, rfl⟩ := len2 hl
  rw [zc__law_times] at h
  try simp only [← oG_ex] at h
  obtain ⟨a, ha, b, hb, oa, ob, q⟩ := h
  cases toR_eq ha; cases toR_eq hb
  obtain ⟨a1, a2, a3, a4⟩ := oa
  obtain ⟨b1, b2, b3, b4⟩ := ob
  have hp := pos_mul a1 b1 a2 b2
  simp [t__law_times, N__law_times, PySem.sizeLine_eq, boolsD, intsD, TyE.sub, toI]
  exact ⟨mulOk (by omega) (by omega), mulOk (by omega) (by omega), hp.1, hp.2, q⟩
abbrev N__law_ct_rise : List Str := ["people", "shares", "less", "great", "person"]
abbrev ps__law_ct_rise : List Str := ["people", "shares"]
def t__law_ct_rise [WW] : TSD := (sSeq (sFor (iAnyD (eCall sp__law_ct_lots [(eVar 0)])) (gN 2) (sFor (iAnyD (eCall sp__law_ct_lots [(eVar 0)])) (gN 3) (sIf (tAndD (tVal (eBin neD (eVar 2) (eVar 3))) (tVal (eBin eqD (eN (nLc (iAnyD (eVar 2)) (.n 4) (tVal (eBin notInD (eVar 4) (eVar 3))) (eC (.int 1)) [4])) (eLst [])))) (sFor (iAnyD (eVar 2)) (gN 4) (sIf (tVal (eCall sp__law_less [(eCall sp__law_ct_share [(eVar 1), (eVar 2), (eVar 4)]), (eCall sp__law_ct_share [(eVar 1), (eVar 3), (eVar 4)])])) (sRet (eTup [(eVar 2), (eVar 3), (eVar 4)])) sNext)) sNext))) (sRet (eC .non)))
def RiseOf (p : Nat) (S d : D) : Prop := (d = .non ∧ Never p S) ∨ ∃ l g i, d = .tup [iL l, iL g, .int i]
def sp__law_ct_rise : DSp := fun ds st Q E => match ds with
  | [a, b] => oG (toP a) fun p => IsSh p b ∧ ∀ d, RiseOf p b d → Q d st
  | _ => False
@[simp ↓] theorem zc__law_ct_rise {a b : D} {st : Sto} {Q : D → Sto → Prop} {E : Exn → Sto → Prop} : sp__law_ct_rise [a, b] st Q E = (oG (toP a) fun p => IsSh p b ∧ ∀ d, RiseOf p b d → Q d st) := rfl
theorem w__law_ct_rise (ds : List D) (st : Sto) (Qd : D → Sto → Prop) (Ed : Exn → Sto → Prop) (hl : ds.length = ps__law_ct_rise.length) (h : sp__law_ct_rise ds st Qd Ed) : t__law_ct_rise (fun x _ st' => Ed x st') { nx := fun _ st' => Qd .non st', rt := Qd } (startD N__law_ct_rise ds) st := by
  obtain ⟨d0, d1, rfl⟩ := len2 hl
  rw [zc__law_ct_rise] at h
  try simp only [← oG_ex] at h
  obtain ⟨p, hp, hS, q⟩ := h
  obtain ⟨rfl, p1, p4⟩ := toP_eq hp
  have nS := hS.nod
  simp [t__law_ct_rise, N__law_ct_rise, PySem.sizeLine_eq, boolsD, intsD, TyE.sub, toP_nat p1 p4]
  refine for_inv (fun i σ st' => st = st' ∧ (∃ x2 x3 x4, σ = [Sl.val (.int p), Sl.val d1, x2, x3, x4]) ∧ ∀ j l, j < i → (lots p)[j]? = some l → ∀ g ∈ lots p, (∀ i ∈ l, i ∈ g) → ∀ i ∈ l, less (shareAt d1 l i) (shareAt d1 g i) = false) ⟨rfl, ⟨_, _, _, rfl⟩, fun j l h => absurd h (Nat.not_lt_zero _)⟩ (fun i d σ st' ed hp' Nx hN => ?_) ?_
  · obtain ⟨rfl, ⟨x2, x3, x4, rfl⟩, hb⟩ := hp'
    rw [List.getElem?_map] at ed
    obtain ⟨l, el, rfl⟩ := Option.map_eq_some_iff.mp ed
    have hl := List.mem_of_getElem? el
    simp [t__law_ct_rise, N__law_ct_rise, PySem.sizeLine_eq, boolsD, intsD, TyE.sub, toP_nat p1 p4]
    refine for_inv (fun k σ st' => st = st' ∧ (∃ x3 x4, σ = [Sl.val (.int p), Sl.val d1, Sl.val (iL l), x3, x4]) ∧ ∀ j g, j < k → (lots p)[j]? = some g → (∀ i ∈ l, i ∈ g) → ∀ i ∈ l, less (shareAt d1 l i) (shareAt d1 g i) = false) ⟨rfl, ⟨_, _, rfl⟩, fun j l h => absurd h (Nat.not_lt_zero _)⟩ (fun k d σ st' ed2 hp' Nx2 hN2 => ?_) ?_
    · obtain ⟨rfl, ⟨x3, x4, rfl⟩, hk⟩ := hp'
      rw [List.getElem?_map] at ed2
      obtain ⟨g, eg, rfl⟩ := Option.map_eq_some_iff.mp ed2
      have hg := List.mem_of_getElem? eg
      have next : ∀ y4, ((∀ i ∈ l, i ∈ g) → ∀ i ∈ l, less (shareAt d1 l i) (shareAt d1 g i) = false) → Nx2 [Sl.val (.int p), Sl.val d1, Sl.val (iL l), Sl.val (iL g), y4] st := fun y4 hc => hN2 _ _ ⟨rfl, ⟨_, _, rfl⟩, fun j g' hj ej => by
        by_cases e : j = k
        · subst e
          rw [eg] at ej; cases ej
          exact hc
        · exact hk j g' (by omega) ej⟩
      simp [t__law_ct_rise, N__law_ct_rise, PySem.sizeLine_eq, boolsD, intsD, TyE.sub]
      by_cases hlg : l = g
      · rw [if_pos hlg]
        refine next _ fun _ i _ => ?_
        rw [hlg]; simp [less]
      · rw [if_neg hlg]
        refine map_if D.int (fun i => !decide (i ∈ g)) (fun _ => D.int 1) l (fun i hi Kt Kf k1 k2 => ?_) ?_
        · simp [t__law_ct_rise, N__law_ct_rise, PySem.sizeLine_eq, boolsD, intsD, TyE.sub]
          by_cases hm : i ∈ g
          · rw [if_pos hm]; exact k2 (by simp [hm]) _ rfl
          · rw [if_neg hm]; exact k1 (by simp [hm]) _ rfl
        · simp [t__law_ct_rise, N__law_ct_rise, PySem.sizeLine_eq, boolsD, intsD, TyE.sub]
          by_cases hsub : ∀ i ∈ l, i ∈ g
          · rw [if_pos hsub]
            refine for_inv (fun n σ st' => st = st' ∧ (∃ x4, σ = [Sl.val (.int p), Sl.val d1, Sl.val (iL l), Sl.val (iL g), x4]) ∧ ∀ j i, j < n → l[j]? = some i → less (shareAt d1 l i) (shareAt d1 g i) = false) ⟨rfl, ⟨_, rfl⟩, fun j i h => absurd h (Nat.not_lt_zero _)⟩ (fun n d σ st' ed3 hp' Nx3 hN3 => ?_) ?_
            · obtain ⟨rfl, ⟨x4, rfl⟩, hn⟩ := hp'
              rw [List.getElem?_map] at ed3
              obtain ⟨i, ei, rfl⟩ := Option.map_eq_some_iff.mp ed3
              have hi := List.mem_of_getElem? ei
              simp [t__law_ct_rise, N__law_ct_rise, PySem.sizeLine_eq, boolsD, intsD, TyE.sub, DL.z_fz_nod nS, DL.z_rd_nod nS]
              refine ⟨⟨p, hS, hl, p4, hi⟩, ⟨p, hS, hg, p4, hsub i hi⟩, (hS.gd hl hi).ok, (hS.gd hg (hsub i hi)).ok, ?_⟩
              by_cases e : less (shareAt d1 l i) (shareAt d1 g i) = true
              · rw [if_pos e]
                exact q _ (.inr ⟨l, g, i, rfl⟩)
              · rw [if_neg e]
                refine hN3 _ _ ⟨rfl, ⟨_, rfl⟩, fun j i' hj ej => ?_⟩
                by_cases ejn : j = n
                · subst ejn
                  rw [ei] at ej; cases ej
                  simpa using e
                · exact hn j i' (by omega) ej
            · rintro σ st' ⟨rfl, ⟨x4, rfl⟩, hn⟩
              rw [List.length_map] at hn
              refine next _ fun _ i hi => ?_
              obtain ⟨j', hj', e'⟩ := List.getElem_of_mem hi
              exact hn j' i hj' (by rw [List.getElem?_eq_getElem hj', e'])
          · rw [if_neg hsub]
            exact next _ fun z => absurd z hsub
    · rintro σ st' ⟨rfl, ⟨x3, x4, rfl⟩, hk⟩
      rw [List.length_map] at hk
      refine hN _ _ ⟨rfl, ⟨_, _, _, rfl⟩, fun j l' hj ej => ?_⟩
      by_cases e : j = i
      · subst e
        rw [el] at ej; cases ej
        intro g hg
        obtain ⟨j', hj', e'⟩ := List.getElem_of_mem hg
        exact hk j' g hj' (by rw [List.getElem?_eq_getElem hj', e'])
      · exact hb j l' (by omega) ej
  · rintro σ st' ⟨rfl, ⟨x2, x3, x4, rfl⟩, hb⟩
    rw [List.length_map] at hb
    simp [t__law_ct_rise, N__law_ct_rise, PySem.sizeLine_eq, boolsD, intsD, TyE.sub]
    refine q _ (.inl ⟨rfl, fun l hl => ?_⟩)
    obtain ⟨j', hj', e'⟩ := List.getElem_of_mem hl
    exact hb j' l hj' (by rw [List.getElem?_eq_getElem hj', e'])
abbrev N__law_ct_served : List Str := ["people", "shares", "bids", "lot", "lap", "person"]
abbrev ps__law_ct_served : List Str := ["people", "shares", "bids"]
def t__law_ct_served [WW] : TSD := (sSeq (sAsg 3 (eTupRg (eVar 0))) (sSeq (sFor (iRange1 (eBin addD (eVar 0) (eC (.int 1)))) (gN 4) (sIf (tVal (eBin neD (eVar 3) (eTup []))) (sAsg 3 (eCB (b1 tupleD) (aCons (eN (nLc (iAnyD (eVar 3)) (.n 5) (tNotD (tVal (eCall sp__law_less [(eBin ixD (eVar 2) (eVar 5)), (eCall sp__law_ct_share [(eVar 1), (eVar 3), (eVar 5)])]))) (eVar 5) [5])) aNil))) sNext)) (sRet (eVar 3))))
def sp__law_ct_served : DSp := fun ds st Q E => match ds with
  | [a, b, c] => oG (toP a) fun p => (IsSh p b ∧ IsB p c) ∧ Q (iL (served p b (bid c))) st
  | _ => False
@[simp ↓] theorem zc__law_ct_served {a b c : D} {st : Sto} {Q : D → Sto → Prop} {E : Exn → Sto → Prop} : sp__law_ct_served [a, b, c] st Q E = (oG (toP a) fun p => (IsSh p b ∧ IsB p c) ∧ Q (iL (served p b (bid c))) st) := rfl
theorem w__law_ct_served (ds : List D) (st : Sto) (Qd : D → Sto → Prop) (Ed : Exn → Sto → Prop) (hl : ds.length = ps__law_ct_served.length) (h : sp__law_ct_served ds st Qd Ed) : t__law_ct_served (fun x _ st' => Ed x st') { nx := fun _ st' => Qd .non st', rt := Qd } (startD N__law_ct_served ds) st := by
  obtain ⟨d0, d1, d2, rfl⟩ := len3 hl
  rw [zc__law_ct_served] at h
  try simp only [← oG_ex] at h
  obtain ⟨p, hp, ⟨hS, hB⟩, q⟩ := h
  obtain ⟨rfl, p1, p4⟩ := toP_eq hp
  have nS := hS.nod
  have nB := hB.nod
  have hd := people_lot p1
  simp [t__law_ct_served, N__law_ct_served, PySem.sizeLine_eq, boolsD, intsD, TyE.sub, DL.z_fz_nod nS, DL.z_rd_nod nS, DL.z_fz_nod nB, DL.z_rd_nod nB, range_people, big62]
  refine ⟨by omega, by omega, by omega, ?_⟩
  refine for_inv (fun i σ st' => st' = st ∧ ∃ x4 x5, σ = [Sl.val (.int p), Sl.val d1, Sl.val d2, Sl.val (iL (itS d1 (bid d2) (people p) i)), x4, x5]) ⟨rfl, _, _, rfl⟩ (fun i d σ st' ed hp' Nx hN => ?_) ?_
  · obtain ⟨rfl, x4, x5, rfl⟩ := hp'
    have hl := it_lot (S := d1) (b := bid d2) (.inl hd) i
    rw [List.getElem?_map] at ed
    obtain ⟨j, _, rfl⟩ := Option.map_eq_some_iff.mp ed
    have ek : itS d1 (bid d2) (people p) (i + 1) = stay d1 (bid d2) (itS d1 (bid d2) (people p) i) := rfl
    rw [ek] at hN
    generalize itS d1 (bid d2) (people p) i = l at *
    simp [t__law_ct_served, N__law_ct_served, PySem.sizeLine_eq, boolsD, intsD, TyE.sub]
    by_cases h0 : l = []
    · rw [if_pos h0]
      exact hN _ _ ⟨rfl, _, _, by rw [h0]; rfl⟩
    · rw [if_neg h0]
      have hlot := hl.resolve_right h0
      refine map_if D.int (fun i => !less (bid d2 i) (shareAt d1 l i)) D.int l (fun i hi Kt Kf k1 k2 => ?_) ?_
      · obtain ⟨h0, h1⟩ := mem_lot hlot hi
        have g1 := (hB.gd h0 h1).ok
        have g2 := (hS.gd hlot hi).ok
        simp [t__law_ct_served, N__law_ct_served, PySem.sizeLine_eq, boolsD, intsD, TyE.sub, DL.z_fz_nod nS, DL.z_rd_nod nS, DL.z_fz_nod nB, DL.z_rd_nod nB, hB.ix h0 h1, g1, g2]
        refine ⟨⟨p, hS, hlot, p4, hi⟩, ?_⟩
        cases e : less (bid d2 i) (shareAt d1 l i)
        · exact k1 (by rw [e]; rfl) _ rfl
        · exact k2 (by rw [e]; rfl) _ rfl
      · simp [t__law_ct_served, N__law_ct_served, PySem.sizeLine_eq, boolsD, intsD, TyE.sub]
        exact hN _ _ ⟨rfl, _, _, rfl⟩
  · rintro σ st' ⟨rfl, x4, x5, rfl⟩
    simp [t__law_ct_served, N__law_ct_served, PySem.sizeLine_eq, boolsD, intsD, TyE.sub]
    rw [people_len]
    exact q
abbrev N_need_people : List Str := ["people"]
abbrev ps_need_people : List Str := ["people"]
def t_need_people [WW] (K : PySem.W.Frag) : TSD := (sIf (tNotD (tVal (eCall sp_is_people [(eVar 0)]))) (sRaise (He.ga K "BadPeople")) sNext)
def sp_need_people (K : PySem.W.Frag) : DSp := fun ds st Q E => match ds with
  | [a] => Pl 40 a ∧ lt (isP a) fun b => if b = true then Q .non st else E (exn K "BadPeople") st
  | _ => False
@[simp ↓] theorem zc_need_people {K : PySem.W.Frag} {a : D} {st : Sto} {Q : D → Sto → Prop} {E : Exn → Sto → Prop} : sp_need_people K [a] st Q E = (Pl 40 a ∧ lt (isP a) fun b => if b = true then Q .non st else E (exn K "BadPeople") st) := rfl
theorem w_need_people {K : PySem.W.Frag} (ds : List D) (st : Sto) (Qd : D → Sto → Prop) (Ed : Exn → Sto → Prop) (hl : ds.length = ps_need_people.length) (h : sp_need_people K ds st Qd Ed) : t_need_people K (fun x _ st' => Ed x st') { nx := fun _ st' => Qd .non st', rt := Qd } (startD N_need_people ds) st := by
  obtain ⟨d0, rfl⟩ := len1 hl
  rw [zc_need_people] at h
  try simp only [← oG_ex] at h
  obtain ⟨hp, q⟩ := h
  have nx := pl_nod hp
  simp [t_need_people, N_need_people, PySem.sizeLine_eq, boolsD, intsD, TyE.sub, hp, DL.z_fz_nod nx, DL.z_rd_nod nx]
  change (if isP d0 = true then Qd D.non st else Ed (exn K "BadPeople") st) at q
  cases e : isP d0 <;> simpa [e, exn] using q
abbrev N_are_amounts : List Str := ["value", "many", "amount"]
abbrev ps_are_amounts : List Str := ["value", "many"]
def t_are_amounts [WW] : TSD := (sSeq (sIf (tOrD (tNotD (tVal (eIsi [.tup] (eVar 0)))) (tVal (eBin neD (eCB (b1 lenD) (aCons (eVar 0) aNil)) (eVar 1)))) (sRet (eC (.bl false))) sNext) (sRet (eCB (b1 allD) (aCons (eN (nLc (iAnyD (eVar 0)) (.n 2) tYesD (eAnd (eCall sp_is_ratio [(eVar 2)]) (eBin geD (eBin ixD (eVar 2) (eC (.int 0))) (eC (.int 0)))) [2])) aNil))))
def sp_are_amounts : DSp := fun ds st Q E => match ds with
  | [a, b] => oG (toI b) fun m => Pl 3 a ∧ Q (.bl (areA m a)) st
  | _ => False
@[simp ↓] theorem zc_are_amounts {a b : D} {st : Sto} {Q : D → Sto → Prop} {E : Exn → Sto → Prop} : sp_are_amounts [a, b] st Q E = (oG (toI b) fun m => Pl 3 a ∧ Q (.bl (areA m a)) st) := rfl
theorem w_are_amounts (ds : List D) (st : Sto) (Qd : D → Sto → Prop) (Ed : Exn → Sto → Prop) (hl : ds.length = ps_are_amounts.length) (h : sp_are_amounts ds st Qd Ed) : t_are_amounts (fun x _ st' => Ed x st') { nx := fun _ st' => Qd .non st', rt := Qd } (startD N_are_amounts ds) st := by
  obtain ⟨d0, d1, rfl⟩ := len2 hl
  rw [zc_are_amounts] at h
  try simp only [← oG_ex] at h
  obtain ⟨m, hm, hp, q⟩ := h
  cases toI_eq hm
  cases d0 <;> first | (exact hp.elim) | skip
  case tup ds =>
    have e : areA m (.tup ds) = (decide ((ds.length : Int) = m) && ds.all isA) := rfl
    rw [e] at q
    simp [t_are_amounts, N_are_amounts, PySem.sizeLine_eq, boolsD, intsD, TyE.sub]
    by_cases hl : (ds.length : Int) = m
    · rw [if_pos (by simpa using hl)]
      refine map_allD (fun d => .bl (isA d)) ds (fun d hd Kt Kf hk => ?_) ?_
      · have pd : Pl 2 d := hp d hd
        have nd := pl_nod pd
        cases er : isR d
        · have e1 : isA d = false := by
            unfold isA; split
            · show (isR (.tup [.int _, .int _]) && decide _) = false
              rw [er]; rfl
            · rfl
          rw [e1] at hk
          simp [t_are_amounts, N_are_amounts, PySem.sizeLine_eq, boolsD, intsD, TyE.sub, pd, er, DL.z_fz_nod nd, DL.z_rd_nod nd]
          exact hk _ rfl
        · obtain ⟨n, k, rfl⟩ : ∃ n k, d = .tup [.int n, .int k] := by
            unfold isR at er; split at er
            · exact ⟨_, _, rfl⟩
            · cases er
          have e1 : isA (.tup [.int n, .int k]) = decide (0 ≤ n) := by
            show (isR (.tup [.int n, .int k]) && decide (0 ≤ n)) = _
            rw [er]; rfl
          rw [e1] at hk
          simp [t_are_amounts, N_are_amounts, PySem.sizeLine_eq, boolsD, intsD, TyE.sub, pd, er]
          exact hk _ rfl
      · simp [t_are_amounts, N_are_amounts, PySem.sizeLine_eq, boolsD, intsD, TyE.sub, boolsD_map]
        simpa [hl, List.all_map, Function.comp_def] using q
    · rw [if_neg (by simpa using hl)]
      simpa [hl] using q
  all_goals (simp [t_are_amounts, N_are_amounts, PySem.sizeLine_eq, boolsD, intsD, TyE.sub]; exact q)
abbrev N_need_lot : List Str := ["people", "lot"]
abbrev ps_need_lot : List Str := ["people", "lot"]
def t_need_lot [WW] (K : PySem.W.Frag) : TSD := (sIf (tNotD (tVal (eCall sp_is_lot_of [(eVar 0), (eVar 1)]))) (sRaise (He.ga K "BadLot")) sNext)
def sp_need_lot (K : PySem.W.Frag) : DSp := fun ds st Q E => match ds with
  | [a, b] => oG (toP a) fun p => Pl 3 b ∧ lt (isLot p b) fun t => if t = true then Q .non st else E (exn K "BadLot") st
  | _ => False
@[simp ↓] theorem zc_need_lot {K : PySem.W.Frag} {a b : D} {st : Sto} {Q : D → Sto → Prop} {E : Exn → Sto → Prop} : sp_need_lot K [a, b] st Q E = (oG (toP a) fun p => Pl 3 b ∧ lt (isLot p b) fun t => if t = true then Q .non st else E (exn K "BadLot") st) := rfl
theorem w_need_lot {K : PySem.W.Frag} (ds : List D) (st : Sto) (Qd : D → Sto → Prop) (Ed : Exn → Sto → Prop) (hl : ds.length = ps_need_lot.length) (h : sp_need_lot K ds st Qd Ed) : t_need_lot K (fun x _ st' => Ed x st') { nx := fun _ st' => Qd .non st', rt := Qd } (startD N_need_lot ds) st := by
  obtain ⟨d0, d1, rfl⟩ := len2 hl
  rw [zc_need_lot] at h
  try simp only [← oG_ex] at h
  obtain ⟨p, hp, hb, q⟩ := h
  obtain ⟨rfl, p1, p4⟩ := toP_eq hp
  have nx := pl_nod hb
  simp [t_need_lot, N_need_lot, PySem.sizeLine_eq, boolsD, intsD, TyE.sub, hb, toP_nat p1 p4, DL.z_fz_nod nx, DL.z_rd_nod nx]
  change (if isLot p d1 = true then Qd D.non st else Ed (exn K "BadLot") st) at q
  cases e : isLot p d1 <;> simpa [e, exn] using q
abbrev N_served_of : List Str := ["people", "shares", "bids", "lot", "later"]
abbrev ps_served_of : List Str := ["people", "shares", "bids"]
def t_served_of [WW] : TSD := (sSeq (sAsg 3 (eTupRg (eVar 0))) (sSeq (sAsg 4 (eCall sp_stays [(eVar 1), (eVar 2), (eVar 3)])) (sSeq (sWhile (tAndD (tVal (eBin neD (eVar 3) (eTup []))) (tVal (eBin neD (eVar 4) (eVar 3)))) (sSeq (sAsg 3 (eVar 4)) (sAsg 4 (eIf (tVal (eBin neD (eVar 3) (eTup []))) (eCall sp_stays [(eVar 1), (eVar 2), (eVar 3)]) (eTup []))))) (sRet (eVar 3)))))
def sp_served_of : DSp := fun ds st Q E => match ds with
  | [a, b, c] => oG (toP a) fun p => (IsSh p b ∧ IsB p c) ∧ Q (iL (served p b (bid c))) st
  | _ => False
@[simp ↓] theorem zc_served_of {a b c : D} {st : Sto} {Q : D → Sto → Prop} {E : Exn → Sto → Prop} : sp_served_of [a, b, c] st Q E = (oG (toP a) fun p => (IsSh p b ∧ IsB p c) ∧ Q (iL (served p b (bid c))) st) := rfl
theorem w_served_of (ds : List D) (st : Sto) (Qd : D → Sto → Prop) (Ed : Exn → Sto → Prop) (hl : ds.length = ps_served_of.length) (h : sp_served_of ds st Qd Ed) : t_served_of (fun x _ st' => Ed x st') { nx := fun _ st' => Qd .non st', rt := Qd } (startD N_served_of ds) st := by
  obtain ⟨d0, d1, d2, rfl⟩ := len3 hl
  rw [zc_served_of] at h
  try simp only [← oG_ex] at h
  obtain ⟨p, hp, ⟨hS, hB⟩, q⟩ := h
  obtain ⟨rfl, p1, p4⟩ := toP_eq hp
  have nS := hS.nod
  have nB := hB.nod
  have hd := people_lot p1
  simp [t_served_of, N_served_of, PySem.sizeLine_eq, boolsD, intsD, TyE.sub, DL.z_fz_nod nS, DL.z_rd_nod nS, DL.z_fz_nod nB, DL.z_rd_nod nB, range_people, big62]
  refine ⟨by omega, ⟨p, hS, hB, hd, p4⟩, ?_⟩
  refine while_inv (fun m σ st' => st' = st ∧ ∃ k, m = (itS d1 (bid d2) (people p) k).length ∧ σ = [Sl.val (.int p), Sl.val d1, Sl.val d2, Sl.val (iL (itS d1 (bid d2) (people p) k)), Sl.val (iL (itS d1 (bid d2) (people p) (k + 1)))])
    (fun m σ st' hp Nx hN => ?_) _ _ _ ⟨rfl, 0, rfl, rfl⟩
  obtain ⟨rfl, k, hm, rfl⟩ := hp
  have hlk := it_lot (S := d1) (b := bid d2) (.inl hd) k
  have hlk1 := it_lot (S := d1) (b := bid d2) (.inl hd) (k + 1)
  have ek : itS d1 (bid d2) (people p) (k + 1) = stay d1 (bid d2) (itS d1 (bid d2) (people p) k) := rfl
  have ek2 : itS d1 (bid d2) (people p) (k + 1 + 1) = stay d1 (bid d2) (itS d1 (bid d2) (people p) (k + 1)) := rfl
  generalize hx : itS d1 (bid d2) (people p) k = x at *
  generalize hy : itS d1 (bid d2) (people p) (k + 1) = y at *
  simp [t_served_of, N_served_of, PySem.sizeLine_eq, boolsD, intsD, TyE.sub, DL.z_fz_nod nS, DL.z_rd_nod nS, DL.z_fz_nod nB, DL.z_rd_nod nB]
  by_cases h0 : x = []
  · have e := served_of_fix (p := p) (S := d1) (b := bid d2) (k := k) (by rw [hx, h0]; rfl)
    rw [← e, hx] at q
    rw [if_pos h0]
    exact q
  · rw [if_neg h0]
    by_cases h1 : y = x
    · have e := served_of_fix (p := p) (S := d1) (b := bid d2) (k := k) (by rw [hx, ← ek, h1])
      rw [← e, hx] at q
      rw [if_pos h1]
      exact q
    · rw [if_neg h1]
      have hlt : y.length < x.length := by
        rcases stay_len (S := d1) (b := bid d2) x with z | z
        · exact absurd (ek.trans z) h1
        · rw [ek]; exact z
      by_cases h2 : y = []
      · rw [if_pos h2]
        refine hN y.length _ _ (by omega) ⟨rfl, k + 1, by rw [hy], ?_⟩
        rw [ek2, hy, h2]; rfl
      · rw [if_neg h2]
        refine ⟨⟨p, hS, hB, hlk1.resolve_right h2, p4⟩, ?_⟩
        refine hN y.length _ _ (by omega) ⟨rfl, k + 1, by rw [hy], ?_⟩
        rw [ek2, hy]
abbrev N__law_pick : List Str := ["state", "some"]
abbrev ps__law_pick : List Str := ["state", "some"]
def t__law_pick [WW] : TSD := (sRet (eBin ixD (eVar 1) (eCall sp__law_draw [(eVar 0), (eCB (b1 lenD) (aCons (eVar 1) aNil))])))
def sp__law_pick : DSp := fun ds st Q E => match ds with
  | [a, b] => oG (toA a) fun a => oG (toLst b) fun ds => (DrawS a st ∧ tn a st < 1000000 ∧ ds ≠ [] ∧ ds.length < 1000000 ∧ ∀ d ∈ ds, nod d) ∧ ∀ d, OneOf d ds → After a st 1 fun st' => Q d st'
  | _ => False
@[simp ↓] theorem zc__law_pick {a b : D} {st : Sto} {Q : D → Sto → Prop} {E : Exn → Sto → Prop} : sp__law_pick [a, b] st Q E = (oG (toA a) fun a => oG (toLst b) fun ds => (DrawS a st ∧ tn a st < 1000000 ∧ ds ≠ [] ∧ ds.length < 1000000 ∧ ∀ d ∈ ds, nod d) ∧ ∀ d, OneOf d ds → After a st 1 fun st' => Q d st') := rfl
theorem w__law_pick (ds : List D) (st : Sto) (Qd : D → Sto → Prop) (Ed : Exn → Sto → Prop) (hl : ds.length = ps__law_pick.length) (h : sp__law_pick ds st Qd Ed) : t__law_pick (fun x _ st' => Ed x st') { nx := fun _ st' => Qd .non st', rt := Qd } (startD N__law_pick ds) st := by
  obtain ⟨d0, d1, rfl⟩ := len2 hl
  rw [zc__law_pick] at h
  try simp only [← oG_ex] at h
  obtain ⟨a, ea, ds, en, ⟨hD, htn, n0, n1, hn⟩, q⟩ := h
  obtain rfl := toA_eq ea
  obtain rfl := toLst_eq en
  have hl : 0 < ds.length := List.length_pos_iff.mpr n0
  simp [t__law_pick, N__law_pick, PySem.sizeLine_eq, boolsD, intsD, TyE.sub]
  refine ⟨⟨hD, htn, hl, by omega⟩, fun x h0 h1 st' hD' ht' => ?_⟩
  have hx : ds[x.toNat]? = some ds[x.toNat] := List.getElem?_eq_getElem (by omega)
  have hm := List.getElem_mem (l := ds) (n := x.toNat) (by omega)
  have nd := hn _ hm
  simp [t__law_pick, N__law_pick, PySem.sizeLine_eq, boolsD, intsD, TyE.sub, at_of h0, hx, DL.z_fz_nod nd, DL.z_rd_nod nd]
  exact q _ hm st' hD' ht'
abbrev N__law_k66_has : List Str := ["people", "shares", "worths", "bids", "lot", "found", "person"]
abbrev ps__law_k66_has : List Str := ["people", "shares", "worths", "bids"]
def t__law_k66_has [WW] : TSD := (sSeq (sPars [4, 5] [.v (eCall sp__law_ct_served [(eVar 0), (eVar 1), (eVar 3)]), .w (nLst [])]) (sSeq (sFor (iRange1 (eVar 0)) (gN 6) (sDrop (eAppend (eVar 5) (eIf (tVal (eBin inD (eVar 6) (eVar 4))) (eCall sp__law_minus [(eBin ixD (eVar 2) (eVar 6)), (eCall sp__law_ct_share [(eVar 1), (eVar 4), (eVar 6)])]) (eTup [(eC (.int 0)), (eC (.int 1))]))))) (sRet (eVar 5))))
def sp__law_k66_has : DSp := fun ds st Q E => match ds with
  | [a, b, c, d] => oG (toP a) fun p => (IsSh p b ∧ IsB p c ∧ IsB p d) ∧ Q (lstD p (hasAt p b (bid c) (bid d))) st
  | _ => False
@[simp ↓] theorem zc__law_k66_has {a b c d : D} {st : Sto} {Q : D → Sto → Prop} {E : Exn → Sto → Prop} : sp__law_k66_has [a, b, c, d] st Q E = (oG (toP a) fun p => (IsSh p b ∧ IsB p c ∧ IsB p d) ∧ Q (lstD p (hasAt p b (bid c) (bid d))) st) := rfl
theorem w__law_k66_has (ds : List D) (st : Sto) (Qd : D → Sto → Prop) (Ed : Exn → Sto → Prop) (hl : ds.length = ps__law_k66_has.length) (h : sp__law_k66_has ds st Qd Ed) : t__law_k66_has (fun x _ st' => Ed x st') { nx := fun _ st' => Qd .non st', rt := Qd } (startD N__law_k66_has ds) st := by
  obtain ⟨d0, d1, d2, d3, rfl⟩ := len4 hl
  rw [zc__law_k66_has] at h
  try simp only [← oG_ex] at h
  obtain ⟨p, hp, ⟨hS, hW, hB⟩, q⟩ := h
  obtain ⟨rfl, p1, p4⟩ := toP_eq hp
  have nS := hS.nod
  have nW := hW.nod
  have nB := hB.nod
  simp [t__law_k66_has, N__law_k66_has, PySem.sizeLine_eq, boolsD, intsD, TyE.sub, DL.z_fz_nod nS, DL.z_rd_nod nS, DL.z_fz_nod nB, DL.z_rd_nod nB, DL.z_fz_nod nW, DL.z_rd_nod nW, toP_nat p1 p4, range_people, big62]
  refine ⟨⟨hS, hB⟩, by omega, ?_⟩
  refine for_inv (fun i σ st' => st' = st ∧ ∃ x6, σ = [Sl.val (.int p), Sl.val d1, Sl.val d2, Sl.val d3, Sl.val (iL (served p d1 (bid d3))), Sl.ol (((people p).take i).map fun i => rD (hasAt p d1 (bid d2) (bid d3) i)), x6]) ⟨rfl, _, rfl⟩ (fun i d σ st' ed hp' Nx hN => ?_) ?_
  · obtain ⟨rfl, x6, rfl⟩ := hp'
    rw [List.getElem?_map] at ed
    obtain ⟨j, ej, rfl⟩ := Option.map_eq_some_iff.mp ed
    obtain ⟨h0, h1⟩ := mem_people.mp (List.mem_of_getElem? ej)
    have hi : i < (people p).length := (List.getElem?_eq_some_iff.mp ej).1
    rw [people_len] at hi
    have ht : (people p).take (i + 1) = (people p).take i ++ [j] := by rw [List.take_add_one, ej]; rfl
    rw [ht, List.map_append, List.map_take, List.map_cons, List.map_nil] at hN
    simp [t__law_k66_has, N__law_k66_has, PySem.sizeLine_eq, boolsD, intsD, TyE.sub, DL.z_fz_nod nS, DL.z_rd_nod nS, DL.z_fz_nod nW, DL.z_rd_nod nW, hW.ix h0 h1]
    by_cases hm : j ∈ served p d1 (bid d3)
    · rw [if_pos hm]
      have hz := (served_mem p1 hm).1
      refine ⟨⟨p, hS, hz, p4, hm⟩, (hW.gd h0 h1).ok, (hS.gd hz hm).ok, by rw [people_len]; omega, ?_⟩
      have e : hasAt p d1 (bid d2) (bid d3) j = sub (bid d2 j) (shareAt d1 (served p d1 (bid d3)) j) := if_pos hm
      rw [← e]
      exact hN _ _ ⟨rfl, _, rfl⟩
    · rw [if_neg hm]
      refine ⟨by rw [people_len]; omega, ?_⟩
      have e : hasAt p d1 (bid d2) (bid d3) j = (0, 1) := if_neg hm
      have := hN _ _ ⟨rfl, Sl.val (.int j), rfl⟩
      rw [e] at this
      exact this
  · rintro σ st' ⟨rfl, x6, rfl⟩
    rw [List.length_map, List.take_length]
    simp [t__law_k66_has, N__law_k66_has, PySem.sizeLine_eq, boolsD, intsD, TyE.sub]
    exact q
abbrev N_are_shares : List Str := ["people", "value", "every", "lot"]
abbrev ps_are_shares : List Str := ["people", "value"]
def t_are_shares [WW] : TSD := (sSeq (sAsg 2 (eCall sp_lots_of [(eVar 0)])) (sSeq (sIf (tOrD (tNotD (tVal (eIsi [.dct] (eVar 1)))) (tOrD (tVal (eBin neD (eCB (b1 lenD) (aCons (eVar 1) aNil)) (eCB (b1 lenD) (aCons (eVar 2) aNil)))) (tNotD (tVal (eCB (b1 allD) (aCons (eN (nLc (iAnyD (eVar 1)) (.n 3) tYesD (eCall sp_is_lot_of [(eVar 0), (eVar 3)]) [3])) aNil)))))) (sRet (eC (.bl false))) sNext) (sRet (eCB (b1 allD) (aCons (eN (nLc (iAnyD (eVar 2)) (.n 3) tYesD (eCall sp_are_amounts [(eBin ixD (eVar 1) (eVar 3)), (eCB (b1 lenD) (aCons (eVar 3) aNil))]) [3])) aNil)))))
def sp_are_shares : DSp := fun ds st Q E => match ds with
  | [a, b] => oG (toP a) fun p => if nilT b = true then Q (.bl false) st else IsSh p b ∧ Q (.bl true) st
  | _ => False
@[simp ↓] theorem zc_are_shares {a b : D} {st : Sto} {Q : D → Sto → Prop} {E : Exn → Sto → Prop} : sp_are_shares [a, b] st Q E = (oG (toP a) fun p => if nilT b = true then Q (.bl false) st else IsSh p b ∧ Q (.bl true) st) := rfl
theorem w_are_shares (ds : List D) (st : Sto) (Qd : D → Sto → Prop) (Ed : Exn → Sto → Prop) (hl : ds.length = ps_are_shares.length) (h : sp_are_shares ds st Qd Ed) : t_are_shares (fun x _ st' => Ed x st') { nx := fun _ st' => Qd .non st', rt := Qd } (startD N_are_shares ds) st := by
  obtain ⟨d0, d1, rfl⟩ := len2 hl
  rw [zc_are_shares] at h
  try simp only [← oG_ex] at h
  obtain ⟨p, hp, q⟩ := h
  obtain ⟨rfl, p1, p4⟩ := toP_eq hp
  cases en : nilT d1
  · rw [en, if_neg (by simp)] at q
    obtain ⟨hS, q⟩ := q
    have nS := hS.nod
    simp [t_are_shares, N_are_shares, PySem.sizeLine_eq, boolsD, intsD, TyE.sub, DL.z_fz_nod nS, DL.z_rd_nod nS, toP_nat p1 p4, hS.ty, hS.len]
    obtain ⟨ls, hls, hwk⟩ := hS.walk
    simp [t_are_shares, N_are_shares, PySem.sizeLine_eq, boolsD, intsD, TyE.sub, hwk]
    refine map_all iL (fun l => .bl (isLot p (iL l))) ls (fun l hl Kt Kf hk => ?_) ?_
    · simp [t_are_shares, N_are_shares, PySem.sizeLine_eq, boolsD, intsD, TyE.sub, toP_nat p1 p4]
      exact hk _ rfl
    · simp [t_are_shares, N_are_shares, PySem.sizeLine_eq, boolsD, intsD, TyE.sub, s_boolsD (fun l => isLot p (iL l)), List.all_map, Function.comp_def]
      rw [if_neg (by
        simp only [not_exists, not_and]
        intro l hl e
        rw [show isLot p (iL l) = decide (l ∈ lots p) from by
          show (match toL (iL l) with | some l => decide (l ∈ lots p) | none => false) = _
          rw [s_toL]] at e
        simp [hls.subset hl] at e)]
      refine map_all iL (fun l => .bl (areA l.length (.tup ((shr d1 l).map rD)))) (lots p) (fun l hl Kt Kf hk => ?_) ?_
      · simp [t_are_shares, N_are_shares, PySem.sizeLine_eq, boolsD, intsD, TyE.sub, DL.z_fz_nod nS, DL.z_rd_nod nS, hS.ix hl]
        exact hk _ rfl
      · simp [t_are_shares, N_are_shares, PySem.sizeLine_eq, boolsD, intsD, TyE.sub, s_boolsD (fun l : List Int => areA l.length (.tup ((shr d1 l).map rD))), List.all_map, Function.comp_def]
        have e : (lots p).all (fun l => areA l.length (.tup ((shr d1 l).map rD))) = true := by
          rw [List.all_eq_true]
          intro l hl
          exact are_gd (hS.lenAt hl) (hS.gdAt hl)
        rw [e]
        exact q
  · rw [en, if_pos rfl] at q
    obtain rfl : d1 = .dT [] := nilT_eq en
    have hl := lots_pos p1
    have hz : (lots p).length ≠ 0 := fun z => hl (List.length_eq_zero_iff.mp z)
    simp [t_are_shares, N_are_shares, PySem.sizeLine_eq, boolsD, intsD, TyE.sub, toP_nat p1 p4]
    rw [if_neg (by omega)]
    exact q
abbrev N_charged_of : List Str := ["people", "shares", "bids", "lot", "person"]
abbrev ps_charged_of : List Str := ["people", "shares", "bids"]
def t_charged_of [WW] : TSD := (sSeq (sAsg 3 (eCall sp_served_of [(eVar 0), (eVar 1), (eVar 2)])) (sRet (eCB (b1 tupleD) (aCons (eN (nLc (iRange1 (eVar 0)) (.n 4) tYesD (eIf (tVal (eBin inD (eVar 4) (eVar 3))) (eCall sp_share_of [(eVar 1), (eVar 3), (eVar 4)]) (eC (.tup [.int 0, .int 1]))) [4])) aNil))))
def sp_charged_of : DSp := fun ds st Q E => match ds with
  | [a, b, c] => oG (toP a) fun p => (IsSh p b ∧ IsB p c) ∧ Q (bD p (paid p b (bid c))) st
  | _ => False
@[simp ↓] theorem zc_charged_of {a b c : D} {st : Sto} {Q : D → Sto → Prop} {E : Exn → Sto → Prop} : sp_charged_of [a, b, c] st Q E = (oG (toP a) fun p => (IsSh p b ∧ IsB p c) ∧ Q (bD p (paid p b (bid c))) st) := rfl
theorem w_charged_of (ds : List D) (st : Sto) (Qd : D → Sto → Prop) (Ed : Exn → Sto → Prop) (hl : ds.length = ps_charged_of.length) (h : sp_charged_of ds st Qd Ed) : t_charged_of (fun x _ st' => Ed x st') { nx := fun _ st' => Qd .non st', rt := Qd } (startD N_charged_of ds) st := by
  obtain ⟨d0, d1, d2, rfl⟩ := len3 hl
  rw [zc_charged_of] at h
  try simp only [← oG_ex] at h
  obtain ⟨p, hp, ⟨hS, hB⟩, q⟩ := h
  obtain ⟨rfl, p1, p4⟩ := toP_eq hp
  have nS := hS.nod
  have nB := hB.nod
  simp [t_charged_of, N_charged_of, PySem.sizeLine_eq, boolsD, intsD, TyE.sub, DL.z_fz_nod nS, DL.z_rd_nod nS, DL.z_fz_nod nB, DL.z_rd_nod nB, toP_nat p1 p4, range_people, big62]
  refine ⟨⟨hS, hB⟩, by omega, ?_⟩
  refine map_all D.int (fun i => rD (paid p d1 (bid d2) i)) (people p) (fun i hi Kt Kf hk => ?_) ?_
  · simp [t_charged_of, N_charged_of, PySem.sizeLine_eq, boolsD, intsD, TyE.sub, DL.z_fz_nod nS, DL.z_rd_nod nS]
    by_cases hm : i ∈ served p d1 (bid d2)
    · rw [if_pos hm]
      refine ⟨⟨p, hS, (served_mem p1 hm).1, p4, hm⟩, ?_⟩
      have := hk [Sl.val (.int p), Sl.val d1, Sl.val d2, Sl.val (iL (served p d1 (bid d2))), Sl.val (.int i)] rfl
      unfold paid at this
      rw [if_pos hm] at this
      exact this
    · rw [if_neg hm]
      have := hk [Sl.val (.int p), Sl.val d1, Sl.val d2, Sl.val (iL (served p d1 (bid d2))), Sl.val (.int i)] rfl
      unfold paid at this
      rw [if_neg hm] at this
      exact this
  · simp [t_charged_of, N_charged_of, PySem.sizeLine_eq, boolsD, intsD, TyE.sub]
    exact q
abbrev N__law_ct_shares : List Str := ["draws", "people", "way", "found", "fall", "own", "lot", "spot", "lap", "person"]
abbrev ps__law_ct_shares : List Str := ["draws", "people"]
def t__law_ct_shares [WW] : TSD := (sSeq (sPars [2, 3, 4] [.v (eCall sp__law_draw [(eVar 0), (eC (.int 4))]), .w nDictT, .v (eRev (eCB (b1 sortedD) (aCons (eN (nLc (iRange1 (eVar 1)) (.n 8) tYesD (eBin addD (eC (.int 1)) (eCall sp__law_draw [(eVar 0), (eC (.int 12))])) [8])) aNil)))]) (sSeq (sAsg 5 (eN (nLc (iRange1 (eVar 1)) (.n 9) tYesD (eCall sp__law_q [(eBin addD (eC (.int 1)) (eCall sp__law_draw [(eVar 0), (eC (.int 6))])), (eCall sp__law_pick [(eVar 0), (eLst [(eC (.int 1)), (eC (.int 2))])])]) [9]))) (sSeq (sFor (iAnyD (eCall sp__law_ct_lots [(eVar 1)])) (gN 6) (sIf (tVal (eBin eqD (eVar 2) (eC (.int 0)))) (sPut (eCB (b1 tupleD) (aCons (eN (nLc (iAnyD (eVar 6)) (.n 9) tYesD (eCall sp__law_q [(eCall sp__law_draw [(eVar 0), (eC (.int 9))]), (eCall sp__law_pick [(eVar 0), (eLst [(eC (.int 1)), (eC (.int 1)), (eC (.int 2))])])]) [9])) aNil)) (eVar 3) (eVar 6)) (sPut (eCB (b1 tupleD) (aCons (eN (nLc (iAnyD (eVar 6)) (.n 9) tYesD (eCall sp__law_times [(eBin ixD (eVar 5) (eVar 9)), (eTup [(eBin ixD (eVar 4) (eBin subD (eCB (b1 lenD) (aCons (eVar 6) aNil)) (eC (.int 1)))), (eC (.int 1))])]) [9])) aNil)) (eVar 3) (eVar 6)))) (sSeq (sIf (tVal (eBin eqD (eVar 2) (eC (.int 1)))) (sSeq (sAsg 6 (eCall sp__law_pick [(eVar 0), (eCall sp__law_ct_lots [(eVar 1)])])) (sSeq (sAsg 7 (eCall sp__law_draw [(eVar 0), (eCB (b1 lenD) (aCons (eVar 6) aNil))])) (sPut (eBin addD (eBin addD (eSl (eBin ixD (eVar 3) (eVar 6)) none (some (eVar 7))) (eTup [(eCall sp__law_q [(eCall sp__law_draw [(eVar 0), (eC (.int 30))]), (eC (.int 1))])])) (eSl (eBin ixD (eVar 3) (eVar 6)) (some (eBin addD (eVar 7) (eC (.int 1)))) none)) (eVar 3) (eVar 6)))) sNext) (sRet (eVar 3))))))
def sp__law_ct_shares : DSp := fun ds st Q E => match ds with
  | [a, b] => oG (toA a) fun a => oG (toP b) fun p => (DrawS a st ∧ tn a st < 900000) ∧ ∀ S, IsSh p S → After a st 200 fun st' => Q S st'
  | _ => False
@[simp ↓] theorem zc__law_ct_shares {a b : D} {st : Sto} {Q : D → Sto → Prop} {E : Exn → Sto → Prop} : sp__law_ct_shares [a, b] st Q E = (oG (toA a) fun a => oG (toP b) fun p => (DrawS a st ∧ tn a st < 900000) ∧ ∀ S, IsSh p S → After a st 200 fun st' => Q S st') := rfl
theorem w__law_ct_shares (ds : List D) (st : Sto) (Qd : D → Sto → Prop) (Ed : Exn → Sto → Prop) (hl : ds.length = ps__law_ct_shares.length) (h : sp__law_ct_shares ds st Qd Ed) : t__law_ct_shares (fun x _ st' => Ed x st') { nx := fun _ st' => Qd .non st', rt := Qd } (startD N__law_ct_shares ds) st := by
  obtain ⟨d0, d1, rfl⟩ := len2 hl
  rw [zc__law_ct_shares] at h
  try simp only [← oG_ex] at h
  obtain ⟨a, ea, p, hp, ⟨hD, htn⟩, q⟩ := h
  obtain rfl := toA_eq ea
  obtain ⟨rfl, p1, p4⟩ := toP_eq hp
  simp [t__law_ct_shares, N__law_ct_shares, PySem.sizeLine_eq, boolsD, intsD, TyE.sub]
  refine ⟨⟨hD, by omega⟩, fun w w0 w1 st1 hD1 ht1 => ?_⟩
  simp [t__law_ct_shares, N__law_ct_shares, PySem.sizeLine_eq, boolsD, intsD, TyE.sub, range_people, big62]
  refine ⟨by omega, ?_⟩
  refine map_inv D.int (people p) (fun i acc st' => DrawS a st' ∧ tn a st' ≤ tn a st + 1 + i ∧ ∃ xs : List Int, acc = xs.map .int ∧ xs.length = i ∧ ∀ x ∈ xs, 1 ≤ x ∧ x ≤ 12) ⟨hD1, by omega, [], rfl, rfl, by simp⟩ (fun i x acc st2 ex hp' Kt Kf k1 k2 => ?_) (fun acc st2 hp' => ?_)
  · obtain ⟨hD2, ht2, xs, rfl, hxl, hxs⟩ := hp'
    have hi : i < (people p).length := (List.getElem?_eq_some_iff.mp ex).1
    rw [people_len] at hi
    simp [t__law_ct_shares, N__law_ct_shares, PySem.sizeLine_eq, boolsD, intsD, TyE.sub]
    refine ⟨⟨hD2, by omega⟩, fun y y0 y1 st3 hD3 ht3 => ?_⟩
    simp [t__law_ct_shares, N__law_ct_shares, PySem.sizeLine_eq, boolsD, intsD, TyE.sub]
    refine k1 _ _ _ ⟨hD3, by omega, xs ++ [1 + y], by simp, by simp [hxl], fun z hz => ?_⟩ rfl
    rcases List.mem_append.mp hz with hz | hz
    · exact hxs z hz
    · rw [List.mem_singleton.mp hz]; omega
  · obtain ⟨hD2, ht2, xs, rfl, hxl, hxs⟩ := hp'
    rw [people_len] at hxl ht2
    obtain ⟨ys, hperm, es⟩ := sortD_perm D.int xs
    have hys : ∀ x ∈ ys.reverse, 1 ≤ x ∧ x ≤ 12 := fun x hx => hxs x (hperm.symm.subset (List.mem_reverse.mp hx))
    have hyl : ys.reverse.length = p := by rw [List.length_reverse, ← hperm.length_eq, hxl]
    generalize ez : ys.reverse = zs at hys hyl
    simp [t__law_ct_shares, N__law_ct_shares, PySem.sizeLine_eq, boolsD, intsD, TyE.sub, range_people, big62, es, sortOk_ints xs, ← List.map_reverse, ez]
    refine ⟨by omega, ?_⟩
    refine map_inv D.int (people p) (fun i acc st' => DrawS a st' ∧ tn a st' ≤ tn a st + 1 + p + 2 * i ∧ ∃ rs : List Rt, acc = rs.map rD ∧ rs.length = i ∧ ∀ r ∈ rs, 0 < r.2 ∧ r.2 ≤ 2 ∧ 0 ≤ r.1 ∧ r.1 ≤ 6) ⟨hD2, by omega, [], rfl, rfl, by simp⟩ (fun i x acc st3 ex hp' Kt Kf k1 k2 => ?_) (fun acc st3 hp' => ?_)
    · obtain ⟨hD3, ht3, rs, rfl, hrl, hrs⟩ := hp'
      have hi : i < (people p).length := (List.getElem?_eq_some_iff.mp ex).1
      rw [people_len] at hi
      simp [t__law_ct_shares, N__law_ct_shares, PySem.sizeLine_eq, boolsD, intsD, TyE.sub]
      refine ⟨⟨hD3, by omega⟩, fun y y0 y1 st4 hD4 ht4 => ?_⟩
      simp [t__law_ct_shares, N__law_ct_shares, PySem.sizeLine_eq, boolsD, intsD, TyE.sub]
      refine ⟨⟨hD4, by omega⟩, fun d hd st5 hD5 ht5 => ?_⟩
      obtain ⟨e, rfl, he⟩ : ∃ e : Int, d = .int e ∧ (e = 1 ∨ e = 2) := by
        rcases List.mem_cons.mp hd with rfl | hd
        · exact ⟨1, rfl, .inl rfl⟩
        · exact ⟨2, List.mem_singleton.mp hd, .inr rfl⟩
      simp [t__law_ct_shares, N__law_ct_shares, PySem.sizeLine_eq, boolsD, intsD, TyE.sub]
      refine ⟨by omega, by omega, ?_⟩
      refine k1 _ _ _ ⟨hD5, by omega, rs ++ [low (1 + y) e], by simp, by simp [hrl], fun z hz => ?_⟩ rfl
      rcases List.mem_append.mp hz with hz | hz
      · exact hrs z hz
      · rw [List.mem_singleton.mp hz]
        obtain ⟨a1, a2⟩ := low_den (n := 1 + y) (show 0 < e by omega)
        obtain ⟨b1, b2⟩ := (low_num (n := 1 + y) (show 0 < e by omega)).1 (by omega)
        exact ⟨a1, by omega, b1, by omega⟩
    · obtain ⟨hD3, ht3, rs, rfl, hrl, hrs⟩ := hp'
      rw [people_len] at hrl ht3
      have hlen := lots_len p4
      simp [t__law_ct_shares, N__law_ct_shares, PySem.sizeLine_eq, boolsD, intsD, TyE.sub, toP_nat p1 p4]
      refine for_inv (fun i σ st' => DrawS a st' ∧ tn a st' ≤ tn a st + 13 + 8 * i ∧ ∃ x x6 x7 x8 x9, ShTo p i x ∧ σ = [Sl.val (.ref a), Sl.val (.int p), Sl.val (.int w), x, Sl.val (.lst (zs.map .int)), Sl.val (.lst (rs.map rD)), x6, x7, x8, x9]) ⟨hD3, by omega, _, _, _, _, _, shTo_0 p, rfl⟩ (fun i d σ st4 ed hp' Nx hN => ?_) ?_
      · obtain ⟨hD4, ht4, x, x6, x7, x8, x9, hx, rfl⟩ := hp'
        obtain ⟨kvs, rfl⟩ : ∃ kvs, x = .ot kvs := let ⟨sh, _, e⟩ := hx; ⟨_, e⟩
        rw [List.getElem?_map] at ed
        obtain ⟨l, el, rfl⟩ := Option.map_eq_some_iff.mp ed
        have hl := List.mem_of_getElem? el
        have hi : i < (lots p).length := (List.getElem?_eq_some_iff.mp el).1
        have hl15 := hlen.1
        obtain ⟨hl4, hl0⟩ := hlen.2 l hl
        have hkl : kvs.length < 16777216 := by
          obtain ⟨sh, _, e⟩ := hx
          injection e with e
          rw [e, List.length_map, List.length_take]; omega
        simp [t__law_ct_shares, N__law_ct_shares, PySem.sizeLine_eq, boolsD, intsD, TyE.sub]
        by_cases hw : w = 0
        · rw [if_pos hw]
          refine map_inv D.int l (fun k acc st' => DrawS a st' ∧ tn a st' ≤ tn a st + 13 + 8 * i + 2 * k ∧ ∃ gs : List Rt, acc = gs.map rD ∧ gs.length = k ∧ ∀ r ∈ gs, Gs r) ⟨hD4, by omega, [], rfl, rfl, by simp⟩ (fun k x acc st5 ex hp' Kt Kf k1 k2 => ?_) (fun acc st5 hp' => ?_)
          · obtain ⟨hD5, ht5, gs, rfl, hgl, hgs⟩ := hp'
            have hk : k < l.length := (List.getElem?_eq_some_iff.mp ex).1
            simp [t__law_ct_shares, N__law_ct_shares, PySem.sizeLine_eq, boolsD, intsD, TyE.sub]
            refine ⟨⟨hD5, by omega⟩, fun y y0 y1 st6 hD6 ht6 => ?_⟩
            simp [t__law_ct_shares, N__law_ct_shares, PySem.sizeLine_eq, boolsD, intsD, TyE.sub]
            refine ⟨⟨hD6, by omega⟩, fun d hd st7 hD7 ht7 => ?_⟩
            obtain ⟨e, rfl, he⟩ : ∃ e : Int, d = .int e ∧ (e = 1 ∨ e = 2) := by
              rcases List.mem_cons.mp hd with rfl | hd
              · exact ⟨1, rfl, .inl rfl⟩
              · rcases List.mem_cons.mp hd with rfl | hd
                · exact ⟨1, rfl, .inl rfl⟩
                · exact ⟨2, List.mem_singleton.mp hd, .inr rfl⟩
            simp [t__law_ct_shares, N__law_ct_shares, PySem.sizeLine_eq, boolsD, intsD, TyE.sub]
            refine ⟨by omega, by omega, ?_⟩
            refine k1 _ _ _ ⟨hD7, by omega, gs ++ [low y e], by simp, by simp [hgl], fun z hz => ?_⟩ rfl
            rcases List.mem_append.mp hz with hz | hz
            · exact hgs z hz
            · rw [List.mem_singleton.mp hz]
              exact gs_low (by omega) (by omega) (by omega) (by omega)
          · obtain ⟨hD5, ht5, gs, rfl, hgl, hgs⟩ := hp'
            simp [t__law_ct_shares, N__law_ct_shares, PySem.sizeLine_eq, boolsD, intsD, TyE.sub, hkl]
            exact hN _ _ ⟨hD5, by omega, _, _, _, _, _, shTo_put p4 hx el hgl hgs, rfl⟩
        · rw [if_neg hw]
          have hz : ∃ f, zs[l.length - 1]? = some f ∧ 1 ≤ f ∧ f ≤ 12 := by
            have hll : l.length ≤ p := lot_len p4 l hl
            have : l.length - 1 < zs.length := by
              have := List.length_pos_iff.mpr hl0
              omega
            exact ⟨zs[l.length - 1], List.getElem?_eq_getElem this, hys _ (List.getElem_mem this)⟩
          obtain ⟨f, ef, f1, f2⟩ := hz
          have hll0 := List.length_pos_iff.mpr hl0
          refine map_all D.int (fun i => rD (mul (rs.getD i.toNat (0, 1)) (f, 1))) l (fun i hi Kt Kf hk => ?_) ?_
          · obtain ⟨h0, h1⟩ := mem_lot hl hi
            have er : rs[i.toNat]? = some (rs.getD i.toNat (0, 1)) := by
              have : i.toNat < rs.length := by omega
              rw [List.getD_eq_getElem?_getD, List.getElem?_eq_getElem this]; rfl
            have hr := hrs _ (List.mem_of_getElem? er)
            generalize rs.getD i.toNat (0, 1) = r at *
            have e1 : ((l.length : Int) - 1).toNat = l.length - 1 := by omega
            simp [t__law_ct_shares, N__law_ct_shares, PySem.sizeLine_eq, boolsD, intsD, TyE.sub, at_map, at_of h0, er, at_of (show 0 ≤ (l.length : Int) - 1 by omega), e1, ef]
            exact ⟨⟨hr.1, by omega, by omega, by omega⟩, ⟨by simp, by simp, by simp; omega, by simp; omega⟩, hk _ rfl⟩
          · simp [t__law_ct_shares, N__law_ct_shares, PySem.sizeLine_eq, boolsD, intsD, TyE.sub, hkl]
            refine hN _ _ ⟨hD4, by omega, _, _, _, _, _, shTo_put (rs := l.map fun i => mul (rs.getD i.toNat (0, 1)) (f, 1)) p4 hx el (by simp) (fun r hr => ?_), by rw [List.map_map]; rfl⟩
            obtain ⟨j, hj, rfl⟩ := List.mem_map.mp hr
            obtain ⟨h0, h1⟩ := mem_lot hl hj
            have er : rs[j.toNat]? = some (rs.getD j.toNat (0, 1)) := by
              have : j.toNat < rs.length := by omega
              rw [List.getD_eq_getElem?_getD, List.getElem?_eq_getElem this]; rfl
            have hr := hrs _ (List.mem_of_getElem? er)
            generalize rs.getD j.toNat (0, 1) = r at *
            have hm := mul_le_of hr.2.2.1 hr.2.2.2 (show 0 ≤ f by omega) f2
            show Gs (low (r.1 * f) (r.2 * 1))
            exact gs_low (by omega) (by omega) hm.1 (by omega)
      · rintro σ st4 ⟨hD4, ht4, x, x6, x7, x8, x9, hx, rfl⟩
        obtain ⟨kvs, rfl⟩ : ∃ kvs, x = .ot kvs := let ⟨sh, _, e⟩ := hx; ⟨_, e⟩
        rw [List.length_map] at ht4 hx
        have hS := shTo_end hx
        have hl15 := hlen.1
        simp [t__law_ct_shares, N__law_ct_shares, PySem.sizeLine_eq, boolsD, intsD, TyE.sub, toP_nat p1 p4]
        by_cases hw1 : w = 1
        · rw [if_pos hw1]
          refine ⟨⟨hD4, by omega, lots_pos p1, by omega⟩, fun d hd st5 hD5 ht5 => ?_⟩
          obtain ⟨l, hl, rfl⟩ := List.mem_map.mp hd
          obtain ⟨hl4, hl0⟩ := hlen.2 l hl
          have hll0 := List.length_pos_iff.mpr hl0
          have hla := hS.lenAt hl
          have hga := hS.gsAt hl
          simp [t__law_ct_shares, N__law_ct_shares, PySem.sizeLine_eq, boolsD, intsD, TyE.sub]
          refine ⟨⟨hD5, by omega, by omega, by omega⟩, fun x x0 x1 st6 hD6 ht6 => ?_⟩
          have hkl : kvs.length < 16777216 := by
            obtain ⟨sh, _, e⟩ := hx
            injection e with e
            rw [e, List.length_map, List.length_take]; omega
          have x2 : 0 ≤ x + 1 := by omega
          simp [t__law_ct_shares, N__law_ct_shares, PySem.sizeLine_eq, boolsD, intsD, TyE.sub, hS.getK hl, cut_hiI _ x0, cut_loI _ x2]
          refine ⟨⟨hD6, by omega⟩, fun y y0 y1 st7 hD7 ht7 => ?_⟩
          generalize hrr : shr (.dT kvs) l = rr at *
          simp [t__law_ct_shares, N__law_ct_shares, PySem.sizeLine_eq, boolsD, intsD, TyE.sub, hS.getK hl, hrr, cut_hiI _ x0, cut_loI _ x2, hkl]
          have e : List.take x.toNat (rr.map rD) ++ D.tup [.int (low y 1).1, .int (low y 1).2] :: List.drop (x + 1).toNat (rr.map rD) = (rr.take x.toNat ++ low y 1 :: rr.drop (x + 1).toNat).map rD := by
            simp [List.map_take, List.map_drop]
          rw [e]
          refine ⟨by omega, by omega, q _ (shTo_change hS hl ?_ fun r hr => ?_) _ hD7 (by omega)⟩
          · simp only [List.length_append, List.length_cons, List.length_take, List.length_drop]
            omega
          · rcases List.mem_append.mp hr with hr | hr
            · exact hga r (List.mem_of_mem_take hr)
            · rcases List.mem_cons.mp hr with rfl | hr
              · exact gs_low (by omega) (by omega) (by omega) (by omega)
              · exact hga r (List.mem_of_mem_drop hr)
        · rw [if_neg hw1]
          exact q _ hS _ hD4 (by omega)
abbrev N__law_ct_bids : List Str := ["draws", "people", "shares", "found", "person", "lot", "own"]
abbrev ps__law_ct_bids : List Str := ["draws", "people", "shares"]
def t__law_ct_bids [WW] : TSD := (sSeq (sAsgW 3 (nLst [])) (sSeq (sFor (iRange1 (eVar 1)) (gN 4) (sSeq (sAsg 5 (eCall sp__law_pick [(eVar 0), (eN (nLc (iAnyD (eCall sp__law_ct_lots [(eVar 1)])) (.n 5) (tVal (eBin inD (eVar 4) (eVar 5))) (eVar 5) [5]))])) (sSeq (sAsg 6 (eCall sp__law_ct_share [(eVar 2), (eVar 5), (eVar 4)])) (sDrop (eAppend (eVar 3) (eCall sp__law_pick [(eVar 0), (eLst [(eVar 6), (eVar 6), (eCall sp__law_plus [(eVar 6), (eTup [(eC (.int 1)), (eC (.int 3))])]), (eCall sp__law_q [(eCall sp__law_draw [(eVar 0), (eC (.int 40))]), (eBin addD (eC (.int 1)) (eCall sp__law_draw [(eVar 0), (eC (.int 3))]))]), (eTup [(eC (.int 0)), (eC (.int 1))])])])))))) (sRet (eCB (b1 tupleD) (aCons (eVar 3) aNil)))))
def sp__law_ct_bids : DSp := fun ds st Q E => match ds with
  | [a, b, c] => oG (toA a) fun a => oG (toP b) fun p => (DrawS a st ∧ tn a st < 900000 ∧ IsSh p c) ∧ ∀ B, IsB p B → After a st 20 fun st' => Q B st'
  | _ => False
@[simp ↓] theorem zc__law_ct_bids {a b c : D} {st : Sto} {Q : D → Sto → Prop} {E : Exn → Sto → Prop} : sp__law_ct_bids [a, b, c] st Q E = (oG (toA a) fun a => oG (toP b) fun p => (DrawS a st ∧ tn a st < 900000 ∧ IsSh p c) ∧ ∀ B, IsB p B → After a st 20 fun st' => Q B st') := rfl
theorem w__law_ct_bids (ds : List D) (st : Sto) (Qd : D → Sto → Prop) (Ed : Exn → Sto → Prop) (hl : ds.length = ps__law_ct_bids.length) (h : sp__law_ct_bids ds st Qd Ed) : t__law_ct_bids (fun x _ st' => Ed x st') { nx := fun _ st' => Qd .non st', rt := Qd } (startD N__law_ct_bids ds) st := by
  obtain ⟨d0, d1, d2, rfl⟩ := len3 hl
  rw [zc__law_ct_bids] at h
  try simp only [← oG_ex] at h
  obtain ⟨a, ea, p, hp, ⟨hD, htn, hS⟩, q⟩ := h
  obtain rfl := toA_eq ea
  obtain ⟨rfl, p1, p4⟩ := toP_eq hp
  have nS := hS.nod
  have hlen := lots_len p4
  simp [t__law_ct_bids, N__law_ct_bids, PySem.sizeLine_eq, boolsD, intsD, TyE.sub, DL.z_fz_nod nS, DL.z_rd_nod nS, range_people, big62]
  refine ⟨by omega, ?_⟩
  refine for_inv (fun i σ st' => DrawS a st' ∧ tn a st' ≤ tn a st + 4 * i ∧ ∃ x4 x5 x6, ∃ f : Int → Rt, (∀ j : Int, 0 ≤ j → j < i → Gd (f j)) ∧ σ = [Sl.val (.ref a), Sl.val (.int p), Sl.val d2, Sl.ol (((people p).take i).map fun j => rD (f j)), x4, x5, x6]) ⟨hD, by omega, _, _, _, fun _ => (0, 1), fun _ _ _ => gd_zero, rfl⟩ (fun i d σ st1 ed hp' Nx hN => ?_) ?_
  · obtain ⟨hD1, ht1, x4, x5, x6, f, hf, rfl⟩ := hp'
    rw [List.getElem?_map] at ed
    obtain ⟨j, ej, rfl⟩ := Option.map_eq_some_iff.mp ed
    have hi : i < (people p).length := (List.getElem?_eq_some_iff.mp ej).1
    rw [people_len] at hi
    have hij : j = i := by
      unfold people at ej
      rw [List.getElem?_map, List.getElem?_range hi] at ej
      exact (Option.some.inj ej).symm
    subst hij
    simp [t__law_ct_bids, N__law_ct_bids, PySem.sizeLine_eq, boolsD, intsD, TyE.sub, toP_nat p1 p4]
    refine map_if iL (fun l => decide ((i : Int) ∈ l)) iL (lots p) (fun l hl Kt Kf k1 k2 => ?_) ?_
    · simp [t__law_ct_bids, N__law_ct_bids, PySem.sizeLine_eq, boolsD, intsD, TyE.sub]
      by_cases hm : (i : Int) ∈ l
      · rw [if_pos hm]; exact k1 (by simp [hm]) _ rfl
      · rw [if_neg hm]; exact k2 (by simp [hm]) _ rfl
    · have hne : (lots p).filter (fun l => decide ((i : Int) ∈ l)) ≠ [] := by
        intro z
        have : people p ∈ (lots p).filter (fun l => decide ((i : Int) ∈ l)) := List.mem_filter.mpr ⟨people_lot p1, by simp [mem_people]; omega⟩
        rw [z] at this; cases this
      have hfl : ((lots p).filter (fun l => decide ((i : Int) ∈ l))).length ≤ 15 := Nat.le_trans (List.length_filter_le _ _) hlen.1
      generalize hfe : (lots p).filter (fun l => decide ((i : Int) ∈ l)) = fl at *
      simp [t__law_ct_bids, N__law_ct_bids, PySem.sizeLine_eq, boolsD, intsD, TyE.sub, hne]
      refine ⟨⟨hD1, by omega, by omega⟩, fun d hd st2 hD2 ht2 => ?_⟩
      obtain ⟨l, hl, rfl⟩ := List.mem_map.mp hd
      rw [← hfe] at hl
      obtain ⟨hl, hm⟩ := List.mem_filter.mp hl
      have hm : (i : Int) ∈ l := of_decide_eq_true hm
      have gs := hS.gs hl hm
      simp [t__law_ct_bids, N__law_ct_bids, PySem.sizeLine_eq, boolsD, intsD, TyE.sub, DL.z_fz_nod nS, DL.z_rd_nod nS]
      refine ⟨⟨p, hS, hl, p4, hm⟩, gs.1.ok, ⟨by simp, by simp, by simp, by simp⟩, ⟨hD2, by omega⟩, fun x x0 x1 st3 hD3 ht3 => ?_⟩
      generalize shareAt d2 l i = own at *
      simp [t__law_ct_bids, N__law_ct_bids, PySem.sizeLine_eq, boolsD, intsD, TyE.sub]
      refine ⟨⟨hD3, by omega⟩, fun y y0 y1 st4 hD4 ht4 => ?_⟩
      simp [t__law_ct_bids, N__law_ct_bids, PySem.sizeLine_eq, boolsD, intsD, TyE.sub]
      refine ⟨by omega, by omega, ⟨hD4, by omega⟩, fun d hd st5 hD5 ht5 => ?_⟩
      obtain ⟨r, rfl, hr⟩ : ∃ r : Rt, d = rD r ∧ Gd r := by
        rcases List.mem_cons.mp hd with rfl | hd
        · exact ⟨own, rfl, gs.1⟩
        rcases List.mem_cons.mp hd with rfl | hd
        · exact ⟨own, rfl, gs.1⟩
        rcases List.mem_cons.mp hd with rfl | hd
        · refine ⟨add own (1, 3), rfl, ?_⟩
          have := gs.1.d0
          have := gs.1.n0
          have := gs.2
          show Gd (low (own.1 * 3 + 1 * own.2) (own.2 * 3))
          exact gd_low (by omega) (by omega) (by omega) (by omega)
        rcases List.mem_cons.mp hd with rfl | hd
        · exact ⟨low x (1 + y), rfl, gd_low (by omega) (by omega) (by omega) (by omega)⟩
        · exact ⟨(0, 1), List.mem_singleton.mp hd, gd_zero⟩
      have hti : (people p).take (i + 1) = (people p).take i ++ [(i : Int)] := by rw [List.take_add_one, ej]; rfl
      have eL : ((people p).take i).map (fun j => rD (f j)) ++ [rD r] = ((people p).take (i + 1)).map fun j => rD ((fun j => if j = (i : Int) then r else f j) j) := by
        rw [hti, List.map_append]
        congr 1
        · apply List.map_congr_left
          intro j hj
          have : j ≠ (i : Int) := by
            intro e
            subst e
            obtain ⟨k, hk, ek⟩ := List.mem_take_iff_getElem.mp hj
            unfold people at ek
            simp at ek
            omega
          dsimp only
          rw [if_neg this]
        · simp
      simp [t__law_ct_bids, N__law_ct_bids, PySem.sizeLine_eq, boolsD, intsD, TyE.sub, people_len, -List.map_take]
      refine ⟨by omega, ?_⟩
      have := hN _ _ ⟨hD5, by omega, Sl.val (.int i), Sl.val (iL l), Sl.val (rD own), fun j => if j = (i : Int) then r else f j, fun j j0 j1 => ?_, rfl⟩
      · rw [← eL, List.map_take] at this
        exact this
      · dsimp only
        by_cases e : j = (i : Int)
        · rw [if_pos e]; exact hr
        · rw [if_neg e]; exact hf j j0 (by omega)
  · rintro σ st1 ⟨hD1, ht1, x4, x5, x6, f, hf, rfl⟩
    rw [List.length_map, people_len] at ht1 hf
    rw [List.length_map, List.take_length]
    simp [t__law_ct_bids, N__law_ct_bids, PySem.sizeLine_eq, boolsD, intsD, TyE.sub]
    exact q _ (IsB.mk' hf) _ hD1 (by omega)
abbrev N__law_ct_no_people : List Str := ["draws"]
abbrev ps__law_ct_no_people : List Str := ["draws"]
def t__law_ct_no_people [WW] : TSD := (sRet (eCall sp__law_pick [(eVar 0), (eLst [(eC .non), (eC (.int 0)), (eC (.int 5)), (eC (.bl true)), (eC (.str "2")), (eTup [(eC (.int 2))])])]))
def sp__law_ct_no_people : DSp := fun ds st Q E => match ds with
  | [a] => oG (toA a) fun a => (DrawS a st ∧ tn a st < 1000000) ∧ ∀ d, Pl 3 d → isP d = false → After a st 1 fun st' => Q d st'
  | _ => False
@[simp ↓] theorem zc__law_ct_no_people {a : D} {st : Sto} {Q : D → Sto → Prop} {E : Exn → Sto → Prop} : sp__law_ct_no_people [a] st Q E = (oG (toA a) fun a => (DrawS a st ∧ tn a st < 1000000) ∧ ∀ d, Pl 3 d → isP d = false → After a st 1 fun st' => Q d st') := rfl
theorem w__law_ct_no_people (ds : List D) (st : Sto) (Qd : D → Sto → Prop) (Ed : Exn → Sto → Prop) (hl : ds.length = ps__law_ct_no_people.length) (h : sp__law_ct_no_people ds st Qd Ed) : t__law_ct_no_people (fun x _ st' => Ed x st') { nx := fun _ st' => Qd .non st', rt := Qd } (startD N__law_ct_no_people ds) st := by
  obtain ⟨d0, rfl⟩ := len1 hl
  rw [zc__law_ct_no_people] at h
  try simp only [← oG_ex] at h
  obtain ⟨a, ea, ⟨hD, htn⟩, q⟩ := h
  obtain rfl := toA_eq ea
  simp [t__law_ct_no_people, N__law_ct_no_people, PySem.sizeLine_eq, boolsD, intsD, TyE.sub]
  refine ⟨⟨hD, htn⟩, fun d hd => ?_⟩
  unfold OneOf at hd
  have hq : Pl 3 d ∧ isP d = false := by
    simp only [List.mem_cons, List.not_mem_nil, or_false] at hd
    rcases hd with rfl | rfl | rfl | rfl | rfl | rfl
    all_goals first | exact ⟨trivial, rfl⟩ | (refine ⟨?_, rfl⟩; intro x hx; rw [List.mem_singleton.mp hx]; trivial)
  intro st1 hD1 ht1
  have nd := pl_nod hq.1
  simp [t__law_ct_no_people, N__law_ct_no_people, PySem.sizeLine_eq, boolsD, intsD, TyE.sub, DL.z_fz_nod nd, DL.z_rd_nod nd]
  exact q d hq.1 hq.2 st1 hD1 ht1
abbrev N__law_ct_no_lot : List Str := ["draws", "people"]
abbrev ps__law_ct_no_lot : List Str := ["draws", "people"]
def t__law_ct_no_lot [WW] : TSD := (sRet (eCall sp__law_pick [(eVar 0), (eLst [(eC .non), (eTup []), (eLst [(eC (.int 0))]), (eTup [(eVar 1)]), (eTup [(eUn negD (eC (.int 1)))]), (eTup [(eC (.int 0)), (eC (.int 0))]), (eTup [(eC (.bl true))]), (eC (.str "0"))])]))
theorem isLot_no {p : Nat} {d : D} (h : ∀ l, toL d = some l → l ∉ lots p) : isLot p d = false := by
  unfold isLot
  cases e : toL d with
  | none => rfl
  | some l => exact decide_eq_false (h l e)
def sp__law_ct_no_lot : DSp := fun ds st Q E => match ds with
  | [a, b] => oG (toA a) fun a => oG (toP b) fun p => (DrawS a st ∧ tn a st < 1000000) ∧ ∀ d, Pl 3 d → isLot p d = false → After a st 1 fun st' => Q d st'
  | _ => False
@[simp ↓] theorem zc__law_ct_no_lot {a b : D} {st : Sto} {Q : D → Sto → Prop} {E : Exn → Sto → Prop} : sp__law_ct_no_lot [a, b] st Q E = (oG (toA a) fun a => oG (toP b) fun p => (DrawS a st ∧ tn a st < 1000000) ∧ ∀ d, Pl 3 d → isLot p d = false → After a st 1 fun st' => Q d st') := rfl
theorem w__law_ct_no_lot (ds : List D) (st : Sto) (Qd : D → Sto → Prop) (Ed : Exn → Sto → Prop) (hl : ds.length = ps__law_ct_no_lot.length) (h : sp__law_ct_no_lot ds st Qd Ed) : t__law_ct_no_lot (fun x _ st' => Ed x st') { nx := fun _ st' => Qd .non st', rt := Qd } (startD N__law_ct_no_lot ds) st := by
  obtain ⟨d0, d1, rfl⟩ := len2 hl
  rw [zc__law_ct_no_lot] at h
  try simp only [← oG_ex] at h
  obtain ⟨a, ea, p, hp, ⟨hD, htn⟩, q⟩ := h
  obtain rfl := toA_eq ea
  obtain ⟨rfl, p1, p4⟩ := toP_eq hp
  simp [t__law_ct_no_lot, N__law_ct_no_lot, PySem.sizeLine_eq, boolsD, intsD, TyE.sub]
  refine ⟨⟨hD, htn⟩, fun d hd => ?_⟩
  unfold OneOf at hd
  have hq : Pl 3 d ∧ isLot p d = false := by
    simp only [List.mem_cons, List.not_mem_nil, or_false] at hd
    have key : ∀ l : List Int, l ∉ lots p → isLot p (.tup (l.map .int)) = false := fun l hl => isLot_no fun l' e => by
      rw [s_toL] at e; cases e; exact hl
    have pk : ∀ l : List Int, Pl 3 (.tup (l.map .int)) := fun l => by show ∀ x ∈ l.map D.int, Pl 2 x; rw [pl_ints]; trivial
    rcases hd with rfl | rfl | rfl | rfl | rfl | rfl | rfl | rfl
    · exact ⟨trivial, rfl⟩
    · exact ⟨pk [], key [] fun z => ((lots_len p4).2 _ z).2 rfl⟩
    · exact ⟨by intro x hx; rw [List.mem_singleton.mp hx]; trivial, rfl⟩
    · exact ⟨pk [(p : Int)], key [(p : Int)] fun z => by have := mem_lot z (i := p) (by simp); omega⟩
    · exact ⟨pk [-1], key [-1] fun z => by have := mem_lot z (i := -1) (by simp); omega⟩
    · exact ⟨pk [0, 0], key [0, 0] fun z => by have := (mem_lots.mp z).2.1; simp at this⟩
    · exact ⟨by intro x hx; rw [List.mem_singleton.mp hx]; trivial, rfl⟩
    · exact ⟨trivial, rfl⟩
  intro st1 hD1 ht1
  have nd := pl_nod hq.1
  simp [t__law_ct_no_lot, N__law_ct_no_lot, PySem.sizeLine_eq, boolsD, intsD, TyE.sub, DL.z_fz_nod nd, DL.z_rd_nod nd]
  exact q d hq.1 hq.2 st1 hD1 ht1
abbrev N__law_ct_no_amounts : List Str := ["draws", "many"]
abbrev ps__law_ct_no_amounts : List Str := ["draws", "many"]
def t__law_ct_no_amounts [WW] : TSD := (sRet (eCall sp__law_pick [(eVar 0), (eLst [(eC .non), (eBin mulsD (eTup [(eTup [(eC (.int 1)), (eC (.int 1))])]) (eBin addD (eVar 1) (eC (.int 1)))), (eBin mulsD (eLst [(eTup [(eC (.int 1)), (eC (.int 1))])]) (eVar 1)), (eBin mulsD (eTup [(eTup [(eUn negD (eC (.int 1))), (eC (.int 1))])]) (eVar 1)), (eBin mulsD (eTup [(eC (.int 1))]) (eVar 1)), (eBin mulsD (eTup [(eTup [(eC (.int 2)), (eC (.int 4))])]) (eVar 1)), (eC (.str "a"))])]))
def sp__law_ct_no_amounts : DSp := fun ds st Q E => match ds with
  | [a, b] => oG (toA a) fun a => oG (toI b) fun m => (DrawS a st ∧ tn a st < 1000000 ∧ 1 ≤ m ∧ m ≤ 4) ∧ ∀ d, Pl 3 d → areA m d = false → After a st 1 fun st' => Q d st'
  | _ => False
@[simp ↓] theorem zc__law_ct_no_amounts {a b : D} {st : Sto} {Q : D → Sto → Prop} {E : Exn → Sto → Prop} : sp__law_ct_no_amounts [a, b] st Q E = (oG (toA a) fun a => oG (toI b) fun m => (DrawS a st ∧ tn a st < 1000000 ∧ 1 ≤ m ∧ m ≤ 4) ∧ ∀ d, Pl 3 d → areA m d = false → After a st 1 fun st' => Q d st') := rfl
theorem w__law_ct_no_amounts (ds : List D) (st : Sto) (Qd : D → Sto → Prop) (Ed : Exn → Sto → Prop) (hl : ds.length = ps__law_ct_no_amounts.length) (h : sp__law_ct_no_amounts ds st Qd Ed) : t__law_ct_no_amounts (fun x _ st' => Ed x st') { nx := fun _ st' => Qd .non st', rt := Qd } (startD N__law_ct_no_amounts ds) st := by
  obtain ⟨d0, d1, rfl⟩ := len2 hl
  rw [zc__law_ct_no_amounts] at h
  try simp only [← oG_ex] at h
  obtain ⟨a, ea, m, hm, ⟨hD, htn, m1, m4⟩, q⟩ := h
  obtain rfl := toA_eq ea
  obtain rfl := toI_eq hm
  simp [t__law_ct_no_amounts, N__law_ct_no_amounts, PySem.sizeLine_eq, boolsD, intsD, TyE.sub, rep_x]
  repeat refine ⟨by omega, ?_⟩
  refine ⟨⟨hD, htn⟩, fun d hd => ?_⟩
  unfold OneOf at hd
  have hpl : ∀ (n : Nat) (x : D), Pl 2 x → Pl 3 (.tup (List.replicate n x)) := fun n x h y hy => by rw [(List.mem_replicate.mp hy).2]; exact h
  have hpll : ∀ (n : Nat) (x : D), Pl 2 x → Pl 3 (.lst (List.replicate n x)) := fun n x h y hy => by rw [(List.mem_replicate.mp hy).2]; exact h
  have hno : ∀ (x : D), isA x = false → areA m (.tup (List.replicate m.toNat x)) = false := fun x h => by
    obtain ⟨k, hk⟩ : ∃ k, m.toNat = k + 1 := ⟨m.toNat - 1, by omega⟩
    show (decide _ && (List.replicate m.toNat x).all isA) = false
    rw [hk, List.replicate_succ, List.all_cons, h, Bool.false_and, Bool.and_false]
  have hq : Pl 3 d ∧ areA m d = false := by
    simp only [List.mem_cons, List.not_mem_nil, or_false] at hd
    have p2 : ∀ x y : Int, Pl 2 (.tup [.int x, .int y]) := fun x y z hz => by
      simp only [List.mem_cons, List.not_mem_nil, or_false] at hz
      rcases hz with rfl | rfl <;> (rw [pl_int]; trivial)
    rcases hd with rfl | rfl | rfl | rfl | rfl | rfl | rfl
    · exact ⟨trivial, rfl⟩
    · refine ⟨hpl _ _ (p2 _ _), ?_⟩
      show (decide _ && _) = false
      rw [List.length_replicate, decide_eq_false (by omega), Bool.false_and]
    · exact ⟨hpll _ _ (p2 _ _), rfl⟩
    · exact ⟨hpl _ _ (p2 _ _), hno _ (by decide)⟩
    · exact ⟨hpl _ _ trivial, hno _ rfl⟩
    · exact ⟨hpl _ _ (p2 _ _), hno _ (by decide)⟩
    · exact ⟨trivial, rfl⟩
  intro st1 hD1 ht1
  have nd := pl_nod hq.1
  simp [t__law_ct_no_amounts, N__law_ct_no_amounts, PySem.sizeLine_eq, boolsD, intsD, TyE.sub, DL.z_fz_nod nd, DL.z_rd_nod nd]
  exact q d hq.1 hq.2 st1 hD1 ht1
abbrev N_need_shares : List Str := ["people", "shares"]
abbrev ps_need_shares : List Str := ["people", "shares"]
def t_need_shares [WW] (K : PySem.W.Frag) : TSD := (sSeq (sDrop (eCall (sp_need_people K) [(eVar 0)])) (sIf (tNotD (tVal (eCall sp_are_shares [(eVar 0), (eVar 1)]))) (sRaise (He.ga K "BadShares")) sNext))
def sp_need_shares (K : PySem.W.Frag) : DSp := fun ds st Q E => match ds with
  | [a, b] => Pl 40 a ∧ if isP a = true then oG (toP a) fun p => if nilT b = true then E (exn K "BadShares") st else IsSh p b ∧ Q .non st else E (exn K "BadPeople") st
  | _ => False
@[simp ↓] theorem zc_need_shares {K : PySem.W.Frag} {a b : D} {st : Sto} {Q : D → Sto → Prop} {E : Exn → Sto → Prop} : sp_need_shares K [a, b] st Q E = (Pl 40 a ∧ if isP a = true then oG (toP a) fun p => if nilT b = true then E (exn K "BadShares") st else IsSh p b ∧ Q .non st else E (exn K "BadPeople") st) := rfl
theorem w_need_shares {K : PySem.W.Frag} (ds : List D) (st : Sto) (Qd : D → Sto → Prop) (Ed : Exn → Sto → Prop) (hl : ds.length = ps_need_shares.length) (h : sp_need_shares K ds st Qd Ed) : t_need_shares K (fun x _ st' => Ed x st') { nx := fun _ st' => Qd .non st', rt := Qd } (startD N_need_shares ds) st := by
  obtain ⟨d0, d1, rfl⟩ := len2 hl
  rw [zc_need_shares] at h
  try simp only [← oG_ex] at h
  obtain ⟨hp, q⟩ := h
  have na := pl_nod hp
  cases ep : isP d0
  · rw [ep, if_neg (by simp)] at q
    simp [t_need_shares, N_need_shares, PySem.sizeLine_eq, boolsD, intsD, TyE.sub, DL.z_fz_nod na, DL.z_rd_nod na, hp, ep]
    exact q
  · rw [ep, if_pos rfl] at q
    obtain ⟨p, et, q⟩ := q
    obtain ⟨rfl, p1, p4⟩ := toP_eq et
    cases en : nilT d1
    · rw [en, if_neg (by simp)] at q
      obtain ⟨hS, q⟩ := q
      have nS := hS.nod
      simp [t_need_shares, N_need_shares, PySem.sizeLine_eq, boolsD, intsD, TyE.sub, DL.z_fz_nod nS, DL.z_rd_nod nS, ep, et, en, hS]
      exact q
    · rw [en, if_pos rfl] at q
      obtain rfl : d1 = .dT [] := nilT_eq en
      simp [t_need_shares, N_need_shares, PySem.sizeLine_eq, boolsD, intsD, TyE.sub, ep, et, en]
      exact q
abbrev N_has_of : List Str := ["people", "shares", "worths", "bids", "lot", "paid", "person"]
abbrev ps_has_of : List Str := ["people", "shares", "worths", "bids"]
def t_has_of [WW] : TSD := (sSeq (sPars [4, 5] [.v (eCall sp_served_of [(eVar 0), (eVar 1), (eVar 3)]), .v (eCall sp_charged_of [(eVar 0), (eVar 1), (eVar 3)])]) (sRet (eN (nLc (iRange1 (eVar 0)) (.n 6) tYesD (eIf (tVal (eBin inD (eVar 6) (eVar 4))) (eCall sp_minus [(eBin ixD (eVar 2) (eVar 6)), (eBin ixD (eVar 5) (eVar 6))]) (eC (.tup [.int 0, .int 1]))) [6]))))
def sp_has_of : DSp := fun ds st Q E => match ds with
  | [a, b, c, d] => oG (toP a) fun p => (IsSh p b ∧ IsB p c ∧ IsB p d) ∧ Q (lstD p (hasAt p b (bid c) (bid d))) st
  | _ => False
@[simp ↓] theorem zc_has_of {a b c d : D} {st : Sto} {Q : D → Sto → Prop} {E : Exn → Sto → Prop} : sp_has_of [a, b, c, d] st Q E = (oG (toP a) fun p => (IsSh p b ∧ IsB p c ∧ IsB p d) ∧ Q (lstD p (hasAt p b (bid c) (bid d))) st) := rfl
theorem w_has_of (ds : List D) (st : Sto) (Qd : D → Sto → Prop) (Ed : Exn → Sto → Prop) (hl : ds.length = ps_has_of.length) (h : sp_has_of ds st Qd Ed) : t_has_of (fun x _ st' => Ed x st') { nx := fun _ st' => Qd .non st', rt := Qd } (startD N_has_of ds) st := by
  obtain ⟨d0, d1, d2, d3, rfl⟩ := len4 hl
  rw [zc_has_of] at h
  try simp only [← oG_ex] at h
  obtain ⟨p, hp, ⟨hS, hW, hB⟩, q⟩ := h
  obtain ⟨rfl, p1, p4⟩ := toP_eq hp
  have nS := hS.nod
  have nW := hW.nod
  have nB := hB.nod
  simp [t_has_of, N_has_of, PySem.sizeLine_eq, boolsD, intsD, TyE.sub, DL.z_fz_nod nS, DL.z_rd_nod nS, DL.z_fz_nod nB, DL.z_rd_nod nB, DL.z_fz_nod nW, DL.z_rd_nod nW, toP_nat p1 p4, range_people, big62, bD]
  refine ⟨⟨hS, hB⟩, by omega, ?_⟩
  refine map_all D.int (fun i => rD (hasAt p d1 (bid d2) (bid d3) i)) (people p) (fun i hi Kt Kf hk => ?_) ?_
  · obtain ⟨h0, h1⟩ := mem_people.mp hi
    simp [t_has_of, N_has_of, PySem.sizeLine_eq, boolsD, intsD, TyE.sub, DL.z_fz_nod nS, DL.z_rd_nod nS, DL.z_fz_nod nW, DL.z_rd_nod nW, hW.ix h0 h1, at_map, at_people h0 h1]
    unfold hasAt at hk
    by_cases hm : i ∈ served p d1 (bid d3)
    · rw [if_pos hm] at hk ⊢
      refine ⟨(hW.gd h0 h1).ok, (paid_gd hS p1 i).ok, ?_⟩
      have e : paid p d1 (bid d3) i = shareAt d1 (served p d1 (bid d3)) i := if_pos hm
      rw [e]
      exact hk _ rfl
    · rw [if_neg hm] at hk ⊢
      exact hk _ rfl
  · simp [t_has_of, N_has_of, PySem.sizeLine_eq, boolsD, intsD, TyE.sub]
    exact q
abbrev N_lot_gain : List Str := ["people", "shares", "worths", "lot", "bids", "told", "now", "later", "person"]
abbrev ps_lot_gain : List Str := ["people", "shares", "worths", "lot", "bids"]
def t_lot_gain [WW] (K : PySem.W.Frag) : TSD := (sSeq (sDrop (eCall (sp_need_shares K) [(eVar 0), (eVar 1)])) (sSeq (sIf (tNotD (tVal (eCall sp_are_amounts [(eVar 2), (eVar 0)]))) (sRaise (He.ga K "BadWorths")) sNext) (sSeq (sDrop (eCall (sp_need_lot K) [(eVar 0), (eVar 3)])) (sSeq (sIf (tNotD (tVal (eCall sp_are_amounts [(eVar 4), (eCB (b1 lenD) (aCons (eVar 3) aNil))]))) (sRaise (He.ga K "BadBids")) sNext) (sSeq (sAsg 5 (eCB (b1 tupleD) (aCons (eN (nLc (iRange1 (eVar 0)) (.n 8) tYesD (eIf (tVal (eBin inD (eVar 8) (eVar 3))) (eBin ixD (eVar 4) (eIndexT (eVar 3) (eVar 8))) (eBin ixD (eVar 2) (eVar 8))) [8])) aNil))) (sSeq (sPars [6, 7] [.v (eCall sp_has_of [(eVar 0), (eVar 1), (eVar 2), (eVar 2)]), .v (eCall sp_has_of [(eVar 0), (eVar 1), (eVar 2), (eVar 5)])]) (sRet (eCB (b1 tupleD) (aCons (eN (nLc (iAnyD (eVar 3)) (.n 8) tYesD (eCall sp_minus [(eBin ixD (eVar 7) (eVar 8)), (eBin ixD (eVar 6) (eVar 8))]) [8])) aNil)))))))))
def sp_lot_gain (K : PySem.W.Frag) : DSp := fun ds st Q E => match ds with
  | [a, b, c, d, e] => Pl 40 a ∧ nod b ∧ if isP a = true then oG (toP a) fun p => if nilT b = true then E (exn K "BadShares") st else IsSh p b ∧ Pl 3 c ∧ if areA p c = true then Pl 3 d ∧ if isLot p d = true then oG (toL d) fun l => Pl 3 e ∧ if areA l.length e = true then (IsB p c ∧ IsL l e) ∧ Q (.tup (l.map fun i => rD (gain p b (bid c) (bid (toldD p l (bidL l e) (bid c))) i))) st else E (exn K "BadBids") st else E (exn K "BadLot") st else E (exn K "BadWorths") st else E (exn K "BadPeople") st
  | _ => False
@[simp ↓] theorem zc_lot_gain {K : PySem.W.Frag} {a b c d e : D} {st : Sto} {Q : D → Sto → Prop} {E : Exn → Sto → Prop} : sp_lot_gain K [a, b, c, d, e] st Q E = (Pl 40 a ∧ nod b ∧ if isP a = true then oG (toP a) fun p => if nilT b = true then E (exn K "BadShares") st else IsSh p b ∧ Pl 3 c ∧ if areA p c = true then Pl 3 d ∧ if isLot p d = true then oG (toL d) fun l => Pl 3 e ∧ if areA l.length e = true then (IsB p c ∧ IsL l e) ∧ Q (.tup (l.map fun i => rD (gain p b (bid c) (bid (toldD p l (bidL l e) (bid c))) i))) st else E (exn K "BadBids") st else E (exn K "BadLot") st else E (exn K "BadWorths") st else E (exn K "BadPeople") st) := rfl
theorem w_lot_gain {K : PySem.W.Frag} (ds : List D) (st : Sto) (Qd : D → Sto → Prop) (Ed : Exn → Sto → Prop) (hl : ds.length = ps_lot_gain.length) (h : sp_lot_gain K ds st Qd Ed) : t_lot_gain K (fun x _ st' => Ed x st') { nx := fun _ st' => Qd .non st', rt := Qd } (startD N_lot_gain ds) st := by
  obtain ⟨d0, d1, d2, d3, d4, rfl⟩ := len5 hl
  rw [zc_lot_gain] at h
  try simp only [← oG_ex] at h
  obtain ⟨hp, nb, q⟩ := h
  have na := pl_nod hp
  cases ep : isP d0
  · rw [ep, if_neg (by simp)] at q
    simp [t_lot_gain, N_lot_gain, PySem.sizeLine_eq, boolsD, intsD, TyE.sub, DL.z_fz_nod na, DL.z_rd_nod na, DL.z_fz_nod nb, DL.z_rd_nod nb, hp, ep]
    exact q
  · rw [ep, if_pos rfl] at q
    obtain ⟨p, et, q⟩ := q
    obtain ⟨rfl, p1, p4⟩ := toP_eq et
    cases en : nilT d1
    · rw [en, if_neg (by simp)] at q
      obtain ⟨hS, hc, q⟩ := q
      have nS := hS.nod
      have nc := pl_nod hc
      cases ec : areA p d2
      · rw [ec, if_neg (by simp)] at q
        simp [t_lot_gain, N_lot_gain, PySem.sizeLine_eq, boolsD, intsD, TyE.sub, DL.z_fz_nod nS, DL.z_rd_nod nS, DL.z_fz_nod nc, DL.z_rd_nod nc, ep, et, en, hS, hc, ec]
        exact q
      · rw [ec, if_pos rfl] at q
        obtain ⟨hd, q⟩ := q
        have nd := pl_nod hd
        cases ed : isLot p d3
        · rw [ed, if_neg (by simp)] at q
          simp [t_lot_gain, N_lot_gain, PySem.sizeLine_eq, boolsD, intsD, TyE.sub, DL.z_fz_nod nS, DL.z_rd_nod nS, DL.z_fz_nod nc, DL.z_rd_nod nc, DL.z_fz_nod nd, DL.z_rd_nod nd, ep, et, en, hS, hc, ec, hd, ed]
          exact q
        · rw [ed, if_pos rfl] at q
          obtain ⟨l, el, he, q⟩ := q
          obtain rfl := toL_eq el
          have ne := pl_nod he
          cases ee : areA l.length d4
          · rw [ee, if_neg (by simp)] at q
            simp [t_lot_gain, N_lot_gain, PySem.sizeLine_eq, boolsD, intsD, TyE.sub, DL.z_fz_nod nS, DL.z_rd_nod nS, DL.z_fz_nod nc, DL.z_rd_nod nc, DL.z_fz_nod nd, DL.z_rd_nod nd, DL.z_fz_nod ne, DL.z_rd_nod ne, ep, et, en, hS, hc, ec, hd, ed, he, ee]
            exact q
          · rw [ee, if_pos rfl] at q
            obtain ⟨⟨hW, hB⟩, q⟩ := q
            have hlot : l ∈ lots p := by
              have : isLot p (iL l) = decide (l ∈ lots p) := by
                show (match toL (iL l) with | some l => decide (l ∈ lots p) | none => false) = _
                rw [s_toL]
              rw [this] at ed
              exact of_decide_eq_true ed
            simp [t_lot_gain, N_lot_gain, PySem.sizeLine_eq, boolsD, intsD, TyE.sub, DL.z_fz_nod nS, DL.z_rd_nod nS, DL.z_fz_nod nc, DL.z_rd_nod nc, DL.z_fz_nod nd, DL.z_rd_nod nd, DL.z_fz_nod ne, DL.z_rd_nod ne, ep, et, en, hS, hc, ec, hd, ed, he, ee, range_people, big62]
            refine ⟨by omega, ?_⟩
            refine map_all D.int (fun i => rD (if i ∈ l then bidL l d4 i else bid d2 i)) (people p) (fun i hi Kt Kf hk => ?_) ?_
            · obtain ⟨h0, h1⟩ := mem_people.mp hi
              simp [t_lot_gain, N_lot_gain, PySem.sizeLine_eq, boolsD, intsD, TyE.sub, DL.z_fz_nod nS, DL.z_rd_nod nS, DL.z_fz_nod nc, DL.z_rd_nod nc, DL.z_fz_nod ne, DL.z_rd_nod ne, hW.ix h0 h1]
              by_cases hm : i ∈ l
              · rw [if_pos hm] at hk ⊢
                simp [t_lot_gain, N_lot_gain, PySem.sizeLine_eq, boolsD, intsD, TyE.sub, DL.z_fz_nod ne, DL.z_rd_nod ne, idx_of_mem hm, hB.ix hm]
                exact hk _ rfl
              · rw [if_neg hm] at hk ⊢
                exact hk _ rfl
            · have hT : IsB p (toldD p l (bidL l d4) (bid d2)) := told_is (fun i hi => hB.gd hi) fun i h0 h1 => hW.gd h0 h1
              have nT := hT.nod
              have eT : D.tup ((people p).map fun i => rD (if i ∈ l then bidL l d4 i else bid d2 i)) = toldD p l (bidL l d4) (bid d2) := rfl
              simp [t_lot_gain, N_lot_gain, PySem.sizeLine_eq, boolsD, intsD, TyE.sub, ↓eT, DL.z_fz_nod nS, DL.z_rd_nod nS, DL.z_fz_nod nc, DL.z_rd_nod nc, DL.z_fz_nod nT, DL.z_rd_nod nT, et, lstD]
              refine ⟨⟨hS, hW⟩, ⟨hS, hW, hT⟩, ?_⟩
              refine map_all D.int (fun i => rD (gain p d1 (bid d2) (bid (toldD p l (bidL l d4) (bid d2))) i)) l (fun i hi Kt Kf hk => ?_) ?_
              · obtain ⟨h0, h1⟩ := mem_lot hlot hi
                simp [t_lot_gain, N_lot_gain, PySem.sizeLine_eq, boolsD, intsD, TyE.sub, at_map, at_people h0 h1]
                exact ⟨(has_md hS p1 (fun i h0 h1 => hW.gd h0 h1) i).ok, (has_md hS p1 (fun i h0 h1 => hW.gd h0 h1) i).ok, hk _ rfl⟩
              · simp [t_lot_gain, N_lot_gain, PySem.sizeLine_eq, boolsD, intsD, TyE.sub]
                exact q
    · rw [en, if_pos rfl] at q
      obtain rfl : d1 = .dT [] := nilT_eq en
      simp [t_lot_gain, N_lot_gain, PySem.sizeLine_eq, boolsD, intsD, TyE.sub, ep, et, en]
      exact q
abbrev N_law : List Str := ["script", "draws", "turn", "people", "shares", "every", "never", "lap", "worths", "bids", "lot", "told", "now", "later", "due", "own", "bad", "wrong", "climb", "even", "person", "part"]
abbrev ps_law : List Str := ["script"]
def t_law [WW] (K : PySem.W.Frag) : TSD := (sSeq (sAsg 1 (eCall sp__law_begun [(eVar 0)])) (sSeq (sFor (iRange1 (eBin addD (eC (.int 4)) (eCB (b2 min2D) (aCons (eCB (b1 lenD) (aCons (eVar 0) aNil)) (aCons (eC (.int 5)) aNil))))) (gN 2) (sSeq (sAsg 3 (eBin addD (eC (.int 1)) (eCall sp__law_draw [(eVar 1), (eC (.int 4))]))) (sSeq (sPars [4, 5] [.v (eCall sp__law_ct_shares [(eVar 1), (eVar 3)]), .v (eCall sp__law_ct_lots [(eVar 3)])]) (sSeq (sAsg 6 (eBin isDO (eCall sp__law_ct_rise [(eVar 3), (eVar 4)]) (eC .non))) (sSeq (sFor (iRange1 (eC (.int 8))) (gN 7) (sSeq (sPars [8, 9, 10] [.v (eCall sp__law_ct_bids [(eVar 1), (eVar 3), (eVar 4)]), .v (eCall sp__law_ct_bids [(eVar 1), (eVar 3), (eVar 4)]), .v (eCall sp__law_pick [(eVar 1), (eVar 5)])]) (sSeq (sAsg 11 (eCB (b1 tupleD) (aCons (eN (nLc (iRange1 (eVar 3)) (.n 20) tYesD (eIf (tVal (eBin inD (eVar 20) (eVar 10))) (eBin ixD (eVar 9) (eVar 20)) (eBin ixD (eVar 8) (eVar 20))) [20])) aNil))) (sSeq (sPars [12, 13] [.v (eCall sp__law_k66_has [(eVar 3), (eVar 4), (eVar 8), (eVar 8)]), .v (eCall sp__law_k66_has [(eVar 3), (eVar 4), (eVar 8), (eVar 11)])]) (sSeq (sAsg 14 (eCB (b1 tupleD) (aCons (eN (nLc (iAnyD (eVar 10)) (.n 20) tYesD (eCall sp__law_minus [(eBin ixD (eVar 13) (eVar 20)), (eBin ixD (eVar 12) (eVar 20))]) [20])) aNil))) (sSeq (sAsg 15 (eCB (b1 tupleD) (aCons (eN (nLc (iAnyD (eVar 10)) (.n 20) tYesD (eBin ixD (eVar 9) (eVar 20)) [20])) aNil))) (sSeq (sIf (tNotD (tVal (eCall sp__law_same [(eLst [(eCall (sp_lot_gain K) [(eVar 3), (eVar 4), (eVar 8), (eVar 10), (eVar 15)]), (eCallK (sp_lot_gain K) [4, 3, 2, 1, 0] [] [(eVar 15), (eVar 10), (eVar 8), (eVar 4), (eVar 3)])]), (eLst [(eVar 14), (eVar 14)])]))) (sRet (eC (.bl false))) sNext) (sSeq (sIf (tVal (eBin neD (eN (nLc (iAnyD (eVar 12)) (.n 21) (tVal (eBin ltD (eBin ixD (eVar 21) (eC (.int 0))) (eC (.int 0)))) (eC (.int 1)) [21])) (eLst []))) (sRet (eC (.bl false))) sNext) (sIf (tAndD (tVal (eVar 6)) (tAndD (tVal (eBin eqD (eN (nLc (iAnyD (eVar 14)) (.n 21) (tVal (eBin ltD (eBin ixD (eVar 21) (eC (.int 0))) (eC (.int 0)))) (eC (.int 1)) [21])) (eLst []))) (tVal (eBin neD (eN (nLc (iAnyD (eVar 14)) (.n 21) (tVal (eBin gtD (eBin ixD (eVar 21) (eC (.int 0))) (eC (.int 0)))) (eC (.int 1)) [21])) (eLst []))))) (sRet (eC (.bl false))) sNext))))))))) (sSeq (sPars [16, 17, 10] [.v (eCall sp__law_ct_no_amounts [(eVar 1), (eVar 3)]), .v (eCall sp__law_ct_no_lot [(eVar 1), (eVar 3)]), .v (eCall sp__law_pick [(eVar 1), (eVar 5)])]) (sSeq (sIf (tVal (eBin neD (eCall (sp__law_k66_kind K) [(eCaught K (.ref (He.ga K "LieError")) (eCall (sp_lot_gain K) [(eCall sp__law_ct_no_people [(eVar 1)]), (eC .non), (eC .non), (eC .non), (eC .non)]))]) (eLst [(eC (.int 0))]))) (sRet (eC (.bl false))) sNext) (sSeq (sIf (tVal (eBin neD (eCall (sp__law_k66_kind K) [(eCaught K (.ref (He.ga K "LieError")) (eCall (sp_lot_gain K) [(eVar 3), (eNw nDictT), (eVar 16), (eVar 17), (eC .non)]))]) (eLst [(eC (.int 1))]))) (sRet (eC (.bl false))) sNext) (sSeq (sIf (tVal (eBin neD (eCall (sp__law_k66_kind K) [(eCaught K (.ref (He.ga K "LieError")) (eCall (sp_lot_gain K) [(eVar 3), (eVar 4), (eVar 16), (eVar 17), (eC .non)]))]) (eLst [(eC (.int 2))]))) (sRet (eC (.bl false))) sNext) (sSeq (sIf (tVal (eBin neD (eCall (sp__law_k66_kind K) [(eCaught K (.ref (He.ga K "LieError")) (eCall (sp_lot_gain K) [(eVar 3), (eVar 4), (eVar 8), (eVar 17), (eC .non)]))]) (eLst [(eC (.int 3))]))) (sRet (eC (.bl false))) sNext) (sIf (tVal (eBin neD (eCall (sp__law_k66_kind K) [(eCaught K (.ref (He.ga K "LieError")) (eCall (sp_lot_gain K) [(eVar 3), (eVar 4), (eVar 8), (eVar 10), (eCall sp__law_ct_no_amounts [(eVar 1), (eCB (b1 lenD) (aCons (eVar 10) aNil))])]))]) (eLst [(eC (.int 4))]))) (sRet (eC (.bl false))) sNext))))))))))) (sSeq (sAsg 18 (eNw (nDispT [((eTup [(eC (.int 0))]), (eTup [(eTup [(eC (.int 1)), (eC (.int 1))])])), ((eTup [(eC (.int 1))]), (eTup [(eTup [(eC (.int 1)), (eC (.int 1))])])), ((eTup [(eC (.int 0)), (eC (.int 1))]), (eTup [(eTup [(eC (.int 3)), (eC (.int 1))]), (eTup [(eC (.int 0)), (eC (.int 1))])]))]))) (sSeq (sIf (tVal (eBin neD (eCall (sp_lot_gain K) [(eC (.int 2)), (eVar 18), (eTup [(eTup [(eC (.int 4)), (eC (.int 1))]), (eTup [(eC (.int 1)), (eC (.int 2))])]), (eTup [(eC (.int 0))]), (eTup [(eTup [(eC (.int 2)), (eC (.int 1))])])]) (eTup [(eTup [(eUn negD (eC (.int 1))), (eC (.int 1))])]))) (sRet (eC (.bl false))) sNext) (sSeq (sAsg 19 (eNw (nDispT [((eTup [(eC (.int 0))]), (eTup [(eTup [(eC (.int 1)), (eC (.int 1))])])), ((eTup [(eC (.int 1))]), (eTup [(eTup [(eC (.int 1)), (eC (.int 1))])])), ((eTup [(eC (.int 0)), (eC (.int 1))]), (eTup [(eTup [(eC (.int 2)), (eC (.int 1))]), (eTup [(eC (.int 2)), (eC (.int 1))])]))]))) (sRet (eAnd (eBin eqD (eCall (sp_lot_gain K) [(eC (.int 2)), (eVar 19), (eTup [(eTup [(eC (.int 3)), (eC (.int 1))]), (eTup [(eC (.int 3)), (eC (.int 1))])]), (eTup [(eC (.int 0)), (eC (.int 1))]), (eTup [(eTup [(eC (.int 3)), (eC (.int 1))]), (eTup [(eC (.int 0)), (eC (.int 1))])])]) (eTup [(eTup [(eC (.int 1)), (eC (.int 1))]), (eTup [(eUn negD (eC (.int 1))), (eC (.int 1))])])) (eBin eqD (eCall (sp_lot_gain K) [(eC (.int 2)), (eVar 19), (eTup [(eTup [(eC (.int 3)), (eC (.int 1))]), (eTup [(eC (.int 2)), (eC (.int 1))])]), (eTup [(eC (.int 0)), (eC (.int 1))]), (eTup [(eTup [(eC (.int 3)), (eC (.int 1))]), (eTup [(eC (.int 0)), (eC (.int 1))])])]) (eTup [(eTup [(eC (.int 1)), (eC (.int 1))]), (eTup [(eC (.int 0)), (eC (.int 1))])])))))))))
def climbS (l : List Int) : List Rt := if l = [0, 1] then [(3, 1), (0, 1)] else [(1, 1)]
def evenS (l : List Int) : List Rt := if l = [0, 1] then [(2, 1), (2, 1)] else [(1, 1)]
def climbK : List (NK × D) := [[0], [1], [0, 1]].map fun l => (nk l, D.tup ((climbS l).map rD))
def evenK : List (NK × D) := [[0], [1], [0, 1]].map fun l => (nk l, D.tup ((evenS l).map rD))
theorem climb_k : keysOf keyS [(.tup [.int 0], .tup [.tup [.int 1, .int 1]]), (.tup [.int 1], .tup [.tup [.int 1, .int 1]]), (.tup [.int 0, .int 1], .tup [.tup [.int 3, .int 1], .tup [.int 0, .int 1]])] = some climbK := rfl
theorem climb_p : putAllD [] climbK = climbK := rfl
theorem even_k : keysOf keyS [(.tup [.int 0], .tup [.tup [.int 1, .int 1]]), (.tup [.int 1], .tup [.tup [.int 1, .int 1]]), (.tup [.int 0, .int 1], .tup [.tup [.int 2, .int 1], .tup [.int 2, .int 1]])] = some evenK := rfl
theorem even_p : putAllD [] evenK = evenK := rfl
theorem gs1 : Gs (1, 1) := ⟨⟨by decide, by decide, by decide, by decide, by decide⟩, by decide, by decide⟩
theorem gs2 : Gs (2, 1) := ⟨⟨by decide, by decide, by decide, by decide, by decide⟩, by decide, by decide⟩
theorem gs3 : Gs (3, 1) := ⟨⟨by decide, by decide, by decide, by decide, by decide⟩, by decide, by decide⟩
theorem gs0 : Gs (0, 1) := ⟨⟨by decide, by decide, by decide, by decide, by decide⟩, by decide, by decide⟩
theorem lots2 : lots 2 = [[0], [0, 1], [1]] := rfl
theorem climb_sh : IsSh 2 (.dT climbK) := by
  refine ⟨[[0], [1], [0, 1]], climbS, by decide, fun l hl => ?_, rfl⟩
  rw [lots2] at hl
  simp only [List.mem_cons, List.not_mem_nil, or_false] at hl
  rcases hl with rfl | rfl | rfl
  · exact ⟨rfl, fun r hr => by rw [List.mem_singleton.mp hr]; exact gs1⟩
  · refine ⟨rfl, fun r hr => ?_⟩
    rcases List.mem_cons.mp hr with rfl | hr
    · exact gs3
    · rw [List.mem_singleton.mp hr]; exact gs0
  · exact ⟨rfl, fun r hr => by rw [List.mem_singleton.mp hr]; exact gs1⟩
theorem even_sh : IsSh 2 (.dT evenK) := by
  refine ⟨[[0], [1], [0, 1]], evenS, by decide, fun l hl => ?_, rfl⟩
  rw [lots2] at hl
  simp only [List.mem_cons, List.not_mem_nil, or_false] at hl
  rcases hl with rfl | rfl | rfl
  · exact ⟨rfl, fun r hr => by rw [List.mem_singleton.mp hr]; exact gs1⟩
  · refine ⟨rfl, fun r hr => ?_⟩
    rcases List.mem_cons.mp hr with rfl | hr
    · exact gs2
    · rw [List.mem_singleton.mp hr]; exact gs2
  · exact ⟨rfl, fun r hr => by rw [List.mem_singleton.mp hr]; exact gs1⟩
theorem gd2 {a b : Rt} (ha : Gd a) (hb : Gd b) : ∀ i : Int, 0 ≤ i → i < (2 : Nat) → Gd (if i = 0 then a else b) := fun i _ _ => by
  by_cases e : i = 0
  · rw [if_pos e]; exact ha
  · rw [if_neg e]; exact hb
def sp_law (K : PySem.W.Frag) : DSp := fun ds st Q E => match ds with
  | [a] => (Kinds K ∧ ∃ ns : List Int, a = .kls (ns.map .int) ∧ ns.length ≤ 63) ∧ ∀ st', Q (.bl true) st'
  | _ => False
@[simp ↓] theorem zc_law {K : PySem.W.Frag} {a : D} {st : Sto} {Q : D → Sto → Prop} {E : Exn → Sto → Prop} : sp_law K [a] st Q E = ((Kinds K ∧ ∃ ns : List Int, a = .kls (ns.map .int) ∧ ns.length ≤ 63) ∧ ∀ st', Q (.bl true) st') := rfl
theorem w_law {K : PySem.W.Frag} (ds : List D) (st : Sto) (Qd : D → Sto → Prop) (Ed : Exn → Sto → Prop) (hl : ds.length = ps_law.length) (h : sp_law K ds st Qd Ed) : t_law K (fun x _ st' => Ed x st') { nx := fun _ st' => Qd .non st', rt := Qd } (startD N_law ds) st := by
  obtain ⟨d0, rfl⟩ := len1 hl
  rw [zc_law] at h
  try simp only [← oG_ex] at h
  obtain ⟨⟨hK, ns, rfl, hn⟩, q⟩ := h
  simp [t_law, N_law, PySem.sizeLine_eq, boolsD, intsD, TyE.sub]
  refine ⟨⟨ns, rfl, by omega⟩, fun a st1 hD1 ht1 => ?_⟩
  have hT : (4 + if 5 < (ns.length : Int) then 5 else (ns.length : Int)) ≤ 9 ∧ 0 ≤ (4 + if 5 < (ns.length : Int) then 5 else (ns.length : Int)) := by split <;> omega
  generalize (4 + if 5 < (ns.length : Int) then 5 else (ns.length : Int)) = T at hT
  refine ⟨by unfold big62; omega, by omega, ?_⟩
  refine for_inv (fun i σ st' => DrawS a st' ∧ tn a st' ≤ 600 * i ∧ ∃ x2 x3 x4 x5 x6 x7 x8 x9 x10 x11 x12 x13 x14 x15 x16 x17 x18 x19 x20 x21, σ = [Sl.val (.kls (ns.map .int)), Sl.val (.ref a), x2, x3, x4, x5, x6, x7, x8, x9, x10, x11, x12, x13, x14, x15, x16, x17, x18, x19, x20, x21]) ⟨hD1, by omega, _, _, _, _, _, _, _, _, _, _, _, _, _, _, _, _, _, _, _, _, rfl⟩ (fun i d σ st2 ed hp' Nx hN => ?_) ?_
  · obtain ⟨hD2, ht2, x2, x3, x4, x5, x6, x7, x8, x9, x10, x11, x12, x13, x14, x15, x16, x17, x18, x19, x20, x21, rfl⟩ := hp'
    have hi : i < 9 := by
      have := (List.getElem?_eq_some_iff.mp ed).1
      simp [rangeL] at this
      omega
    obtain ⟨j, rfl⟩ : ∃ j : Int, d = .int j := by
      unfold rangeL at ed
      rw [List.getElem?_map] at ed
      obtain ⟨j, _, rfl⟩ := Option.map_eq_some_iff.mp ed
      exact ⟨_, rfl⟩
    simp [t_law, N_law, PySem.sizeLine_eq, boolsD, intsD, TyE.sub]
    refine ⟨⟨hD2, by omega⟩, fun x p0 p1 st3 hD3 ht3 => ?_⟩
    obtain ⟨p, hp⟩ : ∃ p : Nat, 1 + x = p := ⟨(1 + x).toNat, by omega⟩
    have h1p : 1 ≤ p := by omega
    have h4p : p ≤ 4 := by omega
    simp [t_law, N_law, PySem.sizeLine_eq, boolsD, intsD, TyE.sub, hp, toP_nat h1p h4p]
    refine ⟨⟨hD3, by omega⟩, fun S hS st4 hD4 ht4 => ?_⟩
    have nS := hS.nod
    simp [t_law, N_law, PySem.sizeLine_eq, boolsD, intsD, TyE.sub, toP_nat h1p h4p, DL.z_fz_nod nS, DL.z_rd_nod nS]
    refine ⟨hS, fun dr hdr => ?_⟩
    obtain ⟨nev, en, hnev, ndr⟩ : ∃ nev : Bool, isNon dr = nev ∧ (nev = true → Never p S) ∧ nod dr := by
      rcases hdr with ⟨rfl, h⟩ | ⟨l, g, i, rfl⟩
      · exact ⟨true, rfl, fun _ => h, trivial⟩
      · exact ⟨false, rfl, fun h => absurd h Bool.false_ne_true, trivial⟩
    have nno := ndr.no
    simp [t_law, N_law, PySem.sizeLine_eq, boolsD, intsD, TyE.sub, DL.z_fz_nod ndr, DL.z_rd_nod ndr, en, nno, rangeL_map]
    refine ⟨by decide, ?_⟩
    refine for_inv (fun k σ st' => DrawS a st' ∧ tn a st' ≤ 600 * i + 201 + 41 * k ∧ ∃ x7 x8 x9 x10 x11 x12 x13 x14 x15 x16 x17 x18 x19 x20 x21, (k = 0 ∨ ∃ W, x8 = Sl.val W ∧ IsB p W) ∧ σ = [Sl.val (.kls (ns.map .int)), Sl.val (.ref a), Sl.val (.int j), Sl.val (.int p), Sl.val S, Sl.val (.lst ((lots p).map iL)), Sl.val (.bl nev), x7, x8, x9, x10, x11, x12, x13, x14, x15, x16, x17, x18, x19, x20, x21]) ⟨hD4, by omega, _, _, _, _, _, _, _, _, _, _, _, _, _, _, _, .inl rfl, rfl⟩ (fun k d σ st5 ed2 hp' Nx2 hN2 => ?_) ?_
    · obtain ⟨hD5, ht5, x7, x8, x9, x10, x11, x12, x13, x14, x15, x16, x17, x18, x19, x20, x21, -, rfl⟩ := hp'
      have hk : k < 8 := by
        have := (List.getElem?_eq_some_iff.mp ed2).1
        simpa using this
      rw [List.getElem?_map] at ed2
      obtain ⟨lap, _, rfl⟩ := Option.map_eq_some_iff.mp ed2
      simp [t_law, N_law, PySem.sizeLine_eq, boolsD, intsD, TyE.sub, toP_nat h1p h4p, DL.z_fz_nod nS, DL.z_rd_nod nS]
      refine ⟨⟨hD5, by omega, hS⟩, fun W hW st6 hD6 ht6 => ?_⟩
      have nW := hW.nod
      simp [t_law, N_law, PySem.sizeLine_eq, boolsD, intsD, TyE.sub, toP_nat h1p h4p, DL.z_fz_nod nS, DL.z_rd_nod nS, DL.z_fz_nod nW, DL.z_rd_nod nW]
      refine ⟨⟨hD6, by omega, hS⟩, fun B hB st7 hD7 ht7 => ?_⟩
      have nB := hB.nod
      have hl15 := (lots_len h4p).1
      simp [t_law, N_law, PySem.sizeLine_eq, boolsD, intsD, TyE.sub, toP_nat h1p h4p, DL.z_fz_nod nS, DL.z_rd_nod nS, DL.z_fz_nod nW, DL.z_rd_nod nW, DL.z_fz_nod nB, DL.z_rd_nod nB]
      refine ⟨⟨hD7, by omega, lots_pos h1p, by omega⟩, fun d hd st8 hD8 ht8 => ?_⟩
      obtain ⟨l, hl, rfl⟩ := List.mem_map.mp hd
      simp [t_law, N_law, PySem.sizeLine_eq, boolsD, intsD, TyE.sub, toP_nat h1p h4p, DL.z_fz_nod nS, DL.z_rd_nod nS, DL.z_fz_nod nW, DL.z_rd_nod nW, DL.z_fz_nod nB, DL.z_rd_nod nB, range_people, big62]
      refine ⟨by omega, ?_⟩
      refine map_all D.int (fun i => rD (if i ∈ l then bid B i else bid W i)) (people p) (fun i hi Kt Kf hk => ?_) ?_
      · obtain ⟨h0, h1⟩ := mem_people.mp hi
        simp [t_law, N_law, PySem.sizeLine_eq, boolsD, intsD, TyE.sub, DL.z_fz_nod nB, DL.z_rd_nod nB, DL.z_fz_nod nW, DL.z_rd_nod nW, hW.ix h0 h1, hB.ix h0 h1]
        by_cases hm : i ∈ l
        · rw [if_pos hm] at hk ⊢
          exact hk _ rfl
        · rw [if_neg hm] at hk ⊢
          exact hk _ rfl
      · have hT' : IsB p (toldD p l (bid B) (bid W)) := told_is (fun i hi => hB.gd (mem_lot hl hi).1 (mem_lot hl hi).2) fun i h0 h1 => hW.gd h0 h1
        have nT := hT'.nod
        have eT : D.tup ((people p).map fun i => rD (if i ∈ l then bid B i else bid W i)) = toldD p l (bid B) (bid W) := rfl
        simp [t_law, N_law, PySem.sizeLine_eq, boolsD, intsD, TyE.sub, ↓eT, toP_nat h1p h4p, DL.z_fz_nod nS, DL.z_rd_nod nS, DL.z_fz_nod nW, DL.z_rd_nod nW, DL.z_fz_nod nB, DL.z_rd_nod nB, DL.z_fz_nod nT, DL.z_rd_nod nT, lstD]
        refine ⟨⟨hS, hW⟩, ⟨hS, hW, hT'⟩, ?_⟩
        have hwg : ∀ i : Int, 0 ≤ i → i < p → Gd (bid W i) := fun i h0 h1 => hW.gd h0 h1
        refine map_all D.int (fun i => rD (gain p S (bid W) (bid (toldD p l (bid B) (bid W))) i)) l (fun i hi Kt Kf hk => ?_) ?_
        · obtain ⟨h0, h1⟩ := mem_lot hl hi
          simp [t_law, N_law, PySem.sizeLine_eq, boolsD, intsD, TyE.sub, at_map, at_people h0 h1]
          exact ⟨(has_md hS h1p hwg i).ok, (has_md hS h1p hwg i).ok, hk _ rfl⟩
        · simp [t_law, N_law, PySem.sizeLine_eq, boolsD, intsD, TyE.sub]
          refine map_all D.int (fun i => rD (bid B i)) l (fun i hi Kt Kf hk => ?_) ?_
          · obtain ⟨h0, h1⟩ := mem_lot hl hi
            simp [t_law, N_law, PySem.sizeLine_eq, boolsD, intsD, TyE.sub, DL.z_fz_nod nB, DL.z_rd_nod nB, hB.ix h0 h1]
            exact hk _ rfl
          · have hgl : ∀ i ∈ l, Gd (bid B i) := fun i hi => hB.gd (mem_lot hl hi).1 (mem_lot hl hi).2
            have hIL : LT.IsL l (.tup (l.map fun i => rD (bid B i))) := ⟨bid B, hgl, rfl⟩
            have eT2 : toldD p l (bidL l (.tup (l.map fun i => rD (bid B i)))) (bid W) = toldD p l (bid B) (bid W) := bD_congr fun i h0 h1 => by
              by_cases z : i ∈ l
              · rw [if_pos z, if_pos z, bidL_D z]
              · rw [if_neg z, if_neg z]
            simp [t_law, N_law, PySem.sizeLine_eq, boolsD, intsD, TyE.sub, toP_nat h1p h4p, DL.z_fz_nod nS, DL.z_rd_nod nS, DL.z_fz_nod nW, DL.z_rd_nod nW, DL.z_fz_nod nB, DL.z_rd_nod nB, DL.z_fz_nod nT, DL.z_rd_nod nT, isP_nat h1p h4p, nil_sh hS h1p, nS, hS, hW, hW.pl, are_B hW, isLot_yes, hl, are_own hgl, hIL, eT2, pick]
            have hl4 := ((lots_len h4p).2 l hl).1
            refine ⟨?_, ?_⟩
            · have := dsz_rts (fun i => gain p S (bid W) (bid (toldD p l (bid B) (bid W))) i) l
              simp only [dsz, dszL] at this ⊢
              omega
            · have hnn := has_nonneg hS h1p hwg
              refine map_if (fun i => rD (hasAt p S (bid W) (bid W) i)) (fun i => decide ((hasAt p S (bid W) (bid W) i).1 < 0)) (fun _ => D.int 1) (people p) (fun i hi Kt Kf k1 k2 => ?_) ?_
              · simp [t_law, N_law, PySem.sizeLine_eq, boolsD, intsD, TyE.sub]
                have := hnn i
                rw [if_neg (by omega)]
                exact k2 (decide_eq_false (by omega)) _ rfl
              · have e0 : (people p).filter (fun i => decide ((hasAt p S (bid W) (bid W) i).1 < 0)) = [] := by
                  rw [List.filter_eq_nil_iff]
                  intro i hi
                  have := hnn i
                  simp; omega
                simp only [e0, List.map_nil]
                have htold : ∀ i : Int, 0 ≤ i → i < p → i ∉ l → bid (toldD p l (bid B) (bid W)) i = bid W i := fun i h0 h1 hm => by
                  unfold toldD
                  rw [bid_D h0 h1, if_neg hm]
                have hng := fun (hN : Never p S) => no_gain hS h1p hN hwg hl htold
                generalize bid (toldD p l (bid B) (bid W)) = tt at *
                have next : ∀ y20 y21, Nx2 [Sl.val (.kls (ns.map .int)), Sl.val (.ref a), Sl.val (.int j), Sl.val (.int p), Sl.val S, Sl.val (.lst ((lots p).map iL)), Sl.val (.bl nev), Sl.val (.int lap), Sl.val W, Sl.val B, Sl.val (iL l), Sl.val (toldD p l (bid B) (bid W)), Sl.val (.lst ((people p).map fun i => rD (hasAt p S (bid W) (bid W) i))), Sl.val (.lst ((people p).map fun i => rD (hasAt p S (bid W) tt i))), Sl.val (.tup (l.map fun i => rD (gain p S (bid W) tt i))), Sl.val (.tup (l.map fun i => rD (bid B i))), x16, x17, x18, x19, y20, y21] st8 := fun y20 y21 => by
                  exact hN2 _ _ ⟨hD8, by omega, _, _, _, _, _, _, _, _, _, _, _, _, _, _, _, .inr ⟨W, rfl, hW⟩, rfl⟩
                simp [t_law, N_law, PySem.sizeLine_eq, boolsD, intsD, TyE.sub]
                cases nev
                · exact next _ _
                · rw [if_pos rfl]
                  refine map_if (fun i => rD (gain p S (bid W) tt i)) (fun i => decide ((gain p S (bid W) tt i).1 < 0)) (fun _ => D.int 1) l (fun i hi Kt Kf k1 k2 => ?_) ?_
                  · simp [t_law, N_law, PySem.sizeLine_eq, boolsD, intsD, TyE.sub]
                    by_cases z : (gain p S (bid W) tt i).1 < 0
                    · rw [if_pos z]; exact k1 (decide_eq_true z) _ rfl
                    · rw [if_neg z]; exact k2 (decide_eq_false z) _ rfl
                  · by_cases hneg : ∀ i ∈ l, ¬ (gain p S (bid W) tt i).1 < 0
                    · have e1 : l.filter (fun i => decide ((gain p S (bid W) tt i).1 < 0)) = [] := by
                        rw [List.filter_eq_nil_iff]
                        intro i hi
                        simpa using hneg i hi
                      simp only [e1, List.map_nil]
                      simp [t_law, N_law, PySem.sizeLine_eq, boolsD, intsD, TyE.sub]
                      refine map_if (fun i => rD (gain p S (bid W) tt i)) (fun i => decide (0 < (gain p S (bid W) tt i).1)) (fun _ => D.int 1) l (fun i hi Kt Kf k1 k2 => ?_) ?_
                      · simp [t_law, N_law, PySem.sizeLine_eq, boolsD, intsD, TyE.sub]
                        have z := hng (hnev rfl) hneg i hi
                        rw [if_neg z]; exact k2 (decide_eq_false z) _ rfl
                      · have e2 : l.filter (fun i => decide (0 < (gain p S (bid W) tt i).1)) = [] := by
                          rw [List.filter_eq_nil_iff]
                          intro i hi
                          simpa using hng (hnev rfl) hneg i hi
                        simp only [e2, List.map_nil]
                        simp [t_law, N_law, PySem.sizeLine_eq, boolsD, intsD, TyE.sub]
                        exact next _ _
                    · have e1 : (l.filter (fun i => decide ((gain p S (bid W) tt i).1 < 0))).isEmpty = false := by
                        cases e : (l.filter (fun i => decide ((gain p S (bid W) tt i).1 < 0))).isEmpty
                        · rfl
                        · refine absurd (fun i hi => ?_) hneg
                          have := List.filter_eq_nil_iff.mp (List.isEmpty_iff.mp e) i hi
                          simpa using this
                      generalize l.filter (fun i => decide ((gain p S (bid W) tt i).1 < 0)) = fl at *
                      have e2 : fl ≠ [] := by intro z; rw [z] at e1; cases e1
                      simp [t_law, N_law, PySem.sizeLine_eq, boolsD, intsD, TyE.sub, e2]
                      exact next _ _
    · have e8 : ((List.range 8).map (D.int ∘ fun i : Nat => (i : Int))).length = 8 := rfl
      rintro σ st5 ⟨hD5, ht5, x7, x8, x9, x10, x11, x12, x13, x14, x15, x16, x17, x18, x19, x20, x21, hw8, rfl⟩
      simp only [List.length_map, List.length_range] at ht5 hw8
      obtain ⟨W, rfl, hW⟩ := hw8.resolve_left (by decide)
      have nW := hW.nod
      have hl15 := (lots_len h4p).1
      simp [t_law, N_law, PySem.sizeLine_eq, boolsD, intsD, TyE.sub, toP_nat h1p h4p]
      refine ⟨⟨hD5, by omega, by omega, by omega⟩, fun bad hbad nbad st6 hD6 ht6 => ?_⟩
      have nb := pl_nod hbad
      simp [t_law, N_law, PySem.sizeLine_eq, boolsD, intsD, TyE.sub, toP_nat h1p h4p, DL.z_fz_nod nb, DL.z_rd_nod nb]
      refine ⟨⟨hD6, by omega⟩, fun wrong hwr nwr st7 hD7 ht7 => ?_⟩
      have nw := pl_nod hwr
      simp [t_law, N_law, PySem.sizeLine_eq, boolsD, intsD, TyE.sub, toP_nat h1p h4p, DL.z_fz_nod nb, DL.z_rd_nod nb, DL.z_fz_nod nw, DL.z_rd_nod nw]
      refine ⟨⟨hD7, by omega, lots_pos h1p, by omega⟩, fun d hd st8 hD8 ht8 => ?_⟩
      obtain ⟨l, hl, rfl⟩ := List.mem_map.mp hd
      simp [t_law, N_law, PySem.sizeLine_eq, boolsD, intsD, TyE.sub, toP_nat h1p h4p, DL.z_fz_nod nb, DL.z_rd_nod nb, DL.z_fz_nod nw, DL.z_rd_nod nw]
      refine ⟨⟨hD8, by omega⟩, fun bp hbp nbp st9 hD9 ht9 => ?_⟩
      have nbp' := pl_nod hbp
      have hbp40 : Pl 40 bp := pl_mono hbp (by omega)
      have c0 := hK.at (i := 0) (x := "BadPeople") rfl
      have c1 := hK.at (i := 1) (x := "BadShares") rfl
      have c2 := hK.at (i := 2) (x := "BadWorths") rfl
      have c3 := hK.at (i := 3) (x := "BadLot") rfl
      have c4 := hK.at (i := 4) (x := "BadBids") rfl
      have f0 := hK.exm "BadPeople" (by decide)
      have f1 := hK.exm "BadShares" (by decide)
      have f2 := hK.exm "BadWorths" (by decide)
      have f3 := hK.exm "BadLot" (by decide)
      have f4 := hK.exm "BadBids" (by decide)
      have g0 : (∃ (i : Nat) (x : Str), names[i]? = some x ∧ He.ga K "BadPeople" = He.ga K x) = True := eq_true ⟨0, _, rfl, rfl⟩
      have g1 : (∃ (i : Nat) (x : Str), names[i]? = some x ∧ He.ga K "BadShares" = He.ga K x) = True := eq_true ⟨1, _, rfl, rfl⟩
      have g2 : (∃ (i : Nat) (x : Str), names[i]? = some x ∧ He.ga K "BadWorths" = He.ga K x) = True := eq_true ⟨2, _, rfl, rfl⟩
      have g3 : (∃ (i : Nat) (x : Str), names[i]? = some x ∧ He.ga K "BadLot" = He.ga K x) = True := eq_true ⟨3, _, rfl, rfl⟩
      have g4 : (∃ (i : Nat) (x : Str), names[i]? = some x ∧ He.ga K "BadBids" = He.ga K x) = True := eq_true ⟨4, _, rfl, rfl⟩
      have pP := isP_nat h1p h4p
      have pW := are_B hW
      simp [t_law, N_law, PySem.sizeLine_eq, boolsD, intsD, TyE.sub, toP_nat h1p h4p, DL.z_fz_nod nb, DL.z_rd_nod nb, DL.z_fz_nod nw, DL.z_rd_nod nw, DL.z_fz_nod nbp', DL.z_rd_nod nbp', hbp40, nbp, exn, f0, f1, f2, f3, f4, toE_exc, ↓g0, ↓g1, ↓g2, ↓g3, ↓g4, c0, c1, c2, c3, c4, hK, pP, nilT_nil, DL.z_fz_nod nS, DL.z_rd_nod nS, nil_sh hS h1p, hS, nS, hbad, nbad, DL.z_fz_nod nW, DL.z_rd_nod nW, hW.pl, pW, hwr, nwr, isLot_yes, hl]
      have hl4 := (lots_len h4p).2 l hl
      have hl0 := List.length_pos_iff.mpr hl4.2
      refine ⟨⟨hD9, by omega, by omega, by omega⟩, fun bb hbb nbb st10 hD10 ht10 => ?_⟩
      have nbb' := pl_nod hbb
      simp [t_law, N_law, PySem.sizeLine_eq, boolsD, intsD, TyE.sub, toP_nat h1p h4p, DL.z_fz_nod nb, DL.z_rd_nod nb, DL.z_fz_nod nw, DL.z_rd_nod nw, DL.z_fz_nod nbb', DL.z_rd_nod nbb', hbb, nbb, exn, f0, f1, f2, f3, f4, toE_exc, ↓g0, ↓g1, ↓g2, ↓g3, ↓g4, c0, c1, c2, c3, c4, hK, pP, nilT_nil, DL.z_fz_nod nS, DL.z_rd_nod nS, nil_sh hS h1p, hS, nS, hbad, nbad, DL.z_fz_nod nW, DL.z_rd_nod nW, hW.pl, pW, hwr, nwr, isLot_yes, hl]
      exact hN _ _ ⟨hD10, by omega, _, _, _, _, _, _, _, _, _, _, _, _, _, _, _, _, _, _, _, _, rfl⟩
  · rintro σ st2 ⟨hD2, ht2, x2, x3, x4, x5, x6, x7, x8, x9, x10, x11, x12, x13, x14, x15, x16, x17, x18, x19, x20, x21, rfl⟩
    have P2 : toP (.int 2) = some 2 := rfl
    have I2 : isP (.int 2) = true := rfl
    have NC := nil_sh climb_sh (by decide)
    have NE := nil_sh even_sh (by decide)
    have A1 : areA 2 (.tup [.tup [.int 4, .int 1], .tup [.int 1, .int 2]]) = true := by decide
    have L1 : isLot 2 (.tup [.int 0]) = true := by decide
    have T1 : toL (.tup [.int 0]) = some [0] := rfl
    have A2 : areA 1 (.tup [.tup [.int 2, .int 1]]) = true := by decide
    have B1 : IsB 2 (.tup [.tup [.int 4, .int 1], .tup [.int 1, .int 2]]) := ⟨fun i => if i = 0 then (4, 1) else (1, 2), gd2 ⟨by decide, by decide, by decide, by decide, by decide⟩ ⟨by decide, by decide, by decide, by decide, by decide⟩, rfl⟩
    have g21 : Gd (2, 1) := ⟨by decide, by decide, by decide, by decide, by decide⟩
    have g31 : Gd (3, 1) := ⟨by decide, by decide, by decide, by decide, by decide⟩
    have B2 : LT.IsL [0] (.tup [.tup [.int 2, .int 1]]) := ⟨fun _ => (2, 1), fun _ _ => g21, rfl⟩
    have G1 : gain 2 (.dT climbK) (bid (.tup [.tup [.int 4, .int 1], .tup [.int 1, .int 2]])) (bid (toldD 2 [0] (bidL [0] (.tup [.tup [.int 2, .int 1]])) (bid (.tup [.tup [.int 4, .int 1], .tup [.int 1, .int 2]])))) 0 = (-1, 1) := by decide +kernel
    have A3 : areA 2 (.tup [.tup [.int 3, .int 1], .tup [.int 3, .int 1]]) = true := by decide
    have A4 : areA 2 (.tup [.tup [.int 3, .int 1], .tup [.int 2, .int 1]]) = true := by decide
    have A5 : areA 2 (.tup [.tup [.int 3, .int 1], .tup [.int 0, .int 1]]) = true := by decide
    have L2 : isLot 2 (.tup [.int 0, .int 1]) = true := by decide
    have T2 : toL (.tup [.int 0, .int 1]) = some [0, 1] := rfl
    have B3 : IsB 2 (.tup [.tup [.int 3, .int 1], .tup [.int 3, .int 1]]) := ⟨fun i => if i = 0 then (3, 1) else (3, 1), gd2 g31 g31, rfl⟩
    have B4 : IsB 2 (.tup [.tup [.int 3, .int 1], .tup [.int 2, .int 1]]) := ⟨fun i => if i = 0 then (3, 1) else (2, 1), gd2 g31 g21, rfl⟩
    have B5 : LT.IsL [0, 1] (.tup [.tup [.int 3, .int 1], .tup [.int 0, .int 1]]) := ⟨fun i => if i = 0 then (3, 1) else (0, 1), fun i _ => by
      dsimp only
      by_cases e : i = 0
      · rw [if_pos e]; exact g31
      · rw [if_neg e]; exact gd_zero, rfl⟩
    have G2 : gain 2 (.dT evenK) (bid (.tup [.tup [.int 3, .int 1], .tup [.int 3, .int 1]])) (bid (toldD 2 [0, 1] (bidL [0, 1] (.tup [.tup [.int 3, .int 1], .tup [.int 0, .int 1]])) (bid (.tup [.tup [.int 3, .int 1], .tup [.int 3, .int 1]])))) 0 = (1, 1) := by decide +kernel
    have G3 : gain 2 (.dT evenK) (bid (.tup [.tup [.int 3, .int 1], .tup [.int 3, .int 1]])) (bid (toldD 2 [0, 1] (bidL [0, 1] (.tup [.tup [.int 3, .int 1], .tup [.int 0, .int 1]])) (bid (.tup [.tup [.int 3, .int 1], .tup [.int 3, .int 1]])))) 1 = (-1, 1) := by decide +kernel
    have G4 : gain 2 (.dT evenK) (bid (.tup [.tup [.int 3, .int 1], .tup [.int 2, .int 1]])) (bid (toldD 2 [0, 1] (bidL [0, 1] (.tup [.tup [.int 3, .int 1], .tup [.int 0, .int 1]])) (bid (.tup [.tup [.int 3, .int 1], .tup [.int 2, .int 1]])))) 0 = (1, 1) := by decide +kernel
    have G5 : gain 2 (.dT evenK) (bid (.tup [.tup [.int 3, .int 1], .tup [.int 2, .int 1]])) (bid (toldD 2 [0, 1] (bidL [0, 1] (.tup [.tup [.int 3, .int 1], .tup [.int 0, .int 1]])) (bid (.tup [.tup [.int 3, .int 1], .tup [.int 2, .int 1]])))) 1 = (0, 1) := by decide +kernel
    simp [t_law, N_law, PySem.sizeLine_eq, boolsD, intsD, TyE.sub, climb_k, climb_p, even_k, even_p, P2, I2, NC, NE, A1, L1, T1, A2, B1, B2, climb_sh, G1, even_sh, A3, A4, A5, L2, T2, B3, B4, B5, G2, G3, G4, G5]
    exact q st2
end K66

set_option Elab.async false
set_option linter.all false
set_option maxRecDepth 100000
set_option maxHeartbeats 4000000
namespace K66
open PySem PySem.Spec PyProof.Rows L2 DL LT DR
def tp (i : Nat) : Stmt := PySem.Challenge.pw_truthpays_k66_whole_no_lot_gains_by_lies.main.body.getD i (.Pass ⟨0, 0, 0, 0⟩)
structure Nm (K : PySem.W.Frag) (mg : Str → Option Value) : Prop where
  b_isinstance : mg "isinstance" = none
  b_int : mg "int" = none
  b_bool : mg "bool" = none
  b_tuple : mg "tuple" = none
  b_len : mg "len" = none
  b_all : mg "all" = none
  b_range : mg "range" = none
  b_sorted : mg "sorted" = none
  b_list : mg "list" = none
  b_zip : mg "zip" = none
  b_enumerate : mg "enumerate" = none
  b_abs : mg "abs" = none
  b_min : mg "min" = none
  b_dict : mg "dict" = none
  b_str : mg "str" = none
  m_gcd : mg "gcd" = some (.builtin "math.gcd")
  z_ZERO : mg "ZERO" = some (.ref (He.ga K "ZERO"))
  q_ZERO : ∀ H, TupF K H (He.ga K "ZERO") [.int 0, .int 1]
  i_MOST_PEOPLE : ∃ t, mg "MOST_PEOPLE" = some (.int 4 t)
  c_LieError : mg "LieError" = some (.ref (He.ga K "LieError"))
  c_BadBids : mg "BadBids" = some (.ref (He.ga K "BadBids"))
  c_BadLot : mg "BadLot" = some (.ref (He.ga K "BadLot"))
  c_BadPeople : mg "BadPeople" = some (.ref (He.ga K "BadPeople"))
  c_BadShares : mg "BadShares" = some (.ref (He.ga K "BadShares"))
  c_BadWorths : mg "BadWorths" = some (.ref (He.ga K "BadWorths"))
  x_BadBids : PySem.W.excIn K (He.ga K "BadBids") He.veBase "ValueError.__new__" = true ∧ PySem.W.keepIn K (.ref (He.ga K "BadBids")) = true ∧ PySem.W.subIn K (.ref (He.ga K "BadBids")) (.type "BaseException") = some true ∧ PySem.W.typeIn K (.ref (He.ga K "BadBids")) = some (.type "type")
  x_BadLot : PySem.W.excIn K (He.ga K "BadLot") He.veBase "ValueError.__new__" = true ∧ PySem.W.keepIn K (.ref (He.ga K "BadLot")) = true ∧ PySem.W.subIn K (.ref (He.ga K "BadLot")) (.type "BaseException") = some true ∧ PySem.W.typeIn K (.ref (He.ga K "BadLot")) = some (.type "type")
  x_BadPeople : PySem.W.excIn K (He.ga K "BadPeople") He.veBase "ValueError.__new__" = true ∧ PySem.W.keepIn K (.ref (He.ga K "BadPeople")) = true ∧ PySem.W.subIn K (.ref (He.ga K "BadPeople")) (.type "BaseException") = some true ∧ PySem.W.typeIn K (.ref (He.ga K "BadPeople")) = some (.type "type")
  x_BadShares : PySem.W.excIn K (He.ga K "BadShares") He.veBase "ValueError.__new__" = true ∧ PySem.W.keepIn K (.ref (He.ga K "BadShares")) = true ∧ PySem.W.subIn K (.ref (He.ga K "BadShares")) (.type "BaseException") = some true ∧ PySem.W.typeIn K (.ref (He.ga K "BadShares")) = some (.type "type")
  x_BadWorths : PySem.W.excIn K (He.ga K "BadWorths") He.veBase "ValueError.__new__" = true ∧ PySem.W.keepIn K (.ref (He.ga K "BadWorths")) = true ∧ PySem.W.subIn K (.ref (He.ga K "BadWorths")) (.type "BaseException") = some true ∧ PySem.W.typeIn K (.ref (He.ga K "BadWorths")) = some (.type "type")
  g_is_whole : mg "is_whole" = some (.ref (He.ga K "is_whole"))
  f_is_whole : ∃ fd, FunD K "is_whole" "is_whole" (defArgs (tp 10)) (defBody (tp 10)) (defScope (tp 10)) [] [] (He.ga K "is_whole") fd
  g_is_ratio : mg "is_ratio" = some (.ref (He.ga K "is_ratio"))
  f_is_ratio : ∃ fd, FunD K "is_ratio" "is_ratio" (defArgs (tp 11)) (defBody (tp 11)) (defScope (tp 11)) [] [] (He.ga K "is_ratio") fd
  g_lowest : mg "lowest" = some (.ref (He.ga K "lowest"))
  f_lowest : ∃ fd, FunD K "lowest" "lowest" (defArgs (tp 12)) (defBody (tp 12)) (defScope (tp 12)) [] [] (He.ga K "lowest") fd
  g_minus : mg "minus" = some (.ref (He.ga K "minus"))
  f_minus : ∃ fd, FunD K "minus" "minus" (defArgs (tp 13)) (defBody (tp 13)) (defScope (tp 13)) [] [] (He.ga K "minus") fd
  g_is_less : mg "is_less" = some (.ref (He.ga K "is_less"))
  f_is_less : ∃ fd, FunD K "is_less" "is_less" (defArgs (tp 14)) (defBody (tp 14)) (defScope (tp 14)) [] [] (He.ga K "is_less") fd
  g_lots_of : mg "lots_of" = some (.ref (He.ga K "lots_of"))
  f_lots_of : ∃ fd, FunD K "lots_of" "lots_of" (defArgs (tp 17)) (defBody (tp 17)) (defScope (tp 17)) [] [] (He.ga K "lots_of") fd
  g_is_people : mg "is_people" = some (.ref (He.ga K "is_people"))
  f_is_people : ∃ fd, FunD K "is_people" "is_people" (defArgs (tp 18)) (defBody (tp 18)) (defScope (tp 18)) [] [] (He.ga K "is_people") fd
  g_need_people : mg "need_people" = some (.ref (He.ga K "need_people"))
  f_need_people : ∃ fd, FunD K "need_people" "need_people" (defArgs (tp 19)) (defBody (tp 19)) (defScope (tp 19)) [] [] (He.ga K "need_people") fd
  g_are_amounts : mg "are_amounts" = some (.ref (He.ga K "are_amounts"))
  f_are_amounts : ∃ fd, FunD K "are_amounts" "are_amounts" (defArgs (tp 20)) (defBody (tp 20)) (defScope (tp 20)) [] [] (He.ga K "are_amounts") fd
  g_is_lot_of : mg "is_lot_of" = some (.ref (He.ga K "is_lot_of"))
  f_is_lot_of : ∃ fd, FunD K "is_lot_of" "is_lot_of" (defArgs (tp 21)) (defBody (tp 21)) (defScope (tp 21)) [] [] (He.ga K "is_lot_of") fd
  g_need_lot : mg "need_lot" = some (.ref (He.ga K "need_lot"))
  f_need_lot : ∃ fd, FunD K "need_lot" "need_lot" (defArgs (tp 22)) (defBody (tp 22)) (defScope (tp 22)) [] [] (He.ga K "need_lot") fd
  g_are_shares : mg "are_shares" = some (.ref (He.ga K "are_shares"))
  f_are_shares : ∃ fd, FunD K "are_shares" "are_shares" (defArgs (tp 24)) (defBody (tp 24)) (defScope (tp 24)) [] [] (He.ga K "are_shares") fd
  g_need_shares : mg "need_shares" = some (.ref (He.ga K "need_shares"))
  f_need_shares : ∃ fd, FunD K "need_shares" "need_shares" (defArgs (tp 25)) (defBody (tp 25)) (defScope (tp 25)) [] [] (He.ga K "need_shares") fd
  g_share_of : mg "share_of" = some (.ref (He.ga K "share_of"))
  f_share_of : ∃ fd, FunD K "share_of" "share_of" (defArgs (tp 26)) (defBody (tp 26)) (defScope (tp 26)) [] [] (He.ga K "share_of") fd
  g_stays : mg "stays" = some (.ref (He.ga K "stays"))
  f_stays : ∃ fd, FunD K "stays" "stays" (defArgs (tp 27)) (defBody (tp 27)) (defScope (tp 27)) [] [] (He.ga K "stays") fd
  g_served_of : mg "served_of" = some (.ref (He.ga K "served_of"))
  f_served_of : ∃ fd, FunD K "served_of" "served_of" (defArgs (tp 28)) (defBody (tp 28)) (defScope (tp 28)) [] [] (He.ga K "served_of") fd
  g_charged_of : mg "charged_of" = some (.ref (He.ga K "charged_of"))
  f_charged_of : ∃ fd, FunD K "charged_of" "charged_of" (defArgs (tp 29)) (defBody (tp 29)) (defScope (tp 29)) [] [] (He.ga K "charged_of") fd
  g_has_of : mg "has_of" = some (.ref (He.ga K "has_of"))
  f_has_of : ∃ fd, FunD K "has_of" "has_of" (defArgs (tp 31)) (defBody (tp 31)) (defScope (tp 31)) [] [] (He.ga K "has_of") fd
  g_lot_gain : mg "lot_gain" = some (.ref (He.ga K "lot_gain"))
  f_lot_gain : ∃ fd, FunD K "lot_gain" "lot_gain" (defArgs (tp 32)) (defBody (tp 32)) (defScope (tp 32)) [] [] (He.ga K "lot_gain") fd
  g__law_begun : mg "_law_begun" = some (.ref (He.ga K "_law_begun"))
  f__law_begun : ∃ fd, FunD K "_law_begun" "_law_begun" (defArgs (tp 34)) (defBody (tp 34)) (defScope (tp 34)) [] [] (He.ga K "_law_begun") fd
  g__law_blended : mg "_law_blended" = some (.ref (He.ga K "_law_blended"))
  f__law_blended : ∃ fd, FunD K "_law_blended" "_law_blended" (defArgs (tp 35)) (defBody (tp 35)) (defScope (tp 35)) [] [] (He.ga K "_law_blended") fd
  g__law_draw : mg "_law_draw" = some (.ref (He.ga K "_law_draw"))
  f__law_draw : ∃ fd, FunD K "_law_draw" "_law_draw" (defArgs (tp 36)) (defBody (tp 36)) (defScope (tp 36)) [] [] (He.ga K "_law_draw") fd
  g__law_pick : mg "_law_pick" = some (.ref (He.ga K "_law_pick"))
  f__law_pick : ∃ fd, FunD K "_law_pick" "_law_pick" (defArgs (tp 37)) (defBody (tp 37)) (defScope (tp 37)) [] [] (He.ga K "_law_pick") fd
  g__law_caught : mg "_law_caught" = some (.ref (He.ga K "_law_caught"))
  f__law_caught : ∃ fd, FunD K "_law_caught" "_law_caught" (defArgs (tp 38)) (defBody (tp 38)) (defScope (tp 38)) [] [] (He.ga K "_law_caught") fd
  g__law_is_truth : mg "_law_is_truth" = some (.ref (He.ga K "_law_is_truth"))
  f__law_is_truth : ∃ fd, FunD K "_law_is_truth" "_law_is_truth" (defArgs (tp 39)) (defBody (tp 39)) (defScope (tp 39)) [] [] (He.ga K "_law_is_truth") fd
  g__law_same : mg "_law_same" = some (.ref (He.ga K "_law_same"))
  f__law_same : ∃ fd, FunD K "_law_same" "_law_same" (defArgs (tp 40)) (defBody (tp 40)) (defScope (tp 40)) [] [] (He.ga K "_law_same") fd
  g__law_q : mg "_law_q" = some (.ref (He.ga K "_law_q"))
  f__law_q : ∃ fd, FunD K "_law_q" "_law_q" (defArgs (tp 41)) (defBody (tp 41)) (defScope (tp 41)) [] [] (He.ga K "_law_q") fd
  g__law_plus : mg "_law_plus" = some (.ref (He.ga K "_law_plus"))
  f__law_plus : ∃ fd, FunD K "_law_plus" "_law_plus" (defArgs (tp 42)) (defBody (tp 42)) (defScope (tp 42)) [] [] (He.ga K "_law_plus") fd
  g__law_minus : mg "_law_minus" = some (.ref (He.ga K "_law_minus"))
  f__law_minus : ∃ fd, FunD K "_law_minus" "_law_minus" (defArgs (tp 43)) (defBody (tp 43)) (defScope (tp 43)) [] [] (He.ga K "_law_minus") fd
  g__law_times : mg "_law_times" = some (.ref (He.ga K "_law_times"))
  f__law_times : ∃ fd, FunD K "_law_times" "_law_times" (defArgs (tp 44)) (defBody (tp 44)) (defScope (tp 44)) [] [] (He.ga K "_law_times") fd
  g__law_less : mg "_law_less" = some (.ref (He.ga K "_law_less"))
  f__law_less : ∃ fd, FunD K "_law_less" "_law_less" (defArgs (tp 45)) (defBody (tp 45)) (defScope (tp 45)) [] [] (He.ga K "_law_less") fd
  g__law_ct_lots : mg "_law_ct_lots" = some (.ref (He.ga K "_law_ct_lots"))
  f__law_ct_lots : ∃ fd, FunD K "_law_ct_lots" "_law_ct_lots" (defArgs (tp 46)) (defBody (tp 46)) (defScope (tp 46)) [] [] (He.ga K "_law_ct_lots") fd
  g__law_ct_shares : mg "_law_ct_shares" = some (.ref (He.ga K "_law_ct_shares"))
  f__law_ct_shares : ∃ fd, FunD K "_law_ct_shares" "_law_ct_shares" (defArgs (tp 47)) (defBody (tp 47)) (defScope (tp 47)) [] [] (He.ga K "_law_ct_shares") fd
  g__law_ct_share : mg "_law_ct_share" = some (.ref (He.ga K "_law_ct_share"))
  f__law_ct_share : ∃ fd, FunD K "_law_ct_share" "_law_ct_share" (defArgs (tp 48)) (defBody (tp 48)) (defScope (tp 48)) [] [] (He.ga K "_law_ct_share") fd
  g__law_ct_rise : mg "_law_ct_rise" = some (.ref (He.ga K "_law_ct_rise"))
  f__law_ct_rise : ∃ fd, FunD K "_law_ct_rise" "_law_ct_rise" (defArgs (tp 49)) (defBody (tp 49)) (defScope (tp 49)) [] [] (He.ga K "_law_ct_rise") fd
  g__law_ct_served : mg "_law_ct_served" = some (.ref (He.ga K "_law_ct_served"))
  f__law_ct_served : ∃ fd, FunD K "_law_ct_served" "_law_ct_served" (defArgs (tp 50)) (defBody (tp 50)) (defScope (tp 50)) [] [] (He.ga K "_law_ct_served") fd
  g__law_ct_bids : mg "_law_ct_bids" = some (.ref (He.ga K "_law_ct_bids"))
  f__law_ct_bids : ∃ fd, FunD K "_law_ct_bids" "_law_ct_bids" (defArgs (tp 51)) (defBody (tp 51)) (defScope (tp 51)) [] [] (He.ga K "_law_ct_bids") fd
  g__law_ct_no_people : mg "_law_ct_no_people" = some (.ref (He.ga K "_law_ct_no_people"))
  f__law_ct_no_people : ∃ fd, FunD K "_law_ct_no_people" "_law_ct_no_people" (defArgs (tp 52)) (defBody (tp 52)) (defScope (tp 52)) [] [] (He.ga K "_law_ct_no_people") fd
  g__law_ct_no_lot : mg "_law_ct_no_lot" = some (.ref (He.ga K "_law_ct_no_lot"))
  f__law_ct_no_lot : ∃ fd, FunD K "_law_ct_no_lot" "_law_ct_no_lot" (defArgs (tp 53)) (defBody (tp 53)) (defScope (tp 53)) [] [] (He.ga K "_law_ct_no_lot") fd
  g__law_ct_no_amounts : mg "_law_ct_no_amounts" = some (.ref (He.ga K "_law_ct_no_amounts"))
  f__law_ct_no_amounts : ∃ fd, FunD K "_law_ct_no_amounts" "_law_ct_no_amounts" (defArgs (tp 54)) (defBody (tp 54)) (defScope (tp 54)) [] [] (He.ga K "_law_ct_no_amounts") fd
  g__law_k66_has : mg "_law_k66_has" = some (.ref (He.ga K "_law_k66_has"))
  f__law_k66_has : ∃ fd, FunD K "_law_k66_has" "_law_k66_has" (defArgs (tp 55)) (defBody (tp 55)) (defScope (tp 55)) [] [] (He.ga K "_law_k66_has") fd
  g__law_k66_kind : mg "_law_k66_kind" = some (.ref (He.ga K "_law_k66_kind"))
  f__law_k66_kind : ∃ fd, FunD K "_law_k66_kind" "_law_k66_kind" (defArgs (tp 56)) (defBody (tp 56)) (defScope (tp 56)) [] [] (He.ga K "_law_k66_kind") fd
  g_law : mg "law" = some (.ref (He.ga K "law"))
  f_law : ∃ fd, FunD K "law" "law" (defArgs (tp 57)) (defBody (tp 57)) (defScope (tp 57)) [] [] (He.ga K "law") fd
theorem sc__law_caught : FnScope ["action", "found", "error"] ["action"] (defScope (tp 38)) := ⟨rfl, rfl, rfl, by decide +kernel, rfl, by decide +kernel, by decide +kernel⟩
def lamP (K : PySem.W.Frag) : Addr := He.tabOf K (He.codeOf K ("law", none))
def lamT (K : PySem.W.Frag) : List (Addr × Str) := [(lamP K, (("law" : Str) ++ ".<locals>.") ++ "<lambda>")]
section
variable [WW] {X : Cx} {C : DC} {K : PySem.W.Frag} {k : Nat} {params : Arguments} {body : Expr} {scope : Scope} {te : TED} {p lpos pos : Pos}
theorem de_caughtL (cx : Ctx X C) (hK : C.K = K) (hT : C.T = lamT K) (nm : Nm K X.mg) (hcode : X.env.code = .ref (He.codeOf K ("law", none))) (TB : LamX.TabB X.base X.mg (He.codeOf K ("law", none)) (lamP K)) (hq : X.env.qual = ("law" : Str) ++ ".<locals>.") (hr : Room (k + 2) X.A) (L : LamX.LamS X.env.scope scope) (hdef : defaultsOf params X.env = ([], []))
    (hbind : ∀ (q : Str) (cl : List (Str × Addr)) (pm cv ctv : Value), bindArgs (PySem.W.kla_fn "<lambda>" q params body scope cl pm cv ctv) ⟨[], []⟩ = pure [])
    (hbody : ∀ (A : Around) (outer : List Env) (s : Shared) (H : Hp) (E : XK) (f c' : Addr) (C' : DC), Room k (A.deeper (LamX.lamEnv X scope s.heap.objs.size f c')) → Ctx (LamX.lamCx X A outer s H E scope f c') C' → C'.K = C.K → C'.T = C.T → DE (LamX.lamCx X A outer s H E scope f c') C' body te)
    (hg : Gl X "_law_caught" := by rfl) :
    DE X C (.Call (.Name "_law_caught" p) [.Lambda params body scope lpos] [] pos) (eCaught K (.ref (He.ga K "LieError")) te) := by
  subst hK
  obtain ⟨fd, F⟩ := nm.f__law_caught
  have hX : X.K = C.K := cx.K
  have F' : FunD X.K "_law_caught" "_law_caught" (defArgs (tp 38)) (defBody (tp 38)) (defScope (tp 38)) [] [] (He.ga C.K "_law_caught") fd := by rw [hX]; exact F
  exact de_caught (a := "action") (e := "LieError") (n := "error") (y := "found") cx F' hg nm.g__law_caught (F'.bindsN (by intro kV doc pm an cdv ct us hl; match us, hl with | [a], _ => rfl)) rfl sc__law_caught (by decide +kernel) (.inl rfl) rfl rfl rfl nm.c_LieError TB hcode
    (by rw [hT, hq]; exact List.mem_cons_self) (by intro p hp _; rw [hT] at hp; rw [hq]; rw [List.mem_singleton.mp hp]) hr L hdef hbind hbody
end
theorem sc_is_whole : FnScope N_is_whole ps_is_whole (defScope (tp 10)) := ⟨rfl, rfl, rfl, by decide +kernel, rfl, by decide +kernel, by decide +kernel⟩
theorem con_is_whole [WW] {P : Program} {w : World} {K : PySem.W.Frag} {T : List (Addr × Str)} {mg : Str → Option Value} {base : Heap} (hw : w = WW.w) (nm : Nm K mg) 
    (law : ∀ ds st Qd Ed, ds.length = ps_is_whole.length → sp_is_whole ds st Qd Ed → t_is_whole (fun x _ st' => Ed x st') { nx := fun _ st' => Qd .non st', rt := Qd } (startD N_is_whole ds) st) : Con P w K T mg base "is_whole" (defArgs (tp 10)) (defBody (tp 10)) (defScope (tp 10)) ps_is_whole 1 sp_is_whole := by
  obtain ⟨fd, F⟩ := nm.f_is_whole
  refine ⟨⟨_, fd, nm.g_is_whole, F, FnD.mk hw F sc_is_whole (fun cd A outer s H E C hr cx hK hT hc => ?_) law⟩, by intro kV doc pm an cdv ct us hl; match us, hl with | [a], _ => rfl⟩
  have hp : PassesOwn (model (cxD P w K mg base N_is_whole "is_whole" (defScope (tp 10)) (He.ga K "is_whole") cd A outer s H E).prog (cxD P w K mg base N_is_whole "is_whole" (defScope (tp 10)) (He.ga K "is_whole") cd A outer s H E).w) (cxD P w K mg base N_is_whole "is_whole" (defScope (tp 10)) (He.ga K "is_whole") cd A outer s H E).A (cxD P w K mg base N_is_whole "is_whole" (defScope (tp 10)) (He.ga K "is_whole") cd A outer s H E).env (cxD P w K mg base N_is_whole "is_whole" (defScope (tp 10)) (He.ga K "is_whole") cd A outer s H E).xe := passes_of rfl
  exact (dss_one (ds_ret (de_and (de_isi1 cx .int rfl nm.b_isinstance (de_v rfl rfl) rfl nm.b_int (by decide +kernel)) (de_one (de_not (de_isi1 cx .bl rfl nm.b_isinstance (de_v rfl rfl) rfl nm.b_bool (by decide +kernel)))))))
theorem sc_is_ratio : FnScope N_is_ratio ps_is_ratio (defScope (tp 11)) := ⟨rfl, rfl, rfl, by decide +kernel, rfl, by decide +kernel, by decide +kernel⟩
theorem con_is_ratio [WW] {P : Program} {w : World} {K : PySem.W.Frag} {T : List (Addr × Str)} {mg : Str → Option Value} {base : Heap} (hw : w = WW.w) (nm : Nm K mg) (c_is_whole : Con P w K T mg base "is_whole" (defArgs (tp 10)) (defBody (tp 10)) (defScope (tp 10)) ps_is_whole 1 sp_is_whole)
    (law : ∀ ds st Qd Ed, ds.length = ps_is_ratio.length → sp_is_ratio ds st Qd Ed → t_is_ratio (fun x _ st' => Ed x st') { nx := fun _ st' => Qd .non st', rt := Qd } (startD N_is_ratio ds) st) : Con P w K T mg base "is_ratio" (defArgs (tp 11)) (defBody (tp 11)) (defScope (tp 11)) ps_is_ratio 2 sp_is_ratio := by
  obtain ⟨fd, F⟩ := nm.f_is_ratio
  refine ⟨⟨_, fd, nm.g_is_ratio, F, FnD.mk hw F sc_is_ratio (fun cd A outer s H E C hr cx hK hT hc => ?_) law⟩, by intro kV doc pm an cdv ct us hl; match us, hl with | [a], _ => rfl⟩
  have hp : PassesOwn (model (cxD P w K mg base N_is_ratio "is_ratio" (defScope (tp 11)) (He.ga K "is_ratio") cd A outer s H E).prog (cxD P w K mg base N_is_ratio "is_ratio" (defScope (tp 11)) (He.ga K "is_ratio") cd A outer s H E).w) (cxD P w K mg base N_is_ratio "is_ratio" (defScope (tp 11)) (He.ga K "is_ratio") cd A outer s H E).A (cxD P w K mg base N_is_ratio "is_ratio" (defScope (tp 11)) (He.ga K "is_ratio") cd A outer s H E).env (cxD P w K mg base N_is_ratio "is_ratio" (defScope (tp 11)) (He.ga K "is_ratio") cd A outer s H E).xe := passes_of rfl
  exact (dss_cons (ds_if (dt_w (dw_or (dt_not (dt_val (de_isi1 cx .tup rfl nm.b_isinstance (de_v rfl rfl) rfl nm.b_tuple (by decide +kernel)))) (dw_or (dt_cmp (opD_ne cx) (de_callB (callD_len cx) rfl nm.b_len (by decide +kernel) (da_cons (de_v rfl rfl) da_nil)) de_int (by rfl)) (dw_or1 (dt_not (dt_val (de_callB (callD_all cx) rfl nm.b_all (by decide +kernel) (da_cons (de_lc cx (di_any cx (de_v rfl rfl)) (blkOk_by (own := [("part", 1)]) (by rfl)) List.mem_cons_self (hg1 cx rfl (fun _ _ => rfl)) (fun s1 H1 Ca1 cl1 fp1 Cb1 cx1 hK1 hT1 => dts_nil) (fun s1 H1 Ca1 cl1 fp1 Cb1 cx1 hK1 hT1 => (de_con cx1 (hK1.trans hK) (hT1.trans hT) c_is_whole (hr.mono (by decide)) rfl (dl_cons (de_v rfl rfl) dl_nil)))) da_nil)))))))) (dss_one (ds_ret de_bl)) dss_nil)
  (dss_one (ds_ret (de_and (de_cmp opD_gt (de_ix (ixD_ok cx) (de_v rfl rfl) de_int (fun _ _ => rfl)) de_int (by rfl)) (de_one (de_cmp (opD_eq cx) (de_callF callD_gcd rfl nm.m_gcd (da_cons (de_ix (ixD_ok cx) (de_v rfl rfl) de_int (fun _ _ => rfl)) (da_cons (de_ix (ixD_ok cx) (de_v rfl rfl) de_int (fun _ _ => rfl)) da_nil))) de_int (by rfl)))))))
theorem sc_lowest : FnScope N_lowest ps_lowest (defScope (tp 12)) := ⟨rfl, rfl, rfl, by decide +kernel, rfl, by decide +kernel, by decide +kernel⟩
theorem con_lowest [WW] {P : Program} {w : World} {K : PySem.W.Frag} {T : List (Addr × Str)} {mg : Str → Option Value} {base : Heap} (hw : w = WW.w) (nm : Nm K mg) 
    (law : ∀ ds st Qd Ed, ds.length = ps_lowest.length → sp_lowest ds st Qd Ed → t_lowest (fun x _ st' => Ed x st') { nx := fun _ st' => Qd .non st', rt := Qd } (startD N_lowest ds) st) : Con P w K T mg base "lowest" (defArgs (tp 12)) (defBody (tp 12)) (defScope (tp 12)) ps_lowest 1 sp_lowest := by
  obtain ⟨fd, F⟩ := nm.f_lowest
  refine ⟨⟨_, fd, nm.g_lowest, F, FnD.mk hw F sc_lowest (fun cd A outer s H E C hr cx hK hT hc => ?_) law⟩, by intro kV doc pm an cdv ct us hl; match us, hl with | [a, b], _ => rfl⟩
  have hp : PassesOwn (model (cxD P w K mg base N_lowest "lowest" (defScope (tp 12)) (He.ga K "lowest") cd A outer s H E).prog (cxD P w K mg base N_lowest "lowest" (defScope (tp 12)) (He.ga K "lowest") cd A outer s H E).w) (cxD P w K mg base N_lowest "lowest" (defScope (tp 12)) (He.ga K "lowest") cd A outer s H E).A (cxD P w K mg base N_lowest "lowest" (defScope (tp 12)) (He.ga K "lowest") cd A outer s H E).env (cxD P w K mg base N_lowest "lowest" (defScope (tp 12)) (He.ga K "lowest") cd A outer s H E).xe := passes_of rfl
  exact (dss_cons (ds_set cx rfl (loc_of rfl) (de_if (dt_cmp opD_gt (de_v rfl rfl) de_int (by rfl)) (de_callF callD_gcd rfl nm.m_gcd (da_cons (de_v rfl rfl) (da_cons (de_v rfl rfl) da_nil))) (de_unop unD_neg (de_callF callD_gcd rfl nm.m_gcd (da_cons (de_v rfl rfl) (da_cons (de_v rfl rfl) da_nil))))))
  (dss_one (ds_ret (de_tup (dl_cons (de_binop opD_div (de_v rfl rfl) (de_v rfl rfl)) (dl_cons (de_binop opD_div (de_v rfl rfl) (de_v rfl rfl)) dl_nil))))))
theorem sc_minus : FnScope N_minus ps_minus (defScope (tp 13)) := ⟨rfl, rfl, rfl, by decide +kernel, rfl, by decide +kernel, by decide +kernel⟩
theorem con_minus [WW] {P : Program} {w : World} {K : PySem.W.Frag} {T : List (Addr × Str)} {mg : Str → Option Value} {base : Heap} (hw : w = WW.w) (nm : Nm K mg) (c_lowest : Con P w K T mg base "lowest" (defArgs (tp 12)) (defBody (tp 12)) (defScope (tp 12)) ps_lowest 1 sp_lowest)
    (law : ∀ ds st Qd Ed, ds.length = ps_minus.length → sp_minus ds st Qd Ed → t_minus (fun x _ st' => Ed x st') { nx := fun _ st' => Qd .non st', rt := Qd } (startD N_minus ds) st) : Con P w K T mg base "minus" (defArgs (tp 13)) (defBody (tp 13)) (defScope (tp 13)) ps_minus 2 sp_minus := by
  obtain ⟨fd, F⟩ := nm.f_minus
  refine ⟨⟨_, fd, nm.g_minus, F, FnD.mk hw F sc_minus (fun cd A outer s H E C hr cx hK hT hc => ?_) law⟩, by intro kV doc pm an cdv ct us hl; match us, hl with | [a, b], _ => rfl⟩
  have hp : PassesOwn (model (cxD P w K mg base N_minus "minus" (defScope (tp 13)) (He.ga K "minus") cd A outer s H E).prog (cxD P w K mg base N_minus "minus" (defScope (tp 13)) (He.ga K "minus") cd A outer s H E).w) (cxD P w K mg base N_minus "minus" (defScope (tp 13)) (He.ga K "minus") cd A outer s H E).A (cxD P w K mg base N_minus "minus" (defScope (tp 13)) (He.ga K "minus") cd A outer s H E).env (cxD P w K mg base N_minus "minus" (defScope (tp 13)) (He.ga K "minus") cd A outer s H E).xe := passes_of rfl
  exact (dss_one (ds_ret (de_con cx hK hT c_lowest (hr.mono (by decide)) rfl (dl_cons (de_binop opD_sub (de_binop (opD_mul cx) (de_ix (ixD_ok cx) (de_v rfl rfl) de_int (fun _ _ => rfl)) (de_ix (ixD_ok cx) (de_v rfl rfl) de_int (fun _ _ => rfl))) (de_binop (opD_mul cx) (de_ix (ixD_ok cx) (de_v rfl rfl) de_int (fun _ _ => rfl)) (de_ix (ixD_ok cx) (de_v rfl rfl) de_int (fun _ _ => rfl)))) (dl_cons (de_binop (opD_mul cx) (de_ix (ixD_ok cx) (de_v rfl rfl) de_int (fun _ _ => rfl)) (de_ix (ixD_ok cx) (de_v rfl rfl) de_int (fun _ _ => rfl))) dl_nil)))))
theorem sc_is_less : FnScope N_is_less ps_is_less (defScope (tp 14)) := ⟨rfl, rfl, rfl, by decide +kernel, rfl, by decide +kernel, by decide +kernel⟩
theorem con_is_less [WW] {P : Program} {w : World} {K : PySem.W.Frag} {T : List (Addr × Str)} {mg : Str → Option Value} {base : Heap} (hw : w = WW.w) (nm : Nm K mg) 
    (law : ∀ ds st Qd Ed, ds.length = ps_is_less.length → sp_is_less ds st Qd Ed → t_is_less (fun x _ st' => Ed x st') { nx := fun _ st' => Qd .non st', rt := Qd } (startD N_is_less ds) st) : Con P w K T mg base "is_less" (defArgs (tp 14)) (defBody (tp 14)) (defScope (tp 14)) ps_is_less 1 sp_is_less := by
  obtain ⟨fd, F⟩ := nm.f_is_less
  refine ⟨⟨_, fd, nm.g_is_less, F, FnD.mk hw F sc_is_less (fun cd A outer s H E C hr cx hK hT hc => ?_) law⟩, by intro kV doc pm an cdv ct us hl; match us, hl with | [a, b], _ => rfl⟩
  have hp : PassesOwn (model (cxD P w K mg base N_is_less "is_less" (defScope (tp 14)) (He.ga K "is_less") cd A outer s H E).prog (cxD P w K mg base N_is_less "is_less" (defScope (tp 14)) (He.ga K "is_less") cd A outer s H E).w) (cxD P w K mg base N_is_less "is_less" (defScope (tp 14)) (He.ga K "is_less") cd A outer s H E).A (cxD P w K mg base N_is_less "is_less" (defScope (tp 14)) (He.ga K "is_less") cd A outer s H E).env (cxD P w K mg base N_is_less "is_less" (defScope (tp 14)) (He.ga K "is_less") cd A outer s H E).xe := passes_of rfl
  exact (dss_one (ds_ret (de_cmp opD_lt (de_binop (opD_mul cx) (de_ix (ixD_ok cx) (de_v rfl rfl) de_int (fun _ _ => rfl)) (de_ix (ixD_ok cx) (de_v rfl rfl) de_int (fun _ _ => rfl))) (de_binop (opD_mul cx) (de_ix (ixD_ok cx) (de_v rfl rfl) de_int (fun _ _ => rfl)) (de_ix (ixD_ok cx) (de_v rfl rfl) de_int (fun _ _ => rfl))) (by rfl))))
theorem sc_lots_of : FnScope N_lots_of ps_lots_of (defScope (tp 17)) := ⟨rfl, rfl, rfl, by decide +kernel, rfl, by decide +kernel, by decide +kernel⟩
theorem con_lots_of [WW] {P : Program} {w : World} {K : PySem.W.Frag} {T : List (Addr × Str)} {mg : Str → Option Value} {base : Heap} (hw : w = WW.w) (nm : Nm K mg) 
    (law : ∀ ds st Qd Ed, ds.length = ps_lots_of.length → sp_lots_of ds st Qd Ed → t_lots_of (fun x _ st' => Ed x st') { nx := fun _ st' => Qd .non st', rt := Qd } (startD N_lots_of ds) st) : Con P w K T mg base "lots_of" (defArgs (tp 17)) (defBody (tp 17)) (defScope (tp 17)) ps_lots_of 1 sp_lots_of := by
  obtain ⟨fd, F⟩ := nm.f_lots_of
  refine ⟨⟨_, fd, nm.g_lots_of, F, FnD.mk hw F sc_lots_of (fun cd A outer s H E C hr cx hK hT hc => ?_) law⟩, by intro kV doc pm an cdv ct us hl; match us, hl with | [a], _ => rfl⟩
  have hp : PassesOwn (model (cxD P w K mg base N_lots_of "lots_of" (defScope (tp 17)) (He.ga K "lots_of") cd A outer s H E).prog (cxD P w K mg base N_lots_of "lots_of" (defScope (tp 17)) (He.ga K "lots_of") cd A outer s H E).w) (cxD P w K mg base N_lots_of "lots_of" (defScope (tp 17)) (He.ga K "lots_of") cd A outer s H E).A (cxD P w K mg base N_lots_of "lots_of" (defScope (tp 17)) (He.ga K "lots_of") cd A outer s H E).env (cxD P w K mg base N_lots_of "lots_of" (defScope (tp 17)) (He.ga K "lots_of") cd A outer s H E).xe := passes_of rfl
  exact (dss_cons (ds_set cx rfl (loc_of rfl) (de_lst (dl_cons (de_tup dl_nil) dl_nil)))
  (dss_cons (ds_for cx hp (di_range1 rfl nm.b_range (de_v rfl rfl)) (dg_v cx rfl rfl) (dss_one (ds_set cx rfl (loc_of rfl) (de_binop (opD_add cx) (de_v rfl rfl) (de_lc cx (di_any cx (de_v rfl rfl)) (blkOk_by (own := [("lot", 3)]) (by rfl)) List.mem_cons_self (hg1 cx rfl (fun _ _ => rfl)) (fun s1 H1 Ca1 cl1 fp1 Cb1 cx1 hK1 hT1 => dts_nil) (fun s1 H1 Ca1 cl1 fp1 Cb1 cx1 hK1 hT1 => (de_binop (opD_add cx1) (de_v rfl rfl) (de_tup (dl_cons (de_v rfl rfl) dl_nil)))))))))
  (dss_one (ds_ret (de_slice cx (de_callB (callD_sorted cx) rfl nm.b_sorted (by decide +kernel) (da_cons (de_v rfl rfl) da_nil)) (dpo_some de_int) dpo_none)))))
theorem sc_is_people : FnScope N_is_people ps_is_people (defScope (tp 18)) := ⟨rfl, rfl, rfl, by decide +kernel, rfl, by decide +kernel, by decide +kernel⟩
theorem con_is_people [WW] {P : Program} {w : World} {K : PySem.W.Frag} {T : List (Addr × Str)} {mg : Str → Option Value} {base : Heap} (hw : w = WW.w) (nm : Nm K mg) (c_is_whole : Con P w K T mg base "is_whole" (defArgs (tp 10)) (defBody (tp 10)) (defScope (tp 10)) ps_is_whole 1 sp_is_whole)
    (law : ∀ ds st Qd Ed, ds.length = ps_is_people.length → sp_is_people ds st Qd Ed → t_is_people (fun x _ st' => Ed x st') { nx := fun _ st' => Qd .non st', rt := Qd } (startD N_is_people ds) st) : Con P w K T mg base "is_people" (defArgs (tp 18)) (defBody (tp 18)) (defScope (tp 18)) ps_is_people 2 sp_is_people := by
  obtain ⟨fd, F⟩ := nm.f_is_people
  refine ⟨⟨_, fd, nm.g_is_people, F, FnD.mk hw F sc_is_people (fun cd A outer s H E C hr cx hK hT hc => ?_) law⟩, by intro kV doc pm an cdv ct us hl; match us, hl with | [a], _ => rfl⟩
  have hp : PassesOwn (model (cxD P w K mg base N_is_people "is_people" (defScope (tp 18)) (He.ga K "is_people") cd A outer s H E).prog (cxD P w K mg base N_is_people "is_people" (defScope (tp 18)) (He.ga K "is_people") cd A outer s H E).w) (cxD P w K mg base N_is_people "is_people" (defScope (tp 18)) (He.ga K "is_people") cd A outer s H E).A (cxD P w K mg base N_is_people "is_people" (defScope (tp 18)) (He.ga K "is_people") cd A outer s H E).env (cxD P w K mg base N_is_people "is_people" (defScope (tp 18)) (He.ga K "is_people") cd A outer s H E).xe := passes_of rfl
  exact (dss_one (ds_ret (de_and (de_con cx hK hT c_is_whole (hr.mono (by decide)) rfl (dl_cons (de_v rfl rfl) dl_nil)) (de_one (de_chain opD_le opD_le de_int (de_v rfl rfl) (de_gint rfl nm.i_MOST_PEOPLE))))))
theorem sc_need_people : FnScope N_need_people ps_need_people (defScope (tp 19)) := ⟨rfl, rfl, rfl, by decide +kernel, rfl, by decide +kernel, by decide +kernel⟩
theorem con_need_people [WW] {P : Program} {w : World} {K : PySem.W.Frag} {T : List (Addr × Str)} {mg : Str → Option Value} {base : Heap} (hw : w = WW.w) (nm : Nm K mg) (c_is_people : Con P w K T mg base "is_people" (defArgs (tp 18)) (defBody (tp 18)) (defScope (tp 18)) ps_is_people 2 sp_is_people)
    (law : ∀ ds st Qd Ed, ds.length = ps_need_people.length → (sp_need_people K) ds st Qd Ed → t_need_people K (fun x _ st' => Ed x st') { nx := fun _ st' => Qd .non st', rt := Qd } (startD N_need_people ds) st) : Con P w K T mg base "need_people" (defArgs (tp 19)) (defBody (tp 19)) (defScope (tp 19)) ps_need_people 3 (sp_need_people K) := by
  obtain ⟨fd, F⟩ := nm.f_need_people
  refine ⟨⟨_, fd, nm.g_need_people, F, FnD.mk hw F sc_need_people (fun cd A outer s H E C hr cx hK hT hc => ?_) law⟩, by intro kV doc pm an cdv ct us hl; match us, hl with | [a], _ => rfl⟩
  have hp : PassesOwn (model (cxD P w K mg base N_need_people "need_people" (defScope (tp 19)) (He.ga K "need_people") cd A outer s H E).prog (cxD P w K mg base N_need_people "need_people" (defScope (tp 19)) (He.ga K "need_people") cd A outer s H E).w) (cxD P w K mg base N_need_people "need_people" (defScope (tp 19)) (He.ga K "need_people") cd A outer s H E).A (cxD P w K mg base N_need_people "need_people" (defScope (tp 19)) (He.ga K "need_people") cd A outer s H E).env (cxD P w K mg base N_need_people "need_people" (defScope (tp 19)) (He.ga K "need_people") cd A outer s H E).xe := passes_of rfl
  exact (dss_one (ds_if (dt_not (dt_val (de_con cx hK hT c_is_people (hr.mono (by decide)) rfl (dl_cons (de_v rfl rfl) dl_nil)))) (dss_one (ds_raise cx PySem.F.excBase_ValueError nm.x_BadPeople.1 nm.c_BadPeople nm.x_BadPeople.2.1 nm.x_BadPeople.2.2.1 nm.x_BadPeople.2.2.2 rfl)) dss_nil))
theorem sc_are_amounts : FnScope N_are_amounts ps_are_amounts (defScope (tp 20)) := ⟨rfl, rfl, rfl, by decide +kernel, rfl, by decide +kernel, by decide +kernel⟩
theorem con_are_amounts [WW] {P : Program} {w : World} {K : PySem.W.Frag} {T : List (Addr × Str)} {mg : Str → Option Value} {base : Heap} (hw : w = WW.w) (nm : Nm K mg) (c_is_ratio : Con P w K T mg base "is_ratio" (defArgs (tp 11)) (defBody (tp 11)) (defScope (tp 11)) ps_is_ratio 2 sp_is_ratio)
    (law : ∀ ds st Qd Ed, ds.length = ps_are_amounts.length → sp_are_amounts ds st Qd Ed → t_are_amounts (fun x _ st' => Ed x st') { nx := fun _ st' => Qd .non st', rt := Qd } (startD N_are_amounts ds) st) : Con P w K T mg base "are_amounts" (defArgs (tp 20)) (defBody (tp 20)) (defScope (tp 20)) ps_are_amounts 3 sp_are_amounts := by
  obtain ⟨fd, F⟩ := nm.f_are_amounts
  refine ⟨⟨_, fd, nm.g_are_amounts, F, FnD.mk hw F sc_are_amounts (fun cd A outer s H E C hr cx hK hT hc => ?_) law⟩, by intro kV doc pm an cdv ct us hl; match us, hl with | [a, b], _ => rfl⟩
  have hp : PassesOwn (model (cxD P w K mg base N_are_amounts "are_amounts" (defScope (tp 20)) (He.ga K "are_amounts") cd A outer s H E).prog (cxD P w K mg base N_are_amounts "are_amounts" (defScope (tp 20)) (He.ga K "are_amounts") cd A outer s H E).w) (cxD P w K mg base N_are_amounts "are_amounts" (defScope (tp 20)) (He.ga K "are_amounts") cd A outer s H E).A (cxD P w K mg base N_are_amounts "are_amounts" (defScope (tp 20)) (He.ga K "are_amounts") cd A outer s H E).env (cxD P w K mg base N_are_amounts "are_amounts" (defScope (tp 20)) (He.ga K "are_amounts") cd A outer s H E).xe := passes_of rfl
  exact (dss_cons (ds_if (dt_w (dw_or (dt_not (dt_val (de_isi1 cx .tup rfl nm.b_isinstance (de_v rfl rfl) rfl nm.b_tuple (by decide +kernel)))) (dw_or1 (dt_cmp (opD_ne cx) (de_callB (callD_len cx) rfl nm.b_len (by decide +kernel) (da_cons (de_v rfl rfl) da_nil)) (de_v rfl rfl) (by rfl))))) (dss_one (ds_ret de_bl)) dss_nil)
  (dss_one (ds_ret (de_callB (callD_all cx) rfl nm.b_all (by decide +kernel) (da_cons (de_lc cx (di_any cx (de_v rfl rfl)) (blkOk_by (own := [("amount", 2)]) (by rfl)) List.mem_cons_self (hg1 cx rfl (fun _ _ => rfl)) (fun s1 H1 Ca1 cl1 fp1 Cb1 cx1 hK1 hT1 => dts_nil) (fun s1 H1 Ca1 cl1 fp1 Cb1 cx1 hK1 hT1 => (de_and (de_con cx1 (hK1.trans hK) (hT1.trans hT) c_is_ratio (hr.mono (by decide)) rfl (dl_cons (de_v rfl rfl) dl_nil)) (de_one (de_cmp opD_ge (de_ix (ixD_ok cx1) (de_v rfl rfl) de_int (fun _ _ => rfl)) de_int (by rfl)))))) da_nil)))))
theorem sc_is_lot_of : FnScope N_is_lot_of ps_is_lot_of (defScope (tp 21)) := ⟨rfl, rfl, rfl, by decide +kernel, rfl, by decide +kernel, by decide +kernel⟩
theorem con_is_lot_of [WW] {P : Program} {w : World} {K : PySem.W.Frag} {T : List (Addr × Str)} {mg : Str → Option Value} {base : Heap} (hw : w = WW.w) (nm : Nm K mg) (c_is_whole : Con P w K T mg base "is_whole" (defArgs (tp 10)) (defBody (tp 10)) (defScope (tp 10)) ps_is_whole 1 sp_is_whole) (c_lots_of : Con P w K T mg base "lots_of" (defArgs (tp 17)) (defBody (tp 17)) (defScope (tp 17)) ps_lots_of 1 sp_lots_of)
    (law : ∀ ds st Qd Ed, ds.length = ps_is_lot_of.length → sp_is_lot_of ds st Qd Ed → t_is_lot_of (fun x _ st' => Ed x st') { nx := fun _ st' => Qd .non st', rt := Qd } (startD N_is_lot_of ds) st) : Con P w K T mg base "is_lot_of" (defArgs (tp 21)) (defBody (tp 21)) (defScope (tp 21)) ps_is_lot_of 2 sp_is_lot_of := by
  obtain ⟨fd, F⟩ := nm.f_is_lot_of
  refine ⟨⟨_, fd, nm.g_is_lot_of, F, FnD.mk hw F sc_is_lot_of (fun cd A outer s H E C hr cx hK hT hc => ?_) law⟩, by intro kV doc pm an cdv ct us hl; match us, hl with | [a, b], _ => rfl⟩
  have hp : PassesOwn (model (cxD P w K mg base N_is_lot_of "is_lot_of" (defScope (tp 21)) (He.ga K "is_lot_of") cd A outer s H E).prog (cxD P w K mg base N_is_lot_of "is_lot_of" (defScope (tp 21)) (He.ga K "is_lot_of") cd A outer s H E).w) (cxD P w K mg base N_is_lot_of "is_lot_of" (defScope (tp 21)) (He.ga K "is_lot_of") cd A outer s H E).A (cxD P w K mg base N_is_lot_of "is_lot_of" (defScope (tp 21)) (He.ga K "is_lot_of") cd A outer s H E).env (cxD P w K mg base N_is_lot_of "is_lot_of" (defScope (tp 21)) (He.ga K "is_lot_of") cd A outer s H E).xe := passes_of rfl
  exact (dss_cons (ds_if (dt_w (dw_or (dt_not (dt_val (de_isi1 cx .tup rfl nm.b_isinstance (de_v rfl rfl) rfl nm.b_tuple (by decide +kernel)))) (dw_or (dt_cmp (opD_eq cx) (de_v rfl rfl) (de_tup dl_nil) (by rfl)) (dw_or1 (dt_not (dt_val (de_callB (callD_all cx) rfl nm.b_all (by decide +kernel) (da_cons (de_lc cx (di_any cx (de_v rfl rfl)) (blkOk_by (own := [("person", 2)]) (by rfl)) List.mem_cons_self (hg1 cx rfl (fun _ _ => rfl)) (fun s1 H1 Ca1 cl1 fp1 Cb1 cx1 hK1 hT1 => dts_nil) (fun s1 H1 Ca1 cl1 fp1 Cb1 cx1 hK1 hT1 => (de_con cx1 (hK1.trans hK) (hT1.trans hT) c_is_whole (hr.mono (by decide)) rfl (dl_cons (de_v rfl rfl) dl_nil)))) da_nil)))))))) (dss_one (ds_ret de_bl)) dss_nil)
  (dss_one (ds_ret (de_cmp (opD_in cx) (de_v rfl rfl) (de_con cx hK hT c_lots_of (hr.mono (by decide)) rfl (dl_cons (de_v rfl rfl) dl_nil)) (by rfl)))))
theorem sc_need_lot : FnScope N_need_lot ps_need_lot (defScope (tp 22)) := ⟨rfl, rfl, rfl, by decide +kernel, rfl, by decide +kernel, by decide +kernel⟩
theorem con_need_lot [WW] {P : Program} {w : World} {K : PySem.W.Frag} {T : List (Addr × Str)} {mg : Str → Option Value} {base : Heap} (hw : w = WW.w) (nm : Nm K mg) (c_is_lot_of : Con P w K T mg base "is_lot_of" (defArgs (tp 21)) (defBody (tp 21)) (defScope (tp 21)) ps_is_lot_of 2 sp_is_lot_of)
    (law : ∀ ds st Qd Ed, ds.length = ps_need_lot.length → (sp_need_lot K) ds st Qd Ed → t_need_lot K (fun x _ st' => Ed x st') { nx := fun _ st' => Qd .non st', rt := Qd } (startD N_need_lot ds) st) : Con P w K T mg base "need_lot" (defArgs (tp 22)) (defBody (tp 22)) (defScope (tp 22)) ps_need_lot 3 (sp_need_lot K) := by
  obtain ⟨fd, F⟩ := nm.f_need_lot
  refine ⟨⟨_, fd, nm.g_need_lot, F, FnD.mk hw F sc_need_lot (fun cd A outer s H E C hr cx hK hT hc => ?_) law⟩, by intro kV doc pm an cdv ct us hl; match us, hl with | [a, b], _ => rfl⟩
  have hp : PassesOwn (model (cxD P w K mg base N_need_lot "need_lot" (defScope (tp 22)) (He.ga K "need_lot") cd A outer s H E).prog (cxD P w K mg base N_need_lot "need_lot" (defScope (tp 22)) (He.ga K "need_lot") cd A outer s H E).w) (cxD P w K mg base N_need_lot "need_lot" (defScope (tp 22)) (He.ga K "need_lot") cd A outer s H E).A (cxD P w K mg base N_need_lot "need_lot" (defScope (tp 22)) (He.ga K "need_lot") cd A outer s H E).env (cxD P w K mg base N_need_lot "need_lot" (defScope (tp 22)) (He.ga K "need_lot") cd A outer s H E).xe := passes_of rfl
  exact (dss_one (ds_if (dt_not (dt_val (de_con cx hK hT c_is_lot_of (hr.mono (by decide)) rfl (dl_cons (de_v rfl rfl) (dl_cons (de_v rfl rfl) dl_nil))))) (dss_one (ds_raise cx PySem.F.excBase_ValueError nm.x_BadLot.1 nm.c_BadLot nm.x_BadLot.2.1 nm.x_BadLot.2.2.1 nm.x_BadLot.2.2.2 rfl)) dss_nil))
theorem sc_are_shares : FnScope N_are_shares ps_are_shares (defScope (tp 24)) := ⟨rfl, rfl, rfl, by decide +kernel, rfl, by decide +kernel, by decide +kernel⟩
theorem con_are_shares [WW] {P : Program} {w : World} {K : PySem.W.Frag} {T : List (Addr × Str)} {mg : Str → Option Value} {base : Heap} (hw : w = WW.w) (nm : Nm K mg) (c_lots_of : Con P w K T mg base "lots_of" (defArgs (tp 17)) (defBody (tp 17)) (defScope (tp 17)) ps_lots_of 1 sp_lots_of) (c_is_lot_of : Con P w K T mg base "is_lot_of" (defArgs (tp 21)) (defBody (tp 21)) (defScope (tp 21)) ps_is_lot_of 2 sp_is_lot_of) (c_are_amounts : Con P w K T mg base "are_amounts" (defArgs (tp 20)) (defBody (tp 20)) (defScope (tp 20)) ps_are_amounts 3 sp_are_amounts)
    (law : ∀ ds st Qd Ed, ds.length = ps_are_shares.length → sp_are_shares ds st Qd Ed → t_are_shares (fun x _ st' => Ed x st') { nx := fun _ st' => Qd .non st', rt := Qd } (startD N_are_shares ds) st) : Con P w K T mg base "are_shares" (defArgs (tp 24)) (defBody (tp 24)) (defScope (tp 24)) ps_are_shares 4 sp_are_shares := by
  obtain ⟨fd, F⟩ := nm.f_are_shares
  refine ⟨⟨_, fd, nm.g_are_shares, F, FnD.mk hw F sc_are_shares (fun cd A outer s H E C hr cx hK hT hc => ?_) law⟩, by intro kV doc pm an cdv ct us hl; match us, hl with | [a, b], _ => rfl⟩
  have hp : PassesOwn (model (cxD P w K mg base N_are_shares "are_shares" (defScope (tp 24)) (He.ga K "are_shares") cd A outer s H E).prog (cxD P w K mg base N_are_shares "are_shares" (defScope (tp 24)) (He.ga K "are_shares") cd A outer s H E).w) (cxD P w K mg base N_are_shares "are_shares" (defScope (tp 24)) (He.ga K "are_shares") cd A outer s H E).A (cxD P w K mg base N_are_shares "are_shares" (defScope (tp 24)) (He.ga K "are_shares") cd A outer s H E).env (cxD P w K mg base N_are_shares "are_shares" (defScope (tp 24)) (He.ga K "are_shares") cd A outer s H E).xe := passes_of rfl
  exact (dss_cons (ds_set cx rfl (loc_of rfl) (de_con cx hK hT c_lots_of (hr.mono (by decide)) rfl (dl_cons (de_v rfl rfl) dl_nil)))
  (dss_cons (ds_if (dt_w (dw_or (dt_not (dt_val (de_isi1 cx .dct rfl nm.b_isinstance (de_v rfl rfl) rfl nm.b_dict (by decide +kernel)))) (dw_or (dt_cmp (opD_ne cx) (de_callB (callD_len cx) rfl nm.b_len (by decide +kernel) (da_cons (de_v rfl rfl) da_nil)) (de_callB (callD_len cx) rfl nm.b_len (by decide +kernel) (da_cons (de_v rfl rfl) da_nil)) (by rfl)) (dw_or1 (dt_not (dt_val (de_callB (callD_all cx) rfl nm.b_all (by decide +kernel) (da_cons (de_lc cx (di_any cx (de_v rfl rfl)) (blkOk_by (own := [("lot", 3)]) (by rfl)) List.mem_cons_self (hg1 cx rfl (fun _ _ => rfl)) (fun s1 H1 Ca1 cl1 fp1 Cb1 cx1 hK1 hT1 => dts_nil) (fun s1 H1 Ca1 cl1 fp1 Cb1 cx1 hK1 hT1 => (de_con cx1 (hK1.trans hK) (hT1.trans hT) c_is_lot_of (hr.mono (by decide)) rfl (dl_cons (de_v rfl rfl) (dl_cons (de_v rfl rfl) dl_nil))))) da_nil)))))))) (dss_one (ds_ret de_bl)) dss_nil)
  (dss_one (ds_ret (de_callB (callD_all cx) rfl nm.b_all (by decide +kernel) (da_cons (de_lc cx (di_any cx (de_v rfl rfl)) (blkOk_by (own := [("lot", 3)]) (by rfl)) List.mem_cons_self (hg1 cx rfl (fun _ _ => rfl)) (fun s1 H1 Ca1 cl1 fp1 Cb1 cx1 hK1 hT1 => dts_nil) (fun s1 H1 Ca1 cl1 fp1 Cb1 cx1 hK1 hT1 => (de_con cx1 (hK1.trans hK) (hT1.trans hT) c_are_amounts (hr.mono (by decide)) rfl (dl_cons (de_ix (ixD_ok cx1) (de_v rfl rfl) (de_v rfl rfl) (fun _ _ => rfl)) (dl_cons (de_callB (callD_len cx1) rfl nm.b_len (by decide +kernel) (da_cons (de_v rfl rfl) da_nil)) dl_nil))))) da_nil))))))
theorem sc_need_shares : FnScope N_need_shares ps_need_shares (defScope (tp 25)) := ⟨rfl, rfl, rfl, by decide +kernel, rfl, by decide +kernel, by decide +kernel⟩
theorem con_need_shares [WW] {P : Program} {w : World} {K : PySem.W.Frag} {T : List (Addr × Str)} {mg : Str → Option Value} {base : Heap} (hw : w = WW.w) (nm : Nm K mg) (c_need_people : Con P w K T mg base "need_people" (defArgs (tp 19)) (defBody (tp 19)) (defScope (tp 19)) ps_need_people 3 (sp_need_people K)) (c_are_shares : Con P w K T mg base "are_shares" (defArgs (tp 24)) (defBody (tp 24)) (defScope (tp 24)) ps_are_shares 4 sp_are_shares)
    (law : ∀ ds st Qd Ed, ds.length = ps_need_shares.length → (sp_need_shares K) ds st Qd Ed → t_need_shares K (fun x _ st' => Ed x st') { nx := fun _ st' => Qd .non st', rt := Qd } (startD N_need_shares ds) st) : Con P w K T mg base "need_shares" (defArgs (tp 25)) (defBody (tp 25)) (defScope (tp 25)) ps_need_shares 5 (sp_need_shares K) := by
  obtain ⟨fd, F⟩ := nm.f_need_shares
  refine ⟨⟨_, fd, nm.g_need_shares, F, FnD.mk hw F sc_need_shares (fun cd A outer s H E C hr cx hK hT hc => ?_) law⟩, by intro kV doc pm an cdv ct us hl; match us, hl with | [a, b], _ => rfl⟩
  have hp : PassesOwn (model (cxD P w K mg base N_need_shares "need_shares" (defScope (tp 25)) (He.ga K "need_shares") cd A outer s H E).prog (cxD P w K mg base N_need_shares "need_shares" (defScope (tp 25)) (He.ga K "need_shares") cd A outer s H E).w) (cxD P w K mg base N_need_shares "need_shares" (defScope (tp 25)) (He.ga K "need_shares") cd A outer s H E).A (cxD P w K mg base N_need_shares "need_shares" (defScope (tp 25)) (He.ga K "need_shares") cd A outer s H E).env (cxD P w K mg base N_need_shares "need_shares" (defScope (tp 25)) (He.ga K "need_shares") cd A outer s H E).xe := passes_of rfl
  exact (dss_cons (ds_expr (de_con cx hK hT c_need_people (hr.mono (by decide)) rfl (dl_cons (de_v rfl rfl) dl_nil)))
  (dss_one (ds_if (dt_not (dt_val (de_con cx hK hT c_are_shares (hr.mono (by decide)) rfl (dl_cons (de_v rfl rfl) (dl_cons (de_v rfl rfl) dl_nil))))) (dss_one (ds_raise cx PySem.F.excBase_ValueError nm.x_BadShares.1 nm.c_BadShares nm.x_BadShares.2.1 nm.x_BadShares.2.2.1 nm.x_BadShares.2.2.2 rfl)) dss_nil)))
theorem sc_share_of : FnScope N_share_of ps_share_of (defScope (tp 26)) := ⟨rfl, rfl, rfl, by decide +kernel, rfl, by decide +kernel, by decide +kernel⟩
theorem con_share_of [WW] {P : Program} {w : World} {K : PySem.W.Frag} {T : List (Addr × Str)} {mg : Str → Option Value} {base : Heap} (hw : w = WW.w) (nm : Nm K mg) 
    (law : ∀ ds st Qd Ed, ds.length = ps_share_of.length → sp_share_of ds st Qd Ed → t_share_of (fun x _ st' => Ed x st') { nx := fun _ st' => Qd .non st', rt := Qd } (startD N_share_of ds) st) : Con P w K T mg base "share_of" (defArgs (tp 26)) (defBody (tp 26)) (defScope (tp 26)) ps_share_of 1 sp_share_of := by
  obtain ⟨fd, F⟩ := nm.f_share_of
  refine ⟨⟨_, fd, nm.g_share_of, F, FnD.mk hw F sc_share_of (fun cd A outer s H E C hr cx hK hT hc => ?_) law⟩, by intro kV doc pm an cdv ct us hl; match us, hl with | [a, b, c], _ => rfl⟩
  have hp : PassesOwn (model (cxD P w K mg base N_share_of "share_of" (defScope (tp 26)) (He.ga K "share_of") cd A outer s H E).prog (cxD P w K mg base N_share_of "share_of" (defScope (tp 26)) (He.ga K "share_of") cd A outer s H E).w) (cxD P w K mg base N_share_of "share_of" (defScope (tp 26)) (He.ga K "share_of") cd A outer s H E).A (cxD P w K mg base N_share_of "share_of" (defScope (tp 26)) (He.ga K "share_of") cd A outer s H E).env (cxD P w K mg base N_share_of "share_of" (defScope (tp 26)) (He.ga K "share_of") cd A outer s H E).xe := passes_of rfl
  exact (dss_one (ds_ret (de_ix (ixD_ok cx) (de_ix (ixD_ok cx) (de_v rfl rfl) (de_v rfl rfl) (fun _ _ => rfl)) (de_indexT cx (de_v rfl rfl) (de_v rfl rfl)) (fun _ _ => rfl))))
theorem sc_stays : FnScope N_stays ps_stays (defScope (tp 27)) := ⟨rfl, rfl, rfl, by decide +kernel, rfl, by decide +kernel, by decide +kernel⟩
theorem con_stays [WW] {P : Program} {w : World} {K : PySem.W.Frag} {T : List (Addr × Str)} {mg : Str → Option Value} {base : Heap} (hw : w = WW.w) (nm : Nm K mg) (c_is_less : Con P w K T mg base "is_less" (defArgs (tp 14)) (defBody (tp 14)) (defScope (tp 14)) ps_is_less 1 sp_is_less)
    (law : ∀ ds st Qd Ed, ds.length = ps_stays.length → sp_stays ds st Qd Ed → t_stays (fun x _ st' => Ed x st') { nx := fun _ st' => Qd .non st', rt := Qd } (startD N_stays ds) st) : Con P w K T mg base "stays" (defArgs (tp 27)) (defBody (tp 27)) (defScope (tp 27)) ps_stays 2 sp_stays := by
  obtain ⟨fd, F⟩ := nm.f_stays
  refine ⟨⟨_, fd, nm.g_stays, F, FnD.mk hw F sc_stays (fun cd A outer s H E C hr cx hK hT hc => ?_) law⟩, by intro kV doc pm an cdv ct us hl; match us, hl with | [a, b, c], _ => rfl⟩
  have hp : PassesOwn (model (cxD P w K mg base N_stays "stays" (defScope (tp 27)) (He.ga K "stays") cd A outer s H E).prog (cxD P w K mg base N_stays "stays" (defScope (tp 27)) (He.ga K "stays") cd A outer s H E).w) (cxD P w K mg base N_stays "stays" (defScope (tp 27)) (He.ga K "stays") cd A outer s H E).A (cxD P w K mg base N_stays "stays" (defScope (tp 27)) (He.ga K "stays") cd A outer s H E).env (cxD P w K mg base N_stays "stays" (defScope (tp 27)) (He.ga K "stays") cd A outer s H E).xe := passes_of rfl
  exact (dss_one (ds_ret (de_callTy (callD_tuple cx) rfl nm.b_tuple (by decide +kernel) (da_cons (de_lc cx (di_zip cx rfl nm.b_zip (dl_cons (de_v rfl rfl) (dl_cons (de_ix (ixD_ok cx) (de_v rfl rfl) (de_v rfl rfl) (fun _ _ => rfl)) dl_nil))) (blkOk_by (own := [("person", 3), ("share", 4)]) (by rfl)) (fun _ h => h) (hg2 cx rfl (fun _ _ => rfl) rfl (fun _ _ => rfl)) (fun s1 H1 Ca1 cl1 fp1 Cb1 cx1 hK1 hT1 => (dts_one (dt_not (dt_val (de_con cx1 (hK1.trans hK) (hT1.trans hT) c_is_less (hr.mono (by decide)) rfl (dl_cons (de_ix (ixD_ok cx1) (de_v rfl rfl) (de_v rfl rfl) (fun _ _ => rfl)) (dl_cons (de_v rfl rfl) dl_nil))))))) (fun s1 H1 Ca1 cl1 fp1 Cb1 cx1 hK1 hT1 => (de_v rfl rfl))) da_nil))))
theorem sc_served_of : FnScope N_served_of ps_served_of (defScope (tp 28)) := ⟨rfl, rfl, rfl, by decide +kernel, rfl, by decide +kernel, by decide +kernel⟩
theorem con_served_of [WW] {P : Program} {w : World} {K : PySem.W.Frag} {T : List (Addr × Str)} {mg : Str → Option Value} {base : Heap} (hw : w = WW.w) (nm : Nm K mg) (c_stays : Con P w K T mg base "stays" (defArgs (tp 27)) (defBody (tp 27)) (defScope (tp 27)) ps_stays 2 sp_stays)
    (law : ∀ ds st Qd Ed, ds.length = ps_served_of.length → sp_served_of ds st Qd Ed → t_served_of (fun x _ st' => Ed x st') { nx := fun _ st' => Qd .non st', rt := Qd } (startD N_served_of ds) st) : Con P w K T mg base "served_of" (defArgs (tp 28)) (defBody (tp 28)) (defScope (tp 28)) ps_served_of 3 sp_served_of := by
  obtain ⟨fd, F⟩ := nm.f_served_of
  refine ⟨⟨_, fd, nm.g_served_of, F, FnD.mk hw F sc_served_of (fun cd A outer s H E C hr cx hK hT hc => ?_) law⟩, by intro kV doc pm an cdv ct us hl; match us, hl with | [a, b, c], _ => rfl⟩
  have hp : PassesOwn (model (cxD P w K mg base N_served_of "served_of" (defScope (tp 28)) (He.ga K "served_of") cd A outer s H E).prog (cxD P w K mg base N_served_of "served_of" (defScope (tp 28)) (He.ga K "served_of") cd A outer s H E).w) (cxD P w K mg base N_served_of "served_of" (defScope (tp 28)) (He.ga K "served_of") cd A outer s H E).A (cxD P w K mg base N_served_of "served_of" (defScope (tp 28)) (He.ga K "served_of") cd A outer s H E).env (cxD P w K mg base N_served_of "served_of" (defScope (tp 28)) (He.ga K "served_of") cd A outer s H E).xe := passes_of rfl
  exact (dss_cons (ds_set cx rfl (loc_of rfl) (de_tupRg cx rfl nm.b_tuple rfl nm.b_range (de_v rfl rfl)))
  (dss_cons (ds_set cx rfl (loc_of rfl) (de_con cx hK hT c_stays (hr.mono (by decide)) rfl (dl_cons (de_v rfl rfl) (dl_cons (de_v rfl rfl) (dl_cons (de_v rfl rfl) dl_nil)))))
  (dss_cons (ds_while hp (dt_w (dw_and (dt_cmp (opD_ne cx) (de_v rfl rfl) (de_tup dl_nil) (by rfl)) (dw_and1 (dt_cmp (opD_ne cx) (de_v rfl rfl) (de_v rfl rfl) (by rfl))))) (dss_cons (ds_set cx rfl (loc_of rfl) (de_v rfl rfl))
  (dss_one (ds_set cx rfl (loc_of rfl) (de_if (dt_cmp (opD_ne cx) (de_v rfl rfl) (de_tup dl_nil) (by rfl)) (de_con cx hK hT c_stays (hr.mono (by decide)) rfl (dl_cons (de_v rfl rfl) (dl_cons (de_v rfl rfl) (dl_cons (de_v rfl rfl) dl_nil)))) (de_tup dl_nil))))))
  (dss_one (ds_ret (de_v rfl rfl))))))
theorem sc_charged_of : FnScope N_charged_of ps_charged_of (defScope (tp 29)) := ⟨rfl, rfl, rfl, by decide +kernel, rfl, by decide +kernel, by decide +kernel⟩
theorem con_charged_of [WW] {P : Program} {w : World} {K : PySem.W.Frag} {T : List (Addr × Str)} {mg : Str → Option Value} {base : Heap} (hw : w = WW.w) (nm : Nm K mg) (c_served_of : Con P w K T mg base "served_of" (defArgs (tp 28)) (defBody (tp 28)) (defScope (tp 28)) ps_served_of 3 sp_served_of) (c_share_of : Con P w K T mg base "share_of" (defArgs (tp 26)) (defBody (tp 26)) (defScope (tp 26)) ps_share_of 1 sp_share_of)
    (law : ∀ ds st Qd Ed, ds.length = ps_charged_of.length → sp_charged_of ds st Qd Ed → t_charged_of (fun x _ st' => Ed x st') { nx := fun _ st' => Qd .non st', rt := Qd } (startD N_charged_of ds) st) : Con P w K T mg base "charged_of" (defArgs (tp 29)) (defBody (tp 29)) (defScope (tp 29)) ps_charged_of 4 sp_charged_of := by
  obtain ⟨fd, F⟩ := nm.f_charged_of
  refine ⟨⟨_, fd, nm.g_charged_of, F, FnD.mk hw F sc_charged_of (fun cd A outer s H E C hr cx hK hT hc => ?_) law⟩, by intro kV doc pm an cdv ct us hl; match us, hl with | [a, b, c], _ => rfl⟩
  have hp : PassesOwn (model (cxD P w K mg base N_charged_of "charged_of" (defScope (tp 29)) (He.ga K "charged_of") cd A outer s H E).prog (cxD P w K mg base N_charged_of "charged_of" (defScope (tp 29)) (He.ga K "charged_of") cd A outer s H E).w) (cxD P w K mg base N_charged_of "charged_of" (defScope (tp 29)) (He.ga K "charged_of") cd A outer s H E).A (cxD P w K mg base N_charged_of "charged_of" (defScope (tp 29)) (He.ga K "charged_of") cd A outer s H E).env (cxD P w K mg base N_charged_of "charged_of" (defScope (tp 29)) (He.ga K "charged_of") cd A outer s H E).xe := passes_of rfl
  exact (dss_cons (ds_set cx rfl (loc_of rfl) (de_con cx hK hT c_served_of (hr.mono (by decide)) rfl (dl_cons (de_v rfl rfl) (dl_cons (de_v rfl rfl) (dl_cons (de_v rfl rfl) dl_nil)))))
  (dss_one (ds_ret (de_callTy (callD_tuple cx) rfl nm.b_tuple (by decide +kernel) (da_cons (de_lc cx (di_range1 rfl nm.b_range (de_v rfl rfl)) (blkOk_by (own := [("person", 4)]) (by rfl)) List.mem_cons_self (hg1 cx rfl (fun _ _ => rfl)) (fun s1 H1 Ca1 cl1 fp1 Cb1 cx1 hK1 hT1 => dts_nil) (fun s1 H1 Ca1 cl1 fp1 Cb1 cx1 hK1 hT1 => (de_if (dt_cmp (opD_in cx1) (de_v rfl rfl) (de_v rfl rfl) (by rfl)) (de_con cx1 (hK1.trans hK) (hT1.trans hT) c_share_of (hr.mono (by decide)) rfl (dl_cons (de_v rfl rfl) (dl_cons (de_v rfl rfl) (dl_cons (de_v rfl rfl) dl_nil)))) (de_gktK (hK1.trans hK) rfl nm.z_ZERO nm.q_ZERO fun _ => DenL.cons (.int _) (DenL.cons (.int _) (DenL.nil)))))) da_nil)))))
theorem sc_has_of : FnScope N_has_of ps_has_of (defScope (tp 31)) := ⟨rfl, rfl, rfl, by decide +kernel, rfl, by decide +kernel, by decide +kernel⟩
theorem con_has_of [WW] {P : Program} {w : World} {K : PySem.W.Frag} {T : List (Addr × Str)} {mg : Str → Option Value} {base : Heap} (hw : w = WW.w) (nm : Nm K mg) (c_served_of : Con P w K T mg base "served_of" (defArgs (tp 28)) (defBody (tp 28)) (defScope (tp 28)) ps_served_of 3 sp_served_of) (c_charged_of : Con P w K T mg base "charged_of" (defArgs (tp 29)) (defBody (tp 29)) (defScope (tp 29)) ps_charged_of 4 sp_charged_of) (c_minus : Con P w K T mg base "minus" (defArgs (tp 13)) (defBody (tp 13)) (defScope (tp 13)) ps_minus 2 sp_minus)
    (law : ∀ ds st Qd Ed, ds.length = ps_has_of.length → sp_has_of ds st Qd Ed → t_has_of (fun x _ st' => Ed x st') { nx := fun _ st' => Qd .non st', rt := Qd } (startD N_has_of ds) st) : Con P w K T mg base "has_of" (defArgs (tp 31)) (defBody (tp 31)) (defScope (tp 31)) ps_has_of 5 sp_has_of := by
  obtain ⟨fd, F⟩ := nm.f_has_of
  refine ⟨⟨_, fd, nm.g_has_of, F, FnD.mk hw F sc_has_of (fun cd A outer s H E C hr cx hK hT hc => ?_) law⟩, by intro kV doc pm an cdv ct us hl; match us, hl with | [a, b, c, d], _ => rfl⟩
  have hp : PassesOwn (model (cxD P w K mg base N_has_of "has_of" (defScope (tp 31)) (He.ga K "has_of") cd A outer s H E).prog (cxD P w K mg base N_has_of "has_of" (defScope (tp 31)) (He.ga K "has_of") cd A outer s H E).w) (cxD P w K mg base N_has_of "has_of" (defScope (tp 31)) (He.ga K "has_of") cd A outer s H E).A (cxD P w K mg base N_has_of "has_of" (defScope (tp 31)) (He.ga K "has_of") cd A outer s H E).env (cxD P w K mg base N_has_of "has_of" (defScope (tp 31)) (He.ga K "has_of") cd A outer s H E).xe := passes_of rfl
  exact (dss_cons (ds_parT cx (els_v (fun C1 cx1 hK1 hT1 => (de_con cx1 (hK1.trans hK) (hT1.trans hT) c_served_of (hr.mono (by decide)) rfl (dl_cons (de_v rfl rfl) (dl_cons (de_v rfl rfl) (dl_cons (de_v rfl rfl) dl_nil))))) (els_v (fun C1 cx1 hK1 hT1 => (de_con cx1 (hK1.trans hK) (hT1.trans hT) c_charged_of (hr.mono (by decide)) rfl (dl_cons (de_v rfl rfl) (dl_cons (de_v rfl rfl) (dl_cons (de_v rfl rfl) dl_nil))))) els_nil)) (pgs_v cx rfl rfl (pgs_v cx rfl rfl pgs_0)))
  (dss_one (ds_ret (de_lc cx (di_range1 rfl nm.b_range (de_v rfl rfl)) (blkOk_by (own := [("person", 6)]) (by rfl)) List.mem_cons_self (hg1 cx rfl (fun _ _ => rfl)) (fun s1 H1 Ca1 cl1 fp1 Cb1 cx1 hK1 hT1 => dts_nil) (fun s1 H1 Ca1 cl1 fp1 Cb1 cx1 hK1 hT1 => (de_if (dt_cmp (opD_in cx1) (de_v rfl rfl) (de_v rfl rfl) (by rfl)) (de_con cx1 (hK1.trans hK) (hT1.trans hT) c_minus (hr.mono (by decide)) rfl (dl_cons (de_ix (ixD_ok cx1) (de_v rfl rfl) (de_v rfl rfl) (fun _ _ => rfl)) (dl_cons (de_ix (ixD_ok cx1) (de_v rfl rfl) (de_v rfl rfl) (fun _ _ => rfl)) dl_nil))) (de_gktK (hK1.trans hK) rfl nm.z_ZERO nm.q_ZERO fun _ => DenL.cons (.int _) (DenL.cons (.int _) (DenL.nil)))))))))
theorem sc_lot_gain : FnScope N_lot_gain ps_lot_gain (defScope (tp 32)) := ⟨rfl, rfl, rfl, by decide +kernel, rfl, by decide +kernel, by decide +kernel⟩
theorem con_lot_gain [WW] {P : Program} {w : World} {K : PySem.W.Frag} {T : List (Addr × Str)} {mg : Str → Option Value} {base : Heap} (hw : w = WW.w) (nm : Nm K mg) (c_need_shares : Con P w K T mg base "need_shares" (defArgs (tp 25)) (defBody (tp 25)) (defScope (tp 25)) ps_need_shares 5 (sp_need_shares K)) (c_are_amounts : Con P w K T mg base "are_amounts" (defArgs (tp 20)) (defBody (tp 20)) (defScope (tp 20)) ps_are_amounts 3 sp_are_amounts) (c_need_lot : Con P w K T mg base "need_lot" (defArgs (tp 22)) (defBody (tp 22)) (defScope (tp 22)) ps_need_lot 3 (sp_need_lot K)) (c_has_of : Con P w K T mg base "has_of" (defArgs (tp 31)) (defBody (tp 31)) (defScope (tp 31)) ps_has_of 5 sp_has_of) (c_minus : Con P w K T mg base "minus" (defArgs (tp 13)) (defBody (tp 13)) (defScope (tp 13)) ps_minus 2 sp_minus)
    (law : ∀ ds st Qd Ed, ds.length = ps_lot_gain.length → (sp_lot_gain K) ds st Qd Ed → t_lot_gain K (fun x _ st' => Ed x st') { nx := fun _ st' => Qd .non st', rt := Qd } (startD N_lot_gain ds) st) : Con P w K T mg base "lot_gain" (defArgs (tp 32)) (defBody (tp 32)) (defScope (tp 32)) ps_lot_gain 6 (sp_lot_gain K) := by
  obtain ⟨fd, F⟩ := nm.f_lot_gain
  refine ⟨⟨_, fd, nm.g_lot_gain, F, FnD.mk hw F sc_lot_gain (fun cd A outer s H E C hr cx hK hT hc => ?_) law⟩, by intro kV doc pm an cdv ct us hl; match us, hl with | [a, b, c, d, e], _ => rfl⟩
  have hp : PassesOwn (model (cxD P w K mg base N_lot_gain "lot_gain" (defScope (tp 32)) (He.ga K "lot_gain") cd A outer s H E).prog (cxD P w K mg base N_lot_gain "lot_gain" (defScope (tp 32)) (He.ga K "lot_gain") cd A outer s H E).w) (cxD P w K mg base N_lot_gain "lot_gain" (defScope (tp 32)) (He.ga K "lot_gain") cd A outer s H E).A (cxD P w K mg base N_lot_gain "lot_gain" (defScope (tp 32)) (He.ga K "lot_gain") cd A outer s H E).env (cxD P w K mg base N_lot_gain "lot_gain" (defScope (tp 32)) (He.ga K "lot_gain") cd A outer s H E).xe := passes_of rfl
  exact (dss_cons (ds_expr (de_con cx hK hT c_need_shares (hr.mono (by decide)) rfl (dl_cons (de_v rfl rfl) (dl_cons (de_v rfl rfl) dl_nil))))
  (dss_cons (ds_if (dt_not (dt_val (de_con cx hK hT c_are_amounts (hr.mono (by decide)) rfl (dl_cons (de_v rfl rfl) (dl_cons (de_v rfl rfl) dl_nil))))) (dss_one (ds_raise cx PySem.F.excBase_ValueError nm.x_BadWorths.1 nm.c_BadWorths nm.x_BadWorths.2.1 nm.x_BadWorths.2.2.1 nm.x_BadWorths.2.2.2 rfl)) dss_nil)
  (dss_cons (ds_expr (de_con cx hK hT c_need_lot (hr.mono (by decide)) rfl (dl_cons (de_v rfl rfl) (dl_cons (de_v rfl rfl) dl_nil))))
  (dss_cons (ds_if (dt_not (dt_val (de_con cx hK hT c_are_amounts (hr.mono (by decide)) rfl (dl_cons (de_v rfl rfl) (dl_cons (de_callB (callD_len cx) rfl nm.b_len (by decide +kernel) (da_cons (de_v rfl rfl) da_nil)) dl_nil))))) (dss_one (ds_raise cx PySem.F.excBase_ValueError nm.x_BadBids.1 nm.c_BadBids nm.x_BadBids.2.1 nm.x_BadBids.2.2.1 nm.x_BadBids.2.2.2 rfl)) dss_nil)
  (dss_cons (ds_set cx rfl (loc_of rfl) (de_callTy (callD_tuple cx) rfl nm.b_tuple (by decide +kernel) (da_cons (de_lc cx (di_range1 rfl nm.b_range (de_v rfl rfl)) (blkOk_by (own := [("person", 8)]) (by rfl)) List.mem_cons_self (hg1 cx rfl (fun _ _ => rfl)) (fun s1 H1 Ca1 cl1 fp1 Cb1 cx1 hK1 hT1 => dts_nil) (fun s1 H1 Ca1 cl1 fp1 Cb1 cx1 hK1 hT1 => (de_if (dt_cmp (opD_in cx1) (de_v rfl rfl) (de_v rfl rfl) (by rfl)) (de_ix (ixD_ok cx1) (de_v rfl rfl) (de_indexT cx1 (de_v rfl rfl) (de_v rfl rfl)) (fun _ _ => rfl)) (de_ix (ixD_ok cx1) (de_v rfl rfl) (de_v rfl rfl) (fun _ _ => rfl))))) da_nil)))
  (dss_cons (ds_parT cx (els_v (fun C1 cx1 hK1 hT1 => (de_con cx1 (hK1.trans hK) (hT1.trans hT) c_has_of (hr.mono (by decide)) rfl (dl_cons (de_v rfl rfl) (dl_cons (de_v rfl rfl) (dl_cons (de_v rfl rfl) (dl_cons (de_v rfl rfl) dl_nil)))))) (els_v (fun C1 cx1 hK1 hT1 => (de_con cx1 (hK1.trans hK) (hT1.trans hT) c_has_of (hr.mono (by decide)) rfl (dl_cons (de_v rfl rfl) (dl_cons (de_v rfl rfl) (dl_cons (de_v rfl rfl) (dl_cons (de_v rfl rfl) dl_nil)))))) els_nil)) (pgs_v cx rfl rfl (pgs_v cx rfl rfl pgs_0)))
  (dss_one (ds_ret (de_callTy (callD_tuple cx) rfl nm.b_tuple (by decide +kernel) (da_cons (de_lc cx (di_any cx (de_v rfl rfl)) (blkOk_by (own := [("person", 8)]) (by rfl)) List.mem_cons_self (hg1 cx rfl (fun _ _ => rfl)) (fun s1 H1 Ca1 cl1 fp1 Cb1 cx1 hK1 hT1 => dts_nil) (fun s1 H1 Ca1 cl1 fp1 Cb1 cx1 hK1 hT1 => (de_con cx1 (hK1.trans hK) (hT1.trans hT) c_minus (hr.mono (by decide)) rfl (dl_cons (de_ix (ixD_ok cx1) (de_v rfl rfl) (de_v rfl rfl) (fun _ _ => rfl)) (dl_cons (de_ix (ixD_ok cx1) (de_v rfl rfl) (de_v rfl rfl) (fun _ _ => rfl)) dl_nil))))) da_nil))))))))))
theorem sc__law_begun : FnScope N__law_begun ps__law_begun (defScope (tp 34)) := ⟨rfl, rfl, rfl, by decide +kernel, rfl, by decide +kernel, by decide +kernel⟩
theorem con__law_begun [WW] {P : Program} {w : World} {K : PySem.W.Frag} {T : List (Addr × Str)} {mg : Str → Option Value} {base : Heap} (hw : w = WW.w) (nm : Nm K mg) 
    (law : ∀ ds st Qd Ed, ds.length = ps__law_begun.length → sp__law_begun ds st Qd Ed → t__law_begun (fun x _ st' => Ed x st') { nx := fun _ st' => Qd .non st', rt := Qd } (startD N__law_begun ds) st) : Con P w K T mg base "_law_begun" (defArgs (tp 34)) (defBody (tp 34)) (defScope (tp 34)) ps__law_begun 1 sp__law_begun := by
  obtain ⟨fd, F⟩ := nm.f__law_begun
  refine ⟨⟨_, fd, nm.g__law_begun, F, FnD.mk hw F sc__law_begun (fun cd A outer s H E C hr cx hK hT hc => ?_) law⟩, by intro kV doc pm an cdv ct us hl; match us, hl with | [a], _ => rfl⟩
  have hp : PassesOwn (model (cxD P w K mg base N__law_begun "_law_begun" (defScope (tp 34)) (He.ga K "_law_begun") cd A outer s H E).prog (cxD P w K mg base N__law_begun "_law_begun" (defScope (tp 34)) (He.ga K "_law_begun") cd A outer s H E).w) (cxD P w K mg base N__law_begun "_law_begun" (defScope (tp 34)) (He.ga K "_law_begun") cd A outer s H E).A (cxD P w K mg base N__law_begun "_law_begun" (defScope (tp 34)) (He.ga K "_law_begun") cd A outer s H E).env (cxD P w K mg base N__law_begun "_law_begun" (defScope (tp 34)) (He.ga K "_law_begun") cd A outer s H E).xe := passes_of rfl
  exact (dss_cons (ds_lcN cx rfl rfl rfl (di_any cx (de_v rfl rfl)) (blkOk_by (own := [("cell", 2)]) (by rfl)) List.mem_cons_self (hg1 cx rfl (fun _ _ => rfl)) (fun s1 H1 Ca1 cl1 fp1 Cb1 cx1 hK1 hT1 => (dts_one (dt_cmp opD_ge (de_callB callD_abs rfl nm.b_abs (by decide +kernel) (da_cons (de_v rfl rfl) da_nil)) (de_binop opD_pow de_int de_int) (by rfl)))) (fun s1 H1 Ca1 cl1 fp1 Cb1 cx1 hK1 hT1 => (de_binop opD_sub (de_callB callD_abs rfl nm.b_abs (by decide +kernel) (da_cons (de_v rfl rfl) da_nil)) (de_binop opD_pow de_int de_int))))
  (dss_one (ds_ret (de_shW (dnw_dispK cx (dps_cons (fun C1 cx1 hK1 hT1 => (de_str)) (fun C1 cx1 hK1 hT1 => (de_vS rfl rfl)) (dps_cons (fun C1 cx1 hK1 hT1 => (de_str)) (fun C1 cx1 hK1 hT1 => (de_lc cx1 (di_any cx1 (de_v rfl rfl)) (blkOk_by (own := [("cell", 2)]) (by rfl)) List.mem_cons_self (hg1 cx1 rfl (fun _ _ => rfl)) (fun s2 H2 Ca2 cl2 fp2 Cb2 cx2 hK2 hT2 => dts_nil) (fun s2 H2 Ca2 cl2 fp2 Cb2 cx2 hK2 hT2 => (de_callB callD_abs rfl nm.b_abs (by decide +kernel) (da_cons (de_v rfl rfl) da_nil))))) (dps_cons (fun C1 cx1 hK1 hT1 => (de_str)) (fun C1 cx1 hK1 hT1 => de_int) (dps_cons (fun C1 cx1 hK1 hT1 => (de_str)) (fun C1 cx1 hK1 hT1 => de_int) dps_nil)))) (by exact Nat.le_of_ble_eq_true rfl))))))
theorem sc__law_blended : FnScope N__law_blended ps__law_blended (defScope (tp 35)) := ⟨rfl, rfl, rfl, by decide +kernel, rfl, by decide +kernel, by decide +kernel⟩
theorem con__law_blended [WW] {P : Program} {w : World} {K : PySem.W.Frag} {T : List (Addr × Str)} {mg : Str → Option Value} {base : Heap} (hw : w = WW.w) (nm : Nm K mg) 
    (law : ∀ ds st Qd Ed, ds.length = ps__law_blended.length → sp__law_blended ds st Qd Ed → t__law_blended (fun x _ st' => Ed x st') { nx := fun _ st' => Qd .non st', rt := Qd } (startD N__law_blended ds) st) : Con P w K T mg base "_law_blended" (defArgs (tp 35)) (defBody (tp 35)) (defScope (tp 35)) ps__law_blended 1 sp__law_blended := by
  obtain ⟨fd, F⟩ := nm.f__law_blended
  refine ⟨⟨_, fd, nm.g__law_blended, F, FnD.mk hw F sc__law_blended (fun cd A outer s H E C hr cx hK hT hc => ?_) law⟩, by intro kV doc pm an cdv ct us hl; match us, hl with | [a], _ => rfl⟩
  have hp : PassesOwn (model (cxD P w K mg base N__law_blended "_law_blended" (defScope (tp 35)) (He.ga K "_law_blended") cd A outer s H E).prog (cxD P w K mg base N__law_blended "_law_blended" (defScope (tp 35)) (He.ga K "_law_blended") cd A outer s H E).w) (cxD P w K mg base N__law_blended "_law_blended" (defScope (tp 35)) (He.ga K "_law_blended") cd A outer s H E).A (cxD P w K mg base N__law_blended "_law_blended" (defScope (tp 35)) (He.ga K "_law_blended") cd A outer s H E).env (cxD P w K mg base N__law_blended "_law_blended" (defScope (tp 35)) (He.ga K "_law_blended") cd A outer s H E).xe := passes_of rfl
  exact (dss_cons (ds_par2 cx rfl rfl (by decide) rfl rfl (els_v (fun C1 cx1 hK1 hT1 => (de_binop (opD_add cx1) (de_ix (ixD_ok cx1) (de_v rfl rfl) (de_str) (fun _ _ => rfl)) de_int)) (els_v (fun C1 cx1 hK1 hT1 => de_int) els_nil)))
  (dss_cons (ds_put cx (de_v rfl rfl) (de_v rfl rfl) (de_str))
  (dss_cons (ds_for cx hp (di_any cx (de_lst (dl_cons de_int (dl_cons de_int (dl_cons de_int dl_nil))))) (dg_v cx rfl rfl) (dss_cons (ds_set cx rfl (loc_of rfl) (de_binop (opD_add cx) (de_binop (opD_mul cx) de_int (de_v rfl rfl)) (de_binop opD_div (de_v rfl rfl) de_int)))
  (dss_cons (ds_for cx hp (di_any cx (de_ix (ixD_ok cx) (de_v rfl rfl) (de_str) (fun _ _ => rfl))) (dg_v cx rfl rfl) (dss_one (ds_set cx rfl (loc_of rfl) (de_binop opD_mod (de_callTy callD_int rfl nm.b_int (by decide +kernel) (da_cons (de_binop (opD_add cx) (de_binop (opD_add cx) (de_binop (opD_mul cx) (de_v rfl rfl) de_int) (de_v rfl rfl)) (de_v rfl rfl)) da_nil)) (de_v rfl rfl)))))
  (dss_one (ds_set cx rfl (loc_of rfl) (de_binop (opD_add cx) (de_binop (opD_mul cx) (de_v rfl rfl) de_int) (de_binop opD_mod (de_callTy callD_int rfl nm.b_int (by decide +kernel) (da_cons (de_binop opD_pow (de_v rfl rfl) de_int) da_nil)) (de_v rfl rfl))))))))
  (dss_one (ds_ret (de_v rfl rfl))))))
theorem sc__law_draw : FnScope N__law_draw ps__law_draw (defScope (tp 36)) := ⟨rfl, rfl, rfl, by decide +kernel, rfl, by decide +kernel, by decide +kernel⟩
theorem con__law_draw [WW] {P : Program} {w : World} {K : PySem.W.Frag} {T : List (Addr × Str)} {mg : Str → Option Value} {base : Heap} (hw : w = WW.w) (nm : Nm K mg) (c__law_blended : Con P w K T mg base "_law_blended" (defArgs (tp 35)) (defBody (tp 35)) (defScope (tp 35)) ps__law_blended 1 sp__law_blended)
    (law : ∀ ds st Qd Ed, ds.length = ps__law_draw.length → sp__law_draw ds st Qd Ed → t__law_draw (fun x _ st' => Ed x st') { nx := fun _ st' => Qd .non st', rt := Qd } (startD N__law_draw ds) st) : Con P w K T mg base "_law_draw" (defArgs (tp 36)) (defBody (tp 36)) (defScope (tp 36)) ps__law_draw 2 sp__law_draw := by
  obtain ⟨fd, F⟩ := nm.f__law_draw
  refine ⟨⟨_, fd, nm.g__law_draw, F, FnD.mk hw F sc__law_draw (fun cd A outer s H E C hr cx hK hT hc => ?_) law⟩, by intro kV doc pm an cdv ct us hl; match us, hl with | [a, b], _ => rfl⟩
  have hp : PassesOwn (model (cxD P w K mg base N__law_draw "_law_draw" (defScope (tp 36)) (He.ga K "_law_draw") cd A outer s H E).prog (cxD P w K mg base N__law_draw "_law_draw" (defScope (tp 36)) (He.ga K "_law_draw") cd A outer s H E).w) (cxD P w K mg base N__law_draw "_law_draw" (defScope (tp 36)) (He.ga K "_law_draw") cd A outer s H E).A (cxD P w K mg base N__law_draw "_law_draw" (defScope (tp 36)) (He.ga K "_law_draw") cd A outer s H E).env (cxD P w K mg base N__law_draw "_law_draw" (defScope (tp 36)) (He.ga K "_law_draw") cd A outer s H E).xe := passes_of rfl
  exact (dss_cons (ds_if (dt_cmp (opD_eq cx) (de_ix (ixD_ok cx) (de_v rfl rfl) (de_str) (fun _ _ => rfl)) de_int (by rfl)) (dss_one (ds_put cx (de_if (dt_cmp (opD_ne cx) (de_ix (ixD_ok cx) (de_v rfl rfl) (de_str) (fun _ _ => rfl)) (de_lst dl_nil) (by rfl)) (de_popAt (de_ix (ixD_ok cx) (de_v rfl rfl) (de_str) (fun _ _ => rfl)) de_int) (de_con cx hK hT c__law_blended (hr.mono (by decide)) rfl (dl_cons (de_v rfl rfl) dl_nil))) (de_v rfl rfl) (de_str))) dss_nil)
  (dss_cons (ds_set cx rfl (loc_of rfl) (de_binop opD_mod (de_callTy callD_int rfl nm.b_int (by decide +kernel) (da_cons (de_ix (ixD_ok cx) (de_v rfl rfl) (de_str) (fun _ _ => rfl)) da_nil)) (de_v rfl rfl)))
  (dss_cons (ds_put cx (de_binop opD_div (de_ix (ixD_ok cx) (de_v rfl rfl) (de_str) (fun _ _ => rfl)) (de_v rfl rfl)) (de_v rfl rfl) (de_str))
  (dss_one (ds_ret (de_v rfl rfl))))))
theorem sc__law_pick : FnScope N__law_pick ps__law_pick (defScope (tp 37)) := ⟨rfl, rfl, rfl, by decide +kernel, rfl, by decide +kernel, by decide +kernel⟩
theorem con__law_pick [WW] {P : Program} {w : World} {K : PySem.W.Frag} {T : List (Addr × Str)} {mg : Str → Option Value} {base : Heap} (hw : w = WW.w) (nm : Nm K mg) (c__law_draw : Con P w K T mg base "_law_draw" (defArgs (tp 36)) (defBody (tp 36)) (defScope (tp 36)) ps__law_draw 2 sp__law_draw)
    (law : ∀ ds st Qd Ed, ds.length = ps__law_pick.length → sp__law_pick ds st Qd Ed → t__law_pick (fun x _ st' => Ed x st') { nx := fun _ st' => Qd .non st', rt := Qd } (startD N__law_pick ds) st) : Con P w K T mg base "_law_pick" (defArgs (tp 37)) (defBody (tp 37)) (defScope (tp 37)) ps__law_pick 3 sp__law_pick := by
  obtain ⟨fd, F⟩ := nm.f__law_pick
  refine ⟨⟨_, fd, nm.g__law_pick, F, FnD.mk hw F sc__law_pick (fun cd A outer s H E C hr cx hK hT hc => ?_) law⟩, by intro kV doc pm an cdv ct us hl; match us, hl with | [a, b], _ => rfl⟩
  have hp : PassesOwn (model (cxD P w K mg base N__law_pick "_law_pick" (defScope (tp 37)) (He.ga K "_law_pick") cd A outer s H E).prog (cxD P w K mg base N__law_pick "_law_pick" (defScope (tp 37)) (He.ga K "_law_pick") cd A outer s H E).w) (cxD P w K mg base N__law_pick "_law_pick" (defScope (tp 37)) (He.ga K "_law_pick") cd A outer s H E).A (cxD P w K mg base N__law_pick "_law_pick" (defScope (tp 37)) (He.ga K "_law_pick") cd A outer s H E).env (cxD P w K mg base N__law_pick "_law_pick" (defScope (tp 37)) (He.ga K "_law_pick") cd A outer s H E).xe := passes_of rfl
  exact (dss_one (ds_ret (de_ix (ixD_ok cx) (de_v rfl rfl) (de_con cx hK hT c__law_draw (hr.mono (by decide)) rfl (dl_cons (de_v rfl rfl) (dl_cons (de_callB (callD_len cx) rfl nm.b_len (by decide +kernel) (da_cons (de_v rfl rfl) da_nil)) dl_nil))) (fun _ _ => rfl))))
theorem sc__law_is_truth : FnScope N__law_is_truth ps__law_is_truth (defScope (tp 39)) := ⟨rfl, rfl, rfl, by decide +kernel, rfl, by decide +kernel, by decide +kernel⟩
theorem con__law_is_truth [WW] {P : Program} {w : World} {K : PySem.W.Frag} {T : List (Addr × Str)} {mg : Str → Option Value} {base : Heap} (hw : w = WW.w) (nm : Nm K mg) 
    (law : ∀ ds st Qd Ed, ds.length = ps__law_is_truth.length → sp__law_is_truth ds st Qd Ed → t__law_is_truth (fun x _ st' => Ed x st') { nx := fun _ st' => Qd .non st', rt := Qd } (startD N__law_is_truth ds) st) : Con P w K T mg base "_law_is_truth" (defArgs (tp 39)) (defBody (tp 39)) (defScope (tp 39)) ps__law_is_truth 1 sp__law_is_truth := by
  obtain ⟨fd, F⟩ := nm.f__law_is_truth
  refine ⟨⟨_, fd, nm.g__law_is_truth, F, FnD.mk hw F sc__law_is_truth (fun cd A outer s H E C hr cx hK hT hc => ?_) law⟩, by intro kV doc pm an cdv ct us hl; match us, hl with | [a, b], _ => rfl⟩
  have hp : PassesOwn (model (cxD P w K mg base N__law_is_truth "_law_is_truth" (defScope (tp 39)) (He.ga K "_law_is_truth") cd A outer s H E).prog (cxD P w K mg base N__law_is_truth "_law_is_truth" (defScope (tp 39)) (He.ga K "_law_is_truth") cd A outer s H E).w) (cxD P w K mg base N__law_is_truth "_law_is_truth" (defScope (tp 39)) (He.ga K "_law_is_truth") cd A outer s H E).A (cxD P w K mg base N__law_is_truth "_law_is_truth" (defScope (tp 39)) (He.ga K "_law_is_truth") cd A outer s H E).env (cxD P w K mg base N__law_is_truth "_law_is_truth" (defScope (tp 39)) (He.ga K "_law_is_truth") cd A outer s H E).xe := passes_of rfl
  exact (dss_one (ds_ret (de_if (dt_val (de_v rfl rfl)) (de_cmp opD_is (de_v rfl rfl) de_bl (by rfl)) (de_cmp opD_is (de_v rfl rfl) de_bl (by rfl)))))
theorem sc__law_same : FnScope N__law_same ps__law_same (defScope (tp 40)) := ⟨rfl, rfl, rfl, by decide +kernel, rfl, by decide +kernel, by decide +kernel⟩
theorem con__law_same [WW] {P : Program} {w : World} {K : PySem.W.Frag} {T : List (Addr × Str)} {mg : Str → Option Value} {base : Heap} (hw : w = WW.w) (nm : Nm K mg) (c__law_is_truth : Con P w K T mg base "_law_is_truth" (defArgs (tp 39)) (defBody (tp 39)) (defScope (tp 39)) ps__law_is_truth 1 sp__law_is_truth)
    (law : ∀ ds st Qd Ed, ds.length = ps__law_same.length → sp__law_same ds st Qd Ed → t__law_same (fun x _ st' => Ed x st') { nx := fun _ st' => Qd .non st', rt := Qd } (startD N__law_same ds) st) : Con P w K T mg base "_law_same" (defArgs (tp 40)) (defBody (tp 40)) (defScope (tp 40)) ps__law_same 2 sp__law_same := by
  obtain ⟨fd, F⟩ := nm.f__law_same
  refine ⟨⟨_, fd, nm.g__law_same, F, FnD.mk hw F sc__law_same (fun cd A outer s H E C hr cx hK hT hc => ?_) law⟩, by intro kV doc pm an cdv ct us hl; match us, hl with | [a, b], _ => rfl⟩
  have hp : PassesOwn (model (cxD P w K mg base N__law_same "_law_same" (defScope (tp 40)) (He.ga K "_law_same") cd A outer s H E).prog (cxD P w K mg base N__law_same "_law_same" (defScope (tp 40)) (He.ga K "_law_same") cd A outer s H E).w) (cxD P w K mg base N__law_same "_law_same" (defScope (tp 40)) (He.ga K "_law_same") cd A outer s H E).A (cxD P w K mg base N__law_same "_law_same" (defScope (tp 40)) (He.ga K "_law_same") cd A outer s H E).env (cxD P w K mg base N__law_same "_law_same" (defScope (tp 40)) (He.ga K "_law_same") cd A outer s H E).xe := passes_of rfl
  exact (dss_cons (ds_setW cx rfl (loc_of rfl) (dnw_lst (dl_cons (de_tup (dl_cons (de_v rfl rfl) (dl_cons (de_v rfl rfl) dl_nil))) dl_nil)))
  (dss_cons (ds_while hp (dt_cmp (opD_ne cx) (de_v rfl rfl) (de_lst dl_nil) (by rfl)) (dss_cons (ds_asg (de_pop (de_v rfl rfl)) (dg_tup cx (dgs_cons (dg_v cx rfl rfl) (dgs_cons (dg_v cx rfl rfl) dgs_nil))))
  (dss_one (ds_if (dt_w (dw_or (dt_cmp opD_is (de_v rfl rfl) de_non (by rfl)) (dw_or1 (dt_val (de_isi1 cx .bl rfl nm.b_isinstance (de_v rfl rfl) rfl nm.b_bool (by decide +kernel)))))) (dss_one (ds_if (dt_if (dt_cmp opD_is (de_v rfl rfl) de_non (by rfl)) (dt_cmp opD_isNot (de_v rfl rfl) de_non (by rfl)) (dt_not (dt_val (de_con cx hK hT c__law_is_truth (hr.mono (by decide)) rfl (dl_cons (de_v rfl rfl) (dl_cons (de_v rfl rfl) dl_nil)))))) (dss_one (ds_ret de_bl)) dss_nil)) (dss_one (ds_if (dt_val (de_isi2 cx .int .str rfl nm.b_isinstance (de_v rfl rfl) rfl nm.b_int (by decide +kernel) rfl nm.b_str (by decide +kernel))) (dss_one (ds_if (dt_w (dw_or (dt_val (de_isi1 cx .bl rfl nm.b_isinstance (de_v rfl rfl) rfl nm.b_bool (by decide +kernel))) (dw_or (dt_cmp (opD_ne cx) (de_isi1 cx .int rfl nm.b_isinstance (de_v rfl rfl) rfl nm.b_int (by decide +kernel)) (de_isi1 cx .int rfl nm.b_isinstance (de_v rfl rfl) rfl nm.b_int (by decide +kernel)) (by rfl)) (dw_or1 (dt_cmp (opD_ne cx) (de_v rfl rfl) (de_v rfl rfl) (by rfl)))))) (dss_one (ds_ret de_bl)) dss_nil)) (dss_one (ds_if (dt_val (de_isi1 cx .dct rfl nm.b_isinstance (de_v rfl rfl) rfl nm.b_dict (by decide +kernel))) (dss_cons (ds_if (dt_w (dw_or (dt_not (dt_val (de_isi1 cx .dct rfl nm.b_isinstance (de_v rfl rfl) rfl nm.b_dict (by decide +kernel)))) (dw_or1 (dt_cmp (opD_ne cx) (de_callTy (callD_list cx) rfl nm.b_list (by decide +kernel) (da_cons (de_v rfl rfl) da_nil)) (de_callTy (callD_list cx) rfl nm.b_list (by decide +kernel) (da_cons (de_v rfl rfl) da_nil)) (by rfl))))) (dss_one (ds_ret de_bl)) dss_nil)
  (dss_cons ds_never
  (dss_one ds_never))) (dss_cons (ds_set cx rfl (loc_of rfl) (de_lst (dl_cons (de_and (de_isi1 cx .tup rfl nm.b_isinstance (de_v rfl rfl) rfl nm.b_tuple (by decide +kernel)) (de_one (de_isi1 cx .tup rfl nm.b_isinstance (de_v rfl rfl) rfl nm.b_tuple (by decide +kernel)))) (dl_cons (de_and (de_isi1 cx .lst rfl nm.b_isinstance (de_v rfl rfl) rfl nm.b_list (by decide +kernel)) (de_one (de_isi1 cx .lst rfl nm.b_isinstance (de_v rfl rfl) rfl nm.b_list (by decide +kernel)))) dl_nil))))
  (dss_cons (ds_if (dt_w (dw_or (dt_cmp (opD_notIn cx) de_bl (de_v rfl rfl) (by rfl)) (dw_or1 (dt_cmp (opD_ne cx) (de_callB (callD_len cx) rfl nm.b_len (by decide +kernel) (da_cons (de_v rfl rfl) da_nil)) (de_callB (callD_len cx) rfl nm.b_len (by decide +kernel) (da_cons (de_v rfl rfl) da_nil)) (by rfl))))) (dss_one (ds_ret de_bl)) dss_nil)
  (dss_one (ds_expr (de_extend cx (de_v rfl rfl) (de_lc cx (di_zip cx rfl nm.b_zip (dl_cons (de_v rfl rfl) (dl_cons (de_v rfl rfl) dl_nil))) (blkOk_by (own := [("left", 7), ("right", 8)]) (by rfl)) (fun _ h => h) (hg2 cx rfl (fun _ _ => rfl) rfl (fun _ _ => rfl)) (fun s1 H1 Ca1 cl1 fp1 Cb1 cx1 hK1 hT1 => dts_nil) (fun s1 H1 Ca1 cl1 fp1 Cb1 cx1 hK1 hT1 => (de_tup (dl_cons (de_v rfl rfl) (dl_cons (de_v rfl rfl) dl_nil))))))))))))))))))
  (dss_one (ds_ret de_bl))))
theorem sc__law_q : FnScope N__law_q ps__law_q (defScope (tp 41)) := ⟨rfl, rfl, rfl, by decide +kernel, rfl, by decide +kernel, by decide +kernel⟩
theorem con__law_q [WW] {P : Program} {w : World} {K : PySem.W.Frag} {T : List (Addr × Str)} {mg : Str → Option Value} {base : Heap} (hw : w = WW.w) (nm : Nm K mg) 
    (law : ∀ ds st Qd Ed, ds.length = ps__law_q.length → sp__law_q ds st Qd Ed → t__law_q (fun x _ st' => Ed x st') { nx := fun _ st' => Qd .non st', rt := Qd } (startD N__law_q ds) st) : Con P w K T mg base "_law_q" (defArgs (tp 41)) (defBody (tp 41)) (defScope (tp 41)) ps__law_q 1 sp__law_q := by
  obtain ⟨fd, F⟩ := nm.f__law_q
  refine ⟨⟨_, fd, nm.g__law_q, F, FnD.mk hw F sc__law_q (fun cd A outer s H E C hr cx hK hT hc => ?_) law⟩, by intro kV doc pm an cdv ct us hl; match us, hl with | [a, b], _ => rfl⟩
  have hp : PassesOwn (model (cxD P w K mg base N__law_q "_law_q" (defScope (tp 41)) (He.ga K "_law_q") cd A outer s H E).prog (cxD P w K mg base N__law_q "_law_q" (defScope (tp 41)) (He.ga K "_law_q") cd A outer s H E).w) (cxD P w K mg base N__law_q "_law_q" (defScope (tp 41)) (He.ga K "_law_q") cd A outer s H E).A (cxD P w K mg base N__law_q "_law_q" (defScope (tp 41)) (He.ga K "_law_q") cd A outer s H E).env (cxD P w K mg base N__law_q "_law_q" (defScope (tp 41)) (He.ga K "_law_q") cd A outer s H E).xe := passes_of rfl
  exact (dss_cons (ds_par2 cx rfl rfl (by decide) rfl rfl (els_v (fun C1 cx1 hK1 hT1 => (de_callB callD_abs rfl nm.b_abs (by decide +kernel) (da_cons (de_v rfl rfl) da_nil))) (els_v (fun C1 cx1 hK1 hT1 => (de_callB callD_abs rfl nm.b_abs (by decide +kernel) (da_cons (de_v rfl rfl) da_nil))) els_nil)))
  (dss_cons (ds_while hp (dt_cmp opD_gt (de_v rfl rfl) de_int (by rfl)) (dss_one (ds_par2 cx rfl rfl (by decide) rfl rfl (els_v (fun C1 cx1 hK1 hT1 => (de_v rfl rfl)) (els_v (fun C1 cx1 hK1 hT1 => (de_binop opD_mod (de_callTy callD_int rfl nm.b_int (by decide +kernel) (da_cons (de_v rfl rfl) da_nil)) (de_v rfl rfl))) els_nil)))))
  (dss_one (ds_ret (de_if (dt_cmp opD_gt (de_v rfl rfl) de_int (by rfl)) (de_tup (dl_cons (de_binop opD_div (de_v rfl rfl) (de_v rfl rfl)) (dl_cons (de_binop opD_div (de_v rfl rfl) (de_v rfl rfl)) dl_nil))) (de_tup (dl_cons (de_binop opD_div (de_unop unD_neg (de_v rfl rfl)) (de_v rfl rfl)) (dl_cons (de_binop opD_div (de_unop unD_neg (de_v rfl rfl)) (de_v rfl rfl)) dl_nil))))))))
theorem sc__law_plus : FnScope N__law_plus ps__law_plus (defScope (tp 42)) := ⟨rfl, rfl, rfl, by decide +kernel, rfl, by decide +kernel, by decide +kernel⟩
theorem con__law_plus [WW] {P : Program} {w : World} {K : PySem.W.Frag} {T : List (Addr × Str)} {mg : Str → Option Value} {base : Heap} (hw : w = WW.w) (nm : Nm K mg) (c__law_q : Con P w K T mg base "_law_q" (defArgs (tp 41)) (defBody (tp 41)) (defScope (tp 41)) ps__law_q 1 sp__law_q)
    (law : ∀ ds st Qd Ed, ds.length = ps__law_plus.length → sp__law_plus ds st Qd Ed → t__law_plus (fun x _ st' => Ed x st') { nx := fun _ st' => Qd .non st', rt := Qd } (startD N__law_plus ds) st) : Con P w K T mg base "_law_plus" (defArgs (tp 42)) (defBody (tp 42)) (defScope (tp 42)) ps__law_plus 2 sp__law_plus := by
  obtain ⟨fd, F⟩ := nm.f__law_plus
  refine ⟨⟨_, fd, nm.g__law_plus, F, FnD.mk hw F sc__law_plus (fun cd A outer s H E C hr cx hK hT hc => ?_) law⟩, by intro kV doc pm an cdv ct us hl; match us, hl with | [a, b], _ => rfl⟩
  have hp : PassesOwn (model (cxD P w K mg base N__law_plus "_law_plus" (defScope (tp 42)) (He.ga K "_law_plus") cd A outer s H E).prog (cxD P w K mg base N__law_plus "_law_plus" (defScope (tp 42)) (He.ga K "_law_plus") cd A outer s H E).w) (cxD P w K mg base N__law_plus "_law_plus" (defScope (tp 42)) (He.ga K "_law_plus") cd A outer s H E).A (cxD P w K mg base N__law_plus "_law_plus" (defScope (tp 42)) (He.ga K "_law_plus") cd A outer s H E).env (cxD P w K mg base N__law_plus "_law_plus" (defScope (tp 42)) (He.ga K "_law_plus") cd A outer s H E).xe := passes_of rfl
  exact (dss_one (ds_ret (de_con cx hK hT c__law_q (hr.mono (by decide)) rfl (dl_cons (de_binop (opD_add cx) (de_binop (opD_mul cx) (de_ix (ixD_ok cx) (de_v rfl rfl) de_int (fun _ _ => rfl)) (de_ix (ixD_ok cx) (de_v rfl rfl) de_int (fun _ _ => rfl))) (de_binop (opD_mul cx) (de_ix (ixD_ok cx) (de_v rfl rfl) de_int (fun _ _ => rfl)) (de_ix (ixD_ok cx) (de_v rfl rfl) de_int (fun _ _ => rfl)))) (dl_cons (de_binop (opD_mul cx) (de_ix (ixD_ok cx) (de_v rfl rfl) de_int (fun _ _ => rfl)) (de_ix (ixD_ok cx) (de_v rfl rfl) de_int (fun _ _ => rfl))) dl_nil)))))
theorem sc__law_minus : FnScope N__law_minus ps__law_minus (defScope (tp 43)) := ⟨rfl, rfl, rfl, by decide +kernel, rfl, by decide +kernel, by decide +kernel⟩
theorem con__law_minus [WW] {P : Program} {w : World} {K : PySem.W.Frag} {T : List (Addr × Str)} {mg : Str → Option Value} {base : Heap} (hw : w = WW.w) (nm : Nm K mg) (c__law_q : Con P w K T mg base "_law_q" (defArgs (tp 41)) (defBody (tp 41)) (defScope (tp 41)) ps__law_q 1 sp__law_q)
    (law : ∀ ds st Qd Ed, ds.length = ps__law_minus.length → sp__law_minus ds st Qd Ed → t__law_minus (fun x _ st' => Ed x st') { nx := fun _ st' => Qd .non st', rt := Qd } (startD N__law_minus ds) st) : Con P w K T mg base "_law_minus" (defArgs (tp 43)) (defBody (tp 43)) (defScope (tp 43)) ps__law_minus 2 sp__law_minus := by
  obtain ⟨fd, F⟩ := nm.f__law_minus
  refine ⟨⟨_, fd, nm.g__law_minus, F, FnD.mk hw F sc__law_minus (fun cd A outer s H E C hr cx hK hT hc => ?_) law⟩, by intro kV doc pm an cdv ct us hl; match us, hl with | [a, b], _ => rfl⟩
  have hp : PassesOwn (model (cxD P w K mg base N__law_minus "_law_minus" (defScope (tp 43)) (He.ga K "_law_minus") cd A outer s H E).prog (cxD P w K mg base N__law_minus "_law_minus" (defScope (tp 43)) (He.ga K "_law_minus") cd A outer s H E).w) (cxD P w K mg base N__law_minus "_law_minus" (defScope (tp 43)) (He.ga K "_law_minus") cd A outer s H E).A (cxD P w K mg base N__law_minus "_law_minus" (defScope (tp 43)) (He.ga K "_law_minus") cd A outer s H E).env (cxD P w K mg base N__law_minus "_law_minus" (defScope (tp 43)) (He.ga K "_law_minus") cd A outer s H E).xe := passes_of rfl
  exact (dss_one (ds_ret (de_con cx hK hT c__law_q (hr.mono (by decide)) rfl (dl_cons (de_binop opD_sub (de_binop (opD_mul cx) (de_ix (ixD_ok cx) (de_v rfl rfl) de_int (fun _ _ => rfl)) (de_ix (ixD_ok cx) (de_v rfl rfl) de_int (fun _ _ => rfl))) (de_binop (opD_mul cx) (de_ix (ixD_ok cx) (de_v rfl rfl) de_int (fun _ _ => rfl)) (de_ix (ixD_ok cx) (de_v rfl rfl) de_int (fun _ _ => rfl)))) (dl_cons (de_binop (opD_mul cx) (de_ix (ixD_ok cx) (de_v rfl rfl) de_int (fun _ _ => rfl)) (de_ix (ixD_ok cx) (de_v rfl rfl) de_int (fun _ _ => rfl))) dl_nil)))))
theorem sc__law_times : FnScope N__law_times ps__law_times (defScope (tp 44)) := ⟨rfl, rfl, rfl, by decide +kernel, rfl, by decide +kernel, by decide +kernel⟩
theorem con__law_times [WW] {P : Program} {w : World} {K : PySem.W.Frag} {T : List (Addr × Str)} {mg : Str → Option Value} {base : Heap} (hw : w = WW.w) (nm : Nm K mg) (c__law_q : Con P w K T mg base "_law_q" (defArgs (tp 41)) (defBody (tp 41)) (defScope (tp 41)) ps__law_q 1 sp__law_q)
    (law : ∀ ds st Qd Ed, ds.length = ps__law_times.length → sp__law_times ds st Qd Ed → t__law_times (fun x _ st' => Ed x st') { nx := fun _ st' => Qd .non st', rt := Qd } (startD N__law_times ds) st) : Con P w K T mg base "_law_times" (defArgs (tp 44)) (defBody (tp 44)) (defScope (tp 44)) ps__law_times 2 sp__law_times := by
  obtain ⟨fd, F⟩ := nm.f__law_times
  refine ⟨⟨_, fd, nm.g__law_times, F, FnD.mk hw F sc__law_times (fun cd A outer s H E C hr cx hK hT hc => ?_) law⟩, by intro kV doc pm an cdv ct us hl; match us, hl with | [a, b], _ => rfl⟩
  have hp : PassesOwn (model (cxD P w K mg base N__law_times "_law_times" (defScope (tp 44)) (He.ga K "_law_times") cd A outer s H E).prog (cxD P w K mg base N__law_times "_law_times" (defScope (tp 44)) (He.ga K "_law_times") cd A outer s H E).w) (cxD P w K mg base N__law_times "_law_times" (defScope (tp 44)) (He.ga K "_law_times") cd A outer s H E).A (cxD P w K mg base N__law_times "_law_times" (defScope (tp 44)) (He.ga K "_law_times") cd A outer s H E).env (cxD P w K mg base N__law_times "_law_times" (defScope (tp 44)) (He.ga K "_law_times") cd A outer s H E).xe := passes_of rfl
  exact (dss_one (ds_ret (de_con cx hK hT c__law_q (hr.mono (by decide)) rfl (dl_cons (de_binop (opD_mul cx) (de_ix (ixD_ok cx) (de_v rfl rfl) de_int (fun _ _ => rfl)) (de_ix (ixD_ok cx) (de_v rfl rfl) de_int (fun _ _ => rfl))) (dl_cons (de_binop (opD_mul cx) (de_ix (ixD_ok cx) (de_v rfl rfl) de_int (fun _ _ => rfl)) (de_ix (ixD_ok cx) (de_v rfl rfl) de_int (fun _ _ => rfl))) dl_nil)))))
theorem sc__law_less : FnScope N__law_less ps__law_less (defScope (tp 45)) := ⟨rfl, rfl, rfl, by decide +kernel, rfl, by decide +kernel, by decide +kernel⟩
theorem con__law_less [WW] {P : Program} {w : World} {K : PySem.W.Frag} {T : List (Addr × Str)} {mg : Str → Option Value} {base : Heap} (hw : w = WW.w) (nm : Nm K mg) 
    (law : ∀ ds st Qd Ed, ds.length = ps__law_less.length → sp__law_less ds st Qd Ed → t__law_less (fun x _ st' => Ed x st') { nx := fun _ st' => Qd .non st', rt := Qd } (startD N__law_less ds) st) : Con P w K T mg base "_law_less" (defArgs (tp 45)) (defBody (tp 45)) (defScope (tp 45)) ps__law_less 1 sp__law_less := by
  obtain ⟨fd, F⟩ := nm.f__law_less
  refine ⟨⟨_, fd, nm.g__law_less, F, FnD.mk hw F sc__law_less (fun cd A outer s H E C hr cx hK hT hc => ?_) law⟩, by intro kV doc pm an cdv ct us hl; match us, hl with | [a, b], _ => rfl⟩
  have hp : PassesOwn (model (cxD P w K mg base N__law_less "_law_less" (defScope (tp 45)) (He.ga K "_law_less") cd A outer s H E).prog (cxD P w K mg base N__law_less "_law_less" (defScope (tp 45)) (He.ga K "_law_less") cd A outer s H E).w) (cxD P w K mg base N__law_less "_law_less" (defScope (tp 45)) (He.ga K "_law_less") cd A outer s H E).A (cxD P w K mg base N__law_less "_law_less" (defScope (tp 45)) (He.ga K "_law_less") cd A outer s H E).env (cxD P w K mg base N__law_less "_law_less" (defScope (tp 45)) (He.ga K "_law_less") cd A outer s H E).xe := passes_of rfl
  exact (dss_one (ds_ret (de_cmp opD_lt (de_binop (opD_mul cx) (de_ix (ixD_ok cx) (de_v rfl rfl) de_int (fun _ _ => rfl)) (de_ix (ixD_ok cx) (de_v rfl rfl) de_int (fun _ _ => rfl))) (de_binop (opD_mul cx) (de_ix (ixD_ok cx) (de_v rfl rfl) de_int (fun _ _ => rfl)) (de_ix (ixD_ok cx) (de_v rfl rfl) de_int (fun _ _ => rfl))) (by rfl))))
theorem sc__law_ct_lots : FnScope N__law_ct_lots ps__law_ct_lots (defScope (tp 46)) := ⟨rfl, rfl, rfl, by decide +kernel, rfl, by decide +kernel, by decide +kernel⟩
theorem con__law_ct_lots [WW] {P : Program} {w : World} {K : PySem.W.Frag} {T : List (Addr × Str)} {mg : Str → Option Value} {base : Heap} (hw : w = WW.w) (nm : Nm K mg) 
    (law : ∀ ds st Qd Ed, ds.length = ps__law_ct_lots.length → sp__law_ct_lots ds st Qd Ed → t__law_ct_lots (fun x _ st' => Ed x st') { nx := fun _ st' => Qd .non st', rt := Qd } (startD N__law_ct_lots ds) st) : Con P w K T mg base "_law_ct_lots" (defArgs (tp 46)) (defBody (tp 46)) (defScope (tp 46)) ps__law_ct_lots 1 sp__law_ct_lots := by
  obtain ⟨fd, F⟩ := nm.f__law_ct_lots
  refine ⟨⟨_, fd, nm.g__law_ct_lots, F, FnD.mk hw F sc__law_ct_lots (fun cd A outer s H E C hr cx hK hT hc => ?_) law⟩, by intro kV doc pm an cdv ct us hl; match us, hl with | [a], _ => rfl⟩
  have hp : PassesOwn (model (cxD P w K mg base N__law_ct_lots "_law_ct_lots" (defScope (tp 46)) (He.ga K "_law_ct_lots") cd A outer s H E).prog (cxD P w K mg base N__law_ct_lots "_law_ct_lots" (defScope (tp 46)) (He.ga K "_law_ct_lots") cd A outer s H E).w) (cxD P w K mg base N__law_ct_lots "_law_ct_lots" (defScope (tp 46)) (He.ga K "_law_ct_lots") cd A outer s H E).A (cxD P w K mg base N__law_ct_lots "_law_ct_lots" (defScope (tp 46)) (He.ga K "_law_ct_lots") cd A outer s H E).env (cxD P w K mg base N__law_ct_lots "_law_ct_lots" (defScope (tp 46)) (He.ga K "_law_ct_lots") cd A outer s H E).xe := passes_of rfl
  exact (dss_cons (ds_set cx rfl (loc_of rfl) (de_lst (dl_cons (de_tup dl_nil) dl_nil)))
  (dss_cons (ds_for cx hp (di_range1 rfl nm.b_range (de_v rfl rfl)) (dg_v cx rfl rfl) (dss_one (ds_set cx rfl (loc_of rfl) (de_binop (opD_add cx) (de_v rfl rfl) (de_lc cx (di_any cx (de_v rfl rfl)) (blkOk_by (own := [("lot", 3)]) (by rfl)) List.mem_cons_self (hg1 cx rfl (fun _ _ => rfl)) (fun s1 H1 Ca1 cl1 fp1 Cb1 cx1 hK1 hT1 => dts_nil) (fun s1 H1 Ca1 cl1 fp1 Cb1 cx1 hK1 hT1 => (de_binop (opD_add cx1) (de_v rfl rfl) (de_tup (dl_cons (de_v rfl rfl) dl_nil)))))))))
  (dss_one (ds_ret (de_slice cx (de_callB (callD_sorted cx) rfl nm.b_sorted (by decide +kernel) (da_cons (de_v rfl rfl) da_nil)) (dpo_some de_int) dpo_none)))))
theorem sc__law_ct_shares : FnScope N__law_ct_shares ps__law_ct_shares (defScope (tp 47)) := ⟨rfl, rfl, rfl, by decide +kernel, rfl, by decide +kernel, by decide +kernel⟩
theorem con__law_ct_shares [WW] {P : Program} {w : World} {K : PySem.W.Frag} {T : List (Addr × Str)} {mg : Str → Option Value} {base : Heap} (hw : w = WW.w) (nm : Nm K mg) (c__law_draw : Con P w K T mg base "_law_draw" (defArgs (tp 36)) (defBody (tp 36)) (defScope (tp 36)) ps__law_draw 2 sp__law_draw) (c__law_q : Con P w K T mg base "_law_q" (defArgs (tp 41)) (defBody (tp 41)) (defScope (tp 41)) ps__law_q 1 sp__law_q) (c__law_pick : Con P w K T mg base "_law_pick" (defArgs (tp 37)) (defBody (tp 37)) (defScope (tp 37)) ps__law_pick 3 sp__law_pick) (c__law_ct_lots : Con P w K T mg base "_law_ct_lots" (defArgs (tp 46)) (defBody (tp 46)) (defScope (tp 46)) ps__law_ct_lots 1 sp__law_ct_lots) (c__law_times : Con P w K T mg base "_law_times" (defArgs (tp 44)) (defBody (tp 44)) (defScope (tp 44)) ps__law_times 2 sp__law_times)
    (law : ∀ ds st Qd Ed, ds.length = ps__law_ct_shares.length → sp__law_ct_shares ds st Qd Ed → t__law_ct_shares (fun x _ st' => Ed x st') { nx := fun _ st' => Qd .non st', rt := Qd } (startD N__law_ct_shares ds) st) : Con P w K T mg base "_law_ct_shares" (defArgs (tp 47)) (defBody (tp 47)) (defScope (tp 47)) ps__law_ct_shares 4 sp__law_ct_shares := by
  obtain ⟨fd, F⟩ := nm.f__law_ct_shares
  refine ⟨⟨_, fd, nm.g__law_ct_shares, F, FnD.mk hw F sc__law_ct_shares (fun cd A outer s H E C hr cx hK hT hc => ?_) law⟩, by intro kV doc pm an cdv ct us hl; match us, hl with | [a, b], _ => rfl⟩
  have hp : PassesOwn (model (cxD P w K mg base N__law_ct_shares "_law_ct_shares" (defScope (tp 47)) (He.ga K "_law_ct_shares") cd A outer s H E).prog (cxD P w K mg base N__law_ct_shares "_law_ct_shares" (defScope (tp 47)) (He.ga K "_law_ct_shares") cd A outer s H E).w) (cxD P w K mg base N__law_ct_shares "_law_ct_shares" (defScope (tp 47)) (He.ga K "_law_ct_shares") cd A outer s H E).A (cxD P w K mg base N__law_ct_shares "_law_ct_shares" (defScope (tp 47)) (He.ga K "_law_ct_shares") cd A outer s H E).env (cxD P w K mg base N__law_ct_shares "_law_ct_shares" (defScope (tp 47)) (He.ga K "_law_ct_shares") cd A outer s H E).xe := passes_of rfl
  exact (dss_cons (ds_parT cx (els_v (fun C1 cx1 hK1 hT1 => (de_con cx1 (hK1.trans hK) (hT1.trans hT) c__law_draw (hr.mono (by decide)) rfl (dl_cons (de_v rfl rfl) (dl_cons de_int dl_nil)))) (els_w (fun C1 cx1 hK1 hT1 => dnw_dictT) (els_v (fun C1 cx1 hK1 hT1 => (de_rev cx1 (de_callB (callD_sorted cx1) rfl nm.b_sorted (by decide +kernel) (da_cons (de_lc cx1 (di_range1 rfl nm.b_range (de_v rfl rfl)) (blkOk_by (own := [("lap", 8)]) (by rfl)) List.mem_cons_self (hg1 cx1 rfl (fun _ _ => rfl)) (fun s2 H2 Ca2 cl2 fp2 Cb2 cx2 hK2 hT2 => dts_nil) (fun s2 H2 Ca2 cl2 fp2 Cb2 cx2 hK2 hT2 => (de_binop (opD_add cx2) de_int (de_con cx2 (hK2.trans (hK1.trans hK)) (hT2.trans (hT1.trans hT)) c__law_draw (hr.mono (by decide)) rfl (dl_cons (de_v rfl rfl) (dl_cons de_int dl_nil)))))) da_nil)))) els_nil))) (pgs_v cx rfl rfl (pgs_v cx rfl rfl (pgs_v cx rfl rfl pgs_0))))
  (dss_cons (ds_set cx rfl (loc_of rfl) (de_lc cx (di_range1 rfl nm.b_range (de_v rfl rfl)) (blkOk_by (own := [("person", 9)]) (by rfl)) List.mem_cons_self (hg1 cx rfl (fun _ _ => rfl)) (fun s1 H1 Ca1 cl1 fp1 Cb1 cx1 hK1 hT1 => dts_nil) (fun s1 H1 Ca1 cl1 fp1 Cb1 cx1 hK1 hT1 => (de_con cx1 (hK1.trans hK) (hT1.trans hT) c__law_q (hr.mono (by decide)) rfl (dl_cons (de_binop (opD_add cx1) de_int (de_con cx1 (hK1.trans hK) (hT1.trans hT) c__law_draw (hr.mono (by decide)) rfl (dl_cons (de_v rfl rfl) (dl_cons de_int dl_nil)))) (dl_cons (de_con cx1 (hK1.trans hK) (hT1.trans hT) c__law_pick (hr.mono (by decide)) rfl (dl_cons (de_v rfl rfl) (dl_cons (de_lst (dl_cons de_int (dl_cons de_int dl_nil))) dl_nil))) dl_nil))))))
  (dss_cons (ds_for cx hp (di_any cx (de_con cx hK hT c__law_ct_lots (hr.mono (by decide)) rfl (dl_cons (de_v rfl rfl) dl_nil))) (dg_v cx rfl rfl) (dss_one (ds_if (dt_cmp (opD_eq cx) (de_v rfl rfl) de_int (by rfl)) (dss_one (ds_put cx (de_callTy (callD_tuple cx) rfl nm.b_tuple (by decide +kernel) (da_cons (de_lc cx (di_any cx (de_v rfl rfl)) (blkOk_by (own := [("person", 9)]) (by rfl)) List.mem_cons_self (hg1 cx rfl (fun _ _ => rfl)) (fun s1 H1 Ca1 cl1 fp1 Cb1 cx1 hK1 hT1 => dts_nil) (fun s1 H1 Ca1 cl1 fp1 Cb1 cx1 hK1 hT1 => (de_con cx1 (hK1.trans hK) (hT1.trans hT) c__law_q (hr.mono (by decide)) rfl (dl_cons (de_con cx1 (hK1.trans hK) (hT1.trans hT) c__law_draw (hr.mono (by decide)) rfl (dl_cons (de_v rfl rfl) (dl_cons de_int dl_nil))) (dl_cons (de_con cx1 (hK1.trans hK) (hT1.trans hT) c__law_pick (hr.mono (by decide)) rfl (dl_cons (de_v rfl rfl) (dl_cons (de_lst (dl_cons de_int (dl_cons de_int (dl_cons de_int dl_nil)))) dl_nil))) dl_nil))))) da_nil)) (de_v rfl rfl) (de_v rfl rfl))) (dss_one (ds_put cx (de_callTy (callD_tuple cx) rfl nm.b_tuple (by decide +kernel) (da_cons (de_lc cx (di_any cx (de_v rfl rfl)) (blkOk_by (own := [("person", 9)]) (by rfl)) List.mem_cons_self (hg1 cx rfl (fun _ _ => rfl)) (fun s1 H1 Ca1 cl1 fp1 Cb1 cx1 hK1 hT1 => dts_nil) (fun s1 H1 Ca1 cl1 fp1 Cb1 cx1 hK1 hT1 => (de_con cx1 (hK1.trans hK) (hT1.trans hT) c__law_times (hr.mono (by decide)) rfl (dl_cons (de_ix (ixD_ok cx1) (de_v rfl rfl) (de_v rfl rfl) (fun _ _ => rfl)) (dl_cons (de_tup (dl_cons (de_ix (ixD_ok cx1) (de_v rfl rfl) (de_binop opD_sub (de_callB (callD_len cx1) rfl nm.b_len (by decide +kernel) (da_cons (de_v rfl rfl) da_nil)) de_int) (fun _ _ => rfl)) (dl_cons de_int dl_nil))) dl_nil))))) da_nil)) (de_v rfl rfl) (de_v rfl rfl))))))
  (dss_cons (ds_if (dt_cmp (opD_eq cx) (de_v rfl rfl) de_int (by rfl)) (dss_cons (ds_set cx rfl (loc_of rfl) (de_con cx hK hT c__law_pick (hr.mono (by decide)) rfl (dl_cons (de_v rfl rfl) (dl_cons (de_con cx hK hT c__law_ct_lots (hr.mono (by decide)) rfl (dl_cons (de_v rfl rfl) dl_nil)) dl_nil))))
  (dss_cons (ds_set cx rfl (loc_of rfl) (de_con cx hK hT c__law_draw (hr.mono (by decide)) rfl (dl_cons (de_v rfl rfl) (dl_cons (de_callB (callD_len cx) rfl nm.b_len (by decide +kernel) (da_cons (de_v rfl rfl) da_nil)) dl_nil))))
  (dss_one (ds_put cx (de_binop (opD_add cx) (de_binop (opD_add cx) (de_slice cx (de_ix (ixD_ok cx) (de_v rfl rfl) (de_v rfl rfl) (fun _ _ => rfl)) dpo_none (dpo_some (de_v rfl rfl))) (de_tup (dl_cons (de_con cx hK hT c__law_q (hr.mono (by decide)) rfl (dl_cons (de_con cx hK hT c__law_draw (hr.mono (by decide)) rfl (dl_cons (de_v rfl rfl) (dl_cons de_int dl_nil))) (dl_cons de_int dl_nil))) dl_nil))) (de_slice cx (de_ix (ixD_ok cx) (de_v rfl rfl) (de_v rfl rfl) (fun _ _ => rfl)) (dpo_some (de_binop (opD_add cx) (de_v rfl rfl) de_int)) dpo_none)) (de_v rfl rfl) (de_v rfl rfl))))) dss_nil)
  (dss_one (ds_ret (de_v rfl rfl)))))))
theorem sc__law_ct_share : FnScope N__law_ct_share ps__law_ct_share (defScope (tp 48)) := ⟨rfl, rfl, rfl, by decide +kernel, rfl, by decide +kernel, by decide +kernel⟩
theorem con__law_ct_share [WW] {P : Program} {w : World} {K : PySem.W.Frag} {T : List (Addr × Str)} {mg : Str → Option Value} {base : Heap} (hw : w = WW.w) (nm : Nm K mg) 
    (law : ∀ ds st Qd Ed, ds.length = ps__law_ct_share.length → sp__law_ct_share ds st Qd Ed → t__law_ct_share (fun x _ st' => Ed x st') { nx := fun _ st' => Qd .non st', rt := Qd } (startD N__law_ct_share ds) st) : Con P w K T mg base "_law_ct_share" (defArgs (tp 48)) (defBody (tp 48)) (defScope (tp 48)) ps__law_ct_share 1 sp__law_ct_share := by
  obtain ⟨fd, F⟩ := nm.f__law_ct_share
  refine ⟨⟨_, fd, nm.g__law_ct_share, F, FnD.mk hw F sc__law_ct_share (fun cd A outer s H E C hr cx hK hT hc => ?_) law⟩, by intro kV doc pm an cdv ct us hl; match us, hl with | [a, b, c], _ => rfl⟩
  have hp : PassesOwn (model (cxD P w K mg base N__law_ct_share "_law_ct_share" (defScope (tp 48)) (He.ga K "_law_ct_share") cd A outer s H E).prog (cxD P w K mg base N__law_ct_share "_law_ct_share" (defScope (tp 48)) (He.ga K "_law_ct_share") cd A outer s H E).w) (cxD P w K mg base N__law_ct_share "_law_ct_share" (defScope (tp 48)) (He.ga K "_law_ct_share") cd A outer s H E).A (cxD P w K mg base N__law_ct_share "_law_ct_share" (defScope (tp 48)) (He.ga K "_law_ct_share") cd A outer s H E).env (cxD P w K mg base N__law_ct_share "_law_ct_share" (defScope (tp 48)) (He.ga K "_law_ct_share") cd A outer s H E).xe := passes_of rfl
  exact (dss_one (ds_ret (de_ix (ixD_ok cx) (de_ix (ixD_ok cx) (de_v rfl rfl) (de_v rfl rfl) (fun _ _ => rfl)) (de_indexT cx (de_v rfl rfl) (de_v rfl rfl)) (fun _ _ => rfl))))
theorem sc__law_ct_rise : FnScope N__law_ct_rise ps__law_ct_rise (defScope (tp 49)) := ⟨rfl, rfl, rfl, by decide +kernel, rfl, by decide +kernel, by decide +kernel⟩
theorem con__law_ct_rise [WW] {P : Program} {w : World} {K : PySem.W.Frag} {T : List (Addr × Str)} {mg : Str → Option Value} {base : Heap} (hw : w = WW.w) (nm : Nm K mg) (c__law_ct_lots : Con P w K T mg base "_law_ct_lots" (defArgs (tp 46)) (defBody (tp 46)) (defScope (tp 46)) ps__law_ct_lots 1 sp__law_ct_lots) (c__law_less : Con P w K T mg base "_law_less" (defArgs (tp 45)) (defBody (tp 45)) (defScope (tp 45)) ps__law_less 1 sp__law_less) (c__law_ct_share : Con P w K T mg base "_law_ct_share" (defArgs (tp 48)) (defBody (tp 48)) (defScope (tp 48)) ps__law_ct_share 1 sp__law_ct_share)
    (law : ∀ ds st Qd Ed, ds.length = ps__law_ct_rise.length → sp__law_ct_rise ds st Qd Ed → t__law_ct_rise (fun x _ st' => Ed x st') { nx := fun _ st' => Qd .non st', rt := Qd } (startD N__law_ct_rise ds) st) : Con P w K T mg base "_law_ct_rise" (defArgs (tp 49)) (defBody (tp 49)) (defScope (tp 49)) ps__law_ct_rise 2 sp__law_ct_rise := by
  obtain ⟨fd, F⟩ := nm.f__law_ct_rise
  refine ⟨⟨_, fd, nm.g__law_ct_rise, F, FnD.mk hw F sc__law_ct_rise (fun cd A outer s H E C hr cx hK hT hc => ?_) law⟩, by intro kV doc pm an cdv ct us hl; match us, hl with | [a, b], _ => rfl⟩
  have hp : PassesOwn (model (cxD P w K mg base N__law_ct_rise "_law_ct_rise" (defScope (tp 49)) (He.ga K "_law_ct_rise") cd A outer s H E).prog (cxD P w K mg base N__law_ct_rise "_law_ct_rise" (defScope (tp 49)) (He.ga K "_law_ct_rise") cd A outer s H E).w) (cxD P w K mg base N__law_ct_rise "_law_ct_rise" (defScope (tp 49)) (He.ga K "_law_ct_rise") cd A outer s H E).A (cxD P w K mg base N__law_ct_rise "_law_ct_rise" (defScope (tp 49)) (He.ga K "_law_ct_rise") cd A outer s H E).env (cxD P w K mg base N__law_ct_rise "_law_ct_rise" (defScope (tp 49)) (He.ga K "_law_ct_rise") cd A outer s H E).xe := passes_of rfl
  exact (dss_cons (ds_for cx hp (di_any cx (de_con cx hK hT c__law_ct_lots (hr.mono (by decide)) rfl (dl_cons (de_v rfl rfl) dl_nil))) (dg_v cx rfl rfl) (dss_one (ds_for cx hp (di_any cx (de_con cx hK hT c__law_ct_lots (hr.mono (by decide)) rfl (dl_cons (de_v rfl rfl) dl_nil))) (dg_v cx rfl rfl) (dss_one (ds_if (dt_w (dw_and (dt_cmp (opD_ne cx) (de_v rfl rfl) (de_v rfl rfl) (by rfl)) (dw_and1 (dt_cmp (opD_eq cx) (de_lc cx (di_any cx (de_v rfl rfl)) (blkOk_by (own := [("person", 4)]) (by rfl)) List.mem_cons_self (hg1 cx rfl (fun _ _ => rfl)) (fun s1 H1 Ca1 cl1 fp1 Cb1 cx1 hK1 hT1 => (dts_one (dt_cmp (opD_notIn cx1) (de_v rfl rfl) (de_v rfl rfl) (by rfl)))) (fun s1 H1 Ca1 cl1 fp1 Cb1 cx1 hK1 hT1 => de_int)) (de_lst dl_nil) (by rfl))))) (dss_one (ds_for cx hp (di_any cx (de_v rfl rfl)) (dg_v cx rfl rfl) (dss_one (ds_if (dt_val (de_con cx hK hT c__law_less (hr.mono (by decide)) rfl (dl_cons (de_con cx hK hT c__law_ct_share (hr.mono (by decide)) rfl (dl_cons (de_v rfl rfl) (dl_cons (de_v rfl rfl) (dl_cons (de_v rfl rfl) dl_nil)))) (dl_cons (de_con cx hK hT c__law_ct_share (hr.mono (by decide)) rfl (dl_cons (de_v rfl rfl) (dl_cons (de_v rfl rfl) (dl_cons (de_v rfl rfl) dl_nil)))) dl_nil)))) (dss_one (ds_ret (de_tup (dl_cons (de_v rfl rfl) (dl_cons (de_v rfl rfl) (dl_cons (de_v rfl rfl) dl_nil)))))) dss_nil)))) dss_nil)))))
  (dss_one (ds_ret de_non)))
theorem sc__law_ct_served : FnScope N__law_ct_served ps__law_ct_served (defScope (tp 50)) := ⟨rfl, rfl, rfl, by decide +kernel, rfl, by decide +kernel, by decide +kernel⟩
theorem con__law_ct_served [WW] {P : Program} {w : World} {K : PySem.W.Frag} {T : List (Addr × Str)} {mg : Str → Option Value} {base : Heap} (hw : w = WW.w) (nm : Nm K mg) (c__law_less : Con P w K T mg base "_law_less" (defArgs (tp 45)) (defBody (tp 45)) (defScope (tp 45)) ps__law_less 1 sp__law_less) (c__law_ct_share : Con P w K T mg base "_law_ct_share" (defArgs (tp 48)) (defBody (tp 48)) (defScope (tp 48)) ps__law_ct_share 1 sp__law_ct_share)
    (law : ∀ ds st Qd Ed, ds.length = ps__law_ct_served.length → sp__law_ct_served ds st Qd Ed → t__law_ct_served (fun x _ st' => Ed x st') { nx := fun _ st' => Qd .non st', rt := Qd } (startD N__law_ct_served ds) st) : Con P w K T mg base "_law_ct_served" (defArgs (tp 50)) (defBody (tp 50)) (defScope (tp 50)) ps__law_ct_served 2 sp__law_ct_served := by
  obtain ⟨fd, F⟩ := nm.f__law_ct_served
  refine ⟨⟨_, fd, nm.g__law_ct_served, F, FnD.mk hw F sc__law_ct_served (fun cd A outer s H E C hr cx hK hT hc => ?_) law⟩, by intro kV doc pm an cdv ct us hl; match us, hl with | [a, b, c], _ => rfl⟩
  have hp : PassesOwn (model (cxD P w K mg base N__law_ct_served "_law_ct_served" (defScope (tp 50)) (He.ga K "_law_ct_served") cd A outer s H E).prog (cxD P w K mg base N__law_ct_served "_law_ct_served" (defScope (tp 50)) (He.ga K "_law_ct_served") cd A outer s H E).w) (cxD P w K mg base N__law_ct_served "_law_ct_served" (defScope (tp 50)) (He.ga K "_law_ct_served") cd A outer s H E).A (cxD P w K mg base N__law_ct_served "_law_ct_served" (defScope (tp 50)) (He.ga K "_law_ct_served") cd A outer s H E).env (cxD P w K mg base N__law_ct_served "_law_ct_served" (defScope (tp 50)) (He.ga K "_law_ct_served") cd A outer s H E).xe := passes_of rfl
  exact (dss_cons (ds_set cx rfl (loc_of rfl) (de_tupRg cx rfl nm.b_tuple rfl nm.b_range (de_v rfl rfl)))
  (dss_cons (ds_for cx hp (di_range1 rfl nm.b_range (de_binop (opD_add cx) (de_v rfl rfl) de_int)) (dg_v cx rfl rfl) (dss_one (ds_if (dt_cmp (opD_ne cx) (de_v rfl rfl) (de_tup dl_nil) (by rfl)) (dss_one (ds_set cx rfl (loc_of rfl) (de_callTy (callD_tuple cx) rfl nm.b_tuple (by decide +kernel) (da_cons (de_lc cx (di_any cx (de_v rfl rfl)) (blkOk_by (own := [("person", 5)]) (by rfl)) List.mem_cons_self (hg1 cx rfl (fun _ _ => rfl)) (fun s1 H1 Ca1 cl1 fp1 Cb1 cx1 hK1 hT1 => (dts_one (dt_not (dt_val (de_con cx1 (hK1.trans hK) (hT1.trans hT) c__law_less (hr.mono (by decide)) rfl (dl_cons (de_ix (ixD_ok cx1) (de_v rfl rfl) (de_v rfl rfl) (fun _ _ => rfl)) (dl_cons (de_con cx1 (hK1.trans hK) (hT1.trans hT) c__law_ct_share (hr.mono (by decide)) rfl (dl_cons (de_v rfl rfl) (dl_cons (de_v rfl rfl) (dl_cons (de_v rfl rfl) dl_nil)))) dl_nil))))))) (fun s1 H1 Ca1 cl1 fp1 Cb1 cx1 hK1 hT1 => (de_v rfl rfl))) da_nil)))) dss_nil)))
  (dss_one (ds_ret (de_v rfl rfl)))))
theorem sc__law_ct_bids : FnScope N__law_ct_bids ps__law_ct_bids (defScope (tp 51)) := ⟨rfl, rfl, rfl, by decide +kernel, rfl, by decide +kernel, by decide +kernel⟩
theorem con__law_ct_bids [WW] {P : Program} {w : World} {K : PySem.W.Frag} {T : List (Addr × Str)} {mg : Str → Option Value} {base : Heap} (hw : w = WW.w) (nm : Nm K mg) (c__law_pick : Con P w K T mg base "_law_pick" (defArgs (tp 37)) (defBody (tp 37)) (defScope (tp 37)) ps__law_pick 3 sp__law_pick) (c__law_ct_lots : Con P w K T mg base "_law_ct_lots" (defArgs (tp 46)) (defBody (tp 46)) (defScope (tp 46)) ps__law_ct_lots 1 sp__law_ct_lots) (c__law_ct_share : Con P w K T mg base "_law_ct_share" (defArgs (tp 48)) (defBody (tp 48)) (defScope (tp 48)) ps__law_ct_share 1 sp__law_ct_share) (c__law_plus : Con P w K T mg base "_law_plus" (defArgs (tp 42)) (defBody (tp 42)) (defScope (tp 42)) ps__law_plus 2 sp__law_plus) (c__law_q : Con P w K T mg base "_law_q" (defArgs (tp 41)) (defBody (tp 41)) (defScope (tp 41)) ps__law_q 1 sp__law_q) (c__law_draw : Con P w K T mg base "_law_draw" (defArgs (tp 36)) (defBody (tp 36)) (defScope (tp 36)) ps__law_draw 2 sp__law_draw)
    (law : ∀ ds st Qd Ed, ds.length = ps__law_ct_bids.length → sp__law_ct_bids ds st Qd Ed → t__law_ct_bids (fun x _ st' => Ed x st') { nx := fun _ st' => Qd .non st', rt := Qd } (startD N__law_ct_bids ds) st) : Con P w K T mg base "_law_ct_bids" (defArgs (tp 51)) (defBody (tp 51)) (defScope (tp 51)) ps__law_ct_bids 4 sp__law_ct_bids := by
  obtain ⟨fd, F⟩ := nm.f__law_ct_bids
  refine ⟨⟨_, fd, nm.g__law_ct_bids, F, FnD.mk hw F sc__law_ct_bids (fun cd A outer s H E C hr cx hK hT hc => ?_) law⟩, by intro kV doc pm an cdv ct us hl; match us, hl with | [a, b, c], _ => rfl⟩
  have hp : PassesOwn (model (cxD P w K mg base N__law_ct_bids "_law_ct_bids" (defScope (tp 51)) (He.ga K "_law_ct_bids") cd A outer s H E).prog (cxD P w K mg base N__law_ct_bids "_law_ct_bids" (defScope (tp 51)) (He.ga K "_law_ct_bids") cd A outer s H E).w) (cxD P w K mg base N__law_ct_bids "_law_ct_bids" (defScope (tp 51)) (He.ga K "_law_ct_bids") cd A outer s H E).A (cxD P w K mg base N__law_ct_bids "_law_ct_bids" (defScope (tp 51)) (He.ga K "_law_ct_bids") cd A outer s H E).env (cxD P w K mg base N__law_ct_bids "_law_ct_bids" (defScope (tp 51)) (He.ga K "_law_ct_bids") cd A outer s H E).xe := passes_of rfl
  exact (dss_cons (ds_setW cx rfl (loc_of rfl) (dnw_lst dl_nil))
  (dss_cons (ds_for cx hp (di_range1 rfl nm.b_range (de_v rfl rfl)) (dg_v cx rfl rfl) (dss_cons (ds_set cx rfl (loc_of rfl) (de_con cx hK hT c__law_pick (hr.mono (by decide)) rfl (dl_cons (de_v rfl rfl) (dl_cons (de_lc cx (di_any cx (de_con cx hK hT c__law_ct_lots (hr.mono (by decide)) rfl (dl_cons (de_v rfl rfl) dl_nil))) (blkOk_by (own := [("lot", 5)]) (by rfl)) List.mem_cons_self (hg1 cx rfl (fun _ _ => rfl)) (fun s1 H1 Ca1 cl1 fp1 Cb1 cx1 hK1 hT1 => (dts_one (dt_cmp (opD_in cx1) (de_v rfl rfl) (de_v rfl rfl) (by rfl)))) (fun s1 H1 Ca1 cl1 fp1 Cb1 cx1 hK1 hT1 => (de_v rfl rfl))) dl_nil))))
  (dss_cons (ds_set cx rfl (loc_of rfl) (de_con cx hK hT c__law_ct_share (hr.mono (by decide)) rfl (dl_cons (de_v rfl rfl) (dl_cons (de_v rfl rfl) (dl_cons (de_v rfl rfl) dl_nil)))))
  (dss_one (ds_expr (de_append (de_v rfl rfl) (de_con cx hK hT c__law_pick (hr.mono (by decide)) rfl (dl_cons (de_v rfl rfl) (dl_cons (de_lst (dl_cons (de_v rfl rfl) (dl_cons (de_v rfl rfl) (dl_cons (de_con cx hK hT c__law_plus (hr.mono (by decide)) rfl (dl_cons (de_v rfl rfl) (dl_cons (de_tup (dl_cons de_int (dl_cons de_int dl_nil))) dl_nil))) (dl_cons (de_con cx hK hT c__law_q (hr.mono (by decide)) rfl (dl_cons (de_con cx hK hT c__law_draw (hr.mono (by decide)) rfl (dl_cons (de_v rfl rfl) (dl_cons de_int dl_nil))) (dl_cons (de_binop (opD_add cx) de_int (de_con cx hK hT c__law_draw (hr.mono (by decide)) rfl (dl_cons (de_v rfl rfl) (dl_cons de_int dl_nil)))) dl_nil))) (dl_cons (de_tup (dl_cons de_int (dl_cons de_int dl_nil))) dl_nil)))))) dl_nil)))))))))
  (dss_one (ds_ret (de_callTy (callD_tuple cx) rfl nm.b_tuple (by decide +kernel) (da_cons (de_v rfl rfl) da_nil))))))
theorem sc__law_ct_no_people : FnScope N__law_ct_no_people ps__law_ct_no_people (defScope (tp 52)) := ⟨rfl, rfl, rfl, by decide +kernel, rfl, by decide +kernel, by decide +kernel⟩
theorem con__law_ct_no_people [WW] {P : Program} {w : World} {K : PySem.W.Frag} {T : List (Addr × Str)} {mg : Str → Option Value} {base : Heap} (hw : w = WW.w) (nm : Nm K mg) (c__law_pick : Con P w K T mg base "_law_pick" (defArgs (tp 37)) (defBody (tp 37)) (defScope (tp 37)) ps__law_pick 3 sp__law_pick)
    (law : ∀ ds st Qd Ed, ds.length = ps__law_ct_no_people.length → sp__law_ct_no_people ds st Qd Ed → t__law_ct_no_people (fun x _ st' => Ed x st') { nx := fun _ st' => Qd .non st', rt := Qd } (startD N__law_ct_no_people ds) st) : Con P w K T mg base "_law_ct_no_people" (defArgs (tp 52)) (defBody (tp 52)) (defScope (tp 52)) ps__law_ct_no_people 4 sp__law_ct_no_people := by
  obtain ⟨fd, F⟩ := nm.f__law_ct_no_people
  refine ⟨⟨_, fd, nm.g__law_ct_no_people, F, FnD.mk hw F sc__law_ct_no_people (fun cd A outer s H E C hr cx hK hT hc => ?_) law⟩, by intro kV doc pm an cdv ct us hl; match us, hl with | [a], _ => rfl⟩
  have hp : PassesOwn (model (cxD P w K mg base N__law_ct_no_people "_law_ct_no_people" (defScope (tp 52)) (He.ga K "_law_ct_no_people") cd A outer s H E).prog (cxD P w K mg base N__law_ct_no_people "_law_ct_no_people" (defScope (tp 52)) (He.ga K "_law_ct_no_people") cd A outer s H E).w) (cxD P w K mg base N__law_ct_no_people "_law_ct_no_people" (defScope (tp 52)) (He.ga K "_law_ct_no_people") cd A outer s H E).A (cxD P w K mg base N__law_ct_no_people "_law_ct_no_people" (defScope (tp 52)) (He.ga K "_law_ct_no_people") cd A outer s H E).env (cxD P w K mg base N__law_ct_no_people "_law_ct_no_people" (defScope (tp 52)) (He.ga K "_law_ct_no_people") cd A outer s H E).xe := passes_of rfl
  exact (dss_one (ds_ret (de_con cx hK hT c__law_pick (hr.mono (by decide)) rfl (dl_cons (de_v rfl rfl) (dl_cons (de_lst (dl_cons de_non (dl_cons de_int (dl_cons de_int (dl_cons de_bl (dl_cons (de_str) (dl_cons (de_tup (dl_cons de_int dl_nil)) dl_nil))))))) dl_nil)))))
theorem sc__law_ct_no_lot : FnScope N__law_ct_no_lot ps__law_ct_no_lot (defScope (tp 53)) := ⟨rfl, rfl, rfl, by decide +kernel, rfl, by decide +kernel, by decide +kernel⟩
theorem con__law_ct_no_lot [WW] {P : Program} {w : World} {K : PySem.W.Frag} {T : List (Addr × Str)} {mg : Str → Option Value} {base : Heap} (hw : w = WW.w) (nm : Nm K mg) (c__law_pick : Con P w K T mg base "_law_pick" (defArgs (tp 37)) (defBody (tp 37)) (defScope (tp 37)) ps__law_pick 3 sp__law_pick)
    (law : ∀ ds st Qd Ed, ds.length = ps__law_ct_no_lot.length → sp__law_ct_no_lot ds st Qd Ed → t__law_ct_no_lot (fun x _ st' => Ed x st') { nx := fun _ st' => Qd .non st', rt := Qd } (startD N__law_ct_no_lot ds) st) : Con P w K T mg base "_law_ct_no_lot" (defArgs (tp 53)) (defBody (tp 53)) (defScope (tp 53)) ps__law_ct_no_lot 4 sp__law_ct_no_lot := by
  obtain ⟨fd, F⟩ := nm.f__law_ct_no_lot
  refine ⟨⟨_, fd, nm.g__law_ct_no_lot, F, FnD.mk hw F sc__law_ct_no_lot (fun cd A outer s H E C hr cx hK hT hc => ?_) law⟩, by intro kV doc pm an cdv ct us hl; match us, hl with | [a, b], _ => rfl⟩
  have hp : PassesOwn (model (cxD P w K mg base N__law_ct_no_lot "_law_ct_no_lot" (defScope (tp 53)) (He.ga K "_law_ct_no_lot") cd A outer s H E).prog (cxD P w K mg base N__law_ct_no_lot "_law_ct_no_lot" (defScope (tp 53)) (He.ga K "_law_ct_no_lot") cd A outer s H E).w) (cxD P w K mg base N__law_ct_no_lot "_law_ct_no_lot" (defScope (tp 53)) (He.ga K "_law_ct_no_lot") cd A outer s H E).A (cxD P w K mg base N__law_ct_no_lot "_law_ct_no_lot" (defScope (tp 53)) (He.ga K "_law_ct_no_lot") cd A outer s H E).env (cxD P w K mg base N__law_ct_no_lot "_law_ct_no_lot" (defScope (tp 53)) (He.ga K "_law_ct_no_lot") cd A outer s H E).xe := passes_of rfl
  exact (dss_one (ds_ret (de_con cx hK hT c__law_pick (hr.mono (by decide)) rfl (dl_cons (de_v rfl rfl) (dl_cons (de_lst (dl_cons de_non (dl_cons (de_tup dl_nil) (dl_cons (de_lst (dl_cons de_int dl_nil)) (dl_cons (de_tup (dl_cons (de_v rfl rfl) dl_nil)) (dl_cons (de_tup (dl_cons (de_unop unD_neg de_int) dl_nil)) (dl_cons (de_tup (dl_cons de_int (dl_cons de_int dl_nil))) (dl_cons (de_tup (dl_cons de_bl dl_nil)) (dl_cons (de_str) dl_nil))))))))) dl_nil)))))
theorem sc__law_ct_no_amounts : FnScope N__law_ct_no_amounts ps__law_ct_no_amounts (defScope (tp 54)) := ⟨rfl, rfl, rfl, by decide +kernel, rfl, by decide +kernel, by decide +kernel⟩
theorem con__law_ct_no_amounts [WW] {P : Program} {w : World} {K : PySem.W.Frag} {T : List (Addr × Str)} {mg : Str → Option Value} {base : Heap} (hw : w = WW.w) (nm : Nm K mg) (c__law_pick : Con P w K T mg base "_law_pick" (defArgs (tp 37)) (defBody (tp 37)) (defScope (tp 37)) ps__law_pick 3 sp__law_pick)
    (law : ∀ ds st Qd Ed, ds.length = ps__law_ct_no_amounts.length → sp__law_ct_no_amounts ds st Qd Ed → t__law_ct_no_amounts (fun x _ st' => Ed x st') { nx := fun _ st' => Qd .non st', rt := Qd } (startD N__law_ct_no_amounts ds) st) : Con P w K T mg base "_law_ct_no_amounts" (defArgs (tp 54)) (defBody (tp 54)) (defScope (tp 54)) ps__law_ct_no_amounts 4 sp__law_ct_no_amounts := by
  obtain ⟨fd, F⟩ := nm.f__law_ct_no_amounts
  refine ⟨⟨_, fd, nm.g__law_ct_no_amounts, F, FnD.mk hw F sc__law_ct_no_amounts (fun cd A outer s H E C hr cx hK hT hc => ?_) law⟩, by intro kV doc pm an cdv ct us hl; match us, hl with | [a, b], _ => rfl⟩
  have hp : PassesOwn (model (cxD P w K mg base N__law_ct_no_amounts "_law_ct_no_amounts" (defScope (tp 54)) (He.ga K "_law_ct_no_amounts") cd A outer s H E).prog (cxD P w K mg base N__law_ct_no_amounts "_law_ct_no_amounts" (defScope (tp 54)) (He.ga K "_law_ct_no_amounts") cd A outer s H E).w) (cxD P w K mg base N__law_ct_no_amounts "_law_ct_no_amounts" (defScope (tp 54)) (He.ga K "_law_ct_no_amounts") cd A outer s H E).A (cxD P w K mg base N__law_ct_no_amounts "_law_ct_no_amounts" (defScope (tp 54)) (He.ga K "_law_ct_no_amounts") cd A outer s H E).env (cxD P w K mg base N__law_ct_no_amounts "_law_ct_no_amounts" (defScope (tp 54)) (He.ga K "_law_ct_no_amounts") cd A outer s H E).xe := passes_of rfl
  exact (dss_one (ds_ret (de_con cx hK hT c__law_pick (hr.mono (by decide)) rfl (dl_cons (de_v rfl rfl) (dl_cons (de_lst (dl_cons de_non (dl_cons (de_binop (opD_mul cx) (de_tup (dl_cons (de_tup (dl_cons de_int (dl_cons de_int dl_nil))) dl_nil)) (de_binop (opD_add cx) (de_v rfl rfl) de_int)) (dl_cons (de_binop (opD_mul cx) (de_lst (dl_cons (de_tup (dl_cons de_int (dl_cons de_int dl_nil))) dl_nil)) (de_v rfl rfl)) (dl_cons (de_binop (opD_mul cx) (de_tup (dl_cons (de_tup (dl_cons (de_unop unD_neg de_int) (dl_cons de_int dl_nil))) dl_nil)) (de_v rfl rfl)) (dl_cons (de_binop (opD_mul cx) (de_tup (dl_cons de_int dl_nil)) (de_v rfl rfl)) (dl_cons (de_binop (opD_mul cx) (de_tup (dl_cons (de_tup (dl_cons de_int (dl_cons de_int dl_nil))) dl_nil)) (de_v rfl rfl)) (dl_cons (de_str) dl_nil)))))))) dl_nil)))))
theorem sc__law_k66_has : FnScope N__law_k66_has ps__law_k66_has (defScope (tp 55)) := ⟨rfl, rfl, rfl, by decide +kernel, rfl, by decide +kernel, by decide +kernel⟩
theorem con__law_k66_has [WW] {P : Program} {w : World} {K : PySem.W.Frag} {T : List (Addr × Str)} {mg : Str → Option Value} {base : Heap} (hw : w = WW.w) (nm : Nm K mg) (c__law_ct_served : Con P w K T mg base "_law_ct_served" (defArgs (tp 50)) (defBody (tp 50)) (defScope (tp 50)) ps__law_ct_served 2 sp__law_ct_served) (c__law_minus : Con P w K T mg base "_law_minus" (defArgs (tp 43)) (defBody (tp 43)) (defScope (tp 43)) ps__law_minus 2 sp__law_minus) (c__law_ct_share : Con P w K T mg base "_law_ct_share" (defArgs (tp 48)) (defBody (tp 48)) (defScope (tp 48)) ps__law_ct_share 1 sp__law_ct_share)
    (law : ∀ ds st Qd Ed, ds.length = ps__law_k66_has.length → sp__law_k66_has ds st Qd Ed → t__law_k66_has (fun x _ st' => Ed x st') { nx := fun _ st' => Qd .non st', rt := Qd } (startD N__law_k66_has ds) st) : Con P w K T mg base "_law_k66_has" (defArgs (tp 55)) (defBody (tp 55)) (defScope (tp 55)) ps__law_k66_has 3 sp__law_k66_has := by
  obtain ⟨fd, F⟩ := nm.f__law_k66_has
  refine ⟨⟨_, fd, nm.g__law_k66_has, F, FnD.mk hw F sc__law_k66_has (fun cd A outer s H E C hr cx hK hT hc => ?_) law⟩, by intro kV doc pm an cdv ct us hl; match us, hl with | [a, b, c, d], _ => rfl⟩
  have hp : PassesOwn (model (cxD P w K mg base N__law_k66_has "_law_k66_has" (defScope (tp 55)) (He.ga K "_law_k66_has") cd A outer s H E).prog (cxD P w K mg base N__law_k66_has "_law_k66_has" (defScope (tp 55)) (He.ga K "_law_k66_has") cd A outer s H E).w) (cxD P w K mg base N__law_k66_has "_law_k66_has" (defScope (tp 55)) (He.ga K "_law_k66_has") cd A outer s H E).A (cxD P w K mg base N__law_k66_has "_law_k66_has" (defScope (tp 55)) (He.ga K "_law_k66_has") cd A outer s H E).env (cxD P w K mg base N__law_k66_has "_law_k66_has" (defScope (tp 55)) (He.ga K "_law_k66_has") cd A outer s H E).xe := passes_of rfl
  exact (dss_cons (ds_par2 cx rfl rfl (by decide) rfl rfl (els_v (fun C1 cx1 hK1 hT1 => (de_con cx1 (hK1.trans hK) (hT1.trans hT) c__law_ct_served (hr.mono (by decide)) rfl (dl_cons (de_v rfl rfl) (dl_cons (de_v rfl rfl) (dl_cons (de_v rfl rfl) dl_nil))))) (els_w (fun C1 cx1 hK1 hT1 => (dnw_lst dl_nil)) els_nil)))
  (dss_cons (ds_for cx hp (di_range1 rfl nm.b_range (de_v rfl rfl)) (dg_v cx rfl rfl) (dss_one (ds_expr (de_append (de_v rfl rfl) (de_if (dt_cmp (opD_in cx) (de_v rfl rfl) (de_v rfl rfl) (by rfl)) (de_con cx hK hT c__law_minus (hr.mono (by decide)) rfl (dl_cons (de_ix (ixD_ok cx) (de_v rfl rfl) (de_v rfl rfl) (fun _ _ => rfl)) (dl_cons (de_con cx hK hT c__law_ct_share (hr.mono (by decide)) rfl (dl_cons (de_v rfl rfl) (dl_cons (de_v rfl rfl) (dl_cons (de_v rfl rfl) dl_nil)))) dl_nil))) (de_tup (dl_cons de_int (dl_cons de_int dl_nil))))))))
  (dss_one (ds_ret (de_v rfl rfl)))))
theorem sc__law_k66_kind : FnScope N__law_k66_kind ps__law_k66_kind (defScope (tp 56)) := ⟨rfl, rfl, rfl, by decide +kernel, rfl, by decide +kernel, by decide +kernel⟩
theorem con__law_k66_kind [WW] {P : Program} {w : World} {K : PySem.W.Frag} {T : List (Addr × Str)} {mg : Str → Option Value} {base : Heap} (hw : w = WW.w) (nm : Nm K mg) 
    (law : ∀ ds st Qd Ed, ds.length = ps__law_k66_kind.length → (sp__law_k66_kind K) ds st Qd Ed → t__law_k66_kind K (fun x _ st' => Ed x st') { nx := fun _ st' => Qd .non st', rt := Qd } (startD N__law_k66_kind ds) st) : Con P w K T mg base "_law_k66_kind" (defArgs (tp 56)) (defBody (tp 56)) (defScope (tp 56)) ps__law_k66_kind 1 (sp__law_k66_kind K) := by
  obtain ⟨fd, F⟩ := nm.f__law_k66_kind
  refine ⟨⟨_, fd, nm.g__law_k66_kind, F, FnD.mk hw F sc__law_k66_kind (fun cd A outer s H E C hr cx hK hT hc => ?_) law⟩, by intro kV doc pm an cdv ct us hl; match us, hl with | [a], _ => rfl⟩
  have hp : PassesOwn (model (cxD P w K mg base N__law_k66_kind "_law_k66_kind" (defScope (tp 56)) (He.ga K "_law_k66_kind") cd A outer s H E).prog (cxD P w K mg base N__law_k66_kind "_law_k66_kind" (defScope (tp 56)) (He.ga K "_law_k66_kind") cd A outer s H E).w) (cxD P w K mg base N__law_k66_kind "_law_k66_kind" (defScope (tp 56)) (He.ga K "_law_k66_kind") cd A outer s H E).A (cxD P w K mg base N__law_k66_kind "_law_k66_kind" (defScope (tp 56)) (He.ga K "_law_k66_kind") cd A outer s H E).env (cxD P w K mg base N__law_k66_kind "_law_k66_kind" (defScope (tp 56)) (He.ga K "_law_k66_kind") cd A outer s H E).xe := passes_of rfl
  exact (dss_cons (ds_set cx rfl (loc_of rfl) (de_lst (dl_cons (de_isOwnK cx hK rfl nm.b_isinstance (de_v rfl rfl) rfl nm.c_BadPeople) (dl_cons (de_isOwnK cx hK rfl nm.b_isinstance (de_v rfl rfl) rfl nm.c_BadShares) (dl_cons (de_isOwnK cx hK rfl nm.b_isinstance (de_v rfl rfl) rfl nm.c_BadWorths) (dl_cons (de_isOwnK cx hK rfl nm.b_isinstance (de_v rfl rfl) rfl nm.c_BadLot) (dl_cons (de_isOwnK cx hK rfl nm.b_isinstance (de_v rfl rfl) rfl nm.c_BadBids) dl_nil)))))))
  (dss_one (ds_ret (de_lc cx (di_enum cx rfl nm.b_enumerate (de_v rfl rfl)) (blkOk_by (own := [("at", 2), ("here", 3)]) (by rfl)) (fun _ h => h) (hg2 cx rfl (fun _ _ => rfl) rfl (fun _ _ => rfl)) (fun s1 H1 Ca1 cl1 fp1 Cb1 cx1 hK1 hT1 => (dts_one (dt_val (de_v rfl rfl)))) (fun s1 H1 Ca1 cl1 fp1 Cb1 cx1 hK1 hT1 => (de_v rfl rfl))))))
theorem sc_law : FnScope N_law ps_law (defScope (tp 57)) := ⟨rfl, rfl, rfl, by decide +kernel, rfl, by decide +kernel, by decide +kernel⟩
theorem con_law [WW] {P : Program} {w : World} {K : PySem.W.Frag} {mg : Str → Option Value} {base : Heap} {fd : FuncData} (hw : w = WW.w) (nm : Nm K mg) (F : FunD K "law" "law" (defArgs (tp 57)) (defBody (tp 57)) (defScope (tp 57)) [] [] (He.ga K "law") fd) (TB : LamX.TabB base mg (He.codeOf K ("law", none)) (lamP K)) (c__law_begun : Con P w K (lamT K) mg base "_law_begun" (defArgs (tp 34)) (defBody (tp 34)) (defScope (tp 34)) ps__law_begun 1 sp__law_begun) (c__law_draw : Con P w K (lamT K) mg base "_law_draw" (defArgs (tp 36)) (defBody (tp 36)) (defScope (tp 36)) ps__law_draw 2 sp__law_draw) (c__law_ct_shares : Con P w K (lamT K) mg base "_law_ct_shares" (defArgs (tp 47)) (defBody (tp 47)) (defScope (tp 47)) ps__law_ct_shares 4 sp__law_ct_shares) (c__law_ct_lots : Con P w K (lamT K) mg base "_law_ct_lots" (defArgs (tp 46)) (defBody (tp 46)) (defScope (tp 46)) ps__law_ct_lots 1 sp__law_ct_lots) (c__law_ct_rise : Con P w K (lamT K) mg base "_law_ct_rise" (defArgs (tp 49)) (defBody (tp 49)) (defScope (tp 49)) ps__law_ct_rise 2 sp__law_ct_rise) (c__law_ct_bids : Con P w K (lamT K) mg base "_law_ct_bids" (defArgs (tp 51)) (defBody (tp 51)) (defScope (tp 51)) ps__law_ct_bids 4 sp__law_ct_bids) (c__law_pick : Con P w K (lamT K) mg base "_law_pick" (defArgs (tp 37)) (defBody (tp 37)) (defScope (tp 37)) ps__law_pick 3 sp__law_pick) (c__law_k66_has : Con P w K (lamT K) mg base "_law_k66_has" (defArgs (tp 55)) (defBody (tp 55)) (defScope (tp 55)) ps__law_k66_has 3 sp__law_k66_has) (c__law_minus : Con P w K (lamT K) mg base "_law_minus" (defArgs (tp 43)) (defBody (tp 43)) (defScope (tp 43)) ps__law_minus 2 sp__law_minus) (c__law_same : Con P w K (lamT K) mg base "_law_same" (defArgs (tp 40)) (defBody (tp 40)) (defScope (tp 40)) ps__law_same 2 sp__law_same) (c_lot_gain : Con P w K (lamT K) mg base "lot_gain" (defArgs (tp 32)) (defBody (tp 32)) (defScope (tp 32)) ps_lot_gain 6 (sp_lot_gain K)) (c__law_ct_no_amounts : Con P w K (lamT K) mg base "_law_ct_no_amounts" (defArgs (tp 54)) (defBody (tp 54)) (defScope (tp 54)) ps__law_ct_no_amounts 4 sp__law_ct_no_amounts) (c__law_ct_no_lot : Con P w K (lamT K) mg base "_law_ct_no_lot" (defArgs (tp 53)) (defBody (tp 53)) (defScope (tp 53)) ps__law_ct_no_lot 4 sp__law_ct_no_lot) (c__law_k66_kind : Con P w K (lamT K) mg base "_law_k66_kind" (defArgs (tp 56)) (defBody (tp 56)) (defScope (tp 56)) ps__law_k66_kind 1 (sp__law_k66_kind K)) (c__law_ct_no_people : Con P w K (lamT K) mg base "_law_ct_no_people" (defArgs (tp 52)) (defBody (tp 52)) (defScope (tp 52)) ps__law_ct_no_people 4 sp__law_ct_no_people)
    (law : ∀ (ns : List Int) (Qd : D → Sto → Prop), ns.length ≤ 63 → (∀ st', Qd (.bl true) st') → t_law K (fun _ _ _ => False) { nx := fun _ st' => Qd .non st', rt := Qd } (startD N_law [.kls (ns.map .int)]) fun _ => none) :
    FnOk P w K mg base (CX P w) 9 (He.ga K "law") fd ["script"] (spLaw K (lamT K) 63) := by
  refine FnL.mk hw F sc_law (fun cd A outer s H E C hr cx hK hT hc => ?_) law
  have hp : PassesOwn (model (cxD P w K mg base N_law "law" (defScope (tp 57)) (He.ga K "law") cd A outer s H E).prog (cxD P w K mg base N_law "law" (defScope (tp 57)) (He.ga K "law") cd A outer s H E).w) (cxD P w K mg base N_law "law" (defScope (tp 57)) (He.ga K "law") cd A outer s H E).A (cxD P w K mg base N_law "law" (defScope (tp 57)) (He.ga K "law") cd A outer s H E).env (cxD P w K mg base N_law "law" (defScope (tp 57)) (He.ga K "law") cd A outer s H E).xe := passes_of rfl
  exact (dss_cons (ds_set cx rfl (loc_of rfl) (de_con cx hK hT c__law_begun (hr.mono (by decide)) rfl (dl_cons (de_v rfl rfl) dl_nil)))
  (dss_cons (ds_for cx hp (di_range1 rfl nm.b_range (de_binop (opD_add cx) de_int (de_callB (callD_min2 cx) rfl nm.b_min (by decide +kernel) (da_cons (de_callB (callD_len cx) rfl nm.b_len (by decide +kernel) (da_cons (de_v rfl rfl) da_nil)) (da_cons de_int da_nil))))) (dg_v cx rfl rfl) (dss_cons (ds_set cx rfl (loc_of rfl) (de_binop (opD_add cx) de_int (de_con cx hK hT c__law_draw (hr.mono (by decide)) rfl (dl_cons (de_v rfl rfl) (dl_cons de_int dl_nil)))))
  (dss_cons (ds_parT cx (els_v (fun C1 cx1 hK1 hT1 => (de_con cx1 (hK1.trans hK) (hT1.trans hT) c__law_ct_shares (hr.mono (by decide)) rfl (dl_cons (de_v rfl rfl) (dl_cons (de_v rfl rfl) dl_nil)))) (els_v (fun C1 cx1 hK1 hT1 => (de_con cx1 (hK1.trans hK) (hT1.trans hT) c__law_ct_lots (hr.mono (by decide)) rfl (dl_cons (de_v rfl rfl) dl_nil))) els_nil)) (pgs_v cx rfl rfl (pgs_v cx rfl rfl pgs_0)))
  (dss_cons (ds_set cx rfl (loc_of rfl) (de_cmp opD_is (de_con cx hK hT c__law_ct_rise (hr.mono (by decide)) rfl (dl_cons (de_v rfl rfl) (dl_cons (de_v rfl rfl) dl_nil))) de_non (by rfl)))
  (dss_cons (ds_for cx hp (di_range1 rfl nm.b_range de_int) (dg_v cx rfl rfl) (dss_cons (ds_parT cx (els_v (fun C1 cx1 hK1 hT1 => (de_con cx1 (hK1.trans hK) (hT1.trans hT) c__law_ct_bids (hr.mono (by decide)) rfl (dl_cons (de_v rfl rfl) (dl_cons (de_v rfl rfl) (dl_cons (de_v rfl rfl) dl_nil))))) (els_v (fun C1 cx1 hK1 hT1 => (de_con cx1 (hK1.trans hK) (hT1.trans hT) c__law_ct_bids (hr.mono (by decide)) rfl (dl_cons (de_v rfl rfl) (dl_cons (de_v rfl rfl) (dl_cons (de_v rfl rfl) dl_nil))))) (els_v (fun C1 cx1 hK1 hT1 => (de_con cx1 (hK1.trans hK) (hT1.trans hT) c__law_pick (hr.mono (by decide)) rfl (dl_cons (de_v rfl rfl) (dl_cons (de_v rfl rfl) dl_nil)))) els_nil))) (pgs_v cx rfl rfl (pgs_v cx rfl rfl (pgs_v cx rfl rfl pgs_0))))
  (dss_cons (ds_set cx rfl (loc_of rfl) (de_callTy (callD_tuple cx) rfl nm.b_tuple (by decide +kernel) (da_cons (de_lc cx (di_range1 rfl nm.b_range (de_v rfl rfl)) (blkOk_by (own := [("person", 20)]) (by rfl)) List.mem_cons_self (hg1 cx rfl (fun _ _ => rfl)) (fun s1 H1 Ca1 cl1 fp1 Cb1 cx1 hK1 hT1 => dts_nil) (fun s1 H1 Ca1 cl1 fp1 Cb1 cx1 hK1 hT1 => (de_if (dt_cmp (opD_in cx1) (de_v rfl rfl) (de_v rfl rfl) (by rfl)) (de_ix (ixD_ok cx1) (de_v rfl rfl) (de_v rfl rfl) (fun _ _ => rfl)) (de_ix (ixD_ok cx1) (de_v rfl rfl) (de_v rfl rfl) (fun _ _ => rfl))))) da_nil)))
  (dss_cons (ds_parT cx (els_v (fun C1 cx1 hK1 hT1 => (de_con cx1 (hK1.trans hK) (hT1.trans hT) c__law_k66_has (hr.mono (by decide)) rfl (dl_cons (de_v rfl rfl) (dl_cons (de_v rfl rfl) (dl_cons (de_v rfl rfl) (dl_cons (de_v rfl rfl) dl_nil)))))) (els_v (fun C1 cx1 hK1 hT1 => (de_con cx1 (hK1.trans hK) (hT1.trans hT) c__law_k66_has (hr.mono (by decide)) rfl (dl_cons (de_v rfl rfl) (dl_cons (de_v rfl rfl) (dl_cons (de_v rfl rfl) (dl_cons (de_v rfl rfl) dl_nil)))))) els_nil)) (pgs_v cx rfl rfl (pgs_v cx rfl rfl pgs_0)))
  (dss_cons (ds_set cx rfl (loc_of rfl) (de_callTy (callD_tuple cx) rfl nm.b_tuple (by decide +kernel) (da_cons (de_lc cx (di_any cx (de_v rfl rfl)) (blkOk_by (own := [("person", 20)]) (by rfl)) List.mem_cons_self (hg1 cx rfl (fun _ _ => rfl)) (fun s1 H1 Ca1 cl1 fp1 Cb1 cx1 hK1 hT1 => dts_nil) (fun s1 H1 Ca1 cl1 fp1 Cb1 cx1 hK1 hT1 => (de_con cx1 (hK1.trans hK) (hT1.trans hT) c__law_minus (hr.mono (by decide)) rfl (dl_cons (de_ix (ixD_ok cx1) (de_v rfl rfl) (de_v rfl rfl) (fun _ _ => rfl)) (dl_cons (de_ix (ixD_ok cx1) (de_v rfl rfl) (de_v rfl rfl) (fun _ _ => rfl)) dl_nil))))) da_nil)))
  (dss_cons (ds_set cx rfl (loc_of rfl) (de_callTy (callD_tuple cx) rfl nm.b_tuple (by decide +kernel) (da_cons (de_lc cx (di_any cx (de_v rfl rfl)) (blkOk_by (own := [("person", 20)]) (by rfl)) List.mem_cons_self (hg1 cx rfl (fun _ _ => rfl)) (fun s1 H1 Ca1 cl1 fp1 Cb1 cx1 hK1 hT1 => dts_nil) (fun s1 H1 Ca1 cl1 fp1 Cb1 cx1 hK1 hT1 => (de_ix (ixD_ok cx1) (de_v rfl rfl) (de_v rfl rfl) (fun _ _ => rfl)))) da_nil)))
  (dss_cons (ds_if (dt_not (dt_val (de_con cx hK hT c__law_same (hr.mono (by decide)) rfl (dl_cons (de_lst (dl_cons (de_con cx hK hT c_lot_gain (hr.mono (by decide)) rfl (dl_cons (de_v rfl rfl) (dl_cons (de_v rfl rfl) (dl_cons (de_v rfl rfl) (dl_cons (de_v rfl rfl) (dl_cons (de_v rfl rfl) dl_nil)))))) (dl_cons (de_conK0 (ks := ["bids", "lot", "worths", "shares", "people"]) (is := [4, 3, 2, 1, 0]) cx hK hT c_lot_gain (hr.mono (by decide)) rfl (kw_cons (de_v rfl rfl) (kw_cons (de_v rfl rfl) (kw_cons (de_v rfl rfl) (kw_cons (de_v rfl rfl) (kw_cons (de_v rfl rfl) kw_nil))))) (by intro kV doc pm an cdv ct us ws l1 l2; match us, ws, l1, l2 with | [], [w0, w1, w2, w3, w4], _, _ => rfl)) dl_nil))) (dl_cons (de_lst (dl_cons (de_v rfl rfl) (dl_cons (de_v rfl rfl) dl_nil))) dl_nil))))) (dss_one (ds_ret de_bl)) dss_nil)
  (dss_cons (ds_if (dt_cmp (opD_ne cx) (de_lc cx (di_any cx (de_v rfl rfl)) (blkOk_by (own := [("part", 21)]) (by rfl)) List.mem_cons_self (hg1 cx rfl (fun _ _ => rfl)) (fun s1 H1 Ca1 cl1 fp1 Cb1 cx1 hK1 hT1 => (dts_one (dt_cmp opD_lt (de_ix (ixD_ok cx1) (de_v rfl rfl) de_int (fun _ _ => rfl)) de_int (by rfl)))) (fun s1 H1 Ca1 cl1 fp1 Cb1 cx1 hK1 hT1 => de_int)) (de_lst dl_nil) (by rfl)) (dss_one (ds_ret de_bl)) dss_nil)
  (dss_one (ds_if (dt_w (dw_and (dt_val (de_v rfl rfl)) (dw_and (dt_cmp (opD_eq cx) (de_lc cx (di_any cx (de_v rfl rfl)) (blkOk_by (own := [("part", 21)]) (by rfl)) List.mem_cons_self (hg1 cx rfl (fun _ _ => rfl)) (fun s1 H1 Ca1 cl1 fp1 Cb1 cx1 hK1 hT1 => (dts_one (dt_cmp opD_lt (de_ix (ixD_ok cx1) (de_v rfl rfl) de_int (fun _ _ => rfl)) de_int (by rfl)))) (fun s1 H1 Ca1 cl1 fp1 Cb1 cx1 hK1 hT1 => de_int)) (de_lst dl_nil) (by rfl)) (dw_and1 (dt_cmp (opD_ne cx) (de_lc cx (di_any cx (de_v rfl rfl)) (blkOk_by (own := [("part", 21)]) (by rfl)) List.mem_cons_self (hg1 cx rfl (fun _ _ => rfl)) (fun s1 H1 Ca1 cl1 fp1 Cb1 cx1 hK1 hT1 => (dts_one (dt_cmp opD_gt (de_ix (ixD_ok cx1) (de_v rfl rfl) de_int (fun _ _ => rfl)) de_int (by rfl)))) (fun s1 H1 Ca1 cl1 fp1 Cb1 cx1 hK1 hT1 => de_int)) (de_lst dl_nil) (by rfl)))))) (dss_one (ds_ret de_bl)) dss_nil))))))))))
  (dss_cons (ds_parT cx (els_v (fun C1 cx1 hK1 hT1 => (de_con cx1 (hK1.trans hK) (hT1.trans hT) c__law_ct_no_amounts (hr.mono (by decide)) rfl (dl_cons (de_v rfl rfl) (dl_cons (de_v rfl rfl) dl_nil)))) (els_v (fun C1 cx1 hK1 hT1 => (de_con cx1 (hK1.trans hK) (hT1.trans hT) c__law_ct_no_lot (hr.mono (by decide)) rfl (dl_cons (de_v rfl rfl) (dl_cons (de_v rfl rfl) dl_nil)))) (els_v (fun C1 cx1 hK1 hT1 => (de_con cx1 (hK1.trans hK) (hT1.trans hT) c__law_pick (hr.mono (by decide)) rfl (dl_cons (de_v rfl rfl) (dl_cons (de_v rfl rfl) dl_nil)))) els_nil))) (pgs_v cx rfl rfl (pgs_v cx rfl rfl (pgs_v cx rfl rfl pgs_0))))
  (dss_cons (ds_if (dt_cmp (opD_ne cx) (de_con cx hK hT c__law_k66_kind (hr.mono (by decide)) rfl (dl_cons (de_caughtL (k := 6) (te := (eCall (sp_lot_gain K) [(eCall sp__law_ct_no_people [(eVar 1)]), (eC .non), (eC .non), (eC .non), (eC .non)])) cx hK hT nm (hc _ rfl) TB (by rfl) (hr.mono (by decide)) (LamX.lamS_by (by rfl)) (by rfl) (by intros; rfl) (fun A outer s H E f c C hrl cxl hKl hTl => (de_con cxl (hKl.trans hK) (hTl.trans hT) c_lot_gain (hrl.mono (by decide)) rfl (dl_cons (de_con cxl (hKl.trans hK) (hTl.trans hT) c__law_ct_no_people (hrl.mono (by decide)) rfl (dl_cons (de_v rfl rfl) dl_nil)) (dl_cons de_non (dl_cons de_non (dl_cons de_non (dl_cons de_non dl_nil)))))))) dl_nil)) (de_lst (dl_cons de_int dl_nil)) (by rfl)) (dss_one (ds_ret de_bl)) dss_nil)
  (dss_cons (ds_if (dt_cmp (opD_ne cx) (de_con cx hK hT c__law_k66_kind (hr.mono (by decide)) rfl (dl_cons (de_caughtL (k := 6) (te := (eCall (sp_lot_gain K) [(eVar 3), (eNw nDictT), (eVar 16), (eVar 17), (eC .non)])) cx hK hT nm (hc _ rfl) TB (by rfl) (hr.mono (by decide)) (LamX.lamS_by (by rfl)) (by rfl) (by intros; rfl) (fun A outer s H E f c C hrl cxl hKl hTl => (de_con cxl (hKl.trans hK) (hTl.trans hT) c_lot_gain (hrl.mono (by decide)) rfl (dl_cons (de_v rfl rfl) (dl_cons (de_nw dnw_dictT) (dl_cons (de_v rfl rfl) (dl_cons (de_v rfl rfl) (dl_cons de_non dl_nil)))))))) dl_nil)) (de_lst (dl_cons de_int dl_nil)) (by rfl)) (dss_one (ds_ret de_bl)) dss_nil)
  (dss_cons (ds_if (dt_cmp (opD_ne cx) (de_con cx hK hT c__law_k66_kind (hr.mono (by decide)) rfl (dl_cons (de_caughtL (k := 6) (te := (eCall (sp_lot_gain K) [(eVar 3), (eVar 4), (eVar 16), (eVar 17), (eC .non)])) cx hK hT nm (hc _ rfl) TB (by rfl) (hr.mono (by decide)) (LamX.lamS_by (by rfl)) (by rfl) (by intros; rfl) (fun A outer s H E f c C hrl cxl hKl hTl => (de_con cxl (hKl.trans hK) (hTl.trans hT) c_lot_gain (hrl.mono (by decide)) rfl (dl_cons (de_v rfl rfl) (dl_cons (de_v rfl rfl) (dl_cons (de_v rfl rfl) (dl_cons (de_v rfl rfl) (dl_cons de_non dl_nil)))))))) dl_nil)) (de_lst (dl_cons de_int dl_nil)) (by rfl)) (dss_one (ds_ret de_bl)) dss_nil)
  (dss_cons (ds_if (dt_cmp (opD_ne cx) (de_con cx hK hT c__law_k66_kind (hr.mono (by decide)) rfl (dl_cons (de_caughtL (k := 6) (te := (eCall (sp_lot_gain K) [(eVar 3), (eVar 4), (eVar 8), (eVar 17), (eC .non)])) cx hK hT nm (hc _ rfl) TB (by rfl) (hr.mono (by decide)) (LamX.lamS_by (by rfl)) (by rfl) (by intros; rfl) (fun A outer s H E f c C hrl cxl hKl hTl => (de_con cxl (hKl.trans hK) (hTl.trans hT) c_lot_gain (hrl.mono (by decide)) rfl (dl_cons (de_v rfl rfl) (dl_cons (de_v rfl rfl) (dl_cons (de_v rfl rfl) (dl_cons (de_v rfl rfl) (dl_cons de_non dl_nil)))))))) dl_nil)) (de_lst (dl_cons de_int dl_nil)) (by rfl)) (dss_one (ds_ret de_bl)) dss_nil)
  (dss_one (ds_if (dt_cmp (opD_ne cx) (de_con cx hK hT c__law_k66_kind (hr.mono (by decide)) rfl (dl_cons (de_caughtL (k := 6) (te := (eCall (sp_lot_gain K) [(eVar 3), (eVar 4), (eVar 8), (eVar 10), (eCall sp__law_ct_no_amounts [(eVar 1), (eCB (b1 lenD) (aCons (eVar 10) aNil))])])) cx hK hT nm (hc _ rfl) TB (by rfl) (hr.mono (by decide)) (LamX.lamS_by (by rfl)) (by rfl) (by intros; rfl) (fun A outer s H E f c C hrl cxl hKl hTl => (de_con cxl (hKl.trans hK) (hTl.trans hT) c_lot_gain (hrl.mono (by decide)) rfl (dl_cons (de_v rfl rfl) (dl_cons (de_v rfl rfl) (dl_cons (de_v rfl rfl) (dl_cons (de_v rfl rfl) (dl_cons (de_con cxl (hKl.trans hK) (hTl.trans hT) c__law_ct_no_amounts (hrl.mono (by decide)) rfl (dl_cons (de_v rfl rfl) (dl_cons (de_callB (callD_len cxl) rfl nm.b_len (by decide +kernel) (da_cons (de_v rfl rfl) da_nil)) dl_nil))) dl_nil)))))))) dl_nil)) (de_lst (dl_cons de_int dl_nil)) (by rfl)) (dss_one (ds_ret de_bl)) dss_nil))))))))))))
  (dss_cons (ds_set cx rfl (loc_of rfl) (de_nw (dnw_dispT cx (dps_cons (fun C1 cx1 hK1 hT1 => (de_tup (dl_cons de_int dl_nil))) (fun C1 cx1 hK1 hT1 => (de_tup (dl_cons (de_tup (dl_cons de_int (dl_cons de_int dl_nil))) dl_nil))) (dps_cons (fun C1 cx1 hK1 hT1 => (de_tup (dl_cons de_int dl_nil))) (fun C1 cx1 hK1 hT1 => (de_tup (dl_cons (de_tup (dl_cons de_int (dl_cons de_int dl_nil))) dl_nil))) (dps_cons (fun C1 cx1 hK1 hT1 => (de_tup (dl_cons de_int (dl_cons de_int dl_nil)))) (fun C1 cx1 hK1 hT1 => (de_tup (dl_cons (de_tup (dl_cons de_int (dl_cons de_int dl_nil))) (dl_cons (de_tup (dl_cons de_int (dl_cons de_int dl_nil))) dl_nil)))) dps_nil))) (by exact Nat.le_of_ble_eq_true rfl))))
  (dss_cons (ds_if (dt_cmp (opD_ne cx) (de_con cx hK hT c_lot_gain (hr.mono (by decide)) rfl (dl_cons de_int (dl_cons (de_v rfl rfl) (dl_cons (de_tup (dl_cons (de_tup (dl_cons de_int (dl_cons de_int dl_nil))) (dl_cons (de_tup (dl_cons de_int (dl_cons de_int dl_nil))) dl_nil))) (dl_cons (de_tup (dl_cons de_int dl_nil)) (dl_cons (de_tup (dl_cons (de_tup (dl_cons de_int (dl_cons de_int dl_nil))) dl_nil)) dl_nil)))))) (de_tup (dl_cons (de_tup (dl_cons (de_unop unD_neg de_int) (dl_cons de_int dl_nil))) dl_nil)) (by rfl)) (dss_one (ds_ret de_bl)) dss_nil)
  (dss_cons (ds_set cx rfl (loc_of rfl) (de_nw (dnw_dispT cx (dps_cons (fun C1 cx1 hK1 hT1 => (de_tup (dl_cons de_int dl_nil))) (fun C1 cx1 hK1 hT1 => (de_tup (dl_cons (de_tup (dl_cons de_int (dl_cons de_int dl_nil))) dl_nil))) (dps_cons (fun C1 cx1 hK1 hT1 => (de_tup (dl_cons de_int dl_nil))) (fun C1 cx1 hK1 hT1 => (de_tup (dl_cons (de_tup (dl_cons de_int (dl_cons de_int dl_nil))) dl_nil))) (dps_cons (fun C1 cx1 hK1 hT1 => (de_tup (dl_cons de_int (dl_cons de_int dl_nil)))) (fun C1 cx1 hK1 hT1 => (de_tup (dl_cons (de_tup (dl_cons de_int (dl_cons de_int dl_nil))) (dl_cons (de_tup (dl_cons de_int (dl_cons de_int dl_nil))) dl_nil)))) dps_nil))) (by exact Nat.le_of_ble_eq_true rfl))))
  (dss_one (ds_ret (de_and (de_cmp (opD_eq cx) (de_con cx hK hT c_lot_gain (hr.mono (by decide)) rfl (dl_cons de_int (dl_cons (de_v rfl rfl) (dl_cons (de_tup (dl_cons (de_tup (dl_cons de_int (dl_cons de_int dl_nil))) (dl_cons (de_tup (dl_cons de_int (dl_cons de_int dl_nil))) dl_nil))) (dl_cons (de_tup (dl_cons de_int (dl_cons de_int dl_nil))) (dl_cons (de_tup (dl_cons (de_tup (dl_cons de_int (dl_cons de_int dl_nil))) (dl_cons (de_tup (dl_cons de_int (dl_cons de_int dl_nil))) dl_nil))) dl_nil)))))) (de_tup (dl_cons (de_tup (dl_cons de_int (dl_cons de_int dl_nil))) (dl_cons (de_tup (dl_cons (de_unop unD_neg de_int) (dl_cons de_int dl_nil))) dl_nil))) (by rfl)) (de_one (de_cmp (opD_eq cx) (de_con cx hK hT c_lot_gain (hr.mono (by decide)) rfl (dl_cons de_int (dl_cons (de_v rfl rfl) (dl_cons (de_tup (dl_cons (de_tup (dl_cons de_int (dl_cons de_int dl_nil))) (dl_cons (de_tup (dl_cons de_int (dl_cons de_int dl_nil))) dl_nil))) (dl_cons (de_tup (dl_cons de_int (dl_cons de_int dl_nil))) (dl_cons (de_tup (dl_cons (de_tup (dl_cons de_int (dl_cons de_int dl_nil))) (dl_cons (de_tup (dl_cons de_int (dl_cons de_int dl_nil))) dl_nil))) dl_nil)))))) (de_tup (dl_cons (de_tup (dl_cons de_int (dl_cons de_int dl_nil))) (dl_cons (de_tup (dl_cons de_int (dl_cons de_int dl_nil))) dl_nil))) (by rfl)))))))))))
end K66

set_option Elab.async false
set_option linter.all false
set_option maxRecDepth 100000
set_option maxHeartbeats 0
namespace K66
open PySem PySem.Spec PyProof.Rows L2 DL LT DR
def dd (x : Str) (i : Nat) : He.DefD := ⟨(x, none), x, x, defArgs (tp i), defBody (tp i), defScope (tp i), [], []⟩
def fn : List He.DefD := ([dd "is_whole" 10, dd "is_ratio" 11, dd "lowest" 12, dd "minus" 13, dd "is_less" 14, dd "lots_of" 17, dd "is_people" 18, dd "need_people" 19, dd "are_amounts" 20, dd "is_lot_of" 21, dd "need_lot" 22, dd "are_shares" 24, dd "need_shares" 25, dd "share_of" 26, dd "stays" 27, dd "served_of" 28, dd "charged_of" 29, dd "has_of" 31, dd "lot_gain" 32, dd "_law_begun" 34, dd "_law_blended" 35, dd "_law_draw" 36, dd "_law_pick" 37, dd "_law_caught" 38, dd "_law_is_truth" 39, dd "_law_same" 40, dd "_law_q" 41, dd "_law_plus" 42, dd "_law_minus" 43, dd "_law_times" 44] : List He.DefD) ++ ([dd "_law_less" 45, dd "_law_ct_lots" 46, dd "_law_ct_shares" 47, dd "_law_ct_share" 48, dd "_law_ct_rise" 49, dd "_law_ct_served" 50, dd "_law_ct_bids" 51, dd "_law_ct_no_people" 52, dd "_law_ct_no_lot" 53, dd "_law_ct_no_amounts" 54, dd "_law_k66_has" 55, dd "_law_k66_kind" 56, dd "law" 57] : List He.DefD)
def fa : List He.Fa := ([.glo "is_whole", .glo "is_ratio", .glo "lowest", .glo "minus", .glo "is_less", .glo "lots_of", .glo "is_people", .glo "need_people", .glo "are_amounts", .glo "is_lot_of", .glo "need_lot", .glo "are_shares", .glo "need_shares", .glo "share_of", .glo "stays", .glo "served_of", .glo "charged_of", .glo "has_of", .glo "lot_gain", .glo "_law_begun", .glo "_law_blended", .glo "_law_draw", .glo "_law_pick", .glo "_law_caught", .glo "_law_is_truth", .glo "_law_same", .glo "_law_q", .glo "_law_plus", .glo "_law_minus", .glo "_law_times"] : List He.Fa) ++ ([.glo "_law_less", .glo "_law_ct_lots", .glo "_law_ct_shares", .glo "_law_ct_share", .glo "_law_ct_rise", .glo "_law_ct_served", .glo "_law_ct_bids", .glo "_law_ct_no_people", .glo "_law_ct_no_lot", .glo "_law_ct_no_amounts", .glo "_law_k66_has", .glo "_law_k66_kind", .glo "law", .glo "LieError", .glo "BadBids", .glo "BadLot", .glo "BadPeople", .glo "BadShares", .glo "BadWorths", .free "isinstance", .free "int", .free "bool", .free "tuple", .free "len", .free "all", .free "range", .free "sorted", .free "list", .free "zip", .free "enumerate"] : List He.Fa) ++ ([.free "abs", .free "min", .free "dict", .free "str", .exc "BadBids", .exc "BadLot", .exc "BadPeople", .exc "BadShares", .exc "BadWorths", .glo "ZERO", .int "MOST_PEOPLE" 4] : List He.Fa)
def tf : List He.Defn := [("law", none)]
def loose : List PySem.Str := (["LieError", "BadBids", "BadLot", "BadPeople", "BadShares", "BadWorths", "ZERO", "is_whole", "is_ratio", "lowest", "minus", "is_less", "MOST_PEOPLE", "lots_of", "is_people", "need_people", "are_amounts", "is_lot_of", "need_lot", "are_shares", "need_shares", "share_of", "stays", "served_of", "charged_of", "has_of", "lot_gain", "_law_begun", "_law_blended", "_law_draw"] : List PySem.Str) ++ (["_law_pick", "_law_caught", "_law_is_truth", "_law_same", "_law_q", "_law_plus", "_law_minus", "_law_times", "_law_less", "_law_ct_lots", "_law_ct_shares", "_law_ct_share", "_law_ct_rise", "_law_ct_served", "_law_ct_bids", "_law_ct_no_people", "_law_ct_no_lot", "_law_ct_no_amounts", "_law_k66_has", "_law_k66_kind"] : List PySem.Str)
def exB (K : PySem.W.Frag) : Bool := (decide (PySem.W.nsIn K mainGlobals "gcd" = some (some (.builtin "math.gcd"))) && (tupB K (He.ga K "ZERO") [0, 1] && (names.all (fun x => excCB K (He.ga K x)) && ((List.range 5).all (fun i => (List.range 5).all fun j => decide (PySem.W.kitOne K (.ref (He.ga K (names.getD i ""))) (.ref (He.ga K (names.getD j ""))) = some (decide (i = j)))) && (names.all (fun x => decide (PySem.W.exmOne K (.ref (He.ga K x)) (.ref (He.ga K "LieError")) = some true)) && true)))))
abbrev R : PySem.W.OpenRow := PySem.W.OpenLaw.row PySem.Challenge.rw_truthpays_k66_whole_no_lot_gains_by_lies
abbrev q : Program := PySem.W.view R.prog [0, 57]
abbrev hk : PySem.W.Hook := He.hookX 4 fa fn [] tf exB
def ob (s : PySem.W.SharedT) : He.AlX := He.obsX 4 fa fn [] tf exB (HandSHeadRun.getT s)
theorem ob_eq (s : PySem.W.SharedT) : ob s = hk.obs s.abs := He.obsX_eq (HandSHeadRun.getT_eq s)
theorem run (w : World) : HandSHeadRun.RunEqI R q hk ob 3000 loose w := by
  unfold HandSHeadRun.RunEqI
  kernel_rfl
theorem nm_of [WW] {K : PySem.W.Frag} {h : Heap} {mg : Str → Option Value} (X : K.In h) (G : h.Ns mainGlobals mg) (c : He.SaysD fa fn K) (m : exB K = true) : Nm K mg := by
  unfold exB at m
  rw [Bool.and_eq_true] at m
  obtain ⟨m0, m⟩ := m
  rw [Bool.and_eq_true] at m
  obtain ⟨m1, m⟩ := m
  rw [Bool.and_eq_true] at m
  obtain ⟨m2, m⟩ := m
  rw [Bool.and_eq_true] at m
  obtain ⟨m3, m⟩ := m
  rw [Bool.and_eq_true] at m
  obtain ⟨m4, m⟩ := m
  exact {
    b_isinstance := He.free_ok X G (c.fact 49 (f := .free "isinstance") rfl)
    b_int := He.free_ok X G (c.fact 50 (f := .free "int") rfl)
    b_bool := He.free_ok X G (c.fact 51 (f := .free "bool") rfl)
    b_tuple := He.free_ok X G (c.fact 52 (f := .free "tuple") rfl)
    b_len := He.free_ok X G (c.fact 53 (f := .free "len") rfl)
    b_all := He.free_ok X G (c.fact 54 (f := .free "all") rfl)
    b_range := He.free_ok X G (c.fact 55 (f := .free "range") rfl)
    b_sorted := He.free_ok X G (c.fact 56 (f := .free "sorted") rfl)
    b_list := He.free_ok X G (c.fact 57 (f := .free "list") rfl)
    b_zip := He.free_ok X G (c.fact 58 (f := .free "zip") rfl)
    b_enumerate := He.free_ok X G (c.fact 59 (f := .free "enumerate") rfl)
    b_abs := He.free_ok X G (c.fact 60 (f := .free "abs") rfl)
    b_min := He.free_ok X G (c.fact 61 (f := .free "min") rfl)
    b_dict := He.free_ok X G (c.fact 62 (f := .free "dict") rfl)
    b_str := He.free_ok X G (c.fact 63 (f := .free "str") rfl)
    m_gcd := PySem.W.mg_of X G (of_decide_eq_true m0)
    z_ZERO := He.glo_ok X G (c.fact 69 (f := .glo "ZERO") rfl)
    q_ZERO := tupF_of m1
    i_MOST_PEOPLE := He.int_ok X G (c.fact 70 (f := .int "MOST_PEOPLE" 4) rfl)
    c_LieError := He.glo_ok X G (c.fact 43 (f := .glo "LieError") rfl)
    c_BadBids := He.glo_ok X G (c.fact 44 (f := .glo "BadBids") rfl)
    c_BadLot := He.glo_ok X G (c.fact 45 (f := .glo "BadLot") rfl)
    c_BadPeople := He.glo_ok X G (c.fact 46 (f := .glo "BadPeople") rfl)
    c_BadShares := He.glo_ok X G (c.fact 47 (f := .glo "BadShares") rfl)
    c_BadWorths := He.glo_ok X G (c.fact 48 (f := .glo "BadWorths") rfl)
    x_BadBids := He.exc_ok (c.fact 64 (f := .exc "BadBids") rfl)
    x_BadLot := He.exc_ok (c.fact 65 (f := .exc "BadLot") rfl)
    x_BadPeople := He.exc_ok (c.fact 66 (f := .exc "BadPeople") rfl)
    x_BadShares := He.exc_ok (c.fact 67 (f := .exc "BadShares") rfl)
    x_BadWorths := He.exc_ok (c.fact 68 (f := .exc "BadWorths") rfl)
    g_is_whole := He.glo_ok X G (c.fact 0 (f := .glo "is_whole") rfl)
    f_is_whole := c.def_ 0 (d := dd "is_whole" 10) rfl
    g_is_ratio := He.glo_ok X G (c.fact 1 (f := .glo "is_ratio") rfl)
    f_is_ratio := c.def_ 1 (d := dd "is_ratio" 11) rfl
    g_lowest := He.glo_ok X G (c.fact 2 (f := .glo "lowest") rfl)
    f_lowest := c.def_ 2 (d := dd "lowest" 12) rfl
    g_minus := He.glo_ok X G (c.fact 3 (f := .glo "minus") rfl)
    f_minus := c.def_ 3 (d := dd "minus" 13) rfl
    g_is_less := He.glo_ok X G (c.fact 4 (f := .glo "is_less") rfl)
    f_is_less := c.def_ 4 (d := dd "is_less" 14) rfl
    g_lots_of := He.glo_ok X G (c.fact 5 (f := .glo "lots_of") rfl)
    f_lots_of := c.def_ 5 (d := dd "lots_of" 17) rfl
    g_is_people := He.glo_ok X G (c.fact 6 (f := .glo "is_people") rfl)
    f_is_people := c.def_ 6 (d := dd "is_people" 18) rfl
    g_need_people := He.glo_ok X G (c.fact 7 (f := .glo "need_people") rfl)
    f_need_people := c.def_ 7 (d := dd "need_people" 19) rfl
    g_are_amounts := He.glo_ok X G (c.fact 8 (f := .glo "are_amounts") rfl)
    f_are_amounts := c.def_ 8 (d := dd "are_amounts" 20) rfl
    g_is_lot_of := He.glo_ok X G (c.fact 9 (f := .glo "is_lot_of") rfl)
    f_is_lot_of := c.def_ 9 (d := dd "is_lot_of" 21) rfl
    g_need_lot := He.glo_ok X G (c.fact 10 (f := .glo "need_lot") rfl)
    f_need_lot := c.def_ 10 (d := dd "need_lot" 22) rfl
    g_are_shares := He.glo_ok X G (c.fact 11 (f := .glo "are_shares") rfl)
    f_are_shares := c.def_ 11 (d := dd "are_shares" 24) rfl
    g_need_shares := He.glo_ok X G (c.fact 12 (f := .glo "need_shares") rfl)
    f_need_shares := c.def_ 12 (d := dd "need_shares" 25) rfl
    g_share_of := He.glo_ok X G (c.fact 13 (f := .glo "share_of") rfl)
    f_share_of := c.def_ 13 (d := dd "share_of" 26) rfl
    g_stays := He.glo_ok X G (c.fact 14 (f := .glo "stays") rfl)
    f_stays := c.def_ 14 (d := dd "stays" 27) rfl
    g_served_of := He.glo_ok X G (c.fact 15 (f := .glo "served_of") rfl)
    f_served_of := c.def_ 15 (d := dd "served_of" 28) rfl
    g_charged_of := He.glo_ok X G (c.fact 16 (f := .glo "charged_of") rfl)
    f_charged_of := c.def_ 16 (d := dd "charged_of" 29) rfl
    g_has_of := He.glo_ok X G (c.fact 17 (f := .glo "has_of") rfl)
    f_has_of := c.def_ 17 (d := dd "has_of" 31) rfl
    g_lot_gain := He.glo_ok X G (c.fact 18 (f := .glo "lot_gain") rfl)
    f_lot_gain := c.def_ 18 (d := dd "lot_gain" 32) rfl
    g__law_begun := He.glo_ok X G (c.fact 19 (f := .glo "_law_begun") rfl)
    f__law_begun := c.def_ 19 (d := dd "_law_begun" 34) rfl
    g__law_blended := He.glo_ok X G (c.fact 20 (f := .glo "_law_blended") rfl)
    f__law_blended := c.def_ 20 (d := dd "_law_blended" 35) rfl
    g__law_draw := He.glo_ok X G (c.fact 21 (f := .glo "_law_draw") rfl)
    f__law_draw := c.def_ 21 (d := dd "_law_draw" 36) rfl
    g__law_pick := He.glo_ok X G (c.fact 22 (f := .glo "_law_pick") rfl)
    f__law_pick := c.def_ 22 (d := dd "_law_pick" 37) rfl
    g__law_caught := He.glo_ok X G (c.fact 23 (f := .glo "_law_caught") rfl)
    f__law_caught := c.def_ 23 (d := dd "_law_caught" 38) rfl
    g__law_is_truth := He.glo_ok X G (c.fact 24 (f := .glo "_law_is_truth") rfl)
    f__law_is_truth := c.def_ 24 (d := dd "_law_is_truth" 39) rfl
    g__law_same := He.glo_ok X G (c.fact 25 (f := .glo "_law_same") rfl)
    f__law_same := c.def_ 25 (d := dd "_law_same" 40) rfl
    g__law_q := He.glo_ok X G (c.fact 26 (f := .glo "_law_q") rfl)
    f__law_q := c.def_ 26 (d := dd "_law_q" 41) rfl
    g__law_plus := He.glo_ok X G (c.fact 27 (f := .glo "_law_plus") rfl)
    f__law_plus := c.def_ 27 (d := dd "_law_plus" 42) rfl
    g__law_minus := He.glo_ok X G (c.fact 28 (f := .glo "_law_minus") rfl)
    f__law_minus := c.def_ 28 (d := dd "_law_minus" 43) rfl
    g__law_times := He.glo_ok X G (c.fact 29 (f := .glo "_law_times") rfl)
    f__law_times := c.def_ 29 (d := dd "_law_times" 44) rfl
    g__law_less := He.glo_ok X G (c.fact 30 (f := .glo "_law_less") rfl)
    f__law_less := c.def_ 30 (d := dd "_law_less" 45) rfl
    g__law_ct_lots := He.glo_ok X G (c.fact 31 (f := .glo "_law_ct_lots") rfl)
    f__law_ct_lots := c.def_ 31 (d := dd "_law_ct_lots" 46) rfl
    g__law_ct_shares := He.glo_ok X G (c.fact 32 (f := .glo "_law_ct_shares") rfl)
    f__law_ct_shares := c.def_ 32 (d := dd "_law_ct_shares" 47) rfl
    g__law_ct_share := He.glo_ok X G (c.fact 33 (f := .glo "_law_ct_share") rfl)
    f__law_ct_share := c.def_ 33 (d := dd "_law_ct_share" 48) rfl
    g__law_ct_rise := He.glo_ok X G (c.fact 34 (f := .glo "_law_ct_rise") rfl)
    f__law_ct_rise := c.def_ 34 (d := dd "_law_ct_rise" 49) rfl
    g__law_ct_served := He.glo_ok X G (c.fact 35 (f := .glo "_law_ct_served") rfl)
    f__law_ct_served := c.def_ 35 (d := dd "_law_ct_served" 50) rfl
    g__law_ct_bids := He.glo_ok X G (c.fact 36 (f := .glo "_law_ct_bids") rfl)
    f__law_ct_bids := c.def_ 36 (d := dd "_law_ct_bids" 51) rfl
    g__law_ct_no_people := He.glo_ok X G (c.fact 37 (f := .glo "_law_ct_no_people") rfl)
    f__law_ct_no_people := c.def_ 37 (d := dd "_law_ct_no_people" 52) rfl
    g__law_ct_no_lot := He.glo_ok X G (c.fact 38 (f := .glo "_law_ct_no_lot") rfl)
    f__law_ct_no_lot := c.def_ 38 (d := dd "_law_ct_no_lot" 53) rfl
    g__law_ct_no_amounts := He.glo_ok X G (c.fact 39 (f := .glo "_law_ct_no_amounts") rfl)
    f__law_ct_no_amounts := c.def_ 39 (d := dd "_law_ct_no_amounts" 54) rfl
    g__law_k66_has := He.glo_ok X G (c.fact 40 (f := .glo "_law_k66_has") rfl)
    f__law_k66_has := c.def_ 40 (d := dd "_law_k66_has" 55) rfl
    g__law_k66_kind := He.glo_ok X G (c.fact 41 (f := .glo "_law_k66_kind") rfl)
    f__law_k66_kind := c.def_ 41 (d := dd "_law_k66_kind" 56) rfl
    g_law := He.glo_ok X G (c.fact 42 (f := .glo "law") rfl)
    f_law := c.def_ 42 (d := dd "law" 57) rfl
  }
theorem kinds_of [WW] {K : PySem.W.Frag} (m : exB K = true) : Kinds K := by
  unfold exB at m
  rw [Bool.and_eq_true] at m
  obtain ⟨m0, m⟩ := m
  rw [Bool.and_eq_true] at m
  obtain ⟨m1, m⟩ := m
  rw [Bool.and_eq_true] at m
  obtain ⟨m2, m⟩ := m
  rw [Bool.and_eq_true] at m
  obtain ⟨m3, m⟩ := m
  rw [Bool.and_eq_true] at m
  obtain ⟨m4, m⟩ := m
  refine ⟨fun x hx => all_mem m2 hx, fun i j x y hx hy => ?_, fun x hx => of_decide_eq_true (all_mem m4 hx)⟩
  have hi : i < 5 := (List.getElem?_eq_some_iff.mp hx).1
  have hj : j < 5 := (List.getElem?_eq_some_iff.mp hy).1
  have z := of_decide_eq_true (all_mem (all_mem m3 (List.mem_range.mpr hi)) (List.mem_range.mpr hj))
  rw [List.getD_eq_getElem?_getD, List.getD_eq_getElem?_getD, hx, hy] at z
  exact z
theorem all_law [WW] {P : Program} {w : World} {K : PySem.W.Frag} {mg : Str → Option Value} {base : Heap} {fd : FuncData} (hw : w = WW.w) (nm : Nm K mg) (F : FunD K "law" "law" (defArgs (tp 57)) (defBody (tp 57)) (defScope (tp 57)) [] [] (He.ga K "law") fd) (TB : LamX.TabB base mg (He.codeOf K ("law", none)) (lamP K)) (hK : Kinds K) :
    FnOk P w K mg base (CX P w) 9 (He.ga K "law") fd ["script"] (spLaw K (lamT K) 63) := by
  have c_is_whole : Con P w K (lamT K) mg base "is_whole" (defArgs (tp 10)) (defBody (tp 10)) (defScope (tp 10)) ps_is_whole 1 sp_is_whole := con_is_whole hw nm  w_is_whole
  have c_lowest : Con P w K (lamT K) mg base "lowest" (defArgs (tp 12)) (defBody (tp 12)) (defScope (tp 12)) ps_lowest 1 sp_lowest := con_lowest hw nm  w_lowest
  have c_is_less : Con P w K (lamT K) mg base "is_less" (defArgs (tp 14)) (defBody (tp 14)) (defScope (tp 14)) ps_is_less 1 sp_is_less := con_is_less hw nm  w_is_less
  have c_lots_of : Con P w K (lamT K) mg base "lots_of" (defArgs (tp 17)) (defBody (tp 17)) (defScope (tp 17)) ps_lots_of 1 sp_lots_of := con_lots_of hw nm  w_lots_of
  have c_share_of : Con P w K (lamT K) mg base "share_of" (defArgs (tp 26)) (defBody (tp 26)) (defScope (tp 26)) ps_share_of 1 sp_share_of := con_share_of hw nm  w_share_of
  have c__law_begun : Con P w K (lamT K) mg base "_law_begun" (defArgs (tp 34)) (defBody (tp 34)) (defScope (tp 34)) ps__law_begun 1 sp__law_begun := con__law_begun hw nm  w__law_begun
  have c__law_blended : Con P w K (lamT K) mg base "_law_blended" (defArgs (tp 35)) (defBody (tp 35)) (defScope (tp 35)) ps__law_blended 1 sp__law_blended := con__law_blended hw nm  w__law_blended
  have c__law_is_truth : Con P w K (lamT K) mg base "_law_is_truth" (defArgs (tp 39)) (defBody (tp 39)) (defScope (tp 39)) ps__law_is_truth 1 sp__law_is_truth := con__law_is_truth hw nm  w__law_is_truth
  have c__law_q : Con P w K (lamT K) mg base "_law_q" (defArgs (tp 41)) (defBody (tp 41)) (defScope (tp 41)) ps__law_q 1 sp__law_q := con__law_q hw nm  w__law_q
  have c__law_less : Con P w K (lamT K) mg base "_law_less" (defArgs (tp 45)) (defBody (tp 45)) (defScope (tp 45)) ps__law_less 1 sp__law_less := con__law_less hw nm  w__law_less
  have c__law_ct_lots : Con P w K (lamT K) mg base "_law_ct_lots" (defArgs (tp 46)) (defBody (tp 46)) (defScope (tp 46)) ps__law_ct_lots 1 sp__law_ct_lots := con__law_ct_lots hw nm  w__law_ct_lots
  have c__law_ct_share : Con P w K (lamT K) mg base "_law_ct_share" (defArgs (tp 48)) (defBody (tp 48)) (defScope (tp 48)) ps__law_ct_share 1 sp__law_ct_share := con__law_ct_share hw nm  w__law_ct_share
  have c__law_k66_kind : Con P w K (lamT K) mg base "_law_k66_kind" (defArgs (tp 56)) (defBody (tp 56)) (defScope (tp 56)) ps__law_k66_kind 1 (sp__law_k66_kind K) := con__law_k66_kind hw nm  w__law_k66_kind
  have c_is_ratio : Con P w K (lamT K) mg base "is_ratio" (defArgs (tp 11)) (defBody (tp 11)) (defScope (tp 11)) ps_is_ratio 2 sp_is_ratio := con_is_ratio hw nm c_is_whole w_is_ratio
  have c_minus : Con P w K (lamT K) mg base "minus" (defArgs (tp 13)) (defBody (tp 13)) (defScope (tp 13)) ps_minus 2 sp_minus := con_minus hw nm c_lowest w_minus
  have c_is_people : Con P w K (lamT K) mg base "is_people" (defArgs (tp 18)) (defBody (tp 18)) (defScope (tp 18)) ps_is_people 2 sp_is_people := con_is_people hw nm c_is_whole w_is_people
  have c_is_lot_of : Con P w K (lamT K) mg base "is_lot_of" (defArgs (tp 21)) (defBody (tp 21)) (defScope (tp 21)) ps_is_lot_of 2 sp_is_lot_of := con_is_lot_of hw nm c_is_whole c_lots_of w_is_lot_of
  have c_stays : Con P w K (lamT K) mg base "stays" (defArgs (tp 27)) (defBody (tp 27)) (defScope (tp 27)) ps_stays 2 sp_stays := con_stays hw nm c_is_less w_stays
  have c__law_draw : Con P w K (lamT K) mg base "_law_draw" (defArgs (tp 36)) (defBody (tp 36)) (defScope (tp 36)) ps__law_draw 2 sp__law_draw := con__law_draw hw nm c__law_blended w__law_draw
  have c__law_same : Con P w K (lamT K) mg base "_law_same" (defArgs (tp 40)) (defBody (tp 40)) (defScope (tp 40)) ps__law_same 2 sp__law_same := con__law_same hw nm c__law_is_truth w__law_same
  have c__law_plus : Con P w K (lamT K) mg base "_law_plus" (defArgs (tp 42)) (defBody (tp 42)) (defScope (tp 42)) ps__law_plus 2 sp__law_plus := con__law_plus hw nm c__law_q w__law_plus
  have c__law_minus : Con P w K (lamT K) mg base "_law_minus" (defArgs (tp 43)) (defBody (tp 43)) (defScope (tp 43)) ps__law_minus 2 sp__law_minus := con__law_minus hw nm c__law_q w__law_minus
  have c__law_times : Con P w K (lamT K) mg base "_law_times" (defArgs (tp 44)) (defBody (tp 44)) (defScope (tp 44)) ps__law_times 2 sp__law_times := con__law_times hw nm c__law_q w__law_times
  have c__law_ct_rise : Con P w K (lamT K) mg base "_law_ct_rise" (defArgs (tp 49)) (defBody (tp 49)) (defScope (tp 49)) ps__law_ct_rise 2 sp__law_ct_rise := con__law_ct_rise hw nm c__law_ct_lots c__law_less c__law_ct_share w__law_ct_rise
  have c__law_ct_served : Con P w K (lamT K) mg base "_law_ct_served" (defArgs (tp 50)) (defBody (tp 50)) (defScope (tp 50)) ps__law_ct_served 2 sp__law_ct_served := con__law_ct_served hw nm c__law_less c__law_ct_share w__law_ct_served
  have c_need_people : Con P w K (lamT K) mg base "need_people" (defArgs (tp 19)) (defBody (tp 19)) (defScope (tp 19)) ps_need_people 3 (sp_need_people K) := con_need_people hw nm c_is_people w_need_people
  have c_are_amounts : Con P w K (lamT K) mg base "are_amounts" (defArgs (tp 20)) (defBody (tp 20)) (defScope (tp 20)) ps_are_amounts 3 sp_are_amounts := con_are_amounts hw nm c_is_ratio w_are_amounts
  have c_need_lot : Con P w K (lamT K) mg base "need_lot" (defArgs (tp 22)) (defBody (tp 22)) (defScope (tp 22)) ps_need_lot 3 (sp_need_lot K) := con_need_lot hw nm c_is_lot_of w_need_lot
  have c_served_of : Con P w K (lamT K) mg base "served_of" (defArgs (tp 28)) (defBody (tp 28)) (defScope (tp 28)) ps_served_of 3 sp_served_of := con_served_of hw nm c_stays w_served_of
  have c__law_pick : Con P w K (lamT K) mg base "_law_pick" (defArgs (tp 37)) (defBody (tp 37)) (defScope (tp 37)) ps__law_pick 3 sp__law_pick := con__law_pick hw nm c__law_draw w__law_pick
  have c__law_k66_has : Con P w K (lamT K) mg base "_law_k66_has" (defArgs (tp 55)) (defBody (tp 55)) (defScope (tp 55)) ps__law_k66_has 3 sp__law_k66_has := con__law_k66_has hw nm c__law_ct_served c__law_minus c__law_ct_share w__law_k66_has
  have c_are_shares : Con P w K (lamT K) mg base "are_shares" (defArgs (tp 24)) (defBody (tp 24)) (defScope (tp 24)) ps_are_shares 4 sp_are_shares := con_are_shares hw nm c_lots_of c_is_lot_of c_are_amounts w_are_shares
  have c_charged_of : Con P w K (lamT K) mg base "charged_of" (defArgs (tp 29)) (defBody (tp 29)) (defScope (tp 29)) ps_charged_of 4 sp_charged_of := con_charged_of hw nm c_served_of c_share_of w_charged_of
  have c__law_ct_shares : Con P w K (lamT K) mg base "_law_ct_shares" (defArgs (tp 47)) (defBody (tp 47)) (defScope (tp 47)) ps__law_ct_shares 4 sp__law_ct_shares := con__law_ct_shares hw nm c__law_draw c__law_q c__law_pick c__law_ct_lots c__law_times w__law_ct_shares
  have c__law_ct_bids : Con P w K (lamT K) mg base "_law_ct_bids" (defArgs (tp 51)) (defBody (tp 51)) (defScope (tp 51)) ps__law_ct_bids 4 sp__law_ct_bids := con__law_ct_bids hw nm c__law_pick c__law_ct_lots c__law_ct_share c__law_plus c__law_q c__law_draw w__law_ct_bids
  have c__law_ct_no_people : Con P w K (lamT K) mg base "_law_ct_no_people" (defArgs (tp 52)) (defBody (tp 52)) (defScope (tp 52)) ps__law_ct_no_people 4 sp__law_ct_no_people := con__law_ct_no_people hw nm c__law_pick w__law_ct_no_people
  have c__law_ct_no_lot : Con P w K (lamT K) mg base "_law_ct_no_lot" (defArgs (tp 53)) (defBody (tp 53)) (defScope (tp 53)) ps__law_ct_no_lot 4 sp__law_ct_no_lot := con__law_ct_no_lot hw nm c__law_pick w__law_ct_no_lot
  have c__law_ct_no_amounts : Con P w K (lamT K) mg base "_law_ct_no_amounts" (defArgs (tp 54)) (defBody (tp 54)) (defScope (tp 54)) ps__law_ct_no_amounts 4 sp__law_ct_no_amounts := con__law_ct_no_amounts hw nm c__law_pick w__law_ct_no_amounts
  have c_need_shares : Con P w K (lamT K) mg base "need_shares" (defArgs (tp 25)) (defBody (tp 25)) (defScope (tp 25)) ps_need_shares 5 (sp_need_shares K) := con_need_shares hw nm c_need_people c_are_shares w_need_shares
  have c_has_of : Con P w K (lamT K) mg base "has_of" (defArgs (tp 31)) (defBody (tp 31)) (defScope (tp 31)) ps_has_of 5 sp_has_of := con_has_of hw nm c_served_of c_charged_of c_minus w_has_of
  have c_lot_gain : Con P w K (lamT K) mg base "lot_gain" (defArgs (tp 32)) (defBody (tp 32)) (defScope (tp 32)) ps_lot_gain 6 (sp_lot_gain K) := con_lot_gain hw nm c_need_shares c_are_amounts c_need_lot c_has_of c_minus w_lot_gain
  exact con_law hw nm F TB c__law_begun c__law_draw c__law_ct_shares c__law_ct_lots c__law_ct_rise c__law_ct_bids c__law_pick c__law_k66_has c__law_minus c__law_same c_lot_gain c__law_ct_no_amounts c__law_ct_no_lot c__law_k66_kind c__law_ct_no_people fun ns Qd hn hq => w_law [.kls (ns.map .int)] (fun _ => none) Qd (fun _ _ => False) rfl ⟨⟨hK, ns, rfl, hn⟩, hq⟩
theorem at_law (w : World) (K : PySem.W.Frag) (mg : Str → Option Value) (f : Addr) (h : Heap) (KX : K.In h) (G : h.Ns mainGlobals mg) (hmg : mg ("law" : PySem.Str) = some (.ref f)) (c : He.SaysX fa fn [] tf exB w h K) :
    LamX.LawAtS PySem.Challenge.rw_truthpays_k66_whole_no_lot_gains_by_lies w K (CX (PySem.Challenge.rw_truthpays_k66_whole_no_lot_gains_by_lies).prog w) 9 63 "script" mg f h := by
  letI : WW := ⟨w⟩
  have nm := nm_of KX G c.t.d c.more
  have hK := kinds_of c.more
  have e := hmg.symm.trans nm.g_law
  cases e
  obtain ⟨fd, F⟩ := nm.f_law
  have b := FunD.bindsA (ps := ["script"]) F fun _ _ _ _ _ _ us hl => match us, hl with | [_], _ => rfl
  have hm : (("law" : Str), (none : Option Str)) ∈ tf := List.mem_singleton.mpr rfl
  refine ⟨fd, [(He.codeOf K ("law", none), lamP K)], spLaw K (lamT K) 63, fun p hp => ?_, fun p hp => ?_, fun p hp => ?_, fun s v => b s [v] rfl, fun H a ns hl _ ht hS => ?_, fun base _ _ TB => ?_⟩
  · rw [List.mem_singleton.mp hp]; exact c.empty _ hm
  · rw [List.mem_singleton.mp hp]; exact c.out _ hm
  · rw [List.mem_singleton.mp hp]; exact PySem.W.codeHd_of_K KX (c.hd _ hm)
  · refine ⟨a, ns, rfl, hS, hl, fun p hp => ?_, fun _ => rfl⟩
    rw [List.mem_singleton.mp hp]
    exact LamX.TabS.nil (ht _ (List.mem_singleton.mpr rfl))
  · exact all_law rfl nm F (TB _ (List.mem_singleton.mpr rfl)) hK
end K66
open PySem PySem.W PySem.Calls PyProof.Rows
theorem PySem.Challenge.cw_truthpays_k66_whole_no_lot_gains_by_lies_holds : PySem.Challenge.rw_truthpays_k66_whole_no_lot_gains_by_lies.Holds := by
  w_on; o_law
  refine HandSHeadRun.head_imp (r := OpenLaw.row PySem.Challenge.rw_truthpays_k66_whole_no_lot_gains_by_lies) (q := K66.q) (H := K66.hk) (ob := K66.ob) (M := 3000) (loose := K66.loose) (d := HandSHeadRun.topDef (OpenLaw.row PySem.Challenge.rw_truthpays_k66_whole_no_lot_gains_by_lies).prog 57) (kwd := []) K66.ob_eq
    K66.run (by kernel_rfl) (by kernel_rfl) (by kernel_rfl) (by rfl) (by first | assumption | decide +kernel) (by decide +kernel) ⟨rfl, rfl, rfl, rfl, rfl, by decide +kernel⟩ ?hw ?hc
  case hw => w_witness2
  case hc =>
    refine LamX.walk_ofTsE (l := PySem.Challenge.rw_truthpays_k66_whole_no_lot_gains_by_lies) (n := 63) (k := 9) (x := "script") (CX := fun w => L2.CX (PySem.Challenge.rw_truthpays_k66_whole_no_lot_gains_by_lies).prog w) rfl (by decide) (by kernel_rfl) ⟨rfl, by decide, by decide⟩ ?F ?G
    case G => exact fun w H s e s1 z => by obtain ⟨_, _, _, _, _, _, _, _, _, _, _, _, z⟩ := z; exact z
    case F =>
      intro w mg fa h Y G hmg0
      obtain ⟨K, KX, c⟩ := Y
      have hmg : mg ("law" : PySem.Str) = some (.ref fa) := by
        have e : (HandSHeadRun.topDef (OpenLaw.row PySem.Challenge.rw_truthpays_k66_whole_no_lot_gains_by_lies).prog 57).name = ("law" : PySem.Str) := by kernel_rfl
        rw [← e]
        exact hmg0
      exact ⟨K, KX, K66.at_law w K mg fa h KX G hmg c⟩
