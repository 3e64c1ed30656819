import PyProof.Rows.All
import Wide.All
import OpenK.AllK
import Wide.FinOn
import PyProof.EqAt
import PyProof.EqKinds
import PyProof.TupleCall
import KE.DataCmp
import HandS.Base
import HandS.Call
import HandS.List
import HandS.Comp
import HandS.Ends
import HandS.Dict
import HandS.Iter
import HandS.More
import HandS.Exc
import HandS.ExcOwn
import HandS.TryMany
import HandS.Words
import HandS.WordsExc
import HandS.Wide
import HandS.IsInst
import HandS.Defaults
import HandS.HeadHook1
import HandS.HeadHook2
import HandS.Flow
import HandS.TupAny
import HandS.TupMul
import HandS.TupLe
import HandS.WideBits
import HandS.SortKw
import HandS.SortInts
import HandS.Conv
import KE.DataMinMax
import HandS.Deep
import HandS.Text
import KE.GoesMore
import HandS.Zip
import KE.KDictWalk
import KE.KItemsList
import KE.KDictExact
import HandS.TryOnly
import HandS.Style
import HandS.Small
import HandS.SetFor
import HandS.Strs
import HandS.ExcIs
import HandS.HeadEnd
import HandS.Head0
import HandS.Head1
import HandS.Head2
import PySem.Challenge.RW_wholesworn_k19_plans_and_light_formulas
set_option Elab.async false
set_option linter.all false
set_option maxRecDepth 100000
set_option maxHeartbeats 0
/-! The interpreter's values, its heap, and how they stand for what the model has. -/
namespace Py
open PySem PySem.Spec PyProof.Rows L2

/-- pure data -/
abbrev D := PyData
/-- a value: pure, an object that may change; scr is the script as it is given, ty a built-in type, gl an object that a global name stands for -/
inductive U where
  | d (d : D) | lab (n : Nat) | scr (xs : List Int) | ty (n : String) | gl (x : Str)
/-- an object that may change -/
inductive O where
  | lst (xs : List D) | mix (xs : List U) | dct (kvs : List (Key × D)) | hold (kvs : List (Key × D))
  deriving Inhabited
/-- what a run gives -/
inductive R (α : Type) where
  | ok (a : α) (h : List O) | err (c : Str) (h : List O) | bad
def R.bind {α β : Type} (r : R α) (f : α → List O → R β) : R β := match r with
  | .ok a h => f a h
  | .err c h => .err c h
  | .bad => .bad
@[simp] theorem R.bind_ok {α β : Type} (a : α) (h : List O) (f : α → List O → R β) : (R.ok a h).bind f = f a h := rfl
@[simp] theorem R.bind_err {α β : Type} (c : Str) (h : List O) (f : α → List O → R β) : (R.err c h : R α).bind f = .err c h := rfl
@[simp] theorem R.bind_bad {α β : Type} (f : α → List O → R β) : (R.bad : R α).bind f = .bad := rfl

/-! ### what they stand for -/
def KTup (K : PySem.W.Frag) (a : Addr) (xs : List V) : Prop :=
  ∃ (o : Obj) (its : Array Value) (n : Nat), K.lookup a = some o ∧ o.cls = .type "tuple" ∧ o.data = .seq its n ∧ its.size ≤ sizeLine ∧ Vals xs its.toList
def KLst (K : PySem.W.Frag) (a : Addr) (xs : List V) : Prop :=
  ∃ (o : Obj) (its : Array Value) (n : Nat), K.lookup a = some o ∧ o.cls = .type "list" ∧ o.dict = none ∧ o.data = .seq its n ∧ its.size ≤ sizeLine ∧ Vals xs its.toList
section
variable (K : PySem.W.Frag) (H : Hp) (μ : List Addr)
def TupAt (a : Addr) (vs : List V) : Prop := (H a = some (.tup vs) ∧ a ∉ μ) ∨ KTup K a vs
def ScrAt (a : Addr) (vs : List V) : Prop := (∃ o, H a = some (.frz o (.lst vs)) ∧ a ∉ μ) ∨ KLst K a vs
mutual
inductive RD : D → V → Prop
  | non : RD .none .non
  | bl (b : Bool) : RD (.bool b) (.bl b)
  | int (i : Int) : RD (.int i) (.int i)
  | str (s : Str) : PyData.strOk s = true → RD (.str s) (.str s)
  | tup {a : Addr} {vs : List V} {ds : List D} : TupAt K H μ a vs → RDs ds vs → RD (.tuple ds) (.ref a)
  | lst {a : Addr} {vs : List V} {ds : List D} : H a = some (.lst vs) → a ∉ μ → RDs ds vs → RD (.list ds) (.ref a)
inductive RDs : List D → List V → Prop
  | nil : RDs [] []
  | cons {d : D} {v : V} {ds : List D} {vs : List V} : RD d v → RDs ds vs → RDs (d :: ds) (v :: vs)
end
inductive RU : U → V → Prop
  | d {d : D} {v : V} : RD K H μ d v → RU (.d d) v
  | lab {n : Nat} {a : Addr} : μ[n]? = some a → RU (.lab n) (.ref a)
  | scr {a : Addr} {ns : List Int} : ScrAt K H μ a (ns.map V.int) → RU (.scr ns) (.ref a)
  | ty (n : String) : RU (.ty n) (.ty n)
  | gl (x : Str) : RU (.gl x) (.ref (He.ga K x))
inductive RUs : List U → List V → Prop
  | nil : RUs [] []
  | cons {d : U} {v : V} {ds : List U} {vs : List V} : RU K H μ d v → RUs ds vs → RUs (d :: ds) (v :: vs)
def RKs : List (Key × D) → List (Key × V) → Prop := Paired fun p q => p.1 = q.1 ∧ RD K H μ p.2 q.2
def U.below (n : Nat) : U → Prop
  | .lab m => m < n
  | _ => True
instance (n : Nat) : DecidablePred (U.below n) := fun u => by cases u <;> (unfold U.below; infer_instance)
inductive RO (n : Nat) : O → HO → Prop
  | lst {xs : List D} {vs : List V} : RDs K H μ xs vs → RO n (.lst xs) (.lst vs)
  | mix {xs : List U} {vs : List V} : RUs K H μ xs vs → (∀ u ∈ xs, u.below n) → RO n (.mix xs) (.lst vs)
  | dct {kvs : List (Key × D)} {vs : List (Key × V)} : RKs K H μ kvs vs → RO n (.dct kvs) (.dK vs)
  | hold {o : Obj} {kvs : List (Key × D)} {vs : List (Key × V)} : RKs K H μ kvs vs → RO n (.hold kvs) (.frz o (.dK vs))
structure Rh (h : List O) : Prop where
  len : h.length = μ.length
  nd : μ.Nodup
  obj : ∀ n o a, h[n]? = some o → μ[n]? = some a → ∃ ho, H a = some ho ∧ RO K H μ n o ho
def RE (σ' : List (Option U)) (σ : L2.St) : Prop := σ'.length = σ.length ∧ ∀ (i : Nat) (u : U), σ'[i]? = some (some u) → ∃ v : V, σ[i]? = some (some v) ∧ RU K H μ u v
end
/-- the heap has grown, what may change has changed -/
structure Ext0 (μ : List Addr) (H : Hp) (μ' : List Addr) (H' : Hp) : Prop where
  pre : ∃ r, μ' = μ ++ r
  keep : ∀ a o, H a = some o → a ∉ μ → H' a = some o ∧ a ∉ μ'
section
variable {K : PySem.W.Frag} {H H' H1 H2 : Hp} {μ μ' μ1 μ2 : List Addr}
theorem Ext0.refl : Ext0 μ H μ H := ⟨⟨[], by simp⟩, fun a o h n => ⟨h, n⟩⟩
theorem Ext0.trans (e : Ext0 μ H μ1 H1) (f : Ext0 μ1 H1 μ2 H2) : Ext0 μ H μ2 H2 := by
  obtain ⟨r, rfl⟩ := e.pre
  obtain ⟨r', rfl⟩ := f.pre
  exact ⟨⟨r ++ r', by simp⟩, fun a o h n => let ⟨h1, n1⟩ := e.keep a o h n; f.keep a o h1 n1⟩
theorem Ext0.get (e : Ext0 μ H μ' H') {n : Nat} {a : Addr} (h : μ[n]? = some a) : μ'[n]? = some a := by
  obtain ⟨r, rfl⟩ := e.pre
  rw [List.getElem?_append_left (List.getElem?_eq_some_iff.mp h).1, h]
theorem TupAt.ext0 (e : Ext0 μ H μ' H') {a : Addr} {vs : List V} (h : TupAt K H μ a vs) : TupAt K H' μ' a vs := by
  rcases h with ⟨h, n⟩ | h
  · exact .inl (e.keep a _ h n)
  · exact .inr h
theorem ScrAt.ext0 (e : Ext0 μ H μ' H') {a : Addr} {vs : List V} (h : ScrAt K H μ a vs) : ScrAt K H' μ' a vs := by
  rcases h with ⟨o, h, n⟩ | h
  · exact .inl ⟨o, e.keep a _ h n⟩
  · exact .inr h
mutual
theorem RD.ext0 (e : Ext0 μ H μ' H') : ∀ {d : D} {v : V}, RD K H μ d v → RD K H' μ' d v
  | _, _, .non => .non
  | _, _, .bl b => .bl b
  | _, _, .int i => .int i
  | _, _, .str s h => .str s h
  | _, _, .tup h r => .tup (h.ext0 e) (RDs.ext0 e r)
  | _, _, .lst h n r => let ⟨h1, n1⟩ := e.keep _ _ h n; .lst h1 n1 (RDs.ext0 e r)
theorem RDs.ext0 (e : Ext0 μ H μ' H') : ∀ {d : List D} {v : List V}, RDs K H μ d v → RDs K H' μ' d v
  | _, _, .nil => .nil
  | _, _, .cons h r => .cons (RD.ext0 e h) (RDs.ext0 e r)
end
theorem RU.ext0 (e : Ext0 μ H μ' H') {u : U} {v : V} (h : RU K H μ u v) : RU K H' μ' u v := by
  cases h with
  | d h => exact .d (h.ext0 e)
  | lab h => exact .lab (e.get h)
  | scr h => exact .scr (h.ext0 e)
  | ty n => exact .ty n
  | gl x => exact .gl x
theorem RUs.ext0 (e : Ext0 μ H μ' H') {u : List U} {v : List V} (h : RUs K H μ u v) : RUs K H' μ' u v := by
  induction h with
  | nil => exact .nil
  | cons h _ ih => exact .cons (h.ext0 e) ih
theorem RKs.ext0 (e : Ext0 μ H μ' H') {u : List (Key × D)} {v : List (Key × V)} (h : RKs K H μ u v) : RKs K H' μ' u v :=
  Paired.mapP h fun _ _ q => ⟨q.1, q.2.ext0 e⟩
theorem RO.ext0 (e : Ext0 μ H μ' H') {n : Nat} {o : O} {ho : HO} (h : RO K H μ n o ho) : RO K H' μ' n o ho := by
  cases h with
  | lst h => exact .lst (h.ext0 e)
  | mix h b => exact .mix (h.ext0 e) b
  | dct h => exact .dct (h.ext0 e)
  | hold h => exact .hold (h.ext0 e)
theorem RE.ext0 (e : Ext0 μ H μ' H') {σ' : List (Option U)} {σ : L2.St} (h : RE K H μ σ' σ) : RE K H' μ' σ' σ :=
  ⟨h.1, fun i u q => let ⟨v, h1, h2⟩ := h.2 i u q; ⟨v, h1, h2.ext0 e⟩⟩
end
/-- .. and what is locked stays so -/
structure Ext (μ : List Addr) (H : Hp) (μ' : List Addr) (H' : Hp) : Prop extends Ext0 μ H μ' H' where
  frz : ∀ a o u, H a = some (.frz o u) → H' a = some (.frz o u)
section
variable {K : PySem.W.Frag} {H H' H1 H2 : Hp} {μ μ' μ1 μ2 : List Addr}
theorem Ext.refl : Ext μ H μ H := ⟨Ext0.refl, fun _ _ _ h => h⟩
theorem Ext.trans (e : Ext μ H μ1 H1) (f : Ext μ1 H1 μ2 H2) : Ext μ H μ2 H2 := ⟨e.toExt0.trans f.toExt0, fun a o u h => f.frz a o u (e.frz a o u h)⟩
theorem Ext.get (e : Ext μ H μ' H') {n : Nat} {a : Addr} (h : μ[n]? = some a) : μ'[n]? = some a := e.toExt0.get h
theorem TupAt.ext (e : Ext μ H μ' H') {a : Addr} {vs : List V} (h : TupAt K H μ a vs) : TupAt K H' μ' a vs := h.ext0 e.toExt0
theorem ScrAt.ext (e : Ext μ H μ' H') {a : Addr} {vs : List V} (h : ScrAt K H μ a vs) : ScrAt K H' μ' a vs := h.ext0 e.toExt0
theorem RD.ext (e : Ext μ H μ' H') {d : D} {v : V} (h : RD K H μ d v) : RD K H' μ' d v := RD.ext0 e.toExt0 h
theorem RDs.ext (e : Ext μ H μ' H') {d : List D} {v : List V} (h : RDs K H μ d v) : RDs K H' μ' d v := RDs.ext0 e.toExt0 h
theorem RU.ext (e : Ext μ H μ' H') {u : U} {v : V} (h : RU K H μ u v) : RU K H' μ' u v := h.ext0 e.toExt0
theorem RUs.ext (e : Ext μ H μ' H') {u : List U} {v : List V} (h : RUs K H μ u v) : RUs K H' μ' u v := h.ext0 e.toExt0
theorem RKs.ext (e : Ext μ H μ' H') {u : List (Key × D)} {v : List (Key × V)} (h : RKs K H μ u v) : RKs K H' μ' u v := RKs.ext0 e.toExt0 h
theorem RO.ext (e : Ext μ H μ' H') {n : Nat} {o : O} {ho : HO} (h : RO K H μ n o ho) : RO K H' μ' n o ho := h.ext0 e.toExt0
theorem RE.ext (e : Ext μ H μ' H') {σ' : List (Option U)} {σ : L2.St} (h : RE K H μ σ' σ) : RE K H' μ' σ' σ := h.ext0 e.toExt0
theorem RE.set {σ' : List (Option U)} {σ : L2.St} (h : RE K H μ σ' σ) {i : Nat} {u : U} {v : V} (r : RU K H μ u v) : RE K H μ (σ'.set i (some u)) (σ.set i (some v)) := by
  refine ⟨by rw [List.length_set, List.length_set, h.1], fun j w q => ?_⟩
  by_cases e : i = j
  · subst e
    by_cases hi : i < σ'.length
    · rw [List.getElem?_set_self hi] at q
      cases q
      exact ⟨v, List.getElem?_set_self (by rw [← h.1]; exact hi), r⟩
    · rw [List.getElem?_eq_none (by rw [List.length_set]; omega)] at q
      cases q
  · rw [List.getElem?_set_ne e] at q ⊢
    exact h.2 j w q
theorem RDs.length {ds : List D} {vs : List V} (h : RDs K H μ ds vs) : ds.length = vs.length := by
  induction ds generalizing vs with
  | nil => cases h; rfl
  | cons d ds ih => cases h with | cons _ r => rw [List.length_cons, List.length_cons, ih r]
theorem RDs.get {ds : List D} {vs : List V} (h : RDs K H μ ds vs) {i : Nat} {d : D} (e : ds[i]? = some d) : ∃ v, vs[i]? = some v ∧ RD K H μ d v := by
  induction ds generalizing vs i with
  | nil => simp at e
  | cons x ds ih =>
    cases h with
    | cons hx r =>
      cases i with
      | zero => simp at e; subst e; exact ⟨_, rfl, hx⟩
      | succ i => obtain ⟨v, h1, h2⟩ := ih r (i := i) (by simpa using e); exact ⟨v, by simpa using h1, h2⟩
theorem RDs.append {ds es : List D} {vs ws : List V} (h : RDs K H μ ds vs) (g : RDs K H μ es ws) : RDs K H μ (ds ++ es) (vs ++ ws) := by
  induction ds generalizing vs with
  | nil => cases h; exact g
  | cons d ds ih => cases h with | cons hx r => exact .cons hx (ih r)
theorem RDs.take {ds : List D} {vs : List V} (h : RDs K H μ ds vs) (n : Nat) : RDs K H μ (ds.take n) (vs.take n) := by
  induction ds generalizing vs n with
  | nil => cases h; cases n <;> exact .nil
  | cons d ds ih =>
    cases h with
    | cons hx r =>
      cases n with
      | zero => exact .nil
      | succ n => exact .cons hx (ih r n)
theorem RDs.drop {ds : List D} {vs : List V} (h : RDs K H μ ds vs) (n : Nat) : RDs K H μ (ds.drop n) (vs.drop n) := by
  induction ds generalizing vs n with
  | nil => cases h; cases n <;> exact .nil
  | cons d ds ih =>
    cases h with
    | cons hx r =>
      cases n with
      | zero => exact .cons hx r
      | succ n => exact ih r n
theorem RDs.set {ds : List D} {vs : List V} (h : RDs K H μ ds vs) {d : D} {v : V} (r : RD K H μ d v) (n : Nat) : RDs K H μ (ds.set n d) (vs.set n v) := by
  induction ds generalizing vs n with
  | nil => cases h; exact .nil
  | cons x ds ih =>
    cases h with
    | cons hx q =>
      cases n with
      | zero => exact .cons r q
      | succ n => exact .cons hx (ih q n)
theorem RDs.eraseIdx {ds : List D} {vs : List V} (h : RDs K H μ ds vs) (n : Nat) : RDs K H μ (ds.eraseIdx n) (vs.eraseIdx n) := by
  induction ds generalizing vs n with
  | nil => cases h; exact .nil
  | cons x ds ih =>
    cases h with
    | cons hx q =>
      cases n with
      | zero => exact q
      | succ n => exact .cons hx (ih q n)
theorem RDs.dropLast {ds : List D} {vs : List V} (h : RDs K H μ ds vs) : RDs K H μ ds.dropLast vs.dropLast := by
  induction ds generalizing vs with
  | nil => cases h; exact .nil
  | cons x ds ih =>
    cases h with
    | cons hx q =>
      cases q with
      | nil => exact .nil
      | cons hy q' => exact .cons hx (ih (.cons hy q'))
theorem RDs.reverse {ds : List D} {vs : List V} (h : RDs K H μ ds vs) : RDs K H μ ds.reverse vs.reverse := by
  induction ds generalizing vs with
  | nil => cases h; exact .nil
  | cons x ds ih =>
    cases h with
    | cons hx q => rw [List.reverse_cons, List.reverse_cons]; exact (ih q).append (.cons hx .nil)
theorem RUs.length {ds : List U} {vs : List V} (h : RUs K H μ ds vs) : ds.length = vs.length := by
  induction h with
  | nil => rfl
  | cons _ _ ih => rw [List.length_cons, List.length_cons, ih]
theorem RUs.get {ds : List U} {vs : List V} (h : RUs K H μ ds vs) {i : Nat} {d : U} (e : ds[i]? = some d) : ∃ v, vs[i]? = some v ∧ RU K H μ d v := by
  induction h generalizing i with
  | nil => simp at e
  | cons hx r ih =>
    cases i with
    | zero => simp at e; subst e; exact ⟨_, rfl, hx⟩
    | succ i => obtain ⟨v, h1, h2⟩ := ih (i := i) (by simpa using e); exact ⟨v, by simpa using h1, h2⟩
theorem RUs.set {ds : List U} {vs : List V} (h : RUs K H μ ds vs) {d : U} {v : V} (r : RU K H μ d v) (n : Nat) : RUs K H μ (ds.set n d) (vs.set n v) := by
  induction h generalizing n with
  | nil => exact .nil
  | cons hx q ih =>
    cases n with
    | zero => exact .cons r q
    | succ n => exact .cons hx (ih n)
/-- all pure -/
def pures : List U → Option (List D)
  | [] => some []
  | .d x :: r => (pures r).map (x :: ·)
  | _ :: _ => none
theorem pures_rel {us : List U} {ds : List D} {vs : List V} (h : RUs K H μ us vs) (e : pures us = some ds) : RDs K H μ ds vs := by
  induction h generalizing ds with
  | nil => cases e; exact .nil
  | @cons u v us vs hx r ih =>
    cases u with
    | lab n => cases e
    | scr n => cases e
    | ty n => cases e
    | gl n => cases e
    | d x =>
      unfold pures at e
      cases q : pures us with
      | none => rw [q] at e; cases e
      | some ys =>
        rw [q] at e
        cases e
        cases hx with
        | d hx => exact .cons hx (ih q)
theorem TupAt.sq {a : Addr} {vs : List V} (h : TupAt K H μ a vs) : SqT K H a vs := by
  rcases h with ⟨h, _⟩ | h
  · exact .inl (.inl h)
  · exact .inr h
theorem ScrAt.sq {a : Addr} {vs : List V} (h : ScrAt K H μ a vs) : SqL K H a vs := by
  rcases h with ⟨o, h, _⟩ | h
  · exact .inl (.inr ⟨o, h⟩)
  · exact .inr h
/-! ### the heap's steps -/
theorem Ext.new {p : Addr} {ho : HO} (hp : H p = none) : Ext μ H μ (upd H p ho) := ⟨⟨⟨[], by simp⟩, fun a o h n => ⟨by rw [upd_ne (ne_of_none h hp)]; exact h, n⟩⟩, fun a o u h => by rw [upd_ne (ne_of_none h hp)]; exact h⟩
theorem Rh.mono {h : List O} (r : Rh K H μ h) (e : Ext μ H μ H') (k : ∀ a o, a ∈ μ → H a = some o → H' a = some o) : Rh K H' μ h :=
  ⟨r.len, r.nd, fun n o a h1 h2 => let ⟨ho, q1, q2⟩ := r.obj n o a h1 h2; ⟨ho, k a ho (List.mem_of_getElem? h2) q1, q2.ext e⟩⟩
theorem Rh.new {h : List O} (r : Rh K H μ h) {p : Addr} {ho : HO} (hp : H p = none) : Rh K (upd H p ho) μ h :=
  r.mono (Ext.new hp) fun a o _ q => by rw [upd_ne (ne_of_none q hp)]; exact q
theorem Rh.there {h : List O} (r : Rh K H μ h) {a : Addr} (ha : a ∈ μ) : ∃ ho, H a = some ho := by
  obtain ⟨n, hn, e⟩ := List.getElem_of_mem ha
  have h1 : μ[n]? = some a := by rw [List.getElem?_eq_getElem hn, e]
  have hl : n < h.length := by rw [r.len]; exact hn
  obtain ⟨ho, q, _⟩ := r.obj n h[n] a (List.getElem?_eq_getElem hl) h1
  exact ⟨ho, q⟩
theorem Rh.notin {h : List O} (r : Rh K H μ h) {p : Addr} (hp : H p = none) : p ∉ μ := fun m => by
  obtain ⟨ho, q⟩ := r.there m
  rw [hp] at q; cases q
/-- a new object that may change -/
theorem Ext.lab {p : Addr} {ho : HO} (hp : H p = none) : Ext μ H (μ ++ [p]) (upd H p ho) :=
  ⟨⟨⟨[p], rfl⟩, fun a o h n => ⟨by rw [upd_ne (ne_of_none h hp)]; exact h, by
    rw [List.mem_append, not_or]
    exact ⟨n, by simpa using ne_of_none h hp⟩⟩⟩, fun a o u h => by rw [upd_ne (ne_of_none h hp)]; exact h⟩
theorem Rh.lab {h : List O} (r : Rh K H μ h) {p : Addr} {o : O} {ho : HO} (hp : H p = none) (q : RO K H μ h.length o ho) : Rh K (upd H p ho) (μ ++ [p]) (h ++ [o]) := by
  have e : Ext μ H (μ ++ [p]) (upd H p ho) := Ext.lab hp
  refine ⟨by simp [r.len], ?_, fun n o' a h1 h2 => ?_⟩
  · rw [List.nodup_append]
    exact ⟨r.nd, by simp, fun a ha b hb => by
      rw [List.mem_singleton] at hb
      subst hb
      rintro rfl
      exact r.notin hp ha⟩
  · by_cases hn : n < h.length
    · rw [List.getElem?_append_left hn] at h1
      rw [List.getElem?_append_left (by rw [← r.len]; exact hn)] at h2
      obtain ⟨ho', q1, q2⟩ := r.obj n o' a h1 h2
      exact ⟨ho', by rw [upd_ne (ne_of_none q1 hp)]; exact q1, q2.ext e⟩
    · have hn' : n = h.length := by
        have := (List.getElem?_eq_some_iff.mp h1).1
        simp at this
        omega
      subst hn'
      rw [List.getElem?_append_right (Nat.le_refl _)] at h1
      rw [List.getElem?_append_right (by rw [r.len]; exact Nat.le_refl _)] at h2
      simp [r.len] at h1 h2
      subst h1 h2
      exact ⟨ho, upd_same, q.ext e⟩
/-- an object is changed -/
theorem Ext0.chg {n : Nat} {a : Addr} {ho : HO} (ha : μ[n]? = some a) : Ext0 μ H μ (upd H a ho) :=
  ⟨⟨[], by simp⟩, fun b o h nb => ⟨by
    have ne : b ≠ a := by
      rintro rfl
      exact nb (List.mem_of_getElem? ha)
    rw [upd_ne ne]
    exact h, nb⟩⟩
def nfz : HO → Bool
  | .frz _ _ => false
  | _ => true
theorem Ext.chg {n : Nat} {a : Addr} {ho h0 : HO} (ha : μ[n]? = some a) (hh : H a = some h0) (hf : nfz h0 = true := by rfl) : Ext μ H μ (upd H a ho) :=
  ⟨Ext0.chg ha, fun b o u h => by
    have ne : b ≠ a := by
      rintro rfl
      rw [hh] at h
      cases h
      cases hf
    rw [upd_ne ne]
    exact h⟩
theorem nodup_at {μ : List Addr} (nd : μ.Nodup) {i j : Nat} {a : Addr} (h1 : μ[i]? = some a) (h2 : μ[j]? = some a) : i = j := by
  obtain ⟨hi, e1⟩ := List.getElem?_eq_some_iff.mp h1
  obtain ⟨hj, e2⟩ := List.getElem?_eq_some_iff.mp h2
  exact (List.getElem_inj nd).mp (e1.trans e2.symm)
theorem Rh.chg {h : List O} (r : Rh K H μ h) {n : Nat} {a : Addr} {o : O} {ho : HO} (ha : μ[n]? = some a) (q : RO K H μ n o ho) : Rh K (upd H a ho) μ (h.set n o) := by
  refine ⟨by rw [List.length_set, r.len], r.nd, fun m o' b h1 h2 => ?_⟩
  by_cases e : n = m
  · subst e
    rw [ha] at h2; cases h2
    have hn : n < h.length := by
      have := (List.getElem?_eq_some_iff.mp h1).1
      simpa using this
    rw [List.getElem?_set_self hn] at h1
    cases h1
    exact ⟨ho, upd_same, q.ext0 (Ext0.chg ha)⟩
  · rw [List.getElem?_set_ne e] at h1
    obtain ⟨ho', q1, q2⟩ := r.obj m o' b h1 h2
    have hb : b ≠ a := fun z => e (nodup_at r.nd ha (z ▸ h2))
    exact ⟨ho', by rw [upd_ne hb]; exact q1, q2.ext0 (Ext0.chg ha)⟩
theorem Rh.labAt {h : List O} (r : Rh K H μ h) {n : Nat} {o : O} (e : h[n]? = some o) : ∃ a, μ[n]? = some a := by
  have hn := (List.getElem?_eq_some_iff.mp e).1
  rw [r.len] at hn
  exact ⟨μ[n], List.getElem?_eq_getElem hn⟩
end
end Py

namespace Py
open PySem PySem.Spec PyProof.Rows L2

abbrev En := List (Option U)
/-- what a run tells of the wish behind it -/
def Post {α β : Type} (K : PySem.W.Frag) (W : WX) (σ : L2.St) (H : Hp) (μ : List Addr) (Rel : Hp → List Addr → α → β → Prop) (r : R α) (Q : β → Hp → Prop) : Prop :=
  match r with
  | .ok a h' => ∀ H' μ' b, Ext μ H μ' H' → Rh K H' μ' h' → Rel H' μ' a b → Q b H'
  | .err c h' => ∀ H' μ', Ext μ H μ' H' → Rh K H' μ' h' → W (.ref (He.ga K c)) none σ H'
  | .bad => False
section
variable {α β γ δ : Type} {K : PySem.W.Frag} {W : WX} {σ : L2.St} {H H' : Hp} {μ μ' : List Addr} {Rel : Hp → List Addr → α → β → Prop} {Rel2 : Hp → List Addr → γ → δ → Prop} {r : R α} {Q Q' : β → Hp → Prop} {Q2 : δ → Hp → Prop} {f : α → List O → R γ}
theorem Post.at (p : Post K W σ H μ Rel r Q) (e : Ext μ H μ' H') : Post K W σ H' μ' Rel r Q := by
  cases r with
  | ok a h => exact fun H2 μ2 b e2 => p H2 μ2 b (e.trans e2)
  | err c h => exact fun H2 μ2 e2 => p H2 μ2 (e.trans e2)
  | bad => exact p
theorem Post.bind (p : Post K W σ H μ Rel2 (r.bind f) Q2)
    (k : ∀ a h' H' μ' b, Ext μ H μ' H' → Rh K H' μ' h' → Rel H' μ' a b → Post K W σ H' μ' Rel2 (f a h') Q2 → Q b H') : Post K W σ H μ Rel r Q := by
  cases r with
  | ok a h => exact fun H2 μ2 b e2 rh rel => k a h H2 μ2 b e2 rh rel (Post.at p e2)
  | err c h => exact p
  | bad => exact p
theorem Post.ret {a : α} {b : β} {h : List O} (p : Post K W σ H μ Rel (.ok a h) Q) (rh : Rh K H μ h) (rel : Rel H μ a b) : Q b H := p H μ b Ext.refl rh rel
end

def eqD (a b : D) : Prop := a = b

/-- e tells what f says -/
def Den (X : Cx) (W : WX) (e : Expr) (f : En → List O → R U) : Prop :=
  ∃ t, PE X e t ∧ ∀ σ' h σ H μ Q, RE X.K H μ σ' σ → Rh X.K H μ h → Post X.K W σ H μ (RU X.K) (f σ' h) Q → t σ H Q
def DenA (X : Cx) (W : WX) (es : List Expr) (f : En → List O → R (List U)) : Prop :=
  ∃ t, PA X es t ∧ ∀ σ' h σ H μ Q, RE X.K H μ σ' σ → Rh X.K H μ h → Post X.K W σ H μ (RUs X.K) (f σ' h) Q → t σ H Q
def relB (_ : Hp) (_ : List Addr) (a b : Bool) : Prop := a = b
def DenT (X : Cx) (W : WX) (e : Expr) (f : En → List O → R Bool) : Prop :=
  ∃ t, PT X e t ∧ ∀ σ' h σ H μ Q, RE X.K H μ σ' σ → Rh X.K H μ h → Post X.K W σ H μ relB (f σ' h) Q → t σ H Q

section
variable {X : Cx} {W : WX}
/-! ### names, constants -/
def evC (u : U) : En → List O → R U := fun _ h => .ok u h
theorem den_int {i : Int} {j pos} : Den X W (.Constant (.int i) j pos) (evC (.d (.int i))) := ⟨_, pe_int, fun σ' h σ H μ Q re rh p => p.ret rh (.d (.int i))⟩
theorem den_bl {i : Bool} {j pos} : Den X W (.Constant (.bool i) j pos) (evC (.d (.bool i))) := ⟨_, pe_bl, fun σ' h σ H μ Q re rh p => p.ret rh (.d (.bl i))⟩
theorem den_str {i : Str} {j pos} (hs : PyData.strOk i = true) : Den X W (.Constant (.str i) j pos) (evC (.d (.str i))) := ⟨_, pe_str, fun σ' h σ H μ Q re rh p => p.ret rh (.d (.str i hs))⟩
theorem den_non {j pos} : Den X W (.Constant .none j pos) (evC (.d .none)) := ⟨_, pe_non, fun σ' h σ H μ Q re rh p => p.ret rh (.d .non)⟩
def evV (i : Nat) : En → List O → R U := fun σ h => match σ[i]? with
  | some (some u) => .ok u h
  | _ => .bad
theorem den_var {i : Nat} {x : Str} {pos : Pos} (hN : X.N[i]? = some x) (hv : Vis X.env.scope x) (hd : (x == ("__debug__" : Str)) = false) (hcd : (x == ("__classdict__" : Str)) = false) : Den X W (.Name x pos) (evV i) := by
  refine ⟨_, pe_var hN hv hd hcd, fun σ' h σ H μ Q re rh p => ?_⟩
  unfold evV at p
  split at p
  · rename_i u e
    obtain ⟨v, e2, r⟩ := re.2 i u e
    exact ⟨v, e2, p.ret rh r⟩
  · exact p.elim
/-- a global name that stands for an object -/
theorem den_gl {x : Str} {pos : Pos} (hg : Gl X x) (hm : X.mg x = some (.ref (He.ga X.K x))) (hd : (x == ("__debug__" : Str)) = false) : Den X W (.Name x pos) (evC (.gl x)) :=
  ⟨_, pe_glob hg hm (v := .ref (He.ga X.K x)) rfl hd, fun σ' h σ H μ Q re rh p => p.ret rh (.gl x)⟩
/-- a global that is an int -/
theorem den_gint {x : Str} {i : Int} {pos : Pos} (hg : Gl X x) (hm : ∃ t, X.mg x = some (.int i t)) (hd : (x == ("__debug__" : Str)) = false) : Den X W (.Name x pos) (evC (.d (.int i))) := by
  obtain ⟨t, hm⟩ := hm
  exact ⟨_, pe_glob hg hm (v := .int i) ⟨t, rfl⟩ hd, fun σ' h σ H μ Q re rh p => p.ret rh (.d (.int i))⟩
/-- a global that is a written tuple -/
theorem den_gtup {x : Str} {ds : List D} {pos : Pos} (hg : Gl X x) (hm : X.mg x = some (.ref (He.ga X.K x))) (ht : ∃ vs, KTup X.K (He.ga X.K x) vs ∧ ∀ H μ, RDs X.K H μ ds vs) (hd : (x == ("__debug__" : Str)) = false) : Den X W (.Name x pos) (evC (.d (.tuple ds))) := by
  obtain ⟨vs, h1, h2⟩ := ht
  exact ⟨_, pe_glob hg hm (v := .ref (He.ga X.K x)) rfl hd, fun σ' h σ H μ Q re rh p => p.ret rh (.d (.tup (.inr h1) (h2 H μ)))⟩
/-- a built-in type's name as a value -/
theorem den_ty {x : Str} {n : String} {pos : Pos} (hg : Gl X x) (hm : X.mg x = none) (hv : bootBuiltins x = some (.type n)) (hn : x ≠ "__name__") (hd : (x == ("__debug__" : Str)) = false) : Den X W (.Name x pos) (evC (.ty n)) :=
  ⟨_, pe_bltn hg hm hv (v := .ty n) rfl hn hd, fun σ' h σ H μ Q re rh p => p.ret rh (.ty n)⟩

/-! ### two in a row -/
def ev2 (fa fb : En → List O → R U) (g : U → U → List O → R U) : En → List O → R U := fun σ h => (fa σ h).bind fun a h1 => (fb σ h1).bind fun b h2 => g a b h2
def ev1 (fa : En → List O → R U) (g : U → List O → R U) : En → List O → R U := fun σ h => (fa σ h).bind fun a h1 => g a h1
/-- a rule for an operation on values says what g says -/
def OpD (X : Cx) (W : WX) (r : R2) (g : U → U → List O → R U) : Prop :=
  ∀ a b h σ H μ x y Q, Rh X.K H μ h → RU X.K H μ a x → RU X.K H μ b y → Post X.K W σ H μ (RU X.K) (g a b h) Q → r x y H Q
theorem two {ta tb : TE} {fa fb : En → List O → R U} {g : U → U → List O → R U} {r : R2}
    (ha : ∀ σ' h σ H μ Q, RE X.K H μ σ' σ → Rh X.K H μ h → Post X.K W σ H μ (RU X.K) (fa σ' h) Q → ta σ H Q) (hb : ∀ σ' h σ H μ Q, RE X.K H μ σ' σ → Rh X.K H μ h → Post X.K W σ H μ (RU X.K) (fb σ' h) Q → tb σ H Q)
    (hg : OpD X W r g) : ∀ σ' h σ H μ Q, RE X.K H μ σ' σ → Rh X.K H μ h → Post X.K W σ H μ (RU X.K) (ev2 fa fb g σ' h) Q → tOp r ta tb σ H Q := by
  intro σ' h σ H μ Q re rh p
  refine ha σ' h σ H μ _ re rh (Post.bind p fun a h1 H1 μ1 x e1 rh1 ra p1 => ?_)
  refine hb σ' h1 σ H1 μ1 _ (re.ext e1) rh1 (Post.bind p1 fun b h2 H2 μ2 y e2 rh2 rb p2 => ?_)
  exact hg a b h2 σ H2 μ2 x y Q rh2 (ra.ext e2) rb p2
theorem den_op {op : Operator} {r : R2} {a b : Expr} {pos : Pos} {fa fb : En → List O → R U} {g : U → U → List O → R U} (ho : OpR X (binaryOp op) r) (hg : OpD X W r g) (ha : Den X W a fa) (hb : Den X W b fb) :
    Den X W (.BinOp a op b pos) (ev2 fa fb g) := by
  obtain ⟨ta, pa, ca⟩ := ha
  obtain ⟨tb, pb, cb⟩ := hb
  exact ⟨_, pe_op ho pa pb, two ca cb hg⟩
theorem den_cmp {op : CmpOp} {r : R2} {a b : Expr} {pos : Pos} {fa fb : En → List O → R U} {g : U → U → List O → R U} (ho : OpR X (compareOp op) r) (hg : OpD X W r g) (ha : Den X W a fa) (hb : Den X W b fb) (hm : behindInMarks op b = false) :
    Den X W (.Compare a [op] [b] pos) (ev2 fa fb g) := by
  obtain ⟨ta, pa, ca⟩ := ha
  obtain ⟨tb, pb, cb⟩ := hb
  exact ⟨_, pe_cmpR ho pa pb hm, two ca cb hg⟩
/-- what may be there or not -/
def opt {α : Type} (o : Option α) (h : List O) : R α := match o with
  | some a => .ok a h
  | none => .bad
@[simp] theorem opt_some {α : Type} (a : α) (h : List O) : opt (some a) h = .ok a h := rfl
@[simp] theorem opt_none {α : Type} (h : List O) : (opt none h : R α) = .bad := rfl
theorem Post.opt {α γ δ : Type} {K : PySem.W.Frag} {σ : L2.St} {H : Hp} {μ : List Addr} {Rel : Hp → List Addr → γ → δ → Prop} {o : Option α} {h : List O} {f : α → List O → R γ} {Q : δ → Hp → Prop}
    (p : Post K W σ H μ Rel ((opt o h).bind f) Q) : ∃ a, o = some a ∧ Post K W σ H μ Rel (f a h) Q := by
  cases o with
  | none => exact p.elim
  | some a => exact ⟨a, rfl, p⟩
theorem Post.opt1 {α β : Type} {K : PySem.W.Frag} {σ : L2.St} {H : Hp} {μ : List Addr} {Rel : Hp → List Addr → α → β → Prop} {o : Option α} {h : List O} {Q : β → Hp → Prop}
    (p : Post K W σ H μ Rel (Py.opt o h) Q) : ∃ a, o = some a ∧ Post K W σ H μ Rel (.ok a h) Q := by
  cases o with
  | none => exact p.elim
  | some a => exact ⟨a, rfl, p⟩
/-- a truth told -/
def asBo : U → Option Bool
  | .d (.bool b) => some b
  | _ => none
def asB (u : U) (h : List O) : R Bool := opt (asBo u) h
def evB (f : En → List O → R U) : En → List O → R Bool := fun σ h => (f σ h).bind asB
theorem asBo_of {K : PySem.W.Frag} {H : Hp} {μ : List Addr} {u : U} {x : V} {k : Bool} (r : RU K H μ u x) (e : asBo u = some k) : x = .bl k := by
  cases r with
  | d r => cases r <;> cases e; rfl
  | _ => cases e
theorem asB_of {K : PySem.W.Frag} {σ : L2.St} {H : Hp} {μ : List Addr} {u : U} {h : List O} {x : V} {Q : Bool → Hp → Prop} (rh : Rh K H μ h) (r : RU K H μ u x) (p : Post K W σ H μ relB (asB u h) Q) : ∃ k, x = .bl k ∧ Q k H := by
  obtain ⟨k, e, p⟩ := Post.opt1 p
  exact ⟨k, asBo_of r e, p.ret rh rfl⟩
theorem dent_cmp {op : CmpOp} {r : R2} {a b : Expr} {pos : Pos} {fa fb : En → List O → R U} {g : U → U → List O → R U} (ho : OpR X (compareOp op) r) (hg : OpD X W r g) (ha : Den X W a fa) (hb : Den X W b fb) (hm : behindInMarks op b = false) :
    DenT X W (.Compare a [op] [b] pos) (evB (ev2 fa fb g)) := by
  obtain ⟨ta, pa, ca⟩ := ha
  obtain ⟨tb, pb, cb⟩ := hb
  refine ⟨_, pt_cmpR ho pa pb hm, fun σ' h σ H μ Q re rh p => ?_⟩
  exact two ca cb hg σ' h σ H μ _ re rh (Post.bind p fun u h1 H1 μ1 x e1 rh1 ru p1 => asB_of rh1 ru p1)
/-! ### chains -/
def evCh (fa fb fc : En → List O → R U) (g g' : U → U → List O → R U) : En → List O → R U := fun σ h => (fa σ h).bind fun a h1 => (fb σ h1).bind fun b h2 => (g a b h2).bind fun z h3 => (asB z h3).bind fun k h4 =>
  if k = true then (fc σ h4).bind fun c h5 => g' b c h5 else .ok (.d (.bool false)) h4
theorem chain {r r' : R2} {ta tb tc : TE} {fa fb fc : En → List O → R U} {g g' : U → U → List O → R U}
    (ca : ∀ σ' h σ H μ Q, RE X.K H μ σ' σ → Rh X.K H μ h → Post X.K W σ H μ (RU X.K) (fa σ' h) Q → ta σ H Q) (cb : ∀ σ' h σ H μ Q, RE X.K H μ σ' σ → Rh X.K H μ h → Post X.K W σ H μ (RU X.K) (fb σ' h) Q → tb σ H Q)
    (cc : ∀ σ' h σ H μ Q, RE X.K H μ σ' σ → Rh X.K H μ h → Post X.K W σ H μ (RU X.K) (fc σ' h) Q → tc σ H Q) (hg : OpD X W r g) (hg' : OpD X W r' g') :
    ∀ σ' h σ H μ Q, RE X.K H μ σ' σ → Rh X.K H μ h → Post X.K W σ H μ (RU X.K) (evCh fa fb fc g g' σ' h) Q → tChain r r' ta tb tc σ H Q := by
  intro σ' h σ H μ Q re rh p
  refine ca σ' h σ H μ _ re rh (Post.bind p fun a h1 H1 μ1 x e1 rh1 ra p1 => ?_)
  refine cb σ' h1 σ H1 μ1 _ (re.ext e1) rh1 (Post.bind p1 fun b h2 H2 μ2 y e2 rh2 rb p2 => ?_)
  refine hg a b h2 σ H2 μ2 x y _ rh2 (ra.ext e2) rb (Post.bind p2 fun z h3 H3 μ3 zv e3 rh3 rz p3 => ?_)
  obtain ⟨k, ek, p4⟩ := Post.opt p3
  refine ⟨k, asBo_of rz ek, ?_⟩
  cases k with
  | true =>
    rw [if_pos rfl] at p4 ⊢
    refine cc σ' h3 σ H3 μ3 _ (re.ext (e1.trans (e2.trans e3))) rh3 (Post.bind p4 fun c h5 H5 μ5 w e5 rh5 rc p5 => ?_)
    exact hg' b c h5 σ H5 μ5 y w Q rh5 (rb.ext (e3.trans e5)) rc p5
  | false =>
    rw [if_neg Bool.false_ne_true] at p4 ⊢
    exact p4.ret rh3 (.d (.bl false))
theorem den_chain {op op' : CmpOp} {r r' : R2} {a b c : Expr} {pos : Pos} {fa fb fc : En → List O → R U} {g g' : U → U → List O → R U} (ho : OpR X (compareOp op) r) (ho' : OpR X (compareOp op') r') (hg : OpD X W r g) (hg' : OpD X W r' g')
    (ha : Den X W a fa) (hb : Den X W b fb) (hc : Den X W c fc) (hm : lastMarks [op, op'] [b, c] = false) : Den X W (.Compare a [op, op'] [b, c] pos) (evCh fa fb fc g g') := by
  obtain ⟨ta, pa, ca⟩ := ha
  obtain ⟨tb, pb, cb⟩ := hb
  obtain ⟨tc, pc, cc⟩ := hc
  exact ⟨_, pe_chain ho ho' pa pb pc hm, chain ca cb cc hg hg'⟩
theorem dent_chain {op op' : CmpOp} {r r' : R2} {a b c : Expr} {pos : Pos} {fa fb fc : En → List O → R U} {g g' : U → U → List O → R U} (ho : OpR X (compareOp op) r) (ho' : OpR X (compareOp op') r') (hg : OpD X W r g) (hg' : OpD X W r' g')
    (ha : Den X W a fa) (hb : Den X W b fb) (hc : Den X W c fc) (hm : lastMarks [op, op'] [b, c] = false) : DenT X W (.Compare a [op, op'] [b, c] pos) (evB (evCh fa fb fc g g')) := by
  obtain ⟨ta, pa, ca⟩ := ha
  obtain ⟨tb, pb, cb⟩ := hb
  obtain ⟨tc, pc, cc⟩ := hc
  refine ⟨_, pt_chain ho ho' pa pb pc hm, fun σ' h σ H μ Q re rh p => ?_⟩
  exact chain ca cb cc hg hg' σ' h σ H μ _ re rh (Post.bind p fun u h1 H1 μ1 x e1 rh1 ru p1 => asB_of rh1 ru p1)
/-! ### truth -/
def truD : D → Option Bool
  | .none => some false
  | .bool b => some b
  | .int i => some (i != 0)
  | .str s => if s.length ≤ 1000 then some ((s.length : Int) != 0) else none
  | .tuple xs => some (!xs.isEmpty)
  | .list xs => some (!xs.isEmpty)
  | .dict xs => some (!xs.isEmpty)
def truO : O → Bool
  | .lst xs => !xs.isEmpty
  | .mix xs => !xs.isEmpty
  | .dct xs => !xs.isEmpty
  | .hold xs => !xs.isEmpty
def isHold : O → Bool
  | .hold _ => true
  | _ => false
def truU (u : U) (h : List O) : Option Bool := match u with
  | .d d => truD d
  | .lab n => (h[n]?.bind fun o => if isHold o = true then none else some (truO o))
  | .scr xs => some (!xs.isEmpty)
  | _ => none
def tru (u : U) (h : List O) : R Bool := opt (truU u h) h
theorem RDs.isEmpty {K : PySem.W.Frag} {H : Hp} {μ : List Addr} {ds : List D} {vs : List V} (h : RDs K H μ ds vs) : ds.isEmpty = vs.isEmpty := by cases h <;> rfl
theorem RUs.isEmpty {K : PySem.W.Frag} {H : Hp} {μ : List Addr} {ds : List U} {vs : List V} (h : RUs K H μ ds vs) : ds.isEmpty = vs.isEmpty := by cases h <;> rfl
theorem RKs.isEmpty {K : PySem.W.Frag} {H : Hp} {μ : List Addr} {ds : List (Key × D)} {vs : List (Key × V)} (h : RKs K H μ ds vs) : ds.isEmpty = vs.isEmpty := by cases h <;> rfl
theorem le_line {n : Nat} (h : n ≤ 1000) : n ≤ sizeLine := Nat.le_of_lt (small1000 h)
theorem truD_ok {K : PySem.W.Frag} {H : Hp} {μ : List Addr} {d : D} {x : V} {k : Bool} (r : RD K H μ d x) (e : truD d = some k) : TruV K x H k := by
  cases r with
  | non => cases e; exact rfl
  | bl b => cases e; exact rfl
  | int i => cases e; exact rfl
  | str s _ =>
    have e' : (if s.length ≤ 1000 then some ((s.length : Int) != 0) else none) = some k := e
    by_cases hs : s.length ≤ 1000
    · rw [if_pos hs] at e'
      cases e'
      exact ⟨le_line hs, rfl⟩
    · rw [if_neg hs] at e'
      cases e'
  | tup h r => cases e; exact .inr (.inl ⟨_, h.sq, by rw [r.isEmpty]⟩)
  | lst h n r => cases e; exact .inl ⟨_, SqL.of h, by rw [r.isEmpty]⟩
theorem truU_ok {K : PySem.W.Frag} {H : Hp} {μ : List Addr} {u : U} {h : List O} {x : V} {k : Bool} (rh : Rh K H μ h) (r : RU K H μ u x) (e : truU u h = some k) : TruV K x H k := by
  cases r with
  | d r => exact truD_ok r e
  | @scr a ns h => cases e; exact .inl ⟨_, h.sq, by cases ns <;> rfl⟩
  | ty n => cases e
  | gl x => cases e
  | @lab n a r =>
    have e' : (h[n]?.bind fun o => if isHold o = true then none else some (truO o)) = some k := e
    cases q : h[n]? with
    | none => rw [q] at e'; cases e'
    | some o =>
      rw [q] at e'
      have e' : (if isHold o = true then none else some (truO o)) = some k := e'
      obtain ⟨ho, h1, h2⟩ := rh.obj n o a q r
      by_cases hh : isHold o = true
      · rw [if_pos hh] at e'; cases e'
      rw [if_neg hh] at e'
      cases e'
      cases h2 with
      | hold z => exact absurd rfl hh
      | lst z => exact .inl ⟨_, SqL.of h1, by show (!List.isEmpty _) = _; rw [z.isEmpty]⟩
      | mix z _ => exact .inl ⟨_, SqL.of h1, by show (!List.isEmpty _) = _; rw [z.isEmpty]⟩
      | dct z => exact .inr (.inr ⟨_, h1, by show (!List.isEmpty _) = _; rw [z.isEmpty]⟩)
def evT (f : En → List O → R U) : En → List O → R Bool := fun σ h => (f σ h).bind tru
theorem dent_truth {a : Expr} {fa : En → List O → R U} (ha : Den X W a fa) (he : ∀ whole, isTrue a X.env whole = (do let v ← whole; standAt a.pos; holding [v] (truthy v))) : DenT X W a (evT fa) := by
  obtain ⟨ta, pa, ca⟩ := ha
  refine ⟨_, pt_truth pa he, fun σ' h σ H μ Q re rh p => ?_⟩
  refine ca σ' h σ H μ _ re rh (Post.bind p fun u h1 H1 μ1 x e1 rh1 ru p1 => ?_)
  obtain ⟨k, ek, p2⟩ := Post.opt1 p1
  exact ⟨k, truU_ok rh1 ru ek, p2.ret rh1 rfl⟩
/-! ### and, or, not -/
def tAndE (f g : En → List O → R Bool) : En → List O → R Bool := fun σ h => (f σ h).bind fun c h1 => if c = true then g σ h1 else .ok false h1
def tOrE (f g : En → List O → R Bool) : En → List O → R Bool := fun σ h => (f σ h).bind fun c h1 => if c = true then .ok true h1 else g σ h1
def tNotE (f : En → List O → R Bool) : En → List O → R Bool := fun σ h => (f σ h).bind fun c h1 => .ok (!c) h1
/-- a chain of and, or as a test -/
def DenW (X : Cx) (W : WX) (e : Expr) (f : En → List O → R Bool) : Prop :=
  ∃ t, PW X e t ∧ ∀ σ' h σ H μ Q, RE X.K H μ σ' σ → Rh X.K H μ h → Post X.K W σ H μ relB (f σ' h) Q → t σ H Q
theorem DenW.t {e : Expr} {f : En → List O → R Bool} (h : DenW X W e f) : DenT X W e f := let ⟨t, p, c⟩ := h; ⟨t, p.pt, c⟩
theorem denw_and1 {a : Expr} {pos : Pos} {fa : En → List O → R Bool} (ha : DenT X W a fa) : DenW X W (.BoolOp .And [a] pos) fa := let ⟨t, p, c⟩ := ha; ⟨t, pw_and1 p, c⟩
theorem denw_or1 {a : Expr} {pos : Pos} {fa : En → List O → R Bool} (ha : DenT X W a fa) : DenW X W (.BoolOp .Or [a] pos) fa := let ⟨t, p, c⟩ := ha; ⟨t, pw_or1 p, c⟩
theorem denw_and {a b : Expr} {rest : List Expr} {pos : Pos} {fa fb : En → List O → R Bool} (ha : DenT X W a fa) (hb : DenW X W (.BoolOp .And (b :: rest) pos) fb) : DenW X W (.BoolOp .And (a :: b :: rest) pos) (tAndE fa fb) := by
  obtain ⟨ta, pa, ca⟩ := ha
  obtain ⟨tb, pb, cb⟩ := hb
  refine ⟨_, pw_and pa pb, fun σ' h σ H μ Q re rh p => ?_⟩
  refine ca σ' h σ H μ _ re rh (Post.bind p fun c h1 H1 μ1 k e1 rh1 rc p1 => ?_)
  cases rc
  cases c with
  | true => rw [if_pos rfl] at p1 ⊢; exact cb σ' h1 σ H1 μ1 _ (re.ext e1) rh1 p1
  | false => rw [if_neg Bool.false_ne_true] at p1 ⊢; exact p1.ret rh1 rfl
theorem denw_or {a b : Expr} {rest : List Expr} {pos : Pos} {fa fb : En → List O → R Bool} (ha : DenT X W a fa) (hb : DenW X W (.BoolOp .Or (b :: rest) pos) fb) : DenW X W (.BoolOp .Or (a :: b :: rest) pos) (tOrE fa fb) := by
  obtain ⟨ta, pa, ca⟩ := ha
  obtain ⟨tb, pb, cb⟩ := hb
  refine ⟨_, pw_or pa pb, fun σ' h σ H μ Q re rh p => ?_⟩
  refine ca σ' h σ H μ _ re rh (Post.bind p fun c h1 H1 μ1 k e1 rh1 rc p1 => ?_)
  cases rc
  cases c with
  | true => rw [if_pos rfl] at p1 ⊢; exact p1.ret rh1 rfl
  | false => rw [if_neg Bool.false_ne_true] at p1 ⊢; exact cb σ' h1 σ H1 μ1 _ (re.ext e1) rh1 p1
theorem dent_not {a : Expr} {pos : Pos} {fa : En → List O → R Bool} (ha : DenT X W a fa) : DenT X W (.UnaryOp .Not a pos) (tNotE fa) := by
  obtain ⟨ta, pa, ca⟩ := ha
  refine ⟨_, pt_not pa, fun σ' h σ H μ Q re rh p => ?_⟩
  refine ca σ' h σ H μ _ re rh (Post.bind p fun c h1 H1 μ1 k e1 rh1 rc p1 => ?_)
  cases rc
  exact p1.ret rh1 rfl
def vAnd (f g : En → List O → R U) : En → List O → R U := fun σ h => (f σ h).bind fun u h1 => (tru u h1).bind fun c h2 => if c = true then g σ h2 else .ok u h2
def vOr (f g : En → List O → R U) : En → List O → R U := fun σ h => (f σ h).bind fun u h1 => (tru u h1).bind fun c h2 => if c = true then .ok u h2 else g σ h2
def vNot (f : En → List O → R U) : En → List O → R U := fun σ h => (f σ h).bind fun u h1 => (tru u h1).bind fun c h2 => .ok (.d (.bool (!c))) h2
theorem den_and {a b : Expr} {rest : List Expr} {pos : Pos} {fa fb : En → List O → R U} (ha : Den X W a fa) (hb : Den X W (.BoolOp .And (b :: rest) pos) fb) : Den X W (.BoolOp .And (a :: b :: rest) pos) (vAnd fa fb) := by
  obtain ⟨ta, pa, ca⟩ := ha
  obtain ⟨tb, pb, cb⟩ := hb
  refine ⟨_, pe_andT pa pb, fun σ' h σ H μ Q re rh p => ?_⟩
  refine ca σ' h σ H μ _ re rh (Post.bind p fun u h1 H1 μ1 x e1 rh1 ru p1 => ?_)
  obtain ⟨k, ek, p2⟩ := Post.opt p1
  refine ⟨k, truU_ok rh1 ru ek, ?_⟩
  cases k with
  | true => rw [if_pos rfl] at p2 ⊢; exact cb σ' h1 σ H1 μ1 _ (re.ext e1) rh1 p2
  | false => rw [if_neg Bool.false_ne_true] at p2 ⊢; exact p2.ret rh1 ru
theorem den_or {a b : Expr} {rest : List Expr} {pos : Pos} {fa fb : En → List O → R U} (ha : Den X W a fa) (hb : Den X W (.BoolOp .Or (b :: rest) pos) fb) : Den X W (.BoolOp .Or (a :: b :: rest) pos) (vOr fa fb) := by
  obtain ⟨ta, pa, ca⟩ := ha
  obtain ⟨tb, pb, cb⟩ := hb
  refine ⟨_, pe_orT pa pb, fun σ' h σ H μ Q re rh p => ?_⟩
  refine ca σ' h σ H μ _ re rh (Post.bind p fun u h1 H1 μ1 x e1 rh1 ru p1 => ?_)
  obtain ⟨k, ek, p2⟩ := Post.opt p1
  refine ⟨k, truU_ok rh1 ru ek, ?_⟩
  cases k with
  | true => rw [if_pos rfl] at p2 ⊢; exact p2.ret rh1 ru
  | false => rw [if_neg Bool.false_ne_true] at p2 ⊢; exact cb σ' h1 σ H1 μ1 _ (re.ext e1) rh1 p2
theorem den_one {op} {a : Expr} {pos : Pos} {fa : En → List O → R U} (ha : Den X W a fa) : Den X W (.BoolOp op [a] pos) fa := let ⟨t, p, c⟩ := ha; ⟨t, pe_one p, c⟩
theorem den_not {a : Expr} {pos : Pos} {fa : En → List O → R U} (ha : Den X W a fa) : Den X W (.UnaryOp .Not a pos) (vNot fa) := by
  obtain ⟨ta, pa, ca⟩ := ha
  refine ⟨_, pe_notT pa, fun σ' h σ H μ Q re rh p => ?_⟩
  refine ca σ' h σ H μ _ re rh (Post.bind p fun u h1 H1 μ1 x e1 rh1 ru p1 => ?_)
  obtain ⟨k, ek, p2⟩ := Post.opt p1
  exact ⟨k, truU_ok rh1 ru ek, p2.ret rh1 (.d (.bl _))⟩
/-- a if t else b -/
def evIf (t : En → List O → R Bool) (f g : En → List O → R U) : En → List O → R U := fun σ h => (t σ h).bind fun c h1 => if c = true then f σ h1 else g σ h1
theorem den_if {c a b : Expr} {pos : Pos} {ft : En → List O → R Bool} {fa fb : En → List O → R U} (hc : DenT X W c ft) (ha : Den X W a fa) (hb : Den X W b fb) : Den X W (.IfExp c a b pos) (evIf ft fa fb) := by
  obtain ⟨tc, pc, cc⟩ := hc
  obtain ⟨ta, pa, ca⟩ := ha
  obtain ⟨tb, pb, cb⟩ := hb
  refine ⟨_, pe_ifExp pc pa pb, fun σ' h σ H μ Q re rh p => ?_⟩
  refine cc σ' h σ H μ _ re rh (Post.bind p fun c h1 H1 μ1 k e1 rh1 rc p1 => ?_)
  cases rc
  cases c with
  | true => rw [if_pos rfl] at p1 ⊢; exact ca σ' h1 σ H1 μ1 _ (re.ext e1) rh1 p1
  | false => rw [if_neg Bool.false_ne_true] at p1 ⊢; exact cb σ' h1 σ H1 μ1 _ (re.ext e1) rh1 p1
/-! ### arguments, displays -/
def evNil : En → List O → R (List U) := fun _ h => .ok [] h
def evCons (f : En → List O → R U) (g : En → List O → R (List U)) : En → List O → R (List U) := fun σ h => (f σ h).bind fun u h1 => (g σ h1).bind fun us h2 => .ok (u :: us) h2
theorem dena_nil : DenA X W [] evNil := ⟨_, pa_nil, fun σ' h σ H μ Q re rh p => p.ret rh .nil⟩
theorem dena_cons {e : Expr} {es : List Expr} {f : En → List O → R U} {g : En → List O → R (List U)} (hf : Den X W e f) (hg : DenA X W es g) (hs : starEach (e :: es) X.env = (false, eval e X.env) :: starEach es X.env) : DenA X W (e :: es) (evCons f g) := by
  obtain ⟨ta, pa, ca⟩ := hf
  obtain ⟨tb, pb, cb⟩ := hg
  refine ⟨_, pa_cons pa pb hs, fun σ' h σ H μ Q re rh p => ?_⟩
  refine ca σ' h σ H μ _ re rh (Post.bind p fun u h1 H1 μ1 x e1 rh1 ru p1 => ?_)
  refine cb σ' h1 σ H1 μ1 _ (re.ext e1) rh1 (Post.bind p1 fun us h2 H2 μ2 xs e2 rh2 rus p2 => ?_)
  exact p2.ret rh2 (.cons (ru.ext e2) rus)
/-- a new pure list, or one that may change -/
def mkL (m : Bool) (xs : List D) (h : List O) : R U := if m = true then .ok (.lab h.length) (h ++ [.lst xs]) else .ok (.d (.list xs)) h
theorem mkL_of {K : PySem.W.Frag} {σ : L2.St} {H : Hp} {μ : List Addr} {m : Bool} {xs : List D} {vs : List V} {h : List O} {Q : VK} (rh : Rh K H μ h) (r : RDs K H μ xs vs) (p : Post K W σ H μ (RU K) (mkL m xs h) Q) :
    ∀ l, H l = none → Q (.ref l) (upd H l (.lst vs)) := by
  intro l hl
  unfold mkL at p
  cases m with
  | true =>
    rw [if_pos rfl] at p
    exact p _ _ _ (Ext.lab hl) (rh.lab hl (.lst r)) (.lab (by rw [rh.len]; simp))
  | false =>
    rw [if_neg Bool.false_ne_true] at p
    exact p _ _ _ (Ext.new hl) (rh.new hl) (.d (.lst upd_same (rh.notin hl) (r.ext (Ext.new hl))))
theorem tup_of {K : PySem.W.Frag} {σ : L2.St} {H : Hp} {μ : List Addr} {xs : List D} {vs : List V} {h : List O} {Q : VK} (rh : Rh K H μ h) (r : RDs K H μ xs vs) (p : Post K W σ H μ (RU K) (.ok (.d (.tuple xs)) h) Q) :
    ∀ l, H l = none → Q (.ref l) (upd H l (.tup vs)) := by
  intro l hl
  exact p _ _ _ (Ext.new hl) (rh.new hl) (.d (.tup (.inl ⟨upd_same, rh.notin hl⟩) (r.ext (Ext.new hl))))
def evTup (f : En → List O → R (List U)) : En → List O → R U := fun σ h => (f σ h).bind fun us h1 => (opt (pures us) h1).bind fun ds h2 => if ds.length ≤ 1000 then .ok (.d (.tuple ds)) h2 else .bad
theorem den_tup {es : List Expr} {k : Nat} {pos : Pos} {f : En → List O → R (List U)} (hf : DenA X W es f) : Den X W (.Tuple es k pos) (evTup f) := by
  obtain ⟨ta, pa, ca⟩ := hf
  refine ⟨_, pe_tup pa, fun σ' h σ H μ Q re rh p => ?_⟩
  refine ca σ' h σ H μ _ re rh (Post.bind p fun us h1 H1 μ1 xs e1 rh1 ru p1 => ?_)
  obtain ⟨ds, ed, p2⟩ := Post.opt p1
  have rd := pures_rel ru ed
  by_cases hl : ds.length ≤ 1000
  · rw [if_pos hl] at p2
    exact ⟨by rw [← rd.length]; exact le_line hl, tup_of rh1 rd p2⟩
  · rw [if_neg hl] at p2
    exact p2.elim
def mkM (us : List U) (h : List O) : R U := if ∀ u ∈ us, u.below h.length then .ok (.lab h.length) (h ++ [.mix us]) else .bad
def evLst (m : Bool) (f : En → List O → R (List U)) : En → List O → R U := fun σ h => (f σ h).bind fun us h1 => if us.length ≤ 1000 then (match pures us with
  | some ds => mkL m ds h1
  | none => if m = true then mkM us h1 else .bad) else .bad
theorem den_lst {m : Bool} {es : List Expr} {pos : Pos} {f : En → List O → R (List U)} (hf : DenA X W es f) : Den X W (.List es pos) (evLst m f) := by
  obtain ⟨ta, pa, ca⟩ := hf
  refine ⟨_, pe_lst pa, fun σ' h σ H μ Q re rh p => ?_⟩
  refine ca σ' h σ H μ _ re rh (Post.bind p fun us h1 H1 μ1 xs e1 rh1 ru p1 => ?_)
  by_cases hl : us.length ≤ 1000
  · rw [if_pos hl] at p1
    refine ⟨by rw [← ru.length]; exact le_line hl, ?_⟩
    cases ed : pures us with
    | some ds =>
      simp only [ed] at p1
      exact mkL_of rh1 (pures_rel ru ed) p1
    | none =>
      simp only [ed] at p1
      cases m with
      | false => rw [if_neg Bool.false_ne_true] at p1; exact p1.elim
      | true =>
        rw [if_pos rfl] at p1
        unfold mkM at p1
        by_cases hb : ∀ u ∈ us, u.below h1.length
        · rw [if_pos hb] at p1
          exact fun l hl' => p1 _ _ _ (Ext.lab hl') (rh1.lab hl' (.mix ru hb)) (.lab (by rw [rh1.len]; simp))
        · rw [if_neg hb] at p1
          exact p1.elim
  · rw [if_neg hl] at p1
    exact p1.elim
end
end Py

namespace Py
open PySem PySem.Spec PyProof.Rows L2
theorem line_eq : sizeLine = 16777216 := sizeLine_eq
section
variable {K : PySem.W.Frag} {H : Hp} {μ : List Addr} {h : List O} {x y : V}
theorem RU.int_inv {i : Int} (r : RU K H μ (.d (.int i)) x) : x = .int i := by cases r with | d r => cases r; rfl
theorem RU.str_inv {i : Str} (r : RU K H μ (.d (.str i)) x) : x = .str i := by cases r with | d r => cases r; rfl
theorem RU.tup_inv {xs : List D} (r : RU K H μ (.d (.tuple xs)) x) : ∃ a vs, x = .ref a ∧ TupAt K H μ a vs ∧ RDs K H μ xs vs := by
  cases r with
  | d r => cases r with | tup h q => exact ⟨_, _, rfl, h, q⟩
theorem RU.lst_inv {xs : List D} (r : RU K H μ (.d (.list xs)) x) : ∃ a vs, x = .ref a ∧ H a = some (.lst vs) ∧ a ∉ μ ∧ RDs K H μ xs vs := by
  cases r with
  | d r => cases r with | lst h n q => exact ⟨_, _, rfl, h, n, q⟩
/-- a list, pure or one that may change -/
def listOf (u : U) (h : List O) : Option (List D) := match u with
  | .d (.list xs) => some xs
  | .lab n => (match h[n]? with
    | some (.lst xs) => some xs
    | _ => none)
  | _ => none
theorem listOf_of {u : U} {xs : List D} (rh : Rh K H μ h) (r : RU K H μ u x) (e : listOf u h = some xs) : ∃ a vs, x = .ref a ∧ H a = some (.lst vs) ∧ RDs K H μ xs vs := by
  cases r with
  | d r =>
    cases r with
    | lst h1 n q => cases e; exact ⟨_, _, rfl, h1, q⟩
    | _ => cases e
  | @lab n a r =>
    have e' : (match h[n]? with | some (.lst xs) => some xs | _ => none) = some xs := e
    cases q : h[n]? with
    | none => rw [q] at e'; cases e'
    | some o =>
      rw [q] at e'
      cases o with
      | lst ys =>
        cases e'
        obtain ⟨ho, h1, h2⟩ := rh.obj n _ a q r
        cases h2 with
        | lst h2 => exact ⟨_, _, rfl, h1, h2⟩
      | mix ys => cases e'
      | dct ys => cases e'
      | hold ys => cases e'
  | _ => cases e
/-- a list or tuple -/
def seqOf (u : U) (h : List O) : Option (List D) := match u with
  | .d (.tuple xs) => some xs
  | .scr xs => some (xs.map .int)
  | u => listOf u h
theorem RDs_ints : ∀ ns : List Int, RDs K H μ (ns.map .int) (ns.map V.int)
  | [] => .nil
  | n :: ns => .cons (.int n) (RDs_ints ns)
theorem seqOf_of {u : U} {xs : List D} (rh : Rh K H μ h) (r : RU K H μ u x) (e : seqOf u h = some xs) : ∃ a vs, x = .ref a ∧ (SqL K H a vs ∨ SqT K H a vs) ∧ RDs K H μ xs vs := by
  cases r with
  | d r =>
    cases r with
    | lst h1 n q => cases e; exact ⟨_, _, rfl, .inl (SqL.of h1), q⟩
    | tup h1 q => cases e; exact ⟨_, _, rfl, .inr h1.sq, q⟩
    | _ => cases e
  | @lab n a r =>
    obtain ⟨a', vs, e1, h1, q⟩ := listOf_of rh (.lab r) (show listOf (.lab n) h = some xs from e)
    exact ⟨a', vs, e1, .inl (SqL.of h1), q⟩
  | scr h1 => cases e; exact ⟨_, _, rfl, .inl h1.sq, RDs_ints _⟩
  | _ => cases e
end
/-! ### + -/
def addD : D → D → Option D
  | .int i, .int j => some (.int (i + j))
  | .str s, .str t => if s.length + t.length ≤ 10000000 ∧ PyData.strOk (s ++ t) = true then some (.str (s ++ t)) else none
  | .tuple xs, .tuple ys => if xs.length + ys.length ≤ 10000000 then some (.tuple (xs ++ ys)) else none
  | _, _ => none
def addU (m : Bool) (a b : U) (h : List O) : R U := match listOf a h, listOf b h with
  | some xs, some ys => if xs.length + ys.length ≤ 10000000 then mkL m (xs ++ ys) h else .bad
  | _, _ => (match a, b with
    | .d x, .d y => (opt (addD x y) h).bind fun z h => .ok (.d z) h
    | _, _ => .bad)
def rAddA (K : PySem.W.Frag) : R2 := fun x y H Q => rI0 (fun i j => .int (i + j)) x y H Q ∨ ((∃ i j, x = .str i ∧ y = .str j ∧ i.length + j.length ≤ sizeLine ∧ Q (.str (i ++ j)) H) ∨ (rCatA K x y H Q ∨ rCat x y H Q))
theorem op_addA {X : Cx} : OpR X (binaryOp .Add) (rAddA X.K) := OpR.or op_add (OpR.or op_add_str (OpR.or op_catA op_cat))
section
variable {X : Cx} {W : WX}
theorem addD_of {K : PySem.W.Frag} {σ : L2.St} {H : Hp} {μ : List Addr} {h : List O} {x y : V} {a b c : D} {Q : VK} (rh : Rh K H μ h) (ra : RD K H μ a x) (rb : RD K H μ b y) (e : addD a b = some c) (p : Post K W σ H μ (RU K) (.ok (.d c) h) Q) : rAddA K x y H Q := by
  cases ra with
  | int i =>
    cases rb with
    | int j => cases e; exact .inl ⟨i, j, rfl, rfl, p.ret rh (.d (.int _))⟩
    | _ => cases e
  | str i _ =>
    cases rb with
    | str j _ =>
      have e' : (if i.length + j.length ≤ 10000000 ∧ PyData.strOk (i ++ j) = true then some (PyData.str (i ++ j)) else none) = some c := e
      by_cases hl : i.length + j.length ≤ 10000000 ∧ PyData.strOk (i ++ j) = true
      · rw [if_pos hl] at e'
        cases e'
        exact .inr (.inl ⟨i, j, rfl, rfl, by rw [line_eq]; omega, p.ret rh (.d (.str _ hl.2))⟩)
      · rw [if_neg hl] at e'; cases e'
    | _ => cases e
  | @tup a vs xs h1 q1 =>
    cases rb with
    | @tup a2 ws ys h2 q2 =>
      have e' : (if xs.length + ys.length ≤ 10000000 then some (PyData.tuple (xs ++ ys)) else none) = some c := e
      by_cases hl : xs.length + ys.length ≤ 10000000
      · rw [if_pos hl] at e'
        cases e'
        refine .inr (.inr (.inl ⟨a, a2, vs, ws, rfl, rfl, h1.sq, h2.sq, by rw [← q1.length, ← q2.length, line_eq]; omega, fun z => ?_, fun z1 z2 => ?_, fun z1 z2 => ?_⟩))
        · subst z
          cases q1
          exact p.ret rh (.d (.tup h2 q2))
        · subst z2
          cases q2
          rw [List.append_nil] at p
          exact p.ret rh (.d (.tup h1 q1))
        · exact tup_of rh (q1.append q2) p
      · rw [if_neg hl] at e'; cases e'
    | _ => cases e
  | _ => cases e
theorem opd_add (m : Bool) : OpD X W (rAddA X.K) (addU m) := by
  intro a b h σ H μ x y Q rh ra rb p
  unfold addU at p
  have el : (∃ xs ys, listOf a h = some xs ∧ listOf b h = some ys) ∨ (∀ (α : Type) (f : List D → List D → α) (z : α), (match listOf a h, listOf b h with | some xs, some ys => f xs ys | _, _ => z) = z) := by
    cases listOf a h with
    | none => exact .inr fun _ _ _ => rfl
    | some xs =>
      cases listOf b h with
      | none => exact .inr fun _ _ _ => rfl
      | some ys => exact .inl ⟨xs, ys, rfl, rfl⟩
  rcases el with ⟨xs, ys, e1, e2⟩ | el
  · rw [e1, e2] at p
    have p' : Post X.K W σ H μ (RU X.K) (if xs.length + ys.length ≤ 10000000 then mkL m (xs ++ ys) h else .bad) Q := p
    by_cases hl : xs.length + ys.length ≤ 10000000
    · rw [if_pos hl] at p'
      obtain ⟨a1, vs, rfl, h1, q1⟩ := listOf_of rh ra e1
      obtain ⟨a2, ws, rfl, h2, q2⟩ := listOf_of rh rb e2
      exact .inr (.inr (.inr ⟨a1, a2, vs, ws, rfl, rfl, h1, h2, by rw [← q1.length, ← q2.length, line_eq]; omega, mkL_of rh (q1.append q2) p'⟩))
    · rw [if_neg hl] at p'; exact p'.elim
  · rw [el] at p
    cases ra with
    | d ra =>
      cases rb with
      | d rb =>
        obtain ⟨c, ec, p2⟩ := Post.opt p
        exact addD_of rh ra rb ec p2
      | _ => exact p.elim
    | _ => exact p.elim
/-! ### ints -/
/-- an operation on two ints -/
def intOp (g : Int → Int → Option Int) (a b : U) (h : List O) : R U := match a, b with
  | .d (.int i), .d (.int j) => (opt (g i j) h).bind fun k h => .ok (.d (.int k)) h
  | _, _ => .bad
theorem int_cases {P : U → Prop} (u : U) : (∃ i, u = .d (.int i)) ∨ (∀ i, u ≠ .d (.int i)) := by
  by_cases h : ∃ i, u = .d (.int i)
  · exact .inl h
  · exact .inr fun i e => h ⟨i, e⟩
theorem opd_int {g : Int → Int → Option Int} {C : Int → Int → Prop} {k : Int → Int → Int} (hc : ∀ i j r, g i j = some r → C i j ∧ r = k i j) : OpD X W (rI C fun i j => .int (k i j)) (intOp g) := by
  intro a b h σ H μ x y Q rh ra rb p
  unfold intOp at p
  split at p
  · rename_i i j
    obtain ⟨r, e, p⟩ := Post.opt p
    obtain ⟨h1, rfl⟩ := hc i j r e
    exact ⟨i, j, ra.int_inv, rb.int_inv, h1, p.ret rh (.d (.int _))⟩
  · exact p.elim
def gSubI (i j : Int) : Option Int := some (i - j)
def rT : Int → Int → Prop := fun _ _ => True
theorem op_subA : OpR X (binaryOp .Sub) (rI rT fun i j => .int (i - j)) := opI fun _ _ _ _ _ _ _ _ q => sub_int q
theorem opd_sub : OpD X W (rI rT fun i j => .int (i - j)) (intOp gSubI) := opd_int fun i j r e => by cases e; exact ⟨trivial, rfl⟩
/-- // -/
def CDivA (_ j : Int) : Prop := j ≠ 0 ∧ j.natAbs.log2 < 9000
theorem op_fdivA : OpR X (binaryOp .FloorDiv) (rI CDivA fun i j => .int (i.fdiv j)) := opI fun _ _ _ _ _ _ _ hc q => floordiv_int hc.1 q (.inl (PyProof.noPylong_of_log2 hc.2))
def gFdiv (i j : Int) : Option Int := if j ≠ 0 ∧ j.natAbs < 2 ^ 1000 then some (i.fdiv j) else none
theorem opd_fdiv : OpD X W (rI CDivA fun i j => .int (i.fdiv j)) (intOp gFdiv) := opd_int fun i j r e => by
  unfold gFdiv at e
  split at e
  · rename_i hj
    cases e
    exact ⟨⟨hj.1, Nat.lt_of_lt_of_le (PySem.Flt.log2_lt_of (show 0 < 1000 by decide) hj.2) (show 1000 ≤ 9000 by decide)⟩, rfl⟩
  · cases e
/-- % -/
def gFmod (i j : Int) : Option Int := if j ≠ 0 then some (i.fmod j) else none
theorem opd_fmod : OpD X W (rI (fun _ j => j ≠ 0) fun i j => .int (i.fmod j)) (intOp gFmod) := opd_int fun i j r e => by
  unfold gFmod at e
  split at e
  · rename_i hj
    cases e
    exact ⟨hj, rfl⟩
  · cases e
def gPow (i j : Int) : Option Int := if 0 ≤ j ∧ j ≤ 1000 ∧ i.natAbs < 2 ^ 64 then some (i ^ j.toNat) else none
theorem opd_pow : OpD X W (rI CPow fun i j => .int (i ^ j.toNat)) (intOp gPow) := opd_int fun i j r e => by
  unfold gPow at e
  split at e
  · rename_i hj
    cases e
    exact ⟨⟨hj.1, by omega, hj.2.2⟩, rfl⟩
  · cases e
/-- << : shifts of great numbers are bounded, too -/
def gShl (i j : Int) : Option Int := if 0 ≤ j ∧ j ≤ 1000000 ∧ i.natAbs < 2 ^ 64 then some (i * 2 ^ j.toNat) else none
theorem opd_shl : OpD X W (rI CPow fun i j => .int (i * 2 ^ j.toNat)) (intOp gShl) := opd_int fun i j r e => by
  unfold gShl at e
  split at e
  · rename_i hj
    cases e
    exact ⟨⟨hj.1, hj.2.1, hj.2.2⟩, rfl⟩
  · cases e
def gShr (i j : Int) : Option Int := if 0 ≤ j then some (i / 2 ^ j.toNat) else none
theorem opd_shr : OpD X W (rI (fun _ j => 0 ≤ j) fun i j => .int (i / 2 ^ j.toNat)) (intOp gShr) := opd_int fun i j r e => by
  unfold gShr at e
  split at e
  · rename_i hj
    cases e
    exact ⟨hj, rfl⟩
  · cases e
def gAnd (i j : Int) : Option Int := some (Builtin.bitAnd i j)
theorem op_andA : OpR X (binaryOp .BitAnd) (rI rT fun i j => .int (Builtin.bitAnd i j)) := opI fun _ _ _ _ _ _ _ _ q => and_int q
theorem opd_and : OpD X W (rI rT fun i j => .int (Builtin.bitAnd i j)) (intOp gAnd) := opd_int fun i j r e => by cases e; exact ⟨trivial, rfl⟩
def gOr (i j : Int) : Option Int := some (Builtin.bitOr i j)
theorem op_orA : OpR X (binaryOp .BitOr) (rI rT fun i j => .int (Builtin.bitOr i j)) := opI fun _ _ _ _ _ _ _ _ q => or_int q
theorem opd_or : OpD X W (rI rT fun i j => .int (Builtin.bitOr i j)) (intOp gOr) := opd_int fun i j r e => by cases e; exact ⟨trivial, rfl⟩
/-! ### * -/
def mulOk (i j : Int) : Bool := decide (i.natAbs < 2 ^ 64) || decide (j.natAbs < 2 ^ 64) || (decide (i.natAbs < 2 ^ 100000) && decide (j.natAbs < 2 ^ 100000))
theorem mulOk_ok {i j : Int} (h : mulOk i j = true) : IntMulOk i j := by
  unfold mulOk at h
  rw [Bool.or_eq_true, Bool.or_eq_true, Bool.and_eq_true] at h
  rcases h with (h | h) | ⟨h1, h2⟩
  · have h := of_decide_eq_true h
    exact CMul.ok (.inl (by omega))
  · have h := of_decide_eq_true h
    exact CMul.ok (.inr (by omega))
  · exact (wide_mul (of_decide_eq_true h1) (of_decide_eq_true h2) (by decide) (by decide) (by decide)).ok
theorem op_mulI : OpR X (binaryOp .Mult) (rI (fun i j => mulOk i j = true) fun i j => .int (i * j)) := opI fun _ _ _ _ _ _ _ hc q => mul_int q (mulOk_ok hc)
/-- t * k, any t -/
def rRepTA (K : PySem.W.Frag) : R2 := fun x y H Q => ∃ l k xs, x = .ref l ∧ y = .int k ∧ SqT K H l xs ∧ xs ≠ [] ∧ 2 ≤ k ∧ k ≤ 1000 ∧ xs.length ≤ 1000 ∧ ∀ p, H p = none → Q (.ref p) (upd H p (.tup (List.replicate k.toNat xs).flatten))
theorem tuple_mulE (l : Addr) (items : Array Value) (n : Nat) (dd : Option Addr) (sl : Array (Option Value)) (x : Int) (u : Tok) (c0 : (decide (x < -(2 ^ 63)) || decide (x ≥ 2 ^ 63)) = false) (c1 : (items.isEmpty || x == 1) = true) :
    Meets (Builtin.«tuple.__mul__» ⟨[.ref l, .int x u], []⟩) (fun _ R s => s.heap.get? l = some { cls := .type "tuple", dict := dd, data := .seq items n, slots := sl } ∧ R (.ok (.ret (Value.ref l))) s) :=
  .of_wp fun prog w A R s h => by
    obtain ⟨hp, g, d, tk, os⟩ := s
    obtain ⟨hl, h⟩ := h
    have f1 := AutoSeq1.idx_int
    wp_walk using AutoSeq1.wpAny_loadPart' hl
    repeat (first
      | (refine wpAny_ite_false (decide_eq_false (by rw [c0]; exact Bool.false_ne_true)) ?_; wp_walk using AutoSeq1.wpAny_loadPart' hl)
      | (refine wpAny_ite_true (decide_eq_true (by rw [c1])) ?_; wp_walk using AutoSeq1.wpAny_loadPart' hl))
    exact ⟨_, rfl, h⟩
theorem tuple_mulZ (l : Addr) (items : Array Value) (n : Nat) (dd : Option Addr) (sl : Array (Option Value)) (x : Int) (u : Tok) (c0 : (decide (x < -(2 ^ 63)) || decide (x ≥ 2 ^ 63)) = false) (c1 : (items.isEmpty || x == 1) = false) (c2 : (decide (x ≤ 0) || items.isEmpty) = true) :
    Meets (Builtin.«tuple.__mul__» ⟨[.ref l, .int x u], []⟩) (fun _ R s => s.heap.get? l = some { cls := .type "tuple", dict := dd, data := .seq items n, slots := sl } ∧ R (.ok (.ret (Value.ref s.heap.objs.size))) { s with heap := s.heap.push { cls := Value.type "tuple", data := Data.seq #[] }, toks := s.toks }) :=
  .of_wp fun prog w A R s h => by
    obtain ⟨hp, g, d, tk, os⟩ := s
    obtain ⟨hl, h⟩ := h
    have f1 := AutoSeq1.idx_int
    wp_walk using AutoSeq1.wpAny_loadPart' hl
    repeat (first
      | (refine wpAny_ite_false (decide_eq_false (by rw [c0]; exact Bool.false_ne_true)) ?_; wp_walk using AutoSeq1.wpAny_loadPart' hl)
      | (refine wpAny_ite_false (decide_eq_false (by rw [c1]; exact Bool.false_ne_true)) ?_; wp_walk using AutoSeq1.wpAny_loadPart' hl)
      | (refine wpAny_ite_true (decide_eq_true (by rw [c2])) ?_; wp_walk using AutoSeq1.wpAny_loadPart' hl))
    exact ⟨_, rfl, h⟩
/-- t * k by whatever small k -/
def rRepZ (K : PySem.W.Frag) : R2 := fun x y H Q => ∃ l k xs, x = .ref l ∧ y = .int k ∧ SqT K H l xs ∧ -(2 ^ 63) ≤ k ∧ k < 2 ^ 63 ∧ ((xs = [] ∨ k = 1) → Q (.ref l) H) ∧ (xs ≠ [] → k ≤ 0 → ∀ p, H p = none → Q (.ref p) (upd H p (.tup []))) ∧
  (xs ≠ [] → 2 ≤ k → k ≤ 1000 ∧ xs.length ≤ 1000 ∧ ∀ p, H p = none → Q (.ref p) (upd H p (.tup (List.replicate k.toNat xs).flatten)))
theorem op_repZ : OpR X (binaryOp .Mult) (rRepZ X.K) := by
  intro pins s σ H x y v u Q I rx ry h
  obtain ⟨l, k, xs, rfl, rfl, hT, b1, b2, q1, q2, q3⟩ := h
  by_cases hx : xs ≠ [] ∧ 2 ≤ k
  · obtain ⟨z1, z2, z3⟩ := q3 hx.1 hx.2
    exact op_repT pins s σ H _ _ v u Q I rx ry ⟨l, k, xs, rfl, rfl, hT, hx.1, hx.2, z1, z2, z3⟩
  · cases rx
    obtain ⟨t, rfl⟩ := ry
    obtain ⟨its, r, ⟨⟨cls, dd, data, sl⟩, ho, hc, n, hd⟩, hs⟩ := I.tuple hT
    simp only at hc hd
    subst hc hd
    have hle : its.length = xs.length := r.length.symm
    have c0 : (decide (k < -(2 ^ 63)) || decide (k ≥ 2 ^ 63)) = false := by
      rw [decide_eq_false (by omega), decide_eq_false (by omega)] <;> rfl
    by_cases hq : xs = [] ∨ k = 1
    · have c1 : (its.toArray.isEmpty || k == 1) = true := by
        rcases hq with hq | hq
        · subst hq
          cases r
          rfl
        · subst hq
          simp
      exact wpAny_binaryOp_repeat_ref (T := "tuple") (U := "int") (by decide) ⟨_, ho, rfl⟩ (fun s' => typeIs_int s' k t) noFill_tuple_mul F.fills_int_mul F.slot_int_rmul repeat_tuple F.slot_int_index.lookup
        (call_meets F.slot_int_rmul (typeIs_int s k t) F.entry_int_rmul (F.args_int_rmul_2 _ _) (int_rmul_tuple k t l its.toArray n dd sl)
          ⟨ho, rfl, ⟨_, ho, rfl⟩, call_meets F.slot_tuple_mul ⟨_, ho, rfl⟩ F.entry_tuple_mul (F.args_tuple_mul_2 _ _) (tuple_mulE l its.toArray n dd sl k t c0 c1) ⟨ho, .ref l, H, I, rfl, q1 hq⟩⟩)
    · have hne : xs ≠ [] := fun z => hq (.inl z)
      have hk : k ≤ 0 := by
        have : k ≠ 1 := fun z => hq (.inr z)
        have : ¬ 2 ≤ k := fun z => hx ⟨hne, z⟩
        omega
      have hi : its.toArray.isEmpty = false := by
        cases its with
        | nil => exact absurd (List.eq_nil_of_length_eq_zero hle.symm) hne
        | cons a b => rfl
      have c1 : (its.toArray.isEmpty || k == 1) = false := by
        rw [hi, Bool.false_or]
        exact beq_eq_false_iff_ne.mpr (by omega)
      have c2 : (decide (k ≤ 0) || its.toArray.isEmpty) = true := by rw [decide_eq_true hk]; rfl
      exact wpAny_binaryOp_repeat_ref (T := "tuple") (U := "int") (by decide) ⟨_, ho, rfl⟩ (fun s' => typeIs_int s' k t) noFill_tuple_mul F.fills_int_mul F.slot_int_rmul repeat_tuple F.slot_int_index.lookup
        (call_meets F.slot_int_rmul (typeIs_int s k t) F.entry_int_rmul (F.args_int_rmul_2 _ _) (int_rmul_tuple k t l its.toArray n dd sl)
          ⟨ho, rfl, ⟨_, ho, rfl⟩, call_meets F.slot_tuple_mul ⟨_, ho, rfl⟩ F.entry_tuple_mul (F.args_tuple_mul_2 _ _) (tuple_mulZ l its.toArray n dd sl k t c0 c1 c2)
            ⟨ho, .ref s.heap.objs.size, _, I.laid (t' := s.toks) (o := .tup []) (fun b ob q => Heap.get?_push_of_some _ q) (Nat.le_refl _) ⟨Nat.zero_le _, [], .nil, IsTup.new _ _⟩, rfl, q2 hne hk _ (I.hok.fresh (Nat.le_refl _))⟩⟩)
def rep (xs : List D) (k : Int) : List D := (List.replicate k.toNat xs).flatten
def mulU (m : Bool) (a b : U) (h : List O) : R U := match a, b with
  | .d (.int i), .d (.int j) => if mulOk i j = true then .ok (.d (.int (i * j))) h else .bad
  | .d (.tuple xs), .d (.int k) => if -1000 ≤ k ∧ k ≤ 1000 ∧ xs.length ≤ 1000 then .ok (.d (.tuple (rep xs k))) h else .bad
  | .d (.list xs), .d (.int k) => if -1000000 ≤ k ∧ k ≤ 1000000 ∧ xs.length * k.toNat ≤ 10000000 then mkL m (rep xs k) h else .bad
  | _, _ => .bad
def rMulA (K : PySem.W.Frag) : R2 := fun x y H Q => rI (fun i j => mulOk i j = true) (fun i j => .int (i * j)) x y H Q ∨ (rRepZ K x y H Q ∨ rRep x y H Q)
theorem op_mulA : OpR X (binaryOp .Mult) (rMulA X.K) := OpR.or op_mulI (OpR.or op_repZ op_rep)
theorem RDs.rep {K : PySem.W.Frag} {H : Hp} {μ : List Addr} {xs : List D} {vs : List V} (r : RDs K H μ xs vs) : ∀ k : Nat, RDs K H μ (List.replicate k xs).flatten (List.replicate k vs).flatten
  | 0 => .nil
  | k + 1 => by rw [List.replicate_succ, List.replicate_succ, List.flatten_cons, List.flatten_cons]; exact r.append (RDs.rep r k)
theorem opd_mul (m : Bool) : OpD X W (rMulA X.K) (mulU m) := by
  intro a b h σ H μ x y Q rh ra rb p
  unfold mulU at p
  split at p
  · rename_i i j
    split at p
    · rename_i hm
      exact .inl ⟨i, j, ra.int_inv, rb.int_inv, hm, p.ret rh (.d (.int _))⟩
    · exact p.elim
  · rename_i xs k
    split at p
    · rename_i hm
      obtain ⟨a1, vs, rfl, h1, q1⟩ := ra.tup_inv
      have hl := q1.length
      refine .inr (.inl ⟨a1, k, vs, rfl, rb.int_inv, h1.sq, by omega, by omega, fun z => ?_, fun z1 z2 => ?_, fun z1 z2 => ⟨hm.2.1, by omega, tup_of rh (q1.rep k.toNat) p⟩⟩)
      · have e : rep xs k = xs := by
          unfold rep
          rcases z with z | z
          · subst z
            cases q1
            induction k.toNat with
            | zero => rfl
            | succ n ih => rw [List.replicate_succ, List.flatten_cons, ih]; rfl
          · subst z
            show (List.replicate 1 xs).flatten = xs
            simp
        rw [e] at p
        exact p.ret rh ra
      · have e : k.toNat = 0 := by omega
        have e2 : rep xs k = [] := by unfold rep; rw [e]; rfl
        rw [e2] at p
        exact tup_of rh .nil p
    · exact p.elim
  · rename_i xs k
    split at p
    · rename_i hm
      obtain ⟨a1, vs, rfl, h1, n1, q1⟩ := ra.lst_inv
      exact .inr (.inr ⟨a1, k, vs, rfl, rb.int_inv, h1, by omega, by omega, by rw [← q1.length, line_eq]; omega, mkL_of rh (q1.rep k.toNat) p⟩)
    · exact p.elim
  · exact p.elim
/-! ### one place -/
def negU (a : U) (h : List O) : R U := match a with
  | .d (.int i) => .ok (.d (.int (-i))) h
  | _ => .bad
theorem den_neg {a : Expr} {pos : Pos} {fa : En → List O → R U} (ha : Den X W a fa) : Den X W (.UnaryOp .USub a pos) (ev1 fa negU) := by
  obtain ⟨ta, pa, ca⟩ := ha
  refine ⟨_, pe_un un_neg pa, fun σ' h σ H μ Q re rh p => ?_⟩
  refine ca σ' h σ H μ _ re rh (Post.bind p fun u h1 H1 μ1 x e1 rh1 ru p1 => ?_)
  unfold negU at p1
  split at p1
  · rename_i i
    exact ⟨i, ru.int_inv, p1.ret rh1 (.d (.int _))⟩
  · exact p1.elim
/-! ### comparisons of ints -/
def cmpI (g : Int → Int → Bool) (a b : U) (h : List O) : R U := match a, b with
  | .d (.int i), .d (.int j) => .ok (.d (.bool (g i j))) h
  | _, _ => .bad
theorem opd_cmpI {g : Int → Int → Bool} : OpD X W (rI0 fun i j => .bl (g i j)) (cmpI g) := by
  intro a b h σ H μ x y Q rh ra rb p
  unfold cmpI at p
  split at p
  · rename_i i j
    exact ⟨i, j, ra.int_inv, rb.int_inv, p.ret rh (.d (.bl _))⟩
  · exact p.elim
/-! ### is -/
def isNon : U → Bool
  | .d .none => true
  | _ => false
def isU (neg : Bool) (a b : U) (h : List O) : R U := match b with
  | .d .none => .ok (.d (.bool (neg != isNon a))) h
  | .d (.bool c) => (match a with
    | .d (.bool e) => .ok (.d (.bool (neg != decide (e = c)))) h
    | _ => .bad)
  | _ => .bad
def rIsA (neg : Bool) : R2 := fun x y H Q => (y = .non ∧ Q (.bl (neg != decide (x = .non))) H) ∨ ∃ a b, x = .bl a ∧ y = .bl b ∧ Q (.bl (neg != decide (a = b))) H
theorem op_isA : OpR X (compareOp .Is) (rIsA false) := by
  intro pins s σ H x y v u Q I rx ry h
  rcases h with ⟨e, q⟩ | ⟨a, b, e1, e2, q⟩
  · exact op_isN pins s σ H x y v u Q I rx ry ⟨e, by simpa using q⟩
  · exact op_is_bl pins s σ H x y v u Q I rx ry ⟨a, b, e1, e2, by simpa using q⟩
theorem op_isnotA : OpR X (compareOp .IsNot) (rIsA true) := by
  intro pins s σ H x y v u Q I rx ry h
  rcases h with ⟨e, q⟩ | ⟨a, b, e1, e2, q⟩
  · exact op_notN pins s σ H x y v u Q I rx ry ⟨e, by simpa using q⟩
  · exact op_isnot_bl pins s σ H x y v u Q I rx ry ⟨a, b, e1, e2, by simpa using q⟩
theorem isnon {K : PySem.W.Frag} {H : Hp} {μ : List Addr} {u : U} {x : V} (r : RU K H μ u x) : isNon u = decide (x = .non) := by
  cases r with
  | d r => cases r <;> rfl
  | _ => rfl
theorem opd_is (neg : Bool) : OpD X W (rIsA neg) (isU neg) := by
  intro a b h σ H μ x y Q rh ra rb p
  unfold isU at p
  split at p
  · have ey : y = .non := by
      cases rb with
      | d r => cases r; rfl
    refine .inl ⟨ey, ?_⟩
    rw [isnon ra] at p
    exact p.ret rh (.d (.bl _))
  · rename_i c
    have ey : y = .bl c := by
      cases rb with
      | d r => cases r; rfl
    split at p
    · rename_i e
      have ex : x = .bl e := by
        cases ra with
        | d r => cases r; rfl
      exact .inr ⟨e, c, ex, ey, p.ret rh (.d (.bl _))⟩
    · exact p.elim
  · exact p.elim
/-! ### == of data -/
mutual
theorem RD.dp {K : PySem.W.Frag} {H : Hp} {μ : List Addr} : ∀ {d : D} {v : V}, RD K H μ d v → Dp K H v d
  | _, _, .non => .non
  | _, _, .bl b => .bl b
  | _, _, .int i => .int i
  | _, _, .str s _ => .str s
  | _, _, .tup h r => .tup h.sq (RDs.dp r)
  | _, _, .lst h n r => .lst (SqL.of h) (RDs.dp r)
theorem RDs.dp {K : PySem.W.Frag} {H : Hp} {μ : List Addr} : ∀ {d : List D} {v : List V}, RDs K H μ d v → DpAll K H v d
  | _, _, .nil => .nil
  | _, _, .cons h r => .cons (RD.dp h) (RDs.dp r)
end
mutual
theorem RD.lay {K : PySem.W.Frag} {H : Hp} {μ : List Addr} : ∀ {d : D} {v : V}, RD K H μ d v → d.canLay0 = true
  | _, _, .non => rfl
  | _, _, .bl b => rfl
  | _, _, .int i => rfl
  | _, _, .str s h => h
  | _, _, .tup h r => RDs.lay r
  | _, _, .lst h n r => RDs.lay r
theorem RDs.lay {K : PySem.W.Frag} {H : Hp} {μ : List Addr} : ∀ {d : List D} {v : List V}, RDs K H μ d v → PyData.canLayAll0 d = true
  | _, _, .nil => rfl
  | _, _, .cons h r => by rw [PyData.canLayAll0, RD.lay h, RDs.lay r]; rfl
end
/-- pure data of a value that may be compared -/
def dataOf (u : U) (h : List O) : Option D := match u with
  | .d d => some d
  | .lab n => (listOf (.lab n) h).map .list
  | .scr xs => some (.list (xs.map .int))
  | _ => none
theorem dataOf_of {K : PySem.W.Frag} {H : Hp} {μ : List Addr} {u : U} {h : List O} {x : V} {d : D} (rh : Rh K H μ h) (r : RU K H μ u x) (e : dataOf u h = some d) : Dp K H x d ∧ d.canLay0 = true := by
  cases r with
  | d r => cases e; exact ⟨r.dp, r.lay⟩
  | @lab n a r =>
    have e' : (listOf (.lab n) h).map PyData.list = some d := e
    cases q : listOf (.lab n) h with
    | none => rw [q] at e'; cases e'
    | some xs =>
      rw [q] at e'
      cases e'
      obtain ⟨a', vs, e1, h1, q1⟩ := listOf_of rh (.lab r) q
      rw [e1]
      exact ⟨.lst (SqL.of h1) q1.dp, q1.lay⟩
  | @scr a ns h1 =>
    cases e
    have z : RDs K H μ (ns.map .int) (ns.map V.int) := RDs_ints ns
    exact ⟨.lst h1.sq z.dp, z.lay⟩
  | _ => cases e
def eqO (a b : U) (h : List O) : Option Bool := match dataOf a h, dataOf b h with
  | some d, some e => if d.depth ≤ 64 ∨ e.depth ≤ 64 then some (PyData.eqv d e) else none
  | _, _ => none
def eqU (neg : Bool) (a b : U) (h : List O) : R U := (opt (eqO a b h) h).bind fun k h => .ok (.d (.bool (neg != k))) h
def rEqA (K : PySem.W.Frag) (neg : Bool) : R2 := fun x y H Q => ∃ d e, Dp K H x d ∧ Dp K H y e ∧ d.canLay0 = true ∧ e.canLay0 = true ∧ (d.depth ≤ 64 ∨ e.depth ≤ 64) ∧ Q (.bl (neg != PyData.eqv d e)) H
theorem op_eqA (hu : X.A.units + 64 < cLine) : OpR X (compareOp .Eq) (rEqA X.K false) := by
  intro pins s σ H x y v u Q I rx ry h
  obtain ⟨d, e, hd, he, sd, se, hz, q⟩ := h
  obtain ⟨as, r1⟩ := Dp.reads I d x v hd rx
  obtain ⟨bs, r2⟩ := Dp.reads I e y u he ry
  exact SeqAt.compareEq_reads r1 r2 sd se (by omega) ⟨.bl _, H, I, by simp; rfl, q⟩
theorem op_neA (hu : X.A.units + 64 < cLine) : OpR X (compareOp .NotEq) (rEqA X.K true) := by
  intro pins s σ H x y v u Q I rx ry h
  obtain ⟨d, e, hd, he, sd, se, hz, q⟩ := h
  obtain ⟨as, r1⟩ := Dp.reads I d x v hd rx
  obtain ⟨bs, r2⟩ := Dp.reads I e y u he ry
  exact SeqAt.compareNe_reads r1 r2 sd se (by omega) ⟨.bl _, H, I, by simp; rfl, q⟩
theorem opd_eq (neg : Bool) : OpD X W (rEqA X.K neg) (eqU neg) := by
  intro a b h σ H μ x y Q rh ra rb p
  obtain ⟨k, ek, p⟩ := Post.opt p
  unfold eqO at ek
  cases ea : dataOf a h with
  | none => rw [ea] at ek; cases ek
  | some d =>
    cases eb : dataOf b h with
    | none => rw [ea, eb] at ek; cases ek
    | some e =>
      rw [ea, eb] at ek
      have ek' : (if d.depth ≤ 64 ∨ e.depth ≤ 64 then some (PyData.eqv d e) else none) = some k := ek
      by_cases hz : d.depth ≤ 64 ∨ e.depth ≤ 64
      · rw [if_pos hz] at ek'
        cases ek'
        obtain ⟨d1, l1⟩ := dataOf_of rh ra ea
        obtain ⟨d2, l2⟩ := dataOf_of rh rb eb
        exact ⟨d, e, d1, d2, l1, l2, hz, p.ret rh (.d (.bl _))⟩
      · rw [if_neg hz] at ek'; cases ek'
end
end Py

namespace Py
open PySem PySem.Spec PyProof.Rows L2
/-! ### arguments without a star -/
def isStar : Expr → Bool
  | .Starred _ _ => true
  | _ => false
def noStar (es : List Expr) : Bool := es.all fun e => !isStar e
theorem star1 {e : Expr} {es : List Expr} {env : Env} (h : isStar e = false) : starEach (e :: es) env = (false, eval e env) :: starEach es env := by
  cases e <;> first | rfl | cases h
theorem noStar_cons {e : Expr} {es : List Expr} (h : noStar (e :: es) = true) : isStar e = false ∧ noStar es = true := by
  unfold noStar at h ⊢
  rw [List.all_cons, Bool.and_eq_true] at h
  exact ⟨by simpa using h.1, h.2⟩
theorem noStar_any {env : Env} {pos : Pos} : ∀ {es : List Expr}, noStar es = true → (backTo pos (starEach es env)).any (·.1) = false
  | [], _ => rfl
  | e :: es, h => by
    obtain ⟨h1, h2⟩ := noStar_cons h
    rw [star1 h1]
    have ih := noStar_any (env := env) (pos := pos) h2
    unfold backTo at ih ⊢
    rw [List.map_cons, List.any_cons, ih]
    rfl
theorem noStar_back {env : Env} {pos : Pos} {e : Expr} {es : List Expr} (h : noStar (e :: es) = true) : backTo pos (starEach (e :: es) env) = (false, eval e env) :: backTo pos (starEach es env) := by
  obtain ⟨h1, h2⟩ := noStar_cons h
  rw [star1 h1]
  rfl
theorem noStar_few {env : Env} {pos : Pos} : ∀ {es : List Expr}, noStar es = true → (backTo pos (starEach es env)).all (fun x => !x.1) = true
  | [], _ => rfl
  | e :: es, h => by
    obtain ⟨h1, h2⟩ := noStar_cons h
    rw [star1 h1]
    have ih := noStar_few (env := env) (pos := pos) h2
    unfold backTo at ih ⊢
    rw [List.map_cons, List.all_cons, ih]
    rfl
/-- a rule for a call on values says what g says -/
def CallD (X : Cx) (W : WX) (r : List V → Hp → VK → Prop) (g : List U → List O → R U) : Prop :=
  ∀ us h σ H μ xs Q, Rh X.K H μ h → RUs X.K H μ us xs → Post X.K W σ H μ (RU X.K) (g us h) Q → r xs H Q
def evCall (f : En → List O → R (List U)) (g : List U → List O → R U) : En → List O → R U := fun σ h => (f σ h).bind g
theorem RU.bl_inv {K : PySem.W.Frag} {H : Hp} {μ : List Addr} {i : Bool} {x : V} (r : RU K H μ (.d (.bool i)) x) : x = .bl i := by cases r with | d r => cases r; rfl
section
variable {X : Cx} {W : WX}
theorem den_callB {x : Str} {id : String} {r : List V → Hp → VK → Prop} {e : Expr} {es : List Expr} {p pos : Pos} {f : En → List O → R (List U)} {g : List U → List O → R U} (hc : CallR X (.builtin id) r) (hg : CallD X W r g) (gl : Gl X x) (hm : X.mg x = none)
    (hv : bootBuiltins x = some (.builtin id)) (hf : DenA X W (e :: es) f) (hs : noStar (e :: es) = true) (hn : x ≠ "__name__") (hdb : (x == ("__debug__" : Str)) = false) : Den X W (.Call (.Name x p) (e :: es) [] pos) (evCall f g) := by
  obtain ⟨ta, pa, ca⟩ := hf
  obtain ⟨h1, h2⟩ := noStar_cons hs
  refine ⟨_, pe_callB hc gl hm hv pa hn hdb (star1 h1) (noStar_any h2), fun σ' h σ H μ Q re rh p => ?_⟩
  exact ca σ' h σ H μ _ re rh (Post.bind p fun us h1 H1 μ1 xs e1 rh1 ru p1 => hg us h1 σ H1 μ1 xs Q rh1 ru p1)
theorem den_callTy {x : Str} {T : String} {r : List V → Hp → VK → Prop} {e : Expr} {es : List Expr} {p pos : Pos} {f : En → List O → R (List U)} {g : List U → List O → R U} (hc : CallR X (.type T) r) (hg : CallD X W r g) (gl : Gl X x) (hm : X.mg x = none)
    (hv : bootBuiltins x = some (.type T)) (hf : DenA X W (e :: es) f) (hs : noStar (e :: es) = true) (hn : x ≠ "__name__") (hdb : (x == ("__debug__" : Str)) = false) : Den X W (.Call (.Name x p) (e :: es) [] pos) (evCall f g) := by
  obtain ⟨ta, pa, ca⟩ := hf
  obtain ⟨h1, h2⟩ := noStar_cons hs
  refine ⟨_, pe_callTy hc gl hm hv pa hn hdb (star1 h1) (noStar_any h2), fun σ' h σ H μ Q re rh p => ?_⟩
  exact ca σ' h σ H μ _ re rh (Post.bind p fun us h1 H1 μ1 xs e1 rh1 ru p1 => hg us h1 σ H1 μ1 xs Q rh1 ru p1)
def r1 (r : V → Hp → VK → Prop) : List V → Hp → VK → Prop := fun xs H Q => ∃ x, xs = [x] ∧ r x H Q
def g1 (g : U → List O → R U) : List U → List O → R U := fun us h => match us with | [u] => g u h | _ => .bad
def r2 (r : V → V → Hp → VK → Prop) : List V → Hp → VK → Prop := fun xs H Q => ∃ x y, xs = [x, y] ∧ r x y H Q
def g2 (g : U → U → List O → R U) : List U → List O → R U := fun us h => match us with | [u, w] => g u w h | _ => .bad
/-- for a call of one value -/
theorem calld_1 {r : V → Hp → VK → Prop} {g : U → List O → R U} (k : ∀ u h σ H μ x Q, Rh X.K H μ h → RU X.K H μ u x → Post X.K W σ H μ (RU X.K) (g u h) Q → r x H Q) : CallD X W (r1 r) (g1 g) := by
  intro us h σ H μ xs Q rh ru p
  cases ru with
  | nil => exact p.elim
  | cons h1 h2 =>
    cases h2 with
    | nil => exact ⟨_, rfl, k _ h σ H μ _ Q rh h1 p⟩
    | cons _ _ => exact p.elim
theorem calld_2 {r : V → V → Hp → VK → Prop} {g : U → U → List O → R U} (k : ∀ u w h σ H μ x y Q, Rh X.K H μ h → RU X.K H μ u x → RU X.K H μ w y → Post X.K W σ H μ (RU X.K) (g u w h) Q → r x y H Q) : CallD X W (r2 r) (g2 g) := by
  intro us h σ H μ xs Q rh ru p
  cases ru with
  | nil => exact p.elim
  | cons h1 h2 =>
    cases h2 with
    | nil => exact p.elim
    | cons h2 h3 =>
      cases h3 with
      | nil => exact ⟨_, _, rfl, k _ _ h σ H μ _ _ Q rh h1 h2 p⟩
      | cons _ _ => exact p.elim
theorem CallR.imp {f : Value} {r r' : List V → Hp → VK → Prop} (h : CallR X f r) (k : ∀ xs H Q, r' xs H Q → r xs H Q) : CallR X f r' := fun pins s σ H xs us Q I rv q => h pins s σ H xs us Q I rv (k _ _ _ q)
/-! ### len -/
def lenO : O → Option Nat
  | .lst xs => some xs.length
  | .mix xs => some xs.length
  | .dct _ => none
  | .hold _ => none
def lenN (u : U) (h : List O) : Option Nat := match u with
  | .d (.str s) => if s.length ≤ 10000000 then some s.length else none
  | .d (.tuple xs) => some xs.length
  | .d (.list xs) => some xs.length
  | .scr xs => some xs.length
  | .lab n => h[n]?.bind lenO
  | _ => none
def lenU (u : U) (h : List O) : R U := (opt (lenN u h) h).bind fun n h => .ok (.d (.int n)) h
def rLenV (K : PySem.W.Frag) : V → Hp → VK → Prop := fun x H Q => ∃ n, LenV K x H n ∧ Q (.int n) H
theorem lenN_of {K : PySem.W.Frag} {H : Hp} {μ : List Addr} {u : U} {h : List O} {x : V} {n : Nat} (rh : Rh K H μ h) (r : RU K H μ u x) (e : lenN u h = some n) : LenV K x H n := by
  cases r with
  | d r =>
    cases r with
    | str s _ =>
      have e' : (if s.length ≤ 10000000 then some s.length else none) = some n := e
      by_cases hs : s.length ≤ 10000000
      · rw [if_pos hs] at e'
        cases e'
        exact ⟨by rw [line_eq]; omega, rfl⟩
      · rw [if_neg hs] at e'; cases e'
    | tup h1 q => cases e; exact .inr ⟨_, h1.sq, q.length⟩
    | lst h1 _ q => cases e; exact .inl ⟨_, SqL.of h1, q.length⟩
    | _ => cases e
  | scr h1 => cases e; exact .inl ⟨_, h1.sq, by rw [List.length_map]⟩
  | @lab m a ra =>
    have e' : h[m]?.bind lenO = some n := e
    cases z : h[m]? with
    | none => rw [z] at e'; cases e'
    | some o =>
      rw [z] at e'
      obtain ⟨ho, h1, h2⟩ := rh.obj m o a z ra
      cases h2 with
      | lst q => cases e'; exact .inl ⟨_, SqL.of h1, q.length⟩
      | mix q _ => cases e'; exact .inl ⟨_, SqL.of h1, q.length⟩
      | dct q => cases e'
      | hold q => cases e'
  | _ => cases e
theorem cd_len : CallD X W (r1 (rLenV X.K)) (g1 lenU) := calld_1 fun u h σ H μ x Q rh ru p => by
  obtain ⟨n, e, p⟩ := Post.opt p
  exact ⟨n, lenN_of rh ru e, p.ret rh (.d (.int _))⟩
theorem cr_lenV : CallR X (.builtin "len") (r1 (rLenV X.K)) := CallR.imp call_len fun xs H Q ⟨x, e, n, l, q⟩ => ⟨x, n, e, l, q⟩
/-! ### lists of truths, of ints -/
def boolsOf : List D → Option (List Bool)
  | [] => some []
  | .bool b :: r => (boolsOf r).map (b :: ·)
  | _ :: _ => none
def intsOf : List D → Option (List Int)
  | [] => some []
  | .int b :: r => (intsOf r).map (b :: ·)
  | _ :: _ => none
theorem boolsOf_of {K : PySem.W.Frag} {H : Hp} {μ : List Addr} {ds : List D} {vs : List V} {bs : List Bool} (r : RDs K H μ ds vs) (e : boolsOf ds = some bs) : vs = bs.map V.bl := by
  induction ds generalizing vs bs with
  | nil => cases r; cases e; rfl
  | cons d ds ih =>
    cases r with
    | cons h q =>
      cases h with
      | bl b =>
        have e' : (boolsOf ds).map (b :: ·) = some bs := e
        cases z : boolsOf ds with
        | none => rw [z] at e'; cases e'
        | some cs => rw [z] at e'; cases e'; rw [ih q z]; rfl
      | _ => cases e
theorem intsOf_of {K : PySem.W.Frag} {H : Hp} {μ : List Addr} {ds : List D} {vs : List V} {bs : List Int} (r : RDs K H μ ds vs) (e : intsOf ds = some bs) : vs = bs.map V.int := by
  induction ds generalizing vs bs with
  | nil => cases r; cases e; rfl
  | cons d ds ih =>
    cases r with
    | cons h q =>
      cases h with
      | int b =>
        have e' : (intsOf ds).map (b :: ·) = some bs := e
        cases z : intsOf ds with
        | none => rw [z] at e'; cases e'
        | some cs => rw [z] at e'; cases e'; rw [ih q z]; rfl
      | _ => cases e
theorem boolsOf_map (bs : List Bool) : boolsOf (bs.map .bool) = some bs := by
  induction bs with
  | nil => rfl
  | cons b bs ih => rw [List.map_cons, boolsOf, ih]; rfl
theorem intsOf_map (bs : List Int) : intsOf (bs.map .int) = some bs := by
  induction bs with
  | nil => rfl
  | cons b bs ih => rw [List.map_cons, intsOf, ih]; rfl
def allU (u : U) (h : List O) : R U := (opt ((listOf u h).bind boolsOf) h).bind fun bs h => .ok (.d (.bool (bs.all id))) h
def anyU (u : U) (h : List O) : R U := (opt ((listOf u h).bind boolsOf) h).bind fun bs h => .ok (.d (.bool (bs.any id))) h
def sumU (u : U) (h : List O) : R U := (opt ((listOf u h).bind intsOf) h).bind fun bs h => .ok (.d (.int bs.sum)) h
theorem bools_list {K : PySem.W.Frag} {H : Hp} {μ : List Addr} {u : U} {h : List O} {x : V} {bs : List Bool} (rh : Rh K H μ h) (r : RU K H μ u x) (e : (listOf u h).bind boolsOf = some bs) : ∃ a, x = .ref a ∧ H a = some (.lst (bs.map V.bl)) := by
  cases z : listOf u h with
  | none => rw [z] at e; cases e
  | some xs =>
    rw [z] at e
    obtain ⟨a, vs, e1, h1, q⟩ := listOf_of rh r z
    exact ⟨a, e1, by rw [← boolsOf_of q e]; exact h1⟩
theorem ints_list {K : PySem.W.Frag} {H : Hp} {μ : List Addr} {u : U} {h : List O} {x : V} {bs : List Int} (rh : Rh K H μ h) (r : RU K H μ u x) (e : (listOf u h).bind intsOf = some bs) : ∃ a, x = .ref a ∧ H a = some (.lst (bs.map V.int)) := by
  cases z : listOf u h with
  | none => rw [z] at e; cases e
  | some xs =>
    rw [z] at e
    obtain ⟨a, vs, e1, h1, q⟩ := listOf_of rh r z
    exact ⟨a, e1, by rw [← intsOf_of q e]; exact h1⟩
def rAllV (K : PySem.W.Frag) : V → Hp → VK → Prop := fun x H Q => ∃ (a : Addr) (bs : List Bool), x = .ref a ∧ SqL K H a (bs.map V.bl) ∧ Q (.bl (bs.all id)) H
def rAnyV (K : PySem.W.Frag) : V → Hp → VK → Prop := fun x H Q => ∃ (a : Addr) (bs : List Bool), x = .ref a ∧ SqL K H a (bs.map V.bl) ∧ Q (.bl (bs.any id)) H
def rSumV (K : PySem.W.Frag) : V → Hp → VK → Prop := fun x H Q => ∃ (a : Addr) (ns : List Int), x = .ref a ∧ SqL K H a (ns.map V.int) ∧ Q (.int ns.sum) H
theorem cr_allV (hc : X.calm = true) : CallR X (.builtin "all") (r1 (rAllV X.K)) := CallR.imp (cr_all hc) fun xs H Q ⟨x, e, a, bs, e2, q⟩ => ⟨a, bs, by rw [e, e2], q⟩
theorem cr_anyV (hc : X.calm = true) : CallR X (.builtin "any") (r1 (rAnyV X.K)) := CallR.imp (cr_any hc) fun xs H Q ⟨x, e, a, bs, e2, q⟩ => ⟨a, bs, by rw [e, e2], q⟩
theorem cr_sumV (hc : X.calm = true) : CallR X (.builtin "sum") (r1 (rSumV X.K)) := CallR.imp (cr_sum hc) fun xs H Q ⟨x, e, a, bs, e2, q⟩ => ⟨a, bs, by rw [e, e2], q⟩
theorem cd_all : CallD X W (r1 (rAllV X.K)) (g1 allU) := calld_1 fun u h σ H μ x Q rh ru p => by
  obtain ⟨bs, e, p⟩ := Post.opt p
  obtain ⟨a, e1, h1⟩ := bools_list rh ru e
  exact ⟨a, bs, e1, SqL.of h1, p.ret rh (.d (.bl _))⟩
theorem cd_any : CallD X W (r1 (rAnyV X.K)) (g1 anyU) := calld_1 fun u h σ H μ x Q rh ru p => by
  obtain ⟨bs, e, p⟩ := Post.opt p
  obtain ⟨a, e1, h1⟩ := bools_list rh ru e
  exact ⟨a, bs, e1, SqL.of h1, p.ret rh (.d (.bl _))⟩
theorem cd_sum : CallD X W (r1 (rSumV X.K)) (g1 sumU) := calld_1 fun u h σ H μ x Q rh ru p => by
  obtain ⟨bs, e, p⟩ := Post.opt p
  obtain ⟨a, e1, h1⟩ := ints_list rh ru e
  exact ⟨a, bs, e1, SqL.of h1, p.ret rh (.d (.int _))⟩
/-! ### max, min of lists of ints -/
def maxL : Int → List Int → Int
  | m, [] => m
  | m, x :: r => maxL (if x > m then x else m) r
def minL : Int → List Int → Int
  | m, [] => m
  | m, x :: r => minL (if x < m then x else m) r
theorem maxL_spec : ∀ (r : List Int) (m : Int), (maxL m r ∈ m :: r) ∧ ∀ y ∈ m :: r, y ≤ maxL m r
  | [], m => ⟨by simp [maxL], fun y hy => by simp at hy; subst hy; exact Int.le_refl _⟩
  | x :: r, m => by
    obtain ⟨h1, h2⟩ := maxL_spec r (if x > m then x else m)
    rw [maxL]
    generalize hz : maxL (if x > m then x else m) r = z at h1 h2 ⊢
    refine ⟨?_, fun y hy => ?_⟩
    · rcases List.mem_cons.mp h1 with e | e
      · subst e; split <;> simp
      · exact List.mem_cons_of_mem _ (List.mem_cons_of_mem _ e)
    · have h0 := h2 _ List.mem_cons_self
      rcases List.mem_cons.mp hy with e | hy
      · subst e; split at h0 <;> omega
      · rcases List.mem_cons.mp hy with e | hy
        · subst e; split at h0 <;> omega
        · exact h2 y (List.mem_cons_of_mem _ hy)
theorem minL_spec : ∀ (r : List Int) (m : Int), (minL m r ∈ m :: r) ∧ ∀ y ∈ m :: r, minL m r ≤ y
  | [], m => ⟨by simp [minL], fun y hy => by simp at hy; subst hy; exact Int.le_refl _⟩
  | x :: r, m => by
    obtain ⟨h1, h2⟩ := minL_spec r (if x < m then x else m)
    rw [minL]
    generalize hz : minL (if x < m then x else m) r = z at h1 h2 ⊢
    refine ⟨?_, fun y hy => ?_⟩
    · rcases List.mem_cons.mp h1 with e | e
      · subst e; split <;> simp
      · exact List.mem_cons_of_mem _ (List.mem_cons_of_mem _ e)
    · have h0 := h2 _ List.mem_cons_self
      rcases List.mem_cons.mp hy with e | hy
      · subst e; split at h0 <;> omega
      · rcases List.mem_cons.mp hy with e | hy
        · subst e; split at h0 <;> omega
        · exact h2 y (List.mem_cons_of_mem _ hy)
def maxU (u : U) (h : List O) : R U := (opt ((listOf u h).bind intsOf) h).bind fun bs h => match bs with
  | [] => .bad
  | m :: r => .ok (.d (.int (maxL m r))) h
def minU (u : U) (h : List O) : R U := (opt ((listOf u h).bind intsOf) h).bind fun bs h => match bs with
  | [] => .bad
  | m :: r => .ok (.d (.int (minL m r))) h
def max2U (u w : U) (h : List O) : R U := match u, w with
  | .d (.int i), .d (.int j) => .ok (.d (.int (if j > i then j else i))) h
  | _, _ => .bad
def min2U (u w : U) (h : List O) : R U := match u, w with
  | .d (.int i), .d (.int j) => .ok (.d (.int (if j < i then j else i))) h
  | _, _ => .bad
def maxG : List U → List O → R U := fun us h => match us with
  | [u] => maxU u h
  | [u, w] => max2U u w h
  | _ => .bad
def minG : List U → List O → R U := fun us h => match us with
  | [u] => minU u h
  | [u, w] => min2U u w h
  | _ => .bad
def rMaxG (K : PySem.W.Frag) : List V → Hp → VK → Prop := fun xs H Q => rMax K xs H Q ∨ (∃ i j, xs = [.int i, .int j] ∧ Q (.int (if j > i then j else i)) H)
def rMinG (K : PySem.W.Frag) : List V → Hp → VK → Prop := fun xs H Q => rMin K xs H Q ∨ (∃ i j, xs = [.int i, .int j] ∧ Q (.int (if j < i then j else i)) H)
theorem cr_maxG (hc : X.calm = true) : CallR X (.builtin "max") (rMaxG X.K) := CallR.or (cr_max hc) (call_max2 hc)
theorem cr_minG (hc : X.calm = true) : CallR X (.builtin "min") (rMinG X.K) := CallR.or (cr_min hc) (call_min2 hc)
theorem cd_max : CallD X W (rMaxG X.K) maxG := by
  intro us h σ H μ xs Q rh ru p
  unfold maxG at p
  split at p
  · cases ru with
    | cons r1 r2 =>
      cases r2
      obtain ⟨bs, e, p⟩ := Post.opt p
      obtain ⟨a, e1, h1⟩ := ints_list rh r1 e
      cases bs with
      | nil => exact p.elim
      | cons m r =>
        refine .inl ⟨a, m :: r, by rw [e1], SqL.of h1, by simp, fun k hk hk2 => ?_⟩
        obtain ⟨s1, s2⟩ := maxL_spec r m
        have := hk2 _ s1
        have := s2 _ hk
        have ek : k = maxL m r := by omega
        rw [ek]
        exact p.ret rh (.d (.int _))
  · cases ru with
    | cons r1 r2 =>
      cases r2 with
      | cons r2 r3 =>
        cases r3
        unfold max2U at p
        split at p
        · exact .inr ⟨_, _, by rw [r1.int_inv, r2.int_inv], p.ret rh (.d (.int _))⟩
        · exact p.elim
  · exact p.elim
theorem cd_min : CallD X W (rMinG X.K) minG := by
  intro us h σ H μ xs Q rh ru p
  unfold minG at p
  split at p
  · cases ru with
    | cons r1 r2 =>
      cases r2
      obtain ⟨bs, e, p⟩ := Post.opt p
      obtain ⟨a, e1, h1⟩ := ints_list rh r1 e
      cases bs with
      | nil => exact p.elim
      | cons m r =>
        refine .inl ⟨a, m :: r, by rw [e1], SqL.of h1, by simp, fun k hk hk2 => ?_⟩
        obtain ⟨s1, s2⟩ := minL_spec r m
        have := hk2 _ s1
        have := s2 _ hk
        have ek : k = minL m r := by omega
        rw [ek]
        exact p.ret rh (.d (.int _))
  · cases ru with
    | cons r1 r2 =>
      cases r2 with
      | cons r2 r3 =>
        cases r3
        unfold min2U at p
        split at p
        · exact .inr ⟨_, _, by rw [r1.int_inv, r2.int_inv], p.ret rh (.d (.int _))⟩
        · exact p.elim
  · exact p.elim
/-! ### int, abs, tuple, list -/
def absU (u : U) (h : List O) : R U := match u with
  | .d (.int i) => .ok (.d (.int (if i < 0 then -i else i))) h
  | _ => .bad
theorem cd_abs : CallD X W (r1 fun x H Q => ∃ i, x = .int i ∧ Q (.int (if i < 0 then -i else i)) H) (g1 absU) := calld_1 fun u h σ H μ x Q rh ru p => by
  unfold absU at p
  split at p
  · exact ⟨_, ru.int_inv, p.ret rh (.d (.int _))⟩
  · exact p.elim
theorem cr_absV : CallR X (.builtin "abs") (r1 fun x H Q => ∃ i, x = .int i ∧ Q (.int (if i < 0 then -i else i)) H) := CallR.imp call_abs fun xs H Q ⟨x, e, i, e2, q⟩ => ⟨i, by rw [e, e2], q⟩
def intU (u : U) (h : List O) : R U := match u with
  | .d (.int i) => .ok (.d (.int i)) h
  | .d (.bool k) => .ok (.d (.int (if k then 1 else 0))) h
  | _ => .bad
def rIntV : V → Hp → VK → Prop := fun x H Q => (∃ i, x = .int i ∧ Q (.int i) H) ∨ ∃ k, x = .bl k ∧ Q (.int (if k then 1 else 0)) H
theorem cd_int : CallD X W (r1 rIntV) (g1 intU) := calld_1 fun u h σ H μ x Q rh ru p => by
  unfold intU at p
  split at p
  · exact .inl ⟨_, ru.int_inv, p.ret rh (.d (.int _))⟩
  · exact .inr ⟨_, ru.bl_inv, p.ret rh (.d (.int _))⟩
  · exact p.elim
theorem cr_intV : CallR X (.type "int") (r1 rIntV) := CallR.imp call_int1 fun xs H Q ⟨x, e, q⟩ => by
  rcases q with ⟨i, e2, q⟩ | ⟨i, e2, q⟩
  · exact .inl ⟨i, by rw [e, e2], q⟩
  · exact .inr ⟨i, by rw [e, e2], q⟩
/-- a list of any sort -/
def lstLike (u : U) (h : List O) : Option (List D) := match u with
  | .scr xs => some (xs.map .int)
  | u => listOf u h
theorem lstLike_of {K : PySem.W.Frag} {H : Hp} {μ : List Addr} {u : U} {h : List O} {x : V} {xs : List D} (rh : Rh K H μ h) (r : RU K H μ u x) (e : lstLike u h = some xs) : ∃ a vs, x = .ref a ∧ SqL K H a vs ∧ RDs K H μ xs vs := by
  cases r with
  | scr h1 => cases e; exact ⟨_, _, rfl, h1.sq, RDs_ints _⟩
  | d r =>
    obtain ⟨a, vs, e1, h1, q⟩ := listOf_of rh (.d r) (show listOf (.d _) h = some xs from e)
    exact ⟨a, vs, e1, SqL.of h1, q⟩
  | lab r =>
    obtain ⟨a, vs, e1, h1, q⟩ := listOf_of rh (.lab r) (show listOf (.lab _) h = some xs from e)
    exact ⟨a, vs, e1, SqL.of h1, q⟩
  | _ => cases e
def isTup : U → Bool
  | .d (.tuple _) => true
  | _ => false
def tupleU (u : U) (h : List O) : R U := if isTup u = true then .ok u h else (opt (lstLike u h) h).bind fun xs h => .ok (.d (.tuple xs)) h
def rTupV (K : PySem.W.Frag) : V → Hp → VK → Prop := fun x H Q => ∃ p ys, x = .ref p ∧ ((SqL K H p ys ∧ ∀ l, H l = none → Q (.ref l) (upd H l (.tup ys))) ∨ (SqT K H p ys ∧ Q (.ref p) H))
theorem cr_tupV : CallR X (.type "tuple") (r1 (rTupV X.K)) := CallR.imp call_tuple_of fun xs H Q ⟨x, e, p, ys, e2, q⟩ => ⟨p, ys, by rw [e, e2], q⟩
theorem cd_tup : CallD X W (r1 (rTupV X.K)) (g1 tupleU) := calld_1 fun u h σ H μ x Q rh ru p => by
  unfold tupleU at p
  by_cases ht : isTup u = true
  · rw [if_pos ht] at p
    have : ∃ ys, u = .d (.tuple ys) := by
      unfold isTup at ht
      split at ht
      · exact ⟨_, rfl⟩
      · cases ht
    obtain ⟨ys, rfl⟩ := this
    obtain ⟨a, vs, rfl, h1, q⟩ := ru.tup_inv
    exact ⟨a, vs, rfl, .inr ⟨h1.sq, p.ret rh ru⟩⟩
  · rw [if_neg ht] at p
    obtain ⟨xs, e, p⟩ := Post.opt p
    obtain ⟨a, vs, rfl, h1, q⟩ := lstLike_of rh ru e
    exact ⟨a, vs, rfl, .inl ⟨h1, tup_of rh q p⟩⟩
def listU (m : Bool) (u : U) (h : List O) : R U := (opt (seqOf u h) h).bind fun xs h => mkL m xs h
def rLstV (K : PySem.W.Frag) : V → Hp → VK → Prop := fun x H Q => ∃ p ys, x = .ref p ∧ (SqL K H p ys ∨ SqT K H p ys) ∧ ∀ l, H l = none → Q (.ref l) (upd H l (.lst ys))
theorem cr_lstV : CallR X (.type "list") (r1 (rLstV X.K)) := CallR.imp call_list_of fun xs H Q ⟨x, e, p, ys, e2, q⟩ => ⟨p, ys, by rw [e, e2], q⟩
theorem cd_lst (m : Bool) : CallD X W (r1 (rLstV X.K)) (g1 (listU m)) := calld_1 fun u h σ H μ x Q rh ru p => by
  obtain ⟨xs, e, p⟩ := Post.opt p
  obtain ⟨a, vs, rfl, h1, q⟩ := seqOf_of rh ru e
  exact ⟨a, vs, rfl, h1, mkL_of rh q p⟩
/-! ### sorted lists of ints -/
def insI (x : Int) : List Int → List Int
  | [] => [x]
  | y :: r => if x ≤ y then x :: y :: r else y :: insI x r
def sortI : List Int → List Int
  | [] => []
  | x :: r => insI x (sortI r)
theorem insI_perm (x : Int) : ∀ r : List Int, (insI x r).Perm (x :: r)
  | [] => .refl _
  | y :: r => by
    unfold insI
    split
    · exact .refl _
    · exact ((insI_perm x r).cons y).trans (.swap x y r)
theorem sortI_perm : ∀ r : List Int, (sortI r).Perm r
  | [] => .refl _
  | x :: r => (insI_perm x _).trans ((sortI_perm r).cons x)
theorem insI_sorted (x : Int) : ∀ r : List Int, r.Pairwise (· ≤ ·) → (insI x r).Pairwise (· ≤ ·)
  | [], _ => by simp [insI]
  | y :: r, h => by
    unfold insI
    obtain ⟨h1, h2⟩ := List.pairwise_cons.mp h
    split
    · rename_i hxy
      refine List.pairwise_cons.mpr ⟨fun z hz => ?_, h⟩
      rcases List.mem_cons.mp hz with e | hz
      · subst e; exact hxy
      · exact Int.le_trans hxy (h1 z hz)
    · rename_i hxy
      refine List.pairwise_cons.mpr ⟨fun z hz => ?_, insI_sorted x r h2⟩
      rcases List.mem_cons.mp ((insI_perm x r).mem_iff.mp hz) with e | hz
      · subst e; omega
      · exact h1 z hz
theorem sortI_sorted : ∀ r : List Int, (sortI r).Pairwise (· ≤ ·)
  | [] => .nil
  | x :: r => insI_sorted x _ (sortI_sorted r)
theorem sorted_unique {xs ys : List Int} (h1 : xs.Pairwise (· ≤ ·)) (h2 : ys.Pairwise (· ≤ ·)) (p : xs.Perm ys) : xs = ys :=
  List.Perm.eq_of_pairwise (fun a b _ _ => Int.le_antisymm) h1 h2 p
/-! ### sorted lists of pairs of ints, sorted dicts -/
def leP (p q : Int × Int) : Bool := if p.1 = q.1 then decide (p.2 ≤ q.2) else decide (p.1 < q.1)
theorem leP_iff {p q : Int × Int} : leP p q = true ↔ p.1 < q.1 ∨ (p.1 = q.1 ∧ p.2 ≤ q.2) := by
  unfold leP
  by_cases h : p.1 = q.1
  · rw [if_pos h, decide_eq_true_iff]; omega
  · rw [if_neg h, decide_eq_true_iff]; omega
def insP (x : Int × Int) : List (Int × Int) → List (Int × Int)
  | [] => [x]
  | y :: r => if leP x y = true then x :: y :: r else y :: insP x r
def sortP : List (Int × Int) → List (Int × Int)
  | [] => []
  | x :: r => insP x (sortP r)
theorem insP_perm (x : Int × Int) : ∀ r : List (Int × Int), (insP x r).Perm (x :: r)
  | [] => .refl _
  | y :: r => by
    unfold insP
    split
    · exact .refl _
    · exact ((insP_perm x r).cons y).trans (.swap x y r)
theorem sortP_perm : ∀ r : List (Int × Int), (sortP r).Perm r
  | [] => .refl _
  | x :: r => (insP_perm x _).trans ((sortP_perm r).cons x)
abbrev LeP (p q : Int × Int) : Prop := leP p q = true
theorem leP_total {p q : Int × Int} (h : ¬ LeP p q) : LeP q p := by
  simp only [LeP, leP_iff] at *
  omega
theorem leP_trans {p q r : Int × Int} (h : LeP p q) (g : LeP q r) : LeP p r := by
  simp only [LeP, leP_iff] at *
  omega
theorem leP_antisymm {p q : Int × Int} (h : LeP p q) (g : LeP q p) : p = q := by
  simp only [LeP, leP_iff] at *
  exact Prod.ext (by omega) (by omega)
theorem insP_sorted (x : Int × Int) : ∀ r : List (Int × Int), r.Pairwise LeP → (insP x r).Pairwise LeP
  | [], _ => by simp [insP]
  | y :: r, h => by
    unfold insP
    obtain ⟨h1, h2⟩ := List.pairwise_cons.mp h
    split
    · rename_i hxy
      refine List.pairwise_cons.mpr ⟨fun z hz => ?_, h⟩
      rcases List.mem_cons.mp hz with e | hz
      · subst e; exact hxy
      · exact leP_trans hxy (h1 z hz)
    · rename_i hxy
      refine List.pairwise_cons.mpr ⟨fun z hz => ?_, insP_sorted x r h2⟩
      rcases List.mem_cons.mp ((insP_perm x r).mem_iff.mp hz) with e | hz
      · subst e; exact leP_total hxy
      · exact h1 z hz
theorem sortP_sorted : ∀ r : List (Int × Int), (sortP r).Pairwise LeP
  | [] => .nil
  | x :: r => insP_sorted x _ (sortP_sorted r)
theorem sortedP_unique {xs ys : List (Int × Int)} (h1 : xs.Pairwise LeP) (h2 : ys.Pairwise LeP) (p : xs.Perm ys) : xs = ys :=
  List.Perm.eq_of_pairwise (fun _ _ _ _ => leP_antisymm) h1 h2 p
def pairD (p : Int × Int) : D := .tuple [.int p.1, .int p.2]
def pairsOf : List D → Option (List (Int × Int))
  | [] => some []
  | .tuple [.int i, .int j] :: r => (pairsOf r).map fun ps => (i, j) :: ps
  | _ => none
theorem pairsOf_eq : ∀ {ds : List D} {ps : List (Int × Int)}, pairsOf ds = some ps → ds = ps.map pairD
  | [], ps, h => by cases h; rfl
  | d :: r, ps, h => by
    unfold pairsOf at h
    split at h
    · rename_i e; cases e
    · rename_i i j r' e
      cases e
      cases q : pairsOf r with
      | none => rw [q] at h; cases h
      | some ps' =>
        rw [q] at h
        cases h
        rw [pairsOf_eq q]
        rfl
    · cases h
/-- which two ints stand behind a value -/
noncomputable def keyP (K : PySem.W.Frag) (H : Hp) (x : V) : Int × Int := open Classical in
  if h : ∃ p : Int × Int, ∃ t, x = .ref t ∧ SqT K H t [.int p.1, .int p.2] then h.choose else (0, 0)
abbrev PrAt (K : PySem.W.Frag) (H : Hp) (t : Addr) (p : Int × Int) : Prop := SqT K H t [.int p.1, .int p.2]
def rSortedPR (K : PySem.W.Frag) : V → Hp → VK → Prop := fun v H Q => ∃ (a : Addr) (xs : List V), v = V.ref a ∧ SqL K H a xs ∧ (∀ x ∈ xs, ∃ t p, x = V.ref t ∧ PrAt K H t p) ∧
  ((∀ t p q, PrAt K H t p → PrAt K H t q → p = q) → ∀ k : V → Int × Int, (∀ x ∈ xs, ∃ t, x = V.ref t ∧ PrAt K H t (k x)) → ∀ ys p, SrtO.Srtd (ltP k) ys → ys.Perm xs → H p = none → Q (.ref p) (upd H p (.lst ys)))
theorem Inv.prAt {pins : List (Addr × Obj)} {σ : L2.St} {H : Hp} {s : Shared} (I : Inv X pins σ H s) {t : Addr} {p q : Int × Int} (h : PrAt X.K H t p) (g : PrAt X.K H t q) : p = q := by
  obtain ⟨i1, r1, ⟨o, ho, hc, n, hd⟩, _⟩ := I.tuple h
  obtain ⟨i2, r2, ⟨o', ho', hc', n', hd'⟩, _⟩ := I.tuple g
  rw [ho] at ho'
  cases ho'
  rw [hd] at hd'
  obtain ⟨u1, u2, rfl, ri, rj⟩ := vals2 r1
  obtain ⟨v1, v2, rfl, si, sj⟩ := vals2 r2
  obtain ⟨t1, rfl⟩ := ri
  obtain ⟨t2, rfl⟩ := rj
  obtain ⟨t3, rfl⟩ := si
  obtain ⟨t4, rfl⟩ := sj
  cases p
  cases q
  simp at hd'
  obtain ⟨⟨⟨rfl, _⟩, rfl, _⟩, _⟩ := hd'
  rfl
theorem cr_sortedPR : CallR X (.builtin "sorted") (r1 (rSortedPR X.K)) := by
  intro pins s σ H vs us Q I r h
  obtain ⟨x0, rfl, a, xs, rfl, hs, hx0, q⟩ := h
  have hx : ∀ x ∈ xs, ∃ t, x = V.ref t ∧ PrAt X.K H t (keyP X.K H x) := fun x hm => by
    obtain ⟨t, p, rfl, ht⟩ := hx0 x hm
    refine ⟨t, rfl, ?_⟩
    have hh : ∃ p : Int × Int, ∃ t', V.ref t = .ref t' ∧ SqT X.K H t' [.int p.1, .int p.2] := ⟨p, t, rfl, ht⟩
    unfold keyP
    rw [dif_pos hh]
    obtain ⟨t', e, g⟩ := hh.choose_spec
    cases e
    exact g
  have q := q (fun t p q h g => Inv.prAt I h g) (keyP X.K H) hx
  revert q hx
  generalize keyP X.K H = k
  intro hx q
  obtain ⟨its, rv, hl, hz⟩ := I.list hs
  obtain ⟨u, rfl, ru⟩ := vals1 r
  obtain rfl : u = Value.ref a := ru
  obtain ⟨e1, e2⟩ := refs_back rv fun x m => by
    obtain ⟨t, e, _⟩ := hx x m
    exact ⟨t, e⟩
  refine SrtO.sorted_pairsO (k := fun u => k (backV u)) hl.isList (by rw [← rv.length]; exact hz) (fun v hv => ?_) fun h' d out h1 h2 kp hd hn => ?_
  · obtain ⟨t, rfl⟩ := e2 v hv
    have hm : V.ref t ∈ xs := by rw [e1]; exact List.mem_map.mpr ⟨_, hv, rfl⟩
    obtain ⟨t', e, ht⟩ := hx _ hm
    cases e
    obtain ⟨its2, r2, ⟨o, ho, hc, n, hd⟩, _⟩ := I.tuple ht
    obtain ⟨u1, u2, rfl, ri, rj⟩ := vals2 r2
    obtain ⟨t1, rfl⟩ := ri
    obtain ⟨t2, rfl⟩ := rj
    exact ⟨t, o, t1, t2, n, rfl, ho, hc, hd⟩
  · have h3 : ∀ u ∈ out, ∃ a, u = Value.ref a := fun u hu => e2 u (h2.perm.mem_iff.mp hu)
    obtain ⟨n, hn⟩ := hn
    have hb : (out.map backV).Perm xs := by
      rw [e1]
      exact h2.perm.map backV
    refine ⟨.ref d, upd H d (.lst (out.map backV)), I.laid (t' := s.toks) kp hd ⟨?_, out, n, vals_back h3, hn⟩, rfl, q _ d (SrtO.srtd_map h1) hb (I.hok.fresh hd)⟩
    rw [hb.length_eq]
    exact hz
def keysI : List (Key × D) → Option (List Int)
  | [] => some []
  | (.inl i, _) :: r => (keysI r).map fun ks => i :: ks
  | _ => none
theorem keysI_rel {K : PySem.W.Frag} {H : Hp} {μ : List Addr} : ∀ {kvs : List (Key × D)} {vs : List (Key × V)} {ks : List Int}, RKs K H μ kvs vs → keysI kvs = some ks → vs.map (·.1) = ks.map Sum.inl
  | [], _, _, .nil, h => by cases h; rfl
  | (.inl i, d) :: r, _, ks, .cons h1 h2, h => by
    unfold keysI at h
    cases q : keysI r with
    | none => rw [q] at h; cases h
    | some ks' =>
      rw [q] at h
      cases h
      rw [List.map_cons, List.map_cons, keysI_rel h2 q, ← h1.1]
  | (.inr i, d) :: r, _, ks, .cons h1 h2, h => by cases h
def dkI (u : U) (h : List O) : Option (List Int) := match u with
  | .lab n => (match h[n]? with
    | some (.dct kvs) => keysI kvs
    | some (.hold kvs) => keysI kvs
    | _ => none)
  | _ => none
def sortedU (m : Bool) (u : U) (h : List O) : R U := match (lstLike u h).bind intsOf with
  | some ns => mkL m ((sortI ns).map .int) h
  | none => match (lstLike u h).bind pairsOf with
    | some ps => mkL m ((sortP ps).map pairD) h
    | none => match dkI u h with
      | some ks => if ks.length < 64 then mkL m ((sortI ks).map .int) h else .bad
      | none => .bad
theorem dkI_of {K : PySem.W.Frag} {H : Hp} {μ : List Addr} {u : U} {h : List O} {x : V} {ks : List Int} (rh : Rh K H μ h) (r : RU K H μ u x) (e : dkI u h = some ks) : ∃ a kvs, x = .ref a ∧ Rd H a (.dK kvs) ∧ kvs.map (·.1) = ks.map Sum.inl := by
  cases r with
  | @lab n a r =>
    unfold dkI at e
    dsimp only at e
    split at e
    · rename_i kvs z
      obtain ⟨ho, h1, h2⟩ := rh.obj n _ a z r
      cases h2 with
      | dct h2 => exact ⟨a, _, rfl, .inl h1, keysI_rel h2 e⟩
    · rename_i kvs z
      obtain ⟨ho, h1, h2⟩ := rh.obj n _ a z r
      cases h2 with
      | hold h2 => exact ⟨a, _, rfl, .inr ⟨_, h1⟩, keysI_rel h2 e⟩
    · cases e
  | _ => cases e
def rSortDI : V → Hp → VK → Prop := fun x H Q => ∃ (a : Addr) (kvs : List (Key × V)) (ks : List Int), x = .ref a ∧ Rd H a (.dK kvs) ∧ kvs.map (·.1) = ks.map Sum.inl ∧ ks.length < 64 ∧
    ∀ (ys : List Int) (p : Addr), ys.Perm ks → ys.Pairwise (· ≤ ·) → H p = none → Q (.ref p) (upd H p (.lst (ys.map V.int)))
def rSortI1 (K : PySem.W.Frag) : V → Hp → VK → Prop := fun x H Q => ∃ (a : Addr) (ns : List Int), x = .ref a ∧ SqL K H a (ns.map V.int) ∧ ∀ (ns' : List Int) (p : Addr), ns'.Perm ns → ns'.Pairwise (· ≤ ·) → H p = none → Q (.ref p) (upd H p (.lst (ns'.map V.int)))
def rSortV (K : PySem.W.Frag) : V → Hp → VK → Prop := fun x H Q => rSortI1 K x H Q ∨ rSortedPR K x H Q ∨ rSortDI x H Q
theorem cr_sortV (hc : X.calm = true) : CallR X (.builtin "sorted") (r1 (rSortV X.K)) := by
  intro pins s σ H vs us Q I r h
  obtain ⟨x, e, h⟩ := h
  rcases h with ⟨a, ns, e2, q⟩ | h | ⟨a, kvs, ks, e2, q⟩
  · exact cr_sortedI pins s σ H vs us Q I r ⟨a, ns, by rw [e, e2], q⟩
  · exact cr_sortedPR pins s σ H vs us Q I r ⟨x, e, h⟩
  · exact call_sortedDI hc pins s σ H vs us Q I r ⟨a, kvs, ks, by rw [e, e2], q⟩
theorem pairs_rel {K : PySem.W.Frag} {H : Hp} {μ : List Addr} : ∀ {ps : List (Int × Int)} {vs : List V}, RDs K H μ (ps.map pairD) vs → (∀ x ∈ vs, ∃ t p, x = V.ref t ∧ PrAt K H t p) ∧
    ∀ k : V → Int × Int, (∀ t p q, PrAt K H t p → PrAt K H t q → p = q) → (∀ x ∈ vs, ∃ t, x = V.ref t ∧ PrAt K H t (k x)) → vs.map k = ps
  | [], _, .nil => ⟨fun x h => absurd h (by simp), fun _ _ _ => rfl⟩
  | p :: ps, v :: vs, .cons r q => by
    obtain ⟨h1, h2⟩ := pairs_rel q
    have hv : ∃ t, v = V.ref t ∧ PrAt K H t p := by
      cases r with
      | tup h r => cases r with
        | cons a r => cases r with
          | cons b r =>
            cases r
            cases a
            cases b
            exact ⟨_, rfl, h.sq⟩
    refine ⟨fun x hx => ?_, fun k hu hk => ?_⟩
    · rcases List.mem_cons.mp hx with rfl | hx
      · obtain ⟨t, e, h⟩ := hv; exact ⟨t, p, e, h⟩
      · exact h1 x hx
    · rw [List.map_cons, h2 k hu fun x hx => hk x (List.mem_cons_of_mem _ hx)]
      obtain ⟨t, rfl, h⟩ := hv
      obtain ⟨t', e, g⟩ := hk (.ref t) List.mem_cons_self
      cases e
      rw [hu t _ _ g h]
/-- a rearrangement of the values is one of the data -/
theorem pairs_back {K : PySem.W.Frag} {H : Hp} {μ : List Addr} (k : V → Int × Int) : ∀ {vs : List V}, (∀ v ∈ vs, RD K H μ (pairD (k v)) v) → RDs K H μ ((vs.map k).map pairD) vs
  | [], _ => .nil
  | v :: vs, h => .cons (h v List.mem_cons_self) (pairs_back k fun x hx => h x (List.mem_cons_of_mem _ hx))
theorem RDs.mem {K : PySem.W.Frag} {H : Hp} {μ : List Addr} (k : V → Int × Int) : ∀ {vs : List V}, RDs K H μ ((vs.map k).map pairD) vs → ∀ v ∈ vs, RD K H μ (pairD (k v)) v
  | [], _, v, h => absurd h (by simp)
  | w :: vs, .cons r q, v, h => by
    rcases List.mem_cons.mp h with rfl | h
    · exact r
    · exact RDs.mem k q v h
theorem cd_sort (m : Bool) : CallD X W (r1 (rSortV X.K)) (g1 (sortedU m)) := calld_1 fun u h σ H μ x Q rh ru p => by
  unfold sortedU at p
  split at p
  · rename_i ns e
    cases z : lstLike u h with
    | none => rw [z] at e; cases e
    | some xs =>
      rw [z] at e
      obtain ⟨a, vs, rfl, h1, q⟩ := lstLike_of rh ru z
      have ev := intsOf_of q e
      subst ev
      refine .inl ⟨a, ns, rfl, h1, fun ns' l pm srt hl => ?_⟩
      have en : ns' = sortI ns := sorted_unique srt (sortI_sorted ns) (pm.trans (sortI_perm ns).symm)
      subst en
      exact mkL_of rh (RDs_ints _) p l hl
  · split at p
    · rename_i ps e
      cases z : lstLike u h with
      | none => rw [z] at e; cases e
      | some xs =>
        rw [z] at e
        obtain ⟨a, vs, rfl, h1, q⟩ := lstLike_of rh ru z
        have ev := pairsOf_eq (show pairsOf xs = some ps from e)
        subst ev
        obtain ⟨g1, g2⟩ := pairs_rel q
        refine .inr (.inl ⟨a, vs, rfl, h1, g1, fun hu k hk ys l srt pm hl => ?_⟩)
        have ek := g2 k hu hk
        subst ek
        have hm := RDs.mem k q
        have en : ys.map k = sortP (vs.map k) := by
          refine sortedP_unique ?_ (sortP_sorted _) ((pm.map k).trans (sortP_perm _).symm)
          refine List.pairwise_map.mpr (srt.imp fun {x y} h => ?_)
          have h' := SrtO.lexB_no.mp h
          simp only [LeP, leP_iff]
          omega
        rw [← en] at p
        exact mkL_of rh (pairs_back k fun v hv => hm v (pm.mem_iff.mp hv)) p l hl
    · split at p
      · rename_i ks e
        split at p
        · rename_i hl
          obtain ⟨a, kvs, rfl, h1, h2⟩ := dkI_of rh ru e
          refine .inr (.inr ⟨a, kvs, ks, rfl, h1, h2, hl, fun ns' l pm srt hl => ?_⟩)
          have en : ns' = sortI ks := sorted_unique srt (sortI_sorted ks) (pm.trans (sortI_perm ks).symm)
          subst en
          exact mkL_of rh (RDs_ints _) p l hl
        · exact p.elim
      · exact p.elim
end
end Py

namespace Py
open PySem PySem.Spec PyProof.Rows L2
section
variable {X : Cx} {W : WX}
/-! ### dicts: what stands at a key -/
def keyOf : D → Option Key
  | .int i => some (.inl i)
  | .str s => some (.inr s)
  | _ => none
def getK (kvs : List (Key × D)) (k : Key) : Option D := match kvs with
  | [] => none
  | (q, d) :: r => if q = k then some d else getK r k
theorem keyOf_of {K : PySem.W.Frag} {H : Hp} {μ : List Addr} {d : D} {y : V} {k : Key} (r : RD K H μ d y) (e : keyOf d = some k) : y = kV k := by
  cases r <;> cases e <;> rfl
theorem valV_cons (q k : Key) (v : V) (r : List (Key × V)) : valV ((q, v) :: r) k = if q = k then some v else valV r k := by
  unfold valV
  rw [List.find?_cons]
  by_cases h : q = k
  · subst h
    simp
  · rw [if_neg h]
    have : (decide (q = k)) = false := decide_eq_false h
    simp [this]
theorem getK_rel {K : PySem.W.Frag} {H : Hp} {μ : List Addr} {kvs : List (Key × D)} {vs : List (Key × V)} (r : RKs K H μ kvs vs) (k : Key) : (∀ d, getK kvs k = some d → ∃ v, valV vs k = some v ∧ RD K H μ d v) ∧ (getK kvs k = none → valV vs k = none) := by
  induction r with
  | nil => exact ⟨fun d e => (by cases e), fun _ => rfl⟩
  | @cons p q xs ys h t ih =>
    obtain ⟨p1, p2⟩ := p
    obtain ⟨q1, q2⟩ := q
    obtain ⟨e, h⟩ := h
    dsimp only at e h
    subst e
    rw [valV_cons]
    show (∀ d, (if p1 = k then some p2 else getK xs k) = some d → _) ∧ ((if p1 = k then some p2 else getK xs k) = none → _)
    by_cases hk : p1 = k
    · rw [if_pos hk, if_pos hk]
      exact ⟨fun d e => (by cases e; exact ⟨q2, rfl, h⟩), fun e => (by cases e)⟩
    · rw [if_neg hk, if_neg hk]
      exact ih
theorem dget_k {H : Hp} {a : Addr} {kvs : List (Key × V)} {k : Key} (e : Rd H a (.dK kvs)) : DGet H a (kV k) (valV kvs k) := .inl ⟨kvs, k, e, rfl, rfl⟩
def dctOf (u : U) (h : List O) : Option (List (Key × D)) := match u with
  | .lab n => (match h[n]? with
    | some (.dct kvs) => some kvs
    | some (.hold kvs) => some kvs
    | _ => none)
  | _ => none
theorem dctOf_of {K : PySem.W.Frag} {H : Hp} {μ : List Addr} {u : U} {h : List O} {x : V} {kvs : List (Key × D)} (rh : Rh K H μ h) (r : RU K H μ u x) (e : dctOf u h = some kvs) : ∃ n a vs, u = .lab n ∧ μ[n]? = some a ∧ x = .ref a ∧ Rd H a (.dK vs) ∧ RKs K H μ kvs vs := by
  cases r with
  | @lab n a r =>
    have e' : (match h[n]? with | some (.dct kvs) => some kvs | some (.hold kvs) => some kvs | _ => none) = some kvs := e
    cases q : h[n]? with
    | none => rw [q] at e'; cases e'
    | some o =>
      rw [q] at e'
      cases o with
      | dct ys =>
        cases e'
        obtain ⟨ho, h1, h2⟩ := rh.obj n _ a q r
        cases h2 with
        | dct h2 => exact ⟨n, a, _, rfl, r, rfl, .inl h1, h2⟩
      | hold ys =>
        cases e'
        obtain ⟨ho, h1, h2⟩ := rh.obj n _ a q r
        cases h2 with
        | hold h2 => exact ⟨n, a, _, rfl, r, rfl, .inr ⟨_, h1⟩, h2⟩
      | lst ys => cases e'
      | mix ys => cases e'
  | _ => cases e
/-! ### in, not in -/
def inO (a b : U) (h : List O) : Option Bool := match dctOf b h with
  | some kvs => (match a with
    | .d x => (keyOf x).map fun k => (getK kvs k).isSome
    | _ => none)
  | none => (match dataOf a h, seqOf b h with
    | some d, some ds => if d.depth ≤ 60 then some (ds.any fun z => PyData.eqv z d) else none
    | _, _ => none)
def inU (neg : Bool) (a b : U) (h : List O) : R U := (opt (inO a b h) h).bind fun k h => .ok (.d (.bool (neg != k))) h
def rInA (K : PySem.W.Frag) (neg : Bool) : R2 := fun x y H Q => (∃ d ds, Dp K H x d ∧ (Dp K H y (.list ds) ∨ Dp K H y (.tuple ds)) ∧ d.canLay0 = true ∧ PyData.canLayAll0 ds = true ∧ d.depth ≤ 60 ∧ Q (.bl (neg != (ds.any fun z => PyData.eqv z d))) H) ∨
  ∃ a o, y = .ref a ∧ DGet H a x o ∧ Q (.bl (neg != o.isSome)) H
theorem op_inA (hu : X.A.units + 64 < cLine) : OpR X (compareOp .In) (rInA X.K false) := by
  intro pins s σ H x y v u Q I rx ry h
  rcases h with ⟨d, ds, hd, he, sd, se, hz, q⟩ | ⟨a, o, rfl, g, q⟩
  · obtain ⟨as, r1⟩ := Dp.reads I d x v hd rx
    have q' : Q (.bl (ds.any fun z => PyData.eqv z d)) H := by simpa using q
    rcases he with he | he
    · obtain ⟨bs, r2⟩ := Dp.reads I (.list ds) y u he ry
      exact SeqAt.in_list_reads r2 r1 se sd (by omega) ⟨.bl _, H, I, rfl, q'⟩
    · obtain ⟨bs, r2⟩ := Dp.reads I (.tuple ds) y u he ry
      exact SeqAt.in_tuple_reads r2 r1 se sd (by omega) ⟨.bl _, H, I, rfl, q'⟩
  · cases ry
    exact d_in (by omega) I g rx fun s' I' => ⟨.bl _, H, I', by simp; rfl, q⟩
theorem op_notInA (hu : X.A.units + 64 < cLine) : OpR X (compareOp .NotIn) (rInA X.K true) := by
  intro pins s σ H x y v u Q I rx ry h
  rcases h with ⟨d, ds, hd, he, sd, se, hz, q⟩ | ⟨a, o, rfl, g, q⟩
  · obtain ⟨as, r1⟩ := Dp.reads I d x v hd rx
    have q' : Q (.bl (!ds.any fun z => PyData.eqv z d)) H := by simpa using q
    rcases he with he | he
    · obtain ⟨bs, r2⟩ := Dp.reads I (.list ds) y u he ry
      exact SeqAt.notIn_list_reads r2 r1 se sd (by omega) ⟨.bl _, H, I, rfl, q'⟩
    · obtain ⟨bs, r2⟩ := Dp.reads I (.tuple ds) y u he ry
      exact SeqAt.notIn_tuple_reads r2 r1 se sd (by omega) ⟨.bl _, H, I, rfl, q'⟩
  · cases ry
    exact d_notIn (by omega) I g rx fun s' I' => ⟨.bl _, H, I', by simp; rfl, q⟩
theorem seqOf_dp {K : PySem.W.Frag} {H : Hp} {μ : List Addr} {u : U} {h : List O} {x : V} {xs : List D} (rh : Rh K H μ h) (r : RU K H μ u x) (e : seqOf u h = some xs) : (Dp K H x (.list xs) ∨ Dp K H x (.tuple xs)) ∧ PyData.canLayAll0 xs = true := by
  obtain ⟨a, vs, rfl, h1, q⟩ := seqOf_of rh r e
  rcases h1 with h1 | h1
  · exact ⟨.inl (.lst h1 q.dp), q.lay⟩
  · exact ⟨.inr (.tup h1 q.dp), q.lay⟩
theorem opd_in (neg : Bool) : OpD X W (rInA X.K neg) (inU neg) := by
  intro a b h σ H μ x y Q rh ra rb p
  obtain ⟨k, ek, p⟩ := Post.opt p
  unfold inO at ek
  cases ed : dctOf b h with
  | some kvs =>
    rw [ed] at ek
    obtain ⟨n, ad, vs, rfl, hn, rfl, h1, q⟩ := dctOf_of rh rb ed
    cases ra with
    | @d dd _ ra =>
      have ek' : (keyOf dd).map (fun k => (getK kvs k).isSome) = some k := ek
      cases e2 : keyOf dd with
      | none => rw [e2] at ek'; cases ek'
      | some kk =>
        rw [e2] at ek'
        cases ek'
        have := keyOf_of ra e2
        subst this
        refine .inr ⟨ad, _, rfl, dget_k h1, ?_⟩
        have e3 : (valV vs kk).isSome = (getK kvs kk).isSome := by
          obtain ⟨g1, g2⟩ := getK_rel q kk
          cases z : getK kvs kk with
          | none => rw [g2 z]; rfl
          | some d => obtain ⟨v, hv, _⟩ := g1 d z; rw [hv]; rfl
        rw [e3]
        exact p.ret rh (.d (.bl _))
    | _ => cases ek
  | none =>
    rw [ed] at ek
    cases ea : dataOf a h with
    | none => rw [ea] at ek; cases ek
    | some d =>
      cases eb : seqOf b h with
      | none => rw [ea, eb] at ek; cases ek
      | some ds =>
        rw [ea, eb] at ek
        have ek' : (if d.depth ≤ 60 then some (ds.any fun z => PyData.eqv z d) else none) = some k := ek
        by_cases hz : d.depth ≤ 60
        · rw [if_pos hz] at ek'
          cases ek'
          obtain ⟨d1, l1⟩ := dataOf_of rh ra ea
          obtain ⟨d2, l2⟩ := seqOf_dp rh rb eb
          exact .inl ⟨d, ds, d1, d2, l1, l2, hz, p.ret rh (.d (.bl _))⟩
        · rw [if_neg hz] at ek'; cases ek'
/-! ### isinstance -/
def tyN (u : U) (h : List O) : Option String := match u with
  | .d .none => some "NoneType"
  | .d (.bool _) => some "bool"
  | .d (.int _) => some "int"
  | .d (.str _) => some "str"
  | .d (.tuple _) => some "tuple"
  | .d (.list _) => some "list"
  | .d (.dict _) => some "dict"
  | .scr _ => some "list"
  | .lab n => h[n]?.map fun o => match o with
    | .dct _ => "dict"
    | .hold _ => "dict"
    | _ => "list"
  | _ => none
def isaB (a b : String) : Bool := a == b || (a == "bool" && b == "int")
def tyNames : List String := ["NoneType", "bool", "int", "str", "tuple", "list", "dict"]
theorem kit_all : ∀ a ∈ tyNames, ∀ b ∈ tyNames, kitB a b = some (isaB a b) := by decide +kernel
def isiU (u c : U) (h : List O) : R U := match c with
  | .ty b => if tyNames.contains b = true then (opt (tyN u h) h).bind fun a h => .ok (.d (.bool (isaB a b))) h else .bad
  | _ => .bad
theorem tyN_of {K : PySem.W.Frag} {H : Hp} {μ : List Addr} {u : U} {h : List O} {x : V} {n : String} (rh : Rh K H μ h) (r : RU K H μ u x) (e : tyN u h = some n) : TyX K H x (.type n) ∧ n ∈ tyNames := by
  cases r with
  | d r =>
    cases r with
    | non => cases e; exact ⟨.base .non, by decide⟩
    | bl b => cases e; exact ⟨.base (.bl b), by decide⟩
    | int b => cases e; exact ⟨.base (.int b), by decide⟩
    | str b _ => cases e; exact ⟨.base (.str b), by decide⟩
    | tup h1 q =>
      cases e
      refine ⟨?_, by decide⟩
      rcases h1 with ⟨h1, _⟩ | ⟨o, its, n, h1, h2, _⟩
      · exact .base (.tup h1)
      · exact .kTuple h1 h2
    | lst h1 _ q => cases e; exact ⟨.base (.lst h1), by decide⟩
  | scr h1 =>
    cases e
    refine ⟨?_, by decide⟩
    rcases h1 with ⟨o, h1, _⟩ | ⟨o, its, n, h1, h2, _⟩
    · exact .base (.frz h1)
    · exact .kList h1 h2
  | @lab m a ra =>
    unfold tyN at e
    cases z : h[m]? with
    | none => simp only [z] at e; cases e
    | some o =>
      simp only [z] at e
      obtain ⟨ho, h1, h2⟩ := rh.obj m o a z ra
      cases h2 with
      | lst q => cases e; exact ⟨.base (.lst h1), (show "list" ∈ tyNames by decide)⟩
      | mix q _ => cases e; exact ⟨.base (.lst h1), (show "list" ∈ tyNames by decide)⟩
      | dct q => cases e; exact ⟨.base (.dK h1), (show "dict" ∈ tyNames by decide)⟩
      | hold q => cases e; exact ⟨.fDict h1, (show "dict" ∈ tyNames by decide)⟩
  | _ => cases e
def rIsiV (K : PySem.W.Frag) : V → V → Hp → VK → Prop := fun x c H Q => ∃ (t u : Value) (b : Bool), ClsV c u ∧ TyX K H x t ∧ PySem.W.kitOne K t u = some b ∧ Q (.bl b) H
theorem cr_isi : CallR X (.builtin "isinstance") (r2 (rIsiV X.K)) := CallR.imp call_isi fun xs H Q ⟨x, c, e, t, u, b, k, ty, o, q⟩ => ⟨x, c, t, u, b, e, k, ty, o, q⟩
theorem cd_isi : CallD X W (r2 (rIsiV X.K)) (g2 isiU) := calld_2 fun u c h σ H μ x y Q rh ru rc p => by
  unfold isiU at p
  split at p
  · rename_i b
    split at p
    · rename_i hb
      obtain ⟨a, e, p⟩ := Post.opt p
      obtain ⟨t, ha⟩ := tyN_of rh ru e
      cases rc with
      | ty n => exact ⟨.type a, .type b, _, .ty b, t, kit_ty (kit_all a ha b (by simpa using hb)), p.ret rh (.d (.bl _))⟩
    · exact p.elim
  · exact p.elim
/-! ### a[i] -/
def isSl : Expr → Bool
  | .Slice _ _ _ _ => true
  | _ => false
theorem plainIx {b : Expr} (h : isSl b = false) : PlainIx b := by
  intro o i
  cases b <;> first | rfl | cases h
/-- the item at a place of any sign -/
def ixO (a : U) (i : Int) (h : List O) : Option U := match a with
  | .d (.str s) => if s.length ≤ 10000000 then (atI s.cps.toList i).bind fun c => if PyData.strOk ⟨#[c]⟩ = true then some (.d (.str ⟨#[c]⟩)) else none else none
  | .lab n => (match h[n]? with
    | some (.lst xs) => (atI xs i).map .d
    | some (.mix xs) => atI xs i
    | _ => none)
  | a => (seqOf a h).bind fun xs => (atI xs i).map .d
def getS (a b : U) (h : List O) : R U := match b with
  | .d (.int i) => (opt (ixO a i h) h).bind fun u h => .ok u h
  | _ => .bad
def getU (a b : U) (h : List O) : R U := match dctOf a h with
  | some kvs => (match b with
    | .d x => (opt ((keyOf x).bind (getK kvs)) h).bind fun d h => .ok (.d d) h
    | _ => .bad)
  | none => getS a b h
def rGetA (K : PySem.W.Frag) : R2 := fun x y H Q => rIx K x y H Q ∨ ∃ a v, x = .ref a ∧ DGet H a y (some v) ∧ Q v H
theorem ix_dict (hu : X.A.units + 64 < cLine) : IxR X (fun x y H Q => ∃ a v, x = .ref a ∧ DGet H a y (some v) ∧ Q v H) := by
  intro value slice pins s σ H x y v u Q I rx ry h hs
  obtain ⟨a, w, rfl, g, q⟩ := h
  cases rx
  exact tail_any (dict_typeIs I g) PySem.F.slot_dict_getitem.lookup (d_getItem (by omega) I g ry fun w' s3 I3 rw' => ⟨w, H, I3, rw', q⟩) hs
theorem ix_A (hu : X.A.units + 64 < cLine) : IxR X (rGetA X.K) := IxR.or ix_seq (ix_dict hu)
theorem ixN_lt {n : Nat} {i : Int} {j : Nat} (h : ixN n i = some j) : j < n := (ixN_seq h).2.1
theorem atI_rel {K : PySem.W.Frag} {H : Hp} {μ : List Addr} {xs : List D} {vs : List V} {i : Int} {d : D} (r : RDs K H μ xs vs) (e : atI xs i = some d) : ∃ v, atI vs i = some v ∧ RD K H μ d v := by
  unfold atI at e ⊢
  rw [← r.length]
  cases z : ixN xs.length i with
  | none => rw [z] at e; cases e
  | some j =>
    rw [z] at e
    exact r.get e
theorem atI_relU {K : PySem.W.Frag} {H : Hp} {μ : List Addr} {xs : List U} {vs : List V} {i : Int} {d : U} (r : RUs K H μ xs vs) (e : atI xs i = some d) : ∃ v, atI vs i = some v ∧ RU K H μ d v := by
  unfold atI at e ⊢
  rw [← r.length]
  cases z : ixN xs.length i with
  | none => rw [z] at e; cases e
  | some j =>
    rw [z] at e
    exact r.get e
theorem ixO_of {K : PySem.W.Frag} {H : Hp} {μ : List Addr} {a w : U} {i : Int} {h : List O} {x : V} {Q : VK} (rh : Rh K H μ h) (r : RU K H μ a x) (e : ixO a i h = some w) (q : ∀ v, RU K H μ w v → Q v H) : rIx K x (.int i) H Q := by
  have seq : ∀ xs, seqOf a h = some xs → (atI xs i).map U.d = some w → rIx K x (.int i) H Q := fun xs es e => by
    obtain ⟨ad, vs, rfl, h1, q1⟩ := seqOf_of rh r es
    cases z : atI xs i with
    | none => rw [z] at e; cases e
    | some d =>
      rw [z] at e
      cases e
      obtain ⟨v, hv, rv⟩ := atI_rel q1 z
      rcases h1 with h1 | h1
      · exact .inl ⟨ad, vs, i, v, rfl, rfl, h1, hv, q v (.d rv)⟩
      · exact .inr (.inl ⟨ad, vs, i, v, rfl, rfl, h1, hv, q v (.d rv)⟩)
  have seq2 : (seqOf a h).bind (fun xs => (atI xs i).map U.d) = some w → rIx K x (.int i) H Q := fun e => by
    cases z : seqOf a h with
    | none => rw [z] at e; cases e
    | some xs => rw [z] at e; exact seq xs z e
  unfold ixO at e
  split at e
  · rename_i s
    by_cases hs : s.length ≤ 10000000
    · rw [if_pos hs] at e
      obtain rfl := r.str_inv
      cases z : atI s.cps.toList i with
      | none => rw [z] at e; cases e
      | some c =>
        rw [z] at e
        have e' : (if PyData.strOk ⟨#[c]⟩ = true then some (U.d (.str ⟨#[c]⟩)) else none) = some w := e
        by_cases hk : PyData.strOk ⟨#[c]⟩ = true
        · rw [if_pos hk] at e'
          cases e'
          exact .inr (.inr ⟨s, i, c, rfl, rfl, by rw [line_eq]; omega, z, q _ (.d (.str _ hk))⟩)
        · rw [if_neg hk] at e'; cases e'
    · rw [if_neg hs] at e; cases e
  · rename_i n
    cases z : h[n]? with
    | none => simp only [z] at e; cases e
    | some o =>
      simp only [z] at e
      cases r with
      | @lab _ ad ra =>
        obtain ⟨ho, h1, h2⟩ := rh.obj n o ad z ra
        cases h2 with
        | lst q1 =>
          have e' : (atI _ i).map U.d = some w := e
          cases z2 : atI _ i with
          | none => rw [z2] at e'; cases e'
          | some d =>
            rw [z2] at e'
            cases e'
            obtain ⟨v, hv, rv⟩ := atI_rel q1 z2
            exact .inl ⟨ad, _, i, v, rfl, rfl, SqL.of h1, hv, q v (.d rv)⟩
        | mix q1 _ =>
          obtain ⟨v, hv, rv⟩ := atI_relU q1 e
          exact .inl ⟨ad, _, i, v, rfl, rfl, SqL.of h1, hv, q v rv⟩
        | dct q1 => cases e
        | hold q1 => cases e
  · exact seq2 e
theorem getU_of {σ : L2.St} {K : PySem.W.Frag} {H : Hp} {μ : List Addr} {a b : U} {h : List O} {x y : V} {Q : VK} (rh : Rh K H μ h) (ra : RU K H μ a x) (rb : RU K H μ b y) (p : Post K W σ H μ (RU K) (getU a b h) Q) : rGetA K x y H Q := by
  unfold getU at p
  cases ed : dctOf a h with
  | some kvs =>
    rw [ed] at p
    obtain ⟨n, ad, vs, rfl, hn, rfl, h1, q⟩ := dctOf_of rh ra ed
    cases rb with
    | @d dd _ rb =>
      obtain ⟨d, e, p⟩ := Post.opt p
      cases e2 : keyOf dd with
      | none => rw [e2] at e; cases e
      | some kk =>
        rw [e2] at e
        have := keyOf_of rb e2
        subst this
        obtain ⟨v, hv, rv⟩ := (getK_rel q kk).1 d e
        exact .inr ⟨ad, v, rfl, by rw [← hv]; exact dget_k h1, p.ret rh (.d rv)⟩
    | _ => exact p.elim
  | none =>
    rw [ed] at p
    have p' : Post K W σ H μ (RU K) (getS a b h) Q := p
    unfold getS at p'
    split at p'
    · rename_i i
      obtain ⟨w, e, p2⟩ := Post.opt p'
      obtain rfl := rb.int_inv
      exact .inl (ixO_of rh ra e fun v rv => p2.ret rh rv)
    · exact p'.elim
theorem den_ix {a b : Expr} {pos : Pos} {fa fb : En → List O → R U} (hu : X.A.units + 64 < cLine) (ha : Den X W a fa) (hb : Den X W b fb) (hs : isSl b = false) : Den X W (.Subscript a b pos) (ev2 fa fb getU) := by
  obtain ⟨ta, pa, ca⟩ := ha
  obtain ⟨tb, pb, cb⟩ := hb
  exact ⟨_, pe_ix (ix_A hu) pa pb (plainIx hs), two ca cb fun a b h σ H μ x y Q rh ra rb p => getU_of rh ra rb p⟩
end
end Py

namespace Py
open PySem PySem.Spec PyProof.Rows L2
section
variable {X : Cx} {W : WX}
/-! ### slices -/
def relI (_ : Hp) (_ : List Addr) (a b : Option Int) : Prop := a = b
def DenO (X : Cx) (W : WX) (e : Option Expr) (f : En → List O → R (Option Int)) : Prop :=
  ∃ t, PO X e t ∧ ∀ σ' h σ H μ Q, RE X.K H μ σ' σ → Rh X.K H μ h → Post X.K W σ H μ relI (f σ' h) Q → t σ H Q
def evNo : En → List O → R (Option Int) := fun _ h => .ok none h
def asI : U → Option Int
  | .d (.int i) => some i
  | _ => none
theorem asI_of {K : PySem.W.Frag} {H : Hp} {μ : List Addr} {u : U} {x : V} {i : Int} (r : RU K H μ u x) (e : asI u = some i) : x = .int i := by
  cases r with
  | d r => cases r <;> cases e; rfl
  | _ => cases e
def evPart (f : En → List O → R U) : En → List O → R (Option Int) := fun σ h => (f σ h).bind fun u h => (opt (asI u) h).bind fun i h => .ok (some i) h
theorem deno_none : DenO X W none evNo := ⟨_, po_none, fun σ' h σ H μ Q re rh p => p.ret rh rfl⟩
theorem deno_some {e : Expr} {f : En → List O → R U} (hf : Den X W e f) : DenO X W (some e) (evPart f) := by
  obtain ⟨ta, pa, ca⟩ := hf
  refine ⟨_, po_some pa, fun σ' h σ H μ Q re rh p => ?_⟩
  refine ca σ' h σ H μ _ re rh (Post.bind p fun u h1 H1 μ1 x e1 rh1 ru p1 => ?_)
  obtain ⟨i, ei, p2⟩ := Post.opt p1
  exact ⟨i, asI_of ru ei, p2.ret rh1 rfl⟩
def cut {α : Type} (xs : List α) (lo hi : Option Int) : List α := (xs.drop (HT.sIx xs.length 0 lo)).take (HT.sIx xs.length xs.length hi - HT.sIx xs.length 0 lo)
theorem cut_rel {K : PySem.W.Frag} {H : Hp} {μ : List Addr} {xs : List D} {vs : List V} (r : RDs K H μ xs vs) (lo hi : Option Int) : RDs K H μ (cut xs lo hi) (cutV vs lo hi) := by
  unfold cut cutV
  rw [r.length]
  exact (r.drop _).take _
def slU (m : Bool) (a : U) (lo hi : Option Int) (h : List O) : R U := match a with
  | .d (.tuple xs) => .ok (.d (.tuple (cut xs lo hi))) h
  | .d (.str s) => if s.length ≤ 10000000 ∧ PyData.strOk (cutS s lo hi) = true then .ok (.d (.str (cutS s lo hi))) h else .bad
  | a => (opt (lstLike a h) h).bind fun xs h => mkL m (cut xs lo hi) h
def rSlX (K : PySem.W.Frag) : V → Option Int → Option Int → Hp → VK → Prop := fun x lo hi H Q => rSlL K x lo hi H Q ∨ (rSlA K x lo hi H Q ∨ rSlS x lo hi H Q)
theorem sl_X : SlR X (rSlX X.K) := SlR.or sl_list (SlR.or sl_tupA sl_str)
theorem slU_of {K : PySem.W.Frag} {σ : L2.St} {H : Hp} {μ : List Addr} {m : Bool} {a : U} {lo hi : Option Int} {h : List O} {x : V} {Q : VK} (rh : Rh K H μ h) (ra : RU K H μ a x) (p : Post K W σ H μ (RU K) (slU m a lo hi h) Q) : rSlX K x lo hi H Q := by
  unfold slU at p
  split at p
  · rename_i xs
    obtain ⟨ad, vs, rfl, h1, q⟩ := ra.tup_inv
    refine .inr (.inl ⟨ad, vs, rfl, h1.sq, fun hw => ?_, fun hw => ?_⟩)
    · have e : cut xs lo hi = xs := by
        unfold cut
        rw [q.length, hw.1, hw.2, List.drop_zero, Nat.sub_zero, ← q.length, List.take_length]
      rw [e] at p
      exact p.ret rh ra
    · exact tup_of rh (cut_rel q lo hi) p
  · rename_i s
    split at p
    · rename_i hs
      obtain rfl := ra.str_inv
      exact .inr (.inr ⟨s, rfl, by rw [line_eq]; omega, p.ret rh (.d (.str _ hs.2))⟩)
    · exact p.elim
  · obtain ⟨xs, e, p⟩ := Post.opt p
    obtain ⟨ad, vs, rfl, h1, q⟩ := lstLike_of rh ra e
    exact .inl ⟨ad, vs, rfl, h1, mkL_of rh (cut_rel q lo hi) p⟩
def evSl (m : Bool) (f : En → List O → R U) (l u : En → List O → R (Option Int)) : En → List O → R U := fun σ h => (f σ h).bind fun a h1 => (l σ h1).bind fun lo h2 => (u σ h2).bind fun hi h3 => slU m a lo hi h3
theorem den_sl {m : Bool} {e : Expr} {lo hi : Option Expr} {p2 pos : Pos} {f : En → List O → R U} {l u : En → List O → R (Option Int)} (hf : Den X W e f) (hl : DenO X W lo l) (hu : DenO X W hi u) : Den X W (.Subscript e (.Slice lo hi none p2) pos) (evSl m f l u) := by
  obtain ⟨ta, pa, ca⟩ := hf
  obtain ⟨tl, pl, cl⟩ := hl
  obtain ⟨tu, pu, cu⟩ := hu
  refine ⟨_, pe_slice sl_X pa pl pu, fun σ' h σ H μ Q re rh p => ?_⟩
  refine ca σ' h σ H μ _ re rh (Post.bind p fun a h1 H1 μ1 x e1 rh1 ra p1 => ?_)
  refine cl σ' h1 σ H1 μ1 _ (re.ext e1) rh1 (Post.bind p1 fun lo h2 H2 μ2 lo' e2 rh2 rl p2 => ?_)
  refine cu σ' h2 σ H2 μ2 _ (re.ext (e1.trans e2)) rh2 (Post.bind p2 fun hi h3 H3 μ3 hi' e3 rh3 ru p3 => ?_)
  cases rl
  cases ru
  exact slU_of rh3 (ra.ext (e2.trans e3)) p3
/-! ### methods of built-in types -/
def isCall : Expr → Bool
  | .Call _ _ _ _ => true
  | _ => false
theorem base_of {o : Expr} {name : Str} {env : Env} {w : Sem Value} (h : isCall o = false) : attributeBase o name env w = w := by
  cases o <;> first | rfl | cases h
/-- the receiver's type is right -/
def TyD (X : Cx) (T : String) (c : U → List O → Bool) : Prop := ∀ u h H μ x, Rh X.K H μ h → RU X.K H μ u x → c u h = true → tyV X.K T x H
def MeD (X : Cx) (W : WX) (r : V → List V → Hp → VK → Prop) (g : U → List U → List O → R U) : Prop :=
  ∀ u us h σ H μ x xs Q, Rh X.K H μ h → RU X.K H μ u x → RUs X.K H μ us xs → Post X.K W σ H μ (RU X.K) (g u us h) Q → r x xs H Q
def evMe (c : U → List O → Bool) (fo : En → List O → R U) (fa : En → List O → R (List U)) (g : U → List U → List O → R U) : En → List O → R U := fun σ h => (fo σ h).bind fun u h1 => if c u h1 = true then (fa σ h1).bind fun us h2 => g u us h2 else .bad
theorem den_me {o e : Expr} {es : List Expr} {name : Str} {apos cpos : Pos} {T id : String} {r : V → List V → Hp → VK → Prop} {c : U → List O → Bool} {g : U → List U → List O → R U} {fo : En → List O → R U} {fa : En → List O → R (List U)}
    (pa : PlainAttrs T) (slot : Slot T name id) (hty : typeOf (.builtin id) = pure (.type "method_descriptor")) (hm : MtR X id r) (hc : TyD X T c) (hg : MeD X W r g) (ho : Den X W o fo) (ha : DenA X W (e :: es) fa)
    (hb : isCall o = false) (hns : noStar (e :: es) = true) (hlen : (e :: es).length < 30) (hline : (apos.endLine == cpos.line) = true) : Den X W (.Call (.Attribute o name apos) (e :: es) [] cpos) (evMe c fo fa g) := by
  obtain ⟨to, po, co⟩ := ho
  obtain ⟨ta, pA, cA⟩ := ha
  obtain ⟨n1, n2⟩ := noStar_cons hns
  refine ⟨_, pe_bm pa slot hty hm po pA (base_of hb) (by rw [noStar_few hns]; simpa [keywordEach, backToKw] using hlen) hline (star1 n1) (noStar_any n2), fun σ' h σ H μ Q re rh p => ?_⟩
  refine co σ' h σ H μ _ re rh (Post.bind p fun u h1 H1 μ1 x e1 rh1 ru p1 => ?_)
  by_cases hcu : c u h1 = true
  · rw [if_pos hcu] at p1
    refine ⟨hc u h1 H1 μ1 x rh1 ru hcu, ?_⟩
    exact cA σ' h1 σ H1 μ1 _ (re.ext e1) rh1 (Post.bind p1 fun us h2 H2 μ2 xs e2 rh2 rus p2 => hg u us h2 σ H2 μ2 x xs Q rh2 (ru.ext e2) rus p2)
  · rw [if_neg hcu] at p1
    exact p1.elim
theorem den_me0 {o : Expr} {name : Str} {apos cpos : Pos} {T id : String} {r : V → List V → Hp → VK → Prop} {c : U → List O → Bool} {g : U → List U → List O → R U} {fo : En → List O → R U}
    (pa : PlainAttrs T) (slot : Slot T name id) (hty : typeOf (.builtin id) = pure (.type "method_descriptor")) (hm : MtR X id r) (hc : TyD X T c) (hg : MeD X W r g) (ho : Den X W o fo)
    (hb : isCall o = false) (hline : (apos.endLine == cpos.line) = true) : Den X W (.Call (.Attribute o name apos) [] [] cpos) (evMe c fo evNil g) := by
  obtain ⟨to, po, co⟩ := ho
  refine ⟨_, pe_bm0 pa slot hty hm po (base_of hb) hline, fun σ' h σ H μ Q re rh p => ?_⟩
  refine co σ' h σ H μ _ re rh (Post.bind p fun u h1 H1 μ1 x e1 rh1 ru p1 => ?_)
  by_cases hcu : c u h1 = true
  · rw [if_pos hcu] at p1
    exact ⟨hc u h1 H1 μ1 x rh1 ru hcu, hg u [] h1 σ H1 μ1 x [] Q rh1 ru .nil p1⟩
  · rw [if_neg hcu] at p1
    exact p1.elim
/-! ### lists -/
def isLst (u : U) (h : List O) : Bool := match u with
  | .d (.list _) => true
  | .lab n => (match h[n]? with
    | some (.lst _) => true
    | some (.mix _) => true
    | _ => false)
  | _ => false
theorem ty_list : TyD X "list" isLst := by
  intro u h H μ x rh ru c
  cases ru with
  | d r =>
    cases r with
    | lst h1 _ _ => exact .inl ⟨rfl, _, SqL.of h1⟩
    | _ => cases c
  | @lab n a r =>
    unfold isLst at c
    cases e : h[n]? with
    | none => simp only [e] at c; cases c
    | some o =>
      simp only [e] at c
      obtain ⟨ho, h1, h2⟩ := rh.obj n o a e r
      cases h2 with
      | lst q => exact .inl ⟨rfl, _, SqL.of h1⟩
      | mix q _ => exact .inl ⟨rfl, _, SqL.of h1⟩
      | dct q => cases c
      | hold q => cases c
  | _ => cases c
def appG (u : U) (us : List U) (h : List O) : R U := match u, us with
  | .lab n, [w] => (match h[n]? with
    | some (.lst xs) => (match w with
      | .d d => if xs.length < 10000000 then .ok (.d .none) (h.set n (.lst (xs ++ [d]))) else .bad
      | _ => .bad)
    | some (.mix xs) => if xs.length < 10000000 ∧ w.below n then .ok (.d .none) (h.set n (.mix (xs ++ [w]))) else .bad
    | _ => .bad)
  | _, _ => .bad
theorem RUs.append {K : PySem.W.Frag} {H : Hp} {μ : List Addr} {xs ys : List U} {vs ws : List V} (h : RUs K H μ xs vs) (g : RUs K H μ ys ws) : RUs K H μ (xs ++ ys) (vs ++ ws) := by
  induction h with
  | nil => exact g
  | cons hx _ ih => exact .cons hx ih
theorem me_append : MeD X W rAppend appG := by
  intro u us h σ H μ x xs Q rh ru rus p
  unfold appG at p
  split at p
  · rename_i n w
    cases ru with
    | @lab _ a ra =>
      cases rus with
      | cons rw rn =>
        cases rn
        cases e : h[n]? with
        | none => simp only [e] at p; exact p.elim
        | some o =>
          simp only [e] at p
          obtain ⟨ho, h1, h2⟩ := rh.obj n o a e ra
          cases h2 with
          | @lst ys vs q =>
            cases rw with
            | d rd =>
              have p' : Post X.K W σ H μ (RU X.K) (if ys.length < 10000000 then .ok (.d .none) (h.set n (.lst (ys ++ [_]))) else .bad) Q := p
              by_cases hl : ys.length < 10000000
              · rw [if_pos hl] at p'
                exact ⟨a, vs, _, rfl, rfl, h1, by rw [← q.length, line_eq]; omega, p' _ _ _ (Ext.chg ra h1) (rh.chg ra (.lst (q.append (.cons rd .nil)))) (.d .non)⟩
              · rw [if_neg hl] at p'; exact p'.elim
            | _ => exact p.elim
          | @mix ys vs q b =>
            have p' : Post X.K W σ H μ (RU X.K) (if ys.length < 10000000 ∧ w.below n then .ok (.d .none) (h.set n (.mix (ys ++ [w]))) else .bad) Q := p
            by_cases hl : ys.length < 10000000 ∧ w.below n
            · rw [if_pos hl] at p'
              refine ⟨a, vs, _, rfl, rfl, h1, by rw [← q.length, line_eq]; omega, p' _ _ _ (Ext.chg ra h1) (rh.chg ra (.mix (q.append (.cons rw .nil)) fun z hz => ?_)) (.d .non)⟩
              rcases List.mem_append.mp hz with hz | hz
              · exact b z hz
              · rw [List.mem_singleton] at hz; subst hz; exact hl.2
            · rw [if_neg hl] at p'; exact p'.elim
          | dct q => exact p.elim
          | hold q => exact p.elim
  · exact p.elim
/-- pop() and pop(0) -/
def popG (u : U) (us : List U) (h : List O) : R U := match u with
  | .lab n => (match us with
    | [] => (match h[n]? with
      | some (.lst xs) => (opt (xs[xs.length - 1]?) h).bind fun d h => .ok (.d d) (h.set n (.lst xs.dropLast))
      | _ => .bad)
    | [.d (.int i)] => (match h[n]? with
      | some (.lst xs) => if 0 ≤ i ∧ i < 10000000 then (opt (xs[i.toNat]?) h).bind fun d h => .ok (.d d) (h.set n (.lst (xs.eraseIdx i.toNat))) else .bad
      | _ => .bad)
    | _ => .bad)
  | _ => .bad
def rPopA : V → List V → Hp → VK → Prop := fun x vs H Q => rPop x vs H Q ∨ rPopAt x vs H Q
theorem mt_popA : MtR X "list.pop" rPopA := MtR.or mt_pop mt_popAt
theorem me_pop : MeD X W rPopA popG := by
  intro u us h σ H μ x xs Q rh ru rus p
  unfold popG at p
  split at p
  · rename_i n
    cases ru with
    | @lab _ a ra =>
      split at p
      · cases rus
        split at p
        · rename_i ys e
          obtain ⟨d, ed, p⟩ := Post.opt p
          obtain ⟨ho, h1, h2⟩ := rh.obj n _ a e ra
          cases h2 with
          | @lst _ vs q =>
            obtain ⟨v, hv, rv⟩ := q.get ed
            rw [q.length] at hv
            exact .inl ⟨a, vs, v, rfl, rfl, h1, hv, p _ _ _ (Ext.chg ra h1) (rh.chg ra (.lst q.dropLast)) (.d (rv.ext (Ext.chg ra h1)))⟩
        · exact p.elim
      · rename_i i
        cases rus with
        | cons r1 r2 =>
          cases r2
          obtain rfl := r1.int_inv
          split at p
          · rename_i ys e
            split at p
            · rename_i hi
              obtain ⟨d, ed, p⟩ := Post.opt p
              obtain ⟨ho, h1, h2⟩ := rh.obj n _ a e ra
              cases h2 with
              | @lst _ vs q =>
                obtain ⟨v, hv, rv⟩ := q.get ed
                have hl := (List.getElem?_eq_some_iff.mp hv).1
                exact .inr ⟨a, vs, i, i.toNat, v, rfl, rfl, h1, by omega, by omega, seqIndex_of hi.1 (by omega), hv, p _ _ _ (Ext.chg ra h1) (rh.chg ra (.lst (q.eraseIdx _))) (.d (rv.ext (Ext.chg ra h1)))⟩
            · exact p.elim
          · exact p.elim
      · exact p.elim
  · exact p.elim
/-- extend by a list or a tuple -/
theorem list_extend_tupG (l : Addr) (items : Array Value) (n : Nat) (b : Addr) (items2 : Array Value) (n2 : Nat) (dd : Option Addr) (sl : Array (Option Value)) (hs0 : ¬(!items.isEmpty && Builtin.List.listTooLong (items.size + items2.size)) = true) (hs1 : items.size ≤ sizeLine) (hs2 : items.size + items2.size ≤ sizeLine + 1) :
    Meets (Builtin.«list.extend» ⟨[.ref l, .ref b], []⟩) (fun _ R s => s.heap.get? l = some { cls := .type "list", dict := none, data := .seq items n, slots := #[] } ∧ s.heap.get? b = some { cls := .type "tuple", dict := dd, data := .seq items2 n2, slots := sl } ∧ R (.ok (.ret Value.none)) { s with heap := s.heap.update l (Obj.mapSeq fun x => x ++ items2), toks := s.toks }) :=
  .of_wp fun prog w A R s h => by
    obtain ⟨hp, g, d, tk, os⟩ := s; obtain ⟨hl, hb, h⟩ := h; have f1 := AutoSeq1.idx_int; have f2 := AutoSeq1.sub_tuple_tuple; have f3 := AutoSeq1.sub_list_list; have f4 := AutoSeq1.sub_tuple_list; have f5 := AutoSeq1.sub_list_tuple;
    have hz' : (items ++ items2).size ≤ sizeLine + 1 := by rw [Array.size_append]; exact hs2
    wp_walk using (wpAny_updateSeq hl rfl (hz := hs1) (_hz' := hz')), AutoSeq1.wpAny_loadPart' hl, AutoSeq1.wpAny_loadPart' hb; exact ⟨_, rfl, h⟩
def rExtT (K : PySem.W.Frag) : V → List V → Hp → VK → Prop := fun x vs H Q => ∃ l b xs zs, x = .ref l ∧ vs = [.ref b] ∧ H l = some (.lst xs) ∧ SqT K H b zs ∧ xs.length + zs.length ≤ sizeLine ∧ Q .non (upd H l (.lst (xs ++ zs)))
theorem mt_extT : MtR X "list.extend" (rExtT X.K) := by
  intro pins s σ H x vs v us Q I rx rv h
  obtain ⟨l, b, xs, zs, rfl, rfl, hH, hB, hz, q⟩ := h
  cases rx
  obtain ⟨u, rfl, ru⟩ := rv.one
  cases ru
  obtain ⟨z, its, n, r, hl, e⟩ := I.lstM hH
  obtain ⟨its2, r2, ⟨⟨cls, dd, data, sl⟩, e2, hc, n2, hd⟩, hz2⟩ := I.tuple hB
  simp only at hc hd
  subst hc hd
  have hl2 := r2.length
  have hsz : its.toArray.size + its2.toArray.size ≤ sizeLine := by rw [List.size_toArray, List.size_toArray]; omega
  have hlong : ¬ (!its.toArray.isEmpty && Builtin.List.listTooLong (its.toArray.size + its2.toArray.size)) = true := by
    rw [notLongL hsz, Bool.and_false]
    exact Bool.false_ne_true
  refine call_meets F.slot_list_extend ⟨_, e, rfl⟩ F.entry_list_extend (F.args_list_extend_2 _ _)
    (list_extend_tupG l its.toArray n b its2.toArray n2 dd sl hlong (by rw [List.size_toArray]; omega) (by omega)) ⟨e, e2, ?_⟩
  refine ⟨.non, _, I.lset (its' := its ++ its2) hH e (by simp) (r.append r2) ?_, rfl, q⟩
  rw [List.length_append]
  omega
def rExtA (K : PySem.W.Frag) : V → List V → Hp → VK → Prop := fun x vs H Q => rExtend x vs H Q ∨ rExtT K x vs H Q
theorem mt_extA : MtR X "list.extend" (rExtA X.K) := MtR.or mt_extend mt_extT
def extG (u : U) (us : List U) (h : List O) : R U := match u, us with
  | .lab n, [w] => (match h[n]? with
    | some (.lst xs) => (match w with
      | .d (.tuple ys) => if xs.length + ys.length < 10000000 then .ok (.d .none) (h.set n (.lst (xs ++ ys))) else .bad
      | w => (opt (listOf w h) h).bind fun ys h => if xs.length + ys.length < 10000000 then .ok (.d .none) (h.set n (.lst (xs ++ ys))) else .bad)
    | _ => .bad)
  | _, _ => .bad
theorem me_ext : MeD X W (rExtA X.K) extG := by
  intro u us h σ H μ x xs Q rh ru rus p
  unfold extG at p
  split at p
  · rename_i n w
    cases ru with
    | @lab _ a ra =>
      cases rus with
      | cons rw rn =>
        cases rn
        split at p
        · rename_i ys e
          obtain ⟨ho, h1, h2⟩ := rh.obj n _ a e ra
          cases h2 with
          | @lst _ vs q =>
            split at p
            · rename_i zs
              split at p
              · rename_i hl
                obtain ⟨ad, ws, rfl, h3, q3⟩ := rw.tup_inv
                exact .inr ⟨a, ad, vs, ws, rfl, rfl, h1, h3.sq, by rw [← q.length, ← q3.length, line_eq]; omega, p _ _ _ (Ext.chg ra h1) (rh.chg ra (.lst (q.append q3))) (.d .non)⟩
              · exact p.elim
            · obtain ⟨zs, ez, p⟩ := Post.opt p
              split at p
              · rename_i hl
                obtain ⟨ad, ws, rfl, h3, q3⟩ := listOf_of rh rw ez
                exact .inl ⟨a, ad, vs, ws, rfl, rfl, h1, h3, by rw [← q.length, ← q3.length, line_eq]; omega, p _ _ _ (Ext.chg ra h1) (rh.chg ra (.lst (q.append q3))) (.d .non)⟩
              · exact p.elim
        · exact p.elim
  · exact p.elim
/-! ### bit_length -/
theorem den_bits {o : Expr} {apos pos : Pos} {fo : En → List O → R U} (ho : Den X W o fo) (hb : isCall o = false) (hline : (apos.endLine == pos.line) = true) : Den X W (.Call (.Attribute o "bit_length" apos) [] [] pos) (ev1 fo fun u h => (opt (asI u) h).bind fun i h => .ok (.d (.int (Builtin.Int.intBits i : Nat))) h) := by
  obtain ⟨to, po, co⟩ := ho
  refine ⟨_, pe_bits po (base_of hb) hline, fun σ' h σ H μ Q re rh p => ?_⟩
  refine co σ' h σ H μ _ re rh (Post.bind p fun u h1 H1 μ1 x e1 rh1 ru p1 => ?_)
  obtain ⟨i, ei, p2⟩ := Post.opt p1
  exact ⟨i, asI_of ru ei, p2.ret rh1 (.d (.int _))⟩
/-! ### max with default= -/
def rMaxDf (K : PySem.W.Frag) : List V → List V → Hp → VK → Prop := fun xs zs H Q => ∃ (a : Addr) (ns : List Int) (d : Int), xs = [V.ref a] ∧ zs = [.int d] ∧ SqL K H a (ns.map V.int) ∧ (ns = [] → Q (.int d) H) ∧ ∀ m r, ns = m :: r → Q (.int (maxL m r)) H
theorem alike_ints (ns : List Int) : PySem.W.AlikeAll (ns.map PyData.int) := by
  refine ⟨fun x hx y hy => ?_, fun x hx => ?_⟩
  · obtain ⟨i, _, rfl⟩ := List.mem_map.mp hx
    obtain ⟨j, _, rfl⟩ := List.mem_map.mp hy
    rfl
  · obtain ⟨i, _, rfl⟩ := List.mem_map.mp hx
    exact fun e => by cases e
theorem maxL_fold : ∀ (r : List Int) (m : Int), r.foldl max m = maxL m r
  | [], m => rfl
  | x :: r, m => by
    rw [List.foldl_cons, maxL_fold r, maxL]
    congr 1
    by_cases h : x > m
    · rw [if_pos h]; omega
    · rw [if_neg h]; omega
theorem vals_ints {h : Heap} : ∀ {ns : List Int} {us : List Value}, Vals (ns.map V.int) us → ReadsAll h us (ns.map PyData.int) []
  | [], _, r => by cases r; exact .nil
  | n :: ns, _, r => by
    cases r with
    | cons h1 h2 =>
      obtain ⟨t, rfl⟩ := h1
      exact .cons (.int n t) (vals_ints h2)
theorem depth_ints : ∀ ns : List Int, PyData.depthAll (ns.map PyData.int) ≤ 1
  | [] => by decide
  | n :: ns => by
    have := depth_ints ns
    show max (PyData.depth (.int n)) (PyData.depthAll (ns.map PyData.int)) ≤ 1
    have e : PyData.depth (.int n) ≤ 1 := by unfold PyData.depth; decide
    omega
theorem cr_maxDf (hc : X.calm = true) (hu : X.A.units + 64 < cLine) : CallRK X (.builtin "max") [Str.ofString "default"] (rMaxDf X.K) := by
  intro pins s σ H xs zs us ws Q I rv rw q
  obtain ⟨a, ns, d, e1, e2, hq, q0, q1⟩ := q
  subst e1 e2
  cases rv with
  | cons ru rn =>
    cases rn
    cases ru
    cases rw with
    | cons rd rn =>
      cases rn
      obtain ⟨t, rfl⟩ := rd
      obtain ⟨its, rv, p, hz⟩ := I.list hq
      have hd := depth_ints ns
      refine PySem.W.max_list_default (I.ok.hd hc) p.isList (xs := ns.map PyData.int) (as := []) (by simpa using vals_ints rv) (alike_ints ns) (by omega) (fun e h' tk hk => ?_) (fun y ys i v h' tk bs e hv hr hk => ?_)
      · have e' : ns = [] := by simpa using e
        exact ⟨.int d, H, I.kept (t' := tk) hk, ⟨_, rfl⟩, q0 e'⟩
      · cases ns with
        | nil => simp at e
        | cons m r =>
          rw [List.map_cons] at e
          cases e
          rw [PySem.W.maxD_ints, maxL_fold] at hr
          obtain ⟨t', rfl, _⟩ := reads_int_inv hr
          exact ⟨.int _, H, I.kept (t' := tk) hk, ⟨_, rfl⟩, q1 m r rfl⟩
def maxDU (u d : U) (h : List O) : R U := (opt ((listOf u h).bind intsOf) h).bind fun bs h => (opt (asI d) h).bind fun k h => match bs with
  | [] => .ok (.d (.int k)) h
  | m :: r => .ok (.d (.int (maxL m r))) h
theorem den_maxD {e d : Expr} {p pos kpos : Pos} {fe fd : En → List O → R U} (hc : X.calm = true) (hu : X.A.units + 64 < cLine) (gl : Gl X "max") (hm : X.mg "max" = none) (he : Den X W e fe) (hd : Den X W d fd) (hs : isStar e = false) :
    Den X W (.Call (.Name "max" p) [e] [⟨some "default", d, kpos⟩] pos) (ev2 fe fd maxDU) := by
  obtain ⟨te, pe, ce⟩ := he
  obtain ⟨td, pd, cd⟩ := hd
  have hns : noStar [e] = true := by unfold noStar; simp [hs]
  refine ⟨_, pe_callBK (cr_maxDf hc hu) gl hm (by rfl) (pa_cons pe pa_nil (star1 hs)) (pk_cons pd pk_nil) (by decide) (by decide) (noStar_back hns) (noStar_any hns) (by rfl) (by rfl) (by rfl), fun σ' h σ H μ Q re rh p => ?_⟩
  refine ce σ' h σ H μ _ re rh (Post.bind p fun u h1 H1 μ1 x e1 rh1 ru p1 => ?_)
  refine cd σ' h1 σ H1 μ1 _ (re.ext e1) rh1 (Post.bind p1 fun w h2 H2 μ2 y e2 rh2 rw p2 => ?_)
  obtain ⟨bs, eb, p3⟩ := Post.opt p2
  obtain ⟨k, ek, p4⟩ := Post.opt p3
  obtain ⟨a, rfl, ha⟩ := ints_list rh2 (ru.ext e2) eb
  have ey := asI_of rw ek
  subst ey
  refine ⟨a, bs, k, rfl, rfl, SqL.of ha, fun e => ?_, fun m r e => ?_⟩
  · subst e
    exact p4.ret rh2 (.d (.int _))
  · subst e
    exact p4.ret rh2 (.d (.int _))
/-! ### dicts: {}, get -/
def evDnew : En → List O → R U := fun _ h => .ok (.lab h.length) (h ++ [.dct []])
theorem den_dnew {pos : Pos} : Den X W (.Dict [] [] pos) evDnew := ⟨_, pe_dnewK, fun σ' h σ H μ Q re rh p l hl =>
  p _ _ _ (Ext.lab hl) (rh.lab hl (.dct .nil)) (.lab (by rw [rh.len]; simp))⟩
theorem m1_of {o e : Expr} {m : Str} {apos cpos : Pos} (hb : isCall o = false) (hs : noStar [e] = true) (hl : (apos.endLine == cpos.line) = true) : M1 X o m apos e cpos :=
  ⟨base_of hb, by rw [noStar_few hs]; rfl, hl, by rw [star1 (noStar_cons hs).1]; rfl⟩
theorem m2_of {o e f : Expr} {m : Str} {apos cpos : Pos} (hb : isCall o = false) (hs : noStar [e, f] = true) (hl : (apos.endLine == cpos.line) = true) : M2 X o m apos e f cpos :=
  ⟨base_of hb, by rw [noStar_few hs]; rfl, hl, by rw [star1 (noStar_cons hs).1, star1 (noStar_cons (noStar_cons hs).2).1]; rfl⟩
def dgetU (u k z : U) (h : List O) : R U := match dctOf u h with
  | some kvs => (match k with
    | .d x => (match keyOf x with
      | some k => .ok (match getK kvs k with
        | some d => .d d
        | none => z) h
      | none => .bad)
    | _ => .bad)
  | none => .bad
def evGet1 (fo fe : En → List O → R U) : En → List O → R U := fun σ h => (fo σ h).bind fun u h1 => if (dctOf u h1).isSome = true then (fe σ h1).bind fun k h2 => dgetU u k (.d .none) h2 else .bad
def evGet2 (fo fe ff : En → List O → R U) : En → List O → R U := fun σ h => (fo σ h).bind fun u h1 => if (dctOf u h1).isSome = true then (fe σ h1).bind fun k h2 => (ff σ h2).bind fun z h3 => dgetU u k z h3 else .bad
theorem dget_of {K : PySem.W.Frag} {σ : L2.St} {H : Hp} {μ : List Addr} {u k z : U} {h : List O} {x y w : V} {Q : VK} (rh : Rh K H μ h) (ru : RU K H μ u x) (rk : RU K H μ k y) (rz : RU K H μ z w) (p : Post K W σ H μ (RU K) (dgetU u k z h) Q) :
    ∃ a o, x = .ref a ∧ DGet H a y o ∧ Q (o.getD w) H := by
  unfold dgetU at p
  split at p
  · rename_i kvs e
    obtain ⟨n, a, vs, rfl, hn, rfl, h1, q⟩ := dctOf_of rh ru e
    split at p
    · rename_i xd
      split at p
      · rename_i kk ek
        cases rk with
        | d rk =>
          have := keyOf_of rk ek
          subst this
          obtain ⟨g1, g2⟩ := getK_rel q kk
          refine ⟨a, valV vs kk, rfl, dget_k h1, ?_⟩
          cases z2 : getK kvs kk with
          | some d =>
            rw [z2] at p
            obtain ⟨v, hv, rv⟩ := g1 d z2
            rw [hv]
            exact p.ret rh (.d rv)
          | none =>
            rw [z2] at p
            rw [g2 z2]
            exact p.ret rh rz
      · exact p.elim
    · exact p.elim
  · exact p.elim
theorem den_get1 {o e : Expr} {apos cpos : Pos} {fo fe : En → List O → R U} (hu : X.A.units + 64 < cLine) (ho : Den X W o fo) (he : Den X W e fe) (hb : isCall o = false) (hs : noStar [e] = true) (hl : (apos.endLine == cpos.line) = true) : Den X W (.Call (.Attribute o "get" apos) [e] [] cpos) (evGet1 fo fe) := by
  obtain ⟨to, po, co⟩ := ho
  obtain ⟨te, pe, ce⟩ := he
  refine ⟨_, pe_dget1 (by omega) po pe (m1_of hb hs hl), fun σ' h σ H μ Q re rh p => ?_⟩
  refine co σ' h σ H μ _ re rh (Post.bind p fun u h1 H1 μ1 x e1 rh1 ru p1 => ?_)
  by_cases hd : (dctOf u h1).isSome = true
  · rw [if_pos hd] at p1
    obtain ⟨kvs, ek⟩ := Option.isSome_iff_exists.mp hd
    obtain ⟨n, a, vs, rfl, hn, rfl, g1, q⟩ := dctOf_of rh1 ru ek
    refine ⟨a, rfl, .inl ⟨_, g1⟩, ce σ' h1 σ H1 μ1 _ (re.ext e1) rh1 (Post.bind p1 fun k h2 H2 μ2 y e2 rh2 rk p2 => ?_)⟩
    obtain ⟨a', ov, e3, g, q3⟩ := dget_of rh2 (ru.ext e2) rk (.d .non) p2
    cases e3
    exact ⟨ov, g, q3⟩
  · rw [if_neg hd] at p1; exact p1.elim
theorem den_get2 {o e f : Expr} {apos cpos : Pos} {fo fe ff : En → List O → R U} (hu : X.A.units + 64 < cLine) (ho : Den X W o fo) (he : Den X W e fe) (hf : Den X W f ff) (hb : isCall o = false) (hs : noStar [e, f] = true) (hl : (apos.endLine == cpos.line) = true) : Den X W (.Call (.Attribute o "get" apos) [e, f] [] cpos) (evGet2 fo fe ff) := by
  obtain ⟨to, po, co⟩ := ho
  obtain ⟨te, pe, ce⟩ := he
  obtain ⟨tf, pf, cf⟩ := hf
  refine ⟨_, pe_dget2 (by omega) po pe pf (m2_of hb hs hl), fun σ' h σ H μ Q re rh p => ?_⟩
  refine co σ' h σ H μ _ re rh (Post.bind p fun u h1 H1 μ1 x e1 rh1 ru p1 => ?_)
  by_cases hd : (dctOf u h1).isSome = true
  · rw [if_pos hd] at p1
    obtain ⟨kvs, ek⟩ := Option.isSome_iff_exists.mp hd
    obtain ⟨n, a, vs, rfl, hn, rfl, g1, q⟩ := dctOf_of rh1 ru ek
    refine ⟨a, rfl, .inl ⟨_, g1⟩, ce σ' h1 σ H1 μ1 _ (re.ext e1) rh1 (Post.bind p1 fun k h2 H2 μ2 y e2 rh2 rk p2 => ?_)⟩
    refine cf σ' h2 σ H2 μ2 _ (re.ext (e1.trans e2)) rh2 (Post.bind p2 fun z h3 H3 μ3 w e3 rh3 rz p3 => ?_)
    obtain ⟨a', ov, e4, g, q3⟩ := dget_of rh3 (ru.ext (e2.trans e3)) (rk.ext e3) rz p3
    cases e4
    exact ⟨ov, g, q3⟩
  · rw [if_neg hd] at p1; exact p1.elim
end
end Py

/-! what loops walk; targets; comprehensions -/
namespace PySem
open Sem (wp)
set_option maxHeartbeats 1000000 in
theorem meets_enumerate_newTup (l : Addr) (items : Array Value) (n : Nat) (dct : Option Addr) (sl : Array (Option Value)) :
    Meets (Builtin.«enumerate.__new__» ⟨[.type "enumerate", .ref l], []⟩) (fun _ R s => s.heap.get? l = some ⟨.type "tuple", dct, .seq items n, sl⟩ ∧
      R (.ok (.ret (.ref (s.heap.push { cls := .type "tuple_iterator", data := .fields #[.ref l, .int 0 0] }).objs.size)))
        { s with heap := (s.heap.push { cls := .type "tuple_iterator", data := .fields #[.ref l, .int 0 0] }).push { cls := .type "enumerate", data := .fields #[.none, .bool false, .ref s.heap.objs.size, rawInt 0, .none, .none] } }) :=
  .of_wp fun prog w A R s h => by
    obtain ⟨hp, g, d, tk, os⟩ := s; obtain ⟨h1, h⟩ := h
    have hsub := sub_enumerate
    have q1 : ∀ {A' : Around} {E : Value → Shared → Prop} {Q : Value → Shared → Prop}, Q (.ref hp.objs.size) ⟨hp.push { cls := .type "tuple_iterator", data := .fields #[.ref l, .int 0 0] }, g, d, tk, os⟩ → wpAny (model prog w) A' (pyIter (.ref l)) Q E ⟨hp, g, d, tk, os⟩ :=
      fun q => wpAny_pyIter_tuple (s := ⟨hp, g, d, tk, os⟩) (items := items) ⟨_, h1, rfl, n, rfl⟩ q
    wp_walk using q1
    refine wpAny_stack_any fun st => wpAny_pure ?_
    split
    · rename_i c _ _ _ _ _
      cases (c == Value.type "enumerate")
      · wp_walk using q1
        exact ⟨_, rfl, h⟩
      · wp_walk using q1
        exact ⟨_, rfl, h⟩
    · wp_walk using q1
      exact ⟨_, rfl, h⟩
section
variable {prog : Program} {w : World} {A : Around} {E : Value → Shared → Prop} {s : Shared}
theorem call_enumerate_tup {l : Addr} {items : Array Value} {Q : Value → Shared → Prop} (hL : s.heap.IsTuple l items)
    (h : ∀ h', IsEnum h' (s.heap.objs.size + 1) s.heap.objs.size 0 .none → h'.IsTupleIter s.heap.objs.size l 0 → h'.objs.size = s.heap.objs.size + 2 →
      (∀ b o, s.heap.get? b = some o → h'.get? b = some o) → Q (.ref (s.heap.objs.size + 1)) { s with heap := h' }) :
    wpAny (model prog w) A (call (.type "enumerate") [.ref l]) Q E s := by
  obtain ⟨⟨cl, dc, da, slo⟩, hl, hcl, nn, hda⟩ := hL
  replace hcl : cl = .type "tuple" := hcl
  replace hda : da = .seq items nn := hda
  subst hcl hda
  refine callType_new F.called_enumerate (by decide) (F.typeCall_enumerate_1 _) (F.newCall_enumerate_1 _) (fun ob => F.args_object_init_2 ob _) F.entry_enumerate_new
    (meets_enumerate_newTup l items nn dc slo) ⟨hl, ?_⟩
  have hsize : (s.heap.push { cls := .type "tuple_iterator", data := .fields #[.ref l, .int 0 0] }).objs.size = s.heap.objs.size + 1 := Heap.size_push ..
  show _ ∧ _
  rw [hsize]
  have hen : IsEnum ((s.heap.push { cls := .type "tuple_iterator", data := .fields #[.ref l, .int 0 0] }).push
      { cls := .type "enumerate", data := .fields #[.none, .bool false, .ref s.heap.objs.size, rawInt 0, .none, .none] }) (s.heap.objs.size + 1) s.heap.objs.size 0 .none := by
    have z := Heap.get?_push_size (s.heap.push { cls := .type "tuple_iterator", data := .fields #[.ref l, .int 0 0] })
      (o := { cls := .type "enumerate", data := .fields #[.none, .bool false, .ref s.heap.objs.size, rawInt 0, .none, .none] }) rfl
    rw [hsize] at z; exact z
  refine ⟨⟨_, hen, rfl⟩, h _ hen ⟨_, Heap.get?_push_of_some _ (Heap.get?_push_size _ rfl), rfl, rfl⟩ (by rw [Heap.size_push, hsize]) fun b o z => Heap.get?_push_of_some _ (Heap.get?_push_of_some _ z)⟩
end
end PySem
namespace Py
open PySem PySem.Spec PyProof.Rows L2
/-! ### enumerate of a tuple -/
def IteT (K : PySem.W.Frag) (a : Addr) : It :=
  ⟨fun i H => ∃ (xs : List V) (x : V), SqT K H a xs ∧ xs[i]? = some x, fun i H v H' => ∃ T x, v = .ref T ∧ H T = none ∧ H' = upd H T (.tup [.int (i : Nat), x]) ∧ ∀ xs, SqT K H a xs → xs[i]? = some x, fun i H => ∃ xs : List V, SqT K H a xs ∧ xs.length ≤ i⟩
theorem enum_ne_tup {h : Heap} {e it a : Addr} {c : Int} {old : Value} {items : Array Value} (he : IsEnum h e it c old) (ht : h.IsTuple a items) : e ≠ a := by
  rintro rfl
  obtain ⟨o, ho, hc, _⟩ := ht
  rw [show h.get? e = some _ from he] at ho
  cases ho
  exact absurd (Value.type.inj hc) (by decide)
theorem turn_enumTup {P : Program} {w : World} {K : PySem.W.Frag} {elts : List Expr} {kk : Nat} {tpos : Pos} (a e it : Addr) :
    Turn P w K (.Tuple elts kk tpos) (IteT K a) [e, it] e (fun i h => (∃ old, IsEnum h e it ((i : Nat) : Int) old) ∧ h.IsTupleIter it a i ∧ e ≠ it) where
  mem := by simp
  obj := fun i h st b hb => by
    obtain ⟨⟨old, he⟩, ⟨o, ho, hc, hd⟩, _⟩ := st
    have alt : b = e ∨ b = it := by simpa using hb
    rcases alt with z | z
    · rw [z]; exact ⟨_, he, fun v q => nomatch q⟩
    · rw [z]; exact ⟨o, ho, fun v q => by rw [hd] at q; cases q⟩
  keep := fun i h h' st k => let ⟨⟨old, he⟩, hi, hne⟩ := st; ⟨⟨old, k e (by simp) _ he⟩, hi.at fun o q => k it (by simp) o q, hne⟩
  item := by
    intro X hP hw hK hc i pins s σ H E I hf st hg
    subst hP hw hK
    obtain ⟨⟨old, he⟩, hit, hne⟩ := st
    obtain ⟨xs, x, hq, hx⟩ := hg
    obtain ⟨its, rv, p, hz⟩ := I.tuple hq
    have pt : s.heap.IsTuple a its.toArray := p
    obtain ⟨u, hu, ru⟩ := rv.get hx
    have hel : e < s.heap.objs.size := Heap.lt_size he
    have hil : it < s.heap.objs.size := by obtain ⟨_, q, _⟩ := hit; exact Heap.lt_size q
    have hae : e ≠ a := enum_ne_tup he pt
    have hia : a ≠ it := by
      rintro rfl
      obtain ⟨o1, g1, c1, _⟩ := hit
      obtain ⟨o2, g2, c2, _⟩ := id pt
      rw [g1] at g2
      cases g2
      rw [show o1.cls = _ from c1] at c2
      exact absurd (Value.type.inj c2) (by decide)
    refine wpAny_pyNext_enum_itemD (Draws.tuple (A := X.A.in1) (by show X.A.handled = none; exact I.ok.hd hc) it a hia its.toArray) he ⟨hit, pt⟩ (by
      have := (List.getElem?_eq_some_iff.mp hu).1
      simpa using this) hne (by simp [hne, hae]) fun y h' tk hy ho hst' hT hsz hk => ?_
    have hyu : y = u := by
      have : its.toArray[i]? = some y := hy
      rw [List.getElem?_toArray, hu] at this
      cases this; rfl
    subst hyu
    refine ⟨_, rfl, wpAny_letOwnedTupleGo_enum (s := { s with heap := h', toks := tk + 1 }) ho fun h'' he' sb => ?_⟩
    have hT2 : h''.get? s.heap.objs.size = some { cls := .type "tuple", data := .seq #[.int i tk, y] } := (sb.2 _ (Nat.ne_of_gt hel)).trans hT
    have new : ObjOk X.prog X.w (upd H s.heap.objs.size (.tup [.int (i : Nat), x])) h'' s.heap.objs.size (.tup [.int (i : Nat), x]) :=
      ⟨by show 2 ≤ sizeLine; decide, [.int i tk, y], .cons ⟨_, rfl⟩ (.cons ru .nil), ⟨_, hT2, rfl, _, rfl⟩⟩
    have I1 : Inv X pins σ (upd H s.heap.objs.size (.tup [.int (i : Nat), x])) { s with heap := h'', toks := tk + 1 } :=
      I.turnedNew (ch := [e, it]) (fun b ob hb q => (sb.2 b (fun z => hb (by simp [z]))).trans (hk b ob (fun z => hb (by simp [z])) (fun z => hb (by simp [z])) q)) hf (Nat.le_refl _) new
    refine ⟨.ref s.heap.objs.size, _, I1, rfl, ⟨_, x, rfl, I.hok.fresh (Nat.le_refl _), rfl, fun ys hy => by rw [I.tuple_inj hy hq]; exact hx⟩, ⟨⟨y, ?_⟩, hst'.1.at fun o q => (sb.2 it (Ne.symm hne)).trans q, hne⟩, fun b hb => ?_⟩
    · have e1 : ((i + 1 : Nat) : Int) = (i : Int) + 1 := by omega
      rw [e1]; exact he'
    · have hb' : b < s.heap.objs.size := by
        have alt : b = e ∨ b = it := by simpa using hb
        rcases alt with z | z
        · rw [z]; exact hel
        · rw [z]; exact hil
      rw [upd_ne (Nat.ne_of_lt hb')]
      exact (hf b hb).1
  done := by
    intro X hP hw hK hc i pins s σ H E I hf st hg
    subst hP hw hK
    obtain ⟨⟨old, he⟩, hit, hne⟩ := st
    obtain ⟨xs, hq, hx⟩ := hg
    obtain ⟨its, rv, p, hz⟩ := I.tuple hq
    have pt : s.heap.IsTuple a its.toArray := p
    obtain ⟨f0, f1, f2, f3, f4, f5⟩ := hf it (by simp)
    have hl := rv.length
    have hT : s.TypeIs (.ref e) "enumerate" := ⟨_, he, rfl⟩
    unfold pyNext
    refine wpAny_bind (wpAny_attempt (wpAny_callSpecial?_slot (name := Str.ofString "__next__") hT F.slot_enumerate_next
      (wpAny_call_entry F.slot_enumerate_next hT F.entry_enumerate_next ?_ (F.args_enumerate_next_1 _))))
    show wpAny _ _ (field (.ref e) 2 >>= _) _ _ _
    refine wpAny_bind (wpAny_field he rfl (x := .ref it) rfl ?_)
    refine wpAny_bind (wpAny_nextOf_tuple_end (by show X.A.handled = none; exact I.ok.hd hc) hit pt (by simp; omega) fun h' y eb hy => ?_)
    obtain ⟨o, ho, hcl⟩ := hy
    refine wpAny_bind (wpAny_isInstance (T := "StopIteration") (b := true) ⟨o, ho, hcl⟩ isSubtype_stop ?_)
    exact wpAny_pure ⟨rfl, I.turned (t' := s.toks) (fun b o hb q => eb b o hb q) f0 f1 f3 f4 f5⟩
  self := fun A i s Q E st h => let ⟨⟨_, he⟩, _⟩ := st; wpAny_pyIter_enum he h
def iEnumA (K : PySem.W.Frag) (ta : TA) : TI := fun σ H R => ta σ H fun vs H1 => ∃ a xs, vs = [.ref a] ∧ ((SqL K H1 a xs ∧ R (Ite K a) H1) ∨ (SqT K H1 a xs ∧ R (IteT K a) H1))
theorem pi_enumA {X : Cx} {e : Expr} {ta : TA} {p pos tpos : Pos} {elts : List Expr} {kk : Nat} (hg : Gl X "enumerate") (hm : X.mg "enumerate" = none) (ha : PA X [e] ta) (hs : starEach [e] X.env = [(false, eval e X.env)]) :
    PI X (.Tuple elts kk tpos) (.Call (.Name "enumerate" p) [e] [] pos) (iEnumA X.K ta) := by
  refine ⟨fun pins s σ H R I h => ?_⟩
  refine Call_ (ld_blt I hg hm boot_enumerate (PyProof.Rows.callWith_type1 (thn (ha.run pos pins s σ H _ I h) fun us s1 ⟨vs, H1, I1, r1, q1⟩ => ?_) hs rfl))
  obtain ⟨a, xs, ex, q1⟩ := q1
  subst ex
  cases r1 with
  | cons r rr =>
    cases rr
    cases r
    have fresh2 : ∀ b ∈ [s1.heap.objs.size + 1, s1.heap.objs.size], FpOk X pins H1 b := fun b hb => by
      have alt : b = s1.heap.objs.size + 1 ∨ b = s1.heap.objs.size := by simpa using hb
      have hle : s1.heap.objs.size ≤ b := by
        rcases alt with z | z
        · rw [z]; exact Nat.le_add_right _ _
        · rw [z]; exact Nat.le_refl _
      exact I1.fpOk hle (I1.hok.fresh hle)
    rcases q1 with ⟨hq, q⟩ | ⟨hq, q⟩
    · obtain ⟨its, rv, p', hz⟩ := I1.list hq
      refine call_enumerate_list p'.isList fun h' he hit hsz hk => wpAny_pyIter_enum he ?_
      exact ⟨s1.heap.objs.size + 1, [s1.heap.objs.size + 1, s1.heap.objs.size], _, _, H1, rfl, I1.kept (t' := s1.toks) hk, turn_enum a (s1.heap.objs.size + 1) s1.heap.objs.size, ⟨⟨.none, he⟩, hit, Nat.succ_ne_self _⟩, fresh2, q⟩
    · obtain ⟨its, rv, p', hz⟩ := I1.tuple hq
      refine call_enumerate_tup (show s1.heap.IsTuple a its.toArray from p') fun h' he hit hsz hk => wpAny_pyIter_enum he ?_
      exact ⟨s1.heap.objs.size + 1, [s1.heap.objs.size + 1, s1.heap.objs.size], _, _, H1, rfl, I1.kept (t' := s1.toks) hk, turn_enumTup a (s1.heap.objs.size + 1) s1.heap.objs.size, ⟨⟨.none, he⟩, hit, Nat.succ_ne_self _⟩, fresh2, q⟩
/-- a list or a tuple -/
def iSeq (K : PySem.W.Frag) (tl : TE) : TI := fun σ H R => tl σ H fun x H1 => ∃ a xs, x = .ref a ∧ ((SqL K H1 a xs ∧ R (Itl K a) H1) ∨ (SqT K H1 a xs ∧ R (Itt K a) H1))
theorem pi_seq {X : Cx} {tg l : Expr} {tl : TE} (hl : PE X l tl) : PI X tg l (iSeq X.K tl) := by
  refine ⟨fun pins s σ H R I h => ?_⟩
  refine thn (hl.run pins s σ H _ I h) fun v s1 ⟨x, H1, I1, r1, q1⟩ => ?_
  obtain ⟨a, xs, ex, q1⟩ := q1
  subst ex
  cases r1
  have fresh1 : ∀ b ∈ [s1.heap.objs.size], FpOk X pins H1 b := fun b hb => by
    have z : b = s1.heap.objs.size := by simpa using hb
    rw [z]
    exact I1.fpOk (Nat.le_refl _) (I1.hok.fresh (Nat.le_refl _))
  rcases q1 with ⟨hq, q⟩ | ⟨hq, q⟩
  · obtain ⟨its, rv, p, hz⟩ := I1.list hq
    refine wpAny_pyIter_list p.isList ?_
    exact ⟨s1.heap.objs.size, [s1.heap.objs.size], _, _, H1, rfl, I1.kept (t' := s1.toks) fun b o e => Heap.get?_push_of_some _ e, turn_list a _, ⟨_, Heap.get?_push_size _ rfl, rfl, rfl⟩, fresh1, q⟩
  · obtain ⟨its, rv, p, hz⟩ := I1.tuple hq
    refine wpAny_pyIter_tuple (show s1.heap.IsTuple a its.toArray from p) ?_
    exact ⟨s1.heap.objs.size, [s1.heap.objs.size], _, _, H1, rfl, I1.kept (t' := s1.toks) fun b o e => Heap.get?_push_of_some _ e, turn_tuple a _, ⟨_, Heap.get?_push_size _ rfl, rfl, rfl⟩, fresh1, q⟩
end Py

/-! d.items() under a name: the iterator whose own tuple has gone takes the new one -/
namespace PySem
open PySem.W (KdxIt)
section
variable {prog : Program} {w : World} {A : Around} {E : Value → Shared → Prop} {s : Shared}
theorem at_next {a : Addr} {Q : Option Obj → Shared → Prop} (h : Q (s.heap.get? a) s) : wpAny (model prog w) A (loadIfAlive a) Q E s := fun _ _ _ => h
/-- one turn, its own tuple still there or not: a new tuple comes, and the iterator goes on -/
theorem items_next_any {it d a : Addr} {f : Bool} {i ep : Nat} {es : Array DictEntry} {ok ov : Value} {Q : Option Value → Shared → Prop} (hit : KdxIt s.heap it d i es.size ep ok ov a f) (hai : a ≠ it)
    (hm : s.heap.DictRaw d es ep) (lt : i < es.size)
    (hQ : ∀ h' ok' ov' a' f', KdxIt h' it d (i + 1) es.size ep ok' ov' a' f' → a' ≠ it → h'.get? s.heap.objs.size = some { cls := .type "tuple", data := .seq #[es[i].key, es[i].val] } → h'.objs.size = s.heap.objs.size + 1 →
      (∀ b o, b ≠ it → s.heap.get? b = some o → h'.get? b = some o) → Q (some (.ref s.heap.objs.size)) { s with heap := h' }) : wpAny (model prog w) A (pyNext (.ref it)) Q E s := by
  obtain ⟨hp, g, dr, tk, os⟩ := s
  have hd0 := hm
  obtain ⟨od, hod, hcd, hdd⟩ := hd0
  have T0 : Shared.TypeIs ⟨hp, g, dr, tk, os⟩ (.ref it) "dict_itemiterator" := ⟨_, hit, rfl⟩
  unfold pyNext
  refine wpAny_bind (wpAny_attempt (wpAny_callSpecial?_slot (name := Str.ofString "__next__") T0 F.slot_dict_itemiterator_next (wpAny_call_entry F.slot_dict_itemiterator_next T0 F.entry_dict_itemiterator_next ?_ (F.args_dict_itemiterator_next_1 _))))
  refine wpAny_bind (wpAny_pure (wpAny_bind (wpAny_bind ?_)))
  first | refine wpAny_bind (wpAny_typeNameOfWhole_itemiter T0 (wpAny_pure ?_)) | refine wpAny_bind (wpAny_typeNameOf_itemiter T0 (wpAny_pure ?_))
  refine wpAny_bind (wpAny_fieldsOf hit rfl ?_)
  have own : Builtin.Dict_items.ownsTuple "dict_itemiterator" = true := by decide
  simp only [own, if_true]
  show wpAny _ _ (if (Value.ref d == Value.none) = true then _ else _) _ _ _
  rw [if_neg (show ¬ ((Value.ref d == Value.none) = true) from Bool.false_ne_true)]
  refine wpAny_bind (wpAny_pure (wpAny_bind (wpAny_dictEntries hod hdd ?_)))
  rw [if_neg (by simp)]
  refine wpAny_bind (wpAny_pure (wpAny_bind (wpAny_dictEpoch hod hdd ?_)))
  rw [if_neg (by simp)]
  refine wpAny_pure ?_
  simp only [show ¬ ((i : Int) < 0) from by omega, if_false, Int.toNat_natCast, Array.getElem?_eq_getElem lt]
  refine wpAny_bind ?_
  first | refine wpAny_bind (wpAny_typeNameOfWhole_itemiter T0 (wpAny_pure ?_)) | refine wpAny_bind (wpAny_typeNameOf_itemiter T0 (wpAny_pure ?_))
  refine wpAny_bind (wpAny_isOneOf_itemiter T0 ?_)
  show wpAny _ _ (setField (.ref it) 3 (rawInt ((i : Int) + 1)) >>= _) _ _ ⟨hp, g, dr, tk, os⟩
  refine wpAny_bind (wpAny_setField_rec hit (by simp) fun g1 k1 b1 => ?_)
  have k1 : KdxIt g1 it d (i + 1) es.size ep ok ov a f := by
    unfold KdxIt
    rw [show ((i + 1 : Nat) : Int) = (i : Int) + 1 by omega]
    simpa [rawInt] using k1
  have b1 : Heap.SameBut it hp g1 := b1
  have T1 : Shared.TypeIs ⟨g1, g, dr, tk, os⟩ (.ref it) "dict_itemiterator" := ⟨_, k1, rfl⟩
  refine wpAny_bind (wpAny_holding (wpAny_bind (wpAny_isOneOf_itemiter T1 (wpAny_bind (wpAny_isOneOf_itemiter T1 ?_)))))
  show wpAny _ _ (Builtin.Dict_items.pairFromOwner (.ref it) 6 es[i].key es[i].val) _ _ ⟨g1, g, dr, tk, os⟩
  unfold Builtin.Dict_items.pairFromOwner
  refine wpAny_bind (wpAny_newTuple ?_)
  have k2 : KdxIt (g1.push { cls := .type "tuple", data := .seq #[es[i].key, es[i].val] }) it d (i + 1) es.size ep ok ov a f := Heap.get?_push_of_some _ k1
  have z1 : g1.objs.size = hp.objs.size := b1.1
  have lt2 : it < hp.objs.size := Heap.lt_size hit
  have ne2 : hp.objs.size ≠ it := Nat.ne_of_gt lt2
  generalize e2 : g1.push { cls := .type "tuple", data := .seq #[es[i].key, es[i].val] } = g2 at k2
  have t2 : g2.get? hp.objs.size = some { cls := .type "tuple", data := .seq #[es[i].key, es[i].val] } := by rw [← e2, ← z1]; exact Heap.get?_push_size _ rfl
  have z2 : g2.objs.size = hp.objs.size + 1 := by rw [← e2, Heap.size_push, z1]
  have c2 : ∀ b o, b ≠ it → hp.get? b = some o → g2.get? b = some o := fun b o hb e => by rw [← e2]; exact Heap.get?_push_of_some _ (b1.extBut b o hb e)
  show wpAny _ _ (Builtin.Dict_items.ownedTupleIsFree (.ref it) >>= _) _ _ ⟨g2, g, dr, tk, os⟩
  rw [z1]
  refine wpAny_bind ?_
  unfold Builtin.Dict_items.ownedTupleIsFree
  refine wpAny_bind (wpAny_field k2 rfl (x := rawInt a) rfl ?_)
  show wpAny _ _ (loadIfAlive ((a : Int).toNat) >>= _) _ _ _
  rw [Int.toNat_natCast]
  refine wpAny_bind (at_next ?_)
  show wpAny _ _ (if (g2.get? a).isNone = true then _ else _) _ _ _
  cases ha : g2.get? a with
  | none =>
    simp only [Option.isNone_none, if_true]
    refine wpAny_pure ?_
    simp only [if_true]
    refine wpAny_bind (wpAny_field k2 rfl (x := ok) rfl ?_)
    refine wpAny_bind (wpAny_field k2 rfl (x := ov) rfl ?_)
    refine wpAny_bind (wpAny_setField_rec k2 (by simp) fun g3 k3 b3 => ?_)
    have k3 : KdxIt g3 it d (i + 1) es.size ep es[i].key ov a f := k3
    have b3 : Heap.SameBut it g2 g3 := b3
    refine wpAny_bind (wpAny_setField_rec k3 (by simp) fun g4 k4 b4 => ?_)
    have k4 : KdxIt g4 it d (i + 1) es.size ep es[i].key es[i].val a f := k4
    have b4 : Heap.SameBut it g3 g4 := b4
    refine wpAny_bind (wpAny_setField_rec k4 (by simp) fun g5 k5 b5 => ?_)
    have k5 : KdxIt g5 it d (i + 1) es.size ep es[i].key es[i].val hp.objs.size f := k5
    have b5 : Heap.SameBut it g4 g5 := b5
    refine wpAny_bind (wpAny_setField_rec k5 (by simp) fun g6 k6 b6 => ?_)
    have k6 : KdxIt g6 it d (i + 1) es.size ep es[i].key es[i].val hp.objs.size false := k6
    have b6 : Heap.SameBut it g5 g6 := b6
    have kk : ∀ b o, b ≠ it → g2.get? b = some o → g6.get? b = some o := fun b o hb e => b6.extBut b o hb (b5.extBut b o hb (b4.extBut b o hb (b3.extBut b o hb e)))
    exact wpAny_bind (wpAny_letGo (wpAny_pure (wpAny_pure ⟨_, rfl, wpAny_pure (hQ g6 _ _ _ _ k6 ne2 (kk _ _ ne2 t2) (by show g6.objs.size = hp.objs.size + 1; rw [b6.1, b5.1, b4.1, b3.1, z2]) fun b o hb e => kk b o hb (c2 b o hb e))⟩)))
  | some oa =>
    simp only [Option.isNone_some, Bool.false_eq_true, if_false]
    refine wpAny_bind (wpAny_field k2 rfl (x := .bool f) rfl ?_)
    have fin : ∀ g3 : Heap, KdxIt g3 it d (i + 1) es.size ep ok ov a true → Heap.SameBut it g2 g3 → Q (some (.ref hp.objs.size)) ⟨g3, g, dr, tk, os⟩ := fun g3 k3 b3 =>
      hQ g3 _ _ _ _ k3 hai (b3.extBut _ _ ne2 t2) (by show g3.objs.size = hp.objs.size + 1; rw [b3.1, z2]) fun b o hb e => b3.extBut b o hb (c2 b o hb e)
    cases f with
    | true =>
      rw [if_neg (show ¬ ((Value.bool true != Value.bool true) = true) from Bool.false_ne_true)]
      refine wpAny_pure ?_
      simp only [Bool.false_eq_true, if_false]
      exact wpAny_pure (wpAny_pure ⟨_, rfl, wpAny_pure (fin g2 k2 (Heap.SameBut.refl _ _))⟩)
    | false =>
      rw [if_pos (show (Value.bool false != Value.bool true) = true from rfl)]
      refine wpAny_bind (wpAny_setField_rec k2 (by simp) fun g3 k3 b3 => ?_)
      refine wpAny_pure ?_
      simp only [Bool.false_eq_true, if_false]
      exact wpAny_pure (wpAny_pure ⟨_, rfl, wpAny_pure (fin g3 k3 b3)⟩)
end
end PySem

namespace Py
open PySem PySem.Spec PyProof.Rows L2
open PySem.W (KdxIt)
/-- the iterator of d.items() at turn i, whatever becomes of its tuples -/
def ItmAny (h : Heap) (it d : Addr) (i n ep : Nat) : Prop := (∃ ok ov, IsItemIter h it d i n ep ok ov) ∨ ∃ ok ov a f, KdxIt h it d i n ep ok ov a f ∧ a ≠ it
theorem ItmAny.obj {h : Heap} {it d : Addr} {i n ep : Nat} (x : ItmAny h it d i n ep) : ∃ o, h.get? it = some o ∧ ∀ v, o.data ≠ .cell v := by
  rcases x with ⟨ok, ov, e⟩ | ⟨ok, ov, a, f, e, _⟩
  · exact ⟨_, e, fun v z => nomatch z⟩
  · exact ⟨_, e, fun v z => nomatch z⟩
theorem ItmAny.keep {h h' : Heap} {it d : Addr} {i n ep : Nat} (x : ItmAny h it d i n ep) (k : ∀ o, h.get? it = some o → h'.get? it = some o) : ItmAny h' it d i n ep := by
  rcases x with ⟨ok, ov, e⟩ | ⟨ok, ov, a, f, e, ne⟩
  · exact .inl ⟨ok, ov, k _ e⟩
  · exact .inr ⟨ok, ov, a, f, k _ e, ne⟩
section
variable {prog : Program} {w : World} {A : Around} {E : Value → Shared → Prop} {s : Shared}
theorem itm_next {it d : Addr} {i ep : Nat} {es : Array DictEntry} {Q : Option Value → Shared → Prop} (st : ItmAny s.heap it d i es.size ep) (hm : s.heap.DictRaw d es ep) (lt : i < es.size)
    (hQ : ∀ h', ItmAny h' it d (i + 1) es.size ep → h'.get? s.heap.objs.size = some { cls := .type "tuple", data := .seq #[es[i].key, es[i].val] } → h'.objs.size = s.heap.objs.size + 1 →
      (∀ b o, b ≠ it → s.heap.get? b = some o → h'.get? b = some o) → Q (some (.ref s.heap.objs.size)) { s with heap := h' }) : wpAny (model prog w) A (pyNext (.ref it)) Q E s := by
  rcases st with ⟨ok, ov, e⟩ | ⟨ok, ov, a, f, e, ne⟩
  · exact wpAny_pyNext_items_item_raw e hm lt fun h' k t z c => hQ h' (.inr ⟨_, _, _, false, k, Nat.ne_of_gt (Heap.lt_size e)⟩) t z c
  · exact items_next_any e ne hm lt fun h' ok' ov' a' f' k ne' t z c => hQ h' (.inr ⟨ok', ov', a', f', k, ne'⟩) t z c
theorem itm_end {it d : Addr} {i ep : Nat} {es : Array DictEntry} {Q : Option Value → Shared → Prop} (hh : A.handled = none) (st : ItmAny s.heap it d i es.size ep) (hm : s.heap.DictRaw d es ep) (ge : es.size ≤ i)
    (hQ : ∀ h', Heap.ExtBut it s.heap h' → Q none { s with heap := h' }) : wpAny (model prog w) A (pyNext (.ref it)) Q E s := by
  rcases st with ⟨ok, ov, e⟩ | ⟨ok, ov, a, f, e, ne⟩
  · exact wpAny_pyNext_items_end_raw hh e hm ge hQ
  · exact wpAny_pyNext_items_end_out_raw hh e hm ge hQ
end
end Py
namespace Py
open PySem PySem.Spec PyProof.Rows L2
section
variable {P : Program} {w : World} {K : PySem.W.Frag} {d : Addr} {o : Obj} {es : Array DictEntry} {ep : Nat}
theorem turn_itemsN {kvs : List (Key × V)} {x : Str} {p : Pos} (it : Addr) (hod : o.data = .dict es ep) : Turn P w K (.Name x p) (Iti d o kvs) [it] it (fun i h => ItmAny h it d i kvs.length ep) where
  mem := by simp
  obj := fun i h st b hb => by
    obtain rfl : b = it := by simpa using hb
    exact st.obj
  keep := fun i h h' st k => st.keep fun o e => k it (by simp) o e
  item := by
    intro X hP hw hK hc i pins s σ H E I hf st hg
    subst hP hw hK
    obtain ⟨hd, hi⟩ := hg
    obtain ⟨hs, hgd, hx, es', ep', vs, hdt, hsz, kv, hm⟩ := I.frzK hd
    obtain ⟨rfl, rfl⟩ := dict_ep hod hdt
    obtain ⟨⟨k, v⟩, hkv⟩ : ∃ p, kvs[i]? = some p := ⟨kvs[i], List.getElem?_eq_getElem hi⟩
    obtain ⟨u, hu, ru⟩ := kv_get kv hkv
    have hl : kvs.length = vs.length := Paired.length kv
    obtain ⟨es2, hr, hz2, he2⟩ := hm.raw
    have hi2 : i < es2.size := by omega
    obtain ⟨hkey, hval⟩ := he2 i hi2 k u hu
    have hlt : it < s.heap.objs.size := by
      obtain ⟨ob, e, _⟩ := ItmAny.obj st
      exact Heap.lt_size e
    have st' : ItmAny s.heap it d i es2.size ep' := by rw [hz2, ← hl]; exact st
    refine itm_next st' hr hi2 fun h' st2 hT hz hk => ?_
    rw [hval] at hT
    have new : ObjOk X.prog X.w (upd H s.heap.objs.size (.tup [kV k, v])) h' s.heap.objs.size (.tup [kV k, v]) :=
      ⟨by show 2 ≤ sizeLine; decide, [es2[i].key, u], .cons (relV_key (show keyIs k es2[i].key = true from hkey)) (.cons ru .nil), ⟨_, hT, rfl, _, rfl⟩⟩
    have I1 : Inv X pins σ (upd H s.heap.objs.size (.tup [kV k, v])) { s with heap := h' } :=
      I.turnedNew (t' := s.toks) (ch := [it]) (fun b ob hb e => hk b ob (by simpa using hb) e) hf (Nat.le_refl _) new
    refine ⟨_, rfl, ?_⟩
    show wpAny _ _ (pure ()) _ _ _
    refine wpAny_pure ⟨.ref s.heap.objs.size, _, I1, rfl, ⟨_, k, v, hkv, rfl, I.hok.fresh (Nat.le_refl _), rfl⟩, ?_, fun b hb => ?_⟩
    · rw [hz2, ← hl] at st2; exact st2
    · obtain rfl : b = it := by simpa using hb
      rw [upd_ne (Nat.ne_of_lt hlt)]
      exact (hf b (by simp)).1
  done := by
    intro X hP hw hK hc i pins s σ H E I hf st hg
    subst hP hw hK
    obtain ⟨hd, hi⟩ := hg
    obtain ⟨f0, f1, f2, f3, f4, f5⟩ := hf it (by simp)
    obtain ⟨hs, hgd, hx, es', ep', vs, hdt, hsz, kv, hm⟩ := I.frzK hd
    obtain ⟨rfl, rfl⟩ := dict_ep hod hdt
    have hl : kvs.length = vs.length := Paired.length kv
    obtain ⟨es2, hr, hz2, he2⟩ := hm.raw
    have st' : ItmAny s.heap it d i es2.size ep' := by rw [hz2, ← hl]; exact st
    exact itm_end (I.ok.hd hc) st' hr (by omega) fun h' eb => ⟨rfl, I.turned (t' := s.toks) (fun b ob hb e => eb b ob hb e) f0 f1 f3 f4 f5⟩
  self := fun A i s Q E st h => by
    have hT : s.TypeIs (.ref it) "dict_itemiterator" := by
      rcases st with ⟨ok, ov, e⟩ | ⟨ok, ov, a, f, e, _⟩
      · exact ⟨_, e, rfl⟩
      · exact ⟨_, e, rfl⟩
    refine wpAny_pyIter_slot hT PySem.F.slot_dict_itemiterator_iter (wpAny_call_entry PySem.F.slot_dict_itemiterator_iter hT PySem.W.kcp_entry ?_ (PySem.F.args_dict_itemiterator_iter_1 _))
    exact wpAny_pure ⟨_, rfl, "dict_itemiterator", _, hT, PySem.F.slot_dict_itemiterator_next.lookup, h⟩
end
end Py

namespace Py
open PySem PySem.Spec PyProof.Rows L2
theorem pi_itemsN {X : Cx} {e : Expr} {td : TE} {x : Str} {xp apos cpos : Pos} (he : PE X e td) (hbase : attributeBase e "items" X.env (eval e X.env) = eval e X.env) (hline : (apos.endLine == cpos.line) = true) :
    PI X (.Name x xp) (.Call (.Attribute e "items" apos) [] [] cpos) (iItems td) := by
  refine ⟨fun pins s σ H R I h => ?_⟩
  refine wpAny_Call_method (T := "dict") (id := "dict.items") hbase rfl hline F.plainAttrs_dict F.slot_dict_items F.type_dict_items (thn (he.run pins s σ H _ I h) fun u s1 ⟨v, H1, I1, rx, d, o, kvs, ex, hd, q⟩ => ?_)
  subst ex
  obtain rfl : u = Value.ref d := rx
  obtain ⟨hs, hgd, hx, es, ep, vs, hdt, hsz, kv, hm⟩ := I1.frzK hd
  have hl : kvs.length = vs.length := Paired.length kv
  refine ⟨hm.dictOf.typeIs, hm.dictOf.mapOf.noDict, ?_⟩
  have I2 : Inv X pins σ H1 { s1 with heap := s1.heap.push { cls := .type "dict_items", data := .fields #[.ref d] } } := I1.kept (t' := s1.toks) fun b ob q => Heap.get?_push_of_some _ q
  have fin : wpAny (model X.prog X.w) X.A (pyIter (.ref s1.heap.objs.size)) (PIE X pins σ (.Name x xp) R) X.xe { s1 with heap := s1.heap.push { cls := .type "dict_items", data := .fields #[.ref d] } } := by
    refine wpAny_pyIter_items (d := d) (knd := mixKind X.prog X.w) ⟨_, Heap.get?_push_size _ rfl, rfl, rfl⟩ (hm.push _) (pi_one (tk := s1.toks) I2 _ (turn_itemsN _ hdt) (.inl ⟨.none, .none, ?_⟩) q)
    rw [hl]
    exact Heap.get?_push_size _ rfl
  show wpAny _ _ (callWith cpos (.builtin "dict.items") [.ref d] [] []) _ X.xe s1
  exact method_meetsIn F.slot_dict_items F.entry_dict_items rfl (PySem.evalArgs_none ⟨rfl, hm.dictOf.typeIs, F.args_dict_items_1 _, _, meets_dict_items (mixKind X.prog X.w) d hs, ⟨vs, hm.dictOf⟩, fin⟩)
end Py

/-! sources, targets, list comprehensions -/
namespace Py
open PySem PySem.Spec PyProof.Rows L2
/-- where a loop's items come from: known ones, or a list that may change, of so many items at first -/
inductive Src where
  | fix (us : List U) | lab (n k : Nat)
def Src.at_ : Src → Nat → List O → Option (Option U)
  | .fix us, i, _ => some us[i]?
  | .lab n _, i, h => match h[n]? with
    | some (.lst xs) => some (xs[i]?.map .d)
    | _ => none
def Src.top : Src → Nat
  | .fix us => us.length + 1
  | .lab _ k => k + 1
def SrR (K : PySem.W.Frag) (H : Hp) (μ : List Addr) (S : Src) (J : It) : Prop := ∀ (H' : Hp) (μ' : List Addr) (h' : List O), Ext μ H μ' H' → Rh K H' μ' h' → ∀ i,
  (S.at_ i h' = some none → J.stop i H') ∧ ∀ u, S.at_ i h' = some (some u) → J.go i H' ∧ ∀ x H'', J.yld i H' x H'' → Ext μ' H' μ' H'' ∧ Rh K H'' μ' h' ∧ RU K H'' μ' u x
def DenI (X : Cx) (W : WX) (tg e : Expr) (f : En → List O → R Src) : Prop :=
  ∃ wi, PI X tg e wi ∧ ∀ σ' h σ H μ Rr, RE X.K H μ σ' σ → Rh X.K H μ h → Post X.K W σ H μ (SrR X.K) (f σ' h) Rr → wi σ H Rr
def srcU (u : U) (h : List O) : R Src := match u with
  | .d (.list xs) => .ok (.fix (xs.map .d)) h
  | .d (.tuple xs) => .ok (.fix (xs.map .d)) h
  | .scr xs => .ok (.fix (xs.map fun i => .d (.int i))) h
  | .lab n => match h[n]? with
    | some (.lst xs) => .ok (.lab n xs.length) h
    | _ => .bad
  | _ => .bad
section
variable {X : Cx} {W : WX}
theorem RDs.getN {K : PySem.W.Frag} {H : Hp} {μ : List Addr} {ds : List D} {vs : List V} (h : RDs K H μ ds vs) {i : Nat} (e : ds[i]? = none) : vs.length ≤ i := by
  rw [← h.length]
  exact List.getElem?_eq_none_iff.mp e
theorem sr_list {K : PySem.W.Frag} {H : Hp} {μ : List Addr} {a : Addr} {ds : List D} {vs : List V} (hl : ∀ H' μ', Ext μ H μ' H' → SqL K H' a vs) (r : RDs K H μ ds vs) : SrR K H μ (.fix (ds.map .d)) (Itl K a) := by
  intro H' μ' h' e rh i
  have sl := hl H' μ' e
  refine ⟨fun q => ⟨vs, sl, (r.ext e).getN ?_⟩, fun u q => ?_⟩
  · have : (ds.map U.d)[i]? = none := Option.some.inj q
    rw [List.getElem?_map] at this
    cases z : ds[i]? with
    | none => rfl
    | some d => rw [z] at this; cases this
  · have q' : (ds.map U.d)[i]? = some u := Option.some.inj q
    rw [List.getElem?_map] at q'
    cases z : ds[i]? with
    | none => rw [z] at q'; cases q'
    | some d =>
      rw [z] at q'
      cases q'
      obtain ⟨v, hv, rv⟩ := (r.ext e).get z
      refine ⟨⟨vs, v, sl, hv⟩, fun x H'' y => ?_⟩
      obtain ⟨rfl, hx⟩ := y
      have := hx vs sl
      rw [hv] at this
      cases this
      exact ⟨Ext.refl, rh, .d rv⟩
theorem sr_tup {K : PySem.W.Frag} {H : Hp} {μ : List Addr} {a : Addr} {ds : List D} {vs : List V} (hl : ∀ H' μ', Ext μ H μ' H' → SqT K H' a vs) (r : RDs K H μ ds vs) : SrR K H μ (.fix (ds.map .d)) (Itt K a) := by
  intro H' μ' h' e rh i
  have sl := hl H' μ' e
  refine ⟨fun q => ⟨vs, sl, (r.ext e).getN ?_⟩, fun u q => ?_⟩
  · have : (ds.map U.d)[i]? = none := Option.some.inj q
    rw [List.getElem?_map] at this
    cases z : ds[i]? with
    | none => rfl
    | some d => rw [z] at this; cases this
  · have q' : (ds.map U.d)[i]? = some u := Option.some.inj q
    rw [List.getElem?_map] at q'
    cases z : ds[i]? with
    | none => rw [z] at q'; cases q'
    | some d =>
      rw [z] at q'
      cases q'
      obtain ⟨v, hv, rv⟩ := (r.ext e).get z
      refine ⟨⟨vs, v, sl, hv⟩, fun x H'' y => ?_⟩
      obtain ⟨rfl, hx⟩ := y
      have := hx vs sl
      rw [hv] at this
      cases this
      exact ⟨Ext.refl, rh, .d rv⟩
theorem rds_ints {K : PySem.W.Frag} {H : Hp} {μ : List Addr} : ∀ ns : List Int, RDs K H μ (ns.map .int) (ns.map V.int)
  | [] => .nil
  | n :: ns => .cons (.int n) (rds_ints ns)
theorem deni_seq {tg e : Expr} {f : En → List O → R U} (hf : Den X W e f) : DenI X W tg e (fun σ h => (f σ h).bind srcU) := by
  obtain ⟨t, p, c⟩ := hf
  refine ⟨_, pi_seq p, fun σ' h σ H μ Rr re rh q => ?_⟩
  refine c σ' h σ H μ _ re rh (Post.bind q fun u h1 H1 μ1 x e1 rh1 ru p1 => ?_)
  cases ru with
  | ty n => exact p1.elim
  | gl x => exact p1.elim
  | @lab n a ra =>
    unfold srcU at p1
    dsimp only at p1
    split at p1
    · rename_i xs z
      obtain ⟨ho, h2, h3⟩ := rh1.obj n _ a z ra
      cases h3 with
      | @lst _ vs r =>
        refine ⟨a, vs, rfl, .inl ⟨SqL.of h2, p1.ret rh1 ?_⟩⟩
        intro H' μ' h' e rh i
        have key : ∀ xs', h'[n]? = some (.lst xs') → ∃ ws, H' a = some (.lst ws) ∧ RDs X.K H' μ' xs' ws := fun xs' z' => by
          obtain ⟨ho, g2, g3⟩ := rh.obj n _ a z' (e.get ra)
          cases g3 with
          | lst r => exact ⟨_, g2, r⟩
        refine ⟨fun q => ?_, fun u q => ?_⟩
        · unfold Src.at_ at q
          dsimp only at q
          split at q
          · rename_i xs' z'
            obtain ⟨ws, g1, g2⟩ := key xs' z'
            refine ⟨ws, SqL.of g1, g2.getN ?_⟩
            have q' := Option.some.inj q
            cases y : xs'[i]? with
            | none => rfl
            | some d => rw [y] at q'; cases q'
          · cases q
        · unfold Src.at_ at q
          dsimp only at q
          split at q
          · rename_i xs' z'
            obtain ⟨ws, g1, g2⟩ := key xs' z'
            have q' := Option.some.inj q
            cases y : xs'[i]? with
            | none => rw [y] at q'; cases q'
            | some d =>
              rw [y] at q'
              cases q'
              obtain ⟨v, hv, rv⟩ := g2.get y
              refine ⟨⟨ws, v, SqL.of g1, hv⟩, fun x H'' yl => ?_⟩
              obtain ⟨rfl, hx⟩ := yl
              have := hx ws (SqL.of g1)
              rw [hv] at this
              cases this
              exact ⟨Ext.refl, rh, .d rv⟩
          · cases q
    · exact p1.elim
  | @scr a ns hs =>
    refine ⟨a, ns.map V.int, rfl, .inl ⟨hs.sq, p1.ret rh1 ?_⟩⟩
    have e : (ns.map fun i => U.d (.int i)) = (ns.map PyData.int).map U.d := by rw [List.map_map]; rfl
    rw [e]
    exact sr_list (fun H' μ' e => (hs.ext e).sq) (rds_ints ns)
  | d r =>
    cases r with
    | @tup a vs ds ha r => exact ⟨a, vs, rfl, .inr ⟨ha.sq, p1.ret rh1 (sr_tup (fun H' μ' e => (ha.ext e).sq) r)⟩⟩
    | @lst a vs ds ha na r => exact ⟨a, vs, rfl, .inl ⟨SqL.of ha, p1.ret rh1 (sr_list (fun H' μ' e => SqL.of (e.keep _ _ ha na).1) r)⟩⟩
    | _ => exact p1.elim
/-! ### range, enumerate, zip -/
def inR (i : Int) : Bool := Nat.ble i.natAbs 4611686018427387903
theorem inR_ok {i : Int} (h : Py.inR i = true) : -(2 ^ 62) ≤ i ∧ i < 2 ^ 62 := by
  unfold Py.inR at h
  have := Nat.le_of_ble_eq_true h
  omega
theorem inR_of {i : Int} (h0 : 0 ≤ i) (h1 : i ≤ 100000000) : Py.inR i = true := by
  unfold Py.inR
  exact Nat.ble_eq_true_of_le (by omega)
def rngL (lo c : Int) (n : Nat) : List U := (List.range n).map fun (k : Nat) => U.d (.int (lo + (k : Nat) * c))
theorem rngL_get (lo c : Int) (n i : Nat) : (rngL lo c n)[i]? = if i < n then some (.d (.int (lo + (i : Nat) * c))) else none := by
  unfold rngL
  rw [List.getElem?_map]
  by_cases h : i < n
  · rw [if_pos h, List.getElem?_range h]; rfl
  · rw [if_neg h, List.getElem?_eq_none (by simpa using h)]; rfl
theorem sr_rng1 {K : PySem.W.Frag} {H : Hp} {μ : List Addr} {lo : Int} {n : Nat} : SrR K H μ (.fix (rngL lo 1 n)) (Itr lo n) := by
  intro H' μ' h' e rh i
  refine ⟨fun q => ?_, fun u q => ?_⟩
  · have q' := Option.some.inj q
    rw [rngL_get] at q'
    by_cases hi : i < n
    · rw [if_pos hi] at q'; cases q'
    · exact Nat.le_of_not_lt hi
  · have q' := Option.some.inj q
    rw [rngL_get] at q'
    by_cases hi : i < n
    · rw [if_pos hi] at q'
      cases q'
      refine ⟨hi, fun x H'' y => ?_⟩
      obtain ⟨rfl, rfl⟩ := y
      refine ⟨Ext.refl, rh, ?_⟩
      rw [Int.mul_one]
      exact .d (.int _)
    · rw [if_neg hi] at q'; cases q'
theorem sr_rngC {K : PySem.W.Frag} {H : Hp} {μ : List Addr} {lo c : Int} {n : Nat} : SrR K H μ (.fix (rngL lo c n)) (Itc lo c n) := by
  intro H' μ' h' e rh i
  refine ⟨fun q => ?_, fun u q => ?_⟩
  · have q' := Option.some.inj q
    rw [rngL_get] at q'
    by_cases hi : i < n
    · rw [if_pos hi] at q'; cases q'
    · exact Nat.le_of_not_lt hi
  · have q' := Option.some.inj q
    rw [rngL_get] at q'
    by_cases hi : i < n
    · rw [if_pos hi] at q'
      cases q'
      refine ⟨hi, fun x H'' y => ?_⟩
      obtain ⟨rfl, rfl⟩ := y
      exact ⟨Ext.refl, rh, .d (.int _)⟩
    · rw [if_neg hi] at q'; cases q'
/-- how many turns a range has -/
def rngN (i j c : Int) : Option Nat := if c ≠ 0 ∧ c.natAbs < 1073741824 ∧ Builtin.Range.small i j c = true ∧ 0 ≤ Builtin.Range.rangeSize i j c then some (Builtin.Range.rangeSize i j c).toNat else none
theorem rngN_ok {i j c : Int} {n : Nat} (h : rngN i j c = some n) : RgC i j c n := by
  unfold rngN at h
  by_cases hc : c ≠ 0 ∧ c.natAbs < 1073741824 ∧ Builtin.Range.small i j c = true ∧ 0 ≤ Builtin.Range.rangeSize i j c
  · rw [if_pos hc] at h
    cases h
    exact ⟨hc.1, hc.2.1, hc.2.2.1, by omega⟩
  · rw [if_neg hc] at h; cases h
def rngS (us : List U) (h : List O) : R Src := match us with
  | [.d (.int j)] => if inR j = true then .ok (.fix (rngL 0 1 j.toNat)) h else .bad
  | [.d (.int i), .d (.int j)] => if (inR i && inR j) = true then .ok (.fix (rngL i 1 (j - i).toNat)) h else .bad
  | [.d (.int i), .d (.int j), .d (.int c)] => (opt (rngN i j c) h).bind fun n h => .ok (.fix (rngL i c n)) h
  | _ => .bad
theorem rngS_of {K : PySem.W.Frag} {σ : L2.St} {H : Hp} {μ : List Addr} {us : List U} {h : List O} {vs : List V} {Rr : It → Hp → Prop} (rh : Rh K H μ h) (r : RUs K H μ us vs) (p : Post K W σ H μ (SrR K) (rngS us h) Rr) :
    (∃ j : Int, vs = [.int j] ∧ -(2 ^ 62) ≤ j ∧ j < 2 ^ 62 ∧ Rr (Itr 0 j.toNat) H) ∨
    (∃ i j : Int, vs = [.int i, .int j] ∧ (-(2 ^ 62) ≤ i ∧ i < 2 ^ 62 ∧ -(2 ^ 62) ≤ j ∧ j < 2 ^ 62) ∧ Rr (Itr i (j - i).toNat) H) ∨
    (∃ (i j c : Int) (n : Nat), vs = [.int i, .int j, .int c] ∧ RgC i j c n ∧ Rr (Itc i c n) H) := by
  unfold rngS at p
  split at p
  · rename_i j
    cases r with
    | cons r1 r2 =>
      cases r2
      cases r1.int_inv
      by_cases hj : inR j = true
      · rw [if_pos hj] at p
        exact .inl ⟨j, rfl, (inR_ok hj).1, (inR_ok hj).2, p.ret rh sr_rng1⟩
      · rw [if_neg hj] at p
        exact p.elim
  · rename_i i j
    cases r with
    | cons r1 r2 =>
      cases r2 with
      | cons r2 r3 =>
        cases r3
        cases r1.int_inv
        cases r2.int_inv
        by_cases hj : (inR i && inR j) = true
        · rw [if_pos hj] at p
          have hj := Bool.and_eq_true_iff.mp hj
          exact .inr (.inl ⟨i, j, rfl, ⟨(inR_ok hj.1).1, (inR_ok hj.1).2, (inR_ok hj.2).1, (inR_ok hj.2).2⟩, p.ret rh sr_rng1⟩)
        · rw [if_neg hj] at p
          exact p.elim
  · rename_i i j c
    cases r with
    | cons r1 r2 =>
      cases r2 with
      | cons r2 r3 =>
        cases r3 with
        | cons r3 r4 =>
          cases r4
          cases r1.int_inv
          cases r2.int_inv
          cases r3.int_inv
          obtain ⟨n, en, p⟩ := Post.opt p
          exact .inr (.inr ⟨i, j, c, n, rfl, rngN_ok en, p.ret rh sr_rngC⟩)
  · exact p.elim
theorem deni_range1 {tg a : Expr} {p pos : Pos} {f : En → List O → R (List U)} (gl : Gl X "range") (hm : X.mg "range" = none) (hf : DenA X W [a] f) (hs : noStar [a] = true) :
    DenI X W tg (.Call (.Name "range" p) [a] [] pos) (fun σ h => (f σ h).bind fun us h => if us.length = 1 then rngS us h else .bad) := by
  obtain ⟨t, pa, c⟩ := hf
  refine ⟨_, pi_range1 gl hm pa (star1 (noStar_cons hs).1), fun σ' h σ H μ Rr re rh q => ?_⟩
  refine c σ' h σ H μ _ re rh (Post.bind q fun us h1 H1 μ1 xs e1 rh1 ru p1 => ?_)
  by_cases hl : us.length = 1
  · rw [if_pos hl] at p1
    have hx := ru.length
    rcases rngS_of rh1 ru p1 with z | ⟨i, j, e, _⟩ | ⟨i, j, c, n, e, _⟩
    · exact z
    · rw [e, hl] at hx; simp at hx
    · rw [e, hl] at hx; simp at hx
  · rw [if_neg hl] at p1; exact p1.elim
theorem deni_range2 {tg a b : Expr} {p pos : Pos} {f : En → List O → R (List U)} (gl : Gl X "range") (hm : X.mg "range" = none) (hf : DenA X W [a, b] f) (hs : noStar [a, b] = true) :
    DenI X W tg (.Call (.Name "range" p) [a, b] [] pos) (fun σ h => (f σ h).bind fun us h => if us.length = 2 then rngS us h else .bad) := by
  obtain ⟨t, pa, c⟩ := hf
  obtain ⟨s1, s2⟩ := noStar_cons hs
  refine ⟨_, pi_range2 gl hm pa (by rw [star1 s1, star1 (noStar_cons s2).1]; rfl) (star1 (noStar_cons s2).1), fun σ' h σ H μ Rr re rh q => ?_⟩
  refine c σ' h σ H μ _ re rh (Post.bind q fun us h1 H1 μ1 xs e1 rh1 ru p1 => ?_)
  by_cases hl : us.length = 2
  · rw [if_pos hl] at p1
    have hx := ru.length
    rcases rngS_of rh1 ru p1 with ⟨j, e, _⟩ | z | ⟨i, j, c, n, e, _⟩
    · rw [e, hl] at hx; simp at hx
    · exact z
    · rw [e, hl] at hx; simp at hx
  · rw [if_neg hl] at p1; exact p1.elim
theorem deni_range3 {tg a b c : Expr} {p pos : Pos} {f : En → List O → R (List U)} (gl : Gl X "range") (hm : X.mg "range" = none) (hf : DenA X W [a, b, c] f) (hs : noStar [a, b, c] = true) :
    DenI X W tg (.Call (.Name "range" p) [a, b, c] [] pos) (fun σ h => (f σ h).bind fun us h => if us.length = 3 then rngS us h else .bad) := by
  obtain ⟨t, pa, cc⟩ := hf
  obtain ⟨s1, s2⟩ := noStar_cons hs
  refine ⟨_, pi_range3 gl hm pa (star1 s1) (noStar_any s2), fun σ' h σ H μ Rr re rh q => ?_⟩
  refine cc σ' h σ H μ _ re rh (Post.bind q fun us h1 H1 μ1 xs e1 rh1 ru p1 => ?_)
  by_cases hl : us.length = 3
  · rw [if_pos hl] at p1
    have hx := ru.length
    rcases rngS_of rh1 ru p1 with ⟨j, e, _⟩ | ⟨i, j, e, _⟩ | z
    · rw [e, hl] at hx; simp at hx
    · rw [e, hl] at hx; simp at hx
    · exact z
  · rw [if_neg hl] at p1; exact p1.elim
/-! ### enumerate, zip -/
def enuL (k : Nat) : List D → List U
  | [] => []
  | x :: r => .d (.tuple [.int k, x]) :: enuL (k + 1) r
theorem enuL_get : ∀ (xs : List D) (k i : Nat), (enuL k xs)[i]? = xs[i]?.map fun x => U.d (.tuple [.int ((k + i : Nat) : Int), x])
  | [], _, _ => by simp [enuL]
  | x :: r, k, 0 => by simp [enuL]
  | x :: r, k, i + 1 => by
    rw [enuL, List.getElem?_cons_succ, enuL_get r (k + 1) i, List.getElem?_cons_succ]
    have : k + 1 + i = k + (i + 1) := by omega
    rw [this]
def zipL : List D → List D → List U
  | x :: r, y :: q => .d (.tuple [x, y]) :: zipL r q
  | _, _ => []
theorem zipL_get : ∀ (xs ys : List D) (i : Nat), (zipL xs ys)[i]? = match xs[i]?, ys[i]? with
    | some x, some y => some (.d (.tuple [x, y]))
    | _, _ => none
  | [], ys, i => by simp [zipL]
  | x :: r, [], i => by
    simp only [zipL, List.getElem?_nil]
    split
    · rename_i h; cases h
    · rfl
  | x :: r, y :: q, 0 => by simp [zipL]
  | x :: r, y :: q, i + 1 => by
    rw [zipL, List.getElem?_cons_succ, zipL_get r q i, List.getElem?_cons_succ, List.getElem?_cons_succ]
def enuS (us : List U) (h : List O) : R Src := match us with
  | [.d (.list xs)] => .ok (.fix (enuL 0 xs)) h
  | [.d (.tuple xs)] => .ok (.fix (enuL 0 xs)) h
  | [.scr xs] => .ok (.fix (enuL 0 (xs.map .int))) h
  | _ => .bad
theorem newpair {K : PySem.W.Frag} {H : Hp} {μ : List Addr} {h : List O} {T : Addr} {d e : D} {v w : V} (rh : Rh K H μ h) (hT : H T = none) (rv : RD K H μ d v) (rw : RD K H μ e w) :
    Ext μ H μ (upd H T (.tup [v, w])) ∧ Rh K (upd H T (.tup [v, w])) μ h ∧ RU K (upd H T (.tup [v, w])) μ (.d (.tuple [d, e])) (.ref T) :=
  ⟨Ext.new hT, rh.new hT, .d (.tup (.inl ⟨upd_same, rh.notin hT⟩) (.cons (rv.ext (Ext.new hT)) (.cons (rw.ext (Ext.new hT)) .nil)))⟩
theorem sr_enu {K : PySem.W.Frag} {H : Hp} {μ : List Addr} {a : Addr} {ds : List D} {vs : List V} (hl : ∀ H' μ', Ext μ H μ' H' → SqL K H' a vs) (r : RDs K H μ ds vs) : SrR K H μ (.fix (enuL 0 ds)) (Ite K a) := by
  intro H' μ' h' e rh i
  have sl := hl H' μ' e
  refine ⟨fun q => ⟨vs, sl, (r.ext e).getN ?_⟩, fun u q => ?_⟩
  · have q' := Option.some.inj q
    rw [enuL_get] at q'
    cases z : ds[i]? with
    | none => rfl
    | some d => rw [z] at q'; cases q'
  · have q' := Option.some.inj q
    rw [enuL_get] at q'
    cases z : ds[i]? with
    | none => rw [z] at q'; cases q'
    | some d =>
      rw [z] at q'
      cases q'
      obtain ⟨v, hv, rv⟩ := (r.ext e).get z
      refine ⟨⟨vs, v, sl, hv⟩, fun x H'' y => ?_⟩
      obtain ⟨T, w, rfl, hT, rfl, hx⟩ := y
      have := hx vs sl
      rw [hv] at this
      cases this
      rw [Nat.zero_add]
      exact newpair rh hT (.int _) rv
theorem sr_enuT {K : PySem.W.Frag} {H : Hp} {μ : List Addr} {a : Addr} {ds : List D} {vs : List V} (hl : ∀ H' μ', Ext μ H μ' H' → SqT K H' a vs) (r : RDs K H μ ds vs) : SrR K H μ (.fix (enuL 0 ds)) (IteT K a) := by
  intro H' μ' h' e rh i
  have sl := hl H' μ' e
  refine ⟨fun q => ⟨vs, sl, (r.ext e).getN ?_⟩, fun u q => ?_⟩
  · have q' := Option.some.inj q
    rw [enuL_get] at q'
    cases z : ds[i]? with
    | none => rfl
    | some d => rw [z] at q'; cases q'
  · have q' := Option.some.inj q
    rw [enuL_get] at q'
    cases z : ds[i]? with
    | none => rw [z] at q'; cases q'
    | some d =>
      rw [z] at q'
      cases q'
      obtain ⟨v, hv, rv⟩ := (r.ext e).get z
      refine ⟨⟨vs, v, sl, hv⟩, fun x H'' y => ?_⟩
      obtain ⟨T, w, rfl, hT, rfl, hx⟩ := y
      have := hx vs sl
      rw [hv] at this
      cases this
      rw [Nat.zero_add]
      exact newpair rh hT (.int _) rv
theorem deni_enum {a : Expr} {elts : List Expr} {kk : Nat} {p pos tpos : Pos} {f : En → List O → R (List U)} (gl : Gl X "enumerate") (hm : X.mg "enumerate" = none) (hf : DenA X W [a] f) (hs : noStar [a] = true) :
    DenI X W (.Tuple elts kk tpos) (.Call (.Name "enumerate" p) [a] [] pos) (fun σ h => (f σ h).bind enuS) := by
  obtain ⟨t, pa, c⟩ := hf
  refine ⟨_, pi_enumA gl hm pa (star1 (noStar_cons hs).1), fun σ' h σ H μ Rr re rh q => ?_⟩
  refine c σ' h σ H μ _ re rh (Post.bind q fun us h1 H1 μ1 xs e1 rh1 ru p1 => ?_)
  unfold enuS at p1
  split at p1
  · cases ru with
    | cons r1 r2 =>
      cases r2
      cases r1 with
      | d r => cases r with
        | @lst a vs ds ha na r => exact ⟨a, vs, rfl, .inl ⟨SqL.of ha, p1.ret rh1 (sr_enu (fun H' μ' e => SqL.of (e.keep _ _ ha na).1) r)⟩⟩
  · cases ru with
    | cons r1 r2 =>
      cases r2
      cases r1 with
      | d r => cases r with
        | @tup a vs ds ha r => exact ⟨a, vs, rfl, .inr ⟨ha.sq, p1.ret rh1 (sr_enuT (fun H' μ' e => (ha.ext e).sq) r)⟩⟩
  · cases ru with
    | cons r1 r2 =>
      cases r2
      cases r1 with
      | scr hs => exact ⟨_, _, rfl, .inl ⟨hs.sq, p1.ret rh1 (sr_enu (fun H' μ' e => (hs.ext e).sq) (rds_ints _))⟩⟩
  · exact p1.elim
def zipS (us : List U) (h : List O) : R Src := match us with
  | [.d (.list xs), .d (.list ys)] => .ok (.fix (zipL xs ys)) h
  | [.d (.tuple xs), .d (.tuple ys)] => .ok (.fix (zipL xs ys)) h
  | _ => .bad
theorem zip_none {xs ys : List D} {i : Nat} (h : (zipL xs ys)[i]? = none) : xs[i]? = none ∨ ys[i]? = none := by
  rw [zipL_get] at h
  cases z : xs[i]? with
  | none => exact .inl rfl
  | some x => cases y : ys[i]? with
    | none => exact .inr rfl
    | some y' => rw [z, y] at h; cases h
theorem zip_some {xs ys : List D} {i : Nat} {u : U} (h : (zipL xs ys)[i]? = some u) : ∃ x y, xs[i]? = some x ∧ ys[i]? = some y ∧ u = .d (.tuple [x, y]) := by
  rw [zipL_get] at h
  cases z : xs[i]? with
  | none => rw [z] at h; cases h
  | some x => cases y : ys[i]? with
    | none => rw [z, y] at h; cases h
    | some y' => rw [z, y] at h; cases h; exact ⟨x, y', rfl, rfl, rfl⟩
theorem deni_zip {a b : Expr} {elts : List Expr} {kk : Nat} {p pos tpos : Pos} {f : En → List O → R (List U)} (gl : Gl X "zip") (hm : X.mg "zip" = none) (hf : DenA X W [a, b] f) (hs : noStar [a, b] = true) :
    DenI X W (.Tuple elts kk tpos) (.Call (.Name "zip" p) [a, b] [] pos) (fun σ h => (f σ h).bind zipS) := by
  obtain ⟨t, pa, c⟩ := hf
  obtain ⟨s1, s2⟩ := noStar_cons hs
  refine ⟨_, RZ.pi_zipA gl hm pa (star1 s1) (noStar_any s2), fun σ' h σ H μ Rr re rh q => ?_⟩
  refine c σ' h σ H μ _ re rh (Post.bind q fun us h1 H1 μ1 xs e1 rh1 ru p1 => ?_)
  unfold zipS at p1
  split at p1
  · cases ru with
    | cons r1 r2 => cases r2 with
      | cons r2 r3 =>
        cases r3
        cases r1 with
        | d r => cases r with
          | @lst a vs ds ha na r =>
            cases r2 with
            | d r' => cases r' with
              | @lst b ws es hb nb r' =>
                refine ⟨a, b, vs, ws, rfl, .inl ⟨SqL.of ha, SqL.of hb, p1.ret rh1 ?_⟩⟩
                intro H' μ' h' e rh i
                have ka := SqL.of (K := X.K) (e.keep _ _ ha na).1
                have kb := SqL.of (K := X.K) (e.keep _ _ hb nb).1
                refine ⟨fun q => ⟨vs, ws, ka, kb, ?_⟩, fun u q => ?_⟩
                · rcases zip_none (Option.some.inj q) with z | z
                  · exact .inl ((r.ext e).getN z)
                  · exact .inr ((r'.ext e).getN z)
                · obtain ⟨x, y, hx, hy, rfl⟩ := zip_some (Option.some.inj q)
                  obtain ⟨v, hv, rv⟩ := (r.ext e).get hx
                  obtain ⟨w, hw, rw⟩ := (r'.ext e).get hy
                  refine ⟨⟨vs, ws, v, w, ka, kb, hv, hw⟩, fun x H'' yl => ?_⟩
                  obtain ⟨T, v', w', rfl, hT, rfl, hx1, hx2⟩ := yl
                  have e1 := hx1 vs ka
                  rw [hv] at e1
                  cases e1
                  have e2 := hx2 ws kb
                  rw [hw] at e2
                  cases e2
                  exact newpair rh hT rv rw
  · cases ru with
    | cons r1 r2 => cases r2 with
      | cons r2 r3 =>
        cases r3
        cases r1 with
        | d r => cases r with
          | @tup a vs ds ha r =>
            cases r2 with
            | d r' => cases r' with
              | @tup b ws es hb r' =>
                refine ⟨a, b, vs, ws, rfl, .inr ⟨ha.sq, hb.sq, p1.ret rh1 ?_⟩⟩
                intro H' μ' h' e rh i
                have ka := (ha.ext e).sq
                have kb := (hb.ext e).sq
                refine ⟨fun q => ⟨vs, ws, ka, kb, ?_⟩, fun u q => ?_⟩
                · rcases zip_none (Option.some.inj q) with z | z
                  · exact .inl ((r.ext e).getN z)
                  · exact .inr ((r'.ext e).getN z)
                · obtain ⟨x, y, hx, hy, rfl⟩ := zip_some (Option.some.inj q)
                  obtain ⟨v, hv, rv⟩ := (r.ext e).get hx
                  obtain ⟨w, hw, rw⟩ := (r'.ext e).get hy
                  refine ⟨⟨vs, ws, v, w, ka, kb, hv, hw⟩, fun x H'' yl => ?_⟩
                  obtain ⟨T, v', w', rfl, hT, rfl, hx1, hx2⟩ := yl
                  have e1 := hx1 vs ka
                  rw [hv] at e1
                  cases e1
                  have e2 := hx2 ws kb
                  rw [hw] at e2
                  cases e2
                  exact newpair rh hT rv rw
  · exact p1.elim
/-! ### dicts that are locked -/
def keyD : Key → Option D
  | .inl i => some (.int i)
  | .inr s => if PyData.strOk s = true then some (.str s) else none
theorem keyD_rel {K : PySem.W.Frag} {H : Hp} {μ : List Addr} {k : Key} {d : D} (e : keyD k = some d) : RD K H μ d (kV k) := by
  cases k with
  | inl i => cases e; exact .int i
  | inr s =>
    have e' : (if PyData.strOk s = true then some (PyData.str s) else none) = some d := e
    by_cases h : PyData.strOk s = true
    · rw [if_pos h] at e'; cases e'; exact .str s h
    · rw [if_neg h] at e'; cases e'
def entD : List (Key × D) → Option (List (D × D))
  | [] => some []
  | (k, d) :: r => (keyD k).bind fun x => (entD r).map fun ps => (x, d) :: ps
theorem entD_rel {K : PySem.W.Frag} {H : Hp} {μ : List Addr} : ∀ {kvs : List (Key × D)} {vs : List (Key × V)} {ps : List (D × D)}, RKs K H μ kvs vs → entD kvs = some ps →
    ps.length = vs.length ∧ ∀ (i : Nat) (p : D × D), ps[i]? = some p → ∃ k v, vs[i]? = some (k, v) ∧ RD K H μ p.1 (kV k) ∧ RD K H μ p.2 v
  | [], _, _, .nil, h => by cases h; exact ⟨rfl, fun i p e => by simp at e⟩
  | (k, d) :: r, w :: vs, ps, .cons h1 h2, h => by
    unfold entD at h
    cases q : keyD k with
    | none => rw [q] at h; cases h
    | some x =>
      cases q2 : entD r with
      | none => rw [q, q2] at h; cases h
      | some ps' =>
        rw [q, q2] at h
        cases h
        obtain ⟨g1, g2⟩ := entD_rel h2 q2
        refine ⟨by simp [g1], fun i p e => ?_⟩
        cases i with
        | zero =>
          cases e
          have hk : k = w.1 := h1.1
          exact ⟨w.1, w.2, rfl, by rw [← hk]; exact keyD_rel q, h1.2⟩
        | succ i => exact g2 i p e
def holdOf (u : U) (h : List O) : Option (List (D × D)) := match u with
  | .lab n => (match h[n]? with
    | some (.hold kvs) => entD kvs
    | _ => none)
  | _ => none
theorem holdOf_of {K : PySem.W.Frag} {H : Hp} {μ : List Addr} {u : U} {h : List O} {x : V} {ps : List (D × D)} (rh : Rh K H μ h) (r : RU K H μ u x) (e : holdOf u h = some ps) :
    ∃ a o vs, x = .ref a ∧ H a = some (.frz o (.dK vs)) ∧ ∀ H' μ', Ext μ H μ' H' → ps.length = vs.length ∧ ∀ (i : Nat) (p : D × D), ps[i]? = some p → ∃ k v, vs[i]? = some (k, v) ∧ RD K H' μ' p.1 (kV k) ∧ RD K H' μ' p.2 v := by
  cases r with
  | @lab n a r =>
    unfold holdOf at e
    dsimp only at e
    split at e
    · rename_i kvs z
      obtain ⟨ho, h1, h2⟩ := rh.obj n _ a z r
      cases h2 with
      | hold h2 => exact ⟨a, _, _, rfl, h1, fun H' μ' ex => entD_rel (h2.ext ex) e⟩
    · cases e
  | _ => cases e
def itemsU (u : U) (h : List O) : R Src := (opt (holdOf u h) h).bind fun ps h => .ok (.fix (ps.map fun p => .d (.tuple [p.1, p.2]))) h
def valuesU (u : U) (h : List O) : R Src := (opt (holdOf u h) h).bind fun ps h => .ok (.fix (ps.map fun p => .d p.2)) h
def keysU (u : U) (h : List O) : R Src := (opt (holdOf u h) h).bind fun ps h => .ok (.fix (ps.map fun p => .d p.1)) h
theorem deni_items {o : Expr} {elts : List Expr} {kk : Nat} {tpos apos cpos : Pos} {f : En → List O → R U} (hf : Den X W o f) (hb : isCall o = false) (hl : (apos.endLine == cpos.line) = true) :
    DenI X W (.Tuple elts kk tpos) (.Call (.Attribute o "items" apos) [] [] cpos) (fun σ h => (f σ h).bind itemsU) := by
  obtain ⟨t, pe, c⟩ := hf
  refine ⟨_, pi_items pe (base_of hb) hl, fun σ' h σ H μ Rr re rh q => ?_⟩
  refine c σ' h σ H μ _ re rh (Post.bind q fun u h1 H1 μ1 x e1 rh1 ru p1 => ?_)
  obtain ⟨ps, ep, p1⟩ := Post.opt p1
  obtain ⟨a, od, vs, rfl, g1, g2⟩ := holdOf_of rh1 ru ep
  refine ⟨a, od, vs, rfl, g1, p1.ret rh1 ?_⟩
  intro H' μ' h' e rh' i
  obtain ⟨l1, l2⟩ := g2 H' μ' e
  have hd := e.frz _ _ _ g1
  refine ⟨fun q => ⟨hd, ?_⟩, fun u q => ?_⟩
  · have q' := Option.some.inj q
    rw [List.getElem?_map] at q'
    cases z : ps[i]? with
    | none => rw [← l1]; exact List.getElem?_eq_none_iff.mp z
    | some p => rw [z] at q'; cases q'
  · have q' := Option.some.inj q
    rw [List.getElem?_map] at q'
    cases z : ps[i]? with
    | none => rw [z] at q'; cases q'
    | some p =>
      rw [z] at q'
      cases q'
      obtain ⟨k, v, hv, r1, r2⟩ := l2 i p z
      refine ⟨⟨hd, (List.getElem?_eq_some_iff.mp hv).1⟩, fun x H'' y => ?_⟩
      obtain ⟨T, k', v', hk, rfl, hT, rfl⟩ := y
      rw [hv] at hk
      cases hk
      exact newpair rh' hT r1 r2
theorem deni_itemsN {o : Expr} {x : Str} {tpos apos cpos : Pos} {f : En → List O → R U} (hf : Den X W o f) (hb : isCall o = false) (hl : (apos.endLine == cpos.line) = true) :
    DenI X W (.Name x tpos) (.Call (.Attribute o "items" apos) [] [] cpos) (fun σ h => (f σ h).bind itemsU) := by
  obtain ⟨t, pe, c⟩ := hf
  refine ⟨_, pi_itemsN pe (base_of hb) hl, fun σ' h σ H μ Rr re rh q => ?_⟩
  refine c σ' h σ H μ _ re rh (Post.bind q fun u h1 H1 μ1 x e1 rh1 ru p1 => ?_)
  obtain ⟨ps, ep, p1⟩ := Post.opt p1
  obtain ⟨a, od, vs, rfl, g1, g2⟩ := holdOf_of rh1 ru ep
  refine ⟨a, od, vs, rfl, g1, p1.ret rh1 ?_⟩
  intro H' μ' h' e rh' i
  obtain ⟨l1, l2⟩ := g2 H' μ' e
  have hd := e.frz _ _ _ g1
  refine ⟨fun q => ⟨hd, ?_⟩, fun u q => ?_⟩
  · have q' := Option.some.inj q
    rw [List.getElem?_map] at q'
    cases z : ps[i]? with
    | none => rw [← l1]; exact List.getElem?_eq_none_iff.mp z
    | some p => rw [z] at q'; cases q'
  · have q' := Option.some.inj q
    rw [List.getElem?_map] at q'
    cases z : ps[i]? with
    | none => rw [z] at q'; cases q'
    | some p =>
      rw [z] at q'
      cases q'
      obtain ⟨k, v, hv, r1, r2⟩ := l2 i p z
      refine ⟨⟨hd, (List.getElem?_eq_some_iff.mp hv).1⟩, fun x H'' y => ?_⟩
      obtain ⟨T, k', v', hk, rfl, hT, rfl⟩ := y
      rw [hv] at hk
      cases hk
      exact newpair rh' hT r1 r2
theorem deni_values {tg o : Expr} {apos cpos : Pos} {f : En → List O → R U} (hf : Den X W o f) (hb : isCall o = false) (hl : (apos.endLine == cpos.line) = true) :
    DenI X W tg (.Call (.Attribute o "values" apos) [] [] cpos) (fun σ h => (f σ h).bind valuesU) := by
  obtain ⟨t, pe, c⟩ := hf
  refine ⟨_, pi_values pe (base_of hb) hl, fun σ' h σ H μ Rr re rh q => ?_⟩
  refine c σ' h σ H μ _ re rh (Post.bind q fun u h1 H1 μ1 x e1 rh1 ru p1 => ?_)
  obtain ⟨ps, ep, p1⟩ := Post.opt p1
  obtain ⟨a, od, vs, rfl, g1, g2⟩ := holdOf_of rh1 ru ep
  refine ⟨a, od, vs, rfl, g1, p1.ret rh1 ?_⟩
  intro H' μ' h' e rh' i
  obtain ⟨l1, l2⟩ := g2 H' μ' e
  have hd := e.frz _ _ _ g1
  refine ⟨fun q => ⟨hd, ?_⟩, fun u q => ?_⟩
  · have q' := Option.some.inj q
    rw [List.getElem?_map] at q'
    cases z : ps[i]? with
    | none => rw [← l1]; exact List.getElem?_eq_none_iff.mp z
    | some p => rw [z] at q'; cases q'
  · have q' := Option.some.inj q
    rw [List.getElem?_map] at q'
    cases z : ps[i]? with
    | none => rw [z] at q'; cases q'
    | some p =>
      rw [z] at q'
      cases q'
      obtain ⟨k, v, hv, r1, r2⟩ := l2 i p z
      refine ⟨⟨hd, (List.getElem?_eq_some_iff.mp hv).1⟩, fun x H'' y => ?_⟩
      obtain ⟨rfl, k', hk⟩ := y
      rw [hv] at hk
      cases hk
      exact ⟨Ext.refl, rh', .d r2⟩
/-- the keys, of the dict itself -/
theorem deni_dkeys {tg o : Expr} {f : En → List O → R U} (hf : Den X W o f) : DenI X W tg o (fun σ h => (f σ h).bind keysU) := by
  obtain ⟨t, pe, c⟩ := hf
  refine ⟨_, pi_keys pe, fun σ' h σ H μ Rr re rh q => ?_⟩
  refine c σ' h σ H μ _ re rh (Post.bind q fun u h1 H1 μ1 x e1 rh1 ru p1 => ?_)
  obtain ⟨ps, ep, p1⟩ := Post.opt p1
  obtain ⟨a, od, vs, rfl, g1, g2⟩ := holdOf_of rh1 ru ep
  refine ⟨a, od, rfl, .inl ⟨vs, g1, p1.ret rh1 ?_⟩⟩
  intro H' μ' h' e rh' i
  obtain ⟨l1, l2⟩ := g2 H' μ' e
  have hd := e.frz _ _ _ g1
  refine ⟨fun q => ⟨hd, ?_⟩, fun u q => ?_⟩
  · have q' := Option.some.inj q
    rw [List.getElem?_map] at q'
    cases z : ps[i]? with
    | none => rw [← l1]; exact List.getElem?_eq_none_iff.mp z
    | some p => rw [z] at q'; cases q'
  · have q' := Option.some.inj q
    rw [List.getElem?_map] at q'
    cases z : ps[i]? with
    | none => rw [z] at q'; cases q'
    | some p =>
      rw [z] at q'
      cases q'
      obtain ⟨k, v, hv, r1, r2⟩ := l2 i p z
      refine ⟨⟨hd, (List.getElem?_eq_some_iff.mp hv).1⟩, fun x H'' y => ?_⟩
      obtain ⟨rfl, k', v', hk, rfl⟩ := y
      rw [hv] at hk
      cases hk
      exact ⟨Ext.refl, rh', .d r1⟩
theorem pi_or {tg e : Expr} {t u : TI} (h : PI X tg e t) (g : PI X tg e u) : PI X tg e (fun σ H R => t σ H R ∨ u σ H R) :=
  ⟨fun pins s σ H R I z => z.elim (h.run pins s σ H R I) (g.run pins s σ H R I)⟩
/-- a sequence, or the keys of a dict that is locked -/
def srcK (u : U) (h : List O) : R Src := if (holdOf u h).isSome = true then keysU u h else srcU u h
theorem deni_seqK {tg e : Expr} {f : En → List O → R U} (hf : Den X W e f) : DenI X W tg e (fun σ h => (f σ h).bind srcK) := by
  obtain ⟨w1, p1, c1⟩ := deni_dkeys (tg := tg) hf
  obtain ⟨w2, p2, c2⟩ := deni_seq (tg := tg) hf
  refine ⟨_, pi_or p1 p2, fun σ' h σ H μ Rr re rh q => ?_⟩
  have d : (f σ' h).bind srcK = (f σ' h).bind keysU ∨ (f σ' h).bind srcK = (f σ' h).bind srcU := by
    cases f σ' h with
    | ok u h' =>
      rw [R.bind_ok, R.bind_ok, R.bind_ok]
      unfold srcK
      split
      · exact .inl rfl
      · exact .inr rfl
    | err c h' => exact .inl rfl
    | bad => exact .inl rfl
  rcases d with d | d
  · exact .inl (c1 σ' h σ H μ Rr re rh (by dsimp only at q ⊢; rw [d] at q; exact q))
  · exact .inr (c2 σ' h σ H μ Rr re rh (by dsimp only at q ⊢; rw [d] at q; exact q))
@[simp] theorem srcK_d (d : D) (h : List O) : srcK (.d d) h = srcU (.d d) h := rfl
@[simp] theorem srcK_scr (xs : List Int) (h : List O) : srcK (.scr xs) h = srcU (.scr xs) h := rfl
end
end Py

/-! targets, list comprehensions -/
namespace Py
open PySem PySem.Spec PyProof.Rows L2
mutual
inductive Tg where
  | nm (i : Nat) | tup (ts : Tgs)
inductive Tgs where
  | nil | cons (t : Tg) (ts : Tgs)
end
mutual
def asg : Tg → U → En → Option En
  | .nm i, u, σ => some (σ.set i (some u))
  | .tup ts, u, σ => match u with
    | .d (.tuple ds) => asgs ts ds σ
    | .d (.list ds) => asgs ts ds σ
    | _ => none
def asgs : Tgs → List D → En → Option En
  | .nil, ds, σ => match ds with
    | [] => some σ
    | _ :: _ => none
  | .cons t ts, ds, σ => match ds with
    | [] => none
    | d :: ds => (asg t (.d d) σ).bind fun σ => asgs ts ds σ
end
mutual
def Tg.slots : Tg → List Nat
  | .nm i => [i]
  | .tup ts => ts.slots
def Tgs.slots : Tgs → List Nat
  | .nil => []
  | .cons t ts => t.slots ++ ts.slots
end
def DenG (X : Cx) (tg : Expr) (t : Tg) : Prop :=
  ∃ g, PG X tg g ∧ ∀ u x σ' σ1' σ H μ (Q : L2.St → Hp → Prop), RE X.K H μ σ' σ → RU X.K H μ u x → asg t u σ' = some σ1' →
    (∀ σ1, RE X.K H μ σ1' σ1 → (∀ vs : List Nat, (∀ i ∈ t.slots, i ∈ vs) → wipe σ1 vs = wipe σ vs) → Q σ1 H) → g x σ H Q
def DenGs (X : Cx) (tg : List Expr) (t : Tgs) : Prop :=
  ∃ g, PGs X tg g ∧ ∀ ds xs σ' σ1' σ H μ (Q : L2.St → Hp → Prop), RE X.K H μ σ' σ → RDs X.K H μ ds xs → asgs t ds σ' = some σ1' →
    (∀ σ1, RE X.K H μ σ1' σ1 → (∀ vs : List Nat, (∀ i ∈ t.slots, i ∈ vs) → wipe σ1 vs = wipe σ vs) → Q σ1 H) → g xs σ H Q
theorem wipe_set {σ : L2.St} {i : Nat} {x : Option V} : ∀ {vs : List Nat}, i ∈ vs → wipe (σ.set i x) vs = wipe σ vs
  | [], h => by cases h
  | v :: vs, h => by
    unfold wipe
    by_cases hm : i ∈ vs
    · rw [wipe_set hm]
    · have e : i = v := by
        rcases List.mem_cons.mp h with e | e
        · exact e
        · exact absurd e hm
      subst e
      have : ∀ ws : List Nat, i ∉ ws → wipe (σ.set i x) ws = (wipe σ ws).set i x := by
        intro ws
        induction ws with
        | nil => intro _; rfl
        | cons w ws ih =>
          intro hn
          have h1 : w ≠ i := fun e => hn (by rw [e]; exact List.mem_cons_self)
          have h2 : i ∉ ws := fun e => hn (List.mem_cons_of_mem _ e)
          show (wipe (σ.set i x) ws).set w none = ((wipe σ ws).set w none).set i x
          rw [ih h2, List.set_comm _ _ (Ne.symm h1)]
      rw [this vs hm, List.set_set]
section
variable {X : Cx} {W : WX}
theorem deng_nm {i : Nat} {x : Str} {pos : Pos} (hN : X.N.Nodup) (hi : X.N[i]? = some x) (hx : Loc X.env.scope x) (hf : X.fn x = true ∨ X.env.scope.names.lookup x = some .local) : DenG X (.Name x pos) (.nm i) := by
  refine ⟨_, pg_name hN hi hx hf, fun u x σ' σ1' σ H μ Q re ru e q => ?_⟩
  cases e
  exact q _ (re.set ru) fun vs hv => wipe_set (hv i (by simp [Tg.slots]))
theorem dengs_nil : DenGs X [] .nil := by
  refine ⟨_, pgs_nil, fun ds xs σ' σ1' σ H μ Q re rd e q => ?_⟩
  cases rd with
  | nil => cases e; exact ⟨rfl, q _ re fun _ _ => rfl⟩
  | cons _ _ => cases e
theorem assignEach_cons {e : Expr} {es : List Expr} {env : Env} (h : isStar e = false) : assignEach (e :: es) env = (false, assign e env) :: assignEach es env := by
  cases e <;> first | rfl | cases h
theorem dengs_cons {e : Expr} {es : List Expr} {t : Tg} {ts : Tgs} (h1 : DenG X e t) (h2 : DenGs X es ts) (hs : isStar e = false) : DenGs X (e :: es) (.cons t ts) := by
  obtain ⟨g, pg, cg⟩ := h1
  obtain ⟨gs, pgs, cgs⟩ := h2
  refine ⟨_, pgs_cons pg pgs (by rw [assignEach_cons hs]; rfl), fun ds xs σ' σ1' σ H μ Q re rd e q => ?_⟩
  cases rd with
  | nil => cases e
  | @cons d v ds vs hd r =>
    have e' : (asg t (.d d) σ').bind (fun σ => asgs ts ds σ) = some σ1' := e
    cases ea : asg t (.d d) σ' with
    | none => rw [ea] at e'; cases e'
    | some σ2' =>
      rw [ea] at e'
      have e2 : asgs ts ds σ2' = some σ1' := e'
      refine ⟨v, vs, rfl, cg (.d d) v σ' σ2' σ H μ _ re (.d hd) ea fun σ1 re1 k1 => ?_⟩
      refine cgs ds vs σ2' σ1' σ1 H μ Q re1 r e2 fun σ3 re3 k3 => q σ3 re3 fun vs hv => ?_
      rw [k3 vs fun i hi => hv i (by simp [Tgs.slots, hi]), k1 vs fun i hi => hv i (by simp [Tgs.slots, hi])]
def Tgs.len : Tgs → Nat
  | .nil => 0
  | .cons _ ts => ts.len + 1
theorem asgs_len : ∀ {ts : Tgs} {ds : List D} {σ σ1 : En}, asgs ts ds σ = some σ1 → ds.length = ts.len
  | .nil, [], _, _, _ => rfl
  | .nil, _ :: _, _, _, e => by cases e
  | .cons t ts, [], _, _, e => by cases e
  | .cons t ts, d :: ds, σ, σ1, e => by
    have e' : (asg t (.d d) σ).bind (fun σ => asgs ts ds σ) = some σ1 := e
    cases ea : asg t (.d d) σ with
    | none => rw [ea] at e'; cases e'
    | some σ2 =>
      rw [ea] at e'
      show ds.length + 1 = ts.len + 1
      rw [asgs_len (ts := ts) (show asgs ts ds σ2 = some σ1 from e')]
theorem noStar_assign {es : List Expr} (h : noStar es = true) (env : Env) : (assignEach es env).findIdx? (·.1) = none ∧ (assignEach es env).length = es.length := by
  induction es with
  | nil => exact ⟨rfl, rfl⟩
  | cons e es ih =>
    obtain ⟨h1, h2⟩ := noStar_cons h
    obtain ⟨i1, i2⟩ := ih h2
    rw [assignEach_cons h1]
    refine ⟨?_, by simp [i2]⟩
    rw [List.findIdx?_cons]
    simp [i1]
theorem deng_tup {es : List Expr} {k : Nat} {pos : Pos} {ts : Tgs} (hc : X.calm = true) (h : DenGs X es ts) (hs : noStar es = true) (hl : es.length = ts.len) : DenG X (.Tuple es k pos) (.tup ts) := by
  obtain ⟨g, pg, cg⟩ := h
  obtain ⟨n1, n2⟩ := noStar_assign hs X.env
  have both : PG X (.Tuple es k pos) (fun v σ H Q => gTup X.K es.length g v σ H Q ∨ gLst X.K es.length g v σ H Q) :=
    ⟨fun pins s σ H v u Q I r h => h.elim (fun h => (pg_tup (n := es.length) hc pg n2 n1).run pins s σ H v u Q I r h) (fun h => (pg_lst (n := es.length) hc pg n2 n1).run pins s σ H v u Q I r h)⟩
  refine ⟨_, both, fun u x σ' σ1' σ H μ Q re ru e q => ?_⟩
  unfold asg at e
  split at e
  · rename_i ds
    cases ru with
    | d rd => cases rd with
      | @tup a vs ds ha r =>
        refine .inl ⟨a, vs, rfl, ha.sq, ?_, cg ds vs σ' σ1' σ H μ Q re r e q⟩
        rw [hl, ← asgs_len e, r.length]
  · rename_i ds
    cases ru with
    | d rd => cases rd with
      | @lst a vs ds ha na r =>
        refine .inr ⟨a, vs, rfl, SqL.of ha, ?_, cg ds vs σ' σ1' σ H μ Q re r e q⟩
        rw [hl, ← asgs_len e, r.length]
  · cases e
end

/-! ### a value as it leaves the place where it was made -/
mutual
theorem RD.sub {K : PySem.W.Frag} {H : Hp} {μ ν : List Addr} (k : ∀ a ∈ ν, a ∈ μ) : ∀ {d : D} {v : V}, RD K H μ d v → RD K H ν d v
  | _, _, .non => .non
  | _, _, .bl b => .bl b
  | _, _, .int i => .int i
  | _, _, .str s h => .str s h
  | _, _, .tup h r => .tup (h.elim (fun z => .inl ⟨z.1, fun m => z.2 (k _ m)⟩) .inr) (RDs.sub k r)
  | _, _, .lst h n r => .lst h (fun m => n (k _ m)) (RDs.sub k r)
theorem RDs.sub {K : PySem.W.Frag} {H : Hp} {μ ν : List Addr} (k : ∀ a ∈ ν, a ∈ μ) : ∀ {d : List D} {v : List V}, RDs K H μ d v → RDs K H ν d v
  | _, _, .nil => .nil
  | _, _, .cons h r => .cons (RD.sub k h) (RDs.sub k r)
end
theorem mem_take {α : Type} {l : List α} {n : Nat} : ∀ a ∈ l.take n, a ∈ l := fun a h => List.mem_of_mem_take h
theorem RU.cut {K : PySem.W.Frag} {H : Hp} {μ : List Addr} {u : U} {x : V} {n m : Nat} (r : RU K H μ u x) (b : u.below m) (h : m ≤ n) : RU K H (μ.take n) u x := by
  cases r with
  | d r => exact .d (r.sub mem_take)
  | lab q => 
    have b' : _ < m := b
    exact .lab (by rw [List.getElem?_take_of_lt (by omega)]; exact q)
  | scr q => exact .scr (q.elim (fun ⟨o, z1, z2⟩ => .inl ⟨o, z1, fun m => z2 (mem_take _ m)⟩) .inr)
  | ty n => exact .ty n
  | gl x => exact .gl x
theorem RUs.cut {K : PySem.W.Frag} {H : Hp} {μ : List Addr} {us : List U} {xs : List V} {n m : Nat} (r : RUs K H μ us xs) (b : ∀ u ∈ us, u.below m) (h : m ≤ n) : RUs K H (μ.take n) us xs := by
  induction r with
  | nil => exact .nil
  | cons hx r ih => exact .cons (hx.cut (b _ List.mem_cons_self) h) (ih fun u hu => b u (List.mem_cons_of_mem _ hu))
theorem Rh.cut {K : PySem.W.Frag} {H : Hp} {μ : List Addr} {h : List O} (r : Rh K H μ h) (n : Nat) : Rh K H (μ.take n) (h.take n) := by
  refine ⟨by rw [List.length_take, List.length_take, r.len], List.Sublist.nodup (List.take_sublist _ _) r.nd, fun m o a h1 h2 => ?_⟩
  have hm : m < n := by
    have := (List.getElem?_eq_some_iff.mp h1).1
    rw [List.length_take] at this
    omega
  rw [List.getElem?_take_of_lt hm] at h1 h2
  obtain ⟨ho, q1, q2⟩ := r.obj m o a h1 h2
  refine ⟨ho, q1, ?_⟩
  cases q2 with
  | lst z => exact .lst (z.sub mem_take)
  | mix z b => exact .mix (z.cut b (Nat.le_of_lt hm)) b
  | dct z => exact .dct (Paired.mapP z fun _ _ q => ⟨q.1, q.2.sub mem_take⟩)
  | hold z => exact .hold (Paired.mapP z fun _ _ q => ⟨q.1, q.2.sub mem_take⟩)
theorem Ext.cut {μ μ' : List Addr} {H H' : Hp} (e : Ext μ H μ' H') {n : Nat} (h : μ.length ≤ n) : Ext μ H (μ'.take n) H' := by
  obtain ⟨r, rfl⟩ := e.pre
  refine ⟨⟨⟨r.take (n - μ.length), by rw [List.take_append, List.take_of_length_le h]⟩, fun a o q m => ?_⟩, e.frz⟩
  obtain ⟨h1, h2⟩ := e.keep a o q m
  exact ⟨h1, fun z => h2 (mem_take _ z)⟩
def settle (n : Nat) (u : U) (h : List O) : Option D := match u with
  | .d d => some d
  | .lab m => if n ≤ m then (match h[m]? with
    | some (.lst xs) => some (.list xs)
    | _ => none) else none
  | _ => none
theorem nodup_take {μ : List Addr} (nd : μ.Nodup) {n m : Nat} {a : Addr} (h : μ[m]? = some a) (hm : n ≤ m) : a ∉ μ.take n := by
  intro z
  obtain ⟨i, hi, e⟩ := List.getElem_of_mem z
  have h1 : (μ.take n)[i]? = some a := by rw [List.getElem?_eq_getElem hi, e]
  have hin : i < n := by rw [List.length_take] at hi; omega
  rw [List.getElem?_take_of_lt hin] at h1
  have := nodup_at nd h1 h
  omega
theorem settle_ok {K : PySem.W.Frag} {H : Hp} {μ : List Addr} {h : List O} {u : U} {x : V} {n : Nat} {d : D} (rh : Rh K H μ h) (r : RU K H μ u x) (e : settle n u h = some d) : RD K H (μ.take n) d x := by
  cases r with
  | d r => cases e; exact r.sub mem_take
  | ty n => cases e
  | gl x => cases e
  | scr q => cases e
  | @lab m a q =>
    unfold settle at e
    dsimp only at e
    split at e
    · rename_i hm
      split at e
      · rename_i xs z
        cases e
        obtain ⟨ho, q1, q2⟩ := rh.obj m _ a z q
        cases q2 with
        | lst y => exact .lst q1 (nodup_take rh.nd q hm) (y.sub mem_take)
      · cases e
    · cases e
/-! ### what stands for all contexts -/
def tE (K : PySem.W.Frag) (W : WX) (f : En → List O → R U) : TE := fun σ H Q => ∃ σ' h μ, RE K H μ σ' σ ∧ Rh K H μ h ∧ Post K W σ H μ (RU K) (f σ' h) Q
def tT (K : PySem.W.Frag) (W : WX) (f : En → List O → R Bool) : TT := fun σ H Q => ∃ σ' h μ, RE K H μ σ' σ ∧ Rh K H μ h ∧ Post K W σ H μ relB (f σ' h) Q
def tG (K : PySem.W.Frag) (t : Tg) : TG := fun x σ H Q => ∃ u σ' σ1' μ, RE K H μ σ' σ ∧ RU K H μ u x ∧ asg t u σ' = some σ1' ∧
  (∀ σ1, RE K H μ σ1' σ1 → (∀ vs : List Nat, (∀ i ∈ t.slots, i ∈ vs) → wipe σ1 vs = wipe σ vs) → Q σ1 H)
section
variable {X : Cx} {W : WX}
theorem Den.pe {e : Expr} {f : En → List O → R U} (h : Den X W e f) : PE X e (tE X.K W f) := by
  obtain ⟨t, p, c⟩ := h
  exact ⟨fun pins s σ H Q I ⟨σ', h, μ, re, rh, q⟩ => p.run pins s σ H Q I (c σ' h σ H μ Q re rh q)⟩
theorem DenT.pt {e : Expr} {f : En → List O → R Bool} (h : DenT X W e f) : PT X e (tT X.K W f) := by
  obtain ⟨t, p, c⟩ := h
  exact ⟨fun pins s σ H Q I ⟨σ', h, μ, re, rh, q⟩ => p.run pins s σ H Q I (c σ' h σ H μ Q re rh q)⟩
theorem DenG.pg {e : Expr} {t : Tg} (h : DenG X e t) : PG X e (tG X.K t) := by
  obtain ⟨g, p, c⟩ := h
  exact ⟨fun pins s σ H v u Q I r ⟨u', σ', σ1', μ, re, ru, e, q⟩ => p.run pins s σ H v u Q I r (c u' v σ' σ1' σ H μ Q re ru e q)⟩
def DenTs (X : Cx) (W : WX) (ifs : List Expr) (f : En → List O → R Bool) : Prop := PTs X ifs (tT X.K W f)
theorem dents_nil : DenTs X W [] (fun _ h => .ok true h) := ⟨fun pins s σ H Q I ⟨σ', h, μ, re, rh, q⟩ => pts_nil.run pins s σ H Q I (q.ret rh rfl)⟩
theorem dents_one {c : Expr} {f : En → List O → R Bool} (h : DenT X W c f) : DenTs X W [c] f := pts_one h.pt
end
/-! ### list comprehensions -/
def noErr {α : Type} (r : R α) : R α := match r with
  | .err _ _ => .bad
  | .ok a h => .ok a h
  | .bad => .bad
@[simp] theorem noErr_ok {α : Type} (a : α) (h : List O) : noErr (.ok a h) = .ok a h := rfl
@[simp] theorem noErr_bad {α : Type} : noErr (.bad : R α) = .bad := rfl
abbrev W0 : WX := fun _ _ _ _ => False
theorem Post.inner {α β γ δ : Type} {K : PySem.W.Frag} {W : WX} {σ σ2 : L2.St} {H H0 : Hp} {μ μ0 : List Addr} {Rel : Hp → List Addr → α → β → Prop} {Rel2 : Hp → List Addr → γ → δ → Prop} {r : R α} {Q : β → Hp → Prop} {Q2 : δ → Hp → Prop} {f : α → List O → R γ}
    (p : Post K W σ H0 μ0 Rel2 ((noErr r).bind f) Q2) (k : ∀ a h' H' μ' b, Ext μ H μ' H' → Rh K H' μ' h' → Rel H' μ' a b → Post K W σ H0 μ0 Rel2 (f a h') Q2 → Q b H') : Post K W0 σ2 H μ Rel r Q := by
  cases r with
  | ok a h => exact fun H' μ' b e rh rel => k a h H' μ' b e rh rel p
  | err c h => exact p.elim
  | bad => exact p.elim
def wipeE (σ : En) : List Nat → En
  | [] => σ
  | v :: vs => (wipeE σ vs).set v none
theorem wipeE_length (σ : En) : ∀ vs : List Nat, (wipeE σ vs).length = σ.length
  | [] => rfl
  | v :: vs => by unfold wipeE; rw [List.length_set, wipeE_length σ vs]
theorem wipeE_some {σ : En} {i : Nat} {x : U} : ∀ {vs : List Nat}, (wipeE σ vs)[i]? = some (some x) → σ[i]? = some (some x) ∧ i ∉ vs
  | [], h => ⟨h, by simp⟩
  | v :: vs, h => by
    unfold wipeE at h
    by_cases e : v = i
    · subst e
      by_cases hv : v < (wipeE σ vs).length
      · rw [List.getElem?_set_self hv] at h; cases h
      · rw [List.getElem?_eq_none (by simpa using hv)] at h; cases h
    · rw [List.getElem?_set_ne e] at h
      obtain ⟨h1, h2⟩ := wipeE_some h
      exact ⟨h1, by simp only [List.mem_cons, not_or]; exact ⟨fun z => e z.symm, h2⟩⟩
theorem RE.wipe {K : PySem.W.Frag} {H : Hp} {μ : List Addr} {σ' : En} {σ : L2.St} (h : RE K H μ σ' σ) (vs : List Nat) : RE K H μ (wipeE σ' vs) (wipe σ vs) := by
  refine ⟨by rw [wipeE_length, wipe_length, h.1], fun i u q => ?_⟩
  obtain ⟨q1, q2⟩ := wipeE_some q
  obtain ⟨v, h1, h2⟩ := h.2 i u q1
  exact ⟨v, by rw [wipe_out q2]; exact h1, h2⟩
theorem wipe_idem (σ : L2.St) (vs : List Nat) : wipe (wipe σ vs) vs = wipe σ vs := by
  apply List.ext_getElem?
  intro i
  by_cases h : i ∈ vs
  · have key : ∀ (τ : L2.St), (wipe τ vs)[i]? = if i < τ.length then some none else none := by
      intro τ
      induction vs with
      | nil => cases h
      | cons v vs ih =>
        show ((wipe τ vs).set v none)[i]? = _
        by_cases e : v = i
        · subst e
          by_cases hl : v < τ.length
          · rw [if_pos hl, List.getElem?_set_self (by rw [wipe_length]; exact hl)]
          · rw [if_neg hl, List.getElem?_eq_none (by rw [List.length_set, wipe_length]; omega)]
        · rw [List.getElem?_set_ne e]
          have hm : i ∈ vs := by
            rcases List.mem_cons.mp h with z | z
            · exact absurd z.symm e
            · exact z
          exact ih hm
    rw [key, key, wipe_length]
  · rw [wipe_out h]
def pushAcc (a0 : Nat) (u : U) (h : List O) : R Unit := match settle (a0 + 1) u h, h[a0]? with
  | some d, some (.lst acc) => if acc.length < 10000000 then .ok () ((h.take (a0 + 1)).set a0 (.lst (acc ++ [d]))) else .bad
  | _, _ => .bad
def lcGo (S : Src) (t : Tg) (vs : List Nat) (ft : En → List O → R Bool) (fe : En → List O → R U) (a0 : Nat) : Nat → Nat → En → List O → R Unit
  | 0, _, _, _ => .bad
  | k + 1, i, σ, h => match S.at_ i h with
    | none => .bad
    | some none => .ok () h
    | some (some u) => match asg t u (wipeE σ vs) with
      | none => .bad
      | some σ1 => (noErr (ft σ1 h)).bind fun b h1 => if b = true then (noErr (fe σ1 h1)).bind fun y h2 => (pushAcc a0 y h2).bind fun _ h3 => lcGo S t vs ft fe a0 k (i + 1) σ h3 else lcGo S t vs ft fe a0 k (i + 1) σ h1
def lcFin (m : Bool) (a0 : Nat) (h : List O) : R U := match h[a0]? with
  | some (.lst ys) => if m = true then .ok (.lab a0) (h.take (a0 + 1)) else .ok (.d (.list ys)) (h.take a0)
  | _ => .bad
def evLc (m : Bool) (t : Tg) (vs : List Nat) (fi : En → List O → R Src) (ft : En → List O → R Bool) (fe : En → List O → R U) : En → List O → R U := fun σ h =>
  (fi σ h).bind fun S h1 => (lcGo S t vs ft fe h1.length S.top 0 σ (h1 ++ [.lst []])).bind fun _ h2 => lcFin m h1.length h2

def isSetD : Expr → Bool
  | .Set _ _ _ => true
  | _ => false
theorem noFold {e : Expr} {env : Env} (h : isSetD e = false) (x : Value) : foldedSetIterable e env x = pure x := by
  cases e <;> first | rfl | cases h
section
variable {X : Cx} {W : WX}
theorem at_acc {K : PySem.W.Frag} {H H1 : Hp} {μ μ1 : List Addr} {h h1 : List O} {Da : Addr} (e : Ext (μ1 ++ [Da]) H1 μ H) (rh : Rh K H μ h) (hl : h1.length = μ1.length) {ys : List D} (q : h[h1.length]? = some (.lst ys)) :
    μ[h1.length]? = some Da ∧ ∃ vs, H Da = some (.lst vs) ∧ RDs K H μ ys vs := by
  have hm : μ[h1.length]? = some Da := by
    refine e.get ?_
    rw [hl]
    simp
  refine ⟨hm, ?_⟩
  obtain ⟨ho, q1, q2⟩ := rh.obj _ _ _ q hm
  cases q2 with
  | lst r => exact ⟨_, q1, r⟩
theorem lcFin_of {K : PySem.W.Frag} {σ : L2.St} {H H1 H0 : Hp} {μ μ1 : List Addr} {h h1 : List O} {Da : Addr} {m : Bool} {Q : VK} (e0 : Ext μ1 H0 (μ1 ++ [Da]) H1) (e : Ext (μ1 ++ [Da]) H1 μ H) (rh : Rh K H μ h) (hl : h1.length = μ1.length) (p : Post K W σ H0 μ1 (RU K) (lcFin m h1.length h) Q) : Q (.ref Da) H := by
  unfold lcFin at p
  split at p
  · rename_i ys q
    obtain ⟨hm, vs, q1, q2⟩ := at_acc e rh hl q
    cases m with
    | true =>
      rw [if_pos rfl] at p
      refine p H (μ.take (h1.length + 1)) _ ((e0.trans e).cut (by omega)) (rh.cut _) (.lab ?_)
      rw [List.getElem?_take_of_lt (by omega)]
      exact hm
    | false =>
      rw [if_neg Bool.false_ne_true] at p
      exact p H (μ.take h1.length) _ ((e0.trans e).cut (by omega)) (rh.cut _) (.d (.lst q1 (nodup_take rh.nd hm (Nat.le_refl _)) (q2.sub mem_take)))
  · exact p.elim
theorem pushAcc_of {K : PySem.W.Frag} {σ : L2.St} {H H1 Hb : Hp} {μ μ1 μb : List Addr} {h h1 : List O} {Da : Addr} {u : U} {y : V} {f : Unit → List O → R U} {Q2 : VK} {G : Hp → Prop} (e : Ext (μ1 ++ [Da]) H1 μ H) (rh : Rh K H μ h) (hl : h1.length = μ1.length) (ru : RU K H μ u y)
    (p : Post K W σ Hb μb (RU K) ((pushAcc h1.length u h).bind f) Q2)
    (k : ∀ acc h', H Da = some (.lst acc) → acc.length < sizeLine → Ext (μ1 ++ [Da]) H1 (μ.take (h1.length + 1)) (upd H Da (.lst (acc ++ [y]))) → Rh K (upd H Da (.lst (acc ++ [y]))) (μ.take (h1.length + 1)) h' → h1.length < h'.length → Post K W σ Hb μb (RU K) (f () h') Q2 → G (upd H Da (.lst (acc ++ [y])))) :
    ∃ acc, H Da = some (.lst acc) ∧ acc.length < sizeLine ∧ G (upd H Da (.lst (acc ++ [y]))) := by
  unfold pushAcc at p
  split at p
  · rename_i d acc ed q
    split at p
    · rename_i hsz
      obtain ⟨hm, vs, q1, q2⟩ := at_acc e rh hl q
      have hz : vs.length < sizeLine := by rw [← q2.length, line_eq]; omega
      have rd := settle_ok rh ru ed
      have hmt : (μ.take (h1.length + 1))[h1.length]? = some Da := by rw [List.getElem?_take_of_lt (by omega)]; exact hm
      have hlt : h1.length < h.length := (List.getElem?_eq_some_iff.mp q).1
      refine ⟨vs, q1, hz, k vs _ q1 hz ?_ ((rh.cut _).chg hmt (.lst ((q2.sub mem_take).append (.cons rd .nil)))) (by rw [List.length_set, List.length_take]; omega) p⟩
      have ec : Ext (μ1 ++ [Da]) H1 (μ.take (h1.length + 1)) H := e.cut (by simp [hl])
      exact ec.trans (Ext.chg hmt q1)
    · exact p.elim
  · exact p.elim
theorem lc_body {m : Bool} {t : Tg} {wi : TI} {fi : En → List O → R Src} {ft : En → List O → R Bool} {fe : En → List O → R U} {own : List (Str × Nat)} (ci : ∀ σ' h σ H μ Rr, RE X.K H μ σ' σ → Rh X.K H μ h → Post X.K W σ H μ (SrR X.K) (fi σ' h) Rr → wi σ H Rr) (hsl : ∀ i ∈ t.slots, i ∈ own.map (·.2)) :
    ∀ σ' h σ H μ Q, RE X.K H μ σ' σ → Rh X.K H μ h → Post X.K W σ H μ (RU X.K) (evLc m t (own.map (·.2)) fi ft fe σ' h) Q → tLc wi (tG X.K t) (tT X.K W0 ft) (tE X.K W0 fe) (own.map (·.2)) σ H Q := by
  intro σ' h σ H μ Q re rh p
  refine ci σ' h σ H μ _ re rh (Post.bind p fun S h1 H1 μ1 J e1 rh1 sr p1 => ?_)
  intro Da hD
  have e0 : Ext μ1 H1 (μ1 ++ [Da]) (upd H1 Da (.lst [])) := Ext.lab hD
  have hl := rh1.len
  refine ⟨fun i k Hx => ∃ μ' h', Ext (μ1 ++ [Da]) (upd H1 Da (.lst [])) μ' Hx ∧ Rh X.K Hx μ' h' ∧
      Post X.K W σ H1 μ1 (RU X.K) ((lcGo S t (own.map (·.2)) ft fe h1.length k i σ' h').bind fun _ h2 => lcFin m h1.length h2) Q,
    ⟨S.top, μ1 ++ [Da], h1 ++ [.lst []], Ext.refl, rh1.lab hD (.lst .nil), p1⟩, ?_⟩
  rintro i k Hx ⟨μ', h', ex, rhx, px⟩
  cases k with
  | zero => exact px.elim
  | succ k =>
    unfold lcGo at px
    obtain ⟨sr1, sr2⟩ := sr Hx μ' h' (e0.trans ex) rhx i
    cases hat : S.at_ i h' with
    | none => simp only [hat] at px; exact px.elim
    | some o =>
      cases o with
      | none =>
        simp only [hat] at px
        exact .inl ⟨sr1 hat, lcFin_of e0 ex rhx hl px⟩
      | some u =>
        simp only [hat] at px
        obtain ⟨go, yl⟩ := sr2 u hat
        refine .inr ⟨go, fun Hz => ∃ μ' h', Ext (μ1 ++ [Da]) (upd H1 Da (.lst [])) μ' Hz ∧ Rh X.K Hz μ' h' ∧
          Post X.K W σ H1 μ1 (RU X.K) ((lcGo S t (own.map (·.2)) ft fe h1.length k (i + 1) σ' h').bind fun _ h2 => lcFin m h1.length h2) Q, fun Hz z => ⟨k, Nat.lt_succ_self k, z⟩, fun x Hy y => ?_⟩
        obtain ⟨ey, rhy, ruy⟩ := yl x Hy y
        cases ea : asg t u (wipeE σ' (own.map (·.2))) with
        | none => simp only [ea] at px; exact px.elim
        | some σ1' =>
          simp only [ea] at px
          have re' : RE X.K Hy μ' σ' σ := ((re.ext e1).ext (e0.trans ex)).ext ey
          refine ⟨u, wipeE σ' (own.map (·.2)), σ1', μ', re'.wipe _, ruy, ea, fun σ1 re1 k1 => ⟨?_, σ1', h', μ', re1, rhy, ?_⟩⟩
          · rw [k1 _ hsl, wipe_idem]
          · have px2 : Post X.K W σ H1 μ1 (RU X.K) ((noErr (ft σ1' h')).bind fun b h1' => (if b = true then (noErr (fe σ1' h1')).bind fun y h2 => (pushAcc h1.length y h2).bind fun _ h3 => lcGo S t (own.map (·.2)) ft fe h1.length k (i + 1) σ' h3 else lcGo S t (own.map (·.2)) ft fe h1.length k (i + 1) σ' h1').bind fun _ h2 => lcFin m h1.length h2) Q := by
              cases hft : ft σ1' h' with
              | ok b h1' => rw [hft] at px; exact px
              | err c h1' => rw [hft] at px; exact px
              | bad => rw [hft] at px; exact px
            refine Post.inner px2 fun b h3 H3 μ3 b' e3 rh3 rb p3 => ?_
            cases rb
            have ex3 := (ex.trans ey).trans e3
            cases b with
            | false =>
              rw [if_neg Bool.false_ne_true] at p3 ⊢
              exact ⟨μ3, h3, ex3, rh3, p3⟩
            | true =>
              rw [if_pos rfl] at p3 ⊢
              refine ⟨σ1', h3, μ3, re1.ext e3, rh3, ?_⟩
              have p4 : Post X.K W σ H1 μ1 (RU X.K) ((noErr (fe σ1' h3)).bind fun y h2 => (pushAcc h1.length y h2).bind fun _ h3 => (lcGo S t (own.map (·.2)) ft fe h1.length k (i + 1) σ' h3).bind fun _ h2 => lcFin m h1.length h2) Q := by
                cases hfe : fe σ1' h3 with
                | ok b h1' =>
                  rw [hfe] at p3
                  have p3' : Post X.K W σ H1 μ1 (RU X.K) (((pushAcc h1.length b h1').bind fun _ h3 => lcGo S t (own.map (·.2)) ft fe h1.length k (i + 1) σ' h3).bind fun _ h2 => lcFin m h1.length h2) Q := p3
                  show Post X.K W σ H1 μ1 (RU X.K) ((pushAcc h1.length b h1').bind fun _ h3 => (lcGo S t (own.map (·.2)) ft fe h1.length k (i + 1) σ' h3).bind fun _ h2 => lcFin m h1.length h2) Q
                  cases hpa : pushAcc h1.length b h1' with
                  | ok b h1' => rw [hpa] at p3'; exact p3'
                  | err c h1' => rw [hpa] at p3'; exact p3'
                  | bad => rw [hpa] at p3'; exact p3'
                | err c h1' => rw [hfe] at p3; exact p3
                | bad => rw [hfe] at p3; exact p3
              refine Post.inner p4 fun y h5 H5 μ5 yv e5 rh5 ry p5 => ?_
              exact pushAcc_of (G := fun Hz => ∃ μ' h', Ext (μ1 ++ [Da]) (upd H1 Da (.lst [])) μ' Hz ∧ Rh X.K Hz μ' h' ∧
                Post X.K W σ H1 μ1 (RU X.K) ((lcGo S t (own.map (·.2)) ft fe h1.length k (i + 1) σ' h').bind fun _ h2 => lcFin m h1.length h2) Q) (ex3.trans e5) rh5 hl ry p5 fun acc h6 q1 q2 e6 rh6 _ p6 => ⟨_, h6, e6, rh6, p6⟩
theorem den_lc {m : Bool} {elt tg iter : Expr} {ifs : List Expr} {scope : Scope} {own : List (Str × Nat)} {pos : Pos} {t : Tg} {vs : List Nat} {fi : En → List O → R Src} {ft : En → List O → R Bool} {fe : En → List O → R U} (hc : X.calm = true) (hN : X.N.Nodup) (hi : DenI X W tg iter fi) (ok : BlkOk X.N X.env.scope scope own)
    (hg : ∀ (s : Shared) (H : Hp) (C : Addr) (cl : List (Str × Addr)) (fp : List Addr), DenG (X.blk s H scope (compEnvC scope cl C X.env) fp) tg t)
    (ht : ∀ (s : Shared) (H : Hp) (C : Addr) (cl : List (Str × Addr)) (fp : List Addr), DenTs (X.blk s H scope (compEnvC scope cl C X.env) fp) W0 ifs ft)
    (he : ∀ (s : Shared) (H : Hp) (C : Addr) (cl : List (Str × Addr)) (fp : List Addr), Den (X.blk s H scope (compEnvC scope cl C X.env) fp) W0 elt fe)
    (hv : own.map (·.2) = vs) (hsl : ∀ i ∈ t.slots, i ∈ vs) (hs : isSetD iter = false) : Den X W (.ListComp elt [⟨tg, iter, ifs, 0⟩] scope pos) (evLc m t vs fi ft fe) := by
  obtain ⟨wi, pi, ci⟩ := hi
  subst hv
  exact ⟨_, pe_lc (g := tG X.K t) (tt := tT X.K W0 ft) (te := tE X.K W0 fe) hc hN pi ok (fun s H C cl fp => (hg s H C cl fp).pg) ht (fun s H C cl fp => (he s H C cl fp).pe) (noFold hs), lc_body ci hsl⟩
end
end Py

/-! statements -/
namespace Py
open PySem PySem.Spec PyProof.Rows L2
/-- how a statement ends -/
inductive Fl where
  | nx (σ : En) (h : List O) | ret (u : U) (h : List O) | bk (σ : En) (h : List O) | ct (σ : En) (h : List O) | er (c : Str) (σ : En) (h : List O) | bad
def R.stm {α : Type} (r : R α) (σ : En) (f : α → List O → Fl) : Fl := match r with
  | .ok a h => f a h
  | .err c h => .er c σ h
  | .bad => .bad
@[simp] theorem R.stm_ok {α : Type} (a : α) (h : List O) (σ : En) (f : α → List O → Fl) : (R.ok a h).stm σ f = f a h := rfl
@[simp] theorem R.stm_err {α : Type} (c : Str) (h : List O) (σ : En) (f : α → List O → Fl) : (R.err c h : R α).stm σ f = .er c σ h := rfl
@[simp] theorem R.stm_bad {α : Type} (σ : En) (f : α → List O → Fl) : (R.bad : R α).stm σ f = .bad := rfl
def PostS (K : PySem.W.Frag) (W : WX) (H : Hp) (μ : List Addr) (r : Fl) (D : Ends) : Prop := match r with
  | .nx σ' h' => ∀ σ H' μ', Ext μ H μ' H' → Rh K H' μ' h' → RE K H' μ' σ' σ → D.nx σ H'
  | .bk σ' h' => ∀ σ H' μ', Ext μ H μ' H' → Rh K H' μ' h' → RE K H' μ' σ' σ → D.bk σ H'
  | .ct σ' h' => ∀ σ H' μ', Ext μ H μ' H' → Rh K H' μ' h' → RE K H' μ' σ' σ → D.ct σ H'
  | .ret u h' => ∀ v H' μ', Ext μ H μ' H' → Rh K H' μ' h' → RU K H' μ' u v → D.rt v H'
  | .er c σ' h' => ∀ σ H' μ', Ext μ H μ' H' → Rh K H' μ' h' → RE K H' μ' σ' σ → W (.ref (He.ga K c)) none σ H'
  | .bad => False
section
variable {K : PySem.W.Frag} {W : WX} {σ : L2.St} {σ' : En} {H H' : Hp} {μ μ' : List Addr} {r : Fl} {D : Ends}
theorem PostS.at (p : PostS K W H μ r D) (e : Ext μ H μ' H') : PostS K W H' μ' r D := by
  cases r with
  | nx s h => exact fun σ H2 μ2 e2 => p σ H2 μ2 (e.trans e2)
  | bk s h => exact fun σ H2 μ2 e2 => p σ H2 μ2 (e.trans e2)
  | ct s h => exact fun σ H2 μ2 e2 => p σ H2 μ2 (e.trans e2)
  | ret u h => exact fun σ H2 μ2 e2 => p σ H2 μ2 (e.trans e2)
  | er c s h => exact fun σ H2 μ2 e2 => p σ H2 μ2 (e.trans e2)
  | bad => exact p
theorem PostS.nx {h : List O} (p : PostS K W H μ (.nx σ' h) D) (rh : Rh K H μ h) (re : RE K H μ σ' σ) : D.nx σ H := p σ H μ Ext.refl rh re
theorem PostS.stm {α β : Type} {Rel : Hp → List Addr → α → β → Prop} {x : R α} {f : α → List O → Fl} {Q : β → Hp → Prop} (re : RE K H μ σ' σ) (p : PostS K W H μ (x.stm σ' f) D)
    (k : ∀ a h' H' μ' b, Ext μ H μ' H' → Rh K H' μ' h' → Rel H' μ' a b → PostS K W H' μ' (f a h') D → Q b H') : Post K W σ H μ Rel x Q := by
  cases x with
  | ok a h => exact fun H' μ' b e rh rel => k a h H' μ' b e rh rel (PostS.at p e)
  | err c h => exact fun H' μ' e rh => p σ H' μ' e rh (re.ext e)
  | bad => exact p
end
def tS (K : PySem.W.Frag) (W : WX) (f : En → List O → Fl) : TS := fun D σ H => ∃ σ' h μ, RE K H μ σ' σ ∧ Rh K H μ h ∧ PostS K W H μ (f σ' h) D
def DenS (X : Cx) (W : WX) (st : Stmt) (f : En → List O → Fl) : Prop := PS X st (tS X.K W f)
def DenB (X : Cx) (W : WX) (st : List Stmt) (f : En → List O → Fl) : Prop := PSs X st (tS X.K W f)
theorem dens_of {X : Cx} {W : WX} {st : Stmt} {f : En → List O → Fl} {t : TS} (p : PS X st t) (c : ∀ σ' h σ H μ D, RE X.K H μ σ' σ → Rh X.K H μ h → PostS X.K W H μ (f σ' h) D → t D σ H) : DenS X W st f :=
  ⟨fun pins s σ H D I ⟨σ', h, μ, re, rh, q⟩ => p.run pins s σ H D I (c σ' h σ H μ D re rh q)⟩
section
variable {X : Cx} {W : WX}
def sNx : En → List O → Fl := fun σ h => .nx σ h
theorem denb_nil : DenB X W [] sNx := ⟨fun pins s σ H D I ⟨σ', h, μ, re, rh, q⟩ => pss_nil.run pins s σ H D I (q.nx rh re)⟩
def sSeq (f g : En → List O → Fl) : En → List O → Fl := fun σ h => match f σ h with
  | .nx σ h => g σ h
  | r => r
theorem denb_cons {st : Stmt} {rest : List Stmt} {f g : En → List O → Fl} (h1 : DenS X W st f) (h2 : DenB X W rest g) : DenB X W (st :: rest) (sSeq f g) := by
  refine ⟨fun pins s σ H D I ⟨σ', h, μ, re, rh, q⟩ => (pss_cons h1 h2).run pins s σ H D I ⟨σ', h, μ, re, rh, ?_⟩⟩
  unfold sSeq at q
  cases hf : f σ' h with
  | nx s1 h1 => simp only [hf] at q; exact fun σ H2 μ2 e rh2 re2 => ⟨s1, h1, μ2, re2, rh2, q.at e⟩
  | bk s1 h1 => simp only [hf] at q; exact q
  | ct s1 h1 => simp only [hf] at q; exact q
  | ret s1 h1 => simp only [hf] at q; exact q
  | er c s1 h1 => simp only [hf] at q; exact q
  | bad => simp only [hf] at q; exact q
theorem denb_one {st : Stmt} {f : En → List O → Fl} (h1 : DenS X W st f) : DenB X W [st] f := pss_one h1
theorem dens_pass {pos : Pos} : DenS X W (.Pass pos) sNx := dens_of ps_pass fun σ' h σ H μ D re rh p => p.nx rh re
def sBk : En → List O → Fl := fun σ h => .bk σ h
def sCt : En → List O → Fl := fun σ h => .ct σ h
theorem dens_break {pos : Pos} : DenS X W (.Break pos) sBk := dens_of ps_break fun σ' h σ H μ D re rh p => p σ H μ Ext.refl rh re
theorem dens_cont {pos : Pos} : DenS X W (.Continue pos) sCt := dens_of ps_continue fun σ' h σ H μ D re rh p => p σ H μ Ext.refl rh re
def isCmp : Expr → Bool
  | .ListComp _ _ _ _ => true
  | .SetComp _ _ _ _ => true
  | .DictComp _ _ _ _ _ => true
  | _ => false
theorem noSwap {e : Expr} {tg : Option Expr} {l : Nat} {env : Env} (h : isCmp e = false) : swapsWith e tg l env = pure false := by
  cases e <;> first | rfl | cases h
theorem noSwap1 {e tg : Expr} {l : Nat} {env : Env} (h : isCmp e = false) : swapsWithSole [tg] e l env = pure false := by
  unfold swapsWithSole
  exact noSwap h
def sDrop (f : En → List O → R U) : En → List O → Fl := fun σ h => (f σ h).stm σ fun _ h => .nx σ h
theorem dens_expr {e : Expr} {pos : Pos} {f : En → List O → R U} (hf : Den X W e f) (hs : isCmp e = false) : DenS X W (.Expr e pos) (sDrop f) := by
  obtain ⟨t, p, c⟩ := hf
  refine dens_of (ps_expr p (noSwap hs)) fun σ' h σ H μ D re rh p => ?_
  exact c σ' h σ H μ _ re rh (PostS.stm re p fun a h1 H1 μ1 b e1 rh1 rel p1 => p1.nx rh1 (re.ext e1))
def sRet (f : En → List O → R U) : En → List O → Fl := fun σ h => (f σ h).stm σ fun u h => .ret u h
theorem dens_ret {e : Expr} {pos : Pos} {f : En → List O → R U} (hf : Den X W e f) : DenS X W (.Return (some e) pos) (sRet f) := by
  obtain ⟨t, p, c⟩ := hf
  refine dens_of (ps_ret p) fun σ' h σ H μ D re rh p => ?_
  exact c σ' h σ H μ _ re rh (PostS.stm re p fun a h1 H1 μ1 b e1 rh1 rel p1 => p1 b H1 μ1 Ext.refl rh1 rel)
def sRetN : En → List O → Fl := fun σ h => .ret (.d .none) h
theorem dens_retN {pos : Pos} : DenS X W (.Return none pos) sRetN := dens_of ps_retN fun σ' h σ H μ D re rh p => p .non H μ Ext.refl rh (.d .non)
/-! ### assignment -/
def sAsg (f : En → List O → R U) (t : Tg) : En → List O → Fl := fun σ h => (f σ h).stm σ fun u h => match asg t u σ with
  | some σ1 => .nx σ1 h
  | none => .bad
theorem asg_of {t : Tg} {u : U} {x : V} {g : TG} {σ' : En} {h : List O} {σ : L2.St} {H : Hp} {μ : List Addr} {D : Ends} {tg : Expr} (hg : DenG X tg t) (re : RE X.K H μ σ' σ) (rh : Rh X.K H μ h) (ru : RU X.K H μ u x)
    (p : PostS X.K W H μ (match asg t u σ' with | some σ1 => Fl.nx σ1 h | none => .bad) D) : tG X.K t x σ H D.nx := by
  cases e : asg t u σ' with
  | none => simp only [e] at p; exact p.elim
  | some σ1' =>
    simp only [e] at p
    exact ⟨u, σ', σ1', μ, re, ru, e, fun σ1 re1 _ => p.nx rh re1⟩
theorem dens_set {i : Nat} {x : Str} {e : Expr} {pos pos' : Pos} {f : En → List O → R U} (hN : X.N.Nodup) (hi : X.N[i]? = some x) (hx : Loc X.env.scope x) (hf : X.fn x = true ∨ X.env.scope.names.lookup x = some .local) (he : Den X W e f)
    (hs : swapsWith e (some (.Name x pos')) pos.line X.env = pure false) : DenS X W (.Assign [.Name x pos'] e pos) (sAsg f (.nm i)) := by
  obtain ⟨t, p, c⟩ := he
  refine dens_of (ps_set hN hi hx p hs hf) fun σ' h σ H μ D re rh p => ?_
  exact c σ' h σ H μ _ re rh (PostS.stm re p fun a h1 H1 μ1 b e1 rh1 rel p1 => p1.nx rh1 ((re.ext e1).set rel))
/-- a target that is a tuple, a value that is taken apart -/
theorem dens_tup {tg e : Expr} {pos : Pos} {t : Tg} {f : En → List O → R U} (hg : DenG X tg t) (he : Den X W e f) (hs : swapsWithSole [tg] e pos.line X.env = pure false) (hw : swappedStores [tg] e X.env = pure none) (hst : isStar tg = false) :
    DenS X W (.Assign [tg] e pos) (sAsg f t) := by
  obtain ⟨te, p, c⟩ := he
  refine dens_of (ps_asg p hg.pg hs hw (by rw [assignEach_cons hst]; rfl)) fun σ' h σ H μ D re rh p => ?_
  exact c σ' h σ H μ _ re rh (PostS.stm re p fun a h1 H1 μ1 b e1 rh1 rel p1 => asg_of (g := tG X.K t) hg (re.ext e1) rh1 rel p1)
def sPar2 (i j : Nat) (f : En → List O → R (List U)) : En → List O → Fl := fun σ h => (f σ h).stm σ fun us h => match us with
  | [u, v] => .nx ((σ.set i (some u)).set j (some v)) h
  | _ => .bad
theorem dens_par2 {i j : Nat} {x y : Str} {a b : Expr} {px py pt pos : Pos} {kt k2 pt2} {f : En → List O → R (List U)} (hc : X.calm = true) (hN : X.N.Nodup) (hi : X.N[i]? = some x) (hj : X.N[j]? = some y) (hij : i ≠ j)
    (hx : X.env.scope.names.lookup x = some .local) (hy : X.env.scope.names.lookup y = some .local) (ha : DenA X W [a, b] f)
    (hw : swappedStores [.Tuple [.Name x px, .Name y py] kt pt] (.Tuple [a, b] k2 pt2) X.env = pure (some [x, y])) :
    DenS X W (.Assign [.Tuple [.Name x px, .Name y py] kt pt] (.Tuple [a, b] k2 pt2) pos) (sPar2 i j f) := by
  obtain ⟨ta, pa, ca⟩ := ha
  refine dens_of (ps_par hc hN hi hj hij hx hy pa hw) fun σ' h σ H μ D re rh p => ?_
  refine ca σ' h σ H μ _ re rh (PostS.stm re p fun us h1 H1 μ1 xs e1 rh1 ru p1 => ?_)
  split at p1
  · cases ru with
    | cons r1 r2 => cases r2 with
      | cons r2 r3 =>
        cases r3
        exact ⟨_, _, rfl, p1.nx rh1 (((re.ext e1).set r1).set r2)⟩
  · exact p1.elim
def sPar3 (i j k : Nat) (f : En → List O → R (List U)) : En → List O → Fl := fun σ h => (f σ h).stm σ fun us h => match us with
  | [u, v, w] => .nx (((σ.set i (some u)).set j (some v)).set k (some w)) h
  | _ => .bad

theorem dens_par3 {i j k : Nat} {x y z : Str} {a b c : Expr} {px py pz pt pos : Pos} {kt k2 pt2} {f : En → List O → R (List U)} (hc : X.calm = true) (hN : X.N.Nodup) (hi : X.N[i]? = some x) (hj : X.N[j]? = some y) (hk : X.N[k]? = some z) (hij : i ≠ j) (hik : i ≠ k) (hjk : j ≠ k)
    (hx : X.env.scope.names.lookup x = some .local) (hy : X.env.scope.names.lookup y = some .local) (hz : X.env.scope.names.lookup z = some .local) (ha : DenA X W [a, b, c] f)
    (hw : swappedStores [.Tuple [.Name x px, .Name y py, .Name z pz] kt pt] (.Tuple [a, b, c] k2 pt2) X.env = pure (some [x, y, z])) :
    DenS X W (.Assign [.Tuple [.Name x px, .Name y py, .Name z pz] kt pt] (.Tuple [a, b, c] k2 pt2) pos) (sPar3 i j k f) := by
  obtain ⟨ta, pa, ca⟩ := ha
  refine dens_of (ps_par3 hc hN hi hj hk hij hik hjk hx hy hz pa hw) fun σ' h σ H μ D re rh p => ?_
  refine ca σ' h σ H μ _ re rh (PostS.stm re p fun us h1 H1 μ1 xs e1 rh1 ru p1 => ?_)
  split at p1
  · cases ru with
    | cons r1 r2 => cases r2 with
      | cons r2 r3 => cases r3 with
        | cons r3 r4 =>
          cases r4
          exact ⟨_, _, _, rfl, p1.nx rh1 ((((re.ext e1).set r1).set r2).set r3)⟩
  · exact p1.elim
/-- o[i] = v -/
def putK' (kvs : List (Key × D)) (k : Key) (d : D) : List (Key × D) :=
  if (kvs.any fun kv => decide (kv.1 = k)) = true then kvs.map (fun kv => if kv.1 = k then (kv.1, d) else kv) else kvs ++ [(k, d)]
def setU (o i v : U) (h : List O) : Option (List O) := match o with
  | .lab n => match h[n]? with
    | some (.lst xs) => match i, v with
      | .d (.int k), .d d => (ixN xs.length k).map fun j => h.set n (.lst (xs.set j d))
      | _, _ => none
    | some (.dct kvs) => match i, v with
      | .d x, .d d => (keyOf x).bind fun k => if kvs.length < 10000000 then some (h.set n (.dct (putK' kvs k d))) else none
      | _, _ => none
    | some (.mix xs) => match i with
      | .d (.int k) => if v.below n then (ixN xs.length k).map fun j => h.set n (.mix (xs.set j v)) else none
      | _ => none
    | _ => none
  | _ => none
def rSetA : V → V → V → Hp → (Hp → Prop) → Prop := fun o i v H Q => rSetL o i v H Q ∨ ∃ a H', o = .ref a ∧ DPut H a i v H' ∧ Q H'
theorem set_any (hu : X.A.units + 64 < cLine) : PSet X rSetA := by
  intro pins s σ H o i v ov iv u Q I ro ri rv h
  rcases h with h | ⟨a, H', rfl, g, q⟩
  · exact set_list pins s σ H o i v ov iv u Q I ro ri rv h
  · cases ro
    exact d_setItem (by omega) I g ri rv fun s' I' => ⟨H', I', q⟩
def sSub (f fo fi : En → List O → R U) : En → List O → Fl := fun σ h => (f σ h).stm σ fun v h => (fo σ h).stm σ fun o h => (fi σ h).stm σ fun i h => match setU o i v h with
  | some h' => .nx σ h'
  | none => .bad
theorem RKs.length' {K : PySem.W.Frag} {H : Hp} {μ : List Addr} {kvs : List (Key × D)} {vs : List (Key × V)} (r : RKs K H μ kvs vs) : kvs.length = vs.length := Paired.length r
theorem RKs.any {K : PySem.W.Frag} {H : Hp} {μ : List Addr} {kvs : List (Key × D)} {vs : List (Key × V)} (r : RKs K H μ kvs vs) (k : Key) : (kvs.any fun kv => decide (kv.1 = k)) = vs.any fun kv => decide (kv.1 = k) := by
  unfold RKs at r
  induction r with
  | nil => rfl
  | cons h t ih => rw [List.any_cons, List.any_cons, ih, h.1]
theorem RKs.repl {K : PySem.W.Frag} {H : Hp} {μ : List Addr} {kvs : List (Key × D)} {vs : List (Key × V)} (r : RKs K H μ kvs vs) (k : Key) {d : D} {v : V} (rd : RD K H μ d v) :
    RKs K H μ (kvs.map fun kv => if kv.1 = k then (kv.1, d) else kv) (vs.map fun kv => if kv.1 = k then (kv.1, v) else kv) := by
  unfold RKs at r ⊢
  induction r with
  | nil => exact .nil
  | @cons p q ps qs h t ih =>
    rw [List.map_cons, List.map_cons]
    refine .cons ?_ ih
    by_cases e : p.1 = k
    · rw [if_pos e, if_pos (h.1.symm.trans e)]; exact ⟨h.1, rd⟩
    · rw [if_neg e, if_neg (fun z => e (h.1.trans z))]; exact h
theorem putK_rel {K : PySem.W.Frag} {H : Hp} {μ : List Addr} {kvs : List (Key × D)} {vs : List (Key × V)} (r : RKs K H μ kvs vs) (k : Key) {d : D} {v : V} (rd : RD K H μ d v) : RKs K H μ (putK' kvs k d) (putK vs k v) := by
  unfold putK' putK
  rw [r.any k]
  by_cases e : (vs.any fun kv => decide (kv.1 = k)) = true
  · rw [if_pos e, if_pos e]; exact r.repl k rd
  · rw [if_neg e, if_neg e]; exact Paired.snoc r ⟨rfl, rd⟩
theorem RDs.set' {K : PySem.W.Frag} {H : Hp} {μ : List Addr} {ds : List D} {vs : List V} {j : Nat} {d : D} {v : V} (r : RDs K H μ ds vs) (h : RD K H μ d v) : RDs K H μ (ds.set j d) (vs.set j v) := r.set h j
theorem dens_sub {o i e : Expr} {pos pos' : Pos} {f fo fi : En → List O → R U} (he : Den X W e f) (ho : Den X W o fo) (hi : Den X W i fi) (hs : isCmp e = false) (hsl : isSl i = false) (hu : X.A.units + 64 < cLine) : DenS X W (.Assign [.Subscript o i pos'] e pos) (sSub f fo fi) := by
  obtain ⟨te, pe, ce⟩ := he
  obtain ⟨to, po, co⟩ := ho
  obtain ⟨ti, pi, ci⟩ := hi
  refine dens_of (ps_asg pe (pg_sub po pi (set_any hu) (by intro v; cases i <;> first | rfl | cases hsl)) (noSwap1 hs) (by rfl) (by rfl)) fun σ' h σ H μ D re rh p => ?_
  refine ce σ' h σ H μ _ re rh (PostS.stm re p fun v h1 H1 μ1 vv e1 rh1 rv p1 => ?_)
  refine co σ' h1 σ H1 μ1 _ (re.ext e1) rh1 (PostS.stm (re.ext e1) p1 fun u h2 H2 μ2 uu e2 rh2 ru p2 => ?_)
  refine ci σ' h2 σ H2 μ2 _ (re.ext (e1.trans e2)) rh2 (PostS.stm (re.ext (e1.trans e2)) p2 fun w h3 H3 μ3 ww e3 rh3 rw p3 => ?_)
  have re3 := re.ext (e1.trans (e2.trans e3))
  have rv3 := rv.ext (e2.trans e3)
  have ru3 := ru.ext e3
  unfold setU at p3
  cases ru3 with
  | @lab n a ra =>
    dsimp only at p3
    cases q : h3[n]? with
    | none => simp only [q] at p3; exact p3.elim
    | some ob =>
      cases ob with
      | hold us => simp only [q] at p3; exact p3.elim
      | mix xs =>
        simp only [q] at p3
        split at p3
        · rename_i hh z
          split at z
          · rename_i k
            cases rw.int_inv
            by_cases hb : v.below n
            · rw [if_pos hb] at z
              cases hj : ixN xs.length k with
              | none => rw [hj] at z; cases z
              | some j =>
                rw [hj] at z
                cases z
                obtain ⟨hob, q1, q2⟩ := rh3.obj n _ a q ra
                cases q2 with
                | @mix _ vs r b =>
                  exact .inl ⟨a, vs, k, j, rfl, rfl, q1, by rw [← r.length]; exact hj, p3 σ _ _ (Ext.chg ra q1) (rh3.chg ra (.mix (r.set rv3 j) fun y hy => (List.mem_or_eq_of_mem_set hy).elim (b y) fun e => e ▸ hb)) (re3.ext (Ext.chg ra q1))⟩
            · rw [if_neg hb] at z; cases z
          · cases z
        · exact p3.elim
      | dct us =>
        simp only [q] at p3
        split at p3
        · rename_i hh z
          split at z
          · rename_i dx dd
            cases rw with
            | d rx =>
              cases rv3 with
              | d rd =>
                cases e2 : keyOf dx with
                | none => rw [e2] at z; cases z
                | some k =>
                  rw [e2] at z
                  have z' : (if us.length < 10000000 then some (h3.set n (.dct (putK' us k dd))) else none) = some hh := z
                  by_cases hl : us.length < 10000000
                  · rw [if_pos hl] at z'
                    cases z'
                    obtain ⟨hob, q1, q2⟩ := rh3.obj n _ a q ra
                    cases q2 with
                    | @dct _ vs r =>
                      have := keyOf_of rx e2
                      subst this
                      exact .inr ⟨a, _, rfl, DPut.k q1 (by rw [← r.length', line_eq]; omega), p3 σ _ _ (Ext.chg ra q1) (rh3.chg ra (.dct (putK_rel r k rd))) (re3.ext (Ext.chg ra q1))⟩
                  · rw [if_neg hl] at z'; cases z'
          · cases z
        · exact p3.elim
      | lst xs =>
        simp only [q] at p3
        split at p3
        · rename_i hh z
          split at z
          · rename_i k d
            cases rw.int_inv
            cases hj : ixN xs.length k with
            | none => rw [hj] at z; cases z
            | some j =>
              rw [hj] at z
              cases z
              obtain ⟨hob, q1, q2⟩ := rh3.obj n _ a q ra
              cases q2 with
              | @lst _ vs r =>
                cases rv3 with
                | d rd => exact .inl ⟨a, vs, k, j, rfl, rfl, q1, by rw [← r.length]; exact hj, p3 σ _ _ (Ext.chg ra q1) (rh3.chg ra (.lst (r.set rd j))) (re3.ext (Ext.chg ra q1))⟩
          · cases z
        · exact p3.elim
  | _ => exact p3.elim
/-! ### if, while, for -/
def sIf (c : En → List O → R Bool) (f g : En → List O → Fl) : En → List O → Fl := fun σ h => (c σ h).stm σ fun b h => if b = true then f σ h else g σ h
theorem dens_if {c : Expr} {a b : List Stmt} {pos : Pos} {fc : En → List O → R Bool} {f g : En → List O → Fl} (hc : DenT X W c fc) (ha : DenB X W a f) (hb : DenB X W b g) : DenS X W (.If c a b pos) (sIf fc f g) := by
  obtain ⟨tc, pc, cc⟩ := hc
  refine dens_of (ps_if pc ha hb) fun σ' h σ H μ D re rh p => ?_
  refine cc σ' h σ H μ _ re rh (PostS.stm re p fun k h1 H1 μ1 k' e1 rh1 rk p1 => ?_)
  cases rk
  cases k with
  | true => rw [if_pos rfl] at p1 ⊢; exact ⟨σ', h1, μ1, re.ext e1, rh1, p1⟩
  | false => rw [if_neg Bool.false_ne_true] at p1 ⊢; exact ⟨σ', h1, μ1, re.ext e1, rh1, p1⟩
def whGo (c : En → List O → R Bool) (f : En → List O → Fl) : Nat → En → List O → Fl
  | 0, _, _ => .bad
  | k + 1, σ, h => (c σ h).stm σ fun b h => if b = true then (match f σ h with
    | .nx σ h => whGo c f k σ h
    | .ct σ h => whGo c f k σ h
    | .bk σ h => .nx σ h
    | r => r) else .nx σ h
theorem dens_while {c : Expr} {body : List Stmt} {pos : Pos} {fc : En → List O → R Bool} {f : En → List O → Fl} (F : Nat) (hp : PassesOwn (model X.prog X.w) X.A X.env X.xe) (hc : DenT X W c fc) (hb : DenB X W body f) : DenS X W (.While c body [] pos) (whGo fc f F) := by
  obtain ⟨tc, pc, cc⟩ := hc
  refine dens_of (ps_while hp pc hb) fun σ' h σ H μ D re rh p => ?_
  refine ⟨fun m σ H => ∃ σ' h μ, RE X.K H μ σ' σ ∧ Rh X.K H μ h ∧ PostS X.K W H μ (whGo fc f m σ' h) D, ⟨F, σ', h, μ, re, rh, p⟩, ?_⟩
  rintro m σ H ⟨σ', h, μ, re, rh, p⟩
  cases m with
  | zero => exact p.elim
  | succ m =>
    unfold whGo at p
    refine cc σ' h σ H μ _ re rh (PostS.stm re p fun k h1 H1 μ1 k' e1 rh1 rk p1 => ?_)
    cases rk
    cases k with
    | false => rw [if_neg Bool.false_ne_true] at p1 ⊢; exact p1.nx rh1 (re.ext e1)
    | true =>
      rw [if_pos rfl] at p1 ⊢
      refine ⟨fun σ H => ∃ σ' h μ, RE X.K H μ σ' σ ∧ Rh X.K H μ h ∧ PostS X.K W H μ (whGo fc f m σ' h) D, fun σ' H' z => ⟨m, Nat.lt_succ_self m, z⟩, σ', h1, μ1, re.ext e1, rh1, ?_⟩
      cases hf : f σ' h1 with
      | nx s h2 => simp only [hf] at p1; exact fun σ3 H3 μ3 e3 rh3 re3 => ⟨s, h2, μ3, re3, rh3, p1.at e3⟩
      | ct s h2 => simp only [hf] at p1; exact fun σ3 H3 μ3 e3 rh3 re3 => ⟨s, h2, μ3, re3, rh3, p1.at e3⟩
      | bk s h2 => simp only [hf] at p1; exact p1
      | ret s h2 => simp only [hf] at p1; exact p1
      | er c s h2 => simp only [hf] at p1; exact p1
      | bad => simp only [hf] at p1; exact p1
def foGo (S : Src) (t : Tg) (f : En → List O → Fl) : Nat → Nat → En → List O → Fl
  | 0, _, _, _ => .bad
  | k + 1, i, σ, h => match S.at_ i h with
    | none => .bad
    | some none => .nx σ h
    | some (some u) => match asg t u σ with
      | none => .bad
      | some σ => match f σ h with
        | .nx σ h => foGo S t f k (i + 1) σ h
        | .ct σ h => foGo S t f k (i + 1) σ h
        | .bk σ h => .nx σ h
        | r => r
def sFor (t : Tg) (fi : En → List O → R Src) (f : En → List O → Fl) : En → List O → Fl := fun σ h => (fi σ h).stm σ fun S h => foGo S t f S.top 0 σ h
theorem dens_for {tg iter : Expr} {body : List Stmt} {pos : Pos} {t : Tg} {fi : En → List O → R Src} {f : En → List O → Fl} (hp : PassesOwn (model X.prog X.w) X.A X.env X.xe) (hc : X.calm = true) (hi : DenI X W tg iter fi) (hg : DenG X tg t) (hb : DenB X W body f)
    (hs : isSetD iter = false) : DenS X W (.For tg iter body [] pos) (sFor t fi f) := by
  obtain ⟨wi, pi, ci⟩ := hi
  refine dens_of (ps_for hp hc pi hg.pg hb (noFold hs)) fun σ' h σ H μ D re rh p => ?_
  refine ci σ' h σ H μ _ re rh (PostS.stm re p fun S h1 H1 μ1 J e1 rh1 sr p1 => ?_)
  refine ⟨fun i m σ H => ∃ σ' h μ, Ext μ1 H1 μ H ∧ RE X.K H μ σ' σ ∧ Rh X.K H μ h ∧ PostS X.K W H μ (foGo S t f m i σ' h) D, ⟨S.top, σ', h1, μ1, Ext.refl, re.ext e1, rh1, p1⟩, ?_⟩
  rintro i m σ2 H2 ⟨σ2', h2, μ2, e2, re2, rh2, p2⟩
  cases m with
  | zero => exact p2.elim
  | succ m =>
    unfold foGo at p2
    obtain ⟨sr1, sr2⟩ := sr H2 μ2 h2 e2 rh2 i
    cases hat : S.at_ i h2 with
    | none => simp only [hat] at p2; exact p2.elim
    | some o =>
      cases o with
      | none =>
        simp only [hat] at p2
        exact .inl ⟨sr1 hat, p2.nx rh2 re2⟩
      | some u =>
        simp only [hat] at p2
        obtain ⟨go, yl⟩ := sr2 u hat
        refine .inr ⟨go, fun σ H => ∃ σ' h μ, Ext μ1 H1 μ H ∧ RE X.K H μ σ' σ ∧ Rh X.K H μ h ∧ PostS X.K W H μ (foGo S t f m (i + 1) σ' h) D, fun σ' H' z => ⟨m, Nat.lt_succ_self m, z⟩, fun x Hy y => ?_⟩
        obtain ⟨ey, rhy, ruy⟩ := yl x Hy y
        cases ea : asg t u σ2' with
        | none => simp only [ea] at p2; exact p2.elim
        | some σ1' =>
          simp only [ea] at p2
          refine ⟨u, σ2', σ1', μ2, re2.ext ey, ruy, ea, fun σ1 re1 _ => ⟨σ1', h2, μ2, re1, rhy, ?_⟩⟩
          cases hf : f σ1' h2 with
          | nx s h3 => simp only [hf] at p2; exact fun σ3 H3 μ3 e3 rh3 re3 => ⟨s, h3, μ3, (e2.trans ey).trans e3, re3, rh3, (p2.at ey).at e3⟩
          | ct s h3 => simp only [hf] at p2; exact fun σ3 H3 μ3 e3 rh3 re3 => ⟨s, h3, μ3, (e2.trans ey).trans e3, re3, rh3, (p2.at ey).at e3⟩
          | bk s h3 => simp only [hf] at p2; exact PostS.at (r := .nx s h3) p2 ey
          | ret s h3 => simp only [hf] at p2; exact PostS.at (r := .ret s h3) p2 ey
          | er c s h3 => simp only [hf] at p2; exact PostS.at (r := .er c s h3) p2 ey
          | bad => simp only [hf] at p2; exact p2
/-! ### raise, try -/
def sRaise (x : Str) : En → List O → Fl := fun σ h => .er x σ h
theorem dens_raise {x m : Str} {j : Nat} {p p2 pos pos' : Pos} {bmB : List Value} {B newId initId : String} (hc : X.calm = true) (tk : Takes X W) (F : ExcBaseFacts B newId initId bmB) (q : PySem.W.excIn X.K (He.ga X.K x) bmB newId = true) (gC : X.mg x = some (.ref (He.ga X.K x)))
    (kC : PySem.W.keepIn X.K (.ref (He.ga X.K x)) = true) (r : Raises X (.ref (He.ga X.K x))) (hg : Gl X x) (hdb : (x == ("__debug__" : Str)) = false) :
    DenS X W (.Raise (some (.Call (.Name x p) [.Constant (.str m) j p2] [] pos)) none pos') (sRaise x) :=
  dens_of (ps_raise hc tk (pmk_own F q gC kC r hg hdb)) fun σ' h σ H μ D re rh p => p σ H μ Ext.refl rh re
def hdl (exm : Str → Str → Bool) : List (Str × (En → List O → Fl)) → Str → En → List O → Fl
  | [], c, σ, h => .er c σ h
  | (x, f) :: r, c, σ, h => if exm c x = true then (match f σ h with
    | .er _ _ _ => .bad
    | z => z) else hdl exm r c σ h
def sTry (exm : Str → Str → Bool) (cls : List Str) (f : En → List O → Fl) (hs : List (Str × (En → List O → Fl))) : En → List O → Fl := fun σ h => match f σ h with
  | .er c σ h => if c ∈ cls then hdl exm hs c σ h else .bad
  | r => r
/-- the clauses -/
inductive Hds (X : Cx) (exm : Str → Str → Bool) (cls : List Str) : List ExceptHandler → List (Str × (En → List O → Fl)) → Prop
  | nil : Hds X exm cls [] []
  | cons {x : Str} {v : Value} {f : En → List O → Fl} {b : Stmt} {suite : List Stmt} {np pos : Pos} {hds : List ExceptHandler} {l : List (Str × (En → List O → Fl))} (hc : Names X x v) (hx : ∀ c ∈ cls, PySem.W.exmOne X.K (.ref (He.ga X.K c)) v = some (exm c x))
      (hsu : ∀ (a : Addr) (oe : Obj) (pn : List (Addr × Obj)), DenB (X.suite a ((a, oe) :: pn)) W0 (b :: suite) f) (r : Hds X exm cls hds l) : Hds X exm cls (.ExceptHandler (some (.Name x np)) none (b :: suite) pos :: hds) ((x, f) :: l)
theorem suite_of {K : PySem.W.Frag} {H : Hp} {μ : List Addr} {f : En → List O → Fl} {σ' : En} {h : List O} {D : Ends} (p : PostS K W H μ (match f σ' h with | .er _ _ _ => .bad | z => z) D) : PostS K W0 H μ (f σ' h) D := by
  cases hf : f σ' h with
  | nx s h3 => simp only [hf] at p; exact p
  | ct s h3 => simp only [hf] at p; exact p
  | bk s h3 => simp only [hf] at p; exact p
  | ret s h3 => simp only [hf] at p; exact p
  | er c s h3 => simp only [hf] at p; exact p.elim
  | bad => simp only [hf] at p; exact p
theorem dens_try {body : List Stmt} {h₀ : ExceptHandler} {hds : List ExceptHandler} {pos : Pos} {exm : Str → Str → Bool} {cls : List Str} {f : En → List O → Fl} {l : List (Str × (En → List O → Fl))} (hs : X.stack = X.env :: X.outer) (hf : X.env.frame = some X.env.locals) (tk : Takes X W)
    (hb : ∀ (W' : WX) (pn : List (Addr × Obj)) (xe : Value → Shared → Prop), Takes (X.tr pn xe) W' → PassesOwn (model X.prog X.w) X.A X.env xe → DenB (X.tr pn xe) W' body f) (hh : Hds X exm cls (h₀ :: hds) l) :
    DenS X W (.Try body (h₀ :: hds) [] [] pos) (sTry exm cls f l) := by
  have conv : ∀ {hs l}, Hds X exm cls hs l → ∃ l', HdsOk X hs l' ∧ ∀ c ∈ cls, ∀ (σ' : En) (h : List O) (σ : L2.St) (H : Hp) (μ : List Addr) (D : Ends), RE X.K H μ σ' σ → Rh X.K H μ h → PostS X.K W H μ (hdl exm l c σ' h) D → wMany X.K W D l' (.ref (He.ga X.K c)) none σ H := by
    intro hs l hh
    induction hh with
    | nil => exact ⟨[], .nil, fun c _ σ' h σ H μ D re rh p => p σ H μ Ext.refl rh re⟩
    | @cons x v f b suite np pos hds l hc hx hsu r ih =>
      obtain ⟨l', ok, k⟩ := ih
      refine ⟨(v, fun _ _ _ => tS X.K W0 f) :: l', .cons hc (fun a oe cls d pn _ _ => hsu a oe pn) ok, fun c hm σ' h σ H μ D re rh p => ⟨exm c x, hx c hm, fun e a _ => ?_, fun e => ?_⟩⟩
      · unfold hdl at p
        rw [if_pos e] at p
        exact ⟨σ', h, μ, re, rh, suite_of p⟩
      · unfold hdl at p
        rw [if_neg (by rw [e]; exact Bool.false_ne_true)] at p
        exact k c hm σ' h σ H μ D re rh p
  obtain ⟨l', ok, k⟩ := conv hh
  refine dens_of (ps_try_many hs hf tk (tb := fun W => tS X.K W f) hb ok) fun σ' h σ H μ D re rh p => ⟨σ', h, μ, re, rh, ?_⟩
  unfold sTry at p
  cases hq : f σ' h with
  | nx s h3 => simp only [hq] at p; exact p
  | ct s h3 => simp only [hq] at p; exact p
  | bk s h3 => simp only [hq] at p; exact p
  | ret s h3 => simp only [hq] at p; exact p
  | er c s h3 =>
    simp only [hq] at p
    by_cases hm : c ∈ cls
    · rw [if_pos hm] at p
      exact fun σ3 H3 μ3 e3 rh3 re3 => k c hm s h3 σ3 H3 μ3 D re3 rh3 (p.at e3)
    · rw [if_neg hm] at p; exact p.elim
  | bad => simp only [hq] at p; exact p
/-! ### a dict that is walked is locked -/
def unhold (n : Nat) (h : List O) : Option (List O) := match h[n]? with
  | some (.hold kvs) => some (h.set n (.dct kvs))
  | _ => none
def lockAt (i : Nat) (σ : En) (h : List O) : Option (Nat × List (Key × D)) := match σ[i]? with
  | some (some (.lab n)) => (match h[n]? with
    | some (.dct kvs) => some (n, kvs)
    | _ => none)
  | _ => none
def lockE (i : Nat) (f : En → List O → R U) : En → List O → R U := fun σ h => match lockAt i σ h with
  | some (n, kvs) => (match f σ (h.set n (.hold kvs)) with
    | .ok u h' => (match unhold n h' with
      | some h2 => .ok u h2
      | none => .bad)
    | .err c h' => .err c h'
    | .bad => .bad)
  | none => f σ h
def lockS (i : Nat) (f : En → List O → Fl) : En → List O → Fl := fun σ h => match lockAt i σ h with
  | some (n, kvs) => (match f σ (h.set n (.hold kvs)) with
    | .nx s h' => (match unhold n h' with
      | some h2 => .nx s h2
      | none => .bad)
    | .bk s h' => (match unhold n h' with
      | some h2 => .bk s h2
      | none => .bad)
    | .ct s h' => (match unhold n h' with
      | some h2 => .ct s h2
      | none => .bad)
    | .ret u h' => (match unhold n h' with
      | some h2 => .ret u h2
      | none => .bad)
    | .er c s h' => .er c s h'
    | .bad => .bad)
  | none => f σ h
structure Lk (K : PySem.W.Frag) (H : Hp) (μ : List Addr) (h : List O) (n : Nat) (a : Addr) (kvs : List (Key × D)) (vs : List (Key × V)) : Prop where
  lab : μ[n]? = some a
  at_ : H a = some (.dK vs)
  rel : RKs K H μ kvs vs
theorem lockAt_of {K : PySem.W.Frag} {H : Hp} {μ : List Addr} {i n : Nat} {σ' : En} {σ : L2.St} {h : List O} {kvs : List (Key × D)} (re : RE K H μ σ' σ) (rh : Rh K H μ h) (e : lockAt i σ' h = some (n, kvs)) : ∃ a vs, Lk K H μ h n a kvs vs := by
  unfold lockAt at e
  split at e
  · rename_i n' e1
    split at e
    · rename_i kvs' e2
      cases e
      obtain ⟨v, _, r⟩ := re.2 i _ e1
      cases r with
      | @lab _ a ra =>
        obtain ⟨ho, h1, h2⟩ := rh.obj n _ a e2 ra
        cases h2 with
        | dct h2 => exact ⟨a, _, ra, h1, h2⟩
    · cases e
  · cases e
section
variable {K : PySem.W.Frag} {H H' : Hp} {μ μ' : List Addr} {h h' h2 : List O} {n : Nat} {a : Addr} {kvs : List (Key × D)} {vs : List (Key × V)} {od : Obj}
/-- locked and unlocked again -/
theorem Lk.back (l : Lk K H μ h n a kvs vs) (e : Ext μ (upd H a (.frz od (.dK vs))) μ' H') (rh : Rh K H' μ' h') (q : unhold n h' = some h2) :
    H' a = some (.frz od (.dK vs)) ∧ Ext μ H μ' (upd H' a (.dK vs)) ∧ Ext0 μ' H' μ' (upd H' a (.dK vs)) ∧ Rh K (upd H' a (.dK vs)) μ' h2 := by
  have ha' : H' a = some (.frz od (.dK vs)) := e.frz a _ _ upd_same
  have lab' : μ'[n]? = some a := e.get l.lab
  have c : Ext0 μ' H' μ' (upd H' a (.dK vs)) := Ext0.chg lab'
  refine ⟨ha', ⟨((Ext0.chg l.lab).trans e.toExt0).trans c, fun b o w hb => ?_⟩, c, ?_⟩
  · have ne : b ≠ a := by
      rintro rfl
      rw [l.at_] at hb
      cases hb
    rw [upd_ne ne]
    exact e.frz b o w (by rw [upd_ne ne]; exact hb)
  · unfold unhold at q
    split at q
    · rename_i kvs' z
      cases q
      obtain ⟨ho, h1, g⟩ := rh.obj n _ a z lab'
      cases g with
      | hold g =>
        rw [ha'] at h1
        cases h1
        exact rh.chg lab' (.dct g)
    · cases q
theorem Lk.err (l : Lk K H μ h n a kvs vs) (e : Ext μ (upd H a (.frz od (.dK vs))) μ' H') : Ext μ H μ' H' := by
  refine ⟨(Ext0.chg l.lab).trans e.toExt0, fun b o w hb => ?_⟩
  have ne : b ≠ a := by
    rintro rfl
    rw [l.at_] at hb
    cases hb
  exact e.frz b o w (by rw [upd_ne ne]; exact hb)
end
theorem pe_or {e : Expr} {t u : TE} (h : PE X e t) (g : PE X e u) : PE X e (fun σ H Q => t σ H Q ∨ u σ H Q) :=
  ⟨fun pins s σ H Q I z => z.elim (h.run pins s σ H Q I) (g.run pins s σ H Q I)⟩
theorem ps_or {e : Stmt} {t u : TS} (h : PS X e t) (g : PS X e u) : PS X e (fun D σ H => t D σ H ∨ u D σ H) :=
  ⟨fun pins s σ H Q I z => z.elim (h.run pins s σ H Q I) (g.run pins s σ H Q I)⟩
theorem den_lock {i : Nat} {e : Expr} {f : En → List O → R U} (hf : Den X W e f) : Den X W e (lockE i f) := by
  obtain ⟨t, p, c⟩ := hf
  refine ⟨_, pe_or (pe_lock p) p, fun σ' h σ H μ Q re rh q => ?_⟩
  unfold lockE at q
  cases z : lockAt i σ' h with
  | none =>
    rw [z] at q
    exact .inr (c σ' h σ H μ Q re rh q)
  | some nk =>
    obtain ⟨n, kvs⟩ := nk
    rw [z] at q
    obtain ⟨a, vs, l⟩ := lockAt_of re rh z
    refine .inl ⟨a, _, l.at_, True.intro, fun od => ?_⟩
    refine c σ' (h.set n (.hold kvs)) σ _ μ _ (re.ext0 (Ext0.chg l.lab)) (rh.chg l.lab (.hold l.rel)) ?_
    dsimp only at q
    cases r : f σ' (h.set n (.hold kvs)) with
    | ok u h' =>
      rw [r] at q
      intro H' μ' b e rh' ru
      cases z2 : unhold n h' with
      | none => simp only [z2] at q; exact q.elim
      | some h2 =>
        simp only [z2] at q
        obtain ⟨g1, g2, g3, g4⟩ := l.back e rh' z2
        exact ⟨g1, q _ _ _ g2 g4 (ru.ext0 g3)⟩
    | err c' h' =>
      rw [r] at q
      intro H' μ' e rh'
      exact q _ _ (l.err e) rh'
    | bad => rw [r] at q; exact q.elim
theorem dens_lock {i : Nat} {e : Stmt} {f : En → List O → Fl} (hf : DenS X W e f) : DenS X W e (lockS i f) := by
  refine dens_of (ps_or (ps_lock hf) hf) fun σ' h σ H μ D re rh q => ?_
  unfold lockS at q
  cases z : lockAt i σ' h with
  | none =>
    rw [z] at q
    exact .inr ⟨σ', h, μ, re, rh, q⟩
  | some nk =>
    obtain ⟨n, kvs⟩ := nk
    rw [z] at q
    obtain ⟨a, vs, l⟩ := lockAt_of re rh z
    refine .inl ⟨a, _, l.at_, True.intro, fun od => ?_⟩
    refine ⟨σ', h.set n (.hold kvs), μ, re.ext0 (Ext0.chg l.lab), rh.chg l.lab (.hold l.rel), ?_⟩
    dsimp only at q
    cases r : f σ' (h.set n (.hold kvs)) with
    | nx s h' =>
      rw [r] at q
      intro σ2 H' μ' e rh' re'
      cases z2 : unhold n h' with
      | none => simp only [z2] at q; exact q.elim
      | some h2 =>
        simp only [z2] at q
        obtain ⟨g1, g2, g3, g4⟩ := l.back e rh' z2
        exact ⟨g1, q _ _ _ g2 g4 (re'.ext0 g3)⟩
    | bk s h' =>
      rw [r] at q
      intro σ2 H' μ' e rh' re'
      cases z2 : unhold n h' with
      | none => simp only [z2] at q; exact q.elim
      | some h2 =>
        simp only [z2] at q
        obtain ⟨g1, g2, g3, g4⟩ := l.back e rh' z2
        exact ⟨g1, q _ _ _ g2 g4 (re'.ext0 g3)⟩
    | ct s h' =>
      rw [r] at q
      intro σ2 H' μ' e rh' re'
      cases z2 : unhold n h' with
      | none => simp only [z2] at q; exact q.elim
      | some h2 =>
        simp only [z2] at q
        obtain ⟨g1, g2, g3, g4⟩ := l.back e rh' z2
        exact ⟨g1, q _ _ _ g2 g4 (re'.ext0 g3)⟩
    | ret u h' =>
      rw [r] at q
      intro v H' μ' e rh' ru'
      cases z2 : unhold n h' with
      | none => simp only [z2] at q; exact q.elim
      | some h2 =>
        simp only [z2] at q
        obtain ⟨g1, g2, g3, g4⟩ := l.back e rh' z2
        exact ⟨g1, q _ _ _ g2 g4 (ru'.ext0 g3)⟩
    | er c' s h' =>
      rw [r] at q
      intro σ2 H' μ' e rh' re'
      exact q _ _ _ (l.err e) rh' re'
    | bad => rw [r] at q; exact q.elim
end
end Py

/-! calls; the compact tree and what it says -/
namespace Py
open PySem PySem.Spec PyProof.Rows L2
/-! ### calls of the program's own defs -/
def permL {α : Type} (perm : List Nat) (l : List α) : List α := perm.filterMap fun i => l[i]?
theorem permL_vals {perm : List Nat} {vs : List V} {us : List Value} (r : Vals vs us) : Vals (permL perm vs) (permL perm us) := by
  unfold permL
  induction perm with
  | nil => exact .nil
  | cons i p ih =>
    rw [List.filterMap_cons, List.filterMap_cons]
    have hl := r.length
    by_cases h : i < vs.length
    · obtain ⟨u, hu, ru⟩ := r.get (List.getElem?_eq_getElem h)
      rw [List.getElem?_eq_getElem h, hu]
      exact .cons ru ih
    · rw [List.getElem?_eq_none (by omega), List.getElem?_eq_none (by omega)]
      exact ih
theorem permL_rel {K : PySem.W.Frag} {H : Hp} {μ : List Addr} {perm : List Nat} {us : List U} {vs : List V} (r : RUs K H μ us vs) : RUs K H μ (permL perm us) (permL perm vs) := by
  unfold permL
  induction perm with
  | nil => exact .nil
  | cons i p ih =>
    rw [List.filterMap_cons, List.filterMap_cons]
    have hl := r.length
    by_cases h : i < us.length
    · obtain ⟨v, hv, rv⟩ := r.get (List.getElem?_eq_getElem h)
      rw [List.getElem?_eq_getElem h, hv]
      exact .cons rv ih
    · rw [List.getElem?_eq_none (by omega), List.getElem?_eq_none (by omega)]
      exact ih
theorem RUs.mapU {K : PySem.W.Frag} {H H' : Hp} {μ μ' : List Addr} {us : List U} {vs : List V} (r : RUs K H μ us vs) (k : ∀ u x, RU K H μ u x → RU K H' μ' u x) : RUs K H' μ' us vs := by
  induction r with
  | nil => exact .nil
  | cons h _ ih => exact .cons (k _ _ h) ih
theorem RUs.app {K : PySem.W.Frag} {H : Hp} {μ : List Addr} {us ws : List U} {vs zs : List V} (r : RUs K H μ us vs) (q : RUs K H μ ws zs) : RUs K H μ (us ++ ws) (vs ++ zs) := r.append q
theorem valsApp {vs zs : List V} {us ws : List Value} (r : Vals vs us) (q : Vals zs ws) : Vals (vs ++ zs) (us ++ ws) := r.append q
/-- what a def promises -/
def spF (K : PySem.W.Frag) (n : Nat) (r : List U → List O → R U) : Sp := fun vs H Q E => vs.length = n ∧ ∃ us h μ, Rh K H μ h ∧ RUs K H μ us vs ∧ Post K (fun c d _ H => E c d H) [] H μ (RU K) (r us h) Q
/-- how a call binds: n values by place, ks by name -/
def BindOk (K : PySem.W.Frag) (fd : FuncData) (ps : List Str) (n : Nat) (ks : List Str) (perm : List Nat) : Prop :=
  ∀ (s : Shared) (us ws : List Value), us.length = n → ws.length = ks.length → BindsTo s fd ⟨us, ks.zip ws⟩ (ps.zip (permL perm (us ++ ws)))
def DenK (X : Cx) (W : WX) (kws : List Keyword) (f : En → List O → R (List U)) : Prop :=
  ∃ t, PK X kws t ∧ ∀ σ' h σ H μ Q, RE X.K H μ σ' σ → Rh X.K H μ h → Post X.K W σ H μ (RUs X.K) (f σ' h) Q → t σ H Q
def kwNames : List Keyword → Option (List Str)
  | [] => some []
  | ⟨some n, _, _⟩ :: r => (kwNames r).map (n :: ·)
  | ⟨none, _, _⟩ :: _ => none
theorem kwNames_ok {env : Env} {pos : Pos} : ∀ {kws : List Keyword} {ks : List Str}, kwNames kws = some ks →
    (backToKw pos (keywordEach kws env)).all (·.1.isSome) = true ∧ (backToKw pos (keywordEach kws env)).filterMap (·.1) = ks ∧ (backToKw pos (keywordEach kws env)).any (·.1.isNone) = false
  | [], ks, h => by cases h; exact ⟨rfl, rfl, rfl⟩
  | ⟨some n, e, p⟩ :: r, ks, h => by
    have h' : (kwNames r).map (n :: ·) = some ks := h
    cases q : kwNames r with
    | none => rw [q] at h'; cases h'
    | some qs =>
      rw [q] at h'
      cases h'
      obtain ⟨h1, h2, h3⟩ := kwNames_ok (env := env) (pos := pos) q
      unfold backToKw at h1 h2 h3 ⊢
      refine ⟨?_, ?_, ?_⟩
      · simp only [keywordEach, List.map_cons, List.all_cons, h1]; rfl
      · simp only [keywordEach, List.map_cons, List.filterMap_cons, h2]
      · simp only [keywordEach, List.map_cons, List.any_cons, h3]; rfl
  | ⟨none, e, p⟩ :: r, ks, h => by cases h
section
variable {X : Cx} {W : WX}
theorem denk_nil : DenK X W [] evNil := ⟨_, pk_nil, fun σ' h σ H μ Q re rh p => p.ret rh .nil⟩
theorem denk_cons {n : Option Str} {e : Expr} {kp : Pos} {kws : List Keyword} {f : En → List O → R U} {g : En → List O → R (List U)} (hf : Den X W e f) (hg : DenK X W kws g) : DenK X W (⟨n, e, kp⟩ :: kws) (evCons f g) := by
  obtain ⟨ta, pa, ca⟩ := hf
  obtain ⟨tb, pb, cb⟩ := hg
  refine ⟨_, pk_cons pa pb, fun σ' h σ H μ Q re rh p => ?_⟩
  refine ca σ' h σ H μ _ re rh (Post.bind p fun u h1 H1 μ1 x e1 rh1 ru p1 => ?_)
  refine cb σ' h1 σ H1 μ1 _ (re.ext e1) rh1 (Post.bind p1 fun us h2 H2 μ2 xs e2 rh2 rus p2 => ?_)
  exact p2.ret rh2 (.cons (ru.ext e2) rus)
def tCallB (n m : Nat) (perm : List Nat) (sp : Sp) (E : L2.St → XK) (t tk : TA) : TE := fun σ H Q => t σ H fun vs H1 => tk σ H1 fun zs H2 => vs.length = n ∧ zs.length = m ∧ sp (permL perm (vs ++ zs)) H2 Q (E σ)
theorem run_fnB {CX : CXT} {k n : Nat} {f : Addr} {fd : FuncData} {ps ks : List Str} {sp : Sp} {E : L2.St → XK} {perm : List Nat} {pins : List (Addr × Obj)} {σ : L2.St} {H : Hp} {s : Shared} {Q : VK} {us ws : List Value} {vs zs : List V}
    (F : FnOk X.prog X.w X.K X.mg X.base CX k f fd ps sp) (hr : Room k X.A) (hb : BindOk X.K fd ps n ks perm) (hx : PassesAt CX X σ (E σ)) (I : Inv X pins σ H s) (r : Vals vs us) (rz : Vals zs ws) (l1 : vs.length = n) (l2 : zs.length = ks.length) (h : sp (permL perm (vs ++ zs)) H Q (E σ)) :
    wpAny (model X.prog X.w) X.A (call (.ref f) us (ks.zip ws)) (EP X pins σ Q) X.xe s := by
  refine wpAny_call (codeAny_mono (F.run X.A X.stack s H ⟨us, ks.zip ws⟩ (permL perm (us ++ ws)) (permL perm (vs ++ zs)) Q (E σ) hr I.env0 (hb s us ws (r.length.symm.trans l1) (rz.length.symm.trans l2)) (permL_vals (r.append rz)) h) fun r s' hq => ?_)
  cases r with
  | error e => exact hx pins H s e s' I hq
  | ok fl =>
    cases fl with
    | ret u => exact I.after hq
    | next => exact False.elim hq
    | brk => exact False.elim hq
    | cont => exact False.elim hq
theorem pe_callB0 {CX : CXT} {k : Nat} {f : Addr} {fd : FuncData} {ps ks : List Str} {sp : Sp} {E : L2.St → XK} {perm : List Nat} {x : Str} {p pos : Pos} {kws : List Keyword} {tk : TA}
    (F : FnOk X.prog X.w X.K X.mg X.base CX k f fd ps sp) (hr : Room k X.A) (hg : Gl X x) (hm : X.mg x = some (.ref f)) (hk : PySem.W.keepIn X.K (.ref f) = true) (hb : BindOk X.K fd ps 0 ks perm) (hx : ∀ σ, PassesAt CX X σ (E σ))
    (hkw : PK X kws tk) (hks : kwNames kws = some ks) (hdb : (x == ("__debug__" : Str)) = false) :
    PE X (.Call (.Name x p) [] kws pos) (tCallB 0 ks.length perm sp E tNil tk) := by
  obtain ⟨k1, k2, k3⟩ := kwNames_ok (env := X.env) (pos := pos) hks
  refine ⟨fun pins s σ H Q I h => ?_⟩
  refine wpAny_Call_Name_kw (ld_glob I hg hm ?_ hdb)
  refine PySem.W.callWith_KW0 (h₀ := X.base) I.ok.mod.kin hk k1 ?_ (by rw [k3]; rfl)
  refine thn (hkw.run pos pins s σ H _ I h) fun ws s2 ⟨zs, H2, I2, rz, l1, l2, q2⟩ => ⟨I2.kIn, ?_⟩
  rw [k2]
  exact run_fnB F hr hb (hx σ) I2 .nil rz l1 l2 q2
theorem pe_callB1 {CX : CXT} {k : Nat} {f : Addr} {fd : FuncData} {ps ks : List Str} {sp : Sp} {E : L2.St → XK} {perm : List Nat} {x : Str} {p pos : Pos} {e : Expr} {es : List Expr} {kws : List Keyword} {t tk : TA}
    (F : FnOk X.prog X.w X.K X.mg X.base CX k f fd ps sp) (hr : Room k X.A) (hg : Gl X x) (hm : X.mg x = some (.ref f)) (hk : PySem.W.keepIn X.K (.ref f) = true) (hb : BindOk X.K fd ps (e :: es).length ks perm) (hx : ∀ σ, PassesAt CX X σ (E σ))
    (ha : PA X (e :: es) t) (hkw : PK X kws tk) (hks : kwNames kws = some ks) (hns : noStar (e :: es) = true) (hdb : (x == ("__debug__" : Str)) = false) :
    PE X (.Call (.Name x p) (e :: es) kws pos) (tCallB (e :: es).length ks.length perm sp E t tk) := by
  obtain ⟨k1, k2, k3⟩ := kwNames_ok (env := X.env) (pos := pos) hks
  refine ⟨fun pins s σ H Q I h => ?_⟩
  refine wpAny_Call_Name_kw (ld_glob I hg hm ?_ hdb)
  refine PySem.W.callWith_KW (h₀ := X.base) I.ok.mod.kin hk k1 (thn (ha.run pos pins s σ H _ I h) fun us s1 ⟨vs, H1, I1, r, q⟩ => ?_) (by rw [k3, noStar_any hns]; rfl) (star1 (noStar_cons hns).1)
  refine thn (hkw.run pos pins s1 σ H1 _ I1 q) fun ws s2 ⟨zs, H2, I2, rz, l1, l2, q2⟩ => ⟨I2.kIn, ?_⟩
  rw [k2]
  exact run_fnB F hr hb (hx σ) I2 r rz l1 l2 q2
def evCl (n m : Nat) (perm : List Nat) (fa fk : En → List O → R (List U)) (C : List U → List O → R U) : En → List O → R U := fun σ h => (fa σ h).bind fun us h => (fk σ h).bind fun ws h => if us.length = n ∧ ws.length = m then C (permL perm (us ++ ws)) h else .bad
theorem call_post {K : PySem.W.Frag} {σ : L2.St} {H : Hp} {μ : List Addr} {r : R U} {Q : VK} {W : WX} (p : Post K W σ H μ (RU K) r Q) : Post K (fun c d _ H => WE W σ c d H) [] H μ (RU K) r Q := by
  cases r with
  | ok a h => exact p
  | err c h => exact p
  | bad => exact p
theorem den_call {k : Nat} {f : Addr} {fd : FuncData} {ps ks : List Str} {perm : List Nat} {x : Str} {p pos : Pos} {es : List Expr} {kws : List Keyword} {fa fk : En → List O → R (List U)} {C : List U → List O → R U}
    (F : FnOk X.prog X.w X.K X.mg X.base (L2.CX X.prog X.w) k f fd ps (spF X.K ps.length C)) (hr : Room k X.A) (hg : Gl X x) (hm : X.mg x = some (.ref f)) (hk : PySem.W.keepIn X.K (.ref f) = true) (hb : BindOk X.K fd ps es.length ks perm) (tk : Takes X W)
    (hp : perm.length = ps.length) (hpm : ∀ i ∈ perm, i < es.length + ks.length) (ha : DenA X W es fa) (hkw : DenK X W kws fk) (hks : kwNames kws = some ks) (hns : noStar es = true) (hdb : (x == ("__debug__" : Str)) = false) (hnil : es = [] → fa = evNil) :
    Den X W (.Call (.Name x p) es kws pos) (evCl es.length ks.length perm fa fk C) := by
  have plen : ∀ (l : List V), l.length = es.length + ks.length → (permL perm l).length = ps.length := by
    intro l hl
    rw [← hp]
    unfold permL
    clear hp hb
    induction perm with
    | nil => rfl
    | cons i q ih =>
      have h1 : i < l.length := by rw [hl]; exact hpm i List.mem_cons_self
      rw [List.filterMap_cons, List.getElem?_eq_getElem h1, List.length_cons, List.length_cons, ih fun j hj => hpm j (List.mem_cons_of_mem _ hj)]
  obtain ⟨tq, pk, ck⟩ := hkw
  cases es with
  | nil =>
    cases hnil rfl
    refine ⟨_, pe_callB0 F hr hg hm hk hb (fun σ => passAt tk σ) pk hks hdb, fun σ' h σ H μ Q re rh p => ?_⟩
    refine ck σ' h σ H μ _ re rh (Post.bind (Rel := RUs X.K) (show Post X.K W σ H μ (RU X.K) ((fk σ' h).bind fun ws h => if ([] : List U).length = 0 ∧ ws.length = ks.length then C (permL perm ([] ++ ws)) h else .bad) Q from p) fun ws h2 H2 μ2 zs e2 rh2 rz p2 => ?_)
    by_cases hl : ([] : List U).length = 0 ∧ ws.length = ks.length
    · rw [if_pos hl] at p2
      have l2 : zs.length = ks.length := rz.length.symm.trans hl.2
      exact ⟨rfl, l2, plen _ (by simpa using l2), _, h2, μ2, rh2, permL_rel (RUs.app .nil rz), call_post p2⟩
    · rw [if_neg hl] at p2; exact p2.elim
  | cons e es =>
    obtain ⟨ta, pa, ca⟩ := ha
    refine ⟨_, pe_callB1 F hr hg hm hk hb (fun σ => passAt tk σ) pa pk hks hns hdb, fun σ' h σ H μ Q re rh p => ?_⟩
    refine ca σ' h σ H μ _ re rh (Post.bind p fun us h1 H1 μ1 xs e1 rh1 ru p1 => ?_)
    refine ck σ' h1 σ H1 μ1 _ (re.ext e1) rh1 (Post.bind p1 fun ws h2 H2 μ2 zs e2 rh2 rz p2 => ?_)
    by_cases hl : us.length = (e :: es).length ∧ ws.length = ks.length
    · rw [if_pos hl] at p2
      have l1 : xs.length = (e :: es).length := ru.length.symm.trans hl.1
      have l2 : zs.length = ks.length := rz.length.symm.trans hl.2
      exact ⟨l1, l2, plen _ (by rw [List.length_append, l1, l2]), _, h2, μ2, rh2, permL_rel ((ru.mapU (fun u x r => r.ext e2)).app rz), call_post p2⟩
    · rw [if_neg hl] at p2; exact p2.elim
end
end Py

/-! sorted(set(xs)) -/
namespace Py
open PySem PySem.Spec PyProof.Rows L2
def insU (x : Int) : List Int → List Int
  | [] => [x]
  | y :: r => if x < y then x :: y :: r else if x = y then y :: r else y :: insU x r
/-- ascending, each once -/
def ssI : List Int → List Int
  | [] => []
  | x :: r => insU x (ssI r)
theorem insU_mem (x z : Int) : ∀ l : List Int, z ∈ insU x l ↔ z = x ∨ z ∈ l
  | [] => by simp [insU]
  | y :: r => by
    unfold insU
    split
    · simp
    · split
      · rename_i h; subst h; simp
      · rw [List.mem_cons, insU_mem x z r, List.mem_cons]
        constructor <;> (intro h; rcases h with h | h | h <;> simp [h])
theorem ssI_mem (z : Int) : ∀ l : List Int, z ∈ ssI l ↔ z ∈ l
  | [] => by simp [ssI]
  | y :: r => by rw [ssI, insU_mem, ssI_mem z r, List.mem_cons]
theorem insU_asc (x : Int) : ∀ l : List Int, l.Pairwise (· < ·) → (insU x l).Pairwise (· < ·)
  | [], _ => by simp [insU]
  | y :: r, h => by
    obtain ⟨h1, h2⟩ := List.pairwise_cons.mp h
    unfold insU
    split
    · rename_i hxy
      refine List.pairwise_cons.mpr ⟨fun z hz => ?_, h⟩
      rcases List.mem_cons.mp hz with e | hz
      · rw [e]; exact hxy
      · exact Int.lt_trans hxy (h1 z hz)
    · split
      · exact h
      · rename_i n1 n2
        refine List.pairwise_cons.mpr ⟨fun z hz => ?_, insU_asc x r h2⟩
        rcases (insU_mem x z r).mp hz with e | hz
        · omega
        · exact h1 z hz
theorem ssI_asc : ∀ l : List Int, (ssI l).Pairwise (· < ·)
  | [] => .nil
  | y :: r => insU_asc y _ (ssI_asc r)
theorem asc_unique : ∀ {xs ys : List Int}, xs.Pairwise (· < ·) → ys.Pairwise (· < ·) → (∀ k, k ∈ xs ↔ k ∈ ys) → xs = ys
  | [], [], _, _, _ => rfl
  | [], y :: ys, _, _, h => absurd ((h y).mpr List.mem_cons_self) (by simp)
  | x :: xs, [], _, _, h => absurd ((h x).mp List.mem_cons_self) (by simp)
  | x :: xs, y :: ys, h1, h2, h => by
    obtain ⟨a1, a2⟩ := List.pairwise_cons.mp h1
    obtain ⟨b1, b2⟩ := List.pairwise_cons.mp h2
    have e : x = y := by
      rcases List.mem_cons.mp ((h x).mp List.mem_cons_self) with e | m
      · exact e
      · rcases List.mem_cons.mp ((h y).mpr List.mem_cons_self) with e | n
        · exact e.symm
        · have := b1 x m
          have := a1 y n
          omega
    subst e
    rw [asc_unique a2 b2 fun k => ?_]
    constructor
    · intro m
      rcases List.mem_cons.mp ((h k).mp (List.mem_cons_of_mem _ m)) with e | n
      · have := a1 k m
        omega
      · exact n
    · intro m
      rcases List.mem_cons.mp ((h k).mpr (List.mem_cons_of_mem _ m)) with e | n
      · have := b1 k m
        omega
      · exact n
/-- how many there are among the first ones, unlike -/
theorem insU_len (x : Int) : ∀ l : List Int, l.Pairwise (· < ·) → (insU x l).length = if x ∈ l then l.length else l.length + 1
  | [], _ => by simp [insU]
  | y :: r, h => by
    obtain ⟨h1, h2⟩ := List.pairwise_cons.mp h
    unfold insU
    split
    · rename_i hxy
      rw [if_neg]
      · rfl
      · intro m
        rcases List.mem_cons.mp m with e | m
        · omega
        · have := h1 x m
          omega
    · split
      · rename_i e; subst e; rw [if_pos List.mem_cons_self]
      · rename_i n1 n2
        rw [List.length_cons, insU_len x r h2]
        by_cases m : x ∈ r
        · rw [if_pos m, if_pos (List.mem_cons_of_mem _ m), List.length_cons]
        · rw [if_neg m, if_neg (by rw [List.mem_cons, not_or]; exact ⟨n2, m⟩), List.length_cons]
theorem ssI_congr {xs ys : List Int} (h : ∀ k, k ∈ xs ↔ k ∈ ys) : ssI xs = ssI ys :=
  asc_unique (ssI_asc _) (ssI_asc _) fun k => by rw [ssI_mem, ssI_mem]; exact h k
theorem ssI_snoc (l : List Int) (z : Int) : (ssI (l ++ [z])).length = if z ∈ l then (ssI l).length else (ssI l).length + 1 := by
  have e : ssI (l ++ [z]) = insU z (ssI l) := asc_unique (ssI_asc _) (insU_asc _ _ (ssI_asc _)) fun k => by
    rw [ssI_mem, insU_mem, ssI_mem, List.mem_append, List.mem_singleton]
    exact Or.comm
  rw [e, insU_len _ _ (ssI_asc _)]
  by_cases m : z ∈ l
  · rw [if_pos m, if_pos ((ssI_mem z l).mpr m)]
  · rw [if_neg m, if_neg fun k => m ((ssI_mem z l).mp k)]
theorem ssI_take_le (l : List Int) (i : Nat) : (ssI (l.take i)).length ≤ (ssI l).length := by
  have key : ∀ (r l : List Int), (ssI l).length ≤ (ssI (l ++ r)).length := by
    intro r
    induction r with
    | nil => intro l; rw [List.append_nil]; exact Nat.le_refl _
    | cons x r ih =>
      intro l
      have h1 := ih (l ++ [x])
      have h2 := ssI_snoc l x
      rw [List.append_assoc] at h1
      have : (ssI l).length ≤ (ssI (l ++ [x])).length := by rw [h2]; split <;> omega
      exact Nat.le_trans this h1
  have := key (l.drop i) (l.take i)
  rwa [List.take_append_drop] at this
section
variable {P : Program} {w : World} {A : Around} {E : Value → Shared → Prop} {s : Shared}
/-- an empty set, as set() lays it -/
abbrev emptySet (w : World) : Obj := { cls := .type "set", dict := none, data := .set #[] 0 (.fresh 0 0 (!w.params.followText "set-order")) }
theorem fill_ints {I : Addr} {fp wr : List Addr} {G : Array GenState → Array GenState → Prop} {n : Nat} {Pv : Nat → Value → Prop} {St : Nat → Shared → Prop} {R : Result → Shared → Prop}
    (W : WalksS P w A.in1 I fp wr G n Pv St) (S : Addr) (hSf : S ∉ fp) (ns : List Int) (hn : n = ns.length) (hb : (ssI ns).length + 1 < scanBound) (hval : ∀ i v, Pv i v → ∃ k t, ns[i]? = some k ∧ v = .int k t) :
    ∀ (m i : Nat) (s : Shared), n - i = m → i ≤ n → St i s → SetR w s.heap S (fun j => decide (j ∈ ns.take i)) (ssI (ns.take i)).length →
      (∀ s', Moved (S :: wr) G s s' → SetR w s'.heap S (fun j => decide (j ∈ ns)) (ssI ns).length → R (.ok (.ret .none)) s') → codeAny (model P w) A (.builtin "set.update.loop" ⟨[.ref S, .ref I], []⟩) R s := by
  have away : S ∉ wr := fun h => hSf (W.sub _ h)
  have more : ∀ b ∈ wr, b ∈ S :: wr := fun b h => List.mem_cons_of_mem _ h
  intro m
  induction m with
  | zero =>
    intro i s hm hi st hS fin
    obtain rfl : i = n := by omega
    refine codeAny_builtin F.entry_set_update_loop ?_; rw [Around.under_plainId F.plain_set_update_loop _]; show wpAny _ A.in1 (pyNext (.ref I) >>= _) _ _ s
    refine wpAny_bind (W.done s _ _ st fun s1 mv => ?_); show wpAny _ A.in1 (ret Value.none) _ _ s1
    rw [List.take_of_length_le (Nat.le_of_eq hn.symm)] at hS
    exact wpAny_pure (fin s1 (mv.mono more) (hS.at fun o e => mv.heap S o away e))
  | succ m ih =>
    intro i s hm hi st hS fin
    have lt : i < n := by omega
    refine codeAny_builtin F.entry_set_update_loop ?_; rw [Around.under_plainId F.plain_set_update_loop _]; show wpAny _ A.in1 (pyNext (.ref I) >>= _) _ _ s
    refine wpAny_bind (W.item i s _ _ lt st fun v s1 hP st1 mv => ?_)
    obtain ⟨z, t, hz, rfl⟩ := hval i v hP
    have hS1 : SetR w s1.heap S (fun j => decide (j ∈ ns.take i)) (ssI (ns.take i)).length := hS.at fun o e => mv.heap S o away e
    show wpAny _ A.in1 (holding [Value.int z t] (setAdd S (.int z t)) >>= _) _ _ s1
    refine wpAny_bind (wpAny_holding ?_); unfold setAdd; refine wpAny_holding ?_
    refine wpAny_bind ((intKind P w).pyHash (k := z) (intKind_is _ _ _ _) ?_)
    have few : (ssI (ns.take i)).length ≤ (ssI ns).length := ssI_take_le ns i
    refine setR_add_hashed (s := { s1 with toks := s1.toks + 1 }) hS1 (by omega) fun h2 sb hS2 => ?_
    have hS3 : SetR w h2 S (fun j => decide (j ∈ ns.take (i + 1))) (ssI (ns.take (i + 1))).length := by
      have e1 : ns.take (i + 1) = ns.take i ++ [z] := by rw [List.take_add_one, hz]; rfl
      rw [e1, ssI_snoc]
      have e2 : (if decide (z ∈ ns.take i) = true then (ssI (ns.take i)).length else (ssI (ns.take i)).length + 1) = if z ∈ ns.take i then (ssI (ns.take i)).length else (ssI (ns.take i)).length + 1 := by simp
      rw [e2] at hS2
      exact hS2.congr fun j => by simp [List.mem_append]
    refine wpAny_pure ⟨plainId_quiet F.plain_set_update_loop _, ih (i + 1) _ (by omega) lt (W.frame _ s1 _ _ st1 (Nat.le_succ _) fun b hb o e => (sb.2 b fun h : b = S => hSf (h ▸ hb)).trans e) hS3 fun s3 mv3 hS4 => ?_⟩
    refine fin s3 (Moved.trans W.gtrans ((mv.mono more).then_heap (Nat.le_succ _) fun b o hb e => (sb.2 b fun h : b = S => hb (h ▸ List.mem_cons_self)).trans e) mv3) hS4
end
end Py
namespace Py
open PySem PySem.Spec PyProof.Rows L2
section
variable {P : Program} {w : World} {A : Around} {E : Value → Shared → Prop} {s : Shared}
set_option maxHeartbeats 4000000 in
/-- set(xs) of a list of ints, with its order -/
theorem set_of_list {l : Addr} {items : Array Value} (ns : List Int) {Q : Value → Shared → Prop} (hh : A.handled = none) (hl : s.heap.IsList l items) (hit : IntsAre items.toList ns) (hb : (ssI ns).length + 1 < scanBound)
    (h : ∀ (h' : Heap) (tk : Nat), SetR w h' s.heap.objs.size (fun j => decide (j ∈ ns)) (ssI ns).length → (∀ b o, s.heap.get? b = some o → h'.get? b = some o) → Q (.ref s.heap.objs.size) { s with heap := h', toks := tk }) :
    wpAny (model P w) A (call (.type "set") [.ref l]) Q E s := by
  have many : items.size = ns.length := by have q := IntsAre.length hit; rwa [Array.length_toList] at q
  have hlS : l < s.heap.objs.size := by obtain ⟨_, q, _⟩ := hl; exact Heap.lt_size q
  obtain ⟨c, tl, hmro⟩ := F.called_set.mro
  have made := F.called_set.made; have subs := F.called_set.sub
  refine wpAny_call (codeAny_of_tree ?_); show wpAny _ _ (callAny (.type "set") _) _ _ _
  refine wpAny_pure ⟨Code.quiet_builtin _ (by decide +kernel), codeAny_builtin F.entry_type_call ?_⟩; rw [Around.under_plain (weight_type_call_type "set" [.ref l] []) rfl]
  have f1 := F.called_set.notType; have f2 := F.called_set.canCreate; have f3 := F.typeCall_set_1 (.ref l)
  repeat (any_goals (first | assumption | wp_step))

  refine codeAny_mono (code_set_led1 (.ref l) (E := E) (Q₁ := fun obj s1 => obj = .ref s.heap.objs.size ∧ s1 = { s with heap := s.heap.push (emptySet w) }) ⟨rfl, rfl⟩) fun r s1 hr => ?_
  cases r with
  | error e => exact hr
  | ok fl =>
    cases fl with
    | ret obj =>
      obtain ⟨rfl, rfl⟩ := hr
      have atS : (s.heap.push (emptySet w)).get? s.heap.objs.size = some (emptySet w) := Heap.get?_push_size _ rfl
      have tyS : Shared.TypeIs { s with heap := s.heap.push (emptySet w) } (.ref s.heap.objs.size) "set" := ⟨_, atS, rfl⟩
      have g1 := F.called_set.init.lookup; have g2 := F.called_set.init.bind (.ref s.heap.objs.size)
      repeat (any_goals (first | assumption | wp_step))

      refine codeAny_mono (codeAny_call_builtin (R := wants (fun r s2 => r = .none ∧ ∃ h' tk, s2 = { s with heap := h', toks := tk } ∧ SetR w h' s.heap.objs.size (fun j => decide (j ∈ ns)) (ssI ns).length ∧ (∀ b o, s.heap.get? b = some o → h'.get? b = some o)) E)
        F.called_set.init.plain F.entry_set_init (check_set_init_1 tyS ?_)) fun r2 s2 hr2 => ?_
      · obtain ⟨⟨lc, ld, lx, ls⟩, ol, o1, on, o2⟩ := hl
        simp only at o1 o2; subst o1 o2
        have ol2 : (s.heap.push (emptySet w)).get? l = some { cls := .type "list", dict := ld, data := .seq items on, slots := ls } := Heap.get?_push_of_some _ ol
        have n1 := F.sub_list_set; have n2 := F.sub_list_frozenset
        have n3 : (Value.type "list" == Value.type "dict") = false := by decide
        have isL : (s.heap.push (emptySet w)).IsList l items := ⟨_, ol2, rfl, on, rfl⟩
        unfold Builtin.«set.__init__» noKeywords Builtin.Frozenset.updateFrom; generalize itq : pyIter = IT; wp_walk; subst itq

        refine wpAny_pyIter_list isL (wpAny_bind (wpAny_runValue ?_))
        have calm3 : A.in1.in1.in1.handled = none := by simp [hh]
        have sz : (s.heap.push (emptySet w)).objs.size = s.heap.objs.size + 1 := Heap.size_push ..
        have u1 : l ≠ (s.heap.push (emptySet w)).objs.size := by rw [sz]; exact Nat.ne_of_lt (Nat.lt_succ_of_lt hlS)
        have u2 : s.heap.objs.size ∉ [(s.heap.push (emptySet w)).objs.size, l] := by
          rw [sz]; simp only [List.mem_cons, List.not_mem_nil, or_false, not_or]
          exact ⟨Nat.ne_of_lt (Nat.lt_succ_self _), Nat.ne_of_gt hlS⟩
        have vals : ∀ (i : Nat) (v : Value), items[i]? = some v → ∃ k t, ns[i]? = some k ∧ v = .int k t := fun i v hv => by
          have hi : i < ns.length := by rw [← many]; exact (Array.getElem?_eq_some_iff.mp hv).1
          obtain ⟨t, e⟩ := IntsAre.int_at hit i v (by rw [Array.getElem?_toList]; exact hv)
          exact ⟨ns[i], t, List.getElem?_eq_getElem hi, by rw [e, List.getD_eq_getElem?_getD, List.getElem?_eq_getElem hi] <;> rfl⟩
        refine fill_ints ((Walks.list calm3 _ l u1 items).toS) s.heap.objs.size u2 ns many hb vals (items.size - 0) 0 _ (by omega) (Nat.zero_le _) ⟨⟨_, Heap.get?_push_size _ rfl, rfl, rfl⟩, (isL.push _)⟩ ?s0 ?sR
        case s0 => exact setR_new_at (Heap.get?_push_of_some _ atS)
        case sR =>
          intro s3 mv hS3
          obtain ⟨h', g2, d', tk', os'⟩ := s3
          obtain rfl : g2 = s.gens := mv.gens
          obtain rfl : d' = s.drawn := mv.drawn
          obtain rfl : os' = s.os := mv.os
          show wpAny _ _ _ _ _ _; refine wpAny_pure ?_; show wpAny _ _ (ret Value.none) _ _ _
          refine wpAny_pure ⟨rfl, h', tk', rfl, hS3, fun b o e => mv.heap b o ?_ (Heap.get?_push_of_some _ (Heap.get?_push_of_some _ e))⟩
          have hb0 := Heap.lt_size e
          rw [sz]; simp only [List.mem_cons, List.not_mem_nil, or_false, not_or]
          exact ⟨Nat.ne_of_lt hb0, Nat.ne_of_lt (Nat.lt_succ_of_lt hb0)⟩

      · cases r2 with
        | error e => exact hr2
        | ok fl2 =>
          cases fl2 with
          | ret r =>
            obtain ⟨rfl, h', tk, rfl, q1, q2⟩ := hr2
            repeat (any_goals (first | assumption | wp_step))
            exact h _ _ q1 q2
          | _ => exact hr2.elim
    | _ => exact hr.elim
end
section
variable {X : Cx} {W : WX}
/-- what set(xs) asks -/
def rSetL (K : PySem.W.Frag) (w : World) : List V → Hp → VK → Prop := fun vs H Q => ∃ (a : Addr) (ns : List Int), vs = [V.ref a] ∧ SqL K H a (ns.map V.int) ∧ (ssI ns).length < 64 ∧ ∀ p, H p = none → Q (.ref p) (upd H p (SetO w p (fun j => decide (j ∈ ns)) (ssI ns).length))
theorem cr_setL (hc : X.calm = true) : CallR X (.type "set") (rSetL X.K X.w) := by
  intro pins s σ H vs us Q I r h
  obtain ⟨a, ns, rfl, hs, h64, q⟩ := h
  obtain ⟨its, rv, hl, hz⟩ := I.list hs
  rw [Vals.ref1 r]
  refine set_of_list ns (I.ok.hd hc) hl.isList (by simpa using rv.ints) (by unfold scanBound; omega) fun h' tk R k => ?_
  exact ⟨.ref s.heap.objs.size, upd H s.heap.objs.size (SetO X.w s.heap.objs.size (fun j => decide (j ∈ ns)) (ssI ns).length), I.laid (t' := tk) k (Nat.le_refl _) (setO_new R), rfl, q _ (I.hok.fresh (Nat.le_refl _))⟩
def ssU (m : Bool) (u : U) (h : List O) : R U := (opt ((lstLike u h).bind intsOf) h).bind fun ns h => if (ssI ns).length < 64 then mkL m ((ssI ns).map .int) h else .bad
theorem den_ss {m : Bool} {e : Expr} {p p2 pos pos2 : Pos} {fe : En → List O → R U} (hc : X.calm = true) (g1 : Gl X "sorted") (m1 : X.mg "sorted" = none) (g2 : Gl X "set") (m2 : X.mg "set" = none) (he : Den X W e fe) (hs : isStar e = false) :
    Den X W (.Call (.Name "sorted" p) [.Call (.Name "set" p2) [e] [] pos2] [] pos) (ev1 fe (ssU m)) := by
  obtain ⟨te, pe, ce⟩ := he
  refine ⟨_, pe_callB (cr_sortedSet hc) g1 m1 PyProof.Rows.boot_sorted (pa_cons (pe_callTy (cr_setL hc) g2 m2 PyProof.Rows.boot_set (pa_cons pe pa_nil (star1 hs)) (he := star1 hs)) pa_nil), fun σ' h σ H μ Q re rh p => ?_⟩
  refine ce σ' h σ H μ _ re rh (Post.bind p fun u h1 H1 μ1 x e1 rh1 ru p1 => ?_)
  obtain ⟨ns, en, p2⟩ := Post.opt p1
  by_cases hl : (ssI ns).length < 64
  · rw [if_pos hl] at p2
    obtain ⟨xs, z, en2⟩ := Option.bind_eq_some_iff.mp en
    obtain ⟨a, vs, rfl, hq, rd⟩ := lstLike_of rh1 ru z
    have ev : vs = ns.map V.int := intsOf_of rd en2
    subst ev
    refine ⟨a, ns, rfl, hq, hl, fun q hq => ?_⟩
    refine ⟨q, _, _, rfl, upd_same, hl, fun ks l asc mem len hl => ?_⟩
    have ek : ks = ssI ns := asc_unique asc (ssI_asc ns) fun k => by rw [mem, ssI_mem]; simp
    subst ek
    have e2 : Ext μ1 H1 μ1 (upd H1 q (SetO X.w q (fun j => decide (j ∈ ns)) (ssI ns).length)) := Ext.new hq
    exact mkL_of (rh1.new hq) (RDs_ints _) (p2.at e2) l hl
  · rw [if_neg hl] at p2; exact p2.elim
end
end Py
/-! ### two clauses -/
namespace Py
open PySem PySem.Spec PyProof.Rows L2
theorem R.assoc {α β γ : Type} (r : R α) (f : α → List O → R β) (g : β → List O → R γ) : (r.bind f).bind g = r.bind fun a h => (f a h).bind g := by cases r <;> rfl
theorem noErr_bind {α β γ : Type} (r : R α) (f : α → List O → R β) (g : β → List O → R γ) : ((noErr r).bind f).bind g = (noErr r).bind fun a h => (f a h).bind g := R.assoc _ _ _
def lcGo2 (S : Src) (t : Tg) (vs : List Nat) (ft : En → List O → R Bool) (fi1 : En → List O → R Src) (t1 : Tg) (vs1 : List Nat) (ft1 : En → List O → R Bool) (fe : En → List O → R U) (a0 : Nat) : Nat → Nat → En → List O → R Unit
  | 0, _, _, _ => .bad
  | k + 1, i, σ, h => match S.at_ i h with
    | none => .bad
    | some none => .ok () h
    | some (some u) => match asg t u (wipeE σ vs) with
      | none => .bad
      | some σ1 => (noErr (ft σ1 h)).bind fun b h1 => if b = true then (noErr (fi1 σ1 h1)).bind fun S1 h2 => (if h2.length = a0 + 1 then lcGo S1 t1 vs1 ft1 fe a0 S1.top 0 σ1 h2 else .bad).bind fun _ h3 => lcGo2 S t vs ft fi1 t1 vs1 ft1 fe a0 k (i + 1) σ h3
        else lcGo2 S t vs ft fi1 t1 vs1 ft1 fe a0 k (i + 1) σ h1
def evLc2 (m : Bool) (t : Tg) (vs : List Nat) (fi : En → List O → R Src) (ft : En → List O → R Bool) (t1 : Tg) (vs1 : List Nat) (fi1 : En → List O → R Src) (ft1 : En → List O → R Bool) (fe : En → List O → R U) : En → List O → R U := fun σ h =>
  (fi σ h).bind fun S h1 => (lcGo2 S t vs ft fi1 t1 vs1 ft1 fe h1.length S.top 0 σ (h1 ++ [.lst []])).bind fun _ h2 => lcFin m h1.length h2
def tI (K : PySem.W.Frag) (W : WX) (f : En → List O → R Src) : TI := fun σ H Rr => ∃ σ' h μ, RE K H μ σ' σ ∧ Rh K H μ h ∧ Post K W σ H μ (SrR K) (f σ' h) Rr
section
variable {X : Cx} {W : WX}
theorem DenI.pi {tg e : Expr} {f : En → List O → R Src} (h : DenI X W tg e f) : PI X tg e (tI X.K W f) := by
  obtain ⟨t, p, c⟩ := h
  exact ⟨fun pins s σ H R I ⟨σ', h, μ, re, rh, q⟩ => p.run pins s σ H R I (c σ' h σ H μ R re rh q)⟩
/-- the loop of one clause, whatever comes behind it -/
theorem lc_loop {K : PySem.W.Frag} {σ σ1 : L2.St} {H1 H4 HD : Hp} {μ1 μ4 : List Addr} {Da : Addr} {a0 : Nat} {Q : VK} {S : Src} {J : It} {t : Tg} {vs : List Nat} {ft : En → List O → R Bool} {fe : En → List O → R U} {rest : List O → R U} {Nx : Hp → Prop} {σ1' : En} {h1 h4 : List O}
    (e0 : Ext μ1 H1 (μ1 ++ [Da]) HD) (ha : h1.length = a0) (hl : h1.length = μ1.length) (sr : SrR K H4 μ4 S J) (hl4 : μ4.length ≤ a0 + 1) (hsl : ∀ i ∈ t.slots, i ∈ vs)
    (nx : ∀ Hz μ' h', Ext (μ1 ++ [Da]) HD μ' Hz → Rh K Hz μ' h' → Post K W σ H1 μ1 (RU K) (rest h') Q → Nx Hz) (e4 : Ext (μ1 ++ [Da]) HD μ4 H4) (rh4 : Rh K H4 μ4 h4) (re4 : RE K H4 μ4 σ1' σ1)
    (p4 : Post K W σ H1 μ1 (RU K) ((lcGo S t vs ft fe a0 S.top 0 σ1' h4).bind fun _ h => rest h) Q) :
    ∃ W1 : Nat → Nat → Hp → Prop, (∃ m, W1 0 m H4) ∧ ∀ j k H, W1 j k H → (J.stop j H ∧ Nx H) ∨ (J.go j H ∧ ∃ Nx1 : Hp → Prop, (∀ H', Nx1 H' → ∃ k', k' < k ∧ W1 (j + 1) k' H') ∧ ∀ x H', J.yld j H x H' → tG K t x (wipe σ1 vs) H' fun σ3 H5 => wipe σ3 vs = wipe σ1 vs ∧
      tT K W0 ft σ3 H5 fun b H6 => if b = true then tE K W0 fe σ3 H6 fun y H7 => ∃ acc, H7 Da = some (.lst acc) ∧ acc.length < sizeLine ∧ Nx1 (upd H7 Da (.lst (acc ++ [y]))) else Nx1 H6) := by
  subst ha
  refine ⟨fun j k Hx => ∃ μ' h', Ext (μ1 ++ [Da]) HD μ' Hx ∧ Ext μ4 H4 μ' Hx ∧ Rh K Hx μ' h' ∧ Post K W σ H1 μ1 (RU K) ((lcGo S t vs ft fe h1.length k j σ1' h').bind fun _ h => rest h) Q,
    ⟨S.top, μ4, h4, e4, Ext.refl, rh4, p4⟩, ?_⟩
  rintro j k Hx ⟨μ', h', ex, ex4, rhx, px⟩
  cases k with
  | zero => exact px.elim
  | succ k =>
    unfold lcGo at px
    obtain ⟨sr1, sr2⟩ := sr Hx μ' h' ex4 rhx j
    cases hat : S.at_ j h' with
    | none => simp only [hat] at px; exact px.elim
    | some o =>
      cases o with
      | none => simp only [hat] at px; exact .inl ⟨sr1 hat, nx Hx μ' h' ex rhx px⟩
      | some u =>
        simp only [hat] at px
        obtain ⟨go, yl⟩ := sr2 u hat
        refine .inr ⟨go, fun Hz => ∃ μ' h', Ext (μ1 ++ [Da]) HD μ' Hz ∧ Ext μ4 H4 μ' Hz ∧ Rh K Hz μ' h' ∧ Post K W σ H1 μ1 (RU K) ((lcGo S t vs ft fe h1.length k (j + 1) σ1' h').bind fun _ h => rest h) Q, fun Hz z => ⟨k, Nat.lt_succ_self k, z⟩, fun x Hy y => ?_⟩
        obtain ⟨ey, rhy, ruy⟩ := yl x Hy y
        cases ea : asg t u (wipeE σ1' vs) with
        | none => simp only [ea] at px; exact px.elim
        | some σ2' =>
          simp only [ea] at px
          have re' : RE K Hy μ' σ1' σ1 := (re4.ext ex4).ext ey
          refine ⟨u, wipeE σ1' vs, σ2', μ', re'.wipe _, ruy, ea, fun σ2 re2 k2 => ⟨by rw [k2 _ hsl, wipe_idem], σ2', h', μ', re2, rhy, ?_⟩⟩
          rw [noErr_bind] at px
          refine Post.inner px fun b h3 H3 μ3 b' e3 rh3 rb p3 => ?_
          cases rb
          cases b with
          | false => rw [if_neg Bool.false_ne_true] at p3 ⊢; exact ⟨μ3, h3, (ex.trans ey).trans e3, (ex4.trans ey).trans e3, rh3, p3⟩
          | true =>
            rw [if_pos rfl] at p3 ⊢
            refine ⟨σ2', h3, μ3, re2.ext e3, rh3, ?_⟩
            rw [noErr_bind] at p3
            refine Post.inner p3 fun y h5 H5 μ5 yv e5 rh5 ry p5 => ?_
            have b5 := ((ex.trans ey).trans e3).trans e5
            have c5 := ((ex4.trans ey).trans e3).trans e5
            rw [R.assoc] at p5
            unfold pushAcc at p5
            split at p5
            · rename_i d acc ed q
              split at p5
              · rename_i hsz
                obtain ⟨hm, ws, q1, q2⟩ := at_acc b5 rh5 hl q
                have hz : ws.length < sizeLine := by rw [← q2.length, line_eq]; omega
                have rd := settle_ok rh5 ry ed
                have hmt : (μ5.take (h1.length + 1))[h1.length]? = some Da := by rw [List.getElem?_take_of_lt (by omega)]; exact hm
                exact ⟨ws, q1, hz, _, _, (b5.cut (by simp [hl])).trans (Ext.chg hmt q1), (c5.cut hl4).trans (Ext.chg hmt q1), (rh5.cut _).chg hmt (.lst ((q2.sub mem_take).append (.cons rd .nil))), p5⟩
              · exact p5.elim
            · exact p5.elim
theorem lc2_body {m : Bool} {t t1 : Tg} {wi : TI} {fi fi1 : En → List O → R Src} {ft ft1 : En → List O → R Bool} {fe : En → List O → R U} {vs vs1 : List Nat} (ci : ∀ σ' h σ H μ Rr, RE X.K H μ σ' σ → Rh X.K H μ h → Post X.K W σ H μ (SrR X.K) (fi σ' h) Rr → wi σ H Rr) (hsl : ∀ i ∈ t.slots, i ∈ vs) (hsl1 : ∀ i ∈ t1.slots, i ∈ vs1) :
    ∀ σ' h σ H μ Q, RE X.K H μ σ' σ → Rh X.K H μ h → Post X.K W σ H μ (RU X.K) (evLc2 m t vs fi ft t1 vs1 fi1 ft1 fe σ' h) Q → tLc2 wi (tG X.K t) (tT X.K W0 ft) (tI X.K W0 fi1) (tG X.K t1) (tT X.K W0 ft1) (tE X.K W0 fe) vs vs1 σ H Q := by
  intro σ' h σ H μ Q re rh p
  refine ci σ' h σ H μ _ re rh (Post.bind p fun S h1 H1 μ1 J e1 rh1 sr p1 => ?_)
  intro Da hD
  have e0 : Ext μ1 H1 (μ1 ++ [Da]) (upd H1 Da (.lst [])) := Ext.lab hD
  have hl := rh1.len
  refine ⟨fun i k Hx => ∃ μ' h', Ext (μ1 ++ [Da]) (upd H1 Da (.lst [])) μ' Hx ∧ Rh X.K Hx μ' h' ∧ Post X.K W σ H1 μ1 (RU X.K) ((lcGo2 S t vs ft fi1 t1 vs1 ft1 fe h1.length k i σ' h').bind fun _ h2 => lcFin m h1.length h2) Q,
    ⟨S.top, μ1 ++ [Da], h1 ++ [.lst []], Ext.refl, rh1.lab hD (.lst .nil), p1⟩, ?_⟩
  rintro i k Hx ⟨μ', h', ex, rhx, px⟩
  cases k with
  | zero => exact px.elim
  | succ k =>
    unfold lcGo2 at px
    obtain ⟨sr1, sr2⟩ := sr Hx μ' h' (e0.trans ex) rhx i
    cases hat : S.at_ i h' with
    | none => simp only [hat] at px; exact px.elim
    | some o =>
      cases o with
      | none => simp only [hat] at px; exact .inl ⟨sr1 hat, lcFin_of e0 ex rhx hl px⟩
      | some u =>
        simp only [hat] at px
        obtain ⟨go, yl⟩ := sr2 u hat
        refine .inr ⟨go, fun Hz => ∃ μ' h', Ext (μ1 ++ [Da]) (upd H1 Da (.lst [])) μ' Hz ∧ Rh X.K Hz μ' h' ∧ Post X.K W σ H1 μ1 (RU X.K) ((lcGo2 S t vs ft fi1 t1 vs1 ft1 fe h1.length k (i + 1) σ' h').bind fun _ h2 => lcFin m h1.length h2) Q,
          fun Hz z => ⟨k, Nat.lt_succ_self k, z⟩, fun x Hy y => ?_⟩
        obtain ⟨ey, rhy, ruy⟩ := yl x Hy y
        cases ea : asg t u (wipeE σ' vs) with
        | none => simp only [ea] at px; exact px.elim
        | some σ1' =>
          simp only [ea] at px
          have re' : RE X.K Hy μ' σ' σ := ((re.ext e1).ext (e0.trans ex)).ext ey
          refine ⟨u, wipeE σ' vs, σ1', μ', re'.wipe _, ruy, ea, fun σ1 re1 k1 => ⟨by rw [k1 _ hsl, wipe_idem], σ1', h', μ', re1, rhy, ?_⟩⟩
          rw [noErr_bind] at px
          refine Post.inner px fun b h3 H3 μ3 b' e3 rh3 rb p3 => ?_
          cases rb
          have ex3 := (ex.trans ey).trans e3
          cases b with
          | false => rw [if_neg Bool.false_ne_true] at p3 ⊢; exact ⟨μ3, h3, ex3, rh3, p3⟩
          | true =>
            rw [if_pos rfl] at p3 ⊢
            refine ⟨σ1', h3, μ3, re1.ext e3, rh3, ?_⟩
            rw [noErr_bind] at p3
            refine Post.inner p3 fun S1 h4 H4 μ4 J1 e4 rh4 sr4 p4 => ?_
            rw [R.assoc] at p4
            by_cases hh : h4.length = h1.length + 1
            · rw [if_pos hh] at p4
              exact lc_loop e0 rfl hl sr4 (by rw [← rh4.len]; omega) hsl1 (fun Hz μz hz ez rz pz => ⟨μz, hz, ez, rz, pz⟩) (ex3.trans e4) rh4 ((re1.ext e3).ext e4) p4
            · rw [if_neg hh] at p4; exact p4.elim
end
end Py
namespace Py
open PySem PySem.Spec PyProof.Rows L2
section
variable {X : Cx} {W : WX}
theorem den_lc2 {m : Bool} {elt tg iter tg1 iter1 : Expr} {ifs ifs1 : List Expr} {scope : Scope} {own : List (Str × Nat)} {pos : Pos} {t t1 : Tg} {vs vs1 : List Nat} {fi fi1 : En → List O → R Src} {ft ft1 : En → List O → R Bool} {fe : En → List O → R U} (hc : X.calm = true) (hN : X.N.Nodup) (hi : DenI X W tg iter fi) (ok : BlkOk X.N X.env.scope scope own)
    (hg : ∀ (s : Shared) (H : Hp) (C : Addr) (cl : List (Str × Addr)) (fp : List Addr), DenG (X.blk s H scope (compEnvC scope cl C X.env) fp) tg t)
    (ht : ∀ (s : Shared) (H : Hp) (C : Addr) (cl : List (Str × Addr)) (fp : List Addr), DenTs (X.blk s H scope (compEnvC scope cl C X.env) fp) W0 ifs ft)
    (hi1 : ∀ (s : Shared) (H : Hp) (C : Addr) (cl : List (Str × Addr)) (fp : List Addr), DenI (X.blk s H scope (compEnvC scope cl C X.env) fp) W0 tg1 iter1 fi1)
    (hg1 : ∀ (s : Shared) (H : Hp) (C : Addr) (cl : List (Str × Addr)) (fp : List Addr), DenG (X.blk s H scope (compEnvC scope cl C X.env) fp) tg1 t1)
    (ht1 : ∀ (s : Shared) (H : Hp) (C : Addr) (cl : List (Str × Addr)) (fp : List Addr), DenTs (X.blk s H scope (compEnvC scope cl C X.env) fp) W0 ifs1 ft1)
    (he : ∀ (s : Shared) (H : Hp) (C : Addr) (cl : List (Str × Addr)) (fp : List Addr), Den (X.blk s H scope (compEnvC scope cl C X.env) fp) W0 elt fe)
    (hv : own.map (·.2) = vs) (hsl : ∀ i ∈ t.slots, i ∈ vs) (hsl1 : ∀ i ∈ t1.slots, i ∈ vs1) (hvs : ∀ i ∈ vs1, i ∈ vs) (hs : isSetD iter = false) (hs1 : isSetD iter1 = false) :
    Den X W (.ListComp elt [⟨tg, iter, ifs, 0⟩, ⟨tg1, iter1, ifs1, 0⟩] scope pos) (evLc2 m t vs fi ft t1 vs1 fi1 ft1 fe) := by
  obtain ⟨wi, pi, ci⟩ := hi
  subst hv
  exact ⟨_, pe_lc2 (g := tG X.K t) (tt := tT X.K W0 ft) (wi1 := tI X.K W0 fi1) (g1 := tG X.K t1) (tt1 := tT X.K W0 ft1) (te := tE X.K W0 fe) (vs1 := vs1) hc hN pi ok hvs (fun s H C cl fp => (hg s H C cl fp).pg) ht (fun s H C cl fp => (hi1 s H C cl fp).pi) (fun s H C cl fp => (hg1 s H C cl fp).pg) ht1
    (fun s H C cl fp => (he s H C cl fp).pe) (noFold hs) (fun _ => noFold hs1), lc2_body ci hsl hsl1⟩
theorem dens_setLc2 {m : Bool} {i : Nat} {y : Str} {py : Pos} {elt tg iter tg1 iter1 : Expr} {ifs ifs1 : List Expr} {scope : Scope} {own : List (Str × Nat)} {pos spos : Pos} {t t1 : Tg} {vs vs1 : List Nat} {fi fi1 : En → List O → R Src} {ft ft1 : En → List O → R Bool} {fe : En → List O → R U} (hc : X.calm = true) (hN : X.N.Nodup) (hy : X.N[i]? = some y)
    (hyl : X.env.scope.names.lookup y = some .local) (hsw : swapsWith (.ListComp elt [⟨tg, iter, ifs, 0⟩, ⟨tg1, iter1, ifs1, 0⟩] scope pos) (some (.Name y py)) spos.line X.env = pure true) (hi : DenI X W tg iter fi) (ok : BlkOk X.N X.env.scope scope own)
    (hg : ∀ (s : Shared) (H : Hp) (C : Addr) (cl : List (Str × Addr)) (fp : List Addr), DenG (X.blk s H scope (compEnvC scope cl C X.env) fp) tg t)
    (ht : ∀ (s : Shared) (H : Hp) (C : Addr) (cl : List (Str × Addr)) (fp : List Addr), DenTs (X.blk s H scope (compEnvC scope cl C X.env) fp) W0 ifs ft)
    (hi1 : ∀ (s : Shared) (H : Hp) (C : Addr) (cl : List (Str × Addr)) (fp : List Addr), DenI (X.blk s H scope (compEnvC scope cl C X.env) fp) W0 tg1 iter1 fi1)
    (hg1 : ∀ (s : Shared) (H : Hp) (C : Addr) (cl : List (Str × Addr)) (fp : List Addr), DenG (X.blk s H scope (compEnvC scope cl C X.env) fp) tg1 t1)
    (ht1 : ∀ (s : Shared) (H : Hp) (C : Addr) (cl : List (Str × Addr)) (fp : List Addr), DenTs (X.blk s H scope (compEnvC scope cl C X.env) fp) W0 ifs1 ft1)
    (he : ∀ (s : Shared) (H : Hp) (C : Addr) (cl : List (Str × Addr)) (fp : List Addr), Den (X.blk s H scope (compEnvC scope cl C X.env) fp) W0 elt fe)
    (hv : own.map (·.2) = vs) (hsl : ∀ i ∈ t.slots, i ∈ vs) (hsl1 : ∀ i ∈ t1.slots, i ∈ vs1) (hvs : ∀ i ∈ vs1, i ∈ vs) (hs : isSetD iter = false) (hs1 : isSetD iter1 = false) :
    DenS X W (.Assign [.Name y py] (.ListComp elt [⟨tg, iter, ifs, 0⟩, ⟨tg1, iter1, ifs1, 0⟩] scope pos) spos) (sAsg (evLc2 m t vs fi ft t1 vs1 fi1 ft1 fe) (.nm i)) := by
  obtain ⟨wi, pi, ci⟩ := hi
  subst hv
  refine dens_of (ps_setLc2 (g := tG X.K t) (tt := tT X.K W0 ft) (wi1 := tI X.K W0 fi1) (g1 := tG X.K t1) (tt1 := tT X.K W0 ft1) (te := tE X.K W0 fe) (vs1 := vs1) hc hN hy hyl hsw pi ok hvs (fun s H C cl fp => (hg s H C cl fp).pg) ht (fun s H C cl fp => (hi1 s H C cl fp).pi)
    (fun s H C cl fp => (hg1 s H C cl fp).pg) ht1 (fun s H C cl fp => (he s H C cl fp).pe) (noFold hs) (fun _ => noFold hs1)) fun σ' h σ H μ D re rh p => ?_
  exact lc2_body ci hsl hsl1 σ' h σ H μ _ re rh (PostS.stm re p fun a h1 H1 μ1 b e1 rh1 rel p1 => p1.nx rh1 ((re.ext e1).set rel))
/-! ### list(range(..)), tuple(range(..)) -/
def rgD (a b : Int) : List D := (List.range (b - a).toNat).map fun i => .int (a + (i : Nat))
theorem rgD_rel {K : PySem.W.Frag} {H : Hp} {μ : List Addr} (a b : Int) : RDs K H μ (rgD a b) (rgV a b) := by
  unfold rgD rgV
  generalize List.range (b - a).toNat = l
  induction l with
  | nil => exact .nil
  | cons x l ih => exact .cons (.int _) ih
def rgB (a b : Int) : Bool := decide (-1000000000000000000 ≤ a) && decide (a ≤ 1000000000000000000) && decide (-1000000000000000000 ≤ b) && decide (b ≤ 1000000000000000000) && decide (b - a ≤ 10000000)
theorem rgB_ok {a b : Int} (h : rgB a b = true) : RgOk a b := by
  unfold rgB at h
  simp only [Bool.and_eq_true, decide_eq_true_eq] at h
  obtain ⟨⟨⟨⟨h1, h2⟩, h3⟩, h4⟩, h5⟩ := h
  have e : (2 : Int) ^ 62 = 4611686018427387904 := by decide
  exact ⟨by omega, by omega, by omega, by omega, by omega⟩
def rgEnds (us : List U) : Option (Int × Int) := match us with
  | [.d (.int j)] => some (0, j)
  | [.d (.int i), .d (.int j)] => some (i, j)
  | _ => none
def rngLU (tup m : Bool) (us : List U) (h : List O) : R U := (opt (rgEnds us) h).bind fun p h => if rgB p.1 p.2 = true then (if tup = true then .ok (.d (.tuple (rgD p.1 p.2))) h else mkL m (rgD p.1 p.2) h) else .bad
theorem rgEnds1 {u : U} {p : Int × Int} (h : rgEnds [u] = some p) : u = .d (.int p.2) ∧ p.1 = 0 := by
  unfold rgEnds at h
  split at h
  · rename_i j e; cases e; cases h; exact ⟨rfl, rfl⟩
  · rename_i i j e; cases e
  · cases h
theorem rgEnds2 {u v : U} {p : Int × Int} (h : rgEnds [u, v] = some p) : u = .d (.int p.1) ∧ v = .d (.int p.2) := by
  unfold rgEnds at h
  split at h
  · rename_i j e; cases e
  · rename_i i j e; cases e; cases h; exact ⟨rfl, rfl⟩
  · cases h
theorem rngLU_tup {K : PySem.W.Frag} {m : Bool} {us : List U} {h : List O} {σ : L2.St} {H : Hp} {μ : List Addr} {Q : VK} (rh : Rh K H μ h) (q : Post K W σ H μ (RU K) (rngLU true m us h) Q) : ∃ p, rgEnds us = some p ∧ RgOk p.1 p.2 ∧ ∀ l, H l = none → Q (.ref l) (upd H l (.tup (rgV p.1 p.2))) := by
  obtain ⟨p, ep, q⟩ := Post.opt q
  by_cases hb : rgB p.1 p.2 = true
  · rw [if_pos hb, if_pos rfl] at q; exact ⟨p, ep, rgB_ok hb, tup_of rh (rgD_rel _ _) q⟩
  · rw [if_neg hb] at q; exact q.elim
theorem rngLU_lst {K : PySem.W.Frag} {m : Bool} {us : List U} {h : List O} {σ : L2.St} {H : Hp} {μ : List Addr} {Q : VK} (rh : Rh K H μ h) (q : Post K W σ H μ (RU K) (rngLU false m us h) Q) : ∃ p, rgEnds us = some p ∧ RgOk p.1 p.2 ∧ ∀ l, H l = none → Q (.ref l) (upd H l (.lst (rgV p.1 p.2))) := by
  obtain ⟨p, ep, q⟩ := Post.opt q
  by_cases hb : rgB p.1 p.2 = true
  · rw [if_pos hb, if_neg Bool.false_ne_true] at q; exact ⟨p, ep, rgB_ok hb, mkL_of rh (rgD_rel _ _) q⟩
  · rw [if_neg hb] at q; exact q.elim
theorem den_rngL1 {m tup : Bool} {x : Str} {a : Expr} {p p2 pos pos2 : Pos} {fa : En → List O → R U} (hc : X.calm = true) (hx : x = if tup = true then "tuple" else "list") (g1 : Gl X x) (m1 : X.mg x = none) (g2 : Gl X "range") (m2 : X.mg "range" = none) (ha : Den X W a fa) (hs : isStar a = false) :
    Den X W (.Call (.Name x p) [.Call (.Name "range" p2) [a] [] pos2] [] pos) (ev1 fa fun u h => rngLU tup m [u] h) := by
  obtain ⟨t, pa, c⟩ := ha
  have rg := prg_1 (X := X) (p := p2) (pos := pos2) g2 m2 pa (star1 hs)
  cases tup with
  | true =>
    obtain rfl : x = "tuple" := hx
    refine ⟨_, pe_tupRg hc g1 m1 rg, fun σ' h σ H μ Q re rh q => ?_⟩
    refine c σ' h σ H μ _ re rh (Post.bind q fun u h1 H1 μ1 x e1 rh1 ru p1 => ?_)
    obtain ⟨⟨i, j⟩, ep, q1, q2⟩ := rngLU_tup rh1 p1
    obtain ⟨rfl, e0⟩ := rgEnds1 ep
    obtain rfl : i = 0 := e0
    exact ⟨j, ru.int_inv, q1, q2⟩
  | false =>
    obtain rfl : x = "list" := hx
    refine ⟨_, pe_listRg hc g1 m1 rg, fun σ' h σ H μ Q re rh q => ?_⟩
    refine c σ' h σ H μ _ re rh (Post.bind q fun u h1 H1 μ1 x e1 rh1 ru p1 => ?_)
    obtain ⟨⟨i, j⟩, ep, q1, q2⟩ := rngLU_lst rh1 p1
    obtain ⟨rfl, e0⟩ := rgEnds1 ep
    obtain rfl : i = 0 := e0
    exact ⟨j, ru.int_inv, q1, q2⟩
theorem den_rngL2 {m tup : Bool} {x : Str} {a b : Expr} {p p2 pos pos2 : Pos} {fa fb : En → List O → R U} (hc : X.calm = true) (hx : x = if tup = true then "tuple" else "list") (g1 : Gl X x) (m1 : X.mg x = none) (g2 : Gl X "range") (m2 : X.mg "range" = none) (ha : Den X W a fa) (hb : Den X W b fb) (hs : isStar a = false) (hs2 : isStar b = false) :
    Den X W (.Call (.Name x p) [.Call (.Name "range" p2) [a, b] [] pos2] [] pos) (ev2 fa fb fun u v h => rngLU tup m [u, v] h) := by
  obtain ⟨t, pa, c⟩ := ha
  obtain ⟨t2, pb, c2⟩ := hb
  have rg := prg_2 (X := X) (p := p2) (pos := pos2) g2 m2 pa pb (star1 hs) (star1 hs2) (noStar_any (by unfold noStar; simp [hs2]))
  cases tup with
  | true =>
    obtain rfl : x = "tuple" := hx
    refine ⟨_, pe_tupRg hc g1 m1 rg, fun σ' h σ H μ Q re rh q => ?_⟩
    refine c σ' h σ H μ _ re rh (Post.bind q fun u h1 H1 μ1 x e1 rh1 ru p1 => ?_)
    refine c2 σ' h1 σ H1 μ1 _ (re.ext e1) rh1 (Post.bind p1 fun v h2 H2 μ2 y e2 rh2 rv p2 => ?_)
    obtain ⟨⟨i, j⟩, ep, q1, q2⟩ := rngLU_tup rh2 p2
    obtain ⟨rfl, rfl⟩ := rgEnds2 ep
    exact ⟨i, j, ru.int_inv, rv.int_inv, q1, q2⟩
  | false =>
    obtain rfl : x = "list" := hx
    refine ⟨_, pe_listRg hc g1 m1 rg, fun σ' h σ H μ Q re rh q => ?_⟩
    refine c σ' h σ H μ _ re rh (Post.bind q fun u h1 H1 μ1 x e1 rh1 ru p1 => ?_)
    refine c2 σ' h1 σ H1 μ1 _ (re.ext e1) rh1 (Post.bind p1 fun v h2 H2 μ2 y e2 rh2 rv p2 => ?_)
    obtain ⟨⟨i, j⟩, ep, q1, q2⟩ := rngLU_lst rh2 p2
    obtain ⟨rfl, rfl⟩ := rgEnds2 ep
    exact ⟨i, j, ru.int_inv, rv.int_inv, q1, q2⟩
/-! ### x += e, x -= e of ints -/
def augI (sub : Bool) (u v : U) : Option Int := match u, v with
  | .d (.int i), .d (.int j) => some (if sub = true then i - j else i + j)
  | _, _ => none
def sAug (i : Nat) (sub : Bool) (f : En → List O → R U) : En → List O → Fl := fun σ h => match σ[i]? with
  | some (some x) => (f σ h).stm σ fun y h => match augI sub x y with
    | some k => .nx (σ.set i (some (.d (.int k)))) h
    | none => .bad
  | _ => .bad
theorem dens_aug {i : Nat} {x : Str} {e : Expr} {sub : Bool} {op : Operator} {pos pos' : Pos} {f : En → List O → R U} (hN : X.N.Nodup) (hi : X.N[i]? = some x) (hx : Loc X.env.scope x) (hf : X.fn x = true ∨ X.env.scope.names.lookup x = some .local) (ho : op = if sub = true then .Sub else .Add) (he : Den X W e f) :
    DenS X W (.AugAssign (.Name x pos') op e pos) (sAug i sub f) := by
  obtain ⟨t, p, c⟩ := he
  have po : PIp X op (ipI fun a b => if sub = true then a - b else a + b) := by
    subst ho
    cases sub with
    | true => exact ip_sub
    | false => exact ip_add
  refine dens_of (ps_aug hN hi hx p po hf) fun σ' h σ H μ D re rh q => ?_
  unfold sAug at q
  split at q
  · rename_i u hu
    obtain ⟨v, hv, ru⟩ := re.2 i u hu
    refine ⟨v, hv, c σ' h σ H μ _ re rh (PostS.stm re q fun a h1 H1 μ1 b e1 rh1 rel p1 => ?_)⟩
    split at p1
    · rename_i k ek
      unfold augI at ek
      split at ek
      · cases ek
        exact ⟨_, _, (ru.ext e1).int_inv, rel.int_inv, p1.nx rh1 ((re.ext e1).set (.d (.int _)))⟩
      · cases ek
    · exact p1.elim
  · exact q.elim
end
end Py

/-! more statements: an except clause with a name that asks for the error's class -/
namespace Py
open PySem PySem.Spec PyProof.Rows L2
section
variable {X : Cx} {W : WX}
/-- try: f / except x as N[i]: N[j] = isinstance(N[i], c) -/
def sTryIs (exm : Str → Str → Bool) (cls : List Str) (f : En → List O → Fl) (x : Str) (i j : Nat) (c : Str) : En → List O → Fl := fun σ h => match f σ h with
  | .er k σ h => if k ∈ cls then (if exm k x = true then (if i < σ.length then .nx ((σ.set j (some (.d (.bool (exm k c))))).set i none) h else .bad) else .er k σ h) else .bad
  | r => r
/-- what the classes must say -/
structure ExcAll (K : PySem.W.Frag) (cls : List Str) (exm : Str → Str → Bool) : Prop where
  ex : ∀ k ∈ cls, ExcC K (He.ga K k)
  kit : ∀ k ∈ cls, ∀ c ∈ cls, PySem.W.kitOne K (.ref (He.ga K k)) (.ref (He.ga K c)) = some (exm k c)
  exm : ∀ k ∈ cls, ∀ c ∈ cls, PySem.W.exmOne K (.ref (He.ga K k)) (.ref (He.ga K c)) = some (exm k c)
theorem dens_tryIs {body : List Stmt} {x n y c : Str} {i j : Nat} {np pos pos' py p1 p2 p3 p4 p5 : Pos} {exm : Str → Str → Bool} {cls : List Str} {f : En → List O → Fl}
    (hs : X.stack = X.env :: X.outer) (hf : X.env.frame = some X.env.locals) (tk : Takes X W) (hN : X.N.Nodup) (hi : X.N[i]? = some n) (hj : X.N[j]? = some y) (hij : i ≠ j) (hln : X.env.kindOf n = some .local) (hly : X.env.scope.names.lookup y = some .local)
    (hvn : Vis X.env.scope n) (hd : (n == ("__debug__" : Str)) = false) (hcd : (n == ("__classdict__" : Str)) = false)
    (hx : Gl X x) (hxd : (x == ("__debug__" : Str)) = false) (hxm : X.mg x = some (.ref (He.ga X.K x))) (hxc : x ∈ cls)
    (hc : Gl X c) (hcdb : (c == ("__debug__" : Str)) = false) (hcm : X.mg c = some (.ref (He.ga X.K c))) (hcc : c ∈ cls)
    (gi : Gl X "isinstance") (mi : X.mg "isinstance" = none) (E : ExcAll X.K cls exm)
    (hb : ∀ (W' : WX) (pn : List (Addr × Obj)) (xe : Value → Shared → Prop), Takes (X.tr pn xe) W' → PassesOwn (model X.prog X.w) X.A X.env xe → DenB (X.tr pn xe) W' body f) :
    DenS X W (.Try body [.ExceptHandler (some (.Name x np)) (some n) [.Assign [.Name y py] (.Call (.Name "isinstance" p1) [.Name n p2, .Name c p3] [] p4) p5] pos'] [] [] pos) (sTryIs exm cls f x i j c) := by
  let te : Addr → Addr → TE := fun k a => tCB (rIsE X.K k a) (tCons (tVar i) (tCons (tC (.ref (He.ga X.K c))) tNil))
  let ts : Addr → Value → Option Addr → TS := fun a cv d D σ H => ∃ k ∈ cls, cv = .ref (He.ga X.K k) ∧ d = none ∧ tAsg (te (He.ga X.K k) a) (gName j) D σ H
  have hsu : ∀ (a : Addr) (oe : Obj) (cv : Value) (d : Option Addr) (pn : List (Addr × Obj)), Zc cv d oe → (∃ vs, oe.data = .fields vs) → PSs (X.suite a ((a, oe) :: pn)) [.Assign [.Name y py] (.Call (.Name "isinstance" p1) [.Name n p2, .Name c p3] [] p4) p5] (ts a cv d) := by
    intro a oe cv d pn hz hfl
    refine ⟨fun pins s σ H D I ⟨k, hk, e1, e2, h⟩ => ?_⟩
    subst e1 e2
    have ci : CallR (X.suite a ((a, oe) :: pn)) (.builtin "isinstance") (rIsE X.K (He.ga X.K k) a) := call_isE (E.ex k hk) hz hfl
    have pe : PE (X.suite a ((a, oe) :: pn)) (.Call (.Name "isinstance" p1) [.Name n p2, .Name c p3] [] p4) (te (He.ga X.K k) a) :=
      pe_callB ci gi mi rfl (pa_cons (pe_var hi hvn hd hcd) (pa_cons (pe_glob hc hcm (v := .ref (He.ga X.K c)) rfl hcdb) pa_nil))
    have ps : PS (X.suite a ((a, oe) :: pn)) (.Assign [.Name y py] (.Call (.Name "isinstance" p1) [.Name n p2, .Name c p3] [] p4) p5) (tAsg (te (He.ga X.K k) a) (gName j)) :=
      ps_asg pe (pg_name hN hj (.inl hly) (.inr hly))
    exact (pss_cons ps pss_nil).run pins s σ H D I h
  refine dens_of (ps_try_as (tb := fun W' => tS X.K W' f) (ts := ts) (c := .ref (He.ga X.K x)) hs hf hN hi hln ⟨hx, hxd, .inl hxm⟩ tk hb hsu) fun σ' h σ H μ D re rh p => ⟨σ', h, μ, re, rh, ?_⟩
  unfold sTryIs at p
  cases hq : f σ' h with
  | nx s h3 => simp only [hq] at p; exact p
  | ct s h3 => simp only [hq] at p; exact p
  | bk s h3 => simp only [hq] at p; exact p
  | ret s h3 => simp only [hq] at p; exact p
  | bad => simp only [hq] at p; exact p
  | er k s h3 =>
    simp only [hq] at p
    by_cases hm : k ∈ cls
    · rw [if_pos hm] at p
      intro σ3 H3 μ3 e3 rh3 re3
      refine ⟨exm k x, E.exm k hm x hxc, fun e a na => ?_, fun e => ?_⟩
      · rw [if_pos e] at p
        by_cases hl : i < s.length
        · rw [if_pos hl] at p
          refine ⟨k, hm, rfl, rfl, ?_⟩
          have hl3 : i < σ3.length := by rw [← re3.1]; exact hl
          refine ⟨.ref a, by rw [List.getElem?_set_self hl3], .ref (He.ga X.K c), .ref (He.ga X.K c), exm k c, rfl, fun u hu => hu, E.kit k hm c hcc, ?_⟩
          refine p _ H3 μ3 e3 rh3 ?_
          have r4 := re3.set (i := j) (RU.d (RD.bl (K := X.K) (H := H3) (μ := μ3) (exm k c)))
          refine ⟨by simpa using re3.1, fun m u hm => ?_⟩
          by_cases hmi : i = m
          · subst hmi
            rw [List.getElem?_set_self (by simpa using hl)] at hm
            cases hm
          · rw [List.getElem?_set_ne hmi] at hm ⊢
            obtain ⟨v, e4, r5⟩ := r4.2 m u hm
            refine ⟨v, ?_, r5⟩
            rw [← e4]
            by_cases hmj : j = m
            · subst hmj
              have : j < σ3.length := by
                have := (List.getElem?_eq_some_iff.mp e4).1
                simpa using this
              rw [List.getElem?_set_self (by simpa using this), List.getElem?_set_self this]
            · rw [List.getElem?_set_ne hmj, List.getElem?_set_ne hmj, List.getElem?_set_ne hmi]
        · rw [if_neg hl] at p; exact p.elim
      · rw [if_neg (by rw [e]; exact Bool.false_ne_true)] at p
        exact p σ3 H3 μ3 e3 rh3 re3
    · rw [if_neg hm] at p; exact p.elim
end
end Py

/-! the compact tree of an expression, what it says, when it fits the text -/
namespace Py
open PySem PySem.Spec PyProof.Rows L2
inductive Bop where
  | add | sub | mul | fdiv | mod | pow | shl | shr | band | bor
inductive Cop where
  | lt | le | gt | ge | eq | ne | is_ | isn | in_ | nin
inductive Bi where
  | len | all | any | sum | max | min | abs | int | tuple | list | sorted | isi
inductive Mn where
  | append | pop | extend
mutual
inductive Ex where
  | var (i : Nat) | int (i : Int) | bl (b : Bool) | str (s : Str) | non
  | gint (x : Str) (i : Int) | gtup (x : Str) | gl (x : Str) | ty (x : Str) (n : String)
  | bin (o : Bop) (m : Bool) (a b : Ex) | neg (a : Ex) | cmp (o : Cop) (a b : Ex) | chn (o p : Cop) (a b c : Ex)
  | and (a b : Ex) | or (a b : Ex) | one (a : Ex) | not (a : Ex) | ife (c a b : Ex) | tup (l : Es) | lst (m : Bool) (l : Es)
  | ix (a b : Ex) | sl (m : Bool) (a : Ex) (lo hi : Ox)
  | bi (f : Bi) (m : Bool) (l : Es) | mxd (a d : Ex) | bits (a : Ex) | me (n : Mn) (o : Ex) (l : Es)
  | call (f : Str) (perm : List Nat) (a k : Es)
  | lc (m : Bool) (t : Tg) (w : Wk) (c : Ox) (e : Ex)
  | lc2 (m : Bool) (t : Tg) (w : Wk) (c : Ox) (t1 : Tg) (w1 : Wk) (c1 : Ox) (e : Ex) | ss (m : Bool) (a : Ex) | rl1 (tup m : Bool) (a : Ex) | rl2 (tup m : Bool) (a b : Ex)
  | dnew | get1 (o e : Ex) | get2 (o e f : Ex) | lock (i : Nat) (e : Ex)
inductive Es where
  | nil | cons (e : Ex) (l : Es)
inductive Ox where
  | no | yes (e : Ex)
inductive Wk where
  | seq (e : Ex) | rng (l : Es) | enu (l : Es) | zip (l : Es) | its (e : Ex) | vals (e : Ex)
end
def okT : Ex → Bool
  | .and a b => okT a && okT b
  | .or a b => okT a && okT b
  | .one a => okT a
  | .not a => okT a
  | .cmp _ _ _ => true
  | .chn _ _ _ _ _ => true
  | .var _ => true
  | .bl _ => true
  | .bi _ _ _ => true
  | .call _ _ _ _ => true
  | .ix _ _ => true
  | .bin _ _ _ _ => true
  | .lc _ _ _ _ _ => true
  | .sl _ _ _ _ => true
  | _ => false
def Es.len : Es → Nat
  | .nil => 0
  | .cons _ l => l.len + 1
/-- what the top of the text holds -/
structure Gt where
  gi : List (Str × Int)
  gt : List (Str × List D)
  gf : List Str
  gg : List Str
  gx : List Str
  gd : List (Str × List Str)
  gs : List (Str × Nat × List Str × List Nat)
  gm : List (Str × Str)
def Gt.tup (G : Gt) (x : Str) : Option (List D) := (G.gt.find? fun p => p.1 = x).map (·.2)
def binU (o : Bop) (m : Bool) : U → U → List O → R U := match o with
  | .add => addU m
  | .sub => intOp gSubI
  | .mul => mulU m
  | .fdiv => intOp gFdiv
  | .mod => intOp gFmod
  | .pow => intOp gPow
  | .shl => intOp gShl
  | .shr => intOp gShr
  | .band => intOp gAnd
  | .bor => intOp gOr
def cmpU (o : Cop) : U → U → List O → R U := match o with
  | .lt => cmpI fun i j => decide (i < j)
  | .le => cmpI fun i j => decide (i ≤ j)
  | .gt => cmpI fun i j => decide (j < i)
  | .ge => cmpI fun i j => decide (j ≤ i)
  | .eq => eqU false
  | .ne => eqU true
  | .is_ => isU false
  | .isn => isU true
  | .in_ => inU false
  | .nin => inU true
def biU (f : Bi) (m : Bool) : List U → List O → R U := match f with
  | .len => g1 lenU
  | .all => g1 allU
  | .any => g1 anyU
  | .sum => g1 sumU
  | .max => maxG
  | .min => minG
  | .abs => g1 absU
  | .int => g1 intU
  | .tuple => g1 tupleU
  | .list => g1 (listU m)
  | .sorted => g1 (sortedU m)
  | .isi => g2 isiU
def meU (n : Mn) : U → List U → List O → R U := match n with
  | .append => appG
  | .pop => popG
  | .extend => extG
section
variable (G : Gt) (C : Str → List U → List O → R U)
mutual
def ev : Ex → En → List O → R U
  | .var i => evV i
  | .int i => evC (.d (.int i))
  | .bl b => evC (.d (.bool b))
  | .str s => evC (.d (.str s))
  | .non => evC (.d .none)
  | .gint _ i => evC (.d (.int i))
  | .gtup x => fun _ h => (opt (G.tup x) h).bind fun ds h => .ok (.d (.tuple ds)) h
  | .gl x => evC (.gl x)
  | .ty _ n => evC (.ty n)
  | .bin o m a b => ev2 (ev a) (ev b) (binU o m)
  | .neg a => ev1 (ev a) negU
  | .cmp o a b => ev2 (ev a) (ev b) (cmpU o)
  | .chn o p a b c => evCh (ev a) (ev b) (ev c) (cmpU o) (cmpU p)
  | .and a b => vAnd (ev a) (ev b)
  | .or a b => vOr (ev a) (ev b)
  | .one a => ev a
  | .not a => vNot (ev a)
  | .ife c a b => evIf (tv c) (ev a) (ev b)
  | .tup l => evTup (evs l)
  | .lst m l => evLst m (evs l)
  | .ix a b => ev2 (ev a) (ev b) getU
  | .sl m a lo hi => evSl m (ev a) (evo lo) (evo hi)
  | .bi f m l => evCall (evs l) (biU f m)
  | .mxd a d => ev2 (ev a) (ev d) maxDU
  | .bits a => ev1 (ev a) fun u h => (opt (asI u) h).bind fun i h => .ok (.d (.int (Builtin.Int.intBits i : Nat))) h
  | .me n o l => evMe isLst (ev o) (evs l) (meU n)
  | .call f perm a k => evCl a.len k.len perm (evs a) (evs k) (C f)
  | .lc m t w c e => evLc m t t.slots (evw w) (evc c) (ev e)
  | .lc2 m t w c t1 w1 c1 e => evLc2 m t (t.slots ++ t1.slots) (evw w) (evc c) t1 t1.slots (evw w1) (evc c1) (ev e)
  | .ss m a => ev1 (ev a) (ssU m)
  | .rl1 tup m a => ev1 (ev a) fun u h => rngLU tup m [u] h
  | .rl2 tup m a b => ev2 (ev a) (ev b) fun u v h => rngLU tup m [u, v] h
  | .dnew => evDnew
  | .get1 o e => evGet1 (ev o) (ev e)
  | .get2 o e f => evGet2 (ev o) (ev e) (ev f)
  | .lock i e => lockE i (ev e)
def tv : Ex → En → List O → R Bool
  | .and a b => tAndE (tv a) (tv b)
  | .or a b => tOrE (tv a) (tv b)
  | .one a => tv a
  | .not a => tNotE (tv a)
  | .cmp o a b => evB (ev2 (ev a) (ev b) (cmpU o))
  | .chn o p a b c => evB (evCh (ev a) (ev b) (ev c) (cmpU o) (cmpU p))
  | .var i => evT (evV i)
  | .bl b => evT (evC (.d (.bool b)))
  | .bi f m l => evT (evCall (evs l) (biU f m))
  | .call f perm a k => evT (evCl a.len k.len perm (evs a) (evs k) (C f))
  | .ix a b => evT (ev2 (ev a) (ev b) getU)
  | .bin o m a b => evT (ev2 (ev a) (ev b) (binU o m))
  | .lc m t w c e => evT (evLc m t t.slots (evw w) (evc c) (ev e))
  | .sl m a lo hi => evT (evSl m (ev a) (evo lo) (evo hi))
  | _ => fun _ _ => .bad
def evs : Es → En → List O → R (List U)
  | .nil => evNil
  | .cons e l => evCons (ev e) (evs l)
def evo : Ox → En → List O → R (Option Int)
  | .no => evNo
  | .yes e => evPart (ev e)
def evc : Ox → En → List O → R Bool
  | .no => fun _ h => .ok true h
  | .yes e => tv e
def evw : Wk → En → List O → R Src
  | .seq e => fun σ h => (ev e σ h).bind srcK
  | .rng l => fun σ h => (evs l σ h).bind fun us h => if us.length = l.len then rngS us h else .bad
  | .enu l => fun σ h => (evs l σ h).bind enuS
  | .zip l => fun σ h => (evs l σ h).bind zipS
  | .its e => fun σ h => (ev e σ h).bind itemsU
  | .vals e => fun σ h => (ev e σ h).bind valuesU
end
end

/-! ### when a tree fits the text -/
/-- the names of a block -/
structure Lm where
  N : List Str
  sc : Scope
  fc : Str → Bool
def visB (sc : Scope) (x : Str) : Bool := match sc.names.lookup x with
  | some .local => true
  | some .cell => true
  | some .free => true
  | _ => false
def glB (sc : Scope) (x : Str) : Bool := match sc.names.lookup x with
  | some .globalImplicit => true
  | _ => false
def locB (L : Lm) (x : Str) : Bool := match L.sc.names.lookup x with
  | some .local => true
  | some .cell => L.fc x
  | _ => false
def plN (x : Str) : Bool := !(x == ("__debug__" : Str)) && !(x == ("__classdict__" : Str))
def opB (o : Bop) (op : Operator) : Bool := match o with
  | .add => op == .Add
  | .sub => op == .Sub
  | .mul => op == .Mult
  | .fdiv => op == .FloorDiv
  | .mod => op == .Mod
  | .pow => op == .Pow
  | .shl => op == .LShift
  | .shr => op == .RShift
  | .band => op == .BitAnd
  | .bor => op == .BitOr
def cmB (o : Cop) (op : CmpOp) : Bool := match o with
  | .lt => op == .Lt
  | .le => op == .LtE
  | .gt => op == .Gt
  | .ge => op == .GtE
  | .eq => op == .Eq
  | .ne => op == .NotEq
  | .is_ => op == .Is
  | .isn => op == .IsNot
  | .in_ => op == .In
  | .nin => op == .NotIn
def biN (f : Bi) : Str := match f with
  | .len => "len"
  | .all => "all"
  | .any => "any"
  | .sum => "sum"
  | .max => "max"
  | .min => "min"
  | .abs => "abs"
  | .int => "int"
  | .tuple => "tuple"
  | .list => "list"
  | .sorted => "sorted"
  | .isi => "isinstance"
def mnN (n : Mn) : Str := match n with
  | .append => "append"
  | .pop => "pop"
  | .extend => "extend"
def tyB (x : Str) (n : String) : Bool := match bootBuiltins x with
  | some (.type m) => m == n
  | _ => false
mutual
def chkG : Tg → Lm → Expr → Bool
  | .nm i, L, e => match e with
    | .Name x _ => decide (L.N[i]? = some x) && locB L x
    | _ => false
  | .tup ts, L, e => match e with
    | .Tuple es _ _ => decide (es.length = ts.len) && chkGs ts L es
    | _ => false
def chkGs : Tgs → Lm → List Expr → Bool
  | .nil, _, es => match es with
    | [] => true
    | _ => false
  | .cons t ts, L, es => match es with
    | e :: es => !isStar e && chkG t L e && chkGs ts L es
    | _ => false
end
def isTupE : Expr → Bool
  | .Tuple _ _ _ => true
  | _ => false
def isTgE : Expr → Bool
  | .Tuple _ _ _ => true
  | .Name _ _ => true
  | _ => false
def inner (L : Lm) (scope : Scope) : Lm := ⟨L.N, relS scope L.sc, fun x => scope.names.lookup x == some .cell⟩
def owns (L : Lm) (vs : List Nat) : List (Str × Nat) := vs.map fun i => (L.N.getD i "", i)
section
variable (G : Gt)
mutual
def chk : Ex → Lm → Expr → Bool
  | .var i, L, e => match e with
    | .Name x _ => decide (L.N[i]? = some x) && visB L.sc x && plN x
    | _ => false
  | .int i, _, e => match e with
    | .Constant (.int j) _ _ => decide (i = j)
    | _ => false
  | .bl i, _, e => match e with
    | .Constant (.bool j) _ _ => i == j
    | _ => false
  | .str s, _, e => match e with
    | .Constant (.str j) _ _ => decide (s = j) && PyData.strOk s
    | _ => false
  | .non, _, e => match e with
    | .Constant .none _ _ => true
    | _ => false
  | .gint y i, L, e => match e with
    | .Name x _ => decide (x = y) && glB L.sc x && plN x && decide ((x, i) ∈ G.gi)
    | _ => false
  | .gtup y, L, e => match e with
    | .Name x _ => decide (x = y) && glB L.sc x && plN x
    | _ => false
  | .gl y, L, e => match e with
    | .Name x _ => decide (x = y) && glB L.sc x && plN x && decide (x ∈ G.gg)
    | _ => false
  | .ty y n, L, e => match e with
    | .Name x _ => decide (x = y) && glB L.sc x && plN x && decide (x ∈ G.gf) && tyB x n && decide (x ≠ "__name__")
    | _ => false
  | .bin o m a b, L, e => match e with
    | .BinOp x op y _ => opB o op && chk a L x && chk b L y
    | _ => false
  | .neg a, L, e => match e with
    | .UnaryOp .USub x _ => chk a L x
    | _ => false
  | .cmp o a b, L, e => match e with
    | .Compare x [op] [y] _ => cmB o op && chk a L x && chk b L y && !behindInMarks op y
    | _ => false
  | .chn o p a b c, L, e => match e with
    | .Compare x [op, oq] [y, z] _ => cmB o op && cmB p oq && chk a L x && chk b L y && chk c L z && !lastMarks [op, oq] [y, z]
    | _ => false
  | .and a b, L, e => match e with
    | .BoolOp .And (x :: y :: r) pos => chk a L x && chk b L (.BoolOp .And (y :: r) pos)
    | _ => false
  | .or a b, L, e => match e with
    | .BoolOp .Or (x :: y :: r) pos => chk a L x && chk b L (.BoolOp .Or (y :: r) pos)
    | _ => false
  | .one a, L, e => match e with
    | .BoolOp _ [x] _ => chk a L x
    | _ => false
  | .not a, L, e => match e with
    | .UnaryOp .Not x _ => chk a L x
    | _ => false
  | .ife c a b, L, e => match e with
    | .IfExp z x y _ => chk c L z && okT c && chk a L x && chk b L y
    | _ => false
  | .tup l, L, e => match e with
    | .Tuple es _ _ => chks l L es
    | _ => false
  | .lst m l, L, e => match e with
    | .List es _ => chks l L es
    | _ => false
  | .ix a b, L, e => match e with
    | .Subscript x y _ => chk a L x && chk b L y && !isSl y
    | _ => false
  | .sl m a lo hi, L, e => match e with
    | .Subscript x (.Slice l h none _) _ => chk a L x && chko lo L l && chko hi L h
    | _ => false
  | .bi f m l, L, e => match e with
    | .Call (.Name x _) (y :: ys) [] _ => decide (x = biN f) && glB L.sc x && decide (x ∈ G.gf) && chks l L (y :: ys)
    | _ => false
  | .mxd a d, L, e => match e with
    | .Call (.Name x _) [y] [⟨some z, w, _⟩] _ => decide (x = "max") && decide (z = "default") && glB L.sc x && decide (x ∈ G.gf) && chk a L y && chk d L w && !isStar y
    | _ => false
  | .bits a, L, e => match e with
    | .Call (.Attribute x y ap) [] [] p => decide (y = "bit_length") && !isCall x && (ap.endLine == p.line) && chk a L x
    | _ => false
  | .me n a l, L, e => match e with
    | .Call (.Attribute x y ap) es [] p => decide (y = mnN n) && !isCall x && (ap.endLine == p.line) && decide (es.length < 30) && chk a L x && chks l L es
    | _ => false
  | .call f perm a k, L, e => match e with
    | .Call (.Name x _) es kws _ => decide (x = f) && glB L.sc x && plN x && chks a L es && chkk k L kws && (match kwNames kws with
      | some ks => decide ((x, es.length, ks, perm) ∈ G.gs) && perm.all (fun i => decide (i < es.length + ks.length)) && G.gd.any (fun p => decide (p.1 = x) && decide (p.2.length = perm.length))
      | none => false)
    | _ => false
  | .lc m t w c e0, L, e => match e with
    | .ListComp elt [⟨tg, iter, ifs, 0⟩] scope _ => chkw w L tg iter && chkG t (inner L scope) tg && chkc c (inner L scope) ifs && chk e0 (inner L scope) elt && blkC L.N L.sc scope (owns L t.slots) && !isSetD iter
    | _ => false
  | .lc2 m t w c t1 w1 c1 e0, L, e => match e with
    | .ListComp elt [⟨tg, iter, ifs, 0⟩, ⟨tg1, iter1, ifs1, 0⟩] scope _ => chkw w L tg iter && chkG t (inner L scope) tg && chkc c (inner L scope) ifs && chkw w1 (inner L scope) tg1 iter1 && chkG t1 (inner L scope) tg1 && chkc c1 (inner L scope) ifs1 && chk e0 (inner L scope) elt && blkC L.N L.sc scope (owns L (t.slots ++ t1.slots)) && !isSetD iter && !isSetD iter1
    | _ => false
  | .ss m a, L, e => match e with
    | .Call (.Name x _) [.Call (.Name y _) [z] [] _] [] _ => decide (x = "sorted") && decide (y = "set") && glB L.sc x && decide (x ∈ G.gf) && glB L.sc y && decide (y ∈ G.gf) && chk a L z && !isStar z
    | _ => false
  | .rl1 tup m a, L, e => match e with
    | .Call (.Name x _) [.Call (.Name y _) [z] [] _] [] _ => decide (x = if tup = true then "tuple" else "list") && decide (y = "range") && glB L.sc x && decide (x ∈ G.gf) && glB L.sc y && decide (y ∈ G.gf) && chk a L z && !isStar z
    | _ => false
  | .rl2 tup m a b, L, e => match e with
    | .Call (.Name x _) [.Call (.Name y _) [z, v] [] _] [] _ => decide (x = if tup = true then "tuple" else "list") && decide (y = "range") && glB L.sc x && decide (x ∈ G.gf) && glB L.sc y && decide (y ∈ G.gf) && chk a L z && chk b L v && !isStar z && !isStar v
    | _ => false
  | .dnew, _, e => match e with
    | .Dict [] [] _ => true
    | _ => false
  | .get1 o a, L, e => match e with
    | .Call (.Attribute x y ap) [z] [] p => decide (y = "get") && !isCall x && (ap.endLine == p.line) && chk o L x && chk a L z && !isStar z
    | _ => false
  | .get2 o a b, L, e => match e with
    | .Call (.Attribute x y ap) [z, v] [] p => decide (y = "get") && !isCall x && (ap.endLine == p.line) && chk o L x && chk a L z && chk b L v && !isStar z && !isStar v
    | _ => false
  | .lock _ a, L, e => chk a L e
def chks : Es → Lm → List Expr → Bool
  | .nil, _, es => match es with
    | [] => true
    | _ => false
  | .cons x l, L, es => match es with
    | e :: r => chk x L e && !isStar e && chks l L r
    | _ => false
def chkk : Es → Lm → List Keyword → Bool
  | .nil, _, es => match es with
    | [] => true
    | _ => false
  | .cons x l, L, es => match es with
    | ⟨_, e, _⟩ :: r => chk x L e && chkk l L r
    | _ => false
def chko : Ox → Lm → Option Expr → Bool
  | .no, _, e => match e with
    | none => true
    | _ => false
  | .yes x, L, e => match e with
    | some e => chk x L e
    | _ => false
def chkc : Ox → Lm → List Expr → Bool
  | .no, _, es => match es with
    | [] => true
    | _ => false
  | .yes x, L, es => match es with
    | [e] => chk x L e && okT x
    | _ => false
def chkw : Wk → Lm → Expr → Expr → Bool
  | .seq x, L, _, e => chk x L e
  | .rng l, L, _, e => match e with
    | .Call (.Name x _) es [] _ => decide (x = "range") && glB L.sc x && decide (x ∈ G.gf) && decide (0 < es.length) && decide (es.length ≤ 3) && chks l L es
    | _ => false
  | .enu l, L, tg, e => match e with
    | .Call (.Name x _) [y] [] _ => decide (x = "enumerate") && glB L.sc x && decide (x ∈ G.gf) && isTupE tg && chks l L [y]
    | _ => false
  | .zip l, L, tg, e => match e with
    | .Call (.Name x _) [y, z] [] _ => decide (x = "zip") && glB L.sc x && decide (x ∈ G.gf) && isTupE tg && chks l L [y, z]
    | _ => false
  | .its a, L, tg, e => match e with
    | .Call (.Attribute x y ap) [] [] p => decide (y = "items") && !isCall x && (ap.endLine == p.line) && isTgE tg && chk a L x
    | _ => false
  | .vals a, L, _, e => match e with
    | .Call (.Attribute x y ap) [] [] p => decide (y = "values") && !isCall x && (ap.endLine == p.line) && chk a L x
    | _ => false
end
end
end Py

/-! a tree that fits says what the text does: expressions -/
namespace Py
open PySem PySem.Spec PyProof.Rows L2
structure GF (K : PySem.W.Frag) (mg : Str → Option Value) (G : Gt) : Prop where
  gi : ∀ p ∈ G.gi, ∃ t, mg p.1 = some (.int p.2 t)
  gt : ∀ p ∈ G.gt, mg p.1 = some (.ref (He.ga K p.1)) ∧ ∃ vs, KTup K (He.ga K p.1) vs ∧ ∀ H μ, RDs K H μ p.2 vs
  gf : ∀ x ∈ G.gf, mg x = none
  gg : ∀ x ∈ G.gg, mg x = some (.ref (He.ga K x))
structure FF (X : Cx) (G : Gt) (C : Str → List U → List O → R U) (k : Nat) : Prop where
  ok : ∀ p ∈ G.gd, X.mg p.1 = some (.ref (He.ga X.K p.1)) ∧ PySem.W.keepIn X.K (.ref (He.ga X.K p.1)) = true ∧ ∃ fd, FnOk X.prog X.w X.K X.mg X.base (L2.CX X.prog X.w) k (He.ga X.K p.1) fd p.2 (spF X.K p.2.length (C p.1)) ∧
    ∀ n ks perm, (p.1, n, ks, perm) ∈ G.gs → BindOk X.K fd p.2 n ks perm
structure Cxt (G : Gt) (C : Str → List U → List O → R U) (k : Nat) (X : Cx) (W : WX) (L : Lm) : Prop where
  N : X.N = L.N
  nd : L.N.Nodup
  sc : X.env.scope = L.sc
  calm : X.calm = true
  room : Room k X.A
  tk : Takes X W
  gf : GF X.K X.mg G
  ff : FF X G C k
  fc : ∀ x, L.fc x = true → X.fn x = true
section
variable {G : Gt} {C : Str → List U → List O → R U} {k : Nat}
theorem Cxt.gl {X : Cx} {W : WX} {L : Lm} (c : Cxt G C k X W L) {x : Str} (h : glB L.sc x = true) : Gl X x := by
  unfold glB at h
  split at h
  · rename_i q
    show X.env.scope.names.lookup x = _
    rw [c.sc]; exact q
  · cases h
theorem Cxt.vis {X : Cx} {W : WX} {L : Lm} (c : Cxt G C k X W L) {x : Str} (h : visB L.sc x = true) : Vis X.env.scope x := by
  unfold visB at h
  rw [c.sc]
  split at h
  · rename_i q; exact .inl q
  · rename_i q; exact .inr (.inl q)
  · rename_i q; exact .inr (.inr q)
  · cases h
theorem Cxt.loc {X : Cx} {W : WX} {L : Lm} (c : Cxt G C k X W L) {x : Str} (h : locB L x = true) : Loc X.env.scope x ∧ (X.fn x = true ∨ X.env.scope.names.lookup x = some .local) := by
  unfold locB at h
  rw [c.sc]
  split at h
  · rename_i q; exact ⟨.inl q, .inr q⟩
  · rename_i q; exact ⟨.inr q, .inl (c.fc x h)⟩
  · cases h
theorem plN_ok {x : Str} (h : plN x = true) : (x == ("__debug__" : Str)) = false ∧ (x == ("__classdict__" : Str)) = false := by
  unfold plN at h
  simpa [Bool.and_eq_true] using h
theorem Cxt.un {X : Cx} {W : WX} {L : Lm} (c : Cxt G C k X W L) : X.A.units + 64 < cLine := c.room.units
theorem Cxt.blk {X : Cx} {W : WX} {L : Lm} (c : Cxt G C k X W L) (s : Shared) (H : Hp) (scope : Scope) (Ca : Addr) (cl : List (Str × Addr)) (fp : List Addr) : Cxt G C k (X.blk s H scope (compEnvC scope cl Ca X.env) fp) W0 (inner L scope) where
  N := c.N
  nd := c.nd
  sc := by
    show relS scope X.env.scope = relS scope L.sc
    rw [c.sc]
  calm := c.calm
  room := c.room
  tk := takes_none5
  gf := c.gf
  ff := ⟨c.ff.ok⟩
  fc := fun x h => h
mutual
theorem chkG_ok : ∀ (t : Tg) {X : Cx} {W : WX} {L : Lm} {e : Expr}, Cxt G C k X W L → chkG t L e = true → DenG X e t
  | .nm i, X, W, L, e, c, h => by
    unfold chkG at h
    split at h
    · simp only [Bool.and_eq_true, decide_eq_true_eq] at h
      obtain ⟨h1, h2⟩ := h
      exact deng_nm (by rw [c.N]; exact c.nd) (by rw [c.N]; exact h1) (c.loc h2).1 (c.loc h2).2
    · cases h
  | .tup ts, X, W, L, e, c, h => by
    unfold chkG at h
    split at h
    · rename_i es kk pos
      simp only [Bool.and_eq_true, decide_eq_true_eq] at h
      obtain ⟨h1, h2⟩ := h
      obtain ⟨g1, g2⟩ := chkGs_ok ts c h2
      exact deng_tup c.calm g1 g2 h1
    · cases h
theorem chkGs_ok : ∀ (t : Tgs) {X : Cx} {W : WX} {L : Lm} {es : List Expr}, Cxt G C k X W L → chkGs t L es = true → DenGs X es t ∧ noStar es = true
  | .nil, X, W, L, e, c, h => by
    unfold chkGs at h
    split at h
    · exact ⟨dengs_nil, rfl⟩
    · cases h
  | .cons t ts, X, W, L, e, c, h => by
    unfold chkGs at h
    split at h
    · rename_i e es
      simp only [Bool.and_eq_true, Bool.not_eq_true'] at h
      obtain ⟨⟨h1, h2⟩, h3⟩ := h
      obtain ⟨g1, g2⟩ := chkGs_ok ts c h3
      exact ⟨dengs_cons (chkG_ok t c h2) g1 h1, by unfold noStar at g2 ⊢; rw [List.all_cons, g2, h1]; rfl⟩
    · cases h
end
theorem den_bin {X : Cx} {W : WX} {o : Bop} {m : Bool} {op : Operator} {a b : Expr} {pos : Pos} {fa fb : En → List O → R U} (h : opB o op = true) (ha : Den X W a fa) (hb : Den X W b fb) : Den X W (.BinOp a op b pos) (ev2 fa fb (binU o m)) := by
  cases o <;> (unfold opB at h; have h := beq_iff_eq.mp h; subst h)
  · exact den_op op_addA (opd_add m) ha hb
  · exact den_op op_subA opd_sub ha hb
  · exact den_op op_mulA (opd_mul m) ha hb
  · exact den_op op_fdivA opd_fdiv ha hb
  · exact den_op op_modN opd_fmod ha hb
  · exact den_op op_pow opd_pow ha hb
  · exact den_op op_shl opd_shl ha hb
  · exact den_op op_shr opd_shr ha hb
  · exact den_op op_andA opd_and ha hb
  · exact den_op op_orA opd_or ha hb
theorem cmp_op {X : Cx} {W : WX} (hu : X.A.units + 64 < cLine) {o : Cop} {op : CmpOp} (h : cmB o op = true) : ∃ r, OpR X (compareOp op) r ∧ OpD X W r (cmpU o) := by
  cases o <;> (unfold cmB at h; have h := beq_iff_eq.mp h; subst h)
  · exact ⟨_, op_lt, opd_cmpI⟩
  · exact ⟨_, op_le, opd_cmpI⟩
  · exact ⟨_, op_gt, opd_cmpI⟩
  · exact ⟨_, op_ge, opd_cmpI⟩
  · exact ⟨_, op_eqA hu, opd_eq false⟩
  · exact ⟨_, op_neA hu, opd_eq true⟩
  · exact ⟨_, op_isA, opd_is false⟩
  · exact ⟨_, op_isnotA, opd_is true⟩
  · exact ⟨_, op_inA hu, opd_in false⟩
  · exact ⟨_, op_notInA hu, opd_in true⟩
theorem den_bi {X : Cx} {W : WX} {L : Lm} (c : Cxt G C k X W L) {f : Bi} {m : Bool} {x : Str} {e : Expr} {es : List Expr} {p pos : Pos} {g : En → List O → R (List U)} (hx : x = biN f) (gl : Gl X x) (hm : X.mg x = none) (hf : DenA X W (e :: es) g) (hs : noStar (e :: es) = true) :
    Den X W (.Call (.Name x p) (e :: es) [] pos) (evCall g (biU f m)) := by
  subst hx
  cases f
  · exact den_callB cr_lenV cd_len gl hm (by rfl) hf hs (by decide) (by decide)
  · exact den_callB (cr_allV c.calm) cd_all gl hm (by rfl) hf hs (by decide) (by decide)
  · exact den_callB (cr_anyV c.calm) cd_any gl hm (by rfl) hf hs (by decide) (by decide)
  · exact den_callB (cr_sumV c.calm) cd_sum gl hm (by rfl) hf hs (by decide) (by decide)
  · exact den_callB (cr_maxG c.calm) cd_max gl hm (by rfl) hf hs (by decide) (by decide)
  · exact den_callB (cr_minG c.calm) cd_min gl hm (by rfl) hf hs (by decide) (by decide)
  · exact den_callB cr_absV cd_abs gl hm (by rfl) hf hs (by decide) (by decide)
  · exact den_callTy cr_intV cd_int gl hm (by rfl) hf hs (by decide) (by decide)
  · exact den_callTy cr_tupV cd_tup gl hm (by rfl) hf hs (by decide) (by decide)
  · exact den_callTy cr_lstV (cd_lst m) gl hm (by rfl) hf hs (by decide) (by decide)
  · exact den_callB (cr_sortV c.calm) (cd_sort m) gl hm (by rfl) hf hs (by decide) (by decide)
  · exact den_callB cr_isi cd_isi gl hm (by rfl) hf hs (by decide) (by decide)
theorem den_mn {X : Cx} {W : WX} {n : Mn} {y : Str} {o : Expr} {es : List Expr} {ap p : Pos} {fo : En → List O → R U} {fa : En → List O → R (List U)} (hy : y = mnN n) (ho : Den X W o fo) (ha : DenA X W es fa) (hnil : es = [] → fa = evNil)
    (hb : isCall o = false) (hns : noStar es = true) (hlen : es.length < 30) (hl : (ap.endLine == p.line) = true) : Den X W (.Call (.Attribute o y ap) es [] p) (evMe isLst fo fa (meU n)) := by
  subst hy
  cases es with
  | nil =>
    cases hnil rfl
    cases n
    · exact den_me0 PySem.F.plainAttrs_list PySem.F.slot_list_append PySem.F.type_list_append mt_append ty_list me_append ho hb hl
    · exact den_me0 PySem.F.plainAttrs_list PySem.F.slot_list_pop PySem.F.type_list_pop mt_popA ty_list me_pop ho hb hl
    · exact den_me0 PySem.F.plainAttrs_list PySem.F.slot_list_extend PySem.F.type_list_extend mt_extA ty_list me_ext ho hb hl
  | cons e es =>
    cases n
    · exact den_me PySem.F.plainAttrs_list PySem.F.slot_list_append PySem.F.type_list_append mt_append ty_list me_append ho ha hb hns hlen hl
    · exact den_me PySem.F.plainAttrs_list PySem.F.slot_list_pop PySem.F.type_list_pop mt_popA ty_list me_pop ho ha hb hns hlen hl
    · exact den_me PySem.F.plainAttrs_list PySem.F.slot_list_extend PySem.F.type_list_extend mt_extA ty_list me_ext ho ha hb hns hlen hl

theorem tyB_ok {x : Str} {n : String} (h : tyB x n = true) : bootBuiltins x = some (.type n) := by
  unfold tyB at h
  split at h
  · rename_i m q
    rw [q, beq_iff_eq.mp h]
  · cases h
theorem gtup_mem {x : Str} {ds : List D} (h : G.tup x = some ds) : (x, ds) ∈ G.gt := by
  unfold Gt.tup at h
  cases q : G.gt.find? fun p => p.1 = x with
  | none => rw [q] at h; cases h
  | some p =>
    rw [q] at h
    cases h
    have h1 := List.mem_of_find?_eq_some q
    have h2 : p.1 = x := by simpa using List.find?_some q
    rw [← h2]
    exact h1
theorem den_bad {X : Cx} {W : WX} {e : Expr} {f : En → List O → R U} (h : ∀ σ h, f σ h = .bad) : Den X W e f := by
  refine ⟨fun _ _ _ => False, ⟨fun _ _ _ _ _ _ z => z.elim⟩, fun σ' h0 σ H μ Q re rh p => ?_⟩
  rw [h] at p
  exact p
theorem den_gtup' {X : Cx} {W : WX} {L : Lm} (c : Cxt G C k X W L) {x : Str} {pos : Pos} (gl : glB L.sc x = true) (pl : plN x = true) : Den X W (.Name x pos) (fun _ h => (opt (G.tup x) h).bind fun ds h => .ok (.d (.tuple ds)) h) := by
  cases q : G.tup x with
  | none => exact den_bad fun _ _ => rfl
  | some ds =>
    obtain ⟨g1, g2⟩ := c.gf.gt _ (gtup_mem q)
    exact Py.den_gtup (c.gl gl) g1 g2 (plN_ok pl).1
end
def isBO : Expr → Bool
  | .BoolOp _ _ _ => true
  | _ => false
structure Good (G : Gt) (C : Str → List U → List O → R U) (X : Cx) (W : WX) (x : Ex) (e : Expr) : Prop where
  d : Den X W e (ev G C x)
  t : okT x = true → DenT X W e (tv G C x)
  w : okT x = true → isBO e = true → DenW X W e (tv G C x)
theorem Good.plain {G : Gt} {C : Str → List U → List O → R U} {X : Cx} {W : WX} {x : Ex} {e : Expr} (d : Den X W e (ev G C x)) (h : okT x = false) : Good G C X W x e := ⟨d, fun z => (by rw [h] at z; cases z), fun z _ => (by rw [h] at z; cases z)⟩
theorem Good.truth {G : Gt} {C : Str → List U → List O → R U} {X : Cx} {W : WX} {x : Ex} {e : Expr} (d : Den X W e (ev G C x)) (h : tv G C x = evT (ev G C x)) (he : ∀ whole, isTrue e X.env whole = (do let v ← whole; standAt e.pos; holding [v] (truthy v))) (hb : isBO e = false) : Good G C X W x e :=
  ⟨d, fun _ => by rw [h]; exact dent_truth d he, fun _ z => by rw [hb] at z; cases z⟩
theorem Good.test {G : Gt} {C : Str → List U → List O → R U} {X : Cx} {W : WX} {x : Ex} {e : Expr} (d : Den X W e (ev G C x)) (t : okT x = true → DenT X W e (tv G C x)) (hb : isBO e = false) : Good G C X W x e := ⟨d, t, fun _ z => by rw [hb] at z; cases z⟩
theorem Good.bo {G : Gt} {C : Str → List U → List O → R U} {X : Cx} {W : WX} {x : Ex} {e : Expr} (d : Den X W e (ev G C x)) (w : okT x = true → DenW X W e (tv G C x)) : Good G C X W x e := ⟨d, fun z => (w z).t, fun z _ => w z⟩
theorem fold_rng {l : Es} {n : Nat} (h : n = l.len) (f : En → List O → R (List U)) : (fun (σ : En) (h : List O) => (f σ h).bind fun us h => if us.length = l.len then rngS us h else .bad) = fun σ h => (f σ h).bind fun us h => if us.length = n then rngS us h else .bad := by rw [h]
section
variable (G : Gt) (C : Str → List U → List O → R U) (k : Nat)
mutual
theorem chk_ok : ∀ (x : Ex) {X : Cx} {W : WX} {L : Lm} {e : Expr}, Cxt G C k X W L → chk G x L e = true → Good G C X W x e
  | .var i, X, W, L, e, c, h => by
    unfold chk at h
    split at h
    · simp only [Bool.and_eq_true, decide_eq_true_eq] at h
      obtain ⟨⟨h1, h2⟩, h3⟩ := h
      exact .truth (den_var (by rw [c.N]; exact h1) (c.vis h2) (plN_ok h3).1 (plN_ok h3).2) rfl (fun _ => rfl) rfl
    · cases h
  | .int i, X, W, L, e, c, h => by
    unfold chk at h
    split at h
    · have h := of_decide_eq_true h
      subst h
      exact .plain den_int rfl
    · cases h
  | .bl i, X, W, L, e, c, h => by
    unfold chk at h
    split at h
    · have h := beq_iff_eq.mp h
      subst h
      exact .truth den_bl rfl (fun _ => rfl) rfl
    · cases h
  | .str s, X, W, L, e, c, h => by
    unfold chk at h
    split at h
    · simp only [Bool.and_eq_true, decide_eq_true_eq] at h
      obtain ⟨h1, h2⟩ := h
      subst h1
      exact .plain (den_str h2) rfl
    · cases h
  | .non, X, W, L, e, c, h => by
    unfold chk at h
    split at h
    · exact .plain den_non rfl
    · cases h
  | .gint y i, X, W, L, e, c, h => by
    unfold chk at h
    split at h
    · simp only [Bool.and_eq_true, decide_eq_true_eq] at h
      obtain ⟨⟨⟨h1, h2⟩, h3⟩, h4⟩ := h
      exact .plain (den_gint (c.gl h2) (c.gf.gi _ h4) (plN_ok h3).1) rfl
    · cases h
  | .gtup y, X, W, L, e, c, h => by
    unfold chk at h
    split at h
    · simp only [Bool.and_eq_true, decide_eq_true_eq] at h
      obtain ⟨⟨h1, h2⟩, h3⟩ := h
      subst h1
      exact .plain (Py.den_gtup' c h2 h3) rfl
    · cases h
  | .gl y, X, W, L, e, c, h => by
    unfold chk at h
    split at h
    · simp only [Bool.and_eq_true, decide_eq_true_eq] at h
      obtain ⟨⟨⟨h1, h2⟩, h3⟩, h4⟩ := h
      subst h1
      exact .plain (den_gl (c.gl h2) (c.gf.gg _ h4) (plN_ok h3).1) rfl
    · cases h
  | .ty y n, X, W, L, e, c, h => by
    unfold chk at h
    split at h
    · simp only [Bool.and_eq_true, decide_eq_true_eq] at h
      obtain ⟨⟨⟨⟨⟨h1, h2⟩, h3⟩, h4⟩, h5⟩, h6⟩ := h
      exact .plain (den_ty (c.gl h2) (c.gf.gf _ h4) (tyB_ok h5) h6 (plN_ok h3).1) rfl
    · cases h
  | .bin o m a b, X, W, L, e, c, h => by
    unfold chk at h
    split at h
    · simp only [Bool.and_eq_true] at h
      obtain ⟨⟨h1, h2⟩, h3⟩ := h
      exact .truth (den_bin h1 (chk_ok a c h2).d (chk_ok b c h3).d) rfl (fun _ => rfl) rfl
    · cases h
  | .neg a, X, W, L, e, c, h => by
    unfold chk at h
    split at h
    · exact .plain (den_neg (chk_ok a c h).d) rfl
    · cases h
  | .cmp o a b, X, W, L, e, c, h => by
    unfold chk at h
    split at h
    · simp only [Bool.and_eq_true, Bool.not_eq_true'] at h
      obtain ⟨⟨⟨h1, h2⟩, h3⟩, h4⟩ := h
      obtain ⟨r, r1, r2⟩ := cmp_op (W := W) c.un h1
      have ga := (chk_ok a c h2).d
      have gb := (chk_ok b c h3).d
      exact .test (den_cmp r1 r2 ga gb h4) (fun _ => dent_cmp r1 r2 ga gb h4) rfl
    · cases h
  | .chn o p a b z, X, W, L, e, c, h => by
    unfold chk at h
    split at h
    · simp only [Bool.and_eq_true, Bool.not_eq_true'] at h
      obtain ⟨⟨⟨⟨⟨h1, h2⟩, h3⟩, h4⟩, h5⟩, h6⟩ := h
      obtain ⟨r, r1, r2⟩ := cmp_op (W := W) c.un h1
      obtain ⟨q, q1, q2⟩ := cmp_op (W := W) c.un h2
      have ga := (chk_ok a c h3).d
      have gb := (chk_ok b c h4).d
      have gz := (chk_ok z c h5).d
      exact .test (den_chain r1 q1 r2 q2 ga gb gz h6) (fun _ => dent_chain r1 q1 r2 q2 ga gb gz h6) rfl
    · cases h
  | .and a b, X, W, L, e, c, h => by
    unfold chk at h
    split at h
    · simp only [Bool.and_eq_true] at h
      have ga := chk_ok a c h.1
      have gb := chk_ok b c h.2
      exact .bo (den_and ga.d gb.d) fun z => denw_and (ga.t (Bool.and_eq_true_iff.mp z).1) (gb.w (Bool.and_eq_true_iff.mp z).2 rfl)
    · cases h
  | .or a b, X, W, L, e, c, h => by
    unfold chk at h
    split at h
    · simp only [Bool.and_eq_true] at h
      have ga := chk_ok a c h.1
      have gb := chk_ok b c h.2
      exact .bo (den_or ga.d gb.d) fun z => denw_or (ga.t (Bool.and_eq_true_iff.mp z).1) (gb.w (Bool.and_eq_true_iff.mp z).2 rfl)
    · cases h
  | .one a, X, W, L, e, c, h => by
    unfold chk at h
    split at h
    · rename_i op x pos
      have ga := chk_ok a c h
      exact .bo (den_one ga.d) fun z => by
        cases op
        · exact denw_and1 (ga.t z)
        · exact denw_or1 (ga.t z)
    · cases h
  | .not a, X, W, L, e, c, h => by
    unfold chk at h
    split at h
    · have ga := chk_ok a c h
      exact .test (den_not ga.d) (fun z => dent_not (ga.t z)) rfl
    · cases h
  | .ife t a b, X, W, L, e, c, h => by
    unfold chk at h
    split at h
    · simp only [Bool.and_eq_true] at h
      obtain ⟨⟨⟨h1, h2⟩, h3⟩, h4⟩ := h
      exact .plain (den_if ((chk_ok t c h1).t h2) (chk_ok a c h3).d (chk_ok b c h4).d) rfl
    · cases h
  | .tup l, X, W, L, e, c, h => by
    unfold chk at h
    split at h
    · exact .plain (den_tup (chks_ok l c h).1) rfl
    · cases h
  | .lst m l, X, W, L, e, c, h => by
    unfold chk at h
    split at h
    · exact .plain (den_lst (chks_ok l c h).1) rfl
    · cases h
  | .ix a b, X, W, L, e, c, h => by
    unfold chk at h
    split at h
    · simp only [Bool.and_eq_true, Bool.not_eq_true'] at h
      obtain ⟨⟨h1, h2⟩, h3⟩ := h
      exact .truth (den_ix c.un (chk_ok a c h1).d (chk_ok b c h2).d h3) rfl (fun _ => rfl) rfl
    · cases h
  | .sl m a lo hi, X, W, L, e, c, h => by
    unfold chk at h
    split at h
    · simp only [Bool.and_eq_true] at h
      obtain ⟨⟨h1, h2⟩, h3⟩ := h
      exact .truth (den_sl (chk_ok a c h1).d (chko_ok lo c h2) (chko_ok hi c h3)) rfl (fun _ => rfl) rfl
    · cases h
  | .bi f m l, X, W, L, e, c, h => by
    unfold chk at h
    split at h
    · simp only [Bool.and_eq_true, decide_eq_true_eq] at h
      obtain ⟨⟨⟨h1, h2⟩, h3⟩, h4⟩ := h
      obtain ⟨g1, g2, g3, g4⟩ := chks_ok l c h4
      exact .truth (den_bi c h1 (c.gl h2) (c.gf.gf _ h3) g1 g2) rfl (fun _ => rfl) rfl
    · cases h
  | .mxd a d, X, W, L, e, c, h => by
    unfold chk at h
    split at h
    · simp only [Bool.and_eq_true, decide_eq_true_eq, Bool.not_eq_true'] at h
      obtain ⟨⟨⟨⟨⟨⟨h1, h2⟩, h3⟩, h4⟩, h5⟩, h6⟩, h7⟩ := h
      subst h1 h2
      exact .plain (den_maxD c.calm c.un (c.gl h3) (c.gf.gf _ h4) (chk_ok a c h5).d (chk_ok d c h6).d h7) rfl
    · cases h
  | .bits a, X, W, L, e, c, h => by
    unfold chk at h
    split at h
    · simp only [Bool.and_eq_true, decide_eq_true_eq, Bool.not_eq_true'] at h
      obtain ⟨⟨⟨h1, h2⟩, h3⟩, h4⟩ := h
      subst h1
      exact .plain (den_bits (chk_ok a c h4).d h2 h3) rfl
    · cases h
  | .me n a l, X, W, L, e, c, h => by
    unfold chk at h
    split at h
    · simp only [Bool.and_eq_true, decide_eq_true_eq, Bool.not_eq_true'] at h
      obtain ⟨⟨⟨⟨⟨h1, h2⟩, h3⟩, h4⟩, h5⟩, h6⟩ := h
      obtain ⟨g1, g2, g3, g4⟩ := chks_ok l c h6
      exact .plain (den_mn h1 (chk_ok a c h5).d g1 g4 h2 g2 h4 h3) rfl
    · cases h
  | .call f perm a kx, X, W, L, e, c, h => by
    unfold chk at h
    split at h
    · rename_i x p es kws pos
      simp only [Bool.and_eq_true, decide_eq_true_eq] at h
      obtain ⟨⟨⟨⟨⟨h1, h2⟩, h3⟩, h4⟩, h5⟩, h6⟩ := h
      subst h1
      split at h6
      · rename_i ks hks
        simp only [Bool.and_eq_true, decide_eq_true_eq, List.all_eq_true, List.any_eq_true] at h6
        obtain ⟨⟨q1, q2⟩, ⟨y, ps⟩, q3, q4, q5⟩ := h6
        dsimp only at q4 q5
        subst q4
        obtain ⟨g1, g2, g3, g4⟩ := chks_ok a c h4
        obtain ⟨j1, j2⟩ := chkk_ok kx c h5
        obtain ⟨m1, m2, fd, m3, m4⟩ := c.ff.ok _ q3
        have := den_call m3 c.room (c.gl h2) m1 m2 (m4 _ _ _ q1) c.tk q5.symm q2 g1 j1 hks g2 (plN_ok h3).1 g4 (pos := pos) (p := p)
        refine .truth ?_ rfl (fun _ => rfl) rfl
        show Den X W _ (evCl a.len kx.len perm (evs G C a) (evs G C kx) (C _))
        rw [← g3, show kx.len = ks.length from j2 ks hks]
        exact this
      · cases h6
    · cases h
  | .lc m t w co e0, X, W, L, e, c, h => by
    unfold chk at h
    split at h
    · rename_i elt tg iter ifs scope pos
      simp only [Bool.and_eq_true, Bool.not_eq_true'] at h
      obtain ⟨⟨⟨⟨⟨h1, h2⟩, h3⟩, h4⟩, h5⟩, h6⟩ := h
      refine .truth (den_lc c.calm (by rw [c.N]; exact c.nd) (chkw_ok w c h1) (own := owns L t.slots) (by rw [c.N, c.sc]; exact blkOk_by h5) (fun s H Ca cl fp => chkG_ok t (c.blk s H scope Ca cl fp) h2)
        (fun s H Ca cl fp => chkc_ok co (c.blk s H scope Ca cl fp) h3) (fun s H Ca cl fp => (chk_ok e0 (c.blk s H scope Ca cl fp) h4).d) ?_ (fun i hi => hi) h6) rfl (fun _ => rfl) rfl
      unfold owns
      rw [List.map_map]
      exact List.map_id _
    · cases h
  | .lc2 m t w co t1 w1 co1 e0, X, W, L, e, c, h => by
    unfold chk at h
    split at h
    · rename_i elt tg iter ifs tg1 iter1 ifs1 scope pos
      simp only [Bool.and_eq_true, Bool.not_eq_true'] at h
      obtain ⟨⟨⟨⟨⟨⟨⟨⟨⟨h1, h2⟩, h3⟩, h4⟩, h5⟩, h6⟩, h7⟩, h8⟩, h9⟩, h10⟩ := h
      refine .plain (den_lc2 c.calm (by rw [c.N]; exact c.nd) (chkw_ok w c h1) (own := owns L (t.slots ++ t1.slots)) (by rw [c.N, c.sc]; exact blkOk_by h8) (fun s H Ca cl fp => chkG_ok t (c.blk s H scope Ca cl fp) h2)
        (fun s H Ca cl fp => chkc_ok co (c.blk s H scope Ca cl fp) h3) (fun s H Ca cl fp => chkw_ok w1 (c.blk s H scope Ca cl fp) h4) (fun s H Ca cl fp => chkG_ok t1 (c.blk s H scope Ca cl fp) h5)
        (fun s H Ca cl fp => chkc_ok co1 (c.blk s H scope Ca cl fp) h6) (fun s H Ca cl fp => (chk_ok e0 (c.blk s H scope Ca cl fp) h7).d) ?_ (fun i hi => List.mem_append_left _ hi) (fun i hi => hi) (fun i hi => List.mem_append_right _ hi) h9 h10) rfl
      unfold owns
      rw [List.map_map]
      exact List.map_id _
    · cases h
  | .ss m a, X, W, L, e, c, h => by
    unfold chk at h
    split at h
    · simp only [Bool.and_eq_true, decide_eq_true_eq, Bool.not_eq_true'] at h
      obtain ⟨⟨⟨⟨⟨⟨⟨h1, h2⟩, h3⟩, h4⟩, h5⟩, h6⟩, h7⟩, h8⟩ := h
      subst h1 h2
      exact .plain (den_ss c.calm (c.gl h3) (c.gf.gf _ h4) (c.gl h5) (c.gf.gf _ h6) (chk_ok a c h7).d h8) rfl
    · cases h
  | .rl1 tup m a, X, W, L, e, c, h => by
    unfold chk at h
    split at h
    · simp only [Bool.and_eq_true, decide_eq_true_eq, Bool.not_eq_true'] at h
      obtain ⟨⟨⟨⟨⟨⟨⟨h1, h2⟩, h3⟩, h4⟩, h5⟩, h6⟩, h7⟩, h8⟩ := h
      subst h2
      exact .plain (den_rngL1 c.calm h1 (c.gl h3) (c.gf.gf _ h4) (c.gl h5) (c.gf.gf _ h6) (chk_ok a c h7).d h8) rfl
    · cases h
  | .rl2 tup m a b, X, W, L, e, c, h => by
    unfold chk at h
    split at h
    · simp only [Bool.and_eq_true, decide_eq_true_eq, Bool.not_eq_true'] at h
      obtain ⟨⟨⟨⟨⟨⟨⟨⟨⟨h1, h2⟩, h3⟩, h4⟩, h5⟩, h6⟩, h7⟩, h8⟩, h9⟩, h10⟩ := h
      subst h2
      exact .plain (den_rngL2 c.calm h1 (c.gl h3) (c.gf.gf _ h4) (c.gl h5) (c.gf.gf _ h6) (chk_ok a c h7).d (chk_ok b c h8).d h9 h10) rfl
    · cases h
  | .dnew, X, W, L, e, c, h => by
    unfold chk at h
    split at h
    · exact .plain den_dnew rfl
    · cases h
  | .get1 o a, X, W, L, e, c, h => by
    unfold chk at h
    split at h
    · simp only [Bool.and_eq_true, decide_eq_true_eq, Bool.not_eq_true'] at h
      obtain ⟨⟨⟨⟨⟨h1, h2⟩, h3⟩, h4⟩, h5⟩, h6⟩ := h
      subst h1
      exact .plain (den_get1 c.un (chk_ok o c h4).d (chk_ok a c h5).d h2 (by unfold noStar; simp [h6]) h3) rfl
    · cases h
  | .get2 o a b, X, W, L, e, c, h => by
    unfold chk at h
    split at h
    · simp only [Bool.and_eq_true, decide_eq_true_eq, Bool.not_eq_true'] at h
      obtain ⟨⟨⟨⟨⟨⟨⟨h1, h2⟩, h3⟩, h4⟩, h5⟩, h6⟩, h7⟩, h8⟩ := h
      subst h1
      exact .plain (den_get2 c.un (chk_ok o c h4).d (chk_ok a c h5).d (chk_ok b c h6).d h2 (by unfold noStar; simp [h7, h8]) h3) rfl
    · cases h
  | .lock i a, X, W, L, e, c, h => by
    unfold chk at h
    exact .plain (den_lock (chk_ok a c h).d) rfl
theorem chks_ok : ∀ (l : Es) {X : Cx} {W : WX} {L : Lm} {es : List Expr}, Cxt G C k X W L → chks G l L es = true → DenA X W es (evs G C l) ∧ noStar es = true ∧ es.length = l.len ∧ (es = [] → evs G C l = evNil)
  | .nil, X, W, L, es, c, h => by
    unfold chks at h
    split at h
    · exact ⟨dena_nil, rfl, rfl, fun _ => rfl⟩
    · cases h
  | .cons x l, X, W, L, es, c, h => by
    unfold chks at h
    split at h
    · rename_i e r
      simp only [Bool.and_eq_true, Bool.not_eq_true'] at h
      obtain ⟨⟨h1, h2⟩, h3⟩ := h
      obtain ⟨g1, g2, g3, g4⟩ := chks_ok l c h3
      refine ⟨dena_cons (chk_ok x c h1).d g1 (star1 h2), ?_, ?_, fun z => by cases z⟩
      · unfold noStar at g2 ⊢
        rw [List.all_cons, g2, h2]; rfl
      · show r.length + 1 = l.len + 1
        rw [g3]
    · cases h
theorem chkk_ok : ∀ (l : Es) {X : Cx} {W : WX} {L : Lm} {es : List Keyword}, Cxt G C k X W L → chkk G l L es = true → DenK X W es (evs G C l) ∧ (∀ ks, kwNames es = some ks → l.len = ks.length)
  | .nil, X, W, L, es, c, h => by
    unfold chkk at h
    split at h
    · exact ⟨denk_nil, fun ks e => by cases e; rfl⟩
    · cases h
  | .cons x l, X, W, L, es, c, h => by
    unfold chkk at h
    split at h
    · rename_i n e kp r
      simp only [Bool.and_eq_true] at h
      obtain ⟨h1, h2⟩ := h
      obtain ⟨g1, g2⟩ := chkk_ok l c h2
      refine ⟨denk_cons (chk_ok x c h1).d g1, fun ks q => ?_⟩
      cases n with
      | none => cases q
      | some n =>
        have q' : (kwNames r).map (n :: ·) = some ks := q
        cases z : kwNames r with
        | none => rw [z] at q'; cases q'
        | some zs =>
          rw [z] at q'
          cases q'
          show l.len + 1 = zs.length + 1
          rw [g2 zs z]
    · cases h
theorem chko_ok : ∀ (o : Ox) {X : Cx} {W : WX} {L : Lm} {e : Option Expr}, Cxt G C k X W L → chko G o L e = true → DenO X W e (evo G C o)
  | .no, X, W, L, e, c, h => by
    unfold chko at h
    split at h
    · exact deno_none
    · cases h
  | .yes x, X, W, L, e, c, h => by
    unfold chko at h
    split at h
    · exact deno_some (chk_ok x c h).d
    · cases h
theorem chkc_ok : ∀ (o : Ox) {X : Cx} {W : WX} {L : Lm} {e : List Expr}, Cxt G C k X W L → chkc G o L e = true → DenTs X W e (evc G C o)
  | .no, X, W, L, e, c, h => by
    unfold chkc at h
    split at h
    · exact dents_nil
    · cases h
  | .yes x, X, W, L, e, c, h => by
    unfold chkc at h
    split at h
    · simp only [Bool.and_eq_true] at h
      exact dents_one ((chk_ok x c h.1).t h.2)
    · cases h
theorem chkw_ok : ∀ (w : Wk) {X : Cx} {W : WX} {L : Lm} {tg e : Expr}, Cxt G C k X W L → chkw G w L tg e = true → DenI X W tg e (evw G C w)
  | .seq x, X, W, L, tg, e, c, h => by
    unfold chkw at h
    exact deni_seqK (chk_ok x c h).d
  | .rng l, X, W, L, tg, e, c, h => by
    unfold chkw at h
    split at h
    · rename_i x p es pos
      simp only [Bool.and_eq_true, decide_eq_true_eq] at h
      obtain ⟨⟨⟨⟨⟨h1, h2⟩, h3⟩, h4⟩, h5⟩, h6⟩ := h
      subst h1
      obtain ⟨g1, g2, g3, g4⟩ := chks_ok l c h6
      show DenI X W tg _ (fun σ h => (evs G C l σ h).bind fun us h => if us.length = l.len then rngS us h else .bad)
      rw [fold_rng g3]
      match es, h4, h5, g1, g2 with
      | [], h4, _, _, _ => exact absurd h4 (by decide)
      | [a], _, _, g1, g2 => exact deni_range1 (c.gl h2) (c.gf.gf _ h3) g1 g2
      | [a, b], _, _, g1, g2 => exact deni_range2 (c.gl h2) (c.gf.gf _ h3) g1 g2
      | [a, b, d], _, _, g1, g2 => exact deni_range3 (c.gl h2) (c.gf.gf _ h3) g1 g2
      | _ :: _ :: _ :: _ :: _, _, h5, _, _ => exact absurd h5 (by simp)
    · cases h
  | .enu l, X, W, L, tg, e, c, h => by
    unfold chkw at h
    split at h
    · simp only [Bool.and_eq_true, decide_eq_true_eq] at h
      obtain ⟨⟨⟨⟨h1, h2⟩, h3⟩, h4⟩, h5⟩ := h
      subst h1
      obtain ⟨g1, g2, g3, g4⟩ := chks_ok l c h5
      cases tg <;> first | exact deni_enum (c.gl h2) (c.gf.gf _ h3) g1 g2 | cases h4
    · cases h
  | .zip l, X, W, L, tg, e, c, h => by
    unfold chkw at h
    split at h
    · simp only [Bool.and_eq_true, decide_eq_true_eq] at h
      obtain ⟨⟨⟨⟨h1, h2⟩, h3⟩, h4⟩, h5⟩ := h
      subst h1
      obtain ⟨g1, g2, g3, g4⟩ := chks_ok l c h5
      cases tg <;> first | exact deni_zip (c.gl h2) (c.gf.gf _ h3) g1 g2 | cases h4
    · cases h
  | .its a, X, W, L, tg, e, c, h => by
    unfold chkw at h
    split at h
    · simp only [Bool.and_eq_true, decide_eq_true_eq, Bool.not_eq_true'] at h
      obtain ⟨⟨⟨⟨h1, h2⟩, h3⟩, h4⟩, h5⟩ := h
      subst h1
      cases tg <;> first | exact deni_items (chk_ok a c h5).d h2 h3 | exact deni_itemsN (chk_ok a c h5).d h2 h3 | cases h4
    · cases h
  | .vals a, X, W, L, tg, e, c, h => by
    unfold chkw at h
    split at h
    · simp only [Bool.and_eq_true, decide_eq_true_eq, Bool.not_eq_true'] at h
      obtain ⟨⟨⟨h1, h2⟩, h3⟩, h4⟩ := h
      subst h1
      exact deni_values (chk_ok a c h4).d h2 h3
    · cases h
end
end
end Py

/-! the compact tree of statements; defs; a tree that fits says what the text does -/
namespace Py
open PySem PySem.Spec PyProof.Rows L2
theorem dens_setLc {X : Cx} {W : WX} {m : Bool} {i : Nat} {y : Str} {py : Pos} {elt tg iter : Expr} {ifs : List Expr} {scope : Scope} {own : List (Str × Nat)} {pos spos : Pos} {t : Tg} {vs : List Nat} {fi : En → List O → R Src} {ft : En → List O → R Bool} {fe : En → List O → R U} (hc : X.calm = true) (hN : X.N.Nodup) (hy : X.N[i]? = some y)
    (hyl : X.env.scope.names.lookup y = some .local) (hsw : swapsWith (.ListComp elt [⟨tg, iter, ifs, 0⟩] scope pos) (some (.Name y py)) spos.line X.env = pure true) (hi : DenI X W tg iter fi) (ok : BlkOk X.N X.env.scope scope own)
    (hg : ∀ (s : Shared) (H : Hp) (C : Addr) (cl : List (Str × Addr)) (fp : List Addr), DenG (X.blk s H scope (compEnvC scope cl C X.env) fp) tg t)
    (ht : ∀ (s : Shared) (H : Hp) (C : Addr) (cl : List (Str × Addr)) (fp : List Addr), DenTs (X.blk s H scope (compEnvC scope cl C X.env) fp) W0 ifs ft)
    (he : ∀ (s : Shared) (H : Hp) (C : Addr) (cl : List (Str × Addr)) (fp : List Addr), Den (X.blk s H scope (compEnvC scope cl C X.env) fp) W0 elt fe)
    (hv : own.map (·.2) = vs) (hsl : ∀ i ∈ t.slots, i ∈ vs) (hs : isSetD iter = false) : DenS X W (.Assign [.Name y py] (.ListComp elt [⟨tg, iter, ifs, 0⟩] scope pos) spos) (sAsg (evLc m t vs fi ft fe) (.nm i)) := by
  obtain ⟨wi, pi, ci⟩ := hi
  subst hv
  refine dens_of (ps_setLc (g := tG X.K t) (tt := tT X.K W0 ft) (te := tE X.K W0 fe) hc hN hy hyl hsw pi ok (fun s H C cl fp => (hg s H C cl fp).pg) ht (fun s H C cl fp => (he s H C cl fp).pe) (noFold hs)) fun σ' h σ H μ D re rh p => ?_
  exact lc_body ci hsl σ' h σ H μ _ re rh (PostS.stm re p fun a h1 H1 μ1 b e1 rh1 rel p1 => p1.nx rh1 ((re.ext e1).set rel))
mutual
inductive Sm where
  | doc | drop (e : Ex) | set (i : Nat) (e : Ex) | slc (i : Nat) (m : Bool) (t : Tg) (w : Wk) (c : Ox) (e : Ex) | tup (t : Tg) (e : Ex) | par2 (i j : Nat) (l : Es) | par3 (i j k : Nat) (l : Es) | sub (o i e : Ex)
  | ife (c : Ex) (a b : Ss) | wh (c : Ex) (b : Ss) | fo (t : Tg) (w : Wk) (b : Ss) | ret (e : Ex) | retN | rais (x : Str) | tr (b : Ss) (hs : Hs) | pass | brk | cnt | lock (i : Nat) (s : Sm) | slc2 (i : Nat) (m : Bool) (t : Tg) (w : Wk) (c : Ox) (t1 : Tg) (w1 : Wk) (c1 : Ox) (e : Ex) | aug (i : Nat) (sub : Bool) (e : Ex) | tis (b : Ss) (x : Str) (i j : Nat) (c : Str)
inductive Ss where
  | nil | cons (s : Sm) (r : Ss)
inductive Hs where
  | nil | cons (x : Str) (b : Ss) (r : Hs)
end
section
variable (G : Gt) (C : Str → List U → List O → R U) (F : Nat)
def exmB (G : Gt) (c d : Str) : Bool := decide ((c, d) ∈ G.gm)
mutual
def ex : Sm → En → List O → Fl
  | .doc => sNx
  | .drop e => sDrop (ev G C e)
  | .set i e => sAsg (ev G C e) (.nm i)
  | .slc i m t w c e => sAsg (evLc m t t.slots (evw G C w) (evc G C c) (ev G C e)) (.nm i)
  | .tup t e => sAsg (ev G C e) t
  | .par2 i j l => sPar2 i j (evs G C l)
  | .par3 i j k l => sPar3 i j k (evs G C l)
  | .sub o i e => sSub (ev G C e) (ev G C o) (ev G C i)
  | .ife c a b => sIf (tv G C c) (exs a) (exs b)
  | .wh c b => whGo (tv G C c) (exs b) F
  | .fo t w b => sFor t (evw G C w) (exs b)
  | .ret e => sRet (ev G C e)
  | .retN => sRetN
  | .rais x => sRaise x
  | .tr b hs => sTry (exmB G) G.gx (exs b) (exh hs)
  | .pass => sNx
  | .brk => sBk
  | .cnt => sCt
  | .lock i s => lockS i (ex s)
  | .slc2 i m t w c t1 w1 c1 e => sAsg (evLc2 m t (t.slots ++ t1.slots) (evw G C w) (evc G C c) t1 t1.slots (evw G C w1) (evc G C c1) (ev G C e)) (.nm i)
  | .aug i sub e => sAug i sub (ev G C e)
  | .tis b x i j c => sTryIs (exmB G) G.gx (exs b) x i j c
def exs : Ss → En → List O → Fl
  | .nil => sNx
  | .cons s r => sSeq (ex s) (exs r)
def exh : Hs → List (Str × (En → List O → Fl))
  | .nil => []
  | .cons x b r => (x, exs b) :: exh r
end
end
/-! ### when it fits -/
def swB (L : Lm) (scope : Scope) (lp : Pos) (y : Str) (py : Pos) : Bool := L.sc.names.lookup y == some .local && py.line == lp.line && !(scope.names.any fun (n, k) => n == y && (k == .local || k == .cell))
def noSwB (L : Lm) (e : Expr) (y : Str) (py : Pos) : Bool := match e with
  | .ListComp _ _ scope lp => !swB L scope lp y py
  | .SetComp _ _ _ _ => false
  | .DictComp _ _ _ _ _ => false
  | _ => true
def swS (sc : Scope) (ts vs : List Expr) : Option (Option (List Str)) :=
  if (!(ts.length == 2 || ts.length == 3) || vs.length != ts.length) = true then some none else
  if (vs.any fun | .Starred .. => true | _ => false) = true then some none else
  let line := (ts.head?.map (·.pos.line)).getD 0
  let names := ts.filterMap fun
    | .Name id pos => if sc.names.lookup id == some .local && pos.line == line then some id else none
    | _ => none
  if (names.length != ts.length || names.eraseDups.length != names.length) = true then some none else
  if vs.all (foldedForSure 8) = true then some none else
  if vs.all (constantsAlone 8) = true then none else
  some (some names)
theorem swS_ok {env : Env} {ts vs : List Expr} {k1 k2 : Nat} {p1 p2 : Pos} {r : Option (List Str)} (hk : env.scope.kind = .function) (h : swS env.scope ts vs = some r) : swappedStores [.Tuple ts k1 p1] (.Tuple vs k2 p2) env = pure r := by
  have hb : env.blockKind = .function := by unfold Env.blockKind; rw [hk]; rfl
  unfold swS at h
  unfold swappedStores Env.kindOf
  dsimp only
  rw [hb]
  have e0 : (!(ts.length == 2 || ts.length == 3) || vs.length != ts.length || (ScopeKind.function != .function)) = (!(ts.length == 2 || ts.length == 3) || vs.length != ts.length) := by
    rw [show ((ScopeKind.function != .function) : Bool) = false from rfl, Bool.or_false]
  rw [e0]
  split at h
  · rename_i q; cases h; exact if_pos q
  · rename_i q
    refine (if_neg q).trans ?_
    split at h
    · rename_i q; cases h; exact if_pos q
    · rename_i q
      refine (if_neg q).trans ?_
      dsimp only at h ⊢
      split at h
      · rename_i q; cases h; exact if_pos q
      · rename_i q
        refine (if_neg q).trans ?_
        split at h
        · rename_i q; cases h; exact if_pos q
        · rename_i q
          refine (if_neg q).trans ?_
          split at h
          · cases h
          · rename_i q; cases h; exact if_neg q

theorem swB_ok {L : Lm} {env : Env} {elt : Expr} {gs : List Comprehension} {scope : Scope} {lp py : Pos} {y : Str} {l : Nat} (hs : env.scope = L.sc) (hk : env.scope.kind = .function) : swapsWith (.ListComp elt gs scope lp) (some (.Name y py)) l env = pure (swB L scope lp y py) := by
  have hb : env.blockKind = .function := by unfold Env.blockKind; rw [hk]; rfl
  unfold swapsWith swB
  dsimp only
  unfold Env.kindOf
  rw [hb, hs]
  simp only [Expr.pos]
  rfl
theorem noSwB_ok {L : Lm} {env : Env} {e : Expr} {py : Pos} {y : Str} {l : Nat} (hs : env.scope = L.sc) (hk : env.scope.kind = .function) (h : noSwB L e y py = true) : swapsWith e (some (.Name y py)) l env = pure false := by
  cases e <;> first
    | (rename_i elt gs scope lp
       rw [swB_ok hs hk]
       unfold noSwB at h
       dsimp only at h
       rw [Bool.not_eq_true'] at h
       rw [h])
    | (unfold noSwB at h; cases h; done)
    | rfl
theorem noSwT {e : Expr} {es : List Expr} {k l : Nat} {p : Pos} {env : Env} : swapsWithSole [.Tuple es k p] e l env = pure false := by
  unfold swapsWithSole
  cases e <;> rfl
section
variable (G : Gt)
/-- a statement of an except clause -/
def chkU : Sm → Lm → Stmt → Bool
  | .set i x, L, st => match st with
    | .Assign [.Name y _] e _ => decide (L.N[i]? = some y) && locB L y && !isCmp e && (match x with
      | .str s => (match e with | .Constant (.str j) _ _ => decide (s = j) && PyData.strOk s | _ => false)
      | .int n => (match e with | .Constant (.int j) _ _ => decide (n = j) | _ => false)
      | .bl n => (match e with | .Constant (.bool j) _ _ => n == j | _ => false)
      | .non => (match e with | .Constant .none _ _ => true | _ => false)
      | _ => false)
    | _ => false
  | .ret x, L, st => match st with
    | .Return (some e) _ => (match x with
      | .str s => (match e with | .Constant (.str j) _ _ => decide (s = j) && PyData.strOk s | _ => false)
      | .int n => (match e with | .Constant (.int j) _ _ => decide (n = j) | _ => false)
      | .bl n => (match e with | .Constant (.bool j) _ _ => n == j | _ => false)
      | .non => (match e with | .Constant .none _ _ => true | _ => false)
      | _ => false)
    | _ => false
  | .pass, _, st => match st with
    | .Pass _ => true
    | _ => false
  | .cnt, _, st => match st with
    | .Continue _ => true
    | _ => false
  | .brk, _, st => match st with
    | .Break _ => true
    | _ => false
  | _, _, _ => false
def isNm (y : Str) (e : Expr) : Bool := match e with
  | .Name x _ => decide (x = y)
  | _ => false
mutual
def chkS : Sm → Lm → Stmt → Bool
  | .doc, _, st => match st with
    | .Expr (.Constant (.str _) _ _) _ => true
    | _ => false
  | .drop x, L, st => match st with
    | .Expr e _ => chk G x L e && !isCmp e
    | _ => false
  | .set i x, L, st => match st with
    | .Assign [.Name y py] e _ => decide (L.N[i]? = some y) && locB L y && chk G x L e && noSwB L e y py
    | _ => false
  | .slc i m t w c x, L, st => match st with
    | .Assign [.Name y py] (.ListComp elt [⟨tg, iter, ifs, 0⟩] scope lp) _ => decide (L.N[i]? = some y) && (L.sc.names.lookup y == some .local) && swB L scope lp y py && chkw G w L tg iter && chkG t (inner L scope) tg && chkc G c (inner L scope) ifs && chk G x (inner L scope) elt && blkC L.N L.sc scope (owns L t.slots) && !isSetD iter
    | _ => false
  | .tup t x, L, st => match st with
    | .Assign [.Tuple ts k p] e _ => chkG t L (.Tuple ts k p) && chk G x L e && (match e with
      | .Tuple vs _ _ => (match swS L.sc ts vs with
        | some none => true
        | _ => false)
      | _ => true)
    | _ => false
  | .par2 i j l, L, st => match st with
    | .Assign [.Tuple [.Name x px, .Name y py] _ _] (.Tuple [a, b] _ _) _ => decide (swS L.sc [.Name x px, .Name y py] [a, b] = some (some [x, y])) && decide (L.N[i]? = some x) && decide (L.N[j]? = some y) && decide (i ≠ j) && (L.sc.names.lookup x == some .local) && (L.sc.names.lookup y == some .local) && chks G l L [a, b]
    | _ => false
  | .par3 i j n l, L, st => match st with
    | .Assign [.Tuple [.Name x px, .Name y py, .Name z pz] _ _] (.Tuple [a, b, c] _ _) _ => decide (swS L.sc [.Name x px, .Name y py, .Name z pz] [a, b, c] = some (some [x, y, z])) && decide (L.N[i]? = some x) && decide (L.N[j]? = some y) && decide (L.N[n]? = some z) && decide (i ≠ j) && decide (i ≠ n) && decide (j ≠ n) && (L.sc.names.lookup x == some .local) && (L.sc.names.lookup y == some .local) && (L.sc.names.lookup z == some .local) && chks G l L [a, b, c]
    | _ => false
  | .sub o i x, L, st => match st with
    | .Assign [.Subscript a b _] e _ => chk G x L e && chk G o L a && chk G i L b && !isCmp e && !isSl b
    | _ => false
  | .ife c a b, L, st => match st with
    | .If e p q _ => chk G c L e && okT c && chkB a L p && chkB b L q
    | _ => false
  | .wh c b, L, st => match st with
    | .While e p [] _ => chk G c L e && okT c && chkB b L p
    | _ => false
  | .fo t w b, L, st => match st with
    | .For tg iter p [] _ => chkG t L tg && chkw G w L tg iter && chkB b L p && !isSetD iter
    | _ => false
  | .ret x, L, st => match st with
    | .Return (some e) _ => chk G x L e
    | _ => false
  | .retN, _, st => match st with
    | .Return none _ => true
    | _ => false
  | .rais y, L, st => match st with
    | .Raise (some (.Call (.Name x _) [.Constant (.str _) _ _] [] _)) none _ => decide (x = y) && glB L.sc x && plN x && decide (x ∈ G.gx)
    | _ => false
  | .tr b hs, L, st => match st with
    | .Try p (h :: r) [] [] _ => chkB b L p && chkH hs L (h :: r)
    | _ => false
  | .pass, _, st => match st with
    | .Pass _ => true
    | _ => false
  | .brk, _, st => match st with
    | .Break _ => true
    | _ => false
  | .cnt, _, st => match st with
    | .Continue _ => true
    | _ => false
  | .lock _ s, L, st => chkS s L st
  | .slc2 i m t w c t1 w1 c1 x, L, st => match st with
    | .Assign [.Name y py] (.ListComp elt [⟨tg, iter, ifs, 0⟩, ⟨tg1, iter1, ifs1, 0⟩] scope lp) _ => decide (L.N[i]? = some y) && (L.sc.names.lookup y == some .local) && swB L scope lp y py && chkw G w L tg iter && chkG t (inner L scope) tg && chkc G c (inner L scope) ifs && chkw G w1 (inner L scope) tg1 iter1 && chkG t1 (inner L scope) tg1 && chkc G c1 (inner L scope) ifs1 && chk G x (inner L scope) elt && blkC L.N L.sc scope (owns L (t.slots ++ t1.slots)) && !isSetD iter && !isSetD iter1
    | _ => false
  | .aug i sub x, L, st => match st with
    | .AugAssign (.Name y _) op e _ => decide (L.N[i]? = some y) && locB L y && decide (op = if sub = true then .Sub else .Add) && chk G x L e
    | _ => false
  | .tis b x i j c, L, st => match st with
    | .Try p [.ExceptHandler (some (.Name x2 _)) (some n) [.Assign [.Name y _] (.Call (.Name f _) [.Name n2 _, .Name c2 _] [] _) _] _] [] [] _ => decide (x2 = x) && decide (c2 = c) && decide (n2 = n) && decide (f = "isinstance") && decide (L.N[i]? = some n) && decide (L.N[j]? = some y) && decide (i ≠ j) && (L.sc.names.lookup n == some .local) && (L.sc.names.lookup y == some .local) && visB L.sc n && plN n && glB L.sc x && plN x && decide (x ∈ G.gx) && glB L.sc c && plN c && decide (c ∈ G.gx) && glB L.sc "isinstance" && decide (("isinstance" : Str) ∈ G.gf) && chkB b L p
    | _ => false
def chkB : Ss → Lm → List Stmt → Bool
  | .nil, _, sts => match sts with
    | [] => true
    | _ => false
  | .cons s r, L, sts => match sts with
    | st :: rest => chkS s L st && chkB r L rest
    | _ => false
def chkH : Hs → Lm → List ExceptHandler → Bool
  | .nil, _, hs => match hs with
    | [] => true
    | _ => false
  | .cons y b r, L, hs => match hs with
    | .ExceptHandler (some (.Name x _)) none (s :: ss) _ :: rest => decide (x = y) && glB L.sc x && plN x && decide (x ∈ G.gx) && chkUs b L (s :: ss) && chkH r L rest
    | _ => false
def chkUs : Ss → Lm → List Stmt → Bool
  | .nil, _, sts => match sts with
    | [] => true
    | _ => false
  | .cons s r, L, sts => match sts with
    | st :: rest => chkU s L st && chkUs r L rest
    | _ => false
end
end
structure GX (K : PySem.W.Frag) (mg : Str → Option Value) (G : Gt) : Prop where
  ok : ∀ x ∈ G.gx, mg x = some (.ref (He.ga K x)) ∧ (∃ bmB B newId initId, ExcBaseFacts B newId initId bmB ∧ PySem.W.excIn K (He.ga K x) bmB newId = true) ∧ PySem.W.keepIn K (.ref (He.ga K x)) = true ∧ PySem.W.subIn K (.ref (He.ga K x)) (.type "BaseException") = some true ∧ PySem.W.typeIn K (.ref (He.ga K x)) = some (.type "type")
  sub : ∀ c ∈ G.gx, ∀ d ∈ G.gx, PySem.W.exmOne K (.ref (He.ga K c)) (.ref (He.ga K d)) = some (exmB G c d)
  ex : ∀ c ∈ G.gx, ExcC K (He.ga K c)
  kit : ∀ c ∈ G.gx, ∀ d ∈ G.gx, PySem.W.kitOne K (.ref (He.ga K c)) (.ref (He.ga K d)) = some (exmB G c d)
structure CxtS (G : Gt) (C : Str → List U → List O → R U) (k : Nat) (X : Cx) (W : WX) (L : Lm) : Prop where
  c : Cxt G C k X W L
  hp : PassesOwn (model X.prog X.w) X.A X.env X.xe
  hs : X.stack = X.env :: X.outer
  hf : X.env.frame = some X.env.locals
  kd : L.sc.kind = .function
  gx : GX X.K X.mg G
section
variable (G : Gt) (C : Str → List U → List O → R U) (F : Nat) (k : Nat)
theorem tup_sw {L : Lm} {env : Env} {ts : List Expr} {e : Expr} {n : Nat} {p : Pos} (hs : env.scope = L.sc) (hk : env.scope.kind = .function) (h : (match e with | .Tuple vs _ _ => (match swS L.sc ts vs with | some none => true | _ => false) | _ => true) = true) : swappedStores [.Tuple ts n p] e env = pure none := by
  cases e <;> first
    | (rename_i vs k2 p2
       dsimp only at h
       split at h
       · rename_i q
         exact swS_ok hk (by rw [hs]; exact q)
       · cases h)
    | rfl

theorem cst_ok {X : Cx} {W : WX} {x : Ex} {e : Expr} (h : (match x with
      | .str s => (match e with | .Constant (.str j) _ _ => decide (s = j) && PyData.strOk s | _ => false)
      | .int n => (match e with | .Constant (.int j) _ _ => decide (n = j) | _ => false)
      | .bl n => (match e with | .Constant (.bool j) _ _ => n == j | _ => false)
      | .non => (match e with | .Constant .none _ _ => true | _ => false)
      | _ => false) = true) : Den X W e (ev G C x) := by
  split at h
  · split at h
    · simp only [Bool.and_eq_true, decide_eq_true_eq] at h
      obtain ⟨h1, h2⟩ := h
      subst h1
      exact den_str h2
    · cases h
  · split at h
    · have h := of_decide_eq_true h
      subst h
      exact den_int
    · cases h
  · split at h
    · have h := beq_iff_eq.mp h
      subst h
      exact den_bl
    · cases h
  · split at h
    · exact den_non
    · cases h
  · cases h
/-- the facts that an except clause needs -/
structure CxtU (X : Cx) (L : Lm) : Prop where
  N : X.N = L.N
  nd : L.N.Nodup
  sc : X.env.scope = L.sc
  fc : ∀ x, L.fc x = true → X.fn x = true
theorem CxtU.loc {X : Cx} {L : Lm} (c : CxtU X L) {x : Str} (h : locB L x = true) : Loc X.env.scope x ∧ (X.fn x = true ∨ X.env.scope.names.lookup x = some .local) := by
  unfold locB at h
  rw [c.sc]
  split at h
  · rename_i q; exact ⟨.inl q, .inr q⟩
  · rename_i q; exact ⟨.inr q, .inl (c.fc x h)⟩
  · cases h
theorem chkU_ok : ∀ (s : Sm) {X : Cx} {W : WX} {L : Lm} {st : Stmt}, CxtU X L → chkU s L st = true → DenS X W st (ex G C F s) := by
  intro s X W L st c h
  cases s with
  | set i x =>
    unfold chkU at h
    dsimp only at h
    split at h
    · simp only [Bool.and_eq_true, decide_eq_true_eq, Bool.not_eq_true'] at h
      obtain ⟨⟨⟨h1, h2⟩, h3⟩, h4⟩ := h
      exact dens_set (by rw [c.N]; exact c.nd) (by rw [c.N]; exact h1) (c.loc h2).1 (c.loc h2).2 (cst_ok G C h4) (noSwap h3)
    · cases h
  | ret x =>
    unfold chkU at h
    dsimp only at h
    split at h
    · exact dens_ret (cst_ok G C h)
    · cases h
  | pass =>
    unfold chkU at h
    dsimp only at h
    split at h
    · exact dens_pass
    · cases h
  | brk =>
    unfold chkU at h
    dsimp only at h
    split at h
    · exact dens_break
    · cases h
  | cnt =>
    unfold chkU at h
    dsimp only at h
    split at h
    · exact dens_cont
    · cases h
  | _ => cases h
theorem chkUs_ok : ∀ (s : Ss) {X : Cx} {W : WX} {L : Lm} {sts : List Stmt}, CxtU X L → chkUs G s L sts = true → DenB X W sts (exs G C F s)
  | .nil, X, W, L, sts, c, h => by
    unfold chkUs at h
    split at h
    · exact denb_nil
    · cases h
  | .cons s r, X, W, L, sts, c, h => by
    unfold chkUs at h
    split at h
    · simp only [Bool.and_eq_true] at h
      exact denb_cons (chkU_ok G C F s c h.1) (chkUs_ok r c h.2)
    · cases h
theorem CxtS.tr {X : Cx} {W W' : WX} {L : Lm} (c : CxtS G C k X W L) (pn : List (Addr × Obj)) (xe : Value → Shared → Prop) (tk : Takes (X.tr pn xe) W') (hp : PassesOwn (model X.prog X.w) X.A X.env xe) : CxtS G C k (X.tr pn xe) W' L where
  c := ⟨c.c.N, c.c.nd, c.c.sc, c.c.calm, c.c.room, tk, c.c.gf, ⟨c.c.ff.ok⟩, c.c.fc⟩
  hp := hp
  hs := c.hs
  hf := c.hf
  kd := c.kd
  gx := c.gx
mutual
theorem chkS_ok : ∀ (s : Sm) {X : Cx} {W : WX} {L : Lm} {st : Stmt}, CxtS G C k X W L → chkS G s L st = true → DenS X W st (ex G C F s)
  | .doc, X, W, L, st, c, h => by
    unfold chkS at h
    split at h
    · exact dens_of ps_doc fun σ' h σ H μ D re rh p => p.nx rh re
    · cases h
  | .drop x, X, W, L, st, c, h => by
    unfold chkS at h
    split at h
    · simp only [Bool.and_eq_true, Bool.not_eq_true'] at h
      exact dens_expr (chk_ok G C k x c.c h.1).d h.2
    · cases h
  | .set i x, X, W, L, st, c, h => by
    unfold chkS at h
    split at h
    · simp only [Bool.and_eq_true, decide_eq_true_eq] at h
      obtain ⟨⟨⟨h1, h2⟩, h3⟩, h4⟩ := h
      exact dens_set (by rw [c.c.N]; exact c.c.nd) (by rw [c.c.N]; exact h1) (c.c.loc h2).1 (c.c.loc h2).2 (chk_ok G C k x c.c h3).d (noSwB_ok c.c.sc (by rw [c.c.sc]; exact c.kd) h4)
    · cases h
  | .slc i m t w co x, X, W, L, st, c, h => by
    unfold chkS at h
    split at h
    · rename_i y py elt tg iter ifs scope lp pos
      simp only [Bool.and_eq_true, decide_eq_true_eq, Bool.not_eq_true', beq_iff_eq] at h
      obtain ⟨⟨⟨⟨⟨⟨⟨⟨h1, h2⟩, h3⟩, h4⟩, h5⟩, h6⟩, h7⟩, h8⟩, h9⟩ := h
      refine dens_setLc c.c.calm (by rw [c.c.N]; exact c.c.nd) (by rw [c.c.N]; exact h1) (by rw [c.c.sc]; exact h2) (by rw [swB_ok c.c.sc (by rw [c.c.sc]; exact c.kd), h3]) (chkw_ok G C k w c.c h4) (own := owns L t.slots) (by rw [c.c.N, c.c.sc]; exact blkOk_by h8)
        (fun s H Ca cl fp => chkG_ok t (c.c.blk s H scope Ca cl fp) h5) (fun s H Ca cl fp => chkc_ok G C k co (c.c.blk s H scope Ca cl fp) h6) (fun s H Ca cl fp => (chk_ok G C k x (c.c.blk s H scope Ca cl fp) h7).d) ?_ (fun i hi => hi) h9
      unfold owns
      rw [List.map_map]
      exact List.map_id _
    · cases h
  | .tup t x, X, W, L, st, c, h => by
    unfold chkS at h
    split at h
    · simp only [Bool.and_eq_true] at h
      obtain ⟨⟨h1, h2⟩, h3⟩ := h
      exact dens_tup (chkG_ok t c.c h1) (chk_ok G C k x c.c h2).d noSwT (tup_sw c.c.sc (by rw [c.c.sc]; exact c.kd) h3) rfl
    · cases h
  | .par2 i j l, X, W, L, st, c, h => by
    unfold chkS at h
    split at h
    · simp only [Bool.and_eq_true, decide_eq_true_eq, beq_iff_eq] at h
      obtain ⟨⟨⟨⟨⟨⟨h0, h1⟩, h2⟩, h3⟩, h4⟩, h5⟩, h6⟩ := h
      exact dens_par2 c.c.calm (by rw [c.c.N]; exact c.c.nd) (by rw [c.c.N]; exact h1) (by rw [c.c.N]; exact h2) h3 (by rw [c.c.sc]; exact h4) (by rw [c.c.sc]; exact h5) (chks_ok G C k l c.c h6).1 (swS_ok (by rw [c.c.sc]; exact c.kd) (by rw [c.c.sc]; exact h0))
    · cases h
  | .par3 i j n l, X, W, L, st, c, h => by
    unfold chkS at h
    split at h
    · simp only [Bool.and_eq_true, decide_eq_true_eq, beq_iff_eq] at h
      obtain ⟨⟨⟨⟨⟨⟨⟨⟨⟨⟨h0, h1⟩, h2⟩, h3⟩, h4⟩, h5⟩, h6⟩, h7⟩, h8⟩, h9⟩, h10⟩ := h
      exact dens_par3 c.c.calm (by rw [c.c.N]; exact c.c.nd) (by rw [c.c.N]; exact h1) (by rw [c.c.N]; exact h2) (by rw [c.c.N]; exact h3) h4 h5 h6 (by rw [c.c.sc]; exact h7) (by rw [c.c.sc]; exact h8) (by rw [c.c.sc]; exact h9) (chks_ok G C k l c.c h10).1 (swS_ok (by rw [c.c.sc]; exact c.kd) (by rw [c.c.sc]; exact h0))
    · cases h
  | .sub o i x, X, W, L, st, c, h => by
    unfold chkS at h
    split at h
    · simp only [Bool.and_eq_true, Bool.not_eq_true'] at h
      obtain ⟨⟨⟨⟨h1, h2⟩, h3⟩, h4⟩, h5⟩ := h
      exact dens_sub (chk_ok G C k x c.c h1).d (chk_ok G C k o c.c h2).d (chk_ok G C k i c.c h3).d h4 h5 c.c.un
    · cases h
  | .ife x a b, X, W, L, st, c, h => by
    unfold chkS at h
    split at h
    · simp only [Bool.and_eq_true] at h
      obtain ⟨⟨⟨h1, h2⟩, h3⟩, h4⟩ := h
      exact dens_if ((chk_ok G C k x c.c h1).t h2) (chkB_ok a c h3) (chkB_ok b c h4)
    · cases h
  | .wh x b, X, W, L, st, c, h => by
    unfold chkS at h
    split at h
    · simp only [Bool.and_eq_true] at h
      obtain ⟨⟨h1, h2⟩, h3⟩ := h
      exact dens_while F c.hp ((chk_ok G C k x c.c h1).t h2) (chkB_ok b c h3)
    · cases h
  | .fo t w b, X, W, L, st, c, h => by
    unfold chkS at h
    split at h
    · simp only [Bool.and_eq_true, Bool.not_eq_true'] at h
      obtain ⟨⟨⟨h1, h2⟩, h3⟩, h4⟩ := h
      exact dens_for c.hp c.c.calm (chkw_ok G C k w c.c h2) (chkG_ok t c.c h1) (chkB_ok b c h3) h4
    · cases h
  | .ret x, X, W, L, st, c, h => by
    unfold chkS at h
    split at h
    · exact dens_ret (chk_ok G C k x c.c h).d
    · cases h
  | .retN, X, W, L, st, c, h => by
    unfold chkS at h
    split at h
    · exact dens_retN
    · cases h
  | .rais y, X, W, L, st, c, h => by
    unfold chkS at h
    split at h
    · simp only [Bool.and_eq_true, decide_eq_true_eq] at h
      obtain ⟨⟨⟨h1, h2⟩, h3⟩, h4⟩ := h
      subst h1
      obtain ⟨g1, ⟨bmB, B, newId, initId, g2, g3⟩, g4, g5, g6⟩ := c.gx.ok _ h4
      exact dens_raise c.c.calm c.c.tk g2 g3 g1 g4 (raises_own g5 g6) (c.c.gl h2) (plN_ok h3).1
    · cases h
  | .tr b hs, X, W, L, st, c, h => by
    unfold chkS at h
    split at h
    · simp only [Bool.and_eq_true] at h
      obtain ⟨h1, h2⟩ := h
      exact dens_try c.hs c.hf c.c.tk (fun W' pn xe tk hp => chkB_ok b (c.tr G C k pn xe tk hp) h1) (chkH_ok hs c h2)
    · cases h
  | .pass, X, W, L, st, c, h => by
    unfold chkS at h
    split at h
    · exact dens_pass
    · cases h
  | .brk, X, W, L, st, c, h => by
    unfold chkS at h
    split at h
    · exact dens_break
    · cases h
  | .cnt, X, W, L, st, c, h => by
    unfold chkS at h
    split at h
    · exact dens_cont
    · cases h
  | .slc2 i m t w co t1 w1 co1 x, X, W, L, st, c, h => by
    unfold chkS at h
    split at h
    · rename_i y py elt tg iter ifs tg1 iter1 ifs1 scope lp pos
      simp only [Bool.and_eq_true, decide_eq_true_eq, Bool.not_eq_true', beq_iff_eq] at h
      obtain ⟨⟨⟨⟨⟨⟨⟨⟨⟨⟨⟨⟨h1, h2⟩, h3⟩, h4⟩, h5⟩, h6⟩, h7⟩, h8⟩, h9⟩, h10⟩, h11⟩, h12⟩, h13⟩ := h
      refine dens_setLc2 c.c.calm (by rw [c.c.N]; exact c.c.nd) (by rw [c.c.N]; exact h1) (by rw [c.c.sc]; exact h2) (by rw [swB_ok c.c.sc (by rw [c.c.sc]; exact c.kd), h3]) (chkw_ok G C k w c.c h4) (own := owns L (t.slots ++ t1.slots)) (by rw [c.c.N, c.c.sc]; exact blkOk_by h11)
        (fun s H Ca cl fp => chkG_ok t (c.c.blk s H scope Ca cl fp) h5) (fun s H Ca cl fp => chkc_ok G C k co (c.c.blk s H scope Ca cl fp) h6) (fun s H Ca cl fp => chkw_ok G C k w1 (c.c.blk s H scope Ca cl fp) h7) (fun s H Ca cl fp => chkG_ok t1 (c.c.blk s H scope Ca cl fp) h8)
        (fun s H Ca cl fp => chkc_ok G C k co1 (c.c.blk s H scope Ca cl fp) h9) (fun s H Ca cl fp => (chk_ok G C k x (c.c.blk s H scope Ca cl fp) h10).d) ?_ (fun i hi => List.mem_append_left _ hi) (fun i hi => hi) (fun i hi => List.mem_append_right _ hi) h12 h13
      unfold owns
      rw [List.map_map]
      exact List.map_id _
    · cases h
  | .aug i sub x, X, W, L, st, c, h => by
    unfold chkS at h
    split at h
    · simp only [Bool.and_eq_true, decide_eq_true_eq] at h
      obtain ⟨⟨⟨h1, h2⟩, h3⟩, h4⟩ := h
      exact dens_aug (by rw [c.c.N]; exact c.c.nd) (by rw [c.c.N]; exact h1) (c.c.loc h2).1 (c.c.loc h2).2 h3 (chk_ok G C k x c.c h4).d
    · cases h
  | .tis b x i j cc, X, W, L, st, c, h => by
    unfold chkS at h
    split at h
    · simp only [Bool.and_eq_true, decide_eq_true_eq, beq_iff_eq] at h
      obtain ⟨⟨⟨⟨⟨⟨⟨⟨⟨⟨⟨⟨⟨⟨⟨⟨⟨⟨⟨h1, h2⟩, h3⟩, h4⟩, h5⟩, h6⟩, h7⟩, h8⟩, h9⟩, h10⟩, h11⟩, h12⟩, h13⟩, h14⟩, h15⟩, h16⟩, h17⟩, h18⟩, h19⟩, h20⟩ := h
      subst h1 h2 h3 h4
      exact dens_tryIs c.hs c.hf c.c.tk (by rw [c.c.N]; exact c.c.nd) (by rw [c.c.N]; exact h5) (by rw [c.c.N]; exact h6) h7 (by show X.env.scope.names.lookup _ = _; rw [c.c.sc]; exact h8) (by rw [c.c.sc]; exact h9) (c.c.vis h10) (plN_ok h11).1 (plN_ok h11).2
        (c.c.gl h12) (plN_ok h13).1 (c.gx.ok _ h14).1 h14 (c.c.gl h15) (plN_ok h16).1 (c.gx.ok _ h17).1 h17 (c.c.gl h18) (c.c.gf.gf _ h19) ⟨c.gx.ex, c.gx.kit, c.gx.sub⟩ (fun W' pn xe tk hp => chkB_ok b (c.tr G C k pn xe tk hp) h20)
    · cases h
  | .lock i s, X, W, L, st, c, h => by
    unfold chkS at h
    exact dens_lock (chkS_ok s c h)
theorem chkB_ok : ∀ (s : Ss) {X : Cx} {W : WX} {L : Lm} {sts : List Stmt}, CxtS G C k X W L → chkB G s L sts = true → DenB X W sts (exs G C F s)
  | .nil, X, W, L, sts, c, h => by
    unfold chkB at h
    split at h
    · exact denb_nil
    · cases h
  | .cons s r, X, W, L, sts, c, h => by
    unfold chkB at h
    split at h
    · simp only [Bool.and_eq_true] at h
      exact denb_cons (chkS_ok s c h.1) (chkB_ok r c h.2)
    · cases h
theorem chkH_ok : ∀ (s : Hs) {X : Cx} {W : WX} {L : Lm} {hs : List ExceptHandler}, CxtS G C k X W L → chkH G s L hs = true → Hds X (exmB G) G.gx hs (exh G C F s)
  | .nil, X, W, L, sts, c, h => by
    unfold chkH at h
    split at h
    · exact .nil
    · cases h
  | .cons y b r, X, W, L, sts, c, h => by
    unfold chkH at h
    split at h
    · simp only [Bool.and_eq_true, decide_eq_true_eq] at h
      obtain ⟨⟨⟨⟨⟨h1, h2⟩, h3⟩, h4⟩, h5⟩, h6⟩ := h
      subst h1
      obtain ⟨g1, _⟩ := c.gx.ok _ h4
      exact .cons (v := .ref (He.ga X.K _)) ⟨c.c.gl h2, (plN_ok h3).1, .inl g1⟩ (fun d hd => c.gx.sub d hd _ h4) (fun a oe pn => chkUs_ok G C F b ⟨c.c.N, c.c.nd, c.c.sc, c.c.fc⟩ h5) (chkH_ok r c h6)
    · cases h
end
end
end Py

/-! defs: what a run of them gives; the table of a law's facts -/
namespace Py
open PySem PySem.Spec PyProof.Rows L2
structure Df where
  ps : List Str
  N : List Str
  keep : Bool
  body : Ss
def outU (n : Nat) (u : U) (h : List O) : R U := match u with
  | .lab m => if m < n then .ok (.lab m) (h.take n) else (match settle n (.lab m) h with
    | some d => .ok (.d d) (h.take n)
    | none => .bad)
  | u => .ok u (h.take n)
def leave (keep : Bool) (n : Nat) (r : Fl) : R U := match r with
  | .nx _ h => .ok (.d .none) (h.take n)
  | .ret u h => if keep = true then .ok u h else outU n u h
  | .er c _ h => .err c (h.take n)
  | _ => .bad
def findD (ds : List (Str × Df)) (x : Str) : Option Df := (ds.find? fun p => p.1 = x).map (·.2)
def startE (d : Df) (us : List U) : En := us.map some ++ List.replicate (d.N.length - us.length) none
def run (G : Gt) (F : Nat) (ds : List (Str × Df)) : Nat → Str → List U → List O → R U
  | 0, _, _, _ => .bad
  | k + 1, x, us, h => match findD ds x with
    | none => .bad
    | some d => if us.length = d.ps.length then leave d.keep h.length (exs G (run G F ds k) F d.body (startE d us) h) else .bad
theorem outU_of {K : PySem.W.Frag} {H H' : Hp} {μ μ' : List Addr} {h' : List O} {σ : L2.St} {W : WX} {u : U} {v : V} {Q : VK} {n : Nat} (hn : μ.length = n) (e : Ext μ H μ' H') (rh : Rh K H' μ' h') (ru : RU K H' μ' u v) (p : Post K W σ H μ (RU K) (outU n u h') Q) : Q v H' := by
  have ec : Ext μ H (μ'.take n) H' := e.cut (by omega)
  have rc := rh.cut n
  unfold outU at p
  cases ru with
  | d r => exact p _ _ _ ec rc (.d (r.sub mem_take))
  | ty m => exact p _ _ _ ec rc (.ty m)
  | gl x => exact p _ _ _ ec rc (.gl x)
  | scr q => exact p _ _ _ ec rc (.scr (q.elim (fun ⟨o, z1, z2⟩ => .inl ⟨o, z1, fun m => z2 (mem_take _ m)⟩) .inr))
  | @lab m a q =>
    dsimp only at p
    split at p
    · rename_i hm
      exact p _ _ _ ec rc (.lab (by rw [List.getElem?_take_of_lt hm]; exact q))
    · rename_i hm
      cases hs : settle n (.lab m) h' with
      | none => simp only [hs] at p; exact p.elim
      | some d =>
        simp only [hs] at p
        exact p _ _ _ ec rc (.d (settle_ok rh (.lab q) hs))
theorem leave_of {K : PySem.W.Frag} {H : Hp} {μ : List Addr} {keep : Bool} {n : Nat} {r : Fl} {E : XK} {Q : VK} (hn : μ.length = n) (p : Post K (fun c d _ H => E c d H) [] H μ (RU K) (leave keep n r) Q) :
    PostS K (fun c d _ H => E c d H) H μ r { nx := fun _ H' => Q .non H', rt := Q } := by
  cases r with
  | nx s h => exact fun σ H' μ' e rh re => p _ _ _ (e.cut (by omega)) (rh.cut n) (.d .non)
  | ret u h =>
    intro v H' μ' e rh ru
    cases keep with
    | true => exact p _ _ _ e rh ru
    | false => exact outU_of hn e rh ru p
  | er c s h => exact fun σ H' μ' e rh re => p _ _ (e.cut (by omega)) (rh.cut n)
  | bk s h => exact p.elim
  | ct s h => exact p.elim
  | bad => exact p.elim
theorem RUs.getS {K : PySem.W.Frag} {H : Hp} {μ : List Addr} {us : List U} {vs : List V} (r : RUs K H μ us vs) (m n : Nat) (hl : m = n) : RE K H μ (us.map some ++ List.replicate m none) (vs.map some ++ List.replicate n none) := by
  subst hl
  refine ⟨by simp [r.length], fun i u q => ?_⟩
  by_cases hi : i < us.length
  · rw [List.getElem?_append_left (by simpa using hi), List.getElem?_map] at q
    cases z : us[i]? with
    | none => rw [z] at q; cases q
    | some w =>
      rw [z] at q
      cases q
      obtain ⟨v, hv, rv⟩ := r.get z
      refine ⟨v, ?_, rv⟩
      rw [List.getElem?_append_left (by rw [List.length_map, ← r.length]; exact hi), List.getElem?_map, hv]
      rfl
  · rw [List.getElem?_append_right (by simpa using hi)] at q
    rw [List.getElem?_replicate] at q
    split at q <;> cases q
/-- a def of the text fits its tree -/
def fscB (N ps : List Str) (sc : Scope) : Bool :=
  (match sc.kind with | .function => true | _ => false) && !sc.isCoroutine && !sc.isGenerator && decide (N.take ps.length = ps) && (ps.all fun x => match sc.names.lookup x with | some .local => true | some .cell => true | _ => false) && (sc.names.all fun y => match y.2 with | .free => false | _ => true)
theorem fscB_ok {N ps : List Str} {sc : Scope} (hN : N.Nodup) (h : fscB N ps sc = true) : FnScope N ps sc := by
  unfold fscB at h
  simp only [Bool.and_eq_true, decide_eq_true_eq, Bool.not_eq_true', List.all_eq_true] at h
  obtain ⟨⟨⟨⟨⟨h1, h2⟩, h3⟩, h4⟩, h5⟩, h6⟩ := h
  refine ⟨?_, h2, h3, hN, h4, fun x hx => ?_, fun y hy e => ?_⟩
  · split at h1
    · assumption
    · cases h1
  · have := h5 x hx
    split at this
    · rename_i q; exact .inl q
    · rename_i q; exact .inr q
    · cases this
  · have := h6 y hy
    rw [e] at this
    cases this
section
variable {P : Program} {w : World} {K : PySem.W.Frag} {mg : Str → Option Value} {base : Heap} (G : Gt) (F : Nat) (ds : List (Str × Df))
/-- all that is asked of the text -/
structure Txt (K : PySem.W.Frag) (mg : Str → Option Value) (G : Gt) (ds : List (Str × Df)) : Prop where
  gf : GF K mg G
  gx : GX K mg G
  df : ∀ p ∈ G.gd, mg p.1 = some (.ref (He.ga K p.1)) ∧ PySem.W.keepIn K (.ref (He.ga K p.1)) = true ∧ ∃ d, findD ds p.1 = some d ∧ d.ps = p.2 ∧ ∃ nm qual params body scope fd, FunD K nm qual params body scope [] [] (He.ga K p.1) fd ∧ FnScope d.N d.ps scope ∧
    chkB G d.body ⟨d.N, scope, fun _ => true⟩ body = true ∧ ∀ n ks perm, (p.1, n, ks, perm) ∈ G.gs → BindOk K fd d.ps n ks perm
theorem run_ok (T : Txt K mg G ds) : ∀ k, ∀ p ∈ G.gd, mg p.1 = some (.ref (He.ga K p.1)) ∧ PySem.W.keepIn K (.ref (He.ga K p.1)) = true ∧ ∃ fd, FnOk P w K mg base (L2.CX P w) k (He.ga K p.1) fd p.2 (spF K p.2.length (run G F ds k p.1)) ∧
    ∀ n ks perm, (p.1, n, ks, perm) ∈ G.gs → BindOk K fd p.2 n ks perm
  | 0, p, hp => by
    obtain ⟨h1, h2, d, h3, h4, nm, q, pa, bo, sc, fd, h5, h6, h7, h8⟩ := T.df p hp
    rw [← h4]
    refine ⟨h1, h2, fd, ⟨fun vs H Q E h => h.1, fun A outer s H args us vs Q E _ _ _ _ h => ?_⟩, h8⟩
    obtain ⟨_, us', h', μ, _, _, z⟩ := h
    exact z.elim
  | k + 1, p, hp => by
    have ih := run_ok T k
    obtain ⟨h1, h2, d, h3, h4, nm, q, pa, bo, sc, fd, h5, h6, h7, h8⟩ := T.df p hp
    rw [← h4]
    refine ⟨h1, h2, fd, h5.ok h6 (fun vs H Q E h => h.1) (fun cdv A outer s H vs Q E hr h => ?_), h8⟩
    obtain ⟨hl, us, h', μ, rh, ru, z⟩ := h
    unfold run at z
    rw [h3] at z
    dsimp only at z
    have hul : us.length = d.ps.length := by rw [ru.length, hl]
    rw [if_pos hul] at z
    have c : CxtS G (run G F ds k) k (cxOf (L2.CX P w) P w K mg base d.N q sc (He.ga K p.1) cdv A outer s H E) (fun c d _ H => E c d H) ⟨d.N, sc, fun _ => true⟩ := {
      c := ⟨rfl, h6.nd, rfl, rfl, hr, takes_of rfl rfl rfl rfl, T.gf, ⟨ih⟩, fun _ _ => rfl⟩
      hp := passes_of rfl
      hs := rfl
      hf := rfl
      kd := h6.kind
      gx := T.gx }
    refine ⟨_, chkB_ok G (run G F ds k) F k d.body c h7, startE d us, h', μ, ?_, rh, leave_of (by rw [rh.len]) z⟩
    exact ru.getS _ _ (by rw [ru.length])
end
end Py

/-! from the head's facts to all that is asked of the text -/
namespace Py
open PySem PySem.Spec PyProof.Rows L2
def stN : Stmt → Str
  | .FunctionDef n _ _ _ _ _ _ _ _ _ => n
  | .ClassDef n _ _ _ _ _ _ _ _ _ _ => n
  | _ => ""
def mkDD (nm : Str) (st : Stmt) : He.DefD := ⟨(nm, none), stN st, stN st, defArgs st, defBody st, defScope st, [], []⟩
abbrev Sh := Nat × List Str × List Nat
structure Dd where
  nm : Str
  st : Stmt
  df : Df
  sh : List Sh
def BSh (st : Stmt) (ps : List Str) (s : Sh) : Prop := ∀ (kV doc pm : Value) (an : Option Addr) (cdv ct : Value) (us ws : List Value), us.length = s.1 → ws.length = s.2.1.length →
  bindArgs (PySem.W.fnOf (stN st) (stN st) (defArgs st) (defBody st) (defScope st) .none kV doc pm an cdv ct) ⟨us, s.2.1.zip ws⟩ = pure (ps.zip (permL s.2.2 (us ++ ws)))
def AllS (st : Stmt) (ps : List Str) : List Sh → Prop
  | [] => True
  | s :: r => BSh st ps s ∧ AllS st ps r
def AllSh : List Dd → Prop
  | [] => True
  | d :: r => AllS d.st d.df.ps d.sh ∧ AllSh r
theorem AllS.mem {st : Stmt} {ps : List Str} : ∀ {l : List Sh}, AllS st ps l → ∀ s ∈ l, BSh st ps s
  | [], _, s, h => by cases h
  | t :: r, a, s, h => by
    rcases List.mem_cons.mp h with e | h
    · rw [e]; exact a.1
    · exact a.2.mem s h
theorem AllSh.mem : ∀ {l : List Dd}, AllSh l → ∀ d ∈ l, AllS d.st d.df.ps d.sh
  | [], _, s, h => by cases h
  | t :: r, a, s, h => by
    rcases List.mem_cons.mp h with e | h
    · rw [e]; exact a.1
    · exact a.2.mem s h
/-! ### written tuples at the top -/
mutual
def layB (K : PySem.W.Frag) : D → Value → Bool
  | .none, v => match v with
    | .none => true
    | _ => false
  | .bool b, v => match v with
    | .bool c => b == c
    | _ => false
  | .int i, v => match v with
    | .int j _ => decide (i = j)
    | _ => false
  | .str s, v => match v with
    | .str t _ => decide (s = t) && PyData.strOk s
    | _ => false
  | .tuple ds, v => match v with
    | .ref a => (match K.lookup a with
      | some ⟨.type c, _, .seq its _, _⟩ => decide (c = "tuple") && decide (its.size ≤ sizeLine) && layBs K ds its.toList
      | _ => false)
    | _ => false
  | .list _, _ => false
  | .dict _, _ => false
def layBs (K : PySem.W.Frag) : List D → List Value → Bool
  | [], vs => match vs with
    | [] => true
    | _ :: _ => false
  | d :: ds, vs => match vs with
    | [] => false
    | v :: vs => layB K d v && layBs K ds vs
end
theorem tupAt {K : PySem.W.Frag} {a : Addr} {ds : List D} (h : layB K (.tuple ds) (.ref a) = true) : ∃ its n, (∃ od sl, K.lookup a = some ⟨.type "tuple", od, .seq its n, sl⟩) ∧ its.size ≤ sizeLine ∧ layBs K ds its.toList = true := by
  unfold layB at h
  dsimp only at h
  split at h
  · rename_i c od its n sl q
    simp only [Bool.and_eq_true, decide_eq_true_eq] at h
    obtain ⟨⟨h1, h2⟩, h3⟩ := h
    subst h1
    exact ⟨its, n, ⟨od, sl, q⟩, h2, h3⟩
  · cases h
mutual
theorem layB_ok {K : PySem.W.Frag} : ∀ (d : D) (v : Value), layB K d v = true → ∃ x, RelV x v ∧ ∀ H μ, RD K H μ d x
  | .none, v, h => by
    unfold layB at h
    split at h
    · exact ⟨.non, rfl, fun _ _ => .non⟩
    · cases h
  | .bool b, v, h => by
    unfold layB at h
    split at h
    · have h := beq_iff_eq.mp h
      subst h
      exact ⟨.bl b, rfl, fun _ _ => .bl b⟩
    · cases h
  | .int i, v, h => by
    unfold layB at h
    split at h
    · have h := of_decide_eq_true h
      subst h
      exact ⟨.int i, ⟨_, rfl⟩, fun _ _ => .int i⟩
    · cases h
  | .str s, v, h => by
    unfold layB at h
    split at h
    · obtain ⟨h1, h2⟩ := Bool.and_eq_true_iff.mp h
      have h1 := of_decide_eq_true h1
      subst h1
      exact ⟨.str s, ⟨_, rfl⟩, fun _ _ => .str s h2⟩
    · cases h
  | .tuple ds, v, h => by
    cases v with
    | ref a =>
      obtain ⟨its, n, ⟨od, sl, q⟩, h2, h3⟩ := tupAt h
      obtain ⟨xs, h4, h5⟩ := layBs_ok ds its.toList h3
      exact ⟨.ref a, rfl, fun H μ => .tup (.inr ⟨_, its, n, q, rfl, rfl, h2, h4⟩) (h5 H μ)⟩
    | _ => unfold layB at h; cases h
  | .list _, _, h => by unfold layB at h; cases h
  | .dict _, _, h => by unfold layB at h; cases h
theorem layBs_ok {K : PySem.W.Frag} : ∀ (ds : List D) (vs : List Value), layBs K ds vs = true → ∃ xs, Vals xs vs ∧ ∀ H μ, RDs K H μ ds xs
  | [], vs, h => by
    unfold layBs at h
    split at h
    · exact ⟨[], .nil, fun _ _ => .nil⟩
    · cases h
  | d :: ds, vs, h => by
    unfold layBs at h
    split at h
    · cases h
    · rename_i v vs
      obtain ⟨h1, h2⟩ := Bool.and_eq_true_iff.mp h
      obtain ⟨x, a1, a2⟩ := layB_ok d v h1
      obtain ⟨xs, b1, b2⟩ := layBs_ok ds vs h2
      exact ⟨x :: xs, .cons a1 b1, fun H μ => .cons (a2 H μ) (b2 H μ)⟩
end
theorem layT_ok {K : PySem.W.Frag} {a : Addr} {ds : List D} (h : layB K (.tuple ds) (.ref a) = true) : ∃ vs, KTup K a vs ∧ ∀ H μ, RDs K H μ ds vs := by
  obtain ⟨its, n, ⟨od, sl, q⟩, h2, h3⟩ := tupAt h
  obtain ⟨xs, h4, h5⟩ := layBs_ok ds its.toList h3
  exact ⟨xs, ⟨_, its, n, q, rfl, rfl, h2, h4⟩, h5⟩
/-- what isinstance asks of the error classes -/
def excCB (K : PySem.W.Frag) (a : Addr) : Bool := decide (PySem.W.findIn K (.ref a) "__getattribute__" = some (some (.builtin "BaseException.__getattribute__"))) && decide (PySem.W.findIn K (.ref a) "__getattr__" = some none) && decide (PySem.W.subIn K (.ref a) (.type "BaseException") = some true) &&
  PySem.W.hasDictIn K a && decide (PySem.W.findIn K (.ref a) "__class__" = some (some (.builtin "object.__class__"))) && decide (PySem.W.specialIn K (.builtin "object.__class__") "__get__" = some (some (.builtin "getset_descriptor.__get__"))) && decide (PySem.W.takesIn K (.builtin "object.__class__") = some true) &&
  decide (PySem.W.mroIn K a (.type "object") = some true)
theorem excCB_ok {K : PySem.W.Frag} {a : Addr} (h : excCB K a = true) : ExcC K a := by
  unfold excCB at h
  simp only [Bool.and_eq_true, decide_eq_true_eq] at h
  obtain ⟨⟨⟨⟨⟨⟨⟨h1, h2⟩, h3⟩, h4⟩, h5⟩, h6⟩, h7⟩, h8⟩ := h
  exact ⟨h1, h2, h3, h4, h5, h6, h7, h8⟩
abbrev GtX : Type := List (Str × List D) × List Str × List (Str × Str)
def gtx (G : Gt) : GtX := (G.gt, G.gx, G.gm)
def exB (K : PySem.W.Frag) (gx : List Str) (gm : List (Str × Str)) : Bool := gx.all fun k => excCB K (He.ga K k) && gx.all fun c => decide (PySem.W.kitOne K (.ref (He.ga K k)) (.ref (He.ga K c)) = some (decide ((k, c) ∈ gm)))
/-- the head's Hook, with the written tuples -/
def obsT (gt : GtX) (fa : List He.Fa) (fn : List He.DefD) (K : PySem.W.Frag) : He.AlD := ((gt.1.all fun p => layB K (.tuple p.2) (.ref (He.ga K p.1))) && exB K gt.2.1 gt.2.2 && (He.obsD fa fn K).1, (He.obsD fa fn K).2)
def SaysT (gt : GtX) (fa : List He.Fa) (fn : List He.DefD) (K : PySem.W.Frag) : Prop := obsT gt fa fn K = He.valD fn
def obsTG (n : Nat) (gt : GtX) (fa : List He.Fa) (fn : List He.DefD) (g : Addr → Option Obj) : He.AlD := obsT gt fa fn (He.frG g (He.asD g n))
def hookT (n : Nat) (gt : GtX) (fa : List He.Fa) (fn : List He.DefD) : PySem.W.Hook where
  α := He.AlD
  obs := fun st => obsTG n gt fa fn st.heap.get?
  val := fun _ => He.valD fn
  says := fun _ hp => ∃ K : PySem.W.Frag, K.In hp ∧ SaysT gt fa fn K
  of := fun _ _ e => ⟨_, He.frG_in, e⟩
  keeps := fun _ _ _ ⟨K, hK, c⟩ kp => ⟨K, PySem.W.Frag.In.keeps hK kp, c⟩
theorem obsTG_eq {n : Nat} {gt : GtX} {fa : List He.Fa} {fn : List He.DefD} {g : Addr → Option Obj} {st : Shared} (h : ∀ a, g a = st.heap.get? a) : obsTG n gt fa fn g = (hookT n gt fa fn).obs st := by
  rw [show g = st.heap.get? from funext h]
  rfl
theorem SaysT.both {gt : GtX} {fa : List He.Fa} {fn : List He.DefD} {K : PySem.W.Frag} (c : SaysT gt fa fn K) : (∀ p ∈ gt.1, layB K (.tuple p.2) (.ref (He.ga K p.1)) = true) ∧ exB K gt.2.1 gt.2.2 = true ∧ He.SaysD fa fn K := by
  unfold SaysT obsT He.valD at c
  obtain ⟨c1, c2⟩ := Prod.mk.inj c
  obtain ⟨d0, d2⟩ := Bool.and_eq_true_iff.mp c1
  obtain ⟨d1, d3⟩ := Bool.and_eq_true_iff.mp d0
  exact ⟨fun p hp => List.all_eq_true.mp d1 p hp, d3, Prod.ext d2 c2⟩
def faOf (G : Gt) : List He.Fa := G.gf.map .free ++ (G.gi.map (fun p => .int p.1 p.2) ++ (G.gx.map .exc ++ (G.gx.map .glo ++ (G.gd.map (fun p => .glo p.1) ++ (G.gg.map .glo ++ ((G.gx.flatMap fun c => G.gx.map fun d => .exm c d (exmB G c d)) ++ G.gt.map fun p => .glo p.1))))))
def gdOf (l : List Dd) : List (Str × List Str) := l.map fun d => (d.nm, d.df.ps)
def dsOf (l : List Dd) : List (Str × Df) := l.map fun d => (d.nm, d.df)
def gsOf (l : List Dd) : List (Str × Sh) := l.flatMap fun d => d.sh.map fun s => (d.nm, s)
def okD (G : Gt) (d : Dd) : Bool := decide d.df.N.Nodup && fscB d.df.N d.df.ps (defScope d.st) && chkB G d.df.body ⟨d.df.N, defScope d.st, fun _ => true⟩ (defBody d.st)
theorem find_ds : ∀ {l : List Dd}, (l.map fun d => d.nm).Nodup → ∀ d ∈ l, findD (dsOf l) d.nm = some d.df
  | [], _, d, h => by cases h
  | t :: r, nd, d, h => by
    rw [List.map_cons, List.nodup_cons] at nd
    unfold findD dsOf
    rw [List.map_cons, List.find?_cons]
    rcases List.mem_cons.mp h with e | h
    · subst e
      simp
    · have ne : t.nm ≠ d.nm := fun e => nd.1 (by rw [e]; exact List.mem_map.mpr ⟨d, h, rfl⟩)
      rw [show (decide ((t.nm, t.df).1 = d.nm)) = false from decide_eq_false ne]
      exact find_ds nd.2 d h
theorem txt_of {K : PySem.W.Frag} {h : Heap} {mg : Str → Option Value} {G : Gt} {l : List Dd} (X : K.In h) (N : h.Ns mainGlobals mg) (ct : SaysT (gtx G) (faOf G) (l.map fun d => mkDD d.nm d.st) K) (e1 : G.gd = gdOf l) (e2 : G.gs = gsOf l) (nd : (l.map fun d => d.nm).Nodup)
    (ok : l.all (okD G) = true) (sh : AllSh l) : Txt K mg G (dsOf l) := by
  obtain ⟨lays, exb, c⟩ := ct.both
  have exq : ∀ k ∈ G.gx, excCB K (He.ga K k) = true ∧ ∀ c ∈ G.gx, PySem.W.kitOne K (.ref (He.ga K k)) (.ref (He.ga K c)) = some (exmB G k c) := fun k hk => by
    have := List.all_eq_true.mp exb k hk
    obtain ⟨a, b⟩ := Bool.and_eq_true_iff.mp this
    exact ⟨a, fun c hc => of_decide_eq_true (List.all_eq_true.mp b c hc)⟩
  have fact : ∀ f ∈ faOf G, f.ok K = true := fun f hf => by
    obtain ⟨i, hi, e⟩ := List.getElem_of_mem hf
    exact c.fact i (by rw [List.getElem?_eq_getElem hi, e])
  have glo : ∀ x, He.Fa.glo x ∈ faOf G → mg x = some (.ref (He.ga K x)) := fun x hx => He.glo_ok X N (fact _ hx)
  refine ⟨⟨fun p hp => ?_, fun p hp => ?_, fun x hx => ?_, fun x hx => ?_⟩, ⟨fun x hx => ?_, fun a ha b hb => ?_, fun x hx => excCB_ok (exq x hx).1, fun a ha b hb => (exq a ha).2 b hb⟩, fun p hp => ?_⟩
  · exact He.int_ok X N (fact (.int p.1 p.2) (by unfold faOf; simp only [List.mem_append, List.mem_map]; exact .inr (.inl ⟨p, hp, rfl⟩)))
  · exact ⟨glo p.1 (by unfold faOf; simp only [List.mem_append, List.mem_map]; exact .inr (.inr (.inr (.inr (.inr (.inr (.inr ⟨p, hp, rfl⟩))))))), layT_ok (lays p hp)⟩
  · exact He.free_ok X N (fact (.free x) (by unfold faOf; simp only [List.mem_append, List.mem_map]; exact .inl ⟨x, hx, rfl⟩))
  · exact glo x (by unfold faOf; simp only [List.mem_append, List.mem_map]; exact .inr (.inr (.inr (.inr (.inr (.inl ⟨x, hx, rfl⟩))))))
  · obtain ⟨q1, q2, q3, q4⟩ := He.exc_ok (fact (.exc x) (by unfold faOf; simp only [List.mem_append, List.mem_map]; exact .inr (.inr (.inl ⟨x, hx, rfl⟩))))
    exact ⟨glo x (by unfold faOf; simp only [List.mem_append, List.mem_map]; exact .inr (.inr (.inr (.inl ⟨x, hx, rfl⟩)))), ⟨_, _, _, _, PySem.F.excBase_ValueError, q1⟩, q2, q3, q4⟩
  · exact He.exm_ok (fact (.exm a b (exmB G a b)) (by unfold faOf; simp only [List.mem_append, List.mem_map, List.mem_flatMap]; exact .inr (.inr (.inr (.inr (.inr (.inr (.inl ⟨a, ha, b, hb, rfl⟩))))))))
  · have hp' := hp
    rw [e1] at hp'
    obtain ⟨d, hd, rfl⟩ := List.mem_map.mp hp'
    have g1 := glo d.nm (by unfold faOf; simp only [List.mem_append, List.mem_map]; exact .inr (.inr (.inr (.inr (.inl ⟨_, hp, rfl⟩)))))
    obtain ⟨i, hi, e⟩ := List.getElem_of_mem hd
    obtain ⟨fd, Fd⟩ := c.def_ i (d := mkDD d.nm d.st) (by rw [List.getElem?_map, List.getElem?_eq_getElem hi, e]; rfl)
    have Fd : FunD K (stN d.st) (stN d.st) (defArgs d.st) (defBody d.st) (defScope d.st) [] [] (He.ga K d.nm) fd := Fd
    have okd := List.all_eq_true.mp ok d hd
    unfold okD at okd
    simp only [Bool.and_eq_true, decide_eq_true_eq] at okd
    refine ⟨g1, Fd.kp, d.df, find_ds nd d hd, rfl, _, _, _, _, _, fd, Fd, fscB_ok okd.1.1 okd.1.2, okd.2, fun n ks perm hs => ?_⟩
    rw [e2] at hs
    unfold gsOf at hs
    rw [List.mem_flatMap] at hs
    obtain ⟨d2, hd2, hs⟩ := hs
    obtain ⟨s, hs1, hs2⟩ := List.mem_map.mp hs
    have hn : d2.nm = d.nm := congrArg (fun z : Str × Sh => z.1) hs2
    have hsh : s = (n, ks, perm) := congrArg (fun z : Str × Sh => z.2) hs2
    have hdd : d2 = d := by
      have h1 := find_ds nd d hd
      obtain ⟨i1, hi1, r1⟩ := List.getElem_of_mem hd
      obtain ⟨i2, hi2, r2⟩ := List.getElem_of_mem hd2
      have l1 : i1 < (l.map fun d => d.nm).length := by simpa using hi1
      have l2 : i2 < (l.map fun d => d.nm).length := by simpa using hi2
      have : (l.map fun d => d.nm)[i1] = (l.map fun d => d.nm)[i2] := by simp [r1, r2, hn]
      have := (List.getElem_inj nd).mp this
      subst this
      rw [← r1, ← r2]
    subst hdd
    have B := (sh.mem d2 hd2).mem s hs1
    subst hsh
    intro s us ws l1 l2
    obtain ⟨oc, od, dV, kV, doc, pm, an, cdv, ct, osl, rfl, lk, hcd, hD, hK⟩ := Fd.ex
    rcases hD with ⟨_, rfl⟩ | ⟨e, _⟩
    · exact .of_eq (B kV doc pm an cdv ct us ws l1 l2)
    · exact absurd rfl e
/-- what a law is asked: its def, run on a script, tells True -/
def spLaw (K : PySem.W.Frag) (G : Gt) (ds : List (Str × Df)) (k : Nat) : Sp := fun vs H Q E => ∃ F, spF K 1 (run G F ds k "law") vs H Q E
theorem law_fn {P : Program} {w : World} {K : PySem.W.Frag} {mg : Str → Option Value} {G : Gt} {ds : List (Str × Df)} {k : Nat} (T : Txt K mg G ds) (hp : (("law" : Str), [("script" : Str)]) ∈ G.gd) (hs : (("law" : Str), 1, ([] : List Str), [0]) ∈ G.gs) :
    ∃ (fd : FuncData), (∀ (s : Shared) (u : Value), BindsTo s fd ⟨[u], []⟩ [(("script" : Str), u)]) ∧ ∀ base : Heap, FnOk P w K mg base (L2.CX P w) (k + 1) (He.ga K "law") fd ["script"] (spLaw K G ds (k + 1)) := by
  obtain ⟨h1, h2, d, h3, h4, nm, q, pa, bo, sc, fd, h5, h6, h7, h8⟩ := T.df _ hp
  refine ⟨fd, fun s u => (by
    have z := h8 _ _ _ hs s [u] [] rfl rfl
    rw [show d.ps = [("script" : Str)] from h4] at z
    exact z), fun base => ?_⟩
  have hps : d.ps = [("script" : Str)] := h4
  rw [← hps]
  refine h5.ok h6 (fun vs H Q E h => ?_) (fun cdv A outer s H vs Q E hr h => ?_)
  · obtain ⟨F, h⟩ := h
    rw [hps]
    exact h.1
  · obtain ⟨F, hl, us, h', μ, rh, ru, z⟩ := h
    unfold run at z
    rw [h3] at z
    dsimp only at z
    have hul : us.length = d.ps.length := by rw [ru.length, hl, hps]; rfl
    rw [if_pos hul] at z
    have c : CxtS G (run G F ds k) k (cxOf (L2.CX P w) P w K mg base d.N q sc (He.ga K "law") cdv A outer s H E) (fun c d _ H => E c d H) ⟨d.N, sc, fun _ => true⟩ := {
      c := ⟨rfl, h6.nd, rfl, rfl, hr, takes_of rfl rfl rfl rfl, T.gf, ⟨run_ok G F ds T k⟩, fun _ _ => rfl⟩
      hp := passes_of rfl
      hs := rfl
      hf := rfl
      kd := h6.kind
      gx := T.gx }
    refine ⟨_, chkB_ok G (run G F ds k) F k d.body c h7, startE d us, h', μ, ?_, rh, leave_of (by rw [rh.len]) z⟩
    exact ru.getS _ _ (by rw [ru.length])
theorem law_in {K : PySem.W.Frag} {G : Gt} {ds : List (Str × Df)} {k : Nat} {H : Hp} {a : Addr} {ns : List Int} (hO : Only H) (hS : SqL K H a (ns.map V.int)) (r : ∃ F h', run G F ds k "law" [.scr ns] [] = .ok (.d (.bool true)) h') :
    spLaw K G ds k [.ref a] H (fun v _ => v = .bl true) fun _ _ _ => False := by
  obtain ⟨F, h', e⟩ := r
  refine ⟨F, rfl, [.scr ns], [], [], ⟨rfl, List.nodup_nil, fun n o a h => by simp at h⟩, .cons (.scr ?_) .nil, ?_⟩
  · rcases hS with (h | h) | h
    · rcases hO a with z | ⟨o, xs, z⟩
      · rw [z] at h; cases h
      · rw [z] at h; cases h
    · obtain ⟨o, h⟩ := h
      exact .inl ⟨o, h, by simp⟩
    · exact .inr h
  · rw [e]
    intro H' μ' b _ _ rb
    cases rb with
    | d rb => cases rb; rfl

/-- what a call may let out, whatever the World -/
def CXw (P : Program) : CXT := fun outer H s E e s' => ∃ w : World, L2.CX P w outer H s E e s'
theorem cxw_none {P : Program} {H : Hp} {s : Shared} {e : Value} {s' : Shared} (h : CXw P [] H s (fun _ _ _ => False) e s') : False := by
  obtain ⟨w, h⟩ := h
  unfold L2.CX at h
  obtain ⟨_, _, _, _, h⟩ := h
  simp at h
theorem fnok_cx {P : Program} {w : World} {K : PySem.W.Frag} {mg : Str → Option Value} {base : Heap} {k : Nat} {f : Addr} {fd : FuncData} {ps : List Str} {sp : Sp} (F : FnOk P w K mg base (L2.CX P w) k f fd ps sp) : FnOk P w K mg base (CXw P) k f fd ps sp :=
  ⟨F.len, fun A outer s H args us vs Q E hr e0 hb r h => codeAny_mono (F.run A outer s H args us vs Q E hr e0 hb r h) fun r s' q => by
    cases r with
    | error e => exact ⟨w, q⟩
    | ok fl =>
      cases fl with
      | ret u => exact q
      | next => exact q
      | brk => exact q
      | cont => exact q⟩
theorem law_end {P : Program} {w : World} {K : PySem.W.Frag} {h : Heap} {mg : Str → Option Value} {G : Gt} {l : List Dd} {k : Nat} {fa : Addr} (X : K.In h) (N : h.Ns mainGlobals mg) (hmg : mg ("law" : Str) = some (.ref fa)) (c : SaysT (gtx G) (faOf G) (l.map fun d => mkDD d.nm d.st) K) (e1 : G.gd = gdOf l) (e2 : G.gs = gsOf l)
    (nd : (l.map fun d => d.nm).Nodup) (ok : l.all (okD G) = true) (sh : AllSh l) (hp : (("law" : Str), [("script" : Str)]) ∈ G.gd) (hs : (("law" : Str), 1, ([] : List Str), [0]) ∈ G.gs)
    (pure_ : ∀ ns : List Int, ns.length ≤ 63 → ∃ F h', run G F (dsOf l) (k + 1) "law" [.scr ns] [] = .ok (.d (.bool true)) h') :
    ∃ (K : PySem.W.Frag) (fd : FuncData) (sp : Sp), K.In h ∧ (∀ (s : Shared) (u : Value), BindsTo s fd ⟨[u], []⟩ [(("script" : Str), u)]) ∧
      (∀ (H : Hp) (a : Addr) (ns : List Int), ns.length ≤ 63 → Only H → SqL K H a (ns.map V.int) → sp [.ref a] H (fun v _ => v = .bl true) fun _ _ _ => False) ∧
      ∀ base : Heap, K.In base → base.Ns mainGlobals mg → FnOk P w K mg base (CXw P) (k + 1) fa fd [("script" : Str)] sp := by
  have T := txt_of X N c e1 e2 nd ok sh
  obtain ⟨fd, hb, hF⟩ := law_fn (P := P) (w := w) (k := k) T hp hs
  have ef : fa = He.ga K "law" := by
    have z := hmg.symm.trans (T.df _ hp).1
    cases z; rfl
  subst ef
  exact ⟨K, fd, spLaw K G (dsOf l) (k + 1), X, hb, fun H a ns hl hO hS => law_in hO hS (pure_ ns hl), fun base _ _ => fnok_cx (hF base)⟩
end Py

/-! what loops and comprehensions over known items give, in plain words -/
namespace Py
open PySem PySem.Spec PyProof.Rows L2
/-- a loop over known items -/
def forL (t : Tg) (f : En → List O → Fl) : List U → En → List O → Fl
  | [], σ, h => .nx σ h
  | u :: r, σ, h => match asg t u σ with
    | none => .bad
    | some σ => match f σ h with
      | .nx σ h => forL t f r σ h
      | .ct σ h => forL t f r σ h
      | .bk σ h => .nx σ h
      | z => z
theorem foGo_fix (t : Tg) (f : En → List O → Fl) : ∀ (us pre : List U) (σ : En) (h : List O), foGo (.fix (pre ++ us)) t f (us.length + 1) pre.length σ h = forL t f us σ h
  | [], pre, σ, h => by
    unfold foGo Src.at_ forL
    simp
  | u :: r, pre, σ, h => by
    rw [List.length_cons]
    unfold foGo forL
    have hat : Src.at_ (.fix (pre ++ u :: r)) pre.length h = some (some u) := by
      show some (pre ++ u :: r)[pre.length]? = some (some u)
      rw [List.getElem?_append_right (Nat.le_refl _), Nat.sub_self]
      rfl
    rw [hat]
    dsimp only
    have e : pre ++ u :: r = (pre ++ [u]) ++ r := by simp
    have e2 : pre.length + 1 = (pre ++ [u]).length := by simp
    cases asg t u σ with
    | none => rfl
    | some σ1 =>
      dsimp only
      rw [e, e2]
      cases f σ1 h with
      | nx s h2 => dsimp only; exact foGo_fix t f r (pre ++ [u]) s h2
      | ct s h2 => dsimp only; exact foGo_fix t f r (pre ++ [u]) s h2
      | bk s h2 => rfl
      | ret s h2 => rfl
      | er c s h2 => rfl
      | bad => rfl
theorem sFor_fix {t : Tg} {fi : En → List O → R Src} {f : En → List O → Fl} {σ : En} {h h1 : List O} {us : List U} (e : fi σ h = .ok (.fix us) h1) : sFor t fi f σ h = forL t f us σ h1 := by
  unfold sFor
  rw [e, R.stm_ok]
  exact foGo_fix t f us [] σ h1
/-- a comprehension over known items -/
def lcL (t : Tg) (vs : List Nat) (ft : En → List O → R Bool) (fe : En → List O → R U) (a0 : Nat) (σ : En) : List U → List O → R Unit
  | [], h => .ok () h
  | u :: r, h => match asg t u (wipeE σ vs) with
    | none => .bad
    | some σ1 => (noErr (ft σ1 h)).bind fun b h1 => if b = true then (noErr (fe σ1 h1)).bind fun y h2 => (pushAcc a0 y h2).bind fun _ h3 => lcL t vs ft fe a0 σ r h3 else lcL t vs ft fe a0 σ r h1
theorem lcGo_fix (t : Tg) (vs : List Nat) (ft : En → List O → R Bool) (fe : En → List O → R U) (a0 : Nat) (σ : En) : ∀ (us pre : List U) (h : List O), lcGo (.fix (pre ++ us)) t vs ft fe a0 (us.length + 1) pre.length σ h = lcL t vs ft fe a0 σ us h
  | [], pre, h => by
    unfold lcGo Src.at_ lcL
    simp
  | u :: r, pre, h => by
    rw [List.length_cons]
    unfold lcGo lcL
    have hat : Src.at_ (.fix (pre ++ u :: r)) pre.length h = some (some u) := by
      show some (pre ++ u :: r)[pre.length]? = some (some u)
      rw [List.getElem?_append_right (Nat.le_refl _), Nat.sub_self]
      rfl
    rw [hat]
    dsimp only
    have e : pre ++ u :: r = (pre ++ [u]) ++ r := by simp
    have e2 : pre.length + 1 = (pre ++ [u]).length := by simp
    cases asg t u (wipeE σ vs) with
    | none => rfl
    | some σ1 =>
      dsimp only
      rw [e, e2]
      have ih := fun h => lcGo_fix t vs ft fe a0 σ r (pre ++ [u]) h
      simp only [ih]
theorem evLc_fix {m : Bool} {t : Tg} {vs : List Nat} {fi : En → List O → R Src} {ft : En → List O → R Bool} {fe : En → List O → R U} {σ : En} {h h1 : List O} {us : List U} (e : fi σ h = .ok (.fix us) h1) :
    evLc m t vs fi ft fe σ h = (lcL t vs ft fe h1.length σ us (h1 ++ [.lst []])).bind fun _ h2 => lcFin m h1.length h2 := by
  unfold evLc
  rw [e, R.bind_ok]
  have := lcGo_fix t vs ft fe h1.length σ us [] (h1 ++ [.lst []])
  rw [List.nil_append, List.length_nil] at this
  show (lcGo (.fix us) t vs ft fe h1.length (us.length + 1) 0 σ (h1 ++ [.lst []])).bind _ = _
  rw [this]
/-- state goes through the items -/
def mapS {S : Type} (p : U → S → Bool) (g : U → S → D × S) : List U → S → List D × S
  | [], s => ([], s)
  | u :: r, s => if p u s = true then ((g u s).1 :: (mapS p g r (g u s).2).1, (mapS p g r (g u s).2).2) else mapS p g r s
theorem mapS_length {S : Type} {p : U → S → Bool} {g : U → S → D × S} : ∀ (us : List U) (s : S), (mapS p g us s).1.length ≤ us.length
  | [], s => Nat.le_refl _
  | u :: r, s => by
    unfold mapS
    split
    · exact Nat.succ_le_succ (mapS_length r _)
    · exact Nat.le_succ_of_le (mapS_length r s)
theorem lcL_state {S : Type} {emb : S → List O} {n : Nat} (hn : ∀ s, (emb s).length = n) {I : S → Prop} {t : Tg} {vs : List Nat} {ft : En → List O → R Bool} {fe : En → List O → R U} {σ : En} {p : U → S → Bool} {g : U → S → D × S} :
    ∀ (us : List U) (s : S) (acc : List D), I s → (∀ u ∈ us, ∀ s, I s → ∃ σ1, asg t u (wipeE σ vs) = some σ1 ∧ I (g u s).2 ∧ ∀ acc, ft σ1 (emb s ++ [.lst acc]) = .ok (p u s) (emb s ++ [.lst acc]) ∧ (p u s = true → fe σ1 (emb s ++ [.lst acc]) = .ok (.d (g u s).1) (emb (g u s).2 ++ [.lst acc]))) →
      acc.length + us.length ≤ 10000000 → lcL t vs ft fe n σ us (emb s ++ [.lst acc]) = .ok () (emb (mapS p g us s).2 ++ [.lst (acc ++ (mapS p g us s).1)])
  | [], s, acc, _, _, _ => by simp [lcL, mapS]
  | u :: r, s, acc, hI, hs, hl => by
    obtain ⟨σ1, e1, hI', e2⟩ := hs u List.mem_cons_self s hI
    obtain ⟨e3, e4⟩ := e2 acc
    unfold lcL mapS
    rw [e1]
    dsimp only
    rw [e3, noErr_ok, R.bind_ok]
    have hr : ∀ u ∈ r, ∀ s, I s → ∃ σ1, asg t u (wipeE σ vs) = some σ1 ∧ I (g u s).2 ∧ ∀ acc, ft σ1 (emb s ++ [.lst acc]) = .ok (p u s) (emb s ++ [.lst acc]) ∧ (p u s = true → fe σ1 (emb s ++ [.lst acc]) = .ok (.d (g u s).1) (emb (g u s).2 ++ [.lst acc])) := fun u hu => hs u (List.mem_cons_of_mem _ hu)
    rw [List.length_cons] at hl
    by_cases hp : p u s = true
    · rw [if_pos hp, if_pos hp, e4 hp, noErr_ok, R.bind_ok]
      have epush : pushAcc n (.d (g u s).1) (emb (g u s).2 ++ [.lst acc]) = .ok () (emb (g u s).2 ++ [.lst (acc ++ [(g u s).1])]) := by
        have hn' := hn (g u s).2
        unfold pushAcc
        have h1 : (emb (g u s).2 ++ [O.lst acc])[n]? = some (.lst acc) := by rw [List.getElem?_append_right (by omega), hn', Nat.sub_self]; rfl
        rw [h1]
        dsimp only [Py.settle]
        rw [if_pos (by omega), List.take_of_length_le (by simp; omega), List.set_append_right _ _ (by omega), hn', Nat.sub_self]
        rfl
      rw [epush, R.bind_ok, lcL_state hn r _ _ hI' hr (by simp; omega)]
      simp
    · rw [if_neg hp, if_neg hp, lcL_state hn r _ _ hI hr (by omega)]
theorem lcFin_app {m : Bool} {h : List O} {ys : List D} : lcFin m h.length (h ++ [.lst ys]) = mkL m ys h := by
  unfold lcFin mkL
  have h1 : (h ++ [O.lst ys])[h.length]? = some (.lst ys) := by rw [List.getElem?_append_right (Nat.le_refl _), Nat.sub_self]; rfl
  rw [h1]
  dsimp only
  rw [List.take_of_length_le (by simp), List.take_append_of_le_length (Nat.le_refl _), List.take_length]
/-- THE RULE: a comprehension with a state -/
theorem lc_state {S : Type} {emb : S → List O} {n : Nat} (hn : ∀ s, (emb s).length = n) {I : S → Prop} {m : Bool} {t : Tg} {vs : List Nat} {fi : En → List O → R Src} {ft : En → List O → R Bool} {fe : En → List O → R U} {σ : En} {h : List O} {us : List U} {s : S} (p : U → S → Bool) (g : U → S → D × S) (e : fi σ h = .ok (.fix us) (emb s)) (hI : I s)
    (hl : us.length ≤ 10000000) (hs : ∀ u ∈ us, ∀ s, I s → ∃ σ1, asg t u (wipeE σ vs) = some σ1 ∧ I (g u s).2 ∧ ∀ acc, ft σ1 (emb s ++ [.lst acc]) = .ok (p u s) (emb s ++ [.lst acc]) ∧ (p u s = true → fe σ1 (emb s ++ [.lst acc]) = .ok (.d (g u s).1) (emb (g u s).2 ++ [.lst acc]))) :
    evLc m t vs fi ft fe σ h = mkL m (mapS p g us s).1 (emb (mapS p g us s).2) := by
  rw [evLc_fix e, hn s, lcL_state hn us s [] hI hs (by simpa using hl), R.bind_ok, List.nil_append]
  have := lcFin_app (m := m) (h := emb (mapS p g us s).2) (ys := (mapS p g us s).1)
  rw [hn] at this
  exact this
theorem mapS_pure {p : U → Unit → Bool} {g : U → Unit → D × Unit} : ∀ us : List U, (mapS p g us ()).1 = (us.filter fun u => p u ()).map fun u => (g u ()).1
  | [] => rfl
  | u :: r => by
    unfold mapS
    by_cases h : p u () = true
    · rw [if_pos h, List.filter_cons_of_pos (p := fun u => p u ()) h, List.map_cons]
      rw [show (mapS p g r (g u ()).2) = mapS p g r () from rfl, mapS_pure r]
    · rw [if_neg h, List.filter_cons_of_neg (p := fun u => p u ()) h, mapS_pure r]
/-- THE RULE: a comprehension whose parts leave the heap alone -/
theorem lc_pure {m : Bool} {t : Tg} {vs : List Nat} {fi : En → List O → R Src} {ft : En → List O → R Bool} {fe : En → List O → R U} {σ : En} {h h1 : List O} {us : List U} (p : U → Bool) (g : U → D) (e : fi σ h = .ok (.fix us) h1)
    (hl : us.length ≤ 10000000) (hs : ∀ u ∈ us, ∃ σ1, asg t u (wipeE σ vs) = some σ1 ∧ ∀ acc, ft σ1 (h1 ++ [.lst acc]) = .ok (p u) (h1 ++ [.lst acc]) ∧ (p u = true → fe σ1 (h1 ++ [.lst acc]) = .ok (.d (g u)) (h1 ++ [.lst acc]))) :
    evLc m t vs fi ft fe σ h = mkL m ((us.filter p).map g) h1 := by
  have := lc_state (S := Unit) (emb := fun _ => h1) (n := h1.length) (fun _ => rfl) (I := fun _ => True) (m := m) (t := t) (vs := vs) (fi := fi) (ft := ft) (fe := fe) (σ := σ) (h := h) (us := us) (s := ()) (fun u _ => p u) (fun u _ => (g u, ())) e trivial hl
    (fun u hu s _ => by
      obtain ⟨σ1, a, b⟩ := hs u hu
      exact ⟨σ1, a, trivial, b⟩)
  rw [this, mapS_pure]
/-- .. with no test -/
theorem lc_map {m : Bool} {t : Tg} {vs : List Nat} {fi : En → List O → R Src} {fe : En → List O → R U} {σ : En} {h h1 : List O} {us : List U} (g : U → D) (e : fi σ h = .ok (.fix us) h1)
    (hl : us.length ≤ 10000000) (hs : ∀ u ∈ us, ∃ σ1, asg t u (wipeE σ vs) = some σ1 ∧ ∀ acc, fe σ1 (h1 ++ [.lst acc]) = .ok (.d (g u)) (h1 ++ [.lst acc])) :
    evLc m t vs fi (fun _ h => .ok true h) fe σ h = mkL m (us.map g) h1 := by
  rw [lc_pure (fun _ => true) g e hl (fun u hu => by
    obtain ⟨σ1, a, b⟩ := hs u hu
    exact ⟨σ1, a, fun acc => ⟨rfl, fun _ => b acc⟩⟩)]
  rw [List.filter_eq_self.mpr (fun _ _ => rfl)]
end Py
namespace Py
open PySem PySem.Spec PyProof.Rows L2
section
variable {f f1 f2 f3 f4 f5 : En → List O → R U} {C : List U → List O → R U} {σ : En} {h : List O}
theorem evCl_0 : evCl 0 0 [] evNil evNil C σ h = C [] h := rfl
theorem evCl_1 : evCl 1 0 [0] (evCons f evNil) evNil C σ h = (f σ h).bind fun u h => C [u] h := by
  unfold evCl evCons evNil
  cases f σ h <;> rfl
theorem evCl_2 : evCl 2 0 [0, 1] (evCons f (evCons f2 evNil)) evNil C σ h = (f σ h).bind fun u h => (f2 σ h).bind fun u2 h => C [u, u2] h := by
  unfold evCl evCons evNil
  cases f σ h with
  | ok a h => dsimp only [R.bind_ok]; cases f2 σ h <;> rfl
  | err c h => rfl
  | bad => rfl
theorem evCl_3 : evCl 3 0 [0, 1, 2] (evCons f (evCons f2 (evCons f3 evNil))) evNil C σ h = (f σ h).bind fun u h => (f2 σ h).bind fun u2 h => (f3 σ h).bind fun u3 h => C [u, u2, u3] h := by
  unfold evCl evCons evNil
  cases f σ h with
  | ok a h =>
    dsimp only [R.bind_ok]
    cases f2 σ h with
    | ok b h => dsimp only [R.bind_ok]; cases f3 σ h <;> rfl
    | err c h => rfl
    | bad => rfl
  | err c h => rfl
  | bad => rfl
theorem evCl_4 : evCl 4 0 [0, 1, 2, 3] (evCons f (evCons f2 (evCons f3 (evCons f4 evNil)))) evNil C σ h = (f σ h).bind fun u h => (f2 σ h).bind fun u2 h => (f3 σ h).bind fun u3 h => (f4 σ h).bind fun u4 h => C [u, u2, u3, u4] h := by
  unfold evCl evCons evNil
  cases f σ h with
  | ok a h =>
    dsimp only [R.bind_ok]
    cases f2 σ h with
    | ok b h =>
      dsimp only [R.bind_ok]
      cases f3 σ h with
      | ok b h => dsimp only [R.bind_ok]; cases f4 σ h <;> rfl
      | err c h => rfl
      | bad => rfl
    | err c h => rfl
    | bad => rfl
  | err c h => rfl
  | bad => rfl
/-- one keyword -/
theorem evCl_k : evCl 0 1 [0] evNil (evCons f evNil) C σ h = (f σ h).bind fun u h => C [u] h := by
  unfold evCl evCons evNil
  rw [R.bind_ok]
  cases f σ h <;> rfl
end
theorem leave_d {d : D} {h : List O} : leave false h.length (.ret (.d d) h) = .ok (.d d) h := by
  show R.ok (U.d d) (h.take h.length) = _
  rw [List.take_length]
theorem leave_n {σ : En} {h : List O} : leave false h.length (.nx σ h) = .ok (.d .none) h := by
  show R.ok (U.d .none) (h.take h.length) = _
  rw [List.take_length]
theorem leave_e {c : Str} {σ : En} {h : List O} : leave false h.length (.er c σ h) = .err c h := by
  show R.err c (h.take h.length) = _
  rw [List.take_length]
/-- a value made in a def with n objects around it -/
theorem leave_da {d : D} {h r : List O} : leave false h.length (.ret (.d d) (h ++ r)) = .ok (.d d) h := by
  show R.ok (U.d d) ((h ++ r).take h.length) = _
  rw [List.take_append_of_le_length (Nat.le_refl _), List.take_length]
theorem mkL_f {xs : List D} {h : List O} : mkL false xs h = .ok (.d (.list xs)) h := rfl
theorem mkL_t {xs : List D} {h : List O} : mkL true xs h = .ok (.lab h.length) (h ++ [.lst xs]) := rfl
theorem bind_stm {α β : Type} (r : R α) (g : α → List O → R β) (σ : En) (f : β → List O → Fl) : (r.bind g).stm σ f = r.stm σ fun a h => (g a h).stm σ f := by
  cases r <;> rfl
theorem bind_bind {α β γ : Type} (r : R α) (g : α → List O → R β) (f : β → List O → R γ) : (r.bind g).bind f = r.bind fun a h => (g a h).bind f := by
  cases r <;> rfl
end Py
namespace Py
open PySem PySem.Spec PyProof.Rows L2
section
variable {G : Gt} {C : Str → List U → List O → R U} {m : Bool} {t : Tg} {w : Wk} {c e : Ex} {σ : En} {h h1 : List O} {us : List U}
theorem ev_lc (g : U → D) (q : evw G C w σ h = .ok (.fix us) h1) (hl : us.length ≤ 10000000) (hs : ∀ u ∈ us, ∃ σ1, asg t u (wipeE σ t.slots) = some σ1 ∧ ∀ acc, ev G C e σ1 (h1 ++ [.lst acc]) = .ok (.d (g u)) (h1 ++ [.lst acc])) :
    ev G C (.lc m t w .no e) σ h = mkL m (us.map g) h1 := lc_map g q hl hs
theorem ev_lcp (p : U → Bool) (g : U → D) (q : evw G C w σ h = .ok (.fix us) h1) (hl : us.length ≤ 10000000)
    (hs : ∀ u ∈ us, ∃ σ1, asg t u (wipeE σ t.slots) = some σ1 ∧ ∀ acc, tv G C c σ1 (h1 ++ [.lst acc]) = .ok (p u) (h1 ++ [.lst acc]) ∧ (p u = true → ev G C e σ1 (h1 ++ [.lst acc]) = .ok (.d (g u)) (h1 ++ [.lst acc]))) :
    ev G C (.lc m t w (.yes c) e) σ h = mkL m ((us.filter p).map g) h1 := lc_pure p g q hl hs
/-- over data -/
theorem ev_lcD (xs : List D) (g : D → D) (q : evw G C w σ h = .ok (.fix (xs.map .d)) h1) (hl : xs.length ≤ 10000000) (hs : ∀ x ∈ xs, ∃ σ1, asg t (.d x) (wipeE σ t.slots) = some σ1 ∧ ∀ acc, ev G C e σ1 (h1 ++ [.lst acc]) = .ok (.d (g x)) (h1 ++ [.lst acc])) :
    ev G C (.lc m t w .no e) σ h = mkL m (xs.map g) h1 := by
  rw [ev_lc (fun u => match u with | .d x => g x | _ => .none) q (by simpa using hl) (fun u hu => by
    obtain ⟨x, hx, rfl⟩ := List.mem_map.mp hu
    exact hs x hx), List.map_map]
  rfl
theorem ev_lcpD (xs : List D) (p : D → Bool) (g : D → D) (q : evw G C w σ h = .ok (.fix (xs.map .d)) h1) (hl : xs.length ≤ 10000000)
    (hs : ∀ x ∈ xs, ∃ σ1, asg t (.d x) (wipeE σ t.slots) = some σ1 ∧ ∀ acc, tv G C c σ1 (h1 ++ [.lst acc]) = .ok (p x) (h1 ++ [.lst acc]) ∧ (p x = true → ev G C e σ1 (h1 ++ [.lst acc]) = .ok (.d (g x)) (h1 ++ [.lst acc]))) :
    ev G C (.lc m t w (.yes c) e) σ h = mkL m ((xs.filter p).map g) h1 := by
  rw [ev_lcp (fun u => match u with | .d x => p x | _ => false) (fun u => match u with | .d x => g x | _ => .none) q (by simpa using hl) (fun u hu => by
    obtain ⟨x, hx, rfl⟩ := List.mem_map.mp hu
    exact hs x hx), List.filter_map, List.map_map]
  rfl
theorem boolsOf_map' {α : Type} (g : α → Bool) (l : List α) : boolsOf (l.map fun x => PyData.bool (g x)) = some (l.map g) := by
  have := boolsOf_map (l.map g)
  rw [List.map_map] at this
  exact this
theorem intsOf_map' {α : Type} (g : α → Int) (l : List α) : intsOf (l.map fun x => PyData.int (g x)) = some (l.map g) := by
  have := intsOf_map (l.map g)
  rw [List.map_map] at this
  exact this
theorem allU_map {α : Type} (g : α → Bool) (l : List α) : allU (.d (.list (l.map fun x => PyData.bool (g x)))) h = .ok (.d (.bool (l.all g))) h := by
  unfold allU Py.listOf
  simp only [Option.bind_some, boolsOf_map', opt_some, R.bind_ok]
  simp [List.all_map]
theorem anyU_map {α : Type} (g : α → Bool) (l : List α) : anyU (.d (.list (l.map fun x => PyData.bool (g x)))) h = .ok (.d (.bool (l.any g))) h := by
  unfold anyU Py.listOf
  simp only [Option.bind_some, boolsOf_map', opt_some, R.bind_ok]
  simp [List.any_map]
theorem sumU_map {α : Type} (g : α → Int) (l : List α) : sumU (.d (.list (l.map fun x => PyData.int (g x)))) h = .ok (.d (.int (l.map g).sum)) h := by
  unfold sumU Py.listOf
  simp only [Option.bind_some, intsOf_map', opt_some, R.bind_ok]
end
end Py
namespace Py
open PySem PySem.Spec PyProof.Rows L2
/-- THE RULE: a loop with an invariant -/
theorem forL_inv {t : Tg} {f : En → List O → Fl} (I : List U → En → List O → Prop) : ∀ (us pre : List U) (σ : En) (h : List O), I pre σ h →
    (∀ pre' u r, pre ++ us = pre' ++ u :: r → ∀ σ h, I pre' σ h → ∃ σ1 σ2 h2, asg t u σ = some σ1 ∧ f σ1 h = .nx σ2 h2 ∧ I (pre' ++ [u]) σ2 h2) → ∃ σ' h', forL t f us σ h = .nx σ' h' ∧ I (pre ++ us) σ' h'
  | [], pre, σ, h, hI, _ => ⟨σ, h, rfl, by simpa using hI⟩
  | u :: r, pre, σ, h, hI, hs => by
    obtain ⟨σ1, σ2, h2, e1, e2, hI2⟩ := hs pre u r rfl σ h hI
    obtain ⟨σ', h', e3, hI3⟩ := forL_inv I r (pre ++ [u]) σ2 h2 hI2 (by simpa using hs)
    refine ⟨σ', h', ?_, by simpa using hI3⟩
    unfold forL
    rw [e1]
    dsimp only
    rw [e2]
    exact e3
theorem for_inv {G : Gt} {C : Str → List U → List O → R U} {F : Nat} {t : Tg} {w : Wk} {b : Ss} {σ : En} {h h1 : List O} {us : List U} (I : List U → En → List O → Prop) (q : evw G C w σ h = .ok (.fix us) h1) (h0 : I [] σ h1)
    (hs : ∀ pre u r, us = pre ++ u :: r → ∀ σ h, I pre σ h → ∃ σ1 σ2 h2, asg t u σ = some σ1 ∧ exs G C F b σ1 h = .nx σ2 h2 ∧ I (pre ++ [u]) σ2 h2) : ∃ σ' h', ex G C F (.fo t w b) σ h = .nx σ' h' ∧ I us σ' h' := by
  obtain ⟨σ', h', e, hI⟩ := forL_inv I us [] σ h1 h0 (by simpa using hs)
  exact ⟨σ', h', by rw [← e]; exact sFor_fix q, by simpa using hI⟩
theorem rngL_map (n : Nat) : rngL 0 1 n = (List.range n).map fun (i : Nat) => U.d (.int i) := by
  unfold rngL
  apply List.map_congr_left
  intro a _
  simp
end Py
namespace Py
open PySem PySem.Spec PyProof.Rows L2
def mapE (g : Nat → D → D) : Nat → List D → List D
  | _, [] => []
  | k, x :: r => g k x :: mapE g (k + 1) r
def unE (g : Nat → D → D) (u : U) : D := match u with
  | .d (.tuple [.int j, x]) => g j.toNat x
  | _ => .none
theorem enuL_map (g : Nat → D → D) : ∀ (xs : List D) (k : Nat), (enuL k xs).map (unE g) = mapE g k xs
  | [], _ => rfl
  | x :: r, k => by
    rw [enuL, List.map_cons, enuL_map g r (k + 1)]
    rfl
theorem enuL_length : ∀ (xs : List D) (k : Nat), (enuL k xs).length = xs.length
  | [], _ => rfl
  | x :: r, k => by rw [enuL, List.length_cons, List.length_cons, enuL_length r]
/-- a comprehension over enumerate(..) -/
theorem ev_lcE {G : Gt} {C : Str → List U → List O → R U} {m : Bool} {t : Tg} {w : Wk} {e : Ex} {σ : En} {h h1 : List O} (xs : List D) (g : Nat → D → D) (q : evw G C w σ h = .ok (.fix (enuL 0 xs)) h1) (hl : xs.length ≤ 10000000)
    (hs : ∀ (j : Nat) (x : D), xs[j]? = some x → ∃ σ1, asg t (.d (.tuple [.int j, x])) (wipeE σ t.slots) = some σ1 ∧ ∀ acc, ev G C e σ1 (h1 ++ [.lst acc]) = .ok (.d (g j x)) (h1 ++ [.lst acc])) :
    ev G C (.lc m t w .no e) σ h = mkL m (mapE g 0 xs) h1 := by
  rw [ev_lc (unE g) q (by rw [enuL_length]; exact hl) (fun u hu => ?_), enuL_map]
  obtain ⟨j, hj⟩ := List.getElem?_of_mem hu
  rw [enuL_get] at hj
  cases hx : xs[j]? with
  | none => rw [hx] at hj; cases hj
  | some x =>
    rw [hx] at hj
    cases hj
    rw [Nat.zero_add]
    exact hs j x hx
end Py
namespace Py
open PySem PySem.Spec PyProof.Rows L2
theorem lcL_ex {I : List U → List D → List O → Prop} {n : Nat} (hn : ∀ pre ys hh, I pre ys hh → hh.length = n) {t : Tg} {vs : List Nat} {fe : En → List O → R U} {σ : En} : ∀ (us pre : List U) (ys : List D) (hh : List O), I pre ys hh →
    (∀ pre' u r ys hh, pre ++ us = pre' ++ u :: r → I pre' ys hh → ∃ σ1 y hh', asg t u (wipeE σ vs) = some σ1 ∧ I (pre' ++ [u]) (ys ++ [y]) hh' ∧ ∀ acc, fe σ1 (hh ++ [.lst acc]) = .ok (.d y) (hh' ++ [.lst acc])) → ys.length + us.length ≤ 10000000 →
    ∃ zs hh', lcL t vs (fun _ h => .ok true h) fe n σ us (hh ++ [.lst ys]) = .ok () (hh' ++ [.lst zs]) ∧ I (pre ++ us) zs hh' ∧ zs.length = ys.length + us.length
  | [], pre, ys, hh, hI, _, _ => ⟨ys, hh, rfl, by simpa using hI, by simp⟩
  | u :: r, pre, ys, hh, hI, hs, hl => by
    obtain ⟨σ1, y, hh2, e1, hI2, e2⟩ := hs pre u r ys hh rfl hI
    rw [List.length_cons] at hl
    obtain ⟨zs, hh', e3, hI3, hz⟩ := lcL_ex hn r (pre ++ [u]) (ys ++ [y]) hh2 hI2 (by simpa using hs) (by simp; omega)
    refine ⟨zs, hh', ?_, by simpa using hI3, by rw [hz]; simp; omega⟩
    have hn' := hn _ _ _ hI2
    have epush : pushAcc n (.d y) (hh2 ++ [.lst ys]) = .ok () (hh2 ++ [.lst (ys ++ [y])]) := by
      unfold pushAcc
      have h1 : (hh2 ++ [O.lst ys])[n]? = some (.lst ys) := by rw [List.getElem?_append_right (by omega), hn', Nat.sub_self]; rfl
      rw [h1]
      dsimp only [Py.settle]
      rw [if_pos (by omega), List.take_of_length_le (by simp; omega), List.set_append_right _ _ (by omega), hn', Nat.sub_self]
      rfl
    unfold lcL
    rw [e1]
    dsimp only
    rw [noErr_ok, R.bind_ok, if_pos rfl, e2, noErr_ok, R.bind_ok, epush, R.bind_ok]
    exact e3
/-- THE RULE: a comprehension that changes objects, with an invariant -/
theorem ev_lcI {G : Gt} {C : Str → List U → List O → R U} {m : Bool} {t : Tg} {w : Wk} {e : Ex} {σ : En} {h h1 : List O} {us : List U} (I : List U → List D → List O → Prop) (hn : ∀ pre ys hh, I pre ys hh → hh.length = h1.length) (q : evw G C w σ h = .ok (.fix us) h1) (h0 : I [] [] h1)
    (hs : ∀ pre u r ys hh, us = pre ++ u :: r → I pre ys hh → ∃ σ1 y hh', asg t u (wipeE σ t.slots) = some σ1 ∧ I (pre ++ [u]) (ys ++ [y]) hh' ∧ ∀ acc, ev G C e σ1 (hh ++ [.lst acc]) = .ok (.d y) (hh' ++ [.lst acc])) (hl : us.length ≤ 10000000) :
    ∃ ys hh', ev G C (.lc m t w .no e) σ h = mkL m ys hh' ∧ I us ys hh' ∧ ys.length = us.length := by
  obtain ⟨zs, hh', e1, hI, hz⟩ := lcL_ex (t := t) (vs := t.slots) (fe := ev G C e) (σ := σ) hn us [] [] h1 h0 (by simpa using hs) (by simpa using hl)
  refine ⟨zs, hh', ?_, by simpa using hI, by simpa using hz⟩
  show evLc m t t.slots (evw G C w) (fun _ h => .ok true h) (ev G C e) σ h = _
  rw [evLc_fix q, e1, R.bind_ok]
  have hk := hn _ _ _ hI
  rw [← hk]
  exact lcFin_app
end Py

/-! plain rules: places, equality, how great a value is -/
namespace Py
open PySem PySem.Spec PyProof.Rows L2
section
variable {h : List O} {x y z w : D} {xs ys : List D} {neg : Bool}
theorem atI_0 {α : Type} {a : α} {l : List α} : L2.atI (a :: l) 0 = some a := by simp [L2.atI, L2.ixN]
theorem atI_1 {α : Type} {a b : α} {l : List α} : L2.atI (a :: b :: l) 1 = some b := by
  have : (1 : Int) < (l.length : Int) + 1 + 1 := by omega
  simp [L2.atI, L2.ixN, this]
theorem atI_2 {α : Type} {a b c : α} {l : List α} : L2.atI (a :: b :: c :: l) 2 = some c := by
  have : (2 : Int) < (l.length : Int) + 1 + 1 + 1 := by omega
  simp [L2.atI, L2.ixN, this]
theorem atI_3 {α : Type} {a b c d : α} {l : List α} : L2.atI (a :: b :: c :: d :: l) 3 = some d := by
  have : (3 : Int) < (l.length : Int) + 1 + 1 + 1 + 1 := by omega
  simp [L2.atI, L2.ixN, this]
theorem getU_tup {i : Int} {d : D} (e : L2.atI xs i = some d) : getU (.d (.tuple xs)) (.d (.int i)) h = .ok (.d d) h := by
  simp [getU, dctOf, getS, ixO, seqOf, e]
theorem getU_lst {i : Int} {d : D} (e : L2.atI xs i = some d) : getU (.d (.list xs)) (.d (.int i)) h = .ok (.d d) h := by
  simp [getU, dctOf, getS, ixO, seqOf, listOf, e]
theorem getU_t0 : getU (.d (.tuple (x :: xs))) (.d (.int 0)) h = .ok (.d x) h := getU_tup atI_0
theorem getU_t1 : getU (.d (.tuple (x :: y :: xs))) (.d (.int 1)) h = .ok (.d y) h := getU_tup atI_1
theorem getU_t2 : getU (.d (.tuple (x :: y :: z :: xs))) (.d (.int 2)) h = .ok (.d z) h := getU_tup atI_2
theorem getU_t3 : getU (.d (.tuple (x :: y :: z :: w :: xs))) (.d (.int 3)) h = .ok (.d w) h := getU_tup atI_3
theorem getU_l0 : getU (.d (.list (x :: xs))) (.d (.int 0)) h = .ok (.d x) h := getU_lst atI_0
theorem getU_l1 : getU (.d (.list (x :: y :: xs))) (.d (.int 1)) h = .ok (.d y) h := getU_lst atI_1
theorem getU_l2 : getU (.d (.list (x :: y :: z :: xs))) (.d (.int 2)) h = .ok (.d z) h := getU_lst atI_2
theorem getU_m1 {a : D} : getU (.d (.tuple [a])) (.d (.int (-1))) h = .ok (.d a) h := getU_tup (by simp [L2.atI, L2.ixN])
theorem getU_m2 {a b : D} : getU (.d (.tuple [a, b])) (.d (.int (-1))) h = .ok (.d b) h := getU_tup (by simp [L2.atI, L2.ixN])
theorem getU_m3 {a b c : D} : getU (.d (.tuple [a, b, c])) (.d (.int (-1))) h = .ok (.d c) h := getU_tup (by simp [L2.atI, L2.ixN])
theorem depth_pos (d : D) : d.depth = d.depth := rfl
theorem eqU_of {a b : D} (hd : a.depth ≤ 64 ∨ b.depth ≤ 64) : Py.eqU neg (.d a) (.d b) h = .ok (.d (.bool (neg != PyData.eqv a b))) h := by
  simp [Py.eqU, eqO, Py.dataOf, hd]
theorem eqU_i {i : Int} {a : D} : Py.eqU neg (.d a) (.d (.int i)) h = .ok (.d (.bool (neg != PyData.eqv a (.int i)))) h := eqU_of (.inr (by simp [PyData.depth]))
theorem eqU_s {s : Str} {a : D} : Py.eqU neg (.d a) (.d (.str s)) h = .ok (.d (.bool (neg != PyData.eqv a (.str s)))) h := eqU_of (.inr (by simp [PyData.depth]))
theorem eqU_b {b : Bool} {a : D} : Py.eqU neg (.d a) (.d (.bool b)) h = .ok (.d (.bool (neg != PyData.eqv a (.bool b)))) h := eqU_of (.inr (by simp [PyData.depth]))
theorem eqU_nil {a : D} : Py.eqU neg (.d a) (.d (.tuple [])) h = .ok (.d (.bool (neg != PyData.eqv a (.tuple [])))) h := eqU_of (.inr (by decide))
theorem eqU_nilL {a : D} : Py.eqU neg (.d a) (.d (.list [])) h = .ok (.d (.bool (neg != PyData.eqv a (.list [])))) h := eqU_of (.inr (by decide))
@[simp] theorem eqv_ii (i j : Int) : PyData.eqv (.int i) (.int j) = decide (i = j) := by by_cases q : i = j <;> simp [PyData.eqv, q]
@[simp] theorem eqv_ss (s t : Str) : PyData.eqv (.str s) (.str t) = decide (s = t) := by by_cases q : s = t <;> simp [PyData.eqv, q]
theorem eqv_tnil : PyData.eqv (.tuple xs) (.tuple []) = xs.isEmpty := by cases xs <;> simp [PyData.eqv, PyData.eqvAll]
theorem eqv_lnil : PyData.eqv (.list xs) (.list []) = xs.isEmpty := by cases xs <;> simp [PyData.eqv, PyData.eqvAll]
theorem bool_bne (b : Bool) : (false != b) = b := by cases b <;> rfl
theorem inU_t (a : D) (hd : a.depth ≤ 60) : inU neg (.d a) (.d (.tuple xs)) h = .ok (.d (.bool (neg != (xs.any fun z => PyData.eqv z a)))) h := by
  simp [inU, inO, dctOf, Py.dataOf, seqOf, hd]
theorem inU_l (a : D) (hd : a.depth ≤ 60) : inU neg (.d a) (.d (.list xs)) h = .ok (.d (.bool (neg != (xs.any fun z => PyData.eqv z a)))) h := by
  simp [inU, inO, dctOf, Py.dataOf, seqOf, listOf, hd]
theorem inU_ts (s : Str) : inU neg (.d (.str s)) (.d (.tuple xs)) h = .ok (.d (.bool (neg != (xs.any fun z => PyData.eqv z (.str s))))) h := inU_t _ (by simp [PyData.depth])
theorem inU_ti (i : Int) : inU neg (.d (.int i)) (.d (.tuple xs)) h = .ok (.d (.bool (neg != (xs.any fun z => PyData.eqv z (.int i))))) h := inU_t _ (by simp [PyData.depth])
theorem inU_li (i : Int) : inU neg (.d (.int i)) (.d (.list xs)) h = .ok (.d (.bool (neg != (xs.any fun z => PyData.eqv z (.int i))))) h := inU_l _ (by simp [PyData.depth])
theorem lenU_t : lenU (.d (.tuple xs)) h = .ok (.d (.int xs.length)) h := by simp [lenU, lenN, seqOf]
theorem lenU_l : lenU (.d (.list xs)) h = .ok (.d (.int xs.length)) h := by simp [lenU, lenN, seqOf, listOf]
theorem isiU_d {d : D} {n : String} (hn : tyNames.contains n = true) : isiU (.d d) (.ty n) h = (opt (tyN (.d d) h) h).bind fun a h => .ok (.d (.bool (isaB a n))) h := by
  simp only [isiU, hn, if_true]
theorem tupleU_l : tupleU (.d (.list xs)) h = .ok (.d (.tuple xs)) h := by simp [tupleU, isTup, lstLike, listOf]
theorem tupleU_t : tupleU (.d (.tuple xs)) h = .ok (.d (.tuple xs)) h := by simp [tupleU, isTup]
end
section
variable {f f1 f2 f3 f4 : En → List O → R U} {C : List U → List O → R U} {σ : En} {h : List O}
theorem evCl_k2r : evCl 0 2 [1, 0] evNil (evCons f (evCons f2 evNil)) C σ h = (f σ h).bind fun u h => (f2 σ h).bind fun u2 h => C [u2, u] h := by
  unfold evCl evCons evNil
  rw [R.bind_ok]
  cases f σ h with
  | ok a h => dsimp only [R.bind_ok]; cases f2 σ h <;> rfl
  | err c h => rfl
  | bad => rfl
theorem evCl_k2 : evCl 0 2 [0, 1] evNil (evCons f (evCons f2 evNil)) C σ h = (f σ h).bind fun u h => (f2 σ h).bind fun u2 h => C [u, u2] h := by
  unfold evCl evCons evNil
  rw [R.bind_ok]
  cases f σ h with
  | ok a h => dsimp only [R.bind_ok]; cases f2 σ h <;> rfl
  | err c h => rfl
  | bad => rfl
theorem evCl_k3r : evCl 0 3 [2, 1, 0] evNil (evCons f (evCons f2 (evCons f3 evNil))) C σ h = (f σ h).bind fun u h => (f2 σ h).bind fun u2 h => (f3 σ h).bind fun u3 h => C [u3, u2, u] h := by
  unfold evCl evCons evNil
  rw [R.bind_ok]
  cases f σ h with
  | ok a h =>
    dsimp only [R.bind_ok]
    cases f2 σ h with
    | ok b h => dsimp only [R.bind_ok]; cases f3 σ h <;> rfl
    | err c h => rfl
    | bad => rfl
  | err c h => rfl
  | bad => rfl
end
theorem range_get {n : Nat} {pre r : List U} {u : U} (e : rngL 0 1 n = pre ++ u :: r) : u = .d (.int pre.length) ∧ pre.length < n := by
  have h1 : (rngL 0 1 n)[pre.length]? = some u := by rw [e, List.getElem?_append_right (Nat.le_refl _), Nat.sub_self]; rfl
  rw [rngL_map, List.getElem?_map] at h1
  by_cases hlt : pre.length < n
  · rw [List.getElem?_range hlt] at h1
    cases h1
    exact ⟨rfl, hlt⟩
  · rw [List.getElem?_eq_none (by simpa using hlt)] at h1
    cases h1
theorem rngL_len (n : Nat) : (rngL 0 1 n).length = n := by rw [rngL_map]; simp
/-! ### how great a value is -/
mutual
def big : D → Nat
  | .tuple ds => bigs ds + 1
  | .list ds => bigs ds + 1
  | .none => 1
  | .bool _ => 1
  | .int _ => 1
  | .str _ => 1
  | .dict kvs => PyData.depthKv kvs + 1
def bigs : List D → Nat
  | [] => 0
  | d :: r => big d + bigs r
end
theorem big_pos : ∀ d : D, 1 ≤ big d
  | .tuple ds => by unfold big; omega
  | .list ds => by unfold big; omega
  | .none => by unfold big; omega
  | .bool _ => by unfold big; omega
  | .int _ => by unfold big; omega
  | .str _ => by unfold big; omega
  | .dict _ => by unfold big; omega
theorem bigs_len : ∀ ds : List D, ds.length ≤ bigs ds
  | [] => by unfold bigs; exact Nat.le_refl 0
  | d :: r => by
    have := big_pos d
    have := bigs_len r
    unfold bigs
    rw [List.length_cons]; omega
theorem bigs_mem : ∀ {ds : List D} {d : D}, d ∈ ds → big d ≤ bigs ds
  | x :: r, d, h => by
    unfold bigs
    rcases List.mem_cons.mp h with e | h
    · subst e; omega
    · have := bigs_mem h; omega
theorem bigs_app : ∀ (xs ys : List D), bigs (xs ++ ys) = bigs xs + bigs ys
  | [], ys => by simp [bigs]
  | x :: r, ys => by rw [List.cons_append, bigs, bigs, bigs_app r ys]; omega
theorem big_tup_len {ds : List D} {n : Nat} (h : big (.tuple ds) ≤ n) : ds.length ≤ n := by
  have := bigs_len ds
  unfold big at h
  omega
theorem big_tup_mem {ds : List D} {d : D} (hm : d ∈ ds) : big d < big (.tuple ds) := by
  have h := bigs_mem hm
  have e : big (.tuple ds) = bigs ds + 1 := by rw [big]
  omega
mutual
theorem depth_big : ∀ d : D, d.depth ≤ big d
  | .tuple ds => by have := depths_big ds; unfold PyData.depth big; omega
  | .list ds => by have := depths_big ds; unfold PyData.depth big; omega
  | .none => by simp [PyData.depth]
  | .bool _ => by simp [PyData.depth]
  | .int _ => by simp [PyData.depth]
  | .str _ => by simp [PyData.depth]
  | .dict _ => by simp [PyData.depth, big]
theorem depths_big : ∀ ds : List D, PyData.depthAll ds ≤ bigs ds
  | [] => by simp [PyData.depthAll, bigs]
  | d :: r => by
    have := depth_big d
    have := depths_big r
    unfold PyData.depthAll bigs
    omega
end
/-! ### small looks -/
def isI : D → Bool
  | .int _ => true
  | _ => false
def isIdx : D → Bool
  | .int i => decide (0 ≤ i)
  | _ => false
def inB (lo hi : Int) : D → Bool
  | .int i => decide (lo ≤ i) && decide (i ≤ hi)
  | _ => false
def isStr : D → Bool
  | .str _ => true
  | _ => false
def isTupD : D → Bool
  | .tuple _ => true
  | _ => false
def rowB (lo hi : Int) : D → Bool
  | .tuple ds => decide (lo ≤ ds.length) && decide ((ds.length : Int) ≤ hi)
  | _ => false
def tupI : D → Bool
  | .tuple ds => ds.all isI
  | _ => false
def pairB : D → Bool
  | .tuple [.int v, .int _] => decide (0 ≤ v)
  | _ => false
def pairNZ : D → Bool
  | .tuple [.int v, .int c] => decide (0 ≤ v) && decide (c ≠ 0)
  | _ => false
def fstD : D → D
  | .tuple (a :: _) => a
  | _ => .none
def fstI : D → Int
  | .tuple (.int a :: _) => a
  | _ => 0
def sndI : D → Int
  | .tuple [_, .int a] => a
  | _ => 0
def ascI : List Int → Bool
  | a :: b :: r => decide (a < b) && ascI (b :: r)
  | _ => true
/-- what is a term -/
def termB : D → Bool
  | .tuple [.int _, .tuple ps] => ps.all pairNZ && ascI (ps.map fstI)
  | _ => false
theorem pairB_of {d : D} (h : pairB d = true) : ∃ v c, d = .tuple [.int v, .int c] ∧ 0 ≤ v := by
  unfold pairB at h
  split at h
  · exact ⟨_, _, rfl, of_decide_eq_true h⟩
  · cases h
theorem pairNZ_of {d : D} (h : pairNZ d = true) : ∃ v c, d = .tuple [.int v, .int c] ∧ 0 ≤ v ∧ c ≠ 0 := by
  unfold pairNZ at h
  split at h
  · simp only [Bool.and_eq_true, decide_eq_true_eq] at h; exact ⟨_, _, rfl, h.1, h.2⟩
  · cases h
theorem termB_of {d : D} (h : termB d = true) : ∃ c ps, d = .tuple [.int c, .tuple ps] ∧ (∀ p ∈ ps, pairNZ p = true) ∧ ascI (ps.map fstI) = true := by
  unfold termB at h
  split at h
  · rename_i c ps
    simp only [Bool.and_eq_true, List.all_eq_true] at h
    exact ⟨c, ps, rfl, h.1, h.2⟩
  · cases h
theorem ascI_zip : ∀ vs : List Int, ((vs.zip (vs.drop 1)).all fun p => decide (p.1 < p.2)) = ascI vs
  | [] => rfl
  | [a] => rfl
  | a :: b :: r => by
    have := ascI_zip (b :: r)
    simp only [List.drop_succ_cons, List.drop_zero, List.zip_cons_cons, List.all_cons, ascI] at this ⊢
    rw [← this]
theorem zipL_ints : ∀ xs ys : List Int, zipL (xs.map .int) (ys.map .int) = (xs.zip ys).map fun p => U.d (.tuple [.int p.1, .int p.2])
  | [], _ => by cases ‹List Int› <;> simp [zipL]
  | _ :: _, [] => by simp [zipL]
  | x :: xs, y :: ys => by
    rw [List.map_cons, List.map_cons, zipL, zipL_ints xs ys]
    rfl
theorem cut1 {α : Type} (xs : List α) : cut xs (some 1) none = xs.drop 1 := by
  unfold cut
  cases xs with
  | nil => rfl
  | cons x xs => simp [HT.sIx]
end Py

/-! terms: pairs of a variable and a coefficient, put together -/
namespace Py
open PySem PySem.Spec PyProof.Rows L2
abbrev PL := List (Int × Int)
/-- a dict of ints -/
def embK (acc : PL) : List (Key × D) := acc.map fun p => (Sum.inl p.1, PyData.int p.2)
def getI (acc : PL) (v : Int) : Int := match acc with
  | [] => 0
  | p :: r => if p.1 = v then p.2 else getI r v
def putI (acc : PL) (v a : Int) : PL := if (acc.any fun p => decide (p.1 = v)) = true then acc.map (fun p => if p.1 = v then (p.1, a) else p) else acc ++ [(v, a)]
def netI : PL → PL → PL
  | acc, [] => acc
  | acc, p :: r => netI (putI acc p.1 (getI acc p.1 + p.2)) r
theorem netI_app : ∀ (xs ys acc : PL), netI acc (xs ++ ys) = netI (netI acc xs) ys
  | [], ys, acc => rfl
  | p :: r, ys, acc => by rw [List.cons_append, netI, netI, netI_app r ys]
theorem embK_get : ∀ (acc : PL) (v : Int), getK (embK acc) (.inl v) = if (acc.any fun p => decide (p.1 = v)) = true then some (.int (getI acc v)) else none
  | [], v => rfl
  | p :: r, v => by
    have ih := embK_get r v
    unfold embK at ih ⊢
    rw [List.map_cons, getK, List.any_cons, getI]
    by_cases h : p.1 = v
    · simp [h]
    · have : ¬ (Sum.inl p.1 : Key) = Sum.inl v := fun e => h (Sum.inl.inj e)
      rw [if_neg this, ih, if_neg h, decide_eq_false h, Bool.false_or]
theorem getI_none : ∀ {acc : PL} {v : Int}, ¬ (acc.any fun p => decide (p.1 = v)) = true → getI acc v = 0
  | [], v, _ => rfl
  | p :: r, v, h => by
    rw [List.any_cons, Bool.or_eq_true, not_or] at h
    unfold getI
    rw [if_neg (by simpa using h.1), getI_none h.2]
theorem embK_getD (acc : PL) (v : Int) : (getK (embK acc) (.inl v)).getD (.int 0) = .int (getI acc v) := by
  rw [embK_get]
  by_cases h : (acc.any fun p => decide (p.1 = v)) = true
  · rw [if_pos h]; rfl
  · rw [if_neg h, getI_none h]; rfl
theorem embK_put (acc : PL) (v a : Int) : putK' (embK acc) (.inl v) (.int a) = embK (putI acc v a) := by
  have e1 : ((embK acc).any fun kv => decide (kv.1 = (Sum.inl v : Key))) = acc.any fun p => decide (p.1 = v) := by
    unfold embK
    rw [List.any_map]
    congr 1
    funext p
    by_cases h : p.1 = v <;> simp [h]
  unfold putK' putI
  rw [e1]
  by_cases h : (acc.any fun p => decide (p.1 = v)) = true
  · rw [if_pos h, if_pos h]
    unfold embK
    rw [List.map_map, List.map_map]
    apply List.map_congr_left
    intro p _
    by_cases h : p.1 = v <;> simp [h]
  · rw [if_neg h, if_neg h]
    unfold embK
    simp
theorem embK_len (acc : PL) : (embK acc).length = acc.length := by unfold embK; simp
theorem embK_keys : ∀ acc : PL, keysI (embK acc) = some (acc.map (·.1))
  | [] => rfl
  | p :: r => by
    have := embK_keys r
    unfold embK at this ⊢
    rw [List.map_cons, keysI, this]
    rfl
theorem embK_ent : ∀ acc : PL, entD (embK acc) = some (acc.map fun p => (.int p.1, .int p.2))
  | [] => rfl
  | p :: r => by
    have := embK_ent r
    unfold embK at this ⊢
    rw [List.map_cons, entD, this]
    rfl
theorem putI_keys (acc : PL) (v a : Int) : (putI acc v a).map (·.1) = if (acc.any fun p => decide (p.1 = v)) = true then acc.map (·.1) else acc.map (·.1) ++ [v] := by
  unfold putI
  split
  · rw [List.map_map]
    apply List.map_congr_left
    intro p _
    show (if p.1 = v then (p.1, a) else p).1 = p.1
    split <;> rfl
  · simp
theorem any_key (acc : PL) (v : Int) : (acc.any fun p => decide (p.1 = v)) = true ↔ v ∈ acc.map (·.1) := by
  rw [List.any_eq_true, List.mem_map]
  constructor
  · rintro ⟨p, h, e⟩; exact ⟨p, h, by simpa using e⟩
  · rintro ⟨p, h, e⟩; exact ⟨p, h, by simpa using e⟩
theorem putI_nodup {acc : PL} (h : (acc.map (·.1)).Nodup) (v a : Int) : ((putI acc v a).map (·.1)).Nodup := by
  rw [putI_keys]
  split
  · exact h
  · rename_i hn
    rw [any_key] at hn
    rw [List.nodup_append]
    exact ⟨h, by simp, fun x hx y hy => by rw [List.mem_singleton] at hy; subst hy; rintro rfl; exact hn hx⟩
theorem netI_nodup : ∀ {ps acc : PL}, (acc.map (·.1)).Nodup → ((netI acc ps).map (·.1)).Nodup
  | [], _, h => h
  | p :: r, acc, h => by rw [netI]; exact netI_nodup (ps := r) (putI_nodup h _ _)
theorem putI_len (acc : PL) (v a : Int) : (putI acc v a).length ≤ acc.length + 1 := by
  unfold putI
  split <;> simp
theorem netI_len : ∀ (ps acc : PL), (netI acc ps).length ≤ acc.length + ps.length
  | [], acc => by simp [netI]
  | p :: r, acc => by
    have := netI_len r (putI acc p.1 (getI acc p.1 + p.2))
    have := putI_len acc p.1 (getI acc p.1 + p.2)
    rw [netI, List.length_cons]
    omega
theorem putI_mem {acc : PL} {v a k : Int} (h : k ∈ (putI acc v a).map (·.1)) : k ∈ acc.map (·.1) ∨ k = v := by
  rw [putI_keys] at h
  split at h
  · exact .inl h
  · simpa using h
theorem netI_mem : ∀ {ps acc : PL} {k : Int}, k ∈ (netI acc ps).map (·.1) → k ∈ acc.map (·.1) ∨ k ∈ ps.map (·.1)
  | [], acc, k, h => .inl h
  | p :: r, acc, k, h => by
    rcases netI_mem (ps := r) h with h | h
    · rcases putI_mem h with h | h
      · exact .inl h
      · exact .inr (by rw [h]; simp)
    · exact .inr (by rw [List.map_cons]; exact List.mem_cons_of_mem _ h)
/-- the pairs of a term -/
def canon (ps : PL) : PL := sortP ((netI [] ps).filter fun p => decide (p.2 ≠ 0))
theorem canon_len (ps : PL) : (canon ps).length ≤ ps.length := by
  have h1 := netI_len ps []
  have h2 := (sortP_perm ((netI [] ps).filter fun p => decide (p.2 ≠ 0))).length_eq
  have h3 := List.length_filter_le (fun p : Int × Int => decide (p.2 ≠ 0)) (netI [] ps)
  unfold canon
  simp at h1
  omega
theorem canon_keys {ps : PL} {p : Int × Int} (h : p ∈ canon ps) : p.1 ∈ ps.map (·.1) ∧ p.2 ≠ 0 := by
  unfold canon at h
  rw [(sortP_perm _).mem_iff, List.mem_filter] at h
  refine ⟨?_, by simpa using h.2⟩
  rcases netI_mem (k := p.1) (List.mem_map.mpr ⟨p, h.1, rfl⟩) with h | h
  · simp at h
  · exact h
theorem getI_mem : ∀ {acc : PL}, (acc.map (·.1)).Nodup → ∀ p ∈ acc, getI acc p.1 = p.2
  | q :: r, nd, p, h => by
    rw [List.map_cons, List.nodup_cons] at nd
    unfold getI
    rcases List.mem_cons.mp h with e | h
    · subst e; rw [if_pos rfl]
    · have ne : q.1 ≠ p.1 := fun e => nd.1 (by rw [e]; exact List.mem_map.mpr ⟨p, h, rfl⟩)
      rw [if_neg ne, getI_mem nd.2 p h]
theorem map_get {acc : PL} (nd : (acc.map (·.1)).Nodup) : (acc.map (·.1)).map (fun v => (v, getI acc v)) = acc := by
  rw [List.map_map]
  conv => rhs; rw [← List.map_id acc]
  apply List.map_congr_left
  intro p hp
  show (p.1, getI acc p.1) = p
  rw [getI_mem nd p hp]
theorem asc_le {ks : List Int} (h : ks.Pairwise (· ≤ ·)) (nd : ks.Nodup) : ks.Pairwise (· < ·) := by
  refine List.Pairwise.imp₂ (fun a b h1 h2 => ?_) h nd
  omega
theorem canon_law {acc : PL} (nd : (acc.map (·.1)).Nodup) : ((sortI (acc.map (·.1))).filter fun v => decide (getI acc v ≠ 0)).map (fun v => (v, getI acc v)) = sortP (acc.filter fun p => decide (p.2 ≠ 0)) := by
  refine sortedP_unique ?_ (sortP_sorted _) ?_
  · have h1 : (sortI (acc.map (·.1))).Pairwise (· < ·) := asc_le (sortI_sorted _) ((sortI_perm _).nodup_iff.mpr nd)
    refine List.pairwise_map.mpr ((h1.filter _).imp fun {a b} h => ?_)
    simp only [LeP, leP_iff]
    exact .inl h
  · refine List.Perm.trans ?_ (sortP_perm _).symm
    have h2 : ((sortI (acc.map (·.1))).map fun v => (v, getI acc v)).Perm acc := by
      have := (sortI_perm (acc.map (·.1))).map fun v => (v, getI acc v)
      rwa [map_get nd] at this
    have h3 := h2.filter fun p => decide (p.2 ≠ 0)
    rw [List.filter_map] at h3
    exact h3
theorem sortP_asc {ps : PL} (nd : (ps.map (·.1)).Nodup) : ((sortP ps).map (·.1)).Pairwise (· < ·) := by
  have h1 : ((sortP ps).map (·.1)).Nodup := ((sortP_perm ps).map (·.1)).nodup_iff.mpr nd
  have h2 : ((sortP ps).map (·.1)).Pairwise (· ≤ ·) := List.pairwise_map.mpr ((sortP_sorted ps).imp fun {a b} h => by
    simp only [LeP, leP_iff] at h
    omega)
  exact asc_le h2 h1
theorem nodup_filter {acc : PL} (nd : (acc.map (·.1)).Nodup) (f : Int × Int → Bool) : ((acc.filter f).map (·.1)).Nodup :=
  (List.filter_sublist.map _).nodup nd
theorem canon_asc (ps : PL) : ((canon ps).map (·.1)).Pairwise (· < ·) := sortP_asc (nodup_filter (netI_nodup (by simp)) _)
theorem ascI_pw : ∀ vs : List Int, ascI vs = true ↔ vs.Pairwise (· < ·)
  | [] => by simp [ascI]
  | [a] => by simp [ascI]
  | a :: b :: r => by
    rw [ascI, Bool.and_eq_true, decide_eq_true_eq, ascI_pw (b :: r), List.pairwise_cons (a := a)]
    constructor
    · rintro ⟨h1, h2⟩
      refine ⟨fun z hz => ?_, h2⟩
      rcases List.mem_cons.mp hz with e | hz
      · omega
      · have := (List.pairwise_cons.mp h2).1 z hz; omega
    · rintro ⟨h1, h2⟩
      exact ⟨h1 b List.mem_cons_self, h2⟩
/-! ### values -/
def valI (ps : PL) (ρ : Int → Int) : Int := (ps.map fun p => p.2 * ρ p.1).sum
theorem valI_perm {ps qs : PL} (h : ps.Perm qs) (ρ : Int → Int) : valI ps ρ = valI qs ρ := by
  unfold valI
  induction h with
  | nil => rfl
  | cons x _ ih => rw [List.map_cons, List.map_cons, List.sum_cons, List.sum_cons, ih]
  | swap x y l => simp only [List.map_cons, List.sum_cons]; omega
  | trans _ _ ih1 ih2 => rw [ih1, ih2]
theorem valI_app (ps qs : PL) (ρ : Int → Int) : valI (ps ++ qs) ρ = valI ps ρ + valI qs ρ := by
  unfold valI; rw [List.map_append, List.sum_append]
theorem valI_cons (p : Int × Int) (qs : PL) (ρ : Int → Int) : valI (p :: qs) ρ = p.2 * ρ p.1 + valI qs ρ := rfl
theorem valI_nz (ps : PL) (ρ : Int → Int) : valI (ps.filter fun p => decide (p.2 ≠ 0)) ρ = valI ps ρ := by
  induction ps with
  | nil => rfl
  | cons p r ih =>
    by_cases h : p.2 = 0
    · rw [List.filter_cons_of_neg (by simp [h]), ih, valI_cons, h]; omega
    · rw [List.filter_cons_of_pos (by simp [h]), valI_cons, valI_cons, ih]
theorem valI_set {acc : PL} (nd : (acc.map (·.1)).Nodup) (v c : Int) (ρ : Int → Int) : valI (putI acc v (getI acc v + c)) ρ = valI acc ρ + c * ρ v := by
  unfold putI
  split
  · rename_i h
    induction acc with
    | nil => simp at h
    | cons p r ih =>
      rw [List.map_cons, List.nodup_cons] at nd
      by_cases e : p.1 = v
      · subst e
        have hn : ∀ q ∈ r, q.1 ≠ p.1 := fun q hq e => nd.1 (by rw [← e]; exact List.mem_map.mpr ⟨q, hq, rfl⟩)
        have hr : r.map (fun q => if q.1 = p.1 then (q.1, getI (p :: r) p.1 + c) else q) = r := by
          conv => rhs; rw [← List.map_id r]
          apply List.map_congr_left
          intro q hq
          rw [if_neg (hn q hq)]; rfl
        rw [List.map_cons, if_pos rfl, hr, valI_cons, valI_cons]
        unfold getI
        rw [if_pos rfl]
        simp only [Int.add_mul]
        omega
      · rw [List.map_cons, if_neg e, valI_cons, valI_cons]
        have h' : (r.any fun q => decide (q.1 = v)) = true := by simpa [e] using h
        have eg : getI (p :: r) v = getI r v := by
          show (if p.1 = v then p.2 else getI r v) = _
          rw [if_neg e]
        rw [eg, ih nd.2 h']
        omega
  · rename_i h
    rw [valI_app, getI_none h]
    unfold valI
    simp
theorem valI_net : ∀ (ps acc : PL) (ρ : Int → Int), (acc.map (·.1)).Nodup → valI (netI acc ps) ρ = valI acc ρ + valI ps ρ
  | [], acc, ρ, _ => by simp [netI, valI]
  | p :: r, acc, ρ, h => by
    rw [netI, valI_net r _ ρ (putI_nodup h _ _), valI_set h, valI_cons]
    omega
theorem valI_canon (ps : PL) (ρ : Int → Int) : valI (canon ps) ρ = valI ps ρ := by
  unfold canon
  rw [valI_perm (sortP_perm _), valI_nz, valI_net ps [] ρ (by simp)]
  simp [valI]
/-- a term -/
def tmD (c : Int) (ps : PL) : D := .tuple [.int c, .tuple (ps.map pairD)]
/-- its pairs ascend, its coefficients are not 0, its variables are at least 0 -/
structure IsTm (ps : PL) : Prop where
  asc : (ps.map (·.1)).Pairwise (· < ·)
  nz : ∀ p ∈ ps, p.2 ≠ 0
  pos : ∀ p ∈ ps, 0 ≤ p.1
theorem IsTm.canon {ps : PL} (h : ∀ p ∈ ps, 0 ≤ p.1) : IsTm (canon ps) :=
  ⟨canon_asc ps, fun p hp => (canon_keys hp).2, fun p hp => by
    obtain ⟨q, hq, e⟩ := List.mem_map.mp (canon_keys hp).1
    rw [← e]; exact h q hq⟩
theorem pairNZ_D {p : Int × Int} (h0 : 0 ≤ p.1) (h1 : p.2 ≠ 0) : pairNZ (pairD p) = true := by simp [pairNZ, pairD, h0, h1]
theorem fst_pairs (ps : PL) : (ps.map pairD).map fstI = ps.map (·.1) := by rw [List.map_map]; rfl
theorem IsTm.termB {ps : PL} (h : IsTm ps) (c : Int) : termB (tmD c ps) = true := by
  show ((ps.map pairD).all pairNZ && ascI ((ps.map pairD).map fstI)) = true
  rw [fst_pairs, (ascI_pw _).mpr h.asc, Bool.and_true, List.all_eq_true]
  intro d hd
  obtain ⟨p, hp, rfl⟩ := List.mem_map.mp hd
  exact pairNZ_D (h.pos p hp) (h.nz p hp)
theorem big_pair (p : Int × Int) : big (pairD p) = 3 := by simp [pairD, big, bigs]
theorem bigs_pairs : ∀ ps : PL, bigs (ps.map pairD) = 3 * ps.length
  | [] => rfl
  | p :: r => by rw [List.map_cons, bigs, bigs_pairs r, big_pair, List.length_cons]; omega
theorem big_tm (c : Int) (ps : PL) : big (tmD c ps) = 3 * ps.length + 3 := by
  simp only [tmD, big, bigs, bigs_pairs]; omega
theorem intsOf_pairs {p : Int × Int} {r : PL} : intsOf ((p :: r).map pairD) = none := by simp [pairD, intsOf]
theorem pairsOf_map : ∀ ps : PL, pairsOf (ps.map pairD) = some ps
  | [] => rfl
  | p :: r => by rw [List.map_cons, pairD, pairsOf, pairsOf_map r]; rfl
theorem sortedU_pairs {m : Bool} (ps : PL) (h : List O) : sortedU m (.d (.list (ps.map pairD))) h = mkL m ((sortP ps).map pairD) h := by
  cases ps with
  | nil => simp [sortedU, lstLike, Py.listOf, intsOf, sortI, sortP]
  | cons p r =>
    have e1 := intsOf_pairs (p := p) (r := r)
    have e2 := pairsOf_map (p :: r)
    simp only [sortedU, lstLike, Py.listOf, Option.bind_some, e1, e2]
end Py
namespace Py
open PySem PySem.Spec PyProof.Rows L2
theorem map_split {α : Type} {f : α → U} {ps : List α} {pre : List U} {u : U} {r : List U} (e : ps.map f = pre ++ u :: r) : ∃ p, u = f p ∧ p ∈ ps ∧ ps[pre.length]? = some p ∧ ps.take (pre.length + 1) = ps.take pre.length ++ [p] ∧ pre.length < ps.length := by
  have h1 : (ps.map f)[pre.length]? = some u := by rw [e, List.getElem?_append_right (Nat.le_refl _), Nat.sub_self]; rfl
  rw [List.getElem?_map] at h1
  cases hp : ps[pre.length]? with
  | none => rw [hp] at h1; cases h1
  | some p =>
    rw [hp] at h1
    cases h1
    refine ⟨p, rfl, List.mem_of_getElem? hp, rfl, ?_, (List.getElem?_eq_some_iff.mp hp).1⟩
    rw [List.take_succ, hp]; rfl
section
variable {h : List O} {o o' : O}
theorem last_get : (h ++ [o])[h.length]? = some o := by simp
theorem last_set : (h ++ [o]).set h.length o' = h ++ [o'] := by simp
theorem take_last : (h ++ [o]).take h.length = h := by simp
theorem get_emb (acc : PL) (v : Int) : dgetU (.lab h.length) (.d (.int v)) (.d (.int 0)) (h ++ [.dct (embK acc)]) = .ok (.d (.int (getI acc v))) (h ++ [.dct (embK acc)]) := by
  have := embK_getD acc v
  simp only [dgetU, dctOf, last_get, Py.keyOf]
  cases e : getK (embK acc) (.inl v) with
  | none => rw [e] at this; simp only [Option.getD_none] at this; rw [← this]
  | some d => rw [e] at this; simp only [Option.getD_some] at this; rw [this]
theorem itemsU_emb (acc : PL) : itemsU (.lab h.length) (h ++ [.hold (embK acc)]) = .ok (.fix ((acc.map pairD).map U.d)) (h ++ [.hold (embK acc)]) := by
  simp only [itemsU, holdOf, last_get, embK_ent, opt_some, R.bind_ok, List.map_map]
  rfl
theorem sorted_dct (m : Bool) (acc : PL) (hl : acc.length < 64) : sortedU m (.lab h.length) (h ++ [.dct (embK acc)]) = mkL m ((sortI (acc.map (·.1))).map .int) (h ++ [.dct (embK acc)]) := by
  have e1 : Py.listOf (.lab h.length) (h ++ [.dct (embK acc)]) = none := by simp only [Py.listOf, last_get]
  simp only [sortedU, lstLike, e1, Option.bind_none, dkI, last_get, embK_keys, List.length_map, hl, if_true]
theorem pairD_filter (acc : PL) : ((acc.map pairD).filter fun x => decide (sndI x ≠ 0)) = (acc.filter fun p => decide (p.2 ≠ 0)).map pairD := by
  rw [List.filter_map]; rfl
end
end Py
namespace Py
open PySem PySem.Spec PyProof.Rows L2
def rho (rs : List Int) (v : Int) : Int := rs.getD v.toNat 0
theorem atI_ints {rs : List Int} {v : Int} (h0 : 0 ≤ v) (h1 : v < rs.length) : L2.atI (rs.map PyData.int) v = some (.int (rho rs v)) := by
  unfold L2.atI L2.ixN rho
  rw [if_pos h0, List.length_map, if_pos h1, Option.bind_some, List.getElem?_map, List.getD_eq_getElem?_getD]
  have : v.toNat < rs.length := by omega
  rw [List.getElem?_eq_getElem this]
  rfl
theorem getU_row {rs : List Int} {v : Int} (h0 : 0 ≤ v) (h1 : v < rs.length) (h : List O) : getU (.d (.tuple (rs.map .int))) (.d (.int v)) h = .ok (.d (.int (rho rs v))) h := getU_tup (atI_ints h0 h1)
theorem getU_rowL {rs : List Int} {v : Int} (h0 : 0 ≤ v) (h1 : v < rs.length) (h : List O) : getU (.d (.list (rs.map .int))) (.d (.int v)) h = .ok (.d (.int (rho rs v))) h := getU_lst (atI_ints h0 h1)
theorem mulOk_r {i j : Int} (h : j.natAbs < 2 ^ 64) : mulOk i j = true := by
  have e : decide (j.natAbs < 2 ^ 64) = true := decide_eq_true h
  unfold mulOk
  rw [e, Bool.or_true, Bool.true_or]
theorem mulOk_l {i j : Int} (h : i.natAbs < 2 ^ 64) : mulOk i j = true := by
  have e : decide (i.natAbs < 2 ^ 64) = true := decide_eq_true h
  unfold mulOk
  rw [e, Bool.true_or, Bool.true_or]
theorem rho_mem {rs : List Int} {v : Int} (h0 : 0 ≤ v) (h1 : v < rs.length) : rho rs v ∈ rs := by
  unfold rho
  have : v.toNat < rs.length := by omega
  rw [List.getD_eq_getElem?_getD, List.getElem?_eq_getElem this]
  exact List.getElem_mem this
theorem addD_ii (i j : Int) : addD (.int i) (.int j) = some (.int (i + j)) := rfl
theorem sum_pairs (ps : PL) (ρ : Int → Int) : ((ps.map pairD).map fun x => sndI x * ρ (fstI x)).sum = valI ps ρ := by
  rw [List.map_map]; rfl
theorem addU_i {i j : Int} {m : Bool} {h : List O} : addU m (.d (.int i)) (.d (.int j)) h = .ok (.d (.int (i + j))) h := by simp [addU, Py.listOf, addD]
theorem addU_t {xs ys : List D} {m : Bool} {h : List O} (hl : xs.length + ys.length ≤ 10000000) : addU m (.d (.tuple xs)) (.d (.tuple ys)) h = .ok (.d (.tuple (xs ++ ys))) h := by simp [addU, Py.listOf, addD, hl]
theorem addU_l {xs ys : List D} {m : Bool} {h : List O} (hl : xs.length + ys.length ≤ 10000000) : addU m (.d (.list xs)) (.d (.list ys)) h = mkL m (xs ++ ys) h := by simp [addU, Py.listOf, hl]
theorem mulU_i {i j : Int} {m : Bool} {h : List O} (hm : mulOk i j = true) : mulU m (.d (.int i)) (.d (.int j)) h = .ok (.d (.int (i * j))) h := by simp [mulU, hm]
theorem big_tm_le {c : Int} {ps : PL} (hl : ps.length ≤ 1000000) : big (tmD c ps) ≤ 10000000 := by rw [big_tm]; omega
theorem IsTm.app_pos {ps qs : PL} (h : IsTm ps) (g : IsTm qs) : ∀ p ∈ ps ++ qs, 0 ≤ p.1 := fun p hp => (List.mem_append.mp hp).elim (h.pos p) (g.pos p)
theorem vars_tm (c : Int) (ps : PL) : (match tmD c ps with | .tuple [_, .tuple qs] => qs.map fstI | _ => []) = ps.map (·.1) := fst_pairs ps
end Py

/-! formulas: what they are as values -/
namespace Py
open PySem PySem.Spec PyProof.Rows L2
inductive Fm where
  | tru | fls | ge (c : Int) (ps : PL) | eq (c : Int) (ps : PL) | dv (m c : Int) (ps : PL)
  | not (f : Fm) | and (fs : List Fm) | or (fs : List Fm) | imp (f g : Fm) | iff (f g : Fm) | ex (v : Int) (f : Fm) | all (v : Int) (f : Fm)
mutual
def Fm.d : Fm → D
  | .tru => .tuple [.str "true"]
  | .fls => .tuple [.str "false"]
  | .ge c ps => .tuple [.str "ge", tmD c ps]
  | .eq c ps => .tuple [.str "eq", tmD c ps]
  | .dv m c ps => .tuple [.str "div", .int m, tmD c ps]
  | .not f => .tuple [.str "not", f.d]
  | .and fs => .tuple [.str "and", .tuple (Fm.ds fs)]
  | .or fs => .tuple [.str "or", .tuple (Fm.ds fs)]
  | .imp f g => .tuple [.str "implies", f.d, g.d]
  | .iff f g => .tuple [.str "iff", f.d, g.d]
  | .ex v f => .tuple [.str "exists", .int v, f.d]
  | .all v f => .tuple [.str "forall", .int v, f.d]
def Fm.ds : List Fm → List D
  | [] => []
  | f :: r => f.d :: Fm.ds r
end
theorem Fm.ds_eq : ∀ fs : List Fm, Fm.ds fs = fs.map Fm.d
  | [] => by rw [Fm.ds]; rfl
  | f :: r => by rw [Fm.ds, Fm.ds_eq r]; rfl
/-- the formulas that one is made of -/
def Fm.kids : Fm → List Fm
  | .not f => [f]
  | .and fs => fs
  | .or fs => fs
  | .imp f g => [f, g]
  | .iff f g => [f, g]
  | .ex _ f => [f]
  | .all _ f => [f]
  | _ => []
mutual
def Fm.size : Fm → Nat
  | .not f => f.size + 1
  | .and fs => Fm.sizes fs + 1
  | .or fs => Fm.sizes fs + 1
  | .imp f g => f.size + g.size + 1
  | .iff f g => f.size + g.size + 1
  | .ex _ f => f.size + 1
  | .all _ f => f.size + 1
  | .tru => 1
  | .fls => 1
  | .ge _ _ => 1
  | .eq _ _ => 1
  | .dv _ _ _ => 1
def Fm.sizes : List Fm → Nat
  | [] => 0
  | f :: r => f.size + Fm.sizes r
end
theorem Fm.sizes_eq : ∀ fs : List Fm, Fm.sizes fs = (fs.map Fm.size).sum
  | [] => by rw [Fm.sizes]; rfl
  | f :: r => by rw [Fm.sizes, Fm.sizes_eq r]; rfl
theorem Fm.size_kids (f : Fm) : f.size = (f.kids.map Fm.size).sum + 1 := by
  cases f <;> simp [Fm.size, Fm.kids, Fm.sizes_eq]
theorem Fm.size_pos (f : Fm) : 1 ≤ f.size := by rw [Fm.size_kids]; omega
theorem sum_mem : ∀ {l : List Nat} {n : Nat}, n ∈ l → n ≤ l.sum
  | x :: r, n, h => by
    rw [List.sum_cons]
    rcases List.mem_cons.mp h with e | h
    · omega
    · have := sum_mem h; omega
theorem Fm.size_kid {f g : Fm} (h : g ∈ f.kids) : g.size < f.size := by
  rw [Fm.size_kids f]
  have := sum_mem (List.mem_map.mpr ⟨g, h, rfl⟩ : g.size ∈ f.kids.map Fm.size)
  omega
/-- from the parts to the whole -/
theorem Fm.ind {P : Fm → Prop} (h : ∀ f : Fm, (∀ g ∈ f.kids, P g) → P f) : ∀ f : Fm, P f := by
  have : ∀ (n : Nat) (f : Fm), f.size ≤ n → P f := by
    intro n
    induction n with
    | zero => intro f hf; have := f.size_pos; omega
    | succ n ih => intro f hf; exact h f fun g hg => ih g (by have := Fm.size_kid hg; omega)
  exact fun f => this f.size f (Nat.le_refl _)
/-- how many stand within one another -/
def Fm.deepF : Nat → Fm → Nat
  | 0, _ => 0
  | n + 1, f => (f.kids.map (Fm.deepF n)).foldr max 0 + 1
def maxN (l : List Nat) : Nat := l.foldr max 0
theorem maxN_le {l : List Nat} {n : Nat} (h : n ∈ l) : n ≤ maxN l := by
  induction l with
  | nil => cases h
  | cons x r ih =>
    unfold maxN at ih ⊢
    rw [List.foldr_cons]
    rcases List.mem_cons.mp h with e | h
    · omega
    · have := ih h; omega
def Fm.deep (f : Fm) : Nat := Fm.deepF f.size f
theorem Fm.deepF_eq : ∀ (n : Nat) (f : Fm), f.size ≤ n → Fm.deepF n f = Fm.deepF f.size f := by
  intro n
  induction n with
  | zero => intro f h; have := f.size_pos; omega
  | succ n ih =>
    intro f h
    have hp := f.size_pos
    obtain ⟨m, hm⟩ : ∃ m, f.size = m + 1 := ⟨f.size - 1, by omega⟩
    rw [hm]
    unfold Fm.deepF
    congr 2
    apply List.map_congr_left
    intro g hg
    have := Fm.size_kid hg
    rw [ih g (by omega)]
    by_cases e : n = m
    · subst e; rw [ih g (by omega)]
    · have key : ∀ (k : Nat), g.size ≤ k → k ≤ n → Fm.deepF k g = Fm.deepF g.size g := by
        intro k
        induction k with
        | zero => intro h1; have := g.size_pos; omega
        | succ k ihk =>
          intro h1 h2
          by_cases e2 : g.size = k + 1
          · rw [e2]
          · have e3 := ihk (by omega) (by omega)
            have : ∀ (k : Nat) (f : Fm), f.size ≤ k → Fm.deepF (k + 1) f = Fm.deepF k f := by
              intro k
              induction k with
              | zero => intro f h; have := f.size_pos; omega
              | succ k ih2 =>
                intro f h
                conv => lhs; unfold Fm.deepF
                conv => rhs; unfold Fm.deepF
                congr 2
                apply List.map_congr_left
                intro g hg
                have := Fm.size_kid hg
                exact ih2 g (by omega)
            rw [this k g (by omega), e3]
      exact (key m (by omega) (by omega)).symm
theorem Fm.deep_kids (f : Fm) : f.deep = maxN (f.kids.map Fm.deep) + 1 := by
  have hp := f.size_pos
  obtain ⟨m, hm⟩ : ∃ m, f.size = m + 1 := ⟨f.size - 1, by omega⟩
  conv => lhs; unfold Fm.deep
  rw [hm]
  unfold Fm.deepF maxN
  congr 2
  apply List.map_congr_left
  intro g hg
  have := Fm.size_kid hg
  exact Fm.deepF_eq m g (by omega)
theorem Fm.deep_kid {f g : Fm} (h : g ∈ f.kids) : g.deep < f.deep := by
  rw [Fm.deep_kids f]
  have := maxN_le (List.mem_map.mpr ⟨g, h, rfl⟩ : g.deep ∈ f.kids.map Fm.deep)
  omega
/-- a formula, not only its form -/
def Fm.good : Fm → Prop
  | .ge _ ps => IsTm ps
  | .eq _ ps => IsTm ps
  | .dv m _ ps => 2 ≤ m ∧ IsTm ps
  | .ex v _ => 0 ≤ v
  | .all v _ => 0 ≤ v
  | _ => True
inductive Fm.Ok : Fm → Prop
  | mk {f : Fm} (h : f.good) (k : ∀ g ∈ f.kids, Fm.Ok g) : Fm.Ok f
theorem Fm.Ok.good {f : Fm} (h : f.Ok) : f.good := by cases h with | mk a _ => exact a
theorem Fm.Ok.kid {f g : Fm} (h : f.Ok) (hg : g ∈ f.kids) : g.Ok := by cases h with | mk _ b => exact b g hg
def Fm.isAtom : Fm → Bool
  | .ge _ _ => true
  | .eq _ _ => true
  | .dv _ _ _ => true
  | _ => false
/-! ### which values are formulas -/
def atomB : D → Bool
  | .tuple [.str w, t] => termB t && (decide (w = "ge") || decide (w = "eq"))
  | .tuple [.str w, .int m, t] => termB t && decide (w = "div") && decide (2 ≤ m)
  | _ => false
/-- what has to be formulas in a tuple whose word is w, and whose other entries are r -/
def innerW (w : Str) (r : List D) : Option (List D) :=
  if w = "true" ∨ w = "false" then (if r = [] then some [] else none) else
  if w = "not" then (if r.length = 1 then some r else none) else
  if w = "and" ∨ w = "or" then (match r with | [.tuple fs] => some fs | _ => none) else
  if w = "implies" ∨ w = "iff" then (if r.length = 2 then some r else none) else
  if w = "exists" ∨ w = "forall" then (match r with | [v, f] => if isIdx v = true then some [f] else none | _ => none) else none
/-- what has to be formulas in a value; none where it has not the form of one -/
def innerB : D → Option (List D)
  | .tuple (.str w :: r) => if r.length ≤ 2 then innerW w r else none
  | _ => none
theorem innerW_big {w : Str} {r ds : List D} (h : innerW w r = some ds) : bigs ds ≤ bigs r := by
  unfold innerW at h
  split at h
  · split at h
    · cases h; simp [bigs]
    · cases h
  · split at h
    · split at h
      · cases h; exact Nat.le_refl _
      · cases h
    · split at h
      · split at h
        · cases h; simp [bigs, big]
        · cases h
      · split at h
        · split at h
          · cases h; exact Nat.le_refl _
          · cases h
        · split at h
          · split at h
            · split at h
              · cases h; simp [bigs]
              · cases h
            · cases h
          · cases h
theorem innerB_big {d : D} {ds : List D} (h : innerB d = some ds) : bigs ds + 2 ≤ big d := by
  unfold innerB at h
  split at h
  · split at h
    · have := innerW_big h
      simp only [big, bigs]; omega
    · cases h
  · cases h
def formF : Nat → D → Bool
  | 0, _ => false
  | n + 1, d => atomB d || (match innerB d with | some ds => ds.all (formF n) | none => false)
def formB (d : D) : Bool := formF (big d) d
theorem all_congr' {α : Type} {l : List α} {f g : α → Bool} (h : ∀ x ∈ l, f x = g x) : l.all f = l.all g := by
  induction l with
  | nil => rfl
  | cons x r ih => rw [List.all_cons, List.all_cons, h x List.mem_cons_self, ih fun y hy => h y (List.mem_cons_of_mem _ hy)]
theorem formF_succ : ∀ (n : Nat) (d : D), big d ≤ n → formF (n + 1) d = formF n d := by
  intro n
  induction n with
  | zero => intro d h; have := big_pos d; omega
  | succ n ih =>
    intro d h
    conv => lhs; unfold formF
    conv => rhs; unfold formF
    congr 1
    cases hi : innerB d with
    | none => rfl
    | some ds =>
      dsimp only
      have hb := innerB_big hi
      exact all_congr' fun x hx => ih x (by have := bigs_mem hx; omega)
theorem formF_ge {d : D} : ∀ (n : Nat), big d ≤ n → formF n d = formB d := by
  intro n h
  induction n with
  | zero => have := big_pos d; omega
  | succ n ih =>
    by_cases e : big d = n + 1
    · unfold formB; rw [e]
    · rw [formF_succ n d (by omega), ih (by omega)]
theorem formB_eq (d : D) : formB d = (atomB d || (match innerB d with | some ds => ds.all formB | none => false)) := by
  have hp := big_pos d
  obtain ⟨n, hn⟩ : ∃ n, big d = n + 1 := ⟨big d - 1, by omega⟩
  unfold formB
  rw [hn]
  conv => lhs; unfold formF
  congr 1
  cases hi : innerB d with
  | none => rfl
  | some ds =>
    dsimp only
    have hb := innerB_big hi
    exact all_congr' fun x hx => formF_ge n (by have := bigs_mem hx; omega)
/-- a term is told by its pairs -/
theorem termB_tm {d : D} (h : termB d = true) : ∃ c ps, d = tmD c ps ∧ IsTm ps := by
  obtain ⟨c, ds, rfl, h1, h2⟩ := termB_of h
  have key : ∀ ds : List D, (∀ p ∈ ds, pairNZ p = true) → ∃ ps : PL, ds = ps.map pairD ∧ ∀ p ∈ ps, 0 ≤ p.1 ∧ p.2 ≠ 0 := by
    intro ds
    induction ds with
    | nil => intro _; exact ⟨[], rfl, by simp⟩
    | cons x r ih =>
      intro h
      obtain ⟨v, a, rfl, hv, ha⟩ := pairNZ_of (h x List.mem_cons_self)
      obtain ⟨ps, rfl, hps⟩ := ih fun p hp => h p (List.mem_cons_of_mem _ hp)
      exact ⟨(v, a) :: ps, rfl, fun p hp => (List.mem_cons.mp hp).elim (fun e => by rw [e]; exact ⟨hv, ha⟩) (hps p)⟩
  obtain ⟨ps, rfl, hps⟩ := key ds h1
  rw [fst_pairs, ascI_pw] at h2
  exact ⟨c, ps, rfl, h2, fun p hp => (hps p hp).2, fun p hp => (hps p hp).1⟩
theorem atomB_of {d : D} (h : atomB d = true) : ∃ f : Fm, f.isAtom = true ∧ f.d = d ∧ f.Ok := by
  unfold atomB at h
  split at h
  · rename_i w t
    simp only [Bool.and_eq_true, Bool.or_eq_true, decide_eq_true_eq] at h
    obtain ⟨h1, h2⟩ := h
    obtain ⟨c, ps, rfl, ht⟩ := termB_tm h1
    rcases h2 with rfl | rfl
    · exact ⟨.ge c ps, rfl, by rw [Fm.d], .mk ht (by simp [Fm.kids])⟩
    · exact ⟨.eq c ps, rfl, by rw [Fm.d], .mk ht (by simp [Fm.kids])⟩
  · rename_i w m t
    simp only [Bool.and_eq_true, decide_eq_true_eq] at h
    obtain ⟨⟨h1, rfl⟩, h3⟩ := h
    obtain ⟨c, ps, rfl, ht⟩ := termB_tm h1
    exact ⟨.dv m c ps, rfl, by rw [Fm.d], .mk ⟨h3, ht⟩ (by simp [Fm.kids])⟩
  · cases h
theorem isIdx_of {d : D} (h : isIdx d = true) : ∃ i, d = .int i ∧ 0 ≤ i := by
  unfold isIdx at h
  split at h
  · exact ⟨_, rfl, of_decide_eq_true h⟩
  · cases h
/-- the forms of what is no atom -/
theorem innerB_of {d : D} {ds : List D} (h : innerB d = some ds) (k : ∀ x ∈ ds, ∃ f : Fm, f.d = x ∧ f.Ok) : ∃ f : Fm, f.d = d ∧ f.Ok := by
  have map_of : ∀ ds : List D, (∀ x ∈ ds, ∃ f : Fm, f.d = x ∧ f.Ok) → ∃ fs : List Fm, Fm.ds fs = ds ∧ ∀ f ∈ fs, f.Ok := by
    intro ds
    induction ds with
    | nil => intro _; exact ⟨[], by rw [Fm.ds], by simp⟩
    | cons x r ih =>
      intro h
      obtain ⟨f, hf, ok⟩ := h x List.mem_cons_self
      obtain ⟨fs, hfs, oks⟩ := ih fun y hy => h y (List.mem_cons_of_mem _ hy)
      exact ⟨f :: fs, by rw [Fm.ds, hf, hfs], fun g hg => (List.mem_cons.mp hg).elim (fun e => by rw [e]; exact ok) (oks g)⟩
  obtain ⟨fs, hfs, oks⟩ := map_of ds k
  unfold innerB at h
  split at h
  · rename_i w r
    split at h
    · unfold innerW at h
      split at h
      · rename_i hw
        split at h
        · rename_i hr
          subst hr
          rcases hw with rfl | rfl
          · exact ⟨.tru, by rw [Fm.d], .mk trivial (by simp [Fm.kids])⟩
          · exact ⟨.fls, by rw [Fm.d], .mk trivial (by simp [Fm.kids])⟩
        · cases h
      · split at h
        · rename_i hw
          subst hw
          split at h
          · rename_i hr
            cases h
            match fs, hfs, oks with
            | [], hfs, _ => rw [Fm.ds] at hfs; subst hfs; simp at hr
            | [f], hfs, oks => rw [Fm.ds, Fm.ds] at hfs; subst hfs; exact ⟨.not f, by rw [Fm.d], .mk trivial (by simpa [Fm.kids] using oks)⟩
            | _ :: _ :: _, hfs, _ => rw [Fm.ds, Fm.ds] at hfs; subst hfs; simp at hr
          · cases h
        · split at h
          · rename_i hw
            split at h
            · cases h
              subst hfs
              rcases hw with rfl | rfl
              · exact ⟨.and fs, by rw [Fm.d], .mk trivial oks⟩
              · exact ⟨.or fs, by rw [Fm.d], .mk trivial oks⟩
            · cases h
          · split at h
            · rename_i hw
              split at h
              · rename_i hr
                cases h
                match fs, hfs, oks with
                | [], hfs, _ => rw [Fm.ds] at hfs; subst hfs; simp at hr
                | [f], hfs, _ => rw [Fm.ds, Fm.ds] at hfs; subst hfs; simp at hr
                | [f, g], hfs, oks =>
                  rw [Fm.ds, Fm.ds, Fm.ds] at hfs; subst hfs
                  rcases hw with rfl | rfl
                  · exact ⟨.imp f g, by rw [Fm.d], .mk trivial oks⟩
                  · exact ⟨.iff f g, by rw [Fm.d], .mk trivial oks⟩
                | _ :: _ :: _ :: _, hfs, _ => rw [Fm.ds, Fm.ds, Fm.ds] at hfs; subst hfs; simp at hr
              · cases h
            · split at h
              · rename_i hw
                split at h
                · split at h
                  · rename_i v f hv
                    cases h
                    obtain ⟨i, rfl, hi⟩ := isIdx_of hv
                    match fs, hfs, oks with
                    | [], hfs, _ => rw [Fm.ds] at hfs; cases hfs
                    | [g], hfs, oks =>
                      rw [Fm.ds, Fm.ds] at hfs
                      cases hfs
                      rcases hw with rfl | rfl
                      · exact ⟨.ex i g, by rw [Fm.d], .mk hi oks⟩
                      · exact ⟨.all i g, by rw [Fm.d], .mk hi oks⟩
                    | _ :: _ :: _, hfs, _ => rw [Fm.ds, Fm.ds] at hfs; cases hfs
                  · cases h
                · cases h
              · cases h
    · cases h
  · cases h
/-- what is judged a formula is one -/
theorem formB_of : ∀ (n : Nat) {d : D}, big d ≤ n → formB d = true → ∃ f : Fm, f.d = d ∧ f.Ok := by
  intro n
  induction n with
  | zero => intro d h; have := big_pos d; omega
  | succ n ih =>
    intro d h hf
    rw [formB_eq] at hf
    rcases Bool.or_eq_true_iff.mp hf with ha | hi
    · obtain ⟨f, _, e, ok⟩ := atomB_of ha; exact ⟨f, e, ok⟩
    · cases q : innerB d with
      | none => rw [q] at hi; cases hi
      | some ds =>
        rw [q] at hi
        have hb := innerB_big q
        exact innerB_of q fun x hx => ih (by have := bigs_mem hx; omega) (List.all_eq_true.mp hi x hx)
end Py

/-! comprehensions of two clauses, in plain words; what formulas hold -/
namespace Py
open PySem PySem.Spec PyProof.Rows L2
theorem lcL_plain {h0 : List O} {t : Tg} {vs : List Nat} {fe : En → List O → R U} {σ : En} (g : U → D) : ∀ (us : List U) (acc : List D), (∀ u ∈ us, ∃ σ1, asg t u (wipeE σ vs) = some σ1 ∧ ∀ acc, fe σ1 (h0 ++ [.lst acc]) = .ok (.d (g u)) (h0 ++ [.lst acc])) → acc.length + us.length ≤ 10000000 →
    lcL t vs (fun _ h => .ok true h) fe h0.length σ us (h0 ++ [.lst acc]) = .ok () (h0 ++ [.lst (acc ++ us.map g)]) := by
  intro us acc hs hl
  have := lcL_state (S := Unit) (emb := fun _ => h0) (n := h0.length) (fun _ => rfl) (I := fun _ => True) (t := t) (vs := vs) (ft := fun _ h => .ok true h) (fe := fe) (σ := σ) (p := fun _ _ => true) (g := fun u _ => (g u, ())) us () acc trivial (fun u hu s _ => by
    obtain ⟨σ1, a, b⟩ := hs u hu
    exact ⟨σ1, a, trivial, fun acc => ⟨rfl, fun _ => b acc⟩⟩) hl
  rw [this, mapS_pure, List.filter_eq_self.mpr (fun _ _ => rfl)]
theorem lcGo2_plain {α : Type} {h0 : List O} {t t1 : Tg} {vs vs1 : List Nat} {fi1 : En → List O → R Src} {fe : En → List O → R U} {σ : En} (f : α → U) (ws : α → List U) (g : α → U → D) : ∀ (us : List α) (pre : List U) (acc : List D),
    (∀ u ∈ us, ∃ σ1, asg t (f u) (wipeE σ vs) = some σ1 ∧ (∀ acc, fi1 σ1 (h0 ++ [.lst acc]) = .ok (.fix (ws u)) (h0 ++ [.lst acc])) ∧ ∀ w ∈ ws u, ∃ σ2, asg t1 w (wipeE σ1 vs1) = some σ2 ∧ ∀ acc, fe σ2 (h0 ++ [.lst acc]) = .ok (.d (g u w)) (h0 ++ [.lst acc])) →
    acc.length + (us.map fun u => (ws u).length).sum ≤ 10000000 →
    lcGo2 (.fix (pre ++ us.map f)) t vs (fun _ h => .ok true h) fi1 t1 vs1 (fun _ h => .ok true h) fe h0.length (us.length + 1) pre.length σ (h0 ++ [.lst acc]) = .ok () (h0 ++ [.lst (acc ++ us.flatMap fun u => (ws u).map (g u))])
  | [], pre, acc, _, _ => by
    unfold lcGo2 Src.at_
    simp
  | u :: r, pre, acc, hs, hl => by
    obtain ⟨σ1, e1, e2, e3⟩ := hs u List.mem_cons_self
    rw [List.length_cons, List.map_cons]
    unfold lcGo2
    have hat : Src.at_ (.fix (pre ++ f u :: r.map f)) pre.length (h0 ++ [.lst acc]) = some (some (f u)) := by
      show some (pre ++ f u :: r.map f)[pre.length]? = some (some (f u))
      rw [List.getElem?_append_right (Nat.le_refl _), Nat.sub_self]; rfl
    rw [hat]
    dsimp only
    rw [e1]
    dsimp only
    rw [noErr_ok, R.bind_ok, if_pos rfl, e2 acc, noErr_ok, R.bind_ok, if_pos (by simp)]
    rw [List.map_cons, List.sum_cons] at hl
    have inn := lcGo_fix t1 vs1 (fun _ h => .ok true h) fe h0.length σ1 (ws u) [] (h0 ++ [.lst acc])
    rw [List.nil_append, List.length_nil] at inn
    show R.bind (lcGo (.fix (ws u)) t1 vs1 (fun _ h => .ok true h) fe h0.length ((ws u).length + 1) 0 σ1 (h0 ++ [.lst acc])) _ = _
    rw [inn, lcL_plain (g u) (ws u) acc e3 (by omega), R.bind_ok]
    have ih := lcGo2_plain (h0 := h0) (t := t) (t1 := t1) (vs := vs) (vs1 := vs1) (fi1 := fi1) (fe := fe) (σ := σ) f ws g r (pre ++ [f u]) (acc ++ (ws u).map (g u)) (fun w hw => hs w (List.mem_cons_of_mem _ hw)) (by rw [List.length_append, List.length_map]; omega)
    rw [List.append_assoc, List.singleton_append, List.length_append, List.length_singleton] at ih
    rw [ih, List.flatMap_cons, List.append_assoc]
/-- THE RULE: two clauses without tests, whose parts leave the heap alone -/
theorem ev_lc2 {α : Type} {G : Gt} {C : Str → List U → List O → R U} {m : Bool} {t t1 : Tg} {w w1 : Wk} {e : Ex} {σ : En} {h h1 : List O} (us : List α) (f : α → U) (ws : α → List U) (g : α → U → D) (q : evw G C w σ h = .ok (.fix (us.map f)) h1)
    (hs : ∀ u ∈ us, ∃ σ1, asg t (f u) (wipeE σ (t.slots ++ t1.slots)) = some σ1 ∧ (∀ acc, evw G C w1 σ1 (h1 ++ [.lst acc]) = .ok (.fix (ws u)) (h1 ++ [.lst acc])) ∧ ∀ x ∈ ws u, ∃ σ2, asg t1 x (wipeE σ1 t1.slots) = some σ2 ∧ ∀ acc, ev G C e σ2 (h1 ++ [.lst acc]) = .ok (.d (g u x)) (h1 ++ [.lst acc]))
    (hl : (us.map fun u => (ws u).length).sum ≤ 10000000) : evLc2 m t (t.slots ++ t1.slots) (evw G C w) (evc G C .no) t1 t1.slots (evw G C w1) (evc G C .no) (ev G C e) σ h = mkL m (us.flatMap fun u => (ws u).map (g u)) h1 := by
  show evLc2 m t (t.slots ++ t1.slots) (evw G C w) (fun _ h => .ok true h) t1 t1.slots (evw G C w1) (fun _ h => .ok true h) (ev G C e) σ h = _
  unfold evLc2
  rw [q, R.bind_ok]
  have := lcGo2_plain (h0 := h1) (t := t) (t1 := t1) (vs := t.slots ++ t1.slots) (vs1 := t1.slots) (fi1 := evw G C w1) (fe := ev G C e) (σ := σ) f ws g us [] [] hs (by simpa using hl)
  rw [List.nil_append, List.length_nil, List.nil_append] at this
  have et : Src.top (.fix (us.map f)) = us.length + 1 := by
    show (us.map f).length + 1 = _
    rw [List.length_map]
  rw [et, this, R.bind_ok]
  exact lcFin_app
/-- .. whose items are values -/
theorem ev_lc2D {α : Type} {G : Gt} {C : Str → List U → List O → R U} {m : Bool} {t t1 : Tg} {w w1 : Wk} {e : Ex} {σ : En} {h h1 : List O} (us : List α) (f : α → D) (ws : α → List D) (q : evw G C w σ h = .ok (.fix (us.map fun a => .d (f a))) h1)
    (hs : ∀ u ∈ us, ∃ σ1, asg t (.d (f u)) (wipeE σ (t.slots ++ t1.slots)) = some σ1 ∧ (∀ acc, evw G C w1 σ1 (h1 ++ [.lst acc]) = .ok (.fix ((ws u).map .d)) (h1 ++ [.lst acc])) ∧ ∀ x ∈ ws u, ∃ σ2, asg t1 (.d x) (wipeE σ1 t1.slots) = some σ2 ∧ ∀ acc, ev G C e σ2 (h1 ++ [.lst acc]) = .ok (.d x) (h1 ++ [.lst acc]))
    (hl : (us.map fun u => (ws u).length).sum ≤ 10000000) : evLc2 m t (t.slots ++ t1.slots) (evw G C w) (evc G C .no) t1 t1.slots (evw G C w1) (evc G C .no) (ev G C e) σ h = mkL m (us.flatMap ws) h1 := by
  rw [ev_lc2 us (fun a => U.d (f a)) (fun a => (ws a).map U.d) (fun _ u => match u with | .d x => x | _ => .none) q (fun u hu => by
    obtain ⟨σ1, a, b, c⟩ := hs u hu
    refine ⟨σ1, a, b, fun x hx => ?_⟩
    obtain ⟨y, hy, rfl⟩ := List.mem_map.mp hx
    exact c y hy) (by simpa using hl)]
  congr 1
  congr 1
  funext a
  rw [List.map_map]
  exact List.map_id _
/-! ### the atoms of a formula, its names -/
mutual
def Fm.atoms : Fm → List Fm
  | .tru => []
  | .fls => []
  | .ge c ps => [.ge c ps]
  | .eq c ps => [.eq c ps]
  | .dv m c ps => [.dv m c ps]
  | .not f => f.atoms
  | .and fs => Fm.atomss fs
  | .or fs => Fm.atomss fs
  | .imp f g => f.atoms ++ g.atoms
  | .iff f g => f.atoms ++ g.atoms
  | .ex _ f => f.atoms
  | .all _ f => f.atoms
def Fm.atomss : List Fm → List Fm
  | [] => []
  | f :: r => f.atoms ++ Fm.atomss r
end
theorem Fm.atomss_eq : ∀ fs : List Fm, Fm.atomss fs = fs.flatMap Fm.atoms
  | [] => by rw [Fm.atomss]; rfl
  | f :: r => by rw [Fm.atomss, Fm.atomss_eq r]; rfl
theorem Fm.atoms_kids (f : Fm) (h : f.isAtom = false) : f.atoms = f.kids.flatMap Fm.atoms := by
  cases f <;> first | (cases h; done) | simp [Fm.atoms, Fm.kids, Fm.atomss_eq]
theorem Fm.atoms_self (f : Fm) (h : f.isAtom = true) : f.atoms = [f] := by
  cases f <;> first | (cases h; done) | simp [Fm.atoms]
theorem Fm.atoms_are {f a : Fm} (h : a ∈ f.atoms) : a.isAtom = true ∧ a.size ≤ f.size ∧ (f.Ok → a.Ok) := by
  revert h
  induction f using Fm.ind with
  | h f ih =>
    intro h
    cases hf : f.isAtom with
    | true => rw [Fm.atoms_self f hf, List.mem_singleton] at h; subst h; exact ⟨hf, Nat.le_refl _, id⟩
    | false =>
      rw [Fm.atoms_kids f hf, List.mem_flatMap] at h
      obtain ⟨g, hg, ha⟩ := h
      obtain ⟨h1, h2, h3⟩ := ih g hg ha
      exact ⟨h1, Nat.le_trans h2 (Nat.le_of_lt (Fm.size_kid hg)), fun ok => h3 (ok.kid hg)⟩
theorem Fm.atoms_len (f : Fm) : f.atoms.length ≤ f.size := by
  induction f using Fm.ind with
  | h f ih =>
    cases hf : f.isAtom with
    | true => rw [Fm.atoms_self f hf]; exact f.size_pos
    | false =>
      rw [Fm.atoms_kids f hf, Fm.size_kids, List.length_flatMap]
      have : ∀ l : List Fm, (∀ g ∈ l, g.atoms.length ≤ g.size) → (l.map fun g => g.atoms.length).sum ≤ (l.map Fm.size).sum := by
        intro l
        induction l with
        | nil => intro _; simp
        | cons x r ih2 =>
          intro h
          rw [List.map_cons, List.map_cons, List.sum_cons, List.sum_cons]
          have := h x List.mem_cons_self
          have := ih2 fun g hg => h g (List.mem_cons_of_mem _ hg)
          omega
      have := this f.kids ih
      omega
/-- the pairs of an atom -/
def Fm.pairs : Fm → PL
  | .ge _ ps => ps
  | .eq _ ps => ps
  | .dv _ _ ps => ps
  | _ => []
def Fm.const : Fm → Int
  | .ge c _ => c
  | .eq c _ => c
  | .dv _ c _ => c
  | _ => 0
mutual
def Fm.bound : Fm → List Int
  | .not f => f.bound
  | .and fs => Fm.bounds fs
  | .or fs => Fm.bounds fs
  | .imp f g => f.bound ++ g.bound
  | .iff f g => f.bound ++ g.bound
  | .ex v f => v :: f.bound
  | .all v f => v :: f.bound
  | .tru => []
  | .fls => []
  | .ge _ _ => []
  | .eq _ _ => []
  | .dv _ _ _ => []
def Fm.bounds : List Fm → List Int
  | [] => []
  | f :: r => f.bound ++ Fm.bounds r
end
theorem Fm.bounds_eq : ∀ fs : List Fm, Fm.bounds fs = fs.flatMap Fm.bound
  | [] => by rw [Fm.bounds]; rfl
  | f :: r => by rw [Fm.bounds, Fm.bounds_eq r]; rfl
def Fm.ownB : Fm → List Int
  | .ex v _ => [v]
  | .all v _ => [v]
  | _ => []
theorem Fm.bound_kids (f : Fm) : f.bound = f.ownB ++ f.kids.flatMap Fm.bound := by
  cases f <;> simp [Fm.bound, Fm.kids, Fm.bounds_eq, Fm.ownB]
theorem Fm.bound_len (f : Fm) : f.bound.length ≤ f.size := by
  induction f using Fm.ind with
  | h f ih =>
    rw [Fm.bound_kids, Fm.size_kids, List.length_append, List.length_flatMap]
    have : ∀ l : List Fm, (∀ g ∈ l, g.bound.length ≤ g.size) → (l.map fun g => g.bound.length).sum ≤ (l.map Fm.size).sum := by
      intro l
      induction l with
      | nil => intro _; simp
      | cons x r ih2 =>
        intro h
        rw [List.map_cons, List.map_cons, List.sum_cons, List.sum_cons]
        have := h x List.mem_cons_self
        have := ih2 fun g hg => h g (List.mem_cons_of_mem _ hg)
        omega
    have := this f.kids ih
    have : f.ownB.length ≤ 1 := by cases f <;> simp [Fm.ownB]
    omega
/-- all variables, each place once -/
def Fm.vars (f : Fm) : List Int := f.atoms.flatMap (fun a => a.pairs.map (·.1)) ++ f.bound
def Fm.names (f : Fm) : List Int := ssI f.vars
def Fm.smallA : Fm → Bool
  | .dv m c ps => !decide (60 < m) && decide (c.natAbs ≤ 1000) && ps.all fun p => decide (p.2.natAbs ≤ 1000)
  | .ge c ps => decide (c.natAbs ≤ 1000) && ps.all fun p => decide (p.2.natAbs ≤ 1000)
  | .eq c ps => decide (c.natAbs ≤ 1000) && ps.all fun p => decide (p.2.natAbs ≤ 1000)
  | _ => true
def Fm.small (f : Fm) : Bool := decide (f.size ≤ 60) && decide (f.deep ≤ 12) && (f.names.all fun v => decide (v ≤ 9)) && f.atoms.all Fm.smallA
mutual
def Fm.quant : Fm → Bool
  | .not f => f.quant
  | .and fs => Fm.quants fs
  | .or fs => Fm.quants fs
  | .imp f g => f.quant || g.quant
  | .iff f g => f.quant || g.quant
  | .ex _ _ => true
  | .all _ _ => true
  | .tru => false
  | .fls => false
  | .ge _ _ => false
  | .eq _ _ => false
  | .dv _ _ _ => false
def Fm.quants : List Fm → Bool
  | [] => false
  | f :: r => f.quant || Fm.quants r
end
theorem Fm.quants_eq : ∀ fs : List Fm, Fm.quants fs = fs.any Fm.quant
  | [] => by rw [Fm.quants]; rfl
  | f :: r => by rw [Fm.quants, Fm.quants_eq r]; rfl
def Fm.isQ : Fm → Bool
  | .ex _ _ => true
  | .all _ _ => true
  | _ => false
theorem Fm.quant_kids (f : Fm) : f.quant = (f.isQ || f.kids.any Fm.quant) := by
  cases f <;> simp [Fm.quant, Fm.kids, Fm.quants_eq, Fm.isQ]
/-- few numbers ascend between two ends -/
theorem asc_len : ∀ (l : List Int) (a : Int) (n : Nat), l.Pairwise (· < ·) → (∀ x ∈ l, a ≤ x ∧ x < a + n) → l.length ≤ n
  | [], _, _, _, _ => Nat.zero_le _
  | x :: r, a, n, h, hb => by
    obtain ⟨h1, h2⟩ := List.pairwise_cons.mp h
    have hx := hb x List.mem_cons_self
    obtain ⟨m, hm⟩ : ∃ m : Nat, (m : Int) = a + n - (x + 1) := ⟨(a + n - (x + 1)).toNat, by omega⟩
    have := asc_len r (x + 1) m h2 fun y hy => by
      have := h1 y hy
      have := hb y (List.mem_cons_of_mem _ hy)
      omega
    rw [List.length_cons]
    omega
theorem ssI_len {l : List Int} (h : ∀ x ∈ l, 0 ≤ x ∧ x < 63) : (ssI l).length < 64 := by
  have := asc_len (ssI l) 0 63 (ssI_asc l) fun x hx => by
    have := h x ((ssI_mem x l).mp hx)
    omega
  omega
end Py

/-! what is made as a formula is one; bounds of small formulas -/
namespace Py
open PySem PySem.Spec PyProof.Rows L2
section
variable {f f2 f3 f4 f5 f6 : En → List O → R U} {C : List U → List O → R U} {σ : En} {h : List O}
theorem evCl_5 : evCl 5 0 [0, 1, 2, 3, 4] (evCons f (evCons f2 (evCons f3 (evCons f4 (evCons f5 evNil))))) evNil C σ h = (f σ h).bind fun u h => (f2 σ h).bind fun u2 h => (f3 σ h).bind fun u3 h => (f4 σ h).bind fun u4 h => (f5 σ h).bind fun u5 h => C [u, u2, u3, u4, u5] h := by
  unfold evCl evCons evNil
  cases f σ h with
  | err c h => rfl
  | bad => rfl
  | ok a h =>
    dsimp only [R.bind_ok]
    cases f2 σ h with
    | err c h => rfl
    | bad => rfl
    | ok a h =>
      dsimp only [R.bind_ok]
      cases f3 σ h with
      | err c h => rfl
      | bad => rfl
      | ok a h =>
        dsimp only [R.bind_ok]
        cases f4 σ h with
        | err c h => rfl
        | bad => rfl
        | ok a h =>
          dsimp only [R.bind_ok]
          cases f5 σ h <;> rfl
theorem evCl_6 : evCl 6 0 [0, 1, 2, 3, 4, 5] (evCons f (evCons f2 (evCons f3 (evCons f4 (evCons f5 (evCons f6 evNil)))))) evNil C σ h = (f σ h).bind fun u h => (f2 σ h).bind fun u2 h => (f3 σ h).bind fun u3 h => (f4 σ h).bind fun u4 h => (f5 σ h).bind fun u5 h => (f6 σ h).bind fun u6 h => C [u, u2, u3, u4, u5, u6] h := by
  unfold evCl evCons evNil
  cases f σ h with
  | err c h => rfl
  | bad => rfl
  | ok a h =>
    dsimp only [R.bind_ok]
    cases f2 σ h with
    | err c h => rfl
    | bad => rfl
    | ok a h =>
      dsimp only [R.bind_ok]
      cases f3 σ h with
      | err c h => rfl
      | bad => rfl
      | ok a h =>
        dsimp only [R.bind_ok]
        cases f4 σ h with
        | err c h => rfl
        | bad => rfl
        | ok a h =>
          dsimp only [R.bind_ok]
          cases f5 σ h with
          | err c h => rfl
          | bad => rfl
          | ok a h =>
            dsimp only [R.bind_ok]
            cases f6 σ h <;> rfl
end
theorem formB_ok : ∀ f : Fm, f.Ok → formB f.d = true := Fm.ind fun f ih ok => by
  rw [formB_eq]
  have k : (f.kids.map Fm.d).all formB = true := by
    rw [List.all_eq_true]
    intro x hx
    obtain ⟨g, hg, rfl⟩ := List.mem_map.mp hx
    exact ih g hg (ok.kid hg)
  have g := ok.good
  cases f with
  | ge c ps => simp [Fm.d, atomB, (show IsTm ps from g).termB c]
  | eq c ps => simp [Fm.d, atomB, (show IsTm ps from g).termB c]
  | dv m c ps => simp [Fm.d, atomB, (show IsTm ps from g.2).termB c, show 2 ≤ m from g.1]
  | tru => simp (decide := true) [Fm.d, innerB, innerW]
  | fls => simp (decide := true) [Fm.d, innerB, innerW]
  | and fs => rw [show (Fm.and fs).kids = fs from rfl] at k; simp (decide := true) [Fm.d, innerB, innerW, Fm.ds_eq, k]
  | or fs => rw [show (Fm.or fs).kids = fs from rfl] at k; simp (decide := true) [Fm.d, innerB, innerW, Fm.ds_eq, k]
  | ex v f => have : isIdx (.int v) = true := by simpa [isIdx] using (show 0 ≤ v from g)
              simp [Fm.kids] at k; simp (decide := true) [Fm.d, innerB, innerW, this, k]
  | all v f => have : isIdx (.int v) = true := by simpa [isIdx] using (show 0 ≤ v from g)
               simp [Fm.kids] at k; simp (decide := true) [Fm.d, innerB, innerW, this, k]
  | _ => simp [Fm.kids] at k; simp (decide := true) [Fm.d, innerB, innerW, k]
/-- formulas of at most s parts, in variables up to m, with at most four pairs in each atom -/
structure DF (m : Int) (s : Nat) (f : Fm) : Prop where
  ok : f.Ok
  sz : f.size ≤ s
  dp : f.deep ≤ s
  bg : big f.d ≤ 60 * s
  pl : (f.atoms.map fun a => a.pairs.length).sum ≤ 4 * s
  av : ∀ a ∈ f.atoms, ∀ p ∈ a.pairs, 0 ≤ p.1 ∧ p.1 ≤ m
  bd : ∀ v ∈ f.bound, 0 ≤ v ∧ v ≤ m
  sm : ∀ a ∈ f.atoms, a.smallA = true
section
variable {m : Int} {s t : Nat} {f g : Fm}
theorem deep1 (f : Fm) (h : f.kids = []) : f.deep = 1 := by rw [Fm.deep_kids, h]; rfl
theorem size1 (f : Fm) (h : f.kids = []) : f.size = 1 := by rw [Fm.size_kids, h]; rfl
theorem DF.tru (hs : 1 ≤ s) : DF m s .tru where
  ok := .mk trivial (by simp [Fm.kids])
  sz := by rw [size1 _ rfl]; exact hs
  dp := by rw [deep1 _ rfl]; exact hs
  bg := by simp only [Fm.d, big, bigs]; omega
  pl := by simp [Fm.atoms]
  av := by simp [Fm.atoms]
  bd := by simp [Fm.bound]
  sm := by simp [Fm.atoms]
theorem DF.atom (ha : f.isAtom = true) (ok : f.Ok) (h1 : 1 ≤ s) (hl : f.pairs.length ≤ 4) (hp : ∀ p ∈ f.pairs, 0 ≤ p.1 ∧ p.1 ≤ m) (hs : f.smallA = true) : DF m s f := by
  have hk : f.kids = [] := by cases f <;> first | rfl | cases ha
  refine ⟨ok, by rw [size1 _ hk]; exact h1, by rw [deep1 _ hk]; exact h1, ?_, by rw [Fm.atoms_self f ha]; simp; omega, fun a h p q => ?_, fun v h => ?_, fun a h => ?_⟩
  · cases f <;> first | (cases ha; done) | (simp only [Fm.d, big, bigs, big_tm]; simp only [Fm.pairs] at hl; omega)
  · rw [Fm.atoms_self f ha, List.mem_singleton] at h
    subst h; exact hp p q
  · cases f <;> first | (cases ha; done) | simp [Fm.bound] at h
  · rw [Fm.atoms_self f ha, List.mem_singleton] at h
    subst h; exact hs
theorem DF.not (h : DF m s f) : DF m (s + 1) (.not f) where
  ok := .mk trivial (by intro g hg; simp [Fm.kids] at hg; subst hg; exact h.ok)
  sz := by have := h.sz; simp only [Fm.size]; omega
  dp := by have := h.dp; rw [Fm.deep_kids]; simp only [Fm.kids, List.map_cons, List.map_nil, maxN, List.foldr_cons, List.foldr_nil]; omega
  bg := by have := h.bg; simp only [Fm.d, big, bigs]; omega
  pl := by have := h.pl; simp only [Fm.atoms]; omega
  av := by simpa only [Fm.atoms] using h.av
  bd := by simpa only [Fm.bound] using h.bd
  sm := by simpa only [Fm.atoms] using h.sm
theorem DF.ex {v : Int} (h : DF m s f) (h0 : 0 ≤ v) (h1 : v ≤ m) : DF m (s + 1) (.ex v f) where
  ok := .mk h0 (by intro g hg; simp [Fm.kids] at hg; subst hg; exact h.ok)
  sz := by have := h.sz; simp only [Fm.size]; omega
  dp := by have := h.dp; rw [Fm.deep_kids]; simp only [Fm.kids, List.map_cons, List.map_nil, maxN, List.foldr_cons, List.foldr_nil]; omega
  bg := by have := h.bg; simp only [Fm.d, big, bigs]; omega
  pl := by have := h.pl; simp only [Fm.atoms]; omega
  av := by simpa only [Fm.atoms] using h.av
  bd := by simp only [Fm.bound]; intro w hw; rcases List.mem_cons.mp hw with rfl | hw <;> first | exact ⟨h0, h1⟩ | exact h.bd w hw
  sm := by simpa only [Fm.atoms] using h.sm
theorem DF.all {v : Int} (h : DF m s f) (h0 : 0 ≤ v) (h1 : v ≤ m) : DF m (s + 1) (.all v f) where
  ok := .mk h0 (by intro g hg; simp [Fm.kids] at hg; subst hg; exact h.ok)
  sz := by have := h.sz; simp only [Fm.size]; omega
  dp := by have := h.dp; rw [Fm.deep_kids]; simp only [Fm.kids, List.map_cons, List.map_nil, maxN, List.foldr_cons, List.foldr_nil]; omega
  bg := by have := h.bg; simp only [Fm.d, big, bigs]; omega
  pl := by have := h.pl; simp only [Fm.atoms]; omega
  av := by simpa only [Fm.atoms] using h.av
  bd := by simp only [Fm.bound]; intro w hw; rcases List.mem_cons.mp hw with rfl | hw <;> first | exact ⟨h0, h1⟩ | exact h.bd w hw
  sm := by simpa only [Fm.atoms] using h.sm
theorem DF.imp (h : DF m s f) (k : DF m t g) : DF m (s + t + 1) (.imp f g) where
  ok := .mk trivial (by intro x hx; simp [Fm.kids] at hx; rcases hx with rfl | rfl <;> first | exact h.ok | exact k.ok)
  sz := by have := h.sz; have := k.sz; simp only [Fm.size]; omega
  dp := by have := h.dp; have := k.dp; rw [Fm.deep_kids]; simp only [Fm.kids, List.map_cons, List.map_nil, maxN, List.foldr_cons, List.foldr_nil]; omega
  bg := by have := h.bg; have := k.bg; simp only [Fm.d, big, bigs]; omega
  pl := by have := h.pl; have := k.pl; simp only [Fm.atoms, List.map_append, List.sum_append]; omega
  av := by simp only [Fm.atoms]; intro a ha; rcases List.mem_append.mp ha with ha | ha <;> first | exact h.av a ha | exact k.av a ha
  bd := by simp only [Fm.bound]; intro a ha; rcases List.mem_append.mp ha with ha | ha <;> first | exact h.bd a ha | exact k.bd a ha
  sm := by simp only [Fm.atoms]; intro a ha; rcases List.mem_append.mp ha with ha | ha <;> first | exact h.sm a ha | exact k.sm a ha
theorem DF.iff (h : DF m s f) (k : DF m t g) : DF m (s + t + 1) (.iff f g) where
  ok := .mk trivial (by intro x hx; simp [Fm.kids] at hx; rcases hx with rfl | rfl <;> first | exact h.ok | exact k.ok)
  sz := by have := h.sz; have := k.sz; simp only [Fm.size]; omega
  dp := by have := h.dp; have := k.dp; rw [Fm.deep_kids]; simp only [Fm.kids, List.map_cons, List.map_nil, maxN, List.foldr_cons, List.foldr_nil]; omega
  bg := by have := h.bg; have := k.bg; simp only [Fm.d, big, bigs]; omega
  pl := by have := h.pl; have := k.pl; simp only [Fm.atoms, List.map_append, List.sum_append]; omega
  av := by simp only [Fm.atoms]; intro a ha; rcases List.mem_append.mp ha with ha | ha <;> first | exact h.av a ha | exact k.av a ha
  bd := by simp only [Fm.bound]; intro a ha; rcases List.mem_append.mp ha with ha | ha <;> first | exact h.bd a ha | exact k.bd a ha
  sm := by simp only [Fm.atoms]; intro a ha; rcases List.mem_append.mp ha with ha | ha <;> first | exact h.sm a ha | exact k.sm a ha
theorem DF.and2 (h : DF m s f) (k : DF m t g) : DF m (s + t + 1) (.and [f, g]) where
  ok := .mk trivial (by intro x hx; simp [Fm.kids] at hx; rcases hx with rfl | rfl <;> first | exact h.ok | exact k.ok)
  sz := by have := h.sz; have := k.sz; simp only [Fm.size, Fm.sizes]; omega
  dp := by have := h.dp; have := k.dp; rw [Fm.deep_kids]; simp only [Fm.kids, List.map_cons, List.map_nil, maxN, List.foldr_cons, List.foldr_nil]; omega
  bg := by have := h.bg; have := k.bg; simp only [Fm.d, Fm.ds, big, bigs]; omega
  pl := by have := h.pl; have := k.pl; simp only [Fm.atoms, Fm.atomss, List.append_nil, List.map_append, List.sum_append]; omega
  av := by simp only [Fm.atoms, Fm.atomss, List.append_nil]; intro a ha; rcases List.mem_append.mp ha with ha | ha <;> first | exact h.av a ha | exact k.av a ha
  bd := by simp only [Fm.bound, Fm.bounds, List.append_nil]; intro a ha; rcases List.mem_append.mp ha with ha | ha <;> first | exact h.bd a ha | exact k.bd a ha
  sm := by simp only [Fm.atoms, Fm.atomss, List.append_nil]; intro a ha; rcases List.mem_append.mp ha with ha | ha <;> first | exact h.sm a ha | exact k.sm a ha
theorem DF.or2 (h : DF m s f) (k : DF m t g) : DF m (s + t + 1) (.or [f, g]) where
  ok := .mk trivial (by intro x hx; simp [Fm.kids] at hx; rcases hx with rfl | rfl <;> first | exact h.ok | exact k.ok)
  sz := by have := h.sz; have := k.sz; simp only [Fm.size, Fm.sizes]; omega
  dp := by have := h.dp; have := k.dp; rw [Fm.deep_kids]; simp only [Fm.kids, List.map_cons, List.map_nil, maxN, List.foldr_cons, List.foldr_nil]; omega
  bg := by have := h.bg; have := k.bg; simp only [Fm.d, Fm.ds, big, bigs]; omega
  pl := by have := h.pl; have := k.pl; simp only [Fm.atoms, Fm.atomss, List.append_nil, List.map_append, List.sum_append]; omega
  av := by simp only [Fm.atoms, Fm.atomss, List.append_nil]; intro a ha; rcases List.mem_append.mp ha with ha | ha <;> first | exact h.av a ha | exact k.av a ha
  bd := by simp only [Fm.bound, Fm.bounds, List.append_nil]; intro a ha; rcases List.mem_append.mp ha with ha | ha <;> first | exact h.bd a ha | exact k.bd a ha
  sm := by simp only [Fm.atoms, Fm.atomss, List.append_nil]; intro a ha; rcases List.mem_append.mp ha with ha | ha <;> first | exact h.sm a ha | exact k.sm a ha
theorem DF.mono (h : DF m s f) (q : s ≤ t) : DF m t f :=
  ⟨h.ok, Nat.le_trans h.sz q, Nat.le_trans h.dp q, by have := h.bg; omega, by have := h.pl; omega, h.av, h.bd, h.sm⟩
/-- such formulas are small -/
theorem DF.small (h : DF m s f) (hm : m ≤ 9) (hs : s ≤ 12) : f.small = true := by
  unfold Fm.small
  simp only [Bool.and_eq_true, decide_eq_true_eq, List.all_eq_true]
  refine ⟨⟨⟨by have := h.sz; omega, by have := h.dp; omega⟩, fun v hv => ?_⟩, h.sm⟩
  unfold Fm.names Fm.vars at hv
  rw [ssI_mem, List.mem_append] at hv
  rcases hv with hv | hv
  · obtain ⟨a, ha, hv⟩ := List.mem_flatMap.mp hv
    obtain ⟨p, hp, rfl⟩ := List.mem_map.mp hv
    exact Int.le_trans (h.av a ha p hp).2 hm
  · exact Int.le_trans (h.bd v hv).2 hm
/-- as DF, and at most e deep -/
def DG (m : Int) (s e : Nat) (f : Fm) : Prop := DF m s f ∧ f.deep ≤ e
theorem DG.small {e : Nat} (h : DG m s e f) (hm : m ≤ 9) (hs : s ≤ 60) (he : e ≤ 12) : f.small = true := by
  obtain ⟨h, hd⟩ := h
  unfold Fm.small
  simp only [Bool.and_eq_true, decide_eq_true_eq, List.all_eq_true]
  refine ⟨⟨⟨by have := h.sz; omega, by omega⟩, fun v hv => ?_⟩, h.sm⟩
  unfold Fm.names Fm.vars at hv
  rw [ssI_mem, List.mem_append] at hv
  rcases hv with hv | hv
  · obtain ⟨a, ha, hv⟩ := List.mem_flatMap.mp hv
    obtain ⟨p, hp, rfl⟩ := List.mem_map.mp hv
    exact Int.le_trans (h.av a ha p hp).2 hm
  · exact Int.le_trans (h.bd v hv).2 hm
theorem DG.mono {s' e e' : Nat} (h : DG m s e f) (a : s ≤ s') (b : e ≤ e') : DG m s' e' f := ⟨h.1.mono a, Nat.le_trans h.2 b⟩
theorem DG.not {e : Nat} (h : DG m s e f) : DG m (s + 1) (e + 1) (.not f) :=
  ⟨h.1.not, by have := h.2; rw [Fm.deep_kids]; simp only [Fm.kids, List.map_cons, List.map_nil, maxN, List.foldr_cons, List.foldr_nil]; omega⟩
theorem DG.ex {e : Nat} {v : Int} (h : DG m s e f) (h0 : 0 ≤ v) (h1 : v ≤ m) : DG m (s + 1) (e + 1) (.ex v f) :=
  ⟨h.1.ex h0 h1, by have := h.2; rw [Fm.deep_kids]; simp only [Fm.kids, List.map_cons, List.map_nil, maxN, List.foldr_cons, List.foldr_nil]; omega⟩
theorem DG.all {e : Nat} {v : Int} (h : DG m s e f) (h0 : 0 ≤ v) (h1 : v ≤ m) : DG m (s + 1) (e + 1) (.all v f) :=
  ⟨h.1.all h0 h1, by have := h.2; rw [Fm.deep_kids]; simp only [Fm.kids, List.map_cons, List.map_nil, maxN, List.foldr_cons, List.foldr_nil]; omega⟩
theorem DG.imp {e : Nat} (h : DG m s e f) (k : DG m t e g) : DG m (s + t + 1) (e + 1) (.imp f g) :=
  ⟨h.1.imp k.1, by have := h.2; have := k.2; rw [Fm.deep_kids]; simp only [Fm.kids, List.map_cons, List.map_nil, maxN, List.foldr_cons, List.foldr_nil]; omega⟩
theorem DG.iff {e : Nat} (h : DG m s e f) (k : DG m t e g) : DG m (s + t + 1) (e + 1) (.iff f g) :=
  ⟨h.1.iff k.1, by have := h.2; have := k.2; rw [Fm.deep_kids]; simp only [Fm.kids, List.map_cons, List.map_nil, maxN, List.foldr_cons, List.foldr_nil]; omega⟩
theorem DG.and2 {e : Nat} (h : DG m s e f) (k : DG m t e g) : DG m (s + t + 1) (e + 1) (.and [f, g]) :=
  ⟨h.1.and2 k.1, by have := h.2; have := k.2; rw [Fm.deep_kids]; simp only [Fm.kids, List.map_cons, List.map_nil, maxN, List.foldr_cons, List.foldr_nil]; omega⟩
theorem DG.or2 {e : Nat} (h : DG m s e f) (k : DG m t e g) : DG m (s + t + 1) (e + 1) (.or [f, g]) :=
  ⟨h.1.or2 k.1, by have := h.2; have := k.2; rw [Fm.deep_kids]; simp only [Fm.kids, List.map_cons, List.map_nil, maxN, List.foldr_cons, List.foldr_nil]; omega⟩
end
end Py

/-! programs: what they are as values -/
namespace Py
open PySem PySem.Spec PyProof.Rows L2
inductive Pg where
  | leaf (w : Str) (r : List D) | seq (ps : List Pg) | cho (ps : List Pg) | ite (g : D) (p q : Pg) | whl (g i : D) (p : Pg)
mutual
def Pg.d : Pg → D
  | .leaf w r => .tuple (.str w :: r)
  | .seq ps => .tuple [.str "seq", .tuple (Pg.ds ps)]
  | .cho ps => .tuple [.str "choice", .tuple (Pg.ds ps)]
  | .ite g p q => .tuple [.str "if", g, p.d, q.d]
  | .whl g i p => .tuple [.str "while", g, i, p.d]
def Pg.ds : List Pg → List D
  | [] => []
  | p :: r => p.d :: Pg.ds r
end
theorem Pg.ds_eq : ∀ ps : List Pg, Pg.ds ps = ps.map Pg.d
  | [] => by rw [Pg.ds]; rfl
  | p :: r => by rw [Pg.ds, Pg.ds_eq r]; rfl
def Pg.kids : Pg → List Pg
  | .leaf _ _ => []
  | .seq ps => ps
  | .cho ps => ps
  | .ite _ p q => [p, q]
  | .whl _ _ p => [p]
mutual
def Pg.size : Pg → Nat
  | .leaf _ _ => 1
  | .seq ps => Pg.sizes ps + 1
  | .cho ps => Pg.sizes ps + 1
  | .ite _ p q => p.size + q.size + 1
  | .whl _ _ p => p.size + 1
def Pg.sizes : List Pg → Nat
  | [] => 0
  | p :: r => p.size + Pg.sizes r
end
theorem Pg.sizes_eq : ∀ ps : List Pg, Pg.sizes ps = (ps.map Pg.size).sum
  | [] => by rw [Pg.sizes]; rfl
  | p :: r => by rw [Pg.sizes, Pg.sizes_eq r]; rfl
theorem Pg.size_kids (p : Pg) : p.size = (p.kids.map Pg.size).sum + 1 := by
  cases p <;> simp [Pg.size, Pg.kids, Pg.sizes_eq]
theorem Pg.size_pos (p : Pg) : 1 ≤ p.size := by rw [Pg.size_kids]; omega
theorem Pg.size_kid {p q : Pg} (h : q ∈ p.kids) : q.size < p.size := by
  rw [Pg.size_kids p]
  have := sum_mem (List.mem_map.mpr ⟨q, h, rfl⟩ : q.size ∈ p.kids.map Pg.size)
  omega
theorem Pg.ind {P : Pg → Prop} (h : ∀ p : Pg, (∀ q ∈ p.kids, P q) → P p) : ∀ p : Pg, P p := by
  have : ∀ (n : Nat) (p : Pg), p.size ≤ n → P p := by
    intro n
    induction n with
    | zero => intro f hf; have := f.size_pos; omega
    | succ n ih => intro f hf; exact h f fun g hg => ih g (by have := Pg.size_kid hg; omega)
  exact fun f => this f.size f (Nat.le_refl _)
theorem Pg.kids_len (p : Pg) : p.kids.length ≤ p.size := by
  rw [Pg.size_kids]
  have : ∀ l : List Pg, l.length ≤ (l.map Pg.size).sum := fun l => by
    induction l with
    | nil => simp
    | cons x r ih => have := x.size_pos; simp; omega
  have := this p.kids
  omega
mutual
def Pg.deep : Pg → Nat
  | .leaf _ _ => 1
  | .seq ps => Pg.deeps ps + 1
  | .cho ps => Pg.deeps ps + 1
  | .ite _ p q => max p.deep q.deep + 1
  | .whl _ _ p => p.deep + 1
def Pg.deeps : List Pg → Nat
  | [] => 0
  | p :: r => max p.deep (Pg.deeps r)
end
theorem Pg.deeps_mem {p : Pg} : ∀ {ps : List Pg}, p ∈ ps → p.deep ≤ Pg.deeps ps
  | q :: r, h => by
    rw [Pg.deeps]
    rcases List.mem_cons.mp h with rfl | h
    · omega
    · have := Pg.deeps_mem h; omega
theorem Pg.deeps_le {n : Nat} : ∀ {ps : List Pg}, (∀ p ∈ ps, p.deep ≤ n) → Pg.deeps ps ≤ n
  | [], _ => by rw [Pg.deeps]; omega
  | q :: r, h => by
    rw [Pg.deeps]
    have := Pg.deeps_le (ps := r) fun p hp => h p (List.mem_cons_of_mem _ hp)
    have := h q List.mem_cons_self
    omega
theorem Pg.deep_kid {p q : Pg} (h : q ∈ p.kids) : q.deep < p.deep := by
  cases p with
  | leaf w r => simp [Pg.kids] at h
  | seq ps => have := Pg.deeps_mem (show q ∈ ps from h); rw [Pg.deep]; omega
  | cho ps => have := Pg.deeps_mem (show q ∈ ps from h); rw [Pg.deep]; omega
  | ite g a b => simp [Pg.kids] at h; rw [Pg.deep]; rcases h with rfl | rfl <;> omega
  | whl g i a => simp [Pg.kids] at h; rw [Pg.deep]; subst h; omega
theorem Pg.deep_pos (p : Pg) : 1 ≤ p.deep := by cases p <;> rw [Pg.deep] <;> omega
/-- what is asked of each part -/
def Pg.good1 (L : Str → List D → Prop) (Gd Iv : D → Prop) : Pg → Prop
  | .leaf w r => L w r
  | .seq _ => True
  | .cho ps => ps ≠ []
  | .ite g _ _ => Gd g
  | .whl g i _ => Gd g ∧ Iv i
inductive Pg.Ok (L : Str → List D → Prop) (Gd Iv : D → Prop) : Pg → Prop
  | mk {p : Pg} (h : p.good1 L Gd Iv) (k : ∀ q ∈ p.kids, Pg.Ok L Gd Iv q) : Pg.Ok L Gd Iv p
section
variable {L : Str → List D → Prop} {Gd Iv : D → Prop}
theorem Pg.Ok.good {p : Pg} (h : p.Ok L Gd Iv) : p.good1 L Gd Iv := by cases h with | mk a _ => exact a
theorem Pg.Ok.kid {p q : Pg} (h : p.Ok L Gd Iv) (hq : q ∈ p.kids) : q.Ok L Gd Iv := by cases h with | mk _ b => exact b q hq
end
/-! ### loops unrolled -/
def skipP : Pg := .leaf "skip" []
def loopU (g : D) (b : Pg) : Nat → Pg
  | 0 => .leaf "assume" [.tuple [.str "not", g]]
  | n + 1 => .ite g (.seq [b, loopU g b n]) skipP
mutual
def Pg.unr (c : Nat) : Pg → Pg
  | .leaf w r => .leaf w r
  | .seq ps => .seq (Pg.unrs c ps)
  | .cho ps => .cho (Pg.unrs c ps)
  | .ite g p q => .ite g (Pg.unr c p) (Pg.unr c q)
  | .whl g _ p => loopU g (Pg.unr c p) c
def Pg.unrs (c : Nat) : List Pg → List Pg
  | [] => []
  | p :: r => Pg.unr c p :: Pg.unrs c r
end
theorem Pg.unrs_eq (c : Nat) : ∀ ps : List Pg, Pg.unrs c ps = ps.map (Pg.unr c)
  | [] => by rw [Pg.unrs]; rfl
  | p :: r => by rw [Pg.unrs, Pg.unrs_eq c r]; rfl
mutual
def Pg.cnt (c : Nat) : Pg → Nat
  | .leaf _ _ => 1
  | .seq ps => Pg.cnts c ps + 1
  | .cho ps => Pg.cnts c ps + 1
  | .ite _ p q => p.cnt c + q.cnt c + 1
  | .whl _ _ p => c * (p.cnt c + 3) + 1
def Pg.cnts (c : Nat) : List Pg → Nat
  | [] => 0
  | p :: r => p.cnt c + Pg.cnts c r
end
theorem Pg.cnts_eq (c : Nat) : ∀ ps : List Pg, Pg.cnts c ps = (ps.map (Pg.cnt c)).sum
  | [] => by rw [Pg.cnts]; rfl
  | p :: r => by rw [Pg.cnts, Pg.cnts_eq c r]; rfl
def Pg.isW : Pg → Bool
  | .whl _ _ _ => true
  | _ => false
theorem Pg.cnt_kids (c : Nat) (p : Pg) : p.cnt c = if p.isW = true then c * ((p.kids.map (Pg.cnt c)).sum + 3) + 1 else (p.kids.map (Pg.cnt c)).sum + 1 := by
  cases p <;> simp [Pg.cnt, Pg.kids, Pg.cnts_eq, Pg.isW]
/-! how deep the value goes: leaves 7, guards 4 -/
mutual
def Pg.ud (c : Nat) : Pg → Nat
  | .leaf _ _ => 7
  | .seq ps => Pg.uds c ps + 2
  | .cho ps => Pg.uds c ps + 2
  | .ite _ p q => max (max (p.ud c) (q.ud c)) 7 + 1
  | .whl _ _ p => max (p.ud c) 7 + 3 * c
def Pg.uds (c : Nat) : List Pg → Nat
  | [] => 0
  | p :: r => max (p.ud c) (Pg.uds c r)
end
theorem Pg.uds_mem {c : Nat} {p : Pg} : ∀ {ps : List Pg}, p ∈ ps → p.ud c ≤ Pg.uds c ps
  | q :: r, h => by
    rw [Pg.uds]
    rcases List.mem_cons.mp h with rfl | h
    · omega
    · have := Pg.uds_mem (c := c) h; omega
theorem Pg.uds_le {c n : Nat} : ∀ {ps : List Pg}, (∀ p ∈ ps, p.ud c ≤ n) → Pg.uds c ps ≤ n
  | [], _ => by rw [Pg.uds]; omega
  | q :: r, h => by
    rw [Pg.uds]
    have := Pg.uds_le (ps := r) fun p hp => h p (List.mem_cons_of_mem _ hp)
    have := h q List.mem_cons_self
    omega
theorem depthAll_le {n : Nat} : ∀ {ds : List D}, (∀ d ∈ ds, d.depth ≤ n) → PyData.depthAll ds ≤ n
  | [], _ => by simp [PyData.depthAll]
  | x :: r, h => by
    rw [PyData.depthAll]
    have := depthAll_le (ds := r) fun p hp => h p (List.mem_cons_of_mem _ hp)
    have := h x List.mem_cons_self
    omega
theorem loopU_depth {g : D} {b : Pg} {n : Nat} (hg : g.depth ≤ 4) (hb : b.d.depth ≤ n) (h7 : 7 ≤ n) : ∀ c : Nat, (loopU g b c).d.depth ≤ n + 3 * c
  | 0 => by simp [loopU, Pg.d, PyData.depth, PyData.depthAll]; omega
  | c + 1 => by
    have := loopU_depth hg hb h7 c
    simp [loopU, Pg.d, Pg.ds, skipP, PyData.depth, PyData.depthAll]; omega
theorem Pg.unr_depth {L : Str → List D → Prop} {Gd Iv : D → Prop} (hL : ∀ w r, L w r → (Pg.leaf w r).d.depth ≤ 7) (hG : ∀ g, Gd g → g.depth ≤ 4) (c : Nat) : ∀ p : Pg, p.Ok L Gd Iv → (p.unr c).d.depth ≤ p.ud c := Pg.ind fun p ih ok => by
  have g := ok.good
  cases p with
  | leaf w r => rw [Pg.unr, Pg.ud]; exact hL w r g
  | seq ps =>
    rw [Pg.unr, Pg.ud, Pg.unrs_eq, Pg.d, Pg.ds_eq, List.map_map]
    have : PyData.depthAll (ps.map (Pg.d ∘ Pg.unr c)) ≤ Pg.uds c ps := depthAll_le fun d hd => by
      obtain ⟨q, hq, rfl⟩ := List.mem_map.mp hd
      exact Nat.le_trans (ih q hq (ok.kid hq)) (Pg.uds_mem hq)
    simp [PyData.depth, PyData.depthAll]; omega
  | cho ps =>
    rw [Pg.unr, Pg.ud, Pg.unrs_eq, Pg.d, Pg.ds_eq, List.map_map]
    have : PyData.depthAll (ps.map (Pg.d ∘ Pg.unr c)) ≤ Pg.uds c ps := depthAll_le fun d hd => by
      obtain ⟨q, hq, rfl⟩ := List.mem_map.mp hd
      exact Nat.le_trans (ih q hq (ok.kid hq)) (Pg.uds_mem hq)
    simp [PyData.depth, PyData.depthAll]; omega
  | ite gd a b =>
    have h1 := ih a (by simp [Pg.kids]) (ok.kid (by simp [Pg.kids]))
    have h2 := ih b (by simp [Pg.kids]) (ok.kid (by simp [Pg.kids]))
    have h3 := hG gd g
    rw [Pg.unr, Pg.ud, Pg.d]
    simp [PyData.depth, PyData.depthAll]; omega
  | whl gd i a =>
    have h1 := ih a (by simp [Pg.kids]) (ok.kid (by simp [Pg.kids]))
    rw [Pg.unr, Pg.ud]
    exact loopU_depth (hG gd g.1) (by omega) (by omega) c
/-- a comprehension over a list of things, each told by itself -/
theorem ev_lcA {α : Type} {G : Gt} {C : Str → List U → List O → R U} {m : Bool} {t : Tg} {w : Wk} {e : Ex} {σ : En} {h h1 : List O} (gs : List α) (f g : α → D) (q : evw G C w σ h = .ok (.fix (gs.map fun a => U.d (f a))) h1) (hl : gs.length ≤ 10000000) (hs : ∀ a ∈ gs, ∃ σ1, asg t (.d (f a)) (wipeE σ t.slots) = some σ1 ∧ ∀ acc, ev G C e σ1 (h1 ++ [.lst acc]) = .ok (.d (g a)) (h1 ++ [.lst acc])) :
    ev G C (.lc m t w .no e) σ h = mkL m (gs.map g) h1 := by
  obtain ⟨ys, hh, e1, ⟨rfl, e2⟩, _⟩ := ev_lcI (m := m) (t := t) (e := e) (σ := σ) (us := gs.map fun a => U.d (f a)) (h1 := h1) (fun pre ys hh => hh = h1 ∧ ys = (gs.take pre.length).map g) (fun pre ys hh z => by rw [z.1]) q ⟨rfl, rfl⟩ (fun pre u r ys hh eq hI => by
    obtain ⟨rfl, rfl⟩ := hI
    obtain ⟨f, rfl, hm, _, ht, _⟩ := map_split eq
    obtain ⟨σ1, a, b⟩ := hs f hm
    exact ⟨σ1, g f, hh, a, ⟨rfl, by rw [List.length_append, List.length_singleton, ht, List.map_append]; rfl⟩, b⟩) (by simpa using hl)
  rw [e1, e2, List.length_map, List.take_length]
end Py

namespace K19
open PySem PySem.Spec PyProof.Rows L2 Py
def top (i : Nat) : Stmt := PySem.Challenge.pw_wholesworn_k19_plans_and_light_formulas.main.body.getD i (.Pass ⟨0, 0, 0, 0⟩)
def b_is_int : Ss :=
 (.cons (.ret (.and (.bi .isi false (.cons (.var 0) (.cons (.ty "int" "int") .nil))) (.one (.not (.bi .isi false (.cons (.var 0) (.cons (.ty "bool" "bool") .nil)))))))
 .nil)
def d_is_int : Df := ⟨([("thing" : Str)] : List Str), ([("thing" : Str)] : List Str), false, b_is_int⟩
def b_within : Ss :=
 (.cons (.ret (.and (.call "is_int" [0] (.cons (.var 0) .nil) .nil) (.one (.chn .le .le (.var 1) (.var 0) (.var 2)))))
 .nil)
def d_within : Df := ⟨([("thing" : Str), ("low" : Str), ("high" : Str)] : List Str), ([("thing" : Str), ("low" : Str), ("high" : Str)] : List Str), false, b_within⟩
def b_is_index : Ss :=
 (.cons (.ret (.and (.call "is_int" [0] (.cons (.var 0) .nil) .nil) (.one (.cmp .ge (.var 0) (.int 0)))))
 .nil)
def d_is_index : Df := ⟨([("thing" : Str)] : List Str), ([("thing" : Str)] : List Str), false, b_is_index⟩
def b_is_row : Ss :=
 (.cons (.ret (.and (.bi .isi false (.cons (.var 0) (.cons (.ty "tuple" "tuple") .nil))) (.one (.chn .le .le (.var 1) (.bi .len false (.cons (.var 0) .nil)) (.var 2)))))
 .nil)
def d_is_row : Df := ⟨([("thing" : Str), ("fewest" : Str), ("most" : Str)] : List Str), ([("thing" : Str), ("fewest" : Str), ("most" : Str)] : List Str), false, b_is_row⟩
def c_is_ascending_0 : Ex := .lc false (.tup (.cons (.nm 1) (.cons (.nm 2) .nil))) (.zip (.cons (.var 0) (.cons (.sl false (.var 0) (.yes (.int 1)) .no) .nil))) .no (.cmp .lt (.var 1) (.var 2))
def b_is_ascending : Ss :=
 (.cons (.ret (.bi .all false (.cons c_is_ascending_0 .nil)))
 .nil)
def d_is_ascending : Df := ⟨([("row" : Str)] : List Str), ([("row" : Str), ("one" : Str), ("other" : Str)] : List Str), false, b_is_ascending⟩
def b_is_pair : Ss :=
 (.cons (.ret (.and (.call "is_row" [0, 1, 2] (.cons (.var 0) (.cons (.int 2) (.cons (.int 2) .nil))) .nil) (.and (.call "is_index" [0] (.cons (.ix (.var 0) (.int 0)) .nil) .nil) (.one (.call "is_int" [0] (.cons (.ix (.var 0) (.int 1)) .nil) .nil)))))
 .nil)
def d_is_pair : Df := ⟨([("thing" : Str)] : List Str), ([("thing" : Str)] : List Str), false, b_is_pair⟩
def c_is_term_0 : Ex := .lc false (.nm 1) (.seq (.ix (.var 0) (.int 1))) .no (.ix (.var 1) (.int 0))
def c_is_term_1 : Ex := .lc false (.nm 1) (.seq (.ix (.var 0) (.int 1))) .no (.and (.call "is_pair" [0] (.cons (.var 1) .nil) .nil) (.one (.cmp .ne (.ix (.var 1) (.int 1)) (.int 0))))
def b_is_term : Ss :=
 (.cons (.ife (.or (.not (.call "is_row" [0, 1, 2] (.cons (.var 0) (.cons (.int 2) (.cons (.int 2) .nil))) .nil)) (.or (.not (.call "is_int" [0] (.cons (.ix (.var 0) (.int 0)) .nil) .nil)) (.one (.not (.bi .isi false (.cons (.ix (.var 0) (.int 1)) (.cons (.ty "tuple" "tuple") .nil))))))) (.cons (.ret (.bl false))
 .nil) .nil)
 (.cons (.ife (.not (.bi .all false (.cons c_is_term_1 .nil))) (.cons (.ret (.bl false))
 .nil) .nil)
 (.cons (.ret (.call "is_ascending" [0] (.cons c_is_term_0 .nil) .nil))
 .nil)))
def d_is_term : Df := ⟨([("thing" : Str)] : List Str), ([("thing" : Str), ("pair" : Str)] : List Str), false, b_is_term⟩
def c_variables_of_0 : Ex := .lc false (.tup (.cons (.nm 1) (.cons (.nm 2) .nil))) (.seq (.ix (.var 0) (.int 1))) .no (.var 1)
def b_variables_of : Ss :=
 (.cons (.ret c_variables_of_0)
 .nil)
def d_variables_of : Df := ⟨([("term" : Str)] : List Str), ([("term" : Str), ("variable" : Str), ("amount" : Str)] : List Str), false, b_variables_of⟩
def b_is_atom : Ss :=
 (.cons (.ife (.or (.not (.call "is_row" [0, 1, 2] (.cons (.var 0) (.cons (.int 2) (.cons (.int 3) .nil))) .nil)) (.or (.not (.bi .isi false (.cons (.ix (.var 0) (.int 0)) (.cons (.ty "str" "str") .nil)))) (.one (.not (.call "is_term" [0] (.cons (.ix (.var 0) (.neg (.int 1))) .nil) .nil))))) (.cons (.ret (.bl false))
 .nil) .nil)
 (.cons (.ife (.cmp .eq (.bi .len false (.cons (.var 0) .nil)) (.int 3)) (.cons (.ret (.and (.cmp .eq (.ix (.var 0) (.int 0)) (.str "div")) (.and (.call "is_int" [0] (.cons (.ix (.var 0) (.int 1)) .nil) .nil) (.one (.cmp .ge (.ix (.var 0) (.int 1)) (.int 2))))))
 .nil) .nil)
 (.cons (.ret (.cmp .in_ (.ix (.var 0) (.int 0)) (.tup (.cons (.str "ge") (.cons (.str "eq") .nil)))))
 .nil)))
def d_is_atom : Df := ⟨([("thing" : Str)] : List Str), ([("thing" : Str)] : List Str), false, b_is_atom⟩
def b_inner_things : Ss :=
 (.cons (.par2 1 2 (.cons (.ix (.var 0) (.int 0)) (.cons (.bi .len false (.cons (.var 0) .nil)) .nil)))
 (.cons (.ife (.cmp .in_ (.var 1) (.tup (.cons (.str "true") (.cons (.str "false") .nil)))) (.cons (.ret (.ife (.cmp .eq (.var 2) (.int 1)) (.tup .nil) .non))
 .nil) .nil)
 (.cons (.ife (.cmp .eq (.var 1) (.str "not")) (.cons (.ret (.ife (.cmp .eq (.var 2) (.int 2)) (.sl false (.var 0) (.yes (.int 1)) .no) .non))
 .nil) .nil)
 (.cons (.ife (.cmp .in_ (.var 1) (.gtup "LISTED")) (.cons (.ret (.ife (.and (.cmp .eq (.var 2) (.int 2)) (.one (.bi .isi false (.cons (.ix (.var 0) (.int 1)) (.cons (.ty "tuple" "tuple") .nil))))) (.ix (.var 0) (.int 1)) .non))
 .nil) .nil)
 (.cons (.ife (.cmp .in_ (.var 1) (.gtup "PAIRED")) (.cons (.ret (.ife (.cmp .eq (.var 2) (.int 3)) (.sl false (.var 0) (.yes (.int 1)) .no) .non))
 .nil) .nil)
 (.cons (.ife (.cmp .in_ (.var 1) (.gtup "QUANTIFIED")) (.cons (.ret (.ife (.and (.cmp .eq (.var 2) (.int 3)) (.one (.call "is_index" [0] (.cons (.ix (.var 0) (.int 1)) .nil) .nil))) (.sl false (.var 0) (.yes (.int 2)) .no) .non))
 .nil) .nil)
 (.cons (.ret .non)
 .nil)))))))
def d_inner_things : Df := ⟨([("thing" : Str)] : List Str), ([("thing" : Str), ("word" : Str), ("many" : Str)] : List Str), false, b_inner_things⟩
def l_is_formula_0 : Ss := (.cons (.set 2 (.me .pop (.var 1) .nil))
 (.cons (.ife (.or (.not (.call "is_row" [0, 1, 2] (.cons (.var 2) (.cons (.int 1) (.cons (.int 3) .nil))) .nil)) (.one (.not (.bi .isi false (.cons (.ix (.var 2) (.int 0)) (.cons (.ty "str" "str") .nil)))))) (.cons (.ret (.bl false))
 .nil) .nil)
 (.cons (.ife (.not (.call "is_atom" [0] (.cons (.var 2) .nil) .nil)) (.cons (.set 3 (.call "inner_things" [0] (.cons (.var 2) .nil) .nil))
 (.cons (.ife (.cmp .is_ (.var 3) .non) (.cons (.ret (.bl false))
 .nil) .nil)
 (.cons (.drop (.me .extend (.var 1) (.cons (.var 3) .nil)))
 .nil))) .nil)
 .nil)))
def f_is_formula_0 : Sm := .wh (.cmp .ne (.var 1) (.lst false .nil)) l_is_formula_0
def b_is_formula : Ss :=
 (.cons (.set 1 (.lst true (.cons (.var 0) .nil)))
 (.cons f_is_formula_0
 (.cons (.ret (.bl true))
 .nil)))
def d_is_formula : Df := ⟨([("thing" : Str)] : List Str), ([("thing" : Str), ("waiting" : Str), ("one" : Str), ("inner" : Str)] : List Str), false, b_is_formula⟩
def b_inner_of : Ss :=
 (.cons (.ife (.cmp .in_ (.ix (.var 0) (.int 0)) (.tup (.cons (.str "ge") (.cons (.str "eq") (.cons (.str "div") .nil))))) (.cons (.ret (.tup .nil))
 .nil) .nil)
 (.cons (.ret (.call "inner_things" [0] (.cons (.var 0) .nil) .nil))
 .nil))
def d_inner_of : Df := ⟨([("formula" : Str)] : List Str), ([("formula" : Str)] : List Str), false, b_inner_of⟩
def c_size_of_0 : Ex := .lc false (.nm 1) (.seq (.call "inner_of" [0] (.cons (.var 0) .nil) .nil)) .no (.call "size_of" [0] (.cons (.var 1) .nil) .nil)
def b_size_of : Ss :=
 (.cons (.ret (.bin .add false (.int 1) (.bi .sum false (.cons c_size_of_0 .nil))))
 .nil)
def d_size_of : Df := ⟨([("formula" : Str)] : List Str), ([("formula" : Str), ("one" : Str)] : List Str), false, b_size_of⟩
def c_depth_of_0 : Ex := .lc false (.nm 1) (.seq (.call "inner_of" [0] (.cons (.var 0) .nil) .nil)) .no (.call "depth_of" [0] (.cons (.var 1) .nil) .nil)
def b_depth_of : Ss :=
 (.cons (.ret (.bin .add false (.int 1) (.mxd c_depth_of_0 (.int 0))))
 .nil)
def d_depth_of : Df := ⟨([("formula" : Str)] : List Str), ([("formula" : Str), ("one" : Str)] : List Str), false, b_depth_of⟩
def c_atoms_of_0 : Ex := .lc2 false (.nm 1) (.seq (.call "inner_of" [0] (.cons (.var 0) .nil) .nil)) .no (.nm 2) (.seq (.call "atoms_of" [0] (.cons (.var 1) .nil) .nil)) .no (.var 2)
def b_atoms_of : Ss :=
 (.cons (.ife (.cmp .in_ (.ix (.var 0) (.int 0)) (.tup (.cons (.str "ge") (.cons (.str "eq") (.cons (.str "div") .nil))))) (.cons (.ret (.lst false (.cons (.var 0) .nil)))
 .nil) .nil)
 (.cons (.ret c_atoms_of_0)
 .nil))
def d_atoms_of : Df := ⟨([("formula" : Str)] : List Str), ([("formula" : Str), ("one" : Str), ("atom" : Str)] : List Str), false, b_atoms_of⟩
def s_names_of_0 : Sm := .slc2 1 false (.nm 2) (.seq (.call "atoms_of" [0] (.cons (.var 0) .nil) .nil)) .no (.nm 3) (.seq (.call "variables_of" [0] (.cons (.ix (.var 2) (.neg (.int 1))) .nil) .nil)) .no (.var 3)
def b_names_of : Ss :=
 (.cons s_names_of_0
 (.cons (.ret (.bi .tuple false (.cons (.ss false (.bin .add false (.var 1) (.call "bound_names" [0] (.cons (.var 0) .nil) .nil))) .nil)))
 .nil))
def d_names_of : Df := ⟨([("formula" : Str)] : List Str), ([("formula" : Str), ("found" : Str), ("atom" : Str), ("variable" : Str)] : List Str), false, b_names_of⟩
def c_bound_names_0 : Ex := .lc2 false (.nm 2) (.seq (.call "inner_of" [0] (.cons (.var 0) .nil) .nil)) .no (.nm 3) (.seq (.call "bound_names" [0] (.cons (.var 2) .nil) .nil)) .no (.var 3)
def b_bound_names : Ss :=
 (.cons (.set 1 (.ife (.cmp .in_ (.ix (.var 0) (.int 0)) (.gtup "QUANTIFIED")) (.lst false (.cons (.ix (.var 0) (.int 1)) .nil)) (.lst false .nil)))
 (.cons (.ret (.bin .add false (.var 1) c_bound_names_0))
 .nil))
def d_bound_names : Df := ⟨([("formula" : Str)] : List Str), ([("formula" : Str), ("own" : Str), ("one" : Str), ("variable" : Str)] : List Str), false, b_bound_names⟩
def c_is_small_atom_0 : Ex := .lc false (.tup (.cons (.nm 3) (.cons (.nm 4) .nil))) (.seq (.var 2)) .no (.cmp .le (.bi .abs false (.cons (.var 4) .nil)) (.gint "GREATEST" (1000)))
def b_is_small_atom : Ss :=
 (.cons (.tup (.tup (.cons (.nm 1) (.cons (.nm 2) .nil))) (.ix (.var 0) (.neg (.int 1))))
 (.cons (.ife (.or (.and (.cmp .eq (.ix (.var 0) (.int 0)) (.str "div")) (.one (.cmp .gt (.ix (.var 0) (.int 1)) (.gint "GREATEST_DIVISOR" (60))))) (.one (.cmp .gt (.bi .abs false (.cons (.var 1) .nil)) (.gint "GREATEST" (1000))))) (.cons (.ret (.bl false))
 .nil) .nil)
 (.cons (.ret (.bi .all false (.cons c_is_small_atom_0 .nil)))
 .nil)))
def d_is_small_atom : Df := ⟨([("atom" : Str)] : List Str), ([("atom" : Str), ("constant" : Str), ("pairs" : Str), ("variable" : Str), ("amount" : Str)] : List Str), false, b_is_small_atom⟩
def c_is_small_0 : Ex := .lc false (.nm 1) (.seq (.call "atoms_of" [0] (.cons (.var 0) .nil) .nil)) .no (.call "is_small_atom" [0] (.cons (.var 1) .nil) .nil)
def c_is_small_1 : Ex := .lc false (.nm 2) (.seq (.call "names_of" [0] (.cons (.var 0) .nil) .nil)) .no (.cmp .le (.var 2) (.gint "LAST_VARIABLE" (9)))
def b_is_small : Ss :=
 (.cons (.ife (.or (.not (.call "is_formula" [0] (.cons (.var 0) .nil) .nil)) (.or (.cmp .gt (.call "size_of" [0] (.cons (.var 0) .nil) .nil) (.gint "MOST_PARTS" (60))) (.one (.cmp .gt (.call "depth_of" [0] (.cons (.var 0) .nil) .nil) (.gint "MOST_DEEP" (12)))))) (.cons (.ret (.bl false))
 .nil) .nil)
 (.cons (.ife (.not (.bi .all false (.cons c_is_small_1 .nil))) (.cons (.ret (.bl false))
 .nil) .nil)
 (.cons (.ret (.bi .all false (.cons c_is_small_0 .nil)))
 .nil)))
def d_is_small : Df := ⟨([("thing" : Str)] : List Str), ([("thing" : Str), ("atom" : Str), ("variable" : Str)] : List Str), false, b_is_small⟩
def b_need_formula : Ss :=
 (.cons (.ife (.not (.call "is_small" [0] (.cons (.var 0) .nil) .nil)) (.cons (.rais "BadFormula")
 .nil) .nil)
 .nil)
def d_need_formula : Df := ⟨([("formula" : Str)] : List Str), ([("formula" : Str)] : List Str), false, b_need_formula⟩
def b_is_plan : Ss :=
 (.cons (.ife (.or (.not (.call "is_row" [0, 1, 2] (.cons (.var 0) (.cons (.int 2) (.cons (.int 2) .nil))) .nil)) (.one (.not (.bi .isi false (.cons (.ix (.var 0) (.int 0)) (.cons (.ty "str" "str") .nil)))))) (.cons (.ret (.bl false))
 .nil) .nil)
 (.cons (.ret (.and (.cmp .in_ (.ix (.var 0) (.int 0)) (.gtup "SIDES")) (.one (.call "within" [0, 1, 2] (.cons (.ix (.var 0) (.int 1)) (.cons (.int 0) (.cons (.gint "MOST_SPREAD" (64)) .nil))) .nil))))
 .nil))
def d_is_plan : Df := ⟨([("thing" : Str)] : List Str), ([("thing" : Str)] : List Str), false, b_is_plan⟩
def l_atoms_by_0 : Ss := (.cons (.drop (.me .extend (.var 2) (.cons (.call "atoms_by" [0, 1] (.cons (.var 3) (.cons (.ife (.cmp .eq (.ix (.var 0) (.int 0)) (.str "iff")) (.bin .mul false (.int 2) (.var 1)) (.var 1)) .nil)) .nil) .nil)))
 .nil)
def f_atoms_by_0 : Sm := .fo (.nm 3) (.seq (.call "inner_of" [0] (.cons (.var 0) .nil) .nil)) l_atoms_by_0
def b_atoms_by : Ss :=
 (.cons (.ife (.cmp .in_ (.ix (.var 0) (.int 0)) (.tup (.cons (.str "ge") (.cons (.str "eq") (.cons (.str "div") .nil))))) (.cons (.ret (.lst false (.cons (.tup (.cons (.var 0) (.cons (.var 1) .nil))) .nil)))
 .nil) .nil)
 (.cons (.set 2 (.lst true .nil))
 (.cons f_atoms_by_0
 (.cons (.ret (.var 2))
 .nil))))
def d_atoms_by : Df := ⟨([("formula" : Str), ("often" : Str)] : List Str), ([("formula" : Str), ("often" : Str), ("found" : Str), ("one" : Str)] : List Str), false, b_atoms_by⟩
def c_nesting_0 : Ex := .lc false (.nm 2) (.seq (.call "inner_of" [0] (.cons (.var 0) .nil) .nil)) .no (.call "nesting" [0] (.cons (.var 2) .nil) .nil)
def b_nesting : Ss :=
 (.cons (.set 1 (.mxd c_nesting_0 (.int 0)))
 (.cons (.ret (.ife (.cmp .in_ (.ix (.var 0) (.int 0)) (.gtup "QUANTIFIED")) (.bin .add false (.var 1) (.int 1)) (.var 1)))
 .nil))
def d_nesting : Df := ⟨([("formula" : Str)] : List Str), ([("formula" : Str), ("most" : Str), ("one" : Str)] : List Str), false, b_nesting⟩
def c_are_within_0 : Ex := .lc false (.tup (.cons (.nm 4) (.cons (.nm 5) .nil))) (.seq (.ix (.ix (.var 3) (.neg (.int 1))) (.int 1))) .no (.cmp .gt (.bi .abs false (.cons (.var 5) .nil)) (.var 1))
def l_are_within_0 : Ss := (.cons (.ife (.bi .any false (.cons c_are_within_0 .nil)) (.cons (.ret (.bl false))
 .nil) .nil)
 (.cons (.ife (.and (.cmp .eq (.ix (.var 3) (.int 0)) (.str "div")) (.one (.cmp .nin (.ix (.var 3) (.int 1)) (.var 2)))) (.cons (.ret (.bl false))
 .nil) .nil)
 .nil))
def f_are_within_0 : Sm := .fo (.nm 3) (.seq (.var 0)) l_are_within_0
def b_are_within : Ss :=
 (.cons f_are_within_0
 (.cons (.ret (.bl true))
 .nil))
def d_are_within : Df := ⟨([("atoms" : Str), ("most" : Str), ("divisors" : Str)] : List Str), ([("atoms" : Str), ("most" : Str), ("divisors" : Str), ("atom" : Str), ("variable" : Str), ("number" : Str)] : List Str), false, b_are_within⟩
def c_is_light_one_0 : Ex := .lc false (.tup (.cons (.nm 4) (.cons (.nm 5) .nil))) (.seq (.var 1)) .no (.var 4)
def c_is_light_one_1 : Ex := .lc false (.tup (.cons (.nm 4) (.cons (.nm 5) .nil))) (.seq (.var 1)) .no (.var 5)
def b_is_light_one : Ss :=
 (.cons (.set 1 (.call "atoms_by" [0, 1] (.cons (.var 0) (.cons (.int 1) .nil)) .nil))
 (.cons (.par2 2 3 (.cons (.bi .sum false (.cons c_is_light_one_1 .nil)) (.cons c_is_light_one_0 .nil)))
 (.cons (.ife (.and (.cmp .le (.var 2) (.int 8)) (.and (.cmp .le (.call "nesting" [0] (.cons (.var 0) .nil) .nil) (.int 1)) (.one (.call "are_within" [0, 1, 2] (.cons (.var 3) (.cons (.int 3) (.cons (.tup (.cons (.int 2) (.cons (.int 3) .nil))) .nil))) .nil)))) (.cons (.ret (.bl true))
 .nil) .nil)
 (.cons (.ret (.and (.cmp .le (.var 2) (.int 5)) (.and (.cmp .le (.call "nesting" [0] (.cons (.var 0) .nil) .nil) (.int 2)) (.one (.call "are_within" [0, 1, 2] (.cons (.var 3) (.cons (.int 1) (.cons (.tup .nil) .nil))) .nil)))))
 .nil))))
def d_is_light_one : Df := ⟨([("formula" : Str)] : List Str), ([("formula" : Str), ("counted" : Str), ("many" : Str), ("atoms" : Str), ("atom" : Str), ("often" : Str)] : List Str), false, b_is_light_one⟩
def b_is_light : Ss :=
 (.cons (.drop (.call "need_formula" [0] (.cons (.var 0) .nil) .nil))
 (.cons (.ret (.call "is_light_one" [0] (.cons (.var 0) .nil) .nil))
 .nil))
def d_is_light : Df := ⟨([("formula" : Str)] : List Str), ([("formula" : Str)] : List Str), false, b_is_light⟩
def s__law_source_0 : Sm := .slc 3 true (.nm 4) (.seq (.var 1)) (.yes (.cmp .lt (.var 4) (.bin .pow false (.int 10) (.int 18)))) (.var 4)
def s__law_source_1 : Sm := .slc 2 true (.nm 4) (.seq (.var 1)) (.yes (.cmp .ge (.var 4) (.bin .pow false (.int 10) (.int 18)))) (.var 4)
def s__law_source_2 : Sm := .slc 1 false (.nm 4) (.seq (.sl false (.var 0) .no (.yes (.int 63)))) .no (.bin .mod false (.bi .int false (.cons (.var 4) .nil)) (.bin .pow false (.int 10) (.int 60)))
def b__law_source : Ss :=
 (.cons s__law_source_2
 (.cons s__law_source_1
 (.cons s__law_source_0
 (.cons (.ret (.lst true (.cons (.var 2) (.cons (.var 3) (.cons (.int 0) .nil)))))
 .nil))))
def d__law_source : Df := ⟨([("script" : Str)] : List Str), ([("script" : Str), ("cells" : Str), ("great" : Str), ("small" : Str), ("cell" : Str)] : List Str), true, b__law_source⟩
def b__law_draw : Ss :=
 (.cons (.par3 5 6 7 (.cons (.ix (.var 0) (.int 0)) (.cons (.ix (.var 0) (.int 1)) (.cons (.ix (.var 0) (.int 2)) .nil))))
 (.cons (.sub (.var 0) (.int 2) (.bin .add false (.var 7) (.int 1)))
 (.cons (.ife (.cmp .ne (.var 5) (.lst false .nil)) (.cons (.set 8 (.ix (.var 5) (.int 0)))
 (.cons (.sub (.var 5) (.int 0) (.bin .fdiv false (.var 8) (.var 1)))
 (.cons (.ife (.cmp .eq (.ix (.var 5) (.int 0)) (.int 0)) (.cons (.drop (.me .pop (.var 5) (.cons (.int 0) .nil)))
 .nil) .nil)
 (.cons (.ret (.bin .mod false (.bi .int false (.cons (.var 8) .nil)) (.var 1)))
 .nil)))) .nil)
 (.cons (.set 2 (.ife (.cmp .ne (.var 6) (.lst false .nil)) (.ix (.var 6) (.bin .mod false (.var 7) (.bi .len false (.cons (.var 6) .nil)))) (.int 5)))
 (.cons (.set 3 (.bin .mod false (.bi .int false (.cons (.bin .mul false (.bin .add false (.bin .add false (.var 2) (.bin .mul false (.int 17) (.var 7))) (.int 3)) (.bin .add false (.int 69621) (.bin .mul false (.int 2) (.var 7)))) .nil)) (.int 2147483647)))
 (.cons (.set 4 (.bin .mod false (.bi .int false (.cons (.bin .mul false (.var 3) (.bin .add false (.bin .mod false (.var 3) (.int 9973)) (.int 11))) .nil)) (.int 2147483629)))
 (.cons (.ret (.bin .mod false (.bi .int false (.cons (.bin .fdiv false (.var 4) (.int 5)) .nil)) (.var 1)))
 .nil)))))))
def d__law_draw : Df := ⟨([("source" : Str), ("many" : Str)] : List Str), ([("source" : Str), ("many" : Str), ("cell" : Str), ("first" : Str), ("second" : Str), ("great" : Str), ("small" : Str), ("turn" : Str), ("number" : Str)] : List Str), false, b__law_draw⟩
def b__law_int : Ss :=
 (.cons (.ret (.and (.bi .isi false (.cons (.var 0) (.cons (.ty "int" "int") .nil))) (.one (.not (.bi .isi false (.cons (.var 0) (.cons (.ty "bool" "bool") .nil)))))))
 .nil)
def d__law_int : Df := ⟨([("thing" : Str)] : List Str), ([("thing" : Str)] : List Str), false, b__law_int⟩
def b__law_says : Ss :=
 (.cons (.ret (.and (.bi .isi false (.cons (.var 0) (.cons (.ty "bool" "bool") .nil))) (.one (.cmp .eq (.var 0) (.var 1)))))
 .nil)
def d__law_says : Df := ⟨([("told" : Str), ("due" : Str)] : List Str), ([("told" : Str), ("due" : Str)] : List Str), false, b__law_says⟩
def l__law_small_term_0 : Ss := (.cons (.set 5 (.bin .sub false (.call "_law_draw" [0, 1] (.cons (.var 0) (.cons (.bin .add false (.bin .mul false (.int 2) (.var 2)) (.int 1)) .nil)) .nil) (.var 2)))
 (.cons (.ife (.cmp .ne (.var 5) (.int 0)) (.cons (.drop (.me .append (.var 3) (.cons (.tup (.cons (.var 4) (.cons (.var 5) .nil))) .nil)))
 .nil) .nil)
 .nil))
def f__law_small_term_0 : Sm := .fo (.nm 4) (.seq (.ss false (.var 1))) l__law_small_term_0
def b__law_small_term : Ss :=
 (.cons (.set 3 (.lst true .nil))
 (.cons f__law_small_term_0
 (.cons (.ret (.tup (.cons (.bin .sub false (.call "_law_draw" [0, 1] (.cons (.var 0) (.cons (.int 13) .nil)) .nil) (.int 6)) (.cons (.bi .tuple false (.cons (.var 3) .nil)) .nil))))
 .nil)))
def d__law_small_term : Df := ⟨([("source" : Str), ("variables" : Str), ("most" : Str)] : List Str), ([("source" : Str), ("variables" : Str), ("most" : Str), ("pairs" : Str), ("variable" : Str), ("number" : Str)] : List Str), false, b__law_small_term⟩
def b__law_atom : Ss :=
 (.cons (.par2 4 5 (.cons (.call "_law_draw" [0, 1] (.cons (.var 0) (.cons (.int 6) .nil)) .nil) (.cons (.call "_law_small_term" [0, 1, 2] (.cons (.var 0) (.cons (.var 1) (.cons (.var 2) .nil))) .nil) .nil)))
 (.cons (.ife (.and (.cmp .lt (.var 4) (.int 2)) (.one (.cmp .ne (.var 3) (.lst false .nil)))) (.cons (.ret (.tup (.cons (.str "div") (.cons (.ix (.var 3) (.call "_law_draw" [0, 1] (.cons (.var 0) (.cons (.bi .len false (.cons (.var 3) .nil)) .nil)) .nil)) (.cons (.var 5) .nil)))))
 .nil) .nil)
 (.cons (.ret (.ife (.cmp .eq (.var 4) (.int 2)) (.tup (.cons (.str "eq") (.cons (.var 5) .nil))) (.tup (.cons (.str "ge") (.cons (.var 5) .nil)))))
 .nil)))
def d__law_atom : Df := ⟨([("source" : Str), ("variables" : Str), ("most" : Str), ("divisors" : Str)] : List Str), ([("source" : Str), ("variables" : Str), ("most" : Str), ("divisors" : Str), ("kind" : Str), ("term" : Str)] : List Str), false, b__law_atom⟩
def b__law_formula : Ss :=
 (.cons (.set 6 (.call "_law_draw" [0, 1] (.cons (.var 0) (.cons (.int 10) .nil)) .nil))
 (.cons (.ife (.and (.cmp .gt (.var 3) (.int 0)) (.one (.cmp .lt (.var 6) (.int 3)))) (.cons (.set 9 (.call "_law_draw" [0, 1] (.cons (.var 0) (.cons (.int 4) .nil)) .nil))
 (.cons (.set 10 (.ss false (.bin .add false (.var 1) (.lst false (.cons (.var 9) .nil)))))
 (.cons (.ret (.tup (.cons (.ix (.lst false (.cons (.str "exists") (.cons (.str "forall") .nil))) (.bi .int false (.cons (.cmp .eq (.var 6) (.int 1)) .nil))) (.cons (.var 9) (.cons (.call "_law_formula" [0, 1, 2, 3, 4, 5] (.cons (.var 0) (.cons (.var 10) (.cons (.var 2) (.cons (.bin .sub false (.var 3) (.int 1)) (.cons (.var 4) (.cons (.var 5) .nil)))))) .nil) .nil)))))
 .nil))) .nil)
 (.cons (.ife (.or (.cmp .lt (.var 2) (.int 2)) (.one (.cmp .lt (.var 6) (.int 4)))) (.cons (.ret (.ife (.cmp .gt (.call "_law_draw" [0, 1] (.cons (.var 0) (.cons (.int 12) .nil)) .nil) (.int 0)) (.call "_law_atom" [0, 1, 2, 3] (.cons (.var 0) (.cons (.var 1) (.cons (.var 4) (.cons (.var 5) .nil)))) .nil) (.tup (.cons (.str "true") .nil))))
 .nil) .nil)
 (.cons (.ife (.cmp .eq (.var 6) (.int 4)) (.cons (.ret (.tup (.cons (.str "not") (.cons (.call "_law_formula" [0, 1, 2, 3, 4, 5] (.cons (.var 0) (.cons (.var 1) (.cons (.bin .sub false (.var 2) (.int 1)) (.cons (.var 3) (.cons (.var 4) (.cons (.var 5) .nil)))))) .nil) .nil))))
 .nil) .nil)
 (.cons (.set 7 (.call "_law_formula" [0, 1, 2, 3, 4, 5] (.cons (.var 0) (.cons (.var 1) (.cons (.bin .fdiv false (.var 2) (.int 2)) (.cons (.var 3) (.cons (.var 4) (.cons (.var 5) .nil)))))) .nil))
 (.cons (.set 8 (.call "_law_formula" [0, 1, 2, 3, 4, 5] (.cons (.var 0) (.cons (.var 1) (.cons (.bin .fdiv false (.var 2) (.int 2)) (.cons (.var 3) (.cons (.var 4) (.cons (.var 5) .nil)))))) .nil))
 (.cons (.ife (.cmp .eq (.var 6) (.int 5)) (.cons (.ret (.tup (.cons (.str "implies") (.cons (.var 7) (.cons (.var 8) .nil)))))
 .nil) .nil)
 (.cons (.ife (.and (.cmp .eq (.var 6) (.int 6)) (.one (.cmp .ge (.var 2) (.int 4)))) (.cons (.set 7 (.call "_law_formula" [0, 1, 2, 3, 4, 5] (.cons (.var 0) (.cons (.var 1) (.cons (.bin .fdiv false (.var 2) (.int 4)) (.cons (.var 3) (.cons (.var 4) (.cons (.var 5) .nil)))))) .nil))
 (.cons (.set 8 (.call "_law_formula" [0, 1, 2, 3, 4, 5] (.cons (.var 0) (.cons (.var 1) (.cons (.bin .fdiv false (.var 2) (.int 4)) (.cons (.var 3) (.cons (.var 4) (.cons (.var 5) .nil)))))) .nil))
 (.cons (.ret (.tup (.cons (.str "iff") (.cons (.var 7) (.cons (.var 8) .nil)))))
 .nil))) .nil)
 (.cons (.ret (.tup (.cons (.ife (.cmp .in_ (.var 6) (.tup (.cons (.int 7) (.cons (.int 9) .nil)))) (.str "or") (.str "and")) (.cons (.tup (.cons (.var 7) (.cons (.var 8) .nil))) .nil))))
 .nil)))))))))
def d__law_formula : Df := ⟨([("source" : Str), ("variables" : Str), ("budget" : Str), ("nesting_v" : Str), ("most" : Str), ("divisors" : Str)] : List Str), ([("source" : Str), ("variables" : Str), ("budget" : Str), ("nesting_v" : Str), ("most" : Str), ("divisors" : Str), ("kind" : Str), ("one" : Str), ("other" : Str), ("variable" : Str), ("wide" : Str)] : List Str), false, b__law_formula⟩
def l__law_counted_0 : Ss := (.cons (.set 3 (.bin .add false (.var 3) (.call "_law_counted" [0, 1] (.cons (.var 5) (.cons (.ife (.cmp .eq (.var 2) (.str "iff")) (.bin .mul false (.int 2) (.var 1)) (.var 1)) .nil)) .nil)))
 .nil)
def f__law_counted_0 : Sm := .fo (.nm 5) (.seq (.ife (.cmp .in_ (.var 2) (.tup (.cons (.str "exists") (.cons (.str "forall") .nil)))) (.sl false (.var 4) (.yes (.int 1)) .no) (.var 4))) l__law_counted_0
def b__law_counted : Ss :=
 (.cons (.set 2 (.ix (.var 0) (.int 0)))
 (.cons (.ife (.cmp .in_ (.var 2) (.tup (.cons (.str "ge") (.cons (.str "eq") (.cons (.str "div") .nil))))) (.cons (.ret (.lst false (.cons (.tup (.cons (.var 0) (.cons (.var 1) .nil))) .nil)))
 .nil) .nil)
 (.cons (.set 3 (.lst false .nil))
 (.cons (.set 4 (.ife (.cmp .in_ (.var 2) (.tup (.cons (.str "and") (.cons (.str "or") .nil)))) (.ix (.var 0) (.int 1)) (.sl false (.var 0) (.yes (.int 1)) .no)))
 (.cons f__law_counted_0
 (.cons (.ret (.var 3))
 .nil))))))
def d__law_counted : Df := ⟨([("formula" : Str), ("often" : Str)] : List Str), ([("formula" : Str), ("often" : Str), ("word" : Str), ("found" : Str), ("parts" : Str), ("part" : Str)] : List Str), false, b__law_counted⟩
def c__law_nesting_0 : Ex := .lc false (.nm 3) (.seq (.var 2)) .no (.call "_law_nesting" [0] (.cons (.var 3) .nil) .nil)
def b__law_nesting : Ss :=
 (.cons (.set 1 (.ix (.var 0) (.int 0)))
 (.cons (.ife (.cmp .in_ (.var 1) (.tup (.cons (.str "ge") (.cons (.str "eq") (.cons (.str "div") .nil))))) (.cons (.ret (.int 0))
 .nil) .nil)
 (.cons (.set 2 (.ife (.cmp .in_ (.var 1) (.tup (.cons (.str "and") (.cons (.str "or") .nil)))) (.ix (.var 0) (.int 1)) (.sl false (.var 0) (.yes (.int 1)) .no)))
 (.cons (.ife (.cmp .in_ (.var 1) (.tup (.cons (.str "exists") (.cons (.str "forall") .nil)))) (.cons (.ret (.bin .add false (.int 1) (.call "_law_nesting" [0] (.cons (.ix (.var 0) (.int 2)) .nil) .nil)))
 .nil) .nil)
 (.cons (.ret (.bi .max false (.cons (.bin .add false (.lst false (.cons (.int 0) .nil)) c__law_nesting_0) .nil)))
 .nil)))))
def d__law_nesting : Df := ⟨([("formula" : Str)] : List Str), ([("formula" : Str), ("word" : Str), ("parts" : Str), ("part" : Str)] : List Str), false, b__law_nesting⟩
def c__law_is_light_0 : Ex := .lc false (.nm 9) (.seq (.var 3)) (.yes (.cmp .gt (.var 9) (.int 3))) (.var 9)
def s__law_is_light_0 : Sm := .slc 3 false (.tup (.cons (.nm 7) (.cons (.nm 8) .nil))) (.seq (.var 5)) (.yes (.cmp .eq (.ix (.var 7) (.int 0)) (.str "div"))) (.ix (.var 7) (.int 1))
def c__law_is_light_1 : Ex := .lc false (.tup (.cons (.nm 10) (.cons (.nm 11) .nil))) (.seq (.ix (.ix (.var 7) (.neg (.int 1))) (.int 1))) .no (.bi .abs false (.cons (.var 11) .nil))
def l__law_is_light_0 : Ss := (.cons (.set 2 (.bin .add false (.var 2) c__law_is_light_1))
 .nil)
def f__law_is_light_0 : Sm := .fo (.tup (.cons (.nm 7) (.cons (.nm 8) .nil))) (.seq (.var 5)) l__law_is_light_0
def c__law_is_light_2 : Ex := .lc false (.tup (.cons (.nm 7) (.cons (.nm 8) .nil))) (.seq (.var 5)) .no (.var 8)
def b__law_is_light : Ss :=
 (.cons (.par2 5 6 (.cons (.call "_law_counted" [0, 1] (.cons (.var 0) (.cons (.int 1) .nil)) .nil) (.cons (.call "_law_nesting" [0] (.cons (.var 0) .nil) .nil) .nil)))
 (.cons (.set 1 (.bi .sum false (.cons c__law_is_light_2 .nil)))
 (.cons (.set 2 (.lst false .nil))
 (.cons f__law_is_light_0
 (.cons s__law_is_light_0
 (.cons (.set 4 (.bi .max false (.cons (.bin .add false (.lst false (.cons (.int 0) .nil)) (.var 2)) .nil)))
 (.cons (.ife (.and (.cmp .le (.var 1) (.int 8)) (.and (.cmp .le (.var 6) (.int 1)) (.and (.cmp .le (.var 4) (.int 3)) (.one (.cmp .eq c__law_is_light_0 (.lst false .nil)))))) (.cons (.ret (.bl true))
 .nil) .nil)
 (.cons (.ret (.and (.cmp .le (.var 1) (.int 5)) (.and (.cmp .le (.var 6) (.int 2)) (.and (.cmp .le (.var 4) (.int 1)) (.one (.cmp .eq (.var 3) (.lst false .nil)))))))
 .nil))))))))
def d__law_is_light : Df := ⟨([("formula" : Str)] : List Str), ([("formula" : Str), ("many" : Str), ("numbers" : Str), ("divisors" : Str), ("most" : Str), ("counted" : Str), ("deep" : Str), ("atom" : Str), ("often" : Str), ("d" : Str), ("variable" : Str), ("number" : Str)] : List Str), false, b__law_is_light⟩
def b__law_is_plan : Ss :=
 (.cons (.ife (.or (.not (.bi .isi false (.cons (.var 0) (.cons (.ty "tuple" "tuple") .nil)))) (.or (.cmp .ne (.bi .len false (.cons (.var 0) .nil)) (.int 2)) (.or (.not (.bi .isi false (.cons (.ix (.var 0) (.int 0)) (.cons (.ty "str" "str") .nil)))) (.one (.not (.call "_law_int" [0] (.cons (.ix (.var 0) (.int 1)) .nil) .nil)))))) (.cons (.ret (.bl false))
 .nil) .nil)
 (.cons (.ret (.and (.cmp .in_ (.ix (.var 0) (.int 0)) (.tup (.cons (.str "low") (.cons (.str "high") (.cons (.str "few") .nil))))) (.one (.chn .le .le (.int 0) (.ix (.var 0) (.int 1)) (.int 64)))))
 .nil))
def d__law_is_plan : Df := ⟨([("thing" : Str)] : List Str), ([("thing" : Str)] : List Str), false, b__law_is_plan⟩
def b__law_raised : Ss :=
 (.cons (.set 1 (.bl false))
 (.cons (.tis (.cons (.drop (.call "is_light" [0] (.cons (.var 0) .nil) .nil))
 .nil) "WholeError" 2 1 "BadFormula")
 (.cons (.ret (.var 1))
 .nil)))
def d__law_raised : Df := ⟨([("formula" : Str)] : List Str), ([("formula" : Str), ("word" : Str), ("e" : Str)] : List Str), false, b__law_raised⟩
def l__law_wrong_0 : Ss := (.cons (.set 1 (.tup (.cons (.str "not") (.cons (.var 1) .nil))))
 .nil)
def f__law_wrong_0 : Sm := .fo (.nm 2) (.rng (.cons (.int 13) .nil)) l__law_wrong_0
def b__law_wrong : Ss :=
 (.cons (.set 1 (.var 0))
 (.cons f__law_wrong_0
 (.cons (.set 3 (.tup (.cons (.int 0) (.cons (.tup (.cons (.tup (.cons (.int 0) (.cons (.int 1) .nil))) .nil)) .nil))))
 (.cons (.set 4 (.tup (.cons (.str "and") (.cons (.bin .mul false (.tup (.cons (.tup (.cons (.str "ge") (.cons (.var 3) .nil))) .nil)) (.int 60)) .nil))))
 (.cons (.set 5 (.lst false (.cons .non (.cons (.tup .nil) (.cons (.bi .list false (.cons (.var 0) .nil)) (.cons (.tup (.cons (.str "ge") .nil)) (.cons (.tup (.cons (.str "ge") (.cons (.tup (.cons (.int 0) (.cons (.tup (.cons (.tup (.cons (.int 0) (.cons (.int 0) .nil))) .nil)) .nil))) .nil))) (.cons (.tup (.cons (.str "div") (.cons (.int 1) (.cons (.var 3) .nil)))) (.cons (.tup (.cons (.str "div") (.cons (.int 61) (.cons (.var 3) .nil)))) (.cons (.tup (.cons (.str "true") (.cons (.int 0) .nil))) .nil))))))))))
 (.cons (.set 5 (.bin .add false (.var 5) (.lst false (.cons (.var 1) (.cons (.var 4) (.cons (.tup (.cons (.str "exists") (.cons (.int 10) (.cons (.var 0) .nil)))) (.cons (.tup (.cons (.str "exists") (.cons (.neg (.int 1)) (.cons (.var 0) .nil)))) (.cons (.tup (.cons (.str "exists") (.cons (.bl true) (.cons (.var 0) .nil)))) .nil))))))))
 (.cons (.set 5 (.bin .add false (.var 5) (.lst false (.cons (.tup (.cons (.str "ge") (.cons (.tup (.cons (.int 1001) (.cons (.tup .nil) .nil))) .nil))) (.cons (.tup (.cons (.str "ge") (.cons (.tup (.cons (.int 0) (.cons (.tup (.cons (.tup (.cons (.int 0) (.cons (.neg (.int 1001)) .nil))) .nil)) .nil))) .nil))) (.cons (.tup (.cons (.str "ge") (.cons (.tup (.cons (.int 0) (.cons (.tup (.cons (.tup (.cons (.int 10) (.cons (.int 1) .nil))) .nil)) .nil))) .nil))) (.cons (.tup (.cons (.str "ge") (.cons (.tup (.cons (.int 0) (.cons (.tup (.cons (.tup (.cons (.int 1) (.cons (.int 1) .nil))) (.cons (.tup (.cons (.int 0) (.cons (.int 1) .nil))) .nil))) .nil))) .nil))) (.cons (.tup (.cons (.str "nor") (.cons (.var 0) .nil))) .nil))))))))
 (.cons (.ret (.bin .add false (.var 5) (.lst false (.cons (.tup (.cons (.str "and") (.cons (.lst false (.cons (.var 0) .nil)) .nil))) (.cons (.tup (.cons (.str "iff") (.cons (.var 0) .nil))) (.cons (.tup (.cons (.str "not") (.cons (.var 0) (.cons (.var 0) .nil)))) (.cons (.tup (.cons (.str "eq") (.cons (.tup (.cons (.bl true) (.cons (.tup .nil) .nil))) .nil))) (.cons (.tup (.cons (.str "div") (.cons (.int 2) (.cons (.int 0) .nil)))) (.cons (.tup (.cons (.str "and") (.cons (.tup (.cons (.var 0) (.cons .non .nil))) .nil))) .nil)))))))))
 .nil))))))))
def d__law_wrong : Df := ⟨([("formula" : Str)] : List Str), ([("formula" : Str), ("deep" : Str), ("k" : Str), ("term" : Str), ("wide" : Str), ("found" : Str)] : List Str), false, b__law_wrong⟩
def c_law_0 : Ex := .lc false (.nm 4) (.seq (.call "_law_wrong" [0] (.cons (.var 6) .nil) .nil)) .no (.call "_law_raised" [0] (.cons (.var 4) .nil) .nil)
def l_law_0 : Ss := (.cons (.ife (.not (.call "_law_says" [0, 1] (.cons (.call "is_plan" [0] .nil (.cons (.var 4) .nil)) (.cons (.call "_law_is_plan" [0] (.cons (.var 4) .nil) .nil) .nil)) .nil)) (.cons (.ret (.bl false))
 .nil) .nil)
 .nil)
def f_law_0 : Sm := .fo (.nm 4) (.seq (.bin .add false (.var 3) (.lst false (.cons (.tup (.cons (.str "few") (.cons (.int 64) .nil))) (.cons (.tup (.cons (.str "few") (.cons (.int 65) .nil))) (.cons (.tup (.cons (.str "low") (.cons (.int 0) .nil))) (.cons (.tup (.cons (.str "high") (.cons (.neg (.int 1)) .nil))) (.cons (.tup (.cons .non (.cons (.int 1) .nil))) (.cons (.tup (.cons (.tup .nil) (.cons (.int 1) .nil))) .nil))))))))) l_law_0
def l_law_1 : Ss := (.cons (.par2 9 10 (.cons (.call "_law_draw" [0, 1] (.cons (.var 1) (.cons (.int 4) .nil)) .nil) (.cons (.bin .add false (.int 1) (.call "_law_draw" [0, 1] (.cons (.var 1) (.cons (.int 4) .nil)) .nil)) .nil)))
 (.cons (.set 5 (.ix (.lst false (.cons (.lst false .nil) (.cons (.lst false (.cons (.int 2) (.cons (.int 3) .nil))) (.cons (.lst false (.cons (.int 2) (.cons (.int 3) (.cons (.int 4) (.cons (.int 5) .nil))))) (.cons (.lst false (.cons (.int 2) .nil)) .nil))))) (.call "_law_draw" [0, 1] (.cons (.var 1) (.cons (.int 4) .nil)) .nil)))
 (.cons (.set 6 (.call "_law_formula" [0, 1, 2, 3, 4, 5] (.cons (.var 1) (.cons (.lst false (.cons (.int 0) (.cons (.int 1) .nil))) (.cons (.bin .add false (.int 1) (.call "_law_draw" [0, 1] (.cons (.var 1) (.cons (.int 8) .nil)) .nil)) (.cons (.var 9) (.cons (.var 10) (.cons (.var 5) .nil)))))) .nil))
 (.cons (.ife (.not (.call "_law_says" [0, 1] (.cons (.call "is_light" [0] .nil (.cons (.var 6) .nil)) (.cons (.call "_law_is_light" [0] (.cons (.var 6) .nil) .nil) .nil)) .nil)) (.cons (.ret (.bl false))
 .nil) .nil)
 .nil))))
def f_law_1 : Sm := .fo (.nm 2) (.rng (.cons (.int 4) .nil)) l_law_1
def b_law : Ss :=
 (.cons (.set 1 (.call "_law_source" [0] (.cons (.var 0) .nil) .nil))
 (.cons f_law_1
 (.cons (.par2 7 8 (.cons (.ix (.lst false (.cons (.str "low") (.cons (.str "high") (.cons (.str "few") (.cons (.str "Low") (.cons (.str "") (.cons (.str "lows") .nil))))))) (.call "_law_draw" [0, 1] (.cons (.var 1) (.cons (.int 6) .nil)) .nil)) (.cons (.bin .sub false (.call "_law_draw" [0, 1] (.cons (.var 1) (.cons (.int 67) .nil)) .nil) (.int 1)) .nil)))
 (.cons (.set 3 (.lst false (.cons (.tup (.cons (.var 7) (.cons (.var 8) .nil))) (.cons (.tup (.cons (.var 7) (.cons (.bl true) .nil))) (.cons (.tup (.cons (.var 7) (.cons (.str "1") .nil))) (.cons (.tup (.cons (.var 7) .nil)) (.cons (.tup (.cons (.var 7) (.cons (.var 8) (.cons (.int 0) .nil)))) (.cons (.lst false (.cons (.var 7) (.cons (.var 8) .nil))) (.cons .non (.cons (.tup (.cons (.var 8) (.cons (.var 7) .nil))) .nil))))))))))
 (.cons f_law_0
 (.cons (.ret (.bi .all false (.cons c_law_0 .nil)))
 .nil))))))
def d_law : Df := ⟨([("script" : Str)] : List Str), ([("script" : Str), ("source" : Str), ("turn" : Str), ("things" : Str), ("thing" : Str), ("divisors" : Str), ("formula" : Str), ("side" : Str), ("spread" : Str), ("nesting_v" : Str), ("most" : Str)] : List Str), false, b_law⟩
def dd : List Dd := [⟨"is_int", top 4, d_is_int, [(1, ([] : List Str), [0])]⟩,
  ⟨"within", top 5, d_within, [(3, ([] : List Str), [0, 1, 2])]⟩,
  ⟨"is_index", top 6, d_is_index, [(1, ([] : List Str), [0])]⟩,
  ⟨"is_row", top 7, d_is_row, [(3, ([] : List Str), [0, 1, 2])]⟩,
  ⟨"is_ascending", top 8, d_is_ascending, [(1, ([] : List Str), [0])]⟩,
  ⟨"is_pair", top 10, d_is_pair, [(1, ([] : List Str), [0])]⟩,
  ⟨"is_term", top 11, d_is_term, [(1, ([] : List Str), [0])]⟩,
  ⟨"variables_of", top 12, d_variables_of, [(1, ([] : List Str), [0])]⟩,
  ⟨"is_atom", top 22, d_is_atom, [(1, ([] : List Str), [0])]⟩,
  ⟨"inner_things", top 23, d_inner_things, [(1, ([] : List Str), [0])]⟩,
  ⟨"is_formula", top 24, d_is_formula, [(1, ([] : List Str), [0])]⟩,
  ⟨"inner_of", top 25, d_inner_of, [(1, ([] : List Str), [0])]⟩,
  ⟨"size_of", top 26, d_size_of, [(1, ([] : List Str), [0])]⟩,
  ⟨"depth_of", top 27, d_depth_of, [(1, ([] : List Str), [0])]⟩,
  ⟨"atoms_of", top 28, d_atoms_of, [(1, ([] : List Str), [0])]⟩,
  ⟨"names_of", top 29, d_names_of, [(1, ([] : List Str), [0])]⟩,
  ⟨"bound_names", top 30, d_bound_names, [(1, ([] : List Str), [0])]⟩,
  ⟨"is_small_atom", top 31, d_is_small_atom, [(1, ([] : List Str), [0])]⟩,
  ⟨"is_small", top 32, d_is_small, [(1, ([] : List Str), [0])]⟩,
  ⟨"need_formula", top 33, d_need_formula, [(1, ([] : List Str), [0])]⟩,
  ⟨"is_plan", top 37, d_is_plan, [(0, ([("thing" : Str)] : List Str), [0])]⟩,
  ⟨"atoms_by", top 38, d_atoms_by, [(2, ([] : List Str), [0, 1])]⟩,
  ⟨"nesting", top 39, d_nesting, [(1, ([] : List Str), [0])]⟩,
  ⟨"are_within", top 40, d_are_within, [(3, ([] : List Str), [0, 1, 2])]⟩,
  ⟨"is_light_one", top 41, d_is_light_one, [(1, ([] : List Str), [0])]⟩,
  ⟨"is_light", top 42, d_is_light, [(0, ([("formula" : Str)] : List Str), [0]), (1, ([] : List Str), [0])]⟩,
  ⟨"_law_source", top 44, d__law_source, [(1, ([] : List Str), [0])]⟩,
  ⟨"_law_draw", top 45, d__law_draw, [(2, ([] : List Str), [0, 1])]⟩,
  ⟨"_law_int", top 46, d__law_int, [(1, ([] : List Str), [0])]⟩,
  ⟨"_law_says", top 47, d__law_says, [(2, ([] : List Str), [0, 1])]⟩,
  ⟨"_law_small_term", top 48, d__law_small_term, [(3, ([] : List Str), [0, 1, 2])]⟩,
  ⟨"_law_atom", top 49, d__law_atom, [(4, ([] : List Str), [0, 1, 2, 3])]⟩,
  ⟨"_law_formula", top 50, d__law_formula, [(6, ([] : List Str), [0, 1, 2, 3, 4, 5])]⟩,
  ⟨"_law_counted", top 51, d__law_counted, [(2, ([] : List Str), [0, 1])]⟩,
  ⟨"_law_nesting", top 52, d__law_nesting, [(1, ([] : List Str), [0])]⟩,
  ⟨"_law_is_light", top 53, d__law_is_light, [(1, ([] : List Str), [0])]⟩,
  ⟨"_law_is_plan", top 54, d__law_is_plan, [(1, ([] : List Str), [0])]⟩,
  ⟨"_law_raised", top 55, d__law_raised, [(1, ([] : List Str), [0])]⟩,
  ⟨"_law_wrong", top 56, d__law_wrong, [(1, ([] : List Str), [0])]⟩,
  ⟨"law", top 57, d_law, [(1, ([] : List Str), [0])]⟩]
def G : Gt := ⟨[("GREATEST", (1000)), ("GREATEST_DIVISOR", (60)), ("LAST_VARIABLE", (9)), ("MOST_DEEP", (12)), ("MOST_PARTS", (60)), ("MOST_SPREAD", (64))], [("LISTED", [.str "and", .str "or"]), ("PAIRED", [.str "implies", .str "iff"]), ("QUANTIFIED", [.str "exists", .str "forall"]), ("SIDES", [.str "low", .str "high", .str "few"])], ([("abs" : Str), ("all" : Str), ("any" : Str), ("bool" : Str), ("int" : Str), ("isinstance" : Str), ("len" : Str), ("list" : Str), ("max" : Str), ("range" : Str), ("set" : Str), ("sorted" : Str), ("str" : Str), ("sum" : Str), ("tuple" : Str), ("zip" : Str)] : List Str), ([] : List Str), ([("WholeError" : Str), ("BadFormula" : Str)] : List Str), [(("is_int" : Str), (["thing"] : List Str)), (("within" : Str), (["thing", "low", "high"] : List Str)), (("is_index" : Str), (["thing"] : List Str)), (("is_row" : Str), (["thing", "fewest", "most"] : List Str)), (("is_ascending" : Str), (["row"] : List Str)), (("is_pair" : Str), (["thing"] : List Str)), (("is_term" : Str), (["thing"] : List Str)), (("variables_of" : Str), (["term"] : List Str)), (("is_atom" : Str), (["thing"] : List Str)), (("inner_things" : Str), (["thing"] : List Str)), (("is_formula" : Str), (["thing"] : List Str)), (("inner_of" : Str), (["formula"] : List Str)), (("size_of" : Str), (["formula"] : List Str)), (("depth_of" : Str), (["formula"] : List Str)), (("atoms_of" : Str), (["formula"] : List Str)), (("names_of" : Str), (["formula"] : List Str)), (("bound_names" : Str), (["formula"] : List Str)), (("is_small_atom" : Str), (["atom"] : List Str)), (("is_small" : Str), (["thing"] : List Str)), (("need_formula" : Str), (["formula"] : List Str)), (("is_plan" : Str), (["thing"] : List Str)), (("atoms_by" : Str), (["formula", "often"] : List Str)), (("nesting" : Str), (["formula"] : List Str)), (("are_within" : Str), (["atoms", "most", "divisors"] : List Str)), (("is_light_one" : Str), (["formula"] : List Str)), (("is_light" : Str), (["formula"] : List Str)), (("_law_source" : Str), (["script"] : List Str)), (("_law_draw" : Str), (["source", "many"] : List Str)), (("_law_int" : Str), (["thing"] : List Str)), (("_law_says" : Str), (["told", "due"] : List Str)), (("_law_small_term" : Str), (["source", "variables", "most"] : List Str)), (("_law_atom" : Str), (["source", "variables", "most", "divisors"] : List Str)), (("_law_formula" : Str), (["source", "variables", "budget", "nesting_v", "most", "divisors"] : List Str)), (("_law_counted" : Str), (["formula", "often"] : List Str)), (("_law_nesting" : Str), (["formula"] : List Str)), (("_law_is_light" : Str), (["formula"] : List Str)), (("_law_is_plan" : Str), (["thing"] : List Str)), (("_law_raised" : Str), (["formula"] : List Str)), (("_law_wrong" : Str), (["formula"] : List Str)), (("law" : Str), (["script"] : List Str))], [(("is_int" : Str), (1, ([] : List Str), ([0] : List Nat))), (("within" : Str), (3, ([] : List Str), ([0, 1, 2] : List Nat))), (("is_index" : Str), (1, ([] : List Str), ([0] : List Nat))), (("is_row" : Str), (3, ([] : List Str), ([0, 1, 2] : List Nat))), (("is_ascending" : Str), (1, ([] : List Str), ([0] : List Nat))), (("is_pair" : Str), (1, ([] : List Str), ([0] : List Nat))), (("is_term" : Str), (1, ([] : List Str), ([0] : List Nat))), (("variables_of" : Str), (1, ([] : List Str), ([0] : List Nat))), (("is_atom" : Str), (1, ([] : List Str), ([0] : List Nat))), (("inner_things" : Str), (1, ([] : List Str), ([0] : List Nat))), (("is_formula" : Str), (1, ([] : List Str), ([0] : List Nat))), (("inner_of" : Str), (1, ([] : List Str), ([0] : List Nat))), (("size_of" : Str), (1, ([] : List Str), ([0] : List Nat))), (("depth_of" : Str), (1, ([] : List Str), ([0] : List Nat))), (("atoms_of" : Str), (1, ([] : List Str), ([0] : List Nat))), (("names_of" : Str), (1, ([] : List Str), ([0] : List Nat))), (("bound_names" : Str), (1, ([] : List Str), ([0] : List Nat))), (("is_small_atom" : Str), (1, ([] : List Str), ([0] : List Nat))), (("is_small" : Str), (1, ([] : List Str), ([0] : List Nat))), (("need_formula" : Str), (1, ([] : List Str), ([0] : List Nat))), (("is_plan" : Str), (0, (["thing"] : List Str), ([0] : List Nat))), (("atoms_by" : Str), (2, ([] : List Str), ([0, 1] : List Nat))), (("nesting" : Str), (1, ([] : List Str), ([0] : List Nat))), (("are_within" : Str), (3, ([] : List Str), ([0, 1, 2] : List Nat))), (("is_light_one" : Str), (1, ([] : List Str), ([0] : List Nat))), (("is_light" : Str), (0, (["formula"] : List Str), ([0] : List Nat))), (("is_light" : Str), (1, ([] : List Str), ([0] : List Nat))), (("_law_source" : Str), (1, ([] : List Str), ([0] : List Nat))), (("_law_draw" : Str), (2, ([] : List Str), ([0, 1] : List Nat))), (("_law_int" : Str), (1, ([] : List Str), ([0] : List Nat))), (("_law_says" : Str), (2, ([] : List Str), ([0, 1] : List Nat))), (("_law_small_term" : Str), (3, ([] : List Str), ([0, 1, 2] : List Nat))), (("_law_atom" : Str), (4, ([] : List Str), ([0, 1, 2, 3] : List Nat))), (("_law_formula" : Str), (6, ([] : List Str), ([0, 1, 2, 3, 4, 5] : List Nat))), (("_law_counted" : Str), (2, ([] : List Str), ([0, 1] : List Nat))), (("_law_nesting" : Str), (1, ([] : List Str), ([0] : List Nat))), (("_law_is_light" : Str), (1, ([] : List Str), ([0] : List Nat))), (("_law_is_plan" : Str), (1, ([] : List Str), ([0] : List Nat))), (("_law_raised" : Str), (1, ([] : List Str), ([0] : List Nat))), (("_law_wrong" : Str), (1, ([] : List Str), ([0] : List Nat))), (("law" : Str), (1, ([] : List Str), ([0] : List Nat)))], [("WholeError", "WholeError"), ("BadFormula", "WholeError"), ("BadFormula", "BadFormula")]⟩
theorem ok : dd.all (okD G) = true := by decide +kernel
theorem bs_0 : BSh (top 4) d_is_int.ps (1, ([] : List Str), [0]) := fun kV doc pm an cdv ct us ws h1 h2 => match us, ws, h1, h2 with | [u0], [], _, _ => by kernel_rfl
theorem bs_1 : BSh (top 5) d_within.ps (3, ([] : List Str), [0, 1, 2]) := fun kV doc pm an cdv ct us ws h1 h2 => match us, ws, h1, h2 with | [u0, u1, u2], [], _, _ => by kernel_rfl
theorem bs_2 : BSh (top 6) d_is_index.ps (1, ([] : List Str), [0]) := fun kV doc pm an cdv ct us ws h1 h2 => match us, ws, h1, h2 with | [u0], [], _, _ => by kernel_rfl
theorem bs_3 : BSh (top 7) d_is_row.ps (3, ([] : List Str), [0, 1, 2]) := fun kV doc pm an cdv ct us ws h1 h2 => match us, ws, h1, h2 with | [u0, u1, u2], [], _, _ => by kernel_rfl
theorem bs_4 : BSh (top 8) d_is_ascending.ps (1, ([] : List Str), [0]) := fun kV doc pm an cdv ct us ws h1 h2 => match us, ws, h1, h2 with | [u0], [], _, _ => by kernel_rfl
theorem bs_5 : BSh (top 10) d_is_pair.ps (1, ([] : List Str), [0]) := fun kV doc pm an cdv ct us ws h1 h2 => match us, ws, h1, h2 with | [u0], [], _, _ => by kernel_rfl
theorem bs_6 : BSh (top 11) d_is_term.ps (1, ([] : List Str), [0]) := fun kV doc pm an cdv ct us ws h1 h2 => match us, ws, h1, h2 with | [u0], [], _, _ => by kernel_rfl
theorem bs_7 : BSh (top 12) d_variables_of.ps (1, ([] : List Str), [0]) := fun kV doc pm an cdv ct us ws h1 h2 => match us, ws, h1, h2 with | [u0], [], _, _ => by kernel_rfl
theorem bs_8 : BSh (top 22) d_is_atom.ps (1, ([] : List Str), [0]) := fun kV doc pm an cdv ct us ws h1 h2 => match us, ws, h1, h2 with | [u0], [], _, _ => by kernel_rfl
theorem bs_9 : BSh (top 23) d_inner_things.ps (1, ([] : List Str), [0]) := fun kV doc pm an cdv ct us ws h1 h2 => match us, ws, h1, h2 with | [u0], [], _, _ => by kernel_rfl
theorem bs_10 : BSh (top 24) d_is_formula.ps (1, ([] : List Str), [0]) := fun kV doc pm an cdv ct us ws h1 h2 => match us, ws, h1, h2 with | [u0], [], _, _ => by kernel_rfl
theorem bs_11 : BSh (top 25) d_inner_of.ps (1, ([] : List Str), [0]) := fun kV doc pm an cdv ct us ws h1 h2 => match us, ws, h1, h2 with | [u0], [], _, _ => by kernel_rfl
theorem bs_12 : BSh (top 26) d_size_of.ps (1, ([] : List Str), [0]) := fun kV doc pm an cdv ct us ws h1 h2 => match us, ws, h1, h2 with | [u0], [], _, _ => by kernel_rfl
theorem bs_13 : BSh (top 27) d_depth_of.ps (1, ([] : List Str), [0]) := fun kV doc pm an cdv ct us ws h1 h2 => match us, ws, h1, h2 with | [u0], [], _, _ => by kernel_rfl
theorem bs_14 : BSh (top 28) d_atoms_of.ps (1, ([] : List Str), [0]) := fun kV doc pm an cdv ct us ws h1 h2 => match us, ws, h1, h2 with | [u0], [], _, _ => by kernel_rfl
theorem bs_15 : BSh (top 29) d_names_of.ps (1, ([] : List Str), [0]) := fun kV doc pm an cdv ct us ws h1 h2 => match us, ws, h1, h2 with | [u0], [], _, _ => by kernel_rfl
theorem bs_16 : BSh (top 30) d_bound_names.ps (1, ([] : List Str), [0]) := fun kV doc pm an cdv ct us ws h1 h2 => match us, ws, h1, h2 with | [u0], [], _, _ => by kernel_rfl
theorem bs_17 : BSh (top 31) d_is_small_atom.ps (1, ([] : List Str), [0]) := fun kV doc pm an cdv ct us ws h1 h2 => match us, ws, h1, h2 with | [u0], [], _, _ => by kernel_rfl
theorem bs_18 : BSh (top 32) d_is_small.ps (1, ([] : List Str), [0]) := fun kV doc pm an cdv ct us ws h1 h2 => match us, ws, h1, h2 with | [u0], [], _, _ => by kernel_rfl
theorem bs_19 : BSh (top 33) d_need_formula.ps (1, ([] : List Str), [0]) := fun kV doc pm an cdv ct us ws h1 h2 => match us, ws, h1, h2 with | [u0], [], _, _ => by kernel_rfl
theorem bs_20 : BSh (top 37) d_is_plan.ps (0, ([("thing" : Str)] : List Str), [0]) := fun kV doc pm an cdv ct us ws h1 h2 => match us, ws, h1, h2 with | [], [w0], _, _ => by kernel_rfl
theorem bs_21 : BSh (top 38) d_atoms_by.ps (2, ([] : List Str), [0, 1]) := fun kV doc pm an cdv ct us ws h1 h2 => match us, ws, h1, h2 with | [u0, u1], [], _, _ => by kernel_rfl
theorem bs_22 : BSh (top 39) d_nesting.ps (1, ([] : List Str), [0]) := fun kV doc pm an cdv ct us ws h1 h2 => match us, ws, h1, h2 with | [u0], [], _, _ => by kernel_rfl
theorem bs_23 : BSh (top 40) d_are_within.ps (3, ([] : List Str), [0, 1, 2]) := fun kV doc pm an cdv ct us ws h1 h2 => match us, ws, h1, h2 with | [u0, u1, u2], [], _, _ => by kernel_rfl
theorem bs_24 : BSh (top 41) d_is_light_one.ps (1, ([] : List Str), [0]) := fun kV doc pm an cdv ct us ws h1 h2 => match us, ws, h1, h2 with | [u0], [], _, _ => by kernel_rfl
theorem bs_25 : BSh (top 42) d_is_light.ps (0, ([("formula" : Str)] : List Str), [0]) := fun kV doc pm an cdv ct us ws h1 h2 => match us, ws, h1, h2 with | [], [w0], _, _ => by kernel_rfl
theorem bs_26 : BSh (top 42) d_is_light.ps (1, ([] : List Str), [0]) := fun kV doc pm an cdv ct us ws h1 h2 => match us, ws, h1, h2 with | [u0], [], _, _ => by kernel_rfl
theorem bs_27 : BSh (top 44) d__law_source.ps (1, ([] : List Str), [0]) := fun kV doc pm an cdv ct us ws h1 h2 => match us, ws, h1, h2 with | [u0], [], _, _ => by kernel_rfl
theorem bs_28 : BSh (top 45) d__law_draw.ps (2, ([] : List Str), [0, 1]) := fun kV doc pm an cdv ct us ws h1 h2 => match us, ws, h1, h2 with | [u0, u1], [], _, _ => by kernel_rfl
theorem bs_29 : BSh (top 46) d__law_int.ps (1, ([] : List Str), [0]) := fun kV doc pm an cdv ct us ws h1 h2 => match us, ws, h1, h2 with | [u0], [], _, _ => by kernel_rfl
theorem bs_30 : BSh (top 47) d__law_says.ps (2, ([] : List Str), [0, 1]) := fun kV doc pm an cdv ct us ws h1 h2 => match us, ws, h1, h2 with | [u0, u1], [], _, _ => by kernel_rfl
theorem bs_31 : BSh (top 48) d__law_small_term.ps (3, ([] : List Str), [0, 1, 2]) := fun kV doc pm an cdv ct us ws h1 h2 => match us, ws, h1, h2 with | [u0, u1, u2], [], _, _ => by kernel_rfl
theorem bs_32 : BSh (top 49) d__law_atom.ps (4, ([] : List Str), [0, 1, 2, 3]) := fun kV doc pm an cdv ct us ws h1 h2 => match us, ws, h1, h2 with | [u0, u1, u2, u3], [], _, _ => by kernel_rfl
theorem bs_33 : BSh (top 50) d__law_formula.ps (6, ([] : List Str), [0, 1, 2, 3, 4, 5]) := fun kV doc pm an cdv ct us ws h1 h2 => match us, ws, h1, h2 with | [u0, u1, u2, u3, u4, u5], [], _, _ => by kernel_rfl
theorem bs_34 : BSh (top 51) d__law_counted.ps (2, ([] : List Str), [0, 1]) := fun kV doc pm an cdv ct us ws h1 h2 => match us, ws, h1, h2 with | [u0, u1], [], _, _ => by kernel_rfl
theorem bs_35 : BSh (top 52) d__law_nesting.ps (1, ([] : List Str), [0]) := fun kV doc pm an cdv ct us ws h1 h2 => match us, ws, h1, h2 with | [u0], [], _, _ => by kernel_rfl
theorem bs_36 : BSh (top 53) d__law_is_light.ps (1, ([] : List Str), [0]) := fun kV doc pm an cdv ct us ws h1 h2 => match us, ws, h1, h2 with | [u0], [], _, _ => by kernel_rfl
theorem bs_37 : BSh (top 54) d__law_is_plan.ps (1, ([] : List Str), [0]) := fun kV doc pm an cdv ct us ws h1 h2 => match us, ws, h1, h2 with | [u0], [], _, _ => by kernel_rfl
theorem bs_38 : BSh (top 55) d__law_raised.ps (1, ([] : List Str), [0]) := fun kV doc pm an cdv ct us ws h1 h2 => match us, ws, h1, h2 with | [u0], [], _, _ => by kernel_rfl
theorem bs_39 : BSh (top 56) d__law_wrong.ps (1, ([] : List Str), [0]) := fun kV doc pm an cdv ct us ws h1 h2 => match us, ws, h1, h2 with | [u0], [], _, _ => by kernel_rfl
theorem bs_40 : BSh (top 57) d_law.ps (1, ([] : List Str), [0]) := fun kV doc pm an cdv ct us ws h1 h2 => match us, ws, h1, h2 with | [u0], [], _, _ => by kernel_rfl
theorem shs : AllSh dd := ⟨⟨bs_0, trivial⟩, ⟨bs_1, trivial⟩, ⟨bs_2, trivial⟩, ⟨bs_3, trivial⟩, ⟨bs_4, trivial⟩, ⟨bs_5, trivial⟩, ⟨bs_6, trivial⟩, ⟨bs_7, trivial⟩, ⟨bs_8, trivial⟩, ⟨bs_9, trivial⟩, ⟨bs_10, trivial⟩, ⟨bs_11, trivial⟩, ⟨bs_12, trivial⟩, ⟨bs_13, trivial⟩, ⟨bs_14, trivial⟩, ⟨bs_15, trivial⟩, ⟨bs_16, trivial⟩, ⟨bs_17, trivial⟩, ⟨bs_18, trivial⟩, ⟨bs_19, trivial⟩, ⟨bs_20, trivial⟩, ⟨bs_21, trivial⟩, ⟨bs_22, trivial⟩, ⟨bs_23, trivial⟩, ⟨bs_24, trivial⟩, ⟨bs_25, bs_26, trivial⟩, ⟨bs_27, trivial⟩, ⟨bs_28, trivial⟩, ⟨bs_29, trivial⟩, ⟨bs_30, trivial⟩, ⟨bs_31, trivial⟩, ⟨bs_32, trivial⟩, ⟨bs_33, trivial⟩, ⟨bs_34, trivial⟩, ⟨bs_35, trivial⟩, ⟨bs_36, trivial⟩, ⟨bs_37, trivial⟩, ⟨bs_38, trivial⟩, ⟨bs_39, trivial⟩, ⟨bs_40, trivial⟩, trivial⟩
abbrev Rw : PySem.W.OpenRow := PySem.W.OpenLaw.row PySem.Challenge.rw_wholesworn_k19_plans_and_light_formulas
abbrev fn : List He.DefD := dd.map fun d => mkDD d.nm d.st
abbrev hk : PySem.W.Hook := hookT 4 (gtx G) (faOf G) fn
def ob (s : PySem.W.SharedT) : He.AlD := obsTG 4 (gtx G) (faOf G) fn (HandSHeadRun.getT s)
theorem ob_eq (s : PySem.W.SharedT) : ob s = hk.obs s.abs := obsTG_eq (HandSHeadRun.getT_eq s)
abbrev loose : List PySem.Str := ([("WholeError" : Str), ("BadFormula" : Str), ("is_int" : Str), ("within" : Str), ("is_index" : Str), ("is_row" : Str), ("is_ascending" : Str), ("is_pair" : Str), ("is_term" : Str), ("variables_of" : Str), ("LISTED" : Str), ("PAIRED" : Str), ("QUANTIFIED" : Str), ("MOST_PARTS" : Str), ("MOST_DEEP" : Str), ("LAST_VARIABLE" : Str), ("GREATEST" : Str), ("GREATEST_DIVISOR" : Str), ("is_atom" : Str), ("inner_things" : Str), ("is_formula" : Str), ("inner_of" : Str), ("size_of" : Str), ("depth_of" : Str), ("atoms_of" : Str), ("names_of" : Str), ("bound_names" : Str), ("is_small_atom" : Str), ("is_small" : Str), ("need_formula" : Str), ("SIDES" : Str), ("MOST_SPREAD" : Str), ("is_plan" : Str), ("atoms_by" : Str), ("nesting" : Str), ("are_within" : Str), ("is_light_one" : Str), ("is_light" : Str), ("_law_source" : Str), ("_law_draw" : Str), ("_law_int" : Str), ("_law_says" : Str), ("_law_small_term" : Str), ("_law_atom" : Str), ("_law_formula" : Str), ("_law_counted" : Str), ("_law_nesting" : Str), ("_law_is_light" : Str), ("_law_is_plan" : Str), ("_law_raised" : Str), ("_law_wrong" : Str)] : List Str)
theorem rune (w : World) : HandSHeadRun.RunEq Rw (PySem.W.view Rw.prog [57]) hk ob 4000 loose w := by
  intro os
  kernel_rfl
theorem r_is_int (F k : Nat) (u0 : U) (h : List O) : run G F (dsOf dd) (k + 1) "is_int" [u0] h = leave false h.length (exs G (run G F (dsOf dd) k) F b_is_int [some u0] h) := by kernel_rfl
theorem r_within (F k : Nat) (u0 u1 u2 : U) (h : List O) : run G F (dsOf dd) (k + 1) "within" [u0, u1, u2] h = leave false h.length (exs G (run G F (dsOf dd) k) F b_within [some u0, some u1, some u2] h) := by kernel_rfl
theorem r_is_index (F k : Nat) (u0 : U) (h : List O) : run G F (dsOf dd) (k + 1) "is_index" [u0] h = leave false h.length (exs G (run G F (dsOf dd) k) F b_is_index [some u0] h) := by kernel_rfl
theorem r_is_row (F k : Nat) (u0 u1 u2 : U) (h : List O) : run G F (dsOf dd) (k + 1) "is_row" [u0, u1, u2] h = leave false h.length (exs G (run G F (dsOf dd) k) F b_is_row [some u0, some u1, some u2] h) := by kernel_rfl
theorem r_is_ascending (F k : Nat) (u0 : U) (h : List O) : run G F (dsOf dd) (k + 1) "is_ascending" [u0] h = leave false h.length (exs G (run G F (dsOf dd) k) F b_is_ascending [some u0, none, none] h) := by kernel_rfl
theorem r_is_pair (F k : Nat) (u0 : U) (h : List O) : run G F (dsOf dd) (k + 1) "is_pair" [u0] h = leave false h.length (exs G (run G F (dsOf dd) k) F b_is_pair [some u0] h) := by kernel_rfl
theorem r_is_term (F k : Nat) (u0 : U) (h : List O) : run G F (dsOf dd) (k + 1) "is_term" [u0] h = leave false h.length (exs G (run G F (dsOf dd) k) F b_is_term [some u0, none] h) := by kernel_rfl
theorem r_variables_of (F k : Nat) (u0 : U) (h : List O) : run G F (dsOf dd) (k + 1) "variables_of" [u0] h = leave false h.length (exs G (run G F (dsOf dd) k) F b_variables_of [some u0, none, none] h) := by kernel_rfl
theorem r_is_atom (F k : Nat) (u0 : U) (h : List O) : run G F (dsOf dd) (k + 1) "is_atom" [u0] h = leave false h.length (exs G (run G F (dsOf dd) k) F b_is_atom [some u0] h) := by kernel_rfl
theorem r_inner_things (F k : Nat) (u0 : U) (h : List O) : run G F (dsOf dd) (k + 1) "inner_things" [u0] h = leave false h.length (exs G (run G F (dsOf dd) k) F b_inner_things [some u0, none, none] h) := by kernel_rfl
theorem r_is_formula (F k : Nat) (u0 : U) (h : List O) : run G F (dsOf dd) (k + 1) "is_formula" [u0] h = leave false h.length (exs G (run G F (dsOf dd) k) F b_is_formula [some u0, none, none, none] h) := by kernel_rfl
theorem r_inner_of (F k : Nat) (u0 : U) (h : List O) : run G F (dsOf dd) (k + 1) "inner_of" [u0] h = leave false h.length (exs G (run G F (dsOf dd) k) F b_inner_of [some u0] h) := by kernel_rfl
theorem r_size_of (F k : Nat) (u0 : U) (h : List O) : run G F (dsOf dd) (k + 1) "size_of" [u0] h = leave false h.length (exs G (run G F (dsOf dd) k) F b_size_of [some u0, none] h) := by kernel_rfl
theorem r_depth_of (F k : Nat) (u0 : U) (h : List O) : run G F (dsOf dd) (k + 1) "depth_of" [u0] h = leave false h.length (exs G (run G F (dsOf dd) k) F b_depth_of [some u0, none] h) := by kernel_rfl
theorem r_atoms_of (F k : Nat) (u0 : U) (h : List O) : run G F (dsOf dd) (k + 1) "atoms_of" [u0] h = leave false h.length (exs G (run G F (dsOf dd) k) F b_atoms_of [some u0, none, none] h) := by kernel_rfl
theorem r_names_of (F k : Nat) (u0 : U) (h : List O) : run G F (dsOf dd) (k + 1) "names_of" [u0] h = leave false h.length (exs G (run G F (dsOf dd) k) F b_names_of [some u0, none, none, none] h) := by kernel_rfl
theorem r_bound_names (F k : Nat) (u0 : U) (h : List O) : run G F (dsOf dd) (k + 1) "bound_names" [u0] h = leave false h.length (exs G (run G F (dsOf dd) k) F b_bound_names [some u0, none, none, none] h) := by kernel_rfl
theorem r_is_small_atom (F k : Nat) (u0 : U) (h : List O) : run G F (dsOf dd) (k + 1) "is_small_atom" [u0] h = leave false h.length (exs G (run G F (dsOf dd) k) F b_is_small_atom [some u0, none, none, none, none] h) := by kernel_rfl
theorem r_is_small (F k : Nat) (u0 : U) (h : List O) : run G F (dsOf dd) (k + 1) "is_small" [u0] h = leave false h.length (exs G (run G F (dsOf dd) k) F b_is_small [some u0, none, none] h) := by kernel_rfl
theorem r_need_formula (F k : Nat) (u0 : U) (h : List O) : run G F (dsOf dd) (k + 1) "need_formula" [u0] h = leave false h.length (exs G (run G F (dsOf dd) k) F b_need_formula [some u0] h) := by kernel_rfl
theorem r_is_plan (F k : Nat) (u0 : U) (h : List O) : run G F (dsOf dd) (k + 1) "is_plan" [u0] h = leave false h.length (exs G (run G F (dsOf dd) k) F b_is_plan [some u0] h) := by kernel_rfl
theorem r_atoms_by (F k : Nat) (u0 u1 : U) (h : List O) : run G F (dsOf dd) (k + 1) "atoms_by" [u0, u1] h = leave false h.length (exs G (run G F (dsOf dd) k) F b_atoms_by [some u0, some u1, none, none] h) := by kernel_rfl
theorem r_nesting (F k : Nat) (u0 : U) (h : List O) : run G F (dsOf dd) (k + 1) "nesting" [u0] h = leave false h.length (exs G (run G F (dsOf dd) k) F b_nesting [some u0, none, none] h) := by kernel_rfl
theorem r_are_within (F k : Nat) (u0 u1 u2 : U) (h : List O) : run G F (dsOf dd) (k + 1) "are_within" [u0, u1, u2] h = leave false h.length (exs G (run G F (dsOf dd) k) F b_are_within [some u0, some u1, some u2, none, none, none] h) := by kernel_rfl
theorem r_is_light_one (F k : Nat) (u0 : U) (h : List O) : run G F (dsOf dd) (k + 1) "is_light_one" [u0] h = leave false h.length (exs G (run G F (dsOf dd) k) F b_is_light_one [some u0, none, none, none, none, none] h) := by kernel_rfl
theorem r_is_light (F k : Nat) (u0 : U) (h : List O) : run G F (dsOf dd) (k + 1) "is_light" [u0] h = leave false h.length (exs G (run G F (dsOf dd) k) F b_is_light [some u0] h) := by kernel_rfl
theorem r__law_source (F k : Nat) (u0 : U) (h : List O) : run G F (dsOf dd) (k + 1) "_law_source" [u0] h = leave true h.length (exs G (run G F (dsOf dd) k) F b__law_source [some u0, none, none, none, none] h) := by kernel_rfl
theorem r__law_draw (F k : Nat) (u0 u1 : U) (h : List O) : run G F (dsOf dd) (k + 1) "_law_draw" [u0, u1] h = leave false h.length (exs G (run G F (dsOf dd) k) F b__law_draw [some u0, some u1, none, none, none, none, none, none, none] h) := by kernel_rfl
theorem r__law_int (F k : Nat) (u0 : U) (h : List O) : run G F (dsOf dd) (k + 1) "_law_int" [u0] h = leave false h.length (exs G (run G F (dsOf dd) k) F b__law_int [some u0] h) := by kernel_rfl
theorem r__law_says (F k : Nat) (u0 u1 : U) (h : List O) : run G F (dsOf dd) (k + 1) "_law_says" [u0, u1] h = leave false h.length (exs G (run G F (dsOf dd) k) F b__law_says [some u0, some u1] h) := by kernel_rfl
theorem r__law_small_term (F k : Nat) (u0 u1 u2 : U) (h : List O) : run G F (dsOf dd) (k + 1) "_law_small_term" [u0, u1, u2] h = leave false h.length (exs G (run G F (dsOf dd) k) F b__law_small_term [some u0, some u1, some u2, none, none, none] h) := by kernel_rfl
theorem r__law_atom (F k : Nat) (u0 u1 u2 u3 : U) (h : List O) : run G F (dsOf dd) (k + 1) "_law_atom" [u0, u1, u2, u3] h = leave false h.length (exs G (run G F (dsOf dd) k) F b__law_atom [some u0, some u1, some u2, some u3, none, none] h) := by kernel_rfl
theorem r__law_formula (F k : Nat) (u0 u1 u2 u3 u4 u5 : U) (h : List O) : run G F (dsOf dd) (k + 1) "_law_formula" [u0, u1, u2, u3, u4, u5] h = leave false h.length (exs G (run G F (dsOf dd) k) F b__law_formula [some u0, some u1, some u2, some u3, some u4, some u5, none, none, none, none, none] h) := by kernel_rfl
theorem r__law_counted (F k : Nat) (u0 u1 : U) (h : List O) : run G F (dsOf dd) (k + 1) "_law_counted" [u0, u1] h = leave false h.length (exs G (run G F (dsOf dd) k) F b__law_counted [some u0, some u1, none, none, none, none] h) := by kernel_rfl
theorem r__law_nesting (F k : Nat) (u0 : U) (h : List O) : run G F (dsOf dd) (k + 1) "_law_nesting" [u0] h = leave false h.length (exs G (run G F (dsOf dd) k) F b__law_nesting [some u0, none, none, none] h) := by kernel_rfl
theorem r__law_is_light (F k : Nat) (u0 : U) (h : List O) : run G F (dsOf dd) (k + 1) "_law_is_light" [u0] h = leave false h.length (exs G (run G F (dsOf dd) k) F b__law_is_light [some u0, none, none, none, none, none, none, none, none, none, none, none] h) := by kernel_rfl
theorem r__law_is_plan (F k : Nat) (u0 : U) (h : List O) : run G F (dsOf dd) (k + 1) "_law_is_plan" [u0] h = leave false h.length (exs G (run G F (dsOf dd) k) F b__law_is_plan [some u0] h) := by kernel_rfl
theorem r__law_raised (F k : Nat) (u0 : U) (h : List O) : run G F (dsOf dd) (k + 1) "_law_raised" [u0] h = leave false h.length (exs G (run G F (dsOf dd) k) F b__law_raised [some u0, none, none] h) := by kernel_rfl
theorem r__law_wrong (F k : Nat) (u0 : U) (h : List O) : run G F (dsOf dd) (k + 1) "_law_wrong" [u0] h = leave false h.length (exs G (run G F (dsOf dd) k) F b__law_wrong [some u0, none, none, none, none, none] h) := by kernel_rfl
theorem r_law (F k : Nat) (u0 : U) (h : List O) : run G F (dsOf dd) (k + 1) "law" [u0] h = leave false h.length (exs G (run G F (dsOf dd) k) F b_law [some u0, none, none, none, none, none, none, none, none, none, none] h) := by kernel_rfl
end K19

section
open PySem PySem.W PySem.Calls PyProof.Rows
theorem K19.fin (pure_ : ∀ ns : List Int, ns.length ≤ 63 → ∃ F h', Py.run K19.G F (Py.dsOf K19.dd) 100 "law" [.scr ns] [] = .ok (.d (.bool true)) h') : PySem.Challenge.rw_wholesworn_k19_plans_and_light_formulas.Holds := by
  w_on; o_law
  refine HandSHeadRun.head_any (r := OpenLaw.row PySem.Challenge.rw_wholesworn_k19_plans_and_light_formulas) (q := view (OpenLaw.row PySem.Challenge.rw_wholesworn_k19_plans_and_light_formulas).prog [57]) (H := K19.hk) (ob := K19.ob) (M := 4000) (loose := K19.loose) (d := HandSHeadRun.topDef (OpenLaw.row PySem.Challenge.rw_wholesworn_k19_plans_and_light_formulas).prog 57) (kwd := []) K19.ob_eq
    (by kernel_rfl) (fun s => by kernel_rfl) K19.rune (by kernel_rfl) (by kernel_rfl) (by kernel_rfl) (by rfl) (by first | assumption | decide +kernel) (by decide +kernel) ⟨rfl, rfl, rfl, rfl, rfl, by decide +kernel⟩ ?hw ?hc
  case hw => w_witness2
  case hc =>
    refine L2.walk_ofE (l := PySem.Challenge.rw_wholesworn_k19_plans_and_light_formulas) (n := 63) (k := 100) (x := "script") (CX := Py.CXw (PySem.Challenge.rw_wholesworn_k19_plans_and_light_formulas).prog) rfl (by decide) (by kernel_rfl) ⟨rfl, by decide, by decide⟩ ?F (fun _ _ _ _ z => Py.cxw_none z)
    intro w mg fa h Y N hmg0
    obtain ⟨K, KX, c⟩ := Y
    have hmg : mg ("law" : PySem.Str) = some (.ref fa) := by
      have e : (HandSHeadRun.topDef (OpenLaw.row PySem.Challenge.rw_wholesworn_k19_plans_and_light_formulas).prog 57).name = ("law" : PySem.Str) := by kernel_rfl
      rw [← e]
      exact hmg0
    exact Py.law_end (k := 99) KX N hmg c rfl rfl (by decide +kernel) K19.ok K19.shs (by decide +kernel) (by decide +kernel) pure_
end

namespace K19
open PySem PySem.Spec PyProof.Rows L2 Py

variable {F k : Nat}
theorem p_is_int (d : D) (h : List O) : run G F (dsOf dd) (k + 1) "is_int" [.d d] h = .ok (.d (.bool (isI d))) h := by
  rw [r_is_int]
  cases d
  all_goals simp [b_is_int, evCl_0, evCl_1, evCl_2, evCl_3, evCl_4, evCl_k, evCl_k2, evCl_k2r, evCl_k3r, ev, tv, evs, evo, evc, evw, evV, evC, evT, ev2, ev1, evCh, evB, evIf, evNil, evCons, evTup, evLst, evCall, evSl, evNo, evPart, vAnd, vOr, vNot, tAndE, tOrE, tNotE, binU, cmpU, biU, meU, g1, g2, maxG, minG, Es.len, Tg.slots, Tgs.slots, ex, exs, exh, sNx, sBk, sCt, sSeq, sDrop, sRet, sRetN, sAsg, sPar2, sPar3, sSub, sIf, sRaise, asg, asgs, R.bind_ok, R.bind_err, R.bind_bad, R.stm_ok, R.stm_err, R.stm_bad, opt_some, opt_none, noErr_ok, noErr_bad, leave_d, leave_n, leave_e, leave_da, mkL_f, tru, truU, truD, asB, asBo, getU_t0, getU_t1, getU_t2, getU_t3, getU_l0, getU_l1, getU_l2, getU_m1, getU_m2, getU_m3, eqU_i, eqU_s, eqU_b, eqU_nil, eqU_nilL, eqv_ii, eqv_ss, eqv_tnil, eqv_lnil, bool_bne, lenU_t, lenU_l, tupleU_l, tupleU_t, isiU, tyN, isaB, tyNames, cmpI, negU, srcK_d, srcU, isI]
theorem p_is_index (d : D) (h : List O) : run G F (dsOf dd) (k + 2) "is_index" [.d d] h = .ok (.d (.bool (isIdx d))) h := by
  rw [r_is_index]
  cases d
  case int i => simp [b_is_index, evCl_0, evCl_1, evCl_2, evCl_3, evCl_4, evCl_k, evCl_k2, evCl_k2r, evCl_k3r, ev, tv, evs, evo, evc, evw, evV, evC, evT, ev2, ev1, evCh, evB, evIf, evNil, evCons, evTup, evLst, evCall, evSl, evNo, evPart, vAnd, vOr, vNot, tAndE, tOrE, tNotE, binU, cmpU, biU, meU, g1, g2, maxG, minG, Es.len, Tg.slots, Tgs.slots, ex, exs, exh, sNx, sBk, sCt, sSeq, sDrop, sRet, sRetN, sAsg, sPar2, sPar3, sSub, sIf, sRaise, asg, asgs, R.bind_ok, R.bind_err, R.bind_bad, R.stm_ok, R.stm_err, R.stm_bad, opt_some, opt_none, noErr_ok, noErr_bad, leave_d, leave_n, leave_e, leave_da, mkL_f, tru, truU, truD, asB, asBo, getU_t0, getU_t1, getU_t2, getU_t3, getU_l0, getU_l1, getU_l2, getU_m1, getU_m2, getU_m3, eqU_i, eqU_s, eqU_b, eqU_nil, eqU_nilL, eqv_ii, eqv_ss, eqv_tnil, eqv_lnil, bool_bne, lenU_t, lenU_l, tupleU_l, tupleU_t, isiU, tyN, isaB, tyNames, cmpI, negU, srcK_d, srcU, p_is_int, isI, isIdx]
  all_goals simp [b_is_index, evCl_0, evCl_1, evCl_2, evCl_3, evCl_4, evCl_k, evCl_k2, evCl_k2r, evCl_k3r, ev, tv, evs, evo, evc, evw, evV, evC, evT, ev2, ev1, evCh, evB, evIf, evNil, evCons, evTup, evLst, evCall, evSl, evNo, evPart, vAnd, vOr, vNot, tAndE, tOrE, tNotE, binU, cmpU, biU, meU, g1, g2, maxG, minG, Es.len, Tg.slots, Tgs.slots, ex, exs, exh, sNx, sBk, sCt, sSeq, sDrop, sRet, sRetN, sAsg, sPar2, sPar3, sSub, sIf, sRaise, asg, asgs, R.bind_ok, R.bind_err, R.bind_bad, R.stm_ok, R.stm_err, R.stm_bad, opt_some, opt_none, noErr_ok, noErr_bad, leave_d, leave_n, leave_e, leave_da, mkL_f, tru, truU, truD, asB, asBo, getU_t0, getU_t1, getU_t2, getU_t3, getU_l0, getU_l1, getU_l2, getU_m1, getU_m2, getU_m3, eqU_i, eqU_s, eqU_b, eqU_nil, eqU_nilL, eqv_ii, eqv_ss, eqv_tnil, eqv_lnil, bool_bne, lenU_t, lenU_l, tupleU_l, tupleU_t, isiU, tyN, isaB, tyNames, cmpI, negU, srcK_d, srcU, p_is_int, isI, isIdx]
theorem p_is_row (d : D) (a b : Int) (h : List O) : run G F (dsOf dd) (k + 1) "is_row" [.d d, .d (.int a), .d (.int b)] h = .ok (.d (.bool (rowB a b d))) h := by
  rw [r_is_row]
  cases d
  case tuple ds => by_cases h1 : a ≤ ds.length <;> simp [b_is_row, evCl_0, evCl_1, evCl_2, evCl_3, evCl_4, evCl_k, evCl_k2, evCl_k2r, evCl_k3r, ev, tv, evs, evo, evc, evw, evV, evC, evT, ev2, ev1, evCh, evB, evIf, evNil, evCons, evTup, evLst, evCall, evSl, evNo, evPart, vAnd, vOr, vNot, tAndE, tOrE, tNotE, binU, cmpU, biU, meU, g1, g2, maxG, minG, Es.len, Tg.slots, Tgs.slots, ex, exs, exh, sNx, sBk, sCt, sSeq, sDrop, sRet, sRetN, sAsg, sPar2, sPar3, sSub, sIf, sRaise, asg, asgs, R.bind_ok, R.bind_err, R.bind_bad, R.stm_ok, R.stm_err, R.stm_bad, opt_some, opt_none, noErr_ok, noErr_bad, leave_d, leave_n, leave_e, leave_da, mkL_f, tru, truU, truD, asB, asBo, getU_t0, getU_t1, getU_t2, getU_t3, getU_l0, getU_l1, getU_l2, getU_m1, getU_m2, getU_m3, eqU_i, eqU_s, eqU_b, eqU_nil, eqU_nilL, eqv_ii, eqv_ss, eqv_tnil, eqv_lnil, bool_bne, lenU_t, lenU_l, tupleU_l, tupleU_t, isiU, tyN, isaB, tyNames, cmpI, negU, srcK_d, srcU, rowB, h1]
  all_goals simp [b_is_row, evCl_0, evCl_1, evCl_2, evCl_3, evCl_4, evCl_k, evCl_k2, evCl_k2r, evCl_k3r, ev, tv, evs, evo, evc, evw, evV, evC, evT, ev2, ev1, evCh, evB, evIf, evNil, evCons, evTup, evLst, evCall, evSl, evNo, evPart, vAnd, vOr, vNot, tAndE, tOrE, tNotE, binU, cmpU, biU, meU, g1, g2, maxG, minG, Es.len, Tg.slots, Tgs.slots, ex, exs, exh, sNx, sBk, sCt, sSeq, sDrop, sRet, sRetN, sAsg, sPar2, sPar3, sSub, sIf, sRaise, asg, asgs, R.bind_ok, R.bind_err, R.bind_bad, R.stm_ok, R.stm_err, R.stm_bad, opt_some, opt_none, noErr_ok, noErr_bad, leave_d, leave_n, leave_e, leave_da, mkL_f, tru, truU, truD, asB, asBo, getU_t0, getU_t1, getU_t2, getU_t3, getU_l0, getU_l1, getU_l2, getU_m1, getU_m2, getU_m3, eqU_i, eqU_s, eqU_b, eqU_nil, eqU_nilL, eqv_ii, eqv_ss, eqv_tnil, eqv_lnil, bool_bne, lenU_t, lenU_l, tupleU_l, tupleU_t, isiU, tyN, isaB, tyNames, cmpI, negU, srcK_d, srcU, rowB]
theorem p_asc_key (vs : List Int) (hl : vs.length ≤ 10000000) (h : List O) : ev G (run G F (dsOf dd) k) c_is_ascending_0 [some (.d (.list (vs.map .int))), none, none] h = mkL false ((vs.zip (vs.drop 1)).map fun p => .bool (decide (p.1 < p.2))) h := by
  have e1 : evw G (run G F (dsOf dd) k) (.zip (.cons (.var 0) (.cons (.sl false (.var 0) (.yes (.int 1)) .no) .nil))) [some (.d (.list (vs.map .int))), none, none] h = .ok (.fix ((vs.zip (vs.drop 1)).map fun p => U.d (.tuple [.int p.1, .int p.2]))) h := by
    rw [← zipL_ints, List.map_drop]
    simp [evCl_0, evCl_1, evCl_2, evCl_3, evCl_4, evCl_k, evCl_k2, evCl_k2r, evCl_k3r, ev, tv, evs, evo, evc, evw, evV, evC, evT, ev2, ev1, evCh, evB, evIf, evNil, evCons, evTup, evLst, evCall, evSl, evNo, evPart, vAnd, vOr, vNot, tAndE, tOrE, tNotE, binU, cmpU, biU, meU, g1, g2, maxG, minG, Es.len, Tg.slots, Tgs.slots, ex, exs, exh, sNx, sBk, sCt, sSeq, sDrop, sRet, sRetN, sAsg, sPar2, sPar3, sSub, sIf, sRaise, asg, asgs, R.bind_ok, R.bind_err, R.bind_bad, R.stm_ok, R.stm_err, R.stm_bad, opt_some, opt_none, noErr_ok, noErr_bad, leave_d, leave_n, leave_e, leave_da, mkL_f, tru, truU, truD, asB, asBo, slU, lstLike, Py.listOf, asI, cut1, zipS]
  unfold c_is_ascending_0
  rw [ev_lc (fun u => match u with | .d (.tuple [.int a, .int b]) => .bool (decide (a < b)) | _ => .none) e1 (by simp; omega) (fun u hu => ?_), List.map_map]
  · rfl
  · obtain ⟨p, _, rfl⟩ := List.mem_map.mp hu
    exact ⟨[some (.d (.list (vs.map .int))), some (.d (.int p.1)), some (.d (.int p.2))], rfl, fun acc => by simp [evCl_0, evCl_1, evCl_2, evCl_3, evCl_4, evCl_k, evCl_k2, evCl_k2r, evCl_k3r, ev, tv, evs, evo, evc, evw, evV, evC, evT, ev2, ev1, evCh, evB, evIf, evNil, evCons, evTup, evLst, evCall, evSl, evNo, evPart, vAnd, vOr, vNot, tAndE, tOrE, tNotE, binU, cmpU, biU, meU, g1, g2, maxG, minG, Es.len, Tg.slots, Tgs.slots, ex, exs, exh, sNx, sBk, sCt, sSeq, sDrop, sRet, sRetN, sAsg, sPar2, sPar3, sSub, sIf, sRaise, asg, asgs, R.bind_ok, R.bind_err, R.bind_bad, R.stm_ok, R.stm_err, R.stm_bad, opt_some, opt_none, noErr_ok, noErr_bad, leave_d, leave_n, leave_e, leave_da, mkL_f, tru, truU, truD, asB, asBo, getU_t0, getU_t1, getU_t2, getU_t3, getU_l0, getU_l1, getU_l2, getU_m1, getU_m2, getU_m3, eqU_i, eqU_s, eqU_b, eqU_nil, eqU_nilL, eqv_ii, eqv_ss, eqv_tnil, eqv_lnil, bool_bne, lenU_t, lenU_l, tupleU_l, tupleU_t, isiU, tyN, isaB, tyNames, cmpI, negU, srcK_d, srcU]⟩
theorem p_is_ascending (vs : List Int) (hl : vs.length ≤ 10000000) (h : List O) : run G F (dsOf dd) (k + 1) "is_ascending" [.d (.list (vs.map .int))] h = .ok (.d (.bool (ascI vs))) h := by
  rw [r_is_ascending]
  have := p_asc_key (F := F) (k := k) vs hl h
  have e2 := ascI_zip vs
  rw [List.drop_one] at e2
  simp [b_is_ascending, evCl_0, evCl_1, evCl_2, evCl_3, evCl_4, evCl_k, evCl_k2, evCl_k2r, evCl_k3r, ev, tv, evs, evo, evc, evw, evV, evC, evT, ev2, ev1, evCh, evB, evIf, evNil, evCons, evTup, evLst, evCall, evSl, evNo, evPart, vAnd, vOr, vNot, tAndE, tOrE, tNotE, binU, cmpU, biU, meU, g1, g2, maxG, minG, Es.len, Tg.slots, Tgs.slots, ex, exs, exh, sNx, sBk, sCt, sSeq, sDrop, sRet, sRetN, sAsg, sPar2, sPar3, sSub, sIf, sRaise, asg, asgs, R.bind_ok, R.bind_err, R.bind_bad, R.stm_ok, R.stm_err, R.stm_bad, opt_some, opt_none, noErr_ok, noErr_bad, leave_d, leave_n, leave_e, leave_da, mkL_f, tru, truU, truD, asB, asBo, this, allU_map, e2]

end K19

namespace K19
open PySem PySem.Spec PyProof.Rows L2 Py

variable {F k : Nat}
theorem rowB_22 {d : D} (h : rowB 2 2 d = true) : ∃ a b, d = .tuple [a, b] := by
  unfold rowB at h
  split at h
  · rename_i ds
    simp only [Bool.and_eq_true, decide_eq_true_eq] at h
    match ds, h with
    | [a, b], _ => exact ⟨a, b, rfl⟩
    | [], h => simp at h
    | [_], h => simp at h
    | _ :: _ :: _ :: _, h => simp at h; omega
  · cases h
theorem rowB_22i (a b : D) : rowB 2 2 (.tuple [a, b]) = true := by simp [rowB]
theorem p_is_pair (d : D) (h : List O) : run G F (dsOf dd) (k + 3) "is_pair" [.d d] h = .ok (.d (.bool (pairB d))) h := by
  rw [r_is_pair]
  cases hr : rowB 2 2 d with
  | false =>
    have : pairB d = false := by
      cases q : pairB d with
      | false => rfl
      | true => obtain ⟨v, c, rfl, _⟩ := pairB_of q; rw [rowB_22i] at hr; cases hr
    simp [b_is_pair, evCl_0, evCl_1, evCl_2, evCl_3, evCl_4, evCl_k, evCl_k2, evCl_k2r, evCl_k3r, ev, tv, evs, evo, evc, evw, evV, evC, evT, ev2, ev1, evCh, evB, evIf, evNil, evCons, evTup, evLst, evCall, evSl, evNo, evPart, vAnd, vOr, vNot, tAndE, tOrE, tNotE, binU, cmpU, biU, meU, g1, g2, maxG, minG, Es.len, Tg.slots, Tgs.slots, ex, exs, exh, sNx, sBk, sCt, sSeq, sDrop, sRet, sRetN, sAsg, sPar2, sPar3, sSub, sIf, sRaise, asg, asgs, R.bind_ok, R.bind_err, R.bind_bad, R.stm_ok, R.stm_err, R.stm_bad, opt_some, opt_none, noErr_ok, noErr_bad, leave_d, leave_n, leave_e, leave_da, mkL_f, tru, truU, truD, asB, asBo, p_is_row, hr, this]
  | true =>
    obtain ⟨a, b, rfl⟩ := rowB_22 hr
    cases a
    case int v => cases b <;> by_cases hv : 0 ≤ v <;> simp [b_is_pair, evCl_0, evCl_1, evCl_2, evCl_3, evCl_4, evCl_k, evCl_k2, evCl_k2r, evCl_k3r, ev, tv, evs, evo, evc, evw, evV, evC, evT, ev2, ev1, evCh, evB, evIf, evNil, evCons, evTup, evLst, evCall, evSl, evNo, evPart, vAnd, vOr, vNot, tAndE, tOrE, tNotE, binU, cmpU, biU, meU, g1, g2, maxG, minG, Es.len, Tg.slots, Tgs.slots, ex, exs, exh, sNx, sBk, sCt, sSeq, sDrop, sRet, sRetN, sAsg, sPar2, sPar3, sSub, sIf, sRaise, asg, asgs, R.bind_ok, R.bind_err, R.bind_bad, R.stm_ok, R.stm_err, R.stm_bad, opt_some, opt_none, noErr_ok, noErr_bad, leave_d, leave_n, leave_e, leave_da, mkL_f, tru, truU, truD, asB, asBo, getU_t0, getU_t1, getU_t2, getU_t3, getU_l0, getU_l1, getU_l2, getU_m1, getU_m2, getU_m3, eqU_i, eqU_s, eqU_b, eqU_nil, eqU_nilL, eqv_ii, eqv_ss, eqv_tnil, eqv_lnil, bool_bne, lenU_t, lenU_l, tupleU_l, tupleU_t, isiU, tyN, isaB, tyNames, cmpI, negU, srcK_d, srcU, p_is_row, hr, p_is_index, p_is_int, isIdx, isI, pairB, hv]
    all_goals simp [b_is_pair, evCl_0, evCl_1, evCl_2, evCl_3, evCl_4, evCl_k, evCl_k2, evCl_k2r, evCl_k3r, ev, tv, evs, evo, evc, evw, evV, evC, evT, ev2, ev1, evCh, evB, evIf, evNil, evCons, evTup, evLst, evCall, evSl, evNo, evPart, vAnd, vOr, vNot, tAndE, tOrE, tNotE, binU, cmpU, biU, meU, g1, g2, maxG, minG, Es.len, Tg.slots, Tgs.slots, ex, exs, exh, sNx, sBk, sCt, sSeq, sDrop, sRet, sRetN, sAsg, sPar2, sPar3, sSub, sIf, sRaise, asg, asgs, R.bind_ok, R.bind_err, R.bind_bad, R.stm_ok, R.stm_err, R.stm_bad, opt_some, opt_none, noErr_ok, noErr_bad, leave_d, leave_n, leave_e, leave_da, mkL_f, tru, truU, truD, asB, asBo, getU_t0, getU_t1, getU_t2, getU_t3, getU_l0, getU_l1, getU_l2, getU_m1, getU_m2, getU_m3, eqU_i, eqU_s, eqU_b, eqU_nil, eqU_nilL, eqv_ii, eqv_ss, eqv_tnil, eqv_lnil, bool_bne, lenU_t, lenU_l, tupleU_l, tupleU_t, isiU, tyN, isaB, tyNames, cmpI, negU, srcK_d, srcU, p_is_row, hr, p_is_index, isIdx, pairB]
theorem nz_key (a : D) (ps : List D) (hl : ps.length ≤ 10000000) (h : List O) : ev G (run G F (dsOf dd) (k + 3)) c_is_term_1 [some (.d (.tuple [a, .tuple ps])), none] h = mkL false (ps.map fun x => .bool (pairNZ x)) h := by
  refine ev_lcD ps (fun x => .bool (pairNZ x)) (by simp [evCl_0, evCl_1, evCl_2, evCl_3, evCl_4, evCl_k, evCl_k2, evCl_k2r, evCl_k3r, ev, tv, evs, evo, evc, evw, evV, evC, evT, ev2, ev1, evCh, evB, evIf, evNil, evCons, evTup, evLst, evCall, evSl, evNo, evPart, vAnd, vOr, vNot, tAndE, tOrE, tNotE, binU, cmpU, biU, meU, g1, g2, maxG, minG, Es.len, Tg.slots, Tgs.slots, ex, exs, exh, sNx, sBk, sCt, sSeq, sDrop, sRet, sRetN, sAsg, sPar2, sPar3, sSub, sIf, sRaise, asg, asgs, R.bind_ok, R.bind_err, R.bind_bad, R.stm_ok, R.stm_err, R.stm_bad, opt_some, opt_none, noErr_ok, noErr_bad, leave_d, leave_n, leave_e, leave_da, mkL_f, tru, truU, truD, asB, asBo, getU_t0, getU_t1, getU_t2, getU_t3, getU_l0, getU_l1, getU_l2, getU_m1, getU_m2, getU_m3, eqU_i, eqU_s, eqU_b, eqU_nil, eqU_nilL, eqv_ii, eqv_ss, eqv_tnil, eqv_lnil, bool_bne, lenU_t, lenU_l, tupleU_l, tupleU_t, isiU, tyN, isaB, tyNames, cmpI, negU, srcK_d, srcU]) hl (fun x hx => ⟨[some (.d (.tuple [a, .tuple ps])), some (.d x)], rfl, fun acc => ?_⟩)
  cases hp : pairB x with
  | false =>
    have : pairNZ x = false := by
      cases q : pairNZ x with
      | false => rfl
      | true => obtain ⟨v, c, rfl, hv, _⟩ := pairNZ_of q; simp [pairB, hv] at hp
    simp [evCl_0, evCl_1, evCl_2, evCl_3, evCl_4, evCl_k, evCl_k2, evCl_k2r, evCl_k3r, ev, tv, evs, evo, evc, evw, evV, evC, evT, ev2, ev1, evCh, evB, evIf, evNil, evCons, evTup, evLst, evCall, evSl, evNo, evPart, vAnd, vOr, vNot, tAndE, tOrE, tNotE, binU, cmpU, biU, meU, g1, g2, maxG, minG, Es.len, Tg.slots, Tgs.slots, ex, exs, exh, sNx, sBk, sCt, sSeq, sDrop, sRet, sRetN, sAsg, sPar2, sPar3, sSub, sIf, sRaise, asg, asgs, R.bind_ok, R.bind_err, R.bind_bad, R.stm_ok, R.stm_err, R.stm_bad, opt_some, opt_none, noErr_ok, noErr_bad, leave_d, leave_n, leave_e, leave_da, mkL_f, tru, truU, truD, asB, asBo, p_is_pair, hp, this]
  | true =>
    obtain ⟨v, c, rfl, hv⟩ := pairB_of hp
    simp [evCl_0, evCl_1, evCl_2, evCl_3, evCl_4, evCl_k, evCl_k2, evCl_k2r, evCl_k3r, ev, tv, evs, evo, evc, evw, evV, evC, evT, ev2, ev1, evCh, evB, evIf, evNil, evCons, evTup, evLst, evCall, evSl, evNo, evPart, vAnd, vOr, vNot, tAndE, tOrE, tNotE, binU, cmpU, biU, meU, g1, g2, maxG, minG, Es.len, Tg.slots, Tgs.slots, ex, exs, exh, sNx, sBk, sCt, sSeq, sDrop, sRet, sRetN, sAsg, sPar2, sPar3, sSub, sIf, sRaise, asg, asgs, R.bind_ok, R.bind_err, R.bind_bad, R.stm_ok, R.stm_err, R.stm_bad, opt_some, opt_none, noErr_ok, noErr_bad, leave_d, leave_n, leave_e, leave_da, mkL_f, tru, truU, truD, asB, asBo, getU_t0, getU_t1, getU_t2, getU_t3, getU_l0, getU_l1, getU_l2, getU_m1, getU_m2, getU_m3, eqU_i, eqU_s, eqU_b, eqU_nil, eqU_nilL, eqv_ii, eqv_ss, eqv_tnil, eqv_lnil, bool_bne, lenU_t, lenU_l, tupleU_l, tupleU_t, isiU, tyN, isaB, tyNames, cmpI, negU, srcK_d, srcU, p_is_pair, hp, pairNZ, hv]
theorem fst_key (a : D) (ps : List D) (hl : ps.length ≤ 10000000) (hp : ∀ p ∈ ps, pairNZ p = true) (h : List O) : ev G (run G F (dsOf dd) k) c_is_term_0 [some (.d (.tuple [a, .tuple ps])), none] h = mkL false ((ps.map fstI).map .int) h := by
  rw [List.map_map]
  refine ev_lcD ps (fun x => .int (fstI x)) (by simp [evCl_0, evCl_1, evCl_2, evCl_3, evCl_4, evCl_k, evCl_k2, evCl_k2r, evCl_k3r, ev, tv, evs, evo, evc, evw, evV, evC, evT, ev2, ev1, evCh, evB, evIf, evNil, evCons, evTup, evLst, evCall, evSl, evNo, evPart, vAnd, vOr, vNot, tAndE, tOrE, tNotE, binU, cmpU, biU, meU, g1, g2, maxG, minG, Es.len, Tg.slots, Tgs.slots, ex, exs, exh, sNx, sBk, sCt, sSeq, sDrop, sRet, sRetN, sAsg, sPar2, sPar3, sSub, sIf, sRaise, asg, asgs, R.bind_ok, R.bind_err, R.bind_bad, R.stm_ok, R.stm_err, R.stm_bad, opt_some, opt_none, noErr_ok, noErr_bad, leave_d, leave_n, leave_e, leave_da, mkL_f, tru, truU, truD, asB, asBo, getU_t0, getU_t1, getU_t2, getU_t3, getU_l0, getU_l1, getU_l2, getU_m1, getU_m2, getU_m3, eqU_i, eqU_s, eqU_b, eqU_nil, eqU_nilL, eqv_ii, eqv_ss, eqv_tnil, eqv_lnil, bool_bne, lenU_t, lenU_l, tupleU_l, tupleU_t, isiU, tyN, isaB, tyNames, cmpI, negU, srcK_d, srcU]) hl (fun x hx => ?_)
  obtain ⟨v, c, rfl, _, _⟩ := pairNZ_of (hp x hx)
  exact ⟨[some (.d (.tuple [a, .tuple ps])), some (.d (.tuple [.int v, .int c]))], rfl, fun acc => by simp [evCl_0, evCl_1, evCl_2, evCl_3, evCl_4, evCl_k, evCl_k2, evCl_k2r, evCl_k3r, ev, tv, evs, evo, evc, evw, evV, evC, evT, ev2, ev1, evCh, evB, evIf, evNil, evCons, evTup, evLst, evCall, evSl, evNo, evPart, vAnd, vOr, vNot, tAndE, tOrE, tNotE, binU, cmpU, biU, meU, g1, g2, maxG, minG, Es.len, Tg.slots, Tgs.slots, ex, exs, exh, sNx, sBk, sCt, sSeq, sDrop, sRet, sRetN, sAsg, sPar2, sPar3, sSub, sIf, sRaise, asg, asgs, R.bind_ok, R.bind_err, R.bind_bad, R.stm_ok, R.stm_err, R.stm_bad, opt_some, opt_none, noErr_ok, noErr_bad, leave_d, leave_n, leave_e, leave_da, mkL_f, tru, truU, truD, asB, asBo, getU_t0, getU_t1, getU_t2, getU_t3, getU_l0, getU_l1, getU_l2, getU_m1, getU_m2, getU_m3, eqU_i, eqU_s, eqU_b, eqU_nil, eqU_nilL, eqv_ii, eqv_ss, eqv_tnil, eqv_lnil, bool_bne, lenU_t, lenU_l, tupleU_l, tupleU_t, isiU, tyN, isaB, tyNames, cmpI, negU, srcK_d, srcU, fstI]⟩
theorem p_is_term (d : D) (hs : big d ≤ 10000000) (h : List O) : run G F (dsOf dd) (k + 4) "is_term" [.d d] h = .ok (.d (.bool (termB d))) h := by
  rw [r_is_term]
  cases hr : rowB 2 2 d with
  | false =>
    have : termB d = false := by
      cases q : termB d with
      | false => rfl
      | true => obtain ⟨v, c, rfl, _⟩ := termB_of q; rw [rowB_22i] at hr; cases hr
    simp [b_is_term, evCl_0, evCl_1, evCl_2, evCl_3, evCl_4, evCl_k, evCl_k2, evCl_k2r, evCl_k3r, ev, tv, evs, evo, evc, evw, evV, evC, evT, ev2, ev1, evCh, evB, evIf, evNil, evCons, evTup, evLst, evCall, evSl, evNo, evPart, vAnd, vOr, vNot, tAndE, tOrE, tNotE, binU, cmpU, biU, meU, g1, g2, maxG, minG, Es.len, Tg.slots, Tgs.slots, ex, exs, exh, sNx, sBk, sCt, sSeq, sDrop, sRet, sRetN, sAsg, sPar2, sPar3, sSub, sIf, sRaise, asg, asgs, R.bind_ok, R.bind_err, R.bind_bad, R.stm_ok, R.stm_err, R.stm_bad, opt_some, opt_none, noErr_ok, noErr_bad, leave_d, leave_n, leave_e, leave_da, mkL_f, tru, truU, truD, asB, asBo, p_is_row, hr, this]
  | true =>
    obtain ⟨a, b, rfl⟩ := rowB_22 hr
    cases a
    case int c =>
      cases b
      case tuple ps =>
        have hl : ps.length ≤ 10000000 := Nat.le_trans (big_tup_len (Nat.le_refl _)) (Nat.le_trans (Nat.le_of_lt (big_tup_mem (d := .tuple ps) (ds := [.int c, .tuple ps]) (by simp))) hs)
        have k1 := nz_key (F := F) (k := k) (.int c) ps hl
        cases ha : ps.all pairNZ with
        | false => simp [b_is_term, evCl_0, evCl_1, evCl_2, evCl_3, evCl_4, evCl_k, evCl_k2, evCl_k2r, evCl_k3r, ev, tv, evs, evo, evc, evw, evV, evC, evT, ev2, ev1, evCh, evB, evIf, evNil, evCons, evTup, evLst, evCall, evSl, evNo, evPart, vAnd, vOr, vNot, tAndE, tOrE, tNotE, binU, cmpU, biU, meU, g1, g2, maxG, minG, Es.len, Tg.slots, Tgs.slots, ex, exs, exh, sNx, sBk, sCt, sSeq, sDrop, sRet, sRetN, sAsg, sPar2, sPar3, sSub, sIf, sRaise, asg, asgs, R.bind_ok, R.bind_err, R.bind_bad, R.stm_ok, R.stm_err, R.stm_bad, opt_some, opt_none, noErr_ok, noErr_bad, leave_d, leave_n, leave_e, leave_da, mkL_f, tru, truU, truD, asB, asBo, getU_t0, getU_t1, getU_t2, getU_t3, getU_l0, getU_l1, getU_l2, getU_m1, getU_m2, getU_m3, eqU_i, eqU_s, eqU_b, eqU_nil, eqU_nilL, eqv_ii, eqv_ss, eqv_tnil, eqv_lnil, bool_bne, lenU_t, lenU_l, tupleU_l, tupleU_t, isiU, tyN, isaB, tyNames, cmpI, negU, srcK_d, srcU, p_is_row, hr, p_is_int, isI, k1, allU_map, ha, termB]
        | true =>
          have k2 := fst_key (F := F) (k := k + 3) (.int c) ps hl (List.all_eq_true.mp ha)
          have k3 := p_is_ascending (F := F) (k := k + 2) (ps.map fstI) (by simpa using hl) h
          simp [b_is_term, evCl_0, evCl_1, evCl_2, evCl_3, evCl_4, evCl_k, evCl_k2, evCl_k2r, evCl_k3r, ev, tv, evs, evo, evc, evw, evV, evC, evT, ev2, ev1, evCh, evB, evIf, evNil, evCons, evTup, evLst, evCall, evSl, evNo, evPart, vAnd, vOr, vNot, tAndE, tOrE, tNotE, binU, cmpU, biU, meU, g1, g2, maxG, minG, Es.len, Tg.slots, Tgs.slots, ex, exs, exh, sNx, sBk, sCt, sSeq, sDrop, sRet, sRetN, sAsg, sPar2, sPar3, sSub, sIf, sRaise, asg, asgs, R.bind_ok, R.bind_err, R.bind_bad, R.stm_ok, R.stm_err, R.stm_bad, opt_some, opt_none, noErr_ok, noErr_bad, leave_d, leave_n, leave_e, leave_da, mkL_f, tru, truU, truD, asB, asBo, getU_t0, getU_t1, getU_t2, getU_t3, getU_l0, getU_l1, getU_l2, getU_m1, getU_m2, getU_m3, eqU_i, eqU_s, eqU_b, eqU_nil, eqU_nilL, eqv_ii, eqv_ss, eqv_tnil, eqv_lnil, bool_bne, lenU_t, lenU_l, tupleU_l, tupleU_t, isiU, tyN, isaB, tyNames, cmpI, negU, srcK_d, srcU, p_is_row, hr, p_is_int, isI, k1, k2, k3, allU_map, ha, termB, -List.map_map]
      all_goals simp [b_is_term, evCl_0, evCl_1, evCl_2, evCl_3, evCl_4, evCl_k, evCl_k2, evCl_k2r, evCl_k3r, ev, tv, evs, evo, evc, evw, evV, evC, evT, ev2, ev1, evCh, evB, evIf, evNil, evCons, evTup, evLst, evCall, evSl, evNo, evPart, vAnd, vOr, vNot, tAndE, tOrE, tNotE, binU, cmpU, biU, meU, g1, g2, maxG, minG, Es.len, Tg.slots, Tgs.slots, ex, exs, exh, sNx, sBk, sCt, sSeq, sDrop, sRet, sRetN, sAsg, sPar2, sPar3, sSub, sIf, sRaise, asg, asgs, R.bind_ok, R.bind_err, R.bind_bad, R.stm_ok, R.stm_err, R.stm_bad, opt_some, opt_none, noErr_ok, noErr_bad, leave_d, leave_n, leave_e, leave_da, mkL_f, tru, truU, truD, asB, asBo, getU_t0, getU_t1, getU_t2, getU_t3, getU_l0, getU_l1, getU_l2, getU_m1, getU_m2, getU_m3, eqU_i, eqU_s, eqU_b, eqU_nil, eqU_nilL, eqv_ii, eqv_ss, eqv_tnil, eqv_lnil, bool_bne, lenU_t, lenU_l, tupleU_l, tupleU_t, isiU, tyN, isaB, tyNames, cmpI, negU, srcK_d, srcU, p_is_row, hr, p_is_int, isI, termB]
    all_goals simp [b_is_term, evCl_0, evCl_1, evCl_2, evCl_3, evCl_4, evCl_k, evCl_k2, evCl_k2r, evCl_k3r, ev, tv, evs, evo, evc, evw, evV, evC, evT, ev2, ev1, evCh, evB, evIf, evNil, evCons, evTup, evLst, evCall, evSl, evNo, evPart, vAnd, vOr, vNot, tAndE, tOrE, tNotE, binU, cmpU, biU, meU, g1, g2, maxG, minG, Es.len, Tg.slots, Tgs.slots, ex, exs, exh, sNx, sBk, sCt, sSeq, sDrop, sRet, sRetN, sAsg, sPar2, sPar3, sSub, sIf, sRaise, asg, asgs, R.bind_ok, R.bind_err, R.bind_bad, R.stm_ok, R.stm_err, R.stm_bad, opt_some, opt_none, noErr_ok, noErr_bad, leave_d, leave_n, leave_e, leave_da, mkL_f, tru, truU, truD, asB, asBo, getU_t0, getU_t1, getU_t2, getU_t3, getU_l0, getU_l1, getU_l2, getU_m1, getU_m2, getU_m3, eqU_i, eqU_s, eqU_b, eqU_nil, eqU_nilL, eqv_ii, eqv_ss, eqv_tnil, eqv_lnil, bool_bne, lenU_t, lenU_l, tupleU_l, tupleU_t, isiU, tyN, isaB, tyNames, cmpI, negU, srcK_d, srcU, p_is_row, hr, p_is_int, isI, termB]
def varsD : D → List Int
  | .tuple [_, .tuple ps] => ps.map fstI
  | _ => []
theorem p_variables_of (d : D) (hs : big d ≤ 10000000) (ht : termB d = true) (h : List O) : run G F (dsOf dd) (k + 1) "variables_of" [.d d] h = .ok (.d (.list ((varsD d).map .int))) h := by
  rw [r_variables_of]
  obtain ⟨c, ps, rfl, hp, _⟩ := termB_of ht
  have hl : ps.length ≤ 10000000 := Nat.le_trans (big_tup_len (Nat.le_refl _)) (Nat.le_trans (Nat.le_of_lt (big_tup_mem (d := .tuple ps) (ds := [.int c, .tuple ps]) (by simp))) hs)
  have key : ev G (run G F (dsOf dd) k) c_variables_of_0 [some (.d (.tuple [.int c, .tuple ps])), none, none] h = mkL false ((ps.map fstI).map .int) h := by
    rw [List.map_map]
    refine ev_lcD ps (fun x => .int (fstI x)) (by simp [evCl_0, evCl_1, evCl_2, evCl_3, evCl_4, evCl_k, evCl_k2, evCl_k2r, evCl_k3r, ev, tv, evs, evo, evc, evw, evV, evC, evT, ev2, ev1, evCh, evB, evIf, evNil, evCons, evTup, evLst, evCall, evSl, evNo, evPart, vAnd, vOr, vNot, tAndE, tOrE, tNotE, binU, cmpU, biU, meU, g1, g2, maxG, minG, Es.len, Tg.slots, Tgs.slots, ex, exs, exh, sNx, sBk, sCt, sSeq, sDrop, sRet, sRetN, sAsg, sPar2, sPar3, sSub, sIf, sRaise, asg, asgs, R.bind_ok, R.bind_err, R.bind_bad, R.stm_ok, R.stm_err, R.stm_bad, opt_some, opt_none, noErr_ok, noErr_bad, leave_d, leave_n, leave_e, leave_da, mkL_f, tru, truU, truD, asB, asBo, getU_t0, getU_t1, getU_t2, getU_t3, getU_l0, getU_l1, getU_l2, getU_m1, getU_m2, getU_m3, eqU_i, eqU_s, eqU_b, eqU_nil, eqU_nilL, eqv_ii, eqv_ss, eqv_tnil, eqv_lnil, bool_bne, lenU_t, lenU_l, tupleU_l, tupleU_t, isiU, tyN, isaB, tyNames, cmpI, negU, srcK_d, srcU]) hl (fun x hx => ?_)
    obtain ⟨v, w, rfl, _, _⟩ := pairNZ_of (hp x hx)
    exact ⟨[some (.d (.tuple [.int c, .tuple ps])), some (.d (.int v)), some (.d (.int w))], rfl, fun acc => by simp [evCl_0, evCl_1, evCl_2, evCl_3, evCl_4, evCl_k, evCl_k2, evCl_k2r, evCl_k3r, ev, tv, evs, evo, evc, evw, evV, evC, evT, ev2, ev1, evCh, evB, evIf, evNil, evCons, evTup, evLst, evCall, evSl, evNo, evPart, vAnd, vOr, vNot, tAndE, tOrE, tNotE, binU, cmpU, biU, meU, g1, g2, maxG, minG, Es.len, Tg.slots, Tgs.slots, ex, exs, exh, sNx, sBk, sCt, sSeq, sDrop, sRet, sRetN, sAsg, sPar2, sPar3, sSub, sIf, sRaise, asg, asgs, R.bind_ok, R.bind_err, R.bind_bad, R.stm_ok, R.stm_err, R.stm_bad, opt_some, opt_none, noErr_ok, noErr_bad, leave_d, leave_n, leave_e, leave_da, mkL_f, tru, truU, truD, asB, asBo, getU_t0, getU_t1, getU_t2, getU_t3, getU_l0, getU_l1, getU_l2, getU_m1, getU_m2, getU_m3, eqU_i, eqU_s, eqU_b, eqU_nil, eqU_nilL, eqv_ii, eqv_ss, eqv_tnil, eqv_lnil, bool_bne, lenU_t, lenU_l, tupleU_l, tupleU_t, isiU, tyN, isaB, tyNames, cmpI, negU, srcK_d, srcU, fstI]⟩
  simp [b_variables_of, evCl_0, evCl_1, evCl_2, evCl_3, evCl_4, evCl_k, evCl_k2, evCl_k2r, evCl_k3r, ev, tv, evs, evo, evc, evw, evV, evC, evT, ev2, ev1, evCh, evB, evIf, evNil, evCons, evTup, evLst, evCall, evSl, evNo, evPart, vAnd, vOr, vNot, tAndE, tOrE, tNotE, binU, cmpU, biU, meU, g1, g2, maxG, minG, Es.len, Tg.slots, Tgs.slots, ex, exs, exh, sNx, sBk, sCt, sSeq, sDrop, sRet, sRetN, sAsg, sPar2, sPar3, sSub, sIf, sRaise, asg, asgs, R.bind_ok, R.bind_err, R.bind_bad, R.stm_ok, R.stm_err, R.stm_bad, opt_some, opt_none, noErr_ok, noErr_bad, leave_d, leave_n, leave_e, leave_da, mkL_f, tru, truU, truD, asB, asBo, key, varsD, -List.map_map]

end K19

namespace K19
open PySem PySem.Spec PyProof.Rows L2 Py

variable {F k : Nat}
theorem tup_LISTED : G.tup "LISTED" = some [.str "and", .str "or"] := by rfl
theorem tup_PAIRED : G.tup "PAIRED" = some [.str "implies", .str "iff"] := by rfl
theorem tup_QUANTIFIED : G.tup "QUANTIFIED" = some [.str "exists", .str "forall"] := by rfl
theorem cutN1 {α : Type} (a : α) (xs : List α) : cut (a :: xs) (some 1) none = xs := by simp [cut, HT.sIx]
theorem cutN2 {α : Type} (a b : α) (xs : List α) : cut (a :: b :: xs) (some 2) none = xs := by
  have : (2 : Nat) ≤ xs.length + 1 + 1 := by omega
  simp [cut, HT.sIx, this]
theorem rowB_23 {d : D} (h : rowB 2 3 d = true) : (∃ a b, d = .tuple [a, b]) ∨ ∃ a b c, d = .tuple [a, b, c] := by
  unfold rowB at h
  split at h
  · rename_i ds
    simp only [Bool.and_eq_true, decide_eq_true_eq] at h
    match ds, h with
    | [], h => simp at h
    | [_], h => simp at h
    | [a, b], _ => exact .inl ⟨a, b, rfl⟩
    | [a, b, c], _ => exact .inr ⟨a, b, c, rfl⟩
    | _ :: _ :: _ :: _ :: _, h => simp at h; omega
  · cases h
theorem rowB_13 {d : D} (h : rowB 1 3 d = true) : ∃ a r, d = .tuple (a :: r) ∧ r.length ≤ 2 := by
  unfold rowB at h
  split at h
  · rename_i ds
    simp only [Bool.and_eq_true, decide_eq_true_eq] at h
    match ds, h with
    | [], h => simp at h
    | a :: r, h => exact ⟨a, r, rfl, by simp at h; omega⟩
  · cases h
theorem atomB_row {d : D} (h : atomB d = true) : rowB 2 3 d = true ∧ rowB 1 3 d = true ∧ ∃ w r, d = .tuple (.str w :: r) := by
  unfold atomB at h
  split at h
  · exact ⟨rfl, rfl, _, _, rfl⟩
  · exact ⟨rfl, rfl, _, _, rfl⟩
  · cases h
theorem p_is_atom (d : D) (hs : big d ≤ 10000000) (h : List O) : run G F (dsOf dd) (k + 5) "is_atom" [.d d] h = .ok (.d (.bool (atomB d))) h := by
  rw [r_is_atom]
  cases hr : rowB 2 3 d with
  | false =>
    have : atomB d = false := by
      cases q : atomB d with
      | false => rfl
      | true => rw [(atomB_row q).1] at hr; cases hr
    simp [b_is_atom, evCl_0, evCl_1, evCl_2, evCl_3, evCl_4, evCl_k, evCl_k2, evCl_k2r, evCl_k3r, ev, tv, evs, evo, evc, evw, evV, evC, evT, ev2, ev1, evCh, evB, evIf, evNil, evCons, evTup, evLst, evCall, evSl, evNo, evPart, vAnd, vOr, vNot, tAndE, tOrE, tNotE, binU, cmpU, biU, meU, g1, g2, maxG, minG, Es.len, Tg.slots, Tgs.slots, ex, exs, exh, sNx, sBk, sCt, sSeq, sDrop, sRet, sRetN, sAsg, sPar2, sPar3, sSub, sIf, sRaise, asg, asgs, R.bind_ok, R.bind_err, R.bind_bad, R.stm_ok, R.stm_err, R.stm_bad, opt_some, opt_none, noErr_ok, noErr_bad, leave_d, leave_n, leave_e, leave_da, mkL_f, tru, truU, truD, asB, asBo, p_is_row, hr, this]
  | true =>
    rcases rowB_23 hr with ⟨a, b, rfl⟩ | ⟨a, b, c, rfl⟩
    · have hb : big b ≤ 10000000 := Nat.le_trans (Nat.le_of_lt (big_tup_mem (by simp))) hs
      cases a
      case str w =>
        have q := p_is_term (F := F) (k := k) b hb
        cases ht : termB b with
        | false => simp [b_is_atom, evCl_0, evCl_1, evCl_2, evCl_3, evCl_4, evCl_k, evCl_k2, evCl_k2r, evCl_k3r, ev, tv, evs, evo, evc, evw, evV, evC, evT, ev2, ev1, evCh, evB, evIf, evNil, evCons, evTup, evLst, evCall, evSl, evNo, evPart, vAnd, vOr, vNot, tAndE, tOrE, tNotE, binU, cmpU, biU, meU, g1, g2, maxG, minG, Es.len, Tg.slots, Tgs.slots, ex, exs, exh, sNx, sBk, sCt, sSeq, sDrop, sRet, sRetN, sAsg, sPar2, sPar3, sSub, sIf, sRaise, asg, asgs, R.bind_ok, R.bind_err, R.bind_bad, R.stm_ok, R.stm_err, R.stm_bad, opt_some, opt_none, noErr_ok, noErr_bad, leave_d, leave_n, leave_e, leave_da, mkL_f, tru, truU, truD, asB, asBo, getU_t0, getU_t1, getU_t2, getU_t3, getU_l0, getU_l1, getU_l2, getU_m1, getU_m2, getU_m3, eqU_i, eqU_s, eqU_b, eqU_nil, eqU_nilL, eqv_ii, eqv_ss, eqv_tnil, eqv_lnil, bool_bne, lenU_t, lenU_l, tupleU_l, tupleU_t, isiU, tyN, isaB, tyNames, cmpI, negU, srcK_d, srcU, p_is_row, hr, q, ht, atomB]
        | true =>
          by_cases h1 : w = "ge"
          · subst h1; simp (decide := true) [b_is_atom, evCl_0, evCl_1, evCl_2, evCl_3, evCl_4, evCl_k, evCl_k2, evCl_k2r, evCl_k3r, ev, tv, evs, evo, evc, evw, evV, evC, evT, ev2, ev1, evCh, evB, evIf, evNil, evCons, evTup, evLst, evCall, evSl, evNo, evPart, vAnd, vOr, vNot, tAndE, tOrE, tNotE, binU, cmpU, biU, meU, g1, g2, maxG, minG, Es.len, Tg.slots, Tgs.slots, ex, exs, exh, sNx, sBk, sCt, sSeq, sDrop, sRet, sRetN, sAsg, sPar2, sPar3, sSub, sIf, sRaise, asg, asgs, R.bind_ok, R.bind_err, R.bind_bad, R.stm_ok, R.stm_err, R.stm_bad, opt_some, opt_none, noErr_ok, noErr_bad, leave_d, leave_n, leave_e, leave_da, mkL_f, tru, truU, truD, asB, asBo, getU_t0, getU_t1, getU_t2, getU_t3, getU_l0, getU_l1, getU_l2, getU_m1, getU_m2, getU_m3, eqU_i, eqU_s, eqU_b, eqU_nil, eqU_nilL, eqv_ii, eqv_ss, eqv_tnil, eqv_lnil, bool_bne, lenU_t, lenU_l, tupleU_l, tupleU_t, isiU, tyN, isaB, tyNames, cmpI, negU, srcK_d, srcU, p_is_row, hr, q, ht, atomB, inU_ts, pures]
          · by_cases h2 : w = "eq"
            · subst h2; simp (decide := true) [b_is_atom, evCl_0, evCl_1, evCl_2, evCl_3, evCl_4, evCl_k, evCl_k2, evCl_k2r, evCl_k3r, ev, tv, evs, evo, evc, evw, evV, evC, evT, ev2, ev1, evCh, evB, evIf, evNil, evCons, evTup, evLst, evCall, evSl, evNo, evPart, vAnd, vOr, vNot, tAndE, tOrE, tNotE, binU, cmpU, biU, meU, g1, g2, maxG, minG, Es.len, Tg.slots, Tgs.slots, ex, exs, exh, sNx, sBk, sCt, sSeq, sDrop, sRet, sRetN, sAsg, sPar2, sPar3, sSub, sIf, sRaise, asg, asgs, R.bind_ok, R.bind_err, R.bind_bad, R.stm_ok, R.stm_err, R.stm_bad, opt_some, opt_none, noErr_ok, noErr_bad, leave_d, leave_n, leave_e, leave_da, mkL_f, tru, truU, truD, asB, asBo, getU_t0, getU_t1, getU_t2, getU_t3, getU_l0, getU_l1, getU_l2, getU_m1, getU_m2, getU_m3, eqU_i, eqU_s, eqU_b, eqU_nil, eqU_nilL, eqv_ii, eqv_ss, eqv_tnil, eqv_lnil, bool_bne, lenU_t, lenU_l, tupleU_l, tupleU_t, isiU, tyN, isaB, tyNames, cmpI, negU, srcK_d, srcU, p_is_row, hr, q, ht, atomB, inU_ts, pures]
            · simp [b_is_atom, evCl_0, evCl_1, evCl_2, evCl_3, evCl_4, evCl_k, evCl_k2, evCl_k2r, evCl_k3r, ev, tv, evs, evo, evc, evw, evV, evC, evT, ev2, ev1, evCh, evB, evIf, evNil, evCons, evTup, evLst, evCall, evSl, evNo, evPart, vAnd, vOr, vNot, tAndE, tOrE, tNotE, binU, cmpU, biU, meU, g1, g2, maxG, minG, Es.len, Tg.slots, Tgs.slots, ex, exs, exh, sNx, sBk, sCt, sSeq, sDrop, sRet, sRetN, sAsg, sPar2, sPar3, sSub, sIf, sRaise, asg, asgs, R.bind_ok, R.bind_err, R.bind_bad, R.stm_ok, R.stm_err, R.stm_bad, opt_some, opt_none, noErr_ok, noErr_bad, leave_d, leave_n, leave_e, leave_da, mkL_f, tru, truU, truD, asB, asBo, getU_t0, getU_t1, getU_t2, getU_t3, getU_l0, getU_l1, getU_l2, getU_m1, getU_m2, getU_m3, eqU_i, eqU_s, eqU_b, eqU_nil, eqU_nilL, eqv_ii, eqv_ss, eqv_tnil, eqv_lnil, bool_bne, lenU_t, lenU_l, tupleU_l, tupleU_t, isiU, tyN, isaB, tyNames, cmpI, negU, srcK_d, srcU, p_is_row, hr, q, ht, atomB, inU_ts, pures, h1, h2, Ne.symm h1, Ne.symm h2]
      all_goals simp [b_is_atom, evCl_0, evCl_1, evCl_2, evCl_3, evCl_4, evCl_k, evCl_k2, evCl_k2r, evCl_k3r, ev, tv, evs, evo, evc, evw, evV, evC, evT, ev2, ev1, evCh, evB, evIf, evNil, evCons, evTup, evLst, evCall, evSl, evNo, evPart, vAnd, vOr, vNot, tAndE, tOrE, tNotE, binU, cmpU, biU, meU, g1, g2, maxG, minG, Es.len, Tg.slots, Tgs.slots, ex, exs, exh, sNx, sBk, sCt, sSeq, sDrop, sRet, sRetN, sAsg, sPar2, sPar3, sSub, sIf, sRaise, asg, asgs, R.bind_ok, R.bind_err, R.bind_bad, R.stm_ok, R.stm_err, R.stm_bad, opt_some, opt_none, noErr_ok, noErr_bad, leave_d, leave_n, leave_e, leave_da, mkL_f, tru, truU, truD, asB, asBo, getU_t0, getU_t1, getU_t2, getU_t3, getU_l0, getU_l1, getU_l2, getU_m1, getU_m2, getU_m3, eqU_i, eqU_s, eqU_b, eqU_nil, eqU_nilL, eqv_ii, eqv_ss, eqv_tnil, eqv_lnil, bool_bne, lenU_t, lenU_l, tupleU_l, tupleU_t, isiU, tyN, isaB, tyNames, cmpI, negU, srcK_d, srcU, p_is_row, hr, atomB]
    · have hb : big c ≤ 10000000 := Nat.le_trans (Nat.le_of_lt (big_tup_mem (by simp))) hs
      cases a
      case str w =>
        have q := p_is_term (F := F) (k := k) c hb
        cases ht : termB c with
        | false => cases b <;> simp [b_is_atom, evCl_0, evCl_1, evCl_2, evCl_3, evCl_4, evCl_k, evCl_k2, evCl_k2r, evCl_k3r, ev, tv, evs, evo, evc, evw, evV, evC, evT, ev2, ev1, evCh, evB, evIf, evNil, evCons, evTup, evLst, evCall, evSl, evNo, evPart, vAnd, vOr, vNot, tAndE, tOrE, tNotE, binU, cmpU, biU, meU, g1, g2, maxG, minG, Es.len, Tg.slots, Tgs.slots, ex, exs, exh, sNx, sBk, sCt, sSeq, sDrop, sRet, sRetN, sAsg, sPar2, sPar3, sSub, sIf, sRaise, asg, asgs, R.bind_ok, R.bind_err, R.bind_bad, R.stm_ok, R.stm_err, R.stm_bad, opt_some, opt_none, noErr_ok, noErr_bad, leave_d, leave_n, leave_e, leave_da, mkL_f, tru, truU, truD, asB, asBo, getU_t0, getU_t1, getU_t2, getU_t3, getU_l0, getU_l1, getU_l2, getU_m1, getU_m2, getU_m3, eqU_i, eqU_s, eqU_b, eqU_nil, eqU_nilL, eqv_ii, eqv_ss, eqv_tnil, eqv_lnil, bool_bne, lenU_t, lenU_l, tupleU_l, tupleU_t, isiU, tyN, isaB, tyNames, cmpI, negU, srcK_d, srcU, p_is_row, hr, q, ht, atomB]
        | true =>
          by_cases h1 : w = "div"
          · subst h1
            cases b
            case int m => by_cases hm : 2 ≤ m <;> simp [b_is_atom, evCl_0, evCl_1, evCl_2, evCl_3, evCl_4, evCl_k, evCl_k2, evCl_k2r, evCl_k3r, ev, tv, evs, evo, evc, evw, evV, evC, evT, ev2, ev1, evCh, evB, evIf, evNil, evCons, evTup, evLst, evCall, evSl, evNo, evPart, vAnd, vOr, vNot, tAndE, tOrE, tNotE, binU, cmpU, biU, meU, g1, g2, maxG, minG, Es.len, Tg.slots, Tgs.slots, ex, exs, exh, sNx, sBk, sCt, sSeq, sDrop, sRet, sRetN, sAsg, sPar2, sPar3, sSub, sIf, sRaise, asg, asgs, R.bind_ok, R.bind_err, R.bind_bad, R.stm_ok, R.stm_err, R.stm_bad, opt_some, opt_none, noErr_ok, noErr_bad, leave_d, leave_n, leave_e, leave_da, mkL_f, tru, truU, truD, asB, asBo, getU_t0, getU_t1, getU_t2, getU_t3, getU_l0, getU_l1, getU_l2, getU_m1, getU_m2, getU_m3, eqU_i, eqU_s, eqU_b, eqU_nil, eqU_nilL, eqv_ii, eqv_ss, eqv_tnil, eqv_lnil, bool_bne, lenU_t, lenU_l, tupleU_l, tupleU_t, isiU, tyN, isaB, tyNames, cmpI, negU, srcK_d, srcU, p_is_row, hr, q, ht, atomB, p_is_int, isI, hm]
            all_goals simp [b_is_atom, evCl_0, evCl_1, evCl_2, evCl_3, evCl_4, evCl_k, evCl_k2, evCl_k2r, evCl_k3r, ev, tv, evs, evo, evc, evw, evV, evC, evT, ev2, ev1, evCh, evB, evIf, evNil, evCons, evTup, evLst, evCall, evSl, evNo, evPart, vAnd, vOr, vNot, tAndE, tOrE, tNotE, binU, cmpU, biU, meU, g1, g2, maxG, minG, Es.len, Tg.slots, Tgs.slots, ex, exs, exh, sNx, sBk, sCt, sSeq, sDrop, sRet, sRetN, sAsg, sPar2, sPar3, sSub, sIf, sRaise, asg, asgs, R.bind_ok, R.bind_err, R.bind_bad, R.stm_ok, R.stm_err, R.stm_bad, opt_some, opt_none, noErr_ok, noErr_bad, leave_d, leave_n, leave_e, leave_da, mkL_f, tru, truU, truD, asB, asBo, getU_t0, getU_t1, getU_t2, getU_t3, getU_l0, getU_l1, getU_l2, getU_m1, getU_m2, getU_m3, eqU_i, eqU_s, eqU_b, eqU_nil, eqU_nilL, eqv_ii, eqv_ss, eqv_tnil, eqv_lnil, bool_bne, lenU_t, lenU_l, tupleU_l, tupleU_t, isiU, tyN, isaB, tyNames, cmpI, negU, srcK_d, srcU, p_is_row, hr, q, ht, atomB, p_is_int, isI]
          · cases b <;> simp [b_is_atom, evCl_0, evCl_1, evCl_2, evCl_3, evCl_4, evCl_k, evCl_k2, evCl_k2r, evCl_k3r, ev, tv, evs, evo, evc, evw, evV, evC, evT, ev2, ev1, evCh, evB, evIf, evNil, evCons, evTup, evLst, evCall, evSl, evNo, evPart, vAnd, vOr, vNot, tAndE, tOrE, tNotE, binU, cmpU, biU, meU, g1, g2, maxG, minG, Es.len, Tg.slots, Tgs.slots, ex, exs, exh, sNx, sBk, sCt, sSeq, sDrop, sRet, sRetN, sAsg, sPar2, sPar3, sSub, sIf, sRaise, asg, asgs, R.bind_ok, R.bind_err, R.bind_bad, R.stm_ok, R.stm_err, R.stm_bad, opt_some, opt_none, noErr_ok, noErr_bad, leave_d, leave_n, leave_e, leave_da, mkL_f, tru, truU, truD, asB, asBo, getU_t0, getU_t1, getU_t2, getU_t3, getU_l0, getU_l1, getU_l2, getU_m1, getU_m2, getU_m3, eqU_i, eqU_s, eqU_b, eqU_nil, eqU_nilL, eqv_ii, eqv_ss, eqv_tnil, eqv_lnil, bool_bne, lenU_t, lenU_l, tupleU_l, tupleU_t, isiU, tyN, isaB, tyNames, cmpI, negU, srcK_d, srcU, p_is_row, hr, q, ht, atomB, h1]
      all_goals simp [b_is_atom, evCl_0, evCl_1, evCl_2, evCl_3, evCl_4, evCl_k, evCl_k2, evCl_k2r, evCl_k3r, ev, tv, evs, evo, evc, evw, evV, evC, evT, ev2, ev1, evCh, evB, evIf, evNil, evCons, evTup, evLst, evCall, evSl, evNo, evPart, vAnd, vOr, vNot, tAndE, tOrE, tNotE, binU, cmpU, biU, meU, g1, g2, maxG, minG, Es.len, Tg.slots, Tgs.slots, ex, exs, exh, sNx, sBk, sCt, sSeq, sDrop, sRet, sRetN, sAsg, sPar2, sPar3, sSub, sIf, sRaise, asg, asgs, R.bind_ok, R.bind_err, R.bind_bad, R.stm_ok, R.stm_err, R.stm_bad, opt_some, opt_none, noErr_ok, noErr_bad, leave_d, leave_n, leave_e, leave_da, mkL_f, tru, truU, truD, asB, asBo, getU_t0, getU_t1, getU_t2, getU_t3, getU_l0, getU_l1, getU_l2, getU_m1, getU_m2, getU_m3, eqU_i, eqU_s, eqU_b, eqU_nil, eqU_nilL, eqv_ii, eqv_ss, eqv_tnil, eqv_lnil, bool_bne, lenU_t, lenU_l, tupleU_l, tupleU_t, isiU, tyN, isaB, tyNames, cmpI, negU, srcK_d, srcU, p_is_row, hr, atomB]
def optD : Option (List D) → D
  | some ds => .tuple ds
  | none => .none
theorem words10 (w : Str) : w = "true" ∨ w = "false" ∨ w = "not" ∨ w = "and" ∨ w = "or" ∨ w = "implies" ∨ w = "iff" ∨ w = "exists" ∨ w = "forall" ∨
    (w ≠ "true" ∧ w ≠ "false" ∧ w ≠ "not" ∧ w ≠ "and" ∧ w ≠ "or" ∧ w ≠ "implies" ∧ w ≠ "iff" ∧ w ≠ "exists" ∧ w ≠ "forall") := by
  by_cases h1 : w = "true"
  · exact .inl h1
  by_cases h2 : w = "false"
  · simp [h2]
  by_cases h3 : w = "not"
  · simp [h3]
  by_cases h4 : w = "and"
  · simp [h4]
  by_cases h5 : w = "or"
  · simp [h5]
  by_cases h6 : w = "implies"
  · simp [h6]
  by_cases h7 : w = "iff"
  · simp [h7]
  by_cases h8 : w = "exists"
  · simp [h8]
  by_cases h9 : w = "forall"
  · simp [h9]
  simp [h1, h2, h3, h4, h5, h6, h7, h8, h9]
theorem p_inner_things (w : Str) (r : List D) (hl : r.length ≤ 2) (h : List O) : run G F (dsOf dd) (k + 3) "inner_things" [.d (.tuple (.str w :: r))] h = .ok (.d (optD (innerW w r))) h := by
  rw [r_inner_things]
  match r, hl with
  | [], _ =>
    rcases words10 w with rfl | rfl | rfl | rfl | rfl | rfl | rfl | rfl | rfl | ⟨n1, n2, n3, n4, n5, n6, n7, n8, n9⟩
    all_goals first
      | (simp (decide := true) [b_inner_things, evCl_0, evCl_1, evCl_2, evCl_3, evCl_4, evCl_k, evCl_k2, evCl_k2r, evCl_k3r, ev, tv, evs, evo, evc, evw, evV, evC, evT, ev2, ev1, evCh, evB, evIf, evNil, evCons, evTup, evLst, evCall, evSl, evNo, evPart, vAnd, vOr, vNot, tAndE, tOrE, tNotE, binU, cmpU, biU, meU, g1, g2, maxG, minG, Es.len, Tg.slots, Tgs.slots, ex, exs, exh, sNx, sBk, sCt, sSeq, sDrop, sRet, sRetN, sAsg, sPar2, sPar3, sSub, sIf, sRaise, asg, asgs, R.bind_ok, R.bind_err, R.bind_bad, R.stm_ok, R.stm_err, R.stm_bad, opt_some, opt_none, noErr_ok, noErr_bad, leave_d, leave_n, leave_e, leave_da, mkL_f, tru, truU, truD, asB, asBo, getU_t0, getU_t1, getU_t2, getU_t3, getU_l0, getU_l1, getU_l2, getU_m1, getU_m2, getU_m3, eqU_i, eqU_s, eqU_b, eqU_nil, eqU_nilL, eqv_ii, eqv_ss, eqv_tnil, eqv_lnil, bool_bne, lenU_t, lenU_l, tupleU_l, tupleU_t, isiU, tyN, isaB, tyNames, cmpI, negU, srcK_d, srcU, inU_ts, pures, tup_LISTED, tup_PAIRED, tup_QUANTIFIED, innerW, optD, slU, asI, cutN1, cutN2]; done)
      | simp [b_inner_things, evCl_0, evCl_1, evCl_2, evCl_3, evCl_4, evCl_k, evCl_k2, evCl_k2r, evCl_k3r, ev, tv, evs, evo, evc, evw, evV, evC, evT, ev2, ev1, evCh, evB, evIf, evNil, evCons, evTup, evLst, evCall, evSl, evNo, evPart, vAnd, vOr, vNot, tAndE, tOrE, tNotE, binU, cmpU, biU, meU, g1, g2, maxG, minG, Es.len, Tg.slots, Tgs.slots, ex, exs, exh, sNx, sBk, sCt, sSeq, sDrop, sRet, sRetN, sAsg, sPar2, sPar3, sSub, sIf, sRaise, asg, asgs, R.bind_ok, R.bind_err, R.bind_bad, R.stm_ok, R.stm_err, R.stm_bad, opt_some, opt_none, noErr_ok, noErr_bad, leave_d, leave_n, leave_e, leave_da, mkL_f, tru, truU, truD, asB, asBo, getU_t0, getU_t1, getU_t2, getU_t3, getU_l0, getU_l1, getU_l2, getU_m1, getU_m2, getU_m3, eqU_i, eqU_s, eqU_b, eqU_nil, eqU_nilL, eqv_ii, eqv_ss, eqv_tnil, eqv_lnil, bool_bne, lenU_t, lenU_l, tupleU_l, tupleU_t, isiU, tyN, isaB, tyNames, cmpI, negU, srcK_d, srcU, inU_ts, pures, tup_LISTED, tup_PAIRED, tup_QUANTIFIED, innerW, optD, n1, n2, n3, n4, n5, n6, n7, n8, n9, Ne.symm n1, Ne.symm n2, Ne.symm n3, Ne.symm n4, Ne.symm n5, Ne.symm n6, Ne.symm n7, Ne.symm n8, Ne.symm n9]
  | [a], _ =>
    rcases words10 w with rfl | rfl | rfl | rfl | rfl | rfl | rfl | rfl | rfl | ⟨n1, n2, n3, n4, n5, n6, n7, n8, n9⟩
    all_goals first
      | (simp (decide := true) [b_inner_things, evCl_0, evCl_1, evCl_2, evCl_3, evCl_4, evCl_k, evCl_k2, evCl_k2r, evCl_k3r, ev, tv, evs, evo, evc, evw, evV, evC, evT, ev2, ev1, evCh, evB, evIf, evNil, evCons, evTup, evLst, evCall, evSl, evNo, evPart, vAnd, vOr, vNot, tAndE, tOrE, tNotE, binU, cmpU, biU, meU, g1, g2, maxG, minG, Es.len, Tg.slots, Tgs.slots, ex, exs, exh, sNx, sBk, sCt, sSeq, sDrop, sRet, sRetN, sAsg, sPar2, sPar3, sSub, sIf, sRaise, asg, asgs, R.bind_ok, R.bind_err, R.bind_bad, R.stm_ok, R.stm_err, R.stm_bad, opt_some, opt_none, noErr_ok, noErr_bad, leave_d, leave_n, leave_e, leave_da, mkL_f, tru, truU, truD, asB, asBo, getU_t0, getU_t1, getU_t2, getU_t3, getU_l0, getU_l1, getU_l2, getU_m1, getU_m2, getU_m3, eqU_i, eqU_s, eqU_b, eqU_nil, eqU_nilL, eqv_ii, eqv_ss, eqv_tnil, eqv_lnil, bool_bne, lenU_t, lenU_l, tupleU_l, tupleU_t, isiU, tyN, isaB, tyNames, cmpI, negU, srcK_d, srcU, inU_ts, pures, tup_LISTED, tup_PAIRED, tup_QUANTIFIED, innerW, optD, slU, asI, cutN1, cutN2]; done)
      | (cases a <;> simp (decide := true) [b_inner_things, evCl_0, evCl_1, evCl_2, evCl_3, evCl_4, evCl_k, evCl_k2, evCl_k2r, evCl_k3r, ev, tv, evs, evo, evc, evw, evV, evC, evT, ev2, ev1, evCh, evB, evIf, evNil, evCons, evTup, evLst, evCall, evSl, evNo, evPart, vAnd, vOr, vNot, tAndE, tOrE, tNotE, binU, cmpU, biU, meU, g1, g2, maxG, minG, Es.len, Tg.slots, Tgs.slots, ex, exs, exh, sNx, sBk, sCt, sSeq, sDrop, sRet, sRetN, sAsg, sPar2, sPar3, sSub, sIf, sRaise, asg, asgs, R.bind_ok, R.bind_err, R.bind_bad, R.stm_ok, R.stm_err, R.stm_bad, opt_some, opt_none, noErr_ok, noErr_bad, leave_d, leave_n, leave_e, leave_da, mkL_f, tru, truU, truD, asB, asBo, getU_t0, getU_t1, getU_t2, getU_t3, getU_l0, getU_l1, getU_l2, getU_m1, getU_m2, getU_m3, eqU_i, eqU_s, eqU_b, eqU_nil, eqU_nilL, eqv_ii, eqv_ss, eqv_tnil, eqv_lnil, bool_bne, lenU_t, lenU_l, tupleU_l, tupleU_t, isiU, tyN, isaB, tyNames, cmpI, negU, srcK_d, srcU, inU_ts, pures, tup_LISTED, tup_PAIRED, tup_QUANTIFIED, innerW, optD, slU, asI, cutN1, cutN2]; done)
      | simp [b_inner_things, evCl_0, evCl_1, evCl_2, evCl_3, evCl_4, evCl_k, evCl_k2, evCl_k2r, evCl_k3r, ev, tv, evs, evo, evc, evw, evV, evC, evT, ev2, ev1, evCh, evB, evIf, evNil, evCons, evTup, evLst, evCall, evSl, evNo, evPart, vAnd, vOr, vNot, tAndE, tOrE, tNotE, binU, cmpU, biU, meU, g1, g2, maxG, minG, Es.len, Tg.slots, Tgs.slots, ex, exs, exh, sNx, sBk, sCt, sSeq, sDrop, sRet, sRetN, sAsg, sPar2, sPar3, sSub, sIf, sRaise, asg, asgs, R.bind_ok, R.bind_err, R.bind_bad, R.stm_ok, R.stm_err, R.stm_bad, opt_some, opt_none, noErr_ok, noErr_bad, leave_d, leave_n, leave_e, leave_da, mkL_f, tru, truU, truD, asB, asBo, getU_t0, getU_t1, getU_t2, getU_t3, getU_l0, getU_l1, getU_l2, getU_m1, getU_m2, getU_m3, eqU_i, eqU_s, eqU_b, eqU_nil, eqU_nilL, eqv_ii, eqv_ss, eqv_tnil, eqv_lnil, bool_bne, lenU_t, lenU_l, tupleU_l, tupleU_t, isiU, tyN, isaB, tyNames, cmpI, negU, srcK_d, srcU, inU_ts, pures, tup_LISTED, tup_PAIRED, tup_QUANTIFIED, innerW, optD, n1, n2, n3, n4, n5, n6, n7, n8, n9, Ne.symm n1, Ne.symm n2, Ne.symm n3, Ne.symm n4, Ne.symm n5, Ne.symm n6, Ne.symm n7, Ne.symm n8, Ne.symm n9]
  | [a, b], _ =>
    have q := p_is_index (F := F) (k := k) a
    rcases words10 w with rfl | rfl | rfl | rfl | rfl | rfl | rfl | rfl | rfl | ⟨n1, n2, n3, n4, n5, n6, n7, n8, n9⟩
    all_goals first
      | (simp (decide := true) [b_inner_things, evCl_0, evCl_1, evCl_2, evCl_3, evCl_4, evCl_k, evCl_k2, evCl_k2r, evCl_k3r, ev, tv, evs, evo, evc, evw, evV, evC, evT, ev2, ev1, evCh, evB, evIf, evNil, evCons, evTup, evLst, evCall, evSl, evNo, evPart, vAnd, vOr, vNot, tAndE, tOrE, tNotE, binU, cmpU, biU, meU, g1, g2, maxG, minG, Es.len, Tg.slots, Tgs.slots, ex, exs, exh, sNx, sBk, sCt, sSeq, sDrop, sRet, sRetN, sAsg, sPar2, sPar3, sSub, sIf, sRaise, asg, asgs, R.bind_ok, R.bind_err, R.bind_bad, R.stm_ok, R.stm_err, R.stm_bad, opt_some, opt_none, noErr_ok, noErr_bad, leave_d, leave_n, leave_e, leave_da, mkL_f, tru, truU, truD, asB, asBo, getU_t0, getU_t1, getU_t2, getU_t3, getU_l0, getU_l1, getU_l2, getU_m1, getU_m2, getU_m3, eqU_i, eqU_s, eqU_b, eqU_nil, eqU_nilL, eqv_ii, eqv_ss, eqv_tnil, eqv_lnil, bool_bne, lenU_t, lenU_l, tupleU_l, tupleU_t, isiU, tyN, isaB, tyNames, cmpI, negU, srcK_d, srcU, inU_ts, pures, tup_LISTED, tup_PAIRED, tup_QUANTIFIED, innerW, optD, slU, asI, cutN1, cutN2, q]; done)
      | (cases hi : isIdx a <;> simp (decide := true) [b_inner_things, evCl_0, evCl_1, evCl_2, evCl_3, evCl_4, evCl_k, evCl_k2, evCl_k2r, evCl_k3r, ev, tv, evs, evo, evc, evw, evV, evC, evT, ev2, ev1, evCh, evB, evIf, evNil, evCons, evTup, evLst, evCall, evSl, evNo, evPart, vAnd, vOr, vNot, tAndE, tOrE, tNotE, binU, cmpU, biU, meU, g1, g2, maxG, minG, Es.len, Tg.slots, Tgs.slots, ex, exs, exh, sNx, sBk, sCt, sSeq, sDrop, sRet, sRetN, sAsg, sPar2, sPar3, sSub, sIf, sRaise, asg, asgs, R.bind_ok, R.bind_err, R.bind_bad, R.stm_ok, R.stm_err, R.stm_bad, opt_some, opt_none, noErr_ok, noErr_bad, leave_d, leave_n, leave_e, leave_da, mkL_f, tru, truU, truD, asB, asBo, getU_t0, getU_t1, getU_t2, getU_t3, getU_l0, getU_l1, getU_l2, getU_m1, getU_m2, getU_m3, eqU_i, eqU_s, eqU_b, eqU_nil, eqU_nilL, eqv_ii, eqv_ss, eqv_tnil, eqv_lnil, bool_bne, lenU_t, lenU_l, tupleU_l, tupleU_t, isiU, tyN, isaB, tyNames, cmpI, negU, srcK_d, srcU, inU_ts, pures, tup_LISTED, tup_PAIRED, tup_QUANTIFIED, innerW, optD, slU, asI, cutN1, cutN2, q, hi]; done)
      | simp [b_inner_things, evCl_0, evCl_1, evCl_2, evCl_3, evCl_4, evCl_k, evCl_k2, evCl_k2r, evCl_k3r, ev, tv, evs, evo, evc, evw, evV, evC, evT, ev2, ev1, evCh, evB, evIf, evNil, evCons, evTup, evLst, evCall, evSl, evNo, evPart, vAnd, vOr, vNot, tAndE, tOrE, tNotE, binU, cmpU, biU, meU, g1, g2, maxG, minG, Es.len, Tg.slots, Tgs.slots, ex, exs, exh, sNx, sBk, sCt, sSeq, sDrop, sRet, sRetN, sAsg, sPar2, sPar3, sSub, sIf, sRaise, asg, asgs, R.bind_ok, R.bind_err, R.bind_bad, R.stm_ok, R.stm_err, R.stm_bad, opt_some, opt_none, noErr_ok, noErr_bad, leave_d, leave_n, leave_e, leave_da, mkL_f, tru, truU, truD, asB, asBo, getU_t0, getU_t1, getU_t2, getU_t3, getU_l0, getU_l1, getU_l2, getU_m1, getU_m2, getU_m3, eqU_i, eqU_s, eqU_b, eqU_nil, eqU_nilL, eqv_ii, eqv_ss, eqv_tnil, eqv_lnil, bool_bne, lenU_t, lenU_l, tupleU_l, tupleU_t, isiU, tyN, isaB, tyNames, cmpI, negU, srcK_d, srcU, inU_ts, pures, tup_LISTED, tup_PAIRED, tup_QUANTIFIED, innerW, optD, n1, n2, n3, n4, n5, n6, n7, n8, n9, Ne.symm n1, Ne.symm n2, Ne.symm n3, Ne.symm n4, Ne.symm n5, Ne.symm n6, Ne.symm n7, Ne.symm n8, Ne.symm n9]

end K19

namespace K19
open PySem PySem.Spec PyProof.Rows L2 Py

variable {F k : Nat}
theorem formB_head {d : D} (h : formB d = true) : rowB 1 3 d = true ∧ ∃ w r, d = .tuple (.str w :: r) := by
  rw [formB_eq] at h
  rcases Bool.or_eq_true_iff.mp h with h | h
  · exact ⟨(atomB_row h).2.1, (atomB_row h).2.2⟩
  · cases q : innerB d with
    | none => rw [q] at h; cases h
    | some ds =>
      unfold innerB at q
      split at q
      · rename_i w1 r1
        split at q
        · rename_i hl
          refine ⟨?_, _, _, rfl⟩
          simp only [rowB, List.length_cons, Bool.and_eq_true, decide_eq_true_eq]
          omega
        · cases q
      · cases q
theorem bigs_snoc (xs : List D) (d : D) : bigs (xs ++ [d]) = bigs xs + big d := by rw [bigs_app]; simp [bigs]
theorem innerB_two (w : Str) (r : List D) (hl : r.length ≤ 2) : innerB (.tuple (.str w :: r)) = innerW w r := by simp [innerB, hl]
theorem test_w {C : Str → List U → List O → R U} (x : U) (u2 u3 : Option U) (ws : List D) (h : List O) : tv G C (.cmp .ne (.var 1) (.lst false .nil)) [some x, some (.lab h.length), u2, u3] (h ++ [.lst ws]) = .ok (!ws.isEmpty) (h ++ [.lst ws]) := by
  have hdep : PyData.depth (.list []) ≤ 64 := by decide
  have he : PyData.eqv (.list ws) (.list []) = ws.isEmpty := eqv_lnil
  cases hw : ws.isEmpty <;> rw [hw] at he <;> simp [ev, tv, evs, evo, evc, evw, evV, evC, evT, ev2, ev1, evCh, evB, evIf, evNil, evCons, evTup, evLst, evCall, evSl, evNo, evPart, vAnd, vOr, vNot, tAndE, tOrE, tNotE, binU, cmpU, biU, meU, g1, g2, maxG, minG, Es.len, Tg.slots, Tgs.slots, ex, exs, exh, sNx, sBk, sCt, sSeq, sDrop, sRet, sRetN, sAsg, sPar2, sPar3, sSub, sIf, sRaise, asg, asgs, R.bind_ok, R.bind_err, R.bind_bad, R.stm_ok, R.stm_err, R.stm_bad, opt_some, opt_none, noErr_ok, noErr_bad, leave_d, leave_n, leave_e, leave_da, mkL_f, tru, truU, truD, asB, asBo, Py.eqU, eqO, Py.dataOf, Py.listOf, hdep, he, pures]
/-- the look through what waits -/
theorem go_formula (x : U) : ∀ (n : Nat) (ws : List D) (u2 u3 : Option U) (h : List O), bigs ws ≤ n → bigs ws ≤ 1000000 →
    ∃ v2 v3 h', whGo (tv G (run G F (dsOf dd) (k + 6)) (.cmp .ne (.var 1) (.lst false .nil))) (exs G (run G F (dsOf dd) (k + 6)) F l_is_formula_0) (n + 1) [some x, some (.lab h.length), u2, u3] (h ++ [.lst ws]) =
      (if ws.all formB = true then .nx [some x, some (.lab h.length), v2, v3] (h ++ [.lst []]) else .ret (.d (.bool false)) (h ++ [h'])) := by
  intro n
  induction n with
  | zero =>
    intro ws u2 u3 h hn hb
    have hw : ws = [] := by
      cases ws with
      | nil => rfl
      | cons d r => have := big_pos d; simp [bigs] at hn; omega
    subst hw
    refine ⟨u2, u3, .lst [], ?_⟩
    unfold whGo
    rw [test_w]
    simp
  | succ n ih =>
    intro ws u2 u3 h hn hb
    rcases List.eq_nil_or_concat ws with rfl | ⟨ws', d, rfl⟩
    · refine ⟨u2, u3, .lst [], ?_⟩
      unfold whGo
      rw [test_w]
      simp
    · rw [List.concat_eq_append] at hn hb ⊢
      rw [bigs_snoc] at hn hb
      have hd := big_pos d
      have test := test_w (C := run G F (dsOf dd) (k + 6)) x u2 u3 (ws' ++ [d]) h
      rw [show (!(ws' ++ [d]).isEmpty) = true by simp] at test
      have hpop : popG (.lab h.length) [] (h ++ [.lst (ws' ++ [d])]) = .ok (.d d) (h ++ [.lst ws']) := by simp [popG]
      have hisl : isLst (.lab h.length) (h ++ [.lst (ws' ++ [d])]) = true := by simp [isLst]
      have hisl2 : ∀ ys, isLst (.lab h.length) (h ++ [.lst ys]) = true := fun ys => by simp [isLst]
      cases hr : rowB 1 3 d with
      | false =>
        have hf : formB d = false := by
          cases q : formB d with
          | false => rfl
          | true => rw [(formB_head q).1] at hr; cases hr
        refine ⟨none, none, .lst ws', ?_⟩
        unfold whGo
        rw [test]
        simp [l_is_formula_0, evCl_0, evCl_1, evCl_2, evCl_3, evCl_4, evCl_k, evCl_k2, evCl_k2r, evCl_k3r, ev, tv, evs, evo, evc, evw, evV, evC, evT, ev2, ev1, evCh, evB, evIf, evNil, evCons, evTup, evLst, evCall, evSl, evNo, evPart, vAnd, vOr, vNot, tAndE, tOrE, tNotE, binU, cmpU, biU, meU, g1, g2, maxG, minG, Es.len, Tg.slots, Tgs.slots, ex, exs, exh, sNx, sBk, sCt, sSeq, sDrop, sRet, sRetN, sAsg, sPar2, sPar3, sSub, sIf, sRaise, asg, asgs, R.bind_ok, R.bind_err, R.bind_bad, R.stm_ok, R.stm_err, R.stm_bad, opt_some, opt_none, noErr_ok, noErr_bad, leave_d, leave_n, leave_e, leave_da, mkL_f, tru, truU, truD, asB, asBo, evMe, hpop, hisl, p_is_row, hr, hf]
      | true =>
        obtain ⟨a, r, rfl, hl⟩ := rowB_13 hr
        by_cases hs : ∃ w, a = .str w
        · obtain ⟨w, rfl⟩ := hs
          have hatom := p_is_atom (F := F) (k := k + 1) (.tuple (.str w :: r)) (by omega)
          cases ha : atomB (.tuple (.str w :: r)) with
          | true =>
            have hf : formB (.tuple (.str w :: r)) = true := by rw [formB_eq, ha, Bool.true_or]
            obtain ⟨v2, v3, h', e⟩ := ih ws' (some (.d (.tuple (.str w :: r)))) u3 h (by omega) (by omega)
            refine ⟨v2, v3, h', ?_⟩
            unfold whGo
            rw [test]
            rw [List.all_append, List.all_cons, hf, List.all_nil, Bool.true_and, Bool.and_true]
            rw [← e]
            simp [l_is_formula_0, evCl_0, evCl_1, evCl_2, evCl_3, evCl_4, evCl_k, evCl_k2, evCl_k2r, evCl_k3r, ev, tv, evs, evo, evc, evw, evV, evC, evT, ev2, ev1, evCh, evB, evIf, evNil, evCons, evTup, evLst, evCall, evSl, evNo, evPart, vAnd, vOr, vNot, tAndE, tOrE, tNotE, binU, cmpU, biU, meU, g1, g2, maxG, minG, Es.len, Tg.slots, Tgs.slots, ex, exs, exh, sNx, sBk, sCt, sSeq, sDrop, sRet, sRetN, sAsg, sPar2, sPar3, sSub, sIf, sRaise, asg, asgs, R.bind_ok, R.bind_err, R.bind_bad, R.stm_ok, R.stm_err, R.stm_bad, opt_some, opt_none, noErr_ok, noErr_bad, leave_d, leave_n, leave_e, leave_da, mkL_f, tru, truU, truD, asB, asBo, getU_t0, getU_t1, getU_t2, getU_t3, getU_l0, getU_l1, getU_l2, getU_m1, getU_m2, getU_m3, eqU_i, eqU_s, eqU_b, eqU_nil, eqU_nilL, eqv_ii, eqv_ss, eqv_tnil, eqv_lnil, bool_bne, lenU_t, lenU_l, tupleU_l, tupleU_t, isiU, tyN, isaB, tyNames, cmpI, negU, srcK_d, srcU, evMe, hpop, hisl, p_is_row, hr, hatom, ha]
          | false =>
            have hin := p_inner_things (F := F) (k := k + 3) w r hl
            cases hi : innerW w r with
            | none =>
              have hf : formB (.tuple (.str w :: r)) = false := by rw [formB_eq, ha, innerB_two w r hl, hi]; rfl
              refine ⟨none, none, .lst ws', ?_⟩
              unfold whGo
              rw [test]
              rw [List.all_append, List.all_cons, hf]
              simp [l_is_formula_0, evCl_0, evCl_1, evCl_2, evCl_3, evCl_4, evCl_k, evCl_k2, evCl_k2r, evCl_k3r, ev, tv, evs, evo, evc, evw, evV, evC, evT, ev2, ev1, evCh, evB, evIf, evNil, evCons, evTup, evLst, evCall, evSl, evNo, evPart, vAnd, vOr, vNot, tAndE, tOrE, tNotE, binU, cmpU, biU, meU, g1, g2, maxG, minG, Es.len, Tg.slots, Tgs.slots, ex, exs, exh, sNx, sBk, sCt, sSeq, sDrop, sRet, sRetN, sAsg, sPar2, sPar3, sSub, sIf, sRaise, asg, asgs, R.bind_ok, R.bind_err, R.bind_bad, R.stm_ok, R.stm_err, R.stm_bad, opt_some, opt_none, noErr_ok, noErr_bad, leave_d, leave_n, leave_e, leave_da, mkL_f, tru, truU, truD, asB, asBo, getU_t0, getU_t1, getU_t2, getU_t3, getU_l0, getU_l1, getU_l2, getU_m1, getU_m2, getU_m3, eqU_i, eqU_s, eqU_b, eqU_nil, eqU_nilL, eqv_ii, eqv_ss, eqv_tnil, eqv_lnil, bool_bne, lenU_t, lenU_l, tupleU_l, tupleU_t, isiU, tyN, isaB, tyNames, cmpI, negU, srcK_d, srcU, evMe, hpop, hisl, p_is_row, hr, hatom, ha, hin, hi, optD, Py.isU, Py.isNon]
            | some ds =>
              have hbd := innerW_big hi
              have hbig : big (.tuple (.str w :: r)) = bigs r + 2 := by simp only [big, bigs]; omega
              have hlen := bigs_len (ws' ++ ds)
              have hlen2 : ws'.length + ds.length < 10000000 := by rw [bigs_app, List.length_append] at hlen; omega
              have hf : formB (.tuple (.str w :: r)) = ds.all formB := by rw [formB_eq, ha, innerB_two w r hl, hi, Bool.false_or]
              obtain ⟨v2, v3, h', e⟩ := ih (ws' ++ ds) (some (.d (.tuple (.str w :: r)))) (some (.d (.tuple ds))) h (by rw [bigs_app]; omega) (by rw [bigs_app]; omega)
              refine ⟨v2, v3, h', ?_⟩
              unfold whGo
              rw [test]
              rw [List.all_append, List.all_cons, hf, List.all_nil, Bool.and_true]
              rw [List.all_append] at e
              rw [← e]
              have hext : extG (.lab h.length) [.d (.tuple ds)] (h ++ [.lst ws']) = .ok (.d .none) (h ++ [.lst (ws' ++ ds)]) := by simp [extG, hlen2]
              simp [l_is_formula_0, evCl_0, evCl_1, evCl_2, evCl_3, evCl_4, evCl_k, evCl_k2, evCl_k2r, evCl_k3r, ev, tv, evs, evo, evc, evw, evV, evC, evT, ev2, ev1, evCh, evB, evIf, evNil, evCons, evTup, evLst, evCall, evSl, evNo, evPart, vAnd, vOr, vNot, tAndE, tOrE, tNotE, binU, cmpU, biU, meU, g1, g2, maxG, minG, Es.len, Tg.slots, Tgs.slots, ex, exs, exh, sNx, sBk, sCt, sSeq, sDrop, sRet, sRetN, sAsg, sPar2, sPar3, sSub, sIf, sRaise, asg, asgs, R.bind_ok, R.bind_err, R.bind_bad, R.stm_ok, R.stm_err, R.stm_bad, opt_some, opt_none, noErr_ok, noErr_bad, leave_d, leave_n, leave_e, leave_da, mkL_f, tru, truU, truD, asB, asBo, getU_t0, getU_t1, getU_t2, getU_t3, getU_l0, getU_l1, getU_l2, getU_m1, getU_m2, getU_m3, eqU_i, eqU_s, eqU_b, eqU_nil, eqU_nilL, eqv_ii, eqv_ss, eqv_tnil, eqv_lnil, bool_bne, lenU_t, lenU_l, tupleU_l, tupleU_t, isiU, tyN, isaB, tyNames, cmpI, negU, srcK_d, srcU, evMe, hpop, hisl, hisl2, p_is_row, hr, hatom, ha, hin, hi, optD, Py.isU, Py.isNon, hext]
        · have hf : formB (.tuple (a :: r)) = false := by
            cases q : formB (.tuple (a :: r)) with
            | false => rfl
            | true => obtain ⟨w, r', e⟩ := (formB_head q).2; cases e; exact absurd ⟨w, rfl⟩ hs
          refine ⟨none, none, .lst ws', ?_⟩
          unfold whGo
          rw [test]
          rw [List.all_append, List.all_cons, hf]
          cases a <;> first | exact absurd ⟨_, rfl⟩ hs | simp [l_is_formula_0, evCl_0, evCl_1, evCl_2, evCl_3, evCl_4, evCl_k, evCl_k2, evCl_k2r, evCl_k3r, ev, tv, evs, evo, evc, evw, evV, evC, evT, ev2, ev1, evCh, evB, evIf, evNil, evCons, evTup, evLst, evCall, evSl, evNo, evPart, vAnd, vOr, vNot, tAndE, tOrE, tNotE, binU, cmpU, biU, meU, g1, g2, maxG, minG, Es.len, Tg.slots, Tgs.slots, ex, exs, exh, sNx, sBk, sCt, sSeq, sDrop, sRet, sRetN, sAsg, sPar2, sPar3, sSub, sIf, sRaise, asg, asgs, R.bind_ok, R.bind_err, R.bind_bad, R.stm_ok, R.stm_err, R.stm_bad, opt_some, opt_none, noErr_ok, noErr_bad, leave_d, leave_n, leave_e, leave_da, mkL_f, tru, truU, truD, asB, asBo, getU_t0, getU_t1, getU_t2, getU_t3, getU_l0, getU_l1, getU_l2, getU_m1, getU_m2, getU_m3, eqU_i, eqU_s, eqU_b, eqU_nil, eqU_nilL, eqv_ii, eqv_ss, eqv_tnil, eqv_lnil, bool_bne, lenU_t, lenU_l, tupleU_l, tupleU_t, isiU, tyN, isaB, tyNames, cmpI, negU, srcK_d, srcU, evMe, hpop, hisl, p_is_row, hr]
theorem p_is_formula (d : D) (hb : big d ≤ 1000000) (hF : big d + 1 ≤ F) (h : List O) : run G F (dsOf dd) (k + 7) "is_formula" [.d d] h = .ok (.d (.bool (formB d))) h := by
  rw [r_is_formula]
  obtain ⟨n, hn⟩ : ∃ n, F = n + 1 := ⟨F - 1, by omega⟩
  have hbs : bigs [d] = big d := by simp [bigs]
  obtain ⟨v2, v3, h', e⟩ := go_formula (F := F) (k := k) (.d d) n [d] none none h (by omega) (by omega)
  have e2 : ex G (run G F (dsOf dd) (k + 6)) F f_is_formula_0 [some (.d d), some (.lab h.length), none, none] (h ++ [.lst [d]]) = if formB d = true then .nx [some (.d d), some (.lab h.length), v2, v3] (h ++ [.lst []]) else .ret (.d (.bool false)) (h ++ [h']) := by
    have e' : ex G (run G F (dsOf dd) (k + 6)) F f_is_formula_0 [some (.d d), some (.lab h.length), none, none] (h ++ [.lst [d]]) = whGo (tv G (run G F (dsOf dd) (k + 6)) (.cmp .ne (.var 1) (.lst false .nil))) (exs G (run G F (dsOf dd) (k + 6)) F l_is_formula_0) F [some (.d d), some (.lab h.length), none, none] (h ++ [.lst [d]]) := rfl
    rw [e', show whGo (tv G (run G F (dsOf dd) (k + 6)) (.cmp .ne (.var 1) (.lst false .nil))) (exs G (run G F (dsOf dd) (k + 6)) F l_is_formula_0) F = whGo (tv G (run G F (dsOf dd) (k + 6)) (.cmp .ne (.var 1) (.lst false .nil))) (exs G (run G F (dsOf dd) (k + 6)) F l_is_formula_0) (n + 1) from by rw [← hn], e]
    simp
  cases hf : formB d with
  | true =>
    rw [hf, if_pos rfl] at e2
    simp [b_is_formula, evCl_0, evCl_1, evCl_2, evCl_3, evCl_4, evCl_k, evCl_k2, evCl_k2r, evCl_k3r, ev, tv, evs, evo, evc, evw, evV, evC, evT, ev2, ev1, evCh, evB, evIf, evNil, evCons, evTup, evLst, evCall, evSl, evNo, evPart, vAnd, vOr, vNot, tAndE, tOrE, tNotE, binU, cmpU, biU, meU, g1, g2, maxG, minG, Es.len, Tg.slots, Tgs.slots, ex, exs, exh, sNx, sBk, sCt, sSeq, sDrop, sRet, sRetN, sAsg, sPar2, sPar3, sSub, sIf, sRaise, asg, asgs, R.bind_ok, R.bind_err, R.bind_bad, R.stm_ok, R.stm_err, R.stm_bad, opt_some, opt_none, noErr_ok, noErr_bad, leave_d, leave_n, leave_e, leave_da, mkL_f, tru, truU, truD, asB, asBo, pures, mkL_t, e2]
  | false =>
    rw [hf, if_neg Bool.false_ne_true] at e2
    simp [b_is_formula, evCl_0, evCl_1, evCl_2, evCl_3, evCl_4, evCl_k, evCl_k2, evCl_k2r, evCl_k3r, ev, tv, evs, evo, evc, evw, evV, evC, evT, ev2, ev1, evCh, evB, evIf, evNil, evCons, evTup, evLst, evCall, evSl, evNo, evPart, vAnd, vOr, vNot, tAndE, tOrE, tNotE, binU, cmpU, biU, meU, g1, g2, maxG, minG, Es.len, Tg.slots, Tgs.slots, ex, exs, exh, sNx, sBk, sCt, sSeq, sDrop, sRet, sRetN, sAsg, sPar2, sPar3, sSub, sIf, sRaise, asg, asgs, R.bind_ok, R.bind_err, R.bind_bad, R.stm_ok, R.stm_err, R.stm_bad, opt_some, opt_none, noErr_ok, noErr_bad, leave_d, leave_n, leave_e, leave_da, mkL_f, tru, truU, truD, asB, asBo, pures, mkL_t, e2]
/-! ### what formulas are made of -/
theorem p_inner_of (f : Fm) (hf : f.Ok) (h : List O) : run G F (dsOf dd) (k + 4) "inner_of" [.d f.d] h = .ok (.d (.tuple (f.kids.map Fm.d))) h := by
  rw [r_inner_of]
  have q := fun w r hl => p_inner_things (F := F) (k := k) w r hl h
  cases f
  case ex v g =>
    have hv : 0 ≤ v := hf.good
    simp (decide := true) [b_inner_of, evCl_0, evCl_1, evCl_2, evCl_3, evCl_4, evCl_k, evCl_k2, evCl_k2r, evCl_k3r, ev, tv, evs, evo, evc, evw, evV, evC, evT, ev2, ev1, evCh, evB, evIf, evNil, evCons, evTup, evLst, evCall, evSl, evNo, evPart, vAnd, vOr, vNot, tAndE, tOrE, tNotE, binU, cmpU, biU, meU, g1, g2, maxG, minG, Es.len, Tg.slots, Tgs.slots, ex, exs, exh, sNx, sBk, sCt, sSeq, sDrop, sRet, sRetN, sAsg, sPar2, sPar3, sSub, sIf, sRaise, asg, asgs, R.bind_ok, R.bind_err, R.bind_bad, R.stm_ok, R.stm_err, R.stm_bad, opt_some, opt_none, noErr_ok, noErr_bad, leave_d, leave_n, leave_e, leave_da, mkL_f, tru, truU, truD, asB, asBo, getU_t0, getU_t1, getU_t2, getU_t3, getU_l0, getU_l1, getU_l2, getU_m1, getU_m2, getU_m3, eqU_i, eqU_s, eqU_b, eqU_nil, eqU_nilL, eqv_ii, eqv_ss, eqv_tnil, eqv_lnil, bool_bne, lenU_t, lenU_l, tupleU_l, tupleU_t, isiU, tyN, isaB, tyNames, cmpI, negU, srcK_d, srcU, Fm.d, inU_ts, pures, q, innerW, optD, Fm.kids, Fm.ds_eq, isIdx, hv]
  case all v g =>
    have hv : 0 ≤ v := hf.good
    simp (decide := true) [b_inner_of, evCl_0, evCl_1, evCl_2, evCl_3, evCl_4, evCl_k, evCl_k2, evCl_k2r, evCl_k3r, ev, tv, evs, evo, evc, evw, evV, evC, evT, ev2, ev1, evCh, evB, evIf, evNil, evCons, evTup, evLst, evCall, evSl, evNo, evPart, vAnd, vOr, vNot, tAndE, tOrE, tNotE, binU, cmpU, biU, meU, g1, g2, maxG, minG, Es.len, Tg.slots, Tgs.slots, ex, exs, exh, sNx, sBk, sCt, sSeq, sDrop, sRet, sRetN, sAsg, sPar2, sPar3, sSub, sIf, sRaise, asg, asgs, R.bind_ok, R.bind_err, R.bind_bad, R.stm_ok, R.stm_err, R.stm_bad, opt_some, opt_none, noErr_ok, noErr_bad, leave_d, leave_n, leave_e, leave_da, mkL_f, tru, truU, truD, asB, asBo, getU_t0, getU_t1, getU_t2, getU_t3, getU_l0, getU_l1, getU_l2, getU_m1, getU_m2, getU_m3, eqU_i, eqU_s, eqU_b, eqU_nil, eqU_nilL, eqv_ii, eqv_ss, eqv_tnil, eqv_lnil, bool_bne, lenU_t, lenU_l, tupleU_l, tupleU_t, isiU, tyN, isaB, tyNames, cmpI, negU, srcK_d, srcU, Fm.d, inU_ts, pures, q, innerW, optD, Fm.kids, Fm.ds_eq, isIdx, hv]
  all_goals simp (decide := true) [b_inner_of, evCl_0, evCl_1, evCl_2, evCl_3, evCl_4, evCl_k, evCl_k2, evCl_k2r, evCl_k3r, ev, tv, evs, evo, evc, evw, evV, evC, evT, ev2, ev1, evCh, evB, evIf, evNil, evCons, evTup, evLst, evCall, evSl, evNo, evPart, vAnd, vOr, vNot, tAndE, tOrE, tNotE, binU, cmpU, biU, meU, g1, g2, maxG, minG, Es.len, Tg.slots, Tgs.slots, ex, exs, exh, sNx, sBk, sCt, sSeq, sDrop, sRet, sRetN, sAsg, sPar2, sPar3, sSub, sIf, sRaise, asg, asgs, R.bind_ok, R.bind_err, R.bind_bad, R.stm_ok, R.stm_err, R.stm_bad, opt_some, opt_none, noErr_ok, noErr_bad, leave_d, leave_n, leave_e, leave_da, mkL_f, tru, truU, truD, asB, asBo, getU_t0, getU_t1, getU_t2, getU_t3, getU_l0, getU_l1, getU_l2, getU_m1, getU_m2, getU_m3, eqU_i, eqU_s, eqU_b, eqU_nil, eqU_nilL, eqv_ii, eqv_ss, eqv_tnil, eqv_lnil, bool_bne, lenU_t, lenU_l, tupleU_l, tupleU_t, isiU, tyN, isaB, tyNames, cmpI, negU, srcK_d, srcU, Fm.d, inU_ts, pures, q, innerW, optD, Fm.kids, Fm.ds_eq]
theorem kids_len (f : Fm) : f.kids.length ≤ f.size := by
  rw [Fm.size_kids]
  have : ∀ l : List Fm, l.length ≤ (l.map Fm.size).sum := fun l => by
    induction l with
    | nil => simp
    | cons x r ih => rw [List.map_cons, List.sum_cons, List.length_cons]; have := x.size_pos; omega
  have := this f.kids
  omega
theorem sum_cast (l : List Nat) : (l.map fun (n : Nat) => (n : Int)).sum = (l.sum : Nat) := by
  induction l with
  | nil => rfl
  | cons x r ih => rw [List.map_cons, List.sum_cons, List.sum_cons, ih]; simp
theorem map_us {α : Type} (l : List α) (f : α → D) (g : α → D) : l.map (fun a => U.d (f a)) = (l.map f).map U.d := by rw [List.map_map]; rfl
/-- a comprehension over the parts of a formula, each told by itself -/
theorem ev_kids {C : Str → List U → List O → R U} {m : Bool} {t : Tg} {w : Wk} {e : Ex} {σ : En} {h h1 : List O} (gs : List Fm) (g : Fm → D) (q : evw G C w σ h = .ok (.fix (gs.map fun f => U.d f.d)) h1) (hl : gs.length ≤ 10000000) (hs : ∀ f ∈ gs, ∃ σ1, asg t (.d f.d) (wipeE σ t.slots) = some σ1 ∧ ∀ acc, ev G C e σ1 (h1 ++ [.lst acc]) = .ok (.d (g f)) (h1 ++ [.lst acc])) :
    ev G C (.lc m t w .no e) σ h = mkL m (gs.map g) h1 := by
  obtain ⟨ys, hh, e1, ⟨rfl, e2⟩, _⟩ := ev_lcI (m := m) (t := t) (e := e) (σ := σ) (us := gs.map fun f => U.d f.d) (h1 := h1) (fun pre ys hh => hh = h1 ∧ ys = (gs.take pre.length).map g) (fun pre ys hh z => by rw [z.1]) q ⟨rfl, rfl⟩ (fun pre u r ys hh eq hI => by
    obtain ⟨rfl, rfl⟩ := hI
    obtain ⟨f, rfl, hm, _, ht, _⟩ := map_split eq
    obtain ⟨σ1, a, b⟩ := hs f hm
    exact ⟨σ1, g f, hh, a, ⟨rfl, by rw [List.length_append, List.length_singleton, ht, List.map_append]; rfl⟩, b⟩) (by simpa using hl)
  rw [e1, e2, List.length_map, List.take_length]
theorem p_size_of : ∀ (f : Fm), f.Ok → f.size ≤ 1000000 → ∀ (n k : Nat) (h : List O), f.deep ≤ n → run G F (dsOf dd) (k + n + 4) "size_of" [.d f.d] h = .ok (.d (.int f.size)) h := by
  intro f
  induction f using Fm.ind with
  | h f ih =>
    intro ok hs n k h hn
    obtain ⟨m, rfl⟩ : ∃ m, n = m + 1 := ⟨n - 1, by have := Fm.deep_kids f; omega⟩
    rw [show k + (m + 1) + 4 = (k + m + 4) + 1 by omega, r_size_of]
    have key : ev G (run G F (dsOf dd) (k + m + 4)) c_size_of_0 [some (.d f.d), none] h = mkL false (f.kids.map fun g => .int g.size) h := by
      refine ev_kids (h1 := h) f.kids (fun g => .int g.size) ?_ (by have := kids_len f; omega) (fun g hg => ⟨[some (.d f.d), some (.d g.d)], rfl, fun acc => ?_⟩)
      · simp [evCl_0, evCl_1, evCl_2, evCl_3, evCl_4, evCl_k, evCl_k2, evCl_k2r, evCl_k3r, ev, tv, evs, evo, evc, evw, evV, evC, evT, ev2, ev1, evCh, evB, evIf, evNil, evCons, evTup, evLst, evCall, evSl, evNo, evPart, vAnd, vOr, vNot, tAndE, tOrE, tNotE, binU, cmpU, biU, meU, g1, g2, maxG, minG, Es.len, Tg.slots, Tgs.slots, ex, exs, exh, sNx, sBk, sCt, sSeq, sDrop, sRet, sRetN, sAsg, sPar2, sPar3, sSub, sIf, sRaise, asg, asgs, R.bind_ok, R.bind_err, R.bind_bad, R.stm_ok, R.stm_err, R.stm_bad, opt_some, opt_none, noErr_ok, noErr_bad, leave_d, leave_n, leave_e, leave_da, mkL_f, tru, truU, truD, asB, asBo, p_inner_of (k := k + m) f ok, srcU]
      · have := Fm.size_kid hg
        have := Fm.deep_kid hg
        have q := ih g hg (ok.kid hg) (by omega) m k (h ++ [.lst acc]) (by omega)
        simp [evCl_0, evCl_1, evCl_2, evCl_3, evCl_4, evCl_k, evCl_k2, evCl_k2r, evCl_k3r, ev, tv, evs, evo, evc, evw, evV, evC, evT, ev2, ev1, evCh, evB, evIf, evNil, evCons, evTup, evLst, evCall, evSl, evNo, evPart, vAnd, vOr, vNot, tAndE, tOrE, tNotE, binU, cmpU, biU, meU, g1, g2, maxG, minG, Es.len, Tg.slots, Tgs.slots, ex, exs, exh, sNx, sBk, sCt, sSeq, sDrop, sRet, sRetN, sAsg, sPar2, sPar3, sSub, sIf, sRaise, asg, asgs, R.bind_ok, R.bind_err, R.bind_bad, R.stm_ok, R.stm_err, R.stm_bad, opt_some, opt_none, noErr_ok, noErr_bad, leave_d, leave_n, leave_e, leave_da, mkL_f, tru, truU, truD, asB, asBo, q]
    have q2 := sumU_map (h := h) (fun g : Fm => (g.size : Int)) f.kids
    have q3 : (f.kids.map fun g => (g.size : Int)).sum + 1 = f.size := by
      rw [Fm.size_kids f, show (f.kids.map fun g => (g.size : Int)) = (f.kids.map Fm.size).map (fun (n : Nat) => (n : Int)) by rw [List.map_map]; rfl, sum_cast]
      simp
    simp [b_size_of, evCl_0, evCl_1, evCl_2, evCl_3, evCl_4, evCl_k, evCl_k2, evCl_k2r, evCl_k3r, ev, tv, evs, evo, evc, evw, evV, evC, evT, ev2, ev1, evCh, evB, evIf, evNil, evCons, evTup, evLst, evCall, evSl, evNo, evPart, vAnd, vOr, vNot, tAndE, tOrE, tNotE, binU, cmpU, biU, meU, g1, g2, maxG, minG, Es.len, Tg.slots, Tgs.slots, ex, exs, exh, sNx, sBk, sCt, sSeq, sDrop, sRet, sRetN, sAsg, sPar2, sPar3, sSub, sIf, sRaise, asg, asgs, R.bind_ok, R.bind_err, R.bind_bad, R.stm_ok, R.stm_err, R.stm_bad, opt_some, opt_none, noErr_ok, noErr_bad, leave_d, leave_n, leave_e, leave_da, mkL_f, tru, truU, truD, asB, asBo, key, q2, addU_i]
    omega
theorem maxL_cast : ∀ (l : List Nat) (m : Nat), maxL (m : Int) (l.map fun (n : Nat) => (n : Int)) = (maxN (m :: l) : Nat)
  | [], m => by simp [maxL, maxN]
  | x :: r, m => by
    by_cases hx : m < x
    · have ih := maxL_cast r x
      rw [List.map_cons, maxL, if_pos (by omega), ih]
      unfold maxN
      rw [List.foldr_cons, List.foldr_cons, List.foldr_cons]
      omega
    · have ih := maxL_cast r m
      rw [List.map_cons, maxL, if_neg (by omega), ih]
      unfold maxN
      rw [List.foldr_cons, List.foldr_cons, List.foldr_cons]
      omega
theorem p_depth_of : ∀ (f : Fm), f.Ok → f.size ≤ 1000000 → ∀ (n k : Nat) (h : List O), f.deep ≤ n → run G F (dsOf dd) (k + n + 4) "depth_of" [.d f.d] h = .ok (.d (.int f.deep)) h := by
  intro f
  induction f using Fm.ind with
  | h f ih =>
    intro ok hs n k h hn
    obtain ⟨m, rfl⟩ : ∃ m, n = m + 1 := ⟨n - 1, by have := Fm.deep_kids f; omega⟩
    rw [show k + (m + 1) + 4 = (k + m + 4) + 1 by omega, r_depth_of]
    have key : ev G (run G F (dsOf dd) (k + m + 4)) c_depth_of_0 [some (.d f.d), none] h = mkL false (f.kids.map fun g => .int g.deep) h := by
      refine ev_kids (h1 := h) f.kids (fun g => .int g.deep) ?_ (by have := kids_len f; omega) (fun g hg => ⟨[some (.d f.d), some (.d g.d)], rfl, fun acc => ?_⟩)
      · simp [evCl_0, evCl_1, evCl_2, evCl_3, evCl_4, evCl_k, evCl_k2, evCl_k2r, evCl_k3r, ev, tv, evs, evo, evc, evw, evV, evC, evT, ev2, ev1, evCh, evB, evIf, evNil, evCons, evTup, evLst, evCall, evSl, evNo, evPart, vAnd, vOr, vNot, tAndE, tOrE, tNotE, binU, cmpU, biU, meU, g1, g2, maxG, minG, Es.len, Tg.slots, Tgs.slots, ex, exs, exh, sNx, sBk, sCt, sSeq, sDrop, sRet, sRetN, sAsg, sPar2, sPar3, sSub, sIf, sRaise, asg, asgs, R.bind_ok, R.bind_err, R.bind_bad, R.stm_ok, R.stm_err, R.stm_bad, opt_some, opt_none, noErr_ok, noErr_bad, leave_d, leave_n, leave_e, leave_da, mkL_f, tru, truU, truD, asB, asBo, p_inner_of (k := k + m) f ok, srcU]
      · have := Fm.size_kid hg
        have := Fm.deep_kid hg
        have q := ih g hg (ok.kid hg) (by omega) m k (h ++ [.lst acc]) (by omega)
        simp [evCl_0, evCl_1, evCl_2, evCl_3, evCl_4, evCl_k, evCl_k2, evCl_k2r, evCl_k3r, ev, tv, evs, evo, evc, evw, evV, evC, evT, ev2, ev1, evCh, evB, evIf, evNil, evCons, evTup, evLst, evCall, evSl, evNo, evPart, vAnd, vOr, vNot, tAndE, tOrE, tNotE, binU, cmpU, biU, meU, g1, g2, maxG, minG, Es.len, Tg.slots, Tgs.slots, ex, exs, exh, sNx, sBk, sCt, sSeq, sDrop, sRet, sRetN, sAsg, sPar2, sPar3, sSub, sIf, sRaise, asg, asgs, R.bind_ok, R.bind_err, R.bind_bad, R.stm_ok, R.stm_err, R.stm_bad, opt_some, opt_none, noErr_ok, noErr_bad, leave_d, leave_n, leave_e, leave_da, mkL_f, tru, truU, truD, asB, asBo, q]
    have q2 : maxDU (.d (.list (f.kids.map fun g => .int g.deep))) (.d (.int 0)) h = .ok (.d (.int (maxN (f.kids.map Fm.deep) : Nat))) h := by
      have e1 := intsOf_map' (fun g : Fm => (g.deep : Int)) f.kids
      have e2 : (f.kids.map fun g => (g.deep : Int)) = (f.kids.map Fm.deep).map (fun (n : Nat) => (n : Int)) := by rw [List.map_map]; rfl
      rw [e2] at e1
      simp only [maxDU, Py.listOf, Option.bind_some, e1, opt_some, R.bind_ok, asI]
      cases hk : f.kids.map Fm.deep with
      | nil => rfl
      | cons x r => rw [List.map_cons]; simp only [maxL_cast]
    have q3 := Fm.deep_kids f
    simp [b_depth_of, evCl_0, evCl_1, evCl_2, evCl_3, evCl_4, evCl_k, evCl_k2, evCl_k2r, evCl_k3r, ev, tv, evs, evo, evc, evw, evV, evC, evT, ev2, ev1, evCh, evB, evIf, evNil, evCons, evTup, evLst, evCall, evSl, evNo, evPart, vAnd, vOr, vNot, tAndE, tOrE, tNotE, binU, cmpU, biU, meU, g1, g2, maxG, minG, Es.len, Tg.slots, Tgs.slots, ex, exs, exh, sNx, sBk, sCt, sSeq, sDrop, sRet, sRetN, sAsg, sPar2, sPar3, sSub, sIf, sRaise, asg, asgs, R.bind_ok, R.bind_err, R.bind_bad, R.stm_ok, R.stm_err, R.stm_bad, opt_some, opt_none, noErr_ok, noErr_bad, leave_d, leave_n, leave_e, leave_da, mkL_f, tru, truU, truD, asB, asBo, key, q2, addU_i]
    omega

end K19

namespace K19
open PySem PySem.Spec PyProof.Rows L2 Py

variable {F k : Nat}
theorem atom_words (f : Fm) : ∃ w r, f.d = .tuple (.str w :: r) ∧ ([PyData.str "ge", .str "eq", .str "div"].any fun z => PyData.eqv z (.str w)) = f.isAtom ∧ ([PyData.str "exists", .str "forall"].any fun z => PyData.eqv z (.str w)) = f.isQ := by
  cases f
  all_goals exact ⟨_, _, by rw [Fm.d], by simp (decide := true) [Fm.isAtom], by simp (decide := true) [Fm.isQ]⟩
theorem sum_len_le {l : List Fm} {g : Fm → Nat} (h : ∀ x ∈ l, g x ≤ x.size) : (l.map g).sum ≤ (l.map Fm.size).sum := by
  induction l with
  | nil => simp
  | cons x r ih =>
    rw [List.map_cons, List.map_cons, List.sum_cons, List.sum_cons]
    have := h x List.mem_cons_self
    have := ih fun y hy => h y (List.mem_cons_of_mem _ hy)
    omega
theorem p_atoms_of : ∀ (f : Fm), f.Ok → f.size ≤ 1000000 → ∀ (n k : Nat) (h : List O), f.deep ≤ n → run G F (dsOf dd) (k + n + 4) "atoms_of" [.d f.d] h = .ok (.d (.list (f.atoms.map Fm.d))) h := by
  intro f
  induction f using Fm.ind with
  | h f ih =>
    intro ok hs n k h hn
    obtain ⟨m, rfl⟩ : ∃ m, n = m + 1 := ⟨n - 1, by have := Fm.deep_kids f; omega⟩
    rw [show k + (m + 1) + 4 = (k + m + 4) + 1 by omega, r_atoms_of]
    obtain ⟨w, r, e, hw, _⟩ := atom_words f
    cases ha : f.isAtom with
    | true =>
      rw [Fm.atoms_self f ha, e]
      rw [ha] at hw
      simp [b_atoms_of, evCl_0, evCl_1, evCl_2, evCl_3, evCl_4, evCl_k, evCl_k2, evCl_k2r, evCl_k3r, ev, tv, evs, evo, evc, evw, evV, evC, evT, ev2, ev1, evCh, evB, evIf, evNil, evCons, evTup, evLst, evCall, evSl, evNo, evPart, vAnd, vOr, vNot, tAndE, tOrE, tNotE, binU, cmpU, biU, meU, g1, g2, maxG, minG, Es.len, Tg.slots, Tgs.slots, ex, exs, exh, sNx, sBk, sCt, sSeq, sDrop, sRet, sRetN, sAsg, sPar2, sPar3, sSub, sIf, sRaise, asg, asgs, R.bind_ok, R.bind_err, R.bind_bad, R.stm_ok, R.stm_err, R.stm_bad, opt_some, opt_none, noErr_ok, noErr_bad, leave_d, leave_n, leave_e, leave_da, mkL_f, tru, truU, truD, asB, asBo, getU_t0, getU_t1, getU_t2, getU_t3, getU_l0, getU_l1, getU_l2, getU_m1, getU_m2, getU_m3, eqU_i, eqU_s, eqU_b, eqU_nil, eqU_nilL, eqv_ii, eqv_ss, eqv_tnil, eqv_lnil, bool_bne, lenU_t, lenU_l, tupleU_l, tupleU_t, isiU, tyN, isaB, tyNames, cmpI, negU, srcK_d, srcU, inU_ts, pures, hw, -eqv_ss, -List.any_cons, e]
    | false =>
      have key : ev G (run G F (dsOf dd) (k + m + 4)) c_atoms_of_0 [some (.d f.d), none, none] h = mkL false (f.kids.flatMap fun g => g.atoms.map Fm.d) h := by
        refine ev_lc2D f.kids Fm.d (fun g => g.atoms.map Fm.d) ?_ (fun g hg => ⟨[some (.d f.d), some (.d g.d), none], rfl, fun acc => ?_, fun x hx => ⟨[some (.d f.d), some (.d g.d), some (.d x)], rfl, fun acc => by simp [ev, tv, evs, evo, evc, evw, evV, evC, evT, ev2, ev1, evCh, evB, evIf, evNil, evCons, evTup, evLst, evCall, evSl, evNo, evPart, vAnd, vOr, vNot, tAndE, tOrE, tNotE, binU, cmpU, biU, meU, g1, g2, maxG, minG, Es.len, Tg.slots, Tgs.slots, ex, exs, exh, sNx, sBk, sCt, sSeq, sDrop, sRet, sRetN, sAsg, sPar2, sPar3, sSub, sIf, sRaise, asg, asgs, R.bind_ok, R.bind_err, R.bind_bad, R.stm_ok, R.stm_err, R.stm_bad, opt_some, opt_none, noErr_ok, noErr_bad, leave_d, leave_n, leave_e, leave_da, mkL_f, tru, truU, truD, asB, asBo]⟩⟩) ?_
        · simp [evCl_0, evCl_1, evCl_2, evCl_3, evCl_4, evCl_k, evCl_k2, evCl_k2r, evCl_k3r, ev, tv, evs, evo, evc, evw, evV, evC, evT, ev2, ev1, evCh, evB, evIf, evNil, evCons, evTup, evLst, evCall, evSl, evNo, evPart, vAnd, vOr, vNot, tAndE, tOrE, tNotE, binU, cmpU, biU, meU, g1, g2, maxG, minG, Es.len, Tg.slots, Tgs.slots, ex, exs, exh, sNx, sBk, sCt, sSeq, sDrop, sRet, sRetN, sAsg, sPar2, sPar3, sSub, sIf, sRaise, asg, asgs, R.bind_ok, R.bind_err, R.bind_bad, R.stm_ok, R.stm_err, R.stm_bad, opt_some, opt_none, noErr_ok, noErr_bad, leave_d, leave_n, leave_e, leave_da, mkL_f, tru, truU, truD, asB, asBo, p_inner_of (k := k + m) f ok, srcU]
        · have := Fm.size_kid hg
          have := Fm.deep_kid hg
          have q := ih g hg (ok.kid hg) (by omega) m k (h ++ [.lst acc]) (by omega)
          simp [evCl_0, evCl_1, evCl_2, evCl_3, evCl_4, evCl_k, evCl_k2, evCl_k2r, evCl_k3r, ev, tv, evs, evo, evc, evw, evV, evC, evT, ev2, ev1, evCh, evB, evIf, evNil, evCons, evTup, evLst, evCall, evSl, evNo, evPart, vAnd, vOr, vNot, tAndE, tOrE, tNotE, binU, cmpU, biU, meU, g1, g2, maxG, minG, Es.len, Tg.slots, Tgs.slots, ex, exs, exh, sNx, sBk, sCt, sSeq, sDrop, sRet, sRetN, sAsg, sPar2, sPar3, sSub, sIf, sRaise, asg, asgs, R.bind_ok, R.bind_err, R.bind_bad, R.stm_ok, R.stm_err, R.stm_bad, opt_some, opt_none, noErr_ok, noErr_bad, leave_d, leave_n, leave_e, leave_da, mkL_f, tru, truU, truD, asB, asBo, q, srcU]
        · have := sum_len_le (l := f.kids) (g := fun g => (g.atoms.map Fm.d).length) fun x _ => by rw [List.length_map]; exact x.atoms_len
          have := Fm.size_kids f
          omega
      rw [ha] at hw
      rw [e] at key ⊢
      have fin : f.kids.flatMap (fun g => g.atoms.map Fm.d) = f.atoms.map Fm.d := by rw [Fm.atoms_kids f ha, List.map_flatMap]
      rw [fin] at key
      simp [b_atoms_of, evCl_0, evCl_1, evCl_2, evCl_3, evCl_4, evCl_k, evCl_k2, evCl_k2r, evCl_k3r, ev, tv, evs, evo, evc, evw, evV, evC, evT, ev2, ev1, evCh, evB, evIf, evNil, evCons, evTup, evLst, evCall, evSl, evNo, evPart, vAnd, vOr, vNot, tAndE, tOrE, tNotE, binU, cmpU, biU, meU, g1, g2, maxG, minG, Es.len, Tg.slots, Tgs.slots, ex, exs, exh, sNx, sBk, sCt, sSeq, sDrop, sRet, sRetN, sAsg, sPar2, sPar3, sSub, sIf, sRaise, asg, asgs, R.bind_ok, R.bind_err, R.bind_bad, R.stm_ok, R.stm_err, R.stm_bad, opt_some, opt_none, noErr_ok, noErr_bad, leave_d, leave_n, leave_e, leave_da, mkL_f, tru, truU, truD, asB, asBo, getU_t0, getU_t1, getU_t2, getU_t3, getU_l0, getU_l1, getU_l2, getU_m1, getU_m2, getU_m3, eqU_i, eqU_s, eqU_b, eqU_nil, eqU_nilL, eqv_ii, eqv_ss, eqv_tnil, eqv_lnil, bool_bne, lenU_t, lenU_l, tupleU_l, tupleU_t, isiU, tyN, isaB, tyNames, cmpI, negU, srcK_d, srcU, inU_ts, pures, hw, -eqv_ss, -List.any_cons, key]
theorem p_bound_names : ∀ (f : Fm), f.Ok → f.size ≤ 1000000 → ∀ (n k : Nat) (h : List O), f.deep ≤ n → run G F (dsOf dd) (k + n + 4) "bound_names" [.d f.d] h = .ok (.d (.list (f.bound.map .int))) h := by
  intro f
  induction f using Fm.ind with
  | h f ih =>
    intro ok hs n k h hn
    obtain ⟨m, rfl⟩ : ∃ m, n = m + 1 := ⟨n - 1, by have := Fm.deep_kids f; omega⟩
    rw [show k + (m + 1) + 4 = (k + m + 4) + 1 by omega, r_bound_names]
    have key : ∀ (σ1 : Option U), ev G (run G F (dsOf dd) (k + m + 4)) c_bound_names_0 [some (.d f.d), σ1, none, none] h = mkL false (f.kids.flatMap fun g => g.bound.map .int) h := by
      intro σ1
      refine ev_lc2D f.kids Fm.d (fun g => g.bound.map .int) ?_ (fun g hg => ⟨[some (.d f.d), σ1, some (.d g.d), none], rfl, fun acc => ?_, fun x hx => ⟨[some (.d f.d), σ1, some (.d g.d), some (.d x)], rfl, fun acc => by simp [ev, tv, evs, evo, evc, evw, evV, evC, evT, ev2, ev1, evCh, evB, evIf, evNil, evCons, evTup, evLst, evCall, evSl, evNo, evPart, vAnd, vOr, vNot, tAndE, tOrE, tNotE, binU, cmpU, biU, meU, g1, g2, maxG, minG, Es.len, Tg.slots, Tgs.slots, ex, exs, exh, sNx, sBk, sCt, sSeq, sDrop, sRet, sRetN, sAsg, sPar2, sPar3, sSub, sIf, sRaise, asg, asgs, R.bind_ok, R.bind_err, R.bind_bad, R.stm_ok, R.stm_err, R.stm_bad, opt_some, opt_none, noErr_ok, noErr_bad, leave_d, leave_n, leave_e, leave_da, mkL_f, tru, truU, truD, asB, asBo]⟩⟩) ?_
      · simp [evCl_0, evCl_1, evCl_2, evCl_3, evCl_4, evCl_k, evCl_k2, evCl_k2r, evCl_k3r, ev, tv, evs, evo, evc, evw, evV, evC, evT, ev2, ev1, evCh, evB, evIf, evNil, evCons, evTup, evLst, evCall, evSl, evNo, evPart, vAnd, vOr, vNot, tAndE, tOrE, tNotE, binU, cmpU, biU, meU, g1, g2, maxG, minG, Es.len, Tg.slots, Tgs.slots, ex, exs, exh, sNx, sBk, sCt, sSeq, sDrop, sRet, sRetN, sAsg, sPar2, sPar3, sSub, sIf, sRaise, asg, asgs, R.bind_ok, R.bind_err, R.bind_bad, R.stm_ok, R.stm_err, R.stm_bad, opt_some, opt_none, noErr_ok, noErr_bad, leave_d, leave_n, leave_e, leave_da, mkL_f, tru, truU, truD, asB, asBo, p_inner_of (k := k + m) f ok, srcU]
      · have := Fm.size_kid hg
        have := Fm.deep_kid hg
        have q := ih g hg (ok.kid hg) (by omega) m k (h ++ [.lst acc]) (by omega)
        simp [evCl_0, evCl_1, evCl_2, evCl_3, evCl_4, evCl_k, evCl_k2, evCl_k2r, evCl_k3r, ev, tv, evs, evo, evc, evw, evV, evC, evT, ev2, ev1, evCh, evB, evIf, evNil, evCons, evTup, evLst, evCall, evSl, evNo, evPart, vAnd, vOr, vNot, tAndE, tOrE, tNotE, binU, cmpU, biU, meU, g1, g2, maxG, minG, Es.len, Tg.slots, Tgs.slots, ex, exs, exh, sNx, sBk, sCt, sSeq, sDrop, sRet, sRetN, sAsg, sPar2, sPar3, sSub, sIf, sRaise, asg, asgs, R.bind_ok, R.bind_err, R.bind_bad, R.stm_ok, R.stm_err, R.stm_bad, opt_some, opt_none, noErr_ok, noErr_bad, leave_d, leave_n, leave_e, leave_da, mkL_f, tru, truU, truD, asB, asBo, q, srcU]
      · have := sum_len_le (l := f.kids) (g := fun g => (g.bound.map PyData.int).length) fun x _ => by rw [List.length_map]; exact x.bound_len
        have := Fm.size_kids f
        omega
    have fin : (f.ownB.map PyData.int) ++ f.kids.flatMap (fun g => g.bound.map PyData.int) = f.bound.map .int := by rw [Fm.bound_kids f, List.map_append, List.map_flatMap]
    have hlen : (f.ownB.map PyData.int).length + (f.kids.flatMap fun g => g.bound.map PyData.int).length ≤ 10000000 := by
      rw [← List.length_append, fin, List.length_map]
      exact Nat.le_trans f.bound_len (by omega)
    have hadd := addU_l (m := false) (h := h) hlen
    rw [fin] at hadd
    cases f
    case ex v g =>
      have k2 := key (some (.d (.list [.int v])))
      simp only [Fm.d, Fm.ownB, List.map_cons, List.map_nil] at k2 hadd ⊢
      simp (decide := true) [b_bound_names, evCl_0, evCl_1, evCl_2, evCl_3, evCl_4, evCl_k, evCl_k2, evCl_k2r, evCl_k3r, ev, tv, evs, evo, evc, evw, evV, evC, evT, ev2, ev1, evCh, evB, evIf, evNil, evCons, evTup, evLst, evCall, evSl, evNo, evPart, vAnd, vOr, vNot, tAndE, tOrE, tNotE, binU, cmpU, biU, meU, g1, g2, maxG, minG, Es.len, Tg.slots, Tgs.slots, ex, exs, exh, sNx, sBk, sCt, sSeq, sDrop, sRet, sRetN, sAsg, sPar2, sPar3, sSub, sIf, sRaise, asg, asgs, R.bind_ok, R.bind_err, R.bind_bad, R.stm_ok, R.stm_err, R.stm_bad, opt_some, opt_none, noErr_ok, noErr_bad, leave_d, leave_n, leave_e, leave_da, mkL_f, tru, truU, truD, asB, asBo, getU_t0, getU_t1, getU_t2, getU_t3, getU_l0, getU_l1, getU_l2, getU_m1, getU_m2, getU_m3, eqU_i, eqU_s, eqU_b, eqU_nil, eqU_nilL, eqv_ii, eqv_ss, eqv_tnil, eqv_lnil, bool_bne, lenU_t, lenU_l, tupleU_l, tupleU_t, isiU, tyN, isaB, tyNames, cmpI, negU, srcK_d, srcU, inU_ts, pures, tup_QUANTIFIED, k2, hadd]
    case all v g =>
      have k2 := key (some (.d (.list [.int v])))
      simp only [Fm.d, Fm.ownB, List.map_cons, List.map_nil] at k2 hadd ⊢
      simp (decide := true) [b_bound_names, evCl_0, evCl_1, evCl_2, evCl_3, evCl_4, evCl_k, evCl_k2, evCl_k2r, evCl_k3r, ev, tv, evs, evo, evc, evw, evV, evC, evT, ev2, ev1, evCh, evB, evIf, evNil, evCons, evTup, evLst, evCall, evSl, evNo, evPart, vAnd, vOr, vNot, tAndE, tOrE, tNotE, binU, cmpU, biU, meU, g1, g2, maxG, minG, Es.len, Tg.slots, Tgs.slots, ex, exs, exh, sNx, sBk, sCt, sSeq, sDrop, sRet, sRetN, sAsg, sPar2, sPar3, sSub, sIf, sRaise, asg, asgs, R.bind_ok, R.bind_err, R.bind_bad, R.stm_ok, R.stm_err, R.stm_bad, opt_some, opt_none, noErr_ok, noErr_bad, leave_d, leave_n, leave_e, leave_da, mkL_f, tru, truU, truD, asB, asBo, getU_t0, getU_t1, getU_t2, getU_t3, getU_l0, getU_l1, getU_l2, getU_m1, getU_m2, getU_m3, eqU_i, eqU_s, eqU_b, eqU_nil, eqU_nilL, eqv_ii, eqv_ss, eqv_tnil, eqv_lnil, bool_bne, lenU_t, lenU_l, tupleU_l, tupleU_t, isiU, tyN, isaB, tyNames, cmpI, negU, srcK_d, srcU, inU_ts, pures, tup_QUANTIFIED, k2, hadd]
    all_goals
      have k2 := key (some (.d (.list [])))
      simp only [Fm.d, Fm.ownB, List.map_nil] at k2 hadd ⊢
      simp (decide := true) [b_bound_names, evCl_0, evCl_1, evCl_2, evCl_3, evCl_4, evCl_k, evCl_k2, evCl_k2r, evCl_k3r, ev, tv, evs, evo, evc, evw, evV, evC, evT, ev2, ev1, evCh, evB, evIf, evNil, evCons, evTup, evLst, evCall, evSl, evNo, evPart, vAnd, vOr, vNot, tAndE, tOrE, tNotE, binU, cmpU, biU, meU, g1, g2, maxG, minG, Es.len, Tg.slots, Tgs.slots, ex, exs, exh, sNx, sBk, sCt, sSeq, sDrop, sRet, sRetN, sAsg, sPar2, sPar3, sSub, sIf, sRaise, asg, asgs, R.bind_ok, R.bind_err, R.bind_bad, R.stm_ok, R.stm_err, R.stm_bad, opt_some, opt_none, noErr_ok, noErr_bad, leave_d, leave_n, leave_e, leave_da, mkL_f, tru, truU, truD, asB, asBo, getU_t0, getU_t1, getU_t2, getU_t3, getU_l0, getU_l1, getU_l2, getU_m1, getU_m2, getU_m3, eqU_i, eqU_s, eqU_b, eqU_nil, eqU_nilL, eqv_ii, eqv_ss, eqv_tnil, eqv_lnil, bool_bne, lenU_t, lenU_l, tupleU_l, tupleU_t, isiU, tyN, isaB, tyNames, cmpI, negU, srcK_d, srcU, inU_ts, pures, tup_QUANTIFIED, k2, hadd]
theorem atom_last {a : Fm} (ha : a.isAtom = true) (h : List O) : getU (.d a.d) (.d (.int (-1))) h = .ok (.d (tmD a.const a.pairs)) h := by
  cases a <;> first | (cases ha; done) | (rw [Fm.d]; first | exact getU_m2 | exact getU_m3)
theorem atom_tm {a : Fm} (ha : a.isAtom = true) (ok : a.Ok) : IsTm a.pairs := by
  have := ok.good
  cases a <;> first | (cases ha; done) | exact this | exact this.2
theorem p_vars_atom {a : Fm} (ha : a.isAtom = true) (ok : a.Ok) (hl : a.pairs.length ≤ 1000000) (h : List O) : run G F (dsOf dd) (k + 1) "variables_of" [.d (tmD a.const a.pairs)] h = .ok (.d (.list ((a.pairs.map (·.1)).map .int))) h := by
  rw [p_variables_of (F := F) (k := k) (tmD a.const a.pairs) (big_tm_le hl) ((atom_tm ha ok).termB _) h]
  show R.ok (U.d (.list (((a.pairs.map Py.pairD).map fstI).map .int))) h = _
  rw [fst_pairs]
/-- no atom has very many pairs -/
def Lean (f : Fm) : Prop := (f.atoms.map fun a => a.pairs.length).sum ≤ 1000000 ∧ (∀ v ∈ f.vars, 0 ≤ v ∧ v < 63) ∧ f.size ≤ 1000000
theorem Lean.atom {f a : Fm} (h : Lean f) (ha : a ∈ f.atoms) : a.pairs.length ≤ 1000000 := Nat.le_trans (sum_mem (List.mem_map.mpr ⟨a, ha, rfl⟩)) h.1
theorem key_names (f : Fm) (ok : f.Ok) (hl : Lean f) (n k : Nat) (h : List O) (hn : f.deep ≤ n) : ex G (run G F (dsOf dd) (k + n + 4)) F s_names_of_0 [some (.d f.d), none, none, none] h = .nx [some (.d f.d), some (.d (.list ((f.atoms.flatMap fun a => a.pairs.map (·.1)).map .int))), none, none] h := by
  have e : evLc2 false (.nm 2) ((Tg.nm 2).slots ++ (Tg.nm 3).slots) (evw G (run G F (dsOf dd) (k + n + 4)) (.seq (.call "atoms_of" [0] (.cons (.var 0) .nil) .nil))) (evc G (run G F (dsOf dd) (k + n + 4)) .no) (.nm 3) (Tg.nm 3).slots (evw G (run G F (dsOf dd) (k + n + 4)) (.seq (.call "variables_of" [0] (.cons (.ix (.var 2) (.neg (.int 1))) .nil) .nil))) (evc G (run G F (dsOf dd) (k + n + 4)) .no) (ev G (run G F (dsOf dd) (k + n + 4)) (.var 3)) [some (.d f.d), none, none, none] h
      = mkL false (f.atoms.flatMap fun a => (a.pairs.map (·.1)).map .int) h := by
    refine ev_lc2D (σ := [some (.d f.d), none, none, none]) (t := .nm 2) (t1 := .nm 3) (e := .var 3) (w1 := .seq (.call "variables_of" [0] (.cons (.ix (.var 2) (.neg (.int 1))) .nil) .nil)) f.atoms Fm.d (fun a => (a.pairs.map (·.1)).map .int) ?_ (fun a ha => ⟨[some (.d f.d), none, some (.d a.d), none], rfl, fun acc => ?_, fun x hx => ⟨[some (.d f.d), none, some (.d a.d), some (.d x)], rfl, fun acc => by simp [ev, tv, evs, evo, evc, evw, evV, evC, evT, ev2, ev1, evCh, evB, evIf, evNil, evCons, evTup, evLst, evCall, evSl, evNo, evPart, vAnd, vOr, vNot, tAndE, tOrE, tNotE, binU, cmpU, biU, meU, g1, g2, maxG, minG, Es.len, Tg.slots, Tgs.slots, ex, exs, exh, sNx, sBk, sCt, sSeq, sDrop, sRet, sRetN, sAsg, sPar2, sPar3, sSub, sIf, sRaise, asg, asgs, R.bind_ok, R.bind_err, R.bind_bad, R.stm_ok, R.stm_err, R.stm_bad, opt_some, opt_none, noErr_ok, noErr_bad, leave_d, leave_n, leave_e, leave_da, mkL_f, tru, truU, truD, asB, asBo]⟩⟩) ?_
    · simp [evCl_0, evCl_1, evCl_2, evCl_3, evCl_4, evCl_k, evCl_k2, evCl_k2r, evCl_k3r, ev, tv, evs, evo, evc, evw, evV, evC, evT, ev2, ev1, evCh, evB, evIf, evNil, evCons, evTup, evLst, evCall, evSl, evNo, evPart, vAnd, vOr, vNot, tAndE, tOrE, tNotE, binU, cmpU, biU, meU, g1, g2, maxG, minG, Es.len, Tg.slots, Tgs.slots, ex, exs, exh, sNx, sBk, sCt, sSeq, sDrop, sRet, sRetN, sAsg, sPar2, sPar3, sSub, sIf, sRaise, asg, asgs, R.bind_ok, R.bind_err, R.bind_bad, R.stm_ok, R.stm_err, R.stm_bad, opt_some, opt_none, noErr_ok, noErr_bad, leave_d, leave_n, leave_e, leave_da, mkL_f, tru, truU, truD, asB, asBo, p_atoms_of f ok hl.2.2 n k h hn, srcU]
    · obtain ⟨a1, a2, a3⟩ := Fm.atoms_are ha
      have q := p_vars_atom (F := F) (k := k + n + 3) a1 (a3 ok) (hl.atom ha) (h ++ [.lst acc])
      simp [evCl_0, evCl_1, evCl_2, evCl_3, evCl_4, evCl_k, evCl_k2, evCl_k2r, evCl_k3r, ev, tv, evs, evo, evc, evw, evV, evC, evT, ev2, ev1, evCh, evB, evIf, evNil, evCons, evTup, evLst, evCall, evSl, evNo, evPart, vAnd, vOr, vNot, tAndE, tOrE, tNotE, binU, cmpU, biU, meU, g1, g2, maxG, minG, Es.len, Tg.slots, Tgs.slots, ex, exs, exh, sNx, sBk, sCt, sSeq, sDrop, sRet, sRetN, sAsg, sPar2, sPar3, sSub, sIf, sRaise, asg, asgs, R.bind_ok, R.bind_err, R.bind_bad, R.stm_ok, R.stm_err, R.stm_bad, opt_some, opt_none, noErr_ok, noErr_bad, leave_d, leave_n, leave_e, leave_da, mkL_f, tru, truU, truD, asB, asBo, negU, atom_last a1, q, srcU]
    · have := hl.1
      simp only [List.length_map]
      omega
  show sAsg _ (.nm 1) _ _ = _
  unfold sAsg
  rw [e, mkL_f, ← List.map_flatMap]
  rfl
theorem p_names_of (f : Fm) (ok : f.Ok) (hl : Lean f) (n k : Nat) (h : List O) (hn : f.deep ≤ n) : run G F (dsOf dd) (k + n + 5) "names_of" [.d f.d] h = .ok (.d (.tuple (f.names.map .int))) h := by
  rw [r_names_of]
  have e1 := key_names (F := F) f ok hl n k h hn
  have e2 := p_bound_names (F := F) f ok hl.2.2 n k h hn
  have hlen : ((f.atoms.flatMap fun a => a.pairs.map (·.1)).map PyData.int).length + (f.bound.map PyData.int).length ≤ 10000000 := by
    have h1 := hl.1
    have h2 := f.bound_len
    have h3 := hl.2.2
    simp only [List.length_map, List.length_flatMap]
    omega
  have hadd := addU_l (m := false) (h := h) hlen
  rw [← List.map_append] at hadd
  have hss : ssU false (.d (.list (f.vars.map .int))) h = mkL false (f.names.map .int) h := by
    have hi : intsOf (f.vars.map PyData.int) = some f.vars := intsOf_map _
    have := ssI_len hl.2.1
    simp only [ssU, lstLike, Py.listOf, Option.bind_some, hi, opt_some, R.bind_ok, Fm.names, this, if_true]
  simp only [Fm.vars] at hss
  simp [b_names_of, evCl_0, evCl_1, evCl_2, evCl_3, evCl_4, evCl_k, evCl_k2, evCl_k2r, evCl_k3r, ev, tv, evs, evo, evc, evw, evV, evC, evT, ev2, ev1, evCh, evB, evIf, evNil, evCons, evTup, evLst, evCall, evSl, evNo, evPart, vAnd, vOr, vNot, tAndE, tOrE, tNotE, binU, cmpU, biU, meU, g1, g2, maxG, minG, Es.len, Tg.slots, Tgs.slots, ex, exs, exh, sNx, sBk, sCt, sSeq, sDrop, sRet, sRetN, sAsg, sPar2, sPar3, sSub, sIf, sRaise, asg, asgs, R.bind_ok, R.bind_err, R.bind_bad, R.stm_ok, R.stm_err, R.stm_bad, opt_some, opt_none, noErr_ok, noErr_bad, leave_d, leave_n, leave_e, leave_da, mkL_f, tru, truU, truD, asB, asBo, e1, e2, hadd, hss, tupleU_l, -List.map_append]
/-! ### small formulas -/
theorem absI (i : Int) : (if i < 0 then -i else i) = (i.natAbs : Nat) := by split <;> omega
theorem key_small (a : Fm) (hl : a.pairs.length ≤ 1000000) (c : Int) (σ0 : Option U) (h : List O) : ev G (run G F (dsOf dd) k) c_is_small_atom_0 [σ0, some (.d (.int c)), some (.d (.tuple (a.pairs.map Py.pairD))), none, none] h = mkL false ((a.pairs.map Py.pairD).map fun x => .bool (decide ((sndI x).natAbs ≤ 1000))) h := by
  refine ev_lcD (a.pairs.map Py.pairD) (fun x => .bool (decide ((sndI x).natAbs ≤ 1000))) (by simp [ev, tv, evs, evo, evc, evw, evV, evC, evT, ev2, ev1, evCh, evB, evIf, evNil, evCons, evTup, evLst, evCall, evSl, evNo, evPart, vAnd, vOr, vNot, tAndE, tOrE, tNotE, binU, cmpU, biU, meU, g1, g2, maxG, minG, Es.len, Tg.slots, Tgs.slots, ex, exs, exh, sNx, sBk, sCt, sSeq, sDrop, sRet, sRetN, sAsg, sPar2, sPar3, sSub, sIf, sRaise, asg, asgs, R.bind_ok, R.bind_err, R.bind_bad, R.stm_ok, R.stm_err, R.stm_bad, opt_some, opt_none, noErr_ok, noErr_bad, leave_d, leave_n, leave_e, leave_da, mkL_f, tru, truU, truD, asB, asBo, srcU, -List.map_map]) (by simp; omega) (fun x hx => ?_)
  obtain ⟨p, hp, rfl⟩ := List.mem_map.mp hx
  refine ⟨[σ0, some (.d (.int c)), some (.d (.tuple (a.pairs.map Py.pairD))), some (.d (.int p.1)), some (.d (.int p.2))], rfl, fun acc => ?_⟩
  by_cases hh : p.2.natAbs ≤ 1000
  · have hh2 : ((p.2.natAbs : Nat) : Int) ≤ 1000 := by omega
    simp [evCl_0, evCl_1, evCl_2, evCl_3, evCl_4, evCl_k, evCl_k2, evCl_k2r, evCl_k3r, ev, tv, evs, evo, evc, evw, evV, evC, evT, ev2, ev1, evCh, evB, evIf, evNil, evCons, evTup, evLst, evCall, evSl, evNo, evPart, vAnd, vOr, vNot, tAndE, tOrE, tNotE, binU, cmpU, biU, meU, g1, g2, maxG, minG, Es.len, Tg.slots, Tgs.slots, ex, exs, exh, sNx, sBk, sCt, sSeq, sDrop, sRet, sRetN, sAsg, sPar2, sPar3, sSub, sIf, sRaise, asg, asgs, R.bind_ok, R.bind_err, R.bind_bad, R.stm_ok, R.stm_err, R.stm_bad, opt_some, opt_none, noErr_ok, noErr_bad, leave_d, leave_n, leave_e, leave_da, mkL_f, tru, truU, truD, asB, asBo, absU, absI, cmpI, sndI, Py.pairD, hh, hh2]
  · have hh2 : ¬ ((p.2.natAbs : Nat) : Int) ≤ 1000 := by omega
    simp [evCl_0, evCl_1, evCl_2, evCl_3, evCl_4, evCl_k, evCl_k2, evCl_k2r, evCl_k3r, ev, tv, evs, evo, evc, evw, evV, evC, evT, ev2, ev1, evCh, evB, evIf, evNil, evCons, evTup, evLst, evCall, evSl, evNo, evPart, vAnd, vOr, vNot, tAndE, tOrE, tNotE, binU, cmpU, biU, meU, g1, g2, maxG, minG, Es.len, Tg.slots, Tgs.slots, ex, exs, exh, sNx, sBk, sCt, sSeq, sDrop, sRet, sRetN, sAsg, sPar2, sPar3, sSub, sIf, sRaise, asg, asgs, R.bind_ok, R.bind_err, R.bind_bad, R.stm_ok, R.stm_err, R.stm_bad, opt_some, opt_none, noErr_ok, noErr_bad, leave_d, leave_n, leave_e, leave_da, mkL_f, tru, truU, truD, asB, asBo, absU, absI, cmpI, sndI, Py.pairD, hh, hh2]
theorem p_is_small_atom (a : Fm) (ha : a.isAtom = true) (hl : a.pairs.length ≤ 1000000) (h : List O) : run G F (dsOf dd) (k + 1) "is_small_atom" [.d a.d] h = .ok (.d (.bool a.smallA)) h := by
  rw [r_is_small_atom]
  have e1 := atom_last ha h
  have e2 := fun c σ0 => key_small (F := F) (k := k) a hl c σ0 h
  have e3 : ∀ l : PL, (l.map Py.pairD).all (fun x => decide ((sndI x).natAbs ≤ 1000)) = l.all fun p => decide (p.2.natAbs ≤ 1000) := fun l => by rw [List.all_map]; rfl
  cases a
  case ge c ps =>
    simp only [Fm.d, Fm.const, Fm.pairs, tmD] at e1 e2 ⊢
    by_cases hc : c.natAbs ≤ 1000
    · have hc' : ¬ (1000 : Int) < (c.natAbs : Nat) := by omega
      simp (decide := true) [b_is_small_atom, evCl_0, evCl_1, evCl_2, evCl_3, evCl_4, evCl_k, evCl_k2, evCl_k2r, evCl_k3r, ev, tv, evs, evo, evc, evw, evV, evC, evT, ev2, ev1, evCh, evB, evIf, evNil, evCons, evTup, evLst, evCall, evSl, evNo, evPart, vAnd, vOr, vNot, tAndE, tOrE, tNotE, binU, cmpU, biU, meU, g1, g2, maxG, minG, Es.len, Tg.slots, Tgs.slots, ex, exs, exh, sNx, sBk, sCt, sSeq, sDrop, sRet, sRetN, sAsg, sPar2, sPar3, sSub, sIf, sRaise, asg, asgs, R.bind_ok, R.bind_err, R.bind_bad, R.stm_ok, R.stm_err, R.stm_bad, opt_some, opt_none, noErr_ok, noErr_bad, leave_d, leave_n, leave_e, leave_da, mkL_f, tru, truU, truD, asB, asBo, negU, getU_t0, getU_t1, eqU_s, absU, absI, cmpI, hc, hc', e2, allU_map, e3, Fm.smallA, e1, -List.map_map, -List.all_map]
    · have hc' : (1000 : Int) < (c.natAbs : Nat) := by omega
      simp (decide := true) [b_is_small_atom, evCl_0, evCl_1, evCl_2, evCl_3, evCl_4, evCl_k, evCl_k2, evCl_k2r, evCl_k3r, ev, tv, evs, evo, evc, evw, evV, evC, evT, ev2, ev1, evCh, evB, evIf, evNil, evCons, evTup, evLst, evCall, evSl, evNo, evPart, vAnd, vOr, vNot, tAndE, tOrE, tNotE, binU, cmpU, biU, meU, g1, g2, maxG, minG, Es.len, Tg.slots, Tgs.slots, ex, exs, exh, sNx, sBk, sCt, sSeq, sDrop, sRet, sRetN, sAsg, sPar2, sPar3, sSub, sIf, sRaise, asg, asgs, R.bind_ok, R.bind_err, R.bind_bad, R.stm_ok, R.stm_err, R.stm_bad, opt_some, opt_none, noErr_ok, noErr_bad, leave_d, leave_n, leave_e, leave_da, mkL_f, tru, truU, truD, asB, asBo, negU, getU_t0, getU_t1, eqU_s, absU, absI, cmpI, hc, hc', Fm.smallA, e1]
  case eq c ps =>
    simp only [Fm.d, Fm.const, Fm.pairs, tmD] at e1 e2 ⊢
    by_cases hc : c.natAbs ≤ 1000
    · have hc' : ¬ (1000 : Int) < (c.natAbs : Nat) := by omega
      simp (decide := true) [b_is_small_atom, evCl_0, evCl_1, evCl_2, evCl_3, evCl_4, evCl_k, evCl_k2, evCl_k2r, evCl_k3r, ev, tv, evs, evo, evc, evw, evV, evC, evT, ev2, ev1, evCh, evB, evIf, evNil, evCons, evTup, evLst, evCall, evSl, evNo, evPart, vAnd, vOr, vNot, tAndE, tOrE, tNotE, binU, cmpU, biU, meU, g1, g2, maxG, minG, Es.len, Tg.slots, Tgs.slots, ex, exs, exh, sNx, sBk, sCt, sSeq, sDrop, sRet, sRetN, sAsg, sPar2, sPar3, sSub, sIf, sRaise, asg, asgs, R.bind_ok, R.bind_err, R.bind_bad, R.stm_ok, R.stm_err, R.stm_bad, opt_some, opt_none, noErr_ok, noErr_bad, leave_d, leave_n, leave_e, leave_da, mkL_f, tru, truU, truD, asB, asBo, negU, getU_t0, getU_t1, eqU_s, absU, absI, cmpI, hc, hc', e2, allU_map, e3, Fm.smallA, e1, -List.map_map, -List.all_map]
    · have hc' : (1000 : Int) < (c.natAbs : Nat) := by omega
      simp (decide := true) [b_is_small_atom, evCl_0, evCl_1, evCl_2, evCl_3, evCl_4, evCl_k, evCl_k2, evCl_k2r, evCl_k3r, ev, tv, evs, evo, evc, evw, evV, evC, evT, ev2, ev1, evCh, evB, evIf, evNil, evCons, evTup, evLst, evCall, evSl, evNo, evPart, vAnd, vOr, vNot, tAndE, tOrE, tNotE, binU, cmpU, biU, meU, g1, g2, maxG, minG, Es.len, Tg.slots, Tgs.slots, ex, exs, exh, sNx, sBk, sCt, sSeq, sDrop, sRet, sRetN, sAsg, sPar2, sPar3, sSub, sIf, sRaise, asg, asgs, R.bind_ok, R.bind_err, R.bind_bad, R.stm_ok, R.stm_err, R.stm_bad, opt_some, opt_none, noErr_ok, noErr_bad, leave_d, leave_n, leave_e, leave_da, mkL_f, tru, truU, truD, asB, asBo, negU, getU_t0, getU_t1, eqU_s, absU, absI, cmpI, hc, hc', Fm.smallA, e1]
  case dv m c ps =>
    simp only [Fm.d, Fm.const, Fm.pairs, tmD] at e1 e2 ⊢
    by_cases hm : 60 < m
    · simp (decide := true) [b_is_small_atom, evCl_0, evCl_1, evCl_2, evCl_3, evCl_4, evCl_k, evCl_k2, evCl_k2r, evCl_k3r, ev, tv, evs, evo, evc, evw, evV, evC, evT, ev2, ev1, evCh, evB, evIf, evNil, evCons, evTup, evLst, evCall, evSl, evNo, evPart, vAnd, vOr, vNot, tAndE, tOrE, tNotE, binU, cmpU, biU, meU, g1, g2, maxG, minG, Es.len, Tg.slots, Tgs.slots, ex, exs, exh, sNx, sBk, sCt, sSeq, sDrop, sRet, sRetN, sAsg, sPar2, sPar3, sSub, sIf, sRaise, asg, asgs, R.bind_ok, R.bind_err, R.bind_bad, R.stm_ok, R.stm_err, R.stm_bad, opt_some, opt_none, noErr_ok, noErr_bad, leave_d, leave_n, leave_e, leave_da, mkL_f, tru, truU, truD, asB, asBo, negU, getU_t0, getU_t1, eqU_s, absU, absI, cmpI, hm, Fm.smallA, e1]
    · by_cases hc : c.natAbs ≤ 1000
      · have hc' : ¬ (1000 : Int) < (c.natAbs : Nat) := by omega
        simp (decide := true) [b_is_small_atom, evCl_0, evCl_1, evCl_2, evCl_3, evCl_4, evCl_k, evCl_k2, evCl_k2r, evCl_k3r, ev, tv, evs, evo, evc, evw, evV, evC, evT, ev2, ev1, evCh, evB, evIf, evNil, evCons, evTup, evLst, evCall, evSl, evNo, evPart, vAnd, vOr, vNot, tAndE, tOrE, tNotE, binU, cmpU, biU, meU, g1, g2, maxG, minG, Es.len, Tg.slots, Tgs.slots, ex, exs, exh, sNx, sBk, sCt, sSeq, sDrop, sRet, sRetN, sAsg, sPar2, sPar3, sSub, sIf, sRaise, asg, asgs, R.bind_ok, R.bind_err, R.bind_bad, R.stm_ok, R.stm_err, R.stm_bad, opt_some, opt_none, noErr_ok, noErr_bad, leave_d, leave_n, leave_e, leave_da, mkL_f, tru, truU, truD, asB, asBo, negU, getU_t0, getU_t1, eqU_s, absU, absI, cmpI, hm, hc, hc', e2, allU_map, e3, Fm.smallA, e1, -List.map_map, -List.all_map]
      · have hc' : (1000 : Int) < (c.natAbs : Nat) := by omega
        simp (decide := true) [b_is_small_atom, evCl_0, evCl_1, evCl_2, evCl_3, evCl_4, evCl_k, evCl_k2, evCl_k2r, evCl_k3r, ev, tv, evs, evo, evc, evw, evV, evC, evT, ev2, ev1, evCh, evB, evIf, evNil, evCons, evTup, evLst, evCall, evSl, evNo, evPart, vAnd, vOr, vNot, tAndE, tOrE, tNotE, binU, cmpU, biU, meU, g1, g2, maxG, minG, Es.len, Tg.slots, Tgs.slots, ex, exs, exh, sNx, sBk, sCt, sSeq, sDrop, sRet, sRetN, sAsg, sPar2, sPar3, sSub, sIf, sRaise, asg, asgs, R.bind_ok, R.bind_err, R.bind_bad, R.stm_ok, R.stm_err, R.stm_bad, opt_some, opt_none, noErr_ok, noErr_bad, leave_d, leave_n, leave_e, leave_da, mkL_f, tru, truU, truD, asB, asBo, negU, getU_t0, getU_t1, eqU_s, absU, absI, cmpI, hm, hc, hc', Fm.smallA, e1]
  all_goals cases ha

end K19

namespace K19
open PySem PySem.Spec PyProof.Rows L2 Py

variable {F k : Nat}
theorem p_small_not (d : D) (hd : formB d = false) (hb : big d ≤ 1000000) (hF : big d + 1 ≤ F) (h : List O) : run G F (dsOf dd) (k + 8) "is_small" [.d d] h = .ok (.d (.bool false)) h := by
  rw [r_is_small]
  have q := p_is_formula (F := F) (k := k) d hb hF h
  rw [hd] at q
  simp [b_is_small, evCl_0, evCl_1, evCl_2, evCl_3, evCl_4, evCl_k, evCl_k2, evCl_k2r, evCl_k3r, ev, tv, evs, evo, evc, evw, evV, evC, evT, ev2, ev1, evCh, evB, evIf, evNil, evCons, evTup, evLst, evCall, evSl, evNo, evPart, vAnd, vOr, vNot, tAndE, tOrE, tNotE, binU, cmpU, biU, meU, g1, g2, maxG, minG, Es.len, Tg.slots, Tgs.slots, ex, exs, exh, sNx, sBk, sCt, sSeq, sDrop, sRet, sRetN, sAsg, sPar2, sPar3, sSub, sIf, sRaise, asg, asgs, R.bind_ok, R.bind_err, R.bind_bad, R.stm_ok, R.stm_err, R.stm_bad, opt_some, opt_none, noErr_ok, noErr_bad, leave_d, leave_n, leave_e, leave_da, mkL_f, tru, truU, truD, asB, asBo, q]
theorem p_small (f : Fm) (ok : f.Ok) (hl : Lean f) (hf : formB f.d = true) (hb : big f.d ≤ 1000000) (hF : big f.d + 1 ≤ F) (n k : Nat) (h : List O) (hn : f.deep ≤ n) : run G F (dsOf dd) (k + n + 8) "is_small" [.d f.d] h = .ok (.d (.bool f.small)) h := by
  rw [show k + n + 8 = (k + n + 7) + 1 by omega, r_is_small]
  have q := p_is_formula (F := F) (k := k + n) f.d hb hF h
  rw [hf] at q
  have q1 := p_size_of (F := F) f ok hl.2.2 n (k + 3) h hn
  have q2 := p_depth_of (F := F) f ok hl.2.2 n (k + 3) h hn
  have q3 := p_names_of (F := F) f ok hl n (k + 2) h hn
  have q4 := p_atoms_of (F := F) f ok hl.2.2 n (k + 3) h hn
  rw [show k + 3 + n + 4 = k + n + 7 by omega] at q1 q2 q4
  rw [show k + 2 + n + 5 = k + n + 7 by omega] at q3
  have hnl : f.names.length < 64 := ssI_len hl.2.1
  have key1 : ev G (run G F (dsOf dd) (k + n + 7)) c_is_small_1 [some (.d f.d), none, none] h = mkL false (f.names.map fun v => .bool (decide (v ≤ 9))) h := by
    refine (ev_lcD (h1 := h) (f.names.map PyData.int) (fun x => match x with | .int v => .bool (decide (v ≤ 9)) | _ => .none) ?_ (by rw [List.length_map]; omega) (fun x hx => ?_)).trans (by rw [List.map_map]; rfl)
    · simp [evCl_0, evCl_1, evCl_2, evCl_3, evCl_4, evCl_k, evCl_k2, evCl_k2r, evCl_k3r, ev, tv, evs, evo, evc, evw, evV, evC, evT, ev2, ev1, evCh, evB, evIf, evNil, evCons, evTup, evLst, evCall, evSl, evNo, evPart, vAnd, vOr, vNot, tAndE, tOrE, tNotE, binU, cmpU, biU, meU, g1, g2, maxG, minG, Es.len, Tg.slots, Tgs.slots, ex, exs, exh, sNx, sBk, sCt, sSeq, sDrop, sRet, sRetN, sAsg, sPar2, sPar3, sSub, sIf, sRaise, asg, asgs, R.bind_ok, R.bind_err, R.bind_bad, R.stm_ok, R.stm_err, R.stm_bad, opt_some, opt_none, noErr_ok, noErr_bad, leave_d, leave_n, leave_e, leave_da, mkL_f, tru, truU, truD, asB, asBo, q3, srcU, -List.map_map]
    · obtain ⟨v, hv, rfl⟩ := List.mem_map.mp hx
      exact ⟨[some (.d f.d), none, some (.d (.int v))], rfl, fun acc => by simp [ev, tv, evs, evo, evc, evw, evV, evC, evT, ev2, ev1, evCh, evB, evIf, evNil, evCons, evTup, evLst, evCall, evSl, evNo, evPart, vAnd, vOr, vNot, tAndE, tOrE, tNotE, binU, cmpU, biU, meU, g1, g2, maxG, minG, Es.len, Tg.slots, Tgs.slots, ex, exs, exh, sNx, sBk, sCt, sSeq, sDrop, sRet, sRetN, sAsg, sPar2, sPar3, sSub, sIf, sRaise, asg, asgs, R.bind_ok, R.bind_err, R.bind_bad, R.stm_ok, R.stm_err, R.stm_bad, opt_some, opt_none, noErr_ok, noErr_bad, leave_d, leave_n, leave_e, leave_da, mkL_f, tru, truU, truD, asB, asBo, cmpI]⟩
  have key2 : ev G (run G F (dsOf dd) (k + n + 7)) c_is_small_0 [some (.d f.d), none, none] h = mkL false (f.atoms.map fun a => .bool a.smallA) h := by
    refine ev_kids f.atoms (fun a => .bool a.smallA) ?_ (by have := f.atoms_len; have := hl.2.2; omega) (fun a ha => ⟨[some (.d f.d), some (.d a.d), none], rfl, fun acc => ?_⟩)
    · simp [evCl_0, evCl_1, evCl_2, evCl_3, evCl_4, evCl_k, evCl_k2, evCl_k2r, evCl_k3r, ev, tv, evs, evo, evc, evw, evV, evC, evT, ev2, ev1, evCh, evB, evIf, evNil, evCons, evTup, evLst, evCall, evSl, evNo, evPart, vAnd, vOr, vNot, tAndE, tOrE, tNotE, binU, cmpU, biU, meU, g1, g2, maxG, minG, Es.len, Tg.slots, Tgs.slots, ex, exs, exh, sNx, sBk, sCt, sSeq, sDrop, sRet, sRetN, sAsg, sPar2, sPar3, sSub, sIf, sRaise, asg, asgs, R.bind_ok, R.bind_err, R.bind_bad, R.stm_ok, R.stm_err, R.stm_bad, opt_some, opt_none, noErr_ok, noErr_bad, leave_d, leave_n, leave_e, leave_da, mkL_f, tru, truU, truD, asB, asBo, q4, srcU]
    · have q5 := p_is_small_atom (F := F) (k := k + n + 6) a (Fm.atoms_are ha).1 (hl.atom ha) (h ++ [.lst acc])
      simp [evCl_0, evCl_1, evCl_2, evCl_3, evCl_4, evCl_k, evCl_k2, evCl_k2r, evCl_k3r, ev, tv, evs, evo, evc, evw, evV, evC, evT, ev2, ev1, evCh, evB, evIf, evNil, evCons, evTup, evLst, evCall, evSl, evNo, evPart, vAnd, vOr, vNot, tAndE, tOrE, tNotE, binU, cmpU, biU, meU, g1, g2, maxG, minG, Es.len, Tg.slots, Tgs.slots, ex, exs, exh, sNx, sBk, sCt, sSeq, sDrop, sRet, sRetN, sAsg, sPar2, sPar3, sSub, sIf, sRaise, asg, asgs, R.bind_ok, R.bind_err, R.bind_bad, R.stm_ok, R.stm_err, R.stm_bad, opt_some, opt_none, noErr_ok, noErr_bad, leave_d, leave_n, leave_e, leave_da, mkL_f, tru, truU, truD, asB, asBo, q5]
  have a1 := allU_map (h := h) (fun v : Int => decide (v ≤ 9)) f.names
  have a2 := allU_map (h := h) Fm.smallA f.atoms
  unfold Fm.small
  by_cases h1 : f.size ≤ 60
  · by_cases h2 : f.deep ≤ 12
    · have h1' : ¬ (60 : Int) < (f.size : Int) := by omega
      have h2' : ¬ (12 : Int) < (f.deep : Int) := by omega
      cases h3 : f.names.all fun v => decide (v ≤ 9) with
      | false =>
        rw [h3] at a1
        simp only [h1, h2, decide_true, Bool.true_and, Bool.false_and]
        simp [b_is_small, evCl_0, evCl_1, evCl_2, evCl_3, evCl_4, evCl_k, evCl_k2, evCl_k2r, evCl_k3r, ev, tv, evs, evo, evc, evw, evV, evC, evT, ev2, ev1, evCh, evB, evIf, evNil, evCons, evTup, evLst, evCall, evSl, evNo, evPart, vAnd, vOr, vNot, tAndE, tOrE, tNotE, binU, cmpU, biU, meU, g1, g2, maxG, minG, Es.len, Tg.slots, Tgs.slots, ex, exs, exh, sNx, sBk, sCt, sSeq, sDrop, sRet, sRetN, sAsg, sPar2, sPar3, sSub, sIf, sRaise, asg, asgs, R.bind_ok, R.bind_err, R.bind_bad, R.stm_ok, R.stm_err, R.stm_bad, opt_some, opt_none, noErr_ok, noErr_bad, leave_d, leave_n, leave_e, leave_da, mkL_f, tru, truU, truD, asB, asBo, cmpI, q, q1, q2, h1', h2', key1, a1]
      | true =>
        rw [h3] at a1
        simp only [h1, h2, decide_true, Bool.true_and]
        simp [b_is_small, evCl_0, evCl_1, evCl_2, evCl_3, evCl_4, evCl_k, evCl_k2, evCl_k2r, evCl_k3r, ev, tv, evs, evo, evc, evw, evV, evC, evT, ev2, ev1, evCh, evB, evIf, evNil, evCons, evTup, evLst, evCall, evSl, evNo, evPart, vAnd, vOr, vNot, tAndE, tOrE, tNotE, binU, cmpU, biU, meU, g1, g2, maxG, minG, Es.len, Tg.slots, Tgs.slots, ex, exs, exh, sNx, sBk, sCt, sSeq, sDrop, sRet, sRetN, sAsg, sPar2, sPar3, sSub, sIf, sRaise, asg, asgs, R.bind_ok, R.bind_err, R.bind_bad, R.stm_ok, R.stm_err, R.stm_bad, opt_some, opt_none, noErr_ok, noErr_bad, leave_d, leave_n, leave_e, leave_da, mkL_f, tru, truU, truD, asB, asBo, cmpI, q, q1, q2, h1', h2', key1, a1, key2, a2]
    · have h1' : ¬ (60 : Int) < (f.size : Int) := by omega
      have h2' : (12 : Int) < (f.deep : Int) := by omega
      simp only [h1, h2, decide_true, decide_false, Bool.true_and, Bool.false_and]
      simp [b_is_small, evCl_0, evCl_1, evCl_2, evCl_3, evCl_4, evCl_k, evCl_k2, evCl_k2r, evCl_k3r, ev, tv, evs, evo, evc, evw, evV, evC, evT, ev2, ev1, evCh, evB, evIf, evNil, evCons, evTup, evLst, evCall, evSl, evNo, evPart, vAnd, vOr, vNot, tAndE, tOrE, tNotE, binU, cmpU, biU, meU, g1, g2, maxG, minG, Es.len, Tg.slots, Tgs.slots, ex, exs, exh, sNx, sBk, sCt, sSeq, sDrop, sRet, sRetN, sAsg, sPar2, sPar3, sSub, sIf, sRaise, asg, asgs, R.bind_ok, R.bind_err, R.bind_bad, R.stm_ok, R.stm_err, R.stm_bad, opt_some, opt_none, noErr_ok, noErr_bad, leave_d, leave_n, leave_e, leave_da, mkL_f, tru, truU, truD, asB, asBo, cmpI, q, q1, q2, h1', h2']
  · have h1' : (60 : Int) < (f.size : Int) := by omega
    simp only [h1, decide_false, Bool.false_and]
    simp [b_is_small, evCl_0, evCl_1, evCl_2, evCl_3, evCl_4, evCl_k, evCl_k2, evCl_k2r, evCl_k3r, ev, tv, evs, evo, evc, evw, evV, evC, evT, ev2, ev1, evCh, evB, evIf, evNil, evCons, evTup, evLst, evCall, evSl, evNo, evPart, vAnd, vOr, vNot, tAndE, tOrE, tNotE, binU, cmpU, biU, meU, g1, g2, maxG, minG, Es.len, Tg.slots, Tgs.slots, ex, exs, exh, sNx, sBk, sCt, sSeq, sDrop, sRet, sRetN, sAsg, sPar2, sPar3, sSub, sIf, sRaise, asg, asgs, R.bind_ok, R.bind_err, R.bind_bad, R.stm_ok, R.stm_err, R.stm_bad, opt_some, opt_none, noErr_ok, noErr_bad, leave_d, leave_n, leave_e, leave_da, mkL_f, tru, truU, truD, asB, asBo, cmpI, q, q1, h1']
/-- what is_small says of any value -/
def Tame (n B : Nat) (d : D) : Prop := big d ≤ B ∧ ∀ f : Fm, f.d = d → f.Ok → Lean f ∧ f.deep ≤ n
theorem p_small_any {n B : Nat} {d : D} (ht : Tame n B d) (hB : B ≤ 1000000) (hF : B + 1 ≤ F) (k : Nat) (h : List O) : ∃ b, (∀ k h, run G F (dsOf dd) (k + n + 8) "is_small" [.d d] h = .ok (.d (.bool b)) h) ∧ (b = true → ∃ f : Fm, f.d = d ∧ f.Ok ∧ f.small = true ∧ Lean f ∧ f.deep ≤ n) := by
  cases hd : formB d with
  | false => exact ⟨false, fun k h => p_small_not d hd (Nat.le_trans ht.1 hB) (by have := ht.1; omega) h, fun z => by cases z⟩
  | true =>
    obtain ⟨f, e, ok⟩ := formB_of _ (Nat.le_refl _) hd
    obtain ⟨hl, hn⟩ := ht.2 f e ok
    subst e
    exact ⟨f.small, fun k h => p_small f ok hl hd (Nat.le_trans ht.1 hB) (by have := ht.1; omega) n k h hn, fun z => ⟨f, rfl, ok, z, hl, hn⟩⟩

end K19

namespace K19
open PySem PySem.Spec PyProof.Rows L2 Py

variable {F k : Nat}
/-! ### the source: two lists and a number -/
def srcH (gs ss : List Int) (t : Int) : List O := [.lst (gs.map .int), .lst (ss.map .int), .mix [.lab 0, .lab 1, .d (.int t)]]
def IsSrc (n : Int) (hs : List O) : Prop := ∃ gs ss t, hs = srcH gs ss t ∧ 0 ≤ t ∧ t ≤ n ∧ gs.length ≤ 63 ∧ ss.length ≤ 63 ∧ (∀ g ∈ gs, 0 ≤ g) ∧ ∀ s ∈ ss, 0 ≤ s ∧ s < 1000000000000000000
theorem IsSrc.mono {n m : Int} {hs : List O} (h : IsSrc n hs) (q : n ≤ m) : IsSrc m hs := by
  obtain ⟨gs, ss, t, h1, h2, h3, h4⟩ := h
  exact ⟨gs, ss, t, h1, h2, Int.le_trans h3 q, h4⟩
theorem IsSrc.len {n : Int} {hs : List O} (h : IsSrc n hs) : hs.length = 3 := by
  obtain ⟨gs, ss, t, rfl, _⟩ := h; rfl
theorem atI_int {xs : List Int} {i : Int} (h0 : 0 ≤ i) (h1 : i < xs.length) : L2.atI (xs.map PyData.int) i = some (.int (xs.getD i.toNat 0)) := by
  unfold L2.atI L2.ixN
  rw [if_pos h0, if_pos (by simpa using h1)]
  have : i.toNat < xs.length := by omega
  simp [List.getElem?_map, List.getElem?_eq_getElem this, List.getD_eq_getElem?_getD]
theorem mulK {i j : Int} (h : i.natAbs < 2 ^ 64 ∨ j.natAbs < 2 ^ 64) : mulOk i j = true := by
  unfold mulOk
  rcases h with h | h <;> simp [h]
theorem fmod_in {c m : Int} (hm : 1 ≤ m) : 0 ≤ c.fmod m ∧ c.fmod m < m := ⟨Int.fmod_nonneg_of_pos c (by omega), Int.fmod_lt_of_pos c (by omega)⟩
theorem fdiv_nn {c m : Int} (h : 0 ≤ c) (hm : 1 ≤ m) : 0 ≤ c.fdiv m := Int.fdiv_nonneg h (by omega)
theorem p_source (ns : List Int) : ∃ hs, run G F (dsOf dd) (k + 1) "_law_source" [.scr ns] [] = .ok (.lab 2) hs ∧ IsSrc 0 hs := by
  have p60 : gPow 10 60 = some 1000000000000000000000000000000000000000000000000000000000000 := by decide
  have p18 : gPow 10 18 = some 1000000000000000000 := by decide
  have g60 : ∀ c : Int, gFmod c 1000000000000000000000000000000000000000000000000000000000000 = some (c.fmod 1000000000000000000000000000000000000000000000000000000000000) := fun c => by unfold gFmod; rw [if_pos (by decide)]
  let cs : List Int := (ns.take 63).map fun c => c.fmod 1000000000000000000000000000000000000000000000000000000000000
  have hcs : cs.length ≤ 63 := by simp [cs]; omega
  have hc0 : ∀ c ∈ cs, 0 ≤ c := fun c hc => by
    obtain ⟨x, _, rfl⟩ := List.mem_map.mp hc
    exact (fmod_in (by decide)).1
  have k1 : ∀ h, ev G (run G F (dsOf dd) k) (.lc false (.nm 4) (.seq (.sl false (.var 0) .no (.yes (.int 63)))) .no (.bin .mod false (.bi .int false (.cons (.var 4) .nil)) (.bin .pow false (.int 10) (.int 60)))) [some (.scr ns), none, none, none, none] h = mkL false (cs.map .int) h := fun h => by
    refine (ev_lcD (h1 := h) ((ns.take 63).map .int) (fun x => .int ((asI (.d x)).getD 0 |>.fmod 1000000000000000000000000000000000000000000000000000000000000)) ?_ (by simp; omega) (fun x hx => ?_)).trans (by simp [cs, asI, Function.comp_def])
    · simp [evCl_0, evCl_1, evCl_2, evCl_3, evCl_4, evCl_k, evCl_k2, evCl_k2r, evCl_k3r, ev, tv, evs, evo, evc, evw, evV, evC, evT, ev2, ev1, evCh, evB, evIf, evNil, evCons, evTup, evLst, evCall, evSl, evNo, evPart, vAnd, vOr, vNot, tAndE, tOrE, tNotE, binU, cmpU, biU, meU, g1, g2, maxG, minG, Es.len, Tg.slots, Tgs.slots, ex, exs, exh, sNx, sBk, sCt, sSeq, sDrop, sRet, sRetN, sAsg, sPar2, sPar3, sSub, sIf, sRaise, asg, asgs, R.bind_ok, R.bind_err, R.bind_bad, R.stm_ok, R.stm_err, R.stm_bad, opt_some, opt_none, noErr_ok, noErr_bad, leave_d, leave_n, leave_e, leave_da, mkL_f, tru, truU, truD, asB, asBo, slU, cut, HT.sIx, lstLike, srcU, List.map_take, asI]
    · obtain ⟨i, _, rfl⟩ := List.mem_map.mp hx
      refine ⟨[some (.scr ns), none, none, none, some (.d (.int i))], rfl, fun acc => ?_⟩
      simp [evCl_0, evCl_1, evCl_2, evCl_3, evCl_4, evCl_k, evCl_k2, evCl_k2r, evCl_k3r, ev, tv, evs, evo, evc, evw, evV, evC, evT, ev2, ev1, evCh, evB, evIf, evNil, evCons, evTup, evLst, evCall, evSl, evNo, evPart, vAnd, vOr, vNot, tAndE, tOrE, tNotE, binU, cmpU, biU, meU, g1, g2, maxG, minG, Es.len, Tg.slots, Tgs.slots, ex, exs, exh, sNx, sBk, sCt, sSeq, sDrop, sRet, sRetN, sAsg, sPar2, sPar3, sSub, sIf, sRaise, asg, asgs, R.bind_ok, R.bind_err, R.bind_bad, R.stm_ok, R.stm_err, R.stm_bad, opt_some, opt_none, noErr_ok, noErr_bad, leave_d, leave_n, leave_e, leave_da, mkL_f, tru, truU, truD, asB, asBo, intU, Py.intOp, p60, g60, asI]
  have k2 : ∀ (u : Option U) h, ev G (run G F (dsOf dd) k) (.lc true (.nm 4) (.seq (.var 1)) (.yes (.cmp .ge (.var 4) (.bin .pow false (.int 10) (.int 18)))) (.var 4)) [some (.scr ns), some (.d (.list (cs.map .int))), none, none, none] h = mkL true ((cs.filter fun c => decide (1000000000000000000 ≤ c)).map .int) h := fun u h => by
    refine (ev_lcpD (h1 := h) (cs.map .int) (fun x => decide (1000000000000000000 ≤ (asI (.d x)).getD 0)) id (by simp [evCl_0, evCl_1, evCl_2, evCl_3, evCl_4, evCl_k, evCl_k2, evCl_k2r, evCl_k3r, ev, tv, evs, evo, evc, evw, evV, evC, evT, ev2, ev1, evCh, evB, evIf, evNil, evCons, evTup, evLst, evCall, evSl, evNo, evPart, vAnd, vOr, vNot, tAndE, tOrE, tNotE, binU, cmpU, biU, meU, g1, g2, maxG, minG, Es.len, Tg.slots, Tgs.slots, ex, exs, exh, sNx, sBk, sCt, sSeq, sDrop, sRet, sRetN, sAsg, sPar2, sPar3, sSub, sIf, sRaise, asg, asgs, R.bind_ok, R.bind_err, R.bind_bad, R.stm_ok, R.stm_err, R.stm_bad, opt_some, opt_none, noErr_ok, noErr_bad, leave_d, leave_n, leave_e, leave_da, mkL_f, tru, truU, truD, asB, asBo, srcU]) (by simpa using (by omega)) (fun x hx => ?_)).trans (by rw [List.map_id, List.filter_map]; rfl)
    obtain ⟨i, _, rfl⟩ := List.mem_map.mp hx
    refine ⟨[some (.scr ns), some (.d (.list (cs.map .int))), none, none, some (.d (.int i))], rfl, fun acc => ⟨?_, fun _ => ?_⟩⟩
    · by_cases hi : 1000000000000000000 ≤ i <;> simp [evCl_0, evCl_1, evCl_2, evCl_3, evCl_4, evCl_k, evCl_k2, evCl_k2r, evCl_k3r, ev, tv, evs, evo, evc, evw, evV, evC, evT, ev2, ev1, evCh, evB, evIf, evNil, evCons, evTup, evLst, evCall, evSl, evNo, evPart, vAnd, vOr, vNot, tAndE, tOrE, tNotE, binU, cmpU, biU, meU, g1, g2, maxG, minG, Es.len, Tg.slots, Tgs.slots, ex, exs, exh, sNx, sBk, sCt, sSeq, sDrop, sRet, sRetN, sAsg, sPar2, sPar3, sSub, sIf, sRaise, asg, asgs, R.bind_ok, R.bind_err, R.bind_bad, R.stm_ok, R.stm_err, R.stm_bad, opt_some, opt_none, noErr_ok, noErr_bad, leave_d, leave_n, leave_e, leave_da, mkL_f, tru, truU, truD, asB, asBo, getU_t0, getU_t1, getU_t2, getU_t3, getU_l0, getU_l1, getU_l2, getU_m1, getU_m2, getU_m3, eqU_i, eqU_s, eqU_b, eqU_nil, eqU_nilL, eqv_ii, eqv_ss, eqv_tnil, eqv_lnil, bool_bne, lenU_t, lenU_l, tupleU_l, tupleU_t, isiU, tyN, isaB, tyNames, cmpI, negU, srcK_d, srcU, Py.intOp, p18, asI, hi]
    · simp [ev, tv, evs, evo, evc, evw, evV, evC, evT, ev2, ev1, evCh, evB, evIf, evNil, evCons, evTup, evLst, evCall, evSl, evNo, evPart, vAnd, vOr, vNot, tAndE, tOrE, tNotE, binU, cmpU, biU, meU, g1, g2, maxG, minG, Es.len, Tg.slots, Tgs.slots, ex, exs, exh, sNx, sBk, sCt, sSeq, sDrop, sRet, sRetN, sAsg, sPar2, sPar3, sSub, sIf, sRaise, asg, asgs, R.bind_ok, R.bind_err, R.bind_bad, R.stm_ok, R.stm_err, R.stm_bad, opt_some, opt_none, noErr_ok, noErr_bad, leave_d, leave_n, leave_e, leave_da, mkL_f, tru, truU, truD, asB, asBo]
  have k3 : ∀ (l : Nat) h, ev G (run G F (dsOf dd) k) (.lc true (.nm 4) (.seq (.var 1)) (.yes (.cmp .lt (.var 4) (.bin .pow false (.int 10) (.int 18)))) (.var 4)) [some (.scr ns), some (.d (.list (cs.map .int))), some (.lab l), none, none] h = mkL true ((cs.filter fun c => decide (c < 1000000000000000000)).map .int) h := fun l h => by
    refine (ev_lcpD (h1 := h) (cs.map .int) (fun x => decide ((asI (.d x)).getD 0 < 1000000000000000000)) id (by simp [evCl_0, evCl_1, evCl_2, evCl_3, evCl_4, evCl_k, evCl_k2, evCl_k2r, evCl_k3r, ev, tv, evs, evo, evc, evw, evV, evC, evT, ev2, ev1, evCh, evB, evIf, evNil, evCons, evTup, evLst, evCall, evSl, evNo, evPart, vAnd, vOr, vNot, tAndE, tOrE, tNotE, binU, cmpU, biU, meU, g1, g2, maxG, minG, Es.len, Tg.slots, Tgs.slots, ex, exs, exh, sNx, sBk, sCt, sSeq, sDrop, sRet, sRetN, sAsg, sPar2, sPar3, sSub, sIf, sRaise, asg, asgs, R.bind_ok, R.bind_err, R.bind_bad, R.stm_ok, R.stm_err, R.stm_bad, opt_some, opt_none, noErr_ok, noErr_bad, leave_d, leave_n, leave_e, leave_da, mkL_f, tru, truU, truD, asB, asBo, srcU]) (by simpa using (by omega)) (fun x hx => ?_)).trans (by rw [List.map_id, List.filter_map]; rfl)
    obtain ⟨i, _, rfl⟩ := List.mem_map.mp hx
    refine ⟨[some (.scr ns), some (.d (.list (cs.map .int))), some (.lab l), none, some (.d (.int i))], rfl, fun acc => ⟨?_, fun _ => ?_⟩⟩
    · by_cases hi : i < 1000000000000000000 <;> simp [evCl_0, evCl_1, evCl_2, evCl_3, evCl_4, evCl_k, evCl_k2, evCl_k2r, evCl_k3r, ev, tv, evs, evo, evc, evw, evV, evC, evT, ev2, ev1, evCh, evB, evIf, evNil, evCons, evTup, evLst, evCall, evSl, evNo, evPart, vAnd, vOr, vNot, tAndE, tOrE, tNotE, binU, cmpU, biU, meU, g1, g2, maxG, minG, Es.len, Tg.slots, Tgs.slots, ex, exs, exh, sNx, sBk, sCt, sSeq, sDrop, sRet, sRetN, sAsg, sPar2, sPar3, sSub, sIf, sRaise, asg, asgs, R.bind_ok, R.bind_err, R.bind_bad, R.stm_ok, R.stm_err, R.stm_bad, opt_some, opt_none, noErr_ok, noErr_bad, leave_d, leave_n, leave_e, leave_da, mkL_f, tru, truU, truD, asB, asBo, getU_t0, getU_t1, getU_t2, getU_t3, getU_l0, getU_l1, getU_l2, getU_m1, getU_m2, getU_m3, eqU_i, eqU_s, eqU_b, eqU_nil, eqU_nilL, eqv_ii, eqv_ss, eqv_tnil, eqv_lnil, bool_bne, lenU_t, lenU_l, tupleU_l, tupleU_t, isiU, tyN, isaB, tyNames, cmpI, negU, srcK_d, srcU, Py.intOp, p18, asI, hi]
    · simp [ev, tv, evs, evo, evc, evw, evV, evC, evT, ev2, ev1, evCh, evB, evIf, evNil, evCons, evTup, evLst, evCall, evSl, evNo, evPart, vAnd, vOr, vNot, tAndE, tOrE, tNotE, binU, cmpU, biU, meU, g1, g2, maxG, minG, Es.len, Tg.slots, Tgs.slots, ex, exs, exh, sNx, sBk, sCt, sSeq, sDrop, sRet, sRetN, sAsg, sPar2, sPar3, sSub, sIf, sRaise, asg, asgs, R.bind_ok, R.bind_err, R.bind_bad, R.stm_ok, R.stm_err, R.stm_bad, opt_some, opt_none, noErr_ok, noErr_bad, leave_d, leave_n, leave_e, leave_da, mkL_f, tru, truU, truD, asB, asBo]
  have e1 : ex G (run G F (dsOf dd) k) F s__law_source_2 [some (.scr ns), none, none, none, none] [] = .nx [some (.scr ns), some (.d (.list (cs.map .int))), none, none, none] [] := by
    show sAsg (ev G (run G F (dsOf dd) k) (.lc false (.nm 4) (.seq (.sl false (.var 0) .no (.yes (.int 63)))) .no (.bin .mod false (.bi .int false (.cons (.var 4) .nil)) (.bin .pow false (.int 10) (.int 60))))) (.nm 1) _ _ = _
    unfold sAsg
    rw [k1]; rfl
  have e2 : ex G (run G F (dsOf dd) k) F s__law_source_1 [some (.scr ns), some (.d (.list (cs.map .int))), none, none, none] [] = .nx [some (.scr ns), some (.d (.list (cs.map .int))), some (.lab 0), none, none] [.lst ((cs.filter fun c => decide (1000000000000000000 ≤ c)).map .int)] := by
    show sAsg (ev G (run G F (dsOf dd) k) (.lc true (.nm 4) (.seq (.var 1)) (.yes (.cmp .ge (.var 4) (.bin .pow false (.int 10) (.int 18)))) (.var 4))) (.nm 2) _ _ = _
    unfold sAsg
    rw [k2 none]; rfl
  have e3 : ∀ o, ex G (run G F (dsOf dd) k) F s__law_source_0 [some (.scr ns), some (.d (.list (cs.map .int))), some (.lab 0), none, none] [o] = .nx [some (.scr ns), some (.d (.list (cs.map .int))), some (.lab 0), some (.lab 1), none] [o, .lst ((cs.filter fun c => decide (c < 1000000000000000000)).map .int)] := fun o => by
    show sAsg (ev G (run G F (dsOf dd) k) (.lc true (.nm 4) (.seq (.var 1)) (.yes (.cmp .lt (.var 4) (.bin .pow false (.int 10) (.int 18)))) (.var 4))) (.nm 3) _ _ = _
    unfold sAsg
    rw [k3]; rfl
  refine ⟨srcH (cs.filter fun c => decide (1000000000000000000 ≤ c)) (cs.filter fun c => decide (c < 1000000000000000000)) 0, ?_, _, _, _, rfl, by omega, by omega, ?_, ?_, fun g hg => hc0 g (List.mem_filter.mp hg).1, fun s hs => ⟨hc0 s (List.mem_filter.mp hs).1, by simpa using (List.mem_filter.mp hs).2⟩⟩
  · rw [r__law_source]
    simp [b__law_source, evCl_0, evCl_1, evCl_2, evCl_3, evCl_4, evCl_k, evCl_k2, evCl_k2r, evCl_k3r, ev, tv, evs, evo, evc, evw, evV, evC, evT, ev2, ev1, evCh, evB, evIf, evNil, evCons, evTup, evLst, evCall, evSl, evNo, evPart, vAnd, vOr, vNot, tAndE, tOrE, tNotE, binU, cmpU, biU, meU, g1, g2, maxG, minG, Es.len, Tg.slots, Tgs.slots, ex, exs, exh, sNx, sBk, sCt, sSeq, sDrop, sRet, sRetN, sAsg, sPar2, sPar3, sSub, sIf, sRaise, asg, asgs, R.bind_ok, R.bind_err, R.bind_bad, R.stm_ok, R.stm_err, R.stm_bad, opt_some, opt_none, noErr_ok, noErr_bad, leave_d, leave_n, leave_e, leave_da, mkL_f, tru, truU, truD, asB, asBo, e1, e2, e3, leave, srcH, mkM, U.below, pures]
  · exact Nat.le_trans (List.length_filter_le _ _) hcs
  · exact Nat.le_trans (List.length_filter_le _ _) hcs
theorem s0 (a b c : U) : L2.atI [a, b, c] 0 = some a := rfl
theorem s1 (a b c : U) : L2.atI [a, b, c] 1 = some b := rfl
theorem s2 (a b c : U) : L2.atI [a, b, c] 2 = some c := rfl
theorem x2 : L2.ixN 3 2 = some 2 := rfl
theorem x0 (n : Nat) : L2.ixN (n + 1) 0 = some 0 := by unfold L2.ixN; rw [if_pos (by decide), if_pos (by simp)]; rfl
theorem a0 (x : D) (xs : List D) : L2.atI (x :: xs) 0 = some x := by unfold L2.atI; rw [List.length_cons, x0]; rfl
theorem eqN {neg : Bool} {i : Nat} {xs : List D} {h : List O} (q : h[i]? = some (.lst xs)) : Py.eqU neg (.lab i) (.d (.list [])) h = .ok (.d (.bool (neg != xs.isEmpty))) h := by
  have e1 : Py.dataOf (.lab i) h = some (.list xs) := by simp [Py.dataOf, Py.listOf, q]
  have e2 : Py.dataOf (.d (.list [])) h = some (.list []) := rfl
  have e3 : PyData.depth (.list []) ≤ 64 := by decide
  simp [Py.eqU, eqO, e1, e2, e3, eqv_lnil]
def mixA (c t : Int) : Int := ((c + 17 * t + 3) * (69621 + 2 * t)).fmod 2147483647
def mixB (a : Int) : Int := ((a * (a.fmod 9973 + 11)).fmod 2147483629).fdiv 5
theorem p_draw {n many : Int} {hs : List O} (hb : IsSrc n hs) (hn : n ≤ 100000) (hm : 1 ≤ many) (hm2 : many < 2 ^ 64) :
    ∃ r hs', (∀ rest, run G F (dsOf dd) (k + 1) "_law_draw" [.lab 2, .d (.int many)] (hs ++ rest) = .ok (.d (.int r)) (hs' ++ rest)) ∧ 0 ≤ r ∧ r < many ∧ IsSrc (n + 1) hs' := by
  obtain ⟨gs, ss, t, rfl, h1, h2, h3, h4, h5, h6⟩ := hb
  have m0 : many ≠ 0 := by omega
  have m1 : many.natAbs < 2 ^ 1000 := Nat.lt_of_lt_of_le (show many.natAbs < 2 ^ 64 by omega) (Nat.pow_le_pow_right (by decide) (by decide))
  have gd : ∀ c : Int, gFdiv c many = some (c.fdiv many) := fun c => by unfold gFdiv; rw [if_pos ⟨m0, m1⟩]
  have gm : ∀ c : Int, gFmod c many = some (c.fmod many) := fun c => by unfold gFmod; rw [if_pos m0]
  cases gs with
  | cons g gs =>
    have hg : 0 ≤ g := h5 g List.mem_cons_self
    by_cases hz : g.fdiv many = 0
    · refine ⟨g.fmod many, srcH gs ss (t + 1), fun rest => ?_, (fmod_in hm).1, (fmod_in hm).2, gs, ss, t + 1, rfl, by omega, by omega, by simp at h3; omega, h4, fun x hx => h5 x (List.mem_cons_of_mem _ hx), h6⟩
      rw [r__law_draw]
      simp [b__law_draw, evCl_0, evCl_1, evCl_2, evCl_3, evCl_4, evCl_k, evCl_k2, evCl_k2r, evCl_k3r, ev, tv, evs, evo, evc, evw, evV, evC, evT, ev2, ev1, evCh, evB, evIf, evNil, evCons, evTup, evLst, evCall, evSl, evNo, evPart, vAnd, vOr, vNot, tAndE, tOrE, tNotE, binU, cmpU, biU, meU, g1, g2, maxG, minG, Es.len, Tg.slots, Tgs.slots, ex, exs, exh, sNx, sBk, sCt, sSeq, sDrop, sRet, sRetN, sAsg, sPar2, sPar3, sSub, sIf, sRaise, asg, asgs, R.bind_ok, R.bind_err, R.bind_bad, R.stm_ok, R.stm_err, R.stm_bad, opt_some, opt_none, noErr_ok, noErr_bad, leave_d, leave_n, leave_e, leave_da, mkL_f, tru, truU, truD, asB, asBo, getU_t0, getU_t1, getU_t2, getU_t3, getU_l0, getU_l1, getU_l2, getU_m1, getU_m2, getU_m3, eqU_i, eqU_s, eqU_b, eqU_nil, eqU_nilL, eqv_ii, eqv_ss, eqv_tnil, eqv_lnil, bool_bne, lenU_t, lenU_l, tupleU_l, tupleU_t, isiU, tyN, isaB, tyNames, cmpI, negU, srcK_d, srcU, srcH, getU, dctOf, getS, ixO, s0, s1, s2, x2, a0, x0, setU, U.below, pures, eqN, intU, Py.intOp, gd, gm, addU_i, hz, evMe, isLst, popG, leave, outU]
    · refine ⟨g.fmod many, srcH (g.fdiv many :: gs) ss (t + 1), fun rest => ?_, (fmod_in hm).1, (fmod_in hm).2, _, ss, t + 1, rfl, by omega, by omega, by simpa using h3, h4, fun x hx => (List.mem_cons.mp hx).elim (fun e => e ▸ fdiv_nn hg hm) fun q => h5 x (List.mem_cons_of_mem _ q), h6⟩
      rw [r__law_draw]
      simp [b__law_draw, evCl_0, evCl_1, evCl_2, evCl_3, evCl_4, evCl_k, evCl_k2, evCl_k2r, evCl_k3r, ev, tv, evs, evo, evc, evw, evV, evC, evT, ev2, ev1, evCh, evB, evIf, evNil, evCons, evTup, evLst, evCall, evSl, evNo, evPart, vAnd, vOr, vNot, tAndE, tOrE, tNotE, binU, cmpU, biU, meU, g1, g2, maxG, minG, Es.len, Tg.slots, Tgs.slots, ex, exs, exh, sNx, sBk, sCt, sSeq, sDrop, sRet, sRetN, sAsg, sPar2, sPar3, sSub, sIf, sRaise, asg, asgs, R.bind_ok, R.bind_err, R.bind_bad, R.stm_ok, R.stm_err, R.stm_bad, opt_some, opt_none, noErr_ok, noErr_bad, leave_d, leave_n, leave_e, leave_da, mkL_f, tru, truU, truD, asB, asBo, getU_t0, getU_t1, getU_t2, getU_t3, getU_l0, getU_l1, getU_l2, getU_m1, getU_m2, getU_m3, eqU_i, eqU_s, eqU_b, eqU_nil, eqU_nilL, eqv_ii, eqv_ss, eqv_tnil, eqv_lnil, bool_bne, lenU_t, lenU_l, tupleU_l, tupleU_t, isiU, tyN, isaB, tyNames, cmpI, negU, srcK_d, srcU, srcH, getU, dctOf, getS, ixO, s0, s1, s2, x2, a0, x0, setU, U.below, pures, eqN, intU, Py.intOp, gd, gm, addU_i, hz, evMe, isLst, popG, leave, outU]
  | nil =>
    have g1' : ∀ c : Int, gFmod c 2147483647 = some (c.fmod 2147483647) := fun c => by unfold gFmod; rw [if_pos (by decide)]
    have g2' : ∀ c : Int, gFmod c 2147483629 = some (c.fmod 2147483629) := fun c => by unfold gFmod; rw [if_pos (by decide)]
    have g3' : ∀ c : Int, gFmod c 9973 = some (c.fmod 9973) := fun c => by unfold gFmod; rw [if_pos (by decide)]
    have g5' : ∀ c : Int, gFdiv c 5 = some (c.fdiv 5) := fun c => by unfold gFdiv; rw [if_pos ⟨by decide, Nat.lt_of_lt_of_le (show Int.natAbs 5 < 2 ^ 3 by decide) (Nat.pow_le_pow_right (by decide) (by decide))⟩]
    have w1 : mulOk 17 t = true := mulK (.inl (by decide))
    have w2 : mulOk 2 t = true := mulK (.inl (by decide))
    have key : ∀ c : Int, mulOk (c + 17 * t + 3) (69621 + 2 * t) = true := fun c => mulK (.inr (by omega))
    have key2 : ∀ c : Int, mulOk c (c.fmod 9973 + 11) = true := fun c => mulK (.inr (by have := fmod_in (c := c) (m := 9973) (by decide); omega))
    cases ss with
    | nil =>
      refine ⟨(mixB (mixA 5 t)).fmod many, srcH [] [] (t + 1), fun rest => ?_, (fmod_in hm).1, (fmod_in hm).2, [], [], t + 1, rfl, by omega, by omega, h3, h4, h5, h6⟩
      rw [r__law_draw]
      simp [b__law_draw, evCl_0, evCl_1, evCl_2, evCl_3, evCl_4, evCl_k, evCl_k2, evCl_k2r, evCl_k3r, ev, tv, evs, evo, evc, evw, evV, evC, evT, ev2, ev1, evCh, evB, evIf, evNil, evCons, evTup, evLst, evCall, evSl, evNo, evPart, vAnd, vOr, vNot, tAndE, tOrE, tNotE, binU, cmpU, biU, meU, g1, g2, maxG, minG, Es.len, Tg.slots, Tgs.slots, ex, exs, exh, sNx, sBk, sCt, sSeq, sDrop, sRet, sRetN, sAsg, sPar2, sPar3, sSub, sIf, sRaise, asg, asgs, R.bind_ok, R.bind_err, R.bind_bad, R.stm_ok, R.stm_err, R.stm_bad, opt_some, opt_none, noErr_ok, noErr_bad, leave_d, leave_n, leave_e, leave_da, mkL_f, tru, truU, truD, asB, asBo, getU_t0, getU_t1, getU_t2, getU_t3, getU_l0, getU_l1, getU_l2, getU_m1, getU_m2, getU_m3, eqU_i, eqU_s, eqU_b, eqU_nil, eqU_nilL, eqv_ii, eqv_ss, eqv_tnil, eqv_lnil, bool_bne, lenU_t, lenU_l, tupleU_l, tupleU_t, isiU, tyN, isaB, tyNames, cmpI, negU, srcK_d, srcU, srcH, getU, dctOf, getS, ixO, s0, s1, s2, x2, a0, x0, setU, U.below, pures, eqN, intU, Py.intOp, gd, gm, g1', g2', g3', g5', addU_i, mulU, w1, w2, key, key2, leave, outU, mixA, mixB]
    | cons s ss =>
      have hl : (0 : Int) < (s :: ss).length := by simp
      have gl : ∀ c : Int, gFmod c (s :: ss).length = some (c.fmod (s :: ss).length) := fun c => by unfold gFmod; rw [if_pos (by omega)]
      have q := fmod_in (c := t) (m := (s :: ss).length) (by omega)
      have qa := atI_int (xs := s :: ss) q.1 q.2
      refine ⟨(mixB (mixA ((s :: ss).getD (t.fmod (s :: ss).length).toNat 0) t)).fmod many, srcH [] (s :: ss) (t + 1), fun rest => ?_, (fmod_in hm).1, (fmod_in hm).2, [], s :: ss, t + 1, rfl, by omega, by omega, h3, h4, h5, h6⟩
      rw [r__law_draw]
      generalize hq : s :: ss = xs at *
      have hne : xs ≠ [] := by rw [← hq]; simp
      simp [b__law_draw, evCl_0, evCl_1, evCl_2, evCl_3, evCl_4, evCl_k, evCl_k2, evCl_k2r, evCl_k3r, ev, tv, evs, evo, evc, evw, evV, evC, evT, ev2, ev1, evCh, evB, evIf, evNil, evCons, evTup, evLst, evCall, evSl, evNo, evPart, vAnd, vOr, vNot, tAndE, tOrE, tNotE, binU, cmpU, biU, meU, g1, g2, maxG, minG, Es.len, Tg.slots, Tgs.slots, ex, exs, exh, sNx, sBk, sCt, sSeq, sDrop, sRet, sRetN, sAsg, sPar2, sPar3, sSub, sIf, sRaise, asg, asgs, R.bind_ok, R.bind_err, R.bind_bad, R.stm_ok, R.stm_err, R.stm_bad, opt_some, opt_none, noErr_ok, noErr_bad, leave_d, leave_n, leave_e, leave_da, mkL_f, tru, truU, truD, asB, asBo, getU_t0, getU_t1, getU_t2, getU_t3, getU_l0, getU_l1, getU_l2, getU_m1, getU_m2, getU_m3, eqU_i, eqU_s, eqU_b, eqU_nil, eqU_nilL, eqv_ii, eqv_ss, eqv_tnil, eqv_lnil, bool_bne, lenU_t, lenU_l, tupleU_l, tupleU_t, isiU, tyN, isaB, tyNames, cmpI, negU, srcK_d, srcU, srcH, getU, dctOf, getS, ixO, s0, s1, s2, x2, a0, x0, setU, U.below, pures, eqN, intU, Py.intOp, gd, gm, g1', g2', g3', g5', gl, addU_i, mulU, w1, w2, key, key2, leave, outU, lenU, lenN, lenO, seqOf, qa, hne, mixA, mixB]

end K19

namespace K19
open PySem PySem.Spec PyProof.Rows L2 Py

variable {F k : Nat}
theorem gL {hs rest : List O} {o : O} (q : hs.length = 3) : (hs ++ (rest ++ [o]))[3 + rest.length]? = some o := by
  rw [← List.append_assoc, List.getElem?_append_right (by simp [q])]
  simp [q]
theorem sL {hs rest : List O} {o p : O} (q : hs.length = 3) : (hs ++ (rest ++ [o])).set (3 + rest.length) p = hs ++ (rest ++ [p]) := by
  rw [← List.append_assoc, List.set_append_right _ _ (by simp [q]), show 3 + rest.length - (hs ++ rest).length = 0 by simp [q], List.append_assoc]; rfl
theorem tL {hs rest xs : List O} (q : hs.length = 3) : (hs ++ (rest ++ xs)).take (3 + rest.length) = hs ++ rest := by
  rw [← List.append_assoc, List.take_left' (by simp [q])]
theorem tL0 {hs rest : List O} (q : hs.length = 3) : (hs ++ rest).take (3 + rest.length) = hs ++ rest := by
  have := tL (hs := hs) (rest := rest) (xs := []) q
  simpa using this
theorem m2M (M : Int) (h : List O) : mulU false (.d (.int 2)) (.d (.int M)) h = .ok (.d (.int (2 * M))) h := mulU_i (mulK (.inl (by decide)))
/-- what a call gives that draws at most c times -/
def Gives (F k : Nat) (f : Str) (args : List U) (P : U → Prop) (c : Int) : Prop := ∀ hs n rest, IsSrc n hs → 0 ≤ n → n + c ≤ 100000 → ∃ u hs', run G F (dsOf dd) k f args (hs ++ rest) = .ok u (hs' ++ rest) ∧ P u ∧ IsSrc (n + c) hs'
theorem draws (k : Nat) {many : Int} (h1 : 1 ≤ many) (h2 : many < 2 ^ 64) : Gives F (k + 1) "_law_draw" [.lab 2, .d (.int many)] (fun u => ∃ r, u = .d (.int r) ∧ 0 ≤ r ∧ r < many) 1 := fun hs n rest hb h0 hn => by
  obtain ⟨r, hs', e, a, b, c⟩ := p_draw (F := F) (k := k) hb (by omega) h1 h2
  exact ⟨_, hs', e rest, ⟨r, rfl, a, b⟩, c⟩
/-- a small term over the variables -/
structure STm (M : Int) (vs : List Int) (c : Int) (ps : PL) : Prop where
  c0 : -6 ≤ c
  c1 : c ≤ 6
  sub : (ps.map (·.1)).Sublist vs
  nz : ∀ p ∈ ps, p.2 ≠ 0 ∧ -M ≤ p.2 ∧ p.2 ≤ M
/-- lists of variables -/
structure Vs (vs : List Int) : Prop where
  ss : ssI vs = vs
  len : vs.length ≤ 4
  asc : vs.Pairwise (· < ·)
  bd : ∀ v ∈ vs, 0 ≤ v ∧ v ≤ 3
theorem STm.tm {M : Int} {vs : List Int} {c : Int} {ps : PL} (hv : Vs vs) (h : STm M vs c ps) : IsTm ps := ⟨hv.asc.sublist h.sub, fun p hp => (h.nz p hp).1, fun p hp => (hv.bd _ (h.sub.mem (List.mem_map.mpr ⟨p, hp, rfl⟩))).1⟩
theorem tupleL {i : Nat} {xs : List D} {h : List O} (q : h[i]? = some (.lst xs)) : tupleU (.lab i) h = .ok (.d (.tuple xs)) h := by
  simp [tupleU, isTup, lstLike, Py.listOf, q]
theorem p_term {M : Int} (hM1 : 1 ≤ M) (hM2 : M ≤ 9) {vs : List Int} (hv : Vs vs) : Gives F (k + 2) "_law_small_term" [.lab 2, .d (.list (vs.map .int)), .d (.int M)] (fun u => ∃ c ps, u = .d (tmD c ps) ∧ STm M vs c ps) 5 := fun hs n rest hb h0 hn => by
  have loop : ∃ σ' h', ex G (run G F (dsOf dd) (k + 1)) F f__law_small_term_0 [some (.lab 2), some (.d (.list (vs.map .int))), some (.d (.int M)), some (.lab (3 + rest.length)), none, none] (hs ++ (rest ++ [.lst []])) = .nx σ' h' ∧ (∃ (hs' : List O) (ps : PL) (u4 u5 : Option U), σ' = [some (.lab 2), some (.d (.list (vs.map .int))), some (.d (.int M)), some (.lab (3 + rest.length)), u4, u5] ∧ h' = hs' ++ (rest ++ [.lst (ps.map Py.pairD)]) ∧ IsSrc (n + (vs.map fun v => U.d (.int v)).length) hs' ∧ ps.length ≤ (vs.map fun v => U.d (.int v)).length ∧ (ps.map (·.1)).Sublist (vs.take (vs.map fun v => U.d (.int v)).length) ∧ ∀ p ∈ ps, p.2 ≠ 0 ∧ -M ≤ p.2 ∧ p.2 ≤ M) := by
    refine for_inv (us := vs.map fun v => U.d (.int v)) (h1 := hs ++ (rest ++ [.lst []])) (fun pre σ' h' => ∃ (hs' : List O) (ps : PL) (u4 u5 : Option U), σ' = [some (.lab 2), some (.d (.list (vs.map .int))), some (.d (.int M)), some (.lab (3 + rest.length)), u4, u5] ∧ h' = hs' ++ (rest ++ [.lst (ps.map Py.pairD)]) ∧ IsSrc (n + pre.length) hs' ∧ ps.length ≤ pre.length ∧ (ps.map (·.1)).Sublist (vs.take pre.length) ∧ ∀ p ∈ ps, p.2 ≠ 0 ∧ -M ≤ p.2 ∧ p.2 ≤ M) ?_ ⟨hs, [], none, none, rfl, rfl, by simpa using hb, by simp, by simp, by simp⟩ ?_
    · have : vs.length < 64 := by have := hv.len; omega
      simp [evCl_0, evCl_1, evCl_2, evCl_3, evCl_4, evCl_k, evCl_k2, evCl_k2r, evCl_k3r, ev, tv, evs, evo, evc, evw, evV, evC, evT, ev2, ev1, evCh, evB, evIf, evNil, evCons, evTup, evLst, evCall, evSl, evNo, evPart, vAnd, vOr, vNot, tAndE, tOrE, tNotE, binU, cmpU, biU, meU, g1, g2, maxG, minG, Es.len, Tg.slots, Tgs.slots, ex, exs, exh, sNx, sBk, sCt, sSeq, sDrop, sRet, sRetN, sAsg, sPar2, sPar3, sSub, sIf, sRaise, asg, asgs, R.bind_ok, R.bind_err, R.bind_bad, R.stm_ok, R.stm_err, R.stm_bad, opt_some, opt_none, noErr_ok, noErr_bad, leave_d, leave_n, leave_e, leave_da, mkL_f, tru, truU, truD, asB, asBo, ssU, lstLike, Py.listOf, this, srcU, hv.ss, intsOf_map]
      all_goals rfl
    · rintro pre u r hu σ h' ⟨hs', ps, u4, u5, rfl, rfl, hb', hp1, hp2, hp3⟩
      obtain ⟨v, rfl, hv1, _, ht, hlt⟩ := map_split hu
      obtain ⟨u, hs2, q, ⟨r1, rfl, r0, r3⟩, hb2⟩ := draws (F := F) k (many := 2 * M + 1) (by omega) (by omega) hs' _ (rest ++ [.lst (ps.map Py.pairD)]) hb' (by omega) (by have := hv.len; omega)
      have hL : ps.length < 10000000 := by have := hv.len; omega
      by_cases hz : r1 = M
      · refine ⟨[some (.lab 2), some (.d (.list (vs.map .int))), some (.d (.int M)), some (.lab (3 + rest.length)), some (.d (.int v)), u5], _, _, rfl, ?_, ⟨hs2, ps, some (.d (.int v)), some (.d (.int 0)), rfl, rfl, by simpa [Int.add_assoc] using hb2, by simp; omega, by rw [List.length_append, List.length_singleton, ht]; exact hp2.trans (List.sublist_append_left _ _), hp3⟩⟩
        simp [l__law_small_term_0, evCl_0, evCl_1, evCl_2, evCl_3, evCl_4, evCl_k, evCl_k2, evCl_k2r, evCl_k3r, ev, tv, evs, evo, evc, evw, evV, evC, evT, ev2, ev1, evCh, evB, evIf, evNil, evCons, evTup, evLst, evCall, evSl, evNo, evPart, vAnd, vOr, vNot, tAndE, tOrE, tNotE, binU, cmpU, biU, meU, g1, g2, maxG, minG, Es.len, Tg.slots, Tgs.slots, ex, exs, exh, sNx, sBk, sCt, sSeq, sDrop, sRet, sRetN, sAsg, sPar2, sPar3, sSub, sIf, sRaise, asg, asgs, R.bind_ok, R.bind_err, R.bind_bad, R.stm_ok, R.stm_err, R.stm_bad, opt_some, opt_none, noErr_ok, noErr_bad, leave_d, leave_n, leave_e, leave_da, mkL_f, tru, truU, truD, asB, asBo, getU_t0, getU_t1, getU_t2, getU_t3, getU_l0, getU_l1, getU_l2, getU_m1, getU_m2, getU_m3, eqU_i, eqU_s, eqU_b, eqU_nil, eqU_nilL, eqv_ii, eqv_ss, eqv_tnil, eqv_lnil, bool_bne, lenU_t, lenU_l, tupleU_l, tupleU_t, isiU, tyN, isaB, tyNames, cmpI, negU, srcK_d, srcU, q, m2M, Py.intOp, gSubI, addU_i, hz, evMe, isLst, appG, gL hb2.len, sL hb2.len, pures, hL, Py.pairD]
      · have hz2 : ¬ (r1 - M = 0) := by omega
        refine ⟨[some (.lab 2), some (.d (.list (vs.map .int))), some (.d (.int M)), some (.lab (3 + rest.length)), some (.d (.int v)), u5], _, _, rfl, ?_, ⟨hs2, ps ++ [(v, r1 - M)], some (.d (.int v)), some (.d (.int (r1 - M))), rfl, rfl, by simpa [Int.add_assoc] using hb2, by simpa using hp1, ?_, ?_⟩⟩
        · simp [l__law_small_term_0, evCl_0, evCl_1, evCl_2, evCl_3, evCl_4, evCl_k, evCl_k2, evCl_k2r, evCl_k3r, ev, tv, evs, evo, evc, evw, evV, evC, evT, ev2, ev1, evCh, evB, evIf, evNil, evCons, evTup, evLst, evCall, evSl, evNo, evPart, vAnd, vOr, vNot, tAndE, tOrE, tNotE, binU, cmpU, biU, meU, g1, g2, maxG, minG, Es.len, Tg.slots, Tgs.slots, ex, exs, exh, sNx, sBk, sCt, sSeq, sDrop, sRet, sRetN, sAsg, sPar2, sPar3, sSub, sIf, sRaise, asg, asgs, R.bind_ok, R.bind_err, R.bind_bad, R.stm_ok, R.stm_err, R.stm_bad, opt_some, opt_none, noErr_ok, noErr_bad, leave_d, leave_n, leave_e, leave_da, mkL_f, tru, truU, truD, asB, asBo, getU_t0, getU_t1, getU_t2, getU_t3, getU_l0, getU_l1, getU_l2, getU_m1, getU_m2, getU_m3, eqU_i, eqU_s, eqU_b, eqU_nil, eqU_nilL, eqv_ii, eqv_ss, eqv_tnil, eqv_lnil, bool_bne, lenU_t, lenU_l, tupleU_l, tupleU_t, isiU, tyN, isaB, tyNames, cmpI, negU, srcK_d, srcU, q, m2M, Py.intOp, gSubI, addU_i, hz2, evMe, isLst, appG, gL hb2.len, sL hb2.len, pures, hL, Py.pairD]
        · rw [List.map_append, List.length_append, List.length_singleton, ht]; exact hp2.append (List.Sublist.refl _)
        · intro p hp
          rcases List.mem_append.mp hp with hp | hp
          · exact hp3 p hp
          · rw [List.mem_singleton.mp hp]; exact ⟨by show r1 - M ≠ 0; omega, by show -M ≤ r1 - M; omega, by show r1 - M ≤ M; omega⟩
  obtain ⟨σ', h', e1, hs1, ps, u4, u5, rfl, rfl, hb1, hp1, hp2, hp3⟩ := loop
  obtain ⟨u, hs2, q, ⟨r1, rfl, r0, r3⟩, hb2⟩ := draws (F := F) k (many := 13) (by decide) (by decide) hs1 _ (rest ++ [.lst (ps.map Py.pairD)]) hb1 (by omega) (by have := hv.len; simp; omega)
  refine ⟨_, hs2, ?_, ⟨r1 - 6, ps, rfl, by omega, by omega, ?_, hp3⟩, hb2.mono (by have := hv.len; simp; omega)⟩
  · rw [r__law_small_term]
    have hl := hb.len
    simp [b__law_small_term, evCl_0, evCl_1, evCl_2, evCl_3, evCl_4, evCl_k, evCl_k2, evCl_k2r, evCl_k3r, ev, tv, evs, evo, evc, evw, evV, evC, evT, ev2, ev1, evCh, evB, evIf, evNil, evCons, evTup, evLst, evCall, evSl, evNo, evPart, vAnd, vOr, vNot, tAndE, tOrE, tNotE, binU, cmpU, biU, meU, g1, g2, maxG, minG, Es.len, Tg.slots, Tgs.slots, ex, exs, exh, sNx, sBk, sCt, sSeq, sDrop, sRet, sRetN, sAsg, sPar2, sPar3, sSub, sIf, sRaise, asg, asgs, R.bind_ok, R.bind_err, R.bind_bad, R.stm_ok, R.stm_err, R.stm_bad, opt_some, opt_none, noErr_ok, noErr_bad, leave_d, leave_n, leave_e, leave_da, mkL_f, tru, truU, truD, asB, asBo, getU_t0, getU_t1, getU_t2, getU_t3, getU_l0, getU_l1, getU_l2, getU_m1, getU_m2, getU_m3, eqU_i, eqU_s, eqU_b, eqU_nil, eqU_nilL, eqv_ii, eqv_ss, eqv_tnil, eqv_lnil, bool_bne, lenU_t, lenU_l, tupleU_l, tupleU_t, isiU, tyN, isaB, tyNames, cmpI, negU, srcK_d, srcU, pures, hl, e1, q, Py.intOp, gSubI, tupleL (gL hb2.len), mkL_t, leave, tL hb2.len, outU, tmD]
  · rw [List.length_map, List.take_length] at hp2; exact hp2

end K19

namespace K19
open PySem PySem.Spec PyProof.Rows L2 Py

variable {F k : Nat}
theorem STm.len {M : Int} {vs : List Int} {c : Int} {ps : PL} (hv : Vs vs) (h : STm M vs c ps) : ps.length ≤ 4 := by
  have := h.sub.length_le
  rw [List.length_map] at this
  exact Nat.le_trans this hv.len
theorem STm.bd {M : Int} {vs : List Int} {c : Int} {ps : PL} (hv : Vs vs) (h : STm M vs c ps) : ∀ p ∈ ps, 0 ≤ p.1 ∧ p.1 ≤ 3 := fun p hp => hv.bd _ (h.sub.mem (List.mem_map.mpr ⟨p, hp, rfl⟩))
theorem STm.small {M : Int} (hM : M ≤ 9) {vs : List Int} {c m : Int} (hm : m ≤ 60) {ps : PL} (h : STm M vs c ps) : Fm.smallA (.ge c ps) = true ∧ Fm.smallA (.eq c ps) = true ∧ Fm.smallA (.dv m c ps) = true := by
  have a := h.c0
  have b := h.c1
  have d : (ps.all fun p => decide (p.2.natAbs ≤ 1000)) = true := by
    rw [List.all_eq_true]; intro p hp; have := h.nz p hp; exact decide_eq_true (by omega)
  have e : decide (c.natAbs ≤ 1000) = true := decide_eq_true (by omega)
  have f : decide (60 < m) = false := decide_eq_false (by omega)
  simp only [Fm.smallA, d, e, f]; decide
theorem dfA {M : Int} (hM : M ≤ 9) {vs : List Int} {c m : Int} {ps : PL} (h2 : 2 ≤ m) (hm : m ≤ 60) (hv : Vs vs) (h : STm M vs c ps) : DG 3 1 1 (.ge c ps) ∧ DG 3 1 1 (.eq c ps) ∧ DG 3 1 1 (.dv m c ps) := by
  have a := h.tm hv
  have s := h.small hM hm
  exact ⟨⟨DF.atom rfl (.mk a (by simp [Fm.kids])) (by omega) (h.len hv) (h.bd hv) s.1, by rw [deep1 _ rfl]; omega⟩, ⟨DF.atom rfl (.mk a (by simp [Fm.kids])) (by omega) (h.len hv) (h.bd hv) s.2.1, by rw [deep1 _ rfl]; omega⟩, ⟨DF.atom rfl (.mk ⟨h2, a⟩ (by simp [Fm.kids])) (by omega) (h.len hv) (h.bd hv) s.2.2, by rw [deep1 _ rfl]; omega⟩⟩
/-- what is drawn as a formula -/
def PG' (s e : Nat) (u : U) : Prop := ∃ f : Fm, u = .d f.d ∧ DG 3 s e f
/-- divisors -/
structure Dv (ds : List Int) : Prop where
  len : ds.length ≤ 9
  bd : ∀ d ∈ ds, 2 ≤ d ∧ d ≤ 60
theorem getL {xs : List Int} {i : Int} (h0 : 0 ≤ i) (h1 : i < xs.length) (h : List O) : getU (.d (.list (xs.map .int))) (.d (.int i)) h = .ok (.d (.int (xs.getD i.toNat 0))) h := by
  have q := atI_int h0 h1
  simp [getU, dctOf, getS, ixO, seqOf, Py.listOf, q]
theorem p_atom {M : Int} (hM1 : 1 ≤ M) (hM2 : M ≤ 9) {vs : List Int} (hv : Vs vs) {ds : List Int} (hd : Dv ds) : Gives F (k + 3) "_law_atom" [.lab 2, .d (.list (vs.map .int)), .d (.int M), .d (.list (ds.map .int))] (PG' 1 1) 7 := fun hs n rest hb h0 hn => by
  obtain ⟨u, hs1, q1, ⟨r, rfl, r0, r1⟩, hb1⟩ := draws (F := F) (k + 1) (many := 6) (by decide) (by decide) hs n rest hb h0 (by omega)
  obtain ⟨u, hs2, q2, ⟨c, ps, rfl, ht⟩, hb2⟩ := p_term (F := F) (k := k) hM1 hM2 hv hs1 (n + 1) rest hb1 (by omega) (by omega)
  by_cases hr : r < 2 ∧ ds ≠ []
  · obtain ⟨hr, hne⟩ := hr
    have hl : 1 ≤ (ds.length : Int) := by have := List.length_pos_iff.mpr hne; omega
    have hem : (ds.map PyData.int).isEmpty = false := by cases ds with | nil => exact absurd rfl hne | cons => rfl
    obtain ⟨u, hs3, q3, ⟨r3, rfl, r30, r31⟩, hb3⟩ := draws (F := F) (k + 1) (many := ds.length) hl (by have := hd.len; omega) hs2 (n + 1 + 5) rest hb2 (by omega) (by omega)
    have hlt : r3.toNat < ds.length := by omega
    have hm : ds.getD r3.toNat 0 ∈ ds := by rw [List.getD_eq_getElem?_getD, List.getElem?_eq_getElem hlt]; exact List.getElem_mem hlt
    have b := hd.bd _ hm
    refine ⟨_, hs3, ?_, ⟨.dv (ds.getD r3.toNat 0) c ps, rfl, (dfA hM2 b.1 b.2 hv ht).2.2⟩, hb3.mono (by omega)⟩
    rw [r__law_atom]
    simp [b__law_atom, evCl_0, evCl_1, evCl_2, evCl_3, evCl_4, evCl_k, evCl_k2, evCl_k2r, evCl_k3r, ev, tv, evs, evo, evc, evw, evV, evC, evT, ev2, ev1, evCh, evB, evIf, evNil, evCons, evTup, evLst, evCall, evSl, evNo, evPart, vAnd, vOr, vNot, tAndE, tOrE, tNotE, binU, cmpU, biU, meU, g1, g2, maxG, minG, Es.len, Tg.slots, Tgs.slots, ex, exs, exh, sNx, sBk, sCt, sSeq, sDrop, sRet, sRetN, sAsg, sPar2, sPar3, sSub, sIf, sRaise, asg, asgs, R.bind_ok, R.bind_err, R.bind_bad, R.stm_ok, R.stm_err, R.stm_bad, opt_some, opt_none, noErr_ok, noErr_bad, leave_d, leave_n, leave_e, leave_da, mkL_f, tru, truU, truD, asB, asBo, getU_t0, getU_t1, getU_t2, getU_t3, getU_l0, getU_l1, getU_l2, getU_m1, getU_m2, getU_m3, eqU_i, eqU_s, eqU_b, eqU_nil, eqU_nilL, eqv_ii, eqv_ss, eqv_tnil, eqv_lnil, bool_bne, lenU_t, lenU_l, tupleU_l, tupleU_t, isiU, tyN, isaB, tyNames, cmpI, negU, srcK_d, srcU, q1, q2, eqv_lnil, hem, q3, getL r30 r31, pures, hr, leave, outU, tL0 hb.len, tL0 hb3.len, hb.len, Fm.d, evPart]
  · obtain ⟨d1, d2, _⟩ := dfA (m := 2) hM2 (by omega) (by omega) hv ht
    have key : r < 2 → (ds.map PyData.int).isEmpty = true := fun h => by
      cases ds with
      | nil => rfl
      | cons x l => exact absurd ⟨h, by simp⟩ hr
    by_cases hr2 : r = 2
    · refine ⟨_, hs2, ?_, ⟨.eq c ps, rfl, d2⟩, hb2.mono (by omega)⟩
      rw [r__law_atom]
      simp [b__law_atom, evCl_0, evCl_1, evCl_2, evCl_3, evCl_4, evCl_k, evCl_k2, evCl_k2r, evCl_k3r, ev, tv, evs, evo, evc, evw, evV, evC, evT, ev2, ev1, evCh, evB, evIf, evNil, evCons, evTup, evLst, evCall, evSl, evNo, evPart, vAnd, vOr, vNot, tAndE, tOrE, tNotE, binU, cmpU, biU, meU, g1, g2, maxG, minG, Es.len, Tg.slots, Tgs.slots, ex, exs, exh, sNx, sBk, sCt, sSeq, sDrop, sRet, sRetN, sAsg, sPar2, sPar3, sSub, sIf, sRaise, asg, asgs, R.bind_ok, R.bind_err, R.bind_bad, R.stm_ok, R.stm_err, R.stm_bad, opt_some, opt_none, noErr_ok, noErr_bad, leave_d, leave_n, leave_e, leave_da, mkL_f, tru, truU, truD, asB, asBo, getU_t0, getU_t1, getU_t2, getU_t3, getU_l0, getU_l1, getU_l2, getU_m1, getU_m2, getU_m3, eqU_i, eqU_s, eqU_b, eqU_nil, eqU_nilL, eqv_ii, eqv_ss, eqv_tnil, eqv_lnil, bool_bne, lenU_t, lenU_l, tupleU_l, tupleU_t, isiU, tyN, isaB, tyNames, cmpI, negU, srcK_d, srcU, q1, q2, pures, hr2, leave, outU, tL0 hb.len, tL0 hb2.len, hb.len, Fm.d, evPart]
    · refine ⟨_, hs2, ?_, ⟨.ge c ps, rfl, d1⟩, hb2.mono (by omega)⟩
      rw [r__law_atom]
      by_cases hr3 : r < 2
      · have ke := key hr3
        simp [b__law_atom, evCl_0, evCl_1, evCl_2, evCl_3, evCl_4, evCl_k, evCl_k2, evCl_k2r, evCl_k3r, ev, tv, evs, evo, evc, evw, evV, evC, evT, ev2, ev1, evCh, evB, evIf, evNil, evCons, evTup, evLst, evCall, evSl, evNo, evPart, vAnd, vOr, vNot, tAndE, tOrE, tNotE, binU, cmpU, biU, meU, g1, g2, maxG, minG, Es.len, Tg.slots, Tgs.slots, ex, exs, exh, sNx, sBk, sCt, sSeq, sDrop, sRet, sRetN, sAsg, sPar2, sPar3, sSub, sIf, sRaise, asg, asgs, R.bind_ok, R.bind_err, R.bind_bad, R.stm_ok, R.stm_err, R.stm_bad, opt_some, opt_none, noErr_ok, noErr_bad, leave_d, leave_n, leave_e, leave_da, mkL_f, tru, truU, truD, asB, asBo, getU_t0, getU_t1, getU_t2, getU_t3, getU_l0, getU_l1, getU_l2, getU_m1, getU_m2, getU_m3, eqU_i, eqU_s, eqU_b, eqU_nil, eqU_nilL, eqv_ii, eqv_ss, eqv_tnil, eqv_lnil, bool_bne, lenU_t, lenU_l, tupleU_l, tupleU_t, isiU, tyN, isaB, tyNames, cmpI, negU, srcK_d, srcU, q1, q2, pures, hr3, hr2, eqv_lnil, ke, leave, outU, tL0 hb.len, tL0 hb2.len, hb.len, Fm.d, evPart]
      · simp [b__law_atom, evCl_0, evCl_1, evCl_2, evCl_3, evCl_4, evCl_k, evCl_k2, evCl_k2r, evCl_k3r, ev, tv, evs, evo, evc, evw, evV, evC, evT, ev2, ev1, evCh, evB, evIf, evNil, evCons, evTup, evLst, evCall, evSl, evNo, evPart, vAnd, vOr, vNot, tAndE, tOrE, tNotE, binU, cmpU, biU, meU, g1, g2, maxG, minG, Es.len, Tg.slots, Tgs.slots, ex, exs, exh, sNx, sBk, sCt, sSeq, sDrop, sRet, sRetN, sAsg, sPar2, sPar3, sSub, sIf, sRaise, asg, asgs, R.bind_ok, R.bind_err, R.bind_bad, R.stm_ok, R.stm_err, R.stm_bad, opt_some, opt_none, noErr_ok, noErr_bad, leave_d, leave_n, leave_e, leave_da, mkL_f, tru, truU, truD, asB, asBo, getU_t0, getU_t1, getU_t2, getU_t3, getU_l0, getU_l1, getU_l2, getU_m1, getU_m2, getU_m3, eqU_i, eqU_s, eqU_b, eqU_nil, eqU_nilL, eqv_ii, eqv_ss, eqv_tnil, eqv_lnil, bool_bne, lenU_t, lenU_l, tupleU_l, tupleU_t, isiU, tyN, isaB, tyNames, cmpI, negU, srcK_d, srcU, q1, q2, pures, hr3, hr2, leave, outU, tL0 hb.len, tL0 hb2.len, hb.len, Fm.d, evPart]

end K19

namespace K19
open PySem PySem.Spec PyProof.Rows L2 Py

variable {F k : Nat}
def cF (b n : Nat) : Int := ((10 * b * b * (n + 1) : Nat) : Int)
theorem cF_quant : ∀ b, b ≤ 8 → ∀ n, n ≤ 2 → 1 ≤ b → 2 + cF b n ≤ cF b (n + 1) := by decide
theorem cF_leaf : ∀ b, b ≤ 8 → ∀ n, n ≤ 3 → 1 ≤ b → 9 ≤ cF b n := by decide
theorem cF_not : ∀ b, b ≤ 8 → ∀ n, n ≤ 3 → 2 ≤ b → 1 + cF (b - 1) n ≤ cF b n := by decide
theorem cF_two : ∀ b, b ≤ 8 → ∀ n, n ≤ 3 → 2 ≤ b → 1 + cF (b / 2) n + cF (b / 2) n + cF (b / 4) n + cF (b / 4) n ≤ cF b n := by decide
theorem cF_nn (b n : Nat) : 0 ≤ cF b n := by unfold cF; omega
def sF (b n : Nat) : Nat := 3 * b - 2 + n * b
theorem sF_quant : ∀ b, b ≤ 8 → ∀ n, n ≤ 2 → 1 ≤ b → sF b n + 1 ≤ sF b (n + 1) := by decide
theorem sF_leaf : ∀ b, b ≤ 8 → ∀ n, n ≤ 3 → 1 ≤ b → 1 ≤ sF b n := by decide
theorem sF_not : ∀ b, b ≤ 8 → ∀ n, n ≤ 3 → 2 ≤ b → sF (b - 1) n + 1 ≤ sF b n := by decide
theorem sF_two : ∀ b, b ≤ 8 → ∀ n, n ≤ 3 → 2 ≤ b → sF (b / 2) n + sF (b / 2) n + 1 ≤ sF b n := by decide
theorem sF_four : ∀ b, b ≤ 8 → ∀ n, n ≤ 3 → 4 ≤ b → sF (b / 4) n + sF (b / 4) n + 1 ≤ sF b n := by decide
theorem wide_vs {vs : List Int} (hv : Vs vs) {v : Int} (h0 : 0 ≤ v) (h1 : v < 4) : Vs (ssI (vs ++ [v])) := by
  have hb : ∀ x ∈ ssI (vs ++ [v]), 0 ≤ x ∧ x ≤ 3 := fun x hx => by
    rw [ssI_mem, List.mem_append, List.mem_singleton] at hx
    rcases hx with hx | rfl
    · exact hv.bd x hx
    · exact ⟨h0, by omega⟩
  exact ⟨ssI_congr fun x => ssI_mem x _, asc_len _ 0 4 (ssI_asc _) fun x hx => by have := hb x hx; omega, ssI_asc _, hb⟩
theorem PG'.mono {s e s' e' : Nat} {u : U} (h : PG' s e u) (a : s ≤ s') (b : e ≤ e') : PG' s' e' u := by
  obtain ⟨f, q, d⟩ := h; exact ⟨f, q, d.mono a b⟩
theorem gHalf (b : Nat) : gFdiv (b : Int) 2 = some ((b / 2 : Nat) : Int) := by
  unfold gFdiv
  rw [if_pos ⟨by decide, Nat.lt_of_lt_of_le (show Int.natAbs 2 < 2 ^ 2 by decide) (Nat.pow_le_pow_right (by decide) (by decide))⟩, Int.fdiv_eq_ediv_of_nonneg _ (by decide)]
  congr 1
theorem gFour (b : Nat) : gFdiv (b : Int) 4 = some ((b / 4 : Nat) : Int) := by
  unfold gFdiv
  rw [if_pos ⟨by decide, Nat.lt_of_lt_of_le (show Int.natAbs 4 < 2 ^ 3 by decide) (Nat.pow_le_pow_right (by decide) (by decide))⟩, Int.fdiv_eq_ediv_of_nonneg _ (by decide)]
  congr 1
theorem p_form {M : Int} (hM1 : 1 ≤ M) (hM2 : M ≤ 9) {ds : List Int} (hd : Dv ds) : ∀ (N b n : Nat), b + n ≤ N → 1 ≤ b → b ≤ 8 → n ≤ 3 → ∀ {vs : List Int}, Vs vs →
    Gives F (k + N + 4) "_law_formula" [.lab 2, .d (.list (vs.map .int)), .d (.int b), .d (.int n), .d (.int M), .d (.list (ds.map .int))] (PG' (sF b n) (b + n)) (cF b n) := by
  intro N
  induction N with
  | zero => intro b n h1 h2; omega
  | succ N ih =>
    intro b n hN hb1 hb8 hn3 vs hv hs c rest hb h0 hn
    rw [show k + (N + 1) + 4 = (k + N + 4) + 1 by omega]
    have l9 := cF_leaf b hb8 n hn3 hb1
    obtain ⟨u, hs1, q1, ⟨r, rfl, r0, r1⟩, hb1'⟩ := draws (F := F) (k + N + 3) (many := 10) (by decide) (by decide) hs c rest hb h0 (by omega)
    by_cases hq : 0 < n ∧ r < 3
    · obtain ⟨hn0, hr3⟩ := hq
      obtain ⟨m, rfl⟩ : ∃ m, n = m + 1 := ⟨n - 1, by omega⟩
      have lq := cF_quant b hb8 m (by omega) hb1
      have ls := sF_quant b hb8 m (by omega) hb1
      obtain ⟨u, hs2, q2, ⟨v, rfl, v0, v1⟩, hb2⟩ := draws (F := F) (k + N + 3) (many := 4) (by decide) (by decide) hs1 _ rest hb1' (by omega) (by omega)
      have hw := wide_vs hv v0 v1
      obtain ⟨u, hs3, q3, ⟨f, rfl, hf⟩, hb3⟩ := ih b m (by omega) hb1 hb8 (by omega) hw hs2 _ rest hb2 (by omega) (by omega)
      have hadd : ∀ h, addU false (.d (.list (vs.map .int))) (.d (.list [.int v])) h = .ok (.d (.list (vs.map .int ++ [.int v]))) h := fun h => by rw [addU_l (by have := hv.len; simp; omega), mkL_f]
      have hss : ∀ h, ssU false (.d (.list (vs.map .int ++ [.int v]))) h = .ok (.d (.list ((ssI (vs ++ [v])).map .int))) h := fun h => by
        have e : (vs.map PyData.int ++ [.int v]) = (vs ++ [v]).map .int := by simp
        have hl : (ssI (vs ++ [v])).length < 64 := by have := hw.len; omega
        rw [e]
        unfold ssU lstLike Py.listOf
        simp only [Option.bind_some, intsOf_map, opt_some, R.bind_ok]
        rw [if_pos hl, mkL_f]
      have en : ((m + 1 : Nat) : Int) - 1 = m := by omega
      have hn0' : (0 : Int) < ((m + 1 : Nat) : Int) := by omega
      by_cases hr : r = 1
      · refine ⟨_, hs3, ?_, ⟨.all v f, rfl, (hf.all v0 (by omega)).mono ls (by omega)⟩, hb3.mono (by omega)⟩
        rw [r__law_formula]
        generalize ((m + 1 : Nat) : Int) = z at *
        simp [b__law_formula, evCl_6, evCl_0, evCl_1, evCl_2, evCl_3, evCl_4, evCl_k, evCl_k2, evCl_k2r, evCl_k3r, ev, tv, evs, evo, evc, evw, evV, evC, evT, ev2, ev1, evCh, evB, evIf, evNil, evCons, evTup, evLst, evCall, evSl, evNo, evPart, vAnd, vOr, vNot, tAndE, tOrE, tNotE, binU, cmpU, biU, meU, g1, g2, maxG, minG, Es.len, Tg.slots, Tgs.slots, ex, exs, exh, sNx, sBk, sCt, sSeq, sDrop, sRet, sRetN, sAsg, sPar2, sPar3, sSub, sIf, sRaise, asg, asgs, R.bind_ok, R.bind_err, R.bind_bad, R.stm_ok, R.stm_err, R.stm_bad, opt_some, opt_none, noErr_ok, noErr_bad, leave_d, leave_n, leave_e, leave_da, mkL_f, tru, truU, truD, asB, asBo, getU_t0, getU_t1, getU_t2, getU_t3, getU_l0, getU_l1, getU_l2, getU_m1, getU_m2, getU_m3, eqU_i, eqU_s, eqU_b, eqU_nil, eqU_nilL, eqv_ii, eqv_ss, eqv_tnil, eqv_lnil, bool_bne, lenU_t, lenU_l, tupleU_l, tupleU_t, isiU, tyN, isaB, tyNames, cmpI, negU, srcK_d, srcU, q1, q2, q3, hn0', hr, Py.intOp, gSubI, intU, hadd, hss, en, pures, leave, outU, tL0 hb.len, tL0 hb3.len, hb.len, evPart, Fm.d]
      · refine ⟨_, hs3, ?_, ⟨.ex v f, rfl, (hf.ex v0 (by omega)).mono ls (by omega)⟩, hb3.mono (by omega)⟩
        rw [r__law_formula]
        generalize ((m + 1 : Nat) : Int) = z at *
        simp [b__law_formula, evCl_6, evCl_0, evCl_1, evCl_2, evCl_3, evCl_4, evCl_k, evCl_k2, evCl_k2r, evCl_k3r, ev, tv, evs, evo, evc, evw, evV, evC, evT, ev2, ev1, evCh, evB, evIf, evNil, evCons, evTup, evLst, evCall, evSl, evNo, evPart, vAnd, vOr, vNot, tAndE, tOrE, tNotE, binU, cmpU, biU, meU, g1, g2, maxG, minG, Es.len, Tg.slots, Tgs.slots, ex, exs, exh, sNx, sBk, sCt, sSeq, sDrop, sRet, sRetN, sAsg, sPar2, sPar3, sSub, sIf, sRaise, asg, asgs, R.bind_ok, R.bind_err, R.bind_bad, R.stm_ok, R.stm_err, R.stm_bad, opt_some, opt_none, noErr_ok, noErr_bad, leave_d, leave_n, leave_e, leave_da, mkL_f, tru, truU, truD, asB, asBo, getU_t0, getU_t1, getU_t2, getU_t3, getU_l0, getU_l1, getU_l2, getU_m1, getU_m2, getU_m3, eqU_i, eqU_s, eqU_b, eqU_nil, eqU_nilL, eqv_ii, eqv_ss, eqv_tnil, eqv_lnil, bool_bne, lenU_t, lenU_l, tupleU_l, tupleU_t, isiU, tyN, isaB, tyNames, cmpI, negU, srcK_d, srcU, q1, q2, q3, hn0', hr3, hr, Py.intOp, gSubI, intU, hadd, hss, en, pures, leave, outU, tL0 hb.len, tL0 hb3.len, hb.len, evPart, Fm.d]
    · have hy : (0 : Int) < n → ¬ r < 3 := fun z y => hq ⟨by omega, y⟩
      have eb : 1 ≤ b → (b : Int) - 1 = ((b - 1 : Nat) : Int) := fun _ => by omega
      have g2 := gHalf b
      have g4 := gFour b
      by_cases hleaf : b < 2 ∨ r < 4
      · have zl : (b : Int) < 2 ∨ r < 4 := by omega
        obtain ⟨u, hs2, q2, ⟨r2, rfl, r20, r21⟩, hb2⟩ := draws (F := F) (k + N + 3) (many := 12) (by decide) (by decide) hs1 _ rest hb1' (by omega) (by omega)
        have ll := sF_leaf b hb8 n hn3 hb1
        by_cases h2 : 0 < r2
        · obtain ⟨u, hs3, q3, ⟨f, rfl, hf⟩, hb3⟩ := p_atom (F := F) (k := k + N + 1) hM1 hM2 hv hd hs2 _ rest hb2 (by omega) (by omega)
          refine ⟨_, hs3, ?_, ⟨f, rfl, hf.mono ll (by omega)⟩, hb3.mono (by omega)⟩
          rw [r__law_formula]
          by_cases zb : (b : Int) < 2
          · generalize (n : Int) = zi at *
            by_cases z : 0 < zi <;> first | (simp [b__law_formula, evCl_6, evCl_0, evCl_1, evCl_2, evCl_3, evCl_4, evCl_k, evCl_k2, evCl_k2r, evCl_k3r, ev, tv, evs, evo, evc, evw, evV, evC, evT, ev2, ev1, evCh, evB, evIf, evNil, evCons, evTup, evLst, evCall, evSl, evNo, evPart, vAnd, vOr, vNot, tAndE, tOrE, tNotE, binU, cmpU, biU, meU, g1, g2, maxG, minG, Es.len, Tg.slots, Tgs.slots, ex, exs, exh, sNx, sBk, sCt, sSeq, sDrop, sRet, sRetN, sAsg, sPar2, sPar3, sSub, sIf, sRaise, asg, asgs, R.bind_ok, R.bind_err, R.bind_bad, R.stm_ok, R.stm_err, R.stm_bad, opt_some, opt_none, noErr_ok, noErr_bad, leave_d, leave_n, leave_e, leave_da, mkL_f, tru, truU, truD, asB, asBo, getU_t0, getU_t1, getU_t2, getU_t3, getU_l0, getU_l1, getU_l2, getU_m1, getU_m2, getU_m3, eqU_i, eqU_s, eqU_b, eqU_nil, eqU_nilL, eqv_ii, eqv_ss, eqv_tnil, eqv_lnil, bool_bne, lenU_t, lenU_l, tupleU_l, tupleU_t, isiU, tyN, isaB, tyNames, cmpI, negU, srcK_d, srcU, q1, q2, q3, h2, zb, tL0 hb3.len, Py.intOp, gSubI, pures, leave, outU, tL0 hb.len, hb.len, evPart, Fm.d, Fm.ds, z, hy z]; done) | simp [b__law_formula, evCl_6, evCl_0, evCl_1, evCl_2, evCl_3, evCl_4, evCl_k, evCl_k2, evCl_k2r, evCl_k3r, ev, tv, evs, evo, evc, evw, evV, evC, evT, ev2, ev1, evCh, evB, evIf, evNil, evCons, evTup, evLst, evCall, evSl, evNo, evPart, vAnd, vOr, vNot, tAndE, tOrE, tNotE, binU, cmpU, biU, meU, g1, g2, maxG, minG, Es.len, Tg.slots, Tgs.slots, ex, exs, exh, sNx, sBk, sCt, sSeq, sDrop, sRet, sRetN, sAsg, sPar2, sPar3, sSub, sIf, sRaise, asg, asgs, R.bind_ok, R.bind_err, R.bind_bad, R.stm_ok, R.stm_err, R.stm_bad, opt_some, opt_none, noErr_ok, noErr_bad, leave_d, leave_n, leave_e, leave_da, mkL_f, tru, truU, truD, asB, asBo, getU_t0, getU_t1, getU_t2, getU_t3, getU_l0, getU_l1, getU_l2, getU_m1, getU_m2, getU_m3, eqU_i, eqU_s, eqU_b, eqU_nil, eqU_nilL, eqv_ii, eqv_ss, eqv_tnil, eqv_lnil, bool_bne, lenU_t, lenU_l, tupleU_l, tupleU_t, isiU, tyN, isaB, tyNames, cmpI, negU, srcK_d, srcU, q1, q2, q3, h2, zb, tL0 hb3.len, Py.intOp, gSubI, pures, leave, outU, tL0 hb.len, hb.len, evPart, Fm.d, Fm.ds, z]
          · have zr : r < 4 := by omega
            generalize (n : Int) = zi at *
            by_cases z : 0 < zi <;> first | (simp [b__law_formula, evCl_6, evCl_0, evCl_1, evCl_2, evCl_3, evCl_4, evCl_k, evCl_k2, evCl_k2r, evCl_k3r, ev, tv, evs, evo, evc, evw, evV, evC, evT, ev2, ev1, evCh, evB, evIf, evNil, evCons, evTup, evLst, evCall, evSl, evNo, evPart, vAnd, vOr, vNot, tAndE, tOrE, tNotE, binU, cmpU, biU, meU, g1, g2, maxG, minG, Es.len, Tg.slots, Tgs.slots, ex, exs, exh, sNx, sBk, sCt, sSeq, sDrop, sRet, sRetN, sAsg, sPar2, sPar3, sSub, sIf, sRaise, asg, asgs, R.bind_ok, R.bind_err, R.bind_bad, R.stm_ok, R.stm_err, R.stm_bad, opt_some, opt_none, noErr_ok, noErr_bad, leave_d, leave_n, leave_e, leave_da, mkL_f, tru, truU, truD, asB, asBo, getU_t0, getU_t1, getU_t2, getU_t3, getU_l0, getU_l1, getU_l2, getU_m1, getU_m2, getU_m3, eqU_i, eqU_s, eqU_b, eqU_nil, eqU_nilL, eqv_ii, eqv_ss, eqv_tnil, eqv_lnil, bool_bne, lenU_t, lenU_l, tupleU_l, tupleU_t, isiU, tyN, isaB, tyNames, cmpI, negU, srcK_d, srcU, q1, q2, q3, h2, zb, zr, tL0 hb3.len, Py.intOp, gSubI, pures, leave, outU, tL0 hb.len, hb.len, evPart, Fm.d, Fm.ds, z, hy z]; done) | simp [b__law_formula, evCl_6, evCl_0, evCl_1, evCl_2, evCl_3, evCl_4, evCl_k, evCl_k2, evCl_k2r, evCl_k3r, ev, tv, evs, evo, evc, evw, evV, evC, evT, ev2, ev1, evCh, evB, evIf, evNil, evCons, evTup, evLst, evCall, evSl, evNo, evPart, vAnd, vOr, vNot, tAndE, tOrE, tNotE, binU, cmpU, biU, meU, g1, g2, maxG, minG, Es.len, Tg.slots, Tgs.slots, ex, exs, exh, sNx, sBk, sCt, sSeq, sDrop, sRet, sRetN, sAsg, sPar2, sPar3, sSub, sIf, sRaise, asg, asgs, R.bind_ok, R.bind_err, R.bind_bad, R.stm_ok, R.stm_err, R.stm_bad, opt_some, opt_none, noErr_ok, noErr_bad, leave_d, leave_n, leave_e, leave_da, mkL_f, tru, truU, truD, asB, asBo, getU_t0, getU_t1, getU_t2, getU_t3, getU_l0, getU_l1, getU_l2, getU_m1, getU_m2, getU_m3, eqU_i, eqU_s, eqU_b, eqU_nil, eqU_nilL, eqv_ii, eqv_ss, eqv_tnil, eqv_lnil, bool_bne, lenU_t, lenU_l, tupleU_l, tupleU_t, isiU, tyN, isaB, tyNames, cmpI, negU, srcK_d, srcU, q1, q2, q3, h2, zb, zr, tL0 hb3.len, Py.intOp, gSubI, pures, leave, outU, tL0 hb.len, hb.len, evPart, Fm.d, Fm.ds, z]
        · refine ⟨_, hs2, ?_, ⟨.tru, rfl, ⟨DF.tru ll, by rw [deep1 _ rfl]; omega⟩⟩, hb2.mono (by omega)⟩
          rw [r__law_formula]
          by_cases zb : (b : Int) < 2
          · generalize (n : Int) = zi at *
            by_cases z : 0 < zi <;> first | (simp [b__law_formula, evCl_6, evCl_0, evCl_1, evCl_2, evCl_3, evCl_4, evCl_k, evCl_k2, evCl_k2r, evCl_k3r, ev, tv, evs, evo, evc, evw, evV, evC, evT, ev2, ev1, evCh, evB, evIf, evNil, evCons, evTup, evLst, evCall, evSl, evNo, evPart, vAnd, vOr, vNot, tAndE, tOrE, tNotE, binU, cmpU, biU, meU, g1, g2, maxG, minG, Es.len, Tg.slots, Tgs.slots, ex, exs, exh, sNx, sBk, sCt, sSeq, sDrop, sRet, sRetN, sAsg, sPar2, sPar3, sSub, sIf, sRaise, asg, asgs, R.bind_ok, R.bind_err, R.bind_bad, R.stm_ok, R.stm_err, R.stm_bad, opt_some, opt_none, noErr_ok, noErr_bad, leave_d, leave_n, leave_e, leave_da, mkL_f, tru, truU, truD, asB, asBo, getU_t0, getU_t1, getU_t2, getU_t3, getU_l0, getU_l1, getU_l2, getU_m1, getU_m2, getU_m3, eqU_i, eqU_s, eqU_b, eqU_nil, eqU_nilL, eqv_ii, eqv_ss, eqv_tnil, eqv_lnil, bool_bne, lenU_t, lenU_l, tupleU_l, tupleU_t, isiU, tyN, isaB, tyNames, cmpI, negU, srcK_d, srcU, q1, q2, h2, zb, tL0 hb2.len, Py.intOp, gSubI, pures, leave, outU, tL0 hb.len, hb.len, evPart, Fm.d, Fm.ds, z, hy z]; done) | simp [b__law_formula, evCl_6, evCl_0, evCl_1, evCl_2, evCl_3, evCl_4, evCl_k, evCl_k2, evCl_k2r, evCl_k3r, ev, tv, evs, evo, evc, evw, evV, evC, evT, ev2, ev1, evCh, evB, evIf, evNil, evCons, evTup, evLst, evCall, evSl, evNo, evPart, vAnd, vOr, vNot, tAndE, tOrE, tNotE, binU, cmpU, biU, meU, g1, g2, maxG, minG, Es.len, Tg.slots, Tgs.slots, ex, exs, exh, sNx, sBk, sCt, sSeq, sDrop, sRet, sRetN, sAsg, sPar2, sPar3, sSub, sIf, sRaise, asg, asgs, R.bind_ok, R.bind_err, R.bind_bad, R.stm_ok, R.stm_err, R.stm_bad, opt_some, opt_none, noErr_ok, noErr_bad, leave_d, leave_n, leave_e, leave_da, mkL_f, tru, truU, truD, asB, asBo, getU_t0, getU_t1, getU_t2, getU_t3, getU_l0, getU_l1, getU_l2, getU_m1, getU_m2, getU_m3, eqU_i, eqU_s, eqU_b, eqU_nil, eqU_nilL, eqv_ii, eqv_ss, eqv_tnil, eqv_lnil, bool_bne, lenU_t, lenU_l, tupleU_l, tupleU_t, isiU, tyN, isaB, tyNames, cmpI, negU, srcK_d, srcU, q1, q2, h2, zb, tL0 hb2.len, Py.intOp, gSubI, pures, leave, outU, tL0 hb.len, hb.len, evPart, Fm.d, Fm.ds, z]
          · have zr : r < 4 := by omega
            generalize (n : Int) = zi at *
            by_cases z : 0 < zi <;> first | (simp [b__law_formula, evCl_6, evCl_0, evCl_1, evCl_2, evCl_3, evCl_4, evCl_k, evCl_k2, evCl_k2r, evCl_k3r, ev, tv, evs, evo, evc, evw, evV, evC, evT, ev2, ev1, evCh, evB, evIf, evNil, evCons, evTup, evLst, evCall, evSl, evNo, evPart, vAnd, vOr, vNot, tAndE, tOrE, tNotE, binU, cmpU, biU, meU, g1, g2, maxG, minG, Es.len, Tg.slots, Tgs.slots, ex, exs, exh, sNx, sBk, sCt, sSeq, sDrop, sRet, sRetN, sAsg, sPar2, sPar3, sSub, sIf, sRaise, asg, asgs, R.bind_ok, R.bind_err, R.bind_bad, R.stm_ok, R.stm_err, R.stm_bad, opt_some, opt_none, noErr_ok, noErr_bad, leave_d, leave_n, leave_e, leave_da, mkL_f, tru, truU, truD, asB, asBo, getU_t0, getU_t1, getU_t2, getU_t3, getU_l0, getU_l1, getU_l2, getU_m1, getU_m2, getU_m3, eqU_i, eqU_s, eqU_b, eqU_nil, eqU_nilL, eqv_ii, eqv_ss, eqv_tnil, eqv_lnil, bool_bne, lenU_t, lenU_l, tupleU_l, tupleU_t, isiU, tyN, isaB, tyNames, cmpI, negU, srcK_d, srcU, q1, q2, h2, zb, zr, tL0 hb2.len, Py.intOp, gSubI, pures, leave, outU, tL0 hb.len, hb.len, evPart, Fm.d, Fm.ds, z, hy z]; done) | simp [b__law_formula, evCl_6, evCl_0, evCl_1, evCl_2, evCl_3, evCl_4, evCl_k, evCl_k2, evCl_k2r, evCl_k3r, ev, tv, evs, evo, evc, evw, evV, evC, evT, ev2, ev1, evCh, evB, evIf, evNil, evCons, evTup, evLst, evCall, evSl, evNo, evPart, vAnd, vOr, vNot, tAndE, tOrE, tNotE, binU, cmpU, biU, meU, g1, g2, maxG, minG, Es.len, Tg.slots, Tgs.slots, ex, exs, exh, sNx, sBk, sCt, sSeq, sDrop, sRet, sRetN, sAsg, sPar2, sPar3, sSub, sIf, sRaise, asg, asgs, R.bind_ok, R.bind_err, R.bind_bad, R.stm_ok, R.stm_err, R.stm_bad, opt_some, opt_none, noErr_ok, noErr_bad, leave_d, leave_n, leave_e, leave_da, mkL_f, tru, truU, truD, asB, asBo, getU_t0, getU_t1, getU_t2, getU_t3, getU_l0, getU_l1, getU_l2, getU_m1, getU_m2, getU_m3, eqU_i, eqU_s, eqU_b, eqU_nil, eqU_nilL, eqv_ii, eqv_ss, eqv_tnil, eqv_lnil, bool_bne, lenU_t, lenU_l, tupleU_l, tupleU_t, isiU, tyN, isaB, tyNames, cmpI, negU, srcK_d, srcU, q1, q2, h2, zb, zr, tL0 hb2.len, Py.intOp, gSubI, pures, leave, outU, tL0 hb.len, hb.len, evPart, Fm.d, Fm.ds, z]
      · have b2 : 2 ≤ b := by omega
        have zb : ¬ (b : Int) < 2 := by omega
        have zr : ¬ r < 4 := by omega
        have cn := cF_not b hb8 n hn3 b2
        have ct := cF_two b hb8 n hn3 b2
        have n2 := cF_nn (b / 2) n
        have n4 := cF_nn (b / 4) n
        by_cases c4 : r = 4
        · obtain ⟨u, hs2, q2, ⟨f, rfl, hf⟩, hb2⟩ := ih (b - 1) n (by omega) (by omega) (by omega) hn3 hv hs1 _ rest hb1' (by omega) (by omega)
          have eb := eb hb1
          refine ⟨_, hs2, ?_, ⟨.not f, rfl, hf.not.mono (sF_not b hb8 n hn3 b2) (by omega)⟩, hb2.mono (by omega)⟩
          rw [r__law_formula]
          generalize ((b - 1 : Nat) : Int) = bm at *
          generalize (n : Int) = zi at *
          by_cases z : 0 < zi <;> first | (simp [b__law_formula, evCl_6, evCl_0, evCl_1, evCl_2, evCl_3, evCl_4, evCl_k, evCl_k2, evCl_k2r, evCl_k3r, ev, tv, evs, evo, evc, evw, evV, evC, evT, ev2, ev1, evCh, evB, evIf, evNil, evCons, evTup, evLst, evCall, evSl, evNo, evPart, vAnd, vOr, vNot, tAndE, tOrE, tNotE, binU, cmpU, biU, meU, g1, g2, maxG, minG, Es.len, Tg.slots, Tgs.slots, ex, exs, exh, sNx, sBk, sCt, sSeq, sDrop, sRet, sRetN, sAsg, sPar2, sPar3, sSub, sIf, sRaise, asg, asgs, R.bind_ok, R.bind_err, R.bind_bad, R.stm_ok, R.stm_err, R.stm_bad, opt_some, opt_none, noErr_ok, noErr_bad, leave_d, leave_n, leave_e, leave_da, mkL_f, tru, truU, truD, asB, asBo, getU_t0, getU_t1, getU_t2, getU_t3, getU_l0, getU_l1, getU_l2, getU_m1, getU_m2, getU_m3, eqU_i, eqU_s, eqU_b, eqU_nil, eqU_nilL, eqv_ii, eqv_ss, eqv_tnil, eqv_lnil, bool_bne, lenU_t, lenU_l, tupleU_l, tupleU_t, isiU, tyN, isaB, tyNames, cmpI, negU, srcK_d, srcU, q1, q2, zb, c4, eb, tL0 hb2.len, Py.intOp, gSubI, pures, leave, outU, tL0 hb.len, hb.len, evPart, Fm.d, Fm.ds, z, hy z]; done) | simp [b__law_formula, evCl_6, evCl_0, evCl_1, evCl_2, evCl_3, evCl_4, evCl_k, evCl_k2, evCl_k2r, evCl_k3r, ev, tv, evs, evo, evc, evw, evV, evC, evT, ev2, ev1, evCh, evB, evIf, evNil, evCons, evTup, evLst, evCall, evSl, evNo, evPart, vAnd, vOr, vNot, tAndE, tOrE, tNotE, binU, cmpU, biU, meU, g1, g2, maxG, minG, Es.len, Tg.slots, Tgs.slots, ex, exs, exh, sNx, sBk, sCt, sSeq, sDrop, sRet, sRetN, sAsg, sPar2, sPar3, sSub, sIf, sRaise, asg, asgs, R.bind_ok, R.bind_err, R.bind_bad, R.stm_ok, R.stm_err, R.stm_bad, opt_some, opt_none, noErr_ok, noErr_bad, leave_d, leave_n, leave_e, leave_da, mkL_f, tru, truU, truD, asB, asBo, getU_t0, getU_t1, getU_t2, getU_t3, getU_l0, getU_l1, getU_l2, getU_m1, getU_m2, getU_m3, eqU_i, eqU_s, eqU_b, eqU_nil, eqU_nilL, eqv_ii, eqv_ss, eqv_tnil, eqv_lnil, bool_bne, lenU_t, lenU_l, tupleU_l, tupleU_t, isiU, tyN, isaB, tyNames, cmpI, negU, srcK_d, srcU, q1, q2, zb, c4, eb, tL0 hb2.len, Py.intOp, gSubI, pures, leave, outU, tL0 hb.len, hb.len, evPart, Fm.d, Fm.ds, z]
        · obtain ⟨u, hs2, q2, ⟨f, rfl, hf⟩, hb2⟩ := ih (b / 2) n (by omega) (by omega) (by omega) hn3 hv hs1 _ rest hb1' (by omega) (by omega)
          obtain ⟨u, hs3, q3, ⟨g, rfl, hg⟩, hb3⟩ := ih (b / 2) n (by omega) (by omega) (by omega) hn3 hv hs2 _ rest hb2 (by omega) (by omega)
          have st := sF_two b hb8 n hn3 b2
          by_cases c5 : r = 5
          · refine ⟨_, hs3, ?_, ⟨.imp f g, rfl, (hf.imp hg).mono st (by omega)⟩, hb3.mono (by omega)⟩
            rw [r__law_formula]
            generalize ((b / 2 : Nat) : Int) = bh at *
            generalize ((b / 4 : Nat) : Int) = bq at *
            generalize (n : Int) = zi at *
            by_cases z : 0 < zi <;> first | (simp [b__law_formula, evCl_6, evCl_0, evCl_1, evCl_2, evCl_3, evCl_4, evCl_k, evCl_k2, evCl_k2r, evCl_k3r, ev, tv, evs, evo, evc, evw, evV, evC, evT, ev2, ev1, evCh, evB, evIf, evNil, evCons, evTup, evLst, evCall, evSl, evNo, evPart, vAnd, vOr, vNot, tAndE, tOrE, tNotE, binU, cmpU, biU, meU, g1, g2, maxG, minG, Es.len, Tg.slots, Tgs.slots, ex, exs, exh, sNx, sBk, sCt, sSeq, sDrop, sRet, sRetN, sAsg, sPar2, sPar3, sSub, sIf, sRaise, asg, asgs, R.bind_ok, R.bind_err, R.bind_bad, R.stm_ok, R.stm_err, R.stm_bad, opt_some, opt_none, noErr_ok, noErr_bad, leave_d, leave_n, leave_e, leave_da, mkL_f, tru, truU, truD, asB, asBo, getU_t0, getU_t1, getU_t2, getU_t3, getU_l0, getU_l1, getU_l2, getU_m1, getU_m2, getU_m3, eqU_i, eqU_s, eqU_b, eqU_nil, eqU_nilL, eqv_ii, eqv_ss, eqv_tnil, eqv_lnil, bool_bne, lenU_t, lenU_l, tupleU_l, tupleU_t, isiU, tyN, isaB, tyNames, cmpI, negU, srcK_d, srcU, q1, q2, q3, g2, zb, c5, tL0 hb3.len, Py.intOp, gSubI, pures, leave, outU, tL0 hb.len, hb.len, evPart, Fm.d, Fm.ds, z, hy z]; done) | simp [b__law_formula, evCl_6, evCl_0, evCl_1, evCl_2, evCl_3, evCl_4, evCl_k, evCl_k2, evCl_k2r, evCl_k3r, ev, tv, evs, evo, evc, evw, evV, evC, evT, ev2, ev1, evCh, evB, evIf, evNil, evCons, evTup, evLst, evCall, evSl, evNo, evPart, vAnd, vOr, vNot, tAndE, tOrE, tNotE, binU, cmpU, biU, meU, g1, g2, maxG, minG, Es.len, Tg.slots, Tgs.slots, ex, exs, exh, sNx, sBk, sCt, sSeq, sDrop, sRet, sRetN, sAsg, sPar2, sPar3, sSub, sIf, sRaise, asg, asgs, R.bind_ok, R.bind_err, R.bind_bad, R.stm_ok, R.stm_err, R.stm_bad, opt_some, opt_none, noErr_ok, noErr_bad, leave_d, leave_n, leave_e, leave_da, mkL_f, tru, truU, truD, asB, asBo, getU_t0, getU_t1, getU_t2, getU_t3, getU_l0, getU_l1, getU_l2, getU_m1, getU_m2, getU_m3, eqU_i, eqU_s, eqU_b, eqU_nil, eqU_nilL, eqv_ii, eqv_ss, eqv_tnil, eqv_lnil, bool_bne, lenU_t, lenU_l, tupleU_l, tupleU_t, isiU, tyN, isaB, tyNames, cmpI, negU, srcK_d, srcU, q1, q2, q3, g2, zb, c5, tL0 hb3.len, Py.intOp, gSubI, pures, leave, outU, tL0 hb.len, hb.len, evPart, Fm.d, Fm.ds, z]
          · by_cases c6 : r = 6 ∧ 4 ≤ b
            · obtain ⟨c6, b4⟩ := c6
              have z4 : (4 : Int) ≤ b := by omega
              obtain ⟨u, hs4, q4, ⟨f2, rfl, hf2⟩, hb4⟩ := ih (b / 4) n (by omega) (by omega) (by omega) hn3 hv hs3 _ rest hb3 (by omega) (by omega)
              obtain ⟨u, hs5, q5, ⟨g2', rfl, hg2⟩, hb5⟩ := ih (b / 4) n (by omega) (by omega) (by omega) hn3 hv hs4 _ rest hb4 (by omega) (by omega)
              refine ⟨_, hs5, ?_, ⟨.iff f2 g2', rfl, (hf2.iff hg2).mono (sF_four b hb8 n hn3 b4) (by omega)⟩, hb5.mono (by omega)⟩
              rw [r__law_formula]
              generalize ((b / 2 : Nat) : Int) = bh at *
              generalize ((b / 4 : Nat) : Int) = bq at *
              generalize (n : Int) = zi at *
              by_cases z : 0 < zi <;> first | (simp [b__law_formula, evCl_6, evCl_0, evCl_1, evCl_2, evCl_3, evCl_4, evCl_k, evCl_k2, evCl_k2r, evCl_k3r, ev, tv, evs, evo, evc, evw, evV, evC, evT, ev2, ev1, evCh, evB, evIf, evNil, evCons, evTup, evLst, evCall, evSl, evNo, evPart, vAnd, vOr, vNot, tAndE, tOrE, tNotE, binU, cmpU, biU, meU, g1, g2, maxG, minG, Es.len, Tg.slots, Tgs.slots, ex, exs, exh, sNx, sBk, sCt, sSeq, sDrop, sRet, sRetN, sAsg, sPar2, sPar3, sSub, sIf, sRaise, asg, asgs, R.bind_ok, R.bind_err, R.bind_bad, R.stm_ok, R.stm_err, R.stm_bad, opt_some, opt_none, noErr_ok, noErr_bad, leave_d, leave_n, leave_e, leave_da, mkL_f, tru, truU, truD, asB, asBo, getU_t0, getU_t1, getU_t2, getU_t3, getU_l0, getU_l1, getU_l2, getU_m1, getU_m2, getU_m3, eqU_i, eqU_s, eqU_b, eqU_nil, eqU_nilL, eqv_ii, eqv_ss, eqv_tnil, eqv_lnil, bool_bne, lenU_t, lenU_l, tupleU_l, tupleU_t, isiU, tyN, isaB, tyNames, cmpI, negU, srcK_d, srcU, q1, q2, q3, q4, q5, g2, g4, zb, c6, z4, tL0 hb5.len, Py.intOp, gSubI, pures, leave, outU, tL0 hb.len, hb.len, evPart, Fm.d, Fm.ds, z, hy z]; done) | simp [b__law_formula, evCl_6, evCl_0, evCl_1, evCl_2, evCl_3, evCl_4, evCl_k, evCl_k2, evCl_k2r, evCl_k3r, ev, tv, evs, evo, evc, evw, evV, evC, evT, ev2, ev1, evCh, evB, evIf, evNil, evCons, evTup, evLst, evCall, evSl, evNo, evPart, vAnd, vOr, vNot, tAndE, tOrE, tNotE, binU, cmpU, biU, meU, g1, g2, maxG, minG, Es.len, Tg.slots, Tgs.slots, ex, exs, exh, sNx, sBk, sCt, sSeq, sDrop, sRet, sRetN, sAsg, sPar2, sPar3, sSub, sIf, sRaise, asg, asgs, R.bind_ok, R.bind_err, R.bind_bad, R.stm_ok, R.stm_err, R.stm_bad, opt_some, opt_none, noErr_ok, noErr_bad, leave_d, leave_n, leave_e, leave_da, mkL_f, tru, truU, truD, asB, asBo, getU_t0, getU_t1, getU_t2, getU_t3, getU_l0, getU_l1, getU_l2, getU_m1, getU_m2, getU_m3, eqU_i, eqU_s, eqU_b, eqU_nil, eqU_nilL, eqv_ii, eqv_ss, eqv_tnil, eqv_lnil, bool_bne, lenU_t, lenU_l, tupleU_l, tupleU_t, isiU, tyN, isaB, tyNames, cmpI, negU, srcK_d, srcU, q1, q2, q3, q4, q5, g2, g4, zb, c6, z4, tL0 hb5.len, Py.intOp, gSubI, pures, leave, outU, tL0 hb.len, hb.len, evPart, Fm.d, Fm.ds, z]
            · have hin : ∀ h, inU false (.d (.int r)) (.d (.tuple [.int 7, .int 9])) h = .ok (.d (.bool (decide (r = 7) || decide (r = 9)))) h := fun h => by
                rw [inU_ti]
                by_cases a : 7 = r <;> by_cases b : 9 = r <;> simp [a, b, eq_comm (a := r)]
              have z6 : r = 6 → ¬ (4 : Int) ≤ b := fun q y => c6 ⟨q, by omega⟩
              by_cases c7 : r = 7 ∨ r = 9
              · have c6' : ¬ r = 6 := by omega
                refine ⟨_, hs3, ?_, ⟨.or [f, g], rfl, (hf.or2 hg).mono st (by omega)⟩, hb3.mono (by omega)⟩
                rw [r__law_formula]
                generalize ((b / 2 : Nat) : Int) = bh at *
                generalize ((b / 4 : Nat) : Int) = bq at *
                generalize (n : Int) = zi at *
                by_cases z : 0 < zi <;> first | (simp [b__law_formula, evCl_6, evCl_0, evCl_1, evCl_2, evCl_3, evCl_4, evCl_k, evCl_k2, evCl_k2r, evCl_k3r, ev, tv, evs, evo, evc, evw, evV, evC, evT, ev2, ev1, evCh, evB, evIf, evNil, evCons, evTup, evLst, evCall, evSl, evNo, evPart, vAnd, vOr, vNot, tAndE, tOrE, tNotE, binU, cmpU, biU, meU, g1, g2, maxG, minG, Es.len, Tg.slots, Tgs.slots, ex, exs, exh, sNx, sBk, sCt, sSeq, sDrop, sRet, sRetN, sAsg, sPar2, sPar3, sSub, sIf, sRaise, asg, asgs, R.bind_ok, R.bind_err, R.bind_bad, R.stm_ok, R.stm_err, R.stm_bad, opt_some, opt_none, noErr_ok, noErr_bad, leave_d, leave_n, leave_e, leave_da, mkL_f, tru, truU, truD, asB, asBo, getU_t0, getU_t1, getU_t2, getU_t3, getU_l0, getU_l1, getU_l2, getU_m1, getU_m2, getU_m3, eqU_i, eqU_s, eqU_b, eqU_nil, eqU_nilL, eqv_ii, eqv_ss, eqv_tnil, eqv_lnil, bool_bne, lenU_t, lenU_l, tupleU_l, tupleU_t, isiU, tyN, isaB, tyNames, cmpI, negU, srcK_d, srcU, q1, q2, q3, g2, zb, zr, c4, c5, c6', c7, hin, tL0 hb3.len, Py.intOp, gSubI, pures, leave, outU, tL0 hb.len, hb.len, evPart, Fm.d, Fm.ds, z, hy z]; done) | simp [b__law_formula, evCl_6, evCl_0, evCl_1, evCl_2, evCl_3, evCl_4, evCl_k, evCl_k2, evCl_k2r, evCl_k3r, ev, tv, evs, evo, evc, evw, evV, evC, evT, ev2, ev1, evCh, evB, evIf, evNil, evCons, evTup, evLst, evCall, evSl, evNo, evPart, vAnd, vOr, vNot, tAndE, tOrE, tNotE, binU, cmpU, biU, meU, g1, g2, maxG, minG, Es.len, Tg.slots, Tgs.slots, ex, exs, exh, sNx, sBk, sCt, sSeq, sDrop, sRet, sRetN, sAsg, sPar2, sPar3, sSub, sIf, sRaise, asg, asgs, R.bind_ok, R.bind_err, R.bind_bad, R.stm_ok, R.stm_err, R.stm_bad, opt_some, opt_none, noErr_ok, noErr_bad, leave_d, leave_n, leave_e, leave_da, mkL_f, tru, truU, truD, asB, asBo, getU_t0, getU_t1, getU_t2, getU_t3, getU_l0, getU_l1, getU_l2, getU_m1, getU_m2, getU_m3, eqU_i, eqU_s, eqU_b, eqU_nil, eqU_nilL, eqv_ii, eqv_ss, eqv_tnil, eqv_lnil, bool_bne, lenU_t, lenU_l, tupleU_l, tupleU_t, isiU, tyN, isaB, tyNames, cmpI, negU, srcK_d, srcU, q1, q2, q3, g2, zb, zr, c4, c5, c6', c7, hin, tL0 hb3.len, Py.intOp, gSubI, pures, leave, outU, tL0 hb.len, hb.len, evPart, Fm.d, Fm.ds, z]
              · refine ⟨_, hs3, ?_, ⟨.and [f, g], rfl, (hf.and2 hg).mono st (by omega)⟩, hb3.mono (by omega)⟩
                rw [r__law_formula]
                generalize ((b / 2 : Nat) : Int) = bh at *
                generalize ((b / 4 : Nat) : Int) = bq at *
                by_cases c6' : r = 6
                · have z7 := z6 c6'
                  have hin6 : ∀ h, inU false (.d (.int 6)) (.d (.tuple [.int 7, .int 9])) h = .ok (.d (.bool false)) h := fun h => by rw [inU_ti]; rfl
                  generalize (n : Int) = zi at *
                  by_cases z : 0 < zi <;> first | (simp [b__law_formula, evCl_6, evCl_0, evCl_1, evCl_2, evCl_3, evCl_4, evCl_k, evCl_k2, evCl_k2r, evCl_k3r, ev, tv, evs, evo, evc, evw, evV, evC, evT, ev2, ev1, evCh, evB, evIf, evNil, evCons, evTup, evLst, evCall, evSl, evNo, evPart, vAnd, vOr, vNot, tAndE, tOrE, tNotE, binU, cmpU, biU, meU, g1, g2, maxG, minG, Es.len, Tg.slots, Tgs.slots, ex, exs, exh, sNx, sBk, sCt, sSeq, sDrop, sRet, sRetN, sAsg, sPar2, sPar3, sSub, sIf, sRaise, asg, asgs, R.bind_ok, R.bind_err, R.bind_bad, R.stm_ok, R.stm_err, R.stm_bad, opt_some, opt_none, noErr_ok, noErr_bad, leave_d, leave_n, leave_e, leave_da, mkL_f, tru, truU, truD, asB, asBo, getU_t0, getU_t1, getU_t2, getU_t3, getU_l0, getU_l1, getU_l2, getU_m1, getU_m2, getU_m3, eqU_i, eqU_s, eqU_b, eqU_nil, eqU_nilL, eqv_ii, eqv_ss, eqv_tnil, eqv_lnil, bool_bne, lenU_t, lenU_l, tupleU_l, tupleU_t, isiU, tyN, isaB, tyNames, cmpI, negU, srcK_d, srcU, q1, q2, q3, g2, zb, c6', z7, hin6, tL0 hb3.len, Py.intOp, gSubI, pures, leave, outU, tL0 hb.len, hb.len, evPart, Fm.d, Fm.ds, z, hy z]; done) | simp [b__law_formula, evCl_6, evCl_0, evCl_1, evCl_2, evCl_3, evCl_4, evCl_k, evCl_k2, evCl_k2r, evCl_k3r, ev, tv, evs, evo, evc, evw, evV, evC, evT, ev2, ev1, evCh, evB, evIf, evNil, evCons, evTup, evLst, evCall, evSl, evNo, evPart, vAnd, vOr, vNot, tAndE, tOrE, tNotE, binU, cmpU, biU, meU, g1, g2, maxG, minG, Es.len, Tg.slots, Tgs.slots, ex, exs, exh, sNx, sBk, sCt, sSeq, sDrop, sRet, sRetN, sAsg, sPar2, sPar3, sSub, sIf, sRaise, asg, asgs, R.bind_ok, R.bind_err, R.bind_bad, R.stm_ok, R.stm_err, R.stm_bad, opt_some, opt_none, noErr_ok, noErr_bad, leave_d, leave_n, leave_e, leave_da, mkL_f, tru, truU, truD, asB, asBo, getU_t0, getU_t1, getU_t2, getU_t3, getU_l0, getU_l1, getU_l2, getU_m1, getU_m2, getU_m3, eqU_i, eqU_s, eqU_b, eqU_nil, eqU_nilL, eqv_ii, eqv_ss, eqv_tnil, eqv_lnil, bool_bne, lenU_t, lenU_l, tupleU_l, tupleU_t, isiU, tyN, isaB, tyNames, cmpI, negU, srcK_d, srcU, q1, q2, q3, g2, zb, c6', z7, hin6, tL0 hb3.len, Py.intOp, gSubI, pures, leave, outU, tL0 hb.len, hb.len, evPart, Fm.d, Fm.ds, z]
                · skip
                  generalize (n : Int) = zi at *
                  by_cases z : 0 < zi <;> first | (simp [b__law_formula, evCl_6, evCl_0, evCl_1, evCl_2, evCl_3, evCl_4, evCl_k, evCl_k2, evCl_k2r, evCl_k3r, ev, tv, evs, evo, evc, evw, evV, evC, evT, ev2, ev1, evCh, evB, evIf, evNil, evCons, evTup, evLst, evCall, evSl, evNo, evPart, vAnd, vOr, vNot, tAndE, tOrE, tNotE, binU, cmpU, biU, meU, g1, g2, maxG, minG, Es.len, Tg.slots, Tgs.slots, ex, exs, exh, sNx, sBk, sCt, sSeq, sDrop, sRet, sRetN, sAsg, sPar2, sPar3, sSub, sIf, sRaise, asg, asgs, R.bind_ok, R.bind_err, R.bind_bad, R.stm_ok, R.stm_err, R.stm_bad, opt_some, opt_none, noErr_ok, noErr_bad, leave_d, leave_n, leave_e, leave_da, mkL_f, tru, truU, truD, asB, asBo, getU_t0, getU_t1, getU_t2, getU_t3, getU_l0, getU_l1, getU_l2, getU_m1, getU_m2, getU_m3, eqU_i, eqU_s, eqU_b, eqU_nil, eqU_nilL, eqv_ii, eqv_ss, eqv_tnil, eqv_lnil, bool_bne, lenU_t, lenU_l, tupleU_l, tupleU_t, isiU, tyN, isaB, tyNames, cmpI, negU, srcK_d, srcU, q1, q2, q3, g2, zb, zr, c4, c5, c6', c7, hin, tL0 hb3.len, Py.intOp, gSubI, pures, leave, outU, tL0 hb.len, hb.len, evPart, Fm.d, Fm.ds, z, hy z]; done) | simp [b__law_formula, evCl_6, evCl_0, evCl_1, evCl_2, evCl_3, evCl_4, evCl_k, evCl_k2, evCl_k2r, evCl_k3r, ev, tv, evs, evo, evc, evw, evV, evC, evT, ev2, ev1, evCh, evB, evIf, evNil, evCons, evTup, evLst, evCall, evSl, evNo, evPart, vAnd, vOr, vNot, tAndE, tOrE, tNotE, binU, cmpU, biU, meU, g1, g2, maxG, minG, Es.len, Tg.slots, Tgs.slots, ex, exs, exh, sNx, sBk, sCt, sSeq, sDrop, sRet, sRetN, sAsg, sPar2, sPar3, sSub, sIf, sRaise, asg, asgs, R.bind_ok, R.bind_err, R.bind_bad, R.stm_ok, R.stm_err, R.stm_bad, opt_some, opt_none, noErr_ok, noErr_bad, leave_d, leave_n, leave_e, leave_da, mkL_f, tru, truU, truD, asB, asBo, getU_t0, getU_t1, getU_t2, getU_t3, getU_l0, getU_l1, getU_l2, getU_m1, getU_m2, getU_m3, eqU_i, eqU_s, eqU_b, eqU_nil, eqU_nilL, eqv_ii, eqv_ss, eqv_tnil, eqv_lnil, bool_bne, lenU_t, lenU_l, tupleU_l, tupleU_t, isiU, tyN, isaB, tyNames, cmpI, negU, srcK_d, srcU, q1, q2, q3, g2, zb, zr, c4, c5, c6', c7, hin, tL0 hb3.len, Py.intOp, gSubI, pures, leave, outU, tL0 hb.len, hb.len, evPart, Fm.d, Fm.ds, z]

end K19

namespace K19
open PySem PySem.Spec PyProof.Rows L2 Py

variable {F k : Nat}
/-! atoms, each with how often it counts -/
mutual
def cntF (o : Int) : Fm → List (Fm × Int)
  | .tru => []
  | .fls => []
  | .ge c ps => [(.ge c ps, o)]
  | .eq c ps => [(.eq c ps, o)]
  | .dv m c ps => [(.dv m c ps, o)]
  | .not f => cntF o f
  | .and fs => cntFs o fs
  | .or fs => cntFs o fs
  | .imp f g => cntF o f ++ cntF o g
  | .iff f g => cntF (2 * o) f ++ cntF (2 * o) g
  | .ex _ f => cntF o f
  | .all _ f => cntF o f
def cntFs (o : Int) : List Fm → List (Fm × Int)
  | [] => []
  | f :: r => cntF o f ++ cntFs o r
end
theorem cntFs_eq (o : Int) : ∀ fs : List Fm, cntFs o fs = fs.flatMap (cntF o)
  | [] => by rw [cntFs]; rfl
  | f :: r => by rw [cntFs, cntFs_eq o r]; rfl
def isIff : Fm → Bool
  | .iff _ _ => true
  | _ => false
def oft (f : Fm) (o : Int) : Int := if isIff f = true then 2 * o else o
theorem cnt_kids (o : Int) (f : Fm) (h : f.isAtom = false) : cntF o f = f.kids.flatMap (cntF (oft f o)) := by
  cases f <;> first | (cases h; done) | simp [cntF, cntFs_eq, Fm.kids, oft, isIff]
theorem cnt_self (o : Int) (f : Fm) (h : f.isAtom = true) : cntF o f = [(f, o)] := by
  cases f <;> first | (cases h; done) | simp [cntF]
mutual
def nestF : Fm → Nat
  | .tru => 0
  | .fls => 0
  | .ge _ _ => 0
  | .eq _ _ => 0
  | .dv _ _ _ => 0
  | .not f => nestF f
  | .and fs => nestFs fs
  | .or fs => nestFs fs
  | .imp f g => max (nestF f) (nestF g)
  | .iff f g => max (nestF f) (nestF g)
  | .ex _ f => nestF f + 1
  | .all _ f => nestF f + 1
def nestFs : List Fm → Nat
  | [] => 0
  | f :: r => max (nestF f) (nestFs r)
end
theorem nestFs_eq : ∀ fs : List Fm, nestFs fs = maxN (fs.map nestF)
  | [] => by rw [nestFs]; rfl
  | f :: r => by rw [nestFs, nestFs_eq r]; rfl
theorem nest_kids (f : Fm) : nestF f = maxN (f.kids.map nestF) + (if f.isQ = true then 1 else 0) := by
  cases f <;> simp [nestF, nestFs_eq, Fm.kids, Fm.isQ, maxN]
def ctD (a : Fm × Int) : D := .tuple [a.1.d, .int a.2]
theorem iff_word (f : Fm) : ∃ w r, f.d = .tuple (.str w :: r) ∧ decide (w = "iff") = isIff f := by
  cases f <;> (refine ⟨_, _, by rw [Fm.d], ?_⟩; simp only [isIff]; decide)
theorem word_of {f : Fm} (h : List O) {w : Str} {r : List D} (e : f.d = .tuple (.str w :: r)) : getU (.d f.d) (.d (.int 0)) h = .ok (.d (.str w)) h := by rw [e, getU_t0]
theorem cnt_len : ∀ (f : Fm) (o : Int), (cntF o f).length ≤ f.size := fun f => by
  induction f using Fm.ind with
  | h f ih =>
    intro o
    cases hf : f.isAtom with
    | true => rw [cnt_self o f hf]; have := f.size_pos; simpa using this
    | false =>
      rw [cnt_kids o f hf, Fm.size_kids, List.length_flatMap]
      have : ∀ l : List Fm, (∀ g ∈ l, g ∈ f.kids) → (l.map fun g => (cntF (oft f o) g).length).sum ≤ (l.map Fm.size).sum := fun l => by
        induction l with
        | nil => intro _; simp
        | cons g r ih2 =>
          intro hm
          have := ih g (hm g List.mem_cons_self) (oft f o)
          have := ih2 fun x hx => hm x (List.mem_cons_of_mem _ hx)
          simp only [List.map_cons, List.sum_cons]; omega
      have := this f.kids fun g hg => hg
      omega
theorem p_atoms_by : ∀ (f : Fm), f.Ok → f.size ≤ 1000 → ∀ (o : Int) (n k : Nat) (h : List O), f.deep ≤ n → run G F (dsOf dd) (k + n + 4) "atoms_by" [.d f.d, .d (.int o)] h = .ok (.d (.list ((cntF o f).map ctD))) h := by
  intro f
  induction f using Fm.ind with
  | h f ih =>
    intro ok hs o n k h hn
    obtain ⟨m, rfl⟩ : ∃ m, n = m + 1 := ⟨n - 1, by have := Fm.deep_kids f; omega⟩
    rw [show k + (m + 1) + 4 = (k + m + 4) + 1 by omega, r_atoms_by]
    obtain ⟨w, r, e, hw, _⟩ := atom_words f
    obtain ⟨w', r', e', hi⟩ := iff_word f
    have ew : w = w' := by rw [e] at e'; cases e'; rfl
    subst ew
    have w0 := fun h => word_of (f := f) h e
    cases hf : f.isAtom with
    | true =>
      rw [hf] at hw
      rw [cnt_self o f hf]
      simp [b_atoms_by, evCl_0, evCl_1, evCl_2, evCl_3, evCl_4, evCl_k, evCl_k2, evCl_k2r, evCl_k3r, ev, tv, evs, evo, evc, evw, evV, evC, evT, ev2, ev1, evCh, evB, evIf, evNil, evCons, evTup, evLst, evCall, evSl, evNo, evPart, vAnd, vOr, vNot, tAndE, tOrE, tNotE, binU, cmpU, biU, meU, g1, g2, maxG, minG, Es.len, Tg.slots, Tgs.slots, ex, exs, exh, sNx, sBk, sCt, sSeq, sDrop, sRet, sRetN, sAsg, sPar2, sPar3, sSub, sIf, sRaise, asg, asgs, R.bind_ok, R.bind_err, R.bind_bad, R.stm_ok, R.stm_err, R.stm_bad, opt_some, opt_none, noErr_ok, noErr_bad, leave_d, leave_n, leave_e, leave_da, mkL_f, tru, truU, truD, asB, asBo, getU_t0, getU_t1, getU_t2, getU_t3, getU_l0, getU_l1, getU_l2, getU_m1, getU_m2, getU_m3, eqU_i, eqU_s, eqU_b, eqU_nil, eqU_nilL, eqv_ii, eqv_ss, eqv_tnil, eqv_lnil, bool_bne, lenU_t, lenU_l, tupleU_l, tupleU_t, isiU, tyN, isaB, tyNames, cmpI, negU, srcK_d, srcU, w0, inU_ts, hw, pures, ctD, -eqv_ss, -List.any_cons]
    | false =>
      rw [hf] at hw
      have hm2 : mulOk 2 o = true := by unfold mulOk; simp
      obtain ⟨σ', h', e1, ⟨u3, rfl⟩, rfl⟩ : ∃ σ' h', ex G (run G F (dsOf dd) (k + m + 4)) F f_atoms_by_0 [some (.d f.d), some (.d (.int o)), some (.lab h.length), none] (h ++ [.lst []]) = .nx σ' h' ∧ (∃ u3, σ' = [some (.d f.d), some (.d (.int o)), some (.lab h.length), u3]) ∧ h' = h ++ [.lst (((f.kids.take (f.kids.map fun g => U.d g.d).length).flatMap (cntF (oft f o))).map ctD)] := by
        refine for_inv (us := f.kids.map fun g => U.d g.d) (h1 := h ++ [.lst []]) (fun pre σ h' => (∃ u3, σ = [some (.d f.d), some (.d (.int o)), some (.lab h.length), u3]) ∧ h' = h ++ [.lst (((f.kids.take pre.length).flatMap (cntF (oft f o))).map ctD)]) ?_ ⟨⟨none, rfl⟩, by simp⟩ ?_
        · simp [evCl_0, evCl_1, evCl_2, evCl_3, evCl_4, evCl_k, evCl_k2, evCl_k2r, evCl_k3r, ev, tv, evs, evo, evc, evw, evV, evC, evT, ev2, ev1, evCh, evB, evIf, evNil, evCons, evTup, evLst, evCall, evSl, evNo, evPart, vAnd, vOr, vNot, tAndE, tOrE, tNotE, binU, cmpU, biU, meU, g1, g2, maxG, minG, Es.len, Tg.slots, Tgs.slots, ex, exs, exh, sNx, sBk, sCt, sSeq, sDrop, sRet, sRetN, sAsg, sPar2, sPar3, sSub, sIf, sRaise, asg, asgs, R.bind_ok, R.bind_err, R.bind_bad, R.stm_ok, R.stm_err, R.stm_bad, opt_some, opt_none, noErr_ok, noErr_bad, leave_d, leave_n, leave_e, leave_da, mkL_f, tru, truU, truD, asB, asBo, p_inner_of (k := k + m) f ok, srcU]
        · rintro pre u r2 hu σ h' ⟨⟨u3, rfl⟩, rfl⟩
          obtain ⟨g, rfl, hg, _, ht, _⟩ := map_split hu
          refine ⟨[some (.d f.d), some (.d (.int o)), some (.lab h.length), some (.d g.d)], _, _, rfl, ?_, ⟨⟨some (.d g.d), rfl⟩, rfl⟩⟩
          rw [List.length_append, List.length_singleton, ht, List.flatMap_append, List.map_append]
          have sk := Fm.size_kid hg
          have dk := Fm.deep_kid hg
          have q := fun h => ih g hg (ok.kid hg) (by omega) (oft f o) m k h (by omega)
          have hl : (((f.kids.take pre.length).flatMap (cntF (oft f o))).map ctD).length + ((cntF (oft f o) g).map ctD).length < 10000000 := by
            have h1 : ((f.kids.take pre.length).flatMap (cntF (oft f o))).length ≤ (f.kids.flatMap (cntF (oft f o))).length := by
              have := congrArg (fun l => (l.flatMap (cntF (oft f o))).length) (List.take_append_drop pre.length f.kids)
              simp only [List.flatMap_append, List.length_append] at this
              omega
            have h2 := cnt_len f o
            rw [cnt_kids o f hf] at h2
            have h3 := cnt_len g (oft f o)
            rw [List.length_map, List.length_map]; omega
          generalize ((f.kids.take pre.length).flatMap (cntF (oft f o))).map ctD = xs at *
          have hisl : isLst (.lab h.length) (h ++ [.lst xs]) = true := by simp [isLst]
          have hext : extG (.lab h.length) [.d (.list ((cntF (oft f o) g).map ctD))] (h ++ [.lst xs]) = .ok (.d .none) (h ++ [.lst (xs ++ (cntF (oft f o) g).map ctD)]) := by
            have hl' : xs.length + (cntF (oft f o) g).length < 10000000 := by simpa using hl
            simp [extG, Py.listOf, hl']
          by_cases hq : w = "iff"
          · have h2 : isIff f = true := by rw [← hi]; exact decide_eq_true hq
            have h3 : oft f o = 2 * o := by rw [oft, if_pos h2]
            rw [h3] at q hext ⊢
            simp [l_atoms_by_0, evCl_0, evCl_1, evCl_2, evCl_3, evCl_4, evCl_k, evCl_k2, evCl_k2r, evCl_k3r, ev, tv, evs, evo, evc, evw, evV, evC, evT, ev2, ev1, evCh, evB, evIf, evNil, evCons, evTup, evLst, evCall, evSl, evNo, evPart, vAnd, vOr, vNot, tAndE, tOrE, tNotE, binU, cmpU, biU, meU, g1, g2, maxG, minG, Es.len, Tg.slots, Tgs.slots, ex, exs, exh, sNx, sBk, sCt, sSeq, sDrop, sRet, sRetN, sAsg, sPar2, sPar3, sSub, sIf, sRaise, asg, asgs, R.bind_ok, R.bind_err, R.bind_bad, R.stm_ok, R.stm_err, R.stm_bad, opt_some, opt_none, noErr_ok, noErr_bad, leave_d, leave_n, leave_e, leave_da, mkL_f, tru, truU, truD, asB, asBo, getU_t0, getU_t1, getU_t2, getU_t3, getU_l0, getU_l1, getU_l2, getU_m1, getU_m2, getU_m3, eqU_i, eqU_s, eqU_b, eqU_nil, eqU_nilL, eqv_ii, eqv_ss, eqv_tnil, eqv_lnil, bool_bne, lenU_t, lenU_l, tupleU_l, tupleU_t, isiU, tyN, isaB, tyNames, cmpI, negU, srcK_d, srcU, evMe, hisl, w0, hq, mulU_i hm2, q, hext]
          · have h2 : isIff f = false := by rw [← hi]; exact decide_eq_false hq
            have h3 : oft f o = o := by rw [oft, h2]; rfl
            rw [h3] at q hext ⊢
            simp [l_atoms_by_0, evCl_0, evCl_1, evCl_2, evCl_3, evCl_4, evCl_k, evCl_k2, evCl_k2r, evCl_k3r, ev, tv, evs, evo, evc, evw, evV, evC, evT, ev2, ev1, evCh, evB, evIf, evNil, evCons, evTup, evLst, evCall, evSl, evNo, evPart, vAnd, vOr, vNot, tAndE, tOrE, tNotE, binU, cmpU, biU, meU, g1, g2, maxG, minG, Es.len, Tg.slots, Tgs.slots, ex, exs, exh, sNx, sBk, sCt, sSeq, sDrop, sRet, sRetN, sAsg, sPar2, sPar3, sSub, sIf, sRaise, asg, asgs, R.bind_ok, R.bind_err, R.bind_bad, R.stm_ok, R.stm_err, R.stm_bad, opt_some, opt_none, noErr_ok, noErr_bad, leave_d, leave_n, leave_e, leave_da, mkL_f, tru, truU, truD, asB, asBo, getU_t0, getU_t1, getU_t2, getU_t3, getU_l0, getU_l1, getU_l2, getU_m1, getU_m2, getU_m3, eqU_i, eqU_s, eqU_b, eqU_nil, eqU_nilL, eqv_ii, eqv_ss, eqv_tnil, eqv_lnil, bool_bne, lenU_t, lenU_l, tupleU_l, tupleU_t, isiU, tyN, isaB, tyNames, cmpI, negU, srcK_d, srcU, evMe, hisl, w0, hq, q, hext]
      rw [List.length_map, List.take_length, ← cnt_kids o f hf] at e1
      simp [b_atoms_by, evCl_0, evCl_1, evCl_2, evCl_3, evCl_4, evCl_k, evCl_k2, evCl_k2r, evCl_k3r, ev, tv, evs, evo, evc, evw, evV, evC, evT, ev2, ev1, evCh, evB, evIf, evNil, evCons, evTup, evLst, evCall, evSl, evNo, evPart, vAnd, vOr, vNot, tAndE, tOrE, tNotE, binU, cmpU, biU, meU, g1, g2, maxG, minG, Es.len, Tg.slots, Tgs.slots, ex, exs, exh, sNx, sBk, sCt, sSeq, sDrop, sRet, sRetN, sAsg, sPar2, sPar3, sSub, sIf, sRaise, asg, asgs, R.bind_ok, R.bind_err, R.bind_bad, R.stm_ok, R.stm_err, R.stm_bad, opt_some, opt_none, noErr_ok, noErr_bad, leave_d, leave_n, leave_e, leave_da, mkL_f, tru, truU, truD, asB, asBo, getU_t0, getU_t1, getU_t2, getU_t3, getU_l0, getU_l1, getU_l2, getU_m1, getU_m2, getU_m3, eqU_i, eqU_s, eqU_b, eqU_nil, eqU_nilL, eqv_ii, eqv_ss, eqv_tnil, eqv_lnil, bool_bne, lenU_t, lenU_l, tupleU_l, tupleU_t, isiU, tyN, isaB, tyNames, cmpI, negU, srcK_d, srcU, w0, inU_ts, hw, pures, mkL_t, e1, leave, outU, Py.settle, -eqv_ss, -List.any_cons]
theorem p_nesting : ∀ (f : Fm), f.Ok → f.size ≤ 1000 → ∀ (n k : Nat) (h : List O), f.deep ≤ n → run G F (dsOf dd) (k + n + 4) "nesting" [.d f.d] h = .ok (.d (.int (nestF f))) h := by
  intro f
  induction f using Fm.ind with
  | h f ih =>
    intro ok hs n k h hn
    obtain ⟨m, rfl⟩ : ∃ m, n = m + 1 := ⟨n - 1, by have := Fm.deep_kids f; omega⟩
    rw [show k + (m + 1) + 4 = (k + m + 4) + 1 by omega, r_nesting]
    have key : ev G (run G F (dsOf dd) (k + m + 4)) c_nesting_0 [some (.d f.d), none, none] h = mkL false (f.kids.map fun g => .int (nestF g)) h := by
      refine ev_kids (h1 := h) f.kids (fun g => .int (nestF g)) ?_ (by have := kids_len f; omega) (fun g hg => ⟨[some (.d f.d), none, some (.d g.d)], rfl, fun acc => ?_⟩)
      · simp [evCl_0, evCl_1, evCl_2, evCl_3, evCl_4, evCl_k, evCl_k2, evCl_k2r, evCl_k3r, ev, tv, evs, evo, evc, evw, evV, evC, evT, ev2, ev1, evCh, evB, evIf, evNil, evCons, evTup, evLst, evCall, evSl, evNo, evPart, vAnd, vOr, vNot, tAndE, tOrE, tNotE, binU, cmpU, biU, meU, g1, g2, maxG, minG, Es.len, Tg.slots, Tgs.slots, ex, exs, exh, sNx, sBk, sCt, sSeq, sDrop, sRet, sRetN, sAsg, sPar2, sPar3, sSub, sIf, sRaise, asg, asgs, R.bind_ok, R.bind_err, R.bind_bad, R.stm_ok, R.stm_err, R.stm_bad, opt_some, opt_none, noErr_ok, noErr_bad, leave_d, leave_n, leave_e, leave_da, mkL_f, tru, truU, truD, asB, asBo, p_inner_of (k := k + m) f ok, srcU]
      · have := Fm.size_kid hg
        have := Fm.deep_kid hg
        have q := ih g hg (ok.kid hg) (by omega) m k (h ++ [.lst acc]) (by omega)
        simp [evCl_0, evCl_1, evCl_2, evCl_3, evCl_4, evCl_k, evCl_k2, evCl_k2r, evCl_k3r, ev, tv, evs, evo, evc, evw, evV, evC, evT, ev2, ev1, evCh, evB, evIf, evNil, evCons, evTup, evLst, evCall, evSl, evNo, evPart, vAnd, vOr, vNot, tAndE, tOrE, tNotE, binU, cmpU, biU, meU, g1, g2, maxG, minG, Es.len, Tg.slots, Tgs.slots, ex, exs, exh, sNx, sBk, sCt, sSeq, sDrop, sRet, sRetN, sAsg, sPar2, sPar3, sSub, sIf, sRaise, asg, asgs, R.bind_ok, R.bind_err, R.bind_bad, R.stm_ok, R.stm_err, R.stm_bad, opt_some, opt_none, noErr_ok, noErr_bad, leave_d, leave_n, leave_e, leave_da, mkL_f, tru, truU, truD, asB, asBo, q]
    have q2 : maxDU (.d (.list (f.kids.map fun g => .int (nestF g)))) (.d (.int 0)) h = .ok (.d (.int (maxN (f.kids.map nestF) : Nat))) h := by
      have e1 := intsOf_map' (fun g : Fm => (nestF g : Int)) f.kids
      have e2 : (f.kids.map fun g => (nestF g : Int)) = (f.kids.map nestF).map (fun (n : Nat) => (n : Int)) := by rw [List.map_map]; rfl
      rw [e2] at e1
      simp only [maxDU, Py.listOf, Option.bind_some, e1, opt_some, R.bind_ok, asI]
      cases hk : f.kids.map nestF with
      | nil => rfl
      | cons x r => rw [List.map_cons]; simp only [maxL_cast]
    have q3 := nest_kids f
    obtain ⟨w, r, e, _, hw⟩ := atom_words f
    have w0 := fun h => word_of (f := f) h e
    cases hq : f.isQ with
    | true =>
      rw [hq] at hw q3
      simp [b_nesting, evCl_0, evCl_1, evCl_2, evCl_3, evCl_4, evCl_k, evCl_k2, evCl_k2r, evCl_k3r, ev, tv, evs, evo, evc, evw, evV, evC, evT, ev2, ev1, evCh, evB, evIf, evNil, evCons, evTup, evLst, evCall, evSl, evNo, evPart, vAnd, vOr, vNot, tAndE, tOrE, tNotE, binU, cmpU, biU, meU, g1, g2, maxG, minG, Es.len, Tg.slots, Tgs.slots, ex, exs, exh, sNx, sBk, sCt, sSeq, sDrop, sRet, sRetN, sAsg, sPar2, sPar3, sSub, sIf, sRaise, asg, asgs, R.bind_ok, R.bind_err, R.bind_bad, R.stm_ok, R.stm_err, R.stm_bad, opt_some, opt_none, noErr_ok, noErr_bad, leave_d, leave_n, leave_e, leave_da, mkL_f, tru, truU, truD, asB, asBo, getU_t0, getU_t1, getU_t2, getU_t3, getU_l0, getU_l1, getU_l2, getU_m1, getU_m2, getU_m3, eqU_i, eqU_s, eqU_b, eqU_nil, eqU_nilL, eqv_ii, eqv_ss, eqv_tnil, eqv_lnil, bool_bne, lenU_t, lenU_l, tupleU_l, tupleU_t, isiU, tyN, isaB, tyNames, cmpI, negU, srcK_d, srcU, tup_QUANTIFIED, inU_ts, hw, key, q2, w0, addU_i, -eqv_ss, -List.any_cons]
      simp at q3; omega
    | false =>
      rw [hq] at hw q3
      simp [b_nesting, evCl_0, evCl_1, evCl_2, evCl_3, evCl_4, evCl_k, evCl_k2, evCl_k2r, evCl_k3r, ev, tv, evs, evo, evc, evw, evV, evC, evT, ev2, ev1, evCh, evB, evIf, evNil, evCons, evTup, evLst, evCall, evSl, evNo, evPart, vAnd, vOr, vNot, tAndE, tOrE, tNotE, binU, cmpU, biU, meU, g1, g2, maxG, minG, Es.len, Tg.slots, Tgs.slots, ex, exs, exh, sNx, sBk, sCt, sSeq, sDrop, sRet, sRetN, sAsg, sPar2, sPar3, sSub, sIf, sRaise, asg, asgs, R.bind_ok, R.bind_err, R.bind_bad, R.stm_ok, R.stm_err, R.stm_bad, opt_some, opt_none, noErr_ok, noErr_bad, leave_d, leave_n, leave_e, leave_da, mkL_f, tru, truU, truD, asB, asBo, getU_t0, getU_t1, getU_t2, getU_t3, getU_l0, getU_l1, getU_l2, getU_m1, getU_m2, getU_m3, eqU_i, eqU_s, eqU_b, eqU_nil, eqU_nilL, eqv_ii, eqv_ss, eqv_tnil, eqv_lnil, bool_bne, lenU_t, lenU_l, tupleU_l, tupleU_t, isiU, tyN, isaB, tyNames, cmpI, negU, srcK_d, srcU, tup_QUANTIFIED, inU_ts, hw, key, q2, w0, addU_i, -eqv_ss, -List.any_cons]
      simp at q3; omega
/-! ### are_within -/
def big1 (M : Nat) (a : Fm) : Bool := a.pairs.any fun p => decide (M < p.2.natAbs)
def divN (ds : List Int) : Fm → Bool
  | .dv m _ _ => !(ds.any fun d => decide (d = m))
  | _ => false
def okA (M : Nat) (ds : List Int) (a : Fm) : Bool := !big1 M a && !divN ds a
theorem ats_tm {a : Fm} (ha : a.isAtom = true) (h : List O) : (getU (.d a.d) (.d (.int (-1))) h) = .ok (.d (tmD a.const a.pairs)) h := atom_last ha h
theorem key_within (a : Fm) (ha : a.isAtom = true) (hl : a.pairs.length ≤ 1000) (M : Nat) (as ds : U) (u4 u5 : Option U) (h : List O) : ev G (run G F (dsOf dd) k) c_are_within_0 [some as, some (.d (.int M)), some ds, some (.d a.d), u4, u5] h = mkL false (a.pairs.map fun p => PyData.bool (decide (M < p.2.natAbs))) h := by
  refine ev_lcA (m := false) (t := .tup (.cons (.nm 4) (.cons (.nm 5) .nil))) (w := .seq (.ix (.ix (.var 3) (.neg (.int 1))) (.int 1))) (e := .cmp .gt (.bi .abs false (.cons (.var 5) .nil)) (.var 1)) (σ := [some as, some (.d (.int M)), some ds, some (.d a.d), u4, u5]) (h1 := h) a.pairs Py.pairD _ ?_ (by omega) (fun p hp => ⟨[some as, some (.d (.int M)), some ds, some (.d a.d), some (.d (.int p.1)), some (.d (.int p.2))], rfl, fun acc => ?_⟩)
  · have g1' : ∀ h, getU (.d (tmD a.const a.pairs)) (.d (.int 1)) h = .ok (.d (.tuple (a.pairs.map Py.pairD))) h := fun h => by rw [tmD, getU_t1]
    simp [evCl_0, evCl_1, evCl_2, evCl_3, evCl_4, evCl_k, evCl_k2, evCl_k2r, evCl_k3r, ev, tv, evs, evo, evc, evw, evV, evC, evT, ev2, ev1, evCh, evB, evIf, evNil, evCons, evTup, evLst, evCall, evSl, evNo, evPart, vAnd, vOr, vNot, tAndE, tOrE, tNotE, binU, cmpU, biU, meU, g1, g2, maxG, minG, Es.len, Tg.slots, Tgs.slots, ex, exs, exh, sNx, sBk, sCt, sSeq, sDrop, sRet, sRetN, sAsg, sPar2, sPar3, sSub, sIf, sRaise, asg, asgs, R.bind_ok, R.bind_err, R.bind_bad, R.stm_ok, R.stm_err, R.stm_bad, opt_some, opt_none, noErr_ok, noErr_bad, leave_d, leave_n, leave_e, leave_da, mkL_f, tru, truU, truD, asB, asBo, negU, ats_tm ha, g1', srcU]
  · by_cases hh : M < p.2.natAbs
    · have hh2 : (M : Int) < ((p.2.natAbs : Nat) : Int) := by omega
      simp [evCl_0, evCl_1, evCl_2, evCl_3, evCl_4, evCl_k, evCl_k2, evCl_k2r, evCl_k3r, ev, tv, evs, evo, evc, evw, evV, evC, evT, ev2, ev1, evCh, evB, evIf, evNil, evCons, evTup, evLst, evCall, evSl, evNo, evPart, vAnd, vOr, vNot, tAndE, tOrE, tNotE, binU, cmpU, biU, meU, g1, g2, maxG, minG, Es.len, Tg.slots, Tgs.slots, ex, exs, exh, sNx, sBk, sCt, sSeq, sDrop, sRet, sRetN, sAsg, sPar2, sPar3, sSub, sIf, sRaise, asg, asgs, R.bind_ok, R.bind_err, R.bind_bad, R.stm_ok, R.stm_err, R.stm_bad, opt_some, opt_none, noErr_ok, noErr_bad, leave_d, leave_n, leave_e, leave_da, mkL_f, tru, truU, truD, asB, asBo, absU, absI, cmpI, hh]
    · have hh2 : ¬ (M : Int) < ((p.2.natAbs : Nat) : Int) := by omega
      simp [evCl_0, evCl_1, evCl_2, evCl_3, evCl_4, evCl_k, evCl_k2, evCl_k2r, evCl_k3r, ev, tv, evs, evo, evc, evw, evV, evC, evT, ev2, ev1, evCh, evB, evIf, evNil, evCons, evTup, evLst, evCall, evSl, evNo, evPart, vAnd, vOr, vNot, tAndE, tOrE, tNotE, binU, cmpU, biU, meU, g1, g2, maxG, minG, Es.len, Tg.slots, Tgs.slots, ex, exs, exh, sNx, sBk, sCt, sSeq, sDrop, sRet, sRetN, sAsg, sPar2, sPar3, sSub, sIf, sRaise, asg, asgs, R.bind_ok, R.bind_err, R.bind_bad, R.stm_ok, R.stm_err, R.stm_bad, opt_some, opt_none, noErr_ok, noErr_bad, leave_d, leave_n, leave_e, leave_da, mkL_f, tru, truU, truD, asB, asBo, absU, absI, cmpI, hh]
theorem anyU_map' {α : Type} (g : α → Bool) (l : List α) (h : List O) : anyU (.d (.list (l.map fun x => PyData.bool (g x)))) h = .ok (.d (.bool (l.any g))) h := by
  unfold anyU Py.listOf
  simp only [Option.bind_some, boolsOf_map', opt_some, R.bind_ok]
  simp [List.any_map]
theorem one_within (a : Fm) (ha : a.isAtom = true) (hl : a.pairs.length ≤ 1000) (M : Nat) (as : U) (ds : List Int) (h : List O) : exs G (run G F (dsOf dd) k) F l_are_within_0 [some as, some (.d (.int M)), some (.d (.tuple (ds.map .int))), some (.d a.d), none, none] h =
    if okA M ds a = true then .nx [some as, some (.d (.int M)), some (.d (.tuple (ds.map .int))), some (.d a.d), none, none] h else .ret (.d (.bool false)) h := by
  have key := key_within (F := F) (k := k) a ha hl M as (.d (.tuple (ds.map .int))) none none h
  have ka := anyU_map' (fun p : Int × Int => decide (M < p.2.natAbs)) a.pairs h
  have hb1 : (a.pairs.any fun p => decide (M < p.2.natAbs)) = big1 M a := rfl
  rw [hb1] at ka
  unfold okA
  cases hb : big1 M a with
  | true =>
    rw [hb] at ka
    simp [l_are_within_0, evCl_0, evCl_1, evCl_2, evCl_3, evCl_4, evCl_k, evCl_k2, evCl_k2r, evCl_k3r, ev, tv, evs, evo, evc, evw, evV, evC, evT, ev2, ev1, evCh, evB, evIf, evNil, evCons, evTup, evLst, evCall, evSl, evNo, evPart, vAnd, vOr, vNot, tAndE, tOrE, tNotE, binU, cmpU, biU, meU, g1, g2, maxG, minG, Es.len, Tg.slots, Tgs.slots, ex, exs, exh, sNx, sBk, sCt, sSeq, sDrop, sRet, sRetN, sAsg, sPar2, sPar3, sSub, sIf, sRaise, asg, asgs, R.bind_ok, R.bind_err, R.bind_bad, R.stm_ok, R.stm_err, R.stm_bad, opt_some, opt_none, noErr_ok, noErr_bad, leave_d, leave_n, leave_e, leave_da, mkL_f, tru, truU, truD, asB, asBo, key, ka]
  | false =>
    rw [hb] at ka
    cases a <;> first | (cases ha; done) | skip
    case ge c ps => simp (decide := true) [l_are_within_0, evCl_0, evCl_1, evCl_2, evCl_3, evCl_4, evCl_k, evCl_k2, evCl_k2r, evCl_k3r, ev, tv, evs, evo, evc, evw, evV, evC, evT, ev2, ev1, evCh, evB, evIf, evNil, evCons, evTup, evLst, evCall, evSl, evNo, evPart, vAnd, vOr, vNot, tAndE, tOrE, tNotE, binU, cmpU, biU, meU, g1, g2, maxG, minG, Es.len, Tg.slots, Tgs.slots, ex, exs, exh, sNx, sBk, sCt, sSeq, sDrop, sRet, sRetN, sAsg, sPar2, sPar3, sSub, sIf, sRaise, asg, asgs, R.bind_ok, R.bind_err, R.bind_bad, R.stm_ok, R.stm_err, R.stm_bad, opt_some, opt_none, noErr_ok, noErr_bad, leave_d, leave_n, leave_e, leave_da, mkL_f, tru, truU, truD, asB, asBo, key, ka, Fm.d, getU_t0, getU_t1, eqU_s, divN] at key ka ⊢
    case eq c ps => simp (decide := true) [l_are_within_0, evCl_0, evCl_1, evCl_2, evCl_3, evCl_4, evCl_k, evCl_k2, evCl_k2r, evCl_k3r, ev, tv, evs, evo, evc, evw, evV, evC, evT, ev2, ev1, evCh, evB, evIf, evNil, evCons, evTup, evLst, evCall, evSl, evNo, evPart, vAnd, vOr, vNot, tAndE, tOrE, tNotE, binU, cmpU, biU, meU, g1, g2, maxG, minG, Es.len, Tg.slots, Tgs.slots, ex, exs, exh, sNx, sBk, sCt, sSeq, sDrop, sRet, sRetN, sAsg, sPar2, sPar3, sSub, sIf, sRaise, asg, asgs, R.bind_ok, R.bind_err, R.bind_bad, R.stm_ok, R.stm_err, R.stm_bad, opt_some, opt_none, noErr_ok, noErr_bad, leave_d, leave_n, leave_e, leave_da, mkL_f, tru, truU, truD, asB, asBo, key, ka, Fm.d, getU_t0, getU_t1, eqU_s, divN] at key ka ⊢
    case dv m c ps =>
      have hin : ∀ h, inU true (.d (.int m)) (.d (.tuple (ds.map .int))) h = .ok (.d (.bool (!(ds.any fun d => decide (d = m))))) h := fun h => by
        rw [inU_ti, List.any_map]
        have : ((fun z => PyData.eqv z (PyData.int m)) ∘ PyData.int) = fun d => decide (d = m) := by funext d; simp
        rw [this]; cases (ds.any fun d => decide (d = m)) <;> rfl
      have hdv : divN ds (.dv m c ps) = !(ds.any fun d => decide (d = m)) := rfl
      rw [hdv]
      cases hq : (ds.any fun d => decide (d = m)) <;> rw [hq] at hin <;> simp (decide := true) [l_are_within_0, evCl_0, evCl_1, evCl_2, evCl_3, evCl_4, evCl_k, evCl_k2, evCl_k2r, evCl_k3r, ev, tv, evs, evo, evc, evw, evV, evC, evT, ev2, ev1, evCh, evB, evIf, evNil, evCons, evTup, evLst, evCall, evSl, evNo, evPart, vAnd, vOr, vNot, tAndE, tOrE, tNotE, binU, cmpU, biU, meU, g1, g2, maxG, minG, Es.len, Tg.slots, Tgs.slots, ex, exs, exh, sNx, sBk, sCt, sSeq, sDrop, sRet, sRetN, sAsg, sPar2, sPar3, sSub, sIf, sRaise, asg, asgs, R.bind_ok, R.bind_err, R.bind_bad, R.stm_ok, R.stm_err, R.stm_bad, opt_some, opt_none, noErr_ok, noErr_bad, leave_d, leave_n, leave_e, leave_da, mkL_f, tru, truU, truD, asB, asBo, key, ka, Fm.d, getU_t0, getU_t1, eqU_s, hin] at key ka ⊢ <;> simp (decide := true) [key, ka, ev, tv, evs, evo, evc, evw, evV, evC, evT, ev2, ev1, evCh, evB, evIf, evNil, evCons, evTup, evLst, evCall, evSl, evNo, evPart, vAnd, vOr, vNot, tAndE, tOrE, tNotE, binU, cmpU, biU, meU, g1, g2, maxG, minG, Es.len, Tg.slots, Tgs.slots, ex, exs, exh, sNx, sBk, sCt, sSeq, sDrop, sRet, sRetN, sAsg, sPar2, sPar3, sSub, sIf, sRaise, asg, asgs, R.bind_ok, R.bind_err, R.bind_bad, R.stm_ok, R.stm_err, R.stm_bad, opt_some, opt_none, noErr_ok, noErr_bad, leave_d, leave_n, leave_e, leave_da, mkL_f, tru, truU, truD, asB, asBo, getU_t0, getU_t1, eqU_s, hin]
theorem go_within (M : Nat) (x : U) (ds : List Int) (h : List O) : ∀ (as : List Fm) (u3 : Option U), (∀ a ∈ as, a.isAtom = true ∧ a.pairs.length ≤ 1000) →
    ∃ v, forL (.nm 3) (exs G (run G F (dsOf dd) k) F l_are_within_0) (as.map fun a => U.d a.d) [some x, some (.d (.int M)), some (.d (.tuple (ds.map .int))), u3, none, none] h =
      if as.all (okA M ds) = true then .nx [some x, some (.d (.int M)), some (.d (.tuple (ds.map .int))), v, none, none] h else .ret (.d (.bool false)) h
  | [], u3, _ => ⟨u3, by simp [forL]⟩
  | a :: as, u3, ha => by
    obtain ⟨v, ih⟩ := go_within M x ds h as (some (.d a.d)) fun b hb => ha b (List.mem_cons_of_mem _ hb)
    obtain ⟨h1, h2⟩ := ha a List.mem_cons_self
    have q := one_within (F := F) (k := k) a h1 h2 M x ds h
    refine ⟨v, ?_⟩
    rw [List.map_cons, forL]
    have e : asg (.nm 3) (.d a.d) [some x, some (.d (.int M)), some (.d (.tuple (ds.map .int))), u3, none, none] = some [some x, some (.d (.int M)), some (.d (.tuple (ds.map .int))), some (.d a.d), none, none] := rfl
    rw [e]
    dsimp only
    rw [q, List.all_cons]
    cases ho : okA M ds a with
    | true => rw [if_pos rfl, Bool.true_and]; exact ih
    | false => rw [if_neg Bool.false_ne_true, Bool.false_and, if_neg Bool.false_ne_true]
theorem p_within_at (M : Nat) (ds : List Int) (as : List Fm) (ha : ∀ a ∈ as, a.isAtom = true ∧ a.pairs.length ≤ 1000) (h : List O) : run G F (dsOf dd) (k + 1) "are_within" [.d (.list (as.map Fm.d)), .d (.int M), .d (.tuple (ds.map .int))] h = .ok (.d (.bool (as.all (okA M ds)))) h := by
  rw [r_are_within]
  obtain ⟨v, e⟩ := go_within (F := F) (k := k) M (.d (.list (as.map Fm.d))) ds h as none ha
  have e2 : ex G (run G F (dsOf dd) k) F f_are_within_0 [some (.d (.list (as.map Fm.d))), some (.d (.int M)), some (.d (.tuple (ds.map .int))), none, none, none] h = if as.all (okA M ds) = true then .nx [some (.d (.list (as.map Fm.d))), some (.d (.int M)), some (.d (.tuple (ds.map .int))), v, none, none] h else .ret (.d (.bool false)) h := by
    rw [← e]
    exact sFor_fix (by simp [ev, tv, evs, evo, evc, evw, evV, evC, evT, ev2, ev1, evCh, evB, evIf, evNil, evCons, evTup, evLst, evCall, evSl, evNo, evPart, vAnd, vOr, vNot, tAndE, tOrE, tNotE, binU, cmpU, biU, meU, g1, g2, maxG, minG, Es.len, Tg.slots, Tgs.slots, ex, exs, exh, sNx, sBk, sCt, sSeq, sDrop, sRet, sRetN, sAsg, sPar2, sPar3, sSub, sIf, sRaise, asg, asgs, R.bind_ok, R.bind_err, R.bind_bad, R.stm_ok, R.stm_err, R.stm_bad, opt_some, opt_none, noErr_ok, noErr_bad, leave_d, leave_n, leave_e, leave_da, mkL_f, tru, truU, truD, asB, asBo, srcU, Function.comp_def])
  cases ho : as.all (okA M ds) <;> rw [ho] at e2 <;> simp [b_are_within, ev, tv, evs, evo, evc, evw, evV, evC, evT, ev2, ev1, evCh, evB, evIf, evNil, evCons, evTup, evLst, evCall, evSl, evNo, evPart, vAnd, vOr, vNot, tAndE, tOrE, tNotE, binU, cmpU, biU, meU, g1, g2, maxG, minG, Es.len, Tg.slots, Tgs.slots, ex, exs, exh, sNx, sBk, sCt, sSeq, sDrop, sRet, sRetN, sAsg, sPar2, sPar3, sSub, sIf, sRaise, asg, asgs, R.bind_ok, R.bind_err, R.bind_bad, R.stm_ok, R.stm_err, R.stm_bad, opt_some, opt_none, noErr_ok, noErr_bad, leave_d, leave_n, leave_e, leave_da, mkL_f, tru, truU, truD, asB, asBo, e2]
/-- light formulas -/
def manyF (f : Fm) : Int := ((cntF 1 f).map (·.2)).sum
def atsF (f : Fm) : List Fm := (cntF 1 f).map (·.1)
def lightF (f : Fm) : Bool := (decide (manyF f ≤ 8) && decide (nestF f ≤ 1) && (atsF f).all (okA 3 [2, 3])) || (decide (manyF f ≤ 5) && decide (nestF f ≤ 2) && (atsF f).all (okA 1 []))
theorem cnt_atoms : ∀ (f : Fm) (o : Int), (cntF o f).map (·.1) = f.atoms := fun f => by
  induction f using Fm.ind with
  | h f ih =>
    intro o
    cases hf : f.isAtom with
    | true => rw [cnt_self o f hf, Fm.atoms_self f hf]; rfl
    | false =>
      rw [cnt_kids o f hf, Fm.atoms_kids f hf, List.map_flatMap]
      have : ∀ l : List Fm, (∀ g ∈ l, g ∈ f.kids) → (l.flatMap fun g => (cntF (oft f o) g).map (·.1)) = l.flatMap Fm.atoms := fun l => by
        induction l with
        | nil => intro _; rfl
        | cons g r ih2 =>
          intro hm
          rw [List.flatMap_cons, List.flatMap_cons, ih g (hm g List.mem_cons_self), ih2 fun x hx => hm x (List.mem_cons_of_mem _ hx)]
      exact this f.kids fun g hg => hg
theorem p_light_one (f : Fm) (ok : f.Ok) (hs : f.size ≤ 1000) (hp : ∀ a ∈ f.atoms, a.pairs.length ≤ 1000) (n k : Nat) (h : List O) (hn : f.deep ≤ n) : run G F (dsOf dd) (k + n + 5) "is_light_one" [.d f.d] h = .ok (.d (.bool (lightF f))) h := by
  rw [show k + n + 5 = (k + n + 4) + 1 by omega, r_is_light_one]
  have a1 := fun h => p_atoms_by (F := F) f ok hs 1 n k h hn
  have a2 := fun h => p_nesting (F := F) f ok hs n k h hn
  have hl := cnt_len f 1
  have c0 : ∀ (u2 u3 : Option U) h, ev G (run G F (dsOf dd) (k + n + 4)) c_is_light_one_0 [some (.d f.d), some (.d (.list ((cntF 1 f).map ctD))), u2, u3, none, none] h = mkL false ((atsF f).map Fm.d) h := fun u2 u3 h => by
    unfold atsF
    rw [List.map_map]
    refine ev_lcA (m := false) (t := .tup (.cons (.nm 4) (.cons (.nm 5) .nil))) (w := .seq (.var 1)) (e := .var 4) (h1 := h) (cntF 1 f) ctD _ (by simp [ev, tv, evs, evo, evc, evw, evV, evC, evT, ev2, ev1, evCh, evB, evIf, evNil, evCons, evTup, evLst, evCall, evSl, evNo, evPart, vAnd, vOr, vNot, tAndE, tOrE, tNotE, binU, cmpU, biU, meU, g1, g2, maxG, minG, Es.len, Tg.slots, Tgs.slots, ex, exs, exh, sNx, sBk, sCt, sSeq, sDrop, sRet, sRetN, sAsg, sPar2, sPar3, sSub, sIf, sRaise, asg, asgs, R.bind_ok, R.bind_err, R.bind_bad, R.stm_ok, R.stm_err, R.stm_bad, opt_some, opt_none, noErr_ok, noErr_bad, leave_d, leave_n, leave_e, leave_da, mkL_f, tru, truU, truD, asB, asBo, srcU]) (by omega) (fun a ha => ⟨[some (.d f.d), some (.d (.list ((cntF 1 f).map ctD))), u2, u3, some (.d a.1.d), some (.d (.int a.2))], rfl, fun acc => by simp [ev, tv, evs, evo, evc, evw, evV, evC, evT, ev2, ev1, evCh, evB, evIf, evNil, evCons, evTup, evLst, evCall, evSl, evNo, evPart, vAnd, vOr, vNot, tAndE, tOrE, tNotE, binU, cmpU, biU, meU, g1, g2, maxG, minG, Es.len, Tg.slots, Tgs.slots, ex, exs, exh, sNx, sBk, sCt, sSeq, sDrop, sRet, sRetN, sAsg, sPar2, sPar3, sSub, sIf, sRaise, asg, asgs, R.bind_ok, R.bind_err, R.bind_bad, R.stm_ok, R.stm_err, R.stm_bad, opt_some, opt_none, noErr_ok, noErr_bad, leave_d, leave_n, leave_e, leave_da, mkL_f, tru, truU, truD, asB, asBo]⟩)
  have c1 : ∀ (u2 u3 : Option U) h, ev G (run G F (dsOf dd) (k + n + 4)) c_is_light_one_1 [some (.d f.d), some (.d (.list ((cntF 1 f).map ctD))), u2, u3, none, none] h = mkL false ((cntF 1 f).map fun a => .int a.2) h := fun u2 u3 h =>
    ev_lcA (m := false) (t := .tup (.cons (.nm 4) (.cons (.nm 5) .nil))) (w := .seq (.var 1)) (e := .var 5) (h1 := h) (cntF 1 f) ctD _ (by simp [ev, tv, evs, evo, evc, evw, evV, evC, evT, ev2, ev1, evCh, evB, evIf, evNil, evCons, evTup, evLst, evCall, evSl, evNo, evPart, vAnd, vOr, vNot, tAndE, tOrE, tNotE, binU, cmpU, biU, meU, g1, g2, maxG, minG, Es.len, Tg.slots, Tgs.slots, ex, exs, exh, sNx, sBk, sCt, sSeq, sDrop, sRet, sRetN, sAsg, sPar2, sPar3, sSub, sIf, sRaise, asg, asgs, R.bind_ok, R.bind_err, R.bind_bad, R.stm_ok, R.stm_err, R.stm_bad, opt_some, opt_none, noErr_ok, noErr_bad, leave_d, leave_n, leave_e, leave_da, mkL_f, tru, truU, truD, asB, asBo, srcU]) (by omega) (fun a ha => ⟨[some (.d f.d), some (.d (.list ((cntF 1 f).map ctD))), u2, u3, some (.d a.1.d), some (.d (.int a.2))], rfl, fun acc => by simp [ev, tv, evs, evo, evc, evw, evV, evC, evT, ev2, ev1, evCh, evB, evIf, evNil, evCons, evTup, evLst, evCall, evSl, evNo, evPart, vAnd, vOr, vNot, tAndE, tOrE, tNotE, binU, cmpU, biU, meU, g1, g2, maxG, minG, Es.len, Tg.slots, Tgs.slots, ex, exs, exh, sNx, sBk, sCt, sSeq, sDrop, sRet, sRetN, sAsg, sPar2, sPar3, sSub, sIf, sRaise, asg, asgs, R.bind_ok, R.bind_err, R.bind_bad, R.stm_ok, R.stm_err, R.stm_bad, opt_some, opt_none, noErr_ok, noErr_bad, leave_d, leave_n, leave_e, leave_da, mkL_f, tru, truU, truD, asB, asBo]⟩)
  have q2 := sumU_map (h := h) (fun a : Fm × Int => a.2) (cntF 1 f)
  have hm : ((cntF 1 f).map fun a => a.2).sum = manyF f := rfl
  rw [hm] at q2
  have hat : ∀ a ∈ atsF f, a.isAtom = true ∧ a.pairs.length ≤ 1000 := fun a ha => by
    unfold atsF at ha
    rw [cnt_atoms] at ha
    exact ⟨(Fm.atoms_are ha).1, hp a ha⟩
  have w3 := p_within_at (F := F) (k := k + n + 3) 3 [2, 3] (atsF f) hat h
  have w1 := p_within_at (F := F) (k := k + n + 3) 1 [] (atsF f) hat h
  rw [List.map_cons, List.map_cons, List.map_nil] at w3
  rw [List.map_nil] at w1
  have z3 : (((3 : Nat)) : Int) = 3 := rfl
  have z1 : (((1 : Nat)) : Int) = 1 := rfl
  rw [z3] at w3
  rw [z1] at w1
  have n1 : decide ((nestF f : Int) ≤ 1) = decide (nestF f ≤ 1) := decide_eq_decide.mpr (by omega)
  have n2 : decide ((nestF f : Int) ≤ 2) = decide (nestF f ≤ 2) := decide_eq_decide.mpr (by omega)
  unfold lightF
  generalize (atsF f).all (okA 3 [2, 3]) = b3 at *
  generalize (atsF f).all (okA 1 []) = b1 at *
  generalize manyF f = mm at *
  by_cases x8 : mm ≤ 8 <;> by_cases x5 : mm ≤ 5 <;> by_cases y1 : nestF f ≤ 1 <;> by_cases y2 : nestF f ≤ 2 <;> cases b3 <;> cases b1 <;>
    first
    | (exfalso; omega)
    | (have y1' : ((nestF f : Int) ≤ 1) ↔ nestF f ≤ 1 := by omega
       have y2' : ((nestF f : Int) ≤ 2) ↔ nestF f ≤ 2 := by omega
       simp [b_is_light_one, evCl_0, evCl_1, evCl_2, evCl_3, evCl_4, evCl_k, evCl_k2, evCl_k2r, evCl_k3r, ev, tv, evs, evo, evc, evw, evV, evC, evT, ev2, ev1, evCh, evB, evIf, evNil, evCons, evTup, evLst, evCall, evSl, evNo, evPart, vAnd, vOr, vNot, tAndE, tOrE, tNotE, binU, cmpU, biU, meU, g1, g2, maxG, minG, Es.len, Tg.slots, Tgs.slots, ex, exs, exh, sNx, sBk, sCt, sSeq, sDrop, sRet, sRetN, sAsg, sPar2, sPar3, sSub, sIf, sRaise, asg, asgs, R.bind_ok, R.bind_err, R.bind_bad, R.stm_ok, R.stm_err, R.stm_bad, opt_some, opt_none, noErr_ok, noErr_bad, leave_d, leave_n, leave_e, leave_da, mkL_f, tru, truU, truD, asB, asBo, getU_t0, getU_t1, getU_t2, getU_t3, getU_l0, getU_l1, getU_l2, getU_m1, getU_m2, getU_m3, eqU_i, eqU_s, eqU_b, eqU_nil, eqU_nilL, eqv_ii, eqv_ss, eqv_tnil, eqv_lnil, bool_bne, lenU_t, lenU_l, tupleU_l, tupleU_t, isiU, tyN, isaB, tyNames, cmpI, negU, srcK_d, srcU, a1, a2, c0, c1, q2, w3, w1, x8, x5, y1', y2', y1, y2, pures, -List.map_map])

end K19

namespace K19
open PySem PySem.Spec PyProof.Rows L2 Py

variable {F k : Nat}
/-- what stands behind the word -/
def partsD : Fm → List D
  | .ex v f => [.int v, f.d]
  | .all v f => [.int v, f.d]
  | f => f.kids.map Fm.d
theorem ev_parts (f : Fm) (hf : f.isAtom = false) {w : Str} {r : List D} (e : f.d = .tuple (.str w :: r)) {C : Str → List U → List O → R U} {σ : En} (i : Nat) (h0 : σ[0]? = some (some (.d f.d))) (hi : σ[i]? = some (some (.d (.str w)))) (h : List O) :
    ev G C (.ife (.cmp .in_ (.var i) (.tup (.cons (.str "and") (.cons (.str "or") .nil)))) (.ix (.var 0) (.int 1)) (.sl false (.var 0) (.yes (.int 1)) .no)) σ h = .ok (.d (.tuple (partsD f))) h := by
  cases f <;> first | (cases hf; done) | skip
  all_goals (rw [Fm.d] at e; cases e; simp (decide := true) [evCl_0, evCl_1, evCl_2, evCl_3, evCl_4, evCl_k, evCl_k2, evCl_k2r, evCl_k3r, ev, tv, evs, evo, evc, evw, evV, evC, evT, ev2, ev1, evCh, evB, evIf, evNil, evCons, evTup, evLst, evCall, evSl, evNo, evPart, vAnd, vOr, vNot, tAndE, tOrE, tNotE, binU, cmpU, biU, meU, g1, g2, maxG, minG, Es.len, Tg.slots, Tgs.slots, ex, exs, exh, sNx, sBk, sCt, sSeq, sDrop, sRet, sRetN, sAsg, sPar2, sPar3, sSub, sIf, sRaise, asg, asgs, R.bind_ok, R.bind_err, R.bind_bad, R.stm_ok, R.stm_err, R.stm_bad, opt_some, opt_none, noErr_ok, noErr_bad, leave_d, leave_n, leave_e, leave_da, mkL_f, tru, truU, truD, asB, asBo, evV, h0, hi, Fm.d, Fm.ds_eq, inU_ts, pures, getU_t1, slU, cutN1, asI, partsD, Fm.kids, evIf])
theorem ev_walk (f : Fm) (hf : f.isAtom = false) {w : Str} {r : List D} (e : f.d = .tuple (.str w :: r)) {C : Str → List U → List O → R U} {σ : En} (i j : Nat) (hj : σ[j]? = some (some (.d (.tuple (partsD f))))) (hi : σ[i]? = some (some (.d (.str w)))) (h : List O) :
    evw G C (.seq (.ife (.cmp .in_ (.var i) (.tup (.cons (.str "exists") (.cons (.str "forall") .nil)))) (.sl false (.var j) (.yes (.int 1)) .no) (.var j))) σ h = .ok (.fix (f.kids.map fun g => U.d g.d)) h := by
  cases f <;> first | (cases hf; done) | skip
  all_goals (rw [Fm.d] at e; cases e; simp (decide := true) [evCl_0, evCl_1, evCl_2, evCl_3, evCl_4, evCl_k, evCl_k2, evCl_k2r, evCl_k3r, ev, tv, evs, evo, evc, evw, evV, evC, evT, ev2, ev1, evCh, evB, evIf, evNil, evCons, evTup, evLst, evCall, evSl, evNo, evPart, vAnd, vOr, vNot, tAndE, tOrE, tNotE, binU, cmpU, biU, meU, g1, g2, maxG, minG, Es.len, Tg.slots, Tgs.slots, ex, exs, exh, sNx, sBk, sCt, sSeq, sDrop, sRet, sRetN, sAsg, sPar2, sPar3, sSub, sIf, sRaise, asg, asgs, R.bind_ok, R.bind_err, R.bind_bad, R.stm_ok, R.stm_err, R.stm_bad, opt_some, opt_none, noErr_ok, noErr_bad, leave_d, leave_n, leave_e, leave_da, mkL_f, tru, truU, truD, asB, asBo, evV, hj, hi, inU_ts, pures, slU, cutN1, asI, partsD, Fm.kids, evIf, srcU])
theorem exs_seq {C : Str → List U → List O → R U} {s : Sm} {r : Ss} {σ σ1 : En} {h h1 : List O} {z : Fl} (e : ex G C F s σ h = .nx σ1 h1) (e2 : exs G C F r σ1 h1 = z) : exs G C F (.cons s r) σ h = z := by
  show sSeq (ex G C F s) (exs G C F r) σ h = z
  unfold sSeq
  rw [e]
  exact e2
theorem atom_in (f : Fm) {w : Str} {r : List D} (e : f.d = .tuple (.str w :: r)) : ([PyData.str "ge", .str "eq", .str "div"].any fun z => PyData.eqv z (.str w)) = f.isAtom := by
  obtain ⟨w', r', e', h, _⟩ := atom_words f
  rw [e] at e'; cases e'; exact h
theorem p_law_counted : ∀ (f : Fm), f.Ok → f.size ≤ 1000 → ∀ (o : Int) (n k : Nat) (h : List O), f.deep ≤ n → run G F (dsOf dd) (k + n + 1) "_law_counted" [.d f.d, .d (.int o)] h = .ok (.d (.list ((cntF o f).map ctD))) h := by
  intro f
  induction f using Fm.ind with
  | h f ih =>
    intro ok hs o n k h hn
    obtain ⟨m, rfl⟩ : ∃ m, n = m + 1 := ⟨n - 1, by have := Fm.deep_kids f; omega⟩
    rw [show k + (m + 1) + 1 = (k + m + 1) + 1 by omega, r__law_counted]
    obtain ⟨w, r, e, hi⟩ := iff_word f
    have hw := atom_in f e
    have w0 := fun h => word_of (f := f) h e
    have hm2 : mulOk 2 o = true := by unfold mulOk; simp
    cases hf : f.isAtom with
    | true =>
      rw [hf] at hw
      rw [cnt_self o f hf]
      simp [b__law_counted, evCl_0, evCl_1, evCl_2, evCl_3, evCl_4, evCl_k, evCl_k2, evCl_k2r, evCl_k3r, ev, tv, evs, evo, evc, evw, evV, evC, evT, ev2, ev1, evCh, evB, evIf, evNil, evCons, evTup, evLst, evCall, evSl, evNo, evPart, vAnd, vOr, vNot, tAndE, tOrE, tNotE, binU, cmpU, biU, meU, g1, g2, maxG, minG, Es.len, Tg.slots, Tgs.slots, ex, exs, exh, sNx, sBk, sCt, sSeq, sDrop, sRet, sRetN, sAsg, sPar2, sPar3, sSub, sIf, sRaise, asg, asgs, R.bind_ok, R.bind_err, R.bind_bad, R.stm_ok, R.stm_err, R.stm_bad, opt_some, opt_none, noErr_ok, noErr_bad, leave_d, leave_n, leave_e, leave_da, mkL_f, tru, truU, truD, asB, asBo, getU_t0, getU_t1, getU_t2, getU_t3, getU_l0, getU_l1, getU_l2, getU_m1, getU_m2, getU_m3, eqU_i, eqU_s, eqU_b, eqU_nil, eqU_nilL, eqv_ii, eqv_ss, eqv_tnil, eqv_lnil, bool_bne, lenU_t, lenU_l, tupleU_l, tupleU_t, isiU, tyN, isaB, tyNames, cmpI, negU, srcK_d, srcU, w0, inU_ts, hw, pures, ctD, -eqv_ss, -List.any_cons]
    | false =>
      rw [hf] at hw
      have hpar := fun h => ev_parts (C := run G F (dsOf dd) (k + m + 1)) f hf e (σ := [some (.d f.d), some (.d (.int o)), some (.d (.str w)), some (.d (.list [])), none, none]) 2 rfl rfl h
      obtain ⟨σ', h', e1, ⟨u5, rfl⟩, rfl⟩ : ∃ σ' h', ex G (run G F (dsOf dd) (k + m + 1)) F f__law_counted_0 [some (.d f.d), some (.d (.int o)), some (.d (.str w)), some (.d (.list [])), some (.d (.tuple (partsD f))), none] h = .nx σ' h' ∧ (∃ u5, σ' = [some (.d f.d), some (.d (.int o)), some (.d (.str w)), some (.d (.list (((f.kids.take (f.kids.map fun g => U.d g.d).length).flatMap (cntF (oft f o))).map ctD))), some (.d (.tuple (partsD f))), u5]) ∧ h' = h := by
        refine for_inv (us := f.kids.map fun g => U.d g.d) (h1 := h) (fun pre σ h' => (∃ u5, σ = [some (.d f.d), some (.d (.int o)), some (.d (.str w)), some (.d (.list (((f.kids.take pre.length).flatMap (cntF (oft f o))).map ctD))), some (.d (.tuple (partsD f))), u5]) ∧ h' = h) (ev_walk (σ := [some (.d f.d), some (.d (.int o)), some (.d (.str w)), some (.d (.list [])), some (.d (.tuple (partsD f))), none]) f hf e 2 4 rfl rfl h) ⟨⟨none, by simp⟩, rfl⟩ ?_
        rintro pre u r2 hu σ h' ⟨⟨u5, rfl⟩, rfl⟩
        obtain ⟨g, rfl, hg, _, ht, _⟩ := map_split hu
        refine ⟨[some (.d f.d), some (.d (.int o)), some (.d (.str w)), some (.d (.list (((f.kids.take pre.length).flatMap (cntF (oft f o))).map ctD))), some (.d (.tuple (partsD f))), some (.d g.d)], _, _, rfl, ?_, ⟨⟨some (.d g.d), rfl⟩, rfl⟩⟩
        rw [List.length_append, List.length_singleton, ht, List.flatMap_append, List.map_append]
        have sk := Fm.size_kid hg
        have dk := Fm.deep_kid hg
        have q := ih g hg (ok.kid hg) (by omega) (oft f o) m k h' (by omega)
        have hl : (((f.kids.take pre.length).flatMap (cntF (oft f o))).map ctD).length + ((cntF (oft f o) g).map ctD).length ≤ 10000000 := by
          have h1 : ((f.kids.take pre.length).flatMap (cntF (oft f o))).length ≤ (f.kids.flatMap (cntF (oft f o))).length := by
            have := congrArg (fun l => (l.flatMap (cntF (oft f o))).length) (List.take_append_drop pre.length f.kids)
            simp only [List.flatMap_append, List.length_append] at this
            omega
          have h2 := cnt_len f o
          rw [cnt_kids o f hf] at h2
          have h3 := cnt_len g (oft f o)
          rw [List.length_map, List.length_map]; omega
        have hadd := addU_l (m := false) (h := h') hl
        rw [mkL_f] at hadd
        generalize ((f.kids.take pre.length).flatMap (cntF (oft f o))).map ctD = xs at *
        by_cases hq : w = "iff"
        · have h2 : isIff f = true := by rw [← hi]; exact decide_eq_true hq
          have h3 : oft f o = 2 * o := by rw [oft, if_pos h2]
          rw [h3] at q hadd ⊢
          simp [l__law_counted_0, evCl_0, evCl_1, evCl_2, evCl_3, evCl_4, evCl_k, evCl_k2, evCl_k2r, evCl_k3r, ev, tv, evs, evo, evc, evw, evV, evC, evT, ev2, ev1, evCh, evB, evIf, evNil, evCons, evTup, evLst, evCall, evSl, evNo, evPart, vAnd, vOr, vNot, tAndE, tOrE, tNotE, binU, cmpU, biU, meU, g1, g2, maxG, minG, Es.len, Tg.slots, Tgs.slots, ex, exs, exh, sNx, sBk, sCt, sSeq, sDrop, sRet, sRetN, sAsg, sPar2, sPar3, sSub, sIf, sRaise, asg, asgs, R.bind_ok, R.bind_err, R.bind_bad, R.stm_ok, R.stm_err, R.stm_bad, opt_some, opt_none, noErr_ok, noErr_bad, leave_d, leave_n, leave_e, leave_da, mkL_f, tru, truU, truD, asB, asBo, getU_t0, getU_t1, getU_t2, getU_t3, getU_l0, getU_l1, getU_l2, getU_m1, getU_m2, getU_m3, eqU_i, eqU_s, eqU_b, eqU_nil, eqU_nilL, eqv_ii, eqv_ss, eqv_tnil, eqv_lnil, bool_bne, lenU_t, lenU_l, tupleU_l, tupleU_t, isiU, tyN, isaB, tyNames, cmpI, negU, srcK_d, srcU, hq, mulU_i hm2, q, hadd]
        · have h2 : isIff f = false := by rw [← hi]; exact decide_eq_false hq
          have h3 : oft f o = o := by rw [oft, h2]; rfl
          rw [h3] at q hadd ⊢
          simp [l__law_counted_0, evCl_0, evCl_1, evCl_2, evCl_3, evCl_4, evCl_k, evCl_k2, evCl_k2r, evCl_k3r, ev, tv, evs, evo, evc, evw, evV, evC, evT, ev2, ev1, evCh, evB, evIf, evNil, evCons, evTup, evLst, evCall, evSl, evNo, evPart, vAnd, vOr, vNot, tAndE, tOrE, tNotE, binU, cmpU, biU, meU, g1, g2, maxG, minG, Es.len, Tg.slots, Tgs.slots, ex, exs, exh, sNx, sBk, sCt, sSeq, sDrop, sRet, sRetN, sAsg, sPar2, sPar3, sSub, sIf, sRaise, asg, asgs, R.bind_ok, R.bind_err, R.bind_bad, R.stm_ok, R.stm_err, R.stm_bad, opt_some, opt_none, noErr_ok, noErr_bad, leave_d, leave_n, leave_e, leave_da, mkL_f, tru, truU, truD, asB, asBo, getU_t0, getU_t1, getU_t2, getU_t3, getU_l0, getU_l1, getU_l2, getU_m1, getU_m2, getU_m3, eqU_i, eqU_s, eqU_b, eqU_nil, eqU_nilL, eqv_ii, eqv_ss, eqv_tnil, eqv_lnil, bool_bne, lenU_t, lenU_l, tupleU_l, tupleU_t, isiU, tyN, isaB, tyNames, cmpI, negU, srcK_d, srcU, hq, q, hadd]
      rw [List.length_map, List.take_length, ← cnt_kids o f hf] at e1
      have e0 : ∀ h, ex G (run G F (dsOf dd) (k + m + 1)) F (.set 4 (.ife (.cmp .in_ (.var 2) (.tup (.cons (.str "and") (.cons (.str "or") .nil)))) (.ix (.var 0) (.int 1)) (.sl false (.var 0) (.yes (.int 1)) .no))) [some (.d f.d), some (.d (.int o)), some (.d (.str w)), some (.d (.list [])), none, none] h = .nx [some (.d f.d), some (.d (.int o)), some (.d (.str w)), some (.d (.list [])), some (.d (.tuple (partsD f))), none] h := fun h => by
        show sAsg (ev G _ _) _ _ _ = _
        unfold sAsg
        rw [hpar]; rfl
      have eA : ex G (run G F (dsOf dd) (k + m + 1)) F (.set 2 (.ix (.var 0) (.int 0))) [some (.d f.d), some (.d (.int o)), none, none, none, none] h' = .nx [some (.d f.d), some (.d (.int o)), some (.d (.str w)), none, none, none] h' := by simp [ev, tv, evs, evo, evc, evw, evV, evC, evT, ev2, ev1, evCh, evB, evIf, evNil, evCons, evTup, evLst, evCall, evSl, evNo, evPart, vAnd, vOr, vNot, tAndE, tOrE, tNotE, binU, cmpU, biU, meU, g1, g2, maxG, minG, Es.len, Tg.slots, Tgs.slots, ex, exs, exh, sNx, sBk, sCt, sSeq, sDrop, sRet, sRetN, sAsg, sPar2, sPar3, sSub, sIf, sRaise, asg, asgs, R.bind_ok, R.bind_err, R.bind_bad, R.stm_ok, R.stm_err, R.stm_bad, opt_some, opt_none, noErr_ok, noErr_bad, leave_d, leave_n, leave_e, leave_da, mkL_f, tru, truU, truD, asB, asBo, w0]
      have eB : exs G (run G F (dsOf dd) (k + m + 1)) F b__law_counted [some (.d f.d), some (.d (.int o)), none, none, none, none] h' = .ret (.d (.list ((cntF o f).map ctD))) h' := by
        refine exs_seq eA (exs_seq (σ1 := [some (.d f.d), some (.d (.int o)), some (.d (.str w)), none, none, none]) (h1 := h') ?_ (exs_seq (σ1 := [some (.d f.d), some (.d (.int o)), some (.d (.str w)), some (.d (.list [])), none, none]) (h1 := h') ?_ (exs_seq (e0 h') (exs_seq e1 ?_))))
        · simp [evCl_0, evCl_1, evCl_2, evCl_3, evCl_4, evCl_k, evCl_k2, evCl_k2r, evCl_k3r, ev, tv, evs, evo, evc, evw, evV, evC, evT, ev2, ev1, evCh, evB, evIf, evNil, evCons, evTup, evLst, evCall, evSl, evNo, evPart, vAnd, vOr, vNot, tAndE, tOrE, tNotE, binU, cmpU, biU, meU, g1, g2, maxG, minG, Es.len, Tg.slots, Tgs.slots, ex, exs, exh, sNx, sBk, sCt, sSeq, sDrop, sRet, sRetN, sAsg, sPar2, sPar3, sSub, sIf, sRaise, asg, asgs, R.bind_ok, R.bind_err, R.bind_bad, R.stm_ok, R.stm_err, R.stm_bad, opt_some, opt_none, noErr_ok, noErr_bad, leave_d, leave_n, leave_e, leave_da, mkL_f, tru, truU, truD, asB, asBo, inU_ts, hw, pures, -eqv_ss, -List.any_cons]
        · simp [ev, tv, evs, evo, evc, evw, evV, evC, evT, ev2, ev1, evCh, evB, evIf, evNil, evCons, evTup, evLst, evCall, evSl, evNo, evPart, vAnd, vOr, vNot, tAndE, tOrE, tNotE, binU, cmpU, biU, meU, g1, g2, maxG, minG, Es.len, Tg.slots, Tgs.slots, ex, exs, exh, sNx, sBk, sCt, sSeq, sDrop, sRet, sRetN, sAsg, sPar2, sPar3, sSub, sIf, sRaise, asg, asgs, R.bind_ok, R.bind_err, R.bind_bad, R.stm_ok, R.stm_err, R.stm_bad, opt_some, opt_none, noErr_ok, noErr_bad, leave_d, leave_n, leave_e, leave_da, mkL_f, tru, truU, truD, asB, asBo, pures]
        · simp [ev, tv, evs, evo, evc, evw, evV, evC, evT, ev2, ev1, evCh, evB, evIf, evNil, evCons, evTup, evLst, evCall, evSl, evNo, evPart, vAnd, vOr, vNot, tAndE, tOrE, tNotE, binU, cmpU, biU, meU, g1, g2, maxG, minG, Es.len, Tg.slots, Tgs.slots, ex, exs, exh, sNx, sBk, sCt, sSeq, sDrop, sRet, sRetN, sAsg, sPar2, sPar3, sSub, sIf, sRaise, asg, asgs, R.bind_ok, R.bind_err, R.bind_bad, R.stm_ok, R.stm_err, R.stm_bad, opt_some, opt_none, noErr_ok, noErr_bad, leave_d, leave_n, leave_e, leave_da, mkL_f, tru, truU, truD, asB, asBo]
      rw [eB]
      simp [leave, outU]
theorem p_law_nesting : ∀ (f : Fm), f.Ok → f.size ≤ 1000 → ∀ (n k : Nat) (h : List O), f.deep ≤ n → run G F (dsOf dd) (k + n + 1) "_law_nesting" [.d f.d] h = .ok (.d (.int (nestF f))) h := by
  intro f
  induction f using Fm.ind with
  | h f ih =>
    intro ok hs n k h hn
    obtain ⟨m, rfl⟩ : ∃ m, n = m + 1 := ⟨n - 1, by have := Fm.deep_kids f; omega⟩
    rw [show k + (m + 1) + 1 = (k + m + 1) + 1 by omega, r__law_nesting]
    obtain ⟨w, r, e, hat, hqn⟩ := atom_words f
    have w0 := fun h => word_of (f := f) h e
    have ihs : ∀ g ∈ f.kids, ∀ h, run G F (dsOf dd) (k + m + 1) "_law_nesting" [.d g.d] h = .ok (.d (.int (nestF g))) h := fun g hg h => by
      have := Fm.size_kid hg
      have := Fm.deep_kid hg
      exact ih g hg (ok.kid hg) (by omega) m k h (by omega)
    cases hf : f.isAtom with
    | true =>
      rw [hf] at hat
      have hz : nestF f = 0 := by cases f <;> first | (cases hf; done) | simp [nestF]
      rw [hz]
      simp [b__law_nesting, evCl_0, evCl_1, evCl_2, evCl_3, evCl_4, evCl_k, evCl_k2, evCl_k2r, evCl_k3r, ev, tv, evs, evo, evc, evw, evV, evC, evT, ev2, ev1, evCh, evB, evIf, evNil, evCons, evTup, evLst, evCall, evSl, evNo, evPart, vAnd, vOr, vNot, tAndE, tOrE, tNotE, binU, cmpU, biU, meU, g1, g2, maxG, minG, Es.len, Tg.slots, Tgs.slots, ex, exs, exh, sNx, sBk, sCt, sSeq, sDrop, sRet, sRetN, sAsg, sPar2, sPar3, sSub, sIf, sRaise, asg, asgs, R.bind_ok, R.bind_err, R.bind_bad, R.stm_ok, R.stm_err, R.stm_bad, opt_some, opt_none, noErr_ok, noErr_bad, leave_d, leave_n, leave_e, leave_da, mkL_f, tru, truU, truD, asB, asBo, getU_t0, getU_t1, getU_t2, getU_t3, getU_l0, getU_l1, getU_l2, getU_m1, getU_m2, getU_m3, eqU_i, eqU_s, eqU_b, eqU_nil, eqU_nilL, eqv_ii, eqv_ss, eqv_tnil, eqv_lnil, bool_bne, lenU_t, lenU_l, tupleU_l, tupleU_t, isiU, tyN, isaB, tyNames, cmpI, negU, srcK_d, srcU, w0, inU_ts, hat, pures, -eqv_ss, -List.any_cons]
    | false =>
      rw [hf] at hat
      have hpar := fun h => ev_parts (C := run G F (dsOf dd) (k + m + 1)) f hf e (σ := [some (.d f.d), some (.d (.str w)), none, none]) 1 rfl rfl h
      have e0 : ∀ h, ex G (run G F (dsOf dd) (k + m + 1)) F (.set 2 (.ife (.cmp .in_ (.var 1) (.tup (.cons (.str "and") (.cons (.str "or") .nil)))) (.ix (.var 0) (.int 1)) (.sl false (.var 0) (.yes (.int 1)) .no))) [some (.d f.d), some (.d (.str w)), none, none] h = .nx [some (.d f.d), some (.d (.str w)), some (.d (.tuple (partsD f))), none] h := fun h => by
        show sAsg (ev G _ _) _ _ _ = _
        unfold sAsg
        rw [hpar]; rfl
      have eA : ex G (run G F (dsOf dd) (k + m + 1)) F (.set 1 (.ix (.var 0) (.int 0))) [some (.d f.d), none, none, none] h = .nx [some (.d f.d), some (.d (.str w)), none, none] h := by simp [ev, tv, evs, evo, evc, evw, evV, evC, evT, ev2, ev1, evCh, evB, evIf, evNil, evCons, evTup, evLst, evCall, evSl, evNo, evPart, vAnd, vOr, vNot, tAndE, tOrE, tNotE, binU, cmpU, biU, meU, g1, g2, maxG, minG, Es.len, Tg.slots, Tgs.slots, ex, exs, exh, sNx, sBk, sCt, sSeq, sDrop, sRet, sRetN, sAsg, sPar2, sPar3, sSub, sIf, sRaise, asg, asgs, R.bind_ok, R.bind_err, R.bind_bad, R.stm_ok, R.stm_err, R.stm_bad, opt_some, opt_none, noErr_ok, noErr_bad, leave_d, leave_n, leave_e, leave_da, mkL_f, tru, truU, truD, asB, asBo, w0]
      have eB : exs G (run G F (dsOf dd) (k + m + 1)) F b__law_nesting [some (.d f.d), none, none, none] h = .ret (.d (.int (nestF f))) h := by
        refine exs_seq eA (exs_seq (σ1 := [some (.d f.d), some (.d (.str w)), none, none]) (h1 := h) ?_ (exs_seq (e0 h) ?_))
        · simp [evCl_0, evCl_1, evCl_2, evCl_3, evCl_4, evCl_k, evCl_k2, evCl_k2r, evCl_k3r, ev, tv, evs, evo, evc, evw, evV, evC, evT, ev2, ev1, evCh, evB, evIf, evNil, evCons, evTup, evLst, evCall, evSl, evNo, evPart, vAnd, vOr, vNot, tAndE, tOrE, tNotE, binU, cmpU, biU, meU, g1, g2, maxG, minG, Es.len, Tg.slots, Tgs.slots, ex, exs, exh, sNx, sBk, sCt, sSeq, sDrop, sRet, sRetN, sAsg, sPar2, sPar3, sSub, sIf, sRaise, asg, asgs, R.bind_ok, R.bind_err, R.bind_bad, R.stm_ok, R.stm_err, R.stm_bad, opt_some, opt_none, noErr_ok, noErr_bad, leave_d, leave_n, leave_e, leave_da, mkL_f, tru, truU, truD, asB, asBo, inU_ts, hat, pures, -eqv_ss, -List.any_cons]
        · cases hq : f.isQ with
          | true =>
            rw [hq] at hqn
            obtain ⟨g, hg, h2, hz⟩ : ∃ g, g ∈ f.kids ∧ (∀ h, getU (.d f.d) (.d (.int 2)) h = .ok (.d g.d) h) ∧ nestF f = nestF g + 1 := by
              cases f <;> first | (cases hq; done) | skip
              case ex v g => exact ⟨g, by simp [Fm.kids], fun h => by rw [Fm.d, getU_t2], by simp [nestF]⟩
              case all v g => exact ⟨g, by simp [Fm.kids], fun h => by rw [Fm.d, getU_t2], by simp [nestF]⟩
            rw [hz]
            simp [evCl_0, evCl_1, evCl_2, evCl_3, evCl_4, evCl_k, evCl_k2, evCl_k2r, evCl_k3r, ev, tv, evs, evo, evc, evw, evV, evC, evT, ev2, ev1, evCh, evB, evIf, evNil, evCons, evTup, evLst, evCall, evSl, evNo, evPart, vAnd, vOr, vNot, tAndE, tOrE, tNotE, binU, cmpU, biU, meU, g1, g2, maxG, minG, Es.len, Tg.slots, Tgs.slots, ex, exs, exh, sNx, sBk, sCt, sSeq, sDrop, sRet, sRetN, sAsg, sPar2, sPar3, sSub, sIf, sRaise, asg, asgs, R.bind_ok, R.bind_err, R.bind_bad, R.stm_ok, R.stm_err, R.stm_bad, opt_some, opt_none, noErr_ok, noErr_bad, leave_d, leave_n, leave_e, leave_da, mkL_f, tru, truU, truD, asB, asBo, inU_ts, hqn, pures, h2, ihs g hg, addU_i, -eqv_ss, -List.any_cons]
            omega
          | false =>
            rw [hq] at hqn
            have hpd : partsD f = f.kids.map Fm.d := by cases f <;> first | (cases hq; done) | rfl
            have hz : nestF f = maxN (f.kids.map nestF) := by rw [nest_kids f, hq]; rfl
            have key : ev G (run G F (dsOf dd) (k + m + 1)) c__law_nesting_0 [some (.d f.d), some (.d (.str w)), some (.d (.tuple (f.kids.map Fm.d))), none] h = mkL false (f.kids.map fun g => .int (nestF g)) h := by
              refine ev_kids (h1 := h) f.kids (fun g => .int (nestF g)) ?_ (by have := kids_len f; omega) (fun g hg => ⟨[some (.d f.d), some (.d (.str w)), some (.d (.tuple (f.kids.map Fm.d))), some (.d g.d)], rfl, fun acc => ?_⟩)
              · simp [evCl_0, evCl_1, evCl_2, evCl_3, evCl_4, evCl_k, evCl_k2, evCl_k2r, evCl_k3r, ev, tv, evs, evo, evc, evw, evV, evC, evT, ev2, ev1, evCh, evB, evIf, evNil, evCons, evTup, evLst, evCall, evSl, evNo, evPart, vAnd, vOr, vNot, tAndE, tOrE, tNotE, binU, cmpU, biU, meU, g1, g2, maxG, minG, Es.len, Tg.slots, Tgs.slots, ex, exs, exh, sNx, sBk, sCt, sSeq, sDrop, sRet, sRetN, sAsg, sPar2, sPar3, sSub, sIf, sRaise, asg, asgs, R.bind_ok, R.bind_err, R.bind_bad, R.stm_ok, R.stm_err, R.stm_bad, opt_some, opt_none, noErr_ok, noErr_bad, leave_d, leave_n, leave_e, leave_da, mkL_f, tru, truU, truD, asB, asBo, srcU]
              · simp [evCl_0, evCl_1, evCl_2, evCl_3, evCl_4, evCl_k, evCl_k2, evCl_k2r, evCl_k3r, ev, tv, evs, evo, evc, evw, evV, evC, evT, ev2, ev1, evCh, evB, evIf, evNil, evCons, evTup, evLst, evCall, evSl, evNo, evPart, vAnd, vOr, vNot, tAndE, tOrE, tNotE, binU, cmpU, biU, meU, g1, g2, maxG, minG, Es.len, Tg.slots, Tgs.slots, ex, exs, exh, sNx, sBk, sCt, sSeq, sDrop, sRet, sRetN, sAsg, sPar2, sPar3, sSub, sIf, sRaise, asg, asgs, R.bind_ok, R.bind_err, R.bind_bad, R.stm_ok, R.stm_err, R.stm_bad, opt_some, opt_none, noErr_ok, noErr_bad, leave_d, leave_n, leave_e, leave_da, mkL_f, tru, truU, truD, asB, asBo, ihs g hg]
            have hadd : addU false (.d (.list [.int 0])) (.d (.list (f.kids.map fun g => .int (nestF g)))) h = .ok (.d (.list (.int 0 :: f.kids.map fun g => .int (nestF g)))) h := by
              rw [addU_l (by have := kids_len f; simp; omega), mkL_f]; rfl
            have hmax : maxG [.d (.list (.int 0 :: f.kids.map fun g => .int (nestF g)))] h = .ok (.d (.int (maxN (f.kids.map nestF) : Nat))) h := by
              have e1 : intsOf (.int 0 :: f.kids.map fun g => .int (nestF g)) = some (0 :: f.kids.map fun g => (nestF g : Int)) := by
                have := intsOf_map (0 :: f.kids.map fun g => (nestF g : Int))
                rw [List.map_cons, List.map_map] at this; exact this
              have e2 : (f.kids.map fun g => (nestF g : Int)) = (f.kids.map nestF).map (fun (n : Nat) => (n : Int)) := by rw [List.map_map]; rfl
              rw [e2] at e1
              have e3 := maxL_cast (f.kids.map nestF) 0
              have e4 : maxN (0 :: f.kids.map nestF) = maxN (f.kids.map nestF) := by unfold maxN; rw [List.foldr_cons]; omega
              rw [e4] at e3
              have e5 : maxL 0 ((f.kids.map nestF).map (fun (n : Nat) => (n : Int))) = ((maxN (f.kids.map nestF) : Nat) : Int) := e3
              simp only [maxG, maxU, Py.listOf, Option.bind_some, e1, opt_some, R.bind_ok, e5]
            rw [hpd, hz]
            simp [evCl_0, evCl_1, evCl_2, evCl_3, evCl_4, evCl_k, evCl_k2, evCl_k2r, evCl_k3r, ev, tv, evs, evo, evc, evw, evV, evC, evT, ev2, ev1, evCh, evB, evIf, evNil, evCons, evTup, evLst, evCall, evSl, evNo, evPart, vAnd, vOr, vNot, tAndE, tOrE, tNotE, binU, cmpU, biU, meU, g1, g2, maxG, minG, Es.len, Tg.slots, Tgs.slots, ex, exs, exh, sNx, sBk, sCt, sSeq, sDrop, sRet, sRetN, sAsg, sPar2, sPar3, sSub, sIf, sRaise, asg, asgs, R.bind_ok, R.bind_err, R.bind_bad, R.stm_ok, R.stm_err, R.stm_bad, opt_some, opt_none, noErr_ok, noErr_bad, leave_d, leave_n, leave_e, leave_da, mkL_f, tru, truU, truD, asB, asBo, inU_ts, hqn, pures, key, hadd, hmax, -maxG, -eqv_ss, -List.any_cons]
      rw [eB]
      simp [leave, outU]

end K19

namespace K19
open PySem PySem.Spec PyProof.Rows L2 Py

variable {F k : Nat}
def numsF (l : List Fm) : List Nat := l.flatMap fun a => a.pairs.map fun p => p.2.natAbs
def divsF : List Fm → List Int
  | [] => []
  | .dv m _ _ :: r => m :: divsF r
  | _ :: r => divsF r
theorem divs_filter (l : List (Fm × Int)) (hl : ∀ a ∈ l, a.1.isAtom = true) : ∀ (isd : Fm × Int → Bool) (dd : Fm × Int → D), (∀ a ∈ l, isd a = (match a.1 with | .dv _ _ _ => true | _ => false)) → (∀ a ∈ l, ∀ m c ps, a.1 = .dv m c ps → dd a = .int m) → (l.filter isd).map dd = (divsF (l.map (·.1))).map .int := fun isd dd h1 h2 => by
  induction l with
  | nil => rfl
  | cons a r ih =>
    have q := ih (fun b hb => hl b (List.mem_cons_of_mem _ hb)) (fun b hb => h1 b (List.mem_cons_of_mem _ hb)) (fun b hb => h2 b (List.mem_cons_of_mem _ hb))
    have p := h1 a List.mem_cons_self
    have z := h2 a List.mem_cons_self
    have at' := hl a List.mem_cons_self
    obtain ⟨f, o⟩ := a
    cases f <;> first | (cases at'; done) | skip
    case ge c ps => simp only at p; rw [List.filter_cons, if_neg (by rw [p]; exact Bool.false_ne_true), q]; rfl
    case eq c ps => simp only at p; rw [List.filter_cons, if_neg (by rw [p]; exact Bool.false_ne_true), q]; rfl
    case dv m c ps => simp only at p; rw [List.filter_cons, if_pos p, List.map_cons, z m c ps rfl, q]; rfl
theorem max_le (M : Nat) : ∀ l : List Nat, maxN l ≤ M ↔ ∀ x ∈ l, x ≤ M
  | [] => by simp [maxN]
  | x :: r => by
    have ih := max_le M r
    unfold maxN at ih ⊢
    rw [List.foldr_cons]
    constructor
    · intro h y hy
      rcases List.mem_cons.mp hy with rfl | hy
      · omega
      · exact ih.mp (by omega) y hy
    · intro h
      have h1 := h x List.mem_cons_self
      have h2 := ih.mpr fun y hy => h y (List.mem_cons_of_mem _ hy)
      omega
theorem light3 : ∀ (l : List Fm), (∀ a ∈ l, ∀ m c ps, a = .dv m c ps → 2 ≤ m) → l.all (okA 3 [2, 3]) = (decide (maxN (numsF l) ≤ 3) && ((divsF l).filter fun d => decide (3 < d)).isEmpty)
  | [], _ => by simp [numsF, maxN, divsF]
  | a :: r, h => by
    have ih := light3 r fun b hb => h b (List.mem_cons_of_mem _ hb)
    rw [List.all_cons, ih]
    have e1 : decide (maxN (numsF (a :: r)) ≤ 3) = (!big1 3 a && decide (maxN (numsF r) ≤ 3)) := by
      have q1 := max_le 3 (numsF (a :: r))
      have q2 := max_le 3 (numsF r)
      have q3 : (!big1 3 a) = true ↔ ∀ p ∈ a.pairs, p.2.natAbs ≤ 3 := by
        unfold big1
        rw [Bool.not_eq_true', List.any_eq_false]
        constructor
        · intro z p hp; have := z p hp; simp at this; exact this
        · intro z p hp; have := z p hp; simp; exact this
      apply Bool.eq_iff_iff.mpr
      rw [decide_eq_true_eq, Bool.and_eq_true, decide_eq_true_eq, q1, q2, q3]
      constructor
      · intro z
        exact ⟨fun p hp => z _ (List.mem_append_left _ (List.mem_map.mpr ⟨p, hp, rfl⟩)), fun x hx => z x (List.mem_append_right _ hx)⟩
      · rintro ⟨z1, z2⟩ x hx
        rcases List.mem_append.mp hx with hx | hx
        · obtain ⟨p, hp, rfl⟩ := List.mem_map.mp hx; exact z1 p hp
        · exact z2 x hx
    have e2 : ((divsF (a :: r)).filter fun d => decide (3 < d)).isEmpty = (!divN [2, 3] a && ((divsF r).filter fun d => decide (3 < d)).isEmpty) := by
      cases a <;> first | (simp [divsF, divN]; done) | skip
      case dv m c ps =>
        have h2 := h _ List.mem_cons_self m c ps rfl
        by_cases h3 : 3 < m
        · have : divN [2, 3] (.dv m c ps) = true := by simp [divN]; omega
          rw [this]; simp [divsF, List.filter_cons, h3]
        · have : divN [2, 3] (.dv m c ps) = false := by simp [divN]; omega
          rw [this]; simp [divsF, List.filter_cons, h3]
    rw [e1, e2]
    unfold okA
    cases big1 3 a <;> cases divN [2, 3] a <;> simp
theorem light1 : ∀ (l : List Fm), l.all (okA 1 []) = (decide (maxN (numsF l) ≤ 1) && (divsF l).isEmpty)
  | [] => by simp [numsF, maxN, divsF]
  | a :: r => by
    have ih := light1 r
    rw [List.all_cons, ih]
    have e1 : decide (maxN (numsF (a :: r)) ≤ 1) = (!big1 1 a && decide (maxN (numsF r) ≤ 1)) := by
      have q1 := max_le 1 (numsF (a :: r))
      have q2 := max_le 1 (numsF r)
      have q3 : (!big1 1 a) = true ↔ ∀ p ∈ a.pairs, p.2.natAbs ≤ 1 := by
        unfold big1
        rw [Bool.not_eq_true', List.any_eq_false]
        constructor
        · intro z p hp; have := z p hp; simp at this; exact this
        · intro z p hp; have := z p hp; simp; exact this
      apply Bool.eq_iff_iff.mpr
      rw [decide_eq_true_eq, Bool.and_eq_true, decide_eq_true_eq, q1, q2, q3]
      constructor
      · intro z
        exact ⟨fun p hp => z _ (List.mem_append_left _ (List.mem_map.mpr ⟨p, hp, rfl⟩)), fun x hx => z x (List.mem_append_right _ hx)⟩
      · rintro ⟨z1, z2⟩ x hx
        rcases List.mem_append.mp hx with hx | hx
        · obtain ⟨p, hp, rfl⟩ := List.mem_map.mp hx; exact z1 p hp
        · exact z2 x hx
    have e2 : (divsF (a :: r)).isEmpty = (!divN [] a && (divsF r).isEmpty) := by
      cases a <;> simp [divsF, divN]
    rw [e1, e2]
    unfold okA
    cases big1 1 a <;> cases divN [] a <;> simp

end K19

namespace K19
open PySem PySem.Spec PyProof.Rows L2 Py

variable {F k : Nat}
theorem natAbs_list (a : Fm) : (a.pairs.map fun p => PyData.int ((p.2.natAbs : Nat) : Int)) = (a.pairs.map fun p => p.2.natAbs).map fun (n : Nat) => PyData.int (n : Int) := by rw [List.map_map]; rfl
theorem key_nums (a : Fm) (ha : a.isAtom = true) (hl : a.pairs.length ≤ 1000) (s0 s1 s2 s3 s4 s5 s6 s8 s9 s10 s11 : Option U) (h : List O) : ev G (run G F (dsOf dd) k) c__law_is_light_1 [s0, s1, s2, s3, s4, s5, s6, some (.d a.d), s8, s9, s10, s11] h = mkL false ((a.pairs.map fun p => p.2.natAbs).map fun (n : Nat) => PyData.int (n : Int)) h := by
  rw [← natAbs_list]
  refine ev_lcA (m := false) (t := .tup (.cons (.nm 10) (.cons (.nm 11) .nil))) (w := .seq (.ix (.ix (.var 7) (.neg (.int 1))) (.int 1))) (e := .bi .abs false (.cons (.var 11) .nil)) (σ := [s0, s1, s2, s3, s4, s5, s6, some (.d a.d), s8, s9, s10, s11]) (h1 := h) a.pairs Py.pairD _ ?_ (by omega) (fun p hp => ⟨[s0, s1, s2, s3, s4, s5, s6, some (.d a.d), s8, s9, some (.d (.int p.1)), some (.d (.int p.2))], rfl, fun acc => ?_⟩)
  · have g1' : ∀ h, getU (.d (tmD a.const a.pairs)) (.d (.int 1)) h = .ok (.d (.tuple (a.pairs.map Py.pairD))) h := fun h => by rw [tmD, getU_t1]
    simp [evCl_0, evCl_1, evCl_2, evCl_3, evCl_4, evCl_k, evCl_k2, evCl_k2r, evCl_k3r, ev, tv, evs, evo, evc, evw, evV, evC, evT, ev2, ev1, evCh, evB, evIf, evNil, evCons, evTup, evLst, evCall, evSl, evNo, evPart, vAnd, vOr, vNot, tAndE, tOrE, tNotE, binU, cmpU, biU, meU, g1, g2, maxG, minG, Es.len, Tg.slots, Tgs.slots, ex, exs, exh, sNx, sBk, sCt, sSeq, sDrop, sRet, sRetN, sAsg, sPar2, sPar3, sSub, sIf, sRaise, asg, asgs, R.bind_ok, R.bind_err, R.bind_bad, R.stm_ok, R.stm_err, R.stm_bad, opt_some, opt_none, noErr_ok, noErr_bad, leave_d, leave_n, leave_e, leave_da, mkL_f, tru, truU, truD, asB, asBo, negU, ats_tm ha, g1', srcU]
  · simp [evCl_0, evCl_1, evCl_2, evCl_3, evCl_4, evCl_k, evCl_k2, evCl_k2r, evCl_k3r, ev, tv, evs, evo, evc, evw, evV, evC, evT, ev2, ev1, evCh, evB, evIf, evNil, evCons, evTup, evLst, evCall, evSl, evNo, evPart, vAnd, vOr, vNot, tAndE, tOrE, tNotE, binU, cmpU, biU, meU, g1, g2, maxG, minG, Es.len, Tg.slots, Tgs.slots, ex, exs, exh, sNx, sBk, sCt, sSeq, sDrop, sRet, sRetN, sAsg, sPar2, sPar3, sSub, sIf, sRaise, asg, asgs, R.bind_ok, R.bind_err, R.bind_bad, R.stm_ok, R.stm_err, R.stm_bad, opt_some, opt_none, noErr_ok, noErr_bad, leave_d, leave_n, leave_e, leave_da, mkL_f, tru, truU, truD, asB, asBo, absU, absI]
theorem nums_len : ∀ (l : List Fm) (B : Nat), (∀ a ∈ l, a.pairs.length ≤ B) → (numsF l).length ≤ B * l.length
  | [], _, _ => by simp [numsF]
  | a :: r, B, h => by
    have h1 := h a List.mem_cons_self
    have h2 := nums_len r B fun b hb => h b (List.mem_cons_of_mem _ hb)
    have e : numsF (a :: r) = (a.pairs.map fun p => p.2.natAbs) ++ numsF r := rfl
    rw [e, List.length_append, List.length_map, List.length_cons, Nat.mul_succ]; omega
theorem is_div {a : Fm} (ha : a.isAtom = true) (h : List O) : ∃ w, getU (.d a.d) (.d (.int 0)) h = .ok (.d (.str w)) h ∧ decide (w = "div") = (match a with | .dv _ _ _ => true | _ => false) := by
  cases a <;> first | (cases ha; done) | skip
  case ge c ps => exact ⟨_, by rw [Fm.d, getU_t0], by simp only; decide⟩
  case eq c ps => exact ⟨_, by rw [Fm.d, getU_t0], by simp only; decide⟩
  case dv m c ps => exact ⟨_, by rw [Fm.d, getU_t0], by simp only; decide⟩
def divD (a : Fm × Int) : D := match a.1 with | .dv m _ _ => .int m | _ => .none
def divB (a : Fm × Int) : Bool := match a.1 with | .dv _ _ _ => true | _ => false
def pD : D → Bool
  | .tuple [.tuple (.str w :: _), _] => decide (w = "div")
  | _ => false
def gD : D → D
  | .tuple [.tuple [_, m, _], _] => m
  | _ => .none
theorem p_law_light (f : Fm) (ok : f.Ok) (hs : f.size ≤ 1000) (hp : ∀ a ∈ f.atoms, a.pairs.length ≤ 200) (n k : Nat) (h : List O) (hn : f.deep ≤ n) : run G F (dsOf dd) (k + n + 2) "_law_is_light" [.d f.d] h = .ok (.d (.bool (lightF f))) h := by
  rw [show k + n + 2 = (k + n + 1) + 1 by omega, r__law_is_light]
  have a1 := fun h => p_law_counted (F := F) f ok hs 1 n k h hn
  have a2 := fun h => p_law_nesting (F := F) f ok hs n k h hn
  have hl := cnt_len f 1
  have hat : ∀ a ∈ cntF 1 f, a.1.isAtom = true ∧ a.1.pairs.length ≤ 200 ∧ a.1.Ok := fun a ha => by
    have : a.1 ∈ f.atoms := by rw [← cnt_atoms f 1]; exact List.mem_map.mpr ⟨a, ha, rfl⟩
    exact ⟨(Fm.atoms_are this).1, hp _ this, (Fm.atoms_are this).2.2 ok⟩
  have q2 := sumU_map (h := h) (fun a : Fm × Int => a.2) (cntF 1 f)
  have hm : ((cntF 1 f).map fun a => a.2).sum = manyF f := rfl
  rw [hm] at q2
  have c2 : ∀ h, ev G (run G F (dsOf dd) (k + n + 1)) c__law_is_light_2 [some (.d f.d), none, none, none, none, some (.d (.list ((cntF 1 f).map ctD))), some (.d (.int (nestF f))), none, none, none, none, none] h = mkL false ((cntF 1 f).map fun a => .int a.2) h := fun h =>
    ev_lcA (m := false) (t := .tup (.cons (.nm 7) (.cons (.nm 8) .nil))) (w := .seq (.var 5)) (e := .var 8) (h1 := h) (cntF 1 f) ctD _ (by simp [ev, tv, evs, evo, evc, evw, evV, evC, evT, ev2, ev1, evCh, evB, evIf, evNil, evCons, evTup, evLst, evCall, evSl, evNo, evPart, vAnd, vOr, vNot, tAndE, tOrE, tNotE, binU, cmpU, biU, meU, g1, g2, maxG, minG, Es.len, Tg.slots, Tgs.slots, ex, exs, exh, sNx, sBk, sCt, sSeq, sDrop, sRet, sRetN, sAsg, sPar2, sPar3, sSub, sIf, sRaise, asg, asgs, R.bind_ok, R.bind_err, R.bind_bad, R.stm_ok, R.stm_err, R.stm_bad, opt_some, opt_none, noErr_ok, noErr_bad, leave_d, leave_n, leave_e, leave_da, mkL_f, tru, truU, truD, asB, asBo, srcU]) (by omega) (fun a ha => ⟨[some (.d f.d), none, none, none, none, some (.d (.list ((cntF 1 f).map ctD))), some (.d (.int (nestF f))), some (.d a.1.d), some (.d (.int a.2)), none, none, none], rfl, fun acc => by simp [ev, tv, evs, evo, evc, evw, evV, evC, evT, ev2, ev1, evCh, evB, evIf, evNil, evCons, evTup, evLst, evCall, evSl, evNo, evPart, vAnd, vOr, vNot, tAndE, tOrE, tNotE, binU, cmpU, biU, meU, g1, g2, maxG, minG, Es.len, Tg.slots, Tgs.slots, ex, exs, exh, sNx, sBk, sCt, sSeq, sDrop, sRet, sRetN, sAsg, sPar2, sPar3, sSub, sIf, sRaise, asg, asgs, R.bind_ok, R.bind_err, R.bind_bad, R.stm_ok, R.stm_err, R.stm_bad, opt_some, opt_none, noErr_ok, noErr_bad, leave_d, leave_n, leave_e, leave_da, mkL_f, tru, truU, truD, asB, asBo]⟩)
  obtain ⟨σ', h', e1, ⟨u7, u8, rfl⟩, rfl⟩ : ∃ σ' h', ex G (run G F (dsOf dd) (k + n + 1)) F f__law_is_light_0 [some (.d f.d), some (.d (.int (manyF f))), some (.d (.list [])), none, none, some (.d (.list ((cntF 1 f).map ctD))), some (.d (.int (nestF f))), none, none, none, none, none] h = .nx σ' h' ∧
      (∃ u7 u8, σ' = [some (.d f.d), some (.d (.int (manyF f))), some (.d (.list ((numsF (((cntF 1 f).take ((cntF 1 f).map fun a => U.d (ctD a)).length).map (·.1))).map fun (n : Nat) => PyData.int (n : Int)))), none, none, some (.d (.list ((cntF 1 f).map ctD))), some (.d (.int (nestF f))), u7, u8, none, none, none]) ∧ h' = h := by
    refine for_inv (us := (cntF 1 f).map fun a => U.d (ctD a)) (h1 := h) (fun pre σ h' => (∃ u7 u8, σ = [some (.d f.d), some (.d (.int (manyF f))), some (.d (.list ((numsF (((cntF 1 f).take pre.length).map (·.1))).map fun (n : Nat) => PyData.int (n : Int)))), none, none, some (.d (.list ((cntF 1 f).map ctD))), some (.d (.int (nestF f))), u7, u8, none, none, none]) ∧ h' = h) ?_ ⟨⟨none, none, by simp [numsF]⟩, rfl⟩ ?_
    · simp [ev, tv, evs, evo, evc, evw, evV, evC, evT, ev2, ev1, evCh, evB, evIf, evNil, evCons, evTup, evLst, evCall, evSl, evNo, evPart, vAnd, vOr, vNot, tAndE, tOrE, tNotE, binU, cmpU, biU, meU, g1, g2, maxG, minG, Es.len, Tg.slots, Tgs.slots, ex, exs, exh, sNx, sBk, sCt, sSeq, sDrop, sRet, sRetN, sAsg, sPar2, sPar3, sSub, sIf, sRaise, asg, asgs, R.bind_ok, R.bind_err, R.bind_bad, R.stm_ok, R.stm_err, R.stm_bad, opt_some, opt_none, noErr_ok, noErr_bad, leave_d, leave_n, leave_e, leave_da, mkL_f, tru, truU, truD, asB, asBo, srcU, Function.comp_def]
    · rintro pre u r hu σ h' ⟨⟨u7, u8, rfl⟩, rfl⟩
      obtain ⟨a, rfl, ha, _, ht, _⟩ := map_split hu
      obtain ⟨b1, b2, _⟩ := hat a ha
      refine ⟨[some (.d f.d), some (.d (.int (manyF f))), some (.d (.list ((numsF (((cntF 1 f).take pre.length).map (·.1))).map fun (n : Nat) => PyData.int (n : Int)))), none, none, some (.d (.list ((cntF 1 f).map ctD))), some (.d (.int (nestF f))), some (.d a.1.d), some (.d (.int a.2)), none, none, none], _, _, rfl, ?_, ⟨⟨some (.d a.1.d), some (.d (.int a.2)), rfl⟩, rfl⟩⟩
      rw [List.length_append, List.length_singleton, ht, List.map_append]
      have en : numsF (((cntF 1 f).take pre.length).map (·.1) ++ [a].map (·.1)) = numsF (((cntF 1 f).take pre.length).map (·.1)) ++ a.1.pairs.map fun p => p.2.natAbs := by
        unfold numsF; rw [List.flatMap_append]; simp
      rw [en, List.map_append]
      have hlen : (numsF (((cntF 1 f).take pre.length).map (·.1))).length ≤ 200 * 1000 := by
        have := nums_len (((cntF 1 f).take pre.length).map (·.1)) 200 (fun b hb => by
          obtain ⟨c, hc, rfl⟩ := List.mem_map.mp hb
          exact (hat c (List.mem_of_mem_take hc)).2.1)
        have h3 : (((cntF 1 f).take pre.length).map (·.1)).length ≤ 1000 := by rw [List.length_map, List.length_take]; omega
        exact Nat.le_trans this (Nat.mul_le_mul_left _ h3)
      have hadd := addU_l (m := false) (h := h') (xs := (numsF (((cntF 1 f).take pre.length).map (·.1))).map fun (n : Nat) => PyData.int (n : Int)) (ys := (a.1.pairs.map fun p => p.2.natAbs).map fun (n : Nat) => PyData.int (n : Int)) (by simp only [List.length_map]; omega)
      rw [mkL_f] at hadd
      have kn := key_nums (F := F) (k := k + n + 1) a.1 b1 (by omega) (some (.d f.d)) (some (.d (.int (manyF f)))) (some (.d (.list ((numsF (((cntF 1 f).take pre.length).map (·.1))).map fun (n : Nat) => PyData.int (n : Int))))) none none (some (.d (.list ((cntF 1 f).map ctD)))) (some (.d (.int (nestF f)))) (some (.d (.int a.2))) none none none h'
      generalize (numsF (((cntF 1 f).take pre.length).map (·.1))).map (fun (n : Nat) => PyData.int (n : Int)) = xs at *
      simp [l__law_is_light_0, ev, tv, evs, evo, evc, evw, evV, evC, evT, ev2, ev1, evCh, evB, evIf, evNil, evCons, evTup, evLst, evCall, evSl, evNo, evPart, vAnd, vOr, vNot, tAndE, tOrE, tNotE, binU, cmpU, biU, meU, g1, g2, maxG, minG, Es.len, Tg.slots, Tgs.slots, ex, exs, exh, sNx, sBk, sCt, sSeq, sDrop, sRet, sRetN, sAsg, sPar2, sPar3, sSub, sIf, sRaise, asg, asgs, R.bind_ok, R.bind_err, R.bind_bad, R.stm_ok, R.stm_err, R.stm_bad, opt_some, opt_none, noErr_ok, noErr_bad, leave_d, leave_n, leave_e, leave_da, mkL_f, tru, truU, truD, asB, asBo, kn, hadd, -List.map_map]
  rw [List.length_map, List.take_length] at e1
  have hdv : (((cntF 1 f).map ctD).filter pD).map gD = (divsF (atsF f)).map .int := by
    rw [List.filter_map, List.map_map]
    refine divs_filter (cntF 1 f) (fun a ha => (hat a ha).1) (pD ∘ ctD) (gD ∘ ctD) (fun a ha => ?_) (fun a ha m c ps e => ?_)
    · obtain ⟨g, o⟩ := a
      have := (hat _ ha).1
      cases g <;> first | (cases this; done) | (simp only [Function.comp, ctD, Fm.d, pD]; decide)
    · obtain ⟨g, o⟩ := a
      simp only at e
      subst e
      simp only [Function.comp, ctD, Fm.d, gD]
  have e2 : ∀ (u2 u7 u8 : Option U) (h : List O), ex G (run G F (dsOf dd) (k + n + 1)) F s__law_is_light_0 [some (.d f.d), some (.d (.int (manyF f))), u2, none, none, some (.d (.list ((cntF 1 f).map ctD))), some (.d (.int (nestF f))), u7, u8, none, none, none] h = .nx [some (.d f.d), some (.d (.int (manyF f))), u2, some (.d (.list ((divsF (atsF f)).map .int))), none, some (.d (.list ((cntF 1 f).map ctD))), some (.d (.int (nestF f))), u7, u8, none, none, none] h := fun u2 u7 u8 h => by
    have q : ev G (run G F (dsOf dd) (k + n + 1)) (.lc false (.tup (.cons (.nm 7) (.cons (.nm 8) .nil))) (.seq (.var 5)) (.yes (.cmp .eq (.ix (.var 7) (.int 0)) (.str "div"))) (.ix (.var 7) (.int 1))) [some (.d f.d), some (.d (.int (manyF f))), u2, none, none, some (.d (.list ((cntF 1 f).map ctD))), some (.d (.int (nestF f))), u7, u8, none, none, none] h = mkL false ((divsF (atsF f)).map .int) h := by
      rw [← hdv]
      refine ev_lcpD (h1 := h) ((cntF 1 f).map ctD) pD gD (by simp [ev, tv, evs, evo, evc, evw, evV, evC, evT, ev2, ev1, evCh, evB, evIf, evNil, evCons, evTup, evLst, evCall, evSl, evNo, evPart, vAnd, vOr, vNot, tAndE, tOrE, tNotE, binU, cmpU, biU, meU, g1, g2, maxG, minG, Es.len, Tg.slots, Tgs.slots, ex, exs, exh, sNx, sBk, sCt, sSeq, sDrop, sRet, sRetN, sAsg, sPar2, sPar3, sSub, sIf, sRaise, asg, asgs, R.bind_ok, R.bind_err, R.bind_bad, R.stm_ok, R.stm_err, R.stm_bad, opt_some, opt_none, noErr_ok, noErr_bad, leave_d, leave_n, leave_e, leave_da, mkL_f, tru, truU, truD, asB, asBo, srcU, -List.map_map]) (by simp; omega) (fun x hx => ?_)
      obtain ⟨a, ha, rfl⟩ := List.mem_map.mp hx
      obtain ⟨b1, _, _⟩ := hat a ha
      obtain ⟨g, o⟩ := a
      refine ⟨[some (.d f.d), some (.d (.int (manyF f))), u2, none, none, some (.d (.list ((cntF 1 f).map ctD))), some (.d (.int (nestF f))), some (.d g.d), some (.d (.int o)), none, none, none], rfl, fun acc => ?_⟩
      cases g <;> first | (cases b1; done) | (refine ⟨by simp (decide := true) [ev, tv, evs, evo, evc, evw, evV, evC, evT, ev2, ev1, evCh, evB, evIf, evNil, evCons, evTup, evLst, evCall, evSl, evNo, evPart, vAnd, vOr, vNot, tAndE, tOrE, tNotE, binU, cmpU, biU, meU, g1, g2, maxG, minG, Es.len, Tg.slots, Tgs.slots, ex, exs, exh, sNx, sBk, sCt, sSeq, sDrop, sRet, sRetN, sAsg, sPar2, sPar3, sSub, sIf, sRaise, asg, asgs, R.bind_ok, R.bind_err, R.bind_bad, R.stm_ok, R.stm_err, R.stm_bad, opt_some, opt_none, noErr_ok, noErr_bad, leave_d, leave_n, leave_e, leave_da, mkL_f, tru, truU, truD, asB, asBo, getU_t0, getU_t1, getU_t2, getU_t3, getU_l0, getU_l1, getU_l2, getU_m1, getU_m2, getU_m3, eqU_i, eqU_s, eqU_b, eqU_nil, eqU_nilL, eqv_ii, eqv_ss, eqv_tnil, eqv_lnil, bool_bne, lenU_t, lenU_l, tupleU_l, tupleU_t, isiU, tyN, isaB, tyNames, cmpI, negU, srcK_d, srcU, Fm.d, ctD, pD], fun z => by first | (simp (decide := true) [ctD, Fm.d, pD] at z; done) | simp [ev, tv, evs, evo, evc, evw, evV, evC, evT, ev2, ev1, evCh, evB, evIf, evNil, evCons, evTup, evLst, evCall, evSl, evNo, evPart, vAnd, vOr, vNot, tAndE, tOrE, tNotE, binU, cmpU, biU, meU, g1, g2, maxG, minG, Es.len, Tg.slots, Tgs.slots, ex, exs, exh, sNx, sBk, sCt, sSeq, sDrop, sRet, sRetN, sAsg, sPar2, sPar3, sSub, sIf, sRaise, asg, asgs, R.bind_ok, R.bind_err, R.bind_bad, R.stm_ok, R.stm_err, R.stm_bad, opt_some, opt_none, noErr_ok, noErr_bad, leave_d, leave_n, leave_e, leave_da, mkL_f, tru, truU, truD, asB, asBo, getU_t0, getU_t1, getU_t2, getU_t3, getU_l0, getU_l1, getU_l2, getU_m1, getU_m2, getU_m3, eqU_i, eqU_s, eqU_b, eqU_nil, eqU_nilL, eqv_ii, eqv_ss, eqv_tnil, eqv_lnil, bool_bne, lenU_t, lenU_l, tupleU_l, tupleU_t, isiU, tyN, isaB, tyNames, cmpI, negU, srcK_d, srcU, Fm.d, ctD, gD]⟩)
    show sAsg (ev G (run G F (dsOf dd) (k + n + 1)) (.lc false (.tup (.cons (.nm 7) (.cons (.nm 8) .nil))) (.seq (.var 5)) (.yes (.cmp .eq (.ix (.var 7) (.int 0)) (.str "div"))) (.ix (.var 7) (.int 1)))) (.nm 3) _ _ = _
    unfold sAsg
    rw [q, mkL_f]; rfl
  have hN : (numsF (atsF f)).length ≤ 200 * 1000 := by
    have := nums_len (atsF f) 200 (fun b hb => by
      obtain ⟨c, hc, rfl⟩ := List.mem_map.mp hb
      exact (hat c hc).2.1)
    have h3 : (atsF f).length ≤ 1000 := by unfold atsF; rw [List.length_map]; omega
    exact Nat.le_trans this (Nat.mul_le_mul_left _ h3)
  have hDl : (divsF (atsF f)).length ≤ 1000 := by
    have := congrArg List.length hdv
    rw [List.length_map, List.length_map] at this
    have h2 := List.length_filter_le pD ((cntF 1 f).map ctD)
    rw [List.length_map] at h2
    omega
  have hadd : ∀ h, addU false (.d (.list [.int 0])) (.d (.list ((numsF (atsF f)).map fun (n : Nat) => PyData.int (n : Int)))) h = .ok (.d (.list (.int 0 :: (numsF (atsF f)).map fun (n : Nat) => PyData.int (n : Int)))) h := fun h => by
    rw [addU_l (by simp; omega), mkL_f]; rfl
  have hmax : ∀ h, maxG [.d (.list (.int 0 :: (numsF (atsF f)).map fun (n : Nat) => PyData.int (n : Int)))] h = .ok (.d (.int (maxN (numsF (atsF f)) : Nat))) h := fun h => by
    have e1 : intsOf (.int 0 :: (numsF (atsF f)).map fun (n : Nat) => PyData.int (n : Int)) = some (0 :: (numsF (atsF f)).map fun (n : Nat) => (n : Int)) := by
      have := intsOf_map (0 :: (numsF (atsF f)).map fun (n : Nat) => (n : Int))
      rw [List.map_cons, List.map_map] at this; exact this
    have e3 := maxL_cast (numsF (atsF f)) 0
    have e4 : maxN (0 :: numsF (atsF f)) = maxN (numsF (atsF f)) := by unfold maxN; rw [List.foldr_cons]; omega
    rw [e4] at e3
    have e5 : maxL 0 ((numsF (atsF f)).map (fun (n : Nat) => (n : Int))) = ((maxN (numsF (atsF f)) : Nat) : Int) := e3
    simp only [maxG, maxU, Py.listOf, Option.bind_some, e1, opt_some, R.bind_ok, e5]
  have c0 : ∀ h, ev G (run G F (dsOf dd) (k + n + 1)) c__law_is_light_0 [some (.d f.d), some (.d (.int (manyF f))), some (.d (.list ((numsF (atsF f)).map fun (n : Nat) => PyData.int (n : Int)))), some (.d (.list ((divsF (atsF f)).map .int))), some (.d (.int (maxN (numsF (atsF f)) : Nat))), some (.d (.list ((cntF 1 f).map ctD))), some (.d (.int (nestF f))), u7, u8, none, none, none] h = mkL false (((divsF (atsF f)).filter fun d => decide (3 < d)).map .int) h := fun h => by
    refine (ev_lcpD (m := false) (t := .nm 9) (w := .seq (.var 3)) (c := .cmp .gt (.var 9) (.int 3)) (e := .var 9) (σ := [some (.d f.d), some (.d (.int (manyF f))), some (.d (.list ((numsF (atsF f)).map fun (n : Nat) => PyData.int (n : Int)))), some (.d (.list ((divsF (atsF f)).map .int))), some (.d (.int (maxN (numsF (atsF f)) : Nat))), some (.d (.list ((cntF 1 f).map ctD))), some (.d (.int (nestF f))), u7, u8, none, none, none]) (h := h) (h1 := h) ((divsF (atsF f)).map .int) (fun x => decide (3 < (asI (.d x)).getD 0)) id (by simp [ev, tv, evs, evo, evc, evw, evV, evC, evT, ev2, ev1, evCh, evB, evIf, evNil, evCons, evTup, evLst, evCall, evSl, evNo, evPart, vAnd, vOr, vNot, tAndE, tOrE, tNotE, binU, cmpU, biU, meU, g1, g2, maxG, minG, Es.len, Tg.slots, Tgs.slots, ex, exs, exh, sNx, sBk, sCt, sSeq, sDrop, sRet, sRetN, sAsg, sPar2, sPar3, sSub, sIf, sRaise, asg, asgs, R.bind_ok, R.bind_err, R.bind_bad, R.stm_ok, R.stm_err, R.stm_bad, opt_some, opt_none, noErr_ok, noErr_bad, leave_d, leave_n, leave_e, leave_da, mkL_f, tru, truU, truD, asB, asBo, srcU]) (by simp; omega) (fun x hx => ?_)).trans (by rw [List.map_id, List.filter_map]; rfl)
    obtain ⟨i, _, rfl⟩ := List.mem_map.mp hx
    refine ⟨[some (.d f.d), some (.d (.int (manyF f))), some (.d (.list ((numsF (atsF f)).map fun (n : Nat) => PyData.int (n : Int)))), some (.d (.list ((divsF (atsF f)).map .int))), some (.d (.int (maxN (numsF (atsF f)) : Nat))), some (.d (.list ((cntF 1 f).map ctD))), some (.d (.int (nestF f))), u7, u8, some (.d (.int i)), none, none], rfl, fun acc => ⟨?_, fun _ => ?_⟩⟩
    · by_cases hi : 3 < i <;> simp [ev, tv, evs, evo, evc, evw, evV, evC, evT, ev2, ev1, evCh, evB, evIf, evNil, evCons, evTup, evLst, evCall, evSl, evNo, evPart, vAnd, vOr, vNot, tAndE, tOrE, tNotE, binU, cmpU, biU, meU, g1, g2, maxG, minG, Es.len, Tg.slots, Tgs.slots, ex, exs, exh, sNx, sBk, sCt, sSeq, sDrop, sRet, sRetN, sAsg, sPar2, sPar3, sSub, sIf, sRaise, asg, asgs, R.bind_ok, R.bind_err, R.bind_bad, R.stm_ok, R.stm_err, R.stm_bad, opt_some, opt_none, noErr_ok, noErr_bad, leave_d, leave_n, leave_e, leave_da, mkL_f, tru, truU, truD, asB, asBo, getU_t0, getU_t1, getU_t2, getU_t3, getU_l0, getU_l1, getU_l2, getU_m1, getU_m2, getU_m3, eqU_i, eqU_s, eqU_b, eqU_nil, eqU_nilL, eqv_ii, eqv_ss, eqv_tnil, eqv_lnil, bool_bne, lenU_t, lenU_l, tupleU_l, tupleU_t, isiU, tyN, isaB, tyNames, cmpI, negU, srcK_d, srcU, asI, hi]
    · simp [ev, tv, evs, evo, evc, evw, evV, evC, evT, ev2, ev1, evCh, evB, evIf, evNil, evCons, evTup, evLst, evCall, evSl, evNo, evPart, vAnd, vOr, vNot, tAndE, tOrE, tNotE, binU, cmpU, biU, meU, g1, g2, maxG, minG, Es.len, Tg.slots, Tgs.slots, ex, exs, exh, sNx, sBk, sCt, sSeq, sDrop, sRet, sRetN, sAsg, sPar2, sPar3, sSub, sIf, sRaise, asg, asgs, R.bind_ok, R.bind_err, R.bind_bad, R.stm_ok, R.stm_err, R.stm_bad, opt_some, opt_none, noErr_ok, noErr_bad, leave_d, leave_n, leave_e, leave_da, mkL_f, tru, truU, truD, asB, asBo]
  have hl3 := light3 (atsF f) (fun a ha m c ps e => by
    obtain ⟨b, hb, rfl⟩ := List.mem_map.mp ha
    have := (hat b hb).2.2.good
    rw [e] at this
    exact this.1)
  have hl1 := light1 (atsF f)
  have e1' : ex G (run G F (dsOf dd) (k + n + 1)) F f__law_is_light_0 [some (.d f.d), some (.d (.int (manyF f))), some (.d (.list [])), none, none, some (.d (.list ((cntF 1 f).map ctD))), some (.d (.int (nestF f))), none, none, none, none, none] h' = .nx [some (.d f.d), some (.d (.int (manyF f))), some (.d (.list ((numsF (atsF f)).map fun (n : Nat) => PyData.int (n : Int)))), none, none, some (.d (.list ((cntF 1 f).map ctD))), some (.d (.int (nestF f))), u7, u8, none, none, none] h' := e1
  unfold lightF
  rw [hl3, hl1]
  have em : ∀ l : List Int, (l.map PyData.int).isEmpty = l.isEmpty := fun l => by cases l <;> rfl
  have eqn : ∀ l : List Int, Py.eqU false (.d (.list (l.map .int))) (.d (.list [])) h' = .ok (.d (.bool l.isEmpty)) h' := fun l => by rw [eqU_nilL, eqv_lnil, em, bool_bne]
  have eB : exs G (run G F (dsOf dd) (k + n + 1)) F b__law_is_light [some (.d f.d), none, none, none, none, none, none, none, none, none, none, none] h' = .ret (.d (.bool (decide (manyF f ≤ 8) && decide (nestF f ≤ 1) && (decide (maxN (numsF (atsF f)) ≤ 3) && ((divsF (atsF f)).filter fun d => decide (3 < d)).isEmpty) || decide (manyF f ≤ 5) && decide (nestF f ≤ 2) && (decide (maxN (numsF (atsF f)) ≤ 1) && (divsF (atsF f)).isEmpty)))) h' := by
    refine exs_seq (σ1 := [some (.d f.d), none, none, none, none, some (.d (.list ((cntF 1 f).map ctD))), some (.d (.int (nestF f))), none, none, none, none, none]) (h1 := h') (by simp [evCl_0, evCl_1, evCl_2, evCl_3, evCl_4, evCl_k, evCl_k2, evCl_k2r, evCl_k3r, ev, tv, evs, evo, evc, evw, evV, evC, evT, ev2, ev1, evCh, evB, evIf, evNil, evCons, evTup, evLst, evCall, evSl, evNo, evPart, vAnd, vOr, vNot, tAndE, tOrE, tNotE, binU, cmpU, biU, meU, g1, g2, maxG, minG, Es.len, Tg.slots, Tgs.slots, ex, exs, exh, sNx, sBk, sCt, sSeq, sDrop, sRet, sRetN, sAsg, sPar2, sPar3, sSub, sIf, sRaise, asg, asgs, R.bind_ok, R.bind_err, R.bind_bad, R.stm_ok, R.stm_err, R.stm_bad, opt_some, opt_none, noErr_ok, noErr_bad, leave_d, leave_n, leave_e, leave_da, mkL_f, tru, truU, truD, asB, asBo, a1, a2]) ?_
    refine exs_seq (σ1 := [some (.d f.d), some (.d (.int (manyF f))), none, none, none, some (.d (.list ((cntF 1 f).map ctD))), some (.d (.int (nestF f))), none, none, none, none, none]) (h1 := h') (by simp [evCl_0, evCl_1, evCl_2, evCl_3, evCl_4, evCl_k, evCl_k2, evCl_k2r, evCl_k3r, ev, tv, evs, evo, evc, evw, evV, evC, evT, ev2, ev1, evCh, evB, evIf, evNil, evCons, evTup, evLst, evCall, evSl, evNo, evPart, vAnd, vOr, vNot, tAndE, tOrE, tNotE, binU, cmpU, biU, meU, g1, g2, maxG, minG, Es.len, Tg.slots, Tgs.slots, ex, exs, exh, sNx, sBk, sCt, sSeq, sDrop, sRet, sRetN, sAsg, sPar2, sPar3, sSub, sIf, sRaise, asg, asgs, R.bind_ok, R.bind_err, R.bind_bad, R.stm_ok, R.stm_err, R.stm_bad, opt_some, opt_none, noErr_ok, noErr_bad, leave_d, leave_n, leave_e, leave_da, mkL_f, tru, truU, truD, asB, asBo, c2, q2, -List.map_map]) ?_
    refine exs_seq (σ1 := [some (.d f.d), some (.d (.int (manyF f))), some (.d (.list [])), none, none, some (.d (.list ((cntF 1 f).map ctD))), some (.d (.int (nestF f))), none, none, none, none, none]) (h1 := h') (by simp [evCl_0, evCl_1, evCl_2, evCl_3, evCl_4, evCl_k, evCl_k2, evCl_k2r, evCl_k3r, ev, tv, evs, evo, evc, evw, evV, evC, evT, ev2, ev1, evCh, evB, evIf, evNil, evCons, evTup, evLst, evCall, evSl, evNo, evPart, vAnd, vOr, vNot, tAndE, tOrE, tNotE, binU, cmpU, biU, meU, g1, g2, maxG, minG, Es.len, Tg.slots, Tgs.slots, ex, exs, exh, sNx, sBk, sCt, sSeq, sDrop, sRet, sRetN, sAsg, sPar2, sPar3, sSub, sIf, sRaise, asg, asgs, R.bind_ok, R.bind_err, R.bind_bad, R.stm_ok, R.stm_err, R.stm_bad, opt_some, opt_none, noErr_ok, noErr_bad, leave_d, leave_n, leave_e, leave_da, mkL_f, tru, truU, truD, asB, asBo, pures]) ?_
    refine exs_seq e1' (exs_seq (e2 _ _ _ h') ?_)
    refine exs_seq (σ1 := [some (.d f.d), some (.d (.int (manyF f))), some (.d (.list ((numsF (atsF f)).map fun (n : Nat) => PyData.int (n : Int)))), some (.d (.list ((divsF (atsF f)).map .int))), some (.d (.int (maxN (numsF (atsF f)) : Nat))), some (.d (.list ((cntF 1 f).map ctD))), some (.d (.int (nestF f))), u7, u8, none, none, none]) (h1 := h') (by simp [evCl_0, evCl_1, evCl_2, evCl_3, evCl_4, evCl_k, evCl_k2, evCl_k2r, evCl_k3r, ev, tv, evs, evo, evc, evw, evV, evC, evT, ev2, ev1, evCh, evB, evIf, evNil, evCons, evTup, evLst, evCall, evSl, evNo, evPart, vAnd, vOr, vNot, tAndE, tOrE, tNotE, binU, cmpU, biU, meU, g1, g2, maxG, minG, Es.len, Tg.slots, Tgs.slots, ex, exs, exh, sNx, sBk, sCt, sSeq, sDrop, sRet, sRetN, sAsg, sPar2, sPar3, sSub, sIf, sRaise, asg, asgs, R.bind_ok, R.bind_err, R.bind_bad, R.stm_ok, R.stm_err, R.stm_bad, opt_some, opt_none, noErr_ok, noErr_bad, leave_d, leave_n, leave_e, leave_da, mkL_f, tru, truU, truD, asB, asBo, pures, hadd, hmax, -maxG, -List.map_map]) ?_
    have c0' := c0 h'
    have en3 := eqn ((divsF (atsF f)).filter fun d => decide (3 < d))
    have en1 := eqn (divsF (atsF f))
    generalize ((divsF (atsF f)).filter fun d => decide (3 < d)).map PyData.int = X3 at *
    generalize ((divsF (atsF f)).filter fun d => decide (3 < d)).isEmpty = z3 at *
    generalize (divsF (atsF f)).map PyData.int = X1 at *
    generalize (divsF (atsF f)).isEmpty = z1 at *
    generalize maxN (numsF (atsF f)) = mx at *
    generalize nestF f = nf at *
    generalize manyF f = mm at *
    have y1' : ((nf : Int) ≤ 1) ↔ nf ≤ 1 := by omega
    have y2' : ((nf : Int) ≤ 2) ↔ nf ≤ 2 := by omega
    have w3' : ((mx : Int) ≤ 3) ↔ mx ≤ 3 := by omega
    have w1' : ((mx : Int) ≤ 1) ↔ mx ≤ 1 := by omega
    by_cases x8 : mm ≤ 8 <;> by_cases x5 : mm ≤ 5 <;> by_cases y1 : nf ≤ 1 <;> by_cases y2 : nf ≤ 2 <;> by_cases w3 : mx ≤ 3 <;> by_cases w1 : mx ≤ 1 <;>
      first
      | (exfalso; omega)
      | (cases z3 <;> cases z1 <;> simp [evCl_0, evCl_1, evCl_2, evCl_3, evCl_4, evCl_k, evCl_k2, evCl_k2r, evCl_k3r, ev, tv, evs, evo, evc, evw, evV, evC, evT, ev2, ev1, evCh, evB, evIf, evNil, evCons, evTup, evLst, evCall, evSl, evNo, evPart, vAnd, vOr, vNot, tAndE, tOrE, tNotE, binU, cmpU, biU, meU, g1, g2, maxG, minG, Es.len, Tg.slots, Tgs.slots, ex, exs, exh, sNx, sBk, sCt, sSeq, sDrop, sRet, sRetN, sAsg, sPar2, sPar3, sSub, sIf, sRaise, asg, asgs, R.bind_ok, R.bind_err, R.bind_bad, R.stm_ok, R.stm_err, R.stm_bad, opt_some, opt_none, noErr_ok, noErr_bad, leave_d, leave_n, leave_e, leave_da, mkL_f, tru, truU, truD, asB, asBo, cmpI, x8, x5, y1', y2', w3', w1', y1, y2, w3, w1, pures, c0', en3, en1])
  rw [eB]
  simp [leave, outU]

end K19

namespace K19
open PySem PySem.Spec PyProof.Rows L2 Py

variable {F k : Nat}
theorem DF.lean' {m : Int} (hm : m ≤ 9) {s : Nat} {f : Fm} (h : DF m s f) (hs : s ≤ 1000) : Lean f := by
  refine ⟨by have := h.pl; omega, fun v hv => ?_, by have := h.sz; omega⟩
  unfold Fm.vars at hv
  rcases List.mem_append.mp hv with hv | hv
  · obtain ⟨a, ha, hv⟩ := List.mem_flatMap.mp hv
    obtain ⟨p, hp, rfl⟩ := List.mem_map.mp hv
    have := h.av a ha p hp; omega
  · have := h.bd v hv; omega
theorem p_light {s : Nat} {f : Fm} (h : DG 3 s 12 f) (hs : s ≤ 60) (hF : 4000 ≤ F) (hh : List O) : run G F (dsOf dd) (k + 30) "is_light" [.d f.d] hh = .ok (.d (.bool (lightF f))) hh := by
  have sm := h.small (by decide) hs (by decide)
  have q := fun hh => p_small (F := F) f h.1.ok (DF.lean' (by decide) h.1 (by omega)) (formB_ok f h.1.ok) (by have := h.1.bg; omega) (by have := h.1.bg; omega) 12 (k + 8) hh h.2
  rw [sm] at q
  have q2 := p_light_one (F := F) f h.1.ok (by have := h.1.sz; omega) (fun a ha => by
    have := sum_mem (List.mem_map.mpr ⟨a, ha, rfl⟩ : a.pairs.length ∈ f.atoms.map fun a => a.pairs.length)
    have := h.1.pl; omega) 12 (k + 12) hh h.2
  simp only [Nat.add_assoc, Nat.reduceAdd] at q q2
  rw [r_is_light]
  have q3 : ∀ hh, run G F (dsOf dd) (k + 29) "need_formula" [.d f.d] hh = .ok (.d .none) hh := fun hh => by
    rw [r_need_formula]
    simp [b_need_formula, evCl_0, evCl_1, evCl_2, evCl_3, evCl_4, evCl_k, evCl_k2, evCl_k2r, evCl_k3r, ev, tv, evs, evo, evc, evw, evV, evC, evT, ev2, ev1, evCh, evB, evIf, evNil, evCons, evTup, evLst, evCall, evSl, evNo, evPart, vAnd, vOr, vNot, tAndE, tOrE, tNotE, binU, cmpU, biU, meU, g1, g2, maxG, minG, Es.len, Tg.slots, Tgs.slots, ex, exs, exh, sNx, sBk, sCt, sSeq, sDrop, sRet, sRetN, sAsg, sPar2, sPar3, sSub, sIf, sRaise, asg, asgs, R.bind_ok, R.bind_err, R.bind_bad, R.stm_ok, R.stm_err, R.stm_bad, opt_some, opt_none, noErr_ok, noErr_bad, leave_d, leave_n, leave_e, leave_da, mkL_f, tru, truU, truD, asB, asBo, getU_t0, getU_t1, getU_t2, getU_t3, getU_l0, getU_l1, getU_l2, getU_m1, getU_m2, getU_m3, eqU_i, eqU_s, eqU_b, eqU_nil, eqU_nilL, eqv_ii, eqv_ss, eqv_tnil, eqv_lnil, bool_bne, lenU_t, lenU_l, tupleU_l, tupleU_t, isiU, tyN, isaB, tyNames, cmpI, negU, srcK_d, srcU, q]
  simp [b_is_light, evCl_0, evCl_1, evCl_2, evCl_3, evCl_4, evCl_k, evCl_k2, evCl_k2r, evCl_k3r, ev, tv, evs, evo, evc, evw, evV, evC, evT, ev2, ev1, evCh, evB, evIf, evNil, evCons, evTup, evLst, evCall, evSl, evNo, evPart, vAnd, vOr, vNot, tAndE, tOrE, tNotE, binU, cmpU, biU, meU, g1, g2, maxG, minG, Es.len, Tg.slots, Tgs.slots, ex, exs, exh, sNx, sBk, sCt, sSeq, sDrop, sRet, sRetN, sAsg, sPar2, sPar3, sSub, sIf, sRaise, asg, asgs, R.bind_ok, R.bind_err, R.bind_bad, R.stm_ok, R.stm_err, R.stm_bad, opt_some, opt_none, noErr_ok, noErr_bad, leave_d, leave_n, leave_e, leave_da, mkL_f, tru, truU, truD, asB, asBo, getU_t0, getU_t1, getU_t2, getU_t3, getU_l0, getU_l1, getU_l2, getU_m1, getU_m2, getU_m3, eqU_i, eqU_s, eqU_b, eqU_nil, eqU_nilL, eqv_ii, eqv_ss, eqv_tnil, eqv_lnil, bool_bne, lenU_t, lenU_l, tupleU_l, tupleU_t, isiU, tyN, isaB, tyNames, cmpI, negU, srcK_d, srcU, q3, q2]
theorem iBF : ("BadFormula" : Str) ∈ G.gx := by decide +kernel
theorem mBW : exmB G "BadFormula" "WholeError" = true := by decide +kernel
theorem mBB : exmB G "BadFormula" "BadFormula" = true := by decide +kernel
theorem p_raised {d : D} (hq : ∀ h, run G F (dsOf dd) (k + 28) "is_small" [.d d] h = .ok (.d (.bool false)) h) (h : List O) : run G F (dsOf dd) (k + 31) "_law_raised" [.d d] h = .ok (.d (.bool true)) h := by
  have e1 : ∀ h, run G F (dsOf dd) (k + 29) "need_formula" [.d d] h = .err "BadFormula" h := fun h => by
    rw [r_need_formula]
    simp [b_need_formula, evCl_0, evCl_1, evCl_2, evCl_3, evCl_4, evCl_k, evCl_k2, evCl_k2r, evCl_k3r, ev, tv, evs, evo, evc, evw, evV, evC, evT, ev2, ev1, evCh, evB, evIf, evNil, evCons, evTup, evLst, evCall, evSl, evNo, evPart, vAnd, vOr, vNot, tAndE, tOrE, tNotE, binU, cmpU, biU, meU, g1, g2, maxG, minG, Es.len, Tg.slots, Tgs.slots, ex, exs, exh, sNx, sBk, sCt, sSeq, sDrop, sRet, sRetN, sAsg, sPar2, sPar3, sSub, sIf, sRaise, asg, asgs, R.bind_ok, R.bind_err, R.bind_bad, R.stm_ok, R.stm_err, R.stm_bad, opt_some, opt_none, noErr_ok, noErr_bad, leave_d, leave_n, leave_e, leave_da, mkL_f, tru, truU, truD, asB, asBo, getU_t0, getU_t1, getU_t2, getU_t3, getU_l0, getU_l1, getU_l2, getU_m1, getU_m2, getU_m3, eqU_i, eqU_s, eqU_b, eqU_nil, eqU_nilL, eqv_ii, eqv_ss, eqv_tnil, eqv_lnil, bool_bne, lenU_t, lenU_l, tupleU_l, tupleU_t, isiU, tyN, isaB, tyNames, cmpI, negU, srcK_d, srcU, hq]
  have e2 : ∀ h, run G F (dsOf dd) (k + 30) "is_light" [.d d] h = .err "BadFormula" h := fun h => by
    rw [r_is_light]
    simp [b_is_light, evCl_0, evCl_1, evCl_2, evCl_3, evCl_4, evCl_k, evCl_k2, evCl_k2r, evCl_k3r, ev, tv, evs, evo, evc, evw, evV, evC, evT, ev2, ev1, evCh, evB, evIf, evNil, evCons, evTup, evLst, evCall, evSl, evNo, evPart, vAnd, vOr, vNot, tAndE, tOrE, tNotE, binU, cmpU, biU, meU, g1, g2, maxG, minG, Es.len, Tg.slots, Tgs.slots, ex, exs, exh, sNx, sBk, sCt, sSeq, sDrop, sRet, sRetN, sAsg, sPar2, sPar3, sSub, sIf, sRaise, asg, asgs, R.bind_ok, R.bind_err, R.bind_bad, R.stm_ok, R.stm_err, R.stm_bad, opt_some, opt_none, noErr_ok, noErr_bad, leave_d, leave_n, leave_e, leave_da, mkL_f, tru, truU, truD, asB, asBo, getU_t0, getU_t1, getU_t2, getU_t3, getU_l0, getU_l1, getU_l2, getU_m1, getU_m2, getU_m3, eqU_i, eqU_s, eqU_b, eqU_nil, eqU_nilL, eqv_ii, eqv_ss, eqv_tnil, eqv_lnil, bool_bne, lenU_t, lenU_l, tupleU_l, tupleU_t, isiU, tyN, isaB, tyNames, cmpI, negU, srcK_d, srcU, e1]
  rw [r__law_raised]
  simp [b__law_raised, evCl_0, evCl_1, evCl_2, evCl_3, evCl_4, evCl_k, evCl_k2, evCl_k2r, evCl_k3r, ev, tv, evs, evo, evc, evw, evV, evC, evT, ev2, ev1, evCh, evB, evIf, evNil, evCons, evTup, evLst, evCall, evSl, evNo, evPart, vAnd, vOr, vNot, tAndE, tOrE, tNotE, binU, cmpU, biU, meU, g1, g2, maxG, minG, Es.len, Tg.slots, Tgs.slots, ex, exs, exh, sNx, sBk, sCt, sSeq, sDrop, sRet, sRetN, sAsg, sPar2, sPar3, sSub, sIf, sRaise, asg, asgs, R.bind_ok, R.bind_err, R.bind_bad, R.stm_ok, R.stm_err, R.stm_bad, opt_some, opt_none, noErr_ok, noErr_bad, leave_d, leave_n, leave_e, leave_da, mkL_f, tru, truU, truD, asB, asBo, getU_t0, getU_t1, getU_t2, getU_t3, getU_l0, getU_l1, getU_l2, getU_m1, getU_m2, getU_m3, eqU_i, eqU_s, eqU_b, eqU_nil, eqU_nilL, eqv_ii, eqv_ss, eqv_tnil, eqv_lnil, bool_bne, lenU_t, lenU_l, tupleU_l, tupleU_t, isiU, tyN, isaB, tyNames, cmpI, negU, srcK_d, srcU, e2, sTryIs, iBF, mBW, mBB]
theorem not_small {d : D} (hd : formB d = false) (hb : big d ≤ 1000000) (hF : big d + 1 ≤ F) (h : List O) : run G F (dsOf dd) (k + 28) "is_small" [.d d] h = .ok (.d (.bool false)) h := p_small_not (F := F) (k := k + 20) d hd hb hF h
theorem not_small' {m : Int} (hm : m ≤ 63 - 1) {s : Nat} {f : Fm} (hf : DF m s f) (hl : Lean f) (hn : f.deep ≤ 70) (hs : f.small = false) (hF : 60 * s + 1 ≤ F) (hs2 : s ≤ 1000) (h : List O) : run G F (dsOf dd) (k + 78) "is_small" [.d f.d] h = .ok (.d (.bool false)) h := by
  have q := p_small (F := F) f hf.ok hl (formB_ok f hf.ok) (by have := hf.bg; omega) (by have := hf.bg; omega) 70 k h hn
  rw [hs] at q
  exact q

end K19

namespace K19
open PySem PySem.Spec PyProof.Rows L2 Py

variable {F k : Nat}
def inW (a b : Int) : D → Bool
  | .int v => decide (a ≤ v) && decide (v ≤ b)
  | _ => false
theorem p_within (d : D) (a b : Int) (h : List O) : run G F (dsOf dd) (k + 2) "within" [.d d, .d (.int a), .d (.int b)] h = .ok (.d (.bool (inW a b d))) h := by
  rw [r_within]
  cases d
  case int i => by_cases h1 : a ≤ i <;> simp [b_within, evCl_0, evCl_1, evCl_2, evCl_3, evCl_4, evCl_k, evCl_k2, evCl_k2r, evCl_k3r, ev, tv, evs, evo, evc, evw, evV, evC, evT, ev2, ev1, evCh, evB, evIf, evNil, evCons, evTup, evLst, evCall, evSl, evNo, evPart, vAnd, vOr, vNot, tAndE, tOrE, tNotE, binU, cmpU, biU, meU, g1, g2, maxG, minG, Es.len, Tg.slots, Tgs.slots, ex, exs, exh, sNx, sBk, sCt, sSeq, sDrop, sRet, sRetN, sAsg, sPar2, sPar3, sSub, sIf, sRaise, asg, asgs, R.bind_ok, R.bind_err, R.bind_bad, R.stm_ok, R.stm_err, R.stm_bad, opt_some, opt_none, noErr_ok, noErr_bad, leave_d, leave_n, leave_e, leave_da, mkL_f, tru, truU, truD, asB, asBo, getU_t0, getU_t1, getU_t2, getU_t3, getU_l0, getU_l1, getU_l2, getU_m1, getU_m2, getU_m3, eqU_i, eqU_s, eqU_b, eqU_nil, eqU_nilL, eqv_ii, eqv_ss, eqv_tnil, eqv_lnil, bool_bne, lenU_t, lenU_l, tupleU_l, tupleU_t, isiU, tyN, isaB, tyNames, cmpI, negU, srcK_d, srcU, p_is_int, isI, inW, h1, evCh]
  all_goals simp [b_within, evCl_0, evCl_1, evCl_2, evCl_3, evCl_4, evCl_k, evCl_k2, evCl_k2r, evCl_k3r, ev, tv, evs, evo, evc, evw, evV, evC, evT, ev2, ev1, evCh, evB, evIf, evNil, evCons, evTup, evLst, evCall, evSl, evNo, evPart, vAnd, vOr, vNot, tAndE, tOrE, tNotE, binU, cmpU, biU, meU, g1, g2, maxG, minG, Es.len, Tg.slots, Tgs.slots, ex, exs, exh, sNx, sBk, sCt, sSeq, sDrop, sRet, sRetN, sAsg, sPar2, sPar3, sSub, sIf, sRaise, asg, asgs, R.bind_ok, R.bind_err, R.bind_bad, R.stm_ok, R.stm_err, R.stm_bad, opt_some, opt_none, noErr_ok, noErr_bad, leave_d, leave_n, leave_e, leave_da, mkL_f, tru, truU, truD, asB, asBo, getU_t0, getU_t1, getU_t2, getU_t3, getU_l0, getU_l1, getU_l2, getU_m1, getU_m2, getU_m3, eqU_i, eqU_s, eqU_b, eqU_nil, eqU_nilL, eqv_ii, eqv_ss, eqv_tnil, eqv_lnil, bool_bne, lenU_t, lenU_l, tupleU_l, tupleU_t, isiU, tyN, isaB, tyNames, cmpI, negU, srcK_d, srcU, p_is_int, isI, inW]
def sideB (w : Str) : Bool := [PyData.str "low", .str "high", .str "few"].any fun z => PyData.eqv z (.str w)
def planB : D → Bool
  | .tuple [.str w, d] => sideB w && inW 0 64 d
  | _ => false
theorem tup_SIDES : G.tup "SIDES" = some [.str "low", .str "high", .str "few"] := by rfl
theorem p_is_plan (d : D) (h : List O) : run G F (dsOf dd) (k + 3) "is_plan" [.d d] h = .ok (.d (.bool (planB d))) h := by
  rw [r_is_plan]
  cases hr : rowB 2 2 d with
  | false =>
    have : planB d = false := by
      unfold planB
      split
      · simp [rowB] at hr
      · rfl
    rw [this]
    simp [b_is_plan, evCl_0, evCl_1, evCl_2, evCl_3, evCl_4, evCl_k, evCl_k2, evCl_k2r, evCl_k3r, ev, tv, evs, evo, evc, evw, evV, evC, evT, ev2, ev1, evCh, evB, evIf, evNil, evCons, evTup, evLst, evCall, evSl, evNo, evPart, vAnd, vOr, vNot, tAndE, tOrE, tNotE, binU, cmpU, biU, meU, g1, g2, maxG, minG, Es.len, Tg.slots, Tgs.slots, ex, exs, exh, sNx, sBk, sCt, sSeq, sDrop, sRet, sRetN, sAsg, sPar2, sPar3, sSub, sIf, sRaise, asg, asgs, R.bind_ok, R.bind_err, R.bind_bad, R.stm_ok, R.stm_err, R.stm_bad, opt_some, opt_none, noErr_ok, noErr_bad, leave_d, leave_n, leave_e, leave_da, mkL_f, tru, truU, truD, asB, asBo, getU_t0, getU_t1, getU_t2, getU_t3, getU_l0, getU_l1, getU_l2, getU_m1, getU_m2, getU_m3, eqU_i, eqU_s, eqU_b, eqU_nil, eqU_nilL, eqv_ii, eqv_ss, eqv_tnil, eqv_lnil, bool_bne, lenU_t, lenU_l, tupleU_l, tupleU_t, isiU, tyN, isaB, tyNames, cmpI, negU, srcK_d, srcU, p_is_row, hr]
  | true =>
    obtain ⟨a, b, rfl⟩ := rowB_22 hr
    cases a
    case str w =>
      have e : planB (.tuple [.str w, b]) = (sideB w && inW 0 64 b) := rfl
      rw [e]
      have hs : ∀ h, inU false (.d (.str w)) (.d (.tuple [.str "low", .str "high", .str "few"])) h = .ok (.d (.bool (sideB w))) h := fun h => by rw [inU_ts, bool_bne]; rfl
      cases hq : sideB w <;> rw [hq] at hs <;> simp [b_is_plan, evCl_0, evCl_1, evCl_2, evCl_3, evCl_4, evCl_k, evCl_k2, evCl_k2r, evCl_k3r, ev, tv, evs, evo, evc, evw, evV, evC, evT, ev2, ev1, evCh, evB, evIf, evNil, evCons, evTup, evLst, evCall, evSl, evNo, evPart, vAnd, vOr, vNot, tAndE, tOrE, tNotE, binU, cmpU, biU, meU, g1, g2, maxG, minG, Es.len, Tg.slots, Tgs.slots, ex, exs, exh, sNx, sBk, sCt, sSeq, sDrop, sRet, sRetN, sAsg, sPar2, sPar3, sSub, sIf, sRaise, asg, asgs, R.bind_ok, R.bind_err, R.bind_bad, R.stm_ok, R.stm_err, R.stm_bad, opt_some, opt_none, noErr_ok, noErr_bad, leave_d, leave_n, leave_e, leave_da, mkL_f, tru, truU, truD, asB, asBo, getU_t0, getU_t1, getU_t2, getU_t3, getU_l0, getU_l1, getU_l2, getU_m1, getU_m2, getU_m3, eqU_i, eqU_s, eqU_b, eqU_nil, eqU_nilL, eqv_ii, eqv_ss, eqv_tnil, eqv_lnil, bool_bne, lenU_t, lenU_l, tupleU_l, tupleU_t, isiU, tyN, isaB, tyNames, cmpI, negU, srcK_d, srcU, p_is_row, hr, tup_SIDES, hs, p_within]
    all_goals simp [b_is_plan, evCl_0, evCl_1, evCl_2, evCl_3, evCl_4, evCl_k, evCl_k2, evCl_k2r, evCl_k3r, ev, tv, evs, evo, evc, evw, evV, evC, evT, ev2, ev1, evCh, evB, evIf, evNil, evCons, evTup, evLst, evCall, evSl, evNo, evPart, vAnd, vOr, vNot, tAndE, tOrE, tNotE, binU, cmpU, biU, meU, g1, g2, maxG, minG, Es.len, Tg.slots, Tgs.slots, ex, exs, exh, sNx, sBk, sCt, sSeq, sDrop, sRet, sRetN, sAsg, sPar2, sPar3, sSub, sIf, sRaise, asg, asgs, R.bind_ok, R.bind_err, R.bind_bad, R.stm_ok, R.stm_err, R.stm_bad, opt_some, opt_none, noErr_ok, noErr_bad, leave_d, leave_n, leave_e, leave_da, mkL_f, tru, truU, truD, asB, asBo, getU_t0, getU_t1, getU_t2, getU_t3, getU_l0, getU_l1, getU_l2, getU_m1, getU_m2, getU_m3, eqU_i, eqU_s, eqU_b, eqU_nil, eqU_nilL, eqv_ii, eqv_ss, eqv_tnil, eqv_lnil, bool_bne, lenU_t, lenU_l, tupleU_l, tupleU_t, isiU, tyN, isaB, tyNames, cmpI, negU, srcK_d, srcU, p_is_row, hr, planB]
theorem p_law_int (d : D) (h : List O) : run G F (dsOf dd) (k + 1) "_law_int" [.d d] h = .ok (.d (.bool (isI d))) h := by
  rw [r__law_int]
  cases d
  all_goals simp [b__law_int, evCl_0, evCl_1, evCl_2, evCl_3, evCl_4, evCl_k, evCl_k2, evCl_k2r, evCl_k3r, ev, tv, evs, evo, evc, evw, evV, evC, evT, ev2, ev1, evCh, evB, evIf, evNil, evCons, evTup, evLst, evCall, evSl, evNo, evPart, vAnd, vOr, vNot, tAndE, tOrE, tNotE, binU, cmpU, biU, meU, g1, g2, maxG, minG, Es.len, Tg.slots, Tgs.slots, ex, exs, exh, sNx, sBk, sCt, sSeq, sDrop, sRet, sRetN, sAsg, sPar2, sPar3, sSub, sIf, sRaise, asg, asgs, R.bind_ok, R.bind_err, R.bind_bad, R.stm_ok, R.stm_err, R.stm_bad, opt_some, opt_none, noErr_ok, noErr_bad, leave_d, leave_n, leave_e, leave_da, mkL_f, tru, truU, truD, asB, asBo, getU_t0, getU_t1, getU_t2, getU_t3, getU_l0, getU_l1, getU_l2, getU_m1, getU_m2, getU_m3, eqU_i, eqU_s, eqU_b, eqU_nil, eqU_nilL, eqv_ii, eqv_ss, eqv_tnil, eqv_lnil, bool_bne, lenU_t, lenU_l, tupleU_l, tupleU_t, isiU, tyN, isaB, tyNames, cmpI, negU, srcK_d, srcU, isI]
theorem p_says (a b : Bool) (h : List O) : run G F (dsOf dd) (k + 1) "_law_says" [.d (.bool a), .d (.bool b)] h = .ok (.d (.bool (a == b))) h := by
  rw [r__law_says]
  cases a <;> cases b <;> simp [b__law_says, evCl_0, evCl_1, evCl_2, evCl_3, evCl_4, evCl_k, evCl_k2, evCl_k2r, evCl_k3r, ev, tv, evs, evo, evc, evw, evV, evC, evT, ev2, ev1, evCh, evB, evIf, evNil, evCons, evTup, evLst, evCall, evSl, evNo, evPart, vAnd, vOr, vNot, tAndE, tOrE, tNotE, binU, cmpU, biU, meU, g1, g2, maxG, minG, Es.len, Tg.slots, Tgs.slots, ex, exs, exh, sNx, sBk, sCt, sSeq, sDrop, sRet, sRetN, sAsg, sPar2, sPar3, sSub, sIf, sRaise, asg, asgs, R.bind_ok, R.bind_err, R.bind_bad, R.stm_ok, R.stm_err, R.stm_bad, opt_some, opt_none, noErr_ok, noErr_bad, leave_d, leave_n, leave_e, leave_da, mkL_f, tru, truU, truD, asB, asBo, getU_t0, getU_t1, getU_t2, getU_t3, getU_l0, getU_l1, getU_l2, getU_m1, getU_m2, getU_m3, eqU_i, eqU_s, eqU_b, eqU_nil, eqU_nilL, eqv_ii, eqv_ss, eqv_tnil, eqv_lnil, bool_bne, lenU_t, lenU_l, tupleU_l, tupleU_t, isiU, tyN, isaB, tyNames, cmpI, negU, srcK_d, srcU, PyData.eqv]
theorem p_law_plan (d : D) (hl : big d ≤ 1000000) (h : List O) : run G F (dsOf dd) (k + 2) "_law_is_plan" [.d d] h = .ok (.d (.bool (planB d))) h := by
  rw [r__law_is_plan]
  cases d
  case tuple ds =>
    by_cases h2 : ds.length = 2
    · obtain ⟨a, b, rfl⟩ : ∃ a b, ds = [a, b] := by
        match ds, h2 with
        | [a, b], _ => exact ⟨a, b, rfl⟩
      cases a
      case str w =>
        have e : planB (.tuple [.str w, b]) = (sideB w && inW 0 64 b) := rfl
        rw [e]
        have hs : ∀ h, inU false (.d (.str w)) (.d (.tuple [.str "low", .str "high", .str "few"])) h = .ok (.d (.bool (sideB w))) h := fun h => by rw [inU_ts, bool_bne]; rfl
        cases b
        case int i => cases hq : sideB w <;> rw [hq] at hs <;> by_cases h0 : 0 ≤ i <;> simp [b__law_is_plan, evCl_0, evCl_1, evCl_2, evCl_3, evCl_4, evCl_k, evCl_k2, evCl_k2r, evCl_k3r, ev, tv, evs, evo, evc, evw, evV, evC, evT, ev2, ev1, evCh, evB, evIf, evNil, evCons, evTup, evLst, evCall, evSl, evNo, evPart, vAnd, vOr, vNot, tAndE, tOrE, tNotE, binU, cmpU, biU, meU, g1, g2, maxG, minG, Es.len, Tg.slots, Tgs.slots, ex, exs, exh, sNx, sBk, sCt, sSeq, sDrop, sRet, sRetN, sAsg, sPar2, sPar3, sSub, sIf, sRaise, asg, asgs, R.bind_ok, R.bind_err, R.bind_bad, R.stm_ok, R.stm_err, R.stm_bad, opt_some, opt_none, noErr_ok, noErr_bad, leave_d, leave_n, leave_e, leave_da, mkL_f, tru, truU, truD, asB, asBo, getU_t0, getU_t1, getU_t2, getU_t3, getU_l0, getU_l1, getU_l2, getU_m1, getU_m2, getU_m3, eqU_i, eqU_s, eqU_b, eqU_nil, eqU_nilL, eqv_ii, eqv_ss, eqv_tnil, eqv_lnil, bool_bne, lenU_t, lenU_l, tupleU_l, tupleU_t, isiU, tyN, isaB, tyNames, cmpI, negU, srcK_d, srcU, p_law_int, isI, pures, hs, inW, h0]
        all_goals (cases hq : sideB w <;> simp [b__law_is_plan, evCl_0, evCl_1, evCl_2, evCl_3, evCl_4, evCl_k, evCl_k2, evCl_k2r, evCl_k3r, ev, tv, evs, evo, evc, evw, evV, evC, evT, ev2, ev1, evCh, evB, evIf, evNil, evCons, evTup, evLst, evCall, evSl, evNo, evPart, vAnd, vOr, vNot, tAndE, tOrE, tNotE, binU, cmpU, biU, meU, g1, g2, maxG, minG, Es.len, Tg.slots, Tgs.slots, ex, exs, exh, sNx, sBk, sCt, sSeq, sDrop, sRet, sRetN, sAsg, sPar2, sPar3, sSub, sIf, sRaise, asg, asgs, R.bind_ok, R.bind_err, R.bind_bad, R.stm_ok, R.stm_err, R.stm_bad, opt_some, opt_none, noErr_ok, noErr_bad, leave_d, leave_n, leave_e, leave_da, mkL_f, tru, truU, truD, asB, asBo, getU_t0, getU_t1, getU_t2, getU_t3, getU_l0, getU_l1, getU_l2, getU_m1, getU_m2, getU_m3, eqU_i, eqU_s, eqU_b, eqU_nil, eqU_nilL, eqv_ii, eqv_ss, eqv_tnil, eqv_lnil, bool_bne, lenU_t, lenU_l, tupleU_l, tupleU_t, isiU, tyN, isaB, tyNames, cmpI, negU, srcK_d, srcU, p_law_int, isI, pures, inW])
      all_goals simp [b__law_is_plan, evCl_0, evCl_1, evCl_2, evCl_3, evCl_4, evCl_k, evCl_k2, evCl_k2r, evCl_k3r, ev, tv, evs, evo, evc, evw, evV, evC, evT, ev2, ev1, evCh, evB, evIf, evNil, evCons, evTup, evLst, evCall, evSl, evNo, evPart, vAnd, vOr, vNot, tAndE, tOrE, tNotE, binU, cmpU, biU, meU, g1, g2, maxG, minG, Es.len, Tg.slots, Tgs.slots, ex, exs, exh, sNx, sBk, sCt, sSeq, sDrop, sRet, sRetN, sAsg, sPar2, sPar3, sSub, sIf, sRaise, asg, asgs, R.bind_ok, R.bind_err, R.bind_bad, R.stm_ok, R.stm_err, R.stm_bad, opt_some, opt_none, noErr_ok, noErr_bad, leave_d, leave_n, leave_e, leave_da, mkL_f, tru, truU, truD, asB, asBo, getU_t0, getU_t1, getU_t2, getU_t3, getU_l0, getU_l1, getU_l2, getU_m1, getU_m2, getU_m3, eqU_i, eqU_s, eqU_b, eqU_nil, eqU_nilL, eqv_ii, eqv_ss, eqv_tnil, eqv_lnil, bool_bne, lenU_t, lenU_l, tupleU_l, tupleU_t, isiU, tyN, isaB, tyNames, cmpI, negU, srcK_d, srcU, planB]
    · have hp : planB (.tuple ds) = false := by
        unfold planB
        split
        · rename_i q; cases q; simp at h2
        · rfl
      have h2' : ¬ (ds.length : Int) = 2 := by omega
      rw [hp]
      simp [b__law_is_plan, evCl_0, evCl_1, evCl_2, evCl_3, evCl_4, evCl_k, evCl_k2, evCl_k2r, evCl_k3r, ev, tv, evs, evo, evc, evw, evV, evC, evT, ev2, ev1, evCh, evB, evIf, evNil, evCons, evTup, evLst, evCall, evSl, evNo, evPart, vAnd, vOr, vNot, tAndE, tOrE, tNotE, binU, cmpU, biU, meU, g1, g2, maxG, minG, Es.len, Tg.slots, Tgs.slots, ex, exs, exh, sNx, sBk, sCt, sSeq, sDrop, sRet, sRetN, sAsg, sPar2, sPar3, sSub, sIf, sRaise, asg, asgs, R.bind_ok, R.bind_err, R.bind_bad, R.stm_ok, R.stm_err, R.stm_bad, opt_some, opt_none, noErr_ok, noErr_bad, leave_d, leave_n, leave_e, leave_da, mkL_f, tru, truU, truD, asB, asBo, getU_t0, getU_t1, getU_t2, getU_t3, getU_l0, getU_l1, getU_l2, getU_m1, getU_m2, getU_m3, eqU_i, eqU_s, eqU_b, eqU_nil, eqU_nilL, eqv_ii, eqv_ss, eqv_tnil, eqv_lnil, bool_bne, lenU_t, lenU_l, tupleU_l, tupleU_t, isiU, tyN, isaB, tyNames, cmpI, negU, srcK_d, srcU, h2, h2']
  all_goals simp [b__law_is_plan, evCl_0, evCl_1, evCl_2, evCl_3, evCl_4, evCl_k, evCl_k2, evCl_k2r, evCl_k3r, ev, tv, evs, evo, evc, evw, evV, evC, evT, ev2, ev1, evCh, evB, evIf, evNil, evCons, evTup, evLst, evCall, evSl, evNo, evPart, vAnd, vOr, vNot, tAndE, tOrE, tNotE, binU, cmpU, biU, meU, g1, g2, maxG, minG, Es.len, Tg.slots, Tgs.slots, ex, exs, exh, sNx, sBk, sCt, sSeq, sDrop, sRet, sRetN, sAsg, sPar2, sPar3, sSub, sIf, sRaise, asg, asgs, R.bind_ok, R.bind_err, R.bind_bad, R.stm_ok, R.stm_err, R.stm_bad, opt_some, opt_none, noErr_ok, noErr_bad, leave_d, leave_n, leave_e, leave_da, mkL_f, tru, truU, truD, asB, asBo, getU_t0, getU_t1, getU_t2, getU_t3, getU_l0, getU_l1, getU_l2, getU_m1, getU_m2, getU_m3, eqU_i, eqU_s, eqU_b, eqU_nil, eqU_nilL, eqv_ii, eqv_ss, eqv_tnil, eqv_lnil, bool_bne, lenU_t, lenU_l, tupleU_l, tupleU_t, isiU, tyN, isaB, tyNames, cmpI, negU, srcK_d, srcU, planB]

end K19

namespace K19
open PySem PySem.Spec PyProof.Rows L2 Py

variable {F k : Nat}
theorem vs01 : Vs [0, 1] := ⟨by decide, by decide, by decide, by decide⟩
def dvs (r : Int) : List Int := if r = 0 then [] else if r = 1 then [2, 3] else if r = 2 then [2, 3, 4, 5] else [2]
theorem dvs_ok (r : Int) : Dv (dvs r) := by
  unfold dvs
  split
  · exact ⟨by decide, by decide⟩
  · split
    · exact ⟨by decide, by decide⟩
    · split <;> exact ⟨by decide, by decide⟩
theorem dvs_get {r : Int} (h0 : 0 ≤ r) (h1 : r < 4) (h : List O) : getU (.d (.list [.list [], .list [.int 2, .int 3], .list [.int 2, .int 3, .int 4, .int 5], .list [.int 2]])) (.d (.int r)) h = .ok (.d (.list ((dvs r).map .int))) h := by
  have : r = 0 ∨ r = 1 ∨ r = 2 ∨ r = 3 := by omega
  rcases this with rfl | rfl | rfl | rfl <;> rfl
theorem turn (hF : 4000 ≤ F) {hs : List O} {n : Int} (hb : IsSrc n hs) (hn0 : 0 ≤ n) (hn : n + 3000 ≤ 100000) (x0 : U) (u2 u3 u4 u5 u6 u7 u8 u9 u10 : Option U) :
    ∃ hs' f v5 v9 v10, exs G (run G F (dsOf dd) (k + 31)) F l_law_1 [some x0, some (.lab 2), u2, u3, u4, u5, u6, u7, u8, u9, u10] hs = .nx [some x0, some (.lab 2), u2, u3, u4, v5, some (.d (Fm.d f)), u7, u8, v9, v10] hs' ∧ IsSrc (n + 3000) hs' ∧ DG 3 46 11 f := by
  obtain ⟨u, hs1, q1, ⟨a, rfl, a0, a1⟩, hb1⟩ := draws (F := F) (k + 30) (many := 4) (by decide) (by decide) hs n [] hb hn0 (by omega)
  obtain ⟨u, hs2, q2, ⟨m, rfl, m0, m1⟩, hb2⟩ := draws (F := F) (k + 30) (many := 4) (by decide) (by decide) hs1 _ [] hb1 (by omega) (by omega)
  obtain ⟨u, hs3, q3, ⟨r, rfl, r0, r1⟩, hb3⟩ := draws (F := F) (k + 30) (many := 4) (by decide) (by decide) hs2 _ [] hb2 (by omega) (by omega)
  obtain ⟨u, hs4, q4, ⟨b, rfl, b0, b1⟩, hb4⟩ := draws (F := F) (k + 30) (many := 8) (by decide) (by decide) hs3 _ [] hb3 (by omega) (by omega)
  obtain ⟨an, rfl⟩ : ∃ an : Nat, a = an := ⟨a.toNat, by omega⟩
  obtain ⟨bn, rfl⟩ : ∃ bn : Nat, b = bn := ⟨b.toNat, by omega⟩
  have hcF : ∀ b, b ≤ 8 → ∀ n, n ≤ 3 → cF b n ≤ 2560 := by decide
  have hsF : ∀ b, b ≤ 8 → ∀ n, n ≤ 3 → sF b n ≤ 46 := by decide
  have c1 := hcF (bn + 1) (by omega) an (by omega)
  have s1 := hsF (bn + 1) (by omega) an (by omega)
  have c0 := cF_nn (bn + 1) an
  obtain ⟨u, hs5, q5, ⟨f, rfl, hf⟩, hb5⟩ := p_form (F := F) (k := k + 16) (M := 1 + m) (by omega) (by omega) (dvs_ok r) 11 (bn + 1) an (by omega) (by omega) (by omega) (by omega) vs01 hs4 _ [] hb4 (by omega) (by omega)
  rw [List.append_nil, List.append_nil] at q1 q2 q3 q4 q5
  have hf' : DG 3 46 11 f := hf.mono s1 (by omega)
  have l1 := p_light (F := F) (k := k + 1) (f := f) (s := 46) (hf'.mono (by omega) (by omega)) (by omega) hF hs5
  have l2 := p_law_light (F := F) f hf'.1.ok (by have := hf'.1.sz; omega) (fun a ha => by
    have := sum_mem (List.mem_map.mpr ⟨a, ha, rfl⟩ : a.pairs.length ∈ f.atoms.map fun a => a.pairs.length)
    have := hf'.1.pl
    omega) 11 (k + 18) hs5 hf'.2
  simp only [Nat.add_assoc, Nat.reduceAdd] at l1 l2 q5
  have hbi : (1 : Int) + bn = (bn : Int) + 1 := by omega
  have hbc : ((bn + 1 : Nat) : Int) = (bn : Int) + 1 := by omega
  rw [hbc] at q5
  rw [List.map_cons, List.map_cons, List.map_nil] at q5
  refine ⟨hs5, f, some (.d (.list ((dvs r).map .int))), some (.d (.int an)), some (.d (.int (1 + m))), ?_, hb5.mono (by omega), hf'⟩
  simp [l_law_1, evCl_6, evCl_0, evCl_1, evCl_2, evCl_3, evCl_4, evCl_k, evCl_k2, evCl_k2r, evCl_k3r, ev, tv, evs, evo, evc, evw, evV, evC, evT, ev2, ev1, evCh, evB, evIf, evNil, evCons, evTup, evLst, evCall, evSl, evNo, evPart, vAnd, vOr, vNot, tAndE, tOrE, tNotE, binU, cmpU, biU, meU, g1, g2, maxG, minG, Es.len, Tg.slots, Tgs.slots, ex, exs, exh, sNx, sBk, sCt, sSeq, sDrop, sRet, sRetN, sAsg, sPar2, sPar3, sSub, sIf, sRaise, asg, asgs, R.bind_ok, R.bind_err, R.bind_bad, R.stm_ok, R.stm_err, R.stm_bad, opt_some, opt_none, noErr_ok, noErr_bad, leave_d, leave_n, leave_e, leave_da, mkL_f, tru, truU, truD, asB, asBo, getU_t0, getU_t1, getU_t2, getU_t3, getU_l0, getU_l1, getU_l2, getU_m1, getU_m2, getU_m3, eqU_i, eqU_s, eqU_b, eqU_nil, eqU_nilL, eqv_ii, eqv_ss, eqv_tnil, eqv_lnil, bool_bne, lenU_t, lenU_l, tupleU_l, tupleU_t, isiU, tyN, isaB, tyNames, cmpI, negU, srcK_d, srcU, q1, q2, q3, q4, addU_i, pures, dvs_get r0 r1, hbi, q5, l1, l2, p_says, -List.map_map]

end K19

namespace K19
open PySem PySem.Spec PyProof.Rows L2 Py

variable {F k : Nat}
def nots : Nat → Fm → Fm
  | 0, f => f
  | n + 1, f => .not (nots n f)
def tD : D := .tuple [.int 0, .tuple [.tuple [.int 0, .int 1]]]
def wrong1 (f : D) : List D := [.none, .tuple [], .list [], .tuple [.str "ge"], .tuple [.str "ge", .tuple [.int 0, .tuple [.tuple [.int 0, .int 0]]]], .tuple [.str "div", .int 1, tD], .tuple [.str "div", .int 61, tD], .tuple [.str "true", .int 0]]
theorem p_nots (f : Fm) (u2 u3 u4 u5 : Option U) (h : List O) : ∃ v2, ex G (run G F (dsOf dd) k) F f__law_wrong_0 [some (.d f.d), some (.d f.d), u2, u3, u4, u5] h = .nx [some (.d f.d), some (.d (nots 13 f).d), v2, u3, u4, u5] h := by
  obtain ⟨σ', h', e2, ⟨v2, rfl⟩, rfl⟩ : ∃ σ' h', ex G (run G F (dsOf dd) k) F f__law_wrong_0 [some (.d f.d), some (.d f.d), u2, u3, u4, u5] h = .nx σ' h' ∧ (∃ v2, σ' = [some (.d f.d), some (.d (nots (rngL 0 1 13).length f).d), v2, u3, u4, u5]) ∧ h' = h := by
    refine for_inv (us := rngL 0 1 13) (h1 := h) (fun pre σ h' => (∃ v2, σ = [some (.d f.d), some (.d (nots pre.length f).d), v2, u3, u4, u5]) ∧ h' = h) ?_ ⟨⟨u2, rfl⟩, rfl⟩ ?_
    · simp [evCl_0, evCl_1, evCl_2, evCl_3, evCl_4, evCl_k, evCl_k2, evCl_k2r, evCl_k3r, ev, tv, evs, evo, evc, evw, evV, evC, evT, ev2, ev1, evCh, evB, evIf, evNil, evCons, evTup, evLst, evCall, evSl, evNo, evPart, vAnd, vOr, vNot, tAndE, tOrE, tNotE, binU, cmpU, biU, meU, g1, g2, maxG, minG, Es.len, Tg.slots, Tgs.slots, ex, exs, exh, sNx, sBk, sCt, sSeq, sDrop, sRet, sRetN, sAsg, sPar2, sPar3, sSub, sIf, sRaise, asg, asgs, R.bind_ok, R.bind_err, R.bind_bad, R.stm_ok, R.stm_err, R.stm_bad, opt_some, opt_none, noErr_ok, noErr_bad, leave_d, leave_n, leave_e, leave_da, mkL_f, tru, truU, truD, asB, asBo, rngS, asI, show Py.inR 13 = true from by decide]
    · rintro pre u r hu σ h' ⟨⟨v2, rfl⟩, rfl⟩
      refine ⟨[some (.d f.d), some (.d (nots pre.length f).d), some u, u3, u4, u5], _, _, rfl, ?_, ⟨⟨some u, rfl⟩, rfl⟩⟩
      rw [List.length_append, List.length_singleton, nots, Fm.d]
      simp [l__law_wrong_0, evCl_0, evCl_1, evCl_2, evCl_3, evCl_4, evCl_k, evCl_k2, evCl_k2r, evCl_k3r, ev, tv, evs, evo, evc, evw, evV, evC, evT, ev2, ev1, evCh, evB, evIf, evNil, evCons, evTup, evLst, evCall, evSl, evNo, evPart, vAnd, vOr, vNot, tAndE, tOrE, tNotE, binU, cmpU, biU, meU, g1, g2, maxG, minG, Es.len, Tg.slots, Tgs.slots, ex, exs, exh, sNx, sBk, sCt, sSeq, sDrop, sRet, sRetN, sAsg, sPar2, sPar3, sSub, sIf, sRaise, asg, asgs, R.bind_ok, R.bind_err, R.bind_bad, R.stm_ok, R.stm_err, R.stm_bad, opt_some, opt_none, noErr_ok, noErr_bad, leave_d, leave_n, leave_e, leave_da, mkL_f, tru, truU, truD, asB, asBo, pures]
  exact ⟨v2, by rw [show (rngL 0 1 13).length = 13 by simp [rngL]] at e2; exact e2⟩
def listD : D → D
  | .tuple xs => .list xs
  | d => d
def wideD : D := .tuple [.str "and", .tuple (List.replicate 60 (.tuple [.str "ge", tD]))]
def wrongs (f : Fm) : List D := [.none, .tuple [], listD f.d, .tuple [.str "ge"], .tuple [.str "ge", .tuple [.int 0, .tuple [.tuple [.int 0, .int 0]]]], .tuple [.str "div", .int 1, tD], .tuple [.str "div", .int 61, tD], .tuple [.str "true", .int 0]] ++
  [(nots 13 f).d, wideD, .tuple [.str "exists", .int 10, f.d], .tuple [.str "exists", .int (-1), f.d], .tuple [.str "exists", .bool true, f.d]] ++
  [.tuple [.str "ge", .tuple [.int 1001, .tuple []]], .tuple [.str "ge", .tuple [.int 0, .tuple [.tuple [.int 0, .int (-1001)]]]], .tuple [.str "ge", .tuple [.int 0, .tuple [.tuple [.int 10, .int 1]]]], .tuple [.str "ge", .tuple [.int 0, .tuple [.tuple [.int 1, .int 1], .tuple [.int 0, .int 1]]]], .tuple [.str "nor", f.d]] ++
  [.tuple [.str "and", .list [f.d]], .tuple [.str "iff", f.d], .tuple [.str "not", f.d, f.d], .tuple [.str "eq", .tuple [.bool true, .tuple []]], .tuple [.str "div", .int 2, .int 0], .tuple [.str "and", .tuple [f.d, .none]]]
theorem p_wrong (f : Fm) (h : List O) : run G F (dsOf dd) (k + 1) "_law_wrong" [.d f.d] h = .ok (.d (.list (wrongs f))) h := by
  rw [r__law_wrong]
  obtain ⟨v2, e⟩ := p_nots (F := F) (k := k) f none none none none h
  obtain ⟨w, r, ef, _⟩ := atom_words f
  have hl : listU false (.d f.d) h = .ok (.d (listD f.d)) h := by rw [ef]; rfl
  have hm : mulU false (.d (.tuple [.tuple [.str "ge", tD]])) (.d (.int 60)) h = .ok (.d (.tuple (List.replicate 60 (.tuple [.str "ge", tD])))) h := by simp [mulU, rep]
  unfold tD at hm
  simp [b__law_wrong, evCl_0, evCl_1, evCl_2, evCl_3, evCl_4, evCl_k, evCl_k2, evCl_k2r, evCl_k3r, ev, tv, evs, evo, evc, evw, evV, evC, evT, ev2, ev1, evCh, evB, evIf, evNil, evCons, evTup, evLst, evCall, evSl, evNo, evPart, vAnd, vOr, vNot, tAndE, tOrE, tNotE, binU, cmpU, biU, meU, g1, g2, maxG, minG, Es.len, Tg.slots, Tgs.slots, ex, exs, exh, sNx, sBk, sCt, sSeq, sDrop, sRet, sRetN, sAsg, sPar2, sPar3, sSub, sIf, sRaise, asg, asgs, R.bind_ok, R.bind_err, R.bind_bad, R.stm_ok, R.stm_err, R.stm_bad, opt_some, opt_none, noErr_ok, noErr_bad, leave_d, leave_n, leave_e, leave_da, mkL_f, tru, truU, truD, asB, asBo, getU_t0, getU_t1, getU_t2, getU_t3, getU_l0, getU_l1, getU_l2, getU_m1, getU_m2, getU_m3, eqU_i, eqU_s, eqU_b, eqU_nil, eqU_nilL, eqv_ii, eqv_ss, eqv_tnil, eqv_lnil, bool_bne, lenU_t, lenU_l, tupleU_l, tupleU_t, isiU, tyN, isaB, tyNames, cmpI, negU, srcK_d, srcU, pures, e, hl, hm, addU_l, wrongs, wideD, tD, leave, outU]

end K19

namespace K19
open PySem PySem.Spec PyProof.Rows L2 Py

variable {F k : Nat}
theorem fb (d : D) (h1 : atomB d = false) (h2 : ∀ ds, innerB d = some ds → ds.all formB = false) : formB d = false := by
  rw [formB_eq, h1, Bool.false_or]
  cases q : innerB d with
  | none => rfl
  | some ds => exact h2 ds q
theorem none_not : formB .none = false := fb _ rfl (fun ds h => by simp [innerB] at h)
theorem wrong_not (f : Fm) : ∀ d ∈ ([.none, .tuple [], listD f.d, .tuple [.str "ge"], .tuple [.str "ge", .tuple [.int 0, .tuple [.tuple [.int 0, .int 0]]]], .tuple [.str "div", .int 1, tD], .tuple [.str "true", .int 0], .tuple [.str "exists", .int (-1), f.d], .tuple [.str "exists", .bool true, f.d],
    .tuple [.str "ge", .tuple [.int 0, .tuple [.tuple [.int 1, .int 1], .tuple [.int 0, .int 1]]]], .tuple [.str "nor", f.d], .tuple [.str "and", .list [f.d]], .tuple [.str "iff", f.d], .tuple [.str "not", f.d, f.d], .tuple [.str "eq", .tuple [.bool true, .tuple []]], .tuple [.str "div", .int 2, .int 0]] : List D), formB d = false := by
  obtain ⟨w, r, ef, _⟩ := atom_words f
  have hfd : listD f.d = .list (.str w :: r) := by rw [ef]; rfl
  intro d hd
  rw [hfd] at hd
  simp only [List.mem_cons, List.mem_nil_iff, or_false] at hd
  rcases hd with rfl | rfl | rfl | rfl | rfl | rfl | rfl | rfl | rfl | rfl | rfl | rfl | rfl | rfl | rfl | rfl <;> (try rw [ef]) <;>
    exact fb _ (by simp (decide := true) [atomB, termB, pairNZ, tD, ascI, fstI]) (fun ds h => by simp (decide := true) [innerB, innerW, isIdx] at h)

end K19

namespace K19
open PySem PySem.Spec PyProof.Rows L2 Py

variable {F k : Nat}
theorem and_not (f : Fm) : formB (.tuple [.str "and", .tuple [f.d, .none]]) = false := by
  refine fb _ (by simp (decide := true) [atomB, termB]) (fun ds h => ?_)
  have : innerB (.tuple [.str "and", .tuple [f.d, .none]]) = some [f.d, .none] := by simp (decide := true) [innerB, innerW]
  rw [this] at h
  cases h
  simp [none_not]
theorem deep_nots (f : Fm) : ∀ n : Nat, (nots n f).deep = f.deep + n
  | 0 => rfl
  | n + 1 => by
    rw [nots, Fm.deep_kids]
    simp only [Fm.kids, List.map_cons, List.map_nil, maxN, List.foldr_cons, List.foldr_nil, deep_nots f n]
    omega
theorem df_nots {m : Int} {s : Nat} {f : Fm} (h : DF m s f) : ∀ n : Nat, DF m (s + n) (nots n f)
  | 0 => h
  | n + 1 => (df_nots h n).not
theorem not_smallF {f : Fm} (ok : f.Ok) (hl : Lean f) (hn : f.deep ≤ 70) (hb : big f.d ≤ 4900) (hF : 5000 ≤ F) (hs : f.small = false) (h : List O) : run G F (dsOf dd) (k + 78) "is_small" [.d f.d] h = .ok (.d (.bool false)) h := by
  have q := p_small (F := F) f ok hl (formB_ok f ok) (by omega) (by omega) 70 k h hn
  rw [hs] at q
  exact q

end K19

namespace K19
open PySem PySem.Spec PyProof.Rows L2 Py

variable {F k : Nat}
/-- an atom that is not small -/
theorem bad_atom {f : Fm} (ha : f.isAtom = true) (ok : f.Ok) (hp : f.pairs.length ≤ 4) (hv : ∀ p ∈ f.pairs, 0 ≤ p.1 ∧ p.1 < 63) (hF : 5000 ≤ F) (hb : big f.d ≤ 100) (hs : f.small = false) (h : List O) : run G F (dsOf dd) (k + 78) "is_small" [.d f.d] h = .ok (.d (.bool false)) h := by
  have hk : f.kids = [] := by cases f <;> first | rfl | cases ha
  have hbd : f.bound = [] := by cases f <;> first | (cases ha; done) | simp [Fm.bound]
  refine not_smallF ok ⟨by rw [Fm.atoms_self f ha]; simp; omega, fun v hv' => ?_, by rw [size1 f hk]; omega⟩ (by rw [deep1 f hk]; omega) (by omega) hF hs h
  unfold Fm.vars at hv'
  rw [hbd, List.append_nil, Fm.atoms_self f ha] at hv'
  simp at hv'
  obtain ⟨x, hx⟩ := hv'
  exact hv _ hx
theorem four_bad (hF : 5000 ≤ F) : ∀ d ∈ ([.tuple [.str "div", .int 61, tD], .tuple [.str "ge", .tuple [.int 1001, .tuple []]], .tuple [.str "ge", .tuple [.int 0, .tuple [.tuple [.int 0, .int (-1001)]]]], .tuple [.str "ge", .tuple [.int 0, .tuple [.tuple [.int 10, .int 1]]]]] : List D), ∀ h, run G F (dsOf dd) (k + 78) "is_small" [.d d] h = .ok (.d (.bool false)) h := by
  intro d hd h
  simp only [List.mem_cons, List.mem_nil_iff, or_false] at hd
  rcases hd with rfl | rfl | rfl | rfl
  · exact bad_atom (f := .dv 61 0 [(0, 1)]) rfl (.mk ⟨by decide, ⟨by simp, by simp, by simp⟩⟩ (by simp [Fm.kids])) (by simp [Fm.pairs]) (by simp [Fm.pairs]) hF (by decide) (by decide) h
  · exact bad_atom (f := .ge 1001 []) rfl (.mk ⟨by simp, by simp, by simp⟩ (by simp [Fm.kids])) (by simp [Fm.pairs]) (by simp [Fm.pairs]) hF (by decide) (by decide) h
  · exact bad_atom (f := .ge 0 [(0, -1001)]) rfl (.mk ⟨by simp, by simp, by simp⟩ (by simp [Fm.kids])) (by simp [Fm.pairs]) (by simp [Fm.pairs]) hF (by decide) (by decide) h
  · exact bad_atom (f := .ge 0 [(10, 1)]) rfl (.mk ⟨by simp, by simp, by simp⟩ (by simp [Fm.kids])) (by simp [Fm.pairs]) (by simp [Fm.pairs]) hF (by decide) (by decide) h

end K19

namespace K19
open PySem PySem.Spec PyProof.Rows L2 Py

variable {F k : Nat}
theorem nots_bad {s : Nat} {f : Fm} (hf : DG 3 s 11 f) (hs : s ≤ 46) (hF : 5000 ≤ F) (h : List O) : run G F (dsOf dd) (k + 78) "is_small" [.d (nots 13 f).d] h = .ok (.d (.bool false)) h := by
  have d := df_nots hf.1 13
  have hd := deep_nots f 13
  have h1 := Fm.deep_kids f
  have h2 := hf.2
  refine not_smallF d.ok (DF.lean' (by decide) d (by omega)) (by omega) (by have := d.bg; omega) hF ?_ h
  have : decide ((nots 13 f).deep ≤ 12) = false := decide_eq_false (by omega)
  unfold Fm.small
  rw [this]; simp
theorem ex_bad {s : Nat} {f : Fm} (hf : DG 3 s 11 f) (hs : s ≤ 46) (hF : 5000 ≤ F) (h : List O) : run G F (dsOf dd) (k + 78) "is_small" [.d (Fm.ex 10 f).d] h = .ok (.d (.bool false)) h := by
  have hu : DF 10 s f := ⟨hf.1.ok, hf.1.sz, hf.1.dp, hf.1.bg, hf.1.pl, fun a ha p hp => ⟨(hf.1.av a ha p hp).1, by have := (hf.1.av a ha p hp).2; omega⟩, fun v hv => ⟨(hf.1.bd v hv).1, by have := (hf.1.bd v hv).2; omega⟩, hf.1.sm⟩
  have d := hu.ex (v := 10) (by decide) (by decide)
  have hl : Lean (Fm.ex 10 f) := by
    refine ⟨by have := d.pl; omega, fun v hv => ?_, by have := d.sz; omega⟩
    unfold Fm.vars at hv
    rcases List.mem_append.mp hv with hv | hv
    · obtain ⟨a, ha, hv⟩ := List.mem_flatMap.mp hv
      obtain ⟨p, hp, rfl⟩ := List.mem_map.mp hv
      have := d.av a ha p hp; omega
    · have := d.bd v hv; omega
  refine not_smallF d.ok hl (by have := d.dp; omega) (by have := d.bg; omega) hF ?_ h
  have hm : (10 : Int) ∈ (Fm.ex 10 f).names := by
    unfold Fm.names Fm.vars
    rw [ssI_mem, List.mem_append]; right; simp [Fm.bound]
  have : ((Fm.ex 10 f).names.all fun v => decide (v ≤ 9)) = false := by
    rw [List.all_eq_false]; exact ⟨10, hm, by decide⟩
  unfold Fm.small
  rw [this]; simp

end K19

namespace K19
open PySem PySem.Spec PyProof.Rows L2 Py

variable {F k : Nat}
def wideF : Fm := .and (List.replicate 60 (.ge 0 [(0, 1)]))
theorem wide_d : wideF.d = wideD := by
  unfold wideF wideD
  rw [Fm.d, Fm.ds_eq, List.map_replicate]; rfl
theorem wide_ok : wideF.Ok := by
  refine .mk (by unfold wideF; trivial) (fun g hg => ?_)
  obtain ⟨_, rfl⟩ := List.mem_replicate.mp (show g ∈ List.replicate 60 (Fm.ge 0 [(0, 1)]) from hg)
  exact .mk ⟨by simp, by simp, by simp⟩ (by simp [Fm.kids])
theorem wide_bad (hF : 5000 ≤ F) (h : List O) : run G F (dsOf dd) (k + 78) "is_small" [.d wideD] h = .ok (.d (.bool false)) h := by
  rw [← wide_d]
  exact not_smallF wide_ok ⟨by decide, by decide, by decide⟩ (by decide) (by decide) hF (by decide) h
theorem all_bad {f : Fm} (hf : DG 3 46 11 f) (hF : 6000 ≤ F) : ∀ d ∈ wrongs f, ∀ h, run G F (dsOf dd) (k + 78) "is_small" [.d d] h = .ok (.d (.bool false)) h := by
  have hb : big f.d ≤ 2760 := by have := hf.1.bg; omega
  have nm : ∀ d, formB d = false → big d ≤ 5900 → ∀ h, run G F (dsOf dd) (k + 78) "is_small" [.d d] h = .ok (.d (.bool false)) h := fun d a b h => not_small (k := k + 50) a (by omega) (by omega) h
  have wn := wrong_not f
  have fo := four_bad (F := F) (k := k) (by omega)
  obtain ⟨w, r, ef, _⟩ := atom_words f
  have hl : big (listD f.d) ≤ 2760 := by rw [ef] at hb ⊢; exact hb
  intro d hd
  simp only [wrongs, List.mem_append, List.mem_cons, List.mem_nil_iff, or_false, List.cons_append, List.nil_append] at hd
  simp only [List.forall_mem_cons] at wn fo
  obtain ⟨n1, n2, n3, n4, n5, n6, n7, n8, n9, n10, n11, n12, n13, n14, n15, n16, _⟩ := wn
  obtain ⟨f1, f2, f3, f4, _⟩ := fo
  have b0 : ∀ w : Str, big (.tuple [.str w, f.d]) ≤ 5900 := fun w => by simp only [big, bigs]; omega
  rcases hd with rfl | rfl | rfl | rfl | rfl | rfl | rfl | rfl | rfl | rfl | rfl | rfl | rfl | rfl | rfl | rfl | rfl | rfl | rfl | rfl | rfl | rfl | rfl | rfl
  · exact nm _ n1 (by decide)
  · exact nm _ n2 (by decide)
  · exact nm _ n3 (by omega)
  · exact nm _ n4 (by decide)
  · exact nm _ n5 (by decide)
  · exact nm _ n6 (by decide)
  · exact f1
  · exact nm _ n7 (by decide)
  · exact nots_bad hf (by omega) (by omega)
  · exact wide_bad (by omega)
  · exact ex_bad hf (by omega) (by omega)
  · exact nm _ n8 (by simp only [big, bigs]; omega)
  · exact nm _ n9 (by simp only [big, bigs]; omega)
  · exact f2
  · exact f3
  · exact f4
  · exact nm _ n10 (by decide)
  · exact nm _ n11 (b0 _)
  · exact nm _ n12 (by simp only [big, bigs]; omega)
  · exact nm _ n13 (b0 _)
  · exact nm _ n14 (by simp only [big, bigs]; omega)
  · exact nm _ n15 (by decide)
  · exact nm _ n16 (by decide)
  · exact nm _ (and_not f) (by simp only [big, bigs]; omega)

end K19

namespace K19
open PySem PySem.Spec PyProof.Rows L2 Py

variable {F k : Nat}
def ths (w : Str) (n : Int) : List D := [.tuple [.str w, .int n], .tuple [.str w, .bool true], .tuple [.str w, .str "1"], .tuple [.str w], .tuple [.str w, .int n, .int 0], .list [.str w, .int n], .none, .tuple [.int n, .str w]]
def more6 : List D := [.tuple [.str "few", .int 64], .tuple [.str "few", .int 65], .tuple [.str "low", .int 0], .tuple [.str "high", .int (-1)], .tuple [.none, .int 1], .tuple [.tuple [], .int 1]]
theorem ths_big (w : Str) (n : Int) : ∀ d ∈ ths w n ++ more6, big d ≤ 1000000 := by
  intro d hd
  have hm : ∀ e ∈ more6, big e ≤ 1000000 := by decide
  rcases List.mem_append.mp hd with hd | hd
  · simp only [ths, List.mem_cons, List.mem_nil_iff, or_false] at hd
    rcases hd with rfl | rfl | rfl | rfl | rfl | rfl | rfl | rfl <;> simp [big, bigs]
  · exact hm d hd
theorem plans_loop (w : Str) (n : Int) (x0 : U) (u2 u4 u5 u6 u7 u8 u9 u10 : Option U) (h : List O) : ∃ v4,
    ex G (run G F (dsOf dd) (k + 81)) F f_law_0 [some x0, some (.lab 2), u2, some (.d (.list (ths w n))), u4, u5, u6, u7, u8, u9, u10] h = .nx [some x0, some (.lab 2), u2, some (.d (.list (ths w n))), v4, u5, u6, u7, u8, u9, u10] h := by
  obtain ⟨σ', h', e2, ⟨v4, rfl⟩, rfl⟩ : ∃ σ' h', ex G (run G F (dsOf dd) (k + 81)) F f_law_0 [some x0, some (.lab 2), u2, some (.d (.list (ths w n))), u4, u5, u6, u7, u8, u9, u10] h = .nx σ' h' ∧ (∃ v4, σ' = [some x0, some (.lab 2), u2, some (.d (.list (ths w n))), v4, u5, u6, u7, u8, u9, u10]) ∧ h' = h := by
    refine for_inv (us := (ths w n ++ more6).map .d) (h1 := h) (fun pre σ h' => (∃ v4, σ = [some x0, some (.lab 2), u2, some (.d (.list (ths w n))), v4, u5, u6, u7, u8, u9, u10]) ∧ h' = h) ?_ ⟨⟨u4, rfl⟩, rfl⟩ ?_
    · have ha : addU false (.d (.list (ths w n))) (.d (.list more6)) h = .ok (.d (.list (ths w n ++ more6))) h := by rw [addU_l (by simp [ths, more6]), mkL_f]
      unfold more6 at ha
      generalize ths w n = zs at *
      simp [evCl_0, evCl_1, evCl_2, evCl_3, evCl_4, evCl_k, evCl_k2, evCl_k2r, evCl_k3r, ev, tv, evs, evo, evc, evw, evV, evC, evT, ev2, ev1, evCh, evB, evIf, evNil, evCons, evTup, evLst, evCall, evSl, evNo, evPart, vAnd, vOr, vNot, tAndE, tOrE, tNotE, binU, cmpU, biU, meU, g1, g2, maxG, minG, Es.len, Tg.slots, Tgs.slots, ex, exs, exh, sNx, sBk, sCt, sSeq, sDrop, sRet, sRetN, sAsg, sPar2, sPar3, sSub, sIf, sRaise, asg, asgs, R.bind_ok, R.bind_err, R.bind_bad, R.stm_ok, R.stm_err, R.stm_bad, opt_some, opt_none, noErr_ok, noErr_bad, leave_d, leave_n, leave_e, leave_da, mkL_f, tru, truU, truD, asB, asBo, getU_t0, getU_t1, getU_t2, getU_t3, getU_l0, getU_l1, getU_l2, getU_m1, getU_m2, getU_m3, eqU_i, eqU_s, eqU_b, eqU_nil, eqU_nilL, eqv_ii, eqv_ss, eqv_tnil, eqv_lnil, bool_bne, lenU_t, lenU_l, tupleU_l, tupleU_t, isiU, tyN, isaB, tyNames, cmpI, negU, srcK_d, srcU, pures, ha, more6]
    · rintro pre u r hu σ h' ⟨⟨v4, rfl⟩, rfl⟩
      obtain ⟨d, rfl, hd, _⟩ := map_split hu
      have hb := ths_big w n d hd
      have i1 := fun h => p_is_plan (F := F) (k := k + 78) d h
      have i2 := fun h => p_law_plan (F := F) (k := k + 79) d hb h
      have i3 := fun a b h => p_says (F := F) (k := k + 80) a b h
      simp only [Nat.add_assoc, Nat.reduceAdd] at i1 i2 i3
      exact ⟨[some x0, some (.lab 2), u2, some (.d (.list (ths w n))), some (.d d), u5, u6, u7, u8, u9, u10], _, _, rfl, by simp [l_law_0, evCl_0, evCl_1, evCl_2, evCl_3, evCl_4, evCl_k, evCl_k2, evCl_k2r, evCl_k3r, ev, tv, evs, evo, evc, evw, evV, evC, evT, ev2, ev1, evCh, evB, evIf, evNil, evCons, evTup, evLst, evCall, evSl, evNo, evPart, vAnd, vOr, vNot, tAndE, tOrE, tNotE, binU, cmpU, biU, meU, g1, g2, maxG, minG, Es.len, Tg.slots, Tgs.slots, ex, exs, exh, sNx, sBk, sCt, sSeq, sDrop, sRet, sRetN, sAsg, sPar2, sPar3, sSub, sIf, sRaise, asg, asgs, R.bind_ok, R.bind_err, R.bind_bad, R.stm_ok, R.stm_err, R.stm_bad, opt_some, opt_none, noErr_ok, noErr_bad, leave_d, leave_n, leave_e, leave_da, mkL_f, tru, truU, truD, asB, asBo, getU_t0, getU_t1, getU_t2, getU_t3, getU_l0, getU_l1, getU_l2, getU_m1, getU_m2, getU_m3, eqU_i, eqU_s, eqU_b, eqU_nil, eqU_nilL, eqv_ii, eqv_ss, eqv_tnil, eqv_lnil, bool_bne, lenU_t, lenU_l, tupleU_l, tupleU_t, isiU, tyN, isaB, tyNames, cmpI, negU, srcK_d, srcU, i1, i2, i3], ⟨⟨some (.d d), rfl⟩, rfl⟩⟩
  exact ⟨v4, e2⟩
theorem raised_all {f : Fm} (hf : DG 3 46 11 f) (hF : 6000 ≤ F) (x0 : U) (u2 u3 u4 u5 u7 u8 u9 u10 : Option U) (h : List O) :
    ev G (run G F (dsOf dd) (k + 81)) c_law_0 [some x0, some (.lab 2), u2, u3, u4, u5, some (.d f.d), u7, u8, u9, u10] h = .ok (.d (.list ((wrongs f).map fun _ => .bool true))) h := by
  have pw := fun h => p_wrong (F := F) (k := k + 80) f h
  simp only [Nat.add_assoc, Nat.reduceAdd] at pw
  have q := ev_lcD (G := G) (C := run G F (dsOf dd) (k + 81)) (m := false) (t := .nm 4) (w := .seq (.call "_law_wrong" [0] (.cons (.var 6) .nil) .nil)) (e := .call "_law_raised" [0] (.cons (.var 4) .nil) .nil) (σ := [some x0, some (.lab 2), u2, u3, u4, u5, some (.d f.d), u7, u8, u9, u10]) (h := h) (h1 := h) (wrongs f) (fun _ => .bool true)
    (by simp [evCl_0, evCl_1, evCl_2, evCl_3, evCl_4, evCl_k, evCl_k2, evCl_k2r, evCl_k3r, ev, tv, evs, evo, evc, evw, evV, evC, evT, ev2, ev1, evCh, evB, evIf, evNil, evCons, evTup, evLst, evCall, evSl, evNo, evPart, vAnd, vOr, vNot, tAndE, tOrE, tNotE, binU, cmpU, biU, meU, g1, g2, maxG, minG, Es.len, Tg.slots, Tgs.slots, ex, exs, exh, sNx, sBk, sCt, sSeq, sDrop, sRet, sRetN, sAsg, sPar2, sPar3, sSub, sIf, sRaise, asg, asgs, R.bind_ok, R.bind_err, R.bind_bad, R.stm_ok, R.stm_err, R.stm_bad, opt_some, opt_none, noErr_ok, noErr_bad, leave_d, leave_n, leave_e, leave_da, mkL_f, tru, truU, truD, asB, asBo, getU_t0, getU_t1, getU_t2, getU_t3, getU_l0, getU_l1, getU_l2, getU_m1, getU_m2, getU_m3, eqU_i, eqU_s, eqU_b, eqU_nil, eqU_nilL, eqv_ii, eqv_ss, eqv_tnil, eqv_lnil, bool_bne, lenU_t, lenU_l, tupleU_l, tupleU_t, isiU, tyN, isaB, tyNames, cmpI, negU, srcK_d, srcU, pw]) (by simp [wrongs]) (fun x hx => ⟨[some x0, some (.lab 2), u2, u3, some (.d x), u5, some (.d f.d), u7, u8, u9, u10], rfl, fun acc => by
      have b := p_raised (F := F) (k := k + 50) (d := x) (fun h => all_bad (k := k) hf hF x hx h) (h ++ [.lst acc])
      simp only [Nat.add_assoc, Nat.reduceAdd] at b
      simp [evCl_0, evCl_1, evCl_2, evCl_3, evCl_4, evCl_k, evCl_k2, evCl_k2r, evCl_k3r, ev, tv, evs, evo, evc, evw, evV, evC, evT, ev2, ev1, evCh, evB, evIf, evNil, evCons, evTup, evLst, evCall, evSl, evNo, evPart, vAnd, vOr, vNot, tAndE, tOrE, tNotE, binU, cmpU, biU, meU, g1, g2, maxG, minG, Es.len, Tg.slots, Tgs.slots, ex, exs, exh, sNx, sBk, sCt, sSeq, sDrop, sRet, sRetN, sAsg, sPar2, sPar3, sSub, sIf, sRaise, asg, asgs, R.bind_ok, R.bind_err, R.bind_bad, R.stm_ok, R.stm_err, R.stm_bad, opt_some, opt_none, noErr_ok, noErr_bad, leave_d, leave_n, leave_e, leave_da, mkL_f, tru, truU, truD, asB, asBo, getU_t0, getU_t1, getU_t2, getU_t3, getU_l0, getU_l1, getU_l2, getU_m1, getU_m2, getU_m3, eqU_i, eqU_s, eqU_b, eqU_nil, eqU_nilL, eqv_ii, eqv_ss, eqv_tnil, eqv_lnil, bool_bne, lenU_t, lenU_l, tupleU_l, tupleU_t, isiU, tyN, isaB, tyNames, cmpI, negU, srcK_d, srcU, b]⟩)
  rw [mkL_f] at q
  exact q

end K19

namespace K19
open PySem PySem.Spec PyProof.Rows L2 Py

variable {F k : Nat}
theorem side_get {r : Int} (h0 : 0 ≤ r) (h1 : r < 6) : ∃ w : Str, ∀ h, getU (.d (.list [.str "low", .str "high", .str "few", .str "Low", .str "", .str "lows"])) (.d (.int r)) h = .ok (.d (.str w)) h := by
  have : r = 0 ∨ r = 1 ∨ r = 2 ∨ r = 3 ∨ r = 4 ∨ r = 5 := by omega
  rcases this with rfl | rfl | rfl | rfl | rfl | rfl <;> exact ⟨_, fun h => rfl⟩
theorem whole (ns : List Int) (hF : 6000 ≤ F) : ∃ h', run G F (dsOf dd) (k + 82) "law" [.scr ns] [] = .ok (.d (.bool true)) h' := by
  obtain ⟨hs, qs, hb⟩ := p_source (F := F) (k := k + 80) ns
  obtain ⟨σ', h', e, hs', rfl, hb', u2, u5, u6, v9, v10, rfl, hu⟩ : ∃ σ' h', ex G (run G F (dsOf dd) (k + 81)) F f_law_1 [some (.scr ns), some (.lab 2), none, none, none, none, none, none, none, none, none] hs = .nx σ' h' ∧ ∃ hs', h' = hs' ∧ IsSrc (3000 * (rngL 0 1 4).length) hs' ∧
      ∃ u2 u5 u6 v9 v10, σ' = [some (.scr ns), some (.lab 2), u2, none, none, u5, u6, none, none, v9, v10] ∧ ((rngL 0 1 4).length = 0 ∨ ∃ f, u6 = some (.d (Fm.d f)) ∧ DG 3 46 11 f) := by
    refine for_inv (us := rngL 0 1 4) (h1 := hs) (fun pre σ h' => ∃ hs', h' = hs' ∧ IsSrc (3000 * pre.length) hs' ∧ ∃ u2 u5 u6 v9 v10, σ = [some (.scr ns), some (.lab 2), u2, none, none, u5, u6, none, none, v9, v10] ∧ (pre.length = 0 ∨ ∃ f, u6 = some (.d (Fm.d f)) ∧ DG 3 46 11 f)) ?_ ⟨hs, rfl, hb, none, none, none, none, none, rfl, .inl rfl⟩ (fun pre u r e σ h' hI => ?_)
    · have : Py.inR 4 = true := by decide
      simp [evCl_0, evCl_1, evCl_2, evCl_3, evCl_4, evCl_k, evCl_k2, evCl_k2r, evCl_k3r, ev, tv, evs, evo, evc, evw, evV, evC, evT, ev2, ev1, evCh, evB, evIf, evNil, evCons, evTup, evLst, evCall, evSl, evNo, evPart, vAnd, vOr, vNot, tAndE, tOrE, tNotE, binU, cmpU, biU, meU, g1, g2, maxG, minG, Es.len, Tg.slots, Tgs.slots, ex, exs, exh, sNx, sBk, sCt, sSeq, sDrop, sRet, sRetN, sAsg, sPar2, sPar3, sSub, sIf, sRaise, asg, asgs, R.bind_ok, R.bind_err, R.bind_bad, R.stm_ok, R.stm_err, R.stm_bad, opt_some, opt_none, noErr_ok, noErr_bad, leave_d, leave_n, leave_e, leave_da, mkL_f, tru, truU, truD, asB, asBo, rngS, this]
    · obtain ⟨hs', rfl, hb', u2, u5, u6, v9, v10, rfl, _⟩ := hI
      have hlt : pre.length < 4 := by
        have := congrArg List.length e
        simp [rngL] at this
        omega
      obtain ⟨hs2, f, w5, w9, w10, q, hb2, hf⟩ := turn (F := F) (k := k + 50) (by omega) hb' (by omega) (by omega) (.scr ns) (some u) none none u5 u6 none none v9 v10
      exact ⟨_, _, _, rfl, q, hs2, rfl, by simpa [Int.mul_add] using hb2, some u, w5, _, w9, w10, rfl, .inr ⟨f, rfl, hf⟩⟩
  obtain ⟨f, rfl, hf⟩ : ∃ f, u6 = some (.d (Fm.d f)) ∧ DG 3 46 11 f := by
    rcases hu with hu | hu
    · simp [rngL] at hu
    · exact hu
  have hb' : IsSrc 12000 h' := by simpa [rngL] using hb'
  obtain ⟨u, hs1, q1, ⟨a, rfl, a0, a1⟩, hb1⟩ := draws (F := F) (k + 80) (many := 6) (by decide) (by decide) h' 12000 [] hb' (by decide) (by decide)
  obtain ⟨u, hs2, q2, ⟨m, rfl, m0, m1⟩, hb2⟩ := draws (F := F) (k + 80) (many := 67) (by decide) (by decide) hs1 _ [] hb1 (by decide) (by decide)
  rw [List.append_nil, List.append_nil] at q1 q2
  obtain ⟨w, sg⟩ := side_get a0 a1
  obtain ⟨v4, e4⟩ := plans_loop (F := F) (k := k) w (m - 1) (.scr ns) u2 none u5 (some (.d f.d)) (some (.d (.str w))) (some (.d (.int (m - 1)))) v9 v10 hs2
  have e5 := raised_all (F := F) (k := k) hf hF (.scr ns) u2 (some (.d (.list (ths w (m - 1))))) v4 u5 (some (.d (.str w))) (some (.d (.int (m - 1)))) v9 v10 hs2
  have a3 : allU (.d (.list ((wrongs f).map fun _ => PyData.bool true))) hs2 = .ok (.d (.bool true)) hs2 := by
    rw [allU_map (fun _ => true)]
    simp
  simp only [ths] at e4 e5
  simp only [Nat.add_assoc, Nat.reduceAdd] at qs q1 q2
  refine ⟨[], ?_⟩
  rw [r_law]
  simp [b_law, evCl_0, evCl_1, evCl_2, evCl_3, evCl_4, evCl_k, evCl_k2, evCl_k2r, evCl_k3r, ev, tv, evs, evo, evc, evw, evV, evC, evT, ev2, ev1, evCh, evB, evIf, evNil, evCons, evTup, evLst, evCall, evSl, evNo, evPart, vAnd, vOr, vNot, tAndE, tOrE, tNotE, binU, cmpU, biU, meU, g1, g2, maxG, minG, Es.len, Tg.slots, Tgs.slots, ex, exs, exh, sNx, sBk, sCt, sSeq, sDrop, sRet, sRetN, sAsg, sPar2, sPar3, sSub, sIf, sRaise, asg, asgs, R.bind_ok, R.bind_err, R.bind_bad, R.stm_ok, R.stm_err, R.stm_bad, opt_some, opt_none, noErr_ok, noErr_bad, leave_d, leave_n, leave_e, leave_da, mkL_f, tru, truU, truD, asB, asBo, getU_t0, getU_t1, getU_t2, getU_t3, getU_l0, getU_l1, getU_l2, getU_m1, getU_m2, getU_m3, eqU_i, eqU_s, eqU_b, eqU_nil, eqU_nilL, eqv_ii, eqv_ss, eqv_tnil, eqv_lnil, bool_bne, lenU_t, lenU_l, tupleU_l, tupleU_t, isiU, tyN, isaB, tyNames, cmpI, negU, srcK_d, srcU, qs, e, q1, q2, sg, Py.intOp, gSubI, intU, pures, e4, e5, a3, leave, outU, Py.truD, -List.map_const, -List.map_const']

end K19

theorem PySem.Challenge.cw_wholesworn_k19_plans_and_light_formulas_holds : PySem.Challenge.rw_wholesworn_k19_plans_and_light_formulas.Holds := by
  refine K19.fin fun ns hl => ?_
  obtain ⟨h', e⟩ := K19.whole (F := 6000) (k := 18) ns (by decide)
  exact ⟨6000, h', e⟩
