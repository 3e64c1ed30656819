import PyProof.Rows.All
import Wide.All
import OpenK.AllK
import Wide.FinOn
import PyProof.EqAt
import PyProof.EqKinds
import PyProof.TupleCall
import KE.DataCmp
import HandS.Base
import HandS.Call
import HandS.List
import HandS.Comp
import HandS.Ends
import HandS.Dict
import HandS.Iter
import HandS.More
import HandS.Exc
import HandS.ExcOwn
import HandS.TryMany
import HandS.Words
import HandS.WordsExc
import HandS.Wide
import HandS.IsInst
import HandS.Defaults
import HandS.HeadHook1
import HandS.HeadHook2
import HandS.Flow
import HandS.TupAny
import HandS.TupMul
import HandS.TupLe
import HandS.WideBits
import HandS.SortKw
import HandS.SortInts
import HandS.Conv
import KE.DataMinMax
import HandS.Deep
import HandS.Text
import KE.GoesMore
import HandS.Zip
import KE.KDictWalk
import KE.KItemsList
import KE.KDictExact
import HandS.TryOnly
import HandS.Style
import HandS.Small
import HandS.SetFor
import HandS.Strs
import HandS.HeadEnd
import HandS.Head0
import HandS.Head1
import HandS.Head2
import PySem.Challenge.RW_wholesworn_k01_terms_reckoned
set_option Elab.async false
set_option linter.all false
set_option maxRecDepth 100000
set_option maxHeartbeats 0
/-! The interpreter's values, its heap, and how they stand for what the model has. -/
namespace Py
open PySem PySem.Spec PyProof.Rows L2

/-- pure data -/
abbrev D := PyData
/-- a value: pure, an object that may change; scr is the script as it is given, ty a built-in type, gl an object that a global name stands for -/
inductive U where
  | d (d : D) | lab (n : Nat) | scr (xs : List Int) | ty (n : String) | gl (x : Str)
/-- an object that may change -/
inductive O where
  | lst (xs : List D) | mix (xs : List U) | dct (kvs : List (Key × D)) | hold (kvs : List (Key × D))
  deriving Inhabited
/-- what a run gives -/
inductive R (α : Type) where
  | ok (a : α) (h : List O) | err (c : Str) (h : List O) | bad
def R.bind {α β : Type} (r : R α) (f : α → List O → R β) : R β := match r with
  | .ok a h => f a h
  | .err c h => .err c h
  | .bad => .bad
@[simp] theorem R.bind_ok {α β : Type} (a : α) (h : List O) (f : α → List O → R β) : (R.ok a h).bind f = f a h := rfl
@[simp] theorem R.bind_err {α β : Type} (c : Str) (h : List O) (f : α → List O → R β) : (R.err c h : R α).bind f = .err c h := rfl
@[simp] theorem R.bind_bad {α β : Type} (f : α → List O → R β) : (R.bad : R α).bind f = .bad := rfl

/-! ### what they stand for -/
def KTup (K : PySem.W.Frag) (a : Addr) (xs : List V) : Prop :=
  ∃ (o : Obj) (its : Array Value) (n : Nat), K.lookup a = some o ∧ o.cls = .type "tuple" ∧ o.data = .seq its n ∧ its.size ≤ sizeLine ∧ Vals xs its.toList
def KLst (K : PySem.W.Frag) (a : Addr) (xs : List V) : Prop :=
  ∃ (o : Obj) (its : Array Value) (n : Nat), K.lookup a = some o ∧ o.cls = .type "list" ∧ o.dict = none ∧ o.data = .seq its n ∧ its.size ≤ sizeLine ∧ Vals xs its.toList
section
variable (K : PySem.W.Frag) (H : Hp) (μ : List Addr)
def TupAt (a : Addr) (vs : List V) : Prop := (H a = some (.tup vs) ∧ a ∉ μ) ∨ KTup K a vs
def ScrAt (a : Addr) (vs : List V) : Prop := (∃ o, H a = some (.frz o (.lst vs)) ∧ a ∉ μ) ∨ KLst K a vs
mutual
inductive RD : D → V → Prop
  | non : RD .none .non
  | bl (b : Bool) : RD (.bool b) (.bl b)
  | int (i : Int) : RD (.int i) (.int i)
  | str (s : Str) : PyData.strOk s = true → RD (.str s) (.str s)
  | tup {a : Addr} {vs : List V} {ds : List D} : TupAt K H μ a vs → RDs ds vs → RD (.tuple ds) (.ref a)
  | lst {a : Addr} {vs : List V} {ds : List D} : H a = some (.lst vs) → a ∉ μ → RDs ds vs → RD (.list ds) (.ref a)
inductive RDs : List D → List V → Prop
  | nil : RDs [] []
  | cons {d : D} {v : V} {ds : List D} {vs : List V} : RD d v → RDs ds vs → RDs (d :: ds) (v :: vs)
end
inductive RU : U → V → Prop
  | d {d : D} {v : V} : RD K H μ d v → RU (.d d) v
  | lab {n : Nat} {a : Addr} : μ[n]? = some a → RU (.lab n) (.ref a)
  | scr {a : Addr} {ns : List Int} : ScrAt K H μ a (ns.map V.int) → RU (.scr ns) (.ref a)
  | ty (n : String) : RU (.ty n) (.ty n)
  | gl (x : Str) : RU (.gl x) (.ref (He.ga K x))
inductive RUs : List U → List V → Prop
  | nil : RUs [] []
  | cons {d : U} {v : V} {ds : List U} {vs : List V} : RU K H μ d v → RUs ds vs → RUs (d :: ds) (v :: vs)
def RKs : List (Key × D) → List (Key × V) → Prop := Paired fun p q => p.1 = q.1 ∧ RD K H μ p.2 q.2
def U.below (n : Nat) : U → Prop
  | .lab m => m < n
  | _ => True
instance (n : Nat) : DecidablePred (U.below n) := fun u => by cases u <;> (unfold U.below; infer_instance)
inductive RO (n : Nat) : O → HO → Prop
  | lst {xs : List D} {vs : List V} : RDs K H μ xs vs → RO n (.lst xs) (.lst vs)
  | mix {xs : List U} {vs : List V} : RUs K H μ xs vs → (∀ u ∈ xs, u.below n) → RO n (.mix xs) (.lst vs)
  | dct {kvs : List (Key × D)} {vs : List (Key × V)} : RKs K H μ kvs vs → RO n (.dct kvs) (.dK vs)
  | hold {o : Obj} {kvs : List (Key × D)} {vs : List (Key × V)} : RKs K H μ kvs vs → RO n (.hold kvs) (.frz o (.dK vs))
structure Rh (h : List O) : Prop where
  len : h.length = μ.length
  nd : μ.Nodup
  obj : ∀ n o a, h[n]? = some o → μ[n]? = some a → ∃ ho, H a = some ho ∧ RO K H μ n o ho
def RE (σ' : List (Option U)) (σ : L2.St) : Prop := σ'.length = σ.length ∧ ∀ (i : Nat) (u : U), σ'[i]? = some (some u) → ∃ v : V, σ[i]? = some (some v) ∧ RU K H μ u v
end
/-- the heap has grown, what may change has changed -/
structure Ext0 (μ : List Addr) (H : Hp) (μ' : List Addr) (H' : Hp) : Prop where
  pre : ∃ r, μ' = μ ++ r
  keep : ∀ a o, H a = some o → a ∉ μ → H' a = some o ∧ a ∉ μ'
section
variable {K : PySem.W.Frag} {H H' H1 H2 : Hp} {μ μ' μ1 μ2 : List Addr}
theorem Ext0.refl : Ext0 μ H μ H := ⟨⟨[], by simp⟩, fun a o h n => ⟨h, n⟩⟩
theorem Ext0.trans (e : Ext0 μ H μ1 H1) (f : Ext0 μ1 H1 μ2 H2) : Ext0 μ H μ2 H2 := by
  obtain ⟨r, rfl⟩ := e.pre
  obtain ⟨r', rfl⟩ := f.pre
  exact ⟨⟨r ++ r', by simp⟩, fun a o h n => let ⟨h1, n1⟩ := e.keep a o h n; f.keep a o h1 n1⟩
theorem Ext0.get (e : Ext0 μ H μ' H') {n : Nat} {a : Addr} (h : μ[n]? = some a) : μ'[n]? = some a := by
  obtain ⟨r, rfl⟩ := e.pre
  rw [List.getElem?_append_left (List.getElem?_eq_some_iff.mp h).1, h]
theorem TupAt.ext0 (e : Ext0 μ H μ' H') {a : Addr} {vs : List V} (h : TupAt K H μ a vs) : TupAt K H' μ' a vs := by
  rcases h with ⟨h, n⟩ | h
  · exact .inl (e.keep a _ h n)
  · exact .inr h
theorem ScrAt.ext0 (e : Ext0 μ H μ' H') {a : Addr} {vs : List V} (h : ScrAt K H μ a vs) : ScrAt K H' μ' a vs := by
  rcases h with ⟨o, h, n⟩ | h
  · exact .inl ⟨o, e.keep a _ h n⟩
  · exact .inr h
mutual
theorem RD.ext0 (e : Ext0 μ H μ' H') : ∀ {d : D} {v : V}, RD K H μ d v → RD K H' μ' d v
  | _, _, .non => .non
  | _, _, .bl b => .bl b
  | _, _, .int i => .int i
  | _, _, .str s h => .str s h
  | _, _, .tup h r => .tup (h.ext0 e) (RDs.ext0 e r)
  | _, _, .lst h n r => let ⟨h1, n1⟩ := e.keep _ _ h n; .lst h1 n1 (RDs.ext0 e r)
theorem RDs.ext0 (e : Ext0 μ H μ' H') : ∀ {d : List D} {v : List V}, RDs K H μ d v → RDs K H' μ' d v
  | _, _, .nil => .nil
  | _, _, .cons h r => .cons (RD.ext0 e h) (RDs.ext0 e r)
end
theorem RU.ext0 (e : Ext0 μ H μ' H') {u : U} {v : V} (h : RU K H μ u v) : RU K H' μ' u v := by
  cases h with
  | d h => exact .d (h.ext0 e)
  | lab h => exact .lab (e.get h)
  | scr h => exact .scr (h.ext0 e)
  | ty n => exact .ty n
  | gl x => exact .gl x
theorem RUs.ext0 (e : Ext0 μ H μ' H') {u : List U} {v : List V} (h : RUs K H μ u v) : RUs K H' μ' u v := by
  induction h with
  | nil => exact .nil
  | cons h _ ih => exact .cons (h.ext0 e) ih
theorem RKs.ext0 (e : Ext0 μ H μ' H') {u : List (Key × D)} {v : List (Key × V)} (h : RKs K H μ u v) : RKs K H' μ' u v :=
  Paired.mapP h fun _ _ q => ⟨q.1, q.2.ext0 e⟩
theorem RO.ext0 (e : Ext0 μ H μ' H') {n : Nat} {o : O} {ho : HO} (h : RO K H μ n o ho) : RO K H' μ' n o ho := by
  cases h with
  | lst h => exact .lst (h.ext0 e)
  | mix h b => exact .mix (h.ext0 e) b
  | dct h => exact .dct (h.ext0 e)
  | hold h => exact .hold (h.ext0 e)
theorem RE.ext0 (e : Ext0 μ H μ' H') {σ' : List (Option U)} {σ : L2.St} (h : RE K H μ σ' σ) : RE K H' μ' σ' σ :=
  ⟨h.1, fun i u q => let ⟨v, h1, h2⟩ := h.2 i u q; ⟨v, h1, h2.ext0 e⟩⟩
end
/-- .. and what is locked stays so -/
structure Ext (μ : List Addr) (H : Hp) (μ' : List Addr) (H' : Hp) : Prop extends Ext0 μ H μ' H' where
  frz : ∀ a o u, H a = some (.frz o u) → H' a = some (.frz o u)
section
variable {K : PySem.W.Frag} {H H' H1 H2 : Hp} {μ μ' μ1 μ2 : List Addr}
theorem Ext.refl : Ext μ H μ H := ⟨Ext0.refl, fun _ _ _ h => h⟩
theorem Ext.trans (e : Ext μ H μ1 H1) (f : Ext μ1 H1 μ2 H2) : Ext μ H μ2 H2 := ⟨e.toExt0.trans f.toExt0, fun a o u h => f.frz a o u (e.frz a o u h)⟩
theorem Ext.get (e : Ext μ H μ' H') {n : Nat} {a : Addr} (h : μ[n]? = some a) : μ'[n]? = some a := e.toExt0.get h
theorem TupAt.ext (e : Ext μ H μ' H') {a : Addr} {vs : List V} (h : TupAt K H μ a vs) : TupAt K H' μ' a vs := h.ext0 e.toExt0
theorem ScrAt.ext (e : Ext μ H μ' H') {a : Addr} {vs : List V} (h : ScrAt K H μ a vs) : ScrAt K H' μ' a vs := h.ext0 e.toExt0
theorem RD.ext (e : Ext μ H μ' H') {d : D} {v : V} (h : RD K H μ d v) : RD K H' μ' d v := RD.ext0 e.toExt0 h
theorem RDs.ext (e : Ext μ H μ' H') {d : List D} {v : List V} (h : RDs K H μ d v) : RDs K H' μ' d v := RDs.ext0 e.toExt0 h
theorem RU.ext (e : Ext μ H μ' H') {u : U} {v : V} (h : RU K H μ u v) : RU K H' μ' u v := h.ext0 e.toExt0
theorem RUs.ext (e : Ext μ H μ' H') {u : List U} {v : List V} (h : RUs K H μ u v) : RUs K H' μ' u v := h.ext0 e.toExt0
theorem RKs.ext (e : Ext μ H μ' H') {u : List (Key × D)} {v : List (Key × V)} (h : RKs K H μ u v) : RKs K H' μ' u v := RKs.ext0 e.toExt0 h
theorem RO.ext (e : Ext μ H μ' H') {n : Nat} {o : O} {ho : HO} (h : RO K H μ n o ho) : RO K H' μ' n o ho := h.ext0 e.toExt0
theorem RE.ext (e : Ext μ H μ' H') {σ' : List (Option U)} {σ : L2.St} (h : RE K H μ σ' σ) : RE K H' μ' σ' σ := h.ext0 e.toExt0
theorem RE.set {σ' : List (Option U)} {σ : L2.St} (h : RE K H μ σ' σ) {i : Nat} {u : U} {v : V} (r : RU K H μ u v) : RE K H μ (σ'.set i (some u)) (σ.set i (some v)) := by
  refine ⟨by rw [List.length_set, List.length_set, h.1], fun j w q => ?_⟩
  by_cases e : i = j
  · subst e
    by_cases hi : i < σ'.length
    · rw [List.getElem?_set_self hi] at q
      cases q
      exact ⟨v, List.getElem?_set_self (by rw [← h.1]; exact hi), r⟩
    · rw [List.getElem?_eq_none (by rw [List.length_set]; omega)] at q
      cases q
  · rw [List.getElem?_set_ne e] at q ⊢
    exact h.2 j w q
theorem RDs.length {ds : List D} {vs : List V} (h : RDs K H μ ds vs) : ds.length = vs.length := by
  induction ds generalizing vs with
  | nil => cases h; rfl
  | cons d ds ih => cases h with | cons _ r => rw [List.length_cons, List.length_cons, ih r]
theorem RDs.get {ds : List D} {vs : List V} (h : RDs K H μ ds vs) {i : Nat} {d : D} (e : ds[i]? = some d) : ∃ v, vs[i]? = some v ∧ RD K H μ d v := by
  induction ds generalizing vs i with
  | nil => simp at e
  | cons x ds ih =>
    cases h with
    | cons hx r =>
      cases i with
      | zero => simp at e; subst e; exact ⟨_, rfl, hx⟩
      | succ i => obtain ⟨v, h1, h2⟩ := ih r (i := i) (by simpa using e); exact ⟨v, by simpa using h1, h2⟩
theorem RDs.append {ds es : List D} {vs ws : List V} (h : RDs K H μ ds vs) (g : RDs K H μ es ws) : RDs K H μ (ds ++ es) (vs ++ ws) := by
  induction ds generalizing vs with
  | nil => cases h; exact g
  | cons d ds ih => cases h with | cons hx r => exact .cons hx (ih r)
theorem RDs.take {ds : List D} {vs : List V} (h : RDs K H μ ds vs) (n : Nat) : RDs K H μ (ds.take n) (vs.take n) := by
  induction ds generalizing vs n with
  | nil => cases h; cases n <;> exact .nil
  | cons d ds ih =>
    cases h with
    | cons hx r =>
      cases n with
      | zero => exact .nil
      | succ n => exact .cons hx (ih r n)
theorem RDs.drop {ds : List D} {vs : List V} (h : RDs K H μ ds vs) (n : Nat) : RDs K H μ (ds.drop n) (vs.drop n) := by
  induction ds generalizing vs n with
  | nil => cases h; cases n <;> exact .nil
  | cons d ds ih =>
    cases h with
    | cons hx r =>
      cases n with
      | zero => exact .cons hx r
      | succ n => exact ih r n
theorem RDs.set {ds : List D} {vs : List V} (h : RDs K H μ ds vs) {d : D} {v : V} (r : RD K H μ d v) (n : Nat) : RDs K H μ (ds.set n d) (vs.set n v) := by
  induction ds generalizing vs n with
  | nil => cases h; exact .nil
  | cons x ds ih =>
    cases h with
    | cons hx q =>
      cases n with
      | zero => exact .cons r q
      | succ n => exact .cons hx (ih q n)
theorem RDs.eraseIdx {ds : List D} {vs : List V} (h : RDs K H μ ds vs) (n : Nat) : RDs K H μ (ds.eraseIdx n) (vs.eraseIdx n) := by
  induction ds generalizing vs n with
  | nil => cases h; exact .nil
  | cons x ds ih =>
    cases h with
    | cons hx q =>
      cases n with
      | zero => exact q
      | succ n => exact .cons hx (ih q n)
theorem RDs.dropLast {ds : List D} {vs : List V} (h : RDs K H μ ds vs) : RDs K H μ ds.dropLast vs.dropLast := by
  induction ds generalizing vs with
  | nil => cases h; exact .nil
  | cons x ds ih =>
    cases h with
    | cons hx q =>
      cases q with
      | nil => exact .nil
      | cons hy q' => exact .cons hx (ih (.cons hy q'))
theorem RDs.reverse {ds : List D} {vs : List V} (h : RDs K H μ ds vs) : RDs K H μ ds.reverse vs.reverse := by
  induction ds generalizing vs with
  | nil => cases h; exact .nil
  | cons x ds ih =>
    cases h with
    | cons hx q => rw [List.reverse_cons, List.reverse_cons]; exact (ih q).append (.cons hx .nil)
theorem RUs.length {ds : List U} {vs : List V} (h : RUs K H μ ds vs) : ds.length = vs.length := by
  induction h with
  | nil => rfl
  | cons _ _ ih => rw [List.length_cons, List.length_cons, ih]
theorem RUs.get {ds : List U} {vs : List V} (h : RUs K H μ ds vs) {i : Nat} {d : U} (e : ds[i]? = some d) : ∃ v, vs[i]? = some v ∧ RU K H μ d v := by
  induction h generalizing i with
  | nil => simp at e
  | cons hx r ih =>
    cases i with
    | zero => simp at e; subst e; exact ⟨_, rfl, hx⟩
    | succ i => obtain ⟨v, h1, h2⟩ := ih (i := i) (by simpa using e); exact ⟨v, by simpa using h1, h2⟩
theorem RUs.set {ds : List U} {vs : List V} (h : RUs K H μ ds vs) {d : U} {v : V} (r : RU K H μ d v) (n : Nat) : RUs K H μ (ds.set n d) (vs.set n v) := by
  induction h generalizing n with
  | nil => exact .nil
  | cons hx q ih =>
    cases n with
    | zero => exact .cons r q
    | succ n => exact .cons hx (ih n)
/-- all pure -/
def pures : List U → Option (List D)
  | [] => some []
  | .d x :: r => (pures r).map (x :: ·)
  | _ :: _ => none
theorem pures_rel {us : List U} {ds : List D} {vs : List V} (h : RUs K H μ us vs) (e : pures us = some ds) : RDs K H μ ds vs := by
  induction h generalizing ds with
  | nil => cases e; exact .nil
  | @cons u v us vs hx r ih =>
    cases u with
    | lab n => cases e
    | scr n => cases e
    | ty n => cases e
    | gl n => cases e
    | d x =>
      unfold pures at e
      cases q : pures us with
      | none => rw [q] at e; cases e
      | some ys =>
        rw [q] at e
        cases e
        cases hx with
        | d hx => exact .cons hx (ih q)
theorem TupAt.sq {a : Addr} {vs : List V} (h : TupAt K H μ a vs) : SqT K H a vs := by
  rcases h with ⟨h, _⟩ | h
  · exact .inl (.inl h)
  · exact .inr h
theorem ScrAt.sq {a : Addr} {vs : List V} (h : ScrAt K H μ a vs) : SqL K H a vs := by
  rcases h with ⟨o, h, _⟩ | h
  · exact .inl (.inr ⟨o, h⟩)
  · exact .inr h
/-! ### the heap's steps -/
theorem Ext.new {p : Addr} {ho : HO} (hp : H p = none) : Ext μ H μ (upd H p ho) := ⟨⟨⟨[], by simp⟩, fun a o h n => ⟨by rw [upd_ne (ne_of_none h hp)]; exact h, n⟩⟩, fun a o u h => by rw [upd_ne (ne_of_none h hp)]; exact h⟩
theorem Rh.mono {h : List O} (r : Rh K H μ h) (e : Ext μ H μ H') (k : ∀ a o, a ∈ μ → H a = some o → H' a = some o) : Rh K H' μ h :=
  ⟨r.len, r.nd, fun n o a h1 h2 => let ⟨ho, q1, q2⟩ := r.obj n o a h1 h2; ⟨ho, k a ho (List.mem_of_getElem? h2) q1, q2.ext e⟩⟩
theorem Rh.new {h : List O} (r : Rh K H μ h) {p : Addr} {ho : HO} (hp : H p = none) : Rh K (upd H p ho) μ h :=
  r.mono (Ext.new hp) fun a o _ q => by rw [upd_ne (ne_of_none q hp)]; exact q
theorem Rh.there {h : List O} (r : Rh K H μ h) {a : Addr} (ha : a ∈ μ) : ∃ ho, H a = some ho := by
  obtain ⟨n, hn, e⟩ := List.getElem_of_mem ha
  have h1 : μ[n]? = some a := by rw [List.getElem?_eq_getElem hn, e]
  have hl : n < h.length := by rw [r.len]; exact hn
  obtain ⟨ho, q, _⟩ := r.obj n h[n] a (List.getElem?_eq_getElem hl) h1
  exact ⟨ho, q⟩
theorem Rh.notin {h : List O} (r : Rh K H μ h) {p : Addr} (hp : H p = none) : p ∉ μ := fun m => by
  obtain ⟨ho, q⟩ := r.there m
  rw [hp] at q; cases q
/-- a new object that may change -/
theorem Ext.lab {p : Addr} {ho : HO} (hp : H p = none) : Ext μ H (μ ++ [p]) (upd H p ho) :=
  ⟨⟨⟨[p], rfl⟩, fun a o h n => ⟨by rw [upd_ne (ne_of_none h hp)]; exact h, by
    rw [List.mem_append, not_or]
    exact ⟨n, by simpa using ne_of_none h hp⟩⟩⟩, fun a o u h => by rw [upd_ne (ne_of_none h hp)]; exact h⟩
theorem Rh.lab {h : List O} (r : Rh K H μ h) {p : Addr} {o : O} {ho : HO} (hp : H p = none) (q : RO K H μ h.length o ho) : Rh K (upd H p ho) (μ ++ [p]) (h ++ [o]) := by
  have e : Ext μ H (μ ++ [p]) (upd H p ho) := Ext.lab hp
  refine ⟨by simp [r.len], ?_, fun n o' a h1 h2 => ?_⟩
  · rw [List.nodup_append]
    exact ⟨r.nd, by simp, fun a ha b hb => by
      rw [List.mem_singleton] at hb
      subst hb
      rintro rfl
      exact r.notin hp ha⟩
  · by_cases hn : n < h.length
    · rw [List.getElem?_append_left hn] at h1
      rw [List.getElem?_append_left (by rw [← r.len]; exact hn)] at h2
      obtain ⟨ho', q1, q2⟩ := r.obj n o' a h1 h2
      exact ⟨ho', by rw [upd_ne (ne_of_none q1 hp)]; exact q1, q2.ext e⟩
    · have hn' : n = h.length := by
        have := (List.getElem?_eq_some_iff.mp h1).1
        simp at this
        omega
      subst hn'
      rw [List.getElem?_append_right (Nat.le_refl _)] at h1
      rw [List.getElem?_append_right (by rw [r.len]; exact Nat.le_refl _)] at h2
      simp [r.len] at h1 h2
      subst h1 h2
      exact ⟨ho, upd_same, q.ext e⟩
/-- an object is changed -/
theorem Ext0.chg {n : Nat} {a : Addr} {ho : HO} (ha : μ[n]? = some a) : Ext0 μ H μ (upd H a ho) :=
  ⟨⟨[], by simp⟩, fun b o h nb => ⟨by
    have ne : b ≠ a := by
      rintro rfl
      exact nb (List.mem_of_getElem? ha)
    rw [upd_ne ne]
    exact h, nb⟩⟩
def nfz : HO → Bool
  | .frz _ _ => false
  | _ => true
theorem Ext.chg {n : Nat} {a : Addr} {ho h0 : HO} (ha : μ[n]? = some a) (hh : H a = some h0) (hf : nfz h0 = true := by rfl) : Ext μ H μ (upd H a ho) :=
  ⟨Ext0.chg ha, fun b o u h => by
    have ne : b ≠ a := by
      rintro rfl
      rw [hh] at h
      cases h
      cases hf
    rw [upd_ne ne]
    exact h⟩
theorem nodup_at {μ : List Addr} (nd : μ.Nodup) {i j : Nat} {a : Addr} (h1 : μ[i]? = some a) (h2 : μ[j]? = some a) : i = j := by
  obtain ⟨hi, e1⟩ := List.getElem?_eq_some_iff.mp h1
  obtain ⟨hj, e2⟩ := List.getElem?_eq_some_iff.mp h2
  exact (List.getElem_inj nd).mp (e1.trans e2.symm)
theorem Rh.chg {h : List O} (r : Rh K H μ h) {n : Nat} {a : Addr} {o : O} {ho : HO} (ha : μ[n]? = some a) (q : RO K H μ n o ho) : Rh K (upd H a ho) μ (h.set n o) := by
  refine ⟨by rw [List.length_set, r.len], r.nd, fun m o' b h1 h2 => ?_⟩
  by_cases e : n = m
  · subst e
    rw [ha] at h2; cases h2
    have hn : n < h.length := by
      have := (List.getElem?_eq_some_iff.mp h1).1
      simpa using this
    rw [List.getElem?_set_self hn] at h1
    cases h1
    exact ⟨ho, upd_same, q.ext0 (Ext0.chg ha)⟩
  · rw [List.getElem?_set_ne e] at h1
    obtain ⟨ho', q1, q2⟩ := r.obj m o' b h1 h2
    have hb : b ≠ a := fun z => e (nodup_at r.nd ha (z ▸ h2))
    exact ⟨ho', by rw [upd_ne hb]; exact q1, q2.ext0 (Ext0.chg ha)⟩
theorem Rh.labAt {h : List O} (r : Rh K H μ h) {n : Nat} {o : O} (e : h[n]? = some o) : ∃ a, μ[n]? = some a := by
  have hn := (List.getElem?_eq_some_iff.mp e).1
  rw [r.len] at hn
  exact ⟨μ[n], List.getElem?_eq_getElem hn⟩
end
end Py

namespace Py
open PySem PySem.Spec PyProof.Rows L2

abbrev En := List (Option U)
/-- what a run tells of the wish behind it -/
def Post {α β : Type} (K : PySem.W.Frag) (W : WX) (σ : L2.St) (H : Hp) (μ : List Addr) (Rel : Hp → List Addr → α → β → Prop) (r : R α) (Q : β → Hp → Prop) : Prop :=
  match r with
  | .ok a h' => ∀ H' μ' b, Ext μ H μ' H' → Rh K H' μ' h' → Rel H' μ' a b → Q b H'
  | .err c h' => ∀ H' μ', Ext μ H μ' H' → Rh K H' μ' h' → W (.ref (He.ga K c)) none σ H'
  | .bad => False
section
variable {α β γ δ : Type} {K : PySem.W.Frag} {W : WX} {σ : L2.St} {H H' : Hp} {μ μ' : List Addr} {Rel : Hp → List Addr → α → β → Prop} {Rel2 : Hp → List Addr → γ → δ → Prop} {r : R α} {Q Q' : β → Hp → Prop} {Q2 : δ → Hp → Prop} {f : α → List O → R γ}
theorem Post.at (p : Post K W σ H μ Rel r Q) (e : Ext μ H μ' H') : Post K W σ H' μ' Rel r Q := by
  cases r with
  | ok a h => exact fun H2 μ2 b e2 => p H2 μ2 b (e.trans e2)
  | err c h => exact fun H2 μ2 e2 => p H2 μ2 (e.trans e2)
  | bad => exact p
theorem Post.bind (p : Post K W σ H μ Rel2 (r.bind f) Q2)
    (k : ∀ a h' H' μ' b, Ext μ H μ' H' → Rh K H' μ' h' → Rel H' μ' a b → Post K W σ H' μ' Rel2 (f a h') Q2 → Q b H') : Post K W σ H μ Rel r Q := by
  cases r with
  | ok a h => exact fun H2 μ2 b e2 rh rel => k a h H2 μ2 b e2 rh rel (Post.at p e2)
  | err c h => exact p
  | bad => exact p
theorem Post.ret {a : α} {b : β} {h : List O} (p : Post K W σ H μ Rel (.ok a h) Q) (rh : Rh K H μ h) (rel : Rel H μ a b) : Q b H := p H μ b Ext.refl rh rel
end

def eqD (a b : D) : Prop := a = b

/-- e tells what f says -/
def Den (X : Cx) (W : WX) (e : Expr) (f : En → List O → R U) : Prop :=
  ∃ t, PE X e t ∧ ∀ σ' h σ H μ Q, RE X.K H μ σ' σ → Rh X.K H μ h → Post X.K W σ H μ (RU X.K) (f σ' h) Q → t σ H Q
def DenA (X : Cx) (W : WX) (es : List Expr) (f : En → List O → R (List U)) : Prop :=
  ∃ t, PA X es t ∧ ∀ σ' h σ H μ Q, RE X.K H μ σ' σ → Rh X.K H μ h → Post X.K W σ H μ (RUs X.K) (f σ' h) Q → t σ H Q
def relB (_ : Hp) (_ : List Addr) (a b : Bool) : Prop := a = b
def DenT (X : Cx) (W : WX) (e : Expr) (f : En → List O → R Bool) : Prop :=
  ∃ t, PT X e t ∧ ∀ σ' h σ H μ Q, RE X.K H μ σ' σ → Rh X.K H μ h → Post X.K W σ H μ relB (f σ' h) Q → t σ H Q

section
variable {X : Cx} {W : WX}
/-! ### names, constants -/
def evC (u : U) : En → List O → R U := fun _ h => .ok u h
theorem den_int {i : Int} {j pos} : Den X W (.Constant (.int i) j pos) (evC (.d (.int i))) := ⟨_, pe_int, fun σ' h σ H μ Q re rh p => p.ret rh (.d (.int i))⟩
theorem den_bl {i : Bool} {j pos} : Den X W (.Constant (.bool i) j pos) (evC (.d (.bool i))) := ⟨_, pe_bl, fun σ' h σ H μ Q re rh p => p.ret rh (.d (.bl i))⟩
theorem den_str {i : Str} {j pos} (hs : PyData.strOk i = true) : Den X W (.Constant (.str i) j pos) (evC (.d (.str i))) := ⟨_, pe_str, fun σ' h σ H μ Q re rh p => p.ret rh (.d (.str i hs))⟩
theorem den_non {j pos} : Den X W (.Constant .none j pos) (evC (.d .none)) := ⟨_, pe_non, fun σ' h σ H μ Q re rh p => p.ret rh (.d .non)⟩
def evV (i : Nat) : En → List O → R U := fun σ h => match σ[i]? with
  | some (some u) => .ok u h
  | _ => .bad
theorem den_var {i : Nat} {x : Str} {pos : Pos} (hN : X.N[i]? = some x) (hv : Vis X.env.scope x) (hd : (x == ("__debug__" : Str)) = false) (hcd : (x == ("__classdict__" : Str)) = false) : Den X W (.Name x pos) (evV i) := by
  refine ⟨_, pe_var hN hv hd hcd, fun σ' h σ H μ Q re rh p => ?_⟩
  unfold evV at p
  split at p
  · rename_i u e
    obtain ⟨v, e2, r⟩ := re.2 i u e
    exact ⟨v, e2, p.ret rh r⟩
  · exact p.elim
/-- a global name that stands for an object -/
theorem den_gl {x : Str} {pos : Pos} (hg : Gl X x) (hm : X.mg x = some (.ref (He.ga X.K x))) (hd : (x == ("__debug__" : Str)) = false) : Den X W (.Name x pos) (evC (.gl x)) :=
  ⟨_, pe_glob hg hm (v := .ref (He.ga X.K x)) rfl hd, fun σ' h σ H μ Q re rh p => p.ret rh (.gl x)⟩
/-- a global that is an int -/
theorem den_gint {x : Str} {i : Int} {pos : Pos} (hg : Gl X x) (hm : ∃ t, X.mg x = some (.int i t)) (hd : (x == ("__debug__" : Str)) = false) : Den X W (.Name x pos) (evC (.d (.int i))) := by
  obtain ⟨t, hm⟩ := hm
  exact ⟨_, pe_glob hg hm (v := .int i) ⟨t, rfl⟩ hd, fun σ' h σ H μ Q re rh p => p.ret rh (.d (.int i))⟩
/-- a global that is a written tuple -/
theorem den_gtup {x : Str} {ds : List D} {pos : Pos} (hg : Gl X x) (hm : X.mg x = some (.ref (He.ga X.K x))) (ht : ∃ vs, KTup X.K (He.ga X.K x) vs ∧ ∀ H μ, RDs X.K H μ ds vs) (hd : (x == ("__debug__" : Str)) = false) : Den X W (.Name x pos) (evC (.d (.tuple ds))) := by
  obtain ⟨vs, h1, h2⟩ := ht
  exact ⟨_, pe_glob hg hm (v := .ref (He.ga X.K x)) rfl hd, fun σ' h σ H μ Q re rh p => p.ret rh (.d (.tup (.inr h1) (h2 H μ)))⟩
/-- a built-in type's name as a value -/
theorem den_ty {x : Str} {n : String} {pos : Pos} (hg : Gl X x) (hm : X.mg x = none) (hv : bootBuiltins x = some (.type n)) (hn : x ≠ "__name__") (hd : (x == ("__debug__" : Str)) = false) : Den X W (.Name x pos) (evC (.ty n)) :=
  ⟨_, pe_bltn hg hm hv (v := .ty n) rfl hn hd, fun σ' h σ H μ Q re rh p => p.ret rh (.ty n)⟩

/-! ### two in a row -/
def ev2 (fa fb : En → List O → R U) (g : U → U → List O → R U) : En → List O → R U := fun σ h => (fa σ h).bind fun a h1 => (fb σ h1).bind fun b h2 => g a b h2
def ev1 (fa : En → List O → R U) (g : U → List O → R U) : En → List O → R U := fun σ h => (fa σ h).bind fun a h1 => g a h1
/-- a rule for an operation on values says what g says -/
def OpD (X : Cx) (W : WX) (r : R2) (g : U → U → List O → R U) : Prop :=
  ∀ a b h σ H μ x y Q, Rh X.K H μ h → RU X.K H μ a x → RU X.K H μ b y → Post X.K W σ H μ (RU X.K) (g a b h) Q → r x y H Q
theorem two {ta tb : TE} {fa fb : En → List O → R U} {g : U → U → List O → R U} {r : R2}
    (ha : ∀ σ' h σ H μ Q, RE X.K H μ σ' σ → Rh X.K H μ h → Post X.K W σ H μ (RU X.K) (fa σ' h) Q → ta σ H Q) (hb : ∀ σ' h σ H μ Q, RE X.K H μ σ' σ → Rh X.K H μ h → Post X.K W σ H μ (RU X.K) (fb σ' h) Q → tb σ H Q)
    (hg : OpD X W r g) : ∀ σ' h σ H μ Q, RE X.K H μ σ' σ → Rh X.K H μ h → Post X.K W σ H μ (RU X.K) (ev2 fa fb g σ' h) Q → tOp r ta tb σ H Q := by
  intro σ' h σ H μ Q re rh p
  refine ha σ' h σ H μ _ re rh (Post.bind p fun a h1 H1 μ1 x e1 rh1 ra p1 => ?_)
  refine hb σ' h1 σ H1 μ1 _ (re.ext e1) rh1 (Post.bind p1 fun b h2 H2 μ2 y e2 rh2 rb p2 => ?_)
  exact hg a b h2 σ H2 μ2 x y Q rh2 (ra.ext e2) rb p2
theorem den_op {op : Operator} {r : R2} {a b : Expr} {pos : Pos} {fa fb : En → List O → R U} {g : U → U → List O → R U} (ho : OpR X (binaryOp op) r) (hg : OpD X W r g) (ha : Den X W a fa) (hb : Den X W b fb) :
    Den X W (.BinOp a op b pos) (ev2 fa fb g) := by
  obtain ⟨ta, pa, ca⟩ := ha
  obtain ⟨tb, pb, cb⟩ := hb
  exact ⟨_, pe_op ho pa pb, two ca cb hg⟩
theorem den_cmp {op : CmpOp} {r : R2} {a b : Expr} {pos : Pos} {fa fb : En → List O → R U} {g : U → U → List O → R U} (ho : OpR X (compareOp op) r) (hg : OpD X W r g) (ha : Den X W a fa) (hb : Den X W b fb) (hm : behindInMarks op b = false) :
    Den X W (.Compare a [op] [b] pos) (ev2 fa fb g) := by
  obtain ⟨ta, pa, ca⟩ := ha
  obtain ⟨tb, pb, cb⟩ := hb
  exact ⟨_, pe_cmpR ho pa pb hm, two ca cb hg⟩
/-- what may be there or not -/
def opt {α : Type} (o : Option α) (h : List O) : R α := match o with
  | some a => .ok a h
  | none => .bad
@[simp] theorem opt_some {α : Type} (a : α) (h : List O) : opt (some a) h = .ok a h := rfl
@[simp] theorem opt_none {α : Type} (h : List O) : (opt none h : R α) = .bad := rfl
theorem Post.opt {α γ δ : Type} {K : PySem.W.Frag} {σ : L2.St} {H : Hp} {μ : List Addr} {Rel : Hp → List Addr → γ → δ → Prop} {o : Option α} {h : List O} {f : α → List O → R γ} {Q : δ → Hp → Prop}
    (p : Post K W σ H μ Rel ((opt o h).bind f) Q) : ∃ a, o = some a ∧ Post K W σ H μ Rel (f a h) Q := by
  cases o with
  | none => exact p.elim
  | some a => exact ⟨a, rfl, p⟩
theorem Post.opt1 {α β : Type} {K : PySem.W.Frag} {σ : L2.St} {H : Hp} {μ : List Addr} {Rel : Hp → List Addr → α → β → Prop} {o : Option α} {h : List O} {Q : β → Hp → Prop}
    (p : Post K W σ H μ Rel (Py.opt o h) Q) : ∃ a, o = some a ∧ Post K W σ H μ Rel (.ok a h) Q := by
  cases o with
  | none => exact p.elim
  | some a => exact ⟨a, rfl, p⟩
/-- a truth told -/
def asBo : U → Option Bool
  | .d (.bool b) => some b
  | _ => none
def asB (u : U) (h : List O) : R Bool := opt (asBo u) h
def evB (f : En → List O → R U) : En → List O → R Bool := fun σ h => (f σ h).bind asB
theorem asBo_of {K : PySem.W.Frag} {H : Hp} {μ : List Addr} {u : U} {x : V} {k : Bool} (r : RU K H μ u x) (e : asBo u = some k) : x = .bl k := by
  cases r with
  | d r => cases r <;> cases e; rfl
  | _ => cases e
theorem asB_of {K : PySem.W.Frag} {σ : L2.St} {H : Hp} {μ : List Addr} {u : U} {h : List O} {x : V} {Q : Bool → Hp → Prop} (rh : Rh K H μ h) (r : RU K H μ u x) (p : Post K W σ H μ relB (asB u h) Q) : ∃ k, x = .bl k ∧ Q k H := by
  obtain ⟨k, e, p⟩ := Post.opt1 p
  exact ⟨k, asBo_of r e, p.ret rh rfl⟩
theorem dent_cmp {op : CmpOp} {r : R2} {a b : Expr} {pos : Pos} {fa fb : En → List O → R U} {g : U → U → List O → R U} (ho : OpR X (compareOp op) r) (hg : OpD X W r g) (ha : Den X W a fa) (hb : Den X W b fb) (hm : behindInMarks op b = false) :
    DenT X W (.Compare a [op] [b] pos) (evB (ev2 fa fb g)) := by
  obtain ⟨ta, pa, ca⟩ := ha
  obtain ⟨tb, pb, cb⟩ := hb
  refine ⟨_, pt_cmpR ho pa pb hm, fun σ' h σ H μ Q re rh p => ?_⟩
  exact two ca cb hg σ' h σ H μ _ re rh (Post.bind p fun u h1 H1 μ1 x e1 rh1 ru p1 => asB_of rh1 ru p1)
/-! ### chains -/
def evCh (fa fb fc : En → List O → R U) (g g' : U → U → List O → R U) : En → List O → R U := fun σ h => (fa σ h).bind fun a h1 => (fb σ h1).bind fun b h2 => (g a b h2).bind fun z h3 => (asB z h3).bind fun k h4 =>
  if k = true then (fc σ h4).bind fun c h5 => g' b c h5 else .ok (.d (.bool false)) h4
theorem chain {r r' : R2} {ta tb tc : TE} {fa fb fc : En → List O → R U} {g g' : U → U → List O → R U}
    (ca : ∀ σ' h σ H μ Q, RE X.K H μ σ' σ → Rh X.K H μ h → Post X.K W σ H μ (RU X.K) (fa σ' h) Q → ta σ H Q) (cb : ∀ σ' h σ H μ Q, RE X.K H μ σ' σ → Rh X.K H μ h → Post X.K W σ H μ (RU X.K) (fb σ' h) Q → tb σ H Q)
    (cc : ∀ σ' h σ H μ Q, RE X.K H μ σ' σ → Rh X.K H μ h → Post X.K W σ H μ (RU X.K) (fc σ' h) Q → tc σ H Q) (hg : OpD X W r g) (hg' : OpD X W r' g') :
    ∀ σ' h σ H μ Q, RE X.K H μ σ' σ → Rh X.K H μ h → Post X.K W σ H μ (RU X.K) (evCh fa fb fc g g' σ' h) Q → tChain r r' ta tb tc σ H Q := by
  intro σ' h σ H μ Q re rh p
  refine ca σ' h σ H μ _ re rh (Post.bind p fun a h1 H1 μ1 x e1 rh1 ra p1 => ?_)
  refine cb σ' h1 σ H1 μ1 _ (re.ext e1) rh1 (Post.bind p1 fun b h2 H2 μ2 y e2 rh2 rb p2 => ?_)
  refine hg a b h2 σ H2 μ2 x y _ rh2 (ra.ext e2) rb (Post.bind p2 fun z h3 H3 μ3 zv e3 rh3 rz p3 => ?_)
  obtain ⟨k, ek, p4⟩ := Post.opt p3
  refine ⟨k, asBo_of rz ek, ?_⟩
  cases k with
  | true =>
    rw [if_pos rfl] at p4 ⊢
    refine cc σ' h3 σ H3 μ3 _ (re.ext (e1.trans (e2.trans e3))) rh3 (Post.bind p4 fun c h5 H5 μ5 w e5 rh5 rc p5 => ?_)
    exact hg' b c h5 σ H5 μ5 y w Q rh5 (rb.ext (e3.trans e5)) rc p5
  | false =>
    rw [if_neg Bool.false_ne_true] at p4 ⊢
    exact p4.ret rh3 (.d (.bl false))
theorem den_chain {op op' : CmpOp} {r r' : R2} {a b c : Expr} {pos : Pos} {fa fb fc : En → List O → R U} {g g' : U → U → List O → R U} (ho : OpR X (compareOp op) r) (ho' : OpR X (compareOp op') r') (hg : OpD X W r g) (hg' : OpD X W r' g')
    (ha : Den X W a fa) (hb : Den X W b fb) (hc : Den X W c fc) (hm : lastMarks [op, op'] [b, c] = false) : Den X W (.Compare a [op, op'] [b, c] pos) (evCh fa fb fc g g') := by
  obtain ⟨ta, pa, ca⟩ := ha
  obtain ⟨tb, pb, cb⟩ := hb
  obtain ⟨tc, pc, cc⟩ := hc
  exact ⟨_, pe_chain ho ho' pa pb pc hm, chain ca cb cc hg hg'⟩
theorem dent_chain {op op' : CmpOp} {r r' : R2} {a b c : Expr} {pos : Pos} {fa fb fc : En → List O → R U} {g g' : U → U → List O → R U} (ho : OpR X (compareOp op) r) (ho' : OpR X (compareOp op') r') (hg : OpD X W r g) (hg' : OpD X W r' g')
    (ha : Den X W a fa) (hb : Den X W b fb) (hc : Den X W c fc) (hm : lastMarks [op, op'] [b, c] = false) : DenT X W (.Compare a [op, op'] [b, c] pos) (evB (evCh fa fb fc g g')) := by
  obtain ⟨ta, pa, ca⟩ := ha
  obtain ⟨tb, pb, cb⟩ := hb
  obtain ⟨tc, pc, cc⟩ := hc
  refine ⟨_, pt_chain ho ho' pa pb pc hm, fun σ' h σ H μ Q re rh p => ?_⟩
  exact chain ca cb cc hg hg' σ' h σ H μ _ re rh (Post.bind p fun u h1 H1 μ1 x e1 rh1 ru p1 => asB_of rh1 ru p1)
/-! ### truth -/
def truD : D → Option Bool
  | .none => some false
  | .bool b => some b
  | .int i => some (i != 0)
  | .str s => if s.length ≤ 1000 then some ((s.length : Int) != 0) else none
  | .tuple xs => some (!xs.isEmpty)
  | .list xs => some (!xs.isEmpty)
  | .dict xs => some (!xs.isEmpty)
def truO : O → Bool
  | .lst xs => !xs.isEmpty
  | .mix xs => !xs.isEmpty
  | .dct xs => !xs.isEmpty
  | .hold xs => !xs.isEmpty
def isHold : O → Bool
  | .hold _ => true
  | _ => false
def truU (u : U) (h : List O) : Option Bool := match u with
  | .d d => truD d
  | .lab n => (h[n]?.bind fun o => if isHold o = true then none else some (truO o))
  | .scr xs => some (!xs.isEmpty)
  | _ => none
def tru (u : U) (h : List O) : R Bool := opt (truU u h) h
theorem RDs.isEmpty {K : PySem.W.Frag} {H : Hp} {μ : List Addr} {ds : List D} {vs : List V} (h : RDs K H μ ds vs) : ds.isEmpty = vs.isEmpty := by cases h <;> rfl
theorem RUs.isEmpty {K : PySem.W.Frag} {H : Hp} {μ : List Addr} {ds : List U} {vs : List V} (h : RUs K H μ ds vs) : ds.isEmpty = vs.isEmpty := by cases h <;> rfl
theorem RKs.isEmpty {K : PySem.W.Frag} {H : Hp} {μ : List Addr} {ds : List (Key × D)} {vs : List (Key × V)} (h : RKs K H μ ds vs) : ds.isEmpty = vs.isEmpty := by cases h <;> rfl
theorem le_line {n : Nat} (h : n ≤ 1000) : n ≤ sizeLine := Nat.le_of_lt (small1000 h)
theorem truD_ok {K : PySem.W.Frag} {H : Hp} {μ : List Addr} {d : D} {x : V} {k : Bool} (r : RD K H μ d x) (e : truD d = some k) : TruV K x H k := by
  cases r with
  | non => cases e; exact rfl
  | bl b => cases e; exact rfl
  | int i => cases e; exact rfl
  | str s _ =>
    have e' : (if s.length ≤ 1000 then some ((s.length : Int) != 0) else none) = some k := e
    by_cases hs : s.length ≤ 1000
    · rw [if_pos hs] at e'
      cases e'
      exact ⟨le_line hs, rfl⟩
    · rw [if_neg hs] at e'
      cases e'
  | tup h r => cases e; exact .inr (.inl ⟨_, h.sq, by rw [r.isEmpty]⟩)
  | lst h n r => cases e; exact .inl ⟨_, SqL.of h, by rw [r.isEmpty]⟩
theorem truU_ok {K : PySem.W.Frag} {H : Hp} {μ : List Addr} {u : U} {h : List O} {x : V} {k : Bool} (rh : Rh K H μ h) (r : RU K H μ u x) (e : truU u h = some k) : TruV K x H k := by
  cases r with
  | d r => exact truD_ok r e
  | @scr a ns h => cases e; exact .inl ⟨_, h.sq, by cases ns <;> rfl⟩
  | ty n => cases e
  | gl x => cases e
  | @lab n a r =>
    have e' : (h[n]?.bind fun o => if isHold o = true then none else some (truO o)) = some k := e
    cases q : h[n]? with
    | none => rw [q] at e'; cases e'
    | some o =>
      rw [q] at e'
      have e' : (if isHold o = true then none else some (truO o)) = some k := e'
      obtain ⟨ho, h1, h2⟩ := rh.obj n o a q r
      by_cases hh : isHold o = true
      · rw [if_pos hh] at e'; cases e'
      rw [if_neg hh] at e'
      cases e'
      cases h2 with
      | hold z => exact absurd rfl hh
      | lst z => exact .inl ⟨_, SqL.of h1, by show (!List.isEmpty _) = _; rw [z.isEmpty]⟩
      | mix z _ => exact .inl ⟨_, SqL.of h1, by show (!List.isEmpty _) = _; rw [z.isEmpty]⟩
      | dct z => exact .inr (.inr ⟨_, h1, by show (!List.isEmpty _) = _; rw [z.isEmpty]⟩)
def evT (f : En → List O → R U) : En → List O → R Bool := fun σ h => (f σ h).bind tru
theorem dent_truth {a : Expr} {fa : En → List O → R U} (ha : Den X W a fa) (he : ∀ whole, isTrue a X.env whole = (do let v ← whole; standAt a.pos; holding [v] (truthy v))) : DenT X W a (evT fa) := by
  obtain ⟨ta, pa, ca⟩ := ha
  refine ⟨_, pt_truth pa he, fun σ' h σ H μ Q re rh p => ?_⟩
  refine ca σ' h σ H μ _ re rh (Post.bind p fun u h1 H1 μ1 x e1 rh1 ru p1 => ?_)
  obtain ⟨k, ek, p2⟩ := Post.opt1 p1
  exact ⟨k, truU_ok rh1 ru ek, p2.ret rh1 rfl⟩
/-! ### and, or, not -/
def tAndE (f g : En → List O → R Bool) : En → List O → R Bool := fun σ h => (f σ h).bind fun c h1 => if c = true then g σ h1 else .ok false h1
def tOrE (f g : En → List O → R Bool) : En → List O → R Bool := fun σ h => (f σ h).bind fun c h1 => if c = true then .ok true h1 else g σ h1
def tNotE (f : En → List O → R Bool) : En → List O → R Bool := fun σ h => (f σ h).bind fun c h1 => .ok (!c) h1
/-- a chain of and, or as a test -/
def DenW (X : Cx) (W : WX) (e : Expr) (f : En → List O → R Bool) : Prop :=
  ∃ t, PW X e t ∧ ∀ σ' h σ H μ Q, RE X.K H μ σ' σ → Rh X.K H μ h → Post X.K W σ H μ relB (f σ' h) Q → t σ H Q
theorem DenW.t {e : Expr} {f : En → List O → R Bool} (h : DenW X W e f) : DenT X W e f := let ⟨t, p, c⟩ := h; ⟨t, p.pt, c⟩
theorem denw_and1 {a : Expr} {pos : Pos} {fa : En → List O → R Bool} (ha : DenT X W a fa) : DenW X W (.BoolOp .And [a] pos) fa := let ⟨t, p, c⟩ := ha; ⟨t, pw_and1 p, c⟩
theorem denw_or1 {a : Expr} {pos : Pos} {fa : En → List O → R Bool} (ha : DenT X W a fa) : DenW X W (.BoolOp .Or [a] pos) fa := let ⟨t, p, c⟩ := ha; ⟨t, pw_or1 p, c⟩
theorem denw_and {a b : Expr} {rest : List Expr} {pos : Pos} {fa fb : En → List O → R Bool} (ha : DenT X W a fa) (hb : DenW X W (.BoolOp .And (b :: rest) pos) fb) : DenW X W (.BoolOp .And (a :: b :: rest) pos) (tAndE fa fb) := by
  obtain ⟨ta, pa, ca⟩ := ha
  obtain ⟨tb, pb, cb⟩ := hb
  refine ⟨_, pw_and pa pb, fun σ' h σ H μ Q re rh p => ?_⟩
  refine ca σ' h σ H μ _ re rh (Post.bind p fun c h1 H1 μ1 k e1 rh1 rc p1 => ?_)
  cases rc
  cases c with
  | true => rw [if_pos rfl] at p1 ⊢; exact cb σ' h1 σ H1 μ1 _ (re.ext e1) rh1 p1
  | false => rw [if_neg Bool.false_ne_true] at p1 ⊢; exact p1.ret rh1 rfl
theorem denw_or {a b : Expr} {rest : List Expr} {pos : Pos} {fa fb : En → List O → R Bool} (ha : DenT X W a fa) (hb : DenW X W (.BoolOp .Or (b :: rest) pos) fb) : DenW X W (.BoolOp .Or (a :: b :: rest) pos) (tOrE fa fb) := by
  obtain ⟨ta, pa, ca⟩ := ha
  obtain ⟨tb, pb, cb⟩ := hb
  refine ⟨_, pw_or pa pb, fun σ' h σ H μ Q re rh p => ?_⟩
  refine ca σ' h σ H μ _ re rh (Post.bind p fun c h1 H1 μ1 k e1 rh1 rc p1 => ?_)
  cases rc
  cases c with
  | true => rw [if_pos rfl] at p1 ⊢; exact p1.ret rh1 rfl
  | false => rw [if_neg Bool.false_ne_true] at p1 ⊢; exact cb σ' h1 σ H1 μ1 _ (re.ext e1) rh1 p1
theorem dent_not {a : Expr} {pos : Pos} {fa : En → List O → R Bool} (ha : DenT X W a fa) : DenT X W (.UnaryOp .Not a pos) (tNotE fa) := by
  obtain ⟨ta, pa, ca⟩ := ha
  refine ⟨_, pt_not pa, fun σ' h σ H μ Q re rh p => ?_⟩
  refine ca σ' h σ H μ _ re rh (Post.bind p fun c h1 H1 μ1 k e1 rh1 rc p1 => ?_)
  cases rc
  exact p1.ret rh1 rfl
def vAnd (f g : En → List O → R U) : En → List O → R U := fun σ h => (f σ h).bind fun u h1 => (tru u h1).bind fun c h2 => if c = true then g σ h2 else .ok u h2
def vOr (f g : En → List O → R U) : En → List O → R U := fun σ h => (f σ h).bind fun u h1 => (tru u h1).bind fun c h2 => if c = true then .ok u h2 else g σ h2
def vNot (f : En → List O → R U) : En → List O → R U := fun σ h => (f σ h).bind fun u h1 => (tru u h1).bind fun c h2 => .ok (.d (.bool (!c))) h2
theorem den_and {a b : Expr} {rest : List Expr} {pos : Pos} {fa fb : En → List O → R U} (ha : Den X W a fa) (hb : Den X W (.BoolOp .And (b :: rest) pos) fb) : Den X W (.BoolOp .And (a :: b :: rest) pos) (vAnd fa fb) := by
  obtain ⟨ta, pa, ca⟩ := ha
  obtain ⟨tb, pb, cb⟩ := hb
  refine ⟨_, pe_andT pa pb, fun σ' h σ H μ Q re rh p => ?_⟩
  refine ca σ' h σ H μ _ re rh (Post.bind p fun u h1 H1 μ1 x e1 rh1 ru p1 => ?_)
  obtain ⟨k, ek, p2⟩ := Post.opt p1
  refine ⟨k, truU_ok rh1 ru ek, ?_⟩
  cases k with
  | true => rw [if_pos rfl] at p2 ⊢; exact cb σ' h1 σ H1 μ1 _ (re.ext e1) rh1 p2
  | false => rw [if_neg Bool.false_ne_true] at p2 ⊢; exact p2.ret rh1 ru
theorem den_or {a b : Expr} {rest : List Expr} {pos : Pos} {fa fb : En → List O → R U} (ha : Den X W a fa) (hb : Den X W (.BoolOp .Or (b :: rest) pos) fb) : Den X W (.BoolOp .Or (a :: b :: rest) pos) (vOr fa fb) := by
  obtain ⟨ta, pa, ca⟩ := ha
  obtain ⟨tb, pb, cb⟩ := hb
  refine ⟨_, pe_orT pa pb, fun σ' h σ H μ Q re rh p => ?_⟩
  refine ca σ' h σ H μ _ re rh (Post.bind p fun u h1 H1 μ1 x e1 rh1 ru p1 => ?_)
  obtain ⟨k, ek, p2⟩ := Post.opt p1
  refine ⟨k, truU_ok rh1 ru ek, ?_⟩
  cases k with
  | true => rw [if_pos rfl] at p2 ⊢; exact p2.ret rh1 ru
  | false => rw [if_neg Bool.false_ne_true] at p2 ⊢; exact cb σ' h1 σ H1 μ1 _ (re.ext e1) rh1 p2
theorem den_one {op} {a : Expr} {pos : Pos} {fa : En → List O → R U} (ha : Den X W a fa) : Den X W (.BoolOp op [a] pos) fa := let ⟨t, p, c⟩ := ha; ⟨t, pe_one p, c⟩
theorem den_not {a : Expr} {pos : Pos} {fa : En → List O → R U} (ha : Den X W a fa) : Den X W (.UnaryOp .Not a pos) (vNot fa) := by
  obtain ⟨ta, pa, ca⟩ := ha
  refine ⟨_, pe_notT pa, fun σ' h σ H μ Q re rh p => ?_⟩
  refine ca σ' h σ H μ _ re rh (Post.bind p fun u h1 H1 μ1 x e1 rh1 ru p1 => ?_)
  obtain ⟨k, ek, p2⟩ := Post.opt p1
  exact ⟨k, truU_ok rh1 ru ek, p2.ret rh1 (.d (.bl _))⟩
/-- a if t else b -/
def evIf (t : En → List O → R Bool) (f g : En → List O → R U) : En → List O → R U := fun σ h => (t σ h).bind fun c h1 => if c = true then f σ h1 else g σ h1
theorem den_if {c a b : Expr} {pos : Pos} {ft : En → List O → R Bool} {fa fb : En → List O → R U} (hc : DenT X W c ft) (ha : Den X W a fa) (hb : Den X W b fb) : Den X W (.IfExp c a b pos) (evIf ft fa fb) := by
  obtain ⟨tc, pc, cc⟩ := hc
  obtain ⟨ta, pa, ca⟩ := ha
  obtain ⟨tb, pb, cb⟩ := hb
  refine ⟨_, pe_ifExp pc pa pb, fun σ' h σ H μ Q re rh p => ?_⟩
  refine cc σ' h σ H μ _ re rh (Post.bind p fun c h1 H1 μ1 k e1 rh1 rc p1 => ?_)
  cases rc
  cases c with
  | true => rw [if_pos rfl] at p1 ⊢; exact ca σ' h1 σ H1 μ1 _ (re.ext e1) rh1 p1
  | false => rw [if_neg Bool.false_ne_true] at p1 ⊢; exact cb σ' h1 σ H1 μ1 _ (re.ext e1) rh1 p1
/-! ### arguments, displays -/
def evNil : En → List O → R (List U) := fun _ h => .ok [] h
def evCons (f : En → List O → R U) (g : En → List O → R (List U)) : En → List O → R (List U) := fun σ h => (f σ h).bind fun u h1 => (g σ h1).bind fun us h2 => .ok (u :: us) h2
theorem dena_nil : DenA X W [] evNil := ⟨_, pa_nil, fun σ' h σ H μ Q re rh p => p.ret rh .nil⟩
theorem dena_cons {e : Expr} {es : List Expr} {f : En → List O → R U} {g : En → List O → R (List U)} (hf : Den X W e f) (hg : DenA X W es g) (hs : starEach (e :: es) X.env = (false, eval e X.env) :: starEach es X.env) : DenA X W (e :: es) (evCons f g) := by
  obtain ⟨ta, pa, ca⟩ := hf
  obtain ⟨tb, pb, cb⟩ := hg
  refine ⟨_, pa_cons pa pb hs, fun σ' h σ H μ Q re rh p => ?_⟩
  refine ca σ' h σ H μ _ re rh (Post.bind p fun u h1 H1 μ1 x e1 rh1 ru p1 => ?_)
  refine cb σ' h1 σ H1 μ1 _ (re.ext e1) rh1 (Post.bind p1 fun us h2 H2 μ2 xs e2 rh2 rus p2 => ?_)
  exact p2.ret rh2 (.cons (ru.ext e2) rus)
/-- a new pure list, or one that may change -/
def mkL (m : Bool) (xs : List D) (h : List O) : R U := if m = true then .ok (.lab h.length) (h ++ [.lst xs]) else .ok (.d (.list xs)) h
theorem mkL_of {K : PySem.W.Frag} {σ : L2.St} {H : Hp} {μ : List Addr} {m : Bool} {xs : List D} {vs : List V} {h : List O} {Q : VK} (rh : Rh K H μ h) (r : RDs K H μ xs vs) (p : Post K W σ H μ (RU K) (mkL m xs h) Q) :
    ∀ l, H l = none → Q (.ref l) (upd H l (.lst vs)) := by
  intro l hl
  unfold mkL at p
  cases m with
  | true =>
    rw [if_pos rfl] at p
    exact p _ _ _ (Ext.lab hl) (rh.lab hl (.lst r)) (.lab (by rw [rh.len]; simp))
  | false =>
    rw [if_neg Bool.false_ne_true] at p
    exact p _ _ _ (Ext.new hl) (rh.new hl) (.d (.lst upd_same (rh.notin hl) (r.ext (Ext.new hl))))
theorem tup_of {K : PySem.W.Frag} {σ : L2.St} {H : Hp} {μ : List Addr} {xs : List D} {vs : List V} {h : List O} {Q : VK} (rh : Rh K H μ h) (r : RDs K H μ xs vs) (p : Post K W σ H μ (RU K) (.ok (.d (.tuple xs)) h) Q) :
    ∀ l, H l = none → Q (.ref l) (upd H l (.tup vs)) := by
  intro l hl
  exact p _ _ _ (Ext.new hl) (rh.new hl) (.d (.tup (.inl ⟨upd_same, rh.notin hl⟩) (r.ext (Ext.new hl))))
def evTup (f : En → List O → R (List U)) : En → List O → R U := fun σ h => (f σ h).bind fun us h1 => (opt (pures us) h1).bind fun ds h2 => if ds.length ≤ 1000 then .ok (.d (.tuple ds)) h2 else .bad
theorem den_tup {es : List Expr} {k : Nat} {pos : Pos} {f : En → List O → R (List U)} (hf : DenA X W es f) : Den X W (.Tuple es k pos) (evTup f) := by
  obtain ⟨ta, pa, ca⟩ := hf
  refine ⟨_, pe_tup pa, fun σ' h σ H μ Q re rh p => ?_⟩
  refine ca σ' h σ H μ _ re rh (Post.bind p fun us h1 H1 μ1 xs e1 rh1 ru p1 => ?_)
  obtain ⟨ds, ed, p2⟩ := Post.opt p1
  have rd := pures_rel ru ed
  by_cases hl : ds.length ≤ 1000
  · rw [if_pos hl] at p2
    exact ⟨by rw [← rd.length]; exact le_line hl, tup_of rh1 rd p2⟩
  · rw [if_neg hl] at p2
    exact p2.elim
def mkM (us : List U) (h : List O) : R U := if ∀ u ∈ us, u.below h.length then .ok (.lab h.length) (h ++ [.mix us]) else .bad
def evLst (m : Bool) (f : En → List O → R (List U)) : En → List O → R U := fun σ h => (f σ h).bind fun us h1 => if us.length ≤ 1000 then (match pures us with
  | some ds => mkL m ds h1
  | none => if m = true then mkM us h1 else .bad) else .bad
theorem den_lst {m : Bool} {es : List Expr} {pos : Pos} {f : En → List O → R (List U)} (hf : DenA X W es f) : Den X W (.List es pos) (evLst m f) := by
  obtain ⟨ta, pa, ca⟩ := hf
  refine ⟨_, pe_lst pa, fun σ' h σ H μ Q re rh p => ?_⟩
  refine ca σ' h σ H μ _ re rh (Post.bind p fun us h1 H1 μ1 xs e1 rh1 ru p1 => ?_)
  by_cases hl : us.length ≤ 1000
  · rw [if_pos hl] at p1
    refine ⟨by rw [← ru.length]; exact le_line hl, ?_⟩
    cases ed : pures us with
    | some ds =>
      simp only [ed] at p1
      exact mkL_of rh1 (pures_rel ru ed) p1
    | none =>
      simp only [ed] at p1
      cases m with
      | false => rw [if_neg Bool.false_ne_true] at p1; exact p1.elim
      | true =>
        rw [if_pos rfl] at p1
        unfold mkM at p1
        by_cases hb : ∀ u ∈ us, u.below h1.length
        · rw [if_pos hb] at p1
          exact fun l hl' => p1 _ _ _ (Ext.lab hl') (rh1.lab hl' (.mix ru hb)) (.lab (by rw [rh1.len]; simp))
        · rw [if_neg hb] at p1
          exact p1.elim
  · rw [if_neg hl] at p1
    exact p1.elim
end
end Py

namespace Py
open PySem PySem.Spec PyProof.Rows L2
theorem line_eq : sizeLine = 16777216 := sizeLine_eq
section
variable {K : PySem.W.Frag} {H : Hp} {μ : List Addr} {h : List O} {x y : V}
theorem RU.int_inv {i : Int} (r : RU K H μ (.d (.int i)) x) : x = .int i := by cases r with | d r => cases r; rfl
theorem RU.str_inv {i : Str} (r : RU K H μ (.d (.str i)) x) : x = .str i := by cases r with | d r => cases r; rfl
theorem RU.tup_inv {xs : List D} (r : RU K H μ (.d (.tuple xs)) x) : ∃ a vs, x = .ref a ∧ TupAt K H μ a vs ∧ RDs K H μ xs vs := by
  cases r with
  | d r => cases r with | tup h q => exact ⟨_, _, rfl, h, q⟩
theorem RU.lst_inv {xs : List D} (r : RU K H μ (.d (.list xs)) x) : ∃ a vs, x = .ref a ∧ H a = some (.lst vs) ∧ a ∉ μ ∧ RDs K H μ xs vs := by
  cases r with
  | d r => cases r with | lst h n q => exact ⟨_, _, rfl, h, n, q⟩
/-- a list, pure or one that may change -/
def listOf (u : U) (h : List O) : Option (List D) := match u with
  | .d (.list xs) => some xs
  | .lab n => (match h[n]? with
    | some (.lst xs) => some xs
    | _ => none)
  | _ => none
theorem listOf_of {u : U} {xs : List D} (rh : Rh K H μ h) (r : RU K H μ u x) (e : listOf u h = some xs) : ∃ a vs, x = .ref a ∧ H a = some (.lst vs) ∧ RDs K H μ xs vs := by
  cases r with
  | d r =>
    cases r with
    | lst h1 n q => cases e; exact ⟨_, _, rfl, h1, q⟩
    | _ => cases e
  | @lab n a r =>
    have e' : (match h[n]? with | some (.lst xs) => some xs | _ => none) = some xs := e
    cases q : h[n]? with
    | none => rw [q] at e'; cases e'
    | some o =>
      rw [q] at e'
      cases o with
      | lst ys =>
        cases e'
        obtain ⟨ho, h1, h2⟩ := rh.obj n _ a q r
        cases h2 with
        | lst h2 => exact ⟨_, _, rfl, h1, h2⟩
      | mix ys => cases e'
      | dct ys => cases e'
      | hold ys => cases e'
  | _ => cases e
/-- a list or tuple -/
def seqOf (u : U) (h : List O) : Option (List D) := match u with
  | .d (.tuple xs) => some xs
  | .scr xs => some (xs.map .int)
  | u => listOf u h
theorem RDs_ints : ∀ ns : List Int, RDs K H μ (ns.map .int) (ns.map V.int)
  | [] => .nil
  | n :: ns => .cons (.int n) (RDs_ints ns)
theorem seqOf_of {u : U} {xs : List D} (rh : Rh K H μ h) (r : RU K H μ u x) (e : seqOf u h = some xs) : ∃ a vs, x = .ref a ∧ (SqL K H a vs ∨ SqT K H a vs) ∧ RDs K H μ xs vs := by
  cases r with
  | d r =>
    cases r with
    | lst h1 n q => cases e; exact ⟨_, _, rfl, .inl (SqL.of h1), q⟩
    | tup h1 q => cases e; exact ⟨_, _, rfl, .inr h1.sq, q⟩
    | _ => cases e
  | @lab n a r =>
    obtain ⟨a', vs, e1, h1, q⟩ := listOf_of rh (.lab r) (show listOf (.lab n) h = some xs from e)
    exact ⟨a', vs, e1, .inl (SqL.of h1), q⟩
  | scr h1 => cases e; exact ⟨_, _, rfl, .inl h1.sq, RDs_ints _⟩
  | _ => cases e
end
/-! ### + -/
def addD : D → D → Option D
  | .int i, .int j => some (.int (i + j))
  | .str s, .str t => if s.length + t.length ≤ 10000000 ∧ PyData.strOk (s ++ t) = true then some (.str (s ++ t)) else none
  | .tuple xs, .tuple ys => if xs.length + ys.length ≤ 10000000 then some (.tuple (xs ++ ys)) else none
  | _, _ => none
def addU (m : Bool) (a b : U) (h : List O) : R U := match listOf a h, listOf b h with
  | some xs, some ys => if xs.length + ys.length ≤ 10000000 then mkL m (xs ++ ys) h else .bad
  | _, _ => (match a, b with
    | .d x, .d y => (opt (addD x y) h).bind fun z h => .ok (.d z) h
    | _, _ => .bad)
def rAddA (K : PySem.W.Frag) : R2 := fun x y H Q => rI0 (fun i j => .int (i + j)) x y H Q ∨ ((∃ i j, x = .str i ∧ y = .str j ∧ i.length + j.length ≤ sizeLine ∧ Q (.str (i ++ j)) H) ∨ (rCatA K x y H Q ∨ rCat x y H Q))
theorem op_addA {X : Cx} : OpR X (binaryOp .Add) (rAddA X.K) := OpR.or op_add (OpR.or op_add_str (OpR.or op_catA op_cat))
section
variable {X : Cx} {W : WX}
theorem addD_of {K : PySem.W.Frag} {σ : L2.St} {H : Hp} {μ : List Addr} {h : List O} {x y : V} {a b c : D} {Q : VK} (rh : Rh K H μ h) (ra : RD K H μ a x) (rb : RD K H μ b y) (e : addD a b = some c) (p : Post K W σ H μ (RU K) (.ok (.d c) h) Q) : rAddA K x y H Q := by
  cases ra with
  | int i =>
    cases rb with
    | int j => cases e; exact .inl ⟨i, j, rfl, rfl, p.ret rh (.d (.int _))⟩
    | _ => cases e
  | str i _ =>
    cases rb with
    | str j _ =>
      have e' : (if i.length + j.length ≤ 10000000 ∧ PyData.strOk (i ++ j) = true then some (PyData.str (i ++ j)) else none) = some c := e
      by_cases hl : i.length + j.length ≤ 10000000 ∧ PyData.strOk (i ++ j) = true
      · rw [if_pos hl] at e'
        cases e'
        exact .inr (.inl ⟨i, j, rfl, rfl, by rw [line_eq]; omega, p.ret rh (.d (.str _ hl.2))⟩)
      · rw [if_neg hl] at e'; cases e'
    | _ => cases e
  | @tup a vs xs h1 q1 =>
    cases rb with
    | @tup a2 ws ys h2 q2 =>
      have e' : (if xs.length + ys.length ≤ 10000000 then some (PyData.tuple (xs ++ ys)) else none) = some c := e
      by_cases hl : xs.length + ys.length ≤ 10000000
      · rw [if_pos hl] at e'
        cases e'
        refine .inr (.inr (.inl ⟨a, a2, vs, ws, rfl, rfl, h1.sq, h2.sq, by rw [← q1.length, ← q2.length, line_eq]; omega, fun z => ?_, fun z1 z2 => ?_, fun z1 z2 => ?_⟩))
        · subst z
          cases q1
          exact p.ret rh (.d (.tup h2 q2))
        · subst z2
          cases q2
          rw [List.append_nil] at p
          exact p.ret rh (.d (.tup h1 q1))
        · exact tup_of rh (q1.append q2) p
      · rw [if_neg hl] at e'; cases e'
    | _ => cases e
  | _ => cases e
theorem opd_add (m : Bool) : OpD X W (rAddA X.K) (addU m) := by
  intro a b h σ H μ x y Q rh ra rb p
  unfold addU at p
  have el : (∃ xs ys, listOf a h = some xs ∧ listOf b h = some ys) ∨ (∀ (α : Type) (f : List D → List D → α) (z : α), (match listOf a h, listOf b h with | some xs, some ys => f xs ys | _, _ => z) = z) := by
    cases listOf a h with
    | none => exact .inr fun _ _ _ => rfl
    | some xs =>
      cases listOf b h with
      | none => exact .inr fun _ _ _ => rfl
      | some ys => exact .inl ⟨xs, ys, rfl, rfl⟩
  rcases el with ⟨xs, ys, e1, e2⟩ | el
  · rw [e1, e2] at p
    have p' : Post X.K W σ H μ (RU X.K) (if xs.length + ys.length ≤ 10000000 then mkL m (xs ++ ys) h else .bad) Q := p
    by_cases hl : xs.length + ys.length ≤ 10000000
    · rw [if_pos hl] at p'
      obtain ⟨a1, vs, rfl, h1, q1⟩ := listOf_of rh ra e1
      obtain ⟨a2, ws, rfl, h2, q2⟩ := listOf_of rh rb e2
      exact .inr (.inr (.inr ⟨a1, a2, vs, ws, rfl, rfl, h1, h2, by rw [← q1.length, ← q2.length, line_eq]; omega, mkL_of rh (q1.append q2) p'⟩))
    · rw [if_neg hl] at p'; exact p'.elim
  · rw [el] at p
    cases ra with
    | d ra =>
      cases rb with
      | d rb =>
        obtain ⟨c, ec, p2⟩ := Post.opt p
        exact addD_of rh ra rb ec p2
      | _ => exact p.elim
    | _ => exact p.elim
/-! ### ints -/
/-- an operation on two ints -/
def intOp (g : Int → Int → Option Int) (a b : U) (h : List O) : R U := match a, b with
  | .d (.int i), .d (.int j) => (opt (g i j) h).bind fun k h => .ok (.d (.int k)) h
  | _, _ => .bad
theorem int_cases {P : U → Prop} (u : U) : (∃ i, u = .d (.int i)) ∨ (∀ i, u ≠ .d (.int i)) := by
  by_cases h : ∃ i, u = .d (.int i)
  · exact .inl h
  · exact .inr fun i e => h ⟨i, e⟩
theorem opd_int {g : Int → Int → Option Int} {C : Int → Int → Prop} {k : Int → Int → Int} (hc : ∀ i j r, g i j = some r → C i j ∧ r = k i j) : OpD X W (rI C fun i j => .int (k i j)) (intOp g) := by
  intro a b h σ H μ x y Q rh ra rb p
  unfold intOp at p
  split at p
  · rename_i i j
    obtain ⟨r, e, p⟩ := Post.opt p
    obtain ⟨h1, rfl⟩ := hc i j r e
    exact ⟨i, j, ra.int_inv, rb.int_inv, h1, p.ret rh (.d (.int _))⟩
  · exact p.elim
def gSubI (i j : Int) : Option Int := some (i - j)
def rT : Int → Int → Prop := fun _ _ => True
theorem op_subA : OpR X (binaryOp .Sub) (rI rT fun i j => .int (i - j)) := opI fun _ _ _ _ _ _ _ _ q => sub_int q
theorem opd_sub : OpD X W (rI rT fun i j => .int (i - j)) (intOp gSubI) := opd_int fun i j r e => by cases e; exact ⟨trivial, rfl⟩
/-- // -/
def CDivA (_ j : Int) : Prop := j ≠ 0 ∧ j.natAbs.log2 < 9000
theorem op_fdivA : OpR X (binaryOp .FloorDiv) (rI CDivA fun i j => .int (i.fdiv j)) := opI fun _ _ _ _ _ _ _ hc q => floordiv_int hc.1 q (.inl (PyProof.noPylong_of_log2 hc.2))
def gFdiv (i j : Int) : Option Int := if j ≠ 0 ∧ j.natAbs < 2 ^ 1000 then some (i.fdiv j) else none
theorem opd_fdiv : OpD X W (rI CDivA fun i j => .int (i.fdiv j)) (intOp gFdiv) := opd_int fun i j r e => by
  unfold gFdiv at e
  split at e
  · rename_i hj
    cases e
    exact ⟨⟨hj.1, Nat.lt_of_lt_of_le (PySem.Flt.log2_lt_of (show 0 < 1000 by decide) hj.2) (show 1000 ≤ 9000 by decide)⟩, rfl⟩
  · cases e
/-- % -/
def gFmod (i j : Int) : Option Int := if j ≠ 0 then some (i.fmod j) else none
theorem opd_fmod : OpD X W (rI (fun _ j => j ≠ 0) fun i j => .int (i.fmod j)) (intOp gFmod) := opd_int fun i j r e => by
  unfold gFmod at e
  split at e
  · rename_i hj
    cases e
    exact ⟨hj, rfl⟩
  · cases e
def gPow (i j : Int) : Option Int := if 0 ≤ j ∧ j ≤ 1000 ∧ i.natAbs < 2 ^ 64 then some (i ^ j.toNat) else none
theorem opd_pow : OpD X W (rI CPow fun i j => .int (i ^ j.toNat)) (intOp gPow) := opd_int fun i j r e => by
  unfold gPow at e
  split at e
  · rename_i hj
    cases e
    exact ⟨⟨hj.1, by omega, hj.2.2⟩, rfl⟩
  · cases e
/-- << : shifts of great numbers are bounded, too -/
def gShl (i j : Int) : Option Int := if 0 ≤ j ∧ j ≤ 1000000 ∧ i.natAbs < 2 ^ 64 then some (i * 2 ^ j.toNat) else none
theorem opd_shl : OpD X W (rI CPow fun i j => .int (i * 2 ^ j.toNat)) (intOp gShl) := opd_int fun i j r e => by
  unfold gShl at e
  split at e
  · rename_i hj
    cases e
    exact ⟨⟨hj.1, hj.2.1, hj.2.2⟩, rfl⟩
  · cases e
def gShr (i j : Int) : Option Int := if 0 ≤ j then some (i / 2 ^ j.toNat) else none
theorem opd_shr : OpD X W (rI (fun _ j => 0 ≤ j) fun i j => .int (i / 2 ^ j.toNat)) (intOp gShr) := opd_int fun i j r e => by
  unfold gShr at e
  split at e
  · rename_i hj
    cases e
    exact ⟨hj, rfl⟩
  · cases e
def gAnd (i j : Int) : Option Int := some (Builtin.bitAnd i j)
theorem op_andA : OpR X (binaryOp .BitAnd) (rI rT fun i j => .int (Builtin.bitAnd i j)) := opI fun _ _ _ _ _ _ _ _ q => and_int q
theorem opd_and : OpD X W (rI rT fun i j => .int (Builtin.bitAnd i j)) (intOp gAnd) := opd_int fun i j r e => by cases e; exact ⟨trivial, rfl⟩
def gOr (i j : Int) : Option Int := some (Builtin.bitOr i j)
theorem op_orA : OpR X (binaryOp .BitOr) (rI rT fun i j => .int (Builtin.bitOr i j)) := opI fun _ _ _ _ _ _ _ _ q => or_int q
theorem opd_or : OpD X W (rI rT fun i j => .int (Builtin.bitOr i j)) (intOp gOr) := opd_int fun i j r e => by cases e; exact ⟨trivial, rfl⟩
/-! ### * -/
def mulOk (i j : Int) : Bool := decide (i.natAbs < 2 ^ 64) || decide (j.natAbs < 2 ^ 64) || (decide (i.natAbs < 2 ^ 100000) && decide (j.natAbs < 2 ^ 100000))
theorem mulOk_ok {i j : Int} (h : mulOk i j = true) : IntMulOk i j := by
  unfold mulOk at h
  rw [Bool.or_eq_true, Bool.or_eq_true, Bool.and_eq_true] at h
  rcases h with (h | h) | ⟨h1, h2⟩
  · have h := of_decide_eq_true h
    exact CMul.ok (.inl (by omega))
  · have h := of_decide_eq_true h
    exact CMul.ok (.inr (by omega))
  · exact (wide_mul (of_decide_eq_true h1) (of_decide_eq_true h2) (by decide) (by decide) (by decide)).ok
theorem op_mulI : OpR X (binaryOp .Mult) (rI (fun i j => mulOk i j = true) fun i j => .int (i * j)) := opI fun _ _ _ _ _ _ _ hc q => mul_int q (mulOk_ok hc)
/-- t * k, any t -/
def rRepTA (K : PySem.W.Frag) : R2 := fun x y H Q => ∃ l k xs, x = .ref l ∧ y = .int k ∧ SqT K H l xs ∧ xs ≠ [] ∧ 2 ≤ k ∧ k ≤ 1000 ∧ xs.length ≤ 1000 ∧ ∀ p, H p = none → Q (.ref p) (upd H p (.tup (List.replicate k.toNat xs).flatten))
theorem tuple_mulE (l : Addr) (items : Array Value) (n : Nat) (dd : Option Addr) (sl : Array (Option Value)) (x : Int) (u : Tok) (c0 : (decide (x < -(2 ^ 63)) || decide (x ≥ 2 ^ 63)) = false) (c1 : (items.isEmpty || x == 1) = true) :
    Meets (Builtin.«tuple.__mul__» ⟨[.ref l, .int x u], []⟩) (fun _ R s => s.heap.get? l = some { cls := .type "tuple", dict := dd, data := .seq items n, slots := sl } ∧ R (.ok (.ret (Value.ref l))) s) :=
  .of_wp fun prog w A R s h => by
    obtain ⟨hp, g, d, tk, os⟩ := s
    obtain ⟨hl, h⟩ := h
    have f1 := AutoSeq1.idx_int
    wp_walk using AutoSeq1.wpAny_loadPart' hl
    repeat (first
      | (refine wpAny_ite_false (decide_eq_false (by rw [c0]; exact Bool.false_ne_true)) ?_; wp_walk using AutoSeq1.wpAny_loadPart' hl)
      | (refine wpAny_ite_true (decide_eq_true (by rw [c1])) ?_; wp_walk using AutoSeq1.wpAny_loadPart' hl))
    exact ⟨_, rfl, h⟩
theorem tuple_mulZ (l : Addr) (items : Array Value) (n : Nat) (dd : Option Addr) (sl : Array (Option Value)) (x : Int) (u : Tok) (c0 : (decide (x < -(2 ^ 63)) || decide (x ≥ 2 ^ 63)) = false) (c1 : (items.isEmpty || x == 1) = false) (c2 : (decide (x ≤ 0) || items.isEmpty) = true) :
    Meets (Builtin.«tuple.__mul__» ⟨[.ref l, .int x u], []⟩) (fun _ R s => s.heap.get? l = some { cls := .type "tuple", dict := dd, data := .seq items n, slots := sl } ∧ R (.ok (.ret (Value.ref s.heap.objs.size))) { s with heap := s.heap.push { cls := Value.type "tuple", data := Data.seq #[] }, toks := s.toks }) :=
  .of_wp fun prog w A R s h => by
    obtain ⟨hp, g, d, tk, os⟩ := s
    obtain ⟨hl, h⟩ := h
    have f1 := AutoSeq1.idx_int
    wp_walk using AutoSeq1.wpAny_loadPart' hl
    repeat (first
      | (refine wpAny_ite_false (decide_eq_false (by rw [c0]; exact Bool.false_ne_true)) ?_; wp_walk using AutoSeq1.wpAny_loadPart' hl)
      | (refine wpAny_ite_false (decide_eq_false (by rw [c1]; exact Bool.false_ne_true)) ?_; wp_walk using AutoSeq1.wpAny_loadPart' hl)
      | (refine wpAny_ite_true (decide_eq_true (by rw [c2])) ?_; wp_walk using AutoSeq1.wpAny_loadPart' hl))
    exact ⟨_, rfl, h⟩
/-- t * k by whatever small k -/
def rRepZ (K : PySem.W.Frag) : R2 := fun x y H Q => ∃ l k xs, x = .ref l ∧ y = .int k ∧ SqT K H l xs ∧ -(2 ^ 63) ≤ k ∧ k < 2 ^ 63 ∧ ((xs = [] ∨ k = 1) → Q (.ref l) H) ∧ (xs ≠ [] → k ≤ 0 → ∀ p, H p = none → Q (.ref p) (upd H p (.tup []))) ∧
  (xs ≠ [] → 2 ≤ k → k ≤ 1000 ∧ xs.length ≤ 1000 ∧ ∀ p, H p = none → Q (.ref p) (upd H p (.tup (List.replicate k.toNat xs).flatten)))
theorem op_repZ : OpR X (binaryOp .Mult) (rRepZ X.K) := by
  intro pins s σ H x y v u Q I rx ry h
  obtain ⟨l, k, xs, rfl, rfl, hT, b1, b2, q1, q2, q3⟩ := h
  by_cases hx : xs ≠ [] ∧ 2 ≤ k
  · obtain ⟨z1, z2, z3⟩ := q3 hx.1 hx.2
    exact op_repT pins s σ H _ _ v u Q I rx ry ⟨l, k, xs, rfl, rfl, hT, hx.1, hx.2, z1, z2, z3⟩
  · cases rx
    obtain ⟨t, rfl⟩ := ry
    obtain ⟨its, r, ⟨⟨cls, dd, data, sl⟩, ho, hc, n, hd⟩, hs⟩ := I.tuple hT
    simp only at hc hd
    subst hc hd
    have hle : its.length = xs.length := r.length.symm
    have c0 : (decide (k < -(2 ^ 63)) || decide (k ≥ 2 ^ 63)) = false := by
      rw [decide_eq_false (by omega), decide_eq_false (by omega)] <;> rfl
    by_cases hq : xs = [] ∨ k = 1
    · have c1 : (its.toArray.isEmpty || k == 1) = true := by
        rcases hq with hq | hq
        · subst hq
          cases r
          rfl
        · subst hq
          simp
      exact wpAny_binaryOp_repeat_ref (T := "tuple") (U := "int") (by decide) ⟨_, ho, rfl⟩ (fun s' => typeIs_int s' k t) noFill_tuple_mul F.fills_int_mul F.slot_int_rmul repeat_tuple F.slot_int_index.lookup
        (call_meets F.slot_int_rmul (typeIs_int s k t) F.entry_int_rmul (F.args_int_rmul_2 _ _) (int_rmul_tuple k t l its.toArray n dd sl)
          ⟨ho, rfl, ⟨_, ho, rfl⟩, call_meets F.slot_tuple_mul ⟨_, ho, rfl⟩ F.entry_tuple_mul (F.args_tuple_mul_2 _ _) (tuple_mulE l its.toArray n dd sl k t c0 c1) ⟨ho, .ref l, H, I, rfl, q1 hq⟩⟩)
    · have hne : xs ≠ [] := fun z => hq (.inl z)
      have hk : k ≤ 0 := by
        have : k ≠ 1 := fun z => hq (.inr z)
        have : ¬ 2 ≤ k := fun z => hx ⟨hne, z⟩
        omega
      have hi : its.toArray.isEmpty = false := by
        cases its with
        | nil => exact absurd (List.eq_nil_of_length_eq_zero hle.symm) hne
        | cons a b => rfl
      have c1 : (its.toArray.isEmpty || k == 1) = false := by
        rw [hi, Bool.false_or]
        exact beq_eq_false_iff_ne.mpr (by omega)
      have c2 : (decide (k ≤ 0) || its.toArray.isEmpty) = true := by rw [decide_eq_true hk]; rfl
      exact wpAny_binaryOp_repeat_ref (T := "tuple") (U := "int") (by decide) ⟨_, ho, rfl⟩ (fun s' => typeIs_int s' k t) noFill_tuple_mul F.fills_int_mul F.slot_int_rmul repeat_tuple F.slot_int_index.lookup
        (call_meets F.slot_int_rmul (typeIs_int s k t) F.entry_int_rmul (F.args_int_rmul_2 _ _) (int_rmul_tuple k t l its.toArray n dd sl)
          ⟨ho, rfl, ⟨_, ho, rfl⟩, call_meets F.slot_tuple_mul ⟨_, ho, rfl⟩ F.entry_tuple_mul (F.args_tuple_mul_2 _ _) (tuple_mulZ l its.toArray n dd sl k t c0 c1 c2)
            ⟨ho, .ref s.heap.objs.size, _, I.laid (t' := s.toks) (o := .tup []) (fun b ob q => Heap.get?_push_of_some _ q) (Nat.le_refl _) ⟨Nat.zero_le _, [], .nil, IsTup.new _ _⟩, rfl, q2 hne hk _ (I.hok.fresh (Nat.le_refl _))⟩⟩)
def rep (xs : List D) (k : Int) : List D := (List.replicate k.toNat xs).flatten
def mulU (m : Bool) (a b : U) (h : List O) : R U := match a, b with
  | .d (.int i), .d (.int j) => if mulOk i j = true then .ok (.d (.int (i * j))) h else .bad
  | .d (.tuple xs), .d (.int k) => if -1000 ≤ k ∧ k ≤ 1000 ∧ xs.length ≤ 1000 then .ok (.d (.tuple (rep xs k))) h else .bad
  | .d (.list xs), .d (.int k) => if -1000000 ≤ k ∧ k ≤ 1000000 ∧ xs.length * k.toNat ≤ 10000000 then mkL m (rep xs k) h else .bad
  | _, _ => .bad
def rMulA (K : PySem.W.Frag) : R2 := fun x y H Q => rI (fun i j => mulOk i j = true) (fun i j => .int (i * j)) x y H Q ∨ (rRepZ K x y H Q ∨ rRep x y H Q)
theorem op_mulA : OpR X (binaryOp .Mult) (rMulA X.K) := OpR.or op_mulI (OpR.or op_repZ op_rep)
theorem RDs.rep {K : PySem.W.Frag} {H : Hp} {μ : List Addr} {xs : List D} {vs : List V} (r : RDs K H μ xs vs) : ∀ k : Nat, RDs K H μ (List.replicate k xs).flatten (List.replicate k vs).flatten
  | 0 => .nil
  | k + 1 => by rw [List.replicate_succ, List.replicate_succ, List.flatten_cons, List.flatten_cons]; exact r.append (RDs.rep r k)
theorem opd_mul (m : Bool) : OpD X W (rMulA X.K) (mulU m) := by
  intro a b h σ H μ x y Q rh ra rb p
  unfold mulU at p
  split at p
  · rename_i i j
    split at p
    · rename_i hm
      exact .inl ⟨i, j, ra.int_inv, rb.int_inv, hm, p.ret rh (.d (.int _))⟩
    · exact p.elim
  · rename_i xs k
    split at p
    · rename_i hm
      obtain ⟨a1, vs, rfl, h1, q1⟩ := ra.tup_inv
      have hl := q1.length
      refine .inr (.inl ⟨a1, k, vs, rfl, rb.int_inv, h1.sq, by omega, by omega, fun z => ?_, fun z1 z2 => ?_, fun z1 z2 => ⟨hm.2.1, by omega, tup_of rh (q1.rep k.toNat) p⟩⟩)
      · have e : rep xs k = xs := by
          unfold rep
          rcases z with z | z
          · subst z
            cases q1
            induction k.toNat with
            | zero => rfl
            | succ n ih => rw [List.replicate_succ, List.flatten_cons, ih]; rfl
          · subst z
            show (List.replicate 1 xs).flatten = xs
            simp
        rw [e] at p
        exact p.ret rh ra
      · have e : k.toNat = 0 := by omega
        have e2 : rep xs k = [] := by unfold rep; rw [e]; rfl
        rw [e2] at p
        exact tup_of rh .nil p
    · exact p.elim
  · rename_i xs k
    split at p
    · rename_i hm
      obtain ⟨a1, vs, rfl, h1, n1, q1⟩ := ra.lst_inv
      exact .inr (.inr ⟨a1, k, vs, rfl, rb.int_inv, h1, by omega, by omega, by rw [← q1.length, line_eq]; omega, mkL_of rh (q1.rep k.toNat) p⟩)
    · exact p.elim
  · exact p.elim
/-! ### one place -/
def negU (a : U) (h : List O) : R U := match a with
  | .d (.int i) => .ok (.d (.int (-i))) h
  | _ => .bad
theorem den_neg {a : Expr} {pos : Pos} {fa : En → List O → R U} (ha : Den X W a fa) : Den X W (.UnaryOp .USub a pos) (ev1 fa negU) := by
  obtain ⟨ta, pa, ca⟩ := ha
  refine ⟨_, pe_un un_neg pa, fun σ' h σ H μ Q re rh p => ?_⟩
  refine ca σ' h σ H μ _ re rh (Post.bind p fun u h1 H1 μ1 x e1 rh1 ru p1 => ?_)
  unfold negU at p1
  split at p1
  · rename_i i
    exact ⟨i, ru.int_inv, p1.ret rh1 (.d (.int _))⟩
  · exact p1.elim
/-! ### comparisons of ints -/
def cmpI (g : Int → Int → Bool) (a b : U) (h : List O) : R U := match a, b with
  | .d (.int i), .d (.int j) => .ok (.d (.bool (g i j))) h
  | _, _ => .bad
theorem opd_cmpI {g : Int → Int → Bool} : OpD X W (rI0 fun i j => .bl (g i j)) (cmpI g) := by
  intro a b h σ H μ x y Q rh ra rb p
  unfold cmpI at p
  split at p
  · rename_i i j
    exact ⟨i, j, ra.int_inv, rb.int_inv, p.ret rh (.d (.bl _))⟩
  · exact p.elim
/-! ### is -/
def isNon : U → Bool
  | .d .none => true
  | _ => false
def isU (neg : Bool) (a b : U) (h : List O) : R U := match b with
  | .d .none => .ok (.d (.bool (neg != isNon a))) h
  | .d (.bool c) => (match a with
    | .d (.bool e) => .ok (.d (.bool (neg != decide (e = c)))) h
    | _ => .bad)
  | _ => .bad
def rIsA (neg : Bool) : R2 := fun x y H Q => (y = .non ∧ Q (.bl (neg != decide (x = .non))) H) ∨ ∃ a b, x = .bl a ∧ y = .bl b ∧ Q (.bl (neg != decide (a = b))) H
theorem op_isA : OpR X (compareOp .Is) (rIsA false) := by
  intro pins s σ H x y v u Q I rx ry h
  rcases h with ⟨e, q⟩ | ⟨a, b, e1, e2, q⟩
  · exact op_isN pins s σ H x y v u Q I rx ry ⟨e, by simpa using q⟩
  · exact op_is_bl pins s σ H x y v u Q I rx ry ⟨a, b, e1, e2, by simpa using q⟩
theorem op_isnotA : OpR X (compareOp .IsNot) (rIsA true) := by
  intro pins s σ H x y v u Q I rx ry h
  rcases h with ⟨e, q⟩ | ⟨a, b, e1, e2, q⟩
  · exact op_notN pins s σ H x y v u Q I rx ry ⟨e, by simpa using q⟩
  · exact op_isnot_bl pins s σ H x y v u Q I rx ry ⟨a, b, e1, e2, by simpa using q⟩
theorem isnon {K : PySem.W.Frag} {H : Hp} {μ : List Addr} {u : U} {x : V} (r : RU K H μ u x) : isNon u = decide (x = .non) := by
  cases r with
  | d r => cases r <;> rfl
  | _ => rfl
theorem opd_is (neg : Bool) : OpD X W (rIsA neg) (isU neg) := by
  intro a b h σ H μ x y Q rh ra rb p
  unfold isU at p
  split at p
  · have ey : y = .non := by
      cases rb with
      | d r => cases r; rfl
    refine .inl ⟨ey, ?_⟩
    rw [isnon ra] at p
    exact p.ret rh (.d (.bl _))
  · rename_i c
    have ey : y = .bl c := by
      cases rb with
      | d r => cases r; rfl
    split at p
    · rename_i e
      have ex : x = .bl e := by
        cases ra with
        | d r => cases r; rfl
      exact .inr ⟨e, c, ex, ey, p.ret rh (.d (.bl _))⟩
    · exact p.elim
  · exact p.elim
/-! ### == of data -/
mutual
theorem RD.dp {K : PySem.W.Frag} {H : Hp} {μ : List Addr} : ∀ {d : D} {v : V}, RD K H μ d v → Dp K H v d
  | _, _, .non => .non
  | _, _, .bl b => .bl b
  | _, _, .int i => .int i
  | _, _, .str s _ => .str s
  | _, _, .tup h r => .tup h.sq (RDs.dp r)
  | _, _, .lst h n r => .lst (SqL.of h) (RDs.dp r)
theorem RDs.dp {K : PySem.W.Frag} {H : Hp} {μ : List Addr} : ∀ {d : List D} {v : List V}, RDs K H μ d v → DpAll K H v d
  | _, _, .nil => .nil
  | _, _, .cons h r => .cons (RD.dp h) (RDs.dp r)
end
mutual
theorem RD.lay {K : PySem.W.Frag} {H : Hp} {μ : List Addr} : ∀ {d : D} {v : V}, RD K H μ d v → d.canLay0 = true
  | _, _, .non => rfl
  | _, _, .bl b => rfl
  | _, _, .int i => rfl
  | _, _, .str s h => h
  | _, _, .tup h r => RDs.lay r
  | _, _, .lst h n r => RDs.lay r
theorem RDs.lay {K : PySem.W.Frag} {H : Hp} {μ : List Addr} : ∀ {d : List D} {v : List V}, RDs K H μ d v → PyData.canLayAll0 d = true
  | _, _, .nil => rfl
  | _, _, .cons h r => by rw [PyData.canLayAll0, RD.lay h, RDs.lay r]; rfl
end
/-- pure data of a value that may be compared -/
def dataOf (u : U) (h : List O) : Option D := match u with
  | .d d => some d
  | .lab n => (listOf (.lab n) h).map .list
  | .scr xs => some (.list (xs.map .int))
  | _ => none
theorem dataOf_of {K : PySem.W.Frag} {H : Hp} {μ : List Addr} {u : U} {h : List O} {x : V} {d : D} (rh : Rh K H μ h) (r : RU K H μ u x) (e : dataOf u h = some d) : Dp K H x d ∧ d.canLay0 = true := by
  cases r with
  | d r => cases e; exact ⟨r.dp, r.lay⟩
  | @lab n a r =>
    have e' : (listOf (.lab n) h).map PyData.list = some d := e
    cases q : listOf (.lab n) h with
    | none => rw [q] at e'; cases e'
    | some xs =>
      rw [q] at e'
      cases e'
      obtain ⟨a', vs, e1, h1, q1⟩ := listOf_of rh (.lab r) q
      rw [e1]
      exact ⟨.lst (SqL.of h1) q1.dp, q1.lay⟩
  | @scr a ns h1 =>
    cases e
    have z : RDs K H μ (ns.map .int) (ns.map V.int) := RDs_ints ns
    exact ⟨.lst h1.sq z.dp, z.lay⟩
  | _ => cases e
def eqO (a b : U) (h : List O) : Option Bool := match dataOf a h, dataOf b h with
  | some d, some e => if d.depth ≤ 64 ∨ e.depth ≤ 64 then some (PyData.eqv d e) else none
  | _, _ => none
def eqU (neg : Bool) (a b : U) (h : List O) : R U := (opt (eqO a b h) h).bind fun k h => .ok (.d (.bool (neg != k))) h
def rEqA (K : PySem.W.Frag) (neg : Bool) : R2 := fun x y H Q => ∃ d e, Dp K H x d ∧ Dp K H y e ∧ d.canLay0 = true ∧ e.canLay0 = true ∧ (d.depth ≤ 64 ∨ e.depth ≤ 64) ∧ Q (.bl (neg != PyData.eqv d e)) H
theorem op_eqA (hu : X.A.units + 64 < cLine) : OpR X (compareOp .Eq) (rEqA X.K false) := by
  intro pins s σ H x y v u Q I rx ry h
  obtain ⟨d, e, hd, he, sd, se, hz, q⟩ := h
  obtain ⟨as, r1⟩ := Dp.reads I d x v hd rx
  obtain ⟨bs, r2⟩ := Dp.reads I e y u he ry
  exact SeqAt.compareEq_reads r1 r2 sd se (by omega) ⟨.bl _, H, I, by simp; rfl, q⟩
theorem op_neA (hu : X.A.units + 64 < cLine) : OpR X (compareOp .NotEq) (rEqA X.K true) := by
  intro pins s σ H x y v u Q I rx ry h
  obtain ⟨d, e, hd, he, sd, se, hz, q⟩ := h
  obtain ⟨as, r1⟩ := Dp.reads I d x v hd rx
  obtain ⟨bs, r2⟩ := Dp.reads I e y u he ry
  exact SeqAt.compareNe_reads r1 r2 sd se (by omega) ⟨.bl _, H, I, by simp; rfl, q⟩
theorem opd_eq (neg : Bool) : OpD X W (rEqA X.K neg) (eqU neg) := by
  intro a b h σ H μ x y Q rh ra rb p
  obtain ⟨k, ek, p⟩ := Post.opt p
  unfold eqO at ek
  cases ea : dataOf a h with
  | none => rw [ea] at ek; cases ek
  | some d =>
    cases eb : dataOf b h with
    | none => rw [ea, eb] at ek; cases ek
    | some e =>
      rw [ea, eb] at ek
      have ek' : (if d.depth ≤ 64 ∨ e.depth ≤ 64 then some (PyData.eqv d e) else none) = some k := ek
      by_cases hz : d.depth ≤ 64 ∨ e.depth ≤ 64
      · rw [if_pos hz] at ek'
        cases ek'
        obtain ⟨d1, l1⟩ := dataOf_of rh ra ea
        obtain ⟨d2, l2⟩ := dataOf_of rh rb eb
        exact ⟨d, e, d1, d2, l1, l2, hz, p.ret rh (.d (.bl _))⟩
      · rw [if_neg hz] at ek'; cases ek'
end
end Py

namespace Py
open PySem PySem.Spec PyProof.Rows L2
/-! ### arguments without a star -/
def isStar : Expr → Bool
  | .Starred _ _ => true
  | _ => false
def noStar (es : List Expr) : Bool := es.all fun e => !isStar e
theorem star1 {e : Expr} {es : List Expr} {env : Env} (h : isStar e = false) : starEach (e :: es) env = (false, eval e env) :: starEach es env := by
  cases e <;> first | rfl | cases h
theorem noStar_cons {e : Expr} {es : List Expr} (h : noStar (e :: es) = true) : isStar e = false ∧ noStar es = true := by
  unfold noStar at h ⊢
  rw [List.all_cons, Bool.and_eq_true] at h
  exact ⟨by simpa using h.1, h.2⟩
theorem noStar_any {env : Env} {pos : Pos} : ∀ {es : List Expr}, noStar es = true → (backTo pos (starEach es env)).any (·.1) = false
  | [], _ => rfl
  | e :: es, h => by
    obtain ⟨h1, h2⟩ := noStar_cons h
    rw [star1 h1]
    have ih := noStar_any (env := env) (pos := pos) h2
    unfold backTo at ih ⊢
    rw [List.map_cons, List.any_cons, ih]
    rfl
theorem noStar_back {env : Env} {pos : Pos} {e : Expr} {es : List Expr} (h : noStar (e :: es) = true) : backTo pos (starEach (e :: es) env) = (false, eval e env) :: backTo pos (starEach es env) := by
  obtain ⟨h1, h2⟩ := noStar_cons h
  rw [star1 h1]
  rfl
theorem noStar_few {env : Env} {pos : Pos} : ∀ {es : List Expr}, noStar es = true → (backTo pos (starEach es env)).all (fun x => !x.1) = true
  | [], _ => rfl
  | e :: es, h => by
    obtain ⟨h1, h2⟩ := noStar_cons h
    rw [star1 h1]
    have ih := noStar_few (env := env) (pos := pos) h2
    unfold backTo at ih ⊢
    rw [List.map_cons, List.all_cons, ih]
    rfl
/-- a rule for a call on values says what g says -/
def CallD (X : Cx) (W : WX) (r : List V → Hp → VK → Prop) (g : List U → List O → R U) : Prop :=
  ∀ us h σ H μ xs Q, Rh X.K H μ h → RUs X.K H μ us xs → Post X.K W σ H μ (RU X.K) (g us h) Q → r xs H Q
def evCall (f : En → List O → R (List U)) (g : List U → List O → R U) : En → List O → R U := fun σ h => (f σ h).bind g
theorem RU.bl_inv {K : PySem.W.Frag} {H : Hp} {μ : List Addr} {i : Bool} {x : V} (r : RU K H μ (.d (.bool i)) x) : x = .bl i := by cases r with | d r => cases r; rfl
section
variable {X : Cx} {W : WX}
theorem den_callB {x : Str} {id : String} {r : List V → Hp → VK → Prop} {e : Expr} {es : List Expr} {p pos : Pos} {f : En → List O → R (List U)} {g : List U → List O → R U} (hc : CallR X (.builtin id) r) (hg : CallD X W r g) (gl : Gl X x) (hm : X.mg x = none)
    (hv : bootBuiltins x = some (.builtin id)) (hf : DenA X W (e :: es) f) (hs : noStar (e :: es) = true) (hn : x ≠ "__name__") (hdb : (x == ("__debug__" : Str)) = false) : Den X W (.Call (.Name x p) (e :: es) [] pos) (evCall f g) := by
  obtain ⟨ta, pa, ca⟩ := hf
  obtain ⟨h1, h2⟩ := noStar_cons hs
  refine ⟨_, pe_callB hc gl hm hv pa hn hdb (star1 h1) (noStar_any h2), fun σ' h σ H μ Q re rh p => ?_⟩
  exact ca σ' h σ H μ _ re rh (Post.bind p fun us h1 H1 μ1 xs e1 rh1 ru p1 => hg us h1 σ H1 μ1 xs Q rh1 ru p1)
theorem den_callTy {x : Str} {T : String} {r : List V → Hp → VK → Prop} {e : Expr} {es : List Expr} {p pos : Pos} {f : En → List O → R (List U)} {g : List U → List O → R U} (hc : CallR X (.type T) r) (hg : CallD X W r g) (gl : Gl X x) (hm : X.mg x = none)
    (hv : bootBuiltins x = some (.type T)) (hf : DenA X W (e :: es) f) (hs : noStar (e :: es) = true) (hn : x ≠ "__name__") (hdb : (x == ("__debug__" : Str)) = false) : Den X W (.Call (.Name x p) (e :: es) [] pos) (evCall f g) := by
  obtain ⟨ta, pa, ca⟩ := hf
  obtain ⟨h1, h2⟩ := noStar_cons hs
  refine ⟨_, pe_callTy hc gl hm hv pa hn hdb (star1 h1) (noStar_any h2), fun σ' h σ H μ Q re rh p => ?_⟩
  exact ca σ' h σ H μ _ re rh (Post.bind p fun us h1 H1 μ1 xs e1 rh1 ru p1 => hg us h1 σ H1 μ1 xs Q rh1 ru p1)
def r1 (r : V → Hp → VK → Prop) : List V → Hp → VK → Prop := fun xs H Q => ∃ x, xs = [x] ∧ r x H Q
def g1 (g : U → List O → R U) : List U → List O → R U := fun us h => match us with | [u] => g u h | _ => .bad
def r2 (r : V → V → Hp → VK → Prop) : List V → Hp → VK → Prop := fun xs H Q => ∃ x y, xs = [x, y] ∧ r x y H Q
def g2 (g : U → U → List O → R U) : List U → List O → R U := fun us h => match us with | [u, w] => g u w h | _ => .bad
/-- for a call of one value -/
theorem calld_1 {r : V → Hp → VK → Prop} {g : U → List O → R U} (k : ∀ u h σ H μ x Q, Rh X.K H μ h → RU X.K H μ u x → Post X.K W σ H μ (RU X.K) (g u h) Q → r x H Q) : CallD X W (r1 r) (g1 g) := by
  intro us h σ H μ xs Q rh ru p
  cases ru with
  | nil => exact p.elim
  | cons h1 h2 =>
    cases h2 with
    | nil => exact ⟨_, rfl, k _ h σ H μ _ Q rh h1 p⟩
    | cons _ _ => exact p.elim
theorem calld_2 {r : V → V → Hp → VK → Prop} {g : U → U → List O → R U} (k : ∀ u w h σ H μ x y Q, Rh X.K H μ h → RU X.K H μ u x → RU X.K H μ w y → Post X.K W σ H μ (RU X.K) (g u w h) Q → r x y H Q) : CallD X W (r2 r) (g2 g) := by
  intro us h σ H μ xs Q rh ru p
  cases ru with
  | nil => exact p.elim
  | cons h1 h2 =>
    cases h2 with
    | nil => exact p.elim
    | cons h2 h3 =>
      cases h3 with
      | nil => exact ⟨_, _, rfl, k _ _ h σ H μ _ _ Q rh h1 h2 p⟩
      | cons _ _ => exact p.elim
theorem CallR.imp {f : Value} {r r' : List V → Hp → VK → Prop} (h : CallR X f r) (k : ∀ xs H Q, r' xs H Q → r xs H Q) : CallR X f r' := fun pins s σ H xs us Q I rv q => h pins s σ H xs us Q I rv (k _ _ _ q)
/-! ### len -/
def lenO : O → Option Nat
  | .lst xs => some xs.length
  | .mix xs => some xs.length
  | .dct _ => none
  | .hold _ => none
def lenN (u : U) (h : List O) : Option Nat := match u with
  | .d (.str s) => if s.length ≤ 10000000 then some s.length else none
  | .d (.tuple xs) => some xs.length
  | .d (.list xs) => some xs.length
  | .scr xs => some xs.length
  | .lab n => h[n]?.bind lenO
  | _ => none
def lenU (u : U) (h : List O) : R U := (opt (lenN u h) h).bind fun n h => .ok (.d (.int n)) h
def rLenV (K : PySem.W.Frag) : V → Hp → VK → Prop := fun x H Q => ∃ n, LenV K x H n ∧ Q (.int n) H
theorem lenN_of {K : PySem.W.Frag} {H : Hp} {μ : List Addr} {u : U} {h : List O} {x : V} {n : Nat} (rh : Rh K H μ h) (r : RU K H μ u x) (e : lenN u h = some n) : LenV K x H n := by
  cases r with
  | d r =>
    cases r with
    | str s _ =>
      have e' : (if s.length ≤ 10000000 then some s.length else none) = some n := e
      by_cases hs : s.length ≤ 10000000
      · rw [if_pos hs] at e'
        cases e'
        exact ⟨by rw [line_eq]; omega, rfl⟩
      · rw [if_neg hs] at e'; cases e'
    | tup h1 q => cases e; exact .inr ⟨_, h1.sq, q.length⟩
    | lst h1 _ q => cases e; exact .inl ⟨_, SqL.of h1, q.length⟩
    | _ => cases e
  | scr h1 => cases e; exact .inl ⟨_, h1.sq, by rw [List.length_map]⟩
  | @lab m a ra =>
    have e' : h[m]?.bind lenO = some n := e
    cases z : h[m]? with
    | none => rw [z] at e'; cases e'
    | some o =>
      rw [z] at e'
      obtain ⟨ho, h1, h2⟩ := rh.obj m o a z ra
      cases h2 with
      | lst q => cases e'; exact .inl ⟨_, SqL.of h1, q.length⟩
      | mix q _ => cases e'; exact .inl ⟨_, SqL.of h1, q.length⟩
      | dct q => cases e'
      | hold q => cases e'
  | _ => cases e
theorem cd_len : CallD X W (r1 (rLenV X.K)) (g1 lenU) := calld_1 fun u h σ H μ x Q rh ru p => by
  obtain ⟨n, e, p⟩ := Post.opt p
  exact ⟨n, lenN_of rh ru e, p.ret rh (.d (.int _))⟩
theorem cr_lenV : CallR X (.builtin "len") (r1 (rLenV X.K)) := CallR.imp call_len fun xs H Q ⟨x, e, n, l, q⟩ => ⟨x, n, e, l, q⟩
/-! ### lists of truths, of ints -/
def boolsOf : List D → Option (List Bool)
  | [] => some []
  | .bool b :: r => (boolsOf r).map (b :: ·)
  | _ :: _ => none
def intsOf : List D → Option (List Int)
  | [] => some []
  | .int b :: r => (intsOf r).map (b :: ·)
  | _ :: _ => none
theorem boolsOf_of {K : PySem.W.Frag} {H : Hp} {μ : List Addr} {ds : List D} {vs : List V} {bs : List Bool} (r : RDs K H μ ds vs) (e : boolsOf ds = some bs) : vs = bs.map V.bl := by
  induction ds generalizing vs bs with
  | nil => cases r; cases e; rfl
  | cons d ds ih =>
    cases r with
    | cons h q =>
      cases h with
      | bl b =>
        have e' : (boolsOf ds).map (b :: ·) = some bs := e
        cases z : boolsOf ds with
        | none => rw [z] at e'; cases e'
        | some cs => rw [z] at e'; cases e'; rw [ih q z]; rfl
      | _ => cases e
theorem intsOf_of {K : PySem.W.Frag} {H : Hp} {μ : List Addr} {ds : List D} {vs : List V} {bs : List Int} (r : RDs K H μ ds vs) (e : intsOf ds = some bs) : vs = bs.map V.int := by
  induction ds generalizing vs bs with
  | nil => cases r; cases e; rfl
  | cons d ds ih =>
    cases r with
    | cons h q =>
      cases h with
      | int b =>
        have e' : (intsOf ds).map (b :: ·) = some bs := e
        cases z : intsOf ds with
        | none => rw [z] at e'; cases e'
        | some cs => rw [z] at e'; cases e'; rw [ih q z]; rfl
      | _ => cases e
theorem boolsOf_map (bs : List Bool) : boolsOf (bs.map .bool) = some bs := by
  induction bs with
  | nil => rfl
  | cons b bs ih => rw [List.map_cons, boolsOf, ih]; rfl
theorem intsOf_map (bs : List Int) : intsOf (bs.map .int) = some bs := by
  induction bs with
  | nil => rfl
  | cons b bs ih => rw [List.map_cons, intsOf, ih]; rfl
def allU (u : U) (h : List O) : R U := (opt ((listOf u h).bind boolsOf) h).bind fun bs h => .ok (.d (.bool (bs.all id))) h
def anyU (u : U) (h : List O) : R U := (opt ((listOf u h).bind boolsOf) h).bind fun bs h => .ok (.d (.bool (bs.any id))) h
def sumU (u : U) (h : List O) : R U := (opt ((listOf u h).bind intsOf) h).bind fun bs h => .ok (.d (.int bs.sum)) h
theorem bools_list {K : PySem.W.Frag} {H : Hp} {μ : List Addr} {u : U} {h : List O} {x : V} {bs : List Bool} (rh : Rh K H μ h) (r : RU K H μ u x) (e : (listOf u h).bind boolsOf = some bs) : ∃ a, x = .ref a ∧ H a = some (.lst (bs.map V.bl)) := by
  cases z : listOf u h with
  | none => rw [z] at e; cases e
  | some xs =>
    rw [z] at e
    obtain ⟨a, vs, e1, h1, q⟩ := listOf_of rh r z
    exact ⟨a, e1, by rw [← boolsOf_of q e]; exact h1⟩
theorem ints_list {K : PySem.W.Frag} {H : Hp} {μ : List Addr} {u : U} {h : List O} {x : V} {bs : List Int} (rh : Rh K H μ h) (r : RU K H μ u x) (e : (listOf u h).bind intsOf = some bs) : ∃ a, x = .ref a ∧ H a = some (.lst (bs.map V.int)) := by
  cases z : listOf u h with
  | none => rw [z] at e; cases e
  | some xs =>
    rw [z] at e
    obtain ⟨a, vs, e1, h1, q⟩ := listOf_of rh r z
    exact ⟨a, e1, by rw [← intsOf_of q e]; exact h1⟩
def rAllV (K : PySem.W.Frag) : V → Hp → VK → Prop := fun x H Q => ∃ (a : Addr) (bs : List Bool), x = .ref a ∧ SqL K H a (bs.map V.bl) ∧ Q (.bl (bs.all id)) H
def rAnyV (K : PySem.W.Frag) : V → Hp → VK → Prop := fun x H Q => ∃ (a : Addr) (bs : List Bool), x = .ref a ∧ SqL K H a (bs.map V.bl) ∧ Q (.bl (bs.any id)) H
def rSumV (K : PySem.W.Frag) : V → Hp → VK → Prop := fun x H Q => ∃ (a : Addr) (ns : List Int), x = .ref a ∧ SqL K H a (ns.map V.int) ∧ Q (.int ns.sum) H
theorem cr_allV (hc : X.calm = true) : CallR X (.builtin "all") (r1 (rAllV X.K)) := CallR.imp (cr_all hc) fun xs H Q ⟨x, e, a, bs, e2, q⟩ => ⟨a, bs, by rw [e, e2], q⟩
theorem cr_anyV (hc : X.calm = true) : CallR X (.builtin "any") (r1 (rAnyV X.K)) := CallR.imp (cr_any hc) fun xs H Q ⟨x, e, a, bs, e2, q⟩ => ⟨a, bs, by rw [e, e2], q⟩
theorem cr_sumV (hc : X.calm = true) : CallR X (.builtin "sum") (r1 (rSumV X.K)) := CallR.imp (cr_sum hc) fun xs H Q ⟨x, e, a, bs, e2, q⟩ => ⟨a, bs, by rw [e, e2], q⟩
theorem cd_all : CallD X W (r1 (rAllV X.K)) (g1 allU) := calld_1 fun u h σ H μ x Q rh ru p => by
  obtain ⟨bs, e, p⟩ := Post.opt p
  obtain ⟨a, e1, h1⟩ := bools_list rh ru e
  exact ⟨a, bs, e1, SqL.of h1, p.ret rh (.d (.bl _))⟩
theorem cd_any : CallD X W (r1 (rAnyV X.K)) (g1 anyU) := calld_1 fun u h σ H μ x Q rh ru p => by
  obtain ⟨bs, e, p⟩ := Post.opt p
  obtain ⟨a, e1, h1⟩ := bools_list rh ru e
  exact ⟨a, bs, e1, SqL.of h1, p.ret rh (.d (.bl _))⟩
theorem cd_sum : CallD X W (r1 (rSumV X.K)) (g1 sumU) := calld_1 fun u h σ H μ x Q rh ru p => by
  obtain ⟨bs, e, p⟩ := Post.opt p
  obtain ⟨a, e1, h1⟩ := ints_list rh ru e
  exact ⟨a, bs, e1, SqL.of h1, p.ret rh (.d (.int _))⟩
/-! ### max, min of lists of ints -/
def maxL : Int → List Int → Int
  | m, [] => m
  | m, x :: r => maxL (if x > m then x else m) r
def minL : Int → List Int → Int
  | m, [] => m
  | m, x :: r => minL (if x < m then x else m) r
theorem maxL_spec : ∀ (r : List Int) (m : Int), (maxL m r ∈ m :: r) ∧ ∀ y ∈ m :: r, y ≤ maxL m r
  | [], m => ⟨by simp [maxL], fun y hy => by simp at hy; subst hy; exact Int.le_refl _⟩
  | x :: r, m => by
    obtain ⟨h1, h2⟩ := maxL_spec r (if x > m then x else m)
    rw [maxL]
    generalize hz : maxL (if x > m then x else m) r = z at h1 h2 ⊢
    refine ⟨?_, fun y hy => ?_⟩
    · rcases List.mem_cons.mp h1 with e | e
      · subst e; split <;> simp
      · exact List.mem_cons_of_mem _ (List.mem_cons_of_mem _ e)
    · have h0 := h2 _ List.mem_cons_self
      rcases List.mem_cons.mp hy with e | hy
      · subst e; split at h0 <;> omega
      · rcases List.mem_cons.mp hy with e | hy
        · subst e; split at h0 <;> omega
        · exact h2 y (List.mem_cons_of_mem _ hy)
theorem minL_spec : ∀ (r : List Int) (m : Int), (minL m r ∈ m :: r) ∧ ∀ y ∈ m :: r, minL m r ≤ y
  | [], m => ⟨by simp [minL], fun y hy => by simp at hy; subst hy; exact Int.le_refl _⟩
  | x :: r, m => by
    obtain ⟨h1, h2⟩ := minL_spec r (if x < m then x else m)
    rw [minL]
    generalize hz : minL (if x < m then x else m) r = z at h1 h2 ⊢
    refine ⟨?_, fun y hy => ?_⟩
    · rcases List.mem_cons.mp h1 with e | e
      · subst e; split <;> simp
      · exact List.mem_cons_of_mem _ (List.mem_cons_of_mem _ e)
    · have h0 := h2 _ List.mem_cons_self
      rcases List.mem_cons.mp hy with e | hy
      · subst e; split at h0 <;> omega
      · rcases List.mem_cons.mp hy with e | hy
        · subst e; split at h0 <;> omega
        · exact h2 y (List.mem_cons_of_mem _ hy)
def maxU (u : U) (h : List O) : R U := (opt ((listOf u h).bind intsOf) h).bind fun bs h => match bs with
  | [] => .bad
  | m :: r => .ok (.d (.int (maxL m r))) h
def minU (u : U) (h : List O) : R U := (opt ((listOf u h).bind intsOf) h).bind fun bs h => match bs with
  | [] => .bad
  | m :: r => .ok (.d (.int (minL m r))) h
def max2U (u w : U) (h : List O) : R U := match u, w with
  | .d (.int i), .d (.int j) => .ok (.d (.int (if j > i then j else i))) h
  | _, _ => .bad
def min2U (u w : U) (h : List O) : R U := match u, w with
  | .d (.int i), .d (.int j) => .ok (.d (.int (if j < i then j else i))) h
  | _, _ => .bad
def maxG : List U → List O → R U := fun us h => match us with
  | [u] => maxU u h
  | [u, w] => max2U u w h
  | _ => .bad
def minG : List U → List O → R U := fun us h => match us with
  | [u] => minU u h
  | [u, w] => min2U u w h
  | _ => .bad
def rMaxG (K : PySem.W.Frag) : List V → Hp → VK → Prop := fun xs H Q => rMax K xs H Q ∨ (∃ i j, xs = [.int i, .int j] ∧ Q (.int (if j > i then j else i)) H)
def rMinG (K : PySem.W.Frag) : List V → Hp → VK → Prop := fun xs H Q => rMin K xs H Q ∨ (∃ i j, xs = [.int i, .int j] ∧ Q (.int (if j < i then j else i)) H)
theorem cr_maxG (hc : X.calm = true) : CallR X (.builtin "max") (rMaxG X.K) := CallR.or (cr_max hc) (call_max2 hc)
theorem cr_minG (hc : X.calm = true) : CallR X (.builtin "min") (rMinG X.K) := CallR.or (cr_min hc) (call_min2 hc)
theorem cd_max : CallD X W (rMaxG X.K) maxG := by
  intro us h σ H μ xs Q rh ru p
  unfold maxG at p
  split at p
  · cases ru with
    | cons r1 r2 =>
      cases r2
      obtain ⟨bs, e, p⟩ := Post.opt p
      obtain ⟨a, e1, h1⟩ := ints_list rh r1 e
      cases bs with
      | nil => exact p.elim
      | cons m r =>
        refine .inl ⟨a, m :: r, by rw [e1], SqL.of h1, by simp, fun k hk hk2 => ?_⟩
        obtain ⟨s1, s2⟩ := maxL_spec r m
        have := hk2 _ s1
        have := s2 _ hk
        have ek : k = maxL m r := by omega
        rw [ek]
        exact p.ret rh (.d (.int _))
  · cases ru with
    | cons r1 r2 =>
      cases r2 with
      | cons r2 r3 =>
        cases r3
        unfold max2U at p
        split at p
        · exact .inr ⟨_, _, by rw [r1.int_inv, r2.int_inv], p.ret rh (.d (.int _))⟩
        · exact p.elim
  · exact p.elim
theorem cd_min : CallD X W (rMinG X.K) minG := by
  intro us h σ H μ xs Q rh ru p
  unfold minG at p
  split at p
  · cases ru with
    | cons r1 r2 =>
      cases r2
      obtain ⟨bs, e, p⟩ := Post.opt p
      obtain ⟨a, e1, h1⟩ := ints_list rh r1 e
      cases bs with
      | nil => exact p.elim
      | cons m r =>
        refine .inl ⟨a, m :: r, by rw [e1], SqL.of h1, by simp, fun k hk hk2 => ?_⟩
        obtain ⟨s1, s2⟩ := minL_spec r m
        have := hk2 _ s1
        have := s2 _ hk
        have ek : k = minL m r := by omega
        rw [ek]
        exact p.ret rh (.d (.int _))
  · cases ru with
    | cons r1 r2 =>
      cases r2 with
      | cons r2 r3 =>
        cases r3
        unfold min2U at p
        split at p
        · exact .inr ⟨_, _, by rw [r1.int_inv, r2.int_inv], p.ret rh (.d (.int _))⟩
        · exact p.elim
  · exact p.elim
/-! ### int, abs, tuple, list -/
def absU (u : U) (h : List O) : R U := match u with
  | .d (.int i) => .ok (.d (.int (if i < 0 then -i else i))) h
  | _ => .bad
theorem cd_abs : CallD X W (r1 fun x H Q => ∃ i, x = .int i ∧ Q (.int (if i < 0 then -i else i)) H) (g1 absU) := calld_1 fun u h σ H μ x Q rh ru p => by
  unfold absU at p
  split at p
  · exact ⟨_, ru.int_inv, p.ret rh (.d (.int _))⟩
  · exact p.elim
theorem cr_absV : CallR X (.builtin "abs") (r1 fun x H Q => ∃ i, x = .int i ∧ Q (.int (if i < 0 then -i else i)) H) := CallR.imp call_abs fun xs H Q ⟨x, e, i, e2, q⟩ => ⟨i, by rw [e, e2], q⟩
def intU (u : U) (h : List O) : R U := match u with
  | .d (.int i) => .ok (.d (.int i)) h
  | .d (.bool k) => .ok (.d (.int (if k then 1 else 0))) h
  | _ => .bad
def rIntV : V → Hp → VK → Prop := fun x H Q => (∃ i, x = .int i ∧ Q (.int i) H) ∨ ∃ k, x = .bl k ∧ Q (.int (if k then 1 else 0)) H
theorem cd_int : CallD X W (r1 rIntV) (g1 intU) := calld_1 fun u h σ H μ x Q rh ru p => by
  unfold intU at p
  split at p
  · exact .inl ⟨_, ru.int_inv, p.ret rh (.d (.int _))⟩
  · exact .inr ⟨_, ru.bl_inv, p.ret rh (.d (.int _))⟩
  · exact p.elim
theorem cr_intV : CallR X (.type "int") (r1 rIntV) := CallR.imp call_int1 fun xs H Q ⟨x, e, q⟩ => by
  rcases q with ⟨i, e2, q⟩ | ⟨i, e2, q⟩
  · exact .inl ⟨i, by rw [e, e2], q⟩
  · exact .inr ⟨i, by rw [e, e2], q⟩
/-- a list of any sort -/
def lstLike (u : U) (h : List O) : Option (List D) := match u with
  | .scr xs => some (xs.map .int)
  | u => listOf u h
theorem lstLike_of {K : PySem.W.Frag} {H : Hp} {μ : List Addr} {u : U} {h : List O} {x : V} {xs : List D} (rh : Rh K H μ h) (r : RU K H μ u x) (e : lstLike u h = some xs) : ∃ a vs, x = .ref a ∧ SqL K H a vs ∧ RDs K H μ xs vs := by
  cases r with
  | scr h1 => cases e; exact ⟨_, _, rfl, h1.sq, RDs_ints _⟩
  | d r =>
    obtain ⟨a, vs, e1, h1, q⟩ := listOf_of rh (.d r) (show listOf (.d _) h = some xs from e)
    exact ⟨a, vs, e1, SqL.of h1, q⟩
  | lab r =>
    obtain ⟨a, vs, e1, h1, q⟩ := listOf_of rh (.lab r) (show listOf (.lab _) h = some xs from e)
    exact ⟨a, vs, e1, SqL.of h1, q⟩
  | _ => cases e
def isTup : U → Bool
  | .d (.tuple _) => true
  | _ => false
def tupleU (u : U) (h : List O) : R U := if isTup u = true then .ok u h else (opt (lstLike u h) h).bind fun xs h => .ok (.d (.tuple xs)) h
def rTupV (K : PySem.W.Frag) : V → Hp → VK → Prop := fun x H Q => ∃ p ys, x = .ref p ∧ ((SqL K H p ys ∧ ∀ l, H l = none → Q (.ref l) (upd H l (.tup ys))) ∨ (SqT K H p ys ∧ Q (.ref p) H))
theorem cr_tupV : CallR X (.type "tuple") (r1 (rTupV X.K)) := CallR.imp call_tuple_of fun xs H Q ⟨x, e, p, ys, e2, q⟩ => ⟨p, ys, by rw [e, e2], q⟩
theorem cd_tup : CallD X W (r1 (rTupV X.K)) (g1 tupleU) := calld_1 fun u h σ H μ x Q rh ru p => by
  unfold tupleU at p
  by_cases ht : isTup u = true
  · rw [if_pos ht] at p
    have : ∃ ys, u = .d (.tuple ys) := by
      unfold isTup at ht
      split at ht
      · exact ⟨_, rfl⟩
      · cases ht
    obtain ⟨ys, rfl⟩ := this
    obtain ⟨a, vs, rfl, h1, q⟩ := ru.tup_inv
    exact ⟨a, vs, rfl, .inr ⟨h1.sq, p.ret rh ru⟩⟩
  · rw [if_neg ht] at p
    obtain ⟨xs, e, p⟩ := Post.opt p
    obtain ⟨a, vs, rfl, h1, q⟩ := lstLike_of rh ru e
    exact ⟨a, vs, rfl, .inl ⟨h1, tup_of rh q p⟩⟩
def listU (m : Bool) (u : U) (h : List O) : R U := (opt (seqOf u h) h).bind fun xs h => mkL m xs h
def rLstV (K : PySem.W.Frag) : V → Hp → VK → Prop := fun x H Q => ∃ p ys, x = .ref p ∧ (SqL K H p ys ∨ SqT K H p ys) ∧ ∀ l, H l = none → Q (.ref l) (upd H l (.lst ys))
theorem cr_lstV : CallR X (.type "list") (r1 (rLstV X.K)) := CallR.imp call_list_of fun xs H Q ⟨x, e, p, ys, e2, q⟩ => ⟨p, ys, by rw [e, e2], q⟩
theorem cd_lst (m : Bool) : CallD X W (r1 (rLstV X.K)) (g1 (listU m)) := calld_1 fun u h σ H μ x Q rh ru p => by
  obtain ⟨xs, e, p⟩ := Post.opt p
  obtain ⟨a, vs, rfl, h1, q⟩ := seqOf_of rh ru e
  exact ⟨a, vs, rfl, h1, mkL_of rh q p⟩
/-! ### sorted lists of ints -/
def insI (x : Int) : List Int → List Int
  | [] => [x]
  | y :: r => if x ≤ y then x :: y :: r else y :: insI x r
def sortI : List Int → List Int
  | [] => []
  | x :: r => insI x (sortI r)
theorem insI_perm (x : Int) : ∀ r : List Int, (insI x r).Perm (x :: r)
  | [] => .refl _
  | y :: r => by
    unfold insI
    split
    · exact .refl _
    · exact ((insI_perm x r).cons y).trans (.swap x y r)
theorem sortI_perm : ∀ r : List Int, (sortI r).Perm r
  | [] => .refl _
  | x :: r => (insI_perm x _).trans ((sortI_perm r).cons x)
theorem insI_sorted (x : Int) : ∀ r : List Int, r.Pairwise (· ≤ ·) → (insI x r).Pairwise (· ≤ ·)
  | [], _ => by simp [insI]
  | y :: r, h => by
    unfold insI
    obtain ⟨h1, h2⟩ := List.pairwise_cons.mp h
    split
    · rename_i hxy
      refine List.pairwise_cons.mpr ⟨fun z hz => ?_, h⟩
      rcases List.mem_cons.mp hz with e | hz
      · subst e; exact hxy
      · exact Int.le_trans hxy (h1 z hz)
    · rename_i hxy
      refine List.pairwise_cons.mpr ⟨fun z hz => ?_, insI_sorted x r h2⟩
      rcases List.mem_cons.mp ((insI_perm x r).mem_iff.mp hz) with e | hz
      · subst e; omega
      · exact h1 z hz
theorem sortI_sorted : ∀ r : List Int, (sortI r).Pairwise (· ≤ ·)
  | [] => .nil
  | x :: r => insI_sorted x _ (sortI_sorted r)
theorem sorted_unique {xs ys : List Int} (h1 : xs.Pairwise (· ≤ ·)) (h2 : ys.Pairwise (· ≤ ·)) (p : xs.Perm ys) : xs = ys :=
  List.Perm.eq_of_pairwise (fun a b _ _ => Int.le_antisymm) h1 h2 p
/-! ### sorted lists of pairs of ints, sorted dicts -/
def leP (p q : Int × Int) : Bool := if p.1 = q.1 then decide (p.2 ≤ q.2) else decide (p.1 < q.1)
theorem leP_iff {p q : Int × Int} : leP p q = true ↔ p.1 < q.1 ∨ (p.1 = q.1 ∧ p.2 ≤ q.2) := by
  unfold leP
  by_cases h : p.1 = q.1
  · rw [if_pos h, decide_eq_true_iff]; omega
  · rw [if_neg h, decide_eq_true_iff]; omega
def insP (x : Int × Int) : List (Int × Int) → List (Int × Int)
  | [] => [x]
  | y :: r => if leP x y = true then x :: y :: r else y :: insP x r
def sortP : List (Int × Int) → List (Int × Int)
  | [] => []
  | x :: r => insP x (sortP r)
theorem insP_perm (x : Int × Int) : ∀ r : List (Int × Int), (insP x r).Perm (x :: r)
  | [] => .refl _
  | y :: r => by
    unfold insP
    split
    · exact .refl _
    · exact ((insP_perm x r).cons y).trans (.swap x y r)
theorem sortP_perm : ∀ r : List (Int × Int), (sortP r).Perm r
  | [] => .refl _
  | x :: r => (insP_perm x _).trans ((sortP_perm r).cons x)
abbrev LeP (p q : Int × Int) : Prop := leP p q = true
theorem leP_total {p q : Int × Int} (h : ¬ LeP p q) : LeP q p := by
  simp only [LeP, leP_iff] at *
  omega
theorem leP_trans {p q r : Int × Int} (h : LeP p q) (g : LeP q r) : LeP p r := by
  simp only [LeP, leP_iff] at *
  omega
theorem leP_antisymm {p q : Int × Int} (h : LeP p q) (g : LeP q p) : p = q := by
  simp only [LeP, leP_iff] at *
  exact Prod.ext (by omega) (by omega)
theorem insP_sorted (x : Int × Int) : ∀ r : List (Int × Int), r.Pairwise LeP → (insP x r).Pairwise LeP
  | [], _ => by simp [insP]
  | y :: r, h => by
    unfold insP
    obtain ⟨h1, h2⟩ := List.pairwise_cons.mp h
    split
    · rename_i hxy
      refine List.pairwise_cons.mpr ⟨fun z hz => ?_, h⟩
      rcases List.mem_cons.mp hz with e | hz
      · subst e; exact hxy
      · exact leP_trans hxy (h1 z hz)
    · rename_i hxy
      refine List.pairwise_cons.mpr ⟨fun z hz => ?_, insP_sorted x r h2⟩
      rcases List.mem_cons.mp ((insP_perm x r).mem_iff.mp hz) with e | hz
      · subst e; exact leP_total hxy
      · exact h1 z hz
theorem sortP_sorted : ∀ r : List (Int × Int), (sortP r).Pairwise LeP
  | [] => .nil
  | x :: r => insP_sorted x _ (sortP_sorted r)
theorem sortedP_unique {xs ys : List (Int × Int)} (h1 : xs.Pairwise LeP) (h2 : ys.Pairwise LeP) (p : xs.Perm ys) : xs = ys :=
  List.Perm.eq_of_pairwise (fun _ _ _ _ => leP_antisymm) h1 h2 p
def pairD (p : Int × Int) : D := .tuple [.int p.1, .int p.2]
def pairsOf : List D → Option (List (Int × Int))
  | [] => some []
  | .tuple [.int i, .int j] :: r => (pairsOf r).map fun ps => (i, j) :: ps
  | _ => none
theorem pairsOf_eq : ∀ {ds : List D} {ps : List (Int × Int)}, pairsOf ds = some ps → ds = ps.map pairD
  | [], ps, h => by cases h; rfl
  | d :: r, ps, h => by
    unfold pairsOf at h
    split at h
    · rename_i e; cases e
    · rename_i i j r' e
      cases e
      cases q : pairsOf r with
      | none => rw [q] at h; cases h
      | some ps' =>
        rw [q] at h
        cases h
        rw [pairsOf_eq q]
        rfl
    · cases h
/-- which two ints stand behind a value -/
noncomputable def keyP (K : PySem.W.Frag) (H : Hp) (x : V) : Int × Int := open Classical in
  if h : ∃ p : Int × Int, ∃ t, x = .ref t ∧ SqT K H t [.int p.1, .int p.2] then h.choose else (0, 0)
abbrev PrAt (K : PySem.W.Frag) (H : Hp) (t : Addr) (p : Int × Int) : Prop := SqT K H t [.int p.1, .int p.2]
def rSortedPR (K : PySem.W.Frag) : V → Hp → VK → Prop := fun v H Q => ∃ (a : Addr) (xs : List V), v = V.ref a ∧ SqL K H a xs ∧ (∀ x ∈ xs, ∃ t p, x = V.ref t ∧ PrAt K H t p) ∧
  ((∀ t p q, PrAt K H t p → PrAt K H t q → p = q) → ∀ k : V → Int × Int, (∀ x ∈ xs, ∃ t, x = V.ref t ∧ PrAt K H t (k x)) → ∀ ys p, SrtO.Srtd (ltP k) ys → ys.Perm xs → H p = none → Q (.ref p) (upd H p (.lst ys)))
theorem Inv.prAt {pins : List (Addr × Obj)} {σ : L2.St} {H : Hp} {s : Shared} (I : Inv X pins σ H s) {t : Addr} {p q : Int × Int} (h : PrAt X.K H t p) (g : PrAt X.K H t q) : p = q := by
  obtain ⟨i1, r1, ⟨o, ho, hc, n, hd⟩, _⟩ := I.tuple h
  obtain ⟨i2, r2, ⟨o', ho', hc', n', hd'⟩, _⟩ := I.tuple g
  rw [ho] at ho'
  cases ho'
  rw [hd] at hd'
  obtain ⟨u1, u2, rfl, ri, rj⟩ := vals2 r1
  obtain ⟨v1, v2, rfl, si, sj⟩ := vals2 r2
  obtain ⟨t1, rfl⟩ := ri
  obtain ⟨t2, rfl⟩ := rj
  obtain ⟨t3, rfl⟩ := si
  obtain ⟨t4, rfl⟩ := sj
  cases p
  cases q
  simp at hd'
  obtain ⟨⟨⟨rfl, _⟩, rfl, _⟩, _⟩ := hd'
  rfl
theorem cr_sortedPR : CallR X (.builtin "sorted") (r1 (rSortedPR X.K)) := by
  intro pins s σ H vs us Q I r h
  obtain ⟨x0, rfl, a, xs, rfl, hs, hx0, q⟩ := h
  have hx : ∀ x ∈ xs, ∃ t, x = V.ref t ∧ PrAt X.K H t (keyP X.K H x) := fun x hm => by
    obtain ⟨t, p, rfl, ht⟩ := hx0 x hm
    refine ⟨t, rfl, ?_⟩
    have hh : ∃ p : Int × Int, ∃ t', V.ref t = .ref t' ∧ SqT X.K H t' [.int p.1, .int p.2] := ⟨p, t, rfl, ht⟩
    unfold keyP
    rw [dif_pos hh]
    obtain ⟨t', e, g⟩ := hh.choose_spec
    cases e
    exact g
  have q := q (fun t p q h g => Inv.prAt I h g) (keyP X.K H) hx
  revert q hx
  generalize keyP X.K H = k
  intro hx q
  obtain ⟨its, rv, hl, hz⟩ := I.list hs
  obtain ⟨u, rfl, ru⟩ := vals1 r
  obtain rfl : u = Value.ref a := ru
  obtain ⟨e1, e2⟩ := refs_back rv fun x m => by
    obtain ⟨t, e, _⟩ := hx x m
    exact ⟨t, e⟩
  refine SrtO.sorted_pairsO (k := fun u => k (backV u)) hl.isList (by rw [← rv.length]; exact hz) (fun v hv => ?_) fun h' d out h1 h2 kp hd hn => ?_
  · obtain ⟨t, rfl⟩ := e2 v hv
    have hm : V.ref t ∈ xs := by rw [e1]; exact List.mem_map.mpr ⟨_, hv, rfl⟩
    obtain ⟨t', e, ht⟩ := hx _ hm
    cases e
    obtain ⟨its2, r2, ⟨o, ho, hc, n, hd⟩, _⟩ := I.tuple ht
    obtain ⟨u1, u2, rfl, ri, rj⟩ := vals2 r2
    obtain ⟨t1, rfl⟩ := ri
    obtain ⟨t2, rfl⟩ := rj
    exact ⟨t, o, t1, t2, n, rfl, ho, hc, hd⟩
  · have h3 : ∀ u ∈ out, ∃ a, u = Value.ref a := fun u hu => e2 u (h2.perm.mem_iff.mp hu)
    obtain ⟨n, hn⟩ := hn
    have hb : (out.map backV).Perm xs := by
      rw [e1]
      exact h2.perm.map backV
    refine ⟨.ref d, upd H d (.lst (out.map backV)), I.laid (t' := s.toks) kp hd ⟨?_, out, n, vals_back h3, hn⟩, rfl, q _ d (SrtO.srtd_map h1) hb (I.hok.fresh hd)⟩
    rw [hb.length_eq]
    exact hz
def keysI : List (Key × D) → Option (List Int)
  | [] => some []
  | (.inl i, _) :: r => (keysI r).map fun ks => i :: ks
  | _ => none
theorem keysI_rel {K : PySem.W.Frag} {H : Hp} {μ : List Addr} : ∀ {kvs : List (Key × D)} {vs : List (Key × V)} {ks : List Int}, RKs K H μ kvs vs → keysI kvs = some ks → vs.map (·.1) = ks.map Sum.inl
  | [], _, _, .nil, h => by cases h; rfl
  | (.inl i, d) :: r, _, ks, .cons h1 h2, h => by
    unfold keysI at h
    cases q : keysI r with
    | none => rw [q] at h; cases h
    | some ks' =>
      rw [q] at h
      cases h
      rw [List.map_cons, List.map_cons, keysI_rel h2 q, ← h1.1]
  | (.inr i, d) :: r, _, ks, .cons h1 h2, h => by cases h
def dkI (u : U) (h : List O) : Option (List Int) := match u with
  | .lab n => (match h[n]? with
    | some (.dct kvs) => keysI kvs
    | some (.hold kvs) => keysI kvs
    | _ => none)
  | _ => none
def sortedU (m : Bool) (u : U) (h : List O) : R U := match (lstLike u h).bind intsOf with
  | some ns => mkL m ((sortI ns).map .int) h
  | none => match (lstLike u h).bind pairsOf with
    | some ps => mkL m ((sortP ps).map pairD) h
    | none => match dkI u h with
      | some ks => if ks.length < 64 then mkL m ((sortI ks).map .int) h else .bad
      | none => .bad
theorem dkI_of {K : PySem.W.Frag} {H : Hp} {μ : List Addr} {u : U} {h : List O} {x : V} {ks : List Int} (rh : Rh K H μ h) (r : RU K H μ u x) (e : dkI u h = some ks) : ∃ a kvs, x = .ref a ∧ Rd H a (.dK kvs) ∧ kvs.map (·.1) = ks.map Sum.inl := by
  cases r with
  | @lab n a r =>
    unfold dkI at e
    dsimp only at e
    split at e
    · rename_i kvs z
      obtain ⟨ho, h1, h2⟩ := rh.obj n _ a z r
      cases h2 with
      | dct h2 => exact ⟨a, _, rfl, .inl h1, keysI_rel h2 e⟩
    · rename_i kvs z
      obtain ⟨ho, h1, h2⟩ := rh.obj n _ a z r
      cases h2 with
      | hold h2 => exact ⟨a, _, rfl, .inr ⟨_, h1⟩, keysI_rel h2 e⟩
    · cases e
  | _ => cases e
def rSortDI : V → Hp → VK → Prop := fun x H Q => ∃ (a : Addr) (kvs : List (Key × V)) (ks : List Int), x = .ref a ∧ Rd H a (.dK kvs) ∧ kvs.map (·.1) = ks.map Sum.inl ∧ ks.length < 64 ∧
    ∀ (ys : List Int) (p : Addr), ys.Perm ks → ys.Pairwise (· ≤ ·) → H p = none → Q (.ref p) (upd H p (.lst (ys.map V.int)))
def rSortI1 (K : PySem.W.Frag) : V → Hp → VK → Prop := fun x H Q => ∃ (a : Addr) (ns : List Int), x = .ref a ∧ SqL K H a (ns.map V.int) ∧ ∀ (ns' : List Int) (p : Addr), ns'.Perm ns → ns'.Pairwise (· ≤ ·) → H p = none → Q (.ref p) (upd H p (.lst (ns'.map V.int)))
def rSortV (K : PySem.W.Frag) : V → Hp → VK → Prop := fun x H Q => rSortI1 K x H Q ∨ rSortedPR K x H Q ∨ rSortDI x H Q
theorem cr_sortV (hc : X.calm = true) : CallR X (.builtin "sorted") (r1 (rSortV X.K)) := by
  intro pins s σ H vs us Q I r h
  obtain ⟨x, e, h⟩ := h
  rcases h with ⟨a, ns, e2, q⟩ | h | ⟨a, kvs, ks, e2, q⟩
  · exact cr_sortedI pins s σ H vs us Q I r ⟨a, ns, by rw [e, e2], q⟩
  · exact cr_sortedPR pins s σ H vs us Q I r ⟨x, e, h⟩
  · exact call_sortedDI hc pins s σ H vs us Q I r ⟨a, kvs, ks, by rw [e, e2], q⟩
theorem pairs_rel {K : PySem.W.Frag} {H : Hp} {μ : List Addr} : ∀ {ps : List (Int × Int)} {vs : List V}, RDs K H μ (ps.map pairD) vs → (∀ x ∈ vs, ∃ t p, x = V.ref t ∧ PrAt K H t p) ∧
    ∀ k : V → Int × Int, (∀ t p q, PrAt K H t p → PrAt K H t q → p = q) → (∀ x ∈ vs, ∃ t, x = V.ref t ∧ PrAt K H t (k x)) → vs.map k = ps
  | [], _, .nil => ⟨fun x h => absurd h (by simp), fun _ _ _ => rfl⟩
  | p :: ps, v :: vs, .cons r q => by
    obtain ⟨h1, h2⟩ := pairs_rel q
    have hv : ∃ t, v = V.ref t ∧ PrAt K H t p := by
      cases r with
      | tup h r => cases r with
        | cons a r => cases r with
          | cons b r =>
            cases r
            cases a
            cases b
            exact ⟨_, rfl, h.sq⟩
    refine ⟨fun x hx => ?_, fun k hu hk => ?_⟩
    · rcases List.mem_cons.mp hx with rfl | hx
      · obtain ⟨t, e, h⟩ := hv; exact ⟨t, p, e, h⟩
      · exact h1 x hx
    · rw [List.map_cons, h2 k hu fun x hx => hk x (List.mem_cons_of_mem _ hx)]
      obtain ⟨t, rfl, h⟩ := hv
      obtain ⟨t', e, g⟩ := hk (.ref t) List.mem_cons_self
      cases e
      rw [hu t _ _ g h]
/-- a rearrangement of the values is one of the data -/
theorem pairs_back {K : PySem.W.Frag} {H : Hp} {μ : List Addr} (k : V → Int × Int) : ∀ {vs : List V}, (∀ v ∈ vs, RD K H μ (pairD (k v)) v) → RDs K H μ ((vs.map k).map pairD) vs
  | [], _ => .nil
  | v :: vs, h => .cons (h v List.mem_cons_self) (pairs_back k fun x hx => h x (List.mem_cons_of_mem _ hx))
theorem RDs.mem {K : PySem.W.Frag} {H : Hp} {μ : List Addr} (k : V → Int × Int) : ∀ {vs : List V}, RDs K H μ ((vs.map k).map pairD) vs → ∀ v ∈ vs, RD K H μ (pairD (k v)) v
  | [], _, v, h => absurd h (by simp)
  | w :: vs, .cons r q, v, h => by
    rcases List.mem_cons.mp h with rfl | h
    · exact r
    · exact RDs.mem k q v h
theorem cd_sort (m : Bool) : CallD X W (r1 (rSortV X.K)) (g1 (sortedU m)) := calld_1 fun u h σ H μ x Q rh ru p => by
  unfold sortedU at p
  split at p
  · rename_i ns e
    cases z : lstLike u h with
    | none => rw [z] at e; cases e
    | some xs =>
      rw [z] at e
      obtain ⟨a, vs, rfl, h1, q⟩ := lstLike_of rh ru z
      have ev := intsOf_of q e
      subst ev
      refine .inl ⟨a, ns, rfl, h1, fun ns' l pm srt hl => ?_⟩
      have en : ns' = sortI ns := sorted_unique srt (sortI_sorted ns) (pm.trans (sortI_perm ns).symm)
      subst en
      exact mkL_of rh (RDs_ints _) p l hl
  · split at p
    · rename_i ps e
      cases z : lstLike u h with
      | none => rw [z] at e; cases e
      | some xs =>
        rw [z] at e
        obtain ⟨a, vs, rfl, h1, q⟩ := lstLike_of rh ru z
        have ev := pairsOf_eq (show pairsOf xs = some ps from e)
        subst ev
        obtain ⟨g1, g2⟩ := pairs_rel q
        refine .inr (.inl ⟨a, vs, rfl, h1, g1, fun hu k hk ys l srt pm hl => ?_⟩)
        have ek := g2 k hu hk
        subst ek
        have hm := RDs.mem k q
        have en : ys.map k = sortP (vs.map k) := by
          refine sortedP_unique ?_ (sortP_sorted _) ((pm.map k).trans (sortP_perm _).symm)
          refine List.pairwise_map.mpr (srt.imp fun {x y} h => ?_)
          have h' := SrtO.lexB_no.mp h
          simp only [LeP, leP_iff]
          omega
        rw [← en] at p
        exact mkL_of rh (pairs_back k fun v hv => hm v (pm.mem_iff.mp hv)) p l hl
    · split at p
      · rename_i ks e
        split at p
        · rename_i hl
          obtain ⟨a, kvs, rfl, h1, h2⟩ := dkI_of rh ru e
          refine .inr (.inr ⟨a, kvs, ks, rfl, h1, h2, hl, fun ns' l pm srt hl => ?_⟩)
          have en : ns' = sortI ks := sorted_unique srt (sortI_sorted ks) (pm.trans (sortI_perm ks).symm)
          subst en
          exact mkL_of rh (RDs_ints _) p l hl
        · exact p.elim
      · exact p.elim
end
end Py

namespace Py
open PySem PySem.Spec PyProof.Rows L2
section
variable {X : Cx} {W : WX}
/-! ### dicts: what stands at a key -/
def keyOf : D → Option Key
  | .int i => some (.inl i)
  | .str s => some (.inr s)
  | _ => none
def getK (kvs : List (Key × D)) (k : Key) : Option D := match kvs with
  | [] => none
  | (q, d) :: r => if q = k then some d else getK r k
theorem keyOf_of {K : PySem.W.Frag} {H : Hp} {μ : List Addr} {d : D} {y : V} {k : Key} (r : RD K H μ d y) (e : keyOf d = some k) : y = kV k := by
  cases r <;> cases e <;> rfl
theorem valV_cons (q k : Key) (v : V) (r : List (Key × V)) : valV ((q, v) :: r) k = if q = k then some v else valV r k := by
  unfold valV
  rw [List.find?_cons]
  by_cases h : q = k
  · subst h
    simp
  · rw [if_neg h]
    have : (decide (q = k)) = false := decide_eq_false h
    simp [this]
theorem getK_rel {K : PySem.W.Frag} {H : Hp} {μ : List Addr} {kvs : List (Key × D)} {vs : List (Key × V)} (r : RKs K H μ kvs vs) (k : Key) : (∀ d, getK kvs k = some d → ∃ v, valV vs k = some v ∧ RD K H μ d v) ∧ (getK kvs k = none → valV vs k = none) := by
  induction r with
  | nil => exact ⟨fun d e => (by cases e), fun _ => rfl⟩
  | @cons p q xs ys h t ih =>
    obtain ⟨p1, p2⟩ := p
    obtain ⟨q1, q2⟩ := q
    obtain ⟨e, h⟩ := h
    dsimp only at e h
    subst e
    rw [valV_cons]
    show (∀ d, (if p1 = k then some p2 else getK xs k) = some d → _) ∧ ((if p1 = k then some p2 else getK xs k) = none → _)
    by_cases hk : p1 = k
    · rw [if_pos hk, if_pos hk]
      exact ⟨fun d e => (by cases e; exact ⟨q2, rfl, h⟩), fun e => (by cases e)⟩
    · rw [if_neg hk, if_neg hk]
      exact ih
theorem dget_k {H : Hp} {a : Addr} {kvs : List (Key × V)} {k : Key} (e : Rd H a (.dK kvs)) : DGet H a (kV k) (valV kvs k) := .inl ⟨kvs, k, e, rfl, rfl⟩
def dctOf (u : U) (h : List O) : Option (List (Key × D)) := match u with
  | .lab n => (match h[n]? with
    | some (.dct kvs) => some kvs
    | some (.hold kvs) => some kvs
    | _ => none)
  | _ => none
theorem dctOf_of {K : PySem.W.Frag} {H : Hp} {μ : List Addr} {u : U} {h : List O} {x : V} {kvs : List (Key × D)} (rh : Rh K H μ h) (r : RU K H μ u x) (e : dctOf u h = some kvs) : ∃ n a vs, u = .lab n ∧ μ[n]? = some a ∧ x = .ref a ∧ Rd H a (.dK vs) ∧ RKs K H μ kvs vs := by
  cases r with
  | @lab n a r =>
    have e' : (match h[n]? with | some (.dct kvs) => some kvs | some (.hold kvs) => some kvs | _ => none) = some kvs := e
    cases q : h[n]? with
    | none => rw [q] at e'; cases e'
    | some o =>
      rw [q] at e'
      cases o with
      | dct ys =>
        cases e'
        obtain ⟨ho, h1, h2⟩ := rh.obj n _ a q r
        cases h2 with
        | dct h2 => exact ⟨n, a, _, rfl, r, rfl, .inl h1, h2⟩
      | hold ys =>
        cases e'
        obtain ⟨ho, h1, h2⟩ := rh.obj n _ a q r
        cases h2 with
        | hold h2 => exact ⟨n, a, _, rfl, r, rfl, .inr ⟨_, h1⟩, h2⟩
      | lst ys => cases e'
      | mix ys => cases e'
  | _ => cases e
/-! ### in, not in -/
def inO (a b : U) (h : List O) : Option Bool := match dctOf b h with
  | some kvs => (match a with
    | .d x => (keyOf x).map fun k => (getK kvs k).isSome
    | _ => none)
  | none => (match dataOf a h, seqOf b h with
    | some d, some ds => if d.depth ≤ 60 then some (ds.any fun z => PyData.eqv z d) else none
    | _, _ => none)
def inU (neg : Bool) (a b : U) (h : List O) : R U := (opt (inO a b h) h).bind fun k h => .ok (.d (.bool (neg != k))) h
def rInA (K : PySem.W.Frag) (neg : Bool) : R2 := fun x y H Q => (∃ d ds, Dp K H x d ∧ (Dp K H y (.list ds) ∨ Dp K H y (.tuple ds)) ∧ d.canLay0 = true ∧ PyData.canLayAll0 ds = true ∧ d.depth ≤ 60 ∧ Q (.bl (neg != (ds.any fun z => PyData.eqv z d))) H) ∨
  ∃ a o, y = .ref a ∧ DGet H a x o ∧ Q (.bl (neg != o.isSome)) H
theorem op_inA (hu : X.A.units + 64 < cLine) : OpR X (compareOp .In) (rInA X.K false) := by
  intro pins s σ H x y v u Q I rx ry h
  rcases h with ⟨d, ds, hd, he, sd, se, hz, q⟩ | ⟨a, o, rfl, g, q⟩
  · obtain ⟨as, r1⟩ := Dp.reads I d x v hd rx
    have q' : Q (.bl (ds.any fun z => PyData.eqv z d)) H := by simpa using q
    rcases he with he | he
    · obtain ⟨bs, r2⟩ := Dp.reads I (.list ds) y u he ry
      exact SeqAt.in_list_reads r2 r1 se sd (by omega) ⟨.bl _, H, I, rfl, q'⟩
    · obtain ⟨bs, r2⟩ := Dp.reads I (.tuple ds) y u he ry
      exact SeqAt.in_tuple_reads r2 r1 se sd (by omega) ⟨.bl _, H, I, rfl, q'⟩
  · cases ry
    exact d_in (by omega) I g rx fun s' I' => ⟨.bl _, H, I', by simp; rfl, q⟩
theorem op_notInA (hu : X.A.units + 64 < cLine) : OpR X (compareOp .NotIn) (rInA X.K true) := by
  intro pins s σ H x y v u Q I rx ry h
  rcases h with ⟨d, ds, hd, he, sd, se, hz, q⟩ | ⟨a, o, rfl, g, q⟩
  · obtain ⟨as, r1⟩ := Dp.reads I d x v hd rx
    have q' : Q (.bl (!ds.any fun z => PyData.eqv z d)) H := by simpa using q
    rcases he with he | he
    · obtain ⟨bs, r2⟩ := Dp.reads I (.list ds) y u he ry
      exact SeqAt.notIn_list_reads r2 r1 se sd (by omega) ⟨.bl _, H, I, rfl, q'⟩
    · obtain ⟨bs, r2⟩ := Dp.reads I (.tuple ds) y u he ry
      exact SeqAt.notIn_tuple_reads r2 r1 se sd (by omega) ⟨.bl _, H, I, rfl, q'⟩
  · cases ry
    exact d_notIn (by omega) I g rx fun s' I' => ⟨.bl _, H, I', by simp; rfl, q⟩
theorem seqOf_dp {K : PySem.W.Frag} {H : Hp} {μ : List Addr} {u : U} {h : List O} {x : V} {xs : List D} (rh : Rh K H μ h) (r : RU K H μ u x) (e : seqOf u h = some xs) : (Dp K H x (.list xs) ∨ Dp K H x (.tuple xs)) ∧ PyData.canLayAll0 xs = true := by
  obtain ⟨a, vs, rfl, h1, q⟩ := seqOf_of rh r e
  rcases h1 with h1 | h1
  · exact ⟨.inl (.lst h1 q.dp), q.lay⟩
  · exact ⟨.inr (.tup h1 q.dp), q.lay⟩
theorem opd_in (neg : Bool) : OpD X W (rInA X.K neg) (inU neg) := by
  intro a b h σ H μ x y Q rh ra rb p
  obtain ⟨k, ek, p⟩ := Post.opt p
  unfold inO at ek
  cases ed : dctOf b h with
  | some kvs =>
    rw [ed] at ek
    obtain ⟨n, ad, vs, rfl, hn, rfl, h1, q⟩ := dctOf_of rh rb ed
    cases ra with
    | @d dd _ ra =>
      have ek' : (keyOf dd).map (fun k => (getK kvs k).isSome) = some k := ek
      cases e2 : keyOf dd with
      | none => rw [e2] at ek'; cases ek'
      | some kk =>
        rw [e2] at ek'
        cases ek'
        have := keyOf_of ra e2
        subst this
        refine .inr ⟨ad, _, rfl, dget_k h1, ?_⟩
        have e3 : (valV vs kk).isSome = (getK kvs kk).isSome := by
          obtain ⟨g1, g2⟩ := getK_rel q kk
          cases z : getK kvs kk with
          | none => rw [g2 z]; rfl
          | some d => obtain ⟨v, hv, _⟩ := g1 d z; rw [hv]; rfl
        rw [e3]
        exact p.ret rh (.d (.bl _))
    | _ => cases ek
  | none =>
    rw [ed] at ek
    cases ea : dataOf a h with
    | none => rw [ea] at ek; cases ek
    | some d =>
      cases eb : seqOf b h with
      | none => rw [ea, eb] at ek; cases ek
      | some ds =>
        rw [ea, eb] at ek
        have ek' : (if d.depth ≤ 60 then some (ds.any fun z => PyData.eqv z d) else none) = some k := ek
        by_cases hz : d.depth ≤ 60
        · rw [if_pos hz] at ek'
          cases ek'
          obtain ⟨d1, l1⟩ := dataOf_of rh ra ea
          obtain ⟨d2, l2⟩ := seqOf_dp rh rb eb
          exact .inl ⟨d, ds, d1, d2, l1, l2, hz, p.ret rh (.d (.bl _))⟩
        · rw [if_neg hz] at ek'; cases ek'
/-! ### isinstance -/
def tyN (u : U) (h : List O) : Option String := match u with
  | .d .none => some "NoneType"
  | .d (.bool _) => some "bool"
  | .d (.int _) => some "int"
  | .d (.str _) => some "str"
  | .d (.tuple _) => some "tuple"
  | .d (.list _) => some "list"
  | .d (.dict _) => some "dict"
  | .scr _ => some "list"
  | .lab n => h[n]?.map fun o => match o with
    | .dct _ => "dict"
    | .hold _ => "dict"
    | _ => "list"
  | _ => none
def isaB (a b : String) : Bool := a == b || (a == "bool" && b == "int")
def tyNames : List String := ["NoneType", "bool", "int", "str", "tuple", "list", "dict"]
theorem kit_all : ∀ a ∈ tyNames, ∀ b ∈ tyNames, kitB a b = some (isaB a b) := by decide +kernel
def isiU (u c : U) (h : List O) : R U := match c with
  | .ty b => if tyNames.contains b = true then (opt (tyN u h) h).bind fun a h => .ok (.d (.bool (isaB a b))) h else .bad
  | _ => .bad
theorem tyN_of {K : PySem.W.Frag} {H : Hp} {μ : List Addr} {u : U} {h : List O} {x : V} {n : String} (rh : Rh K H μ h) (r : RU K H μ u x) (e : tyN u h = some n) : TyX K H x (.type n) ∧ n ∈ tyNames := by
  cases r with
  | d r =>
    cases r with
    | non => cases e; exact ⟨.base .non, by decide⟩
    | bl b => cases e; exact ⟨.base (.bl b), by decide⟩
    | int b => cases e; exact ⟨.base (.int b), by decide⟩
    | str b _ => cases e; exact ⟨.base (.str b), by decide⟩
    | tup h1 q =>
      cases e
      refine ⟨?_, by decide⟩
      rcases h1 with ⟨h1, _⟩ | ⟨o, its, n, h1, h2, _⟩
      · exact .base (.tup h1)
      · exact .kTuple h1 h2
    | lst h1 _ q => cases e; exact ⟨.base (.lst h1), by decide⟩
  | scr h1 =>
    cases e
    refine ⟨?_, by decide⟩
    rcases h1 with ⟨o, h1, _⟩ | ⟨o, its, n, h1, h2, _⟩
    · exact .base (.frz h1)
    · exact .kList h1 h2
  | @lab m a ra =>
    unfold tyN at e
    cases z : h[m]? with
    | none => simp only [z] at e; cases e
    | some o =>
      simp only [z] at e
      obtain ⟨ho, h1, h2⟩ := rh.obj m o a z ra
      cases h2 with
      | lst q => cases e; exact ⟨.base (.lst h1), (show "list" ∈ tyNames by decide)⟩
      | mix q _ => cases e; exact ⟨.base (.lst h1), (show "list" ∈ tyNames by decide)⟩
      | dct q => cases e; exact ⟨.base (.dK h1), (show "dict" ∈ tyNames by decide)⟩
      | hold q => cases e; exact ⟨.fDict h1, (show "dict" ∈ tyNames by decide)⟩
  | _ => cases e
def rIsiV (K : PySem.W.Frag) : V → V → Hp → VK → Prop := fun x c H Q => ∃ (t u : Value) (b : Bool), ClsV c u ∧ TyX K H x t ∧ PySem.W.kitOne K t u = some b ∧ Q (.bl b) H
theorem cr_isi : CallR X (.builtin "isinstance") (r2 (rIsiV X.K)) := CallR.imp call_isi fun xs H Q ⟨x, c, e, t, u, b, k, ty, o, q⟩ => ⟨x, c, t, u, b, e, k, ty, o, q⟩
theorem cd_isi : CallD X W (r2 (rIsiV X.K)) (g2 isiU) := calld_2 fun u c h σ H μ x y Q rh ru rc p => by
  unfold isiU at p
  split at p
  · rename_i b
    split at p
    · rename_i hb
      obtain ⟨a, e, p⟩ := Post.opt p
      obtain ⟨t, ha⟩ := tyN_of rh ru e
      cases rc with
      | ty n => exact ⟨.type a, .type b, _, .ty b, t, kit_ty (kit_all a ha b (by simpa using hb)), p.ret rh (.d (.bl _))⟩
    · exact p.elim
  · exact p.elim
/-! ### a[i] -/
def isSl : Expr → Bool
  | .Slice _ _ _ _ => true
  | _ => false
theorem plainIx {b : Expr} (h : isSl b = false) : PlainIx b := by
  intro o i
  cases b <;> first | rfl | cases h
/-- the item at a place of any sign -/
def ixO (a : U) (i : Int) (h : List O) : Option U := match a with
  | .d (.str s) => if s.length ≤ 10000000 then (atI s.cps.toList i).bind fun c => if PyData.strOk ⟨#[c]⟩ = true then some (.d (.str ⟨#[c]⟩)) else none else none
  | .lab n => (match h[n]? with
    | some (.lst xs) => (atI xs i).map .d
    | some (.mix xs) => atI xs i
    | _ => none)
  | a => (seqOf a h).bind fun xs => (atI xs i).map .d
def getS (a b : U) (h : List O) : R U := match b with
  | .d (.int i) => (opt (ixO a i h) h).bind fun u h => .ok u h
  | _ => .bad
def getU (a b : U) (h : List O) : R U := match dctOf a h with
  | some kvs => (match b with
    | .d x => (opt ((keyOf x).bind (getK kvs)) h).bind fun d h => .ok (.d d) h
    | _ => .bad)
  | none => getS a b h
def rGetA (K : PySem.W.Frag) : R2 := fun x y H Q => rIx K x y H Q ∨ ∃ a v, x = .ref a ∧ DGet H a y (some v) ∧ Q v H
theorem ix_dict (hu : X.A.units + 64 < cLine) : IxR X (fun x y H Q => ∃ a v, x = .ref a ∧ DGet H a y (some v) ∧ Q v H) := by
  intro value slice pins s σ H x y v u Q I rx ry h hs
  obtain ⟨a, w, rfl, g, q⟩ := h
  cases rx
  exact tail_any (dict_typeIs I g) PySem.F.slot_dict_getitem.lookup (d_getItem (by omega) I g ry fun w' s3 I3 rw' => ⟨w, H, I3, rw', q⟩) hs
theorem ix_A (hu : X.A.units + 64 < cLine) : IxR X (rGetA X.K) := IxR.or ix_seq (ix_dict hu)
theorem ixN_lt {n : Nat} {i : Int} {j : Nat} (h : ixN n i = some j) : j < n := (ixN_seq h).2.1
theorem atI_rel {K : PySem.W.Frag} {H : Hp} {μ : List Addr} {xs : List D} {vs : List V} {i : Int} {d : D} (r : RDs K H μ xs vs) (e : atI xs i = some d) : ∃ v, atI vs i = some v ∧ RD K H μ d v := by
  unfold atI at e ⊢
  rw [← r.length]
  cases z : ixN xs.length i with
  | none => rw [z] at e; cases e
  | some j =>
    rw [z] at e
    exact r.get e
theorem atI_relU {K : PySem.W.Frag} {H : Hp} {μ : List Addr} {xs : List U} {vs : List V} {i : Int} {d : U} (r : RUs K H μ xs vs) (e : atI xs i = some d) : ∃ v, atI vs i = some v ∧ RU K H μ d v := by
  unfold atI at e ⊢
  rw [← r.length]
  cases z : ixN xs.length i with
  | none => rw [z] at e; cases e
  | some j =>
    rw [z] at e
    exact r.get e
theorem ixO_of {K : PySem.W.Frag} {H : Hp} {μ : List Addr} {a w : U} {i : Int} {h : List O} {x : V} {Q : VK} (rh : Rh K H μ h) (r : RU K H μ a x) (e : ixO a i h = some w) (q : ∀ v, RU K H μ w v → Q v H) : rIx K x (.int i) H Q := by
  have seq : ∀ xs, seqOf a h = some xs → (atI xs i).map U.d = some w → rIx K x (.int i) H Q := fun xs es e => by
    obtain ⟨ad, vs, rfl, h1, q1⟩ := seqOf_of rh r es
    cases z : atI xs i with
    | none => rw [z] at e; cases e
    | some d =>
      rw [z] at e
      cases e
      obtain ⟨v, hv, rv⟩ := atI_rel q1 z
      rcases h1 with h1 | h1
      · exact .inl ⟨ad, vs, i, v, rfl, rfl, h1, hv, q v (.d rv)⟩
      · exact .inr (.inl ⟨ad, vs, i, v, rfl, rfl, h1, hv, q v (.d rv)⟩)
  have seq2 : (seqOf a h).bind (fun xs => (atI xs i).map U.d) = some w → rIx K x (.int i) H Q := fun e => by
    cases z : seqOf a h with
    | none => rw [z] at e; cases e
    | some xs => rw [z] at e; exact seq xs z e
  unfold ixO at e
  split at e
  · rename_i s
    by_cases hs : s.length ≤ 10000000
    · rw [if_pos hs] at e
      obtain rfl := r.str_inv
      cases z : atI s.cps.toList i with
      | none => rw [z] at e; cases e
      | some c =>
        rw [z] at e
        have e' : (if PyData.strOk ⟨#[c]⟩ = true then some (U.d (.str ⟨#[c]⟩)) else none) = some w := e
        by_cases hk : PyData.strOk ⟨#[c]⟩ = true
        · rw [if_pos hk] at e'
          cases e'
          exact .inr (.inr ⟨s, i, c, rfl, rfl, by rw [line_eq]; omega, z, q _ (.d (.str _ hk))⟩)
        · rw [if_neg hk] at e'; cases e'
    · rw [if_neg hs] at e; cases e
  · rename_i n
    cases z : h[n]? with
    | none => simp only [z] at e; cases e
    | some o =>
      simp only [z] at e
      cases r with
      | @lab _ ad ra =>
        obtain ⟨ho, h1, h2⟩ := rh.obj n o ad z ra
        cases h2 with
        | lst q1 =>
          have e' : (atI _ i).map U.d = some w := e
          cases z2 : atI _ i with
          | none => rw [z2] at e'; cases e'
          | some d =>
            rw [z2] at e'
            cases e'
            obtain ⟨v, hv, rv⟩ := atI_rel q1 z2
            exact .inl ⟨ad, _, i, v, rfl, rfl, SqL.of h1, hv, q v (.d rv)⟩
        | mix q1 _ =>
          obtain ⟨v, hv, rv⟩ := atI_relU q1 e
          exact .inl ⟨ad, _, i, v, rfl, rfl, SqL.of h1, hv, q v rv⟩
        | dct q1 => cases e
        | hold q1 => cases e
  · exact seq2 e
theorem getU_of {σ : L2.St} {K : PySem.W.Frag} {H : Hp} {μ : List Addr} {a b : U} {h : List O} {x y : V} {Q : VK} (rh : Rh K H μ h) (ra : RU K H μ a x) (rb : RU K H μ b y) (p : Post K W σ H μ (RU K) (getU a b h) Q) : rGetA K x y H Q := by
  unfold getU at p
  cases ed : dctOf a h with
  | some kvs =>
    rw [ed] at p
    obtain ⟨n, ad, vs, rfl, hn, rfl, h1, q⟩ := dctOf_of rh ra ed
    cases rb with
    | @d dd _ rb =>
      obtain ⟨d, e, p⟩ := Post.opt p
      cases e2 : keyOf dd with
      | none => rw [e2] at e; cases e
      | some kk =>
        rw [e2] at e
        have := keyOf_of rb e2
        subst this
        obtain ⟨v, hv, rv⟩ := (getK_rel q kk).1 d e
        exact .inr ⟨ad, v, rfl, by rw [← hv]; exact dget_k h1, p.ret rh (.d rv)⟩
    | _ => exact p.elim
  | none =>
    rw [ed] at p
    have p' : Post K W σ H μ (RU K) (getS a b h) Q := p
    unfold getS at p'
    split at p'
    · rename_i i
      obtain ⟨w, e, p2⟩ := Post.opt p'
      obtain rfl := rb.int_inv
      exact .inl (ixO_of rh ra e fun v rv => p2.ret rh rv)
    · exact p'.elim
theorem den_ix {a b : Expr} {pos : Pos} {fa fb : En → List O → R U} (hu : X.A.units + 64 < cLine) (ha : Den X W a fa) (hb : Den X W b fb) (hs : isSl b = false) : Den X W (.Subscript a b pos) (ev2 fa fb getU) := by
  obtain ⟨ta, pa, ca⟩ := ha
  obtain ⟨tb, pb, cb⟩ := hb
  exact ⟨_, pe_ix (ix_A hu) pa pb (plainIx hs), two ca cb fun a b h σ H μ x y Q rh ra rb p => getU_of rh ra rb p⟩
end
end Py

namespace Py
open PySem PySem.Spec PyProof.Rows L2
section
variable {X : Cx} {W : WX}
/-! ### slices -/
def relI (_ : Hp) (_ : List Addr) (a b : Option Int) : Prop := a = b
def DenO (X : Cx) (W : WX) (e : Option Expr) (f : En → List O → R (Option Int)) : Prop :=
  ∃ t, PO X e t ∧ ∀ σ' h σ H μ Q, RE X.K H μ σ' σ → Rh X.K H μ h → Post X.K W σ H μ relI (f σ' h) Q → t σ H Q
def evNo : En → List O → R (Option Int) := fun _ h => .ok none h
def asI : U → Option Int
  | .d (.int i) => some i
  | _ => none
theorem asI_of {K : PySem.W.Frag} {H : Hp} {μ : List Addr} {u : U} {x : V} {i : Int} (r : RU K H μ u x) (e : asI u = some i) : x = .int i := by
  cases r with
  | d r => cases r <;> cases e; rfl
  | _ => cases e
def evPart (f : En → List O → R U) : En → List O → R (Option Int) := fun σ h => (f σ h).bind fun u h => (opt (asI u) h).bind fun i h => .ok (some i) h
theorem deno_none : DenO X W none evNo := ⟨_, po_none, fun σ' h σ H μ Q re rh p => p.ret rh rfl⟩
theorem deno_some {e : Expr} {f : En → List O → R U} (hf : Den X W e f) : DenO X W (some e) (evPart f) := by
  obtain ⟨ta, pa, ca⟩ := hf
  refine ⟨_, po_some pa, fun σ' h σ H μ Q re rh p => ?_⟩
  refine ca σ' h σ H μ _ re rh (Post.bind p fun u h1 H1 μ1 x e1 rh1 ru p1 => ?_)
  obtain ⟨i, ei, p2⟩ := Post.opt p1
  exact ⟨i, asI_of ru ei, p2.ret rh1 rfl⟩
def cut {α : Type} (xs : List α) (lo hi : Option Int) : List α := (xs.drop (HT.sIx xs.length 0 lo)).take (HT.sIx xs.length xs.length hi - HT.sIx xs.length 0 lo)
theorem cut_rel {K : PySem.W.Frag} {H : Hp} {μ : List Addr} {xs : List D} {vs : List V} (r : RDs K H μ xs vs) (lo hi : Option Int) : RDs K H μ (cut xs lo hi) (cutV vs lo hi) := by
  unfold cut cutV
  rw [r.length]
  exact (r.drop _).take _
def slU (m : Bool) (a : U) (lo hi : Option Int) (h : List O) : R U := match a with
  | .d (.tuple xs) => .ok (.d (.tuple (cut xs lo hi))) h
  | .d (.str s) => if s.length ≤ 10000000 ∧ PyData.strOk (cutS s lo hi) = true then .ok (.d (.str (cutS s lo hi))) h else .bad
  | a => (opt (lstLike a h) h).bind fun xs h => mkL m (cut xs lo hi) h
def rSlX (K : PySem.W.Frag) : V → Option Int → Option Int → Hp → VK → Prop := fun x lo hi H Q => rSlL K x lo hi H Q ∨ (rSlA K x lo hi H Q ∨ rSlS x lo hi H Q)
theorem sl_X : SlR X (rSlX X.K) := SlR.or sl_list (SlR.or sl_tupA sl_str)
theorem slU_of {K : PySem.W.Frag} {σ : L2.St} {H : Hp} {μ : List Addr} {m : Bool} {a : U} {lo hi : Option Int} {h : List O} {x : V} {Q : VK} (rh : Rh K H μ h) (ra : RU K H μ a x) (p : Post K W σ H μ (RU K) (slU m a lo hi h) Q) : rSlX K x lo hi H Q := by
  unfold slU at p
  split at p
  · rename_i xs
    obtain ⟨ad, vs, rfl, h1, q⟩ := ra.tup_inv
    refine .inr (.inl ⟨ad, vs, rfl, h1.sq, fun hw => ?_, fun hw => ?_⟩)
    · have e : cut xs lo hi = xs := by
        unfold cut
        rw [q.length, hw.1, hw.2, List.drop_zero, Nat.sub_zero, ← q.length, List.take_length]
      rw [e] at p
      exact p.ret rh ra
    · exact tup_of rh (cut_rel q lo hi) p
  · rename_i s
    split at p
    · rename_i hs
      obtain rfl := ra.str_inv
      exact .inr (.inr ⟨s, rfl, by rw [line_eq]; omega, p.ret rh (.d (.str _ hs.2))⟩)
    · exact p.elim
  · obtain ⟨xs, e, p⟩ := Post.opt p
    obtain ⟨ad, vs, rfl, h1, q⟩ := lstLike_of rh ra e
    exact .inl ⟨ad, vs, rfl, h1, mkL_of rh (cut_rel q lo hi) p⟩
def evSl (m : Bool) (f : En → List O → R U) (l u : En → List O → R (Option Int)) : En → List O → R U := fun σ h => (f σ h).bind fun a h1 => (l σ h1).bind fun lo h2 => (u σ h2).bind fun hi h3 => slU m a lo hi h3
theorem den_sl {m : Bool} {e : Expr} {lo hi : Option Expr} {p2 pos : Pos} {f : En → List O → R U} {l u : En → List O → R (Option Int)} (hf : Den X W e f) (hl : DenO X W lo l) (hu : DenO X W hi u) : Den X W (.Subscript e (.Slice lo hi none p2) pos) (evSl m f l u) := by
  obtain ⟨ta, pa, ca⟩ := hf
  obtain ⟨tl, pl, cl⟩ := hl
  obtain ⟨tu, pu, cu⟩ := hu
  refine ⟨_, pe_slice sl_X pa pl pu, fun σ' h σ H μ Q re rh p => ?_⟩
  refine ca σ' h σ H μ _ re rh (Post.bind p fun a h1 H1 μ1 x e1 rh1 ra p1 => ?_)
  refine cl σ' h1 σ H1 μ1 _ (re.ext e1) rh1 (Post.bind p1 fun lo h2 H2 μ2 lo' e2 rh2 rl p2 => ?_)
  refine cu σ' h2 σ H2 μ2 _ (re.ext (e1.trans e2)) rh2 (Post.bind p2 fun hi h3 H3 μ3 hi' e3 rh3 ru p3 => ?_)
  cases rl
  cases ru
  exact slU_of rh3 (ra.ext (e2.trans e3)) p3
/-! ### methods of built-in types -/
def isCall : Expr → Bool
  | .Call _ _ _ _ => true
  | _ => false
theorem base_of {o : Expr} {name : Str} {env : Env} {w : Sem Value} (h : isCall o = false) : attributeBase o name env w = w := by
  cases o <;> first | rfl | cases h
/-- the receiver's type is right -/
def TyD (X : Cx) (T : String) (c : U → List O → Bool) : Prop := ∀ u h H μ x, Rh X.K H μ h → RU X.K H μ u x → c u h = true → tyV X.K T x H
def MeD (X : Cx) (W : WX) (r : V → List V → Hp → VK → Prop) (g : U → List U → List O → R U) : Prop :=
  ∀ u us h σ H μ x xs Q, Rh X.K H μ h → RU X.K H μ u x → RUs X.K H μ us xs → Post X.K W σ H μ (RU X.K) (g u us h) Q → r x xs H Q
def evMe (c : U → List O → Bool) (fo : En → List O → R U) (fa : En → List O → R (List U)) (g : U → List U → List O → R U) : En → List O → R U := fun σ h => (fo σ h).bind fun u h1 => if c u h1 = true then (fa σ h1).bind fun us h2 => g u us h2 else .bad
theorem den_me {o e : Expr} {es : List Expr} {name : Str} {apos cpos : Pos} {T id : String} {r : V → List V → Hp → VK → Prop} {c : U → List O → Bool} {g : U → List U → List O → R U} {fo : En → List O → R U} {fa : En → List O → R (List U)}
    (pa : PlainAttrs T) (slot : Slot T name id) (hty : typeOf (.builtin id) = pure (.type "method_descriptor")) (hm : MtR X id r) (hc : TyD X T c) (hg : MeD X W r g) (ho : Den X W o fo) (ha : DenA X W (e :: es) fa)
    (hb : isCall o = false) (hns : noStar (e :: es) = true) (hlen : (e :: es).length < 30) (hline : (apos.endLine == cpos.line) = true) : Den X W (.Call (.Attribute o name apos) (e :: es) [] cpos) (evMe c fo fa g) := by
  obtain ⟨to, po, co⟩ := ho
  obtain ⟨ta, pA, cA⟩ := ha
  obtain ⟨n1, n2⟩ := noStar_cons hns
  refine ⟨_, pe_bm pa slot hty hm po pA (base_of hb) (by rw [noStar_few hns]; simpa [keywordEach, backToKw] using hlen) hline (star1 n1) (noStar_any n2), fun σ' h σ H μ Q re rh p => ?_⟩
  refine co σ' h σ H μ _ re rh (Post.bind p fun u h1 H1 μ1 x e1 rh1 ru p1 => ?_)
  by_cases hcu : c u h1 = true
  · rw [if_pos hcu] at p1
    refine ⟨hc u h1 H1 μ1 x rh1 ru hcu, ?_⟩
    exact cA σ' h1 σ H1 μ1 _ (re.ext e1) rh1 (Post.bind p1 fun us h2 H2 μ2 xs e2 rh2 rus p2 => hg u us h2 σ H2 μ2 x xs Q rh2 (ru.ext e2) rus p2)
  · rw [if_neg hcu] at p1
    exact p1.elim
theorem den_me0 {o : Expr} {name : Str} {apos cpos : Pos} {T id : String} {r : V → List V → Hp → VK → Prop} {c : U → List O → Bool} {g : U → List U → List O → R U} {fo : En → List O → R U}
    (pa : PlainAttrs T) (slot : Slot T name id) (hty : typeOf (.builtin id) = pure (.type "method_descriptor")) (hm : MtR X id r) (hc : TyD X T c) (hg : MeD X W r g) (ho : Den X W o fo)
    (hb : isCall o = false) (hline : (apos.endLine == cpos.line) = true) : Den X W (.Call (.Attribute o name apos) [] [] cpos) (evMe c fo evNil g) := by
  obtain ⟨to, po, co⟩ := ho
  refine ⟨_, pe_bm0 pa slot hty hm po (base_of hb) hline, fun σ' h σ H μ Q re rh p => ?_⟩
  refine co σ' h σ H μ _ re rh (Post.bind p fun u h1 H1 μ1 x e1 rh1 ru p1 => ?_)
  by_cases hcu : c u h1 = true
  · rw [if_pos hcu] at p1
    exact ⟨hc u h1 H1 μ1 x rh1 ru hcu, hg u [] h1 σ H1 μ1 x [] Q rh1 ru .nil p1⟩
  · rw [if_neg hcu] at p1
    exact p1.elim
/-! ### lists -/
def isLst (u : U) (h : List O) : Bool := match u with
  | .d (.list _) => true
  | .lab n => (match h[n]? with
    | some (.lst _) => true
    | some (.mix _) => true
    | _ => false)
  | _ => false
theorem ty_list : TyD X "list" isLst := by
  intro u h H μ x rh ru c
  cases ru with
  | d r =>
    cases r with
    | lst h1 _ _ => exact .inl ⟨rfl, _, SqL.of h1⟩
    | _ => cases c
  | @lab n a r =>
    unfold isLst at c
    cases e : h[n]? with
    | none => simp only [e] at c; cases c
    | some o =>
      simp only [e] at c
      obtain ⟨ho, h1, h2⟩ := rh.obj n o a e r
      cases h2 with
      | lst q => exact .inl ⟨rfl, _, SqL.of h1⟩
      | mix q _ => exact .inl ⟨rfl, _, SqL.of h1⟩
      | dct q => cases c
      | hold q => cases c
  | _ => cases c
def appG (u : U) (us : List U) (h : List O) : R U := match u, us with
  | .lab n, [w] => (match h[n]? with
    | some (.lst xs) => (match w with
      | .d d => if xs.length < 10000000 then .ok (.d .none) (h.set n (.lst (xs ++ [d]))) else .bad
      | _ => .bad)
    | some (.mix xs) => if xs.length < 10000000 ∧ w.below n then .ok (.d .none) (h.set n (.mix (xs ++ [w]))) else .bad
    | _ => .bad)
  | _, _ => .bad
theorem RUs.append {K : PySem.W.Frag} {H : Hp} {μ : List Addr} {xs ys : List U} {vs ws : List V} (h : RUs K H μ xs vs) (g : RUs K H μ ys ws) : RUs K H μ (xs ++ ys) (vs ++ ws) := by
  induction h with
  | nil => exact g
  | cons hx _ ih => exact .cons hx ih
theorem me_append : MeD X W rAppend appG := by
  intro u us h σ H μ x xs Q rh ru rus p
  unfold appG at p
  split at p
  · rename_i n w
    cases ru with
    | @lab _ a ra =>
      cases rus with
      | cons rw rn =>
        cases rn
        cases e : h[n]? with
        | none => simp only [e] at p; exact p.elim
        | some o =>
          simp only [e] at p
          obtain ⟨ho, h1, h2⟩ := rh.obj n o a e ra
          cases h2 with
          | @lst ys vs q =>
            cases rw with
            | d rd =>
              have p' : Post X.K W σ H μ (RU X.K) (if ys.length < 10000000 then .ok (.d .none) (h.set n (.lst (ys ++ [_]))) else .bad) Q := p
              by_cases hl : ys.length < 10000000
              · rw [if_pos hl] at p'
                exact ⟨a, vs, _, rfl, rfl, h1, by rw [← q.length, line_eq]; omega, p' _ _ _ (Ext.chg ra h1) (rh.chg ra (.lst (q.append (.cons rd .nil)))) (.d .non)⟩
              · rw [if_neg hl] at p'; exact p'.elim
            | _ => exact p.elim
          | @mix ys vs q b =>
            have p' : Post X.K W σ H μ (RU X.K) (if ys.length < 10000000 ∧ w.below n then .ok (.d .none) (h.set n (.mix (ys ++ [w]))) else .bad) Q := p
            by_cases hl : ys.length < 10000000 ∧ w.below n
            · rw [if_pos hl] at p'
              refine ⟨a, vs, _, rfl, rfl, h1, by rw [← q.length, line_eq]; omega, p' _ _ _ (Ext.chg ra h1) (rh.chg ra (.mix (q.append (.cons rw .nil)) fun z hz => ?_)) (.d .non)⟩
              rcases List.mem_append.mp hz with hz | hz
              · exact b z hz
              · rw [List.mem_singleton] at hz; subst hz; exact hl.2
            · rw [if_neg hl] at p'; exact p'.elim
          | dct q => exact p.elim
          | hold q => exact p.elim
  · exact p.elim
/-- pop() and pop(0) -/
def popG (u : U) (us : List U) (h : List O) : R U := match u with
  | .lab n => (match us with
    | [] => (match h[n]? with
      | some (.lst xs) => (opt (xs[xs.length - 1]?) h).bind fun d h => .ok (.d d) (h.set n (.lst xs.dropLast))
      | _ => .bad)
    | [.d (.int i)] => (match h[n]? with
      | some (.lst xs) => if 0 ≤ i ∧ i < 10000000 then (opt (xs[i.toNat]?) h).bind fun d h => .ok (.d d) (h.set n (.lst (xs.eraseIdx i.toNat))) else .bad
      | _ => .bad)
    | _ => .bad)
  | _ => .bad
def rPopA : V → List V → Hp → VK → Prop := fun x vs H Q => rPop x vs H Q ∨ rPopAt x vs H Q
theorem mt_popA : MtR X "list.pop" rPopA := MtR.or mt_pop mt_popAt
theorem me_pop : MeD X W rPopA popG := by
  intro u us h σ H μ x xs Q rh ru rus p
  unfold popG at p
  split at p
  · rename_i n
    cases ru with
    | @lab _ a ra =>
      split at p
      · cases rus
        split at p
        · rename_i ys e
          obtain ⟨d, ed, p⟩ := Post.opt p
          obtain ⟨ho, h1, h2⟩ := rh.obj n _ a e ra
          cases h2 with
          | @lst _ vs q =>
            obtain ⟨v, hv, rv⟩ := q.get ed
            rw [q.length] at hv
            exact .inl ⟨a, vs, v, rfl, rfl, h1, hv, p _ _ _ (Ext.chg ra h1) (rh.chg ra (.lst q.dropLast)) (.d (rv.ext (Ext.chg ra h1)))⟩
        · exact p.elim
      · rename_i i
        cases rus with
        | cons r1 r2 =>
          cases r2
          obtain rfl := r1.int_inv
          split at p
          · rename_i ys e
            split at p
            · rename_i hi
              obtain ⟨d, ed, p⟩ := Post.opt p
              obtain ⟨ho, h1, h2⟩ := rh.obj n _ a e ra
              cases h2 with
              | @lst _ vs q =>
                obtain ⟨v, hv, rv⟩ := q.get ed
                have hl := (List.getElem?_eq_some_iff.mp hv).1
                exact .inr ⟨a, vs, i, i.toNat, v, rfl, rfl, h1, by omega, by omega, seqIndex_of hi.1 (by omega), hv, p _ _ _ (Ext.chg ra h1) (rh.chg ra (.lst (q.eraseIdx _))) (.d (rv.ext (Ext.chg ra h1)))⟩
            · exact p.elim
          · exact p.elim
      · exact p.elim
  · exact p.elim
/-- extend by a list or a tuple -/
theorem list_extend_tupG (l : Addr) (items : Array Value) (n : Nat) (b : Addr) (items2 : Array Value) (n2 : Nat) (dd : Option Addr) (sl : Array (Option Value)) (hs0 : ¬(!items.isEmpty && Builtin.List.listTooLong (items.size + items2.size)) = true) (hs1 : items.size ≤ sizeLine) (hs2 : items.size + items2.size ≤ sizeLine + 1) :
    Meets (Builtin.«list.extend» ⟨[.ref l, .ref b], []⟩) (fun _ R s => s.heap.get? l = some { cls := .type "list", dict := none, data := .seq items n, slots := #[] } ∧ s.heap.get? b = some { cls := .type "tuple", dict := dd, data := .seq items2 n2, slots := sl } ∧ R (.ok (.ret Value.none)) { s with heap := s.heap.update l (Obj.mapSeq fun x => x ++ items2), toks := s.toks }) :=
  .of_wp fun prog w A R s h => by
    obtain ⟨hp, g, d, tk, os⟩ := s; obtain ⟨hl, hb, h⟩ := h; have f1 := AutoSeq1.idx_int; have f2 := AutoSeq1.sub_tuple_tuple; have f3 := AutoSeq1.sub_list_list; have f4 := AutoSeq1.sub_tuple_list; have f5 := AutoSeq1.sub_list_tuple;
    have hz' : (items ++ items2).size ≤ sizeLine + 1 := by rw [Array.size_append]; exact hs2
    wp_walk using (wpAny_updateSeq hl rfl (hz := hs1) (_hz' := hz')), AutoSeq1.wpAny_loadPart' hl, AutoSeq1.wpAny_loadPart' hb; exact ⟨_, rfl, h⟩
def rExtT (K : PySem.W.Frag) : V → List V → Hp → VK → Prop := fun x vs H Q => ∃ l b xs zs, x = .ref l ∧ vs = [.ref b] ∧ H l = some (.lst xs) ∧ SqT K H b zs ∧ xs.length + zs.length ≤ sizeLine ∧ Q .non (upd H l (.lst (xs ++ zs)))
theorem mt_extT : MtR X "list.extend" (rExtT X.K) := by
  intro pins s σ H x vs v us Q I rx rv h
  obtain ⟨l, b, xs, zs, rfl, rfl, hH, hB, hz, q⟩ := h
  cases rx
  obtain ⟨u, rfl, ru⟩ := rv.one
  cases ru
  obtain ⟨z, its, n, r, hl, e⟩ := I.lstM hH
  obtain ⟨its2, r2, ⟨⟨cls, dd, data, sl⟩, e2, hc, n2, hd⟩, hz2⟩ := I.tuple hB
  simp only at hc hd
  subst hc hd
  have hl2 := r2.length
  have hsz : its.toArray.size + its2.toArray.size ≤ sizeLine := by rw [List.size_toArray, List.size_toArray]; omega
  have hlong : ¬ (!its.toArray.isEmpty && Builtin.List.listTooLong (its.toArray.size + its2.toArray.size)) = true := by
    rw [notLongL hsz, Bool.and_false]
    exact Bool.false_ne_true
  refine call_meets F.slot_list_extend ⟨_, e, rfl⟩ F.entry_list_extend (F.args_list_extend_2 _ _)
    (list_extend_tupG l its.toArray n b its2.toArray n2 dd sl hlong (by rw [List.size_toArray]; omega) (by omega)) ⟨e, e2, ?_⟩
  refine ⟨.non, _, I.lset (its' := its ++ its2) hH e (by simp) (r.append r2) ?_, rfl, q⟩
  rw [List.length_append]
  omega
def rExtA (K : PySem.W.Frag) : V → List V → Hp → VK → Prop := fun x vs H Q => rExtend x vs H Q ∨ rExtT K x vs H Q
theorem mt_extA : MtR X "list.extend" (rExtA X.K) := MtR.or mt_extend mt_extT
def extG (u : U) (us : List U) (h : List O) : R U := match u, us with
  | .lab n, [w] => (match h[n]? with
    | some (.lst xs) => (match w with
      | .d (.tuple ys) => if xs.length + ys.length < 10000000 then .ok (.d .none) (h.set n (.lst (xs ++ ys))) else .bad
      | w => (opt (listOf w h) h).bind fun ys h => if xs.length + ys.length < 10000000 then .ok (.d .none) (h.set n (.lst (xs ++ ys))) else .bad)
    | _ => .bad)
  | _, _ => .bad
theorem me_ext : MeD X W (rExtA X.K) extG := by
  intro u us h σ H μ x xs Q rh ru rus p
  unfold extG at p
  split at p
  · rename_i n w
    cases ru with
    | @lab _ a ra =>
      cases rus with
      | cons rw rn =>
        cases rn
        split at p
        · rename_i ys e
          obtain ⟨ho, h1, h2⟩ := rh.obj n _ a e ra
          cases h2 with
          | @lst _ vs q =>
            split at p
            · rename_i zs
              split at p
              · rename_i hl
                obtain ⟨ad, ws, rfl, h3, q3⟩ := rw.tup_inv
                exact .inr ⟨a, ad, vs, ws, rfl, rfl, h1, h3.sq, by rw [← q.length, ← q3.length, line_eq]; omega, p _ _ _ (Ext.chg ra h1) (rh.chg ra (.lst (q.append q3))) (.d .non)⟩
              · exact p.elim
            · obtain ⟨zs, ez, p⟩ := Post.opt p
              split at p
              · rename_i hl
                obtain ⟨ad, ws, rfl, h3, q3⟩ := listOf_of rh rw ez
                exact .inl ⟨a, ad, vs, ws, rfl, rfl, h1, h3, by rw [← q.length, ← q3.length, line_eq]; omega, p _ _ _ (Ext.chg ra h1) (rh.chg ra (.lst (q.append q3))) (.d .non)⟩
              · exact p.elim
        · exact p.elim
  · exact p.elim
/-! ### bit_length -/
theorem den_bits {o : Expr} {apos pos : Pos} {fo : En → List O → R U} (ho : Den X W o fo) (hb : isCall o = false) (hline : (apos.endLine == pos.line) = true) : Den X W (.Call (.Attribute o "bit_length" apos) [] [] pos) (ev1 fo fun u h => (opt (asI u) h).bind fun i h => .ok (.d (.int (Builtin.Int.intBits i : Nat))) h) := by
  obtain ⟨to, po, co⟩ := ho
  refine ⟨_, pe_bits po (base_of hb) hline, fun σ' h σ H μ Q re rh p => ?_⟩
  refine co σ' h σ H μ _ re rh (Post.bind p fun u h1 H1 μ1 x e1 rh1 ru p1 => ?_)
  obtain ⟨i, ei, p2⟩ := Post.opt p1
  exact ⟨i, asI_of ru ei, p2.ret rh1 (.d (.int _))⟩
/-! ### max with default= -/
def rMaxDf (K : PySem.W.Frag) : List V → List V → Hp → VK → Prop := fun xs zs H Q => ∃ (a : Addr) (ns : List Int) (d : Int), xs = [V.ref a] ∧ zs = [.int d] ∧ SqL K H a (ns.map V.int) ∧ (ns = [] → Q (.int d) H) ∧ ∀ m r, ns = m :: r → Q (.int (maxL m r)) H
theorem alike_ints (ns : List Int) : PySem.W.AlikeAll (ns.map PyData.int) := by
  refine ⟨fun x hx y hy => ?_, fun x hx => ?_⟩
  · obtain ⟨i, _, rfl⟩ := List.mem_map.mp hx
    obtain ⟨j, _, rfl⟩ := List.mem_map.mp hy
    rfl
  · obtain ⟨i, _, rfl⟩ := List.mem_map.mp hx
    exact fun e => by cases e
theorem maxL_fold : ∀ (r : List Int) (m : Int), r.foldl max m = maxL m r
  | [], m => rfl
  | x :: r, m => by
    rw [List.foldl_cons, maxL_fold r, maxL]
    congr 1
    by_cases h : x > m
    · rw [if_pos h]; omega
    · rw [if_neg h]; omega
theorem vals_ints {h : Heap} : ∀ {ns : List Int} {us : List Value}, Vals (ns.map V.int) us → ReadsAll h us (ns.map PyData.int) []
  | [], _, r => by cases r; exact .nil
  | n :: ns, _, r => by
    cases r with
    | cons h1 h2 =>
      obtain ⟨t, rfl⟩ := h1
      exact .cons (.int n t) (vals_ints h2)
theorem depth_ints : ∀ ns : List Int, PyData.depthAll (ns.map PyData.int) ≤ 1
  | [] => by decide
  | n :: ns => by
    have := depth_ints ns
    show max (PyData.depth (.int n)) (PyData.depthAll (ns.map PyData.int)) ≤ 1
    have e : PyData.depth (.int n) ≤ 1 := by unfold PyData.depth; decide
    omega
theorem cr_maxDf (hc : X.calm = true) (hu : X.A.units + 64 < cLine) : CallRK X (.builtin "max") [Str.ofString "default"] (rMaxDf X.K) := by
  intro pins s σ H xs zs us ws Q I rv rw q
  obtain ⟨a, ns, d, e1, e2, hq, q0, q1⟩ := q
  subst e1 e2
  cases rv with
  | cons ru rn =>
    cases rn
    cases ru
    cases rw with
    | cons rd rn =>
      cases rn
      obtain ⟨t, rfl⟩ := rd
      obtain ⟨its, rv, p, hz⟩ := I.list hq
      have hd := depth_ints ns
      refine PySem.W.max_list_default (I.ok.hd hc) p.isList (xs := ns.map PyData.int) (as := []) (by simpa using vals_ints rv) (alike_ints ns) (by omega) (fun e h' tk hk => ?_) (fun y ys i v h' tk bs e hv hr hk => ?_)
      · have e' : ns = [] := by simpa using e
        exact ⟨.int d, H, I.kept (t' := tk) hk, ⟨_, rfl⟩, q0 e'⟩
      · cases ns with
        | nil => simp at e
        | cons m r =>
          rw [List.map_cons] at e
          cases e
          rw [PySem.W.maxD_ints, maxL_fold] at hr
          obtain ⟨t', rfl, _⟩ := reads_int_inv hr
          exact ⟨.int _, H, I.kept (t' := tk) hk, ⟨_, rfl⟩, q1 m r rfl⟩
def maxDU (u d : U) (h : List O) : R U := (opt ((listOf u h).bind intsOf) h).bind fun bs h => (opt (asI d) h).bind fun k h => match bs with
  | [] => .ok (.d (.int k)) h
  | m :: r => .ok (.d (.int (maxL m r))) h
theorem den_maxD {e d : Expr} {p pos kpos : Pos} {fe fd : En → List O → R U} (hc : X.calm = true) (hu : X.A.units + 64 < cLine) (gl : Gl X "max") (hm : X.mg "max" = none) (he : Den X W e fe) (hd : Den X W d fd) (hs : isStar e = false) :
    Den X W (.Call (.Name "max" p) [e] [⟨some "default", d, kpos⟩] pos) (ev2 fe fd maxDU) := by
  obtain ⟨te, pe, ce⟩ := he
  obtain ⟨td, pd, cd⟩ := hd
  have hns : noStar [e] = true := by unfold noStar; simp [hs]
  refine ⟨_, pe_callBK (cr_maxDf hc hu) gl hm (by rfl) (pa_cons pe pa_nil (star1 hs)) (pk_cons pd pk_nil) (by decide) (by decide) (noStar_back hns) (noStar_any hns) (by rfl) (by rfl) (by rfl), fun σ' h σ H μ Q re rh p => ?_⟩
  refine ce σ' h σ H μ _ re rh (Post.bind p fun u h1 H1 μ1 x e1 rh1 ru p1 => ?_)
  refine cd σ' h1 σ H1 μ1 _ (re.ext e1) rh1 (Post.bind p1 fun w h2 H2 μ2 y e2 rh2 rw p2 => ?_)
  obtain ⟨bs, eb, p3⟩ := Post.opt p2
  obtain ⟨k, ek, p4⟩ := Post.opt p3
  obtain ⟨a, rfl, ha⟩ := ints_list rh2 (ru.ext e2) eb
  have ey := asI_of rw ek
  subst ey
  refine ⟨a, bs, k, rfl, rfl, SqL.of ha, fun e => ?_, fun m r e => ?_⟩
  · subst e
    exact p4.ret rh2 (.d (.int _))
  · subst e
    exact p4.ret rh2 (.d (.int _))
/-! ### dicts: {}, get -/
def evDnew : En → List O → R U := fun _ h => .ok (.lab h.length) (h ++ [.dct []])
theorem den_dnew {pos : Pos} : Den X W (.Dict [] [] pos) evDnew := ⟨_, pe_dnewK, fun σ' h σ H μ Q re rh p l hl =>
  p _ _ _ (Ext.lab hl) (rh.lab hl (.dct .nil)) (.lab (by rw [rh.len]; simp))⟩
theorem m1_of {o e : Expr} {m : Str} {apos cpos : Pos} (hb : isCall o = false) (hs : noStar [e] = true) (hl : (apos.endLine == cpos.line) = true) : M1 X o m apos e cpos :=
  ⟨base_of hb, by rw [noStar_few hs]; rfl, hl, by rw [star1 (noStar_cons hs).1]; rfl⟩
theorem m2_of {o e f : Expr} {m : Str} {apos cpos : Pos} (hb : isCall o = false) (hs : noStar [e, f] = true) (hl : (apos.endLine == cpos.line) = true) : M2 X o m apos e f cpos :=
  ⟨base_of hb, by rw [noStar_few hs]; rfl, hl, by rw [star1 (noStar_cons hs).1, star1 (noStar_cons (noStar_cons hs).2).1]; rfl⟩
def dgetU (u k z : U) (h : List O) : R U := match dctOf u h with
  | some kvs => (match k with
    | .d x => (match keyOf x with
      | some k => .ok (match getK kvs k with
        | some d => .d d
        | none => z) h
      | none => .bad)
    | _ => .bad)
  | none => .bad
def evGet1 (fo fe : En → List O → R U) : En → List O → R U := fun σ h => (fo σ h).bind fun u h1 => if (dctOf u h1).isSome = true then (fe σ h1).bind fun k h2 => dgetU u k (.d .none) h2 else .bad
def evGet2 (fo fe ff : En → List O → R U) : En → List O → R U := fun σ h => (fo σ h).bind fun u h1 => if (dctOf u h1).isSome = true then (fe σ h1).bind fun k h2 => (ff σ h2).bind fun z h3 => dgetU u k z h3 else .bad
theorem dget_of {K : PySem.W.Frag} {σ : L2.St} {H : Hp} {μ : List Addr} {u k z : U} {h : List O} {x y w : V} {Q : VK} (rh : Rh K H μ h) (ru : RU K H μ u x) (rk : RU K H μ k y) (rz : RU K H μ z w) (p : Post K W σ H μ (RU K) (dgetU u k z h) Q) :
    ∃ a o, x = .ref a ∧ DGet H a y o ∧ Q (o.getD w) H := by
  unfold dgetU at p
  split at p
  · rename_i kvs e
    obtain ⟨n, a, vs, rfl, hn, rfl, h1, q⟩ := dctOf_of rh ru e
    split at p
    · rename_i xd
      split at p
      · rename_i kk ek
        cases rk with
        | d rk =>
          have := keyOf_of rk ek
          subst this
          obtain ⟨g1, g2⟩ := getK_rel q kk
          refine ⟨a, valV vs kk, rfl, dget_k h1, ?_⟩
          cases z2 : getK kvs kk with
          | some d =>
            rw [z2] at p
            obtain ⟨v, hv, rv⟩ := g1 d z2
            rw [hv]
            exact p.ret rh (.d rv)
          | none =>
            rw [z2] at p
            rw [g2 z2]
            exact p.ret rh rz
      · exact p.elim
    · exact p.elim
  · exact p.elim
theorem den_get1 {o e : Expr} {apos cpos : Pos} {fo fe : En → List O → R U} (hu : X.A.units + 64 < cLine) (ho : Den X W o fo) (he : Den X W e fe) (hb : isCall o = false) (hs : noStar [e] = true) (hl : (apos.endLine == cpos.line) = true) : Den X W (.Call (.Attribute o "get" apos) [e] [] cpos) (evGet1 fo fe) := by
  obtain ⟨to, po, co⟩ := ho
  obtain ⟨te, pe, ce⟩ := he
  refine ⟨_, pe_dget1 (by omega) po pe (m1_of hb hs hl), fun σ' h σ H μ Q re rh p => ?_⟩
  refine co σ' h σ H μ _ re rh (Post.bind p fun u h1 H1 μ1 x e1 rh1 ru p1 => ?_)
  by_cases hd : (dctOf u h1).isSome = true
  · rw [if_pos hd] at p1
    obtain ⟨kvs, ek⟩ := Option.isSome_iff_exists.mp hd
    obtain ⟨n, a, vs, rfl, hn, rfl, g1, q⟩ := dctOf_of rh1 ru ek
    refine ⟨a, rfl, .inl ⟨_, g1⟩, ce σ' h1 σ H1 μ1 _ (re.ext e1) rh1 (Post.bind p1 fun k h2 H2 μ2 y e2 rh2 rk p2 => ?_)⟩
    obtain ⟨a', ov, e3, g, q3⟩ := dget_of rh2 (ru.ext e2) rk (.d .non) p2
    cases e3
    exact ⟨ov, g, q3⟩
  · rw [if_neg hd] at p1; exact p1.elim
theorem den_get2 {o e f : Expr} {apos cpos : Pos} {fo fe ff : En → List O → R U} (hu : X.A.units + 64 < cLine) (ho : Den X W o fo) (he : Den X W e fe) (hf : Den X W f ff) (hb : isCall o = false) (hs : noStar [e, f] = true) (hl : (apos.endLine == cpos.line) = true) : Den X W (.Call (.Attribute o "get" apos) [e, f] [] cpos) (evGet2 fo fe ff) := by
  obtain ⟨to, po, co⟩ := ho
  obtain ⟨te, pe, ce⟩ := he
  obtain ⟨tf, pf, cf⟩ := hf
  refine ⟨_, pe_dget2 (by omega) po pe pf (m2_of hb hs hl), fun σ' h σ H μ Q re rh p => ?_⟩
  refine co σ' h σ H μ _ re rh (Post.bind p fun u h1 H1 μ1 x e1 rh1 ru p1 => ?_)
  by_cases hd : (dctOf u h1).isSome = true
  · rw [if_pos hd] at p1
    obtain ⟨kvs, ek⟩ := Option.isSome_iff_exists.mp hd
    obtain ⟨n, a, vs, rfl, hn, rfl, g1, q⟩ := dctOf_of rh1 ru ek
    refine ⟨a, rfl, .inl ⟨_, g1⟩, ce σ' h1 σ H1 μ1 _ (re.ext e1) rh1 (Post.bind p1 fun k h2 H2 μ2 y e2 rh2 rk p2 => ?_)⟩
    refine cf σ' h2 σ H2 μ2 _ (re.ext (e1.trans e2)) rh2 (Post.bind p2 fun z h3 H3 μ3 w e3 rh3 rz p3 => ?_)
    obtain ⟨a', ov, e4, g, q3⟩ := dget_of rh3 (ru.ext (e2.trans e3)) (rk.ext e3) rz p3
    cases e4
    exact ⟨ov, g, q3⟩
  · rw [if_neg hd] at p1; exact p1.elim
end
end Py

/-! what loops walk; targets; comprehensions -/
namespace PySem
open Sem (wp)
set_option maxHeartbeats 1000000 in
theorem meets_enumerate_newTup (l : Addr) (items : Array Value) (n : Nat) (dct : Option Addr) (sl : Array (Option Value)) :
    Meets (Builtin.«enumerate.__new__» ⟨[.type "enumerate", .ref l], []⟩) (fun _ R s => s.heap.get? l = some ⟨.type "tuple", dct, .seq items n, sl⟩ ∧
      R (.ok (.ret (.ref (s.heap.push { cls := .type "tuple_iterator", data := .fields #[.ref l, .int 0 0] }).objs.size)))
        { s with heap := (s.heap.push { cls := .type "tuple_iterator", data := .fields #[.ref l, .int 0 0] }).push { cls := .type "enumerate", data := .fields #[.none, .bool false, .ref s.heap.objs.size, rawInt 0, .none, .none] } }) :=
  .of_wp fun prog w A R s h => by
    obtain ⟨hp, g, d, tk, os⟩ := s; obtain ⟨h1, h⟩ := h
    have hsub := sub_enumerate
    have q1 : ∀ {A' : Around} {E : Value → Shared → Prop} {Q : Value → Shared → Prop}, Q (.ref hp.objs.size) ⟨hp.push { cls := .type "tuple_iterator", data := .fields #[.ref l, .int 0 0] }, g, d, tk, os⟩ → wpAny (model prog w) A' (pyIter (.ref l)) Q E ⟨hp, g, d, tk, os⟩ :=
      fun q => wpAny_pyIter_tuple (s := ⟨hp, g, d, tk, os⟩) (items := items) ⟨_, h1, rfl, n, rfl⟩ q
    wp_walk using q1
    refine wpAny_stack_any fun st => wpAny_pure ?_
    split
    · rename_i c _ _ _ _ _
      cases (c == Value.type "enumerate")
      · wp_walk using q1
        exact ⟨_, rfl, h⟩
      · wp_walk using q1
        exact ⟨_, rfl, h⟩
    · wp_walk using q1
      exact ⟨_, rfl, h⟩
section
variable {prog : Program} {w : World} {A : Around} {E : Value → Shared → Prop} {s : Shared}
theorem call_enumerate_tup {l : Addr} {items : Array Value} {Q : Value → Shared → Prop} (hL : s.heap.IsTuple l items)
    (h : ∀ h', IsEnum h' (s.heap.objs.size + 1) s.heap.objs.size 0 .none → h'.IsTupleIter s.heap.objs.size l 0 → h'.objs.size = s.heap.objs.size + 2 →
      (∀ b o, s.heap.get? b = some o → h'.get? b = some o) → Q (.ref (s.heap.objs.size + 1)) { s with heap := h' }) :
    wpAny (model prog w) A (call (.type "enumerate") [.ref l]) Q E s := by
  obtain ⟨⟨cl, dc, da, slo⟩, hl, hcl, nn, hda⟩ := hL
  replace hcl : cl = .type "tuple" := hcl
  replace hda : da = .seq items nn := hda
  subst hcl hda
  refine callType_new F.called_enumerate (by decide) (F.typeCall_enumerate_1 _) (F.newCall_enumerate_1 _) (fun ob => F.args_object_init_2 ob _) F.entry_enumerate_new
    (meets_enumerate_newTup l items nn dc slo) ⟨hl, ?_⟩
  have hsize : (s.heap.push { cls := .type "tuple_iterator", data := .fields #[.ref l, .int 0 0] }).objs.size = s.heap.objs.size + 1 := Heap.size_push ..
  show _ ∧ _
  rw [hsize]
  have hen : IsEnum ((s.heap.push { cls := .type "tuple_iterator", data := .fields #[.ref l, .int 0 0] }).push
      { cls := .type "enumerate", data := .fields #[.none, .bool false, .ref s.heap.objs.size, rawInt 0, .none, .none] }) (s.heap.objs.size + 1) s.heap.objs.size 0 .none := by
    have z := Heap.get?_push_size (s.heap.push { cls := .type "tuple_iterator", data := .fields #[.ref l, .int 0 0] })
      (o := { cls := .type "enumerate", data := .fields #[.none, .bool false, .ref s.heap.objs.size, rawInt 0, .none, .none] }) rfl
    rw [hsize] at z; exact z
  refine ⟨⟨_, hen, rfl⟩, h _ hen ⟨_, Heap.get?_push_of_some _ (Heap.get?_push_size _ rfl), rfl, rfl⟩ (by rw [Heap.size_push, hsize]) fun b o z => Heap.get?_push_of_some _ (Heap.get?_push_of_some _ z)⟩
end
end PySem
namespace Py
open PySem PySem.Spec PyProof.Rows L2
/-! ### enumerate of a tuple -/
def IteT (K : PySem.W.Frag) (a : Addr) : It :=
  ⟨fun i H => ∃ (xs : List V) (x : V), SqT K H a xs ∧ xs[i]? = some x, fun i H v H' => ∃ T x, v = .ref T ∧ H T = none ∧ H' = upd H T (.tup [.int (i : Nat), x]) ∧ ∀ xs, SqT K H a xs → xs[i]? = some x, fun i H => ∃ xs : List V, SqT K H a xs ∧ xs.length ≤ i⟩
theorem enum_ne_tup {h : Heap} {e it a : Addr} {c : Int} {old : Value} {items : Array Value} (he : IsEnum h e it c old) (ht : h.IsTuple a items) : e ≠ a := by
  rintro rfl
  obtain ⟨o, ho, hc, _⟩ := ht
  rw [show h.get? e = some _ from he] at ho
  cases ho
  exact absurd (Value.type.inj hc) (by decide)
theorem turn_enumTup {P : Program} {w : World} {K : PySem.W.Frag} {elts : List Expr} {kk : Nat} {tpos : Pos} (a e it : Addr) :
    Turn P w K (.Tuple elts kk tpos) (IteT K a) [e, it] e (fun i h => (∃ old, IsEnum h e it ((i : Nat) : Int) old) ∧ h.IsTupleIter it a i ∧ e ≠ it) where
  mem := by simp
  obj := fun i h st b hb => by
    obtain ⟨⟨old, he⟩, ⟨o, ho, hc, hd⟩, _⟩ := st
    have alt : b = e ∨ b = it := by simpa using hb
    rcases alt with z | z
    · rw [z]; exact ⟨_, he, fun v q => nomatch q⟩
    · rw [z]; exact ⟨o, ho, fun v q => by rw [hd] at q; cases q⟩
  keep := fun i h h' st k => let ⟨⟨old, he⟩, hi, hne⟩ := st; ⟨⟨old, k e (by simp) _ he⟩, hi.at fun o q => k it (by simp) o q, hne⟩
  item := by
    intro X hP hw hK hc i pins s σ H E I hf st hg
    subst hP hw hK
    obtain ⟨⟨old, he⟩, hit, hne⟩ := st
    obtain ⟨xs, x, hq, hx⟩ := hg
    obtain ⟨its, rv, p, hz⟩ := I.tuple hq
    have pt : s.heap.IsTuple a its.toArray := p
    obtain ⟨u, hu, ru⟩ := rv.get hx
    have hel : e < s.heap.objs.size := Heap.lt_size he
    have hil : it < s.heap.objs.size := by obtain ⟨_, q, _⟩ := hit; exact Heap.lt_size q
    have hae : e ≠ a := enum_ne_tup he pt
    have hia : a ≠ it := by
      rintro rfl
      obtain ⟨o1, g1, c1, _⟩ := hit
      obtain ⟨o2, g2, c2, _⟩ := id pt
      rw [g1] at g2
      cases g2
      rw [show o1.cls = _ from c1] at c2
      exact absurd (Value.type.inj c2) (by decide)
    refine wpAny_pyNext_enum_itemD (Draws.tuple (A := X.A.in1) (by show X.A.handled = none; exact I.ok.hd hc) it a hia its.toArray) he ⟨hit, pt⟩ (by
      have := (List.getElem?_eq_some_iff.mp hu).1
      simpa using this) hne (by simp [hne, hae]) fun y h' tk hy ho hst' hT hsz hk => ?_
    have hyu : y = u := by
      have : its.toArray[i]? = some y := hy
      rw [List.getElem?_toArray, hu] at this
      cases this; rfl
    subst hyu
    refine ⟨_, rfl, wpAny_letOwnedTupleGo_enum (s := { s with heap := h', toks := tk + 1 }) ho fun h'' he' sb => ?_⟩
    have hT2 : h''.get? s.heap.objs.size = some { cls := .type "tuple", data := .seq #[.int i tk, y] } := (sb.2 _ (Nat.ne_of_gt hel)).trans hT
    have new : ObjOk X.prog X.w (upd H s.heap.objs.size (.tup [.int (i : Nat), x])) h'' s.heap.objs.size (.tup [.int (i : Nat), x]) :=
      ⟨by show 2 ≤ sizeLine; decide, [.int i tk, y], .cons ⟨_, rfl⟩ (.cons ru .nil), ⟨_, hT2, rfl, _, rfl⟩⟩
    have I1 : Inv X pins σ (upd H s.heap.objs.size (.tup [.int (i : Nat), x])) { s with heap := h'', toks := tk + 1 } :=
      I.turnedNew (ch := [e, it]) (fun b ob hb q => (sb.2 b (fun z => hb (by simp [z]))).trans (hk b ob (fun z => hb (by simp [z])) (fun z => hb (by simp [z])) q)) hf (Nat.le_refl _) new
    refine ⟨.ref s.heap.objs.size, _, I1, rfl, ⟨_, x, rfl, I.hok.fresh (Nat.le_refl _), rfl, fun ys hy => by rw [I.tuple_inj hy hq]; exact hx⟩, ⟨⟨y, ?_⟩, hst'.1.at fun o q => (sb.2 it (Ne.symm hne)).trans q, hne⟩, fun b hb => ?_⟩
    · have e1 : ((i + 1 : Nat) : Int) = (i : Int) + 1 := by omega
      rw [e1]; exact he'
    · have hb' : b < s.heap.objs.size := by
        have alt : b = e ∨ b = it := by simpa using hb
        rcases alt with z | z
        · rw [z]; exact hel
        · rw [z]; exact hil
      rw [upd_ne (Nat.ne_of_lt hb')]
      exact (hf b hb).1
  done := by
    intro X hP hw hK hc i pins s σ H E I hf st hg
    subst hP hw hK
    obtain ⟨⟨old, he⟩, hit, hne⟩ := st
    obtain ⟨xs, hq, hx⟩ := hg
    obtain ⟨its, rv, p, hz⟩ := I.tuple hq
    have pt : s.heap.IsTuple a its.toArray := p
    obtain ⟨f0, f1, f2, f3, f4, f5⟩ := hf it (by simp)
    have hl := rv.length
    have hT : s.TypeIs (.ref e) "enumerate" := ⟨_, he, rfl⟩
    unfold pyNext
    refine wpAny_bind (wpAny_attempt (wpAny_callSpecial?_slot (name := Str.ofString "__next__") hT F.slot_enumerate_next
      (wpAny_call_entry F.slot_enumerate_next hT F.entry_enumerate_next ?_ (F.args_enumerate_next_1 _))))
    show wpAny _ _ (field (.ref e) 2 >>= _) _ _ _
    refine wpAny_bind (wpAny_field he rfl (x := .ref it) rfl ?_)
    refine wpAny_bind (wpAny_nextOf_tuple_end (by show X.A.handled = none; exact I.ok.hd hc) hit pt (by simp; omega) fun h' y eb hy => ?_)
    obtain ⟨o, ho, hcl⟩ := hy
    refine wpAny_bind (wpAny_isInstance (T := "StopIteration") (b := true) ⟨o, ho, hcl⟩ isSubtype_stop ?_)
    exact wpAny_pure ⟨rfl, I.turned (t' := s.toks) (fun b o hb q => eb b o hb q) f0 f1 f3 f4 f5⟩
  self := fun A i s Q E st h => let ⟨⟨_, he⟩, _⟩ := st; wpAny_pyIter_enum he h
def iEnumA (K : PySem.W.Frag) (ta : TA) : TI := fun σ H R => ta σ H fun vs H1 => ∃ a xs, vs = [.ref a] ∧ ((SqL K H1 a xs ∧ R (Ite K a) H1) ∨ (SqT K H1 a xs ∧ R (IteT K a) H1))
theorem pi_enumA {X : Cx} {e : Expr} {ta : TA} {p pos tpos : Pos} {elts : List Expr} {kk : Nat} (hg : Gl X "enumerate") (hm : X.mg "enumerate" = none) (ha : PA X [e] ta) (hs : starEach [e] X.env = [(false, eval e X.env)]) :
    PI X (.Tuple elts kk tpos) (.Call (.Name "enumerate" p) [e] [] pos) (iEnumA X.K ta) := by
  refine ⟨fun pins s σ H R I h => ?_⟩
  refine Call_ (ld_blt I hg hm boot_enumerate (PyProof.Rows.callWith_type1 (thn (ha.run pos pins s σ H _ I h) fun us s1 ⟨vs, H1, I1, r1, q1⟩ => ?_) hs rfl))
  obtain ⟨a, xs, ex, q1⟩ := q1
  subst ex
  cases r1 with
  | cons r rr =>
    cases rr
    cases r
    have fresh2 : ∀ b ∈ [s1.heap.objs.size + 1, s1.heap.objs.size], FpOk X pins H1 b := fun b hb => by
      have alt : b = s1.heap.objs.size + 1 ∨ b = s1.heap.objs.size := by simpa using hb
      have hle : s1.heap.objs.size ≤ b := by
        rcases alt with z | z
        · rw [z]; exact Nat.le_add_right _ _
        · rw [z]; exact Nat.le_refl _
      exact I1.fpOk hle (I1.hok.fresh hle)
    rcases q1 with ⟨hq, q⟩ | ⟨hq, q⟩
    · obtain ⟨its, rv, p', hz⟩ := I1.list hq
      refine call_enumerate_list p'.isList fun h' he hit hsz hk => wpAny_pyIter_enum he ?_
      exact ⟨s1.heap.objs.size + 1, [s1.heap.objs.size + 1, s1.heap.objs.size], _, _, H1, rfl, I1.kept (t' := s1.toks) hk, turn_enum a (s1.heap.objs.size + 1) s1.heap.objs.size, ⟨⟨.none, he⟩, hit, Nat.succ_ne_self _⟩, fresh2, q⟩
    · obtain ⟨its, rv, p', hz⟩ := I1.tuple hq
      refine call_enumerate_tup (show s1.heap.IsTuple a its.toArray from p') fun h' he hit hsz hk => wpAny_pyIter_enum he ?_
      exact ⟨s1.heap.objs.size + 1, [s1.heap.objs.size + 1, s1.heap.objs.size], _, _, H1, rfl, I1.kept (t' := s1.toks) hk, turn_enumTup a (s1.heap.objs.size + 1) s1.heap.objs.size, ⟨⟨.none, he⟩, hit, Nat.succ_ne_self _⟩, fresh2, q⟩
/-- a list or a tuple -/
def iSeq (K : PySem.W.Frag) (tl : TE) : TI := fun σ H R => tl σ H fun x H1 => ∃ a xs, x = .ref a ∧ ((SqL K H1 a xs ∧ R (Itl K a) H1) ∨ (SqT K H1 a xs ∧ R (Itt K a) H1))
theorem pi_seq {X : Cx} {tg l : Expr} {tl : TE} (hl : PE X l tl) : PI X tg l (iSeq X.K tl) := by
  refine ⟨fun pins s σ H R I h => ?_⟩
  refine thn (hl.run pins s σ H _ I h) fun v s1 ⟨x, H1, I1, r1, q1⟩ => ?_
  obtain ⟨a, xs, ex, q1⟩ := q1
  subst ex
  cases r1
  have fresh1 : ∀ b ∈ [s1.heap.objs.size], FpOk X pins H1 b := fun b hb => by
    have z : b = s1.heap.objs.size := by simpa using hb
    rw [z]
    exact I1.fpOk (Nat.le_refl _) (I1.hok.fresh (Nat.le_refl _))
  rcases q1 with ⟨hq, q⟩ | ⟨hq, q⟩
  · obtain ⟨its, rv, p, hz⟩ := I1.list hq
    refine wpAny_pyIter_list p.isList ?_
    exact ⟨s1.heap.objs.size, [s1.heap.objs.size], _, _, H1, rfl, I1.kept (t' := s1.toks) fun b o e => Heap.get?_push_of_some _ e, turn_list a _, ⟨_, Heap.get?_push_size _ rfl, rfl, rfl⟩, fresh1, q⟩
  · obtain ⟨its, rv, p, hz⟩ := I1.tuple hq
    refine wpAny_pyIter_tuple (show s1.heap.IsTuple a its.toArray from p) ?_
    exact ⟨s1.heap.objs.size, [s1.heap.objs.size], _, _, H1, rfl, I1.kept (t' := s1.toks) fun b o e => Heap.get?_push_of_some _ e, turn_tuple a _, ⟨_, Heap.get?_push_size _ rfl, rfl, rfl⟩, fresh1, q⟩
end Py

/-! d.items() under a name: the iterator whose own tuple has gone takes the new one -/
namespace PySem
open PySem.W (KdxIt)
section
variable {prog : Program} {w : World} {A : Around} {E : Value → Shared → Prop} {s : Shared}
theorem at_next {a : Addr} {Q : Option Obj → Shared → Prop} (h : Q (s.heap.get? a) s) : wpAny (model prog w) A (loadIfAlive a) Q E s := fun _ _ _ => h
/-- one turn, its own tuple still there or not: a new tuple comes, and the iterator goes on -/
theorem items_next_any {it d a : Addr} {f : Bool} {i ep : Nat} {es : Array DictEntry} {ok ov : Value} {Q : Option Value → Shared → Prop} (hit : KdxIt s.heap it d i es.size ep ok ov a f) (hai : a ≠ it)
    (hm : s.heap.DictRaw d es ep) (lt : i < es.size)
    (hQ : ∀ h' ok' ov' a' f', KdxIt h' it d (i + 1) es.size ep ok' ov' a' f' → a' ≠ it → h'.get? s.heap.objs.size = some { cls := .type "tuple", data := .seq #[es[i].key, es[i].val] } → h'.objs.size = s.heap.objs.size + 1 →
      (∀ b o, b ≠ it → s.heap.get? b = some o → h'.get? b = some o) → Q (some (.ref s.heap.objs.size)) { s with heap := h' }) : wpAny (model prog w) A (pyNext (.ref it)) Q E s := by
  obtain ⟨hp, g, dr, tk, os⟩ := s
  have hd0 := hm
  obtain ⟨od, hod, hcd, hdd⟩ := hd0
  have T0 : Shared.TypeIs ⟨hp, g, dr, tk, os⟩ (.ref it) "dict_itemiterator" := ⟨_, hit, rfl⟩
  unfold pyNext
  refine wpAny_bind (wpAny_attempt (wpAny_callSpecial?_slot (name := Str.ofString "__next__") T0 F.slot_dict_itemiterator_next (wpAny_call_entry F.slot_dict_itemiterator_next T0 F.entry_dict_itemiterator_next ?_ (F.args_dict_itemiterator_next_1 _))))
  refine wpAny_bind (wpAny_pure (wpAny_bind (wpAny_bind ?_)))
  first | refine wpAny_bind (wpAny_typeNameOfWhole_itemiter T0 (wpAny_pure ?_)) | refine wpAny_bind (wpAny_typeNameOf_itemiter T0 (wpAny_pure ?_))
  refine wpAny_bind (wpAny_fieldsOf hit rfl ?_)
  have own : Builtin.Dict_items.ownsTuple "dict_itemiterator" = true := by decide
  simp only [own, if_true]
  show wpAny _ _ (if (Value.ref d == Value.none) = true then _ else _) _ _ _
  rw [if_neg (show ¬ ((Value.ref d == Value.none) = true) from Bool.false_ne_true)]
  refine wpAny_bind (wpAny_pure (wpAny_bind (wpAny_dictEntries hod hdd ?_)))
  rw [if_neg (by simp)]
  refine wpAny_bind (wpAny_pure (wpAny_bind (wpAny_dictEpoch hod hdd ?_)))
  rw [if_neg (by simp)]
  refine wpAny_pure ?_
  simp only [show ¬ ((i : Int) < 0) from by omega, if_false, Int.toNat_natCast, Array.getElem?_eq_getElem lt]
  refine wpAny_bind ?_
  first | refine wpAny_bind (wpAny_typeNameOfWhole_itemiter T0 (wpAny_pure ?_)) | refine wpAny_bind (wpAny_typeNameOf_itemiter T0 (wpAny_pure ?_))
  refine wpAny_bind (wpAny_isOneOf_itemiter T0 ?_)
  show wpAny _ _ (setField (.ref it) 3 (rawInt ((i : Int) + 1)) >>= _) _ _ ⟨hp, g, dr, tk, os⟩
  refine wpAny_bind (wpAny_setField_rec hit (by simp) fun g1 k1 b1 => ?_)
  have k1 : KdxIt g1 it d (i + 1) es.size ep ok ov a f := by
    unfold KdxIt
    rw [show ((i + 1 : Nat) : Int) = (i : Int) + 1 by omega]
    simpa [rawInt] using k1
  have b1 : Heap.SameBut it hp g1 := b1
  have T1 : Shared.TypeIs ⟨g1, g, dr, tk, os⟩ (.ref it) "dict_itemiterator" := ⟨_, k1, rfl⟩
  refine wpAny_bind (wpAny_holding (wpAny_bind (wpAny_isOneOf_itemiter T1 (wpAny_bind (wpAny_isOneOf_itemiter T1 ?_)))))
  show wpAny _ _ (Builtin.Dict_items.pairFromOwner (.ref it) 6 es[i].key es[i].val) _ _ ⟨g1, g, dr, tk, os⟩
  unfold Builtin.Dict_items.pairFromOwner
  refine wpAny_bind (wpAny_newTuple ?_)
  have k2 : KdxIt (g1.push { cls := .type "tuple", data := .seq #[es[i].key, es[i].val] }) it d (i + 1) es.size ep ok ov a f := Heap.get?_push_of_some _ k1
  have z1 : g1.objs.size = hp.objs.size := b1.1
  have lt2 : it < hp.objs.size := Heap.lt_size hit
  have ne2 : hp.objs.size ≠ it := Nat.ne_of_gt lt2
  generalize e2 : g1.push { cls := .type "tuple", data := .seq #[es[i].key, es[i].val] } = g2 at k2
  have t2 : g2.get? hp.objs.size = some { cls := .type "tuple", data := .seq #[es[i].key, es[i].val] } := by rw [← e2, ← z1]; exact Heap.get?_push_size _ rfl
  have z2 : g2.objs.size = hp.objs.size + 1 := by rw [← e2, Heap.size_push, z1]
  have c2 : ∀ b o, b ≠ it → hp.get? b = some o → g2.get? b = some o := fun b o hb e => by rw [← e2]; exact Heap.get?_push_of_some _ (b1.extBut b o hb e)
  show wpAny _ _ (Builtin.Dict_items.ownedTupleIsFree (.ref it) >>= _) _ _ ⟨g2, g, dr, tk, os⟩
  rw [z1]
  refine wpAny_bind ?_
  unfold Builtin.Dict_items.ownedTupleIsFree
  refine wpAny_bind (wpAny_field k2 rfl (x := rawInt a) rfl ?_)
  show wpAny _ _ (loadIfAlive ((a : Int).toNat) >>= _) _ _ _
  rw [Int.toNat_natCast]
  refine wpAny_bind (at_next ?_)
  show wpAny _ _ (if (g2.get? a).isNone = true then _ else _) _ _ _
  cases ha : g2.get? a with
  | none =>
    simp only [Option.isNone_none, if_true]
    refine wpAny_pure ?_
    simp only [if_true]
    refine wpAny_bind (wpAny_field k2 rfl (x := ok) rfl ?_)
    refine wpAny_bind (wpAny_field k2 rfl (x := ov) rfl ?_)
    refine wpAny_bind (wpAny_setField_rec k2 (by simp) fun g3 k3 b3 => ?_)
    have k3 : KdxIt g3 it d (i + 1) es.size ep es[i].key ov a f := k3
    have b3 : Heap.SameBut it g2 g3 := b3
    refine wpAny_bind (wpAny_setField_rec k3 (by simp) fun g4 k4 b4 => ?_)
    have k4 : KdxIt g4 it d (i + 1) es.size ep es[i].key es[i].val a f := k4
    have b4 : Heap.SameBut it g3 g4 := b4
    refine wpAny_bind (wpAny_setField_rec k4 (by simp) fun g5 k5 b5 => ?_)
    have k5 : KdxIt g5 it d (i + 1) es.size ep es[i].key es[i].val hp.objs.size f := k5
    have b5 : Heap.SameBut it g4 g5 := b5
    refine wpAny_bind (wpAny_setField_rec k5 (by simp) fun g6 k6 b6 => ?_)
    have k6 : KdxIt g6 it d (i + 1) es.size ep es[i].key es[i].val hp.objs.size false := k6
    have b6 : Heap.SameBut it g5 g6 := b6
    have kk : ∀ b o, b ≠ it → g2.get? b = some o → g6.get? b = some o := fun b o hb e => b6.extBut b o hb (b5.extBut b o hb (b4.extBut b o hb (b3.extBut b o hb e)))
    exact wpAny_bind (wpAny_letGo (wpAny_pure (wpAny_pure ⟨_, rfl, wpAny_pure (hQ g6 _ _ _ _ k6 ne2 (kk _ _ ne2 t2) (by show g6.objs.size = hp.objs.size + 1; rw [b6.1, b5.1, b4.1, b3.1, z2]) fun b o hb e => kk b o hb (c2 b o hb e))⟩)))
  | some oa =>
    simp only [Option.isNone_some, Bool.false_eq_true, if_false]
    refine wpAny_bind (wpAny_field k2 rfl (x := .bool f) rfl ?_)
    have fin : ∀ g3 : Heap, KdxIt g3 it d (i + 1) es.size ep ok ov a true → Heap.SameBut it g2 g3 → Q (some (.ref hp.objs.size)) ⟨g3, g, dr, tk, os⟩ := fun g3 k3 b3 =>
      hQ g3 _ _ _ _ k3 hai (b3.extBut _ _ ne2 t2) (by show g3.objs.size = hp.objs.size + 1; rw [b3.1, z2]) fun b o hb e => b3.extBut b o hb (c2 b o hb e)
    cases f with
    | true =>
      rw [if_neg (show ¬ ((Value.bool true != Value.bool true) = true) from Bool.false_ne_true)]
      refine wpAny_pure ?_
      simp only [Bool.false_eq_true, if_false]
      exact wpAny_pure (wpAny_pure ⟨_, rfl, wpAny_pure (fin g2 k2 (Heap.SameBut.refl _ _))⟩)
    | false =>
      rw [if_pos (show (Value.bool false != Value.bool true) = true from rfl)]
      refine wpAny_bind (wpAny_setField_rec k2 (by simp) fun g3 k3 b3 => ?_)
      refine wpAny_pure ?_
      simp only [Bool.false_eq_true, if_false]
      exact wpAny_pure (wpAny_pure ⟨_, rfl, wpAny_pure (fin g3 k3 b3)⟩)
end
end PySem

namespace Py
open PySem PySem.Spec PyProof.Rows L2
open PySem.W (KdxIt)
/-- the iterator of d.items() at turn i, whatever becomes of its tuples -/
def ItmAny (h : Heap) (it d : Addr) (i n ep : Nat) : Prop := (∃ ok ov, IsItemIter h it d i n ep ok ov) ∨ ∃ ok ov a f, KdxIt h it d i n ep ok ov a f ∧ a ≠ it
theorem ItmAny.obj {h : Heap} {it d : Addr} {i n ep : Nat} (x : ItmAny h it d i n ep) : ∃ o, h.get? it = some o ∧ ∀ v, o.data ≠ .cell v := by
  rcases x with ⟨ok, ov, e⟩ | ⟨ok, ov, a, f, e, _⟩
  · exact ⟨_, e, fun v z => nomatch z⟩
  · exact ⟨_, e, fun v z => nomatch z⟩
theorem ItmAny.keep {h h' : Heap} {it d : Addr} {i n ep : Nat} (x : ItmAny h it d i n ep) (k : ∀ o, h.get? it = some o → h'.get? it = some o) : ItmAny h' it d i n ep := by
  rcases x with ⟨ok, ov, e⟩ | ⟨ok, ov, a, f, e, ne⟩
  · exact .inl ⟨ok, ov, k _ e⟩
  · exact .inr ⟨ok, ov, a, f, k _ e, ne⟩
section
variable {prog : Program} {w : World} {A : Around} {E : Value → Shared → Prop} {s : Shared}
theorem itm_next {it d : Addr} {i ep : Nat} {es : Array DictEntry} {Q : Option Value → Shared → Prop} (st : ItmAny s.heap it d i es.size ep) (hm : s.heap.DictRaw d es ep) (lt : i < es.size)
    (hQ : ∀ h', ItmAny h' it d (i + 1) es.size ep → h'.get? s.heap.objs.size = some { cls := .type "tuple", data := .seq #[es[i].key, es[i].val] } → h'.objs.size = s.heap.objs.size + 1 →
      (∀ b o, b ≠ it → s.heap.get? b = some o → h'.get? b = some o) → Q (some (.ref s.heap.objs.size)) { s with heap := h' }) : wpAny (model prog w) A (pyNext (.ref it)) Q E s := by
  rcases st with ⟨ok, ov, e⟩ | ⟨ok, ov, a, f, e, ne⟩
  · exact wpAny_pyNext_items_item_raw e hm lt fun h' k t z c => hQ h' (.inr ⟨_, _, _, false, k, Nat.ne_of_gt (Heap.lt_size e)⟩) t z c
  · exact items_next_any e ne hm lt fun h' ok' ov' a' f' k ne' t z c => hQ h' (.inr ⟨ok', ov', a', f', k, ne'⟩) t z c
theorem itm_end {it d : Addr} {i ep : Nat} {es : Array DictEntry} {Q : Option Value → Shared → Prop} (hh : A.handled = none) (st : ItmAny s.heap it d i es.size ep) (hm : s.heap.DictRaw d es ep) (ge : es.size ≤ i)
    (hQ : ∀ h', Heap.ExtBut it s.heap h' → Q none { s with heap := h' }) : wpAny (model prog w) A (pyNext (.ref it)) Q E s := by
  rcases st with ⟨ok, ov, e⟩ | ⟨ok, ov, a, f, e, ne⟩
  · exact wpAny_pyNext_items_end_raw hh e hm ge hQ
  · exact wpAny_pyNext_items_end_out_raw hh e hm ge hQ
end
end Py
namespace Py
open PySem PySem.Spec PyProof.Rows L2
section
variable {P : Program} {w : World} {K : PySem.W.Frag} {d : Addr} {o : Obj} {es : Array DictEntry} {ep : Nat}
theorem turn_itemsN {kvs : List (Key × V)} {x : Str} {p : Pos} (it : Addr) (hod : o.data = .dict es ep) : Turn P w K (.Name x p) (Iti d o kvs) [it] it (fun i h => ItmAny h it d i kvs.length ep) where
  mem := by simp
  obj := fun i h st b hb => by
    obtain rfl : b = it := by simpa using hb
    exact st.obj
  keep := fun i h h' st k => st.keep fun o e => k it (by simp) o e
  item := by
    intro X hP hw hK hc i pins s σ H E I hf st hg
    subst hP hw hK
    obtain ⟨hd, hi⟩ := hg
    obtain ⟨hs, hgd, hx, es', ep', vs, hdt, hsz, kv, hm⟩ := I.frzK hd
    obtain ⟨rfl, rfl⟩ := dict_ep hod hdt
    obtain ⟨⟨k, v⟩, hkv⟩ : ∃ p, kvs[i]? = some p := ⟨kvs[i], List.getElem?_eq_getElem hi⟩
    obtain ⟨u, hu, ru⟩ := kv_get kv hkv
    have hl : kvs.length = vs.length := Paired.length kv
    obtain ⟨es2, hr, hz2, he2⟩ := hm.raw
    have hi2 : i < es2.size := by omega
    obtain ⟨hkey, hval⟩ := he2 i hi2 k u hu
    have hlt : it < s.heap.objs.size := by
      obtain ⟨ob, e, _⟩ := ItmAny.obj st
      exact Heap.lt_size e
    have st' : ItmAny s.heap it d i es2.size ep' := by rw [hz2, ← hl]; exact st
    refine itm_next st' hr hi2 fun h' st2 hT hz hk => ?_
    rw [hval] at hT
    have new : ObjOk X.prog X.w (upd H s.heap.objs.size (.tup [kV k, v])) h' s.heap.objs.size (.tup [kV k, v]) :=
      ⟨by show 2 ≤ sizeLine; decide, [es2[i].key, u], .cons (relV_key (show keyIs k es2[i].key = true from hkey)) (.cons ru .nil), ⟨_, hT, rfl, _, rfl⟩⟩
    have I1 : Inv X pins σ (upd H s.heap.objs.size (.tup [kV k, v])) { s with heap := h' } :=
      I.turnedNew (t' := s.toks) (ch := [it]) (fun b ob hb e => hk b ob (by simpa using hb) e) hf (Nat.le_refl _) new
    refine ⟨_, rfl, ?_⟩
    show wpAny _ _ (pure ()) _ _ _
    refine wpAny_pure ⟨.ref s.heap.objs.size, _, I1, rfl, ⟨_, k, v, hkv, rfl, I.hok.fresh (Nat.le_refl _), rfl⟩, ?_, fun b hb => ?_⟩
    · rw [hz2, ← hl] at st2; exact st2
    · obtain rfl : b = it := by simpa using hb
      rw [upd_ne (Nat.ne_of_lt hlt)]
      exact (hf b (by simp)).1
  done := by
    intro X hP hw hK hc i pins s σ H E I hf st hg
    subst hP hw hK
    obtain ⟨hd, hi⟩ := hg
    obtain ⟨f0, f1, f2, f3, f4, f5⟩ := hf it (by simp)
    obtain ⟨hs, hgd, hx, es', ep', vs, hdt, hsz, kv, hm⟩ := I.frzK hd
    obtain ⟨rfl, rfl⟩ := dict_ep hod hdt
    have hl : kvs.length = vs.length := Paired.length kv
    obtain ⟨es2, hr, hz2, he2⟩ := hm.raw
    have st' : ItmAny s.heap it d i es2.size ep' := by rw [hz2, ← hl]; exact st
    exact itm_end (I.ok.hd hc) st' hr (by omega) fun h' eb => ⟨rfl, I.turned (t' := s.toks) (fun b ob hb e => eb b ob hb e) f0 f1 f3 f4 f5⟩
  self := fun A i s Q E st h => by
    have hT : s.TypeIs (.ref it) "dict_itemiterator" := by
      rcases st with ⟨ok, ov, e⟩ | ⟨ok, ov, a, f, e, _⟩
      · exact ⟨_, e, rfl⟩
      · exact ⟨_, e, rfl⟩
    refine wpAny_pyIter_slot hT PySem.F.slot_dict_itemiterator_iter (wpAny_call_entry PySem.F.slot_dict_itemiterator_iter hT PySem.W.kcp_entry ?_ (PySem.F.args_dict_itemiterator_iter_1 _))
    exact wpAny_pure ⟨_, rfl, "dict_itemiterator", _, hT, PySem.F.slot_dict_itemiterator_next.lookup, h⟩
end
end Py

namespace Py
open PySem PySem.Spec PyProof.Rows L2
theorem pi_itemsN {X : Cx} {e : Expr} {td : TE} {x : Str} {xp apos cpos : Pos} (he : PE X e td) (hbase : attributeBase e "items" X.env (eval e X.env) = eval e X.env) (hline : (apos.endLine == cpos.line) = true) :
    PI X (.Name x xp) (.Call (.Attribute e "items" apos) [] [] cpos) (iItems td) := by
  refine ⟨fun pins s σ H R I h => ?_⟩
  refine wpAny_Call_method (T := "dict") (id := "dict.items") hbase rfl hline F.plainAttrs_dict F.slot_dict_items F.type_dict_items (thn (he.run pins s σ H _ I h) fun u s1 ⟨v, H1, I1, rx, d, o, kvs, ex, hd, q⟩ => ?_)
  subst ex
  obtain rfl : u = Value.ref d := rx
  obtain ⟨hs, hgd, hx, es, ep, vs, hdt, hsz, kv, hm⟩ := I1.frzK hd
  have hl : kvs.length = vs.length := Paired.length kv
  refine ⟨hm.dictOf.typeIs, hm.dictOf.mapOf.noDict, ?_⟩
  have I2 : Inv X pins σ H1 { s1 with heap := s1.heap.push { cls := .type "dict_items", data := .fields #[.ref d] } } := I1.kept (t' := s1.toks) fun b ob q => Heap.get?_push_of_some _ q
  have fin : wpAny (model X.prog X.w) X.A (pyIter (.ref s1.heap.objs.size)) (PIE X pins σ (.Name x xp) R) X.xe { s1 with heap := s1.heap.push { cls := .type "dict_items", data := .fields #[.ref d] } } := by
    refine wpAny_pyIter_items (d := d) (knd := mixKind X.prog X.w) ⟨_, Heap.get?_push_size _ rfl, rfl, rfl⟩ (hm.push _) (pi_one (tk := s1.toks) I2 _ (turn_itemsN _ hdt) (.inl ⟨.none, .none, ?_⟩) q)
    rw [hl]
    exact Heap.get?_push_size _ rfl
  show wpAny _ _ (callWith cpos (.builtin "dict.items") [.ref d] [] []) _ X.xe s1
  exact method_meetsIn F.slot_dict_items F.entry_dict_items rfl (PySem.evalArgs_none ⟨rfl, hm.dictOf.typeIs, F.args_dict_items_1 _, _, meets_dict_items (mixKind X.prog X.w) d hs, ⟨vs, hm.dictOf⟩, fin⟩)
end Py

/-! sources, targets, list comprehensions -/
namespace Py
open PySem PySem.Spec PyProof.Rows L2
/-- where a loop's items come from: known ones, or a list that may change, of so many items at first -/
inductive Src where
  | fix (us : List U) | lab (n k : Nat)
def Src.at_ : Src → Nat → List O → Option (Option U)
  | .fix us, i, _ => some us[i]?
  | .lab n _, i, h => match h[n]? with
    | some (.lst xs) => some (xs[i]?.map .d)
    | _ => none
def Src.top : Src → Nat
  | .fix us => us.length + 1
  | .lab _ k => k + 1
def SrR (K : PySem.W.Frag) (H : Hp) (μ : List Addr) (S : Src) (J : It) : Prop := ∀ (H' : Hp) (μ' : List Addr) (h' : List O), Ext μ H μ' H' → Rh K H' μ' h' → ∀ i,
  (S.at_ i h' = some none → J.stop i H') ∧ ∀ u, S.at_ i h' = some (some u) → J.go i H' ∧ ∀ x H'', J.yld i H' x H'' → Ext μ' H' μ' H'' ∧ Rh K H'' μ' h' ∧ RU K H'' μ' u x
def DenI (X : Cx) (W : WX) (tg e : Expr) (f : En → List O → R Src) : Prop :=
  ∃ wi, PI X tg e wi ∧ ∀ σ' h σ H μ Rr, RE X.K H μ σ' σ → Rh X.K H μ h → Post X.K W σ H μ (SrR X.K) (f σ' h) Rr → wi σ H Rr
def srcU (u : U) (h : List O) : R Src := match u with
  | .d (.list xs) => .ok (.fix (xs.map .d)) h
  | .d (.tuple xs) => .ok (.fix (xs.map .d)) h
  | .scr xs => .ok (.fix (xs.map fun i => .d (.int i))) h
  | .lab n => match h[n]? with
    | some (.lst xs) => .ok (.lab n xs.length) h
    | _ => .bad
  | _ => .bad
section
variable {X : Cx} {W : WX}
theorem RDs.getN {K : PySem.W.Frag} {H : Hp} {μ : List Addr} {ds : List D} {vs : List V} (h : RDs K H μ ds vs) {i : Nat} (e : ds[i]? = none) : vs.length ≤ i := by
  rw [← h.length]
  exact List.getElem?_eq_none_iff.mp e
theorem sr_list {K : PySem.W.Frag} {H : Hp} {μ : List Addr} {a : Addr} {ds : List D} {vs : List V} (hl : ∀ H' μ', Ext μ H μ' H' → SqL K H' a vs) (r : RDs K H μ ds vs) : SrR K H μ (.fix (ds.map .d)) (Itl K a) := by
  intro H' μ' h' e rh i
  have sl := hl H' μ' e
  refine ⟨fun q => ⟨vs, sl, (r.ext e).getN ?_⟩, fun u q => ?_⟩
  · have : (ds.map U.d)[i]? = none := Option.some.inj q
    rw [List.getElem?_map] at this
    cases z : ds[i]? with
    | none => rfl
    | some d => rw [z] at this; cases this
  · have q' : (ds.map U.d)[i]? = some u := Option.some.inj q
    rw [List.getElem?_map] at q'
    cases z : ds[i]? with
    | none => rw [z] at q'; cases q'
    | some d =>
      rw [z] at q'
      cases q'
      obtain ⟨v, hv, rv⟩ := (r.ext e).get z
      refine ⟨⟨vs, v, sl, hv⟩, fun x H'' y => ?_⟩
      obtain ⟨rfl, hx⟩ := y
      have := hx vs sl
      rw [hv] at this
      cases this
      exact ⟨Ext.refl, rh, .d rv⟩
theorem sr_tup {K : PySem.W.Frag} {H : Hp} {μ : List Addr} {a : Addr} {ds : List D} {vs : List V} (hl : ∀ H' μ', Ext μ H μ' H' → SqT K H' a vs) (r : RDs K H μ ds vs) : SrR K H μ (.fix (ds.map .d)) (Itt K a) := by
  intro H' μ' h' e rh i
  have sl := hl H' μ' e
  refine ⟨fun q => ⟨vs, sl, (r.ext e).getN ?_⟩, fun u q => ?_⟩
  · have : (ds.map U.d)[i]? = none := Option.some.inj q
    rw [List.getElem?_map] at this
    cases z : ds[i]? with
    | none => rfl
    | some d => rw [z] at this; cases this
  · have q' : (ds.map U.d)[i]? = some u := Option.some.inj q
    rw [List.getElem?_map] at q'
    cases z : ds[i]? with
    | none => rw [z] at q'; cases q'
    | some d =>
      rw [z] at q'
      cases q'
      obtain ⟨v, hv, rv⟩ := (r.ext e).get z
      refine ⟨⟨vs, v, sl, hv⟩, fun x H'' y => ?_⟩
      obtain ⟨rfl, hx⟩ := y
      have := hx vs sl
      rw [hv] at this
      cases this
      exact ⟨Ext.refl, rh, .d rv⟩
theorem rds_ints {K : PySem.W.Frag} {H : Hp} {μ : List Addr} : ∀ ns : List Int, RDs K H μ (ns.map .int) (ns.map V.int)
  | [] => .nil
  | n :: ns => .cons (.int n) (rds_ints ns)
theorem deni_seq {tg e : Expr} {f : En → List O → R U} (hf : Den X W e f) : DenI X W tg e (fun σ h => (f σ h).bind srcU) := by
  obtain ⟨t, p, c⟩ := hf
  refine ⟨_, pi_seq p, fun σ' h σ H μ Rr re rh q => ?_⟩
  refine c σ' h σ H μ _ re rh (Post.bind q fun u h1 H1 μ1 x e1 rh1 ru p1 => ?_)
  cases ru with
  | ty n => exact p1.elim
  | gl x => exact p1.elim
  | @lab n a ra =>
    unfold srcU at p1
    dsimp only at p1
    split at p1
    · rename_i xs z
      obtain ⟨ho, h2, h3⟩ := rh1.obj n _ a z ra
      cases h3 with
      | @lst _ vs r =>
        refine ⟨a, vs, rfl, .inl ⟨SqL.of h2, p1.ret rh1 ?_⟩⟩
        intro H' μ' h' e rh i
        have key : ∀ xs', h'[n]? = some (.lst xs') → ∃ ws, H' a = some (.lst ws) ∧ RDs X.K H' μ' xs' ws := fun xs' z' => by
          obtain ⟨ho, g2, g3⟩ := rh.obj n _ a z' (e.get ra)
          cases g3 with
          | lst r => exact ⟨_, g2, r⟩
        refine ⟨fun q => ?_, fun u q => ?_⟩
        · unfold Src.at_ at q
          dsimp only at q
          split at q
          · rename_i xs' z'
            obtain ⟨ws, g1, g2⟩ := key xs' z'
            refine ⟨ws, SqL.of g1, g2.getN ?_⟩
            have q' := Option.some.inj q
            cases y : xs'[i]? with
            | none => rfl
            | some d => rw [y] at q'; cases q'
          · cases q
        · unfold Src.at_ at q
          dsimp only at q
          split at q
          · rename_i xs' z'
            obtain ⟨ws, g1, g2⟩ := key xs' z'
            have q' := Option.some.inj q
            cases y : xs'[i]? with
            | none => rw [y] at q'; cases q'
            | some d =>
              rw [y] at q'
              cases q'
              obtain ⟨v, hv, rv⟩ := g2.get y
              refine ⟨⟨ws, v, SqL.of g1, hv⟩, fun x H'' yl => ?_⟩
              obtain ⟨rfl, hx⟩ := yl
              have := hx ws (SqL.of g1)
              rw [hv] at this
              cases this
              exact ⟨Ext.refl, rh, .d rv⟩
          · cases q
    · exact p1.elim
  | @scr a ns hs =>
    refine ⟨a, ns.map V.int, rfl, .inl ⟨hs.sq, p1.ret rh1 ?_⟩⟩
    have e : (ns.map fun i => U.d (.int i)) = (ns.map PyData.int).map U.d := by rw [List.map_map]; rfl
    rw [e]
    exact sr_list (fun H' μ' e => (hs.ext e).sq) (rds_ints ns)
  | d r =>
    cases r with
    | @tup a vs ds ha r => exact ⟨a, vs, rfl, .inr ⟨ha.sq, p1.ret rh1 (sr_tup (fun H' μ' e => (ha.ext e).sq) r)⟩⟩
    | @lst a vs ds ha na r => exact ⟨a, vs, rfl, .inl ⟨SqL.of ha, p1.ret rh1 (sr_list (fun H' μ' e => SqL.of (e.keep _ _ ha na).1) r)⟩⟩
    | _ => exact p1.elim
/-! ### range, enumerate, zip -/
def inR (i : Int) : Bool := Nat.ble i.natAbs 4611686018427387903
theorem inR_ok {i : Int} (h : Py.inR i = true) : -(2 ^ 62) ≤ i ∧ i < 2 ^ 62 := by
  unfold Py.inR at h
  have := Nat.le_of_ble_eq_true h
  omega
theorem inR_of {i : Int} (h0 : 0 ≤ i) (h1 : i ≤ 100000000) : Py.inR i = true := by
  unfold Py.inR
  exact Nat.ble_eq_true_of_le (by omega)
def rngL (lo c : Int) (n : Nat) : List U := (List.range n).map fun (k : Nat) => U.d (.int (lo + (k : Nat) * c))
theorem rngL_get (lo c : Int) (n i : Nat) : (rngL lo c n)[i]? = if i < n then some (.d (.int (lo + (i : Nat) * c))) else none := by
  unfold rngL
  rw [List.getElem?_map]
  by_cases h : i < n
  · rw [if_pos h, List.getElem?_range h]; rfl
  · rw [if_neg h, List.getElem?_eq_none (by simpa using h)]; rfl
theorem sr_rng1 {K : PySem.W.Frag} {H : Hp} {μ : List Addr} {lo : Int} {n : Nat} : SrR K H μ (.fix (rngL lo 1 n)) (Itr lo n) := by
  intro H' μ' h' e rh i
  refine ⟨fun q => ?_, fun u q => ?_⟩
  · have q' := Option.some.inj q
    rw [rngL_get] at q'
    by_cases hi : i < n
    · rw [if_pos hi] at q'; cases q'
    · exact Nat.le_of_not_lt hi
  · have q' := Option.some.inj q
    rw [rngL_get] at q'
    by_cases hi : i < n
    · rw [if_pos hi] at q'
      cases q'
      refine ⟨hi, fun x H'' y => ?_⟩
      obtain ⟨rfl, rfl⟩ := y
      refine ⟨Ext.refl, rh, ?_⟩
      rw [Int.mul_one]
      exact .d (.int _)
    · rw [if_neg hi] at q'; cases q'
theorem sr_rngC {K : PySem.W.Frag} {H : Hp} {μ : List Addr} {lo c : Int} {n : Nat} : SrR K H μ (.fix (rngL lo c n)) (Itc lo c n) := by
  intro H' μ' h' e rh i
  refine ⟨fun q => ?_, fun u q => ?_⟩
  · have q' := Option.some.inj q
    rw [rngL_get] at q'
    by_cases hi : i < n
    · rw [if_pos hi] at q'; cases q'
    · exact Nat.le_of_not_lt hi
  · have q' := Option.some.inj q
    rw [rngL_get] at q'
    by_cases hi : i < n
    · rw [if_pos hi] at q'
      cases q'
      refine ⟨hi, fun x H'' y => ?_⟩
      obtain ⟨rfl, rfl⟩ := y
      exact ⟨Ext.refl, rh, .d (.int _)⟩
    · rw [if_neg hi] at q'; cases q'
/-- how many turns a range has -/
def rngN (i j c : Int) : Option Nat := if c ≠ 0 ∧ c.natAbs < 1073741824 ∧ Builtin.Range.small i j c = true ∧ 0 ≤ Builtin.Range.rangeSize i j c then some (Builtin.Range.rangeSize i j c).toNat else none
theorem rngN_ok {i j c : Int} {n : Nat} (h : rngN i j c = some n) : RgC i j c n := by
  unfold rngN at h
  by_cases hc : c ≠ 0 ∧ c.natAbs < 1073741824 ∧ Builtin.Range.small i j c = true ∧ 0 ≤ Builtin.Range.rangeSize i j c
  · rw [if_pos hc] at h
    cases h
    exact ⟨hc.1, hc.2.1, hc.2.2.1, by omega⟩
  · rw [if_neg hc] at h; cases h
def rngS (us : List U) (h : List O) : R Src := match us with
  | [.d (.int j)] => if inR j = true then .ok (.fix (rngL 0 1 j.toNat)) h else .bad
  | [.d (.int i), .d (.int j)] => if (inR i && inR j) = true then .ok (.fix (rngL i 1 (j - i).toNat)) h else .bad
  | [.d (.int i), .d (.int j), .d (.int c)] => (opt (rngN i j c) h).bind fun n h => .ok (.fix (rngL i c n)) h
  | _ => .bad
theorem rngS_of {K : PySem.W.Frag} {σ : L2.St} {H : Hp} {μ : List Addr} {us : List U} {h : List O} {vs : List V} {Rr : It → Hp → Prop} (rh : Rh K H μ h) (r : RUs K H μ us vs) (p : Post K W σ H μ (SrR K) (rngS us h) Rr) :
    (∃ j : Int, vs = [.int j] ∧ -(2 ^ 62) ≤ j ∧ j < 2 ^ 62 ∧ Rr (Itr 0 j.toNat) H) ∨
    (∃ i j : Int, vs = [.int i, .int j] ∧ (-(2 ^ 62) ≤ i ∧ i < 2 ^ 62 ∧ -(2 ^ 62) ≤ j ∧ j < 2 ^ 62) ∧ Rr (Itr i (j - i).toNat) H) ∨
    (∃ (i j c : Int) (n : Nat), vs = [.int i, .int j, .int c] ∧ RgC i j c n ∧ Rr (Itc i c n) H) := by
  unfold rngS at p
  split at p
  · rename_i j
    cases r with
    | cons r1 r2 =>
      cases r2
      cases r1.int_inv
      by_cases hj : inR j = true
      · rw [if_pos hj] at p
        exact .inl ⟨j, rfl, (inR_ok hj).1, (inR_ok hj).2, p.ret rh sr_rng1⟩
      · rw [if_neg hj] at p
        exact p.elim
  · rename_i i j
    cases r with
    | cons r1 r2 =>
      cases r2 with
      | cons r2 r3 =>
        cases r3
        cases r1.int_inv
        cases r2.int_inv
        by_cases hj : (inR i && inR j) = true
        · rw [if_pos hj] at p
          have hj := Bool.and_eq_true_iff.mp hj
          exact .inr (.inl ⟨i, j, rfl, ⟨(inR_ok hj.1).1, (inR_ok hj.1).2, (inR_ok hj.2).1, (inR_ok hj.2).2⟩, p.ret rh sr_rng1⟩)
        · rw [if_neg hj] at p
          exact p.elim
  · rename_i i j c
    cases r with
    | cons r1 r2 =>
      cases r2 with
      | cons r2 r3 =>
        cases r3 with
        | cons r3 r4 =>
          cases r4
          cases r1.int_inv
          cases r2.int_inv
          cases r3.int_inv
          obtain ⟨n, en, p⟩ := Post.opt p
          exact .inr (.inr ⟨i, j, c, n, rfl, rngN_ok en, p.ret rh sr_rngC⟩)
  · exact p.elim
theorem deni_range1 {tg a : Expr} {p pos : Pos} {f : En → List O → R (List U)} (gl : Gl X "range") (hm : X.mg "range" = none) (hf : DenA X W [a] f) (hs : noStar [a] = true) :
    DenI X W tg (.Call (.Name "range" p) [a] [] pos) (fun σ h => (f σ h).bind fun us h => if us.length = 1 then rngS us h else .bad) := by
  obtain ⟨t, pa, c⟩ := hf
  refine ⟨_, pi_range1 gl hm pa (star1 (noStar_cons hs).1), fun σ' h σ H μ Rr re rh q => ?_⟩
  refine c σ' h σ H μ _ re rh (Post.bind q fun us h1 H1 μ1 xs e1 rh1 ru p1 => ?_)
  by_cases hl : us.length = 1
  · rw [if_pos hl] at p1
    have hx := ru.length
    rcases rngS_of rh1 ru p1 with z | ⟨i, j, e, _⟩ | ⟨i, j, c, n, e, _⟩
    · exact z
    · rw [e, hl] at hx; simp at hx
    · rw [e, hl] at hx; simp at hx
  · rw [if_neg hl] at p1; exact p1.elim
theorem deni_range2 {tg a b : Expr} {p pos : Pos} {f : En → List O → R (List U)} (gl : Gl X "range") (hm : X.mg "range" = none) (hf : DenA X W [a, b] f) (hs : noStar [a, b] = true) :
    DenI X W tg (.Call (.Name "range" p) [a, b] [] pos) (fun σ h => (f σ h).bind fun us h => if us.length = 2 then rngS us h else .bad) := by
  obtain ⟨t, pa, c⟩ := hf
  obtain ⟨s1, s2⟩ := noStar_cons hs
  refine ⟨_, pi_range2 gl hm pa (by rw [star1 s1, star1 (noStar_cons s2).1]; rfl) (star1 (noStar_cons s2).1), fun σ' h σ H μ Rr re rh q => ?_⟩
  refine c σ' h σ H μ _ re rh (Post.bind q fun us h1 H1 μ1 xs e1 rh1 ru p1 => ?_)
  by_cases hl : us.length = 2
  · rw [if_pos hl] at p1
    have hx := ru.length
    rcases rngS_of rh1 ru p1 with ⟨j, e, _⟩ | z | ⟨i, j, c, n, e, _⟩
    · rw [e, hl] at hx; simp at hx
    · exact z
    · rw [e, hl] at hx; simp at hx
  · rw [if_neg hl] at p1; exact p1.elim
theorem deni_range3 {tg a b c : Expr} {p pos : Pos} {f : En → List O → R (List U)} (gl : Gl X "range") (hm : X.mg "range" = none) (hf : DenA X W [a, b, c] f) (hs : noStar [a, b, c] = true) :
    DenI X W tg (.Call (.Name "range" p) [a, b, c] [] pos) (fun σ h => (f σ h).bind fun us h => if us.length = 3 then rngS us h else .bad) := by
  obtain ⟨t, pa, cc⟩ := hf
  obtain ⟨s1, s2⟩ := noStar_cons hs
  refine ⟨_, pi_range3 gl hm pa (star1 s1) (noStar_any s2), fun σ' h σ H μ Rr re rh q => ?_⟩
  refine cc σ' h σ H μ _ re rh (Post.bind q fun us h1 H1 μ1 xs e1 rh1 ru p1 => ?_)
  by_cases hl : us.length = 3
  · rw [if_pos hl] at p1
    have hx := ru.length
    rcases rngS_of rh1 ru p1 with ⟨j, e, _⟩ | ⟨i, j, e, _⟩ | z
    · rw [e, hl] at hx; simp at hx
    · rw [e, hl] at hx; simp at hx
    · exact z
  · rw [if_neg hl] at p1; exact p1.elim
/-! ### enumerate, zip -/
def enuL (k : Nat) : List D → List U
  | [] => []
  | x :: r => .d (.tuple [.int k, x]) :: enuL (k + 1) r
theorem enuL_get : ∀ (xs : List D) (k i : Nat), (enuL k xs)[i]? = xs[i]?.map fun x => U.d (.tuple [.int ((k + i : Nat) : Int), x])
  | [], _, _ => by simp [enuL]
  | x :: r, k, 0 => by simp [enuL]
  | x :: r, k, i + 1 => by
    rw [enuL, List.getElem?_cons_succ, enuL_get r (k + 1) i, List.getElem?_cons_succ]
    have : k + 1 + i = k + (i + 1) := by omega
    rw [this]
def zipL : List D → List D → List U
  | x :: r, y :: q => .d (.tuple [x, y]) :: zipL r q
  | _, _ => []
theorem zipL_get : ∀ (xs ys : List D) (i : Nat), (zipL xs ys)[i]? = match xs[i]?, ys[i]? with
    | some x, some y => some (.d (.tuple [x, y]))
    | _, _ => none
  | [], ys, i => by simp [zipL]
  | x :: r, [], i => by
    simp only [zipL, List.getElem?_nil]
    split
    · rename_i h; cases h
    · rfl
  | x :: r, y :: q, 0 => by simp [zipL]
  | x :: r, y :: q, i + 1 => by
    rw [zipL, List.getElem?_cons_succ, zipL_get r q i, List.getElem?_cons_succ, List.getElem?_cons_succ]
def enuS (us : List U) (h : List O) : R Src := match us with
  | [.d (.list xs)] => .ok (.fix (enuL 0 xs)) h
  | [.d (.tuple xs)] => .ok (.fix (enuL 0 xs)) h
  | [.scr xs] => .ok (.fix (enuL 0 (xs.map .int))) h
  | _ => .bad
theorem newpair {K : PySem.W.Frag} {H : Hp} {μ : List Addr} {h : List O} {T : Addr} {d e : D} {v w : V} (rh : Rh K H μ h) (hT : H T = none) (rv : RD K H μ d v) (rw : RD K H μ e w) :
    Ext μ H μ (upd H T (.tup [v, w])) ∧ Rh K (upd H T (.tup [v, w])) μ h ∧ RU K (upd H T (.tup [v, w])) μ (.d (.tuple [d, e])) (.ref T) :=
  ⟨Ext.new hT, rh.new hT, .d (.tup (.inl ⟨upd_same, rh.notin hT⟩) (.cons (rv.ext (Ext.new hT)) (.cons (rw.ext (Ext.new hT)) .nil)))⟩
theorem sr_enu {K : PySem.W.Frag} {H : Hp} {μ : List Addr} {a : Addr} {ds : List D} {vs : List V} (hl : ∀ H' μ', Ext μ H μ' H' → SqL K H' a vs) (r : RDs K H μ ds vs) : SrR K H μ (.fix (enuL 0 ds)) (Ite K a) := by
  intro H' μ' h' e rh i
  have sl := hl H' μ' e
  refine ⟨fun q => ⟨vs, sl, (r.ext e).getN ?_⟩, fun u q => ?_⟩
  · have q' := Option.some.inj q
    rw [enuL_get] at q'
    cases z : ds[i]? with
    | none => rfl
    | some d => rw [z] at q'; cases q'
  · have q' := Option.some.inj q
    rw [enuL_get] at q'
    cases z : ds[i]? with
    | none => rw [z] at q'; cases q'
    | some d =>
      rw [z] at q'
      cases q'
      obtain ⟨v, hv, rv⟩ := (r.ext e).get z
      refine ⟨⟨vs, v, sl, hv⟩, fun x H'' y => ?_⟩
      obtain ⟨T, w, rfl, hT, rfl, hx⟩ := y
      have := hx vs sl
      rw [hv] at this
      cases this
      rw [Nat.zero_add]
      exact newpair rh hT (.int _) rv
theorem sr_enuT {K : PySem.W.Frag} {H : Hp} {μ : List Addr} {a : Addr} {ds : List D} {vs : List V} (hl : ∀ H' μ', Ext μ H μ' H' → SqT K H' a vs) (r : RDs K H μ ds vs) : SrR K H μ (.fix (enuL 0 ds)) (IteT K a) := by
  intro H' μ' h' e rh i
  have sl := hl H' μ' e
  refine ⟨fun q => ⟨vs, sl, (r.ext e).getN ?_⟩, fun u q => ?_⟩
  · have q' := Option.some.inj q
    rw [enuL_get] at q'
    cases z : ds[i]? with
    | none => rfl
    | some d => rw [z] at q'; cases q'
  · have q' := Option.some.inj q
    rw [enuL_get] at q'
    cases z : ds[i]? with
    | none => rw [z] at q'; cases q'
    | some d =>
      rw [z] at q'
      cases q'
      obtain ⟨v, hv, rv⟩ := (r.ext e).get z
      refine ⟨⟨vs, v, sl, hv⟩, fun x H'' y => ?_⟩
      obtain ⟨T, w, rfl, hT, rfl, hx⟩ := y
      have := hx vs sl
      rw [hv] at this
      cases this
      rw [Nat.zero_add]
      exact newpair rh hT (.int _) rv
theorem deni_enum {a : Expr} {elts : List Expr} {kk : Nat} {p pos tpos : Pos} {f : En → List O → R (List U)} (gl : Gl X "enumerate") (hm : X.mg "enumerate" = none) (hf : DenA X W [a] f) (hs : noStar [a] = true) :
    DenI X W (.Tuple elts kk tpos) (.Call (.Name "enumerate" p) [a] [] pos) (fun σ h => (f σ h).bind enuS) := by
  obtain ⟨t, pa, c⟩ := hf
  refine ⟨_, pi_enumA gl hm pa (star1 (noStar_cons hs).1), fun σ' h σ H μ Rr re rh q => ?_⟩
  refine c σ' h σ H μ _ re rh (Post.bind q fun us h1 H1 μ1 xs e1 rh1 ru p1 => ?_)
  unfold enuS at p1
  split at p1
  · cases ru with
    | cons r1 r2 =>
      cases r2
      cases r1 with
      | d r => cases r with
        | @lst a vs ds ha na r => exact ⟨a, vs, rfl, .inl ⟨SqL.of ha, p1.ret rh1 (sr_enu (fun H' μ' e => SqL.of (e.keep _ _ ha na).1) r)⟩⟩
  · cases ru with
    | cons r1 r2 =>
      cases r2
      cases r1 with
      | d r => cases r with
        | @tup a vs ds ha r => exact ⟨a, vs, rfl, .inr ⟨ha.sq, p1.ret rh1 (sr_enuT (fun H' μ' e => (ha.ext e).sq) r)⟩⟩
  · cases ru with
    | cons r1 r2 =>
      cases r2
      cases r1 with
      | scr hs => exact ⟨_, _, rfl, .inl ⟨hs.sq, p1.ret rh1 (sr_enu (fun H' μ' e => (hs.ext e).sq) (rds_ints _))⟩⟩
  · exact p1.elim
def zipS (us : List U) (h : List O) : R Src := match us with
  | [.d (.list xs), .d (.list ys)] => .ok (.fix (zipL xs ys)) h
  | [.d (.tuple xs), .d (.tuple ys)] => .ok (.fix (zipL xs ys)) h
  | _ => .bad
theorem zip_none {xs ys : List D} {i : Nat} (h : (zipL xs ys)[i]? = none) : xs[i]? = none ∨ ys[i]? = none := by
  rw [zipL_get] at h
  cases z : xs[i]? with
  | none => exact .inl rfl
  | some x => cases y : ys[i]? with
    | none => exact .inr rfl
    | some y' => rw [z, y] at h; cases h
theorem zip_some {xs ys : List D} {i : Nat} {u : U} (h : (zipL xs ys)[i]? = some u) : ∃ x y, xs[i]? = some x ∧ ys[i]? = some y ∧ u = .d (.tuple [x, y]) := by
  rw [zipL_get] at h
  cases z : xs[i]? with
  | none => rw [z] at h; cases h
  | some x => cases y : ys[i]? with
    | none => rw [z, y] at h; cases h
    | some y' => rw [z, y] at h; cases h; exact ⟨x, y', rfl, rfl, rfl⟩
theorem deni_zip {a b : Expr} {elts : List Expr} {kk : Nat} {p pos tpos : Pos} {f : En → List O → R (List U)} (gl : Gl X "zip") (hm : X.mg "zip" = none) (hf : DenA X W [a, b] f) (hs : noStar [a, b] = true) :
    DenI X W (.Tuple elts kk tpos) (.Call (.Name "zip" p) [a, b] [] pos) (fun σ h => (f σ h).bind zipS) := by
  obtain ⟨t, pa, c⟩ := hf
  obtain ⟨s1, s2⟩ := noStar_cons hs
  refine ⟨_, RZ.pi_zipA gl hm pa (star1 s1) (noStar_any s2), fun σ' h σ H μ Rr re rh q => ?_⟩
  refine c σ' h σ H μ _ re rh (Post.bind q fun us h1 H1 μ1 xs e1 rh1 ru p1 => ?_)
  unfold zipS at p1
  split at p1
  · cases ru with
    | cons r1 r2 => cases r2 with
      | cons r2 r3 =>
        cases r3
        cases r1 with
        | d r => cases r with
          | @lst a vs ds ha na r =>
            cases r2 with
            | d r' => cases r' with
              | @lst b ws es hb nb r' =>
                refine ⟨a, b, vs, ws, rfl, .inl ⟨SqL.of ha, SqL.of hb, p1.ret rh1 ?_⟩⟩
                intro H' μ' h' e rh i
                have ka := SqL.of (K := X.K) (e.keep _ _ ha na).1
                have kb := SqL.of (K := X.K) (e.keep _ _ hb nb).1
                refine ⟨fun q => ⟨vs, ws, ka, kb, ?_⟩, fun u q => ?_⟩
                · rcases zip_none (Option.some.inj q) with z | z
                  · exact .inl ((r.ext e).getN z)
                  · exact .inr ((r'.ext e).getN z)
                · obtain ⟨x, y, hx, hy, rfl⟩ := zip_some (Option.some.inj q)
                  obtain ⟨v, hv, rv⟩ := (r.ext e).get hx
                  obtain ⟨w, hw, rw⟩ := (r'.ext e).get hy
                  refine ⟨⟨vs, ws, v, w, ka, kb, hv, hw⟩, fun x H'' yl => ?_⟩
                  obtain ⟨T, v', w', rfl, hT, rfl, hx1, hx2⟩ := yl
                  have e1 := hx1 vs ka
                  rw [hv] at e1
                  cases e1
                  have e2 := hx2 ws kb
                  rw [hw] at e2
                  cases e2
                  exact newpair rh hT rv rw
  · cases ru with
    | cons r1 r2 => cases r2 with
      | cons r2 r3 =>
        cases r3
        cases r1 with
        | d r => cases r with
          | @tup a vs ds ha r =>
            cases r2 with
            | d r' => cases r' with
              | @tup b ws es hb r' =>
                refine ⟨a, b, vs, ws, rfl, .inr ⟨ha.sq, hb.sq, p1.ret rh1 ?_⟩⟩
                intro H' μ' h' e rh i
                have ka := (ha.ext e).sq
                have kb := (hb.ext e).sq
                refine ⟨fun q => ⟨vs, ws, ka, kb, ?_⟩, fun u q => ?_⟩
                · rcases zip_none (Option.some.inj q) with z | z
                  · exact .inl ((r.ext e).getN z)
                  · exact .inr ((r'.ext e).getN z)
                · obtain ⟨x, y, hx, hy, rfl⟩ := zip_some (Option.some.inj q)
                  obtain ⟨v, hv, rv⟩ := (r.ext e).get hx
                  obtain ⟨w, hw, rw⟩ := (r'.ext e).get hy
                  refine ⟨⟨vs, ws, v, w, ka, kb, hv, hw⟩, fun x H'' yl => ?_⟩
                  obtain ⟨T, v', w', rfl, hT, rfl, hx1, hx2⟩ := yl
                  have e1 := hx1 vs ka
                  rw [hv] at e1
                  cases e1
                  have e2 := hx2 ws kb
                  rw [hw] at e2
                  cases e2
                  exact newpair rh hT rv rw
  · exact p1.elim
/-! ### dicts that are locked -/
def keyD : Key → Option D
  | .inl i => some (.int i)
  | .inr s => if PyData.strOk s = true then some (.str s) else none
theorem keyD_rel {K : PySem.W.Frag} {H : Hp} {μ : List Addr} {k : Key} {d : D} (e : keyD k = some d) : RD K H μ d (kV k) := by
  cases k with
  | inl i => cases e; exact .int i
  | inr s =>
    have e' : (if PyData.strOk s = true then some (PyData.str s) else none) = some d := e
    by_cases h : PyData.strOk s = true
    · rw [if_pos h] at e'; cases e'; exact .str s h
    · rw [if_neg h] at e'; cases e'
def entD : List (Key × D) → Option (List (D × D))
  | [] => some []
  | (k, d) :: r => (keyD k).bind fun x => (entD r).map fun ps => (x, d) :: ps
theorem entD_rel {K : PySem.W.Frag} {H : Hp} {μ : List Addr} : ∀ {kvs : List (Key × D)} {vs : List (Key × V)} {ps : List (D × D)}, RKs K H μ kvs vs → entD kvs = some ps →
    ps.length = vs.length ∧ ∀ (i : Nat) (p : D × D), ps[i]? = some p → ∃ k v, vs[i]? = some (k, v) ∧ RD K H μ p.1 (kV k) ∧ RD K H μ p.2 v
  | [], _, _, .nil, h => by cases h; exact ⟨rfl, fun i p e => by simp at e⟩
  | (k, d) :: r, w :: vs, ps, .cons h1 h2, h => by
    unfold entD at h
    cases q : keyD k with
    | none => rw [q] at h; cases h
    | some x =>
      cases q2 : entD r with
      | none => rw [q, q2] at h; cases h
      | some ps' =>
        rw [q, q2] at h
        cases h
        obtain ⟨g1, g2⟩ := entD_rel h2 q2
        refine ⟨by simp [g1], fun i p e => ?_⟩
        cases i with
        | zero =>
          cases e
          have hk : k = w.1 := h1.1
          exact ⟨w.1, w.2, rfl, by rw [← hk]; exact keyD_rel q, h1.2⟩
        | succ i => exact g2 i p e
def holdOf (u : U) (h : List O) : Option (List (D × D)) := match u with
  | .lab n => (match h[n]? with
    | some (.hold kvs) => entD kvs
    | _ => none)
  | _ => none
theorem holdOf_of {K : PySem.W.Frag} {H : Hp} {μ : List Addr} {u : U} {h : List O} {x : V} {ps : List (D × D)} (rh : Rh K H μ h) (r : RU K H μ u x) (e : holdOf u h = some ps) :
    ∃ a o vs, x = .ref a ∧ H a = some (.frz o (.dK vs)) ∧ ∀ H' μ', Ext μ H μ' H' → ps.length = vs.length ∧ ∀ (i : Nat) (p : D × D), ps[i]? = some p → ∃ k v, vs[i]? = some (k, v) ∧ RD K H' μ' p.1 (kV k) ∧ RD K H' μ' p.2 v := by
  cases r with
  | @lab n a r =>
    unfold holdOf at e
    dsimp only at e
    split at e
    · rename_i kvs z
      obtain ⟨ho, h1, h2⟩ := rh.obj n _ a z r
      cases h2 with
      | hold h2 => exact ⟨a, _, _, rfl, h1, fun H' μ' ex => entD_rel (h2.ext ex) e⟩
    · cases e
  | _ => cases e
def itemsU (u : U) (h : List O) : R Src := (opt (holdOf u h) h).bind fun ps h => .ok (.fix (ps.map fun p => .d (.tuple [p.1, p.2]))) h
def valuesU (u : U) (h : List O) : R Src := (opt (holdOf u h) h).bind fun ps h => .ok (.fix (ps.map fun p => .d p.2)) h
def keysU (u : U) (h : List O) : R Src := (opt (holdOf u h) h).bind fun ps h => .ok (.fix (ps.map fun p => .d p.1)) h
theorem deni_items {o : Expr} {elts : List Expr} {kk : Nat} {tpos apos cpos : Pos} {f : En → List O → R U} (hf : Den X W o f) (hb : isCall o = false) (hl : (apos.endLine == cpos.line) = true) :
    DenI X W (.Tuple elts kk tpos) (.Call (.Attribute o "items" apos) [] [] cpos) (fun σ h => (f σ h).bind itemsU) := by
  obtain ⟨t, pe, c⟩ := hf
  refine ⟨_, pi_items pe (base_of hb) hl, fun σ' h σ H μ Rr re rh q => ?_⟩
  refine c σ' h σ H μ _ re rh (Post.bind q fun u h1 H1 μ1 x e1 rh1 ru p1 => ?_)
  obtain ⟨ps, ep, p1⟩ := Post.opt p1
  obtain ⟨a, od, vs, rfl, g1, g2⟩ := holdOf_of rh1 ru ep
  refine ⟨a, od, vs, rfl, g1, p1.ret rh1 ?_⟩
  intro H' μ' h' e rh' i
  obtain ⟨l1, l2⟩ := g2 H' μ' e
  have hd := e.frz _ _ _ g1
  refine ⟨fun q => ⟨hd, ?_⟩, fun u q => ?_⟩
  · have q' := Option.some.inj q
    rw [List.getElem?_map] at q'
    cases z : ps[i]? with
    | none => rw [← l1]; exact List.getElem?_eq_none_iff.mp z
    | some p => rw [z] at q'; cases q'
  · have q' := Option.some.inj q
    rw [List.getElem?_map] at q'
    cases z : ps[i]? with
    | none => rw [z] at q'; cases q'
    | some p =>
      rw [z] at q'
      cases q'
      obtain ⟨k, v, hv, r1, r2⟩ := l2 i p z
      refine ⟨⟨hd, (List.getElem?_eq_some_iff.mp hv).1⟩, fun x H'' y => ?_⟩
      obtain ⟨T, k', v', hk, rfl, hT, rfl⟩ := y
      rw [hv] at hk
      cases hk
      exact newpair rh' hT r1 r2
theorem deni_itemsN {o : Expr} {x : Str} {tpos apos cpos : Pos} {f : En → List O → R U} (hf : Den X W o f) (hb : isCall o = false) (hl : (apos.endLine == cpos.line) = true) :
    DenI X W (.Name x tpos) (.Call (.Attribute o "items" apos) [] [] cpos) (fun σ h => (f σ h).bind itemsU) := by
  obtain ⟨t, pe, c⟩ := hf
  refine ⟨_, pi_itemsN pe (base_of hb) hl, fun σ' h σ H μ Rr re rh q => ?_⟩
  refine c σ' h σ H μ _ re rh (Post.bind q fun u h1 H1 μ1 x e1 rh1 ru p1 => ?_)
  obtain ⟨ps, ep, p1⟩ := Post.opt p1
  obtain ⟨a, od, vs, rfl, g1, g2⟩ := holdOf_of rh1 ru ep
  refine ⟨a, od, vs, rfl, g1, p1.ret rh1 ?_⟩
  intro H' μ' h' e rh' i
  obtain ⟨l1, l2⟩ := g2 H' μ' e
  have hd := e.frz _ _ _ g1
  refine ⟨fun q => ⟨hd, ?_⟩, fun u q => ?_⟩
  · have q' := Option.some.inj q
    rw [List.getElem?_map] at q'
    cases z : ps[i]? with
    | none => rw [← l1]; exact List.getElem?_eq_none_iff.mp z
    | some p => rw [z] at q'; cases q'
  · have q' := Option.some.inj q
    rw [List.getElem?_map] at q'
    cases z : ps[i]? with
    | none => rw [z] at q'; cases q'
    | some p =>
      rw [z] at q'
      cases q'
      obtain ⟨k, v, hv, r1, r2⟩ := l2 i p z
      refine ⟨⟨hd, (List.getElem?_eq_some_iff.mp hv).1⟩, fun x H'' y => ?_⟩
      obtain ⟨T, k', v', hk, rfl, hT, rfl⟩ := y
      rw [hv] at hk
      cases hk
      exact newpair rh' hT r1 r2
theorem deni_values {tg o : Expr} {apos cpos : Pos} {f : En → List O → R U} (hf : Den X W o f) (hb : isCall o = false) (hl : (apos.endLine == cpos.line) = true) :
    DenI X W tg (.Call (.Attribute o "values" apos) [] [] cpos) (fun σ h => (f σ h).bind valuesU) := by
  obtain ⟨t, pe, c⟩ := hf
  refine ⟨_, pi_values pe (base_of hb) hl, fun σ' h σ H μ Rr re rh q => ?_⟩
  refine c σ' h σ H μ _ re rh (Post.bind q fun u h1 H1 μ1 x e1 rh1 ru p1 => ?_)
  obtain ⟨ps, ep, p1⟩ := Post.opt p1
  obtain ⟨a, od, vs, rfl, g1, g2⟩ := holdOf_of rh1 ru ep
  refine ⟨a, od, vs, rfl, g1, p1.ret rh1 ?_⟩
  intro H' μ' h' e rh' i
  obtain ⟨l1, l2⟩ := g2 H' μ' e
  have hd := e.frz _ _ _ g1
  refine ⟨fun q => ⟨hd, ?_⟩, fun u q => ?_⟩
  · have q' := Option.some.inj q
    rw [List.getElem?_map] at q'
    cases z : ps[i]? with
    | none => rw [← l1]; exact List.getElem?_eq_none_iff.mp z
    | some p => rw [z] at q'; cases q'
  · have q' := Option.some.inj q
    rw [List.getElem?_map] at q'
    cases z : ps[i]? with
    | none => rw [z] at q'; cases q'
    | some p =>
      rw [z] at q'
      cases q'
      obtain ⟨k, v, hv, r1, r2⟩ := l2 i p z
      refine ⟨⟨hd, (List.getElem?_eq_some_iff.mp hv).1⟩, fun x H'' y => ?_⟩
      obtain ⟨rfl, k', hk⟩ := y
      rw [hv] at hk
      cases hk
      exact ⟨Ext.refl, rh', .d r2⟩
/-- the keys, of the dict itself -/
theorem deni_dkeys {tg o : Expr} {f : En → List O → R U} (hf : Den X W o f) : DenI X W tg o (fun σ h => (f σ h).bind keysU) := by
  obtain ⟨t, pe, c⟩ := hf
  refine ⟨_, pi_keys pe, fun σ' h σ H μ Rr re rh q => ?_⟩
  refine c σ' h σ H μ _ re rh (Post.bind q fun u h1 H1 μ1 x e1 rh1 ru p1 => ?_)
  obtain ⟨ps, ep, p1⟩ := Post.opt p1
  obtain ⟨a, od, vs, rfl, g1, g2⟩ := holdOf_of rh1 ru ep
  refine ⟨a, od, rfl, .inl ⟨vs, g1, p1.ret rh1 ?_⟩⟩
  intro H' μ' h' e rh' i
  obtain ⟨l1, l2⟩ := g2 H' μ' e
  have hd := e.frz _ _ _ g1
  refine ⟨fun q => ⟨hd, ?_⟩, fun u q => ?_⟩
  · have q' := Option.some.inj q
    rw [List.getElem?_map] at q'
    cases z : ps[i]? with
    | none => rw [← l1]; exact List.getElem?_eq_none_iff.mp z
    | some p => rw [z] at q'; cases q'
  · have q' := Option.some.inj q
    rw [List.getElem?_map] at q'
    cases z : ps[i]? with
    | none => rw [z] at q'; cases q'
    | some p =>
      rw [z] at q'
      cases q'
      obtain ⟨k, v, hv, r1, r2⟩ := l2 i p z
      refine ⟨⟨hd, (List.getElem?_eq_some_iff.mp hv).1⟩, fun x H'' y => ?_⟩
      obtain ⟨rfl, k', v', hk, rfl⟩ := y
      rw [hv] at hk
      cases hk
      exact ⟨Ext.refl, rh', .d r1⟩
theorem pi_or {tg e : Expr} {t u : TI} (h : PI X tg e t) (g : PI X tg e u) : PI X tg e (fun σ H R => t σ H R ∨ u σ H R) :=
  ⟨fun pins s σ H R I z => z.elim (h.run pins s σ H R I) (g.run pins s σ H R I)⟩
/-- a sequence, or the keys of a dict that is locked -/
def srcK (u : U) (h : List O) : R Src := if (holdOf u h).isSome = true then keysU u h else srcU u h
theorem deni_seqK {tg e : Expr} {f : En → List O → R U} (hf : Den X W e f) : DenI X W tg e (fun σ h => (f σ h).bind srcK) := by
  obtain ⟨w1, p1, c1⟩ := deni_dkeys (tg := tg) hf
  obtain ⟨w2, p2, c2⟩ := deni_seq (tg := tg) hf
  refine ⟨_, pi_or p1 p2, fun σ' h σ H μ Rr re rh q => ?_⟩
  have d : (f σ' h).bind srcK = (f σ' h).bind keysU ∨ (f σ' h).bind srcK = (f σ' h).bind srcU := by
    cases f σ' h with
    | ok u h' =>
      rw [R.bind_ok, R.bind_ok, R.bind_ok]
      unfold srcK
      split
      · exact .inl rfl
      · exact .inr rfl
    | err c h' => exact .inl rfl
    | bad => exact .inl rfl
  rcases d with d | d
  · exact .inl (c1 σ' h σ H μ Rr re rh (by dsimp only at q ⊢; rw [d] at q; exact q))
  · exact .inr (c2 σ' h σ H μ Rr re rh (by dsimp only at q ⊢; rw [d] at q; exact q))
@[simp] theorem srcK_d (d : D) (h : List O) : srcK (.d d) h = srcU (.d d) h := rfl
@[simp] theorem srcK_scr (xs : List Int) (h : List O) : srcK (.scr xs) h = srcU (.scr xs) h := rfl
end
end Py

/-! targets, list comprehensions -/
namespace Py
open PySem PySem.Spec PyProof.Rows L2
mutual
inductive Tg where
  | nm (i : Nat) | tup (ts : Tgs)
inductive Tgs where
  | nil | cons (t : Tg) (ts : Tgs)
end
mutual
def asg : Tg → U → En → Option En
  | .nm i, u, σ => some (σ.set i (some u))
  | .tup ts, u, σ => match u with
    | .d (.tuple ds) => asgs ts ds σ
    | .d (.list ds) => asgs ts ds σ
    | _ => none
def asgs : Tgs → List D → En → Option En
  | .nil, ds, σ => match ds with
    | [] => some σ
    | _ :: _ => none
  | .cons t ts, ds, σ => match ds with
    | [] => none
    | d :: ds => (asg t (.d d) σ).bind fun σ => asgs ts ds σ
end
mutual
def Tg.slots : Tg → List Nat
  | .nm i => [i]
  | .tup ts => ts.slots
def Tgs.slots : Tgs → List Nat
  | .nil => []
  | .cons t ts => t.slots ++ ts.slots
end
def DenG (X : Cx) (tg : Expr) (t : Tg) : Prop :=
  ∃ g, PG X tg g ∧ ∀ u x σ' σ1' σ H μ (Q : L2.St → Hp → Prop), RE X.K H μ σ' σ → RU X.K H μ u x → asg t u σ' = some σ1' →
    (∀ σ1, RE X.K H μ σ1' σ1 → (∀ vs : List Nat, (∀ i ∈ t.slots, i ∈ vs) → wipe σ1 vs = wipe σ vs) → Q σ1 H) → g x σ H Q
def DenGs (X : Cx) (tg : List Expr) (t : Tgs) : Prop :=
  ∃ g, PGs X tg g ∧ ∀ ds xs σ' σ1' σ H μ (Q : L2.St → Hp → Prop), RE X.K H μ σ' σ → RDs X.K H μ ds xs → asgs t ds σ' = some σ1' →
    (∀ σ1, RE X.K H μ σ1' σ1 → (∀ vs : List Nat, (∀ i ∈ t.slots, i ∈ vs) → wipe σ1 vs = wipe σ vs) → Q σ1 H) → g xs σ H Q
theorem wipe_set {σ : L2.St} {i : Nat} {x : Option V} : ∀ {vs : List Nat}, i ∈ vs → wipe (σ.set i x) vs = wipe σ vs
  | [], h => by cases h
  | v :: vs, h => by
    unfold wipe
    by_cases hm : i ∈ vs
    · rw [wipe_set hm]
    · have e : i = v := by
        rcases List.mem_cons.mp h with e | e
        · exact e
        · exact absurd e hm
      subst e
      have : ∀ ws : List Nat, i ∉ ws → wipe (σ.set i x) ws = (wipe σ ws).set i x := by
        intro ws
        induction ws with
        | nil => intro _; rfl
        | cons w ws ih =>
          intro hn
          have h1 : w ≠ i := fun e => hn (by rw [e]; exact List.mem_cons_self)
          have h2 : i ∉ ws := fun e => hn (List.mem_cons_of_mem _ e)
          show (wipe (σ.set i x) ws).set w none = ((wipe σ ws).set w none).set i x
          rw [ih h2, List.set_comm _ _ (Ne.symm h1)]
      rw [this vs hm, List.set_set]
section
variable {X : Cx} {W : WX}
theorem deng_nm {i : Nat} {x : Str} {pos : Pos} (hN : X.N.Nodup) (hi : X.N[i]? = some x) (hx : Loc X.env.scope x) (hf : X.fn x = true ∨ X.env.scope.names.lookup x = some .local) : DenG X (.Name x pos) (.nm i) := by
  refine ⟨_, pg_name hN hi hx hf, fun u x σ' σ1' σ H μ Q re ru e q => ?_⟩
  cases e
  exact q _ (re.set ru) fun vs hv => wipe_set (hv i (by simp [Tg.slots]))
theorem dengs_nil : DenGs X [] .nil := by
  refine ⟨_, pgs_nil, fun ds xs σ' σ1' σ H μ Q re rd e q => ?_⟩
  cases rd with
  | nil => cases e; exact ⟨rfl, q _ re fun _ _ => rfl⟩
  | cons _ _ => cases e
theorem assignEach_cons {e : Expr} {es : List Expr} {env : Env} (h : isStar e = false) : assignEach (e :: es) env = (false, assign e env) :: assignEach es env := by
  cases e <;> first | rfl | cases h
theorem dengs_cons {e : Expr} {es : List Expr} {t : Tg} {ts : Tgs} (h1 : DenG X e t) (h2 : DenGs X es ts) (hs : isStar e = false) : DenGs X (e :: es) (.cons t ts) := by
  obtain ⟨g, pg, cg⟩ := h1
  obtain ⟨gs, pgs, cgs⟩ := h2
  refine ⟨_, pgs_cons pg pgs (by rw [assignEach_cons hs]; rfl), fun ds xs σ' σ1' σ H μ Q re rd e q => ?_⟩
  cases rd with
  | nil => cases e
  | @cons d v ds vs hd r =>
    have e' : (asg t (.d d) σ').bind (fun σ => asgs ts ds σ) = some σ1' := e
    cases ea : asg t (.d d) σ' with
    | none => rw [ea] at e'; cases e'
    | some σ2' =>
      rw [ea] at e'
      have e2 : asgs ts ds σ2' = some σ1' := e'
      refine ⟨v, vs, rfl, cg (.d d) v σ' σ2' σ H μ _ re (.d hd) ea fun σ1 re1 k1 => ?_⟩
      refine cgs ds vs σ2' σ1' σ1 H μ Q re1 r e2 fun σ3 re3 k3 => q σ3 re3 fun vs hv => ?_
      rw [k3 vs fun i hi => hv i (by simp [Tgs.slots, hi]), k1 vs fun i hi => hv i (by simp [Tgs.slots, hi])]
def Tgs.len : Tgs → Nat
  | .nil => 0
  | .cons _ ts => ts.len + 1
theorem asgs_len : ∀ {ts : Tgs} {ds : List D} {σ σ1 : En}, asgs ts ds σ = some σ1 → ds.length = ts.len
  | .nil, [], _, _, _ => rfl
  | .nil, _ :: _, _, _, e => by cases e
  | .cons t ts, [], _, _, e => by cases e
  | .cons t ts, d :: ds, σ, σ1, e => by
    have e' : (asg t (.d d) σ).bind (fun σ => asgs ts ds σ) = some σ1 := e
    cases ea : asg t (.d d) σ with
    | none => rw [ea] at e'; cases e'
    | some σ2 =>
      rw [ea] at e'
      show ds.length + 1 = ts.len + 1
      rw [asgs_len (ts := ts) (show asgs ts ds σ2 = some σ1 from e')]
theorem noStar_assign {es : List Expr} (h : noStar es = true) (env : Env) : (assignEach es env).findIdx? (·.1) = none ∧ (assignEach es env).length = es.length := by
  induction es with
  | nil => exact ⟨rfl, rfl⟩
  | cons e es ih =>
    obtain ⟨h1, h2⟩ := noStar_cons h
    obtain ⟨i1, i2⟩ := ih h2
    rw [assignEach_cons h1]
    refine ⟨?_, by simp [i2]⟩
    rw [List.findIdx?_cons]
    simp [i1]
theorem deng_tup {es : List Expr} {k : Nat} {pos : Pos} {ts : Tgs} (hc : X.calm = true) (h : DenGs X es ts) (hs : noStar es = true) (hl : es.length = ts.len) : DenG X (.Tuple es k pos) (.tup ts) := by
  obtain ⟨g, pg, cg⟩ := h
  obtain ⟨n1, n2⟩ := noStar_assign hs X.env
  have both : PG X (.Tuple es k pos) (fun v σ H Q => gTup X.K es.length g v σ H Q ∨ gLst X.K es.length g v σ H Q) :=
    ⟨fun pins s σ H v u Q I r h => h.elim (fun h => (pg_tup (n := es.length) hc pg n2 n1).run pins s σ H v u Q I r h) (fun h => (pg_lst (n := es.length) hc pg n2 n1).run pins s σ H v u Q I r h)⟩
  refine ⟨_, both, fun u x σ' σ1' σ H μ Q re ru e q => ?_⟩
  unfold asg at e
  split at e
  · rename_i ds
    cases ru with
    | d rd => cases rd with
      | @tup a vs ds ha r =>
        refine .inl ⟨a, vs, rfl, ha.sq, ?_, cg ds vs σ' σ1' σ H μ Q re r e q⟩
        rw [hl, ← asgs_len e, r.length]
  · rename_i ds
    cases ru with
    | d rd => cases rd with
      | @lst a vs ds ha na r =>
        refine .inr ⟨a, vs, rfl, SqL.of ha, ?_, cg ds vs σ' σ1' σ H μ Q re r e q⟩
        rw [hl, ← asgs_len e, r.length]
  · cases e
end

/-! ### a value as it leaves the place where it was made -/
mutual
theorem RD.sub {K : PySem.W.Frag} {H : Hp} {μ ν : List Addr} (k : ∀ a ∈ ν, a ∈ μ) : ∀ {d : D} {v : V}, RD K H μ d v → RD K H ν d v
  | _, _, .non => .non
  | _, _, .bl b => .bl b
  | _, _, .int i => .int i
  | _, _, .str s h => .str s h
  | _, _, .tup h r => .tup (h.elim (fun z => .inl ⟨z.1, fun m => z.2 (k _ m)⟩) .inr) (RDs.sub k r)
  | _, _, .lst h n r => .lst h (fun m => n (k _ m)) (RDs.sub k r)
theorem RDs.sub {K : PySem.W.Frag} {H : Hp} {μ ν : List Addr} (k : ∀ a ∈ ν, a ∈ μ) : ∀ {d : List D} {v : List V}, RDs K H μ d v → RDs K H ν d v
  | _, _, .nil => .nil
  | _, _, .cons h r => .cons (RD.sub k h) (RDs.sub k r)
end
theorem mem_take {α : Type} {l : List α} {n : Nat} : ∀ a ∈ l.take n, a ∈ l := fun a h => List.mem_of_mem_take h
theorem RU.cut {K : PySem.W.Frag} {H : Hp} {μ : List Addr} {u : U} {x : V} {n m : Nat} (r : RU K H μ u x) (b : u.below m) (h : m ≤ n) : RU K H (μ.take n) u x := by
  cases r with
  | d r => exact .d (r.sub mem_take)
  | lab q => 
    have b' : _ < m := b
    exact .lab (by rw [List.getElem?_take_of_lt (by omega)]; exact q)
  | scr q => exact .scr (q.elim (fun ⟨o, z1, z2⟩ => .inl ⟨o, z1, fun m => z2 (mem_take _ m)⟩) .inr)
  | ty n => exact .ty n
  | gl x => exact .gl x
theorem RUs.cut {K : PySem.W.Frag} {H : Hp} {μ : List Addr} {us : List U} {xs : List V} {n m : Nat} (r : RUs K H μ us xs) (b : ∀ u ∈ us, u.below m) (h : m ≤ n) : RUs K H (μ.take n) us xs := by
  induction r with
  | nil => exact .nil
  | cons hx r ih => exact .cons (hx.cut (b _ List.mem_cons_self) h) (ih fun u hu => b u (List.mem_cons_of_mem _ hu))
theorem Rh.cut {K : PySem.W.Frag} {H : Hp} {μ : List Addr} {h : List O} (r : Rh K H μ h) (n : Nat) : Rh K H (μ.take n) (h.take n) := by
  refine ⟨by rw [List.length_take, List.length_take, r.len], List.Sublist.nodup (List.take_sublist _ _) r.nd, fun m o a h1 h2 => ?_⟩
  have hm : m < n := by
    have := (List.getElem?_eq_some_iff.mp h1).1
    rw [List.length_take] at this
    omega
  rw [List.getElem?_take_of_lt hm] at h1 h2
  obtain ⟨ho, q1, q2⟩ := r.obj m o a h1 h2
  refine ⟨ho, q1, ?_⟩
  cases q2 with
  | lst z => exact .lst (z.sub mem_take)
  | mix z b => exact .mix (z.cut b (Nat.le_of_lt hm)) b
  | dct z => exact .dct (Paired.mapP z fun _ _ q => ⟨q.1, q.2.sub mem_take⟩)
  | hold z => exact .hold (Paired.mapP z fun _ _ q => ⟨q.1, q.2.sub mem_take⟩)
theorem Ext.cut {μ μ' : List Addr} {H H' : Hp} (e : Ext μ H μ' H') {n : Nat} (h : μ.length ≤ n) : Ext μ H (μ'.take n) H' := by
  obtain ⟨r, rfl⟩ := e.pre
  refine ⟨⟨⟨r.take (n - μ.length), by rw [List.take_append, List.take_of_length_le h]⟩, fun a o q m => ?_⟩, e.frz⟩
  obtain ⟨h1, h2⟩ := e.keep a o q m
  exact ⟨h1, fun z => h2 (mem_take _ z)⟩
def settle (n : Nat) (u : U) (h : List O) : Option D := match u with
  | .d d => some d
  | .lab m => if n ≤ m then (match h[m]? with
    | some (.lst xs) => some (.list xs)
    | _ => none) else none
  | _ => none
theorem nodup_take {μ : List Addr} (nd : μ.Nodup) {n m : Nat} {a : Addr} (h : μ[m]? = some a) (hm : n ≤ m) : a ∉ μ.take n := by
  intro z
  obtain ⟨i, hi, e⟩ := List.getElem_of_mem z
  have h1 : (μ.take n)[i]? = some a := by rw [List.getElem?_eq_getElem hi, e]
  have hin : i < n := by rw [List.length_take] at hi; omega
  rw [List.getElem?_take_of_lt hin] at h1
  have := nodup_at nd h1 h
  omega
theorem settle_ok {K : PySem.W.Frag} {H : Hp} {μ : List Addr} {h : List O} {u : U} {x : V} {n : Nat} {d : D} (rh : Rh K H μ h) (r : RU K H μ u x) (e : settle n u h = some d) : RD K H (μ.take n) d x := by
  cases r with
  | d r => cases e; exact r.sub mem_take
  | ty n => cases e
  | gl x => cases e
  | scr q => cases e
  | @lab m a q =>
    unfold settle at e
    dsimp only at e
    split at e
    · rename_i hm
      split at e
      · rename_i xs z
        cases e
        obtain ⟨ho, q1, q2⟩ := rh.obj m _ a z q
        cases q2 with
        | lst y => exact .lst q1 (nodup_take rh.nd q hm) (y.sub mem_take)
      · cases e
    · cases e
/-! ### what stands for all contexts -/
def tE (K : PySem.W.Frag) (W : WX) (f : En → List O → R U) : TE := fun σ H Q => ∃ σ' h μ, RE K H μ σ' σ ∧ Rh K H μ h ∧ Post K W σ H μ (RU K) (f σ' h) Q
def tT (K : PySem.W.Frag) (W : WX) (f : En → List O → R Bool) : TT := fun σ H Q => ∃ σ' h μ, RE K H μ σ' σ ∧ Rh K H μ h ∧ Post K W σ H μ relB (f σ' h) Q
def tG (K : PySem.W.Frag) (t : Tg) : TG := fun x σ H Q => ∃ u σ' σ1' μ, RE K H μ σ' σ ∧ RU K H μ u x ∧ asg t u σ' = some σ1' ∧
  (∀ σ1, RE K H μ σ1' σ1 → (∀ vs : List Nat, (∀ i ∈ t.slots, i ∈ vs) → wipe σ1 vs = wipe σ vs) → Q σ1 H)
section
variable {X : Cx} {W : WX}
theorem Den.pe {e : Expr} {f : En → List O → R U} (h : Den X W e f) : PE X e (tE X.K W f) := by
  obtain ⟨t, p, c⟩ := h
  exact ⟨fun pins s σ H Q I ⟨σ', h, μ, re, rh, q⟩ => p.run pins s σ H Q I (c σ' h σ H μ Q re rh q)⟩
theorem DenT.pt {e : Expr} {f : En → List O → R Bool} (h : DenT X W e f) : PT X e (tT X.K W f) := by
  obtain ⟨t, p, c⟩ := h
  exact ⟨fun pins s σ H Q I ⟨σ', h, μ, re, rh, q⟩ => p.run pins s σ H Q I (c σ' h σ H μ Q re rh q)⟩
theorem DenG.pg {e : Expr} {t : Tg} (h : DenG X e t) : PG X e (tG X.K t) := by
  obtain ⟨g, p, c⟩ := h
  exact ⟨fun pins s σ H v u Q I r ⟨u', σ', σ1', μ, re, ru, e, q⟩ => p.run pins s σ H v u Q I r (c u' v σ' σ1' σ H μ Q re ru e q)⟩
def DenTs (X : Cx) (W : WX) (ifs : List Expr) (f : En → List O → R Bool) : Prop := PTs X ifs (tT X.K W f)
theorem dents_nil : DenTs X W [] (fun _ h => .ok true h) := ⟨fun pins s σ H Q I ⟨σ', h, μ, re, rh, q⟩ => pts_nil.run pins s σ H Q I (q.ret rh rfl)⟩
theorem dents_one {c : Expr} {f : En → List O → R Bool} (h : DenT X W c f) : DenTs X W [c] f := pts_one h.pt
end
/-! ### list comprehensions -/
def noErr {α : Type} (r : R α) : R α := match r with
  | .err _ _ => .bad
  | .ok a h => .ok a h
  | .bad => .bad
@[simp] theorem noErr_ok {α : Type} (a : α) (h : List O) : noErr (.ok a h) = .ok a h := rfl
@[simp] theorem noErr_bad {α : Type} : noErr (.bad : R α) = .bad := rfl
abbrev W0 : WX := fun _ _ _ _ => False
theorem Post.inner {α β γ δ : Type} {K : PySem.W.Frag} {W : WX} {σ σ2 : L2.St} {H H0 : Hp} {μ μ0 : List Addr} {Rel : Hp → List Addr → α → β → Prop} {Rel2 : Hp → List Addr → γ → δ → Prop} {r : R α} {Q : β → Hp → Prop} {Q2 : δ → Hp → Prop} {f : α → List O → R γ}
    (p : Post K W σ H0 μ0 Rel2 ((noErr r).bind f) Q2) (k : ∀ a h' H' μ' b, Ext μ H μ' H' → Rh K H' μ' h' → Rel H' μ' a b → Post K W σ H0 μ0 Rel2 (f a h') Q2 → Q b H') : Post K W0 σ2 H μ Rel r Q := by
  cases r with
  | ok a h => exact fun H' μ' b e rh rel => k a h H' μ' b e rh rel p
  | err c h => exact p.elim
  | bad => exact p.elim
def wipeE (σ : En) : List Nat → En
  | [] => σ
  | v :: vs => (wipeE σ vs).set v none
theorem wipeE_length (σ : En) : ∀ vs : List Nat, (wipeE σ vs).length = σ.length
  | [] => rfl
  | v :: vs => by unfold wipeE; rw [List.length_set, wipeE_length σ vs]
theorem wipeE_some {σ : En} {i : Nat} {x : U} : ∀ {vs : List Nat}, (wipeE σ vs)[i]? = some (some x) → σ[i]? = some (some x) ∧ i ∉ vs
  | [], h => ⟨h, by simp⟩
  | v :: vs, h => by
    unfold wipeE at h
    by_cases e : v = i
    · subst e
      by_cases hv : v < (wipeE σ vs).length
      · rw [List.getElem?_set_self hv] at h; cases h
      · rw [List.getElem?_eq_none (by simpa using hv)] at h; cases h
    · rw [List.getElem?_set_ne e] at h
      obtain ⟨h1, h2⟩ := wipeE_some h
      exact ⟨h1, by simp only [List.mem_cons, not_or]; exact ⟨fun z => e z.symm, h2⟩⟩
theorem RE.wipe {K : PySem.W.Frag} {H : Hp} {μ : List Addr} {σ' : En} {σ : L2.St} (h : RE K H μ σ' σ) (vs : List Nat) : RE K H μ (wipeE σ' vs) (wipe σ vs) := by
  refine ⟨by rw [wipeE_length, wipe_length, h.1], fun i u q => ?_⟩
  obtain ⟨q1, q2⟩ := wipeE_some q
  obtain ⟨v, h1, h2⟩ := h.2 i u q1
  exact ⟨v, by rw [wipe_out q2]; exact h1, h2⟩
theorem wipe_idem (σ : L2.St) (vs : List Nat) : wipe (wipe σ vs) vs = wipe σ vs := by
  apply List.ext_getElem?
  intro i
  by_cases h : i ∈ vs
  · have key : ∀ (τ : L2.St), (wipe τ vs)[i]? = if i < τ.length then some none else none := by
      intro τ
      induction vs with
      | nil => cases h
      | cons v vs ih =>
        show ((wipe τ vs).set v none)[i]? = _
        by_cases e : v = i
        · subst e
          by_cases hl : v < τ.length
          · rw [if_pos hl, List.getElem?_set_self (by rw [wipe_length]; exact hl)]
          · rw [if_neg hl, List.getElem?_eq_none (by rw [List.length_set, wipe_length]; omega)]
        · rw [List.getElem?_set_ne e]
          have hm : i ∈ vs := by
            rcases List.mem_cons.mp h with z | z
            · exact absurd z.symm e
            · exact z
          exact ih hm
    rw [key, key, wipe_length]
  · rw [wipe_out h]
def pushAcc (a0 : Nat) (u : U) (h : List O) : R Unit := match settle (a0 + 1) u h, h[a0]? with
  | some d, some (.lst acc) => if acc.length < 10000000 then .ok () ((h.take (a0 + 1)).set a0 (.lst (acc ++ [d]))) else .bad
  | _, _ => .bad
def lcGo (S : Src) (t : Tg) (vs : List Nat) (ft : En → List O → R Bool) (fe : En → List O → R U) (a0 : Nat) : Nat → Nat → En → List O → R Unit
  | 0, _, _, _ => .bad
  | k + 1, i, σ, h => match S.at_ i h with
    | none => .bad
    | some none => .ok () h
    | some (some u) => match asg t u (wipeE σ vs) with
      | none => .bad
      | some σ1 => (noErr (ft σ1 h)).bind fun b h1 => if b = true then (noErr (fe σ1 h1)).bind fun y h2 => (pushAcc a0 y h2).bind fun _ h3 => lcGo S t vs ft fe a0 k (i + 1) σ h3 else lcGo S t vs ft fe a0 k (i + 1) σ h1
def lcFin (m : Bool) (a0 : Nat) (h : List O) : R U := match h[a0]? with
  | some (.lst ys) => if m = true then .ok (.lab a0) (h.take (a0 + 1)) else .ok (.d (.list ys)) (h.take a0)
  | _ => .bad
def evLc (m : Bool) (t : Tg) (vs : List Nat) (fi : En → List O → R Src) (ft : En → List O → R Bool) (fe : En → List O → R U) : En → List O → R U := fun σ h =>
  (fi σ h).bind fun S h1 => (lcGo S t vs ft fe h1.length S.top 0 σ (h1 ++ [.lst []])).bind fun _ h2 => lcFin m h1.length h2

def isSetD : Expr → Bool
  | .Set _ _ _ => true
  | _ => false
theorem noFold {e : Expr} {env : Env} (h : isSetD e = false) (x : Value) : foldedSetIterable e env x = pure x := by
  cases e <;> first | rfl | cases h
section
variable {X : Cx} {W : WX}
theorem at_acc {K : PySem.W.Frag} {H H1 : Hp} {μ μ1 : List Addr} {h h1 : List O} {Da : Addr} (e : Ext (μ1 ++ [Da]) H1 μ H) (rh : Rh K H μ h) (hl : h1.length = μ1.length) {ys : List D} (q : h[h1.length]? = some (.lst ys)) :
    μ[h1.length]? = some Da ∧ ∃ vs, H Da = some (.lst vs) ∧ RDs K H μ ys vs := by
  have hm : μ[h1.length]? = some Da := by
    refine e.get ?_
    rw [hl]
    simp
  refine ⟨hm, ?_⟩
  obtain ⟨ho, q1, q2⟩ := rh.obj _ _ _ q hm
  cases q2 with
  | lst r => exact ⟨_, q1, r⟩
theorem lcFin_of {K : PySem.W.Frag} {σ : L2.St} {H H1 H0 : Hp} {μ μ1 : List Addr} {h h1 : List O} {Da : Addr} {m : Bool} {Q : VK} (e0 : Ext μ1 H0 (μ1 ++ [Da]) H1) (e : Ext (μ1 ++ [Da]) H1 μ H) (rh : Rh K H μ h) (hl : h1.length = μ1.length) (p : Post K W σ H0 μ1 (RU K) (lcFin m h1.length h) Q) : Q (.ref Da) H := by
  unfold lcFin at p
  split at p
  · rename_i ys q
    obtain ⟨hm, vs, q1, q2⟩ := at_acc e rh hl q
    cases m with
    | true =>
      rw [if_pos rfl] at p
      refine p H (μ.take (h1.length + 1)) _ ((e0.trans e).cut (by omega)) (rh.cut _) (.lab ?_)
      rw [List.getElem?_take_of_lt (by omega)]
      exact hm
    | false =>
      rw [if_neg Bool.false_ne_true] at p
      exact p H (μ.take h1.length) _ ((e0.trans e).cut (by omega)) (rh.cut _) (.d (.lst q1 (nodup_take rh.nd hm (Nat.le_refl _)) (q2.sub mem_take)))
  · exact p.elim
theorem pushAcc_of {K : PySem.W.Frag} {σ : L2.St} {H H1 Hb : Hp} {μ μ1 μb : List Addr} {h h1 : List O} {Da : Addr} {u : U} {y : V} {f : Unit → List O → R U} {Q2 : VK} {G : Hp → Prop} (e : Ext (μ1 ++ [Da]) H1 μ H) (rh : Rh K H μ h) (hl : h1.length = μ1.length) (ru : RU K H μ u y)
    (p : Post K W σ Hb μb (RU K) ((pushAcc h1.length u h).bind f) Q2)
    (k : ∀ acc h', H Da = some (.lst acc) → acc.length < sizeLine → Ext (μ1 ++ [Da]) H1 (μ.take (h1.length + 1)) (upd H Da (.lst (acc ++ [y]))) → Rh K (upd H Da (.lst (acc ++ [y]))) (μ.take (h1.length + 1)) h' → h1.length < h'.length → Post K W σ Hb μb (RU K) (f () h') Q2 → G (upd H Da (.lst (acc ++ [y])))) :
    ∃ acc, H Da = some (.lst acc) ∧ acc.length < sizeLine ∧ G (upd H Da (.lst (acc ++ [y]))) := by
  unfold pushAcc at p
  split at p
  · rename_i d acc ed q
    split at p
    · rename_i hsz
      obtain ⟨hm, vs, q1, q2⟩ := at_acc e rh hl q
      have hz : vs.length < sizeLine := by rw [← q2.length, line_eq]; omega
      have rd := settle_ok rh ru ed
      have hmt : (μ.take (h1.length + 1))[h1.length]? = some Da := by rw [List.getElem?_take_of_lt (by omega)]; exact hm
      have hlt : h1.length < h.length := (List.getElem?_eq_some_iff.mp q).1
      refine ⟨vs, q1, hz, k vs _ q1 hz ?_ ((rh.cut _).chg hmt (.lst ((q2.sub mem_take).append (.cons rd .nil)))) (by rw [List.length_set, List.length_take]; omega) p⟩
      have ec : Ext (μ1 ++ [Da]) H1 (μ.take (h1.length + 1)) H := e.cut (by simp [hl])
      exact ec.trans (Ext.chg hmt q1)
    · exact p.elim
  · exact p.elim
theorem lc_body {m : Bool} {t : Tg} {wi : TI} {fi : En → List O → R Src} {ft : En → List O → R Bool} {fe : En → List O → R U} {own : List (Str × Nat)} (ci : ∀ σ' h σ H μ Rr, RE X.K H μ σ' σ → Rh X.K H μ h → Post X.K W σ H μ (SrR X.K) (fi σ' h) Rr → wi σ H Rr) (hsl : ∀ i ∈ t.slots, i ∈ own.map (·.2)) :
    ∀ σ' h σ H μ Q, RE X.K H μ σ' σ → Rh X.K H μ h → Post X.K W σ H μ (RU X.K) (evLc m t (own.map (·.2)) fi ft fe σ' h) Q → tLc wi (tG X.K t) (tT X.K W0 ft) (tE X.K W0 fe) (own.map (·.2)) σ H Q := by
  intro σ' h σ H μ Q re rh p
  refine ci σ' h σ H μ _ re rh (Post.bind p fun S h1 H1 μ1 J e1 rh1 sr p1 => ?_)
  intro Da hD
  have e0 : Ext μ1 H1 (μ1 ++ [Da]) (upd H1 Da (.lst [])) := Ext.lab hD
  have hl := rh1.len
  refine ⟨fun i k Hx => ∃ μ' h', Ext (μ1 ++ [Da]) (upd H1 Da (.lst [])) μ' Hx ∧ Rh X.K Hx μ' h' ∧
      Post X.K W σ H1 μ1 (RU X.K) ((lcGo S t (own.map (·.2)) ft fe h1.length k i σ' h').bind fun _ h2 => lcFin m h1.length h2) Q,
    ⟨S.top, μ1 ++ [Da], h1 ++ [.lst []], Ext.refl, rh1.lab hD (.lst .nil), p1⟩, ?_⟩
  rintro i k Hx ⟨μ', h', ex, rhx, px⟩
  cases k with
  | zero => exact px.elim
  | succ k =>
    unfold lcGo at px
    obtain ⟨sr1, sr2⟩ := sr Hx μ' h' (e0.trans ex) rhx i
    cases hat : S.at_ i h' with
    | none => simp only [hat] at px; exact px.elim
    | some o =>
      cases o with
      | none =>
        simp only [hat] at px
        exact .inl ⟨sr1 hat, lcFin_of e0 ex rhx hl px⟩
      | some u =>
        simp only [hat] at px
        obtain ⟨go, yl⟩ := sr2 u hat
        refine .inr ⟨go, fun Hz => ∃ μ' h', Ext (μ1 ++ [Da]) (upd H1 Da (.lst [])) μ' Hz ∧ Rh X.K Hz μ' h' ∧
          Post X.K W σ H1 μ1 (RU X.K) ((lcGo S t (own.map (·.2)) ft fe h1.length k (i + 1) σ' h').bind fun _ h2 => lcFin m h1.length h2) Q, fun Hz z => ⟨k, Nat.lt_succ_self k, z⟩, fun x Hy y => ?_⟩
        obtain ⟨ey, rhy, ruy⟩ := yl x Hy y
        cases ea : asg t u (wipeE σ' (own.map (·.2))) with
        | none => simp only [ea] at px; exact px.elim
        | some σ1' =>
          simp only [ea] at px
          have re' : RE X.K Hy μ' σ' σ := ((re.ext e1).ext (e0.trans ex)).ext ey
          refine ⟨u, wipeE σ' (own.map (·.2)), σ1', μ', re'.wipe _, ruy, ea, fun σ1 re1 k1 => ⟨?_, σ1', h', μ', re1, rhy, ?_⟩⟩
          · rw [k1 _ hsl, wipe_idem]
          · have px2 : Post X.K W σ H1 μ1 (RU X.K) ((noErr (ft σ1' h')).bind fun b h1' => (if b = true then (noErr (fe σ1' h1')).bind fun y h2 => (pushAcc h1.length y h2).bind fun _ h3 => lcGo S t (own.map (·.2)) ft fe h1.length k (i + 1) σ' h3 else lcGo S t (own.map (·.2)) ft fe h1.length k (i + 1) σ' h1').bind fun _ h2 => lcFin m h1.length h2) Q := by
              cases hft : ft σ1' h' with
              | ok b h1' => rw [hft] at px; exact px
              | err c h1' => rw [hft] at px; exact px
              | bad => rw [hft] at px; exact px
            refine Post.inner px2 fun b h3 H3 μ3 b' e3 rh3 rb p3 => ?_
            cases rb
            have ex3 := (ex.trans ey).trans e3
            cases b with
            | false =>
              rw [if_neg Bool.false_ne_true] at p3 ⊢
              exact ⟨μ3, h3, ex3, rh3, p3⟩
            | true =>
              rw [if_pos rfl] at p3 ⊢
              refine ⟨σ1', h3, μ3, re1.ext e3, rh3, ?_⟩
              have p4 : Post X.K W σ H1 μ1 (RU X.K) ((noErr (fe σ1' h3)).bind fun y h2 => (pushAcc h1.length y h2).bind fun _ h3 => (lcGo S t (own.map (·.2)) ft fe h1.length k (i + 1) σ' h3).bind fun _ h2 => lcFin m h1.length h2) Q := by
                cases hfe : fe σ1' h3 with
                | ok b h1' =>
                  rw [hfe] at p3
                  have p3' : Post X.K W σ H1 μ1 (RU X.K) (((pushAcc h1.length b h1').bind fun _ h3 => lcGo S t (own.map (·.2)) ft fe h1.length k (i + 1) σ' h3).bind fun _ h2 => lcFin m h1.length h2) Q := p3
                  show Post X.K W σ H1 μ1 (RU X.K) ((pushAcc h1.length b h1').bind fun _ h3 => (lcGo S t (own.map (·.2)) ft fe h1.length k (i + 1) σ' h3).bind fun _ h2 => lcFin m h1.length h2) Q
                  cases hpa : pushAcc h1.length b h1' with
                  | ok b h1' => rw [hpa] at p3'; exact p3'
                  | err c h1' => rw [hpa] at p3'; exact p3'
                  | bad => rw [hpa] at p3'; exact p3'
                | err c h1' => rw [hfe] at p3; exact p3
                | bad => rw [hfe] at p3; exact p3
              refine Post.inner p4 fun y h5 H5 μ5 yv e5 rh5 ry p5 => ?_
              exact pushAcc_of (G := fun Hz => ∃ μ' h', Ext (μ1 ++ [Da]) (upd H1 Da (.lst [])) μ' Hz ∧ Rh X.K Hz μ' h' ∧
                Post X.K W σ H1 μ1 (RU X.K) ((lcGo S t (own.map (·.2)) ft fe h1.length k (i + 1) σ' h').bind fun _ h2 => lcFin m h1.length h2) Q) (ex3.trans e5) rh5 hl ry p5 fun acc h6 q1 q2 e6 rh6 _ p6 => ⟨_, h6, e6, rh6, p6⟩
theorem den_lc {m : Bool} {elt tg iter : Expr} {ifs : List Expr} {scope : Scope} {own : List (Str × Nat)} {pos : Pos} {t : Tg} {vs : List Nat} {fi : En → List O → R Src} {ft : En → List O → R Bool} {fe : En → List O → R U} (hc : X.calm = true) (hN : X.N.Nodup) (hi : DenI X W tg iter fi) (ok : BlkOk X.N X.env.scope scope own)
    (hg : ∀ (s : Shared) (H : Hp) (C : Addr) (cl : List (Str × Addr)) (fp : List Addr), DenG (X.blk s H scope (compEnvC scope cl C X.env) fp) tg t)
    (ht : ∀ (s : Shared) (H : Hp) (C : Addr) (cl : List (Str × Addr)) (fp : List Addr), DenTs (X.blk s H scope (compEnvC scope cl C X.env) fp) W0 ifs ft)
    (he : ∀ (s : Shared) (H : Hp) (C : Addr) (cl : List (Str × Addr)) (fp : List Addr), Den (X.blk s H scope (compEnvC scope cl C X.env) fp) W0 elt fe)
    (hv : own.map (·.2) = vs) (hsl : ∀ i ∈ t.slots, i ∈ vs) (hs : isSetD iter = false) : Den X W (.ListComp elt [⟨tg, iter, ifs, 0⟩] scope pos) (evLc m t vs fi ft fe) := by
  obtain ⟨wi, pi, ci⟩ := hi
  subst hv
  exact ⟨_, pe_lc (g := tG X.K t) (tt := tT X.K W0 ft) (te := tE X.K W0 fe) hc hN pi ok (fun s H C cl fp => (hg s H C cl fp).pg) ht (fun s H C cl fp => (he s H C cl fp).pe) (noFold hs), lc_body ci hsl⟩
end
end Py

/-! statements -/
namespace Py
open PySem PySem.Spec PyProof.Rows L2
/-- how a statement ends -/
inductive Fl where
  | nx (σ : En) (h : List O) | ret (u : U) (h : List O) | bk (σ : En) (h : List O) | ct (σ : En) (h : List O) | er (c : Str) (σ : En) (h : List O) | bad
def R.stm {α : Type} (r : R α) (σ : En) (f : α → List O → Fl) : Fl := match r with
  | .ok a h => f a h
  | .err c h => .er c σ h
  | .bad => .bad
@[simp] theorem R.stm_ok {α : Type} (a : α) (h : List O) (σ : En) (f : α → List O → Fl) : (R.ok a h).stm σ f = f a h := rfl
@[simp] theorem R.stm_err {α : Type} (c : Str) (h : List O) (σ : En) (f : α → List O → Fl) : (R.err c h : R α).stm σ f = .er c σ h := rfl
@[simp] theorem R.stm_bad {α : Type} (σ : En) (f : α → List O → Fl) : (R.bad : R α).stm σ f = .bad := rfl
def PostS (K : PySem.W.Frag) (W : WX) (H : Hp) (μ : List Addr) (r : Fl) (D : Ends) : Prop := match r with
  | .nx σ' h' => ∀ σ H' μ', Ext μ H μ' H' → Rh K H' μ' h' → RE K H' μ' σ' σ → D.nx σ H'
  | .bk σ' h' => ∀ σ H' μ', Ext μ H μ' H' → Rh K H' μ' h' → RE K H' μ' σ' σ → D.bk σ H'
  | .ct σ' h' => ∀ σ H' μ', Ext μ H μ' H' → Rh K H' μ' h' → RE K H' μ' σ' σ → D.ct σ H'
  | .ret u h' => ∀ v H' μ', Ext μ H μ' H' → Rh K H' μ' h' → RU K H' μ' u v → D.rt v H'
  | .er c σ' h' => ∀ σ H' μ', Ext μ H μ' H' → Rh K H' μ' h' → RE K H' μ' σ' σ → W (.ref (He.ga K c)) none σ H'
  | .bad => False
section
variable {K : PySem.W.Frag} {W : WX} {σ : L2.St} {σ' : En} {H H' : Hp} {μ μ' : List Addr} {r : Fl} {D : Ends}
theorem PostS.at (p : PostS K W H μ r D) (e : Ext μ H μ' H') : PostS K W H' μ' r D := by
  cases r with
  | nx s h => exact fun σ H2 μ2 e2 => p σ H2 μ2 (e.trans e2)
  | bk s h => exact fun σ H2 μ2 e2 => p σ H2 μ2 (e.trans e2)
  | ct s h => exact fun σ H2 μ2 e2 => p σ H2 μ2 (e.trans e2)
  | ret u h => exact fun σ H2 μ2 e2 => p σ H2 μ2 (e.trans e2)
  | er c s h => exact fun σ H2 μ2 e2 => p σ H2 μ2 (e.trans e2)
  | bad => exact p
theorem PostS.nx {h : List O} (p : PostS K W H μ (.nx σ' h) D) (rh : Rh K H μ h) (re : RE K H μ σ' σ) : D.nx σ H := p σ H μ Ext.refl rh re
theorem PostS.stm {α β : Type} {Rel : Hp → List Addr → α → β → Prop} {x : R α} {f : α → List O → Fl} {Q : β → Hp → Prop} (re : RE K H μ σ' σ) (p : PostS K W H μ (x.stm σ' f) D)
    (k : ∀ a h' H' μ' b, Ext μ H μ' H' → Rh K H' μ' h' → Rel H' μ' a b → PostS K W H' μ' (f a h') D → Q b H') : Post K W σ H μ Rel x Q := by
  cases x with
  | ok a h => exact fun H' μ' b e rh rel => k a h H' μ' b e rh rel (PostS.at p e)
  | err c h => exact fun H' μ' e rh => p σ H' μ' e rh (re.ext e)
  | bad => exact p
end
def tS (K : PySem.W.Frag) (W : WX) (f : En → List O → Fl) : TS := fun D σ H => ∃ σ' h μ, RE K H μ σ' σ ∧ Rh K H μ h ∧ PostS K W H μ (f σ' h) D
def DenS (X : Cx) (W : WX) (st : Stmt) (f : En → List O → Fl) : Prop := PS X st (tS X.K W f)
def DenB (X : Cx) (W : WX) (st : List Stmt) (f : En → List O → Fl) : Prop := PSs X st (tS X.K W f)
theorem dens_of {X : Cx} {W : WX} {st : Stmt} {f : En → List O → Fl} {t : TS} (p : PS X st t) (c : ∀ σ' h σ H μ D, RE X.K H μ σ' σ → Rh X.K H μ h → PostS X.K W H μ (f σ' h) D → t D σ H) : DenS X W st f :=
  ⟨fun pins s σ H D I ⟨σ', h, μ, re, rh, q⟩ => p.run pins s σ H D I (c σ' h σ H μ D re rh q)⟩
section
variable {X : Cx} {W : WX}
def sNx : En → List O → Fl := fun σ h => .nx σ h
theorem denb_nil : DenB X W [] sNx := ⟨fun pins s σ H D I ⟨σ', h, μ, re, rh, q⟩ => pss_nil.run pins s σ H D I (q.nx rh re)⟩
def sSeq (f g : En → List O → Fl) : En → List O → Fl := fun σ h => match f σ h with
  | .nx σ h => g σ h
  | r => r
theorem denb_cons {st : Stmt} {rest : List Stmt} {f g : En → List O → Fl} (h1 : DenS X W st f) (h2 : DenB X W rest g) : DenB X W (st :: rest) (sSeq f g) := by
  refine ⟨fun pins s σ H D I ⟨σ', h, μ, re, rh, q⟩ => (pss_cons h1 h2).run pins s σ H D I ⟨σ', h, μ, re, rh, ?_⟩⟩
  unfold sSeq at q
  cases hf : f σ' h with
  | nx s1 h1 => simp only [hf] at q; exact fun σ H2 μ2 e rh2 re2 => ⟨s1, h1, μ2, re2, rh2, q.at e⟩
  | bk s1 h1 => simp only [hf] at q; exact q
  | ct s1 h1 => simp only [hf] at q; exact q
  | ret s1 h1 => simp only [hf] at q; exact q
  | er c s1 h1 => simp only [hf] at q; exact q
  | bad => simp only [hf] at q; exact q
theorem denb_one {st : Stmt} {f : En → List O → Fl} (h1 : DenS X W st f) : DenB X W [st] f := pss_one h1
theorem dens_pass {pos : Pos} : DenS X W (.Pass pos) sNx := dens_of ps_pass fun σ' h σ H μ D re rh p => p.nx rh re
def sBk : En → List O → Fl := fun σ h => .bk σ h
def sCt : En → List O → Fl := fun σ h => .ct σ h
theorem dens_break {pos : Pos} : DenS X W (.Break pos) sBk := dens_of ps_break fun σ' h σ H μ D re rh p => p σ H μ Ext.refl rh re
theorem dens_cont {pos : Pos} : DenS X W (.Continue pos) sCt := dens_of ps_continue fun σ' h σ H μ D re rh p => p σ H μ Ext.refl rh re
def isCmp : Expr → Bool
  | .ListComp _ _ _ _ => true
  | .SetComp _ _ _ _ => true
  | .DictComp _ _ _ _ _ => true
  | _ => false
theorem noSwap {e : Expr} {tg : Option Expr} {l : Nat} {env : Env} (h : isCmp e = false) : swapsWith e tg l env = pure false := by
  cases e <;> first | rfl | cases h
theorem noSwap1 {e tg : Expr} {l : Nat} {env : Env} (h : isCmp e = false) : swapsWithSole [tg] e l env = pure false := by
  unfold swapsWithSole
  exact noSwap h
def sDrop (f : En → List O → R U) : En → List O → Fl := fun σ h => (f σ h).stm σ fun _ h => .nx σ h
theorem dens_expr {e : Expr} {pos : Pos} {f : En → List O → R U} (hf : Den X W e f) (hs : isCmp e = false) : DenS X W (.Expr e pos) (sDrop f) := by
  obtain ⟨t, p, c⟩ := hf
  refine dens_of (ps_expr p (noSwap hs)) fun σ' h σ H μ D re rh p => ?_
  exact c σ' h σ H μ _ re rh (PostS.stm re p fun a h1 H1 μ1 b e1 rh1 rel p1 => p1.nx rh1 (re.ext e1))
def sRet (f : En → List O → R U) : En → List O → Fl := fun σ h => (f σ h).stm σ fun u h => .ret u h
theorem dens_ret {e : Expr} {pos : Pos} {f : En → List O → R U} (hf : Den X W e f) : DenS X W (.Return (some e) pos) (sRet f) := by
  obtain ⟨t, p, c⟩ := hf
  refine dens_of (ps_ret p) fun σ' h σ H μ D re rh p => ?_
  exact c σ' h σ H μ _ re rh (PostS.stm re p fun a h1 H1 μ1 b e1 rh1 rel p1 => p1 b H1 μ1 Ext.refl rh1 rel)
def sRetN : En → List O → Fl := fun σ h => .ret (.d .none) h
theorem dens_retN {pos : Pos} : DenS X W (.Return none pos) sRetN := dens_of ps_retN fun σ' h σ H μ D re rh p => p .non H μ Ext.refl rh (.d .non)
/-! ### assignment -/
def sAsg (f : En → List O → R U) (t : Tg) : En → List O → Fl := fun σ h => (f σ h).stm σ fun u h => match asg t u σ with
  | some σ1 => .nx σ1 h
  | none => .bad
theorem asg_of {t : Tg} {u : U} {x : V} {g : TG} {σ' : En} {h : List O} {σ : L2.St} {H : Hp} {μ : List Addr} {D : Ends} {tg : Expr} (hg : DenG X tg t) (re : RE X.K H μ σ' σ) (rh : Rh X.K H μ h) (ru : RU X.K H μ u x)
    (p : PostS X.K W H μ (match asg t u σ' with | some σ1 => Fl.nx σ1 h | none => .bad) D) : tG X.K t x σ H D.nx := by
  cases e : asg t u σ' with
  | none => simp only [e] at p; exact p.elim
  | some σ1' =>
    simp only [e] at p
    exact ⟨u, σ', σ1', μ, re, ru, e, fun σ1 re1 _ => p.nx rh re1⟩
theorem dens_set {i : Nat} {x : Str} {e : Expr} {pos pos' : Pos} {f : En → List O → R U} (hN : X.N.Nodup) (hi : X.N[i]? = some x) (hx : Loc X.env.scope x) (hf : X.fn x = true ∨ X.env.scope.names.lookup x = some .local) (he : Den X W e f)
    (hs : swapsWith e (some (.Name x pos')) pos.line X.env = pure false) : DenS X W (.Assign [.Name x pos'] e pos) (sAsg f (.nm i)) := by
  obtain ⟨t, p, c⟩ := he
  refine dens_of (ps_set hN hi hx p hs hf) fun σ' h σ H μ D re rh p => ?_
  exact c σ' h σ H μ _ re rh (PostS.stm re p fun a h1 H1 μ1 b e1 rh1 rel p1 => p1.nx rh1 ((re.ext e1).set rel))
/-- a target that is a tuple, a value that is taken apart -/
theorem dens_tup {tg e : Expr} {pos : Pos} {t : Tg} {f : En → List O → R U} (hg : DenG X tg t) (he : Den X W e f) (hs : swapsWithSole [tg] e pos.line X.env = pure false) (hw : swappedStores [tg] e X.env = pure none) (hst : isStar tg = false) :
    DenS X W (.Assign [tg] e pos) (sAsg f t) := by
  obtain ⟨te, p, c⟩ := he
  refine dens_of (ps_asg p hg.pg hs hw (by rw [assignEach_cons hst]; rfl)) fun σ' h σ H μ D re rh p => ?_
  exact c σ' h σ H μ _ re rh (PostS.stm re p fun a h1 H1 μ1 b e1 rh1 rel p1 => asg_of (g := tG X.K t) hg (re.ext e1) rh1 rel p1)
def sPar2 (i j : Nat) (f : En → List O → R (List U)) : En → List O → Fl := fun σ h => (f σ h).stm σ fun us h => match us with
  | [u, v] => .nx ((σ.set i (some u)).set j (some v)) h
  | _ => .bad
theorem dens_par2 {i j : Nat} {x y : Str} {a b : Expr} {px py pt pos : Pos} {kt k2 pt2} {f : En → List O → R (List U)} (hc : X.calm = true) (hN : X.N.Nodup) (hi : X.N[i]? = some x) (hj : X.N[j]? = some y) (hij : i ≠ j)
    (hx : X.env.scope.names.lookup x = some .local) (hy : X.env.scope.names.lookup y = some .local) (ha : DenA X W [a, b] f)
    (hw : swappedStores [.Tuple [.Name x px, .Name y py] kt pt] (.Tuple [a, b] k2 pt2) X.env = pure (some [x, y])) :
    DenS X W (.Assign [.Tuple [.Name x px, .Name y py] kt pt] (.Tuple [a, b] k2 pt2) pos) (sPar2 i j f) := by
  obtain ⟨ta, pa, ca⟩ := ha
  refine dens_of (ps_par hc hN hi hj hij hx hy pa hw) fun σ' h σ H μ D re rh p => ?_
  refine ca σ' h σ H μ _ re rh (PostS.stm re p fun us h1 H1 μ1 xs e1 rh1 ru p1 => ?_)
  split at p1
  · cases ru with
    | cons r1 r2 => cases r2 with
      | cons r2 r3 =>
        cases r3
        exact ⟨_, _, rfl, p1.nx rh1 (((re.ext e1).set r1).set r2)⟩
  · exact p1.elim
def sPar3 (i j k : Nat) (f : En → List O → R (List U)) : En → List O → Fl := fun σ h => (f σ h).stm σ fun us h => match us with
  | [u, v, w] => .nx (((σ.set i (some u)).set j (some v)).set k (some w)) h
  | _ => .bad

theorem dens_par3 {i j k : Nat} {x y z : Str} {a b c : Expr} {px py pz pt pos : Pos} {kt k2 pt2} {f : En → List O → R (List U)} (hc : X.calm = true) (hN : X.N.Nodup) (hi : X.N[i]? = some x) (hj : X.N[j]? = some y) (hk : X.N[k]? = some z) (hij : i ≠ j) (hik : i ≠ k) (hjk : j ≠ k)
    (hx : X.env.scope.names.lookup x = some .local) (hy : X.env.scope.names.lookup y = some .local) (hz : X.env.scope.names.lookup z = some .local) (ha : DenA X W [a, b, c] f)
    (hw : swappedStores [.Tuple [.Name x px, .Name y py, .Name z pz] kt pt] (.Tuple [a, b, c] k2 pt2) X.env = pure (some [x, y, z])) :
    DenS X W (.Assign [.Tuple [.Name x px, .Name y py, .Name z pz] kt pt] (.Tuple [a, b, c] k2 pt2) pos) (sPar3 i j k f) := by
  obtain ⟨ta, pa, ca⟩ := ha
  refine dens_of (ps_par3 hc hN hi hj hk hij hik hjk hx hy hz pa hw) fun σ' h σ H μ D re rh p => ?_
  refine ca σ' h σ H μ _ re rh (PostS.stm re p fun us h1 H1 μ1 xs e1 rh1 ru p1 => ?_)
  split at p1
  · cases ru with
    | cons r1 r2 => cases r2 with
      | cons r2 r3 => cases r3 with
        | cons r3 r4 =>
          cases r4
          exact ⟨_, _, _, rfl, p1.nx rh1 ((((re.ext e1).set r1).set r2).set r3)⟩
  · exact p1.elim
/-- o[i] = v -/
def putK' (kvs : List (Key × D)) (k : Key) (d : D) : List (Key × D) :=
  if (kvs.any fun kv => decide (kv.1 = k)) = true then kvs.map (fun kv => if kv.1 = k then (kv.1, d) else kv) else kvs ++ [(k, d)]
def setU (o i v : U) (h : List O) : Option (List O) := match o with
  | .lab n => match h[n]? with
    | some (.lst xs) => match i, v with
      | .d (.int k), .d d => (ixN xs.length k).map fun j => h.set n (.lst (xs.set j d))
      | _, _ => none
    | some (.dct kvs) => match i, v with
      | .d x, .d d => (keyOf x).bind fun k => if kvs.length < 10000000 then some (h.set n (.dct (putK' kvs k d))) else none
      | _, _ => none
    | _ => none
  | _ => none
def rSetA : V → V → V → Hp → (Hp → Prop) → Prop := fun o i v H Q => rSetL o i v H Q ∨ ∃ a H', o = .ref a ∧ DPut H a i v H' ∧ Q H'
theorem set_any (hu : X.A.units + 64 < cLine) : PSet X rSetA := by
  intro pins s σ H o i v ov iv u Q I ro ri rv h
  rcases h with h | ⟨a, H', rfl, g, q⟩
  · exact set_list pins s σ H o i v ov iv u Q I ro ri rv h
  · cases ro
    exact d_setItem (by omega) I g ri rv fun s' I' => ⟨H', I', q⟩
def sSub (f fo fi : En → List O → R U) : En → List O → Fl := fun σ h => (f σ h).stm σ fun v h => (fo σ h).stm σ fun o h => (fi σ h).stm σ fun i h => match setU o i v h with
  | some h' => .nx σ h'
  | none => .bad
theorem RKs.length' {K : PySem.W.Frag} {H : Hp} {μ : List Addr} {kvs : List (Key × D)} {vs : List (Key × V)} (r : RKs K H μ kvs vs) : kvs.length = vs.length := Paired.length r
theorem RKs.any {K : PySem.W.Frag} {H : Hp} {μ : List Addr} {kvs : List (Key × D)} {vs : List (Key × V)} (r : RKs K H μ kvs vs) (k : Key) : (kvs.any fun kv => decide (kv.1 = k)) = vs.any fun kv => decide (kv.1 = k) := by
  unfold RKs at r
  induction r with
  | nil => rfl
  | cons h t ih => rw [List.any_cons, List.any_cons, ih, h.1]
theorem RKs.repl {K : PySem.W.Frag} {H : Hp} {μ : List Addr} {kvs : List (Key × D)} {vs : List (Key × V)} (r : RKs K H μ kvs vs) (k : Key) {d : D} {v : V} (rd : RD K H μ d v) :
    RKs K H μ (kvs.map fun kv => if kv.1 = k then (kv.1, d) else kv) (vs.map fun kv => if kv.1 = k then (kv.1, v) else kv) := by
  unfold RKs at r ⊢
  induction r with
  | nil => exact .nil
  | @cons p q ps qs h t ih =>
    rw [List.map_cons, List.map_cons]
    refine .cons ?_ ih
    by_cases e : p.1 = k
    · rw [if_pos e, if_pos (h.1.symm.trans e)]; exact ⟨h.1, rd⟩
    · rw [if_neg e, if_neg (fun z => e (h.1.trans z))]; exact h
theorem putK_rel {K : PySem.W.Frag} {H : Hp} {μ : List Addr} {kvs : List (Key × D)} {vs : List (Key × V)} (r : RKs K H μ kvs vs) (k : Key) {d : D} {v : V} (rd : RD K H μ d v) : RKs K H μ (putK' kvs k d) (putK vs k v) := by
  unfold putK' putK
  rw [r.any k]
  by_cases e : (vs.any fun kv => decide (kv.1 = k)) = true
  · rw [if_pos e, if_pos e]; exact r.repl k rd
  · rw [if_neg e, if_neg e]; exact Paired.snoc r ⟨rfl, rd⟩
theorem RDs.set' {K : PySem.W.Frag} {H : Hp} {μ : List Addr} {ds : List D} {vs : List V} {j : Nat} {d : D} {v : V} (r : RDs K H μ ds vs) (h : RD K H μ d v) : RDs K H μ (ds.set j d) (vs.set j v) := r.set h j
theorem dens_sub {o i e : Expr} {pos pos' : Pos} {f fo fi : En → List O → R U} (he : Den X W e f) (ho : Den X W o fo) (hi : Den X W i fi) (hs : isCmp e = false) (hsl : isSl i = false) (hu : X.A.units + 64 < cLine) : DenS X W (.Assign [.Subscript o i pos'] e pos) (sSub f fo fi) := by
  obtain ⟨te, pe, ce⟩ := he
  obtain ⟨to, po, co⟩ := ho
  obtain ⟨ti, pi, ci⟩ := hi
  refine dens_of (ps_asg pe (pg_sub po pi (set_any hu) (by intro v; cases i <;> first | rfl | cases hsl)) (noSwap1 hs) (by rfl) (by rfl)) fun σ' h σ H μ D re rh p => ?_
  refine ce σ' h σ H μ _ re rh (PostS.stm re p fun v h1 H1 μ1 vv e1 rh1 rv p1 => ?_)
  refine co σ' h1 σ H1 μ1 _ (re.ext e1) rh1 (PostS.stm (re.ext e1) p1 fun u h2 H2 μ2 uu e2 rh2 ru p2 => ?_)
  refine ci σ' h2 σ H2 μ2 _ (re.ext (e1.trans e2)) rh2 (PostS.stm (re.ext (e1.trans e2)) p2 fun w h3 H3 μ3 ww e3 rh3 rw p3 => ?_)
  have re3 := re.ext (e1.trans (e2.trans e3))
  have rv3 := rv.ext (e2.trans e3)
  have ru3 := ru.ext e3
  unfold setU at p3
  cases ru3 with
  | @lab n a ra =>
    dsimp only at p3
    cases q : h3[n]? with
    | none => simp only [q] at p3; exact p3.elim
    | some ob =>
      cases ob with
      | mix us => simp only [q] at p3; exact p3.elim
      | hold us => simp only [q] at p3; exact p3.elim
      | dct us =>
        simp only [q] at p3
        split at p3
        · rename_i hh z
          split at z
          · rename_i dx dd
            cases rw with
            | d rx =>
              cases rv3 with
              | d rd =>
                cases e2 : keyOf dx with
                | none => rw [e2] at z; cases z
                | some k =>
                  rw [e2] at z
                  have z' : (if us.length < 10000000 then some (h3.set n (.dct (putK' us k dd))) else none) = some hh := z
                  by_cases hl : us.length < 10000000
                  · rw [if_pos hl] at z'
                    cases z'
                    obtain ⟨hob, q1, q2⟩ := rh3.obj n _ a q ra
                    cases q2 with
                    | @dct _ vs r =>
                      have := keyOf_of rx e2
                      subst this
                      exact .inr ⟨a, _, rfl, DPut.k q1 (by rw [← r.length', line_eq]; omega), p3 σ _ _ (Ext.chg ra q1) (rh3.chg ra (.dct (putK_rel r k rd))) (re3.ext (Ext.chg ra q1))⟩
                  · rw [if_neg hl] at z'; cases z'
          · cases z
        · exact p3.elim
      | lst xs =>
        simp only [q] at p3
        split at p3
        · rename_i hh z
          split at z
          · rename_i k d
            cases rw.int_inv
            cases hj : ixN xs.length k with
            | none => rw [hj] at z; cases z
            | some j =>
              rw [hj] at z
              cases z
              obtain ⟨hob, q1, q2⟩ := rh3.obj n _ a q ra
              cases q2 with
              | @lst _ vs r =>
                cases rv3 with
                | d rd => exact .inl ⟨a, vs, k, j, rfl, rfl, q1, by rw [← r.length]; exact hj, p3 σ _ _ (Ext.chg ra q1) (rh3.chg ra (.lst (r.set rd j))) (re3.ext (Ext.chg ra q1))⟩
          · cases z
        · exact p3.elim
  | _ => exact p3.elim
/-! ### if, while, for -/
def sIf (c : En → List O → R Bool) (f g : En → List O → Fl) : En → List O → Fl := fun σ h => (c σ h).stm σ fun b h => if b = true then f σ h else g σ h
theorem dens_if {c : Expr} {a b : List Stmt} {pos : Pos} {fc : En → List O → R Bool} {f g : En → List O → Fl} (hc : DenT X W c fc) (ha : DenB X W a f) (hb : DenB X W b g) : DenS X W (.If c a b pos) (sIf fc f g) := by
  obtain ⟨tc, pc, cc⟩ := hc
  refine dens_of (ps_if pc ha hb) fun σ' h σ H μ D re rh p => ?_
  refine cc σ' h σ H μ _ re rh (PostS.stm re p fun k h1 H1 μ1 k' e1 rh1 rk p1 => ?_)
  cases rk
  cases k with
  | true => rw [if_pos rfl] at p1 ⊢; exact ⟨σ', h1, μ1, re.ext e1, rh1, p1⟩
  | false => rw [if_neg Bool.false_ne_true] at p1 ⊢; exact ⟨σ', h1, μ1, re.ext e1, rh1, p1⟩
def whGo (c : En → List O → R Bool) (f : En → List O → Fl) : Nat → En → List O → Fl
  | 0, _, _ => .bad
  | k + 1, σ, h => (c σ h).stm σ fun b h => if b = true then (match f σ h with
    | .nx σ h => whGo c f k σ h
    | .ct σ h => whGo c f k σ h
    | .bk σ h => .nx σ h
    | r => r) else .nx σ h
theorem dens_while {c : Expr} {body : List Stmt} {pos : Pos} {fc : En → List O → R Bool} {f : En → List O → Fl} (F : Nat) (hp : PassesOwn (model X.prog X.w) X.A X.env X.xe) (hc : DenT X W c fc) (hb : DenB X W body f) : DenS X W (.While c body [] pos) (whGo fc f F) := by
  obtain ⟨tc, pc, cc⟩ := hc
  refine dens_of (ps_while hp pc hb) fun σ' h σ H μ D re rh p => ?_
  refine ⟨fun m σ H => ∃ σ' h μ, RE X.K H μ σ' σ ∧ Rh X.K H μ h ∧ PostS X.K W H μ (whGo fc f m σ' h) D, ⟨F, σ', h, μ, re, rh, p⟩, ?_⟩
  rintro m σ H ⟨σ', h, μ, re, rh, p⟩
  cases m with
  | zero => exact p.elim
  | succ m =>
    unfold whGo at p
    refine cc σ' h σ H μ _ re rh (PostS.stm re p fun k h1 H1 μ1 k' e1 rh1 rk p1 => ?_)
    cases rk
    cases k with
    | false => rw [if_neg Bool.false_ne_true] at p1 ⊢; exact p1.nx rh1 (re.ext e1)
    | true =>
      rw [if_pos rfl] at p1 ⊢
      refine ⟨fun σ H => ∃ σ' h μ, RE X.K H μ σ' σ ∧ Rh X.K H μ h ∧ PostS X.K W H μ (whGo fc f m σ' h) D, fun σ' H' z => ⟨m, Nat.lt_succ_self m, z⟩, σ', h1, μ1, re.ext e1, rh1, ?_⟩
      cases hf : f σ' h1 with
      | nx s h2 => simp only [hf] at p1; exact fun σ3 H3 μ3 e3 rh3 re3 => ⟨s, h2, μ3, re3, rh3, p1.at e3⟩
      | ct s h2 => simp only [hf] at p1; exact fun σ3 H3 μ3 e3 rh3 re3 => ⟨s, h2, μ3, re3, rh3, p1.at e3⟩
      | bk s h2 => simp only [hf] at p1; exact p1
      | ret s h2 => simp only [hf] at p1; exact p1
      | er c s h2 => simp only [hf] at p1; exact p1
      | bad => simp only [hf] at p1; exact p1
def foGo (S : Src) (t : Tg) (f : En → List O → Fl) : Nat → Nat → En → List O → Fl
  | 0, _, _, _ => .bad
  | k + 1, i, σ, h => match S.at_ i h with
    | none => .bad
    | some none => .nx σ h
    | some (some u) => match asg t u σ with
      | none => .bad
      | some σ => match f σ h with
        | .nx σ h => foGo S t f k (i + 1) σ h
        | .ct σ h => foGo S t f k (i + 1) σ h
        | .bk σ h => .nx σ h
        | r => r
def sFor (t : Tg) (fi : En → List O → R Src) (f : En → List O → Fl) : En → List O → Fl := fun σ h => (fi σ h).stm σ fun S h => foGo S t f S.top 0 σ h
theorem dens_for {tg iter : Expr} {body : List Stmt} {pos : Pos} {t : Tg} {fi : En → List O → R Src} {f : En → List O → Fl} (hp : PassesOwn (model X.prog X.w) X.A X.env X.xe) (hc : X.calm = true) (hi : DenI X W tg iter fi) (hg : DenG X tg t) (hb : DenB X W body f)
    (hs : isSetD iter = false) : DenS X W (.For tg iter body [] pos) (sFor t fi f) := by
  obtain ⟨wi, pi, ci⟩ := hi
  refine dens_of (ps_for hp hc pi hg.pg hb (noFold hs)) fun σ' h σ H μ D re rh p => ?_
  refine ci σ' h σ H μ _ re rh (PostS.stm re p fun S h1 H1 μ1 J e1 rh1 sr p1 => ?_)
  refine ⟨fun i m σ H => ∃ σ' h μ, Ext μ1 H1 μ H ∧ RE X.K H μ σ' σ ∧ Rh X.K H μ h ∧ PostS X.K W H μ (foGo S t f m i σ' h) D, ⟨S.top, σ', h1, μ1, Ext.refl, re.ext e1, rh1, p1⟩, ?_⟩
  rintro i m σ2 H2 ⟨σ2', h2, μ2, e2, re2, rh2, p2⟩
  cases m with
  | zero => exact p2.elim
  | succ m =>
    unfold foGo at p2
    obtain ⟨sr1, sr2⟩ := sr H2 μ2 h2 e2 rh2 i
    cases hat : S.at_ i h2 with
    | none => simp only [hat] at p2; exact p2.elim
    | some o =>
      cases o with
      | none =>
        simp only [hat] at p2
        exact .inl ⟨sr1 hat, p2.nx rh2 re2⟩
      | some u =>
        simp only [hat] at p2
        obtain ⟨go, yl⟩ := sr2 u hat
        refine .inr ⟨go, fun σ H => ∃ σ' h μ, Ext μ1 H1 μ H ∧ RE X.K H μ σ' σ ∧ Rh X.K H μ h ∧ PostS X.K W H μ (foGo S t f m (i + 1) σ' h) D, fun σ' H' z => ⟨m, Nat.lt_succ_self m, z⟩, fun x Hy y => ?_⟩
        obtain ⟨ey, rhy, ruy⟩ := yl x Hy y
        cases ea : asg t u σ2' with
        | none => simp only [ea] at p2; exact p2.elim
        | some σ1' =>
          simp only [ea] at p2
          refine ⟨u, σ2', σ1', μ2, re2.ext ey, ruy, ea, fun σ1 re1 _ => ⟨σ1', h2, μ2, re1, rhy, ?_⟩⟩
          cases hf : f σ1' h2 with
          | nx s h3 => simp only [hf] at p2; exact fun σ3 H3 μ3 e3 rh3 re3 => ⟨s, h3, μ3, (e2.trans ey).trans e3, re3, rh3, (p2.at ey).at e3⟩
          | ct s h3 => simp only [hf] at p2; exact fun σ3 H3 μ3 e3 rh3 re3 => ⟨s, h3, μ3, (e2.trans ey).trans e3, re3, rh3, (p2.at ey).at e3⟩
          | bk s h3 => simp only [hf] at p2; exact PostS.at (r := .nx s h3) p2 ey
          | ret s h3 => simp only [hf] at p2; exact PostS.at (r := .ret s h3) p2 ey
          | er c s h3 => simp only [hf] at p2; exact PostS.at (r := .er c s h3) p2 ey
          | bad => simp only [hf] at p2; exact p2
/-! ### raise, try -/
def sRaise (x : Str) : En → List O → Fl := fun σ h => .er x σ h
theorem dens_raise {x m : Str} {j : Nat} {p p2 pos pos' : Pos} {bmB : List Value} {B newId initId : String} (hc : X.calm = true) (tk : Takes X W) (F : ExcBaseFacts B newId initId bmB) (q : PySem.W.excIn X.K (He.ga X.K x) bmB newId = true) (gC : X.mg x = some (.ref (He.ga X.K x)))
    (kC : PySem.W.keepIn X.K (.ref (He.ga X.K x)) = true) (r : Raises X (.ref (He.ga X.K x))) (hg : Gl X x) (hdb : (x == ("__debug__" : Str)) = false) :
    DenS X W (.Raise (some (.Call (.Name x p) [.Constant (.str m) j p2] [] pos)) none pos') (sRaise x) :=
  dens_of (ps_raise hc tk (pmk_own F q gC kC r hg hdb)) fun σ' h σ H μ D re rh p => p σ H μ Ext.refl rh re
def hdl (exm : Str → Str → Bool) : List (Str × (En → List O → Fl)) → Str → En → List O → Fl
  | [], c, σ, h => .er c σ h
  | (x, f) :: r, c, σ, h => if exm c x = true then (match f σ h with
    | .er _ _ _ => .bad
    | z => z) else hdl exm r c σ h
def sTry (exm : Str → Str → Bool) (cls : List Str) (f : En → List O → Fl) (hs : List (Str × (En → List O → Fl))) : En → List O → Fl := fun σ h => match f σ h with
  | .er c σ h => if c ∈ cls then hdl exm hs c σ h else .bad
  | r => r
/-- the clauses -/
inductive Hds (X : Cx) (exm : Str → Str → Bool) (cls : List Str) : List ExceptHandler → List (Str × (En → List O → Fl)) → Prop
  | nil : Hds X exm cls [] []
  | cons {x : Str} {v : Value} {f : En → List O → Fl} {b : Stmt} {suite : List Stmt} {np pos : Pos} {hds : List ExceptHandler} {l : List (Str × (En → List O → Fl))} (hc : Names X x v) (hx : ∀ c ∈ cls, PySem.W.exmOne X.K (.ref (He.ga X.K c)) v = some (exm c x))
      (hsu : ∀ (a : Addr) (oe : Obj) (pn : List (Addr × Obj)), DenB (X.suite a ((a, oe) :: pn)) W0 (b :: suite) f) (r : Hds X exm cls hds l) : Hds X exm cls (.ExceptHandler (some (.Name x np)) none (b :: suite) pos :: hds) ((x, f) :: l)
theorem suite_of {K : PySem.W.Frag} {H : Hp} {μ : List Addr} {f : En → List O → Fl} {σ' : En} {h : List O} {D : Ends} (p : PostS K W H μ (match f σ' h with | .er _ _ _ => .bad | z => z) D) : PostS K W0 H μ (f σ' h) D := by
  cases hf : f σ' h with
  | nx s h3 => simp only [hf] at p; exact p
  | ct s h3 => simp only [hf] at p; exact p
  | bk s h3 => simp only [hf] at p; exact p
  | ret s h3 => simp only [hf] at p; exact p
  | er c s h3 => simp only [hf] at p; exact p.elim
  | bad => simp only [hf] at p; exact p
theorem dens_try {body : List Stmt} {h₀ : ExceptHandler} {hds : List ExceptHandler} {pos : Pos} {exm : Str → Str → Bool} {cls : List Str} {f : En → List O → Fl} {l : List (Str × (En → List O → Fl))} (hs : X.stack = X.env :: X.outer) (hf : X.env.frame = some X.env.locals) (tk : Takes X W)
    (hb : ∀ (W' : WX) (pn : List (Addr × Obj)) (xe : Value → Shared → Prop), Takes (X.tr pn xe) W' → PassesOwn (model X.prog X.w) X.A X.env xe → DenB (X.tr pn xe) W' body f) (hh : Hds X exm cls (h₀ :: hds) l) :
    DenS X W (.Try body (h₀ :: hds) [] [] pos) (sTry exm cls f l) := by
  have conv : ∀ {hs l}, Hds X exm cls hs l → ∃ l', HdsOk X hs l' ∧ ∀ c ∈ cls, ∀ (σ' : En) (h : List O) (σ : L2.St) (H : Hp) (μ : List Addr) (D : Ends), RE X.K H μ σ' σ → Rh X.K H μ h → PostS X.K W H μ (hdl exm l c σ' h) D → wMany X.K W D l' (.ref (He.ga X.K c)) none σ H := by
    intro hs l hh
    induction hh with
    | nil => exact ⟨[], .nil, fun c _ σ' h σ H μ D re rh p => p σ H μ Ext.refl rh re⟩
    | @cons x v f b suite np pos hds l hc hx hsu r ih =>
      obtain ⟨l', ok, k⟩ := ih
      refine ⟨(v, fun _ _ _ => tS X.K W0 f) :: l', .cons hc (fun a oe cls d pn _ _ => hsu a oe pn) ok, fun c hm σ' h σ H μ D re rh p => ⟨exm c x, hx c hm, fun e a _ => ?_, fun e => ?_⟩⟩
      · unfold hdl at p
        rw [if_pos e] at p
        exact ⟨σ', h, μ, re, rh, suite_of p⟩
      · unfold hdl at p
        rw [if_neg (by rw [e]; exact Bool.false_ne_true)] at p
        exact k c hm σ' h σ H μ D re rh p
  obtain ⟨l', ok, k⟩ := conv hh
  refine dens_of (ps_try_many hs hf tk (tb := fun W => tS X.K W f) hb ok) fun σ' h σ H μ D re rh p => ⟨σ', h, μ, re, rh, ?_⟩
  unfold sTry at p
  cases hq : f σ' h with
  | nx s h3 => simp only [hq] at p; exact p
  | ct s h3 => simp only [hq] at p; exact p
  | bk s h3 => simp only [hq] at p; exact p
  | ret s h3 => simp only [hq] at p; exact p
  | er c s h3 =>
    simp only [hq] at p
    by_cases hm : c ∈ cls
    · rw [if_pos hm] at p
      exact fun σ3 H3 μ3 e3 rh3 re3 => k c hm s h3 σ3 H3 μ3 D re3 rh3 (p.at e3)
    · rw [if_neg hm] at p; exact p.elim
  | bad => simp only [hq] at p; exact p
/-! ### a dict that is walked is locked -/
def unhold (n : Nat) (h : List O) : Option (List O) := match h[n]? with
  | some (.hold kvs) => some (h.set n (.dct kvs))
  | _ => none
def lockAt (i : Nat) (σ : En) (h : List O) : Option (Nat × List (Key × D)) := match σ[i]? with
  | some (some (.lab n)) => (match h[n]? with
    | some (.dct kvs) => some (n, kvs)
    | _ => none)
  | _ => none
def lockE (i : Nat) (f : En → List O → R U) : En → List O → R U := fun σ h => match lockAt i σ h with
  | some (n, kvs) => (match f σ (h.set n (.hold kvs)) with
    | .ok u h' => (match unhold n h' with
      | some h2 => .ok u h2
      | none => .bad)
    | .err c h' => .err c h'
    | .bad => .bad)
  | none => f σ h
def lockS (i : Nat) (f : En → List O → Fl) : En → List O → Fl := fun σ h => match lockAt i σ h with
  | some (n, kvs) => (match f σ (h.set n (.hold kvs)) with
    | .nx s h' => (match unhold n h' with
      | some h2 => .nx s h2
      | none => .bad)
    | .bk s h' => (match unhold n h' with
      | some h2 => .bk s h2
      | none => .bad)
    | .ct s h' => (match unhold n h' with
      | some h2 => .ct s h2
      | none => .bad)
    | .ret u h' => (match unhold n h' with
      | some h2 => .ret u h2
      | none => .bad)
    | .er c s h' => .er c s h'
    | .bad => .bad)
  | none => f σ h
structure Lk (K : PySem.W.Frag) (H : Hp) (μ : List Addr) (h : List O) (n : Nat) (a : Addr) (kvs : List (Key × D)) (vs : List (Key × V)) : Prop where
  lab : μ[n]? = some a
  at_ : H a = some (.dK vs)
  rel : RKs K H μ kvs vs
theorem lockAt_of {K : PySem.W.Frag} {H : Hp} {μ : List Addr} {i n : Nat} {σ' : En} {σ : L2.St} {h : List O} {kvs : List (Key × D)} (re : RE K H μ σ' σ) (rh : Rh K H μ h) (e : lockAt i σ' h = some (n, kvs)) : ∃ a vs, Lk K H μ h n a kvs vs := by
  unfold lockAt at e
  split at e
  · rename_i n' e1
    split at e
    · rename_i kvs' e2
      cases e
      obtain ⟨v, _, r⟩ := re.2 i _ e1
      cases r with
      | @lab _ a ra =>
        obtain ⟨ho, h1, h2⟩ := rh.obj n _ a e2 ra
        cases h2 with
        | dct h2 => exact ⟨a, _, ra, h1, h2⟩
    · cases e
  · cases e
section
variable {K : PySem.W.Frag} {H H' : Hp} {μ μ' : List Addr} {h h' h2 : List O} {n : Nat} {a : Addr} {kvs : List (Key × D)} {vs : List (Key × V)} {od : Obj}
/-- locked and unlocked again -/
theorem Lk.back (l : Lk K H μ h n a kvs vs) (e : Ext μ (upd H a (.frz od (.dK vs))) μ' H') (rh : Rh K H' μ' h') (q : unhold n h' = some h2) :
    H' a = some (.frz od (.dK vs)) ∧ Ext μ H μ' (upd H' a (.dK vs)) ∧ Ext0 μ' H' μ' (upd H' a (.dK vs)) ∧ Rh K (upd H' a (.dK vs)) μ' h2 := by
  have ha' : H' a = some (.frz od (.dK vs)) := e.frz a _ _ upd_same
  have lab' : μ'[n]? = some a := e.get l.lab
  have c : Ext0 μ' H' μ' (upd H' a (.dK vs)) := Ext0.chg lab'
  refine ⟨ha', ⟨((Ext0.chg l.lab).trans e.toExt0).trans c, fun b o w hb => ?_⟩, c, ?_⟩
  · have ne : b ≠ a := by
      rintro rfl
      rw [l.at_] at hb
      cases hb
    rw [upd_ne ne]
    exact e.frz b o w (by rw [upd_ne ne]; exact hb)
  · unfold unhold at q
    split at q
    · rename_i kvs' z
      cases q
      obtain ⟨ho, h1, g⟩ := rh.obj n _ a z lab'
      cases g with
      | hold g =>
        rw [ha'] at h1
        cases h1
        exact rh.chg lab' (.dct g)
    · cases q
theorem Lk.err (l : Lk K H μ h n a kvs vs) (e : Ext μ (upd H a (.frz od (.dK vs))) μ' H') : Ext μ H μ' H' := by
  refine ⟨(Ext0.chg l.lab).trans e.toExt0, fun b o w hb => ?_⟩
  have ne : b ≠ a := by
    rintro rfl
    rw [l.at_] at hb
    cases hb
  exact e.frz b o w (by rw [upd_ne ne]; exact hb)
end
theorem pe_or {e : Expr} {t u : TE} (h : PE X e t) (g : PE X e u) : PE X e (fun σ H Q => t σ H Q ∨ u σ H Q) :=
  ⟨fun pins s σ H Q I z => z.elim (h.run pins s σ H Q I) (g.run pins s σ H Q I)⟩
theorem ps_or {e : Stmt} {t u : TS} (h : PS X e t) (g : PS X e u) : PS X e (fun D σ H => t D σ H ∨ u D σ H) :=
  ⟨fun pins s σ H Q I z => z.elim (h.run pins s σ H Q I) (g.run pins s σ H Q I)⟩
theorem den_lock {i : Nat} {e : Expr} {f : En → List O → R U} (hf : Den X W e f) : Den X W e (lockE i f) := by
  obtain ⟨t, p, c⟩ := hf
  refine ⟨_, pe_or (pe_lock p) p, fun σ' h σ H μ Q re rh q => ?_⟩
  unfold lockE at q
  cases z : lockAt i σ' h with
  | none =>
    rw [z] at q
    exact .inr (c σ' h σ H μ Q re rh q)
  | some nk =>
    obtain ⟨n, kvs⟩ := nk
    rw [z] at q
    obtain ⟨a, vs, l⟩ := lockAt_of re rh z
    refine .inl ⟨a, _, l.at_, True.intro, fun od => ?_⟩
    refine c σ' (h.set n (.hold kvs)) σ _ μ _ (re.ext0 (Ext0.chg l.lab)) (rh.chg l.lab (.hold l.rel)) ?_
    dsimp only at q
    cases r : f σ' (h.set n (.hold kvs)) with
    | ok u h' =>
      rw [r] at q
      intro H' μ' b e rh' ru
      cases z2 : unhold n h' with
      | none => simp only [z2] at q; exact q.elim
      | some h2 =>
        simp only [z2] at q
        obtain ⟨g1, g2, g3, g4⟩ := l.back e rh' z2
        exact ⟨g1, q _ _ _ g2 g4 (ru.ext0 g3)⟩
    | err c' h' =>
      rw [r] at q
      intro H' μ' e rh'
      exact q _ _ (l.err e) rh'
    | bad => rw [r] at q; exact q.elim
theorem dens_lock {i : Nat} {e : Stmt} {f : En → List O → Fl} (hf : DenS X W e f) : DenS X W e (lockS i f) := by
  refine dens_of (ps_or (ps_lock hf) hf) fun σ' h σ H μ D re rh q => ?_
  unfold lockS at q
  cases z : lockAt i σ' h with
  | none =>
    rw [z] at q
    exact .inr ⟨σ', h, μ, re, rh, q⟩
  | some nk =>
    obtain ⟨n, kvs⟩ := nk
    rw [z] at q
    obtain ⟨a, vs, l⟩ := lockAt_of re rh z
    refine .inl ⟨a, _, l.at_, True.intro, fun od => ?_⟩
    refine ⟨σ', h.set n (.hold kvs), μ, re.ext0 (Ext0.chg l.lab), rh.chg l.lab (.hold l.rel), ?_⟩
    dsimp only at q
    cases r : f σ' (h.set n (.hold kvs)) with
    | nx s h' =>
      rw [r] at q
      intro σ2 H' μ' e rh' re'
      cases z2 : unhold n h' with
      | none => simp only [z2] at q; exact q.elim
      | some h2 =>
        simp only [z2] at q
        obtain ⟨g1, g2, g3, g4⟩ := l.back e rh' z2
        exact ⟨g1, q _ _ _ g2 g4 (re'.ext0 g3)⟩
    | bk s h' =>
      rw [r] at q
      intro σ2 H' μ' e rh' re'
      cases z2 : unhold n h' with
      | none => simp only [z2] at q; exact q.elim
      | some h2 =>
        simp only [z2] at q
        obtain ⟨g1, g2, g3, g4⟩ := l.back e rh' z2
        exact ⟨g1, q _ _ _ g2 g4 (re'.ext0 g3)⟩
    | ct s h' =>
      rw [r] at q
      intro σ2 H' μ' e rh' re'
      cases z2 : unhold n h' with
      | none => simp only [z2] at q; exact q.elim
      | some h2 =>
        simp only [z2] at q
        obtain ⟨g1, g2, g3, g4⟩ := l.back e rh' z2
        exact ⟨g1, q _ _ _ g2 g4 (re'.ext0 g3)⟩
    | ret u h' =>
      rw [r] at q
      intro v H' μ' e rh' ru'
      cases z2 : unhold n h' with
      | none => simp only [z2] at q; exact q.elim
      | some h2 =>
        simp only [z2] at q
        obtain ⟨g1, g2, g3, g4⟩ := l.back e rh' z2
        exact ⟨g1, q _ _ _ g2 g4 (ru'.ext0 g3)⟩
    | er c' s h' =>
      rw [r] at q
      intro σ2 H' μ' e rh' re'
      exact q _ _ _ (l.err e) rh' re'
    | bad => rw [r] at q; exact q.elim
end
end Py

/-! calls; the compact tree and what it says -/
namespace Py
open PySem PySem.Spec PyProof.Rows L2
/-! ### calls of the program's own defs -/
def permL {α : Type} (perm : List Nat) (l : List α) : List α := perm.filterMap fun i => l[i]?
theorem permL_vals {perm : List Nat} {vs : List V} {us : List Value} (r : Vals vs us) : Vals (permL perm vs) (permL perm us) := by
  unfold permL
  induction perm with
  | nil => exact .nil
  | cons i p ih =>
    rw [List.filterMap_cons, List.filterMap_cons]
    have hl := r.length
    by_cases h : i < vs.length
    · obtain ⟨u, hu, ru⟩ := r.get (List.getElem?_eq_getElem h)
      rw [List.getElem?_eq_getElem h, hu]
      exact .cons ru ih
    · rw [List.getElem?_eq_none (by omega), List.getElem?_eq_none (by omega)]
      exact ih
theorem permL_rel {K : PySem.W.Frag} {H : Hp} {μ : List Addr} {perm : List Nat} {us : List U} {vs : List V} (r : RUs K H μ us vs) : RUs K H μ (permL perm us) (permL perm vs) := by
  unfold permL
  induction perm with
  | nil => exact .nil
  | cons i p ih =>
    rw [List.filterMap_cons, List.filterMap_cons]
    have hl := r.length
    by_cases h : i < us.length
    · obtain ⟨v, hv, rv⟩ := r.get (List.getElem?_eq_getElem h)
      rw [List.getElem?_eq_getElem h, hv]
      exact .cons rv ih
    · rw [List.getElem?_eq_none (by omega), List.getElem?_eq_none (by omega)]
      exact ih
theorem RUs.mapU {K : PySem.W.Frag} {H H' : Hp} {μ μ' : List Addr} {us : List U} {vs : List V} (r : RUs K H μ us vs) (k : ∀ u x, RU K H μ u x → RU K H' μ' u x) : RUs K H' μ' us vs := by
  induction r with
  | nil => exact .nil
  | cons h _ ih => exact .cons (k _ _ h) ih
theorem RUs.app {K : PySem.W.Frag} {H : Hp} {μ : List Addr} {us ws : List U} {vs zs : List V} (r : RUs K H μ us vs) (q : RUs K H μ ws zs) : RUs K H μ (us ++ ws) (vs ++ zs) := r.append q
theorem valsApp {vs zs : List V} {us ws : List Value} (r : Vals vs us) (q : Vals zs ws) : Vals (vs ++ zs) (us ++ ws) := r.append q
/-- what a def promises -/
def spF (K : PySem.W.Frag) (n : Nat) (r : List U → List O → R U) : Sp := fun vs H Q E => vs.length = n ∧ ∃ us h μ, Rh K H μ h ∧ RUs K H μ us vs ∧ Post K (fun c d _ H => E c d H) [] H μ (RU K) (r us h) Q
/-- how a call binds: n values by place, ks by name -/
def BindOk (K : PySem.W.Frag) (fd : FuncData) (ps : List Str) (n : Nat) (ks : List Str) (perm : List Nat) : Prop :=
  ∀ (s : Shared) (us ws : List Value), us.length = n → ws.length = ks.length → BindsTo s fd ⟨us, ks.zip ws⟩ (ps.zip (permL perm (us ++ ws)))
def DenK (X : Cx) (W : WX) (kws : List Keyword) (f : En → List O → R (List U)) : Prop :=
  ∃ t, PK X kws t ∧ ∀ σ' h σ H μ Q, RE X.K H μ σ' σ → Rh X.K H μ h → Post X.K W σ H μ (RUs X.K) (f σ' h) Q → t σ H Q
def kwNames : List Keyword → Option (List Str)
  | [] => some []
  | ⟨some n, _, _⟩ :: r => (kwNames r).map (n :: ·)
  | ⟨none, _, _⟩ :: _ => none
theorem kwNames_ok {env : Env} {pos : Pos} : ∀ {kws : List Keyword} {ks : List Str}, kwNames kws = some ks →
    (backToKw pos (keywordEach kws env)).all (·.1.isSome) = true ∧ (backToKw pos (keywordEach kws env)).filterMap (·.1) = ks ∧ (backToKw pos (keywordEach kws env)).any (·.1.isNone) = false
  | [], ks, h => by cases h; exact ⟨rfl, rfl, rfl⟩
  | ⟨some n, e, p⟩ :: r, ks, h => by
    have h' : (kwNames r).map (n :: ·) = some ks := h
    cases q : kwNames r with
    | none => rw [q] at h'; cases h'
    | some qs =>
      rw [q] at h'
      cases h'
      obtain ⟨h1, h2, h3⟩ := kwNames_ok (env := env) (pos := pos) q
      unfold backToKw at h1 h2 h3 ⊢
      refine ⟨?_, ?_, ?_⟩
      · simp only [keywordEach, List.map_cons, List.all_cons, h1]; rfl
      · simp only [keywordEach, List.map_cons, List.filterMap_cons, h2]
      · simp only [keywordEach, List.map_cons, List.any_cons, h3]; rfl
  | ⟨none, e, p⟩ :: r, ks, h => by cases h
section
variable {X : Cx} {W : WX}
theorem denk_nil : DenK X W [] evNil := ⟨_, pk_nil, fun σ' h σ H μ Q re rh p => p.ret rh .nil⟩
theorem denk_cons {n : Option Str} {e : Expr} {kp : Pos} {kws : List Keyword} {f : En → List O → R U} {g : En → List O → R (List U)} (hf : Den X W e f) (hg : DenK X W kws g) : DenK X W (⟨n, e, kp⟩ :: kws) (evCons f g) := by
  obtain ⟨ta, pa, ca⟩ := hf
  obtain ⟨tb, pb, cb⟩ := hg
  refine ⟨_, pk_cons pa pb, fun σ' h σ H μ Q re rh p => ?_⟩
  refine ca σ' h σ H μ _ re rh (Post.bind p fun u h1 H1 μ1 x e1 rh1 ru p1 => ?_)
  refine cb σ' h1 σ H1 μ1 _ (re.ext e1) rh1 (Post.bind p1 fun us h2 H2 μ2 xs e2 rh2 rus p2 => ?_)
  exact p2.ret rh2 (.cons (ru.ext e2) rus)
def tCallB (n m : Nat) (perm : List Nat) (sp : Sp) (E : L2.St → XK) (t tk : TA) : TE := fun σ H Q => t σ H fun vs H1 => tk σ H1 fun zs H2 => vs.length = n ∧ zs.length = m ∧ sp (permL perm (vs ++ zs)) H2 Q (E σ)
theorem run_fnB {CX : CXT} {k n : Nat} {f : Addr} {fd : FuncData} {ps ks : List Str} {sp : Sp} {E : L2.St → XK} {perm : List Nat} {pins : List (Addr × Obj)} {σ : L2.St} {H : Hp} {s : Shared} {Q : VK} {us ws : List Value} {vs zs : List V}
    (F : FnOk X.prog X.w X.K X.mg X.base CX k f fd ps sp) (hr : Room k X.A) (hb : BindOk X.K fd ps n ks perm) (hx : PassesAt CX X σ (E σ)) (I : Inv X pins σ H s) (r : Vals vs us) (rz : Vals zs ws) (l1 : vs.length = n) (l2 : zs.length = ks.length) (h : sp (permL perm (vs ++ zs)) H Q (E σ)) :
    wpAny (model X.prog X.w) X.A (call (.ref f) us (ks.zip ws)) (EP X pins σ Q) X.xe s := by
  refine wpAny_call (codeAny_mono (F.run X.A X.stack s H ⟨us, ks.zip ws⟩ (permL perm (us ++ ws)) (permL perm (vs ++ zs)) Q (E σ) hr I.env0 (hb s us ws (r.length.symm.trans l1) (rz.length.symm.trans l2)) (permL_vals (r.append rz)) h) fun r s' hq => ?_)
  cases r with
  | error e => exact hx pins H s e s' I hq
  | ok fl =>
    cases fl with
    | ret u => exact I.after hq
    | next => exact False.elim hq
    | brk => exact False.elim hq
    | cont => exact False.elim hq
theorem pe_callB0 {CX : CXT} {k : Nat} {f : Addr} {fd : FuncData} {ps ks : List Str} {sp : Sp} {E : L2.St → XK} {perm : List Nat} {x : Str} {p pos : Pos} {kws : List Keyword} {tk : TA}
    (F : FnOk X.prog X.w X.K X.mg X.base CX k f fd ps sp) (hr : Room k X.A) (hg : Gl X x) (hm : X.mg x = some (.ref f)) (hk : PySem.W.keepIn X.K (.ref f) = true) (hb : BindOk X.K fd ps 0 ks perm) (hx : ∀ σ, PassesAt CX X σ (E σ))
    (hkw : PK X kws tk) (hks : kwNames kws = some ks) (hdb : (x == ("__debug__" : Str)) = false) :
    PE X (.Call (.Name x p) [] kws pos) (tCallB 0 ks.length perm sp E tNil tk) := by
  obtain ⟨k1, k2, k3⟩ := kwNames_ok (env := X.env) (pos := pos) hks
  refine ⟨fun pins s σ H Q I h => ?_⟩
  refine wpAny_Call_Name_kw (ld_glob I hg hm ?_ hdb)
  refine PySem.W.callWith_KW0 (h₀ := X.base) I.ok.mod.kin hk k1 ?_ (by rw [k3]; rfl)
  refine thn (hkw.run pos pins s σ H _ I h) fun ws s2 ⟨zs, H2, I2, rz, l1, l2, q2⟩ => ⟨I2.kIn, ?_⟩
  rw [k2]
  exact run_fnB F hr hb (hx σ) I2 .nil rz l1 l2 q2
theorem pe_callB1 {CX : CXT} {k : Nat} {f : Addr} {fd : FuncData} {ps ks : List Str} {sp : Sp} {E : L2.St → XK} {perm : List Nat} {x : Str} {p pos : Pos} {e : Expr} {es : List Expr} {kws : List Keyword} {t tk : TA}
    (F : FnOk X.prog X.w X.K X.mg X.base CX k f fd ps sp) (hr : Room k X.A) (hg : Gl X x) (hm : X.mg x = some (.ref f)) (hk : PySem.W.keepIn X.K (.ref f) = true) (hb : BindOk X.K fd ps (e :: es).length ks perm) (hx : ∀ σ, PassesAt CX X σ (E σ))
    (ha : PA X (e :: es) t) (hkw : PK X kws tk) (hks : kwNames kws = some ks) (hns : noStar (e :: es) = true) (hdb : (x == ("__debug__" : Str)) = false) :
    PE X (.Call (.Name x p) (e :: es) kws pos) (tCallB (e :: es).length ks.length perm sp E t tk) := by
  obtain ⟨k1, k2, k3⟩ := kwNames_ok (env := X.env) (pos := pos) hks
  refine ⟨fun pins s σ H Q I h => ?_⟩
  refine wpAny_Call_Name_kw (ld_glob I hg hm ?_ hdb)
  refine PySem.W.callWith_KW (h₀ := X.base) I.ok.mod.kin hk k1 (thn (ha.run pos pins s σ H _ I h) fun us s1 ⟨vs, H1, I1, r, q⟩ => ?_) (by rw [k3, noStar_any hns]; rfl) (star1 (noStar_cons hns).1)
  refine thn (hkw.run pos pins s1 σ H1 _ I1 q) fun ws s2 ⟨zs, H2, I2, rz, l1, l2, q2⟩ => ⟨I2.kIn, ?_⟩
  rw [k2]
  exact run_fnB F hr hb (hx σ) I2 r rz l1 l2 q2
def evCl (n m : Nat) (perm : List Nat) (fa fk : En → List O → R (List U)) (C : List U → List O → R U) : En → List O → R U := fun σ h => (fa σ h).bind fun us h => (fk σ h).bind fun ws h => if us.length = n ∧ ws.length = m then C (permL perm (us ++ ws)) h else .bad
theorem call_post {K : PySem.W.Frag} {σ : L2.St} {H : Hp} {μ : List Addr} {r : R U} {Q : VK} {W : WX} (p : Post K W σ H μ (RU K) r Q) : Post K (fun c d _ H => WE W σ c d H) [] H μ (RU K) r Q := by
  cases r with
  | ok a h => exact p
  | err c h => exact p
  | bad => exact p
theorem den_call {k : Nat} {f : Addr} {fd : FuncData} {ps ks : List Str} {perm : List Nat} {x : Str} {p pos : Pos} {es : List Expr} {kws : List Keyword} {fa fk : En → List O → R (List U)} {C : List U → List O → R U}
    (F : FnOk X.prog X.w X.K X.mg X.base (L2.CX X.prog X.w) k f fd ps (spF X.K ps.length C)) (hr : Room k X.A) (hg : Gl X x) (hm : X.mg x = some (.ref f)) (hk : PySem.W.keepIn X.K (.ref f) = true) (hb : BindOk X.K fd ps es.length ks perm) (tk : Takes X W)
    (hp : perm.length = ps.length) (hpm : ∀ i ∈ perm, i < es.length + ks.length) (ha : DenA X W es fa) (hkw : DenK X W kws fk) (hks : kwNames kws = some ks) (hns : noStar es = true) (hdb : (x == ("__debug__" : Str)) = false) (hnil : es = [] → fa = evNil) :
    Den X W (.Call (.Name x p) es kws pos) (evCl es.length ks.length perm fa fk C) := by
  have plen : ∀ (l : List V), l.length = es.length + ks.length → (permL perm l).length = ps.length := by
    intro l hl
    rw [← hp]
    unfold permL
    clear hp hb
    induction perm with
    | nil => rfl
    | cons i q ih =>
      have h1 : i < l.length := by rw [hl]; exact hpm i List.mem_cons_self
      rw [List.filterMap_cons, List.getElem?_eq_getElem h1, List.length_cons, List.length_cons, ih fun j hj => hpm j (List.mem_cons_of_mem _ hj)]
  obtain ⟨tq, pk, ck⟩ := hkw
  cases es with
  | nil =>
    cases hnil rfl
    refine ⟨_, pe_callB0 F hr hg hm hk hb (fun σ => passAt tk σ) pk hks hdb, fun σ' h σ H μ Q re rh p => ?_⟩
    refine ck σ' h σ H μ _ re rh (Post.bind (Rel := RUs X.K) (show Post X.K W σ H μ (RU X.K) ((fk σ' h).bind fun ws h => if ([] : List U).length = 0 ∧ ws.length = ks.length then C (permL perm ([] ++ ws)) h else .bad) Q from p) fun ws h2 H2 μ2 zs e2 rh2 rz p2 => ?_)
    by_cases hl : ([] : List U).length = 0 ∧ ws.length = ks.length
    · rw [if_pos hl] at p2
      have l2 : zs.length = ks.length := rz.length.symm.trans hl.2
      exact ⟨rfl, l2, plen _ (by simpa using l2), _, h2, μ2, rh2, permL_rel (RUs.app .nil rz), call_post p2⟩
    · rw [if_neg hl] at p2; exact p2.elim
  | cons e es =>
    obtain ⟨ta, pa, ca⟩ := ha
    refine ⟨_, pe_callB1 F hr hg hm hk hb (fun σ => passAt tk σ) pa pk hks hns hdb, fun σ' h σ H μ Q re rh p => ?_⟩
    refine ca σ' h σ H μ _ re rh (Post.bind p fun us h1 H1 μ1 xs e1 rh1 ru p1 => ?_)
    refine ck σ' h1 σ H1 μ1 _ (re.ext e1) rh1 (Post.bind p1 fun ws h2 H2 μ2 zs e2 rh2 rz p2 => ?_)
    by_cases hl : us.length = (e :: es).length ∧ ws.length = ks.length
    · rw [if_pos hl] at p2
      have l1 : xs.length = (e :: es).length := ru.length.symm.trans hl.1
      have l2 : zs.length = ks.length := rz.length.symm.trans hl.2
      exact ⟨l1, l2, plen _ (by rw [List.length_append, l1, l2]), _, h2, μ2, rh2, permL_rel ((ru.mapU (fun u x r => r.ext e2)).app rz), call_post p2⟩
    · rw [if_neg hl] at p2; exact p2.elim
end
end Py

/-! sorted(set(xs)) -/
namespace Py
open PySem PySem.Spec PyProof.Rows L2
def insU (x : Int) : List Int → List Int
  | [] => [x]
  | y :: r => if x < y then x :: y :: r else if x = y then y :: r else y :: insU x r
/-- ascending, each once -/
def ssI : List Int → List Int
  | [] => []
  | x :: r => insU x (ssI r)
theorem insU_mem (x z : Int) : ∀ l : List Int, z ∈ insU x l ↔ z = x ∨ z ∈ l
  | [] => by simp [insU]
  | y :: r => by
    unfold insU
    split
    · simp
    · split
      · rename_i h; subst h; simp
      · rw [List.mem_cons, insU_mem x z r, List.mem_cons]
        constructor <;> (intro h; rcases h with h | h | h <;> simp [h])
theorem ssI_mem (z : Int) : ∀ l : List Int, z ∈ ssI l ↔ z ∈ l
  | [] => by simp [ssI]
  | y :: r => by rw [ssI, insU_mem, ssI_mem z r, List.mem_cons]
theorem insU_asc (x : Int) : ∀ l : List Int, l.Pairwise (· < ·) → (insU x l).Pairwise (· < ·)
  | [], _ => by simp [insU]
  | y :: r, h => by
    obtain ⟨h1, h2⟩ := List.pairwise_cons.mp h
    unfold insU
    split
    · rename_i hxy
      refine List.pairwise_cons.mpr ⟨fun z hz => ?_, h⟩
      rcases List.mem_cons.mp hz with e | hz
      · rw [e]; exact hxy
      · exact Int.lt_trans hxy (h1 z hz)
    · split
      · exact h
      · rename_i n1 n2
        refine List.pairwise_cons.mpr ⟨fun z hz => ?_, insU_asc x r h2⟩
        rcases (insU_mem x z r).mp hz with e | hz
        · omega
        · exact h1 z hz
theorem ssI_asc : ∀ l : List Int, (ssI l).Pairwise (· < ·)
  | [] => .nil
  | y :: r => insU_asc y _ (ssI_asc r)
theorem asc_unique : ∀ {xs ys : List Int}, xs.Pairwise (· < ·) → ys.Pairwise (· < ·) → (∀ k, k ∈ xs ↔ k ∈ ys) → xs = ys
  | [], [], _, _, _ => rfl
  | [], y :: ys, _, _, h => absurd ((h y).mpr List.mem_cons_self) (by simp)
  | x :: xs, [], _, _, h => absurd ((h x).mp List.mem_cons_self) (by simp)
  | x :: xs, y :: ys, h1, h2, h => by
    obtain ⟨a1, a2⟩ := List.pairwise_cons.mp h1
    obtain ⟨b1, b2⟩ := List.pairwise_cons.mp h2
    have e : x = y := by
      rcases List.mem_cons.mp ((h x).mp List.mem_cons_self) with e | m
      · exact e
      · rcases List.mem_cons.mp ((h y).mpr List.mem_cons_self) with e | n
        · exact e.symm
        · have := b1 x m
          have := a1 y n
          omega
    subst e
    rw [asc_unique a2 b2 fun k => ?_]
    constructor
    · intro m
      rcases List.mem_cons.mp ((h k).mp (List.mem_cons_of_mem _ m)) with e | n
      · have := a1 k m
        omega
      · exact n
    · intro m
      rcases List.mem_cons.mp ((h k).mpr (List.mem_cons_of_mem _ m)) with e | n
      · have := b1 k m
        omega
      · exact n
/-- how many there are among the first ones, unlike -/
theorem insU_len (x : Int) : ∀ l : List Int, l.Pairwise (· < ·) → (insU x l).length = if x ∈ l then l.length else l.length + 1
  | [], _ => by simp [insU]
  | y :: r, h => by
    obtain ⟨h1, h2⟩ := List.pairwise_cons.mp h
    unfold insU
    split
    · rename_i hxy
      rw [if_neg]
      · rfl
      · intro m
        rcases List.mem_cons.mp m with e | m
        · omega
        · have := h1 x m
          omega
    · split
      · rename_i e; subst e; rw [if_pos List.mem_cons_self]
      · rename_i n1 n2
        rw [List.length_cons, insU_len x r h2]
        by_cases m : x ∈ r
        · rw [if_pos m, if_pos (List.mem_cons_of_mem _ m), List.length_cons]
        · rw [if_neg m, if_neg (by rw [List.mem_cons, not_or]; exact ⟨n2, m⟩), List.length_cons]
theorem ssI_congr {xs ys : List Int} (h : ∀ k, k ∈ xs ↔ k ∈ ys) : ssI xs = ssI ys :=
  asc_unique (ssI_asc _) (ssI_asc _) fun k => by rw [ssI_mem, ssI_mem]; exact h k
theorem ssI_snoc (l : List Int) (z : Int) : (ssI (l ++ [z])).length = if z ∈ l then (ssI l).length else (ssI l).length + 1 := by
  have e : ssI (l ++ [z]) = insU z (ssI l) := asc_unique (ssI_asc _) (insU_asc _ _ (ssI_asc _)) fun k => by
    rw [ssI_mem, insU_mem, ssI_mem, List.mem_append, List.mem_singleton]
    exact Or.comm
  rw [e, insU_len _ _ (ssI_asc _)]
  by_cases m : z ∈ l
  · rw [if_pos m, if_pos ((ssI_mem z l).mpr m)]
  · rw [if_neg m, if_neg fun k => m ((ssI_mem z l).mp k)]
theorem ssI_take_le (l : List Int) (i : Nat) : (ssI (l.take i)).length ≤ (ssI l).length := by
  have key : ∀ (r l : List Int), (ssI l).length ≤ (ssI (l ++ r)).length := by
    intro r
    induction r with
    | nil => intro l; rw [List.append_nil]; exact Nat.le_refl _
    | cons x r ih =>
      intro l
      have h1 := ih (l ++ [x])
      have h2 := ssI_snoc l x
      rw [List.append_assoc] at h1
      have : (ssI l).length ≤ (ssI (l ++ [x])).length := by rw [h2]; split <;> omega
      exact Nat.le_trans this h1
  have := key (l.drop i) (l.take i)
  rwa [List.take_append_drop] at this
section
variable {P : Program} {w : World} {A : Around} {E : Value → Shared → Prop} {s : Shared}
/-- an empty set, as set() lays it -/
abbrev emptySet (w : World) : Obj := { cls := .type "set", dict := none, data := .set #[] 0 (.fresh 0 0 (!w.params.followText "set-order")) }
theorem fill_ints {I : Addr} {fp wr : List Addr} {G : Array GenState → Array GenState → Prop} {n : Nat} {Pv : Nat → Value → Prop} {St : Nat → Shared → Prop} {R : Result → Shared → Prop}
    (W : WalksS P w A.in1 I fp wr G n Pv St) (S : Addr) (hSf : S ∉ fp) (ns : List Int) (hn : n = ns.length) (hb : (ssI ns).length + 1 < scanBound) (hval : ∀ i v, Pv i v → ∃ k t, ns[i]? = some k ∧ v = .int k t) :
    ∀ (m i : Nat) (s : Shared), n - i = m → i ≤ n → St i s → SetR w s.heap S (fun j => decide (j ∈ ns.take i)) (ssI (ns.take i)).length →
      (∀ s', Moved (S :: wr) G s s' → SetR w s'.heap S (fun j => decide (j ∈ ns)) (ssI ns).length → R (.ok (.ret .none)) s') → codeAny (model P w) A (.builtin "set.update.loop" ⟨[.ref S, .ref I], []⟩) R s := by
  have away : S ∉ wr := fun h => hSf (W.sub _ h)
  have more : ∀ b ∈ wr, b ∈ S :: wr := fun b h => List.mem_cons_of_mem _ h
  intro m
  induction m with
  | zero =>
    intro i s hm hi st hS fin
    obtain rfl : i = n := by omega
    refine codeAny_builtin F.entry_set_update_loop ?_; rw [Around.under_plainId F.plain_set_update_loop _]; show wpAny _ A.in1 (pyNext (.ref I) >>= _) _ _ s
    refine wpAny_bind (W.done s _ _ st fun s1 mv => ?_); show wpAny _ A.in1 (ret Value.none) _ _ s1
    rw [List.take_of_length_le (Nat.le_of_eq hn.symm)] at hS
    exact wpAny_pure (fin s1 (mv.mono more) (hS.at fun o e => mv.heap S o away e))
  | succ m ih =>
    intro i s hm hi st hS fin
    have lt : i < n := by omega
    refine codeAny_builtin F.entry_set_update_loop ?_; rw [Around.under_plainId F.plain_set_update_loop _]; show wpAny _ A.in1 (pyNext (.ref I) >>= _) _ _ s
    refine wpAny_bind (W.item i s _ _ lt st fun v s1 hP st1 mv => ?_)
    obtain ⟨z, t, hz, rfl⟩ := hval i v hP
    have hS1 : SetR w s1.heap S (fun j => decide (j ∈ ns.take i)) (ssI (ns.take i)).length := hS.at fun o e => mv.heap S o away e
    show wpAny _ A.in1 (holding [Value.int z t] (setAdd S (.int z t)) >>= _) _ _ s1
    refine wpAny_bind (wpAny_holding ?_); unfold setAdd; refine wpAny_holding ?_
    refine wpAny_bind ((intKind P w).pyHash (k := z) (intKind_is _ _ _ _) ?_)
    have few : (ssI (ns.take i)).length ≤ (ssI ns).length := ssI_take_le ns i
    refine setR_add_hashed (s := { s1 with toks := s1.toks + 1 }) hS1 (by omega) fun h2 sb hS2 => ?_
    have hS3 : SetR w h2 S (fun j => decide (j ∈ ns.take (i + 1))) (ssI (ns.take (i + 1))).length := by
      have e1 : ns.take (i + 1) = ns.take i ++ [z] := by rw [List.take_add_one, hz]; rfl
      rw [e1, ssI_snoc]
      have e2 : (if decide (z ∈ ns.take i) = true then (ssI (ns.take i)).length else (ssI (ns.take i)).length + 1) = if z ∈ ns.take i then (ssI (ns.take i)).length else (ssI (ns.take i)).length + 1 := by simp
      rw [e2] at hS2
      exact hS2.congr fun j => by simp [List.mem_append]
    refine wpAny_pure ⟨plainId_quiet F.plain_set_update_loop _, ih (i + 1) _ (by omega) lt (W.frame _ s1 _ _ st1 (Nat.le_succ _) fun b hb o e => (sb.2 b fun h : b = S => hSf (h ▸ hb)).trans e) hS3 fun s3 mv3 hS4 => ?_⟩
    refine fin s3 (Moved.trans W.gtrans ((mv.mono more).then_heap (Nat.le_succ _) fun b o hb e => (sb.2 b fun h : b = S => hb (h ▸ List.mem_cons_self)).trans e) mv3) hS4
end
end Py
namespace Py
open PySem PySem.Spec PyProof.Rows L2
section
variable {P : Program} {w : World} {A : Around} {E : Value → Shared → Prop} {s : Shared}
set_option maxHeartbeats 4000000 in
/-- set(xs) of a list of ints, with its order -/
theorem set_of_list {l : Addr} {items : Array Value} (ns : List Int) {Q : Value → Shared → Prop} (hh : A.handled = none) (hl : s.heap.IsList l items) (hit : IntsAre items.toList ns) (hb : (ssI ns).length + 1 < scanBound)
    (h : ∀ (h' : Heap) (tk : Nat), SetR w h' s.heap.objs.size (fun j => decide (j ∈ ns)) (ssI ns).length → (∀ b o, s.heap.get? b = some o → h'.get? b = some o) → Q (.ref s.heap.objs.size) { s with heap := h', toks := tk }) :
    wpAny (model P w) A (call (.type "set") [.ref l]) Q E s := by
  have many : items.size = ns.length := by have q := IntsAre.length hit; rwa [Array.length_toList] at q
  have hlS : l < s.heap.objs.size := by obtain ⟨_, q, _⟩ := hl; exact Heap.lt_size q
  obtain ⟨c, tl, hmro⟩ := F.called_set.mro
  have made := F.called_set.made; have subs := F.called_set.sub
  refine wpAny_call (codeAny_of_tree ?_); show wpAny _ _ (callAny (.type "set") _) _ _ _
  refine wpAny_pure ⟨Code.quiet_builtin _ (by decide +kernel), codeAny_builtin F.entry_type_call ?_⟩; rw [Around.under_plain (weight_type_call_type "set" [.ref l] []) rfl]
  have f1 := F.called_set.notType; have f2 := F.called_set.canCreate; have f3 := F.typeCall_set_1 (.ref l)
  repeat (any_goals (first | assumption | wp_step))

  refine codeAny_mono (code_set_led1 (.ref l) (E := E) (Q₁ := fun obj s1 => obj = .ref s.heap.objs.size ∧ s1 = { s with heap := s.heap.push (emptySet w) }) ⟨rfl, rfl⟩) fun r s1 hr => ?_
  cases r with
  | error e => exact hr
  | ok fl =>
    cases fl with
    | ret obj =>
      obtain ⟨rfl, rfl⟩ := hr
      have atS : (s.heap.push (emptySet w)).get? s.heap.objs.size = some (emptySet w) := Heap.get?_push_size _ rfl
      have tyS : Shared.TypeIs { s with heap := s.heap.push (emptySet w) } (.ref s.heap.objs.size) "set" := ⟨_, atS, rfl⟩
      have g1 := F.called_set.init.lookup; have g2 := F.called_set.init.bind (.ref s.heap.objs.size)
      repeat (any_goals (first | assumption | wp_step))

      refine codeAny_mono (codeAny_call_builtin (R := wants (fun r s2 => r = .none ∧ ∃ h' tk, s2 = { s with heap := h', toks := tk } ∧ SetR w h' s.heap.objs.size (fun j => decide (j ∈ ns)) (ssI ns).length ∧ (∀ b o, s.heap.get? b = some o → h'.get? b = some o)) E)
        F.called_set.init.plain F.entry_set_init (check_set_init_1 tyS ?_)) fun r2 s2 hr2 => ?_
      · obtain ⟨⟨lc, ld, lx, ls⟩, ol, o1, on, o2⟩ := hl
        simp only at o1 o2; subst o1 o2
        have ol2 : (s.heap.push (emptySet w)).get? l = some { cls := .type "list", dict := ld, data := .seq items on, slots := ls } := Heap.get?_push_of_some _ ol
        have n1 := F.sub_list_set; have n2 := F.sub_list_frozenset
        have n3 : (Value.type "list" == Value.type "dict") = false := by decide
        have isL : (s.heap.push (emptySet w)).IsList l items := ⟨_, ol2, rfl, on, rfl⟩
        unfold Builtin.«set.__init__» noKeywords Builtin.Frozenset.updateFrom; generalize itq : pyIter = IT; wp_walk; subst itq

        refine wpAny_pyIter_list isL (wpAny_bind (wpAny_runValue ?_))
        have calm3 : A.in1.in1.in1.handled = none := by simp [hh]
        have sz : (s.heap.push (emptySet w)).objs.size = s.heap.objs.size + 1 := Heap.size_push ..
        have u1 : l ≠ (s.heap.push (emptySet w)).objs.size := by rw [sz]; exact Nat.ne_of_lt (Nat.lt_succ_of_lt hlS)
        have u2 : s.heap.objs.size ∉ [(s.heap.push (emptySet w)).objs.size, l] := by
          rw [sz]; simp only [List.mem_cons, List.not_mem_nil, or_false, not_or]
          exact ⟨Nat.ne_of_lt (Nat.lt_succ_self _), Nat.ne_of_gt hlS⟩
        have vals : ∀ (i : Nat) (v : Value), items[i]? = some v → ∃ k t, ns[i]? = some k ∧ v = .int k t := fun i v hv => by
          have hi : i < ns.length := by rw [← many]; exact (Array.getElem?_eq_some_iff.mp hv).1
          obtain ⟨t, e⟩ := IntsAre.int_at hit i v (by rw [Array.getElem?_toList]; exact hv)
          exact ⟨ns[i], t, List.getElem?_eq_getElem hi, by rw [e, List.getD_eq_getElem?_getD, List.getElem?_eq_getElem hi] <;> rfl⟩
        refine fill_ints ((Walks.list calm3 _ l u1 items).toS) s.heap.objs.size u2 ns many hb vals (items.size - 0) 0 _ (by omega) (Nat.zero_le _) ⟨⟨_, Heap.get?_push_size _ rfl, rfl, rfl⟩, (isL.push _)⟩ ?s0 ?sR
        case s0 => exact setR_new_at (Heap.get?_push_of_some _ atS)
        case sR =>
          intro s3 mv hS3
          obtain ⟨h', g2, d', tk', os'⟩ := s3
          obtain rfl : g2 = s.gens := mv.gens
          obtain rfl : d' = s.drawn := mv.drawn
          obtain rfl : os' = s.os := mv.os
          show wpAny _ _ _ _ _ _; refine wpAny_pure ?_; show wpAny _ _ (ret Value.none) _ _ _
          refine wpAny_pure ⟨rfl, h', tk', rfl, hS3, fun b o e => mv.heap b o ?_ (Heap.get?_push_of_some _ (Heap.get?_push_of_some _ e))⟩
          have hb0 := Heap.lt_size e
          rw [sz]; simp only [List.mem_cons, List.not_mem_nil, or_false, not_or]
          exact ⟨Nat.ne_of_lt hb0, Nat.ne_of_lt (Nat.lt_succ_of_lt hb0)⟩

      · cases r2 with
        | error e => exact hr2
        | ok fl2 =>
          cases fl2 with
          | ret r =>
            obtain ⟨rfl, h', tk, rfl, q1, q2⟩ := hr2
            repeat (any_goals (first | assumption | wp_step))
            exact h _ _ q1 q2
          | _ => exact hr2.elim
    | _ => exact hr.elim
end
section
variable {X : Cx} {W : WX}
/-- what set(xs) asks -/
def rSetL (K : PySem.W.Frag) (w : World) : List V → Hp → VK → Prop := fun vs H Q => ∃ (a : Addr) (ns : List Int), vs = [V.ref a] ∧ SqL K H a (ns.map V.int) ∧ (ssI ns).length < 64 ∧ ∀ p, H p = none → Q (.ref p) (upd H p (SetO w p (fun j => decide (j ∈ ns)) (ssI ns).length))
theorem cr_setL (hc : X.calm = true) : CallR X (.type "set") (rSetL X.K X.w) := by
  intro pins s σ H vs us Q I r h
  obtain ⟨a, ns, rfl, hs, h64, q⟩ := h
  obtain ⟨its, rv, hl, hz⟩ := I.list hs
  rw [Vals.ref1 r]
  refine set_of_list ns (I.ok.hd hc) hl.isList (by simpa using rv.ints) (by unfold scanBound; omega) fun h' tk R k => ?_
  exact ⟨.ref s.heap.objs.size, upd H s.heap.objs.size (SetO X.w s.heap.objs.size (fun j => decide (j ∈ ns)) (ssI ns).length), I.laid (t' := tk) k (Nat.le_refl _) (setO_new R), rfl, q _ (I.hok.fresh (Nat.le_refl _))⟩
def ssU (m : Bool) (u : U) (h : List O) : R U := (opt ((lstLike u h).bind intsOf) h).bind fun ns h => if (ssI ns).length < 64 then mkL m ((ssI ns).map .int) h else .bad
theorem den_ss {m : Bool} {e : Expr} {p p2 pos pos2 : Pos} {fe : En → List O → R U} (hc : X.calm = true) (g1 : Gl X "sorted") (m1 : X.mg "sorted" = none) (g2 : Gl X "set") (m2 : X.mg "set" = none) (he : Den X W e fe) (hs : isStar e = false) :
    Den X W (.Call (.Name "sorted" p) [.Call (.Name "set" p2) [e] [] pos2] [] pos) (ev1 fe (ssU m)) := by
  obtain ⟨te, pe, ce⟩ := he
  refine ⟨_, pe_callB (cr_sortedSet hc) g1 m1 PyProof.Rows.boot_sorted (pa_cons (pe_callTy (cr_setL hc) g2 m2 PyProof.Rows.boot_set (pa_cons pe pa_nil (star1 hs)) (he := star1 hs)) pa_nil), fun σ' h σ H μ Q re rh p => ?_⟩
  refine ce σ' h σ H μ _ re rh (Post.bind p fun u h1 H1 μ1 x e1 rh1 ru p1 => ?_)
  obtain ⟨ns, en, p2⟩ := Post.opt p1
  by_cases hl : (ssI ns).length < 64
  · rw [if_pos hl] at p2
    obtain ⟨xs, z, en2⟩ := Option.bind_eq_some_iff.mp en
    obtain ⟨a, vs, rfl, hq, rd⟩ := lstLike_of rh1 ru z
    have ev : vs = ns.map V.int := intsOf_of rd en2
    subst ev
    refine ⟨a, ns, rfl, hq, hl, fun q hq => ?_⟩
    refine ⟨q, _, _, rfl, upd_same, hl, fun ks l asc mem len hl => ?_⟩
    have ek : ks = ssI ns := asc_unique asc (ssI_asc ns) fun k => by rw [mem, ssI_mem]; simp
    subst ek
    have e2 : Ext μ1 H1 μ1 (upd H1 q (SetO X.w q (fun j => decide (j ∈ ns)) (ssI ns).length)) := Ext.new hq
    exact mkL_of (rh1.new hq) (RDs_ints _) (p2.at e2) l hl
  · rw [if_neg hl] at p2; exact p2.elim
end
end Py
/-! ### two clauses -/
namespace Py
open PySem PySem.Spec PyProof.Rows L2
theorem R.assoc {α β γ : Type} (r : R α) (f : α → List O → R β) (g : β → List O → R γ) : (r.bind f).bind g = r.bind fun a h => (f a h).bind g := by cases r <;> rfl
theorem noErr_bind {α β γ : Type} (r : R α) (f : α → List O → R β) (g : β → List O → R γ) : ((noErr r).bind f).bind g = (noErr r).bind fun a h => (f a h).bind g := R.assoc _ _ _
def lcGo2 (S : Src) (t : Tg) (vs : List Nat) (ft : En → List O → R Bool) (fi1 : En → List O → R Src) (t1 : Tg) (vs1 : List Nat) (ft1 : En → List O → R Bool) (fe : En → List O → R U) (a0 : Nat) : Nat → Nat → En → List O → R Unit
  | 0, _, _, _ => .bad
  | k + 1, i, σ, h => match S.at_ i h with
    | none => .bad
    | some none => .ok () h
    | some (some u) => match asg t u (wipeE σ vs) with
      | none => .bad
      | some σ1 => (noErr (ft σ1 h)).bind fun b h1 => if b = true then (noErr (fi1 σ1 h1)).bind fun S1 h2 => (if h2.length = a0 + 1 then lcGo S1 t1 vs1 ft1 fe a0 S1.top 0 σ1 h2 else .bad).bind fun _ h3 => lcGo2 S t vs ft fi1 t1 vs1 ft1 fe a0 k (i + 1) σ h3
        else lcGo2 S t vs ft fi1 t1 vs1 ft1 fe a0 k (i + 1) σ h1
def evLc2 (m : Bool) (t : Tg) (vs : List Nat) (fi : En → List O → R Src) (ft : En → List O → R Bool) (t1 : Tg) (vs1 : List Nat) (fi1 : En → List O → R Src) (ft1 : En → List O → R Bool) (fe : En → List O → R U) : En → List O → R U := fun σ h =>
  (fi σ h).bind fun S h1 => (lcGo2 S t vs ft fi1 t1 vs1 ft1 fe h1.length S.top 0 σ (h1 ++ [.lst []])).bind fun _ h2 => lcFin m h1.length h2
def tI (K : PySem.W.Frag) (W : WX) (f : En → List O → R Src) : TI := fun σ H Rr => ∃ σ' h μ, RE K H μ σ' σ ∧ Rh K H μ h ∧ Post K W σ H μ (SrR K) (f σ' h) Rr
section
variable {X : Cx} {W : WX}
theorem DenI.pi {tg e : Expr} {f : En → List O → R Src} (h : DenI X W tg e f) : PI X tg e (tI X.K W f) := by
  obtain ⟨t, p, c⟩ := h
  exact ⟨fun pins s σ H R I ⟨σ', h, μ, re, rh, q⟩ => p.run pins s σ H R I (c σ' h σ H μ R re rh q)⟩
/-- the loop of one clause, whatever comes behind it -/
theorem lc_loop {K : PySem.W.Frag} {σ σ1 : L2.St} {H1 H4 HD : Hp} {μ1 μ4 : List Addr} {Da : Addr} {a0 : Nat} {Q : VK} {S : Src} {J : It} {t : Tg} {vs : List Nat} {ft : En → List O → R Bool} {fe : En → List O → R U} {rest : List O → R U} {Nx : Hp → Prop} {σ1' : En} {h1 h4 : List O}
    (e0 : Ext μ1 H1 (μ1 ++ [Da]) HD) (ha : h1.length = a0) (hl : h1.length = μ1.length) (sr : SrR K H4 μ4 S J) (hl4 : μ4.length ≤ a0 + 1) (hsl : ∀ i ∈ t.slots, i ∈ vs)
    (nx : ∀ Hz μ' h', Ext (μ1 ++ [Da]) HD μ' Hz → Rh K Hz μ' h' → Post K W σ H1 μ1 (RU K) (rest h') Q → Nx Hz) (e4 : Ext (μ1 ++ [Da]) HD μ4 H4) (rh4 : Rh K H4 μ4 h4) (re4 : RE K H4 μ4 σ1' σ1)
    (p4 : Post K W σ H1 μ1 (RU K) ((lcGo S t vs ft fe a0 S.top 0 σ1' h4).bind fun _ h => rest h) Q) :
    ∃ W1 : Nat → Nat → Hp → Prop, (∃ m, W1 0 m H4) ∧ ∀ j k H, W1 j k H → (J.stop j H ∧ Nx H) ∨ (J.go j H ∧ ∃ Nx1 : Hp → Prop, (∀ H', Nx1 H' → ∃ k', k' < k ∧ W1 (j + 1) k' H') ∧ ∀ x H', J.yld j H x H' → tG K t x (wipe σ1 vs) H' fun σ3 H5 => wipe σ3 vs = wipe σ1 vs ∧
      tT K W0 ft σ3 H5 fun b H6 => if b = true then tE K W0 fe σ3 H6 fun y H7 => ∃ acc, H7 Da = some (.lst acc) ∧ acc.length < sizeLine ∧ Nx1 (upd H7 Da (.lst (acc ++ [y]))) else Nx1 H6) := by
  subst ha
  refine ⟨fun j k Hx => ∃ μ' h', Ext (μ1 ++ [Da]) HD μ' Hx ∧ Ext μ4 H4 μ' Hx ∧ Rh K Hx μ' h' ∧ Post K W σ H1 μ1 (RU K) ((lcGo S t vs ft fe h1.length k j σ1' h').bind fun _ h => rest h) Q,
    ⟨S.top, μ4, h4, e4, Ext.refl, rh4, p4⟩, ?_⟩
  rintro j k Hx ⟨μ', h', ex, ex4, rhx, px⟩
  cases k with
  | zero => exact px.elim
  | succ k =>
    unfold lcGo at px
    obtain ⟨sr1, sr2⟩ := sr Hx μ' h' ex4 rhx j
    cases hat : S.at_ j h' with
    | none => simp only [hat] at px; exact px.elim
    | some o =>
      cases o with
      | none => simp only [hat] at px; exact .inl ⟨sr1 hat, nx Hx μ' h' ex rhx px⟩
      | some u =>
        simp only [hat] at px
        obtain ⟨go, yl⟩ := sr2 u hat
        refine .inr ⟨go, fun Hz => ∃ μ' h', Ext (μ1 ++ [Da]) HD μ' Hz ∧ Ext μ4 H4 μ' Hz ∧ Rh K Hz μ' h' ∧ Post K W σ H1 μ1 (RU K) ((lcGo S t vs ft fe h1.length k (j + 1) σ1' h').bind fun _ h => rest h) Q, fun Hz z => ⟨k, Nat.lt_succ_self k, z⟩, fun x Hy y => ?_⟩
        obtain ⟨ey, rhy, ruy⟩ := yl x Hy y
        cases ea : asg t u (wipeE σ1' vs) with
        | none => simp only [ea] at px; exact px.elim
        | some σ2' =>
          simp only [ea] at px
          have re' : RE K Hy μ' σ1' σ1 := (re4.ext ex4).ext ey
          refine ⟨u, wipeE σ1' vs, σ2', μ', re'.wipe _, ruy, ea, fun σ2 re2 k2 => ⟨by rw [k2 _ hsl, wipe_idem], σ2', h', μ', re2, rhy, ?_⟩⟩
          rw [noErr_bind] at px
          refine Post.inner px fun b h3 H3 μ3 b' e3 rh3 rb p3 => ?_
          cases rb
          cases b with
          | false => rw [if_neg Bool.false_ne_true] at p3 ⊢; exact ⟨μ3, h3, (ex.trans ey).trans e3, (ex4.trans ey).trans e3, rh3, p3⟩
          | true =>
            rw [if_pos rfl] at p3 ⊢
            refine ⟨σ2', h3, μ3, re2.ext e3, rh3, ?_⟩
            rw [noErr_bind] at p3
            refine Post.inner p3 fun y h5 H5 μ5 yv e5 rh5 ry p5 => ?_
            have b5 := ((ex.trans ey).trans e3).trans e5
            have c5 := ((ex4.trans ey).trans e3).trans e5
            rw [R.assoc] at p5
            unfold pushAcc at p5
            split at p5
            · rename_i d acc ed q
              split at p5
              · rename_i hsz
                obtain ⟨hm, ws, q1, q2⟩ := at_acc b5 rh5 hl q
                have hz : ws.length < sizeLine := by rw [← q2.length, line_eq]; omega
                have rd := settle_ok rh5 ry ed
                have hmt : (μ5.take (h1.length + 1))[h1.length]? = some Da := by rw [List.getElem?_take_of_lt (by omega)]; exact hm
                exact ⟨ws, q1, hz, _, _, (b5.cut (by simp [hl])).trans (Ext.chg hmt q1), (c5.cut hl4).trans (Ext.chg hmt q1), (rh5.cut _).chg hmt (.lst ((q2.sub mem_take).append (.cons rd .nil))), p5⟩
              · exact p5.elim
            · exact p5.elim
theorem lc2_body {m : Bool} {t t1 : Tg} {wi : TI} {fi fi1 : En → List O → R Src} {ft ft1 : En → List O → R Bool} {fe : En → List O → R U} {vs vs1 : List Nat} (ci : ∀ σ' h σ H μ Rr, RE X.K H μ σ' σ → Rh X.K H μ h → Post X.K W σ H μ (SrR X.K) (fi σ' h) Rr → wi σ H Rr) (hsl : ∀ i ∈ t.slots, i ∈ vs) (hsl1 : ∀ i ∈ t1.slots, i ∈ vs1) :
    ∀ σ' h σ H μ Q, RE X.K H μ σ' σ → Rh X.K H μ h → Post X.K W σ H μ (RU X.K) (evLc2 m t vs fi ft t1 vs1 fi1 ft1 fe σ' h) Q → tLc2 wi (tG X.K t) (tT X.K W0 ft) (tI X.K W0 fi1) (tG X.K t1) (tT X.K W0 ft1) (tE X.K W0 fe) vs vs1 σ H Q := by
  intro σ' h σ H μ Q re rh p
  refine ci σ' h σ H μ _ re rh (Post.bind p fun S h1 H1 μ1 J e1 rh1 sr p1 => ?_)
  intro Da hD
  have e0 : Ext μ1 H1 (μ1 ++ [Da]) (upd H1 Da (.lst [])) := Ext.lab hD
  have hl := rh1.len
  refine ⟨fun i k Hx => ∃ μ' h', Ext (μ1 ++ [Da]) (upd H1 Da (.lst [])) μ' Hx ∧ Rh X.K Hx μ' h' ∧ Post X.K W σ H1 μ1 (RU X.K) ((lcGo2 S t vs ft fi1 t1 vs1 ft1 fe h1.length k i σ' h').bind fun _ h2 => lcFin m h1.length h2) Q,
    ⟨S.top, μ1 ++ [Da], h1 ++ [.lst []], Ext.refl, rh1.lab hD (.lst .nil), p1⟩, ?_⟩
  rintro i k Hx ⟨μ', h', ex, rhx, px⟩
  cases k with
  | zero => exact px.elim
  | succ k =>
    unfold lcGo2 at px
    obtain ⟨sr1, sr2⟩ := sr Hx μ' h' (e0.trans ex) rhx i
    cases hat : S.at_ i h' with
    | none => simp only [hat] at px; exact px.elim
    | some o =>
      cases o with
      | none => simp only [hat] at px; exact .inl ⟨sr1 hat, lcFin_of e0 ex rhx hl px⟩
      | some u =>
        simp only [hat] at px
        obtain ⟨go, yl⟩ := sr2 u hat
        refine .inr ⟨go, fun Hz => ∃ μ' h', Ext (μ1 ++ [Da]) (upd H1 Da (.lst [])) μ' Hz ∧ Rh X.K Hz μ' h' ∧ Post X.K W σ H1 μ1 (RU X.K) ((lcGo2 S t vs ft fi1 t1 vs1 ft1 fe h1.length k (i + 1) σ' h').bind fun _ h2 => lcFin m h1.length h2) Q,
          fun Hz z => ⟨k, Nat.lt_succ_self k, z⟩, fun x Hy y => ?_⟩
        obtain ⟨ey, rhy, ruy⟩ := yl x Hy y
        cases ea : asg t u (wipeE σ' vs) with
        | none => simp only [ea] at px; exact px.elim
        | some σ1' =>
          simp only [ea] at px
          have re' : RE X.K Hy μ' σ' σ := ((re.ext e1).ext (e0.trans ex)).ext ey
          refine ⟨u, wipeE σ' vs, σ1', μ', re'.wipe _, ruy, ea, fun σ1 re1 k1 => ⟨by rw [k1 _ hsl, wipe_idem], σ1', h', μ', re1, rhy, ?_⟩⟩
          rw [noErr_bind] at px
          refine Post.inner px fun b h3 H3 μ3 b' e3 rh3 rb p3 => ?_
          cases rb
          have ex3 := (ex.trans ey).trans e3
          cases b with
          | false => rw [if_neg Bool.false_ne_true] at p3 ⊢; exact ⟨μ3, h3, ex3, rh3, p3⟩
          | true =>
            rw [if_pos rfl] at p3 ⊢
            refine ⟨σ1', h3, μ3, re1.ext e3, rh3, ?_⟩
            rw [noErr_bind] at p3
            refine Post.inner p3 fun S1 h4 H4 μ4 J1 e4 rh4 sr4 p4 => ?_
            rw [R.assoc] at p4
            by_cases hh : h4.length = h1.length + 1
            · rw [if_pos hh] at p4
              exact lc_loop e0 rfl hl sr4 (by rw [← rh4.len]; omega) hsl1 (fun Hz μz hz ez rz pz => ⟨μz, hz, ez, rz, pz⟩) (ex3.trans e4) rh4 ((re1.ext e3).ext e4) p4
            · rw [if_neg hh] at p4; exact p4.elim
end
end Py
namespace Py
open PySem PySem.Spec PyProof.Rows L2
section
variable {X : Cx} {W : WX}
theorem den_lc2 {m : Bool} {elt tg iter tg1 iter1 : Expr} {ifs ifs1 : List Expr} {scope : Scope} {own : List (Str × Nat)} {pos : Pos} {t t1 : Tg} {vs vs1 : List Nat} {fi fi1 : En → List O → R Src} {ft ft1 : En → List O → R Bool} {fe : En → List O → R U} (hc : X.calm = true) (hN : X.N.Nodup) (hi : DenI X W tg iter fi) (ok : BlkOk X.N X.env.scope scope own)
    (hg : ∀ (s : Shared) (H : Hp) (C : Addr) (cl : List (Str × Addr)) (fp : List Addr), DenG (X.blk s H scope (compEnvC scope cl C X.env) fp) tg t)
    (ht : ∀ (s : Shared) (H : Hp) (C : Addr) (cl : List (Str × Addr)) (fp : List Addr), DenTs (X.blk s H scope (compEnvC scope cl C X.env) fp) W0 ifs ft)
    (hi1 : ∀ (s : Shared) (H : Hp) (C : Addr) (cl : List (Str × Addr)) (fp : List Addr), DenI (X.blk s H scope (compEnvC scope cl C X.env) fp) W0 tg1 iter1 fi1)
    (hg1 : ∀ (s : Shared) (H : Hp) (C : Addr) (cl : List (Str × Addr)) (fp : List Addr), DenG (X.blk s H scope (compEnvC scope cl C X.env) fp) tg1 t1)
    (ht1 : ∀ (s : Shared) (H : Hp) (C : Addr) (cl : List (Str × Addr)) (fp : List Addr), DenTs (X.blk s H scope (compEnvC scope cl C X.env) fp) W0 ifs1 ft1)
    (he : ∀ (s : Shared) (H : Hp) (C : Addr) (cl : List (Str × Addr)) (fp : List Addr), Den (X.blk s H scope (compEnvC scope cl C X.env) fp) W0 elt fe)
    (hv : own.map (·.2) = vs) (hsl : ∀ i ∈ t.slots, i ∈ vs) (hsl1 : ∀ i ∈ t1.slots, i ∈ vs1) (hvs : ∀ i ∈ vs1, i ∈ vs) (hs : isSetD iter = false) (hs1 : isSetD iter1 = false) :
    Den X W (.ListComp elt [⟨tg, iter, ifs, 0⟩, ⟨tg1, iter1, ifs1, 0⟩] scope pos) (evLc2 m t vs fi ft t1 vs1 fi1 ft1 fe) := by
  obtain ⟨wi, pi, ci⟩ := hi
  subst hv
  exact ⟨_, pe_lc2 (g := tG X.K t) (tt := tT X.K W0 ft) (wi1 := tI X.K W0 fi1) (g1 := tG X.K t1) (tt1 := tT X.K W0 ft1) (te := tE X.K W0 fe) (vs1 := vs1) hc hN pi ok hvs (fun s H C cl fp => (hg s H C cl fp).pg) ht (fun s H C cl fp => (hi1 s H C cl fp).pi) (fun s H C cl fp => (hg1 s H C cl fp).pg) ht1
    (fun s H C cl fp => (he s H C cl fp).pe) (noFold hs) (fun _ => noFold hs1), lc2_body ci hsl hsl1⟩
theorem dens_setLc2 {m : Bool} {i : Nat} {y : Str} {py : Pos} {elt tg iter tg1 iter1 : Expr} {ifs ifs1 : List Expr} {scope : Scope} {own : List (Str × Nat)} {pos spos : Pos} {t t1 : Tg} {vs vs1 : List Nat} {fi fi1 : En → List O → R Src} {ft ft1 : En → List O → R Bool} {fe : En → List O → R U} (hc : X.calm = true) (hN : X.N.Nodup) (hy : X.N[i]? = some y)
    (hyl : X.env.scope.names.lookup y = some .local) (hsw : swapsWith (.ListComp elt [⟨tg, iter, ifs, 0⟩, ⟨tg1, iter1, ifs1, 0⟩] scope pos) (some (.Name y py)) spos.line X.env = pure true) (hi : DenI X W tg iter fi) (ok : BlkOk X.N X.env.scope scope own)
    (hg : ∀ (s : Shared) (H : Hp) (C : Addr) (cl : List (Str × Addr)) (fp : List Addr), DenG (X.blk s H scope (compEnvC scope cl C X.env) fp) tg t)
    (ht : ∀ (s : Shared) (H : Hp) (C : Addr) (cl : List (Str × Addr)) (fp : List Addr), DenTs (X.blk s H scope (compEnvC scope cl C X.env) fp) W0 ifs ft)
    (hi1 : ∀ (s : Shared) (H : Hp) (C : Addr) (cl : List (Str × Addr)) (fp : List Addr), DenI (X.blk s H scope (compEnvC scope cl C X.env) fp) W0 tg1 iter1 fi1)
    (hg1 : ∀ (s : Shared) (H : Hp) (C : Addr) (cl : List (Str × Addr)) (fp : List Addr), DenG (X.blk s H scope (compEnvC scope cl C X.env) fp) tg1 t1)
    (ht1 : ∀ (s : Shared) (H : Hp) (C : Addr) (cl : List (Str × Addr)) (fp : List Addr), DenTs (X.blk s H scope (compEnvC scope cl C X.env) fp) W0 ifs1 ft1)
    (he : ∀ (s : Shared) (H : Hp) (C : Addr) (cl : List (Str × Addr)) (fp : List Addr), Den (X.blk s H scope (compEnvC scope cl C X.env) fp) W0 elt fe)
    (hv : own.map (·.2) = vs) (hsl : ∀ i ∈ t.slots, i ∈ vs) (hsl1 : ∀ i ∈ t1.slots, i ∈ vs1) (hvs : ∀ i ∈ vs1, i ∈ vs) (hs : isSetD iter = false) (hs1 : isSetD iter1 = false) :
    DenS X W (.Assign [.Name y py] (.ListComp elt [⟨tg, iter, ifs, 0⟩, ⟨tg1, iter1, ifs1, 0⟩] scope pos) spos) (sAsg (evLc2 m t vs fi ft t1 vs1 fi1 ft1 fe) (.nm i)) := by
  obtain ⟨wi, pi, ci⟩ := hi
  subst hv
  refine dens_of (ps_setLc2 (g := tG X.K t) (tt := tT X.K W0 ft) (wi1 := tI X.K W0 fi1) (g1 := tG X.K t1) (tt1 := tT X.K W0 ft1) (te := tE X.K W0 fe) (vs1 := vs1) hc hN hy hyl hsw pi ok hvs (fun s H C cl fp => (hg s H C cl fp).pg) ht (fun s H C cl fp => (hi1 s H C cl fp).pi)
    (fun s H C cl fp => (hg1 s H C cl fp).pg) ht1 (fun s H C cl fp => (he s H C cl fp).pe) (noFold hs) (fun _ => noFold hs1)) fun σ' h σ H μ D re rh p => ?_
  exact lc2_body ci hsl hsl1 σ' h σ H μ _ re rh (PostS.stm re p fun a h1 H1 μ1 b e1 rh1 rel p1 => p1.nx rh1 ((re.ext e1).set rel))
/-! ### list(range(..)), tuple(range(..)) -/
def rgD (a b : Int) : List D := (List.range (b - a).toNat).map fun i => .int (a + (i : Nat))
theorem rgD_rel {K : PySem.W.Frag} {H : Hp} {μ : List Addr} (a b : Int) : RDs K H μ (rgD a b) (rgV a b) := by
  unfold rgD rgV
  generalize List.range (b - a).toNat = l
  induction l with
  | nil => exact .nil
  | cons x l ih => exact .cons (.int _) ih
def rgB (a b : Int) : Bool := decide (-1000000000000000000 ≤ a) && decide (a ≤ 1000000000000000000) && decide (-1000000000000000000 ≤ b) && decide (b ≤ 1000000000000000000) && decide (b - a ≤ 10000000)
theorem rgB_ok {a b : Int} (h : rgB a b = true) : RgOk a b := by
  unfold rgB at h
  simp only [Bool.and_eq_true, decide_eq_true_eq] at h
  obtain ⟨⟨⟨⟨h1, h2⟩, h3⟩, h4⟩, h5⟩ := h
  have e : (2 : Int) ^ 62 = 4611686018427387904 := by decide
  exact ⟨by omega, by omega, by omega, by omega, by omega⟩
def rgEnds (us : List U) : Option (Int × Int) := match us with
  | [.d (.int j)] => some (0, j)
  | [.d (.int i), .d (.int j)] => some (i, j)
  | _ => none
def rngLU (tup m : Bool) (us : List U) (h : List O) : R U := (opt (rgEnds us) h).bind fun p h => if rgB p.1 p.2 = true then (if tup = true then .ok (.d (.tuple (rgD p.1 p.2))) h else mkL m (rgD p.1 p.2) h) else .bad
theorem rgEnds1 {u : U} {p : Int × Int} (h : rgEnds [u] = some p) : u = .d (.int p.2) ∧ p.1 = 0 := by
  unfold rgEnds at h
  split at h
  · rename_i j e; cases e; cases h; exact ⟨rfl, rfl⟩
  · rename_i i j e; cases e
  · cases h
theorem rgEnds2 {u v : U} {p : Int × Int} (h : rgEnds [u, v] = some p) : u = .d (.int p.1) ∧ v = .d (.int p.2) := by
  unfold rgEnds at h
  split at h
  · rename_i j e; cases e
  · rename_i i j e; cases e; cases h; exact ⟨rfl, rfl⟩
  · cases h
theorem rngLU_tup {K : PySem.W.Frag} {m : Bool} {us : List U} {h : List O} {σ : L2.St} {H : Hp} {μ : List Addr} {Q : VK} (rh : Rh K H μ h) (q : Post K W σ H μ (RU K) (rngLU true m us h) Q) : ∃ p, rgEnds us = some p ∧ RgOk p.1 p.2 ∧ ∀ l, H l = none → Q (.ref l) (upd H l (.tup (rgV p.1 p.2))) := by
  obtain ⟨p, ep, q⟩ := Post.opt q
  by_cases hb : rgB p.1 p.2 = true
  · rw [if_pos hb, if_pos rfl] at q; exact ⟨p, ep, rgB_ok hb, tup_of rh (rgD_rel _ _) q⟩
  · rw [if_neg hb] at q; exact q.elim
theorem rngLU_lst {K : PySem.W.Frag} {m : Bool} {us : List U} {h : List O} {σ : L2.St} {H : Hp} {μ : List Addr} {Q : VK} (rh : Rh K H μ h) (q : Post K W σ H μ (RU K) (rngLU false m us h) Q) : ∃ p, rgEnds us = some p ∧ RgOk p.1 p.2 ∧ ∀ l, H l = none → Q (.ref l) (upd H l (.lst (rgV p.1 p.2))) := by
  obtain ⟨p, ep, q⟩ := Post.opt q
  by_cases hb : rgB p.1 p.2 = true
  · rw [if_pos hb, if_neg Bool.false_ne_true] at q; exact ⟨p, ep, rgB_ok hb, mkL_of rh (rgD_rel _ _) q⟩
  · rw [if_neg hb] at q; exact q.elim
theorem den_rngL1 {m tup : Bool} {x : Str} {a : Expr} {p p2 pos pos2 : Pos} {fa : En → List O → R U} (hc : X.calm = true) (hx : x = if tup = true then "tuple" else "list") (g1 : Gl X x) (m1 : X.mg x = none) (g2 : Gl X "range") (m2 : X.mg "range" = none) (ha : Den X W a fa) (hs : isStar a = false) :
    Den X W (.Call (.Name x p) [.Call (.Name "range" p2) [a] [] pos2] [] pos) (ev1 fa fun u h => rngLU tup m [u] h) := by
  obtain ⟨t, pa, c⟩ := ha
  have rg := prg_1 (X := X) (p := p2) (pos := pos2) g2 m2 pa (star1 hs)
  cases tup with
  | true =>
    obtain rfl : x = "tuple" := hx
    refine ⟨_, pe_tupRg hc g1 m1 rg, fun σ' h σ H μ Q re rh q => ?_⟩
    refine c σ' h σ H μ _ re rh (Post.bind q fun u h1 H1 μ1 x e1 rh1 ru p1 => ?_)
    obtain ⟨⟨i, j⟩, ep, q1, q2⟩ := rngLU_tup rh1 p1
    obtain ⟨rfl, e0⟩ := rgEnds1 ep
    obtain rfl : i = 0 := e0
    exact ⟨j, ru.int_inv, q1, q2⟩
  | false =>
    obtain rfl : x = "list" := hx
    refine ⟨_, pe_listRg hc g1 m1 rg, fun σ' h σ H μ Q re rh q => ?_⟩
    refine c σ' h σ H μ _ re rh (Post.bind q fun u h1 H1 μ1 x e1 rh1 ru p1 => ?_)
    obtain ⟨⟨i, j⟩, ep, q1, q2⟩ := rngLU_lst rh1 p1
    obtain ⟨rfl, e0⟩ := rgEnds1 ep
    obtain rfl : i = 0 := e0
    exact ⟨j, ru.int_inv, q1, q2⟩
theorem den_rngL2 {m tup : Bool} {x : Str} {a b : Expr} {p p2 pos pos2 : Pos} {fa fb : En → List O → R U} (hc : X.calm = true) (hx : x = if tup = true then "tuple" else "list") (g1 : Gl X x) (m1 : X.mg x = none) (g2 : Gl X "range") (m2 : X.mg "range" = none) (ha : Den X W a fa) (hb : Den X W b fb) (hs : isStar a = false) (hs2 : isStar b = false) :
    Den X W (.Call (.Name x p) [.Call (.Name "range" p2) [a, b] [] pos2] [] pos) (ev2 fa fb fun u v h => rngLU tup m [u, v] h) := by
  obtain ⟨t, pa, c⟩ := ha
  obtain ⟨t2, pb, c2⟩ := hb
  have rg := prg_2 (X := X) (p := p2) (pos := pos2) g2 m2 pa pb (star1 hs) (star1 hs2) (noStar_any (by unfold noStar; simp [hs2]))
  cases tup with
  | true =>
    obtain rfl : x = "tuple" := hx
    refine ⟨_, pe_tupRg hc g1 m1 rg, fun σ' h σ H μ Q re rh q => ?_⟩
    refine c σ' h σ H μ _ re rh (Post.bind q fun u h1 H1 μ1 x e1 rh1 ru p1 => ?_)
    refine c2 σ' h1 σ H1 μ1 _ (re.ext e1) rh1 (Post.bind p1 fun v h2 H2 μ2 y e2 rh2 rv p2 => ?_)
    obtain ⟨⟨i, j⟩, ep, q1, q2⟩ := rngLU_tup rh2 p2
    obtain ⟨rfl, rfl⟩ := rgEnds2 ep
    exact ⟨i, j, ru.int_inv, rv.int_inv, q1, q2⟩
  | false =>
    obtain rfl : x = "list" := hx
    refine ⟨_, pe_listRg hc g1 m1 rg, fun σ' h σ H μ Q re rh q => ?_⟩
    refine c σ' h σ H μ _ re rh (Post.bind q fun u h1 H1 μ1 x e1 rh1 ru p1 => ?_)
    refine c2 σ' h1 σ H1 μ1 _ (re.ext e1) rh1 (Post.bind p1 fun v h2 H2 μ2 y e2 rh2 rv p2 => ?_)
    obtain ⟨⟨i, j⟩, ep, q1, q2⟩ := rngLU_lst rh2 p2
    obtain ⟨rfl, rfl⟩ := rgEnds2 ep
    exact ⟨i, j, ru.int_inv, rv.int_inv, q1, q2⟩
/-! ### x += e, x -= e of ints -/
def augI (sub : Bool) (u v : U) : Option Int := match u, v with
  | .d (.int i), .d (.int j) => some (if sub = true then i - j else i + j)
  | _, _ => none
def sAug (i : Nat) (sub : Bool) (f : En → List O → R U) : En → List O → Fl := fun σ h => match σ[i]? with
  | some (some x) => (f σ h).stm σ fun y h => match augI sub x y with
    | some k => .nx (σ.set i (some (.d (.int k)))) h
    | none => .bad
  | _ => .bad
theorem dens_aug {i : Nat} {x : Str} {e : Expr} {sub : Bool} {op : Operator} {pos pos' : Pos} {f : En → List O → R U} (hN : X.N.Nodup) (hi : X.N[i]? = some x) (hx : Loc X.env.scope x) (hf : X.fn x = true ∨ X.env.scope.names.lookup x = some .local) (ho : op = if sub = true then .Sub else .Add) (he : Den X W e f) :
    DenS X W (.AugAssign (.Name x pos') op e pos) (sAug i sub f) := by
  obtain ⟨t, p, c⟩ := he
  have po : PIp X op (ipI fun a b => if sub = true then a - b else a + b) := by
    subst ho
    cases sub with
    | true => exact ip_sub
    | false => exact ip_add
  refine dens_of (ps_aug hN hi hx p po hf) fun σ' h σ H μ D re rh q => ?_
  unfold sAug at q
  split at q
  · rename_i u hu
    obtain ⟨v, hv, ru⟩ := re.2 i u hu
    refine ⟨v, hv, c σ' h σ H μ _ re rh (PostS.stm re q fun a h1 H1 μ1 b e1 rh1 rel p1 => ?_)⟩
    split at p1
    · rename_i k ek
      unfold augI at ek
      split at ek
      · cases ek
        exact ⟨_, _, (ru.ext e1).int_inv, rel.int_inv, p1.nx rh1 ((re.ext e1).set (.d (.int _)))⟩
      · cases ek
    · exact p1.elim
  · exact q.elim
end
end Py

/-! the compact tree of an expression, what it says, when it fits the text -/
namespace Py
open PySem PySem.Spec PyProof.Rows L2
inductive Bop where
  | add | sub | mul | fdiv | mod | pow | shl | shr | band | bor
inductive Cop where
  | lt | le | gt | ge | eq | ne | is_ | isn | in_ | nin
inductive Bi where
  | len | all | any | sum | max | min | abs | int | tuple | list | sorted | isi
inductive Mn where
  | append | pop | extend
mutual
inductive Ex where
  | var (i : Nat) | int (i : Int) | bl (b : Bool) | str (s : Str) | non
  | gint (x : Str) (i : Int) | gtup (x : Str) | gl (x : Str) | ty (x : Str) (n : String)
  | bin (o : Bop) (m : Bool) (a b : Ex) | neg (a : Ex) | cmp (o : Cop) (a b : Ex) | chn (o p : Cop) (a b c : Ex)
  | and (a b : Ex) | or (a b : Ex) | one (a : Ex) | not (a : Ex) | ife (c a b : Ex) | tup (l : Es) | lst (m : Bool) (l : Es)
  | ix (a b : Ex) | sl (m : Bool) (a : Ex) (lo hi : Ox)
  | bi (f : Bi) (m : Bool) (l : Es) | mxd (a d : Ex) | bits (a : Ex) | me (n : Mn) (o : Ex) (l : Es)
  | call (f : Str) (perm : List Nat) (a k : Es)
  | lc (m : Bool) (t : Tg) (w : Wk) (c : Ox) (e : Ex)
  | lc2 (m : Bool) (t : Tg) (w : Wk) (c : Ox) (t1 : Tg) (w1 : Wk) (c1 : Ox) (e : Ex) | ss (m : Bool) (a : Ex) | rl1 (tup m : Bool) (a : Ex) | rl2 (tup m : Bool) (a b : Ex)
  | dnew | get1 (o e : Ex) | get2 (o e f : Ex) | lock (i : Nat) (e : Ex)
inductive Es where
  | nil | cons (e : Ex) (l : Es)
inductive Ox where
  | no | yes (e : Ex)
inductive Wk where
  | seq (e : Ex) | rng (l : Es) | enu (l : Es) | zip (l : Es) | its (e : Ex) | vals (e : Ex)
end
def okT : Ex → Bool
  | .and a b => okT a && okT b
  | .or a b => okT a && okT b
  | .one a => okT a
  | .not a => okT a
  | .cmp _ _ _ => true
  | .chn _ _ _ _ _ => true
  | .var _ => true
  | .bl _ => true
  | .bi _ _ _ => true
  | .call _ _ _ _ => true
  | .ix _ _ => true
  | .bin _ _ _ _ => true
  | .lc _ _ _ _ _ => true
  | .sl _ _ _ _ => true
  | _ => false
def Es.len : Es → Nat
  | .nil => 0
  | .cons _ l => l.len + 1
/-- what the top of the text holds -/
structure Gt where
  gi : List (Str × Int)
  gt : List (Str × List D)
  gf : List Str
  gg : List Str
  gx : List Str
  gd : List (Str × List Str)
  gs : List (Str × Nat × List Str × List Nat)
  gm : List (Str × Str)
def Gt.tup (G : Gt) (x : Str) : Option (List D) := (G.gt.find? fun p => p.1 = x).map (·.2)
def binU (o : Bop) (m : Bool) : U → U → List O → R U := match o with
  | .add => addU m
  | .sub => intOp gSubI
  | .mul => mulU m
  | .fdiv => intOp gFdiv
  | .mod => intOp gFmod
  | .pow => intOp gPow
  | .shl => intOp gShl
  | .shr => intOp gShr
  | .band => intOp gAnd
  | .bor => intOp gOr
def cmpU (o : Cop) : U → U → List O → R U := match o with
  | .lt => cmpI fun i j => decide (i < j)
  | .le => cmpI fun i j => decide (i ≤ j)
  | .gt => cmpI fun i j => decide (j < i)
  | .ge => cmpI fun i j => decide (j ≤ i)
  | .eq => eqU false
  | .ne => eqU true
  | .is_ => isU false
  | .isn => isU true
  | .in_ => inU false
  | .nin => inU true
def biU (f : Bi) (m : Bool) : List U → List O → R U := match f with
  | .len => g1 lenU
  | .all => g1 allU
  | .any => g1 anyU
  | .sum => g1 sumU
  | .max => maxG
  | .min => minG
  | .abs => g1 absU
  | .int => g1 intU
  | .tuple => g1 tupleU
  | .list => g1 (listU m)
  | .sorted => g1 (sortedU m)
  | .isi => g2 isiU
def meU (n : Mn) : U → List U → List O → R U := match n with
  | .append => appG
  | .pop => popG
  | .extend => extG
section
variable (G : Gt) (C : Str → List U → List O → R U)
mutual
def ev : Ex → En → List O → R U
  | .var i => evV i
  | .int i => evC (.d (.int i))
  | .bl b => evC (.d (.bool b))
  | .str s => evC (.d (.str s))
  | .non => evC (.d .none)
  | .gint _ i => evC (.d (.int i))
  | .gtup x => fun _ h => (opt (G.tup x) h).bind fun ds h => .ok (.d (.tuple ds)) h
  | .gl x => evC (.gl x)
  | .ty _ n => evC (.ty n)
  | .bin o m a b => ev2 (ev a) (ev b) (binU o m)
  | .neg a => ev1 (ev a) negU
  | .cmp o a b => ev2 (ev a) (ev b) (cmpU o)
  | .chn o p a b c => evCh (ev a) (ev b) (ev c) (cmpU o) (cmpU p)
  | .and a b => vAnd (ev a) (ev b)
  | .or a b => vOr (ev a) (ev b)
  | .one a => ev a
  | .not a => vNot (ev a)
  | .ife c a b => evIf (tv c) (ev a) (ev b)
  | .tup l => evTup (evs l)
  | .lst m l => evLst m (evs l)
  | .ix a b => ev2 (ev a) (ev b) getU
  | .sl m a lo hi => evSl m (ev a) (evo lo) (evo hi)
  | .bi f m l => evCall (evs l) (biU f m)
  | .mxd a d => ev2 (ev a) (ev d) maxDU
  | .bits a => ev1 (ev a) fun u h => (opt (asI u) h).bind fun i h => .ok (.d (.int (Builtin.Int.intBits i : Nat))) h
  | .me n o l => evMe isLst (ev o) (evs l) (meU n)
  | .call f perm a k => evCl a.len k.len perm (evs a) (evs k) (C f)
  | .lc m t w c e => evLc m t t.slots (evw w) (evc c) (ev e)
  | .lc2 m t w c t1 w1 c1 e => evLc2 m t (t.slots ++ t1.slots) (evw w) (evc c) t1 t1.slots (evw w1) (evc c1) (ev e)
  | .ss m a => ev1 (ev a) (ssU m)
  | .rl1 tup m a => ev1 (ev a) fun u h => rngLU tup m [u] h
  | .rl2 tup m a b => ev2 (ev a) (ev b) fun u v h => rngLU tup m [u, v] h
  | .dnew => evDnew
  | .get1 o e => evGet1 (ev o) (ev e)
  | .get2 o e f => evGet2 (ev o) (ev e) (ev f)
  | .lock i e => lockE i (ev e)
def tv : Ex → En → List O → R Bool
  | .and a b => tAndE (tv a) (tv b)
  | .or a b => tOrE (tv a) (tv b)
  | .one a => tv a
  | .not a => tNotE (tv a)
  | .cmp o a b => evB (ev2 (ev a) (ev b) (cmpU o))
  | .chn o p a b c => evB (evCh (ev a) (ev b) (ev c) (cmpU o) (cmpU p))
  | .var i => evT (evV i)
  | .bl b => evT (evC (.d (.bool b)))
  | .bi f m l => evT (evCall (evs l) (biU f m))
  | .call f perm a k => evT (evCl a.len k.len perm (evs a) (evs k) (C f))
  | .ix a b => evT (ev2 (ev a) (ev b) getU)
  | .bin o m a b => evT (ev2 (ev a) (ev b) (binU o m))
  | .lc m t w c e => evT (evLc m t t.slots (evw w) (evc c) (ev e))
  | .sl m a lo hi => evT (evSl m (ev a) (evo lo) (evo hi))
  | _ => fun _ _ => .bad
def evs : Es → En → List O → R (List U)
  | .nil => evNil
  | .cons e l => evCons (ev e) (evs l)
def evo : Ox → En → List O → R (Option Int)
  | .no => evNo
  | .yes e => evPart (ev e)
def evc : Ox → En → List O → R Bool
  | .no => fun _ h => .ok true h
  | .yes e => tv e
def evw : Wk → En → List O → R Src
  | .seq e => fun σ h => (ev e σ h).bind srcK
  | .rng l => fun σ h => (evs l σ h).bind fun us h => if us.length = l.len then rngS us h else .bad
  | .enu l => fun σ h => (evs l σ h).bind enuS
  | .zip l => fun σ h => (evs l σ h).bind zipS
  | .its e => fun σ h => (ev e σ h).bind itemsU
  | .vals e => fun σ h => (ev e σ h).bind valuesU
end
end

/-! ### when a tree fits the text -/
/-- the names of a block -/
structure Lm where
  N : List Str
  sc : Scope
  fc : Str → Bool
def visB (sc : Scope) (x : Str) : Bool := match sc.names.lookup x with
  | some .local => true
  | some .cell => true
  | some .free => true
  | _ => false
def glB (sc : Scope) (x : Str) : Bool := match sc.names.lookup x with
  | some .globalImplicit => true
  | _ => false
def locB (L : Lm) (x : Str) : Bool := match L.sc.names.lookup x with
  | some .local => true
  | some .cell => L.fc x
  | _ => false
def plN (x : Str) : Bool := !(x == ("__debug__" : Str)) && !(x == ("__classdict__" : Str))
def opB (o : Bop) (op : Operator) : Bool := match o with
  | .add => op == .Add
  | .sub => op == .Sub
  | .mul => op == .Mult
  | .fdiv => op == .FloorDiv
  | .mod => op == .Mod
  | .pow => op == .Pow
  | .shl => op == .LShift
  | .shr => op == .RShift
  | .band => op == .BitAnd
  | .bor => op == .BitOr
def cmB (o : Cop) (op : CmpOp) : Bool := match o with
  | .lt => op == .Lt
  | .le => op == .LtE
  | .gt => op == .Gt
  | .ge => op == .GtE
  | .eq => op == .Eq
  | .ne => op == .NotEq
  | .is_ => op == .Is
  | .isn => op == .IsNot
  | .in_ => op == .In
  | .nin => op == .NotIn
def biN (f : Bi) : Str := match f with
  | .len => "len"
  | .all => "all"
  | .any => "any"
  | .sum => "sum"
  | .max => "max"
  | .min => "min"
  | .abs => "abs"
  | .int => "int"
  | .tuple => "tuple"
  | .list => "list"
  | .sorted => "sorted"
  | .isi => "isinstance"
def mnN (n : Mn) : Str := match n with
  | .append => "append"
  | .pop => "pop"
  | .extend => "extend"
def tyB (x : Str) (n : String) : Bool := match bootBuiltins x with
  | some (.type m) => m == n
  | _ => false
mutual
def chkG : Tg → Lm → Expr → Bool
  | .nm i, L, e => match e with
    | .Name x _ => decide (L.N[i]? = some x) && locB L x
    | _ => false
  | .tup ts, L, e => match e with
    | .Tuple es _ _ => decide (es.length = ts.len) && chkGs ts L es
    | _ => false
def chkGs : Tgs → Lm → List Expr → Bool
  | .nil, _, es => match es with
    | [] => true
    | _ => false
  | .cons t ts, L, es => match es with
    | e :: es => !isStar e && chkG t L e && chkGs ts L es
    | _ => false
end
def isTupE : Expr → Bool
  | .Tuple _ _ _ => true
  | _ => false
def isTgE : Expr → Bool
  | .Tuple _ _ _ => true
  | .Name _ _ => true
  | _ => false
def inner (L : Lm) (scope : Scope) : Lm := ⟨L.N, relS scope L.sc, fun x => scope.names.lookup x == some .cell⟩
def owns (L : Lm) (vs : List Nat) : List (Str × Nat) := vs.map fun i => (L.N.getD i "", i)
section
variable (G : Gt)
mutual
def chk : Ex → Lm → Expr → Bool
  | .var i, L, e => match e with
    | .Name x _ => decide (L.N[i]? = some x) && visB L.sc x && plN x
    | _ => false
  | .int i, _, e => match e with
    | .Constant (.int j) _ _ => decide (i = j)
    | _ => false
  | .bl i, _, e => match e with
    | .Constant (.bool j) _ _ => i == j
    | _ => false
  | .str s, _, e => match e with
    | .Constant (.str j) _ _ => decide (s = j) && PyData.strOk s
    | _ => false
  | .non, _, e => match e with
    | .Constant .none _ _ => true
    | _ => false
  | .gint y i, L, e => match e with
    | .Name x _ => decide (x = y) && glB L.sc x && plN x && decide ((x, i) ∈ G.gi)
    | _ => false
  | .gtup y, L, e => match e with
    | .Name x _ => decide (x = y) && glB L.sc x && plN x
    | _ => false
  | .gl y, L, e => match e with
    | .Name x _ => decide (x = y) && glB L.sc x && plN x && decide (x ∈ G.gg)
    | _ => false
  | .ty y n, L, e => match e with
    | .Name x _ => decide (x = y) && glB L.sc x && plN x && decide (x ∈ G.gf) && tyB x n && decide (x ≠ "__name__")
    | _ => false
  | .bin o m a b, L, e => match e with
    | .BinOp x op y _ => opB o op && chk a L x && chk b L y
    | _ => false
  | .neg a, L, e => match e with
    | .UnaryOp .USub x _ => chk a L x
    | _ => false
  | .cmp o a b, L, e => match e with
    | .Compare x [op] [y] _ => cmB o op && chk a L x && chk b L y && !behindInMarks op y
    | _ => false
  | .chn o p a b c, L, e => match e with
    | .Compare x [op, oq] [y, z] _ => cmB o op && cmB p oq && chk a L x && chk b L y && chk c L z && !lastMarks [op, oq] [y, z]
    | _ => false
  | .and a b, L, e => match e with
    | .BoolOp .And (x :: y :: r) pos => chk a L x && chk b L (.BoolOp .And (y :: r) pos)
    | _ => false
  | .or a b, L, e => match e with
    | .BoolOp .Or (x :: y :: r) pos => chk a L x && chk b L (.BoolOp .Or (y :: r) pos)
    | _ => false
  | .one a, L, e => match e with
    | .BoolOp _ [x] _ => chk a L x
    | _ => false
  | .not a, L, e => match e with
    | .UnaryOp .Not x _ => chk a L x
    | _ => false
  | .ife c a b, L, e => match e with
    | .IfExp z x y _ => chk c L z && okT c && chk a L x && chk b L y
    | _ => false
  | .tup l, L, e => match e with
    | .Tuple es _ _ => chks l L es
    | _ => false
  | .lst m l, L, e => match e with
    | .List es _ => chks l L es
    | _ => false
  | .ix a b, L, e => match e with
    | .Subscript x y _ => chk a L x && chk b L y && !isSl y
    | _ => false
  | .sl m a lo hi, L, e => match e with
    | .Subscript x (.Slice l h none _) _ => chk a L x && chko lo L l && chko hi L h
    | _ => false
  | .bi f m l, L, e => match e with
    | .Call (.Name x _) (y :: ys) [] _ => decide (x = biN f) && glB L.sc x && decide (x ∈ G.gf) && chks l L (y :: ys)
    | _ => false
  | .mxd a d, L, e => match e with
    | .Call (.Name x _) [y] [⟨some z, w, _⟩] _ => decide (x = "max") && decide (z = "default") && glB L.sc x && decide (x ∈ G.gf) && chk a L y && chk d L w && !isStar y
    | _ => false
  | .bits a, L, e => match e with
    | .Call (.Attribute x y ap) [] [] p => decide (y = "bit_length") && !isCall x && (ap.endLine == p.line) && chk a L x
    | _ => false
  | .me n a l, L, e => match e with
    | .Call (.Attribute x y ap) es [] p => decide (y = mnN n) && !isCall x && (ap.endLine == p.line) && decide (es.length < 30) && chk a L x && chks l L es
    | _ => false
  | .call f perm a k, L, e => match e with
    | .Call (.Name x _) es kws _ => decide (x = f) && glB L.sc x && plN x && chks a L es && chkk k L kws && (match kwNames kws with
      | some ks => decide ((x, es.length, ks, perm) ∈ G.gs) && perm.all (fun i => decide (i < es.length + ks.length)) && G.gd.any (fun p => decide (p.1 = x) && decide (p.2.length = perm.length))
      | none => false)
    | _ => false
  | .lc m t w c e0, L, e => match e with
    | .ListComp elt [⟨tg, iter, ifs, 0⟩] scope _ => chkw w L tg iter && chkG t (inner L scope) tg && chkc c (inner L scope) ifs && chk e0 (inner L scope) elt && blkC L.N L.sc scope (owns L t.slots) && !isSetD iter
    | _ => false
  | .lc2 m t w c t1 w1 c1 e0, L, e => match e with
    | .ListComp elt [⟨tg, iter, ifs, 0⟩, ⟨tg1, iter1, ifs1, 0⟩] scope _ => chkw w L tg iter && chkG t (inner L scope) tg && chkc c (inner L scope) ifs && chkw w1 (inner L scope) tg1 iter1 && chkG t1 (inner L scope) tg1 && chkc c1 (inner L scope) ifs1 && chk e0 (inner L scope) elt && blkC L.N L.sc scope (owns L (t.slots ++ t1.slots)) && !isSetD iter && !isSetD iter1
    | _ => false
  | .ss m a, L, e => match e with
    | .Call (.Name x _) [.Call (.Name y _) [z] [] _] [] _ => decide (x = "sorted") && decide (y = "set") && glB L.sc x && decide (x ∈ G.gf) && glB L.sc y && decide (y ∈ G.gf) && chk a L z && !isStar z
    | _ => false
  | .rl1 tup m a, L, e => match e with
    | .Call (.Name x _) [.Call (.Name y _) [z] [] _] [] _ => decide (x = if tup = true then "tuple" else "list") && decide (y = "range") && glB L.sc x && decide (x ∈ G.gf) && glB L.sc y && decide (y ∈ G.gf) && chk a L z && !isStar z
    | _ => false
  | .rl2 tup m a b, L, e => match e with
    | .Call (.Name x _) [.Call (.Name y _) [z, v] [] _] [] _ => decide (x = if tup = true then "tuple" else "list") && decide (y = "range") && glB L.sc x && decide (x ∈ G.gf) && glB L.sc y && decide (y ∈ G.gf) && chk a L z && chk b L v && !isStar z && !isStar v
    | _ => false
  | .dnew, _, e => match e with
    | .Dict [] [] _ => true
    | _ => false
  | .get1 o a, L, e => match e with
    | .Call (.Attribute x y ap) [z] [] p => decide (y = "get") && !isCall x && (ap.endLine == p.line) && chk o L x && chk a L z && !isStar z
    | _ => false
  | .get2 o a b, L, e => match e with
    | .Call (.Attribute x y ap) [z, v] [] p => decide (y = "get") && !isCall x && (ap.endLine == p.line) && chk o L x && chk a L z && chk b L v && !isStar z && !isStar v
    | _ => false
  | .lock _ a, L, e => chk a L e
def chks : Es → Lm → List Expr → Bool
  | .nil, _, es => match es with
    | [] => true
    | _ => false
  | .cons x l, L, es => match es with
    | e :: r => chk x L e && !isStar e && chks l L r
    | _ => false
def chkk : Es → Lm → List Keyword → Bool
  | .nil, _, es => match es with
    | [] => true
    | _ => false
  | .cons x l, L, es => match es with
    | ⟨_, e, _⟩ :: r => chk x L e && chkk l L r
    | _ => false
def chko : Ox → Lm → Option Expr → Bool
  | .no, _, e => match e with
    | none => true
    | _ => false
  | .yes x, L, e => match e with
    | some e => chk x L e
    | _ => false
def chkc : Ox → Lm → List Expr → Bool
  | .no, _, es => match es with
    | [] => true
    | _ => false
  | .yes x, L, es => match es with
    | [e] => chk x L e && okT x
    | _ => false
def chkw : Wk → Lm → Expr → Expr → Bool
  | .seq x, L, _, e => chk x L e
  | .rng l, L, _, e => match e with
    | .Call (.Name x _) es [] _ => decide (x = "range") && glB L.sc x && decide (x ∈ G.gf) && decide (0 < es.length) && decide (es.length ≤ 3) && chks l L es
    | _ => false
  | .enu l, L, tg, e => match e with
    | .Call (.Name x _) [y] [] _ => decide (x = "enumerate") && glB L.sc x && decide (x ∈ G.gf) && isTupE tg && chks l L [y]
    | _ => false
  | .zip l, L, tg, e => match e with
    | .Call (.Name x _) [y, z] [] _ => decide (x = "zip") && glB L.sc x && decide (x ∈ G.gf) && isTupE tg && chks l L [y, z]
    | _ => false
  | .its a, L, tg, e => match e with
    | .Call (.Attribute x y ap) [] [] p => decide (y = "items") && !isCall x && (ap.endLine == p.line) && isTgE tg && chk a L x
    | _ => false
  | .vals a, L, _, e => match e with
    | .Call (.Attribute x y ap) [] [] p => decide (y = "values") && !isCall x && (ap.endLine == p.line) && chk a L x
    | _ => false
end
end
end Py

/-! a tree that fits says what the text does: expressions -/
namespace Py
open PySem PySem.Spec PyProof.Rows L2
structure GF (K : PySem.W.Frag) (mg : Str → Option Value) (G : Gt) : Prop where
  gi : ∀ p ∈ G.gi, ∃ t, mg p.1 = some (.int p.2 t)
  gt : ∀ p ∈ G.gt, mg p.1 = some (.ref (He.ga K p.1)) ∧ ∃ vs, KTup K (He.ga K p.1) vs ∧ ∀ H μ, RDs K H μ p.2 vs
  gf : ∀ x ∈ G.gf, mg x = none
  gg : ∀ x ∈ G.gg, mg x = some (.ref (He.ga K x))
structure FF (X : Cx) (G : Gt) (C : Str → List U → List O → R U) (k : Nat) : Prop where
  ok : ∀ p ∈ G.gd, X.mg p.1 = some (.ref (He.ga X.K p.1)) ∧ PySem.W.keepIn X.K (.ref (He.ga X.K p.1)) = true ∧ ∃ fd, FnOk X.prog X.w X.K X.mg X.base (L2.CX X.prog X.w) k (He.ga X.K p.1) fd p.2 (spF X.K p.2.length (C p.1)) ∧
    ∀ n ks perm, (p.1, n, ks, perm) ∈ G.gs → BindOk X.K fd p.2 n ks perm
structure Cxt (G : Gt) (C : Str → List U → List O → R U) (k : Nat) (X : Cx) (W : WX) (L : Lm) : Prop where
  N : X.N = L.N
  nd : L.N.Nodup
  sc : X.env.scope = L.sc
  calm : X.calm = true
  room : Room k X.A
  tk : Takes X W
  gf : GF X.K X.mg G
  ff : FF X G C k
  fc : ∀ x, L.fc x = true → X.fn x = true
section
variable {G : Gt} {C : Str → List U → List O → R U} {k : Nat}
theorem Cxt.gl {X : Cx} {W : WX} {L : Lm} (c : Cxt G C k X W L) {x : Str} (h : glB L.sc x = true) : Gl X x := by
  unfold glB at h
  split at h
  · rename_i q
    show X.env.scope.names.lookup x = _
    rw [c.sc]; exact q
  · cases h
theorem Cxt.vis {X : Cx} {W : WX} {L : Lm} (c : Cxt G C k X W L) {x : Str} (h : visB L.sc x = true) : Vis X.env.scope x := by
  unfold visB at h
  rw [c.sc]
  split at h
  · rename_i q; exact .inl q
  · rename_i q; exact .inr (.inl q)
  · rename_i q; exact .inr (.inr q)
  · cases h
theorem Cxt.loc {X : Cx} {W : WX} {L : Lm} (c : Cxt G C k X W L) {x : Str} (h : locB L x = true) : Loc X.env.scope x ∧ (X.fn x = true ∨ X.env.scope.names.lookup x = some .local) := by
  unfold locB at h
  rw [c.sc]
  split at h
  · rename_i q; exact ⟨.inl q, .inr q⟩
  · rename_i q; exact ⟨.inr q, .inl (c.fc x h)⟩
  · cases h
theorem plN_ok {x : Str} (h : plN x = true) : (x == ("__debug__" : Str)) = false ∧ (x == ("__classdict__" : Str)) = false := by
  unfold plN at h
  simpa [Bool.and_eq_true] using h
theorem Cxt.un {X : Cx} {W : WX} {L : Lm} (c : Cxt G C k X W L) : X.A.units + 64 < cLine := c.room.units
theorem Cxt.blk {X : Cx} {W : WX} {L : Lm} (c : Cxt G C k X W L) (s : Shared) (H : Hp) (scope : Scope) (Ca : Addr) (cl : List (Str × Addr)) (fp : List Addr) : Cxt G C k (X.blk s H scope (compEnvC scope cl Ca X.env) fp) W0 (inner L scope) where
  N := c.N
  nd := c.nd
  sc := by
    show relS scope X.env.scope = relS scope L.sc
    rw [c.sc]
  calm := c.calm
  room := c.room
  tk := takes_none5
  gf := c.gf
  ff := ⟨c.ff.ok⟩
  fc := fun x h => h
mutual
theorem chkG_ok : ∀ (t : Tg) {X : Cx} {W : WX} {L : Lm} {e : Expr}, Cxt G C k X W L → chkG t L e = true → DenG X e t
  | .nm i, X, W, L, e, c, h => by
    unfold chkG at h
    split at h
    · simp only [Bool.and_eq_true, decide_eq_true_eq] at h
      obtain ⟨h1, h2⟩ := h
      exact deng_nm (by rw [c.N]; exact c.nd) (by rw [c.N]; exact h1) (c.loc h2).1 (c.loc h2).2
    · cases h
  | .tup ts, X, W, L, e, c, h => by
    unfold chkG at h
    split at h
    · rename_i es kk pos
      simp only [Bool.and_eq_true, decide_eq_true_eq] at h
      obtain ⟨h1, h2⟩ := h
      obtain ⟨g1, g2⟩ := chkGs_ok ts c h2
      exact deng_tup c.calm g1 g2 h1
    · cases h
theorem chkGs_ok : ∀ (t : Tgs) {X : Cx} {W : WX} {L : Lm} {es : List Expr}, Cxt G C k X W L → chkGs t L es = true → DenGs X es t ∧ noStar es = true
  | .nil, X, W, L, e, c, h => by
    unfold chkGs at h
    split at h
    · exact ⟨dengs_nil, rfl⟩
    · cases h
  | .cons t ts, X, W, L, e, c, h => by
    unfold chkGs at h
    split at h
    · rename_i e es
      simp only [Bool.and_eq_true, Bool.not_eq_true'] at h
      obtain ⟨⟨h1, h2⟩, h3⟩ := h
      obtain ⟨g1, g2⟩ := chkGs_ok ts c h3
      exact ⟨dengs_cons (chkG_ok t c h2) g1 h1, by unfold noStar at g2 ⊢; rw [List.all_cons, g2, h1]; rfl⟩
    · cases h
end
theorem den_bin {X : Cx} {W : WX} {o : Bop} {m : Bool} {op : Operator} {a b : Expr} {pos : Pos} {fa fb : En → List O → R U} (h : opB o op = true) (ha : Den X W a fa) (hb : Den X W b fb) : Den X W (.BinOp a op b pos) (ev2 fa fb (binU o m)) := by
  cases o <;> (unfold opB at h; have h := beq_iff_eq.mp h; subst h)
  · exact den_op op_addA (opd_add m) ha hb
  · exact den_op op_subA opd_sub ha hb
  · exact den_op op_mulA (opd_mul m) ha hb
  · exact den_op op_fdivA opd_fdiv ha hb
  · exact den_op op_modN opd_fmod ha hb
  · exact den_op op_pow opd_pow ha hb
  · exact den_op op_shl opd_shl ha hb
  · exact den_op op_shr opd_shr ha hb
  · exact den_op op_andA opd_and ha hb
  · exact den_op op_orA opd_or ha hb
theorem cmp_op {X : Cx} {W : WX} (hu : X.A.units + 64 < cLine) {o : Cop} {op : CmpOp} (h : cmB o op = true) : ∃ r, OpR X (compareOp op) r ∧ OpD X W r (cmpU o) := by
  cases o <;> (unfold cmB at h; have h := beq_iff_eq.mp h; subst h)
  · exact ⟨_, op_lt, opd_cmpI⟩
  · exact ⟨_, op_le, opd_cmpI⟩
  · exact ⟨_, op_gt, opd_cmpI⟩
  · exact ⟨_, op_ge, opd_cmpI⟩
  · exact ⟨_, op_eqA hu, opd_eq false⟩
  · exact ⟨_, op_neA hu, opd_eq true⟩
  · exact ⟨_, op_isA, opd_is false⟩
  · exact ⟨_, op_isnotA, opd_is true⟩
  · exact ⟨_, op_inA hu, opd_in false⟩
  · exact ⟨_, op_notInA hu, opd_in true⟩
theorem den_bi {X : Cx} {W : WX} {L : Lm} (c : Cxt G C k X W L) {f : Bi} {m : Bool} {x : Str} {e : Expr} {es : List Expr} {p pos : Pos} {g : En → List O → R (List U)} (hx : x = biN f) (gl : Gl X x) (hm : X.mg x = none) (hf : DenA X W (e :: es) g) (hs : noStar (e :: es) = true) :
    Den X W (.Call (.Name x p) (e :: es) [] pos) (evCall g (biU f m)) := by
  subst hx
  cases f
  · exact den_callB cr_lenV cd_len gl hm (by rfl) hf hs (by decide) (by decide)
  · exact den_callB (cr_allV c.calm) cd_all gl hm (by rfl) hf hs (by decide) (by decide)
  · exact den_callB (cr_anyV c.calm) cd_any gl hm (by rfl) hf hs (by decide) (by decide)
  · exact den_callB (cr_sumV c.calm) cd_sum gl hm (by rfl) hf hs (by decide) (by decide)
  · exact den_callB (cr_maxG c.calm) cd_max gl hm (by rfl) hf hs (by decide) (by decide)
  · exact den_callB (cr_minG c.calm) cd_min gl hm (by rfl) hf hs (by decide) (by decide)
  · exact den_callB cr_absV cd_abs gl hm (by rfl) hf hs (by decide) (by decide)
  · exact den_callTy cr_intV cd_int gl hm (by rfl) hf hs (by decide) (by decide)
  · exact den_callTy cr_tupV cd_tup gl hm (by rfl) hf hs (by decide) (by decide)
  · exact den_callTy cr_lstV (cd_lst m) gl hm (by rfl) hf hs (by decide) (by decide)
  · exact den_callB (cr_sortV c.calm) (cd_sort m) gl hm (by rfl) hf hs (by decide) (by decide)
  · exact den_callB cr_isi cd_isi gl hm (by rfl) hf hs (by decide) (by decide)
theorem den_mn {X : Cx} {W : WX} {n : Mn} {y : Str} {o : Expr} {es : List Expr} {ap p : Pos} {fo : En → List O → R U} {fa : En → List O → R (List U)} (hy : y = mnN n) (ho : Den X W o fo) (ha : DenA X W es fa) (hnil : es = [] → fa = evNil)
    (hb : isCall o = false) (hns : noStar es = true) (hlen : es.length < 30) (hl : (ap.endLine == p.line) = true) : Den X W (.Call (.Attribute o y ap) es [] p) (evMe isLst fo fa (meU n)) := by
  subst hy
  cases es with
  | nil =>
    cases hnil rfl
    cases n
    · exact den_me0 PySem.F.plainAttrs_list PySem.F.slot_list_append PySem.F.type_list_append mt_append ty_list me_append ho hb hl
    · exact den_me0 PySem.F.plainAttrs_list PySem.F.slot_list_pop PySem.F.type_list_pop mt_popA ty_list me_pop ho hb hl
    · exact den_me0 PySem.F.plainAttrs_list PySem.F.slot_list_extend PySem.F.type_list_extend mt_extA ty_list me_ext ho hb hl
  | cons e es =>
    cases n
    · exact den_me PySem.F.plainAttrs_list PySem.F.slot_list_append PySem.F.type_list_append mt_append ty_list me_append ho ha hb hns hlen hl
    · exact den_me PySem.F.plainAttrs_list PySem.F.slot_list_pop PySem.F.type_list_pop mt_popA ty_list me_pop ho ha hb hns hlen hl
    · exact den_me PySem.F.plainAttrs_list PySem.F.slot_list_extend PySem.F.type_list_extend mt_extA ty_list me_ext ho ha hb hns hlen hl

theorem tyB_ok {x : Str} {n : String} (h : tyB x n = true) : bootBuiltins x = some (.type n) := by
  unfold tyB at h
  split at h
  · rename_i m q
    rw [q, beq_iff_eq.mp h]
  · cases h
theorem gtup_mem {x : Str} {ds : List D} (h : G.tup x = some ds) : (x, ds) ∈ G.gt := by
  unfold Gt.tup at h
  cases q : G.gt.find? fun p => p.1 = x with
  | none => rw [q] at h; cases h
  | some p =>
    rw [q] at h
    cases h
    have h1 := List.mem_of_find?_eq_some q
    have h2 : p.1 = x := by simpa using List.find?_some q
    rw [← h2]
    exact h1
theorem den_bad {X : Cx} {W : WX} {e : Expr} {f : En → List O → R U} (h : ∀ σ h, f σ h = .bad) : Den X W e f := by
  refine ⟨fun _ _ _ => False, ⟨fun _ _ _ _ _ _ z => z.elim⟩, fun σ' h0 σ H μ Q re rh p => ?_⟩
  rw [h] at p
  exact p
theorem den_gtup' {X : Cx} {W : WX} {L : Lm} (c : Cxt G C k X W L) {x : Str} {pos : Pos} (gl : glB L.sc x = true) (pl : plN x = true) : Den X W (.Name x pos) (fun _ h => (opt (G.tup x) h).bind fun ds h => .ok (.d (.tuple ds)) h) := by
  cases q : G.tup x with
  | none => exact den_bad fun _ _ => rfl
  | some ds =>
    obtain ⟨g1, g2⟩ := c.gf.gt _ (gtup_mem q)
    exact Py.den_gtup (c.gl gl) g1 g2 (plN_ok pl).1
end
def isBO : Expr → Bool
  | .BoolOp _ _ _ => true
  | _ => false
structure Good (G : Gt) (C : Str → List U → List O → R U) (X : Cx) (W : WX) (x : Ex) (e : Expr) : Prop where
  d : Den X W e (ev G C x)
  t : okT x = true → DenT X W e (tv G C x)
  w : okT x = true → isBO e = true → DenW X W e (tv G C x)
theorem Good.plain {G : Gt} {C : Str → List U → List O → R U} {X : Cx} {W : WX} {x : Ex} {e : Expr} (d : Den X W e (ev G C x)) (h : okT x = false) : Good G C X W x e := ⟨d, fun z => (by rw [h] at z; cases z), fun z _ => (by rw [h] at z; cases z)⟩
theorem Good.truth {G : Gt} {C : Str → List U → List O → R U} {X : Cx} {W : WX} {x : Ex} {e : Expr} (d : Den X W e (ev G C x)) (h : tv G C x = evT (ev G C x)) (he : ∀ whole, isTrue e X.env whole = (do let v ← whole; standAt e.pos; holding [v] (truthy v))) (hb : isBO e = false) : Good G C X W x e :=
  ⟨d, fun _ => by rw [h]; exact dent_truth d he, fun _ z => by rw [hb] at z; cases z⟩
theorem Good.test {G : Gt} {C : Str → List U → List O → R U} {X : Cx} {W : WX} {x : Ex} {e : Expr} (d : Den X W e (ev G C x)) (t : okT x = true → DenT X W e (tv G C x)) (hb : isBO e = false) : Good G C X W x e := ⟨d, t, fun _ z => by rw [hb] at z; cases z⟩
theorem Good.bo {G : Gt} {C : Str → List U → List O → R U} {X : Cx} {W : WX} {x : Ex} {e : Expr} (d : Den X W e (ev G C x)) (w : okT x = true → DenW X W e (tv G C x)) : Good G C X W x e := ⟨d, fun z => (w z).t, fun z _ => w z⟩
theorem fold_rng {l : Es} {n : Nat} (h : n = l.len) (f : En → List O → R (List U)) : (fun (σ : En) (h : List O) => (f σ h).bind fun us h => if us.length = l.len then rngS us h else .bad) = fun σ h => (f σ h).bind fun us h => if us.length = n then rngS us h else .bad := by rw [h]
section
variable (G : Gt) (C : Str → List U → List O → R U) (k : Nat)
mutual
theorem chk_ok : ∀ (x : Ex) {X : Cx} {W : WX} {L : Lm} {e : Expr}, Cxt G C k X W L → chk G x L e = true → Good G C X W x e
  | .var i, X, W, L, e, c, h => by
    unfold chk at h
    split at h
    · simp only [Bool.and_eq_true, decide_eq_true_eq] at h
      obtain ⟨⟨h1, h2⟩, h3⟩ := h
      exact .truth (den_var (by rw [c.N]; exact h1) (c.vis h2) (plN_ok h3).1 (plN_ok h3).2) rfl (fun _ => rfl) rfl
    · cases h
  | .int i, X, W, L, e, c, h => by
    unfold chk at h
    split at h
    · have h := of_decide_eq_true h
      subst h
      exact .plain den_int rfl
    · cases h
  | .bl i, X, W, L, e, c, h => by
    unfold chk at h
    split at h
    · have h := beq_iff_eq.mp h
      subst h
      exact .truth den_bl rfl (fun _ => rfl) rfl
    · cases h
  | .str s, X, W, L, e, c, h => by
    unfold chk at h
    split at h
    · simp only [Bool.and_eq_true, decide_eq_true_eq] at h
      obtain ⟨h1, h2⟩ := h
      subst h1
      exact .plain (den_str h2) rfl
    · cases h
  | .non, X, W, L, e, c, h => by
    unfold chk at h
    split at h
    · exact .plain den_non rfl
    · cases h
  | .gint y i, X, W, L, e, c, h => by
    unfold chk at h
    split at h
    · simp only [Bool.and_eq_true, decide_eq_true_eq] at h
      obtain ⟨⟨⟨h1, h2⟩, h3⟩, h4⟩ := h
      exact .plain (den_gint (c.gl h2) (c.gf.gi _ h4) (plN_ok h3).1) rfl
    · cases h
  | .gtup y, X, W, L, e, c, h => by
    unfold chk at h
    split at h
    · simp only [Bool.and_eq_true, decide_eq_true_eq] at h
      obtain ⟨⟨h1, h2⟩, h3⟩ := h
      subst h1
      exact .plain (Py.den_gtup' c h2 h3) rfl
    · cases h
  | .gl y, X, W, L, e, c, h => by
    unfold chk at h
    split at h
    · simp only [Bool.and_eq_true, decide_eq_true_eq] at h
      obtain ⟨⟨⟨h1, h2⟩, h3⟩, h4⟩ := h
      subst h1
      exact .plain (den_gl (c.gl h2) (c.gf.gg _ h4) (plN_ok h3).1) rfl
    · cases h
  | .ty y n, X, W, L, e, c, h => by
    unfold chk at h
    split at h
    · simp only [Bool.and_eq_true, decide_eq_true_eq] at h
      obtain ⟨⟨⟨⟨⟨h1, h2⟩, h3⟩, h4⟩, h5⟩, h6⟩ := h
      exact .plain (den_ty (c.gl h2) (c.gf.gf _ h4) (tyB_ok h5) h6 (plN_ok h3).1) rfl
    · cases h
  | .bin o m a b, X, W, L, e, c, h => by
    unfold chk at h
    split at h
    · simp only [Bool.and_eq_true] at h
      obtain ⟨⟨h1, h2⟩, h3⟩ := h
      exact .truth (den_bin h1 (chk_ok a c h2).d (chk_ok b c h3).d) rfl (fun _ => rfl) rfl
    · cases h
  | .neg a, X, W, L, e, c, h => by
    unfold chk at h
    split at h
    · exact .plain (den_neg (chk_ok a c h).d) rfl
    · cases h
  | .cmp o a b, X, W, L, e, c, h => by
    unfold chk at h
    split at h
    · simp only [Bool.and_eq_true, Bool.not_eq_true'] at h
      obtain ⟨⟨⟨h1, h2⟩, h3⟩, h4⟩ := h
      obtain ⟨r, r1, r2⟩ := cmp_op (W := W) c.un h1
      have ga := (chk_ok a c h2).d
      have gb := (chk_ok b c h3).d
      exact .test (den_cmp r1 r2 ga gb h4) (fun _ => dent_cmp r1 r2 ga gb h4) rfl
    · cases h
  | .chn o p a b z, X, W, L, e, c, h => by
    unfold chk at h
    split at h
    · simp only [Bool.and_eq_true, Bool.not_eq_true'] at h
      obtain ⟨⟨⟨⟨⟨h1, h2⟩, h3⟩, h4⟩, h5⟩, h6⟩ := h
      obtain ⟨r, r1, r2⟩ := cmp_op (W := W) c.un h1
      obtain ⟨q, q1, q2⟩ := cmp_op (W := W) c.un h2
      have ga := (chk_ok a c h3).d
      have gb := (chk_ok b c h4).d
      have gz := (chk_ok z c h5).d
      exact .test (den_chain r1 q1 r2 q2 ga gb gz h6) (fun _ => dent_chain r1 q1 r2 q2 ga gb gz h6) rfl
    · cases h
  | .and a b, X, W, L, e, c, h => by
    unfold chk at h
    split at h
    · simp only [Bool.and_eq_true] at h
      have ga := chk_ok a c h.1
      have gb := chk_ok b c h.2
      exact .bo (den_and ga.d gb.d) fun z => denw_and (ga.t (Bool.and_eq_true_iff.mp z).1) (gb.w (Bool.and_eq_true_iff.mp z).2 rfl)
    · cases h
  | .or a b, X, W, L, e, c, h => by
    unfold chk at h
    split at h
    · simp only [Bool.and_eq_true] at h
      have ga := chk_ok a c h.1
      have gb := chk_ok b c h.2
      exact .bo (den_or ga.d gb.d) fun z => denw_or (ga.t (Bool.and_eq_true_iff.mp z).1) (gb.w (Bool.and_eq_true_iff.mp z).2 rfl)
    · cases h
  | .one a, X, W, L, e, c, h => by
    unfold chk at h
    split at h
    · rename_i op x pos
      have ga := chk_ok a c h
      exact .bo (den_one ga.d) fun z => by
        cases op
        · exact denw_and1 (ga.t z)
        · exact denw_or1 (ga.t z)
    · cases h
  | .not a, X, W, L, e, c, h => by
    unfold chk at h
    split at h
    · have ga := chk_ok a c h
      exact .test (den_not ga.d) (fun z => dent_not (ga.t z)) rfl
    · cases h
  | .ife t a b, X, W, L, e, c, h => by
    unfold chk at h
    split at h
    · simp only [Bool.and_eq_true] at h
      obtain ⟨⟨⟨h1, h2⟩, h3⟩, h4⟩ := h
      exact .plain (den_if ((chk_ok t c h1).t h2) (chk_ok a c h3).d (chk_ok b c h4).d) rfl
    · cases h
  | .tup l, X, W, L, e, c, h => by
    unfold chk at h
    split at h
    · exact .plain (den_tup (chks_ok l c h).1) rfl
    · cases h
  | .lst m l, X, W, L, e, c, h => by
    unfold chk at h
    split at h
    · exact .plain (den_lst (chks_ok l c h).1) rfl
    · cases h
  | .ix a b, X, W, L, e, c, h => by
    unfold chk at h
    split at h
    · simp only [Bool.and_eq_true, Bool.not_eq_true'] at h
      obtain ⟨⟨h1, h2⟩, h3⟩ := h
      exact .truth (den_ix c.un (chk_ok a c h1).d (chk_ok b c h2).d h3) rfl (fun _ => rfl) rfl
    · cases h
  | .sl m a lo hi, X, W, L, e, c, h => by
    unfold chk at h
    split at h
    · simp only [Bool.and_eq_true] at h
      obtain ⟨⟨h1, h2⟩, h3⟩ := h
      exact .truth (den_sl (chk_ok a c h1).d (chko_ok lo c h2) (chko_ok hi c h3)) rfl (fun _ => rfl) rfl
    · cases h
  | .bi f m l, X, W, L, e, c, h => by
    unfold chk at h
    split at h
    · simp only [Bool.and_eq_true, decide_eq_true_eq] at h
      obtain ⟨⟨⟨h1, h2⟩, h3⟩, h4⟩ := h
      obtain ⟨g1, g2, g3, g4⟩ := chks_ok l c h4
      exact .truth (den_bi c h1 (c.gl h2) (c.gf.gf _ h3) g1 g2) rfl (fun _ => rfl) rfl
    · cases h
  | .mxd a d, X, W, L, e, c, h => by
    unfold chk at h
    split at h
    · simp only [Bool.and_eq_true, decide_eq_true_eq, Bool.not_eq_true'] at h
      obtain ⟨⟨⟨⟨⟨⟨h1, h2⟩, h3⟩, h4⟩, h5⟩, h6⟩, h7⟩ := h
      subst h1 h2
      exact .plain (den_maxD c.calm c.un (c.gl h3) (c.gf.gf _ h4) (chk_ok a c h5).d (chk_ok d c h6).d h7) rfl
    · cases h
  | .bits a, X, W, L, e, c, h => by
    unfold chk at h
    split at h
    · simp only [Bool.and_eq_true, decide_eq_true_eq, Bool.not_eq_true'] at h
      obtain ⟨⟨⟨h1, h2⟩, h3⟩, h4⟩ := h
      subst h1
      exact .plain (den_bits (chk_ok a c h4).d h2 h3) rfl
    · cases h
  | .me n a l, X, W, L, e, c, h => by
    unfold chk at h
    split at h
    · simp only [Bool.and_eq_true, decide_eq_true_eq, Bool.not_eq_true'] at h
      obtain ⟨⟨⟨⟨⟨h1, h2⟩, h3⟩, h4⟩, h5⟩, h6⟩ := h
      obtain ⟨g1, g2, g3, g4⟩ := chks_ok l c h6
      exact .plain (den_mn h1 (chk_ok a c h5).d g1 g4 h2 g2 h4 h3) rfl
    · cases h
  | .call f perm a kx, X, W, L, e, c, h => by
    unfold chk at h
    split at h
    · rename_i x p es kws pos
      simp only [Bool.and_eq_true, decide_eq_true_eq] at h
      obtain ⟨⟨⟨⟨⟨h1, h2⟩, h3⟩, h4⟩, h5⟩, h6⟩ := h
      subst h1
      split at h6
      · rename_i ks hks
        simp only [Bool.and_eq_true, decide_eq_true_eq, List.all_eq_true, List.any_eq_true] at h6
        obtain ⟨⟨q1, q2⟩, ⟨y, ps⟩, q3, q4, q5⟩ := h6
        dsimp only at q4 q5
        subst q4
        obtain ⟨g1, g2, g3, g4⟩ := chks_ok a c h4
        obtain ⟨j1, j2⟩ := chkk_ok kx c h5
        obtain ⟨m1, m2, fd, m3, m4⟩ := c.ff.ok _ q3
        have := den_call m3 c.room (c.gl h2) m1 m2 (m4 _ _ _ q1) c.tk q5.symm q2 g1 j1 hks g2 (plN_ok h3).1 g4 (pos := pos) (p := p)
        refine .truth ?_ rfl (fun _ => rfl) rfl
        show Den X W _ (evCl a.len kx.len perm (evs G C a) (evs G C kx) (C _))
        rw [← g3, show kx.len = ks.length from j2 ks hks]
        exact this
      · cases h6
    · cases h
  | .lc m t w co e0, X, W, L, e, c, h => by
    unfold chk at h
    split at h
    · rename_i elt tg iter ifs scope pos
      simp only [Bool.and_eq_true, Bool.not_eq_true'] at h
      obtain ⟨⟨⟨⟨⟨h1, h2⟩, h3⟩, h4⟩, h5⟩, h6⟩ := h
      refine .truth (den_lc c.calm (by rw [c.N]; exact c.nd) (chkw_ok w c h1) (own := owns L t.slots) (by rw [c.N, c.sc]; exact blkOk_by h5) (fun s H Ca cl fp => chkG_ok t (c.blk s H scope Ca cl fp) h2)
        (fun s H Ca cl fp => chkc_ok co (c.blk s H scope Ca cl fp) h3) (fun s H Ca cl fp => (chk_ok e0 (c.blk s H scope Ca cl fp) h4).d) ?_ (fun i hi => hi) h6) rfl (fun _ => rfl) rfl
      unfold owns
      rw [List.map_map]
      exact List.map_id _
    · cases h
  | .lc2 m t w co t1 w1 co1 e0, X, W, L, e, c, h => by
    unfold chk at h
    split at h
    · rename_i elt tg iter ifs tg1 iter1 ifs1 scope pos
      simp only [Bool.and_eq_true, Bool.not_eq_true'] at h
      obtain ⟨⟨⟨⟨⟨⟨⟨⟨⟨h1, h2⟩, h3⟩, h4⟩, h5⟩, h6⟩, h7⟩, h8⟩, h9⟩, h10⟩ := h
      refine .plain (den_lc2 c.calm (by rw [c.N]; exact c.nd) (chkw_ok w c h1) (own := owns L (t.slots ++ t1.slots)) (by rw [c.N, c.sc]; exact blkOk_by h8) (fun s H Ca cl fp => chkG_ok t (c.blk s H scope Ca cl fp) h2)
        (fun s H Ca cl fp => chkc_ok co (c.blk s H scope Ca cl fp) h3) (fun s H Ca cl fp => chkw_ok w1 (c.blk s H scope Ca cl fp) h4) (fun s H Ca cl fp => chkG_ok t1 (c.blk s H scope Ca cl fp) h5)
        (fun s H Ca cl fp => chkc_ok co1 (c.blk s H scope Ca cl fp) h6) (fun s H Ca cl fp => (chk_ok e0 (c.blk s H scope Ca cl fp) h7).d) ?_ (fun i hi => List.mem_append_left _ hi) (fun i hi => hi) (fun i hi => List.mem_append_right _ hi) h9 h10) rfl
      unfold owns
      rw [List.map_map]
      exact List.map_id _
    · cases h
  | .ss m a, X, W, L, e, c, h => by
    unfold chk at h
    split at h
    · simp only [Bool.and_eq_true, decide_eq_true_eq, Bool.not_eq_true'] at h
      obtain ⟨⟨⟨⟨⟨⟨⟨h1, h2⟩, h3⟩, h4⟩, h5⟩, h6⟩, h7⟩, h8⟩ := h
      subst h1 h2
      exact .plain (den_ss c.calm (c.gl h3) (c.gf.gf _ h4) (c.gl h5) (c.gf.gf _ h6) (chk_ok a c h7).d h8) rfl
    · cases h
  | .rl1 tup m a, X, W, L, e, c, h => by
    unfold chk at h
    split at h
    · simp only [Bool.and_eq_true, decide_eq_true_eq, Bool.not_eq_true'] at h
      obtain ⟨⟨⟨⟨⟨⟨⟨h1, h2⟩, h3⟩, h4⟩, h5⟩, h6⟩, h7⟩, h8⟩ := h
      subst h2
      exact .plain (den_rngL1 c.calm h1 (c.gl h3) (c.gf.gf _ h4) (c.gl h5) (c.gf.gf _ h6) (chk_ok a c h7).d h8) rfl
    · cases h
  | .rl2 tup m a b, X, W, L, e, c, h => by
    unfold chk at h
    split at h
    · simp only [Bool.and_eq_true, decide_eq_true_eq, Bool.not_eq_true'] at h
      obtain ⟨⟨⟨⟨⟨⟨⟨⟨⟨h1, h2⟩, h3⟩, h4⟩, h5⟩, h6⟩, h7⟩, h8⟩, h9⟩, h10⟩ := h
      subst h2
      exact .plain (den_rngL2 c.calm h1 (c.gl h3) (c.gf.gf _ h4) (c.gl h5) (c.gf.gf _ h6) (chk_ok a c h7).d (chk_ok b c h8).d h9 h10) rfl
    · cases h
  | .dnew, X, W, L, e, c, h => by
    unfold chk at h
    split at h
    · exact .plain den_dnew rfl
    · cases h
  | .get1 o a, X, W, L, e, c, h => by
    unfold chk at h
    split at h
    · simp only [Bool.and_eq_true, decide_eq_true_eq, Bool.not_eq_true'] at h
      obtain ⟨⟨⟨⟨⟨h1, h2⟩, h3⟩, h4⟩, h5⟩, h6⟩ := h
      subst h1
      exact .plain (den_get1 c.un (chk_ok o c h4).d (chk_ok a c h5).d h2 (by unfold noStar; simp [h6]) h3) rfl
    · cases h
  | .get2 o a b, X, W, L, e, c, h => by
    unfold chk at h
    split at h
    · simp only [Bool.and_eq_true, decide_eq_true_eq, Bool.not_eq_true'] at h
      obtain ⟨⟨⟨⟨⟨⟨⟨h1, h2⟩, h3⟩, h4⟩, h5⟩, h6⟩, h7⟩, h8⟩ := h
      subst h1
      exact .plain (den_get2 c.un (chk_ok o c h4).d (chk_ok a c h5).d (chk_ok b c h6).d h2 (by unfold noStar; simp [h7, h8]) h3) rfl
    · cases h
  | .lock i a, X, W, L, e, c, h => by
    unfold chk at h
    exact .plain (den_lock (chk_ok a c h).d) rfl
theorem chks_ok : ∀ (l : Es) {X : Cx} {W : WX} {L : Lm} {es : List Expr}, Cxt G C k X W L → chks G l L es = true → DenA X W es (evs G C l) ∧ noStar es = true ∧ es.length = l.len ∧ (es = [] → evs G C l = evNil)
  | .nil, X, W, L, es, c, h => by
    unfold chks at h
    split at h
    · exact ⟨dena_nil, rfl, rfl, fun _ => rfl⟩
    · cases h
  | .cons x l, X, W, L, es, c, h => by
    unfold chks at h
    split at h
    · rename_i e r
      simp only [Bool.and_eq_true, Bool.not_eq_true'] at h
      obtain ⟨⟨h1, h2⟩, h3⟩ := h
      obtain ⟨g1, g2, g3, g4⟩ := chks_ok l c h3
      refine ⟨dena_cons (chk_ok x c h1).d g1 (star1 h2), ?_, ?_, fun z => by cases z⟩
      · unfold noStar at g2 ⊢
        rw [List.all_cons, g2, h2]; rfl
      · show r.length + 1 = l.len + 1
        rw [g3]
    · cases h
theorem chkk_ok : ∀ (l : Es) {X : Cx} {W : WX} {L : Lm} {es : List Keyword}, Cxt G C k X W L → chkk G l L es = true → DenK X W es (evs G C l) ∧ (∀ ks, kwNames es = some ks → l.len = ks.length)
  | .nil, X, W, L, es, c, h => by
    unfold chkk at h
    split at h
    · exact ⟨denk_nil, fun ks e => by cases e; rfl⟩
    · cases h
  | .cons x l, X, W, L, es, c, h => by
    unfold chkk at h
    split at h
    · rename_i n e kp r
      simp only [Bool.and_eq_true] at h
      obtain ⟨h1, h2⟩ := h
      obtain ⟨g1, g2⟩ := chkk_ok l c h2
      refine ⟨denk_cons (chk_ok x c h1).d g1, fun ks q => ?_⟩
      cases n with
      | none => cases q
      | some n =>
        have q' : (kwNames r).map (n :: ·) = some ks := q
        cases z : kwNames r with
        | none => rw [z] at q'; cases q'
        | some zs =>
          rw [z] at q'
          cases q'
          show l.len + 1 = zs.length + 1
          rw [g2 zs z]
    · cases h
theorem chko_ok : ∀ (o : Ox) {X : Cx} {W : WX} {L : Lm} {e : Option Expr}, Cxt G C k X W L → chko G o L e = true → DenO X W e (evo G C o)
  | .no, X, W, L, e, c, h => by
    unfold chko at h
    split at h
    · exact deno_none
    · cases h
  | .yes x, X, W, L, e, c, h => by
    unfold chko at h
    split at h
    · exact deno_some (chk_ok x c h).d
    · cases h
theorem chkc_ok : ∀ (o : Ox) {X : Cx} {W : WX} {L : Lm} {e : List Expr}, Cxt G C k X W L → chkc G o L e = true → DenTs X W e (evc G C o)
  | .no, X, W, L, e, c, h => by
    unfold chkc at h
    split at h
    · exact dents_nil
    · cases h
  | .yes x, X, W, L, e, c, h => by
    unfold chkc at h
    split at h
    · simp only [Bool.and_eq_true] at h
      exact dents_one ((chk_ok x c h.1).t h.2)
    · cases h
theorem chkw_ok : ∀ (w : Wk) {X : Cx} {W : WX} {L : Lm} {tg e : Expr}, Cxt G C k X W L → chkw G w L tg e = true → DenI X W tg e (evw G C w)
  | .seq x, X, W, L, tg, e, c, h => by
    unfold chkw at h
    exact deni_seqK (chk_ok x c h).d
  | .rng l, X, W, L, tg, e, c, h => by
    unfold chkw at h
    split at h
    · rename_i x p es pos
      simp only [Bool.and_eq_true, decide_eq_true_eq] at h
      obtain ⟨⟨⟨⟨⟨h1, h2⟩, h3⟩, h4⟩, h5⟩, h6⟩ := h
      subst h1
      obtain ⟨g1, g2, g3, g4⟩ := chks_ok l c h6
      show DenI X W tg _ (fun σ h => (evs G C l σ h).bind fun us h => if us.length = l.len then rngS us h else .bad)
      rw [fold_rng g3]
      match es, h4, h5, g1, g2 with
      | [], h4, _, _, _ => exact absurd h4 (by decide)
      | [a], _, _, g1, g2 => exact deni_range1 (c.gl h2) (c.gf.gf _ h3) g1 g2
      | [a, b], _, _, g1, g2 => exact deni_range2 (c.gl h2) (c.gf.gf _ h3) g1 g2
      | [a, b, d], _, _, g1, g2 => exact deni_range3 (c.gl h2) (c.gf.gf _ h3) g1 g2
      | _ :: _ :: _ :: _ :: _, _, h5, _, _ => exact absurd h5 (by simp)
    · cases h
  | .enu l, X, W, L, tg, e, c, h => by
    unfold chkw at h
    split at h
    · simp only [Bool.and_eq_true, decide_eq_true_eq] at h
      obtain ⟨⟨⟨⟨h1, h2⟩, h3⟩, h4⟩, h5⟩ := h
      subst h1
      obtain ⟨g1, g2, g3, g4⟩ := chks_ok l c h5
      cases tg <;> first | exact deni_enum (c.gl h2) (c.gf.gf _ h3) g1 g2 | cases h4
    · cases h
  | .zip l, X, W, L, tg, e, c, h => by
    unfold chkw at h
    split at h
    · simp only [Bool.and_eq_true, decide_eq_true_eq] at h
      obtain ⟨⟨⟨⟨h1, h2⟩, h3⟩, h4⟩, h5⟩ := h
      subst h1
      obtain ⟨g1, g2, g3, g4⟩ := chks_ok l c h5
      cases tg <;> first | exact deni_zip (c.gl h2) (c.gf.gf _ h3) g1 g2 | cases h4
    · cases h
  | .its a, X, W, L, tg, e, c, h => by
    unfold chkw at h
    split at h
    · simp only [Bool.and_eq_true, decide_eq_true_eq, Bool.not_eq_true'] at h
      obtain ⟨⟨⟨⟨h1, h2⟩, h3⟩, h4⟩, h5⟩ := h
      subst h1
      cases tg <;> first | exact deni_items (chk_ok a c h5).d h2 h3 | exact deni_itemsN (chk_ok a c h5).d h2 h3 | cases h4
    · cases h
  | .vals a, X, W, L, tg, e, c, h => by
    unfold chkw at h
    split at h
    · simp only [Bool.and_eq_true, decide_eq_true_eq, Bool.not_eq_true'] at h
      obtain ⟨⟨⟨h1, h2⟩, h3⟩, h4⟩ := h
      subst h1
      exact deni_values (chk_ok a c h4).d h2 h3
    · cases h
end
end
end Py

/-! the compact tree of statements; defs; a tree that fits says what the text does -/
namespace Py
open PySem PySem.Spec PyProof.Rows L2
theorem dens_setLc {X : Cx} {W : WX} {m : Bool} {i : Nat} {y : Str} {py : Pos} {elt tg iter : Expr} {ifs : List Expr} {scope : Scope} {own : List (Str × Nat)} {pos spos : Pos} {t : Tg} {vs : List Nat} {fi : En → List O → R Src} {ft : En → List O → R Bool} {fe : En → List O → R U} (hc : X.calm = true) (hN : X.N.Nodup) (hy : X.N[i]? = some y)
    (hyl : X.env.scope.names.lookup y = some .local) (hsw : swapsWith (.ListComp elt [⟨tg, iter, ifs, 0⟩] scope pos) (some (.Name y py)) spos.line X.env = pure true) (hi : DenI X W tg iter fi) (ok : BlkOk X.N X.env.scope scope own)
    (hg : ∀ (s : Shared) (H : Hp) (C : Addr) (cl : List (Str × Addr)) (fp : List Addr), DenG (X.blk s H scope (compEnvC scope cl C X.env) fp) tg t)
    (ht : ∀ (s : Shared) (H : Hp) (C : Addr) (cl : List (Str × Addr)) (fp : List Addr), DenTs (X.blk s H scope (compEnvC scope cl C X.env) fp) W0 ifs ft)
    (he : ∀ (s : Shared) (H : Hp) (C : Addr) (cl : List (Str × Addr)) (fp : List Addr), Den (X.blk s H scope (compEnvC scope cl C X.env) fp) W0 elt fe)
    (hv : own.map (·.2) = vs) (hsl : ∀ i ∈ t.slots, i ∈ vs) (hs : isSetD iter = false) : DenS X W (.Assign [.Name y py] (.ListComp elt [⟨tg, iter, ifs, 0⟩] scope pos) spos) (sAsg (evLc m t vs fi ft fe) (.nm i)) := by
  obtain ⟨wi, pi, ci⟩ := hi
  subst hv
  refine dens_of (ps_setLc (g := tG X.K t) (tt := tT X.K W0 ft) (te := tE X.K W0 fe) hc hN hy hyl hsw pi ok (fun s H C cl fp => (hg s H C cl fp).pg) ht (fun s H C cl fp => (he s H C cl fp).pe) (noFold hs)) fun σ' h σ H μ D re rh p => ?_
  exact lc_body ci hsl σ' h σ H μ _ re rh (PostS.stm re p fun a h1 H1 μ1 b e1 rh1 rel p1 => p1.nx rh1 ((re.ext e1).set rel))
mutual
inductive Sm where
  | doc | drop (e : Ex) | set (i : Nat) (e : Ex) | slc (i : Nat) (m : Bool) (t : Tg) (w : Wk) (c : Ox) (e : Ex) | tup (t : Tg) (e : Ex) | par2 (i j : Nat) (l : Es) | par3 (i j k : Nat) (l : Es) | sub (o i e : Ex)
  | ife (c : Ex) (a b : Ss) | wh (c : Ex) (b : Ss) | fo (t : Tg) (w : Wk) (b : Ss) | ret (e : Ex) | retN | rais (x : Str) | tr (b : Ss) (hs : Hs) | pass | brk | cnt | lock (i : Nat) (s : Sm) | slc2 (i : Nat) (m : Bool) (t : Tg) (w : Wk) (c : Ox) (t1 : Tg) (w1 : Wk) (c1 : Ox) (e : Ex) | aug (i : Nat) (sub : Bool) (e : Ex)
inductive Ss where
  | nil | cons (s : Sm) (r : Ss)
inductive Hs where
  | nil | cons (x : Str) (b : Ss) (r : Hs)
end
section
variable (G : Gt) (C : Str → List U → List O → R U) (F : Nat)
def exmB (G : Gt) (c d : Str) : Bool := decide ((c, d) ∈ G.gm)
mutual
def ex : Sm → En → List O → Fl
  | .doc => sNx
  | .drop e => sDrop (ev G C e)
  | .set i e => sAsg (ev G C e) (.nm i)
  | .slc i m t w c e => sAsg (evLc m t t.slots (evw G C w) (evc G C c) (ev G C e)) (.nm i)
  | .tup t e => sAsg (ev G C e) t
  | .par2 i j l => sPar2 i j (evs G C l)
  | .par3 i j k l => sPar3 i j k (evs G C l)
  | .sub o i e => sSub (ev G C e) (ev G C o) (ev G C i)
  | .ife c a b => sIf (tv G C c) (exs a) (exs b)
  | .wh c b => whGo (tv G C c) (exs b) F
  | .fo t w b => sFor t (evw G C w) (exs b)
  | .ret e => sRet (ev G C e)
  | .retN => sRetN
  | .rais x => sRaise x
  | .tr b hs => sTry (exmB G) G.gx (exs b) (exh hs)
  | .pass => sNx
  | .brk => sBk
  | .cnt => sCt
  | .lock i s => lockS i (ex s)
  | .slc2 i m t w c t1 w1 c1 e => sAsg (evLc2 m t (t.slots ++ t1.slots) (evw G C w) (evc G C c) t1 t1.slots (evw G C w1) (evc G C c1) (ev G C e)) (.nm i)
  | .aug i sub e => sAug i sub (ev G C e)
def exs : Ss → En → List O → Fl
  | .nil => sNx
  | .cons s r => sSeq (ex s) (exs r)
def exh : Hs → List (Str × (En → List O → Fl))
  | .nil => []
  | .cons x b r => (x, exs b) :: exh r
end
end
/-! ### when it fits -/
def swB (L : Lm) (scope : Scope) (lp : Pos) (y : Str) (py : Pos) : Bool := L.sc.names.lookup y == some .local && py.line == lp.line && !(scope.names.any fun (n, k) => n == y && (k == .local || k == .cell))
def noSwB (L : Lm) (e : Expr) (y : Str) (py : Pos) : Bool := match e with
  | .ListComp _ _ scope lp => !swB L scope lp y py
  | .SetComp _ _ _ _ => false
  | .DictComp _ _ _ _ _ => false
  | _ => true
def swS (sc : Scope) (ts vs : List Expr) : Option (Option (List Str)) :=
  if (!(ts.length == 2 || ts.length == 3) || vs.length != ts.length) = true then some none else
  if (vs.any fun | .Starred .. => true | _ => false) = true then some none else
  let line := (ts.head?.map (·.pos.line)).getD 0
  let names := ts.filterMap fun
    | .Name id pos => if sc.names.lookup id == some .local && pos.line == line then some id else none
    | _ => none
  if (names.length != ts.length || names.eraseDups.length != names.length) = true then some none else
  if vs.all (foldedForSure 8) = true then some none else
  if vs.all (constantsAlone 8) = true then none else
  some (some names)
theorem swS_ok {env : Env} {ts vs : List Expr} {k1 k2 : Nat} {p1 p2 : Pos} {r : Option (List Str)} (hk : env.scope.kind = .function) (h : swS env.scope ts vs = some r) : swappedStores [.Tuple ts k1 p1] (.Tuple vs k2 p2) env = pure r := by
  have hb : env.blockKind = .function := by unfold Env.blockKind; rw [hk]; rfl
  unfold swS at h
  unfold swappedStores Env.kindOf
  dsimp only
  rw [hb]
  have e0 : (!(ts.length == 2 || ts.length == 3) || vs.length != ts.length || (ScopeKind.function != .function)) = (!(ts.length == 2 || ts.length == 3) || vs.length != ts.length) := by
    rw [show ((ScopeKind.function != .function) : Bool) = false from rfl, Bool.or_false]
  rw [e0]
  split at h
  · rename_i q; cases h; exact if_pos q
  · rename_i q
    refine (if_neg q).trans ?_
    split at h
    · rename_i q; cases h; exact if_pos q
    · rename_i q
      refine (if_neg q).trans ?_
      dsimp only at h ⊢
      split at h
      · rename_i q; cases h; exact if_pos q
      · rename_i q
        refine (if_neg q).trans ?_
        split at h
        · rename_i q; cases h; exact if_pos q
        · rename_i q
          refine (if_neg q).trans ?_
          split at h
          · cases h
          · rename_i q; cases h; exact if_neg q

theorem swB_ok {L : Lm} {env : Env} {elt : Expr} {gs : List Comprehension} {scope : Scope} {lp py : Pos} {y : Str} {l : Nat} (hs : env.scope = L.sc) (hk : env.scope.kind = .function) : swapsWith (.ListComp elt gs scope lp) (some (.Name y py)) l env = pure (swB L scope lp y py) := by
  have hb : env.blockKind = .function := by unfold Env.blockKind; rw [hk]; rfl
  unfold swapsWith swB
  dsimp only
  unfold Env.kindOf
  rw [hb, hs]
  simp only [Expr.pos]
  rfl
theorem noSwB_ok {L : Lm} {env : Env} {e : Expr} {py : Pos} {y : Str} {l : Nat} (hs : env.scope = L.sc) (hk : env.scope.kind = .function) (h : noSwB L e y py = true) : swapsWith e (some (.Name y py)) l env = pure false := by
  cases e <;> first
    | (rename_i elt gs scope lp
       rw [swB_ok hs hk]
       unfold noSwB at h
       dsimp only at h
       rw [Bool.not_eq_true'] at h
       rw [h])
    | (unfold noSwB at h; cases h; done)
    | rfl
theorem noSwT {e : Expr} {es : List Expr} {k l : Nat} {p : Pos} {env : Env} : swapsWithSole [.Tuple es k p] e l env = pure false := by
  unfold swapsWithSole
  cases e <;> rfl
section
variable (G : Gt)
/-- a statement of an except clause -/
def chkU : Sm → Lm → Stmt → Bool
  | .set i x, L, st => match st with
    | .Assign [.Name y _] e _ => decide (L.N[i]? = some y) && locB L y && !isCmp e && (match x with
      | .str s => (match e with | .Constant (.str j) _ _ => decide (s = j) && PyData.strOk s | _ => false)
      | .int n => (match e with | .Constant (.int j) _ _ => decide (n = j) | _ => false)
      | .bl n => (match e with | .Constant (.bool j) _ _ => n == j | _ => false)
      | .non => (match e with | .Constant .none _ _ => true | _ => false)
      | _ => false)
    | _ => false
  | .ret x, L, st => match st with
    | .Return (some e) _ => (match x with
      | .str s => (match e with | .Constant (.str j) _ _ => decide (s = j) && PyData.strOk s | _ => false)
      | .int n => (match e with | .Constant (.int j) _ _ => decide (n = j) | _ => false)
      | .bl n => (match e with | .Constant (.bool j) _ _ => n == j | _ => false)
      | .non => (match e with | .Constant .none _ _ => true | _ => false)
      | _ => false)
    | _ => false
  | .pass, _, st => match st with
    | .Pass _ => true
    | _ => false
  | .cnt, _, st => match st with
    | .Continue _ => true
    | _ => false
  | .brk, _, st => match st with
    | .Break _ => true
    | _ => false
  | _, _, _ => false
def isNm (y : Str) (e : Expr) : Bool := match e with
  | .Name x _ => decide (x = y)
  | _ => false
mutual
def chkS : Sm → Lm → Stmt → Bool
  | .doc, _, st => match st with
    | .Expr (.Constant (.str _) _ _) _ => true
    | _ => false
  | .drop x, L, st => match st with
    | .Expr e _ => chk G x L e && !isCmp e
    | _ => false
  | .set i x, L, st => match st with
    | .Assign [.Name y py] e _ => decide (L.N[i]? = some y) && locB L y && chk G x L e && noSwB L e y py
    | _ => false
  | .slc i m t w c x, L, st => match st with
    | .Assign [.Name y py] (.ListComp elt [⟨tg, iter, ifs, 0⟩] scope lp) _ => decide (L.N[i]? = some y) && (L.sc.names.lookup y == some .local) && swB L scope lp y py && chkw G w L tg iter && chkG t (inner L scope) tg && chkc G c (inner L scope) ifs && chk G x (inner L scope) elt && blkC L.N L.sc scope (owns L t.slots) && !isSetD iter
    | _ => false
  | .tup t x, L, st => match st with
    | .Assign [.Tuple ts k p] e _ => chkG t L (.Tuple ts k p) && chk G x L e && (match e with
      | .Tuple vs _ _ => (match swS L.sc ts vs with
        | some none => true
        | _ => false)
      | _ => true)
    | _ => false
  | .par2 i j l, L, st => match st with
    | .Assign [.Tuple [.Name x px, .Name y py] _ _] (.Tuple [a, b] _ _) _ => decide (swS L.sc [.Name x px, .Name y py] [a, b] = some (some [x, y])) && decide (L.N[i]? = some x) && decide (L.N[j]? = some y) && decide (i ≠ j) && (L.sc.names.lookup x == some .local) && (L.sc.names.lookup y == some .local) && chks G l L [a, b]
    | _ => false
  | .par3 i j n l, L, st => match st with
    | .Assign [.Tuple [.Name x px, .Name y py, .Name z pz] _ _] (.Tuple [a, b, c] _ _) _ => decide (swS L.sc [.Name x px, .Name y py, .Name z pz] [a, b, c] = some (some [x, y, z])) && decide (L.N[i]? = some x) && decide (L.N[j]? = some y) && decide (L.N[n]? = some z) && decide (i ≠ j) && decide (i ≠ n) && decide (j ≠ n) && (L.sc.names.lookup x == some .local) && (L.sc.names.lookup y == some .local) && (L.sc.names.lookup z == some .local) && chks G l L [a, b, c]
    | _ => false
  | .sub o i x, L, st => match st with
    | .Assign [.Subscript a b _] e _ => chk G x L e && chk G o L a && chk G i L b && !isCmp e && !isSl b
    | _ => false
  | .ife c a b, L, st => match st with
    | .If e p q _ => chk G c L e && okT c && chkB a L p && chkB b L q
    | _ => false
  | .wh c b, L, st => match st with
    | .While e p [] _ => chk G c L e && okT c && chkB b L p
    | _ => false
  | .fo t w b, L, st => match st with
    | .For tg iter p [] _ => chkG t L tg && chkw G w L tg iter && chkB b L p && !isSetD iter
    | _ => false
  | .ret x, L, st => match st with
    | .Return (some e) _ => chk G x L e
    | _ => false
  | .retN, _, st => match st with
    | .Return none _ => true
    | _ => false
  | .rais y, L, st => match st with
    | .Raise (some (.Call (.Name x _) [.Constant (.str _) _ _] [] _)) none _ => decide (x = y) && glB L.sc x && plN x && decide (x ∈ G.gx)
    | _ => false
  | .tr b hs, L, st => match st with
    | .Try p (h :: r) [] [] _ => chkB b L p && chkH hs L (h :: r)
    | _ => false
  | .pass, _, st => match st with
    | .Pass _ => true
    | _ => false
  | .brk, _, st => match st with
    | .Break _ => true
    | _ => false
  | .cnt, _, st => match st with
    | .Continue _ => true
    | _ => false
  | .lock _ s, L, st => chkS s L st
  | .slc2 i m t w c t1 w1 c1 x, L, st => match st with
    | .Assign [.Name y py] (.ListComp elt [⟨tg, iter, ifs, 0⟩, ⟨tg1, iter1, ifs1, 0⟩] scope lp) _ => decide (L.N[i]? = some y) && (L.sc.names.lookup y == some .local) && swB L scope lp y py && chkw G w L tg iter && chkG t (inner L scope) tg && chkc G c (inner L scope) ifs && chkw G w1 (inner L scope) tg1 iter1 && chkG t1 (inner L scope) tg1 && chkc G c1 (inner L scope) ifs1 && chk G x (inner L scope) elt && blkC L.N L.sc scope (owns L (t.slots ++ t1.slots)) && !isSetD iter && !isSetD iter1
    | _ => false
  | .aug i sub x, L, st => match st with
    | .AugAssign (.Name y _) op e _ => decide (L.N[i]? = some y) && locB L y && decide (op = if sub = true then .Sub else .Add) && chk G x L e
    | _ => false
def chkB : Ss → Lm → List Stmt → Bool
  | .nil, _, sts => match sts with
    | [] => true
    | _ => false
  | .cons s r, L, sts => match sts with
    | st :: rest => chkS s L st && chkB r L rest
    | _ => false
def chkH : Hs → Lm → List ExceptHandler → Bool
  | .nil, _, hs => match hs with
    | [] => true
    | _ => false
  | .cons y b r, L, hs => match hs with
    | .ExceptHandler (some (.Name x _)) none (s :: ss) _ :: rest => decide (x = y) && glB L.sc x && plN x && decide (x ∈ G.gx) && chkUs b L (s :: ss) && chkH r L rest
    | _ => false
def chkUs : Ss → Lm → List Stmt → Bool
  | .nil, _, sts => match sts with
    | [] => true
    | _ => false
  | .cons s r, L, sts => match sts with
    | st :: rest => chkU s L st && chkUs r L rest
    | _ => false
end
end
structure GX (K : PySem.W.Frag) (mg : Str → Option Value) (G : Gt) : Prop where
  ok : ∀ x ∈ G.gx, mg x = some (.ref (He.ga K x)) ∧ (∃ bmB B newId initId, ExcBaseFacts B newId initId bmB ∧ PySem.W.excIn K (He.ga K x) bmB newId = true) ∧ PySem.W.keepIn K (.ref (He.ga K x)) = true ∧ PySem.W.subIn K (.ref (He.ga K x)) (.type "BaseException") = some true ∧ PySem.W.typeIn K (.ref (He.ga K x)) = some (.type "type")
  sub : ∀ c ∈ G.gx, ∀ d ∈ G.gx, PySem.W.exmOne K (.ref (He.ga K c)) (.ref (He.ga K d)) = some (exmB G c d)
structure CxtS (G : Gt) (C : Str → List U → List O → R U) (k : Nat) (X : Cx) (W : WX) (L : Lm) : Prop where
  c : Cxt G C k X W L
  hp : PassesOwn (model X.prog X.w) X.A X.env X.xe
  hs : X.stack = X.env :: X.outer
  hf : X.env.frame = some X.env.locals
  kd : L.sc.kind = .function
  gx : GX X.K X.mg G
section
variable (G : Gt) (C : Str → List U → List O → R U) (F : Nat) (k : Nat)
theorem tup_sw {L : Lm} {env : Env} {ts : List Expr} {e : Expr} {n : Nat} {p : Pos} (hs : env.scope = L.sc) (hk : env.scope.kind = .function) (h : (match e with | .Tuple vs _ _ => (match swS L.sc ts vs with | some none => true | _ => false) | _ => true) = true) : swappedStores [.Tuple ts n p] e env = pure none := by
  cases e <;> first
    | (rename_i vs k2 p2
       dsimp only at h
       split at h
       · rename_i q
         exact swS_ok hk (by rw [hs]; exact q)
       · cases h)
    | rfl

theorem cst_ok {X : Cx} {W : WX} {x : Ex} {e : Expr} (h : (match x with
      | .str s => (match e with | .Constant (.str j) _ _ => decide (s = j) && PyData.strOk s | _ => false)
      | .int n => (match e with | .Constant (.int j) _ _ => decide (n = j) | _ => false)
      | .bl n => (match e with | .Constant (.bool j) _ _ => n == j | _ => false)
      | .non => (match e with | .Constant .none _ _ => true | _ => false)
      | _ => false) = true) : Den X W e (ev G C x) := by
  split at h
  · split at h
    · simp only [Bool.and_eq_true, decide_eq_true_eq] at h
      obtain ⟨h1, h2⟩ := h
      subst h1
      exact den_str h2
    · cases h
  · split at h
    · have h := of_decide_eq_true h
      subst h
      exact den_int
    · cases h
  · split at h
    · have h := beq_iff_eq.mp h
      subst h
      exact den_bl
    · cases h
  · split at h
    · exact den_non
    · cases h
  · cases h
/-- the facts that an except clause needs -/
structure CxtU (X : Cx) (L : Lm) : Prop where
  N : X.N = L.N
  nd : L.N.Nodup
  sc : X.env.scope = L.sc
  fc : ∀ x, L.fc x = true → X.fn x = true
theorem CxtU.loc {X : Cx} {L : Lm} (c : CxtU X L) {x : Str} (h : locB L x = true) : Loc X.env.scope x ∧ (X.fn x = true ∨ X.env.scope.names.lookup x = some .local) := by
  unfold locB at h
  rw [c.sc]
  split at h
  · rename_i q; exact ⟨.inl q, .inr q⟩
  · rename_i q; exact ⟨.inr q, .inl (c.fc x h)⟩
  · cases h
theorem chkU_ok : ∀ (s : Sm) {X : Cx} {W : WX} {L : Lm} {st : Stmt}, CxtU X L → chkU s L st = true → DenS X W st (ex G C F s) := by
  intro s X W L st c h
  cases s with
  | set i x =>
    unfold chkU at h
    dsimp only at h
    split at h
    · simp only [Bool.and_eq_true, decide_eq_true_eq, Bool.not_eq_true'] at h
      obtain ⟨⟨⟨h1, h2⟩, h3⟩, h4⟩ := h
      exact dens_set (by rw [c.N]; exact c.nd) (by rw [c.N]; exact h1) (c.loc h2).1 (c.loc h2).2 (cst_ok G C h4) (noSwap h3)
    · cases h
  | ret x =>
    unfold chkU at h
    dsimp only at h
    split at h
    · exact dens_ret (cst_ok G C h)
    · cases h
  | pass =>
    unfold chkU at h
    dsimp only at h
    split at h
    · exact dens_pass
    · cases h
  | brk =>
    unfold chkU at h
    dsimp only at h
    split at h
    · exact dens_break
    · cases h
  | cnt =>
    unfold chkU at h
    dsimp only at h
    split at h
    · exact dens_cont
    · cases h
  | _ => cases h
theorem chkUs_ok : ∀ (s : Ss) {X : Cx} {W : WX} {L : Lm} {sts : List Stmt}, CxtU X L → chkUs G s L sts = true → DenB X W sts (exs G C F s)
  | .nil, X, W, L, sts, c, h => by
    unfold chkUs at h
    split at h
    · exact denb_nil
    · cases h
  | .cons s r, X, W, L, sts, c, h => by
    unfold chkUs at h
    split at h
    · simp only [Bool.and_eq_true] at h
      exact denb_cons (chkU_ok G C F s c h.1) (chkUs_ok r c h.2)
    · cases h
theorem CxtS.tr {X : Cx} {W W' : WX} {L : Lm} (c : CxtS G C k X W L) (pn : List (Addr × Obj)) (xe : Value → Shared → Prop) (tk : Takes (X.tr pn xe) W') (hp : PassesOwn (model X.prog X.w) X.A X.env xe) : CxtS G C k (X.tr pn xe) W' L where
  c := ⟨c.c.N, c.c.nd, c.c.sc, c.c.calm, c.c.room, tk, c.c.gf, ⟨c.c.ff.ok⟩, c.c.fc⟩
  hp := hp
  hs := c.hs
  hf := c.hf
  kd := c.kd
  gx := c.gx
mutual
theorem chkS_ok : ∀ (s : Sm) {X : Cx} {W : WX} {L : Lm} {st : Stmt}, CxtS G C k X W L → chkS G s L st = true → DenS X W st (ex G C F s)
  | .doc, X, W, L, st, c, h => by
    unfold chkS at h
    split at h
    · exact dens_of ps_doc fun σ' h σ H μ D re rh p => p.nx rh re
    · cases h
  | .drop x, X, W, L, st, c, h => by
    unfold chkS at h
    split at h
    · simp only [Bool.and_eq_true, Bool.not_eq_true'] at h
      exact dens_expr (chk_ok G C k x c.c h.1).d h.2
    · cases h
  | .set i x, X, W, L, st, c, h => by
    unfold chkS at h
    split at h
    · simp only [Bool.and_eq_true, decide_eq_true_eq] at h
      obtain ⟨⟨⟨h1, h2⟩, h3⟩, h4⟩ := h
      exact dens_set (by rw [c.c.N]; exact c.c.nd) (by rw [c.c.N]; exact h1) (c.c.loc h2).1 (c.c.loc h2).2 (chk_ok G C k x c.c h3).d (noSwB_ok c.c.sc (by rw [c.c.sc]; exact c.kd) h4)
    · cases h
  | .slc i m t w co x, X, W, L, st, c, h => by
    unfold chkS at h
    split at h
    · rename_i y py elt tg iter ifs scope lp pos
      simp only [Bool.and_eq_true, decide_eq_true_eq, Bool.not_eq_true', beq_iff_eq] at h
      obtain ⟨⟨⟨⟨⟨⟨⟨⟨h1, h2⟩, h3⟩, h4⟩, h5⟩, h6⟩, h7⟩, h8⟩, h9⟩ := h
      refine dens_setLc c.c.calm (by rw [c.c.N]; exact c.c.nd) (by rw [c.c.N]; exact h1) (by rw [c.c.sc]; exact h2) (by rw [swB_ok c.c.sc (by rw [c.c.sc]; exact c.kd), h3]) (chkw_ok G C k w c.c h4) (own := owns L t.slots) (by rw [c.c.N, c.c.sc]; exact blkOk_by h8)
        (fun s H Ca cl fp => chkG_ok t (c.c.blk s H scope Ca cl fp) h5) (fun s H Ca cl fp => chkc_ok G C k co (c.c.blk s H scope Ca cl fp) h6) (fun s H Ca cl fp => (chk_ok G C k x (c.c.blk s H scope Ca cl fp) h7).d) ?_ (fun i hi => hi) h9
      unfold owns
      rw [List.map_map]
      exact List.map_id _
    · cases h
  | .tup t x, X, W, L, st, c, h => by
    unfold chkS at h
    split at h
    · simp only [Bool.and_eq_true] at h
      obtain ⟨⟨h1, h2⟩, h3⟩ := h
      exact dens_tup (chkG_ok t c.c h1) (chk_ok G C k x c.c h2).d noSwT (tup_sw c.c.sc (by rw [c.c.sc]; exact c.kd) h3) rfl
    · cases h
  | .par2 i j l, X, W, L, st, c, h => by
    unfold chkS at h
    split at h
    · simp only [Bool.and_eq_true, decide_eq_true_eq, beq_iff_eq] at h
      obtain ⟨⟨⟨⟨⟨⟨h0, h1⟩, h2⟩, h3⟩, h4⟩, h5⟩, h6⟩ := h
      exact dens_par2 c.c.calm (by rw [c.c.N]; exact c.c.nd) (by rw [c.c.N]; exact h1) (by rw [c.c.N]; exact h2) h3 (by rw [c.c.sc]; exact h4) (by rw [c.c.sc]; exact h5) (chks_ok G C k l c.c h6).1 (swS_ok (by rw [c.c.sc]; exact c.kd) (by rw [c.c.sc]; exact h0))
    · cases h
  | .par3 i j n l, X, W, L, st, c, h => by
    unfold chkS at h
    split at h
    · simp only [Bool.and_eq_true, decide_eq_true_eq, beq_iff_eq] at h
      obtain ⟨⟨⟨⟨⟨⟨⟨⟨⟨⟨h0, h1⟩, h2⟩, h3⟩, h4⟩, h5⟩, h6⟩, h7⟩, h8⟩, h9⟩, h10⟩ := h
      exact dens_par3 c.c.calm (by rw [c.c.N]; exact c.c.nd) (by rw [c.c.N]; exact h1) (by rw [c.c.N]; exact h2) (by rw [c.c.N]; exact h3) h4 h5 h6 (by rw [c.c.sc]; exact h7) (by rw [c.c.sc]; exact h8) (by rw [c.c.sc]; exact h9) (chks_ok G C k l c.c h10).1 (swS_ok (by rw [c.c.sc]; exact c.kd) (by rw [c.c.sc]; exact h0))
    · cases h
  | .sub o i x, X, W, L, st, c, h => by
    unfold chkS at h
    split at h
    · simp only [Bool.and_eq_true, Bool.not_eq_true'] at h
      obtain ⟨⟨⟨⟨h1, h2⟩, h3⟩, h4⟩, h5⟩ := h
      exact dens_sub (chk_ok G C k x c.c h1).d (chk_ok G C k o c.c h2).d (chk_ok G C k i c.c h3).d h4 h5 c.c.un
    · cases h
  | .ife x a b, X, W, L, st, c, h => by
    unfold chkS at h
    split at h
    · simp only [Bool.and_eq_true] at h
      obtain ⟨⟨⟨h1, h2⟩, h3⟩, h4⟩ := h
      exact dens_if ((chk_ok G C k x c.c h1).t h2) (chkB_ok a c h3) (chkB_ok b c h4)
    · cases h
  | .wh x b, X, W, L, st, c, h => by
    unfold chkS at h
    split at h
    · simp only [Bool.and_eq_true] at h
      obtain ⟨⟨h1, h2⟩, h3⟩ := h
      exact dens_while F c.hp ((chk_ok G C k x c.c h1).t h2) (chkB_ok b c h3)
    · cases h
  | .fo t w b, X, W, L, st, c, h => by
    unfold chkS at h
    split at h
    · simp only [Bool.and_eq_true, Bool.not_eq_true'] at h
      obtain ⟨⟨⟨h1, h2⟩, h3⟩, h4⟩ := h
      exact dens_for c.hp c.c.calm (chkw_ok G C k w c.c h2) (chkG_ok t c.c h1) (chkB_ok b c h3) h4
    · cases h
  | .ret x, X, W, L, st, c, h => by
    unfold chkS at h
    split at h
    · exact dens_ret (chk_ok G C k x c.c h).d
    · cases h
  | .retN, X, W, L, st, c, h => by
    unfold chkS at h
    split at h
    · exact dens_retN
    · cases h
  | .rais y, X, W, L, st, c, h => by
    unfold chkS at h
    split at h
    · simp only [Bool.and_eq_true, decide_eq_true_eq] at h
      obtain ⟨⟨⟨h1, h2⟩, h3⟩, h4⟩ := h
      subst h1
      obtain ⟨g1, ⟨bmB, B, newId, initId, g2, g3⟩, g4, g5, g6⟩ := c.gx.ok _ h4
      exact dens_raise c.c.calm c.c.tk g2 g3 g1 g4 (raises_own g5 g6) (c.c.gl h2) (plN_ok h3).1
    · cases h
  | .tr b hs, X, W, L, st, c, h => by
    unfold chkS at h
    split at h
    · simp only [Bool.and_eq_true] at h
      obtain ⟨h1, h2⟩ := h
      exact dens_try c.hs c.hf c.c.tk (fun W' pn xe tk hp => chkB_ok b (c.tr G C k pn xe tk hp) h1) (chkH_ok hs c h2)
    · cases h
  | .pass, X, W, L, st, c, h => by
    unfold chkS at h
    split at h
    · exact dens_pass
    · cases h
  | .brk, X, W, L, st, c, h => by
    unfold chkS at h
    split at h
    · exact dens_break
    · cases h
  | .cnt, X, W, L, st, c, h => by
    unfold chkS at h
    split at h
    · exact dens_cont
    · cases h
  | .slc2 i m t w co t1 w1 co1 x, X, W, L, st, c, h => by
    unfold chkS at h
    split at h
    · rename_i y py elt tg iter ifs tg1 iter1 ifs1 scope lp pos
      simp only [Bool.and_eq_true, decide_eq_true_eq, Bool.not_eq_true', beq_iff_eq] at h
      obtain ⟨⟨⟨⟨⟨⟨⟨⟨⟨⟨⟨⟨h1, h2⟩, h3⟩, h4⟩, h5⟩, h6⟩, h7⟩, h8⟩, h9⟩, h10⟩, h11⟩, h12⟩, h13⟩ := h
      refine dens_setLc2 c.c.calm (by rw [c.c.N]; exact c.c.nd) (by rw [c.c.N]; exact h1) (by rw [c.c.sc]; exact h2) (by rw [swB_ok c.c.sc (by rw [c.c.sc]; exact c.kd), h3]) (chkw_ok G C k w c.c h4) (own := owns L (t.slots ++ t1.slots)) (by rw [c.c.N, c.c.sc]; exact blkOk_by h11)
        (fun s H Ca cl fp => chkG_ok t (c.c.blk s H scope Ca cl fp) h5) (fun s H Ca cl fp => chkc_ok G C k co (c.c.blk s H scope Ca cl fp) h6) (fun s H Ca cl fp => chkw_ok G C k w1 (c.c.blk s H scope Ca cl fp) h7) (fun s H Ca cl fp => chkG_ok t1 (c.c.blk s H scope Ca cl fp) h8)
        (fun s H Ca cl fp => chkc_ok G C k co1 (c.c.blk s H scope Ca cl fp) h9) (fun s H Ca cl fp => (chk_ok G C k x (c.c.blk s H scope Ca cl fp) h10).d) ?_ (fun i hi => List.mem_append_left _ hi) (fun i hi => hi) (fun i hi => List.mem_append_right _ hi) h12 h13
      unfold owns
      rw [List.map_map]
      exact List.map_id _
    · cases h
  | .aug i sub x, X, W, L, st, c, h => by
    unfold chkS at h
    split at h
    · simp only [Bool.and_eq_true, decide_eq_true_eq] at h
      obtain ⟨⟨⟨h1, h2⟩, h3⟩, h4⟩ := h
      exact dens_aug (by rw [c.c.N]; exact c.c.nd) (by rw [c.c.N]; exact h1) (c.c.loc h2).1 (c.c.loc h2).2 h3 (chk_ok G C k x c.c h4).d
    · cases h
  | .lock i s, X, W, L, st, c, h => by
    unfold chkS at h
    exact dens_lock (chkS_ok s c h)
theorem chkB_ok : ∀ (s : Ss) {X : Cx} {W : WX} {L : Lm} {sts : List Stmt}, CxtS G C k X W L → chkB G s L sts = true → DenB X W sts (exs G C F s)
  | .nil, X, W, L, sts, c, h => by
    unfold chkB at h
    split at h
    · exact denb_nil
    · cases h
  | .cons s r, X, W, L, sts, c, h => by
    unfold chkB at h
    split at h
    · simp only [Bool.and_eq_true] at h
      exact denb_cons (chkS_ok s c h.1) (chkB_ok r c h.2)
    · cases h
theorem chkH_ok : ∀ (s : Hs) {X : Cx} {W : WX} {L : Lm} {hs : List ExceptHandler}, CxtS G C k X W L → chkH G s L hs = true → Hds X (exmB G) G.gx hs (exh G C F s)
  | .nil, X, W, L, sts, c, h => by
    unfold chkH at h
    split at h
    · exact .nil
    · cases h
  | .cons y b r, X, W, L, sts, c, h => by
    unfold chkH at h
    split at h
    · simp only [Bool.and_eq_true, decide_eq_true_eq] at h
      obtain ⟨⟨⟨⟨⟨h1, h2⟩, h3⟩, h4⟩, h5⟩, h6⟩ := h
      subst h1
      obtain ⟨g1, _⟩ := c.gx.ok _ h4
      exact .cons (v := .ref (He.ga X.K _)) ⟨c.c.gl h2, (plN_ok h3).1, .inl g1⟩ (fun d hd => c.gx.sub d hd _ h4) (fun a oe pn => chkUs_ok G C F b ⟨c.c.N, c.c.nd, c.c.sc, c.c.fc⟩ h5) (chkH_ok r c h6)
    · cases h
end
end
end Py

/-! defs: what a run of them gives; the table of a law's facts -/
namespace Py
open PySem PySem.Spec PyProof.Rows L2
structure Df where
  ps : List Str
  N : List Str
  keep : Bool
  body : Ss
def outU (n : Nat) (u : U) (h : List O) : R U := match u with
  | .lab m => if m < n then .ok (.lab m) (h.take n) else (match settle n (.lab m) h with
    | some d => .ok (.d d) (h.take n)
    | none => .bad)
  | u => .ok u (h.take n)
def leave (keep : Bool) (n : Nat) (r : Fl) : R U := match r with
  | .nx _ h => .ok (.d .none) (h.take n)
  | .ret u h => if keep = true then .ok u h else outU n u h
  | .er c _ h => .err c (h.take n)
  | _ => .bad
def findD (ds : List (Str × Df)) (x : Str) : Option Df := (ds.find? fun p => p.1 = x).map (·.2)
def startE (d : Df) (us : List U) : En := us.map some ++ List.replicate (d.N.length - us.length) none
def run (G : Gt) (F : Nat) (ds : List (Str × Df)) : Nat → Str → List U → List O → R U
  | 0, _, _, _ => .bad
  | k + 1, x, us, h => match findD ds x with
    | none => .bad
    | some d => if us.length = d.ps.length then leave d.keep h.length (exs G (run G F ds k) F d.body (startE d us) h) else .bad
theorem outU_of {K : PySem.W.Frag} {H H' : Hp} {μ μ' : List Addr} {h' : List O} {σ : L2.St} {W : WX} {u : U} {v : V} {Q : VK} {n : Nat} (hn : μ.length = n) (e : Ext μ H μ' H') (rh : Rh K H' μ' h') (ru : RU K H' μ' u v) (p : Post K W σ H μ (RU K) (outU n u h') Q) : Q v H' := by
  have ec : Ext μ H (μ'.take n) H' := e.cut (by omega)
  have rc := rh.cut n
  unfold outU at p
  cases ru with
  | d r => exact p _ _ _ ec rc (.d (r.sub mem_take))
  | ty m => exact p _ _ _ ec rc (.ty m)
  | gl x => exact p _ _ _ ec rc (.gl x)
  | scr q => exact p _ _ _ ec rc (.scr (q.elim (fun ⟨o, z1, z2⟩ => .inl ⟨o, z1, fun m => z2 (mem_take _ m)⟩) .inr))
  | @lab m a q =>
    dsimp only at p
    split at p
    · rename_i hm
      exact p _ _ _ ec rc (.lab (by rw [List.getElem?_take_of_lt hm]; exact q))
    · rename_i hm
      cases hs : settle n (.lab m) h' with
      | none => simp only [hs] at p; exact p.elim
      | some d =>
        simp only [hs] at p
        exact p _ _ _ ec rc (.d (settle_ok rh (.lab q) hs))
theorem leave_of {K : PySem.W.Frag} {H : Hp} {μ : List Addr} {keep : Bool} {n : Nat} {r : Fl} {E : XK} {Q : VK} (hn : μ.length = n) (p : Post K (fun c d _ H => E c d H) [] H μ (RU K) (leave keep n r) Q) :
    PostS K (fun c d _ H => E c d H) H μ r { nx := fun _ H' => Q .non H', rt := Q } := by
  cases r with
  | nx s h => exact fun σ H' μ' e rh re => p _ _ _ (e.cut (by omega)) (rh.cut n) (.d .non)
  | ret u h =>
    intro v H' μ' e rh ru
    cases keep with
    | true => exact p _ _ _ e rh ru
    | false => exact outU_of hn e rh ru p
  | er c s h => exact fun σ H' μ' e rh re => p _ _ (e.cut (by omega)) (rh.cut n)
  | bk s h => exact p.elim
  | ct s h => exact p.elim
  | bad => exact p.elim
theorem RUs.getS {K : PySem.W.Frag} {H : Hp} {μ : List Addr} {us : List U} {vs : List V} (r : RUs K H μ us vs) (m n : Nat) (hl : m = n) : RE K H μ (us.map some ++ List.replicate m none) (vs.map some ++ List.replicate n none) := by
  subst hl
  refine ⟨by simp [r.length], fun i u q => ?_⟩
  by_cases hi : i < us.length
  · rw [List.getElem?_append_left (by simpa using hi), List.getElem?_map] at q
    cases z : us[i]? with
    | none => rw [z] at q; cases q
    | some w =>
      rw [z] at q
      cases q
      obtain ⟨v, hv, rv⟩ := r.get z
      refine ⟨v, ?_, rv⟩
      rw [List.getElem?_append_left (by rw [List.length_map, ← r.length]; exact hi), List.getElem?_map, hv]
      rfl
  · rw [List.getElem?_append_right (by simpa using hi)] at q
    rw [List.getElem?_replicate] at q
    split at q <;> cases q
/-- a def of the text fits its tree -/
def fscB (N ps : List Str) (sc : Scope) : Bool :=
  (match sc.kind with | .function => true | _ => false) && !sc.isCoroutine && !sc.isGenerator && decide (N.take ps.length = ps) && (ps.all fun x => match sc.names.lookup x with | some .local => true | some .cell => true | _ => false) && (sc.names.all fun y => match y.2 with | .free => false | _ => true)
theorem fscB_ok {N ps : List Str} {sc : Scope} (hN : N.Nodup) (h : fscB N ps sc = true) : FnScope N ps sc := by
  unfold fscB at h
  simp only [Bool.and_eq_true, decide_eq_true_eq, Bool.not_eq_true', List.all_eq_true] at h
  obtain ⟨⟨⟨⟨⟨h1, h2⟩, h3⟩, h4⟩, h5⟩, h6⟩ := h
  refine ⟨?_, h2, h3, hN, h4, fun x hx => ?_, fun y hy e => ?_⟩
  · split at h1
    · assumption
    · cases h1
  · have := h5 x hx
    split at this
    · rename_i q; exact .inl q
    · rename_i q; exact .inr q
    · cases this
  · have := h6 y hy
    rw [e] at this
    cases this
section
variable {P : Program} {w : World} {K : PySem.W.Frag} {mg : Str → Option Value} {base : Heap} (G : Gt) (F : Nat) (ds : List (Str × Df))
/-- all that is asked of the text -/
structure Txt (K : PySem.W.Frag) (mg : Str → Option Value) (G : Gt) (ds : List (Str × Df)) : Prop where
  gf : GF K mg G
  gx : GX K mg G
  df : ∀ p ∈ G.gd, mg p.1 = some (.ref (He.ga K p.1)) ∧ PySem.W.keepIn K (.ref (He.ga K p.1)) = true ∧ ∃ d, findD ds p.1 = some d ∧ d.ps = p.2 ∧ ∃ nm qual params body scope fd, FunD K nm qual params body scope [] [] (He.ga K p.1) fd ∧ FnScope d.N d.ps scope ∧
    chkB G d.body ⟨d.N, scope, fun _ => true⟩ body = true ∧ ∀ n ks perm, (p.1, n, ks, perm) ∈ G.gs → BindOk K fd d.ps n ks perm
theorem run_ok (T : Txt K mg G ds) : ∀ k, ∀ p ∈ G.gd, mg p.1 = some (.ref (He.ga K p.1)) ∧ PySem.W.keepIn K (.ref (He.ga K p.1)) = true ∧ ∃ fd, FnOk P w K mg base (L2.CX P w) k (He.ga K p.1) fd p.2 (spF K p.2.length (run G F ds k p.1)) ∧
    ∀ n ks perm, (p.1, n, ks, perm) ∈ G.gs → BindOk K fd p.2 n ks perm
  | 0, p, hp => by
    obtain ⟨h1, h2, d, h3, h4, nm, q, pa, bo, sc, fd, h5, h6, h7, h8⟩ := T.df p hp
    rw [← h4]
    refine ⟨h1, h2, fd, ⟨fun vs H Q E h => h.1, fun A outer s H args us vs Q E _ _ _ _ h => ?_⟩, h8⟩
    obtain ⟨_, us', h', μ, _, _, z⟩ := h
    exact z.elim
  | k + 1, p, hp => by
    have ih := run_ok T k
    obtain ⟨h1, h2, d, h3, h4, nm, q, pa, bo, sc, fd, h5, h6, h7, h8⟩ := T.df p hp
    rw [← h4]
    refine ⟨h1, h2, fd, h5.ok h6 (fun vs H Q E h => h.1) (fun cdv A outer s H vs Q E hr h => ?_), h8⟩
    obtain ⟨hl, us, h', μ, rh, ru, z⟩ := h
    unfold run at z
    rw [h3] at z
    dsimp only at z
    have hul : us.length = d.ps.length := by rw [ru.length, hl]
    rw [if_pos hul] at z
    have c : CxtS G (run G F ds k) k (cxOf (L2.CX P w) P w K mg base d.N q sc (He.ga K p.1) cdv A outer s H E) (fun c d _ H => E c d H) ⟨d.N, sc, fun _ => true⟩ := {
      c := ⟨rfl, h6.nd, rfl, rfl, hr, takes_of rfl rfl rfl rfl, T.gf, ⟨ih⟩, fun _ _ => rfl⟩
      hp := passes_of rfl
      hs := rfl
      hf := rfl
      kd := h6.kind
      gx := T.gx }
    refine ⟨_, chkB_ok G (run G F ds k) F k d.body c h7, startE d us, h', μ, ?_, rh, leave_of (by rw [rh.len]) z⟩
    exact ru.getS _ _ (by rw [ru.length])
end
end Py

/-! from the head's facts to all that is asked of the text -/
namespace Py
open PySem PySem.Spec PyProof.Rows L2
def stN : Stmt → Str
  | .FunctionDef n _ _ _ _ _ _ _ _ _ => n
  | .ClassDef n _ _ _ _ _ _ _ _ _ _ => n
  | _ => ""
def mkDD (nm : Str) (st : Stmt) : He.DefD := ⟨(nm, none), stN st, stN st, defArgs st, defBody st, defScope st, [], []⟩
abbrev Sh := Nat × List Str × List Nat
structure Dd where
  nm : Str
  st : Stmt
  df : Df
  sh : List Sh
def BSh (st : Stmt) (ps : List Str) (s : Sh) : Prop := ∀ (kV doc pm : Value) (an : Option Addr) (cdv ct : Value) (us ws : List Value), us.length = s.1 → ws.length = s.2.1.length →
  bindArgs (PySem.W.fnOf (stN st) (stN st) (defArgs st) (defBody st) (defScope st) .none kV doc pm an cdv ct) ⟨us, s.2.1.zip ws⟩ = pure (ps.zip (permL s.2.2 (us ++ ws)))
def AllS (st : Stmt) (ps : List Str) : List Sh → Prop
  | [] => True
  | s :: r => BSh st ps s ∧ AllS st ps r
def AllSh : List Dd → Prop
  | [] => True
  | d :: r => AllS d.st d.df.ps d.sh ∧ AllSh r
theorem AllS.mem {st : Stmt} {ps : List Str} : ∀ {l : List Sh}, AllS st ps l → ∀ s ∈ l, BSh st ps s
  | [], _, s, h => by cases h
  | t :: r, a, s, h => by
    rcases List.mem_cons.mp h with e | h
    · rw [e]; exact a.1
    · exact a.2.mem s h
theorem AllSh.mem : ∀ {l : List Dd}, AllSh l → ∀ d ∈ l, AllS d.st d.df.ps d.sh
  | [], _, s, h => by cases h
  | t :: r, a, s, h => by
    rcases List.mem_cons.mp h with e | h
    · rw [e]; exact a.1
    · exact a.2.mem s h
/-! ### written tuples at the top -/
mutual
def layB (K : PySem.W.Frag) : D → Value → Bool
  | .none, v => match v with
    | .none => true
    | _ => false
  | .bool b, v => match v with
    | .bool c => b == c
    | _ => false
  | .int i, v => match v with
    | .int j _ => decide (i = j)
    | _ => false
  | .str s, v => match v with
    | .str t _ => decide (s = t) && PyData.strOk s
    | _ => false
  | .tuple ds, v => match v with
    | .ref a => (match K.lookup a with
      | some ⟨.type c, _, .seq its _, _⟩ => decide (c = "tuple") && decide (its.size ≤ sizeLine) && layBs K ds its.toList
      | _ => false)
    | _ => false
  | .list _, _ => false
  | .dict _, _ => false
def layBs (K : PySem.W.Frag) : List D → List Value → Bool
  | [], vs => match vs with
    | [] => true
    | _ :: _ => false
  | d :: ds, vs => match vs with
    | [] => false
    | v :: vs => layB K d v && layBs K ds vs
end
theorem tupAt {K : PySem.W.Frag} {a : Addr} {ds : List D} (h : layB K (.tuple ds) (.ref a) = true) : ∃ its n, (∃ od sl, K.lookup a = some ⟨.type "tuple", od, .seq its n, sl⟩) ∧ its.size ≤ sizeLine ∧ layBs K ds its.toList = true := by
  unfold layB at h
  dsimp only at h
  split at h
  · rename_i c od its n sl q
    simp only [Bool.and_eq_true, decide_eq_true_eq] at h
    obtain ⟨⟨h1, h2⟩, h3⟩ := h
    subst h1
    exact ⟨its, n, ⟨od, sl, q⟩, h2, h3⟩
  · cases h
mutual
theorem layB_ok {K : PySem.W.Frag} : ∀ (d : D) (v : Value), layB K d v = true → ∃ x, RelV x v ∧ ∀ H μ, RD K H μ d x
  | .none, v, h => by
    unfold layB at h
    split at h
    · exact ⟨.non, rfl, fun _ _ => .non⟩
    · cases h
  | .bool b, v, h => by
    unfold layB at h
    split at h
    · have h := beq_iff_eq.mp h
      subst h
      exact ⟨.bl b, rfl, fun _ _ => .bl b⟩
    · cases h
  | .int i, v, h => by
    unfold layB at h
    split at h
    · have h := of_decide_eq_true h
      subst h
      exact ⟨.int i, ⟨_, rfl⟩, fun _ _ => .int i⟩
    · cases h
  | .str s, v, h => by
    unfold layB at h
    split at h
    · obtain ⟨h1, h2⟩ := Bool.and_eq_true_iff.mp h
      have h1 := of_decide_eq_true h1
      subst h1
      exact ⟨.str s, ⟨_, rfl⟩, fun _ _ => .str s h2⟩
    · cases h
  | .tuple ds, v, h => by
    cases v with
    | ref a =>
      obtain ⟨its, n, ⟨od, sl, q⟩, h2, h3⟩ := tupAt h
      obtain ⟨xs, h4, h5⟩ := layBs_ok ds its.toList h3
      exact ⟨.ref a, rfl, fun H μ => .tup (.inr ⟨_, its, n, q, rfl, rfl, h2, h4⟩) (h5 H μ)⟩
    | _ => unfold layB at h; cases h
  | .list _, _, h => by unfold layB at h; cases h
  | .dict _, _, h => by unfold layB at h; cases h
theorem layBs_ok {K : PySem.W.Frag} : ∀ (ds : List D) (vs : List Value), layBs K ds vs = true → ∃ xs, Vals xs vs ∧ ∀ H μ, RDs K H μ ds xs
  | [], vs, h => by
    unfold layBs at h
    split at h
    · exact ⟨[], .nil, fun _ _ => .nil⟩
    · cases h
  | d :: ds, vs, h => by
    unfold layBs at h
    split at h
    · cases h
    · rename_i v vs
      obtain ⟨h1, h2⟩ := Bool.and_eq_true_iff.mp h
      obtain ⟨x, a1, a2⟩ := layB_ok d v h1
      obtain ⟨xs, b1, b2⟩ := layBs_ok ds vs h2
      exact ⟨x :: xs, .cons a1 b1, fun H μ => .cons (a2 H μ) (b2 H μ)⟩
end
theorem layT_ok {K : PySem.W.Frag} {a : Addr} {ds : List D} (h : layB K (.tuple ds) (.ref a) = true) : ∃ vs, KTup K a vs ∧ ∀ H μ, RDs K H μ ds vs := by
  obtain ⟨its, n, ⟨od, sl, q⟩, h2, h3⟩ := tupAt h
  obtain ⟨xs, h4, h5⟩ := layBs_ok ds its.toList h3
  exact ⟨xs, ⟨_, its, n, q, rfl, rfl, h2, h4⟩, h5⟩
/-- the head's Hook, with the written tuples -/
def obsT (gt : List (Str × List D)) (fa : List He.Fa) (fn : List He.DefD) (K : PySem.W.Frag) : He.AlD := ((gt.all fun p => layB K (.tuple p.2) (.ref (He.ga K p.1))) && (He.obsD fa fn K).1, (He.obsD fa fn K).2)
def SaysT (gt : List (Str × List D)) (fa : List He.Fa) (fn : List He.DefD) (K : PySem.W.Frag) : Prop := obsT gt fa fn K = He.valD fn
def obsTG (n : Nat) (gt : List (Str × List D)) (fa : List He.Fa) (fn : List He.DefD) (g : Addr → Option Obj) : He.AlD := obsT gt fa fn (He.frG g (He.asD g n))
def hookT (n : Nat) (gt : List (Str × List D)) (fa : List He.Fa) (fn : List He.DefD) : PySem.W.Hook where
  α := He.AlD
  obs := fun st => obsTG n gt fa fn st.heap.get?
  val := fun _ => He.valD fn
  says := fun _ hp => ∃ K : PySem.W.Frag, K.In hp ∧ SaysT gt fa fn K
  of := fun _ _ e => ⟨_, He.frG_in, e⟩
  keeps := fun _ _ _ ⟨K, hK, c⟩ kp => ⟨K, PySem.W.Frag.In.keeps hK kp, c⟩
theorem obsTG_eq {n : Nat} {gt : List (Str × List D)} {fa : List He.Fa} {fn : List He.DefD} {g : Addr → Option Obj} {st : Shared} (h : ∀ a, g a = st.heap.get? a) : obsTG n gt fa fn g = (hookT n gt fa fn).obs st := by
  rw [show g = st.heap.get? from funext h]
  rfl
theorem SaysT.both {gt : List (Str × List D)} {fa : List He.Fa} {fn : List He.DefD} {K : PySem.W.Frag} (c : SaysT gt fa fn K) : (∀ p ∈ gt, layB K (.tuple p.2) (.ref (He.ga K p.1)) = true) ∧ He.SaysD fa fn K := by
  unfold SaysT obsT He.valD at c
  obtain ⟨c1, c2⟩ := Prod.mk.inj c
  obtain ⟨d1, d2⟩ := Bool.and_eq_true_iff.mp c1
  exact ⟨fun p hp => List.all_eq_true.mp d1 p hp, Prod.ext d2 c2⟩
def faOf (G : Gt) : List He.Fa := G.gf.map .free ++ (G.gi.map (fun p => .int p.1 p.2) ++ (G.gx.map .exc ++ (G.gx.map .glo ++ (G.gd.map (fun p => .glo p.1) ++ (G.gg.map .glo ++ ((G.gx.flatMap fun c => G.gx.map fun d => .exm c d (exmB G c d)) ++ G.gt.map fun p => .glo p.1))))))
def gdOf (l : List Dd) : List (Str × List Str) := l.map fun d => (d.nm, d.df.ps)
def dsOf (l : List Dd) : List (Str × Df) := l.map fun d => (d.nm, d.df)
def gsOf (l : List Dd) : List (Str × Sh) := l.flatMap fun d => d.sh.map fun s => (d.nm, s)
def okD (G : Gt) (d : Dd) : Bool := decide d.df.N.Nodup && fscB d.df.N d.df.ps (defScope d.st) && chkB G d.df.body ⟨d.df.N, defScope d.st, fun _ => true⟩ (defBody d.st)
theorem find_ds : ∀ {l : List Dd}, (l.map fun d => d.nm).Nodup → ∀ d ∈ l, findD (dsOf l) d.nm = some d.df
  | [], _, d, h => by cases h
  | t :: r, nd, d, h => by
    rw [List.map_cons, List.nodup_cons] at nd
    unfold findD dsOf
    rw [List.map_cons, List.find?_cons]
    rcases List.mem_cons.mp h with e | h
    · subst e
      simp
    · have ne : t.nm ≠ d.nm := fun e => nd.1 (by rw [e]; exact List.mem_map.mpr ⟨d, h, rfl⟩)
      rw [show (decide ((t.nm, t.df).1 = d.nm)) = false from decide_eq_false ne]
      exact find_ds nd.2 d h
theorem txt_of {K : PySem.W.Frag} {h : Heap} {mg : Str → Option Value} {G : Gt} {l : List Dd} (X : K.In h) (N : h.Ns mainGlobals mg) (ct : SaysT G.gt (faOf G) (l.map fun d => mkDD d.nm d.st) K) (e1 : G.gd = gdOf l) (e2 : G.gs = gsOf l) (nd : (l.map fun d => d.nm).Nodup)
    (ok : l.all (okD G) = true) (sh : AllSh l) : Txt K mg G (dsOf l) := by
  obtain ⟨lays, c⟩ := ct.both
  have fact : ∀ f ∈ faOf G, f.ok K = true := fun f hf => by
    obtain ⟨i, hi, e⟩ := List.getElem_of_mem hf
    exact c.fact i (by rw [List.getElem?_eq_getElem hi, e])
  have glo : ∀ x, He.Fa.glo x ∈ faOf G → mg x = some (.ref (He.ga K x)) := fun x hx => He.glo_ok X N (fact _ hx)
  refine ⟨⟨fun p hp => ?_, fun p hp => ?_, fun x hx => ?_, fun x hx => ?_⟩, ⟨fun x hx => ?_, fun a ha b hb => ?_⟩, fun p hp => ?_⟩
  · exact He.int_ok X N (fact (.int p.1 p.2) (by unfold faOf; simp only [List.mem_append, List.mem_map]; exact .inr (.inl ⟨p, hp, rfl⟩)))
  · exact ⟨glo p.1 (by unfold faOf; simp only [List.mem_append, List.mem_map]; exact .inr (.inr (.inr (.inr (.inr (.inr (.inr ⟨p, hp, rfl⟩))))))), layT_ok (lays p hp)⟩
  · exact He.free_ok X N (fact (.free x) (by unfold faOf; simp only [List.mem_append, List.mem_map]; exact .inl ⟨x, hx, rfl⟩))
  · exact glo x (by unfold faOf; simp only [List.mem_append, List.mem_map]; exact .inr (.inr (.inr (.inr (.inr (.inl ⟨x, hx, rfl⟩))))))
  · obtain ⟨q1, q2, q3, q4⟩ := He.exc_ok (fact (.exc x) (by unfold faOf; simp only [List.mem_append, List.mem_map]; exact .inr (.inr (.inl ⟨x, hx, rfl⟩))))
    exact ⟨glo x (by unfold faOf; simp only [List.mem_append, List.mem_map]; exact .inr (.inr (.inr (.inl ⟨x, hx, rfl⟩)))), ⟨_, _, _, _, PySem.F.excBase_ValueError, q1⟩, q2, q3, q4⟩
  · exact He.exm_ok (fact (.exm a b (exmB G a b)) (by unfold faOf; simp only [List.mem_append, List.mem_map, List.mem_flatMap]; exact .inr (.inr (.inr (.inr (.inr (.inr (.inl ⟨a, ha, b, hb, rfl⟩))))))))
  · have hp' := hp
    rw [e1] at hp'
    obtain ⟨d, hd, rfl⟩ := List.mem_map.mp hp'
    have g1 := glo d.nm (by unfold faOf; simp only [List.mem_append, List.mem_map]; exact .inr (.inr (.inr (.inr (.inl ⟨_, hp, rfl⟩)))))
    obtain ⟨i, hi, e⟩ := List.getElem_of_mem hd
    obtain ⟨fd, Fd⟩ := c.def_ i (d := mkDD d.nm d.st) (by rw [List.getElem?_map, List.getElem?_eq_getElem hi, e]; rfl)
    have Fd : FunD K (stN d.st) (stN d.st) (defArgs d.st) (defBody d.st) (defScope d.st) [] [] (He.ga K d.nm) fd := Fd
    have okd := List.all_eq_true.mp ok d hd
    unfold okD at okd
    simp only [Bool.and_eq_true, decide_eq_true_eq] at okd
    refine ⟨g1, Fd.kp, d.df, find_ds nd d hd, rfl, _, _, _, _, _, fd, Fd, fscB_ok okd.1.1 okd.1.2, okd.2, fun n ks perm hs => ?_⟩
    rw [e2] at hs
    unfold gsOf at hs
    rw [List.mem_flatMap] at hs
    obtain ⟨d2, hd2, hs⟩ := hs
    obtain ⟨s, hs1, hs2⟩ := List.mem_map.mp hs
    have hn : d2.nm = d.nm := congrArg (fun z : Str × Sh => z.1) hs2
    have hsh : s = (n, ks, perm) := congrArg (fun z : Str × Sh => z.2) hs2
    have hdd : d2 = d := by
      have h1 := find_ds nd d hd
      obtain ⟨i1, hi1, r1⟩ := List.getElem_of_mem hd
      obtain ⟨i2, hi2, r2⟩ := List.getElem_of_mem hd2
      have l1 : i1 < (l.map fun d => d.nm).length := by simpa using hi1
      have l2 : i2 < (l.map fun d => d.nm).length := by simpa using hi2
      have : (l.map fun d => d.nm)[i1] = (l.map fun d => d.nm)[i2] := by simp [r1, r2, hn]
      have := (List.getElem_inj nd).mp this
      subst this
      rw [← r1, ← r2]
    subst hdd
    have B := (sh.mem d2 hd2).mem s hs1
    subst hsh
    intro s us ws l1 l2
    obtain ⟨oc, od, dV, kV, doc, pm, an, cdv, ct, osl, rfl, lk, hcd, hD, hK⟩ := Fd.ex
    rcases hD with ⟨_, rfl⟩ | ⟨e, _⟩
    · exact .of_eq (B kV doc pm an cdv ct us ws l1 l2)
    · exact absurd rfl e
/-- what a law is asked: its def, run on a script, tells True -/
def spLaw (K : PySem.W.Frag) (G : Gt) (ds : List (Str × Df)) (k : Nat) : Sp := fun vs H Q E => ∃ F, spF K 1 (run G F ds k "law") vs H Q E
theorem law_fn {P : Program} {w : World} {K : PySem.W.Frag} {mg : Str → Option Value} {G : Gt} {ds : List (Str × Df)} {k : Nat} (T : Txt K mg G ds) (hp : (("law" : Str), [("script" : Str)]) ∈ G.gd) (hs : (("law" : Str), 1, ([] : List Str), [0]) ∈ G.gs) :
    ∃ (fd : FuncData), (∀ (s : Shared) (u : Value), BindsTo s fd ⟨[u], []⟩ [(("script" : Str), u)]) ∧ ∀ base : Heap, FnOk P w K mg base (L2.CX P w) (k + 1) (He.ga K "law") fd ["script"] (spLaw K G ds (k + 1)) := by
  obtain ⟨h1, h2, d, h3, h4, nm, q, pa, bo, sc, fd, h5, h6, h7, h8⟩ := T.df _ hp
  refine ⟨fd, fun s u => (by
    have z := h8 _ _ _ hs s [u] [] rfl rfl
    rw [show d.ps = [("script" : Str)] from h4] at z
    exact z), fun base => ?_⟩
  have hps : d.ps = [("script" : Str)] := h4
  rw [← hps]
  refine h5.ok h6 (fun vs H Q E h => ?_) (fun cdv A outer s H vs Q E hr h => ?_)
  · obtain ⟨F, h⟩ := h
    rw [hps]
    exact h.1
  · obtain ⟨F, hl, us, h', μ, rh, ru, z⟩ := h
    unfold run at z
    rw [h3] at z
    dsimp only at z
    have hul : us.length = d.ps.length := by rw [ru.length, hl, hps]; rfl
    rw [if_pos hul] at z
    have c : CxtS G (run G F ds k) k (cxOf (L2.CX P w) P w K mg base d.N q sc (He.ga K "law") cdv A outer s H E) (fun c d _ H => E c d H) ⟨d.N, sc, fun _ => true⟩ := {
      c := ⟨rfl, h6.nd, rfl, rfl, hr, takes_of rfl rfl rfl rfl, T.gf, ⟨run_ok G F ds T k⟩, fun _ _ => rfl⟩
      hp := passes_of rfl
      hs := rfl
      hf := rfl
      kd := h6.kind
      gx := T.gx }
    refine ⟨_, chkB_ok G (run G F ds k) F k d.body c h7, startE d us, h', μ, ?_, rh, leave_of (by rw [rh.len]) z⟩
    exact ru.getS _ _ (by rw [ru.length])
theorem law_in {K : PySem.W.Frag} {G : Gt} {ds : List (Str × Df)} {k : Nat} {H : Hp} {a : Addr} {ns : List Int} (hO : Only H) (hS : SqL K H a (ns.map V.int)) (r : ∃ F h', run G F ds k "law" [.scr ns] [] = .ok (.d (.bool true)) h') :
    spLaw K G ds k [.ref a] H (fun v _ => v = .bl true) fun _ _ _ => False := by
  obtain ⟨F, h', e⟩ := r
  refine ⟨F, rfl, [.scr ns], [], [], ⟨rfl, List.nodup_nil, fun n o a h => by simp at h⟩, .cons (.scr ?_) .nil, ?_⟩
  · rcases hS with (h | h) | h
    · rcases hO a with z | ⟨o, xs, z⟩
      · rw [z] at h; cases h
      · rw [z] at h; cases h
    · obtain ⟨o, h⟩ := h
      exact .inl ⟨o, h, by simp⟩
    · exact .inr h
  · rw [e]
    intro H' μ' b _ _ rb
    cases rb with
    | d rb => cases rb; rfl

/-- what a call may let out, whatever the World -/
def CXw (P : Program) : CXT := fun outer H s E e s' => ∃ w : World, L2.CX P w outer H s E e s'
theorem cxw_none {P : Program} {H : Hp} {s : Shared} {e : Value} {s' : Shared} (h : CXw P [] H s (fun _ _ _ => False) e s') : False := by
  obtain ⟨w, h⟩ := h
  unfold L2.CX at h
  obtain ⟨_, _, _, _, h⟩ := h
  simp at h
theorem fnok_cx {P : Program} {w : World} {K : PySem.W.Frag} {mg : Str → Option Value} {base : Heap} {k : Nat} {f : Addr} {fd : FuncData} {ps : List Str} {sp : Sp} (F : FnOk P w K mg base (L2.CX P w) k f fd ps sp) : FnOk P w K mg base (CXw P) k f fd ps sp :=
  ⟨F.len, fun A outer s H args us vs Q E hr e0 hb r h => codeAny_mono (F.run A outer s H args us vs Q E hr e0 hb r h) fun r s' q => by
    cases r with
    | error e => exact ⟨w, q⟩
    | ok fl =>
      cases fl with
      | ret u => exact q
      | next => exact q
      | brk => exact q
      | cont => exact q⟩
theorem law_end {P : Program} {w : World} {K : PySem.W.Frag} {h : Heap} {mg : Str → Option Value} {G : Gt} {l : List Dd} {k : Nat} {fa : Addr} (X : K.In h) (N : h.Ns mainGlobals mg) (hmg : mg ("law" : Str) = some (.ref fa)) (c : SaysT G.gt (faOf G) (l.map fun d => mkDD d.nm d.st) K) (e1 : G.gd = gdOf l) (e2 : G.gs = gsOf l)
    (nd : (l.map fun d => d.nm).Nodup) (ok : l.all (okD G) = true) (sh : AllSh l) (hp : (("law" : Str), [("script" : Str)]) ∈ G.gd) (hs : (("law" : Str), 1, ([] : List Str), [0]) ∈ G.gs)
    (pure_ : ∀ ns : List Int, ns.length ≤ 63 → ∃ F h', run G F (dsOf l) (k + 1) "law" [.scr ns] [] = .ok (.d (.bool true)) h') :
    ∃ (K : PySem.W.Frag) (fd : FuncData) (sp : Sp), K.In h ∧ (∀ (s : Shared) (u : Value), BindsTo s fd ⟨[u], []⟩ [(("script" : Str), u)]) ∧
      (∀ (H : Hp) (a : Addr) (ns : List Int), ns.length ≤ 63 → Only H → SqL K H a (ns.map V.int) → sp [.ref a] H (fun v _ => v = .bl true) fun _ _ _ => False) ∧
      ∀ base : Heap, K.In base → base.Ns mainGlobals mg → FnOk P w K mg base (CXw P) (k + 1) fa fd [("script" : Str)] sp := by
  have T := txt_of X N c e1 e2 nd ok sh
  obtain ⟨fd, hb, hF⟩ := law_fn (P := P) (w := w) (k := k) T hp hs
  have ef : fa = He.ga K "law" := by
    have z := hmg.symm.trans (T.df _ hp).1
    cases z; rfl
  subst ef
  exact ⟨K, fd, spLaw K G (dsOf l) (k + 1), X, hb, fun H a ns hl hO hS => law_in hO hS (pure_ ns hl), fun base _ _ => fnok_cx (hF base)⟩
end Py

/-! what loops and comprehensions over known items give, in plain words -/
namespace Py
open PySem PySem.Spec PyProof.Rows L2
/-- a loop over known items -/
def forL (t : Tg) (f : En → List O → Fl) : List U → En → List O → Fl
  | [], σ, h => .nx σ h
  | u :: r, σ, h => match asg t u σ with
    | none => .bad
    | some σ => match f σ h with
      | .nx σ h => forL t f r σ h
      | .ct σ h => forL t f r σ h
      | .bk σ h => .nx σ h
      | z => z
theorem foGo_fix (t : Tg) (f : En → List O → Fl) : ∀ (us pre : List U) (σ : En) (h : List O), foGo (.fix (pre ++ us)) t f (us.length + 1) pre.length σ h = forL t f us σ h
  | [], pre, σ, h => by
    unfold foGo Src.at_ forL
    simp
  | u :: r, pre, σ, h => by
    rw [List.length_cons]
    unfold foGo forL
    have hat : Src.at_ (.fix (pre ++ u :: r)) pre.length h = some (some u) := by
      show some (pre ++ u :: r)[pre.length]? = some (some u)
      rw [List.getElem?_append_right (Nat.le_refl _), Nat.sub_self]
      rfl
    rw [hat]
    dsimp only
    have e : pre ++ u :: r = (pre ++ [u]) ++ r := by simp
    have e2 : pre.length + 1 = (pre ++ [u]).length := by simp
    cases asg t u σ with
    | none => rfl
    | some σ1 =>
      dsimp only
      rw [e, e2]
      cases f σ1 h with
      | nx s h2 => dsimp only; exact foGo_fix t f r (pre ++ [u]) s h2
      | ct s h2 => dsimp only; exact foGo_fix t f r (pre ++ [u]) s h2
      | bk s h2 => rfl
      | ret s h2 => rfl
      | er c s h2 => rfl
      | bad => rfl
theorem sFor_fix {t : Tg} {fi : En → List O → R Src} {f : En → List O → Fl} {σ : En} {h h1 : List O} {us : List U} (e : fi σ h = .ok (.fix us) h1) : sFor t fi f σ h = forL t f us σ h1 := by
  unfold sFor
  rw [e, R.stm_ok]
  exact foGo_fix t f us [] σ h1
/-- a comprehension over known items -/
def lcL (t : Tg) (vs : List Nat) (ft : En → List O → R Bool) (fe : En → List O → R U) (a0 : Nat) (σ : En) : List U → List O → R Unit
  | [], h => .ok () h
  | u :: r, h => match asg t u (wipeE σ vs) with
    | none => .bad
    | some σ1 => (noErr (ft σ1 h)).bind fun b h1 => if b = true then (noErr (fe σ1 h1)).bind fun y h2 => (pushAcc a0 y h2).bind fun _ h3 => lcL t vs ft fe a0 σ r h3 else lcL t vs ft fe a0 σ r h1
theorem lcGo_fix (t : Tg) (vs : List Nat) (ft : En → List O → R Bool) (fe : En → List O → R U) (a0 : Nat) (σ : En) : ∀ (us pre : List U) (h : List O), lcGo (.fix (pre ++ us)) t vs ft fe a0 (us.length + 1) pre.length σ h = lcL t vs ft fe a0 σ us h
  | [], pre, h => by
    unfold lcGo Src.at_ lcL
    simp
  | u :: r, pre, h => by
    rw [List.length_cons]
    unfold lcGo lcL
    have hat : Src.at_ (.fix (pre ++ u :: r)) pre.length h = some (some u) := by
      show some (pre ++ u :: r)[pre.length]? = some (some u)
      rw [List.getElem?_append_right (Nat.le_refl _), Nat.sub_self]
      rfl
    rw [hat]
    dsimp only
    have e : pre ++ u :: r = (pre ++ [u]) ++ r := by simp
    have e2 : pre.length + 1 = (pre ++ [u]).length := by simp
    cases asg t u (wipeE σ vs) with
    | none => rfl
    | some σ1 =>
      dsimp only
      rw [e, e2]
      have ih := fun h => lcGo_fix t vs ft fe a0 σ r (pre ++ [u]) h
      simp only [ih]
theorem evLc_fix {m : Bool} {t : Tg} {vs : List Nat} {fi : En → List O → R Src} {ft : En → List O → R Bool} {fe : En → List O → R U} {σ : En} {h h1 : List O} {us : List U} (e : fi σ h = .ok (.fix us) h1) :
    evLc m t vs fi ft fe σ h = (lcL t vs ft fe h1.length σ us (h1 ++ [.lst []])).bind fun _ h2 => lcFin m h1.length h2 := by
  unfold evLc
  rw [e, R.bind_ok]
  have := lcGo_fix t vs ft fe h1.length σ us [] (h1 ++ [.lst []])
  rw [List.nil_append, List.length_nil] at this
  show (lcGo (.fix us) t vs ft fe h1.length (us.length + 1) 0 σ (h1 ++ [.lst []])).bind _ = _
  rw [this]
/-- state goes through the items -/
def mapS {S : Type} (p : U → S → Bool) (g : U → S → D × S) : List U → S → List D × S
  | [], s => ([], s)
  | u :: r, s => if p u s = true then ((g u s).1 :: (mapS p g r (g u s).2).1, (mapS p g r (g u s).2).2) else mapS p g r s
theorem mapS_length {S : Type} {p : U → S → Bool} {g : U → S → D × S} : ∀ (us : List U) (s : S), (mapS p g us s).1.length ≤ us.length
  | [], s => Nat.le_refl _
  | u :: r, s => by
    unfold mapS
    split
    · exact Nat.succ_le_succ (mapS_length r _)
    · exact Nat.le_succ_of_le (mapS_length r s)
theorem lcL_state {S : Type} {emb : S → List O} {n : Nat} (hn : ∀ s, (emb s).length = n) {I : S → Prop} {t : Tg} {vs : List Nat} {ft : En → List O → R Bool} {fe : En → List O → R U} {σ : En} {p : U → S → Bool} {g : U → S → D × S} :
    ∀ (us : List U) (s : S) (acc : List D), I s → (∀ u ∈ us, ∀ s, I s → ∃ σ1, asg t u (wipeE σ vs) = some σ1 ∧ I (g u s).2 ∧ ∀ acc, ft σ1 (emb s ++ [.lst acc]) = .ok (p u s) (emb s ++ [.lst acc]) ∧ (p u s = true → fe σ1 (emb s ++ [.lst acc]) = .ok (.d (g u s).1) (emb (g u s).2 ++ [.lst acc]))) →
      acc.length + us.length ≤ 10000000 → lcL t vs ft fe n σ us (emb s ++ [.lst acc]) = .ok () (emb (mapS p g us s).2 ++ [.lst (acc ++ (mapS p g us s).1)])
  | [], s, acc, _, _, _ => by simp [lcL, mapS]
  | u :: r, s, acc, hI, hs, hl => by
    obtain ⟨σ1, e1, hI', e2⟩ := hs u List.mem_cons_self s hI
    obtain ⟨e3, e4⟩ := e2 acc
    unfold lcL mapS
    rw [e1]
    dsimp only
    rw [e3, noErr_ok, R.bind_ok]
    have hr : ∀ u ∈ r, ∀ s, I s → ∃ σ1, asg t u (wipeE σ vs) = some σ1 ∧ I (g u s).2 ∧ ∀ acc, ft σ1 (emb s ++ [.lst acc]) = .ok (p u s) (emb s ++ [.lst acc]) ∧ (p u s = true → fe σ1 (emb s ++ [.lst acc]) = .ok (.d (g u s).1) (emb (g u s).2 ++ [.lst acc])) := fun u hu => hs u (List.mem_cons_of_mem _ hu)
    rw [List.length_cons] at hl
    by_cases hp : p u s = true
    · rw [if_pos hp, if_pos hp, e4 hp, noErr_ok, R.bind_ok]
      have epush : pushAcc n (.d (g u s).1) (emb (g u s).2 ++ [.lst acc]) = .ok () (emb (g u s).2 ++ [.lst (acc ++ [(g u s).1])]) := by
        have hn' := hn (g u s).2
        unfold pushAcc
        have h1 : (emb (g u s).2 ++ [O.lst acc])[n]? = some (.lst acc) := by rw [List.getElem?_append_right (by omega), hn', Nat.sub_self]; rfl
        rw [h1]
        dsimp only [Py.settle]
        rw [if_pos (by omega), List.take_of_length_le (by simp; omega), List.set_append_right _ _ (by omega), hn', Nat.sub_self]
        rfl
      rw [epush, R.bind_ok, lcL_state hn r _ _ hI' hr (by simp; omega)]
      simp
    · rw [if_neg hp, if_neg hp, lcL_state hn r _ _ hI hr (by omega)]
theorem lcFin_app {m : Bool} {h : List O} {ys : List D} : lcFin m h.length (h ++ [.lst ys]) = mkL m ys h := by
  unfold lcFin mkL
  have h1 : (h ++ [O.lst ys])[h.length]? = some (.lst ys) := by rw [List.getElem?_append_right (Nat.le_refl _), Nat.sub_self]; rfl
  rw [h1]
  dsimp only
  rw [List.take_of_length_le (by simp), List.take_append_of_le_length (Nat.le_refl _), List.take_length]
/-- THE RULE: a comprehension with a state -/
theorem lc_state {S : Type} {emb : S → List O} {n : Nat} (hn : ∀ s, (emb s).length = n) {I : S → Prop} {m : Bool} {t : Tg} {vs : List Nat} {fi : En → List O → R Src} {ft : En → List O → R Bool} {fe : En → List O → R U} {σ : En} {h : List O} {us : List U} {s : S} (p : U → S → Bool) (g : U → S → D × S) (e : fi σ h = .ok (.fix us) (emb s)) (hI : I s)
    (hl : us.length ≤ 10000000) (hs : ∀ u ∈ us, ∀ s, I s → ∃ σ1, asg t u (wipeE σ vs) = some σ1 ∧ I (g u s).2 ∧ ∀ acc, ft σ1 (emb s ++ [.lst acc]) = .ok (p u s) (emb s ++ [.lst acc]) ∧ (p u s = true → fe σ1 (emb s ++ [.lst acc]) = .ok (.d (g u s).1) (emb (g u s).2 ++ [.lst acc]))) :
    evLc m t vs fi ft fe σ h = mkL m (mapS p g us s).1 (emb (mapS p g us s).2) := by
  rw [evLc_fix e, hn s, lcL_state hn us s [] hI hs (by simpa using hl), R.bind_ok, List.nil_append]
  have := lcFin_app (m := m) (h := emb (mapS p g us s).2) (ys := (mapS p g us s).1)
  rw [hn] at this
  exact this
theorem mapS_pure {p : U → Unit → Bool} {g : U → Unit → D × Unit} : ∀ us : List U, (mapS p g us ()).1 = (us.filter fun u => p u ()).map fun u => (g u ()).1
  | [] => rfl
  | u :: r => by
    unfold mapS
    by_cases h : p u () = true
    · rw [if_pos h, List.filter_cons_of_pos (p := fun u => p u ()) h, List.map_cons]
      rw [show (mapS p g r (g u ()).2) = mapS p g r () from rfl, mapS_pure r]
    · rw [if_neg h, List.filter_cons_of_neg (p := fun u => p u ()) h, mapS_pure r]
/-- THE RULE: a comprehension whose parts leave the heap alone -/
theorem lc_pure {m : Bool} {t : Tg} {vs : List Nat} {fi : En → List O → R Src} {ft : En → List O → R Bool} {fe : En → List O → R U} {σ : En} {h h1 : List O} {us : List U} (p : U → Bool) (g : U → D) (e : fi σ h = .ok (.fix us) h1)
    (hl : us.length ≤ 10000000) (hs : ∀ u ∈ us, ∃ σ1, asg t u (wipeE σ vs) = some σ1 ∧ ∀ acc, ft σ1 (h1 ++ [.lst acc]) = .ok (p u) (h1 ++ [.lst acc]) ∧ (p u = true → fe σ1 (h1 ++ [.lst acc]) = .ok (.d (g u)) (h1 ++ [.lst acc]))) :
    evLc m t vs fi ft fe σ h = mkL m ((us.filter p).map g) h1 := by
  have := lc_state (S := Unit) (emb := fun _ => h1) (n := h1.length) (fun _ => rfl) (I := fun _ => True) (m := m) (t := t) (vs := vs) (fi := fi) (ft := ft) (fe := fe) (σ := σ) (h := h) (us := us) (s := ()) (fun u _ => p u) (fun u _ => (g u, ())) e trivial hl
    (fun u hu s _ => by
      obtain ⟨σ1, a, b⟩ := hs u hu
      exact ⟨σ1, a, trivial, b⟩)
  rw [this, mapS_pure]
/-- .. with no test -/
theorem lc_map {m : Bool} {t : Tg} {vs : List Nat} {fi : En → List O → R Src} {fe : En → List O → R U} {σ : En} {h h1 : List O} {us : List U} (g : U → D) (e : fi σ h = .ok (.fix us) h1)
    (hl : us.length ≤ 10000000) (hs : ∀ u ∈ us, ∃ σ1, asg t u (wipeE σ vs) = some σ1 ∧ ∀ acc, fe σ1 (h1 ++ [.lst acc]) = .ok (.d (g u)) (h1 ++ [.lst acc])) :
    evLc m t vs fi (fun _ h => .ok true h) fe σ h = mkL m (us.map g) h1 := by
  rw [lc_pure (fun _ => true) g e hl (fun u hu => by
    obtain ⟨σ1, a, b⟩ := hs u hu
    exact ⟨σ1, a, fun acc => ⟨rfl, fun _ => b acc⟩⟩)]
  rw [List.filter_eq_self.mpr (fun _ _ => rfl)]
end Py
namespace Py
open PySem PySem.Spec PyProof.Rows L2
section
variable {f f1 f2 f3 f4 f5 : En → List O → R U} {C : List U → List O → R U} {σ : En} {h : List O}
theorem evCl_0 : evCl 0 0 [] evNil evNil C σ h = C [] h := rfl
theorem evCl_1 : evCl 1 0 [0] (evCons f evNil) evNil C σ h = (f σ h).bind fun u h => C [u] h := by
  unfold evCl evCons evNil
  cases f σ h <;> rfl
theorem evCl_2 : evCl 2 0 [0, 1] (evCons f (evCons f2 evNil)) evNil C σ h = (f σ h).bind fun u h => (f2 σ h).bind fun u2 h => C [u, u2] h := by
  unfold evCl evCons evNil
  cases f σ h with
  | ok a h => dsimp only [R.bind_ok]; cases f2 σ h <;> rfl
  | err c h => rfl
  | bad => rfl
theorem evCl_3 : evCl 3 0 [0, 1, 2] (evCons f (evCons f2 (evCons f3 evNil))) evNil C σ h = (f σ h).bind fun u h => (f2 σ h).bind fun u2 h => (f3 σ h).bind fun u3 h => C [u, u2, u3] h := by
  unfold evCl evCons evNil
  cases f σ h with
  | ok a h =>
    dsimp only [R.bind_ok]
    cases f2 σ h with
    | ok b h => dsimp only [R.bind_ok]; cases f3 σ h <;> rfl
    | err c h => rfl
    | bad => rfl
  | err c h => rfl
  | bad => rfl
theorem evCl_4 : evCl 4 0 [0, 1, 2, 3] (evCons f (evCons f2 (evCons f3 (evCons f4 evNil)))) evNil C σ h = (f σ h).bind fun u h => (f2 σ h).bind fun u2 h => (f3 σ h).bind fun u3 h => (f4 σ h).bind fun u4 h => C [u, u2, u3, u4] h := by
  unfold evCl evCons evNil
  cases f σ h with
  | ok a h =>
    dsimp only [R.bind_ok]
    cases f2 σ h with
    | ok b h =>
      dsimp only [R.bind_ok]
      cases f3 σ h with
      | ok b h => dsimp only [R.bind_ok]; cases f4 σ h <;> rfl
      | err c h => rfl
      | bad => rfl
    | err c h => rfl
    | bad => rfl
  | err c h => rfl
  | bad => rfl
/-- one keyword -/
theorem evCl_k : evCl 0 1 [0] evNil (evCons f evNil) C σ h = (f σ h).bind fun u h => C [u] h := by
  unfold evCl evCons evNil
  rw [R.bind_ok]
  cases f σ h <;> rfl
end
theorem leave_d {d : D} {h : List O} : leave false h.length (.ret (.d d) h) = .ok (.d d) h := by
  show R.ok (U.d d) (h.take h.length) = _
  rw [List.take_length]
theorem leave_n {σ : En} {h : List O} : leave false h.length (.nx σ h) = .ok (.d .none) h := by
  show R.ok (U.d .none) (h.take h.length) = _
  rw [List.take_length]
theorem leave_e {c : Str} {σ : En} {h : List O} : leave false h.length (.er c σ h) = .err c h := by
  show R.err c (h.take h.length) = _
  rw [List.take_length]
/-- a value made in a def with n objects around it -/
theorem leave_da {d : D} {h r : List O} : leave false h.length (.ret (.d d) (h ++ r)) = .ok (.d d) h := by
  show R.ok (U.d d) ((h ++ r).take h.length) = _
  rw [List.take_append_of_le_length (Nat.le_refl _), List.take_length]
theorem mkL_f {xs : List D} {h : List O} : mkL false xs h = .ok (.d (.list xs)) h := rfl
theorem mkL_t {xs : List D} {h : List O} : mkL true xs h = .ok (.lab h.length) (h ++ [.lst xs]) := rfl
theorem bind_stm {α β : Type} (r : R α) (g : α → List O → R β) (σ : En) (f : β → List O → Fl) : (r.bind g).stm σ f = r.stm σ fun a h => (g a h).stm σ f := by
  cases r <;> rfl
theorem bind_bind {α β γ : Type} (r : R α) (g : α → List O → R β) (f : β → List O → R γ) : (r.bind g).bind f = r.bind fun a h => (g a h).bind f := by
  cases r <;> rfl
end Py
namespace Py
open PySem PySem.Spec PyProof.Rows L2
section
variable {G : Gt} {C : Str → List U → List O → R U} {m : Bool} {t : Tg} {w : Wk} {c e : Ex} {σ : En} {h h1 : List O} {us : List U}
theorem ev_lc (g : U → D) (q : evw G C w σ h = .ok (.fix us) h1) (hl : us.length ≤ 10000000) (hs : ∀ u ∈ us, ∃ σ1, asg t u (wipeE σ t.slots) = some σ1 ∧ ∀ acc, ev G C e σ1 (h1 ++ [.lst acc]) = .ok (.d (g u)) (h1 ++ [.lst acc])) :
    ev G C (.lc m t w .no e) σ h = mkL m (us.map g) h1 := lc_map g q hl hs
theorem ev_lcp (p : U → Bool) (g : U → D) (q : evw G C w σ h = .ok (.fix us) h1) (hl : us.length ≤ 10000000)
    (hs : ∀ u ∈ us, ∃ σ1, asg t u (wipeE σ t.slots) = some σ1 ∧ ∀ acc, tv G C c σ1 (h1 ++ [.lst acc]) = .ok (p u) (h1 ++ [.lst acc]) ∧ (p u = true → ev G C e σ1 (h1 ++ [.lst acc]) = .ok (.d (g u)) (h1 ++ [.lst acc]))) :
    ev G C (.lc m t w (.yes c) e) σ h = mkL m ((us.filter p).map g) h1 := lc_pure p g q hl hs
/-- over data -/
theorem ev_lcD (xs : List D) (g : D → D) (q : evw G C w σ h = .ok (.fix (xs.map .d)) h1) (hl : xs.length ≤ 10000000) (hs : ∀ x ∈ xs, ∃ σ1, asg t (.d x) (wipeE σ t.slots) = some σ1 ∧ ∀ acc, ev G C e σ1 (h1 ++ [.lst acc]) = .ok (.d (g x)) (h1 ++ [.lst acc])) :
    ev G C (.lc m t w .no e) σ h = mkL m (xs.map g) h1 := by
  rw [ev_lc (fun u => match u with | .d x => g x | _ => .none) q (by simpa using hl) (fun u hu => by
    obtain ⟨x, hx, rfl⟩ := List.mem_map.mp hu
    exact hs x hx), List.map_map]
  rfl
theorem ev_lcpD (xs : List D) (p : D → Bool) (g : D → D) (q : evw G C w σ h = .ok (.fix (xs.map .d)) h1) (hl : xs.length ≤ 10000000)
    (hs : ∀ x ∈ xs, ∃ σ1, asg t (.d x) (wipeE σ t.slots) = some σ1 ∧ ∀ acc, tv G C c σ1 (h1 ++ [.lst acc]) = .ok (p x) (h1 ++ [.lst acc]) ∧ (p x = true → ev G C e σ1 (h1 ++ [.lst acc]) = .ok (.d (g x)) (h1 ++ [.lst acc]))) :
    ev G C (.lc m t w (.yes c) e) σ h = mkL m ((xs.filter p).map g) h1 := by
  rw [ev_lcp (fun u => match u with | .d x => p x | _ => false) (fun u => match u with | .d x => g x | _ => .none) q (by simpa using hl) (fun u hu => by
    obtain ⟨x, hx, rfl⟩ := List.mem_map.mp hu
    exact hs x hx), List.filter_map, List.map_map]
  rfl
theorem boolsOf_map' {α : Type} (g : α → Bool) (l : List α) : boolsOf (l.map fun x => PyData.bool (g x)) = some (l.map g) := by
  have := boolsOf_map (l.map g)
  rw [List.map_map] at this
  exact this
theorem intsOf_map' {α : Type} (g : α → Int) (l : List α) : intsOf (l.map fun x => PyData.int (g x)) = some (l.map g) := by
  have := intsOf_map (l.map g)
  rw [List.map_map] at this
  exact this
theorem allU_map {α : Type} (g : α → Bool) (l : List α) : allU (.d (.list (l.map fun x => PyData.bool (g x)))) h = .ok (.d (.bool (l.all g))) h := by
  unfold allU Py.listOf
  simp only [Option.bind_some, boolsOf_map', opt_some, R.bind_ok]
  simp [List.all_map]
theorem anyU_map {α : Type} (g : α → Bool) (l : List α) : anyU (.d (.list (l.map fun x => PyData.bool (g x)))) h = .ok (.d (.bool (l.any g))) h := by
  unfold anyU Py.listOf
  simp only [Option.bind_some, boolsOf_map', opt_some, R.bind_ok]
  simp [List.any_map]
theorem sumU_map {α : Type} (g : α → Int) (l : List α) : sumU (.d (.list (l.map fun x => PyData.int (g x)))) h = .ok (.d (.int (l.map g).sum)) h := by
  unfold sumU Py.listOf
  simp only [Option.bind_some, intsOf_map', opt_some, R.bind_ok]
end
end Py
namespace Py
open PySem PySem.Spec PyProof.Rows L2
/-- THE RULE: a loop with an invariant -/
theorem forL_inv {t : Tg} {f : En → List O → Fl} (I : List U → En → List O → Prop) : ∀ (us pre : List U) (σ : En) (h : List O), I pre σ h →
    (∀ pre' u r, pre ++ us = pre' ++ u :: r → ∀ σ h, I pre' σ h → ∃ σ1 σ2 h2, asg t u σ = some σ1 ∧ f σ1 h = .nx σ2 h2 ∧ I (pre' ++ [u]) σ2 h2) → ∃ σ' h', forL t f us σ h = .nx σ' h' ∧ I (pre ++ us) σ' h'
  | [], pre, σ, h, hI, _ => ⟨σ, h, rfl, by simpa using hI⟩
  | u :: r, pre, σ, h, hI, hs => by
    obtain ⟨σ1, σ2, h2, e1, e2, hI2⟩ := hs pre u r rfl σ h hI
    obtain ⟨σ', h', e3, hI3⟩ := forL_inv I r (pre ++ [u]) σ2 h2 hI2 (by simpa using hs)
    refine ⟨σ', h', ?_, by simpa using hI3⟩
    unfold forL
    rw [e1]
    dsimp only
    rw [e2]
    exact e3
theorem for_inv {G : Gt} {C : Str → List U → List O → R U} {F : Nat} {t : Tg} {w : Wk} {b : Ss} {σ : En} {h h1 : List O} {us : List U} (I : List U → En → List O → Prop) (q : evw G C w σ h = .ok (.fix us) h1) (h0 : I [] σ h1)
    (hs : ∀ pre u r, us = pre ++ u :: r → ∀ σ h, I pre σ h → ∃ σ1 σ2 h2, asg t u σ = some σ1 ∧ exs G C F b σ1 h = .nx σ2 h2 ∧ I (pre ++ [u]) σ2 h2) : ∃ σ' h', ex G C F (.fo t w b) σ h = .nx σ' h' ∧ I us σ' h' := by
  obtain ⟨σ', h', e, hI⟩ := forL_inv I us [] σ h1 h0 (by simpa using hs)
  exact ⟨σ', h', by rw [← e]; exact sFor_fix q, by simpa using hI⟩
theorem rngL_map (n : Nat) : rngL 0 1 n = (List.range n).map fun (i : Nat) => U.d (.int i) := by
  unfold rngL
  apply List.map_congr_left
  intro a _
  simp
end Py
namespace Py
open PySem PySem.Spec PyProof.Rows L2
def mapE (g : Nat → D → D) : Nat → List D → List D
  | _, [] => []
  | k, x :: r => g k x :: mapE g (k + 1) r
def unE (g : Nat → D → D) (u : U) : D := match u with
  | .d (.tuple [.int j, x]) => g j.toNat x
  | _ => .none
theorem enuL_map (g : Nat → D → D) : ∀ (xs : List D) (k : Nat), (enuL k xs).map (unE g) = mapE g k xs
  | [], _ => rfl
  | x :: r, k => by
    rw [enuL, List.map_cons, enuL_map g r (k + 1)]
    rfl
theorem enuL_length : ∀ (xs : List D) (k : Nat), (enuL k xs).length = xs.length
  | [], _ => rfl
  | x :: r, k => by rw [enuL, List.length_cons, List.length_cons, enuL_length r]
/-- a comprehension over enumerate(..) -/
theorem ev_lcE {G : Gt} {C : Str → List U → List O → R U} {m : Bool} {t : Tg} {w : Wk} {e : Ex} {σ : En} {h h1 : List O} (xs : List D) (g : Nat → D → D) (q : evw G C w σ h = .ok (.fix (enuL 0 xs)) h1) (hl : xs.length ≤ 10000000)
    (hs : ∀ (j : Nat) (x : D), xs[j]? = some x → ∃ σ1, asg t (.d (.tuple [.int j, x])) (wipeE σ t.slots) = some σ1 ∧ ∀ acc, ev G C e σ1 (h1 ++ [.lst acc]) = .ok (.d (g j x)) (h1 ++ [.lst acc])) :
    ev G C (.lc m t w .no e) σ h = mkL m (mapE g 0 xs) h1 := by
  rw [ev_lc (unE g) q (by rw [enuL_length]; exact hl) (fun u hu => ?_), enuL_map]
  obtain ⟨j, hj⟩ := List.getElem?_of_mem hu
  rw [enuL_get] at hj
  cases hx : xs[j]? with
  | none => rw [hx] at hj; cases hj
  | some x =>
    rw [hx] at hj
    cases hj
    rw [Nat.zero_add]
    exact hs j x hx
end Py
namespace Py
open PySem PySem.Spec PyProof.Rows L2
theorem lcL_ex {I : List U → List D → List O → Prop} {n : Nat} (hn : ∀ pre ys hh, I pre ys hh → hh.length = n) {t : Tg} {vs : List Nat} {fe : En → List O → R U} {σ : En} : ∀ (us pre : List U) (ys : List D) (hh : List O), I pre ys hh →
    (∀ pre' u r ys hh, pre ++ us = pre' ++ u :: r → I pre' ys hh → ∃ σ1 y hh', asg t u (wipeE σ vs) = some σ1 ∧ I (pre' ++ [u]) (ys ++ [y]) hh' ∧ ∀ acc, fe σ1 (hh ++ [.lst acc]) = .ok (.d y) (hh' ++ [.lst acc])) → ys.length + us.length ≤ 10000000 →
    ∃ zs hh', lcL t vs (fun _ h => .ok true h) fe n σ us (hh ++ [.lst ys]) = .ok () (hh' ++ [.lst zs]) ∧ I (pre ++ us) zs hh' ∧ zs.length = ys.length + us.length
  | [], pre, ys, hh, hI, _, _ => ⟨ys, hh, rfl, by simpa using hI, by simp⟩
  | u :: r, pre, ys, hh, hI, hs, hl => by
    obtain ⟨σ1, y, hh2, e1, hI2, e2⟩ := hs pre u r ys hh rfl hI
    rw [List.length_cons] at hl
    obtain ⟨zs, hh', e3, hI3, hz⟩ := lcL_ex hn r (pre ++ [u]) (ys ++ [y]) hh2 hI2 (by simpa using hs) (by simp; omega)
    refine ⟨zs, hh', ?_, by simpa using hI3, by rw [hz]; simp; omega⟩
    have hn' := hn _ _ _ hI2
    have epush : pushAcc n (.d y) (hh2 ++ [.lst ys]) = .ok () (hh2 ++ [.lst (ys ++ [y])]) := by
      unfold pushAcc
      have h1 : (hh2 ++ [O.lst ys])[n]? = some (.lst ys) := by rw [List.getElem?_append_right (by omega), hn', Nat.sub_self]; rfl
      rw [h1]
      dsimp only [Py.settle]
      rw [if_pos (by omega), List.take_of_length_le (by simp; omega), List.set_append_right _ _ (by omega), hn', Nat.sub_self]
      rfl
    unfold lcL
    rw [e1]
    dsimp only
    rw [noErr_ok, R.bind_ok, if_pos rfl, e2, noErr_ok, R.bind_ok, epush, R.bind_ok]
    exact e3
/-- THE RULE: a comprehension that changes objects, with an invariant -/
theorem ev_lcI {G : Gt} {C : Str → List U → List O → R U} {m : Bool} {t : Tg} {w : Wk} {e : Ex} {σ : En} {h h1 : List O} {us : List U} (I : List U → List D → List O → Prop) (hn : ∀ pre ys hh, I pre ys hh → hh.length = h1.length) (q : evw G C w σ h = .ok (.fix us) h1) (h0 : I [] [] h1)
    (hs : ∀ pre u r ys hh, us = pre ++ u :: r → I pre ys hh → ∃ σ1 y hh', asg t u (wipeE σ t.slots) = some σ1 ∧ I (pre ++ [u]) (ys ++ [y]) hh' ∧ ∀ acc, ev G C e σ1 (hh ++ [.lst acc]) = .ok (.d y) (hh' ++ [.lst acc])) (hl : us.length ≤ 10000000) :
    ∃ ys hh', ev G C (.lc m t w .no e) σ h = mkL m ys hh' ∧ I us ys hh' ∧ ys.length = us.length := by
  obtain ⟨zs, hh', e1, hI, hz⟩ := lcL_ex (t := t) (vs := t.slots) (fe := ev G C e) (σ := σ) hn us [] [] h1 h0 (by simpa using hs) (by simpa using hl)
  refine ⟨zs, hh', ?_, by simpa using hI, by simpa using hz⟩
  show evLc m t t.slots (evw G C w) (fun _ h => .ok true h) (ev G C e) σ h = _
  rw [evLc_fix q, e1, R.bind_ok]
  have hk := hn _ _ _ hI
  rw [← hk]
  exact lcFin_app
end Py

/-! plain rules: places, equality, how great a value is -/
namespace Py
open PySem PySem.Spec PyProof.Rows L2
section
variable {h : List O} {x y z w : D} {xs ys : List D} {neg : Bool}
theorem atI_0 {α : Type} {a : α} {l : List α} : L2.atI (a :: l) 0 = some a := by simp [L2.atI, L2.ixN]
theorem atI_1 {α : Type} {a b : α} {l : List α} : L2.atI (a :: b :: l) 1 = some b := by
  have : (1 : Int) < (l.length : Int) + 1 + 1 := by omega
  simp [L2.atI, L2.ixN, this]
theorem atI_2 {α : Type} {a b c : α} {l : List α} : L2.atI (a :: b :: c :: l) 2 = some c := by
  have : (2 : Int) < (l.length : Int) + 1 + 1 + 1 := by omega
  simp [L2.atI, L2.ixN, this]
theorem atI_3 {α : Type} {a b c d : α} {l : List α} : L2.atI (a :: b :: c :: d :: l) 3 = some d := by
  have : (3 : Int) < (l.length : Int) + 1 + 1 + 1 + 1 := by omega
  simp [L2.atI, L2.ixN, this]
theorem getU_tup {i : Int} {d : D} (e : L2.atI xs i = some d) : getU (.d (.tuple xs)) (.d (.int i)) h = .ok (.d d) h := by
  simp [getU, dctOf, getS, ixO, seqOf, e]
theorem getU_lst {i : Int} {d : D} (e : L2.atI xs i = some d) : getU (.d (.list xs)) (.d (.int i)) h = .ok (.d d) h := by
  simp [getU, dctOf, getS, ixO, seqOf, listOf, e]
theorem getU_t0 : getU (.d (.tuple (x :: xs))) (.d (.int 0)) h = .ok (.d x) h := getU_tup atI_0
theorem getU_t1 : getU (.d (.tuple (x :: y :: xs))) (.d (.int 1)) h = .ok (.d y) h := getU_tup atI_1
theorem getU_t2 : getU (.d (.tuple (x :: y :: z :: xs))) (.d (.int 2)) h = .ok (.d z) h := getU_tup atI_2
theorem getU_t3 : getU (.d (.tuple (x :: y :: z :: w :: xs))) (.d (.int 3)) h = .ok (.d w) h := getU_tup atI_3
theorem getU_l0 : getU (.d (.list (x :: xs))) (.d (.int 0)) h = .ok (.d x) h := getU_lst atI_0
theorem getU_l1 : getU (.d (.list (x :: y :: xs))) (.d (.int 1)) h = .ok (.d y) h := getU_lst atI_1
theorem getU_l2 : getU (.d (.list (x :: y :: z :: xs))) (.d (.int 2)) h = .ok (.d z) h := getU_lst atI_2
theorem getU_m1 {a : D} : getU (.d (.tuple [a])) (.d (.int (-1))) h = .ok (.d a) h := getU_tup (by simp [L2.atI, L2.ixN])
theorem getU_m2 {a b : D} : getU (.d (.tuple [a, b])) (.d (.int (-1))) h = .ok (.d b) h := getU_tup (by simp [L2.atI, L2.ixN])
theorem getU_m3 {a b c : D} : getU (.d (.tuple [a, b, c])) (.d (.int (-1))) h = .ok (.d c) h := getU_tup (by simp [L2.atI, L2.ixN])
theorem depth_pos (d : D) : d.depth = d.depth := rfl
theorem eqU_of {a b : D} (hd : a.depth ≤ 64 ∨ b.depth ≤ 64) : Py.eqU neg (.d a) (.d b) h = .ok (.d (.bool (neg != PyData.eqv a b))) h := by
  simp [Py.eqU, eqO, Py.dataOf, hd]
theorem eqU_i {i : Int} {a : D} : Py.eqU neg (.d a) (.d (.int i)) h = .ok (.d (.bool (neg != PyData.eqv a (.int i)))) h := eqU_of (.inr (by simp [PyData.depth]))
theorem eqU_s {s : Str} {a : D} : Py.eqU neg (.d a) (.d (.str s)) h = .ok (.d (.bool (neg != PyData.eqv a (.str s)))) h := eqU_of (.inr (by simp [PyData.depth]))
theorem eqU_b {b : Bool} {a : D} : Py.eqU neg (.d a) (.d (.bool b)) h = .ok (.d (.bool (neg != PyData.eqv a (.bool b)))) h := eqU_of (.inr (by simp [PyData.depth]))
theorem eqU_nil {a : D} : Py.eqU neg (.d a) (.d (.tuple [])) h = .ok (.d (.bool (neg != PyData.eqv a (.tuple [])))) h := eqU_of (.inr (by decide))
theorem eqU_nilL {a : D} : Py.eqU neg (.d a) (.d (.list [])) h = .ok (.d (.bool (neg != PyData.eqv a (.list [])))) h := eqU_of (.inr (by decide))
@[simp] theorem eqv_ii (i j : Int) : PyData.eqv (.int i) (.int j) = decide (i = j) := by by_cases q : i = j <;> simp [PyData.eqv, q]
@[simp] theorem eqv_ss (s t : Str) : PyData.eqv (.str s) (.str t) = decide (s = t) := by by_cases q : s = t <;> simp [PyData.eqv, q]
theorem eqv_tnil : PyData.eqv (.tuple xs) (.tuple []) = xs.isEmpty := by cases xs <;> simp [PyData.eqv, PyData.eqvAll]
theorem eqv_lnil : PyData.eqv (.list xs) (.list []) = xs.isEmpty := by cases xs <;> simp [PyData.eqv, PyData.eqvAll]
theorem bool_bne (b : Bool) : (false != b) = b := by cases b <;> rfl
theorem inU_t (a : D) (hd : a.depth ≤ 60) : inU neg (.d a) (.d (.tuple xs)) h = .ok (.d (.bool (neg != (xs.any fun z => PyData.eqv z a)))) h := by
  simp [inU, inO, dctOf, Py.dataOf, seqOf, hd]
theorem inU_l (a : D) (hd : a.depth ≤ 60) : inU neg (.d a) (.d (.list xs)) h = .ok (.d (.bool (neg != (xs.any fun z => PyData.eqv z a)))) h := by
  simp [inU, inO, dctOf, Py.dataOf, seqOf, listOf, hd]
theorem inU_ts (s : Str) : inU neg (.d (.str s)) (.d (.tuple xs)) h = .ok (.d (.bool (neg != (xs.any fun z => PyData.eqv z (.str s))))) h := inU_t _ (by simp [PyData.depth])
theorem inU_ti (i : Int) : inU neg (.d (.int i)) (.d (.tuple xs)) h = .ok (.d (.bool (neg != (xs.any fun z => PyData.eqv z (.int i))))) h := inU_t _ (by simp [PyData.depth])
theorem inU_li (i : Int) : inU neg (.d (.int i)) (.d (.list xs)) h = .ok (.d (.bool (neg != (xs.any fun z => PyData.eqv z (.int i))))) h := inU_l _ (by simp [PyData.depth])
theorem lenU_t : lenU (.d (.tuple xs)) h = .ok (.d (.int xs.length)) h := by simp [lenU, lenN, seqOf]
theorem lenU_l : lenU (.d (.list xs)) h = .ok (.d (.int xs.length)) h := by simp [lenU, lenN, seqOf, listOf]
theorem isiU_d {d : D} {n : String} (hn : tyNames.contains n = true) : isiU (.d d) (.ty n) h = (opt (tyN (.d d) h) h).bind fun a h => .ok (.d (.bool (isaB a n))) h := by
  simp only [isiU, hn, if_true]
theorem tupleU_l : tupleU (.d (.list xs)) h = .ok (.d (.tuple xs)) h := by simp [tupleU, isTup, lstLike, listOf]
theorem tupleU_t : tupleU (.d (.tuple xs)) h = .ok (.d (.tuple xs)) h := by simp [tupleU, isTup]
end
section
variable {f f1 f2 f3 f4 : En → List O → R U} {C : List U → List O → R U} {σ : En} {h : List O}
theorem evCl_k2r : evCl 0 2 [1, 0] evNil (evCons f (evCons f2 evNil)) C σ h = (f σ h).bind fun u h => (f2 σ h).bind fun u2 h => C [u2, u] h := by
  unfold evCl evCons evNil
  rw [R.bind_ok]
  cases f σ h with
  | ok a h => dsimp only [R.bind_ok]; cases f2 σ h <;> rfl
  | err c h => rfl
  | bad => rfl
theorem evCl_k2 : evCl 0 2 [0, 1] evNil (evCons f (evCons f2 evNil)) C σ h = (f σ h).bind fun u h => (f2 σ h).bind fun u2 h => C [u, u2] h := by
  unfold evCl evCons evNil
  rw [R.bind_ok]
  cases f σ h with
  | ok a h => dsimp only [R.bind_ok]; cases f2 σ h <;> rfl
  | err c h => rfl
  | bad => rfl
theorem evCl_k3r : evCl 0 3 [2, 1, 0] evNil (evCons f (evCons f2 (evCons f3 evNil))) C σ h = (f σ h).bind fun u h => (f2 σ h).bind fun u2 h => (f3 σ h).bind fun u3 h => C [u3, u2, u] h := by
  unfold evCl evCons evNil
  rw [R.bind_ok]
  cases f σ h with
  | ok a h =>
    dsimp only [R.bind_ok]
    cases f2 σ h with
    | ok b h => dsimp only [R.bind_ok]; cases f3 σ h <;> rfl
    | err c h => rfl
    | bad => rfl
  | err c h => rfl
  | bad => rfl
end
theorem range_get {n : Nat} {pre r : List U} {u : U} (e : rngL 0 1 n = pre ++ u :: r) : u = .d (.int pre.length) ∧ pre.length < n := by
  have h1 : (rngL 0 1 n)[pre.length]? = some u := by rw [e, List.getElem?_append_right (Nat.le_refl _), Nat.sub_self]; rfl
  rw [rngL_map, List.getElem?_map] at h1
  by_cases hlt : pre.length < n
  · rw [List.getElem?_range hlt] at h1
    cases h1
    exact ⟨rfl, hlt⟩
  · rw [List.getElem?_eq_none (by simpa using hlt)] at h1
    cases h1
theorem rngL_len (n : Nat) : (rngL 0 1 n).length = n := by rw [rngL_map]; simp
/-! ### how great a value is -/
mutual
def big : D → Nat
  | .tuple ds => bigs ds + 1
  | .list ds => bigs ds + 1
  | .none => 1
  | .bool _ => 1
  | .int _ => 1
  | .str _ => 1
  | .dict kvs => PyData.depthKv kvs + 1
def bigs : List D → Nat
  | [] => 0
  | d :: r => big d + bigs r
end
theorem big_pos : ∀ d : D, 1 ≤ big d
  | .tuple ds => by unfold big; omega
  | .list ds => by unfold big; omega
  | .none => by unfold big; omega
  | .bool _ => by unfold big; omega
  | .int _ => by unfold big; omega
  | .str _ => by unfold big; omega
  | .dict _ => by unfold big; omega
theorem bigs_len : ∀ ds : List D, ds.length ≤ bigs ds
  | [] => by unfold bigs; exact Nat.le_refl 0
  | d :: r => by
    have := big_pos d
    have := bigs_len r
    unfold bigs
    rw [List.length_cons]; omega
theorem bigs_mem : ∀ {ds : List D} {d : D}, d ∈ ds → big d ≤ bigs ds
  | x :: r, d, h => by
    unfold bigs
    rcases List.mem_cons.mp h with e | h
    · subst e; omega
    · have := bigs_mem h; omega
theorem bigs_app : ∀ (xs ys : List D), bigs (xs ++ ys) = bigs xs + bigs ys
  | [], ys => by simp [bigs]
  | x :: r, ys => by rw [List.cons_append, bigs, bigs, bigs_app r ys]; omega
theorem big_tup_len {ds : List D} {n : Nat} (h : big (.tuple ds) ≤ n) : ds.length ≤ n := by
  have := bigs_len ds
  unfold big at h
  omega
theorem big_tup_mem {ds : List D} {d : D} (hm : d ∈ ds) : big d < big (.tuple ds) := by
  have h := bigs_mem hm
  have e : big (.tuple ds) = bigs ds + 1 := by rw [big]
  omega
mutual
theorem depth_big : ∀ d : D, d.depth ≤ big d
  | .tuple ds => by have := depths_big ds; unfold PyData.depth big; omega
  | .list ds => by have := depths_big ds; unfold PyData.depth big; omega
  | .none => by simp [PyData.depth]
  | .bool _ => by simp [PyData.depth]
  | .int _ => by simp [PyData.depth]
  | .str _ => by simp [PyData.depth]
  | .dict _ => by simp [PyData.depth, big]
theorem depths_big : ∀ ds : List D, PyData.depthAll ds ≤ bigs ds
  | [] => by simp [PyData.depthAll, bigs]
  | d :: r => by
    have := depth_big d
    have := depths_big r
    unfold PyData.depthAll bigs
    omega
end
/-! ### small looks -/
def isI : D → Bool
  | .int _ => true
  | _ => false
def isIdx : D → Bool
  | .int i => decide (0 ≤ i)
  | _ => false
def inB (lo hi : Int) : D → Bool
  | .int i => decide (lo ≤ i) && decide (i ≤ hi)
  | _ => false
def isStr : D → Bool
  | .str _ => true
  | _ => false
def isTupD : D → Bool
  | .tuple _ => true
  | _ => false
def rowB (lo hi : Int) : D → Bool
  | .tuple ds => decide (lo ≤ ds.length) && decide ((ds.length : Int) ≤ hi)
  | _ => false
def tupI : D → Bool
  | .tuple ds => ds.all isI
  | _ => false
def pairB : D → Bool
  | .tuple [.int v, .int _] => decide (0 ≤ v)
  | _ => false
def pairNZ : D → Bool
  | .tuple [.int v, .int c] => decide (0 ≤ v) && decide (c ≠ 0)
  | _ => false
def fstD : D → D
  | .tuple (a :: _) => a
  | _ => .none
def fstI : D → Int
  | .tuple (.int a :: _) => a
  | _ => 0
def sndI : D → Int
  | .tuple [_, .int a] => a
  | _ => 0
def ascI : List Int → Bool
  | a :: b :: r => decide (a < b) && ascI (b :: r)
  | _ => true
/-- what is a term -/
def termB : D → Bool
  | .tuple [.int _, .tuple ps] => ps.all pairNZ && ascI (ps.map fstI)
  | _ => false
theorem pairB_of {d : D} (h : pairB d = true) : ∃ v c, d = .tuple [.int v, .int c] ∧ 0 ≤ v := by
  unfold pairB at h
  split at h
  · exact ⟨_, _, rfl, of_decide_eq_true h⟩
  · cases h
theorem pairNZ_of {d : D} (h : pairNZ d = true) : ∃ v c, d = .tuple [.int v, .int c] ∧ 0 ≤ v ∧ c ≠ 0 := by
  unfold pairNZ at h
  split at h
  · simp only [Bool.and_eq_true, decide_eq_true_eq] at h; exact ⟨_, _, rfl, h.1, h.2⟩
  · cases h
theorem termB_of {d : D} (h : termB d = true) : ∃ c ps, d = .tuple [.int c, .tuple ps] ∧ (∀ p ∈ ps, pairNZ p = true) ∧ ascI (ps.map fstI) = true := by
  unfold termB at h
  split at h
  · rename_i c ps
    simp only [Bool.and_eq_true, List.all_eq_true] at h
    exact ⟨c, ps, rfl, h.1, h.2⟩
  · cases h
theorem ascI_zip : ∀ vs : List Int, ((vs.zip (vs.drop 1)).all fun p => decide (p.1 < p.2)) = ascI vs
  | [] => rfl
  | [a] => rfl
  | a :: b :: r => by
    have := ascI_zip (b :: r)
    simp only [List.drop_succ_cons, List.drop_zero, List.zip_cons_cons, List.all_cons, ascI] at this ⊢
    rw [← this]
theorem zipL_ints : ∀ xs ys : List Int, zipL (xs.map .int) (ys.map .int) = (xs.zip ys).map fun p => U.d (.tuple [.int p.1, .int p.2])
  | [], _ => by cases ‹List Int› <;> simp [zipL]
  | _ :: _, [] => by simp [zipL]
  | x :: xs, y :: ys => by
    rw [List.map_cons, List.map_cons, zipL, zipL_ints xs ys]
    rfl
theorem cut1 {α : Type} (xs : List α) : cut xs (some 1) none = xs.drop 1 := by
  unfold cut
  cases xs with
  | nil => rfl
  | cons x xs => simp [HT.sIx]
end Py

/-! terms: pairs of a variable and a coefficient, put together -/
namespace Py
open PySem PySem.Spec PyProof.Rows L2
abbrev PL := List (Int × Int)
/-- a dict of ints -/
def embK (acc : PL) : List (Key × D) := acc.map fun p => (Sum.inl p.1, PyData.int p.2)
def getI (acc : PL) (v : Int) : Int := match acc with
  | [] => 0
  | p :: r => if p.1 = v then p.2 else getI r v
def putI (acc : PL) (v a : Int) : PL := if (acc.any fun p => decide (p.1 = v)) = true then acc.map (fun p => if p.1 = v then (p.1, a) else p) else acc ++ [(v, a)]
def netI : PL → PL → PL
  | acc, [] => acc
  | acc, p :: r => netI (putI acc p.1 (getI acc p.1 + p.2)) r
theorem netI_app : ∀ (xs ys acc : PL), netI acc (xs ++ ys) = netI (netI acc xs) ys
  | [], ys, acc => rfl
  | p :: r, ys, acc => by rw [List.cons_append, netI, netI, netI_app r ys]
theorem embK_get : ∀ (acc : PL) (v : Int), getK (embK acc) (.inl v) = if (acc.any fun p => decide (p.1 = v)) = true then some (.int (getI acc v)) else none
  | [], v => rfl
  | p :: r, v => by
    have ih := embK_get r v
    unfold embK at ih ⊢
    rw [List.map_cons, getK, List.any_cons, getI]
    by_cases h : p.1 = v
    · simp [h]
    · have : ¬ (Sum.inl p.1 : Key) = Sum.inl v := fun e => h (Sum.inl.inj e)
      rw [if_neg this, ih, if_neg h, decide_eq_false h, Bool.false_or]
theorem getI_none : ∀ {acc : PL} {v : Int}, ¬ (acc.any fun p => decide (p.1 = v)) = true → getI acc v = 0
  | [], v, _ => rfl
  | p :: r, v, h => by
    rw [List.any_cons, Bool.or_eq_true, not_or] at h
    unfold getI
    rw [if_neg (by simpa using h.1), getI_none h.2]
theorem embK_getD (acc : PL) (v : Int) : (getK (embK acc) (.inl v)).getD (.int 0) = .int (getI acc v) := by
  rw [embK_get]
  by_cases h : (acc.any fun p => decide (p.1 = v)) = true
  · rw [if_pos h]; rfl
  · rw [if_neg h, getI_none h]; rfl
theorem embK_put (acc : PL) (v a : Int) : putK' (embK acc) (.inl v) (.int a) = embK (putI acc v a) := by
  have e1 : ((embK acc).any fun kv => decide (kv.1 = (Sum.inl v : Key))) = acc.any fun p => decide (p.1 = v) := by
    unfold embK
    rw [List.any_map]
    congr 1
    funext p
    by_cases h : p.1 = v <;> simp [h]
  unfold putK' putI
  rw [e1]
  by_cases h : (acc.any fun p => decide (p.1 = v)) = true
  · rw [if_pos h, if_pos h]
    unfold embK
    rw [List.map_map, List.map_map]
    apply List.map_congr_left
    intro p _
    by_cases h : p.1 = v <;> simp [h]
  · rw [if_neg h, if_neg h]
    unfold embK
    simp
theorem embK_len (acc : PL) : (embK acc).length = acc.length := by unfold embK; simp
theorem embK_keys : ∀ acc : PL, keysI (embK acc) = some (acc.map (·.1))
  | [] => rfl
  | p :: r => by
    have := embK_keys r
    unfold embK at this ⊢
    rw [List.map_cons, keysI, this]
    rfl
theorem embK_ent : ∀ acc : PL, entD (embK acc) = some (acc.map fun p => (.int p.1, .int p.2))
  | [] => rfl
  | p :: r => by
    have := embK_ent r
    unfold embK at this ⊢
    rw [List.map_cons, entD, this]
    rfl
theorem putI_keys (acc : PL) (v a : Int) : (putI acc v a).map (·.1) = if (acc.any fun p => decide (p.1 = v)) = true then acc.map (·.1) else acc.map (·.1) ++ [v] := by
  unfold putI
  split
  · rw [List.map_map]
    apply List.map_congr_left
    intro p _
    show (if p.1 = v then (p.1, a) else p).1 = p.1
    split <;> rfl
  · simp
theorem any_key (acc : PL) (v : Int) : (acc.any fun p => decide (p.1 = v)) = true ↔ v ∈ acc.map (·.1) := by
  rw [List.any_eq_true, List.mem_map]
  constructor
  · rintro ⟨p, h, e⟩; exact ⟨p, h, by simpa using e⟩
  · rintro ⟨p, h, e⟩; exact ⟨p, h, by simpa using e⟩
theorem putI_nodup {acc : PL} (h : (acc.map (·.1)).Nodup) (v a : Int) : ((putI acc v a).map (·.1)).Nodup := by
  rw [putI_keys]
  split
  · exact h
  · rename_i hn
    rw [any_key] at hn
    rw [List.nodup_append]
    exact ⟨h, by simp, fun x hx y hy => by rw [List.mem_singleton] at hy; subst hy; rintro rfl; exact hn hx⟩
theorem netI_nodup : ∀ {ps acc : PL}, (acc.map (·.1)).Nodup → ((netI acc ps).map (·.1)).Nodup
  | [], _, h => h
  | p :: r, acc, h => by rw [netI]; exact netI_nodup (ps := r) (putI_nodup h _ _)
theorem putI_len (acc : PL) (v a : Int) : (putI acc v a).length ≤ acc.length + 1 := by
  unfold putI
  split <;> simp
theorem netI_len : ∀ (ps acc : PL), (netI acc ps).length ≤ acc.length + ps.length
  | [], acc => by simp [netI]
  | p :: r, acc => by
    have := netI_len r (putI acc p.1 (getI acc p.1 + p.2))
    have := putI_len acc p.1 (getI acc p.1 + p.2)
    rw [netI, List.length_cons]
    omega
theorem putI_mem {acc : PL} {v a k : Int} (h : k ∈ (putI acc v a).map (·.1)) : k ∈ acc.map (·.1) ∨ k = v := by
  rw [putI_keys] at h
  split at h
  · exact .inl h
  · simpa using h
theorem netI_mem : ∀ {ps acc : PL} {k : Int}, k ∈ (netI acc ps).map (·.1) → k ∈ acc.map (·.1) ∨ k ∈ ps.map (·.1)
  | [], acc, k, h => .inl h
  | p :: r, acc, k, h => by
    rcases netI_mem (ps := r) h with h | h
    · rcases putI_mem h with h | h
      · exact .inl h
      · exact .inr (by rw [h]; simp)
    · exact .inr (by rw [List.map_cons]; exact List.mem_cons_of_mem _ h)
/-- the pairs of a term -/
def canon (ps : PL) : PL := sortP ((netI [] ps).filter fun p => decide (p.2 ≠ 0))
theorem canon_len (ps : PL) : (canon ps).length ≤ ps.length := by
  have h1 := netI_len ps []
  have h2 := (sortP_perm ((netI [] ps).filter fun p => decide (p.2 ≠ 0))).length_eq
  have h3 := List.length_filter_le (fun p : Int × Int => decide (p.2 ≠ 0)) (netI [] ps)
  unfold canon
  simp at h1
  omega
theorem canon_keys {ps : PL} {p : Int × Int} (h : p ∈ canon ps) : p.1 ∈ ps.map (·.1) ∧ p.2 ≠ 0 := by
  unfold canon at h
  rw [(sortP_perm _).mem_iff, List.mem_filter] at h
  refine ⟨?_, by simpa using h.2⟩
  rcases netI_mem (k := p.1) (List.mem_map.mpr ⟨p, h.1, rfl⟩) with h | h
  · simp at h
  · exact h
theorem getI_mem : ∀ {acc : PL}, (acc.map (·.1)).Nodup → ∀ p ∈ acc, getI acc p.1 = p.2
  | q :: r, nd, p, h => by
    rw [List.map_cons, List.nodup_cons] at nd
    unfold getI
    rcases List.mem_cons.mp h with e | h
    · subst e; rw [if_pos rfl]
    · have ne : q.1 ≠ p.1 := fun e => nd.1 (by rw [e]; exact List.mem_map.mpr ⟨p, h, rfl⟩)
      rw [if_neg ne, getI_mem nd.2 p h]
theorem map_get {acc : PL} (nd : (acc.map (·.1)).Nodup) : (acc.map (·.1)).map (fun v => (v, getI acc v)) = acc := by
  rw [List.map_map]
  conv => rhs; rw [← List.map_id acc]
  apply List.map_congr_left
  intro p hp
  show (p.1, getI acc p.1) = p
  rw [getI_mem nd p hp]
theorem asc_le {ks : List Int} (h : ks.Pairwise (· ≤ ·)) (nd : ks.Nodup) : ks.Pairwise (· < ·) := by
  refine List.Pairwise.imp₂ (fun a b h1 h2 => ?_) h nd
  omega
theorem canon_law {acc : PL} (nd : (acc.map (·.1)).Nodup) : ((sortI (acc.map (·.1))).filter fun v => decide (getI acc v ≠ 0)).map (fun v => (v, getI acc v)) = sortP (acc.filter fun p => decide (p.2 ≠ 0)) := by
  refine sortedP_unique ?_ (sortP_sorted _) ?_
  · have h1 : (sortI (acc.map (·.1))).Pairwise (· < ·) := asc_le (sortI_sorted _) ((sortI_perm _).nodup_iff.mpr nd)
    refine List.pairwise_map.mpr ((h1.filter _).imp fun {a b} h => ?_)
    simp only [LeP, leP_iff]
    exact .inl h
  · refine List.Perm.trans ?_ (sortP_perm _).symm
    have h2 : ((sortI (acc.map (·.1))).map fun v => (v, getI acc v)).Perm acc := by
      have := (sortI_perm (acc.map (·.1))).map fun v => (v, getI acc v)
      rwa [map_get nd] at this
    have h3 := h2.filter fun p => decide (p.2 ≠ 0)
    rw [List.filter_map] at h3
    exact h3
theorem sortP_asc {ps : PL} (nd : (ps.map (·.1)).Nodup) : ((sortP ps).map (·.1)).Pairwise (· < ·) := by
  have h1 : ((sortP ps).map (·.1)).Nodup := ((sortP_perm ps).map (·.1)).nodup_iff.mpr nd
  have h2 : ((sortP ps).map (·.1)).Pairwise (· ≤ ·) := List.pairwise_map.mpr ((sortP_sorted ps).imp fun {a b} h => by
    simp only [LeP, leP_iff] at h
    omega)
  exact asc_le h2 h1
theorem nodup_filter {acc : PL} (nd : (acc.map (·.1)).Nodup) (f : Int × Int → Bool) : ((acc.filter f).map (·.1)).Nodup :=
  (List.filter_sublist.map _).nodup nd
theorem canon_asc (ps : PL) : ((canon ps).map (·.1)).Pairwise (· < ·) := sortP_asc (nodup_filter (netI_nodup (by simp)) _)
theorem ascI_pw : ∀ vs : List Int, ascI vs = true ↔ vs.Pairwise (· < ·)
  | [] => by simp [ascI]
  | [a] => by simp [ascI]
  | a :: b :: r => by
    rw [ascI, Bool.and_eq_true, decide_eq_true_eq, ascI_pw (b :: r), List.pairwise_cons (a := a)]
    constructor
    · rintro ⟨h1, h2⟩
      refine ⟨fun z hz => ?_, h2⟩
      rcases List.mem_cons.mp hz with e | hz
      · omega
      · have := (List.pairwise_cons.mp h2).1 z hz; omega
    · rintro ⟨h1, h2⟩
      exact ⟨h1 b List.mem_cons_self, h2⟩
/-! ### values -/
def valI (ps : PL) (ρ : Int → Int) : Int := (ps.map fun p => p.2 * ρ p.1).sum
theorem valI_perm {ps qs : PL} (h : ps.Perm qs) (ρ : Int → Int) : valI ps ρ = valI qs ρ := by
  unfold valI
  induction h with
  | nil => rfl
  | cons x _ ih => rw [List.map_cons, List.map_cons, List.sum_cons, List.sum_cons, ih]
  | swap x y l => simp only [List.map_cons, List.sum_cons]; omega
  | trans _ _ ih1 ih2 => rw [ih1, ih2]
theorem valI_app (ps qs : PL) (ρ : Int → Int) : valI (ps ++ qs) ρ = valI ps ρ + valI qs ρ := by
  unfold valI; rw [List.map_append, List.sum_append]
theorem valI_cons (p : Int × Int) (qs : PL) (ρ : Int → Int) : valI (p :: qs) ρ = p.2 * ρ p.1 + valI qs ρ := rfl
theorem valI_nz (ps : PL) (ρ : Int → Int) : valI (ps.filter fun p => decide (p.2 ≠ 0)) ρ = valI ps ρ := by
  induction ps with
  | nil => rfl
  | cons p r ih =>
    by_cases h : p.2 = 0
    · rw [List.filter_cons_of_neg (by simp [h]), ih, valI_cons, h]; omega
    · rw [List.filter_cons_of_pos (by simp [h]), valI_cons, valI_cons, ih]
theorem valI_set {acc : PL} (nd : (acc.map (·.1)).Nodup) (v c : Int) (ρ : Int → Int) : valI (putI acc v (getI acc v + c)) ρ = valI acc ρ + c * ρ v := by
  unfold putI
  split
  · rename_i h
    induction acc with
    | nil => simp at h
    | cons p r ih =>
      rw [List.map_cons, List.nodup_cons] at nd
      by_cases e : p.1 = v
      · subst e
        have hn : ∀ q ∈ r, q.1 ≠ p.1 := fun q hq e => nd.1 (by rw [← e]; exact List.mem_map.mpr ⟨q, hq, rfl⟩)
        have hr : r.map (fun q => if q.1 = p.1 then (q.1, getI (p :: r) p.1 + c) else q) = r := by
          conv => rhs; rw [← List.map_id r]
          apply List.map_congr_left
          intro q hq
          rw [if_neg (hn q hq)]; rfl
        rw [List.map_cons, if_pos rfl, hr, valI_cons, valI_cons]
        unfold getI
        rw [if_pos rfl]
        simp only [Int.add_mul]
        omega
      · rw [List.map_cons, if_neg e, valI_cons, valI_cons]
        have h' : (r.any fun q => decide (q.1 = v)) = true := by simpa [e] using h
        have eg : getI (p :: r) v = getI r v := by
          show (if p.1 = v then p.2 else getI r v) = _
          rw [if_neg e]
        rw [eg, ih nd.2 h']
        omega
  · rename_i h
    rw [valI_app, getI_none h]
    unfold valI
    simp
theorem valI_net : ∀ (ps acc : PL) (ρ : Int → Int), (acc.map (·.1)).Nodup → valI (netI acc ps) ρ = valI acc ρ + valI ps ρ
  | [], acc, ρ, _ => by simp [netI, valI]
  | p :: r, acc, ρ, h => by
    rw [netI, valI_net r _ ρ (putI_nodup h _ _), valI_set h, valI_cons]
    omega
theorem valI_canon (ps : PL) (ρ : Int → Int) : valI (canon ps) ρ = valI ps ρ := by
  unfold canon
  rw [valI_perm (sortP_perm _), valI_nz, valI_net ps [] ρ (by simp)]
  simp [valI]
/-- a term -/
def tmD (c : Int) (ps : PL) : D := .tuple [.int c, .tuple (ps.map pairD)]
/-- its pairs ascend, its coefficients are not 0, its variables are at least 0 -/
structure IsTm (ps : PL) : Prop where
  asc : (ps.map (·.1)).Pairwise (· < ·)
  nz : ∀ p ∈ ps, p.2 ≠ 0
  pos : ∀ p ∈ ps, 0 ≤ p.1
theorem IsTm.canon {ps : PL} (h : ∀ p ∈ ps, 0 ≤ p.1) : IsTm (canon ps) :=
  ⟨canon_asc ps, fun p hp => (canon_keys hp).2, fun p hp => by
    obtain ⟨q, hq, e⟩ := List.mem_map.mp (canon_keys hp).1
    rw [← e]; exact h q hq⟩
theorem pairNZ_D {p : Int × Int} (h0 : 0 ≤ p.1) (h1 : p.2 ≠ 0) : pairNZ (pairD p) = true := by simp [pairNZ, pairD, h0, h1]
theorem fst_pairs (ps : PL) : (ps.map pairD).map fstI = ps.map (·.1) := by rw [List.map_map]; rfl
theorem IsTm.termB {ps : PL} (h : IsTm ps) (c : Int) : termB (tmD c ps) = true := by
  show ((ps.map pairD).all pairNZ && ascI ((ps.map pairD).map fstI)) = true
  rw [fst_pairs, (ascI_pw _).mpr h.asc, Bool.and_true, List.all_eq_true]
  intro d hd
  obtain ⟨p, hp, rfl⟩ := List.mem_map.mp hd
  exact pairNZ_D (h.pos p hp) (h.nz p hp)
theorem big_pair (p : Int × Int) : big (pairD p) = 3 := by simp [pairD, big, bigs]
theorem bigs_pairs : ∀ ps : PL, bigs (ps.map pairD) = 3 * ps.length
  | [] => rfl
  | p :: r => by rw [List.map_cons, bigs, bigs_pairs r, big_pair, List.length_cons]; omega
theorem big_tm (c : Int) (ps : PL) : big (tmD c ps) = 3 * ps.length + 3 := by
  simp only [tmD, big, bigs, bigs_pairs]; omega
theorem intsOf_pairs {p : Int × Int} {r : PL} : intsOf ((p :: r).map pairD) = none := by simp [pairD, intsOf]
theorem pairsOf_map : ∀ ps : PL, pairsOf (ps.map pairD) = some ps
  | [] => rfl
  | p :: r => by rw [List.map_cons, pairD, pairsOf, pairsOf_map r]; rfl
theorem sortedU_pairs {m : Bool} (ps : PL) (h : List O) : sortedU m (.d (.list (ps.map pairD))) h = mkL m ((sortP ps).map pairD) h := by
  cases ps with
  | nil => simp [sortedU, lstLike, Py.listOf, intsOf, sortI, sortP]
  | cons p r =>
    have e1 := intsOf_pairs (p := p) (r := r)
    have e2 := pairsOf_map (p :: r)
    simp only [sortedU, lstLike, Py.listOf, Option.bind_some, e1, e2]
end Py
namespace Py
open PySem PySem.Spec PyProof.Rows L2
theorem map_split {α : Type} {f : α → U} {ps : List α} {pre : List U} {u : U} {r : List U} (e : ps.map f = pre ++ u :: r) : ∃ p, u = f p ∧ p ∈ ps ∧ ps[pre.length]? = some p ∧ ps.take (pre.length + 1) = ps.take pre.length ++ [p] ∧ pre.length < ps.length := by
  have h1 : (ps.map f)[pre.length]? = some u := by rw [e, List.getElem?_append_right (Nat.le_refl _), Nat.sub_self]; rfl
  rw [List.getElem?_map] at h1
  cases hp : ps[pre.length]? with
  | none => rw [hp] at h1; cases h1
  | some p =>
    rw [hp] at h1
    cases h1
    refine ⟨p, rfl, List.mem_of_getElem? hp, rfl, ?_, (List.getElem?_eq_some_iff.mp hp).1⟩
    rw [List.take_succ, hp]; rfl
section
variable {h : List O} {o o' : O}
theorem last_get : (h ++ [o])[h.length]? = some o := by simp
theorem last_set : (h ++ [o]).set h.length o' = h ++ [o'] := by simp
theorem take_last : (h ++ [o]).take h.length = h := by simp
theorem get_emb (acc : PL) (v : Int) : dgetU (.lab h.length) (.d (.int v)) (.d (.int 0)) (h ++ [.dct (embK acc)]) = .ok (.d (.int (getI acc v))) (h ++ [.dct (embK acc)]) := by
  have := embK_getD acc v
  simp only [dgetU, dctOf, last_get, Py.keyOf]
  cases e : getK (embK acc) (.inl v) with
  | none => rw [e] at this; simp only [Option.getD_none] at this; rw [← this]
  | some d => rw [e] at this; simp only [Option.getD_some] at this; rw [this]
theorem itemsU_emb (acc : PL) : itemsU (.lab h.length) (h ++ [.hold (embK acc)]) = .ok (.fix ((acc.map pairD).map U.d)) (h ++ [.hold (embK acc)]) := by
  simp only [itemsU, holdOf, last_get, embK_ent, opt_some, R.bind_ok, List.map_map]
  rfl
theorem sorted_dct (m : Bool) (acc : PL) (hl : acc.length < 64) : sortedU m (.lab h.length) (h ++ [.dct (embK acc)]) = mkL m ((sortI (acc.map (·.1))).map .int) (h ++ [.dct (embK acc)]) := by
  have e1 : Py.listOf (.lab h.length) (h ++ [.dct (embK acc)]) = none := by simp only [Py.listOf, last_get]
  simp only [sortedU, lstLike, e1, Option.bind_none, dkI, last_get, embK_keys, List.length_map, hl, if_true]
theorem pairD_filter (acc : PL) : ((acc.map pairD).filter fun x => decide (sndI x ≠ 0)) = (acc.filter fun p => decide (p.2 ≠ 0)).map pairD := by
  rw [List.filter_map]; rfl
end
end Py
namespace Py
open PySem PySem.Spec PyProof.Rows L2
def rho (rs : List Int) (v : Int) : Int := rs.getD v.toNat 0
theorem atI_ints {rs : List Int} {v : Int} (h0 : 0 ≤ v) (h1 : v < rs.length) : L2.atI (rs.map PyData.int) v = some (.int (rho rs v)) := by
  unfold L2.atI L2.ixN rho
  rw [if_pos h0, List.length_map, if_pos h1, Option.bind_some, List.getElem?_map, List.getD_eq_getElem?_getD]
  have : v.toNat < rs.length := by omega
  rw [List.getElem?_eq_getElem this]
  rfl
theorem getU_row {rs : List Int} {v : Int} (h0 : 0 ≤ v) (h1 : v < rs.length) (h : List O) : getU (.d (.tuple (rs.map .int))) (.d (.int v)) h = .ok (.d (.int (rho rs v))) h := getU_tup (atI_ints h0 h1)
theorem getU_rowL {rs : List Int} {v : Int} (h0 : 0 ≤ v) (h1 : v < rs.length) (h : List O) : getU (.d (.list (rs.map .int))) (.d (.int v)) h = .ok (.d (.int (rho rs v))) h := getU_lst (atI_ints h0 h1)
theorem mulOk_r {i j : Int} (h : j.natAbs < 2 ^ 64) : mulOk i j = true := by
  have e : decide (j.natAbs < 2 ^ 64) = true := decide_eq_true h
  unfold mulOk
  rw [e, Bool.or_true, Bool.true_or]
theorem mulOk_l {i j : Int} (h : i.natAbs < 2 ^ 64) : mulOk i j = true := by
  have e : decide (i.natAbs < 2 ^ 64) = true := decide_eq_true h
  unfold mulOk
  rw [e, Bool.true_or, Bool.true_or]
theorem rho_mem {rs : List Int} {v : Int} (h0 : 0 ≤ v) (h1 : v < rs.length) : rho rs v ∈ rs := by
  unfold rho
  have : v.toNat < rs.length := by omega
  rw [List.getD_eq_getElem?_getD, List.getElem?_eq_getElem this]
  exact List.getElem_mem this
theorem addD_ii (i j : Int) : addD (.int i) (.int j) = some (.int (i + j)) := rfl
theorem sum_pairs (ps : PL) (ρ : Int → Int) : ((ps.map pairD).map fun x => sndI x * ρ (fstI x)).sum = valI ps ρ := by
  rw [List.map_map]; rfl
theorem addU_i {i j : Int} {m : Bool} {h : List O} : addU m (.d (.int i)) (.d (.int j)) h = .ok (.d (.int (i + j))) h := by simp [addU, Py.listOf, addD]
theorem addU_t {xs ys : List D} {m : Bool} {h : List O} (hl : xs.length + ys.length ≤ 10000000) : addU m (.d (.tuple xs)) (.d (.tuple ys)) h = .ok (.d (.tuple (xs ++ ys))) h := by simp [addU, Py.listOf, addD, hl]
theorem addU_l {xs ys : List D} {m : Bool} {h : List O} (hl : xs.length + ys.length ≤ 10000000) : addU m (.d (.list xs)) (.d (.list ys)) h = mkL m (xs ++ ys) h := by simp [addU, Py.listOf, hl]
theorem mulU_i {i j : Int} {m : Bool} {h : List O} (hm : mulOk i j = true) : mulU m (.d (.int i)) (.d (.int j)) h = .ok (.d (.int (i * j))) h := by simp [mulU, hm]
theorem big_tm_le {c : Int} {ps : PL} (hl : ps.length ≤ 1000000) : big (tmD c ps) ≤ 10000000 := by rw [big_tm]; omega
theorem IsTm.app_pos {ps qs : PL} (h : IsTm ps) (g : IsTm qs) : ∀ p ∈ ps ++ qs, 0 ≤ p.1 := fun p hp => (List.mem_append.mp hp).elim (h.pos p) (g.pos p)
theorem vars_tm (c : Int) (ps : PL) : (match tmD c ps with | .tuple [_, .tuple qs] => qs.map fstI | _ => []) = ps.map (·.1) := fst_pairs ps
end Py

/-! formulas: what they are as values -/
namespace Py
open PySem PySem.Spec PyProof.Rows L2
inductive Fm where
  | tru | fls | ge (c : Int) (ps : PL) | eq (c : Int) (ps : PL) | dv (m c : Int) (ps : PL)
  | not (f : Fm) | and (fs : List Fm) | or (fs : List Fm) | imp (f g : Fm) | iff (f g : Fm) | ex (v : Int) (f : Fm) | all (v : Int) (f : Fm)
mutual
def Fm.d : Fm → D
  | .tru => .tuple [.str "true"]
  | .fls => .tuple [.str "false"]
  | .ge c ps => .tuple [.str "ge", tmD c ps]
  | .eq c ps => .tuple [.str "eq", tmD c ps]
  | .dv m c ps => .tuple [.str "div", .int m, tmD c ps]
  | .not f => .tuple [.str "not", f.d]
  | .and fs => .tuple [.str "and", .tuple (Fm.ds fs)]
  | .or fs => .tuple [.str "or", .tuple (Fm.ds fs)]
  | .imp f g => .tuple [.str "implies", f.d, g.d]
  | .iff f g => .tuple [.str "iff", f.d, g.d]
  | .ex v f => .tuple [.str "exists", .int v, f.d]
  | .all v f => .tuple [.str "forall", .int v, f.d]
def Fm.ds : List Fm → List D
  | [] => []
  | f :: r => f.d :: Fm.ds r
end
theorem Fm.ds_eq : ∀ fs : List Fm, Fm.ds fs = fs.map Fm.d
  | [] => by rw [Fm.ds]; rfl
  | f :: r => by rw [Fm.ds, Fm.ds_eq r]; rfl
/-- the formulas that one is made of -/
def Fm.kids : Fm → List Fm
  | .not f => [f]
  | .and fs => fs
  | .or fs => fs
  | .imp f g => [f, g]
  | .iff f g => [f, g]
  | .ex _ f => [f]
  | .all _ f => [f]
  | _ => []
mutual
def Fm.size : Fm → Nat
  | .not f => f.size + 1
  | .and fs => Fm.sizes fs + 1
  | .or fs => Fm.sizes fs + 1
  | .imp f g => f.size + g.size + 1
  | .iff f g => f.size + g.size + 1
  | .ex _ f => f.size + 1
  | .all _ f => f.size + 1
  | .tru => 1
  | .fls => 1
  | .ge _ _ => 1
  | .eq _ _ => 1
  | .dv _ _ _ => 1
def Fm.sizes : List Fm → Nat
  | [] => 0
  | f :: r => f.size + Fm.sizes r
end
theorem Fm.sizes_eq : ∀ fs : List Fm, Fm.sizes fs = (fs.map Fm.size).sum
  | [] => by rw [Fm.sizes]; rfl
  | f :: r => by rw [Fm.sizes, Fm.sizes_eq r]; rfl
theorem Fm.size_kids (f : Fm) : f.size = (f.kids.map Fm.size).sum + 1 := by
  cases f <;> simp [Fm.size, Fm.kids, Fm.sizes_eq]
theorem Fm.size_pos (f : Fm) : 1 ≤ f.size := by rw [Fm.size_kids]; omega
theorem sum_mem : ∀ {l : List Nat} {n : Nat}, n ∈ l → n ≤ l.sum
  | x :: r, n, h => by
    rw [List.sum_cons]
    rcases List.mem_cons.mp h with e | h
    · omega
    · have := sum_mem h; omega
theorem Fm.size_kid {f g : Fm} (h : g ∈ f.kids) : g.size < f.size := by
  rw [Fm.size_kids f]
  have := sum_mem (List.mem_map.mpr ⟨g, h, rfl⟩ : g.size ∈ f.kids.map Fm.size)
  omega
/-- from the parts to the whole -/
theorem Fm.ind {P : Fm → Prop} (h : ∀ f : Fm, (∀ g ∈ f.kids, P g) → P f) : ∀ f : Fm, P f := by
  have : ∀ (n : Nat) (f : Fm), f.size ≤ n → P f := by
    intro n
    induction n with
    | zero => intro f hf; have := f.size_pos; omega
    | succ n ih => intro f hf; exact h f fun g hg => ih g (by have := Fm.size_kid hg; omega)
  exact fun f => this f.size f (Nat.le_refl _)
/-- how many stand within one another -/
def Fm.deepF : Nat → Fm → Nat
  | 0, _ => 0
  | n + 1, f => (f.kids.map (Fm.deepF n)).foldr max 0 + 1
def maxN (l : List Nat) : Nat := l.foldr max 0
theorem maxN_le {l : List Nat} {n : Nat} (h : n ∈ l) : n ≤ maxN l := by
  induction l with
  | nil => cases h
  | cons x r ih =>
    unfold maxN at ih ⊢
    rw [List.foldr_cons]
    rcases List.mem_cons.mp h with e | h
    · omega
    · have := ih h; omega
def Fm.deep (f : Fm) : Nat := Fm.deepF f.size f
theorem Fm.deepF_eq : ∀ (n : Nat) (f : Fm), f.size ≤ n → Fm.deepF n f = Fm.deepF f.size f := by
  intro n
  induction n with
  | zero => intro f h; have := f.size_pos; omega
  | succ n ih =>
    intro f h
    have hp := f.size_pos
    obtain ⟨m, hm⟩ : ∃ m, f.size = m + 1 := ⟨f.size - 1, by omega⟩
    rw [hm]
    unfold Fm.deepF
    congr 2
    apply List.map_congr_left
    intro g hg
    have := Fm.size_kid hg
    rw [ih g (by omega)]
    by_cases e : n = m
    · subst e; rw [ih g (by omega)]
    · have key : ∀ (k : Nat), g.size ≤ k → k ≤ n → Fm.deepF k g = Fm.deepF g.size g := by
        intro k
        induction k with
        | zero => intro h1; have := g.size_pos; omega
        | succ k ihk =>
          intro h1 h2
          by_cases e2 : g.size = k + 1
          · rw [e2]
          · have e3 := ihk (by omega) (by omega)
            have : ∀ (k : Nat) (f : Fm), f.size ≤ k → Fm.deepF (k + 1) f = Fm.deepF k f := by
              intro k
              induction k with
              | zero => intro f h; have := f.size_pos; omega
              | succ k ih2 =>
                intro f h
                conv => lhs; unfold Fm.deepF
                conv => rhs; unfold Fm.deepF
                congr 2
                apply List.map_congr_left
                intro g hg
                have := Fm.size_kid hg
                exact ih2 g (by omega)
            rw [this k g (by omega), e3]
      exact (key m (by omega) (by omega)).symm
theorem Fm.deep_kids (f : Fm) : f.deep = maxN (f.kids.map Fm.deep) + 1 := by
  have hp := f.size_pos
  obtain ⟨m, hm⟩ : ∃ m, f.size = m + 1 := ⟨f.size - 1, by omega⟩
  conv => lhs; unfold Fm.deep
  rw [hm]
  unfold Fm.deepF maxN
  congr 2
  apply List.map_congr_left
  intro g hg
  have := Fm.size_kid hg
  exact Fm.deepF_eq m g (by omega)
theorem Fm.deep_kid {f g : Fm} (h : g ∈ f.kids) : g.deep < f.deep := by
  rw [Fm.deep_kids f]
  have := maxN_le (List.mem_map.mpr ⟨g, h, rfl⟩ : g.deep ∈ f.kids.map Fm.deep)
  omega
/-- a formula, not only its form -/
def Fm.good : Fm → Prop
  | .ge _ ps => IsTm ps
  | .eq _ ps => IsTm ps
  | .dv m _ ps => 2 ≤ m ∧ IsTm ps
  | .ex v _ => 0 ≤ v
  | .all v _ => 0 ≤ v
  | _ => True
inductive Fm.Ok : Fm → Prop
  | mk {f : Fm} (h : f.good) (k : ∀ g ∈ f.kids, Fm.Ok g) : Fm.Ok f
theorem Fm.Ok.good {f : Fm} (h : f.Ok) : f.good := by cases h with | mk a _ => exact a
theorem Fm.Ok.kid {f g : Fm} (h : f.Ok) (hg : g ∈ f.kids) : g.Ok := by cases h with | mk _ b => exact b g hg
def Fm.isAtom : Fm → Bool
  | .ge _ _ => true
  | .eq _ _ => true
  | .dv _ _ _ => true
  | _ => false
/-! ### which values are formulas -/
def atomB : D → Bool
  | .tuple [.str w, t] => termB t && (decide (w = "ge") || decide (w = "eq"))
  | .tuple [.str w, .int m, t] => termB t && decide (w = "div") && decide (2 ≤ m)
  | _ => false
/-- what has to be formulas in a tuple whose word is w, and whose other entries are r -/
def innerW (w : Str) (r : List D) : Option (List D) :=
  if w = "true" ∨ w = "false" then (if r = [] then some [] else none) else
  if w = "not" then (if r.length = 1 then some r else none) else
  if w = "and" ∨ w = "or" then (match r with | [.tuple fs] => some fs | _ => none) else
  if w = "implies" ∨ w = "iff" then (if r.length = 2 then some r else none) else
  if w = "exists" ∨ w = "forall" then (match r with | [v, f] => if isIdx v = true then some [f] else none | _ => none) else none
/-- what has to be formulas in a value; none where it has not the form of one -/
def innerB : D → Option (List D)
  | .tuple (.str w :: r) => if r.length ≤ 2 then innerW w r else none
  | _ => none
theorem innerW_big {w : Str} {r ds : List D} (h : innerW w r = some ds) : bigs ds ≤ bigs r := by
  unfold innerW at h
  split at h
  · split at h
    · cases h; simp [bigs]
    · cases h
  · split at h
    · split at h
      · cases h; exact Nat.le_refl _
      · cases h
    · split at h
      · split at h
        · cases h; simp [bigs, big]
        · cases h
      · split at h
        · split at h
          · cases h; exact Nat.le_refl _
          · cases h
        · split at h
          · split at h
            · split at h
              · cases h; simp [bigs]
              · cases h
            · cases h
          · cases h
theorem innerB_big {d : D} {ds : List D} (h : innerB d = some ds) : bigs ds + 2 ≤ big d := by
  unfold innerB at h
  split at h
  · split at h
    · have := innerW_big h
      simp only [big, bigs]; omega
    · cases h
  · cases h
def formF : Nat → D → Bool
  | 0, _ => false
  | n + 1, d => atomB d || (match innerB d with | some ds => ds.all (formF n) | none => false)
def formB (d : D) : Bool := formF (big d) d
theorem all_congr' {α : Type} {l : List α} {f g : α → Bool} (h : ∀ x ∈ l, f x = g x) : l.all f = l.all g := by
  induction l with
  | nil => rfl
  | cons x r ih => rw [List.all_cons, List.all_cons, h x List.mem_cons_self, ih fun y hy => h y (List.mem_cons_of_mem _ hy)]
theorem formF_succ : ∀ (n : Nat) (d : D), big d ≤ n → formF (n + 1) d = formF n d := by
  intro n
  induction n with
  | zero => intro d h; have := big_pos d; omega
  | succ n ih =>
    intro d h
    conv => lhs; unfold formF
    conv => rhs; unfold formF
    congr 1
    cases hi : innerB d with
    | none => rfl
    | some ds =>
      dsimp only
      have hb := innerB_big hi
      exact all_congr' fun x hx => ih x (by have := bigs_mem hx; omega)
theorem formF_ge {d : D} : ∀ (n : Nat), big d ≤ n → formF n d = formB d := by
  intro n h
  induction n with
  | zero => have := big_pos d; omega
  | succ n ih =>
    by_cases e : big d = n + 1
    · unfold formB; rw [e]
    · rw [formF_succ n d (by omega), ih (by omega)]
theorem formB_eq (d : D) : formB d = (atomB d || (match innerB d with | some ds => ds.all formB | none => false)) := by
  have hp := big_pos d
  obtain ⟨n, hn⟩ : ∃ n, big d = n + 1 := ⟨big d - 1, by omega⟩
  unfold formB
  rw [hn]
  conv => lhs; unfold formF
  congr 1
  cases hi : innerB d with
  | none => rfl
  | some ds =>
    dsimp only
    have hb := innerB_big hi
    exact all_congr' fun x hx => formF_ge n (by have := bigs_mem hx; omega)
/-- a term is told by its pairs -/
theorem termB_tm {d : D} (h : termB d = true) : ∃ c ps, d = tmD c ps ∧ IsTm ps := by
  obtain ⟨c, ds, rfl, h1, h2⟩ := termB_of h
  have key : ∀ ds : List D, (∀ p ∈ ds, pairNZ p = true) → ∃ ps : PL, ds = ps.map pairD ∧ ∀ p ∈ ps, 0 ≤ p.1 ∧ p.2 ≠ 0 := by
    intro ds
    induction ds with
    | nil => intro _; exact ⟨[], rfl, by simp⟩
    | cons x r ih =>
      intro h
      obtain ⟨v, a, rfl, hv, ha⟩ := pairNZ_of (h x List.mem_cons_self)
      obtain ⟨ps, rfl, hps⟩ := ih fun p hp => h p (List.mem_cons_of_mem _ hp)
      exact ⟨(v, a) :: ps, rfl, fun p hp => (List.mem_cons.mp hp).elim (fun e => by rw [e]; exact ⟨hv, ha⟩) (hps p)⟩
  obtain ⟨ps, rfl, hps⟩ := key ds h1
  rw [fst_pairs, ascI_pw] at h2
  exact ⟨c, ps, rfl, h2, fun p hp => (hps p hp).2, fun p hp => (hps p hp).1⟩
theorem atomB_of {d : D} (h : atomB d = true) : ∃ f : Fm, f.isAtom = true ∧ f.d = d ∧ f.Ok := by
  unfold atomB at h
  split at h
  · rename_i w t
    simp only [Bool.and_eq_true, Bool.or_eq_true, decide_eq_true_eq] at h
    obtain ⟨h1, h2⟩ := h
    obtain ⟨c, ps, rfl, ht⟩ := termB_tm h1
    rcases h2 with rfl | rfl
    · exact ⟨.ge c ps, rfl, by rw [Fm.d], .mk ht (by simp [Fm.kids])⟩
    · exact ⟨.eq c ps, rfl, by rw [Fm.d], .mk ht (by simp [Fm.kids])⟩
  · rename_i w m t
    simp only [Bool.and_eq_true, decide_eq_true_eq] at h
    obtain ⟨⟨h1, rfl⟩, h3⟩ := h
    obtain ⟨c, ps, rfl, ht⟩ := termB_tm h1
    exact ⟨.dv m c ps, rfl, by rw [Fm.d], .mk ⟨h3, ht⟩ (by simp [Fm.kids])⟩
  · cases h
theorem isIdx_of {d : D} (h : isIdx d = true) : ∃ i, d = .int i ∧ 0 ≤ i := by
  unfold isIdx at h
  split at h
  · exact ⟨_, rfl, of_decide_eq_true h⟩
  · cases h
/-- the forms of what is no atom -/
theorem innerB_of {d : D} {ds : List D} (h : innerB d = some ds) (k : ∀ x ∈ ds, ∃ f : Fm, f.d = x ∧ f.Ok) : ∃ f : Fm, f.d = d ∧ f.Ok := by
  have map_of : ∀ ds : List D, (∀ x ∈ ds, ∃ f : Fm, f.d = x ∧ f.Ok) → ∃ fs : List Fm, Fm.ds fs = ds ∧ ∀ f ∈ fs, f.Ok := by
    intro ds
    induction ds with
    | nil => intro _; exact ⟨[], by rw [Fm.ds], by simp⟩
    | cons x r ih =>
      intro h
      obtain ⟨f, hf, ok⟩ := h x List.mem_cons_self
      obtain ⟨fs, hfs, oks⟩ := ih fun y hy => h y (List.mem_cons_of_mem _ hy)
      exact ⟨f :: fs, by rw [Fm.ds, hf, hfs], fun g hg => (List.mem_cons.mp hg).elim (fun e => by rw [e]; exact ok) (oks g)⟩
  obtain ⟨fs, hfs, oks⟩ := map_of ds k
  unfold innerB at h
  split at h
  · rename_i w r
    split at h
    · unfold innerW at h
      split at h
      · rename_i hw
        split at h
        · rename_i hr
          subst hr
          rcases hw with rfl | rfl
          · exact ⟨.tru, by rw [Fm.d], .mk trivial (by simp [Fm.kids])⟩
          · exact ⟨.fls, by rw [Fm.d], .mk trivial (by simp [Fm.kids])⟩
        · cases h
      · split at h
        · rename_i hw
          subst hw
          split at h
          · rename_i hr
            cases h
            match fs, hfs, oks with
            | [], hfs, _ => rw [Fm.ds] at hfs; subst hfs; simp at hr
            | [f], hfs, oks => rw [Fm.ds, Fm.ds] at hfs; subst hfs; exact ⟨.not f, by rw [Fm.d], .mk trivial (by simpa [Fm.kids] using oks)⟩
            | _ :: _ :: _, hfs, _ => rw [Fm.ds, Fm.ds] at hfs; subst hfs; simp at hr
          · cases h
        · split at h
          · rename_i hw
            split at h
            · cases h
              subst hfs
              rcases hw with rfl | rfl
              · exact ⟨.and fs, by rw [Fm.d], .mk trivial oks⟩
              · exact ⟨.or fs, by rw [Fm.d], .mk trivial oks⟩
            · cases h
          · split at h
            · rename_i hw
              split at h
              · rename_i hr
                cases h
                match fs, hfs, oks with
                | [], hfs, _ => rw [Fm.ds] at hfs; subst hfs; simp at hr
                | [f], hfs, _ => rw [Fm.ds, Fm.ds] at hfs; subst hfs; simp at hr
                | [f, g], hfs, oks =>
                  rw [Fm.ds, Fm.ds, Fm.ds] at hfs; subst hfs
                  rcases hw with rfl | rfl
                  · exact ⟨.imp f g, by rw [Fm.d], .mk trivial oks⟩
                  · exact ⟨.iff f g, by rw [Fm.d], .mk trivial oks⟩
                | _ :: _ :: _ :: _, hfs, _ => rw [Fm.ds, Fm.ds, Fm.ds] at hfs; subst hfs; simp at hr
              · cases h
            · split at h
              · rename_i hw
                split at h
                · split at h
                  · rename_i v f hv
                    cases h
                    obtain ⟨i, rfl, hi⟩ := isIdx_of hv
                    match fs, hfs, oks with
                    | [], hfs, _ => rw [Fm.ds] at hfs; cases hfs
                    | [g], hfs, oks =>
                      rw [Fm.ds, Fm.ds] at hfs
                      cases hfs
                      rcases hw with rfl | rfl
                      · exact ⟨.ex i g, by rw [Fm.d], .mk hi oks⟩
                      · exact ⟨.all i g, by rw [Fm.d], .mk hi oks⟩
                    | _ :: _ :: _, hfs, _ => rw [Fm.ds, Fm.ds] at hfs; cases hfs
                  · cases h
                · cases h
              · cases h
    · cases h
  · cases h
/-- what is judged a formula is one -/
theorem formB_of : ∀ (n : Nat) {d : D}, big d ≤ n → formB d = true → ∃ f : Fm, f.d = d ∧ f.Ok := by
  intro n
  induction n with
  | zero => intro d h; have := big_pos d; omega
  | succ n ih =>
    intro d h hf
    rw [formB_eq] at hf
    rcases Bool.or_eq_true_iff.mp hf with ha | hi
    · obtain ⟨f, _, e, ok⟩ := atomB_of ha; exact ⟨f, e, ok⟩
    · cases q : innerB d with
      | none => rw [q] at hi; cases hi
      | some ds =>
        rw [q] at hi
        have hb := innerB_big q
        exact innerB_of q fun x hx => ih (by have := bigs_mem hx; omega) (List.all_eq_true.mp hi x hx)
end Py

/-! comprehensions of two clauses, in plain words; what formulas hold -/
namespace Py
open PySem PySem.Spec PyProof.Rows L2
theorem lcL_plain {h0 : List O} {t : Tg} {vs : List Nat} {fe : En → List O → R U} {σ : En} (g : U → D) : ∀ (us : List U) (acc : List D), (∀ u ∈ us, ∃ σ1, asg t u (wipeE σ vs) = some σ1 ∧ ∀ acc, fe σ1 (h0 ++ [.lst acc]) = .ok (.d (g u)) (h0 ++ [.lst acc])) → acc.length + us.length ≤ 10000000 →
    lcL t vs (fun _ h => .ok true h) fe h0.length σ us (h0 ++ [.lst acc]) = .ok () (h0 ++ [.lst (acc ++ us.map g)]) := by
  intro us acc hs hl
  have := lcL_state (S := Unit) (emb := fun _ => h0) (n := h0.length) (fun _ => rfl) (I := fun _ => True) (t := t) (vs := vs) (ft := fun _ h => .ok true h) (fe := fe) (σ := σ) (p := fun _ _ => true) (g := fun u _ => (g u, ())) us () acc trivial (fun u hu s _ => by
    obtain ⟨σ1, a, b⟩ := hs u hu
    exact ⟨σ1, a, trivial, fun acc => ⟨rfl, fun _ => b acc⟩⟩) hl
  rw [this, mapS_pure, List.filter_eq_self.mpr (fun _ _ => rfl)]
theorem lcGo2_plain {α : Type} {h0 : List O} {t t1 : Tg} {vs vs1 : List Nat} {fi1 : En → List O → R Src} {fe : En → List O → R U} {σ : En} (f : α → U) (ws : α → List U) (g : α → U → D) : ∀ (us : List α) (pre : List U) (acc : List D),
    (∀ u ∈ us, ∃ σ1, asg t (f u) (wipeE σ vs) = some σ1 ∧ (∀ acc, fi1 σ1 (h0 ++ [.lst acc]) = .ok (.fix (ws u)) (h0 ++ [.lst acc])) ∧ ∀ w ∈ ws u, ∃ σ2, asg t1 w (wipeE σ1 vs1) = some σ2 ∧ ∀ acc, fe σ2 (h0 ++ [.lst acc]) = .ok (.d (g u w)) (h0 ++ [.lst acc])) →
    acc.length + (us.map fun u => (ws u).length).sum ≤ 10000000 →
    lcGo2 (.fix (pre ++ us.map f)) t vs (fun _ h => .ok true h) fi1 t1 vs1 (fun _ h => .ok true h) fe h0.length (us.length + 1) pre.length σ (h0 ++ [.lst acc]) = .ok () (h0 ++ [.lst (acc ++ us.flatMap fun u => (ws u).map (g u))])
  | [], pre, acc, _, _ => by
    unfold lcGo2 Src.at_
    simp
  | u :: r, pre, acc, hs, hl => by
    obtain ⟨σ1, e1, e2, e3⟩ := hs u List.mem_cons_self
    rw [List.length_cons, List.map_cons]
    unfold lcGo2
    have hat : Src.at_ (.fix (pre ++ f u :: r.map f)) pre.length (h0 ++ [.lst acc]) = some (some (f u)) := by
      show some (pre ++ f u :: r.map f)[pre.length]? = some (some (f u))
      rw [List.getElem?_append_right (Nat.le_refl _), Nat.sub_self]; rfl
    rw [hat]
    dsimp only
    rw [e1]
    dsimp only
    rw [noErr_ok, R.bind_ok, if_pos rfl, e2 acc, noErr_ok, R.bind_ok, if_pos (by simp)]
    rw [List.map_cons, List.sum_cons] at hl
    have inn := lcGo_fix t1 vs1 (fun _ h => .ok true h) fe h0.length σ1 (ws u) [] (h0 ++ [.lst acc])
    rw [List.nil_append, List.length_nil] at inn
    show R.bind (lcGo (.fix (ws u)) t1 vs1 (fun _ h => .ok true h) fe h0.length ((ws u).length + 1) 0 σ1 (h0 ++ [.lst acc])) _ = _
    rw [inn, lcL_plain (g u) (ws u) acc e3 (by omega), R.bind_ok]
    have ih := lcGo2_plain (h0 := h0) (t := t) (t1 := t1) (vs := vs) (vs1 := vs1) (fi1 := fi1) (fe := fe) (σ := σ) f ws g r (pre ++ [f u]) (acc ++ (ws u).map (g u)) (fun w hw => hs w (List.mem_cons_of_mem _ hw)) (by rw [List.length_append, List.length_map]; omega)
    rw [List.append_assoc, List.singleton_append, List.length_append, List.length_singleton] at ih
    rw [ih, List.flatMap_cons, List.append_assoc]
/-- THE RULE: two clauses without tests, whose parts leave the heap alone -/
theorem ev_lc2 {α : Type} {G : Gt} {C : Str → List U → List O → R U} {m : Bool} {t t1 : Tg} {w w1 : Wk} {e : Ex} {σ : En} {h h1 : List O} (us : List α) (f : α → U) (ws : α → List U) (g : α → U → D) (q : evw G C w σ h = .ok (.fix (us.map f)) h1)
    (hs : ∀ u ∈ us, ∃ σ1, asg t (f u) (wipeE σ (t.slots ++ t1.slots)) = some σ1 ∧ (∀ acc, evw G C w1 σ1 (h1 ++ [.lst acc]) = .ok (.fix (ws u)) (h1 ++ [.lst acc])) ∧ ∀ x ∈ ws u, ∃ σ2, asg t1 x (wipeE σ1 t1.slots) = some σ2 ∧ ∀ acc, ev G C e σ2 (h1 ++ [.lst acc]) = .ok (.d (g u x)) (h1 ++ [.lst acc]))
    (hl : (us.map fun u => (ws u).length).sum ≤ 10000000) : evLc2 m t (t.slots ++ t1.slots) (evw G C w) (evc G C .no) t1 t1.slots (evw G C w1) (evc G C .no) (ev G C e) σ h = mkL m (us.flatMap fun u => (ws u).map (g u)) h1 := by
  show evLc2 m t (t.slots ++ t1.slots) (evw G C w) (fun _ h => .ok true h) t1 t1.slots (evw G C w1) (fun _ h => .ok true h) (ev G C e) σ h = _
  unfold evLc2
  rw [q, R.bind_ok]
  have := lcGo2_plain (h0 := h1) (t := t) (t1 := t1) (vs := t.slots ++ t1.slots) (vs1 := t1.slots) (fi1 := evw G C w1) (fe := ev G C e) (σ := σ) f ws g us [] [] hs (by simpa using hl)
  rw [List.nil_append, List.length_nil, List.nil_append] at this
  have et : Src.top (.fix (us.map f)) = us.length + 1 := by
    show (us.map f).length + 1 = _
    rw [List.length_map]
  rw [et, this, R.bind_ok]
  exact lcFin_app
/-- .. whose items are values -/
theorem ev_lc2D {α : Type} {G : Gt} {C : Str → List U → List O → R U} {m : Bool} {t t1 : Tg} {w w1 : Wk} {e : Ex} {σ : En} {h h1 : List O} (us : List α) (f : α → D) (ws : α → List D) (q : evw G C w σ h = .ok (.fix (us.map fun a => .d (f a))) h1)
    (hs : ∀ u ∈ us, ∃ σ1, asg t (.d (f u)) (wipeE σ (t.slots ++ t1.slots)) = some σ1 ∧ (∀ acc, evw G C w1 σ1 (h1 ++ [.lst acc]) = .ok (.fix ((ws u).map .d)) (h1 ++ [.lst acc])) ∧ ∀ x ∈ ws u, ∃ σ2, asg t1 (.d x) (wipeE σ1 t1.slots) = some σ2 ∧ ∀ acc, ev G C e σ2 (h1 ++ [.lst acc]) = .ok (.d x) (h1 ++ [.lst acc]))
    (hl : (us.map fun u => (ws u).length).sum ≤ 10000000) : evLc2 m t (t.slots ++ t1.slots) (evw G C w) (evc G C .no) t1 t1.slots (evw G C w1) (evc G C .no) (ev G C e) σ h = mkL m (us.flatMap ws) h1 := by
  rw [ev_lc2 us (fun a => U.d (f a)) (fun a => (ws a).map U.d) (fun _ u => match u with | .d x => x | _ => .none) q (fun u hu => by
    obtain ⟨σ1, a, b, c⟩ := hs u hu
    refine ⟨σ1, a, b, fun x hx => ?_⟩
    obtain ⟨y, hy, rfl⟩ := List.mem_map.mp hx
    exact c y hy) (by simpa using hl)]
  congr 1
  congr 1
  funext a
  rw [List.map_map]
  exact List.map_id _
/-! ### the atoms of a formula, its names -/
mutual
def Fm.atoms : Fm → List Fm
  | .tru => []
  | .fls => []
  | .ge c ps => [.ge c ps]
  | .eq c ps => [.eq c ps]
  | .dv m c ps => [.dv m c ps]
  | .not f => f.atoms
  | .and fs => Fm.atomss fs
  | .or fs => Fm.atomss fs
  | .imp f g => f.atoms ++ g.atoms
  | .iff f g => f.atoms ++ g.atoms
  | .ex _ f => f.atoms
  | .all _ f => f.atoms
def Fm.atomss : List Fm → List Fm
  | [] => []
  | f :: r => f.atoms ++ Fm.atomss r
end
theorem Fm.atomss_eq : ∀ fs : List Fm, Fm.atomss fs = fs.flatMap Fm.atoms
  | [] => by rw [Fm.atomss]; rfl
  | f :: r => by rw [Fm.atomss, Fm.atomss_eq r]; rfl
theorem Fm.atoms_kids (f : Fm) (h : f.isAtom = false) : f.atoms = f.kids.flatMap Fm.atoms := by
  cases f <;> first | (cases h; done) | simp [Fm.atoms, Fm.kids, Fm.atomss_eq]
theorem Fm.atoms_self (f : Fm) (h : f.isAtom = true) : f.atoms = [f] := by
  cases f <;> first | (cases h; done) | simp [Fm.atoms]
theorem Fm.atoms_are {f a : Fm} (h : a ∈ f.atoms) : a.isAtom = true ∧ a.size ≤ f.size ∧ (f.Ok → a.Ok) := by
  revert h
  induction f using Fm.ind with
  | h f ih =>
    intro h
    cases hf : f.isAtom with
    | true => rw [Fm.atoms_self f hf, List.mem_singleton] at h; subst h; exact ⟨hf, Nat.le_refl _, id⟩
    | false =>
      rw [Fm.atoms_kids f hf, List.mem_flatMap] at h
      obtain ⟨g, hg, ha⟩ := h
      obtain ⟨h1, h2, h3⟩ := ih g hg ha
      exact ⟨h1, Nat.le_trans h2 (Nat.le_of_lt (Fm.size_kid hg)), fun ok => h3 (ok.kid hg)⟩
theorem Fm.atoms_len (f : Fm) : f.atoms.length ≤ f.size := by
  induction f using Fm.ind with
  | h f ih =>
    cases hf : f.isAtom with
    | true => rw [Fm.atoms_self f hf]; exact f.size_pos
    | false =>
      rw [Fm.atoms_kids f hf, Fm.size_kids, List.length_flatMap]
      have : ∀ l : List Fm, (∀ g ∈ l, g.atoms.length ≤ g.size) → (l.map fun g => g.atoms.length).sum ≤ (l.map Fm.size).sum := by
        intro l
        induction l with
        | nil => intro _; simp
        | cons x r ih2 =>
          intro h
          rw [List.map_cons, List.map_cons, List.sum_cons, List.sum_cons]
          have := h x List.mem_cons_self
          have := ih2 fun g hg => h g (List.mem_cons_of_mem _ hg)
          omega
      have := this f.kids ih
      omega
/-- the pairs of an atom -/
def Fm.pairs : Fm → PL
  | .ge _ ps => ps
  | .eq _ ps => ps
  | .dv _ _ ps => ps
  | _ => []
def Fm.const : Fm → Int
  | .ge c _ => c
  | .eq c _ => c
  | .dv _ c _ => c
  | _ => 0
mutual
def Fm.bound : Fm → List Int
  | .not f => f.bound
  | .and fs => Fm.bounds fs
  | .or fs => Fm.bounds fs
  | .imp f g => f.bound ++ g.bound
  | .iff f g => f.bound ++ g.bound
  | .ex v f => v :: f.bound
  | .all v f => v :: f.bound
  | .tru => []
  | .fls => []
  | .ge _ _ => []
  | .eq _ _ => []
  | .dv _ _ _ => []
def Fm.bounds : List Fm → List Int
  | [] => []
  | f :: r => f.bound ++ Fm.bounds r
end
theorem Fm.bounds_eq : ∀ fs : List Fm, Fm.bounds fs = fs.flatMap Fm.bound
  | [] => by rw [Fm.bounds]; rfl
  | f :: r => by rw [Fm.bounds, Fm.bounds_eq r]; rfl
def Fm.ownB : Fm → List Int
  | .ex v _ => [v]
  | .all v _ => [v]
  | _ => []
theorem Fm.bound_kids (f : Fm) : f.bound = f.ownB ++ f.kids.flatMap Fm.bound := by
  cases f <;> simp [Fm.bound, Fm.kids, Fm.bounds_eq, Fm.ownB]
theorem Fm.bound_len (f : Fm) : f.bound.length ≤ f.size := by
  induction f using Fm.ind with
  | h f ih =>
    rw [Fm.bound_kids, Fm.size_kids, List.length_append, List.length_flatMap]
    have : ∀ l : List Fm, (∀ g ∈ l, g.bound.length ≤ g.size) → (l.map fun g => g.bound.length).sum ≤ (l.map Fm.size).sum := by
      intro l
      induction l with
      | nil => intro _; simp
      | cons x r ih2 =>
        intro h
        rw [List.map_cons, List.map_cons, List.sum_cons, List.sum_cons]
        have := h x List.mem_cons_self
        have := ih2 fun g hg => h g (List.mem_cons_of_mem _ hg)
        omega
    have := this f.kids ih
    have : f.ownB.length ≤ 1 := by cases f <;> simp [Fm.ownB]
    omega
/-- all variables, each place once -/
def Fm.vars (f : Fm) : List Int := f.atoms.flatMap (fun a => a.pairs.map (·.1)) ++ f.bound
def Fm.names (f : Fm) : List Int := ssI f.vars
def Fm.smallA : Fm → Bool
  | .dv m c ps => !decide (60 < m) && decide (c.natAbs ≤ 1000) && ps.all fun p => decide (p.2.natAbs ≤ 1000)
  | .ge c ps => decide (c.natAbs ≤ 1000) && ps.all fun p => decide (p.2.natAbs ≤ 1000)
  | .eq c ps => decide (c.natAbs ≤ 1000) && ps.all fun p => decide (p.2.natAbs ≤ 1000)
  | _ => true
def Fm.small (f : Fm) : Bool := decide (f.size ≤ 60) && decide (f.deep ≤ 12) && (f.names.all fun v => decide (v ≤ 9)) && f.atoms.all Fm.smallA
mutual
def Fm.quant : Fm → Bool
  | .not f => f.quant
  | .and fs => Fm.quants fs
  | .or fs => Fm.quants fs
  | .imp f g => f.quant || g.quant
  | .iff f g => f.quant || g.quant
  | .ex _ _ => true
  | .all _ _ => true
  | .tru => false
  | .fls => false
  | .ge _ _ => false
  | .eq _ _ => false
  | .dv _ _ _ => false
def Fm.quants : List Fm → Bool
  | [] => false
  | f :: r => f.quant || Fm.quants r
end
theorem Fm.quants_eq : ∀ fs : List Fm, Fm.quants fs = fs.any Fm.quant
  | [] => by rw [Fm.quants]; rfl
  | f :: r => by rw [Fm.quants, Fm.quants_eq r]; rfl
def Fm.isQ : Fm → Bool
  | .ex _ _ => true
  | .all _ _ => true
  | _ => false
theorem Fm.quant_kids (f : Fm) : f.quant = (f.isQ || f.kids.any Fm.quant) := by
  cases f <;> simp [Fm.quant, Fm.kids, Fm.quants_eq, Fm.isQ]
/-- few numbers ascend between two ends -/
theorem asc_len : ∀ (l : List Int) (a : Int) (n : Nat), l.Pairwise (· < ·) → (∀ x ∈ l, a ≤ x ∧ x < a + n) → l.length ≤ n
  | [], _, _, _, _ => Nat.zero_le _
  | x :: r, a, n, h, hb => by
    obtain ⟨h1, h2⟩ := List.pairwise_cons.mp h
    have hx := hb x List.mem_cons_self
    obtain ⟨m, hm⟩ : ∃ m : Nat, (m : Int) = a + n - (x + 1) := ⟨(a + n - (x + 1)).toNat, by omega⟩
    have := asc_len r (x + 1) m h2 fun y hy => by
      have := h1 y hy
      have := hb y (List.mem_cons_of_mem _ hy)
      omega
    rw [List.length_cons]
    omega
theorem ssI_len {l : List Int} (h : ∀ x ∈ l, 0 ≤ x ∧ x < 63) : (ssI l).length < 64 := by
  have := asc_len (ssI l) 0 63 (ssI_asc l) fun x hx => by
    have := h x ((ssI_mem x l).mp hx)
    omega
  omega
end Py

namespace K01
open PySem PySem.Spec PyProof.Rows L2 Py
def top (i : Nat) : Stmt := PySem.Challenge.pw_wholesworn_k01_terms_reckoned.main.body.getD i (.Pass ⟨0, 0, 0, 0⟩)
def b_is_int : Ss :=
 (.cons (.ret (.and (.bi .isi false (.cons (.var 0) (.cons (.ty "int" "int") .nil))) (.one (.not (.bi .isi false (.cons (.var 0) (.cons (.ty "bool" "bool") .nil)))))))
 .nil)
def d_is_int : Df := ⟨([("thing" : Str)] : List Str), ([("thing" : Str)] : List Str), false, b_is_int⟩
def b_is_index : Ss :=
 (.cons (.ret (.and (.call "is_int" [0] (.cons (.var 0) .nil) .nil) (.one (.cmp .ge (.var 0) (.int 0)))))
 .nil)
def d_is_index : Df := ⟨([("thing" : Str)] : List Str), ([("thing" : Str)] : List Str), false, b_is_index⟩
def b_is_row : Ss :=
 (.cons (.ret (.and (.bi .isi false (.cons (.var 0) (.cons (.ty "tuple" "tuple") .nil))) (.one (.chn .le .le (.var 1) (.bi .len false (.cons (.var 0) .nil)) (.var 2)))))
 .nil)
def d_is_row : Df := ⟨([("thing" : Str), ("fewest" : Str), ("most" : Str)] : List Str), ([("thing" : Str), ("fewest" : Str), ("most" : Str)] : List Str), false, b_is_row⟩
def c_is_ascending_0 : Ex := .lc false (.tup (.cons (.nm 1) (.cons (.nm 2) .nil))) (.zip (.cons (.var 0) (.cons (.sl false (.var 0) (.yes (.int 1)) .no) .nil))) .no (.cmp .lt (.var 1) (.var 2))
def b_is_ascending : Ss :=
 (.cons (.ret (.bi .all false (.cons c_is_ascending_0 .nil)))
 .nil)
def d_is_ascending : Df := ⟨([("row" : Str)] : List Str), ([("row" : Str), ("one" : Str), ("other" : Str)] : List Str), false, b_is_ascending⟩
def c_are_ints_0 : Ex := .lc false (.nm 1) (.seq (.var 0)) .no (.call "is_int" [0] (.cons (.var 1) .nil) .nil)
def b_are_ints : Ss :=
 (.cons (.ret (.and (.bi .isi false (.cons (.var 0) (.cons (.ty "tuple" "tuple") .nil))) (.one (.bi .all false (.cons c_are_ints_0 .nil)))))
 .nil)
def d_are_ints : Df := ⟨([("thing" : Str)] : List Str), ([("thing" : Str), ("entry" : Str)] : List Str), false, b_are_ints⟩
def b_is_pair : Ss :=
 (.cons (.ret (.and (.call "is_row" [0, 1, 2] (.cons (.var 0) (.cons (.int 2) (.cons (.int 2) .nil))) .nil) (.and (.call "is_index" [0] (.cons (.ix (.var 0) (.int 0)) .nil) .nil) (.one (.call "is_int" [0] (.cons (.ix (.var 0) (.int 1)) .nil) .nil)))))
 .nil)
def d_is_pair : Df := ⟨([("thing" : Str)] : List Str), ([("thing" : Str)] : List Str), false, b_is_pair⟩
def c_is_term_0 : Ex := .lc false (.nm 1) (.seq (.ix (.var 0) (.int 1))) .no (.ix (.var 1) (.int 0))
def c_is_term_1 : Ex := .lc false (.nm 1) (.seq (.ix (.var 0) (.int 1))) .no (.and (.call "is_pair" [0] (.cons (.var 1) .nil) .nil) (.one (.cmp .ne (.ix (.var 1) (.int 1)) (.int 0))))
def b_is_term : Ss :=
 (.cons (.ife (.or (.not (.call "is_row" [0, 1, 2] (.cons (.var 0) (.cons (.int 2) (.cons (.int 2) .nil))) .nil)) (.or (.not (.call "is_int" [0] (.cons (.ix (.var 0) (.int 0)) .nil) .nil)) (.one (.not (.bi .isi false (.cons (.ix (.var 0) (.int 1)) (.cons (.ty "tuple" "tuple") .nil))))))) (.cons (.ret (.bl false))
 .nil) .nil)
 (.cons (.ife (.not (.bi .all false (.cons c_is_term_1 .nil))) (.cons (.ret (.bl false))
 .nil) .nil)
 (.cons (.ret (.call "is_ascending" [0] (.cons c_is_term_0 .nil) .nil))
 .nil)))
def d_is_term : Df := ⟨([("thing" : Str)] : List Str), ([("thing" : Str), ("pair" : Str)] : List Str), false, b_is_term⟩
def c_collected_0 : Ex := .lc false (.nm 5) (.its (.var 2)) (.yes (.cmp .ne (.ix (.var 5) (.int 1)) (.int 0))) (.var 5)
def l_collected_0 : Ss := (.cons (.sub (.var 2) (.var 3) (.bin .add false (.get2 (.var 2) (.var 3) (.int 0)) (.var 4)))
 .nil)
def f_collected_0 : Sm := .fo (.tup (.cons (.nm 3) (.cons (.nm 4) .nil))) (.seq (.var 1)) l_collected_0
def b_collected : Ss :=
 (.cons (.set 2 .dnew)
 (.cons f_collected_0
 (.cons (.ret (.tup (.cons (.var 0) (.cons (.bi .tuple false (.cons (.bi .sorted false (.cons (.lock 2 c_collected_0) .nil)) .nil)) .nil))))
 .nil)))
def d_collected : Df := ⟨([("constant" : Str), ("pairs" : Str)] : List Str), ([("constant" : Str), ("pairs" : Str), ("amounts" : Str), ("variable" : Str), ("amount" : Str), ("pair" : Str)] : List Str), false, b_collected⟩
def b_plus : Ss :=
 (.cons (.ret (.call "collected" [0, 1] (.cons (.bin .add false (.ix (.var 0) (.int 0)) (.ix (.var 1) (.int 0))) (.cons (.bin .add false (.ix (.var 0) (.int 1)) (.ix (.var 1) (.int 1))) .nil)) .nil))
 .nil)
def d_plus : Df := ⟨([("term" : Str), ("other" : Str)] : List Str), ([("term" : Str), ("other" : Str)] : List Str), false, b_plus⟩
def c_times_term_0 : Ex := .lc false (.tup (.cons (.nm 2) (.cons (.nm 3) .nil))) (.seq (.ix (.var 0) (.int 1))) .no (.tup (.cons (.var 2) (.cons (.bin .mul false (.var 3) (.var 1)) .nil)))
def b_times_term : Ss :=
 (.cons (.ret (.call "collected" [0, 1] (.cons (.bin .mul false (.ix (.var 0) (.int 0)) (.var 1)) (.cons c_times_term_0 .nil)) .nil))
 .nil)
def d_times_term : Df := ⟨([("term" : Str), ("factor" : Str)] : List Str), ([("term" : Str), ("factor" : Str), ("variable" : Str), ("amount" : Str)] : List Str), false, b_times_term⟩
def c_coefficient_0 : Ex := .lc false (.tup (.cons (.nm 2) (.cons (.nm 3) .nil))) (.seq (.ix (.var 0) (.int 1))) (.yes (.cmp .eq (.var 2) (.var 1))) (.var 3)
def b_coefficient : Ss :=
 (.cons (.ret (.bi .sum false (.cons c_coefficient_0 .nil)))
 .nil)
def d_coefficient : Df := ⟨([("term" : Str), ("variable" : Str)] : List Str), ([("term" : Str), ("variable" : Str), ("own" : Str), ("amount" : Str)] : List Str), false, b_coefficient⟩
def c_without_0 : Ex := .lc false (.nm 2) (.seq (.ix (.var 0) (.int 1))) (.yes (.cmp .ne (.ix (.var 2) (.int 0)) (.var 1))) (.var 2)
def b_without : Ss :=
 (.cons (.ret (.tup (.cons (.ix (.var 0) (.int 0)) (.cons (.bi .tuple false (.cons c_without_0 .nil)) .nil))))
 .nil)
def d_without : Df := ⟨([("term" : Str), ("variable" : Str)] : List Str), ([("term" : Str), ("variable" : Str), ("pair" : Str)] : List Str), false, b_without⟩
def c_value_at_0 : Ex := .lc false (.tup (.cons (.nm 2) (.cons (.nm 3) .nil))) (.seq (.ix (.var 0) (.int 1))) .no (.bin .mul false (.var 3) (.ix (.var 1) (.var 2)))
def b_value_at : Ss :=
 (.cons (.ret (.bin .add false (.ix (.var 0) (.int 0)) (.bi .sum false (.cons c_value_at_0 .nil))))
 .nil)
def d_value_at : Df := ⟨([("term" : Str), ("row" : Str)] : List Str), ([("term" : Str), ("row" : Str), ("variable" : Str), ("amount" : Str)] : List Str), false, b_value_at⟩
def c_variables_of_0 : Ex := .lc false (.tup (.cons (.nm 1) (.cons (.nm 2) .nil))) (.seq (.ix (.var 0) (.int 1))) .no (.var 1)
def b_variables_of : Ss :=
 (.cons (.ret c_variables_of_0)
 .nil)
def d_variables_of : Df := ⟨([("term" : Str)] : List Str), ([("term" : Str), ("variable" : Str), ("amount" : Str)] : List Str), false, b_variables_of⟩
def b_put_for : Ss :=
 (.cons (.set 3 (.call "coefficient" [0, 1] (.cons (.var 0) (.cons (.var 1) .nil)) .nil))
 (.cons (.ret (.ife (.cmp .eq (.var 3) (.int 0)) (.var 0) (.call "plus" [0, 1] (.cons (.call "without" [0, 1] (.cons (.var 0) (.cons (.var 1) .nil)) .nil) (.cons (.call "times_term" [0, 1] (.cons (.var 2) (.cons (.var 3) .nil)) .nil) .nil)) .nil)))
 .nil))
def d_put_for : Df := ⟨([("term" : Str), ("variable" : Str), ("other" : Str)] : List Str), ([("term" : Str), ("variable" : Str), ("other" : Str), ("amount" : Str)] : List Str), false, b_put_for⟩
def b_need_term : Ss :=
 (.cons (.ife (.not (.call "is_term" [0] (.cons (.var 0) .nil) .nil)) (.cons (.rais "BadTerm")
 .nil) .nil)
 .nil)
def d_need_term : Df := ⟨([("term" : Str)] : List Str), ([("term" : Str)] : List Str), false, b_need_term⟩
def b_need_other : Ss :=
 (.cons (.ife (.not (.call "is_term" [0] (.cons (.var 0) .nil) .nil)) (.cons (.rais "BadOther")
 .nil) .nil)
 .nil)
def d_need_other : Df := ⟨([("other" : Str)] : List Str), ([("other" : Str)] : List Str), false, b_need_other⟩
def b_need_variable : Ss :=
 (.cons (.ife (.not (.call "is_index" [0] (.cons (.var 0) .nil) .nil)) (.cons (.rais "BadVariable")
 .nil) .nil)
 .nil)
def d_need_variable : Df := ⟨([("variable" : Str)] : List Str), ([("variable" : Str)] : List Str), false, b_need_variable⟩
def b_need_row : Ss :=
 (.cons (.ife (.or (.not (.call "are_ints" [0] (.cons (.var 1) .nil) .nil)) (.one (.and (.cmp .gt (.bi .len false (.cons (.var 0) .nil)) (.int 0)) (.one (.cmp .ge (.ix (.var 0) (.neg (.int 1))) (.bi .len false (.cons (.var 1) .nil))))))) (.cons (.rais "BadRow")
 .nil) .nil)
 .nil)
def d_need_row : Df := ⟨([("variables" : Str), ("row" : Str)] : List Str), ([("variables" : Str), ("row" : Str)] : List Str), false, b_need_row⟩
def c_term_of_0 : Ex := .lc false (.nm 2) (.seq (.var 1)) .no (.call "is_pair" [0] (.cons (.var 2) .nil) .nil)
def b_term_of : Ss :=
 (.cons (.ife (.not (.call "is_int" [0] (.cons (.var 0) .nil) .nil)) (.cons (.rais "BadConstant")
 .nil) .nil)
 (.cons (.ife (.or (.not (.bi .isi false (.cons (.var 1) (.cons (.ty "tuple" "tuple") .nil)))) (.one (.not (.bi .all false (.cons c_term_of_0 .nil))))) (.cons (.rais "BadPairs")
 .nil) .nil)
 (.cons (.ret (.call "collected" [0, 1] (.cons (.var 0) (.cons (.var 1) .nil)) .nil))
 .nil)))
def d_term_of : Df := ⟨([("constant" : Str), ("pairs" : Str)] : List Str), ([("constant" : Str), ("pairs" : Str), ("pair" : Str)] : List Str), false, b_term_of⟩
def b_value : Ss :=
 (.cons (.drop (.call "need_term" [0] (.cons (.var 0) .nil) .nil))
 (.cons (.drop (.call "need_row" [0, 1] (.cons (.call "variables_of" [0] (.cons (.var 0) .nil) .nil) (.cons (.var 1) .nil)) .nil))
 (.cons (.ret (.call "value_at" [0, 1] (.cons (.var 0) (.cons (.var 1) .nil)) .nil))
 .nil)))
def d_value : Df := ⟨([("term" : Str), ("row" : Str)] : List Str), ([("term" : Str), ("row" : Str)] : List Str), false, b_value⟩
def b_add : Ss :=
 (.cons (.drop (.call "need_term" [0] (.cons (.var 0) .nil) .nil))
 (.cons (.drop (.call "need_other" [0] (.cons (.var 1) .nil) .nil))
 (.cons (.ret (.call "plus" [0, 1] (.cons (.var 0) (.cons (.var 1) .nil)) .nil))
 .nil)))
def d_add : Df := ⟨([("term" : Str), ("other" : Str)] : List Str), ([("term" : Str), ("other" : Str)] : List Str), false, b_add⟩
def b_times : Ss :=
 (.cons (.drop (.call "need_term" [0] (.cons (.var 0) .nil) .nil))
 (.cons (.ife (.not (.call "is_int" [0] (.cons (.var 1) .nil) .nil)) (.cons (.rais "BadNumber")
 .nil) .nil)
 (.cons (.ret (.call "times_term" [0, 1] (.cons (.var 0) (.cons (.var 1) .nil)) .nil))
 .nil)))
def d_times : Df := ⟨([("term" : Str), ("number" : Str)] : List Str), ([("term" : Str), ("number" : Str)] : List Str), false, b_times⟩
def b_put : Ss :=
 (.cons (.drop (.call "need_term" [0] (.cons (.var 0) .nil) .nil))
 (.cons (.drop (.call "need_variable" [0] (.cons (.var 1) .nil) .nil))
 (.cons (.drop (.call "need_other" [0] (.cons (.var 2) .nil) .nil))
 (.cons (.ret (.call "put_for" [0, 1, 2] (.cons (.var 0) (.cons (.var 1) (.cons (.var 2) .nil))) .nil))
 .nil))))
def d_put : Df := ⟨([("term" : Str), ("variable" : Str), ("other" : Str)] : List Str), ([("term" : Str), ("variable" : Str), ("other" : Str)] : List Str), false, b_put⟩
def b__law_bag : Ss :=
 (.cons (.ret (.lst true (.cons (.bi .list false (.cons (.var 0) .nil)) (.cons (.int 0) (.cons (.int 0) (.cons (.int 7) .nil))))))
 .nil)
def d__law_bag : Df := ⟨([("script" : Str)] : List Str), ([("script" : Str)] : List Str), true, b__law_bag⟩
def b__law_pick : Ss :=
 (.cons (.ife (.cmp .lt (.ix (.var 0) (.int 2)) (.var 1)) (.cons (.set 3 (.ix (.var 0) (.int 1)))
 (.cons (.set 4 (.ife (.cmp .lt (.var 3) (.bi .len false (.cons (.ix (.var 0) (.int 0)) .nil))) (.ix (.ix (.var 0) (.int 0)) (.var 3)) (.bin .add false (.bin .fdiv false (.ix (.var 0) (.int 3)) (.int 3)) (.bin .mul false (.int 77003) (.var 3)))))
 (.cons (.set 4 (.ife (.cmp .ge (.var 4) (.int 0)) (.bin .mul false (.int 2) (.var 4)) (.bin .sub false (.bin .mul false (.neg (.int 2)) (.var 4)) (.int 1))))
 (.cons (.ife (.cmp .lt (.var 4) (.bin .pow false (.int 10) (.int 18))) (.cons (.set 4 (.bin .mul false (.bin .add false (.bin .add false (.bin .mul false (.var 4) (.int 1103515249)) (.bin .mul false (.int 12820163) (.var 3))) (.int 2147480009)) (.bin .add false (.bin .add false (.var 4) (.int 86028157)) (.var 3))))
 (.cons (.set 4 (.bin .add false (.bin .fdiv false (.bin .mul false (.var 4) (.var 4)) (.int 4093)) (.bin .mul false (.var 4) (.int 6700417))))
 .nil)) .nil)
 (.cons (.sub (.var 0) (.int 1) (.bin .add false (.var 3) (.int 1)))
 (.cons (.sub (.var 0) (.int 2) (.var 4))
 (.cons (.sub (.var 0) (.int 3) (.bin .mod false (.bi .int false (.cons (.bin .add false (.bin .mul false (.ix (.var 0) (.int 3)) (.int 40692)) (.var 4)) .nil)) (.int 2305843009213693951)))
 .nil))))))) .nil)
 (.cons (.set 2 (.bin .mod false (.bi .int false (.cons (.ix (.var 0) (.int 2)) .nil)) (.var 1)))
 (.cons (.sub (.var 0) (.int 2) (.bin .fdiv false (.ix (.var 0) (.int 2)) (.var 1)))
 (.cons (.ret (.var 2))
 .nil))))
def d__law_pick : Df := ⟨([("bag" : Str), ("many" : Str)] : List Str), ([("bag" : Str), ("many" : Str), ("got" : Str), ("at" : Str), ("cell" : Str)] : List Str), false, b__law_pick⟩
def c__law_same_0 : Ex := .lc false (.nm 2) (.rng (.cons (.bi .len false (.cons (.var 1) .nil)) .nil)) (.yes (.not (.call "_law_same" [0, 1] (.cons (.ix (.var 0) (.var 2)) (.cons (.ix (.var 1) (.var 2)) .nil)) .nil))) (.var 2)
def b__law_same : Ss :=
 (.cons (.ife (.bi .isi false (.cons (.var 1) (.cons (.ty "tuple" "tuple") .nil))) (.cons (.ife (.or (.not (.bi .isi false (.cons (.var 0) (.cons (.ty "tuple" "tuple") .nil)))) (.one (.cmp .ne (.bi .len false (.cons (.var 0) .nil)) (.bi .len false (.cons (.var 1) .nil))))) (.cons (.ret (.bl false))
 .nil) .nil)
 (.cons (.ret (.cmp .eq c__law_same_0 (.lst false .nil)))
 .nil)) .nil)
 (.cons (.ife (.or (.bi .isi false (.cons (.var 0) (.cons (.ty "tuple" "tuple") .nil))) (.one (.cmp .ne (.bi .isi false (.cons (.var 0) (.cons (.ty "bool" "bool") .nil))) (.bi .isi false (.cons (.var 1) (.cons (.ty "bool" "bool") .nil)))))) (.cons (.ret (.bl false))
 .nil) .nil)
 (.cons (.ret (.and (.cmp .eq (.bi .isi false (.cons (.var 0) (.cons (.ty "str" "str") .nil))) (.bi .isi false (.cons (.var 1) (.cons (.ty "str" "str") .nil)))) (.and (.cmp .eq (.cmp .is_ (.var 0) .non) (.cmp .is_ (.var 1) .non)) (.one (.cmp .eq (.var 0) (.var 1))))))
 .nil)))
def d__law_same : Df := ⟨([("found" : Str), ("due" : Str)] : List Str), ([("found" : Str), ("due" : Str), ("k" : Str)] : List Str), false, b__law_same⟩
def b__law_is_int : Ss :=
 (.cons (.ret (.and (.bi .isi false (.cons (.var 0) (.cons (.ty "int" "int") .nil))) (.one (.not (.bi .isi false (.cons (.var 0) (.cons (.ty "bool" "bool") .nil)))))))
 .nil)
def d__law_is_int : Df := ⟨([("thing" : Str)] : List Str), ([("thing" : Str)] : List Str), false, b__law_is_int⟩
def c__law_made_0 : Ex := .lc false (.nm 3) (.seq (.bi .sorted false (.cons (.var 2) .nil))) (.yes (.cmp .ne (.ix (.var 2) (.var 3)) (.int 0))) (.tup (.cons (.var 3) (.cons (.ix (.var 2) (.var 3)) .nil)))
def l__law_made_0 : Ss := (.cons (.sub (.var 2) (.var 3) (.bin .add false (.get2 (.var 2) (.var 3) (.int 0)) (.var 4)))
 .nil)
def f__law_made_0 : Sm := .fo (.tup (.cons (.nm 3) (.cons (.nm 4) .nil))) (.seq (.var 1)) l__law_made_0
def b__law_made : Ss :=
 (.cons (.set 2 .dnew)
 (.cons f__law_made_0
 (.cons (.ret (.tup (.cons (.var 0) (.cons (.bi .tuple false (.cons c__law_made_0 .nil)) .nil))))
 .nil)))
def d__law_made : Df := ⟨([("constant" : Str), ("pairs" : Str)] : List Str), ([("constant" : Str), ("pairs" : Str), ("net" : Str), ("v" : Str), ("c" : Str)] : List Str), false, b__law_made⟩
def b__law_plus : Ss :=
 (.cons (.ret (.call "_law_made" [0, 1] (.cons (.bin .add false (.ix (.var 0) (.int 0)) (.ix (.var 1) (.int 0))) (.cons (.bin .add false (.ix (.var 0) (.int 1)) (.ix (.var 1) (.int 1))) .nil)) .nil))
 .nil)
def d__law_plus : Df := ⟨([("one" : Str), ("other" : Str)] : List Str), ([("one" : Str), ("other" : Str)] : List Str), false, b__law_plus⟩
def c__law_by_0 : Ex := .lc false (.tup (.cons (.nm 2) (.cons (.nm 3) .nil))) (.seq (.ix (.var 0) (.int 1))) .no (.tup (.cons (.var 2) (.cons (.bin .mul false (.var 3) (.var 1)) .nil)))
def b__law_by : Ss :=
 (.cons (.ret (.call "_law_made" [0, 1] (.cons (.bin .mul false (.ix (.var 0) (.int 0)) (.var 1)) (.cons c__law_by_0 .nil)) .nil))
 .nil)
def d__law_by : Df := ⟨([("term" : Str), ("number" : Str)] : List Str), ([("term" : Str), ("number" : Str), ("v" : Str), ("c" : Str)] : List Str), false, b__law_by⟩
def l__law_put_0 : Ss := (.cons (.ife (.cmp .eq (.var 4) (.var 1)) (.cons (.set 3 (.call "_law_plus" [0, 1] (.cons (.var 3) (.cons (.call "_law_by" [0, 1] (.cons (.var 2) (.cons (.var 5) .nil)) .nil) .nil)) .nil))
 .nil) .nil)
 .nil)
def f__law_put_0 : Sm := .fo (.tup (.cons (.nm 4) (.cons (.nm 5) .nil))) (.seq (.ix (.var 0) (.int 1))) l__law_put_0
def c__law_put_0 : Ex := .lc false (.nm 6) (.seq (.ix (.var 0) (.int 1))) (.yes (.cmp .ne (.ix (.var 6) (.int 0)) (.var 1))) (.var 6)
def b__law_put : Ss :=
 (.cons (.set 3 (.tup (.cons (.ix (.var 0) (.int 0)) (.cons (.bi .tuple false (.cons c__law_put_0 .nil)) .nil))))
 (.cons f__law_put_0
 (.cons (.ret (.var 3))
 .nil)))
def d__law_put : Df := ⟨([("term" : Str), ("variable" : Str), ("other" : Str)] : List Str), ([("term" : Str), ("variable" : Str), ("other" : Str), ("found" : Str), ("v" : Str), ("c" : Str), ("pair" : Str)] : List Str), false, b__law_put⟩
def c__law_value_0 : Ex := .lc false (.tup (.cons (.nm 2) (.cons (.nm 3) .nil))) (.seq (.ix (.var 0) (.int 1))) .no (.bin .mul false (.var 3) (.ix (.var 1) (.var 2)))
def b__law_value : Ss :=
 (.cons (.ret (.bin .add false (.ix (.var 0) (.int 0)) (.bi .sum false (.cons c__law_value_0 .nil))))
 .nil)
def d__law_value : Df := ⟨([("term" : Str), ("row" : Str)] : List Str), ([("term" : Str), ("row" : Str), ("v" : Str), ("c" : Str)] : List Str), false, b__law_value⟩
def c__law_term_0 : Ex := .lc false (.nm 5) (.seq (.var 3)) (.yes (.cmp .ne (.ix (.var 5) (.int 1)) (.int 0))) (.var 5)
def s__law_term_0 : Sm := .slc 3 false (.nm 4) (.seq (.var 1)) .no (.tup (.cons (.var 4) (.cons (.bin .sub false (.call "_law_pick" [0, 1] (.cons (.var 0) (.cons (.bin .add false (.bin .mul false (.int 2) (.var 2)) (.int 1)) .nil)) .nil) (.var 2)) .nil)))
def b__law_term : Ss :=
 (.cons s__law_term_0
 (.cons (.ret (.tup (.cons (.bin .sub false (.call "_law_pick" [0, 1] (.cons (.var 0) (.cons (.int 11) .nil)) .nil) (.int 5)) (.cons (.bi .tuple false (.cons c__law_term_0 .nil)) .nil))))
 .nil))
def d__law_term : Df := ⟨([("bag" : Str), ("names" : Str), ("most" : Str)] : List Str), ([("bag" : Str), ("names" : Str), ("most" : Str), ("pairs" : Str), ("v" : Str), ("pair" : Str)] : List Str), false, b__law_term⟩
def c__law_row_0 : Ex := .lc false (.nm 3) (.rng (.cons (.var 1) .nil)) .no (.bin .sub false (.call "_law_pick" [0, 1] (.cons (.var 0) (.cons (.bin .add false (.bin .mul false (.int 2) (.var 2)) (.int 1)) .nil)) .nil) (.var 2))
def b__law_row : Ss :=
 (.cons (.ret (.bi .tuple false (.cons c__law_row_0 .nil)))
 .nil)
def d__law_row : Df := ⟨([("bag" : Str), ("many" : Str), ("most" : Str)] : List Str), ([("bag" : Str), ("many" : Str), ("most" : Str), ("k" : Str)] : List Str), false, b__law_row⟩
def b__law_error : Ss :=
 (.cons (.set 4 (.str "told"))
 (.cons (.tr (.cons (.ife (.cmp .eq (.var 0) (.int 0)) (.cons (.drop (.call "term_of" [0, 1] (.cons (.var 1) (.cons (.var 2) .nil)) .nil))
 .nil) (.cons (.ife (.cmp .eq (.var 0) (.int 1)) (.cons (.drop (.call "value" [0, 1] (.cons (.var 1) (.cons (.var 2) .nil)) .nil))
 .nil) (.cons (.ife (.cmp .eq (.var 0) (.int 2)) (.cons (.drop (.call "add" [0, 1] (.cons (.var 1) (.cons (.var 2) .nil)) .nil))
 .nil) (.cons (.ife (.cmp .eq (.var 0) (.int 3)) (.cons (.drop (.call "times" [0, 1] (.cons (.var 1) (.cons (.var 2) .nil)) .nil))
 .nil) (.cons (.drop (.call "put" [0, 1, 2] (.cons (.var 1) (.cons (.var 2) (.cons (.var 3) .nil))) .nil))
 .nil))
 .nil))
 .nil))
 .nil))
 .nil) (.cons "BadConstant" (.cons (.set 4 (.str "constant"))
 .nil) (.cons "BadPairs" (.cons (.set 4 (.str "pairs"))
 .nil) (.cons "BadTerm" (.cons (.set 4 (.str "term"))
 .nil) (.cons "BadRow" (.cons (.set 4 (.str "row"))
 .nil) (.cons "BadOther" (.cons (.set 4 (.str "other"))
 .nil) (.cons "BadNumber" (.cons (.set 4 (.str "number"))
 .nil) (.cons "BadVariable" (.cons (.set 4 (.str "variable"))
 .nil) .nil))))))))
 (.cons (.ret (.var 4))
 .nil)))
def d__law_error : Df := ⟨([("which" : Str), ("one" : Str), ("two" : Str), ("three" : Str)] : List Str), ([("which" : Str), ("one" : Str), ("two" : Str), ("three" : Str), ("found" : Str)] : List Str), false, b__law_error⟩
def c__law_judged_0 : Ex := .lc false (.nm 1) (.rng (.cons (.int 1) (.cons (.bi .len false (.cons (.ix (.var 0) (.int 1)) .nil)) .nil))) (.yes (.cmp .ge (.ix (.ix (.ix (.var 0) (.int 1)) (.bin .sub false (.var 1) (.int 1))) (.int 0)) (.ix (.ix (.ix (.var 0) (.int 1)) (.var 1)) (.int 0)))) (.var 1)
def c__law_judged_1 : Ex := .lc false (.tup (.cons (.nm 3) (.cons (.nm 4) .nil))) (.seq (.ix (.var 0) (.int 1))) (.yes (.or (.cmp .lt (.var 3) (.int 0)) (.one (.cmp .eq (.var 4) (.int 0))))) (.int 1)
def c__law_judged_2 : Ex := .lc false (.tup (.cons (.nm 3) (.cons (.nm 4) .nil))) (.seq (.ix (.var 0) (.int 1))) .no (.and (.call "_law_is_int" [0] (.cons (.var 3) .nil) .nil) (.one (.call "_law_is_int" [0] (.cons (.var 4) .nil) .nil)))
def c__law_judged_3 : Ex := .lc false (.nm 2) (.seq (.ix (.var 0) (.int 1))) .no (.and (.bi .isi false (.cons (.var 2) (.cons (.ty "tuple" "tuple") .nil))) (.one (.cmp .eq (.bi .len false (.cons (.var 2) .nil)) (.int 2))))
def b__law_judged : Ss :=
 (.cons (.ife (.or (.not (.bi .isi false (.cons (.var 0) (.cons (.ty "tuple" "tuple") .nil)))) (.or (.cmp .ne (.bi .len false (.cons (.var 0) .nil)) (.int 2)) (.or (.not (.call "_law_is_int" [0] (.cons (.ix (.var 0) (.int 0)) .nil) .nil)) (.one (.not (.bi .isi false (.cons (.ix (.var 0) (.int 1)) (.cons (.ty "tuple" "tuple") .nil)))))))) (.cons (.ret (.bl false))
 .nil) .nil)
 (.cons (.ife (.or (.not (.bi .all false (.cons c__law_judged_3 .nil))) (.one (.not (.bi .all false (.cons c__law_judged_2 .nil))))) (.cons (.ret (.bl false))
 .nil) .nil)
 (.cons (.ret (.and (.cmp .eq c__law_judged_1 (.lst false .nil)) (.one (.cmp .eq c__law_judged_0 (.lst false .nil)))))
 .nil)))
def d__law_judged : Df := ⟨([("thing" : Str)] : List Str), ([("thing" : Str), ("k" : Str), ("pair" : Str), ("v" : Str), ("c" : Str)] : List Str), false, b__law_judged⟩
def c_law_0 : Ex := .lc false (.nm 22) (.seq (.ix (.var 5) (.int 1))) (.yes (.cmp .eq (.ix (.var 22) (.int 0)) (.int 4))) (.var 22)
def c_law_1 : Ex := .lc false (.nm 21) (.seq (.var 9)) .no (.call "is_term" [0] (.cons (.var 21) .nil) .nil)
def s_law_0 : Sm := .slc 8 false (.nm 20) (.rng (.cons (.bi .len false (.cons (.var 7) .nil)) .nil)) .no (.ife (.cmp .eq (.var 20) (.var 17)) (.var 19) (.ix (.var 7) (.var 20)))
def c_law_2 : Ex := .lc false (.tup (.cons (.nm 20) (.cons (.nm 23) .nil))) (.seq (.var 3)) .no (.bin .mul false (.var 23) (.ix (.var 16) (.var 20)))
def c_law_3 : Ex := .lc false (.nm 20) (.rng (.cons (.call "_law_pick" [0, 1] (.cons (.var 1) (.cons (.int 8) .nil)) .nil) .nil)) .no (.tup (.cons (.call "_law_pick" [0, 1] (.cons (.var 1) (.cons (.int 5) .nil)) .nil) (.cons (.bin .mul false (.bin .sub false (.call "_law_pick" [0, 1] (.cons (.var 1) (.cons (.int 9) .nil)) .nil) (.int 4)) (.ix (.lst false (.cons (.int 1) (.cons (.int 1) (.cons (.bin .pow false (.int 10) (.int 20)) .nil)))) (.call "_law_pick" [0, 1] (.cons (.var 1) (.cons (.int 3) .nil)) .nil))) .nil)))
def l_law_0 : Ss := (.cons (.set 3 (.bi .tuple false (.cons c_law_3 .nil)))
 (.cons (.set 4 (.bin .sub false (.call "_law_pick" [0, 1] (.cons (.var 1) (.cons (.int 19) .nil)) .nil) (.int 9)))
 (.cons (.set 5 (.call "term_of" [1, 0] .nil (.cons (.var 3) (.cons (.var 4) .nil))))
 (.cons (.par2 14 15 (.cons (.call "_law_term" [0, 1, 2] (.cons (.var 1) (.cons (.lst false (.cons (.int 0) (.cons (.int 1) (.cons (.int 3) (.cons (.int 4) .nil))))) (.cons (.int 5) .nil))) .nil) (.cons (.bin .sub false (.call "_law_pick" [0, 1] (.cons (.var 1) (.cons (.int 15) .nil)) .nil) (.int 7)) .nil)))
 (.cons (.ife (.or (.not (.call "_law_same" [0, 1] (.cons (.var 5) (.cons (.call "_law_made" [0, 1] (.cons (.var 4) (.cons (.var 3) .nil)) .nil) .nil)) .nil)) (.one (.cmp .isn (.call "is_term" [0] (.cons (.var 5) .nil) .nil) (.bl true)))) (.cons (.ret (.bl false))
 .nil) .nil)
 (.cons (.tup (.tup (.cons (.nm 16) (.cons (.nm 17) .nil))) (.tup (.cons (.call "_law_row" [0, 1, 2] (.cons (.var 1) (.cons (.bin .add false (.int 5) (.call "_law_pick" [0, 1] (.cons (.var 1) (.cons (.int 3) .nil)) .nil)) (.cons (.int 50) .nil))) .nil) (.cons (.call "_law_pick" [0, 1] (.cons (.var 1) (.cons (.int 7) .nil)) .nil) .nil))))
 (.cons (.tup (.tup (.cons (.nm 18) (.cons (.nm 19) .nil))) (.tup (.cons (.call "value" [1, 0] .nil (.cons (.var 16) (.cons (.var 5) .nil))) (.cons (.call "value" [0, 1] (.cons (.var 14) (.cons (.var 16) .nil)) .nil) .nil))))
 (.cons (.ife (.or (.not (.call "_law_same" [0, 1] (.cons (.var 18) (.cons (.bin .add false (.var 4) (.bi .sum false (.cons c_law_2 .nil))) .nil)) .nil)) (.one (.cmp .ne (.var 19) (.call "_law_value" [0, 1] (.cons (.var 14) (.cons (.var 16) .nil)) .nil)))) (.cons (.ret (.bl false))
 .nil) .nil)
 (.cons (.ife (.or (.not (.call "_law_same" [0, 1] (.cons (.call "add" [1, 0] .nil (.cons (.var 14) (.cons (.var 5) .nil))) (.cons (.call "_law_plus" [0, 1] (.cons (.var 5) (.cons (.var 14) .nil)) .nil) .nil)) .nil)) (.one (.cmp .ne (.call "value" [0, 1] (.cons (.call "add" [0, 1] (.cons (.var 5) (.cons (.var 14) .nil)) .nil) (.cons (.var 16) .nil)) .nil) (.bin .add false (.var 18) (.var 19))))) (.cons (.ret (.bl false))
 .nil) .nil)
 (.cons (.ife (.or (.not (.call "_law_same" [0, 1] (.cons (.call "times" [1, 0] .nil (.cons (.var 15) (.cons (.var 5) .nil))) (.cons (.call "_law_by" [0, 1] (.cons (.var 5) (.cons (.var 15) .nil)) .nil) .nil)) .nil)) (.one (.cmp .ne (.call "value" [0, 1] (.cons (.call "times" [0, 1] (.cons (.var 5) (.cons (.var 15) .nil)) .nil) (.cons (.var 16) .nil)) .nil) (.bin .mul false (.var 15) (.var 18))))) (.cons (.ret (.bl false))
 .nil) .nil)
 (.cons (.set 6 (.call "put" [2, 1, 0] .nil (.cons (.var 14) (.cons (.var 17) (.cons (.var 5) .nil)))))
 (.cons (.set 7 (.bin .add false (.bi .list false (.cons (.var 16) .nil)) (.bin .mul false (.lst false (.cons (.int 0) .nil)) (.int 9))))
 (.cons s_law_0
 (.cons (.ife (.or (.not (.call "_law_same" [0, 1] (.cons (.var 6) (.cons (.call "_law_put" [0, 1, 2] (.cons (.var 5) (.cons (.var 17) (.cons (.var 14) .nil))) .nil) .nil)) .nil)) (.one (.cmp .ne (.call "_law_value" [0, 1] (.cons (.var 6) (.cons (.var 7) .nil)) .nil) (.call "_law_value" [0, 1] (.cons (.var 5) (.cons (.var 8) .nil)) .nil)))) (.cons (.ret (.bl false))
 .nil) .nil)
 (.cons (.set 9 (.lst false (.cons .non (.cons (.int 0) (.cons (.tup (.cons (.int 0) .nil)) (.cons (.bin .add false (.tup (.cons (.int 0) (.cons (.tup .nil) .nil))) (.tup (.cons (.int 0) .nil))) (.cons (.lst false (.cons (.int 0) (.cons (.tup .nil) .nil))) (.cons (.tup (.cons (.bl true) (.cons (.tup .nil) .nil))) (.cons (.tup (.cons (.int 0) (.cons (.lst false (.cons (.tup (.cons (.int 0) (.cons (.int 1) .nil))) .nil)) .nil))) (.cons (.tup (.cons (.int 0) (.cons (.tup (.cons (.tup (.cons (.int 0) (.cons (.int 0) .nil))) .nil)) .nil))) .nil))))))))))
 (.cons (.set 9 (.bin .add false (.var 9) (.lst false (.cons (.tup (.cons (.int 0) (.cons (.tup (.cons (.tup (.cons (.int 1) (.cons (.int 1) .nil))) (.cons (.tup (.cons (.int 0) (.cons (.int 1) .nil))) .nil))) .nil))) (.cons (.tup (.cons (.int 0) (.cons (.tup (.cons (.tup (.cons (.int 0) (.cons (.int 1) .nil))) (.cons (.tup (.cons (.int 0) (.cons (.int 1) .nil))) .nil))) .nil))) (.cons (.tup (.cons (.int 0) (.cons (.tup (.cons (.tup (.cons (.neg (.int 1)) (.cons (.int 1) .nil))) .nil)) .nil))) (.cons (.tup (.cons (.int 0) (.cons (.tup (.cons (.tup (.cons (.int 0) (.cons (.bl true) .nil))) .nil)) .nil))) (.cons (.tup (.cons (.int 0) (.cons (.tup (.cons (.tup (.cons (.int 0) (.cons (.int 1) (.cons (.int 1) .nil)))) .nil)) .nil))) .nil))))))))
 (.cons (.set 10 (.ix (.var 9) (.call "_law_pick" [0, 1] (.cons (.var 1) (.cons (.bi .len false (.cons (.var 9) .nil)) .nil)) .nil)))
 (.cons (.ife (.or (.cmp .ne c_law_1 (.bin .mul false (.lst false (.cons (.bl false) .nil)) (.bi .len false (.cons (.var 9) .nil)))) (.one (.not (.call "_law_same" [0, 1] (.cons (.call "is_term" [0] (.cons (.var 10) .nil) .nil) (.cons (.call "_law_judged" [0] (.cons (.var 10) .nil) .nil) .nil)) .nil)))) (.cons (.ret (.bl false))
 .nil) .nil)
 (.cons (.set 11 (.ix (.lst false (.cons .non (.cons (.tup (.cons (.tup (.cons (.int 0) .nil)) .nil)) (.cons (.tup (.cons (.tup (.cons (.neg (.int 1)) (.cons (.int 1) .nil))) .nil)) (.cons (.lst false (.cons (.tup (.cons (.int 0) (.cons (.int 1) .nil))) .nil)) (.cons (.tup (.cons (.tup (.cons (.int 0) (.cons (.bl true) .nil))) .nil)) .nil)))))) (.call "_law_pick" [0, 1] (.cons (.var 1) (.cons (.int 5) .nil)) .nil)))
 (.cons (.set 12 (.ix (.lst false (.cons .non (.cons (.bi .list false (.cons (.var 16) .nil)) (.cons (.bin .add false (.bin .mul false (.tup (.cons (.int 0) .nil)) (.int 4)) (.tup (.cons (.bl true) .nil))) (.cons (.ife (.cmp .ne c_law_0 (.lst false .nil)) (.sl false (.var 16) .no (.yes (.int 4))) .non) .nil))))) (.call "_law_pick" [0, 1] (.cons (.var 1) (.cons (.int 4) .nil)) .nil)))
 (.cons (.set 13 (.lst false (.cons (.call "_law_error" [0, 1, 2, 3] (.cons (.int 0) (.cons (.bl true) (.cons (.var 11) (.cons (.int 0) .nil)))) .nil) (.cons (.call "_law_error" [0, 1, 2, 3] (.cons (.int 0) (.cons (.int 1) (.cons (.var 11) (.cons (.int 0) .nil)))) .nil) (.cons (.call "_law_error" [0, 1, 2, 3] (.cons (.int 1) (.cons (.var 10) (.cons (.var 12) (.cons (.int 0) .nil)))) .nil) (.cons (.call "_law_error" [0, 1, 2, 3] (.cons (.int 1) (.cons (.var 5) (.cons (.var 12) (.cons (.int 0) .nil)))) .nil) (.cons (.call "_law_error" [0, 1, 2, 3] (.cons (.int 2) (.cons (.var 10) (.cons (.var 10) (.cons (.int 0) .nil)))) .nil) (.cons (.call "_law_error" [0, 1, 2, 3] (.cons (.int 2) (.cons (.var 5) (.cons (.var 10) (.cons (.int 0) .nil)))) .nil) .nil))))))))
 (.cons (.set 13 (.bin .add false (.var 13) (.lst false (.cons (.call "_law_error" [0, 1, 2, 3] (.cons (.int 3) (.cons (.var 10) (.cons .non (.cons (.int 0) .nil)))) .nil) (.cons (.call "_law_error" [0, 1, 2, 3] (.cons (.int 3) (.cons (.var 5) (.cons .non (.cons (.int 0) .nil)))) .nil) (.cons (.call "_law_error" [0, 1, 2, 3] (.cons (.int 4) (.cons (.var 10) (.cons (.neg (.int 1)) (.cons (.var 10) .nil)))) .nil) (.cons (.call "_law_error" [0, 1, 2, 3] (.cons (.int 4) (.cons (.var 5) (.cons (.neg (.int 1)) (.cons (.var 10) .nil)))) .nil) (.cons (.call "_law_error" [0, 1, 2, 3] (.cons (.int 4) (.cons (.var 5) (.cons (.int 0) (.cons (.var 10) .nil)))) .nil) .nil))))))))
 (.cons (.ife (.cmp .ne (.var 13) (.lst false (.cons (.str "constant") (.cons (.str "pairs") (.cons (.str "term") (.cons (.str "row") (.cons (.str "term") (.cons (.str "other") (.cons (.str "term") (.cons (.str "number") (.cons (.str "term") (.cons (.str "variable") (.cons (.str "other") .nil))))))))))))) (.cons (.ret (.bl false))
 .nil) .nil)
 .nil)))))))))))))))))))))))
def f_law_0 : Sm := .fo (.nm 2) (.rng (.cons (.int 4) .nil)) l_law_0
def b_law : Ss :=
 (.cons (.set 1 (.call "_law_bag" [0] (.cons (.var 0) .nil) .nil))
 (.cons f_law_0
 (.cons (.ret (.bl true))
 .nil)))
def d_law : Df := ⟨([("script" : Str)] : List Str), ([("script" : Str), ("bag" : Str), ("turn" : Str), ("pairs" : Str), ("constant" : Str), ("term" : Str), ("told" : Str), ("wide" : Str), ("moved" : Str), ("odd" : Str), ("bad" : Str), ("wrong" : Str), ("few" : Str), ("words" : Str), ("other" : Str), ("number" : Str), ("row" : Str), ("v" : Str), ("one" : Str), ("two" : Str), ("k" : Str), ("thing" : Str), ("pair" : Str), ("c" : Str)] : List Str), false, b_law⟩
def dd : List Dd := [⟨"is_int", top 10, d_is_int, [(1, ([] : List Str), [0])]⟩,
  ⟨"is_index", top 11, d_is_index, [(1, ([] : List Str), [0])]⟩,
  ⟨"is_row", top 12, d_is_row, [(3, ([] : List Str), [0, 1, 2])]⟩,
  ⟨"is_ascending", top 13, d_is_ascending, [(1, ([] : List Str), [0])]⟩,
  ⟨"are_ints", top 14, d_are_ints, [(1, ([] : List Str), [0])]⟩,
  ⟨"is_pair", top 16, d_is_pair, [(1, ([] : List Str), [0])]⟩,
  ⟨"is_term", top 17, d_is_term, [(1, ([] : List Str), [0])]⟩,
  ⟨"collected", top 18, d_collected, [(2, ([] : List Str), [0, 1])]⟩,
  ⟨"plus", top 19, d_plus, [(2, ([] : List Str), [0, 1])]⟩,
  ⟨"times_term", top 20, d_times_term, [(2, ([] : List Str), [0, 1])]⟩,
  ⟨"coefficient", top 21, d_coefficient, [(2, ([] : List Str), [0, 1])]⟩,
  ⟨"without", top 22, d_without, [(2, ([] : List Str), [0, 1])]⟩,
  ⟨"value_at", top 23, d_value_at, [(2, ([] : List Str), [0, 1])]⟩,
  ⟨"variables_of", top 24, d_variables_of, [(1, ([] : List Str), [0])]⟩,
  ⟨"put_for", top 25, d_put_for, [(3, ([] : List Str), [0, 1, 2])]⟩,
  ⟨"need_term", top 27, d_need_term, [(1, ([] : List Str), [0])]⟩,
  ⟨"need_other", top 28, d_need_other, [(1, ([] : List Str), [0])]⟩,
  ⟨"need_variable", top 29, d_need_variable, [(1, ([] : List Str), [0])]⟩,
  ⟨"need_row", top 30, d_need_row, [(2, ([] : List Str), [0, 1])]⟩,
  ⟨"term_of", top 31, d_term_of, [(0, ([("pairs" : Str), ("constant" : Str)] : List Str), [1, 0]), (2, ([] : List Str), [0, 1])]⟩,
  ⟨"value", top 32, d_value, [(0, ([("row" : Str), ("term" : Str)] : List Str), [1, 0]), (2, ([] : List Str), [0, 1])]⟩,
  ⟨"add", top 33, d_add, [(0, ([("other" : Str), ("term" : Str)] : List Str), [1, 0]), (2, ([] : List Str), [0, 1])]⟩,
  ⟨"times", top 34, d_times, [(0, ([("number" : Str), ("term" : Str)] : List Str), [1, 0]), (2, ([] : List Str), [0, 1])]⟩,
  ⟨"put", top 35, d_put, [(0, ([("other" : Str), ("variable" : Str), ("term" : Str)] : List Str), [2, 1, 0]), (3, ([] : List Str), [0, 1, 2])]⟩,
  ⟨"_law_bag", top 37, d__law_bag, [(1, ([] : List Str), [0])]⟩,
  ⟨"_law_pick", top 38, d__law_pick, [(2, ([] : List Str), [0, 1])]⟩,
  ⟨"_law_same", top 39, d__law_same, [(2, ([] : List Str), [0, 1])]⟩,
  ⟨"_law_is_int", top 40, d__law_is_int, [(1, ([] : List Str), [0])]⟩,
  ⟨"_law_made", top 41, d__law_made, [(2, ([] : List Str), [0, 1])]⟩,
  ⟨"_law_plus", top 42, d__law_plus, [(2, ([] : List Str), [0, 1])]⟩,
  ⟨"_law_by", top 43, d__law_by, [(2, ([] : List Str), [0, 1])]⟩,
  ⟨"_law_put", top 44, d__law_put, [(3, ([] : List Str), [0, 1, 2])]⟩,
  ⟨"_law_value", top 45, d__law_value, [(2, ([] : List Str), [0, 1])]⟩,
  ⟨"_law_term", top 46, d__law_term, [(3, ([] : List Str), [0, 1, 2])]⟩,
  ⟨"_law_row", top 49, d__law_row, [(3, ([] : List Str), [0, 1, 2])]⟩,
  ⟨"_law_error", top 53, d__law_error, [(4, ([] : List Str), [0, 1, 2, 3])]⟩,
  ⟨"_law_judged", top 54, d__law_judged, [(1, ([] : List Str), [0])]⟩,
  ⟨"law", top 55, d_law, [(1, ([] : List Str), [0])]⟩]
def G : Gt := ⟨[], [], ([("all" : Str), ("bool" : Str), ("int" : Str), ("isinstance" : Str), ("len" : Str), ("list" : Str), ("range" : Str), ("sorted" : Str), ("str" : Str), ("sum" : Str), ("tuple" : Str), ("zip" : Str)] : List Str), ([] : List Str), ([("BadTerm" : Str), ("BadOther" : Str), ("BadConstant" : Str), ("BadPairs" : Str), ("BadNumber" : Str), ("BadVariable" : Str), ("BadRow" : Str)] : List Str), [(("is_int" : Str), (["thing"] : List Str)), (("is_index" : Str), (["thing"] : List Str)), (("is_row" : Str), (["thing", "fewest", "most"] : List Str)), (("is_ascending" : Str), (["row"] : List Str)), (("are_ints" : Str), (["thing"] : List Str)), (("is_pair" : Str), (["thing"] : List Str)), (("is_term" : Str), (["thing"] : List Str)), (("collected" : Str), (["constant", "pairs"] : List Str)), (("plus" : Str), (["term", "other"] : List Str)), (("times_term" : Str), (["term", "factor"] : List Str)), (("coefficient" : Str), (["term", "variable"] : List Str)), (("without" : Str), (["term", "variable"] : List Str)), (("value_at" : Str), (["term", "row"] : List Str)), (("variables_of" : Str), (["term"] : List Str)), (("put_for" : Str), (["term", "variable", "other"] : List Str)), (("need_term" : Str), (["term"] : List Str)), (("need_other" : Str), (["other"] : List Str)), (("need_variable" : Str), (["variable"] : List Str)), (("need_row" : Str), (["variables", "row"] : List Str)), (("term_of" : Str), (["constant", "pairs"] : List Str)), (("value" : Str), (["term", "row"] : List Str)), (("add" : Str), (["term", "other"] : List Str)), (("times" : Str), (["term", "number"] : List Str)), (("put" : Str), (["term", "variable", "other"] : List Str)), (("_law_bag" : Str), (["script"] : List Str)), (("_law_pick" : Str), (["bag", "many"] : List Str)), (("_law_same" : Str), (["found", "due"] : List Str)), (("_law_is_int" : Str), (["thing"] : List Str)), (("_law_made" : Str), (["constant", "pairs"] : List Str)), (("_law_plus" : Str), (["one", "other"] : List Str)), (("_law_by" : Str), (["term", "number"] : List Str)), (("_law_put" : Str), (["term", "variable", "other"] : List Str)), (("_law_value" : Str), (["term", "row"] : List Str)), (("_law_term" : Str), (["bag", "names", "most"] : List Str)), (("_law_row" : Str), (["bag", "many", "most"] : List Str)), (("_law_error" : Str), (["which", "one", "two", "three"] : List Str)), (("_law_judged" : Str), (["thing"] : List Str)), (("law" : Str), (["script"] : List Str))], [(("is_int" : Str), (1, ([] : List Str), ([0] : List Nat))), (("is_index" : Str), (1, ([] : List Str), ([0] : List Nat))), (("is_row" : Str), (3, ([] : List Str), ([0, 1, 2] : List Nat))), (("is_ascending" : Str), (1, ([] : List Str), ([0] : List Nat))), (("are_ints" : Str), (1, ([] : List Str), ([0] : List Nat))), (("is_pair" : Str), (1, ([] : List Str), ([0] : List Nat))), (("is_term" : Str), (1, ([] : List Str), ([0] : List Nat))), (("collected" : Str), (2, ([] : List Str), ([0, 1] : List Nat))), (("plus" : Str), (2, ([] : List Str), ([0, 1] : List Nat))), (("times_term" : Str), (2, ([] : List Str), ([0, 1] : List Nat))), (("coefficient" : Str), (2, ([] : List Str), ([0, 1] : List Nat))), (("without" : Str), (2, ([] : List Str), ([0, 1] : List Nat))), (("value_at" : Str), (2, ([] : List Str), ([0, 1] : List Nat))), (("variables_of" : Str), (1, ([] : List Str), ([0] : List Nat))), (("put_for" : Str), (3, ([] : List Str), ([0, 1, 2] : List Nat))), (("need_term" : Str), (1, ([] : List Str), ([0] : List Nat))), (("need_other" : Str), (1, ([] : List Str), ([0] : List Nat))), (("need_variable" : Str), (1, ([] : List Str), ([0] : List Nat))), (("need_row" : Str), (2, ([] : List Str), ([0, 1] : List Nat))), (("term_of" : Str), (0, (["pairs", "constant"] : List Str), ([1, 0] : List Nat))), (("term_of" : Str), (2, ([] : List Str), ([0, 1] : List Nat))), (("value" : Str), (0, (["row", "term"] : List Str), ([1, 0] : List Nat))), (("value" : Str), (2, ([] : List Str), ([0, 1] : List Nat))), (("add" : Str), (0, (["other", "term"] : List Str), ([1, 0] : List Nat))), (("add" : Str), (2, ([] : List Str), ([0, 1] : List Nat))), (("times" : Str), (0, (["number", "term"] : List Str), ([1, 0] : List Nat))), (("times" : Str), (2, ([] : List Str), ([0, 1] : List Nat))), (("put" : Str), (0, (["other", "variable", "term"] : List Str), ([2, 1, 0] : List Nat))), (("put" : Str), (3, ([] : List Str), ([0, 1, 2] : List Nat))), (("_law_bag" : Str), (1, ([] : List Str), ([0] : List Nat))), (("_law_pick" : Str), (2, ([] : List Str), ([0, 1] : List Nat))), (("_law_same" : Str), (2, ([] : List Str), ([0, 1] : List Nat))), (("_law_is_int" : Str), (1, ([] : List Str), ([0] : List Nat))), (("_law_made" : Str), (2, ([] : List Str), ([0, 1] : List Nat))), (("_law_plus" : Str), (2, ([] : List Str), ([0, 1] : List Nat))), (("_law_by" : Str), (2, ([] : List Str), ([0, 1] : List Nat))), (("_law_put" : Str), (3, ([] : List Str), ([0, 1, 2] : List Nat))), (("_law_value" : Str), (2, ([] : List Str), ([0, 1] : List Nat))), (("_law_term" : Str), (3, ([] : List Str), ([0, 1, 2] : List Nat))), (("_law_row" : Str), (3, ([] : List Str), ([0, 1, 2] : List Nat))), (("_law_error" : Str), (4, ([] : List Str), ([0, 1, 2, 3] : List Nat))), (("_law_judged" : Str), (1, ([] : List Str), ([0] : List Nat))), (("law" : Str), (1, ([] : List Str), ([0] : List Nat)))], [("BadTerm", "BadTerm"), ("BadOther", "BadOther"), ("BadConstant", "BadConstant"), ("BadPairs", "BadPairs"), ("BadNumber", "BadNumber"), ("BadVariable", "BadVariable"), ("BadRow", "BadRow")]⟩
theorem ok : dd.all (okD G) = true := by decide +kernel
theorem bs_0 : BSh (top 10) d_is_int.ps (1, ([] : List Str), [0]) := fun kV doc pm an cdv ct us ws h1 h2 => match us, ws, h1, h2 with | [u0], [], _, _ => by kernel_rfl
theorem bs_1 : BSh (top 11) d_is_index.ps (1, ([] : List Str), [0]) := fun kV doc pm an cdv ct us ws h1 h2 => match us, ws, h1, h2 with | [u0], [], _, _ => by kernel_rfl
theorem bs_2 : BSh (top 12) d_is_row.ps (3, ([] : List Str), [0, 1, 2]) := fun kV doc pm an cdv ct us ws h1 h2 => match us, ws, h1, h2 with | [u0, u1, u2], [], _, _ => by kernel_rfl
theorem bs_3 : BSh (top 13) d_is_ascending.ps (1, ([] : List Str), [0]) := fun kV doc pm an cdv ct us ws h1 h2 => match us, ws, h1, h2 with | [u0], [], _, _ => by kernel_rfl
theorem bs_4 : BSh (top 14) d_are_ints.ps (1, ([] : List Str), [0]) := fun kV doc pm an cdv ct us ws h1 h2 => match us, ws, h1, h2 with | [u0], [], _, _ => by kernel_rfl
theorem bs_5 : BSh (top 16) d_is_pair.ps (1, ([] : List Str), [0]) := fun kV doc pm an cdv ct us ws h1 h2 => match us, ws, h1, h2 with | [u0], [], _, _ => by kernel_rfl
theorem bs_6 : BSh (top 17) d_is_term.ps (1, ([] : List Str), [0]) := fun kV doc pm an cdv ct us ws h1 h2 => match us, ws, h1, h2 with | [u0], [], _, _ => by kernel_rfl
theorem bs_7 : BSh (top 18) d_collected.ps (2, ([] : List Str), [0, 1]) := fun kV doc pm an cdv ct us ws h1 h2 => match us, ws, h1, h2 with | [u0, u1], [], _, _ => by kernel_rfl
theorem bs_8 : BSh (top 19) d_plus.ps (2, ([] : List Str), [0, 1]) := fun kV doc pm an cdv ct us ws h1 h2 => match us, ws, h1, h2 with | [u0, u1], [], _, _ => by kernel_rfl
theorem bs_9 : BSh (top 20) d_times_term.ps (2, ([] : List Str), [0, 1]) := fun kV doc pm an cdv ct us ws h1 h2 => match us, ws, h1, h2 with | [u0, u1], [], _, _ => by kernel_rfl
theorem bs_10 : BSh (top 21) d_coefficient.ps (2, ([] : List Str), [0, 1]) := fun kV doc pm an cdv ct us ws h1 h2 => match us, ws, h1, h2 with | [u0, u1], [], _, _ => by kernel_rfl
theorem bs_11 : BSh (top 22) d_without.ps (2, ([] : List Str), [0, 1]) := fun kV doc pm an cdv ct us ws h1 h2 => match us, ws, h1, h2 with | [u0, u1], [], _, _ => by kernel_rfl
theorem bs_12 : BSh (top 23) d_value_at.ps (2, ([] : List Str), [0, 1]) := fun kV doc pm an cdv ct us ws h1 h2 => match us, ws, h1, h2 with | [u0, u1], [], _, _ => by kernel_rfl
theorem bs_13 : BSh (top 24) d_variables_of.ps (1, ([] : List Str), [0]) := fun kV doc pm an cdv ct us ws h1 h2 => match us, ws, h1, h2 with | [u0], [], _, _ => by kernel_rfl
theorem bs_14 : BSh (top 25) d_put_for.ps (3, ([] : List Str), [0, 1, 2]) := fun kV doc pm an cdv ct us ws h1 h2 => match us, ws, h1, h2 with | [u0, u1, u2], [], _, _ => by kernel_rfl
theorem bs_15 : BSh (top 27) d_need_term.ps (1, ([] : List Str), [0]) := fun kV doc pm an cdv ct us ws h1 h2 => match us, ws, h1, h2 with | [u0], [], _, _ => by kernel_rfl
theorem bs_16 : BSh (top 28) d_need_other.ps (1, ([] : List Str), [0]) := fun kV doc pm an cdv ct us ws h1 h2 => match us, ws, h1, h2 with | [u0], [], _, _ => by kernel_rfl
theorem bs_17 : BSh (top 29) d_need_variable.ps (1, ([] : List Str), [0]) := fun kV doc pm an cdv ct us ws h1 h2 => match us, ws, h1, h2 with | [u0], [], _, _ => by kernel_rfl
theorem bs_18 : BSh (top 30) d_need_row.ps (2, ([] : List Str), [0, 1]) := fun kV doc pm an cdv ct us ws h1 h2 => match us, ws, h1, h2 with | [u0, u1], [], _, _ => by kernel_rfl
theorem bs_19 : BSh (top 31) d_term_of.ps (0, ([("pairs" : Str), ("constant" : Str)] : List Str), [1, 0]) := fun kV doc pm an cdv ct us ws h1 h2 => match us, ws, h1, h2 with | [], [w0, w1], _, _ => by kernel_rfl
theorem bs_20 : BSh (top 31) d_term_of.ps (2, ([] : List Str), [0, 1]) := fun kV doc pm an cdv ct us ws h1 h2 => match us, ws, h1, h2 with | [u0, u1], [], _, _ => by kernel_rfl
theorem bs_21 : BSh (top 32) d_value.ps (0, ([("row" : Str), ("term" : Str)] : List Str), [1, 0]) := fun kV doc pm an cdv ct us ws h1 h2 => match us, ws, h1, h2 with | [], [w0, w1], _, _ => by kernel_rfl
theorem bs_22 : BSh (top 32) d_value.ps (2, ([] : List Str), [0, 1]) := fun kV doc pm an cdv ct us ws h1 h2 => match us, ws, h1, h2 with | [u0, u1], [], _, _ => by kernel_rfl
theorem bs_23 : BSh (top 33) d_add.ps (0, ([("other" : Str), ("term" : Str)] : List Str), [1, 0]) := fun kV doc pm an cdv ct us ws h1 h2 => match us, ws, h1, h2 with | [], [w0, w1], _, _ => by kernel_rfl
theorem bs_24 : BSh (top 33) d_add.ps (2, ([] : List Str), [0, 1]) := fun kV doc pm an cdv ct us ws h1 h2 => match us, ws, h1, h2 with | [u0, u1], [], _, _ => by kernel_rfl
theorem bs_25 : BSh (top 34) d_times.ps (0, ([("number" : Str), ("term" : Str)] : List Str), [1, 0]) := fun kV doc pm an cdv ct us ws h1 h2 => match us, ws, h1, h2 with | [], [w0, w1], _, _ => by kernel_rfl
theorem bs_26 : BSh (top 34) d_times.ps (2, ([] : List Str), [0, 1]) := fun kV doc pm an cdv ct us ws h1 h2 => match us, ws, h1, h2 with | [u0, u1], [], _, _ => by kernel_rfl
theorem bs_27 : BSh (top 35) d_put.ps (0, ([("other" : Str), ("variable" : Str), ("term" : Str)] : List Str), [2, 1, 0]) := fun kV doc pm an cdv ct us ws h1 h2 => match us, ws, h1, h2 with | [], [w0, w1, w2], _, _ => by kernel_rfl
theorem bs_28 : BSh (top 35) d_put.ps (3, ([] : List Str), [0, 1, 2]) := fun kV doc pm an cdv ct us ws h1 h2 => match us, ws, h1, h2 with | [u0, u1, u2], [], _, _ => by kernel_rfl
theorem bs_29 : BSh (top 37) d__law_bag.ps (1, ([] : List Str), [0]) := fun kV doc pm an cdv ct us ws h1 h2 => match us, ws, h1, h2 with | [u0], [], _, _ => by kernel_rfl
theorem bs_30 : BSh (top 38) d__law_pick.ps (2, ([] : List Str), [0, 1]) := fun kV doc pm an cdv ct us ws h1 h2 => match us, ws, h1, h2 with | [u0, u1], [], _, _ => by kernel_rfl
theorem bs_31 : BSh (top 39) d__law_same.ps (2, ([] : List Str), [0, 1]) := fun kV doc pm an cdv ct us ws h1 h2 => match us, ws, h1, h2 with | [u0, u1], [], _, _ => by kernel_rfl
theorem bs_32 : BSh (top 40) d__law_is_int.ps (1, ([] : List Str), [0]) := fun kV doc pm an cdv ct us ws h1 h2 => match us, ws, h1, h2 with | [u0], [], _, _ => by kernel_rfl
theorem bs_33 : BSh (top 41) d__law_made.ps (2, ([] : List Str), [0, 1]) := fun kV doc pm an cdv ct us ws h1 h2 => match us, ws, h1, h2 with | [u0, u1], [], _, _ => by kernel_rfl
theorem bs_34 : BSh (top 42) d__law_plus.ps (2, ([] : List Str), [0, 1]) := fun kV doc pm an cdv ct us ws h1 h2 => match us, ws, h1, h2 with | [u0, u1], [], _, _ => by kernel_rfl
theorem bs_35 : BSh (top 43) d__law_by.ps (2, ([] : List Str), [0, 1]) := fun kV doc pm an cdv ct us ws h1 h2 => match us, ws, h1, h2 with | [u0, u1], [], _, _ => by kernel_rfl
theorem bs_36 : BSh (top 44) d__law_put.ps (3, ([] : List Str), [0, 1, 2]) := fun kV doc pm an cdv ct us ws h1 h2 => match us, ws, h1, h2 with | [u0, u1, u2], [], _, _ => by kernel_rfl
theorem bs_37 : BSh (top 45) d__law_value.ps (2, ([] : List Str), [0, 1]) := fun kV doc pm an cdv ct us ws h1 h2 => match us, ws, h1, h2 with | [u0, u1], [], _, _ => by kernel_rfl
theorem bs_38 : BSh (top 46) d__law_term.ps (3, ([] : List Str), [0, 1, 2]) := fun kV doc pm an cdv ct us ws h1 h2 => match us, ws, h1, h2 with | [u0, u1, u2], [], _, _ => by kernel_rfl
theorem bs_39 : BSh (top 49) d__law_row.ps (3, ([] : List Str), [0, 1, 2]) := fun kV doc pm an cdv ct us ws h1 h2 => match us, ws, h1, h2 with | [u0, u1, u2], [], _, _ => by kernel_rfl
theorem bs_40 : BSh (top 53) d__law_error.ps (4, ([] : List Str), [0, 1, 2, 3]) := fun kV doc pm an cdv ct us ws h1 h2 => match us, ws, h1, h2 with | [u0, u1, u2, u3], [], _, _ => by kernel_rfl
theorem bs_41 : BSh (top 54) d__law_judged.ps (1, ([] : List Str), [0]) := fun kV doc pm an cdv ct us ws h1 h2 => match us, ws, h1, h2 with | [u0], [], _, _ => by kernel_rfl
theorem bs_42 : BSh (top 55) d_law.ps (1, ([] : List Str), [0]) := fun kV doc pm an cdv ct us ws h1 h2 => match us, ws, h1, h2 with | [u0], [], _, _ => by kernel_rfl
theorem shs : AllSh dd := ⟨⟨bs_0, trivial⟩, ⟨bs_1, trivial⟩, ⟨bs_2, trivial⟩, ⟨bs_3, trivial⟩, ⟨bs_4, trivial⟩, ⟨bs_5, trivial⟩, ⟨bs_6, trivial⟩, ⟨bs_7, trivial⟩, ⟨bs_8, trivial⟩, ⟨bs_9, trivial⟩, ⟨bs_10, trivial⟩, ⟨bs_11, trivial⟩, ⟨bs_12, trivial⟩, ⟨bs_13, trivial⟩, ⟨bs_14, trivial⟩, ⟨bs_15, trivial⟩, ⟨bs_16, trivial⟩, ⟨bs_17, trivial⟩, ⟨bs_18, trivial⟩, ⟨bs_19, bs_20, trivial⟩, ⟨bs_21, bs_22, trivial⟩, ⟨bs_23, bs_24, trivial⟩, ⟨bs_25, bs_26, trivial⟩, ⟨bs_27, bs_28, trivial⟩, ⟨bs_29, trivial⟩, ⟨bs_30, trivial⟩, ⟨bs_31, trivial⟩, ⟨bs_32, trivial⟩, ⟨bs_33, trivial⟩, ⟨bs_34, trivial⟩, ⟨bs_35, trivial⟩, ⟨bs_36, trivial⟩, ⟨bs_37, trivial⟩, ⟨bs_38, trivial⟩, ⟨bs_39, trivial⟩, ⟨bs_40, trivial⟩, ⟨bs_41, trivial⟩, ⟨bs_42, trivial⟩, trivial⟩
abbrev Rw : PySem.W.OpenRow := PySem.W.OpenLaw.row PySem.Challenge.rw_wholesworn_k01_terms_reckoned
abbrev fn : List He.DefD := dd.map fun d => mkDD d.nm d.st
abbrev hk : PySem.W.Hook := hookT 4 G.gt (faOf G) fn
def ob (s : PySem.W.SharedT) : He.AlD := obsTG 4 G.gt (faOf G) fn (HandSHeadRun.getT s)
theorem ob_eq (s : PySem.W.SharedT) : ob s = hk.obs s.abs := obsTG_eq (HandSHeadRun.getT_eq s)
abbrev loose : List PySem.Str := ([("WholeError" : Str), ("BadTerm" : Str), ("BadOther" : Str), ("BadConstant" : Str), ("BadPairs" : Str), ("BadNumber" : Str), ("BadVariable" : Str), ("BadRow" : Str), ("is_int" : Str), ("is_index" : Str), ("is_row" : Str), ("is_ascending" : Str), ("are_ints" : Str), ("is_pair" : Str), ("is_term" : Str), ("collected" : Str), ("plus" : Str), ("times_term" : Str), ("coefficient" : Str), ("without" : Str), ("value_at" : Str), ("variables_of" : Str), ("put_for" : Str), ("need_term" : Str), ("need_other" : Str), ("need_variable" : Str), ("need_row" : Str), ("term_of" : Str), ("value" : Str), ("add" : Str), ("times" : Str), ("put" : Str), ("_law_bag" : Str), ("_law_pick" : Str), ("_law_same" : Str), ("_law_is_int" : Str), ("_law_made" : Str), ("_law_plus" : Str), ("_law_by" : Str), ("_law_put" : Str), ("_law_value" : Str), ("_law_term" : Str), ("_law_atom" : Str), ("_law_formula" : Str), ("_law_row" : Str), ("_law_inner" : Str), ("_law_free" : Str), ("_law_is_so" : Str), ("_law_error" : Str), ("_law_judged" : Str)] : List Str)
theorem rune (w : World) : HandSHeadRun.RunEq Rw (PySem.W.view Rw.prog [55]) hk ob 4000 loose w := by
  intro os
  kernel_rfl
theorem r_is_int (F k : Nat) (u0 : U) (h : List O) : run G F (dsOf dd) (k + 1) "is_int" [u0] h = leave false h.length (exs G (run G F (dsOf dd) k) F b_is_int [some u0] h) := by kernel_rfl
theorem r_is_index (F k : Nat) (u0 : U) (h : List O) : run G F (dsOf dd) (k + 1) "is_index" [u0] h = leave false h.length (exs G (run G F (dsOf dd) k) F b_is_index [some u0] h) := by kernel_rfl
theorem r_is_row (F k : Nat) (u0 u1 u2 : U) (h : List O) : run G F (dsOf dd) (k + 1) "is_row" [u0, u1, u2] h = leave false h.length (exs G (run G F (dsOf dd) k) F b_is_row [some u0, some u1, some u2] h) := by kernel_rfl
theorem r_is_ascending (F k : Nat) (u0 : U) (h : List O) : run G F (dsOf dd) (k + 1) "is_ascending" [u0] h = leave false h.length (exs G (run G F (dsOf dd) k) F b_is_ascending [some u0, none, none] h) := by kernel_rfl
theorem r_are_ints (F k : Nat) (u0 : U) (h : List O) : run G F (dsOf dd) (k + 1) "are_ints" [u0] h = leave false h.length (exs G (run G F (dsOf dd) k) F b_are_ints [some u0, none] h) := by kernel_rfl
theorem r_is_pair (F k : Nat) (u0 : U) (h : List O) : run G F (dsOf dd) (k + 1) "is_pair" [u0] h = leave false h.length (exs G (run G F (dsOf dd) k) F b_is_pair [some u0] h) := by kernel_rfl
theorem r_is_term (F k : Nat) (u0 : U) (h : List O) : run G F (dsOf dd) (k + 1) "is_term" [u0] h = leave false h.length (exs G (run G F (dsOf dd) k) F b_is_term [some u0, none] h) := by kernel_rfl
theorem r_collected (F k : Nat) (u0 u1 : U) (h : List O) : run G F (dsOf dd) (k + 1) "collected" [u0, u1] h = leave false h.length (exs G (run G F (dsOf dd) k) F b_collected [some u0, some u1, none, none, none, none] h) := by kernel_rfl
theorem r_plus (F k : Nat) (u0 u1 : U) (h : List O) : run G F (dsOf dd) (k + 1) "plus" [u0, u1] h = leave false h.length (exs G (run G F (dsOf dd) k) F b_plus [some u0, some u1] h) := by kernel_rfl
theorem r_times_term (F k : Nat) (u0 u1 : U) (h : List O) : run G F (dsOf dd) (k + 1) "times_term" [u0, u1] h = leave false h.length (exs G (run G F (dsOf dd) k) F b_times_term [some u0, some u1, none, none] h) := by kernel_rfl
theorem r_coefficient (F k : Nat) (u0 u1 : U) (h : List O) : run G F (dsOf dd) (k + 1) "coefficient" [u0, u1] h = leave false h.length (exs G (run G F (dsOf dd) k) F b_coefficient [some u0, some u1, none, none] h) := by kernel_rfl
theorem r_without (F k : Nat) (u0 u1 : U) (h : List O) : run G F (dsOf dd) (k + 1) "without" [u0, u1] h = leave false h.length (exs G (run G F (dsOf dd) k) F b_without [some u0, some u1, none] h) := by kernel_rfl
theorem r_value_at (F k : Nat) (u0 u1 : U) (h : List O) : run G F (dsOf dd) (k + 1) "value_at" [u0, u1] h = leave false h.length (exs G (run G F (dsOf dd) k) F b_value_at [some u0, some u1, none, none] h) := by kernel_rfl
theorem r_variables_of (F k : Nat) (u0 : U) (h : List O) : run G F (dsOf dd) (k + 1) "variables_of" [u0] h = leave false h.length (exs G (run G F (dsOf dd) k) F b_variables_of [some u0, none, none] h) := by kernel_rfl
theorem r_put_for (F k : Nat) (u0 u1 u2 : U) (h : List O) : run G F (dsOf dd) (k + 1) "put_for" [u0, u1, u2] h = leave false h.length (exs G (run G F (dsOf dd) k) F b_put_for [some u0, some u1, some u2, none] h) := by kernel_rfl
theorem r_need_term (F k : Nat) (u0 : U) (h : List O) : run G F (dsOf dd) (k + 1) "need_term" [u0] h = leave false h.length (exs G (run G F (dsOf dd) k) F b_need_term [some u0] h) := by kernel_rfl
theorem r_need_other (F k : Nat) (u0 : U) (h : List O) : run G F (dsOf dd) (k + 1) "need_other" [u0] h = leave false h.length (exs G (run G F (dsOf dd) k) F b_need_other [some u0] h) := by kernel_rfl
theorem r_need_variable (F k : Nat) (u0 : U) (h : List O) : run G F (dsOf dd) (k + 1) "need_variable" [u0] h = leave false h.length (exs G (run G F (dsOf dd) k) F b_need_variable [some u0] h) := by kernel_rfl
theorem r_need_row (F k : Nat) (u0 u1 : U) (h : List O) : run G F (dsOf dd) (k + 1) "need_row" [u0, u1] h = leave false h.length (exs G (run G F (dsOf dd) k) F b_need_row [some u0, some u1] h) := by kernel_rfl
theorem r_term_of (F k : Nat) (u0 u1 : U) (h : List O) : run G F (dsOf dd) (k + 1) "term_of" [u0, u1] h = leave false h.length (exs G (run G F (dsOf dd) k) F b_term_of [some u0, some u1, none] h) := by kernel_rfl
theorem r_value (F k : Nat) (u0 u1 : U) (h : List O) : run G F (dsOf dd) (k + 1) "value" [u0, u1] h = leave false h.length (exs G (run G F (dsOf dd) k) F b_value [some u0, some u1] h) := by kernel_rfl
theorem r_add (F k : Nat) (u0 u1 : U) (h : List O) : run G F (dsOf dd) (k + 1) "add" [u0, u1] h = leave false h.length (exs G (run G F (dsOf dd) k) F b_add [some u0, some u1] h) := by kernel_rfl
theorem r_times (F k : Nat) (u0 u1 : U) (h : List O) : run G F (dsOf dd) (k + 1) "times" [u0, u1] h = leave false h.length (exs G (run G F (dsOf dd) k) F b_times [some u0, some u1] h) := by kernel_rfl
theorem r_put (F k : Nat) (u0 u1 u2 : U) (h : List O) : run G F (dsOf dd) (k + 1) "put" [u0, u1, u2] h = leave false h.length (exs G (run G F (dsOf dd) k) F b_put [some u0, some u1, some u2] h) := by kernel_rfl
theorem r__law_bag (F k : Nat) (u0 : U) (h : List O) : run G F (dsOf dd) (k + 1) "_law_bag" [u0] h = leave true h.length (exs G (run G F (dsOf dd) k) F b__law_bag [some u0] h) := by kernel_rfl
theorem r__law_pick (F k : Nat) (u0 u1 : U) (h : List O) : run G F (dsOf dd) (k + 1) "_law_pick" [u0, u1] h = leave false h.length (exs G (run G F (dsOf dd) k) F b__law_pick [some u0, some u1, none, none, none] h) := by kernel_rfl
theorem r__law_same (F k : Nat) (u0 u1 : U) (h : List O) : run G F (dsOf dd) (k + 1) "_law_same" [u0, u1] h = leave false h.length (exs G (run G F (dsOf dd) k) F b__law_same [some u0, some u1, none] h) := by kernel_rfl
theorem r__law_is_int (F k : Nat) (u0 : U) (h : List O) : run G F (dsOf dd) (k + 1) "_law_is_int" [u0] h = leave false h.length (exs G (run G F (dsOf dd) k) F b__law_is_int [some u0] h) := by kernel_rfl
theorem r__law_made (F k : Nat) (u0 u1 : U) (h : List O) : run G F (dsOf dd) (k + 1) "_law_made" [u0, u1] h = leave false h.length (exs G (run G F (dsOf dd) k) F b__law_made [some u0, some u1, none, none, none] h) := by kernel_rfl
theorem r__law_plus (F k : Nat) (u0 u1 : U) (h : List O) : run G F (dsOf dd) (k + 1) "_law_plus" [u0, u1] h = leave false h.length (exs G (run G F (dsOf dd) k) F b__law_plus [some u0, some u1] h) := by kernel_rfl
theorem r__law_by (F k : Nat) (u0 u1 : U) (h : List O) : run G F (dsOf dd) (k + 1) "_law_by" [u0, u1] h = leave false h.length (exs G (run G F (dsOf dd) k) F b__law_by [some u0, some u1, none, none] h) := by kernel_rfl
theorem r__law_put (F k : Nat) (u0 u1 u2 : U) (h : List O) : run G F (dsOf dd) (k + 1) "_law_put" [u0, u1, u2] h = leave false h.length (exs G (run G F (dsOf dd) k) F b__law_put [some u0, some u1, some u2, none, none, none, none] h) := by kernel_rfl
theorem r__law_value (F k : Nat) (u0 u1 : U) (h : List O) : run G F (dsOf dd) (k + 1) "_law_value" [u0, u1] h = leave false h.length (exs G (run G F (dsOf dd) k) F b__law_value [some u0, some u1, none, none] h) := by kernel_rfl
theorem r__law_term (F k : Nat) (u0 u1 u2 : U) (h : List O) : run G F (dsOf dd) (k + 1) "_law_term" [u0, u1, u2] h = leave false h.length (exs G (run G F (dsOf dd) k) F b__law_term [some u0, some u1, some u2, none, none, none] h) := by kernel_rfl
theorem r__law_row (F k : Nat) (u0 u1 u2 : U) (h : List O) : run G F (dsOf dd) (k + 1) "_law_row" [u0, u1, u2] h = leave false h.length (exs G (run G F (dsOf dd) k) F b__law_row [some u0, some u1, some u2, none] h) := by kernel_rfl
theorem r__law_error (F k : Nat) (u0 u1 u2 u3 : U) (h : List O) : run G F (dsOf dd) (k + 1) "_law_error" [u0, u1, u2, u3] h = leave false h.length (exs G (run G F (dsOf dd) k) F b__law_error [some u0, some u1, some u2, some u3, none] h) := by kernel_rfl
theorem r__law_judged (F k : Nat) (u0 : U) (h : List O) : run G F (dsOf dd) (k + 1) "_law_judged" [u0] h = leave false h.length (exs G (run G F (dsOf dd) k) F b__law_judged [some u0, none, none, none, none] h) := by kernel_rfl
theorem r_law (F k : Nat) (u0 : U) (h : List O) : run G F (dsOf dd) (k + 1) "law" [u0] h = leave false h.length (exs G (run G F (dsOf dd) k) F b_law [some u0, none, none, none, none, none, none, none, none, none, none, none, none, none, none, none, none, none, none, none, none, none, none, none] h) := by kernel_rfl
end K01

section
open PySem PySem.W PySem.Calls PyProof.Rows
theorem K01.fin (pure_ : ∀ ns : List Int, ns.length ≤ 63 → ∃ F h', Py.run K01.G F (Py.dsOf K01.dd) 60 "law" [.scr ns] [] = .ok (.d (.bool true)) h') : PySem.Challenge.rw_wholesworn_k01_terms_reckoned.Holds := by
  w_on; o_law
  refine HandSHeadRun.head_any (r := OpenLaw.row PySem.Challenge.rw_wholesworn_k01_terms_reckoned) (q := view (OpenLaw.row PySem.Challenge.rw_wholesworn_k01_terms_reckoned).prog [55]) (H := K01.hk) (ob := K01.ob) (M := 4000) (loose := K01.loose) (d := HandSHeadRun.topDef (OpenLaw.row PySem.Challenge.rw_wholesworn_k01_terms_reckoned).prog 55) (kwd := []) K01.ob_eq
    (by kernel_rfl) (fun s => by kernel_rfl) K01.rune (by kernel_rfl) (by kernel_rfl) (by kernel_rfl) (by rfl) (by first | assumption | decide +kernel) (by decide +kernel) ⟨rfl, rfl, rfl, rfl, rfl, by decide +kernel⟩ ?hw ?hc
  case hw => w_witness2
  case hc =>
    refine L2.walk_ofE (l := PySem.Challenge.rw_wholesworn_k01_terms_reckoned) (n := 63) (k := 60) (x := "script") (CX := Py.CXw (PySem.Challenge.rw_wholesworn_k01_terms_reckoned).prog) rfl (by decide) (by kernel_rfl) ⟨rfl, by decide, by decide⟩ ?F (fun _ _ _ _ z => Py.cxw_none z)
    intro w mg fa h Y N hmg0
    obtain ⟨K, KX, c⟩ := Y
    have hmg : mg ("law" : PySem.Str) = some (.ref fa) := by
      have e : (HandSHeadRun.topDef (OpenLaw.row PySem.Challenge.rw_wholesworn_k01_terms_reckoned).prog 55).name = ("law" : PySem.Str) := by kernel_rfl
      rw [← e]
      exact hmg0
    exact Py.law_end (k := 59) KX N hmg c rfl rfl (by decide +kernel) K01.ok K01.shs (by decide +kernel) (by decide +kernel) pure_
end

namespace K01
open PySem PySem.Spec PyProof.Rows L2 Py

variable {F k : Nat}
theorem p_is_int (d : D) (h : List O) : run G F (dsOf dd) (k + 1) "is_int" [.d d] h = .ok (.d (.bool (isI d))) h := by
  rw [r_is_int]
  cases d
  all_goals simp [b_is_int, evCl_0, evCl_1, evCl_2, evCl_3, evCl_4, evCl_k, evCl_k2, evCl_k2r, evCl_k3r, ev, tv, evs, evo, evc, evw, evV, evC, evT, ev2, ev1, evCh, evB, evIf, evNil, evCons, evTup, evLst, evCall, evSl, evNo, evPart, vAnd, vOr, vNot, tAndE, tOrE, tNotE, binU, cmpU, biU, meU, g1, g2, maxG, minG, Es.len, Tg.slots, Tgs.slots, ex, exs, exh, sNx, sBk, sCt, sSeq, sDrop, sRet, sRetN, sAsg, sPar2, sPar3, sSub, sIf, sRaise, asg, asgs, R.bind_ok, R.bind_err, R.bind_bad, R.stm_ok, R.stm_err, R.stm_bad, opt_some, opt_none, noErr_ok, noErr_bad, leave_d, leave_n, leave_e, leave_da, mkL_f, tru, truU, truD, asB, asBo, getU_t0, getU_t1, getU_t2, getU_t3, getU_l0, getU_l1, getU_l2, getU_m1, getU_m2, getU_m3, eqU_i, eqU_s, eqU_b, eqU_nil, eqU_nilL, eqv_ii, eqv_ss, eqv_tnil, eqv_lnil, bool_bne, lenU_t, lenU_l, tupleU_l, tupleU_t, isiU, tyN, isaB, tyNames, cmpI, negU, srcK_d, srcU, isI]
theorem p_is_index (d : D) (h : List O) : run G F (dsOf dd) (k + 2) "is_index" [.d d] h = .ok (.d (.bool (isIdx d))) h := by
  rw [r_is_index]
  cases d
  case int i => simp [b_is_index, evCl_0, evCl_1, evCl_2, evCl_3, evCl_4, evCl_k, evCl_k2, evCl_k2r, evCl_k3r, ev, tv, evs, evo, evc, evw, evV, evC, evT, ev2, ev1, evCh, evB, evIf, evNil, evCons, evTup, evLst, evCall, evSl, evNo, evPart, vAnd, vOr, vNot, tAndE, tOrE, tNotE, binU, cmpU, biU, meU, g1, g2, maxG, minG, Es.len, Tg.slots, Tgs.slots, ex, exs, exh, sNx, sBk, sCt, sSeq, sDrop, sRet, sRetN, sAsg, sPar2, sPar3, sSub, sIf, sRaise, asg, asgs, R.bind_ok, R.bind_err, R.bind_bad, R.stm_ok, R.stm_err, R.stm_bad, opt_some, opt_none, noErr_ok, noErr_bad, leave_d, leave_n, leave_e, leave_da, mkL_f, tru, truU, truD, asB, asBo, getU_t0, getU_t1, getU_t2, getU_t3, getU_l0, getU_l1, getU_l2, getU_m1, getU_m2, getU_m3, eqU_i, eqU_s, eqU_b, eqU_nil, eqU_nilL, eqv_ii, eqv_ss, eqv_tnil, eqv_lnil, bool_bne, lenU_t, lenU_l, tupleU_l, tupleU_t, isiU, tyN, isaB, tyNames, cmpI, negU, srcK_d, srcU, p_is_int, isI, isIdx]
  all_goals simp [b_is_index, evCl_0, evCl_1, evCl_2, evCl_3, evCl_4, evCl_k, evCl_k2, evCl_k2r, evCl_k3r, ev, tv, evs, evo, evc, evw, evV, evC, evT, ev2, ev1, evCh, evB, evIf, evNil, evCons, evTup, evLst, evCall, evSl, evNo, evPart, vAnd, vOr, vNot, tAndE, tOrE, tNotE, binU, cmpU, biU, meU, g1, g2, maxG, minG, Es.len, Tg.slots, Tgs.slots, ex, exs, exh, sNx, sBk, sCt, sSeq, sDrop, sRet, sRetN, sAsg, sPar2, sPar3, sSub, sIf, sRaise, asg, asgs, R.bind_ok, R.bind_err, R.bind_bad, R.stm_ok, R.stm_err, R.stm_bad, opt_some, opt_none, noErr_ok, noErr_bad, leave_d, leave_n, leave_e, leave_da, mkL_f, tru, truU, truD, asB, asBo, getU_t0, getU_t1, getU_t2, getU_t3, getU_l0, getU_l1, getU_l2, getU_m1, getU_m2, getU_m3, eqU_i, eqU_s, eqU_b, eqU_nil, eqU_nilL, eqv_ii, eqv_ss, eqv_tnil, eqv_lnil, bool_bne, lenU_t, lenU_l, tupleU_l, tupleU_t, isiU, tyN, isaB, tyNames, cmpI, negU, srcK_d, srcU, p_is_int, isI, isIdx]
theorem p_is_row (d : D) (a b : Int) (h : List O) : run G F (dsOf dd) (k + 1) "is_row" [.d d, .d (.int a), .d (.int b)] h = .ok (.d (.bool (rowB a b d))) h := by
  rw [r_is_row]
  cases d
  case tuple ds => by_cases h1 : a ≤ ds.length <;> simp [b_is_row, evCl_0, evCl_1, evCl_2, evCl_3, evCl_4, evCl_k, evCl_k2, evCl_k2r, evCl_k3r, ev, tv, evs, evo, evc, evw, evV, evC, evT, ev2, ev1, evCh, evB, evIf, evNil, evCons, evTup, evLst, evCall, evSl, evNo, evPart, vAnd, vOr, vNot, tAndE, tOrE, tNotE, binU, cmpU, biU, meU, g1, g2, maxG, minG, Es.len, Tg.slots, Tgs.slots, ex, exs, exh, sNx, sBk, sCt, sSeq, sDrop, sRet, sRetN, sAsg, sPar2, sPar3, sSub, sIf, sRaise, asg, asgs, R.bind_ok, R.bind_err, R.bind_bad, R.stm_ok, R.stm_err, R.stm_bad, opt_some, opt_none, noErr_ok, noErr_bad, leave_d, leave_n, leave_e, leave_da, mkL_f, tru, truU, truD, asB, asBo, getU_t0, getU_t1, getU_t2, getU_t3, getU_l0, getU_l1, getU_l2, getU_m1, getU_m2, getU_m3, eqU_i, eqU_s, eqU_b, eqU_nil, eqU_nilL, eqv_ii, eqv_ss, eqv_tnil, eqv_lnil, bool_bne, lenU_t, lenU_l, tupleU_l, tupleU_t, isiU, tyN, isaB, tyNames, cmpI, negU, srcK_d, srcU, rowB, h1]
  all_goals simp [b_is_row, evCl_0, evCl_1, evCl_2, evCl_3, evCl_4, evCl_k, evCl_k2, evCl_k2r, evCl_k3r, ev, tv, evs, evo, evc, evw, evV, evC, evT, ev2, ev1, evCh, evB, evIf, evNil, evCons, evTup, evLst, evCall, evSl, evNo, evPart, vAnd, vOr, vNot, tAndE, tOrE, tNotE, binU, cmpU, biU, meU, g1, g2, maxG, minG, Es.len, Tg.slots, Tgs.slots, ex, exs, exh, sNx, sBk, sCt, sSeq, sDrop, sRet, sRetN, sAsg, sPar2, sPar3, sSub, sIf, sRaise, asg, asgs, R.bind_ok, R.bind_err, R.bind_bad, R.stm_ok, R.stm_err, R.stm_bad, opt_some, opt_none, noErr_ok, noErr_bad, leave_d, leave_n, leave_e, leave_da, mkL_f, tru, truU, truD, asB, asBo, getU_t0, getU_t1, getU_t2, getU_t3, getU_l0, getU_l1, getU_l2, getU_m1, getU_m2, getU_m3, eqU_i, eqU_s, eqU_b, eqU_nil, eqU_nilL, eqv_ii, eqv_ss, eqv_tnil, eqv_lnil, bool_bne, lenU_t, lenU_l, tupleU_l, tupleU_t, isiU, tyN, isaB, tyNames, cmpI, negU, srcK_d, srcU, rowB]
theorem p_asc_key (vs : List Int) (hl : vs.length ≤ 10000000) (h : List O) : ev G (run G F (dsOf dd) k) c_is_ascending_0 [some (.d (.list (vs.map .int))), none, none] h = mkL false ((vs.zip (vs.drop 1)).map fun p => .bool (decide (p.1 < p.2))) h := by
  have e1 : evw G (run G F (dsOf dd) k) (.zip (.cons (.var 0) (.cons (.sl false (.var 0) (.yes (.int 1)) .no) .nil))) [some (.d (.list (vs.map .int))), none, none] h = .ok (.fix ((vs.zip (vs.drop 1)).map fun p => U.d (.tuple [.int p.1, .int p.2]))) h := by
    rw [← zipL_ints, List.map_drop]
    simp [evCl_0, evCl_1, evCl_2, evCl_3, evCl_4, evCl_k, evCl_k2, evCl_k2r, evCl_k3r, ev, tv, evs, evo, evc, evw, evV, evC, evT, ev2, ev1, evCh, evB, evIf, evNil, evCons, evTup, evLst, evCall, evSl, evNo, evPart, vAnd, vOr, vNot, tAndE, tOrE, tNotE, binU, cmpU, biU, meU, g1, g2, maxG, minG, Es.len, Tg.slots, Tgs.slots, ex, exs, exh, sNx, sBk, sCt, sSeq, sDrop, sRet, sRetN, sAsg, sPar2, sPar3, sSub, sIf, sRaise, asg, asgs, R.bind_ok, R.bind_err, R.bind_bad, R.stm_ok, R.stm_err, R.stm_bad, opt_some, opt_none, noErr_ok, noErr_bad, leave_d, leave_n, leave_e, leave_da, mkL_f, tru, truU, truD, asB, asBo, slU, lstLike, Py.listOf, asI, cut1, zipS]
  unfold c_is_ascending_0
  rw [ev_lc (fun u => match u with | .d (.tuple [.int a, .int b]) => .bool (decide (a < b)) | _ => .none) e1 (by simp; omega) (fun u hu => ?_), List.map_map]
  · rfl
  · obtain ⟨p, _, rfl⟩ := List.mem_map.mp hu
    exact ⟨[some (.d (.list (vs.map .int))), some (.d (.int p.1)), some (.d (.int p.2))], rfl, fun acc => by simp [evCl_0, evCl_1, evCl_2, evCl_3, evCl_4, evCl_k, evCl_k2, evCl_k2r, evCl_k3r, ev, tv, evs, evo, evc, evw, evV, evC, evT, ev2, ev1, evCh, evB, evIf, evNil, evCons, evTup, evLst, evCall, evSl, evNo, evPart, vAnd, vOr, vNot, tAndE, tOrE, tNotE, binU, cmpU, biU, meU, g1, g2, maxG, minG, Es.len, Tg.slots, Tgs.slots, ex, exs, exh, sNx, sBk, sCt, sSeq, sDrop, sRet, sRetN, sAsg, sPar2, sPar3, sSub, sIf, sRaise, asg, asgs, R.bind_ok, R.bind_err, R.bind_bad, R.stm_ok, R.stm_err, R.stm_bad, opt_some, opt_none, noErr_ok, noErr_bad, leave_d, leave_n, leave_e, leave_da, mkL_f, tru, truU, truD, asB, asBo, getU_t0, getU_t1, getU_t2, getU_t3, getU_l0, getU_l1, getU_l2, getU_m1, getU_m2, getU_m3, eqU_i, eqU_s, eqU_b, eqU_nil, eqU_nilL, eqv_ii, eqv_ss, eqv_tnil, eqv_lnil, bool_bne, lenU_t, lenU_l, tupleU_l, tupleU_t, isiU, tyN, isaB, tyNames, cmpI, negU, srcK_d, srcU]⟩
theorem p_is_ascending (vs : List Int) (hl : vs.length ≤ 10000000) (h : List O) : run G F (dsOf dd) (k + 1) "is_ascending" [.d (.list (vs.map .int))] h = .ok (.d (.bool (ascI vs))) h := by
  rw [r_is_ascending]
  have := p_asc_key (F := F) (k := k) vs hl h
  have e2 := ascI_zip vs
  rw [List.drop_one] at e2
  simp [b_is_ascending, evCl_0, evCl_1, evCl_2, evCl_3, evCl_4, evCl_k, evCl_k2, evCl_k2r, evCl_k3r, ev, tv, evs, evo, evc, evw, evV, evC, evT, ev2, ev1, evCh, evB, evIf, evNil, evCons, evTup, evLst, evCall, evSl, evNo, evPart, vAnd, vOr, vNot, tAndE, tOrE, tNotE, binU, cmpU, biU, meU, g1, g2, maxG, minG, Es.len, Tg.slots, Tgs.slots, ex, exs, exh, sNx, sBk, sCt, sSeq, sDrop, sRet, sRetN, sAsg, sPar2, sPar3, sSub, sIf, sRaise, asg, asgs, R.bind_ok, R.bind_err, R.bind_bad, R.stm_ok, R.stm_err, R.stm_bad, opt_some, opt_none, noErr_ok, noErr_bad, leave_d, leave_n, leave_e, leave_da, mkL_f, tru, truU, truD, asB, asBo, this, allU_map, e2]

end K01

namespace K01
open PySem PySem.Spec PyProof.Rows L2 Py

variable {F k : Nat}
theorem rowB_22 {d : D} (h : rowB 2 2 d = true) : ∃ a b, d = .tuple [a, b] := by
  unfold rowB at h
  split at h
  · rename_i ds
    simp only [Bool.and_eq_true, decide_eq_true_eq] at h
    match ds, h with
    | [a, b], _ => exact ⟨a, b, rfl⟩
    | [], h => simp at h
    | [_], h => simp at h
    | _ :: _ :: _ :: _, h => simp at h; omega
  · cases h
theorem rowB_22i (a b : D) : rowB 2 2 (.tuple [a, b]) = true := by simp [rowB]
theorem p_is_pair (d : D) (h : List O) : run G F (dsOf dd) (k + 3) "is_pair" [.d d] h = .ok (.d (.bool (pairB d))) h := by
  rw [r_is_pair]
  cases hr : rowB 2 2 d with
  | false =>
    have : pairB d = false := by
      cases q : pairB d with
      | false => rfl
      | true => obtain ⟨v, c, rfl, _⟩ := pairB_of q; rw [rowB_22i] at hr; cases hr
    simp [b_is_pair, evCl_0, evCl_1, evCl_2, evCl_3, evCl_4, evCl_k, evCl_k2, evCl_k2r, evCl_k3r, ev, tv, evs, evo, evc, evw, evV, evC, evT, ev2, ev1, evCh, evB, evIf, evNil, evCons, evTup, evLst, evCall, evSl, evNo, evPart, vAnd, vOr, vNot, tAndE, tOrE, tNotE, binU, cmpU, biU, meU, g1, g2, maxG, minG, Es.len, Tg.slots, Tgs.slots, ex, exs, exh, sNx, sBk, sCt, sSeq, sDrop, sRet, sRetN, sAsg, sPar2, sPar3, sSub, sIf, sRaise, asg, asgs, R.bind_ok, R.bind_err, R.bind_bad, R.stm_ok, R.stm_err, R.stm_bad, opt_some, opt_none, noErr_ok, noErr_bad, leave_d, leave_n, leave_e, leave_da, mkL_f, tru, truU, truD, asB, asBo, p_is_row, hr, this]
  | true =>
    obtain ⟨a, b, rfl⟩ := rowB_22 hr
    cases a
    case int v => cases b <;> by_cases hv : 0 ≤ v <;> simp [b_is_pair, evCl_0, evCl_1, evCl_2, evCl_3, evCl_4, evCl_k, evCl_k2, evCl_k2r, evCl_k3r, ev, tv, evs, evo, evc, evw, evV, evC, evT, ev2, ev1, evCh, evB, evIf, evNil, evCons, evTup, evLst, evCall, evSl, evNo, evPart, vAnd, vOr, vNot, tAndE, tOrE, tNotE, binU, cmpU, biU, meU, g1, g2, maxG, minG, Es.len, Tg.slots, Tgs.slots, ex, exs, exh, sNx, sBk, sCt, sSeq, sDrop, sRet, sRetN, sAsg, sPar2, sPar3, sSub, sIf, sRaise, asg, asgs, R.bind_ok, R.bind_err, R.bind_bad, R.stm_ok, R.stm_err, R.stm_bad, opt_some, opt_none, noErr_ok, noErr_bad, leave_d, leave_n, leave_e, leave_da, mkL_f, tru, truU, truD, asB, asBo, getU_t0, getU_t1, getU_t2, getU_t3, getU_l0, getU_l1, getU_l2, getU_m1, getU_m2, getU_m3, eqU_i, eqU_s, eqU_b, eqU_nil, eqU_nilL, eqv_ii, eqv_ss, eqv_tnil, eqv_lnil, bool_bne, lenU_t, lenU_l, tupleU_l, tupleU_t, isiU, tyN, isaB, tyNames, cmpI, negU, srcK_d, srcU, p_is_row, hr, p_is_index, p_is_int, isIdx, isI, pairB, hv]
    all_goals simp [b_is_pair, evCl_0, evCl_1, evCl_2, evCl_3, evCl_4, evCl_k, evCl_k2, evCl_k2r, evCl_k3r, ev, tv, evs, evo, evc, evw, evV, evC, evT, ev2, ev1, evCh, evB, evIf, evNil, evCons, evTup, evLst, evCall, evSl, evNo, evPart, vAnd, vOr, vNot, tAndE, tOrE, tNotE, binU, cmpU, biU, meU, g1, g2, maxG, minG, Es.len, Tg.slots, Tgs.slots, ex, exs, exh, sNx, sBk, sCt, sSeq, sDrop, sRet, sRetN, sAsg, sPar2, sPar3, sSub, sIf, sRaise, asg, asgs, R.bind_ok, R.bind_err, R.bind_bad, R.stm_ok, R.stm_err, R.stm_bad, opt_some, opt_none, noErr_ok, noErr_bad, leave_d, leave_n, leave_e, leave_da, mkL_f, tru, truU, truD, asB, asBo, getU_t0, getU_t1, getU_t2, getU_t3, getU_l0, getU_l1, getU_l2, getU_m1, getU_m2, getU_m3, eqU_i, eqU_s, eqU_b, eqU_nil, eqU_nilL, eqv_ii, eqv_ss, eqv_tnil, eqv_lnil, bool_bne, lenU_t, lenU_l, tupleU_l, tupleU_t, isiU, tyN, isaB, tyNames, cmpI, negU, srcK_d, srcU, p_is_row, hr, p_is_index, isIdx, pairB]
theorem nz_key (a : D) (ps : List D) (hl : ps.length ≤ 10000000) (h : List O) : ev G (run G F (dsOf dd) (k + 3)) c_is_term_1 [some (.d (.tuple [a, .tuple ps])), none] h = mkL false (ps.map fun x => .bool (pairNZ x)) h := by
  refine ev_lcD ps (fun x => .bool (pairNZ x)) (by simp [evCl_0, evCl_1, evCl_2, evCl_3, evCl_4, evCl_k, evCl_k2, evCl_k2r, evCl_k3r, ev, tv, evs, evo, evc, evw, evV, evC, evT, ev2, ev1, evCh, evB, evIf, evNil, evCons, evTup, evLst, evCall, evSl, evNo, evPart, vAnd, vOr, vNot, tAndE, tOrE, tNotE, binU, cmpU, biU, meU, g1, g2, maxG, minG, Es.len, Tg.slots, Tgs.slots, ex, exs, exh, sNx, sBk, sCt, sSeq, sDrop, sRet, sRetN, sAsg, sPar2, sPar3, sSub, sIf, sRaise, asg, asgs, R.bind_ok, R.bind_err, R.bind_bad, R.stm_ok, R.stm_err, R.stm_bad, opt_some, opt_none, noErr_ok, noErr_bad, leave_d, leave_n, leave_e, leave_da, mkL_f, tru, truU, truD, asB, asBo, getU_t0, getU_t1, getU_t2, getU_t3, getU_l0, getU_l1, getU_l2, getU_m1, getU_m2, getU_m3, eqU_i, eqU_s, eqU_b, eqU_nil, eqU_nilL, eqv_ii, eqv_ss, eqv_tnil, eqv_lnil, bool_bne, lenU_t, lenU_l, tupleU_l, tupleU_t, isiU, tyN, isaB, tyNames, cmpI, negU, srcK_d, srcU]) hl (fun x hx => ⟨[some (.d (.tuple [a, .tuple ps])), some (.d x)], rfl, fun acc => ?_⟩)
  cases hp : pairB x with
  | false =>
    have : pairNZ x = false := by
      cases q : pairNZ x with
      | false => rfl
      | true => obtain ⟨v, c, rfl, hv, _⟩ := pairNZ_of q; simp [pairB, hv] at hp
    simp [evCl_0, evCl_1, evCl_2, evCl_3, evCl_4, evCl_k, evCl_k2, evCl_k2r, evCl_k3r, ev, tv, evs, evo, evc, evw, evV, evC, evT, ev2, ev1, evCh, evB, evIf, evNil, evCons, evTup, evLst, evCall, evSl, evNo, evPart, vAnd, vOr, vNot, tAndE, tOrE, tNotE, binU, cmpU, biU, meU, g1, g2, maxG, minG, Es.len, Tg.slots, Tgs.slots, ex, exs, exh, sNx, sBk, sCt, sSeq, sDrop, sRet, sRetN, sAsg, sPar2, sPar3, sSub, sIf, sRaise, asg, asgs, R.bind_ok, R.bind_err, R.bind_bad, R.stm_ok, R.stm_err, R.stm_bad, opt_some, opt_none, noErr_ok, noErr_bad, leave_d, leave_n, leave_e, leave_da, mkL_f, tru, truU, truD, asB, asBo, p_is_pair, hp, this]
  | true =>
    obtain ⟨v, c, rfl, hv⟩ := pairB_of hp
    simp [evCl_0, evCl_1, evCl_2, evCl_3, evCl_4, evCl_k, evCl_k2, evCl_k2r, evCl_k3r, ev, tv, evs, evo, evc, evw, evV, evC, evT, ev2, ev1, evCh, evB, evIf, evNil, evCons, evTup, evLst, evCall, evSl, evNo, evPart, vAnd, vOr, vNot, tAndE, tOrE, tNotE, binU, cmpU, biU, meU, g1, g2, maxG, minG, Es.len, Tg.slots, Tgs.slots, ex, exs, exh, sNx, sBk, sCt, sSeq, sDrop, sRet, sRetN, sAsg, sPar2, sPar3, sSub, sIf, sRaise, asg, asgs, R.bind_ok, R.bind_err, R.bind_bad, R.stm_ok, R.stm_err, R.stm_bad, opt_some, opt_none, noErr_ok, noErr_bad, leave_d, leave_n, leave_e, leave_da, mkL_f, tru, truU, truD, asB, asBo, getU_t0, getU_t1, getU_t2, getU_t3, getU_l0, getU_l1, getU_l2, getU_m1, getU_m2, getU_m3, eqU_i, eqU_s, eqU_b, eqU_nil, eqU_nilL, eqv_ii, eqv_ss, eqv_tnil, eqv_lnil, bool_bne, lenU_t, lenU_l, tupleU_l, tupleU_t, isiU, tyN, isaB, tyNames, cmpI, negU, srcK_d, srcU, p_is_pair, hp, pairNZ, hv]
theorem fst_key (a : D) (ps : List D) (hl : ps.length ≤ 10000000) (hp : ∀ p ∈ ps, pairNZ p = true) (h : List O) : ev G (run G F (dsOf dd) k) c_is_term_0 [some (.d (.tuple [a, .tuple ps])), none] h = mkL false ((ps.map fstI).map .int) h := by
  rw [List.map_map]
  refine ev_lcD ps (fun x => .int (fstI x)) (by simp [evCl_0, evCl_1, evCl_2, evCl_3, evCl_4, evCl_k, evCl_k2, evCl_k2r, evCl_k3r, ev, tv, evs, evo, evc, evw, evV, evC, evT, ev2, ev1, evCh, evB, evIf, evNil, evCons, evTup, evLst, evCall, evSl, evNo, evPart, vAnd, vOr, vNot, tAndE, tOrE, tNotE, binU, cmpU, biU, meU, g1, g2, maxG, minG, Es.len, Tg.slots, Tgs.slots, ex, exs, exh, sNx, sBk, sCt, sSeq, sDrop, sRet, sRetN, sAsg, sPar2, sPar3, sSub, sIf, sRaise, asg, asgs, R.bind_ok, R.bind_err, R.bind_bad, R.stm_ok, R.stm_err, R.stm_bad, opt_some, opt_none, noErr_ok, noErr_bad, leave_d, leave_n, leave_e, leave_da, mkL_f, tru, truU, truD, asB, asBo, getU_t0, getU_t1, getU_t2, getU_t3, getU_l0, getU_l1, getU_l2, getU_m1, getU_m2, getU_m3, eqU_i, eqU_s, eqU_b, eqU_nil, eqU_nilL, eqv_ii, eqv_ss, eqv_tnil, eqv_lnil, bool_bne, lenU_t, lenU_l, tupleU_l, tupleU_t, isiU, tyN, isaB, tyNames, cmpI, negU, srcK_d, srcU]) hl (fun x hx => ?_)
  obtain ⟨v, c, rfl, _, _⟩ := pairNZ_of (hp x hx)
  exact ⟨[some (.d (.tuple [a, .tuple ps])), some (.d (.tuple [.int v, .int c]))], rfl, fun acc => by simp [evCl_0, evCl_1, evCl_2, evCl_3, evCl_4, evCl_k, evCl_k2, evCl_k2r, evCl_k3r, ev, tv, evs, evo, evc, evw, evV, evC, evT, ev2, ev1, evCh, evB, evIf, evNil, evCons, evTup, evLst, evCall, evSl, evNo, evPart, vAnd, vOr, vNot, tAndE, tOrE, tNotE, binU, cmpU, biU, meU, g1, g2, maxG, minG, Es.len, Tg.slots, Tgs.slots, ex, exs, exh, sNx, sBk, sCt, sSeq, sDrop, sRet, sRetN, sAsg, sPar2, sPar3, sSub, sIf, sRaise, asg, asgs, R.bind_ok, R.bind_err, R.bind_bad, R.stm_ok, R.stm_err, R.stm_bad, opt_some, opt_none, noErr_ok, noErr_bad, leave_d, leave_n, leave_e, leave_da, mkL_f, tru, truU, truD, asB, asBo, getU_t0, getU_t1, getU_t2, getU_t3, getU_l0, getU_l1, getU_l2, getU_m1, getU_m2, getU_m3, eqU_i, eqU_s, eqU_b, eqU_nil, eqU_nilL, eqv_ii, eqv_ss, eqv_tnil, eqv_lnil, bool_bne, lenU_t, lenU_l, tupleU_l, tupleU_t, isiU, tyN, isaB, tyNames, cmpI, negU, srcK_d, srcU, fstI]⟩
theorem p_is_term (d : D) (hs : big d ≤ 10000000) (h : List O) : run G F (dsOf dd) (k + 4) "is_term" [.d d] h = .ok (.d (.bool (termB d))) h := by
  rw [r_is_term]
  cases hr : rowB 2 2 d with
  | false =>
    have : termB d = false := by
      cases q : termB d with
      | false => rfl
      | true => obtain ⟨v, c, rfl, _⟩ := termB_of q; rw [rowB_22i] at hr; cases hr
    simp [b_is_term, evCl_0, evCl_1, evCl_2, evCl_3, evCl_4, evCl_k, evCl_k2, evCl_k2r, evCl_k3r, ev, tv, evs, evo, evc, evw, evV, evC, evT, ev2, ev1, evCh, evB, evIf, evNil, evCons, evTup, evLst, evCall, evSl, evNo, evPart, vAnd, vOr, vNot, tAndE, tOrE, tNotE, binU, cmpU, biU, meU, g1, g2, maxG, minG, Es.len, Tg.slots, Tgs.slots, ex, exs, exh, sNx, sBk, sCt, sSeq, sDrop, sRet, sRetN, sAsg, sPar2, sPar3, sSub, sIf, sRaise, asg, asgs, R.bind_ok, R.bind_err, R.bind_bad, R.stm_ok, R.stm_err, R.stm_bad, opt_some, opt_none, noErr_ok, noErr_bad, leave_d, leave_n, leave_e, leave_da, mkL_f, tru, truU, truD, asB, asBo, p_is_row, hr, this]
  | true =>
    obtain ⟨a, b, rfl⟩ := rowB_22 hr
    cases a
    case int c =>
      cases b
      case tuple ps =>
        have hl : ps.length ≤ 10000000 := Nat.le_trans (big_tup_len (Nat.le_refl _)) (Nat.le_trans (Nat.le_of_lt (big_tup_mem (d := .tuple ps) (ds := [.int c, .tuple ps]) (by simp))) hs)
        have k1 := nz_key (F := F) (k := k) (.int c) ps hl
        cases ha : ps.all pairNZ with
        | false => simp [b_is_term, evCl_0, evCl_1, evCl_2, evCl_3, evCl_4, evCl_k, evCl_k2, evCl_k2r, evCl_k3r, ev, tv, evs, evo, evc, evw, evV, evC, evT, ev2, ev1, evCh, evB, evIf, evNil, evCons, evTup, evLst, evCall, evSl, evNo, evPart, vAnd, vOr, vNot, tAndE, tOrE, tNotE, binU, cmpU, biU, meU, g1, g2, maxG, minG, Es.len, Tg.slots, Tgs.slots, ex, exs, exh, sNx, sBk, sCt, sSeq, sDrop, sRet, sRetN, sAsg, sPar2, sPar3, sSub, sIf, sRaise, asg, asgs, R.bind_ok, R.bind_err, R.bind_bad, R.stm_ok, R.stm_err, R.stm_bad, opt_some, opt_none, noErr_ok, noErr_bad, leave_d, leave_n, leave_e, leave_da, mkL_f, tru, truU, truD, asB, asBo, getU_t0, getU_t1, getU_t2, getU_t3, getU_l0, getU_l1, getU_l2, getU_m1, getU_m2, getU_m3, eqU_i, eqU_s, eqU_b, eqU_nil, eqU_nilL, eqv_ii, eqv_ss, eqv_tnil, eqv_lnil, bool_bne, lenU_t, lenU_l, tupleU_l, tupleU_t, isiU, tyN, isaB, tyNames, cmpI, negU, srcK_d, srcU, p_is_row, hr, p_is_int, isI, k1, allU_map, ha, termB]
        | true =>
          have k2 := fst_key (F := F) (k := k + 3) (.int c) ps hl (List.all_eq_true.mp ha)
          have k3 := p_is_ascending (F := F) (k := k + 2) (ps.map fstI) (by simpa using hl) h
          simp [b_is_term, evCl_0, evCl_1, evCl_2, evCl_3, evCl_4, evCl_k, evCl_k2, evCl_k2r, evCl_k3r, ev, tv, evs, evo, evc, evw, evV, evC, evT, ev2, ev1, evCh, evB, evIf, evNil, evCons, evTup, evLst, evCall, evSl, evNo, evPart, vAnd, vOr, vNot, tAndE, tOrE, tNotE, binU, cmpU, biU, meU, g1, g2, maxG, minG, Es.len, Tg.slots, Tgs.slots, ex, exs, exh, sNx, sBk, sCt, sSeq, sDrop, sRet, sRetN, sAsg, sPar2, sPar3, sSub, sIf, sRaise, asg, asgs, R.bind_ok, R.bind_err, R.bind_bad, R.stm_ok, R.stm_err, R.stm_bad, opt_some, opt_none, noErr_ok, noErr_bad, leave_d, leave_n, leave_e, leave_da, mkL_f, tru, truU, truD, asB, asBo, getU_t0, getU_t1, getU_t2, getU_t3, getU_l0, getU_l1, getU_l2, getU_m1, getU_m2, getU_m3, eqU_i, eqU_s, eqU_b, eqU_nil, eqU_nilL, eqv_ii, eqv_ss, eqv_tnil, eqv_lnil, bool_bne, lenU_t, lenU_l, tupleU_l, tupleU_t, isiU, tyN, isaB, tyNames, cmpI, negU, srcK_d, srcU, p_is_row, hr, p_is_int, isI, k1, k2, k3, allU_map, ha, termB, -List.map_map]
      all_goals simp [b_is_term, evCl_0, evCl_1, evCl_2, evCl_3, evCl_4, evCl_k, evCl_k2, evCl_k2r, evCl_k3r, ev, tv, evs, evo, evc, evw, evV, evC, evT, ev2, ev1, evCh, evB, evIf, evNil, evCons, evTup, evLst, evCall, evSl, evNo, evPart, vAnd, vOr, vNot, tAndE, tOrE, tNotE, binU, cmpU, biU, meU, g1, g2, maxG, minG, Es.len, Tg.slots, Tgs.slots, ex, exs, exh, sNx, sBk, sCt, sSeq, sDrop, sRet, sRetN, sAsg, sPar2, sPar3, sSub, sIf, sRaise, asg, asgs, R.bind_ok, R.bind_err, R.bind_bad, R.stm_ok, R.stm_err, R.stm_bad, opt_some, opt_none, noErr_ok, noErr_bad, leave_d, leave_n, leave_e, leave_da, mkL_f, tru, truU, truD, asB, asBo, getU_t0, getU_t1, getU_t2, getU_t3, getU_l0, getU_l1, getU_l2, getU_m1, getU_m2, getU_m3, eqU_i, eqU_s, eqU_b, eqU_nil, eqU_nilL, eqv_ii, eqv_ss, eqv_tnil, eqv_lnil, bool_bne, lenU_t, lenU_l, tupleU_l, tupleU_t, isiU, tyN, isaB, tyNames, cmpI, negU, srcK_d, srcU, p_is_row, hr, p_is_int, isI, termB]
    all_goals simp [b_is_term, evCl_0, evCl_1, evCl_2, evCl_3, evCl_4, evCl_k, evCl_k2, evCl_k2r, evCl_k3r, ev, tv, evs, evo, evc, evw, evV, evC, evT, ev2, ev1, evCh, evB, evIf, evNil, evCons, evTup, evLst, evCall, evSl, evNo, evPart, vAnd, vOr, vNot, tAndE, tOrE, tNotE, binU, cmpU, biU, meU, g1, g2, maxG, minG, Es.len, Tg.slots, Tgs.slots, ex, exs, exh, sNx, sBk, sCt, sSeq, sDrop, sRet, sRetN, sAsg, sPar2, sPar3, sSub, sIf, sRaise, asg, asgs, R.bind_ok, R.bind_err, R.bind_bad, R.stm_ok, R.stm_err, R.stm_bad, opt_some, opt_none, noErr_ok, noErr_bad, leave_d, leave_n, leave_e, leave_da, mkL_f, tru, truU, truD, asB, asBo, getU_t0, getU_t1, getU_t2, getU_t3, getU_l0, getU_l1, getU_l2, getU_m1, getU_m2, getU_m3, eqU_i, eqU_s, eqU_b, eqU_nil, eqU_nilL, eqv_ii, eqv_ss, eqv_tnil, eqv_lnil, bool_bne, lenU_t, lenU_l, tupleU_l, tupleU_t, isiU, tyN, isaB, tyNames, cmpI, negU, srcK_d, srcU, p_is_row, hr, p_is_int, isI, termB]
def varsD : D → List Int
  | .tuple [_, .tuple ps] => ps.map fstI
  | _ => []
theorem p_variables_of (d : D) (hs : big d ≤ 10000000) (ht : termB d = true) (h : List O) : run G F (dsOf dd) (k + 1) "variables_of" [.d d] h = .ok (.d (.list ((varsD d).map .int))) h := by
  rw [r_variables_of]
  obtain ⟨c, ps, rfl, hp, _⟩ := termB_of ht
  have hl : ps.length ≤ 10000000 := Nat.le_trans (big_tup_len (Nat.le_refl _)) (Nat.le_trans (Nat.le_of_lt (big_tup_mem (d := .tuple ps) (ds := [.int c, .tuple ps]) (by simp))) hs)
  have key : ev G (run G F (dsOf dd) k) c_variables_of_0 [some (.d (.tuple [.int c, .tuple ps])), none, none] h = mkL false ((ps.map fstI).map .int) h := by
    rw [List.map_map]
    refine ev_lcD ps (fun x => .int (fstI x)) (by simp [evCl_0, evCl_1, evCl_2, evCl_3, evCl_4, evCl_k, evCl_k2, evCl_k2r, evCl_k3r, ev, tv, evs, evo, evc, evw, evV, evC, evT, ev2, ev1, evCh, evB, evIf, evNil, evCons, evTup, evLst, evCall, evSl, evNo, evPart, vAnd, vOr, vNot, tAndE, tOrE, tNotE, binU, cmpU, biU, meU, g1, g2, maxG, minG, Es.len, Tg.slots, Tgs.slots, ex, exs, exh, sNx, sBk, sCt, sSeq, sDrop, sRet, sRetN, sAsg, sPar2, sPar3, sSub, sIf, sRaise, asg, asgs, R.bind_ok, R.bind_err, R.bind_bad, R.stm_ok, R.stm_err, R.stm_bad, opt_some, opt_none, noErr_ok, noErr_bad, leave_d, leave_n, leave_e, leave_da, mkL_f, tru, truU, truD, asB, asBo, getU_t0, getU_t1, getU_t2, getU_t3, getU_l0, getU_l1, getU_l2, getU_m1, getU_m2, getU_m3, eqU_i, eqU_s, eqU_b, eqU_nil, eqU_nilL, eqv_ii, eqv_ss, eqv_tnil, eqv_lnil, bool_bne, lenU_t, lenU_l, tupleU_l, tupleU_t, isiU, tyN, isaB, tyNames, cmpI, negU, srcK_d, srcU]) hl (fun x hx => ?_)
    obtain ⟨v, w, rfl, _, _⟩ := pairNZ_of (hp x hx)
    exact ⟨[some (.d (.tuple [.int c, .tuple ps])), some (.d (.int v)), some (.d (.int w))], rfl, fun acc => by simp [evCl_0, evCl_1, evCl_2, evCl_3, evCl_4, evCl_k, evCl_k2, evCl_k2r, evCl_k3r, ev, tv, evs, evo, evc, evw, evV, evC, evT, ev2, ev1, evCh, evB, evIf, evNil, evCons, evTup, evLst, evCall, evSl, evNo, evPart, vAnd, vOr, vNot, tAndE, tOrE, tNotE, binU, cmpU, biU, meU, g1, g2, maxG, minG, Es.len, Tg.slots, Tgs.slots, ex, exs, exh, sNx, sBk, sCt, sSeq, sDrop, sRet, sRetN, sAsg, sPar2, sPar3, sSub, sIf, sRaise, asg, asgs, R.bind_ok, R.bind_err, R.bind_bad, R.stm_ok, R.stm_err, R.stm_bad, opt_some, opt_none, noErr_ok, noErr_bad, leave_d, leave_n, leave_e, leave_da, mkL_f, tru, truU, truD, asB, asBo, getU_t0, getU_t1, getU_t2, getU_t3, getU_l0, getU_l1, getU_l2, getU_m1, getU_m2, getU_m3, eqU_i, eqU_s, eqU_b, eqU_nil, eqU_nilL, eqv_ii, eqv_ss, eqv_tnil, eqv_lnil, bool_bne, lenU_t, lenU_l, tupleU_l, tupleU_t, isiU, tyN, isaB, tyNames, cmpI, negU, srcK_d, srcU, fstI]⟩
  simp [b_variables_of, evCl_0, evCl_1, evCl_2, evCl_3, evCl_4, evCl_k, evCl_k2, evCl_k2r, evCl_k3r, ev, tv, evs, evo, evc, evw, evV, evC, evT, ev2, ev1, evCh, evB, evIf, evNil, evCons, evTup, evLst, evCall, evSl, evNo, evPart, vAnd, vOr, vNot, tAndE, tOrE, tNotE, binU, cmpU, biU, meU, g1, g2, maxG, minG, Es.len, Tg.slots, Tgs.slots, ex, exs, exh, sNx, sBk, sCt, sSeq, sDrop, sRet, sRetN, sAsg, sPar2, sPar3, sSub, sIf, sRaise, asg, asgs, R.bind_ok, R.bind_err, R.bind_bad, R.stm_ok, R.stm_err, R.stm_bad, opt_some, opt_none, noErr_ok, noErr_bad, leave_d, leave_n, leave_e, leave_da, mkL_f, tru, truU, truD, asB, asBo, key, varsD, -List.map_map]

end K01

namespace K01
open PySem PySem.Spec PyProof.Rows L2 Py

variable {F k : Nat}
mutual
def plainD : D → Bool
  | .none => true
  | .bool _ => true
  | .int _ => true
  | .str _ => true
  | .tuple ds => plainDs ds
  | .list _ => false
  | .dict _ => false
def plainDs : List D → Bool
  | [] => true
  | d :: r => plainD d && plainDs r
end
theorem plainDs_mem : ∀ {ds : List D} {d : D}, plainDs ds = true → d ∈ ds → plainD d = true
  | x :: r, d, h, hm => by
    unfold plainDs at h
    obtain ⟨h1, h2⟩ := Bool.and_eq_true_iff.mp h
    rcases List.mem_cons.mp hm with e | hm
    · rw [e]; exact h1
    · exact plainDs_mem h2 hm
theorem depths_mem : ∀ {ds : List D} {d : D}, d ∈ ds → d.depth ≤ PyData.depthAll ds
  | x :: r, d, hm => by
    unfold PyData.depthAll
    rcases List.mem_cons.mp hm with e | hm
    · rw [e]; omega
    · have := depths_mem hm; omega
theorem eqv_refl_i (i : Int) : PyData.eqv (.int i) (.int i) = true := by simp
theorem eqU_n (neg : Bool) (a : D) (h : List O) : Py.eqU neg (.d a) (.d .none) h = .ok (.d (.bool (neg != PyData.eqv a .none))) h := eqU_of (.inr (by simp [PyData.depth]))
theorem isU_nn (h : List O) : Py.isU false (.d .none) (.d .none) h = .ok (.d (.bool true)) h := rfl
theorem p_same_refl : ∀ (n : Nat) (d : D), d.depth ≤ n → big d ≤ 1000000 → plainD d = true → ∀ (k : Nat) (h : List O), run G F (dsOf dd) (k + n + 1) "_law_same" [.d d, .d d] h = .ok (.d (.bool true)) h := by
  intro n
  induction n with
  | zero =>
    intro d hd hs hp k h
    rw [r__law_same]
    cases d <;> first | (simp [PyData.depth] at hd; done) | (simp [plainD] at hp; done) | simp [b__law_same, evCl_0, evCl_1, evCl_2, evCl_3, evCl_4, evCl_k, evCl_k2, evCl_k2r, evCl_k3r, ev, tv, evs, evo, evc, evw, evV, evC, evT, ev2, ev1, evCh, evB, evIf, evNil, evCons, evTup, evLst, evCall, evSl, evNo, evPart, vAnd, vOr, vNot, tAndE, tOrE, tNotE, binU, cmpU, biU, meU, g1, g2, maxG, minG, Es.len, Tg.slots, Tgs.slots, ex, exs, exh, sNx, sBk, sCt, sSeq, sDrop, sRet, sRetN, sAsg, sPar2, sPar3, sSub, sIf, sRaise, asg, asgs, R.bind_ok, R.bind_err, R.bind_bad, R.stm_ok, R.stm_err, R.stm_bad, opt_some, opt_none, noErr_ok, noErr_bad, leave_d, leave_n, leave_e, leave_da, mkL_f, tru, truU, truD, asB, asBo, getU_t0, getU_t1, getU_t2, getU_t3, getU_l0, getU_l1, getU_l2, getU_m1, getU_m2, getU_m3, eqU_i, eqU_s, eqU_b, eqU_nil, eqU_nilL, eqv_ii, eqv_ss, eqv_tnil, eqv_lnil, bool_bne, lenU_t, lenU_l, tupleU_l, tupleU_t, isiU, tyN, isaB, tyNames, cmpI, negU, srcK_d, srcU, Py.isU, Py.isNon, PyData.eqv, eqU_n]
  | succ n ih =>
    intro d hd hs hp k h
    cases d
    case tuple ds =>
      have hl : ds.length ≤ 1000000 := big_tup_len hs
      have hr : Py.inR (ds.length : Int) = true := Py.inR_of (by omega) (by omega)
      have key : ev G (run G F (dsOf dd) (k + n + 1)) c__law_same_0 [some (.d (.tuple ds)), some (.d (.tuple ds)), none] h = mkL false [] h := by
        have e1 : evw G (run G F (dsOf dd) (k + n + 1)) (.rng (.cons (.bi .len false (.cons (.var 1) .nil)) .nil)) [some (.d (.tuple ds)), some (.d (.tuple ds)), none] h = .ok (.fix (rngL 0 1 ds.length)) h := by
          simp [evCl_0, evCl_1, evCl_2, evCl_3, evCl_4, evCl_k, evCl_k2, evCl_k2r, evCl_k3r, ev, tv, evs, evo, evc, evw, evV, evC, evT, ev2, ev1, evCh, evB, evIf, evNil, evCons, evTup, evLst, evCall, evSl, evNo, evPart, vAnd, vOr, vNot, tAndE, tOrE, tNotE, binU, cmpU, biU, meU, g1, g2, maxG, minG, Es.len, Tg.slots, Tgs.slots, ex, exs, exh, sNx, sBk, sCt, sSeq, sDrop, sRet, sRetN, sAsg, sPar2, sPar3, sSub, sIf, sRaise, asg, asgs, R.bind_ok, R.bind_err, R.bind_bad, R.stm_ok, R.stm_err, R.stm_bad, opt_some, opt_none, noErr_ok, noErr_bad, leave_d, leave_n, leave_e, leave_da, mkL_f, tru, truU, truD, asB, asBo, getU_t0, getU_t1, getU_t2, getU_t3, getU_l0, getU_l1, getU_l2, getU_m1, getU_m2, getU_m3, eqU_i, eqU_s, eqU_b, eqU_nil, eqU_nilL, eqv_ii, eqv_ss, eqv_tnil, eqv_lnil, bool_bne, lenU_t, lenU_l, tupleU_l, tupleU_t, isiU, tyN, isaB, tyNames, cmpI, negU, srcK_d, srcU, rngS, hr]
        unfold c__law_same_0
        refine (ev_lcp (h1 := h) (us := rngL 0 1 ds.length) (fun _ => false) (fun _ => .none) e1 (by simp [rngL]; omega) (fun u hu => ?_)).trans (by rw [List.filter_eq_nil_iff.mpr (by simp)]; rfl)
        rw [rngL_map] at hu
        obtain ⟨i, hi, rfl⟩ := List.mem_map.mp hu
        have hi' : i < ds.length := List.mem_range.mp hi
        have hg : L2.atI ds (i : Int) = some ds[i] := L2.atI_nat (List.getElem?_eq_getElem hi')
        have hm : ds[i] ∈ ds := List.getElem_mem hi'
        have hdep : ds[i].depth ≤ n := by
          have := depths_mem hm
          have e : PyData.depth (.tuple ds) = PyData.depthAll ds + 1 := by rw [PyData.depth]
          omega
        have hb : big ds[i] ≤ 1000000 := Nat.le_trans (Nat.le_of_lt (big_tup_mem hm)) hs
        have hpl : plainD ds[i] = true := plainDs_mem (ds := ds) (by simpa [plainD] using hp) hm
        have q := ih ds[i] hdep hb hpl k
        refine ⟨[some (.d (.tuple ds)), some (.d (.tuple ds)), some (.d (.int i))], rfl, fun acc => ⟨?_, fun z => by cases z⟩⟩
        simp [evCl_0, evCl_1, evCl_2, evCl_3, evCl_4, evCl_k, evCl_k2, evCl_k2r, evCl_k3r, ev, tv, evs, evo, evc, evw, evV, evC, evT, ev2, ev1, evCh, evB, evIf, evNil, evCons, evTup, evLst, evCall, evSl, evNo, evPart, vAnd, vOr, vNot, tAndE, tOrE, tNotE, binU, cmpU, biU, meU, g1, g2, maxG, minG, Es.len, Tg.slots, Tgs.slots, ex, exs, exh, sNx, sBk, sCt, sSeq, sDrop, sRet, sRetN, sAsg, sPar2, sPar3, sSub, sIf, sRaise, asg, asgs, R.bind_ok, R.bind_err, R.bind_bad, R.stm_ok, R.stm_err, R.stm_bad, opt_some, opt_none, noErr_ok, noErr_bad, leave_d, leave_n, leave_e, leave_da, mkL_f, tru, truU, truD, asB, asBo, getU_tup hg, q]
      rw [show k + (n + 1) + 1 = (k + n + 1) + 1 by omega, r__law_same]
      simp [b__law_same, evCl_0, evCl_1, evCl_2, evCl_3, evCl_4, evCl_k, evCl_k2, evCl_k2r, evCl_k3r, ev, tv, evs, evo, evc, evw, evV, evC, evT, ev2, ev1, evCh, evB, evIf, evNil, evCons, evTup, evLst, evCall, evSl, evNo, evPart, vAnd, vOr, vNot, tAndE, tOrE, tNotE, binU, cmpU, biU, meU, g1, g2, maxG, minG, Es.len, Tg.slots, Tgs.slots, ex, exs, exh, sNx, sBk, sCt, sSeq, sDrop, sRet, sRetN, sAsg, sPar2, sPar3, sSub, sIf, sRaise, asg, asgs, R.bind_ok, R.bind_err, R.bind_bad, R.stm_ok, R.stm_err, R.stm_bad, opt_some, opt_none, noErr_ok, noErr_bad, leave_d, leave_n, leave_e, leave_da, mkL_f, tru, truU, truD, asB, asBo, getU_t0, getU_t1, getU_t2, getU_t3, getU_l0, getU_l1, getU_l2, getU_m1, getU_m2, getU_m3, eqU_i, eqU_s, eqU_b, eqU_nil, eqU_nilL, eqv_ii, eqv_ss, eqv_tnil, eqv_lnil, bool_bne, lenU_t, lenU_l, tupleU_l, tupleU_t, isiU, tyN, isaB, tyNames, cmpI, negU, srcK_d, srcU, key, pures]
    case list ds => simp [plainD] at hp
    case dict ds => simp [plainD] at hp
    all_goals
      rw [r__law_same]
      simp [b__law_same, evCl_0, evCl_1, evCl_2, evCl_3, evCl_4, evCl_k, evCl_k2, evCl_k2r, evCl_k3r, ev, tv, evs, evo, evc, evw, evV, evC, evT, ev2, ev1, evCh, evB, evIf, evNil, evCons, evTup, evLst, evCall, evSl, evNo, evPart, vAnd, vOr, vNot, tAndE, tOrE, tNotE, binU, cmpU, biU, meU, g1, g2, maxG, minG, Es.len, Tg.slots, Tgs.slots, ex, exs, exh, sNx, sBk, sCt, sSeq, sDrop, sRet, sRetN, sAsg, sPar2, sPar3, sSub, sIf, sRaise, asg, asgs, R.bind_ok, R.bind_err, R.bind_bad, R.stm_ok, R.stm_err, R.stm_bad, opt_some, opt_none, noErr_ok, noErr_bad, leave_d, leave_n, leave_e, leave_da, mkL_f, tru, truU, truD, asB, asBo, getU_t0, getU_t1, getU_t2, getU_t3, getU_l0, getU_l1, getU_l2, getU_m1, getU_m2, getU_m3, eqU_i, eqU_s, eqU_b, eqU_nil, eqU_nilL, eqv_ii, eqv_ss, eqv_tnil, eqv_lnil, bool_bne, lenU_t, lenU_l, tupleU_l, tupleU_t, isiU, tyN, isaB, tyNames, cmpI, negU, srcK_d, srcU, Py.isU, Py.isNon, PyData.eqv, eqU_n]

end K01

namespace K01
open PySem PySem.Spec PyProof.Rows L2 Py

variable {F k : Nat}
/-! ### the bag -/
def bagO (cs : List Int) (a c s : Int) : O := .lst [.list (cs.map .int), .int a, .int c, .int s]
def IsBag (cs : List Int) (n : Int) (o : O) : Prop := ∃ a c s, o = bagO cs a c s ∧ 0 ≤ a ∧ a ≤ n ∧ 0 ≤ c ∧ 0 ≤ s ∧ s < 2305843009213693951
theorem atI_int {xs : List Int} {i : Int} (h0 : 0 ≤ i) (h1 : i < xs.length) : L2.atI (xs.map PyData.int) i = some (.int (xs.getD i.toNat 0)) := by
  unfold L2.atI L2.ixN
  rw [if_pos h0, if_pos (by simpa using h1)]
  have : i.toNat < xs.length := by omega
  simp [List.getElem?_map, List.getElem?_eq_getElem this, List.getD_eq_getElem?_getD]
theorem pow_lt_wide {a : Nat} (h : a < 2 ^ 200) : a < 2 ^ 100000 := Nat.lt_of_lt_of_le h (Nat.pow_le_pow_right (by decide) (by decide))
theorem mulOk_wide {i j : Int} (hi : i.natAbs < 2 ^ 200) (hj : j.natAbs < 2 ^ 200) : mulOk i j = true := by
  unfold mulOk
  simp [pow_lt_wide hi, pow_lt_wide hj]
theorem p_bag (cs : List Int) (h : List O) : run G F (dsOf dd) (k + 1) "_law_bag" [.scr cs] h = .ok (.lab h.length) (h ++ [bagO cs 0 0 7]) := by
  rw [r__law_bag]
  simp [b__law_bag, evCl_0, evCl_1, evCl_2, evCl_3, evCl_4, evCl_k, evCl_k2, evCl_k2r, evCl_k3r, ev, tv, evs, evo, evc, evw, evV, evC, evT, ev2, ev1, evCh, evB, evIf, evNil, evCons, evTup, evLst, evCall, evSl, evNo, evPart, vAnd, vOr, vNot, tAndE, tOrE, tNotE, binU, cmpU, biU, meU, g1, g2, maxG, minG, Es.len, Tg.slots, Tgs.slots, ex, exs, exh, sNx, sBk, sCt, sSeq, sDrop, sRet, sRetN, sAsg, sPar2, sPar3, sSub, sIf, sRaise, asg, asgs, R.bind_ok, R.bind_err, R.bind_bad, R.stm_ok, R.stm_err, R.stm_bad, opt_some, opt_none, noErr_ok, noErr_bad, leave_d, leave_n, leave_e, leave_da, mkL_f, tru, truU, truD, asB, asBo, listU, seqOf, pures, mkL_t, leave, bagO]
def cellA (cs : List Int) (a s : Int) : Int := if a < cs.length then cs.getD a.toNat 0 else s.fdiv 3 + 77003 * a
def cellB (c : Int) : Int := if 0 ≤ c then 2 * c else -2 * c - 1
def cellC (c a : Int) : Int := (c * 1103515249 + 12820163 * a + 2147480009) * (c + 86028157 + a)
def cellD (d : Int) : Int := (d * d).fdiv 4093 + d * 6700417
theorem cellB_nn (c : Int) : 0 ≤ cellB c := by unfold cellB; split <;> omega
theorem cellC_ok {c a : Int} (h0 : 0 ≤ c) (h1 : c < 1000000000000000000) (h2 : 0 ≤ a) (h3 : a ≤ 100000) : mulOk (c * 1103515249 + 12820163 * a + 2147480009) (c + 86028157 + a) = true ∧ mulOk (cellC c a) (cellC c a) = true ∧ 0 ≤ cellC c a := by
  have e1 : (c * 1103515249 + 12820163 * a + 2147480009).natAbs < 2 ^ 95 := by omega
  have e2 : (c + 86028157 + a).natAbs < 2 ^ 64 := by omega
  have e3 : (cellC c a).natAbs < 2 ^ 200 := by
    unfold cellC
    rw [Int.natAbs_mul]
    exact Nat.lt_of_lt_of_le (Nat.mul_lt_mul'' e1 e2) (by rw [← Nat.pow_add]; exact Nat.pow_le_pow_right (by decide) (by decide))
  refine ⟨by unfold mulOk; simp [e2], mulOk_wide e3 e3, ?_⟩
  unfold cellC
  exact Int.mul_nonneg (by omega) (by omega)
theorem cellD_nn {d : Int} (h : 0 ≤ d) : 0 ≤ cellD d := by
  unfold cellD
  have := Int.mul_nonneg h h
  have h2 : 0 ≤ (d * d).fdiv 4093 := Int.fdiv_nonneg this (by decide)
  omega
theorem fdiv_nn {c m : Int} (h : 0 ≤ c) (hm : 1 ≤ m) : 0 ≤ c.fdiv m := Int.fdiv_nonneg h (by omega)
theorem fmod_in {c m : Int} (hm : 1 ≤ m) : 0 ≤ c.fmod m ∧ c.fmod m < m := ⟨Int.fmod_nonneg_of_pos c (by omega), Int.fmod_lt_of_pos c (by omega)⟩
theorem at0 (p q r s : D) : L2.atI [p, q, r, s] 0 = some p := rfl
theorem at1 (p q r s : D) : L2.atI [p, q, r, s] 1 = some q := rfl
theorem at2 (p q r s : D) : L2.atI [p, q, r, s] 2 = some r := rfl
theorem at3 (p q r s : D) : L2.atI [p, q, r, s] 3 = some s := rfl
theorem mulK {i j : Int} (h : i.natAbs < 2 ^ 64 ∨ j.natAbs < 2 ^ 64) : mulOk i j = true := by
  unfold mulOk
  rcases h with h | h <;> simp [h]
theorem p_pick {cs : List Int} {n many : Int} {o : O} (hb : IsBag cs n o) (hn : n ≤ 100000) (hm : 1 ≤ many) (hm2 : many < 2 ^ 64) (hl : cs.length ≤ 100000) :
    ∃ r o', (∀ rest, run G F (dsOf dd) (k + 1) "_law_pick" [.lab 0, .d (.int many)] (o :: rest) = .ok (.d (.int r)) (o' :: rest)) ∧ 0 ≤ r ∧ r < many ∧ IsBag cs (n + 1) o' := by
  obtain ⟨a, c, s, rfl, h1, h2, h3, h4, h5⟩ := hb
  have m0 : many ≠ 0 := by omega
  have m1 : many.natAbs < 2 ^ 1000 := Nat.lt_of_lt_of_le (show many.natAbs < 2 ^ 64 by omega) (Nat.pow_le_pow_right (by decide) (by decide))
  have gd : ∀ c : Int, gFdiv c many = some (c.fdiv many) := fun c => by unfold gFdiv; rw [if_pos ⟨m0, m1⟩]
  have gm : ∀ c : Int, gFmod c many = some (c.fmod many) := fun c => by unfold gFmod; rw [if_pos m0]
  have g3 : ∀ c : Int, gFdiv c 3 = some (c.fdiv 3) := fun c => by unfold gFdiv; rw [if_pos ⟨by decide, Nat.lt_of_lt_of_le (show Int.natAbs 3 < 2 ^ 2 by decide) (Nat.pow_le_pow_right (by decide) (by decide))⟩]
  have g4 : ∀ c : Int, gFdiv c 4093 = some (c.fdiv 4093) := fun c => by unfold gFdiv; rw [if_pos ⟨by decide, Nat.lt_of_lt_of_le (show Int.natAbs 4093 < 2 ^ 12 by decide) (Nat.pow_le_pow_right (by decide) (by decide))⟩]
  by_cases hlt : c < many
  · have p18 : gPow 10 18 = some 1000000000000000000 := by decide
    have gs : ∀ c : Int, gFmod c 2305843009213693951 = some (c.fmod 2305843009213693951) := fun c => by unfold gFmod; rw [if_pos (by decide)]
    have b0 := cellB_nn (cellA cs a s)
    have key : ∀ y : Int, 0 ≤ y → (∀ rest, run G F (dsOf dd) (k + 1) "_law_pick" [.lab 0, .d (.int many)] (bagO cs a c s :: rest) = .ok (.d (.int (y.fmod many))) (bagO cs (a + 1) (y.fdiv many) ((s * 40692 + y).fmod 2305843009213693951) :: rest)) →
        ∃ r o', (∀ rest, run G F (dsOf dd) (k + 1) "_law_pick" [.lab 0, .d (.int many)] (bagO cs a c s :: rest) = .ok (.d (.int r)) (o' :: rest)) ∧ 0 ≤ r ∧ r < many ∧ IsBag cs (n + 1) o' := fun y hy e =>
      ⟨_, _, e, (fmod_in hm).1, (fmod_in hm).2, _, _, _, rfl, by omega, by omega, fdiv_nn hy hm, (fmod_in (by decide)).1, (fmod_in (by decide)).2⟩
    by_cases ha : a < cs.length
    · have q := atI_int h1 ha
      have eA : cellA cs a s = cs.getD a.toNat 0 := by unfold cellA; rw [if_pos ha]
      rw [eA] at b0
      generalize cs.getD a.toNat 0 = x at *
      by_cases hx : 0 ≤ x
      · have eB : cellB (x) = 2 * (x) := by unfold cellB; rw [if_pos hx]
        rw [eB] at b0
        by_cases hc : 2 * (x) < 1000000000000000000
        · obtain ⟨w1, w2, w3⟩ := cellC_ok b0 hc h1 (by omega : a ≤ 100000)
          refine key (cellD (cellC (2 * (x)) a)) (cellD_nn w3) (fun rest => ?_)
          rw [r__law_pick]
          unfold cellC at w2
          simp [b__law_pick, evCl_0, evCl_1, evCl_2, evCl_3, evCl_4, evCl_k, evCl_k2, evCl_k2r, evCl_k3r, ev, tv, evs, evo, evc, evw, evV, evC, evT, ev2, ev1, evCh, evB, evIf, evNil, evCons, evTup, evLst, evCall, evSl, evNo, evPart, vAnd, vOr, vNot, tAndE, tOrE, tNotE, binU, cmpU, biU, meU, g1, g2, maxG, minG, Es.len, Tg.slots, Tgs.slots, ex, exs, exh, sNx, sBk, sCt, sSeq, sDrop, sRet, sRetN, sAsg, sPar2, sPar3, sSub, sIf, sRaise, asg, asgs, R.bind_ok, R.bind_err, R.bind_bad, R.stm_ok, R.stm_err, R.stm_bad, opt_some, opt_none, noErr_ok, noErr_bad, leave_d, leave_n, leave_e, leave_da, mkL_f, tru, truU, truD, asB, asBo, bagO, getU, dctOf, getS, ixO, at0, at1, at2, at3, cmpI, hlt, intU, Py.intOp, gd, gm, setU, leave, outU, lenU, lenN, seqOf, mulU, p18, g3, g4, gs, addU, Py.listOf, addD, cellD, cellC, L2.ixN, gSubI, negU, mulK, ha, q, hx, hc, w1, w2]
        · refine key (2 * (x)) b0 (fun rest => ?_)
          rw [r__law_pick]
          simp [b__law_pick, evCl_0, evCl_1, evCl_2, evCl_3, evCl_4, evCl_k, evCl_k2, evCl_k2r, evCl_k3r, ev, tv, evs, evo, evc, evw, evV, evC, evT, ev2, ev1, evCh, evB, evIf, evNil, evCons, evTup, evLst, evCall, evSl, evNo, evPart, vAnd, vOr, vNot, tAndE, tOrE, tNotE, binU, cmpU, biU, meU, g1, g2, maxG, minG, Es.len, Tg.slots, Tgs.slots, ex, exs, exh, sNx, sBk, sCt, sSeq, sDrop, sRet, sRetN, sAsg, sPar2, sPar3, sSub, sIf, sRaise, asg, asgs, R.bind_ok, R.bind_err, R.bind_bad, R.stm_ok, R.stm_err, R.stm_bad, opt_some, opt_none, noErr_ok, noErr_bad, leave_d, leave_n, leave_e, leave_da, mkL_f, tru, truU, truD, asB, asBo, bagO, getU, dctOf, getS, ixO, at0, at1, at2, at3, cmpI, hlt, intU, Py.intOp, gd, gm, setU, leave, outU, lenU, lenN, seqOf, mulU, p18, g3, g4, gs, addU, Py.listOf, addD, cellD, cellC, L2.ixN, gSubI, negU, mulK, ha, q, hx, hc]
      · have eB : cellB (x) = -2 * (x) - 1 := by unfold cellB; rw [if_neg hx]
        rw [eB] at b0
        by_cases hc : -2 * (x) - 1 < 1000000000000000000
        · obtain ⟨w1, w2, w3⟩ := cellC_ok b0 hc h1 (by omega : a ≤ 100000)
          refine key (cellD (cellC (-2 * (x) - 1) a)) (cellD_nn w3) (fun rest => ?_)
          rw [r__law_pick]
          unfold cellC at w2
          simp [b__law_pick, evCl_0, evCl_1, evCl_2, evCl_3, evCl_4, evCl_k, evCl_k2, evCl_k2r, evCl_k3r, ev, tv, evs, evo, evc, evw, evV, evC, evT, ev2, ev1, evCh, evB, evIf, evNil, evCons, evTup, evLst, evCall, evSl, evNo, evPart, vAnd, vOr, vNot, tAndE, tOrE, tNotE, binU, cmpU, biU, meU, g1, g2, maxG, minG, Es.len, Tg.slots, Tgs.slots, ex, exs, exh, sNx, sBk, sCt, sSeq, sDrop, sRet, sRetN, sAsg, sPar2, sPar3, sSub, sIf, sRaise, asg, asgs, R.bind_ok, R.bind_err, R.bind_bad, R.stm_ok, R.stm_err, R.stm_bad, opt_some, opt_none, noErr_ok, noErr_bad, leave_d, leave_n, leave_e, leave_da, mkL_f, tru, truU, truD, asB, asBo, bagO, getU, dctOf, getS, ixO, at0, at1, at2, at3, cmpI, hlt, intU, Py.intOp, gd, gm, setU, leave, outU, lenU, lenN, seqOf, mulU, p18, g3, g4, gs, addU, Py.listOf, addD, cellD, cellC, L2.ixN, gSubI, negU, mulK, ha, q, hx, hc, w1, w2]
        · refine key (-2 * (x) - 1) b0 (fun rest => ?_)
          rw [r__law_pick]
          simp [b__law_pick, evCl_0, evCl_1, evCl_2, evCl_3, evCl_4, evCl_k, evCl_k2, evCl_k2r, evCl_k3r, ev, tv, evs, evo, evc, evw, evV, evC, evT, ev2, ev1, evCh, evB, evIf, evNil, evCons, evTup, evLst, evCall, evSl, evNo, evPart, vAnd, vOr, vNot, tAndE, tOrE, tNotE, binU, cmpU, biU, meU, g1, g2, maxG, minG, Es.len, Tg.slots, Tgs.slots, ex, exs, exh, sNx, sBk, sCt, sSeq, sDrop, sRet, sRetN, sAsg, sPar2, sPar3, sSub, sIf, sRaise, asg, asgs, R.bind_ok, R.bind_err, R.bind_bad, R.stm_ok, R.stm_err, R.stm_bad, opt_some, opt_none, noErr_ok, noErr_bad, leave_d, leave_n, leave_e, leave_da, mkL_f, tru, truU, truD, asB, asBo, bagO, getU, dctOf, getS, ixO, at0, at1, at2, at3, cmpI, hlt, intU, Py.intOp, gd, gm, setU, leave, outU, lenU, lenN, seqOf, mulU, p18, g3, g4, gs, addU, Py.listOf, addD, cellD, cellC, L2.ixN, gSubI, negU, mulK, ha, q, hx, hc]
    · have eA : cellA cs a s = s.fdiv 3 + 77003 * a := by unfold cellA; rw [if_neg ha]
      have q : True := trivial
      rw [eA] at b0
      by_cases hx : 0 ≤ s.fdiv 3 + 77003 * a
      · have eB : cellB (s.fdiv 3 + 77003 * a) = 2 * (s.fdiv 3 + 77003 * a) := by unfold cellB; rw [if_pos hx]
        rw [eB] at b0
        by_cases hc : 2 * (s.fdiv 3 + 77003 * a) < 1000000000000000000
        · obtain ⟨w1, w2, w3⟩ := cellC_ok b0 hc h1 (by omega : a ≤ 100000)
          refine key (cellD (cellC (2 * (s.fdiv 3 + 77003 * a)) a)) (cellD_nn w3) (fun rest => ?_)
          rw [r__law_pick]
          unfold cellC at w2
          simp [b__law_pick, evCl_0, evCl_1, evCl_2, evCl_3, evCl_4, evCl_k, evCl_k2, evCl_k2r, evCl_k3r, ev, tv, evs, evo, evc, evw, evV, evC, evT, ev2, ev1, evCh, evB, evIf, evNil, evCons, evTup, evLst, evCall, evSl, evNo, evPart, vAnd, vOr, vNot, tAndE, tOrE, tNotE, binU, cmpU, biU, meU, g1, g2, maxG, minG, Es.len, Tg.slots, Tgs.slots, ex, exs, exh, sNx, sBk, sCt, sSeq, sDrop, sRet, sRetN, sAsg, sPar2, sPar3, sSub, sIf, sRaise, asg, asgs, R.bind_ok, R.bind_err, R.bind_bad, R.stm_ok, R.stm_err, R.stm_bad, opt_some, opt_none, noErr_ok, noErr_bad, leave_d, leave_n, leave_e, leave_da, mkL_f, tru, truU, truD, asB, asBo, bagO, getU, dctOf, getS, ixO, at0, at1, at2, at3, cmpI, hlt, intU, Py.intOp, gd, gm, setU, leave, outU, lenU, lenN, seqOf, mulU, p18, g3, g4, gs, addU, Py.listOf, addD, cellD, cellC, L2.ixN, gSubI, negU, mulK, ha, q, hx, hc, w1, w2]
        · refine key (2 * (s.fdiv 3 + 77003 * a)) b0 (fun rest => ?_)
          rw [r__law_pick]
          simp [b__law_pick, evCl_0, evCl_1, evCl_2, evCl_3, evCl_4, evCl_k, evCl_k2, evCl_k2r, evCl_k3r, ev, tv, evs, evo, evc, evw, evV, evC, evT, ev2, ev1, evCh, evB, evIf, evNil, evCons, evTup, evLst, evCall, evSl, evNo, evPart, vAnd, vOr, vNot, tAndE, tOrE, tNotE, binU, cmpU, biU, meU, g1, g2, maxG, minG, Es.len, Tg.slots, Tgs.slots, ex, exs, exh, sNx, sBk, sCt, sSeq, sDrop, sRet, sRetN, sAsg, sPar2, sPar3, sSub, sIf, sRaise, asg, asgs, R.bind_ok, R.bind_err, R.bind_bad, R.stm_ok, R.stm_err, R.stm_bad, opt_some, opt_none, noErr_ok, noErr_bad, leave_d, leave_n, leave_e, leave_da, mkL_f, tru, truU, truD, asB, asBo, bagO, getU, dctOf, getS, ixO, at0, at1, at2, at3, cmpI, hlt, intU, Py.intOp, gd, gm, setU, leave, outU, lenU, lenN, seqOf, mulU, p18, g3, g4, gs, addU, Py.listOf, addD, cellD, cellC, L2.ixN, gSubI, negU, mulK, ha, q, hx, hc]
      · have eB : cellB (s.fdiv 3 + 77003 * a) = -2 * (s.fdiv 3 + 77003 * a) - 1 := by unfold cellB; rw [if_neg hx]
        rw [eB] at b0
        by_cases hc : -2 * (s.fdiv 3 + 77003 * a) - 1 < 1000000000000000000
        · obtain ⟨w1, w2, w3⟩ := cellC_ok b0 hc h1 (by omega : a ≤ 100000)
          refine key (cellD (cellC (-2 * (s.fdiv 3 + 77003 * a) - 1) a)) (cellD_nn w3) (fun rest => ?_)
          rw [r__law_pick]
          unfold cellC at w2
          simp [b__law_pick, evCl_0, evCl_1, evCl_2, evCl_3, evCl_4, evCl_k, evCl_k2, evCl_k2r, evCl_k3r, ev, tv, evs, evo, evc, evw, evV, evC, evT, ev2, ev1, evCh, evB, evIf, evNil, evCons, evTup, evLst, evCall, evSl, evNo, evPart, vAnd, vOr, vNot, tAndE, tOrE, tNotE, binU, cmpU, biU, meU, g1, g2, maxG, minG, Es.len, Tg.slots, Tgs.slots, ex, exs, exh, sNx, sBk, sCt, sSeq, sDrop, sRet, sRetN, sAsg, sPar2, sPar3, sSub, sIf, sRaise, asg, asgs, R.bind_ok, R.bind_err, R.bind_bad, R.stm_ok, R.stm_err, R.stm_bad, opt_some, opt_none, noErr_ok, noErr_bad, leave_d, leave_n, leave_e, leave_da, mkL_f, tru, truU, truD, asB, asBo, bagO, getU, dctOf, getS, ixO, at0, at1, at2, at3, cmpI, hlt, intU, Py.intOp, gd, gm, setU, leave, outU, lenU, lenN, seqOf, mulU, p18, g3, g4, gs, addU, Py.listOf, addD, cellD, cellC, L2.ixN, gSubI, negU, mulK, ha, q, hx, hc, w1, w2]
        · refine key (-2 * (s.fdiv 3 + 77003 * a) - 1) b0 (fun rest => ?_)
          rw [r__law_pick]
          simp [b__law_pick, evCl_0, evCl_1, evCl_2, evCl_3, evCl_4, evCl_k, evCl_k2, evCl_k2r, evCl_k3r, ev, tv, evs, evo, evc, evw, evV, evC, evT, ev2, ev1, evCh, evB, evIf, evNil, evCons, evTup, evLst, evCall, evSl, evNo, evPart, vAnd, vOr, vNot, tAndE, tOrE, tNotE, binU, cmpU, biU, meU, g1, g2, maxG, minG, Es.len, Tg.slots, Tgs.slots, ex, exs, exh, sNx, sBk, sCt, sSeq, sDrop, sRet, sRetN, sAsg, sPar2, sPar3, sSub, sIf, sRaise, asg, asgs, R.bind_ok, R.bind_err, R.bind_bad, R.stm_ok, R.stm_err, R.stm_bad, opt_some, opt_none, noErr_ok, noErr_bad, leave_d, leave_n, leave_e, leave_da, mkL_f, tru, truU, truD, asB, asBo, bagO, getU, dctOf, getS, ixO, at0, at1, at2, at3, cmpI, hlt, intU, Py.intOp, gd, gm, setU, leave, outU, lenU, lenN, seqOf, mulU, p18, g3, g4, gs, addU, Py.listOf, addD, cellD, cellC, L2.ixN, gSubI, negU, mulK, ha, q, hx, hc]
  · refine ⟨c.fmod many, bagO cs a (c.fdiv many) s, fun rest => ?_, (fmod_in hm).1, (fmod_in hm).2, a, c.fdiv many, s, rfl, h1, by omega, fdiv_nn h3 hm, h4, h5⟩
    rw [r__law_pick]
    simp [b__law_pick, evCl_0, evCl_1, evCl_2, evCl_3, evCl_4, evCl_k, evCl_k2, evCl_k2r, evCl_k3r, ev, tv, evs, evo, evc, evw, evV, evC, evT, ev2, ev1, evCh, evB, evIf, evNil, evCons, evTup, evLst, evCall, evSl, evNo, evPart, vAnd, vOr, vNot, tAndE, tOrE, tNotE, binU, cmpU, biU, meU, g1, g2, maxG, minG, Es.len, Tg.slots, Tgs.slots, ex, exs, exh, sNx, sBk, sCt, sSeq, sDrop, sRet, sRetN, sAsg, sPar2, sPar3, sSub, sIf, sRaise, asg, asgs, R.bind_ok, R.bind_err, R.bind_bad, R.stm_ok, R.stm_err, R.stm_bad, opt_some, opt_none, noErr_ok, noErr_bad, leave_d, leave_n, leave_e, leave_da, mkL_f, tru, truU, truD, asB, asBo, bagO, getU, dctOf, getS, ixO, L2.atI, L2.ixN, cmpI, hlt, intU, Py.intOp, gd, gm, setU, leave, outU]


theorem IsBag.mono {cs : List Int} {n n' : Int} {o : O} (h : IsBag cs n o) (hn : n ≤ n') : IsBag cs n' o := by
  obtain ⟨a, c, s, e, h1, h2, h3, h4, h5⟩ := h
  exact ⟨a, c, s, e, h1, by omega, h3, h4, h5⟩

end K01

namespace K01
open PySem PySem.Spec PyProof.Rows L2 Py

variable {F k : Nat}
theorem loop_collected (c x : U) (ps : PL) (hl : ps.length ≤ 1000000) (h : List O) (hx : srcK x (h ++ [.dct []]) = .ok (.fix (ps.map fun p => U.d (Py.pairD p))) (h ++ [.dct []])) :
    ∃ u3 u4, ex G (run G F (dsOf dd) k) F f_collected_0 [some c, some x, some (.lab h.length), none, none, none] (h ++ [.dct []]) = .nx [some c, some x, some (.lab h.length), u3, u4, none] (h ++ [.dct (embK (netI [] ps))]) := by
  have loop : ∃ σ' h', ex G (run G F (dsOf dd) k) F f_collected_0 [some c, some x, some (.lab h.length), none, none, none] (h ++ [.dct []]) = .nx σ' h' ∧ (∃ u3 u4, σ' = [some c, some x, some (.lab h.length), u3, u4, none]) ∧ h' = h ++ [.dct (embK (netI [] (ps.take (ps.map fun p => U.d (Py.pairD p)).length)))] := by
    unfold f_collected_0
    refine for_inv (us := ps.map fun p => U.d (Py.pairD p)) (h1 := h ++ [.dct []]) (fun pre σ h' => (∃ u3 u4, σ = [some c, some x, some (.lab h.length), u3, u4, none]) ∧ h' = h ++ [.dct (embK (netI [] (ps.take pre.length)))]) ?_ ⟨⟨_, _, rfl⟩, rfl⟩ (fun pre u r e σ h' hI => ?_)
    · simp [ev, tv, evs, evo, evc, evw, evV, evC, evT, ev2, ev1, evCh, evB, evIf, evNil, evCons, evTup, evLst, evCall, evSl, evNo, evPart, vAnd, vOr, vNot, tAndE, tOrE, tNotE, binU, cmpU, biU, meU, g1, g2, maxG, minG, Es.len, Tg.slots, Tgs.slots, ex, exs, exh, sNx, sBk, sCt, sSeq, sDrop, sRet, sRetN, sAsg, sPar2, sPar3, sSub, sIf, sRaise, asg, asgs, R.bind_ok, R.bind_err, R.bind_bad, R.stm_ok, R.stm_err, R.stm_bad, opt_some, opt_none, noErr_ok, noErr_bad, leave_d, leave_n, leave_e, leave_da, mkL_f, tru, truU, truD, asB, asBo, hx]
    · obtain ⟨⟨u3, u4, rfl⟩, rfl⟩ := hI
      obtain ⟨⟨v, a⟩, rfl, _, _, ht, hlt⟩ := map_split e
      have hn : (embK (netI [] (ps.take pre.length))).length < 10000000 := by
        have := netI_len (ps.take pre.length) []
        rw [embK_len]; simp at this; omega
      refine ⟨_, _, _, rfl, ?_, ⟨some (.d (.int v)), some (.d (.int a)), rfl⟩, rfl⟩
      rw [List.length_append, List.length_singleton, ht, netI_app]
      simp only [netI]
      rw [← embK_put]
      simp [l_collected_0, ev, tv, evs, evo, evc, evw, evV, evC, evT, ev2, ev1, evCh, evB, evIf, evNil, evCons, evTup, evLst, evCall, evSl, evNo, evPart, vAnd, vOr, vNot, tAndE, tOrE, tNotE, binU, cmpU, biU, meU, g1, g2, maxG, minG, Es.len, Tg.slots, Tgs.slots, ex, exs, exh, sNx, sBk, sCt, sSeq, sDrop, sRet, sRetN, sAsg, sPar2, sPar3, sSub, sIf, sRaise, asg, asgs, R.bind_ok, R.bind_err, R.bind_bad, R.stm_ok, R.stm_err, R.stm_bad, opt_some, opt_none, noErr_ok, noErr_bad, leave_d, leave_n, leave_e, leave_da, mkL_f, tru, truU, truD, asB, asBo, evGet2, dctOf, Py.keyOf, get_emb, addU, Py.listOf, addD, setU, hn, last_get, last_set]
  obtain ⟨σ', h', e, ⟨u3, u4, rfl⟩, rfl⟩ := loop
  refine ⟨u3, u4, ?_⟩
  rw [e, List.length_map, List.take_length]
theorem comp_collected (u0 u1 u3 u4 : Option U) (acc : PL) (hl : acc.length ≤ 1000000) (h : List O) : lockE 2 (ev G (run G F (dsOf dd) k) c_collected_0) [u0, u1, some (.lab h.length), u3, u4, none] (h ++ [.dct (embK acc)]) = mkL false ((acc.filter fun p => decide (p.2 ≠ 0)).map Py.pairD) (h ++ [.dct (embK acc)]) := by
  have key : ev G (run G F (dsOf dd) k) c_collected_0 [u0, u1, some (.lab h.length), u3, u4, none] (h ++ [.hold (embK acc)]) = mkL false (((acc.map Py.pairD).filter fun x => decide (sndI x ≠ 0)).map id) (h ++ [.hold (embK acc)]) := by
    refine ev_lcpD (acc.map Py.pairD) (fun x => decide (sndI x ≠ 0)) id ?_ (by simp; omega) (fun x hx => ?_)
    · simp [ev, tv, evs, evo, evc, evw, evV, evC, evT, ev2, ev1, evCh, evB, evIf, evNil, evCons, evTup, evLst, evCall, evSl, evNo, evPart, vAnd, vOr, vNot, tAndE, tOrE, tNotE, binU, cmpU, biU, meU, g1, g2, maxG, minG, Es.len, Tg.slots, Tgs.slots, ex, exs, exh, sNx, sBk, sCt, sSeq, sDrop, sRet, sRetN, sAsg, sPar2, sPar3, sSub, sIf, sRaise, asg, asgs, R.bind_ok, R.bind_err, R.bind_bad, R.stm_ok, R.stm_err, R.stm_bad, opt_some, opt_none, noErr_ok, noErr_bad, leave_d, leave_n, leave_e, leave_da, mkL_f, tru, truU, truD, asB, asBo, itemsU_emb, -List.map_map]
    · obtain ⟨p, _, rfl⟩ := List.mem_map.mp hx
      refine ⟨[u0, u1, some (.lab h.length), u3, u4, some (.d (Py.pairD p))], rfl, fun acc => ⟨?_, fun _ => by simp [ev, tv, evs, evo, evc, evw, evV, evC, evT, ev2, ev1, evCh, evB, evIf, evNil, evCons, evTup, evLst, evCall, evSl, evNo, evPart, vAnd, vOr, vNot, tAndE, tOrE, tNotE, binU, cmpU, biU, meU, g1, g2, maxG, minG, Es.len, Tg.slots, Tgs.slots, ex, exs, exh, sNx, sBk, sCt, sSeq, sDrop, sRet, sRetN, sAsg, sPar2, sPar3, sSub, sIf, sRaise, asg, asgs, R.bind_ok, R.bind_err, R.bind_bad, R.stm_ok, R.stm_err, R.stm_bad, opt_some, opt_none, noErr_ok, noErr_bad, leave_d, leave_n, leave_e, leave_da, mkL_f, tru, truU, truD, asB, asBo]⟩⟩
      by_cases hc : p.2 = 0 <;> simp [ev, tv, evs, evo, evc, evw, evV, evC, evT, ev2, ev1, evCh, evB, evIf, evNil, evCons, evTup, evLst, evCall, evSl, evNo, evPart, vAnd, vOr, vNot, tAndE, tOrE, tNotE, binU, cmpU, biU, meU, g1, g2, maxG, minG, Es.len, Tg.slots, Tgs.slots, ex, exs, exh, sNx, sBk, sCt, sSeq, sDrop, sRet, sRetN, sAsg, sPar2, sPar3, sSub, sIf, sRaise, asg, asgs, R.bind_ok, R.bind_err, R.bind_bad, R.stm_ok, R.stm_err, R.stm_bad, opt_some, opt_none, noErr_ok, noErr_bad, leave_d, leave_n, leave_e, leave_da, mkL_f, tru, truU, truD, asB, asBo, getU_t0, getU_t1, getU_t2, getU_t3, getU_l0, getU_l1, getU_l2, getU_m1, getU_m2, getU_m3, eqU_i, eqU_s, eqU_b, eqU_nil, eqU_nilL, eqv_ii, eqv_ss, eqv_tnil, eqv_lnil, bool_bne, lenU_t, lenU_l, tupleU_l, tupleU_t, isiU, tyN, isaB, tyNames, cmpI, negU, srcK_d, srcU, Py.pairD, sndI, hc]
  rw [List.map_id, Py.pairD_filter] at key
  simp only [lockE, lockAt, List.getElem?_cons_succ, List.getElem?_cons_zero, last_get, last_set, key, mkL_f, unhold]
theorem p_collected (c : Int) (x : U) (ps : PL) (hl : ps.length ≤ 1000000) (h : List O) (hx : ∀ h, srcK x h = .ok (.fix (ps.map fun p => U.d (Py.pairD p))) h) : run G F (dsOf dd) (k + 1) "collected" [.d (.int c), x] h = .ok (.d (tmD c (canon ps))) h := by
  rw [r_collected]
  obtain ⟨u3, u4, e⟩ := loop_collected (F := F) (k := k) (.d (.int c)) x ps hl h (hx _)
  have hn := netI_len ps []
  have e2 := comp_collected (F := F) (k := k) (some (.d (.int c))) (some x) u3 u4 (netI [] ps) (by simp at hn; omega) h
  simp [b_collected, ev, tv, evs, evo, evc, evw, evV, evC, evT, ev2, ev1, evCh, evB, evIf, evNil, evCons, evTup, evLst, evCall, evSl, evNo, evPart, vAnd, vOr, vNot, tAndE, tOrE, tNotE, binU, cmpU, biU, meU, g1, g2, maxG, minG, Es.len, Tg.slots, Tgs.slots, ex, exs, exh, sNx, sBk, sCt, sSeq, sDrop, sRet, sRetN, sAsg, sPar2, sPar3, sSub, sIf, sRaise, asg, asgs, R.bind_ok, R.bind_err, R.bind_bad, R.stm_ok, R.stm_err, R.stm_bad, opt_some, opt_none, noErr_ok, noErr_bad, leave_d, leave_n, leave_e, leave_da, mkL_f, tru, truU, truD, asB, asBo, evDnew, e, e2, sortedU_pairs, tupleU_l, pures, tmD, canon]
theorem srcK_tup (ps : PL) (h : List O) : srcK (.d (.tuple (ps.map Py.pairD))) h = .ok (.fix (ps.map fun p => U.d (Py.pairD p))) h := by simp [srcU]
theorem srcK_lst (ps : PL) (h : List O) : srcK (.d (.list (ps.map Py.pairD))) h = .ok (.fix (ps.map fun p => U.d (Py.pairD p))) h := by simp [srcU]
theorem loop_made (c x : U) (ps : PL) (hl : ps.length ≤ 1000000) (h : List O) (hx : srcK x (h ++ [.dct []]) = .ok (.fix (ps.map fun p => U.d (Py.pairD p))) (h ++ [.dct []])) :
    ∃ u3 u4, ex G (run G F (dsOf dd) k) F f__law_made_0 [some c, some x, some (.lab h.length), none, none] (h ++ [.dct []]) = .nx [some c, some x, some (.lab h.length), u3, u4] (h ++ [.dct (embK (netI [] ps))]) := by
  have loop : ∃ σ' h', ex G (run G F (dsOf dd) k) F f__law_made_0 [some c, some x, some (.lab h.length), none, none] (h ++ [.dct []]) = .nx σ' h' ∧ (∃ u3 u4, σ' = [some c, some x, some (.lab h.length), u3, u4]) ∧ h' = h ++ [.dct (embK (netI [] (ps.take (ps.map fun p => U.d (Py.pairD p)).length)))] := by
    unfold f__law_made_0
    refine for_inv (us := ps.map fun p => U.d (Py.pairD p)) (h1 := h ++ [.dct []]) (fun pre σ h' => (∃ u3 u4, σ = [some c, some x, some (.lab h.length), u3, u4]) ∧ h' = h ++ [.dct (embK (netI [] (ps.take pre.length)))]) ?_ ⟨⟨_, _, rfl⟩, rfl⟩ (fun pre u r e σ h' hI => ?_)
    · simp [ev, tv, evs, evo, evc, evw, evV, evC, evT, ev2, ev1, evCh, evB, evIf, evNil, evCons, evTup, evLst, evCall, evSl, evNo, evPart, vAnd, vOr, vNot, tAndE, tOrE, tNotE, binU, cmpU, biU, meU, g1, g2, maxG, minG, Es.len, Tg.slots, Tgs.slots, ex, exs, exh, sNx, sBk, sCt, sSeq, sDrop, sRet, sRetN, sAsg, sPar2, sPar3, sSub, sIf, sRaise, asg, asgs, R.bind_ok, R.bind_err, R.bind_bad, R.stm_ok, R.stm_err, R.stm_bad, opt_some, opt_none, noErr_ok, noErr_bad, leave_d, leave_n, leave_e, leave_da, mkL_f, tru, truU, truD, asB, asBo, hx]
    · obtain ⟨⟨u3, u4, rfl⟩, rfl⟩ := hI
      obtain ⟨⟨v, a⟩, rfl, _, _, ht, hlt⟩ := map_split e
      have hn : (embK (netI [] (ps.take pre.length))).length < 10000000 := by
        have := netI_len (ps.take pre.length) []
        rw [embK_len]; simp at this; omega
      refine ⟨_, _, _, rfl, ?_, ⟨some (.d (.int v)), some (.d (.int a)), rfl⟩, rfl⟩
      rw [List.length_append, List.length_singleton, ht, netI_app]
      simp only [netI]
      rw [← embK_put]
      simp [l__law_made_0, ev, tv, evs, evo, evc, evw, evV, evC, evT, ev2, ev1, evCh, evB, evIf, evNil, evCons, evTup, evLst, evCall, evSl, evNo, evPart, vAnd, vOr, vNot, tAndE, tOrE, tNotE, binU, cmpU, biU, meU, g1, g2, maxG, minG, Es.len, Tg.slots, Tgs.slots, ex, exs, exh, sNx, sBk, sCt, sSeq, sDrop, sRet, sRetN, sAsg, sPar2, sPar3, sSub, sIf, sRaise, asg, asgs, R.bind_ok, R.bind_err, R.bind_bad, R.stm_ok, R.stm_err, R.stm_bad, opt_some, opt_none, noErr_ok, noErr_bad, leave_d, leave_n, leave_e, leave_da, mkL_f, tru, truU, truD, asB, asBo, evGet2, dctOf, Py.keyOf, get_emb, addU, Py.listOf, addD, setU, hn, last_get, last_set]
  obtain ⟨σ', h', e, ⟨u3, u4, rfl⟩, rfl⟩ := loop
  refine ⟨u3, u4, ?_⟩
  rw [e, List.length_map, List.take_length]
theorem comp_made (u0 u1 u3 u4 : Option U) (acc : PL) (nd : (acc.map (·.1)).Nodup) (hl : acc.length < 64) (h : List O) : ev G (run G F (dsOf dd) k) c__law_made_0 [u0, u1, some (.lab h.length), u3, u4] (h ++ [.dct (embK acc)]) = mkL false ((sortP (acc.filter fun p => decide (p.2 ≠ 0))).map Py.pairD) (h ++ [.dct (embK acc)]) := by
  have hkeys : ∀ v ∈ sortI (acc.map (·.1)), getK (embK acc) (.inl v) = some (.int (getI acc v)) := fun v hv => by
    rw [embK_get, if_pos ((any_key acc v).mpr ((sortI_perm _).mem_iff.mp hv))]
  have key : ev G (run G F (dsOf dd) k) c__law_made_0 [u0, u1, some (.lab h.length), u3, u4] (h ++ [.dct (embK acc)]) = mkL false ((((sortI (acc.map (·.1))).map PyData.int).filter fun x => match x with | .int v => decide (getI acc v ≠ 0) | _ => false).map fun x => match x with | .int v => Py.pairD (v, getI acc v) | _ => .none) (h ++ [.dct (embK acc)]) := by
    refine ev_lcpD ((sortI (acc.map (·.1))).map PyData.int) (fun x => match x with | .int v => decide (getI acc v ≠ 0) | _ => false) (fun x => match x with | .int v => Py.pairD (v, getI acc v) | _ => .none) ?_ ?_ (fun x hx => ?_)
    · simp [ev, tv, evs, evo, evc, evw, evV, evC, evT, ev2, ev1, evCh, evB, evIf, evNil, evCons, evTup, evLst, evCall, evSl, evNo, evPart, vAnd, vOr, vNot, tAndE, tOrE, tNotE, binU, cmpU, biU, meU, g1, g2, maxG, minG, Es.len, Tg.slots, Tgs.slots, ex, exs, exh, sNx, sBk, sCt, sSeq, sDrop, sRet, sRetN, sAsg, sPar2, sPar3, sSub, sIf, sRaise, asg, asgs, R.bind_ok, R.bind_err, R.bind_bad, R.stm_ok, R.stm_err, R.stm_bad, opt_some, opt_none, noErr_ok, noErr_bad, leave_d, leave_n, leave_e, leave_da, mkL_f, tru, truU, truD, asB, asBo, getU_t0, getU_t1, getU_t2, getU_t3, getU_l0, getU_l1, getU_l2, getU_m1, getU_m2, getU_m3, eqU_i, eqU_s, eqU_b, eqU_nil, eqU_nilL, eqv_ii, eqv_ss, eqv_tnil, eqv_lnil, bool_bne, lenU_t, lenU_l, tupleU_l, tupleU_t, isiU, tyN, isaB, tyNames, cmpI, negU, srcK_d, srcU, sorted_dct _ _ hl]
    · have := (sortI_perm (acc.map (·.1))).length_eq
      simp at this ⊢; omega
    · obtain ⟨v, hv, rfl⟩ := List.mem_map.mp hx
      have hk := hkeys v hv
      have hg : ∀ ys : List D, (h ++ [O.dct (embK acc)] ++ [O.lst ys])[h.length]? = some (.dct (embK acc)) := fun ys => by rw [List.append_assoc]; simp
      refine ⟨[u0, u1, some (.lab h.length), some (.d (.int v)), u4], rfl, fun ys => ⟨?_, fun _ => ?_⟩⟩
      · simp only [ev, tv, evs, evo, evc, evw, evV, evC, evT, ev2, ev1, evCh, evB, evIf, evNil, evCons, evTup, evLst, evCall, evSl, evNo, evPart, vAnd, vOr, vNot, tAndE, tOrE, tNotE, binU, cmpU, biU, meU, g1, g2, maxG, minG, Es.len, Tg.slots, Tgs.slots, ex, exs, exh, sNx, sBk, sCt, sSeq, sDrop, sRet, sRetN, sAsg, sPar2, sPar3, sSub, sIf, sRaise, asg, asgs, R.bind_ok, R.bind_err, R.bind_bad, R.stm_ok, R.stm_err, R.stm_bad, opt_some, opt_none, noErr_ok, noErr_bad, leave_d, leave_n, leave_e, leave_da, mkL_f, tru, truU, truD, asB, asBo, getU, dctOf, List.getElem?_cons_succ, List.getElem?_cons_zero, hg, Py.keyOf, Option.bind_some, hk, eqU_i, eqv_ii]
        simp
      · simp only [ev, tv, evs, evo, evc, evw, evV, evC, evT, ev2, ev1, evCh, evB, evIf, evNil, evCons, evTup, evLst, evCall, evSl, evNo, evPart, vAnd, vOr, vNot, tAndE, tOrE, tNotE, binU, cmpU, biU, meU, g1, g2, maxG, minG, Es.len, Tg.slots, Tgs.slots, ex, exs, exh, sNx, sBk, sCt, sSeq, sDrop, sRet, sRetN, sAsg, sPar2, sPar3, sSub, sIf, sRaise, asg, asgs, R.bind_ok, R.bind_err, R.bind_bad, R.stm_ok, R.stm_err, R.stm_bad, opt_some, opt_none, noErr_ok, noErr_bad, leave_d, leave_n, leave_e, leave_da, mkL_f, tru, truU, truD, asB, asBo, getU, dctOf, List.getElem?_cons_succ, List.getElem?_cons_zero, hg, Py.keyOf, Option.bind_some, hk, pures]
        simp [Py.pairD]
  rw [List.filter_map, List.map_map] at key
  rw [key]
  congr 1
  rw [← canon_law nd, List.map_map]
  rfl
theorem p__law_made (c : Int) (x : U) (ps : PL) (hl : ps.length < 64) (h : List O) (hx : ∀ h, srcK x h = .ok (.fix (ps.map fun p => U.d (Py.pairD p))) h) : run G F (dsOf dd) (k + 1) "_law_made" [.d (.int c), x] h = .ok (.d (tmD c (canon ps))) h := by
  rw [r__law_made]
  obtain ⟨u3, u4, e⟩ := loop_made (F := F) (k := k) (.d (.int c)) x ps (by omega) h (hx _)
  have hn := netI_len ps []
  have e2 := comp_made (F := F) (k := k) (some (.d (.int c))) (some x) u3 u4 (netI [] ps) (netI_nodup (by simp)) (by simp at hn; omega) h
  simp [b__law_made, ev, tv, evs, evo, evc, evw, evV, evC, evT, ev2, ev1, evCh, evB, evIf, evNil, evCons, evTup, evLst, evCall, evSl, evNo, evPart, vAnd, vOr, vNot, tAndE, tOrE, tNotE, binU, cmpU, biU, meU, g1, g2, maxG, minG, Es.len, Tg.slots, Tgs.slots, ex, exs, exh, sNx, sBk, sCt, sSeq, sDrop, sRet, sRetN, sAsg, sPar2, sPar3, sSub, sIf, sRaise, asg, asgs, R.bind_ok, R.bind_err, R.bind_bad, R.stm_ok, R.stm_err, R.stm_bad, opt_some, opt_none, noErr_ok, noErr_bad, leave_d, leave_n, leave_e, leave_da, mkL_f, tru, truU, truD, asB, asBo, evDnew, e, e2, tupleU_l, pures, tmD, canon]

end K01

namespace K01
open PySem PySem.Spec PyProof.Rows L2 Py

variable {F k : Nat}
theorem p_plus (c e : Int) (ps qs : PL) (hl : ps.length + qs.length ≤ 1000000) (h : List O) : run G F (dsOf dd) (k + 2) "plus" [.d (tmD c ps), .d (tmD e qs)] h = .ok (.d (tmD (c + e) (canon (ps ++ qs)))) h := by
  rw [r_plus]
  have h1 := p_collected (F := F) (k := k) (c + e) (.d (.tuple ((ps ++ qs).map Py.pairD))) (ps ++ qs) (by simpa using hl) h (srcK_tup (ps ++ qs))
  have h2 : (ps.map Py.pairD).length + (qs.map Py.pairD).length ≤ 10000000 := by simp; omega
  simp [b_plus, evCl_0, evCl_1, evCl_2, evCl_3, evCl_4, evCl_k, evCl_k2, evCl_k2r, evCl_k3r, ev, tv, evs, evo, evc, evw, evV, evC, evT, ev2, ev1, evCh, evB, evIf, evNil, evCons, evTup, evLst, evCall, evSl, evNo, evPart, vAnd, vOr, vNot, tAndE, tOrE, tNotE, binU, cmpU, biU, meU, g1, g2, maxG, minG, Es.len, Tg.slots, Tgs.slots, ex, exs, exh, sNx, sBk, sCt, sSeq, sDrop, sRet, sRetN, sAsg, sPar2, sPar3, sSub, sIf, sRaise, asg, asgs, R.bind_ok, R.bind_err, R.bind_bad, R.stm_ok, R.stm_err, R.stm_bad, opt_some, opt_none, noErr_ok, noErr_bad, leave_d, leave_n, leave_e, leave_da, mkL_f, tru, truU, truD, asB, asBo, getU_t0, getU_t1, tmD, addU_i, addU_t h2] at h1 ⊢
  simp [h1, ev, tv, evs, evo, evc, evw, evV, evC, evT, ev2, ev1, evCh, evB, evIf, evNil, evCons, evTup, evLst, evCall, evSl, evNo, evPart, vAnd, vOr, vNot, tAndE, tOrE, tNotE, binU, cmpU, biU, meU, g1, g2, maxG, minG, Es.len, Tg.slots, Tgs.slots, ex, exs, exh, sNx, sBk, sCt, sSeq, sDrop, sRet, sRetN, sAsg, sPar2, sPar3, sSub, sIf, sRaise, asg, asgs, R.bind_ok, R.bind_err, R.bind_bad, R.stm_ok, R.stm_err, R.stm_bad, opt_some, opt_none, noErr_ok, noErr_bad, leave_d, leave_n, leave_e, leave_da, mkL_f, tru, truU, truD, asB, asBo]
theorem p__law_plus (c e : Int) (ps qs : PL) (hl : ps.length + qs.length < 64) (h : List O) : run G F (dsOf dd) (k + 2) "_law_plus" [.d (tmD c ps), .d (tmD e qs)] h = .ok (.d (tmD (c + e) (canon (ps ++ qs)))) h := by
  rw [r__law_plus]
  have h1 := p__law_made (F := F) (k := k) (c + e) (.d (.tuple ((ps ++ qs).map Py.pairD))) (ps ++ qs) (by simpa using hl) h (srcK_tup (ps ++ qs))
  have h2 : (ps.map Py.pairD).length + (qs.map Py.pairD).length ≤ 10000000 := by simp; omega
  simp [b__law_plus, evCl_0, evCl_1, evCl_2, evCl_3, evCl_4, evCl_k, evCl_k2, evCl_k2r, evCl_k3r, ev, tv, evs, evo, evc, evw, evV, evC, evT, ev2, ev1, evCh, evB, evIf, evNil, evCons, evTup, evLst, evCall, evSl, evNo, evPart, vAnd, vOr, vNot, tAndE, tOrE, tNotE, binU, cmpU, biU, meU, g1, g2, maxG, minG, Es.len, Tg.slots, Tgs.slots, ex, exs, exh, sNx, sBk, sCt, sSeq, sDrop, sRet, sRetN, sAsg, sPar2, sPar3, sSub, sIf, sRaise, asg, asgs, R.bind_ok, R.bind_err, R.bind_bad, R.stm_ok, R.stm_err, R.stm_bad, opt_some, opt_none, noErr_ok, noErr_bad, leave_d, leave_n, leave_e, leave_da, mkL_f, tru, truU, truD, asB, asBo, getU_t0, getU_t1, tmD, addU_i, addU_t h2] at h1 ⊢
  simp [h1, ev, tv, evs, evo, evc, evw, evV, evC, evT, ev2, ev1, evCh, evB, evIf, evNil, evCons, evTup, evLst, evCall, evSl, evNo, evPart, vAnd, vOr, vNot, tAndE, tOrE, tNotE, binU, cmpU, biU, meU, g1, g2, maxG, minG, Es.len, Tg.slots, Tgs.slots, ex, exs, exh, sNx, sBk, sCt, sSeq, sDrop, sRet, sRetN, sAsg, sPar2, sPar3, sSub, sIf, sRaise, asg, asgs, R.bind_ok, R.bind_err, R.bind_bad, R.stm_ok, R.stm_err, R.stm_bad, opt_some, opt_none, noErr_ok, noErr_bad, leave_d, leave_n, leave_e, leave_da, mkL_f, tru, truU, truD, asB, asBo]
def mulP (n : Int) (ps : PL) : PL := ps.map fun p => (p.1, p.2 * n)
theorem mulP_len (n : Int) (ps : PL) : (mulP n ps).length = ps.length := by simp [mulP]
theorem key_times (c n : Int) (ps : PL) (hl : ps.length ≤ 1000000) (hm : ∀ p ∈ ps, mulOk p.2 n = true) (h : List O) : ev G (run G F (dsOf dd) k) c_times_term_0 [some (.d (tmD c ps)), some (.d (.int n)), none, none] h = mkL false ((mulP n ps).map Py.pairD) h := by
  refine (ev_lcD (h1 := h) (ps.map Py.pairD) (fun x => Py.pairD (fstI x, sndI x * n)) (by simp [ev, tv, evs, evo, evc, evw, evV, evC, evT, ev2, ev1, evCh, evB, evIf, evNil, evCons, evTup, evLst, evCall, evSl, evNo, evPart, vAnd, vOr, vNot, tAndE, tOrE, tNotE, binU, cmpU, biU, meU, g1, g2, maxG, minG, Es.len, Tg.slots, Tgs.slots, ex, exs, exh, sNx, sBk, sCt, sSeq, sDrop, sRet, sRetN, sAsg, sPar2, sPar3, sSub, sIf, sRaise, asg, asgs, R.bind_ok, R.bind_err, R.bind_bad, R.stm_ok, R.stm_err, R.stm_bad, opt_some, opt_none, noErr_ok, noErr_bad, leave_d, leave_n, leave_e, leave_da, mkL_f, tru, truU, truD, asB, asBo, getU_t1, tmD, srcU, -List.map_map]) (by simp; omega) (fun x hx => ?_)).trans (by rw [List.map_map]; simp only [mulP, List.map_map]; rfl)
  obtain ⟨p, hp, rfl⟩ := List.mem_map.mp hx
  exact ⟨[some (.d (tmD c ps)), some (.d (.int n)), some (.d (.int p.1)), some (.d (.int p.2))], rfl, fun acc => by simp [ev, tv, evs, evo, evc, evw, evV, evC, evT, ev2, ev1, evCh, evB, evIf, evNil, evCons, evTup, evLst, evCall, evSl, evNo, evPart, vAnd, vOr, vNot, tAndE, tOrE, tNotE, binU, cmpU, biU, meU, g1, g2, maxG, minG, Es.len, Tg.slots, Tgs.slots, ex, exs, exh, sNx, sBk, sCt, sSeq, sDrop, sRet, sRetN, sAsg, sPar2, sPar3, sSub, sIf, sRaise, asg, asgs, R.bind_ok, R.bind_err, R.bind_bad, R.stm_ok, R.stm_err, R.stm_bad, opt_some, opt_none, noErr_ok, noErr_bad, leave_d, leave_n, leave_e, leave_da, mkL_f, tru, truU, truD, asB, asBo, mulU_i (hm p hp), pures, Py.pairD, fstI, sndI]⟩
theorem p_times_term (c n : Int) (ps : PL) (hl : ps.length ≤ 1000000) (hm : ∀ p ∈ ps, mulOk p.2 n = true) (hc : mulOk c n = true) (h : List O) : run G F (dsOf dd) (k + 2) "times_term" [.d (tmD c ps), .d (.int n)] h = .ok (.d (tmD (c * n) (canon (mulP n ps)))) h := by
  rw [r_times_term]
  have h1 := p_collected (F := F) (k := k) (c * n) (.d (.list ((mulP n ps).map Py.pairD))) (mulP n ps) (by rw [mulP_len]; exact hl) h (srcK_lst _)
  have h2 := key_times (F := F) (k := k + 1) c n ps hl hm h
  have h3 : getU (.d (tmD c ps)) (.d (.int 0)) h = .ok (.d (.int c)) h := getU_t0
  simp [b_times_term, evCl_0, evCl_1, evCl_2, evCl_3, evCl_4, evCl_k, evCl_k2, evCl_k2r, evCl_k3r, ev, tv, evs, evo, evc, evw, evV, evC, evT, ev2, ev1, evCh, evB, evIf, evNil, evCons, evTup, evLst, evCall, evSl, evNo, evPart, vAnd, vOr, vNot, tAndE, tOrE, tNotE, binU, cmpU, biU, meU, g1, g2, maxG, minG, Es.len, Tg.slots, Tgs.slots, ex, exs, exh, sNx, sBk, sCt, sSeq, sDrop, sRet, sRetN, sAsg, sPar2, sPar3, sSub, sIf, sRaise, asg, asgs, R.bind_ok, R.bind_err, R.bind_bad, R.stm_ok, R.stm_err, R.stm_bad, opt_some, opt_none, noErr_ok, noErr_bad, leave_d, leave_n, leave_e, leave_da, mkL_f, tru, truU, truD, asB, asBo, h3, mulU_i hc, h2, h1, -List.map_map]
theorem key_by (c n : Int) (ps : PL) (hl : ps.length ≤ 1000000) (hm : ∀ p ∈ ps, mulOk p.2 n = true) (h : List O) : ev G (run G F (dsOf dd) k) c__law_by_0 [some (.d (tmD c ps)), some (.d (.int n)), none, none] h = mkL false ((mulP n ps).map Py.pairD) h := by
  refine (ev_lcD (h1 := h) (ps.map Py.pairD) (fun x => Py.pairD (fstI x, sndI x * n)) (by simp [ev, tv, evs, evo, evc, evw, evV, evC, evT, ev2, ev1, evCh, evB, evIf, evNil, evCons, evTup, evLst, evCall, evSl, evNo, evPart, vAnd, vOr, vNot, tAndE, tOrE, tNotE, binU, cmpU, biU, meU, g1, g2, maxG, minG, Es.len, Tg.slots, Tgs.slots, ex, exs, exh, sNx, sBk, sCt, sSeq, sDrop, sRet, sRetN, sAsg, sPar2, sPar3, sSub, sIf, sRaise, asg, asgs, R.bind_ok, R.bind_err, R.bind_bad, R.stm_ok, R.stm_err, R.stm_bad, opt_some, opt_none, noErr_ok, noErr_bad, leave_d, leave_n, leave_e, leave_da, mkL_f, tru, truU, truD, asB, asBo, getU_t1, tmD, srcU, -List.map_map]) (by simp; omega) (fun x hx => ?_)).trans (by rw [List.map_map]; simp only [mulP, List.map_map]; rfl)
  obtain ⟨p, hp, rfl⟩ := List.mem_map.mp hx
  exact ⟨[some (.d (tmD c ps)), some (.d (.int n)), some (.d (.int p.1)), some (.d (.int p.2))], rfl, fun acc => by simp [ev, tv, evs, evo, evc, evw, evV, evC, evT, ev2, ev1, evCh, evB, evIf, evNil, evCons, evTup, evLst, evCall, evSl, evNo, evPart, vAnd, vOr, vNot, tAndE, tOrE, tNotE, binU, cmpU, biU, meU, g1, g2, maxG, minG, Es.len, Tg.slots, Tgs.slots, ex, exs, exh, sNx, sBk, sCt, sSeq, sDrop, sRet, sRetN, sAsg, sPar2, sPar3, sSub, sIf, sRaise, asg, asgs, R.bind_ok, R.bind_err, R.bind_bad, R.stm_ok, R.stm_err, R.stm_bad, opt_some, opt_none, noErr_ok, noErr_bad, leave_d, leave_n, leave_e, leave_da, mkL_f, tru, truU, truD, asB, asBo, mulU_i (hm p hp), pures, Py.pairD, fstI, sndI]⟩
theorem p__law_by (c n : Int) (ps : PL) (hl : ps.length < 64) (hm : ∀ p ∈ ps, mulOk p.2 n = true) (hc : mulOk c n = true) (h : List O) : run G F (dsOf dd) (k + 2) "_law_by" [.d (tmD c ps), .d (.int n)] h = .ok (.d (tmD (c * n) (canon (mulP n ps)))) h := by
  rw [r__law_by]
  have h1 := p__law_made (F := F) (k := k) (c * n) (.d (.list ((mulP n ps).map Py.pairD))) (mulP n ps) (by rw [mulP_len]; exact hl) h (srcK_lst _)
  have h2 := key_by (F := F) (k := k + 1) c n ps (by omega) hm h
  have h3 : getU (.d (tmD c ps)) (.d (.int 0)) h = .ok (.d (.int c)) h := getU_t0
  simp [b__law_by, evCl_0, evCl_1, evCl_2, evCl_3, evCl_4, evCl_k, evCl_k2, evCl_k2r, evCl_k3r, ev, tv, evs, evo, evc, evw, evV, evC, evT, ev2, ev1, evCh, evB, evIf, evNil, evCons, evTup, evLst, evCall, evSl, evNo, evPart, vAnd, vOr, vNot, tAndE, tOrE, tNotE, binU, cmpU, biU, meU, g1, g2, maxG, minG, Es.len, Tg.slots, Tgs.slots, ex, exs, exh, sNx, sBk, sCt, sSeq, sDrop, sRet, sRetN, sAsg, sPar2, sPar3, sSub, sIf, sRaise, asg, asgs, R.bind_ok, R.bind_err, R.bind_bad, R.stm_ok, R.stm_err, R.stm_bad, opt_some, opt_none, noErr_ok, noErr_bad, leave_d, leave_n, leave_e, leave_da, mkL_f, tru, truU, truD, asB, asBo, h3, mulU_i hc, h2, h1, -List.map_map]
/-! values -/
theorem key_value (c : Int) (ps : PL) (x : U) (rs : List Int) (hl : ps.length ≤ 1000000) (hx : ∀ p ∈ ps, ∀ h, getU x (.d (.int p.1)) h = .ok (.d (.int (rho rs p.1))) h) (hm : ∀ p ∈ ps, mulOk p.2 (rho rs p.1) = true) (h : List O) :
    ev G (run G F (dsOf dd) k) c_value_at_0 [some (.d (tmD c ps)), some x, none, none] h = mkL false ((ps.map Py.pairD).map fun y => .int (sndI y * rho rs (fstI y))) h := by
  refine ev_lcD (ps.map Py.pairD) (fun y => .int (sndI y * rho rs (fstI y))) (by simp [ev, tv, evs, evo, evc, evw, evV, evC, evT, ev2, ev1, evCh, evB, evIf, evNil, evCons, evTup, evLst, evCall, evSl, evNo, evPart, vAnd, vOr, vNot, tAndE, tOrE, tNotE, binU, cmpU, biU, meU, g1, g2, maxG, minG, Es.len, Tg.slots, Tgs.slots, ex, exs, exh, sNx, sBk, sCt, sSeq, sDrop, sRet, sRetN, sAsg, sPar2, sPar3, sSub, sIf, sRaise, asg, asgs, R.bind_ok, R.bind_err, R.bind_bad, R.stm_ok, R.stm_err, R.stm_bad, opt_some, opt_none, noErr_ok, noErr_bad, leave_d, leave_n, leave_e, leave_da, mkL_f, tru, truU, truD, asB, asBo, getU_t1, tmD, srcU, -List.map_map]) (by simp; omega) (fun y hy => ?_)
  obtain ⟨p, hp, rfl⟩ := List.mem_map.mp hy
  exact ⟨[some (.d (tmD c ps)), some x, some (.d (.int p.1)), some (.d (.int p.2))], rfl, fun acc => by simp [ev, tv, evs, evo, evc, evw, evV, evC, evT, ev2, ev1, evCh, evB, evIf, evNil, evCons, evTup, evLst, evCall, evSl, evNo, evPart, vAnd, vOr, vNot, tAndE, tOrE, tNotE, binU, cmpU, biU, meU, g1, g2, maxG, minG, Es.len, Tg.slots, Tgs.slots, ex, exs, exh, sNx, sBk, sCt, sSeq, sDrop, sRet, sRetN, sAsg, sPar2, sPar3, sSub, sIf, sRaise, asg, asgs, R.bind_ok, R.bind_err, R.bind_bad, R.stm_ok, R.stm_err, R.stm_bad, opt_some, opt_none, noErr_ok, noErr_bad, leave_d, leave_n, leave_e, leave_da, mkL_f, tru, truU, truD, asB, asBo, hx p hp, mulU_i (hm p hp), Py.pairD, fstI, sndI]⟩
theorem p_value_at (c : Int) (ps : PL) (x : U) (rs : List Int) (hl : ps.length ≤ 1000000) (hx : ∀ p ∈ ps, ∀ h, getU x (.d (.int p.1)) h = .ok (.d (.int (rho rs p.1))) h) (hm : ∀ p ∈ ps, mulOk p.2 (rho rs p.1) = true) (h : List O) :
    run G F (dsOf dd) (k + 1) "value_at" [.d (tmD c ps), x] h = .ok (.d (.int (c + valI ps (rho rs)))) h := by
  rw [r_value_at]
  have h2 := key_value (F := F) (k := k) c ps x rs hl hx hm h
  have h3 : getU (.d (tmD c ps)) (.d (.int 0)) h = .ok (.d (.int c)) h := getU_t0
  have h4 := sum_pairs ps (rho rs)
  simp [b_value_at, evCl_0, evCl_1, evCl_2, evCl_3, evCl_4, evCl_k, evCl_k2, evCl_k2r, evCl_k3r, ev, tv, evs, evo, evc, evw, evV, evC, evT, ev2, ev1, evCh, evB, evIf, evNil, evCons, evTup, evLst, evCall, evSl, evNo, evPart, vAnd, vOr, vNot, tAndE, tOrE, tNotE, binU, cmpU, biU, meU, g1, g2, maxG, minG, Es.len, Tg.slots, Tgs.slots, ex, exs, exh, sNx, sBk, sCt, sSeq, sDrop, sRet, sRetN, sAsg, sPar2, sPar3, sSub, sIf, sRaise, asg, asgs, R.bind_ok, R.bind_err, R.bind_bad, R.stm_ok, R.stm_err, R.stm_bad, opt_some, opt_none, noErr_ok, noErr_bad, leave_d, leave_n, leave_e, leave_da, mkL_f, tru, truU, truD, asB, asBo, h3, h2, sumU_map, addU_i, h4, -List.map_map]
theorem key_lvalue (c : Int) (ps : PL) (x : U) (rs : List Int) (hl : ps.length ≤ 1000000) (hx : ∀ p ∈ ps, ∀ h, getU x (.d (.int p.1)) h = .ok (.d (.int (rho rs p.1))) h) (hm : ∀ p ∈ ps, mulOk p.2 (rho rs p.1) = true) (h : List O) :
    ev G (run G F (dsOf dd) k) c__law_value_0 [some (.d (tmD c ps)), some x, none, none] h = mkL false ((ps.map Py.pairD).map fun y => .int (sndI y * rho rs (fstI y))) h := by
  refine ev_lcD (ps.map Py.pairD) (fun y => .int (sndI y * rho rs (fstI y))) (by simp [ev, tv, evs, evo, evc, evw, evV, evC, evT, ev2, ev1, evCh, evB, evIf, evNil, evCons, evTup, evLst, evCall, evSl, evNo, evPart, vAnd, vOr, vNot, tAndE, tOrE, tNotE, binU, cmpU, biU, meU, g1, g2, maxG, minG, Es.len, Tg.slots, Tgs.slots, ex, exs, exh, sNx, sBk, sCt, sSeq, sDrop, sRet, sRetN, sAsg, sPar2, sPar3, sSub, sIf, sRaise, asg, asgs, R.bind_ok, R.bind_err, R.bind_bad, R.stm_ok, R.stm_err, R.stm_bad, opt_some, opt_none, noErr_ok, noErr_bad, leave_d, leave_n, leave_e, leave_da, mkL_f, tru, truU, truD, asB, asBo, getU_t1, tmD, srcU, -List.map_map]) (by simp; omega) (fun y hy => ?_)
  obtain ⟨p, hp, rfl⟩ := List.mem_map.mp hy
  exact ⟨[some (.d (tmD c ps)), some x, some (.d (.int p.1)), some (.d (.int p.2))], rfl, fun acc => by simp [ev, tv, evs, evo, evc, evw, evV, evC, evT, ev2, ev1, evCh, evB, evIf, evNil, evCons, evTup, evLst, evCall, evSl, evNo, evPart, vAnd, vOr, vNot, tAndE, tOrE, tNotE, binU, cmpU, biU, meU, g1, g2, maxG, minG, Es.len, Tg.slots, Tgs.slots, ex, exs, exh, sNx, sBk, sCt, sSeq, sDrop, sRet, sRetN, sAsg, sPar2, sPar3, sSub, sIf, sRaise, asg, asgs, R.bind_ok, R.bind_err, R.bind_bad, R.stm_ok, R.stm_err, R.stm_bad, opt_some, opt_none, noErr_ok, noErr_bad, leave_d, leave_n, leave_e, leave_da, mkL_f, tru, truU, truD, asB, asBo, hx p hp, mulU_i (hm p hp), Py.pairD, fstI, sndI]⟩
theorem p__law_value (c : Int) (ps : PL) (x : U) (rs : List Int) (hl : ps.length ≤ 1000000) (hx : ∀ p ∈ ps, ∀ h, getU x (.d (.int p.1)) h = .ok (.d (.int (rho rs p.1))) h) (hm : ∀ p ∈ ps, mulOk p.2 (rho rs p.1) = true) (h : List O) :
    run G F (dsOf dd) (k + 1) "_law_value" [.d (tmD c ps), x] h = .ok (.d (.int (c + valI ps (rho rs)))) h := by
  rw [r__law_value]
  have h2 := key_lvalue (F := F) (k := k) c ps x rs hl hx hm h
  have h3 : getU (.d (tmD c ps)) (.d (.int 0)) h = .ok (.d (.int c)) h := getU_t0
  have h4 := sum_pairs ps (rho rs)
  simp [b__law_value, evCl_0, evCl_1, evCl_2, evCl_3, evCl_4, evCl_k, evCl_k2, evCl_k2r, evCl_k3r, ev, tv, evs, evo, evc, evw, evV, evC, evT, ev2, ev1, evCh, evB, evIf, evNil, evCons, evTup, evLst, evCall, evSl, evNo, evPart, vAnd, vOr, vNot, tAndE, tOrE, tNotE, binU, cmpU, biU, meU, g1, g2, maxG, minG, Es.len, Tg.slots, Tgs.slots, ex, exs, exh, sNx, sBk, sCt, sSeq, sDrop, sRet, sRetN, sAsg, sPar2, sPar3, sSub, sIf, sRaise, asg, asgs, R.bind_ok, R.bind_err, R.bind_bad, R.stm_ok, R.stm_err, R.stm_bad, opt_some, opt_none, noErr_ok, noErr_bad, leave_d, leave_n, leave_e, leave_da, mkL_f, tru, truU, truD, asB, asBo, h3, h2, sumU_map, addU_i, h4, -List.map_map]
/-! coefficients, terms put in -/
theorem key_coef (c v : Int) (ps : PL) (hl : ps.length ≤ 1000000) (h : List O) : ev G (run G F (dsOf dd) k) c_coefficient_0 [some (.d (tmD c ps)), some (.d (.int v)), none, none] h = mkL false (((ps.filter fun p => decide (p.1 = v)).map (·.2)).map .int) h := by
  refine (ev_lcpD (h1 := h) (ps.map Py.pairD) (fun x => decide (fstI x = v)) (fun x => .int (sndI x)) (by simp [ev, tv, evs, evo, evc, evw, evV, evC, evT, ev2, ev1, evCh, evB, evIf, evNil, evCons, evTup, evLst, evCall, evSl, evNo, evPart, vAnd, vOr, vNot, tAndE, tOrE, tNotE, binU, cmpU, biU, meU, g1, g2, maxG, minG, Es.len, Tg.slots, Tgs.slots, ex, exs, exh, sNx, sBk, sCt, sSeq, sDrop, sRet, sRetN, sAsg, sPar2, sPar3, sSub, sIf, sRaise, asg, asgs, R.bind_ok, R.bind_err, R.bind_bad, R.stm_ok, R.stm_err, R.stm_bad, opt_some, opt_none, noErr_ok, noErr_bad, leave_d, leave_n, leave_e, leave_da, mkL_f, tru, truU, truD, asB, asBo, getU_t1, tmD, srcU, -List.map_map]) (by simp; omega) (fun x hx => ?_)).trans (by rw [List.filter_map, List.map_map, List.map_map]; rfl)
  obtain ⟨p, hp, rfl⟩ := List.mem_map.mp hx
  exact ⟨[some (.d (tmD c ps)), some (.d (.int v)), some (.d (.int p.1)), some (.d (.int p.2))], rfl, fun acc => ⟨by by_cases hv : p.1 = v <;> simp [ev, tv, evs, evo, evc, evw, evV, evC, evT, ev2, ev1, evCh, evB, evIf, evNil, evCons, evTup, evLst, evCall, evSl, evNo, evPart, vAnd, vOr, vNot, tAndE, tOrE, tNotE, binU, cmpU, biU, meU, g1, g2, maxG, minG, Es.len, Tg.slots, Tgs.slots, ex, exs, exh, sNx, sBk, sCt, sSeq, sDrop, sRet, sRetN, sAsg, sPar2, sPar3, sSub, sIf, sRaise, asg, asgs, R.bind_ok, R.bind_err, R.bind_bad, R.stm_ok, R.stm_err, R.stm_bad, opt_some, opt_none, noErr_ok, noErr_bad, leave_d, leave_n, leave_e, leave_da, mkL_f, tru, truU, truD, asB, asBo, eqU_i, bool_bne, Py.pairD, fstI, hv], fun _ => by simp [ev, tv, evs, evo, evc, evw, evV, evC, evT, ev2, ev1, evCh, evB, evIf, evNil, evCons, evTup, evLst, evCall, evSl, evNo, evPart, vAnd, vOr, vNot, tAndE, tOrE, tNotE, binU, cmpU, biU, meU, g1, g2, maxG, minG, Es.len, Tg.slots, Tgs.slots, ex, exs, exh, sNx, sBk, sCt, sSeq, sDrop, sRet, sRetN, sAsg, sPar2, sPar3, sSub, sIf, sRaise, asg, asgs, R.bind_ok, R.bind_err, R.bind_bad, R.stm_ok, R.stm_err, R.stm_bad, opt_some, opt_none, noErr_ok, noErr_bad, leave_d, leave_n, leave_e, leave_da, mkL_f, tru, truU, truD, asB, asBo, Py.pairD, sndI]⟩⟩
def coefI (ps : PL) (v : Int) : Int := ((ps.filter fun p => decide (p.1 = v)).map (·.2)).sum
theorem p_coefficient (c v : Int) (ps : PL) (hl : ps.length ≤ 1000000) (h : List O) : run G F (dsOf dd) (k + 1) "coefficient" [.d (tmD c ps), .d (.int v)] h = .ok (.d (.int (coefI ps v))) h := by
  rw [r_coefficient]
  have h2 := key_coef (F := F) (k := k) c v ps hl h
  have h3 : sumU (.d (.list (((ps.filter fun p => decide (p.1 = v)).map (·.2)).map .int))) h = .ok (.d (.int (coefI ps v))) h := by
    have := sumU_map (h := h) (fun i : Int => i) ((ps.filter fun p => decide (p.1 = v)).map (·.2))
    rw [List.map_id'] at this
    exact this
  simp [b_coefficient, evCl_0, evCl_1, evCl_2, evCl_3, evCl_4, evCl_k, evCl_k2, evCl_k2r, evCl_k3r, ev, tv, evs, evo, evc, evw, evV, evC, evT, ev2, ev1, evCh, evB, evIf, evNil, evCons, evTup, evLst, evCall, evSl, evNo, evPart, vAnd, vOr, vNot, tAndE, tOrE, tNotE, binU, cmpU, biU, meU, g1, g2, maxG, minG, Es.len, Tg.slots, Tgs.slots, ex, exs, exh, sNx, sBk, sCt, sSeq, sDrop, sRet, sRetN, sAsg, sPar2, sPar3, sSub, sIf, sRaise, asg, asgs, R.bind_ok, R.bind_err, R.bind_bad, R.stm_ok, R.stm_err, R.stm_bad, opt_some, opt_none, noErr_ok, noErr_bad, leave_d, leave_n, leave_e, leave_da, mkL_f, tru, truU, truD, asB, asBo, h2, h3, -List.map_map]
def restP (ps : PL) (v : Int) : PL := ps.filter fun p => !decide (p.1 = v)
theorem key_rest (c v : Int) (ps : PL) (hl : ps.length ≤ 1000000) (h : List O) : ev G (run G F (dsOf dd) k) c_without_0 [some (.d (tmD c ps)), some (.d (.int v)), none] h = mkL false ((restP ps v).map Py.pairD) h := by
  refine (ev_lcpD (h1 := h) (ps.map Py.pairD) (fun x => !decide (fstI x = v)) id (by simp [ev, tv, evs, evo, evc, evw, evV, evC, evT, ev2, ev1, evCh, evB, evIf, evNil, evCons, evTup, evLst, evCall, evSl, evNo, evPart, vAnd, vOr, vNot, tAndE, tOrE, tNotE, binU, cmpU, biU, meU, g1, g2, maxG, minG, Es.len, Tg.slots, Tgs.slots, ex, exs, exh, sNx, sBk, sCt, sSeq, sDrop, sRet, sRetN, sAsg, sPar2, sPar3, sSub, sIf, sRaise, asg, asgs, R.bind_ok, R.bind_err, R.bind_bad, R.stm_ok, R.stm_err, R.stm_bad, opt_some, opt_none, noErr_ok, noErr_bad, leave_d, leave_n, leave_e, leave_da, mkL_f, tru, truU, truD, asB, asBo, getU_t1, tmD, srcU, -List.map_map]) (by simp; omega) (fun x hx => ?_)).trans (by rw [List.map_id, List.filter_map]; rfl)
  obtain ⟨p, hp, rfl⟩ := List.mem_map.mp hx
  exact ⟨[some (.d (tmD c ps)), some (.d (.int v)), some (.d (Py.pairD p))], rfl, fun acc => ⟨by by_cases hv : p.1 = v <;> simp [ev, tv, evs, evo, evc, evw, evV, evC, evT, ev2, ev1, evCh, evB, evIf, evNil, evCons, evTup, evLst, evCall, evSl, evNo, evPart, vAnd, vOr, vNot, tAndE, tOrE, tNotE, binU, cmpU, biU, meU, g1, g2, maxG, minG, Es.len, Tg.slots, Tgs.slots, ex, exs, exh, sNx, sBk, sCt, sSeq, sDrop, sRet, sRetN, sAsg, sPar2, sPar3, sSub, sIf, sRaise, asg, asgs, R.bind_ok, R.bind_err, R.bind_bad, R.stm_ok, R.stm_err, R.stm_bad, opt_some, opt_none, noErr_ok, noErr_bad, leave_d, leave_n, leave_e, leave_da, mkL_f, tru, truU, truD, asB, asBo, eqU_i, Py.pairD, fstI, getU_t0, hv], fun _ => by simp [ev, tv, evs, evo, evc, evw, evV, evC, evT, ev2, ev1, evCh, evB, evIf, evNil, evCons, evTup, evLst, evCall, evSl, evNo, evPart, vAnd, vOr, vNot, tAndE, tOrE, tNotE, binU, cmpU, biU, meU, g1, g2, maxG, minG, Es.len, Tg.slots, Tgs.slots, ex, exs, exh, sNx, sBk, sCt, sSeq, sDrop, sRet, sRetN, sAsg, sPar2, sPar3, sSub, sIf, sRaise, asg, asgs, R.bind_ok, R.bind_err, R.bind_bad, R.stm_ok, R.stm_err, R.stm_bad, opt_some, opt_none, noErr_ok, noErr_bad, leave_d, leave_n, leave_e, leave_da, mkL_f, tru, truU, truD, asB, asBo]⟩⟩
theorem p_without (c v : Int) (ps : PL) (hl : ps.length ≤ 1000000) (h : List O) : run G F (dsOf dd) (k + 1) "without" [.d (tmD c ps), .d (.int v)] h = .ok (.d (tmD c (restP ps v))) h := by
  rw [r_without]
  have h2 := key_rest (F := F) (k := k) c v ps hl h
  have h3 : getU (.d (tmD c ps)) (.d (.int 0)) h = .ok (.d (.int c)) h := getU_t0
  simp [b_without, evCl_0, evCl_1, evCl_2, evCl_3, evCl_4, evCl_k, evCl_k2, evCl_k2r, evCl_k3r, ev, tv, evs, evo, evc, evw, evV, evC, evT, ev2, ev1, evCh, evB, evIf, evNil, evCons, evTup, evLst, evCall, evSl, evNo, evPart, vAnd, vOr, vNot, tAndE, tOrE, tNotE, binU, cmpU, biU, meU, g1, g2, maxG, minG, Es.len, Tg.slots, Tgs.slots, ex, exs, exh, sNx, sBk, sCt, sSeq, sDrop, sRet, sRetN, sAsg, sPar2, sPar3, sSub, sIf, sRaise, asg, asgs, R.bind_ok, R.bind_err, R.bind_bad, R.stm_ok, R.stm_err, R.stm_bad, opt_some, opt_none, noErr_ok, noErr_bad, leave_d, leave_n, leave_e, leave_da, mkL_f, tru, truU, truD, asB, asBo, h3, h2, tupleU_l, pures, -List.map_map]
  rfl
def putP (c e v : Int) (ps qs : PL) : D := if coefI ps v = 0 then tmD c ps else tmD (c + e * coefI ps v) (canon (restP ps v ++ canon (mulP (coefI ps v) qs)))
theorem restP_len (ps : PL) (v : Int) : (restP ps v).length ≤ ps.length := List.length_filter_le _ _
theorem p_put_for (c e v : Int) (ps qs : PL) (hl : ps.length + qs.length ≤ 1000000) (hq : ∀ p ∈ qs, p.2.natAbs < 2 ^ 64) (he : e.natAbs < 2 ^ 64) (h : List O) : run G F (dsOf dd) (k + 3) "put_for" [.d (tmD c ps), .d (.int v), .d (tmD e qs)] h = .ok (.d (putP c e v ps qs)) h := by
  rw [r_put_for]
  have h1 := p_coefficient (F := F) (k := k + 1) c v ps (by omega) h
  have h2 := p_without (F := F) (k := k + 1) c v ps (by omega) h
  have h3 := p_times_term (F := F) (k := k) e (coefI ps v) qs (by omega) (fun p hp => mulOk_l (hq p hp)) (mulOk_l he) h
  have h4 := p_plus (F := F) (k := k) c (e * coefI ps v) (restP ps v) (canon (mulP (coefI ps v) qs)) (by have := canon_len (mulP (coefI ps v) qs); have := restP_len ps v; rw [mulP_len] at *; omega) h
  by_cases hz : coefI ps v = 0
  · simp [b_put_for, evCl_0, evCl_1, evCl_2, evCl_3, evCl_4, evCl_k, evCl_k2, evCl_k2r, evCl_k3r, ev, tv, evs, evo, evc, evw, evV, evC, evT, ev2, ev1, evCh, evB, evIf, evNil, evCons, evTup, evLst, evCall, evSl, evNo, evPart, vAnd, vOr, vNot, tAndE, tOrE, tNotE, binU, cmpU, biU, meU, g1, g2, maxG, minG, Es.len, Tg.slots, Tgs.slots, ex, exs, exh, sNx, sBk, sCt, sSeq, sDrop, sRet, sRetN, sAsg, sPar2, sPar3, sSub, sIf, sRaise, asg, asgs, R.bind_ok, R.bind_err, R.bind_bad, R.stm_ok, R.stm_err, R.stm_bad, opt_some, opt_none, noErr_ok, noErr_bad, leave_d, leave_n, leave_e, leave_da, mkL_f, tru, truU, truD, asB, asBo, h1, eqU_i, bool_bne, hz, putP]
  · simp [b_put_for, evCl_0, evCl_1, evCl_2, evCl_3, evCl_4, evCl_k, evCl_k2, evCl_k2r, evCl_k3r, ev, tv, evs, evo, evc, evw, evV, evC, evT, ev2, ev1, evCh, evB, evIf, evNil, evCons, evTup, evLst, evCall, evSl, evNo, evPart, vAnd, vOr, vNot, tAndE, tOrE, tNotE, binU, cmpU, biU, meU, g1, g2, maxG, minG, Es.len, Tg.slots, Tgs.slots, ex, exs, exh, sNx, sBk, sCt, sSeq, sDrop, sRet, sRetN, sAsg, sPar2, sPar3, sSub, sIf, sRaise, asg, asgs, R.bind_ok, R.bind_err, R.bind_bad, R.stm_ok, R.stm_err, R.stm_bad, opt_some, opt_none, noErr_ok, noErr_bad, leave_d, leave_n, leave_e, leave_da, mkL_f, tru, truU, truD, asB, asBo, h1, eqU_i, bool_bne, hz, putP, h2, h3, h4]

end K01

namespace K01
open PySem PySem.Spec PyProof.Rows L2 Py

variable {F k : Nat}
theorem p_are_ints (d : D) (h : List O) (hs : big d ≤ 10000000) : run G F (dsOf dd) (k + 2) "are_ints" [.d d] h = .ok (.d (.bool (tupI d))) h := by
  rw [r_are_ints]
  cases d
  case tuple ds =>
    have hl : ds.length ≤ 10000000 := big_tup_len hs
    have key : ev G (run G F (dsOf dd) (k + 1)) c_are_ints_0 [some (.d (.tuple ds)), none] h = mkL false (ds.map fun x => .bool (isI x)) h :=
      ev_lcD ds (fun x => .bool (isI x)) rfl hl (fun x _ => ⟨[some (.d (.tuple ds)), some (.d x)], rfl, fun acc => by simp [evCl_0, evCl_1, evCl_2, evCl_3, evCl_4, evCl_k, evCl_k2, evCl_k2r, evCl_k3r, ev, tv, evs, evo, evc, evw, evV, evC, evT, ev2, ev1, evCh, evB, evIf, evNil, evCons, evTup, evLst, evCall, evSl, evNo, evPart, vAnd, vOr, vNot, tAndE, tOrE, tNotE, binU, cmpU, biU, meU, g1, g2, maxG, minG, Es.len, Tg.slots, Tgs.slots, ex, exs, exh, sNx, sBk, sCt, sSeq, sDrop, sRet, sRetN, sAsg, sPar2, sPar3, sSub, sIf, sRaise, asg, asgs, R.bind_ok, R.bind_err, R.bind_bad, R.stm_ok, R.stm_err, R.stm_bad, opt_some, opt_none, noErr_ok, noErr_bad, leave_d, leave_n, leave_e, leave_da, mkL_f, tru, truU, truD, asB, asBo, p_is_int]⟩)
    simp [b_are_ints, evCl_0, evCl_1, evCl_2, evCl_3, evCl_4, evCl_k, evCl_k2, evCl_k2r, evCl_k3r, ev, tv, evs, evo, evc, evw, evV, evC, evT, ev2, ev1, evCh, evB, evIf, evNil, evCons, evTup, evLst, evCall, evSl, evNo, evPart, vAnd, vOr, vNot, tAndE, tOrE, tNotE, binU, cmpU, biU, meU, g1, g2, maxG, minG, Es.len, Tg.slots, Tgs.slots, ex, exs, exh, sNx, sBk, sCt, sSeq, sDrop, sRet, sRetN, sAsg, sPar2, sPar3, sSub, sIf, sRaise, asg, asgs, R.bind_ok, R.bind_err, R.bind_bad, R.stm_ok, R.stm_err, R.stm_bad, opt_some, opt_none, noErr_ok, noErr_bad, leave_d, leave_n, leave_e, leave_da, mkL_f, tru, truU, truD, asB, asBo, getU_t0, getU_t1, getU_t2, getU_t3, getU_l0, getU_l1, getU_l2, getU_m1, getU_m2, getU_m3, eqU_i, eqU_s, eqU_b, eqU_nil, eqU_nilL, eqv_ii, eqv_ss, eqv_tnil, eqv_lnil, bool_bne, lenU_t, lenU_l, tupleU_l, tupleU_t, isiU, tyN, isaB, tyNames, cmpI, negU, srcK_d, srcU, tupI, key, allU_map]
  all_goals simp [b_are_ints, evCl_0, evCl_1, evCl_2, evCl_3, evCl_4, evCl_k, evCl_k2, evCl_k2r, evCl_k3r, ev, tv, evs, evo, evc, evw, evV, evC, evT, ev2, ev1, evCh, evB, evIf, evNil, evCons, evTup, evLst, evCall, evSl, evNo, evPart, vAnd, vOr, vNot, tAndE, tOrE, tNotE, binU, cmpU, biU, meU, g1, g2, maxG, minG, Es.len, Tg.slots, Tgs.slots, ex, exs, exh, sNx, sBk, sCt, sSeq, sDrop, sRet, sRetN, sAsg, sPar2, sPar3, sSub, sIf, sRaise, asg, asgs, R.bind_ok, R.bind_err, R.bind_bad, R.stm_ok, R.stm_err, R.stm_bad, opt_some, opt_none, noErr_ok, noErr_bad, leave_d, leave_n, leave_e, leave_da, mkL_f, tru, truU, truD, asB, asBo, getU_t0, getU_t1, getU_t2, getU_t3, getU_l0, getU_l1, getU_l2, getU_m1, getU_m2, getU_m3, eqU_i, eqU_s, eqU_b, eqU_nil, eqU_nilL, eqv_ii, eqv_ss, eqv_tnil, eqv_lnil, bool_bne, lenU_t, lenU_l, tupleU_l, tupleU_t, isiU, tyN, isaB, tyNames, cmpI, negU, srcK_d, srcU, tupI]
theorem p_need_term (d : D) (hs : big d ≤ 10000000) (h : List O) : run G F (dsOf dd) (k + 5) "need_term" [.d d] h = if termB d = true then .ok (.d .none) h else .err "BadTerm" h := by
  rw [r_need_term]
  cases hb : termB d <;> simp [b_need_term, evCl_0, evCl_1, evCl_2, evCl_3, evCl_4, evCl_k, evCl_k2, evCl_k2r, evCl_k3r, ev, tv, evs, evo, evc, evw, evV, evC, evT, ev2, ev1, evCh, evB, evIf, evNil, evCons, evTup, evLst, evCall, evSl, evNo, evPart, vAnd, vOr, vNot, tAndE, tOrE, tNotE, binU, cmpU, biU, meU, g1, g2, maxG, minG, Es.len, Tg.slots, Tgs.slots, ex, exs, exh, sNx, sBk, sCt, sSeq, sDrop, sRet, sRetN, sAsg, sPar2, sPar3, sSub, sIf, sRaise, asg, asgs, R.bind_ok, R.bind_err, R.bind_bad, R.stm_ok, R.stm_err, R.stm_bad, opt_some, opt_none, noErr_ok, noErr_bad, leave_d, leave_n, leave_e, leave_da, mkL_f, tru, truU, truD, asB, asBo, p_is_term d hs, hb]
theorem p_need_other (d : D) (hs : big d ≤ 10000000) (h : List O) : run G F (dsOf dd) (k + 5) "need_other" [.d d] h = if termB d = true then .ok (.d .none) h else .err "BadOther" h := by
  rw [r_need_other]
  cases hb : termB d <;> simp [b_need_other, evCl_0, evCl_1, evCl_2, evCl_3, evCl_4, evCl_k, evCl_k2, evCl_k2r, evCl_k3r, ev, tv, evs, evo, evc, evw, evV, evC, evT, ev2, ev1, evCh, evB, evIf, evNil, evCons, evTup, evLst, evCall, evSl, evNo, evPart, vAnd, vOr, vNot, tAndE, tOrE, tNotE, binU, cmpU, biU, meU, g1, g2, maxG, minG, Es.len, Tg.slots, Tgs.slots, ex, exs, exh, sNx, sBk, sCt, sSeq, sDrop, sRet, sRetN, sAsg, sPar2, sPar3, sSub, sIf, sRaise, asg, asgs, R.bind_ok, R.bind_err, R.bind_bad, R.stm_ok, R.stm_err, R.stm_bad, opt_some, opt_none, noErr_ok, noErr_bad, leave_d, leave_n, leave_e, leave_da, mkL_f, tru, truU, truD, asB, asBo, p_is_term d hs, hb]
theorem p_need_variable (d : D) (h : List O) : run G F (dsOf dd) (k + 3) "need_variable" [.d d] h = if isIdx d = true then .ok (.d .none) h else .err "BadVariable" h := by
  rw [r_need_variable]
  cases hb : isIdx d <;> simp [b_need_variable, evCl_0, evCl_1, evCl_2, evCl_3, evCl_4, evCl_k, evCl_k2, evCl_k2r, evCl_k3r, ev, tv, evs, evo, evc, evw, evV, evC, evT, ev2, ev1, evCh, evB, evIf, evNil, evCons, evTup, evLst, evCall, evSl, evNo, evPart, vAnd, vOr, vNot, tAndE, tOrE, tNotE, binU, cmpU, biU, meU, g1, g2, maxG, minG, Es.len, Tg.slots, Tgs.slots, ex, exs, exh, sNx, sBk, sCt, sSeq, sDrop, sRet, sRetN, sAsg, sPar2, sPar3, sSub, sIf, sRaise, asg, asgs, R.bind_ok, R.bind_err, R.bind_bad, R.stm_ok, R.stm_err, R.stm_bad, opt_some, opt_none, noErr_ok, noErr_bad, leave_d, leave_n, leave_e, leave_da, mkL_f, tru, truU, truD, asB, asBo, p_is_index d, hb]
theorem atI_lastI : ∀ {vs : List Int} (hne : vs ≠ []), L2.atI (vs.map PyData.int) (-1) = some (.int (vs.getLast hne)) := by
  intro vs hne
  have e : vs.map PyData.int = (vs.dropLast.map PyData.int) ++ [.int (vs.getLast hne)] := by
    rw [← List.map_singleton, ← List.map_append, List.dropLast_concat_getLast]
  rw [e]
  exact L2.atI_last _ _
theorem p_need_row_bad (vs : List Int) (d : D) (hs : big d ≤ 10000000) (hb : tupI d = false) (h : List O) : run G F (dsOf dd) (k + 3) "need_row" [.d (.list (vs.map .int)), .d d] h = .err "BadRow" h := by
  rw [r_need_row]
  simp [b_need_row, evCl_0, evCl_1, evCl_2, evCl_3, evCl_4, evCl_k, evCl_k2, evCl_k2r, evCl_k3r, ev, tv, evs, evo, evc, evw, evV, evC, evT, ev2, ev1, evCh, evB, evIf, evNil, evCons, evTup, evLst, evCall, evSl, evNo, evPart, vAnd, vOr, vNot, tAndE, tOrE, tNotE, binU, cmpU, biU, meU, g1, g2, maxG, minG, Es.len, Tg.slots, Tgs.slots, ex, exs, exh, sNx, sBk, sCt, sSeq, sDrop, sRet, sRetN, sAsg, sPar2, sPar3, sSub, sIf, sRaise, asg, asgs, R.bind_ok, R.bind_err, R.bind_bad, R.stm_ok, R.stm_err, R.stm_bad, opt_some, opt_none, noErr_ok, noErr_bad, leave_d, leave_n, leave_e, leave_da, mkL_f, tru, truU, truD, asB, asBo, p_are_ints d _ hs, hb]
theorem tupI_ints (rs : List Int) : tupI (.tuple (rs.map .int)) = true := by
  simp [tupI, isI]
theorem big_ints (rs : List Int) : big (.tuple (rs.map .int)) = rs.length + 1 := by
  have : ∀ rs : List Int, bigs (rs.map PyData.int) = rs.length := fun rs => by
    induction rs with
    | nil => rfl
    | cons x r ih => rw [List.map_cons, bigs, ih, List.length_cons]; simp [big]; omega
  rw [big, this]
theorem p_need_row (vs rs : List Int) (hl : rs.length ≤ 1000000) (h : List O) : run G F (dsOf dd) (k + 3) "need_row" [.d (.list (vs.map .int)), .d (.tuple (rs.map .int))] h = if (∃ hne : vs ≠ [], (rs.length : Int) ≤ vs.getLast hne) then .err "BadRow" h else .ok (.d .none) h := by
  rw [r_need_row]
  have q := p_are_ints (F := F) (k := k) (.tuple (rs.map .int)) h (by rw [big_ints]; omega)
  rw [tupI_ints] at q
  cases vs with
  | nil => simp [b_need_row, evCl_0, evCl_1, evCl_2, evCl_3, evCl_4, evCl_k, evCl_k2, evCl_k2r, evCl_k3r, ev, tv, evs, evo, evc, evw, evV, evC, evT, ev2, ev1, evCh, evB, evIf, evNil, evCons, evTup, evLst, evCall, evSl, evNo, evPart, vAnd, vOr, vNot, tAndE, tOrE, tNotE, binU, cmpU, biU, meU, g1, g2, maxG, minG, Es.len, Tg.slots, Tgs.slots, ex, exs, exh, sNx, sBk, sCt, sSeq, sDrop, sRet, sRetN, sAsg, sPar2, sPar3, sSub, sIf, sRaise, asg, asgs, R.bind_ok, R.bind_err, R.bind_bad, R.stm_ok, R.stm_err, R.stm_bad, opt_some, opt_none, noErr_ok, noErr_bad, leave_d, leave_n, leave_e, leave_da, mkL_f, tru, truU, truD, asB, asBo, getU_t0, getU_t1, getU_t2, getU_t3, getU_l0, getU_l1, getU_l2, getU_m1, getU_m2, getU_m3, eqU_i, eqU_s, eqU_b, eqU_nil, eqU_nilL, eqv_ii, eqv_ss, eqv_tnil, eqv_lnil, bool_bne, lenU_t, lenU_l, tupleU_l, tupleU_t, isiU, tyN, isaB, tyNames, cmpI, negU, srcK_d, srcU, q]
  | cons v r =>
    have hne : v :: r ≠ [] := by simp
    have e := atI_lastI hne
    have g : getU (.d (.list ((v :: r).map .int))) (.d (.int (-1))) h = .ok (.d (.int ((v :: r).getLast hne))) h := getU_lst e
    have hpos : (0 : Int) < (r.length : Int) + 1 := by omega
    by_cases hc : (rs.length : Int) ≤ (v :: r).getLast hne
    · rw [if_pos ⟨hne, hc⟩]
      simp only [List.map_cons] at g
      simp [b_need_row, evCl_0, evCl_1, evCl_2, evCl_3, evCl_4, evCl_k, evCl_k2, evCl_k2r, evCl_k3r, ev, tv, evs, evo, evc, evw, evV, evC, evT, ev2, ev1, evCh, evB, evIf, evNil, evCons, evTup, evLst, evCall, evSl, evNo, evPart, vAnd, vOr, vNot, tAndE, tOrE, tNotE, binU, cmpU, biU, meU, g1, g2, maxG, minG, Es.len, Tg.slots, Tgs.slots, ex, exs, exh, sNx, sBk, sCt, sSeq, sDrop, sRet, sRetN, sAsg, sPar2, sPar3, sSub, sIf, sRaise, asg, asgs, R.bind_ok, R.bind_err, R.bind_bad, R.stm_ok, R.stm_err, R.stm_bad, opt_some, opt_none, noErr_ok, noErr_bad, leave_d, leave_n, leave_e, leave_da, mkL_f, tru, truU, truD, asB, asBo, getU_t0, getU_t1, getU_t2, getU_t3, getU_l0, getU_l1, getU_l2, getU_m1, getU_m2, getU_m3, eqU_i, eqU_s, eqU_b, eqU_nil, eqU_nilL, eqv_ii, eqv_ss, eqv_tnil, eqv_lnil, bool_bne, lenU_t, lenU_l, tupleU_l, tupleU_t, isiU, tyN, isaB, tyNames, cmpI, negU, srcK_d, srcU, q, hpos, g, hc, -List.getLast_cons_cons]
    · rw [if_neg (fun ⟨_, z⟩ => hc z)]
      simp only [List.map_cons] at g
      simp [b_need_row, evCl_0, evCl_1, evCl_2, evCl_3, evCl_4, evCl_k, evCl_k2, evCl_k2r, evCl_k3r, ev, tv, evs, evo, evc, evw, evV, evC, evT, ev2, ev1, evCh, evB, evIf, evNil, evCons, evTup, evLst, evCall, evSl, evNo, evPart, vAnd, vOr, vNot, tAndE, tOrE, tNotE, binU, cmpU, biU, meU, g1, g2, maxG, minG, Es.len, Tg.slots, Tgs.slots, ex, exs, exh, sNx, sBk, sCt, sSeq, sDrop, sRet, sRetN, sAsg, sPar2, sPar3, sSub, sIf, sRaise, asg, asgs, R.bind_ok, R.bind_err, R.bind_bad, R.stm_ok, R.stm_err, R.stm_bad, opt_some, opt_none, noErr_ok, noErr_bad, leave_d, leave_n, leave_e, leave_da, mkL_f, tru, truU, truD, asB, asBo, getU_t0, getU_t1, getU_t2, getU_t3, getU_l0, getU_l1, getU_l2, getU_m1, getU_m2, getU_m3, eqU_i, eqU_s, eqU_b, eqU_nil, eqU_nilL, eqv_ii, eqv_ss, eqv_tnil, eqv_lnil, bool_bne, lenU_t, lenU_l, tupleU_l, tupleU_t, isiU, tyN, isaB, tyNames, cmpI, negU, srcK_d, srcU, q, hpos, g, hc, -List.getLast_cons_cons]
def pairsB : D → Bool
  | .tuple ps => ps.all pairB
  | _ => false
theorem key_pairs (c : U) (ps : List D) (hl : ps.length ≤ 10000000) (h : List O) : ev G (run G F (dsOf dd) (k + 3)) c_term_of_0 [some c, some (.d (.tuple ps)), none] h = mkL false (ps.map fun x => .bool (pairB x)) h :=
  ev_lcD ps (fun x => .bool (pairB x)) (by simp [ev, tv, evs, evo, evc, evw, evV, evC, evT, ev2, ev1, evCh, evB, evIf, evNil, evCons, evTup, evLst, evCall, evSl, evNo, evPart, vAnd, vOr, vNot, tAndE, tOrE, tNotE, binU, cmpU, biU, meU, g1, g2, maxG, minG, Es.len, Tg.slots, Tgs.slots, ex, exs, exh, sNx, sBk, sCt, sSeq, sDrop, sRet, sRetN, sAsg, sPar2, sPar3, sSub, sIf, sRaise, asg, asgs, R.bind_ok, R.bind_err, R.bind_bad, R.stm_ok, R.stm_err, R.stm_bad, opt_some, opt_none, noErr_ok, noErr_bad, leave_d, leave_n, leave_e, leave_da, mkL_f, tru, truU, truD, asB, asBo, srcU]) hl (fun x _ => ⟨[some c, some (.d (.tuple ps)), some (.d x)], rfl, fun acc => by simp [evCl_0, evCl_1, evCl_2, evCl_3, evCl_4, evCl_k, evCl_k2, evCl_k2r, evCl_k3r, ev, tv, evs, evo, evc, evw, evV, evC, evT, ev2, ev1, evCh, evB, evIf, evNil, evCons, evTup, evLst, evCall, evSl, evNo, evPart, vAnd, vOr, vNot, tAndE, tOrE, tNotE, binU, cmpU, biU, meU, g1, g2, maxG, minG, Es.len, Tg.slots, Tgs.slots, ex, exs, exh, sNx, sBk, sCt, sSeq, sDrop, sRet, sRetN, sAsg, sPar2, sPar3, sSub, sIf, sRaise, asg, asgs, R.bind_ok, R.bind_err, R.bind_bad, R.stm_ok, R.stm_err, R.stm_bad, opt_some, opt_none, noErr_ok, noErr_bad, leave_d, leave_n, leave_e, leave_da, mkL_f, tru, truU, truD, asB, asBo, p_is_pair]⟩)
theorem p_term_of_c (d w : D) (hb : isI d = false) (h : List O) : run G F (dsOf dd) (k + 4) "term_of" [.d d, .d w] h = .err "BadConstant" h := by
  rw [r_term_of]
  simp [b_term_of, evCl_0, evCl_1, evCl_2, evCl_3, evCl_4, evCl_k, evCl_k2, evCl_k2r, evCl_k3r, ev, tv, evs, evo, evc, evw, evV, evC, evT, ev2, ev1, evCh, evB, evIf, evNil, evCons, evTup, evLst, evCall, evSl, evNo, evPart, vAnd, vOr, vNot, tAndE, tOrE, tNotE, binU, cmpU, biU, meU, g1, g2, maxG, minG, Es.len, Tg.slots, Tgs.slots, ex, exs, exh, sNx, sBk, sCt, sSeq, sDrop, sRet, sRetN, sAsg, sPar2, sPar3, sSub, sIf, sRaise, asg, asgs, R.bind_ok, R.bind_err, R.bind_bad, R.stm_ok, R.stm_err, R.stm_bad, opt_some, opt_none, noErr_ok, noErr_bad, leave_d, leave_n, leave_e, leave_da, mkL_f, tru, truU, truD, asB, asBo, p_is_int, hb]
theorem p_term_of_p (c : Int) (w : D) (hs : big w ≤ 10000000) (hb : pairsB w = false) (h : List O) : run G F (dsOf dd) (k + 4) "term_of" [.d (.int c), .d w] h = .err "BadPairs" h := by
  rw [r_term_of]
  cases w
  case tuple ps =>
    have q := key_pairs (F := F) (k := k) (.d (.int c)) ps (big_tup_len hs) h
    have hb' : ps.all pairB = false := hb
    simp [b_term_of, evCl_0, evCl_1, evCl_2, evCl_3, evCl_4, evCl_k, evCl_k2, evCl_k2r, evCl_k3r, ev, tv, evs, evo, evc, evw, evV, evC, evT, ev2, ev1, evCh, evB, evIf, evNil, evCons, evTup, evLst, evCall, evSl, evNo, evPart, vAnd, vOr, vNot, tAndE, tOrE, tNotE, binU, cmpU, biU, meU, g1, g2, maxG, minG, Es.len, Tg.slots, Tgs.slots, ex, exs, exh, sNx, sBk, sCt, sSeq, sDrop, sRet, sRetN, sAsg, sPar2, sPar3, sSub, sIf, sRaise, asg, asgs, R.bind_ok, R.bind_err, R.bind_bad, R.stm_ok, R.stm_err, R.stm_bad, opt_some, opt_none, noErr_ok, noErr_bad, leave_d, leave_n, leave_e, leave_da, mkL_f, tru, truU, truD, asB, asBo, getU_t0, getU_t1, getU_t2, getU_t3, getU_l0, getU_l1, getU_l2, getU_m1, getU_m2, getU_m3, eqU_i, eqU_s, eqU_b, eqU_nil, eqU_nilL, eqv_ii, eqv_ss, eqv_tnil, eqv_lnil, bool_bne, lenU_t, lenU_l, tupleU_l, tupleU_t, isiU, tyN, isaB, tyNames, cmpI, negU, srcK_d, srcU, p_is_int, isI, q, allU_map, hb']
  all_goals simp [b_term_of, evCl_0, evCl_1, evCl_2, evCl_3, evCl_4, evCl_k, evCl_k2, evCl_k2r, evCl_k3r, ev, tv, evs, evo, evc, evw, evV, evC, evT, ev2, ev1, evCh, evB, evIf, evNil, evCons, evTup, evLst, evCall, evSl, evNo, evPart, vAnd, vOr, vNot, tAndE, tOrE, tNotE, binU, cmpU, biU, meU, g1, g2, maxG, minG, Es.len, Tg.slots, Tgs.slots, ex, exs, exh, sNx, sBk, sCt, sSeq, sDrop, sRet, sRetN, sAsg, sPar2, sPar3, sSub, sIf, sRaise, asg, asgs, R.bind_ok, R.bind_err, R.bind_bad, R.stm_ok, R.stm_err, R.stm_bad, opt_some, opt_none, noErr_ok, noErr_bad, leave_d, leave_n, leave_e, leave_da, mkL_f, tru, truU, truD, asB, asBo, getU_t0, getU_t1, getU_t2, getU_t3, getU_l0, getU_l1, getU_l2, getU_m1, getU_m2, getU_m3, eqU_i, eqU_s, eqU_b, eqU_nil, eqU_nilL, eqv_ii, eqv_ss, eqv_tnil, eqv_lnil, bool_bne, lenU_t, lenU_l, tupleU_l, tupleU_t, isiU, tyN, isaB, tyNames, cmpI, negU, srcK_d, srcU, p_is_int, isI]
theorem all_pairB {ps : PL} (hp : ∀ p ∈ ps, 0 ≤ p.1) : (ps.map Py.pairD).all pairB = true := by
  rw [List.all_eq_true]
  intro d hd
  obtain ⟨p, h, rfl⟩ := List.mem_map.mp hd
  simp [Py.pairD, pairB, hp p h]
theorem p_term_of (c : Int) (ps : PL) (hl : ps.length ≤ 1000000) (hp : ∀ p ∈ ps, 0 ≤ p.1) (h : List O) : run G F (dsOf dd) (k + 4) "term_of" [.d (.int c), .d (.tuple (ps.map Py.pairD))] h = .ok (.d (tmD c (canon ps))) h := by
  rw [r_term_of]
  have q := key_pairs (F := F) (k := k) (.d (.int c)) (ps.map Py.pairD) (by simp; omega) h
  have q2 := p_collected (F := F) (k := k + 2) c (.d (.tuple (ps.map Py.pairD))) ps hl h (srcK_tup ps)
  simp [b_term_of, evCl_0, evCl_1, evCl_2, evCl_3, evCl_4, evCl_k, evCl_k2, evCl_k2r, evCl_k3r, ev, tv, evs, evo, evc, evw, evV, evC, evT, ev2, ev1, evCh, evB, evIf, evNil, evCons, evTup, evLst, evCall, evSl, evNo, evPart, vAnd, vOr, vNot, tAndE, tOrE, tNotE, binU, cmpU, biU, meU, g1, g2, maxG, minG, Es.len, Tg.slots, Tgs.slots, ex, exs, exh, sNx, sBk, sCt, sSeq, sDrop, sRet, sRetN, sAsg, sPar2, sPar3, sSub, sIf, sRaise, asg, asgs, R.bind_ok, R.bind_err, R.bind_bad, R.stm_ok, R.stm_err, R.stm_bad, opt_some, opt_none, noErr_ok, noErr_bad, leave_d, leave_n, leave_e, leave_da, mkL_f, tru, truU, truD, asB, asBo, getU_t0, getU_t1, getU_t2, getU_t3, getU_l0, getU_l1, getU_l2, getU_m1, getU_m2, getU_m3, eqU_i, eqU_s, eqU_b, eqU_nil, eqU_nilL, eqv_ii, eqv_ss, eqv_tnil, eqv_lnil, bool_bne, lenU_t, lenU_l, tupleU_l, tupleU_t, isiU, tyN, isaB, tyNames, cmpI, negU, srcK_d, srcU, p_is_int, isI, q, allU_map, all_pairB hp, q2, -List.map_map, -List.all_map]
theorem p_value_t (d : D) (u : U) (hs : big d ≤ 10000000) (hb : termB d = false) (h : List O) : run G F (dsOf dd) (k + 6) "value" [.d d, u] h = .err "BadTerm" h := by
  rw [r_value]
  simp [b_value, evCl_0, evCl_1, evCl_2, evCl_3, evCl_4, evCl_k, evCl_k2, evCl_k2r, evCl_k3r, ev, tv, evs, evo, evc, evw, evV, evC, evT, ev2, ev1, evCh, evB, evIf, evNil, evCons, evTup, evLst, evCall, evSl, evNo, evPart, vAnd, vOr, vNot, tAndE, tOrE, tNotE, binU, cmpU, biU, meU, g1, g2, maxG, minG, Es.len, Tg.slots, Tgs.slots, ex, exs, exh, sNx, sBk, sCt, sSeq, sDrop, sRet, sRetN, sAsg, sPar2, sPar3, sSub, sIf, sRaise, asg, asgs, R.bind_ok, R.bind_err, R.bind_bad, R.stm_ok, R.stm_err, R.stm_bad, opt_some, opt_none, noErr_ok, noErr_bad, leave_d, leave_n, leave_e, leave_da, mkL_f, tru, truU, truD, asB, asBo, p_need_term d hs, hb]
theorem vars_of (c : Int) (ps : PL) (hp : IsTm ps) (hl : ps.length ≤ 1000000) (h : List O) : run G F (dsOf dd) (k + 5) "variables_of" [.d (tmD c ps)] h = .ok (.d (.list ((ps.map (·.1)).map .int))) h := by
  have := p_variables_of (F := F) (k := k + 4) (tmD c ps) (big_tm_le hl) (hp.termB c) h
  rw [this]
  show R.ok (U.d (.list (((ps.map Py.pairD).map fstI).map .int))) h = _
  rw [fst_pairs]
theorem p_value_r (c : Int) (ps : PL) (hp : IsTm ps) (hl : ps.length ≤ 1000000) (d : D) (hs : big d ≤ 10000000) (hb : tupI d = false) (h : List O) : run G F (dsOf dd) (k + 6) "value" [.d (tmD c ps), .d d] h = .err "BadRow" h := by
  rw [r_value]
  have q := p_need_term (F := F) (k := k) (tmD c ps) (big_tm_le hl) h
  rw [hp.termB, if_pos rfl] at q
  simp [b_value, evCl_0, evCl_1, evCl_2, evCl_3, evCl_4, evCl_k, evCl_k2, evCl_k2r, evCl_k3r, ev, tv, evs, evo, evc, evw, evV, evC, evT, ev2, ev1, evCh, evB, evIf, evNil, evCons, evTup, evLst, evCall, evSl, evNo, evPart, vAnd, vOr, vNot, tAndE, tOrE, tNotE, binU, cmpU, biU, meU, g1, g2, maxG, minG, Es.len, Tg.slots, Tgs.slots, ex, exs, exh, sNx, sBk, sCt, sSeq, sDrop, sRet, sRetN, sAsg, sPar2, sPar3, sSub, sIf, sRaise, asg, asgs, R.bind_ok, R.bind_err, R.bind_bad, R.stm_ok, R.stm_err, R.stm_bad, opt_some, opt_none, noErr_ok, noErr_bad, leave_d, leave_n, leave_e, leave_da, mkL_f, tru, truU, truD, asB, asBo, q, vars_of c ps hp hl, p_need_row_bad _ d hs hb, -List.map_map]
theorem p_value_r2 (c : Int) (ps : PL) (hp : IsTm ps) (hl : ps.length ≤ 1000000) (rs : List Int) (hr : rs.length ≤ 1000000) (p : Int × Int) (hm : p ∈ ps) (hge : (rs.length : Int) ≤ p.1) (h : List O) : run G F (dsOf dd) (k + 6) "value" [.d (tmD c ps), .d (.tuple (rs.map .int))] h = .err "BadRow" h := by
  rw [r_value]
  have q := p_need_term (F := F) (k := k) (tmD c ps) (big_tm_le hl) h
  rw [hp.termB, if_pos rfl] at q
  have hne : ps.map (·.1) ≠ [] := by intro e; rw [List.map_eq_nil_iff] at e; rw [e] at hm; cases hm
  have hlast : p.1 ≤ (ps.map (·.1)).getLast hne := by
    have hmem : p.1 ∈ ps.map (·.1) := List.mem_map.mpr ⟨p, hm, rfl⟩
    have e := List.dropLast_concat_getLast hne
    rw [← e, List.mem_append] at hmem
    rcases hmem with m | m
    · have pw := hp.asc
      rw [← e, List.pairwise_append] at pw
      exact Int.le_of_lt (pw.2.2 _ m _ (by simp))
    · rw [List.mem_singleton] at m; omega
  have q2 := p_need_row (F := F) (k := k + 2) (ps.map (·.1)) rs hr h
  rw [if_pos ⟨hne, by omega⟩] at q2
  simp [b_value, evCl_0, evCl_1, evCl_2, evCl_3, evCl_4, evCl_k, evCl_k2, evCl_k2r, evCl_k3r, ev, tv, evs, evo, evc, evw, evV, evC, evT, ev2, ev1, evCh, evB, evIf, evNil, evCons, evTup, evLst, evCall, evSl, evNo, evPart, vAnd, vOr, vNot, tAndE, tOrE, tNotE, binU, cmpU, biU, meU, g1, g2, maxG, minG, Es.len, Tg.slots, Tgs.slots, ex, exs, exh, sNx, sBk, sCt, sSeq, sDrop, sRet, sRetN, sAsg, sPar2, sPar3, sSub, sIf, sRaise, asg, asgs, R.bind_ok, R.bind_err, R.bind_bad, R.stm_ok, R.stm_err, R.stm_bad, opt_some, opt_none, noErr_ok, noErr_bad, leave_d, leave_n, leave_e, leave_da, mkL_f, tru, truU, truD, asB, asBo, q, vars_of c ps hp hl, q2, -List.map_map]
theorem p_value (c : Int) (ps : PL) (hp : IsTm ps) (hl : ps.length ≤ 1000000) (rs : List Int) (hr : rs.length ≤ 1000000) (hin : ∀ p ∈ ps, p.1 < rs.length) (hm : ∀ p ∈ ps, mulOk p.2 (rho rs p.1) = true) (h : List O) : run G F (dsOf dd) (k + 6) "value" [.d (tmD c ps), .d (.tuple (rs.map .int))] h = .ok (.d (.int (c + valI ps (rho rs)))) h := by
  rw [r_value]
  have q := p_need_term (F := F) (k := k) (tmD c ps) (big_tm_le hl) h
  rw [hp.termB, if_pos rfl] at q
  have q2 := p_need_row (F := F) (k := k + 2) (ps.map (·.1)) rs hr h
  rw [if_neg (fun ⟨hne, z⟩ => by
    have hmem := List.getLast_mem hne
    obtain ⟨p, hp, e⟩ := List.mem_map.mp hmem
    have := hin p hp
    rw [← e] at z
    omega)] at q2
  have q3 := p_value_at (F := F) (k := k + 4) c ps (.d (.tuple (rs.map .int))) rs hl (fun p hpm h => getU_row (hp.pos p hpm) (hin p hpm) h) hm h
  simp [b_value, evCl_0, evCl_1, evCl_2, evCl_3, evCl_4, evCl_k, evCl_k2, evCl_k2r, evCl_k3r, ev, tv, evs, evo, evc, evw, evV, evC, evT, ev2, ev1, evCh, evB, evIf, evNil, evCons, evTup, evLst, evCall, evSl, evNo, evPart, vAnd, vOr, vNot, tAndE, tOrE, tNotE, binU, cmpU, biU, meU, g1, g2, maxG, minG, Es.len, Tg.slots, Tgs.slots, ex, exs, exh, sNx, sBk, sCt, sSeq, sDrop, sRet, sRetN, sAsg, sPar2, sPar3, sSub, sIf, sRaise, asg, asgs, R.bind_ok, R.bind_err, R.bind_bad, R.stm_ok, R.stm_err, R.stm_bad, opt_some, opt_none, noErr_ok, noErr_bad, leave_d, leave_n, leave_e, leave_da, mkL_f, tru, truU, truD, asB, asBo, q, vars_of c ps hp hl, q2, q3, -List.map_map]
theorem p_add_t (d : D) (u : U) (hs : big d ≤ 10000000) (hb : termB d = false) (h : List O) : run G F (dsOf dd) (k + 6) "add" [.d d, u] h = .err "BadTerm" h := by
  rw [r_add]
  simp [b_add, evCl_0, evCl_1, evCl_2, evCl_3, evCl_4, evCl_k, evCl_k2, evCl_k2r, evCl_k3r, ev, tv, evs, evo, evc, evw, evV, evC, evT, ev2, ev1, evCh, evB, evIf, evNil, evCons, evTup, evLst, evCall, evSl, evNo, evPart, vAnd, vOr, vNot, tAndE, tOrE, tNotE, binU, cmpU, biU, meU, g1, g2, maxG, minG, Es.len, Tg.slots, Tgs.slots, ex, exs, exh, sNx, sBk, sCt, sSeq, sDrop, sRet, sRetN, sAsg, sPar2, sPar3, sSub, sIf, sRaise, asg, asgs, R.bind_ok, R.bind_err, R.bind_bad, R.stm_ok, R.stm_err, R.stm_bad, opt_some, opt_none, noErr_ok, noErr_bad, leave_d, leave_n, leave_e, leave_da, mkL_f, tru, truU, truD, asB, asBo, p_need_term d hs, hb]
theorem p_add_o (c : Int) (ps : PL) (hp : IsTm ps) (hl : ps.length ≤ 1000000) (d : D) (hs : big d ≤ 10000000) (hb : termB d = false) (h : List O) : run G F (dsOf dd) (k + 6) "add" [.d (tmD c ps), .d d] h = .err "BadOther" h := by
  rw [r_add]
  have q := p_need_term (F := F) (k := k) (tmD c ps) (big_tm_le hl) h
  rw [hp.termB, if_pos rfl] at q
  simp [b_add, evCl_0, evCl_1, evCl_2, evCl_3, evCl_4, evCl_k, evCl_k2, evCl_k2r, evCl_k3r, ev, tv, evs, evo, evc, evw, evV, evC, evT, ev2, ev1, evCh, evB, evIf, evNil, evCons, evTup, evLst, evCall, evSl, evNo, evPart, vAnd, vOr, vNot, tAndE, tOrE, tNotE, binU, cmpU, biU, meU, g1, g2, maxG, minG, Es.len, Tg.slots, Tgs.slots, ex, exs, exh, sNx, sBk, sCt, sSeq, sDrop, sRet, sRetN, sAsg, sPar2, sPar3, sSub, sIf, sRaise, asg, asgs, R.bind_ok, R.bind_err, R.bind_bad, R.stm_ok, R.stm_err, R.stm_bad, opt_some, opt_none, noErr_ok, noErr_bad, leave_d, leave_n, leave_e, leave_da, mkL_f, tru, truU, truD, asB, asBo, q, p_need_other d hs, hb]
theorem p_add (c e : Int) (ps qs : PL) (hp : IsTm ps) (hq : IsTm qs) (hl : ps.length + qs.length ≤ 1000000) (h : List O) : run G F (dsOf dd) (k + 6) "add" [.d (tmD c ps), .d (tmD e qs)] h = .ok (.d (tmD (c + e) (canon (ps ++ qs)))) h := by
  rw [r_add]
  have q := p_need_term (F := F) (k := k) (tmD c ps) (big_tm_le (by omega)) h
  rw [hp.termB, if_pos rfl] at q
  have q2 := p_need_other (F := F) (k := k) (tmD e qs) (big_tm_le (by omega)) h
  rw [hq.termB, if_pos rfl] at q2
  have q3 := p_plus (F := F) (k := k + 3) c e ps qs hl h
  simp [b_add, evCl_0, evCl_1, evCl_2, evCl_3, evCl_4, evCl_k, evCl_k2, evCl_k2r, evCl_k3r, ev, tv, evs, evo, evc, evw, evV, evC, evT, ev2, ev1, evCh, evB, evIf, evNil, evCons, evTup, evLst, evCall, evSl, evNo, evPart, vAnd, vOr, vNot, tAndE, tOrE, tNotE, binU, cmpU, biU, meU, g1, g2, maxG, minG, Es.len, Tg.slots, Tgs.slots, ex, exs, exh, sNx, sBk, sCt, sSeq, sDrop, sRet, sRetN, sAsg, sPar2, sPar3, sSub, sIf, sRaise, asg, asgs, R.bind_ok, R.bind_err, R.bind_bad, R.stm_ok, R.stm_err, R.stm_bad, opt_some, opt_none, noErr_ok, noErr_bad, leave_d, leave_n, leave_e, leave_da, mkL_f, tru, truU, truD, asB, asBo, q, q2, q3]
theorem p_times_t (d : D) (u : U) (hs : big d ≤ 10000000) (hb : termB d = false) (h : List O) : run G F (dsOf dd) (k + 6) "times" [.d d, u] h = .err "BadTerm" h := by
  rw [r_times]
  simp [b_times, evCl_0, evCl_1, evCl_2, evCl_3, evCl_4, evCl_k, evCl_k2, evCl_k2r, evCl_k3r, ev, tv, evs, evo, evc, evw, evV, evC, evT, ev2, ev1, evCh, evB, evIf, evNil, evCons, evTup, evLst, evCall, evSl, evNo, evPart, vAnd, vOr, vNot, tAndE, tOrE, tNotE, binU, cmpU, biU, meU, g1, g2, maxG, minG, Es.len, Tg.slots, Tgs.slots, ex, exs, exh, sNx, sBk, sCt, sSeq, sDrop, sRet, sRetN, sAsg, sPar2, sPar3, sSub, sIf, sRaise, asg, asgs, R.bind_ok, R.bind_err, R.bind_bad, R.stm_ok, R.stm_err, R.stm_bad, opt_some, opt_none, noErr_ok, noErr_bad, leave_d, leave_n, leave_e, leave_da, mkL_f, tru, truU, truD, asB, asBo, p_need_term d hs, hb]
theorem p_times_n (c : Int) (ps : PL) (hp : IsTm ps) (hl : ps.length ≤ 1000000) (d : D) (hb : isI d = false) (h : List O) : run G F (dsOf dd) (k + 6) "times" [.d (tmD c ps), .d d] h = .err "BadNumber" h := by
  rw [r_times]
  have q := p_need_term (F := F) (k := k) (tmD c ps) (big_tm_le hl) h
  rw [hp.termB, if_pos rfl] at q
  simp [b_times, evCl_0, evCl_1, evCl_2, evCl_3, evCl_4, evCl_k, evCl_k2, evCl_k2r, evCl_k3r, ev, tv, evs, evo, evc, evw, evV, evC, evT, ev2, ev1, evCh, evB, evIf, evNil, evCons, evTup, evLst, evCall, evSl, evNo, evPart, vAnd, vOr, vNot, tAndE, tOrE, tNotE, binU, cmpU, biU, meU, g1, g2, maxG, minG, Es.len, Tg.slots, Tgs.slots, ex, exs, exh, sNx, sBk, sCt, sSeq, sDrop, sRet, sRetN, sAsg, sPar2, sPar3, sSub, sIf, sRaise, asg, asgs, R.bind_ok, R.bind_err, R.bind_bad, R.stm_ok, R.stm_err, R.stm_bad, opt_some, opt_none, noErr_ok, noErr_bad, leave_d, leave_n, leave_e, leave_da, mkL_f, tru, truU, truD, asB, asBo, q, p_is_int, hb]
theorem p_times (c n : Int) (ps : PL) (hp : IsTm ps) (hl : ps.length ≤ 1000000) (hm : ∀ p ∈ ps, mulOk p.2 n = true) (hc : mulOk c n = true) (h : List O) : run G F (dsOf dd) (k + 6) "times" [.d (tmD c ps), .d (.int n)] h = .ok (.d (tmD (c * n) (canon (mulP n ps)))) h := by
  rw [r_times]
  have q := p_need_term (F := F) (k := k) (tmD c ps) (big_tm_le hl) h
  rw [hp.termB, if_pos rfl] at q
  have q3 := p_times_term (F := F) (k := k + 3) c n ps hl hm hc h
  simp [b_times, evCl_0, evCl_1, evCl_2, evCl_3, evCl_4, evCl_k, evCl_k2, evCl_k2r, evCl_k3r, ev, tv, evs, evo, evc, evw, evV, evC, evT, ev2, ev1, evCh, evB, evIf, evNil, evCons, evTup, evLst, evCall, evSl, evNo, evPart, vAnd, vOr, vNot, tAndE, tOrE, tNotE, binU, cmpU, biU, meU, g1, g2, maxG, minG, Es.len, Tg.slots, Tgs.slots, ex, exs, exh, sNx, sBk, sCt, sSeq, sDrop, sRet, sRetN, sAsg, sPar2, sPar3, sSub, sIf, sRaise, asg, asgs, R.bind_ok, R.bind_err, R.bind_bad, R.stm_ok, R.stm_err, R.stm_bad, opt_some, opt_none, noErr_ok, noErr_bad, leave_d, leave_n, leave_e, leave_da, mkL_f, tru, truU, truD, asB, asBo, q, p_is_int, isI, q3]
theorem p_put_t (d : D) (u w : U) (hs : big d ≤ 10000000) (hb : termB d = false) (h : List O) : run G F (dsOf dd) (k + 6) "put" [.d d, u, w] h = .err "BadTerm" h := by
  rw [r_put]
  simp [b_put, evCl_0, evCl_1, evCl_2, evCl_3, evCl_4, evCl_k, evCl_k2, evCl_k2r, evCl_k3r, ev, tv, evs, evo, evc, evw, evV, evC, evT, ev2, ev1, evCh, evB, evIf, evNil, evCons, evTup, evLst, evCall, evSl, evNo, evPart, vAnd, vOr, vNot, tAndE, tOrE, tNotE, binU, cmpU, biU, meU, g1, g2, maxG, minG, Es.len, Tg.slots, Tgs.slots, ex, exs, exh, sNx, sBk, sCt, sSeq, sDrop, sRet, sRetN, sAsg, sPar2, sPar3, sSub, sIf, sRaise, asg, asgs, R.bind_ok, R.bind_err, R.bind_bad, R.stm_ok, R.stm_err, R.stm_bad, opt_some, opt_none, noErr_ok, noErr_bad, leave_d, leave_n, leave_e, leave_da, mkL_f, tru, truU, truD, asB, asBo, p_need_term d hs, hb]
theorem p_put_v (c : Int) (ps : PL) (hp : IsTm ps) (hl : ps.length ≤ 1000000) (d : D) (w : U) (hb : isIdx d = false) (h : List O) : run G F (dsOf dd) (k + 6) "put" [.d (tmD c ps), .d d, w] h = .err "BadVariable" h := by
  rw [r_put]
  have q := p_need_term (F := F) (k := k) (tmD c ps) (big_tm_le hl) h
  rw [hp.termB, if_pos rfl] at q
  simp [b_put, evCl_0, evCl_1, evCl_2, evCl_3, evCl_4, evCl_k, evCl_k2, evCl_k2r, evCl_k3r, ev, tv, evs, evo, evc, evw, evV, evC, evT, ev2, ev1, evCh, evB, evIf, evNil, evCons, evTup, evLst, evCall, evSl, evNo, evPart, vAnd, vOr, vNot, tAndE, tOrE, tNotE, binU, cmpU, biU, meU, g1, g2, maxG, minG, Es.len, Tg.slots, Tgs.slots, ex, exs, exh, sNx, sBk, sCt, sSeq, sDrop, sRet, sRetN, sAsg, sPar2, sPar3, sSub, sIf, sRaise, asg, asgs, R.bind_ok, R.bind_err, R.bind_bad, R.stm_ok, R.stm_err, R.stm_bad, opt_some, opt_none, noErr_ok, noErr_bad, leave_d, leave_n, leave_e, leave_da, mkL_f, tru, truU, truD, asB, asBo, q, p_need_variable, hb]
theorem p_put_o (c v : Int) (ps : PL) (hp : IsTm ps) (hl : ps.length ≤ 1000000) (hv : 0 ≤ v) (d : D) (hs : big d ≤ 10000000) (hb : termB d = false) (h : List O) : run G F (dsOf dd) (k + 6) "put" [.d (tmD c ps), .d (.int v), .d d] h = .err "BadOther" h := by
  rw [r_put]
  have q := p_need_term (F := F) (k := k) (tmD c ps) (big_tm_le hl) h
  rw [hp.termB, if_pos rfl] at q
  simp [b_put, evCl_0, evCl_1, evCl_2, evCl_3, evCl_4, evCl_k, evCl_k2, evCl_k2r, evCl_k3r, ev, tv, evs, evo, evc, evw, evV, evC, evT, ev2, ev1, evCh, evB, evIf, evNil, evCons, evTup, evLst, evCall, evSl, evNo, evPart, vAnd, vOr, vNot, tAndE, tOrE, tNotE, binU, cmpU, biU, meU, g1, g2, maxG, minG, Es.len, Tg.slots, Tgs.slots, ex, exs, exh, sNx, sBk, sCt, sSeq, sDrop, sRet, sRetN, sAsg, sPar2, sPar3, sSub, sIf, sRaise, asg, asgs, R.bind_ok, R.bind_err, R.bind_bad, R.stm_ok, R.stm_err, R.stm_bad, opt_some, opt_none, noErr_ok, noErr_bad, leave_d, leave_n, leave_e, leave_da, mkL_f, tru, truU, truD, asB, asBo, q, p_need_variable, isIdx, hv, p_need_other d hs, hb]
theorem p_put (c e v : Int) (ps qs : PL) (hp : IsTm ps) (hq : IsTm qs) (hv : 0 ≤ v) (hl : ps.length + qs.length ≤ 1000000) (hsq : ∀ p ∈ qs, p.2.natAbs < 2 ^ 64) (he : e.natAbs < 2 ^ 64) (h : List O) : run G F (dsOf dd) (k + 6) "put" [.d (tmD c ps), .d (.int v), .d (tmD e qs)] h = .ok (.d (putP c e v ps qs)) h := by
  rw [r_put]
  have q := p_need_term (F := F) (k := k) (tmD c ps) (big_tm_le (by omega)) h
  rw [hp.termB, if_pos rfl] at q
  have q2 := p_need_other (F := F) (k := k) (tmD e qs) (big_tm_le (by omega)) h
  rw [hq.termB, if_pos rfl] at q2
  have q3 := p_put_for (F := F) (k := k + 2) c e v ps qs hl hsq he h
  simp [b_put, evCl_0, evCl_1, evCl_2, evCl_3, evCl_4, evCl_k, evCl_k2, evCl_k2r, evCl_k3r, ev, tv, evs, evo, evc, evw, evV, evC, evT, ev2, ev1, evCh, evB, evIf, evNil, evCons, evTup, evLst, evCall, evSl, evNo, evPart, vAnd, vOr, vNot, tAndE, tOrE, tNotE, binU, cmpU, biU, meU, g1, g2, maxG, minG, Es.len, Tg.slots, Tgs.slots, ex, exs, exh, sNx, sBk, sCt, sSeq, sDrop, sRet, sRetN, sAsg, sPar2, sPar3, sSub, sIf, sRaise, asg, asgs, R.bind_ok, R.bind_err, R.bind_bad, R.stm_ok, R.stm_err, R.stm_bad, opt_some, opt_none, noErr_ok, noErr_bad, leave_d, leave_n, leave_e, leave_da, mkL_f, tru, truU, truD, asB, asBo, q, p_need_variable, isIdx, hv, q2, q3]

end K01

namespace K01
open PySem PySem.Spec PyProof.Rows L2 Py

variable {F k : Nat}
/-! the law's own putting in -/
theorem coef_not {ps : PL} {v : Int} (h : v ∉ ps.map (·.1)) : coefI ps v = 0 ∧ restP ps v = ps := by
  have hf : ∀ p ∈ ps, ¬ p.1 = v := fun p hp e => h (by rw [← e]; exact List.mem_map.mpr ⟨p, hp, rfl⟩)
  refine ⟨?_, ?_⟩
  · unfold coefI
    rw [List.filter_eq_nil_iff.mpr (fun p hp => by simp [hf p hp])]
    rfl
  · unfold restP
    exact List.filter_eq_self.mpr fun p hp => by simp [hf p hp]
theorem coef_mem : ∀ {ps : PL} {v a : Int}, (ps.map (·.1)).Nodup → (v, a) ∈ ps → coefI ps v = a
  | p :: r, v, a, nd, h => by
    rw [List.map_cons, List.nodup_cons] at nd
    rcases List.mem_cons.mp h with e | h
    · subst e
      have z := (coef_not (ps := r) nd.1).1
      unfold coefI at z ⊢
      rw [List.filter_cons_of_pos (by simp), List.map_cons, List.sum_cons, z]
      omega
    · have ne : p.1 ≠ v := fun e => nd.1 (by rw [e]; exact List.mem_map.mpr ⟨_, h, rfl⟩)
      have ih := coef_mem nd.2 h
      unfold coefI at ih ⊢
      rw [List.filter_cons_of_neg (by simpa using ne)]
      exact ih
theorem asc_nodup {ks : List Int} (h : ks.Pairwise (· < ·)) : ks.Nodup := h.imp fun {a b} h => by omega
def FD (c e v : Int) (ps qs pre : PL) : D := if v ∈ pre.map (·.1) then tmD (c + e * coefI ps v) (canon (restP ps v ++ canon (mulP (coefI ps v) qs))) else tmD c (restP ps v)
theorem FD_all (c e v : Int) {ps : PL} (qs : PL) (hp : IsTm ps) : FD c e v ps qs ps = putP c e v ps qs := by
  unfold FD putP
  by_cases h : v ∈ ps.map (·.1)
  · obtain ⟨p, hm, e1⟩ := List.mem_map.mp h
    have e2 : coefI ps v = p.2 := coef_mem (asc_nodup hp.asc) (by rw [← e1]; exact hm)
    rw [if_pos h, if_neg (by rw [e2]; exact hp.nz p hm)]
  · obtain ⟨z1, z2⟩ := coef_not h
    rw [if_neg h, if_pos z1, z2]
theorem key_lrest (c v : Int) (ps : PL) (x : U) (hl : ps.length ≤ 1000000) (h : List O) : ev G (run G F (dsOf dd) k) c__law_put_0 [some (.d (tmD c ps)), some (.d (.int v)), some x, none, none, none, none] h = mkL false ((restP ps v).map Py.pairD) h := by
  refine (ev_lcpD (h1 := h) (ps.map Py.pairD) (fun x => !decide (fstI x = v)) id (by simp [ev, tv, evs, evo, evc, evw, evV, evC, evT, ev2, ev1, evCh, evB, evIf, evNil, evCons, evTup, evLst, evCall, evSl, evNo, evPart, vAnd, vOr, vNot, tAndE, tOrE, tNotE, binU, cmpU, biU, meU, g1, g2, maxG, minG, Es.len, Tg.slots, Tgs.slots, ex, exs, exh, sNx, sBk, sCt, sSeq, sDrop, sRet, sRetN, sAsg, sPar2, sPar3, sSub, sIf, sRaise, asg, asgs, R.bind_ok, R.bind_err, R.bind_bad, R.stm_ok, R.stm_err, R.stm_bad, opt_some, opt_none, noErr_ok, noErr_bad, leave_d, leave_n, leave_e, leave_da, mkL_f, tru, truU, truD, asB, asBo, getU_t1, tmD, srcU, -List.map_map]) (by simp; omega) (fun y hy => ?_)).trans (by rw [List.map_id, List.filter_map]; rfl)
  obtain ⟨p, hp, rfl⟩ := List.mem_map.mp hy
  exact ⟨[some (.d (tmD c ps)), some (.d (.int v)), some x, none, none, none, some (.d (Py.pairD p))], rfl, fun acc => ⟨by by_cases hv : p.1 = v <;> simp [ev, tv, evs, evo, evc, evw, evV, evC, evT, ev2, ev1, evCh, evB, evIf, evNil, evCons, evTup, evLst, evCall, evSl, evNo, evPart, vAnd, vOr, vNot, tAndE, tOrE, tNotE, binU, cmpU, biU, meU, g1, g2, maxG, minG, Es.len, Tg.slots, Tgs.slots, ex, exs, exh, sNx, sBk, sCt, sSeq, sDrop, sRet, sRetN, sAsg, sPar2, sPar3, sSub, sIf, sRaise, asg, asgs, R.bind_ok, R.bind_err, R.bind_bad, R.stm_ok, R.stm_err, R.stm_bad, opt_some, opt_none, noErr_ok, noErr_bad, leave_d, leave_n, leave_e, leave_da, mkL_f, tru, truU, truD, asB, asBo, eqU_i, Py.pairD, fstI, getU_t0, hv], fun _ => by simp [ev, tv, evs, evo, evc, evw, evV, evC, evT, ev2, ev1, evCh, evB, evIf, evNil, evCons, evTup, evLst, evCall, evSl, evNo, evPart, vAnd, vOr, vNot, tAndE, tOrE, tNotE, binU, cmpU, biU, meU, g1, g2, maxG, minG, Es.len, Tg.slots, Tgs.slots, ex, exs, exh, sNx, sBk, sCt, sSeq, sDrop, sRet, sRetN, sAsg, sPar2, sPar3, sSub, sIf, sRaise, asg, asgs, R.bind_ok, R.bind_err, R.bind_bad, R.stm_ok, R.stm_err, R.stm_bad, opt_some, opt_none, noErr_ok, noErr_bad, leave_d, leave_n, leave_e, leave_da, mkL_f, tru, truU, truD, asB, asBo]⟩⟩
theorem p__law_put (c e v : Int) (ps qs : PL) (hp : IsTm ps) (hl : ps.length + qs.length < 64) (hsq : ∀ p ∈ qs, p.2.natAbs < 2 ^ 64) (he : e.natAbs < 2 ^ 64) (h : List O) : run G F (dsOf dd) (k + 3) "_law_put" [.d (tmD c ps), .d (.int v), .d (tmD e qs)] h = .ok (.d (putP c e v ps qs)) h := by
  have loop : ∃ σ' h', ex G (run G F (dsOf dd) (k + 2)) F f__law_put_0 [some (.d (tmD c ps)), some (.d (.int v)), some (.d (tmD e qs)), some (.d (tmD c (restP ps v))), none, none, none] h = .nx σ' h' ∧
      h' = h ∧ ∃ u4 u5, σ' = [some (.d (tmD c ps)), some (.d (.int v)), some (.d (tmD e qs)), some (.d (FD c e v ps qs (ps.take (ps.map fun p => U.d (Py.pairD p)).length))), u4, u5, none] := by
    unfold f__law_put_0
    refine for_inv (us := ps.map fun p => U.d (Py.pairD p)) (h1 := h) (fun pre σ h' => h' = h ∧ ∃ u4 u5, σ = [some (.d (tmD c ps)), some (.d (.int v)), some (.d (tmD e qs)), some (.d (FD c e v ps qs (ps.take pre.length))), u4, u5, none]) ?_ ⟨rfl, _, _, by simp [FD]; exact ⟨rfl, rfl⟩⟩ (fun pre u r eq σ h' hI => ?_)
    · simp [ev, tv, evs, evo, evc, evw, evV, evC, evT, ev2, ev1, evCh, evB, evIf, evNil, evCons, evTup, evLst, evCall, evSl, evNo, evPart, vAnd, vOr, vNot, tAndE, tOrE, tNotE, binU, cmpU, biU, meU, g1, g2, maxG, minG, Es.len, Tg.slots, Tgs.slots, ex, exs, exh, sNx, sBk, sCt, sSeq, sDrop, sRet, sRetN, sAsg, sPar2, sPar3, sSub, sIf, sRaise, asg, asgs, R.bind_ok, R.bind_err, R.bind_bad, R.stm_ok, R.stm_err, R.stm_bad, opt_some, opt_none, noErr_ok, noErr_bad, leave_d, leave_n, leave_e, leave_da, mkL_f, tru, truU, truD, asB, asBo, getU_t1, tmD, srcU]
    · obtain ⟨rfl, u4, u5, rfl⟩ := hI
      obtain ⟨⟨w, a⟩, rfl, hm, hat, ht, hlt⟩ := map_split eq
      refine ⟨_, [some (.d (tmD c ps)), some (.d (.int v)), some (.d (tmD e qs)), some (.d (FD c e v ps qs (ps.take (pre.length + 1)))), some (.d (.int w)), some (.d (.int a)), none], _, rfl, ?_, rfl, some (.d (.int w)), some (.d (.int a)), by rw [List.length_append]; rfl⟩
      by_cases hw : w = v
      · subst hw
        have hc : coefI ps w = a := coef_mem (asc_nodup hp.asc) hm
        have hn : w ∉ (ps.take pre.length).map (·.1) := by
          have nd := asc_nodup hp.asc
          have e2 : ps = ps.take pre.length ++ ps.drop pre.length := (List.take_append_drop _ _).symm
          rw [e2, List.map_append, List.nodup_append] at nd
          intro z
          have hd : (w, a) ∈ ps.drop pre.length := by
            have : ps.drop pre.length = ps[pre.length] :: ps.drop (pre.length + 1) := List.drop_eq_getElem_cons hlt
            rw [this]
            have : ps[pre.length] = (w, a) := by
              have := List.getElem?_eq_getElem hlt
              rw [hat] at this
              exact (Option.some.inj this).symm
            rw [this]
            exact List.mem_cons_self
          exact nd.2.2 w z w (List.mem_map.mpr ⟨_, hd, rfl⟩) rfl
        have f0 : FD c e w ps qs (ps.take pre.length) = tmD c (restP ps w) := if_neg hn
        have f1 : FD c e w ps qs (ps.take (pre.length + 1)) = tmD (c + e * a) (canon (restP ps w ++ canon (mulP a qs))) := by
          unfold FD
          rw [if_pos (by rw [ht]; simp), hc]
        have q1 := p__law_by (F := F) (k := k) e a qs (by omega) (fun p hp => mulOk_l (hsq p hp)) (mulOk_l he) h'
        have q2 := p__law_plus (F := F) (k := k) c (e * a) (restP ps w) (canon (mulP a qs)) (by have := canon_len (mulP a qs); have := restP_len ps w; rw [mulP_len] at *; omega) h'
        rw [f0, f1]
        simp [l__law_put_0, evCl_0, evCl_1, evCl_2, evCl_3, evCl_4, evCl_k, evCl_k2, evCl_k2r, evCl_k3r, ev, tv, evs, evo, evc, evw, evV, evC, evT, ev2, ev1, evCh, evB, evIf, evNil, evCons, evTup, evLst, evCall, evSl, evNo, evPart, vAnd, vOr, vNot, tAndE, tOrE, tNotE, binU, cmpU, biU, meU, g1, g2, maxG, minG, Es.len, Tg.slots, Tgs.slots, ex, exs, exh, sNx, sBk, sCt, sSeq, sDrop, sRet, sRetN, sAsg, sPar2, sPar3, sSub, sIf, sRaise, asg, asgs, R.bind_ok, R.bind_err, R.bind_bad, R.stm_ok, R.stm_err, R.stm_bad, opt_some, opt_none, noErr_ok, noErr_bad, leave_d, leave_n, leave_e, leave_da, mkL_f, tru, truU, truD, asB, asBo, eqU_i, q1, q2]
      · have f1 : FD c e v ps qs (ps.take (pre.length + 1)) = FD c e v ps qs (ps.take pre.length) := by
          unfold FD
          rw [ht]
          have : (v ∈ (ps.take pre.length ++ [(w, a)]).map (·.1)) ↔ v ∈ (ps.take pre.length).map (·.1) := by
            rw [List.map_append, List.mem_append]
            constructor
            · rintro (z | z)
              · exact z
              · simp at z; exact absurd z.symm hw
            · exact .inl
          simp only [this]
        rw [f1]
        simp [l__law_put_0, evCl_0, evCl_1, evCl_2, evCl_3, evCl_4, evCl_k, evCl_k2, evCl_k2r, evCl_k3r, ev, tv, evs, evo, evc, evw, evV, evC, evT, ev2, ev1, evCh, evB, evIf, evNil, evCons, evTup, evLst, evCall, evSl, evNo, evPart, vAnd, vOr, vNot, tAndE, tOrE, tNotE, binU, cmpU, biU, meU, g1, g2, maxG, minG, Es.len, Tg.slots, Tgs.slots, ex, exs, exh, sNx, sBk, sCt, sSeq, sDrop, sRet, sRetN, sAsg, sPar2, sPar3, sSub, sIf, sRaise, asg, asgs, R.bind_ok, R.bind_err, R.bind_bad, R.stm_ok, R.stm_err, R.stm_bad, opt_some, opt_none, noErr_ok, noErr_bad, leave_d, leave_n, leave_e, leave_da, mkL_f, tru, truU, truD, asB, asBo, eqU_i, hw]
  obtain ⟨σ', h', e1, rfl, u4, u5, rfl⟩ := loop
  rw [List.length_map, List.take_length, FD_all _ _ _ _ hp] at e1
  rw [r__law_put]
  have h2 := key_lrest (F := F) (k := k + 2) c v ps (.d (tmD e qs)) (by omega) h'
  have h3 : getU (.d (tmD c ps)) (.d (.int 0)) h' = .ok (.d (.int c)) h' := getU_t0
  have h4 : (U.d (.tuple [PyData.int c, .tuple ((restP ps v).map Py.pairD)])) = U.d (tmD c (restP ps v)) := rfl
  simp [b__law_put, evCl_0, evCl_1, evCl_2, evCl_3, evCl_4, evCl_k, evCl_k2, evCl_k2r, evCl_k3r, ev, tv, evs, evo, evc, evw, evV, evC, evT, ev2, ev1, evCh, evB, evIf, evNil, evCons, evTup, evLst, evCall, evSl, evNo, evPart, vAnd, vOr, vNot, tAndE, tOrE, tNotE, binU, cmpU, biU, meU, g1, g2, maxG, minG, Es.len, Tg.slots, Tgs.slots, ex, exs, exh, sNx, sBk, sCt, sSeq, sDrop, sRet, sRetN, sAsg, sPar2, sPar3, sSub, sIf, sRaise, asg, asgs, R.bind_ok, R.bind_err, R.bind_bad, R.stm_ok, R.stm_err, R.stm_bad, opt_some, opt_none, noErr_ok, noErr_bad, leave_d, leave_n, leave_e, leave_da, mkL_f, tru, truU, truD, asB, asBo, h2, h3, tupleU_l, pures, h4, e1, -List.map_map]
/-! errors told -/
theorem iT : ("BadTerm" : Str) ∈ G.gx := by decide +kernel
theorem iC : ("BadConstant" : Str) ∈ G.gx := by decide +kernel
theorem iP : ("BadPairs" : Str) ∈ G.gx := by decide +kernel
theorem iR : ("BadRow" : Str) ∈ G.gx := by decide +kernel
theorem iO : ("BadOther" : Str) ∈ G.gx := by decide +kernel
theorem iN : ("BadNumber" : Str) ∈ G.gx := by decide +kernel
theorem iV : ("BadVariable" : Str) ∈ G.gx := by decide +kernel
def errs : List Str := ["BadConstant", "BadPairs", "BadTerm", "BadRow", "BadOther", "BadNumber", "BadVariable"]
theorem xx : ∀ a ∈ errs, ∀ b ∈ errs, exmB G a b = decide (a = b) := by decide +kernel
theorem xm (a b : Str) (ha : a ∈ errs) (hb : b ∈ errs) : exmB G a b = decide (a = b) := xx a ha b hb
theorem caught {x w : Str} {W : En → List O → Fl} {σ : En} {h : List O} {f : En → List O → Fl} {hs : List (Str × (En → List O → Fl))} (hf : f σ h = .er x σ h) (hx : x ∈ G.gx) (hh : hdl (exmB G) hs x σ h = W σ h) : sTry (exmB G) G.gx f hs σ h = W σ h := by
  unfold sTry
  rw [hf]
  simp only [hx, if_true, hh]
def wordOf (x : Str) : Str := if x = "BadConstant" then "constant" else if x = "BadPairs" then "pairs" else if x = "BadTerm" then "term" else if x = "BadRow" then "row" else if x = "BadOther" then "other" else if x = "BadNumber" then "number" else "variable"
theorem p_err (n : Int) (hn : n = 0 ∨ n = 1 ∨ n = 2 ∨ n = 3 ∨ n = 4) (x : Str) (hx : x ∈ errs) (u1 u2 u3 : U) (h : List O)
    (q : (n = 0 → run G F (dsOf dd) (k + 6) "term_of" [u1, u2] h = .err x h) ∧ (n = 1 → run G F (dsOf dd) (k + 6) "value" [u1, u2] h = .err x h) ∧ (n = 2 → run G F (dsOf dd) (k + 6) "add" [u1, u2] h = .err x h) ∧ (n = 3 → run G F (dsOf dd) (k + 6) "times" [u1, u2] h = .err x h) ∧ (n = 4 → run G F (dsOf dd) (k + 6) "put" [u1, u2, u3] h = .err x h)) :
    run G F (dsOf dd) (k + 7) "_law_error" [.d (.int n), u1, u2, u3] h = .ok (.d (.str (wordOf x))) h := by
  obtain ⟨q0, q1, q2, q3, q4⟩ := q
  have hxs : x = "BadConstant" ∨ x = "BadPairs" ∨ x = "BadTerm" ∨ x = "BadRow" ∨ x = "BadOther" ∨ x = "BadNumber" ∨ x = "BadVariable" := by
    simpa [errs] using hx
  have xe : ∀ b ∈ errs, exmB G x b = decide (x = b) := xx x hx
  have b0 := xe "BadConstant" (by simp [errs])
  have b1 := xe "BadPairs" (by simp [errs])
  have b2 := xe "BadTerm" (by simp [errs])
  have b3 := xe "BadRow" (by simp [errs])
  have b4 := xe "BadOther" (by simp [errs])
  have b5 := xe "BadNumber" (by simp [errs])
  have b6 := xe "BadVariable" (by simp [errs])
  have hg : x ∈ G.gx := by rcases hxs with rfl | rfl | rfl | rfl | rfl | rfl | rfl <;> first | exact iC | exact iP | exact iT | exact iR | exact iO | exact iN | exact iV
  rw [r__law_error]
  have fin : hdl (exmB G) (exh G (run G F (dsOf dd) (k + 6)) F (.cons "BadConstant" (.cons (.set 4 (.str "constant")) .nil) (.cons "BadPairs" (.cons (.set 4 (.str "pairs")) .nil) (.cons "BadTerm" (.cons (.set 4 (.str "term")) .nil) (.cons "BadRow" (.cons (.set 4 (.str "row")) .nil) (.cons "BadOther" (.cons (.set 4 (.str "other")) .nil) (.cons "BadNumber" (.cons (.set 4 (.str "number")) .nil) (.cons "BadVariable" (.cons (.set 4 (.str "variable")) .nil) .nil)))))))) x [some (.d (.int n)), some u1, some u2, some u3, some (.d (.str "told"))] h = .nx [some (.d (.int n)), some u1, some u2, some u3, some (.d (.str (wordOf x)))] h := by
    rcases hxs with rfl | rfl | rfl | rfl | rfl | rfl | rfl <;> simp (decide := true) [exh, hdl, b0, b1, b2, b3, b4, b5, b6, ev, tv, evs, evo, evc, evw, evV, evC, evT, ev2, ev1, evCh, evB, evIf, evNil, evCons, evTup, evLst, evCall, evSl, evNo, evPart, vAnd, vOr, vNot, tAndE, tOrE, tNotE, binU, cmpU, biU, meU, g1, g2, maxG, minG, Es.len, Tg.slots, Tgs.slots, ex, exs, exh, sNx, sBk, sCt, sSeq, sDrop, sRet, sRetN, sAsg, sPar2, sPar3, sSub, sIf, sRaise, asg, asgs, R.bind_ok, R.bind_err, R.bind_bad, R.stm_ok, R.stm_err, R.stm_bad, opt_some, opt_none, noErr_ok, noErr_bad, leave_d, leave_n, leave_e, leave_da, mkL_f, tru, truU, truD, asB, asBo, wordOf]
  rcases hn with rfl | rfl | rfl | rfl | rfl
  · have q := q0 rfl
    simp [b__law_error, evCl_0, evCl_1, evCl_2, evCl_3, evCl_4, evCl_k, evCl_k2, evCl_k2r, evCl_k3r, ev, tv, evs, evo, evc, evw, evV, evC, evT, ev2, ev1, evCh, evB, evIf, evNil, evCons, evTup, evLst, evCall, evSl, evNo, evPart, vAnd, vOr, vNot, tAndE, tOrE, tNotE, binU, cmpU, biU, meU, g1, g2, maxG, minG, Es.len, Tg.slots, Tgs.slots, ex, exs, exh, sNx, sBk, sCt, sSeq, sDrop, sRet, sRetN, sAsg, sPar2, sPar3, sSub, sIf, sRaise, asg, asgs, R.bind_ok, R.bind_err, R.bind_bad, R.stm_ok, R.stm_err, R.stm_bad, opt_some, opt_none, noErr_ok, noErr_bad, leave_d, leave_n, leave_e, leave_da, mkL_f, tru, truU, truD, asB, asBo, sTry, eqU_i, q, hg] at fin ⊢
    simp [fin, ev, tv, evs, evo, evc, evw, evV, evC, evT, ev2, ev1, evCh, evB, evIf, evNil, evCons, evTup, evLst, evCall, evSl, evNo, evPart, vAnd, vOr, vNot, tAndE, tOrE, tNotE, binU, cmpU, biU, meU, g1, g2, maxG, minG, Es.len, Tg.slots, Tgs.slots, ex, exs, exh, sNx, sBk, sCt, sSeq, sDrop, sRet, sRetN, sAsg, sPar2, sPar3, sSub, sIf, sRaise, asg, asgs, R.bind_ok, R.bind_err, R.bind_bad, R.stm_ok, R.stm_err, R.stm_bad, opt_some, opt_none, noErr_ok, noErr_bad, leave_d, leave_n, leave_e, leave_da, mkL_f, tru, truU, truD, asB, asBo]
  · have q := q1 rfl
    simp [b__law_error, evCl_0, evCl_1, evCl_2, evCl_3, evCl_4, evCl_k, evCl_k2, evCl_k2r, evCl_k3r, ev, tv, evs, evo, evc, evw, evV, evC, evT, ev2, ev1, evCh, evB, evIf, evNil, evCons, evTup, evLst, evCall, evSl, evNo, evPart, vAnd, vOr, vNot, tAndE, tOrE, tNotE, binU, cmpU, biU, meU, g1, g2, maxG, minG, Es.len, Tg.slots, Tgs.slots, ex, exs, exh, sNx, sBk, sCt, sSeq, sDrop, sRet, sRetN, sAsg, sPar2, sPar3, sSub, sIf, sRaise, asg, asgs, R.bind_ok, R.bind_err, R.bind_bad, R.stm_ok, R.stm_err, R.stm_bad, opt_some, opt_none, noErr_ok, noErr_bad, leave_d, leave_n, leave_e, leave_da, mkL_f, tru, truU, truD, asB, asBo, sTry, eqU_i, q, hg] at fin ⊢
    simp [fin, ev, tv, evs, evo, evc, evw, evV, evC, evT, ev2, ev1, evCh, evB, evIf, evNil, evCons, evTup, evLst, evCall, evSl, evNo, evPart, vAnd, vOr, vNot, tAndE, tOrE, tNotE, binU, cmpU, biU, meU, g1, g2, maxG, minG, Es.len, Tg.slots, Tgs.slots, ex, exs, exh, sNx, sBk, sCt, sSeq, sDrop, sRet, sRetN, sAsg, sPar2, sPar3, sSub, sIf, sRaise, asg, asgs, R.bind_ok, R.bind_err, R.bind_bad, R.stm_ok, R.stm_err, R.stm_bad, opt_some, opt_none, noErr_ok, noErr_bad, leave_d, leave_n, leave_e, leave_da, mkL_f, tru, truU, truD, asB, asBo]
  · have q := q2 rfl
    simp [b__law_error, evCl_0, evCl_1, evCl_2, evCl_3, evCl_4, evCl_k, evCl_k2, evCl_k2r, evCl_k3r, ev, tv, evs, evo, evc, evw, evV, evC, evT, ev2, ev1, evCh, evB, evIf, evNil, evCons, evTup, evLst, evCall, evSl, evNo, evPart, vAnd, vOr, vNot, tAndE, tOrE, tNotE, binU, cmpU, biU, meU, g1, g2, maxG, minG, Es.len, Tg.slots, Tgs.slots, ex, exs, exh, sNx, sBk, sCt, sSeq, sDrop, sRet, sRetN, sAsg, sPar2, sPar3, sSub, sIf, sRaise, asg, asgs, R.bind_ok, R.bind_err, R.bind_bad, R.stm_ok, R.stm_err, R.stm_bad, opt_some, opt_none, noErr_ok, noErr_bad, leave_d, leave_n, leave_e, leave_da, mkL_f, tru, truU, truD, asB, asBo, sTry, eqU_i, q, hg] at fin ⊢
    simp [fin, ev, tv, evs, evo, evc, evw, evV, evC, evT, ev2, ev1, evCh, evB, evIf, evNil, evCons, evTup, evLst, evCall, evSl, evNo, evPart, vAnd, vOr, vNot, tAndE, tOrE, tNotE, binU, cmpU, biU, meU, g1, g2, maxG, minG, Es.len, Tg.slots, Tgs.slots, ex, exs, exh, sNx, sBk, sCt, sSeq, sDrop, sRet, sRetN, sAsg, sPar2, sPar3, sSub, sIf, sRaise, asg, asgs, R.bind_ok, R.bind_err, R.bind_bad, R.stm_ok, R.stm_err, R.stm_bad, opt_some, opt_none, noErr_ok, noErr_bad, leave_d, leave_n, leave_e, leave_da, mkL_f, tru, truU, truD, asB, asBo]
  · have q := q3 rfl
    simp [b__law_error, evCl_0, evCl_1, evCl_2, evCl_3, evCl_4, evCl_k, evCl_k2, evCl_k2r, evCl_k3r, ev, tv, evs, evo, evc, evw, evV, evC, evT, ev2, ev1, evCh, evB, evIf, evNil, evCons, evTup, evLst, evCall, evSl, evNo, evPart, vAnd, vOr, vNot, tAndE, tOrE, tNotE, binU, cmpU, biU, meU, g1, g2, maxG, minG, Es.len, Tg.slots, Tgs.slots, ex, exs, exh, sNx, sBk, sCt, sSeq, sDrop, sRet, sRetN, sAsg, sPar2, sPar3, sSub, sIf, sRaise, asg, asgs, R.bind_ok, R.bind_err, R.bind_bad, R.stm_ok, R.stm_err, R.stm_bad, opt_some, opt_none, noErr_ok, noErr_bad, leave_d, leave_n, leave_e, leave_da, mkL_f, tru, truU, truD, asB, asBo, sTry, eqU_i, q, hg] at fin ⊢
    simp [fin, ev, tv, evs, evo, evc, evw, evV, evC, evT, ev2, ev1, evCh, evB, evIf, evNil, evCons, evTup, evLst, evCall, evSl, evNo, evPart, vAnd, vOr, vNot, tAndE, tOrE, tNotE, binU, cmpU, biU, meU, g1, g2, maxG, minG, Es.len, Tg.slots, Tgs.slots, ex, exs, exh, sNx, sBk, sCt, sSeq, sDrop, sRet, sRetN, sAsg, sPar2, sPar3, sSub, sIf, sRaise, asg, asgs, R.bind_ok, R.bind_err, R.bind_bad, R.stm_ok, R.stm_err, R.stm_bad, opt_some, opt_none, noErr_ok, noErr_bad, leave_d, leave_n, leave_e, leave_da, mkL_f, tru, truU, truD, asB, asBo]
  · have q := q4 rfl
    simp [b__law_error, evCl_0, evCl_1, evCl_2, evCl_3, evCl_4, evCl_k, evCl_k2, evCl_k2r, evCl_k3r, ev, tv, evs, evo, evc, evw, evV, evC, evT, ev2, ev1, evCh, evB, evIf, evNil, evCons, evTup, evLst, evCall, evSl, evNo, evPart, vAnd, vOr, vNot, tAndE, tOrE, tNotE, binU, cmpU, biU, meU, g1, g2, maxG, minG, Es.len, Tg.slots, Tgs.slots, ex, exs, exh, sNx, sBk, sCt, sSeq, sDrop, sRet, sRetN, sAsg, sPar2, sPar3, sSub, sIf, sRaise, asg, asgs, R.bind_ok, R.bind_err, R.bind_bad, R.stm_ok, R.stm_err, R.stm_bad, opt_some, opt_none, noErr_ok, noErr_bad, leave_d, leave_n, leave_e, leave_da, mkL_f, tru, truU, truD, asB, asBo, sTry, eqU_i, q, hg] at fin ⊢
    simp [fin, ev, tv, evs, evo, evc, evw, evV, evC, evT, ev2, ev1, evCh, evB, evIf, evNil, evCons, evTup, evLst, evCall, evSl, evNo, evPart, vAnd, vOr, vNot, tAndE, tOrE, tNotE, binU, cmpU, biU, meU, g1, g2, maxG, minG, Es.len, Tg.slots, Tgs.slots, ex, exs, exh, sNx, sBk, sCt, sSeq, sDrop, sRet, sRetN, sAsg, sPar2, sPar3, sSub, sIf, sRaise, asg, asgs, R.bind_ok, R.bind_err, R.bind_bad, R.stm_ok, R.stm_err, R.stm_bad, opt_some, opt_none, noErr_ok, noErr_bad, leave_d, leave_n, leave_e, leave_da, mkL_f, tru, truU, truD, asB, asBo]

end K01

namespace K01
open PySem PySem.Spec PyProof.Rows L2 Py

variable {F k : Nat}
/-! what is drawn -/
theorem ten20 : gPow 10 20 = some 100000000000000000000 := by decide
def V5 (ps : PL) : Prop := ∀ p ∈ ps, 0 ≤ p.1 ∧ p.1 < 5
theorem t_pairs {cs : List Int} {n : Int} {o : O} (hb : IsBag cs n o) (hn : n ≤ 10000) (hl : cs.length ≤ 63) (u0 u2 u3 u4 u5 u6 u7 u8 u9 u10 u11 u12 u13 u14 u15 u16 u17 u18 u19 u20 u21 u22 u23 : Option U) :
    ∃ (ps : PL) (o' : O), ev G (run G F (dsOf dd) (k + 1)) c_law_3 [u0, some (.lab 0), u2, u3, u4, u5, u6, u7, u8, u9, u10, u11, u12, u13, u14, u15, u16, u17, u18, u19, u20, u21, u22, u23] [o] = .ok (.d (.list (ps.map Py.pairD))) [o'] ∧ IsBag cs (n + 22) o' ∧ ps.length ≤ 7 ∧ V5 ps := by
  obtain ⟨r0, o1, q0, p0, p1, hb1⟩ := p_pick (F := F) (k := k) (many := 8) hb (by omega) (by decide) (by decide) (by omega)
  have hr : Py.inR r0 = true := Py.inR_of p0 (by omega)
  obtain ⟨ys, hh, e, ⟨o', rfl, hb', ps, rfl, hps⟩, hlen⟩ : ∃ ys hh', ev G (run G F (dsOf dd) (k + 1)) c_law_3 [u0, some (.lab 0), u2, u3, u4, u5, u6, u7, u8, u9, u10, u11, u12, u13, u14, u15, u16, u17, u18, u19, u20, u21, u22, u23] [o] = mkL false ys hh' ∧
      (∃ o', hh' = [o'] ∧ IsBag cs (n + 1 + 3 * (rngL 0 1 r0.toNat).length) o' ∧ ∃ ps : PL, ys = ps.map Py.pairD ∧ V5 ps) ∧ ys.length = (rngL 0 1 r0.toNat).length := by
    refine ev_lcI (us := rngL 0 1 r0.toNat) (h1 := [o1]) (fun pre ys hh => ∃ o', hh = [o'] ∧ IsBag cs (n + 1 + 3 * pre.length) o' ∧ ∃ ps : PL, ys = ps.map Py.pairD ∧ V5 ps) ?_ ?_ ⟨o1, rfl, by simpa using hb1, [], rfl, by simp [V5]⟩ (fun pre u r ys hh e hI => ?_) (by rw [rngL_len]; omega)
    · rintro pre ys hh ⟨o', rfl, _⟩; rfl
    · simp [evCl_0, evCl_1, evCl_2, evCl_3, evCl_4, evCl_k, evCl_k2, evCl_k2r, evCl_k3r, ev, tv, evs, evo, evc, evw, evV, evC, evT, ev2, ev1, evCh, evB, evIf, evNil, evCons, evTup, evLst, evCall, evSl, evNo, evPart, vAnd, vOr, vNot, tAndE, tOrE, tNotE, binU, cmpU, biU, meU, g1, g2, maxG, minG, Es.len, Tg.slots, Tgs.slots, ex, exs, exh, sNx, sBk, sCt, sSeq, sDrop, sRet, sRetN, sAsg, sPar2, sPar3, sSub, sIf, sRaise, asg, asgs, R.bind_ok, R.bind_err, R.bind_bad, R.stm_ok, R.stm_err, R.stm_bad, opt_some, opt_none, noErr_ok, noErr_bad, leave_d, leave_n, leave_e, leave_da, mkL_f, tru, truU, truD, asB, asBo, q0, rngS, hr]
    · obtain ⟨o2, rfl, hb2, ps, rfl, hps⟩ := hI
      obtain ⟨rfl, hlt⟩ := range_get e
      obtain ⟨r1, o3, q1, s0, s1, hb3⟩ := p_pick (F := F) (k := k) (many := 5) hb2 (by omega) (by decide) (by decide) (by omega)
      obtain ⟨r2, o4, q2, t0, t1, hb4⟩ := p_pick (F := F) (k := k) (many := 9) hb3 (by omega) (by decide) (by decide) (by omega)
      obtain ⟨r3, o5, q3, v0, v1, hb5⟩ := p_pick (F := F) (k := k) (many := 3) hb4 (by omega) (by decide) (by decide) (by omega)
      have hb5' : IsBag cs (n + 1 + 3 * (pre.length + 1 : Nat)) o5 := hb5.mono (by omega)
      have cases3 : r3 = 0 ∨ r3 = 1 ∨ r3 = 2 := by omega
      have mk : ∀ y, mulOk (r2 - 4) y = true := fun y => mulOk_l (by omega)
      obtain ⟨f, hat⟩ : ∃ f : Int, L2.atI [PyData.int 1, .int 1, .int 100000000000000000000] r3 = some (.int f) := by
        rcases cases3 with rfl | rfl | rfl
        · exact ⟨_, rfl⟩
        · exact ⟨_, rfl⟩
        · exact ⟨_, rfl⟩
      refine ⟨[u0, some (.lab 0), u2, u3, u4, u5, u6, u7, u8, u9, u10, u11, u12, u13, u14, u15, u16, u17, u18, u19, some (.d (.int pre.length)), u21, u22, u23], Py.pairD (r1, (r2 - 4) * f), [o5], rfl, ⟨o5, rfl, by simpa using hb5', ps ++ [(r1, (r2 - 4) * f)], by simp, fun p hp => ?_⟩, fun acc => ?_⟩
      · rcases List.mem_append.mp hp with hp | hp
        · exact hps p hp
        · rw [List.mem_singleton.mp hp]; exact ⟨s0, s1⟩
      · simp [evCl_0, evCl_1, evCl_2, evCl_3, evCl_4, evCl_k, evCl_k2, evCl_k2r, evCl_k3r, ev, tv, evs, evo, evc, evw, evV, evC, evT, ev2, ev1, evCh, evB, evIf, evNil, evCons, evTup, evLst, evCall, evSl, evNo, evPart, vAnd, vOr, vNot, tAndE, tOrE, tNotE, binU, cmpU, biU, meU, g1, g2, maxG, minG, Es.len, Tg.slots, Tgs.slots, ex, exs, exh, sNx, sBk, sCt, sSeq, sDrop, sRet, sRetN, sAsg, sPar2, sPar3, sSub, sIf, sRaise, asg, asgs, R.bind_ok, R.bind_err, R.bind_bad, R.stm_ok, R.stm_err, R.stm_bad, opt_some, opt_none, noErr_ok, noErr_bad, leave_d, leave_n, leave_e, leave_da, mkL_f, tru, truU, truD, asB, asBo, q1, q2, q3, Py.intOp, gSubI, ten20, pures, getU_lst hat, mulU_i (mk f), Py.pairD]
  rw [mkL_f] at e
  rw [rngL_len, List.length_map] at hlen
  exact ⟨ps, o', e, hb'.mono (by rw [rngL_len]; omega), by omega, hps⟩
/-- a drawn term -/
structure Small (names : List Int) (most : Int) (qs : PL) : Prop where
  tm : IsTm qs
  inn : ∀ p ∈ qs, p.1 ∈ names
  few : qs.length ≤ names.length
  small : ∀ p ∈ qs, -most ≤ p.2 ∧ p.2 ≤ most
theorem t_term {cs names : List Int} {n most : Int} {o : O} (hb : IsBag cs n o) (hn : n ≤ 10000) (hl : cs.length ≤ 63) (hnm : names.length ≤ 1000) (hasc : names.Pairwise (· < ·)) (hpos : ∀ v ∈ names, 0 ≤ v) (m1 : 1 ≤ most) (m2 : most ≤ 1000) :
    ∃ (c : Int) (qs : PL) (o' : O), run G F (dsOf dd) (k + 2) "_law_term" [.lab 0, .d (.list (names.map .int)), .d (.int most)] [o] = .ok (.d (tmD c qs)) [o'] ∧ IsBag cs (n + names.length + 1) o' ∧ Small names most qs ∧ -5 ≤ c ∧ c ≤ 5 := by
  have hm2 : ∀ y, mulOk 2 y = true := fun y => mulOk_l (by decide)
  obtain ⟨ys, hh, e, ⟨o1, rfl, hb1, ps, rfl, hps, hsm⟩, hlen⟩ : ∃ ys hh', ev G (run G F (dsOf dd) (k + 1)) (.lc false (.nm 4) (.seq (.var 1)) .no (.tup (.cons (.var 4) (.cons (.bin .sub false (.call "_law_pick" [0, 1] (.cons (.var 0) (.cons (.bin .add false (.bin .mul false (.int 2) (.var 2)) (.int 1)) .nil)) .nil) (.var 2)) .nil)))) [some (.lab 0), some (.d (.list (names.map .int))), some (.d (.int most)), none, none, none] [o] = mkL false ys hh' ∧
      (∃ o', hh' = [o'] ∧ IsBag cs (n + (names.map fun v => U.d (.int v)).length) o' ∧ ∃ ps : PL, ys = ps.map Py.pairD ∧ ps.map (·.1) = names.take (names.map fun v => U.d (.int v)).length ∧ ∀ p ∈ ps, -most ≤ p.2 ∧ p.2 ≤ most) ∧ ys.length = (names.map fun v => U.d (.int v)).length := by
    refine ev_lcI (us := names.map fun v => U.d (.int v)) (h1 := [o]) (fun pre ys hh => ∃ o', hh = [o'] ∧ IsBag cs (n + pre.length) o' ∧ ∃ ps : PL, ys = ps.map Py.pairD ∧ ps.map (·.1) = names.take pre.length ∧ ∀ p ∈ ps, -most ≤ p.2 ∧ p.2 ≤ most) ?_ ?_ ⟨o, rfl, by simpa using hb, [], rfl, rfl, by simp⟩ (fun pre u r ys hh e hI => ?_) (by simp; omega)
    · rintro pre ys hh ⟨o', rfl, _⟩; rfl
    · simp [ev, tv, evs, evo, evc, evw, evV, evC, evT, ev2, ev1, evCh, evB, evIf, evNil, evCons, evTup, evLst, evCall, evSl, evNo, evPart, vAnd, vOr, vNot, tAndE, tOrE, tNotE, binU, cmpU, biU, meU, g1, g2, maxG, minG, Es.len, Tg.slots, Tgs.slots, ex, exs, exh, sNx, sBk, sCt, sSeq, sDrop, sRet, sRetN, sAsg, sPar2, sPar3, sSub, sIf, sRaise, asg, asgs, R.bind_ok, R.bind_err, R.bind_bad, R.stm_ok, R.stm_err, R.stm_bad, opt_some, opt_none, noErr_ok, noErr_bad, leave_d, leave_n, leave_e, leave_da, mkL_f, tru, truU, truD, asB, asBo, srcU]
    · obtain ⟨o2, rfl, hb2, ps, rfl, hps, hsm⟩ := hI
      obtain ⟨v, rfl, hv, _, ht, hlt⟩ := map_split e
      obtain ⟨r1, o3, q1, s0, s1, hb3⟩ := p_pick (F := F) (k := k) (many := 2 * most + 1) hb2 (by omega) (by omega) (by omega) (by omega)
      refine ⟨[some (.lab 0), some (.d (.list (names.map .int))), some (.d (.int most)), none, some (.d (.int v)), none], Py.pairD (v, r1 - most), [o3], rfl, ⟨o3, rfl, by simpa using hb3.mono (by omega), ps ++ [(v, r1 - most)], by simp, ?_, fun p hp => ?_⟩, fun acc => ?_⟩
      · rw [List.map_append, hps, List.length_append, List.length_singleton, ht]; rfl
      · rcases List.mem_append.mp hp with hp | hp
        · exact hsm p hp
        · rw [List.mem_singleton.mp hp]; exact ⟨by show -most ≤ r1 - most; omega, by show r1 - most ≤ most; omega⟩
      · simp [evCl_0, evCl_1, evCl_2, evCl_3, evCl_4, evCl_k, evCl_k2, evCl_k2r, evCl_k3r, ev, tv, evs, evo, evc, evw, evV, evC, evT, ev2, ev1, evCh, evB, evIf, evNil, evCons, evTup, evLst, evCall, evSl, evNo, evPart, vAnd, vOr, vNot, tAndE, tOrE, tNotE, binU, cmpU, biU, meU, g1, g2, maxG, minG, Es.len, Tg.slots, Tgs.slots, ex, exs, exh, sNx, sBk, sCt, sSeq, sDrop, sRet, sRetN, sAsg, sPar2, sPar3, sSub, sIf, sRaise, asg, asgs, R.bind_ok, R.bind_err, R.bind_bad, R.stm_ok, R.stm_err, R.stm_bad, opt_some, opt_none, noErr_ok, noErr_bad, leave_d, leave_n, leave_e, leave_da, mkL_f, tru, truU, truD, asB, asBo, q1, Py.intOp, gSubI, pures, mulU_i (hm2 most), addU_i, Py.pairD]
  rw [mkL_f] at e
  rw [List.length_map, List.take_length] at hps
  have hps2 : ps.length = names.length := by rw [← List.length_map (f := fun p : Int × Int => p.1), hps]
  have e2 : ex G (run G F (dsOf dd) (k + 1)) F s__law_term_0 [some (.lab 0), some (.d (.list (names.map .int))), some (.d (.int most)), none, none, none] [o] = .nx [some (.lab 0), some (.d (.list (names.map .int))), some (.d (.int most)), some (.d (.list (ps.map Py.pairD))), none, none] [o1] := by
    show sAsg (ev G (run G F (dsOf dd) (k + 1)) (.lc false (.nm 4) (.seq (.var 1)) .no (.tup (.cons (.var 4) (.cons (.bin .sub false (.call "_law_pick" [0, 1] (.cons (.var 0) (.cons (.bin .add false (.bin .mul false (.int 2) (.var 2)) (.int 1)) .nil)) .nil) (.var 2)) .nil))))) (.nm 3) _ _ = _
    unfold sAsg
    rw [e]
    rfl
  obtain ⟨r2, o4, q2, t0, t1, hb4⟩ := p_pick (F := F) (k := k) (many := 11) hb1 (by simp; omega) (by decide) (by decide) (by omega)
  have key : ∀ h, ev G (run G F (dsOf dd) (k + 1)) c__law_term_0 [some (.lab 0), some (.d (.list (names.map .int))), some (.d (.int most)), some (.d (.list (ps.map Py.pairD))), none, none] h = mkL false ((ps.filter fun p => decide (p.2 ≠ 0)).map Py.pairD) h := fun h => by
    refine (ev_lcpD (h1 := h) (ps.map Py.pairD) (fun x => decide (sndI x ≠ 0)) id (by simp [ev, tv, evs, evo, evc, evw, evV, evC, evT, ev2, ev1, evCh, evB, evIf, evNil, evCons, evTup, evLst, evCall, evSl, evNo, evPart, vAnd, vOr, vNot, tAndE, tOrE, tNotE, binU, cmpU, biU, meU, g1, g2, maxG, minG, Es.len, Tg.slots, Tgs.slots, ex, exs, exh, sNx, sBk, sCt, sSeq, sDrop, sRet, sRetN, sAsg, sPar2, sPar3, sSub, sIf, sRaise, asg, asgs, R.bind_ok, R.bind_err, R.bind_bad, R.stm_ok, R.stm_err, R.stm_bad, opt_some, opt_none, noErr_ok, noErr_bad, leave_d, leave_n, leave_e, leave_da, mkL_f, tru, truU, truD, asB, asBo, srcU, -List.map_map]) (by simp; omega) (fun x hx => ?_)).trans (by rw [List.map_id, pairD_filter])
    obtain ⟨p, hp, rfl⟩ := List.mem_map.mp hx
    exact ⟨[some (.lab 0), some (.d (.list (names.map .int))), some (.d (.int most)), some (.d (.list (ps.map Py.pairD))), none, some (.d (Py.pairD p))], rfl, fun acc => ⟨by by_cases hc : p.2 = 0 <;> simp [ev, tv, evs, evo, evc, evw, evV, evC, evT, ev2, ev1, evCh, evB, evIf, evNil, evCons, evTup, evLst, evCall, evSl, evNo, evPart, vAnd, vOr, vNot, tAndE, tOrE, tNotE, binU, cmpU, biU, meU, g1, g2, maxG, minG, Es.len, Tg.slots, Tgs.slots, ex, exs, exh, sNx, sBk, sCt, sSeq, sDrop, sRet, sRetN, sAsg, sPar2, sPar3, sSub, sIf, sRaise, asg, asgs, R.bind_ok, R.bind_err, R.bind_bad, R.stm_ok, R.stm_err, R.stm_bad, opt_some, opt_none, noErr_ok, noErr_bad, leave_d, leave_n, leave_e, leave_da, mkL_f, tru, truU, truD, asB, asBo, getU_t0, getU_t1, getU_t2, getU_t3, getU_l0, getU_l1, getU_l2, getU_m1, getU_m2, getU_m3, eqU_i, eqU_s, eqU_b, eqU_nil, eqU_nilL, eqv_ii, eqv_ss, eqv_tnil, eqv_lnil, bool_bne, lenU_t, lenU_l, tupleU_l, tupleU_t, isiU, tyN, isaB, tyNames, cmpI, negU, srcK_d, srcU, Py.pairD, sndI, hc], fun _ => by simp [ev, tv, evs, evo, evc, evw, evV, evC, evT, ev2, ev1, evCh, evB, evIf, evNil, evCons, evTup, evLst, evCall, evSl, evNo, evPart, vAnd, vOr, vNot, tAndE, tOrE, tNotE, binU, cmpU, biU, meU, g1, g2, maxG, minG, Es.len, Tg.slots, Tgs.slots, ex, exs, exh, sNx, sBk, sCt, sSeq, sDrop, sRet, sRetN, sAsg, sPar2, sPar3, sSub, sIf, sRaise, asg, asgs, R.bind_ok, R.bind_err, R.bind_bad, R.stm_ok, R.stm_err, R.stm_bad, opt_some, opt_none, noErr_ok, noErr_bad, leave_d, leave_n, leave_e, leave_da, mkL_f, tru, truU, truD, asB, asBo]⟩⟩
  have hsub : ((ps.filter fun p => decide (p.2 ≠ 0)).map (·.1)).Sublist names := by rw [← hps]; exact List.filter_sublist.map _
  refine ⟨r2 - 5, ps.filter fun p => decide (p.2 ≠ 0), o4, ?_, hb4.mono (by simp), ⟨⟨hasc.sublist hsub, fun p hp => by simpa using (List.mem_filter.mp hp).2, fun p hp => hpos _ (hsub.mem (List.mem_map.mpr ⟨p, hp, rfl⟩))⟩, fun p hp => hsub.mem (List.mem_map.mpr ⟨p, hp, rfl⟩), ?_, fun p hp => hsm p (List.mem_filter.mp hp).1⟩, by omega, by omega⟩
  · rw [r__law_term]
    simp [b__law_term, evCl_0, evCl_1, evCl_2, evCl_3, evCl_4, evCl_k, evCl_k2, evCl_k2r, evCl_k3r, ev, tv, evs, evo, evc, evw, evV, evC, evT, ev2, ev1, evCh, evB, evIf, evNil, evCons, evTup, evLst, evCall, evSl, evNo, evPart, vAnd, vOr, vNot, tAndE, tOrE, tNotE, binU, cmpU, biU, meU, g1, g2, maxG, minG, Es.len, Tg.slots, Tgs.slots, ex, exs, exh, sNx, sBk, sCt, sSeq, sDrop, sRet, sRetN, sAsg, sPar2, sPar3, sSub, sIf, sRaise, asg, asgs, R.bind_ok, R.bind_err, R.bind_bad, R.stm_ok, R.stm_err, R.stm_bad, opt_some, opt_none, noErr_ok, noErr_bad, leave_d, leave_n, leave_e, leave_da, mkL_f, tru, truU, truD, asB, asBo, e2, q2, Py.intOp, gSubI, key, tupleU_l, pures, tmD, leave, outU, -List.map_map]
  · have := List.length_filter_le (fun p : Int × Int => decide (p.2 ≠ 0)) ps
    omega
/-- a drawn row -/
theorem t_row {cs : List Int} {n many most : Int} {o : O} (hb : IsBag cs n o) (hn : n ≤ 10000) (hl : cs.length ≤ 63) (h0 : 0 ≤ many) (h1 : many ≤ 1000) (m1 : 1 ≤ most) (m2 : most ≤ 1000) :
    ∃ (rs : List Int) (o' : O), run G F (dsOf dd) (k + 2) "_law_row" [.lab 0, .d (.int many), .d (.int most)] [o] = .ok (.d (.tuple (rs.map .int))) [o'] ∧ IsBag cs (n + many) o' ∧ (rs.length : Int) = many ∧ ∀ r ∈ rs, -most ≤ r ∧ r ≤ most := by
  have hm2 : ∀ y, mulOk 2 y = true := fun y => mulOk_l (by decide)
  have hr : Py.inR many = true := Py.inR_of h0 (by omega)
  obtain ⟨ys, hh, e, ⟨o1, rfl, hb1, rs, rfl, hrs⟩, hlen⟩ : ∃ ys hh', ev G (run G F (dsOf dd) (k + 1)) c__law_row_0 [some (.lab 0), some (.d (.int many)), some (.d (.int most)), none] [o] = mkL false ys hh' ∧
      (∃ o', hh' = [o'] ∧ IsBag cs (n + (rngL 0 1 many.toNat).length) o' ∧ ∃ rs : List Int, ys = rs.map .int ∧ ∀ r ∈ rs, -most ≤ r ∧ r ≤ most) ∧ ys.length = (rngL 0 1 many.toNat).length := by
    refine ev_lcI (us := rngL 0 1 many.toNat) (h1 := [o]) (fun pre ys hh => ∃ o', hh = [o'] ∧ IsBag cs (n + pre.length) o' ∧ ∃ rs : List Int, ys = rs.map .int ∧ ∀ r ∈ rs, -most ≤ r ∧ r ≤ most) ?_ ?_ ⟨o, rfl, by simpa using hb, [], rfl, by simp⟩ (fun pre u r ys hh e hI => ?_) (by rw [rngL_len]; omega)
    · rintro pre ys hh ⟨o', rfl, _⟩; rfl
    · simp [evCl_0, evCl_1, evCl_2, evCl_3, evCl_4, evCl_k, evCl_k2, evCl_k2r, evCl_k3r, ev, tv, evs, evo, evc, evw, evV, evC, evT, ev2, ev1, evCh, evB, evIf, evNil, evCons, evTup, evLst, evCall, evSl, evNo, evPart, vAnd, vOr, vNot, tAndE, tOrE, tNotE, binU, cmpU, biU, meU, g1, g2, maxG, minG, Es.len, Tg.slots, Tgs.slots, ex, exs, exh, sNx, sBk, sCt, sSeq, sDrop, sRet, sRetN, sAsg, sPar2, sPar3, sSub, sIf, sRaise, asg, asgs, R.bind_ok, R.bind_err, R.bind_bad, R.stm_ok, R.stm_err, R.stm_bad, opt_some, opt_none, noErr_ok, noErr_bad, leave_d, leave_n, leave_e, leave_da, mkL_f, tru, truU, truD, asB, asBo, rngS, hr]
    · obtain ⟨o2, rfl, hb2, rs, rfl, hrs⟩ := hI
      obtain ⟨rfl, hlt⟩ := range_get e
      obtain ⟨r1, o3, q1, s0, s1, hb3⟩ := p_pick (F := F) (k := k) (many := 2 * most + 1) hb2 (by omega) (by omega) (by omega) (by omega)
      refine ⟨[some (.lab 0), some (.d (.int many)), some (.d (.int most)), some (.d (.int pre.length))], .int (r1 - most), [o3], rfl, ⟨o3, rfl, by simpa using hb3.mono (by omega), rs ++ [r1 - most], by simp, fun x hx => ?_⟩, fun acc => ?_⟩
      · rcases List.mem_append.mp hx with hx | hx
        · exact hrs x hx
        · rw [List.mem_singleton.mp hx]; omega
      · simp [evCl_0, evCl_1, evCl_2, evCl_3, evCl_4, evCl_k, evCl_k2, evCl_k2r, evCl_k3r, ev, tv, evs, evo, evc, evw, evV, evC, evT, ev2, ev1, evCh, evB, evIf, evNil, evCons, evTup, evLst, evCall, evSl, evNo, evPart, vAnd, vOr, vNot, tAndE, tOrE, tNotE, binU, cmpU, biU, meU, g1, g2, maxG, minG, Es.len, Tg.slots, Tgs.slots, ex, exs, exh, sNx, sBk, sCt, sSeq, sDrop, sRet, sRetN, sAsg, sPar2, sPar3, sSub, sIf, sRaise, asg, asgs, R.bind_ok, R.bind_err, R.bind_bad, R.stm_ok, R.stm_err, R.stm_bad, opt_some, opt_none, noErr_ok, noErr_bad, leave_d, leave_n, leave_e, leave_da, mkL_f, tru, truU, truD, asB, asBo, q1, Py.intOp, gSubI, mulU_i (hm2 most), addU_i]
  rw [mkL_f] at e
  rw [rngL_len, List.length_map] at hlen
  refine ⟨rs, o1, ?_, hb1.mono (by rw [rngL_len]; omega), by omega, hrs⟩
  rw [r__law_row]
  simp [b__law_row, evCl_0, evCl_1, evCl_2, evCl_3, evCl_4, evCl_k, evCl_k2, evCl_k2r, evCl_k3r, ev, tv, evs, evo, evc, evw, evV, evC, evT, ev2, ev1, evCh, evB, evIf, evNil, evCons, evTup, evLst, evCall, evSl, evNo, evPart, vAnd, vOr, vNot, tAndE, tOrE, tNotE, binU, cmpU, biU, meU, g1, g2, maxG, minG, Es.len, Tg.slots, Tgs.slots, ex, exs, exh, sNx, sBk, sCt, sSeq, sDrop, sRet, sRetN, sAsg, sPar2, sPar3, sSub, sIf, sRaise, asg, asgs, R.bind_ok, R.bind_err, R.bind_bad, R.stm_ok, R.stm_err, R.stm_bad, opt_some, opt_none, noErr_ok, noErr_bad, leave_d, leave_n, leave_e, leave_da, mkL_f, tru, truU, truD, asB, asBo, e, tupleU_l, leave, outU]

end K01

namespace K01
open PySem PySem.Spec PyProof.Rows L2 Py

variable {F k : Nat}
def oddL : List D := [.none, .int 0, .tuple [.int 0], .tuple [.int 0, .tuple [], .int 0], .list [.int 0, .tuple []], .tuple [.bool true, .tuple []], .tuple [.int 0, .list [.tuple [.int 0, .int 1]]], .tuple [.int 0, .tuple [.tuple [.int 0, .int 0]]],
  .tuple [.int 0, .tuple [.tuple [.int 1, .int 1], .tuple [.int 0, .int 1]]], .tuple [.int 0, .tuple [.tuple [.int 0, .int 1], .tuple [.int 0, .int 1]]], .tuple [.int 0, .tuple [.tuple [.int (-1), .int 1]]], .tuple [.int 0, .tuple [.tuple [.int 0, .bool true]]], .tuple [.int 0, .tuple [.tuple [.int 0, .int 1, .int 1]]]]
theorem odd_no : ∀ d ∈ oddL, termB d = false ∧ big d ≤ 100 := by decide
theorem odd_judged (o : O) : ∀ d ∈ oddL, run G F (dsOf dd) (k + 9) "_law_judged" [.d d] [o] = .ok (.d (.bool false)) [o] := by
  intro d hd
  simp only [oddL, List.mem_cons, List.not_mem_nil, or_false] at hd
  rcases hd with rfl | rfl | rfl | rfl | rfl | rfl | rfl | rfl | rfl | rfl | rfl | rfl | rfl <;> kernel_rfl
def wrongL : List D := [.none, .tuple [.tuple [.int 0]], .tuple [.tuple [.int (-1), .int 1]], .list [.tuple [.int 0, .int 1]], .tuple [.tuple [.int 0, .bool true]]]
theorem wrong_no : ∀ d ∈ wrongL, pairsB d = false ∧ big d ≤ 100 := by decide
theorem atI_in {xs : List D} {i : Int} (h0 : 0 ≤ i) (h1 : i < xs.length) : ∃ d, L2.atI xs i = some d ∧ d ∈ xs := by
  have hi : i.toNat < xs.length := by omega
  refine ⟨xs[i.toNat], ?_, List.getElem_mem hi⟩
  have := L2.atI_nat (List.getElem?_eq_getElem hi)
  rwa [Int.toNat_of_nonneg h0] at this
/-! values that go along -/
theorem val_split : ∀ (ps : PL) (v t : Int) (ρ : Int → Int), valI ps (fun w => if w = v then t else ρ w) = valI (restP ps v) ρ + coefI ps v * t
  | [], v, t, ρ => by simp [valI, restP, coefI]
  | p :: r, v, t, ρ => by
    have ih := val_split r v t ρ
    rw [valI_cons, ih]
    unfold restP coefI
    by_cases h : p.1 = v
    · rw [List.filter_cons_of_neg (by simp [h]), List.filter_cons_of_pos (by simp [h]), List.map_cons, List.sum_cons, if_pos h, Int.add_mul]; omega
    · rw [List.filter_cons_of_pos (by simp [h]), List.filter_cons_of_neg (by simp [h]), valI_cons, if_neg h]; omega
theorem val_mul (n : Int) (ps : PL) (ρ : Int → Int) : valI (mulP n ps) ρ = valI ps ρ * n := by
  induction ps with
  | nil => simp [mulP, valI]
  | cons p r ih =>
    unfold mulP at ih ⊢
    rw [List.map_cons, valI_cons, valI_cons, ih, Int.add_mul, Int.mul_right_comm]
theorem valI_congr {ps : PL} {ρ ρ' : Int → Int} (h : ∀ p ∈ ps, ρ p.1 = ρ' p.1) : valI ps ρ = valI ps ρ' := by
  unfold valI
  rw [List.map_congr_left fun p hp => by rw [h p hp]]
/-- a term with the pairs that are put in -/
def putC (c e v : Int) (ps : PL) : Int := if coefI ps v = 0 then c else c + e * coefI ps v
def putQ (v : Int) (ps qs : PL) : PL := if coefI ps v = 0 then ps else canon (restP ps v ++ canon (mulP (coefI ps v) qs))
theorem putP_eq (c e v : Int) (ps qs : PL) : putP c e v ps qs = tmD (putC c e v ps) (putQ v ps qs) := by
  unfold putP putC putQ
  split <;> rfl
theorem coef0_rest {ps : PL} (hp : IsTm ps) {v : Int} (h : coefI ps v = 0) : restP ps v = ps := by
  by_cases m : v ∈ ps.map (·.1)
  · obtain ⟨p, hm, e1⟩ := List.mem_map.mp m
    have e2 : coefI ps v = p.2 := coef_mem (asc_nodup hp.asc) (by rw [← e1]; exact hm)
    exact absurd (e2.symm.trans h) (hp.nz p hm)
  · exact (coef_not m).2
theorem val_put (c e v : Int) {ps : PL} (qs : PL) (hp : IsTm ps) (ρ : Int → Int) : putC c e v ps + valI (putQ v ps qs) ρ = c + valI ps (fun w => if w = v then e + valI qs ρ else ρ w) := by
  rw [val_split]
  unfold putC putQ
  by_cases h : coefI ps v = 0
  · rw [if_pos h, if_pos h, coef0_rest hp h, h]; omega
  · rw [if_neg h, if_neg h, valI_canon, valI_app, valI_canon, val_mul, Int.mul_comm (coefI ps v), Int.add_mul]; omega
theorem V5.mulP {ps : PL} (h : V5 ps) (n : Int) : V5 (mulP n ps) := fun p hp => by
  obtain ⟨q, hq, rfl⟩ := List.mem_map.mp hp
  exact h q hq
theorem V5.canon {ps : PL} (h : V5 ps) : V5 (canon ps) := fun p hp => by
  obtain ⟨q, hq, e⟩ := List.mem_map.mp (canon_keys hp).1
  rw [← e]; exact h q hq
theorem V5.app {ps qs : PL} (h : V5 ps) (g : V5 qs) : V5 (ps ++ qs) := fun p hp => (List.mem_append.mp hp).elim (h p) (g p)
theorem V5.rest {ps : PL} (h : V5 ps) (v : Int) : V5 (restP ps v) := fun p hp => h p (List.mem_filter.mp hp).1
theorem V5.put {ps qs : PL} (h : V5 ps) (g : V5 qs) (v : Int) : V5 (putQ v ps qs) := by
  unfold putQ
  split
  · exact h
  · exact ((h.rest v).app (g.mulP _).canon).canon
theorem putQ_len (v : Int) (ps qs : PL) : (putQ v ps qs).length ≤ ps.length + qs.length := by
  unfold putQ
  split
  · omega
  · have h1 := canon_len (restP ps v ++ canon (mulP (coefI ps v) qs))
    have h2 := canon_len (mulP (coefI ps v) qs)
    have h3 := restP_len ps v
    rw [List.length_append] at h1
    rw [mulP_len] at h2
    omega
theorem V5.tm {ps : PL} (h : V5 ps) : IsTm (Py.canon ps) := IsTm.canon fun p hp => (h p hp).1
theorem depth_tm (c : Int) (ps : PL) : (tmD c ps).depth ≤ 3 := by
  have : ∀ ps : PL, PyData.depthAll (ps.map Py.pairD) ≤ 1 := fun ps => by
    induction ps with
    | nil => simp [PyData.depthAll]
    | cons p r ih => rw [List.map_cons, PyData.depthAll]; simp [Py.pairD, PyData.depth, PyData.depthAll]; omega
  have := this ps
  simp only [tmD, PyData.depth, PyData.depthAll]; omega
theorem plain_tm (c : Int) (ps : PL) : plainD (tmD c ps) = true := by
  have : ∀ ps : PL, plainDs (ps.map Py.pairD) = true := fun ps => by
    induction ps with
    | nil => rfl
    | cons p r ih => rw [List.map_cons, plainDs, ih]; rfl
  simp [tmD, plainD, plainDs, this ps]
theorem same_tm (c : Int) (ps : PL) (hl : ps.length ≤ 1000) (h : List O) : run G F (dsOf dd) (k + 4) "_law_same" [.d (tmD c ps), .d (tmD c ps)] h = .ok (.d (.bool true)) h :=
  p_same_refl 3 (tmD c ps) (depth_tm c ps) (by rw [big_tm]; omega) (plain_tm c ps) k h
theorem same_int (i : Int) (h : List O) : run G F (dsOf dd) (k + 1) "_law_same" [.d (.int i), .d (.int i)] h = .ok (.d (.bool true)) h :=
  p_same_refl 0 (.int i) (by simp [PyData.depth]) (by simp [big]) rfl k h
theorem same_bool (b : Bool) (h : List O) : run G F (dsOf dd) (k + 1) "_law_same" [.d (.bool b), .d (.bool b)] h = .ok (.d (.bool true)) h :=
  p_same_refl 0 (.bool b) (by simp [PyData.depth]) (by simp [big]) rfl k h
/-! comprehensions of the law -/
theorem key_raw (ps : PL) (rs : List Int) (hl : ps.length ≤ 1000) (hin : ∀ p ∈ ps, 0 ≤ p.1 ∧ p.1 < rs.length) (hm : ∀ p ∈ ps, mulOk p.2 (rho rs p.1) = true) (σ : En) (hσ : σ.length = 24) (h3 : σ[3]? = some (some (.d (.tuple (ps.map Py.pairD))))) (h16 : σ[16]? = some (some (.d (.tuple (rs.map .int))))) (h : List O) :
    ev G (run G F (dsOf dd) k) c_law_2 σ h = mkL false ((ps.map Py.pairD).map fun y => .int (sndI y * rho rs (fstI y))) h := by
  refine ev_lcD (ps.map Py.pairD) (fun y => .int (sndI y * rho rs (fstI y))) (by simp [ev, tv, evs, evo, evc, evw, evV, evC, evT, ev2, ev1, evCh, evB, evIf, evNil, evCons, evTup, evLst, evCall, evSl, evNo, evPart, vAnd, vOr, vNot, tAndE, tOrE, tNotE, binU, cmpU, biU, meU, g1, g2, maxG, minG, Es.len, Tg.slots, Tgs.slots, ex, exs, exh, sNx, sBk, sCt, sSeq, sDrop, sRet, sRetN, sAsg, sPar2, sPar3, sSub, sIf, sRaise, asg, asgs, R.bind_ok, R.bind_err, R.bind_bad, R.stm_ok, R.stm_err, R.stm_bad, opt_some, opt_none, noErr_ok, noErr_bad, leave_d, leave_n, leave_e, leave_da, mkL_f, tru, truU, truD, asB, asBo, h3, srcU, -List.map_map]) (by simp; omega) (fun y hy => ?_)
  obtain ⟨p, hp, rfl⟩ := List.mem_map.mp hy
  refine ⟨_, rfl, fun acc => ?_⟩
  have g := fun h => getU_row (hin p hp).1 (hin p hp).2 h
  obtain ⟨_, e16⟩ := List.getElem?_eq_some_iff.mp h16
  simp [ev, tv, evs, evo, evc, evw, evV, evC, evT, ev2, ev1, evCh, evB, evIf, evNil, evCons, evTup, evLst, evCall, evSl, evNo, evPart, vAnd, vOr, vNot, tAndE, tOrE, tNotE, binU, cmpU, biU, meU, g1, g2, maxG, minG, Es.len, Tg.slots, Tgs.slots, ex, exs, exh, sNx, sBk, sCt, sSeq, sDrop, sRet, sRetN, sAsg, sPar2, sPar3, sSub, sIf, sRaise, asg, asgs, R.bind_ok, R.bind_err, R.bind_bad, R.stm_ok, R.stm_err, R.stm_bad, opt_some, opt_none, noErr_ok, noErr_bad, leave_d, leave_n, leave_e, leave_da, mkL_f, tru, truU, truD, asB, asBo, wipeE, List.getElem?_set, hσ, h16, e16, g, mulU_i (hm p hp), Py.pairD, fstI, sndI]
theorem key_odd (σ : En) (hσ : σ.length = 24) (h9 : σ[9]? = some (some (.d (.list oddL)))) (h : List O) : ev G (run G F (dsOf dd) (k + 4)) c_law_1 σ h = mkL false (List.replicate 13 (.bool false)) h := by
  refine (ev_lcD (h1 := h) oddL (fun x => .bool (termB x)) (by simp [ev, tv, evs, evo, evc, evw, evV, evC, evT, ev2, ev1, evCh, evB, evIf, evNil, evCons, evTup, evLst, evCall, evSl, evNo, evPart, vAnd, vOr, vNot, tAndE, tOrE, tNotE, binU, cmpU, biU, meU, g1, g2, maxG, minG, Es.len, Tg.slots, Tgs.slots, ex, exs, exh, sNx, sBk, sCt, sSeq, sDrop, sRet, sRetN, sAsg, sPar2, sPar3, sSub, sIf, sRaise, asg, asgs, R.bind_ok, R.bind_err, R.bind_bad, R.stm_ok, R.stm_err, R.stm_bad, opt_some, opt_none, noErr_ok, noErr_bad, leave_d, leave_n, leave_e, leave_da, mkL_f, tru, truU, truD, asB, asBo, h9, srcU]) (by decide) (fun y hy => ⟨_, rfl, fun acc => ?_⟩)).trans ?_
  · have := p_is_term (F := F) (k := k) y (Nat.le_trans (odd_no y hy).2 (by decide)) (h ++ [.lst acc])
    simp [evCl_0, evCl_1, evCl_2, evCl_3, evCl_4, evCl_k, evCl_k2, evCl_k2r, evCl_k3r, ev, tv, evs, evo, evc, evw, evV, evC, evT, ev2, ev1, evCh, evB, evIf, evNil, evCons, evTup, evLst, evCall, evSl, evNo, evPart, vAnd, vOr, vNot, tAndE, tOrE, tNotE, binU, cmpU, biU, meU, g1, g2, maxG, minG, Es.len, Tg.slots, Tgs.slots, ex, exs, exh, sNx, sBk, sCt, sSeq, sDrop, sRet, sRetN, sAsg, sPar2, sPar3, sSub, sIf, sRaise, asg, asgs, R.bind_ok, R.bind_err, R.bind_bad, R.stm_ok, R.stm_err, R.stm_bad, opt_some, opt_none, noErr_ok, noErr_bad, leave_d, leave_n, leave_e, leave_da, mkL_f, tru, truU, truD, asB, asBo, wipeE, List.getElem?_set, hσ, this]
  · congr 1
theorem key_four (ps : PL) (c : Int) (hl : ps.length ≤ 1000) (σ : En) (hσ : σ.length = 24) (h5 : σ[5]? = some (some (.d (tmD c ps)))) (h : List O) : ev G (run G F (dsOf dd) k) c_law_0 σ h = mkL false ((ps.filter fun p => decide (p.1 = 4)).map Py.pairD) h := by
  refine (ev_lcpD (h1 := h) (ps.map Py.pairD) (fun x => decide (fstI x = 4)) id (by simp [ev, tv, evs, evo, evc, evw, evV, evC, evT, ev2, ev1, evCh, evB, evIf, evNil, evCons, evTup, evLst, evCall, evSl, evNo, evPart, vAnd, vOr, vNot, tAndE, tOrE, tNotE, binU, cmpU, biU, meU, g1, g2, maxG, minG, Es.len, Tg.slots, Tgs.slots, ex, exs, exh, sNx, sBk, sCt, sSeq, sDrop, sRet, sRetN, sAsg, sPar2, sPar3, sSub, sIf, sRaise, asg, asgs, R.bind_ok, R.bind_err, R.bind_bad, R.stm_ok, R.stm_err, R.stm_bad, opt_some, opt_none, noErr_ok, noErr_bad, leave_d, leave_n, leave_e, leave_da, mkL_f, tru, truU, truD, asB, asBo, h5, getU_t1, tmD, srcU, -List.map_map]) (by simp; omega) (fun x hx => ?_)).trans (by rw [List.map_id, List.filter_map]; rfl)
  obtain ⟨p, hp, rfl⟩ := List.mem_map.mp hx
  exact ⟨_, rfl, fun acc => ⟨by by_cases hv : p.1 = 4 <;> simp [ev, tv, evs, evo, evc, evw, evV, evC, evT, ev2, ev1, evCh, evB, evIf, evNil, evCons, evTup, evLst, evCall, evSl, evNo, evPart, vAnd, vOr, vNot, tAndE, tOrE, tNotE, binU, cmpU, biU, meU, g1, g2, maxG, minG, Es.len, Tg.slots, Tgs.slots, ex, exs, exh, sNx, sBk, sCt, sSeq, sDrop, sRet, sRetN, sAsg, sPar2, sPar3, sSub, sIf, sRaise, asg, asgs, R.bind_ok, R.bind_err, R.bind_bad, R.stm_ok, R.stm_err, R.stm_bad, opt_some, opt_none, noErr_ok, noErr_bad, leave_d, leave_n, leave_e, leave_da, mkL_f, tru, truU, truD, asB, asBo, wipeE, List.getElem?_set, hσ, eqU_i, bool_bne, getU_t0, Py.pairD, fstI, hv], fun _ => by simp [ev, tv, evs, evo, evc, evw, evV, evC, evT, ev2, ev1, evCh, evB, evIf, evNil, evCons, evTup, evLst, evCall, evSl, evNo, evPart, vAnd, vOr, vNot, tAndE, tOrE, tNotE, binU, cmpU, biU, meU, g1, g2, maxG, minG, Es.len, Tg.slots, Tgs.slots, ex, exs, exh, sNx, sBk, sCt, sSeq, sDrop, sRet, sRetN, sAsg, sPar2, sPar3, sSub, sIf, sRaise, asg, asgs, R.bind_ok, R.bind_err, R.bind_bad, R.stm_ok, R.stm_err, R.stm_bad, opt_some, opt_none, noErr_ok, noErr_bad, leave_d, leave_n, leave_e, leave_da, mkL_f, tru, truU, truD, asB, asBo, wipeE, List.getElem?_set, hσ]⟩⟩
def movL (rs : List Int) (v two : Int) : List Int := (List.range rs.length).map fun (i : Nat) => if (i : Int) = v then two else rho rs i
theorem key_moved (rs : List Int) (v two : Int) (hl : rs.length ≤ 1000) (σ : En) (hσ : σ.length = 24) (h7 : σ[7]? = some (some (.d (.list (rs.map .int))))) (h17 : σ[17]? = some (some (.d (.int v)))) (h19 : σ[19]? = some (some (.d (.int two)))) (h : List O) :
    ex G (run G F (dsOf dd) k) F s_law_0 σ h = .nx (σ.set 8 (some (.d (.list ((movL rs v two).map .int))))) h := by
  have hr : Py.inR (rs.length : Int) = true := Py.inR_of (by omega) (by omega)
  have e : ev G (run G F (dsOf dd) k) (.lc false (.nm 20) (.rng (.cons (.bi .len false (.cons (.var 7) .nil)) .nil)) .no (.ife (.cmp .eq (.var 20) (.var 17)) (.var 19) (.ix (.var 7) (.var 20)))) σ h = mkL false ((rngL 0 1 rs.length).map fun u => match u with | .d (.int i) => .int (if i = v then two else rho rs i) | _ => .none) h := by
    refine ev_lc (h1 := h) (fun u => match u with | .d (.int i) => .int (if i = v then two else rho rs i) | _ => .none) (by simp [evCl_0, evCl_1, evCl_2, evCl_3, evCl_4, evCl_k, evCl_k2, evCl_k2r, evCl_k3r, ev, tv, evs, evo, evc, evw, evV, evC, evT, ev2, ev1, evCh, evB, evIf, evNil, evCons, evTup, evLst, evCall, evSl, evNo, evPart, vAnd, vOr, vNot, tAndE, tOrE, tNotE, binU, cmpU, biU, meU, g1, g2, maxG, minG, Es.len, Tg.slots, Tgs.slots, ex, exs, exh, sNx, sBk, sCt, sSeq, sDrop, sRet, sRetN, sAsg, sPar2, sPar3, sSub, sIf, sRaise, asg, asgs, R.bind_ok, R.bind_err, R.bind_bad, R.stm_ok, R.stm_err, R.stm_bad, opt_some, opt_none, noErr_ok, noErr_bad, leave_d, leave_n, leave_e, leave_da, mkL_f, tru, truU, truD, asB, asBo, h7, lenU_l, rngS, hr]) (by rw [rngL_len]; omega) (fun u hu => ?_)
    rw [rngL_map] at hu
    obtain ⟨i, hi, rfl⟩ := List.mem_map.mp hu
    have hi' : i < rs.length := List.mem_range.mp hi
    refine ⟨_, rfl, fun acc => ?_⟩
    have g := fun h => getU_rowL (rs := rs) (v := (i : Int)) (by omega) (by omega) h
    obtain ⟨_, e17⟩ := List.getElem?_eq_some_iff.mp h17
    obtain ⟨_, e19⟩ := List.getElem?_eq_some_iff.mp h19
    obtain ⟨_, e7⟩ := List.getElem?_eq_some_iff.mp h7
    by_cases hv : (i : Int) = v
    · simp [ev, tv, evs, evo, evc, evw, evV, evC, evT, ev2, ev1, evCh, evB, evIf, evNil, evCons, evTup, evLst, evCall, evSl, evNo, evPart, vAnd, vOr, vNot, tAndE, tOrE, tNotE, binU, cmpU, biU, meU, g1, g2, maxG, minG, Es.len, Tg.slots, Tgs.slots, ex, exs, exh, sNx, sBk, sCt, sSeq, sDrop, sRet, sRetN, sAsg, sPar2, sPar3, sSub, sIf, sRaise, asg, asgs, R.bind_ok, R.bind_err, R.bind_bad, R.stm_ok, R.stm_err, R.stm_bad, opt_some, opt_none, noErr_ok, noErr_bad, leave_d, leave_n, leave_e, leave_da, mkL_f, tru, truU, truD, asB, asBo, wipeE, List.getElem?_set, hσ, e17, e19, eqU_i, bool_bne, hv]
    · simp [ev, tv, evs, evo, evc, evw, evV, evC, evT, ev2, ev1, evCh, evB, evIf, evNil, evCons, evTup, evLst, evCall, evSl, evNo, evPart, vAnd, vOr, vNot, tAndE, tOrE, tNotE, binU, cmpU, biU, meU, g1, g2, maxG, minG, Es.len, Tg.slots, Tgs.slots, ex, exs, exh, sNx, sBk, sCt, sSeq, sDrop, sRet, sRetN, sAsg, sPar2, sPar3, sSub, sIf, sRaise, asg, asgs, R.bind_ok, R.bind_err, R.bind_bad, R.stm_ok, R.stm_err, R.stm_bad, opt_some, opt_none, noErr_ok, noErr_bad, leave_d, leave_n, leave_e, leave_da, mkL_f, tru, truU, truD, asB, asBo, wipeE, List.getElem?_set, hσ, e17, e7, eqU_i, bool_bne, hv, g]
  show sAsg (ev G (run G F (dsOf dd) k) (.lc false (.nm 20) (.rng (.cons (.bi .len false (.cons (.var 7) .nil)) .nil)) .no (.ife (.cmp .eq (.var 20) (.var 17)) (.var 19) (.ix (.var 7) (.var 20))))) (.nm 8) σ h = _
  unfold sAsg
  rw [e, mkL_f, rngL_map, List.map_map]
  unfold movL
  rw [List.map_map]
  rfl

end K01

namespace K01
open PySem PySem.Spec PyProof.Rows L2 Py

variable {F k : Nat}
theorem exs_seq {C : Str → List U → List O → R U} {s : Sm} {r : Ss} {σ σ1 : En} {h h1 : List O} {z : Fl} (e : ex G C F s σ h = .nx σ1 h1) (e2 : exs G C F r σ1 h1 = z) : exs G C F (.cons s r) σ h = z := by
  show sSeq (ex G C F s) (exs G C F r) σ h = z
  unfold sSeq
  rw [e]
  exact e2
theorem wo0 : wordOf "BadConstant" = "constant" := by decide
theorem wo1 : wordOf "BadPairs" = "pairs" := by decide
theorem wo2 : wordOf "BadTerm" = "term" := by decide
theorem wo3 : wordOf "BadRow" = "row" := by decide
theorem wo4 : wordOf "BadOther" = "other" := by decide
theorem wo5 : wordOf "BadNumber" = "number" := by decide
theorem wo6 : wordOf "BadVariable" = "variable" := by decide
theorem mem_errs : ("BadConstant" : Str) ∈ errs ∧ ("BadPairs" : Str) ∈ errs ∧ ("BadTerm" : Str) ∈ errs ∧ ("BadRow" : Str) ∈ errs ∧ ("BadOther" : Str) ∈ errs ∧ ("BadNumber" : Str) ∈ errs ∧ ("BadVariable" : Str) ∈ errs := by simp [errs]
theorem val_bound (ρ : Int → Int) (B : Nat) : ∀ (qs : PL), (∀ p ∈ qs, (p.2 * ρ p.1).natAbs ≤ B) → (valI qs ρ).natAbs ≤ B * qs.length
  | [], _ => by simp [valI]
  | p :: r, h => by
    have h1 := h p List.mem_cons_self
    have h2 := val_bound ρ B r fun q hq => h q (List.mem_cons_of_mem _ hq)
    rw [valI_cons, List.length_cons, Nat.mul_succ]
    omega
theorem cut_4 {α : Type} (xs : List α) (h : 4 ≤ xs.length) : cut xs none (some 4) = xs.take 4 := by
  unfold cut
  simp [HT.sIx, h]
theorem rho_app {rs ts : List Int} {w : Int} (h0 : 0 ≤ w) (h1 : w < rs.length) : rho (rs ++ ts) w = rho rs w := by
  unfold rho
  rw [List.getD_eq_getElem?_getD, List.getD_eq_getElem?_getD, List.getElem?_append_left (by omega)]
theorem rho_mov {rs : List Int} {v two w : Int} (h0 : 0 ≤ w) (h1 : w < rs.length) : rho (movL rs v two) w = if w = v then two else rho rs w := by
  have hw : w.toNat < rs.length := by omega
  conv => lhs; unfold rho movL
  rw [List.getD_eq_getElem?_getD, List.getElem?_map, List.getElem?_range hw]
  simp only [Option.map_some, Option.getD_some]
  rw [Int.toNat_of_nonneg h0]
theorem movL_len (rs : List Int) (v two : Int) : (movL rs v two).length = rs.length := by simp [movL]
def wordsD : D := .list [.str "constant", .str "pairs", .str "term", .str "row", .str "term", .str "other", .str "term", .str "number", .str "term", .str "variable", .str "other"]
theorem words_eq (h : List O) : Py.eqU true (.d wordsD) (.d wordsD) h = .ok (.d (.bool false)) h := by
  have hd : PyData.depth wordsD ≤ 64 := by decide
  have he : PyData.eqv wordsD wordsD = true := by decide
  rw [eqU_of (.inl hd), he]
  rfl
theorem falses_eq (h : List O) : Py.eqU true (.d (.list (List.replicate 13 (.bool false)))) (.d (.list (List.replicate 13 (.bool false)))) h = .ok (.d (.bool false)) h := by
  rw [eqU_of (.inl (by decide)), show PyData.eqv (.list (List.replicate 13 (.bool false))) (.list (List.replicate 13 (.bool false))) = true by decide]
  rfl
/-- all that a turn's drawn things are asked -/
structure Drawn (ps qs : PL) (c0 e n v : Int) (rs : List Int) : Prop where
  p5 : V5 ps
  p7 : ps.length ≤ 7
  q5 : V5 qs
  qt : IsTm qs
  q4 : qs.length ≤ 4
  qs5 : ∀ p ∈ qs, -5 ≤ p.2 ∧ p.2 ≤ 5
  e5 : -5 ≤ e ∧ e ≤ 5
  n7 : -7 ≤ n ∧ n ≤ 7
  v0 : 0 ≤ v
  r5 : 5 ≤ rs.length
  r7 : rs.length ≤ 7
  r50 : ∀ r ∈ rs, -50 ≤ r ∧ r ≤ 50
def wideL (rs : List Int) : List Int := rs ++ [0, 0, 0, 0, 0, 0, 0, 0, 0]
section
variable {ps qs : PL} {c0 e n v : Int} {rs : List Int} (D : Drawn ps qs c0 e n v rs)
include D
theorem Drawn.P : IsTm (canon ps) ∧ V5 (canon ps) ∧ (canon ps).length ≤ 7 := ⟨D.p5.tm, D.p5.canon, Nat.le_trans (canon_len ps) D.p7⟩
theorem Drawn.inr {xs : PL} (h : V5 xs) : ∀ p ∈ xs, 0 ≤ p.1 ∧ p.1 < rs.length := fun p hp => by
  have := h p hp
  have := D.r5
  omega
theorem Drawn.mulr {xs : PL} (h : V5 xs) : ∀ p ∈ xs, mulOk p.2 (rho rs p.1) = true := fun p hp => by
  obtain ⟨h0, h1⟩ := D.inr h p hp
  have := D.r50 _ (rho_mem h0 h1)
  exact mulOk_r (by omega)
theorem Drawn.value (c : Int) {xs : PL} (ht : IsTm xs) (h5 : V5 xs) (hl : xs.length ≤ 100) (h : List O) : run G F (dsOf dd) (k + 6) "value" [.d (tmD c xs), .d (.tuple (rs.map .int))] h = .ok (.d (.int (c + valI xs (rho rs)))) h :=
  p_value c xs ht (by omega) rs (by have := D.r7; omega) (fun p hp => (D.inr h5 p hp).2) (D.mulr h5) h
theorem Drawn.lvalue (c : Int) {xs : PL} (h5 : V5 xs) (hl : xs.length ≤ 100) (h : List O) : run G F (dsOf dd) (k + 1) "_law_value" [.d (tmD c xs), .d (.tuple (rs.map .int))] h = .ok (.d (.int (c + valI xs (rho rs)))) h :=
  p__law_value c xs _ rs (by omega) (fun p hp h => getU_row (D.inr h5 p hp).1 (D.inr h5 p hp).2 h) (D.mulr h5) h
theorem Drawn.two : (e + valI qs (rho rs)).natAbs < 2 ^ 64 := by
  have := val_bound (rho rs) 250 qs fun p hp => by
    obtain ⟨h0, h1⟩ := D.inr D.q5 p hp
    have a := D.r50 _ (rho_mem h0 h1)
    have b := D.qs5 p hp
    rw [Int.natAbs_mul]
    exact Nat.le_trans (Nat.mul_le_mul (show p.2.natAbs ≤ 5 by omega) (show (rho rs p.1).natAbs ≤ 50 by omega)) (by decide)
  have := D.q4
  have := D.e5
  omega
theorem Drawn.wide_in {xs : PL} (h : V5 xs) : ∀ p ∈ xs, 0 ≤ p.1 ∧ p.1 < (wideL rs).length ∧ rho (wideL rs) p.1 = rho rs p.1 := fun p hp => by
  obtain ⟨h0, h1⟩ := D.inr h p hp
  exact ⟨h0, by simp [wideL]; omega, rho_app h0 h1⟩
theorem Drawn.wvalue (c : Int) {xs : PL} (h5 : V5 xs) (hl : xs.length ≤ 100) (h : List O) : run G F (dsOf dd) (k + 1) "_law_value" [.d (tmD c xs), .d (.list ((wideL rs).map .int))] h = .ok (.d (.int (c + valI xs (rho rs)))) h := by
  rw [p__law_value c xs _ (wideL rs) (by omega) (fun p hp h => getU_rowL (D.wide_in h5 p hp).1 (D.wide_in h5 p hp).2.1 h) (fun p hp => by rw [(D.wide_in h5 p hp).2.2]; exact D.mulr h5 p hp) h,
    valI_congr fun p hp => (D.wide_in h5 p hp).2.2]
theorem Drawn.mvalue (c : Int) {xs : PL} (h5 : V5 xs) (hl : xs.length ≤ 100) (h : List O) : run G F (dsOf dd) (k + 1) "_law_value" [.d (tmD c xs), .d (.list ((movL (wideL rs) v (e + valI qs (rho rs))).map .int))] h = .ok (.d (.int (c + valI xs fun w => if w = v then e + valI qs (rho rs) else rho rs w))) h := by
  have hm : ∀ p ∈ xs, rho (movL (wideL rs) v (e + valI qs (rho rs))) p.1 = if p.1 = v then e + valI qs (rho rs) else rho rs p.1 := fun p hp => by
    obtain ⟨a, b, c⟩ := D.wide_in h5 p hp
    rw [rho_mov a b, c]
  rw [p__law_value c xs _ (movL (wideL rs) v (e + valI qs (rho rs))) (by omega) (fun p hp h => getU_rowL (D.wide_in h5 p hp).1 (by rw [movL_len]; exact (D.wide_in h5 p hp).2.1) h) (fun p hp => by
    rw [hm p hp]
    split
    · exact mulOk_r D.two
    · exact D.mulr h5 p hp) h, valI_congr (ρ' := fun w => if w = v then e + valI qs (rho rs) else rho rs w) hm]
theorem Drawn.goes : putC c0 e v (canon ps) + valI (putQ v (canon ps) qs) (rho rs) = c0 + valI (canon ps) fun w => if w = v then e + valI qs (rho rs) else rho rs w := val_put c0 e v qs D.P.1 (rho rs)
/-- the few -/
theorem Drawn.few {r : Int} (h0 : 0 ≤ r) (h1 : r < 4) : ∃ fd, L2.atI [.none, .list (rs.map .int), .tuple [.int 0, .int 0, .int 0, .int 0, .bool true], if ((canon ps).filter fun p => decide (p.1 = 4)).isEmpty = true then .none else .tuple ((rs.take 4).map .int)] r = some fd ∧
    ∀ (k : Nat) h, run G F (dsOf dd) (k + 6) "value" [.d (tmD c0 (canon ps)), .d fd] h = .err "BadRow" h := by
  obtain ⟨t, t5, tl⟩ := D.P
  have hl := D.r7
  have cases4 : r = 0 ∨ r = 1 ∨ r = 2 ∨ r = 3 := by omega
  rcases cases4 with rfl | rfl | rfl | rfl
  · exact ⟨_, rfl, fun k h => p_value_r c0 _ t (by omega) .none (by decide) rfl h⟩
  · refine ⟨_, rfl, fun k h => p_value_r c0 _ t (by omega) (.list (rs.map .int)) ?_ rfl h⟩
    have : ∀ rs : List Int, bigs (rs.map PyData.int) = rs.length := fun rs => by
      induction rs with
      | nil => rfl
      | cons x r ih => rw [List.map_cons, bigs, ih, List.length_cons]; simp [big]; omega
    rw [big, this]; omega
  · exact ⟨_, rfl, fun k h => p_value_r c0 _ t (by omega) (.tuple [.int 0, .int 0, .int 0, .int 0, .bool true]) (by decide) rfl h⟩
  · refine ⟨_, rfl, fun k h => ?_⟩
    by_cases he : ((canon ps).filter fun p => decide (p.1 = 4)).isEmpty = true
    · rw [if_pos he]; exact p_value_r c0 _ t (by omega) .none (by decide) rfl h
    · rw [if_neg he]
      have hne : ((canon ps).filter fun p => decide (p.1 = 4)) ≠ [] := fun z => he (by rw [z]; rfl)
      obtain ⟨p, hp⟩ := List.exists_mem_of_ne_nil _ hne
      obtain ⟨hp1, hp2⟩ := List.mem_filter.mp hp
      have hp2 : p.1 = 4 := by simpa using hp2
      exact p_value_r2 c0 _ t (by omega) (rs.take 4) (by simp; omega) p hp1 (by rw [hp2]; simp; omega) h
end

end K01

namespace K01
open PySem PySem.Spec PyProof.Rows L2 Py

variable {F k : Nat}
theorem turn {cs : List Int} {n : Int} {o : O} (hb : IsBag cs n o) (hn : n ≤ 1000) (hl : cs.length ≤ 63) (u0 u2 u3 u4 u5 u6 u7 u8 u9 u10 u11 u12 u13 u14 u15 u16 u17 u18 u19 u20 u21 u22 u23 : Option U) :
    ∃ (o' : O) (v3 v4 v5 v6 v7 v8 v9 v10 v11 v12 v13 v14 v15 v16 v17 v18 v19 : Option U), exs G (run G F (dsOf dd) (k + 12)) F l_law_0 [u0, some (.lab 0), u2, u3, u4, u5, u6, u7, u8, u9, u10, u11, u12, u13, u14, u15, u16, u17, u18, u19, u20, u21, u22, u23] [o] =
      .nx [u0, some (.lab 0), u2, v3, v4, v5, v6, v7, v8, v9, v10, v11, v12, v13, v14, v15, v16, v17, v18, v19, u20, u21, u22, u23] [o'] ∧ IsBag cs (n + 60) o' := by
  obtain ⟨ps, o1, e1, hb1, p7, p5⟩ := t_pairs (F := F) (k := k + 11) hb (by omega) hl u0 u2 u3 u4 u5 u6 u7 u8 u9 u10 u11 u12 u13 u14 u15 u16 u17 u18 u19 u20 u21 u22 u23
  obtain ⟨r2, o2, e2, a2, b2, hb2⟩ := p_pick (F := F) (k := k + 11) (many := 19) hb1 (by omega) (by decide) (by decide) (by omega)
  obtain ⟨e, qs, o3, e3, hb3, hq, e5a, e5b⟩ := t_term (F := F) (k := k + 10) (names := [0, 1, 3, 4]) (most := 5) hb2 (by omega) hl (by decide) (by decide) (by decide) (by decide) (by decide)
  obtain ⟨r4, o4, e4, a4, b4, hb4⟩ := p_pick (F := F) (k := k + 11) (many := 15) hb3 (by simp; omega) (by decide) (by decide) (by omega)
  obtain ⟨r5, o5, e5, a5, b5, hb5⟩ := p_pick (F := F) (k := k + 11) (many := 3) hb4 (by simp; omega) (by decide) (by decide) (by omega)
  obtain ⟨rs, o6, e6, hb6, rl, r50⟩ := t_row (F := F) (k := k + 10) (many := 5 + r5) (most := 50) hb5 (by simp; omega) hl (by omega) (by omega) (by decide) (by decide)
  obtain ⟨v, o7, e7, a7, b7, hb7⟩ := p_pick (F := F) (k := k + 11) (many := 7) hb6 (by simp; omega) (by decide) (by decide) (by omega)
  obtain ⟨r8, o8, e8, a8, b8, hb8⟩ := p_pick (F := F) (k := k + 11) (many := 13) hb7 (by simp; omega) (by decide) (by decide) (by omega)
  obtain ⟨r9, o9, e9, a9, b9, hb9⟩ := p_pick (F := F) (k := k + 11) (many := 5) hb8 (by simp; omega) (by decide) (by decide) (by omega)
  obtain ⟨r10, o10, e10, a10, b10, hb10⟩ := p_pick (F := F) (k := k + 11) (many := 4) hb9 (by simp; omega) (by decide) (by decide) (by omega)
  simp only [Nat.add_assoc, Nat.reduceAdd] at e1 e2 e3 e4 e5 e6 e7 e8 e9 e10
  have D : Drawn ps qs (r2 - 9) e (r4 - 7) v rs := ⟨p5, p7, fun p hp => by have := hq.inn p hp; simp at this; omega, hq.tm, hq.few, hq.small, ⟨e5a, e5b⟩, by omega, a7, by omega, by omega, r50⟩
  obtain ⟨tP, P5, P7⟩ := D.P
  have q4 := D.q4
  have pos : ∀ p ∈ ps, 0 ≤ p.1 := fun p hp => (p5 p hp).1
  -- what is asked, each
  have f1 : ∀ h, run G F (dsOf dd) (k + 12) "term_of" [.d (.int (r2 - 9)), .d (.tuple (ps.map Py.pairD))] h = .ok (.d (tmD (r2 - 9) (canon ps))) h := p_term_of (F := F) (k := k + 8) (r2 - 9) ps (by omega) pos
  have f2 : ∀ h, run G F (dsOf dd) (k + 12) "_law_made" [.d (.int (r2 - 9)), .d (.tuple (ps.map Py.pairD))] h = .ok (.d (tmD (r2 - 9) (canon ps))) h := fun h => p__law_made (F := F) (k := k + 11) (r2 - 9) _ ps (by omega) h (srcK_tup ps)
  have f3 : ∀ c xs, xs.length ≤ 1000 → ∀ h, run G F (dsOf dd) (k + 12) "_law_same" [.d (tmD c xs), .d (tmD c xs)] h = .ok (.d (.bool true)) h := fun c xs hx h => same_tm (F := F) (k := k + 8) c xs hx h
  have f4 : ∀ i h, run G F (dsOf dd) (k + 12) "_law_same" [.d (.int i), .d (.int i)] h = .ok (.d (.bool true)) h := fun i h => same_int (F := F) (k := k + 11) i h
  have f5 : ∀ h, run G F (dsOf dd) (k + 12) "is_term" [.d (tmD (r2 - 9) (canon ps))] h = .ok (.d (.bool true)) h := fun h => by rw [p_is_term (F := F) (k := k + 8) _ (big_tm_le (by omega)) h, tP.termB]
  have f6 : ∀ h, run G F (dsOf dd) (k + 12) "value" [.d (tmD (r2 - 9) (canon ps)), .d (.tuple (rs.map .int))] h = .ok (.d (.int (r2 - 9 + valI ps (rho rs)))) h := fun h => by rw [D.value (F := F) (k := k + 6) _ tP P5 (by omega) h, valI_canon]
  have f7 : ∀ h, run G F (dsOf dd) (k + 12) "value" [.d (tmD e qs), .d (.tuple (rs.map .int))] h = .ok (.d (.int (e + valI qs (rho rs)))) h := fun h => D.value (F := F) (k := k + 6) _ D.qt D.q5 (by omega) h
  have f8 : ∀ h, run G F (dsOf dd) (k + 12) "_law_value" [.d (tmD e qs), .d (.tuple (rs.map .int))] h = .ok (.d (.int (e + valI qs (rho rs)))) h := fun h => D.lvalue (F := F) (k := k + 11) _ D.q5 (by omega) h
  have f9 : ∀ h, run G F (dsOf dd) (k + 12) "add" [.d (tmD (r2 - 9) (canon ps)), .d (tmD e qs)] h = .ok (.d (tmD (r2 - 9 + e) (canon (canon ps ++ qs)))) h := p_add (F := F) (k := k + 6) _ _ _ _ tP D.qt (by omega)
  have f10 : ∀ h, run G F (dsOf dd) (k + 12) "_law_plus" [.d (tmD (r2 - 9) (canon ps)), .d (tmD e qs)] h = .ok (.d (tmD (r2 - 9 + e) (canon (canon ps ++ qs)))) h := p__law_plus (F := F) (k := k + 10) _ _ _ _ (by omega)
  have l1 := canon_len (canon ps ++ qs)
  rw [List.length_append] at l1
  have f11 : ∀ h, run G F (dsOf dd) (k + 12) "value" [.d (tmD (r2 - 9 + e) (canon (canon ps ++ qs))), .d (.tuple (rs.map .int))] h = .ok (.d (.int (r2 - 9 + valI ps (rho rs) + (e + valI qs (rho rs))))) h := fun h => by
    rw [D.value (F := F) (k := k + 6) _ (P5.app D.q5).tm (P5.app D.q5).canon (by omega) h, valI_canon, valI_app, valI_canon]
    congr 3
    omega
  have hmn : ∀ p ∈ canon ps, mulOk p.2 (r4 - 7) = true := fun p _ => mulOk_r (by omega)
  have f12 : ∀ h, run G F (dsOf dd) (k + 12) "times" [.d (tmD (r2 - 9) (canon ps)), .d (.int (r4 - 7))] h = .ok (.d (tmD ((r2 - 9) * (r4 - 7)) (canon (mulP (r4 - 7) (canon ps))))) h := p_times (F := F) (k := k + 6) _ _ _ tP (by omega) hmn (mulOk_r (by omega))
  have f13 : ∀ h, run G F (dsOf dd) (k + 12) "_law_by" [.d (tmD (r2 - 9) (canon ps)), .d (.int (r4 - 7))] h = .ok (.d (tmD ((r2 - 9) * (r4 - 7)) (canon (mulP (r4 - 7) (canon ps))))) h := p__law_by (F := F) (k := k + 10) _ _ _ (by omega) hmn (mulOk_r (by omega))
  have l2 := canon_len (mulP (r4 - 7) (canon ps))
  rw [mulP_len] at l2
  have f14 : ∀ h, run G F (dsOf dd) (k + 12) "value" [.d (tmD ((r2 - 9) * (r4 - 7)) (canon (mulP (r4 - 7) (canon ps)))), .d (.tuple (rs.map .int))] h = .ok (.d (.int ((r4 - 7) * (r2 - 9 + valI ps (rho rs))))) h := fun h => by
    rw [D.value (F := F) (k := k + 6) _ (P5.mulP _).tm (P5.mulP _).canon (by omega) h, valI_canon, val_mul, valI_canon, Int.mul_comm (r4 - 7), Int.add_mul]
  have f15 : ∀ h, run G F (dsOf dd) (k + 12) "put" [.d (tmD (r2 - 9) (canon ps)), .d (.int v), .d (tmD e qs)] h = .ok (.d (tmD (putC (r2 - 9) e v (canon ps)) (putQ v (canon ps) qs))) h := fun h => by
    rw [← putP_eq]
    exact p_put (F := F) (k := k + 6) _ _ _ _ _ tP D.qt a7 (by omega) (fun p hp => by have := D.qs5 p hp; omega) (by have := D.e5; omega) h
  have f16 : ∀ h, run G F (dsOf dd) (k + 12) "_law_put" [.d (tmD (r2 - 9) (canon ps)), .d (.int v), .d (tmD e qs)] h = .ok (.d (tmD (putC (r2 - 9) e v (canon ps)) (putQ v (canon ps) qs))) h := fun h => by
    rw [← putP_eq]
    exact p__law_put (F := F) (k := k + 9) _ _ _ _ _ tP (by omega) (fun p hp => by have := D.qs5 p hp; omega) (by have := D.e5; omega) h
  have l3 := putQ_len v (canon ps) qs
  have f17 : ∀ h, run G F (dsOf dd) (k + 12) "_law_value" [.d (tmD (putC (r2 - 9) e v (canon ps)) (putQ v (canon ps) qs)), .d (.list ((wideL rs).map .int))] h = .ok (.d (.int (r2 - 9 + valI (canon ps) fun w => if w = v then e + valI qs (rho rs) else rho rs w))) h := fun h => by
    rw [D.wvalue (F := F) (k := k + 11) _ (P5.put D.q5 v) (by omega) h, D.goes]
  have f18 : ∀ h, run G F (dsOf dd) (k + 12) "_law_value" [.d (tmD (r2 - 9) (canon ps)), .d (.list ((movL (wideL rs) v (e + valI qs (rho rs))).map .int))] h = .ok (.d (.int (r2 - 9 + valI (canon ps) fun w => if w = v then e + valI qs (rho rs) else rho rs w))) h := fun h => D.mvalue (F := F) (k := k + 11) _ P5 (by omega) h
  obtain ⟨bd, hbd, mbd⟩ := atI_in (xs := oddL) a8 (by simpa [oddL] using b8)
  obtain ⟨nb, sb⟩ := odd_no bd mbd
  obtain ⟨wd, hwd, mwd⟩ := atI_in (xs := wrongL) a9 (by simpa [wrongL] using b9)
  obtain ⟨nw, sw⟩ := wrong_no wd mwd
  obtain ⟨fd, hfd, ff⟩ := D.few (F := F) a10 b10
  have sb' : big bd ≤ 10000000 := Nat.le_trans sb (by decide)
  have j1 : ∀ h, run G F (dsOf dd) (k + 12) "is_term" [.d bd] h = .ok (.d (.bool false)) h := fun h => by rw [p_is_term (F := F) (k := k + 8) bd sb' h, nb]
  have j2 : run G F (dsOf dd) (k + 12) "_law_judged" [.d bd] [o8] = .ok (.d (.bool false)) [o8] := odd_judged (F := F) (k := k + 3) o8 bd mbd
  have j3 : ∀ h, run G F (dsOf dd) (k + 12) "_law_same" [.d (.bool false), .d (.bool false)] h = .ok (.d (.bool true)) h := fun h => same_bool (F := F) (k := k + 11) false h
  obtain ⟨m0, m1, m2, m3, m4, m5, m6⟩ := mem_errs
  have w1 : ∀ h, run G F (dsOf dd) (k + 12) "_law_error" [.d (.int 0), .d (.bool true), .d wd, .d (.int 0)] h = .ok (.d (.str "constant")) h := fun h => wo0 ▸ p_err (F := F) (k := k + 5) 0 (.inl rfl) "BadConstant" m0 _ _ _ h ⟨fun _ => p_term_of_c (F := F) (k := k + 7) _ _ rfl h, fun z => absurd z (by decide), fun z => absurd z (by decide), fun z => absurd z (by decide), fun z => absurd z (by decide)⟩
  have w2 : ∀ h, run G F (dsOf dd) (k + 12) "_law_error" [.d (.int 0), .d (.int 1), .d wd, .d (.int 0)] h = .ok (.d (.str "pairs")) h := fun h => wo1 ▸ p_err (F := F) (k := k + 5) 0 (.inl rfl) "BadPairs" m1 _ _ _ h ⟨fun _ => p_term_of_p (F := F) (k := k + 7) _ _ (Nat.le_trans sw (by decide)) nw h, fun z => absurd z (by decide), fun z => absurd z (by decide), fun z => absurd z (by decide), fun z => absurd z (by decide)⟩
  have w3 : ∀ h, run G F (dsOf dd) (k + 12) "_law_error" [.d (.int 1), .d bd, .d fd, .d (.int 0)] h = .ok (.d (.str "term")) h := fun h => wo2 ▸ p_err (F := F) (k := k + 5) 1 (.inr (.inl rfl)) "BadTerm" m2 _ _ _ h ⟨fun z => absurd z (by decide), fun _ => p_value_t (F := F) (k := k + 5) _ _ sb' nb h, fun z => absurd z (by decide), fun z => absurd z (by decide), fun z => absurd z (by decide)⟩
  have w4 : ∀ h, run G F (dsOf dd) (k + 12) "_law_error" [.d (.int 1), .d (tmD (r2 - 9) (canon ps)), .d fd, .d (.int 0)] h = .ok (.d (.str "row")) h := fun h => wo3 ▸ p_err (F := F) (k := k + 5) 1 (.inr (.inl rfl)) "BadRow" m3 _ _ _ h ⟨fun z => absurd z (by decide), fun _ => ff (k + 5) h, fun z => absurd z (by decide), fun z => absurd z (by decide), fun z => absurd z (by decide)⟩
  have w5 : ∀ h, run G F (dsOf dd) (k + 12) "_law_error" [.d (.int 2), .d bd, .d bd, .d (.int 0)] h = .ok (.d (.str "term")) h := fun h => wo2 ▸ p_err (F := F) (k := k + 5) 2 (.inr (.inr (.inl rfl))) "BadTerm" m2 _ _ _ h ⟨fun z => absurd z (by decide), fun z => absurd z (by decide), fun _ => p_add_t (F := F) (k := k + 5) _ _ sb' nb h, fun z => absurd z (by decide), fun z => absurd z (by decide)⟩
  have w6 : ∀ h, run G F (dsOf dd) (k + 12) "_law_error" [.d (.int 2), .d (tmD (r2 - 9) (canon ps)), .d bd, .d (.int 0)] h = .ok (.d (.str "other")) h := fun h => wo4 ▸ p_err (F := F) (k := k + 5) 2 (.inr (.inr (.inl rfl))) "BadOther" m4 _ _ _ h ⟨fun z => absurd z (by decide), fun z => absurd z (by decide), fun _ => p_add_o (F := F) (k := k + 5) _ _ tP (by omega) _ sb' nb h, fun z => absurd z (by decide), fun z => absurd z (by decide)⟩
  have w7 : ∀ h, run G F (dsOf dd) (k + 12) "_law_error" [.d (.int 3), .d bd, .d .none, .d (.int 0)] h = .ok (.d (.str "term")) h := fun h => wo2 ▸ p_err (F := F) (k := k + 5) 3 (.inr (.inr (.inr (.inl rfl)))) "BadTerm" m2 _ _ _ h ⟨fun z => absurd z (by decide), fun z => absurd z (by decide), fun z => absurd z (by decide), fun _ => p_times_t (F := F) (k := k + 5) _ _ sb' nb h, fun z => absurd z (by decide)⟩
  have w8 : ∀ h, run G F (dsOf dd) (k + 12) "_law_error" [.d (.int 3), .d (tmD (r2 - 9) (canon ps)), .d .none, .d (.int 0)] h = .ok (.d (.str "number")) h := fun h => wo5 ▸ p_err (F := F) (k := k + 5) 3 (.inr (.inr (.inr (.inl rfl)))) "BadNumber" m5 _ _ _ h ⟨fun z => absurd z (by decide), fun z => absurd z (by decide), fun z => absurd z (by decide), fun _ => p_times_n (F := F) (k := k + 5) _ _ tP (by omega) _ rfl h, fun z => absurd z (by decide)⟩
  have w9 : ∀ h, run G F (dsOf dd) (k + 12) "_law_error" [.d (.int 4), .d bd, .d (.int (-1)), .d bd] h = .ok (.d (.str "term")) h := fun h => wo2 ▸ p_err (F := F) (k := k + 5) 4 (.inr (.inr (.inr (.inr rfl)))) "BadTerm" m2 _ _ _ h ⟨fun z => absurd z (by decide), fun z => absurd z (by decide), fun z => absurd z (by decide), fun z => absurd z (by decide), fun _ => p_put_t (F := F) (k := k + 5) _ _ _ sb' nb h⟩
  have w10 : ∀ h, run G F (dsOf dd) (k + 12) "_law_error" [.d (.int 4), .d (tmD (r2 - 9) (canon ps)), .d (.int (-1)), .d bd] h = .ok (.d (.str "variable")) h := fun h => wo6 ▸ p_err (F := F) (k := k + 5) 4 (.inr (.inr (.inr (.inr rfl)))) "BadVariable" m6 _ _ _ h ⟨fun z => absurd z (by decide), fun z => absurd z (by decide), fun z => absurd z (by decide), fun z => absurd z (by decide), fun _ => p_put_v (F := F) (k := k + 5) _ _ tP (by omega) _ _ rfl h⟩
  have w11 : ∀ h, run G F (dsOf dd) (k + 12) "_law_error" [.d (.int 4), .d (tmD (r2 - 9) (canon ps)), .d (.int 0), .d bd] h = .ok (.d (.str "other")) h := fun h => wo4 ▸ p_err (F := F) (k := k + 5) 4 (.inr (.inr (.inr (.inr rfl)))) "BadOther" m4 _ _ _ h ⟨fun z => absurd z (by decide), fun z => absurd z (by decide), fun z => absurd z (by decide), fun z => absurd z (by decide), fun _ => p_put_o (F := F) (k := k + 5) _ _ _ tP (by omega) (by decide) _ sb' nb h⟩
  refine ⟨o10, some (.d (.tuple (ps.map Py.pairD))), some (.d (.int (r2 - 9))), some (.d (tmD (r2 - 9) (canon ps))), some (.d (tmD (putC (r2 - 9) e v (canon ps)) (putQ v (canon ps) qs))), some (.d (.list ((wideL rs).map .int))), some (.d (.list ((movL (wideL rs) v (e + valI qs (rho rs))).map .int))), some (.d (.list oddL)), some (.d bd), some (.d wd), some (.d fd), some (.d wordsD), some (.d (tmD e qs)), some (.d (.int (r4 - 7))), some (.d (.tuple (rs.map .int))), some (.d (.int v)), some (.d (.int (r2 - 9 + valI ps (rho rs)))), some (.d (.int (e + valI qs (rho rs)))), ?_, hb10.mono (by simp; omega)⟩
  unfold l_law_0
  refine exs_seq (σ1 := [u0, some (.lab 0), u2, some (.d (.tuple (ps.map Py.pairD))), u4, u5, u6, u7, u8, u9, u10, u11, u12, u13, u14, u15, u16, u17, u18, u19, u20, u21, u22, u23]) (h1 := [o1]) (by
    simp [evCl_0, evCl_1, evCl_2, evCl_3, evCl_4, evCl_k, evCl_k2, evCl_k2r, evCl_k3r, ev, tv, evs, evo, evc, evw, evV, evC, evT, ev2, ev1, evCh, evB, evIf, evNil, evCons, evTup, evLst, evCall, evSl, evNo, evPart, vAnd, vOr, vNot, tAndE, tOrE, tNotE, binU, cmpU, biU, meU, g1, g2, maxG, minG, Es.len, Tg.slots, Tgs.slots, ex, exs, exh, sNx, sBk, sCt, sSeq, sDrop, sRet, sRetN, sAsg, sPar2, sPar3, sSub, sIf, sRaise, asg, asgs, R.bind_ok, R.bind_err, R.bind_bad, R.stm_ok, R.stm_err, R.stm_bad, opt_some, opt_none, noErr_ok, noErr_bad, leave_d, leave_n, leave_e, leave_da, mkL_f, tru, truU, truD, asB, asBo, e1, tupleU_l]) ?_
  refine exs_seq (σ1 := [u0, some (.lab 0), u2, some (.d (.tuple (ps.map Py.pairD))), some (.d (.int (r2 - 9))), u5, u6, u7, u8, u9, u10, u11, u12, u13, u14, u15, u16, u17, u18, u19, u20, u21, u22, u23]) (h1 := [o2]) (by
    simp [evCl_0, evCl_1, evCl_2, evCl_3, evCl_4, evCl_k, evCl_k2, evCl_k2r, evCl_k3r, ev, tv, evs, evo, evc, evw, evV, evC, evT, ev2, ev1, evCh, evB, evIf, evNil, evCons, evTup, evLst, evCall, evSl, evNo, evPart, vAnd, vOr, vNot, tAndE, tOrE, tNotE, binU, cmpU, biU, meU, g1, g2, maxG, minG, Es.len, Tg.slots, Tgs.slots, ex, exs, exh, sNx, sBk, sCt, sSeq, sDrop, sRet, sRetN, sAsg, sPar2, sPar3, sSub, sIf, sRaise, asg, asgs, R.bind_ok, R.bind_err, R.bind_bad, R.stm_ok, R.stm_err, R.stm_bad, opt_some, opt_none, noErr_ok, noErr_bad, leave_d, leave_n, leave_e, leave_da, mkL_f, tru, truU, truD, asB, asBo, e2, Py.intOp, gSubI]) ?_
  refine exs_seq (σ1 := [u0, some (.lab 0), u2, some (.d (.tuple (ps.map Py.pairD))), some (.d (.int (r2 - 9))), some (.d (tmD (r2 - 9) (canon ps))), u6, u7, u8, u9, u10, u11, u12, u13, u14, u15, u16, u17, u18, u19, u20, u21, u22, u23]) (h1 := [o2]) (by
    simp [evCl_0, evCl_1, evCl_2, evCl_3, evCl_4, evCl_k, evCl_k2, evCl_k2r, evCl_k3r, ev, tv, evs, evo, evc, evw, evV, evC, evT, ev2, ev1, evCh, evB, evIf, evNil, evCons, evTup, evLst, evCall, evSl, evNo, evPart, vAnd, vOr, vNot, tAndE, tOrE, tNotE, binU, cmpU, biU, meU, g1, g2, maxG, minG, Es.len, Tg.slots, Tgs.slots, ex, exs, exh, sNx, sBk, sCt, sSeq, sDrop, sRet, sRetN, sAsg, sPar2, sPar3, sSub, sIf, sRaise, asg, asgs, R.bind_ok, R.bind_err, R.bind_bad, R.stm_ok, R.stm_err, R.stm_bad, opt_some, opt_none, noErr_ok, noErr_bad, leave_d, leave_n, leave_e, leave_da, mkL_f, tru, truU, truD, asB, asBo, f1]) ?_
  refine exs_seq (σ1 := [u0, some (.lab 0), u2, some (.d (.tuple (ps.map Py.pairD))), some (.d (.int (r2 - 9))), some (.d (tmD (r2 - 9) (canon ps))), u6, u7, u8, u9, u10, u11, u12, u13, some (.d (tmD e qs)), some (.d (.int (r4 - 7))), u16, u17, u18, u19, u20, u21, u22, u23]) (h1 := [o4]) (by
    have e3' : run G F (dsOf dd) (k + 12) "_law_term" [.lab 0, .d (.list [.int 0, .int 1, .int 3, .int 4]), .d (.int 5)] [o2] = .ok (.d (tmD e qs)) [o3] := e3
    simp [evCl_0, evCl_1, evCl_2, evCl_3, evCl_4, evCl_k, evCl_k2, evCl_k2r, evCl_k3r, ev, tv, evs, evo, evc, evw, evV, evC, evT, ev2, ev1, evCh, evB, evIf, evNil, evCons, evTup, evLst, evCall, evSl, evNo, evPart, vAnd, vOr, vNot, tAndE, tOrE, tNotE, binU, cmpU, biU, meU, g1, g2, maxG, minG, Es.len, Tg.slots, Tgs.slots, ex, exs, exh, sNx, sBk, sCt, sSeq, sDrop, sRet, sRetN, sAsg, sPar2, sPar3, sSub, sIf, sRaise, asg, asgs, R.bind_ok, R.bind_err, R.bind_bad, R.stm_ok, R.stm_err, R.stm_bad, opt_some, opt_none, noErr_ok, noErr_bad, leave_d, leave_n, leave_e, leave_da, mkL_f, tru, truU, truD, asB, asBo, pures, e3', e4, Py.intOp, gSubI]) ?_
  refine exs_seq (σ1 := [u0, some (.lab 0), u2, some (.d (.tuple (ps.map Py.pairD))), some (.d (.int (r2 - 9))), some (.d (tmD (r2 - 9) (canon ps))), u6, u7, u8, u9, u10, u11, u12, u13, some (.d (tmD e qs)), some (.d (.int (r4 - 7))), u16, u17, u18, u19, u20, u21, u22, u23]) (h1 := [o4]) (by
    simp [evCl_0, evCl_1, evCl_2, evCl_3, evCl_4, evCl_k, evCl_k2, evCl_k2r, evCl_k3r, ev, tv, evs, evo, evc, evw, evV, evC, evT, ev2, ev1, evCh, evB, evIf, evNil, evCons, evTup, evLst, evCall, evSl, evNo, evPart, vAnd, vOr, vNot, tAndE, tOrE, tNotE, binU, cmpU, biU, meU, g1, g2, maxG, minG, Es.len, Tg.slots, Tgs.slots, ex, exs, exh, sNx, sBk, sCt, sSeq, sDrop, sRet, sRetN, sAsg, sPar2, sPar3, sSub, sIf, sRaise, asg, asgs, R.bind_ok, R.bind_err, R.bind_bad, R.stm_ok, R.stm_err, R.stm_bad, opt_some, opt_none, noErr_ok, noErr_bad, leave_d, leave_n, leave_e, leave_da, mkL_f, tru, truU, truD, asB, asBo, f2, f3 _ _ (show (canon ps).length ≤ 1000 by omega), f5, Py.isU, Py.isNon]) ?_
  refine exs_seq (σ1 := [u0, some (.lab 0), u2, some (.d (.tuple (ps.map Py.pairD))), some (.d (.int (r2 - 9))), some (.d (tmD (r2 - 9) (canon ps))), u6, u7, u8, u9, u10, u11, u12, u13, some (.d (tmD e qs)), some (.d (.int (r4 - 7))), some (.d (.tuple (rs.map .int))), some (.d (.int v)), u18, u19, u20, u21, u22, u23]) (h1 := [o7]) (by
    simp [evCl_0, evCl_1, evCl_2, evCl_3, evCl_4, evCl_k, evCl_k2, evCl_k2r, evCl_k3r, ev, tv, evs, evo, evc, evw, evV, evC, evT, ev2, ev1, evCh, evB, evIf, evNil, evCons, evTup, evLst, evCall, evSl, evNo, evPart, vAnd, vOr, vNot, tAndE, tOrE, tNotE, binU, cmpU, biU, meU, g1, g2, maxG, minG, Es.len, Tg.slots, Tgs.slots, ex, exs, exh, sNx, sBk, sCt, sSeq, sDrop, sRet, sRetN, sAsg, sPar2, sPar3, sSub, sIf, sRaise, asg, asgs, R.bind_ok, R.bind_err, R.bind_bad, R.stm_ok, R.stm_err, R.stm_bad, opt_some, opt_none, noErr_ok, noErr_bad, leave_d, leave_n, leave_e, leave_da, mkL_f, tru, truU, truD, asB, asBo, e5, e6, e7, addU_i, pures]) ?_
  refine exs_seq (σ1 := [u0, some (.lab 0), u2, some (.d (.tuple (ps.map Py.pairD))), some (.d (.int (r2 - 9))), some (.d (tmD (r2 - 9) (canon ps))), u6, u7, u8, u9, u10, u11, u12, u13, some (.d (tmD e qs)), some (.d (.int (r4 - 7))), some (.d (.tuple (rs.map .int))), some (.d (.int v)), some (.d (.int (r2 - 9 + valI ps (rho rs)))), some (.d (.int (e + valI qs (rho rs)))), u20, u21, u22, u23]) (h1 := [o7]) (by
    simp [evCl_0, evCl_1, evCl_2, evCl_3, evCl_4, evCl_k, evCl_k2, evCl_k2r, evCl_k3r, ev, tv, evs, evo, evc, evw, evV, evC, evT, ev2, ev1, evCh, evB, evIf, evNil, evCons, evTup, evLst, evCall, evSl, evNo, evPart, vAnd, vOr, vNot, tAndE, tOrE, tNotE, binU, cmpU, biU, meU, g1, g2, maxG, minG, Es.len, Tg.slots, Tgs.slots, ex, exs, exh, sNx, sBk, sCt, sSeq, sDrop, sRet, sRetN, sAsg, sPar2, sPar3, sSub, sIf, sRaise, asg, asgs, R.bind_ok, R.bind_err, R.bind_bad, R.stm_ok, R.stm_err, R.stm_bad, opt_some, opt_none, noErr_ok, noErr_bad, leave_d, leave_n, leave_e, leave_da, mkL_f, tru, truU, truD, asB, asBo, f6, f7, pures]) ?_
  refine exs_seq (σ1 := [u0, some (.lab 0), u2, some (.d (.tuple (ps.map Py.pairD))), some (.d (.int (r2 - 9))), some (.d (tmD (r2 - 9) (canon ps))), u6, u7, u8, u9, u10, u11, u12, u13, some (.d (tmD e qs)), some (.d (.int (r4 - 7))), some (.d (.tuple (rs.map .int))), some (.d (.int v)), some (.d (.int (r2 - 9 + valI ps (rho rs)))), some (.d (.int (e + valI qs (rho rs)))), u20, u21, u22, u23]) (h1 := [o7]) (by
    have q := key_raw (F := F) (k := k + 12) ps rs (by omega) (D.inr p5) (D.mulr p5) ([u0, some (.lab 0), u2, some (.d (.tuple (ps.map Py.pairD))), some (.d (.int (r2 - 9))), some (.d (tmD (r2 - 9) (canon ps))), u6, u7, u8, u9, u10, u11, u12, u13, some (.d (tmD e qs)), some (.d (.int (r4 - 7))), some (.d (.tuple (rs.map .int))), some (.d (.int v)), some (.d (.int (r2 - 9 + valI ps (rho rs)))), some (.d (.int (e + valI qs (rho rs)))), u20, u21, u22, u23]) rfl rfl rfl [o7]
    have q2 := sum_pairs ps (rho rs)
    simp [evCl_0, evCl_1, evCl_2, evCl_3, evCl_4, evCl_k, evCl_k2, evCl_k2r, evCl_k3r, ev, tv, evs, evo, evc, evw, evV, evC, evT, ev2, ev1, evCh, evB, evIf, evNil, evCons, evTup, evLst, evCall, evSl, evNo, evPart, vAnd, vOr, vNot, tAndE, tOrE, tNotE, binU, cmpU, biU, meU, g1, g2, maxG, minG, Es.len, Tg.slots, Tgs.slots, ex, exs, exh, sNx, sBk, sCt, sSeq, sDrop, sRet, sRetN, sAsg, sPar2, sPar3, sSub, sIf, sRaise, asg, asgs, R.bind_ok, R.bind_err, R.bind_bad, R.stm_ok, R.stm_err, R.stm_bad, opt_some, opt_none, noErr_ok, noErr_bad, leave_d, leave_n, leave_e, leave_da, mkL_f, tru, truU, truD, asB, asBo, q, q2, sumU_map, addU_i, f4, f8, eqU_i, -List.map_map]) ?_
  refine exs_seq (σ1 := [u0, some (.lab 0), u2, some (.d (.tuple (ps.map Py.pairD))), some (.d (.int (r2 - 9))), some (.d (tmD (r2 - 9) (canon ps))), u6, u7, u8, u9, u10, u11, u12, u13, some (.d (tmD e qs)), some (.d (.int (r4 - 7))), some (.d (.tuple (rs.map .int))), some (.d (.int v)), some (.d (.int (r2 - 9 + valI ps (rho rs)))), some (.d (.int (e + valI qs (rho rs)))), u20, u21, u22, u23]) (h1 := [o7]) (by
    simp [evCl_0, evCl_1, evCl_2, evCl_3, evCl_4, evCl_k, evCl_k2, evCl_k2r, evCl_k3r, ev, tv, evs, evo, evc, evw, evV, evC, evT, ev2, ev1, evCh, evB, evIf, evNil, evCons, evTup, evLst, evCall, evSl, evNo, evPart, vAnd, vOr, vNot, tAndE, tOrE, tNotE, binU, cmpU, biU, meU, g1, g2, maxG, minG, Es.len, Tg.slots, Tgs.slots, ex, exs, exh, sNx, sBk, sCt, sSeq, sDrop, sRet, sRetN, sAsg, sPar2, sPar3, sSub, sIf, sRaise, asg, asgs, R.bind_ok, R.bind_err, R.bind_bad, R.stm_ok, R.stm_err, R.stm_bad, opt_some, opt_none, noErr_ok, noErr_bad, leave_d, leave_n, leave_e, leave_da, mkL_f, tru, truU, truD, asB, asBo, f9, f10, f3 _ _ (show (canon (canon ps ++ qs)).length ≤ 1000 by omega), f11, addU_i, eqU_i]) ?_
  refine exs_seq (σ1 := [u0, some (.lab 0), u2, some (.d (.tuple (ps.map Py.pairD))), some (.d (.int (r2 - 9))), some (.d (tmD (r2 - 9) (canon ps))), u6, u7, u8, u9, u10, u11, u12, u13, some (.d (tmD e qs)), some (.d (.int (r4 - 7))), some (.d (.tuple (rs.map .int))), some (.d (.int v)), some (.d (.int (r2 - 9 + valI ps (rho rs)))), some (.d (.int (e + valI qs (rho rs)))), u20, u21, u22, u23]) (h1 := [o7]) (by
    have mk : mulOk (r4 - 7) (r2 - 9 + valI ps (rho rs)) = true := mulOk_l (by omega)
    simp [evCl_0, evCl_1, evCl_2, evCl_3, evCl_4, evCl_k, evCl_k2, evCl_k2r, evCl_k3r, ev, tv, evs, evo, evc, evw, evV, evC, evT, ev2, ev1, evCh, evB, evIf, evNil, evCons, evTup, evLst, evCall, evSl, evNo, evPart, vAnd, vOr, vNot, tAndE, tOrE, tNotE, binU, cmpU, biU, meU, g1, g2, maxG, minG, Es.len, Tg.slots, Tgs.slots, ex, exs, exh, sNx, sBk, sCt, sSeq, sDrop, sRet, sRetN, sAsg, sPar2, sPar3, sSub, sIf, sRaise, asg, asgs, R.bind_ok, R.bind_err, R.bind_bad, R.stm_ok, R.stm_err, R.stm_bad, opt_some, opt_none, noErr_ok, noErr_bad, leave_d, leave_n, leave_e, leave_da, mkL_f, tru, truU, truD, asB, asBo, f12, f13, f3 _ _ (show (canon (mulP (r4 - 7) (canon ps))).length ≤ 1000 by omega), f14, mulU_i mk, eqU_i]) ?_
  refine exs_seq (σ1 := [u0, some (.lab 0), u2, some (.d (.tuple (ps.map Py.pairD))), some (.d (.int (r2 - 9))), some (.d (tmD (r2 - 9) (canon ps))), some (.d (tmD (putC (r2 - 9) e v (canon ps)) (putQ v (canon ps) qs))), u7, u8, u9, u10, u11, u12, u13, some (.d (tmD e qs)), some (.d (.int (r4 - 7))), some (.d (.tuple (rs.map .int))), some (.d (.int v)), some (.d (.int (r2 - 9 + valI ps (rho rs)))), some (.d (.int (e + valI qs (rho rs)))), u20, u21, u22, u23]) (h1 := [o7]) (by
    simp [evCl_0, evCl_1, evCl_2, evCl_3, evCl_4, evCl_k, evCl_k2, evCl_k2r, evCl_k3r, ev, tv, evs, evo, evc, evw, evV, evC, evT, ev2, ev1, evCh, evB, evIf, evNil, evCons, evTup, evLst, evCall, evSl, evNo, evPart, vAnd, vOr, vNot, tAndE, tOrE, tNotE, binU, cmpU, biU, meU, g1, g2, maxG, minG, Es.len, Tg.slots, Tgs.slots, ex, exs, exh, sNx, sBk, sCt, sSeq, sDrop, sRet, sRetN, sAsg, sPar2, sPar3, sSub, sIf, sRaise, asg, asgs, R.bind_ok, R.bind_err, R.bind_bad, R.stm_ok, R.stm_err, R.stm_bad, opt_some, opt_none, noErr_ok, noErr_bad, leave_d, leave_n, leave_e, leave_da, mkL_f, tru, truU, truD, asB, asBo, f15]) ?_
  refine exs_seq (σ1 := [u0, some (.lab 0), u2, some (.d (.tuple (ps.map Py.pairD))), some (.d (.int (r2 - 9))), some (.d (tmD (r2 - 9) (canon ps))), some (.d (tmD (putC (r2 - 9) e v (canon ps)) (putQ v (canon ps) qs))), some (.d (.list ((wideL rs).map .int))), u8, u9, u10, u11, u12, u13, some (.d (tmD e qs)), some (.d (.int (r4 - 7))), some (.d (.tuple (rs.map .int))), some (.d (.int v)), some (.d (.int (r2 - 9 + valI ps (rho rs)))), some (.d (.int (e + valI qs (rho rs)))), u20, u21, u22, u23]) (h1 := [o7]) (by
    have hr7 := D.r7
    have hb9 : (rs.map PyData.int).length + [PyData.int 0, .int 0, .int 0, .int 0, .int 0, .int 0, .int 0, .int 0, .int 0].length ≤ 10000000 := by simp; omega
    have q := addU_l (m := false) (h := [o7]) hb9
    simp [evCl_0, evCl_1, evCl_2, evCl_3, evCl_4, evCl_k, evCl_k2, evCl_k2r, evCl_k3r, ev, tv, evs, evo, evc, evw, evV, evC, evT, ev2, ev1, evCh, evB, evIf, evNil, evCons, evTup, evLst, evCall, evSl, evNo, evPart, vAnd, vOr, vNot, tAndE, tOrE, tNotE, binU, cmpU, biU, meU, g1, g2, maxG, minG, Es.len, Tg.slots, Tgs.slots, ex, exs, exh, sNx, sBk, sCt, sSeq, sDrop, sRet, sRetN, sAsg, sPar2, sPar3, sSub, sIf, sRaise, asg, asgs, R.bind_ok, R.bind_err, R.bind_bad, R.stm_ok, R.stm_err, R.stm_bad, opt_some, opt_none, noErr_ok, noErr_bad, leave_d, leave_n, leave_e, leave_da, mkL_f, tru, truU, truD, asB, asBo, listU, seqOf, mulU, rep, pures, q, wideL, List.replicate]) ?_
  refine exs_seq (σ1 := [u0, some (.lab 0), u2, some (.d (.tuple (ps.map Py.pairD))), some (.d (.int (r2 - 9))), some (.d (tmD (r2 - 9) (canon ps))), some (.d (tmD (putC (r2 - 9) e v (canon ps)) (putQ v (canon ps) qs))), some (.d (.list ((wideL rs).map .int))), some (.d (.list ((movL (wideL rs) v (e + valI qs (rho rs))).map .int))), u9, u10, u11, u12, u13, some (.d (tmD e qs)), some (.d (.int (r4 - 7))), some (.d (.tuple (rs.map .int))), some (.d (.int v)), some (.d (.int (r2 - 9 + valI ps (rho rs)))), some (.d (.int (e + valI qs (rho rs)))), u20, u21, u22, u23]) (h1 := [o7]) (by
    have hr7 := D.r7
    exact key_moved (F := F) (k := k + 12) (wideL rs) v (e + valI qs (rho rs)) (by simp [wideL]; omega) _ rfl rfl rfl rfl [o7]) ?_
  refine exs_seq (σ1 := [u0, some (.lab 0), u2, some (.d (.tuple (ps.map Py.pairD))), some (.d (.int (r2 - 9))), some (.d (tmD (r2 - 9) (canon ps))), some (.d (tmD (putC (r2 - 9) e v (canon ps)) (putQ v (canon ps) qs))), some (.d (.list ((wideL rs).map .int))), some (.d (.list ((movL (wideL rs) v (e + valI qs (rho rs))).map .int))), u9, u10, u11, u12, u13, some (.d (tmD e qs)), some (.d (.int (r4 - 7))), some (.d (.tuple (rs.map .int))), some (.d (.int v)), some (.d (.int (r2 - 9 + valI ps (rho rs)))), some (.d (.int (e + valI qs (rho rs)))), u20, u21, u22, u23]) (h1 := [o7]) (by
    simp [evCl_0, evCl_1, evCl_2, evCl_3, evCl_4, evCl_k, evCl_k2, evCl_k2r, evCl_k3r, ev, tv, evs, evo, evc, evw, evV, evC, evT, ev2, ev1, evCh, evB, evIf, evNil, evCons, evTup, evLst, evCall, evSl, evNo, evPart, vAnd, vOr, vNot, tAndE, tOrE, tNotE, binU, cmpU, biU, meU, g1, g2, maxG, minG, Es.len, Tg.slots, Tgs.slots, ex, exs, exh, sNx, sBk, sCt, sSeq, sDrop, sRet, sRetN, sAsg, sPar2, sPar3, sSub, sIf, sRaise, asg, asgs, R.bind_ok, R.bind_err, R.bind_bad, R.stm_ok, R.stm_err, R.stm_bad, opt_some, opt_none, noErr_ok, noErr_bad, leave_d, leave_n, leave_e, leave_da, mkL_f, tru, truU, truD, asB, asBo, f16, f3 _ _ (show (putQ v (canon ps) qs).length ≤ 1000 by omega), f17, f18, eqU_i]) ?_
  refine exs_seq (σ1 := [u0, some (.lab 0), u2, some (.d (.tuple (ps.map Py.pairD))), some (.d (.int (r2 - 9))), some (.d (tmD (r2 - 9) (canon ps))), some (.d (tmD (putC (r2 - 9) e v (canon ps)) (putQ v (canon ps) qs))), some (.d (.list ((wideL rs).map .int))), some (.d (.list ((movL (wideL rs) v (e + valI qs (rho rs))).map .int))), some (.d (.list (oddL.take 8))), u10, u11, u12, u13, some (.d (tmD e qs)), some (.d (.int (r4 - 7))), some (.d (.tuple (rs.map .int))), some (.d (.int v)), some (.d (.int (r2 - 9 + valI ps (rho rs)))), some (.d (.int (e + valI qs (rho rs)))), u20, u21, u22, u23]) (h1 := [o7]) (by
    simp [evCl_0, evCl_1, evCl_2, evCl_3, evCl_4, evCl_k, evCl_k2, evCl_k2r, evCl_k3r, ev, tv, evs, evo, evc, evw, evV, evC, evT, ev2, ev1, evCh, evB, evIf, evNil, evCons, evTup, evLst, evCall, evSl, evNo, evPart, vAnd, vOr, vNot, tAndE, tOrE, tNotE, binU, cmpU, biU, meU, g1, g2, maxG, minG, Es.len, Tg.slots, Tgs.slots, ex, exs, exh, sNx, sBk, sCt, sSeq, sDrop, sRet, sRetN, sAsg, sPar2, sPar3, sSub, sIf, sRaise, asg, asgs, R.bind_ok, R.bind_err, R.bind_bad, R.stm_ok, R.stm_err, R.stm_bad, opt_some, opt_none, noErr_ok, noErr_bad, leave_d, leave_n, leave_e, leave_da, mkL_f, tru, truU, truD, asB, asBo, pures, addU_t, oddL]) ?_
  refine exs_seq (σ1 := [u0, some (.lab 0), u2, some (.d (.tuple (ps.map Py.pairD))), some (.d (.int (r2 - 9))), some (.d (tmD (r2 - 9) (canon ps))), some (.d (tmD (putC (r2 - 9) e v (canon ps)) (putQ v (canon ps) qs))), some (.d (.list ((wideL rs).map .int))), some (.d (.list ((movL (wideL rs) v (e + valI qs (rho rs))).map .int))), some (.d (.list oddL)), u10, u11, u12, u13, some (.d (tmD e qs)), some (.d (.int (r4 - 7))), some (.d (.tuple (rs.map .int))), some (.d (.int v)), some (.d (.int (r2 - 9 + valI ps (rho rs)))), some (.d (.int (e + valI qs (rho rs)))), u20, u21, u22, u23]) (h1 := [o7]) (by
    simp [evCl_0, evCl_1, evCl_2, evCl_3, evCl_4, evCl_k, evCl_k2, evCl_k2r, evCl_k3r, ev, tv, evs, evo, evc, evw, evV, evC, evT, ev2, ev1, evCh, evB, evIf, evNil, evCons, evTup, evLst, evCall, evSl, evNo, evPart, vAnd, vOr, vNot, tAndE, tOrE, tNotE, binU, cmpU, biU, meU, g1, g2, maxG, minG, Es.len, Tg.slots, Tgs.slots, ex, exs, exh, sNx, sBk, sCt, sSeq, sDrop, sRet, sRetN, sAsg, sPar2, sPar3, sSub, sIf, sRaise, asg, asgs, R.bind_ok, R.bind_err, R.bind_bad, R.stm_ok, R.stm_err, R.stm_bad, opt_some, opt_none, noErr_ok, noErr_bad, leave_d, leave_n, leave_e, leave_da, mkL_f, tru, truU, truD, asB, asBo, pures, addU_l, oddL, negU]) ?_
  refine exs_seq (σ1 := [u0, some (.lab 0), u2, some (.d (.tuple (ps.map Py.pairD))), some (.d (.int (r2 - 9))), some (.d (tmD (r2 - 9) (canon ps))), some (.d (tmD (putC (r2 - 9) e v (canon ps)) (putQ v (canon ps) qs))), some (.d (.list ((wideL rs).map .int))), some (.d (.list ((movL (wideL rs) v (e + valI qs (rho rs))).map .int))), some (.d (.list oddL)), some (.d bd), u11, u12, u13, some (.d (tmD e qs)), some (.d (.int (r4 - 7))), some (.d (.tuple (rs.map .int))), some (.d (.int v)), some (.d (.int (r2 - 9 + valI ps (rho rs)))), some (.d (.int (e + valI qs (rho rs)))), u20, u21, u22, u23]) (h1 := [o8]) (by
    have q : lenU (.d (.list oddL)) [o7] = .ok (.d (.int 13)) [o7] := by rw [lenU_l]; rfl
    simp [evCl_0, evCl_1, evCl_2, evCl_3, evCl_4, evCl_k, evCl_k2, evCl_k2r, evCl_k3r, ev, tv, evs, evo, evc, evw, evV, evC, evT, ev2, ev1, evCh, evB, evIf, evNil, evCons, evTup, evLst, evCall, evSl, evNo, evPart, vAnd, vOr, vNot, tAndE, tOrE, tNotE, binU, cmpU, biU, meU, g1, g2, maxG, minG, Es.len, Tg.slots, Tgs.slots, ex, exs, exh, sNx, sBk, sCt, sSeq, sDrop, sRet, sRetN, sAsg, sPar2, sPar3, sSub, sIf, sRaise, asg, asgs, R.bind_ok, R.bind_err, R.bind_bad, R.stm_ok, R.stm_err, R.stm_bad, opt_some, opt_none, noErr_ok, noErr_bad, leave_d, leave_n, leave_e, leave_da, mkL_f, tru, truU, truD, asB, asBo, q, e8, getU_lst hbd]) ?_
  refine exs_seq (σ1 := [u0, some (.lab 0), u2, some (.d (.tuple (ps.map Py.pairD))), some (.d (.int (r2 - 9))), some (.d (tmD (r2 - 9) (canon ps))), some (.d (tmD (putC (r2 - 9) e v (canon ps)) (putQ v (canon ps) qs))), some (.d (.list ((wideL rs).map .int))), some (.d (.list ((movL (wideL rs) v (e + valI qs (rho rs))).map .int))), some (.d (.list oddL)), some (.d bd), u11, u12, u13, some (.d (tmD e qs)), some (.d (.int (r4 - 7))), some (.d (.tuple (rs.map .int))), some (.d (.int v)), some (.d (.int (r2 - 9 + valI ps (rho rs)))), some (.d (.int (e + valI qs (rho rs)))), u20, u21, u22, u23]) (h1 := [o8]) (by
    have q := key_odd (F := F) (k := k + 8) ([u0, some (.lab 0), u2, some (.d (.tuple (ps.map Py.pairD))), some (.d (.int (r2 - 9))), some (.d (tmD (r2 - 9) (canon ps))), some (.d (tmD (putC (r2 - 9) e v (canon ps)) (putQ v (canon ps) qs))), some (.d (.list ((wideL rs).map .int))), some (.d (.list ((movL (wideL rs) v (e + valI qs (rho rs))).map .int))), some (.d (.list oddL)), some (.d bd), u11, u12, u13, some (.d (tmD e qs)), some (.d (.int (r4 - 7))), some (.d (.tuple (rs.map .int))), some (.d (.int v)), some (.d (.int (r2 - 9 + valI ps (rho rs)))), some (.d (.int (e + valI qs (rho rs)))), u20, u21, u22, u23]) rfl rfl [o8]
    have q1 : lenU (.d (.list oddL)) [o8] = .ok (.d (.int 13)) [o8] := by rw [lenU_l]; rfl
    have q2 : mulU false (.d (.list [.bool false])) (.d (.int 13)) [o8] = .ok (.d (.list (List.replicate 13 (.bool false)))) [o8] := rfl
    simp [evCl_0, evCl_1, evCl_2, evCl_3, evCl_4, evCl_k, evCl_k2, evCl_k2r, evCl_k3r, ev, tv, evs, evo, evc, evw, evV, evC, evT, ev2, ev1, evCh, evB, evIf, evNil, evCons, evTup, evLst, evCall, evSl, evNo, evPart, vAnd, vOr, vNot, tAndE, tOrE, tNotE, binU, cmpU, biU, meU, g1, g2, maxG, minG, Es.len, Tg.slots, Tgs.slots, ex, exs, exh, sNx, sBk, sCt, sSeq, sDrop, sRet, sRetN, sAsg, sPar2, sPar3, sSub, sIf, sRaise, asg, asgs, R.bind_ok, R.bind_err, R.bind_bad, R.stm_ok, R.stm_err, R.stm_bad, opt_some, opt_none, noErr_ok, noErr_bad, leave_d, leave_n, leave_e, leave_da, mkL_f, tru, truU, truD, asB, asBo, q, q1, q2, pures, falses_eq, j1, j2, j3, -List.reduceReplicate]) ?_
  refine exs_seq (σ1 := [u0, some (.lab 0), u2, some (.d (.tuple (ps.map Py.pairD))), some (.d (.int (r2 - 9))), some (.d (tmD (r2 - 9) (canon ps))), some (.d (tmD (putC (r2 - 9) e v (canon ps)) (putQ v (canon ps) qs))), some (.d (.list ((wideL rs).map .int))), some (.d (.list ((movL (wideL rs) v (e + valI qs (rho rs))).map .int))), some (.d (.list oddL)), some (.d bd), some (.d wd), u12, u13, some (.d (tmD e qs)), some (.d (.int (r4 - 7))), some (.d (.tuple (rs.map .int))), some (.d (.int v)), some (.d (.int (r2 - 9 + valI ps (rho rs)))), some (.d (.int (e + valI qs (rho rs)))), u20, u21, u22, u23]) (h1 := [o9]) (by
    have q : getU (.d (.list wrongL)) (.d (.int r9)) [o9] = .ok (.d wd) [o9] := getU_lst hwd
    simp only [wrongL] at q
    simp [evCl_0, evCl_1, evCl_2, evCl_3, evCl_4, evCl_k, evCl_k2, evCl_k2r, evCl_k3r, ev, tv, evs, evo, evc, evw, evV, evC, evT, ev2, ev1, evCh, evB, evIf, evNil, evCons, evTup, evLst, evCall, evSl, evNo, evPart, vAnd, vOr, vNot, tAndE, tOrE, tNotE, binU, cmpU, biU, meU, g1, g2, maxG, minG, Es.len, Tg.slots, Tgs.slots, ex, exs, exh, sNx, sBk, sCt, sSeq, sDrop, sRet, sRetN, sAsg, sPar2, sPar3, sSub, sIf, sRaise, asg, asgs, R.bind_ok, R.bind_err, R.bind_bad, R.stm_ok, R.stm_err, R.stm_bad, opt_some, opt_none, noErr_ok, noErr_bad, leave_d, leave_n, leave_e, leave_da, mkL_f, tru, truU, truD, asB, asBo, e9, pures, negU, q]) ?_
  refine exs_seq (σ1 := [u0, some (.lab 0), u2, some (.d (.tuple (ps.map Py.pairD))), some (.d (.int (r2 - 9))), some (.d (tmD (r2 - 9) (canon ps))), some (.d (tmD (putC (r2 - 9) e v (canon ps)) (putQ v (canon ps) qs))), some (.d (.list ((wideL rs).map .int))), some (.d (.list ((movL (wideL rs) v (e + valI qs (rho rs))).map .int))), some (.d (.list oddL)), some (.d bd), some (.d wd), some (.d fd), u13, some (.d (tmD e qs)), some (.d (.int (r4 - 7))), some (.d (.tuple (rs.map .int))), some (.d (.int v)), some (.d (.int (r2 - 9 + valI ps (rho rs)))), some (.d (.int (e + valI qs (rho rs)))), u20, u21, u22, u23]) (h1 := [o10]) (by
    have hr7 := D.r7
    have hr5 := D.r5
    have q := fun h => key_four (F := F) (k := k + 12) (canon ps) (r2 - 9) (by omega) ([u0, some (.lab 0), u2, some (.d (.tuple (ps.map Py.pairD))), some (.d (.int (r2 - 9))), some (.d (tmD (r2 - 9) (canon ps))), some (.d (tmD (putC (r2 - 9) e v (canon ps)) (putQ v (canon ps) qs))), some (.d (.list ((wideL rs).map .int))), some (.d (.list ((movL (wideL rs) v (e + valI qs (rho rs))).map .int))), some (.d (.list oddL)), some (.d bd), some (.d wd), u12, u13, some (.d (tmD e qs)), some (.d (.int (r4 - 7))), some (.d (.tuple (rs.map .int))), some (.d (.int v)), some (.d (.int (r2 - 9 + valI ps (rho rs)))), some (.d (.int (e + valI qs (rho rs)))), u20, u21, u22, u23]) rfl rfl h
    have q1 : getU _ (.d (.int r10)) [o10] = .ok (.d fd) [o10] := getU_lst hfd
    have q2 : mulU false (.d (.tuple [.int 0])) (.d (.int 4)) [o9] = .ok (.d (.tuple [.int 0, .int 0, .int 0, .int 0])) [o9] := rfl
    have q3 : cut (rs.map PyData.int) none (some 4) = (rs.take 4).map PyData.int := by rw [cut_4 _ (by simp; omega), List.map_take]
    by_cases he : ((canon ps).filter fun p => decide (p.1 = 4)).isEmpty = true
    · rw [if_pos he] at q1
      have he2 : (((canon ps).filter fun p => decide (p.1 = 4)).map Py.pairD).isEmpty = true := by rw [List.isEmpty_map]; exact he
      simp [evCl_0, evCl_1, evCl_2, evCl_3, evCl_4, evCl_k, evCl_k2, evCl_k2r, evCl_k3r, ev, tv, evs, evo, evc, evw, evV, evC, evT, ev2, ev1, evCh, evB, evIf, evNil, evCons, evTup, evLst, evCall, evSl, evNo, evPart, vAnd, vOr, vNot, tAndE, tOrE, tNotE, binU, cmpU, biU, meU, g1, g2, maxG, minG, Es.len, Tg.slots, Tgs.slots, ex, exs, exh, sNx, sBk, sCt, sSeq, sDrop, sRet, sRetN, sAsg, sPar2, sPar3, sSub, sIf, sRaise, asg, asgs, R.bind_ok, R.bind_err, R.bind_bad, R.stm_ok, R.stm_err, R.stm_bad, opt_some, opt_none, noErr_ok, noErr_bad, leave_d, leave_n, leave_e, leave_da, mkL_f, tru, truU, truD, asB, asBo, e10, pures, listU, seqOf, q2, addU_t, q, eqU_nilL, eqv_lnil, he2, q1, -List.isEmpty_iff, -List.isEmpty_map]
    · rw [if_neg he, List.map_take] at q1
      rw [List.map_take] at q3
      have he2 : (((canon ps).filter fun p => decide (p.1 = 4)).map Py.pairD).isEmpty = false := by rw [List.isEmpty_map]; simpa using he
      simp [evCl_0, evCl_1, evCl_2, evCl_3, evCl_4, evCl_k, evCl_k2, evCl_k2r, evCl_k3r, ev, tv, evs, evo, evc, evw, evV, evC, evT, ev2, ev1, evCh, evB, evIf, evNil, evCons, evTup, evLst, evCall, evSl, evNo, evPart, vAnd, vOr, vNot, tAndE, tOrE, tNotE, binU, cmpU, biU, meU, g1, g2, maxG, minG, Es.len, Tg.slots, Tgs.slots, ex, exs, exh, sNx, sBk, sCt, sSeq, sDrop, sRet, sRetN, sAsg, sPar2, sPar3, sSub, sIf, sRaise, asg, asgs, R.bind_ok, R.bind_err, R.bind_bad, R.stm_ok, R.stm_err, R.stm_bad, opt_some, opt_none, noErr_ok, noErr_bad, leave_d, leave_n, leave_e, leave_da, mkL_f, tru, truU, truD, asB, asBo, e10, pures, listU, seqOf, q2, addU_t, q, eqU_nilL, eqv_lnil, he2, slU, asI, q3, q1, -List.isEmpty_iff, -List.isEmpty_map]) ?_
  refine exs_seq (σ1 := [u0, some (.lab 0), u2, some (.d (.tuple (ps.map Py.pairD))), some (.d (.int (r2 - 9))), some (.d (tmD (r2 - 9) (canon ps))), some (.d (tmD (putC (r2 - 9) e v (canon ps)) (putQ v (canon ps) qs))), some (.d (.list ((wideL rs).map .int))), some (.d (.list ((movL (wideL rs) v (e + valI qs (rho rs))).map .int))), some (.d (.list oddL)), some (.d bd), some (.d wd), some (.d fd), some (.d (.list [.str "constant", .str "pairs", .str "term", .str "row", .str "term", .str "other"])), some (.d (tmD e qs)), some (.d (.int (r4 - 7))), some (.d (.tuple (rs.map .int))), some (.d (.int v)), some (.d (.int (r2 - 9 + valI ps (rho rs)))), some (.d (.int (e + valI qs (rho rs)))), u20, u21, u22, u23]) (h1 := [o10]) (by
    simp [evCl_0, evCl_1, evCl_2, evCl_3, evCl_4, evCl_k, evCl_k2, evCl_k2r, evCl_k3r, ev, tv, evs, evo, evc, evw, evV, evC, evT, ev2, ev1, evCh, evB, evIf, evNil, evCons, evTup, evLst, evCall, evSl, evNo, evPart, vAnd, vOr, vNot, tAndE, tOrE, tNotE, binU, cmpU, biU, meU, g1, g2, maxG, minG, Es.len, Tg.slots, Tgs.slots, ex, exs, exh, sNx, sBk, sCt, sSeq, sDrop, sRet, sRetN, sAsg, sPar2, sPar3, sSub, sIf, sRaise, asg, asgs, R.bind_ok, R.bind_err, R.bind_bad, R.stm_ok, R.stm_err, R.stm_bad, opt_some, opt_none, noErr_ok, noErr_bad, leave_d, leave_n, leave_e, leave_da, mkL_f, tru, truU, truD, asB, asBo, pures, w1, w2, w3, w4, w5, w6]) ?_
  refine exs_seq (σ1 := [u0, some (.lab 0), u2, some (.d (.tuple (ps.map Py.pairD))), some (.d (.int (r2 - 9))), some (.d (tmD (r2 - 9) (canon ps))), some (.d (tmD (putC (r2 - 9) e v (canon ps)) (putQ v (canon ps) qs))), some (.d (.list ((wideL rs).map .int))), some (.d (.list ((movL (wideL rs) v (e + valI qs (rho rs))).map .int))), some (.d (.list oddL)), some (.d bd), some (.d wd), some (.d fd), some (.d wordsD), some (.d (tmD e qs)), some (.d (.int (r4 - 7))), some (.d (.tuple (rs.map .int))), some (.d (.int v)), some (.d (.int (r2 - 9 + valI ps (rho rs)))), some (.d (.int (e + valI qs (rho rs)))), u20, u21, u22, u23]) (h1 := [o10]) (by
    simp [evCl_0, evCl_1, evCl_2, evCl_3, evCl_4, evCl_k, evCl_k2, evCl_k2r, evCl_k3r, ev, tv, evs, evo, evc, evw, evV, evC, evT, ev2, ev1, evCh, evB, evIf, evNil, evCons, evTup, evLst, evCall, evSl, evNo, evPart, vAnd, vOr, vNot, tAndE, tOrE, tNotE, binU, cmpU, biU, meU, g1, g2, maxG, minG, Es.len, Tg.slots, Tgs.slots, ex, exs, exh, sNx, sBk, sCt, sSeq, sDrop, sRet, sRetN, sAsg, sPar2, sPar3, sSub, sIf, sRaise, asg, asgs, R.bind_ok, R.bind_err, R.bind_bad, R.stm_ok, R.stm_err, R.stm_bad, opt_some, opt_none, noErr_ok, noErr_bad, leave_d, leave_n, leave_e, leave_da, mkL_f, tru, truU, truD, asB, asBo, pures, w7, w8, w9, w10, w11, negU, addU_l, wordsD]) ?_
  refine exs_seq (σ1 := [u0, some (.lab 0), u2, some (.d (.tuple (ps.map Py.pairD))), some (.d (.int (r2 - 9))), some (.d (tmD (r2 - 9) (canon ps))), some (.d (tmD (putC (r2 - 9) e v (canon ps)) (putQ v (canon ps) qs))), some (.d (.list ((wideL rs).map .int))), some (.d (.list ((movL (wideL rs) v (e + valI qs (rho rs))).map .int))), some (.d (.list oddL)), some (.d bd), some (.d wd), some (.d fd), some (.d wordsD), some (.d (tmD e qs)), some (.d (.int (r4 - 7))), some (.d (.tuple (rs.map .int))), some (.d (.int v)), some (.d (.int (r2 - 9 + valI ps (rho rs)))), some (.d (.int (e + valI qs (rho rs)))), u20, u21, u22, u23]) (h1 := [o10]) (by
    have q := words_eq [o10]
    simp only [wordsD] at q ⊢
    simp [evCl_0, evCl_1, evCl_2, evCl_3, evCl_4, evCl_k, evCl_k2, evCl_k2r, evCl_k3r, ev, tv, evs, evo, evc, evw, evV, evC, evT, ev2, ev1, evCh, evB, evIf, evNil, evCons, evTup, evLst, evCall, evSl, evNo, evPart, vAnd, vOr, vNot, tAndE, tOrE, tNotE, binU, cmpU, biU, meU, g1, g2, maxG, minG, Es.len, Tg.slots, Tgs.slots, ex, exs, exh, sNx, sBk, sCt, sSeq, sDrop, sRet, sRetN, sAsg, sPar2, sPar3, sSub, sIf, sRaise, asg, asgs, R.bind_ok, R.bind_err, R.bind_bad, R.stm_ok, R.stm_err, R.stm_bad, opt_some, opt_none, noErr_ok, noErr_bad, leave_d, leave_n, leave_e, leave_da, mkL_f, tru, truU, truD, asB, asBo, pures, q]) ?_
  rfl

end K01

namespace K01
open PySem PySem.Spec PyProof.Rows L2 Py

variable {F k : Nat}
theorem whole (cs : List Int) (hl : cs.length ≤ 63) : ∃ h', run G F (dsOf dd) (k + 13) "law" [.scr cs] [] = .ok (.d (.bool true)) h' := by
  have pb : run G F (dsOf dd) (k + 12) "_law_bag" [.scr cs] [] = .ok (.lab 0) [bagO cs 0 0 7] := p_bag (F := F) (k := k + 11) cs []
  have loop : ∃ σ' h', ex G (run G F (dsOf dd) (k + 12)) F f_law_0 [some (.scr cs), some (.lab 0), none, none, none, none, none, none, none, none, none, none, none, none, none, none, none, none, none, none, none, none, none, none] [bagO cs 0 0 7] = .nx σ' h' ∧
      ∃ o', h' = [o'] ∧ IsBag cs (60 * (rngL 0 1 4).length) o' ∧ ∃ u2 u3 u4 u5 u6 u7 u8 u9 u10 u11 u12 u13 u14 u15 u16 u17 u18 u19 u20 u21 u22 u23, σ' = [some (.scr cs), some (.lab 0), u2, u3, u4, u5, u6, u7, u8, u9, u10, u11, u12, u13, u14, u15, u16, u17, u18, u19, u20, u21, u22, u23] := by
    unfold f_law_0
    refine for_inv (us := rngL 0 1 4) (h1 := [bagO cs 0 0 7]) (fun pre σ h' => ∃ o', h' = [o'] ∧ IsBag cs (60 * pre.length) o' ∧ ∃ u2 u3 u4 u5 u6 u7 u8 u9 u10 u11 u12 u13 u14 u15 u16 u17 u18 u19 u20 u21 u22 u23, σ = [some (.scr cs), some (.lab 0), u2, u3, u4, u5, u6, u7, u8, u9, u10, u11, u12, u13, u14, u15, u16, u17, u18, u19, u20, u21, u22, u23])
      ?_ ⟨_, rfl, ⟨0, 0, 7, rfl, by decide, by decide, by decide, by decide, by decide⟩, _, _, _, _, _, _, _, _, _, _, _, _, _, _, _, _, _, _, _, _, _, _, rfl⟩ (fun pre u r e σ h' hI => ?_)
    · have : Py.inR 4 = true := by decide
      simp [evCl_0, evCl_1, evCl_2, evCl_3, evCl_4, evCl_k, evCl_k2, evCl_k2r, evCl_k3r, ev, tv, evs, evo, evc, evw, evV, evC, evT, ev2, ev1, evCh, evB, evIf, evNil, evCons, evTup, evLst, evCall, evSl, evNo, evPart, vAnd, vOr, vNot, tAndE, tOrE, tNotE, binU, cmpU, biU, meU, g1, g2, maxG, minG, Es.len, Tg.slots, Tgs.slots, ex, exs, exh, sNx, sBk, sCt, sSeq, sDrop, sRet, sRetN, sAsg, sPar2, sPar3, sSub, sIf, sRaise, asg, asgs, R.bind_ok, R.bind_err, R.bind_bad, R.stm_ok, R.stm_err, R.stm_bad, opt_some, opt_none, noErr_ok, noErr_bad, leave_d, leave_n, leave_e, leave_da, mkL_f, tru, truU, truD, asB, asBo, rngS, this]
    · obtain ⟨o, rfl, hb, u2, u3, u4, u5, u6, u7, u8, u9, u10, u11, u12, u13, u14, u15, u16, u17, u18, u19, u20, u21, u22, u23, rfl⟩ := hI
      obtain ⟨rfl, hlt⟩ := range_get e
      obtain ⟨o', v3, v4, v5, v6, v7, v8, v9, v10, v11, v12, v13, v14, v15, v16, v17, v18, v19, q, hb'⟩ := turn (F := F) (k := k) hb (by omega) hl (some (.scr cs)) (some (.d (.int pre.length))) u3 u4 u5 u6 u7 u8 u9 u10 u11 u12 u13 u14 u15 u16 u17 u18 u19 u20 u21 u22 u23
      exact ⟨_, _, _, rfl, q, o', rfl, hb'.mono (by simp; omega), _, _, _, _, _, _, _, _, _, _, _, _, _, _, _, _, _, _, _, _, _, _, rfl⟩
  obtain ⟨σ', h', e, o', rfl, hb, u2, u3, u4, u5, u6, u7, u8, u9, u10, u11, u12, u13, u14, u15, u16, u17, u18, u19, u20, u21, u22, u23, rfl⟩ := loop
  refine ⟨[], ?_⟩
  rw [r_law]
  simp [b_law, evCl_0, evCl_1, evCl_2, evCl_3, evCl_4, evCl_k, evCl_k2, evCl_k2r, evCl_k3r, ev, tv, evs, evo, evc, evw, evV, evC, evT, ev2, ev1, evCh, evB, evIf, evNil, evCons, evTup, evLst, evCall, evSl, evNo, evPart, vAnd, vOr, vNot, tAndE, tOrE, tNotE, binU, cmpU, biU, meU, g1, g2, maxG, minG, Es.len, Tg.slots, Tgs.slots, ex, exs, exh, sNx, sBk, sCt, sSeq, sDrop, sRet, sRetN, sAsg, sPar2, sPar3, sSub, sIf, sRaise, asg, asgs, R.bind_ok, R.bind_err, R.bind_bad, R.stm_ok, R.stm_err, R.stm_bad, opt_some, opt_none, noErr_ok, noErr_bad, leave_d, leave_n, leave_e, leave_da, mkL_f, tru, truU, truD, asB, asBo, pb, e, leave, outU]

end K01
theorem PySem.Challenge.cw_wholesworn_k01_terms_reckoned_holds : PySem.Challenge.rw_wholesworn_k01_terms_reckoned.Holds := by
  refine K01.fin fun ns hl => ?_
  obtain ⟨h', e⟩ := K01.whole (F := 0) (k := 47) ns hl
  exact ⟨0, h', e⟩

