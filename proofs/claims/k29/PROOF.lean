import PyProof.Rows.All
import Wide.All
import OpenK.AllK
import Wide.FinOn
import PyProof.EqAt
import PyProof.EqKinds
import PyProof.TupleCall
import KE.DataCmp
import HandS.Base
import HandS.Call
import HandS.List
import HandS.Comp
import HandS.Ends
import HandS.Dict
import HandS.Iter
import HandS.More
import HandS.Exc
import HandS.ExcOwn
import HandS.TryMany
import HandS.Words
import HandS.WordsExc
import HandS.Wide
import HandS.IsInst
import HandS.Defaults
import HandS.HeadHook1
import HandS.HeadHook2
import HandS.Flow
import HandS.TupAny
import HandS.TupMul
import HandS.TupLe
import HandS.WideBits
import HandS.SortKw
import HandS.SortInts
import HandS.Conv
import KE.DataMinMax
import HandS.Deep
import HandS.Text
import KE.GoesMore
import HandS.Zip
import HandS.TryOnly
import HandS.Style
import HandS.Small
import HandS.HeadEnd
import KE.BitLaws
import HandS.Head0
import HandS.Head1
import HandS.Head2
import PySem.Challenge.RW_wholesworn_k29_words_of_rows
set_option Elab.async false
set_option linter.all false
set_option maxRecDepth 100000
set_option maxHeartbeats 0
/-! The interpreter's values, its heap, and how they stand for what the model has. -/
namespace Py
open PySem PySem.Spec PyProof.Rows L2

/-- pure data -/
abbrev D := PyData
/-- a value: pure, an object that may change; scr is the script as it is given, ty a built-in type, gl an object that a global name stands for -/
inductive U where
  | d (d : D) | lab (n : Nat) | scr (xs : List Int) | ty (n : String) | gl (x : Str)
/-- an object that may change -/
inductive O where
  | lst (xs : List D) | mix (xs : List U) | dct (kvs : List (Key × D))
  deriving Inhabited
/-- what a run gives -/
inductive R (α : Type) where
  | ok (a : α) (h : List O) | err (c : Str) (h : List O) | bad
def R.bind {α β : Type} (r : R α) (f : α → List O → R β) : R β := match r with
  | .ok a h => f a h
  | .err c h => .err c h
  | .bad => .bad
@[simp] theorem R.bind_ok {α β : Type} (a : α) (h : List O) (f : α → List O → R β) : (R.ok a h).bind f = f a h := rfl
@[simp] theorem R.bind_err {α β : Type} (c : Str) (h : List O) (f : α → List O → R β) : (R.err c h : R α).bind f = .err c h := rfl
@[simp] theorem R.bind_bad {α β : Type} (f : α → List O → R β) : (R.bad : R α).bind f = .bad := rfl

/-! ### what they stand for -/
def KTup (K : PySem.W.Frag) (a : Addr) (xs : List V) : Prop :=
  ∃ (o : Obj) (its : Array Value) (n : Nat), K.lookup a = some o ∧ o.cls = .type "tuple" ∧ o.data = .seq its n ∧ its.size ≤ sizeLine ∧ Vals xs its.toList
def KLst (K : PySem.W.Frag) (a : Addr) (xs : List V) : Prop :=
  ∃ (o : Obj) (its : Array Value) (n : Nat), K.lookup a = some o ∧ o.cls = .type "list" ∧ o.dict = none ∧ o.data = .seq its n ∧ its.size ≤ sizeLine ∧ Vals xs its.toList
section
variable (K : PySem.W.Frag) (H : Hp) (μ : List Addr)
def TupAt (a : Addr) (vs : List V) : Prop := (H a = some (.tup vs) ∧ a ∉ μ) ∨ KTup K a vs
def ScrAt (a : Addr) (vs : List V) : Prop := (∃ o, H a = some (.frz o (.lst vs)) ∧ a ∉ μ) ∨ KLst K a vs
mutual
inductive RD : D → V → Prop
  | non : RD .none .non
  | bl (b : Bool) : RD (.bool b) (.bl b)
  | int (i : Int) : RD (.int i) (.int i)
  | str (s : Str) : PyData.strOk s = true → RD (.str s) (.str s)
  | tup {a : Addr} {vs : List V} {ds : List D} : TupAt K H μ a vs → RDs ds vs → RD (.tuple ds) (.ref a)
  | lst {a : Addr} {vs : List V} {ds : List D} : H a = some (.lst vs) → a ∉ μ → RDs ds vs → RD (.list ds) (.ref a)
inductive RDs : List D → List V → Prop
  | nil : RDs [] []
  | cons {d : D} {v : V} {ds : List D} {vs : List V} : RD d v → RDs ds vs → RDs (d :: ds) (v :: vs)
end
inductive RU : U → V → Prop
  | d {d : D} {v : V} : RD K H μ d v → RU (.d d) v
  | lab {n : Nat} {a : Addr} : μ[n]? = some a → RU (.lab n) (.ref a)
  | scr {a : Addr} {ns : List Int} : ScrAt K H μ a (ns.map V.int) → RU (.scr ns) (.ref a)
  | ty (n : String) : RU (.ty n) (.ty n)
  | gl (x : Str) : RU (.gl x) (.ref (He.ga K x))
inductive RUs : List U → List V → Prop
  | nil : RUs [] []
  | cons {d : U} {v : V} {ds : List U} {vs : List V} : RU K H μ d v → RUs ds vs → RUs (d :: ds) (v :: vs)
def RKs : List (Key × D) → List (Key × V) → Prop := Paired fun p q => p.1 = q.1 ∧ RD K H μ p.2 q.2
def U.below (n : Nat) : U → Prop
  | .lab m => m < n
  | _ => True
instance (n : Nat) : DecidablePred (U.below n) := fun u => by cases u <;> (unfold U.below; infer_instance)
inductive RO (n : Nat) : O → HO → Prop
  | lst {xs : List D} {vs : List V} : RDs K H μ xs vs → RO n (.lst xs) (.lst vs)
  | mix {xs : List U} {vs : List V} : RUs K H μ xs vs → (∀ u ∈ xs, u.below n) → RO n (.mix xs) (.lst vs)
  | dct {kvs : List (Key × D)} {vs : List (Key × V)} : RKs K H μ kvs vs → RO n (.dct kvs) (.dK vs)
structure Rh (h : List O) : Prop where
  len : h.length = μ.length
  nd : μ.Nodup
  obj : ∀ n o a, h[n]? = some o → μ[n]? = some a → ∃ ho, H a = some ho ∧ RO K H μ n o ho
def RE (σ' : List (Option U)) (σ : L2.St) : Prop := σ'.length = σ.length ∧ ∀ (i : Nat) (u : U), σ'[i]? = some (some u) → ∃ v : V, σ[i]? = some (some v) ∧ RU K H μ u v
end
/-- the heap has grown, what may change has changed -/
structure Ext (μ : List Addr) (H : Hp) (μ' : List Addr) (H' : Hp) : Prop where
  pre : ∃ r, μ' = μ ++ r
  keep : ∀ a o, H a = some o → a ∉ μ → H' a = some o ∧ a ∉ μ'
section
variable {K : PySem.W.Frag} {H H' H1 H2 : Hp} {μ μ' μ1 μ2 : List Addr}
theorem Ext.refl : Ext μ H μ H := ⟨⟨[], by simp⟩, fun a o h n => ⟨h, n⟩⟩
theorem Ext.trans (e : Ext μ H μ1 H1) (f : Ext μ1 H1 μ2 H2) : Ext μ H μ2 H2 := by
  obtain ⟨r, rfl⟩ := e.pre
  obtain ⟨r', rfl⟩ := f.pre
  exact ⟨⟨r ++ r', by simp⟩, fun a o h n => let ⟨h1, n1⟩ := e.keep a o h n; f.keep a o h1 n1⟩
theorem Ext.get (e : Ext μ H μ' H') {n : Nat} {a : Addr} (h : μ[n]? = some a) : μ'[n]? = some a := by
  obtain ⟨r, rfl⟩ := e.pre
  rw [List.getElem?_append_left (List.getElem?_eq_some_iff.mp h).1, h]
theorem TupAt.ext (e : Ext μ H μ' H') {a : Addr} {vs : List V} (h : TupAt K H μ a vs) : TupAt K H' μ' a vs := by
  rcases h with ⟨h, n⟩ | h
  · exact .inl (e.keep a _ h n)
  · exact .inr h
theorem ScrAt.ext (e : Ext μ H μ' H') {a : Addr} {vs : List V} (h : ScrAt K H μ a vs) : ScrAt K H' μ' a vs := by
  rcases h with ⟨o, h, n⟩ | h
  · exact .inl ⟨o, e.keep a _ h n⟩
  · exact .inr h
mutual
theorem RD.ext (e : Ext μ H μ' H') : ∀ {d : D} {v : V}, RD K H μ d v → RD K H' μ' d v
  | _, _, .non => .non
  | _, _, .bl b => .bl b
  | _, _, .int i => .int i
  | _, _, .str s h => .str s h
  | _, _, .tup h r => .tup (h.ext e) (RDs.ext e r)
  | _, _, .lst h n r => let ⟨h1, n1⟩ := e.keep _ _ h n; .lst h1 n1 (RDs.ext e r)
theorem RDs.ext (e : Ext μ H μ' H') : ∀ {d : List D} {v : List V}, RDs K H μ d v → RDs K H' μ' d v
  | _, _, .nil => .nil
  | _, _, .cons h r => .cons (RD.ext e h) (RDs.ext e r)
end
theorem RU.ext (e : Ext μ H μ' H') {u : U} {v : V} (h : RU K H μ u v) : RU K H' μ' u v := by
  cases h with
  | d h => exact .d (h.ext e)
  | lab h => exact .lab (e.get h)
  | scr h => exact .scr (h.ext e)
  | ty n => exact .ty n
  | gl x => exact .gl x
theorem RUs.ext (e : Ext μ H μ' H') {u : List U} {v : List V} (h : RUs K H μ u v) : RUs K H' μ' u v := by
  induction h with
  | nil => exact .nil
  | cons h _ ih => exact .cons (h.ext e) ih
theorem RKs.ext (e : Ext μ H μ' H') {u : List (Key × D)} {v : List (Key × V)} (h : RKs K H μ u v) : RKs K H' μ' u v :=
  Paired.mapP h fun _ _ q => ⟨q.1, q.2.ext e⟩
theorem RO.ext (e : Ext μ H μ' H') {n : Nat} {o : O} {ho : HO} (h : RO K H μ n o ho) : RO K H' μ' n o ho := by
  cases h with
  | lst h => exact .lst (h.ext e)
  | mix h b => exact .mix (h.ext e) b
  | dct h => exact .dct (h.ext e)
theorem RE.ext (e : Ext μ H μ' H') {σ' : List (Option U)} {σ : L2.St} (h : RE K H μ σ' σ) : RE K H' μ' σ' σ :=
  ⟨h.1, fun i u q => let ⟨v, h1, h2⟩ := h.2 i u q; ⟨v, h1, h2.ext e⟩⟩
theorem RE.set {σ' : List (Option U)} {σ : L2.St} (h : RE K H μ σ' σ) {i : Nat} {u : U} {v : V} (r : RU K H μ u v) : RE K H μ (σ'.set i (some u)) (σ.set i (some v)) := by
  refine ⟨by rw [List.length_set, List.length_set, h.1], fun j w q => ?_⟩
  by_cases e : i = j
  · subst e
    by_cases hi : i < σ'.length
    · rw [List.getElem?_set_self hi] at q
      cases q
      exact ⟨v, List.getElem?_set_self (by rw [← h.1]; exact hi), r⟩
    · rw [List.getElem?_eq_none (by rw [List.length_set]; omega)] at q
      cases q
  · rw [List.getElem?_set_ne e] at q ⊢
    exact h.2 j w q
theorem RDs.length {ds : List D} {vs : List V} (h : RDs K H μ ds vs) : ds.length = vs.length := by
  induction ds generalizing vs with
  | nil => cases h; rfl
  | cons d ds ih => cases h with | cons _ r => rw [List.length_cons, List.length_cons, ih r]
theorem RDs.get {ds : List D} {vs : List V} (h : RDs K H μ ds vs) {i : Nat} {d : D} (e : ds[i]? = some d) : ∃ v, vs[i]? = some v ∧ RD K H μ d v := by
  induction ds generalizing vs i with
  | nil => simp at e
  | cons x ds ih =>
    cases h with
    | cons hx r =>
      cases i with
      | zero => simp at e; subst e; exact ⟨_, rfl, hx⟩
      | succ i => obtain ⟨v, h1, h2⟩ := ih r (i := i) (by simpa using e); exact ⟨v, by simpa using h1, h2⟩
theorem RDs.append {ds es : List D} {vs ws : List V} (h : RDs K H μ ds vs) (g : RDs K H μ es ws) : RDs K H μ (ds ++ es) (vs ++ ws) := by
  induction ds generalizing vs with
  | nil => cases h; exact g
  | cons d ds ih => cases h with | cons hx r => exact .cons hx (ih r)
theorem RDs.take {ds : List D} {vs : List V} (h : RDs K H μ ds vs) (n : Nat) : RDs K H μ (ds.take n) (vs.take n) := by
  induction ds generalizing vs n with
  | nil => cases h; cases n <;> exact .nil
  | cons d ds ih =>
    cases h with
    | cons hx r =>
      cases n with
      | zero => exact .nil
      | succ n => exact .cons hx (ih r n)
theorem RDs.drop {ds : List D} {vs : List V} (h : RDs K H μ ds vs) (n : Nat) : RDs K H μ (ds.drop n) (vs.drop n) := by
  induction ds generalizing vs n with
  | nil => cases h; cases n <;> exact .nil
  | cons d ds ih =>
    cases h with
    | cons hx r =>
      cases n with
      | zero => exact .cons hx r
      | succ n => exact ih r n
theorem RDs.set {ds : List D} {vs : List V} (h : RDs K H μ ds vs) {d : D} {v : V} (r : RD K H μ d v) (n : Nat) : RDs K H μ (ds.set n d) (vs.set n v) := by
  induction ds generalizing vs n with
  | nil => cases h; exact .nil
  | cons x ds ih =>
    cases h with
    | cons hx q =>
      cases n with
      | zero => exact .cons r q
      | succ n => exact .cons hx (ih q n)
theorem RDs.eraseIdx {ds : List D} {vs : List V} (h : RDs K H μ ds vs) (n : Nat) : RDs K H μ (ds.eraseIdx n) (vs.eraseIdx n) := by
  induction ds generalizing vs n with
  | nil => cases h; exact .nil
  | cons x ds ih =>
    cases h with
    | cons hx q =>
      cases n with
      | zero => exact q
      | succ n => exact .cons hx (ih q n)
theorem RDs.dropLast {ds : List D} {vs : List V} (h : RDs K H μ ds vs) : RDs K H μ ds.dropLast vs.dropLast := by
  induction ds generalizing vs with
  | nil => cases h; exact .nil
  | cons x ds ih =>
    cases h with
    | cons hx q =>
      cases q with
      | nil => exact .nil
      | cons hy q' => exact .cons hx (ih (.cons hy q'))
theorem RDs.reverse {ds : List D} {vs : List V} (h : RDs K H μ ds vs) : RDs K H μ ds.reverse vs.reverse := by
  induction ds generalizing vs with
  | nil => cases h; exact .nil
  | cons x ds ih =>
    cases h with
    | cons hx q => rw [List.reverse_cons, List.reverse_cons]; exact (ih q).append (.cons hx .nil)
theorem RUs.length {ds : List U} {vs : List V} (h : RUs K H μ ds vs) : ds.length = vs.length := by
  induction h with
  | nil => rfl
  | cons _ _ ih => rw [List.length_cons, List.length_cons, ih]
theorem RUs.get {ds : List U} {vs : List V} (h : RUs K H μ ds vs) {i : Nat} {d : U} (e : ds[i]? = some d) : ∃ v, vs[i]? = some v ∧ RU K H μ d v := by
  induction h generalizing i with
  | nil => simp at e
  | cons hx r ih =>
    cases i with
    | zero => simp at e; subst e; exact ⟨_, rfl, hx⟩
    | succ i => obtain ⟨v, h1, h2⟩ := ih (i := i) (by simpa using e); exact ⟨v, by simpa using h1, h2⟩
theorem RUs.set {ds : List U} {vs : List V} (h : RUs K H μ ds vs) {d : U} {v : V} (r : RU K H μ d v) (n : Nat) : RUs K H μ (ds.set n d) (vs.set n v) := by
  induction h generalizing n with
  | nil => exact .nil
  | cons hx q ih =>
    cases n with
    | zero => exact .cons r q
    | succ n => exact .cons hx (ih n)
/-- all pure -/
def pures : List U → Option (List D)
  | [] => some []
  | .d x :: r => (pures r).map (x :: ·)
  | _ :: _ => none
theorem pures_rel {us : List U} {ds : List D} {vs : List V} (h : RUs K H μ us vs) (e : pures us = some ds) : RDs K H μ ds vs := by
  induction h generalizing ds with
  | nil => cases e; exact .nil
  | @cons u v us vs hx r ih =>
    cases u with
    | lab n => cases e
    | scr n => cases e
    | ty n => cases e
    | gl n => cases e
    | d x =>
      unfold pures at e
      cases q : pures us with
      | none => rw [q] at e; cases e
      | some ys =>
        rw [q] at e
        cases e
        cases hx with
        | d hx => exact .cons hx (ih q)
theorem TupAt.sq {a : Addr} {vs : List V} (h : TupAt K H μ a vs) : SqT K H a vs := by
  rcases h with ⟨h, _⟩ | h
  · exact .inl (.inl h)
  · exact .inr h
theorem ScrAt.sq {a : Addr} {vs : List V} (h : ScrAt K H μ a vs) : SqL K H a vs := by
  rcases h with ⟨o, h, _⟩ | h
  · exact .inl (.inr ⟨o, h⟩)
  · exact .inr h
/-! ### the heap's steps -/
theorem Ext.new {p : Addr} {ho : HO} (hp : H p = none) : Ext μ H μ (upd H p ho) := ⟨⟨[], by simp⟩, fun a o h n => ⟨by rw [upd_ne (ne_of_none h hp)]; exact h, n⟩⟩
theorem Rh.mono {h : List O} (r : Rh K H μ h) (e : Ext μ H μ H') (k : ∀ a o, a ∈ μ → H a = some o → H' a = some o) : Rh K H' μ h :=
  ⟨r.len, r.nd, fun n o a h1 h2 => let ⟨ho, q1, q2⟩ := r.obj n o a h1 h2; ⟨ho, k a ho (List.mem_of_getElem? h2) q1, q2.ext e⟩⟩
theorem Rh.new {h : List O} (r : Rh K H μ h) {p : Addr} {ho : HO} (hp : H p = none) : Rh K (upd H p ho) μ h :=
  r.mono (Ext.new hp) fun a o _ q => by rw [upd_ne (ne_of_none q hp)]; exact q
theorem Rh.there {h : List O} (r : Rh K H μ h) {a : Addr} (ha : a ∈ μ) : ∃ ho, H a = some ho := by
  obtain ⟨n, hn, e⟩ := List.getElem_of_mem ha
  have h1 : μ[n]? = some a := by rw [List.getElem?_eq_getElem hn, e]
  have hl : n < h.length := by rw [r.len]; exact hn
  obtain ⟨ho, q, _⟩ := r.obj n h[n] a (List.getElem?_eq_getElem hl) h1
  exact ⟨ho, q⟩
theorem Rh.notin {h : List O} (r : Rh K H μ h) {p : Addr} (hp : H p = none) : p ∉ μ := fun m => by
  obtain ⟨ho, q⟩ := r.there m
  rw [hp] at q; cases q
/-- a new object that may change -/
theorem Ext.lab {p : Addr} {ho : HO} (hp : H p = none) : Ext μ H (μ ++ [p]) (upd H p ho) :=
  ⟨⟨[p], rfl⟩, fun a o h n => ⟨by rw [upd_ne (ne_of_none h hp)]; exact h, by
    rw [List.mem_append, not_or]
    exact ⟨n, by simpa using ne_of_none h hp⟩⟩⟩
theorem Rh.lab {h : List O} (r : Rh K H μ h) {p : Addr} {o : O} {ho : HO} (hp : H p = none) (q : RO K H μ h.length o ho) : Rh K (upd H p ho) (μ ++ [p]) (h ++ [o]) := by
  have e : Ext μ H (μ ++ [p]) (upd H p ho) := Ext.lab hp
  refine ⟨by simp [r.len], ?_, fun n o' a h1 h2 => ?_⟩
  · rw [List.nodup_append]
    exact ⟨r.nd, by simp, fun a ha b hb => by
      rw [List.mem_singleton] at hb
      subst hb
      rintro rfl
      exact r.notin hp ha⟩
  · by_cases hn : n < h.length
    · rw [List.getElem?_append_left hn] at h1
      rw [List.getElem?_append_left (by rw [← r.len]; exact hn)] at h2
      obtain ⟨ho', q1, q2⟩ := r.obj n o' a h1 h2
      exact ⟨ho', by rw [upd_ne (ne_of_none q1 hp)]; exact q1, q2.ext e⟩
    · have hn' : n = h.length := by
        have := (List.getElem?_eq_some_iff.mp h1).1
        simp at this
        omega
      subst hn'
      rw [List.getElem?_append_right (Nat.le_refl _)] at h1
      rw [List.getElem?_append_right (by rw [r.len]; exact Nat.le_refl _)] at h2
      simp [r.len] at h1 h2
      subst h1 h2
      exact ⟨ho, upd_same, q.ext e⟩
/-- an object is changed -/
theorem Ext.chg {n : Nat} {a : Addr} {ho : HO} (ha : μ[n]? = some a) : Ext μ H μ (upd H a ho) :=
  ⟨⟨[], by simp⟩, fun b o h nb => ⟨by
    have ne : b ≠ a := by
      rintro rfl
      exact nb (List.mem_of_getElem? ha)
    rw [upd_ne ne]
    exact h, nb⟩⟩
theorem nodup_at {μ : List Addr} (nd : μ.Nodup) {i j : Nat} {a : Addr} (h1 : μ[i]? = some a) (h2 : μ[j]? = some a) : i = j := by
  obtain ⟨hi, e1⟩ := List.getElem?_eq_some_iff.mp h1
  obtain ⟨hj, e2⟩ := List.getElem?_eq_some_iff.mp h2
  exact (List.getElem_inj nd).mp (e1.trans e2.symm)
theorem Rh.chg {h : List O} (r : Rh K H μ h) {n : Nat} {a : Addr} {o : O} {ho : HO} (ha : μ[n]? = some a) (q : RO K H μ n o ho) : Rh K (upd H a ho) μ (h.set n o) := by
  refine ⟨by rw [List.length_set, r.len], r.nd, fun m o' b h1 h2 => ?_⟩
  by_cases e : n = m
  · subst e
    rw [ha] at h2; cases h2
    have hn : n < h.length := by
      have := (List.getElem?_eq_some_iff.mp h1).1
      simpa using this
    rw [List.getElem?_set_self hn] at h1
    cases h1
    exact ⟨ho, upd_same, q.ext (Ext.chg ha)⟩
  · rw [List.getElem?_set_ne e] at h1
    obtain ⟨ho', q1, q2⟩ := r.obj m o' b h1 h2
    have hb : b ≠ a := fun z => e (nodup_at r.nd ha (z ▸ h2))
    exact ⟨ho', by rw [upd_ne hb]; exact q1, q2.ext (Ext.chg ha)⟩
theorem Rh.labAt {h : List O} (r : Rh K H μ h) {n : Nat} {o : O} (e : h[n]? = some o) : ∃ a, μ[n]? = some a := by
  have hn := (List.getElem?_eq_some_iff.mp e).1
  rw [r.len] at hn
  exact ⟨μ[n], List.getElem?_eq_getElem hn⟩
end
end Py

namespace Py
open PySem PySem.Spec PyProof.Rows L2

abbrev En := List (Option U)
/-- what a run tells of the wish behind it -/
def Post {α β : Type} (K : PySem.W.Frag) (W : WX) (σ : L2.St) (H : Hp) (μ : List Addr) (Rel : Hp → List Addr → α → β → Prop) (r : R α) (Q : β → Hp → Prop) : Prop :=
  match r with
  | .ok a h' => ∀ H' μ' b, Ext μ H μ' H' → Rh K H' μ' h' → Rel H' μ' a b → Q b H'
  | .err c h' => ∀ H' μ', Ext μ H μ' H' → Rh K H' μ' h' → W (.ref (He.ga K c)) none σ H'
  | .bad => False
section
variable {α β γ δ : Type} {K : PySem.W.Frag} {W : WX} {σ : L2.St} {H H' : Hp} {μ μ' : List Addr} {Rel : Hp → List Addr → α → β → Prop} {Rel2 : Hp → List Addr → γ → δ → Prop} {r : R α} {Q Q' : β → Hp → Prop} {Q2 : δ → Hp → Prop} {f : α → List O → R γ}
theorem Post.at (p : Post K W σ H μ Rel r Q) (e : Ext μ H μ' H') : Post K W σ H' μ' Rel r Q := by
  cases r with
  | ok a h => exact fun H2 μ2 b e2 => p H2 μ2 b (e.trans e2)
  | err c h => exact fun H2 μ2 e2 => p H2 μ2 (e.trans e2)
  | bad => exact p
theorem Post.bind (p : Post K W σ H μ Rel2 (r.bind f) Q2)
    (k : ∀ a h' H' μ' b, Ext μ H μ' H' → Rh K H' μ' h' → Rel H' μ' a b → Post K W σ H' μ' Rel2 (f a h') Q2 → Q b H') : Post K W σ H μ Rel r Q := by
  cases r with
  | ok a h => exact fun H2 μ2 b e2 rh rel => k a h H2 μ2 b e2 rh rel (Post.at p e2)
  | err c h => exact p
  | bad => exact p
theorem Post.ret {a : α} {b : β} {h : List O} (p : Post K W σ H μ Rel (.ok a h) Q) (rh : Rh K H μ h) (rel : Rel H μ a b) : Q b H := p H μ b Ext.refl rh rel
end

def eqD (a b : D) : Prop := a = b

/-- e tells what f says -/
def Den (X : Cx) (W : WX) (e : Expr) (f : En → List O → R U) : Prop :=
  ∃ t, PE X e t ∧ ∀ σ' h σ H μ Q, RE X.K H μ σ' σ → Rh X.K H μ h → Post X.K W σ H μ (RU X.K) (f σ' h) Q → t σ H Q
def DenA (X : Cx) (W : WX) (es : List Expr) (f : En → List O → R (List U)) : Prop :=
  ∃ t, PA X es t ∧ ∀ σ' h σ H μ Q, RE X.K H μ σ' σ → Rh X.K H μ h → Post X.K W σ H μ (RUs X.K) (f σ' h) Q → t σ H Q
def relB (_ : Hp) (_ : List Addr) (a b : Bool) : Prop := a = b
def DenT (X : Cx) (W : WX) (e : Expr) (f : En → List O → R Bool) : Prop :=
  ∃ t, PT X e t ∧ ∀ σ' h σ H μ Q, RE X.K H μ σ' σ → Rh X.K H μ h → Post X.K W σ H μ relB (f σ' h) Q → t σ H Q

section
variable {X : Cx} {W : WX}
/-! ### names, constants -/
def evC (u : U) : En → List O → R U := fun _ h => .ok u h
theorem den_int {i : Int} {j pos} : Den X W (.Constant (.int i) j pos) (evC (.d (.int i))) := ⟨_, pe_int, fun σ' h σ H μ Q re rh p => p.ret rh (.d (.int i))⟩
theorem den_bl {i : Bool} {j pos} : Den X W (.Constant (.bool i) j pos) (evC (.d (.bool i))) := ⟨_, pe_bl, fun σ' h σ H μ Q re rh p => p.ret rh (.d (.bl i))⟩
theorem den_str {i : Str} {j pos} (hs : PyData.strOk i = true) : Den X W (.Constant (.str i) j pos) (evC (.d (.str i))) := ⟨_, pe_str, fun σ' h σ H μ Q re rh p => p.ret rh (.d (.str i hs))⟩
theorem den_non {j pos} : Den X W (.Constant .none j pos) (evC (.d .none)) := ⟨_, pe_non, fun σ' h σ H μ Q re rh p => p.ret rh (.d .non)⟩
def evV (i : Nat) : En → List O → R U := fun σ h => match σ[i]? with
  | some (some u) => .ok u h
  | _ => .bad
theorem den_var {i : Nat} {x : Str} {pos : Pos} (hN : X.N[i]? = some x) (hv : Vis X.env.scope x) (hd : (x == ("__debug__" : Str)) = false) (hcd : (x == ("__classdict__" : Str)) = false) : Den X W (.Name x pos) (evV i) := by
  refine ⟨_, pe_var hN hv hd hcd, fun σ' h σ H μ Q re rh p => ?_⟩
  unfold evV at p
  split at p
  · rename_i u e
    obtain ⟨v, e2, r⟩ := re.2 i u e
    exact ⟨v, e2, p.ret rh r⟩
  · exact p.elim
/-- a global name that stands for an object -/
theorem den_gl {x : Str} {pos : Pos} (hg : Gl X x) (hm : X.mg x = some (.ref (He.ga X.K x))) (hd : (x == ("__debug__" : Str)) = false) : Den X W (.Name x pos) (evC (.gl x)) :=
  ⟨_, pe_glob hg hm (v := .ref (He.ga X.K x)) rfl hd, fun σ' h σ H μ Q re rh p => p.ret rh (.gl x)⟩
/-- a global that is an int -/
theorem den_gint {x : Str} {i : Int} {pos : Pos} (hg : Gl X x) (hm : ∃ t, X.mg x = some (.int i t)) (hd : (x == ("__debug__" : Str)) = false) : Den X W (.Name x pos) (evC (.d (.int i))) := by
  obtain ⟨t, hm⟩ := hm
  exact ⟨_, pe_glob hg hm (v := .int i) ⟨t, rfl⟩ hd, fun σ' h σ H μ Q re rh p => p.ret rh (.d (.int i))⟩
/-- a global that is a written tuple -/
theorem den_gtup {x : Str} {ds : List D} {pos : Pos} (hg : Gl X x) (hm : X.mg x = some (.ref (He.ga X.K x))) (ht : ∃ vs, KTup X.K (He.ga X.K x) vs ∧ ∀ H μ, RDs X.K H μ ds vs) (hd : (x == ("__debug__" : Str)) = false) : Den X W (.Name x pos) (evC (.d (.tuple ds))) := by
  obtain ⟨vs, h1, h2⟩ := ht
  exact ⟨_, pe_glob hg hm (v := .ref (He.ga X.K x)) rfl hd, fun σ' h σ H μ Q re rh p => p.ret rh (.d (.tup (.inr h1) (h2 H μ)))⟩
/-- a built-in type's name as a value -/
theorem den_ty {x : Str} {n : String} {pos : Pos} (hg : Gl X x) (hm : X.mg x = none) (hv : bootBuiltins x = some (.type n)) (hn : x ≠ "__name__") (hd : (x == ("__debug__" : Str)) = false) : Den X W (.Name x pos) (evC (.ty n)) :=
  ⟨_, pe_bltn hg hm hv (v := .ty n) rfl hn hd, fun σ' h σ H μ Q re rh p => p.ret rh (.ty n)⟩

/-! ### two in a row -/
def ev2 (fa fb : En → List O → R U) (g : U → U → List O → R U) : En → List O → R U := fun σ h => (fa σ h).bind fun a h1 => (fb σ h1).bind fun b h2 => g a b h2
def ev1 (fa : En → List O → R U) (g : U → List O → R U) : En → List O → R U := fun σ h => (fa σ h).bind fun a h1 => g a h1
/-- a rule for an operation on values says what g says -/
def OpD (X : Cx) (W : WX) (r : R2) (g : U → U → List O → R U) : Prop :=
  ∀ a b h σ H μ x y Q, Rh X.K H μ h → RU X.K H μ a x → RU X.K H μ b y → Post X.K W σ H μ (RU X.K) (g a b h) Q → r x y H Q
theorem two {ta tb : TE} {fa fb : En → List O → R U} {g : U → U → List O → R U} {r : R2}
    (ha : ∀ σ' h σ H μ Q, RE X.K H μ σ' σ → Rh X.K H μ h → Post X.K W σ H μ (RU X.K) (fa σ' h) Q → ta σ H Q) (hb : ∀ σ' h σ H μ Q, RE X.K H μ σ' σ → Rh X.K H μ h → Post X.K W σ H μ (RU X.K) (fb σ' h) Q → tb σ H Q)
    (hg : OpD X W r g) : ∀ σ' h σ H μ Q, RE X.K H μ σ' σ → Rh X.K H μ h → Post X.K W σ H μ (RU X.K) (ev2 fa fb g σ' h) Q → tOp r ta tb σ H Q := by
  intro σ' h σ H μ Q re rh p
  refine ha σ' h σ H μ _ re rh (Post.bind p fun a h1 H1 μ1 x e1 rh1 ra p1 => ?_)
  refine hb σ' h1 σ H1 μ1 _ (re.ext e1) rh1 (Post.bind p1 fun b h2 H2 μ2 y e2 rh2 rb p2 => ?_)
  exact hg a b h2 σ H2 μ2 x y Q rh2 (ra.ext e2) rb p2
theorem den_op {op : Operator} {r : R2} {a b : Expr} {pos : Pos} {fa fb : En → List O → R U} {g : U → U → List O → R U} (ho : OpR X (binaryOp op) r) (hg : OpD X W r g) (ha : Den X W a fa) (hb : Den X W b fb) :
    Den X W (.BinOp a op b pos) (ev2 fa fb g) := by
  obtain ⟨ta, pa, ca⟩ := ha
  obtain ⟨tb, pb, cb⟩ := hb
  exact ⟨_, pe_op ho pa pb, two ca cb hg⟩
theorem den_cmp {op : CmpOp} {r : R2} {a b : Expr} {pos : Pos} {fa fb : En → List O → R U} {g : U → U → List O → R U} (ho : OpR X (compareOp op) r) (hg : OpD X W r g) (ha : Den X W a fa) (hb : Den X W b fb) (hm : behindInMarks op b = false) :
    Den X W (.Compare a [op] [b] pos) (ev2 fa fb g) := by
  obtain ⟨ta, pa, ca⟩ := ha
  obtain ⟨tb, pb, cb⟩ := hb
  exact ⟨_, pe_cmpR ho pa pb hm, two ca cb hg⟩
/-- what may be there or not -/
def opt {α : Type} (o : Option α) (h : List O) : R α := match o with
  | some a => .ok a h
  | none => .bad
@[simp] theorem opt_some {α : Type} (a : α) (h : List O) : opt (some a) h = .ok a h := rfl
@[simp] theorem opt_none {α : Type} (h : List O) : (opt none h : R α) = .bad := rfl
theorem Post.opt {α γ δ : Type} {K : PySem.W.Frag} {σ : L2.St} {H : Hp} {μ : List Addr} {Rel : Hp → List Addr → γ → δ → Prop} {o : Option α} {h : List O} {f : α → List O → R γ} {Q : δ → Hp → Prop}
    (p : Post K W σ H μ Rel ((opt o h).bind f) Q) : ∃ a, o = some a ∧ Post K W σ H μ Rel (f a h) Q := by
  cases o with
  | none => exact p.elim
  | some a => exact ⟨a, rfl, p⟩
theorem Post.opt1 {α β : Type} {K : PySem.W.Frag} {σ : L2.St} {H : Hp} {μ : List Addr} {Rel : Hp → List Addr → α → β → Prop} {o : Option α} {h : List O} {Q : β → Hp → Prop}
    (p : Post K W σ H μ Rel (Py.opt o h) Q) : ∃ a, o = some a ∧ Post K W σ H μ Rel (.ok a h) Q := by
  cases o with
  | none => exact p.elim
  | some a => exact ⟨a, rfl, p⟩
/-- a truth told -/
def asBo : U → Option Bool
  | .d (.bool b) => some b
  | _ => none
def asB (u : U) (h : List O) : R Bool := opt (asBo u) h
def evB (f : En → List O → R U) : En → List O → R Bool := fun σ h => (f σ h).bind asB
theorem asBo_of {K : PySem.W.Frag} {H : Hp} {μ : List Addr} {u : U} {x : V} {k : Bool} (r : RU K H μ u x) (e : asBo u = some k) : x = .bl k := by
  cases r with
  | d r => cases r <;> cases e; rfl
  | _ => cases e
theorem asB_of {K : PySem.W.Frag} {σ : L2.St} {H : Hp} {μ : List Addr} {u : U} {h : List O} {x : V} {Q : Bool → Hp → Prop} (rh : Rh K H μ h) (r : RU K H μ u x) (p : Post K W σ H μ relB (asB u h) Q) : ∃ k, x = .bl k ∧ Q k H := by
  obtain ⟨k, e, p⟩ := Post.opt1 p
  exact ⟨k, asBo_of r e, p.ret rh rfl⟩
theorem dent_cmp {op : CmpOp} {r : R2} {a b : Expr} {pos : Pos} {fa fb : En → List O → R U} {g : U → U → List O → R U} (ho : OpR X (compareOp op) r) (hg : OpD X W r g) (ha : Den X W a fa) (hb : Den X W b fb) (hm : behindInMarks op b = false) :
    DenT X W (.Compare a [op] [b] pos) (evB (ev2 fa fb g)) := by
  obtain ⟨ta, pa, ca⟩ := ha
  obtain ⟨tb, pb, cb⟩ := hb
  refine ⟨_, pt_cmpR ho pa pb hm, fun σ' h σ H μ Q re rh p => ?_⟩
  exact two ca cb hg σ' h σ H μ _ re rh (Post.bind p fun u h1 H1 μ1 x e1 rh1 ru p1 => asB_of rh1 ru p1)
/-! ### chains -/
def evCh (fa fb fc : En → List O → R U) (g g' : U → U → List O → R U) : En → List O → R U := fun σ h => (fa σ h).bind fun a h1 => (fb σ h1).bind fun b h2 => (g a b h2).bind fun z h3 => (asB z h3).bind fun k h4 =>
  if k = true then (fc σ h4).bind fun c h5 => g' b c h5 else .ok (.d (.bool false)) h4
theorem chain {r r' : R2} {ta tb tc : TE} {fa fb fc : En → List O → R U} {g g' : U → U → List O → R U}
    (ca : ∀ σ' h σ H μ Q, RE X.K H μ σ' σ → Rh X.K H μ h → Post X.K W σ H μ (RU X.K) (fa σ' h) Q → ta σ H Q) (cb : ∀ σ' h σ H μ Q, RE X.K H μ σ' σ → Rh X.K H μ h → Post X.K W σ H μ (RU X.K) (fb σ' h) Q → tb σ H Q)
    (cc : ∀ σ' h σ H μ Q, RE X.K H μ σ' σ → Rh X.K H μ h → Post X.K W σ H μ (RU X.K) (fc σ' h) Q → tc σ H Q) (hg : OpD X W r g) (hg' : OpD X W r' g') :
    ∀ σ' h σ H μ Q, RE X.K H μ σ' σ → Rh X.K H μ h → Post X.K W σ H μ (RU X.K) (evCh fa fb fc g g' σ' h) Q → tChain r r' ta tb tc σ H Q := by
  intro σ' h σ H μ Q re rh p
  refine ca σ' h σ H μ _ re rh (Post.bind p fun a h1 H1 μ1 x e1 rh1 ra p1 => ?_)
  refine cb σ' h1 σ H1 μ1 _ (re.ext e1) rh1 (Post.bind p1 fun b h2 H2 μ2 y e2 rh2 rb p2 => ?_)
  refine hg a b h2 σ H2 μ2 x y _ rh2 (ra.ext e2) rb (Post.bind p2 fun z h3 H3 μ3 zv e3 rh3 rz p3 => ?_)
  obtain ⟨k, ek, p4⟩ := Post.opt p3
  refine ⟨k, asBo_of rz ek, ?_⟩
  cases k with
  | true =>
    rw [if_pos rfl] at p4 ⊢
    refine cc σ' h3 σ H3 μ3 _ (re.ext (e1.trans (e2.trans e3))) rh3 (Post.bind p4 fun c h5 H5 μ5 w e5 rh5 rc p5 => ?_)
    exact hg' b c h5 σ H5 μ5 y w Q rh5 (rb.ext (e3.trans e5)) rc p5
  | false =>
    rw [if_neg Bool.false_ne_true] at p4 ⊢
    exact p4.ret rh3 (.d (.bl false))
theorem den_chain {op op' : CmpOp} {r r' : R2} {a b c : Expr} {pos : Pos} {fa fb fc : En → List O → R U} {g g' : U → U → List O → R U} (ho : OpR X (compareOp op) r) (ho' : OpR X (compareOp op') r') (hg : OpD X W r g) (hg' : OpD X W r' g')
    (ha : Den X W a fa) (hb : Den X W b fb) (hc : Den X W c fc) (hm : lastMarks [op, op'] [b, c] = false) : Den X W (.Compare a [op, op'] [b, c] pos) (evCh fa fb fc g g') := by
  obtain ⟨ta, pa, ca⟩ := ha
  obtain ⟨tb, pb, cb⟩ := hb
  obtain ⟨tc, pc, cc⟩ := hc
  exact ⟨_, pe_chain ho ho' pa pb pc hm, chain ca cb cc hg hg'⟩
theorem dent_chain {op op' : CmpOp} {r r' : R2} {a b c : Expr} {pos : Pos} {fa fb fc : En → List O → R U} {g g' : U → U → List O → R U} (ho : OpR X (compareOp op) r) (ho' : OpR X (compareOp op') r') (hg : OpD X W r g) (hg' : OpD X W r' g')
    (ha : Den X W a fa) (hb : Den X W b fb) (hc : Den X W c fc) (hm : lastMarks [op, op'] [b, c] = false) : DenT X W (.Compare a [op, op'] [b, c] pos) (evB (evCh fa fb fc g g')) := by
  obtain ⟨ta, pa, ca⟩ := ha
  obtain ⟨tb, pb, cb⟩ := hb
  obtain ⟨tc, pc, cc⟩ := hc
  refine ⟨_, pt_chain ho ho' pa pb pc hm, fun σ' h σ H μ Q re rh p => ?_⟩
  exact chain ca cb cc hg hg' σ' h σ H μ _ re rh (Post.bind p fun u h1 H1 μ1 x e1 rh1 ru p1 => asB_of rh1 ru p1)
/-! ### truth -/
def truD : D → Option Bool
  | .none => some false
  | .bool b => some b
  | .int i => some (i != 0)
  | .str s => if s.length ≤ 1000 then some ((s.length : Int) != 0) else none
  | .tuple xs => some (!xs.isEmpty)
  | .list xs => some (!xs.isEmpty)
  | .dict xs => some (!xs.isEmpty)
def truO : O → Bool
  | .lst xs => !xs.isEmpty
  | .mix xs => !xs.isEmpty
  | .dct xs => !xs.isEmpty
def truU (u : U) (h : List O) : Option Bool := match u with
  | .d d => truD d
  | .lab n => h[n]?.map truO
  | .scr xs => some (!xs.isEmpty)
  | _ => none
def tru (u : U) (h : List O) : R Bool := opt (truU u h) h
theorem RDs.isEmpty {K : PySem.W.Frag} {H : Hp} {μ : List Addr} {ds : List D} {vs : List V} (h : RDs K H μ ds vs) : ds.isEmpty = vs.isEmpty := by cases h <;> rfl
theorem RUs.isEmpty {K : PySem.W.Frag} {H : Hp} {μ : List Addr} {ds : List U} {vs : List V} (h : RUs K H μ ds vs) : ds.isEmpty = vs.isEmpty := by cases h <;> rfl
theorem RKs.isEmpty {K : PySem.W.Frag} {H : Hp} {μ : List Addr} {ds : List (Key × D)} {vs : List (Key × V)} (h : RKs K H μ ds vs) : ds.isEmpty = vs.isEmpty := by cases h <;> rfl
theorem le_line {n : Nat} (h : n ≤ 1000) : n ≤ sizeLine := Nat.le_of_lt (small1000 h)
theorem truD_ok {K : PySem.W.Frag} {H : Hp} {μ : List Addr} {d : D} {x : V} {k : Bool} (r : RD K H μ d x) (e : truD d = some k) : TruV K x H k := by
  cases r with
  | non => cases e; exact rfl
  | bl b => cases e; exact rfl
  | int i => cases e; exact rfl
  | str s _ =>
    have e' : (if s.length ≤ 1000 then some ((s.length : Int) != 0) else none) = some k := e
    by_cases hs : s.length ≤ 1000
    · rw [if_pos hs] at e'
      cases e'
      exact ⟨le_line hs, rfl⟩
    · rw [if_neg hs] at e'
      cases e'
  | tup h r => cases e; exact .inr (.inl ⟨_, h.sq, by rw [r.isEmpty]⟩)
  | lst h n r => cases e; exact .inl ⟨_, SqL.of h, by rw [r.isEmpty]⟩
theorem truU_ok {K : PySem.W.Frag} {H : Hp} {μ : List Addr} {u : U} {h : List O} {x : V} {k : Bool} (rh : Rh K H μ h) (r : RU K H μ u x) (e : truU u h = some k) : TruV K x H k := by
  cases r with
  | d r => exact truD_ok r e
  | @scr a ns h => cases e; exact .inl ⟨_, h.sq, by cases ns <;> rfl⟩
  | ty n => cases e
  | gl x => cases e
  | @lab n a r =>
    have e' : h[n]?.map truO = some k := e
    cases q : h[n]? with
    | none => rw [q] at e'; cases e'
    | some o =>
      rw [q] at e'
      cases e'
      obtain ⟨ho, h1, h2⟩ := rh.obj n o a q r
      cases h2 with
      | lst z => exact .inl ⟨_, SqL.of h1, by show (!List.isEmpty _) = _; rw [z.isEmpty]⟩
      | mix z _ => exact .inl ⟨_, SqL.of h1, by show (!List.isEmpty _) = _; rw [z.isEmpty]⟩
      | dct z => exact .inr (.inr ⟨_, h1, by show (!List.isEmpty _) = _; rw [z.isEmpty]⟩)
def evT (f : En → List O → R U) : En → List O → R Bool := fun σ h => (f σ h).bind tru
theorem dent_truth {a : Expr} {fa : En → List O → R U} (ha : Den X W a fa) (he : ∀ whole, isTrue a X.env whole = (do let v ← whole; standAt a.pos; holding [v] (truthy v))) : DenT X W a (evT fa) := by
  obtain ⟨ta, pa, ca⟩ := ha
  refine ⟨_, pt_truth pa he, fun σ' h σ H μ Q re rh p => ?_⟩
  refine ca σ' h σ H μ _ re rh (Post.bind p fun u h1 H1 μ1 x e1 rh1 ru p1 => ?_)
  obtain ⟨k, ek, p2⟩ := Post.opt1 p1
  exact ⟨k, truU_ok rh1 ru ek, p2.ret rh1 rfl⟩
/-! ### and, or, not -/
def tAndE (f g : En → List O → R Bool) : En → List O → R Bool := fun σ h => (f σ h).bind fun c h1 => if c = true then g σ h1 else .ok false h1
def tOrE (f g : En → List O → R Bool) : En → List O → R Bool := fun σ h => (f σ h).bind fun c h1 => if c = true then .ok true h1 else g σ h1
def tNotE (f : En → List O → R Bool) : En → List O → R Bool := fun σ h => (f σ h).bind fun c h1 => .ok (!c) h1
/-- a chain of and, or as a test -/
def DenW (X : Cx) (W : WX) (e : Expr) (f : En → List O → R Bool) : Prop :=
  ∃ t, PW X e t ∧ ∀ σ' h σ H μ Q, RE X.K H μ σ' σ → Rh X.K H μ h → Post X.K W σ H μ relB (f σ' h) Q → t σ H Q
theorem DenW.t {e : Expr} {f : En → List O → R Bool} (h : DenW X W e f) : DenT X W e f := let ⟨t, p, c⟩ := h; ⟨t, p.pt, c⟩
theorem denw_and1 {a : Expr} {pos : Pos} {fa : En → List O → R Bool} (ha : DenT X W a fa) : DenW X W (.BoolOp .And [a] pos) fa := let ⟨t, p, c⟩ := ha; ⟨t, pw_and1 p, c⟩
theorem denw_or1 {a : Expr} {pos : Pos} {fa : En → List O → R Bool} (ha : DenT X W a fa) : DenW X W (.BoolOp .Or [a] pos) fa := let ⟨t, p, c⟩ := ha; ⟨t, pw_or1 p, c⟩
theorem denw_and {a b : Expr} {rest : List Expr} {pos : Pos} {fa fb : En → List O → R Bool} (ha : DenT X W a fa) (hb : DenW X W (.BoolOp .And (b :: rest) pos) fb) : DenW X W (.BoolOp .And (a :: b :: rest) pos) (tAndE fa fb) := by
  obtain ⟨ta, pa, ca⟩ := ha
  obtain ⟨tb, pb, cb⟩ := hb
  refine ⟨_, pw_and pa pb, fun σ' h σ H μ Q re rh p => ?_⟩
  refine ca σ' h σ H μ _ re rh (Post.bind p fun c h1 H1 μ1 k e1 rh1 rc p1 => ?_)
  cases rc
  cases c with
  | true => rw [if_pos rfl] at p1 ⊢; exact cb σ' h1 σ H1 μ1 _ (re.ext e1) rh1 p1
  | false => rw [if_neg Bool.false_ne_true] at p1 ⊢; exact p1.ret rh1 rfl
theorem denw_or {a b : Expr} {rest : List Expr} {pos : Pos} {fa fb : En → List O → R Bool} (ha : DenT X W a fa) (hb : DenW X W (.BoolOp .Or (b :: rest) pos) fb) : DenW X W (.BoolOp .Or (a :: b :: rest) pos) (tOrE fa fb) := by
  obtain ⟨ta, pa, ca⟩ := ha
  obtain ⟨tb, pb, cb⟩ := hb
  refine ⟨_, pw_or pa pb, fun σ' h σ H μ Q re rh p => ?_⟩
  refine ca σ' h σ H μ _ re rh (Post.bind p fun c h1 H1 μ1 k e1 rh1 rc p1 => ?_)
  cases rc
  cases c with
  | true => rw [if_pos rfl] at p1 ⊢; exact p1.ret rh1 rfl
  | false => rw [if_neg Bool.false_ne_true] at p1 ⊢; exact cb σ' h1 σ H1 μ1 _ (re.ext e1) rh1 p1
theorem dent_not {a : Expr} {pos : Pos} {fa : En → List O → R Bool} (ha : DenT X W a fa) : DenT X W (.UnaryOp .Not a pos) (tNotE fa) := by
  obtain ⟨ta, pa, ca⟩ := ha
  refine ⟨_, pt_not pa, fun σ' h σ H μ Q re rh p => ?_⟩
  refine ca σ' h σ H μ _ re rh (Post.bind p fun c h1 H1 μ1 k e1 rh1 rc p1 => ?_)
  cases rc
  exact p1.ret rh1 rfl
def vAnd (f g : En → List O → R U) : En → List O → R U := fun σ h => (f σ h).bind fun u h1 => (tru u h1).bind fun c h2 => if c = true then g σ h2 else .ok u h2
def vOr (f g : En → List O → R U) : En → List O → R U := fun σ h => (f σ h).bind fun u h1 => (tru u h1).bind fun c h2 => if c = true then .ok u h2 else g σ h2
def vNot (f : En → List O → R U) : En → List O → R U := fun σ h => (f σ h).bind fun u h1 => (tru u h1).bind fun c h2 => .ok (.d (.bool (!c))) h2
theorem den_and {a b : Expr} {rest : List Expr} {pos : Pos} {fa fb : En → List O → R U} (ha : Den X W a fa) (hb : Den X W (.BoolOp .And (b :: rest) pos) fb) : Den X W (.BoolOp .And (a :: b :: rest) pos) (vAnd fa fb) := by
  obtain ⟨ta, pa, ca⟩ := ha
  obtain ⟨tb, pb, cb⟩ := hb
  refine ⟨_, pe_andT pa pb, fun σ' h σ H μ Q re rh p => ?_⟩
  refine ca σ' h σ H μ _ re rh (Post.bind p fun u h1 H1 μ1 x e1 rh1 ru p1 => ?_)
  obtain ⟨k, ek, p2⟩ := Post.opt p1
  refine ⟨k, truU_ok rh1 ru ek, ?_⟩
  cases k with
  | true => rw [if_pos rfl] at p2 ⊢; exact cb σ' h1 σ H1 μ1 _ (re.ext e1) rh1 p2
  | false => rw [if_neg Bool.false_ne_true] at p2 ⊢; exact p2.ret rh1 ru
theorem den_or {a b : Expr} {rest : List Expr} {pos : Pos} {fa fb : En → List O → R U} (ha : Den X W a fa) (hb : Den X W (.BoolOp .Or (b :: rest) pos) fb) : Den X W (.BoolOp .Or (a :: b :: rest) pos) (vOr fa fb) := by
  obtain ⟨ta, pa, ca⟩ := ha
  obtain ⟨tb, pb, cb⟩ := hb
  refine ⟨_, pe_orT pa pb, fun σ' h σ H μ Q re rh p => ?_⟩
  refine ca σ' h σ H μ _ re rh (Post.bind p fun u h1 H1 μ1 x e1 rh1 ru p1 => ?_)
  obtain ⟨k, ek, p2⟩ := Post.opt p1
  refine ⟨k, truU_ok rh1 ru ek, ?_⟩
  cases k with
  | true => rw [if_pos rfl] at p2 ⊢; exact p2.ret rh1 ru
  | false => rw [if_neg Bool.false_ne_true] at p2 ⊢; exact cb σ' h1 σ H1 μ1 _ (re.ext e1) rh1 p2
theorem den_one {op} {a : Expr} {pos : Pos} {fa : En → List O → R U} (ha : Den X W a fa) : Den X W (.BoolOp op [a] pos) fa := let ⟨t, p, c⟩ := ha; ⟨t, pe_one p, c⟩
theorem den_not {a : Expr} {pos : Pos} {fa : En → List O → R U} (ha : Den X W a fa) : Den X W (.UnaryOp .Not a pos) (vNot fa) := by
  obtain ⟨ta, pa, ca⟩ := ha
  refine ⟨_, pe_notT pa, fun σ' h σ H μ Q re rh p => ?_⟩
  refine ca σ' h σ H μ _ re rh (Post.bind p fun u h1 H1 μ1 x e1 rh1 ru p1 => ?_)
  obtain ⟨k, ek, p2⟩ := Post.opt p1
  exact ⟨k, truU_ok rh1 ru ek, p2.ret rh1 (.d (.bl _))⟩
/-- a if t else b -/
def evIf (t : En → List O → R Bool) (f g : En → List O → R U) : En → List O → R U := fun σ h => (t σ h).bind fun c h1 => if c = true then f σ h1 else g σ h1
theorem den_if {c a b : Expr} {pos : Pos} {ft : En → List O → R Bool} {fa fb : En → List O → R U} (hc : DenT X W c ft) (ha : Den X W a fa) (hb : Den X W b fb) : Den X W (.IfExp c a b pos) (evIf ft fa fb) := by
  obtain ⟨tc, pc, cc⟩ := hc
  obtain ⟨ta, pa, ca⟩ := ha
  obtain ⟨tb, pb, cb⟩ := hb
  refine ⟨_, pe_ifExp pc pa pb, fun σ' h σ H μ Q re rh p => ?_⟩
  refine cc σ' h σ H μ _ re rh (Post.bind p fun c h1 H1 μ1 k e1 rh1 rc p1 => ?_)
  cases rc
  cases c with
  | true => rw [if_pos rfl] at p1 ⊢; exact ca σ' h1 σ H1 μ1 _ (re.ext e1) rh1 p1
  | false => rw [if_neg Bool.false_ne_true] at p1 ⊢; exact cb σ' h1 σ H1 μ1 _ (re.ext e1) rh1 p1
/-! ### arguments, displays -/
def evNil : En → List O → R (List U) := fun _ h => .ok [] h
def evCons (f : En → List O → R U) (g : En → List O → R (List U)) : En → List O → R (List U) := fun σ h => (f σ h).bind fun u h1 => (g σ h1).bind fun us h2 => .ok (u :: us) h2
theorem dena_nil : DenA X W [] evNil := ⟨_, pa_nil, fun σ' h σ H μ Q re rh p => p.ret rh .nil⟩
theorem dena_cons {e : Expr} {es : List Expr} {f : En → List O → R U} {g : En → List O → R (List U)} (hf : Den X W e f) (hg : DenA X W es g) (hs : starEach (e :: es) X.env = (false, eval e X.env) :: starEach es X.env) : DenA X W (e :: es) (evCons f g) := by
  obtain ⟨ta, pa, ca⟩ := hf
  obtain ⟨tb, pb, cb⟩ := hg
  refine ⟨_, pa_cons pa pb hs, fun σ' h σ H μ Q re rh p => ?_⟩
  refine ca σ' h σ H μ _ re rh (Post.bind p fun u h1 H1 μ1 x e1 rh1 ru p1 => ?_)
  refine cb σ' h1 σ H1 μ1 _ (re.ext e1) rh1 (Post.bind p1 fun us h2 H2 μ2 xs e2 rh2 rus p2 => ?_)
  exact p2.ret rh2 (.cons (ru.ext e2) rus)
/-- a new pure list, or one that may change -/
def mkL (m : Bool) (xs : List D) (h : List O) : R U := if m = true then .ok (.lab h.length) (h ++ [.lst xs]) else .ok (.d (.list xs)) h
theorem mkL_of {K : PySem.W.Frag} {σ : L2.St} {H : Hp} {μ : List Addr} {m : Bool} {xs : List D} {vs : List V} {h : List O} {Q : VK} (rh : Rh K H μ h) (r : RDs K H μ xs vs) (p : Post K W σ H μ (RU K) (mkL m xs h) Q) :
    ∀ l, H l = none → Q (.ref l) (upd H l (.lst vs)) := by
  intro l hl
  unfold mkL at p
  cases m with
  | true =>
    rw [if_pos rfl] at p
    exact p _ _ _ (Ext.lab hl) (rh.lab hl (.lst r)) (.lab (by rw [rh.len]; simp))
  | false =>
    rw [if_neg Bool.false_ne_true] at p
    exact p _ _ _ (Ext.new hl) (rh.new hl) (.d (.lst upd_same (rh.notin hl) (r.ext (Ext.new hl))))
theorem tup_of {K : PySem.W.Frag} {σ : L2.St} {H : Hp} {μ : List Addr} {xs : List D} {vs : List V} {h : List O} {Q : VK} (rh : Rh K H μ h) (r : RDs K H μ xs vs) (p : Post K W σ H μ (RU K) (.ok (.d (.tuple xs)) h) Q) :
    ∀ l, H l = none → Q (.ref l) (upd H l (.tup vs)) := by
  intro l hl
  exact p _ _ _ (Ext.new hl) (rh.new hl) (.d (.tup (.inl ⟨upd_same, rh.notin hl⟩) (r.ext (Ext.new hl))))
def evTup (f : En → List O → R (List U)) : En → List O → R U := fun σ h => (f σ h).bind fun us h1 => (opt (pures us) h1).bind fun ds h2 => if ds.length ≤ 1000 then .ok (.d (.tuple ds)) h2 else .bad
theorem den_tup {es : List Expr} {k : Nat} {pos : Pos} {f : En → List O → R (List U)} (hf : DenA X W es f) : Den X W (.Tuple es k pos) (evTup f) := by
  obtain ⟨ta, pa, ca⟩ := hf
  refine ⟨_, pe_tup pa, fun σ' h σ H μ Q re rh p => ?_⟩
  refine ca σ' h σ H μ _ re rh (Post.bind p fun us h1 H1 μ1 xs e1 rh1 ru p1 => ?_)
  obtain ⟨ds, ed, p2⟩ := Post.opt p1
  have rd := pures_rel ru ed
  by_cases hl : ds.length ≤ 1000
  · rw [if_pos hl] at p2
    exact ⟨by rw [← rd.length]; exact le_line hl, tup_of rh1 rd p2⟩
  · rw [if_neg hl] at p2
    exact p2.elim
def mkM (us : List U) (h : List O) : R U := if ∀ u ∈ us, u.below h.length then .ok (.lab h.length) (h ++ [.mix us]) else .bad
def evLst (m : Bool) (f : En → List O → R (List U)) : En → List O → R U := fun σ h => (f σ h).bind fun us h1 => if us.length ≤ 1000 then (match pures us with
  | some ds => mkL m ds h1
  | none => if m = true then mkM us h1 else .bad) else .bad
theorem den_lst {m : Bool} {es : List Expr} {pos : Pos} {f : En → List O → R (List U)} (hf : DenA X W es f) : Den X W (.List es pos) (evLst m f) := by
  obtain ⟨ta, pa, ca⟩ := hf
  refine ⟨_, pe_lst pa, fun σ' h σ H μ Q re rh p => ?_⟩
  refine ca σ' h σ H μ _ re rh (Post.bind p fun us h1 H1 μ1 xs e1 rh1 ru p1 => ?_)
  by_cases hl : us.length ≤ 1000
  · rw [if_pos hl] at p1
    refine ⟨by rw [← ru.length]; exact le_line hl, ?_⟩
    cases ed : pures us with
    | some ds =>
      simp only [ed] at p1
      exact mkL_of rh1 (pures_rel ru ed) p1
    | none =>
      simp only [ed] at p1
      cases m with
      | false => rw [if_neg Bool.false_ne_true] at p1; exact p1.elim
      | true =>
        rw [if_pos rfl] at p1
        unfold mkM at p1
        by_cases hb : ∀ u ∈ us, u.below h1.length
        · rw [if_pos hb] at p1
          exact fun l hl' => p1 _ _ _ (Ext.lab hl') (rh1.lab hl' (.mix ru hb)) (.lab (by rw [rh1.len]; simp))
        · rw [if_neg hb] at p1
          exact p1.elim
  · rw [if_neg hl] at p1
    exact p1.elim
end
end Py

namespace Py
open PySem PySem.Spec PyProof.Rows L2
theorem line_eq : sizeLine = 16777216 := sizeLine_eq
section
variable {K : PySem.W.Frag} {H : Hp} {μ : List Addr} {h : List O} {x y : V}
theorem RU.int_inv {i : Int} (r : RU K H μ (.d (.int i)) x) : x = .int i := by cases r with | d r => cases r; rfl
theorem RU.str_inv {i : Str} (r : RU K H μ (.d (.str i)) x) : x = .str i := by cases r with | d r => cases r; rfl
theorem RU.tup_inv {xs : List D} (r : RU K H μ (.d (.tuple xs)) x) : ∃ a vs, x = .ref a ∧ TupAt K H μ a vs ∧ RDs K H μ xs vs := by
  cases r with
  | d r => cases r with | tup h q => exact ⟨_, _, rfl, h, q⟩
theorem RU.lst_inv {xs : List D} (r : RU K H μ (.d (.list xs)) x) : ∃ a vs, x = .ref a ∧ H a = some (.lst vs) ∧ a ∉ μ ∧ RDs K H μ xs vs := by
  cases r with
  | d r => cases r with | lst h n q => exact ⟨_, _, rfl, h, n, q⟩
/-- a list, pure or one that may change -/
def listOf (u : U) (h : List O) : Option (List D) := match u with
  | .d (.list xs) => some xs
  | .lab n => (match h[n]? with
    | some (.lst xs) => some xs
    | _ => none)
  | _ => none
theorem listOf_of {u : U} {xs : List D} (rh : Rh K H μ h) (r : RU K H μ u x) (e : listOf u h = some xs) : ∃ a vs, x = .ref a ∧ H a = some (.lst vs) ∧ RDs K H μ xs vs := by
  cases r with
  | d r =>
    cases r with
    | lst h1 n q => cases e; exact ⟨_, _, rfl, h1, q⟩
    | _ => cases e
  | @lab n a r =>
    have e' : (match h[n]? with | some (.lst xs) => some xs | _ => none) = some xs := e
    cases q : h[n]? with
    | none => rw [q] at e'; cases e'
    | some o =>
      rw [q] at e'
      cases o with
      | lst ys =>
        cases e'
        obtain ⟨ho, h1, h2⟩ := rh.obj n _ a q r
        cases h2 with
        | lst h2 => exact ⟨_, _, rfl, h1, h2⟩
      | mix ys => cases e'
      | dct ys => cases e'
  | _ => cases e
/-- a list or tuple -/
def seqOf (u : U) (h : List O) : Option (List D) := match u with
  | .d (.tuple xs) => some xs
  | .scr xs => some (xs.map .int)
  | u => listOf u h
theorem RDs_ints : ∀ ns : List Int, RDs K H μ (ns.map .int) (ns.map V.int)
  | [] => .nil
  | n :: ns => .cons (.int n) (RDs_ints ns)
theorem seqOf_of {u : U} {xs : List D} (rh : Rh K H μ h) (r : RU K H μ u x) (e : seqOf u h = some xs) : ∃ a vs, x = .ref a ∧ (SqL K H a vs ∨ SqT K H a vs) ∧ RDs K H μ xs vs := by
  cases r with
  | d r =>
    cases r with
    | lst h1 n q => cases e; exact ⟨_, _, rfl, .inl (SqL.of h1), q⟩
    | tup h1 q => cases e; exact ⟨_, _, rfl, .inr h1.sq, q⟩
    | _ => cases e
  | @lab n a r =>
    obtain ⟨a', vs, e1, h1, q⟩ := listOf_of rh (.lab r) (show listOf (.lab n) h = some xs from e)
    exact ⟨a', vs, e1, .inl (SqL.of h1), q⟩
  | scr h1 => cases e; exact ⟨_, _, rfl, .inl h1.sq, RDs_ints _⟩
  | _ => cases e
end
/-! ### + -/
def addD : D → D → Option D
  | .int i, .int j => some (.int (i + j))
  | .str s, .str t => if s.length + t.length ≤ 10000000 ∧ PyData.strOk (s ++ t) = true then some (.str (s ++ t)) else none
  | .tuple xs, .tuple ys => if xs.length + ys.length ≤ 10000000 then some (.tuple (xs ++ ys)) else none
  | _, _ => none
def addU (m : Bool) (a b : U) (h : List O) : R U := match listOf a h, listOf b h with
  | some xs, some ys => if xs.length + ys.length ≤ 10000000 then mkL m (xs ++ ys) h else .bad
  | _, _ => (match a, b with
    | .d x, .d y => (opt (addD x y) h).bind fun z h => .ok (.d z) h
    | _, _ => .bad)
def rAddA (K : PySem.W.Frag) : R2 := fun x y H Q => rI0 (fun i j => .int (i + j)) x y H Q ∨ ((∃ i j, x = .str i ∧ y = .str j ∧ i.length + j.length ≤ sizeLine ∧ Q (.str (i ++ j)) H) ∨ (rCatA K x y H Q ∨ rCat x y H Q))
theorem op_addA {X : Cx} : OpR X (binaryOp .Add) (rAddA X.K) := OpR.or op_add (OpR.or op_add_str (OpR.or op_catA op_cat))
section
variable {X : Cx} {W : WX}
theorem addD_of {K : PySem.W.Frag} {σ : L2.St} {H : Hp} {μ : List Addr} {h : List O} {x y : V} {a b c : D} {Q : VK} (rh : Rh K H μ h) (ra : RD K H μ a x) (rb : RD K H μ b y) (e : addD a b = some c) (p : Post K W σ H μ (RU K) (.ok (.d c) h) Q) : rAddA K x y H Q := by
  cases ra with
  | int i =>
    cases rb with
    | int j => cases e; exact .inl ⟨i, j, rfl, rfl, p.ret rh (.d (.int _))⟩
    | _ => cases e
  | str i _ =>
    cases rb with
    | str j _ =>
      have e' : (if i.length + j.length ≤ 10000000 ∧ PyData.strOk (i ++ j) = true then some (PyData.str (i ++ j)) else none) = some c := e
      by_cases hl : i.length + j.length ≤ 10000000 ∧ PyData.strOk (i ++ j) = true
      · rw [if_pos hl] at e'
        cases e'
        exact .inr (.inl ⟨i, j, rfl, rfl, by rw [line_eq]; omega, p.ret rh (.d (.str _ hl.2))⟩)
      · rw [if_neg hl] at e'; cases e'
    | _ => cases e
  | @tup a vs xs h1 q1 =>
    cases rb with
    | @tup a2 ws ys h2 q2 =>
      have e' : (if xs.length + ys.length ≤ 10000000 then some (PyData.tuple (xs ++ ys)) else none) = some c := e
      by_cases hl : xs.length + ys.length ≤ 10000000
      · rw [if_pos hl] at e'
        cases e'
        refine .inr (.inr (.inl ⟨a, a2, vs, ws, rfl, rfl, h1.sq, h2.sq, by rw [← q1.length, ← q2.length, line_eq]; omega, fun z => ?_, fun z1 z2 => ?_, fun z1 z2 => ?_⟩))
        · subst z
          cases q1
          exact p.ret rh (.d (.tup h2 q2))
        · subst z2
          cases q2
          rw [List.append_nil] at p
          exact p.ret rh (.d (.tup h1 q1))
        · exact tup_of rh (q1.append q2) p
      · rw [if_neg hl] at e'; cases e'
    | _ => cases e
  | _ => cases e
theorem opd_add (m : Bool) : OpD X W (rAddA X.K) (addU m) := by
  intro a b h σ H μ x y Q rh ra rb p
  unfold addU at p
  have el : (∃ xs ys, listOf a h = some xs ∧ listOf b h = some ys) ∨ (∀ (α : Type) (f : List D → List D → α) (z : α), (match listOf a h, listOf b h with | some xs, some ys => f xs ys | _, _ => z) = z) := by
    cases listOf a h with
    | none => exact .inr fun _ _ _ => rfl
    | some xs =>
      cases listOf b h with
      | none => exact .inr fun _ _ _ => rfl
      | some ys => exact .inl ⟨xs, ys, rfl, rfl⟩
  rcases el with ⟨xs, ys, e1, e2⟩ | el
  · rw [e1, e2] at p
    have p' : Post X.K W σ H μ (RU X.K) (if xs.length + ys.length ≤ 10000000 then mkL m (xs ++ ys) h else .bad) Q := p
    by_cases hl : xs.length + ys.length ≤ 10000000
    · rw [if_pos hl] at p'
      obtain ⟨a1, vs, rfl, h1, q1⟩ := listOf_of rh ra e1
      obtain ⟨a2, ws, rfl, h2, q2⟩ := listOf_of rh rb e2
      exact .inr (.inr (.inr ⟨a1, a2, vs, ws, rfl, rfl, h1, h2, by rw [← q1.length, ← q2.length, line_eq]; omega, mkL_of rh (q1.append q2) p'⟩))
    · rw [if_neg hl] at p'; exact p'.elim
  · rw [el] at p
    cases ra with
    | d ra =>
      cases rb with
      | d rb =>
        obtain ⟨c, ec, p2⟩ := Post.opt p
        exact addD_of rh ra rb ec p2
      | _ => exact p.elim
    | _ => exact p.elim
/-! ### ints -/
/-- an operation on two ints -/
def intOp (g : Int → Int → Option Int) (a b : U) (h : List O) : R U := match a, b with
  | .d (.int i), .d (.int j) => (opt (g i j) h).bind fun k h => .ok (.d (.int k)) h
  | _, _ => .bad
theorem int_cases {P : U → Prop} (u : U) : (∃ i, u = .d (.int i)) ∨ (∀ i, u ≠ .d (.int i)) := by
  by_cases h : ∃ i, u = .d (.int i)
  · exact .inl h
  · exact .inr fun i e => h ⟨i, e⟩
theorem opd_int {g : Int → Int → Option Int} {C : Int → Int → Prop} {k : Int → Int → Int} (hc : ∀ i j r, g i j = some r → C i j ∧ r = k i j) : OpD X W (rI C fun i j => .int (k i j)) (intOp g) := by
  intro a b h σ H μ x y Q rh ra rb p
  unfold intOp at p
  split at p
  · rename_i i j
    obtain ⟨r, e, p⟩ := Post.opt p
    obtain ⟨h1, rfl⟩ := hc i j r e
    exact ⟨i, j, ra.int_inv, rb.int_inv, h1, p.ret rh (.d (.int _))⟩
  · exact p.elim
def gSubI (i j : Int) : Option Int := some (i - j)
def rT : Int → Int → Prop := fun _ _ => True
theorem op_subA : OpR X (binaryOp .Sub) (rI rT fun i j => .int (i - j)) := opI fun _ _ _ _ _ _ _ _ q => sub_int q
theorem opd_sub : OpD X W (rI rT fun i j => .int (i - j)) (intOp gSubI) := opd_int fun i j r e => by cases e; exact ⟨trivial, rfl⟩
/-- // -/
def CDivA (_ j : Int) : Prop := j ≠ 0 ∧ j.natAbs.log2 < 9000
theorem op_fdivA : OpR X (binaryOp .FloorDiv) (rI CDivA fun i j => .int (i.fdiv j)) := opI fun _ _ _ _ _ _ _ hc q => floordiv_int hc.1 q (.inl (PyProof.noPylong_of_log2 hc.2))
def gFdiv (i j : Int) : Option Int := if j ≠ 0 ∧ j.natAbs < 2 ^ 1000 then some (i.fdiv j) else none
theorem opd_fdiv : OpD X W (rI CDivA fun i j => .int (i.fdiv j)) (intOp gFdiv) := opd_int fun i j r e => by
  unfold gFdiv at e
  split at e
  · rename_i hj
    cases e
    exact ⟨⟨hj.1, Nat.lt_of_lt_of_le (PySem.Flt.log2_lt_of (show 0 < 1000 by decide) hj.2) (show 1000 ≤ 9000 by decide)⟩, rfl⟩
  · cases e
/-- % -/
def gFmod (i j : Int) : Option Int := if j ≠ 0 then some (i.fmod j) else none
theorem opd_fmod : OpD X W (rI (fun _ j => j ≠ 0) fun i j => .int (i.fmod j)) (intOp gFmod) := opd_int fun i j r e => by
  unfold gFmod at e
  split at e
  · rename_i hj
    cases e
    exact ⟨hj, rfl⟩
  · cases e
def gPow (i j : Int) : Option Int := if 0 ≤ j ∧ j ≤ 1000 ∧ i.natAbs < 2 ^ 64 then some (i ^ j.toNat) else none
theorem opd_pow : OpD X W (rI CPow fun i j => .int (i ^ j.toNat)) (intOp gPow) := opd_int fun i j r e => by
  unfold gPow at e
  split at e
  · rename_i hj
    cases e
    exact ⟨⟨hj.1, by omega, hj.2.2⟩, rfl⟩
  · cases e
/-- << : shifts of great numbers are bounded, too -/
def gShl (i j : Int) : Option Int := if 0 ≤ j ∧ j ≤ 1000000 ∧ i.natAbs < 2 ^ 64 then some (i * 2 ^ j.toNat) else none
theorem opd_shl : OpD X W (rI CPow fun i j => .int (i * 2 ^ j.toNat)) (intOp gShl) := opd_int fun i j r e => by
  unfold gShl at e
  split at e
  · rename_i hj
    cases e
    exact ⟨⟨hj.1, hj.2.1, hj.2.2⟩, rfl⟩
  · cases e
def gShr (i j : Int) : Option Int := if 0 ≤ j then some (i / 2 ^ j.toNat) else none
theorem opd_shr : OpD X W (rI (fun _ j => 0 ≤ j) fun i j => .int (i / 2 ^ j.toNat)) (intOp gShr) := opd_int fun i j r e => by
  unfold gShr at e
  split at e
  · rename_i hj
    cases e
    exact ⟨hj, rfl⟩
  · cases e
def gAnd (i j : Int) : Option Int := some (Builtin.bitAnd i j)
theorem op_andA : OpR X (binaryOp .BitAnd) (rI rT fun i j => .int (Builtin.bitAnd i j)) := opI fun _ _ _ _ _ _ _ _ q => and_int q
theorem opd_and : OpD X W (rI rT fun i j => .int (Builtin.bitAnd i j)) (intOp gAnd) := opd_int fun i j r e => by cases e; exact ⟨trivial, rfl⟩
def gOr (i j : Int) : Option Int := some (Builtin.bitOr i j)
theorem op_orA : OpR X (binaryOp .BitOr) (rI rT fun i j => .int (Builtin.bitOr i j)) := opI fun _ _ _ _ _ _ _ _ q => or_int q
theorem opd_or : OpD X W (rI rT fun i j => .int (Builtin.bitOr i j)) (intOp gOr) := opd_int fun i j r e => by cases e; exact ⟨trivial, rfl⟩
/-! ### * -/
def mulOk (i j : Int) : Bool := decide (i.natAbs < 2 ^ 64) || decide (j.natAbs < 2 ^ 64) || (decide (i.natAbs < 2 ^ 100000) && decide (j.natAbs < 2 ^ 100000))
theorem mulOk_ok {i j : Int} (h : mulOk i j = true) : IntMulOk i j := by
  unfold mulOk at h
  rw [Bool.or_eq_true, Bool.or_eq_true, Bool.and_eq_true] at h
  rcases h with (h | h) | ⟨h1, h2⟩
  · have h := of_decide_eq_true h
    exact CMul.ok (.inl (by omega))
  · have h := of_decide_eq_true h
    exact CMul.ok (.inr (by omega))
  · exact (wide_mul (of_decide_eq_true h1) (of_decide_eq_true h2) (by decide) (by decide) (by decide)).ok
theorem op_mulI : OpR X (binaryOp .Mult) (rI (fun i j => mulOk i j = true) fun i j => .int (i * j)) := opI fun _ _ _ _ _ _ _ hc q => mul_int q (mulOk_ok hc)
/-- t * k, any t -/
def rRepTA (K : PySem.W.Frag) : R2 := fun x y H Q => ∃ l k xs, x = .ref l ∧ y = .int k ∧ SqT K H l xs ∧ xs ≠ [] ∧ 2 ≤ k ∧ k ≤ 1000 ∧ xs.length ≤ 1000 ∧ ∀ p, H p = none → Q (.ref p) (upd H p (.tup (List.replicate k.toNat xs).flatten))
theorem tuple_mulE (l : Addr) (items : Array Value) (n : Nat) (dd : Option Addr) (sl : Array (Option Value)) (x : Int) (u : Tok) (c0 : (decide (x < -(2 ^ 63)) || decide (x ≥ 2 ^ 63)) = false) (c1 : (items.isEmpty || x == 1) = true) :
    Meets (Builtin.«tuple.__mul__» ⟨[.ref l, .int x u], []⟩) (fun _ R s => s.heap.get? l = some { cls := .type "tuple", dict := dd, data := .seq items n, slots := sl } ∧ R (.ok (.ret (Value.ref l))) s) :=
  .of_wp fun prog w A R s h => by
    obtain ⟨hp, g, d, tk, os⟩ := s
    obtain ⟨hl, h⟩ := h
    have f1 := AutoSeq1.idx_int
    wp_walk using AutoSeq1.wpAny_loadPart' hl
    repeat (first
      | (refine wpAny_ite_false (decide_eq_false (by rw [c0]; exact Bool.false_ne_true)) ?_; wp_walk using AutoSeq1.wpAny_loadPart' hl)
      | (refine wpAny_ite_true (decide_eq_true (by rw [c1])) ?_; wp_walk using AutoSeq1.wpAny_loadPart' hl))
    exact ⟨_, rfl, h⟩
theorem tuple_mulZ (l : Addr) (items : Array Value) (n : Nat) (dd : Option Addr) (sl : Array (Option Value)) (x : Int) (u : Tok) (c0 : (decide (x < -(2 ^ 63)) || decide (x ≥ 2 ^ 63)) = false) (c1 : (items.isEmpty || x == 1) = false) (c2 : (decide (x ≤ 0) || items.isEmpty) = true) :
    Meets (Builtin.«tuple.__mul__» ⟨[.ref l, .int x u], []⟩) (fun _ R s => s.heap.get? l = some { cls := .type "tuple", dict := dd, data := .seq items n, slots := sl } ∧ R (.ok (.ret (Value.ref s.heap.objs.size))) { s with heap := s.heap.push { cls := Value.type "tuple", data := Data.seq #[] }, toks := s.toks }) :=
  .of_wp fun prog w A R s h => by
    obtain ⟨hp, g, d, tk, os⟩ := s
    obtain ⟨hl, h⟩ := h
    have f1 := AutoSeq1.idx_int
    wp_walk using AutoSeq1.wpAny_loadPart' hl
    repeat (first
      | (refine wpAny_ite_false (decide_eq_false (by rw [c0]; exact Bool.false_ne_true)) ?_; wp_walk using AutoSeq1.wpAny_loadPart' hl)
      | (refine wpAny_ite_false (decide_eq_false (by rw [c1]; exact Bool.false_ne_true)) ?_; wp_walk using AutoSeq1.wpAny_loadPart' hl)
      | (refine wpAny_ite_true (decide_eq_true (by rw [c2])) ?_; wp_walk using AutoSeq1.wpAny_loadPart' hl))
    exact ⟨_, rfl, h⟩
/-- t * k by whatever small k -/
def rRepZ (K : PySem.W.Frag) : R2 := fun x y H Q => ∃ l k xs, x = .ref l ∧ y = .int k ∧ SqT K H l xs ∧ -(2 ^ 63) ≤ k ∧ k < 2 ^ 63 ∧ ((xs = [] ∨ k = 1) → Q (.ref l) H) ∧ (xs ≠ [] → k ≤ 0 → ∀ p, H p = none → Q (.ref p) (upd H p (.tup []))) ∧
  (xs ≠ [] → 2 ≤ k → k ≤ 1000 ∧ xs.length ≤ 1000 ∧ ∀ p, H p = none → Q (.ref p) (upd H p (.tup (List.replicate k.toNat xs).flatten)))
theorem op_repZ : OpR X (binaryOp .Mult) (rRepZ X.K) := by
  intro pins s σ H x y v u Q I rx ry h
  obtain ⟨l, k, xs, rfl, rfl, hT, b1, b2, q1, q2, q3⟩ := h
  by_cases hx : xs ≠ [] ∧ 2 ≤ k
  · obtain ⟨z1, z2, z3⟩ := q3 hx.1 hx.2
    exact op_repT pins s σ H _ _ v u Q I rx ry ⟨l, k, xs, rfl, rfl, hT, hx.1, hx.2, z1, z2, z3⟩
  · cases rx
    obtain ⟨t, rfl⟩ := ry
    obtain ⟨its, r, ⟨⟨cls, dd, data, sl⟩, ho, hc, n, hd⟩, hs⟩ := I.tuple hT
    simp only at hc hd
    subst hc hd
    have hle : its.length = xs.length := r.length.symm
    have c0 : (decide (k < -(2 ^ 63)) || decide (k ≥ 2 ^ 63)) = false := by
      rw [decide_eq_false (by omega), decide_eq_false (by omega)] <;> rfl
    by_cases hq : xs = [] ∨ k = 1
    · have c1 : (its.toArray.isEmpty || k == 1) = true := by
        rcases hq with hq | hq
        · subst hq
          cases r
          rfl
        · subst hq
          simp
      exact wpAny_binaryOp_repeat_ref (T := "tuple") (U := "int") (by decide) ⟨_, ho, rfl⟩ (fun s' => typeIs_int s' k t) noFill_tuple_mul F.fills_int_mul F.slot_int_rmul repeat_tuple F.slot_int_index.lookup
        (call_meets F.slot_int_rmul (typeIs_int s k t) F.entry_int_rmul (F.args_int_rmul_2 _ _) (int_rmul_tuple k t l its.toArray n dd sl)
          ⟨ho, rfl, ⟨_, ho, rfl⟩, call_meets F.slot_tuple_mul ⟨_, ho, rfl⟩ F.entry_tuple_mul (F.args_tuple_mul_2 _ _) (tuple_mulE l its.toArray n dd sl k t c0 c1) ⟨ho, .ref l, H, I, rfl, q1 hq⟩⟩)
    · have hne : xs ≠ [] := fun z => hq (.inl z)
      have hk : k ≤ 0 := by
        have : k ≠ 1 := fun z => hq (.inr z)
        have : ¬ 2 ≤ k := fun z => hx ⟨hne, z⟩
        omega
      have hi : its.toArray.isEmpty = false := by
        cases its with
        | nil => exact absurd (List.eq_nil_of_length_eq_zero hle.symm) hne
        | cons a b => rfl
      have c1 : (its.toArray.isEmpty || k == 1) = false := by
        rw [hi, Bool.false_or]
        exact beq_eq_false_iff_ne.mpr (by omega)
      have c2 : (decide (k ≤ 0) || its.toArray.isEmpty) = true := by rw [decide_eq_true hk]; rfl
      exact wpAny_binaryOp_repeat_ref (T := "tuple") (U := "int") (by decide) ⟨_, ho, rfl⟩ (fun s' => typeIs_int s' k t) noFill_tuple_mul F.fills_int_mul F.slot_int_rmul repeat_tuple F.slot_int_index.lookup
        (call_meets F.slot_int_rmul (typeIs_int s k t) F.entry_int_rmul (F.args_int_rmul_2 _ _) (int_rmul_tuple k t l its.toArray n dd sl)
          ⟨ho, rfl, ⟨_, ho, rfl⟩, call_meets F.slot_tuple_mul ⟨_, ho, rfl⟩ F.entry_tuple_mul (F.args_tuple_mul_2 _ _) (tuple_mulZ l its.toArray n dd sl k t c0 c1 c2)
            ⟨ho, .ref s.heap.objs.size, _, I.laid (t' := s.toks) (o := .tup []) (fun b ob q => Heap.get?_push_of_some _ q) (Nat.le_refl _) ⟨Nat.zero_le _, [], .nil, IsTup.new _ _⟩, rfl, q2 hne hk _ (I.hok.fresh (Nat.le_refl _))⟩⟩)
def rep (xs : List D) (k : Int) : List D := (List.replicate k.toNat xs).flatten
def mulU (m : Bool) (a b : U) (h : List O) : R U := match a, b with
  | .d (.int i), .d (.int j) => if mulOk i j = true then .ok (.d (.int (i * j))) h else .bad
  | .d (.tuple xs), .d (.int k) => if -1000 ≤ k ∧ k ≤ 1000 ∧ xs.length ≤ 1000 then .ok (.d (.tuple (rep xs k))) h else .bad
  | .d (.list xs), .d (.int k) => if -1000000 ≤ k ∧ k ≤ 1000000 ∧ xs.length * k.toNat ≤ 10000000 then mkL m (rep xs k) h else .bad
  | _, _ => .bad
def rMulA (K : PySem.W.Frag) : R2 := fun x y H Q => rI (fun i j => mulOk i j = true) (fun i j => .int (i * j)) x y H Q ∨ (rRepZ K x y H Q ∨ rRep x y H Q)
theorem op_mulA : OpR X (binaryOp .Mult) (rMulA X.K) := OpR.or op_mulI (OpR.or op_repZ op_rep)
theorem RDs.rep {K : PySem.W.Frag} {H : Hp} {μ : List Addr} {xs : List D} {vs : List V} (r : RDs K H μ xs vs) : ∀ k : Nat, RDs K H μ (List.replicate k xs).flatten (List.replicate k vs).flatten
  | 0 => .nil
  | k + 1 => by rw [List.replicate_succ, List.replicate_succ, List.flatten_cons, List.flatten_cons]; exact r.append (RDs.rep r k)
theorem opd_mul (m : Bool) : OpD X W (rMulA X.K) (mulU m) := by
  intro a b h σ H μ x y Q rh ra rb p
  unfold mulU at p
  split at p
  · rename_i i j
    split at p
    · rename_i hm
      exact .inl ⟨i, j, ra.int_inv, rb.int_inv, hm, p.ret rh (.d (.int _))⟩
    · exact p.elim
  · rename_i xs k
    split at p
    · rename_i hm
      obtain ⟨a1, vs, rfl, h1, q1⟩ := ra.tup_inv
      have hl := q1.length
      refine .inr (.inl ⟨a1, k, vs, rfl, rb.int_inv, h1.sq, by omega, by omega, fun z => ?_, fun z1 z2 => ?_, fun z1 z2 => ⟨hm.2.1, by omega, tup_of rh (q1.rep k.toNat) p⟩⟩)
      · have e : rep xs k = xs := by
          unfold rep
          rcases z with z | z
          · subst z
            cases q1
            induction k.toNat with
            | zero => rfl
            | succ n ih => rw [List.replicate_succ, List.flatten_cons, ih]; rfl
          · subst z
            show (List.replicate 1 xs).flatten = xs
            simp
        rw [e] at p
        exact p.ret rh ra
      · have e : k.toNat = 0 := by omega
        have e2 : rep xs k = [] := by unfold rep; rw [e]; rfl
        rw [e2] at p
        exact tup_of rh .nil p
    · exact p.elim
  · rename_i xs k
    split at p
    · rename_i hm
      obtain ⟨a1, vs, rfl, h1, n1, q1⟩ := ra.lst_inv
      exact .inr (.inr ⟨a1, k, vs, rfl, rb.int_inv, h1, by omega, by omega, by rw [← q1.length, line_eq]; omega, mkL_of rh (q1.rep k.toNat) p⟩)
    · exact p.elim
  · exact p.elim
/-! ### one place -/
def negU (a : U) (h : List O) : R U := match a with
  | .d (.int i) => .ok (.d (.int (-i))) h
  | _ => .bad
theorem den_neg {a : Expr} {pos : Pos} {fa : En → List O → R U} (ha : Den X W a fa) : Den X W (.UnaryOp .USub a pos) (ev1 fa negU) := by
  obtain ⟨ta, pa, ca⟩ := ha
  refine ⟨_, pe_un un_neg pa, fun σ' h σ H μ Q re rh p => ?_⟩
  refine ca σ' h σ H μ _ re rh (Post.bind p fun u h1 H1 μ1 x e1 rh1 ru p1 => ?_)
  unfold negU at p1
  split at p1
  · rename_i i
    exact ⟨i, ru.int_inv, p1.ret rh1 (.d (.int _))⟩
  · exact p1.elim
/-! ### comparisons of ints -/
def cmpI (g : Int → Int → Bool) (a b : U) (h : List O) : R U := match a, b with
  | .d (.int i), .d (.int j) => .ok (.d (.bool (g i j))) h
  | _, _ => .bad
theorem opd_cmpI {g : Int → Int → Bool} : OpD X W (rI0 fun i j => .bl (g i j)) (cmpI g) := by
  intro a b h σ H μ x y Q rh ra rb p
  unfold cmpI at p
  split at p
  · rename_i i j
    exact ⟨i, j, ra.int_inv, rb.int_inv, p.ret rh (.d (.bl _))⟩
  · exact p.elim
/-! ### is -/
def isNon : U → Bool
  | .d .none => true
  | _ => false
def isU (neg : Bool) (a b : U) (h : List O) : R U := match b with
  | .d .none => .ok (.d (.bool (neg != isNon a))) h
  | .d (.bool c) => (match a with
    | .d (.bool e) => .ok (.d (.bool (neg != decide (e = c)))) h
    | _ => .bad)
  | _ => .bad
def rIsA (neg : Bool) : R2 := fun x y H Q => (y = .non ∧ Q (.bl (neg != decide (x = .non))) H) ∨ ∃ a b, x = .bl a ∧ y = .bl b ∧ Q (.bl (neg != decide (a = b))) H
theorem op_isA : OpR X (compareOp .Is) (rIsA false) := by
  intro pins s σ H x y v u Q I rx ry h
  rcases h with ⟨e, q⟩ | ⟨a, b, e1, e2, q⟩
  · exact op_isN pins s σ H x y v u Q I rx ry ⟨e, by simpa using q⟩
  · exact op_is_bl pins s σ H x y v u Q I rx ry ⟨a, b, e1, e2, by simpa using q⟩
theorem op_isnotA : OpR X (compareOp .IsNot) (rIsA true) := by
  intro pins s σ H x y v u Q I rx ry h
  rcases h with ⟨e, q⟩ | ⟨a, b, e1, e2, q⟩
  · exact op_notN pins s σ H x y v u Q I rx ry ⟨e, by simpa using q⟩
  · exact op_isnot_bl pins s σ H x y v u Q I rx ry ⟨a, b, e1, e2, by simpa using q⟩
theorem isnon {K : PySem.W.Frag} {H : Hp} {μ : List Addr} {u : U} {x : V} (r : RU K H μ u x) : isNon u = decide (x = .non) := by
  cases r with
  | d r => cases r <;> rfl
  | _ => rfl
theorem opd_is (neg : Bool) : OpD X W (rIsA neg) (isU neg) := by
  intro a b h σ H μ x y Q rh ra rb p
  unfold isU at p
  split at p
  · have ey : y = .non := by
      cases rb with
      | d r => cases r; rfl
    refine .inl ⟨ey, ?_⟩
    rw [isnon ra] at p
    exact p.ret rh (.d (.bl _))
  · rename_i c
    have ey : y = .bl c := by
      cases rb with
      | d r => cases r; rfl
    split at p
    · rename_i e
      have ex : x = .bl e := by
        cases ra with
        | d r => cases r; rfl
      exact .inr ⟨e, c, ex, ey, p.ret rh (.d (.bl _))⟩
    · exact p.elim
  · exact p.elim
/-! ### == of data -/
mutual
theorem RD.dp {K : PySem.W.Frag} {H : Hp} {μ : List Addr} : ∀ {d : D} {v : V}, RD K H μ d v → Dp K H v d
  | _, _, .non => .non
  | _, _, .bl b => .bl b
  | _, _, .int i => .int i
  | _, _, .str s _ => .str s
  | _, _, .tup h r => .tup h.sq (RDs.dp r)
  | _, _, .lst h n r => .lst (SqL.of h) (RDs.dp r)
theorem RDs.dp {K : PySem.W.Frag} {H : Hp} {μ : List Addr} : ∀ {d : List D} {v : List V}, RDs K H μ d v → DpAll K H v d
  | _, _, .nil => .nil
  | _, _, .cons h r => .cons (RD.dp h) (RDs.dp r)
end
mutual
theorem RD.lay {K : PySem.W.Frag} {H : Hp} {μ : List Addr} : ∀ {d : D} {v : V}, RD K H μ d v → d.canLay0 = true
  | _, _, .non => rfl
  | _, _, .bl b => rfl
  | _, _, .int i => rfl
  | _, _, .str s h => h
  | _, _, .tup h r => RDs.lay r
  | _, _, .lst h n r => RDs.lay r
theorem RDs.lay {K : PySem.W.Frag} {H : Hp} {μ : List Addr} : ∀ {d : List D} {v : List V}, RDs K H μ d v → PyData.canLayAll0 d = true
  | _, _, .nil => rfl
  | _, _, .cons h r => by rw [PyData.canLayAll0, RD.lay h, RDs.lay r]; rfl
end
/-- pure data of a value that may be compared -/
def dataOf (u : U) (h : List O) : Option D := match u with
  | .d d => some d
  | .lab n => (listOf (.lab n) h).map .list
  | .scr xs => some (.list (xs.map .int))
  | _ => none
theorem dataOf_of {K : PySem.W.Frag} {H : Hp} {μ : List Addr} {u : U} {h : List O} {x : V} {d : D} (rh : Rh K H μ h) (r : RU K H μ u x) (e : dataOf u h = some d) : Dp K H x d ∧ d.canLay0 = true := by
  cases r with
  | d r => cases e; exact ⟨r.dp, r.lay⟩
  | @lab n a r =>
    have e' : (listOf (.lab n) h).map PyData.list = some d := e
    cases q : listOf (.lab n) h with
    | none => rw [q] at e'; cases e'
    | some xs =>
      rw [q] at e'
      cases e'
      obtain ⟨a', vs, e1, h1, q1⟩ := listOf_of rh (.lab r) q
      rw [e1]
      exact ⟨.lst (SqL.of h1) q1.dp, q1.lay⟩
  | @scr a ns h1 =>
    cases e
    have z : RDs K H μ (ns.map .int) (ns.map V.int) := RDs_ints ns
    exact ⟨.lst h1.sq z.dp, z.lay⟩
  | _ => cases e
def eqO (a b : U) (h : List O) : Option Bool := match dataOf a h, dataOf b h with
  | some d, some e => if d.depth ≤ 64 ∨ e.depth ≤ 64 then some (PyData.eqv d e) else none
  | _, _ => none
def eqU (neg : Bool) (a b : U) (h : List O) : R U := (opt (eqO a b h) h).bind fun k h => .ok (.d (.bool (neg != k))) h
def rEqA (K : PySem.W.Frag) (neg : Bool) : R2 := fun x y H Q => ∃ d e, Dp K H x d ∧ Dp K H y e ∧ d.canLay0 = true ∧ e.canLay0 = true ∧ (d.depth ≤ 64 ∨ e.depth ≤ 64) ∧ Q (.bl (neg != PyData.eqv d e)) H
theorem op_eqA (hu : X.A.units + 64 < cLine) : OpR X (compareOp .Eq) (rEqA X.K false) := by
  intro pins s σ H x y v u Q I rx ry h
  obtain ⟨d, e, hd, he, sd, se, hz, q⟩ := h
  obtain ⟨as, r1⟩ := Dp.reads I d x v hd rx
  obtain ⟨bs, r2⟩ := Dp.reads I e y u he ry
  exact SeqAt.compareEq_reads r1 r2 sd se (by omega) ⟨.bl _, H, I, by simp; rfl, q⟩
theorem op_neA (hu : X.A.units + 64 < cLine) : OpR X (compareOp .NotEq) (rEqA X.K true) := by
  intro pins s σ H x y v u Q I rx ry h
  obtain ⟨d, e, hd, he, sd, se, hz, q⟩ := h
  obtain ⟨as, r1⟩ := Dp.reads I d x v hd rx
  obtain ⟨bs, r2⟩ := Dp.reads I e y u he ry
  exact SeqAt.compareNe_reads r1 r2 sd se (by omega) ⟨.bl _, H, I, by simp; rfl, q⟩
theorem opd_eq (neg : Bool) : OpD X W (rEqA X.K neg) (eqU neg) := by
  intro a b h σ H μ x y Q rh ra rb p
  obtain ⟨k, ek, p⟩ := Post.opt p
  unfold eqO at ek
  cases ea : dataOf a h with
  | none => rw [ea] at ek; cases ek
  | some d =>
    cases eb : dataOf b h with
    | none => rw [ea, eb] at ek; cases ek
    | some e =>
      rw [ea, eb] at ek
      have ek' : (if d.depth ≤ 64 ∨ e.depth ≤ 64 then some (PyData.eqv d e) else none) = some k := ek
      by_cases hz : d.depth ≤ 64 ∨ e.depth ≤ 64
      · rw [if_pos hz] at ek'
        cases ek'
        obtain ⟨d1, l1⟩ := dataOf_of rh ra ea
        obtain ⟨d2, l2⟩ := dataOf_of rh rb eb
        exact ⟨d, e, d1, d2, l1, l2, hz, p.ret rh (.d (.bl _))⟩
      · rw [if_neg hz] at ek'; cases ek'
end
end Py

namespace Py
open PySem PySem.Spec PyProof.Rows L2
/-! ### arguments without a star -/
def isStar : Expr → Bool
  | .Starred _ _ => true
  | _ => false
def noStar (es : List Expr) : Bool := es.all fun e => !isStar e
theorem star1 {e : Expr} {es : List Expr} {env : Env} (h : isStar e = false) : starEach (e :: es) env = (false, eval e env) :: starEach es env := by
  cases e <;> first | rfl | cases h
theorem noStar_cons {e : Expr} {es : List Expr} (h : noStar (e :: es) = true) : isStar e = false ∧ noStar es = true := by
  unfold noStar at h ⊢
  rw [List.all_cons, Bool.and_eq_true] at h
  exact ⟨by simpa using h.1, h.2⟩
theorem noStar_any {env : Env} {pos : Pos} : ∀ {es : List Expr}, noStar es = true → (backTo pos (starEach es env)).any (·.1) = false
  | [], _ => rfl
  | e :: es, h => by
    obtain ⟨h1, h2⟩ := noStar_cons h
    rw [star1 h1]
    have ih := noStar_any (env := env) (pos := pos) h2
    unfold backTo at ih ⊢
    rw [List.map_cons, List.any_cons, ih]
    rfl
theorem noStar_back {env : Env} {pos : Pos} {e : Expr} {es : List Expr} (h : noStar (e :: es) = true) : backTo pos (starEach (e :: es) env) = (false, eval e env) :: backTo pos (starEach es env) := by
  obtain ⟨h1, h2⟩ := noStar_cons h
  rw [star1 h1]
  rfl
theorem noStar_few {env : Env} {pos : Pos} : ∀ {es : List Expr}, noStar es = true → (backTo pos (starEach es env)).all (fun x => !x.1) = true
  | [], _ => rfl
  | e :: es, h => by
    obtain ⟨h1, h2⟩ := noStar_cons h
    rw [star1 h1]
    have ih := noStar_few (env := env) (pos := pos) h2
    unfold backTo at ih ⊢
    rw [List.map_cons, List.all_cons, ih]
    rfl
/-- a rule for a call on values says what g says -/
def CallD (X : Cx) (W : WX) (r : List V → Hp → VK → Prop) (g : List U → List O → R U) : Prop :=
  ∀ us h σ H μ xs Q, Rh X.K H μ h → RUs X.K H μ us xs → Post X.K W σ H μ (RU X.K) (g us h) Q → r xs H Q
def evCall (f : En → List O → R (List U)) (g : List U → List O → R U) : En → List O → R U := fun σ h => (f σ h).bind g
theorem RU.bl_inv {K : PySem.W.Frag} {H : Hp} {μ : List Addr} {i : Bool} {x : V} (r : RU K H μ (.d (.bool i)) x) : x = .bl i := by cases r with | d r => cases r; rfl
section
variable {X : Cx} {W : WX}
theorem den_callB {x : Str} {id : String} {r : List V → Hp → VK → Prop} {e : Expr} {es : List Expr} {p pos : Pos} {f : En → List O → R (List U)} {g : List U → List O → R U} (hc : CallR X (.builtin id) r) (hg : CallD X W r g) (gl : Gl X x) (hm : X.mg x = none)
    (hv : bootBuiltins x = some (.builtin id)) (hf : DenA X W (e :: es) f) (hs : noStar (e :: es) = true) (hn : x ≠ "__name__") (hdb : (x == ("__debug__" : Str)) = false) : Den X W (.Call (.Name x p) (e :: es) [] pos) (evCall f g) := by
  obtain ⟨ta, pa, ca⟩ := hf
  obtain ⟨h1, h2⟩ := noStar_cons hs
  refine ⟨_, pe_callB hc gl hm hv pa hn hdb (star1 h1) (noStar_any h2), fun σ' h σ H μ Q re rh p => ?_⟩
  exact ca σ' h σ H μ _ re rh (Post.bind p fun us h1 H1 μ1 xs e1 rh1 ru p1 => hg us h1 σ H1 μ1 xs Q rh1 ru p1)
theorem den_callTy {x : Str} {T : String} {r : List V → Hp → VK → Prop} {e : Expr} {es : List Expr} {p pos : Pos} {f : En → List O → R (List U)} {g : List U → List O → R U} (hc : CallR X (.type T) r) (hg : CallD X W r g) (gl : Gl X x) (hm : X.mg x = none)
    (hv : bootBuiltins x = some (.type T)) (hf : DenA X W (e :: es) f) (hs : noStar (e :: es) = true) (hn : x ≠ "__name__") (hdb : (x == ("__debug__" : Str)) = false) : Den X W (.Call (.Name x p) (e :: es) [] pos) (evCall f g) := by
  obtain ⟨ta, pa, ca⟩ := hf
  obtain ⟨h1, h2⟩ := noStar_cons hs
  refine ⟨_, pe_callTy hc gl hm hv pa hn hdb (star1 h1) (noStar_any h2), fun σ' h σ H μ Q re rh p => ?_⟩
  exact ca σ' h σ H μ _ re rh (Post.bind p fun us h1 H1 μ1 xs e1 rh1 ru p1 => hg us h1 σ H1 μ1 xs Q rh1 ru p1)
def r1 (r : V → Hp → VK → Prop) : List V → Hp → VK → Prop := fun xs H Q => ∃ x, xs = [x] ∧ r x H Q
def g1 (g : U → List O → R U) : List U → List O → R U := fun us h => match us with | [u] => g u h | _ => .bad
def r2 (r : V → V → Hp → VK → Prop) : List V → Hp → VK → Prop := fun xs H Q => ∃ x y, xs = [x, y] ∧ r x y H Q
def g2 (g : U → U → List O → R U) : List U → List O → R U := fun us h => match us with | [u, w] => g u w h | _ => .bad
/-- for a call of one value -/
theorem calld_1 {r : V → Hp → VK → Prop} {g : U → List O → R U} (k : ∀ u h σ H μ x Q, Rh X.K H μ h → RU X.K H μ u x → Post X.K W σ H μ (RU X.K) (g u h) Q → r x H Q) : CallD X W (r1 r) (g1 g) := by
  intro us h σ H μ xs Q rh ru p
  cases ru with
  | nil => exact p.elim
  | cons h1 h2 =>
    cases h2 with
    | nil => exact ⟨_, rfl, k _ h σ H μ _ Q rh h1 p⟩
    | cons _ _ => exact p.elim
theorem calld_2 {r : V → V → Hp → VK → Prop} {g : U → U → List O → R U} (k : ∀ u w h σ H μ x y Q, Rh X.K H μ h → RU X.K H μ u x → RU X.K H μ w y → Post X.K W σ H μ (RU X.K) (g u w h) Q → r x y H Q) : CallD X W (r2 r) (g2 g) := by
  intro us h σ H μ xs Q rh ru p
  cases ru with
  | nil => exact p.elim
  | cons h1 h2 =>
    cases h2 with
    | nil => exact p.elim
    | cons h2 h3 =>
      cases h3 with
      | nil => exact ⟨_, _, rfl, k _ _ h σ H μ _ _ Q rh h1 h2 p⟩
      | cons _ _ => exact p.elim
theorem CallR.imp {f : Value} {r r' : List V → Hp → VK → Prop} (h : CallR X f r) (k : ∀ xs H Q, r' xs H Q → r xs H Q) : CallR X f r' := fun pins s σ H xs us Q I rv q => h pins s σ H xs us Q I rv (k _ _ _ q)
/-! ### len -/
def lenO : O → Option Nat
  | .lst xs => some xs.length
  | .mix xs => some xs.length
  | .dct _ => none
def lenN (u : U) (h : List O) : Option Nat := match u with
  | .d (.str s) => if s.length ≤ 10000000 then some s.length else none
  | .d (.tuple xs) => some xs.length
  | .d (.list xs) => some xs.length
  | .scr xs => some xs.length
  | .lab n => h[n]?.bind lenO
  | _ => none
def lenU (u : U) (h : List O) : R U := (opt (lenN u h) h).bind fun n h => .ok (.d (.int n)) h
def rLenV (K : PySem.W.Frag) : V → Hp → VK → Prop := fun x H Q => ∃ n, LenV K x H n ∧ Q (.int n) H
theorem lenN_of {K : PySem.W.Frag} {H : Hp} {μ : List Addr} {u : U} {h : List O} {x : V} {n : Nat} (rh : Rh K H μ h) (r : RU K H μ u x) (e : lenN u h = some n) : LenV K x H n := by
  cases r with
  | d r =>
    cases r with
    | str s _ =>
      have e' : (if s.length ≤ 10000000 then some s.length else none) = some n := e
      by_cases hs : s.length ≤ 10000000
      · rw [if_pos hs] at e'
        cases e'
        exact ⟨by rw [line_eq]; omega, rfl⟩
      · rw [if_neg hs] at e'; cases e'
    | tup h1 q => cases e; exact .inr ⟨_, h1.sq, q.length⟩
    | lst h1 _ q => cases e; exact .inl ⟨_, SqL.of h1, q.length⟩
    | _ => cases e
  | scr h1 => cases e; exact .inl ⟨_, h1.sq, by rw [List.length_map]⟩
  | @lab m a ra =>
    have e' : h[m]?.bind lenO = some n := e
    cases z : h[m]? with
    | none => rw [z] at e'; cases e'
    | some o =>
      rw [z] at e'
      obtain ⟨ho, h1, h2⟩ := rh.obj m o a z ra
      cases h2 with
      | lst q => cases e'; exact .inl ⟨_, SqL.of h1, q.length⟩
      | mix q _ => cases e'; exact .inl ⟨_, SqL.of h1, q.length⟩
      | dct q => cases e'
  | _ => cases e
theorem cd_len : CallD X W (r1 (rLenV X.K)) (g1 lenU) := calld_1 fun u h σ H μ x Q rh ru p => by
  obtain ⟨n, e, p⟩ := Post.opt p
  exact ⟨n, lenN_of rh ru e, p.ret rh (.d (.int _))⟩
theorem cr_lenV : CallR X (.builtin "len") (r1 (rLenV X.K)) := CallR.imp call_len fun xs H Q ⟨x, e, n, l, q⟩ => ⟨x, n, e, l, q⟩
/-! ### lists of truths, of ints -/
def boolsOf : List D → Option (List Bool)
  | [] => some []
  | .bool b :: r => (boolsOf r).map (b :: ·)
  | _ :: _ => none
def intsOf : List D → Option (List Int)
  | [] => some []
  | .int b :: r => (intsOf r).map (b :: ·)
  | _ :: _ => none
theorem boolsOf_of {K : PySem.W.Frag} {H : Hp} {μ : List Addr} {ds : List D} {vs : List V} {bs : List Bool} (r : RDs K H μ ds vs) (e : boolsOf ds = some bs) : vs = bs.map V.bl := by
  induction ds generalizing vs bs with
  | nil => cases r; cases e; rfl
  | cons d ds ih =>
    cases r with
    | cons h q =>
      cases h with
      | bl b =>
        have e' : (boolsOf ds).map (b :: ·) = some bs := e
        cases z : boolsOf ds with
        | none => rw [z] at e'; cases e'
        | some cs => rw [z] at e'; cases e'; rw [ih q z]; rfl
      | _ => cases e
theorem intsOf_of {K : PySem.W.Frag} {H : Hp} {μ : List Addr} {ds : List D} {vs : List V} {bs : List Int} (r : RDs K H μ ds vs) (e : intsOf ds = some bs) : vs = bs.map V.int := by
  induction ds generalizing vs bs with
  | nil => cases r; cases e; rfl
  | cons d ds ih =>
    cases r with
    | cons h q =>
      cases h with
      | int b =>
        have e' : (intsOf ds).map (b :: ·) = some bs := e
        cases z : intsOf ds with
        | none => rw [z] at e'; cases e'
        | some cs => rw [z] at e'; cases e'; rw [ih q z]; rfl
      | _ => cases e
theorem boolsOf_map (bs : List Bool) : boolsOf (bs.map .bool) = some bs := by
  induction bs with
  | nil => rfl
  | cons b bs ih => rw [List.map_cons, boolsOf, ih]; rfl
theorem intsOf_map (bs : List Int) : intsOf (bs.map .int) = some bs := by
  induction bs with
  | nil => rfl
  | cons b bs ih => rw [List.map_cons, intsOf, ih]; rfl
def allU (u : U) (h : List O) : R U := (opt ((listOf u h).bind boolsOf) h).bind fun bs h => .ok (.d (.bool (bs.all id))) h
def anyU (u : U) (h : List O) : R U := (opt ((listOf u h).bind boolsOf) h).bind fun bs h => .ok (.d (.bool (bs.any id))) h
def sumU (u : U) (h : List O) : R U := (opt ((listOf u h).bind intsOf) h).bind fun bs h => .ok (.d (.int bs.sum)) h
theorem bools_list {K : PySem.W.Frag} {H : Hp} {μ : List Addr} {u : U} {h : List O} {x : V} {bs : List Bool} (rh : Rh K H μ h) (r : RU K H μ u x) (e : (listOf u h).bind boolsOf = some bs) : ∃ a, x = .ref a ∧ H a = some (.lst (bs.map V.bl)) := by
  cases z : listOf u h with
  | none => rw [z] at e; cases e
  | some xs =>
    rw [z] at e
    obtain ⟨a, vs, e1, h1, q⟩ := listOf_of rh r z
    exact ⟨a, e1, by rw [← boolsOf_of q e]; exact h1⟩
theorem ints_list {K : PySem.W.Frag} {H : Hp} {μ : List Addr} {u : U} {h : List O} {x : V} {bs : List Int} (rh : Rh K H μ h) (r : RU K H μ u x) (e : (listOf u h).bind intsOf = some bs) : ∃ a, x = .ref a ∧ H a = some (.lst (bs.map V.int)) := by
  cases z : listOf u h with
  | none => rw [z] at e; cases e
  | some xs =>
    rw [z] at e
    obtain ⟨a, vs, e1, h1, q⟩ := listOf_of rh r z
    exact ⟨a, e1, by rw [← intsOf_of q e]; exact h1⟩
def rAllV (K : PySem.W.Frag) : V → Hp → VK → Prop := fun x H Q => ∃ (a : Addr) (bs : List Bool), x = .ref a ∧ SqL K H a (bs.map V.bl) ∧ Q (.bl (bs.all id)) H
def rAnyV (K : PySem.W.Frag) : V → Hp → VK → Prop := fun x H Q => ∃ (a : Addr) (bs : List Bool), x = .ref a ∧ SqL K H a (bs.map V.bl) ∧ Q (.bl (bs.any id)) H
def rSumV (K : PySem.W.Frag) : V → Hp → VK → Prop := fun x H Q => ∃ (a : Addr) (ns : List Int), x = .ref a ∧ SqL K H a (ns.map V.int) ∧ Q (.int ns.sum) H
theorem cr_allV (hc : X.calm = true) : CallR X (.builtin "all") (r1 (rAllV X.K)) := CallR.imp (cr_all hc) fun xs H Q ⟨x, e, a, bs, e2, q⟩ => ⟨a, bs, by rw [e, e2], q⟩
theorem cr_anyV (hc : X.calm = true) : CallR X (.builtin "any") (r1 (rAnyV X.K)) := CallR.imp (cr_any hc) fun xs H Q ⟨x, e, a, bs, e2, q⟩ => ⟨a, bs, by rw [e, e2], q⟩
theorem cr_sumV (hc : X.calm = true) : CallR X (.builtin "sum") (r1 (rSumV X.K)) := CallR.imp (cr_sum hc) fun xs H Q ⟨x, e, a, bs, e2, q⟩ => ⟨a, bs, by rw [e, e2], q⟩
theorem cd_all : CallD X W (r1 (rAllV X.K)) (g1 allU) := calld_1 fun u h σ H μ x Q rh ru p => by
  obtain ⟨bs, e, p⟩ := Post.opt p
  obtain ⟨a, e1, h1⟩ := bools_list rh ru e
  exact ⟨a, bs, e1, SqL.of h1, p.ret rh (.d (.bl _))⟩
theorem cd_any : CallD X W (r1 (rAnyV X.K)) (g1 anyU) := calld_1 fun u h σ H μ x Q rh ru p => by
  obtain ⟨bs, e, p⟩ := Post.opt p
  obtain ⟨a, e1, h1⟩ := bools_list rh ru e
  exact ⟨a, bs, e1, SqL.of h1, p.ret rh (.d (.bl _))⟩
theorem cd_sum : CallD X W (r1 (rSumV X.K)) (g1 sumU) := calld_1 fun u h σ H μ x Q rh ru p => by
  obtain ⟨bs, e, p⟩ := Post.opt p
  obtain ⟨a, e1, h1⟩ := ints_list rh ru e
  exact ⟨a, bs, e1, SqL.of h1, p.ret rh (.d (.int _))⟩
/-! ### max, min of lists of ints -/
def maxL : Int → List Int → Int
  | m, [] => m
  | m, x :: r => maxL (if x > m then x else m) r
def minL : Int → List Int → Int
  | m, [] => m
  | m, x :: r => minL (if x < m then x else m) r
theorem maxL_spec : ∀ (r : List Int) (m : Int), (maxL m r ∈ m :: r) ∧ ∀ y ∈ m :: r, y ≤ maxL m r
  | [], m => ⟨by simp [maxL], fun y hy => by simp at hy; subst hy; exact Int.le_refl _⟩
  | x :: r, m => by
    obtain ⟨h1, h2⟩ := maxL_spec r (if x > m then x else m)
    rw [maxL]
    generalize hz : maxL (if x > m then x else m) r = z at h1 h2 ⊢
    refine ⟨?_, fun y hy => ?_⟩
    · rcases List.mem_cons.mp h1 with e | e
      · subst e; split <;> simp
      · exact List.mem_cons_of_mem _ (List.mem_cons_of_mem _ e)
    · have h0 := h2 _ List.mem_cons_self
      rcases List.mem_cons.mp hy with e | hy
      · subst e; split at h0 <;> omega
      · rcases List.mem_cons.mp hy with e | hy
        · subst e; split at h0 <;> omega
        · exact h2 y (List.mem_cons_of_mem _ hy)
theorem minL_spec : ∀ (r : List Int) (m : Int), (minL m r ∈ m :: r) ∧ ∀ y ∈ m :: r, minL m r ≤ y
  | [], m => ⟨by simp [minL], fun y hy => by simp at hy; subst hy; exact Int.le_refl _⟩
  | x :: r, m => by
    obtain ⟨h1, h2⟩ := minL_spec r (if x < m then x else m)
    rw [minL]
    generalize hz : minL (if x < m then x else m) r = z at h1 h2 ⊢
    refine ⟨?_, fun y hy => ?_⟩
    · rcases List.mem_cons.mp h1 with e | e
      · subst e; split <;> simp
      · exact List.mem_cons_of_mem _ (List.mem_cons_of_mem _ e)
    · have h0 := h2 _ List.mem_cons_self
      rcases List.mem_cons.mp hy with e | hy
      · subst e; split at h0 <;> omega
      · rcases List.mem_cons.mp hy with e | hy
        · subst e; split at h0 <;> omega
        · exact h2 y (List.mem_cons_of_mem _ hy)
def maxU (u : U) (h : List O) : R U := (opt ((listOf u h).bind intsOf) h).bind fun bs h => match bs with
  | [] => .bad
  | m :: r => .ok (.d (.int (maxL m r))) h
def minU (u : U) (h : List O) : R U := (opt ((listOf u h).bind intsOf) h).bind fun bs h => match bs with
  | [] => .bad
  | m :: r => .ok (.d (.int (minL m r))) h
def max2U (u w : U) (h : List O) : R U := match u, w with
  | .d (.int i), .d (.int j) => .ok (.d (.int (if j > i then j else i))) h
  | _, _ => .bad
def min2U (u w : U) (h : List O) : R U := match u, w with
  | .d (.int i), .d (.int j) => .ok (.d (.int (if j < i then j else i))) h
  | _, _ => .bad
def maxG : List U → List O → R U := fun us h => match us with
  | [u] => maxU u h
  | [u, w] => max2U u w h
  | _ => .bad
def minG : List U → List O → R U := fun us h => match us with
  | [u] => minU u h
  | [u, w] => min2U u w h
  | _ => .bad
def rMaxG (K : PySem.W.Frag) : List V → Hp → VK → Prop := fun xs H Q => rMax K xs H Q ∨ (∃ i j, xs = [.int i, .int j] ∧ Q (.int (if j > i then j else i)) H)
def rMinG (K : PySem.W.Frag) : List V → Hp → VK → Prop := fun xs H Q => rMin K xs H Q ∨ (∃ i j, xs = [.int i, .int j] ∧ Q (.int (if j < i then j else i)) H)
theorem cr_maxG (hc : X.calm = true) : CallR X (.builtin "max") (rMaxG X.K) := CallR.or (cr_max hc) (call_max2 hc)
theorem cr_minG (hc : X.calm = true) : CallR X (.builtin "min") (rMinG X.K) := CallR.or (cr_min hc) (call_min2 hc)
theorem cd_max : CallD X W (rMaxG X.K) maxG := by
  intro us h σ H μ xs Q rh ru p
  unfold maxG at p
  split at p
  · cases ru with
    | cons r1 r2 =>
      cases r2
      obtain ⟨bs, e, p⟩ := Post.opt p
      obtain ⟨a, e1, h1⟩ := ints_list rh r1 e
      cases bs with
      | nil => exact p.elim
      | cons m r =>
        refine .inl ⟨a, m :: r, by rw [e1], SqL.of h1, by simp, fun k hk hk2 => ?_⟩
        obtain ⟨s1, s2⟩ := maxL_spec r m
        have := hk2 _ s1
        have := s2 _ hk
        have ek : k = maxL m r := by omega
        rw [ek]
        exact p.ret rh (.d (.int _))
  · cases ru with
    | cons r1 r2 =>
      cases r2 with
      | cons r2 r3 =>
        cases r3
        unfold max2U at p
        split at p
        · exact .inr ⟨_, _, by rw [r1.int_inv, r2.int_inv], p.ret rh (.d (.int _))⟩
        · exact p.elim
  · exact p.elim
theorem cd_min : CallD X W (rMinG X.K) minG := by
  intro us h σ H μ xs Q rh ru p
  unfold minG at p
  split at p
  · cases ru with
    | cons r1 r2 =>
      cases r2
      obtain ⟨bs, e, p⟩ := Post.opt p
      obtain ⟨a, e1, h1⟩ := ints_list rh r1 e
      cases bs with
      | nil => exact p.elim
      | cons m r =>
        refine .inl ⟨a, m :: r, by rw [e1], SqL.of h1, by simp, fun k hk hk2 => ?_⟩
        obtain ⟨s1, s2⟩ := minL_spec r m
        have := hk2 _ s1
        have := s2 _ hk
        have ek : k = minL m r := by omega
        rw [ek]
        exact p.ret rh (.d (.int _))
  · cases ru with
    | cons r1 r2 =>
      cases r2 with
      | cons r2 r3 =>
        cases r3
        unfold min2U at p
        split at p
        · exact .inr ⟨_, _, by rw [r1.int_inv, r2.int_inv], p.ret rh (.d (.int _))⟩
        · exact p.elim
  · exact p.elim
/-! ### int, abs, tuple, list -/
def absU (u : U) (h : List O) : R U := match u with
  | .d (.int i) => .ok (.d (.int (if i < 0 then -i else i))) h
  | _ => .bad
theorem cd_abs : CallD X W (r1 fun x H Q => ∃ i, x = .int i ∧ Q (.int (if i < 0 then -i else i)) H) (g1 absU) := calld_1 fun u h σ H μ x Q rh ru p => by
  unfold absU at p
  split at p
  · exact ⟨_, ru.int_inv, p.ret rh (.d (.int _))⟩
  · exact p.elim
theorem cr_absV : CallR X (.builtin "abs") (r1 fun x H Q => ∃ i, x = .int i ∧ Q (.int (if i < 0 then -i else i)) H) := CallR.imp call_abs fun xs H Q ⟨x, e, i, e2, q⟩ => ⟨i, by rw [e, e2], q⟩
def intU (u : U) (h : List O) : R U := match u with
  | .d (.int i) => .ok (.d (.int i)) h
  | .d (.bool k) => .ok (.d (.int (if k then 1 else 0))) h
  | _ => .bad
def rIntV : V → Hp → VK → Prop := fun x H Q => (∃ i, x = .int i ∧ Q (.int i) H) ∨ ∃ k, x = .bl k ∧ Q (.int (if k then 1 else 0)) H
theorem cd_int : CallD X W (r1 rIntV) (g1 intU) := calld_1 fun u h σ H μ x Q rh ru p => by
  unfold intU at p
  split at p
  · exact .inl ⟨_, ru.int_inv, p.ret rh (.d (.int _))⟩
  · exact .inr ⟨_, ru.bl_inv, p.ret rh (.d (.int _))⟩
  · exact p.elim
theorem cr_intV : CallR X (.type "int") (r1 rIntV) := CallR.imp call_int1 fun xs H Q ⟨x, e, q⟩ => by
  rcases q with ⟨i, e2, q⟩ | ⟨i, e2, q⟩
  · exact .inl ⟨i, by rw [e, e2], q⟩
  · exact .inr ⟨i, by rw [e, e2], q⟩
/-- a list of any sort -/
def lstLike (u : U) (h : List O) : Option (List D) := match u with
  | .scr xs => some (xs.map .int)
  | u => listOf u h
theorem lstLike_of {K : PySem.W.Frag} {H : Hp} {μ : List Addr} {u : U} {h : List O} {x : V} {xs : List D} (rh : Rh K H μ h) (r : RU K H μ u x) (e : lstLike u h = some xs) : ∃ a vs, x = .ref a ∧ SqL K H a vs ∧ RDs K H μ xs vs := by
  cases r with
  | scr h1 => cases e; exact ⟨_, _, rfl, h1.sq, RDs_ints _⟩
  | d r =>
    obtain ⟨a, vs, e1, h1, q⟩ := listOf_of rh (.d r) (show listOf (.d _) h = some xs from e)
    exact ⟨a, vs, e1, SqL.of h1, q⟩
  | lab r =>
    obtain ⟨a, vs, e1, h1, q⟩ := listOf_of rh (.lab r) (show listOf (.lab _) h = some xs from e)
    exact ⟨a, vs, e1, SqL.of h1, q⟩
  | _ => cases e
def isTup : U → Bool
  | .d (.tuple _) => true
  | _ => false
def tupleU (u : U) (h : List O) : R U := if isTup u = true then .ok u h else (opt (lstLike u h) h).bind fun xs h => .ok (.d (.tuple xs)) h
def rTupV (K : PySem.W.Frag) : V → Hp → VK → Prop := fun x H Q => ∃ p ys, x = .ref p ∧ ((SqL K H p ys ∧ ∀ l, H l = none → Q (.ref l) (upd H l (.tup ys))) ∨ (SqT K H p ys ∧ Q (.ref p) H))
theorem cr_tupV : CallR X (.type "tuple") (r1 (rTupV X.K)) := CallR.imp call_tuple_of fun xs H Q ⟨x, e, p, ys, e2, q⟩ => ⟨p, ys, by rw [e, e2], q⟩
theorem cd_tup : CallD X W (r1 (rTupV X.K)) (g1 tupleU) := calld_1 fun u h σ H μ x Q rh ru p => by
  unfold tupleU at p
  by_cases ht : isTup u = true
  · rw [if_pos ht] at p
    have : ∃ ys, u = .d (.tuple ys) := by
      unfold isTup at ht
      split at ht
      · exact ⟨_, rfl⟩
      · cases ht
    obtain ⟨ys, rfl⟩ := this
    obtain ⟨a, vs, rfl, h1, q⟩ := ru.tup_inv
    exact ⟨a, vs, rfl, .inr ⟨h1.sq, p.ret rh ru⟩⟩
  · rw [if_neg ht] at p
    obtain ⟨xs, e, p⟩ := Post.opt p
    obtain ⟨a, vs, rfl, h1, q⟩ := lstLike_of rh ru e
    exact ⟨a, vs, rfl, .inl ⟨h1, tup_of rh q p⟩⟩
def listU (m : Bool) (u : U) (h : List O) : R U := (opt (seqOf u h) h).bind fun xs h => mkL m xs h
def rLstV (K : PySem.W.Frag) : V → Hp → VK → Prop := fun x H Q => ∃ p ys, x = .ref p ∧ (SqL K H p ys ∨ SqT K H p ys) ∧ ∀ l, H l = none → Q (.ref l) (upd H l (.lst ys))
theorem cr_lstV : CallR X (.type "list") (r1 (rLstV X.K)) := CallR.imp call_list_of fun xs H Q ⟨x, e, p, ys, e2, q⟩ => ⟨p, ys, by rw [e, e2], q⟩
theorem cd_lst (m : Bool) : CallD X W (r1 (rLstV X.K)) (g1 (listU m)) := calld_1 fun u h σ H μ x Q rh ru p => by
  obtain ⟨xs, e, p⟩ := Post.opt p
  obtain ⟨a, vs, rfl, h1, q⟩ := seqOf_of rh ru e
  exact ⟨a, vs, rfl, h1, mkL_of rh q p⟩
/-! ### sorted lists of ints -/
def insI (x : Int) : List Int → List Int
  | [] => [x]
  | y :: r => if x ≤ y then x :: y :: r else y :: insI x r
def sortI : List Int → List Int
  | [] => []
  | x :: r => insI x (sortI r)
theorem insI_perm (x : Int) : ∀ r : List Int, (insI x r).Perm (x :: r)
  | [] => .refl _
  | y :: r => by
    unfold insI
    split
    · exact .refl _
    · exact ((insI_perm x r).cons y).trans (.swap x y r)
theorem sortI_perm : ∀ r : List Int, (sortI r).Perm r
  | [] => .refl _
  | x :: r => (insI_perm x _).trans ((sortI_perm r).cons x)
theorem insI_sorted (x : Int) : ∀ r : List Int, r.Pairwise (· ≤ ·) → (insI x r).Pairwise (· ≤ ·)
  | [], _ => by simp [insI]
  | y :: r, h => by
    unfold insI
    obtain ⟨h1, h2⟩ := List.pairwise_cons.mp h
    split
    · rename_i hxy
      refine List.pairwise_cons.mpr ⟨fun z hz => ?_, h⟩
      rcases List.mem_cons.mp hz with e | hz
      · subst e; exact hxy
      · exact Int.le_trans hxy (h1 z hz)
    · rename_i hxy
      refine List.pairwise_cons.mpr ⟨fun z hz => ?_, insI_sorted x r h2⟩
      rcases List.mem_cons.mp ((insI_perm x r).mem_iff.mp hz) with e | hz
      · subst e; omega
      · exact h1 z hz
theorem sortI_sorted : ∀ r : List Int, (sortI r).Pairwise (· ≤ ·)
  | [] => .nil
  | x :: r => insI_sorted x _ (sortI_sorted r)
theorem sorted_unique {xs ys : List Int} (h1 : xs.Pairwise (· ≤ ·)) (h2 : ys.Pairwise (· ≤ ·)) (p : xs.Perm ys) : xs = ys :=
  List.Perm.eq_of_pairwise (fun a b _ _ => Int.le_antisymm) h1 h2 p
def sortedU (m : Bool) (u : U) (h : List O) : R U := (opt ((lstLike u h).bind intsOf) h).bind fun ns h => mkL m ((sortI ns).map .int) h
def rSortV (K : PySem.W.Frag) : V → Hp → VK → Prop := fun x H Q => ∃ (a : Addr) (ns : List Int), x = .ref a ∧ SqL K H a (ns.map V.int) ∧ ∀ (ns' : List Int) (p : Addr), ns'.Perm ns → ns'.Pairwise (· ≤ ·) → H p = none → Q (.ref p) (upd H p (.lst (ns'.map V.int)))
theorem cr_sortV : CallR X (.builtin "sorted") (r1 (rSortV X.K)) := CallR.imp cr_sortedI fun xs H Q ⟨x, e, a, ns, e2, q⟩ => ⟨a, ns, by rw [e, e2], q⟩
theorem cd_sort (m : Bool) : CallD X W (r1 (rSortV X.K)) (g1 (sortedU m)) := calld_1 fun u h σ H μ x Q rh ru p => by
  obtain ⟨ns, e, p⟩ := Post.opt p
  cases z : lstLike u h with
  | none => rw [z] at e; cases e
  | some xs =>
    rw [z] at e
    obtain ⟨a, vs, rfl, h1, q⟩ := lstLike_of rh ru z
    have ev := intsOf_of q e
    subst ev
    refine ⟨a, ns, rfl, h1, fun ns' l pm srt hl => ?_⟩
    have en : ns' = sortI ns := sorted_unique srt (sortI_sorted ns) (pm.trans (sortI_perm ns).symm)
    subst en
    exact mkL_of rh (RDs_ints _) p l hl
end
end Py

namespace Py
open PySem PySem.Spec PyProof.Rows L2
section
variable {X : Cx} {W : WX}
/-! ### dicts: what stands at a key -/
def keyOf : D → Option Key
  | .int i => some (.inl i)
  | .str s => some (.inr s)
  | _ => none
def getK (kvs : List (Key × D)) (k : Key) : Option D := match kvs with
  | [] => none
  | (q, d) :: r => if q = k then some d else getK r k
theorem keyOf_of {K : PySem.W.Frag} {H : Hp} {μ : List Addr} {d : D} {y : V} {k : Key} (r : RD K H μ d y) (e : keyOf d = some k) : y = kV k := by
  cases r <;> cases e <;> rfl
theorem valV_cons (q k : Key) (v : V) (r : List (Key × V)) : valV ((q, v) :: r) k = if q = k then some v else valV r k := by
  unfold valV
  rw [List.find?_cons]
  by_cases h : q = k
  · subst h
    simp
  · rw [if_neg h]
    have : (decide (q = k)) = false := decide_eq_false h
    simp [this]
theorem getK_rel {K : PySem.W.Frag} {H : Hp} {μ : List Addr} {kvs : List (Key × D)} {vs : List (Key × V)} (r : RKs K H μ kvs vs) (k : Key) : (∀ d, getK kvs k = some d → ∃ v, valV vs k = some v ∧ RD K H μ d v) ∧ (getK kvs k = none → valV vs k = none) := by
  induction r with
  | nil => exact ⟨fun d e => (by cases e), fun _ => rfl⟩
  | @cons p q xs ys h t ih =>
    obtain ⟨p1, p2⟩ := p
    obtain ⟨q1, q2⟩ := q
    obtain ⟨e, h⟩ := h
    dsimp only at e h
    subst e
    rw [valV_cons]
    show (∀ d, (if p1 = k then some p2 else getK xs k) = some d → _) ∧ ((if p1 = k then some p2 else getK xs k) = none → _)
    by_cases hk : p1 = k
    · rw [if_pos hk, if_pos hk]
      exact ⟨fun d e => (by cases e; exact ⟨q2, rfl, h⟩), fun e => (by cases e)⟩
    · rw [if_neg hk, if_neg hk]
      exact ih
def dctOf (u : U) (h : List O) : Option (List (Key × D)) := match u with
  | .lab n => (match h[n]? with
    | some (.dct kvs) => some kvs
    | _ => none)
  | _ => none
theorem dctOf_of {K : PySem.W.Frag} {H : Hp} {μ : List Addr} {u : U} {h : List O} {x : V} {kvs : List (Key × D)} (rh : Rh K H μ h) (r : RU K H μ u x) (e : dctOf u h = some kvs) : ∃ n a vs, u = .lab n ∧ μ[n]? = some a ∧ x = .ref a ∧ H a = some (.dK vs) ∧ RKs K H μ kvs vs := by
  cases r with
  | @lab n a r =>
    have e' : (match h[n]? with | some (.dct kvs) => some kvs | _ => none) = some kvs := e
    cases q : h[n]? with
    | none => rw [q] at e'; cases e'
    | some o =>
      rw [q] at e'
      cases o with
      | dct ys =>
        cases e'
        obtain ⟨ho, h1, h2⟩ := rh.obj n _ a q r
        cases h2 with
        | dct h2 => exact ⟨n, a, _, rfl, r, rfl, h1, h2⟩
      | lst ys => cases e'
      | mix ys => cases e'
  | _ => cases e
/-! ### in, not in -/
def inO (a b : U) (h : List O) : Option Bool := match dctOf b h with
  | some kvs => (match a with
    | .d x => (keyOf x).map fun k => (getK kvs k).isSome
    | _ => none)
  | none => (match dataOf a h, seqOf b h with
    | some d, some ds => if d.depth ≤ 60 then some (ds.any fun z => PyData.eqv z d) else none
    | _, _ => none)
def inU (neg : Bool) (a b : U) (h : List O) : R U := (opt (inO a b h) h).bind fun k h => .ok (.d (.bool (neg != k))) h
def rInA (K : PySem.W.Frag) (neg : Bool) : R2 := fun x y H Q => (∃ d ds, Dp K H x d ∧ (Dp K H y (.list ds) ∨ Dp K H y (.tuple ds)) ∧ d.canLay0 = true ∧ PyData.canLayAll0 ds = true ∧ d.depth ≤ 60 ∧ Q (.bl (neg != (ds.any fun z => PyData.eqv z d))) H) ∨
  ∃ a o, y = .ref a ∧ DGet H a x o ∧ Q (.bl (neg != o.isSome)) H
theorem op_inA (hu : X.A.units + 64 < cLine) : OpR X (compareOp .In) (rInA X.K false) := by
  intro pins s σ H x y v u Q I rx ry h
  rcases h with ⟨d, ds, hd, he, sd, se, hz, q⟩ | ⟨a, o, rfl, g, q⟩
  · obtain ⟨as, r1⟩ := Dp.reads I d x v hd rx
    have q' : Q (.bl (ds.any fun z => PyData.eqv z d)) H := by simpa using q
    rcases he with he | he
    · obtain ⟨bs, r2⟩ := Dp.reads I (.list ds) y u he ry
      exact SeqAt.in_list_reads r2 r1 se sd (by omega) ⟨.bl _, H, I, rfl, q'⟩
    · obtain ⟨bs, r2⟩ := Dp.reads I (.tuple ds) y u he ry
      exact SeqAt.in_tuple_reads r2 r1 se sd (by omega) ⟨.bl _, H, I, rfl, q'⟩
  · cases ry
    exact d_in (by omega) I g rx fun s' I' => ⟨.bl _, H, I', by simp; rfl, q⟩
theorem op_notInA (hu : X.A.units + 64 < cLine) : OpR X (compareOp .NotIn) (rInA X.K true) := by
  intro pins s σ H x y v u Q I rx ry h
  rcases h with ⟨d, ds, hd, he, sd, se, hz, q⟩ | ⟨a, o, rfl, g, q⟩
  · obtain ⟨as, r1⟩ := Dp.reads I d x v hd rx
    have q' : Q (.bl (!ds.any fun z => PyData.eqv z d)) H := by simpa using q
    rcases he with he | he
    · obtain ⟨bs, r2⟩ := Dp.reads I (.list ds) y u he ry
      exact SeqAt.notIn_list_reads r2 r1 se sd (by omega) ⟨.bl _, H, I, rfl, q'⟩
    · obtain ⟨bs, r2⟩ := Dp.reads I (.tuple ds) y u he ry
      exact SeqAt.notIn_tuple_reads r2 r1 se sd (by omega) ⟨.bl _, H, I, rfl, q'⟩
  · cases ry
    exact d_notIn (by omega) I g rx fun s' I' => ⟨.bl _, H, I', by simp; rfl, q⟩
theorem seqOf_dp {K : PySem.W.Frag} {H : Hp} {μ : List Addr} {u : U} {h : List O} {x : V} {xs : List D} (rh : Rh K H μ h) (r : RU K H μ u x) (e : seqOf u h = some xs) : (Dp K H x (.list xs) ∨ Dp K H x (.tuple xs)) ∧ PyData.canLayAll0 xs = true := by
  obtain ⟨a, vs, rfl, h1, q⟩ := seqOf_of rh r e
  rcases h1 with h1 | h1
  · exact ⟨.inl (.lst h1 q.dp), q.lay⟩
  · exact ⟨.inr (.tup h1 q.dp), q.lay⟩
theorem opd_in (neg : Bool) : OpD X W (rInA X.K neg) (inU neg) := by
  intro a b h σ H μ x y Q rh ra rb p
  obtain ⟨k, ek, p⟩ := Post.opt p
  unfold inO at ek
  cases ed : dctOf b h with
  | some kvs =>
    rw [ed] at ek
    obtain ⟨n, ad, vs, rfl, hn, rfl, h1, q⟩ := dctOf_of rh rb ed
    cases ra with
    | @d dd _ ra =>
      have ek' : (keyOf dd).map (fun k => (getK kvs k).isSome) = some k := ek
      cases e2 : keyOf dd with
      | none => rw [e2] at ek'; cases ek'
      | some kk =>
        rw [e2] at ek'
        cases ek'
        have := keyOf_of ra e2
        subst this
        refine .inr ⟨ad, _, rfl, DGet.k h1, ?_⟩
        have e3 : (valV vs kk).isSome = (getK kvs kk).isSome := by
          obtain ⟨g1, g2⟩ := getK_rel q kk
          cases z : getK kvs kk with
          | none => rw [g2 z]; rfl
          | some d => obtain ⟨v, hv, _⟩ := g1 d z; rw [hv]; rfl
        rw [e3]
        exact p.ret rh (.d (.bl _))
    | _ => cases ek
  | none =>
    rw [ed] at ek
    cases ea : dataOf a h with
    | none => rw [ea] at ek; cases ek
    | some d =>
      cases eb : seqOf b h with
      | none => rw [ea, eb] at ek; cases ek
      | some ds =>
        rw [ea, eb] at ek
        have ek' : (if d.depth ≤ 60 then some (ds.any fun z => PyData.eqv z d) else none) = some k := ek
        by_cases hz : d.depth ≤ 60
        · rw [if_pos hz] at ek'
          cases ek'
          obtain ⟨d1, l1⟩ := dataOf_of rh ra ea
          obtain ⟨d2, l2⟩ := seqOf_dp rh rb eb
          exact .inl ⟨d, ds, d1, d2, l1, l2, hz, p.ret rh (.d (.bl _))⟩
        · rw [if_neg hz] at ek'; cases ek'
/-! ### isinstance -/
def tyN (u : U) (h : List O) : Option String := match u with
  | .d .none => some "NoneType"
  | .d (.bool _) => some "bool"
  | .d (.int _) => some "int"
  | .d (.str _) => some "str"
  | .d (.tuple _) => some "tuple"
  | .d (.list _) => some "list"
  | .d (.dict _) => some "dict"
  | .scr _ => some "list"
  | .lab n => h[n]?.map fun o => match o with
    | .dct _ => "dict"
    | _ => "list"
  | _ => none
def isaB (a b : String) : Bool := a == b || (a == "bool" && b == "int")
def tyNames : List String := ["NoneType", "bool", "int", "str", "tuple", "list", "dict"]
theorem kit_all : ∀ a ∈ tyNames, ∀ b ∈ tyNames, kitB a b = some (isaB a b) := by decide +kernel
def isiU (u c : U) (h : List O) : R U := match c with
  | .ty b => if tyNames.contains b = true then (opt (tyN u h) h).bind fun a h => .ok (.d (.bool (isaB a b))) h else .bad
  | _ => .bad
theorem tyN_of {K : PySem.W.Frag} {H : Hp} {μ : List Addr} {u : U} {h : List O} {x : V} {n : String} (rh : Rh K H μ h) (r : RU K H μ u x) (e : tyN u h = some n) : TyX K H x (.type n) ∧ n ∈ tyNames := by
  cases r with
  | d r =>
    cases r with
    | non => cases e; exact ⟨.base .non, by decide⟩
    | bl b => cases e; exact ⟨.base (.bl b), by decide⟩
    | int b => cases e; exact ⟨.base (.int b), by decide⟩
    | str b _ => cases e; exact ⟨.base (.str b), by decide⟩
    | tup h1 q =>
      cases e
      refine ⟨?_, by decide⟩
      rcases h1 with ⟨h1, _⟩ | ⟨o, its, n, h1, h2, _⟩
      · exact .base (.tup h1)
      · exact .kTuple h1 h2
    | lst h1 _ q => cases e; exact ⟨.base (.lst h1), by decide⟩
  | scr h1 =>
    cases e
    refine ⟨?_, by decide⟩
    rcases h1 with ⟨o, h1, _⟩ | ⟨o, its, n, h1, h2, _⟩
    · exact .base (.frz h1)
    · exact .kList h1 h2
  | @lab m a ra =>
    unfold tyN at e
    cases z : h[m]? with
    | none => simp only [z] at e; cases e
    | some o =>
      simp only [z] at e
      obtain ⟨ho, h1, h2⟩ := rh.obj m o a z ra
      cases h2 with
      | lst q => cases e; exact ⟨.base (.lst h1), (show "list" ∈ tyNames by decide)⟩
      | mix q _ => cases e; exact ⟨.base (.lst h1), (show "list" ∈ tyNames by decide)⟩
      | dct q => cases e; exact ⟨.base (.dK h1), (show "dict" ∈ tyNames by decide)⟩
  | _ => cases e
def rIsiV (K : PySem.W.Frag) : V → V → Hp → VK → Prop := fun x c H Q => ∃ (t u : Value) (b : Bool), ClsV c u ∧ TyX K H x t ∧ PySem.W.kitOne K t u = some b ∧ Q (.bl b) H
theorem cr_isi : CallR X (.builtin "isinstance") (r2 (rIsiV X.K)) := CallR.imp call_isi fun xs H Q ⟨x, c, e, t, u, b, k, ty, o, q⟩ => ⟨x, c, t, u, b, e, k, ty, o, q⟩
theorem cd_isi : CallD X W (r2 (rIsiV X.K)) (g2 isiU) := calld_2 fun u c h σ H μ x y Q rh ru rc p => by
  unfold isiU at p
  split at p
  · rename_i b
    split at p
    · rename_i hb
      obtain ⟨a, e, p⟩ := Post.opt p
      obtain ⟨t, ha⟩ := tyN_of rh ru e
      cases rc with
      | ty n => exact ⟨.type a, .type b, _, .ty b, t, kit_ty (kit_all a ha b (by simpa using hb)), p.ret rh (.d (.bl _))⟩
    · exact p.elim
  · exact p.elim
/-! ### a[i] -/
def isSl : Expr → Bool
  | .Slice _ _ _ _ => true
  | _ => false
theorem plainIx {b : Expr} (h : isSl b = false) : PlainIx b := by
  intro o i
  cases b <;> first | rfl | cases h
/-- the item at a place of any sign -/
def ixO (a : U) (i : Int) (h : List O) : Option U := match a with
  | .d (.str s) => if s.length ≤ 10000000 then (atI s.cps.toList i).bind fun c => if PyData.strOk ⟨#[c]⟩ = true then some (.d (.str ⟨#[c]⟩)) else none else none
  | .lab n => (match h[n]? with
    | some (.lst xs) => (atI xs i).map .d
    | some (.mix xs) => atI xs i
    | _ => none)
  | a => (seqOf a h).bind fun xs => (atI xs i).map .d
def getS (a b : U) (h : List O) : R U := match b with
  | .d (.int i) => (opt (ixO a i h) h).bind fun u h => .ok u h
  | _ => .bad
def getU (a b : U) (h : List O) : R U := match dctOf a h with
  | some kvs => (match b with
    | .d x => (opt ((keyOf x).bind (getK kvs)) h).bind fun d h => .ok (.d d) h
    | _ => .bad)
  | none => getS a b h
def rGetA (K : PySem.W.Frag) : R2 := fun x y H Q => rIx K x y H Q ∨ ∃ a v, x = .ref a ∧ DGet H a y (some v) ∧ Q v H
theorem ix_dict (hu : X.A.units + 64 < cLine) : IxR X (fun x y H Q => ∃ a v, x = .ref a ∧ DGet H a y (some v) ∧ Q v H) := by
  intro value slice pins s σ H x y v u Q I rx ry h hs
  obtain ⟨a, w, rfl, g, q⟩ := h
  cases rx
  exact tail_any (dict_typeIs I g) PySem.F.slot_dict_getitem.lookup (d_getItem (by omega) I g ry fun w' s3 I3 rw' => ⟨w, H, I3, rw', q⟩) hs
theorem ix_A (hu : X.A.units + 64 < cLine) : IxR X (rGetA X.K) := IxR.or ix_seq (ix_dict hu)
theorem ixN_lt {n : Nat} {i : Int} {j : Nat} (h : ixN n i = some j) : j < n := (ixN_seq h).2.1
theorem atI_rel {K : PySem.W.Frag} {H : Hp} {μ : List Addr} {xs : List D} {vs : List V} {i : Int} {d : D} (r : RDs K H μ xs vs) (e : atI xs i = some d) : ∃ v, atI vs i = some v ∧ RD K H μ d v := by
  unfold atI at e ⊢
  rw [← r.length]
  cases z : ixN xs.length i with
  | none => rw [z] at e; cases e
  | some j =>
    rw [z] at e
    exact r.get e
theorem atI_relU {K : PySem.W.Frag} {H : Hp} {μ : List Addr} {xs : List U} {vs : List V} {i : Int} {d : U} (r : RUs K H μ xs vs) (e : atI xs i = some d) : ∃ v, atI vs i = some v ∧ RU K H μ d v := by
  unfold atI at e ⊢
  rw [← r.length]
  cases z : ixN xs.length i with
  | none => rw [z] at e; cases e
  | some j =>
    rw [z] at e
    exact r.get e
theorem ixO_of {K : PySem.W.Frag} {H : Hp} {μ : List Addr} {a w : U} {i : Int} {h : List O} {x : V} {Q : VK} (rh : Rh K H μ h) (r : RU K H μ a x) (e : ixO a i h = some w) (q : ∀ v, RU K H μ w v → Q v H) : rIx K x (.int i) H Q := by
  have seq : ∀ xs, seqOf a h = some xs → (atI xs i).map U.d = some w → rIx K x (.int i) H Q := fun xs es e => by
    obtain ⟨ad, vs, rfl, h1, q1⟩ := seqOf_of rh r es
    cases z : atI xs i with
    | none => rw [z] at e; cases e
    | some d =>
      rw [z] at e
      cases e
      obtain ⟨v, hv, rv⟩ := atI_rel q1 z
      rcases h1 with h1 | h1
      · exact .inl ⟨ad, vs, i, v, rfl, rfl, h1, hv, q v (.d rv)⟩
      · exact .inr (.inl ⟨ad, vs, i, v, rfl, rfl, h1, hv, q v (.d rv)⟩)
  have seq2 : (seqOf a h).bind (fun xs => (atI xs i).map U.d) = some w → rIx K x (.int i) H Q := fun e => by
    cases z : seqOf a h with
    | none => rw [z] at e; cases e
    | some xs => rw [z] at e; exact seq xs z e
  unfold ixO at e
  split at e
  · rename_i s
    by_cases hs : s.length ≤ 10000000
    · rw [if_pos hs] at e
      obtain rfl := r.str_inv
      cases z : atI s.cps.toList i with
      | none => rw [z] at e; cases e
      | some c =>
        rw [z] at e
        have e' : (if PyData.strOk ⟨#[c]⟩ = true then some (U.d (.str ⟨#[c]⟩)) else none) = some w := e
        by_cases hk : PyData.strOk ⟨#[c]⟩ = true
        · rw [if_pos hk] at e'
          cases e'
          exact .inr (.inr ⟨s, i, c, rfl, rfl, by rw [line_eq]; omega, z, q _ (.d (.str _ hk))⟩)
        · rw [if_neg hk] at e'; cases e'
    · rw [if_neg hs] at e; cases e
  · rename_i n
    cases z : h[n]? with
    | none => simp only [z] at e; cases e
    | some o =>
      simp only [z] at e
      cases r with
      | @lab _ ad ra =>
        obtain ⟨ho, h1, h2⟩ := rh.obj n o ad z ra
        cases h2 with
        | lst q1 =>
          have e' : (atI _ i).map U.d = some w := e
          cases z2 : atI _ i with
          | none => rw [z2] at e'; cases e'
          | some d =>
            rw [z2] at e'
            cases e'
            obtain ⟨v, hv, rv⟩ := atI_rel q1 z2
            exact .inl ⟨ad, _, i, v, rfl, rfl, SqL.of h1, hv, q v (.d rv)⟩
        | mix q1 _ =>
          obtain ⟨v, hv, rv⟩ := atI_relU q1 e
          exact .inl ⟨ad, _, i, v, rfl, rfl, SqL.of h1, hv, q v rv⟩
        | dct q1 => cases e
  · exact seq2 e
theorem getU_of {σ : L2.St} {K : PySem.W.Frag} {H : Hp} {μ : List Addr} {a b : U} {h : List O} {x y : V} {Q : VK} (rh : Rh K H μ h) (ra : RU K H μ a x) (rb : RU K H μ b y) (p : Post K W σ H μ (RU K) (getU a b h) Q) : rGetA K x y H Q := by
  unfold getU at p
  cases ed : dctOf a h with
  | some kvs =>
    rw [ed] at p
    obtain ⟨n, ad, vs, rfl, hn, rfl, h1, q⟩ := dctOf_of rh ra ed
    cases rb with
    | @d dd _ rb =>
      obtain ⟨d, e, p⟩ := Post.opt p
      cases e2 : keyOf dd with
      | none => rw [e2] at e; cases e
      | some kk =>
        rw [e2] at e
        have := keyOf_of rb e2
        subst this
        obtain ⟨v, hv, rv⟩ := (getK_rel q kk).1 d e
        exact .inr ⟨ad, v, rfl, by rw [← hv]; exact DGet.k h1, p.ret rh (.d rv)⟩
    | _ => exact p.elim
  | none =>
    rw [ed] at p
    have p' : Post K W σ H μ (RU K) (getS a b h) Q := p
    unfold getS at p'
    split at p'
    · rename_i i
      obtain ⟨w, e, p2⟩ := Post.opt p'
      obtain rfl := rb.int_inv
      exact .inl (ixO_of rh ra e fun v rv => p2.ret rh rv)
    · exact p'.elim
theorem den_ix {a b : Expr} {pos : Pos} {fa fb : En → List O → R U} (hu : X.A.units + 64 < cLine) (ha : Den X W a fa) (hb : Den X W b fb) (hs : isSl b = false) : Den X W (.Subscript a b pos) (ev2 fa fb getU) := by
  obtain ⟨ta, pa, ca⟩ := ha
  obtain ⟨tb, pb, cb⟩ := hb
  exact ⟨_, pe_ix (ix_A hu) pa pb (plainIx hs), two ca cb fun a b h σ H μ x y Q rh ra rb p => getU_of rh ra rb p⟩
end
end Py

namespace Py
open PySem PySem.Spec PyProof.Rows L2
section
variable {X : Cx} {W : WX}
/-! ### slices -/
def relI (_ : Hp) (_ : List Addr) (a b : Option Int) : Prop := a = b
def DenO (X : Cx) (W : WX) (e : Option Expr) (f : En → List O → R (Option Int)) : Prop :=
  ∃ t, PO X e t ∧ ∀ σ' h σ H μ Q, RE X.K H μ σ' σ → Rh X.K H μ h → Post X.K W σ H μ relI (f σ' h) Q → t σ H Q
def evNo : En → List O → R (Option Int) := fun _ h => .ok none h
def asI : U → Option Int
  | .d (.int i) => some i
  | _ => none
theorem asI_of {K : PySem.W.Frag} {H : Hp} {μ : List Addr} {u : U} {x : V} {i : Int} (r : RU K H μ u x) (e : asI u = some i) : x = .int i := by
  cases r with
  | d r => cases r <;> cases e; rfl
  | _ => cases e
def evPart (f : En → List O → R U) : En → List O → R (Option Int) := fun σ h => (f σ h).bind fun u h => (opt (asI u) h).bind fun i h => .ok (some i) h
theorem deno_none : DenO X W none evNo := ⟨_, po_none, fun σ' h σ H μ Q re rh p => p.ret rh rfl⟩
theorem deno_some {e : Expr} {f : En → List O → R U} (hf : Den X W e f) : DenO X W (some e) (evPart f) := by
  obtain ⟨ta, pa, ca⟩ := hf
  refine ⟨_, po_some pa, fun σ' h σ H μ Q re rh p => ?_⟩
  refine ca σ' h σ H μ _ re rh (Post.bind p fun u h1 H1 μ1 x e1 rh1 ru p1 => ?_)
  obtain ⟨i, ei, p2⟩ := Post.opt p1
  exact ⟨i, asI_of ru ei, p2.ret rh1 rfl⟩
def cut {α : Type} (xs : List α) (lo hi : Option Int) : List α := (xs.drop (HT.sIx xs.length 0 lo)).take (HT.sIx xs.length xs.length hi - HT.sIx xs.length 0 lo)
theorem cut_rel {K : PySem.W.Frag} {H : Hp} {μ : List Addr} {xs : List D} {vs : List V} (r : RDs K H μ xs vs) (lo hi : Option Int) : RDs K H μ (cut xs lo hi) (cutV vs lo hi) := by
  unfold cut cutV
  rw [r.length]
  exact (r.drop _).take _
def slU (m : Bool) (a : U) (lo hi : Option Int) (h : List O) : R U := match a with
  | .d (.tuple xs) => .ok (.d (.tuple (cut xs lo hi))) h
  | .d (.str s) => if s.length ≤ 10000000 ∧ PyData.strOk (cutS s lo hi) = true then .ok (.d (.str (cutS s lo hi))) h else .bad
  | a => (opt (lstLike a h) h).bind fun xs h => mkL m (cut xs lo hi) h
def rSlX (K : PySem.W.Frag) : V → Option Int → Option Int → Hp → VK → Prop := fun x lo hi H Q => rSlL K x lo hi H Q ∨ (rSlA K x lo hi H Q ∨ rSlS x lo hi H Q)
theorem sl_X : SlR X (rSlX X.K) := SlR.or sl_list (SlR.or sl_tupA sl_str)
theorem slU_of {K : PySem.W.Frag} {σ : L2.St} {H : Hp} {μ : List Addr} {m : Bool} {a : U} {lo hi : Option Int} {h : List O} {x : V} {Q : VK} (rh : Rh K H μ h) (ra : RU K H μ a x) (p : Post K W σ H μ (RU K) (slU m a lo hi h) Q) : rSlX K x lo hi H Q := by
  unfold slU at p
  split at p
  · rename_i xs
    obtain ⟨ad, vs, rfl, h1, q⟩ := ra.tup_inv
    refine .inr (.inl ⟨ad, vs, rfl, h1.sq, fun hw => ?_, fun hw => ?_⟩)
    · have e : cut xs lo hi = xs := by
        unfold cut
        rw [q.length, hw.1, hw.2, List.drop_zero, Nat.sub_zero, ← q.length, List.take_length]
      rw [e] at p
      exact p.ret rh ra
    · exact tup_of rh (cut_rel q lo hi) p
  · rename_i s
    split at p
    · rename_i hs
      obtain rfl := ra.str_inv
      exact .inr (.inr ⟨s, rfl, by rw [line_eq]; omega, p.ret rh (.d (.str _ hs.2))⟩)
    · exact p.elim
  · obtain ⟨xs, e, p⟩ := Post.opt p
    obtain ⟨ad, vs, rfl, h1, q⟩ := lstLike_of rh ra e
    exact .inl ⟨ad, vs, rfl, h1, mkL_of rh (cut_rel q lo hi) p⟩
def evSl (m : Bool) (f : En → List O → R U) (l u : En → List O → R (Option Int)) : En → List O → R U := fun σ h => (f σ h).bind fun a h1 => (l σ h1).bind fun lo h2 => (u σ h2).bind fun hi h3 => slU m a lo hi h3
theorem den_sl {m : Bool} {e : Expr} {lo hi : Option Expr} {p2 pos : Pos} {f : En → List O → R U} {l u : En → List O → R (Option Int)} (hf : Den X W e f) (hl : DenO X W lo l) (hu : DenO X W hi u) : Den X W (.Subscript e (.Slice lo hi none p2) pos) (evSl m f l u) := by
  obtain ⟨ta, pa, ca⟩ := hf
  obtain ⟨tl, pl, cl⟩ := hl
  obtain ⟨tu, pu, cu⟩ := hu
  refine ⟨_, pe_slice sl_X pa pl pu, fun σ' h σ H μ Q re rh p => ?_⟩
  refine ca σ' h σ H μ _ re rh (Post.bind p fun a h1 H1 μ1 x e1 rh1 ra p1 => ?_)
  refine cl σ' h1 σ H1 μ1 _ (re.ext e1) rh1 (Post.bind p1 fun lo h2 H2 μ2 lo' e2 rh2 rl p2 => ?_)
  refine cu σ' h2 σ H2 μ2 _ (re.ext (e1.trans e2)) rh2 (Post.bind p2 fun hi h3 H3 μ3 hi' e3 rh3 ru p3 => ?_)
  cases rl
  cases ru
  exact slU_of rh3 (ra.ext (e2.trans e3)) p3
/-! ### methods of built-in types -/
def isCall : Expr → Bool
  | .Call _ _ _ _ => true
  | _ => false
theorem base_of {o : Expr} {name : Str} {env : Env} {w : Sem Value} (h : isCall o = false) : attributeBase o name env w = w := by
  cases o <;> first | rfl | cases h
/-- the receiver's type is right -/
def TyD (X : Cx) (T : String) (c : U → List O → Bool) : Prop := ∀ u h H μ x, Rh X.K H μ h → RU X.K H μ u x → c u h = true → tyV X.K T x H
def MeD (X : Cx) (W : WX) (r : V → List V → Hp → VK → Prop) (g : U → List U → List O → R U) : Prop :=
  ∀ u us h σ H μ x xs Q, Rh X.K H μ h → RU X.K H μ u x → RUs X.K H μ us xs → Post X.K W σ H μ (RU X.K) (g u us h) Q → r x xs H Q
def evMe (c : U → List O → Bool) (fo : En → List O → R U) (fa : En → List O → R (List U)) (g : U → List U → List O → R U) : En → List O → R U := fun σ h => (fo σ h).bind fun u h1 => if c u h1 = true then (fa σ h1).bind fun us h2 => g u us h2 else .bad
theorem den_me {o e : Expr} {es : List Expr} {name : Str} {apos cpos : Pos} {T id : String} {r : V → List V → Hp → VK → Prop} {c : U → List O → Bool} {g : U → List U → List O → R U} {fo : En → List O → R U} {fa : En → List O → R (List U)}
    (pa : PlainAttrs T) (slot : Slot T name id) (hty : typeOf (.builtin id) = pure (.type "method_descriptor")) (hm : MtR X id r) (hc : TyD X T c) (hg : MeD X W r g) (ho : Den X W o fo) (ha : DenA X W (e :: es) fa)
    (hb : isCall o = false) (hns : noStar (e :: es) = true) (hlen : (e :: es).length < 30) (hline : (apos.endLine == cpos.line) = true) : Den X W (.Call (.Attribute o name apos) (e :: es) [] cpos) (evMe c fo fa g) := by
  obtain ⟨to, po, co⟩ := ho
  obtain ⟨ta, pA, cA⟩ := ha
  obtain ⟨n1, n2⟩ := noStar_cons hns
  refine ⟨_, pe_bm pa slot hty hm po pA (base_of hb) (by rw [noStar_few hns]; simpa [keywordEach, backToKw] using hlen) hline (star1 n1) (noStar_any n2), fun σ' h σ H μ Q re rh p => ?_⟩
  refine co σ' h σ H μ _ re rh (Post.bind p fun u h1 H1 μ1 x e1 rh1 ru p1 => ?_)
  by_cases hcu : c u h1 = true
  · rw [if_pos hcu] at p1
    refine ⟨hc u h1 H1 μ1 x rh1 ru hcu, ?_⟩
    exact cA σ' h1 σ H1 μ1 _ (re.ext e1) rh1 (Post.bind p1 fun us h2 H2 μ2 xs e2 rh2 rus p2 => hg u us h2 σ H2 μ2 x xs Q rh2 (ru.ext e2) rus p2)
  · rw [if_neg hcu] at p1
    exact p1.elim
theorem den_me0 {o : Expr} {name : Str} {apos cpos : Pos} {T id : String} {r : V → List V → Hp → VK → Prop} {c : U → List O → Bool} {g : U → List U → List O → R U} {fo : En → List O → R U}
    (pa : PlainAttrs T) (slot : Slot T name id) (hty : typeOf (.builtin id) = pure (.type "method_descriptor")) (hm : MtR X id r) (hc : TyD X T c) (hg : MeD X W r g) (ho : Den X W o fo)
    (hb : isCall o = false) (hline : (apos.endLine == cpos.line) = true) : Den X W (.Call (.Attribute o name apos) [] [] cpos) (evMe c fo evNil g) := by
  obtain ⟨to, po, co⟩ := ho
  refine ⟨_, pe_bm0 pa slot hty hm po (base_of hb) hline, fun σ' h σ H μ Q re rh p => ?_⟩
  refine co σ' h σ H μ _ re rh (Post.bind p fun u h1 H1 μ1 x e1 rh1 ru p1 => ?_)
  by_cases hcu : c u h1 = true
  · rw [if_pos hcu] at p1
    exact ⟨hc u h1 H1 μ1 x rh1 ru hcu, hg u [] h1 σ H1 μ1 x [] Q rh1 ru .nil p1⟩
  · rw [if_neg hcu] at p1
    exact p1.elim
/-! ### lists -/
def isLst (u : U) (h : List O) : Bool := match u with
  | .d (.list _) => true
  | .lab n => (match h[n]? with
    | some (.lst _) => true
    | some (.mix _) => true
    | _ => false)
  | _ => false
theorem ty_list : TyD X "list" isLst := by
  intro u h H μ x rh ru c
  cases ru with
  | d r =>
    cases r with
    | lst h1 _ _ => exact .inl ⟨rfl, _, SqL.of h1⟩
    | _ => cases c
  | @lab n a r =>
    unfold isLst at c
    cases e : h[n]? with
    | none => simp only [e] at c; cases c
    | some o =>
      simp only [e] at c
      obtain ⟨ho, h1, h2⟩ := rh.obj n o a e r
      cases h2 with
      | lst q => exact .inl ⟨rfl, _, SqL.of h1⟩
      | mix q _ => exact .inl ⟨rfl, _, SqL.of h1⟩
      | dct q => cases c
  | _ => cases c
def appG (u : U) (us : List U) (h : List O) : R U := match u, us with
  | .lab n, [w] => (match h[n]? with
    | some (.lst xs) => (match w with
      | .d d => if xs.length < 10000000 then .ok (.d .none) (h.set n (.lst (xs ++ [d]))) else .bad
      | _ => .bad)
    | some (.mix xs) => if xs.length < 10000000 ∧ w.below n then .ok (.d .none) (h.set n (.mix (xs ++ [w]))) else .bad
    | _ => .bad)
  | _, _ => .bad
theorem RUs.append {K : PySem.W.Frag} {H : Hp} {μ : List Addr} {xs ys : List U} {vs ws : List V} (h : RUs K H μ xs vs) (g : RUs K H μ ys ws) : RUs K H μ (xs ++ ys) (vs ++ ws) := by
  induction h with
  | nil => exact g
  | cons hx _ ih => exact .cons hx ih
theorem me_append : MeD X W rAppend appG := by
  intro u us h σ H μ x xs Q rh ru rus p
  unfold appG at p
  split at p
  · rename_i n w
    cases ru with
    | @lab _ a ra =>
      cases rus with
      | cons rw rn =>
        cases rn
        cases e : h[n]? with
        | none => simp only [e] at p; exact p.elim
        | some o =>
          simp only [e] at p
          obtain ⟨ho, h1, h2⟩ := rh.obj n o a e ra
          cases h2 with
          | @lst ys vs q =>
            cases rw with
            | d rd =>
              have p' : Post X.K W σ H μ (RU X.K) (if ys.length < 10000000 then .ok (.d .none) (h.set n (.lst (ys ++ [_]))) else .bad) Q := p
              by_cases hl : ys.length < 10000000
              · rw [if_pos hl] at p'
                exact ⟨a, vs, _, rfl, rfl, h1, by rw [← q.length, line_eq]; omega, p' _ _ _ (Ext.chg ra) (rh.chg ra (.lst (q.append (.cons rd .nil)))) (.d .non)⟩
              · rw [if_neg hl] at p'; exact p'.elim
            | _ => exact p.elim
          | @mix ys vs q b =>
            have p' : Post X.K W σ H μ (RU X.K) (if ys.length < 10000000 ∧ w.below n then .ok (.d .none) (h.set n (.mix (ys ++ [w]))) else .bad) Q := p
            by_cases hl : ys.length < 10000000 ∧ w.below n
            · rw [if_pos hl] at p'
              refine ⟨a, vs, _, rfl, rfl, h1, by rw [← q.length, line_eq]; omega, p' _ _ _ (Ext.chg ra) (rh.chg ra (.mix (q.append (.cons rw .nil)) fun z hz => ?_)) (.d .non)⟩
              rcases List.mem_append.mp hz with hz | hz
              · exact b z hz
              · rw [List.mem_singleton] at hz; subst hz; exact hl.2
            · rw [if_neg hl] at p'; exact p'.elim
          | dct q => exact p.elim
  · exact p.elim
/-- pop() and pop(0) -/
def popG (u : U) (us : List U) (h : List O) : R U := match u with
  | .lab n => (match us with
    | [] => (match h[n]? with
      | some (.lst xs) => (opt (xs[xs.length - 1]?) h).bind fun d h => .ok (.d d) (h.set n (.lst xs.dropLast))
      | _ => .bad)
    | [.d (.int i)] => (match h[n]? with
      | some (.lst xs) => if 0 ≤ i ∧ i < 10000000 then (opt (xs[i.toNat]?) h).bind fun d h => .ok (.d d) (h.set n (.lst (xs.eraseIdx i.toNat))) else .bad
      | _ => .bad)
    | _ => .bad)
  | _ => .bad
def rPopA : V → List V → Hp → VK → Prop := fun x vs H Q => rPop x vs H Q ∨ rPopAt x vs H Q
theorem mt_popA : MtR X "list.pop" rPopA := MtR.or mt_pop mt_popAt
theorem me_pop : MeD X W rPopA popG := by
  intro u us h σ H μ x xs Q rh ru rus p
  unfold popG at p
  split at p
  · rename_i n
    cases ru with
    | @lab _ a ra =>
      split at p
      · cases rus
        split at p
        · rename_i ys e
          obtain ⟨d, ed, p⟩ := Post.opt p
          obtain ⟨ho, h1, h2⟩ := rh.obj n _ a e ra
          cases h2 with
          | @lst _ vs q =>
            obtain ⟨v, hv, rv⟩ := q.get ed
            rw [q.length] at hv
            exact .inl ⟨a, vs, v, rfl, rfl, h1, hv, p _ _ _ (Ext.chg ra) (rh.chg ra (.lst q.dropLast)) (.d (rv.ext (Ext.chg ra)))⟩
        · exact p.elim
      · rename_i i
        cases rus with
        | cons r1 r2 =>
          cases r2
          obtain rfl := r1.int_inv
          split at p
          · rename_i ys e
            split at p
            · rename_i hi
              obtain ⟨d, ed, p⟩ := Post.opt p
              obtain ⟨ho, h1, h2⟩ := rh.obj n _ a e ra
              cases h2 with
              | @lst _ vs q =>
                obtain ⟨v, hv, rv⟩ := q.get ed
                have hl := (List.getElem?_eq_some_iff.mp hv).1
                exact .inr ⟨a, vs, i, i.toNat, v, rfl, rfl, h1, by omega, by omega, seqIndex_of hi.1 (by omega), hv, p _ _ _ (Ext.chg ra) (rh.chg ra (.lst (q.eraseIdx _))) (.d (rv.ext (Ext.chg ra)))⟩
            · exact p.elim
          · exact p.elim
      · exact p.elim
  · exact p.elim
/-- extend by a list or a tuple -/
theorem list_extend_tupG (l : Addr) (items : Array Value) (n : Nat) (b : Addr) (items2 : Array Value) (n2 : Nat) (dd : Option Addr) (sl : Array (Option Value)) (hs0 : ¬(!items.isEmpty && Builtin.List.listTooLong (items.size + items2.size)) = true) (hs1 : items.size ≤ sizeLine) (hs2 : items.size + items2.size ≤ sizeLine + 1) :
    Meets (Builtin.«list.extend» ⟨[.ref l, .ref b], []⟩) (fun _ R s => s.heap.get? l = some { cls := .type "list", dict := none, data := .seq items n, slots := #[] } ∧ s.heap.get? b = some { cls := .type "tuple", dict := dd, data := .seq items2 n2, slots := sl } ∧ R (.ok (.ret Value.none)) { s with heap := s.heap.update l (Obj.mapSeq fun x => x ++ items2), toks := s.toks }) :=
  .of_wp fun prog w A R s h => by
    obtain ⟨hp, g, d, tk, os⟩ := s; obtain ⟨hl, hb, h⟩ := h; have f1 := AutoSeq1.idx_int; have f2 := AutoSeq1.sub_tuple_tuple; have f3 := AutoSeq1.sub_list_list; have f4 := AutoSeq1.sub_tuple_list; have f5 := AutoSeq1.sub_list_tuple;
    have hz' : (items ++ items2).size ≤ sizeLine + 1 := by rw [Array.size_append]; exact hs2
    wp_walk using (wpAny_updateSeq hl rfl (hz := hs1) (_hz' := hz')), AutoSeq1.wpAny_loadPart' hl, AutoSeq1.wpAny_loadPart' hb; exact ⟨_, rfl, h⟩
def rExtT (K : PySem.W.Frag) : V → List V → Hp → VK → Prop := fun x vs H Q => ∃ l b xs zs, x = .ref l ∧ vs = [.ref b] ∧ H l = some (.lst xs) ∧ SqT K H b zs ∧ xs.length + zs.length ≤ sizeLine ∧ Q .non (upd H l (.lst (xs ++ zs)))
theorem mt_extT : MtR X "list.extend" (rExtT X.K) := by
  intro pins s σ H x vs v us Q I rx rv h
  obtain ⟨l, b, xs, zs, rfl, rfl, hH, hB, hz, q⟩ := h
  cases rx
  obtain ⟨u, rfl, ru⟩ := rv.one
  cases ru
  obtain ⟨z, its, n, r, hl, e⟩ := I.lstM hH
  obtain ⟨its2, r2, ⟨⟨cls, dd, data, sl⟩, e2, hc, n2, hd⟩, hz2⟩ := I.tuple hB
  simp only at hc hd
  subst hc hd
  have hl2 := r2.length
  have hsz : its.toArray.size + its2.toArray.size ≤ sizeLine := by rw [List.size_toArray, List.size_toArray]; omega
  have hlong : ¬ (!its.toArray.isEmpty && Builtin.List.listTooLong (its.toArray.size + its2.toArray.size)) = true := by
    rw [notLongL hsz, Bool.and_false]
    exact Bool.false_ne_true
  refine call_meets F.slot_list_extend ⟨_, e, rfl⟩ F.entry_list_extend (F.args_list_extend_2 _ _)
    (list_extend_tupG l its.toArray n b its2.toArray n2 dd sl hlong (by rw [List.size_toArray]; omega) (by omega)) ⟨e, e2, ?_⟩
  refine ⟨.non, _, I.lset (its' := its ++ its2) hH e (by simp) (r.append r2) ?_, rfl, q⟩
  rw [List.length_append]
  omega
def rExtA (K : PySem.W.Frag) : V → List V → Hp → VK → Prop := fun x vs H Q => rExtend x vs H Q ∨ rExtT K x vs H Q
theorem mt_extA : MtR X "list.extend" (rExtA X.K) := MtR.or mt_extend mt_extT
def extG (u : U) (us : List U) (h : List O) : R U := match u, us with
  | .lab n, [w] => (match h[n]? with
    | some (.lst xs) => (match w with
      | .d (.tuple ys) => if xs.length + ys.length < 10000000 then .ok (.d .none) (h.set n (.lst (xs ++ ys))) else .bad
      | w => (opt (listOf w h) h).bind fun ys h => if xs.length + ys.length < 10000000 then .ok (.d .none) (h.set n (.lst (xs ++ ys))) else .bad)
    | _ => .bad)
  | _, _ => .bad
theorem me_ext : MeD X W (rExtA X.K) extG := by
  intro u us h σ H μ x xs Q rh ru rus p
  unfold extG at p
  split at p
  · rename_i n w
    cases ru with
    | @lab _ a ra =>
      cases rus with
      | cons rw rn =>
        cases rn
        split at p
        · rename_i ys e
          obtain ⟨ho, h1, h2⟩ := rh.obj n _ a e ra
          cases h2 with
          | @lst _ vs q =>
            split at p
            · rename_i zs
              split at p
              · rename_i hl
                obtain ⟨ad, ws, rfl, h3, q3⟩ := rw.tup_inv
                exact .inr ⟨a, ad, vs, ws, rfl, rfl, h1, h3.sq, by rw [← q.length, ← q3.length, line_eq]; omega, p _ _ _ (Ext.chg ra) (rh.chg ra (.lst (q.append q3))) (.d .non)⟩
              · exact p.elim
            · obtain ⟨zs, ez, p⟩ := Post.opt p
              split at p
              · rename_i hl
                obtain ⟨ad, ws, rfl, h3, q3⟩ := listOf_of rh rw ez
                exact .inl ⟨a, ad, vs, ws, rfl, rfl, h1, h3, by rw [← q.length, ← q3.length, line_eq]; omega, p _ _ _ (Ext.chg ra) (rh.chg ra (.lst (q.append q3))) (.d .non)⟩
              · exact p.elim
        · exact p.elim
  · exact p.elim
/-! ### bit_length -/
theorem den_bits {o : Expr} {apos pos : Pos} {fo : En → List O → R U} (ho : Den X W o fo) (hb : isCall o = false) (hline : (apos.endLine == pos.line) = true) : Den X W (.Call (.Attribute o "bit_length" apos) [] [] pos) (ev1 fo fun u h => (opt (asI u) h).bind fun i h => .ok (.d (.int (Builtin.Int.intBits i : Nat))) h) := by
  obtain ⟨to, po, co⟩ := ho
  refine ⟨_, pe_bits po (base_of hb) hline, fun σ' h σ H μ Q re rh p => ?_⟩
  refine co σ' h σ H μ _ re rh (Post.bind p fun u h1 H1 μ1 x e1 rh1 ru p1 => ?_)
  obtain ⟨i, ei, p2⟩ := Post.opt p1
  exact ⟨i, asI_of ru ei, p2.ret rh1 (.d (.int _))⟩
/-! ### max with default= -/
def rMaxDf (K : PySem.W.Frag) : List V → List V → Hp → VK → Prop := fun xs zs H Q => ∃ (a : Addr) (ns : List Int) (d : Int), xs = [V.ref a] ∧ zs = [.int d] ∧ SqL K H a (ns.map V.int) ∧ (ns = [] → Q (.int d) H) ∧ ∀ m r, ns = m :: r → Q (.int (maxL m r)) H
theorem alike_ints (ns : List Int) : PySem.W.AlikeAll (ns.map PyData.int) := by
  refine ⟨fun x hx y hy => ?_, fun x hx => ?_⟩
  · obtain ⟨i, _, rfl⟩ := List.mem_map.mp hx
    obtain ⟨j, _, rfl⟩ := List.mem_map.mp hy
    rfl
  · obtain ⟨i, _, rfl⟩ := List.mem_map.mp hx
    exact fun e => by cases e
theorem maxL_fold : ∀ (r : List Int) (m : Int), r.foldl max m = maxL m r
  | [], m => rfl
  | x :: r, m => by
    rw [List.foldl_cons, maxL_fold r, maxL]
    congr 1
    by_cases h : x > m
    · rw [if_pos h]; omega
    · rw [if_neg h]; omega
theorem vals_ints {h : Heap} : ∀ {ns : List Int} {us : List Value}, Vals (ns.map V.int) us → ReadsAll h us (ns.map PyData.int) []
  | [], _, r => by cases r; exact .nil
  | n :: ns, _, r => by
    cases r with
    | cons h1 h2 =>
      obtain ⟨t, rfl⟩ := h1
      exact .cons (.int n t) (vals_ints h2)
theorem depth_ints : ∀ ns : List Int, PyData.depthAll (ns.map PyData.int) ≤ 1
  | [] => by decide
  | n :: ns => by
    have := depth_ints ns
    show max (PyData.depth (.int n)) (PyData.depthAll (ns.map PyData.int)) ≤ 1
    have e : PyData.depth (.int n) ≤ 1 := by unfold PyData.depth; decide
    omega
theorem cr_maxDf (hc : X.calm = true) (hu : X.A.units + 64 < cLine) : CallRK X (.builtin "max") [Str.ofString "default"] (rMaxDf X.K) := by
  intro pins s σ H xs zs us ws Q I rv rw q
  obtain ⟨a, ns, d, e1, e2, hq, q0, q1⟩ := q
  subst e1 e2
  cases rv with
  | cons ru rn =>
    cases rn
    cases ru
    cases rw with
    | cons rd rn =>
      cases rn
      obtain ⟨t, rfl⟩ := rd
      obtain ⟨its, rv, p, hz⟩ := I.list hq
      have hd := depth_ints ns
      refine PySem.W.max_list_default (I.ok.hd hc) p.isList (xs := ns.map PyData.int) (as := []) (by simpa using vals_ints rv) (alike_ints ns) (by omega) (fun e h' tk hk => ?_) (fun y ys i v h' tk bs e hv hr hk => ?_)
      · have e' : ns = [] := by simpa using e
        exact ⟨.int d, H, I.kept (t' := tk) hk, ⟨_, rfl⟩, q0 e'⟩
      · cases ns with
        | nil => simp at e
        | cons m r =>
          rw [List.map_cons] at e
          cases e
          rw [PySem.W.maxD_ints, maxL_fold] at hr
          obtain ⟨t', rfl, _⟩ := reads_int_inv hr
          exact ⟨.int _, H, I.kept (t' := tk) hk, ⟨_, rfl⟩, q1 m r rfl⟩
def maxDU (u d : U) (h : List O) : R U := (opt ((listOf u h).bind intsOf) h).bind fun bs h => (opt (asI d) h).bind fun k h => match bs with
  | [] => .ok (.d (.int k)) h
  | m :: r => .ok (.d (.int (maxL m r))) h
theorem den_maxD {e d : Expr} {p pos kpos : Pos} {fe fd : En → List O → R U} (hc : X.calm = true) (hu : X.A.units + 64 < cLine) (gl : Gl X "max") (hm : X.mg "max" = none) (he : Den X W e fe) (hd : Den X W d fd) (hs : isStar e = false) :
    Den X W (.Call (.Name "max" p) [e] [⟨some "default", d, kpos⟩] pos) (ev2 fe fd maxDU) := by
  obtain ⟨te, pe, ce⟩ := he
  obtain ⟨td, pd, cd⟩ := hd
  have hns : noStar [e] = true := by unfold noStar; simp [hs]
  refine ⟨_, pe_callBK (cr_maxDf hc hu) gl hm (by rfl) (pa_cons pe pa_nil (star1 hs)) (pk_cons pd pk_nil) (by decide) (by decide) (noStar_back hns) (noStar_any hns) (by rfl) (by rfl) (by rfl), fun σ' h σ H μ Q re rh p => ?_⟩
  refine ce σ' h σ H μ _ re rh (Post.bind p fun u h1 H1 μ1 x e1 rh1 ru p1 => ?_)
  refine cd σ' h1 σ H1 μ1 _ (re.ext e1) rh1 (Post.bind p1 fun w h2 H2 μ2 y e2 rh2 rw p2 => ?_)
  obtain ⟨bs, eb, p3⟩ := Post.opt p2
  obtain ⟨k, ek, p4⟩ := Post.opt p3
  obtain ⟨a, rfl, ha⟩ := ints_list rh2 (ru.ext e2) eb
  have ey := asI_of rw ek
  subst ey
  refine ⟨a, bs, k, rfl, rfl, SqL.of ha, fun e => ?_, fun m r e => ?_⟩
  · subst e
    exact p4.ret rh2 (.d (.int _))
  · subst e
    exact p4.ret rh2 (.d (.int _))
end
end Py

/-! what loops walk; targets; comprehensions -/
namespace PySem
open Sem (wp)
set_option maxHeartbeats 1000000 in
theorem meets_enumerate_newTup (l : Addr) (items : Array Value) (n : Nat) (dct : Option Addr) (sl : Array (Option Value)) :
    Meets (Builtin.«enumerate.__new__» ⟨[.type "enumerate", .ref l], []⟩) (fun _ R s => s.heap.get? l = some ⟨.type "tuple", dct, .seq items n, sl⟩ ∧
      R (.ok (.ret (.ref (s.heap.push { cls := .type "tuple_iterator", data := .fields #[.ref l, .int 0 0] }).objs.size)))
        { s with heap := (s.heap.push { cls := .type "tuple_iterator", data := .fields #[.ref l, .int 0 0] }).push { cls := .type "enumerate", data := .fields #[.none, .bool false, .ref s.heap.objs.size, rawInt 0, .none, .none] } }) :=
  .of_wp fun prog w A R s h => by
    obtain ⟨hp, g, d, tk, os⟩ := s; obtain ⟨h1, h⟩ := h
    have hsub := sub_enumerate
    have q1 : ∀ {A' : Around} {E : Value → Shared → Prop} {Q : Value → Shared → Prop}, Q (.ref hp.objs.size) ⟨hp.push { cls := .type "tuple_iterator", data := .fields #[.ref l, .int 0 0] }, g, d, tk, os⟩ → wpAny (model prog w) A' (pyIter (.ref l)) Q E ⟨hp, g, d, tk, os⟩ :=
      fun q => wpAny_pyIter_tuple (s := ⟨hp, g, d, tk, os⟩) (items := items) ⟨_, h1, rfl, n, rfl⟩ q
    wp_walk using q1
    refine wpAny_stack_any fun st => wpAny_pure ?_
    split
    · rename_i c _ _ _ _ _
      cases (c == Value.type "enumerate")
      · wp_walk using q1
        exact ⟨_, rfl, h⟩
      · wp_walk using q1
        exact ⟨_, rfl, h⟩
    · wp_walk using q1
      exact ⟨_, rfl, h⟩
section
variable {prog : Program} {w : World} {A : Around} {E : Value → Shared → Prop} {s : Shared}
theorem call_enumerate_tup {l : Addr} {items : Array Value} {Q : Value → Shared → Prop} (hL : s.heap.IsTuple l items)
    (h : ∀ h', IsEnum h' (s.heap.objs.size + 1) s.heap.objs.size 0 .none → h'.IsTupleIter s.heap.objs.size l 0 → h'.objs.size = s.heap.objs.size + 2 →
      (∀ b o, s.heap.get? b = some o → h'.get? b = some o) → Q (.ref (s.heap.objs.size + 1)) { s with heap := h' }) :
    wpAny (model prog w) A (call (.type "enumerate") [.ref l]) Q E s := by
  obtain ⟨⟨cl, dc, da, slo⟩, hl, hcl, nn, hda⟩ := hL
  replace hcl : cl = .type "tuple" := hcl
  replace hda : da = .seq items nn := hda
  subst hcl hda
  refine callType_new F.called_enumerate (by decide) (F.typeCall_enumerate_1 _) (F.newCall_enumerate_1 _) (fun ob => F.args_object_init_2 ob _) F.entry_enumerate_new
    (meets_enumerate_newTup l items nn dc slo) ⟨hl, ?_⟩
  have hsize : (s.heap.push { cls := .type "tuple_iterator", data := .fields #[.ref l, .int 0 0] }).objs.size = s.heap.objs.size + 1 := Heap.size_push ..
  show _ ∧ _
  rw [hsize]
  have hen : IsEnum ((s.heap.push { cls := .type "tuple_iterator", data := .fields #[.ref l, .int 0 0] }).push
      { cls := .type "enumerate", data := .fields #[.none, .bool false, .ref s.heap.objs.size, rawInt 0, .none, .none] }) (s.heap.objs.size + 1) s.heap.objs.size 0 .none := by
    have z := Heap.get?_push_size (s.heap.push { cls := .type "tuple_iterator", data := .fields #[.ref l, .int 0 0] })
      (o := { cls := .type "enumerate", data := .fields #[.none, .bool false, .ref s.heap.objs.size, rawInt 0, .none, .none] }) rfl
    rw [hsize] at z; exact z
  refine ⟨⟨_, hen, rfl⟩, h _ hen ⟨_, Heap.get?_push_of_some _ (Heap.get?_push_size _ rfl), rfl, rfl⟩ (by rw [Heap.size_push, hsize]) fun b o z => Heap.get?_push_of_some _ (Heap.get?_push_of_some _ z)⟩
end
end PySem
namespace Py
open PySem PySem.Spec PyProof.Rows L2
/-! ### enumerate of a tuple -/
def IteT (K : PySem.W.Frag) (a : Addr) : It :=
  ⟨fun i H => ∃ (xs : List V) (x : V), SqT K H a xs ∧ xs[i]? = some x, fun i H v H' => ∃ T x, v = .ref T ∧ H T = none ∧ H' = upd H T (.tup [.int (i : Nat), x]) ∧ ∀ xs, SqT K H a xs → xs[i]? = some x, fun i H => ∃ xs : List V, SqT K H a xs ∧ xs.length ≤ i⟩
theorem enum_ne_tup {h : Heap} {e it a : Addr} {c : Int} {old : Value} {items : Array Value} (he : IsEnum h e it c old) (ht : h.IsTuple a items) : e ≠ a := by
  rintro rfl
  obtain ⟨o, ho, hc, _⟩ := ht
  rw [show h.get? e = some _ from he] at ho
  cases ho
  exact absurd (Value.type.inj hc) (by decide)
theorem turn_enumTup {P : Program} {w : World} {K : PySem.W.Frag} {elts : List Expr} {kk : Nat} {tpos : Pos} (a e it : Addr) :
    Turn P w K (.Tuple elts kk tpos) (IteT K a) [e, it] e (fun i h => (∃ old, IsEnum h e it ((i : Nat) : Int) old) ∧ h.IsTupleIter it a i ∧ e ≠ it) where
  mem := by simp
  obj := fun i h st b hb => by
    obtain ⟨⟨old, he⟩, ⟨o, ho, hc, hd⟩, _⟩ := st
    have alt : b = e ∨ b = it := by simpa using hb
    rcases alt with z | z
    · rw [z]; exact ⟨_, he, fun v q => nomatch q⟩
    · rw [z]; exact ⟨o, ho, fun v q => by rw [hd] at q; cases q⟩
  keep := fun i h h' st k => let ⟨⟨old, he⟩, hi, hne⟩ := st; ⟨⟨old, k e (by simp) _ he⟩, hi.at fun o q => k it (by simp) o q, hne⟩
  item := by
    intro X hP hw hK hc i pins s σ H E I hf st hg
    subst hP hw hK
    obtain ⟨⟨old, he⟩, hit, hne⟩ := st
    obtain ⟨xs, x, hq, hx⟩ := hg
    obtain ⟨its, rv, p, hz⟩ := I.tuple hq
    have pt : s.heap.IsTuple a its.toArray := p
    obtain ⟨u, hu, ru⟩ := rv.get hx
    have hel : e < s.heap.objs.size := Heap.lt_size he
    have hil : it < s.heap.objs.size := by obtain ⟨_, q, _⟩ := hit; exact Heap.lt_size q
    have hae : e ≠ a := enum_ne_tup he pt
    have hia : a ≠ it := by
      rintro rfl
      obtain ⟨o1, g1, c1, _⟩ := hit
      obtain ⟨o2, g2, c2, _⟩ := id pt
      rw [g1] at g2
      cases g2
      rw [show o1.cls = _ from c1] at c2
      exact absurd (Value.type.inj c2) (by decide)
    refine wpAny_pyNext_enum_itemD (Draws.tuple (A := X.A.in1) (by show X.A.handled = none; exact I.ok.hd hc) it a hia its.toArray) he ⟨hit, pt⟩ (by
      have := (List.getElem?_eq_some_iff.mp hu).1
      simpa using this) hne (by simp [hne, hae]) fun y h' tk hy ho hst' hT hsz hk => ?_
    have hyu : y = u := by
      have : its.toArray[i]? = some y := hy
      rw [List.getElem?_toArray, hu] at this
      cases this; rfl
    subst hyu
    refine ⟨_, rfl, wpAny_letOwnedTupleGo_enum (s := { s with heap := h', toks := tk + 1 }) ho fun h'' he' sb => ?_⟩
    have hT2 : h''.get? s.heap.objs.size = some { cls := .type "tuple", data := .seq #[.int i tk, y] } := (sb.2 _ (Nat.ne_of_gt hel)).trans hT
    have new : ObjOk X.prog X.w (upd H s.heap.objs.size (.tup [.int (i : Nat), x])) h'' s.heap.objs.size (.tup [.int (i : Nat), x]) :=
      ⟨by show 2 ≤ sizeLine; decide, [.int i tk, y], .cons ⟨_, rfl⟩ (.cons ru .nil), ⟨_, hT2, rfl, _, rfl⟩⟩
    have I1 : Inv X pins σ (upd H s.heap.objs.size (.tup [.int (i : Nat), x])) { s with heap := h'', toks := tk + 1 } :=
      I.turnedNew (ch := [e, it]) (fun b ob hb q => (sb.2 b (fun z => hb (by simp [z]))).trans (hk b ob (fun z => hb (by simp [z])) (fun z => hb (by simp [z])) q)) hf (Nat.le_refl _) new
    refine ⟨.ref s.heap.objs.size, _, I1, rfl, ⟨_, x, rfl, I.hok.fresh (Nat.le_refl _), rfl, fun ys hy => by rw [I.tuple_inj hy hq]; exact hx⟩, ⟨⟨y, ?_⟩, hst'.1.at fun o q => (sb.2 it (Ne.symm hne)).trans q, hne⟩, fun b hb => ?_⟩
    · have e1 : ((i + 1 : Nat) : Int) = (i : Int) + 1 := by omega
      rw [e1]; exact he'
    · have hb' : b < s.heap.objs.size := by
        have alt : b = e ∨ b = it := by simpa using hb
        rcases alt with z | z
        · rw [z]; exact hel
        · rw [z]; exact hil
      rw [upd_ne (Nat.ne_of_lt hb')]
      exact (hf b hb).1
  done := by
    intro X hP hw hK hc i pins s σ H E I hf st hg
    subst hP hw hK
    obtain ⟨⟨old, he⟩, hit, hne⟩ := st
    obtain ⟨xs, hq, hx⟩ := hg
    obtain ⟨its, rv, p, hz⟩ := I.tuple hq
    have pt : s.heap.IsTuple a its.toArray := p
    obtain ⟨f0, f1, f2, f3, f4, f5⟩ := hf it (by simp)
    have hl := rv.length
    have hT : s.TypeIs (.ref e) "enumerate" := ⟨_, he, rfl⟩
    unfold pyNext
    refine wpAny_bind (wpAny_attempt (wpAny_callSpecial?_slot (name := Str.ofString "__next__") hT F.slot_enumerate_next
      (wpAny_call_entry F.slot_enumerate_next hT F.entry_enumerate_next ?_ (F.args_enumerate_next_1 _))))
    show wpAny _ _ (field (.ref e) 2 >>= _) _ _ _
    refine wpAny_bind (wpAny_field he rfl (x := .ref it) rfl ?_)
    refine wpAny_bind (wpAny_nextOf_tuple_end (by show X.A.handled = none; exact I.ok.hd hc) hit pt (by simp; omega) fun h' y eb hy => ?_)
    obtain ⟨o, ho, hcl⟩ := hy
    refine wpAny_bind (wpAny_isInstance (T := "StopIteration") (b := true) ⟨o, ho, hcl⟩ isSubtype_stop ?_)
    exact wpAny_pure ⟨rfl, I.turned (t' := s.toks) (fun b o hb q => eb b o hb q) f0 f1 f3 f4 f5⟩
  self := fun A i s Q E st h => let ⟨⟨_, he⟩, _⟩ := st; wpAny_pyIter_enum he h
def iEnumA (K : PySem.W.Frag) (ta : TA) : TI := fun σ H R => ta σ H fun vs H1 => ∃ a xs, vs = [.ref a] ∧ ((SqL K H1 a xs ∧ R (Ite K a) H1) ∨ (SqT K H1 a xs ∧ R (IteT K a) H1))
theorem pi_enumA {X : Cx} {e : Expr} {ta : TA} {p pos tpos : Pos} {elts : List Expr} {kk : Nat} (hg : Gl X "enumerate") (hm : X.mg "enumerate" = none) (ha : PA X [e] ta) (hs : starEach [e] X.env = [(false, eval e X.env)]) :
    PI X (.Tuple elts kk tpos) (.Call (.Name "enumerate" p) [e] [] pos) (iEnumA X.K ta) := by
  refine ⟨fun pins s σ H R I h => ?_⟩
  refine Call_ (ld_blt I hg hm boot_enumerate (PyProof.Rows.callWith_type1 (thn (ha.run pos pins s σ H _ I h) fun us s1 ⟨vs, H1, I1, r1, q1⟩ => ?_) hs rfl))
  obtain ⟨a, xs, ex, q1⟩ := q1
  subst ex
  cases r1 with
  | cons r rr =>
    cases rr
    cases r
    have fresh2 : ∀ b ∈ [s1.heap.objs.size + 1, s1.heap.objs.size], FpOk X pins H1 b := fun b hb => by
      have alt : b = s1.heap.objs.size + 1 ∨ b = s1.heap.objs.size := by simpa using hb
      have hle : s1.heap.objs.size ≤ b := by
        rcases alt with z | z
        · rw [z]; exact Nat.le_add_right _ _
        · rw [z]; exact Nat.le_refl _
      exact I1.fpOk hle (I1.hok.fresh hle)
    rcases q1 with ⟨hq, q⟩ | ⟨hq, q⟩
    · obtain ⟨its, rv, p', hz⟩ := I1.list hq
      refine call_enumerate_list p'.isList fun h' he hit hsz hk => wpAny_pyIter_enum he ?_
      exact ⟨s1.heap.objs.size + 1, [s1.heap.objs.size + 1, s1.heap.objs.size], _, _, H1, rfl, I1.kept (t' := s1.toks) hk, turn_enum a (s1.heap.objs.size + 1) s1.heap.objs.size, ⟨⟨.none, he⟩, hit, Nat.succ_ne_self _⟩, fresh2, q⟩
    · obtain ⟨its, rv, p', hz⟩ := I1.tuple hq
      refine call_enumerate_tup (show s1.heap.IsTuple a its.toArray from p') fun h' he hit hsz hk => wpAny_pyIter_enum he ?_
      exact ⟨s1.heap.objs.size + 1, [s1.heap.objs.size + 1, s1.heap.objs.size], _, _, H1, rfl, I1.kept (t' := s1.toks) hk, turn_enumTup a (s1.heap.objs.size + 1) s1.heap.objs.size, ⟨⟨.none, he⟩, hit, Nat.succ_ne_self _⟩, fresh2, q⟩
/-- a list or a tuple -/
def iSeq (K : PySem.W.Frag) (tl : TE) : TI := fun σ H R => tl σ H fun x H1 => ∃ a xs, x = .ref a ∧ ((SqL K H1 a xs ∧ R (Itl K a) H1) ∨ (SqT K H1 a xs ∧ R (Itt K a) H1))
theorem pi_seq {X : Cx} {tg l : Expr} {tl : TE} (hl : PE X l tl) : PI X tg l (iSeq X.K tl) := by
  refine ⟨fun pins s σ H R I h => ?_⟩
  refine thn (hl.run pins s σ H _ I h) fun v s1 ⟨x, H1, I1, r1, q1⟩ => ?_
  obtain ⟨a, xs, ex, q1⟩ := q1
  subst ex
  cases r1
  have fresh1 : ∀ b ∈ [s1.heap.objs.size], FpOk X pins H1 b := fun b hb => by
    have z : b = s1.heap.objs.size := by simpa using hb
    rw [z]
    exact I1.fpOk (Nat.le_refl _) (I1.hok.fresh (Nat.le_refl _))
  rcases q1 with ⟨hq, q⟩ | ⟨hq, q⟩
  · obtain ⟨its, rv, p, hz⟩ := I1.list hq
    refine wpAny_pyIter_list p.isList ?_
    exact ⟨s1.heap.objs.size, [s1.heap.objs.size], _, _, H1, rfl, I1.kept (t' := s1.toks) fun b o e => Heap.get?_push_of_some _ e, turn_list a _, ⟨_, Heap.get?_push_size _ rfl, rfl, rfl⟩, fresh1, q⟩
  · obtain ⟨its, rv, p, hz⟩ := I1.tuple hq
    refine wpAny_pyIter_tuple (show s1.heap.IsTuple a its.toArray from p) ?_
    exact ⟨s1.heap.objs.size, [s1.heap.objs.size], _, _, H1, rfl, I1.kept (t' := s1.toks) fun b o e => Heap.get?_push_of_some _ e, turn_tuple a _, ⟨_, Heap.get?_push_size _ rfl, rfl, rfl⟩, fresh1, q⟩
end Py

/-! sources, targets, list comprehensions -/
namespace Py
open PySem PySem.Spec PyProof.Rows L2
/-- where a loop's items come from: known ones, or a list that may change, of so many items at first -/
inductive Src where
  | fix (us : List U) | lab (n k : Nat)
def Src.at_ : Src → Nat → List O → Option (Option U)
  | .fix us, i, _ => some us[i]?
  | .lab n _, i, h => match h[n]? with
    | some (.lst xs) => some (xs[i]?.map .d)
    | _ => none
def Src.top : Src → Nat
  | .fix us => us.length + 1
  | .lab _ k => k + 1
def SrR (K : PySem.W.Frag) (H : Hp) (μ : List Addr) (S : Src) (J : It) : Prop := ∀ (H' : Hp) (μ' : List Addr) (h' : List O), Ext μ H μ' H' → Rh K H' μ' h' → ∀ i,
  (S.at_ i h' = some none → J.stop i H') ∧ ∀ u, S.at_ i h' = some (some u) → J.go i H' ∧ ∀ x H'', J.yld i H' x H'' → Ext μ' H' μ' H'' ∧ Rh K H'' μ' h' ∧ RU K H'' μ' u x
def DenI (X : Cx) (W : WX) (tg e : Expr) (f : En → List O → R Src) : Prop :=
  ∃ wi, PI X tg e wi ∧ ∀ σ' h σ H μ Rr, RE X.K H μ σ' σ → Rh X.K H μ h → Post X.K W σ H μ (SrR X.K) (f σ' h) Rr → wi σ H Rr
def srcU (u : U) (h : List O) : R Src := match u with
  | .d (.list xs) => .ok (.fix (xs.map .d)) h
  | .d (.tuple xs) => .ok (.fix (xs.map .d)) h
  | .scr xs => .ok (.fix (xs.map fun i => .d (.int i))) h
  | .lab n => match h[n]? with
    | some (.lst xs) => .ok (.lab n xs.length) h
    | _ => .bad
  | _ => .bad
section
variable {X : Cx} {W : WX}
theorem RDs.getN {K : PySem.W.Frag} {H : Hp} {μ : List Addr} {ds : List D} {vs : List V} (h : RDs K H μ ds vs) {i : Nat} (e : ds[i]? = none) : vs.length ≤ i := by
  rw [← h.length]
  exact List.getElem?_eq_none_iff.mp e
theorem sr_list {K : PySem.W.Frag} {H : Hp} {μ : List Addr} {a : Addr} {ds : List D} {vs : List V} (hl : ∀ H' μ', Ext μ H μ' H' → SqL K H' a vs) (r : RDs K H μ ds vs) : SrR K H μ (.fix (ds.map .d)) (Itl K a) := by
  intro H' μ' h' e rh i
  have sl := hl H' μ' e
  refine ⟨fun q => ⟨vs, sl, (r.ext e).getN ?_⟩, fun u q => ?_⟩
  · have : (ds.map U.d)[i]? = none := Option.some.inj q
    rw [List.getElem?_map] at this
    cases z : ds[i]? with
    | none => rfl
    | some d => rw [z] at this; cases this
  · have q' : (ds.map U.d)[i]? = some u := Option.some.inj q
    rw [List.getElem?_map] at q'
    cases z : ds[i]? with
    | none => rw [z] at q'; cases q'
    | some d =>
      rw [z] at q'
      cases q'
      obtain ⟨v, hv, rv⟩ := (r.ext e).get z
      refine ⟨⟨vs, v, sl, hv⟩, fun x H'' y => ?_⟩
      obtain ⟨rfl, hx⟩ := y
      have := hx vs sl
      rw [hv] at this
      cases this
      exact ⟨Ext.refl, rh, .d rv⟩
theorem sr_tup {K : PySem.W.Frag} {H : Hp} {μ : List Addr} {a : Addr} {ds : List D} {vs : List V} (hl : ∀ H' μ', Ext μ H μ' H' → SqT K H' a vs) (r : RDs K H μ ds vs) : SrR K H μ (.fix (ds.map .d)) (Itt K a) := by
  intro H' μ' h' e rh i
  have sl := hl H' μ' e
  refine ⟨fun q => ⟨vs, sl, (r.ext e).getN ?_⟩, fun u q => ?_⟩
  · have : (ds.map U.d)[i]? = none := Option.some.inj q
    rw [List.getElem?_map] at this
    cases z : ds[i]? with
    | none => rfl
    | some d => rw [z] at this; cases this
  · have q' : (ds.map U.d)[i]? = some u := Option.some.inj q
    rw [List.getElem?_map] at q'
    cases z : ds[i]? with
    | none => rw [z] at q'; cases q'
    | some d =>
      rw [z] at q'
      cases q'
      obtain ⟨v, hv, rv⟩ := (r.ext e).get z
      refine ⟨⟨vs, v, sl, hv⟩, fun x H'' y => ?_⟩
      obtain ⟨rfl, hx⟩ := y
      have := hx vs sl
      rw [hv] at this
      cases this
      exact ⟨Ext.refl, rh, .d rv⟩
theorem rds_ints {K : PySem.W.Frag} {H : Hp} {μ : List Addr} : ∀ ns : List Int, RDs K H μ (ns.map .int) (ns.map V.int)
  | [] => .nil
  | n :: ns => .cons (.int n) (rds_ints ns)
theorem deni_seq {tg e : Expr} {f : En → List O → R U} (hf : Den X W e f) : DenI X W tg e (fun σ h => (f σ h).bind srcU) := by
  obtain ⟨t, p, c⟩ := hf
  refine ⟨_, pi_seq p, fun σ' h σ H μ Rr re rh q => ?_⟩
  refine c σ' h σ H μ _ re rh (Post.bind q fun u h1 H1 μ1 x e1 rh1 ru p1 => ?_)
  cases ru with
  | ty n => exact p1.elim
  | gl x => exact p1.elim
  | @lab n a ra =>
    unfold srcU at p1
    dsimp only at p1
    split at p1
    · rename_i xs z
      obtain ⟨ho, h2, h3⟩ := rh1.obj n _ a z ra
      cases h3 with
      | @lst _ vs r =>
        refine ⟨a, vs, rfl, .inl ⟨SqL.of h2, p1.ret rh1 ?_⟩⟩
        intro H' μ' h' e rh i
        have key : ∀ xs', h'[n]? = some (.lst xs') → ∃ ws, H' a = some (.lst ws) ∧ RDs X.K H' μ' xs' ws := fun xs' z' => by
          obtain ⟨ho, g2, g3⟩ := rh.obj n _ a z' (e.get ra)
          cases g3 with
          | lst r => exact ⟨_, g2, r⟩
        refine ⟨fun q => ?_, fun u q => ?_⟩
        · unfold Src.at_ at q
          dsimp only at q
          split at q
          · rename_i xs' z'
            obtain ⟨ws, g1, g2⟩ := key xs' z'
            refine ⟨ws, SqL.of g1, g2.getN ?_⟩
            have q' := Option.some.inj q
            cases y : xs'[i]? with
            | none => rfl
            | some d => rw [y] at q'; cases q'
          · cases q
        · unfold Src.at_ at q
          dsimp only at q
          split at q
          · rename_i xs' z'
            obtain ⟨ws, g1, g2⟩ := key xs' z'
            have q' := Option.some.inj q
            cases y : xs'[i]? with
            | none => rw [y] at q'; cases q'
            | some d =>
              rw [y] at q'
              cases q'
              obtain ⟨v, hv, rv⟩ := g2.get y
              refine ⟨⟨ws, v, SqL.of g1, hv⟩, fun x H'' yl => ?_⟩
              obtain ⟨rfl, hx⟩ := yl
              have := hx ws (SqL.of g1)
              rw [hv] at this
              cases this
              exact ⟨Ext.refl, rh, .d rv⟩
          · cases q
    · exact p1.elim
  | @scr a ns hs =>
    refine ⟨a, ns.map V.int, rfl, .inl ⟨hs.sq, p1.ret rh1 ?_⟩⟩
    have e : (ns.map fun i => U.d (.int i)) = (ns.map PyData.int).map U.d := by rw [List.map_map]; rfl
    rw [e]
    exact sr_list (fun H' μ' e => (hs.ext e).sq) (rds_ints ns)
  | d r =>
    cases r with
    | @tup a vs ds ha r => exact ⟨a, vs, rfl, .inr ⟨ha.sq, p1.ret rh1 (sr_tup (fun H' μ' e => (ha.ext e).sq) r)⟩⟩
    | @lst a vs ds ha na r => exact ⟨a, vs, rfl, .inl ⟨SqL.of ha, p1.ret rh1 (sr_list (fun H' μ' e => SqL.of (e.keep _ _ ha na).1) r)⟩⟩
    | _ => exact p1.elim
/-! ### range, enumerate, zip -/
def inR (i : Int) : Bool := Nat.ble i.natAbs 4611686018427387903
theorem inR_ok {i : Int} (h : Py.inR i = true) : -(2 ^ 62) ≤ i ∧ i < 2 ^ 62 := by
  unfold Py.inR at h
  have := Nat.le_of_ble_eq_true h
  omega
theorem inR_of {i : Int} (h0 : 0 ≤ i) (h1 : i ≤ 100000000) : Py.inR i = true := by
  unfold Py.inR
  exact Nat.ble_eq_true_of_le (by omega)
def rngL (lo c : Int) (n : Nat) : List U := (List.range n).map fun (k : Nat) => U.d (.int (lo + (k : Nat) * c))
theorem rngL_get (lo c : Int) (n i : Nat) : (rngL lo c n)[i]? = if i < n then some (.d (.int (lo + (i : Nat) * c))) else none := by
  unfold rngL
  rw [List.getElem?_map]
  by_cases h : i < n
  · rw [if_pos h, List.getElem?_range h]; rfl
  · rw [if_neg h, List.getElem?_eq_none (by simpa using h)]; rfl
theorem sr_rng1 {K : PySem.W.Frag} {H : Hp} {μ : List Addr} {lo : Int} {n : Nat} : SrR K H μ (.fix (rngL lo 1 n)) (Itr lo n) := by
  intro H' μ' h' e rh i
  refine ⟨fun q => ?_, fun u q => ?_⟩
  · have q' := Option.some.inj q
    rw [rngL_get] at q'
    by_cases hi : i < n
    · rw [if_pos hi] at q'; cases q'
    · exact Nat.le_of_not_lt hi
  · have q' := Option.some.inj q
    rw [rngL_get] at q'
    by_cases hi : i < n
    · rw [if_pos hi] at q'
      cases q'
      refine ⟨hi, fun x H'' y => ?_⟩
      obtain ⟨rfl, rfl⟩ := y
      refine ⟨Ext.refl, rh, ?_⟩
      rw [Int.mul_one]
      exact .d (.int _)
    · rw [if_neg hi] at q'; cases q'
theorem sr_rngC {K : PySem.W.Frag} {H : Hp} {μ : List Addr} {lo c : Int} {n : Nat} : SrR K H μ (.fix (rngL lo c n)) (Itc lo c n) := by
  intro H' μ' h' e rh i
  refine ⟨fun q => ?_, fun u q => ?_⟩
  · have q' := Option.some.inj q
    rw [rngL_get] at q'
    by_cases hi : i < n
    · rw [if_pos hi] at q'; cases q'
    · exact Nat.le_of_not_lt hi
  · have q' := Option.some.inj q
    rw [rngL_get] at q'
    by_cases hi : i < n
    · rw [if_pos hi] at q'
      cases q'
      refine ⟨hi, fun x H'' y => ?_⟩
      obtain ⟨rfl, rfl⟩ := y
      exact ⟨Ext.refl, rh, .d (.int _)⟩
    · rw [if_neg hi] at q'; cases q'
/-- how many turns a range has -/
def rngN (i j c : Int) : Option Nat := if c ≠ 0 ∧ c.natAbs < 1073741824 ∧ Builtin.Range.small i j c = true ∧ 0 ≤ Builtin.Range.rangeSize i j c then some (Builtin.Range.rangeSize i j c).toNat else none
theorem rngN_ok {i j c : Int} {n : Nat} (h : rngN i j c = some n) : RgC i j c n := by
  unfold rngN at h
  by_cases hc : c ≠ 0 ∧ c.natAbs < 1073741824 ∧ Builtin.Range.small i j c = true ∧ 0 ≤ Builtin.Range.rangeSize i j c
  · rw [if_pos hc] at h
    cases h
    exact ⟨hc.1, hc.2.1, hc.2.2.1, by omega⟩
  · rw [if_neg hc] at h; cases h
def rngS (us : List U) (h : List O) : R Src := match us with
  | [.d (.int j)] => if inR j = true then .ok (.fix (rngL 0 1 j.toNat)) h else .bad
  | [.d (.int i), .d (.int j)] => if (inR i && inR j) = true then .ok (.fix (rngL i 1 (j - i).toNat)) h else .bad
  | [.d (.int i), .d (.int j), .d (.int c)] => (opt (rngN i j c) h).bind fun n h => .ok (.fix (rngL i c n)) h
  | _ => .bad
theorem rngS_of {K : PySem.W.Frag} {σ : L2.St} {H : Hp} {μ : List Addr} {us : List U} {h : List O} {vs : List V} {Rr : It → Hp → Prop} (rh : Rh K H μ h) (r : RUs K H μ us vs) (p : Post K W σ H μ (SrR K) (rngS us h) Rr) :
    (∃ j : Int, vs = [.int j] ∧ -(2 ^ 62) ≤ j ∧ j < 2 ^ 62 ∧ Rr (Itr 0 j.toNat) H) ∨
    (∃ i j : Int, vs = [.int i, .int j] ∧ (-(2 ^ 62) ≤ i ∧ i < 2 ^ 62 ∧ -(2 ^ 62) ≤ j ∧ j < 2 ^ 62) ∧ Rr (Itr i (j - i).toNat) H) ∨
    (∃ (i j c : Int) (n : Nat), vs = [.int i, .int j, .int c] ∧ RgC i j c n ∧ Rr (Itc i c n) H) := by
  unfold rngS at p
  split at p
  · rename_i j
    cases r with
    | cons r1 r2 =>
      cases r2
      cases r1.int_inv
      by_cases hj : inR j = true
      · rw [if_pos hj] at p
        exact .inl ⟨j, rfl, (inR_ok hj).1, (inR_ok hj).2, p.ret rh sr_rng1⟩
      · rw [if_neg hj] at p
        exact p.elim
  · rename_i i j
    cases r with
    | cons r1 r2 =>
      cases r2 with
      | cons r2 r3 =>
        cases r3
        cases r1.int_inv
        cases r2.int_inv
        by_cases hj : (inR i && inR j) = true
        · rw [if_pos hj] at p
          have hj := Bool.and_eq_true_iff.mp hj
          exact .inr (.inl ⟨i, j, rfl, ⟨(inR_ok hj.1).1, (inR_ok hj.1).2, (inR_ok hj.2).1, (inR_ok hj.2).2⟩, p.ret rh sr_rng1⟩)
        · rw [if_neg hj] at p
          exact p.elim
  · rename_i i j c
    cases r with
    | cons r1 r2 =>
      cases r2 with
      | cons r2 r3 =>
        cases r3 with
        | cons r3 r4 =>
          cases r4
          cases r1.int_inv
          cases r2.int_inv
          cases r3.int_inv
          obtain ⟨n, en, p⟩ := Post.opt p
          exact .inr (.inr ⟨i, j, c, n, rfl, rngN_ok en, p.ret rh sr_rngC⟩)
  · exact p.elim
theorem deni_range1 {tg a : Expr} {p pos : Pos} {f : En → List O → R (List U)} (gl : Gl X "range") (hm : X.mg "range" = none) (hf : DenA X W [a] f) (hs : noStar [a] = true) :
    DenI X W tg (.Call (.Name "range" p) [a] [] pos) (fun σ h => (f σ h).bind fun us h => if us.length = 1 then rngS us h else .bad) := by
  obtain ⟨t, pa, c⟩ := hf
  refine ⟨_, pi_range1 gl hm pa (star1 (noStar_cons hs).1), fun σ' h σ H μ Rr re rh q => ?_⟩
  refine c σ' h σ H μ _ re rh (Post.bind q fun us h1 H1 μ1 xs e1 rh1 ru p1 => ?_)
  by_cases hl : us.length = 1
  · rw [if_pos hl] at p1
    have hx := ru.length
    rcases rngS_of rh1 ru p1 with z | ⟨i, j, e, _⟩ | ⟨i, j, c, n, e, _⟩
    · exact z
    · rw [e, hl] at hx; simp at hx
    · rw [e, hl] at hx; simp at hx
  · rw [if_neg hl] at p1; exact p1.elim
theorem deni_range2 {tg a b : Expr} {p pos : Pos} {f : En → List O → R (List U)} (gl : Gl X "range") (hm : X.mg "range" = none) (hf : DenA X W [a, b] f) (hs : noStar [a, b] = true) :
    DenI X W tg (.Call (.Name "range" p) [a, b] [] pos) (fun σ h => (f σ h).bind fun us h => if us.length = 2 then rngS us h else .bad) := by
  obtain ⟨t, pa, c⟩ := hf
  obtain ⟨s1, s2⟩ := noStar_cons hs
  refine ⟨_, pi_range2 gl hm pa (by rw [star1 s1, star1 (noStar_cons s2).1]; rfl) (star1 (noStar_cons s2).1), fun σ' h σ H μ Rr re rh q => ?_⟩
  refine c σ' h σ H μ _ re rh (Post.bind q fun us h1 H1 μ1 xs e1 rh1 ru p1 => ?_)
  by_cases hl : us.length = 2
  · rw [if_pos hl] at p1
    have hx := ru.length
    rcases rngS_of rh1 ru p1 with ⟨j, e, _⟩ | z | ⟨i, j, c, n, e, _⟩
    · rw [e, hl] at hx; simp at hx
    · exact z
    · rw [e, hl] at hx; simp at hx
  · rw [if_neg hl] at p1; exact p1.elim
theorem deni_range3 {tg a b c : Expr} {p pos : Pos} {f : En → List O → R (List U)} (gl : Gl X "range") (hm : X.mg "range" = none) (hf : DenA X W [a, b, c] f) (hs : noStar [a, b, c] = true) :
    DenI X W tg (.Call (.Name "range" p) [a, b, c] [] pos) (fun σ h => (f σ h).bind fun us h => if us.length = 3 then rngS us h else .bad) := by
  obtain ⟨t, pa, cc⟩ := hf
  obtain ⟨s1, s2⟩ := noStar_cons hs
  refine ⟨_, pi_range3 gl hm pa (star1 s1) (noStar_any s2), fun σ' h σ H μ Rr re rh q => ?_⟩
  refine cc σ' h σ H μ _ re rh (Post.bind q fun us h1 H1 μ1 xs e1 rh1 ru p1 => ?_)
  by_cases hl : us.length = 3
  · rw [if_pos hl] at p1
    have hx := ru.length
    rcases rngS_of rh1 ru p1 with ⟨j, e, _⟩ | ⟨i, j, e, _⟩ | z
    · rw [e, hl] at hx; simp at hx
    · rw [e, hl] at hx; simp at hx
    · exact z
  · rw [if_neg hl] at p1; exact p1.elim
/-! ### enumerate, zip -/
def enuL (k : Nat) : List D → List U
  | [] => []
  | x :: r => .d (.tuple [.int k, x]) :: enuL (k + 1) r
theorem enuL_get : ∀ (xs : List D) (k i : Nat), (enuL k xs)[i]? = xs[i]?.map fun x => U.d (.tuple [.int ((k + i : Nat) : Int), x])
  | [], _, _ => by simp [enuL]
  | x :: r, k, 0 => by simp [enuL]
  | x :: r, k, i + 1 => by
    rw [enuL, List.getElem?_cons_succ, enuL_get r (k + 1) i, List.getElem?_cons_succ]
    have : k + 1 + i = k + (i + 1) := by omega
    rw [this]
def zipL : List D → List D → List U
  | x :: r, y :: q => .d (.tuple [x, y]) :: zipL r q
  | _, _ => []
theorem zipL_get : ∀ (xs ys : List D) (i : Nat), (zipL xs ys)[i]? = match xs[i]?, ys[i]? with
    | some x, some y => some (.d (.tuple [x, y]))
    | _, _ => none
  | [], ys, i => by simp [zipL]
  | x :: r, [], i => by
    simp only [zipL, List.getElem?_nil]
    split
    · rename_i h; cases h
    · rfl
  | x :: r, y :: q, 0 => by simp [zipL]
  | x :: r, y :: q, i + 1 => by
    rw [zipL, List.getElem?_cons_succ, zipL_get r q i, List.getElem?_cons_succ, List.getElem?_cons_succ]
def enuS (us : List U) (h : List O) : R Src := match us with
  | [.d (.list xs)] => .ok (.fix (enuL 0 xs)) h
  | [.d (.tuple xs)] => .ok (.fix (enuL 0 xs)) h
  | [.scr xs] => .ok (.fix (enuL 0 (xs.map .int))) h
  | _ => .bad
theorem newpair {K : PySem.W.Frag} {H : Hp} {μ : List Addr} {h : List O} {T : Addr} {d e : D} {v w : V} (rh : Rh K H μ h) (hT : H T = none) (rv : RD K H μ d v) (rw : RD K H μ e w) :
    Ext μ H μ (upd H T (.tup [v, w])) ∧ Rh K (upd H T (.tup [v, w])) μ h ∧ RU K (upd H T (.tup [v, w])) μ (.d (.tuple [d, e])) (.ref T) :=
  ⟨Ext.new hT, rh.new hT, .d (.tup (.inl ⟨upd_same, rh.notin hT⟩) (.cons (rv.ext (Ext.new hT)) (.cons (rw.ext (Ext.new hT)) .nil)))⟩
theorem sr_enu {K : PySem.W.Frag} {H : Hp} {μ : List Addr} {a : Addr} {ds : List D} {vs : List V} (hl : ∀ H' μ', Ext μ H μ' H' → SqL K H' a vs) (r : RDs K H μ ds vs) : SrR K H μ (.fix (enuL 0 ds)) (Ite K a) := by
  intro H' μ' h' e rh i
  have sl := hl H' μ' e
  refine ⟨fun q => ⟨vs, sl, (r.ext e).getN ?_⟩, fun u q => ?_⟩
  · have q' := Option.some.inj q
    rw [enuL_get] at q'
    cases z : ds[i]? with
    | none => rfl
    | some d => rw [z] at q'; cases q'
  · have q' := Option.some.inj q
    rw [enuL_get] at q'
    cases z : ds[i]? with
    | none => rw [z] at q'; cases q'
    | some d =>
      rw [z] at q'
      cases q'
      obtain ⟨v, hv, rv⟩ := (r.ext e).get z
      refine ⟨⟨vs, v, sl, hv⟩, fun x H'' y => ?_⟩
      obtain ⟨T, w, rfl, hT, rfl, hx⟩ := y
      have := hx vs sl
      rw [hv] at this
      cases this
      rw [Nat.zero_add]
      exact newpair rh hT (.int _) rv
theorem sr_enuT {K : PySem.W.Frag} {H : Hp} {μ : List Addr} {a : Addr} {ds : List D} {vs : List V} (hl : ∀ H' μ', Ext μ H μ' H' → SqT K H' a vs) (r : RDs K H μ ds vs) : SrR K H μ (.fix (enuL 0 ds)) (IteT K a) := by
  intro H' μ' h' e rh i
  have sl := hl H' μ' e
  refine ⟨fun q => ⟨vs, sl, (r.ext e).getN ?_⟩, fun u q => ?_⟩
  · have q' := Option.some.inj q
    rw [enuL_get] at q'
    cases z : ds[i]? with
    | none => rfl
    | some d => rw [z] at q'; cases q'
  · have q' := Option.some.inj q
    rw [enuL_get] at q'
    cases z : ds[i]? with
    | none => rw [z] at q'; cases q'
    | some d =>
      rw [z] at q'
      cases q'
      obtain ⟨v, hv, rv⟩ := (r.ext e).get z
      refine ⟨⟨vs, v, sl, hv⟩, fun x H'' y => ?_⟩
      obtain ⟨T, w, rfl, hT, rfl, hx⟩ := y
      have := hx vs sl
      rw [hv] at this
      cases this
      rw [Nat.zero_add]
      exact newpair rh hT (.int _) rv
theorem deni_enum {a : Expr} {elts : List Expr} {kk : Nat} {p pos tpos : Pos} {f : En → List O → R (List U)} (gl : Gl X "enumerate") (hm : X.mg "enumerate" = none) (hf : DenA X W [a] f) (hs : noStar [a] = true) :
    DenI X W (.Tuple elts kk tpos) (.Call (.Name "enumerate" p) [a] [] pos) (fun σ h => (f σ h).bind enuS) := by
  obtain ⟨t, pa, c⟩ := hf
  refine ⟨_, pi_enumA gl hm pa (star1 (noStar_cons hs).1), fun σ' h σ H μ Rr re rh q => ?_⟩
  refine c σ' h σ H μ _ re rh (Post.bind q fun us h1 H1 μ1 xs e1 rh1 ru p1 => ?_)
  unfold enuS at p1
  split at p1
  · cases ru with
    | cons r1 r2 =>
      cases r2
      cases r1 with
      | d r => cases r with
        | @lst a vs ds ha na r => exact ⟨a, vs, rfl, .inl ⟨SqL.of ha, p1.ret rh1 (sr_enu (fun H' μ' e => SqL.of (e.keep _ _ ha na).1) r)⟩⟩
  · cases ru with
    | cons r1 r2 =>
      cases r2
      cases r1 with
      | d r => cases r with
        | @tup a vs ds ha r => exact ⟨a, vs, rfl, .inr ⟨ha.sq, p1.ret rh1 (sr_enuT (fun H' μ' e => (ha.ext e).sq) r)⟩⟩
  · cases ru with
    | cons r1 r2 =>
      cases r2
      cases r1 with
      | scr hs => exact ⟨_, _, rfl, .inl ⟨hs.sq, p1.ret rh1 (sr_enu (fun H' μ' e => (hs.ext e).sq) (rds_ints _))⟩⟩
  · exact p1.elim
def zipS (us : List U) (h : List O) : R Src := match us with
  | [.d (.list xs), .d (.list ys)] => .ok (.fix (zipL xs ys)) h
  | [.d (.tuple xs), .d (.tuple ys)] => .ok (.fix (zipL xs ys)) h
  | _ => .bad
theorem zip_none {xs ys : List D} {i : Nat} (h : (zipL xs ys)[i]? = none) : xs[i]? = none ∨ ys[i]? = none := by
  rw [zipL_get] at h
  cases z : xs[i]? with
  | none => exact .inl rfl
  | some x => cases y : ys[i]? with
    | none => exact .inr rfl
    | some y' => rw [z, y] at h; cases h
theorem zip_some {xs ys : List D} {i : Nat} {u : U} (h : (zipL xs ys)[i]? = some u) : ∃ x y, xs[i]? = some x ∧ ys[i]? = some y ∧ u = .d (.tuple [x, y]) := by
  rw [zipL_get] at h
  cases z : xs[i]? with
  | none => rw [z] at h; cases h
  | some x => cases y : ys[i]? with
    | none => rw [z, y] at h; cases h
    | some y' => rw [z, y] at h; cases h; exact ⟨x, y', rfl, rfl, rfl⟩
theorem deni_zip {a b : Expr} {elts : List Expr} {kk : Nat} {p pos tpos : Pos} {f : En → List O → R (List U)} (gl : Gl X "zip") (hm : X.mg "zip" = none) (hf : DenA X W [a, b] f) (hs : noStar [a, b] = true) :
    DenI X W (.Tuple elts kk tpos) (.Call (.Name "zip" p) [a, b] [] pos) (fun σ h => (f σ h).bind zipS) := by
  obtain ⟨t, pa, c⟩ := hf
  obtain ⟨s1, s2⟩ := noStar_cons hs
  refine ⟨_, RZ.pi_zipA gl hm pa (star1 s1) (noStar_any s2), fun σ' h σ H μ Rr re rh q => ?_⟩
  refine c σ' h σ H μ _ re rh (Post.bind q fun us h1 H1 μ1 xs e1 rh1 ru p1 => ?_)
  unfold zipS at p1
  split at p1
  · cases ru with
    | cons r1 r2 => cases r2 with
      | cons r2 r3 =>
        cases r3
        cases r1 with
        | d r => cases r with
          | @lst a vs ds ha na r =>
            cases r2 with
            | d r' => cases r' with
              | @lst b ws es hb nb r' =>
                refine ⟨a, b, vs, ws, rfl, .inl ⟨SqL.of ha, SqL.of hb, p1.ret rh1 ?_⟩⟩
                intro H' μ' h' e rh i
                have ka := SqL.of (K := X.K) (e.keep _ _ ha na).1
                have kb := SqL.of (K := X.K) (e.keep _ _ hb nb).1
                refine ⟨fun q => ⟨vs, ws, ka, kb, ?_⟩, fun u q => ?_⟩
                · rcases zip_none (Option.some.inj q) with z | z
                  · exact .inl ((r.ext e).getN z)
                  · exact .inr ((r'.ext e).getN z)
                · obtain ⟨x, y, hx, hy, rfl⟩ := zip_some (Option.some.inj q)
                  obtain ⟨v, hv, rv⟩ := (r.ext e).get hx
                  obtain ⟨w, hw, rw⟩ := (r'.ext e).get hy
                  refine ⟨⟨vs, ws, v, w, ka, kb, hv, hw⟩, fun x H'' yl => ?_⟩
                  obtain ⟨T, v', w', rfl, hT, rfl, hx1, hx2⟩ := yl
                  have e1 := hx1 vs ka
                  rw [hv] at e1
                  cases e1
                  have e2 := hx2 ws kb
                  rw [hw] at e2
                  cases e2
                  exact newpair rh hT rv rw
  · cases ru with
    | cons r1 r2 => cases r2 with
      | cons r2 r3 =>
        cases r3
        cases r1 with
        | d r => cases r with
          | @tup a vs ds ha r =>
            cases r2 with
            | d r' => cases r' with
              | @tup b ws es hb r' =>
                refine ⟨a, b, vs, ws, rfl, .inr ⟨ha.sq, hb.sq, p1.ret rh1 ?_⟩⟩
                intro H' μ' h' e rh i
                have ka := (ha.ext e).sq
                have kb := (hb.ext e).sq
                refine ⟨fun q => ⟨vs, ws, ka, kb, ?_⟩, fun u q => ?_⟩
                · rcases zip_none (Option.some.inj q) with z | z
                  · exact .inl ((r.ext e).getN z)
                  · exact .inr ((r'.ext e).getN z)
                · obtain ⟨x, y, hx, hy, rfl⟩ := zip_some (Option.some.inj q)
                  obtain ⟨v, hv, rv⟩ := (r.ext e).get hx
                  obtain ⟨w, hw, rw⟩ := (r'.ext e).get hy
                  refine ⟨⟨vs, ws, v, w, ka, kb, hv, hw⟩, fun x H'' yl => ?_⟩
                  obtain ⟨T, v', w', rfl, hT, rfl, hx1, hx2⟩ := yl
                  have e1 := hx1 vs ka
                  rw [hv] at e1
                  cases e1
                  have e2 := hx2 ws kb
                  rw [hw] at e2
                  cases e2
                  exact newpair rh hT rv rw
  · exact p1.elim
end
end Py

/-! targets, list comprehensions -/
namespace Py
open PySem PySem.Spec PyProof.Rows L2
mutual
inductive Tg where
  | nm (i : Nat) | tup (ts : Tgs)
inductive Tgs where
  | nil | cons (t : Tg) (ts : Tgs)
end
mutual
def asg : Tg → U → En → Option En
  | .nm i, u, σ => some (σ.set i (some u))
  | .tup ts, u, σ => match u with
    | .d (.tuple ds) => asgs ts ds σ
    | .d (.list ds) => asgs ts ds σ
    | _ => none
def asgs : Tgs → List D → En → Option En
  | .nil, ds, σ => match ds with
    | [] => some σ
    | _ :: _ => none
  | .cons t ts, ds, σ => match ds with
    | [] => none
    | d :: ds => (asg t (.d d) σ).bind fun σ => asgs ts ds σ
end
mutual
def Tg.slots : Tg → List Nat
  | .nm i => [i]
  | .tup ts => ts.slots
def Tgs.slots : Tgs → List Nat
  | .nil => []
  | .cons t ts => t.slots ++ ts.slots
end
def DenG (X : Cx) (tg : Expr) (t : Tg) : Prop :=
  ∃ g, PG X tg g ∧ ∀ u x σ' σ1' σ H μ (Q : L2.St → Hp → Prop), RE X.K H μ σ' σ → RU X.K H μ u x → asg t u σ' = some σ1' →
    (∀ σ1, RE X.K H μ σ1' σ1 → (∀ vs : List Nat, (∀ i ∈ t.slots, i ∈ vs) → wipe σ1 vs = wipe σ vs) → Q σ1 H) → g x σ H Q
def DenGs (X : Cx) (tg : List Expr) (t : Tgs) : Prop :=
  ∃ g, PGs X tg g ∧ ∀ ds xs σ' σ1' σ H μ (Q : L2.St → Hp → Prop), RE X.K H μ σ' σ → RDs X.K H μ ds xs → asgs t ds σ' = some σ1' →
    (∀ σ1, RE X.K H μ σ1' σ1 → (∀ vs : List Nat, (∀ i ∈ t.slots, i ∈ vs) → wipe σ1 vs = wipe σ vs) → Q σ1 H) → g xs σ H Q
theorem wipe_set {σ : L2.St} {i : Nat} {x : Option V} : ∀ {vs : List Nat}, i ∈ vs → wipe (σ.set i x) vs = wipe σ vs
  | [], h => by cases h
  | v :: vs, h => by
    unfold wipe
    by_cases hm : i ∈ vs
    · rw [wipe_set hm]
    · have e : i = v := by
        rcases List.mem_cons.mp h with e | e
        · exact e
        · exact absurd e hm
      subst e
      have : ∀ ws : List Nat, i ∉ ws → wipe (σ.set i x) ws = (wipe σ ws).set i x := by
        intro ws
        induction ws with
        | nil => intro _; rfl
        | cons w ws ih =>
          intro hn
          have h1 : w ≠ i := fun e => hn (by rw [e]; exact List.mem_cons_self)
          have h2 : i ∉ ws := fun e => hn (List.mem_cons_of_mem _ e)
          show (wipe (σ.set i x) ws).set w none = ((wipe σ ws).set w none).set i x
          rw [ih h2, List.set_comm _ _ (Ne.symm h1)]
      rw [this vs hm, List.set_set]
section
variable {X : Cx} {W : WX}
theorem deng_nm {i : Nat} {x : Str} {pos : Pos} (hN : X.N.Nodup) (hi : X.N[i]? = some x) (hx : Loc X.env.scope x) (hf : X.fn x = true ∨ X.env.scope.names.lookup x = some .local) : DenG X (.Name x pos) (.nm i) := by
  refine ⟨_, pg_name hN hi hx hf, fun u x σ' σ1' σ H μ Q re ru e q => ?_⟩
  cases e
  exact q _ (re.set ru) fun vs hv => wipe_set (hv i (by simp [Tg.slots]))
theorem dengs_nil : DenGs X [] .nil := by
  refine ⟨_, pgs_nil, fun ds xs σ' σ1' σ H μ Q re rd e q => ?_⟩
  cases rd with
  | nil => cases e; exact ⟨rfl, q _ re fun _ _ => rfl⟩
  | cons _ _ => cases e
theorem assignEach_cons {e : Expr} {es : List Expr} {env : Env} (h : isStar e = false) : assignEach (e :: es) env = (false, assign e env) :: assignEach es env := by
  cases e <;> first | rfl | cases h
theorem dengs_cons {e : Expr} {es : List Expr} {t : Tg} {ts : Tgs} (h1 : DenG X e t) (h2 : DenGs X es ts) (hs : isStar e = false) : DenGs X (e :: es) (.cons t ts) := by
  obtain ⟨g, pg, cg⟩ := h1
  obtain ⟨gs, pgs, cgs⟩ := h2
  refine ⟨_, pgs_cons pg pgs (by rw [assignEach_cons hs]; rfl), fun ds xs σ' σ1' σ H μ Q re rd e q => ?_⟩
  cases rd with
  | nil => cases e
  | @cons d v ds vs hd r =>
    have e' : (asg t (.d d) σ').bind (fun σ => asgs ts ds σ) = some σ1' := e
    cases ea : asg t (.d d) σ' with
    | none => rw [ea] at e'; cases e'
    | some σ2' =>
      rw [ea] at e'
      have e2 : asgs ts ds σ2' = some σ1' := e'
      refine ⟨v, vs, rfl, cg (.d d) v σ' σ2' σ H μ _ re (.d hd) ea fun σ1 re1 k1 => ?_⟩
      refine cgs ds vs σ2' σ1' σ1 H μ Q re1 r e2 fun σ3 re3 k3 => q σ3 re3 fun vs hv => ?_
      rw [k3 vs fun i hi => hv i (by simp [Tgs.slots, hi]), k1 vs fun i hi => hv i (by simp [Tgs.slots, hi])]
def Tgs.len : Tgs → Nat
  | .nil => 0
  | .cons _ ts => ts.len + 1
theorem asgs_len : ∀ {ts : Tgs} {ds : List D} {σ σ1 : En}, asgs ts ds σ = some σ1 → ds.length = ts.len
  | .nil, [], _, _, _ => rfl
  | .nil, _ :: _, _, _, e => by cases e
  | .cons t ts, [], _, _, e => by cases e
  | .cons t ts, d :: ds, σ, σ1, e => by
    have e' : (asg t (.d d) σ).bind (fun σ => asgs ts ds σ) = some σ1 := e
    cases ea : asg t (.d d) σ with
    | none => rw [ea] at e'; cases e'
    | some σ2 =>
      rw [ea] at e'
      show ds.length + 1 = ts.len + 1
      rw [asgs_len (ts := ts) (show asgs ts ds σ2 = some σ1 from e')]
theorem noStar_assign {es : List Expr} (h : noStar es = true) (env : Env) : (assignEach es env).findIdx? (·.1) = none ∧ (assignEach es env).length = es.length := by
  induction es with
  | nil => exact ⟨rfl, rfl⟩
  | cons e es ih =>
    obtain ⟨h1, h2⟩ := noStar_cons h
    obtain ⟨i1, i2⟩ := ih h2
    rw [assignEach_cons h1]
    refine ⟨?_, by simp [i2]⟩
    rw [List.findIdx?_cons]
    simp [i1]
theorem deng_tup {es : List Expr} {k : Nat} {pos : Pos} {ts : Tgs} (hc : X.calm = true) (h : DenGs X es ts) (hs : noStar es = true) (hl : es.length = ts.len) : DenG X (.Tuple es k pos) (.tup ts) := by
  obtain ⟨g, pg, cg⟩ := h
  obtain ⟨n1, n2⟩ := noStar_assign hs X.env
  have both : PG X (.Tuple es k pos) (fun v σ H Q => gTup X.K es.length g v σ H Q ∨ gLst X.K es.length g v σ H Q) :=
    ⟨fun pins s σ H v u Q I r h => h.elim (fun h => (pg_tup (n := es.length) hc pg n2 n1).run pins s σ H v u Q I r h) (fun h => (pg_lst (n := es.length) hc pg n2 n1).run pins s σ H v u Q I r h)⟩
  refine ⟨_, both, fun u x σ' σ1' σ H μ Q re ru e q => ?_⟩
  unfold asg at e
  split at e
  · rename_i ds
    cases ru with
    | d rd => cases rd with
      | @tup a vs ds ha r =>
        refine .inl ⟨a, vs, rfl, ha.sq, ?_, cg ds vs σ' σ1' σ H μ Q re r e q⟩
        rw [hl, ← asgs_len e, r.length]
  · rename_i ds
    cases ru with
    | d rd => cases rd with
      | @lst a vs ds ha na r =>
        refine .inr ⟨a, vs, rfl, SqL.of ha, ?_, cg ds vs σ' σ1' σ H μ Q re r e q⟩
        rw [hl, ← asgs_len e, r.length]
  · cases e
end

/-! ### a value as it leaves the place where it was made -/
mutual
theorem RD.sub {K : PySem.W.Frag} {H : Hp} {μ ν : List Addr} (k : ∀ a ∈ ν, a ∈ μ) : ∀ {d : D} {v : V}, RD K H μ d v → RD K H ν d v
  | _, _, .non => .non
  | _, _, .bl b => .bl b
  | _, _, .int i => .int i
  | _, _, .str s h => .str s h
  | _, _, .tup h r => .tup (h.elim (fun z => .inl ⟨z.1, fun m => z.2 (k _ m)⟩) .inr) (RDs.sub k r)
  | _, _, .lst h n r => .lst h (fun m => n (k _ m)) (RDs.sub k r)
theorem RDs.sub {K : PySem.W.Frag} {H : Hp} {μ ν : List Addr} (k : ∀ a ∈ ν, a ∈ μ) : ∀ {d : List D} {v : List V}, RDs K H μ d v → RDs K H ν d v
  | _, _, .nil => .nil
  | _, _, .cons h r => .cons (RD.sub k h) (RDs.sub k r)
end
theorem mem_take {α : Type} {l : List α} {n : Nat} : ∀ a ∈ l.take n, a ∈ l := fun a h => List.mem_of_mem_take h
theorem RU.cut {K : PySem.W.Frag} {H : Hp} {μ : List Addr} {u : U} {x : V} {n m : Nat} (r : RU K H μ u x) (b : u.below m) (h : m ≤ n) : RU K H (μ.take n) u x := by
  cases r with
  | d r => exact .d (r.sub mem_take)
  | lab q => 
    have b' : _ < m := b
    exact .lab (by rw [List.getElem?_take_of_lt (by omega)]; exact q)
  | scr q => exact .scr (q.elim (fun ⟨o, z1, z2⟩ => .inl ⟨o, z1, fun m => z2 (mem_take _ m)⟩) .inr)
  | ty n => exact .ty n
  | gl x => exact .gl x
theorem RUs.cut {K : PySem.W.Frag} {H : Hp} {μ : List Addr} {us : List U} {xs : List V} {n m : Nat} (r : RUs K H μ us xs) (b : ∀ u ∈ us, u.below m) (h : m ≤ n) : RUs K H (μ.take n) us xs := by
  induction r with
  | nil => exact .nil
  | cons hx r ih => exact .cons (hx.cut (b _ List.mem_cons_self) h) (ih fun u hu => b u (List.mem_cons_of_mem _ hu))
theorem Rh.cut {K : PySem.W.Frag} {H : Hp} {μ : List Addr} {h : List O} (r : Rh K H μ h) (n : Nat) : Rh K H (μ.take n) (h.take n) := by
  refine ⟨by rw [List.length_take, List.length_take, r.len], List.Sublist.nodup (List.take_sublist _ _) r.nd, fun m o a h1 h2 => ?_⟩
  have hm : m < n := by
    have := (List.getElem?_eq_some_iff.mp h1).1
    rw [List.length_take] at this
    omega
  rw [List.getElem?_take_of_lt hm] at h1 h2
  obtain ⟨ho, q1, q2⟩ := r.obj m o a h1 h2
  refine ⟨ho, q1, ?_⟩
  cases q2 with
  | lst z => exact .lst (z.sub mem_take)
  | mix z b => exact .mix (z.cut b (Nat.le_of_lt hm)) b
  | dct z => exact .dct (Paired.mapP z fun _ _ q => ⟨q.1, q.2.sub mem_take⟩)
theorem Ext.cut {μ μ' : List Addr} {H H' : Hp} (e : Ext μ H μ' H') {n : Nat} (h : μ.length ≤ n) : Ext μ H (μ'.take n) H' := by
  obtain ⟨r, rfl⟩ := e.pre
  refine ⟨⟨r.take (n - μ.length), by rw [List.take_append, List.take_of_length_le h]⟩, fun a o q m => ?_⟩
  obtain ⟨h1, h2⟩ := e.keep a o q m
  exact ⟨h1, fun z => h2 (mem_take _ z)⟩
def settle (n : Nat) (u : U) (h : List O) : Option D := match u with
  | .d d => some d
  | .lab m => if n ≤ m then (match h[m]? with
    | some (.lst xs) => some (.list xs)
    | _ => none) else none
  | _ => none
theorem nodup_take {μ : List Addr} (nd : μ.Nodup) {n m : Nat} {a : Addr} (h : μ[m]? = some a) (hm : n ≤ m) : a ∉ μ.take n := by
  intro z
  obtain ⟨i, hi, e⟩ := List.getElem_of_mem z
  have h1 : (μ.take n)[i]? = some a := by rw [List.getElem?_eq_getElem hi, e]
  have hin : i < n := by rw [List.length_take] at hi; omega
  rw [List.getElem?_take_of_lt hin] at h1
  have := nodup_at nd h1 h
  omega
theorem settle_ok {K : PySem.W.Frag} {H : Hp} {μ : List Addr} {h : List O} {u : U} {x : V} {n : Nat} {d : D} (rh : Rh K H μ h) (r : RU K H μ u x) (e : settle n u h = some d) : RD K H (μ.take n) d x := by
  cases r with
  | d r => cases e; exact r.sub mem_take
  | ty n => cases e
  | gl x => cases e
  | scr q => cases e
  | @lab m a q =>
    unfold settle at e
    dsimp only at e
    split at e
    · rename_i hm
      split at e
      · rename_i xs z
        cases e
        obtain ⟨ho, q1, q2⟩ := rh.obj m _ a z q
        cases q2 with
        | lst y => exact .lst q1 (nodup_take rh.nd q hm) (y.sub mem_take)
      · cases e
    · cases e
/-! ### what stands for all contexts -/
def tE (K : PySem.W.Frag) (W : WX) (f : En → List O → R U) : TE := fun σ H Q => ∃ σ' h μ, RE K H μ σ' σ ∧ Rh K H μ h ∧ Post K W σ H μ (RU K) (f σ' h) Q
def tT (K : PySem.W.Frag) (W : WX) (f : En → List O → R Bool) : TT := fun σ H Q => ∃ σ' h μ, RE K H μ σ' σ ∧ Rh K H μ h ∧ Post K W σ H μ relB (f σ' h) Q
def tG (K : PySem.W.Frag) (t : Tg) : TG := fun x σ H Q => ∃ u σ' σ1' μ, RE K H μ σ' σ ∧ RU K H μ u x ∧ asg t u σ' = some σ1' ∧
  (∀ σ1, RE K H μ σ1' σ1 → (∀ vs : List Nat, (∀ i ∈ t.slots, i ∈ vs) → wipe σ1 vs = wipe σ vs) → Q σ1 H)
section
variable {X : Cx} {W : WX}
theorem Den.pe {e : Expr} {f : En → List O → R U} (h : Den X W e f) : PE X e (tE X.K W f) := by
  obtain ⟨t, p, c⟩ := h
  exact ⟨fun pins s σ H Q I ⟨σ', h, μ, re, rh, q⟩ => p.run pins s σ H Q I (c σ' h σ H μ Q re rh q)⟩
theorem DenT.pt {e : Expr} {f : En → List O → R Bool} (h : DenT X W e f) : PT X e (tT X.K W f) := by
  obtain ⟨t, p, c⟩ := h
  exact ⟨fun pins s σ H Q I ⟨σ', h, μ, re, rh, q⟩ => p.run pins s σ H Q I (c σ' h σ H μ Q re rh q)⟩
theorem DenG.pg {e : Expr} {t : Tg} (h : DenG X e t) : PG X e (tG X.K t) := by
  obtain ⟨g, p, c⟩ := h
  exact ⟨fun pins s σ H v u Q I r ⟨u', σ', σ1', μ, re, ru, e, q⟩ => p.run pins s σ H v u Q I r (c u' v σ' σ1' σ H μ Q re ru e q)⟩
def DenTs (X : Cx) (W : WX) (ifs : List Expr) (f : En → List O → R Bool) : Prop := PTs X ifs (tT X.K W f)
theorem dents_nil : DenTs X W [] (fun _ h => .ok true h) := ⟨fun pins s σ H Q I ⟨σ', h, μ, re, rh, q⟩ => pts_nil.run pins s σ H Q I (q.ret rh rfl)⟩
theorem dents_one {c : Expr} {f : En → List O → R Bool} (h : DenT X W c f) : DenTs X W [c] f := pts_one h.pt
end
/-! ### list comprehensions -/
def noErr {α : Type} (r : R α) : R α := match r with
  | .err _ _ => .bad
  | .ok a h => .ok a h
  | .bad => .bad
@[simp] theorem noErr_ok {α : Type} (a : α) (h : List O) : noErr (.ok a h) = .ok a h := rfl
@[simp] theorem noErr_bad {α : Type} : noErr (.bad : R α) = .bad := rfl
abbrev W0 : WX := fun _ _ _ _ => False
theorem Post.inner {α β γ δ : Type} {K : PySem.W.Frag} {W : WX} {σ σ2 : L2.St} {H H0 : Hp} {μ μ0 : List Addr} {Rel : Hp → List Addr → α → β → Prop} {Rel2 : Hp → List Addr → γ → δ → Prop} {r : R α} {Q : β → Hp → Prop} {Q2 : δ → Hp → Prop} {f : α → List O → R γ}
    (p : Post K W σ H0 μ0 Rel2 ((noErr r).bind f) Q2) (k : ∀ a h' H' μ' b, Ext μ H μ' H' → Rh K H' μ' h' → Rel H' μ' a b → Post K W σ H0 μ0 Rel2 (f a h') Q2 → Q b H') : Post K W0 σ2 H μ Rel r Q := by
  cases r with
  | ok a h => exact fun H' μ' b e rh rel => k a h H' μ' b e rh rel p
  | err c h => exact p.elim
  | bad => exact p.elim
def wipeE (σ : En) : List Nat → En
  | [] => σ
  | v :: vs => (wipeE σ vs).set v none
theorem wipeE_length (σ : En) : ∀ vs : List Nat, (wipeE σ vs).length = σ.length
  | [] => rfl
  | v :: vs => by unfold wipeE; rw [List.length_set, wipeE_length σ vs]
theorem wipeE_some {σ : En} {i : Nat} {x : U} : ∀ {vs : List Nat}, (wipeE σ vs)[i]? = some (some x) → σ[i]? = some (some x) ∧ i ∉ vs
  | [], h => ⟨h, by simp⟩
  | v :: vs, h => by
    unfold wipeE at h
    by_cases e : v = i
    · subst e
      by_cases hv : v < (wipeE σ vs).length
      · rw [List.getElem?_set_self hv] at h; cases h
      · rw [List.getElem?_eq_none (by simpa using hv)] at h; cases h
    · rw [List.getElem?_set_ne e] at h
      obtain ⟨h1, h2⟩ := wipeE_some h
      exact ⟨h1, by simp only [List.mem_cons, not_or]; exact ⟨fun z => e z.symm, h2⟩⟩
theorem RE.wipe {K : PySem.W.Frag} {H : Hp} {μ : List Addr} {σ' : En} {σ : L2.St} (h : RE K H μ σ' σ) (vs : List Nat) : RE K H μ (wipeE σ' vs) (wipe σ vs) := by
  refine ⟨by rw [wipeE_length, wipe_length, h.1], fun i u q => ?_⟩
  obtain ⟨q1, q2⟩ := wipeE_some q
  obtain ⟨v, h1, h2⟩ := h.2 i u q1
  exact ⟨v, by rw [wipe_out q2]; exact h1, h2⟩
theorem wipe_idem (σ : L2.St) (vs : List Nat) : wipe (wipe σ vs) vs = wipe σ vs := by
  apply List.ext_getElem?
  intro i
  by_cases h : i ∈ vs
  · have key : ∀ (τ : L2.St), (wipe τ vs)[i]? = if i < τ.length then some none else none := by
      intro τ
      induction vs with
      | nil => cases h
      | cons v vs ih =>
        show ((wipe τ vs).set v none)[i]? = _
        by_cases e : v = i
        · subst e
          by_cases hl : v < τ.length
          · rw [if_pos hl, List.getElem?_set_self (by rw [wipe_length]; exact hl)]
          · rw [if_neg hl, List.getElem?_eq_none (by rw [List.length_set, wipe_length]; omega)]
        · rw [List.getElem?_set_ne e]
          have hm : i ∈ vs := by
            rcases List.mem_cons.mp h with z | z
            · exact absurd z.symm e
            · exact z
          exact ih hm
    rw [key, key, wipe_length]
  · rw [wipe_out h]
def pushAcc (a0 : Nat) (u : U) (h : List O) : R Unit := match settle (a0 + 1) u h, h[a0]? with
  | some d, some (.lst acc) => if acc.length < 10000000 then .ok () ((h.take (a0 + 1)).set a0 (.lst (acc ++ [d]))) else .bad
  | _, _ => .bad
def lcGo (S : Src) (t : Tg) (vs : List Nat) (ft : En → List O → R Bool) (fe : En → List O → R U) (a0 : Nat) : Nat → Nat → En → List O → R Unit
  | 0, _, _, _ => .bad
  | k + 1, i, σ, h => match S.at_ i h with
    | none => .bad
    | some none => .ok () h
    | some (some u) => match asg t u (wipeE σ vs) with
      | none => .bad
      | some σ1 => (noErr (ft σ1 h)).bind fun b h1 => if b = true then (noErr (fe σ1 h1)).bind fun y h2 => (pushAcc a0 y h2).bind fun _ h3 => lcGo S t vs ft fe a0 k (i + 1) σ h3 else lcGo S t vs ft fe a0 k (i + 1) σ h1
def lcFin (m : Bool) (a0 : Nat) (h : List O) : R U := match h[a0]? with
  | some (.lst ys) => if m = true then .ok (.lab a0) (h.take (a0 + 1)) else .ok (.d (.list ys)) (h.take a0)
  | _ => .bad
def evLc (m : Bool) (t : Tg) (vs : List Nat) (fi : En → List O → R Src) (ft : En → List O → R Bool) (fe : En → List O → R U) : En → List O → R U := fun σ h =>
  (fi σ h).bind fun S h1 => (lcGo S t vs ft fe h1.length S.top 0 σ (h1 ++ [.lst []])).bind fun _ h2 => lcFin m h1.length h2

def isSetD : Expr → Bool
  | .Set _ _ _ => true
  | _ => false
theorem noFold {e : Expr} {env : Env} (h : isSetD e = false) (x : Value) : foldedSetIterable e env x = pure x := by
  cases e <;> first | rfl | cases h
section
variable {X : Cx} {W : WX}
theorem at_acc {K : PySem.W.Frag} {H H1 : Hp} {μ μ1 : List Addr} {h h1 : List O} {Da : Addr} (e : Ext (μ1 ++ [Da]) H1 μ H) (rh : Rh K H μ h) (hl : h1.length = μ1.length) {ys : List D} (q : h[h1.length]? = some (.lst ys)) :
    μ[h1.length]? = some Da ∧ ∃ vs, H Da = some (.lst vs) ∧ RDs K H μ ys vs := by
  have hm : μ[h1.length]? = some Da := by
    refine e.get ?_
    rw [hl]
    simp
  refine ⟨hm, ?_⟩
  obtain ⟨ho, q1, q2⟩ := rh.obj _ _ _ q hm
  cases q2 with
  | lst r => exact ⟨_, q1, r⟩
theorem lcFin_of {K : PySem.W.Frag} {σ : L2.St} {H H1 H0 : Hp} {μ μ1 : List Addr} {h h1 : List O} {Da : Addr} {m : Bool} {Q : VK} (e0 : Ext μ1 H0 (μ1 ++ [Da]) H1) (e : Ext (μ1 ++ [Da]) H1 μ H) (rh : Rh K H μ h) (hl : h1.length = μ1.length) (p : Post K W σ H0 μ1 (RU K) (lcFin m h1.length h) Q) : Q (.ref Da) H := by
  unfold lcFin at p
  split at p
  · rename_i ys q
    obtain ⟨hm, vs, q1, q2⟩ := at_acc e rh hl q
    cases m with
    | true =>
      rw [if_pos rfl] at p
      refine p H (μ.take (h1.length + 1)) _ ((e0.trans e).cut (by omega)) (rh.cut _) (.lab ?_)
      rw [List.getElem?_take_of_lt (by omega)]
      exact hm
    | false =>
      rw [if_neg Bool.false_ne_true] at p
      exact p H (μ.take h1.length) _ ((e0.trans e).cut (by omega)) (rh.cut _) (.d (.lst q1 (nodup_take rh.nd hm (Nat.le_refl _)) (q2.sub mem_take)))
  · exact p.elim
theorem pushAcc_of {K : PySem.W.Frag} {σ : L2.St} {H H1 Hb : Hp} {μ μ1 μb : List Addr} {h h1 : List O} {Da : Addr} {u : U} {y : V} {f : Unit → List O → R U} {Q2 : VK} {G : Hp → Prop} (e : Ext (μ1 ++ [Da]) H1 μ H) (rh : Rh K H μ h) (hl : h1.length = μ1.length) (ru : RU K H μ u y)
    (p : Post K W σ Hb μb (RU K) ((pushAcc h1.length u h).bind f) Q2)
    (k : ∀ acc h', H Da = some (.lst acc) → acc.length < sizeLine → Ext (μ1 ++ [Da]) H1 (μ.take (h1.length + 1)) (upd H Da (.lst (acc ++ [y]))) → Rh K (upd H Da (.lst (acc ++ [y]))) (μ.take (h1.length + 1)) h' → h1.length < h'.length → Post K W σ Hb μb (RU K) (f () h') Q2 → G (upd H Da (.lst (acc ++ [y])))) :
    ∃ acc, H Da = some (.lst acc) ∧ acc.length < sizeLine ∧ G (upd H Da (.lst (acc ++ [y]))) := by
  unfold pushAcc at p
  split at p
  · rename_i d acc ed q
    split at p
    · rename_i hsz
      obtain ⟨hm, vs, q1, q2⟩ := at_acc e rh hl q
      have hz : vs.length < sizeLine := by rw [← q2.length, line_eq]; omega
      have rd := settle_ok rh ru ed
      have hmt : (μ.take (h1.length + 1))[h1.length]? = some Da := by rw [List.getElem?_take_of_lt (by omega)]; exact hm
      have hlt : h1.length < h.length := (List.getElem?_eq_some_iff.mp q).1
      refine ⟨vs, q1, hz, k vs _ q1 hz ?_ ((rh.cut _).chg hmt (.lst ((q2.sub mem_take).append (.cons rd .nil)))) (by rw [List.length_set, List.length_take]; omega) p⟩
      have ec : Ext (μ1 ++ [Da]) H1 (μ.take (h1.length + 1)) H := e.cut (by simp [hl])
      exact ec.trans (Ext.chg hmt)
    · exact p.elim
  · exact p.elim
theorem lc_body {m : Bool} {t : Tg} {wi : TI} {fi : En → List O → R Src} {ft : En → List O → R Bool} {fe : En → List O → R U} {own : List (Str × Nat)} (ci : ∀ σ' h σ H μ Rr, RE X.K H μ σ' σ → Rh X.K H μ h → Post X.K W σ H μ (SrR X.K) (fi σ' h) Rr → wi σ H Rr) (hsl : ∀ i ∈ t.slots, i ∈ own.map (·.2)) :
    ∀ σ' h σ H μ Q, RE X.K H μ σ' σ → Rh X.K H μ h → Post X.K W σ H μ (RU X.K) (evLc m t (own.map (·.2)) fi ft fe σ' h) Q → tLc wi (tG X.K t) (tT X.K W0 ft) (tE X.K W0 fe) (own.map (·.2)) σ H Q := by
  intro σ' h σ H μ Q re rh p
  refine ci σ' h σ H μ _ re rh (Post.bind p fun S h1 H1 μ1 J e1 rh1 sr p1 => ?_)
  intro Da hD
  have e0 : Ext μ1 H1 (μ1 ++ [Da]) (upd H1 Da (.lst [])) := Ext.lab hD
  have hl := rh1.len
  refine ⟨fun i k Hx => ∃ μ' h', Ext (μ1 ++ [Da]) (upd H1 Da (.lst [])) μ' Hx ∧ Rh X.K Hx μ' h' ∧
      Post X.K W σ H1 μ1 (RU X.K) ((lcGo S t (own.map (·.2)) ft fe h1.length k i σ' h').bind fun _ h2 => lcFin m h1.length h2) Q,
    ⟨S.top, μ1 ++ [Da], h1 ++ [.lst []], Ext.refl, rh1.lab hD (.lst .nil), p1⟩, ?_⟩
  rintro i k Hx ⟨μ', h', ex, rhx, px⟩
  cases k with
  | zero => exact px.elim
  | succ k =>
    unfold lcGo at px
    obtain ⟨sr1, sr2⟩ := sr Hx μ' h' (e0.trans ex) rhx i
    cases hat : S.at_ i h' with
    | none => simp only [hat] at px; exact px.elim
    | some o =>
      cases o with
      | none =>
        simp only [hat] at px
        exact .inl ⟨sr1 hat, lcFin_of e0 ex rhx hl px⟩
      | some u =>
        simp only [hat] at px
        obtain ⟨go, yl⟩ := sr2 u hat
        refine .inr ⟨go, fun Hz => ∃ μ' h', Ext (μ1 ++ [Da]) (upd H1 Da (.lst [])) μ' Hz ∧ Rh X.K Hz μ' h' ∧
          Post X.K W σ H1 μ1 (RU X.K) ((lcGo S t (own.map (·.2)) ft fe h1.length k (i + 1) σ' h').bind fun _ h2 => lcFin m h1.length h2) Q, fun Hz z => ⟨k, Nat.lt_succ_self k, z⟩, fun x Hy y => ?_⟩
        obtain ⟨ey, rhy, ruy⟩ := yl x Hy y
        cases ea : asg t u (wipeE σ' (own.map (·.2))) with
        | none => simp only [ea] at px; exact px.elim
        | some σ1' =>
          simp only [ea] at px
          have re' : RE X.K Hy μ' σ' σ := ((re.ext e1).ext (e0.trans ex)).ext ey
          refine ⟨u, wipeE σ' (own.map (·.2)), σ1', μ', re'.wipe _, ruy, ea, fun σ1 re1 k1 => ⟨?_, σ1', h', μ', re1, rhy, ?_⟩⟩
          · rw [k1 _ hsl, wipe_idem]
          · have px2 : Post X.K W σ H1 μ1 (RU X.K) ((noErr (ft σ1' h')).bind fun b h1' => (if b = true then (noErr (fe σ1' h1')).bind fun y h2 => (pushAcc h1.length y h2).bind fun _ h3 => lcGo S t (own.map (·.2)) ft fe h1.length k (i + 1) σ' h3 else lcGo S t (own.map (·.2)) ft fe h1.length k (i + 1) σ' h1').bind fun _ h2 => lcFin m h1.length h2) Q := by
              cases hft : ft σ1' h' with
              | ok b h1' => rw [hft] at px; exact px
              | err c h1' => rw [hft] at px; exact px
              | bad => rw [hft] at px; exact px
            refine Post.inner px2 fun b h3 H3 μ3 b' e3 rh3 rb p3 => ?_
            cases rb
            have ex3 := (ex.trans ey).trans e3
            cases b with
            | false =>
              rw [if_neg Bool.false_ne_true] at p3 ⊢
              exact ⟨μ3, h3, ex3, rh3, p3⟩
            | true =>
              rw [if_pos rfl] at p3 ⊢
              refine ⟨σ1', h3, μ3, re1.ext e3, rh3, ?_⟩
              have p4 : Post X.K W σ H1 μ1 (RU X.K) ((noErr (fe σ1' h3)).bind fun y h2 => (pushAcc h1.length y h2).bind fun _ h3 => (lcGo S t (own.map (·.2)) ft fe h1.length k (i + 1) σ' h3).bind fun _ h2 => lcFin m h1.length h2) Q := by
                cases hfe : fe σ1' h3 with
                | ok b h1' =>
                  rw [hfe] at p3
                  have p3' : Post X.K W σ H1 μ1 (RU X.K) (((pushAcc h1.length b h1').bind fun _ h3 => lcGo S t (own.map (·.2)) ft fe h1.length k (i + 1) σ' h3).bind fun _ h2 => lcFin m h1.length h2) Q := p3
                  show Post X.K W σ H1 μ1 (RU X.K) ((pushAcc h1.length b h1').bind fun _ h3 => (lcGo S t (own.map (·.2)) ft fe h1.length k (i + 1) σ' h3).bind fun _ h2 => lcFin m h1.length h2) Q
                  cases hpa : pushAcc h1.length b h1' with
                  | ok b h1' => rw [hpa] at p3'; exact p3'
                  | err c h1' => rw [hpa] at p3'; exact p3'
                  | bad => rw [hpa] at p3'; exact p3'
                | err c h1' => rw [hfe] at p3; exact p3
                | bad => rw [hfe] at p3; exact p3
              refine Post.inner p4 fun y h5 H5 μ5 yv e5 rh5 ry p5 => ?_
              exact pushAcc_of (G := fun Hz => ∃ μ' h', Ext (μ1 ++ [Da]) (upd H1 Da (.lst [])) μ' Hz ∧ Rh X.K Hz μ' h' ∧
                Post X.K W σ H1 μ1 (RU X.K) ((lcGo S t (own.map (·.2)) ft fe h1.length k (i + 1) σ' h').bind fun _ h2 => lcFin m h1.length h2) Q) (ex3.trans e5) rh5 hl ry p5 fun acc h6 q1 q2 e6 rh6 _ p6 => ⟨_, h6, e6, rh6, p6⟩
theorem den_lc {m : Bool} {elt tg iter : Expr} {ifs : List Expr} {scope : Scope} {own : List (Str × Nat)} {pos : Pos} {t : Tg} {vs : List Nat} {fi : En → List O → R Src} {ft : En → List O → R Bool} {fe : En → List O → R U} (hc : X.calm = true) (hN : X.N.Nodup) (hi : DenI X W tg iter fi) (ok : BlkOk X.N X.env.scope scope own)
    (hg : ∀ (s : Shared) (H : Hp) (C : Addr) (cl : List (Str × Addr)) (fp : List Addr), DenG (X.blk s H scope (compEnvC scope cl C X.env) fp) tg t)
    (ht : ∀ (s : Shared) (H : Hp) (C : Addr) (cl : List (Str × Addr)) (fp : List Addr), DenTs (X.blk s H scope (compEnvC scope cl C X.env) fp) W0 ifs ft)
    (he : ∀ (s : Shared) (H : Hp) (C : Addr) (cl : List (Str × Addr)) (fp : List Addr), Den (X.blk s H scope (compEnvC scope cl C X.env) fp) W0 elt fe)
    (hv : own.map (·.2) = vs) (hsl : ∀ i ∈ t.slots, i ∈ vs) (hs : isSetD iter = false) : Den X W (.ListComp elt [⟨tg, iter, ifs, 0⟩] scope pos) (evLc m t vs fi ft fe) := by
  obtain ⟨wi, pi, ci⟩ := hi
  subst hv
  exact ⟨_, pe_lc (g := tG X.K t) (tt := tT X.K W0 ft) (te := tE X.K W0 fe) hc hN pi ok (fun s H C cl fp => (hg s H C cl fp).pg) ht (fun s H C cl fp => (he s H C cl fp).pe) (noFold hs), lc_body ci hsl⟩
end
end Py

/-! statements -/
namespace Py
open PySem PySem.Spec PyProof.Rows L2
/-- how a statement ends -/
inductive Fl where
  | nx (σ : En) (h : List O) | ret (u : U) (h : List O) | bk (σ : En) (h : List O) | ct (σ : En) (h : List O) | er (c : Str) (σ : En) (h : List O) | bad
def R.stm {α : Type} (r : R α) (σ : En) (f : α → List O → Fl) : Fl := match r with
  | .ok a h => f a h
  | .err c h => .er c σ h
  | .bad => .bad
@[simp] theorem R.stm_ok {α : Type} (a : α) (h : List O) (σ : En) (f : α → List O → Fl) : (R.ok a h).stm σ f = f a h := rfl
@[simp] theorem R.stm_err {α : Type} (c : Str) (h : List O) (σ : En) (f : α → List O → Fl) : (R.err c h : R α).stm σ f = .er c σ h := rfl
@[simp] theorem R.stm_bad {α : Type} (σ : En) (f : α → List O → Fl) : (R.bad : R α).stm σ f = .bad := rfl
def PostS (K : PySem.W.Frag) (W : WX) (H : Hp) (μ : List Addr) (r : Fl) (D : Ends) : Prop := match r with
  | .nx σ' h' => ∀ σ H' μ', Ext μ H μ' H' → Rh K H' μ' h' → RE K H' μ' σ' σ → D.nx σ H'
  | .bk σ' h' => ∀ σ H' μ', Ext μ H μ' H' → Rh K H' μ' h' → RE K H' μ' σ' σ → D.bk σ H'
  | .ct σ' h' => ∀ σ H' μ', Ext μ H μ' H' → Rh K H' μ' h' → RE K H' μ' σ' σ → D.ct σ H'
  | .ret u h' => ∀ v H' μ', Ext μ H μ' H' → Rh K H' μ' h' → RU K H' μ' u v → D.rt v H'
  | .er c σ' h' => ∀ σ H' μ', Ext μ H μ' H' → Rh K H' μ' h' → RE K H' μ' σ' σ → W (.ref (He.ga K c)) none σ H'
  | .bad => False
section
variable {K : PySem.W.Frag} {W : WX} {σ : L2.St} {σ' : En} {H H' : Hp} {μ μ' : List Addr} {r : Fl} {D : Ends}
theorem PostS.at (p : PostS K W H μ r D) (e : Ext μ H μ' H') : PostS K W H' μ' r D := by
  cases r with
  | nx s h => exact fun σ H2 μ2 e2 => p σ H2 μ2 (e.trans e2)
  | bk s h => exact fun σ H2 μ2 e2 => p σ H2 μ2 (e.trans e2)
  | ct s h => exact fun σ H2 μ2 e2 => p σ H2 μ2 (e.trans e2)
  | ret u h => exact fun σ H2 μ2 e2 => p σ H2 μ2 (e.trans e2)
  | er c s h => exact fun σ H2 μ2 e2 => p σ H2 μ2 (e.trans e2)
  | bad => exact p
theorem PostS.nx {h : List O} (p : PostS K W H μ (.nx σ' h) D) (rh : Rh K H μ h) (re : RE K H μ σ' σ) : D.nx σ H := p σ H μ Ext.refl rh re
theorem PostS.stm {α β : Type} {Rel : Hp → List Addr → α → β → Prop} {x : R α} {f : α → List O → Fl} {Q : β → Hp → Prop} (re : RE K H μ σ' σ) (p : PostS K W H μ (x.stm σ' f) D)
    (k : ∀ a h' H' μ' b, Ext μ H μ' H' → Rh K H' μ' h' → Rel H' μ' a b → PostS K W H' μ' (f a h') D → Q b H') : Post K W σ H μ Rel x Q := by
  cases x with
  | ok a h => exact fun H' μ' b e rh rel => k a h H' μ' b e rh rel (PostS.at p e)
  | err c h => exact fun H' μ' e rh => p σ H' μ' e rh (re.ext e)
  | bad => exact p
end
def tS (K : PySem.W.Frag) (W : WX) (f : En → List O → Fl) : TS := fun D σ H => ∃ σ' h μ, RE K H μ σ' σ ∧ Rh K H μ h ∧ PostS K W H μ (f σ' h) D
def DenS (X : Cx) (W : WX) (st : Stmt) (f : En → List O → Fl) : Prop := PS X st (tS X.K W f)
def DenB (X : Cx) (W : WX) (st : List Stmt) (f : En → List O → Fl) : Prop := PSs X st (tS X.K W f)
theorem dens_of {X : Cx} {W : WX} {st : Stmt} {f : En → List O → Fl} {t : TS} (p : PS X st t) (c : ∀ σ' h σ H μ D, RE X.K H μ σ' σ → Rh X.K H μ h → PostS X.K W H μ (f σ' h) D → t D σ H) : DenS X W st f :=
  ⟨fun pins s σ H D I ⟨σ', h, μ, re, rh, q⟩ => p.run pins s σ H D I (c σ' h σ H μ D re rh q)⟩
section
variable {X : Cx} {W : WX}
def sNx : En → List O → Fl := fun σ h => .nx σ h
theorem denb_nil : DenB X W [] sNx := ⟨fun pins s σ H D I ⟨σ', h, μ, re, rh, q⟩ => pss_nil.run pins s σ H D I (q.nx rh re)⟩
def sSeq (f g : En → List O → Fl) : En → List O → Fl := fun σ h => match f σ h with
  | .nx σ h => g σ h
  | r => r
theorem denb_cons {st : Stmt} {rest : List Stmt} {f g : En → List O → Fl} (h1 : DenS X W st f) (h2 : DenB X W rest g) : DenB X W (st :: rest) (sSeq f g) := by
  refine ⟨fun pins s σ H D I ⟨σ', h, μ, re, rh, q⟩ => (pss_cons h1 h2).run pins s σ H D I ⟨σ', h, μ, re, rh, ?_⟩⟩
  unfold sSeq at q
  cases hf : f σ' h with
  | nx s1 h1 => simp only [hf] at q; exact fun σ H2 μ2 e rh2 re2 => ⟨s1, h1, μ2, re2, rh2, q.at e⟩
  | bk s1 h1 => simp only [hf] at q; exact q
  | ct s1 h1 => simp only [hf] at q; exact q
  | ret s1 h1 => simp only [hf] at q; exact q
  | er c s1 h1 => simp only [hf] at q; exact q
  | bad => simp only [hf] at q; exact q
theorem denb_one {st : Stmt} {f : En → List O → Fl} (h1 : DenS X W st f) : DenB X W [st] f := pss_one h1
theorem dens_pass {pos : Pos} : DenS X W (.Pass pos) sNx := dens_of ps_pass fun σ' h σ H μ D re rh p => p.nx rh re
def sBk : En → List O → Fl := fun σ h => .bk σ h
def sCt : En → List O → Fl := fun σ h => .ct σ h
theorem dens_break {pos : Pos} : DenS X W (.Break pos) sBk := dens_of ps_break fun σ' h σ H μ D re rh p => p σ H μ Ext.refl rh re
theorem dens_cont {pos : Pos} : DenS X W (.Continue pos) sCt := dens_of ps_continue fun σ' h σ H μ D re rh p => p σ H μ Ext.refl rh re
def isCmp : Expr → Bool
  | .ListComp _ _ _ _ => true
  | .SetComp _ _ _ _ => true
  | .DictComp _ _ _ _ _ => true
  | _ => false
theorem noSwap {e : Expr} {tg : Option Expr} {l : Nat} {env : Env} (h : isCmp e = false) : swapsWith e tg l env = pure false := by
  cases e <;> first | rfl | cases h
theorem noSwap1 {e tg : Expr} {l : Nat} {env : Env} (h : isCmp e = false) : swapsWithSole [tg] e l env = pure false := by
  unfold swapsWithSole
  exact noSwap h
def sDrop (f : En → List O → R U) : En → List O → Fl := fun σ h => (f σ h).stm σ fun _ h => .nx σ h
theorem dens_expr {e : Expr} {pos : Pos} {f : En → List O → R U} (hf : Den X W e f) (hs : isCmp e = false) : DenS X W (.Expr e pos) (sDrop f) := by
  obtain ⟨t, p, c⟩ := hf
  refine dens_of (ps_expr p (noSwap hs)) fun σ' h σ H μ D re rh p => ?_
  exact c σ' h σ H μ _ re rh (PostS.stm re p fun a h1 H1 μ1 b e1 rh1 rel p1 => p1.nx rh1 (re.ext e1))
def sRet (f : En → List O → R U) : En → List O → Fl := fun σ h => (f σ h).stm σ fun u h => .ret u h
theorem dens_ret {e : Expr} {pos : Pos} {f : En → List O → R U} (hf : Den X W e f) : DenS X W (.Return (some e) pos) (sRet f) := by
  obtain ⟨t, p, c⟩ := hf
  refine dens_of (ps_ret p) fun σ' h σ H μ D re rh p => ?_
  exact c σ' h σ H μ _ re rh (PostS.stm re p fun a h1 H1 μ1 b e1 rh1 rel p1 => p1 b H1 μ1 Ext.refl rh1 rel)
def sRetN : En → List O → Fl := fun σ h => .ret (.d .none) h
theorem dens_retN {pos : Pos} : DenS X W (.Return none pos) sRetN := dens_of ps_retN fun σ' h σ H μ D re rh p => p .non H μ Ext.refl rh (.d .non)
/-! ### assignment -/
def sAsg (f : En → List O → R U) (t : Tg) : En → List O → Fl := fun σ h => (f σ h).stm σ fun u h => match asg t u σ with
  | some σ1 => .nx σ1 h
  | none => .bad
theorem asg_of {t : Tg} {u : U} {x : V} {g : TG} {σ' : En} {h : List O} {σ : L2.St} {H : Hp} {μ : List Addr} {D : Ends} {tg : Expr} (hg : DenG X tg t) (re : RE X.K H μ σ' σ) (rh : Rh X.K H μ h) (ru : RU X.K H μ u x)
    (p : PostS X.K W H μ (match asg t u σ' with | some σ1 => Fl.nx σ1 h | none => .bad) D) : tG X.K t x σ H D.nx := by
  cases e : asg t u σ' with
  | none => simp only [e] at p; exact p.elim
  | some σ1' =>
    simp only [e] at p
    exact ⟨u, σ', σ1', μ, re, ru, e, fun σ1 re1 _ => p.nx rh re1⟩
theorem dens_set {i : Nat} {x : Str} {e : Expr} {pos pos' : Pos} {f : En → List O → R U} (hN : X.N.Nodup) (hi : X.N[i]? = some x) (hx : Loc X.env.scope x) (hf : X.fn x = true ∨ X.env.scope.names.lookup x = some .local) (he : Den X W e f)
    (hs : swapsWith e (some (.Name x pos')) pos.line X.env = pure false) : DenS X W (.Assign [.Name x pos'] e pos) (sAsg f (.nm i)) := by
  obtain ⟨t, p, c⟩ := he
  refine dens_of (ps_set hN hi hx p hs hf) fun σ' h σ H μ D re rh p => ?_
  exact c σ' h σ H μ _ re rh (PostS.stm re p fun a h1 H1 μ1 b e1 rh1 rel p1 => p1.nx rh1 ((re.ext e1).set rel))
/-- a target that is a tuple, a value that is taken apart -/
theorem dens_tup {tg e : Expr} {pos : Pos} {t : Tg} {f : En → List O → R U} (hg : DenG X tg t) (he : Den X W e f) (hs : swapsWithSole [tg] e pos.line X.env = pure false) (hw : swappedStores [tg] e X.env = pure none) (hst : isStar tg = false) :
    DenS X W (.Assign [tg] e pos) (sAsg f t) := by
  obtain ⟨te, p, c⟩ := he
  refine dens_of (ps_asg p hg.pg hs hw (by rw [assignEach_cons hst]; rfl)) fun σ' h σ H μ D re rh p => ?_
  exact c σ' h σ H μ _ re rh (PostS.stm re p fun a h1 H1 μ1 b e1 rh1 rel p1 => asg_of (g := tG X.K t) hg (re.ext e1) rh1 rel p1)
def sPar2 (i j : Nat) (f : En → List O → R (List U)) : En → List O → Fl := fun σ h => (f σ h).stm σ fun us h => match us with
  | [u, v] => .nx ((σ.set i (some u)).set j (some v)) h
  | _ => .bad
theorem dens_par2 {i j : Nat} {x y : Str} {a b : Expr} {px py pt pos : Pos} {kt k2 pt2} {f : En → List O → R (List U)} (hc : X.calm = true) (hN : X.N.Nodup) (hi : X.N[i]? = some x) (hj : X.N[j]? = some y) (hij : i ≠ j)
    (hx : X.env.scope.names.lookup x = some .local) (hy : X.env.scope.names.lookup y = some .local) (ha : DenA X W [a, b] f)
    (hw : swappedStores [.Tuple [.Name x px, .Name y py] kt pt] (.Tuple [a, b] k2 pt2) X.env = pure (some [x, y])) :
    DenS X W (.Assign [.Tuple [.Name x px, .Name y py] kt pt] (.Tuple [a, b] k2 pt2) pos) (sPar2 i j f) := by
  obtain ⟨ta, pa, ca⟩ := ha
  refine dens_of (ps_par hc hN hi hj hij hx hy pa hw) fun σ' h σ H μ D re rh p => ?_
  refine ca σ' h σ H μ _ re rh (PostS.stm re p fun us h1 H1 μ1 xs e1 rh1 ru p1 => ?_)
  split at p1
  · cases ru with
    | cons r1 r2 => cases r2 with
      | cons r2 r3 =>
        cases r3
        exact ⟨_, _, rfl, p1.nx rh1 (((re.ext e1).set r1).set r2)⟩
  · exact p1.elim
def sPar3 (i j k : Nat) (f : En → List O → R (List U)) : En → List O → Fl := fun σ h => (f σ h).stm σ fun us h => match us with
  | [u, v, w] => .nx (((σ.set i (some u)).set j (some v)).set k (some w)) h
  | _ => .bad

theorem dens_par3 {i j k : Nat} {x y z : Str} {a b c : Expr} {px py pz pt pos : Pos} {kt k2 pt2} {f : En → List O → R (List U)} (hc : X.calm = true) (hN : X.N.Nodup) (hi : X.N[i]? = some x) (hj : X.N[j]? = some y) (hk : X.N[k]? = some z) (hij : i ≠ j) (hik : i ≠ k) (hjk : j ≠ k)
    (hx : X.env.scope.names.lookup x = some .local) (hy : X.env.scope.names.lookup y = some .local) (hz : X.env.scope.names.lookup z = some .local) (ha : DenA X W [a, b, c] f)
    (hw : swappedStores [.Tuple [.Name x px, .Name y py, .Name z pz] kt pt] (.Tuple [a, b, c] k2 pt2) X.env = pure (some [x, y, z])) :
    DenS X W (.Assign [.Tuple [.Name x px, .Name y py, .Name z pz] kt pt] (.Tuple [a, b, c] k2 pt2) pos) (sPar3 i j k f) := by
  obtain ⟨ta, pa, ca⟩ := ha
  refine dens_of (ps_par3 hc hN hi hj hk hij hik hjk hx hy hz pa hw) fun σ' h σ H μ D re rh p => ?_
  refine ca σ' h σ H μ _ re rh (PostS.stm re p fun us h1 H1 μ1 xs e1 rh1 ru p1 => ?_)
  split at p1
  · cases ru with
    | cons r1 r2 => cases r2 with
      | cons r2 r3 => cases r3 with
        | cons r3 r4 =>
          cases r4
          exact ⟨_, _, _, rfl, p1.nx rh1 ((((re.ext e1).set r1).set r2).set r3)⟩
  · exact p1.elim
/-- o[i] = v -/
def putK' (kvs : List (Key × D)) (k : Key) (d : D) : List (Key × D) := match kvs with
  | [] => [(k, d)]
  | (q, e) :: r => if q = k then (q, d) :: r else (q, e) :: putK' r k d
def setU (o i v : U) (h : List O) : Option (List O) := match o with
  | .lab n => match h[n]? with
    | some (.lst xs) => match i, v with
      | .d (.int k), .d d => (ixN xs.length k).map fun j => h.set n (.lst (xs.set j d))
      | _, _ => none
    | _ => none
  | _ => none
def sSub (f fo fi : En → List O → R U) : En → List O → Fl := fun σ h => (f σ h).stm σ fun v h => (fo σ h).stm σ fun o h => (fi σ h).stm σ fun i h => match setU o i v h with
  | some h' => .nx σ h'
  | none => .bad
theorem RDs.set' {K : PySem.W.Frag} {H : Hp} {μ : List Addr} {ds : List D} {vs : List V} {j : Nat} {d : D} {v : V} (r : RDs K H μ ds vs) (h : RD K H μ d v) : RDs K H μ (ds.set j d) (vs.set j v) := r.set h j
theorem dens_sub {o i e : Expr} {pos pos' : Pos} {f fo fi : En → List O → R U} (he : Den X W e f) (ho : Den X W o fo) (hi : Den X W i fi) (hs : isCmp e = false) (hsl : isSl i = false) (hu : X.A.units + 64 < cLine) : DenS X W (.Assign [.Subscript o i pos'] e pos) (sSub f fo fi) := by
  obtain ⟨te, pe, ce⟩ := he
  obtain ⟨to, po, co⟩ := ho
  obtain ⟨ti, pi, ci⟩ := hi
  refine dens_of (ps_asg pe (pg_sub po pi set_list (by intro v; cases i <;> first | rfl | cases hsl)) (noSwap1 hs) (by rfl) (by rfl)) fun σ' h σ H μ D re rh p => ?_
  refine ce σ' h σ H μ _ re rh (PostS.stm re p fun v h1 H1 μ1 vv e1 rh1 rv p1 => ?_)
  refine co σ' h1 σ H1 μ1 _ (re.ext e1) rh1 (PostS.stm (re.ext e1) p1 fun u h2 H2 μ2 uu e2 rh2 ru p2 => ?_)
  refine ci σ' h2 σ H2 μ2 _ (re.ext (e1.trans e2)) rh2 (PostS.stm (re.ext (e1.trans e2)) p2 fun w h3 H3 μ3 ww e3 rh3 rw p3 => ?_)
  have re3 := re.ext (e1.trans (e2.trans e3))
  have rv3 := rv.ext (e2.trans e3)
  have ru3 := ru.ext e3
  unfold setU at p3
  cases ru3 with
  | @lab n a ra =>
    dsimp only at p3
    cases q : h3[n]? with
    | none => simp only [q] at p3; exact p3.elim
    | some ob =>
      cases ob with
      | mix us => simp only [q] at p3; exact p3.elim
      | dct us => simp only [q] at p3; exact p3.elim
      | lst xs =>
        simp only [q] at p3
        split at p3
        · rename_i hh z
          split at z
          · rename_i k d
            cases rw.int_inv
            cases hj : ixN xs.length k with
            | none => rw [hj] at z; cases z
            | some j =>
              rw [hj] at z
              cases z
              obtain ⟨hob, q1, q2⟩ := rh3.obj n _ a q ra
              cases q2 with
              | @lst _ vs r =>
                cases rv3 with
                | d rd => exact ⟨a, vs, k, j, rfl, rfl, q1, by rw [← r.length]; exact hj, p3 σ _ _ (Ext.chg ra) (rh3.chg ra (.lst (r.set rd j))) (re3.ext (Ext.chg ra))⟩
          · cases z
        · exact p3.elim
  | _ => exact p3.elim
/-! ### if, while, for -/
def sIf (c : En → List O → R Bool) (f g : En → List O → Fl) : En → List O → Fl := fun σ h => (c σ h).stm σ fun b h => if b = true then f σ h else g σ h
theorem dens_if {c : Expr} {a b : List Stmt} {pos : Pos} {fc : En → List O → R Bool} {f g : En → List O → Fl} (hc : DenT X W c fc) (ha : DenB X W a f) (hb : DenB X W b g) : DenS X W (.If c a b pos) (sIf fc f g) := by
  obtain ⟨tc, pc, cc⟩ := hc
  refine dens_of (ps_if pc ha hb) fun σ' h σ H μ D re rh p => ?_
  refine cc σ' h σ H μ _ re rh (PostS.stm re p fun k h1 H1 μ1 k' e1 rh1 rk p1 => ?_)
  cases rk
  cases k with
  | true => rw [if_pos rfl] at p1 ⊢; exact ⟨σ', h1, μ1, re.ext e1, rh1, p1⟩
  | false => rw [if_neg Bool.false_ne_true] at p1 ⊢; exact ⟨σ', h1, μ1, re.ext e1, rh1, p1⟩
def whGo (c : En → List O → R Bool) (f : En → List O → Fl) : Nat → En → List O → Fl
  | 0, _, _ => .bad
  | k + 1, σ, h => (c σ h).stm σ fun b h => if b = true then (match f σ h with
    | .nx σ h => whGo c f k σ h
    | .ct σ h => whGo c f k σ h
    | .bk σ h => .nx σ h
    | r => r) else .nx σ h
theorem dens_while {c : Expr} {body : List Stmt} {pos : Pos} {fc : En → List O → R Bool} {f : En → List O → Fl} (F : Nat) (hp : PassesOwn (model X.prog X.w) X.A X.env X.xe) (hc : DenT X W c fc) (hb : DenB X W body f) : DenS X W (.While c body [] pos) (whGo fc f F) := by
  obtain ⟨tc, pc, cc⟩ := hc
  refine dens_of (ps_while hp pc hb) fun σ' h σ H μ D re rh p => ?_
  refine ⟨fun m σ H => ∃ σ' h μ, RE X.K H μ σ' σ ∧ Rh X.K H μ h ∧ PostS X.K W H μ (whGo fc f m σ' h) D, ⟨F, σ', h, μ, re, rh, p⟩, ?_⟩
  rintro m σ H ⟨σ', h, μ, re, rh, p⟩
  cases m with
  | zero => exact p.elim
  | succ m =>
    unfold whGo at p
    refine cc σ' h σ H μ _ re rh (PostS.stm re p fun k h1 H1 μ1 k' e1 rh1 rk p1 => ?_)
    cases rk
    cases k with
    | false => rw [if_neg Bool.false_ne_true] at p1 ⊢; exact p1.nx rh1 (re.ext e1)
    | true =>
      rw [if_pos rfl] at p1 ⊢
      refine ⟨fun σ H => ∃ σ' h μ, RE X.K H μ σ' σ ∧ Rh X.K H μ h ∧ PostS X.K W H μ (whGo fc f m σ' h) D, fun σ' H' z => ⟨m, Nat.lt_succ_self m, z⟩, σ', h1, μ1, re.ext e1, rh1, ?_⟩
      cases hf : f σ' h1 with
      | nx s h2 => simp only [hf] at p1; exact fun σ3 H3 μ3 e3 rh3 re3 => ⟨s, h2, μ3, re3, rh3, p1.at e3⟩
      | ct s h2 => simp only [hf] at p1; exact fun σ3 H3 μ3 e3 rh3 re3 => ⟨s, h2, μ3, re3, rh3, p1.at e3⟩
      | bk s h2 => simp only [hf] at p1; exact p1
      | ret s h2 => simp only [hf] at p1; exact p1
      | er c s h2 => simp only [hf] at p1; exact p1
      | bad => simp only [hf] at p1; exact p1
def foGo (S : Src) (t : Tg) (f : En → List O → Fl) : Nat → Nat → En → List O → Fl
  | 0, _, _, _ => .bad
  | k + 1, i, σ, h => match S.at_ i h with
    | none => .bad
    | some none => .nx σ h
    | some (some u) => match asg t u σ with
      | none => .bad
      | some σ => match f σ h with
        | .nx σ h => foGo S t f k (i + 1) σ h
        | .ct σ h => foGo S t f k (i + 1) σ h
        | .bk σ h => .nx σ h
        | r => r
def sFor (t : Tg) (fi : En → List O → R Src) (f : En → List O → Fl) : En → List O → Fl := fun σ h => (fi σ h).stm σ fun S h => foGo S t f S.top 0 σ h
theorem dens_for {tg iter : Expr} {body : List Stmt} {pos : Pos} {t : Tg} {fi : En → List O → R Src} {f : En → List O → Fl} (hp : PassesOwn (model X.prog X.w) X.A X.env X.xe) (hc : X.calm = true) (hi : DenI X W tg iter fi) (hg : DenG X tg t) (hb : DenB X W body f)
    (hs : isSetD iter = false) : DenS X W (.For tg iter body [] pos) (sFor t fi f) := by
  obtain ⟨wi, pi, ci⟩ := hi
  refine dens_of (ps_for hp hc pi hg.pg hb (noFold hs)) fun σ' h σ H μ D re rh p => ?_
  refine ci σ' h σ H μ _ re rh (PostS.stm re p fun S h1 H1 μ1 J e1 rh1 sr p1 => ?_)
  refine ⟨fun i m σ H => ∃ σ' h μ, Ext μ1 H1 μ H ∧ RE X.K H μ σ' σ ∧ Rh X.K H μ h ∧ PostS X.K W H μ (foGo S t f m i σ' h) D, ⟨S.top, σ', h1, μ1, Ext.refl, re.ext e1, rh1, p1⟩, ?_⟩
  rintro i m σ2 H2 ⟨σ2', h2, μ2, e2, re2, rh2, p2⟩
  cases m with
  | zero => exact p2.elim
  | succ m =>
    unfold foGo at p2
    obtain ⟨sr1, sr2⟩ := sr H2 μ2 h2 e2 rh2 i
    cases hat : S.at_ i h2 with
    | none => simp only [hat] at p2; exact p2.elim
    | some o =>
      cases o with
      | none =>
        simp only [hat] at p2
        exact .inl ⟨sr1 hat, p2.nx rh2 re2⟩
      | some u =>
        simp only [hat] at p2
        obtain ⟨go, yl⟩ := sr2 u hat
        refine .inr ⟨go, fun σ H => ∃ σ' h μ, Ext μ1 H1 μ H ∧ RE X.K H μ σ' σ ∧ Rh X.K H μ h ∧ PostS X.K W H μ (foGo S t f m (i + 1) σ' h) D, fun σ' H' z => ⟨m, Nat.lt_succ_self m, z⟩, fun x Hy y => ?_⟩
        obtain ⟨ey, rhy, ruy⟩ := yl x Hy y
        cases ea : asg t u σ2' with
        | none => simp only [ea] at p2; exact p2.elim
        | some σ1' =>
          simp only [ea] at p2
          refine ⟨u, σ2', σ1', μ2, re2.ext ey, ruy, ea, fun σ1 re1 _ => ⟨σ1', h2, μ2, re1, rhy, ?_⟩⟩
          cases hf : f σ1' h2 with
          | nx s h3 => simp only [hf] at p2; exact fun σ3 H3 μ3 e3 rh3 re3 => ⟨s, h3, μ3, (e2.trans ey).trans e3, re3, rh3, (p2.at ey).at e3⟩
          | ct s h3 => simp only [hf] at p2; exact fun σ3 H3 μ3 e3 rh3 re3 => ⟨s, h3, μ3, (e2.trans ey).trans e3, re3, rh3, (p2.at ey).at e3⟩
          | bk s h3 => simp only [hf] at p2; exact PostS.at (r := .nx s h3) p2 ey
          | ret s h3 => simp only [hf] at p2; exact PostS.at (r := .ret s h3) p2 ey
          | er c s h3 => simp only [hf] at p2; exact PostS.at (r := .er c s h3) p2 ey
          | bad => simp only [hf] at p2; exact p2
/-! ### raise, try -/
def sRaise (x : Str) : En → List O → Fl := fun σ h => .er x σ h
theorem dens_raise {x m : Str} {j : Nat} {p p2 pos pos' : Pos} {bmB : List Value} {B newId initId : String} (hc : X.calm = true) (tk : Takes X W) (F : ExcBaseFacts B newId initId bmB) (q : PySem.W.excIn X.K (He.ga X.K x) bmB newId = true) (gC : X.mg x = some (.ref (He.ga X.K x)))
    (kC : PySem.W.keepIn X.K (.ref (He.ga X.K x)) = true) (r : Raises X (.ref (He.ga X.K x))) (hg : Gl X x) (hdb : (x == ("__debug__" : Str)) = false) :
    DenS X W (.Raise (some (.Call (.Name x p) [.Constant (.str m) j p2] [] pos)) none pos') (sRaise x) :=
  dens_of (ps_raise hc tk (pmk_own F q gC kC r hg hdb)) fun σ' h σ H μ D re rh p => p σ H μ Ext.refl rh re
def hdl (exm : Str → Str → Bool) : List (Str × (En → List O → Fl)) → Str → En → List O → Fl
  | [], c, σ, h => .er c σ h
  | (x, f) :: r, c, σ, h => if exm c x = true then (match f σ h with
    | .er _ _ _ => .bad
    | z => z) else hdl exm r c σ h
def sTry (exm : Str → Str → Bool) (cls : List Str) (f : En → List O → Fl) (hs : List (Str × (En → List O → Fl))) : En → List O → Fl := fun σ h => match f σ h with
  | .er c σ h => if c ∈ cls then hdl exm hs c σ h else .bad
  | r => r
/-- the clauses -/
inductive Hds (X : Cx) (exm : Str → Str → Bool) (cls : List Str) : List ExceptHandler → List (Str × (En → List O → Fl)) → Prop
  | nil : Hds X exm cls [] []
  | cons {x : Str} {v : Value} {f : En → List O → Fl} {b : Stmt} {suite : List Stmt} {np pos : Pos} {hds : List ExceptHandler} {l : List (Str × (En → List O → Fl))} (hc : Names X x v) (hx : ∀ c ∈ cls, PySem.W.exmOne X.K (.ref (He.ga X.K c)) v = some (exm c x))
      (hsu : ∀ (a : Addr) (oe : Obj) (pn : List (Addr × Obj)), DenB (X.suite a ((a, oe) :: pn)) W0 (b :: suite) f) (r : Hds X exm cls hds l) : Hds X exm cls (.ExceptHandler (some (.Name x np)) none (b :: suite) pos :: hds) ((x, f) :: l)
theorem suite_of {K : PySem.W.Frag} {H : Hp} {μ : List Addr} {f : En → List O → Fl} {σ' : En} {h : List O} {D : Ends} (p : PostS K W H μ (match f σ' h with | .er _ _ _ => .bad | z => z) D) : PostS K W0 H μ (f σ' h) D := by
  cases hf : f σ' h with
  | nx s h3 => simp only [hf] at p; exact p
  | ct s h3 => simp only [hf] at p; exact p
  | bk s h3 => simp only [hf] at p; exact p
  | ret s h3 => simp only [hf] at p; exact p
  | er c s h3 => simp only [hf] at p; exact p.elim
  | bad => simp only [hf] at p; exact p
theorem dens_try {body : List Stmt} {h₀ : ExceptHandler} {hds : List ExceptHandler} {pos : Pos} {exm : Str → Str → Bool} {cls : List Str} {f : En → List O → Fl} {l : List (Str × (En → List O → Fl))} (hs : X.stack = X.env :: X.outer) (hf : X.env.frame = some X.env.locals) (tk : Takes X W)
    (hb : ∀ (W' : WX) (pn : List (Addr × Obj)) (xe : Value → Shared → Prop), Takes (X.tr pn xe) W' → PassesOwn (model X.prog X.w) X.A X.env xe → DenB (X.tr pn xe) W' body f) (hh : Hds X exm cls (h₀ :: hds) l) :
    DenS X W (.Try body (h₀ :: hds) [] [] pos) (sTry exm cls f l) := by
  have conv : ∀ {hs l}, Hds X exm cls hs l → ∃ l', HdsOk X hs l' ∧ ∀ c ∈ cls, ∀ (σ' : En) (h : List O) (σ : L2.St) (H : Hp) (μ : List Addr) (D : Ends), RE X.K H μ σ' σ → Rh X.K H μ h → PostS X.K W H μ (hdl exm l c σ' h) D → wMany X.K W D l' (.ref (He.ga X.K c)) none σ H := by
    intro hs l hh
    induction hh with
    | nil => exact ⟨[], .nil, fun c _ σ' h σ H μ D re rh p => p σ H μ Ext.refl rh re⟩
    | @cons x v f b suite np pos hds l hc hx hsu r ih =>
      obtain ⟨l', ok, k⟩ := ih
      refine ⟨(v, fun _ _ _ => tS X.K W0 f) :: l', .cons hc (fun a oe cls d pn _ _ => hsu a oe pn) ok, fun c hm σ' h σ H μ D re rh p => ⟨exm c x, hx c hm, fun e a _ => ?_, fun e => ?_⟩⟩
      · unfold hdl at p
        rw [if_pos e] at p
        exact ⟨σ', h, μ, re, rh, suite_of p⟩
      · unfold hdl at p
        rw [if_neg (by rw [e]; exact Bool.false_ne_true)] at p
        exact k c hm σ' h σ H μ D re rh p
  obtain ⟨l', ok, k⟩ := conv hh
  refine dens_of (ps_try_many hs hf tk (tb := fun W => tS X.K W f) hb ok) fun σ' h σ H μ D re rh p => ⟨σ', h, μ, re, rh, ?_⟩
  unfold sTry at p
  cases hq : f σ' h with
  | nx s h3 => simp only [hq] at p; exact p
  | ct s h3 => simp only [hq] at p; exact p
  | bk s h3 => simp only [hq] at p; exact p
  | ret s h3 => simp only [hq] at p; exact p
  | er c s h3 =>
    simp only [hq] at p
    by_cases hm : c ∈ cls
    · rw [if_pos hm] at p
      exact fun σ3 H3 μ3 e3 rh3 re3 => k c hm s h3 σ3 H3 μ3 D re3 rh3 (p.at e3)
    · rw [if_neg hm] at p; exact p.elim
  | bad => simp only [hq] at p; exact p
end
end Py

/-! calls; the compact tree and what it says -/
namespace Py
open PySem PySem.Spec PyProof.Rows L2
/-! ### calls of the program's own defs -/
def permL {α : Type} (perm : List Nat) (l : List α) : List α := perm.filterMap fun i => l[i]?
theorem permL_vals {perm : List Nat} {vs : List V} {us : List Value} (r : Vals vs us) : Vals (permL perm vs) (permL perm us) := by
  unfold permL
  induction perm with
  | nil => exact .nil
  | cons i p ih =>
    rw [List.filterMap_cons, List.filterMap_cons]
    have hl := r.length
    by_cases h : i < vs.length
    · obtain ⟨u, hu, ru⟩ := r.get (List.getElem?_eq_getElem h)
      rw [List.getElem?_eq_getElem h, hu]
      exact .cons ru ih
    · rw [List.getElem?_eq_none (by omega), List.getElem?_eq_none (by omega)]
      exact ih
theorem permL_rel {K : PySem.W.Frag} {H : Hp} {μ : List Addr} {perm : List Nat} {us : List U} {vs : List V} (r : RUs K H μ us vs) : RUs K H μ (permL perm us) (permL perm vs) := by
  unfold permL
  induction perm with
  | nil => exact .nil
  | cons i p ih =>
    rw [List.filterMap_cons, List.filterMap_cons]
    have hl := r.length
    by_cases h : i < us.length
    · obtain ⟨v, hv, rv⟩ := r.get (List.getElem?_eq_getElem h)
      rw [List.getElem?_eq_getElem h, hv]
      exact .cons rv ih
    · rw [List.getElem?_eq_none (by omega), List.getElem?_eq_none (by omega)]
      exact ih
theorem RUs.mapU {K : PySem.W.Frag} {H H' : Hp} {μ μ' : List Addr} {us : List U} {vs : List V} (r : RUs K H μ us vs) (k : ∀ u x, RU K H μ u x → RU K H' μ' u x) : RUs K H' μ' us vs := by
  induction r with
  | nil => exact .nil
  | cons h _ ih => exact .cons (k _ _ h) ih
theorem RUs.app {K : PySem.W.Frag} {H : Hp} {μ : List Addr} {us ws : List U} {vs zs : List V} (r : RUs K H μ us vs) (q : RUs K H μ ws zs) : RUs K H μ (us ++ ws) (vs ++ zs) := r.append q
theorem valsApp {vs zs : List V} {us ws : List Value} (r : Vals vs us) (q : Vals zs ws) : Vals (vs ++ zs) (us ++ ws) := r.append q
/-- what a def promises -/
def spF (K : PySem.W.Frag) (n : Nat) (r : List U → List O → R U) : Sp := fun vs H Q E => vs.length = n ∧ ∃ us h μ, Rh K H μ h ∧ RUs K H μ us vs ∧ Post K (fun c d _ H => E c d H) [] H μ (RU K) (r us h) Q
/-- how a call binds: n values by place, ks by name -/
def BindOk (K : PySem.W.Frag) (fd : FuncData) (ps : List Str) (n : Nat) (ks : List Str) (perm : List Nat) : Prop :=
  ∀ (s : Shared) (us ws : List Value), us.length = n → ws.length = ks.length → BindsTo s fd ⟨us, ks.zip ws⟩ (ps.zip (permL perm (us ++ ws)))
def DenK (X : Cx) (W : WX) (kws : List Keyword) (f : En → List O → R (List U)) : Prop :=
  ∃ t, PK X kws t ∧ ∀ σ' h σ H μ Q, RE X.K H μ σ' σ → Rh X.K H μ h → Post X.K W σ H μ (RUs X.K) (f σ' h) Q → t σ H Q
def kwNames : List Keyword → Option (List Str)
  | [] => some []
  | ⟨some n, _, _⟩ :: r => (kwNames r).map (n :: ·)
  | ⟨none, _, _⟩ :: _ => none
theorem kwNames_ok {env : Env} {pos : Pos} : ∀ {kws : List Keyword} {ks : List Str}, kwNames kws = some ks →
    (backToKw pos (keywordEach kws env)).all (·.1.isSome) = true ∧ (backToKw pos (keywordEach kws env)).filterMap (·.1) = ks ∧ (backToKw pos (keywordEach kws env)).any (·.1.isNone) = false
  | [], ks, h => by cases h; exact ⟨rfl, rfl, rfl⟩
  | ⟨some n, e, p⟩ :: r, ks, h => by
    have h' : (kwNames r).map (n :: ·) = some ks := h
    cases q : kwNames r with
    | none => rw [q] at h'; cases h'
    | some qs =>
      rw [q] at h'
      cases h'
      obtain ⟨h1, h2, h3⟩ := kwNames_ok (env := env) (pos := pos) q
      unfold backToKw at h1 h2 h3 ⊢
      refine ⟨?_, ?_, ?_⟩
      · simp only [keywordEach, List.map_cons, List.all_cons, h1]; rfl
      · simp only [keywordEach, List.map_cons, List.filterMap_cons, h2]
      · simp only [keywordEach, List.map_cons, List.any_cons, h3]; rfl
  | ⟨none, e, p⟩ :: r, ks, h => by cases h
section
variable {X : Cx} {W : WX}
theorem denk_nil : DenK X W [] evNil := ⟨_, pk_nil, fun σ' h σ H μ Q re rh p => p.ret rh .nil⟩
theorem denk_cons {n : Option Str} {e : Expr} {kp : Pos} {kws : List Keyword} {f : En → List O → R U} {g : En → List O → R (List U)} (hf : Den X W e f) (hg : DenK X W kws g) : DenK X W (⟨n, e, kp⟩ :: kws) (evCons f g) := by
  obtain ⟨ta, pa, ca⟩ := hf
  obtain ⟨tb, pb, cb⟩ := hg
  refine ⟨_, pk_cons pa pb, fun σ' h σ H μ Q re rh p => ?_⟩
  refine ca σ' h σ H μ _ re rh (Post.bind p fun u h1 H1 μ1 x e1 rh1 ru p1 => ?_)
  refine cb σ' h1 σ H1 μ1 _ (re.ext e1) rh1 (Post.bind p1 fun us h2 H2 μ2 xs e2 rh2 rus p2 => ?_)
  exact p2.ret rh2 (.cons (ru.ext e2) rus)
def tCallB (n m : Nat) (perm : List Nat) (sp : Sp) (E : L2.St → XK) (t tk : TA) : TE := fun σ H Q => t σ H fun vs H1 => tk σ H1 fun zs H2 => vs.length = n ∧ zs.length = m ∧ sp (permL perm (vs ++ zs)) H2 Q (E σ)
theorem run_fnB {CX : CXT} {k n : Nat} {f : Addr} {fd : FuncData} {ps ks : List Str} {sp : Sp} {E : L2.St → XK} {perm : List Nat} {pins : List (Addr × Obj)} {σ : L2.St} {H : Hp} {s : Shared} {Q : VK} {us ws : List Value} {vs zs : List V}
    (F : FnOk X.prog X.w X.K X.mg X.base CX k f fd ps sp) (hr : Room k X.A) (hb : BindOk X.K fd ps n ks perm) (hx : PassesAt CX X σ (E σ)) (I : Inv X pins σ H s) (r : Vals vs us) (rz : Vals zs ws) (l1 : vs.length = n) (l2 : zs.length = ks.length) (h : sp (permL perm (vs ++ zs)) H Q (E σ)) :
    wpAny (model X.prog X.w) X.A (call (.ref f) us (ks.zip ws)) (EP X pins σ Q) X.xe s := by
  refine wpAny_call (codeAny_mono (F.run X.A X.stack s H ⟨us, ks.zip ws⟩ (permL perm (us ++ ws)) (permL perm (vs ++ zs)) Q (E σ) hr I.env0 (hb s us ws (r.length.symm.trans l1) (rz.length.symm.trans l2)) (permL_vals (r.append rz)) h) fun r s' hq => ?_)
  cases r with
  | error e => exact hx pins H s e s' I hq
  | ok fl =>
    cases fl with
    | ret u => exact I.after hq
    | next => exact False.elim hq
    | brk => exact False.elim hq
    | cont => exact False.elim hq
theorem pe_callB0 {CX : CXT} {k : Nat} {f : Addr} {fd : FuncData} {ps ks : List Str} {sp : Sp} {E : L2.St → XK} {perm : List Nat} {x : Str} {p pos : Pos} {kws : List Keyword} {tk : TA}
    (F : FnOk X.prog X.w X.K X.mg X.base CX k f fd ps sp) (hr : Room k X.A) (hg : Gl X x) (hm : X.mg x = some (.ref f)) (hk : PySem.W.keepIn X.K (.ref f) = true) (hb : BindOk X.K fd ps 0 ks perm) (hx : ∀ σ, PassesAt CX X σ (E σ))
    (hkw : PK X kws tk) (hks : kwNames kws = some ks) (hdb : (x == ("__debug__" : Str)) = false) :
    PE X (.Call (.Name x p) [] kws pos) (tCallB 0 ks.length perm sp E tNil tk) := by
  obtain ⟨k1, k2, k3⟩ := kwNames_ok (env := X.env) (pos := pos) hks
  refine ⟨fun pins s σ H Q I h => ?_⟩
  refine wpAny_Call_Name_kw (ld_glob I hg hm ?_ hdb)
  refine PySem.W.callWith_KW0 (h₀ := X.base) I.ok.mod.kin hk k1 ?_ (by rw [k3]; rfl)
  refine thn (hkw.run pos pins s σ H _ I h) fun ws s2 ⟨zs, H2, I2, rz, l1, l2, q2⟩ => ⟨I2.kIn, ?_⟩
  rw [k2]
  exact run_fnB F hr hb (hx σ) I2 .nil rz l1 l2 q2
theorem pe_callB1 {CX : CXT} {k : Nat} {f : Addr} {fd : FuncData} {ps ks : List Str} {sp : Sp} {E : L2.St → XK} {perm : List Nat} {x : Str} {p pos : Pos} {e : Expr} {es : List Expr} {kws : List Keyword} {t tk : TA}
    (F : FnOk X.prog X.w X.K X.mg X.base CX k f fd ps sp) (hr : Room k X.A) (hg : Gl X x) (hm : X.mg x = some (.ref f)) (hk : PySem.W.keepIn X.K (.ref f) = true) (hb : BindOk X.K fd ps (e :: es).length ks perm) (hx : ∀ σ, PassesAt CX X σ (E σ))
    (ha : PA X (e :: es) t) (hkw : PK X kws tk) (hks : kwNames kws = some ks) (hns : noStar (e :: es) = true) (hdb : (x == ("__debug__" : Str)) = false) :
    PE X (.Call (.Name x p) (e :: es) kws pos) (tCallB (e :: es).length ks.length perm sp E t tk) := by
  obtain ⟨k1, k2, k3⟩ := kwNames_ok (env := X.env) (pos := pos) hks
  refine ⟨fun pins s σ H Q I h => ?_⟩
  refine wpAny_Call_Name_kw (ld_glob I hg hm ?_ hdb)
  refine PySem.W.callWith_KW (h₀ := X.base) I.ok.mod.kin hk k1 (thn (ha.run pos pins s σ H _ I h) fun us s1 ⟨vs, H1, I1, r, q⟩ => ?_) (by rw [k3, noStar_any hns]; rfl) (star1 (noStar_cons hns).1)
  refine thn (hkw.run pos pins s1 σ H1 _ I1 q) fun ws s2 ⟨zs, H2, I2, rz, l1, l2, q2⟩ => ⟨I2.kIn, ?_⟩
  rw [k2]
  exact run_fnB F hr hb (hx σ) I2 r rz l1 l2 q2
def evCl (n m : Nat) (perm : List Nat) (fa fk : En → List O → R (List U)) (C : List U → List O → R U) : En → List O → R U := fun σ h => (fa σ h).bind fun us h => (fk σ h).bind fun ws h => if us.length = n ∧ ws.length = m then C (permL perm (us ++ ws)) h else .bad
theorem call_post {K : PySem.W.Frag} {σ : L2.St} {H : Hp} {μ : List Addr} {r : R U} {Q : VK} {W : WX} (p : Post K W σ H μ (RU K) r Q) : Post K (fun c d _ H => WE W σ c d H) [] H μ (RU K) r Q := by
  cases r with
  | ok a h => exact p
  | err c h => exact p
  | bad => exact p
theorem den_call {k : Nat} {f : Addr} {fd : FuncData} {ps ks : List Str} {perm : List Nat} {x : Str} {p pos : Pos} {es : List Expr} {kws : List Keyword} {fa fk : En → List O → R (List U)} {C : List U → List O → R U}
    (F : FnOk X.prog X.w X.K X.mg X.base (L2.CX X.prog X.w) k f fd ps (spF X.K ps.length C)) (hr : Room k X.A) (hg : Gl X x) (hm : X.mg x = some (.ref f)) (hk : PySem.W.keepIn X.K (.ref f) = true) (hb : BindOk X.K fd ps es.length ks perm) (tk : Takes X W)
    (hp : perm.length = ps.length) (hpm : ∀ i ∈ perm, i < es.length + ks.length) (ha : DenA X W es fa) (hkw : DenK X W kws fk) (hks : kwNames kws = some ks) (hns : noStar es = true) (hdb : (x == ("__debug__" : Str)) = false) (hnil : es = [] → fa = evNil) :
    Den X W (.Call (.Name x p) es kws pos) (evCl es.length ks.length perm fa fk C) := by
  have plen : ∀ (l : List V), l.length = es.length + ks.length → (permL perm l).length = ps.length := by
    intro l hl
    rw [← hp]
    unfold permL
    clear hp hb
    induction perm with
    | nil => rfl
    | cons i q ih =>
      have h1 : i < l.length := by rw [hl]; exact hpm i List.mem_cons_self
      rw [List.filterMap_cons, List.getElem?_eq_getElem h1, List.length_cons, List.length_cons, ih fun j hj => hpm j (List.mem_cons_of_mem _ hj)]
  obtain ⟨tq, pk, ck⟩ := hkw
  cases es with
  | nil =>
    cases hnil rfl
    refine ⟨_, pe_callB0 F hr hg hm hk hb (fun σ => passAt tk σ) pk hks hdb, fun σ' h σ H μ Q re rh p => ?_⟩
    refine ck σ' h σ H μ _ re rh (Post.bind (Rel := RUs X.K) (show Post X.K W σ H μ (RU X.K) ((fk σ' h).bind fun ws h => if ([] : List U).length = 0 ∧ ws.length = ks.length then C (permL perm ([] ++ ws)) h else .bad) Q from p) fun ws h2 H2 μ2 zs e2 rh2 rz p2 => ?_)
    by_cases hl : ([] : List U).length = 0 ∧ ws.length = ks.length
    · rw [if_pos hl] at p2
      have l2 : zs.length = ks.length := rz.length.symm.trans hl.2
      exact ⟨rfl, l2, plen _ (by simpa using l2), _, h2, μ2, rh2, permL_rel (RUs.app .nil rz), call_post p2⟩
    · rw [if_neg hl] at p2; exact p2.elim
  | cons e es =>
    obtain ⟨ta, pa, ca⟩ := ha
    refine ⟨_, pe_callB1 F hr hg hm hk hb (fun σ => passAt tk σ) pa pk hks hns hdb, fun σ' h σ H μ Q re rh p => ?_⟩
    refine ca σ' h σ H μ _ re rh (Post.bind p fun us h1 H1 μ1 xs e1 rh1 ru p1 => ?_)
    refine ck σ' h1 σ H1 μ1 _ (re.ext e1) rh1 (Post.bind p1 fun ws h2 H2 μ2 zs e2 rh2 rz p2 => ?_)
    by_cases hl : us.length = (e :: es).length ∧ ws.length = ks.length
    · rw [if_pos hl] at p2
      have l1 : xs.length = (e :: es).length := ru.length.symm.trans hl.1
      have l2 : zs.length = ks.length := rz.length.symm.trans hl.2
      exact ⟨l1, l2, plen _ (by rw [List.length_append, l1, l2]), _, h2, μ2, rh2, permL_rel ((ru.mapU (fun u x r => r.ext e2)).app rz), call_post p2⟩
    · rw [if_neg hl] at p2; exact p2.elim
end
end Py

/-! the compact tree of an expression, what it says, when it fits the text -/
namespace Py
open PySem PySem.Spec PyProof.Rows L2
inductive Bop where
  | add | sub | mul | fdiv | mod | pow | shl | shr | band | bor
inductive Cop where
  | lt | le | gt | ge | eq | ne | is_ | isn | in_ | nin
inductive Bi where
  | len | all | any | sum | max | min | abs | int | tuple | list | sorted | isi
inductive Mn where
  | append | pop | extend
mutual
inductive Ex where
  | var (i : Nat) | int (i : Int) | bl (b : Bool) | str (s : Str) | non
  | gint (x : Str) (i : Int) | gtup (x : Str) | gl (x : Str) | ty (x : Str) (n : String)
  | bin (o : Bop) (m : Bool) (a b : Ex) | neg (a : Ex) | cmp (o : Cop) (a b : Ex) | chn (o p : Cop) (a b c : Ex)
  | and (a b : Ex) | or (a b : Ex) | one (a : Ex) | not (a : Ex) | ife (c a b : Ex) | tup (l : Es) | lst (m : Bool) (l : Es)
  | ix (a b : Ex) | sl (m : Bool) (a : Ex) (lo hi : Ox)
  | bi (f : Bi) (m : Bool) (l : Es) | mxd (a d : Ex) | bits (a : Ex) | me (n : Mn) (o : Ex) (l : Es)
  | call (f : Str) (perm : List Nat) (a k : Es)
  | lc (m : Bool) (t : Tg) (w : Wk) (c : Ox) (e : Ex)
inductive Es where
  | nil | cons (e : Ex) (l : Es)
inductive Ox where
  | no | yes (e : Ex)
inductive Wk where
  | seq (e : Ex) | rng (l : Es) | enu (l : Es) | zip (l : Es)
end
def okT : Ex → Bool
  | .and a b => okT a && okT b
  | .or a b => okT a && okT b
  | .one a => okT a
  | .not a => okT a
  | .cmp _ _ _ => true
  | .chn _ _ _ _ _ => true
  | .var _ => true
  | .bl _ => true
  | .bi _ _ _ => true
  | .call _ _ _ _ => true
  | .ix _ _ => true
  | .bin _ _ _ _ => true
  | .lc _ _ _ _ _ => true
  | .sl _ _ _ _ => true
  | _ => false
def Es.len : Es → Nat
  | .nil => 0
  | .cons _ l => l.len + 1
/-- what the top of the text holds -/
structure Gt where
  gi : List (Str × Int)
  gt : List (Str × List D)
  gf : List Str
  gg : List Str
  gx : List Str
  gd : List (Str × List Str)
  gs : List (Str × Nat × List Str × List Nat)
  gm : List (Str × Str)
def Gt.tup (G : Gt) (x : Str) : Option (List D) := (G.gt.find? fun p => p.1 = x).map (·.2)
def binU (o : Bop) (m : Bool) : U → U → List O → R U := match o with
  | .add => addU m
  | .sub => intOp gSubI
  | .mul => mulU m
  | .fdiv => intOp gFdiv
  | .mod => intOp gFmod
  | .pow => intOp gPow
  | .shl => intOp gShl
  | .shr => intOp gShr
  | .band => intOp gAnd
  | .bor => intOp gOr
def cmpU (o : Cop) : U → U → List O → R U := match o with
  | .lt => cmpI fun i j => decide (i < j)
  | .le => cmpI fun i j => decide (i ≤ j)
  | .gt => cmpI fun i j => decide (j < i)
  | .ge => cmpI fun i j => decide (j ≤ i)
  | .eq => eqU false
  | .ne => eqU true
  | .is_ => isU false
  | .isn => isU true
  | .in_ => inU false
  | .nin => inU true
def biU (f : Bi) (m : Bool) : List U → List O → R U := match f with
  | .len => g1 lenU
  | .all => g1 allU
  | .any => g1 anyU
  | .sum => g1 sumU
  | .max => maxG
  | .min => minG
  | .abs => g1 absU
  | .int => g1 intU
  | .tuple => g1 tupleU
  | .list => g1 (listU m)
  | .sorted => g1 (sortedU m)
  | .isi => g2 isiU
def meU (n : Mn) : U → List U → List O → R U := match n with
  | .append => appG
  | .pop => popG
  | .extend => extG
section
variable (G : Gt) (C : Str → List U → List O → R U)
mutual
def ev : Ex → En → List O → R U
  | .var i => evV i
  | .int i => evC (.d (.int i))
  | .bl b => evC (.d (.bool b))
  | .str s => evC (.d (.str s))
  | .non => evC (.d .none)
  | .gint _ i => evC (.d (.int i))
  | .gtup x => fun _ h => (opt (G.tup x) h).bind fun ds h => .ok (.d (.tuple ds)) h
  | .gl x => evC (.gl x)
  | .ty _ n => evC (.ty n)
  | .bin o m a b => ev2 (ev a) (ev b) (binU o m)
  | .neg a => ev1 (ev a) negU
  | .cmp o a b => ev2 (ev a) (ev b) (cmpU o)
  | .chn o p a b c => evCh (ev a) (ev b) (ev c) (cmpU o) (cmpU p)
  | .and a b => vAnd (ev a) (ev b)
  | .or a b => vOr (ev a) (ev b)
  | .one a => ev a
  | .not a => vNot (ev a)
  | .ife c a b => evIf (tv c) (ev a) (ev b)
  | .tup l => evTup (evs l)
  | .lst m l => evLst m (evs l)
  | .ix a b => ev2 (ev a) (ev b) getU
  | .sl m a lo hi => evSl m (ev a) (evo lo) (evo hi)
  | .bi f m l => evCall (evs l) (biU f m)
  | .mxd a d => ev2 (ev a) (ev d) maxDU
  | .bits a => ev1 (ev a) fun u h => (opt (asI u) h).bind fun i h => .ok (.d (.int (Builtin.Int.intBits i : Nat))) h
  | .me n o l => evMe isLst (ev o) (evs l) (meU n)
  | .call f perm a k => evCl a.len k.len perm (evs a) (evs k) (C f)
  | .lc m t w c e => evLc m t t.slots (evw w) (evc c) (ev e)
def tv : Ex → En → List O → R Bool
  | .and a b => tAndE (tv a) (tv b)
  | .or a b => tOrE (tv a) (tv b)
  | .one a => tv a
  | .not a => tNotE (tv a)
  | .cmp o a b => evB (ev2 (ev a) (ev b) (cmpU o))
  | .chn o p a b c => evB (evCh (ev a) (ev b) (ev c) (cmpU o) (cmpU p))
  | .var i => evT (evV i)
  | .bl b => evT (evC (.d (.bool b)))
  | .bi f m l => evT (evCall (evs l) (biU f m))
  | .call f perm a k => evT (evCl a.len k.len perm (evs a) (evs k) (C f))
  | .ix a b => evT (ev2 (ev a) (ev b) getU)
  | .bin o m a b => evT (ev2 (ev a) (ev b) (binU o m))
  | .lc m t w c e => evT (evLc m t t.slots (evw w) (evc c) (ev e))
  | .sl m a lo hi => evT (evSl m (ev a) (evo lo) (evo hi))
  | _ => fun _ _ => .bad
def evs : Es → En → List O → R (List U)
  | .nil => evNil
  | .cons e l => evCons (ev e) (evs l)
def evo : Ox → En → List O → R (Option Int)
  | .no => evNo
  | .yes e => evPart (ev e)
def evc : Ox → En → List O → R Bool
  | .no => fun _ h => .ok true h
  | .yes e => tv e
def evw : Wk → En → List O → R Src
  | .seq e => fun σ h => (ev e σ h).bind srcU
  | .rng l => fun σ h => (evs l σ h).bind fun us h => if us.length = l.len then rngS us h else .bad
  | .enu l => fun σ h => (evs l σ h).bind enuS
  | .zip l => fun σ h => (evs l σ h).bind zipS
end
end

/-! ### when a tree fits the text -/
/-- the names of a block -/
structure Lm where
  N : List Str
  sc : Scope
  fc : Str → Bool
def visB (sc : Scope) (x : Str) : Bool := match sc.names.lookup x with
  | some .local => true
  | some .cell => true
  | some .free => true
  | _ => false
def glB (sc : Scope) (x : Str) : Bool := match sc.names.lookup x with
  | some .globalImplicit => true
  | _ => false
def locB (L : Lm) (x : Str) : Bool := match L.sc.names.lookup x with
  | some .local => true
  | some .cell => L.fc x
  | _ => false
def plN (x : Str) : Bool := !(x == ("__debug__" : Str)) && !(x == ("__classdict__" : Str))
def opB (o : Bop) (op : Operator) : Bool := match o with
  | .add => op == .Add
  | .sub => op == .Sub
  | .mul => op == .Mult
  | .fdiv => op == .FloorDiv
  | .mod => op == .Mod
  | .pow => op == .Pow
  | .shl => op == .LShift
  | .shr => op == .RShift
  | .band => op == .BitAnd
  | .bor => op == .BitOr
def cmB (o : Cop) (op : CmpOp) : Bool := match o with
  | .lt => op == .Lt
  | .le => op == .LtE
  | .gt => op == .Gt
  | .ge => op == .GtE
  | .eq => op == .Eq
  | .ne => op == .NotEq
  | .is_ => op == .Is
  | .isn => op == .IsNot
  | .in_ => op == .In
  | .nin => op == .NotIn
def biN (f : Bi) : Str := match f with
  | .len => "len"
  | .all => "all"
  | .any => "any"
  | .sum => "sum"
  | .max => "max"
  | .min => "min"
  | .abs => "abs"
  | .int => "int"
  | .tuple => "tuple"
  | .list => "list"
  | .sorted => "sorted"
  | .isi => "isinstance"
def mnN (n : Mn) : Str := match n with
  | .append => "append"
  | .pop => "pop"
  | .extend => "extend"
def tyB (x : Str) (n : String) : Bool := match bootBuiltins x with
  | some (.type m) => m == n
  | _ => false
mutual
def chkG : Tg → Lm → Expr → Bool
  | .nm i, L, e => match e with
    | .Name x _ => decide (L.N[i]? = some x) && locB L x
    | _ => false
  | .tup ts, L, e => match e with
    | .Tuple es _ _ => decide (es.length = ts.len) && chkGs ts L es
    | _ => false
def chkGs : Tgs → Lm → List Expr → Bool
  | .nil, _, es => match es with
    | [] => true
    | _ => false
  | .cons t ts, L, es => match es with
    | e :: es => !isStar e && chkG t L e && chkGs ts L es
    | _ => false
end
def isTupE : Expr → Bool
  | .Tuple _ _ _ => true
  | _ => false
def inner (L : Lm) (scope : Scope) : Lm := ⟨L.N, relS scope L.sc, fun x => scope.names.lookup x == some .cell⟩
def owns (L : Lm) (vs : List Nat) : List (Str × Nat) := vs.map fun i => (L.N.getD i "", i)
section
variable (G : Gt)
mutual
def chk : Ex → Lm → Expr → Bool
  | .var i, L, e => match e with
    | .Name x _ => decide (L.N[i]? = some x) && visB L.sc x && plN x
    | _ => false
  | .int i, _, e => match e with
    | .Constant (.int j) _ _ => decide (i = j)
    | _ => false
  | .bl i, _, e => match e with
    | .Constant (.bool j) _ _ => i == j
    | _ => false
  | .str s, _, e => match e with
    | .Constant (.str j) _ _ => decide (s = j) && PyData.strOk s
    | _ => false
  | .non, _, e => match e with
    | .Constant .none _ _ => true
    | _ => false
  | .gint y i, L, e => match e with
    | .Name x _ => decide (x = y) && glB L.sc x && plN x && decide ((x, i) ∈ G.gi)
    | _ => false
  | .gtup y, L, e => match e with
    | .Name x _ => decide (x = y) && glB L.sc x && plN x
    | _ => false
  | .gl y, L, e => match e with
    | .Name x _ => decide (x = y) && glB L.sc x && plN x && decide (x ∈ G.gg)
    | _ => false
  | .ty y n, L, e => match e with
    | .Name x _ => decide (x = y) && glB L.sc x && plN x && decide (x ∈ G.gf) && tyB x n && decide (x ≠ "__name__")
    | _ => false
  | .bin o m a b, L, e => match e with
    | .BinOp x op y _ => opB o op && chk a L x && chk b L y
    | _ => false
  | .neg a, L, e => match e with
    | .UnaryOp .USub x _ => chk a L x
    | _ => false
  | .cmp o a b, L, e => match e with
    | .Compare x [op] [y] _ => cmB o op && chk a L x && chk b L y && !behindInMarks op y
    | _ => false
  | .chn o p a b c, L, e => match e with
    | .Compare x [op, oq] [y, z] _ => cmB o op && cmB p oq && chk a L x && chk b L y && chk c L z && !lastMarks [op, oq] [y, z]
    | _ => false
  | .and a b, L, e => match e with
    | .BoolOp .And (x :: y :: r) pos => chk a L x && chk b L (.BoolOp .And (y :: r) pos)
    | _ => false
  | .or a b, L, e => match e with
    | .BoolOp .Or (x :: y :: r) pos => chk a L x && chk b L (.BoolOp .Or (y :: r) pos)
    | _ => false
  | .one a, L, e => match e with
    | .BoolOp _ [x] _ => chk a L x
    | _ => false
  | .not a, L, e => match e with
    | .UnaryOp .Not x _ => chk a L x
    | _ => false
  | .ife c a b, L, e => match e with
    | .IfExp z x y _ => chk c L z && okT c && chk a L x && chk b L y
    | _ => false
  | .tup l, L, e => match e with
    | .Tuple es _ _ => chks l L es
    | _ => false
  | .lst m l, L, e => match e with
    | .List es _ => chks l L es
    | _ => false
  | .ix a b, L, e => match e with
    | .Subscript x y _ => chk a L x && chk b L y && !isSl y
    | _ => false
  | .sl m a lo hi, L, e => match e with
    | .Subscript x (.Slice l h none _) _ => chk a L x && chko lo L l && chko hi L h
    | _ => false
  | .bi f m l, L, e => match e with
    | .Call (.Name x _) (y :: ys) [] _ => decide (x = biN f) && glB L.sc x && decide (x ∈ G.gf) && chks l L (y :: ys)
    | _ => false
  | .mxd a d, L, e => match e with
    | .Call (.Name x _) [y] [⟨some z, w, _⟩] _ => decide (x = "max") && decide (z = "default") && glB L.sc x && decide (x ∈ G.gf) && chk a L y && chk d L w && !isStar y
    | _ => false
  | .bits a, L, e => match e with
    | .Call (.Attribute x y ap) [] [] p => decide (y = "bit_length") && !isCall x && (ap.endLine == p.line) && chk a L x
    | _ => false
  | .me n a l, L, e => match e with
    | .Call (.Attribute x y ap) es [] p => decide (y = mnN n) && !isCall x && (ap.endLine == p.line) && decide (es.length < 30) && chk a L x && chks l L es
    | _ => false
  | .call f perm a k, L, e => match e with
    | .Call (.Name x _) es kws _ => decide (x = f) && glB L.sc x && plN x && chks a L es && chkk k L kws && (match kwNames kws with
      | some ks => decide ((x, es.length, ks, perm) ∈ G.gs) && perm.all (fun i => decide (i < es.length + ks.length)) && G.gd.any (fun p => decide (p.1 = x) && decide (p.2.length = perm.length))
      | none => false)
    | _ => false
  | .lc m t w c e0, L, e => match e with
    | .ListComp elt [⟨tg, iter, ifs, 0⟩] scope _ => chkw w L tg iter && chkG t (inner L scope) tg && chkc c (inner L scope) ifs && chk e0 (inner L scope) elt && blkC L.N L.sc scope (owns L t.slots) && !isSetD iter
    | _ => false
def chks : Es → Lm → List Expr → Bool
  | .nil, _, es => match es with
    | [] => true
    | _ => false
  | .cons x l, L, es => match es with
    | e :: r => chk x L e && !isStar e && chks l L r
    | _ => false
def chkk : Es → Lm → List Keyword → Bool
  | .nil, _, es => match es with
    | [] => true
    | _ => false
  | .cons x l, L, es => match es with
    | ⟨_, e, _⟩ :: r => chk x L e && chkk l L r
    | _ => false
def chko : Ox → Lm → Option Expr → Bool
  | .no, _, e => match e with
    | none => true
    | _ => false
  | .yes x, L, e => match e with
    | some e => chk x L e
    | _ => false
def chkc : Ox → Lm → List Expr → Bool
  | .no, _, es => match es with
    | [] => true
    | _ => false
  | .yes x, L, es => match es with
    | [e] => chk x L e && okT x
    | _ => false
def chkw : Wk → Lm → Expr → Expr → Bool
  | .seq x, L, _, e => chk x L e
  | .rng l, L, _, e => match e with
    | .Call (.Name x _) es [] _ => decide (x = "range") && glB L.sc x && decide (x ∈ G.gf) && decide (0 < es.length) && decide (es.length ≤ 3) && chks l L es
    | _ => false
  | .enu l, L, tg, e => match e with
    | .Call (.Name x _) [y] [] _ => decide (x = "enumerate") && glB L.sc x && decide (x ∈ G.gf) && isTupE tg && chks l L [y]
    | _ => false
  | .zip l, L, tg, e => match e with
    | .Call (.Name x _) [y, z] [] _ => decide (x = "zip") && glB L.sc x && decide (x ∈ G.gf) && isTupE tg && chks l L [y, z]
    | _ => false
end
end
end Py

/-! a tree that fits says what the text does: expressions -/
namespace Py
open PySem PySem.Spec PyProof.Rows L2
structure GF (K : PySem.W.Frag) (mg : Str → Option Value) (G : Gt) : Prop where
  gi : ∀ p ∈ G.gi, ∃ t, mg p.1 = some (.int p.2 t)
  gt : ∀ p ∈ G.gt, mg p.1 = some (.ref (He.ga K p.1)) ∧ ∃ vs, KTup K (He.ga K p.1) vs ∧ ∀ H μ, RDs K H μ p.2 vs
  gf : ∀ x ∈ G.gf, mg x = none
  gg : ∀ x ∈ G.gg, mg x = some (.ref (He.ga K x))
structure FF (X : Cx) (G : Gt) (C : Str → List U → List O → R U) (k : Nat) : Prop where
  ok : ∀ p ∈ G.gd, X.mg p.1 = some (.ref (He.ga X.K p.1)) ∧ PySem.W.keepIn X.K (.ref (He.ga X.K p.1)) = true ∧ ∃ fd, FnOk X.prog X.w X.K X.mg X.base (L2.CX X.prog X.w) k (He.ga X.K p.1) fd p.2 (spF X.K p.2.length (C p.1)) ∧
    ∀ n ks perm, (p.1, n, ks, perm) ∈ G.gs → BindOk X.K fd p.2 n ks perm
structure Cxt (G : Gt) (C : Str → List U → List O → R U) (k : Nat) (X : Cx) (W : WX) (L : Lm) : Prop where
  N : X.N = L.N
  nd : L.N.Nodup
  sc : X.env.scope = L.sc
  calm : X.calm = true
  room : Room k X.A
  tk : Takes X W
  gf : GF X.K X.mg G
  ff : FF X G C k
  fc : ∀ x, L.fc x = true → X.fn x = true
section
variable {G : Gt} {C : Str → List U → List O → R U} {k : Nat}
theorem Cxt.gl {X : Cx} {W : WX} {L : Lm} (c : Cxt G C k X W L) {x : Str} (h : glB L.sc x = true) : Gl X x := by
  unfold glB at h
  split at h
  · rename_i q
    show X.env.scope.names.lookup x = _
    rw [c.sc]; exact q
  · cases h
theorem Cxt.vis {X : Cx} {W : WX} {L : Lm} (c : Cxt G C k X W L) {x : Str} (h : visB L.sc x = true) : Vis X.env.scope x := by
  unfold visB at h
  rw [c.sc]
  split at h
  · rename_i q; exact .inl q
  · rename_i q; exact .inr (.inl q)
  · rename_i q; exact .inr (.inr q)
  · cases h
theorem Cxt.loc {X : Cx} {W : WX} {L : Lm} (c : Cxt G C k X W L) {x : Str} (h : locB L x = true) : Loc X.env.scope x ∧ (X.fn x = true ∨ X.env.scope.names.lookup x = some .local) := by
  unfold locB at h
  rw [c.sc]
  split at h
  · rename_i q; exact ⟨.inl q, .inr q⟩
  · rename_i q; exact ⟨.inr q, .inl (c.fc x h)⟩
  · cases h
theorem plN_ok {x : Str} (h : plN x = true) : (x == ("__debug__" : Str)) = false ∧ (x == ("__classdict__" : Str)) = false := by
  unfold plN at h
  simpa [Bool.and_eq_true] using h
theorem Cxt.un {X : Cx} {W : WX} {L : Lm} (c : Cxt G C k X W L) : X.A.units + 64 < cLine := c.room.units
theorem Cxt.blk {X : Cx} {W : WX} {L : Lm} (c : Cxt G C k X W L) (s : Shared) (H : Hp) (scope : Scope) (Ca : Addr) (cl : List (Str × Addr)) (fp : List Addr) : Cxt G C k (X.blk s H scope (compEnvC scope cl Ca X.env) fp) W0 (inner L scope) where
  N := c.N
  nd := c.nd
  sc := by
    show relS scope X.env.scope = relS scope L.sc
    rw [c.sc]
  calm := c.calm
  room := c.room
  tk := takes_none5
  gf := c.gf
  ff := ⟨c.ff.ok⟩
  fc := fun x h => h
mutual
theorem chkG_ok : ∀ (t : Tg) {X : Cx} {W : WX} {L : Lm} {e : Expr}, Cxt G C k X W L → chkG t L e = true → DenG X e t
  | .nm i, X, W, L, e, c, h => by
    unfold chkG at h
    split at h
    · simp only [Bool.and_eq_true, decide_eq_true_eq] at h
      obtain ⟨h1, h2⟩ := h
      exact deng_nm (by rw [c.N]; exact c.nd) (by rw [c.N]; exact h1) (c.loc h2).1 (c.loc h2).2
    · cases h
  | .tup ts, X, W, L, e, c, h => by
    unfold chkG at h
    split at h
    · rename_i es kk pos
      simp only [Bool.and_eq_true, decide_eq_true_eq] at h
      obtain ⟨h1, h2⟩ := h
      obtain ⟨g1, g2⟩ := chkGs_ok ts c h2
      exact deng_tup c.calm g1 g2 h1
    · cases h
theorem chkGs_ok : ∀ (t : Tgs) {X : Cx} {W : WX} {L : Lm} {es : List Expr}, Cxt G C k X W L → chkGs t L es = true → DenGs X es t ∧ noStar es = true
  | .nil, X, W, L, e, c, h => by
    unfold chkGs at h
    split at h
    · exact ⟨dengs_nil, rfl⟩
    · cases h
  | .cons t ts, X, W, L, e, c, h => by
    unfold chkGs at h
    split at h
    · rename_i e es
      simp only [Bool.and_eq_true, Bool.not_eq_true'] at h
      obtain ⟨⟨h1, h2⟩, h3⟩ := h
      obtain ⟨g1, g2⟩ := chkGs_ok ts c h3
      exact ⟨dengs_cons (chkG_ok t c h2) g1 h1, by unfold noStar at g2 ⊢; rw [List.all_cons, g2, h1]; rfl⟩
    · cases h
end
theorem den_bin {X : Cx} {W : WX} {o : Bop} {m : Bool} {op : Operator} {a b : Expr} {pos : Pos} {fa fb : En → List O → R U} (h : opB o op = true) (ha : Den X W a fa) (hb : Den X W b fb) : Den X W (.BinOp a op b pos) (ev2 fa fb (binU o m)) := by
  cases o <;> (unfold opB at h; have h := beq_iff_eq.mp h; subst h)
  · exact den_op op_addA (opd_add m) ha hb
  · exact den_op op_subA opd_sub ha hb
  · exact den_op op_mulA (opd_mul m) ha hb
  · exact den_op op_fdivA opd_fdiv ha hb
  · exact den_op op_modN opd_fmod ha hb
  · exact den_op op_pow opd_pow ha hb
  · exact den_op op_shl opd_shl ha hb
  · exact den_op op_shr opd_shr ha hb
  · exact den_op op_andA opd_and ha hb
  · exact den_op op_orA opd_or ha hb
theorem cmp_op {X : Cx} {W : WX} (hu : X.A.units + 64 < cLine) {o : Cop} {op : CmpOp} (h : cmB o op = true) : ∃ r, OpR X (compareOp op) r ∧ OpD X W r (cmpU o) := by
  cases o <;> (unfold cmB at h; have h := beq_iff_eq.mp h; subst h)
  · exact ⟨_, op_lt, opd_cmpI⟩
  · exact ⟨_, op_le, opd_cmpI⟩
  · exact ⟨_, op_gt, opd_cmpI⟩
  · exact ⟨_, op_ge, opd_cmpI⟩
  · exact ⟨_, op_eqA hu, opd_eq false⟩
  · exact ⟨_, op_neA hu, opd_eq true⟩
  · exact ⟨_, op_isA, opd_is false⟩
  · exact ⟨_, op_isnotA, opd_is true⟩
  · exact ⟨_, op_inA hu, opd_in false⟩
  · exact ⟨_, op_notInA hu, opd_in true⟩
theorem den_bi {X : Cx} {W : WX} {L : Lm} (c : Cxt G C k X W L) {f : Bi} {m : Bool} {x : Str} {e : Expr} {es : List Expr} {p pos : Pos} {g : En → List O → R (List U)} (hx : x = biN f) (gl : Gl X x) (hm : X.mg x = none) (hf : DenA X W (e :: es) g) (hs : noStar (e :: es) = true) :
    Den X W (.Call (.Name x p) (e :: es) [] pos) (evCall g (biU f m)) := by
  subst hx
  cases f
  · exact den_callB cr_lenV cd_len gl hm (by rfl) hf hs (by decide) (by decide)
  · exact den_callB (cr_allV c.calm) cd_all gl hm (by rfl) hf hs (by decide) (by decide)
  · exact den_callB (cr_anyV c.calm) cd_any gl hm (by rfl) hf hs (by decide) (by decide)
  · exact den_callB (cr_sumV c.calm) cd_sum gl hm (by rfl) hf hs (by decide) (by decide)
  · exact den_callB (cr_maxG c.calm) cd_max gl hm (by rfl) hf hs (by decide) (by decide)
  · exact den_callB (cr_minG c.calm) cd_min gl hm (by rfl) hf hs (by decide) (by decide)
  · exact den_callB cr_absV cd_abs gl hm (by rfl) hf hs (by decide) (by decide)
  · exact den_callTy cr_intV cd_int gl hm (by rfl) hf hs (by decide) (by decide)
  · exact den_callTy cr_tupV cd_tup gl hm (by rfl) hf hs (by decide) (by decide)
  · exact den_callTy cr_lstV (cd_lst m) gl hm (by rfl) hf hs (by decide) (by decide)
  · exact den_callB cr_sortV (cd_sort m) gl hm (by rfl) hf hs (by decide) (by decide)
  · exact den_callB cr_isi cd_isi gl hm (by rfl) hf hs (by decide) (by decide)
theorem den_mn {X : Cx} {W : WX} {n : Mn} {y : Str} {o : Expr} {es : List Expr} {ap p : Pos} {fo : En → List O → R U} {fa : En → List O → R (List U)} (hy : y = mnN n) (ho : Den X W o fo) (ha : DenA X W es fa) (hnil : es = [] → fa = evNil)
    (hb : isCall o = false) (hns : noStar es = true) (hlen : es.length < 30) (hl : (ap.endLine == p.line) = true) : Den X W (.Call (.Attribute o y ap) es [] p) (evMe isLst fo fa (meU n)) := by
  subst hy
  cases es with
  | nil =>
    cases hnil rfl
    cases n
    · exact den_me0 PySem.F.plainAttrs_list PySem.F.slot_list_append PySem.F.type_list_append mt_append ty_list me_append ho hb hl
    · exact den_me0 PySem.F.plainAttrs_list PySem.F.slot_list_pop PySem.F.type_list_pop mt_popA ty_list me_pop ho hb hl
    · exact den_me0 PySem.F.plainAttrs_list PySem.F.slot_list_extend PySem.F.type_list_extend mt_extA ty_list me_ext ho hb hl
  | cons e es =>
    cases n
    · exact den_me PySem.F.plainAttrs_list PySem.F.slot_list_append PySem.F.type_list_append mt_append ty_list me_append ho ha hb hns hlen hl
    · exact den_me PySem.F.plainAttrs_list PySem.F.slot_list_pop PySem.F.type_list_pop mt_popA ty_list me_pop ho ha hb hns hlen hl
    · exact den_me PySem.F.plainAttrs_list PySem.F.slot_list_extend PySem.F.type_list_extend mt_extA ty_list me_ext ho ha hb hns hlen hl

theorem tyB_ok {x : Str} {n : String} (h : tyB x n = true) : bootBuiltins x = some (.type n) := by
  unfold tyB at h
  split at h
  · rename_i m q
    rw [q, beq_iff_eq.mp h]
  · cases h
theorem gtup_mem {x : Str} {ds : List D} (h : G.tup x = some ds) : (x, ds) ∈ G.gt := by
  unfold Gt.tup at h
  cases q : G.gt.find? fun p => p.1 = x with
  | none => rw [q] at h; cases h
  | some p =>
    rw [q] at h
    cases h
    have h1 := List.mem_of_find?_eq_some q
    have h2 : p.1 = x := by simpa using List.find?_some q
    rw [← h2]
    exact h1
theorem den_bad {X : Cx} {W : WX} {e : Expr} {f : En → List O → R U} (h : ∀ σ h, f σ h = .bad) : Den X W e f := by
  refine ⟨fun _ _ _ => False, ⟨fun _ _ _ _ _ _ z => z.elim⟩, fun σ' h0 σ H μ Q re rh p => ?_⟩
  rw [h] at p
  exact p
theorem den_gtup' {X : Cx} {W : WX} {L : Lm} (c : Cxt G C k X W L) {x : Str} {pos : Pos} (gl : glB L.sc x = true) (pl : plN x = true) : Den X W (.Name x pos) (fun _ h => (opt (G.tup x) h).bind fun ds h => .ok (.d (.tuple ds)) h) := by
  cases q : G.tup x with
  | none => exact den_bad fun _ _ => rfl
  | some ds =>
    obtain ⟨g1, g2⟩ := c.gf.gt _ (gtup_mem q)
    exact Py.den_gtup (c.gl gl) g1 g2 (plN_ok pl).1
end
def isBO : Expr → Bool
  | .BoolOp _ _ _ => true
  | _ => false
structure Good (G : Gt) (C : Str → List U → List O → R U) (X : Cx) (W : WX) (x : Ex) (e : Expr) : Prop where
  d : Den X W e (ev G C x)
  t : okT x = true → DenT X W e (tv G C x)
  w : okT x = true → isBO e = true → DenW X W e (tv G C x)
theorem Good.plain {G : Gt} {C : Str → List U → List O → R U} {X : Cx} {W : WX} {x : Ex} {e : Expr} (d : Den X W e (ev G C x)) (h : okT x = false) : Good G C X W x e := ⟨d, fun z => (by rw [h] at z; cases z), fun z _ => (by rw [h] at z; cases z)⟩
theorem Good.truth {G : Gt} {C : Str → List U → List O → R U} {X : Cx} {W : WX} {x : Ex} {e : Expr} (d : Den X W e (ev G C x)) (h : tv G C x = evT (ev G C x)) (he : ∀ whole, isTrue e X.env whole = (do let v ← whole; standAt e.pos; holding [v] (truthy v))) (hb : isBO e = false) : Good G C X W x e :=
  ⟨d, fun _ => by rw [h]; exact dent_truth d he, fun _ z => by rw [hb] at z; cases z⟩
theorem Good.test {G : Gt} {C : Str → List U → List O → R U} {X : Cx} {W : WX} {x : Ex} {e : Expr} (d : Den X W e (ev G C x)) (t : okT x = true → DenT X W e (tv G C x)) (hb : isBO e = false) : Good G C X W x e := ⟨d, t, fun _ z => by rw [hb] at z; cases z⟩
theorem Good.bo {G : Gt} {C : Str → List U → List O → R U} {X : Cx} {W : WX} {x : Ex} {e : Expr} (d : Den X W e (ev G C x)) (w : okT x = true → DenW X W e (tv G C x)) : Good G C X W x e := ⟨d, fun z => (w z).t, fun z _ => w z⟩
theorem fold_rng {l : Es} {n : Nat} (h : n = l.len) (f : En → List O → R (List U)) : (fun (σ : En) (h : List O) => (f σ h).bind fun us h => if us.length = l.len then rngS us h else .bad) = fun σ h => (f σ h).bind fun us h => if us.length = n then rngS us h else .bad := by rw [h]
section
variable (G : Gt) (C : Str → List U → List O → R U) (k : Nat)
mutual
theorem chk_ok : ∀ (x : Ex) {X : Cx} {W : WX} {L : Lm} {e : Expr}, Cxt G C k X W L → chk G x L e = true → Good G C X W x e
  | .var i, X, W, L, e, c, h => by
    unfold chk at h
    split at h
    · simp only [Bool.and_eq_true, decide_eq_true_eq] at h
      obtain ⟨⟨h1, h2⟩, h3⟩ := h
      exact .truth (den_var (by rw [c.N]; exact h1) (c.vis h2) (plN_ok h3).1 (plN_ok h3).2) rfl (fun _ => rfl) rfl
    · cases h
  | .int i, X, W, L, e, c, h => by
    unfold chk at h
    split at h
    · have h := of_decide_eq_true h
      subst h
      exact .plain den_int rfl
    · cases h
  | .bl i, X, W, L, e, c, h => by
    unfold chk at h
    split at h
    · have h := beq_iff_eq.mp h
      subst h
      exact .truth den_bl rfl (fun _ => rfl) rfl
    · cases h
  | .str s, X, W, L, e, c, h => by
    unfold chk at h
    split at h
    · simp only [Bool.and_eq_true, decide_eq_true_eq] at h
      obtain ⟨h1, h2⟩ := h
      subst h1
      exact .plain (den_str h2) rfl
    · cases h
  | .non, X, W, L, e, c, h => by
    unfold chk at h
    split at h
    · exact .plain den_non rfl
    · cases h
  | .gint y i, X, W, L, e, c, h => by
    unfold chk at h
    split at h
    · simp only [Bool.and_eq_true, decide_eq_true_eq] at h
      obtain ⟨⟨⟨h1, h2⟩, h3⟩, h4⟩ := h
      exact .plain (den_gint (c.gl h2) (c.gf.gi _ h4) (plN_ok h3).1) rfl
    · cases h
  | .gtup y, X, W, L, e, c, h => by
    unfold chk at h
    split at h
    · simp only [Bool.and_eq_true, decide_eq_true_eq] at h
      obtain ⟨⟨h1, h2⟩, h3⟩ := h
      subst h1
      exact .plain (Py.den_gtup' c h2 h3) rfl
    · cases h
  | .gl y, X, W, L, e, c, h => by
    unfold chk at h
    split at h
    · simp only [Bool.and_eq_true, decide_eq_true_eq] at h
      obtain ⟨⟨⟨h1, h2⟩, h3⟩, h4⟩ := h
      subst h1
      exact .plain (den_gl (c.gl h2) (c.gf.gg _ h4) (plN_ok h3).1) rfl
    · cases h
  | .ty y n, X, W, L, e, c, h => by
    unfold chk at h
    split at h
    · simp only [Bool.and_eq_true, decide_eq_true_eq] at h
      obtain ⟨⟨⟨⟨⟨h1, h2⟩, h3⟩, h4⟩, h5⟩, h6⟩ := h
      exact .plain (den_ty (c.gl h2) (c.gf.gf _ h4) (tyB_ok h5) h6 (plN_ok h3).1) rfl
    · cases h
  | .bin o m a b, X, W, L, e, c, h => by
    unfold chk at h
    split at h
    · simp only [Bool.and_eq_true] at h
      obtain ⟨⟨h1, h2⟩, h3⟩ := h
      exact .truth (den_bin h1 (chk_ok a c h2).d (chk_ok b c h3).d) rfl (fun _ => rfl) rfl
    · cases h
  | .neg a, X, W, L, e, c, h => by
    unfold chk at h
    split at h
    · exact .plain (den_neg (chk_ok a c h).d) rfl
    · cases h
  | .cmp o a b, X, W, L, e, c, h => by
    unfold chk at h
    split at h
    · simp only [Bool.and_eq_true, Bool.not_eq_true'] at h
      obtain ⟨⟨⟨h1, h2⟩, h3⟩, h4⟩ := h
      obtain ⟨r, r1, r2⟩ := cmp_op (W := W) c.un h1
      have ga := (chk_ok a c h2).d
      have gb := (chk_ok b c h3).d
      exact .test (den_cmp r1 r2 ga gb h4) (fun _ => dent_cmp r1 r2 ga gb h4) rfl
    · cases h
  | .chn o p a b z, X, W, L, e, c, h => by
    unfold chk at h
    split at h
    · simp only [Bool.and_eq_true, Bool.not_eq_true'] at h
      obtain ⟨⟨⟨⟨⟨h1, h2⟩, h3⟩, h4⟩, h5⟩, h6⟩ := h
      obtain ⟨r, r1, r2⟩ := cmp_op (W := W) c.un h1
      obtain ⟨q, q1, q2⟩ := cmp_op (W := W) c.un h2
      have ga := (chk_ok a c h3).d
      have gb := (chk_ok b c h4).d
      have gz := (chk_ok z c h5).d
      exact .test (den_chain r1 q1 r2 q2 ga gb gz h6) (fun _ => dent_chain r1 q1 r2 q2 ga gb gz h6) rfl
    · cases h
  | .and a b, X, W, L, e, c, h => by
    unfold chk at h
    split at h
    · simp only [Bool.and_eq_true] at h
      have ga := chk_ok a c h.1
      have gb := chk_ok b c h.2
      exact .bo (den_and ga.d gb.d) fun z => denw_and (ga.t (Bool.and_eq_true_iff.mp z).1) (gb.w (Bool.and_eq_true_iff.mp z).2 rfl)
    · cases h
  | .or a b, X, W, L, e, c, h => by
    unfold chk at h
    split at h
    · simp only [Bool.and_eq_true] at h
      have ga := chk_ok a c h.1
      have gb := chk_ok b c h.2
      exact .bo (den_or ga.d gb.d) fun z => denw_or (ga.t (Bool.and_eq_true_iff.mp z).1) (gb.w (Bool.and_eq_true_iff.mp z).2 rfl)
    · cases h
  | .one a, X, W, L, e, c, h => by
    unfold chk at h
    split at h
    · rename_i op x pos
      have ga := chk_ok a c h
      exact .bo (den_one ga.d) fun z => by
        cases op
        · exact denw_and1 (ga.t z)
        · exact denw_or1 (ga.t z)
    · cases h
  | .not a, X, W, L, e, c, h => by
    unfold chk at h
    split at h
    · have ga := chk_ok a c h
      exact .test (den_not ga.d) (fun z => dent_not (ga.t z)) rfl
    · cases h
  | .ife t a b, X, W, L, e, c, h => by
    unfold chk at h
    split at h
    · simp only [Bool.and_eq_true] at h
      obtain ⟨⟨⟨h1, h2⟩, h3⟩, h4⟩ := h
      exact .plain (den_if ((chk_ok t c h1).t h2) (chk_ok a c h3).d (chk_ok b c h4).d) rfl
    · cases h
  | .tup l, X, W, L, e, c, h => by
    unfold chk at h
    split at h
    · exact .plain (den_tup (chks_ok l c h).1) rfl
    · cases h
  | .lst m l, X, W, L, e, c, h => by
    unfold chk at h
    split at h
    · exact .plain (den_lst (chks_ok l c h).1) rfl
    · cases h
  | .ix a b, X, W, L, e, c, h => by
    unfold chk at h
    split at h
    · simp only [Bool.and_eq_true, Bool.not_eq_true'] at h
      obtain ⟨⟨h1, h2⟩, h3⟩ := h
      exact .truth (den_ix c.un (chk_ok a c h1).d (chk_ok b c h2).d h3) rfl (fun _ => rfl) rfl
    · cases h
  | .sl m a lo hi, X, W, L, e, c, h => by
    unfold chk at h
    split at h
    · simp only [Bool.and_eq_true] at h
      obtain ⟨⟨h1, h2⟩, h3⟩ := h
      exact .truth (den_sl (chk_ok a c h1).d (chko_ok lo c h2) (chko_ok hi c h3)) rfl (fun _ => rfl) rfl
    · cases h
  | .bi f m l, X, W, L, e, c, h => by
    unfold chk at h
    split at h
    · simp only [Bool.and_eq_true, decide_eq_true_eq] at h
      obtain ⟨⟨⟨h1, h2⟩, h3⟩, h4⟩ := h
      obtain ⟨g1, g2, g3, g4⟩ := chks_ok l c h4
      exact .truth (den_bi c h1 (c.gl h2) (c.gf.gf _ h3) g1 g2) rfl (fun _ => rfl) rfl
    · cases h
  | .mxd a d, X, W, L, e, c, h => by
    unfold chk at h
    split at h
    · simp only [Bool.and_eq_true, decide_eq_true_eq, Bool.not_eq_true'] at h
      obtain ⟨⟨⟨⟨⟨⟨h1, h2⟩, h3⟩, h4⟩, h5⟩, h6⟩, h7⟩ := h
      subst h1 h2
      exact .plain (den_maxD c.calm c.un (c.gl h3) (c.gf.gf _ h4) (chk_ok a c h5).d (chk_ok d c h6).d h7) rfl
    · cases h
  | .bits a, X, W, L, e, c, h => by
    unfold chk at h
    split at h
    · simp only [Bool.and_eq_true, decide_eq_true_eq, Bool.not_eq_true'] at h
      obtain ⟨⟨⟨h1, h2⟩, h3⟩, h4⟩ := h
      subst h1
      exact .plain (den_bits (chk_ok a c h4).d h2 h3) rfl
    · cases h
  | .me n a l, X, W, L, e, c, h => by
    unfold chk at h
    split at h
    · simp only [Bool.and_eq_true, decide_eq_true_eq, Bool.not_eq_true'] at h
      obtain ⟨⟨⟨⟨⟨h1, h2⟩, h3⟩, h4⟩, h5⟩, h6⟩ := h
      obtain ⟨g1, g2, g3, g4⟩ := chks_ok l c h6
      exact .plain (den_mn h1 (chk_ok a c h5).d g1 g4 h2 g2 h4 h3) rfl
    · cases h
  | .call f perm a kx, X, W, L, e, c, h => by
    unfold chk at h
    split at h
    · rename_i x p es kws pos
      simp only [Bool.and_eq_true, decide_eq_true_eq] at h
      obtain ⟨⟨⟨⟨⟨h1, h2⟩, h3⟩, h4⟩, h5⟩, h6⟩ := h
      subst h1
      split at h6
      · rename_i ks hks
        simp only [Bool.and_eq_true, decide_eq_true_eq, List.all_eq_true, List.any_eq_true] at h6
        obtain ⟨⟨q1, q2⟩, ⟨y, ps⟩, q3, q4, q5⟩ := h6
        dsimp only at q4 q5
        subst q4
        obtain ⟨g1, g2, g3, g4⟩ := chks_ok a c h4
        obtain ⟨j1, j2⟩ := chkk_ok kx c h5
        obtain ⟨m1, m2, fd, m3, m4⟩ := c.ff.ok _ q3
        have := den_call m3 c.room (c.gl h2) m1 m2 (m4 _ _ _ q1) c.tk q5.symm q2 g1 j1 hks g2 (plN_ok h3).1 g4 (pos := pos) (p := p)
        refine .truth ?_ rfl (fun _ => rfl) rfl
        show Den X W _ (evCl a.len kx.len perm (evs G C a) (evs G C kx) (C _))
        rw [← g3, show kx.len = ks.length from j2 ks hks]
        exact this
      · cases h6
    · cases h
  | .lc m t w co e0, X, W, L, e, c, h => by
    unfold chk at h
    split at h
    · rename_i elt tg iter ifs scope pos
      simp only [Bool.and_eq_true, Bool.not_eq_true'] at h
      obtain ⟨⟨⟨⟨⟨h1, h2⟩, h3⟩, h4⟩, h5⟩, h6⟩ := h
      refine .truth (den_lc c.calm (by rw [c.N]; exact c.nd) (chkw_ok w c h1) (own := owns L t.slots) (by rw [c.N, c.sc]; exact blkOk_by h5) (fun s H Ca cl fp => chkG_ok t (c.blk s H scope Ca cl fp) h2)
        (fun s H Ca cl fp => chkc_ok co (c.blk s H scope Ca cl fp) h3) (fun s H Ca cl fp => (chk_ok e0 (c.blk s H scope Ca cl fp) h4).d) ?_ (fun i hi => hi) h6) rfl (fun _ => rfl) rfl
      unfold owns
      rw [List.map_map]
      exact List.map_id _
    · cases h
theorem chks_ok : ∀ (l : Es) {X : Cx} {W : WX} {L : Lm} {es : List Expr}, Cxt G C k X W L → chks G l L es = true → DenA X W es (evs G C l) ∧ noStar es = true ∧ es.length = l.len ∧ (es = [] → evs G C l = evNil)
  | .nil, X, W, L, es, c, h => by
    unfold chks at h
    split at h
    · exact ⟨dena_nil, rfl, rfl, fun _ => rfl⟩
    · cases h
  | .cons x l, X, W, L, es, c, h => by
    unfold chks at h
    split at h
    · rename_i e r
      simp only [Bool.and_eq_true, Bool.not_eq_true'] at h
      obtain ⟨⟨h1, h2⟩, h3⟩ := h
      obtain ⟨g1, g2, g3, g4⟩ := chks_ok l c h3
      refine ⟨dena_cons (chk_ok x c h1).d g1 (star1 h2), ?_, ?_, fun z => by cases z⟩
      · unfold noStar at g2 ⊢
        rw [List.all_cons, g2, h2]; rfl
      · show r.length + 1 = l.len + 1
        rw [g3]
    · cases h
theorem chkk_ok : ∀ (l : Es) {X : Cx} {W : WX} {L : Lm} {es : List Keyword}, Cxt G C k X W L → chkk G l L es = true → DenK X W es (evs G C l) ∧ (∀ ks, kwNames es = some ks → l.len = ks.length)
  | .nil, X, W, L, es, c, h => by
    unfold chkk at h
    split at h
    · exact ⟨denk_nil, fun ks e => by cases e; rfl⟩
    · cases h
  | .cons x l, X, W, L, es, c, h => by
    unfold chkk at h
    split at h
    · rename_i n e kp r
      simp only [Bool.and_eq_true] at h
      obtain ⟨h1, h2⟩ := h
      obtain ⟨g1, g2⟩ := chkk_ok l c h2
      refine ⟨denk_cons (chk_ok x c h1).d g1, fun ks q => ?_⟩
      cases n with
      | none => cases q
      | some n =>
        have q' : (kwNames r).map (n :: ·) = some ks := q
        cases z : kwNames r with
        | none => rw [z] at q'; cases q'
        | some zs =>
          rw [z] at q'
          cases q'
          show l.len + 1 = zs.length + 1
          rw [g2 zs z]
    · cases h
theorem chko_ok : ∀ (o : Ox) {X : Cx} {W : WX} {L : Lm} {e : Option Expr}, Cxt G C k X W L → chko G o L e = true → DenO X W e (evo G C o)
  | .no, X, W, L, e, c, h => by
    unfold chko at h
    split at h
    · exact deno_none
    · cases h
  | .yes x, X, W, L, e, c, h => by
    unfold chko at h
    split at h
    · exact deno_some (chk_ok x c h).d
    · cases h
theorem chkc_ok : ∀ (o : Ox) {X : Cx} {W : WX} {L : Lm} {e : List Expr}, Cxt G C k X W L → chkc G o L e = true → DenTs X W e (evc G C o)
  | .no, X, W, L, e, c, h => by
    unfold chkc at h
    split at h
    · exact dents_nil
    · cases h
  | .yes x, X, W, L, e, c, h => by
    unfold chkc at h
    split at h
    · simp only [Bool.and_eq_true] at h
      exact dents_one ((chk_ok x c h.1).t h.2)
    · cases h
theorem chkw_ok : ∀ (w : Wk) {X : Cx} {W : WX} {L : Lm} {tg e : Expr}, Cxt G C k X W L → chkw G w L tg e = true → DenI X W tg e (evw G C w)
  | .seq x, X, W, L, tg, e, c, h => by
    unfold chkw at h
    exact deni_seq (chk_ok x c h).d
  | .rng l, X, W, L, tg, e, c, h => by
    unfold chkw at h
    split at h
    · rename_i x p es pos
      simp only [Bool.and_eq_true, decide_eq_true_eq] at h
      obtain ⟨⟨⟨⟨⟨h1, h2⟩, h3⟩, h4⟩, h5⟩, h6⟩ := h
      subst h1
      obtain ⟨g1, g2, g3, g4⟩ := chks_ok l c h6
      show DenI X W tg _ (fun σ h => (evs G C l σ h).bind fun us h => if us.length = l.len then rngS us h else .bad)
      rw [fold_rng g3]
      match es, h4, h5, g1, g2 with
      | [], h4, _, _, _ => exact absurd h4 (by decide)
      | [a], _, _, g1, g2 => exact deni_range1 (c.gl h2) (c.gf.gf _ h3) g1 g2
      | [a, b], _, _, g1, g2 => exact deni_range2 (c.gl h2) (c.gf.gf _ h3) g1 g2
      | [a, b, d], _, _, g1, g2 => exact deni_range3 (c.gl h2) (c.gf.gf _ h3) g1 g2
      | _ :: _ :: _ :: _ :: _, _, h5, _, _ => exact absurd h5 (by simp)
    · cases h
  | .enu l, X, W, L, tg, e, c, h => by
    unfold chkw at h
    split at h
    · simp only [Bool.and_eq_true, decide_eq_true_eq] at h
      obtain ⟨⟨⟨⟨h1, h2⟩, h3⟩, h4⟩, h5⟩ := h
      subst h1
      obtain ⟨g1, g2, g3, g4⟩ := chks_ok l c h5
      cases tg <;> first | exact deni_enum (c.gl h2) (c.gf.gf _ h3) g1 g2 | cases h4
    · cases h
  | .zip l, X, W, L, tg, e, c, h => by
    unfold chkw at h
    split at h
    · simp only [Bool.and_eq_true, decide_eq_true_eq] at h
      obtain ⟨⟨⟨⟨h1, h2⟩, h3⟩, h4⟩, h5⟩ := h
      subst h1
      obtain ⟨g1, g2, g3, g4⟩ := chks_ok l c h5
      cases tg <;> first | exact deni_zip (c.gl h2) (c.gf.gf _ h3) g1 g2 | cases h4
    · cases h
end
end
end Py

/-! the compact tree of statements; defs; a tree that fits says what the text does -/
namespace Py
open PySem PySem.Spec PyProof.Rows L2
theorem dens_setLc {X : Cx} {W : WX} {m : Bool} {i : Nat} {y : Str} {py : Pos} {elt tg iter : Expr} {ifs : List Expr} {scope : Scope} {own : List (Str × Nat)} {pos spos : Pos} {t : Tg} {vs : List Nat} {fi : En → List O → R Src} {ft : En → List O → R Bool} {fe : En → List O → R U} (hc : X.calm = true) (hN : X.N.Nodup) (hy : X.N[i]? = some y)
    (hyl : X.env.scope.names.lookup y = some .local) (hsw : swapsWith (.ListComp elt [⟨tg, iter, ifs, 0⟩] scope pos) (some (.Name y py)) spos.line X.env = pure true) (hi : DenI X W tg iter fi) (ok : BlkOk X.N X.env.scope scope own)
    (hg : ∀ (s : Shared) (H : Hp) (C : Addr) (cl : List (Str × Addr)) (fp : List Addr), DenG (X.blk s H scope (compEnvC scope cl C X.env) fp) tg t)
    (ht : ∀ (s : Shared) (H : Hp) (C : Addr) (cl : List (Str × Addr)) (fp : List Addr), DenTs (X.blk s H scope (compEnvC scope cl C X.env) fp) W0 ifs ft)
    (he : ∀ (s : Shared) (H : Hp) (C : Addr) (cl : List (Str × Addr)) (fp : List Addr), Den (X.blk s H scope (compEnvC scope cl C X.env) fp) W0 elt fe)
    (hv : own.map (·.2) = vs) (hsl : ∀ i ∈ t.slots, i ∈ vs) (hs : isSetD iter = false) : DenS X W (.Assign [.Name y py] (.ListComp elt [⟨tg, iter, ifs, 0⟩] scope pos) spos) (sAsg (evLc m t vs fi ft fe) (.nm i)) := by
  obtain ⟨wi, pi, ci⟩ := hi
  subst hv
  refine dens_of (ps_setLc (g := tG X.K t) (tt := tT X.K W0 ft) (te := tE X.K W0 fe) hc hN hy hyl hsw pi ok (fun s H C cl fp => (hg s H C cl fp).pg) ht (fun s H C cl fp => (he s H C cl fp).pe) (noFold hs)) fun σ' h σ H μ D re rh p => ?_
  exact lc_body ci hsl σ' h σ H μ _ re rh (PostS.stm re p fun a h1 H1 μ1 b e1 rh1 rel p1 => p1.nx rh1 ((re.ext e1).set rel))
mutual
inductive Sm where
  | doc | drop (e : Ex) | set (i : Nat) (e : Ex) | slc (i : Nat) (m : Bool) (t : Tg) (w : Wk) (c : Ox) (e : Ex) | tup (t : Tg) (e : Ex) | par2 (i j : Nat) (l : Es) | par3 (i j k : Nat) (l : Es) | sub (o i e : Ex)
  | ife (c : Ex) (a b : Ss) | wh (c : Ex) (b : Ss) | fo (t : Tg) (w : Wk) (b : Ss) | ret (e : Ex) | retN | rais (x : Str) | tr (b : Ss) (hs : Hs) | pass | brk | cnt
inductive Ss where
  | nil | cons (s : Sm) (r : Ss)
inductive Hs where
  | nil | cons (x : Str) (b : Ss) (r : Hs)
end
section
variable (G : Gt) (C : Str → List U → List O → R U) (F : Nat)
def exmB (G : Gt) (c d : Str) : Bool := decide ((c, d) ∈ G.gm)
mutual
def ex : Sm → En → List O → Fl
  | .doc => sNx
  | .drop e => sDrop (ev G C e)
  | .set i e => sAsg (ev G C e) (.nm i)
  | .slc i m t w c e => sAsg (evLc m t t.slots (evw G C w) (evc G C c) (ev G C e)) (.nm i)
  | .tup t e => sAsg (ev G C e) t
  | .par2 i j l => sPar2 i j (evs G C l)
  | .par3 i j k l => sPar3 i j k (evs G C l)
  | .sub o i e => sSub (ev G C e) (ev G C o) (ev G C i)
  | .ife c a b => sIf (tv G C c) (exs a) (exs b)
  | .wh c b => whGo (tv G C c) (exs b) F
  | .fo t w b => sFor t (evw G C w) (exs b)
  | .ret e => sRet (ev G C e)
  | .retN => sRetN
  | .rais x => sRaise x
  | .tr b hs => sTry (exmB G) G.gx (exs b) (exh hs)
  | .pass => sNx
  | .brk => sBk
  | .cnt => sCt
def exs : Ss → En → List O → Fl
  | .nil => sNx
  | .cons s r => sSeq (ex s) (exs r)
def exh : Hs → List (Str × (En → List O → Fl))
  | .nil => []
  | .cons x b r => (x, exs b) :: exh r
end
end
/-! ### when it fits -/
def swB (L : Lm) (scope : Scope) (lp : Pos) (y : Str) (py : Pos) : Bool := L.sc.names.lookup y == some .local && py.line == lp.line && !(scope.names.any fun (n, k) => n == y && (k == .local || k == .cell))
def noSwB (L : Lm) (e : Expr) (y : Str) (py : Pos) : Bool := match e with
  | .ListComp _ _ scope lp => !swB L scope lp y py
  | .SetComp _ _ _ _ => false
  | .DictComp _ _ _ _ _ => false
  | _ => true
def swS (sc : Scope) (ts vs : List Expr) : Option (Option (List Str)) :=
  if (!(ts.length == 2 || ts.length == 3) || vs.length != ts.length) = true then some none else
  if (vs.any fun | .Starred .. => true | _ => false) = true then some none else
  let line := (ts.head?.map (·.pos.line)).getD 0
  let names := ts.filterMap fun
    | .Name id pos => if sc.names.lookup id == some .local && pos.line == line then some id else none
    | _ => none
  if (names.length != ts.length || names.eraseDups.length != names.length) = true then some none else
  if vs.all (foldedForSure 8) = true then some none else
  if vs.all (constantsAlone 8) = true then none else
  some (some names)
theorem swS_ok {env : Env} {ts vs : List Expr} {k1 k2 : Nat} {p1 p2 : Pos} {r : Option (List Str)} (hk : env.scope.kind = .function) (h : swS env.scope ts vs = some r) : swappedStores [.Tuple ts k1 p1] (.Tuple vs k2 p2) env = pure r := by
  have hb : env.blockKind = .function := by unfold Env.blockKind; rw [hk]; rfl
  unfold swS at h
  unfold swappedStores Env.kindOf
  dsimp only
  rw [hb]
  have e0 : (!(ts.length == 2 || ts.length == 3) || vs.length != ts.length || (ScopeKind.function != .function)) = (!(ts.length == 2 || ts.length == 3) || vs.length != ts.length) := by
    rw [show ((ScopeKind.function != .function) : Bool) = false from rfl, Bool.or_false]
  rw [e0]
  split at h
  · rename_i q; cases h; exact if_pos q
  · rename_i q
    refine (if_neg q).trans ?_
    split at h
    · rename_i q; cases h; exact if_pos q
    · rename_i q
      refine (if_neg q).trans ?_
      dsimp only at h ⊢
      split at h
      · rename_i q; cases h; exact if_pos q
      · rename_i q
        refine (if_neg q).trans ?_
        split at h
        · rename_i q; cases h; exact if_pos q
        · rename_i q
          refine (if_neg q).trans ?_
          split at h
          · cases h
          · rename_i q; cases h; exact if_neg q

theorem swB_ok {L : Lm} {env : Env} {elt : Expr} {gs : List Comprehension} {scope : Scope} {lp py : Pos} {y : Str} {l : Nat} (hs : env.scope = L.sc) (hk : env.scope.kind = .function) : swapsWith (.ListComp elt gs scope lp) (some (.Name y py)) l env = pure (swB L scope lp y py) := by
  have hb : env.blockKind = .function := by unfold Env.blockKind; rw [hk]; rfl
  unfold swapsWith swB
  dsimp only
  unfold Env.kindOf
  rw [hb, hs]
  simp only [Expr.pos]
  rfl
theorem noSwB_ok {L : Lm} {env : Env} {e : Expr} {py : Pos} {y : Str} {l : Nat} (hs : env.scope = L.sc) (hk : env.scope.kind = .function) (h : noSwB L e y py = true) : swapsWith e (some (.Name y py)) l env = pure false := by
  cases e <;> first
    | (rename_i elt gs scope lp
       rw [swB_ok hs hk]
       unfold noSwB at h
       dsimp only at h
       rw [Bool.not_eq_true'] at h
       rw [h])
    | (unfold noSwB at h; cases h; done)
    | rfl
theorem noSwT {e : Expr} {es : List Expr} {k l : Nat} {p : Pos} {env : Env} : swapsWithSole [.Tuple es k p] e l env = pure false := by
  unfold swapsWithSole
  cases e <;> rfl
section
variable (G : Gt)
/-- a statement of an except clause -/
def chkU : Sm → Lm → Stmt → Bool
  | .set i x, L, st => match st with
    | .Assign [.Name y _] e _ => decide (L.N[i]? = some y) && locB L y && !isCmp e && (match x with
      | .str s => (match e with | .Constant (.str j) _ _ => decide (s = j) && PyData.strOk s | _ => false)
      | .int n => (match e with | .Constant (.int j) _ _ => decide (n = j) | _ => false)
      | .bl n => (match e with | .Constant (.bool j) _ _ => n == j | _ => false)
      | .non => (match e with | .Constant .none _ _ => true | _ => false)
      | _ => false)
    | _ => false
  | .ret x, L, st => match st with
    | .Return (some e) _ => (match x with
      | .str s => (match e with | .Constant (.str j) _ _ => decide (s = j) && PyData.strOk s | _ => false)
      | .int n => (match e with | .Constant (.int j) _ _ => decide (n = j) | _ => false)
      | .bl n => (match e with | .Constant (.bool j) _ _ => n == j | _ => false)
      | .non => (match e with | .Constant .none _ _ => true | _ => false)
      | _ => false)
    | _ => false
  | .pass, _, st => match st with
    | .Pass _ => true
    | _ => false
  | .cnt, _, st => match st with
    | .Continue _ => true
    | _ => false
  | .brk, _, st => match st with
    | .Break _ => true
    | _ => false
  | _, _, _ => false
def isNm (y : Str) (e : Expr) : Bool := match e with
  | .Name x _ => decide (x = y)
  | _ => false
mutual
def chkS : Sm → Lm → Stmt → Bool
  | .doc, _, st => match st with
    | .Expr (.Constant (.str _) _ _) _ => true
    | _ => false
  | .drop x, L, st => match st with
    | .Expr e _ => chk G x L e && !isCmp e
    | _ => false
  | .set i x, L, st => match st with
    | .Assign [.Name y py] e _ => decide (L.N[i]? = some y) && locB L y && chk G x L e && noSwB L e y py
    | _ => false
  | .slc i m t w c x, L, st => match st with
    | .Assign [.Name y py] (.ListComp elt [⟨tg, iter, ifs, 0⟩] scope lp) _ => decide (L.N[i]? = some y) && (L.sc.names.lookup y == some .local) && swB L scope lp y py && chkw G w L tg iter && chkG t (inner L scope) tg && chkc G c (inner L scope) ifs && chk G x (inner L scope) elt && blkC L.N L.sc scope (owns L t.slots) && !isSetD iter
    | _ => false
  | .tup t x, L, st => match st with
    | .Assign [.Tuple ts k p] e _ => chkG t L (.Tuple ts k p) && chk G x L e && (match e with
      | .Tuple vs _ _ => (match swS L.sc ts vs with
        | some none => true
        | _ => false)
      | _ => true)
    | _ => false
  | .par2 i j l, L, st => match st with
    | .Assign [.Tuple [.Name x px, .Name y py] _ _] (.Tuple [a, b] _ _) _ => decide (swS L.sc [.Name x px, .Name y py] [a, b] = some (some [x, y])) && decide (L.N[i]? = some x) && decide (L.N[j]? = some y) && decide (i ≠ j) && (L.sc.names.lookup x == some .local) && (L.sc.names.lookup y == some .local) && chks G l L [a, b]
    | _ => false
  | .par3 i j n l, L, st => match st with
    | .Assign [.Tuple [.Name x px, .Name y py, .Name z pz] _ _] (.Tuple [a, b, c] _ _) _ => decide (swS L.sc [.Name x px, .Name y py, .Name z pz] [a, b, c] = some (some [x, y, z])) && decide (L.N[i]? = some x) && decide (L.N[j]? = some y) && decide (L.N[n]? = some z) && decide (i ≠ j) && decide (i ≠ n) && decide (j ≠ n) && (L.sc.names.lookup x == some .local) && (L.sc.names.lookup y == some .local) && (L.sc.names.lookup z == some .local) && chks G l L [a, b, c]
    | _ => false
  | .sub o i x, L, st => match st with
    | .Assign [.Subscript a b _] e _ => chk G x L e && chk G o L a && chk G i L b && !isCmp e && !isSl b
    | _ => false
  | .ife c a b, L, st => match st with
    | .If e p q _ => chk G c L e && okT c && chkB a L p && chkB b L q
    | _ => false
  | .wh c b, L, st => match st with
    | .While e p [] _ => chk G c L e && okT c && chkB b L p
    | _ => false
  | .fo t w b, L, st => match st with
    | .For tg iter p [] _ => chkG t L tg && chkw G w L tg iter && chkB b L p && !isSetD iter
    | _ => false
  | .ret x, L, st => match st with
    | .Return (some e) _ => chk G x L e
    | _ => false
  | .retN, _, st => match st with
    | .Return none _ => true
    | _ => false
  | .rais y, L, st => match st with
    | .Raise (some (.Call (.Name x _) [.Constant (.str _) _ _] [] _)) none _ => decide (x = y) && glB L.sc x && plN x && decide (x ∈ G.gx)
    | _ => false
  | .tr b hs, L, st => match st with
    | .Try p (h :: r) [] [] _ => chkB b L p && chkH hs L (h :: r)
    | _ => false
  | .pass, _, st => match st with
    | .Pass _ => true
    | _ => false
  | .brk, _, st => match st with
    | .Break _ => true
    | _ => false
  | .cnt, _, st => match st with
    | .Continue _ => true
    | _ => false
def chkB : Ss → Lm → List Stmt → Bool
  | .nil, _, sts => match sts with
    | [] => true
    | _ => false
  | .cons s r, L, sts => match sts with
    | st :: rest => chkS s L st && chkB r L rest
    | _ => false
def chkH : Hs → Lm → List ExceptHandler → Bool
  | .nil, _, hs => match hs with
    | [] => true
    | _ => false
  | .cons y b r, L, hs => match hs with
    | .ExceptHandler (some (.Name x _)) none (s :: ss) _ :: rest => decide (x = y) && glB L.sc x && plN x && decide (x ∈ G.gx) && chkUs b L (s :: ss) && chkH r L rest
    | _ => false
def chkUs : Ss → Lm → List Stmt → Bool
  | .nil, _, sts => match sts with
    | [] => true
    | _ => false
  | .cons s r, L, sts => match sts with
    | st :: rest => chkU s L st && chkUs r L rest
    | _ => false
end
end
structure GX (K : PySem.W.Frag) (mg : Str → Option Value) (G : Gt) : Prop where
  ok : ∀ x ∈ G.gx, mg x = some (.ref (He.ga K x)) ∧ (∃ bmB B newId initId, ExcBaseFacts B newId initId bmB ∧ PySem.W.excIn K (He.ga K x) bmB newId = true) ∧ PySem.W.keepIn K (.ref (He.ga K x)) = true ∧ PySem.W.subIn K (.ref (He.ga K x)) (.type "BaseException") = some true ∧ PySem.W.typeIn K (.ref (He.ga K x)) = some (.type "type")
  sub : ∀ c ∈ G.gx, ∀ d ∈ G.gx, PySem.W.exmOne K (.ref (He.ga K c)) (.ref (He.ga K d)) = some (exmB G c d)
structure CxtS (G : Gt) (C : Str → List U → List O → R U) (k : Nat) (X : Cx) (W : WX) (L : Lm) : Prop where
  c : Cxt G C k X W L
  hp : PassesOwn (model X.prog X.w) X.A X.env X.xe
  hs : X.stack = X.env :: X.outer
  hf : X.env.frame = some X.env.locals
  kd : L.sc.kind = .function
  gx : GX X.K X.mg G
section
variable (G : Gt) (C : Str → List U → List O → R U) (F : Nat) (k : Nat)
theorem tup_sw {L : Lm} {env : Env} {ts : List Expr} {e : Expr} {n : Nat} {p : Pos} (hs : env.scope = L.sc) (hk : env.scope.kind = .function) (h : (match e with | .Tuple vs _ _ => (match swS L.sc ts vs with | some none => true | _ => false) | _ => true) = true) : swappedStores [.Tuple ts n p] e env = pure none := by
  cases e <;> first
    | (rename_i vs k2 p2
       dsimp only at h
       split at h
       · rename_i q
         exact swS_ok hk (by rw [hs]; exact q)
       · cases h)
    | rfl

theorem cst_ok {X : Cx} {W : WX} {x : Ex} {e : Expr} (h : (match x with
      | .str s => (match e with | .Constant (.str j) _ _ => decide (s = j) && PyData.strOk s | _ => false)
      | .int n => (match e with | .Constant (.int j) _ _ => decide (n = j) | _ => false)
      | .bl n => (match e with | .Constant (.bool j) _ _ => n == j | _ => false)
      | .non => (match e with | .Constant .none _ _ => true | _ => false)
      | _ => false) = true) : Den X W e (ev G C x) := by
  split at h
  · split at h
    · simp only [Bool.and_eq_true, decide_eq_true_eq] at h
      obtain ⟨h1, h2⟩ := h
      subst h1
      exact den_str h2
    · cases h
  · split at h
    · have h := of_decide_eq_true h
      subst h
      exact den_int
    · cases h
  · split at h
    · have h := beq_iff_eq.mp h
      subst h
      exact den_bl
    · cases h
  · split at h
    · exact den_non
    · cases h
  · cases h
/-- the facts that an except clause needs -/
structure CxtU (X : Cx) (L : Lm) : Prop where
  N : X.N = L.N
  nd : L.N.Nodup
  sc : X.env.scope = L.sc
  fc : ∀ x, L.fc x = true → X.fn x = true
theorem CxtU.loc {X : Cx} {L : Lm} (c : CxtU X L) {x : Str} (h : locB L x = true) : Loc X.env.scope x ∧ (X.fn x = true ∨ X.env.scope.names.lookup x = some .local) := by
  unfold locB at h
  rw [c.sc]
  split at h
  · rename_i q; exact ⟨.inl q, .inr q⟩
  · rename_i q; exact ⟨.inr q, .inl (c.fc x h)⟩
  · cases h
theorem chkU_ok : ∀ (s : Sm) {X : Cx} {W : WX} {L : Lm} {st : Stmt}, CxtU X L → chkU s L st = true → DenS X W st (ex G C F s) := by
  intro s X W L st c h
  cases s with
  | set i x =>
    unfold chkU at h
    dsimp only at h
    split at h
    · simp only [Bool.and_eq_true, decide_eq_true_eq, Bool.not_eq_true'] at h
      obtain ⟨⟨⟨h1, h2⟩, h3⟩, h4⟩ := h
      exact dens_set (by rw [c.N]; exact c.nd) (by rw [c.N]; exact h1) (c.loc h2).1 (c.loc h2).2 (cst_ok G C h4) (noSwap h3)
    · cases h
  | ret x =>
    unfold chkU at h
    dsimp only at h
    split at h
    · exact dens_ret (cst_ok G C h)
    · cases h
  | pass =>
    unfold chkU at h
    dsimp only at h
    split at h
    · exact dens_pass
    · cases h
  | brk =>
    unfold chkU at h
    dsimp only at h
    split at h
    · exact dens_break
    · cases h
  | cnt =>
    unfold chkU at h
    dsimp only at h
    split at h
    · exact dens_cont
    · cases h
  | _ => cases h
theorem chkUs_ok : ∀ (s : Ss) {X : Cx} {W : WX} {L : Lm} {sts : List Stmt}, CxtU X L → chkUs G s L sts = true → DenB X W sts (exs G C F s)
  | .nil, X, W, L, sts, c, h => by
    unfold chkUs at h
    split at h
    · exact denb_nil
    · cases h
  | .cons s r, X, W, L, sts, c, h => by
    unfold chkUs at h
    split at h
    · simp only [Bool.and_eq_true] at h
      exact denb_cons (chkU_ok G C F s c h.1) (chkUs_ok r c h.2)
    · cases h
theorem CxtS.tr {X : Cx} {W W' : WX} {L : Lm} (c : CxtS G C k X W L) (pn : List (Addr × Obj)) (xe : Value → Shared → Prop) (tk : Takes (X.tr pn xe) W') (hp : PassesOwn (model X.prog X.w) X.A X.env xe) : CxtS G C k (X.tr pn xe) W' L where
  c := ⟨c.c.N, c.c.nd, c.c.sc, c.c.calm, c.c.room, tk, c.c.gf, ⟨c.c.ff.ok⟩, c.c.fc⟩
  hp := hp
  hs := c.hs
  hf := c.hf
  kd := c.kd
  gx := c.gx
mutual
theorem chkS_ok : ∀ (s : Sm) {X : Cx} {W : WX} {L : Lm} {st : Stmt}, CxtS G C k X W L → chkS G s L st = true → DenS X W st (ex G C F s)
  | .doc, X, W, L, st, c, h => by
    unfold chkS at h
    split at h
    · exact dens_of ps_doc fun σ' h σ H μ D re rh p => p.nx rh re
    · cases h
  | .drop x, X, W, L, st, c, h => by
    unfold chkS at h
    split at h
    · simp only [Bool.and_eq_true, Bool.not_eq_true'] at h
      exact dens_expr (chk_ok G C k x c.c h.1).d h.2
    · cases h
  | .set i x, X, W, L, st, c, h => by
    unfold chkS at h
    split at h
    · simp only [Bool.and_eq_true, decide_eq_true_eq] at h
      obtain ⟨⟨⟨h1, h2⟩, h3⟩, h4⟩ := h
      exact dens_set (by rw [c.c.N]; exact c.c.nd) (by rw [c.c.N]; exact h1) (c.c.loc h2).1 (c.c.loc h2).2 (chk_ok G C k x c.c h3).d (noSwB_ok c.c.sc (by rw [c.c.sc]; exact c.kd) h4)
    · cases h
  | .slc i m t w co x, X, W, L, st, c, h => by
    unfold chkS at h
    split at h
    · rename_i y py elt tg iter ifs scope lp pos
      simp only [Bool.and_eq_true, decide_eq_true_eq, Bool.not_eq_true', beq_iff_eq] at h
      obtain ⟨⟨⟨⟨⟨⟨⟨⟨h1, h2⟩, h3⟩, h4⟩, h5⟩, h6⟩, h7⟩, h8⟩, h9⟩ := h
      refine dens_setLc c.c.calm (by rw [c.c.N]; exact c.c.nd) (by rw [c.c.N]; exact h1) (by rw [c.c.sc]; exact h2) (by rw [swB_ok c.c.sc (by rw [c.c.sc]; exact c.kd), h3]) (chkw_ok G C k w c.c h4) (own := owns L t.slots) (by rw [c.c.N, c.c.sc]; exact blkOk_by h8)
        (fun s H Ca cl fp => chkG_ok t (c.c.blk s H scope Ca cl fp) h5) (fun s H Ca cl fp => chkc_ok G C k co (c.c.blk s H scope Ca cl fp) h6) (fun s H Ca cl fp => (chk_ok G C k x (c.c.blk s H scope Ca cl fp) h7).d) ?_ (fun i hi => hi) h9
      unfold owns
      rw [List.map_map]
      exact List.map_id _
    · cases h
  | .tup t x, X, W, L, st, c, h => by
    unfold chkS at h
    split at h
    · simp only [Bool.and_eq_true] at h
      obtain ⟨⟨h1, h2⟩, h3⟩ := h
      exact dens_tup (chkG_ok t c.c h1) (chk_ok G C k x c.c h2).d noSwT (tup_sw c.c.sc (by rw [c.c.sc]; exact c.kd) h3) rfl
    · cases h
  | .par2 i j l, X, W, L, st, c, h => by
    unfold chkS at h
    split at h
    · simp only [Bool.and_eq_true, decide_eq_true_eq, beq_iff_eq] at h
      obtain ⟨⟨⟨⟨⟨⟨h0, h1⟩, h2⟩, h3⟩, h4⟩, h5⟩, h6⟩ := h
      exact dens_par2 c.c.calm (by rw [c.c.N]; exact c.c.nd) (by rw [c.c.N]; exact h1) (by rw [c.c.N]; exact h2) h3 (by rw [c.c.sc]; exact h4) (by rw [c.c.sc]; exact h5) (chks_ok G C k l c.c h6).1 (swS_ok (by rw [c.c.sc]; exact c.kd) (by rw [c.c.sc]; exact h0))
    · cases h
  | .par3 i j n l, X, W, L, st, c, h => by
    unfold chkS at h
    split at h
    · simp only [Bool.and_eq_true, decide_eq_true_eq, beq_iff_eq] at h
      obtain ⟨⟨⟨⟨⟨⟨⟨⟨⟨⟨h0, h1⟩, h2⟩, h3⟩, h4⟩, h5⟩, h6⟩, h7⟩, h8⟩, h9⟩, h10⟩ := h
      exact dens_par3 c.c.calm (by rw [c.c.N]; exact c.c.nd) (by rw [c.c.N]; exact h1) (by rw [c.c.N]; exact h2) (by rw [c.c.N]; exact h3) h4 h5 h6 (by rw [c.c.sc]; exact h7) (by rw [c.c.sc]; exact h8) (by rw [c.c.sc]; exact h9) (chks_ok G C k l c.c h10).1 (swS_ok (by rw [c.c.sc]; exact c.kd) (by rw [c.c.sc]; exact h0))
    · cases h
  | .sub o i x, X, W, L, st, c, h => by
    unfold chkS at h
    split at h
    · simp only [Bool.and_eq_true, Bool.not_eq_true'] at h
      obtain ⟨⟨⟨⟨h1, h2⟩, h3⟩, h4⟩, h5⟩ := h
      exact dens_sub (chk_ok G C k x c.c h1).d (chk_ok G C k o c.c h2).d (chk_ok G C k i c.c h3).d h4 h5 c.c.un
    · cases h
  | .ife x a b, X, W, L, st, c, h => by
    unfold chkS at h
    split at h
    · simp only [Bool.and_eq_true] at h
      obtain ⟨⟨⟨h1, h2⟩, h3⟩, h4⟩ := h
      exact dens_if ((chk_ok G C k x c.c h1).t h2) (chkB_ok a c h3) (chkB_ok b c h4)
    · cases h
  | .wh x b, X, W, L, st, c, h => by
    unfold chkS at h
    split at h
    · simp only [Bool.and_eq_true] at h
      obtain ⟨⟨h1, h2⟩, h3⟩ := h
      exact dens_while F c.hp ((chk_ok G C k x c.c h1).t h2) (chkB_ok b c h3)
    · cases h
  | .fo t w b, X, W, L, st, c, h => by
    unfold chkS at h
    split at h
    · simp only [Bool.and_eq_true, Bool.not_eq_true'] at h
      obtain ⟨⟨⟨h1, h2⟩, h3⟩, h4⟩ := h
      exact dens_for c.hp c.c.calm (chkw_ok G C k w c.c h2) (chkG_ok t c.c h1) (chkB_ok b c h3) h4
    · cases h
  | .ret x, X, W, L, st, c, h => by
    unfold chkS at h
    split at h
    · exact dens_ret (chk_ok G C k x c.c h).d
    · cases h
  | .retN, X, W, L, st, c, h => by
    unfold chkS at h
    split at h
    · exact dens_retN
    · cases h
  | .rais y, X, W, L, st, c, h => by
    unfold chkS at h
    split at h
    · simp only [Bool.and_eq_true, decide_eq_true_eq] at h
      obtain ⟨⟨⟨h1, h2⟩, h3⟩, h4⟩ := h
      subst h1
      obtain ⟨g1, ⟨bmB, B, newId, initId, g2, g3⟩, g4, g5, g6⟩ := c.gx.ok _ h4
      exact dens_raise c.c.calm c.c.tk g2 g3 g1 g4 (raises_own g5 g6) (c.c.gl h2) (plN_ok h3).1
    · cases h
  | .tr b hs, X, W, L, st, c, h => by
    unfold chkS at h
    split at h
    · simp only [Bool.and_eq_true] at h
      obtain ⟨h1, h2⟩ := h
      exact dens_try c.hs c.hf c.c.tk (fun W' pn xe tk hp => chkB_ok b (c.tr G C k pn xe tk hp) h1) (chkH_ok hs c h2)
    · cases h
  | .pass, X, W, L, st, c, h => by
    unfold chkS at h
    split at h
    · exact dens_pass
    · cases h
  | .brk, X, W, L, st, c, h => by
    unfold chkS at h
    split at h
    · exact dens_break
    · cases h
  | .cnt, X, W, L, st, c, h => by
    unfold chkS at h
    split at h
    · exact dens_cont
    · cases h
theorem chkB_ok : ∀ (s : Ss) {X : Cx} {W : WX} {L : Lm} {sts : List Stmt}, CxtS G C k X W L → chkB G s L sts = true → DenB X W sts (exs G C F s)
  | .nil, X, W, L, sts, c, h => by
    unfold chkB at h
    split at h
    · exact denb_nil
    · cases h
  | .cons s r, X, W, L, sts, c, h => by
    unfold chkB at h
    split at h
    · simp only [Bool.and_eq_true] at h
      exact denb_cons (chkS_ok s c h.1) (chkB_ok r c h.2)
    · cases h
theorem chkH_ok : ∀ (s : Hs) {X : Cx} {W : WX} {L : Lm} {hs : List ExceptHandler}, CxtS G C k X W L → chkH G s L hs = true → Hds X (exmB G) G.gx hs (exh G C F s)
  | .nil, X, W, L, sts, c, h => by
    unfold chkH at h
    split at h
    · exact .nil
    · cases h
  | .cons y b r, X, W, L, sts, c, h => by
    unfold chkH at h
    split at h
    · simp only [Bool.and_eq_true, decide_eq_true_eq] at h
      obtain ⟨⟨⟨⟨⟨h1, h2⟩, h3⟩, h4⟩, h5⟩, h6⟩ := h
      subst h1
      obtain ⟨g1, _⟩ := c.gx.ok _ h4
      exact .cons (v := .ref (He.ga X.K _)) ⟨c.c.gl h2, (plN_ok h3).1, .inl g1⟩ (fun d hd => c.gx.sub d hd _ h4) (fun a oe pn => chkUs_ok G C F b ⟨c.c.N, c.c.nd, c.c.sc, c.c.fc⟩ h5) (chkH_ok r c h6)
    · cases h
end
end
end Py

/-! defs: what a run of them gives; the table of a law's facts -/
namespace Py
open PySem PySem.Spec PyProof.Rows L2
structure Df where
  ps : List Str
  N : List Str
  keep : Bool
  body : Ss
def outU (n : Nat) (u : U) (h : List O) : R U := match u with
  | .lab m => if m < n then .ok (.lab m) (h.take n) else (match settle n (.lab m) h with
    | some d => .ok (.d d) (h.take n)
    | none => .bad)
  | u => .ok u (h.take n)
def leave (keep : Bool) (n : Nat) (r : Fl) : R U := match r with
  | .nx _ h => .ok (.d .none) (h.take n)
  | .ret u h => if keep = true then .ok u h else outU n u h
  | .er c _ h => .err c (h.take n)
  | _ => .bad
def findD (ds : List (Str × Df)) (x : Str) : Option Df := (ds.find? fun p => p.1 = x).map (·.2)
def startE (d : Df) (us : List U) : En := us.map some ++ List.replicate (d.N.length - us.length) none
def run (G : Gt) (F : Nat) (ds : List (Str × Df)) : Nat → Str → List U → List O → R U
  | 0, _, _, _ => .bad
  | k + 1, x, us, h => match findD ds x with
    | none => .bad
    | some d => if us.length = d.ps.length then leave d.keep h.length (exs G (run G F ds k) F d.body (startE d us) h) else .bad
theorem outU_of {K : PySem.W.Frag} {H H' : Hp} {μ μ' : List Addr} {h' : List O} {σ : L2.St} {W : WX} {u : U} {v : V} {Q : VK} {n : Nat} (hn : μ.length = n) (e : Ext μ H μ' H') (rh : Rh K H' μ' h') (ru : RU K H' μ' u v) (p : Post K W σ H μ (RU K) (outU n u h') Q) : Q v H' := by
  have ec : Ext μ H (μ'.take n) H' := e.cut (by omega)
  have rc := rh.cut n
  unfold outU at p
  cases ru with
  | d r => exact p _ _ _ ec rc (.d (r.sub mem_take))
  | ty m => exact p _ _ _ ec rc (.ty m)
  | gl x => exact p _ _ _ ec rc (.gl x)
  | scr q => exact p _ _ _ ec rc (.scr (q.elim (fun ⟨o, z1, z2⟩ => .inl ⟨o, z1, fun m => z2 (mem_take _ m)⟩) .inr))
  | @lab m a q =>
    dsimp only at p
    split at p
    · rename_i hm
      exact p _ _ _ ec rc (.lab (by rw [List.getElem?_take_of_lt hm]; exact q))
    · rename_i hm
      cases hs : settle n (.lab m) h' with
      | none => simp only [hs] at p; exact p.elim
      | some d =>
        simp only [hs] at p
        exact p _ _ _ ec rc (.d (settle_ok rh (.lab q) hs))
theorem leave_of {K : PySem.W.Frag} {H : Hp} {μ : List Addr} {keep : Bool} {n : Nat} {r : Fl} {E : XK} {Q : VK} (hn : μ.length = n) (p : Post K (fun c d _ H => E c d H) [] H μ (RU K) (leave keep n r) Q) :
    PostS K (fun c d _ H => E c d H) H μ r { nx := fun _ H' => Q .non H', rt := Q } := by
  cases r with
  | nx s h => exact fun σ H' μ' e rh re => p _ _ _ (e.cut (by omega)) (rh.cut n) (.d .non)
  | ret u h =>
    intro v H' μ' e rh ru
    cases keep with
    | true => exact p _ _ _ e rh ru
    | false => exact outU_of hn e rh ru p
  | er c s h => exact fun σ H' μ' e rh re => p _ _ (e.cut (by omega)) (rh.cut n)
  | bk s h => exact p.elim
  | ct s h => exact p.elim
  | bad => exact p.elim
theorem RUs.getS {K : PySem.W.Frag} {H : Hp} {μ : List Addr} {us : List U} {vs : List V} (r : RUs K H μ us vs) (m n : Nat) (hl : m = n) : RE K H μ (us.map some ++ List.replicate m none) (vs.map some ++ List.replicate n none) := by
  subst hl
  refine ⟨by simp [r.length], fun i u q => ?_⟩
  by_cases hi : i < us.length
  · rw [List.getElem?_append_left (by simpa using hi), List.getElem?_map] at q
    cases z : us[i]? with
    | none => rw [z] at q; cases q
    | some w =>
      rw [z] at q
      cases q
      obtain ⟨v, hv, rv⟩ := r.get z
      refine ⟨v, ?_, rv⟩
      rw [List.getElem?_append_left (by rw [List.length_map, ← r.length]; exact hi), List.getElem?_map, hv]
      rfl
  · rw [List.getElem?_append_right (by simpa using hi)] at q
    rw [List.getElem?_replicate] at q
    split at q <;> cases q
/-- a def of the text fits its tree -/
def fscB (N ps : List Str) (sc : Scope) : Bool :=
  (match sc.kind with | .function => true | _ => false) && !sc.isCoroutine && !sc.isGenerator && decide (N.take ps.length = ps) && (ps.all fun x => match sc.names.lookup x with | some .local => true | some .cell => true | _ => false) && (sc.names.all fun y => match y.2 with | .free => false | _ => true)
theorem fscB_ok {N ps : List Str} {sc : Scope} (hN : N.Nodup) (h : fscB N ps sc = true) : FnScope N ps sc := by
  unfold fscB at h
  simp only [Bool.and_eq_true, decide_eq_true_eq, Bool.not_eq_true', List.all_eq_true] at h
  obtain ⟨⟨⟨⟨⟨h1, h2⟩, h3⟩, h4⟩, h5⟩, h6⟩ := h
  refine ⟨?_, h2, h3, hN, h4, fun x hx => ?_, fun y hy e => ?_⟩
  · split at h1
    · assumption
    · cases h1
  · have := h5 x hx
    split at this
    · rename_i q; exact .inl q
    · rename_i q; exact .inr q
    · cases this
  · have := h6 y hy
    rw [e] at this
    cases this
section
variable {P : Program} {w : World} {K : PySem.W.Frag} {mg : Str → Option Value} {base : Heap} (G : Gt) (F : Nat) (ds : List (Str × Df))
/-- all that is asked of the text -/
structure Txt (K : PySem.W.Frag) (mg : Str → Option Value) (G : Gt) (ds : List (Str × Df)) : Prop where
  gf : GF K mg G
  gx : GX K mg G
  df : ∀ p ∈ G.gd, mg p.1 = some (.ref (He.ga K p.1)) ∧ PySem.W.keepIn K (.ref (He.ga K p.1)) = true ∧ ∃ d, findD ds p.1 = some d ∧ d.ps = p.2 ∧ ∃ qual params body scope fd, FunD K p.1 qual params body scope [] [] (He.ga K p.1) fd ∧ FnScope d.N d.ps scope ∧
    chkB G d.body ⟨d.N, scope, fun _ => true⟩ body = true ∧ ∀ n ks perm, (p.1, n, ks, perm) ∈ G.gs → BindOk K fd d.ps n ks perm
theorem run_ok (T : Txt K mg G ds) : ∀ k, ∀ p ∈ G.gd, mg p.1 = some (.ref (He.ga K p.1)) ∧ PySem.W.keepIn K (.ref (He.ga K p.1)) = true ∧ ∃ fd, FnOk P w K mg base (L2.CX P w) k (He.ga K p.1) fd p.2 (spF K p.2.length (run G F ds k p.1)) ∧
    ∀ n ks perm, (p.1, n, ks, perm) ∈ G.gs → BindOk K fd p.2 n ks perm
  | 0, p, hp => by
    obtain ⟨h1, h2, d, h3, h4, q, pa, bo, sc, fd, h5, h6, h7, h8⟩ := T.df p hp
    rw [← h4]
    refine ⟨h1, h2, fd, ⟨fun vs H Q E h => h.1, fun A outer s H args us vs Q E _ _ _ _ h => ?_⟩, h8⟩
    obtain ⟨_, us', h', μ, _, _, z⟩ := h
    exact z.elim
  | k + 1, p, hp => by
    have ih := run_ok T k
    obtain ⟨h1, h2, d, h3, h4, q, pa, bo, sc, fd, h5, h6, h7, h8⟩ := T.df p hp
    rw [← h4]
    refine ⟨h1, h2, fd, h5.ok h6 (fun vs H Q E h => h.1) (fun cdv A outer s H vs Q E hr h => ?_), h8⟩
    obtain ⟨hl, us, h', μ, rh, ru, z⟩ := h
    unfold run at z
    rw [h3] at z
    dsimp only at z
    have hul : us.length = d.ps.length := by rw [ru.length, hl]
    rw [if_pos hul] at z
    have c : CxtS G (run G F ds k) k (cxOf (L2.CX P w) P w K mg base d.N q sc (He.ga K p.1) cdv A outer s H E) (fun c d _ H => E c d H) ⟨d.N, sc, fun _ => true⟩ := {
      c := ⟨rfl, h6.nd, rfl, rfl, hr, takes_of rfl rfl rfl rfl, T.gf, ⟨ih⟩, fun _ _ => rfl⟩
      hp := passes_of rfl
      hs := rfl
      hf := rfl
      kd := h6.kind
      gx := T.gx }
    refine ⟨_, chkB_ok G (run G F ds k) F k d.body c h7, startE d us, h', μ, ?_, rh, leave_of (by rw [rh.len]) z⟩
    exact ru.getS _ _ (by rw [ru.length])
end
end Py

/-! from the head's facts to all that is asked of the text -/
namespace Py
open PySem PySem.Spec PyProof.Rows L2
def stN : Stmt → Str
  | .FunctionDef n _ _ _ _ _ _ _ _ _ => n
  | .ClassDef n _ _ _ _ _ _ _ _ _ _ => n
  | _ => ""
def mkDD (st : Stmt) : He.DefD := ⟨(stN st, none), stN st, stN st, defArgs st, defBody st, defScope st, [], []⟩
abbrev Sh := Nat × List Str × List Nat
structure Dd where
  st : Stmt
  df : Df
  sh : List Sh
def BSh (st : Stmt) (ps : List Str) (s : Sh) : Prop := ∀ (kV doc pm : Value) (an : Option Addr) (cdv ct : Value) (us ws : List Value), us.length = s.1 → ws.length = s.2.1.length →
  bindArgs (PySem.W.fnOf (stN st) (stN st) (defArgs st) (defBody st) (defScope st) .none kV doc pm an cdv ct) ⟨us, s.2.1.zip ws⟩ = pure (ps.zip (permL s.2.2 (us ++ ws)))
def AllS (st : Stmt) (ps : List Str) : List Sh → Prop
  | [] => True
  | s :: r => BSh st ps s ∧ AllS st ps r
def AllSh : List Dd → Prop
  | [] => True
  | d :: r => AllS d.st d.df.ps d.sh ∧ AllSh r
theorem AllS.mem {st : Stmt} {ps : List Str} : ∀ {l : List Sh}, AllS st ps l → ∀ s ∈ l, BSh st ps s
  | [], _, s, h => by cases h
  | t :: r, a, s, h => by
    rcases List.mem_cons.mp h with e | h
    · rw [e]; exact a.1
    · exact a.2.mem s h
theorem AllSh.mem : ∀ {l : List Dd}, AllSh l → ∀ d ∈ l, AllS d.st d.df.ps d.sh
  | [], _, s, h => by cases h
  | t :: r, a, s, h => by
    rcases List.mem_cons.mp h with e | h
    · rw [e]; exact a.1
    · exact a.2.mem s h
def faOf (G : Gt) : List He.Fa := G.gf.map .free ++ (G.gi.map (fun p => .int p.1 p.2) ++ (G.gx.map .exc ++ (G.gx.map .glo ++ (G.gd.map (fun p => .glo p.1) ++ (G.gg.map .glo ++ G.gx.flatMap fun c => G.gx.map fun d => .exm c d (exmB G c d))))))
def gdOf (l : List Dd) : List (Str × List Str) := l.map fun d => (stN d.st, d.df.ps)
def dsOf (l : List Dd) : List (Str × Df) := l.map fun d => (stN d.st, d.df)
def gsOf (l : List Dd) : List (Str × Sh) := l.flatMap fun d => d.sh.map fun s => (stN d.st, s)
def okD (G : Gt) (d : Dd) : Bool := decide d.df.N.Nodup && fscB d.df.N d.df.ps (defScope d.st) && chkB G d.df.body ⟨d.df.N, defScope d.st, fun _ => true⟩ (defBody d.st)
theorem find_ds : ∀ {l : List Dd}, (l.map fun d => stN d.st).Nodup → ∀ d ∈ l, findD (dsOf l) (stN d.st) = some d.df
  | [], _, d, h => by cases h
  | t :: r, nd, d, h => by
    rw [List.map_cons, List.nodup_cons] at nd
    unfold findD dsOf
    rw [List.map_cons, List.find?_cons]
    rcases List.mem_cons.mp h with e | h
    · subst e
      simp
    · have ne : stN t.st ≠ stN d.st := fun e => nd.1 (by rw [e]; exact List.mem_map.mpr ⟨d, h, rfl⟩)
      rw [show (decide ((stN t.st, t.df).1 = stN d.st)) = false from decide_eq_false ne]
      exact find_ds nd.2 d h
theorem txt_of {K : PySem.W.Frag} {h : Heap} {mg : Str → Option Value} {G : Gt} {l : List Dd} (X : K.In h) (N : h.Ns mainGlobals mg) (c : He.SaysD (faOf G) (l.map fun d => mkDD d.st) K) (e1 : G.gd = gdOf l) (e2 : G.gs = gsOf l) (e3 : G.gt = []) (nd : (l.map fun d => stN d.st).Nodup)
    (ok : l.all (okD G) = true) (sh : AllSh l) : Txt K mg G (dsOf l) := by
  have fact : ∀ f ∈ faOf G, f.ok K = true := fun f hf => by
    obtain ⟨i, hi, e⟩ := List.getElem_of_mem hf
    exact c.fact i (by rw [List.getElem?_eq_getElem hi, e])
  have glo : ∀ x, He.Fa.glo x ∈ faOf G → mg x = some (.ref (He.ga K x)) := fun x hx => He.glo_ok X N (fact _ hx)
  refine ⟨⟨fun p hp => ?_, fun p hp => ?_, fun x hx => ?_, fun x hx => ?_⟩, ⟨fun x hx => ?_, fun a ha b hb => ?_⟩, fun p hp => ?_⟩
  · exact He.int_ok X N (fact (.int p.1 p.2) (by unfold faOf; simp only [List.mem_append, List.mem_map]; exact .inr (.inl ⟨p, hp, rfl⟩)))
  · rw [e3] at hp; cases hp
  · exact He.free_ok X N (fact (.free x) (by unfold faOf; simp only [List.mem_append, List.mem_map]; exact .inl ⟨x, hx, rfl⟩))
  · exact glo x (by unfold faOf; simp only [List.mem_append, List.mem_map]; exact .inr (.inr (.inr (.inr (.inr (.inl ⟨x, hx, rfl⟩))))))
  · obtain ⟨q1, q2, q3, q4⟩ := He.exc_ok (fact (.exc x) (by unfold faOf; simp only [List.mem_append, List.mem_map]; exact .inr (.inr (.inl ⟨x, hx, rfl⟩))))
    exact ⟨glo x (by unfold faOf; simp only [List.mem_append, List.mem_map]; exact .inr (.inr (.inr (.inl ⟨x, hx, rfl⟩)))), ⟨_, _, _, _, PySem.F.excBase_ValueError, q1⟩, q2, q3, q4⟩
  · exact He.exm_ok (fact (.exm a b (exmB G a b)) (by unfold faOf; simp only [List.mem_append, List.mem_map, List.mem_flatMap]; exact .inr (.inr (.inr (.inr (.inr (.inr ⟨a, ha, b, hb, rfl⟩)))))))
  · have hp' := hp
    rw [e1] at hp'
    obtain ⟨d, hd, rfl⟩ := List.mem_map.mp hp'
    have g1 := glo (stN d.st) (by unfold faOf; simp only [List.mem_append, List.mem_map]; exact .inr (.inr (.inr (.inr (.inl ⟨_, hp, rfl⟩)))))
    obtain ⟨i, hi, e⟩ := List.getElem_of_mem hd
    obtain ⟨fd, Fd⟩ := c.def_ i (d := mkDD d.st) (by rw [List.getElem?_map, List.getElem?_eq_getElem hi, e]; rfl)
    have Fd : FunD K (stN d.st) (stN d.st) (defArgs d.st) (defBody d.st) (defScope d.st) [] [] (He.ga K (stN d.st)) fd := Fd
    have okd := List.all_eq_true.mp ok d hd
    unfold okD at okd
    simp only [Bool.and_eq_true, decide_eq_true_eq] at okd
    refine ⟨g1, Fd.kp, d.df, find_ds nd d hd, rfl, _, _, _, _, fd, Fd, fscB_ok okd.1.1 okd.1.2, okd.2, fun n ks perm hs => ?_⟩
    rw [e2] at hs
    unfold gsOf at hs
    rw [List.mem_flatMap] at hs
    obtain ⟨d2, hd2, hs⟩ := hs
    obtain ⟨s, hs1, hs2⟩ := List.mem_map.mp hs
    have hn : stN d2.st = stN d.st := congrArg (fun z : Str × Sh => z.1) hs2
    have hsh : s = (n, ks, perm) := congrArg (fun z : Str × Sh => z.2) hs2
    have hdd : d2 = d := by
      have h1 := find_ds nd d hd
      obtain ⟨i1, hi1, r1⟩ := List.getElem_of_mem hd
      obtain ⟨i2, hi2, r2⟩ := List.getElem_of_mem hd2
      have l1 : i1 < (l.map fun d => stN d.st).length := by simpa using hi1
      have l2 : i2 < (l.map fun d => stN d.st).length := by simpa using hi2
      have : (l.map fun d => stN d.st)[i1] = (l.map fun d => stN d.st)[i2] := by simp [r1, r2, hn]
      have := (List.getElem_inj nd).mp this
      subst this
      rw [← r1, ← r2]
    subst hdd
    have B := (sh.mem d2 hd2).mem s hs1
    subst hsh
    intro s us ws l1 l2
    obtain ⟨oc, od, dV, kV, doc, pm, an, cdv, ct, osl, rfl, lk, hcd, hD, hK⟩ := Fd.ex
    rcases hD with ⟨_, rfl⟩ | ⟨e, _⟩
    · exact .of_eq (B kV doc pm an cdv ct us ws l1 l2)
    · exact absurd rfl e
/-- what a law is asked: its def, run on a script, tells True -/
def spLaw (K : PySem.W.Frag) (G : Gt) (ds : List (Str × Df)) (k : Nat) : Sp := fun vs H Q E => ∃ F, spF K 1 (run G F ds k "law") vs H Q E
theorem law_fn {P : Program} {w : World} {K : PySem.W.Frag} {mg : Str → Option Value} {G : Gt} {ds : List (Str × Df)} {k : Nat} (T : Txt K mg G ds) (hp : (("law" : Str), [("script" : Str)]) ∈ G.gd) (hs : (("law" : Str), 1, ([] : List Str), [0]) ∈ G.gs) :
    ∃ (fd : FuncData), (∀ (s : Shared) (u : Value), BindsTo s fd ⟨[u], []⟩ [(("script" : Str), u)]) ∧ ∀ base : Heap, FnOk P w K mg base (L2.CX P w) (k + 1) (He.ga K "law") fd ["script"] (spLaw K G ds (k + 1)) := by
  obtain ⟨h1, h2, d, h3, h4, q, pa, bo, sc, fd, h5, h6, h7, h8⟩ := T.df _ hp
  refine ⟨fd, fun s u => (by
    have z := h8 _ _ _ hs s [u] [] rfl rfl
    rw [show d.ps = [("script" : Str)] from h4] at z
    exact z), fun base => ?_⟩
  have hps : d.ps = [("script" : Str)] := h4
  rw [← hps]
  refine h5.ok h6 (fun vs H Q E h => ?_) (fun cdv A outer s H vs Q E hr h => ?_)
  · obtain ⟨F, h⟩ := h
    rw [hps]
    exact h.1
  · obtain ⟨F, hl, us, h', μ, rh, ru, z⟩ := h
    unfold run at z
    rw [h3] at z
    dsimp only at z
    have hul : us.length = d.ps.length := by rw [ru.length, hl, hps]; rfl
    rw [if_pos hul] at z
    have c : CxtS G (run G F ds k) k (cxOf (L2.CX P w) P w K mg base d.N q sc (He.ga K "law") cdv A outer s H E) (fun c d _ H => E c d H) ⟨d.N, sc, fun _ => true⟩ := {
      c := ⟨rfl, h6.nd, rfl, rfl, hr, takes_of rfl rfl rfl rfl, T.gf, ⟨run_ok G F ds T k⟩, fun _ _ => rfl⟩
      hp := passes_of rfl
      hs := rfl
      hf := rfl
      kd := h6.kind
      gx := T.gx }
    refine ⟨_, chkB_ok G (run G F ds k) F k d.body c h7, startE d us, h', μ, ?_, rh, leave_of (by rw [rh.len]) z⟩
    exact ru.getS _ _ (by rw [ru.length])
theorem law_in {K : PySem.W.Frag} {G : Gt} {ds : List (Str × Df)} {k : Nat} {H : Hp} {a : Addr} {ns : List Int} (hO : Only H) (hS : SqL K H a (ns.map V.int)) (r : ∃ F h', run G F ds k "law" [.scr ns] [] = .ok (.d (.bool true)) h') :
    spLaw K G ds k [.ref a] H (fun v _ => v = .bl true) fun _ _ _ => False := by
  obtain ⟨F, h', e⟩ := r
  refine ⟨F, rfl, [.scr ns], [], [], ⟨rfl, List.nodup_nil, fun n o a h => by simp at h⟩, .cons (.scr ?_) .nil, ?_⟩
  · rcases hS with (h | h) | h
    · rcases hO a with z | ⟨o, xs, z⟩
      · rw [z] at h; cases h
      · rw [z] at h; cases h
    · obtain ⟨o, h⟩ := h
      exact .inl ⟨o, h, by simp⟩
    · exact .inr h
  · rw [e]
    intro H' μ' b _ _ rb
    cases rb with
    | d rb => cases rb; rfl

/-- what a call may let out, whatever the World -/
def CXw (P : Program) : CXT := fun outer H s E e s' => ∃ w : World, L2.CX P w outer H s E e s'
theorem cxw_none {P : Program} {H : Hp} {s : Shared} {e : Value} {s' : Shared} (h : CXw P [] H s (fun _ _ _ => False) e s') : False := by
  obtain ⟨w, h⟩ := h
  unfold L2.CX at h
  obtain ⟨_, _, _, _, h⟩ := h
  simp at h
theorem fnok_cx {P : Program} {w : World} {K : PySem.W.Frag} {mg : Str → Option Value} {base : Heap} {k : Nat} {f : Addr} {fd : FuncData} {ps : List Str} {sp : Sp} (F : FnOk P w K mg base (L2.CX P w) k f fd ps sp) : FnOk P w K mg base (CXw P) k f fd ps sp :=
  ⟨F.len, fun A outer s H args us vs Q E hr e0 hb r h => codeAny_mono (F.run A outer s H args us vs Q E hr e0 hb r h) fun r s' q => by
    cases r with
    | error e => exact ⟨w, q⟩
    | ok fl =>
      cases fl with
      | ret u => exact q
      | next => exact q
      | brk => exact q
      | cont => exact q⟩
theorem law_end {P : Program} {w : World} {K : PySem.W.Frag} {h : Heap} {mg : Str → Option Value} {G : Gt} {l : List Dd} {k : Nat} {fa : Addr} (X : K.In h) (N : h.Ns mainGlobals mg) (hmg : mg ("law" : Str) = some (.ref fa)) (c : He.SaysD (faOf G) (l.map fun d => mkDD d.st) K) (e1 : G.gd = gdOf l) (e2 : G.gs = gsOf l) (e3 : G.gt = [])
    (nd : (l.map fun d => stN d.st).Nodup) (ok : l.all (okD G) = true) (sh : AllSh l) (hp : (("law" : Str), [("script" : Str)]) ∈ G.gd) (hs : (("law" : Str), 1, ([] : List Str), [0]) ∈ G.gs)
    (pure_ : ∀ ns : List Int, ns.length ≤ 63 → ∃ F h', run G F (dsOf l) (k + 1) "law" [.scr ns] [] = .ok (.d (.bool true)) h') :
    ∃ (K : PySem.W.Frag) (fd : FuncData) (sp : Sp), K.In h ∧ (∀ (s : Shared) (u : Value), BindsTo s fd ⟨[u], []⟩ [(("script" : Str), u)]) ∧
      (∀ (H : Hp) (a : Addr) (ns : List Int), ns.length ≤ 63 → Only H → SqL K H a (ns.map V.int) → sp [.ref a] H (fun v _ => v = .bl true) fun _ _ _ => False) ∧
      ∀ base : Heap, K.In base → base.Ns mainGlobals mg → FnOk P w K mg base (CXw P) (k + 1) fa fd [("script" : Str)] sp := by
  have T := txt_of X N c e1 e2 e3 nd ok sh
  obtain ⟨fd, hb, hF⟩ := law_fn (P := P) (w := w) (k := k) T hp hs
  have ef : fa = He.ga K "law" := by
    have z := hmg.symm.trans (T.df _ hp).1
    cases z; rfl
  subst ef
  exact ⟨K, fd, spLaw K G (dsOf l) (k + 1), X, hb, fun H a ns hl hO hS => law_in hO hS (pure_ ns hl), fun base _ _ => fnok_cx (hF base)⟩
end Py

/-! what loops and comprehensions over known items give, in plain words -/
namespace Py
open PySem PySem.Spec PyProof.Rows L2
/-- a loop over known items -/
def forL (t : Tg) (f : En → List O → Fl) : List U → En → List O → Fl
  | [], σ, h => .nx σ h
  | u :: r, σ, h => match asg t u σ with
    | none => .bad
    | some σ => match f σ h with
      | .nx σ h => forL t f r σ h
      | .ct σ h => forL t f r σ h
      | .bk σ h => .nx σ h
      | z => z
theorem foGo_fix (t : Tg) (f : En → List O → Fl) : ∀ (us pre : List U) (σ : En) (h : List O), foGo (.fix (pre ++ us)) t f (us.length + 1) pre.length σ h = forL t f us σ h
  | [], pre, σ, h => by
    unfold foGo Src.at_ forL
    simp
  | u :: r, pre, σ, h => by
    rw [List.length_cons]
    unfold foGo forL
    have hat : Src.at_ (.fix (pre ++ u :: r)) pre.length h = some (some u) := by
      show some (pre ++ u :: r)[pre.length]? = some (some u)
      rw [List.getElem?_append_right (Nat.le_refl _), Nat.sub_self]
      rfl
    rw [hat]
    dsimp only
    have e : pre ++ u :: r = (pre ++ [u]) ++ r := by simp
    have e2 : pre.length + 1 = (pre ++ [u]).length := by simp
    cases asg t u σ with
    | none => rfl
    | some σ1 =>
      dsimp only
      rw [e, e2]
      cases f σ1 h with
      | nx s h2 => dsimp only; exact foGo_fix t f r (pre ++ [u]) s h2
      | ct s h2 => dsimp only; exact foGo_fix t f r (pre ++ [u]) s h2
      | bk s h2 => rfl
      | ret s h2 => rfl
      | er c s h2 => rfl
      | bad => rfl
theorem sFor_fix {t : Tg} {fi : En → List O → R Src} {f : En → List O → Fl} {σ : En} {h h1 : List O} {us : List U} (e : fi σ h = .ok (.fix us) h1) : sFor t fi f σ h = forL t f us σ h1 := by
  unfold sFor
  rw [e, R.stm_ok]
  exact foGo_fix t f us [] σ h1
/-- a comprehension over known items -/
def lcL (t : Tg) (vs : List Nat) (ft : En → List O → R Bool) (fe : En → List O → R U) (a0 : Nat) (σ : En) : List U → List O → R Unit
  | [], h => .ok () h
  | u :: r, h => match asg t u (wipeE σ vs) with
    | none => .bad
    | some σ1 => (noErr (ft σ1 h)).bind fun b h1 => if b = true then (noErr (fe σ1 h1)).bind fun y h2 => (pushAcc a0 y h2).bind fun _ h3 => lcL t vs ft fe a0 σ r h3 else lcL t vs ft fe a0 σ r h1
theorem lcGo_fix (t : Tg) (vs : List Nat) (ft : En → List O → R Bool) (fe : En → List O → R U) (a0 : Nat) (σ : En) : ∀ (us pre : List U) (h : List O), lcGo (.fix (pre ++ us)) t vs ft fe a0 (us.length + 1) pre.length σ h = lcL t vs ft fe a0 σ us h
  | [], pre, h => by
    unfold lcGo Src.at_ lcL
    simp
  | u :: r, pre, h => by
    rw [List.length_cons]
    unfold lcGo lcL
    have hat : Src.at_ (.fix (pre ++ u :: r)) pre.length h = some (some u) := by
      show some (pre ++ u :: r)[pre.length]? = some (some u)
      rw [List.getElem?_append_right (Nat.le_refl _), Nat.sub_self]
      rfl
    rw [hat]
    dsimp only
    have e : pre ++ u :: r = (pre ++ [u]) ++ r := by simp
    have e2 : pre.length + 1 = (pre ++ [u]).length := by simp
    cases asg t u (wipeE σ vs) with
    | none => rfl
    | some σ1 =>
      dsimp only
      rw [e, e2]
      have ih := fun h => lcGo_fix t vs ft fe a0 σ r (pre ++ [u]) h
      simp only [ih]
theorem evLc_fix {m : Bool} {t : Tg} {vs : List Nat} {fi : En → List O → R Src} {ft : En → List O → R Bool} {fe : En → List O → R U} {σ : En} {h h1 : List O} {us : List U} (e : fi σ h = .ok (.fix us) h1) :
    evLc m t vs fi ft fe σ h = (lcL t vs ft fe h1.length σ us (h1 ++ [.lst []])).bind fun _ h2 => lcFin m h1.length h2 := by
  unfold evLc
  rw [e, R.bind_ok]
  have := lcGo_fix t vs ft fe h1.length σ us [] (h1 ++ [.lst []])
  rw [List.nil_append, List.length_nil] at this
  show (lcGo (.fix us) t vs ft fe h1.length (us.length + 1) 0 σ (h1 ++ [.lst []])).bind _ = _
  rw [this]
/-- state goes through the items -/
def mapS {S : Type} (p : U → S → Bool) (g : U → S → D × S) : List U → S → List D × S
  | [], s => ([], s)
  | u :: r, s => if p u s = true then ((g u s).1 :: (mapS p g r (g u s).2).1, (mapS p g r (g u s).2).2) else mapS p g r s
theorem mapS_length {S : Type} {p : U → S → Bool} {g : U → S → D × S} : ∀ (us : List U) (s : S), (mapS p g us s).1.length ≤ us.length
  | [], s => Nat.le_refl _
  | u :: r, s => by
    unfold mapS
    split
    · exact Nat.succ_le_succ (mapS_length r _)
    · exact Nat.le_succ_of_le (mapS_length r s)
theorem lcL_state {S : Type} {emb : S → List O} {n : Nat} (hn : ∀ s, (emb s).length = n) {I : S → Prop} {t : Tg} {vs : List Nat} {ft : En → List O → R Bool} {fe : En → List O → R U} {σ : En} {p : U → S → Bool} {g : U → S → D × S} :
    ∀ (us : List U) (s : S) (acc : List D), I s → (∀ u ∈ us, ∀ s, I s → ∃ σ1, asg t u (wipeE σ vs) = some σ1 ∧ I (g u s).2 ∧ ∀ acc, ft σ1 (emb s ++ [.lst acc]) = .ok (p u s) (emb s ++ [.lst acc]) ∧ (p u s = true → fe σ1 (emb s ++ [.lst acc]) = .ok (.d (g u s).1) (emb (g u s).2 ++ [.lst acc]))) →
      acc.length + us.length ≤ 10000000 → lcL t vs ft fe n σ us (emb s ++ [.lst acc]) = .ok () (emb (mapS p g us s).2 ++ [.lst (acc ++ (mapS p g us s).1)])
  | [], s, acc, _, _, _ => by simp [lcL, mapS]
  | u :: r, s, acc, hI, hs, hl => by
    obtain ⟨σ1, e1, hI', e2⟩ := hs u List.mem_cons_self s hI
    obtain ⟨e3, e4⟩ := e2 acc
    unfold lcL mapS
    rw [e1]
    dsimp only
    rw [e3, noErr_ok, R.bind_ok]
    have hr : ∀ u ∈ r, ∀ s, I s → ∃ σ1, asg t u (wipeE σ vs) = some σ1 ∧ I (g u s).2 ∧ ∀ acc, ft σ1 (emb s ++ [.lst acc]) = .ok (p u s) (emb s ++ [.lst acc]) ∧ (p u s = true → fe σ1 (emb s ++ [.lst acc]) = .ok (.d (g u s).1) (emb (g u s).2 ++ [.lst acc])) := fun u hu => hs u (List.mem_cons_of_mem _ hu)
    rw [List.length_cons] at hl
    by_cases hp : p u s = true
    · rw [if_pos hp, if_pos hp, e4 hp, noErr_ok, R.bind_ok]
      have epush : pushAcc n (.d (g u s).1) (emb (g u s).2 ++ [.lst acc]) = .ok () (emb (g u s).2 ++ [.lst (acc ++ [(g u s).1])]) := by
        have hn' := hn (g u s).2
        unfold pushAcc
        have h1 : (emb (g u s).2 ++ [O.lst acc])[n]? = some (.lst acc) := by rw [List.getElem?_append_right (by omega), hn', Nat.sub_self]; rfl
        rw [h1]
        dsimp only [Py.settle]
        rw [if_pos (by omega), List.take_of_length_le (by simp; omega), List.set_append_right _ _ (by omega), hn', Nat.sub_self]
        rfl
      rw [epush, R.bind_ok, lcL_state hn r _ _ hI' hr (by simp; omega)]
      simp
    · rw [if_neg hp, if_neg hp, lcL_state hn r _ _ hI hr (by omega)]
theorem lcFin_app {m : Bool} {h : List O} {ys : List D} : lcFin m h.length (h ++ [.lst ys]) = mkL m ys h := by
  unfold lcFin mkL
  have h1 : (h ++ [O.lst ys])[h.length]? = some (.lst ys) := by rw [List.getElem?_append_right (Nat.le_refl _), Nat.sub_self]; rfl
  rw [h1]
  dsimp only
  rw [List.take_of_length_le (by simp), List.take_append_of_le_length (Nat.le_refl _), List.take_length]
/-- THE RULE: a comprehension with a state -/
theorem lc_state {S : Type} {emb : S → List O} {n : Nat} (hn : ∀ s, (emb s).length = n) {I : S → Prop} {m : Bool} {t : Tg} {vs : List Nat} {fi : En → List O → R Src} {ft : En → List O → R Bool} {fe : En → List O → R U} {σ : En} {h : List O} {us : List U} {s : S} (p : U → S → Bool) (g : U → S → D × S) (e : fi σ h = .ok (.fix us) (emb s)) (hI : I s)
    (hl : us.length ≤ 10000000) (hs : ∀ u ∈ us, ∀ s, I s → ∃ σ1, asg t u (wipeE σ vs) = some σ1 ∧ I (g u s).2 ∧ ∀ acc, ft σ1 (emb s ++ [.lst acc]) = .ok (p u s) (emb s ++ [.lst acc]) ∧ (p u s = true → fe σ1 (emb s ++ [.lst acc]) = .ok (.d (g u s).1) (emb (g u s).2 ++ [.lst acc]))) :
    evLc m t vs fi ft fe σ h = mkL m (mapS p g us s).1 (emb (mapS p g us s).2) := by
  rw [evLc_fix e, hn s, lcL_state hn us s [] hI hs (by simpa using hl), R.bind_ok, List.nil_append]
  have := lcFin_app (m := m) (h := emb (mapS p g us s).2) (ys := (mapS p g us s).1)
  rw [hn] at this
  exact this
theorem mapS_pure {p : U → Unit → Bool} {g : U → Unit → D × Unit} : ∀ us : List U, (mapS p g us ()).1 = (us.filter fun u => p u ()).map fun u => (g u ()).1
  | [] => rfl
  | u :: r => by
    unfold mapS
    by_cases h : p u () = true
    · rw [if_pos h, List.filter_cons_of_pos (p := fun u => p u ()) h, List.map_cons]
      rw [show (mapS p g r (g u ()).2) = mapS p g r () from rfl, mapS_pure r]
    · rw [if_neg h, List.filter_cons_of_neg (p := fun u => p u ()) h, mapS_pure r]
/-- THE RULE: a comprehension whose parts leave the heap alone -/
theorem lc_pure {m : Bool} {t : Tg} {vs : List Nat} {fi : En → List O → R Src} {ft : En → List O → R Bool} {fe : En → List O → R U} {σ : En} {h h1 : List O} {us : List U} (p : U → Bool) (g : U → D) (e : fi σ h = .ok (.fix us) h1)
    (hl : us.length ≤ 10000000) (hs : ∀ u ∈ us, ∃ σ1, asg t u (wipeE σ vs) = some σ1 ∧ ∀ acc, ft σ1 (h1 ++ [.lst acc]) = .ok (p u) (h1 ++ [.lst acc]) ∧ (p u = true → fe σ1 (h1 ++ [.lst acc]) = .ok (.d (g u)) (h1 ++ [.lst acc]))) :
    evLc m t vs fi ft fe σ h = mkL m ((us.filter p).map g) h1 := by
  have := lc_state (S := Unit) (emb := fun _ => h1) (n := h1.length) (fun _ => rfl) (I := fun _ => True) (m := m) (t := t) (vs := vs) (fi := fi) (ft := ft) (fe := fe) (σ := σ) (h := h) (us := us) (s := ()) (fun u _ => p u) (fun u _ => (g u, ())) e trivial hl
    (fun u hu s _ => by
      obtain ⟨σ1, a, b⟩ := hs u hu
      exact ⟨σ1, a, trivial, b⟩)
  rw [this, mapS_pure]
/-- .. with no test -/
theorem lc_map {m : Bool} {t : Tg} {vs : List Nat} {fi : En → List O → R Src} {fe : En → List O → R U} {σ : En} {h h1 : List O} {us : List U} (g : U → D) (e : fi σ h = .ok (.fix us) h1)
    (hl : us.length ≤ 10000000) (hs : ∀ u ∈ us, ∃ σ1, asg t u (wipeE σ vs) = some σ1 ∧ ∀ acc, fe σ1 (h1 ++ [.lst acc]) = .ok (.d (g u)) (h1 ++ [.lst acc])) :
    evLc m t vs fi (fun _ h => .ok true h) fe σ h = mkL m (us.map g) h1 := by
  rw [lc_pure (fun _ => true) g e hl (fun u hu => by
    obtain ⟨σ1, a, b⟩ := hs u hu
    exact ⟨σ1, a, fun acc => ⟨rfl, fun _ => b acc⟩⟩)]
  rw [List.filter_eq_self.mpr (fun _ _ => rfl)]
end Py
namespace Py
open PySem PySem.Spec PyProof.Rows L2
section
variable {f f1 f2 f3 f4 f5 : En → List O → R U} {C : List U → List O → R U} {σ : En} {h : List O}
theorem evCl_0 : evCl 0 0 [] evNil evNil C σ h = C [] h := rfl
theorem evCl_1 : evCl 1 0 [0] (evCons f evNil) evNil C σ h = (f σ h).bind fun u h => C [u] h := by
  unfold evCl evCons evNil
  cases f σ h <;> rfl
theorem evCl_2 : evCl 2 0 [0, 1] (evCons f (evCons f2 evNil)) evNil C σ h = (f σ h).bind fun u h => (f2 σ h).bind fun u2 h => C [u, u2] h := by
  unfold evCl evCons evNil
  cases f σ h with
  | ok a h => dsimp only [R.bind_ok]; cases f2 σ h <;> rfl
  | err c h => rfl
  | bad => rfl
theorem evCl_3 : evCl 3 0 [0, 1, 2] (evCons f (evCons f2 (evCons f3 evNil))) evNil C σ h = (f σ h).bind fun u h => (f2 σ h).bind fun u2 h => (f3 σ h).bind fun u3 h => C [u, u2, u3] h := by
  unfold evCl evCons evNil
  cases f σ h with
  | ok a h =>
    dsimp only [R.bind_ok]
    cases f2 σ h with
    | ok b h => dsimp only [R.bind_ok]; cases f3 σ h <;> rfl
    | err c h => rfl
    | bad => rfl
  | err c h => rfl
  | bad => rfl
theorem evCl_4 : evCl 4 0 [0, 1, 2, 3] (evCons f (evCons f2 (evCons f3 (evCons f4 evNil)))) evNil C σ h = (f σ h).bind fun u h => (f2 σ h).bind fun u2 h => (f3 σ h).bind fun u3 h => (f4 σ h).bind fun u4 h => C [u, u2, u3, u4] h := by
  unfold evCl evCons evNil
  cases f σ h with
  | ok a h =>
    dsimp only [R.bind_ok]
    cases f2 σ h with
    | ok b h =>
      dsimp only [R.bind_ok]
      cases f3 σ h with
      | ok b h => dsimp only [R.bind_ok]; cases f4 σ h <;> rfl
      | err c h => rfl
      | bad => rfl
    | err c h => rfl
    | bad => rfl
  | err c h => rfl
  | bad => rfl
/-- one keyword -/
theorem evCl_k : evCl 0 1 [0] evNil (evCons f evNil) C σ h = (f σ h).bind fun u h => C [u] h := by
  unfold evCl evCons evNil
  rw [R.bind_ok]
  cases f σ h <;> rfl
end
theorem leave_d {d : D} {h : List O} : leave false h.length (.ret (.d d) h) = .ok (.d d) h := by
  show R.ok (U.d d) (h.take h.length) = _
  rw [List.take_length]
theorem leave_n {σ : En} {h : List O} : leave false h.length (.nx σ h) = .ok (.d .none) h := by
  show R.ok (U.d .none) (h.take h.length) = _
  rw [List.take_length]
theorem leave_e {c : Str} {σ : En} {h : List O} : leave false h.length (.er c σ h) = .err c h := by
  show R.err c (h.take h.length) = _
  rw [List.take_length]
/-- a value made in a def with n objects around it -/
theorem leave_da {d : D} {h r : List O} : leave false h.length (.ret (.d d) (h ++ r)) = .ok (.d d) h := by
  show R.ok (U.d d) ((h ++ r).take h.length) = _
  rw [List.take_append_of_le_length (Nat.le_refl _), List.take_length]
theorem mkL_f {xs : List D} {h : List O} : mkL false xs h = .ok (.d (.list xs)) h := rfl
theorem mkL_t {xs : List D} {h : List O} : mkL true xs h = .ok (.lab h.length) (h ++ [.lst xs]) := rfl
theorem bind_stm {α β : Type} (r : R α) (g : α → List O → R β) (σ : En) (f : β → List O → Fl) : (r.bind g).stm σ f = r.stm σ fun a h => (g a h).stm σ f := by
  cases r <;> rfl
theorem bind_bind {α β γ : Type} (r : R α) (g : α → List O → R β) (f : β → List O → R γ) : (r.bind g).bind f = r.bind fun a h => (g a h).bind f := by
  cases r <;> rfl
end Py
namespace Py
open PySem PySem.Spec PyProof.Rows L2
section
variable {G : Gt} {C : Str → List U → List O → R U} {m : Bool} {t : Tg} {w : Wk} {c e : Ex} {σ : En} {h h1 : List O} {us : List U}
theorem ev_lc (g : U → D) (q : evw G C w σ h = .ok (.fix us) h1) (hl : us.length ≤ 10000000) (hs : ∀ u ∈ us, ∃ σ1, asg t u (wipeE σ t.slots) = some σ1 ∧ ∀ acc, ev G C e σ1 (h1 ++ [.lst acc]) = .ok (.d (g u)) (h1 ++ [.lst acc])) :
    ev G C (.lc m t w .no e) σ h = mkL m (us.map g) h1 := lc_map g q hl hs
theorem ev_lcp (p : U → Bool) (g : U → D) (q : evw G C w σ h = .ok (.fix us) h1) (hl : us.length ≤ 10000000)
    (hs : ∀ u ∈ us, ∃ σ1, asg t u (wipeE σ t.slots) = some σ1 ∧ ∀ acc, tv G C c σ1 (h1 ++ [.lst acc]) = .ok (p u) (h1 ++ [.lst acc]) ∧ (p u = true → ev G C e σ1 (h1 ++ [.lst acc]) = .ok (.d (g u)) (h1 ++ [.lst acc]))) :
    ev G C (.lc m t w (.yes c) e) σ h = mkL m ((us.filter p).map g) h1 := lc_pure p g q hl hs
/-- over data -/
theorem ev_lcD (xs : List D) (g : D → D) (q : evw G C w σ h = .ok (.fix (xs.map .d)) h1) (hl : xs.length ≤ 10000000) (hs : ∀ x ∈ xs, ∃ σ1, asg t (.d x) (wipeE σ t.slots) = some σ1 ∧ ∀ acc, ev G C e σ1 (h1 ++ [.lst acc]) = .ok (.d (g x)) (h1 ++ [.lst acc])) :
    ev G C (.lc m t w .no e) σ h = mkL m (xs.map g) h1 := by
  rw [ev_lc (fun u => match u with | .d x => g x | _ => .none) q (by simpa using hl) (fun u hu => by
    obtain ⟨x, hx, rfl⟩ := List.mem_map.mp hu
    exact hs x hx), List.map_map]
  rfl
theorem ev_lcpD (xs : List D) (p : D → Bool) (g : D → D) (q : evw G C w σ h = .ok (.fix (xs.map .d)) h1) (hl : xs.length ≤ 10000000)
    (hs : ∀ x ∈ xs, ∃ σ1, asg t (.d x) (wipeE σ t.slots) = some σ1 ∧ ∀ acc, tv G C c σ1 (h1 ++ [.lst acc]) = .ok (p x) (h1 ++ [.lst acc]) ∧ (p x = true → ev G C e σ1 (h1 ++ [.lst acc]) = .ok (.d (g x)) (h1 ++ [.lst acc]))) :
    ev G C (.lc m t w (.yes c) e) σ h = mkL m ((xs.filter p).map g) h1 := by
  rw [ev_lcp (fun u => match u with | .d x => p x | _ => false) (fun u => match u with | .d x => g x | _ => .none) q (by simpa using hl) (fun u hu => by
    obtain ⟨x, hx, rfl⟩ := List.mem_map.mp hu
    exact hs x hx), List.filter_map, List.map_map]
  rfl
theorem boolsOf_map' {α : Type} (g : α → Bool) (l : List α) : boolsOf (l.map fun x => PyData.bool (g x)) = some (l.map g) := by
  have := boolsOf_map (l.map g)
  rw [List.map_map] at this
  exact this
theorem intsOf_map' {α : Type} (g : α → Int) (l : List α) : intsOf (l.map fun x => PyData.int (g x)) = some (l.map g) := by
  have := intsOf_map (l.map g)
  rw [List.map_map] at this
  exact this
theorem allU_map {α : Type} (g : α → Bool) (l : List α) : allU (.d (.list (l.map fun x => PyData.bool (g x)))) h = .ok (.d (.bool (l.all g))) h := by
  unfold allU Py.listOf
  simp only [Option.bind_some, boolsOf_map', opt_some, R.bind_ok]
  simp [List.all_map]
theorem anyU_map {α : Type} (g : α → Bool) (l : List α) : anyU (.d (.list (l.map fun x => PyData.bool (g x)))) h = .ok (.d (.bool (l.any g))) h := by
  unfold anyU Py.listOf
  simp only [Option.bind_some, boolsOf_map', opt_some, R.bind_ok]
  simp [List.any_map]
theorem sumU_map {α : Type} (g : α → Int) (l : List α) : sumU (.d (.list (l.map fun x => PyData.int (g x)))) h = .ok (.d (.int (l.map g).sum)) h := by
  unfold sumU Py.listOf
  simp only [Option.bind_some, intsOf_map', opt_some, R.bind_ok]
end
end Py
namespace Py
open PySem PySem.Spec PyProof.Rows L2
/-- THE RULE: a loop with an invariant -/
theorem forL_inv {t : Tg} {f : En → List O → Fl} (I : List U → En → List O → Prop) : ∀ (us pre : List U) (σ : En) (h : List O), I pre σ h →
    (∀ pre' u r, pre ++ us = pre' ++ u :: r → ∀ σ h, I pre' σ h → ∃ σ1 σ2 h2, asg t u σ = some σ1 ∧ f σ1 h = .nx σ2 h2 ∧ I (pre' ++ [u]) σ2 h2) → ∃ σ' h', forL t f us σ h = .nx σ' h' ∧ I (pre ++ us) σ' h'
  | [], pre, σ, h, hI, _ => ⟨σ, h, rfl, by simpa using hI⟩
  | u :: r, pre, σ, h, hI, hs => by
    obtain ⟨σ1, σ2, h2, e1, e2, hI2⟩ := hs pre u r rfl σ h hI
    obtain ⟨σ', h', e3, hI3⟩ := forL_inv I r (pre ++ [u]) σ2 h2 hI2 (by simpa using hs)
    refine ⟨σ', h', ?_, by simpa using hI3⟩
    unfold forL
    rw [e1]
    dsimp only
    rw [e2]
    exact e3
theorem for_inv {G : Gt} {C : Str → List U → List O → R U} {F : Nat} {t : Tg} {w : Wk} {b : Ss} {σ : En} {h h1 : List O} {us : List U} (I : List U → En → List O → Prop) (q : evw G C w σ h = .ok (.fix us) h1) (h0 : I [] σ h1)
    (hs : ∀ pre u r, us = pre ++ u :: r → ∀ σ h, I pre σ h → ∃ σ1 σ2 h2, asg t u σ = some σ1 ∧ exs G C F b σ1 h = .nx σ2 h2 ∧ I (pre ++ [u]) σ2 h2) : ∃ σ' h', ex G C F (.fo t w b) σ h = .nx σ' h' ∧ I us σ' h' := by
  obtain ⟨σ', h', e, hI⟩ := forL_inv I us [] σ h1 h0 (by simpa using hs)
  exact ⟨σ', h', by rw [← e]; exact sFor_fix q, by simpa using hI⟩
theorem rngL_map (n : Nat) : rngL 0 1 n = (List.range n).map fun (i : Nat) => U.d (.int i) := by
  unfold rngL
  apply List.map_congr_left
  intro a _
  simp
end Py
namespace Py
open PySem PySem.Spec PyProof.Rows L2
def mapE (g : Nat → D → D) : Nat → List D → List D
  | _, [] => []
  | k, x :: r => g k x :: mapE g (k + 1) r
def unE (g : Nat → D → D) (u : U) : D := match u with
  | .d (.tuple [.int j, x]) => g j.toNat x
  | _ => .none
theorem enuL_map (g : Nat → D → D) : ∀ (xs : List D) (k : Nat), (enuL k xs).map (unE g) = mapE g k xs
  | [], _ => rfl
  | x :: r, k => by
    rw [enuL, List.map_cons, enuL_map g r (k + 1)]
    rfl
theorem enuL_length : ∀ (xs : List D) (k : Nat), (enuL k xs).length = xs.length
  | [], _ => rfl
  | x :: r, k => by rw [enuL, List.length_cons, List.length_cons, enuL_length r]
/-- a comprehension over enumerate(..) -/
theorem ev_lcE {G : Gt} {C : Str → List U → List O → R U} {m : Bool} {t : Tg} {w : Wk} {e : Ex} {σ : En} {h h1 : List O} (xs : List D) (g : Nat → D → D) (q : evw G C w σ h = .ok (.fix (enuL 0 xs)) h1) (hl : xs.length ≤ 10000000)
    (hs : ∀ (j : Nat) (x : D), xs[j]? = some x → ∃ σ1, asg t (.d (.tuple [.int j, x])) (wipeE σ t.slots) = some σ1 ∧ ∀ acc, ev G C e σ1 (h1 ++ [.lst acc]) = .ok (.d (g j x)) (h1 ++ [.lst acc])) :
    ev G C (.lc m t w .no e) σ h = mkL m (mapE g 0 xs) h1 := by
  rw [ev_lc (unE g) q (by rw [enuL_length]; exact hl) (fun u hu => ?_), enuL_map]
  obtain ⟨j, hj⟩ := List.getElem?_of_mem hu
  rw [enuL_get] at hj
  cases hx : xs[j]? with
  | none => rw [hx] at hj; cases hj
  | some x =>
    rw [hx] at hj
    cases hj
    rw [Nat.zero_add]
    exact hs j x hx
end Py
namespace Py
open PySem PySem.Spec PyProof.Rows L2
theorem lcL_ex {I : List U → List D → List O → Prop} {n : Nat} (hn : ∀ pre ys hh, I pre ys hh → hh.length = n) {t : Tg} {vs : List Nat} {fe : En → List O → R U} {σ : En} : ∀ (us pre : List U) (ys : List D) (hh : List O), I pre ys hh →
    (∀ pre' u r ys hh, pre ++ us = pre' ++ u :: r → I pre' ys hh → ∃ σ1 y hh', asg t u (wipeE σ vs) = some σ1 ∧ I (pre' ++ [u]) (ys ++ [y]) hh' ∧ ∀ acc, fe σ1 (hh ++ [.lst acc]) = .ok (.d y) (hh' ++ [.lst acc])) → ys.length + us.length ≤ 10000000 →
    ∃ zs hh', lcL t vs (fun _ h => .ok true h) fe n σ us (hh ++ [.lst ys]) = .ok () (hh' ++ [.lst zs]) ∧ I (pre ++ us) zs hh' ∧ zs.length = ys.length + us.length
  | [], pre, ys, hh, hI, _, _ => ⟨ys, hh, rfl, by simpa using hI, by simp⟩
  | u :: r, pre, ys, hh, hI, hs, hl => by
    obtain ⟨σ1, y, hh2, e1, hI2, e2⟩ := hs pre u r ys hh rfl hI
    rw [List.length_cons] at hl
    obtain ⟨zs, hh', e3, hI3, hz⟩ := lcL_ex hn r (pre ++ [u]) (ys ++ [y]) hh2 hI2 (by simpa using hs) (by simp; omega)
    refine ⟨zs, hh', ?_, by simpa using hI3, by rw [hz]; simp; omega⟩
    have hn' := hn _ _ _ hI2
    have epush : pushAcc n (.d y) (hh2 ++ [.lst ys]) = .ok () (hh2 ++ [.lst (ys ++ [y])]) := by
      unfold pushAcc
      have h1 : (hh2 ++ [O.lst ys])[n]? = some (.lst ys) := by rw [List.getElem?_append_right (by omega), hn', Nat.sub_self]; rfl
      rw [h1]
      dsimp only [Py.settle]
      rw [if_pos (by omega), List.take_of_length_le (by simp; omega), List.set_append_right _ _ (by omega), hn', Nat.sub_self]
      rfl
    unfold lcL
    rw [e1]
    dsimp only
    rw [noErr_ok, R.bind_ok, if_pos rfl, e2, noErr_ok, R.bind_ok, epush, R.bind_ok]
    exact e3
/-- THE RULE: a comprehension that changes objects, with an invariant -/
theorem ev_lcI {G : Gt} {C : Str → List U → List O → R U} {m : Bool} {t : Tg} {w : Wk} {e : Ex} {σ : En} {h h1 : List O} {us : List U} (I : List U → List D → List O → Prop) (hn : ∀ pre ys hh, I pre ys hh → hh.length = h1.length) (q : evw G C w σ h = .ok (.fix us) h1) (h0 : I [] [] h1)
    (hs : ∀ pre u r ys hh, us = pre ++ u :: r → I pre ys hh → ∃ σ1 y hh', asg t u (wipeE σ t.slots) = some σ1 ∧ I (pre ++ [u]) (ys ++ [y]) hh' ∧ ∀ acc, ev G C e σ1 (hh ++ [.lst acc]) = .ok (.d y) (hh' ++ [.lst acc])) (hl : us.length ≤ 10000000) :
    ∃ ys hh', ev G C (.lc m t w .no e) σ h = mkL m ys hh' ∧ I us ys hh' ∧ ys.length = us.length := by
  obtain ⟨zs, hh', e1, hI, hz⟩ := lcL_ex (t := t) (vs := t.slots) (fe := ev G C e) (σ := σ) hn us [] [] h1 h0 (by simpa using hs) (by simpa using hl)
  refine ⟨zs, hh', ?_, by simpa using hI, by simpa using hz⟩
  show evLc m t t.slots (evw G C w) (fun _ h => .ok true h) (ev G C e) σ h = _
  rw [evLc_fix q, e1, R.bind_ok]
  have hk := hn _ _ _ hI
  rw [← hk]
  exact lcFin_app
end Py

namespace K29
open PySem PySem.Spec PyProof.Rows L2 Py
def top (i : Nat) : Stmt := PySem.Challenge.pw_wholesworn_k29_words_of_rows.main.body.getD i (.Pass ⟨0, 0, 0, 0⟩)
def b_is_int : Ss :=
 (.cons (.ret (.and (.bi .isi false (.cons (.var 0) (.cons (.ty "int" "int") .nil))) (.one (.not (.bi .isi false (.cons (.var 0) (.cons (.ty "bool" "bool") .nil)))))))
 .nil)
def d_is_int : Df := ⟨["thing"], ["thing"], false, b_is_int⟩
def b_within : Ss :=
 (.cons (.ret (.and (.call "is_int" [0] (.cons (.var 0) .nil) .nil) (.one (.chn .le .le (.var 1) (.var 0) (.var 2)))))
 .nil)
def d_within : Df := ⟨["thing", "low", "high"], ["thing", "low", "high"], false, b_within⟩
def c_are_ints_0 : Ex := .lc false (.nm 1) (.seq (.var 0)) .no (.call "is_int" [0] (.cons (.var 1) .nil) .nil)
def b_are_ints : Ss :=
 (.cons (.ret (.and (.bi .isi false (.cons (.var 0) (.cons (.ty "tuple" "tuple") .nil))) (.one (.bi .all false (.cons c_are_ints_0 .nil)))))
 .nil)
def d_are_ints : Df := ⟨["thing"], ["thing", "entry"], false, b_are_ints⟩
def b_need_many : Ss :=
 (.cons (.ife (.not (.call "within" [0, 1, 2] (.cons (.var 0) (.cons (.int 0) (.cons (.gint "MOST_TRACKS" (5)) .nil))) .nil)) (.cons (.rais "BadMany")
 .nil) .nil)
 .nil)
def d_need_many : Df := ⟨["many"], ["many"], false, b_need_many⟩
def c_is_word_of_0 : Ex := .lc false (.nm 2) (.seq (.var 1)) .no (.call "within" [0, 1, 2] (.cons (.var 2) (.cons (.int 0) (.cons (.bin .sub false (.bin .shl false (.int 1) (.var 0)) (.int 1)) .nil))) .nil)
def b_is_word_of : Ss :=
 (.cons (.ret (.and (.bi .isi false (.cons (.var 1) (.cons (.ty "tuple" "tuple") .nil))) (.and (.cmp .ne (.var 1) (.tup .nil)) (.one (.bi .all false (.cons c_is_word_of_0 .nil))))))
 .nil)
def d_is_word_of : Df := ⟨["many", "thing"], ["many", "thing", "column"], false, b_is_word_of⟩
def b_digit : Ss :=
 (.cons (.ret (.bin .band false (.bin .shr false (.var 0) (.var 1)) (.int 1)))
 .nil)
def d_digit : Df := ⟨["column", "track"], ["column", "track"], false, b_digit⟩
def b_width_of_number : Ss :=
 (.cons (.ret (.bin .add false (.bits (.ife (.cmp .ge (.var 0) (.int 0)) (.var 0) (.bin .sub false (.neg (.var 0)) (.int 1)))) (.int 1)))
 .nil)
def d_width_of_number : Df := ⟨["number"], ["number"], false, b_width_of_number⟩
def c_width_in_0 : Ex := .lc false (.nm 1) (.seq (.var 0)) .no (.call "width_of_number" [0] (.cons (.var 1) .nil) .nil)
def b_width_in : Ss :=
 (.cons (.ret (.mxd c_width_in_0 (.int 1)))
 .nil)
def d_width_in : Df := ⟨["row"], ["row", "number"], false, b_width_in⟩
def c_word_in_0 : Ex := .lc false (.tup (.cons (.nm 3) (.cons (.nm 4) .nil))) (.enu (.cons (.var 0) .nil)) .no (.bin .shl false (.bin .band false (.bin .shr false (.var 4) (.var 2)) (.int 1)) (.var 3))
def l_word_in_0 : Ss := (.cons (.drop (.me .append (.var 1) (.cons (.bi .sum false (.cons c_word_in_0 .nil)) .nil)))
 .nil)
def f_word_in_0 : Sm := .fo (.nm 2) (.rng (.cons (.call "width_in" [0] (.cons (.var 0) .nil) .nil) .nil)) l_word_in_0
def b_word_in : Ss :=
 (.cons (.set 1 (.lst true .nil))
 (.cons f_word_in_0
 (.cons (.ret (.bi .tuple false (.cons (.var 1) .nil)))
 .nil)))
def d_word_in : Df := ⟨["row"], ["row", "found", "place", "track", "number"], false, b_word_in⟩
def c_row_in_0 : Ex := .lc false (.tup (.cons (.nm 7) (.cons (.nm 8) .nil))) (.enu (.cons (.sl false (.var 4) .no (.yes (.neg (.int 1)))) .nil)) .no (.bin .shl false (.var 8) (.var 7))
def s_row_in_0 : Sm := .slc 4 false (.nm 6) (.seq (.var 1)) .no (.call "digit" [0, 1] (.cons (.var 6) (.cons (.var 3) .nil)) .nil)
def l_row_in_0 : Ss := (.cons s_row_in_0
 (.cons (.set 5 (.bin .sub false (.bi .len false (.cons (.var 1) .nil)) (.int 1)))
 (.cons (.drop (.me .append (.var 2) (.cons (.bin .sub false (.bi .sum false (.cons c_row_in_0 .nil)) (.bin .shl false (.ix (.var 4) (.neg (.int 1))) (.var 5))) .nil)))
 .nil)))
def f_row_in_0 : Sm := .fo (.nm 3) (.rng (.cons (.var 0) .nil)) l_row_in_0
def b_row_in : Ss :=
 (.cons (.set 2 (.lst true .nil))
 (.cons f_row_in_0
 (.cons (.ret (.bi .tuple false (.cons (.var 2) .nil)))
 .nil)))
def d_row_in : Df := ⟨["many", "word"], ["many", "word", "found", "track", "digits", "last", "column", "place", "one"], false, b_row_in⟩
def b_need_few : Ss :=
 (.cons (.ife (.or (.not (.call "are_ints" [0] (.cons (.var 0) .nil) .nil)) (.one (.cmp .gt (.bi .len false (.cons (.var 0) .nil)) (.gint "MOST_TRACKS" (5))))) (.cons (.rais "BadRow")
 .nil) .nil)
 .nil)
def d_need_few : Df := ⟨["row"], ["row"], false, b_need_few⟩
def b_word_of : Ss :=
 (.cons (.drop (.call "need_few" [0] (.cons (.var 0) .nil) .nil))
 (.cons (.ret (.call "word_in" [0] (.cons (.var 0) .nil) .nil))
 .nil))
def d_word_of : Df := ⟨["row"], ["row"], false, b_word_of⟩
def b_width : Ss :=
 (.cons (.drop (.call "need_few" [0] (.cons (.var 0) .nil) .nil))
 (.cons (.ret (.call "width_in" [0] (.cons (.var 0) .nil) .nil))
 .nil))
def d_width : Df := ⟨["row"], ["row"], false, b_width⟩
def b_row_of : Ss :=
 (.cons (.drop (.call "need_many" [0] (.cons (.var 0) .nil) .nil))
 (.cons (.ife (.not (.call "is_word_of" [0, 1] (.cons (.var 0) (.cons (.var 1) .nil)) .nil)) (.cons (.rais "BadWord")
 .nil) .nil)
 (.cons (.ret (.call "row_in" [0, 1] (.cons (.var 0) (.cons (.var 1) .nil)) .nil))
 .nil)))
def d_row_of : Df := ⟨["many", "word"], ["many", "word"], false, b_row_of⟩
def b__law_bag : Ss :=
 (.cons (.ret (.lst true (.cons (.bi .list false (.cons (.var 0) .nil)) (.cons (.int 0) (.cons (.int 0) (.cons (.int 7) .nil))))))
 .nil)
def d__law_bag : Df := ⟨["script"], ["script"], true, b__law_bag⟩
def b__law_pick : Ss :=
 (.cons (.ife (.cmp .lt (.ix (.var 0) (.int 2)) (.var 1)) (.cons (.set 3 (.ix (.var 0) (.int 1)))
 (.cons (.set 4 (.ife (.cmp .lt (.var 3) (.bi .len false (.cons (.ix (.var 0) (.int 0)) .nil))) (.ix (.ix (.var 0) (.int 0)) (.var 3)) (.bin .add false (.bin .fdiv false (.ix (.var 0) (.int 3)) (.int 3)) (.bin .mul false (.int 77003) (.var 3)))))
 (.cons (.set 4 (.ife (.cmp .ge (.var 4) (.int 0)) (.bin .mul false (.int 2) (.var 4)) (.bin .sub false (.bin .mul false (.neg (.int 2)) (.var 4)) (.int 1))))
 (.cons (.ife (.cmp .lt (.var 4) (.bin .pow false (.int 10) (.int 18))) (.cons (.set 4 (.bin .mul false (.bin .add false (.bin .add false (.bin .mul false (.var 4) (.int 1103515249)) (.bin .mul false (.int 12820163) (.var 3))) (.int 2147480009)) (.bin .add false (.bin .add false (.var 4) (.int 86028157)) (.var 3))))
 (.cons (.set 4 (.bin .add false (.bin .fdiv false (.bin .mul false (.var 4) (.var 4)) (.int 4093)) (.bin .mul false (.var 4) (.int 6700417))))
 .nil)) .nil)
 (.cons (.sub (.var 0) (.int 1) (.bin .add false (.var 3) (.int 1)))
 (.cons (.sub (.var 0) (.int 2) (.var 4))
 (.cons (.sub (.var 0) (.int 3) (.bin .mod false (.bi .int false (.cons (.bin .add false (.bin .mul false (.ix (.var 0) (.int 3)) (.int 40692)) (.var 4)) .nil)) (.int 2305843009213693951)))
 .nil))))))) .nil)
 (.cons (.set 2 (.bin .mod false (.bi .int false (.cons (.ix (.var 0) (.int 2)) .nil)) (.var 1)))
 (.cons (.sub (.var 0) (.int 2) (.bin .fdiv false (.ix (.var 0) (.int 2)) (.var 1)))
 (.cons (.ret (.var 2))
 .nil))))
def d__law_pick : Df := ⟨["bag", "many"], ["bag", "many", "got", "at", "cell"], false, b__law_pick⟩
def c__law_same_0 : Ex := .lc false (.nm 2) (.rng (.cons (.bi .len false (.cons (.var 1) .nil)) .nil)) (.yes (.not (.call "_law_same" [0, 1] (.cons (.ix (.var 0) (.var 2)) (.cons (.ix (.var 1) (.var 2)) .nil)) .nil))) (.var 2)
def b__law_same : Ss :=
 (.cons (.ife (.bi .isi false (.cons (.var 1) (.cons (.ty "tuple" "tuple") .nil))) (.cons (.ife (.or (.not (.bi .isi false (.cons (.var 0) (.cons (.ty "tuple" "tuple") .nil)))) (.one (.cmp .ne (.bi .len false (.cons (.var 0) .nil)) (.bi .len false (.cons (.var 1) .nil))))) (.cons (.ret (.bl false))
 .nil) .nil)
 (.cons (.ret (.cmp .eq c__law_same_0 (.lst false .nil)))
 .nil)) .nil)
 (.cons (.ife (.or (.bi .isi false (.cons (.var 0) (.cons (.ty "tuple" "tuple") .nil))) (.one (.cmp .ne (.bi .isi false (.cons (.var 0) (.cons (.ty "bool" "bool") .nil))) (.bi .isi false (.cons (.var 1) (.cons (.ty "bool" "bool") .nil)))))) (.cons (.ret (.bl false))
 .nil) .nil)
 (.cons (.ret (.and (.cmp .eq (.bi .isi false (.cons (.var 0) (.cons (.ty "str" "str") .nil))) (.bi .isi false (.cons (.var 1) (.cons (.ty "str" "str") .nil)))) (.and (.cmp .eq (.cmp .is_ (.var 0) .non) (.cmp .is_ (.var 1) .non)) (.one (.cmp .eq (.var 0) (.var 1))))))
 .nil)))
def d__law_same : Df := ⟨["found", "due"], ["found", "due", "k"], false, b__law_same⟩
def l__law_power_0 : Ss := (.cons (.set 1 (.bin .mul false (.var 1) (.int 2)))
 .nil)
def f__law_power_0 : Sm := .fo (.nm 2) (.rng (.cons (.var 0) .nil)) l__law_power_0
def b__law_power : Ss :=
 (.cons (.set 1 (.int 1))
 (.cons f__law_power_0
 (.cons (.ret (.var 1))
 .nil)))
def d__law_power : Df := ⟨["k"], ["k", "found", "turn"], false, b__law_power⟩
def l__law_word_of_0 : Ss := (.cons (.set 4 (.bin .add false (.var 4) (.bin .mul false (.bin .mod false (.bi .int false (.cons (.bin .fdiv false (.ix (.var 0) (.var 5)) (.call "_law_power" [0] (.cons (.var 3) .nil) .nil)) .nil)) (.int 2)) (.call "_law_power" [0] (.cons (.var 5) .nil) .nil))))
 .nil)
def f__law_word_of_0 : Sm := .fo (.nm 5) (.rng (.cons (.bi .len false (.cons (.var 0) .nil)) .nil)) l__law_word_of_0
def l__law_word_of_1 : Ss := (.cons (.set 4 (.int 0))
 (.cons f__law_word_of_0
 (.cons (.drop (.me .append (.var 2) (.cons (.var 4) .nil)))
 .nil)))
def f__law_word_of_1 : Sm := .fo (.nm 3) (.rng (.cons (.var 1) .nil)) l__law_word_of_1
def c__law_word_of_0 : Ex := .lc false (.nm 6) (.seq (.var 0)) (.yes (.not (.chn .le .lt (.neg (.call "_law_power" [0] (.cons (.bin .sub false (.var 1) (.int 1)) .nil) .nil)) (.var 6) (.call "_law_power" [0] (.cons (.bin .sub false (.var 1) (.int 1)) .nil) .nil)))) (.var 6)
def l__law_word_of_2 : Ss := (.cons (.set 1 (.bin .add false (.var 1) (.int 1)))
 .nil)
def f__law_word_of_2 : Sm := .wh (.cmp .ne c__law_word_of_0 (.lst false .nil)) l__law_word_of_2
def b__law_word_of : Ss :=
 (.cons (.set 1 (.int 1))
 (.cons f__law_word_of_2
 (.cons (.set 2 (.lst true .nil))
 (.cons f__law_word_of_1
 (.cons (.ret (.bi .tuple false (.cons (.var 2) .nil)))
 .nil)))))
def d__law_word_of : Df := ⟨["row"], ["row", "columns", "found", "k", "column", "i", "number"], false, b__law_word_of⟩
def l__law_row_of_0 : Ss := (.cons (.set 5 (.bin .mod false (.bi .int false (.cons (.bin .fdiv false (.ix (.var 1) (.var 4)) (.call "_law_power" [0] (.cons (.var 3) .nil) .nil)) .nil)) (.int 2)))
 (.cons (.sub (.var 2) (.var 3) (.bin .add false (.ix (.var 2) (.var 3)) (.bin .mul false (.ife (.cmp .eq (.var 4) (.bin .sub false (.bi .len false (.cons (.var 1) .nil)) (.int 1))) (.neg (.var 5)) (.var 5)) (.call "_law_power" [0] (.cons (.var 4) .nil) .nil))))
 .nil))
def f__law_row_of_0 : Sm := .fo (.nm 4) (.rng (.cons (.bi .len false (.cons (.var 1) .nil)) .nil)) l__law_row_of_0
def l__law_row_of_1 : Ss := (.cons f__law_row_of_0
 .nil)
def f__law_row_of_1 : Sm := .fo (.nm 3) (.rng (.cons (.var 0) .nil)) l__law_row_of_1
def b__law_row_of : Ss :=
 (.cons (.set 2 (.bin .mul true (.lst false (.cons (.int 0) .nil)) (.var 0)))
 (.cons f__law_row_of_1
 (.cons (.ret (.bi .tuple false (.cons (.var 2) .nil)))
 .nil)))
def d__law_row_of : Df := ⟨["many", "word"], ["many", "word", "found", "i", "k", "digit_v"], false, b__law_row_of⟩
def b__law_error : Ss :=
 (.cons (.set 3 (.str "told"))
 (.cons (.tr (.cons (.ife (.cmp .eq (.var 0) (.int 0)) (.cons (.drop (.call "word_of" [0] (.cons (.var 1) .nil) .nil))
 .nil) (.cons (.ife (.cmp .eq (.var 0) (.int 1)) (.cons (.drop (.call "width" [0] (.cons (.var 1) .nil) .nil))
 .nil) (.cons (.drop (.call "row_of" [0, 1] (.cons (.var 1) (.cons (.var 2) .nil)) .nil))
 .nil))
 .nil))
 .nil) (.cons "BadRow" (.cons (.set 3 (.str "row"))
 .nil) (.cons "BadMany" (.cons (.set 3 (.str "many"))
 .nil) (.cons "BadWord" (.cons (.set 3 (.str "word"))
 .nil) .nil))))
 (.cons (.ret (.var 3))
 .nil)))
def d__law_error : Df := ⟨["which", "one", "two"], ["which", "one", "two", "found"], false, b__law_error⟩
def l_law_0 : Ss := (.cons (.set 10 (.sl false (.var 10) .no (.yes (.neg (.int 1)))))
 .nil)
def f_law_0 : Sm := .wh (.and (.cmp .gt (.bi .len false (.cons (.var 10) .nil)) (.int 1)) (.one (.cmp .eq (.ix (.var 10) (.neg (.int 1))) (.ix (.var 10) (.neg (.int 2)))))) l_law_0
def c_law_0 : Ex := .lc false (.nm 14) (.rng (.cons (.bin .add false (.int 1) (.call "_law_pick" [0, 1] (.cons (.var 1) (.cons (.int 6) .nil)) .nil)) .nil)) .no (.call "_law_pick" [0, 1] (.cons (.var 1) (.cons (.call "_law_power" [0] (.cons (.var 3) .nil) .nil) .nil)) .nil)
def c_law_1 : Ex := .lc false (.nm 13) (.rng (.cons (.var 3) .nil)) .no (.bin .mul false (.bin .sub false (.call "_law_pick" [0, 1] (.cons (.var 1) (.cons (.int 41) .nil)) .nil) (.int 20)) (.ix (.lst false (.cons (.int 1) (.cons (.int 1) (.cons (.int 1000) (.cons (.bin .pow false (.int 10) (.int 12)) .nil))))) (.call "_law_pick" [0, 1] (.cons (.var 1) (.cons (.int 4) .nil)) .nil)))
def l_law_1 : Ss := (.cons (.set 3 (.call "_law_pick" [0, 1] (.cons (.var 1) (.cons (.int 6) .nil)) .nil))
 (.cons (.set 4 (.bi .tuple false (.cons c_law_1 .nil)))
 (.cons (.set 5 (.call "word_of" [0] .nil (.cons (.var 4) .nil)))
 (.cons (.ife (.or (.not (.call "_law_same" [0, 1] (.cons (.var 5) (.cons (.call "_law_word_of" [0] (.cons (.var 4) .nil) .nil) .nil)) .nil)) (.one (.not (.call "_law_same" [0, 1] (.cons (.call "width" [0] .nil (.cons (.var 4) .nil)) (.cons (.bi .len false (.cons (.var 5) .nil)) .nil)) .nil)))) (.cons (.ret (.bl false))
 .nil) .nil)
 (.cons (.set 6 (.bin .add false (.var 5) (.bin .mul false (.sl false (.var 5) (.yes (.neg (.int 1))) .no) (.call "_law_pick" [0, 1] (.cons (.var 1) (.cons (.int 4) .nil)) .nil))))
 (.cons (.ife (.not (.call "_law_same" [0, 1] (.cons (.call "row_of" [1, 0] .nil (.cons (.var 6) (.cons (.var 3) .nil))) (.cons (.var 4) .nil)) .nil)) (.cons (.ret (.bl false))
 .nil) .nil)
 (.cons (.set 7 (.bi .tuple false (.cons c_law_0 .nil)))
 (.cons (.par2 9 10 (.cons (.call "row_of" [0, 1] (.cons (.var 3) (.cons (.var 7) .nil)) .nil) (.cons (.var 7) .nil)))
 (.cons f_law_0
 (.cons (.ife (.or (.not (.call "_law_same" [0, 1] (.cons (.var 9) (.cons (.call "_law_row_of" [0, 1] (.cons (.var 3) (.cons (.var 7) .nil)) .nil) .nil)) .nil)) (.one (.cmp .ne (.call "word_of" [0] (.cons (.var 9) .nil) .nil) (.var 10)))) (.cons (.ret (.bl false))
 .nil) .nil)
 (.cons (.set 8 (.ix (.lst false (.cons .non (.cons (.lst false (.cons (.int 0) .nil)) (.cons (.bin .mul false (.tup (.cons (.int 0) .nil)) (.int 6)) (.cons (.tup (.cons (.bl true) .nil)) (.cons (.tup (.cons (.str "0") .nil)) .nil)))))) (.call "_law_pick" [0, 1] (.cons (.var 1) (.cons (.int 5) .nil)) .nil)))
 (.cons (.par2 11 12 (.cons (.ix (.lst false (.cons .non (.cons (.neg (.int 1)) (.cons (.int 6) (.cons (.bl true) .nil))))) (.call "_law_pick" [0, 1] (.cons (.var 1) (.cons (.int 4) .nil)) .nil)) (.cons (.ix (.lst false (.cons .non (.cons (.tup .nil) (.cons (.lst false (.cons (.int 0) .nil)) (.cons (.tup (.cons (.call "_law_power" [0] (.cons (.var 3) .nil) .nil) .nil)) (.cons (.tup (.cons (.neg (.int 1)) .nil)) (.cons (.tup (.cons (.bl false) .nil)) .nil))))))) (.call "_law_pick" [0, 1] (.cons (.var 1) (.cons (.int 6) .nil)) .nil)) .nil)))
 (.cons (.ife (.cmp .ne (.lst false (.cons (.call "_law_error" [0, 1, 2] (.cons (.int 0) (.cons (.var 8) (.cons (.int 0) .nil))) .nil) (.cons (.call "_law_error" [0, 1, 2] (.cons (.int 1) (.cons (.var 8) (.cons (.int 0) .nil))) .nil) (.cons (.call "_law_error" [0, 1, 2] (.cons (.int 2) (.cons (.var 11) (.cons (.var 12) .nil))) .nil) (.cons (.call "_law_error" [0, 1, 2] (.cons (.int 2) (.cons (.var 3) (.cons (.var 12) .nil))) .nil) .nil))))) (.lst false (.cons (.str "row") (.cons (.str "row") (.cons (.str "many") (.cons (.str "word") .nil)))))) (.cons (.ret (.bl false))
 .nil) .nil)
 .nil)))))))))))))
def f_law_1 : Sm := .fo (.nm 2) (.rng (.cons (.int 5) .nil)) l_law_1
def b_law : Ss :=
 (.cons (.set 1 (.call "_law_bag" [0] (.cons (.var 0) .nil) .nil))
 (.cons f_law_1
 (.cons (.ret (.bl true))
 .nil)))
def d_law : Df := ⟨["script"], ["script", "bag", "turn", "many", "row", "word", "longer", "drawn", "bad", "told", "short", "wrong", "odd", "i", "k"], false, b_law⟩
def dd : List Dd := [⟨top 6, d_is_int, [(1, [], [0])]⟩,
  ⟨top 7, d_within, [(3, [], [0, 1, 2])]⟩,
  ⟨top 8, d_are_ints, [(1, [], [0])]⟩,
  ⟨top 11, d_need_many, [(1, [], [0])]⟩,
  ⟨top 12, d_is_word_of, [(2, [], [0, 1])]⟩,
  ⟨top 13, d_digit, [(2, [], [0, 1])]⟩,
  ⟨top 14, d_width_of_number, [(1, [], [0])]⟩,
  ⟨top 15, d_width_in, [(1, [], [0])]⟩,
  ⟨top 16, d_word_in, [(1, [], [0])]⟩,
  ⟨top 17, d_row_in, [(2, [], [0, 1])]⟩,
  ⟨top 18, d_need_few, [(1, [], [0])]⟩,
  ⟨top 19, d_word_of, [(0, ["row"], [0]), (1, [], [0])]⟩,
  ⟨top 20, d_width, [(0, ["row"], [0]), (1, [], [0])]⟩,
  ⟨top 21, d_row_of, [(0, ["word", "many"], [1, 0]), (2, [], [0, 1])]⟩,
  ⟨top 23, d__law_bag, [(1, [], [0])]⟩,
  ⟨top 24, d__law_pick, [(2, [], [0, 1])]⟩,
  ⟨top 25, d__law_same, [(2, [], [0, 1])]⟩,
  ⟨top 26, d__law_power, [(1, [], [0])]⟩,
  ⟨top 27, d__law_word_of, [(1, [], [0])]⟩,
  ⟨top 28, d__law_row_of, [(2, [], [0, 1])]⟩,
  ⟨top 29, d__law_error, [(3, [], [0, 1, 2])]⟩,
  ⟨top 30, d_law, [(1, [], [0])]⟩]
def G : Gt := ⟨[("MOST_TRACKS", (5))], [], ["all", "bool", "enumerate", "int", "isinstance", "len", "list", "max", "range", "str", "sum", "tuple"], [], ["BadRow", "BadMany", "BadWord"], [("is_int", ["thing"]), ("within", ["thing", "low", "high"]), ("are_ints", ["thing"]), ("need_many", ["many"]), ("is_word_of", ["many", "thing"]), ("digit", ["column", "track"]), ("width_of_number", ["number"]), ("width_in", ["row"]), ("word_in", ["row"]), ("row_in", ["many", "word"]), ("need_few", ["row"]), ("word_of", ["row"]), ("width", ["row"]), ("row_of", ["many", "word"]), ("_law_bag", ["script"]), ("_law_pick", ["bag", "many"]), ("_law_same", ["found", "due"]), ("_law_power", ["k"]), ("_law_word_of", ["row"]), ("_law_row_of", ["many", "word"]), ("_law_error", ["which", "one", "two"]), ("law", ["script"])], [("is_int", (1, [], [0])), ("within", (3, [], [0, 1, 2])), ("are_ints", (1, [], [0])), ("need_many", (1, [], [0])), ("is_word_of", (2, [], [0, 1])), ("digit", (2, [], [0, 1])), ("width_of_number", (1, [], [0])), ("width_in", (1, [], [0])), ("word_in", (1, [], [0])), ("row_in", (2, [], [0, 1])), ("need_few", (1, [], [0])), ("word_of", (0, ["row"], [0])), ("word_of", (1, [], [0])), ("width", (0, ["row"], [0])), ("width", (1, [], [0])), ("row_of", (0, ["word", "many"], [1, 0])), ("row_of", (2, [], [0, 1])), ("_law_bag", (1, [], [0])), ("_law_pick", (2, [], [0, 1])), ("_law_same", (2, [], [0, 1])), ("_law_power", (1, [], [0])), ("_law_word_of", (1, [], [0])), ("_law_row_of", (2, [], [0, 1])), ("_law_error", (3, [], [0, 1, 2])), ("law", (1, [], [0]))], [("BadRow", "BadRow"), ("BadMany", "BadMany"), ("BadWord", "BadWord")]⟩
theorem ok : dd.all (okD G) = true := by decide +kernel
theorem bs_0 : BSh (top 6) d_is_int.ps (1, [], [0]) := fun kV doc pm an cdv ct us ws h1 h2 => match us, ws, h1, h2 with | [u0], [], _, _ => by kernel_rfl
theorem bs_1 : BSh (top 7) d_within.ps (3, [], [0, 1, 2]) := fun kV doc pm an cdv ct us ws h1 h2 => match us, ws, h1, h2 with | [u0, u1, u2], [], _, _ => by kernel_rfl
theorem bs_2 : BSh (top 8) d_are_ints.ps (1, [], [0]) := fun kV doc pm an cdv ct us ws h1 h2 => match us, ws, h1, h2 with | [u0], [], _, _ => by kernel_rfl
theorem bs_3 : BSh (top 11) d_need_many.ps (1, [], [0]) := fun kV doc pm an cdv ct us ws h1 h2 => match us, ws, h1, h2 with | [u0], [], _, _ => by kernel_rfl
theorem bs_4 : BSh (top 12) d_is_word_of.ps (2, [], [0, 1]) := fun kV doc pm an cdv ct us ws h1 h2 => match us, ws, h1, h2 with | [u0, u1], [], _, _ => by kernel_rfl
theorem bs_5 : BSh (top 13) d_digit.ps (2, [], [0, 1]) := fun kV doc pm an cdv ct us ws h1 h2 => match us, ws, h1, h2 with | [u0, u1], [], _, _ => by kernel_rfl
theorem bs_6 : BSh (top 14) d_width_of_number.ps (1, [], [0]) := fun kV doc pm an cdv ct us ws h1 h2 => match us, ws, h1, h2 with | [u0], [], _, _ => by kernel_rfl
theorem bs_7 : BSh (top 15) d_width_in.ps (1, [], [0]) := fun kV doc pm an cdv ct us ws h1 h2 => match us, ws, h1, h2 with | [u0], [], _, _ => by kernel_rfl
theorem bs_8 : BSh (top 16) d_word_in.ps (1, [], [0]) := fun kV doc pm an cdv ct us ws h1 h2 => match us, ws, h1, h2 with | [u0], [], _, _ => by kernel_rfl
theorem bs_9 : BSh (top 17) d_row_in.ps (2, [], [0, 1]) := fun kV doc pm an cdv ct us ws h1 h2 => match us, ws, h1, h2 with | [u0, u1], [], _, _ => by kernel_rfl
theorem bs_10 : BSh (top 18) d_need_few.ps (1, [], [0]) := fun kV doc pm an cdv ct us ws h1 h2 => match us, ws, h1, h2 with | [u0], [], _, _ => by kernel_rfl
theorem bs_11 : BSh (top 19) d_word_of.ps (0, ["row"], [0]) := fun kV doc pm an cdv ct us ws h1 h2 => match us, ws, h1, h2 with | [], [w0], _, _ => by kernel_rfl
theorem bs_12 : BSh (top 19) d_word_of.ps (1, [], [0]) := fun kV doc pm an cdv ct us ws h1 h2 => match us, ws, h1, h2 with | [u0], [], _, _ => by kernel_rfl
theorem bs_13 : BSh (top 20) d_width.ps (0, ["row"], [0]) := fun kV doc pm an cdv ct us ws h1 h2 => match us, ws, h1, h2 with | [], [w0], _, _ => by kernel_rfl
theorem bs_14 : BSh (top 20) d_width.ps (1, [], [0]) := fun kV doc pm an cdv ct us ws h1 h2 => match us, ws, h1, h2 with | [u0], [], _, _ => by kernel_rfl
theorem bs_15 : BSh (top 21) d_row_of.ps (0, ["word", "many"], [1, 0]) := fun kV doc pm an cdv ct us ws h1 h2 => match us, ws, h1, h2 with | [], [w0, w1], _, _ => by kernel_rfl
theorem bs_16 : BSh (top 21) d_row_of.ps (2, [], [0, 1]) := fun kV doc pm an cdv ct us ws h1 h2 => match us, ws, h1, h2 with | [u0, u1], [], _, _ => by kernel_rfl
theorem bs_17 : BSh (top 23) d__law_bag.ps (1, [], [0]) := fun kV doc pm an cdv ct us ws h1 h2 => match us, ws, h1, h2 with | [u0], [], _, _ => by kernel_rfl
theorem bs_18 : BSh (top 24) d__law_pick.ps (2, [], [0, 1]) := fun kV doc pm an cdv ct us ws h1 h2 => match us, ws, h1, h2 with | [u0, u1], [], _, _ => by kernel_rfl
theorem bs_19 : BSh (top 25) d__law_same.ps (2, [], [0, 1]) := fun kV doc pm an cdv ct us ws h1 h2 => match us, ws, h1, h2 with | [u0, u1], [], _, _ => by kernel_rfl
theorem bs_20 : BSh (top 26) d__law_power.ps (1, [], [0]) := fun kV doc pm an cdv ct us ws h1 h2 => match us, ws, h1, h2 with | [u0], [], _, _ => by kernel_rfl
theorem bs_21 : BSh (top 27) d__law_word_of.ps (1, [], [0]) := fun kV doc pm an cdv ct us ws h1 h2 => match us, ws, h1, h2 with | [u0], [], _, _ => by kernel_rfl
theorem bs_22 : BSh (top 28) d__law_row_of.ps (2, [], [0, 1]) := fun kV doc pm an cdv ct us ws h1 h2 => match us, ws, h1, h2 with | [u0, u1], [], _, _ => by kernel_rfl
theorem bs_23 : BSh (top 29) d__law_error.ps (3, [], [0, 1, 2]) := fun kV doc pm an cdv ct us ws h1 h2 => match us, ws, h1, h2 with | [u0, u1, u2], [], _, _ => by kernel_rfl
theorem bs_24 : BSh (top 30) d_law.ps (1, [], [0]) := fun kV doc pm an cdv ct us ws h1 h2 => match us, ws, h1, h2 with | [u0], [], _, _ => by kernel_rfl
theorem shs : AllSh dd := ⟨⟨bs_0, trivial⟩, ⟨bs_1, trivial⟩, ⟨bs_2, trivial⟩, ⟨bs_3, trivial⟩, ⟨bs_4, trivial⟩, ⟨bs_5, trivial⟩, ⟨bs_6, trivial⟩, ⟨bs_7, trivial⟩, ⟨bs_8, trivial⟩, ⟨bs_9, trivial⟩, ⟨bs_10, trivial⟩, ⟨bs_11, bs_12, trivial⟩, ⟨bs_13, bs_14, trivial⟩, ⟨bs_15, bs_16, trivial⟩, ⟨bs_17, trivial⟩, ⟨bs_18, trivial⟩, ⟨bs_19, trivial⟩, ⟨bs_20, trivial⟩, ⟨bs_21, trivial⟩, ⟨bs_22, trivial⟩, ⟨bs_23, trivial⟩, ⟨bs_24, trivial⟩, trivial⟩
abbrev Rw : PySem.W.OpenRow := PySem.W.OpenLaw.row PySem.Challenge.rw_wholesworn_k29_words_of_rows
abbrev fn : List He.DefD := dd.map fun d => mkDD d.st
abbrev hk : PySem.W.Hook := He.hookD 4 (faOf G) fn
def ob (s : PySem.W.SharedT) : He.AlD := He.obsDG 4 (faOf G) fn (HandSHeadRun.getT s)
theorem ob_eq (s : PySem.W.SharedT) : ob s = hk.obs s.abs := He.obsDG_eq (HandSHeadRun.getT_eq s)
abbrev loose : List PySem.Str := ["WholeError", "BadRow", "BadMany", "BadWord", "is_int", "within", "are_ints", "MOST_TRACKS", "need_many", "is_word_of", "digit", "width_of_number", "width_in", "word_in", "row_in", "need_few", "word_of", "width", "row_of", "_law_bag", "_law_pick", "_law_same", "_law_power", "_law_word_of", "_law_row_of", "_law_error"]
theorem rune (w : World) : HandSHeadRun.RunEq Rw (PySem.W.view Rw.prog [30]) hk ob 4000 loose w := by
  intro os
  kernel_rfl
theorem r_is_int (F k : Nat) (u0 : U) (h : List O) : run G F (dsOf dd) (k + 1) "is_int" [u0] h = leave false h.length (exs G (run G F (dsOf dd) k) F b_is_int [some u0] h) := by kernel_rfl
theorem r_within (F k : Nat) (u0 u1 u2 : U) (h : List O) : run G F (dsOf dd) (k + 1) "within" [u0, u1, u2] h = leave false h.length (exs G (run G F (dsOf dd) k) F b_within [some u0, some u1, some u2] h) := by kernel_rfl
theorem r_are_ints (F k : Nat) (u0 : U) (h : List O) : run G F (dsOf dd) (k + 1) "are_ints" [u0] h = leave false h.length (exs G (run G F (dsOf dd) k) F b_are_ints [some u0, none] h) := by kernel_rfl
theorem r_need_many (F k : Nat) (u0 : U) (h : List O) : run G F (dsOf dd) (k + 1) "need_many" [u0] h = leave false h.length (exs G (run G F (dsOf dd) k) F b_need_many [some u0] h) := by kernel_rfl
theorem r_is_word_of (F k : Nat) (u0 u1 : U) (h : List O) : run G F (dsOf dd) (k + 1) "is_word_of" [u0, u1] h = leave false h.length (exs G (run G F (dsOf dd) k) F b_is_word_of [some u0, some u1, none] h) := by kernel_rfl
theorem r_digit (F k : Nat) (u0 u1 : U) (h : List O) : run G F (dsOf dd) (k + 1) "digit" [u0, u1] h = leave false h.length (exs G (run G F (dsOf dd) k) F b_digit [some u0, some u1] h) := by kernel_rfl
theorem r_width_of_number (F k : Nat) (u0 : U) (h : List O) : run G F (dsOf dd) (k + 1) "width_of_number" [u0] h = leave false h.length (exs G (run G F (dsOf dd) k) F b_width_of_number [some u0] h) := by kernel_rfl
theorem r_width_in (F k : Nat) (u0 : U) (h : List O) : run G F (dsOf dd) (k + 1) "width_in" [u0] h = leave false h.length (exs G (run G F (dsOf dd) k) F b_width_in [some u0, none] h) := by kernel_rfl
theorem r_word_in (F k : Nat) (u0 : U) (h : List O) : run G F (dsOf dd) (k + 1) "word_in" [u0] h = leave false h.length (exs G (run G F (dsOf dd) k) F b_word_in [some u0, none, none, none, none] h) := by kernel_rfl
theorem r_row_in (F k : Nat) (u0 u1 : U) (h : List O) : run G F (dsOf dd) (k + 1) "row_in" [u0, u1] h = leave false h.length (exs G (run G F (dsOf dd) k) F b_row_in [some u0, some u1, none, none, none, none, none, none, none] h) := by kernel_rfl
theorem r_need_few (F k : Nat) (u0 : U) (h : List O) : run G F (dsOf dd) (k + 1) "need_few" [u0] h = leave false h.length (exs G (run G F (dsOf dd) k) F b_need_few [some u0] h) := by kernel_rfl
theorem r_word_of (F k : Nat) (u0 : U) (h : List O) : run G F (dsOf dd) (k + 1) "word_of" [u0] h = leave false h.length (exs G (run G F (dsOf dd) k) F b_word_of [some u0] h) := by kernel_rfl
theorem r_width (F k : Nat) (u0 : U) (h : List O) : run G F (dsOf dd) (k + 1) "width" [u0] h = leave false h.length (exs G (run G F (dsOf dd) k) F b_width [some u0] h) := by kernel_rfl
theorem r_row_of (F k : Nat) (u0 u1 : U) (h : List O) : run G F (dsOf dd) (k + 1) "row_of" [u0, u1] h = leave false h.length (exs G (run G F (dsOf dd) k) F b_row_of [some u0, some u1] h) := by kernel_rfl
theorem r__law_bag (F k : Nat) (u0 : U) (h : List O) : run G F (dsOf dd) (k + 1) "_law_bag" [u0] h = leave true h.length (exs G (run G F (dsOf dd) k) F b__law_bag [some u0] h) := by kernel_rfl
theorem r__law_pick (F k : Nat) (u0 u1 : U) (h : List O) : run G F (dsOf dd) (k + 1) "_law_pick" [u0, u1] h = leave false h.length (exs G (run G F (dsOf dd) k) F b__law_pick [some u0, some u1, none, none, none] h) := by kernel_rfl
theorem r__law_same (F k : Nat) (u0 u1 : U) (h : List O) : run G F (dsOf dd) (k + 1) "_law_same" [u0, u1] h = leave false h.length (exs G (run G F (dsOf dd) k) F b__law_same [some u0, some u1, none] h) := by kernel_rfl
theorem r__law_power (F k : Nat) (u0 : U) (h : List O) : run G F (dsOf dd) (k + 1) "_law_power" [u0] h = leave false h.length (exs G (run G F (dsOf dd) k) F b__law_power [some u0, none, none] h) := by kernel_rfl
theorem r__law_word_of (F k : Nat) (u0 : U) (h : List O) : run G F (dsOf dd) (k + 1) "_law_word_of" [u0] h = leave false h.length (exs G (run G F (dsOf dd) k) F b__law_word_of [some u0, none, none, none, none, none, none] h) := by kernel_rfl
theorem r__law_row_of (F k : Nat) (u0 u1 : U) (h : List O) : run G F (dsOf dd) (k + 1) "_law_row_of" [u0, u1] h = leave false h.length (exs G (run G F (dsOf dd) k) F b__law_row_of [some u0, some u1, none, none, none, none] h) := by kernel_rfl
theorem r__law_error (F k : Nat) (u0 u1 u2 : U) (h : List O) : run G F (dsOf dd) (k + 1) "_law_error" [u0, u1, u2] h = leave false h.length (exs G (run G F (dsOf dd) k) F b__law_error [some u0, some u1, some u2, none] h) := by kernel_rfl
theorem r_law (F k : Nat) (u0 : U) (h : List O) : run G F (dsOf dd) (k + 1) "law" [u0] h = leave false h.length (exs G (run G F (dsOf dd) k) F b_law [some u0, none, none, none, none, none, none, none, none, none, none, none, none, none, none] h) := by kernel_rfl
end K29

open PySem PySem.W PySem.Calls PyProof.Rows
theorem K29.fin (pure_ : ∀ ns : List Int, ns.length ≤ 63 → ∃ F h', Py.run K29.G F (Py.dsOf K29.dd) 40 "law" [.scr ns] [] = .ok (.d (.bool true)) h') : PySem.Challenge.rw_wholesworn_k29_words_of_rows.Holds := by
  w_on; o_law
  refine HandSHeadRun.head_any (r := OpenLaw.row PySem.Challenge.rw_wholesworn_k29_words_of_rows) (q := view (OpenLaw.row PySem.Challenge.rw_wholesworn_k29_words_of_rows).prog [30]) (H := K29.hk) (ob := K29.ob) (M := 4000) (loose := K29.loose) (d := HandSHeadRun.topDef (OpenLaw.row PySem.Challenge.rw_wholesworn_k29_words_of_rows).prog 30) (kwd := []) K29.ob_eq
    (by kernel_rfl) (fun s => by kernel_rfl) K29.rune (by kernel_rfl) (by kernel_rfl) (by kernel_rfl) (by rfl) (by first | assumption | decide +kernel) (by decide +kernel) ⟨rfl, rfl, rfl, rfl, rfl, by decide +kernel⟩ ?hw ?hc
  case hw => w_witness2
  case hc =>
    refine L2.walk_ofE (l := PySem.Challenge.rw_wholesworn_k29_words_of_rows) (n := 63) (k := 40) (x := "script") (CX := Py.CXw (PySem.Challenge.rw_wholesworn_k29_words_of_rows).prog) rfl (by decide) (by kernel_rfl) ⟨rfl, by decide, by decide⟩ ?F (fun _ _ _ _ z => Py.cxw_none z)
    intro w mg fa h Y N hmg0
    obtain ⟨K, KX, c⟩ := Y
    have hmg : mg ("law" : PySem.Str) = some (.ref fa) := by
      have e : (HandSHeadRun.topDef (OpenLaw.row PySem.Challenge.rw_wholesworn_k29_words_of_rows).prog 30).name = ("law" : PySem.Str) := by kernel_rfl
      rw [← e]
      exact hmg0
    exact Py.law_end (k := 39) KX N hmg c rfl rfl rfl (by decide +kernel) K29.ok K29.shs (by decide +kernel) (by decide +kernel) pure_

namespace K29
open PySem PySem.Spec PyProof.Rows L2 Py
variable {F k : Nat}
def isI : D → Bool
  | .int _ => true
  | _ => false
theorem p_is_int (d : D) (h : List O) : run G F (dsOf dd) (k + 1) "is_int" [.d d] h = .ok (.d (.bool (isI d))) h := by
  rw [r_is_int]
  cases d
  all_goals simp [b_is_int, evCl_0, evCl_1, evCl_2, evCl_3, evCl_4, evCl_k, ev, tv, evs, evo, evc, evw, evV, evC, evT, ev2, ev1, evCh, evB, evIf, evNil, evCons, evTup, evLst, evCall, evSl, evNo, evPart, vAnd, vOr, vNot, tAndE, tOrE, tNotE, binU, cmpU, biU, meU, g1, g2, maxG, minG, Es.len, Tg.slots, Tgs.slots, ex, exs, exh, sNx, sBk, sCt, sSeq, sDrop, sRet, sRetN, sAsg, sPar2, sPar3, sSub, sIf, sRaise, asg, asgs, R.bind_ok, R.bind_err, R.bind_bad, R.stm_ok, R.stm_err, R.stm_bad, opt_some, opt_none, noErr_ok, noErr_bad, leave_d, leave_n, leave_e, leave_da, mkL_f, tru, truU, truD, asB, asBo, isiU, tyN, isaB, isI, tyNames]
def inB (lo hi : Int) : D → Bool
  | .int i => decide (lo ≤ i) && decide (i ≤ hi)
  | _ => false
theorem p_within (d : D) (lo hi : Int) (h : List O) : run G F (dsOf dd) (k + 2) "within" [.d d, .d (.int lo), .d (.int hi)] h = .ok (.d (.bool (inB lo hi d))) h := by
  rw [r_within]
  cases d
  case int i =>
    by_cases h1 : lo ≤ i <;> simp [b_within, evCl_0, evCl_1, evCl_2, evCl_3, evCl_4, evCl_k, ev, tv, evs, evo, evc, evw, evV, evC, evT, ev2, ev1, evCh, evB, evIf, evNil, evCons, evTup, evLst, evCall, evSl, evNo, evPart, vAnd, vOr, vNot, tAndE, tOrE, tNotE, binU, cmpU, biU, meU, g1, g2, maxG, minG, Es.len, Tg.slots, Tgs.slots, ex, exs, exh, sNx, sBk, sCt, sSeq, sDrop, sRet, sRetN, sAsg, sPar2, sPar3, sSub, sIf, sRaise, asg, asgs, R.bind_ok, R.bind_err, R.bind_bad, R.stm_ok, R.stm_err, R.stm_bad, opt_some, opt_none, noErr_ok, noErr_bad, leave_d, leave_n, leave_e, leave_da, mkL_f, tru, truU, truD, asB, asBo, p_is_int, isI, inB, cmpI, h1]
  all_goals simp [b_within, evCl_0, evCl_1, evCl_2, evCl_3, evCl_4, evCl_k, ev, tv, evs, evo, evc, evw, evV, evC, evT, ev2, ev1, evCh, evB, evIf, evNil, evCons, evTup, evLst, evCall, evSl, evNo, evPart, vAnd, vOr, vNot, tAndE, tOrE, tNotE, binU, cmpU, biU, meU, g1, g2, maxG, minG, Es.len, Tg.slots, Tgs.slots, ex, exs, exh, sNx, sBk, sCt, sSeq, sDrop, sRet, sRetN, sAsg, sPar2, sPar3, sSub, sIf, sRaise, asg, asgs, R.bind_ok, R.bind_err, R.bind_bad, R.stm_ok, R.stm_err, R.stm_bad, opt_some, opt_none, noErr_ok, noErr_bad, leave_d, leave_n, leave_e, leave_da, mkL_f, tru, truU, truD, asB, asBo, p_is_int, isI, inB]
def tupI : D → Bool
  | .tuple ds => ds.all isI
  | _ => false
theorem p_are_ints (d : D) (h : List O) (hl : ∀ ds, d = .tuple ds → ds.length ≤ 10000000) : run G F (dsOf dd) (k + 2) "are_ints" [.d d] h = .ok (.d (.bool (tupI d))) h := by
  rw [r_are_ints]
  cases d
  case tuple ds =>
    have key : ev G (run G F (dsOf dd) (k + 1)) c_are_ints_0 [some (.d (.tuple ds)), none] h = mkL false (ds.map fun x => .bool (isI x)) h :=
      ev_lcD ds (fun x => .bool (isI x)) rfl (hl ds rfl) (fun x _ => ⟨[some (.d (.tuple ds)), some (.d x)], rfl, fun acc => by simp [evCl_0, evCl_1, evCl_2, evCl_3, evCl_4, evCl_k, ev, tv, evs, evo, evc, evw, evV, evC, evT, ev2, ev1, evCh, evB, evIf, evNil, evCons, evTup, evLst, evCall, evSl, evNo, evPart, vAnd, vOr, vNot, tAndE, tOrE, tNotE, binU, cmpU, biU, meU, g1, g2, maxG, minG, Es.len, Tg.slots, Tgs.slots, ex, exs, exh, sNx, sBk, sCt, sSeq, sDrop, sRet, sRetN, sAsg, sPar2, sPar3, sSub, sIf, sRaise, asg, asgs, R.bind_ok, R.bind_err, R.bind_bad, R.stm_ok, R.stm_err, R.stm_bad, opt_some, opt_none, noErr_ok, noErr_bad, leave_d, leave_n, leave_e, leave_da, mkL_f, tru, truU, truD, asB, asBo, p_is_int]⟩)
    simp [b_are_ints, evCl_0, evCl_1, evCl_2, evCl_3, evCl_4, evCl_k, ev, tv, evs, evo, evc, evw, evV, evC, evT, ev2, ev1, evCh, evB, evIf, evNil, evCons, evTup, evLst, evCall, evSl, evNo, evPart, vAnd, vOr, vNot, tAndE, tOrE, tNotE, binU, cmpU, biU, meU, g1, g2, maxG, minG, Es.len, Tg.slots, Tgs.slots, ex, exs, exh, sNx, sBk, sCt, sSeq, sDrop, sRet, sRetN, sAsg, sPar2, sPar3, sSub, sIf, sRaise, asg, asgs, R.bind_ok, R.bind_err, R.bind_bad, R.stm_ok, R.stm_err, R.stm_bad, opt_some, opt_none, noErr_ok, noErr_bad, leave_d, leave_n, leave_e, leave_da, mkL_f, tru, truU, truD, asB, asBo, isiU, tyN, isaB, tyNames, tupI, key, allU_map]
  all_goals simp [b_are_ints, evCl_0, evCl_1, evCl_2, evCl_3, evCl_4, evCl_k, ev, tv, evs, evo, evc, evw, evV, evC, evT, ev2, ev1, evCh, evB, evIf, evNil, evCons, evTup, evLst, evCall, evSl, evNo, evPart, vAnd, vOr, vNot, tAndE, tOrE, tNotE, binU, cmpU, biU, meU, g1, g2, maxG, minG, Es.len, Tg.slots, Tgs.slots, ex, exs, exh, sNx, sBk, sCt, sSeq, sDrop, sRet, sRetN, sAsg, sPar2, sPar3, sSub, sIf, sRaise, asg, asgs, R.bind_ok, R.bind_err, R.bind_bad, R.stm_ok, R.stm_err, R.stm_bad, opt_some, opt_none, noErr_ok, noErr_bad, leave_d, leave_n, leave_e, leave_da, mkL_f, tru, truU, truD, asB, asBo, isiU, tyN, isaB, tyNames, tupI]

theorem p_need_many (d : D) (h : List O) : run G F (dsOf dd) (k + 3) "need_many" [.d d] h = if inB 0 5 d = true then .ok (.d .none) h else .err "BadMany" h := by
  rw [r_need_many]
  cases hb : inB 0 5 d <;> simp [b_need_many, evCl_0, evCl_1, evCl_2, evCl_3, evCl_4, evCl_k, ev, tv, evs, evo, evc, evw, evV, evC, evT, ev2, ev1, evCh, evB, evIf, evNil, evCons, evTup, evLst, evCall, evSl, evNo, evPart, vAnd, vOr, vNot, tAndE, tOrE, tNotE, binU, cmpU, biU, meU, g1, g2, maxG, minG, Es.len, Tg.slots, Tgs.slots, ex, exs, exh, sNx, sBk, sCt, sSeq, sDrop, sRet, sRetN, sAsg, sPar2, sPar3, sSub, sIf, sRaise, asg, asgs, R.bind_ok, R.bind_err, R.bind_bad, R.stm_ok, R.stm_err, R.stm_bad, opt_some, opt_none, noErr_ok, noErr_bad, leave_d, leave_n, leave_e, leave_da, mkL_f, tru, truU, truD, asB, asBo, p_within, hb]
def wordB (i : Int) : D → Bool
  | .tuple ds => !ds.isEmpty && ds.all (inB 0 (2 ^ i.toNat - 1))
  | _ => false
theorem eqv_nil (ds : List D) : PyData.eqv (.tuple ds) (.tuple []) = ds.isEmpty := by
  cases ds <;> simp [PyData.eqv, PyData.eqvAll]
theorem depth_nil : PyData.depth (.tuple []) ≤ 64 := by decide
theorem p_is_word_of (i : Int) (d : D) (h : List O) (hi : 0 ≤ i) (hi2 : i ≤ 1000) (hl : ∀ ds, d = .tuple ds → ds.length ≤ 10000000) : run G F (dsOf dd) (k + 3) "is_word_of" [.d (.int i), .d d] h = .ok (.d (.bool (wordB i d))) h := by
  rw [r_is_word_of]
  cases d
  case tuple ds =>
    have key : ev G (run G F (dsOf dd) (k + 2)) c_is_word_of_0 [some (.d (.int i)), some (.d (.tuple ds)), none] h = mkL false (ds.map fun x => .bool (inB 0 (2 ^ i.toNat - 1) x)) h :=
      ev_lcD ds (fun x => .bool (inB 0 (2 ^ i.toNat - 1) x)) rfl (hl ds rfl) (fun x _ => ⟨[some (.d (.int i)), some (.d (.tuple ds)), some (.d x)], rfl, fun acc => by
        have : i ≤ 1000000 := by omega
        simp [evCl_0, evCl_1, evCl_2, evCl_3, evCl_4, evCl_k, ev, tv, evs, evo, evc, evw, evV, evC, evT, ev2, ev1, evCh, evB, evIf, evNil, evCons, evTup, evLst, evCall, evSl, evNo, evPart, vAnd, vOr, vNot, tAndE, tOrE, tNotE, binU, cmpU, biU, meU, g1, g2, maxG, minG, Es.len, Tg.slots, Tgs.slots, ex, exs, exh, sNx, sBk, sCt, sSeq, sDrop, sRet, sRetN, sAsg, sPar2, sPar3, sSub, sIf, sRaise, asg, asgs, R.bind_ok, R.bind_err, R.bind_bad, R.stm_ok, R.stm_err, R.stm_bad, opt_some, opt_none, noErr_ok, noErr_bad, leave_d, leave_n, leave_e, leave_da, mkL_f, tru, truU, truD, asB, asBo, p_within, Py.intOp, gShl, gSubI, hi, this]⟩)
    have h1 : Py.eqU true (.d (.tuple ds)) (.d (.tuple [])) h = .ok (.d (.bool (!ds.isEmpty))) h := by
      simp [Py.eqU, eqO, Py.dataOf, eqv_nil, depth_nil]
    cases hb : ds.isEmpty <;> simp [b_is_word_of, evCl_0, evCl_1, evCl_2, evCl_3, evCl_4, evCl_k, ev, tv, evs, evo, evc, evw, evV, evC, evT, ev2, ev1, evCh, evB, evIf, evNil, evCons, evTup, evLst, evCall, evSl, evNo, evPart, vAnd, vOr, vNot, tAndE, tOrE, tNotE, binU, cmpU, biU, meU, g1, g2, maxG, minG, Es.len, Tg.slots, Tgs.slots, ex, exs, exh, sNx, sBk, sCt, sSeq, sDrop, sRet, sRetN, sAsg, sPar2, sPar3, sSub, sIf, sRaise, asg, asgs, R.bind_ok, R.bind_err, R.bind_bad, R.stm_ok, R.stm_err, R.stm_bad, opt_some, opt_none, noErr_ok, noErr_bad, leave_d, leave_n, leave_e, leave_da, mkL_f, tru, truU, truD, asB, asBo, isiU, tyN, isaB, tyNames, wordB, key, allU_map, pures, h1, hb]
  all_goals simp [b_is_word_of, evCl_0, evCl_1, evCl_2, evCl_3, evCl_4, evCl_k, ev, tv, evs, evo, evc, evw, evV, evC, evT, ev2, ev1, evCh, evB, evIf, evNil, evCons, evTup, evLst, evCall, evSl, evNo, evPart, vAnd, vOr, vNot, tAndE, tOrE, tNotE, binU, cmpU, biU, meU, g1, g2, maxG, minG, Es.len, Tg.slots, Tgs.slots, ex, exs, exh, sNx, sBk, sCt, sSeq, sDrop, sRet, sRetN, sAsg, sPar2, sPar3, sSub, sIf, sRaise, asg, asgs, R.bind_ok, R.bind_err, R.bind_bad, R.stm_ok, R.stm_err, R.stm_bad, opt_some, opt_none, noErr_ok, noErr_bad, leave_d, leave_n, leave_e, leave_da, mkL_f, tru, truU, truD, asB, asBo, isiU, tyN, isaB, tyNames, wordB]
theorem p_digit (c t : Int) (h : List O) (ht : 0 ≤ t) : run G F (dsOf dd) (k + 1) "digit" [.d (.int c), .d (.int t)] h = .ok (.d (.int (c / 2 ^ t.toNat % 2))) h := by
  rw [r_digit]
  simp [b_digit, evCl_0, evCl_1, evCl_2, evCl_3, evCl_4, evCl_k, ev, tv, evs, evo, evc, evw, evV, evC, evT, ev2, ev1, evCh, evB, evIf, evNil, evCons, evTup, evLst, evCall, evSl, evNo, evPart, vAnd, vOr, vNot, tAndE, tOrE, tNotE, binU, cmpU, biU, meU, g1, g2, maxG, minG, Es.len, Tg.slots, Tgs.slots, ex, exs, exh, sNx, sBk, sCt, sSeq, sDrop, sRet, sRetN, sAsg, sPar2, sPar3, sSub, sIf, sRaise, asg, asgs, R.bind_ok, R.bind_err, R.bind_bad, R.stm_ok, R.stm_err, R.stm_bad, opt_some, opt_none, noErr_ok, noErr_bad, leave_d, leave_n, leave_e, leave_da, mkL_f, tru, truU, truD, asB, asBo, Py.intOp, gShr, gAnd, ht, bitAnd_m1]
def widN (n : Int) : Int := (Builtin.Int.intBits (if 0 ≤ n then n else -n - 1) : Nat) + 1
theorem p_width_of_number (n : Int) (h : List O) : run G F (dsOf dd) (k + 1) "width_of_number" [.d (.int n)] h = .ok (.d (.int (widN n))) h := by
  rw [r_width_of_number]
  by_cases hn : 0 ≤ n <;> simp [b_width_of_number, evCl_0, evCl_1, evCl_2, evCl_3, evCl_4, evCl_k, ev, tv, evs, evo, evc, evw, evV, evC, evT, ev2, ev1, evCh, evB, evIf, evNil, evCons, evTup, evLst, evCall, evSl, evNo, evPart, vAnd, vOr, vNot, tAndE, tOrE, tNotE, binU, cmpU, biU, meU, g1, g2, maxG, minG, Es.len, Tg.slots, Tgs.slots, ex, exs, exh, sNx, sBk, sCt, sSeq, sDrop, sRet, sRetN, sAsg, sPar2, sPar3, sSub, sIf, sRaise, asg, asgs, R.bind_ok, R.bind_err, R.bind_bad, R.stm_ok, R.stm_err, R.stm_bad, opt_some, opt_none, noErr_ok, noErr_bad, leave_d, leave_n, leave_e, leave_da, mkL_f, tru, truU, truD, asB, asBo, cmpI, hn, asI, widN, Py.intOp, gSubI, negU, addU, Py.listOf, addD]
def widR (ns : List Int) : Int := match ns.map widN with
  | [] => 1
  | m :: r => maxL m r
theorem p_width_in (ns : List Int) (h : List O) (hl : ns.length ≤ 10000000) : run G F (dsOf dd) (k + 2) "width_in" [.d (.tuple (ns.map .int))] h = .ok (.d (.int (widR ns))) h := by
  rw [r_width_in]
  have key : ev G (run G F (dsOf dd) (k + 1)) c_width_in_0 [some (.d (.tuple (ns.map .int))), none] h = mkL false (ns.map fun x => .int (widN x)) h := by
    refine (ev_lcD (ns.map .int) (fun x => match x with | .int i => .int (widN i) | _ => .none) rfl (by simpa using hl) (fun x hx => ?_)).trans (by rw [List.map_map]; rfl)
    obtain ⟨i, _, rfl⟩ := List.mem_map.mp hx
    exact ⟨[some (.d (.tuple (ns.map .int))), some (.d (.int i))], rfl, fun acc => by simp [evCl_0, evCl_1, evCl_2, evCl_3, evCl_4, evCl_k, ev, tv, evs, evo, evc, evw, evV, evC, evT, ev2, ev1, evCh, evB, evIf, evNil, evCons, evTup, evLst, evCall, evSl, evNo, evPart, vAnd, vOr, vNot, tAndE, tOrE, tNotE, binU, cmpU, biU, meU, g1, g2, maxG, minG, Es.len, Tg.slots, Tgs.slots, ex, exs, exh, sNx, sBk, sCt, sSeq, sDrop, sRet, sRetN, sAsg, sPar2, sPar3, sSub, sIf, sRaise, asg, asgs, R.bind_ok, R.bind_err, R.bind_bad, R.stm_ok, R.stm_err, R.stm_bad, opt_some, opt_none, noErr_ok, noErr_bad, leave_d, leave_n, leave_e, leave_da, mkL_f, tru, truU, truD, asB, asBo, p_width_of_number]⟩
  cases hm : ns.map widN <;> simp [b_width_in, evCl_0, evCl_1, evCl_2, evCl_3, evCl_4, evCl_k, ev, tv, evs, evo, evc, evw, evV, evC, evT, ev2, ev1, evCh, evB, evIf, evNil, evCons, evTup, evLst, evCall, evSl, evNo, evPart, vAnd, vOr, vNot, tAndE, tOrE, tNotE, binU, cmpU, biU, meU, g1, g2, maxG, minG, Es.len, Tg.slots, Tgs.slots, ex, exs, exh, sNx, sBk, sCt, sSeq, sDrop, sRet, sRetN, sAsg, sPar2, sPar3, sSub, sIf, sRaise, asg, asgs, R.bind_ok, R.bind_err, R.bind_bad, R.stm_ok, R.stm_err, R.stm_bad, opt_some, opt_none, noErr_ok, noErr_bad, leave_d, leave_n, leave_e, leave_da, mkL_f, tru, truU, truD, asB, asBo, key, maxDU, Py.listOf, intsOf_map', asI, widR, hm]

/-- bit p of n -/
def bitp (n : Int) (p : Nat) : Int := n / 2 ^ p % 2
theorem bitp_01 (n : Int) (p : Nat) : bitp n p = 0 ∨ bitp n p = 1 := by unfold bitp; omega
def bitD (p : Nat) (j : Nat) : D → D
  | .int n => .int (bitp n p * 2 ^ j)
  | _ => .none
theorem shl_bit {b : Int} (hb : b = 0 ∨ b = 1) {j : Nat} (hj : j ≤ 1000000) : gShl b j = some (b * 2 ^ j) := by
  unfold gShl
  rw [if_pos]
  · simp
  · refine ⟨by omega, by omega, ?_⟩
    rcases hb with rfl | rfl <;> decide
def sumE (g : Nat → Int → Int) : Nat → List Int → Int
  | _, [] => 0
  | k, x :: r => g k x + sumE g (k + 1) r
theorem ints_mapE (g : Nat → D → D) (f : Nat → Int → Int) (hg : ∀ k n, g k (.int n) = .int (f k n)) : ∀ (ns : List Int) (k : Nat), ∃ l, intsOf (mapE g k (ns.map .int)) = some l ∧ l.sum = sumE f k ns
  | [], k => ⟨[], rfl, rfl⟩
  | n :: r, k => by
    obtain ⟨l, h1, h2⟩ := ints_mapE g f hg r (k + 1)
    refine ⟨f k n :: l, ?_, ?_⟩
    · rw [List.map_cons, mapE, hg, intsOf, h1]; rfl
    · rw [List.sum_cons, h2]; rfl
theorem sumU_mapE {g : Nat → D → D} {f : Nat → Int → Int} (hg : ∀ k n, g k (.int n) = .int (f k n)) (ns : List Int) (h : List O) : sumU (.d (.list (mapE g 0 (ns.map .int)))) h = .ok (.d (.int (sumE f 0 ns))) h := by
  obtain ⟨l, h1, h2⟩ := ints_mapE g f hg ns 0
  simp [sumU, Py.listOf, h1, h2]
def colS (p : Nat) (ns : List Int) : Int := sumE (fun j n => bitp n p * 2 ^ j) 0 ns
theorem get_int {ns : List Int} {j : Nat} {x : D} (h : (ns.map PyData.int)[j]? = some x) : ∃ n, x = .int n ∧ j < ns.length := by
  rw [List.getElem?_map] at h
  cases q : ns[j]? with
  | none => rw [q] at h; cases h
  | some n => rw [q] at h; cases h; exact ⟨n, rfl, (List.getElem?_eq_some_iff.mp q).1⟩
theorem p_col (ns : List Int) (p : Nat) (hl : ns.length ≤ 1000000) (u1 u3 u4 : Option U) (h : List O) :
    ev G (run G F (dsOf dd) k) c_word_in_0 [some (.d (.tuple (ns.map .int))), u1, some (.d (.int p)), u3, u4] h = mkL false (mapE (bitD p) 0 (ns.map .int)) h := by
  refine ev_lcE (ns.map .int) (bitD p) rfl (by simp; omega) (fun j x hx => ?_)
  obtain ⟨n, rfl, hj⟩ := get_int hx
  refine ⟨[some (.d (.tuple (ns.map .int))), u1, some (.d (.int p)), some (.d (.int j)), some (.d (.int n))], rfl, fun acc => ?_⟩
  have h1 : gShl (n / 2 ^ p % 2) j = some (n / 2 ^ p % 2 * 2 ^ j) := shl_bit (bitp_01 n p) (by omega)
  simp [ev, tv, evs, evo, evc, evw, evV, evC, evT, ev2, ev1, evCh, evB, evIf, evNil, evCons, evTup, evLst, evCall, evSl, evNo, evPart, vAnd, vOr, vNot, tAndE, tOrE, tNotE, binU, cmpU, biU, meU, g1, g2, maxG, minG, Es.len, Tg.slots, Tgs.slots, ex, exs, exh, sNx, sBk, sCt, sSeq, sDrop, sRet, sRetN, sAsg, sPar2, sPar3, sSub, sIf, sRaise, asg, asgs, R.bind_ok, R.bind_err, R.bind_bad, R.stm_ok, R.stm_err, R.stm_bad, opt_some, opt_none, noErr_ok, noErr_bad, leave_d, leave_n, leave_e, leave_da, mkL_f, tru, truU, truD, asB, asBo, Py.intOp, gShr, gAnd, bitAnd_m1, h1, bitD, bitp]
def wordI (ns : List Int) : List Int := (List.range (widR ns).toNat).map fun p => colS p ns
theorem p_word_in (ns : List Int) (hl : ns.length ≤ 1000000) (h : List O) (hw : 0 ≤ widR ns) (hw2 : widR ns ≤ 1000000) : run G F (dsOf dd) (k + 3) "word_in" [.d (.tuple (ns.map .int))] h = .ok (.d (.tuple ((wordI ns).map .int))) h := by
  rw [r_word_in]
  have hr : Py.inR (widR ns) = true := Py.inR_of hw (by omega)
  have loop : ∃ σ' h', ex G (run G F (dsOf dd) (k + 2)) F f_word_in_0 [some (.d (.tuple (ns.map .int))), some (.lab h.length), none, none, none] (h ++ [.lst []]) = .nx σ' h' ∧
      (∃ u2 u3 u4, σ' = [some (.d (.tuple (ns.map .int))), some (.lab h.length), u2, u3, u4]) ∧ h' = h ++ [.lst ((List.range (rngL 0 1 (widR ns).toNat).length).map fun p => .int (colS p ns))] := by
    unfold f_word_in_0
    refine for_inv (us := rngL 0 1 (widR ns).toNat) (h1 := h ++ [.lst []]) (fun pre σ h' => (∃ u2 u3 u4, σ = [some (.d (.tuple (ns.map .int))), some (.lab h.length), u2, u3, u4]) ∧ h' = h ++ [.lst ((List.range pre.length).map fun p => .int (colS p ns))])
      ?_ ⟨⟨_, _, _, rfl⟩, rfl⟩ (fun pre u r e σ h' hI => ?_)
    · simp [evCl_0, evCl_1, evCl_2, evCl_3, evCl_4, evCl_k, ev, tv, evs, evo, evc, evw, evV, evC, evT, ev2, ev1, evCh, evB, evIf, evNil, evCons, evTup, evLst, evCall, evSl, evNo, evPart, vAnd, vOr, vNot, tAndE, tOrE, tNotE, binU, cmpU, biU, meU, g1, g2, maxG, minG, Es.len, Tg.slots, Tgs.slots, ex, exs, exh, sNx, sBk, sCt, sSeq, sDrop, sRet, sRetN, sAsg, sPar2, sPar3, sSub, sIf, sRaise, asg, asgs, R.bind_ok, R.bind_err, R.bind_bad, R.stm_ok, R.stm_err, R.stm_bad, opt_some, opt_none, noErr_ok, noErr_bad, leave_d, leave_n, leave_e, leave_da, mkL_f, tru, truU, truD, asB, asBo, p_width_in ns _ (by omega : ns.length ≤ 10000000), rngS, hr]
    obtain ⟨⟨u2, u3, u4, rfl⟩, rfl⟩ := hI
    have hu : u = .d (.int pre.length) := by
      have h1 : (rngL 0 1 (widR ns).toNat)[pre.length]? = some u := by rw [e, List.getElem?_append_right (Nat.le_refl _), Nat.sub_self]; rfl
      rw [rngL_get] at h1
      split at h1
      · cases h1; simp
      · cases h1
    subst hu
    have hlen : pre.length < 1000000 := by
      have h1 : (rngL 0 1 (widR ns).toNat).length = (widR ns).toNat := by rw [rngL_map]; simp
      rw [e] at h1
      simp at h1
      omega
    refine ⟨_, [some (.d (.tuple (ns.map .int))), some (.lab h.length), some (.d (.int pre.length)), u3, u4], h ++ [.lst ((List.range (pre.length + 1)).map fun p => .int (colS p ns))], rfl, ?_, ⟨_, _, _, rfl⟩, by simp⟩
    simp [l_word_in_0, List.range_succ, colS, hlen, (by omega : pre.length < 10000000), evCl_0, evCl_1, evCl_2, evCl_3, evCl_4, evCl_k, ev, tv, evs, evo, evc, evw, evV, evC, evT, ev2, ev1, evCh, evB, evIf, evNil, evCons, evTup, evLst, evCall, evSl, evNo, evPart, vAnd, vOr, vNot, tAndE, tOrE, tNotE, binU, cmpU, biU, meU, g1, g2, maxG, minG, Es.len, Tg.slots, Tgs.slots, ex, exs, exh, sNx, sBk, sCt, sSeq, sDrop, sRet, sRetN, sAsg, sPar2, sPar3, sSub, sIf, sRaise, asg, asgs, R.bind_ok, R.bind_err, R.bind_bad, R.stm_ok, R.stm_err, R.stm_bad, opt_some, opt_none, noErr_ok, noErr_bad, leave_d, leave_n, leave_e, leave_da, mkL_f, tru, truU, truD, asB, asBo, evMe, isLst, appG, p_col ns pre.length hl, sumU_mapE (g := bitD pre.length) (f := fun j n => bitp n pre.length * 2 ^ j) (fun _ _ => rfl)]
  obtain ⟨σ', h', e, ⟨u2, u3, u4, rfl⟩, rfl⟩ := loop
  have hlen : (rngL 0 1 (widR ns).toNat).length = (widR ns).toNat := by rw [rngL_map]; simp
  rw [hlen] at e
  simp [b_word_in, evCl_0, evCl_1, evCl_2, evCl_3, evCl_4, evCl_k, ev, tv, evs, evo, evc, evw, evV, evC, evT, ev2, ev1, evCh, evB, evIf, evNil, evCons, evTup, evLst, evCall, evSl, evNo, evPart, vAnd, vOr, vNot, tAndE, tOrE, tNotE, binU, cmpU, biU, meU, g1, g2, maxG, minG, Es.len, Tg.slots, Tgs.slots, ex, exs, exh, sNx, sBk, sCt, sSeq, sDrop, sRet, sRetN, sAsg, sPar2, sPar3, sSub, sIf, sRaise, asg, asgs, R.bind_ok, R.bind_err, R.bind_bad, R.stm_ok, R.stm_err, R.stm_bad, opt_some, opt_none, noErr_ok, noErr_bad, leave_d, leave_n, leave_e, leave_da, mkL_f, tru, truU, truD, asB, asBo, pures, mkL_t, e, tupleU, isTup, lstLike, Py.listOf, wordI]
end K29

namespace K29
open PySem PySem.Spec PyProof.Rows L2 Py
variable {F k : Nat}
/-! ### the bag -/
def bagO (cs : List Int) (a c s : Int) : O := .lst [.list (cs.map .int), .int a, .int c, .int s]
def IsBag (cs : List Int) (n : Int) (o : O) : Prop := ∃ a c s, o = bagO cs a c s ∧ 0 ≤ a ∧ a ≤ n ∧ 0 ≤ c ∧ 0 ≤ s ∧ s < 2305843009213693951
theorem atI_int {xs : List Int} {i : Int} (h0 : 0 ≤ i) (h1 : i < xs.length) : L2.atI (xs.map PyData.int) i = some (.int (xs.getD i.toNat 0)) := by
  unfold L2.atI L2.ixN
  rw [if_pos h0, if_pos (by simpa using h1)]
  have : i.toNat < xs.length := by omega
  simp [List.getElem?_map, List.getElem?_eq_getElem this, List.getD_eq_getElem?_getD]
theorem pow_lt_wide {a : Nat} (h : a < 2 ^ 200) : a < 2 ^ 100000 := Nat.lt_of_lt_of_le h (Nat.pow_le_pow_right (by decide) (by decide))
theorem mulOk_wide {i j : Int} (hi : i.natAbs < 2 ^ 200) (hj : j.natAbs < 2 ^ 200) : mulOk i j = true := by
  unfold mulOk
  simp [pow_lt_wide hi, pow_lt_wide hj]
theorem p_bag (cs : List Int) (h : List O) : run G F (dsOf dd) (k + 1) "_law_bag" [.scr cs] h = .ok (.lab h.length) (h ++ [bagO cs 0 0 7]) := by
  rw [r__law_bag]
  simp [b__law_bag, evCl_0, evCl_1, evCl_2, evCl_3, evCl_4, evCl_k, ev, tv, evs, evo, evc, evw, evV, evC, evT, ev2, ev1, evCh, evB, evIf, evNil, evCons, evTup, evLst, evCall, evSl, evNo, evPart, vAnd, vOr, vNot, tAndE, tOrE, tNotE, binU, cmpU, biU, meU, g1, g2, maxG, minG, Es.len, Tg.slots, Tgs.slots, ex, exs, exh, sNx, sBk, sCt, sSeq, sDrop, sRet, sRetN, sAsg, sPar2, sPar3, sSub, sIf, sRaise, asg, asgs, R.bind_ok, R.bind_err, R.bind_bad, R.stm_ok, R.stm_err, R.stm_bad, opt_some, opt_none, noErr_ok, noErr_bad, leave_d, leave_n, leave_e, leave_da, mkL_f, tru, truU, truD, asB, asBo, listU, seqOf, pures, mkL_t, leave, bagO]
def cellA (cs : List Int) (a s : Int) : Int := if a < cs.length then cs.getD a.toNat 0 else s.fdiv 3 + 77003 * a
def cellB (c : Int) : Int := if 0 ≤ c then 2 * c else -2 * c - 1
def cellC (c a : Int) : Int := (c * 1103515249 + 12820163 * a + 2147480009) * (c + 86028157 + a)
def cellD (d : Int) : Int := (d * d).fdiv 4093 + d * 6700417
theorem cellB_nn (c : Int) : 0 ≤ cellB c := by unfold cellB; split <;> omega
theorem cellC_ok {c a : Int} (h0 : 0 ≤ c) (h1 : c < 1000000000000000000) (h2 : 0 ≤ a) (h3 : a ≤ 100000) : mulOk (c * 1103515249 + 12820163 * a + 2147480009) (c + 86028157 + a) = true ∧ mulOk (cellC c a) (cellC c a) = true ∧ 0 ≤ cellC c a := by
  have e1 : (c * 1103515249 + 12820163 * a + 2147480009).natAbs < 2 ^ 95 := by omega
  have e2 : (c + 86028157 + a).natAbs < 2 ^ 64 := by omega
  have e3 : (cellC c a).natAbs < 2 ^ 200 := by
    unfold cellC
    rw [Int.natAbs_mul]
    exact Nat.lt_of_lt_of_le (Nat.mul_lt_mul'' e1 e2) (by rw [← Nat.pow_add]; exact Nat.pow_le_pow_right (by decide) (by decide))
  refine ⟨by unfold mulOk; simp [e2], mulOk_wide e3 e3, ?_⟩
  unfold cellC
  exact Int.mul_nonneg (by omega) (by omega)
theorem cellD_nn {d : Int} (h : 0 ≤ d) : 0 ≤ cellD d := by
  unfold cellD
  have := Int.mul_nonneg h h
  have h2 : 0 ≤ (d * d).fdiv 4093 := Int.fdiv_nonneg this (by decide)
  omega
theorem fdiv_nn {c m : Int} (h : 0 ≤ c) (hm : 1 ≤ m) : 0 ≤ c.fdiv m := Int.fdiv_nonneg h (by omega)
theorem fmod_in {c m : Int} (hm : 1 ≤ m) : 0 ≤ c.fmod m ∧ c.fmod m < m := ⟨Int.fmod_nonneg_of_pos c (by omega), Int.fmod_lt_of_pos c (by omega)⟩
theorem at0 (p q r s : D) : L2.atI [p, q, r, s] 0 = some p := rfl
theorem at1 (p q r s : D) : L2.atI [p, q, r, s] 1 = some q := rfl
theorem at2 (p q r s : D) : L2.atI [p, q, r, s] 2 = some r := rfl
theorem at3 (p q r s : D) : L2.atI [p, q, r, s] 3 = some s := rfl
theorem mulK {i j : Int} (h : i.natAbs < 2 ^ 64 ∨ j.natAbs < 2 ^ 64) : mulOk i j = true := by
  unfold mulOk
  rcases h with h | h <;> simp [h]
theorem p_pick {cs : List Int} {n many : Int} {o : O} (hb : IsBag cs n o) (hn : n ≤ 100000) (hm : 1 ≤ many) (hm2 : many < 2 ^ 64) (hl : cs.length ≤ 100000) :
    ∃ r o', (∀ rest, run G F (dsOf dd) (k + 1) "_law_pick" [.lab 0, .d (.int many)] (o :: rest) = .ok (.d (.int r)) (o' :: rest)) ∧ 0 ≤ r ∧ r < many ∧ IsBag cs (n + 1) o' := by
  obtain ⟨a, c, s, rfl, h1, h2, h3, h4, h5⟩ := hb
  have m0 : many ≠ 0 := by omega
  have m1 : many.natAbs < 2 ^ 1000 := Nat.lt_of_lt_of_le (show many.natAbs < 2 ^ 64 by omega) (Nat.pow_le_pow_right (by decide) (by decide))
  have gd : ∀ c : Int, gFdiv c many = some (c.fdiv many) := fun c => by unfold gFdiv; rw [if_pos ⟨m0, m1⟩]
  have gm : ∀ c : Int, gFmod c many = some (c.fmod many) := fun c => by unfold gFmod; rw [if_pos m0]
  have g3 : ∀ c : Int, gFdiv c 3 = some (c.fdiv 3) := fun c => by unfold gFdiv; rw [if_pos ⟨by decide, Nat.lt_of_lt_of_le (show Int.natAbs 3 < 2 ^ 2 by decide) (Nat.pow_le_pow_right (by decide) (by decide))⟩]
  have g4 : ∀ c : Int, gFdiv c 4093 = some (c.fdiv 4093) := fun c => by unfold gFdiv; rw [if_pos ⟨by decide, Nat.lt_of_lt_of_le (show Int.natAbs 4093 < 2 ^ 12 by decide) (Nat.pow_le_pow_right (by decide) (by decide))⟩]
  by_cases hlt : c < many
  · have p18 : gPow 10 18 = some 1000000000000000000 := by decide
    have gs : ∀ c : Int, gFmod c 2305843009213693951 = some (c.fmod 2305843009213693951) := fun c => by unfold gFmod; rw [if_pos (by decide)]
    have b0 := cellB_nn (cellA cs a s)
    have key : ∀ y : Int, 0 ≤ y → (∀ rest, run G F (dsOf dd) (k + 1) "_law_pick" [.lab 0, .d (.int many)] (bagO cs a c s :: rest) = .ok (.d (.int (y.fmod many))) (bagO cs (a + 1) (y.fdiv many) ((s * 40692 + y).fmod 2305843009213693951) :: rest)) →
        ∃ r o', (∀ rest, run G F (dsOf dd) (k + 1) "_law_pick" [.lab 0, .d (.int many)] (bagO cs a c s :: rest) = .ok (.d (.int r)) (o' :: rest)) ∧ 0 ≤ r ∧ r < many ∧ IsBag cs (n + 1) o' := fun y hy e =>
      ⟨_, _, e, (fmod_in hm).1, (fmod_in hm).2, _, _, _, rfl, by omega, by omega, fdiv_nn hy hm, (fmod_in (by decide)).1, (fmod_in (by decide)).2⟩
    by_cases ha : a < cs.length
    · have q := atI_int h1 ha
      have eA : cellA cs a s = cs.getD a.toNat 0 := by unfold cellA; rw [if_pos ha]
      rw [eA] at b0
      generalize cs.getD a.toNat 0 = x at *
      by_cases hx : 0 ≤ x
      · have eB : cellB (x) = 2 * (x) := by unfold cellB; rw [if_pos hx]
        rw [eB] at b0
        by_cases hc : 2 * (x) < 1000000000000000000
        · obtain ⟨w1, w2, w3⟩ := cellC_ok b0 hc h1 (by omega : a ≤ 100000)
          refine key (cellD (cellC (2 * (x)) a)) (cellD_nn w3) (fun rest => ?_)
          rw [r__law_pick]
          unfold cellC at w2
          simp [b__law_pick, evCl_0, evCl_1, evCl_2, evCl_3, evCl_4, evCl_k, ev, tv, evs, evo, evc, evw, evV, evC, evT, ev2, ev1, evCh, evB, evIf, evNil, evCons, evTup, evLst, evCall, evSl, evNo, evPart, vAnd, vOr, vNot, tAndE, tOrE, tNotE, binU, cmpU, biU, meU, g1, g2, maxG, minG, Es.len, Tg.slots, Tgs.slots, ex, exs, exh, sNx, sBk, sCt, sSeq, sDrop, sRet, sRetN, sAsg, sPar2, sPar3, sSub, sIf, sRaise, asg, asgs, R.bind_ok, R.bind_err, R.bind_bad, R.stm_ok, R.stm_err, R.stm_bad, opt_some, opt_none, noErr_ok, noErr_bad, leave_d, leave_n, leave_e, leave_da, mkL_f, tru, truU, truD, asB, asBo, bagO, getU, dctOf, getS, ixO, at0, at1, at2, at3, cmpI, hlt, intU, Py.intOp, gd, gm, setU, leave, outU, lenU, lenN, seqOf, mulU, p18, g3, g4, gs, addU, Py.listOf, addD, cellD, cellC, L2.ixN, gSubI, negU, mulK, ha, q, hx, hc, w1, w2]
        · refine key (2 * (x)) b0 (fun rest => ?_)
          rw [r__law_pick]
          simp [b__law_pick, evCl_0, evCl_1, evCl_2, evCl_3, evCl_4, evCl_k, ev, tv, evs, evo, evc, evw, evV, evC, evT, ev2, ev1, evCh, evB, evIf, evNil, evCons, evTup, evLst, evCall, evSl, evNo, evPart, vAnd, vOr, vNot, tAndE, tOrE, tNotE, binU, cmpU, biU, meU, g1, g2, maxG, minG, Es.len, Tg.slots, Tgs.slots, ex, exs, exh, sNx, sBk, sCt, sSeq, sDrop, sRet, sRetN, sAsg, sPar2, sPar3, sSub, sIf, sRaise, asg, asgs, R.bind_ok, R.bind_err, R.bind_bad, R.stm_ok, R.stm_err, R.stm_bad, opt_some, opt_none, noErr_ok, noErr_bad, leave_d, leave_n, leave_e, leave_da, mkL_f, tru, truU, truD, asB, asBo, bagO, getU, dctOf, getS, ixO, at0, at1, at2, at3, cmpI, hlt, intU, Py.intOp, gd, gm, setU, leave, outU, lenU, lenN, seqOf, mulU, p18, g3, g4, gs, addU, Py.listOf, addD, cellD, cellC, L2.ixN, gSubI, negU, mulK, ha, q, hx, hc]
      · have eB : cellB (x) = -2 * (x) - 1 := by unfold cellB; rw [if_neg hx]
        rw [eB] at b0
        by_cases hc : -2 * (x) - 1 < 1000000000000000000
        · obtain ⟨w1, w2, w3⟩ := cellC_ok b0 hc h1 (by omega : a ≤ 100000)
          refine key (cellD (cellC (-2 * (x) - 1) a)) (cellD_nn w3) (fun rest => ?_)
          rw [r__law_pick]
          unfold cellC at w2
          simp [b__law_pick, evCl_0, evCl_1, evCl_2, evCl_3, evCl_4, evCl_k, ev, tv, evs, evo, evc, evw, evV, evC, evT, ev2, ev1, evCh, evB, evIf, evNil, evCons, evTup, evLst, evCall, evSl, evNo, evPart, vAnd, vOr, vNot, tAndE, tOrE, tNotE, binU, cmpU, biU, meU, g1, g2, maxG, minG, Es.len, Tg.slots, Tgs.slots, ex, exs, exh, sNx, sBk, sCt, sSeq, sDrop, sRet, sRetN, sAsg, sPar2, sPar3, sSub, sIf, sRaise, asg, asgs, R.bind_ok, R.bind_err, R.bind_bad, R.stm_ok, R.stm_err, R.stm_bad, opt_some, opt_none, noErr_ok, noErr_bad, leave_d, leave_n, leave_e, leave_da, mkL_f, tru, truU, truD, asB, asBo, bagO, getU, dctOf, getS, ixO, at0, at1, at2, at3, cmpI, hlt, intU, Py.intOp, gd, gm, setU, leave, outU, lenU, lenN, seqOf, mulU, p18, g3, g4, gs, addU, Py.listOf, addD, cellD, cellC, L2.ixN, gSubI, negU, mulK, ha, q, hx, hc, w1, w2]
        · refine key (-2 * (x) - 1) b0 (fun rest => ?_)
          rw [r__law_pick]
          simp [b__law_pick, evCl_0, evCl_1, evCl_2, evCl_3, evCl_4, evCl_k, ev, tv, evs, evo, evc, evw, evV, evC, evT, ev2, ev1, evCh, evB, evIf, evNil, evCons, evTup, evLst, evCall, evSl, evNo, evPart, vAnd, vOr, vNot, tAndE, tOrE, tNotE, binU, cmpU, biU, meU, g1, g2, maxG, minG, Es.len, Tg.slots, Tgs.slots, ex, exs, exh, sNx, sBk, sCt, sSeq, sDrop, sRet, sRetN, sAsg, sPar2, sPar3, sSub, sIf, sRaise, asg, asgs, R.bind_ok, R.bind_err, R.bind_bad, R.stm_ok, R.stm_err, R.stm_bad, opt_some, opt_none, noErr_ok, noErr_bad, leave_d, leave_n, leave_e, leave_da, mkL_f, tru, truU, truD, asB, asBo, bagO, getU, dctOf, getS, ixO, at0, at1, at2, at3, cmpI, hlt, intU, Py.intOp, gd, gm, setU, leave, outU, lenU, lenN, seqOf, mulU, p18, g3, g4, gs, addU, Py.listOf, addD, cellD, cellC, L2.ixN, gSubI, negU, mulK, ha, q, hx, hc]
    · have eA : cellA cs a s = s.fdiv 3 + 77003 * a := by unfold cellA; rw [if_neg ha]
      have q : True := trivial
      rw [eA] at b0
      by_cases hx : 0 ≤ s.fdiv 3 + 77003 * a
      · have eB : cellB (s.fdiv 3 + 77003 * a) = 2 * (s.fdiv 3 + 77003 * a) := by unfold cellB; rw [if_pos hx]
        rw [eB] at b0
        by_cases hc : 2 * (s.fdiv 3 + 77003 * a) < 1000000000000000000
        · obtain ⟨w1, w2, w3⟩ := cellC_ok b0 hc h1 (by omega : a ≤ 100000)
          refine key (cellD (cellC (2 * (s.fdiv 3 + 77003 * a)) a)) (cellD_nn w3) (fun rest => ?_)
          rw [r__law_pick]
          unfold cellC at w2
          simp [b__law_pick, evCl_0, evCl_1, evCl_2, evCl_3, evCl_4, evCl_k, ev, tv, evs, evo, evc, evw, evV, evC, evT, ev2, ev1, evCh, evB, evIf, evNil, evCons, evTup, evLst, evCall, evSl, evNo, evPart, vAnd, vOr, vNot, tAndE, tOrE, tNotE, binU, cmpU, biU, meU, g1, g2, maxG, minG, Es.len, Tg.slots, Tgs.slots, ex, exs, exh, sNx, sBk, sCt, sSeq, sDrop, sRet, sRetN, sAsg, sPar2, sPar3, sSub, sIf, sRaise, asg, asgs, R.bind_ok, R.bind_err, R.bind_bad, R.stm_ok, R.stm_err, R.stm_bad, opt_some, opt_none, noErr_ok, noErr_bad, leave_d, leave_n, leave_e, leave_da, mkL_f, tru, truU, truD, asB, asBo, bagO, getU, dctOf, getS, ixO, at0, at1, at2, at3, cmpI, hlt, intU, Py.intOp, gd, gm, setU, leave, outU, lenU, lenN, seqOf, mulU, p18, g3, g4, gs, addU, Py.listOf, addD, cellD, cellC, L2.ixN, gSubI, negU, mulK, ha, q, hx, hc, w1, w2]
        · refine key (2 * (s.fdiv 3 + 77003 * a)) b0 (fun rest => ?_)
          rw [r__law_pick]
          simp [b__law_pick, evCl_0, evCl_1, evCl_2, evCl_3, evCl_4, evCl_k, ev, tv, evs, evo, evc, evw, evV, evC, evT, ev2, ev1, evCh, evB, evIf, evNil, evCons, evTup, evLst, evCall, evSl, evNo, evPart, vAnd, vOr, vNot, tAndE, tOrE, tNotE, binU, cmpU, biU, meU, g1, g2, maxG, minG, Es.len, Tg.slots, Tgs.slots, ex, exs, exh, sNx, sBk, sCt, sSeq, sDrop, sRet, sRetN, sAsg, sPar2, sPar3, sSub, sIf, sRaise, asg, asgs, R.bind_ok, R.bind_err, R.bind_bad, R.stm_ok, R.stm_err, R.stm_bad, opt_some, opt_none, noErr_ok, noErr_bad, leave_d, leave_n, leave_e, leave_da, mkL_f, tru, truU, truD, asB, asBo, bagO, getU, dctOf, getS, ixO, at0, at1, at2, at3, cmpI, hlt, intU, Py.intOp, gd, gm, setU, leave, outU, lenU, lenN, seqOf, mulU, p18, g3, g4, gs, addU, Py.listOf, addD, cellD, cellC, L2.ixN, gSubI, negU, mulK, ha, q, hx, hc]
      · have eB : cellB (s.fdiv 3 + 77003 * a) = -2 * (s.fdiv 3 + 77003 * a) - 1 := by unfold cellB; rw [if_neg hx]
        rw [eB] at b0
        by_cases hc : -2 * (s.fdiv 3 + 77003 * a) - 1 < 1000000000000000000
        · obtain ⟨w1, w2, w3⟩ := cellC_ok b0 hc h1 (by omega : a ≤ 100000)
          refine key (cellD (cellC (-2 * (s.fdiv 3 + 77003 * a) - 1) a)) (cellD_nn w3) (fun rest => ?_)
          rw [r__law_pick]
          unfold cellC at w2
          simp [b__law_pick, evCl_0, evCl_1, evCl_2, evCl_3, evCl_4, evCl_k, ev, tv, evs, evo, evc, evw, evV, evC, evT, ev2, ev1, evCh, evB, evIf, evNil, evCons, evTup, evLst, evCall, evSl, evNo, evPart, vAnd, vOr, vNot, tAndE, tOrE, tNotE, binU, cmpU, biU, meU, g1, g2, maxG, minG, Es.len, Tg.slots, Tgs.slots, ex, exs, exh, sNx, sBk, sCt, sSeq, sDrop, sRet, sRetN, sAsg, sPar2, sPar3, sSub, sIf, sRaise, asg, asgs, R.bind_ok, R.bind_err, R.bind_bad, R.stm_ok, R.stm_err, R.stm_bad, opt_some, opt_none, noErr_ok, noErr_bad, leave_d, leave_n, leave_e, leave_da, mkL_f, tru, truU, truD, asB, asBo, bagO, getU, dctOf, getS, ixO, at0, at1, at2, at3, cmpI, hlt, intU, Py.intOp, gd, gm, setU, leave, outU, lenU, lenN, seqOf, mulU, p18, g3, g4, gs, addU, Py.listOf, addD, cellD, cellC, L2.ixN, gSubI, negU, mulK, ha, q, hx, hc, w1, w2]
        · refine key (-2 * (s.fdiv 3 + 77003 * a) - 1) b0 (fun rest => ?_)
          rw [r__law_pick]
          simp [b__law_pick, evCl_0, evCl_1, evCl_2, evCl_3, evCl_4, evCl_k, ev, tv, evs, evo, evc, evw, evV, evC, evT, ev2, ev1, evCh, evB, evIf, evNil, evCons, evTup, evLst, evCall, evSl, evNo, evPart, vAnd, vOr, vNot, tAndE, tOrE, tNotE, binU, cmpU, biU, meU, g1, g2, maxG, minG, Es.len, Tg.slots, Tgs.slots, ex, exs, exh, sNx, sBk, sCt, sSeq, sDrop, sRet, sRetN, sAsg, sPar2, sPar3, sSub, sIf, sRaise, asg, asgs, R.bind_ok, R.bind_err, R.bind_bad, R.stm_ok, R.stm_err, R.stm_bad, opt_some, opt_none, noErr_ok, noErr_bad, leave_d, leave_n, leave_e, leave_da, mkL_f, tru, truU, truD, asB, asBo, bagO, getU, dctOf, getS, ixO, at0, at1, at2, at3, cmpI, hlt, intU, Py.intOp, gd, gm, setU, leave, outU, lenU, lenN, seqOf, mulU, p18, g3, g4, gs, addU, Py.listOf, addD, cellD, cellC, L2.ixN, gSubI, negU, mulK, ha, q, hx, hc]
  · refine ⟨c.fmod many, bagO cs a (c.fdiv many) s, fun rest => ?_, (fmod_in hm).1, (fmod_in hm).2, a, c.fdiv many, s, rfl, h1, by omega, fdiv_nn h3 hm, h4, h5⟩
    rw [r__law_pick]
    simp [b__law_pick, evCl_0, evCl_1, evCl_2, evCl_3, evCl_4, evCl_k, ev, tv, evs, evo, evc, evw, evV, evC, evT, ev2, ev1, evCh, evB, evIf, evNil, evCons, evTup, evLst, evCall, evSl, evNo, evPart, vAnd, vOr, vNot, tAndE, tOrE, tNotE, binU, cmpU, biU, meU, g1, g2, maxG, minG, Es.len, Tg.slots, Tgs.slots, ex, exs, exh, sNx, sBk, sCt, sSeq, sDrop, sRet, sRetN, sAsg, sPar2, sPar3, sSub, sIf, sRaise, asg, asgs, R.bind_ok, R.bind_err, R.bind_bad, R.stm_ok, R.stm_err, R.stm_bad, opt_some, opt_none, noErr_ok, noErr_bad, leave_d, leave_n, leave_e, leave_da, mkL_f, tru, truU, truD, asB, asBo, bagO, getU, dctOf, getS, ixO, L2.atI, L2.ixN, cmpI, hlt, intU, Py.intOp, gd, gm, setU, leave, outU]
end K29

namespace K29
open PySem PySem.Spec PyProof.Rows L2 Py
variable {F k : Nat}
/-! ### the law's own functions -/
theorem range_get {n : Nat} {pre r : List U} {u : U} (e : rngL 0 1 n = pre ++ u :: r) : u = .d (.int pre.length) ∧ pre.length < n := by
  have h1 : (rngL 0 1 n)[pre.length]? = some u := by rw [e, List.getElem?_append_right (Nat.le_refl _), Nat.sub_self]; rfl
  rw [rngL_get] at h1
  split at h1
  · rename_i hlt; cases h1; exact ⟨by simp, hlt⟩
  · cases h1
theorem rngL_len (n : Nat) : (rngL 0 1 n).length = n := by rw [rngL_map]; simp
theorem p_power (n : Int) (h : List O) (h0 : 0 ≤ n) (h1 : n ≤ 100000) : run G F (dsOf dd) (k + 1) "_law_power" [.d (.int n)] h = .ok (.d (.int (2 ^ n.toNat))) h := by
  rw [r__law_power]
  have hr : Py.inR n = true := Py.inR_of h0 (by omega)
  have loop : ∃ σ' h', ex G (run G F (dsOf dd) k) F f__law_power_0 [some (.d (.int n)), some (.d (.int 1)), none] h = .nx σ' h' ∧ (∃ u, σ' = [some (.d (.int n)), some (.d (.int (2 ^ (rngL 0 1 n.toNat).length))), u]) ∧ h' = h := by
    unfold f__law_power_0
    refine for_inv (us := rngL 0 1 n.toNat) (h1 := h) (fun pre σ h' => (∃ u, σ = [some (.d (.int n)), some (.d (.int (2 ^ pre.length))), u]) ∧ h' = h) ?_ ⟨⟨_, rfl⟩, rfl⟩ (fun pre u r e σ h' hI => ?_)
    · simp [evCl_0, evCl_1, evCl_2, evCl_3, evCl_4, evCl_k, ev, tv, evs, evo, evc, evw, evV, evC, evT, ev2, ev1, evCh, evB, evIf, evNil, evCons, evTup, evLst, evCall, evSl, evNo, evPart, vAnd, vOr, vNot, tAndE, tOrE, tNotE, binU, cmpU, biU, meU, g1, g2, maxG, minG, Es.len, Tg.slots, Tgs.slots, ex, exs, exh, sNx, sBk, sCt, sSeq, sDrop, sRet, sRetN, sAsg, sPar2, sPar3, sSub, sIf, sRaise, asg, asgs, R.bind_ok, R.bind_err, R.bind_bad, R.stm_ok, R.stm_err, R.stm_bad, opt_some, opt_none, noErr_ok, noErr_bad, leave_d, leave_n, leave_e, leave_da, mkL_f, tru, truU, truD, asB, asBo, rngS, hr]
    · obtain ⟨⟨u2, rfl⟩, rfl⟩ := hI
      obtain ⟨rfl, _⟩ := range_get e
      refine ⟨_, [some (.d (.int n)), some (.d (.int (2 ^ (pre.length + 1)))), some (.d (.int pre.length))], h', rfl, ?_, ⟨some (.d (.int pre.length)), by simp⟩, rfl⟩
      have : mulOk (2 ^ pre.length) 2 = true := mulK (.inr (by decide))
      simp [l__law_power_0, evCl_0, evCl_1, evCl_2, evCl_3, evCl_4, evCl_k, ev, tv, evs, evo, evc, evw, evV, evC, evT, ev2, ev1, evCh, evB, evIf, evNil, evCons, evTup, evLst, evCall, evSl, evNo, evPart, vAnd, vOr, vNot, tAndE, tOrE, tNotE, binU, cmpU, biU, meU, g1, g2, maxG, minG, Es.len, Tg.slots, Tgs.slots, ex, exs, exh, sNx, sBk, sCt, sSeq, sDrop, sRet, sRetN, sAsg, sPar2, sPar3, sSub, sIf, sRaise, asg, asgs, R.bind_ok, R.bind_err, R.bind_bad, R.stm_ok, R.stm_err, R.stm_bad, opt_some, opt_none, noErr_ok, noErr_bad, leave_d, leave_n, leave_e, leave_da, mkL_f, tru, truU, truD, asB, asBo, mulU, this, Int.pow_succ]
  obtain ⟨σ', h', e, ⟨u, rfl⟩, rfl⟩ := loop
  rw [rngL_len] at e
  simp [b__law_power, evCl_0, evCl_1, evCl_2, evCl_3, evCl_4, evCl_k, ev, tv, evs, evo, evc, evw, evV, evC, evT, ev2, ev1, evCh, evB, evIf, evNil, evCons, evTup, evLst, evCall, evSl, evNo, evPart, vAnd, vOr, vNot, tAndE, tOrE, tNotE, binU, cmpU, biU, meU, g1, g2, maxG, minG, Es.len, Tg.slots, Tgs.slots, ex, exs, exh, sNx, sBk, sCt, sSeq, sDrop, sRet, sRetN, sAsg, sPar2, sPar3, sSub, sIf, sRaise, asg, asgs, R.bind_ok, R.bind_err, R.bind_bad, R.stm_ok, R.stm_err, R.stm_bad, opt_some, opt_none, noErr_ok, noErr_bad, leave_d, leave_n, leave_e, leave_da, mkL_f, tru, truU, truD, asB, asBo, e]
theorem eq_ii (neg : Bool) (i j : Int) (h : List O) : Py.eqU neg (.d (.int i)) (.d (.int j)) h = .ok (.d (.bool (neg != decide (i = j)))) h := by
  have d1 : PyData.depth (.int i) ≤ 64 := by unfold PyData.depth; decide
  have e : (i == j) = decide (i = j) := by by_cases q : i = j <;> simp [q]
  simp [Py.eqU, eqO, Py.dataOf, d1, PyData.eqv, e]
theorem eq_bb (neg : Bool) (i j : Bool) (h : List O) : Py.eqU neg (.d (.bool i)) (.d (.bool j)) h = .ok (.d (.bool (neg != (i == j)))) h := by
  have d1 : PyData.depth (.bool i) ≤ 64 := by unfold PyData.depth; decide
  simp [Py.eqU, eqO, Py.dataOf, d1, PyData.eqv]
theorem depth_ints' (ns : List Int) : PyData.depth (.tuple (ns.map .int)) ≤ 64 := by
  have := depth_ints ns
  unfold PyData.depth
  omega
theorem lay_ints (ns : List Int) : PyData.canLayAll0 (ns.map .int) = true := by
  induction ns with
  | nil => rfl
  | cons n r ih => rw [List.map_cons, PyData.canLayAll0, ih]; rfl
theorem eqv_ints : ∀ xs ys : List Int, PyData.eqvAll (xs.map .int) (ys.map .int) = decide (xs = ys)
  | [], [] => by simp [PyData.eqvAll]
  | [], _ :: _ => by simp [PyData.eqvAll]
  | _ :: _, [] => by simp [PyData.eqvAll]
  | x :: xs, y :: ys => by
    rw [List.map_cons, List.map_cons, PyData.eqvAll, eqv_ints xs ys]
    have e : (x == y) = decide (x = y) := by by_cases q : x = y <;> simp [q]
    simp [PyData.eqv, e]
theorem eq_tt (neg : Bool) (xs ys : List Int) (h : List O) : Py.eqU neg (.d (.tuple (xs.map .int))) (.d (.tuple (ys.map .int))) h = .ok (.d (.bool (neg != decide (xs = ys)))) h := by
  simp [Py.eqU, eqO, Py.dataOf, depth_ints', PyData.eqv, eqv_ints]
theorem eq_ll (neg : Bool) (xs ys : List Int) (h : List O) : Py.eqU neg (.d (.list (xs.map .int))) (.d (.list (ys.map .int))) h = .ok (.d (.bool (neg != decide (xs = ys)))) h := by
  have : ∀ ns : List Int, PyData.depth (.list (ns.map .int)) ≤ 64 := fun ns => by
    have := depth_ints ns
    unfold PyData.depth
    omega
  simp [Py.eqU, eqO, Py.dataOf, this, PyData.eqv, eqv_ints]
/-- numbers, alike -/
theorem p_same_int (i j : Int) (h : List O) : run G F (dsOf dd) (k + 1) "_law_same" [.d (.int i), .d (.int j)] h = .ok (.d (.bool (decide (i = j)))) h := by
  rw [r__law_same]
  simp [b__law_same, evCl_0, evCl_1, evCl_2, evCl_3, evCl_4, evCl_k, ev, tv, evs, evo, evc, evw, evV, evC, evT, ev2, ev1, evCh, evB, evIf, evNil, evCons, evTup, evLst, evCall, evSl, evNo, evPart, vAnd, vOr, vNot, tAndE, tOrE, tNotE, binU, cmpU, biU, meU, g1, g2, maxG, minG, Es.len, Tg.slots, Tgs.slots, ex, exs, exh, sNx, sBk, sCt, sSeq, sDrop, sRet, sRetN, sAsg, sPar2, sPar3, sSub, sIf, sRaise, asg, asgs, R.bind_ok, R.bind_err, R.bind_bad, R.stm_ok, R.stm_err, R.stm_bad, opt_some, opt_none, noErr_ok, noErr_bad, leave_d, leave_n, leave_e, leave_da, mkL_f, tru, truU, truD, asB, asBo, isiU, tyN, isaB, tyNames, eq_ii, eq_bb, Py.isU, Py.isNon]
theorem atI_tup {xs : List Int} {j : Nat} (h : j < xs.length) : L2.atI (xs.map PyData.int) (j : Int) = some (.int xs[j]) := by
  rw [atI_int (by omega) (by omega)]
  simp [List.getD_eq_getElem?_getD, List.getElem?_eq_getElem h]
theorem p_same_tup (xs : List Int) (h : List O) (hl : xs.length ≤ 1000000) : run G F (dsOf dd) (k + 2) "_law_same" [.d (.tuple (xs.map .int)), .d (.tuple (xs.map .int))] h = .ok (.d (.bool true)) h := by
  rw [r__law_same]
  have hr : Py.inR (xs.length : Int) = true := Py.inR_of (by omega) (by omega)
  have key : ev G (run G F (dsOf dd) (k + 1)) c__law_same_0 [some (.d (.tuple (xs.map .int))), some (.d (.tuple (xs.map .int))), none] h = mkL false (((rngL 0 1 xs.length).filter fun _ => false).map fun _ => .none) h := by
    refine ev_lcp (us := rngL 0 1 xs.length) (h1 := h) (fun _ => false) (fun _ => .none) ?_ ?_ (fun u hu => ?_)
    · simp [evCl_0, evCl_1, evCl_2, evCl_3, evCl_4, evCl_k, ev, tv, evs, evo, evc, evw, evV, evC, evT, ev2, ev1, evCh, evB, evIf, evNil, evCons, evTup, evLst, evCall, evSl, evNo, evPart, vAnd, vOr, vNot, tAndE, tOrE, tNotE, binU, cmpU, biU, meU, g1, g2, maxG, minG, Es.len, Tg.slots, Tgs.slots, ex, exs, exh, sNx, sBk, sCt, sSeq, sDrop, sRet, sRetN, sAsg, sPar2, sPar3, sSub, sIf, sRaise, asg, asgs, R.bind_ok, R.bind_err, R.bind_bad, R.stm_ok, R.stm_err, R.stm_bad, opt_some, opt_none, noErr_ok, noErr_bad, leave_d, leave_n, leave_e, leave_da, mkL_f, tru, truU, truD, asB, asBo, lenU, lenN, rngS, hr]
    · rw [rngL_len]; omega
    · obtain ⟨j, hj⟩ := List.getElem?_of_mem hu
      rw [rngL_get] at hj
      split at hj
      · rename_i hlt
        have hj := Option.some.inj hj
        rw [Int.zero_add, Int.mul_one] at hj
        subst hj
        refine ⟨[some (.d (.tuple (xs.map .int))), some (.d (.tuple (xs.map .int))), some (.d (.int j))], rfl, fun acc => ⟨?_, fun z => by cases z⟩⟩
        simp [evCl_0, evCl_1, evCl_2, evCl_3, evCl_4, evCl_k, ev, tv, evs, evo, evc, evw, evV, evC, evT, ev2, ev1, evCh, evB, evIf, evNil, evCons, evTup, evLst, evCall, evSl, evNo, evPart, vAnd, vOr, vNot, tAndE, tOrE, tNotE, binU, cmpU, biU, meU, g1, g2, maxG, minG, Es.len, Tg.slots, Tgs.slots, ex, exs, exh, sNx, sBk, sCt, sSeq, sDrop, sRet, sRetN, sAsg, sPar2, sPar3, sSub, sIf, sRaise, asg, asgs, R.bind_ok, R.bind_err, R.bind_bad, R.stm_ok, R.stm_err, R.stm_bad, opt_some, opt_none, noErr_ok, noErr_bad, leave_d, leave_n, leave_e, leave_da, mkL_f, tru, truU, truD, asB, asBo, getU, dctOf, getS, ixO, seqOf, atI_tup hlt, p_same_int]
      · cases hj
  have fl : ((rngL 0 1 xs.length).filter fun _ => false) = [] := by simp
  rw [fl, List.map_nil, mkL_f] at key
  have e2 := eq_ll false [] [] h
  rw [List.map_nil] at e2
  simp [b__law_same, evCl_0, evCl_1, evCl_2, evCl_3, evCl_4, evCl_k, ev, tv, evs, evo, evc, evw, evV, evC, evT, ev2, ev1, evCh, evB, evIf, evNil, evCons, evTup, evLst, evCall, evSl, evNo, evPart, vAnd, vOr, vNot, tAndE, tOrE, tNotE, binU, cmpU, biU, meU, g1, g2, maxG, minG, Es.len, Tg.slots, Tgs.slots, ex, exs, exh, sNx, sBk, sCt, sSeq, sDrop, sRet, sRetN, sAsg, sPar2, sPar3, sSub, sIf, sRaise, asg, asgs, R.bind_ok, R.bind_err, R.bind_bad, R.stm_ok, R.stm_err, R.stm_bad, opt_some, opt_none, noErr_ok, noErr_bad, leave_d, leave_n, leave_e, leave_da, mkL_f, tru, truU, truD, asB, asBo, isiU, tyN, isaB, tyNames, lenU, lenN, eq_ii, key, pures, e2]
end K29

namespace K29
open PySem PySem.Spec PyProof.Rows L2 Py
/-! ### numbers by their digits -/
/-- n stands in c digits -/
def fitN (n : Int) (c : Nat) : Prop := -(2 ^ (c - 1) : Int) ≤ n ∧ n < 2 ^ (c - 1)
instance (n : Int) (c : Nat) : Decidable (fitN n c) := by unfold fitN; infer_instance
theorem pow_pos' (k : Nat) : (0 : Int) < 2 ^ k := Int.pow_pos (by decide)
theorem fitN_succ (n : Int) (c : Nat) (h : 1 ≤ c) : fitN n (c + 1) ↔ fitN (n / 2) c := by
  obtain ⟨d, rfl⟩ : ∃ d, c = d + 1 := ⟨c - 1, by omega⟩
  unfold fitN
  rw [show d + 1 + 1 - 1 = d + 1 from rfl, show d + 1 - 1 = d from rfl, Int.pow_succ]
  have := pow_pos' d
  omega
theorem fitN_one (n : Int) : fitN n 1 ↔ n = 0 ∨ n = -1 := by
  unfold fitN
  simp
  omega
theorem fitN_mono {n : Int} {c d : Nat} (h : fitN n c) (hc : c ≤ d) : fitN n d := by
  unfold fitN at h ⊢
  have : (2 : Int) ^ (c - 1) ≤ 2 ^ (d - 1) := by
    have q : 2 ^ (c - 1) ≤ 2 ^ (d - 1) := Nat.pow_le_pow_right (by decide) (by omega : c - 1 ≤ d - 1)
    have e1 : ((2 ^ (c - 1) : Nat) : Int) = (2 : Int) ^ (c - 1) := by simp
    have e2 : ((2 ^ (d - 1) : Nat) : Int) = (2 : Int) ^ (d - 1) := by simp
    omega
  omega
/-- the digits of n, c of them -/
def bitsN (n : Int) : Nat → List Int
  | 0 => []
  | c + 1 => n % 2 :: bitsN (n / 2) c
theorem bitsN_length (n : Int) (c : Nat) : (bitsN n c).length = c := by
  induction c generalizing n with
  | zero => rfl
  | succ c ih => rw [bitsN, List.length_cons, ih]
theorem bitp_succ (n : Int) (p : Nat) : bitp n (p + 1) = bitp (n / 2) p := by
  unfold bitp
  rw [Int.pow_succ, Int.mul_comm, Int.ediv_ediv_of_nonneg (by decide)]
theorem bitsN_get (n : Int) : ∀ (c p : Nat), p < c → (bitsN n c)[p]? = some (bitp n p)
  | 0, p, h => by omega
  | c + 1, 0, _ => by rw [bitsN]; simp [bitp]
  | c + 1, p + 1, h => by rw [bitsN, List.getElem?_cons_succ, bitsN_get _ c p (by omega), bitp_succ]
/-- what digits say: the last one stands below zero -/
def valN : List Int → Int
  | [] => 0
  | [d] => -d
  | d :: e :: r => d + 2 * valN (e :: r)
def is01 (ds : List Int) : Prop := ∀ d ∈ ds, d = 0 ∨ d = 1
theorem val_bits : ∀ (c : Nat) (n : Int), 1 ≤ c → fitN n c → valN (bitsN n c) = n
  | 1, n, _, h => by
    rw [fitN_one] at h
    show -(n % 2) = n
    omega
  | c + 2, n, _, h => by
    rw [fitN_succ n (c + 1) (by omega)] at h
    have ih := val_bits (c + 1) (n / 2) (by omega) h
    rw [bitsN, show bitsN (n / 2) (c + 1) = n / 2 % 2 :: bitsN (n / 2 / 2) c from rfl, valN, show n / 2 % 2 :: bitsN (n / 2 / 2) c = bitsN (n / 2) (c + 1) from rfl, ih]
    omega
theorem bits_val : ∀ (ds : List Int), ds ≠ [] → is01 ds → bitsN (valN ds) ds.length = ds ∧ fitN (valN ds) ds.length
  | [], h, _ => absurd rfl h
  | [d], _, h => by
    have := h d List.mem_cons_self
    rw [show ([d] : List Int).length = 1 from rfl, fitN_one]
    show [valN [d] % 2] = [d] ∧ _
    unfold valN
    rcases this with rfl | rfl <;> simp
  | d :: e :: r, _, h => by
    have hd := h d List.mem_cons_self
    obtain ⟨h1, h2⟩ := bits_val (e :: r) (by simp) (fun x hx => h x (List.mem_cons_of_mem _ hx))
    have e2 : valN (d :: e :: r) / 2 = valN (e :: r) := by
      rw [valN]
      omega
    have e1 : valN (d :: e :: r) % 2 = d := by
      rw [valN]
      omega
    rw [show (d :: e :: r).length = (e :: r).length + 1 from rfl]
    refine ⟨?_, ?_⟩
    · rw [bitsN, e1, e2, h1]
    · rw [fitN_succ _ _ (by simp), e2]
      exact h2
/-- a digit less -/
theorem fitN_less {n : Int} {c : Nat} (h : fitN n (c + 2)) : fitN n (c + 1) ↔ bitp n (c + 1) = bitp n c := by
  induction c generalizing n with
  | zero =>
    rw [fitN_succ n 1 (by omega), fitN_one] at h
    rw [fitN_one]
    unfold bitp
    simp
    omega
  | succ c ih =>
    rw [fitN_succ n (c + 2) (by omega)] at h
    rw [fitN_succ n (c + 1) (by omega), ih h, bitp_succ n (c + 1), bitp_succ n c]
theorem bitp_high {n : Int} {c : Nat} (h : fitN n (c + 1)) : ∀ p, c ≤ p → bitp n p = bitp n c := by
  intro p hp
  induction p with
  | zero => rw [show c = 0 by omega]
  | succ p ih =>
    by_cases e : p + 1 = c
    · rw [e]
    · have hf : fitN n (p + 1) := fitN_mono h (by omega)
      rw [(fitN_less (fitN_mono h (by omega))).mp hf, ih (by omega)]
/-- how many digits a number takes -/
theorem bits_lt (m : Nat) (c : Nat) : Builtin.Int.intBits (m : Int) ≤ c ↔ m < 2 ^ c := by
  unfold Builtin.Int.intBits
  by_cases hm : m = 0
  · subst hm
    simp [Nat.pow_pos]
  · rw [if_neg (by simpa using hm)]
    rw [Int.natAbs_natCast]
    constructor
    · intro h
      exact (Nat.log2_lt hm).mp (by omega)
    · intro h
      have := (Nat.log2_lt hm).mpr h
      omega
theorem widN_le (n : Int) (c : Nat) (h : 1 ≤ c) : widN n ≤ c ↔ fitN n c := by
  obtain ⟨d, rfl⟩ : ∃ d, c = d + 1 := ⟨c - 1, by omega⟩
  unfold widN fitN
  rw [show d + 1 - 1 = d from rfl]
  have key : ∀ m : Nat, ((Builtin.Int.intBits (m : Int) : Nat) : Int) + 1 ≤ ((d + 1 : Nat) : Int) ↔ (m : Int) < 2 ^ d := by
    intro m
    have := bits_lt m d
    have e : ((2 ^ d : Nat) : Int) = (2 : Int) ^ d := by simp
    rw [← e]
    omega
  by_cases hn : 0 ≤ n
  · rw [if_pos hn]
    have k := key n.toNat
    rw [Int.toNat_of_nonneg hn] at k
    rw [k]
    have := pow_pos' d
    omega
  · rw [if_neg hn]
    have k := key (-n - 1).toNat
    rw [Int.toNat_of_nonneg (by omega)] at k
    rw [k]
    have := pow_pos' d
    omega
theorem widN_pos (n : Int) : 1 ≤ widN n := by unfold widN; omega
theorem widR_le (ns : List Int) (c : Nat) (h : 1 ≤ c) : widR ns ≤ c ↔ ∀ n ∈ ns, fitN n c := by
  unfold widR
  cases hm : ns.map widN with
  | nil =>
    have : ns = [] := by simpa using hm
    subst this
    simp
    omega
  | cons m r =>
    dsimp only
    obtain ⟨s1, s2⟩ := maxL_spec r m
    rw [← hm] at s1 s2
    constructor
    · intro hle n hn
      rw [← widN_le n c h]
      have := s2 _ (List.mem_map.mpr ⟨n, hn, rfl⟩)
      omega
    · intro hf
      obtain ⟨n, hn, e⟩ := List.mem_map.mp s1
      rw [← e]
      exact (widN_le n c h).mpr (hf n hn)
theorem widR_pos (ns : List Int) : 1 ≤ widR ns := by
  unfold widR
  cases hm : ns.map widN with
  | nil => simp
  | cons m r =>
    dsimp only
    obtain ⟨s1, s2⟩ := maxL_spec r m
    have := s2 m List.mem_cons_self
    have hmm : m ∈ ns.map widN := by rw [hm]; exact List.mem_cons_self
    obtain ⟨n, _, e⟩ := List.mem_map.mp hmm
    have := widN_pos n
    omega
end K29

namespace K29
open PySem PySem.Spec PyProof.Rows L2 Py
variable {F k : Nat}
theorem sumE_shift : ∀ (ds : List Int) (j : Nat), sumE (fun j d => d * 2 ^ j) (j + 1) ds = 2 * sumE (fun j d => d * 2 ^ j) j ds
  | [], _ => rfl
  | d :: r, j => by
    rw [sumE, sumE, sumE_shift r (j + 1), Int.pow_succ, Int.mul_add]
    congr 1
    rw [← Int.mul_assoc, Int.mul_comm _ 2]
def lastI (ds : List Int) : Int := ds.getLast?.getD 0
def valS (ds : List Int) : Int := sumE (fun j d => d * 2 ^ j) 0 ds.dropLast - lastI ds * 2 ^ (ds.length - 1)
theorem valS_val : ∀ ds : List Int, ds ≠ [] → valS ds = valN ds
  | [], h => absurd rfl h
  | [d], _ => by simp [valS, valN, sumE, lastI]
  | d :: e :: r, _ => by
    have ih := valS_val (e :: r) (by simp)
    rw [valN, ← ih]
    unfold valS
    rw [List.dropLast_cons_of_ne_nil (by simp), sumE, sumE_shift]
    rw [show (d :: e :: r).length - 1 = ((e :: r).length - 1) + 1 by simp, Int.pow_succ]
    rw [show lastI (d :: e :: r) = lastI (e :: r) by simp [lastI]]
    rw [Int.mul_sub, Int.pow_zero, Int.mul_one, ← Int.mul_assoc, Int.mul_comm _ 2]
    omega
theorem cut_m1 {α : Type} (xs : List α) (h : xs ≠ []) : cut xs none (some (-1)) = xs.dropLast := by
  unfold cut HT.sIx
  have : 0 < xs.length := List.length_pos_iff.mpr h
  simp
  rw [List.dropLast_eq_take]
  congr 1
  omega
theorem atI_m1 {ds : List Int} (h : ds ≠ []) : L2.atI (ds.map PyData.int) (-1) = some (.int (lastI ds)) := by
  have hl : 0 < ds.length := List.length_pos_iff.mpr h
  unfold L2.atI L2.ixN
  rw [if_neg (by decide), if_pos (by simp; omega)]
  have e : (-1 + ((ds.map PyData.int).length : Int)).toNat = ds.length - 1 := by simp; omega
  rw [e]
  simp only [Option.bind_some, List.getElem?_map]
  rw [← List.getLast?_eq_getElem?]
  unfold lastI
  cases q : ds.getLast? with
  | none => simp at q; exact absurd q h
  | some x => rfl
def dig (t : Nat) (ws : List Int) : List Int := ws.map fun c => c / 2 ^ t % 2
def shD (j : Nat) : D → D
  | .int d => .int (d * 2 ^ j)
  | _ => .none
theorem p_row_in (m : Int) (ws : List Int) (h : List O) (h0 : 0 ≤ m) (h1 : m ≤ 1000) (hne : ws ≠ []) (hl : ws.length ≤ 100000) :
    run G F (dsOf dd) (k + 2) "row_in" [.d (.int m), .d (.tuple (ws.map .int))] h = .ok (.d (.tuple ((List.range m.toNat).map fun t => .int (valN (dig t ws))))) h := by
  rw [r_row_in]
  have hr : Py.inR m = true := Py.inR_of h0 (by omega)
  have loop : ∃ σ' h', ex G (run G F (dsOf dd) (k + 1)) F f_row_in_0 [some (.d (.int m)), some (.d (.tuple (ws.map .int))), some (.lab h.length), none, none, none, none, none, none] (h ++ [.lst []]) = .nx σ' h' ∧
      (∃ u3 u4 u5 u6 u7 u8, σ' = [some (.d (.int m)), some (.d (.tuple (ws.map .int))), some (.lab h.length), u3, u4, u5, u6, u7, u8]) ∧ h' = h ++ [.lst ((List.range (rngL 0 1 m.toNat).length).map fun t => .int (valN (dig t ws)))] := by
    unfold f_row_in_0
    refine for_inv (us := rngL 0 1 m.toNat) (h1 := h ++ [.lst []]) (fun pre σ h' => (∃ u3 u4 u5 u6 u7 u8, σ = [some (.d (.int m)), some (.d (.tuple (ws.map .int))), some (.lab h.length), u3, u4, u5, u6, u7, u8]) ∧ h' = h ++ [.lst ((List.range pre.length).map fun t => .int (valN (dig t ws)))])
      ?_ ⟨⟨_, _, _, _, _, _, rfl⟩, rfl⟩ (fun pre u r e σ h' hI => ?_)
    · simp [evCl_0, evCl_1, evCl_2, evCl_3, evCl_4, evCl_k, ev, tv, evs, evo, evc, evw, evV, evC, evT, ev2, ev1, evCh, evB, evIf, evNil, evCons, evTup, evLst, evCall, evSl, evNo, evPart, vAnd, vOr, vNot, tAndE, tOrE, tNotE, binU, cmpU, biU, meU, g1, g2, maxG, minG, Es.len, Tg.slots, Tgs.slots, ex, exs, exh, sNx, sBk, sCt, sSeq, sDrop, sRet, sRetN, sAsg, sPar2, sPar3, sSub, sIf, sRaise, asg, asgs, R.bind_ok, R.bind_err, R.bind_bad, R.stm_ok, R.stm_err, R.stm_bad, opt_some, opt_none, noErr_ok, noErr_bad, leave_d, leave_n, leave_e, leave_da, mkL_f, tru, truU, truD, asB, asBo, rngS, hr]
    · obtain ⟨⟨u3, u4, u5, u6, u7, u8, rfl⟩, rfl⟩ := hI
      obtain ⟨rfl, hlt⟩ := range_get e
      have hd : dig pre.length ws ≠ [] := by unfold dig; simpa using hne
      have hdl : (dig pre.length ws).length = ws.length := by unfold dig; simp
      have hm : ws.map (fun c => PyData.int (c / 2 ^ pre.length % 2)) = (dig pre.length ws).map .int := by unfold dig; rw [List.map_map]; rfl
      have s0 : ∀ hh, ex G (run G F (dsOf dd) (k + 1)) F s_row_in_0 [some (.d (.int m)), some (.d (.tuple (ws.map .int))), some (.lab h.length), some (.d (.int pre.length)), u4, u5, u6, u7, u8] hh =
          .nx [some (.d (.int m)), some (.d (.tuple (ws.map .int))), some (.lab h.length), some (.d (.int pre.length)), some (.d (.list ((dig pre.length ws).map .int))), u5, u6, u7, u8] hh := fun hh => by
        have q : ev G (run G F (dsOf dd) (k + 1)) (.lc false (.nm 6) (.seq (.var 1)) .no (.call "digit" [0, 1] (.cons (.var 6) (.cons (.var 3) .nil)) .nil)) [some (.d (.int m)), some (.d (.tuple (ws.map .int))), some (.lab h.length), some (.d (.int pre.length)), u4, u5, u6, u7, u8] hh =
            mkL false ((dig pre.length ws).map .int) hh := by
          rw [← hm]
          refine (ev_lcD (ws.map .int) (fun x => match x with | .int c => .int (c / 2 ^ pre.length % 2) | _ => .none) rfl (by simp; omega) (fun x hx => ?_)).trans (by rw [List.map_map]; rfl)
          obtain ⟨c, _, rfl⟩ := List.mem_map.mp hx
          exact ⟨[some (.d (.int m)), some (.d (.tuple (ws.map .int))), some (.lab h.length), some (.d (.int pre.length)), u4, u5, some (.d (.int c)), u7, u8], rfl, fun acc => by simp [evCl_0, evCl_1, evCl_2, evCl_3, evCl_4, evCl_k, ev, tv, evs, evo, evc, evw, evV, evC, evT, ev2, ev1, evCh, evB, evIf, evNil, evCons, evTup, evLst, evCall, evSl, evNo, evPart, vAnd, vOr, vNot, tAndE, tOrE, tNotE, binU, cmpU, biU, meU, g1, g2, maxG, minG, Es.len, Tg.slots, Tgs.slots, ex, exs, exh, sNx, sBk, sCt, sSeq, sDrop, sRet, sRetN, sAsg, sPar2, sPar3, sSub, sIf, sRaise, asg, asgs, R.bind_ok, R.bind_err, R.bind_bad, R.stm_ok, R.stm_err, R.stm_bad, opt_some, opt_none, noErr_ok, noErr_bad, leave_d, leave_n, leave_e, leave_da, mkL_f, tru, truU, truD, asB, asBo, p_digit]⟩
        show (ev G (run G F (dsOf dd) (k + 1)) (.lc false (.nm 6) (.seq (.var 1)) .no (.call "digit" [0, 1] (.cons (.var 6) (.cons (.var 3) .nil)) .nil)) _ hh).stm _ _ = _
        rw [q]
        rfl
      have s1 : ∀ hh u5, ev G (run G F (dsOf dd) (k + 1)) c_row_in_0 [some (.d (.int m)), some (.d (.tuple (ws.map .int))), some (.lab h.length), some (.d (.int pre.length)), some (.d (.list ((dig pre.length ws).map .int))), u5, u6, u7, u8] hh = mkL false (mapE shD 0 ((dig pre.length ws).dropLast.map .int)) hh := fun hh u5 => by
        refine ev_lcE ((dig pre.length ws).dropLast.map .int) shD ?_ (by simp; omega) (fun j x hx => ?_)
        · have hmne : (dig pre.length ws).map PyData.int ≠ [] := by simpa using hd
          simp [evCl_0, evCl_1, evCl_2, evCl_3, evCl_4, evCl_k, ev, tv, evs, evo, evc, evw, evV, evC, evT, ev2, ev1, evCh, evB, evIf, evNil, evCons, evTup, evLst, evCall, evSl, evNo, evPart, vAnd, vOr, vNot, tAndE, tOrE, tNotE, binU, cmpU, biU, meU, g1, g2, maxG, minG, Es.len, Tg.slots, Tgs.slots, ex, exs, exh, sNx, sBk, sCt, sSeq, sDrop, sRet, sRetN, sAsg, sPar2, sPar3, sSub, sIf, sRaise, asg, asgs, R.bind_ok, R.bind_err, R.bind_bad, R.stm_ok, R.stm_err, R.stm_bad, opt_some, opt_none, noErr_ok, noErr_bad, leave_d, leave_n, leave_e, leave_da, mkL_f, tru, truU, truD, asB, asBo, slU, lstLike, Py.listOf, negU, asI, cut_m1 _ hmne, enuS, List.map_dropLast]
        · obtain ⟨d, rfl, hj⟩ := get_int hx
          have hd01 : d = 0 ∨ d = 1 := by
            rw [List.getElem?_map] at hx
            cases q : (dig pre.length ws).dropLast[j]? with
            | none => rw [q] at hx; cases hx
            | some z =>
              rw [q] at hx
              cases hx
              have := List.dropLast_subset _ (List.mem_of_getElem? q)
              unfold dig at this
              obtain ⟨c, _, rfl⟩ := List.mem_map.mp this
              omega
          refine ⟨[some (.d (.int m)), some (.d (.tuple (ws.map .int))), some (.lab h.length), some (.d (.int pre.length)), some (.d (.list ((dig pre.length ws).map .int))), u5, u6, some (.d (.int j)), some (.d (.int d))], rfl, fun acc => ?_⟩
          have g : gShl d j = some (d * 2 ^ j) := shl_bit hd01 (by simp at hj; omega)
          simp [evCl_0, evCl_1, evCl_2, evCl_3, evCl_4, evCl_k, ev, tv, evs, evo, evc, evw, evV, evC, evT, ev2, ev1, evCh, evB, evIf, evNil, evCons, evTup, evLst, evCall, evSl, evNo, evPart, vAnd, vOr, vNot, tAndE, tOrE, tNotE, binU, cmpU, biU, meU, g1, g2, maxG, minG, Es.len, Tg.slots, Tgs.slots, ex, exs, exh, sNx, sBk, sCt, sSeq, sDrop, sRet, sRetN, sAsg, sPar2, sPar3, sSub, sIf, sRaise, asg, asgs, R.bind_ok, R.bind_err, R.bind_bad, R.stm_ok, R.stm_err, R.stm_bad, opt_some, opt_none, noErr_ok, noErr_bad, leave_d, leave_n, leave_e, leave_da, mkL_f, tru, truU, truD, asB, asBo, Py.intOp, g, shD]
      have hlast : lastI (dig pre.length ws) = 0 ∨ lastI (dig pre.length ws) = 1 := by
        unfold lastI
        cases q : (dig pre.length ws).getLast? with
        | none => exact .inl rfl
        | some z =>
          have := List.mem_of_getLast? q
          unfold dig at this
          obtain ⟨c, _, rfl⟩ := List.mem_map.mp this
          show c / 2 ^ pre.length % 2 = 0 ∨ c / 2 ^ pre.length % 2 = 1
          omega
      have hlen : (1 : Int) ≤ (ws.length : Int) := by have := List.length_pos_iff.mpr hne; omega
      have ecast : ((ws.length : Int) - 1) = ((ws.length - 1 : Nat) : Int) := by omega
      have g2 : gShl (lastI (dig pre.length ws)) ((ws.length : Int) - 1) = some (lastI (dig pre.length ws) * 2 ^ (ws.length - 1)) := by
        rw [ecast]; exact shl_bit hlast (by omega)
      have hval : sumE (fun j d => d * 2 ^ j) 0 (dig pre.length ws).dropLast - lastI (dig pre.length ws) * 2 ^ (ws.length - 1) = valN (dig pre.length ws) := by
        rw [← valS_val _ hd]; unfold valS; rw [hdl]
      have hsum : ∀ hh, sumU (.d (.list (mapE shD 0 ((dig pre.length ws).map PyData.int).dropLast))) hh = .ok (.d (.int (sumE (fun j d => d * 2 ^ j) 0 (dig pre.length ws).dropLast))) hh := fun hh => by
        rw [← List.map_dropLast]
        exact sumU_mapE (g := shD) (f := fun j d => d * 2 ^ j) (fun _ _ => rfl) _ _
      refine ⟨_, [some (.d (.int m)), some (.d (.tuple (ws.map .int))), some (.lab h.length), some (.d (.int pre.length)), some (.d (.list ((dig pre.length ws).map .int))), some (.d (.int ((ws.length : Int) - 1))), u6, u7, u8], h ++ [.lst ((List.range (pre.length + 1)).map fun t => .int (valN (dig t ws)))], rfl, ?_, ⟨_, _, _, _, _, _, rfl⟩, by simp⟩
      have hsz : pre.length < 10000000 := by omega
      simp [l_row_in_0, evCl_0, evCl_1, evCl_2, evCl_3, evCl_4, evCl_k, ev, tv, evs, evo, evc, evw, evV, evC, evT, ev2, ev1, evCh, evB, evIf, evNil, evCons, evTup, evLst, evCall, evSl, evNo, evPart, vAnd, vOr, vNot, tAndE, tOrE, tNotE, binU, cmpU, biU, meU, g1, g2, maxG, minG, Es.len, Tg.slots, Tgs.slots, ex, exs, exh, sNx, sBk, sCt, sSeq, sDrop, sRet, sRetN, sAsg, sPar2, sPar3, sSub, sIf, sRaise, asg, asgs, R.bind_ok, R.bind_err, R.bind_bad, R.stm_ok, R.stm_err, R.stm_bad, opt_some, opt_none, noErr_ok, noErr_bad, leave_d, leave_n, leave_e, leave_da, mkL_f, tru, truU, truD, asB, asBo, s0, s1, lenU, lenN, Py.intOp, gSubI, evMe, isLst, appG, getU, dctOf, getS, ixO, seqOf, Py.listOf, negU, atI_m1 hd, g2, hsz, List.range_succ, hval, hsum]
  obtain ⟨σ', h', e, ⟨u3, u4, u5, u6, u7, u8, rfl⟩, rfl⟩ := loop
  rw [rngL_len] at e
  simp [b_row_in, evCl_0, evCl_1, evCl_2, evCl_3, evCl_4, evCl_k, ev, tv, evs, evo, evc, evw, evV, evC, evT, ev2, ev1, evCh, evB, evIf, evNil, evCons, evTup, evLst, evCall, evSl, evNo, evPart, vAnd, vOr, vNot, tAndE, tOrE, tNotE, binU, cmpU, biU, meU, g1, g2, maxG, minG, Es.len, Tg.slots, Tgs.slots, ex, exs, exh, sNx, sBk, sCt, sSeq, sDrop, sRet, sRetN, sAsg, sPar2, sPar3, sSub, sIf, sRaise, asg, asgs, R.bind_ok, R.bind_err, R.bind_bad, R.stm_ok, R.stm_err, R.stm_bad, opt_some, opt_none, noErr_ok, noErr_bad, leave_d, leave_n, leave_e, leave_da, mkL_f, tru, truU, truD, asB, asBo, pures, mkL_t, e, tupleU, isTup, lstLike, Py.listOf]
end K29

namespace K29
open PySem PySem.Spec PyProof.Rows L2 Py
variable {F k : Nat}
def rowB : D → Bool
  | .tuple ds => ds.all isI && decide (ds.length ≤ 5)
  | _ => false
theorem p_need_few (d : D) (h : List O) (hl : ∀ ds, d = .tuple ds → ds.length ≤ 10000000) : run G F (dsOf dd) (k + 3) "need_few" [.d d] h = if rowB d = true then .ok (.d .none) h else .err "BadRow" h := by
  rw [r_need_few]
  have q := fun h => p_are_ints (F := F) (k := k) d h hl
  cases d
  case tuple ds =>
    cases ha : ds.all isI
    · simp [b_need_few, evCl_0, evCl_1, evCl_2, evCl_3, evCl_4, evCl_k, ev, tv, evs, evo, evc, evw, evV, evC, evT, ev2, ev1, evCh, evB, evIf, evNil, evCons, evTup, evLst, evCall, evSl, evNo, evPart, vAnd, vOr, vNot, tAndE, tOrE, tNotE, binU, cmpU, biU, meU, g1, g2, maxG, minG, Es.len, Tg.slots, Tgs.slots, ex, exs, exh, sNx, sBk, sCt, sSeq, sDrop, sRet, sRetN, sAsg, sPar2, sPar3, sSub, sIf, sRaise, asg, asgs, R.bind_ok, R.bind_err, R.bind_bad, R.stm_ok, R.stm_err, R.stm_bad, opt_some, opt_none, noErr_ok, noErr_bad, leave_d, leave_n, leave_e, leave_da, mkL_f, tru, truU, truD, asB, asBo, q, tupI, ha, rowB]
    · by_cases h5 : ds.length ≤ 5
      · have n5 : ¬ (5 : Int) < (ds.length : Int) := by omega
        simp [b_need_few, evCl_0, evCl_1, evCl_2, evCl_3, evCl_4, evCl_k, ev, tv, evs, evo, evc, evw, evV, evC, evT, ev2, ev1, evCh, evB, evIf, evNil, evCons, evTup, evLst, evCall, evSl, evNo, evPart, vAnd, vOr, vNot, tAndE, tOrE, tNotE, binU, cmpU, biU, meU, g1, g2, maxG, minG, Es.len, Tg.slots, Tgs.slots, ex, exs, exh, sNx, sBk, sCt, sSeq, sDrop, sRet, sRetN, sAsg, sPar2, sPar3, sSub, sIf, sRaise, asg, asgs, R.bind_ok, R.bind_err, R.bind_bad, R.stm_ok, R.stm_err, R.stm_bad, opt_some, opt_none, noErr_ok, noErr_bad, leave_d, leave_n, leave_e, leave_da, mkL_f, tru, truU, truD, asB, asBo, q, tupI, ha, rowB, lenU, lenN, cmpI, n5, h5]
      · have n5 : (5 : Int) < (ds.length : Int) := by omega
        simp [b_need_few, evCl_0, evCl_1, evCl_2, evCl_3, evCl_4, evCl_k, ev, tv, evs, evo, evc, evw, evV, evC, evT, ev2, ev1, evCh, evB, evIf, evNil, evCons, evTup, evLst, evCall, evSl, evNo, evPart, vAnd, vOr, vNot, tAndE, tOrE, tNotE, binU, cmpU, biU, meU, g1, g2, maxG, minG, Es.len, Tg.slots, Tgs.slots, ex, exs, exh, sNx, sBk, sCt, sSeq, sDrop, sRet, sRetN, sAsg, sPar2, sPar3, sSub, sIf, sRaise, asg, asgs, R.bind_ok, R.bind_err, R.bind_bad, R.stm_ok, R.stm_err, R.stm_bad, opt_some, opt_none, noErr_ok, noErr_bad, leave_d, leave_n, leave_e, leave_da, mkL_f, tru, truU, truD, asB, asBo, q, tupI, ha, rowB, lenU, lenN, cmpI, n5, h5]
  all_goals simp [b_need_few, evCl_0, evCl_1, evCl_2, evCl_3, evCl_4, evCl_k, ev, tv, evs, evo, evc, evw, evV, evC, evT, ev2, ev1, evCh, evB, evIf, evNil, evCons, evTup, evLst, evCall, evSl, evNo, evPart, vAnd, vOr, vNot, tAndE, tOrE, tNotE, binU, cmpU, biU, meU, g1, g2, maxG, minG, Es.len, Tg.slots, Tgs.slots, ex, exs, exh, sNx, sBk, sCt, sSeq, sDrop, sRet, sRetN, sAsg, sPar2, sPar3, sSub, sIf, sRaise, asg, asgs, R.bind_ok, R.bind_err, R.bind_bad, R.stm_ok, R.stm_err, R.stm_bad, opt_some, opt_none, noErr_ok, noErr_bad, leave_d, leave_n, leave_e, leave_da, mkL_f, tru, truU, truD, asB, asBo, q, tupI, rowB]
theorem rowB_ints (ns : List Int) (h : ns.length ≤ 5) : rowB (.tuple (ns.map .int)) = true := by
  unfold rowB
  simp [h, isI]
theorem p_word_of (ns : List Int) (h : List O) (hl : ns.length ≤ 5) (hw : widR ns ≤ 1000000) : run G F (dsOf dd) (k + 4) "word_of" [.d (.tuple (ns.map .int))] h = .ok (.d (.tuple ((wordI ns).map .int))) h := by
  rw [r_word_of]
  have q := fun h => p_need_few (F := F) (k := k) (.tuple (ns.map .int)) h (fun ds e => by cases e; simp; omega)
  have hp := widR_pos ns
  have q2 := fun h => p_word_in (F := F) (k := k) ns (by omega) h (by omega) hw
  simp [b_word_of, evCl_0, evCl_1, evCl_2, evCl_3, evCl_4, evCl_k, ev, tv, evs, evo, evc, evw, evV, evC, evT, ev2, ev1, evCh, evB, evIf, evNil, evCons, evTup, evLst, evCall, evSl, evNo, evPart, vAnd, vOr, vNot, tAndE, tOrE, tNotE, binU, cmpU, biU, meU, g1, g2, maxG, minG, Es.len, Tg.slots, Tgs.slots, ex, exs, exh, sNx, sBk, sCt, sSeq, sDrop, sRet, sRetN, sAsg, sPar2, sPar3, sSub, sIf, sRaise, asg, asgs, R.bind_ok, R.bind_err, R.bind_bad, R.stm_ok, R.stm_err, R.stm_bad, opt_some, opt_none, noErr_ok, noErr_bad, leave_d, leave_n, leave_e, leave_da, mkL_f, tru, truU, truD, asB, asBo, q, rowB_ints ns hl, q2]
theorem p_word_of_bad (d : D) (h : List O) (hl : ∀ ds, d = .tuple ds → ds.length ≤ 10000000) (hb : rowB d = false) : run G F (dsOf dd) (k + 4) "word_of" [.d d] h = .err "BadRow" h := by
  rw [r_word_of]
  have q := fun h => p_need_few (F := F) (k := k) d h hl
  simp [b_word_of, evCl_0, evCl_1, evCl_2, evCl_3, evCl_4, evCl_k, ev, tv, evs, evo, evc, evw, evV, evC, evT, ev2, ev1, evCh, evB, evIf, evNil, evCons, evTup, evLst, evCall, evSl, evNo, evPart, vAnd, vOr, vNot, tAndE, tOrE, tNotE, binU, cmpU, biU, meU, g1, g2, maxG, minG, Es.len, Tg.slots, Tgs.slots, ex, exs, exh, sNx, sBk, sCt, sSeq, sDrop, sRet, sRetN, sAsg, sPar2, sPar3, sSub, sIf, sRaise, asg, asgs, R.bind_ok, R.bind_err, R.bind_bad, R.stm_ok, R.stm_err, R.stm_bad, opt_some, opt_none, noErr_ok, noErr_bad, leave_d, leave_n, leave_e, leave_da, mkL_f, tru, truU, truD, asB, asBo, q, hb]
theorem p_width (ns : List Int) (h : List O) (hl : ns.length ≤ 5) : run G F (dsOf dd) (k + 4) "width" [.d (.tuple (ns.map .int))] h = .ok (.d (.int (widR ns))) h := by
  rw [r_width]
  have q := fun h => p_need_few (F := F) (k := k) (.tuple (ns.map .int)) h (fun ds e => by cases e; simp; omega)
  have q2 := fun h => p_width_in (F := F) (k := k + 1) ns h (by omega)
  simp [b_width, evCl_0, evCl_1, evCl_2, evCl_3, evCl_4, evCl_k, ev, tv, evs, evo, evc, evw, evV, evC, evT, ev2, ev1, evCh, evB, evIf, evNil, evCons, evTup, evLst, evCall, evSl, evNo, evPart, vAnd, vOr, vNot, tAndE, tOrE, tNotE, binU, cmpU, biU, meU, g1, g2, maxG, minG, Es.len, Tg.slots, Tgs.slots, ex, exs, exh, sNx, sBk, sCt, sSeq, sDrop, sRet, sRetN, sAsg, sPar2, sPar3, sSub, sIf, sRaise, asg, asgs, R.bind_ok, R.bind_err, R.bind_bad, R.stm_ok, R.stm_err, R.stm_bad, opt_some, opt_none, noErr_ok, noErr_bad, leave_d, leave_n, leave_e, leave_da, mkL_f, tru, truU, truD, asB, asBo, q, rowB_ints ns hl, q2]
theorem p_width_bad (d : D) (h : List O) (hl : ∀ ds, d = .tuple ds → ds.length ≤ 10000000) (hb : rowB d = false) : run G F (dsOf dd) (k + 4) "width" [.d d] h = .err "BadRow" h := by
  rw [r_width]
  have q := fun h => p_need_few (F := F) (k := k) d h hl
  simp [b_width, evCl_0, evCl_1, evCl_2, evCl_3, evCl_4, evCl_k, ev, tv, evs, evo, evc, evw, evV, evC, evT, ev2, ev1, evCh, evB, evIf, evNil, evCons, evTup, evLst, evCall, evSl, evNo, evPart, vAnd, vOr, vNot, tAndE, tOrE, tNotE, binU, cmpU, biU, meU, g1, g2, maxG, minG, Es.len, Tg.slots, Tgs.slots, ex, exs, exh, sNx, sBk, sCt, sSeq, sDrop, sRet, sRetN, sAsg, sPar2, sPar3, sSub, sIf, sRaise, asg, asgs, R.bind_ok, R.bind_err, R.bind_bad, R.stm_ok, R.stm_err, R.stm_bad, opt_some, opt_none, noErr_ok, noErr_bad, leave_d, leave_n, leave_e, leave_da, mkL_f, tru, truU, truD, asB, asBo, q, hb]
theorem p_row_of_many (d w : D) (h : List O) (hb : inB 0 5 d = false) : run G F (dsOf dd) (k + 4) "row_of" [.d d, .d w] h = .err "BadMany" h := by
  rw [r_row_of]
  have q := fun h => p_need_many (F := F) (k := k) d h
  simp [b_row_of, evCl_0, evCl_1, evCl_2, evCl_3, evCl_4, evCl_k, ev, tv, evs, evo, evc, evw, evV, evC, evT, ev2, ev1, evCh, evB, evIf, evNil, evCons, evTup, evLst, evCall, evSl, evNo, evPart, vAnd, vOr, vNot, tAndE, tOrE, tNotE, binU, cmpU, biU, meU, g1, g2, maxG, minG, Es.len, Tg.slots, Tgs.slots, ex, exs, exh, sNx, sBk, sCt, sSeq, sDrop, sRet, sRetN, sAsg, sPar2, sPar3, sSub, sIf, sRaise, asg, asgs, R.bind_ok, R.bind_err, R.bind_bad, R.stm_ok, R.stm_err, R.stm_bad, opt_some, opt_none, noErr_ok, noErr_bad, leave_d, leave_n, leave_e, leave_da, mkL_f, tru, truU, truD, asB, asBo, q, hb]
theorem p_row_of_word (m : Int) (w : D) (h : List O) (h0 : 0 ≤ m) (h5 : m ≤ 5) (hl : ∀ ds, w = .tuple ds → ds.length ≤ 10000000) (hb : wordB m w = false) : run G F (dsOf dd) (k + 4) "row_of" [.d (.int m), .d w] h = .err "BadWord" h := by
  rw [r_row_of]
  have q := fun h => p_need_many (F := F) (k := k) (.int m) h
  have hm : inB 0 5 (.int m) = true := by simp [inB, h0, h5]
  have q2 := fun h => p_is_word_of (F := F) (k := k) m w h h0 (by omega) hl
  simp [b_row_of, evCl_0, evCl_1, evCl_2, evCl_3, evCl_4, evCl_k, ev, tv, evs, evo, evc, evw, evV, evC, evT, ev2, ev1, evCh, evB, evIf, evNil, evCons, evTup, evLst, evCall, evSl, evNo, evPart, vAnd, vOr, vNot, tAndE, tOrE, tNotE, binU, cmpU, biU, meU, g1, g2, maxG, minG, Es.len, Tg.slots, Tgs.slots, ex, exs, exh, sNx, sBk, sCt, sSeq, sDrop, sRet, sRetN, sAsg, sPar2, sPar3, sSub, sIf, sRaise, asg, asgs, R.bind_ok, R.bind_err, R.bind_bad, R.stm_ok, R.stm_err, R.stm_bad, opt_some, opt_none, noErr_ok, noErr_bad, leave_d, leave_n, leave_e, leave_da, mkL_f, tru, truU, truD, asB, asBo, q, hm, q2, hb]
theorem p_row_of (m : Int) (ws : List Int) (h : List O) (h0 : 0 ≤ m) (h5 : m ≤ 5) (hne : ws ≠ []) (hl : ws.length ≤ 100000) (hb : wordB m (.tuple (ws.map .int)) = true) :
    run G F (dsOf dd) (k + 4) "row_of" [.d (.int m), .d (.tuple (ws.map .int))] h = .ok (.d (.tuple ((List.range m.toNat).map fun t => .int (valN (dig t ws))))) h := by
  rw [r_row_of]
  have q := fun h => p_need_many (F := F) (k := k) (.int m) h
  have hm : inB 0 5 (.int m) = true := by simp [inB, h0, h5]
  have q2 := fun h => p_is_word_of (F := F) (k := k) m (.tuple (ws.map .int)) h h0 (by omega) (fun ds e => by cases e; simp; omega)
  have q3 := fun h => p_row_in (F := F) (k := k + 1) m ws h h0 (by omega) hne hl
  simp [b_row_of, evCl_0, evCl_1, evCl_2, evCl_3, evCl_4, evCl_k, ev, tv, evs, evo, evc, evw, evV, evC, evT, ev2, ev1, evCh, evB, evIf, evNil, evCons, evTup, evLst, evCall, evSl, evNo, evPart, vAnd, vOr, vNot, tAndE, tOrE, tNotE, binU, cmpU, biU, meU, g1, g2, maxG, minG, Es.len, Tg.slots, Tgs.slots, ex, exs, exh, sNx, sBk, sCt, sSeq, sDrop, sRet, sRetN, sAsg, sPar2, sPar3, sSub, sIf, sRaise, asg, asgs, R.bind_ok, R.bind_err, R.bind_bad, R.stm_ok, R.stm_err, R.stm_bad, opt_some, opt_none, noErr_ok, noErr_bad, leave_d, leave_n, leave_e, leave_da, mkL_f, tru, truU, truD, asB, asBo, q, hm, q2, hb, q3]
/-! ### errors told -/
theorem inRow : ("BadRow" : Str) ∈ G.gx := by decide +kernel
theorem inMany : ("BadMany" : Str) ∈ G.gx := by decide +kernel
theorem inWord : ("BadWord" : Str) ∈ G.gx := by decide +kernel
theorem xRR : exmB G "BadRow" "BadRow" = true := by decide +kernel
theorem xMR : exmB G "BadMany" "BadRow" = false := by decide +kernel
theorem xMM : exmB G "BadMany" "BadMany" = true := by decide +kernel
theorem xWR : exmB G "BadWord" "BadRow" = false := by decide +kernel
theorem xWM : exmB G "BadWord" "BadMany" = false := by decide +kernel
theorem xWW : exmB G "BadWord" "BadWord" = true := by decide +kernel
theorem eqw (neg : Bool) (i j : Int) (h : List O) : Py.eqU neg (.d (.int i)) (.d (.int j)) h = .ok (.d (.bool (neg != decide (i = j)))) h := eq_ii neg i j h
theorem p_error0 (d e : D) (h : List O) (hl : ∀ ds, d = .tuple ds → ds.length ≤ 10000000) (hb : rowB d = false) : run G F (dsOf dd) (k + 5) "_law_error" [.d (.int 0), .d d, .d e] h = .ok (.d (.str "row")) h := by
  rw [r__law_error]
  have q := fun h => p_word_of_bad (F := F) (k := k) d h hl hb
  simp [b__law_error, evCl_0, evCl_1, evCl_2, evCl_3, evCl_4, evCl_k, ev, tv, evs, evo, evc, evw, evV, evC, evT, ev2, ev1, evCh, evB, evIf, evNil, evCons, evTup, evLst, evCall, evSl, evNo, evPart, vAnd, vOr, vNot, tAndE, tOrE, tNotE, binU, cmpU, biU, meU, g1, g2, maxG, minG, Es.len, Tg.slots, Tgs.slots, ex, exs, exh, sNx, sBk, sCt, sSeq, sDrop, sRet, sRetN, sAsg, sPar2, sPar3, sSub, sIf, sRaise, asg, asgs, R.bind_ok, R.bind_err, R.bind_bad, R.stm_ok, R.stm_err, R.stm_bad, opt_some, opt_none, noErr_ok, noErr_bad, leave_d, leave_n, leave_e, leave_da, mkL_f, tru, truU, truD, asB, asBo, sTry, hdl, eq_ii, q, inRow, xRR]
theorem p_error1 (d e : D) (h : List O) (hl : ∀ ds, d = .tuple ds → ds.length ≤ 10000000) (hb : rowB d = false) : run G F (dsOf dd) (k + 5) "_law_error" [.d (.int 1), .d d, .d e] h = .ok (.d (.str "row")) h := by
  rw [r__law_error]
  have q := fun h => p_width_bad (F := F) (k := k) d h hl hb
  simp [b__law_error, evCl_0, evCl_1, evCl_2, evCl_3, evCl_4, evCl_k, ev, tv, evs, evo, evc, evw, evV, evC, evT, ev2, ev1, evCh, evB, evIf, evNil, evCons, evTup, evLst, evCall, evSl, evNo, evPart, vAnd, vOr, vNot, tAndE, tOrE, tNotE, binU, cmpU, biU, meU, g1, g2, maxG, minG, Es.len, Tg.slots, Tgs.slots, ex, exs, exh, sNx, sBk, sCt, sSeq, sDrop, sRet, sRetN, sAsg, sPar2, sPar3, sSub, sIf, sRaise, asg, asgs, R.bind_ok, R.bind_err, R.bind_bad, R.stm_ok, R.stm_err, R.stm_bad, opt_some, opt_none, noErr_ok, noErr_bad, leave_d, leave_n, leave_e, leave_da, mkL_f, tru, truU, truD, asB, asBo, sTry, hdl, eq_ii, q, inRow, xRR]
theorem p_error2m (d e : D) (h : List O) (hb : inB 0 5 d = false) : run G F (dsOf dd) (k + 5) "_law_error" [.d (.int 2), .d d, .d e] h = .ok (.d (.str "many")) h := by
  rw [r__law_error]
  have q := fun h => p_row_of_many (F := F) (k := k) d e h hb
  simp [b__law_error, evCl_0, evCl_1, evCl_2, evCl_3, evCl_4, evCl_k, ev, tv, evs, evo, evc, evw, evV, evC, evT, ev2, ev1, evCh, evB, evIf, evNil, evCons, evTup, evLst, evCall, evSl, evNo, evPart, vAnd, vOr, vNot, tAndE, tOrE, tNotE, binU, cmpU, biU, meU, g1, g2, maxG, minG, Es.len, Tg.slots, Tgs.slots, ex, exs, exh, sNx, sBk, sCt, sSeq, sDrop, sRet, sRetN, sAsg, sPar2, sPar3, sSub, sIf, sRaise, asg, asgs, R.bind_ok, R.bind_err, R.bind_bad, R.stm_ok, R.stm_err, R.stm_bad, opt_some, opt_none, noErr_ok, noErr_bad, leave_d, leave_n, leave_e, leave_da, mkL_f, tru, truU, truD, asB, asBo, sTry, hdl, eq_ii, q, inMany, xMR, xMM]
theorem p_error2w (m : Int) (e : D) (h : List O) (h0 : 0 ≤ m) (h5 : m ≤ 5) (hl : ∀ ds, e = .tuple ds → ds.length ≤ 10000000) (hb : wordB m e = false) : run G F (dsOf dd) (k + 5) "_law_error" [.d (.int 2), .d (.int m), .d e] h = .ok (.d (.str "word")) h := by
  rw [r__law_error]
  have q := fun h => p_row_of_word (F := F) (k := k) m e h h0 h5 hl hb
  simp [b__law_error, evCl_0, evCl_1, evCl_2, evCl_3, evCl_4, evCl_k, ev, tv, evs, evo, evc, evw, evV, evC, evT, ev2, ev1, evCh, evB, evIf, evNil, evCons, evTup, evLst, evCall, evSl, evNo, evPart, vAnd, vOr, vNot, tAndE, tOrE, tNotE, binU, cmpU, biU, meU, g1, g2, maxG, minG, Es.len, Tg.slots, Tgs.slots, ex, exs, exh, sNx, sBk, sCt, sSeq, sDrop, sRet, sRetN, sAsg, sPar2, sPar3, sSub, sIf, sRaise, asg, asgs, R.bind_ok, R.bind_err, R.bind_bad, R.stm_ok, R.stm_err, R.stm_bad, opt_some, opt_none, noErr_ok, noErr_bad, leave_d, leave_n, leave_e, leave_da, mkL_f, tru, truU, truD, asB, asBo, sTry, hdl, eq_ii, q, inWord, xWR, xWM, xWW]
end K29

namespace K29
open PySem PySem.Spec PyProof.Rows L2 Py
variable {F k : Nat}
theorem fdiv_pow (n : Int) (p : Nat) : n.fdiv (2 ^ p) = n / 2 ^ p := Int.fdiv_eq_ediv_of_nonneg n (Int.le_of_lt (pow_pos' p))
theorem gFdiv_pow (n : Int) {p : Nat} (h : p < 1000) : gFdiv n (2 ^ p) = some (n / 2 ^ p) := by
  unfold gFdiv
  rw [if_pos, fdiv_pow]
  refine ⟨by have := pow_pos' p; omega, ?_⟩
  rw [Int.natAbs_pow]
  exact Nat.pow_lt_pow_right (by decide) h
theorem gFmod_2 (n : Int) : gFmod n 2 = some (n % 2) := by
  unfold gFmod
  rw [if_pos (by decide), Int.fmod_eq_emod_of_nonneg n (by decide)]
theorem sumE_app (f : Nat → Int → Int) : ∀ (xs : List Int) (k : Nat) (x : Int), sumE f k (xs ++ [x]) = sumE f k xs + f (k + xs.length) x
  | [], k, x => by simp [sumE]
  | y :: r, k, x => by
    rw [List.cons_append, sumE, sumE, sumE_app f r (k + 1) x, Int.add_assoc]
    rw [show k + 1 + r.length = k + (y :: r).length by simp; omega]
theorem sumE_take (f : Nat → Int → Int) (xs : List Int) (j : Nat) (h : j < xs.length) : sumE f 0 (xs.take (j + 1)) = sumE f 0 (xs.take j) + f j xs[j] := by
  rw [List.take_add_one, List.getElem?_eq_getElem h]
  show sumE f 0 (xs.take j ++ [xs[j]]) = _
  rw [sumE_app, List.length_take, Nat.zero_add, Nat.min_eq_left (by omega)]
theorem fit_test (n : Int) (c : Nat) (h : 1 ≤ c) : (decide (-(2 ^ (c - 1) : Int) ≤ n) && decide (n < 2 ^ (c - 1))) = decide (fitN n c) := by
  unfold fitN
  by_cases h1 : -(2 ^ (c - 1) : Int) ≤ n <;> by_cases h2 : n < (2 ^ (c - 1) : Int) <;> simp [h1, h2]
def unfit (c : Nat) (ns : List Int) : List Int := ns.filter fun n => !decide (fitN n c)
theorem c_unfit (ns : List Int) (c : Nat) (h1 : 1 ≤ c) (h2 : c ≤ 1000) (hl : ns.length ≤ 10000000) (u2 u3 u4 u5 u6 : Option U) (h : List O) :
    ev G (run G F (dsOf dd) (k + 1)) c__law_word_of_0 [some (.d (.tuple (ns.map .int))), some (.d (.int c)), u2, u3, u4, u5, u6] h = .ok (.d (.list ((unfit c ns).map .int))) h := by
  have key : ev G (run G F (dsOf dd) (k + 1)) c__law_word_of_0 [some (.d (.tuple (ns.map .int))), some (.d (.int c)), u2, u3, u4, u5, u6] h = mkL false (((ns.map PyData.int).filter (fun x => match x with | .int n => !decide (fitN n c) | _ => false)).map id) h := by
    refine ev_lcpD (ns.map .int) (fun x => match x with | .int n => !decide (fitN n c) | _ => false) id rfl (by simpa using hl) (fun x hx => ?_)
    obtain ⟨n, _, rfl⟩ := List.mem_map.mp hx
    refine ⟨[some (.d (.tuple (ns.map .int))), some (.d (.int c)), u2, u3, u4, u5, some (.d (.int n))], rfl, fun acc => ⟨?_, fun _ => rfl⟩⟩
    have e1 : ((c : Int) - 1) = ((c - 1 : Nat) : Int) := by omega
    have pw : ∀ h, run G F (dsOf dd) (k + 1) "_law_power" [.d (.int ((c : Int) - 1))] h = .ok (.d (.int (2 ^ (c - 1)))) h := fun h => by
      rw [e1, p_power _ _ (by omega) (by omega)]; simp
    have ft := fit_test n c h1
    by_cases q1 : -(2 ^ (c - 1) : Int) ≤ n
    · by_cases q2 : n < (2 ^ (c - 1) : Int) <;> simp [q1, q2] at ft <;> simp [evCl_0, evCl_1, evCl_2, evCl_3, evCl_4, evCl_k, ev, tv, evs, evo, evc, evw, evV, evC, evT, ev2, ev1, evCh, evB, evIf, evNil, evCons, evTup, evLst, evCall, evSl, evNo, evPart, vAnd, vOr, vNot, tAndE, tOrE, tNotE, binU, cmpU, biU, meU, g1, g2, maxG, minG, Es.len, Tg.slots, Tgs.slots, ex, exs, exh, sNx, sBk, sCt, sSeq, sDrop, sRet, sRetN, sAsg, sPar2, sPar3, sSub, sIf, sRaise, asg, asgs, R.bind_ok, R.bind_err, R.bind_bad, R.stm_ok, R.stm_err, R.stm_bad, opt_some, opt_none, noErr_ok, noErr_bad, leave_d, leave_n, leave_e, leave_da, mkL_f, tru, truU, truD, asB, asBo, Py.intOp, gSubI, pw, negU, cmpI, q1, q2, ft]
    · simp [q1] at ft
      simp [evCl_0, evCl_1, evCl_2, evCl_3, evCl_4, evCl_k, ev, tv, evs, evo, evc, evw, evV, evC, evT, ev2, ev1, evCh, evB, evIf, evNil, evCons, evTup, evLst, evCall, evSl, evNo, evPart, vAnd, vOr, vNot, tAndE, tOrE, tNotE, binU, cmpU, biU, meU, g1, g2, maxG, minG, Es.len, Tg.slots, Tgs.slots, ex, exs, exh, sNx, sBk, sCt, sSeq, sDrop, sRet, sRetN, sAsg, sPar2, sPar3, sSub, sIf, sRaise, asg, asgs, R.bind_ok, R.bind_err, R.bind_bad, R.stm_ok, R.stm_err, R.stm_bad, opt_some, opt_none, noErr_ok, noErr_bad, leave_d, leave_n, leave_e, leave_da, mkL_f, tru, truU, truD, asB, asBo, Py.intOp, gSubI, pw, negU, cmpI, q1, ft]
  rw [key, mkL_f, List.map_id]
  congr 3
  unfold unfit
  rw [List.filter_map]
  rfl
theorem unfit_nil (ns : List Int) (c : Nat) (h : 1 ≤ c) : unfit c ns = [] ↔ widR ns ≤ c := by
  rw [widR_le ns c h]
  unfold unfit
  rw [List.filter_eq_nil_iff]
  simp
theorem wh_word (ns : List Int) (hl : ns.length ≤ 10000000) (hw : widR ns ≤ 1000) (u2 u3 u4 u5 u6 : Option U) (h : List O) : ∀ (f c : Nat), 1 ≤ c → (c : Int) ≤ widR ns → widR ns < c + f →
    whGo (tv G (run G F (dsOf dd) (k + 1)) (.cmp .ne c__law_word_of_0 (.lst false .nil))) (exs G (run G F (dsOf dd) (k + 1)) F l__law_word_of_2) f [some (.d (.tuple (ns.map .int))), some (.d (.int c)), u2, u3, u4, u5, u6] h = .nx [some (.d (.tuple (ns.map .int))), some (.d (.int (widR ns))), u2, u3, u4, u5, u6] h
  | 0, c, h1, h2, h3 => by omega
  | f + 1, c, h1, h2, h3 => by
    have q := c_unfit (F := F) (k := k) ns c h1 (by omega) hl u2 u3 u4 u5 u6 h
    have e := eq_ll true (unfit c ns) [] h
    rw [List.map_nil] at e
    unfold whGo
    by_cases hz : unfit c ns = []
    · have hc : widR ns = c := by have := (unfit_nil ns c h1).mp hz; omega
      simp [ev, tv, evs, evo, evc, evw, evV, evC, evT, ev2, ev1, evCh, evB, evIf, evNil, evCons, evTup, evLst, evCall, evSl, evNo, evPart, vAnd, vOr, vNot, tAndE, tOrE, tNotE, binU, cmpU, biU, meU, g1, g2, maxG, minG, Es.len, Tg.slots, Tgs.slots, ex, exs, exh, sNx, sBk, sCt, sSeq, sDrop, sRet, sRetN, sAsg, sPar2, sPar3, sSub, sIf, sRaise, asg, asgs, R.bind_ok, R.bind_err, R.bind_bad, R.stm_ok, R.stm_err, R.stm_bad, opt_some, opt_none, noErr_ok, noErr_bad, leave_d, leave_n, leave_e, leave_da, mkL_f, tru, truU, truD, asB, asBo, q, pures, e, hz, hc]
      rw [hz] at e
      simp at e
      simp [e, ev, tv, evs, evo, evc, evw, evV, evC, evT, ev2, ev1, evCh, evB, evIf, evNil, evCons, evTup, evLst, evCall, evSl, evNo, evPart, vAnd, vOr, vNot, tAndE, tOrE, tNotE, binU, cmpU, biU, meU, g1, g2, maxG, minG, Es.len, Tg.slots, Tgs.slots, ex, exs, exh, sNx, sBk, sCt, sSeq, sDrop, sRet, sRetN, sAsg, sPar2, sPar3, sSub, sIf, sRaise, asg, asgs, R.bind_ok, R.bind_err, R.bind_bad, R.stm_ok, R.stm_err, R.stm_bad, opt_some, opt_none, noErr_ok, noErr_bad, leave_d, leave_n, leave_e, leave_da, mkL_f, tru, truU, truD, asB, asBo]
    · have hc : ¬ widR ns ≤ c := fun z => hz ((unfit_nil ns c h1).mpr z)
      have ih := wh_word ns hl hw u2 u3 u4 u5 u6 h f (c + 1) (by omega) (by omega) (by omega)
      have ec : ((c : Int) + 1) = ((c + 1 : Nat) : Int) := by omega
      simp [ev, tv, evs, evo, evc, evw, evV, evC, evT, ev2, ev1, evCh, evB, evIf, evNil, evCons, evTup, evLst, evCall, evSl, evNo, evPart, vAnd, vOr, vNot, tAndE, tOrE, tNotE, binU, cmpU, biU, meU, g1, g2, maxG, minG, Es.len, Tg.slots, Tgs.slots, ex, exs, exh, sNx, sBk, sCt, sSeq, sDrop, sRet, sRetN, sAsg, sPar2, sPar3, sSub, sIf, sRaise, asg, asgs, R.bind_ok, R.bind_err, R.bind_bad, R.stm_ok, R.stm_err, R.stm_bad, opt_some, opt_none, noErr_ok, noErr_bad, leave_d, leave_n, leave_e, leave_da, mkL_f, tru, truU, truD, asB, asBo, q, pures, e, hz, l__law_word_of_2, addU, Py.listOf, addD]
      rw [ec]
      exact ih

theorem atI_n {xs : List Int} {j : Nat} (h : j < xs.length) : L2.atI (xs.map PyData.int) (j : Int) = some (.int xs[j]) := atI_tup h
/-- the law's word -/
theorem p_law_word (ns : List Int) (h : List O) (hl : ns.length ≤ 5) (hw : widR ns ≤ 1000) (hF : 1002 ≤ F) : run G F (dsOf dd) (k + 2) "_law_word_of" [.d (.tuple (ns.map .int))] h = .ok (.d (.tuple ((wordI ns).map .int))) h := by
  rw [r__law_word_of]
  have hp := widR_pos ns
  have w1 : ∀ u2 u3 u4 u5 u6 hh, ex G (run G F (dsOf dd) (k + 1)) F f__law_word_of_2 [some (.d (.tuple (ns.map .int))), some (.d (.int 1)), u2, u3, u4, u5, u6] hh = .nx [some (.d (.tuple (ns.map .int))), some (.d (.int (widR ns))), u2, u3, u4, u5, u6] hh :=
    fun u2 u3 u4 u5 u6 hh => wh_word ns (by omega) hw u2 u3 u4 u5 u6 hh F 1 (by omega) (by omega) (by omega)
  have inner : ∀ (p : Nat) (_ : p < 1000) (u1 u2 u5 u6 : Option U) (hh : List O), ∃ u5', ex G (run G F (dsOf dd) (k + 1)) F f__law_word_of_0 [some (.d (.tuple (ns.map .int))), u1, u2, some (.d (.int p)), some (.d (.int 0)), u5, u6] hh = .nx [some (.d (.tuple (ns.map .int))), u1, u2, some (.d (.int p)), some (.d (.int (colS p ns))), u5', u6] hh := by
    intro p hp u1 u2 u5 u6 hh
    have loop : ∃ σ' h', ex G (run G F (dsOf dd) (k + 1)) F f__law_word_of_0 [some (.d (.tuple (ns.map .int))), u1, u2, some (.d (.int p)), some (.d (.int 0)), u5, u6] hh = .nx σ' h' ∧
        (∃ u5', σ' = [some (.d (.tuple (ns.map .int))), u1, u2, some (.d (.int p)), some (.d (.int (sumE (fun j n => bitp n p * 2 ^ j) 0 (ns.take (rngL 0 1 ns.length).length)))), u5', u6]) ∧ h' = hh := by
      unfold f__law_word_of_0
      refine for_inv (us := rngL 0 1 ns.length) (h1 := hh) (fun pre σ h' => (∃ u5', σ = [some (.d (.tuple (ns.map .int))), u1, u2, some (.d (.int p)), some (.d (.int (sumE (fun j n => bitp n p * 2 ^ j) 0 (ns.take pre.length)))), u5', u6]) ∧ h' = hh) ?_ ⟨⟨_, rfl⟩, rfl⟩ (fun pre u r e σ h' hI => ?_)
      · have : Py.inR (ns.length : Int) = true := Py.inR_of (by omega) (by omega)
        simp [evCl_0, evCl_1, evCl_2, evCl_3, evCl_4, evCl_k, ev, tv, evs, evo, evc, evw, evV, evC, evT, ev2, ev1, evCh, evB, evIf, evNil, evCons, evTup, evLst, evCall, evSl, evNo, evPart, vAnd, vOr, vNot, tAndE, tOrE, tNotE, binU, cmpU, biU, meU, g1, g2, maxG, minG, Es.len, Tg.slots, Tgs.slots, ex, exs, exh, sNx, sBk, sCt, sSeq, sDrop, sRet, sRetN, sAsg, sPar2, sPar3, sSub, sIf, sRaise, asg, asgs, R.bind_ok, R.bind_err, R.bind_bad, R.stm_ok, R.stm_err, R.stm_bad, opt_some, opt_none, noErr_ok, noErr_bad, leave_d, leave_n, leave_e, leave_da, mkL_f, tru, truU, truD, asB, asBo, lenU, lenN, rngS, this]
      · obtain ⟨⟨u5', rfl⟩, rfl⟩ := hI
        obtain ⟨rfl, hlt⟩ := range_get e
        have st := sumE_take (fun j n => bitp n p * 2 ^ j) ns pre.length hlt
        have pw := fun h => p_power (F := F) (k := k) (p : Int) h (by omega) (by omega)
        have pw2 := fun h => p_power (F := F) (k := k) (pre.length : Int) h (by omega) (by omega)
        have mk : mulOk (ns[pre.length] / 2 ^ p % 2) (2 ^ pre.length) = true := mulK (.inl (by omega))
        refine ⟨_, [some (.d (.tuple (ns.map .int))), u1, u2, some (.d (.int p)), some (.d (.int (sumE (fun j n => bitp n p * 2 ^ j) 0 (ns.take (pre.length + 1))))), some (.d (.int pre.length)), u6], h', rfl, ?_, ⟨some (.d (.int pre.length)), by simp⟩, rfl⟩
        rw [st]
        simp [l__law_word_of_0, evCl_0, evCl_1, evCl_2, evCl_3, evCl_4, evCl_k, ev, tv, evs, evo, evc, evw, evV, evC, evT, ev2, ev1, evCh, evB, evIf, evNil, evCons, evTup, evLst, evCall, evSl, evNo, evPart, vAnd, vOr, vNot, tAndE, tOrE, tNotE, binU, cmpU, biU, meU, g1, g2, maxG, minG, Es.len, Tg.slots, Tgs.slots, ex, exs, exh, sNx, sBk, sCt, sSeq, sDrop, sRet, sRetN, sAsg, sPar2, sPar3, sSub, sIf, sRaise, asg, asgs, R.bind_ok, R.bind_err, R.bind_bad, R.stm_ok, R.stm_err, R.stm_bad, opt_some, opt_none, noErr_ok, noErr_bad, leave_d, leave_n, leave_e, leave_da, mkL_f, tru, truU, truD, asB, asBo, getU, dctOf, getS, ixO, seqOf, atI_n hlt, pw, pw2, Py.intOp, gFdiv_pow _ hp, intU, gFmod_2, mulU, mk, addU, Py.listOf, addD, bitp]
    obtain ⟨σ', h', e, ⟨u5', rfl⟩, rfl⟩ := loop
    rw [rngL_len, List.take_length] at e
    exact ⟨u5', e⟩
  have loop : ∃ σ' h', ex G (run G F (dsOf dd) (k + 1)) F f__law_word_of_1 [some (.d (.tuple (ns.map .int))), some (.d (.int (widR ns))), some (.lab h.length), none, none, none, none] (h ++ [.lst []]) = .nx σ' h' ∧
      (∃ u3 u4 u5 u6, σ' = [some (.d (.tuple (ns.map .int))), some (.d (.int (widR ns))), some (.lab h.length), u3, u4, u5, u6]) ∧ h' = h ++ [.lst ((List.range (rngL 0 1 (widR ns).toNat).length).map fun p => .int (colS p ns))] := by
    unfold f__law_word_of_1
    refine for_inv (us := rngL 0 1 (widR ns).toNat) (h1 := h ++ [.lst []]) (fun pre σ h' => (∃ u3 u4 u5 u6, σ = [some (.d (.tuple (ns.map .int))), some (.d (.int (widR ns))), some (.lab h.length), u3, u4, u5, u6]) ∧ h' = h ++ [.lst ((List.range pre.length).map fun p => .int (colS p ns))])
      ?_ ⟨⟨_, _, _, _, rfl⟩, rfl⟩ (fun pre u r e σ h' hI => ?_)
    · have : Py.inR (widR ns) = true := Py.inR_of (by omega) (by omega)
      simp [evCl_0, evCl_1, evCl_2, evCl_3, evCl_4, evCl_k, ev, tv, evs, evo, evc, evw, evV, evC, evT, ev2, ev1, evCh, evB, evIf, evNil, evCons, evTup, evLst, evCall, evSl, evNo, evPart, vAnd, vOr, vNot, tAndE, tOrE, tNotE, binU, cmpU, biU, meU, g1, g2, maxG, minG, Es.len, Tg.slots, Tgs.slots, ex, exs, exh, sNx, sBk, sCt, sSeq, sDrop, sRet, sRetN, sAsg, sPar2, sPar3, sSub, sIf, sRaise, asg, asgs, R.bind_ok, R.bind_err, R.bind_bad, R.stm_ok, R.stm_err, R.stm_bad, opt_some, opt_none, noErr_ok, noErr_bad, leave_d, leave_n, leave_e, leave_da, mkL_f, tru, truU, truD, asB, asBo, rngS, this]
    · obtain ⟨⟨u3, u4, u5, u6, rfl⟩, rfl⟩ := hI
      obtain ⟨rfl, hlt⟩ := range_get e
      obtain ⟨u5', q⟩ := inner pre.length (by omega) (some (.d (.int (widR ns)))) (some (.lab h.length)) u5 u6 (h ++ [.lst ((List.range pre.length).map fun p => .int (colS p ns))])
      have hsz : pre.length < 10000000 := by omega
      refine ⟨_, [some (.d (.tuple (ns.map .int))), some (.d (.int (widR ns))), some (.lab h.length), some (.d (.int pre.length)), some (.d (.int (colS pre.length ns))), u5', u6], h ++ [.lst ((List.range (pre.length + 1)).map fun p => .int (colS p ns))], rfl, ?_, ⟨_, _, _, _, rfl⟩, by simp⟩
      simp [l__law_word_of_1, evCl_0, evCl_1, evCl_2, evCl_3, evCl_4, evCl_k, ev, tv, evs, evo, evc, evw, evV, evC, evT, ev2, ev1, evCh, evB, evIf, evNil, evCons, evTup, evLst, evCall, evSl, evNo, evPart, vAnd, vOr, vNot, tAndE, tOrE, tNotE, binU, cmpU, biU, meU, g1, g2, maxG, minG, Es.len, Tg.slots, Tgs.slots, ex, exs, exh, sNx, sBk, sCt, sSeq, sDrop, sRet, sRetN, sAsg, sPar2, sPar3, sSub, sIf, sRaise, asg, asgs, R.bind_ok, R.bind_err, R.bind_bad, R.stm_ok, R.stm_err, R.stm_bad, opt_some, opt_none, noErr_ok, noErr_bad, leave_d, leave_n, leave_e, leave_da, mkL_f, tru, truU, truD, asB, asBo, q, evMe, isLst, appG, hsz, List.range_succ]
  obtain ⟨σ', h', e, ⟨u3, u4, u5, u6, rfl⟩, rfl⟩ := loop
  rw [rngL_len] at e
  simp [b__law_word_of, evCl_0, evCl_1, evCl_2, evCl_3, evCl_4, evCl_k, ev, tv, evs, evo, evc, evw, evV, evC, evT, ev2, ev1, evCh, evB, evIf, evNil, evCons, evTup, evLst, evCall, evSl, evNo, evPart, vAnd, vOr, vNot, tAndE, tOrE, tNotE, binU, cmpU, biU, meU, g1, g2, maxG, minG, Es.len, Tg.slots, Tgs.slots, ex, exs, exh, sNx, sBk, sCt, sSeq, sDrop, sRet, sRetN, sAsg, sPar2, sPar3, sSub, sIf, sRaise, asg, asgs, R.bind_ok, R.bind_err, R.bind_bad, R.stm_ok, R.stm_err, R.stm_bad, opt_some, opt_none, noErr_ok, noErr_bad, leave_d, leave_n, leave_e, leave_da, mkL_f, tru, truU, truD, asB, asBo, w1, pures, mkL_t, e, tupleU, isTup, lstLike, Py.listOf, wordI]
end K29

namespace K29
open PySem PySem.Spec PyProof.Rows L2 Py
variable {F k : Nat}
/-- what the law adds up for a track, over j columns of L -/
def parF (L : Nat) (j : Nat) (d : Int) : Int := (if j = L - 1 then -d else d) * 2 ^ j
theorem par_low (L : Nat) : ∀ (ds : List Int) (j : Nat), j + ds.length ≤ L - 1 → sumE (parF L) j ds = sumE (fun j d => d * 2 ^ j) j ds
  | [], _, _ => rfl
  | d :: r, j, h => by
    rw [List.length_cons] at h
    rw [sumE, sumE, par_low L r (j + 1) (by omega)]
    unfold parF
    rw [if_neg (by omega)]
theorem par_val (ds : List Int) (h : ds ≠ []) : sumE (parF ds.length) 0 ds = valN ds := by
  rw [← valS_val ds h]
  unfold valS
  have hl : 0 < ds.length := List.length_pos_iff.mpr h
  have e : ds = ds.dropLast ++ [ds.getLast h] := (List.dropLast_concat_getLast h).symm
  have e2 : lastI ds = ds.getLast h := by unfold lastI; rw [List.getLast?_eq_some_getLast h]; rfl
  rw [e2]
  have : sumE (parF ds.length) 0 (ds.dropLast ++ [ds.getLast h]) = sumE (fun j d => d * 2 ^ j) 0 ds.dropLast - ds.getLast h * 2 ^ (ds.length - 1) := by
    rw [sumE_app, par_low _ _ _ (by simp), Nat.zero_add, List.length_dropLast]
    unfold parF
    rw [if_pos rfl, Int.neg_mul]
    omega
  rw [← e] at this
  exact this
/-- the list of found numbers: the first i tracks whole, track i over j columns -/
def lstIJ (m L : Nat) (ws : List Int) (i j : Nat) : List Int := (List.range m).map fun t => if t < i then valN (dig t ws) else if t = i then sumE (parF L) 0 ((dig i ws).take j) else 0
theorem lstIJ_get {m L : Nat} {ws : List Int} {i j : Nat} (h : i < m) : (lstIJ m L ws i j)[i]? = some (sumE (parF L) 0 ((dig i ws).take j)) := by
  unfold lstIJ
  rw [List.getElem?_map, List.getElem?_range h]
  simp
theorem lstIJ_len {m L : Nat} {ws : List Int} {i j : Nat} : (lstIJ m L ws i j).length = m := by unfold lstIJ; simp
theorem lstIJ_set {m L : Nat} {ws : List Int} {i j : Nat} : (lstIJ m L ws i j).set i (sumE (parF L) 0 ((dig i ws).take (j + 1))) = lstIJ m L ws i (j + 1) := by
  apply List.ext_getElem?
  intro t
  by_cases ht : t < m
  · by_cases e : i = t
    · subst e
      rw [List.getElem?_set_self (by rw [lstIJ_len]; exact ht), lstIJ_get ht]
    · rw [List.getElem?_set_ne e]
      unfold lstIJ
      rw [List.getElem?_map, List.getElem?_map, List.getElem?_range ht]
      have : ¬ t = i := fun z => e z.symm
      simp [this]
  · rw [List.getElem?_eq_none (by rw [List.length_set, lstIJ_len]; omega), List.getElem?_eq_none (by rw [lstIJ_len]; omega)]
theorem lstIJ_next {m : Nat} {ws : List Int} {i : Nat} (hne : ws ≠ []) : lstIJ m ws.length ws i ws.length = lstIJ m ws.length ws (i + 1) 0 := by
  unfold lstIJ
  apply List.map_congr_left
  intro t _
  have hd : ∀ t, (dig t ws).length = ws.length := fun t => by unfold dig; simp
  have hdn : ∀ t, dig t ws ≠ [] := fun t => by unfold dig; simpa using hne
  by_cases h1 : t < i
  · rw [if_pos h1, if_pos (by omega)]
  · by_cases h2 : t = i
    · subst h2
      have := par_val (dig t ws) (hdn t)
      rw [hd] at this
      rw [if_neg h1, if_pos rfl, if_pos (by omega), List.take_of_length_le (by rw [hd]; exact Nat.le_refl _), this]
    · rw [if_neg h1, if_neg h2, if_neg (by omega)]
      by_cases h3 : t = i + 1
      · rw [if_pos h3]; simp [sumE]
      · rw [if_neg h3]
theorem ixN_nat {n i : Nat} (h : i < n) : L2.ixN n (i : Int) = some i := by
  unfold L2.ixN
  rw [if_pos (by omega), if_pos (by omega)]
  simp
theorem p_law_row (m : Int) (ws : List Int) (h : List O) (h0 : 0 ≤ m) (h5 : m ≤ 5) (hne : ws ≠ []) (hl : ws.length ≤ 900) :
    run G F (dsOf dd) (k + 2) "_law_row_of" [.d (.int m), .d (.tuple (ws.map .int))] h = .ok (.d (.tuple ((List.range m.toNat).map fun t => .int (valN (dig t ws))))) h := by
  rw [r__law_row_of]
  have hlen0 : 0 < ws.length := List.length_pos_iff.mpr hne
  have inner : ∀ (i : Nat) (_ : i < m.toNat) (u4 u5 : Option U), ∃ u4' u5', ex G (run G F (dsOf dd) (k + 1)) F f__law_row_of_0 [some (.d (.int m)), some (.d (.tuple (ws.map .int))), some (.lab h.length), some (.d (.int i)), u4, u5] (h ++ [.lst ((lstIJ m.toNat ws.length ws i 0).map .int)]) =
      .nx [some (.d (.int m)), some (.d (.tuple (ws.map .int))), some (.lab h.length), some (.d (.int i)), u4', u5'] (h ++ [.lst ((lstIJ m.toNat ws.length ws i ws.length).map .int)]) := by
    intro i hi u4 u5
    have loop : ∃ σ' h', ex G (run G F (dsOf dd) (k + 1)) F f__law_row_of_0 [some (.d (.int m)), some (.d (.tuple (ws.map .int))), some (.lab h.length), some (.d (.int i)), u4, u5] (h ++ [.lst ((lstIJ m.toNat ws.length ws i 0).map .int)]) = .nx σ' h' ∧
        (∃ u4' u5', σ' = [some (.d (.int m)), some (.d (.tuple (ws.map .int))), some (.lab h.length), some (.d (.int i)), u4', u5']) ∧ h' = h ++ [.lst ((lstIJ m.toNat ws.length ws i (rngL 0 1 ws.length).length).map .int)] := by
      unfold f__law_row_of_0
      refine for_inv (us := rngL 0 1 ws.length) (h1 := h ++ [.lst ((lstIJ m.toNat ws.length ws i 0).map .int)]) (fun pre σ h' => (∃ u4' u5', σ = [some (.d (.int m)), some (.d (.tuple (ws.map .int))), some (.lab h.length), some (.d (.int i)), u4', u5']) ∧ h' = h ++ [.lst ((lstIJ m.toNat ws.length ws i pre.length).map .int)])
        ?_ ⟨⟨_, _, rfl⟩, rfl⟩ (fun pre u r e σ h' hI => ?_)
      · have : Py.inR (ws.length : Int) = true := Py.inR_of (by omega) (by omega)
        simp [evCl_0, evCl_1, evCl_2, evCl_3, evCl_4, evCl_k, ev, tv, evs, evo, evc, evw, evV, evC, evT, ev2, ev1, evCh, evB, evIf, evNil, evCons, evTup, evLst, evCall, evSl, evNo, evPart, vAnd, vOr, vNot, tAndE, tOrE, tNotE, binU, cmpU, biU, meU, g1, g2, maxG, minG, Es.len, Tg.slots, Tgs.slots, ex, exs, exh, sNx, sBk, sCt, sSeq, sDrop, sRet, sRetN, sAsg, sPar2, sPar3, sSub, sIf, sRaise, asg, asgs, R.bind_ok, R.bind_err, R.bind_bad, R.stm_ok, R.stm_err, R.stm_bad, opt_some, opt_none, noErr_ok, noErr_bad, leave_d, leave_n, leave_e, leave_da, mkL_f, tru, truU, truD, asB, asBo, lenU, lenN, rngS, this]
      · obtain ⟨⟨u4', u5', rfl⟩, rfl⟩ := hI
        obtain ⟨rfl, hlt⟩ := range_get e
        have hdl : (dig i ws).length = ws.length := by unfold dig; simp
        have hget : (dig i ws)[pre.length]'(by rw [hdl]; exact hlt) = ws[pre.length] / 2 ^ i % 2 := by unfold dig; simp
        have st := sumE_take (parF ws.length) (dig i ws) pre.length (by rw [hdl]; exact hlt)
        rw [hget] at st
        have pw := fun h => p_power (F := F) (k := k) (i : Int) h (by omega) (by omega)
        have pw2 := fun h => p_power (F := F) (k := k) (pre.length : Int) h (by omega) (by omega)
        have hix : L2.atI ((lstIJ m.toNat ws.length ws i pre.length).map PyData.int) (i : Int) = some (.int (sumE (parF ws.length) 0 ((dig i ws).take pre.length))) := by
          unfold L2.atI
          rw [List.length_map, lstIJ_len, ixN_nat hi]
          simp only [Option.bind_some, List.getElem?_map, lstIJ_get hi]
          rfl
        have hset : L2.ixN ((lstIJ m.toNat ws.length ws i pre.length).map PyData.int).length (i : Int) = some i := by rw [List.length_map, lstIJ_len, ixN_nat hi]
        have hset2 := hset
        rw [List.length_map] at hset2
        have ecast : ((ws.length : Int) - 1) = ((ws.length - 1 : Nat) : Int) := by omega
        refine ⟨_, [some (.d (.int m)), some (.d (.tuple (ws.map .int))), some (.lab h.length), some (.d (.int i)), some (.d (.int pre.length)), some (.d (.int (ws[pre.length] / 2 ^ i % 2)))], h ++ [.lst ((lstIJ m.toNat ws.length ws i (pre.length + 1)).map .int)], rfl, ?_, ⟨_, _, rfl⟩, by simp⟩
        rw [← lstIJ_set, st]
        by_cases hk : pre.length = ws.length - 1
        · have hk2 : (ws.length : Int) - 1 = (pre.length : Int) := by omega
          have mk : mulOk (-(ws[pre.length] / 2 ^ i % 2)) (2 ^ pre.length) = true := mulK (.inl (by omega))
          have pf : parF ws.length pre.length (ws[pre.length] / 2 ^ i % 2) = -(ws[pre.length] / 2 ^ i % 2) * 2 ^ pre.length := by unfold parF; rw [if_pos hk]
          rw [pf]
          simp [l__law_row_of_0, evCl_0, evCl_1, evCl_2, evCl_3, evCl_4, evCl_k, ev, tv, evs, evo, evc, evw, evV, evC, evT, ev2, ev1, evCh, evB, evIf, evNil, evCons, evTup, evLst, evCall, evSl, evNo, evPart, vAnd, vOr, vNot, tAndE, tOrE, tNotE, binU, cmpU, biU, meU, g1, g2, maxG, minG, Es.len, Tg.slots, Tgs.slots, ex, exs, exh, sNx, sBk, sCt, sSeq, sDrop, sRet, sRetN, sAsg, sPar2, sPar3, sSub, sIf, sRaise, asg, asgs, R.bind_ok, R.bind_err, R.bind_bad, R.stm_ok, R.stm_err, R.stm_bad, opt_some, opt_none, noErr_ok, noErr_bad, leave_d, leave_n, leave_e, leave_da, mkL_f, tru, truU, truD, asB, asBo, getU, dctOf, getS, ixO, seqOf, atI_n hlt, pw, pw2, Py.intOp, gFdiv_pow _ (by omega : i < 1000), intU, gFmod_2, lenU, lenN, gSubI, eq_ii, hk2, negU, mulU, mk, hix, addU, Py.listOf, addD, setU, hset, hset2, List.map_set]
        · have hk2 : ¬ (pre.length : Int) = (ws.length : Int) - 1 := by omega
          have mk : mulOk (ws[pre.length] / 2 ^ i % 2) (2 ^ pre.length) = true := mulK (.inl (by omega))
          have pf : parF ws.length pre.length (ws[pre.length] / 2 ^ i % 2) = ws[pre.length] / 2 ^ i % 2 * 2 ^ pre.length := by unfold parF; rw [if_neg hk]
          rw [pf]
          simp [l__law_row_of_0, evCl_0, evCl_1, evCl_2, evCl_3, evCl_4, evCl_k, ev, tv, evs, evo, evc, evw, evV, evC, evT, ev2, ev1, evCh, evB, evIf, evNil, evCons, evTup, evLst, evCall, evSl, evNo, evPart, vAnd, vOr, vNot, tAndE, tOrE, tNotE, binU, cmpU, biU, meU, g1, g2, maxG, minG, Es.len, Tg.slots, Tgs.slots, ex, exs, exh, sNx, sBk, sCt, sSeq, sDrop, sRet, sRetN, sAsg, sPar2, sPar3, sSub, sIf, sRaise, asg, asgs, R.bind_ok, R.bind_err, R.bind_bad, R.stm_ok, R.stm_err, R.stm_bad, opt_some, opt_none, noErr_ok, noErr_bad, leave_d, leave_n, leave_e, leave_da, mkL_f, tru, truU, truD, asB, asBo, getU, dctOf, getS, ixO, seqOf, atI_n hlt, pw, pw2, Py.intOp, gFdiv_pow _ (by omega : i < 1000), intU, gFmod_2, lenU, lenN, gSubI, eq_ii, hk2, negU, mulU, mk, hix, addU, Py.listOf, addD, setU, hset, hset2, List.map_set]
    obtain ⟨σ', h', e, ⟨u4', u5', rfl⟩, rfl⟩ := loop
    rw [rngL_len] at e
    exact ⟨u4', u5', e⟩
  have loop : ∃ σ' h', ex G (run G F (dsOf dd) (k + 1)) F f__law_row_of_1 [some (.d (.int m)), some (.d (.tuple (ws.map .int))), some (.lab h.length), none, none, none] (h ++ [.lst ((lstIJ m.toNat ws.length ws 0 0).map .int)]) = .nx σ' h' ∧
      (∃ u3 u4 u5, σ' = [some (.d (.int m)), some (.d (.tuple (ws.map .int))), some (.lab h.length), u3, u4, u5]) ∧ h' = h ++ [.lst ((lstIJ m.toNat ws.length ws (rngL 0 1 m.toNat).length 0).map .int)] := by
    unfold f__law_row_of_1
    refine for_inv (us := rngL 0 1 m.toNat) (h1 := h ++ [.lst ((lstIJ m.toNat ws.length ws 0 0).map .int)]) (fun pre σ h' => (∃ u3 u4 u5, σ = [some (.d (.int m)), some (.d (.tuple (ws.map .int))), some (.lab h.length), u3, u4, u5]) ∧ h' = h ++ [.lst ((lstIJ m.toNat ws.length ws pre.length 0).map .int)])
      ?_ ⟨⟨_, _, _, rfl⟩, rfl⟩ (fun pre u r e σ h' hI => ?_)
    · have : Py.inR m = true := Py.inR_of (by omega) (by omega)
      simp [evCl_0, evCl_1, evCl_2, evCl_3, evCl_4, evCl_k, ev, tv, evs, evo, evc, evw, evV, evC, evT, ev2, ev1, evCh, evB, evIf, evNil, evCons, evTup, evLst, evCall, evSl, evNo, evPart, vAnd, vOr, vNot, tAndE, tOrE, tNotE, binU, cmpU, biU, meU, g1, g2, maxG, minG, Es.len, Tg.slots, Tgs.slots, ex, exs, exh, sNx, sBk, sCt, sSeq, sDrop, sRet, sRetN, sAsg, sPar2, sPar3, sSub, sIf, sRaise, asg, asgs, R.bind_ok, R.bind_err, R.bind_bad, R.stm_ok, R.stm_err, R.stm_bad, opt_some, opt_none, noErr_ok, noErr_bad, leave_d, leave_n, leave_e, leave_da, mkL_f, tru, truU, truD, asB, asBo, rngS, this]
    · obtain ⟨⟨u3, u4, u5, rfl⟩, rfl⟩ := hI
      obtain ⟨rfl, hlt⟩ := range_get e
      obtain ⟨u4', u5', q⟩ := inner pre.length hlt u4 u5
      rw [lstIJ_next hne] at q
      refine ⟨_, [some (.d (.int m)), some (.d (.tuple (ws.map .int))), some (.lab h.length), some (.d (.int pre.length)), u4', u5'], h ++ [.lst ((lstIJ m.toNat ws.length ws (pre.length + 1) 0).map .int)], rfl, ?_, ⟨some (.d (.int pre.length)), u4', u5', rfl⟩, by simp⟩
      simp [l__law_row_of_1, evCl_0, evCl_1, evCl_2, evCl_3, evCl_4, evCl_k, ev, tv, evs, evo, evc, evw, evV, evC, evT, ev2, ev1, evCh, evB, evIf, evNil, evCons, evTup, evLst, evCall, evSl, evNo, evPart, vAnd, vOr, vNot, tAndE, tOrE, tNotE, binU, cmpU, biU, meU, g1, g2, maxG, minG, Es.len, Tg.slots, Tgs.slots, ex, exs, exh, sNx, sBk, sCt, sSeq, sDrop, sRet, sRetN, sAsg, sPar2, sPar3, sSub, sIf, sRaise, asg, asgs, R.bind_ok, R.bind_err, R.bind_bad, R.stm_ok, R.stm_err, R.stm_bad, opt_some, opt_none, noErr_ok, noErr_bad, leave_d, leave_n, leave_e, leave_da, mkL_f, tru, truU, truD, asB, asBo, q]
  obtain ⟨σ', h', e, ⟨u3, u4, u5, rfl⟩, rfl⟩ := loop
  rw [rngL_len] at e
  have z1 : rep [PyData.int 0] m = (lstIJ m.toNat ws.length ws 0 0).map .int := by
    unfold rep lstIJ
    rw [List.map_map]
    apply List.ext_getElem?
    intro t
    by_cases ht : t < m.toNat
    · rw [List.getElem?_map, List.getElem?_range ht]
      simp [ht, sumE]
    · rw [List.getElem?_eq_none (by simp; omega), List.getElem?_eq_none (by simp; omega)]
  have z2 : (lstIJ m.toNat ws.length ws m.toNat 0).map PyData.int = (List.range m.toNat).map fun t => PyData.int (valN (dig t ws)) := by
    unfold lstIJ
    rw [List.map_map]
    apply List.map_congr_left
    intro t ht
    have := List.mem_range.mp ht
    show PyData.int (if t < m.toNat then _ else _) = _
    rw [if_pos this]
  have hm1 : -1000000 ≤ m := by omega
  have hm2 : m ≤ 1000000 := by omega
  have hm3 : m ≤ 10000000 := by omega
  simp [b__law_row_of, evCl_0, evCl_1, evCl_2, evCl_3, evCl_4, evCl_k, ev, tv, evs, evo, evc, evw, evV, evC, evT, ev2, ev1, evCh, evB, evIf, evNil, evCons, evTup, evLst, evCall, evSl, evNo, evPart, vAnd, vOr, vNot, tAndE, tOrE, tNotE, binU, cmpU, biU, meU, g1, g2, maxG, minG, Es.len, Tg.slots, Tgs.slots, ex, exs, exh, sNx, sBk, sCt, sSeq, sDrop, sRet, sRetN, sAsg, sPar2, sPar3, sSub, sIf, sRaise, asg, asgs, R.bind_ok, R.bind_err, R.bind_bad, R.stm_ok, R.stm_err, R.stm_bad, opt_some, opt_none, noErr_ok, noErr_bad, leave_d, leave_n, leave_e, leave_da, mkL_f, tru, truU, truD, asB, asBo, pures, mulU, Py.listOf, hm1, hm2, hm3, z1, mkL_t, e, tupleU, isTup, lstLike, z2]
end K29

namespace K29
open PySem PySem.Spec PyProof.Rows L2 Py
/-! ### columns and digits, joined -/
def cv (bs : List Int) : Int := sumE (fun j b => b * 2 ^ j) 0 bs
theorem cv_cons (b : Int) (r : List Int) : cv (b :: r) = b + 2 * cv r := by
  unfold cv
  rw [sumE, sumE_shift]
  simp
theorem cv_in : ∀ bs : List Int, is01 bs → 0 ≤ cv bs ∧ cv bs < 2 ^ bs.length
  | [], _ => by simp [cv, sumE]
  | b :: r, h => by
    obtain ⟨h1, h2⟩ := cv_in r fun x hx => h x (List.mem_cons_of_mem _ hx)
    have := h b List.mem_cons_self
    rw [cv_cons, List.length_cons, Int.pow_succ]
    omega
theorem cv_dig : ∀ (bs : List Int) (t : Nat), is01 bs → (h : t < bs.length) → cv bs / 2 ^ t % 2 = bs[t]
  | b :: r, 0, h, _ => by
    have := h b List.mem_cons_self
    rw [cv_cons]
    simp
    omega
  | b :: r, t + 1, h, ht => by
    have := h b List.mem_cons_self
    have ih := cv_dig r t (fun x hx => h x (List.mem_cons_of_mem _ hx)) (by simpa using ht)
    rw [cv_cons, Int.pow_succ, Int.mul_comm (2 ^ t) 2, ← Int.ediv_ediv_of_nonneg (by decide), show (b + 2 * cv r) / 2 = cv r by omega, ih]
    rfl
theorem cv_bits : ∀ (m : Nat) (c : Int), 0 ≤ c → c < 2 ^ m → cv (bitsN c m) = c
  | 0, c, h0, h1 => by
    simp at h1
    have : c = 0 := by omega
    subst this
    rfl
  | m + 1, c, h0, h1 => by
    rw [Int.pow_succ] at h1
    rw [bitsN, cv_cons, cv_bits m (c / 2) (by omega) (by omega)]
    omega
theorem sumE_map (f : Nat → Int → Int) (g : Int → Int) : ∀ (xs : List Int) (k : Nat), sumE f k (xs.map g) = sumE (fun j x => f j (g x)) k xs
  | [], _ => rfl
  | x :: r, k => by rw [List.map_cons, sumE, sumE, sumE_map f g r (k + 1)]
theorem colS_cv (p : Nat) (ns : List Int) : colS p ns = cv (ns.map fun n => bitp n p) := by
  unfold colS cv
  rw [sumE_map]
theorem is01_bitp (p : Nat) (ns : List Int) : is01 (ns.map fun n => bitp n p) := by
  intro d hd
  obtain ⟨n, _, rfl⟩ := List.mem_map.mp hd
  exact bitp_01 n p
theorem colS_in (p : Nat) (ns : List Int) : 0 ≤ colS p ns ∧ colS p ns < 2 ^ ns.length := by
  rw [colS_cv]
  have := cv_in _ (is01_bitp p ns)
  simpa using this
theorem colS_dig (p : Nat) (ns : List Int) (t : Nat) (h : t < ns.length) : colS p ns / 2 ^ t % 2 = bitp ns[t] p := by
  rw [colS_cv, cv_dig _ t (is01_bitp p ns) (by simpa using h)]
  simp
theorem is01_dig (t : Nat) (ws : List Int) : is01 (dig t ws) := by
  intro d hd
  unfold dig at hd
  obtain ⟨n, _, rfl⟩ := List.mem_map.mp hd
  omega
theorem wordI_len (ns : List Int) : (wordI ns).length = (widR ns).toNat := by unfold wordI; simp
theorem all_fit (ns : List Int) : ∀ n ∈ ns, fitN n (widR ns).toNat := by
  have hp := widR_pos ns
  exact (widR_le ns (widR ns).toNat (by omega)).mp (by omega)
/-- the word, made longer, read back -/
theorem dig_longer (ns : List Int) (t j : Nat) (ht : t < ns.length) : dig t (wordI ns ++ List.replicate j (colS ((widR ns).toNat - 1) ns)) = bitsN ns[t] ((widR ns).toNat + j) := by
  have hp := widR_pos ns
  have hf := all_fit ns ns[t] (List.getElem_mem ht)
  apply List.ext_getElem?
  intro p
  unfold dig
  rw [List.getElem?_map]
  by_cases h1 : p < (widR ns).toNat
  · rw [List.getElem?_append_left (by rw [wordI_len]; exact h1), bitsN_get _ _ _ (by omega)]
    unfold wordI
    rw [List.getElem?_map, List.getElem?_range h1]
    show some (colS p ns / 2 ^ t % 2) = _
    rw [colS_dig p ns t ht]
  · by_cases h2 : p < (widR ns).toNat + j
    · rw [List.getElem?_append_right (by rw [wordI_len]; omega), List.getElem?_replicate, wordI_len, if_pos (by omega), bitsN_get _ _ _ h2]
      show some (colS ((widR ns).toNat - 1) ns / 2 ^ t % 2) = _
      rw [colS_dig _ ns t ht]
      obtain ⟨c, hc⟩ : ∃ c, (widR ns).toNat = c + 1 := ⟨(widR ns).toNat - 1, by omega⟩
      rw [hc] at hf h1 ⊢
      rw [bitp_high hf p (by omega)]
      rfl
    · rw [List.getElem?_eq_none (by simp [wordI_len]; omega), List.getElem?_eq_none (by rw [bitsN_length]; omega)]
      rfl
theorem read_longer (ns : List Int) (j : Nat) : (List.range ns.length).map (fun t => valN (dig t (wordI ns ++ List.replicate j (colS ((widR ns).toNat - 1) ns)))) = ns := by
  have hp := widR_pos ns
  apply List.ext_getElem?
  intro t
  rw [List.getElem?_map]
  by_cases ht : t < ns.length
  · rw [List.getElem?_range ht, List.getElem?_eq_getElem ht]
    show some (valN _) = _
    rw [dig_longer ns t j ht, val_bits _ _ (by omega) (fitN_mono (all_fit ns ns[t] (List.getElem_mem ht)) (by omega))]
  · rw [List.getElem?_eq_none (by simpa using ht), List.getElem?_eq_none (by omega)]
    rfl
/-- what drawn columns are told as -/
def told (m : Nat) (ds : List Int) : List Int := (List.range m).map fun t => valN (dig t ds)
theorem told_bit {m : Nat} {ds : List Int} (hne : ds ≠ []) {n : Int} (hn : n ∈ told m ds) : ∃ t, t < m ∧ n = valN (dig t ds) ∧ bitsN n ds.length = dig t ds ∧ fitN n ds.length := by
  unfold told at hn
  obtain ⟨t, ht, rfl⟩ := List.mem_map.mp hn
  have hd : dig t ds ≠ [] := by unfold dig; simpa using hne
  have hl : (dig t ds).length = ds.length := by unfold dig; simp
  obtain ⟨h1, h2⟩ := bits_val (dig t ds) hd (is01_dig t ds)
  rw [hl] at h1 h2
  exact ⟨t, List.mem_range.mp ht, rfl, h1, h2⟩
theorem told_bitp {ds : List Int} (hne : ds ≠ []) {t p : Nat} (hp : p < ds.length) : bitp (valN (dig t ds)) p = ds[p] / 2 ^ t % 2 := by
  have hd : dig t ds ≠ [] := by unfold dig; simpa using hne
  have hl : (dig t ds).length = ds.length := by unfold dig; simp
  obtain ⟨h1, _⟩ := bits_val (dig t ds) hd (is01_dig t ds)
  rw [hl] at h1
  have := bitsN_get (valN (dig t ds)) ds.length p hp
  rw [h1] at this
  unfold dig at this
  rw [List.getElem?_map, List.getElem?_eq_getElem hp] at this
  exact (Option.some.inj this).symm
theorem bits_range (c : Int) : ∀ m : Nat, bitsN c m = (List.range m).map fun t => c / 2 ^ t % 2 := by
  intro m
  apply List.ext_getElem?
  intro t
  by_cases ht : t < m
  · rw [bitsN_get _ _ _ ht, List.getElem?_map, List.getElem?_range ht]; rfl
  · rw [List.getElem?_eq_none (by rw [bitsN_length]; omega), List.getElem?_eq_none (by simp; omega)]
theorem told_col {m : Nat} {ds : List Int} (hne : ds ≠ []) {p : Nat} (hp : p < ds.length) (hr : 0 ≤ ds[p] ∧ ds[p] < 2 ^ m) : colS p (told m ds) = ds[p] := by
  rw [colS_cv]
  unfold told
  rw [List.map_map]
  have : (List.range m).map ((fun n => bitp n p) ∘ fun t => valN (dig t ds)) = bitsN ds[p] m := by
    rw [bits_range]
    apply List.map_congr_left
    intro t _
    exact told_bitp hne hp
  rw [this, cv_bits m _ hr.1 hr.2]
theorem told_wid {m : Nat} {ds : List Int} (hne : ds ≠ []) : widR (told m ds) ≤ ds.length := by
  have : 0 < ds.length := List.length_pos_iff.mpr hne
  rw [widR_le _ _ (by omega)]
  intro n hn
  obtain ⟨t, _, _, _, hf⟩ := told_bit hne hn
  exact hf
theorem told_word {m : Nat} {ds : List Int} (hne : ds ≠ []) (hr : ∀ d ∈ ds, 0 ≤ d ∧ d < 2 ^ m) : wordI (told m ds) = ds.take (widR (told m ds)).toNat := by
  have hw := told_wid (m := m) hne
  have hp := widR_pos (told m ds)
  apply List.ext_getElem?
  intro p
  unfold wordI
  rw [List.getElem?_map]
  by_cases h : p < (widR (told m ds)).toNat
  · rw [List.getElem?_range h, List.getElem?_take_of_lt h, List.getElem?_eq_getElem (by omega)]
    show some (colS p (told m ds)) = _
    rw [told_col hne (by omega) (hr _ (List.getElem_mem _))]
  · rw [List.getElem?_eq_none (by simpa using h), List.getElem?_eq_none (by simp; omega)]
    rfl
/-- a column less, while the last two are the same -/
theorem told_less {m : Nat} {ds : List Int} (hne : ds ≠ []) (hr : ∀ d ∈ ds, 0 ≤ d ∧ d < 2 ^ m) {c : Nat} (hc : c + 2 ≤ ds.length) (hw : widR (told m ds) ≤ (c + 2 : Nat)) : widR (told m ds) ≤ (c + 1 : Nat) ↔ ds[c + 1] = ds[c] := by
  rw [widR_le _ _ (by omega)] at hw
  rw [widR_le _ _ (by omega)]
  constructor
  · intro h
    rw [← told_col hne (by omega) (hr _ (List.getElem_mem (by omega : c + 1 < ds.length))), ← told_col (m := m) hne (by omega) (hr _ (List.getElem_mem (by omega : c < ds.length)))]
    rw [colS_cv, colS_cv]
    congr 1
    apply List.map_congr_left
    intro n hn
    exact (fitN_less (hw n hn)).mp (h n hn)
  · intro h n hn
    rw [fitN_less (hw n hn)]
    unfold told at hn
    obtain ⟨t, _, rfl⟩ := List.mem_map.mp hn
    rw [told_bitp hne (by omega : c + 1 < ds.length), told_bitp hne (by omega : c < ds.length), h]
end K29

namespace K29
open PySem PySem.Spec PyProof.Rows L2 Py
variable {F k : Nat}
theorem IsBag.mono {cs : List Int} {n n' : Int} {o : O} (h : IsBag cs n o) (hn : n ≤ n') : IsBag cs n' o := by
  obtain ⟨a, c, s, e, h1, h2, h3, h4, h5⟩ := h
  exact ⟨a, c, s, e, h1, by omega, h3, h4, h5⟩
abbrev Bnd (x : Int) : Prop := -20000000000000 ≤ x ∧ x ≤ 20000000000000
theorem bnd_wid {ns : List Int} (h : ∀ x ∈ ns, Bnd x) : widR ns ≤ 46 := by
  refine (widR_le ns 46 (by decide)).mpr fun x hx => ?_
  have := h x hx
  unfold fitN
  simp
  omega
/-- the drawn row -/
theorem t_row {cs : List Int} {n m : Int} {o : O} (hb : IsBag cs n o) (hn : n ≤ 1000) (hl : cs.length ≤ 63) (m0 : 0 ≤ m) (m5 : m ≤ 5) (u0 u2 u4 u5 u6 u7 u8 u9 u10 u11 u12 u13 u14 : Option U) :
    ∃ (ns : List Int) (o' : O), ev G (run G F (dsOf dd) (k + 1)) c_law_1 [u0, some (.lab 0), u2, some (.d (.int m)), u4, u5, u6, u7, u8, u9, u10, u11, u12, u13, u14] [o] = .ok (.d (.list (ns.map .int))) [o'] ∧ IsBag cs (n + 10) o' ∧ (ns.length : Int) = m ∧ ∀ x ∈ ns, Bnd x := by
  have hr : Py.inR m = true := Py.inR_of m0 (by omega)
  obtain ⟨ys, hh, e, ⟨o', rfl, hb', ns, rfl, hns⟩, hlen⟩ : ∃ ys hh', ev G (run G F (dsOf dd) (k + 1)) c_law_1 [u0, some (.lab 0), u2, some (.d (.int m)), u4, u5, u6, u7, u8, u9, u10, u11, u12, u13, u14] [o] = mkL false ys hh' ∧
      (∃ o', hh' = [o'] ∧ IsBag cs (n + 2 * (rngL 0 1 m.toNat).length) o' ∧ ∃ ns : List Int, ys = ns.map .int ∧ ∀ x ∈ ns, Bnd x) ∧ ys.length = (rngL 0 1 m.toNat).length := by
    refine ev_lcI (us := rngL 0 1 m.toNat) (h1 := [o]) (fun pre ys hh => ∃ o', hh = [o'] ∧ IsBag cs (n + 2 * pre.length) o' ∧ ∃ ns : List Int, ys = ns.map .int ∧ ∀ x ∈ ns, Bnd x) ?_ ?_ ⟨o, rfl, by simpa using hb, [], rfl, by simp⟩ (fun pre u r ys hh e hI => ?_) (by rw [rngL_len]; omega)
    · rintro pre ys hh ⟨o', rfl, _⟩; rfl
    · simp [evCl_0, evCl_1, evCl_2, evCl_3, evCl_4, evCl_k, ev, tv, evs, evo, evc, evw, evV, evC, evT, ev2, ev1, evCh, evB, evIf, evNil, evCons, evTup, evLst, evCall, evSl, evNo, evPart, vAnd, vOr, vNot, tAndE, tOrE, tNotE, binU, cmpU, biU, meU, g1, g2, maxG, minG, Es.len, Tg.slots, Tgs.slots, ex, exs, exh, sNx, sBk, sCt, sSeq, sDrop, sRet, sRetN, sAsg, sPar2, sPar3, sSub, sIf, sRaise, asg, asgs, R.bind_ok, R.bind_err, R.bind_bad, R.stm_ok, R.stm_err, R.stm_bad, opt_some, opt_none, noErr_ok, noErr_bad, leave_d, leave_n, leave_e, leave_da, mkL_f, tru, truU, truD, asB, asBo, rngS, hr]
    · obtain ⟨o1, rfl, hb1, ns, rfl, hns⟩ := hI
      obtain ⟨rfl, hlt⟩ := range_get e
      obtain ⟨r1, o2, q1, p0, p1, hb2⟩ := p_pick (F := F) (k := k) (many := 41) hb1 (by omega) (by decide) (by decide) (by omega)
      obtain ⟨r2, o3, q2, s0, s1, hb3⟩ := p_pick (F := F) (k := k) (many := 4) hb2 (by omega) (by decide) (by decide) (by omega)
      have p12 : gPow 10 12 = some 1000000000000 := by decide
      have hb3' : IsBag cs (n + 2 * (pre.length + 1 : Nat)) o3 := hb3.mono (by omega)
      have cases4 : r2 = 0 ∨ r2 = 1 ∨ r2 = 2 ∨ r2 = 3 := by omega
      have mk : ∀ y, mulOk (r1 - 20) y = true := fun y => mulK (.inl (by omega))
      have a0 : L2.atI [PyData.int 1, .int 1, .int 1000, .int 1000000000000] 0 = some (.int 1) := rfl
      have a1 : L2.atI [PyData.int 1, .int 1, .int 1000, .int 1000000000000] 1 = some (.int 1) := rfl
      have a2 : L2.atI [PyData.int 1, .int 1, .int 1000, .int 1000000000000] 2 = some (.int 1000) := rfl
      have a3 : L2.atI [PyData.int 1, .int 1, .int 1000, .int 1000000000000] 3 = some (.int 1000000000000) := rfl
      obtain ⟨f, hf, hat⟩ : ∃ f : Int, (0 ≤ f ∧ f ≤ 1000000000000) ∧ L2.atI [PyData.int 1, .int 1, .int 1000, .int 1000000000000] r2 = some (.int f) := by
        rcases cases4 with rfl | rfl | rfl | rfl
        · exact ⟨_, by decide, a0⟩
        · exact ⟨_, by decide, a1⟩
        · exact ⟨_, by decide, a2⟩
        · exact ⟨_, by decide, a3⟩
      have hbd : Bnd ((r1 - 20) * f) := by
        have c1 := Int.mul_le_mul_of_nonneg_right (show r1 - 20 ≤ 20 by omega) hf.1
        have c2 := Int.mul_le_mul_of_nonneg_right (show -20 ≤ r1 - 20 by omega) hf.1
        refine ⟨?_, ?_⟩ <;> omega
      refine ⟨[u0, some (.lab 0), u2, some (.d (.int m)), u4, u5, u6, u7, u8, u9, u10, u11, u12, some (.d (.int pre.length)), u14], .int ((r1 - 20) * f), [o3], rfl, ⟨o3, rfl, by simpa using hb3', ns ++ [(r1 - 20) * f], by simp, fun x hx => ?_⟩, fun acc => ?_⟩
      · rcases List.mem_append.mp hx with hx | hx
        · exact hns x hx
        · rw [List.mem_singleton.mp hx]; exact hbd
      · simp [evCl_0, evCl_1, evCl_2, evCl_3, evCl_4, evCl_k, ev, tv, evs, evo, evc, evw, evV, evC, evT, ev2, ev1, evCh, evB, evIf, evNil, evCons, evTup, evLst, evCall, evSl, evNo, evPart, vAnd, vOr, vNot, tAndE, tOrE, tNotE, binU, cmpU, biU, meU, g1, g2, maxG, minG, Es.len, Tg.slots, Tgs.slots, ex, exs, exh, sNx, sBk, sCt, sSeq, sDrop, sRet, sRetN, sAsg, sPar2, sPar3, sSub, sIf, sRaise, asg, asgs, R.bind_ok, R.bind_err, R.bind_bad, R.stm_ok, R.stm_err, R.stm_bad, opt_some, opt_none, noErr_ok, noErr_bad, leave_d, leave_n, leave_e, leave_da, mkL_f, tru, truU, truD, asB, asBo, q1, q2, Py.intOp, gSubI, p12, pures, getU, dctOf, getS, ixO, seqOf, Py.listOf, hat, mulU, mk]
  rw [mkL_f] at e
  rw [rngL_len, List.length_map] at hlen
  refine ⟨ns, o', e, hb'.mono (by rw [rngL_len]; omega), by omega, hns⟩
/-- the drawn columns -/
theorem t_drawn {cs : List Int} {n m : Int} {o : O} (hb : IsBag cs n o) (hn : n ≤ 1000) (hl : cs.length ≤ 63) (m0 : 0 ≤ m) (m5 : m ≤ 5) (u0 u2 u4 u5 u6 u7 u8 u9 u10 u11 u12 u13 u14 : Option U) :
    ∃ (ds : List Int) (o' : O), ev G (run G F (dsOf dd) (k + 2)) c_law_0 [u0, some (.lab 0), u2, some (.d (.int m)), u4, u5, u6, u7, u8, u9, u10, u11, u12, u13, u14] [o] = .ok (.d (.list (ds.map .int))) [o'] ∧ IsBag cs (n + 7) o' ∧ ds ≠ [] ∧ ds.length ≤ 6 ∧ ∀ x ∈ ds, 0 ≤ x ∧ x < 2 ^ m.toNat := by
  obtain ⟨r0, o1, q0, p0, p1, hb1⟩ := p_pick (F := F) (k := k + 1) (many := 6) hb (by omega) (by decide) (by decide) (by omega)
  have hr : Py.inR (1 + r0) = true := Py.inR_of (by omega) (by omega)
  have pm : (2 : Int) ^ m.toNat < 2 ^ 64 ∧ 1 ≤ (2 : Int) ^ m.toNat := by
    have : m.toNat = 0 ∨ m.toNat = 1 ∨ m.toNat = 2 ∨ m.toNat = 3 ∨ m.toNat = 4 ∨ m.toNat = 5 := by omega
    rcases this with h | h | h | h | h | h <;> rw [h] <;> decide
  obtain ⟨ys, hh, e, ⟨o', rfl, hb', ns, rfl, hns⟩, hlen⟩ : ∃ ys hh', ev G (run G F (dsOf dd) (k + 2)) c_law_0 [u0, some (.lab 0), u2, some (.d (.int m)), u4, u5, u6, u7, u8, u9, u10, u11, u12, u13, u14] [o] = mkL false ys hh' ∧
      (∃ o', hh' = [o'] ∧ IsBag cs (n + 1 + (rngL 0 1 (1 + r0).toNat).length) o' ∧ ∃ ns : List Int, ys = ns.map .int ∧ ∀ x ∈ ns, 0 ≤ x ∧ x < 2 ^ m.toNat) ∧ ys.length = (rngL 0 1 (1 + r0).toNat).length := by
    refine ev_lcI (us := rngL 0 1 (1 + r0).toNat) (h1 := [o1]) (fun pre ys hh => ∃ o', hh = [o'] ∧ IsBag cs (n + 1 + pre.length) o' ∧ ∃ ns : List Int, ys = ns.map .int ∧ ∀ x ∈ ns, 0 ≤ x ∧ x < 2 ^ m.toNat) ?_ ?_ ⟨o1, rfl, by simpa using hb1, [], rfl, by simp⟩ (fun pre u r ys hh e hI => ?_) (by rw [rngL_len]; omega)
    · rintro pre ys hh ⟨o', rfl, _⟩; rfl
    · simp [evCl_0, evCl_1, evCl_2, evCl_3, evCl_4, evCl_k, ev, tv, evs, evo, evc, evw, evV, evC, evT, ev2, ev1, evCh, evB, evIf, evNil, evCons, evTup, evLst, evCall, evSl, evNo, evPart, vAnd, vOr, vNot, tAndE, tOrE, tNotE, binU, cmpU, biU, meU, g1, g2, maxG, minG, Es.len, Tg.slots, Tgs.slots, ex, exs, exh, sNx, sBk, sCt, sSeq, sDrop, sRet, sRetN, sAsg, sPar2, sPar3, sSub, sIf, sRaise, asg, asgs, R.bind_ok, R.bind_err, R.bind_bad, R.stm_ok, R.stm_err, R.stm_bad, opt_some, opt_none, noErr_ok, noErr_bad, leave_d, leave_n, leave_e, leave_da, mkL_f, tru, truU, truD, asB, asBo, q0, addU, Py.listOf, addD, rngS, hr]
    · obtain ⟨o2, rfl, hb2, ns, rfl, hns⟩ := hI
      obtain ⟨rfl, hlt⟩ := range_get e
      obtain ⟨r1, o3, q1, s0, s1, hb3⟩ := p_pick (F := F) (k := k + 1) (many := 2 ^ m.toNat) hb2 (by omega) pm.2 pm.1 (by omega)
      have pw := fun h => p_power (F := F) (k := k + 1) m h m0 (by omega)
      refine ⟨[u0, some (.lab 0), u2, some (.d (.int m)), u4, u5, u6, u7, u8, u9, u10, u11, u12, u13, some (.d (.int pre.length))], .int r1, [o3], rfl, ⟨o3, rfl, by simpa using hb3.mono (by omega), ns ++ [r1], by simp, fun x hx => ?_⟩, fun acc => ?_⟩
      · rcases List.mem_append.mp hx with hx | hx
        · exact hns x hx
        · rw [List.mem_singleton.mp hx]; exact ⟨s0, s1⟩
      · simp [evCl_0, evCl_1, evCl_2, evCl_3, evCl_4, evCl_k, ev, tv, evs, evo, evc, evw, evV, evC, evT, ev2, ev1, evCh, evB, evIf, evNil, evCons, evTup, evLst, evCall, evSl, evNo, evPart, vAnd, vOr, vNot, tAndE, tOrE, tNotE, binU, cmpU, biU, meU, g1, g2, maxG, minG, Es.len, Tg.slots, Tgs.slots, ex, exs, exh, sNx, sBk, sCt, sSeq, sDrop, sRet, sRetN, sAsg, sPar2, sPar3, sSub, sIf, sRaise, asg, asgs, R.bind_ok, R.bind_err, R.bind_bad, R.stm_ok, R.stm_err, R.stm_bad, opt_some, opt_none, noErr_ok, noErr_bad, leave_d, leave_n, leave_e, leave_da, mkL_f, tru, truU, truD, asB, asBo, pw, q1]
  rw [mkL_f] at e
  rw [rngL_len, List.length_map] at hlen
  refine ⟨ns, o', e, hb'.mono (by rw [rngL_len]; omega), ?_, by omega, hns⟩
  intro z
  rw [z] at hlen
  simp at hlen
  omega
end K29

namespace K29
open PySem PySem.Spec PyProof.Rows L2 Py
variable {F k : Nat}
theorem atI_neg {xs : List Int} {j : Nat} (h1 : 1 ≤ j) (h2 : j ≤ xs.length) : L2.atI (xs.map PyData.int) (-(j : Int)) = some (.int (xs[xs.length - j]'(by omega))) := by
  unfold L2.atI L2.ixN
  rw [if_neg (by omega), if_pos (by simp; omega)]
  have e : (-(j : Int) + ((xs.map PyData.int).length : Int)).toNat = xs.length - j := by simp; omega
  rw [e]
  simp only [Option.bind_some, List.getElem?_map]
  rw [List.getElem?_eq_getElem (by omega)]
  rfl
abbrev shT : Ex := .and (.cmp .gt (.bi .len false (.cons (.var 10) .nil)) (.int 1)) (.one (.cmp .eq (.ix (.var 10) (.neg (.int 1))) (.ix (.var 10) (.neg (.int 2)))))
theorem sh_one {xs : List Int} (hl : xs.length = 1) (u0 u1 u2 u3 u4 u5 u6 u7 u8 u9 u11 u12 u13 u14 : Option U) (h : List O) :
    tv G (run G F (dsOf dd) k) shT [u0, u1, u2, u3, u4, u5, u6, u7, u8, u9, some (.d (.tuple (xs.map .int))), u11, u12, u13, u14] h = .ok false h := by
  simp [ev, tv, evs, evo, evc, evw, evV, evC, evT, ev2, ev1, evCh, evB, evIf, evNil, evCons, evTup, evLst, evCall, evSl, evNo, evPart, vAnd, vOr, vNot, tAndE, tOrE, tNotE, binU, cmpU, biU, meU, g1, g2, maxG, minG, Es.len, Tg.slots, Tgs.slots, ex, exs, exh, sNx, sBk, sCt, sSeq, sDrop, sRet, sRetN, sAsg, sPar2, sPar3, sSub, sIf, sRaise, asg, asgs, R.bind_ok, R.bind_err, R.bind_bad, R.stm_ok, R.stm_err, R.stm_bad, opt_some, opt_none, noErr_ok, noErr_bad, leave_d, leave_n, leave_e, leave_da, mkL_f, tru, truU, truD, asB, asBo, lenU, lenN, cmpI, hl]
theorem sh_two {xs : List Int} {c : Nat} (hl : xs.length = c + 2) (u0 u1 u2 u3 u4 u5 u6 u7 u8 u9 u11 u12 u13 u14 : Option U) (h : List O) :
    tv G (run G F (dsOf dd) k) shT [u0, u1, u2, u3, u4, u5, u6, u7, u8, u9, some (.d (.tuple (xs.map .int))), u11, u12, u13, u14] h = .ok (decide (xs[c + 1]'(by omega) = xs[c]'(by omega))) h := by
  have qa : L2.atI (List.map PyData.int xs) (-1) = some (.int (xs[c + 1]'(by omega))) := by
    have := atI_neg (xs := xs) (j := 1) (by omega) (by omega)
    rw [show (-((1 : Nat) : Int)) = -1 from rfl] at this
    rw [this]
    congr 3
    omega
  have qb : L2.atI (List.map PyData.int xs) (-2) = some (.int (xs[c]'(by omega))) := by
    have := atI_neg (xs := xs) (j := 2) (by omega) (by omega)
    rw [show (-((2 : Nat) : Int)) = -2 from rfl] at this
    rw [this]
    congr 3
    omega
  have lt : (1 : Int) < ((c + 2 : Nat) : Int) := by omega
  have lt3 : (1 : Int) < (c : Int) + 2 := by omega
  simp [ev, tv, evs, evo, evc, evw, evV, evC, evT, ev2, ev1, evCh, evB, evIf, evNil, evCons, evTup, evLst, evCall, evSl, evNo, evPart, vAnd, vOr, vNot, tAndE, tOrE, tNotE, binU, cmpU, biU, meU, g1, g2, maxG, minG, Es.len, Tg.slots, Tgs.slots, ex, exs, exh, sNx, sBk, sCt, sSeq, sDrop, sRet, sRetN, sAsg, sPar2, sPar3, sSub, sIf, sRaise, asg, asgs, R.bind_ok, R.bind_err, R.bind_bad, R.stm_ok, R.stm_err, R.stm_bad, opt_some, opt_none, noErr_ok, noErr_bad, leave_d, leave_n, leave_e, leave_da, mkL_f, tru, truU, truD, asB, asBo, lenU, lenN, cmpI, hl, lt3, getU, dctOf, getS, ixO, seqOf, Py.listOf, negU, qa, qb, eq_ii]
theorem sh_body {xs : List Int} (hne : xs ≠ []) (u0 u1 u2 u3 u4 u5 u6 u7 u8 u9 u11 u12 u13 u14 : Option U) (h : List O) :
    exs G (run G F (dsOf dd) k) F l_law_0 [u0, u1, u2, u3, u4, u5, u6, u7, u8, u9, some (.d (.tuple (xs.map .int))), u11, u12, u13, u14] h = .nx [u0, u1, u2, u3, u4, u5, u6, u7, u8, u9, some (.d (.tuple (xs.dropLast.map .int))), u11, u12, u13, u14] h := by
  have cu : cut (List.map PyData.int xs) none (some (-1)) = (List.map PyData.int xs).dropLast := cut_m1 _ (by simpa using hne)
  simp [l_law_0, ev, tv, evs, evo, evc, evw, evV, evC, evT, ev2, ev1, evCh, evB, evIf, evNil, evCons, evTup, evLst, evCall, evSl, evNo, evPart, vAnd, vOr, vNot, tAndE, tOrE, tNotE, binU, cmpU, biU, meU, g1, g2, maxG, minG, Es.len, Tg.slots, Tgs.slots, ex, exs, exh, sNx, sBk, sCt, sSeq, sDrop, sRet, sRetN, sAsg, sPar2, sPar3, sSub, sIf, sRaise, asg, asgs, R.bind_ok, R.bind_err, R.bind_bad, R.stm_ok, R.stm_err, R.stm_bad, opt_some, opt_none, noErr_ok, noErr_bad, leave_d, leave_n, leave_e, leave_da, mkL_f, tru, truU, truD, asB, asBo, negU, asI, slU, cu, List.map_dropLast]
/-- the while loop that takes columns away -/
theorem t_short {m : Nat} {ds : List Int} (hne : ds ≠ []) (hr : ∀ d ∈ ds, 0 ≤ d ∧ d < 2 ^ m) (u0 u1 u2 u3 u4 u5 u6 u7 u8 u9 u11 u12 u13 u14 : Option U) (h : List O) : ∀ (f c : Nat), (widR (told m ds)).toNat ≤ c → c ≤ ds.length → c < f →
    whGo (tv G (run G F (dsOf dd) k) shT) (exs G (run G F (dsOf dd) k) F l_law_0) f [u0, u1, u2, u3, u4, u5, u6, u7, u8, u9, some (.d (.tuple ((ds.take c).map .int))), u11, u12, u13, u14] h =
      .nx [u0, u1, u2, u3, u4, u5, u6, u7, u8, u9, some (.d (.tuple ((ds.take (widR (told m ds)).toNat).map .int))), u11, u12, u13, u14] h
  | 0, c, h1, h2, h3 => by omega
  | f + 1, c, h1, h2, h3 => by
    have hp := widR_pos (told m ds)
    have hlen : (ds.take c).length = c := by rw [List.length_take]; omega
    unfold whGo
    by_cases hc1 : c = 1
    · subst hc1
      have hw : (widR (told m ds)).toNat = 1 := by omega
      rw [sh_one hlen, R.stm_ok, if_neg Bool.false_ne_true, hw]
    · obtain ⟨c, rfl⟩ : ∃ d, c = d + 2 := ⟨c - 2, by omega⟩
      have less := told_less (m := m) hne hr (c := c) h2 (by omega)
      rw [sh_two hlen, R.stm_ok]
      rw [List.getElem_take, List.getElem_take]
      by_cases he : ds[c + 1]'(by omega) = ds[c]'(by omega)
      · have hw := less.mpr he
        have ih := t_short hne hr u0 u1 u2 u3 u4 u5 u6 u7 u8 u9 u11 u12 u13 u14 h f (c + 1) (by omega) (by omega) (by omega)
        rw [decide_eq_true he, if_pos rfl, sh_body (by intro z; rw [z] at hlen; simp at hlen)]
        dsimp only
        rw [List.dropLast_eq_take, hlen, List.take_take, show min (c + 2 - 1) (c + 2) = c + 1 by omega]
        exact ih
      · have hw : (widR (told m ds)).toNat = c + 2 := by
          have : ¬ widR (told m ds) ≤ ((c + 1 : Nat) : Int) := fun z => he (less.mp z)
          omega
        rw [decide_eq_false he, if_neg Bool.false_ne_true, hw]
end K29

namespace K29
open PySem PySem.Spec PyProof.Rows L2 Py
variable {F k : Nat}
theorem seq_s {C : Str → List U → List O → R U} {s : Sm} {r : Ss} {σ σ1 : En} {h h1 : List O} (e : ex G C F s σ h = .nx σ1 h1) : exs G C F (.cons s r) σ h = exs G C F r σ1 h1 := by
  show sSeq (ex G C F s) (exs G C F r) σ h = _
  unfold sSeq
  rw [e]
theorem ife_no {C : Str → List U → List O → R U} {c : Ex} {a : Ss} {σ : En} {h h1 : List O} (e : tv G C c σ h = .ok false h1) : ex G C F (.ife c a .nil) σ h = .nx σ h1 := by
  show (tv G C c σ h).stm σ _ = _
  rw [e]
  rfl
theorem set_s {C : Str → List U → List O → R U} {i : Nat} {x : Ex} {u : U} {σ : En} {h h1 : List O} (e : ev G C x σ h = .ok u h1) : ex G C F (.set i x) σ h = .nx (σ.set i (some u)) h1 := by
  show (ev G C x σ h).stm σ _ = _
  rw [e]
  rfl
theorem evCl_k10 {f f2 : En → List O → R U} {C : List U → List O → R U} {σ : En} {h : List O} : evCl 0 2 [1, 0] evNil (evCons f (evCons f2 evNil)) C σ h = (f σ h).bind fun u h => (f2 σ h).bind fun u2 h => C [u2, u] h := by
  unfold evCl evNil
  rw [R.bind_ok]
  unfold evCons
  cases f σ h with
  | ok a h => dsimp only [R.bind_ok]; cases f2 σ h <;> rfl
  | err c h => rfl
  | bad => rfl
theorem word_good {m : Int} {ws : List Int} (hne : ws ≠ []) (hr : ∀ x ∈ ws, 0 ≤ x ∧ x < 2 ^ m.toNat) : wordB m (.tuple (ws.map .int)) = true := by
  unfold wordB
  simp only [Bool.and_eq_true, List.all_eq_true, Bool.not_eq_true']
  refine ⟨by cases ws <;> simp_all, fun x hx => ?_⟩
  obtain ⟨i, hi, rfl⟩ := List.mem_map.mp hx
  have := hr i hi
  simp [inB]
  omega
theorem str_eq (neg : Bool) (h : List O) : Py.eqU neg (.d (.list [.str "row", .str "row", .str "many", .str "word"])) (.d (.list [.str "row", .str "row", .str "many", .str "word"])) h = .ok (.d (.bool (neg != true))) h := by
  have hd : PyData.depth (.list [.str "row", .str "row", .str "many", .str "word"]) ≤ 64 := by decide
  have he : PyData.eqv (.list [.str "row", .str "row", .str "many", .str "word"]) (.list [.str "row", .str "row", .str "many", .str "word"]) = true := by decide
  simp [Py.eqU, eqO, Py.dataOf, hd, he]
/-- the things that are no rows -/
theorem bads {r : Int} (h0 : 0 ≤ r) (h1 : r < 5) : ∃ d : D, L2.atI [PyData.none, .list [.int 0], .tuple (rep [.int 0] 6), .tuple [.bool true], .tuple [.str "0"]] r = some d ∧ rowB d = false ∧ ∀ ds, d = .tuple ds → ds.length ≤ 10000000 := by
  have : r = 0 ∨ r = 1 ∨ r = 2 ∨ r = 3 ∨ r = 4 := by omega
  rcases this with rfl | rfl | rfl | rfl | rfl
  · exact ⟨.none, rfl, rfl, fun ds e => by cases e⟩
  · exact ⟨.list [.int 0], rfl, rfl, fun ds e => by cases e⟩
  · exact ⟨.tuple (rep [.int 0] 6), rfl, by decide, fun ds e => by cases e; decide⟩
  · exact ⟨.tuple [.bool true], rfl, by decide, fun ds e => by cases e; decide⟩
  · exact ⟨.tuple [.str "0"], rfl, by decide, fun ds e => by cases e; decide⟩
theorem wrongs {r : Int} (h0 : 0 ≤ r) (h1 : r < 4) : ∃ d : D, L2.atI [PyData.none, .int (-1), .int 6, .bool true] r = some d ∧ inB 0 5 d = false := by
  have : r = 0 ∨ r = 1 ∨ r = 2 ∨ r = 3 := by omega
  rcases this with rfl | rfl | rfl | rfl
  · exact ⟨.none, rfl, rfl⟩
  · exact ⟨.int (-1), rfl, by decide⟩
  · exact ⟨.int 6, rfl, by decide⟩
  · exact ⟨.bool true, rfl, rfl⟩
theorem odds {r m : Int} (h0 : 0 ≤ r) (h1 : r < 6) : ∃ d : D, L2.atI [PyData.none, .tuple [], .list [.int 0], .tuple [.int (2 ^ m.toNat)], .tuple [.int (-1)], .tuple [.bool false]] r = some d ∧ wordB m d = false ∧ ∀ ds, d = .tuple ds → ds.length ≤ 10000000 := by
  have : r = 0 ∨ r = 1 ∨ r = 2 ∨ r = 3 ∨ r = 4 ∨ r = 5 := by omega
  rcases this with rfl | rfl | rfl | rfl | rfl | rfl
  · exact ⟨.none, rfl, rfl, fun ds e => by cases e⟩
  · exact ⟨.tuple [], rfl, rfl, fun ds e => by cases e; decide⟩
  · exact ⟨.list [.int 0], rfl, rfl, fun ds e => by cases e⟩
  · exact ⟨.tuple [.int (2 ^ m.toNat)], rfl, by simp [wordB, inB]; omega, fun ds e => by cases e; simp⟩
  · exact ⟨.tuple [.int (-1)], rfl, by simp [wordB, inB], fun ds e => by cases e; decide⟩
  · exact ⟨.tuple [.bool false], rfl, by simp [wordB, inB], fun ds e => by cases e; decide⟩
theorem drop_last {xs : List Int} (h : xs ≠ []) : xs.drop (xs.length - 1) = [lastI xs] := by
  rcases List.eq_nil_or_concat xs with e | ⟨ys, z, e⟩
  · exact absurd e h
  · subst e
    simp [lastI]
theorem cut_last {xs : List Int} (h : xs ≠ []) : cut (xs.map PyData.int) (some (-1)) none = [.int (lastI xs)] := by
  have hp : 0 < xs.length := List.length_pos_iff.mpr h
  unfold cut HT.sIx
  simp only [List.length_map]
  rw [if_pos (by decide), show (-1 + (xs.length : Int)).toNat = xs.length - 1 by omega, show xs.length - (xs.length - 1) = 1 by omega, ← List.map_drop, drop_last h]
  rfl
theorem turn {cs : List Int} {n : Int} {o : O} (hb : IsBag cs n o) (hn : n ≤ 900) (hl : cs.length ≤ 63) (hF : 1002 ≤ F) (u0 u2 u3 u4 u5 u6 u7 u8 u9 u10 u11 u12 u13 u14 : Option U) :
    ∃ (o' : O) (v3 v4 v5 v6 v7 v8 v9 v10 v11 v12 v13 v14 : Option U), exs G (run G F (dsOf dd) (k + 6)) F l_law_1 [u0, some (.lab 0), u2, u3, u4, u5, u6, u7, u8, u9, u10, u11, u12, u13, u14] [o] =
      .nx [u0, some (.lab 0), u2, v3, v4, v5, v6, v7, v8, v9, v10, v11, v12, v13, v14] [o'] ∧ IsBag cs (n + 40) o' := by
  obtain ⟨m, o1, q1, m0, m1, b1⟩ := p_pick (F := F) (k := k + 5) (many := 6) hb (by omega) (by decide) (by decide) (by omega)
  obtain ⟨ns, o2, q2, b2, hlen, hbd⟩ := t_row (F := F) (k := k + 5) b1 (by omega) hl m0 (by omega) u0 u2 u4 u5 u6 u7 u8 u9 u10 u11 u12 u13 u14
  have hw46 := bnd_wid hbd
  have hwp := widR_pos ns
  have n5 : ns.length ≤ 5 := by omega
  obtain ⟨j, o3, q3, j0, j1, b3⟩ := p_pick (F := F) (k := k + 5) (many := 4) b2 (by omega) (by decide) (by decide) (by omega)
  have q1 : ∀ rest, run G F (dsOf dd) (k + 6) "_law_pick" [.lab 0, .d (.int 6)] (o :: rest) = .ok (.d (.int m)) (o1 :: rest) := q1
  have q2 : ev G (run G F (dsOf dd) (k + 6)) c_law_1 [u0, some (.lab 0), u2, some (.d (.int m)), u4, u5, u6, u7, u8, u9, u10, u11, u12, u13, u14] [o1] = .ok (.d (.list (ns.map .int))) [o2] := q2
  have q3 : ∀ rest, run G F (dsOf dd) (k + 6) "_law_pick" [.lab 0, .d (.int 4)] (o2 :: rest) = .ok (.d (.int j)) (o3 :: rest) := q3
  have w1 : ∀ h, run G F (dsOf dd) (k + 6) "word_of" [.d (.tuple (ns.map .int))] h = .ok (.d (.tuple ((wordI ns).map .int))) h := fun h => p_word_of (F := F) (k := k + 2) ns h n5 (by omega)
  have w2 : ∀ h, run G F (dsOf dd) (k + 6) "_law_word_of" [.d (.tuple (ns.map .int))] h = .ok (.d (.tuple ((wordI ns).map .int))) h := fun h => p_law_word (F := F) (k := k + 4) ns h n5 (by omega) hF
  have wl := wordI_len ns
  have w3 : ∀ h, run G F (dsOf dd) (k + 6) "_law_same" [.d (.tuple ((wordI ns).map .int)), .d (.tuple ((wordI ns).map .int))] h = .ok (.d (.bool true)) h := fun h => p_same_tup (F := F) (k := k + 4) (wordI ns) h (by omega)
  have w4 : ∀ h, run G F (dsOf dd) (k + 6) "width" [.d (.tuple (ns.map .int))] h = .ok (.d (.int (widR ns))) h := fun h => p_width (F := F) (k := k + 2) ns h n5
  have w5 : ∀ a b h, run G F (dsOf dd) (k + 6) "_law_same" [.d (.int a), .d (.int b)] h = .ok (.d (.bool (decide (a = b)))) h := fun a b h => p_same_int (F := F) (k := k + 5) a b h
  have w6 : ((wordI ns).length : Int) = widR ns := by rw [wl]; omega
  -- the longer word
  have lastc : lastI (wordI ns) = colS ((widR ns).toNat - 1) ns := by
    unfold lastI wordI
    rw [List.getLast?_eq_getElem?, List.length_map, List.length_range, List.getElem?_map, List.getElem?_range (by omega)]
    rfl
  have wne : wordI ns ≠ [] := by intro z; rw [z] at wl; simp at wl; omega
  have cutl := cut_last wne
  generalize hL : wordI ns ++ List.replicate j.toNat (colS ((widR ns).toNat - 1) ns) = lon
  have lonD : (wordI ns).map PyData.int ++ rep [.int (lastI (wordI ns))] j = lon.map PyData.int := by
    rw [← hL, List.map_append, lastc]
    congr 1
    unfold rep
    rw [List.map_replicate]
    generalize j.toNat = jj
    induction jj with
    | zero => rfl
    | succ x ih => rw [List.replicate_succ, List.flatten_cons, ih, List.replicate_succ]; rfl
  have lonl : lon.length ≤ 100 := by rw [← hL]; simp; omega
  have lonn : lon ≠ [] := by rw [← hL]; simp [wne]
  have lonr : ∀ x ∈ lon, 0 ≤ x ∧ x < 2 ^ m.toNat := by
    have hm : m.toNat = ns.length := by omega
    rw [hm, ← hL]
    intro x hx
    rcases List.mem_append.mp hx with hx | hx
    · unfold wordI at hx
      obtain ⟨p, _, rfl⟩ := List.mem_map.mp hx
      exact colS_in p ns
    · rw [(List.mem_replicate.mp hx).2]
      exact colS_in _ ns
  have w7 : ∀ h, run G F (dsOf dd) (k + 6) "row_of" [.d (.int m), .d (.tuple (lon.map .int))] h = .ok (.d (.tuple (ns.map .int))) h := fun h => by
    rw [p_row_of (F := F) (k := k + 2) m lon h m0 (by omega) lonn (by omega) (word_good lonn lonr)]
    have := read_longer ns j.toNat
    rw [hL] at this
    have hm : m.toNat = ns.length := by omega
    rw [hm]
    congr 3
    conv => rhs; rw [← this]
    rw [List.map_map]
    rfl
  have w8 : ∀ h, run G F (dsOf dd) (k + 6) "_law_same" [.d (.tuple (ns.map .int)), .d (.tuple (ns.map .int))] h = .ok (.d (.bool true)) h := fun h => p_same_tup (F := F) (k := k + 4) ns h (by omega)
  -- the drawn columns
  obtain ⟨ds, o4, q4, b4, dne, dl, dr⟩ := t_drawn (F := F) (k := k + 4) b3 (by omega) hl m0 (by omega) u0 u2 (some (.d (.tuple (ns.map .int)))) (some (.d (.tuple ((wordI ns).map .int)))) (some (.d (.tuple (lon.map .int)))) u7 u8 u9 u10 u11 u12 u13 u14
  have tl : (told m.toNat ds).map PyData.int = (List.range m.toNat).map fun t => PyData.int (valN (dig t ds)) := by unfold told; rw [List.map_map]; rfl
  have w9 : ∀ h, run G F (dsOf dd) (k + 6) "row_of" [.d (.int m), .d (.tuple (ds.map .int))] h = .ok (.d (.tuple ((told m.toNat ds).map .int))) h := fun h => by
    rw [p_row_of (F := F) (k := k + 2) m ds h m0 (by omega) dne (by omega) (word_good dne dr), tl]
  have w10 : ∀ h, run G F (dsOf dd) (k + 6) "_law_row_of" [.d (.int m), .d (.tuple (ds.map .int))] h = .ok (.d (.tuple ((told m.toNat ds).map .int))) h := fun h => by
    rw [p_law_row (F := F) (k := k + 4) m ds h m0 (by omega) dne (by omega), tl]
  have tlen : (told m.toNat ds).length = m.toNat := by unfold told; simp
  have w11 : ∀ h, run G F (dsOf dd) (k + 6) "_law_same" [.d (.tuple ((told m.toNat ds).map .int)), .d (.tuple ((told m.toNat ds).map .int))] h = .ok (.d (.bool true)) h := fun h => p_same_tup (F := F) (k := k + 4) _ h (by omega)
  have tw := told_wid (m := m.toNat) dne
  have w12 : ∀ h, run G F (dsOf dd) (k + 6) "word_of" [.d (.tuple ((told m.toNat ds).map .int))] h = .ok (.d (.tuple ((ds.take (widR (told m.toNat ds)).toNat).map .int))) h := fun h => by
    rw [p_word_of (F := F) (k := k + 2) _ h (by omega) (by omega), told_word dne dr]
  generalize hS : ds.take (widR (told m.toNat ds)).toNat = sho at w12
  -- the errors
  obtain ⟨r5, o5, q5, x0, x1, b5⟩ := p_pick (F := F) (k := k + 5) (many := 5) b4 (by omega) (by decide) (by decide) (by omega)
  obtain ⟨bd, a5, bd1, bd2⟩ := bads x0 x1
  obtain ⟨r6, o6, q6, y0, y1, b6⟩ := p_pick (F := F) (k := k + 5) (many := 4) b5 (by omega) (by decide) (by decide) (by omega)
  obtain ⟨wr, a6, wr1⟩ := wrongs y0 y1
  obtain ⟨r7, o7, q7, z0, z1, b7⟩ := p_pick (F := F) (k := k + 5) (many := 6) b6 (by omega) (by decide) (by decide) (by omega)
  obtain ⟨od, a7, od1, od2⟩ := odds (m := m) z0 z1
  have q4 : ev G (run G F (dsOf dd) (k + 6)) c_law_0 [u0, some (.lab 0), u2, some (.d (.int m)), some (.d (.tuple (ns.map .int))), some (.d (.tuple ((wordI ns).map .int))), some (.d (.tuple (lon.map .int))), u7, u8, u9, u10, u11, u12, u13, u14] [o3] = .ok (.d (.list (ds.map .int))) [o4] := q4
  have q5 : ∀ rest, run G F (dsOf dd) (k + 6) "_law_pick" [.lab 0, .d (.int 5)] (o4 :: rest) = .ok (.d (.int r5)) (o5 :: rest) := q5
  have q6 : ∀ rest, run G F (dsOf dd) (k + 6) "_law_pick" [.lab 0, .d (.int 4)] (o5 :: rest) = .ok (.d (.int r6)) (o6 :: rest) := q6
  have q7 : ∀ rest, run G F (dsOf dd) (k + 6) "_law_pick" [.lab 0, .d (.int 6)] (o6 :: rest) = .ok (.d (.int r7)) (o7 :: rest) := q7
  have pw : ∀ h, run G F (dsOf dd) (k + 6) "_law_power" [.d (.int m)] h = .ok (.d (.int (2 ^ m.toNat))) h := fun h => p_power (F := F) (k := k + 5) m h m0 (by omega)
  have e0 : ∀ h, run G F (dsOf dd) (k + 6) "_law_error" [.d (.int 0), .d bd, .d (.int 0)] h = .ok (.d (.str "row")) h := fun h => p_error0 (F := F) (k := k + 1) bd _ h bd2 bd1
  have e1 : ∀ h, run G F (dsOf dd) (k + 6) "_law_error" [.d (.int 1), .d bd, .d (.int 0)] h = .ok (.d (.str "row")) h := fun h => p_error1 (F := F) (k := k + 1) bd _ h bd2 bd1
  have e2 : ∀ h, run G F (dsOf dd) (k + 6) "_law_error" [.d (.int 2), .d wr, .d od] h = .ok (.d (.str "many")) h := fun h => p_error2m (F := F) (k := k + 1) wr od h wr1
  have e3 : ∀ h, run G F (dsOf dd) (k + 6) "_law_error" [.d (.int 2), .d (.int m), .d od] h = .ok (.d (.str "word")) h := fun h => p_error2w (F := F) (k := k + 1) m od h m0 (by omega) od2 od1
  have sh : ∀ v9 v11 v12 h, ex G (run G F (dsOf dd) (k + 6)) F f_law_0 [u0, some (.lab 0), u2, some (.d (.int m)), some (.d (.tuple (ns.map .int))), some (.d (.tuple ((wordI ns).map .int))), some (.d (.tuple (lon.map .int))), some (.d (.tuple (ds.map .int))), u8, v9, some (.d (.tuple (ds.map .int))), v11, v12, u13, u14] h =
      .nx [u0, some (.lab 0), u2, some (.d (.int m)), some (.d (.tuple (ns.map .int))), some (.d (.tuple ((wordI ns).map .int))), some (.d (.tuple (lon.map .int))), some (.d (.tuple (ds.map .int))), u8, v9, some (.d (.tuple (sho.map .int))), v11, v12, u13, u14] h := fun v9 v11 v12 h => by
    have := t_short (F := F) (k := k + 6) dne dr u0 (some (.lab 0)) u2 (some (.d (.int m))) (some (.d (.tuple (ns.map .int)))) (some (.d (.tuple ((wordI ns).map .int)))) (some (.d (.tuple (lon.map .int)))) (some (.d (.tuple (ds.map .int)))) u8 v9 v11 v12 u13 u14 h F ds.length (by omega) (Nat.le_refl _) (by omega)
    rw [List.take_length, hS] at this
    exact this
  have jj : -1000 ≤ j ∧ j ≤ 1000 := by omega
  refine ⟨o7, some (.d (.int m)), some (.d (.tuple (ns.map .int))), some (.d (.tuple ((wordI ns).map .int))), some (.d (.tuple (lon.map .int))), some (.d (.tuple (ds.map .int))), some (.d bd), some (.d (.tuple ((told m.toNat ds).map .int))), some (.d (.tuple (sho.map .int))), some (.d wr), some (.d od), u13, u14, ?_, b7.mono (by omega)⟩
  unfold l_law_1
  rw [seq_s (set_s (u := .d (.int m)) (h1 := [o1]) (by simp [evCl_0, evCl_1, evCl_2, evCl_3, evCl_4, evCl_k, ev, tv, evs, evo, evc, evw, evV, evC, evT, ev2, ev1, evCh, evB, evIf, evNil, evCons, evTup, evLst, evCall, evSl, evNo, evPart, vAnd, vOr, vNot, tAndE, tOrE, tNotE, binU, cmpU, biU, meU, g1, g2, maxG, minG, Es.len, Tg.slots, Tgs.slots, ex, exs, exh, sNx, sBk, sCt, sSeq, sDrop, sRet, sRetN, sAsg, sPar2, sPar3, sSub, sIf, sRaise, asg, asgs, R.bind_ok, R.bind_err, R.bind_bad, R.stm_ok, R.stm_err, R.stm_bad, opt_some, opt_none, noErr_ok, noErr_bad, leave_d, leave_n, leave_e, leave_da, mkL_f, tru, truU, truD, asB, asBo, q1]))]
  simp only [List.set_cons_succ, List.set_cons_zero]
  rw [seq_s (set_s (u := .d (.tuple (ns.map .int))) (h1 := [o2]) (by simp [evCl_0, evCl_1, evCl_2, evCl_3, evCl_4, evCl_k, ev, tv, evs, evo, evc, evw, evV, evC, evT, ev2, ev1, evCh, evB, evIf, evNil, evCons, evTup, evLst, evCall, evSl, evNo, evPart, vAnd, vOr, vNot, tAndE, tOrE, tNotE, binU, cmpU, biU, meU, g1, g2, maxG, minG, Es.len, Tg.slots, Tgs.slots, ex, exs, exh, sNx, sBk, sCt, sSeq, sDrop, sRet, sRetN, sAsg, sPar2, sPar3, sSub, sIf, sRaise, asg, asgs, R.bind_ok, R.bind_err, R.bind_bad, R.stm_ok, R.stm_err, R.stm_bad, opt_some, opt_none, noErr_ok, noErr_bad, leave_d, leave_n, leave_e, leave_da, mkL_f, tru, truU, truD, asB, asBo, q2, tupleU, isTup, lstLike, Py.listOf]))]
  simp only [List.set_cons_succ, List.set_cons_zero]
  rw [seq_s (set_s (u := .d (.tuple ((wordI ns).map .int))) (h1 := [o2]) (by simp [evCl_0, evCl_1, evCl_2, evCl_3, evCl_4, evCl_k, ev, tv, evs, evo, evc, evw, evV, evC, evT, ev2, ev1, evCh, evB, evIf, evNil, evCons, evTup, evLst, evCall, evSl, evNo, evPart, vAnd, vOr, vNot, tAndE, tOrE, tNotE, binU, cmpU, biU, meU, g1, g2, maxG, minG, Es.len, Tg.slots, Tgs.slots, ex, exs, exh, sNx, sBk, sCt, sSeq, sDrop, sRet, sRetN, sAsg, sPar2, sPar3, sSub, sIf, sRaise, asg, asgs, R.bind_ok, R.bind_err, R.bind_bad, R.stm_ok, R.stm_err, R.stm_bad, opt_some, opt_none, noErr_ok, noErr_bad, leave_d, leave_n, leave_e, leave_da, mkL_f, tru, truU, truD, asB, asBo, w1]))]
  simp only [List.set_cons_succ, List.set_cons_zero]
  rw [seq_s (ife_no (h1 := [o2]) (by simp [evCl_0, evCl_1, evCl_2, evCl_3, evCl_4, evCl_k, ev, tv, evs, evo, evc, evw, evV, evC, evT, ev2, ev1, evCh, evB, evIf, evNil, evCons, evTup, evLst, evCall, evSl, evNo, evPart, vAnd, vOr, vNot, tAndE, tOrE, tNotE, binU, cmpU, biU, meU, g1, g2, maxG, minG, Es.len, Tg.slots, Tgs.slots, ex, exs, exh, sNx, sBk, sCt, sSeq, sDrop, sRet, sRetN, sAsg, sPar2, sPar3, sSub, sIf, sRaise, asg, asgs, R.bind_ok, R.bind_err, R.bind_bad, R.stm_ok, R.stm_err, R.stm_bad, opt_some, opt_none, noErr_ok, noErr_bad, leave_d, leave_n, leave_e, leave_da, mkL_f, tru, truU, truD, asB, asBo, w2, w3, w4, lenU, lenN, w5, w6]))]
  have jj1 := jj.1
  have jj2 := jj.2
  have lsum : (wordI ns).length + (rep [PyData.int (lastI (wordI ns))] j).length ≤ 10000000 := by
    have := congrArg List.length lonD
    rw [List.length_append, List.length_map, List.length_map] at this
    omega
  rw [seq_s (set_s (u := .d (.tuple (lon.map .int))) (h1 := [o3]) (by simp [evCl_0, evCl_1, evCl_2, evCl_3, evCl_4, evCl_k, ev, tv, evs, evo, evc, evw, evV, evC, evT, ev2, ev1, evCh, evB, evIf, evNil, evCons, evTup, evLst, evCall, evSl, evNo, evPart, vAnd, vOr, vNot, tAndE, tOrE, tNotE, binU, cmpU, biU, meU, g1, g2, maxG, minG, Es.len, Tg.slots, Tgs.slots, ex, exs, exh, sNx, sBk, sCt, sSeq, sDrop, sRet, sRetN, sAsg, sPar2, sPar3, sSub, sIf, sRaise, asg, asgs, R.bind_ok, R.bind_err, R.bind_bad, R.stm_ok, R.stm_err, R.stm_bad, opt_some, opt_none, noErr_ok, noErr_bad, leave_d, leave_n, leave_e, leave_da, mkL_f, tru, truU, truD, asB, asBo, negU, asI, slU, cutl, q3, mulU, jj1, jj2, addU, Py.listOf, addD, lsum, lonD]))]
  simp only [List.set_cons_succ, List.set_cons_zero]
  rw [seq_s (ife_no (h1 := [o3]) (by simp [evCl_0, evCl_1, evCl_2, evCl_3, evCl_4, evCl_k, evCl_k10, ev, tv, evs, evo, evc, evw, evV, evC, evT, ev2, ev1, evCh, evB, evIf, evNil, evCons, evTup, evLst, evCall, evSl, evNo, evPart, vAnd, vOr, vNot, tAndE, tOrE, tNotE, binU, cmpU, biU, meU, g1, g2, maxG, minG, Es.len, Tg.slots, Tgs.slots, ex, exs, exh, sNx, sBk, sCt, sSeq, sDrop, sRet, sRetN, sAsg, sPar2, sPar3, sSub, sIf, sRaise, asg, asgs, R.bind_ok, R.bind_err, R.bind_bad, R.stm_ok, R.stm_err, R.stm_bad, opt_some, opt_none, noErr_ok, noErr_bad, leave_d, leave_n, leave_e, leave_da, mkL_f, tru, truU, truD, asB, asBo, w7, w8]))]
  rw [seq_s (set_s (u := .d (.tuple (ds.map .int))) (h1 := [o4]) (by simp [evCl_0, evCl_1, evCl_2, evCl_3, evCl_4, evCl_k, ev, tv, evs, evo, evc, evw, evV, evC, evT, ev2, ev1, evCh, evB, evIf, evNil, evCons, evTup, evLst, evCall, evSl, evNo, evPart, vAnd, vOr, vNot, tAndE, tOrE, tNotE, binU, cmpU, biU, meU, g1, g2, maxG, minG, Es.len, Tg.slots, Tgs.slots, ex, exs, exh, sNx, sBk, sCt, sSeq, sDrop, sRet, sRetN, sAsg, sPar2, sPar3, sSub, sIf, sRaise, asg, asgs, R.bind_ok, R.bind_err, R.bind_bad, R.stm_ok, R.stm_err, R.stm_bad, opt_some, opt_none, noErr_ok, noErr_bad, leave_d, leave_n, leave_e, leave_da, mkL_f, tru, truU, truD, asB, asBo, q4, tupleU, isTup, lstLike, Py.listOf]))]
  simp only [List.set_cons_succ, List.set_cons_zero]
  have p1 : ∀ h, ex G (run G F (dsOf dd) (k + 6)) F (.par2 9 10 (.cons (.call "row_of" [0, 1] (.cons (.var 3) (.cons (.var 7) .nil)) .nil) (.cons (.var 7) .nil))) [u0, some (.lab 0), u2, some (.d (.int m)), some (.d (.tuple (ns.map .int))), some (.d (.tuple ((wordI ns).map .int))), some (.d (.tuple (lon.map .int))), some (.d (.tuple (ds.map .int))), u8, u9, u10, u11, u12, u13, u14] h =
      .nx [u0, some (.lab 0), u2, some (.d (.int m)), some (.d (.tuple (ns.map .int))), some (.d (.tuple ((wordI ns).map .int))), some (.d (.tuple (lon.map .int))), some (.d (.tuple (ds.map .int))), u8, some (.d (.tuple ((told m.toNat ds).map .int))), some (.d (.tuple (ds.map .int))), u11, u12, u13, u14] h := fun h => by
    simp [evCl_0, evCl_1, evCl_2, evCl_3, evCl_4, evCl_k, ev, tv, evs, evo, evc, evw, evV, evC, evT, ev2, ev1, evCh, evB, evIf, evNil, evCons, evTup, evLst, evCall, evSl, evNo, evPart, vAnd, vOr, vNot, tAndE, tOrE, tNotE, binU, cmpU, biU, meU, g1, g2, maxG, minG, Es.len, Tg.slots, Tgs.slots, ex, exs, exh, sNx, sBk, sCt, sSeq, sDrop, sRet, sRetN, sAsg, sPar2, sPar3, sSub, sIf, sRaise, asg, asgs, R.bind_ok, R.bind_err, R.bind_bad, R.stm_ok, R.stm_err, R.stm_bad, opt_some, opt_none, noErr_ok, noErr_bad, leave_d, leave_n, leave_e, leave_da, mkL_f, tru, truU, truD, asB, asBo, w9]
  rw [seq_s (p1 _), seq_s (sh _ _ _ _)]
  rw [seq_s (ife_no (h1 := [o4]) (by simp [evCl_0, evCl_1, evCl_2, evCl_3, evCl_4, evCl_k, ev, tv, evs, evo, evc, evw, evV, evC, evT, ev2, ev1, evCh, evB, evIf, evNil, evCons, evTup, evLst, evCall, evSl, evNo, evPart, vAnd, vOr, vNot, tAndE, tOrE, tNotE, binU, cmpU, biU, meU, g1, g2, maxG, minG, Es.len, Tg.slots, Tgs.slots, ex, exs, exh, sNx, sBk, sCt, sSeq, sDrop, sRet, sRetN, sAsg, sPar2, sPar3, sSub, sIf, sRaise, asg, asgs, R.bind_ok, R.bind_err, R.bind_bad, R.stm_ok, R.stm_err, R.stm_bad, opt_some, opt_none, noErr_ok, noErr_bad, leave_d, leave_n, leave_e, leave_da, mkL_f, tru, truU, truD, asB, asBo, w10, w11, w12, eq_tt]))]
  have m6 : (-1000 : Int) ≤ 6 := by decide
  rw [seq_s (set_s (u := .d bd) (h1 := [o5]) (by simp [evCl_0, evCl_1, evCl_2, evCl_3, evCl_4, evCl_k, ev, tv, evs, evo, evc, evw, evV, evC, evT, ev2, ev1, evCh, evB, evIf, evNil, evCons, evTup, evLst, evCall, evSl, evNo, evPart, vAnd, vOr, vNot, tAndE, tOrE, tNotE, binU, cmpU, biU, meU, g1, g2, maxG, minG, Es.len, Tg.slots, Tgs.slots, ex, exs, exh, sNx, sBk, sCt, sSeq, sDrop, sRet, sRetN, sAsg, sPar2, sPar3, sSub, sIf, sRaise, asg, asgs, R.bind_ok, R.bind_err, R.bind_bad, R.stm_ok, R.stm_err, R.stm_bad, opt_some, opt_none, noErr_ok, noErr_bad, leave_d, leave_n, leave_e, leave_da, mkL_f, tru, truU, truD, asB, asBo, pures, mulU, q5, getU, dctOf, getS, ixO, seqOf, Py.listOf, a5]))]
  simp only [List.set_cons_succ, List.set_cons_zero]
  have p2 : ex G (run G F (dsOf dd) (k + 6)) F (.par2 11 12 (.cons (.ix (.lst false (.cons .non (.cons (.neg (.int 1)) (.cons (.int 6) (.cons (.bl true) .nil))))) (.call "_law_pick" [0, 1] (.cons (.var 1) (.cons (.int 4) .nil)) .nil)) (.cons (.ix (.lst false (.cons .non (.cons (.tup .nil) (.cons (.lst false (.cons (.int 0) .nil)) (.cons (.tup (.cons (.call "_law_power" [0] (.cons (.var 3) .nil) .nil) .nil)) (.cons (.tup (.cons (.neg (.int 1)) .nil)) (.cons (.tup (.cons (.bl false) .nil)) .nil))))))) (.call "_law_pick" [0, 1] (.cons (.var 1) (.cons (.int 6) .nil)) .nil)) .nil)))
      [u0, some (.lab 0), u2, some (.d (.int m)), some (.d (.tuple (ns.map .int))), some (.d (.tuple ((wordI ns).map .int))), some (.d (.tuple (lon.map .int))), some (.d (.tuple (ds.map .int))), some (.d bd), some (.d (.tuple ((told m.toNat ds).map .int))), some (.d (.tuple (sho.map .int))), u11, u12, u13, u14] [o5] =
      .nx [u0, some (.lab 0), u2, some (.d (.int m)), some (.d (.tuple (ns.map .int))), some (.d (.tuple ((wordI ns).map .int))), some (.d (.tuple (lon.map .int))), some (.d (.tuple (ds.map .int))), some (.d bd), some (.d (.tuple ((told m.toNat ds).map .int))), some (.d (.tuple (sho.map .int))), some (.d wr), some (.d od), u13, u14] [o7] := by
    simp [evCl_0, evCl_1, evCl_2, evCl_3, evCl_4, evCl_k, ev, tv, evs, evo, evc, evw, evV, evC, evT, ev2, ev1, evCh, evB, evIf, evNil, evCons, evTup, evLst, evCall, evSl, evNo, evPart, vAnd, vOr, vNot, tAndE, tOrE, tNotE, binU, cmpU, biU, meU, g1, g2, maxG, minG, Es.len, Tg.slots, Tgs.slots, ex, exs, exh, sNx, sBk, sCt, sSeq, sDrop, sRet, sRetN, sAsg, sPar2, sPar3, sSub, sIf, sRaise, asg, asgs, R.bind_ok, R.bind_err, R.bind_bad, R.stm_ok, R.stm_err, R.stm_bad, opt_some, opt_none, noErr_ok, noErr_bad, leave_d, leave_n, leave_e, leave_da, mkL_f, tru, truU, truD, asB, asBo, pures, negU, q6, q7, getU, dctOf, getS, ixO, seqOf, Py.listOf, a6, a7, pw]
  rw [seq_s p2]
  rw [seq_s (ife_no (h1 := [o7]) (by simp [evCl_0, evCl_1, evCl_2, evCl_3, evCl_4, evCl_k, ev, tv, evs, evo, evc, evw, evV, evC, evT, ev2, ev1, evCh, evB, evIf, evNil, evCons, evTup, evLst, evCall, evSl, evNo, evPart, vAnd, vOr, vNot, tAndE, tOrE, tNotE, binU, cmpU, biU, meU, g1, g2, maxG, minG, Es.len, Tg.slots, Tgs.slots, ex, exs, exh, sNx, sBk, sCt, sSeq, sDrop, sRet, sRetN, sAsg, sPar2, sPar3, sSub, sIf, sRaise, asg, asgs, R.bind_ok, R.bind_err, R.bind_bad, R.stm_ok, R.stm_err, R.stm_bad, opt_some, opt_none, noErr_ok, noErr_bad, leave_d, leave_n, leave_e, leave_da, mkL_f, tru, truU, truD, asB, asBo, pures, e0, e1, e2, e3, str_eq]))]
  rfl
end K29

namespace K29
open PySem PySem.Spec PyProof.Rows L2 Py
variable {F k : Nat}
theorem whole (cs : List Int) (hl : cs.length ≤ 63) (hF : 1002 ≤ F) : ∃ h', run G F (dsOf dd) (k + 7) "law" [.scr cs] [] = .ok (.d (.bool true)) h' := by
  have loop : ∃ σ' h', ex G (run G F (dsOf dd) (k + 6)) F f_law_1 [some (.scr cs), some (.lab 0), none, none, none, none, none, none, none, none, none, none, none, none, none] [bagO cs 0 0 7] = .nx σ' h' ∧
      ∃ o', h' = [o'] ∧ IsBag cs (40 * (rngL 0 1 5).length) o' ∧ ∃ u2 u3 u4 u5 u6 u7 u8 u9 u10 u11 u12 u13 u14, σ' = [some (.scr cs), some (.lab 0), u2, u3, u4, u5, u6, u7, u8, u9, u10, u11, u12, u13, u14] := by
    unfold f_law_1
    refine for_inv (us := rngL 0 1 5) (h1 := [bagO cs 0 0 7]) (fun pre σ h' => ∃ o', h' = [o'] ∧ IsBag cs (40 * pre.length) o' ∧ ∃ u2 u3 u4 u5 u6 u7 u8 u9 u10 u11 u12 u13 u14, σ = [some (.scr cs), some (.lab 0), u2, u3, u4, u5, u6, u7, u8, u9, u10, u11, u12, u13, u14])
      ?_ ⟨_, rfl, ⟨0, 0, 7, rfl, by decide, by decide, by decide, by decide, by decide⟩, _, _, _, _, _, _, _, _, _, _, _, _, _, rfl⟩ (fun pre u r e σ h' hI => ?_)
    · have : Py.inR 5 = true := by decide
      simp [evCl_0, evCl_1, evCl_2, evCl_3, evCl_4, evCl_k, ev, tv, evs, evo, evc, evw, evV, evC, evT, ev2, ev1, evCh, evB, evIf, evNil, evCons, evTup, evLst, evCall, evSl, evNo, evPart, vAnd, vOr, vNot, tAndE, tOrE, tNotE, binU, cmpU, biU, meU, g1, g2, maxG, minG, Es.len, Tg.slots, Tgs.slots, ex, exs, exh, sNx, sBk, sCt, sSeq, sDrop, sRet, sRetN, sAsg, sPar2, sPar3, sSub, sIf, sRaise, asg, asgs, R.bind_ok, R.bind_err, R.bind_bad, R.stm_ok, R.stm_err, R.stm_bad, opt_some, opt_none, noErr_ok, noErr_bad, leave_d, leave_n, leave_e, leave_da, mkL_f, tru, truU, truD, asB, asBo, rngS, this]
    · obtain ⟨o, rfl, hb, u2, u3, u4, u5, u6, u7, u8, u9, u10, u11, u12, u13, u14, rfl⟩ := hI
      obtain ⟨rfl, hlt⟩ := range_get e
      obtain ⟨o', v3, v4, v5, v6, v7, v8, v9, v10, v11, v12, v13, v14, q, hb'⟩ := turn (F := F) (k := k) hb (by omega) hl hF (some (.scr cs)) (some (.d (.int pre.length))) u3 u4 u5 u6 u7 u8 u9 u10 u11 u12 u13 u14
      exact ⟨_, _, _, rfl, q, o', rfl, hb'.mono (by simp; omega), _, _, _, _, _, _, _, _, _, _, _, _, _, rfl⟩
  obtain ⟨σ', h', e, o', rfl, hb, u2, u3, u4, u5, u6, u7, u8, u9, u10, u11, u12, u13, u14, rfl⟩ := loop
  have pb : run G F (dsOf dd) (k + 6) "_law_bag" [.scr cs] [] = .ok (.lab 0) [bagO cs 0 0 7] := p_bag (F := F) (k := k + 5) cs []
  refine ⟨[], ?_⟩
  rw [r_law]
  simp [b_law, evCl_0, evCl_1, evCl_2, evCl_3, evCl_4, evCl_k, ev, tv, evs, evo, evc, evw, evV, evC, evT, ev2, ev1, evCh, evB, evIf, evNil, evCons, evTup, evLst, evCall, evSl, evNo, evPart, vAnd, vOr, vNot, tAndE, tOrE, tNotE, binU, cmpU, biU, meU, g1, g2, maxG, minG, Es.len, Tg.slots, Tgs.slots, ex, exs, exh, sNx, sBk, sCt, sSeq, sDrop, sRet, sRetN, sAsg, sPar2, sPar3, sSub, sIf, sRaise, asg, asgs, R.bind_ok, R.bind_err, R.bind_bad, R.stm_ok, R.stm_err, R.stm_bad, opt_some, opt_none, noErr_ok, noErr_bad, leave_d, leave_n, leave_e, leave_da, mkL_f, tru, truU, truD, asB, asBo, pb, e, leave, outU]
end K29
theorem PySem.Challenge.cw_wholesworn_k29_words_of_rows_holds : PySem.Challenge.rw_wholesworn_k29_words_of_rows.Holds := by
  refine K29.fin fun ns hl => ?_
  obtain ⟨h', e⟩ := K29.whole (F := 1002) (k := 33) ns hl (Nat.le_refl _)
  exact ⟨1002, h', e⟩

