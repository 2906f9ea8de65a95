import PyProof.Rows.All
import Wide.All
import OpenK.AllK
import Wide.FinOn
import HandS.ForMost
import HandS.ForExc
import HandS.TupMul
import HandS.Wide
import HandS.IsInst
import HandS.Style
import HandS.Flow
import HandS.TupAny
import KE.GoesMore
import KE.KTupSum
import PyProof.ReprRoads
import HandS.RaiseMore
import HandS.ExcOwn
import HandS.Comp
import HandS.Zip
import HandS.Conv
import HandS.Rev
import KE.KExcSuper
import HandS.ExcInit
import HandS.TryMany
import HandS.ExcField
import HandS.ExcIs
import KE.KExcIs
import HandS.ExcValue
import HandS.Words
import HandS.WordsExc
import HandS.Ends
import HandS.List
import KE.DataMinMax
import HandS.Defaults
import KE.RegKSuper
import PySem.Challenge.RW_geartrue_k56_whole_striking_works
import HandS.ForSpec
set_option Elab.async false
set_option linter.all false
set_option maxRecDepth 100000
/-! DBase: values as trees (D), a store of lists by numbers (SS), how they lie in the abstract heap; results and what is wanted of them. -/
namespace DL
open PySem L2

inductive D where
  | non | bl (b : Bool) | int (i : Int) | str (x : Str) | tup (ds : List D) | rls (ds : List D) | ref (k : Nat) | ty (n : String) | gl (a : Addr)

/-- what stands in the store -/
inductive MO where
  | lst (ds : List D)
  | dct (kvs : List (Key × D))
abbrev SS := List MO
abbrev Sl := List (Option D)

/-- a list that nobody writes -/
def FrzL (K : PySem.W.Frag) (H : Hp) (a : Addr) (xs : List V) : Prop :=
  (∃ o, H a = some (.frz o (.lst xs))) ∨
    ∃ (o : Obj) (its : Array Value) (n : Nat), K.lookup a = some o ∧ o.cls = .type "list" ∧ o.dict = none ∧ o.data = .seq its n ∧ its.size ≤ sizeLine ∧ Vals xs its.toList
theorem FrzL.sq {K : PySem.W.Frag} {H : Hp} {a : Addr} {xs : List V} (h : FrzL K H a xs) : SqL K H a xs := by
  rcases h with ⟨o, h⟩ | h
  · exact .inl (.inr ⟨o, h⟩)
  · exact .inr h

mutual
def RD (K : PySem.W.Frag) (H : Hp) (ι : List Addr) : D → V → Prop
  | .non, v => v = .non
  | .bl b, v => v = .bl b
  | .int i, v => v = .int i
  | .str x, v => v = .str x
  | .tup ds, v => ∃ a vs, v = .ref a ∧ SqT K H a vs ∧ RDs K H ι ds vs
  | .rls ds, v => ∃ a vs, v = .ref a ∧ FrzL K H a vs ∧ RDs K H ι ds vs
  | .ref k, v => ∃ a, v = .ref a ∧ ι[k]? = some a
  | .ty n, v => v = .ty n
  | .gl a, v => v = .ref a
def RDs (K : PySem.W.Frag) (H : Hp) (ι : List Addr) : List D → List V → Prop
  | [], vs => vs = []
  | d :: ds, vs => ∃ v r, vs = v :: r ∧ RD K H ι d v ∧ RDs K H ι ds r
end

/-- what the heap keeps: tuples, lists that nobody writes; the store's addresses grow -/
structure Gr (K : PySem.W.Frag) (H : Hp) (ι : List Addr) (H' : Hp) (ι' : List Addr) : Prop where
  tup : ∀ a vs, SqT K H a vs → SqT K H' a vs
  frz : ∀ a vs, FrzL K H a vs → FrzL K H' a vs
  pre : ι <+: ι'
theorem Gr.refl {K : PySem.W.Frag} {H : Hp} {ι : List Addr} : Gr K H ι H ι := ⟨fun _ _ h => h, fun _ _ h => h, List.prefix_refl _⟩
theorem Gr.trans {K : PySem.W.Frag} {H H1 H2 : Hp} {ι ι1 ι2 : List Addr} (a : Gr K H ι H1 ι1) (b : Gr K H1 ι1 H2 ι2) : Gr K H ι H2 ι2 :=
  ⟨fun x v h => b.tup x v (a.tup x v h), fun x v h => b.frz x v (a.frz x v h), a.pre.trans b.pre⟩
theorem prefix_get {α : Type} {l l' : List α} (h : l <+: l') {k : Nat} {a : α} (e : l[k]? = some a) : l'[k]? = some a := by
  obtain ⟨t, rfl⟩ := h
  rw [List.getElem?_append_left]
  · exact e
  · exact (List.getElem?_eq_some_iff.mp e).1

section
variable {K : PySem.W.Frag} {H H' : Hp} {ι ι' : List Addr}
mutual
theorem RD.mono (g : Gr K H ι H' ι') : ∀ {d : D} {v : V}, RD K H ι d v → RD K H' ι' d v
  | .non, _, h => by unfold RD at *; exact h
  | .bl _, _, h => by unfold RD at *; exact h
  | .int _, _, h => by unfold RD at *; exact h
  | .str _, _, h => by unfold RD at *; exact h
  | .tup ds, _, h => by
    unfold RD at *
    obtain ⟨a, vs, e, q, r⟩ := h
    exact ⟨a, vs, e, g.tup a vs q, RDs.mono g r⟩
  | .rls ds, _, h => by
    unfold RD at *
    obtain ⟨a, vs, e, q, r⟩ := h
    exact ⟨a, vs, e, g.frz a vs q, RDs.mono g r⟩
  | .ref k, _, h => by
    unfold RD at *
    obtain ⟨a, e, q⟩ := h
    exact ⟨a, e, prefix_get g.pre q⟩
  | .ty _, _, h => by unfold RD at *; exact h
  | .gl _, _, h => by unfold RD at *; exact h
theorem RDs.mono (g : Gr K H ι H' ι') : ∀ {ds : List D} {vs : List V}, RDs K H ι ds vs → RDs K H' ι' ds vs
  | [], _, h => by unfold RDs at *; exact h
  | d :: ds, _, h => by
    unfold RDs at *
    obtain ⟨v, r, e, q, s⟩ := h
    exact ⟨v, r, e, RD.mono g q, RDs.mono g s⟩
end
theorem RDs.nil : RDs K H ι [] [] := by unfold RDs; rfl
theorem RDs.cons {d : D} {v : V} {ds : List D} {vs : List V} (a : RD K H ι d v) (b : RDs K H ι ds vs) : RDs K H ι (d :: ds) (v :: vs) := by
  unfold RDs; exact ⟨v, vs, rfl, a, b⟩
theorem RDs.length : ∀ {ds : List D} {vs : List V}, RDs K H ι ds vs → ds.length = vs.length
  | [], _, h => by unfold RDs at h; subst h; rfl
  | d :: ds, _, h => by
    unfold RDs at h
    obtain ⟨v, r, e, q, s⟩ := h
    rw [e, List.length_cons, List.length_cons, RDs.length s]
theorem RDs.get : ∀ {ds : List D} {vs : List V} {i : Nat} {d : D}, RDs K H ι ds vs → ds[i]? = some d → ∃ v, vs[i]? = some v ∧ RD K H ι d v
  | [], _, i, d, _, e => by simp at e
  | x :: ds, _, 0, d, h, e => by
    unfold RDs at h
    obtain ⟨v, r, e', q, s⟩ := h
    subst e'
    simp at e
    subst e
    exact ⟨v, rfl, q⟩
  | x :: ds, _, i + 1, d, h, e => by
    unfold RDs at h
    obtain ⟨v, r, e', q, s⟩ := h
    subst e'
    obtain ⟨u, h1, h2⟩ := RDs.get (i := i) (d := d) s (by simpa using e)
    exact ⟨u, by simpa using h1, h2⟩
theorem RDs.append : ∀ {ds es : List D} {vs us : List V}, RDs K H ι ds vs → RDs K H ι es us → RDs K H ι (ds ++ es) (vs ++ us)
  | [], _, _, _, h, q => by unfold RDs at h; subst h; exact q
  | x :: ds, es, _, us, h, q => by
    unfold RDs at h
    obtain ⟨v, r, e', q', s⟩ := h
    subst e'
    exact RDs.cons q' (RDs.append s q)
theorem RDs.set {d : D} {v : V} (a : RD K H ι d v) : ∀ {ds : List D} {vs : List V} (i : Nat), RDs K H ι ds vs → RDs K H ι (ds.set i d) (vs.set i v)
  | [], _, _, h => by unfold RDs at h; subst h; exact RDs.nil
  | x :: ds, _, 0, h => by
    unfold RDs at h
    obtain ⟨v', r, e', q, s⟩ := h
    subst e'
    exact RDs.cons a s
  | x :: ds, _, i + 1, h => by
    unfold RDs at h
    obtain ⟨v', r, e', q, s⟩ := h
    subst e'
    exact RDs.cons q (RDs.set a i s)
theorem RDs.take : ∀ {ds : List D} {vs : List V} (n : Nat), RDs K H ι ds vs → RDs K H ι (ds.take n) (vs.take n)
  | [], _, _, h => by unfold RDs at h; subst h; simp; exact RDs.nil
  | x :: ds, _, 0, h => by simp; exact RDs.nil
  | x :: ds, _, n + 1, h => by
    unfold RDs at h
    obtain ⟨v', r, e', q, s⟩ := h
    subst e'
    exact RDs.cons q (RDs.take n s)
theorem RDs.drop : ∀ {ds : List D} {vs : List V} (n : Nat), RDs K H ι ds vs → RDs K H ι (ds.drop n) (vs.drop n)
  | [], _, _, h => by unfold RDs at h; subst h; simp; exact RDs.nil
  | x :: ds, _, 0, h => h
  | x :: ds, _, n + 1, h => by
    unfold RDs at h
    obtain ⟨v', r, e', q, s⟩ := h
    subst e'
    exact RDs.drop n s
theorem RDs.reverse : ∀ {ds : List D} {vs : List V}, RDs K H ι ds vs → RDs K H ι ds.reverse vs.reverse
  | [], _, h => by unfold RDs at h; subst h; exact RDs.nil
  | x :: ds, _, h => by
    unfold RDs at h
    obtain ⟨v', r, e', q, s⟩ := h
    subst e'
    rw [List.reverse_cons, List.reverse_cons]
    exact RDs.append (RDs.reverse s) (RDs.cons q RDs.nil)
end

/-- a dict's entries -/
def RKs (K : PySem.W.Frag) (H : Hp) (ι : List Addr) : List (Key × D) → List (Key × V) → Prop
  | [], vs => vs = []
  | (k, d) :: ds, vs => ∃ v r, vs = (k, v) :: r ∧ RD K H ι d v ∧ RKs K H ι ds r
theorem RKs.mono {K : PySem.W.Frag} {H H' : Hp} {ι ι' : List Addr} (g : Gr K H ι H' ι') : ∀ {ds : List (Key × D)} {vs : List (Key × V)}, RKs K H ι ds vs → RKs K H' ι' ds vs
  | [], _, h => h
  | (k, d) :: ds, _, h => by
    obtain ⟨v, r, e, q, s⟩ := h
    exact ⟨v, r, e, q.mono g, RKs.mono g s⟩
/-- fields of an exception -/
def RF (K : PySem.W.Frag) (H : Hp) (ι : List Addr) : List (Str × D) → List (Str × V) → Prop
  | [], vs => vs = []
  | (k, d) :: ds, vs => ∃ v r, vs = (k, v) :: r ∧ RD K H ι d v ∧ RF K H ι ds r
theorem RF.mono {K : PySem.W.Frag} {H H' : Hp} {ι ι' : List Addr} (g : Gr K H ι H' ι') : ∀ {ds : List (Str × D)} {vs : List (Str × V)}, RF K H ι ds vs → RF K H' ι' ds vs
  | [], _, h => h
  | (k, d) :: ds, _, h => by
    obtain ⟨v, r, e, q, s⟩ := h
    exact ⟨v, r, e, q.mono g, RF.mono g s⟩
theorem RF.lookup {K : PySem.W.Frag} {H : Hp} {ι : List Addr} {f : Str} {d : D} : ∀ {ds : List (Str × D)} {vs : List (Str × V)}, RF K H ι ds vs → ds.lookup f = some d → ∃ v, vs.lookup f = some v ∧ RD K H ι d v
  | [], _, _, e => by simp at e
  | (k, d') :: ds, _, h, e => by
    obtain ⟨v, r, rfl, q, s⟩ := h
    rw [List.lookup_cons] at e ⊢
    cases hb : f == k with
    | true =>
      rw [hb] at e
      simp at e
      subst e
      exact ⟨v, rfl, q⟩
    | false =>
      rw [hb] at e
      exact RF.lookup s e

def RM (K : PySem.W.Frag) (H : Hp) (ι : List Addr) : MO → Addr → Prop
  | .lst ds, a => ∃ vs, H a = some (.lst vs) ∧ RDs K H ι ds vs
  | .dct kvs, a => ∃ vs, H a = some (.dK vs) ∧ RKs K H ι kvs vs
structure RelS (K : PySem.W.Frag) (H : Hp) (ι : List Addr) (S : SS) : Prop where
  len : ι.length = S.length
  nd : ι.Nodup
  «at» : ∀ (k : Nat) (o : MO) (a : Addr), S[k]? = some o → ι[k]? = some a → RM K H ι o a
section
variable {K : PySem.W.Frag} {H H' : Hp} {ι ι' : List Addr} {S : SS}
theorem RM.some {o : MO} {a : Addr} (h : RM K H ι o a) : ∃ u, H a = some u ∧ Mut (some u) := by
  cases o with
  | lst ds => obtain ⟨vs, h, _⟩ := h; exact ⟨_, h, trivial⟩
  | dct ds => obtain ⟨vs, h, _⟩ := h; exact ⟨_, h, trivial⟩
theorem RM.mono {o : MO} {a : Addr} (g : Gr K H ι H' ι') (e : H' a = H a) (h : RM K H ι o a) : RM K H' ι' o a := by
  cases o with
  | lst ds => obtain ⟨vs, h, r⟩ := h; exact ⟨vs, e.trans h, r.mono g⟩
  | dct ds => obtain ⟨vs, h, r⟩ := h; exact ⟨vs, e.trans h, r.mono g⟩
theorem RelS.find (r : RelS K H ι S) {k : Nat} {o : MO} (e : S[k]? = some o) : ∃ a, ι[k]? = some a ∧ RM K H ι o a := by
  have hk := (List.getElem?_eq_some_iff.mp e).1
  rw [← r.len] at hk
  exact ⟨ι[k], List.getElem?_eq_getElem hk, r.at k o _ e (List.getElem?_eq_getElem hk)⟩
theorem RelS.mem (r : RelS K H ι S) {a : Addr} (h : a ∈ ι) : ∃ u, H a = some u ∧ Mut (some u) := by
  obtain ⟨k, hk⟩ := List.getElem?_of_mem h
  have hl := (List.getElem?_eq_some_iff.mp hk).1
  rw [r.len] at hl
  exact (r.at k _ a (List.getElem?_eq_getElem hl) hk).some
theorem RelS.fresh (r : RelS K H ι S) {p : Addr} (h : H p = none) : p ∉ ι := fun z => by
  obtain ⟨u, e, _⟩ := r.mem z
  rw [h] at e; cases e
theorem sqt_upd {a p : Addr} {o : HO} {vs : List V} (hn : ∀ u, H p = some u → Mut (some u)) (h : SqT K H a vs) : SqT K (upd H p o) a vs := by
  rcases h with h | h
  · left
    have ne : a ≠ p := fun e => by
      subst e
      rcases h with h | ⟨o, h⟩
      · exact hn _ h
      · exact hn _ h
    rcases h with h | ⟨ob, h⟩
    · exact .inl (by rw [upd_ne ne]; exact h)
    · exact .inr ⟨ob, by rw [upd_ne ne]; exact h⟩
  · exact .inr h
theorem frz_upd {a p : Addr} {o : HO} {vs : List V} (hn : ∀ u, H p = some u → Mut (some u)) (h : FrzL K H a vs) : FrzL K (upd H p o) a vs := by
  rcases h with ⟨ob, h⟩ | h
  · have ne : a ≠ p := fun e => by
      subst e
      exact hn _ h
    exact .inl ⟨ob, by rw [upd_ne ne]; exact h⟩
  · exact .inr h
/-- a new tuple -/
theorem Gr.new {p : Addr} {o : HO} (h : H p = none) : Gr K H ι (upd H p o) ι :=
  ⟨fun a vs q => sqt_upd (fun u e => by rw [h] at e; cases e) q, fun a vs q => frz_upd (fun u e => by rw [h] at e; cases e) q, List.prefix_refl _⟩
theorem RelS.new {p : Addr} {o : HO} (r : RelS K H ι S) (h : H p = none) : RelS K (upd H p o) ι S :=
  ⟨r.len, r.nd, fun k ob a e q => (r.at k ob a e q).mono (Gr.new h) (upd_ne fun z => r.fresh h (z ▸ List.mem_of_getElem? q))⟩
/-- a new object of the store -/
theorem Gr.push {p : Addr} {o : HO} (h : H p = none) : Gr K H ι (upd H p o) (ι ++ [p]) :=
  ⟨(Gr.new (ι := ι) h).tup, (Gr.new (ι := ι) h).frz, List.prefix_append _ _⟩
theorem RelS.push {p : Addr} {o : HO} {ob : MO} (r : RelS K H ι S) (h : H p = none) (hm : RM K (upd H p o) (ι ++ [p]) ob p) : RelS K (upd H p o) (ι ++ [p]) (S ++ [ob]) := by
  refine ⟨by rw [List.length_append, List.length_append, r.len]; rfl, ?_, fun k ob' a e q => ?_⟩
  · rw [List.nodup_append]
    refine ⟨r.nd, by simp, fun a ha b hb => ?_⟩
    have : b = p := by simpa using hb
    subst this
    exact fun z => r.fresh h (z ▸ ha)
  · by_cases hk : k < S.length
    · rw [List.getElem?_append_left hk] at e
      rw [List.getElem?_append_left (by rw [r.len]; exact hk)] at q
      exact (r.at k ob' a e q).mono (Gr.push h) (upd_ne fun z => r.fresh h (z ▸ List.mem_of_getElem? q))
    · have hk2 : k < (S ++ [ob]).length := (List.getElem?_eq_some_iff.mp e).1
      rw [List.length_append] at hk2
      have : k = S.length := by simp at hk2; omega
      subst this
      simp at e
      subst e
      rw [← r.len] at q
      simp at q
      subst q
      exact hm
/-- an object of the store written -/
theorem Gr.write {p : Addr} {o : HO} {k : Nat} (r : RelS K H ι S) (h : ι[k]? = some p) : Gr K H ι (upd H p o) ι := by
  obtain ⟨u, hu, hm⟩ := r.mem (List.mem_of_getElem? h)
  have hn : ∀ u, H p = some u → Mut (some u) := fun u' e => by rw [hu] at e; cases e; exact hm
  exact ⟨fun a vs q => sqt_upd hn q, fun a vs q => frz_upd hn q, List.prefix_refl _⟩
theorem RelS.write {p : Addr} {o : HO} {k : Nat} {ob : MO} (r : RelS K H ι S) (h : ι[k]? = some p) (hm : RM K (upd H p o) ι ob p) : RelS K (upd H p o) ι (S.set k ob) := by
  refine ⟨by rw [List.length_set]; exact r.len, r.nd, fun j ob' a e q => ?_⟩
  by_cases hj : j = k
  · subst hj
    rw [h] at q; cases q
    have hl : j < S.length := by rw [← r.len]; exact (List.getElem?_eq_some_iff.mp h).1
    rw [List.getElem?_set_self hl] at e
    cases e
    exact hm
  · rw [List.getElem?_set_ne (Ne.symm hj)] at e
    refine (r.at j ob' a e q).mono (Gr.write r h) (upd_ne fun z => hj ?_)
    subst z
    have h1 := List.getElem?_eq_some_iff.mp h
    have h2 := List.getElem?_eq_some_iff.mp q
    exact (List.getElem_inj r.nd).mp (h2.2.trans h1.2.symm)
/-- the store cut back -/
theorem RelS.cut {n : Nat} (r : RelS K H ι S) (ι0 : List Addr) (hp : ι0 <+: ι) (hn : ι0.length = n) (hm : ∀ (k : Nat) (o : MO) (a : Addr), k < n → S[k]? = some o → ι0[k]? = some a → RM K H ι0 o a) : RelS K H ι0 (S.take n) := by
  obtain ⟨t, rfl⟩ := hp
  have hl := r.len
  rw [List.length_append] at hl
  refine ⟨by rw [List.length_take, hn]; omega, (List.nodup_append.mp r.nd).1, fun k o a e q => ?_⟩
  have hk : k < n := by
    have := (List.getElem?_eq_some_iff.mp e).1
    rw [List.length_take] at this
    omega
  rw [List.getElem?_take_of_lt hk] at e
  exact hm k o a hk e q
end

/-- the slots -/
def ROs (K : PySem.W.Frag) (H : Hp) (ι : List Addr) (δ : Sl) (σ : St) : Prop :=
  δ.length = σ.length ∧ ∀ (i : Nat) d, δ[i]? = some (some d) → ∃ v, σ[i]? = some (some v) ∧ RD K H ι d v
section
variable {K : PySem.W.Frag} {H H' : Hp} {ι ι' : List Addr} {δ : Sl} {σ : St}
theorem ROs.mono (g : Gr K H ι H' ι') (r : ROs K H ι δ σ) : ROs K H' ι' δ σ :=
  ⟨r.1, fun i d e => let ⟨v, h1, h2⟩ := r.2 i d e; ⟨v, h1, h2.mono g⟩⟩
theorem ROs.set {i : Nat} {d : D} {v : V} (r : ROs K H ι δ σ) (h : RD K H ι d v) : ROs K H ι (δ.set i (some d)) (σ.set i (some v)) := by
  refine ⟨by rw [List.length_set, List.length_set, r.1], fun j e he => ?_⟩
  by_cases hj : j = i
  · subst hj
    have hl : j < δ.length := by
      have := (List.getElem?_eq_some_iff.mp he).1
      rwa [List.length_set] at this
    rw [List.getElem?_set_self hl] at he
    cases he
    exact ⟨v, List.getElem?_set_self (by rw [← r.1]; exact hl), h⟩
  · rw [List.getElem?_set_ne (Ne.symm hj)] at he ⊢
    exact r.2 j e he
theorem ROs.none {i : Nat} (r : ROs K H ι δ σ) : ROs K H ι (δ.set i none) (σ.set i none) := by
  refine ⟨by rw [List.length_set, List.length_set, r.1], fun j e he => ?_⟩
  by_cases hj : j = i
  · subst hj
    have hl : j < δ.length := by
      have := (List.getElem?_eq_some_iff.mp he).1
      rwa [List.length_set] at this
    rw [List.getElem?_set_self hl] at he
    cases he
  · rw [List.getElem?_set_ne (Ne.symm hj)] at he ⊢
    exact r.2 j e he
end

/-! ### results -/
inductive R (α : Type) where
  | ok (x : α) (S : SS)
  | exc (C : Addr) (fs : List (Str × D)) (S : SS)
  | bad
def R.bind {α β : Type} : R α → (α → SS → R β) → R β
  | .ok x S, k => k x S
  | .exc C fs S, _ => .exc C fs S
  | .bad, _ => .bad
@[simp] theorem R.bind_ok {α β : Type} {x : α} {S : SS} {k : α → SS → R β} : (R.ok x S).bind k = k x S := rfl
@[simp] theorem R.bind_exc {α β : Type} {C : Addr} {fs : List (Str × D)} {S : SS} {k : α → SS → R β} : (R.exc C fs S : R α).bind k = .exc C fs S := rfl
@[simp] theorem R.bind_bad {α β : Type} {k : α → SS → R β} : (R.bad : R α).bind k = .bad := rfl

/-- what is wanted of a result -/
def Post {α β : Type} (rel : Hp → List Addr → α → β → Prop) (K : PySem.W.Frag) (W : WX) (ι : List Addr) (H : Hp) (σ : St) (r : R α) (Q : β → Hp → Prop) : Prop :=
  match r with
  | .ok x S' => ∀ v H' ι', Gr K H ι H' ι' → RelS K H' ι' S' → rel H' ι' x v → Q v H'
  | .exc C fs S' => ∀ H' ι' dd fs', Gr K H ι H' ι' → RelS K H' ι' S' → H' dd = some (.xd fs') → RF K H' ι' fs fs' → W (.ref C) (some dd) σ H'
  | .bad => False
section
variable {α β α' β' : Type} {rel : Hp → List Addr → α → β → Prop} {rel' : Hp → List Addr → α' → β' → Prop} {K : PySem.W.Frag} {W : WX} {ι ι1 : List Addr} {H H1 : Hp} {σ : St}
theorem Post.mono {r : R α} {Q Q' : β → Hp → Prop} (h : Post rel K W ι H σ r Q) (hq : ∀ v H', Q v H' → Q' v H') : Post rel K W ι H σ r Q' := by
  cases r with
  | ok x S => exact fun v H' ι' g s q => hq _ _ (h v H' ι' g s q)
  | exc C fs S => exact h
  | bad => exact h
/-- further on -/
theorem Post.later {r : R α} {Q : β → Hp → Prop} (g : Gr K H ι H1 ι1) (h : Post rel K W ι H σ r Q) : Post rel K W ι1 H1 σ r Q := by
  cases r with
  | ok x S => exact fun v H' ι' g' s q => h v H' ι' (g.trans g') s q
  | exc C fs S => exact fun H' ι' dd fs' g' => h H' ι' dd fs' (g.trans g')
  | bad => exact h
theorem Post.bind {r : R α} {k : α → SS → R α'} {Q : β' → Hp → Prop} (h : Post rel' K W ι H σ (r.bind k) Q) :
    Post rel K W ι H σ r (fun v H1 => ∃ ι1 S1 x, Gr K H ι H1 ι1 ∧ RelS K H1 ι1 S1 ∧ rel H1 ι1 x v ∧ Post rel' K W ι1 H1 σ (k x S1) Q) := by
  cases r with
  | ok x S => exact fun v H1 ι1 g s q => ⟨ι1, S, x, g, s, q, h.later g⟩
  | exc C fs S => exact h
  | bad => exact h
end

abbrev PEx := Sl → SS → R D
abbrev PAs := Sl → SS → R (List D)
abbrev PTs' := Sl → SS → R Bool
def rB : Hp → List Addr → Bool → Bool → Prop := fun _ _ a b => a = b

def tOf (K : PySem.W.Frag) (W : WX) (f : PEx) : TE := fun σ H Q => ∃ ι S δ, RelS K H ι S ∧ ROs K H ι δ σ ∧ Post (RD K) K W ι H σ (f δ S) Q
def tOfA (K : PySem.W.Frag) (W : WX) (f : PAs) : TA := fun σ H Q => ∃ ι S δ, RelS K H ι S ∧ ROs K H ι δ σ ∧ Post (RDs K) K W ι H σ (f δ S) Q
def tOfT (K : PySem.W.Frag) (W : WX) (f : PTs') : TT := fun σ H Q => ∃ ι S δ, RelS K H ι S ∧ ROs K H ι δ σ ∧ Post rB K W ι H σ (f δ S) Q
theorem PE.imp {X : Cx} {e : Expr} {t t' : TE} (h : PE X e t) (i : ∀ σ H Q, t' σ H Q → t σ H Q) : PE X e t' := ⟨fun pins s σ H Q I q => h.run pins s σ H Q I (i _ _ _ q)⟩
theorem PT.imp {X : Cx} {e : Expr} {t t' : TT} (h : PT X e t) (i : ∀ σ H Q, t' σ H Q → t σ H Q) : PT X e t' := ⟨fun pins s σ H Q I q => h.run pins s σ H Q I (i _ _ _ q)⟩
theorem PA.imp {X : Cx} {e : List Expr} {t t' : TA} (h : PA X e t) (i : ∀ σ H Q, t' σ H Q → t σ H Q) : PA X e t' := ⟨fun pos pins s σ H Q I q => h.run pos pins s σ H Q I (i _ _ _ q)⟩
theorem PS.imp {X : Cx} {e : Stmt} {t t' : TS} (h : PS X e t) (i : ∀ D σ H, t' D σ H → t D σ H) : PS X e t' := ⟨fun pins s σ H D I q => h.run pins s σ H D I (i _ _ _ q)⟩
theorem PSs.imp {X : Cx} {e : List Stmt} {t t' : TS} (h : PSs X e t) (i : ∀ D σ H, t' D σ H → t D σ H) : PSs X e t' := ⟨fun pins s σ H D I q => h.run pins s σ H D I (i _ _ _ q)⟩
end DL
set_option Elab.async false
set_option linter.all false
set_option maxRecDepth 100000
/-! DMul: a tuple times 1; the empty tuple times a number. -/
namespace DL
open PySem PySem.Spec PyProof.Rows L2
theorem tuple_mulS (l : Addr) (items : Array Value) (n : Nat) (dd : Option Addr) (sl : Array (Option Value)) (x : Int) (u : Tok) (c0 : (decide (x < -(2 ^ 63)) || decide (x ≥ 2 ^ 63)) = false) (c1 : (items.isEmpty || x == 1) = true) :
    Meets (Builtin.«tuple.__mul__» ⟨[.ref l, .int x u], []⟩) (fun _ R s => s.heap.get? l = some { cls := .type "tuple", dict := dd, data := .seq items n, slots := sl } ∧ R (.ok (.ret (Value.ref l))) s) :=
  .of_wp fun prog w A R s h => by
    obtain ⟨hp, g, d, tk, os⟩ := s
    obtain ⟨hl, h⟩ := h
    have f1 := AutoSeq1.idx_int
    wp_walk using wpAny_loadPart' hl
    repeat (first
      | (refine wpAny_ite_false (decide_eq_false (by rw [c0]; exact Bool.false_ne_true)) ?_; wp_walk using wpAny_loadPart' hl)
      | (refine wpAny_ite_true (decide_eq_true (by rw [c1])) ?_; wp_walk using wpAny_loadPart' hl))
    exact ⟨_, rfl, h⟩
def rRepS (K : PySem.W.Frag) : R2 := fun x y H Q => ∃ l k xs, x = .ref l ∧ y = .int k ∧ SqT K H l xs ∧ (xs = [] ∨ k = 1) ∧ -(2 ^ 63) ≤ k ∧ k < 2 ^ 63 ∧ Q (.ref l) H
section
variable {X : Cx}
theorem op_repS : OpR X (binaryOp .Mult) (rRepS X.K) := by
  intro pins s σ H x y v u Q I rx ry h
  obtain ⟨l, k, xs, rfl, rfl, hT, h1, h2, h3, q⟩ := h
  cases rx
  obtain ⟨t, rfl⟩ := ry
  obtain ⟨its, r, ⟨⟨cls, dd, data, sl⟩, ho, hc, n, hd⟩, hs⟩ := I.tuple hT
  simp only at hc hd
  subst hc hd
  have hle : its.length = xs.length := r.length.symm
  have c0 : (decide (k < -(2 ^ 63)) || decide (k ≥ 2 ^ 63)) = false := by
    rw [decide_eq_false (by omega), decide_eq_false (by omega)] <;> rfl
  have c1 : (its.toArray.isEmpty || k == 1) = true := by
    rcases h1 with rfl | rfl
    · have : its = [] := List.eq_nil_of_length_eq_zero hle
      subst this
      rfl
    · simp
  refine wpAny_binaryOp_repeat_ref (T := "tuple") (U := "int") (by decide) ⟨_, ho, rfl⟩ (fun s' => typeIs_int s' k t) noFill_tuple_mul F.fills_int_mul F.slot_int_rmul repeat_tuple F.slot_int_index.lookup
    (call_meets F.slot_int_rmul (typeIs_int s k t) F.entry_int_rmul (F.args_int_rmul_2 _ _) (int_rmul_tuple k t l its.toArray n dd sl)
      ⟨ho, rfl, ⟨_, ho, rfl⟩, call_meets F.slot_tuple_mul ⟨_, ho, rfl⟩ F.entry_tuple_mul (F.args_tuple_mul_2 _ _) (tuple_mulS l its.toArray n dd sl k t c0 c1) ⟨ho, ?_⟩⟩)
  exact ⟨.ref l, H, I, rfl, q⟩
end
end DL
set_option Elab.async false
set_option linter.all false
set_option maxRecDepth 100000
/-! DOps: operators and built-ins upon values as trees. -/
namespace DL
open PySem L2

/-! ### the frame of a rule -/
def PostN (K : PySem.W.Frag) (ι : List Addr) (H : Hp) (r : Option (D × SS)) (Q : VK) : Prop :=
  match r with
  | some (x, S') => ∀ v H' ι', Gr K H ι H' ι' → RelS K H' ι' S' → RD K H' ι' x v → Q v H'
  | none => False
def R.ofO : Option (D × SS) → R D
  | some (x, S) => .ok x S
  | none => .bad
section
variable {K : PySem.W.Frag} {W : WX} {ι : List Addr} {H : Hp} {σ : St} {S : SS} {Q : VK}
theorem Post.ofO {r : Option (D × SS)} (h : Post (RD K) K W ι H σ (R.ofO r) Q) : PostN K ι H r Q := by
  cases r with
  | none => exact h
  | some p => exact h
theorem PostN.val {d : D} {v : V} (h : PostN K ι H (some (d, S)) Q) (s : RelS K H ι S) (r : RD K H ι d v) : Q v H := h v H ι Gr.refl s r
theorem PostN.newL {ds : List D} {vs : List V} {p : Addr} (h : PostN K ι H (some (.ref S.length, S ++ [.lst ds])) Q) (s : RelS K H ι S) (r : RDs K H ι ds vs) (hp : H p = none) : Q (.ref p) (upd H p (.lst vs)) := by
  have g : Gr K H ι (upd H p (.lst vs)) (ι ++ [p]) := Gr.push hp
  refine h _ _ (ι ++ [p]) g (s.push hp ⟨vs, upd_same, r.mono g⟩) ?_
  unfold RD
  exact ⟨p, rfl, by rw [← s.len]; simp⟩
theorem PostN.newT {ds : List D} {vs : List V} {p : Addr} (h : PostN K ι H (some (.tup ds, S)) Q) (s : RelS K H ι S) (r : RDs K H ι ds vs) (hp : H p = none) : Q (.ref p) (upd H p (.tup vs)) := by
  have g : Gr K H ι (upd H p (.tup vs)) ι := Gr.new hp
  refine h _ _ ι g (s.new hp) ?_
  unfold RD
  exact ⟨p, vs, rfl, SqT.of upd_same, r.mono g⟩
theorem PostN.write {d : D} {v : V} {k : Nat} {p : Addr} {ds : List D} {vs : List V} (h : PostN K ι H (some (d, S.set k (.lst ds))) Q) (s : RelS K H ι S) (e : ι[k]? = some p) (r : RDs K H ι ds vs) (rd : RD K H ι d v) : Q v (upd H p (.lst vs)) := by
  have g : Gr K H ι (upd H p (.lst vs)) ι := Gr.write s e
  exact h _ _ ι g (s.write e ⟨vs, upd_same, r.mono g⟩) (rd.mono g)
end
abbrev G1 := D → SS → Option (D × SS)
abbrev G2 := D → D → SS → Option (D × SS)
abbrev GL := List D → SS → Option (D × SS)
def rOf2 (K : PySem.W.Frag) (g : G2) : R2 := fun x y H Q => ∃ ι S d e, RelS K H ι S ∧ RD K H ι d x ∧ RD K H ι e y ∧ PostN K ι H (g d e S) Q
def rOf1 (K : PySem.W.Frag) (g : G1) : V → Hp → VK → Prop := fun x H Q => ∃ ι S d, RelS K H ι S ∧ RD K H ι d x ∧ PostN K ι H (g d S) Q
def rOfL (K : PySem.W.Frag) (g : GL) : List V → Hp → VK → Prop := fun xs H Q => ∃ ι S ds, RelS K H ι S ∧ RDs K H ι ds xs ∧ PostN K ι H (g ds S) Q
theorem OpR.imp {X : Cx} {f : Value → Value → Sem Value} {r r' : R2} (h : OpR X f r) (i : ∀ x y H Q, r' x y H Q → r x y H Q) : OpR X f r' :=
  fun pins s σ H x y v u Q I rx ry q => h pins s σ H x y v u Q I rx ry (i _ _ _ _ q)
theorem CallR.imp {X : Cx} {f : Value} {r r' : List V → Hp → VK → Prop} (h : CallR X f r) (i : ∀ xs H Q, r' xs H Q → r xs H Q) : CallR X f r' :=
  fun pins s σ H xs us Q I rx q => h pins s σ H xs us Q I rx (i _ _ _ q)
theorem OpR.nope {X : Cx} {f : Value → Value → Sem Value} {r : R2} (i : ∀ x y H Q, ¬ r x y H Q) : OpR X f r := fun _ _ _ _ _ _ _ _ _ _ _ _ q => (i _ _ _ _ q).elim

/-! ### reading off -/
section
variable {K : PySem.W.Frag} {ι : List Addr} {H : Hp} {v : V}
theorem RD.non (h : RD K H ι .non v) : v = .non := by unfold RD at h; exact h
theorem RD.bl {b : Bool} (h : RD K H ι (.bl b) v) : v = .bl b := by unfold RD at h; exact h
theorem RD.int {i : Int} (h : RD K H ι (.int i) v) : v = .int i := by unfold RD at h; exact h
theorem RD.str {i : Str} (h : RD K H ι (.str i) v) : v = .str i := by unfold RD at h; exact h
theorem RD.ty {i : String} (h : RD K H ι (.ty i) v) : v = .ty i := by unfold RD at h; exact h
theorem RD.gl {i : Addr} (h : RD K H ι (.gl i) v) : v = .ref i := by unfold RD at h; exact h
theorem RD.tup {ds : List D} (h : RD K H ι (.tup ds) v) : ∃ a vs, v = .ref a ∧ SqT K H a vs ∧ RDs K H ι ds vs := by unfold RD at h; exact h
theorem RD.rls {ds : List D} (h : RD K H ι (.rls ds) v) : ∃ a vs, v = .ref a ∧ FrzL K H a vs ∧ RDs K H ι ds vs := by unfold RD at h; exact h
theorem RD.ref {k : Nat} (h : RD K H ι (.ref k) v) : ∃ a, v = .ref a ∧ ι[k]? = some a := by unfold RD at h; exact h
theorem RD.mnon : RD K H ι .non .non := by unfold RD; rfl
theorem RD.mbl {b : Bool} : RD K H ι (.bl b) (.bl b) := by unfold RD; rfl
theorem RD.mint {b : Int} : RD K H ι (.int b) (.int b) := by unfold RD; rfl
theorem RD.mstr {b : Str} : RD K H ι (.str b) (.str b) := by unfold RD; rfl
theorem RD.mty {b : String} : RD K H ι (.ty b) (.ty b) := by unfold RD; rfl
/-- a list of the store -/
theorem RelS.lst {S : SS} {k : Nat} {ds : List D} (s : RelS K H ι S) (e : S[k]? = some (.lst ds)) (h : RD K H ι (.ref k) v) : ∃ a vs, v = .ref a ∧ ι[k]? = some a ∧ H a = some (.lst vs) ∧ RDs K H ι ds vs := by
  obtain ⟨a, rfl, q⟩ := h.ref
  obtain ⟨vs, h1, h2⟩ := s.at k _ a e q
  exact ⟨a, vs, rfl, q, h1, h2⟩
end

/-! ### the items of a list or a tuple -/
/-- what may be gone through: its items -/
def seqD (d : D) (S : SS) : Option (List D) := match d with
  | .tup ds => some ds
  | .rls ds => some ds
  | .ref k => match S[k]? with
    | some (.lst ds) => some ds
    | _ => none
  | _ => none
theorem seqD_ok {K : PySem.W.Frag} {ι : List Addr} {H : Hp} {v : V} {S : SS} {d : D} {ds : List D} (s : RelS K H ι S) (r : RD K H ι d v) (h : seqD d S = some ds) : ∃ a vs, v = .ref a ∧ (SqL K H a vs ∨ SqT K H a vs) ∧ RDs K H ι ds vs := by
  cases d with
  | tup es =>
    have : es = ds := by simpa [seqD] using h
    subst this
    obtain ⟨a, vs, h1, h2, h3⟩ := r.tup
    exact ⟨a, vs, h1, .inr h2, h3⟩
  | rls es =>
    have : es = ds := by simpa [seqD] using h
    subst this
    obtain ⟨a, vs, h1, h2, h3⟩ := r.rls
    exact ⟨a, vs, h1, .inl h2.sq, h3⟩
  | ref k =>
    have h : (match S[k]? with | some (.lst ds) => some ds | _ => none) = some ds := h
    split at h
    · rename_i es e
      cases h
      obtain ⟨a, vs, h1, h2, h3, h4⟩ := s.lst e r
      exact ⟨a, vs, h1, .inl (SqL.of h3), h4⟩
    · cases h
  | _ => simp [seqD] at h

/-! ### numbers -/
def addD : G2
  | .int i, .int j, S => some (.int (i + j), S)
  | .str x, .str y, S => if x.length + y.length ≤ sizeLine then some (.str (x ++ y), S) else none
  | .tup xs, .tup ys, S => if xs.length + ys.length ≤ sizeLine then some (.tup (xs ++ ys), S) else none
  | .ref k, .ref l, S => match S[k]?, S[l]? with
    | some (.lst xs), some (.lst ys) => if xs.length + ys.length ≤ sizeLine then some (.ref S.length, S ++ [.lst (xs ++ ys)]) else none
    | _, _ => none
  | _, _, _ => none
def subD : G2
  | .int i, .int j, S => some (.int (i - j), S)
  | _, _, _ => none
/-- factors of together less than a million bits -/
def MulOk (i j : Int) : Prop := i.natAbs.log2 + j.natAbs.log2 < 1000000
instance (i j : Int) : Decidable (MulOk i j) := by unfold MulOk; infer_instance
def mulD : G2
  | .int i, .int j, S => if MulOk i j then some (.int (i * j), S) else none
  | .tup xs, .int k, S => if xs ≠ [] ∧ 2 ≤ k ∧ k ≤ 1000 ∧ xs.length ≤ 1000 then some (.tup (List.replicate k.toNat xs).flatten, S) else if (xs = [] ∨ k = 1) ∧ -(2 ^ 63) ≤ k ∧ k < 2 ^ 63 then some (.tup xs, S) else none
  | .ref l, .int k, S => match S[l]? with
    | some (.lst xs) => if -(2 ^ 63) ≤ k ∧ k < 2 ^ 63 ∧ xs.length * k.toNat ≤ sizeLine then some (.ref S.length, S ++ [.lst (List.replicate k.toNat xs).flatten]) else none
    | _ => none
  | _, _, _ => none
def DivOk (j : Int) : Prop := j ≠ 0 ∧ j.natAbs.log2 < 9000
instance (j : Int) : Decidable (DivOk j) := by unfold DivOk; infer_instance
def fdivD : G2
  | .int i, .int j, S => if DivOk j then some (.int (i.fdiv j), S) else none
  | _, _, _ => none
def modD : G2
  | .int i, .int j, S => if j ≠ 0 then some (.int (i.fmod j), S) else none
  | _, _, _ => none
def powD : G2
  | .int i, .int j, S => if 0 ≤ j ∧ j ≤ 1000000 ∧ i.natAbs < 2 ^ 64 then some (.int (i ^ j.toNat), S) else none
  | _, _, _ => none
def shlD : G2
  | .int i, .int j, S => if 0 ≤ j ∧ j ≤ 1000000 ∧ i.natAbs < 2 ^ 64 then some (.int (i * 2 ^ j.toNat), S) else none
  | _, _, _ => none
def shrD : G2
  | .int i, .int j, S => if 0 ≤ j then some (.int (i / 2 ^ j.toNat), S) else none
  | _, _, _ => none
def andD : G2
  | .int i, .int j, S => some (.int (Builtin.bitAnd i j), S)
  | _, _, _ => none
def orD : G2
  | .int i, .int j, S => some (.int (Builtin.bitOr i j), S)
  | _, _, _ => none

theorem flat_rds {K : PySem.W.Frag} {ι : List Addr} {H : Hp} {ds : List D} {vs : List V} (r : RDs K H ι ds vs) : ∀ n : Nat, RDs K H ι (List.replicate n ds).flatten (List.replicate n vs).flatten
  | 0 => by simp; exact RDs.nil
  | n + 1 => by
    rw [List.replicate_succ, List.replicate_succ, List.flatten_cons, List.flatten_cons]
    exact r.append (flat_rds r n)
section
variable {X : Cx}
theorem od_add : OpR X (binaryOp .Add) (rOf2 X.K addD) := by
  intro pins s σ H x y v u Q I rx ry h
  obtain ⟨ι, S, d, e, rs, r1, r2, q⟩ := h
  unfold addD at q
  split at q
  · rw [r1.int] at rx
    rw [r2.int] at ry
    exact op_add pins s σ H _ _ v u Q I rx ry ⟨_, _, rfl, rfl, q.val rs RD.mint⟩
  · split at q
    · rw [r1.str] at rx
      rw [r2.str] at ry
      rename_i hl
      exact op_add_str pins s σ H _ _ v u Q I rx ry ⟨_, _, rfl, rfl, hl, q.val rs RD.mstr⟩
    · exact q.elim
  · split at q
    · rename_i _ xs ys hl
      obtain ⟨a, vs, rfl, t1, l1⟩ := r1.tup
      obtain ⟨b, us, rfl, t2, l2⟩ := r2.tup
      have e1 := l1.length
      have e2 := l2.length
      refine op_catA pins s σ H _ _ v u Q I rx ry ⟨a, b, vs, us, rfl, rfl, t1, t2, by omega, fun z => ?_, fun z1 z2 => ?_, fun z1 z2 p hp => q.newT rs (l1.append l2) hp⟩
      · subst z
        have : xs = [] := List.length_eq_zero_iff.mp e1
        subst this
        exact q.val rs r2
      · subst z2
        have : ys = [] := List.length_eq_zero_iff.mp e2
        subst this
        rw [List.append_nil] at q
        exact q.val rs r1
    · exact q.elim
  · split at q
    · split at q
      · rename_i xs ys h1 h2 hl
        obtain ⟨a, vs, rfl, _, t1, l1⟩ := rs.lst h1 r1
        obtain ⟨b, us, rfl, _, t2, l2⟩ := rs.lst h2 r2
        have e1 := l1.length
        have e2 := l2.length
        exact op_cat pins s σ H _ _ v u Q I rx ry ⟨a, b, vs, us, rfl, rfl, t1, t2, by omega, fun p hp => q.newL rs (l1.append l2) hp⟩
      · exact q.elim
    · exact q.elim
  · exact q.elim
theorem od_sub : OpR X (binaryOp .Sub) (rOf2 X.K subD) := by
  intro pins s σ H x y v u Q I rx ry h
  obtain ⟨ι, S, d, e, rs, r1, r2, q⟩ := h
  unfold subD at q
  split at q
  · rw [r1.int] at rx
    rw [r2.int] at ry
    exact op_sub pins s σ H _ _ v u Q I rx ry ⟨_, _, rfl, rfl, q.val rs RD.mint⟩
  · exact q.elim
theorem od_mul : OpR X (binaryOp .Mult) (rOf2 X.K mulD) := by
  intro pins s σ H x y v u Q I rx ry h
  obtain ⟨ι, S, d, e, rs, r1, r2, q⟩ := h
  unfold mulD at q
  split at q
  · split at q
    · rename_i hm
      rw [r1.int] at rx
      rw [r2.int] at ry
      exact op_mulW pins s σ H _ _ v u Q I rx ry ⟨_, _, rfl, rfl, hm, q.val rs RD.mint⟩
    · exact q.elim
  · split at q
    · rename_i hc
      obtain ⟨c1, c2, c3, c4⟩ := hc
      obtain ⟨a, vs, rfl, t1, l1⟩ := r1.tup
      rw [r2.int] at ry
      have e1 := l1.length
      refine op_repT pins s σ H _ _ v u Q I rx ry ⟨a, _, vs, rfl, rfl, t1, fun z => c1 ?_, c2, c3, by omega, fun p hp => q.newT rs (flat_rds l1 _) hp⟩
      subst z
      exact List.length_eq_zero_iff.mp e1
    · split at q
      · rename_i hc
        obtain ⟨c1, c2, c3⟩ := hc
        obtain ⟨a, vs, rfl, t1, l1⟩ := r1.tup
        rw [r2.int] at ry
        have e1 := l1.length
        refine op_repS pins s σ H _ _ v u Q I rx ry ⟨a, _, vs, rfl, rfl, t1, ?_, c2, c3, q.val rs (by unfold RD; exact ⟨a, vs, rfl, t1, l1⟩)⟩
        rcases c1 with rfl | h
        · exact .inl (List.length_eq_zero_iff.mp e1.symm)
        · exact .inr h
      · exact q.elim
  · split at q
    · split at q
      · rename_i h1 hc
        obtain ⟨c1, c2, c3⟩ := hc
        obtain ⟨a, vs, rfl, _, t1, l1⟩ := rs.lst h1 r1
        rw [r2.int] at ry
        have e1 := l1.length
        exact op_rep pins s σ H _ _ v u Q I rx ry ⟨a, _, vs, rfl, rfl, t1, c1, c2, by rw [← e1]; exact c3, fun p hp => q.newL rs (flat_rds l1 _) hp⟩
      · exact q.elim
    · exact q.elim
  · exact q.elim
theorem od_fdiv : OpR X (binaryOp .FloorDiv) (rOf2 X.K fdivD) := by
  intro pins s σ H x y v u Q I rx ry h
  obtain ⟨ι, S, d, e, rs, r1, r2, q⟩ := h
  unfold fdivD at q
  split at q
  · split at q
    · rename_i hm
      rw [r1.int] at rx
      rw [r2.int] at ry
      obtain ⟨t, rfl⟩ := rx
      obtain ⟨t', rfl⟩ := ry
      exact PyProof.Rows.floordiv_int hm.1 ⟨.int _, H, I.tok _, ⟨_, rfl⟩, q.val rs RD.mint⟩ (.inl (PyProof.noPylong_of_log2 hm.2))
    · exact q.elim
  · exact q.elim
theorem od_mod : OpR X (binaryOp .Mod) (rOf2 X.K modD) := by
  intro pins s σ H x y v u Q I rx ry h
  obtain ⟨ι, S, d, e, rs, r1, r2, q⟩ := h
  unfold modD at q
  split at q
  · split at q
    · rename_i hm
      rw [r1.int] at rx
      rw [r2.int] at ry
      exact op_modN pins s σ H _ _ v u Q I rx ry ⟨_, _, rfl, rfl, hm, q.val rs RD.mint⟩
    · exact q.elim
  · exact q.elim
theorem od_pow : OpR X (binaryOp .Pow) (rOf2 X.K powD) := by
  intro pins s σ H x y v u Q I rx ry h
  obtain ⟨ι, S, d, e, rs, r1, r2, q⟩ := h
  unfold powD at q
  split at q
  · split at q
    · rename_i hm
      rw [r1.int] at rx
      rw [r2.int] at ry
      exact op_pow pins s σ H _ _ v u Q I rx ry ⟨_, _, rfl, rfl, hm, q.val rs RD.mint⟩
    · exact q.elim
  · exact q.elim
theorem od_shl : OpR X (binaryOp .LShift) (rOf2 X.K shlD) := by
  intro pins s σ H x y v u Q I rx ry h
  obtain ⟨ι, S, d, e, rs, r1, r2, q⟩ := h
  unfold shlD at q
  split at q
  · split at q
    · rename_i hm
      rw [r1.int] at rx
      rw [r2.int] at ry
      exact op_shl pins s σ H _ _ v u Q I rx ry ⟨_, _, rfl, rfl, hm, q.val rs RD.mint⟩
    · exact q.elim
  · exact q.elim
theorem od_shr : OpR X (binaryOp .RShift) (rOf2 X.K shrD) := by
  intro pins s σ H x y v u Q I rx ry h
  obtain ⟨ι, S, d, e, rs, r1, r2, q⟩ := h
  unfold shrD at q
  split at q
  · split at q
    · rename_i hm
      rw [r1.int] at rx
      rw [r2.int] at ry
      exact op_shr pins s σ H _ _ v u Q I rx ry ⟨_, _, rfl, rfl, hm, q.val rs RD.mint⟩
    · exact q.elim
  · exact q.elim
theorem od_and : OpR X (binaryOp .BitAnd) (rOf2 X.K andD) := by
  intro pins s σ H x y v u Q I rx ry h
  obtain ⟨ι, S, d, e, rs, r1, r2, q⟩ := h
  unfold andD at q
  split at q
  · rw [r1.int] at rx
    rw [r2.int] at ry
    exact op_and pins s σ H _ _ v u Q I rx ry ⟨_, _, rfl, rfl, q.val rs RD.mint⟩
  · exact q.elim
theorem od_or : OpR X (binaryOp .BitOr) (rOf2 X.K orD) := by
  intro pins s σ H x y v u Q I rx ry h
  obtain ⟨ι, S, d, e, rs, r1, r2, q⟩ := h
  unfold orD at q
  split at q
  · rw [r1.int] at rx
    rw [r2.int] at ry
    exact op_or pins s σ H _ _ v u Q I rx ry ⟨_, _, rfl, rfl, q.val rs RD.mint⟩
  · exact q.elim
end
/-- the operators -/
def binD : Operator → G2
  | .Add => addD
  | .Sub => subD
  | .Mult => mulD
  | .FloorDiv => fdivD
  | .Mod => modD
  | .Pow => powD
  | .LShift => shlD
  | .RShift => shrD
  | .BitAnd => andD
  | .BitOr => orD
  | _ => fun _ _ _ => none
theorem od_bin {X : Cx} : ∀ op : Operator, OpR X (binaryOp op) (rOf2 X.K (binD op))
  | .Add => od_add
  | .Sub => od_sub
  | .Mult => od_mul
  | .FloorDiv => od_fdiv
  | .Mod => od_mod
  | .Pow => od_pow
  | .LShift => od_shl
  | .RShift => od_shr
  | .BitAnd => od_and
  | .BitOr => od_or
  | .MatMult => OpR.nope fun _ _ _ _ ⟨_, _, _, _, _, _, _, q⟩ => q
  | .Div => OpR.nope fun _ _ _ _ ⟨_, _, _, _, _, _, _, q⟩ => q
  | .BitXor => OpR.nope fun _ _ _ _ ⟨_, _, _, _, _, _, _, q⟩ => q
end DL
set_option Elab.async false
set_option linter.all false
set_option maxRecDepth 100000
set_option maxHeartbeats 1000000
/-! DEnum: enumerate over a tuple; the sum of a tuple. -/
namespace DL
open PySem PySem.Spec PyProof.Rows L2
open AutoSeq1 (wpAny_loadPart')
theorem enu_newT (l : Addr) (items : Array Value) (n : Nat) (dct : Option Addr) (sl : Array (Option Value)) :
    Meets (Builtin.«enumerate.__new__» ⟨[.type "enumerate", .ref l], []⟩) (fun _ R s => s.heap.get? l = some { cls := .type "tuple", dict := dct, data := .seq items n, slots := sl } ∧
      R (.ok (.ret (.ref (s.heap.push { cls := .type "tuple_iterator", data := .fields #[.ref l, .int 0 0] }).objs.size)))
        { s with heap := (s.heap.push { cls := .type "tuple_iterator", data := .fields #[.ref l, .int 0 0] }).push { cls := .type "enumerate", data := .fields #[.none, .bool false, .ref s.heap.objs.size, rawInt 0, .none, .none] } }) :=
  .of_wp fun prog w A R s h => by
    obtain ⟨hp, g, d, tk, os⟩ := s; obtain ⟨hl, h⟩ := h
    have hsub := sub_enumerate
    have hL : Heap.IsTuple (Shared.heap ⟨hp, g, d, tk, os⟩) l items := ⟨_, hl, rfl, n, rfl⟩
    wp_walk using wpAny_loadPart' hl
    refine wpAny_stack_any fun st => wpAny_pure ?_
    split
    · rename_i c _ _ _ _ _
      cases (c == Value.type "enumerate")
      · wp_walk using wpAny_loadPart' hl, wpAny_pyIter_tuple hL
        exact ⟨_, rfl, h⟩
      · wp_walk using wpAny_loadPart' hl, wpAny_pyIter_tuple hL
        exact ⟨_, rfl, h⟩
    · wp_walk using wpAny_loadPart' hl, wpAny_pyIter_tuple hL
      exact ⟨_, rfl, h⟩
section
variable {prog : Program} {w : World} {A : Around} {E : Value → Shared → Prop} {s : Shared}
theorem call_enumT {l : Addr} {items : Array Value} {Q : Value → Shared → Prop} (hL : s.heap.IsTuple l items)
    (h : ∀ h', IsEnum h' (s.heap.objs.size + 1) s.heap.objs.size 0 .none → h'.IsTupleIter s.heap.objs.size l 0 → h'.objs.size = s.heap.objs.size + 2 →
      (∀ b o, s.heap.get? b = some o → h'.get? b = some o) → Q (.ref (s.heap.objs.size + 1)) { s with heap := h' }) :
    wpAny (model prog w) A (call (.type "enumerate") [.ref l]) Q E s := by
  obtain ⟨⟨c, dct, dt, sl⟩, hl, hc, n, hd⟩ := hL
  replace hc : c = .type "tuple" := hc
  replace hd : dt = .seq items n := hd
  subst hc hd
  refine callType_new F.called_enumerate (by decide) (F.typeCall_enumerate_1 _) (F.newCall_enumerate_1 _) (fun obj => F.args_object_init_2 obj _) F.entry_enumerate_new
    (enu_newT l items n dct sl) ⟨hl, ?_⟩
  have hz : (s.heap.push { cls := .type "tuple_iterator", data := .fields #[.ref l, .int 0 0] }).objs.size = s.heap.objs.size + 1 := Heap.size_push ..
  show _ ∧ _
  rw [hz]
  have he : IsEnum ((s.heap.push { cls := .type "tuple_iterator", data := .fields #[.ref l, .int 0 0] }).push
      { cls := .type "enumerate", data := .fields #[.none, .bool false, .ref s.heap.objs.size, rawInt 0, .none, .none] }) (s.heap.objs.size + 1) s.heap.objs.size 0 .none := by
    have := Heap.get?_push_size (s.heap.push { cls := .type "tuple_iterator", data := .fields #[.ref l, .int 0 0] })
      (o := { cls := .type "enumerate", data := .fields #[.none, .bool false, .ref s.heap.objs.size, rawInt 0, .none, .none] }) rfl
    rw [hz] at this; exact this
  refine ⟨⟨_, he, rfl⟩, h _ he ⟨_, Heap.get?_push_of_some _ (Heap.get?_push_size _ rfl), rfl, rfl⟩ (by rw [Heap.size_push, hz]) fun b o x => Heap.get?_push_of_some _ (Heap.get?_push_of_some _ x)⟩
end
/-- the tuple at a, each item in a new pair -/
def IteT (K : PySem.W.Frag) (a : Addr) : It :=
  ⟨fun i H => ∃ (xs : List V) (x : V), SqT K H a xs ∧ xs[i]? = some x, fun i H v H' => ∃ T x, v = .ref T ∧ H T = none ∧ H' = upd H T (.tup [.int (i : Nat), x]) ∧ ∀ xs, SqT K H a xs → xs[i]? = some x, fun i H => ∃ xs : List V, SqT K H a xs ∧ xs.length ≤ i⟩
theorem turn_enumT {P : Program} {w : World} {K : PySem.W.Frag} {elts : List Expr} {kk : Nat} {tpos : Pos} (a e it : Addr) (hai : a ≠ it) (hea : e ≠ a) :
    Turn P w K (.Tuple elts kk tpos) (IteT K a) [e, it] e (fun i h => (∃ old, IsEnum h e it ((i : Nat) : Int) old) ∧ h.IsTupleIter it a i ∧ e ≠ it) where
  mem := by simp
  obj := fun i h st b hb => by
    obtain ⟨⟨old, he⟩, ⟨o, ho, hc, hd⟩, _⟩ := st
    have e' : b = e ∨ b = it := by simpa using hb
    rcases e' with z | z
    · rw [z]; exact ⟨_, he, fun v q => nomatch q⟩
    · rw [z]; exact ⟨o, ho, fun v q => by rw [hd] at q; cases q⟩
  keep := fun i h h' st k => let ⟨⟨old, he⟩, hi, hne⟩ := st; ⟨⟨old, k e (by simp) _ he⟩, hi.at fun o q => k it (by simp) o q, hne⟩
  item := by
    intro X hP hw hK hc i pins s σ H E I hf st hg
    subst hP hw hK
    obtain ⟨⟨old, he⟩, hit, hne⟩ := st
    obtain ⟨xs, x, hq, hx⟩ := hg
    obtain ⟨its, rv, p, hz⟩ := I.tuple hq
    obtain ⟨u, hu, ru⟩ := rv.get hx
    have hel : e < s.heap.objs.size := Heap.lt_size he
    have hil : it < s.heap.objs.size := by obtain ⟨_, q, _⟩ := hit; exact Heap.lt_size q
    have p' : s.heap.IsTuple a its.toArray := p
    have hlt : i < its.toArray.size := by
      have := (List.getElem?_eq_some_iff.mp hu).1
      simpa using this
    refine wpAny_pyNext_enum_itemD (Draws.tuple (A := X.A.in1) (I.ok.hd hc) it a hai its.toArray) he ⟨hit, p'⟩ hlt hne (by simp [hne, hea]) fun x' h' tk hP ho st' hT hsz hk => ?_
    have hx' : x' = u := by
      have h1 : its.toArray[i]? = some x' := hP
      have h2 : its.toArray[i]? = some u := by simpa using hu
      rw [h1] at h2
      exact Option.some.inj h2
    subst hx'
    have hit' := st'.1
    refine ⟨_, rfl, wpAny_letOwnedTupleGo_enum (s := { s with heap := h', toks := tk + 1 }) ho fun h'' he' sb => ?_⟩
    have hT2 : h''.get? s.heap.objs.size = some { cls := .type "tuple", data := .seq #[.int i tk, x'] } := (sb.2 _ (Nat.ne_of_gt hel)).trans hT
    have new : ObjOk X.prog X.w (upd H s.heap.objs.size (.tup [.int (i : Nat), x])) h'' s.heap.objs.size (.tup [.int (i : Nat), x]) :=
      ⟨by show 2 ≤ sizeLine; decide, [.int i tk, x'], .cons ⟨_, rfl⟩ (.cons ru .nil), ⟨_, hT2, rfl, _, rfl⟩⟩
    have I1 : Inv X pins σ (upd H s.heap.objs.size (.tup [.int (i : Nat), x])) { s with heap := h'', toks := tk + 1 } :=
      I.turnedNew (ch := [e, it]) (fun b ob hb q => (sb.2 b (fun z => hb (by simp [z]))).trans (hk b ob (fun z => hb (by simp [z])) (fun z => hb (by simp [z])) q)) hf (Nat.le_refl _) new
    refine ⟨.ref s.heap.objs.size, _, I1, rfl, ⟨_, x, rfl, I.hok.fresh (Nat.le_refl _), rfl, fun ys hy => by rw [I.tuple_inj hy hq]; exact hx⟩, ⟨⟨x', ?_⟩, hit'.at fun o q => (sb.2 it (Ne.symm hne)).trans q, hne⟩, fun b hb => ?_⟩
    · have e1 : ((i + 1 : Nat) : Int) = (i : Int) + 1 := by omega
      rw [e1]; exact he'
    · have hb' : b < s.heap.objs.size := by
        have e' : b = e ∨ b = it := by simpa using hb
        rcases e' with z | z
        · rw [z]; exact hel
        · rw [z]; exact hil
      rw [upd_ne (Nat.ne_of_lt hb')]
      exact (hf b hb).1
  done := by
    intro X hP hw hK hc i pins s σ H E I hf st hg
    subst hP hw hK
    obtain ⟨⟨old, he⟩, hit, hne⟩ := st
    obtain ⟨xs, hq, hx⟩ := hg
    obtain ⟨its, rv, p, hz⟩ := I.tuple hq
    obtain ⟨f0, f1, f2, f3, f4, f5⟩ := hf it (by simp)
    have hl := rv.length
    have p' : s.heap.IsTuple a its.toArray := p
    have hT : s.TypeIs (.ref e) "enumerate" := ⟨_, he, rfl⟩
    unfold pyNext
    refine wpAny_bind (wpAny_attempt (wpAny_callSpecial?_slot (name := Str.ofString "__next__") hT F.slot_enumerate_next
      (wpAny_call_entry F.slot_enumerate_next hT F.entry_enumerate_next ?_ (F.args_enumerate_next_1 _))))
    show wpAny _ _ (field (.ref e) 2 >>= _) _ _ _
    refine wpAny_bind (wpAny_field he rfl (x := .ref it) rfl ?_)
    refine wpAny_bind (wpAny_nextOf_tuple_end (I.ok.hd hc) hit p' (by simp; omega) fun h' x he' hx' => ?_)
    obtain ⟨o, ho, hcl⟩ := hx'
    refine wpAny_bind (wpAny_isInstance (T := "StopIteration") (b := true) ⟨o, ho, hcl⟩ isSubtype_stop ?_)
    exact wpAny_pure ⟨rfl, I.turned (t' := s.toks) (fun b o hb q => he' b o hb q) f0 f1 f3 f4 f5⟩
  self := fun A i s Q E st h => let ⟨⟨_, he⟩, _⟩ := st; wpAny_pyIter_enum he h
def iEnumT (K : PySem.W.Frag) (ta : TA) : TI := fun σ H R => ta σ H fun vs H1 => ∃ a, vs = [.ref a] ∧ ((∃ xs, SqL K H1 a xs ∧ R (Ite K a) H1) ∨ ∃ xs, SqT K H1 a xs ∧ R (IteT K a) H1)
theorem pi_enumT {X : Cx} {e : Expr} {ta : TA} {p pos tpos : Pos} {elts : List Expr} {kk : Nat} (hg : Gl X "enumerate") (hm : X.mg "enumerate" = none) (ha : PA X [e] ta) (hs : starEach [e] X.env = [(false, eval e X.env)]) :
    PI X (.Tuple elts kk tpos) (.Call (.Name "enumerate" p) [e] [] pos) (iEnumT X.K ta) := by
  refine ⟨fun pins s σ H R I h => ?_⟩
  refine Call_ (ld_blt I hg hm boot_enumerate (PyProof.Rows.callWith_type1 (thn (ha.run pos pins s σ H _ I h) fun us s1 ⟨vs, H1, I1, r1, q1⟩ => ?_) hs rfl))
  obtain ⟨a, ex, q⟩ := q1
  subst ex
  cases r1 with
  | cons r rr =>
    cases rr
    cases r
    have fp : ∀ b ∈ [s1.heap.objs.size + 1, s1.heap.objs.size], FpOk X pins H1 b := fun b hb => by
      have e' : b = s1.heap.objs.size + 1 ∨ b = s1.heap.objs.size := by simpa using hb
      have hle : s1.heap.objs.size ≤ b := by
        rcases e' with z | z
        · rw [z]; exact Nat.le_add_right _ _
        · rw [z]; exact Nat.le_refl _
      exact I1.fpOk hle (I1.hok.fresh hle)
    rcases q with ⟨xs, hq, q⟩ | ⟨xs, hq, q⟩
    · obtain ⟨its, rv, p', hz⟩ := I1.list hq
      refine call_enumerate_list p'.isList fun h' he hit hsz hk => wpAny_pyIter_enum he ?_
      have I2 : Inv X pins σ H1 { s1 with heap := h' } := I1.kept (t' := s1.toks) hk
      exact ⟨s1.heap.objs.size + 1, [s1.heap.objs.size + 1, s1.heap.objs.size], _, _, H1, rfl, I2, turn_enum a (s1.heap.objs.size + 1) s1.heap.objs.size, ⟨⟨.none, he⟩, hit, Nat.succ_ne_self _⟩, fp, q⟩
    · obtain ⟨its, rv, p', hz⟩ := I1.tuple hq
      have p2 : s1.heap.IsTuple a its.toArray := p'
      have ha : a < s1.heap.objs.size := by obtain ⟨_, q, _⟩ := p2; exact Heap.lt_size q
      refine call_enumT p2 fun h' he hit hsz hk => wpAny_pyIter_enum he ?_
      have I2 : Inv X pins σ H1 { s1 with heap := h' } := I1.kept (t' := s1.toks) hk
      exact ⟨s1.heap.objs.size + 1, [s1.heap.objs.size + 1, s1.heap.objs.size], _, _, H1, rfl, I2, turn_enumT a (s1.heap.objs.size + 1) s1.heap.objs.size (Nat.ne_of_lt ha) (Nat.ne_of_gt (Nat.lt_succ_of_lt ha)), ⟨⟨.none, he⟩, hit, Nat.succ_ne_self _⟩, fp, q⟩
/-! sum of a tuple -/
def rSumT (K : PySem.W.Frag) : List V → Hp → VK → Prop := fun vs H Q => ∃ (a : Addr) (ns : List Int), vs = [V.ref a] ∧ SqT K H a (ns.map V.int) ∧ Q (.int ns.sum) H
theorem cr_sumT {X : Cx} (hc : X.calm = true) : CallR X (.builtin "sum") (rSumT X.K) := by
  intro pins s σ H vs us Q I r h
  obtain ⟨a, ns, rfl, hs, q⟩ := h
  obtain ⟨its, rv, hl, _⟩ := I.tuple hs
  rw [Vals.ref1 r]
  have hi := rv.ints
  obtain ⟨xs, hx⟩ := hi.allInts.items
  have hl : s.heap.IsTuple a its.toArray := hl
  have hn : numsOf its.toArray.toList = ns := by rw [show its.toArray.toList = its from rfl, hi.numsOf]
  rw [hx] at hl hn
  rw [nums_intItems] at hn
  refine PySem.W.ktm_sumG (I.ok.hd hc) hl fun h' tk t' hk => ?_
  rw [preSum_eq, List.take_of_length_le (by simp), hn]
  exact ⟨.int _, H, I.kept hk, ⟨_, rfl⟩, q⟩
end DL
set_option Elab.async false
set_option linter.all false
set_option maxRecDepth 100000
/-! DCmp: values as plain data; ==, is, in, repr, isinstance, truth. -/
namespace DL
open PySem L2

mutual
def pyI (f : Nat → Option PyData) : D → Option PyData
  | .non => some .none
  | .bl b => some (.bool b)
  | .int i => some (.int i)
  | .str x => some (.str x)
  | .tup ds => (pysI f ds).map .tuple
  | .rls ds => (pysI f ds).map .list
  | .ref k => f k
  | .ty _ => none
  | .gl _ => none
def pysI (f : Nat → Option PyData) : List D → Option (List PyData)
  | [] => some []
  | d :: ds => match pyI f d, pysI f ds with
    | some p, some ps => some (p :: ps)
    | _, _ => none
end
/-- the lists of the store, n deep -/
def lstOf (S : SS) : Nat → Nat → Option PyData
  | 0, _ => none
  | n + 1, k => match S[k]? with
    | some (.lst ds) => (pysI (lstOf S n) ds).map .list
    | _ => none
/-- a value as plain data -/
def py (S : SS) (d : D) : Option PyData := pyI (lstOf S 4) d
section
variable {K : PySem.W.Frag} {ι : List Addr} {H : Hp} {S : SS}
mutual
theorem pyI_ok {f : Nat → Option PyData} (hf : ∀ (k : Nat) (a : Addr) (p : PyData), ι[k]? = some a → f k = some p → Dp K H (.ref a) p) : ∀ {d : D} {v : V} {p : PyData}, RD K H ι d v → pyI f d = some p → Dp K H v p
  | .non, _, _, r, e => by simp [pyI] at e; subst e; rw [r.non]; exact .non
  | .bl b, _, _, r, e => by simp [pyI] at e; subst e; rw [r.bl]; exact .bl b
  | .int i, _, _, r, e => by simp [pyI] at e; subst e; rw [r.int]; exact .int i
  | .str i, _, _, r, e => by simp [pyI] at e; subst e; rw [r.str]; exact .str i
  | .tup ds, _, _, r, e => by
    simp only [pyI, Option.map_eq_some_iff] at e
    obtain ⟨ps, e1, rfl⟩ := e
    obtain ⟨a, vs, rfl, t, l⟩ := r.tup
    exact .tup t (pysI_ok hf l e1)
  | .rls ds, _, _, r, e => by
    simp only [pyI, Option.map_eq_some_iff] at e
    obtain ⟨ps, e1, rfl⟩ := e
    obtain ⟨a, vs, rfl, t, l⟩ := r.rls
    exact .lst t.sq (pysI_ok hf l e1)
  | .ref k, _, _, r, e => by
    simp only [pyI] at e
    obtain ⟨a, rfl, q⟩ := r.ref
    exact hf k a _ q e
  | .ty _, _, _, _, e => by simp [pyI] at e
  | .gl _, _, _, _, e => by simp [pyI] at e
theorem pysI_ok {f : Nat → Option PyData} (hf : ∀ (k : Nat) (a : Addr) (p : PyData), ι[k]? = some a → f k = some p → Dp K H (.ref a) p) : ∀ {ds : List D} {vs : List V} {ps : List PyData}, RDs K H ι ds vs → pysI f ds = some ps → DpAll K H vs ps
  | [], _, _, r, e => by
    simp [pysI] at e
    subst e
    unfold RDs at r
    subst r
    exact .nil
  | d :: ds, _, _, r, e => by
    unfold RDs at r
    obtain ⟨v, vs, rfl, h1, h2⟩ := r
    simp only [pysI] at e
    split at e
    · rename_i p ps e1 e2
      cases e
      exact .cons (pyI_ok hf h1 e1) (pysI_ok hf h2 e2)
    · cases e
end
theorem lstOf_ok (s : RelS K H ι S) : ∀ (n : Nat) (k : Nat) (a : Addr) (p : PyData), ι[k]? = some a → lstOf S n k = some p → Dp K H (.ref a) p
  | 0, _, _, _, _, e => by simp [lstOf] at e
  | n + 1, k, a, p, q, e => by
    simp only [lstOf] at e
    split at e
    · rename_i ds ek
      simp only [Option.map_eq_some_iff] at e
      obtain ⟨ps, e1, rfl⟩ := e
      obtain ⟨vs, h1, h2⟩ := s.at k _ a ek q
      exact .lst (SqL.of h1) (pysI_ok (lstOf_ok s n) h2 e1)
    · cases e
theorem py_ok (s : RelS K H ι S) {d : D} {v : V} {p : PyData} (r : RD K H ι d v) (e : py S d = some p) : Dp K H v p := pyI_ok (lstOf_ok s 4) r e
end

/-! ### == -/
def eqD : G2 := fun d e S => match d, e with
  | .str x, .str y => some (.bl (decide (x = y)), S)
  | d, e => match py S d, py S e with
    | some p, some q => if SeqAt.shaped p = true ∧ SeqAt.shaped q = true then some (.bl (PyData.eqv p q), S) else none
    | _, _ => none
def neD : G2 := fun d e S => match d, e with
  | .str x, .str y => some (.bl (!decide (x = y)), S)
  | d, e => match py S d, py S e with
    | some p, some q => if SeqAt.shaped p = true ∧ SeqAt.shaped q = true then some (.bl (!PyData.eqv p q), S) else none
    | _, _ => none
theorem dec_str {x y : Str} : decide (V.str x = V.str y) = decide (x = y) := by
  by_cases h : x = y
  · simp [h]
  · simp [h]
def intCmp (f : Int → Int → Bool) : G2
  | .int i, .int j, S => some (.bl (f i j), S)
  | _, _, _ => none
def ltD : G2
  | .int i, .int j, S => some (.bl (decide (i < j)), S)
  | .str i, .str j, S => some (.bl (decide (i.cps.toList < j.cps.toList)), S)
  | _, _, _ => none
def noneD : D → Bool
  | .non => true
  | _ => false
/-- is: with None, with a bool -/
def isD : G2
  | d, .non, S => some (.bl (noneD d), S)
  | .bl a, .bl b, S => some (.bl (decide (a = b)), S)
  | _, _, _ => none
def isNotD : G2
  | d, .non, S => some (.bl (!noneD d), S)
  | .bl a, .bl b, S => some (.bl (!decide (a = b)), S)
  | _, _, _ => none
def flatD : D → Bool
  | .non => true
  | .bl _ => true
  | .int _ => true
  | .str _ => true
  | _ => false
def eqF : D → D → Bool
  | .non, .non => true
  | .bl a, .bl b => a == b
  | .bl a, .int b => (if a then 1 else 0) == b
  | .int a, .bl b => a == (if b then 1 else 0)
  | .int a, .int b => a == b
  | .str a, .str b => a == b
  | _, _ => false
def keyD : D → Option Key
  | .int i => some (.inl i)
  | .str x => some (.inr x)
  | _ => none
/-- in a list, of any depth -/
def deepD (neg : Bool) : G2 := fun d e S => match py S d, py S e with
  | some p, some (.list qs) => if SeqAt.shaped p = true ∧ SeqAt.shaped (.list qs) = true ∧ p.depth ≤ 60 then some (.bl (if neg then !(qs.any fun z => PyData.eqv z p) else qs.any fun z => PyData.eqv z p), S) else none
  | _, _ => none
def inD (neg : Bool) : G2 := fun d e S => match e with
  | .str y => match d with
    | .str x => some (.bl (if neg then !(!(Builtin.Str.occurrences y x 0 y.length 1).isEmpty) else !(Builtin.Str.occurrences y x 0 y.length 1).isEmpty), S)
    | _ => none
  | e => match seqD e S with
    | some ds => if flatD d = true ∧ ds.all flatD = true then some (.bl (if neg then !(ds.any fun y => eqF y d) else ds.any fun y => eqF y d), S) else deepD neg d e S
    | none => none
section
variable {K : PySem.W.Frag} {ι : List Addr} {H : Hp} {S : SS}
theorem flat_ok {d : D} {v : V} (r : RD K H ι d v) (h : flatD d = true) : flatV v = true := by
  cases d with
  | non => rw [r.non]; rfl
  | bl b => rw [r.bl]; rfl
  | int b => rw [r.int]; rfl
  | str b => rw [r.str]; rfl
  | _ => simp [flatD] at h
theorem eqF_ok {d e : D} {v u : V} (r1 : RD K H ι d v) (r2 : RD K H ι e u) (h1 : flatD d = true) (h2 : flatD e = true) : eqV v u = eqF d e := by
  cases d with
  | non =>
    rw [r1.non]
    cases e with
    | non => rw [r2.non]; rfl
    | bl b => rw [r2.bl]; rfl
    | int b => rw [r2.int]; rfl
    | str b => rw [r2.str]; rfl
    | _ => simp [flatD] at h2
  | bl c =>
    rw [r1.bl]
    cases e with
    | non => rw [r2.non]; rfl
    | bl b => rw [r2.bl]; rfl
    | int b => rw [r2.int]; rfl
    | str b => rw [r2.str]; rfl
    | _ => simp [flatD] at h2
  | int c =>
    rw [r1.int]
    cases e with
    | non => rw [r2.non]; rfl
    | bl b => rw [r2.bl]; rfl
    | int b => rw [r2.int]; rfl
    | str b => rw [r2.str]; rfl
    | _ => simp [flatD] at h2
  | str c =>
    rw [r1.str]
    cases e with
    | non => rw [r2.non]; rfl
    | bl b => rw [r2.bl]; rfl
    | int b => rw [r2.int]; rfl
    | str b => rw [r2.str]; rfl
    | _ => simp [flatD] at h2
  | _ => simp [flatD] at h1
theorem flats_ok : ∀ {ds : List D} {vs : List V}, RDs K H ι ds vs → ds.all flatD = true → vs.all flatV = true
  | [], _, r, _ => by unfold RDs at r; subst r; rfl
  | d :: ds, _, r, h => by
    unfold RDs at r
    obtain ⟨v, vs, rfl, h1, h2⟩ := r
    rw [List.all_cons, Bool.and_eq_true] at h ⊢
    exact ⟨flat_ok h1 h.1, flats_ok h2 h.2⟩
theorem inV_ok {d : D} {v : V} (rd : RD K H ι d v) (hd : flatD d = true) : ∀ {ds : List D} {vs : List V}, RDs K H ι ds vs → ds.all flatD = true → inV v vs = ds.any fun y => eqF y d
  | [], _, r, _ => by unfold RDs at r; subst r; rfl
  | d' :: ds, _, r, h => by
    unfold RDs at r
    obtain ⟨v', vs, rfl, h1, h2⟩ := r
    rw [List.all_cons, Bool.and_eq_true] at h
    have ih := inV_ok rd hd h2 h.2
    unfold inV at ih ⊢
    rw [List.any_cons, List.any_cons, ih, eqF_ok h1 rd h.1 hd]
end
section
variable {X : Cx}
theorem oc_eq (hu : X.A.units + 64 < cLine) : OpR X (compareOp .Eq) (rOf2 X.K eqD) := by
  intro pins s σ H x y v u Q I rx ry h
  obtain ⟨ι, S, d, e, rs, r1, r2, q⟩ := h
  unfold eqD at q
  split at q
  · rw [r1.str] at rx
    rw [r2.str] at ry
    exact op_eq pins s σ H _ _ v u Q I rx ry ⟨rfl, by rw [dec_str]; exact q.val rs RD.mbl⟩
  · split at q
    · rename_i p p' e1 e2
      split at q
      · rename_i hs
        exact op_eqD hu pins s σ H _ _ v u Q I rx ry ⟨p, p', py_ok rs r1 e1, py_ok rs r2 e2, hs.1, hs.2, q.val rs RD.mbl⟩
      · exact q.elim
    · exact q.elim
theorem oc_ne (hu : X.A.units + 64 < cLine) : OpR X (compareOp .NotEq) (rOf2 X.K neD) := by
  intro pins s σ H x y v u Q I rx ry h
  obtain ⟨ι, S, d, e, rs, r1, r2, q⟩ := h
  unfold neD at q
  split at q
  · rw [r1.str] at rx
    rw [r2.str] at ry
    exact op_ne pins s σ H _ _ v u Q I rx ry ⟨rfl, by rw [dec_str]; exact q.val rs RD.mbl⟩
  · split at q
    · rename_i p p' e1 e2
      split at q
      · rename_i hs
        exact op_neD hu pins s σ H _ _ v u Q I rx ry ⟨p, p', py_ok rs r1 e1, py_ok rs r2 e2, hs.1, hs.2, q.val rs RD.mbl⟩
      · exact q.elim
    · exact q.elim
theorem oc_int {op : CmpOp} {f : Int → Int → Bool} (ho : OpR X (compareOp op) (rI0 fun i j => .bl (f i j))) : OpR X (compareOp op) (rOf2 X.K (intCmp f)) := by
  intro pins s σ H x y v u Q I rx ry h
  obtain ⟨ι, S, d, e, rs, r1, r2, q⟩ := h
  unfold intCmp at q
  split at q
  · rw [r1.int] at rx
    rw [r2.int] at ry
    exact ho pins s σ H _ _ v u Q I rx ry ⟨_, _, rfl, rfl, q.val rs RD.mbl⟩
  · exact q.elim
theorem oc_lt : OpR X (compareOp .Lt) (rOf2 X.K ltD) := by
  intro pins s σ H x y v u Q I rx ry h
  obtain ⟨ι, S, d, e, rs, r1, r2, q⟩ := h
  unfold ltD at q
  split at q
  · rw [r1.int] at rx
    rw [r2.int] at ry
    exact op_lt pins s σ H _ _ v u Q I rx ry ⟨_, _, rfl, rfl, q.val rs RD.mbl⟩
  · rw [r1.str] at rx
    rw [r2.str] at ry
    exact op_lt_str pins s σ H _ _ v u Q I rx ry ⟨_, _, rfl, rfl, q.val rs RD.mbl⟩
  · exact q.elim
theorem nonV {K : PySem.W.Frag} {ι : List Addr} {H : Hp} {d : D} {x : V} (r : RD K H ι d x) : decide (x = V.non) = noneD d := by
  cases d with
  | non => rw [r.non]; rfl
  | bl b => rw [r.bl]; rfl
  | int b => rw [r.int]; rfl
  | str b => rw [r.str]; rfl
  | ty b => rw [r.ty]; rfl
  | gl b => rw [r.gl]; rfl
  | tup ds => obtain ⟨a, vs, rfl, _, _⟩ := r.tup; rfl
  | rls ds => obtain ⟨a, vs, rfl, _, _⟩ := r.rls; rfl
  | ref k => obtain ⟨a, rfl, _⟩ := r.ref; rfl
theorem oc_is : OpR X (compareOp .Is) (rOf2 X.K isD) := by
  intro pins s σ H x y v u Q I rx ry h
  obtain ⟨ι, S, d, e, rs, r1, r2, q⟩ := h
  unfold isD at q
  split at q
  · rw [r2.non] at ry
    exact op_isN pins s σ H _ _ v u Q I rx ry ⟨rfl, by rw [nonV r1]; exact q.val rs RD.mbl⟩
  · rw [r1.bl] at rx
    rw [r2.bl] at ry
    exact op_isBl pins s σ H _ _ v u Q I rx ry ⟨_, _, rfl, rfl, q.val rs RD.mbl⟩
  · exact q.elim
theorem oc_isNot : OpR X (compareOp .IsNot) (rOf2 X.K isNotD) := by
  intro pins s σ H x y v u Q I rx ry h
  obtain ⟨ι, S, d, e, rs, r1, r2, q⟩ := h
  unfold isNotD at q
  split at q
  · rw [r2.non] at ry
    refine op_notN pins s σ H _ _ v u Q I rx ry ⟨rfl, ?_⟩
    rw [nonV r1]
    exact q.val rs RD.mbl
  · rw [r1.bl] at rx
    rw [r2.bl] at ry
    exact op_notBl pins s σ H _ _ v u Q I rx ry ⟨_, _, rfl, rfl, q.val rs RD.mbl⟩
  · exact q.elim
theorem oc_in (hu : X.A.units + 64 < cLine) : OpR X (compareOp .In) (rOf2 X.K (inD false)) := by
  intro pins s σ H x y v u Q I rx ry h
  obtain ⟨ι, S, d, e, rs, r1, r2, q⟩ := h
  unfold inD at q
  split at q
  · split at q
    · rw [r1.str] at rx
      rw [r2.str] at ry
      exact op_in_str pins s σ H _ _ v u Q I rx ry ⟨_, _, rfl, rfl, q.val rs RD.mbl⟩
    · exact q.elim
  · split at q
    · rename_i ds hs
      split at q
      · rename_i hf
        obtain ⟨a, vs, rfl, h1, h2⟩ := seqD_ok rs r2 hs
        refine op_in_seq pins s σ H _ _ v u Q I rx ry ⟨a, vs, rfl, h1, flat_ok r1 hf.1, flats_ok h2 hf.2, ?_⟩
        rw [inV_ok r1 hf.1 h2 hf.2]
        exact q.val rs RD.mbl
      · unfold deepD at q
        split at q
        · rename_i p qs e1 e2
          split at q
          · rename_i hs
            obtain ⟨as, k1⟩ := Dp.reads I p x v (py_ok rs r1 e1) rx
            obtain ⟨bs, k2⟩ := Dp.reads I (.list qs) y u (py_ok rs r2 e2) ry
            exact SeqAt.in_list_reads k2 k1 (SeqAt.canLay_of_shaped hs.2.1) (SeqAt.canLay_of_shaped hs.1) (by have := Nat.min_le_right (PyData.depthAll qs) p.depth; omega) ⟨.bl _, H, I, rfl, q.val rs RD.mbl⟩
          · exact q.elim
        · exact q.elim
    · exact q.elim
theorem oc_notIn (hu : X.A.units + 64 < cLine) : OpR X (compareOp .NotIn) (rOf2 X.K (inD true)) := by
  intro pins s σ H x y v u Q I rx ry h
  obtain ⟨ι, S, d, e, rs, r1, r2, q⟩ := h
  unfold inD at q
  split at q
  · split at q
    · rw [r1.str] at rx
      rw [r2.str] at ry
      exact op_notIn_str pins s σ H _ _ v u Q I rx ry ⟨_, _, rfl, rfl, q.val rs RD.mbl⟩
    · exact q.elim
  · split at q
    · rename_i ds hs
      split at q
      · rename_i hf
        obtain ⟨a, vs, rfl, h1, h2⟩ := seqD_ok rs r2 hs
        refine op_notIn_seq pins s σ H _ _ v u Q I rx ry ⟨a, vs, rfl, h1, flat_ok r1 hf.1, flats_ok h2 hf.2, ?_⟩
        rw [inV_ok r1 hf.1 h2 hf.2]
        exact q.val rs RD.mbl
      · unfold deepD at q
        split at q
        · rename_i p qs e1 e2
          split at q
          · rename_i hs
            obtain ⟨as, k1⟩ := Dp.reads I p x v (py_ok rs r1 e1) rx
            obtain ⟨bs, k2⟩ := Dp.reads I (.list qs) y u (py_ok rs r2 e2) ry
            exact SeqAt.notIn_list_reads k2 k1 (SeqAt.canLay_of_shaped hs.2.1) (SeqAt.canLay_of_shaped hs.1) (by have := Nat.min_le_right (PyData.depthAll qs) p.depth; omega) ⟨.bl _, H, I, rfl, q.val rs RD.mbl⟩
          · exact q.elim
        · exact q.elim
    · exact q.elim
end
def cmpD : CmpOp → G2
  | .Eq => eqD
  | .NotEq => neD
  | .Lt => ltD
  | .LtE => intCmp fun i j => decide (i ≤ j)
  | .Gt => intCmp fun i j => decide (j < i)
  | .GtE => intCmp fun i j => decide (j ≤ i)
  | .Is => isD
  | .IsNot => isNotD
  | .In => inD false
  | .NotIn => inD true
theorem oc_cmp {X : Cx} (hu : X.A.units + 64 < cLine) : ∀ op : CmpOp, OpR X (compareOp op) (rOf2 X.K (cmpD op))
  | .Eq => oc_eq hu
  | .NotEq => oc_ne hu
  | .Lt => oc_lt
  | .LtE => oc_int op_le
  | .Gt => oc_int op_gt
  | .GtE => oc_int op_ge
  | .Is => oc_is
  | .IsNot => oc_isNot
  | .In => oc_in hu
  | .NotIn => oc_notIn hu

/-! ### truth -/
def truD : D → SS → Option Bool
  | .non, _ => some false
  | .bl b, _ => some b
  | .int i, _ => some (i != 0)
  | .str y, _ => if y.length ≤ sizeLine then some ((y.length : Int) != 0) else none
  | .tup ds, _ => some (!ds.isEmpty)
  | .rls ds, _ => some (!ds.isEmpty)
  | .ref k, S => match S[k]? with
    | some (.lst ds) => some (!ds.isEmpty)
    | some (.dct ds) => some (!ds.isEmpty)
    | none => none
  | _, _ => none
theorem rds_empty {K : PySem.W.Frag} {ι : List Addr} {H : Hp} {ds : List D} {vs : List V} (r : RDs K H ι ds vs) : ds.isEmpty = vs.isEmpty := by
  cases ds with
  | nil => unfold RDs at r; subst r; rfl
  | cons d ds => unfold RDs at r; obtain ⟨v, vs', rfl, _⟩ := r; rfl
theorem truD_ok {K : PySem.W.Frag} {ι : List Addr} {H : Hp} {S : SS} {d : D} {v : V} {b : Bool} (s : RelS K H ι S) (r : RD K H ι d v) (h : truD d S = some b) : TruV K v H b := by
  cases d with
  | non => rw [r.non]; simp [truD] at h; subst h; rfl
  | bl c => rw [r.bl]; simp [truD] at h; subst h; rfl
  | int c => rw [r.int]; simp [truD] at h; subst h; rfl
  | str c =>
    rw [r.str]
    simp only [truD] at h
    split at h
    · cases h; exact ⟨by assumption, rfl⟩
    · cases h
  | tup ds =>
    obtain ⟨a, vs, rfl, h1, h2⟩ := r.tup
    have h : some (!ds.isEmpty) = some b := h
    cases h
    exact .inr (.inl ⟨vs, h1, by rw [rds_empty h2]⟩)
  | rls ds =>
    obtain ⟨a, vs, rfl, h1, h2⟩ := r.rls
    have h : some (!ds.isEmpty) = some b := h
    cases h
    exact .inl ⟨vs, h1.sq, by rw [rds_empty h2]⟩
  | ref k =>
    simp only [truD] at h
    split at h
    · rename_i ds e
      cases h
      obtain ⟨a, vs, rfl, _, h1, h2⟩ := s.lst e r
      exact .inl ⟨vs, SqL.of h1, by rw [rds_empty h2]⟩
    · rename_i ds e
      cases h
      obtain ⟨a, rfl, q⟩ := r.ref
      obtain ⟨vs, h1, h2⟩ := s.at k _ a e q
      refine .inr (.inr ⟨vs, h1, ?_⟩)
      cases ds with
      | nil => cases h2; rfl
      | cons d ds => obtain ⟨v, vs', rfl, _⟩ := h2; rfl
    · cases h
  | ty n => simp [truD] at h
  | gl n => simp [truD] at h
end DL
set_option Elab.async false
set_option linter.all false
set_option maxRecDepth 100000
/-! DCall: built-in functions and types called upon values as trees. -/
namespace DL
open PySem L2

/-- a built-in by its name: what it is, what it does -/
structure Bi where
  name : Str
  v : Value
  g : GL

/-! ### isinstance -/
def tyD : D → SS → Option String
  | .non, _ => some "NoneType"
  | .bl _, _ => some "bool"
  | .int _, _ => some "int"
  | .str _, _ => some "str"
  | .tup _, _ => some "tuple"
  | .rls _, _ => some "list"
  | .ref k, S => match S[k]? with
    | some (.lst _) => some "list"
    | some (.dct _) => some "dict"
    | none => none
  | _, _ => none
section
variable {K : PySem.W.Frag} {ι : List Addr} {H : Hp} {S : SS}
theorem tyX_sqt {a : Addr} {vs : List V} (h : SqT K H a vs) : TyX K H (.ref a) (.type "tuple") := by
  rcases h with (h | ⟨o, h⟩) | ⟨o, its, n, hk, hc, _⟩
  · exact .base (.tup h)
  · exact .fTuple h
  · exact .kTuple hk hc
theorem tyX_frz {a : Addr} {vs : List V} (h : FrzL K H a vs) : TyX K H (.ref a) (.type "list") := by
  rcases h with ⟨o, h⟩ | ⟨o, its, n, hk, hc, _⟩
  · exact .base (.frz h)
  · exact .kList hk hc
theorem tyD_ok {d : D} {v : V} {T : String} (s : RelS K H ι S) (r : RD K H ι d v) (h : tyD d S = some T) : TyX K H v (.type T) := by
  cases d with
  | non => rw [r.non]; cases h; exact .base .non
  | bl b => rw [r.bl]; cases h; exact .base (.bl b)
  | int b => rw [r.int]; cases h; exact .base (.int b)
  | str b => rw [r.str]; cases h; exact .base (.str b)
  | tup ds => obtain ⟨a, vs, rfl, h1, _⟩ := r.tup; cases h; exact tyX_sqt h1
  | rls ds => obtain ⟨a, vs, rfl, h1, _⟩ := r.rls; cases h; exact tyX_frz h1
  | ref k =>
    simp only [tyD] at h
    split at h
    · rename_i ds e
      cases h
      obtain ⟨a, vs, rfl, _, h1, _⟩ := s.lst e r
      exact .base (.lst h1)
    · rename_i ds e
      cases h
      obtain ⟨a, rfl, q⟩ := r.ref
      obtain ⟨vs, h1, _⟩ := s.at k _ a e q
      exact .base (.dK h1)
    · cases h
  | ty n => cases h
  | gl n => cases h
end
def isiD : GL
  | [d, .ty T], S => match tyD d S with
    | some U => match kitB U T with
      | some b => some (.bl b, S)
      | none => none
    | none => none
  | _, _ => none
section
variable {X : Cx}
theorem cd_isi : CallR X (.builtin "isinstance") (rOfL X.K isiD) := by
  intro pins s σ H xs us Q I r h
  obtain ⟨ι, S, ds, rs, rd, q⟩ := h
  unfold isiD at q
  split at q
  · rename_i _ d T
    split at q
    · rename_i U hU
      split at q
      · rename_i b hb
        unfold RDs at rd
        obtain ⟨v, r', rfl, r1, r2⟩ := rd
        unfold RDs at r2
        obtain ⟨v', r'', rfl, r3, r4⟩ := r2
        unfold RDs at r4
        subst r4
        have e3 := r3.ty
        subst e3
        exact call_isi pins s σ H _ us Q I r ⟨v, .ty T, .type U, .type T, b, rfl, .ty T, tyD_ok rs r1 hU, kit_ty hb, q.val rs RD.mbl⟩
      · exact q.elim
    · exact q.elim
  · exact q.elim
end
theorem kb_int_int : kitB "int" "int" = some true := by decide +kernel
theorem kb_bool_int : kitB "bool" "int" = some true := by decide +kernel
theorem kb_str_int : kitB "str" "int" = some false := by decide +kernel
theorem kb_tup_int : kitB "tuple" "int" = some false := by decide +kernel
theorem kb_lst_int : kitB "list" "int" = some false := by decide +kernel
theorem kb_dct_int : kitB "dict" "int" = some false := by decide +kernel
theorem kb_non_int : kitB "NoneType" "int" = some false := by decide +kernel
theorem kb_int_bool : kitB "int" "bool" = some false := by decide +kernel
theorem kb_bool_bool : kitB "bool" "bool" = some true := by decide +kernel
theorem kb_str_bool : kitB "str" "bool" = some false := by decide +kernel
theorem kb_tup_bool : kitB "tuple" "bool" = some false := by decide +kernel
theorem kb_lst_bool : kitB "list" "bool" = some false := by decide +kernel
theorem kb_dct_bool : kitB "dict" "bool" = some false := by decide +kernel
theorem kb_non_bool : kitB "NoneType" "bool" = some false := by decide +kernel
theorem kb_int_str : kitB "int" "str" = some false := by decide +kernel
theorem kb_bool_str : kitB "bool" "str" = some false := by decide +kernel
theorem kb_str_str : kitB "str" "str" = some true := by decide +kernel
theorem kb_tup_str : kitB "tuple" "str" = some false := by decide +kernel
theorem kb_lst_str : kitB "list" "str" = some false := by decide +kernel
theorem kb_dct_str : kitB "dict" "str" = some false := by decide +kernel
theorem kb_non_str : kitB "NoneType" "str" = some false := by decide +kernel
theorem kb_int_tup : kitB "int" "tuple" = some false := by decide +kernel
theorem kb_bool_tup : kitB "bool" "tuple" = some false := by decide +kernel
theorem kb_str_tup : kitB "str" "tuple" = some false := by decide +kernel
theorem kb_tup_tup : kitB "tuple" "tuple" = some true := by decide +kernel
theorem kb_lst_tup : kitB "list" "tuple" = some false := by decide +kernel
theorem kb_dct_tup : kitB "dict" "tuple" = some false := by decide +kernel
theorem kb_non_tup : kitB "NoneType" "tuple" = some false := by decide +kernel

/-! ### one argument -/
def one (g : G1) : GL
  | [d], S => g d S
  | _, _ => none
theorem rds1 {K : PySem.W.Frag} {ι : List Addr} {H : Hp} {d : D} {vs : List V} (r : RDs K H ι [d] vs) : ∃ v, vs = [v] ∧ RD K H ι d v := by
  unfold RDs at r
  obtain ⟨v, r', rfl, r1, r2⟩ := r
  unfold RDs at r2
  subst r2
  exact ⟨v, rfl, r1⟩
theorem rds2 {K : PySem.W.Frag} {ι : List Addr} {H : Hp} {d e : D} {vs : List V} (r : RDs K H ι [d, e] vs) : ∃ v u, vs = [v, u] ∧ RD K H ι d v ∧ RD K H ι e u := by
  unfold RDs at r
  obtain ⟨v, r', rfl, r1, r2⟩ := r
  obtain ⟨u, rfl, r3⟩ := rds1 r2
  exact ⟨v, u, rfl, r1, r3⟩
def CallR1 (X : Cx) (f : Value) (r : V → Hp → VK → Prop) : Prop :=
  ∀ (pins : List (Addr × Obj)) (s : Shared) (σ : St) (H : Hp) (x : V) (u : Value) (Q : VK), L2.Inv X pins σ H s → RelV x u → r x H Q → wpAny (model X.prog X.w) X.A (call f [u]) (EP X pins σ Q) X.xe s
theorem CallR1.lift {X : Cx} {f : Value} {g : G1} (h : CallR1 X f (rOf1 X.K g)) : CallR X f (rOfL X.K (one g)) := by
  intro pins s σ H xs us Q I r q
  obtain ⟨ι, S, ds, rs, rd, q⟩ := q
  unfold one at q
  split at q
  · obtain ⟨v, rfl, r1⟩ := rds1 rd
    obtain ⟨u, rfl, r2⟩ := vals1 r
    exact h pins s σ H v u Q I r2 ⟨ι, S, _, rs, r1, q⟩
  · exact q.elim

def absD : G1
  | .int i, S => some (.int (if i < 0 then -i else i), S)
  | _, _ => none
def intD : G1
  | .int i, S => some (.int i, S)
  | .bl k, S => some (.int (if k then 1 else 0), S)
  | _, _ => none
def strD : G1
  | .int i, S => if i.natAbs.log2 < 1920 then some (.str (toString i : String), S) else none
  | _, _ => none
def lenD : G1 := fun d S => match d with
  | .str z => if z.length ≤ sizeLine then some (.int z.length, S) else none
  | d => match seqD d S with
    | some ds => some (.int ds.length, S)
    | none => none
def tupleD : G1 := fun d S => match seqD d S with
    | some ds => some (.tup ds, S)
    | none => none
def listD : G1 := fun d S => match seqD d S with
    | some ds => some (.ref S.length, S ++ [.lst ds])
    | none => none
/-- all items bools -/
def blsD : List D → Option (List Bool)
  | [] => some []
  | .bl b :: r => (blsD r).map (b :: ·)
  | _ => none
def intsD : List D → Option (List Int)
  | [] => some []
  | .int b :: r => (intsD r).map (b :: ·)
  | _ => none
/-- the items of a list of the store -/
def itemsD (d : D) (S : SS) : Option (List D) := match d with
  | .ref k => match S[k]? with
    | some (.lst ds) => some ds
    | _ => none
  | .rls ds => some ds
  | _ => none
def allD : G1 := fun d S => match itemsD d S with
  | some ds => match blsD ds with
    | some bs => some (.bl (bs.all id), S)
    | none => none
  | none => none
def anyD : G1 := fun d S => match itemsD d S with
  | some ds => match blsD ds with
    | some bs => some (.bl (bs.any id), S)
    | none => none
  | none => none
def sumD : G1 := fun d S => match d with
  | .tup ds => match intsD ds with
    | some ns => some (.int ns.sum, S)
    | none => none
  | d => match itemsD d S with
  | some ds => match intsD ds with
    | some ns => some (.int ns.sum, S)
    | none => none
  | none => none
/-- repr -/
def reprOk (p : PyData) : Prop := p.showable = true ∧ p.canLay0 = true ∧ p.depth ≤ 60 ∧ p.shown.length ≤ sizeLine
instance (p : PyData) : Decidable (reprOk p) := by unfold reprOk; infer_instance
def reprD : G1 := fun d S => match py S d with
  | some p => if reprOk p then some (.str p.shown, S) else none
  | none => none
section
variable {K : PySem.W.Frag} {ι : List Addr} {H : Hp} {S : SS}
theorem itemsD_ok {d : D} {v : V} {ds : List D} (s : RelS K H ι S) (r : RD K H ι d v) (h : itemsD d S = some ds) : ∃ a vs, v = .ref a ∧ SqL K H a vs ∧ RDs K H ι ds vs := by
  cases d with
  | ref k =>
    have h : (match S[k]? with | some (.lst ds) => some ds | _ => none) = some ds := h
    split at h
    · rename_i es e
      cases h
      obtain ⟨a, vs, h1, h2, h3, h4⟩ := s.lst e r
      exact ⟨a, vs, h1, SqL.of h3, h4⟩
    · cases h
  | rls es =>
    have : es = ds := by simpa [itemsD] using h
    subst this
    obtain ⟨a, vs, h1, h2, h3⟩ := r.rls
    exact ⟨a, vs, h1, h2.sq, h3⟩
  | _ => simp [itemsD] at h
theorem blsD_ok : ∀ {ds : List D} {vs : List V} {bs : List Bool}, RDs K H ι ds vs → blsD ds = some bs → vs = bs.map V.bl := by
  intro ds
  induction ds with
  | nil => intro vs bs r h; cases h; unfold RDs at r; exact r
  | cons d ds ih =>
    intro vs bs r h
    cases d with
    | bl b =>
      have h2 : (blsD ds).map (b :: ·) = some bs := h
      rw [Option.map_eq_some_iff] at h2
      obtain ⟨cs, h3, rfl⟩ := h2
      unfold RDs at r
      obtain ⟨v, r', rfl, r1, r2⟩ := r
      rw [r1.bl, ih r2 h3]
      rfl
    | _ => cases h
theorem intsD_ok : ∀ {ds : List D} {vs : List V} {bs : List Int}, RDs K H ι ds vs → intsD ds = some bs → vs = bs.map V.int := by
  intro ds
  induction ds with
  | nil => intro vs bs r h; cases h; unfold RDs at r; exact r
  | cons d ds ih =>
    intro vs bs r h
    cases d with
    | int b =>
      have h2 : (intsD ds).map (b :: ·) = some bs := h
      rw [Option.map_eq_some_iff] at h2
      obtain ⟨cs, h3, rfl⟩ := h2
      unfold RDs at r
      obtain ⟨v, r', rfl, r1, r2⟩ := r
      rw [r1.int, ih r2 h3]
      rfl
    | _ => cases h
end
section
variable {X : Cx}
theorem cd_abs : CallR1 X (.builtin "abs") (rOf1 X.K absD) := by
  intro pins s σ H x u Q I r h
  obtain ⟨ι, S, d, rs, rd, q⟩ := h
  unfold absD at q
  split at q
  · rw [rd.int] at r
    exact call_abs pins s σ H _ _ Q I (.cons r .nil) ⟨_, rfl, q.val rs RD.mint⟩
  · exact q.elim
theorem cd_int : CallR1 X (.type "int") (rOf1 X.K intD) := by
  intro pins s σ H x u Q I r h
  obtain ⟨ι, S, d, rs, rd, q⟩ := h
  unfold intD at q
  split at q
  · rw [rd.int] at r
    exact call_int1 pins s σ H _ _ Q I (.cons r .nil) (.inl ⟨_, rfl, q.val rs RD.mint⟩)
  · rw [rd.bl] at r
    exact call_int1 pins s σ H _ _ Q I (.cons r .nil) (.inr ⟨_, rfl, q.val rs RD.mint⟩)
  · exact q.elim
theorem cd_str : CallR1 X (.type "str") (rOf1 X.K strD) := by
  intro pins s σ H x u Q I r h
  obtain ⟨ι, S, d, rs, rd, q⟩ := h
  unfold strD at q
  split at q
  · split at q
    · rw [rd.int] at r
      exact call_str_int pins s σ H _ _ Q I (.cons r .nil) ⟨_, rfl, by assumption, q.val rs RD.mstr⟩
    · exact q.elim
  · exact q.elim
theorem cd_len : CallR1 X (.builtin "len") (rOf1 X.K lenD) := by
  intro pins s σ H x u Q I r h
  obtain ⟨ι, S, d, rs, rd, q⟩ := h
  unfold lenD at q
  split at q
  · split at q
    · rw [rd.str] at r
      exact call_len_str pins s σ H _ _ Q I (.cons r .nil) ⟨_, rfl, by assumption, q.val rs RD.mint⟩
    · exact q.elim
  · split at q
    · rename_i ds hs
      obtain ⟨a, vs, rfl, h1, h2⟩ := seqD_ok rs rd hs
      refine call_len_seq pins s σ H _ _ Q I (.cons r .nil) ⟨a, vs, rfl, h1, ?_⟩
      rw [← h2.length]
      exact q.val rs RD.mint
    · exact q.elim
theorem cd_tuple : CallR1 X (.type "tuple") (rOf1 X.K tupleD) := by
  intro pins s σ H x u Q I r h
  obtain ⟨ι, S, d, rs, rd, q⟩ := h
  unfold tupleD at q
  split at q
  · rename_i ds hs
    obtain ⟨a, vs, rfl, h1, h2⟩ := seqD_ok rs rd hs
    rcases h1 with h1 | h1
    · exact call_tuple_of pins s σ H _ _ Q I (.cons r .nil) ⟨a, vs, rfl, .inl ⟨h1, fun p hp => q.newT rs h2 hp⟩⟩
    · exact call_tuple_of pins s σ H _ _ Q I (.cons r .nil) ⟨a, vs, rfl, .inr ⟨h1, q.val rs (by unfold RD; exact ⟨a, vs, rfl, h1, h2⟩)⟩⟩
  · exact q.elim
theorem cd_list : CallR1 X (.type "list") (rOf1 X.K listD) := by
  intro pins s σ H x u Q I r h
  obtain ⟨ι, S, d, rs, rd, q⟩ := h
  unfold listD at q
  split at q
  · rename_i ds hs
    obtain ⟨a, vs, rfl, h1, h2⟩ := seqD_ok rs rd hs
    exact call_list_of pins s σ H _ _ Q I (.cons r .nil) ⟨a, vs, rfl, h1, fun p hp => q.newL rs h2 hp⟩
  · exact q.elim
theorem cd_all (hc : X.calm = true) : CallR1 X (.builtin "all") (rOf1 X.K allD) := by
  intro pins s σ H x u Q I r h
  obtain ⟨ι, S, d, rs, rd, q⟩ := h
  unfold allD at q
  split at q
  · rename_i ds hs
    split at q
    · rename_i bs hb
      obtain ⟨a, vs, rfl, h1, h2⟩ := itemsD_ok rs rd hs
      rw [blsD_ok h2 hb] at h1
      exact cr_all hc pins s σ H _ _ Q I (.cons r .nil) ⟨a, bs, rfl, h1, q.val rs RD.mbl⟩
    · exact q.elim
  · exact q.elim
theorem cd_any (hc : X.calm = true) : CallR1 X (.builtin "any") (rOf1 X.K anyD) := by
  intro pins s σ H x u Q I r h
  obtain ⟨ι, S, d, rs, rd, q⟩ := h
  unfold anyD at q
  split at q
  · rename_i ds hs
    split at q
    · rename_i bs hb
      obtain ⟨a, vs, rfl, h1, h2⟩ := itemsD_ok rs rd hs
      rw [blsD_ok h2 hb] at h1
      exact cr_any hc pins s σ H _ _ Q I (.cons r .nil) ⟨a, bs, rfl, h1, q.val rs RD.mbl⟩
    · exact q.elim
  · exact q.elim
theorem cd_sum (hc : X.calm = true) : CallR1 X (.builtin "sum") (rOf1 X.K sumD) := by
  intro pins s σ H x u Q I r h
  obtain ⟨ι, S, d, rs, rd, q⟩ := h
  unfold sumD at q
  split at q
  · split at q
    · rename_i bs hb
      obtain ⟨a, vs, rfl, h1, h2⟩ := rd.tup
      rw [intsD_ok h2 hb] at h1
      exact cr_sumT hc pins s σ H _ _ Q I (.cons r .nil) ⟨a, bs, rfl, h1, q.val rs RD.mint⟩
    · exact q.elim
  split at q
  · rename_i ds hs
    split at q
    · rename_i bs hb
      obtain ⟨a, vs, rfl, h1, h2⟩ := itemsD_ok rs rd hs
      rw [intsD_ok h2 hb] at h1
      exact cr_sum hc pins s σ H _ _ Q I (.cons r .nil) ⟨a, bs, rfl, h1, q.val rs RD.mint⟩
    · exact q.elim
  · exact q.elim
theorem cd_repr (hg : X.A.guards = some []) (hu : X.A.units + 64 < cLine) : CallR1 X (.builtin "repr") (rOf1 X.K reprD) := by
  intro pins s σ H x u Q I r h
  obtain ⟨ι, S, d, rs, rd, q⟩ := h
  unfold reprD at q
  split at q
  · rename_i p hp
    split at q
    · rename_i ho
      obtain ⟨o1, o0, o2, o3⟩ := ho
      have hd := py_ok rs rd hp
      obtain ⟨as, hr⟩ := Dp.reads I p _ u hd r
      have fin : Q (.str p.shown) H := q.val rs RD.mstr
      cases hd with
      | non => cases r; exact PySem.P.repr_of_none ⟨.str _, H, I.tok _, ⟨_, rfl⟩, fin⟩
      | bl b => cases r; exact PySem.P.repr_of_bool ⟨.str (if b then "True" else "False" : String), H, I.tok _, ⟨_, by cases b <;> rfl⟩, by cases b <;> exact fin⟩
      | int i =>
        obtain ⟨t, rfl⟩ := r
        exact PySem.P.repr_of_int (by simpa [PyData.showable] using o1) ⟨.str _, H, I.tok _, ⟨_, rfl⟩, fin⟩
      | str z =>
        obtain ⟨t, rfl⟩ := r
        exact PySem.P.repr_of_str ⟨.str _, H, I.tok _, ⟨_, rfl⟩, fin⟩ o3
      | lst hs ha =>
        cases r
        exact repr_of_reads' hr o1 (fun z => by rw [PyData.hasDict_of_canLay _ o0] at z; cases z) hg (by omega) (fun _ _ e => e) (fun h' u tk hk => ⟨.str _, H, I.kept hk, ⟨_, rfl⟩, fin⟩) o3
      | tup hs ha =>
        cases r
        exact repr_of_reads' hr o1 (fun z => by rw [PyData.hasDict_of_canLay _ o0] at z; cases z) hg (by omega) (fun _ _ e => e) (fun h' u tk hk => ⟨.str _, H, I.kept hk, ⟨_, rfl⟩, fin⟩) o3
    · exact q.elim
  · exact q.elim
end
end DL
set_option Elab.async false
set_option linter.all false
set_option maxRecDepth 100000
/-! DExpr: what expressions are worth, by their trees; that the machine agrees. -/
namespace DL
open PySem L2

/-! ### a def of the text, by what it does upon values -/
abbrev Fn := List D → SS → R D
def PostF (K : PySem.W.Frag) (ι : List Addr) (H : Hp) (r : R D) (Q : VK) (E : XK) : Prop :=
  match r with
  | .ok x S' => ∀ v H' ι', Gr K H ι H' ι' → RelS K H' ι' S' → RD K H' ι' x v → Q v H'
  | .exc C fs S' => ∀ H' ι' dd fs', Gr K H ι H' ι' → RelS K H' ι' S' → H' dd = some (.xd fs') → RF K H' ι' fs fs' → E (.ref C) (some dd) H'
  | .bad => False
def spD (K : PySem.W.Frag) (f : Fn) (n : Nat) : Sp := fun vs H Q E => vs.length = n ∧ ∃ ι S ds, RelS K H ι S ∧ RDs K H ι ds vs ∧ PostF K ι H (f ds S) Q E
/-- the def at f does what fD says; nothing is being shown by repr meanwhile -/
structure FnG (P : Program) (w : World) (K : PySem.W.Frag) (mg : Str → Option Value) (base : Heap) (k : Nat) (f : Addr) (fd : FuncData) (ps : List Str) (fD : Fn) : Prop where
  go : ∀ (A : Around) (outer : List Env) (s : Shared) (H : Hp) (args : Args) (us : List Value) (vs : List V) (Q : VK) (E : XK), Room k A → A.guards = some [] → Env0 P w K mg base A outer s H →
    BindsTo s fd args (ps.zip us) → Vals vs us → spD K fD ps.length vs H Q E → codeAny (model P w) A (.call (.ref f) args) (CR (L2.CX P w) outer P w H s Q E) s
theorem FnG.up {P : Program} {w : World} {K : PySem.W.Frag} {mg : Str → Option Value} {base : Heap} {j k : Nat} {f : Addr} {fd : FuncData} {ps : List Str} {fD : Fn} (F : FnG P w K mg base j f fd ps fD) (h : j ≤ k) : FnG P w K mg base k f fd ps fD :=
  ⟨fun A outer s H args us vs Q E hr => F.go A outer s H args us vs Q E (hr.mono h)⟩

/-! ### an own class of errors, called -/
/-- at e: an error of the class at C, made anew; its dict, at d, holds mm -/
structure MadeX (h h' : Heap) (e C d t1 : Addr) (mm : Str → Option Value) : Prop where
  keep : ∀ b o, h.get? b = some o → h'.get? b = some o
  new : h.objs.size ≤ e
  obj : h'.get? e = some { cls := .ref C, dict := some d, data := .fields #[.ref t1, .none, .none, .none, .bool false, .none] }
  dnew : ∀ b o, h.get? b = some o → b ≠ d
  dne : d ≠ e
  ns : h'.Ns1 d mm
structure ExcG (P : Program) (w : World) (K : PySem.W.Frag) (mg : Str → Option Value) (base : Heap) (C : Addr) (fs : List Str) : Prop where
  kC : PySem.W.keepIn K (.ref C) = true
  exC : PySem.W.subIn K (.ref C) (.type "BaseException") = some true
  tC : PySem.W.typeIn K (.ref C) = some (.type "type")
  ne : fs ≠ []
  go : ∀ (A : Around) (s : Shared) (us : List Value) (vs : List V) (Q : Value → Shared → Prop) (E : Value → Shared → Prop), Room 1 A → Mod K mg base → (∀ b o, base.get? b = some o → s.heap.get? b = some o) → us.length = fs.length → Vals vs us →
    (∀ h' tk e d t1 mm, MadeX s.heap h' e C d t1 mm → (∀ g, RelO ((fs.zip vs).reverse.lookup g) (mm g)) → Q (.ref e) { s with heap := h', toks := tk }) → wpAny (model P w) A (call (.ref C) us) Q E s

/-! ### what a name of the module means -/
inductive GV where
  /-- an own class of errors -/
  | ex (C : Addr) (fs : List Str)
  | val (d : D)
  | bi (b : Bi)
  | fn (f : Fn) (n : Nat)
  /-- the last parameter may lack -/
  | fnd (f : Fn) (n : Nat) (d : D)
  /-- range, enumerate, zip: only gone through -/
  | it
structure BiOk (b : Bi) : Prop where
  boot : bootBuiltins b.name = some b.v
  kind : (∃ id, b.v = .builtin id) ∨ ∃ T, b.v = .type T
  nm : b.name ≠ "__name__"
  nd : (b.name == ("__debug__" : Str)) = false
  call : ∀ X : Cx, X.calm = true → X.A.guards = some [] → X.A.units + 64 < cLine → CallR X b.v (rOfL X.K b.g)
def GOk (X : Cx) (x : Str) : GV → Prop
  | .val d => (x == ("__debug__" : Str)) = false ∧ ∃ u v, X.mg x = some u ∧ RelV v u ∧ ∀ H ι, RD X.K H ι d v
  | .bi b => b.name = x ∧ X.mg x = none ∧ BiOk b
  | .it => X.mg x = none
  | .ex C fs => (x == ("__debug__" : Str)) = false ∧ X.mg x = some (.ref C) ∧ ExcG X.prog X.w X.K X.mg X.base C fs ∧ Room 1 X.A
  | .fn f n => (x == ("__debug__" : Str)) = false ∧ ∃ fa fd ps k, X.mg x = some (.ref fa) ∧ PySem.W.keepIn X.K (.ref fa) = true ∧ FnG X.prog X.w X.K X.mg X.base k fa fd ps f ∧ ps.length = n ∧ Room k X.A ∧ Binds X.K fd ps []
  | .fnd f n d => (x == ("__debug__" : Str)) = false ∧ ∃ fa fd ps k, X.mg x = some (.ref fa) ∧ PySem.W.keepIn X.K (.ref fa) = true ∧ FnG X.prog X.w X.K X.mg X.base k fa fd ps f ∧ ps.length = n ∧ Room k X.A ∧ Binds X.K fd ps [] ∧ ∃ dv v, Binds X.K fd ps [dv] ∧ RelV v dv ∧ ∀ H ι, RD X.K H ι d v
/-- what is known ahead: the names by slot, the scope, the module's names -/
structure SE where
  N : List Str
  sc : Scope
  fn : Str → Bool
  G : Str → Option GV
structure Ctx (X : Cx) (W : WX) (E : SE) : Prop where
  n : X.N = E.N
  sc : X.env.scope = E.sc
  nd : E.N.Nodup
  calm : X.calm = true
  gd : X.A.guards = some []
  un : X.A.units + 64 < cLine
  tk : Takes X W
  fn : ∀ x, E.fn x = true → X.fn x = true
  g : ∀ x v, E.G x = some v → GOk X x v

/-! ### the forms -/
def eVar (i : Nat) : PEx := fun δ S => match δ[i]? with
  | some (some d) => .ok d S
  | _ => .bad
def eC (d : D) : PEx := fun _ S => .ok d S
def eBad : PEx := fun _ _ => .bad
def eOp1 (g : G1) (a : PEx) : PEx := fun δ S => (a δ S).bind fun x S1 => R.ofO (g x S1)
def eOp2 (g : G2) (a b : PEx) : PEx := fun δ S => (a δ S).bind fun x S1 => (b δ S1).bind fun y S2 => R.ofO (g x y S2)
def eIf (t : PTs') (a b : PEx) : PEx := fun δ S => (t δ S).bind fun c S1 => if c = true then a δ S1 else b δ S1
def aNil : PAs := fun _ S => .ok [] S
def aBad : PAs := fun _ _ => .bad
def aCons (a : PEx) (r : PAs) : PAs := fun δ S => (a δ S).bind fun x S1 => (r δ S1).bind fun xs S2 => .ok (x :: xs) S2
def eTup (a : PAs) : PEx := fun δ S => (a δ S).bind fun xs S1 => if xs.length ≤ sizeLine then .ok (.tup xs) S1 else .bad
def eLst (a : PAs) : PEx := fun δ S => (a δ S).bind fun xs S1 => if xs.length ≤ sizeLine then .ok (.ref S1.length) (S1 ++ [.lst xs]) else .bad
def eCB (g : GL) (a : PAs) : PEx := fun δ S => (a δ S).bind fun xs S1 => R.ofO (g xs S1)
def eCall (f : Fn) (n : Nat) (a : PAs) : PEx := fun δ S => (a δ S).bind fun xs S1 => if xs.length = n then f xs S1 else .bad
def negD : G1
  | .int i, S => some (.int (-i), S)
  | _, _ => none
def ofT (r : Option Bool) (S : SS) : R Bool := match r with
  | some b => .ok b S
  | none => .bad
def notD : G1 := fun d S => match truD d S with
  | some b => some (.bl (!b), S)
  | none => none
def eAnd (a b : PEx) : PEx := fun δ S => (a δ S).bind fun x S1 => (ofT (truD x S1) S1).bind fun c S2 => if c = true then b δ S2 else .ok x S2
def eOr (a b : PEx) : PEx := fun δ S => (a δ S).bind fun x S1 => (ofT (truD x S1) S1).bind fun c S2 => if c = true then .ok x S2 else b δ S2
def boolOf : D → Option Bool
  | .bl b => some b
  | _ => none
def eChain (g g' : G2) (a b c : PEx) : PEx := fun δ S => (a δ S).bind fun x S1 => (b δ S1).bind fun y S2 => (R.ofO (g x y S2)).bind fun z S3 => (ofT (boolOf z) S3).bind fun k S4 =>
  if k = true then (c δ S4).bind fun z' S5 => R.ofO (g' y z' S5) else .ok (.bl false) S4
def tTru (a : PEx) : PTs' := fun δ S => (a δ S).bind fun x S1 => ofT (truD x S1) S1
def tVal (a : PEx) : PTs' := fun δ S => (a δ S).bind fun x S1 => ofT (boolOf x) S1
def tNot' (t : PTs') : PTs' := fun δ S => (t δ S).bind fun c S1 => .ok (!c) S1
def tAnd' (t u : PTs') : PTs' := fun δ S => (t δ S).bind fun c S1 => if c = true then u δ S1 else .ok false S1
def tOr' (t u : PTs') : PTs' := fun δ S => (t δ S).bind fun c S1 => if c = true then .ok true S1 else u δ S1
def tIf' (t a b : PTs') : PTs' := fun δ S => (t δ S).bind fun c S1 => if c = true then a δ S1 else b δ S1
def tBad : PTs' := fun _ _ => .bad
def ixD : G2 := fun d e S => match e with
  | .int i => match d with
    | .str z => if z.length ≤ sizeLine then (atI z.cps.toList i).map fun c => (.str ⟨#[c]⟩, S) else none
    | d => match seqD d S with
      | some ds => (atI ds i).map fun x => (x, S)
      | none => none
  | _ => none
def cutD (xs : List D) (lo hi : Option Int) : List D := (xs.drop (HT.sIx xs.length 0 lo)).take (HT.sIx xs.length xs.length hi - HT.sIx xs.length 0 lo)
def slD (lo hi : Option Int) : G1 := fun d S => match d with
  | .str z => if z.length ≤ sizeLine then some (.str (cutS z lo hi), S) else none
  | .tup ds => some (.tup (cutD ds lo hi), S)
  | d => match itemsD d S with
    | some ds => some (.ref S.length, S ++ [.lst (cutD ds lo hi)])
    | none => none
def intOf : D → Option Int
  | .int i => some i
  | _ => none
/-- a slice's part -/
abbrev PO' := Sl → SS → R (Option Int)
def oNone : PO' := fun _ S => .ok none S
def oSome (a : PEx) : PO' := fun δ S => (a δ S).bind fun x S1 => match intOf x with
  | some i => .ok (some i) S1
  | none => .bad
def eSl (a : PEx) (lo hi : PO') : PEx := fun δ S => (a δ S).bind fun x S1 => (lo δ S1).bind fun l S2 => (hi δ S2).bind fun u S3 => R.ofO (slD l u x S3)
/-- [::-1] of a list, of a tuple -/
def revD : G1 := fun d S => match d with
  | .tup ds => some (.tup ds.reverse, S)
  | d => match itemsD d S with
    | some ds => some (.ref S.length, S ++ [.lst ds.reverse])
    | none => none

section
variable {X : Cx} {W : WX} {a b c : Expr} {es : List Expr} {fa fb fc : PEx} {f : PAs} {t u v : PTs'} {pos : Pos}
theorem pe_bad {e : Expr} : PE X e (tOf X.K W eBad) := ⟨fun _ _ _ _ _ _ ⟨_, _, _, _, _, h⟩ => h.elim⟩
theorem pt_bad {e : Expr} : PT X e (tOfT X.K W tBad) := ⟨fun _ _ _ _ _ _ ⟨_, _, _, _, _, h⟩ => h.elim⟩
theorem pw_bad {e : Expr} : PW X e (tOfT X.K W tBad) := ⟨fun _ _ _ _ _ _ _ ⟨_, _, _, _, _, h⟩ => h.elim⟩
theorem pa_bad {e : List Expr} : PA X e (tOfA X.K W aBad) := ⟨fun _ _ _ _ _ _ _ ⟨_, _, _, _, _, h⟩ => h.elim⟩
theorem de_c {d : D} {v : V} {e : Expr} (h : PE X e (tC v)) (r : ∀ H ι, RD X.K H ι d v) : PE X e (tOf X.K W (eC d)) :=
  PE.imp h fun σ H Q ⟨ι, S, δ, rs, ro, q⟩ => q v H ι Gr.refl rs (r H ι)
theorem de_var {i : Nat} {x : Str} (hN : X.N[i]? = some x) (hv : Vis X.env.scope x) (h1 : (x == ("__debug__" : Str)) = false) (h2 : (x == ("__classdict__" : Str)) = false) : PE X (.Name x pos) (tOf X.K W (eVar i)) :=
  PE.imp (pe_var hN hv h1 h2) fun σ H Q ⟨ι, S, δ, rs, ro, q⟩ => by
    unfold eVar at q
    split at q
    · rename_i d hd
      obtain ⟨v, e, r⟩ := ro.2 i d hd
      exact ⟨v, e, q v H ι Gr.refl rs r⟩
    · exact q.elim
theorem de_op1 {g : G1} {e : Expr} {r : V → Hp → VK → Prop} (h : PE X e (fun σ H Q => tOf X.K W fa σ H fun x H1 => r x H1 Q)) (i : ∀ x H Q, rOf1 X.K g x H Q → r x H Q) : PE X e (tOf X.K W (eOp1 g fa)) :=
  PE.imp h fun σ H Q ⟨ι, S, δ, rs, ro, q⟩ => ⟨ι, S, δ, rs, ro, Post.mono (Post.bind (rel := RD X.K) q) fun v H1 ⟨ι1, S1, x, g1, rs1, rx, q1⟩ => i _ _ _ ⟨ι1, S1, x, rs1, rx, q1.ofO⟩⟩
theorem de_op2 {g : G2} {e : Expr} {r : R2} (h : PE X e (tOp r (tOf X.K W fa) (tOf X.K W fb))) (i : ∀ x y H Q, rOf2 X.K g x y H Q → r x y H Q) : PE X e (tOf X.K W (eOp2 g fa fb)) :=
  PE.imp h fun σ H Q ⟨ι, S, δ, rs, ro, q⟩ => ⟨ι, S, δ, rs, ro, Post.mono (Post.bind (rel := RD X.K) q) fun v H1 ⟨ι1, S1, x, g1, rs1, rx, q1⟩ =>
    ⟨ι1, S1, δ, rs1, ro.mono g1, Post.mono (Post.bind (rel := RD X.K) q1) fun v2 H2 ⟨ι2, S2, y, g2, rs2, ry, q2⟩ => i _ _ _ _ ⟨ι2, S2, x, y, rs2, rx.mono g2, ry, q2.ofO⟩⟩⟩
theorem de_bin {op : Operator} (ha : PE X a (tOf X.K W fa)) (hb : PE X b (tOf X.K W fb)) : PE X (.BinOp a op b pos) (tOf X.K W (eOp2 (binD op) fa fb)) :=
  de_op2 (pe_op (od_bin op) ha hb) fun _ _ _ _ h => h
theorem de_neg (ha : PE X a (tOf X.K W fa)) : PE X (.UnaryOp .USub a pos) (tOf X.K W (eOp1 negD fa)) :=
  de_op1 (r := rU fun i => .int (-i)) (pe_un un_neg ha) fun x H Q ⟨ι, S, d, rs, rd, q⟩ => by
    unfold negD at q
    split at q
    · exact ⟨_, rd.int, q.val rs RD.mint⟩
    · exact q.elim
theorem de_not (ha : PE X a (tOf X.K W fa)) : PE X (.UnaryOp .Not a pos) (tOf X.K W (eOp1 notD fa)) :=
  de_op1 (r := fun x H Q => ∃ k, TruV X.K x H k ∧ Q (.bl (!k)) H) (pe_notT ha) fun x H Q ⟨ι, S, d, rs, rd, q⟩ => by
    unfold notD at q
    split at q
    · rename_i k hk
      exact ⟨k, truD_ok rs rd hk, q.val rs RD.mbl⟩
    · exact q.elim
theorem de_if (hc : PT X c (tOfT X.K W t)) (ha : PE X a (tOf X.K W fa)) (hb : PE X b (tOf X.K W fb)) : PE X (.IfExp c a b pos) (tOf X.K W (eIf t fa fb)) :=
  PE.imp (pe_ifExp hc ha hb) fun σ H Q ⟨ι, S, δ, rs, ro, q⟩ => ⟨ι, S, δ, rs, ro, Post.mono (Post.bind (rel := rB) q) fun k H1 ⟨ι1, S1, k', g1, rs1, e, q1⟩ => by
    have e : k' = k := e
    subst e
    cases k' with
    | true => exact ⟨ι1, S1, δ, rs1, ro.mono g1, q1⟩
    | false => exact ⟨ι1, S1, δ, rs1, ro.mono g1, q1⟩⟩
theorem da_nil : PA X [] (tOfA X.K W aNil) :=
  PA.imp pa_nil fun σ H Q ⟨ι, S, δ, rs, ro, q⟩ => q [] H ι Gr.refl rs RDs.nil
theorem da_cons (ha : PE X a (tOf X.K W fa)) (hr : PA X es (tOfA X.K W f)) (hs : starEach (a :: es) X.env = (false, eval a X.env) :: starEach es X.env) : PA X (a :: es) (tOfA X.K W (aCons fa f)) :=
  PA.imp (pa_cons ha hr hs) fun σ H Q ⟨ι, S, δ, rs, ro, q⟩ => ⟨ι, S, δ, rs, ro, Post.mono (Post.bind (rel := RD X.K) q) fun v H1 ⟨ι1, S1, x, g1, rs1, rx, q1⟩ =>
    ⟨ι1, S1, δ, rs1, ro.mono g1, Post.mono (Post.bind (rel := RDs X.K) q1) fun vs H2 ⟨ι2, S2, xs, g2, rs2, rxs, q2⟩ => q2 _ H2 ι2 Gr.refl rs2 (RDs.cons (rx.mono g2) rxs)⟩⟩
theorem de_tup {n : Nat} (h : PA X es (tOfA X.K W f)) : PE X (.Tuple es n pos) (tOf X.K W (eTup f)) :=
  PE.imp (pe_tup h) fun σ H Q ⟨ι, S, δ, rs, ro, q⟩ => ⟨ι, S, δ, rs, ro, Post.mono (Post.bind (rel := RDs X.K) q) fun vs H1 ⟨ι1, S1, xs, g1, rs1, rx, q1⟩ => by
    split at q1
    · rename_i hl
      refine ⟨by rw [← rx.length]; exact hl, fun p hp => ?_⟩
      exact PostN.newT (K := X.K) (ι := ι1) (S := S1) (ds := xs) (Q := Q) q1 rs1 rx hp
    · exact q1.elim⟩
theorem de_lst (h : PA X es (tOfA X.K W f)) : PE X (.List es pos) (tOf X.K W (eLst f)) :=
  PE.imp (pe_lst h) fun σ H Q ⟨ι, S, δ, rs, ro, q⟩ => ⟨ι, S, δ, rs, ro, Post.mono (Post.bind (rel := RDs X.K) q) fun vs H1 ⟨ι1, S1, xs, g1, rs1, rx, q1⟩ => by
    split at q1
    · rename_i hl
      refine ⟨by rw [← rx.length]; exact hl, fun p hp => ?_⟩
      exact PostN.newL (K := X.K) (ι := ι1) (S := S1) (ds := xs) (Q := Q) q1 rs1 rx hp
    · exact q1.elim⟩
theorem Post.ofT {K : PySem.W.Frag} {ι : List Addr} {H : Hp} {σ : St} {r : Option Bool} {S : SS} {Q : Bool → Hp → Prop} (h : Post rB K W ι H σ (ofT r S) Q) (s : RelS K H ι S) : ∃ k, r = some k ∧ Q k H := by
  cases r with
  | none => exact h.elim
  | some k => exact ⟨k, rfl, h k H ι Gr.refl s rfl⟩
theorem Post.ofTb {α β : Type} {rel : Hp → List Addr → α → β → Prop} {K : PySem.W.Frag} {ι : List Addr} {H : Hp} {σ : St} {r : Option Bool} {S : SS} {k : Bool → SS → R α} {Q : β → Hp → Prop} (h : Post rel K W ι H σ ((DL.ofT r S).bind k) Q) : ∃ b, r = some b ∧ Post rel K W ι H σ (k b S) Q := by
  cases r with
  | none => exact h.elim
  | some b => exact ⟨b, rfl, h⟩
theorem de_and {rest : List Expr} (ha : PE X a (tOf X.K W fa)) (hb : PE X (.BoolOp .And (b :: rest) pos) (tOf X.K W fb)) : PE X (.BoolOp .And (a :: b :: rest) pos) (tOf X.K W (eAnd fa fb)) :=
  PE.imp (pe_andT ha hb) fun σ H Q ⟨ι, S, δ, rs, ro, q⟩ => ⟨ι, S, δ, rs, ro, Post.mono (Post.bind (rel := RD X.K) q) fun v H1 ⟨ι1, S1, x, g1, rs1, rx, q1⟩ => by
    obtain ⟨k, e, q2⟩ := q1.ofTb
    refine ⟨k, truD_ok rs1 rx e, ?_⟩
    cases k with
    | true => exact ⟨ι1, S1, δ, rs1, ro.mono g1, q2⟩
    | false => exact q2 v H1 ι1 Gr.refl rs1 rx⟩
theorem de_or {rest : List Expr} (ha : PE X a (tOf X.K W fa)) (hb : PE X (.BoolOp .Or (b :: rest) pos) (tOf X.K W fb)) : PE X (.BoolOp .Or (a :: b :: rest) pos) (tOf X.K W (eOr fa fb)) :=
  PE.imp (pe_orT ha hb) fun σ H Q ⟨ι, S, δ, rs, ro, q⟩ => ⟨ι, S, δ, rs, ro, Post.mono (Post.bind (rel := RD X.K) q) fun v H1 ⟨ι1, S1, x, g1, rs1, rx, q1⟩ => by
    obtain ⟨k, e, q2⟩ := q1.ofTb
    refine ⟨k, truD_ok rs1 rx e, ?_⟩
    cases k with
    | true => exact q2 v H1 ι1 Gr.refl rs1 rx
    | false => exact ⟨ι1, S1, δ, rs1, ro.mono g1, q2⟩⟩
theorem de_cmp {op : CmpOp} (hu : X.A.units + 64 < cLine) (ha : PE X a (tOf X.K W fa)) (hb : PE X b (tOf X.K W fb)) (hm : behindInMarks op b = false) : PE X (.Compare a [op] [b] pos) (tOf X.K W (eOp2 (cmpD op) fa fb)) :=
  de_op2 (pe_cmpR (oc_cmp hu op) ha hb hm) fun _ _ _ _ h => h
theorem boolOf_ok {K : PySem.W.Frag} {ι : List Addr} {H : Hp} {d : D} {v : V} {k : Bool} (r : RD K H ι d v) (h : boolOf d = some k) : v = .bl k := by
  cases d with
  | bl b => cases h; exact r.bl
  | _ => cases h
theorem dt_val (hx : PT X c (tTest (tOf X.K W fa))) : PT X c (tOfT X.K W (tVal fa)) :=
  PT.imp hx fun σ H Q ⟨ι, S, δ, rs, ro, q⟩ => ⟨ι, S, δ, rs, ro, Post.mono (Post.bind (rel := RD X.K) q) fun v H1 ⟨ι1, S1, x, g1, rs1, rx, q1⟩ => by
    obtain ⟨k, e, q2⟩ := q1.ofT rs1
    exact ⟨k, boolOf_ok rx e, q2⟩⟩
theorem PostN.imp {K : PySem.W.Frag} {ι : List Addr} {H : Hp} {r : Option (D × SS)} {Q Q' : VK} (h : PostN K ι H r Q) (i : ∀ v H', Q v H' → Q' v H') : PostN K ι H r Q' := by
  cases r with
  | none => exact h
  | some p => exact fun v H' ι' g s q => i _ _ (h v H' ι' g s q)
theorem dt_cmp {op : CmpOp} (hu : X.A.units + 64 < cLine) (ha : PE X a (tOf X.K W fa)) (hb : PE X b (tOf X.K W fb)) (hm : behindInMarks op b = false) : PT X (.Compare a [op] [b] pos) (tOfT X.K W (tVal (eOp2 (cmpD op) fa fb))) := by
  refine PT.imp (pt_cmpR (oc_cmp hu op) ha hb hm) fun σ H Q ⟨ι, S, δ, rs, ro, q⟩ => ?_
  refine ⟨ι, S, δ, rs, ro, ?_⟩
  have q0 : Post rB X.K W ι H σ ((fa δ S).bind fun x S1 => ((fb δ S1).bind fun y S2 => R.ofO (cmpD op x y S2)).bind fun x S1 => ofT (boolOf x) S1) Q := by
    have e : tVal (eOp2 (cmpD op) fa fb) δ S = ((fa δ S).bind fun x S1 => ((fb δ S1).bind fun y S2 => R.ofO (cmpD op x y S2)).bind fun x S1 => ofT (boolOf x) S1) := by
      unfold tVal eOp2
      cases fa δ S <;> rfl
    rw [e] at q
    exact q
  refine Post.mono (Post.bind (rel := RD X.K) q0) fun v H1 ⟨ι1, S1, x, g1, rs1, rx, q1⟩ => ⟨ι1, S1, δ, rs1, ro.mono g1, ?_⟩
  have q2 : Post rB X.K W ι1 H1 σ ((fb δ S1).bind fun y S2 => (R.ofO (cmpD op x y S2)).bind fun x S1 => ofT (boolOf x) S1) Q := by
    have e : ((fb δ S1).bind fun y S2 => R.ofO (cmpD op x y S2)).bind (fun x S1 => ofT (boolOf x) S1) = ((fb δ S1).bind fun y S2 => (R.ofO (cmpD op x y S2)).bind fun x S1 => ofT (boolOf x) S1) := by
      cases fb δ S1 <;> rfl
    rw [e] at q1
    exact q1
  refine Post.mono (Post.bind (rel := RD X.K) q2) fun v2 H2 ⟨ι2, S2, y, g2, rs2, ry, q3⟩ => ⟨ι2, S2, x, y, rs2, rx.mono g2, ry, ?_⟩
  have q4 := Post.bind (rel := RD X.K) q3
  refine PostN.imp q4.ofO fun v3 H3 ⟨ι3, S3, z, g3, rs3, rz, q5⟩ => ?_
  obtain ⟨k, e, q6⟩ := q5.ofT rs3
  exact ⟨k, boolOf_ok rz e, q6⟩
theorem dt_truth (ha : PE X a (tOf X.K W fa)) (he : ∀ whole, isTrue a X.env whole = (do let v ← whole; standAt a.pos; holding [v] (truthy v))) : PT X a (tOfT X.K W (tTru fa)) :=
  PT.imp (pt_truth ha he) fun σ H Q ⟨ι, S, δ, rs, ro, q⟩ => ⟨ι, S, δ, rs, ro, Post.mono (Post.bind (rel := RD X.K) q) fun v H1 ⟨ι1, S1, x, g1, rs1, rx, q1⟩ => by
    obtain ⟨k, e, q2⟩ := q1.ofT rs1
    exact ⟨k, truD_ok rs1 rx e, q2⟩⟩
theorem dt_not (ha : PT X a (tOfT X.K W t)) : PT X (.UnaryOp .Not a pos) (tOfT X.K W (tNot' t)) :=
  PT.imp (pt_not ha) fun σ H Q ⟨ι, S, δ, rs, ro, q⟩ => ⟨ι, S, δ, rs, ro, Post.mono (Post.bind (rel := rB) q) fun k H1 ⟨ι1, S1, k', g1, rs1, e, q1⟩ => by
    have e : k' = k := e
    subst e
    exact q1 _ H1 ι1 Gr.refl rs1 rfl⟩
theorem dw_and {rest : List Expr} (ha : PT X a (tOfT X.K W t)) (hb : PW X (.BoolOp .And (b :: rest) pos) (tOfT X.K W u)) : PW X (.BoolOp .And (a :: b :: rest) pos) (tOfT X.K W (tAnd' t u)) := by
  refine ⟨fun wh pins s σ H Q I ⟨ι, S, δ, rs, ro, q⟩ => (pw_and ha hb).run wh pins s σ H Q I ⟨ι, S, δ, rs, ro, Post.mono (Post.bind (rel := rB) q) fun k H1 ⟨ι1, S1, k', g1, rs1, e, q1⟩ => ?_⟩⟩
  have e : k' = k := e
  subst e
  cases k' with
  | true => exact ⟨ι1, S1, δ, rs1, ro.mono g1, q1⟩
  | false => exact q1 _ H1 ι1 Gr.refl rs1 rfl
theorem dw_or {rest : List Expr} (ha : PT X a (tOfT X.K W t)) (hb : PW X (.BoolOp .Or (b :: rest) pos) (tOfT X.K W u)) : PW X (.BoolOp .Or (a :: b :: rest) pos) (tOfT X.K W (tOr' t u)) := by
  refine ⟨fun wh pins s σ H Q I ⟨ι, S, δ, rs, ro, q⟩ => (pw_or ha hb).run wh pins s σ H Q I ⟨ι, S, δ, rs, ro, Post.mono (Post.bind (rel := rB) q) fun k H1 ⟨ι1, S1, k', g1, rs1, e, q1⟩ => ?_⟩⟩
  have e : k' = k := e
  subst e
  cases k' with
  | true => exact q1 _ H1 ι1 Gr.refl rs1 rfl
  | false => exact ⟨ι1, S1, δ, rs1, ro.mono g1, q1⟩
end
end DL
set_option Elab.async false
set_option linter.all false
set_option maxRecDepth 100000
/-! DExpr2: chains, calls, subscripts, what is gone through, comprehensions. -/
namespace DL
open PySem L2
section
variable {X : Cx} {W : WX} {a b c : Expr} {es : List Expr} {fa fb fc : PEx} {f : PAs} {t u v : PTs'} {pos : Pos}
/-- a test that is a bool's value -/
theorem tVal_of {σ : St} {H : Hp} {Q : Bool → Hp → Prop} (h : tOfT X.K W (tVal fa) σ H Q) : tOf X.K W fa σ H fun x H1 => ∃ k, x = .bl k ∧ Q k H1 := by
  obtain ⟨ι, S, δ, rs, ro, q⟩ := h
  refine ⟨ι, S, δ, rs, ro, Post.mono (Post.bind (rel := RD X.K) q) fun v H1 ⟨ι1, S1, x, g1, rs1, rx, q1⟩ => ?_⟩
  obtain ⟨k, e, q2⟩ := q1.ofT rs1
  exact ⟨k, boolOf_ok rx e, q2⟩
theorem i_chain {op op' : CmpOp} {σ : St} {H : Hp} {Q : VK} (h : tOf X.K W (eChain (cmpD op) (cmpD op') fa fb fc) σ H Q) : tChain (rOf2 X.K (cmpD op)) (rOf2 X.K (cmpD op')) (tOf X.K W fa) (tOf X.K W fb) (tOf X.K W fc) σ H Q := by
  obtain ⟨ι, S, δ, rs, ro, q⟩ := h
  refine ⟨ι, S, δ, rs, ro, Post.mono (Post.bind (rel := RD X.K) q) fun v H1 ⟨ι1, S1, x, g1, rs1, rx, q1⟩ => ⟨ι1, S1, δ, rs1, ro.mono g1, ?_⟩⟩
  refine Post.mono (Post.bind (rel := RD X.K) q1) fun v2 H2 ⟨ι2, S2, y, g2, rs2, ry, q2⟩ => ⟨ι2, S2, x, y, rs2, rx.mono g2, ry, ?_⟩
  refine PostN.imp (Post.bind (rel := RD X.K) q2).ofO fun v3 H3 ⟨ι3, S3, z, g3, rs3, rz, q3⟩ => ?_
  obtain ⟨k, e, q4⟩ := q3.ofTb
  refine ⟨k, boolOf_ok rz e, ?_⟩
  cases k with
  | true =>
    refine ⟨ι3, S3, δ, rs3, (ro.mono g1).mono (g2.trans g3), Post.mono (Post.bind (rel := RD X.K) q4) fun v4 H4 ⟨ι4, S4, z', g4, rs4, rz', q5⟩ => ?_⟩
    exact ⟨ι4, S4, y, z', rs4, (ry.mono g3).mono g4, rz', q5.ofO⟩
  | false => exact q4 _ H3 ι3 Gr.refl rs3 RD.mbl
theorem de_chain {op op' : CmpOp} (hu : X.A.units + 64 < cLine) (ha : PE X a (tOf X.K W fa)) (hb : PE X b (tOf X.K W fb)) (hc : PE X c (tOf X.K W fc)) (hm : lastMarks [op, op'] [b, c] = false) : PE X (.Compare a [op, op'] [b, c] pos) (tOf X.K W (eChain (cmpD op) (cmpD op') fa fb fc)) :=
  PE.imp (pe_chain (oc_cmp hu op) (oc_cmp hu op') ha hb hc hm) fun _ _ _ h => i_chain h
theorem dt_chain {op op' : CmpOp} (hu : X.A.units + 64 < cLine) (ha : PE X a (tOf X.K W fa)) (hb : PE X b (tOf X.K W fb)) (hc : PE X c (tOf X.K W fc)) (hm : lastMarks [op, op'] [b, c] = false) : PT X (.Compare a [op, op'] [b, c] pos) (tOfT X.K W (tVal (eChain (cmpD op) (cmpD op') fa fb fc))) :=
  PT.imp (pt_chain (oc_cmp hu op) (oc_cmp hu op') ha hb hc hm) fun _ _ _ h => i_chain (tVal_of h)

/-! ### calls -/
theorem de_cb {B : Bi} {e : Expr} {p : Pos} {x : Str} (hB : BiOk B) (hx : B.name = x) (hm : X.mg x = none) (hg : Gl X x) (hc : X.calm = true) (gd : X.A.guards = some []) (hu : X.A.units + 64 < cLine) (ha : PA X (e :: es) (tOfA X.K W f))
    (he : starEach (e :: es) X.env = (false, eval e X.env) :: starEach es X.env) (hpl : (backTo pos (starEach es X.env)).any (·.1) = false) : PE X (.Call (.Name x p) (e :: es) [] pos) (tOf X.K W (eCB B.g f)) := by
  subst hx
  have hk := hB.call X hc gd hu
  have hb := hB.boot
  have i : ∀ σ H Q, tOf X.K W (eCB B.g f) σ H Q → tCB (rOfL X.K B.g) (tOfA X.K W f) σ H Q := fun σ H Q ⟨ι, S, δ, rs, ro, q⟩ =>
    ⟨ι, S, δ, rs, ro, Post.mono (Post.bind (rel := RDs X.K) q) fun vs H1 ⟨ι1, S1, xs, g1, rs1, rx, q1⟩ => ⟨ι1, S1, xs, rs1, rx, q1.ofO⟩⟩
  rcases hB.kind with ⟨id, e1⟩ | ⟨T, e1⟩
  · rw [e1] at hk hb
    exact PE.imp (pe_callB hk hg hm hb ha hB.nm hB.nd he hpl) i
  · rw [e1] at hk hb
    exact PE.imp (pe_callTy hk hg hm hb ha hB.nm hB.nd he hpl) i
theorem run_G {pins : List (Addr × Obj)} {σ : St} {H : Hp} {s : Shared} {Q : VK} {us : List Value} {vs : List V} {k : Nat} {fa : Addr} {fd : FuncData} {ps : List Str} {g : Fn} (F : FnG X.prog X.w X.K X.mg X.base k fa fd ps g) (room : Room k X.A) (gd : X.A.guards = some []) (bi : Binds X.K fd ps []) (tk : Takes X W)
    (I : L2.Inv X pins σ H s) (r : Vals vs us) (h : spD X.K g ps.length vs H Q (WE W σ)) : wpAny (model X.prog X.w) X.A (call (.ref fa) us) (EP X pins σ Q) X.xe s := by
  have len : us.length = ps.length := r.length ▸ h.1
  have bound := bi s us I.kIn (by simpa using len)
  rw [List.append_nil] at bound
  refine wpAny_call (codeAny_mono (F.go X.A X.stack s H ⟨us, []⟩ us vs Q (WE W σ) room gd I.env0 bound r h) fun res s' hq => ?_)
  match res, hq with
  | .error e, hq => exact passAt tk σ pins H s e s' I hq
  | .ok (.ret u), hq => exact I.after hq
theorem run_Gd {pins : List (Addr × Obj)} {σ : St} {H : Hp} {s : Shared} {Q : VK} {us : List Value} {vs : List V} {k n : Nat} {fa : Addr} {fd : FuncData} {ps : List Str} {g : Fn} {d : D} {dv : Value} {v : V} (F : FnG X.prog X.w X.K X.mg X.base k fa fd ps g) (room : Room k X.A) (gd : X.A.guards = some []) (bi : Binds X.K fd ps [dv]) (rv : RelV v dv) (hd : ∀ H ι, RD X.K H ι d v) (hn : n + 1 = ps.length) (tk : Takes X W)
    (I : L2.Inv X pins σ H s) (r : Vals vs us) (h : spD X.K (fun ds S => g (ds ++ [d]) S) n vs H Q (WE W σ)) : wpAny (model X.prog X.w) X.A (call (.ref fa) us) (EP X pins σ Q) X.xe s := by
  have len : us.length = n := r.length ▸ h.1
  have bound := bi s us I.kIn (by simpa [len] using hn)
  have h' : spD X.K g ps.length (vs ++ [v]) H Q (WE W σ) := by
    obtain ⟨h1, ι, S, ds, rs, rd, q⟩ := h
    exact ⟨by rw [List.length_append, h1]; exact hn, ι, S, ds ++ [d], rs, rd.append (RDs.cons (hd _ _) RDs.nil), q⟩
  refine wpAny_call (codeAny_mono (F.go X.A X.stack s H ⟨us, []⟩ (us ++ [dv]) (vs ++ [v]) Q (WE W σ) room gd I.env0 bound (r.append (.cons rv .nil)) h') fun res s' hq => ?_)
  match res, hq with
  | .error e, hq => exact passAt tk σ pins H s e s' I hq
  | .ok (.ret u), hq => exact I.after hq
theorem i_call {g : Fn} {n : Nat} {σ : St} {H : Hp} {Q : VK} (h : tOf X.K W (eCall g n f) σ H Q) : tOfA X.K W f σ H fun vs H1 => spD X.K g n vs H1 Q (WE W σ) := by
  obtain ⟨ι, S, δ, rs, ro, q⟩ := h
  refine ⟨ι, S, δ, rs, ro, Post.mono (Post.bind (rel := RDs X.K) q) fun vs H1 ⟨ι1, S1, xs, g1, rs1, rx, q1⟩ => ?_⟩
  split at q1
  · rename_i hl
    refine ⟨by rw [← rx.length]; exact hl, ι1, S1, xs, rs1, rx, ?_⟩
    cases hr : g xs S1 with
    | ok d S' => rw [hr] at q1; exact q1
    | exc C fs S' => rw [hr] at q1; exact q1
    | bad => rw [hr] at q1; exact q1
  · exact q1.elim
theorem de_call {k : Nat} {fa : Addr} {fd : FuncData} {ps : List Str} {g : Fn} {e : Expr} {p : Pos} {x : Str} (F : FnG X.prog X.w X.K X.mg X.base k fa fd ps g) (room : Room k X.A) (gd : X.A.guards = some []) (bi : Binds X.K fd ps []) (tk : Takes X W)
    (hg : Gl X x) (hm : X.mg x = some (.ref fa)) (hk : PySem.W.keepIn X.K (.ref fa) = true) (hdb : (x == ("__debug__" : Str)) = false) (ha : PA X (e :: es) (tOfA X.K W f))
    (he : starEach (e :: es) X.env = (false, eval e X.env) :: starEach es X.env) (hpl : (backTo pos (starEach es X.env)).any (·.1) = false) : PE X (.Call (.Name x p) (e :: es) [] pos) (tOf X.K W (eCall g ps.length f)) := by
  refine ⟨fun pins s σ H Q I h => wpAny_Call_Name_kw (ld_glob I hg hm ?_ hdb)⟩
  refine PySem.W.callWith_K (h₀ := X.base) I.ok.mod.kin hk ?_ he hpl
  exact thn (ha.run pos pins s σ H _ I (i_call h)) fun us s1 ⟨vs, H1, I1, r, q⟩ => ⟨I1.kIn, run_G F room gd bi tk I1 r q⟩
theorem de_calld {k n : Nat} {fa : Addr} {fd : FuncData} {ps : List Str} {g : Fn} {d : D} {dv : Value} {v : V} {e : Expr} {p : Pos} {x : Str} (F : FnG X.prog X.w X.K X.mg X.base k fa fd ps g) (room : Room k X.A) (gd : X.A.guards = some []) (bi : Binds X.K fd ps [dv]) (rv : RelV v dv) (hd : ∀ H ι, RD X.K H ι d v) (hn : n + 1 = ps.length) (tk : Takes X W)
    (hg : Gl X x) (hm : X.mg x = some (.ref fa)) (hk : PySem.W.keepIn X.K (.ref fa) = true) (hdb : (x == ("__debug__" : Str)) = false) (ha : PA X (e :: es) (tOfA X.K W f))
    (he : starEach (e :: es) X.env = (false, eval e X.env) :: starEach es X.env) (hpl : (backTo pos (starEach es X.env)).any (·.1) = false) : PE X (.Call (.Name x p) (e :: es) [] pos) (tOf X.K W (eCall (fun ds S => g (ds ++ [d]) S) n f)) := by
  refine ⟨fun pins s σ H Q I h => wpAny_Call_Name_kw (ld_glob I hg hm ?_ hdb)⟩
  refine PySem.W.callWith_K (h₀ := X.base) I.ok.mod.kin hk ?_ he hpl
  exact thn (ha.run pos pins s σ H _ I (i_call h)) fun us s1 ⟨vs, H1, I1, r, q⟩ => ⟨I1.kIn, run_Gd F room gd bi rv hd hn tk I1 r q⟩
theorem de_call0 {k : Nat} {fa : Addr} {fd : FuncData} {g : Fn} {p : Pos} {x : Str} (F : FnG X.prog X.w X.K X.mg X.base k fa fd [] g) (room : Room k X.A) (gd : X.A.guards = some []) (bi : Binds X.K fd [] []) (tk : Takes X W)
    (hg : Gl X x) (hm : X.mg x = some (.ref fa)) (hk : PySem.W.keepIn X.K (.ref fa) = true) (hdb : (x == ("__debug__" : Str)) = false) : PE X (.Call (.Name x p) [] [] pos) (tOf X.K W (eCall g 0 aNil)) := by
  refine ⟨fun pins s σ H Q I h => wpAny_Call_Name_kw (ld_glob I hg hm ?_ hdb)⟩
  obtain ⟨ι, S, δ, rs, ro, q⟩ := i_call h
  refine PySem.W.callWith_K0 I.kIn hk (run_G (us := []) F room gd bi tk I .nil (q [] H ι Gr.refl rs RDs.nil))

/-! ### subscripts -/
theorem atI_ok {K : PySem.W.Frag} {ι : List Addr} {H : Hp} {ds : List D} {vs : List V} {i : Int} {d : D} (r : RDs K H ι ds vs) (h : atI ds i = some d) : ∃ v, atI vs i = some v ∧ RD K H ι d v := by
  unfold atI at h ⊢
  rw [Option.bind_eq_some_iff] at h
  obtain ⟨j, e1, e2⟩ := h
  obtain ⟨v, h1, h2⟩ := r.get e2
  exact ⟨v, by rw [← r.length, e1]; exact h1, h2⟩
theorem rix_of {x y : V} {H : Hp} {Q : VK} (h : rOf2 X.K ixD x y H Q) : rIx X.K x y H Q := by
  obtain ⟨ι, S, d, e, rs, r1, r2, q⟩ := h
  unfold ixD at q
  split at q
  · split at q
    · split at q
      · rename_i hz
        rename_i i _ z
        cases hc : atI z.cps.toList i with
        | none => rw [hc] at q; exact q.elim
        | some c =>
          rw [hc] at q
          exact .inr (.inr ⟨z, i, c, r1.str, r2.int, hz, hc, q.val rs RD.mstr⟩)
      · exact q.elim
    · split at q
      · rename_i i _ _ _ ds hs
        cases hc : atI ds i with
        | none => rw [hc] at q; exact q.elim
        | some c =>
          rw [hc] at q
          obtain ⟨p, vs, rfl, h1, h2⟩ := seqD_ok rs r1 hs
          obtain ⟨v, h3, h4⟩ := atI_ok h2 hc
          rcases h1 with h1 | h1
          · exact .inl ⟨p, vs, i, v, rfl, r2.int, h1, h3, q.val rs h4⟩
          · exact .inr (.inl ⟨p, vs, i, v, rfl, r2.int, h1, h3, q.val rs h4⟩)
      · exact q.elim
  · exact q.elim
theorem de_ix (ha : PE X a (tOf X.K W fa)) (hb : PE X b (tOf X.K W fb)) (hs : PlainIx b) : PE X (.Subscript a b pos) (tOf X.K W (eOp2 ixD fa fb)) :=
  de_op2 (pe_ix ix_seq ha hb hs) fun _ _ _ _ h => rix_of h
/-! slices -/
structure PO2 (X : Cx) (W : WX) (e : Option Expr) (f : PO') : Prop where
  ok : ∃ t, PO X e t ∧ ∀ σ H Q, (∃ ι S δ, RelS X.K H ι S ∧ ROs X.K H ι δ σ ∧ Post (fun _ _ (a b : Option Int) => a = b) X.K W ι H σ (f δ S) Q) → t σ H Q
theorem do_none : PO2 X W none oNone := ⟨_, po_none, fun σ H Q ⟨ι, S, δ, rs, ro, q⟩ => q none H ι Gr.refl rs rfl⟩
theorem intOf_ok {K : PySem.W.Frag} {ι : List Addr} {H : Hp} {d : D} {v : V} {k : Int} (r : RD K H ι d v) (h : intOf d = some k) : v = .int k := by
  cases d with
  | int b => cases h; exact r.int
  | _ => cases h
theorem do_some (ha : PE X a (tOf X.K W fa)) : PO2 X W (some a) (oSome fa) := ⟨_, po_some ha, fun σ H Q ⟨ι, S, δ, rs, ro, q⟩ => ⟨ι, S, δ, rs, ro, Post.mono (Post.bind (rel := RD X.K) q) fun v H1 ⟨ι1, S1, x, g1, rs1, rx, q1⟩ => by
  cases hi : intOf x with
  | none => rw [hi] at q1; exact q1.elim
  | some i => rw [hi] at q1; exact ⟨i, intOf_ok rx hi, q1 _ H1 ι1 Gr.refl rs1 rfl⟩⟩⟩
def rSlD (K : PySem.W.Frag) (x : V) (l u : Option Int) (H : Hp) (Q : VK) : Prop := (rSlL K x l u H Q ∨ rSlA K x l u H Q) ∨ rSlS x l u H Q
theorem cut_ok {K : PySem.W.Frag} {ι : List Addr} {H : Hp} {ds : List D} {vs : List V} {l u : Option Int} (r : RDs K H ι ds vs) : RDs K H ι (cutD ds l u) (cutV vs l u) := by
  unfold cutD cutV
  rw [← r.length]
  exact (r.drop _).take _
theorem cut_all {α : Type} {xs : List α} {l u : Option Int} (h1 : HT.sIx xs.length 0 l = 0) (h2 : HT.sIx xs.length xs.length u = xs.length) : (xs.drop (HT.sIx xs.length 0 l)).take (HT.sIx xs.length xs.length u - HT.sIx xs.length 0 l) = xs := by
  rw [h1, h2]
  simp
theorem cut_id {K : PySem.W.Frag} {ι : List Addr} {H : Hp} {ds : List D} {vs : List V} {l u : Option Int} (r : RDs K H ι ds vs) (z : HT.sIx vs.length 0 l = 0 ∧ HT.sIx vs.length vs.length u = vs.length) : cutD ds l u = ds := by
  rw [← r.length] at z
  exact cut_all z.1 z.2
theorem de_sl {lo hi : Option Expr} {fl fh : PO'} {p2 : Pos} (ha : PE X a (tOf X.K W fa)) (hl : PO2 X W lo fl) (hh : PO2 X W hi fh) : PE X (.Subscript a (.Slice lo hi none p2) pos) (tOf X.K W (eSl fa fl fh)) := by
  obtain ⟨tl, h1, i1⟩ := hl.ok
  obtain ⟨th, h2, i2⟩ := hh.ok
  refine PE.imp (pe_slice (r := rSlD X.K) ((sl_list.or sl_tupA).or sl_str) ha h1 h2) fun σ H Q ⟨ι, S, δ, rs, ro, q⟩ => ⟨ι, S, δ, rs, ro, ?_⟩
  refine Post.mono (Post.bind (rel := RD X.K) q) fun v H1 ⟨ι1, S1, x, g1, rs1, rx, q1⟩ => i1 _ _ _ ⟨ι1, S1, δ, rs1, ro.mono g1, ?_⟩
  refine Post.mono (Post.bind (rel := fun _ _ (a b : Option Int) => a = b) q1) fun l H2 ⟨ι2, S2, l', g2, rs2, el, q2⟩ => i2 _ _ _ ⟨ι2, S2, δ, rs2, (ro.mono g1).mono g2, ?_⟩
  refine Post.mono (Post.bind (rel := fun _ _ (a b : Option Int) => a = b) q2) fun u H3 ⟨ι3, S3, u', g3, rs3, eu, q3⟩ => ?_
  subst el eu
  have q4 := q3.ofO
  have rx3 := (rx.mono g2).mono g3
  unfold slD at q4
  split at q4
  · split at q4
    · exact .inr ⟨_, rx3.str, by assumption, q4.val rs3 RD.mstr⟩
    · exact q4.elim
  · obtain ⟨p, vs, rfl, t1, l1⟩ := rx3.tup
    refine .inl (.inr ⟨p, vs, rfl, t1, fun z => ?_, fun z p' hp => q4.newT rs3 (cut_ok l1) hp⟩)
    rw [cut_id l1 z] at q4
    exact q4.val rs3 rx3
  · split at q4
    · rename_i ds hs
      obtain ⟨p, vs, rfl, t1, l1⟩ := itemsD_ok rs3 rx3 hs
      exact .inl (.inl ⟨p, vs, rfl, t1, fun p' hp => q4.newL rs3 (cut_ok l1) hp⟩)
    · exact q4.elim
end
end DL
set_option Elab.async false
set_option linter.all false
set_option maxRecDepth 100000
/-! DIter: what a loop or a comprehension goes through; its targets; comprehensions. -/
namespace DL
open PySem L2

/-! ### what is gone through: the items, and the lists that must stand still meanwhile -/
abbrev Gd := List (Nat × List D)
abbrev IT := List D × Gd
def gOk : Gd → SS → Prop
  | [], _ => True
  | (k, ds) :: r, S => S[k]? = some (.lst ds) ∧ gOk r S
/-- the iterator J yields the items -/
def JOk (K : PySem.W.Frag) (H0 : Hp) (ι0 : List Addr) (it : IT) (J : It) : Prop :=
  ∀ (i : Nat) (H : Hp) (ι : List Addr) (S : SS), Gr K H0 ι0 H ι → RelS K H ι S → gOk it.2 S →
    (∀ d, it.1[i]? = some d → J.go i H ∧ ∀ x H', J.yld i H x H' → Gr K H ι H' ι ∧ RelS K H' ι S ∧ RD K H' ι d x) ∧ (it.1.length ≤ i → J.stop i H)
abbrev PIt := Sl → SS → R IT
def iOf (K : PySem.W.Frag) (W : WX) (f : PIt) : TI := fun σ H Rr => ∃ ι S δ, RelS K H ι S ∧ ROs K H ι δ σ ∧ Post (JOk K) K W ι H σ (f δ S) Rr
theorem PI.imp {X : Cx} {tg e : Expr} {t t' : TI} (h : PI X tg e t) (i : ∀ σ H Q, t' σ H Q → t σ H Q) : PI X tg e t' := ⟨fun pins s σ H Q I q => h.run pins s σ H Q I (i _ _ _ q)⟩
def iBad : PIt := fun _ _ => .bad
theorem pi_bad {X : Cx} {W : WX} {tg e : Expr} : PI X tg e (iOf X.K W iBad) := ⟨fun _ _ _ _ _ _ ⟨_, _, _, _, _, h⟩ => h.elim⟩
/-- a value's items -/
def iterD (d : D) (S : SS) : Option IT := match d with
  | .tup ds => some (ds, [])
  | .rls ds => some (ds, [])
  | .ref k => match S[k]? with
    | some (.lst ds) => some (ds, [(k, ds)])
    | _ => none
  | .str x => some (x.cps.toList.map fun c => D.str ⟨#[c]⟩, [])
  | _ => none
def ofI (r : Option IT) (S : SS) : R IT := match r with
  | some x => .ok x S
  | none => .bad
def iVal (a : PEx) : PIt := fun δ S => (a δ S).bind fun x S1 => ofI (iterD x S1) S1
def rngItems (lo : Int) (n : Nat) (c : Int) : List D := (List.range n).map fun i => D.int (lo + (i : Nat) * c)
def small (i : Int) : Prop := -(2 ^ 62) ≤ i ∧ i < 2 ^ 62
instance (i : Int) : Decidable (small i) := by unfold small; infer_instance
/-- by the arguments -/
def iOn (g : List D → SS → Option IT) (a : PAs) : PIt := fun δ S => (a δ S).bind fun xs S1 => ofI (g xs S1) S1
def rng1D : List D → SS → Option IT
  | [.int j], _ => if small j then some (rngItems 0 j.toNat 1, []) else none
  | _, _ => none
def rng2D : List D → SS → Option IT
  | [.int i, .int j], _ => if small i ∧ small j then some (rngItems i (j - i).toNat 1, []) else none
  | _, _ => none
def rng3D : List D → SS → Option IT
  | [.int i, .int j, .int c], _ => if c ≠ 0 ∧ c.natAbs < 1073741824 ∧ Builtin.Range.small i j c = true ∧ 0 ≤ Builtin.Range.rangeSize i j c then some (rngItems i (Builtin.Range.rangeSize i j c).toNat c, []) else none
  | _, _ => none
def enumItems (ds : List D) : List D := ds.zipIdx.map fun p => D.tup [.int (p.2 : Nat), p.1]
def enuD : List D → SS → Option IT
  | [.ref k], S => match S[k]? with
    | some (.lst ds) => some (enumItems ds, [(k, ds)])
    | _ => none
  | [.tup ds], _ => some (enumItems ds, [])
  | _, _ => none
def zipItems (ds es : List D) : List D := (ds.zip es).map fun p => D.tup [p.1, p.2]
def zpD : List D → SS → Option IT
  | [.ref k, .ref l], S => match S[k]?, S[l]? with
    | some (.lst ds), some (.lst es) => some (zipItems ds es, [(k, ds), (l, es)])
    | _, _ => none
  | [.tup ds, .tup es], _ => some (zipItems ds es, [])
  | _, _ => none

section
variable {X : Cx} {W : WX} {tg a b c : Expr} {fa : PEx} {f : PAs} {pos p : Pos}
theorem jok_seq {K : PySem.W.Frag} {H0 : Hp} {ι0 : List Addr} {a : Addr} {k : Nat} {ds : List D} (hk : ι0[k]? = some a) : JOk K H0 ι0 (ds, [(k, ds)]) (Itl K a) := by
  intro i H ι S g rs gk
  obtain ⟨e, _⟩ := gk
  obtain ⟨vs, h1, h2⟩ := rs.at k _ a e (prefix_get g.pre hk)
  refine ⟨fun d hd => ?_, fun hl => ⟨vs, SqL.of h1, by rw [← h2.length]; exact hl⟩⟩
  obtain ⟨v, e1, r1⟩ := h2.get hd
  refine ⟨⟨vs, v, SqL.of h1, e1⟩, fun x H' y => ?_⟩
  obtain ⟨e2, y2⟩ := y
  subst e2
  have e3 := y2 vs (SqL.of h1)
  rw [e1] at e3
  cases e3
  exact ⟨Gr.refl, rs, r1⟩
theorem jok_rls {K : PySem.W.Frag} {H0 : Hp} {ι0 : List Addr} {a : Addr} {ds : List D} {vs : List V} (h : FrzL K H0 a vs) (r : RDs K H0 ι0 ds vs) : JOk K H0 ι0 (ds, []) (Itl K a) := by
  intro i H ι S g rs gk
  have h1 := (g.frz a vs h).sq
  have h2 := r.mono g
  refine ⟨fun d hd => ?_, fun hl => ⟨vs, h1, by rw [← h2.length]; exact hl⟩⟩
  obtain ⟨v, e1, r1⟩ := h2.get hd
  refine ⟨⟨vs, v, h1, e1⟩, fun x H' y => ?_⟩
  obtain ⟨e2, y2⟩ := y
  subst e2
  have e3 := y2 vs h1
  rw [e1] at e3
  cases e3
  exact ⟨Gr.refl, rs, r1⟩
theorem jok_tup {K : PySem.W.Frag} {H0 : Hp} {ι0 : List Addr} {a : Addr} {ds : List D} {vs : List V} (h : SqT K H0 a vs) (r : RDs K H0 ι0 ds vs) : JOk K H0 ι0 (ds, []) (Itt K a) := by
  intro i H ι S g rs gk
  have h1 := g.tup a vs h
  have h2 := r.mono g
  refine ⟨fun d hd => ?_, fun hl => ⟨vs, h1, by rw [← h2.length]; exact hl⟩⟩
  obtain ⟨v, e1, r1⟩ := h2.get hd
  refine ⟨⟨vs, v, h1, e1⟩, fun x H' y => ?_⟩
  obtain ⟨e2, y2⟩ := y
  subst e2
  have e3 := y2 vs h1
  rw [e1] at e3
  cases e3
  exact ⟨Gr.refl, rs, r1⟩
theorem jok_str {K : PySem.W.Frag} {H0 : Hp} {ι0 : List Addr} {z : Str} : JOk K H0 ι0 (z.cps.toList.map fun c => D.str ⟨#[c]⟩, []) (Its z) := by
  intro i H ι S g rs gk
  refine ⟨fun d hd => ?_, fun hl => by show z.cps.size ≤ i; simpa using hl⟩
  rw [List.getElem?_map, Option.map_eq_some_iff] at hd
  obtain ⟨c, e, rfl⟩ := hd
  have e' : z.cps[i]? = some c := by simpa using e
  refine ⟨(Array.getElem?_eq_some_iff.mp e').1, fun x H' y => ?_⟩
  obtain ⟨e2, c', h1, rfl⟩ := y
  subst e2
  rw [e'] at h1
  cases h1
  exact ⟨Gr.refl, rs, RD.mstr⟩
theorem jok_rng {K : PySem.W.Frag} {H0 : Hp} {ι0 : List Addr} {lo : Int} {n : Nat} : JOk K H0 ι0 (rngItems lo n 1, []) (Itr lo n) := by
  intro i H ι S g rs gk
  refine ⟨fun d hd => ?_, fun hl => by show n ≤ i; simpa [rngItems] using hl⟩
  have hd : ((List.range n).map fun i => D.int (lo + (i : Nat) * 1))[i]? = some d := hd
  rw [List.getElem?_map, Option.map_eq_some_iff] at hd
  obtain ⟨j, e, rfl⟩ := hd
  obtain ⟨h1, h2⟩ := List.getElem?_eq_some_iff.mp e
  simp at h1 h2
  subst h2
  refine ⟨h1, fun x H' y => ?_⟩
  obtain ⟨e2, rfl⟩ := y
  subst e2
  rw [Int.mul_one]
  exact ⟨Gr.refl, rs, RD.mint⟩
theorem jok_rngC {K : PySem.W.Frag} {H0 : Hp} {ι0 : List Addr} {lo c : Int} {n : Nat} : JOk K H0 ι0 (rngItems lo n c, []) (Itc lo c n) := by
  intro i H ι S g rs gk
  refine ⟨fun d hd => ?_, fun hl => by show n ≤ i; simpa [rngItems] using hl⟩
  have hd : ((List.range n).map fun i => D.int (lo + (i : Nat) * c))[i]? = some d := hd
  rw [List.getElem?_map, Option.map_eq_some_iff] at hd
  obtain ⟨j, e, rfl⟩ := hd
  obtain ⟨h1, h2⟩ := List.getElem?_eq_some_iff.mp e
  simp at h1 h2
  subst h2
  refine ⟨h1, fun x H' y => ?_⟩
  obtain ⟨e2, rfl⟩ := y
  subst e2
  exact ⟨Gr.refl, rs, RD.mint⟩
theorem jok_enum {K : PySem.W.Frag} {H0 : Hp} {ι0 : List Addr} {a : Addr} {k : Nat} {ds : List D} (hk : ι0[k]? = some a) : JOk K H0 ι0 (enumItems ds, [(k, ds)]) (Ite K a) := by
  intro i H ι S g rs gk
  obtain ⟨e, _⟩ := gk
  obtain ⟨vs, h1, h2⟩ := rs.at k _ a e (prefix_get g.pre hk)
  refine ⟨fun d hd => ?_, fun hl => ⟨vs, SqL.of h1, by rw [← h2.length]; simpa [enumItems] using hl⟩⟩
  have hd : (ds.zipIdx.map fun p => D.tup [.int (p.2 : Nat), p.1])[i]? = some d := hd
  rw [List.getElem?_map, Option.map_eq_some_iff] at hd
  obtain ⟨⟨d0, j⟩, e0, rfl⟩ := hd
  rw [List.getElem?_zipIdx, Option.map_eq_some_iff] at e0
  obtain ⟨d1, e1, e2⟩ := e0
  cases e2
  obtain ⟨v, e3, r1⟩ := h2.get e1
  refine ⟨⟨vs, v, SqL.of h1, e3⟩, fun x H' y => ?_⟩
  obtain ⟨T, x', rfl, hT, rfl, y2⟩ := y
  have e4 := y2 vs (SqL.of h1)
  rw [e3] at e4
  cases e4
  have gg : Gr K H ι (upd H T (.tup [.int (i : Nat), v])) ι := Gr.new hT
  refine ⟨gg, rs.new hT, ?_⟩
  unfold RD
  refine ⟨T, _, rfl, SqT.of upd_same, RDs.cons ?_ (RDs.cons (r1.mono gg) RDs.nil)⟩
  simp only [Nat.zero_add]
  exact RD.mint
theorem jok_enumT {K : PySem.W.Frag} {H0 : Hp} {ι0 : List Addr} {a : Addr} {ds : List D} {vs : List V} (h : SqT K H0 a vs) (r : RDs K H0 ι0 ds vs) : JOk K H0 ι0 (enumItems ds, []) (IteT K a) := by
  intro i H ι S g rs gk
  have h1 := g.tup a vs h
  have h2 := r.mono g
  refine ⟨fun d hd => ?_, fun hl => ⟨vs, h1, by rw [← h2.length]; simpa [enumItems] using hl⟩⟩
  have hd : (ds.zipIdx.map fun p => D.tup [.int (p.2 : Nat), p.1])[i]? = some d := hd
  rw [List.getElem?_map, Option.map_eq_some_iff] at hd
  obtain ⟨⟨d0, j⟩, e0, rfl⟩ := hd
  rw [List.getElem?_zipIdx, Option.map_eq_some_iff] at e0
  obtain ⟨d1, e1, e2⟩ := e0
  cases e2
  obtain ⟨v, e3, r1⟩ := h2.get e1
  refine ⟨⟨vs, v, h1, e3⟩, fun x H' y => ?_⟩
  obtain ⟨T, x', rfl, hT, rfl, y2⟩ := y
  have e4 := y2 vs h1
  rw [e3] at e4
  cases e4
  have gg : Gr K H ι (upd H T (.tup [.int (i : Nat), v])) ι := Gr.new hT
  refine ⟨gg, rs.new hT, ?_⟩
  unfold RD
  refine ⟨T, _, rfl, SqT.of upd_same, RDs.cons ?_ (RDs.cons (r1.mono gg) RDs.nil)⟩
  simp only [Nat.zero_add]
  exact RD.mint
theorem jok_zip {K : PySem.W.Frag} {H0 : Hp} {ι0 : List Addr} {a b : Addr} {k l : Nat} {ds es : List D} (hk : ι0[k]? = some a) (hl : ι0[l]? = some b) : JOk K H0 ι0 (zipItems ds es, [(k, ds), (l, es)]) (Itz K a b) := by
  intro i H ι S g rs gk
  obtain ⟨ek, el, _⟩ := gk
  obtain ⟨vs, h1, h2⟩ := rs.at k _ a ek (prefix_get g.pre hk)
  obtain ⟨us, h3, h4⟩ := rs.at l _ b el (prefix_get g.pre hl)
  refine ⟨fun d hd => ?_, fun hlen => ⟨vs, us, SqL.of h1, SqL.of h3, ?_⟩⟩
  · have hd : ((ds.zip es).map fun p => D.tup [p.1, p.2])[i]? = some d := hd
    rw [List.getElem?_map, Option.map_eq_some_iff] at hd
    obtain ⟨⟨d0, d1⟩, e0, rfl⟩ := hd
    rw [List.getElem?_zip_eq_some] at e0
    obtain ⟨v, e3, r1⟩ := h2.get e0.1
    obtain ⟨u, e5, r2⟩ := h4.get e0.2
    refine ⟨⟨vs, us, v, u, SqL.of h1, SqL.of h3, e3, e5⟩, fun x H' y => ?_⟩
    obtain ⟨T, x', y', rfl, hT, rfl, y2, y3⟩ := y
    have e6 := y2 vs (SqL.of h1)
    rw [e3] at e6
    cases e6
    have e7 := y3 us (SqL.of h3)
    rw [e5] at e7
    cases e7
    have gg : Gr K H ι (upd H T (.tup [v, u])) ι := Gr.new hT
    refine ⟨gg, rs.new hT, ?_⟩
    unfold RD
    exact ⟨T, _, rfl, SqT.of upd_same, RDs.cons (r1.mono gg) (RDs.cons (r2.mono gg) RDs.nil)⟩
  · rw [← h2.length, ← h4.length]
    simp [zipItems] at hlen
    omega
theorem jok_zipT {K : PySem.W.Frag} {H0 : Hp} {ι0 : List Addr} {a b : Addr} {ds es : List D} {vs us : List V} (h1 : SqT K H0 a vs) (h2 : RDs K H0 ι0 ds vs) (h3 : SqT K H0 b us) (h4 : RDs K H0 ι0 es us) : JOk K H0 ι0 (zipItems ds es, []) (RZ.ItzT K a b) := by
  intro i H ι S g rs gk
  have h1 := g.tup a vs h1
  have h3 := g.tup b us h3
  have h2 := h2.mono g
  have h4 := h4.mono g
  refine ⟨fun d hd => ?_, fun hlen => ⟨vs, us, h1, h3, ?_⟩⟩
  · have hd : ((ds.zip es).map fun p => D.tup [p.1, p.2])[i]? = some d := hd
    rw [List.getElem?_map, Option.map_eq_some_iff] at hd
    obtain ⟨⟨d0, d1⟩, e0, rfl⟩ := hd
    rw [List.getElem?_zip_eq_some] at e0
    obtain ⟨v, e3, r1⟩ := h2.get e0.1
    obtain ⟨u, e5, r2⟩ := h4.get e0.2
    refine ⟨⟨vs, us, v, u, h1, h3, e3, e5⟩, fun x H' y => ?_⟩
    obtain ⟨T, x', y', rfl, hT, rfl, y2, y3⟩ := y
    have e6 := y2 vs h1
    rw [e3] at e6
    cases e6
    have e7 := y3 us h3
    rw [e5] at e7
    cases e7
    have gg : Gr K H ι (upd H T (.tup [v, u])) ι := Gr.new hT
    refine ⟨gg, rs.new hT, ?_⟩
    unfold RD
    exact ⟨T, _, rfl, SqT.of upd_same, RDs.cons (r1.mono gg) (RDs.cons (r2.mono gg) RDs.nil)⟩
  · rw [← h2.length, ← h4.length]
    simp [zipItems] at hlen
    omega
/-- a value that is a list, a tuple or a text -/
theorem di_val (ha : PE X a (tOf X.K W fa)) : PI X tg a (iOf X.K W (iVal fa)) := by
  have tl : PI X tg a (iList X.K (tOf X.K W fa)) := pi_list ha
  refine ⟨fun pins s σ H Rr I ⟨ι, S, δ, rs, ro, q⟩ => ?_⟩
  -- which kind it is hangs on the store alone
  cases hr : fa δ S with
  | bad =>
    have q : Post (JOk X.K) X.K W ι H σ ((fa δ S).bind fun x S1 => ofI (iterD x S1) S1) Rr := q
    rw [hr] at q
    exact q.elim
  | exc C fs S1 =>
    have q : Post (JOk X.K) X.K W ι H σ ((fa δ S).bind fun x S1 => ofI (iterD x S1) S1) Rr := q
    rw [hr] at q
    exact tl.run pins s σ H Rr I ⟨ι, S, δ, rs, ro, by rw [hr]; exact q⟩
  | ok d S1 =>
    have q : Post (JOk X.K) X.K W ι H σ ((fa δ S).bind fun x S1 => ofI (iterD x S1) S1) Rr := q
    rw [hr, R.bind_ok] at q
    cases d with
    | tup ds =>
      refine (pi_tup ha).run pins s σ H Rr I ⟨ι, S, δ, rs, ro, ?_⟩
      rw [hr]
      intro v H1 ι1 g1 rs1 rd
      obtain ⟨a', vs, rfl, h1, h2⟩ := rd.tup
      exact ⟨a', rfl, ⟨vs, h1⟩, q _ H1 ι1 g1 rs1 (jok_tup h1 h2)⟩
    | rls ds =>
      refine tl.run pins s σ H Rr I ⟨ι, S, δ, rs, ro, ?_⟩
      rw [hr]
      intro v H1 ι1 g1 rs1 rd
      obtain ⟨a', vs, rfl, h1, h2⟩ := rd.rls
      exact ⟨a', rfl, ⟨vs, h1.sq⟩, q _ H1 ι1 g1 rs1 (jok_rls h1 h2)⟩
    | ref k =>
      refine tl.run pins s σ H Rr I ⟨ι, S, δ, rs, ro, ?_⟩
      rw [hr]
      intro v H1 ι1 g1 rs1 rd
      have q : Post (JOk X.K) X.K W ι H σ (ofI (match S1[k]? with | some (.lst ds) => some (ds, [(k, ds)]) | _ => none) S1) Rr := q
      split at q
      · rename_i ds e
        obtain ⟨a', vs, rfl, h0, h1, h2⟩ := rs1.lst e rd
        exact ⟨a', rfl, ⟨vs, SqL.of h1⟩, q _ H1 ι1 g1 rs1 (jok_seq h0)⟩
      · exact q.elim
    | str z =>
      refine (pi_str ha).run pins s σ H Rr I ⟨ι, S, δ, rs, ro, ?_⟩
      rw [hr]
      intro v H1 ι1 g1 rs1 rd
      exact ⟨z, rd.str, q _ H1 ι1 g1 rs1 jok_str⟩
    | _ => exact q.elim
theorem i_on {g : List D → SS → Option IT} {σ : St} {H : Hp} {Rr : It → Hp → Prop} (h : iOf X.K W (iOn g f) σ H Rr) : tOfA X.K W f σ H fun vs H1 => ∃ ι S xs it, RelS X.K H1 ι S ∧ RDs X.K H1 ι xs vs ∧ g xs S = some it ∧ ∀ J, JOk X.K H1 ι it J → Rr J H1 := by
  obtain ⟨ι, S, δ, rs, ro, q⟩ := h
  refine ⟨ι, S, δ, rs, ro, Post.mono (Post.bind (rel := RDs X.K) q) fun vs H1 ⟨ι1, S1, xs, g1, rs1, rd, q1⟩ => ?_⟩
  cases hg : g xs S1 with
  | none => rw [hg] at q1; exact q1.elim
  | some it => rw [hg] at q1; exact ⟨ι1, S1, xs, it, rs1, rd, hg, fun J hJ => q1 J H1 ι1 Gr.refl rs1 hJ⟩
theorem tOfA.mono {σ : St} {H : Hp} {Q Q' : List V → Hp → Prop} (h : tOfA X.K W f σ H Q) (i : ∀ vs H', Q vs H' → Q' vs H') : tOfA X.K W f σ H Q' :=
  let ⟨ι, S, δ, rs, ro, q⟩ := h
  ⟨ι, S, δ, rs, ro, q.mono i⟩
theorem di_rng1 (hg : Gl X "range") (hm : X.mg "range" = none) (ha : PA X [a] (tOfA X.K W f)) (hs : starEach [a] X.env = [(false, eval a X.env)]) : PI X tg (.Call (.Name "range" p) [a] [] pos) (iOf X.K W (iOn rng1D f)) :=
  PI.imp (pi_range1 hg hm ha hs) fun σ H Rr h => (i_on h).mono fun vs H1 ⟨ι1, S1, xs, it, rs1, rd, e, q⟩ => by
    unfold rng1D at e
    split at e
    · split at e
      · rename_i hj
        cases e
        obtain ⟨v, rfl, rj⟩ := rds1 rd
        rw [rj.int]
        exact ⟨_, rfl, hj.1, hj.2, q _ jok_rng⟩
      · cases e
    · cases e
theorem di_rng2 (hg : Gl X "range") (hm : X.mg "range" = none) (ha : PA X [a, b] (tOfA X.K W f)) (hs : starEach [a, b] X.env = [(false, eval a X.env), (false, eval b X.env)]) (hs2 : starEach [b] X.env = [(false, eval b X.env)]) : PI X tg (.Call (.Name "range" p) [a, b] [] pos) (iOf X.K W (iOn rng2D f)) :=
  PI.imp (pi_range2 hg hm ha hs hs2) fun σ H Rr h => (i_on h).mono fun vs H1 ⟨ι1, S1, xs, it, rs1, rd, e, q⟩ => by
    unfold rng2D at e
    split at e
    · split at e
      · rename_i hj
        cases e
        obtain ⟨v, u, rfl, ri, rj⟩ := rds2 rd
        rw [ri.int, rj.int]
        exact ⟨_, _, rfl, ⟨hj.1.1, hj.1.2, hj.2.1, hj.2.2⟩, q _ jok_rng⟩
      · cases e
    · cases e
theorem rds3 {K : PySem.W.Frag} {ι : List Addr} {H : Hp} {d e g : D} {vs : List V} (r : RDs K H ι [d, e, g] vs) : ∃ v u w, vs = [v, u, w] ∧ RD K H ι d v ∧ RD K H ι e u ∧ RD K H ι g w := by
  unfold RDs at r
  obtain ⟨v, r', rfl, r1, r2⟩ := r
  obtain ⟨u, w, rfl, r3, r4⟩ := rds2 r2
  exact ⟨v, u, w, rfl, r1, r3, r4⟩
theorem di_rng3 (hg : Gl X "range") (hm : X.mg "range" = none) (ha : PA X [a, b, c] (tOfA X.K W f)) (hs : starEach [a, b, c] X.env = (false, eval a X.env) :: starEach [b, c] X.env) (hs2 : (backTo pos (starEach [b, c] X.env)).any (·.1) = false) : PI X tg (.Call (.Name "range" p) [a, b, c] [] pos) (iOf X.K W (iOn rng3D f)) :=
  PI.imp (pi_range3 hg hm ha hs hs2) fun σ H Rr h => (i_on h).mono fun vs H1 ⟨ι1, S1, xs, it, rs1, rd, e, q⟩ => by
    unfold rng3D at e
    split at e
    · split at e
      · rename_i hj
        cases e
        obtain ⟨v, u, w, rfl, ri, rj, rc⟩ := rds3 rd
        rw [ri.int, rj.int, rc.int]
        exact ⟨_, _, _, _, rfl, ⟨hj.1, hj.2.1, hj.2.2.1, (Int.toNat_of_nonneg hj.2.2.2).symm⟩, q _ jok_rngC⟩
      · cases e
    · cases e
theorem di_enum {elts : List Expr} {kk : Nat} {tpos : Pos} (hg : Gl X "enumerate") (hm : X.mg "enumerate" = none) (ha : PA X [a] (tOfA X.K W f)) (hs : starEach [a] X.env = [(false, eval a X.env)]) : PI X (.Tuple elts kk tpos) (.Call (.Name "enumerate" p) [a] [] pos) (iOf X.K W (iOn enuD f)) :=
  PI.imp (pi_enumT hg hm ha hs) fun σ H Rr h => (i_on h).mono fun vs H1 ⟨ι1, S1, xs, it, rs1, rd, e, q⟩ => by
    unfold enuD at e
    split at e
    · split at e
      · rename_i ds hk
        cases e
        obtain ⟨v, rfl, rj⟩ := rds1 rd
        obtain ⟨a', us, rfl, h0, h1, h2⟩ := rs1.lst hk rj
        exact ⟨a', rfl, .inl ⟨us, SqL.of h1, q _ (jok_enum h0)⟩⟩
      · cases e
    · cases e
      obtain ⟨v, rfl, rj⟩ := rds1 rd
      obtain ⟨a', us, rfl, t1, l1⟩ := rj.tup
      exact ⟨a', rfl, .inr ⟨us, t1, q _ (jok_enumT t1 l1)⟩⟩
    · cases e
theorem di_zip {elts : List Expr} {kk : Nat} {tpos : Pos} (hg : Gl X "zip") (hm : X.mg "zip" = none) (ha : PA X [a, b] (tOfA X.K W f)) (hs : starEach [a, b] X.env = (false, eval a X.env) :: starEach [b] X.env) (hs2 : (backTo pos (starEach [b] X.env)).any (·.1) = false) : PI X (.Tuple elts kk tpos) (.Call (.Name "zip" p) [a, b] [] pos) (iOf X.K W (iOn zpD f)) :=
  PI.imp (RZ.pi_zipA hg hm ha hs hs2) fun σ H Rr h => (i_on h).mono fun vs H1 ⟨ι1, S1, xs, it, rs1, rd, e, q⟩ => by
    unfold zpD at e
    split at e
    · split at e
      · rename_i ds es hk hl
        cases e
        obtain ⟨v, u, rfl, ri, rj⟩ := rds2 rd
        obtain ⟨a', us, rfl, h0, h1, h2⟩ := rs1.lst hk ri
        obtain ⟨b', us', rfl, h0', h1', h2'⟩ := rs1.lst hl rj
        exact ⟨a', b', us, us', rfl, .inl ⟨SqL.of h1, SqL.of h1', q _ (jok_zip h0 h0')⟩⟩
      · cases e
    · cases e
      obtain ⟨v, u, rfl, ri, rj⟩ := rds2 rd
      obtain ⟨a', us, rfl, t1, l1⟩ := ri.tup
      obtain ⟨b', us', rfl, t2, l2⟩ := rj.tup
      exact ⟨a', b', us, us', rfl, .inr ⟨t1, t2, q _ (jok_zipT t1 l1 t2 l2)⟩⟩
    · cases e
end
end DL
set_option Elab.async false
set_option linter.all false
set_option maxRecDepth 100000
/-! DComp: targets; list comprehensions. -/
namespace DL
open PySem L2
open Classical

inductive CT where
  | one (i : Nat)
  | many (is : List Nat)
def CT.slots : CT → List Nat
  | .one i => [i]
  | .many is => is
def setsD : List Nat → List D → Sl → Sl
  | i :: is, d :: ds, δ => setsD is ds (δ.set i (some d))
  | _, _, δ => δ
def bindC : CT → D → Sl → Option Sl
  | .one i, d, δ => some (δ.set i (some d))
  | .many is, .tup ds, δ => if ds.length = is.length then some (setsD is ds δ) else none
  | _, _, _ => none
def gNs : List Nat → TGs
  | [] => gNil
  | i :: is => gCons (gName i) (gNs is)
def gC (K : PySem.W.Frag) : CT → TG
  | .one i => gName i
  | .many is => gTup K is.length (gNs is)
theorem wipe_key {i : Nat} {v : Option V} : ∀ (vs : List Nat) (σ : St), i ∉ vs → wipe (σ.set i v) vs = (wipe σ vs).set i v := by
  intro vs
  induction vs with
  | nil => intro σ _; rfl
  | cons j vs ih =>
    intro σ h
    simp only [List.mem_cons, not_or] at h
    show (wipe (σ.set i v) vs).set j none = ((wipe σ vs).set j none).set i v
    rw [ih σ h.2, List.set_comm _ _ h.1]
theorem wipe_set {σ : St} {i : Nat} {v : Option V} : ∀ {vs : List Nat}, i ∈ vs → wipe (σ.set i v) vs = wipe σ vs := by
  intro vs
  induction vs with
  | nil => intro h; cases h
  | cons j vs ih =>
    intro h
    show (wipe (σ.set i v) vs).set j none = (wipe σ vs).set j none
    by_cases hv : i ∈ vs
    · rw [ih hv]
    · rcases List.mem_cons.mp h with e | h
      · subst e
        rw [wipe_key vs σ hv, List.set_set]
      · exact absurd h hv
theorem wipe_idem (σ : St) : ∀ vs : List Nat, wipe (wipe σ vs) vs = wipe σ vs
  | [] => rfl
  | v :: vs => by
    show (wipe ((wipe σ vs).set v none) vs).set v none = (wipe σ vs).set v none
    by_cases hv : v ∈ vs
    · rw [wipe_set hv, wipe_idem σ vs]
    · rw [wipe_key vs _ hv, List.set_set, wipe_idem σ vs]
section
variable {K : PySem.W.Frag} {H : Hp} {ι : List Addr}
theorem gNs_ok {Q : St → Hp → Prop} : ∀ (is : List Nat) {ds : List D} {vs : List V} {δ : Sl} {σ : St}, RDs K H ι ds vs → ds.length = is.length → ROs K H ι δ σ →
    (∀ σ', ROs K H ι (setsD is ds δ) σ' → (∀ ws : List Nat, (∀ i ∈ is, i ∈ ws) → wipe σ' ws = wipe σ ws) → Q σ' H) → gNs is vs σ H Q
  | [], [], vs, δ, σ, r, _, ro, q => by
    unfold RDs at r
    subst r
    exact ⟨rfl, q σ ro fun _ _ => rfl⟩
  | i :: is, d :: ds, _, δ, σ, r, hl, ro, q => by
    unfold RDs at r
    obtain ⟨v, r', rfl, r1, r2⟩ := r
    refine ⟨v, r', rfl, ?_⟩
    refine gNs_ok is r2 (by simpa using hl) (ro.set r1) fun σ' ro' hw => q σ' ro' fun ws hws => ?_
    rw [hw ws fun j hj => hws j (List.mem_cons_of_mem _ hj)]
    exact wipe_set (hws i List.mem_cons_self)
  | [], d :: ds, _, _, _, _, hl, _, _ => by simp at hl
  | i :: is, [], _, _, _, _, hl, _, _ => by simp at hl
theorem gC_ok {ct : CT} {d : D} {v : V} {δ δ' : Sl} {σ : St} {Q : St → Hp → Prop} (h : bindC ct d δ = some δ') (rd : RD K H ι d v) (ro : ROs K H ι δ σ)
    (q : ∀ σ', ROs K H ι δ' σ' → (∀ ws : List Nat, (∀ i ∈ ct.slots, i ∈ ws) → wipe σ' ws = wipe σ ws) → Q σ' H) : gC K ct v σ H Q := by
  cases ct with
  | one i =>
    cases h
    exact q _ (ro.set rd) fun ws hws => wipe_set (hws i (by simp [CT.slots]))
  | many is =>
    cases d with
    | tup ds =>
      simp only [bindC] at h
      split at h
      · rename_i hl
        cases h
        obtain ⟨a, vs, rfl, h1, h2⟩ := rd.tup
        exact ⟨a, vs, rfl, h1, by rw [← h2.length]; exact hl, gNs_ok is h2 hl ro q⟩
      · cases h
    | _ => cases h
end
def wipeD (δ : Sl) : List Nat → Sl
  | [] => δ
  | v :: vs => (wipeD δ vs).set v none
theorem ROs.wipe {K : PySem.W.Frag} {H : Hp} {ι : List Addr} {δ : Sl} {σ : St} (r : ROs K H ι δ σ) : ∀ vs : List Nat, ROs K H ι (wipeD δ vs) (L2.wipe σ vs)
  | [] => r
  | v :: vs => (ROs.wipe r vs).none

def R.nox {α : Type} : R α → R α
  | .exc _ _ _ => .bad
  | r => r
@[simp] theorem R.nox_ok {α : Type} {x : α} {S : SS} : (R.ok x S).nox = .ok x S := rfl
theorem R.bind_assoc {α β γ : Type} {r : R α} {f : α → SS → R β} {g : β → SS → R γ} : (r.bind f).bind g = r.bind fun x S => (f x S).bind g := by
  cases r <;> rfl
noncomputable def lcGo (gd : Gd) (ct : CT) (t : PTs') (el : PEx) (δ : Sl) (k : Nat) : List D → SS → R Unit
  | [], S => if gOk gd S then .ok () S else .bad
  | d :: r, S => if gOk gd S then (match bindC ct d δ with
    | none => .bad
    | some δ1 => (t δ1 S).nox.bind fun c S1 => if c = true then (el δ1 S1).nox.bind fun y S2 => (match S2[k]? with
        | some (.lst acc) => if acc.length < sizeLine then lcGo gd ct t el δ k r (S2.set k (.lst (acc ++ [y]))) else .bad
        | _ => .bad) else lcGo gd ct t el δ k r S1) else .bad
noncomputable def eLc (it : PIt) (ct : CT) (vs : List Nat) (t : PTs') (el : PEx) : PEx := fun δ S => (it δ S).bind fun x S1 =>
  (lcGo x.2 ct t el (wipeD δ vs) S1.length x.1 (S1 ++ [.lst []])).bind fun _ S2 => .ok (.ref S1.length) S2
abbrev W0 : WX := fun _ _ _ _ => False
theorem Post.nox {α β : Type} {rel : Hp → List Addr → α → β → Prop} {α' β' : Type} {rel' : Hp → List Addr → α' → β' → Prop} {K : PySem.W.Frag} {W : WX} {ι : List Addr} {H : Hp} {σ σ' : St} {r : R α} {k : α → SS → R α'} {Q : β' → Hp → Prop} (h : Post rel' K W ι H σ (r.nox.bind k) Q) :
    Post rel K W0 ι H σ' r (fun v H1 => ∃ ι1 S1 x, Gr K H ι H1 ι1 ∧ RelS K H1 ι1 S1 ∧ rel H1 ι1 x v ∧ Post rel' K W ι1 H1 σ (k x S1) Q) := by
  cases r with
  | ok x S => exact fun v H1 ι1 g s q => ⟨ι1, S, x, g, s, q, h.later g⟩
  | exc C fs S => exact h.elim
  | bad => exact h.elim
section
variable {X : Cx} {W : WX} {tg iter elt : Expr} {ifs : List Expr} {it : PIt} {ct : CT} {t : PTs'} {el : PEx} {scope : Scope} {own : List (Str × Nat)} {pos : Pos}
theorem i_lc (hct : ∀ i ∈ ct.slots, i ∈ own.map (·.2)) {σ : St} {H : Hp} {Q : VK} (h : tOf X.K W (eLc it ct (own.map (·.2)) t el) σ H Q) : tLc (iOf X.K W it) (gC X.K ct) (tOfT X.K W0 t) (tOf X.K W0 el) (own.map (·.2)) σ H Q := by
  obtain ⟨ι, S, δ, rs, ro, q⟩ := h
  refine ⟨ι, S, δ, rs, ro, Post.mono (Post.bind (rel := JOk X.K) q) fun J H1 ⟨ι1, S1, x, g1, rs1, hJ, q1⟩ => fun Dd hD => ?_⟩
  obtain ⟨items, gd⟩ := x
  generalize hvs : own.map (·.2) = vs at *
  -- behind the new list
  have gD : Gr X.K H1 ι1 (upd H1 Dd (.lst [])) (ι1 ++ [Dd]) := Gr.push hD
  have rsD : RelS X.K (upd H1 Dd (.lst [])) (ι1 ++ [Dd]) (S1 ++ [.lst []]) := rs1.push hD ⟨[], upd_same, RDs.nil⟩
  have hk : (ι1 ++ [Dd])[S1.length]? = some Dd := by rw [← rs1.len]; simp
  refine ⟨fun i m H2 => ∃ ι2 S2, Gr X.K (upd H1 Dd (.lst [])) (ι1 ++ [Dd]) H2 ι2 ∧ RelS X.K H2 ι2 S2 ∧ m = items.length - i ∧ i ≤ items.length ∧
      Post (RD X.K) X.K W ι2 H2 σ ((lcGo gd ct t el (wipeD δ vs) S1.length (items.drop i) S2).bind fun _ S2 => .ok (.ref S1.length) S2) Q,
    ⟨_, _, _, Gr.refl, rsD, rfl, Nat.zero_le _, q1.later gD⟩, ?_⟩
  rintro i m H2 ⟨ι2, S2, g2, rs2, rfl, hi, q2⟩
  have g12 := gD.trans g2
  have hk2 : ι2[S1.length]? = some Dd := prefix_get g2.pre hk
  by_cases hlt : i < items.length
  · right
    have hd : items.drop i = items[i] :: items.drop (i + 1) := List.drop_eq_getElem_cons hlt
    rw [hd, lcGo] at q2
    split at q2
    · rename_i hgd
      have hj := (hJ i H2 ι2 S2 g12 rs2 hgd).1 items[i] (List.getElem?_eq_getElem hlt)
      refine ⟨hj.1, fun H' => ∃ ι2 S2, Gr X.K (upd H1 Dd (.lst [])) (ι1 ++ [Dd]) H' ι2 ∧ RelS X.K H' ι2 S2 ∧ Post (RD X.K) X.K W ι2 H' σ ((lcGo gd ct t el (wipeD δ vs) S1.length (items.drop (i + 1)) S2).bind fun _ S2 => .ok (.ref S1.length) S2) Q, fun H' ⟨ι3, S3, a1, a2, a3⟩ => ⟨items.length - (i + 1), by omega, ι3, S3, a1, a2, rfl, hlt, a3⟩, fun xv H' y => ?_⟩
      obtain ⟨g3, rs3, rx⟩ := hj.2 xv H' y
      have ro3 := (((ro.mono g1).mono (g12.trans g3)).wipe vs)
      split at q2
      · exact q2.elim
      · rename_i δ1 hb
        refine gC_ok hb rx ro3 fun σ' ro' hw => ⟨?_, ι2, S2, δ1, rs3, ro', ?_⟩
        · rw [hw vs hct]
          exact wipe_idem σ vs
        · have q3 := q2.later g3
          rw [R.bind_assoc] at q3
          refine Post.mono (Post.nox (rel := rB) q3) fun b H3 ⟨ι4, S4, b', g4, rs4, eb, q4⟩ => ?_
          have eb : b' = b := eb
          subst eb
          cases b' with
          | false =>
            simp only [Bool.false_eq_true, if_false] at q4 ⊢
            exact ⟨ι4, S4, (g2.trans g3).trans g4, rs4, q4⟩
          | true =>
            refine ⟨ι4, S4, δ1, rs4, ro'.mono g4, ?_⟩
            simp only [if_true] at q4
            rw [R.bind_assoc] at q4
            refine Post.mono (Post.nox (rel := RD X.K) q4) fun yv H4 ⟨ι5, S5, yd, g5, rs5, ry, q5⟩ => ?_
            have hk5 : ι5[S1.length]? = some Dd := prefix_get (g4.trans g5).pre (by exact hk2)
            split at q5
            · rename_i acc hacc
              split at q5
              · rename_i hz
                obtain ⟨vs', e1, e2⟩ := rs5.at _ _ _ hacc hk5
                refine ⟨vs', e1, by rw [← e2.length]; exact hz, ?_⟩
                have gw : Gr X.K H4 ι5 (upd H4 Dd (.lst (vs' ++ [yv]))) ι5 := Gr.write rs5 hk5
                refine ⟨ι5, _, (((g2.trans g3).trans g4).trans g5).trans gw, rs5.write (ob := .lst (acc ++ [yd])) hk5 ⟨_, upd_same, (e2.append (RDs.cons ry RDs.nil)).mono gw⟩, q5.later gw⟩
              · exact q5.elim
            · exact q5.elim
    · exact q2.elim
  · left
    have e : i = items.length := by omega
    subst e
    rw [List.drop_length, lcGo] at q2
    split at q2
    · rename_i hgd
      refine ⟨(hJ _ H2 ι2 S2 g12 rs2 hgd).2 (Nat.le_refl _), q2 _ H2 ι2 Gr.refl rs2 ?_⟩
      unfold RD
      exact ⟨Dd, rfl, hk2⟩
    · exact q2.elim
end
end DL
set_option Elab.async false
set_option linter.all false
set_option maxRecDepth 100000
set_option maxHeartbeats 1000000
/-! DRev: a tuple's items from behind. -/
namespace DL
open PySem PySem.Spec PyProof.Rows L2
section
variable {prog : Program} {w : World} {A : Around} {E : Value → Shared → Prop} {s : Shared}
theorem rev_pick (xs : Array Value) : ((List.range xs.size).filterMap fun (m : Nat) => xs[(((xs.size : Int) - 1) + (m : Int) * (-1)).toNat]?).toArray = xs.toList.reverse.toArray := by
  congr 1
  apply List.ext_getElem?
  intro i
  have key : ∀ n, n ≤ xs.size → ((List.range n).filterMap fun (m : Nat) => xs[(((xs.size : Int) - 1) + (m : Int) * (-1)).toNat]?) = (xs.toList.reverse).take n := by
    intro n
    induction n with
    | zero => intro _; simp
    | succ n ih =>
      intro hn
      rw [List.range_succ, List.filterMap_append, ih (by omega), List.take_add_one]
      congr 1
      have e : (((xs.size : Int) - 1) + (n : Int) * (-1)).toNat = xs.size - 1 - n := by omega
      have h1 : xs.size - 1 - n < xs.size := by omega
      have h2 : n < xs.toList.reverse.length := by simp; omega
      simp only [List.filterMap_cons, List.filterMap_nil, e]
      rw [Array.getElem?_eq_getElem h1, List.getElem?_eq_getElem h2, List.getElem_reverse]
      simp
  rw [key xs.size (Nat.le_refl _), List.take_of_length_le (by simp)]
theorem adjust_rev (n : Nat) : Builtin.Slice.sliceAdjust none none (-1) (n : Int) = ((n : Int) - 1, -1) := by
  unfold Builtin.Slice.sliceAdjust
  simp
theorem places_rev (n : Nat) : Builtin.Slice.slicePlaces ((n : Int) - 1) (-1) (-1) = n := by
  unfold Builtin.Slice.slicePlaces
  have h1 : ¬ ((-1 : Int) > 0) := by omega
  simp only [h1, if_false, Int.neg_neg, Int.ediv_one]
  split <;> omega
theorem getItem_tuple_rev {t sl : Addr} {items : Array Value} {vs : Value} {Q : Value → Shared → Prop} (ht : IsTup s.heap t items) (hs : s.heap.IsSliceOf sl .none .none vs) (ps : IsPart vs (some (-1)))
    (h : Q (.ref s.heap.objs.size) { s with heap := s.heap.push { cls := .type "tuple", data := .seq items.toList.reverse.toArray } }) (hsz : items.size ≤ sizeLine) : wpAny (model prog w) A (getItem (.ref t) (.ref sl)) Q E s := by
  have fits : sizeOk (.seq items.toList.reverse.toArray) := by
    show items.toList.reverse.toArray.size ≤ sizeLine
    simpa using hsz
  obtain ⟨os, hos, hcs, hds⟩ := id hs
  have tyS : s.TypeIs (.ref sl) "slice" := ⟨os, hos, hcs⟩
  unfold getItem
  try with_reducible refine wpAny_holding ?_
  first | refine wpAny_bind (wpAny_pure ?_) | skip
  refine wpAny_bind (wpAny_sequenceKey ht.typeIs (by decide) (wpAny_bind (wpAny_callSpecial?_slot (name := Str.ofString "__getitem__") ht.typeIs PyProof.Rows.slot_tuple_getitem
    (wpAny_call_entry PyProof.Rows.slot_tuple_getitem ht.typeIs entry_tuple_getitem ?_ (args_tuple_getitem _ _)))))
  show wpAny _ _ (Builtin.Tuple.tupleItemsOf (.ref t) >>= _) _ _ s
  refine wpAny_bind (tupleItemsOf_ ht (wpAny_bind (wpAny_typeOf tyS ?_)))
  rw [if_pos (by decide)]
  have applied : ∀ {A : Around} {E : Value → Shared → Prop} {Q : Int × Int × Nat → Shared → Prop}, Q ((items.size : Int) - 1, -1, items.size) s → wpAny (model prog w) A (Builtin.Slice.sliceApplied (.ref sl) (pure (items.size : Int))) Q E s := fun {A E Q} q => by
    unfold Builtin.Slice.sliceApplied Builtin.Slice.sliceFields
    refine wpAny_bind (wpAny_bind (wpAny_field hos hds (x := .none) rfl (wpAny_bind (wpAny_field hos hds (x := .none) rfl (wpAny_bind (wpAny_field hos hds (x := vs) rfl (wpAny_pure ?_)))))))
    refine wpAny_bind (HT.slicePart_ ps ?_)
    show wpAny _ _ (if ((-1 : Int) == 0) = true then _ else _) _ _ s
    rw [if_neg (by decide)]
    refine wpAny_bind (slicePart_none (wpAny_bind (slicePart_none (wpAny_bind (wpAny_pure ?_)))))
    show wpAny _ _ (match Builtin.Slice.sliceAdjust none none (-1) (items.size : Int) with | (lo, hi) => pure (lo, (-1 : Int), Builtin.Slice.slicePlaces lo hi (-1))) _ _ s
    rw [adjust_rev]
    show wpAny _ _ (pure ((items.size : Int) - 1, (-1 : Int), Builtin.Slice.slicePlaces ((items.size : Int) - 1) (-1) (-1))) _ _ s
    rw [places_rev]
    exact wpAny_pure q
  refine wpAny_bind (applied ?_)
  have no : ¬ ((((items.size : Int) - 1) == 0 && (-1 : Int) == 1 && items.size == items.size) = true) := by
    intro q
    rw [Bool.and_eq_true, Bool.and_eq_true] at q
    exact absurd q.1.2 (by decide)
  show wpAny _ _ (if (((items.size : Int) - 1) == 0 && (-1 : Int) == 1 && items.size == items.size) = true then _ else _) _ _ s
  rw [if_neg no, rev_pick]
  first
    | exact wpAny_bind (m := Builtin.Tuple.tupleExact _) (wpAny_newObj_type (wpAny_pure ⟨_, rfl, wpAny_pure h⟩) fits)
    | exact wpAny_bind (m := Builtin.Tuple.tupleExact _) (wpAny_newObj_type (wpAny_bind (wpAny_pure (wpAny_pure ⟨_, rfl, wpAny_pure h⟩))) fits)
    | exact wpAny_bind (wpAny_bind (m := Builtin.Tuple.tupleExact _) (wpAny_newObj_type (wpAny_pure (wpAny_pure ⟨_, rfl, wpAny_pure h⟩)) fits))
    | exact wpAny_bind (wpAny_bind (m := Builtin.Tuple.tupleExact _) (wpAny_newObj_type (wpAny_pure ⟨_, rfl, wpAny_pure h⟩) fits))
end
abbrev mRev (k : Nat) (p1 p2 p3 : Pos) : Expr := .Slice none none (some (.UnaryOp .USub (.Constant (.int 1) k p1) p2)) p3
/-- x[::-1] of a list, of a tuple -/
theorem pe_revA {X : Cx} {e : Expr} {te : TE} {k : Nat} {p1 p2 p3 pos : Pos} (he : PE X e te) : PE X (.Subscript e (mRev k p1 p2 p3) pos) (fun σ H Q => te σ H fun x H1 => ∃ a xs, x = .ref a ∧
    ((SqL X.K H1 a xs ∧ ∀ p, H1 p = none → Q (.ref p) (upd H1 p (.lst xs.reverse))) ∨ (SqT X.K H1 a xs ∧ ∀ p, H1 p = none → Q (.ref p) (upd H1 p (.tup xs.reverse))))) := by
  refine ⟨fun pins s σ H Q I h => Subscript_ (thn (he.run pins s σ H _ I h) fun v s1 hh => ?_)⟩
  obtain ⟨x, H1, I1, r1, a, xs, rfl, q⟩ := hh
  obtain rfl : v = Value.ref a := r1
  have minus : PO X (some (.UnaryOp .USub (.Constant (.int 1) k p1) p2)) (tPart (tUn (rU fun i => .int (-i)) (tC (.int 1)))) := po_some (pe_un un_neg pe_int)
  refine wpAny_Slice (thn (po_none.run pins s1 σ H1 (fun o H2 => o = none ∧ H2 = H1) I1 ⟨rfl, rfl⟩) fun vl s2 h2 => ?_)
  obtain ⟨l, H2, I2, pl, rfl, rfl⟩ := h2
  refine thn (po_none.run pins s2 σ H2 (fun o H3 => o = none ∧ H3 = H2) I2 ⟨rfl, rfl⟩) fun vu s3 h3 => ?_
  obtain ⟨u, H3, I3, pu, rfl, rfl⟩ := h3
  refine thn (minus.run pins s3 σ H3 (fun o H4 => o = some (-1) ∧ H4 = H3) I3 ⟨1, rfl, -1, rfl, rfl, rfl⟩) fun vs s4 h4 => ?_
  obtain ⟨o, H4, I4, ps, rfl, rfl⟩ := h4
  have I5 : Inv X pins σ H4 { s4 with heap := s4.heap.push { cls := .type "slice", data := .fields #[vl, vu, vs] } } := I4.kept (t' := s4.toks) fun b ob q => Heap.get?_push_of_some _ q
  show wpAny (model X.prog X.w) X.A (subscriptTail e (mRev k p1 p2 p3) (.ref a) (.ref s4.heap.objs.size)) (EP X pins σ Q) X.xe { s4 with heap := s4.heap.push { cls := .type "slice", data := .fields #[vl, vu, vs] } }
  rcases q with ⟨hx, q⟩ | ⟨hx, q⟩
  · obtain ⟨its, r, ht, hz⟩ := I5.list hx
    have hlen := r.length
    refine tail_any (ops := [.ref a, .ref s4.heap.objs.size]) ht.isList.typeIs (PySem.slot_list_getitem.lookup) (wpAny_getItem_list_slice ht.isList (Heap.IsSliceOf.new _ vl vu vs) pl pu ps (by decide) ?_ (by rw [List.size_toArray]; omega)) (by with_unfolding_all rfl)
    rw [PySem.W.krv_pick]
    exact ⟨.ref _, _, I5.laid (t' := s4.toks) (o := .lst xs.reverse) (fun b ob q => Heap.get?_push_of_some _ q) (Nat.le_refl _) ⟨by rw [List.length_reverse]; exact hz, _, 0, r.reverse, Heap.get?_push_size _ rfl⟩, rfl, q _ (I5.hok.fresh (Nat.le_refl _))⟩
  · obtain ⟨its, r, ht, hz⟩ := I5.tuple hx
    have hlen := r.length
    cases pl
    cases pu
    refine tail_any (ops := [.ref a, .ref s4.heap.objs.size]) ht.typeIs PyProof.Rows.slot_tuple_getitem.lookup (getItem_tuple_rev ht (Heap.IsSliceOf.new _ .none .none vs) ps ?_ (by rw [List.size_toArray]; omega)) (by with_unfolding_all rfl)
    exact ⟨.ref _, _, I5.laid (t' := s4.toks) (o := .tup xs.reverse) (fun b ob q => Heap.get?_push_of_some _ q) (Nat.le_refl _) ⟨by rw [List.length_reverse]; exact hz, _, r.reverse, IsTup.new _ _⟩, rfl, q _ (I5.hok.fresh (Nat.le_refl _))⟩
def isRev : Expr → Bool
  | .Slice none none (some (.UnaryOp .USub (.Constant (.int i) _ _) _)) _ => i == 1
  | _ => false
theorem isRev_ok {e : Expr} (h : isRev e = true) : ∃ k p1 p2 p3, e = mRev k p1 p2 p3 := by
  unfold isRev at h
  split at h
  · obtain rfl := eq_of_beq h
    exact ⟨_, _, _, _, rfl⟩
  · cases h
theorem de_rev {X : Cx} {W : WX} {a s : Expr} {fa : PEx} {pos : Pos} (h : isRev s = true) (ha : PE X a (tOf X.K W fa)) : PE X (.Subscript a s pos) (tOf X.K W (eOp1 revD fa)) := by
  obtain ⟨k, p1, p2, p3, rfl⟩ := isRev_ok h
  refine PE.imp (pe_revA ha) fun σ H Q ⟨ι, S, δ, rs, ro, q⟩ => ⟨ι, S, δ, rs, ro, Post.mono (Post.bind (rel := RD X.K) q) fun v H1 ⟨ι1, S1, x, g1, rs1, rx, q1⟩ => ?_⟩
  have q2 := q1.ofO
  unfold revD at q2
  split at q2
  · obtain ⟨p, vs, rfl, t1, l1⟩ := rx.tup
    exact ⟨p, vs, rfl, .inr ⟨t1, fun p' hp => q2.newT rs1 l1.reverse hp⟩⟩
  · split at q2
    · rename_i ds hs
      obtain ⟨p, vs, rfl, t1, l1⟩ := itemsD_ok rs1 rx hs
      exact ⟨p, vs, rfl, .inl ⟨t1, fun p' hp => q2.newL rs1 l1.reverse hp⟩⟩
    · exact q2.elim
end DL
set_option Elab.async false
set_option linter.all false
set_option maxRecDepth 100000
set_option maxHeartbeats 1000000
/-! DRev2: a tuple's items from behind, without the last one. -/
namespace DL
open PySem PySem.Spec PyProof.Rows L2
section
variable {prog : Program} {w : World} {A : Around} {E : Value → Shared → Prop} {s : Shared}
theorem rev2_pick (xs : Array Value) : ((List.range (xs.size - 1)).filterMap fun (m : Nat) => xs[(((xs.size : Int) - 2) + (m : Int) * (-1)).toNat]?).toArray = (xs.toList.take (xs.size - 1)).reverse.toArray := by
  congr 1
  have key : ∀ n, n ≤ xs.size - 1 → ((List.range n).filterMap fun (m : Nat) => xs[(((xs.size : Int) - 2) + (m : Int) * (-1)).toNat]?) = ((xs.toList.take (xs.size - 1)).reverse).take n := by
    intro n
    induction n with
    | zero => intro _; simp
    | succ n ih =>
      intro hn
      rw [List.range_succ, List.filterMap_append, ih (by omega), List.take_add_one]
      congr 1
      have e : (((xs.size : Int) - 2) + (n : Int) * (-1)).toNat = xs.size - 2 - n := by omega
      have h1 : xs.size - 2 - n < xs.size := by omega
      have h2 : n < (xs.toList.take (xs.size - 1)).reverse.length := by simp; omega
      simp only [List.filterMap_cons, List.filterMap_nil, e]
      rw [Array.getElem?_eq_getElem h1, List.getElem?_eq_getElem h2, List.getElem_reverse, List.getElem_take]
      have hl : (xs.toList.take (xs.size - 1)).length = xs.size - 1 := by simp
      have e3 : (xs.toList.take (xs.size - 1)).length - 1 - n = xs.size - 2 - n := by rw [hl]; omega
      simp only [Option.toList_some]
      congr 1
      rw [← Array.getElem_toList]
      congr 1
      exact e3.symm
  rw [key (xs.size - 1) (Nat.le_refl _), List.take_of_length_le (by simp)]
theorem adjust_rev2 (n : Nat) (h : 0 < n) : Builtin.Slice.sliceAdjust (some (-2)) none (-1) (n : Int) = ((n : Int) - 2, -1) := by
  unfold Builtin.Slice.sliceAdjust
  have : max (-2 + (n : Int)) (-1) = (n : Int) - 2 := by omega
  simp [this]
theorem places_rev2 (n : Nat) (h : 0 < n) : Builtin.Slice.slicePlaces ((n : Int) - 2) (-1) (-1) = n - 1 := by
  unfold Builtin.Slice.slicePlaces
  have h1 : ¬ ((-1 : Int) > 0) := by omega
  simp only [h1, if_false, Int.neg_neg, Int.ediv_one]
  split <;> omega
theorem getItem_tuple_rev2 {t sl : Addr} {items : Array Value} {vl vs : Value} {Q : Value → Shared → Prop} (ht : IsTup s.heap t items) (hs : s.heap.IsSliceOf sl vl .none vs) (pl : IsPart vl (some (-2))) (ps : IsPart vs (some (-1))) (hne : 0 < items.size)
    (h : Q (.ref s.heap.objs.size) { s with heap := s.heap.push { cls := .type "tuple", data := .seq (items.toList.take (items.size - 1)).reverse.toArray } }) (hsz : items.size ≤ sizeLine) : wpAny (model prog w) A (getItem (.ref t) (.ref sl)) Q E s := by
  have fits : sizeOk (.seq (items.toList.take (items.size - 1)).reverse.toArray) := by
    show (items.toList.take (items.size - 1)).reverse.toArray.size ≤ sizeLine
    simp; omega
  obtain ⟨os, hos, hcs, hds⟩ := id hs
  have tyS : s.TypeIs (.ref sl) "slice" := ⟨os, hos, hcs⟩
  unfold getItem
  try with_reducible refine wpAny_holding ?_
  first | refine wpAny_bind (wpAny_pure ?_) | skip
  refine wpAny_bind (wpAny_sequenceKey ht.typeIs (by decide) (wpAny_bind (wpAny_callSpecial?_slot (name := Str.ofString "__getitem__") ht.typeIs PyProof.Rows.slot_tuple_getitem
    (wpAny_call_entry PyProof.Rows.slot_tuple_getitem ht.typeIs entry_tuple_getitem ?_ (args_tuple_getitem _ _)))))
  show wpAny _ _ (Builtin.Tuple.tupleItemsOf (.ref t) >>= _) _ _ s
  refine wpAny_bind (tupleItemsOf_ ht (wpAny_bind (wpAny_typeOf tyS ?_)))
  rw [if_pos (by decide)]
  have applied : ∀ {A : Around} {E : Value → Shared → Prop} {Q : Int × Int × Nat → Shared → Prop}, Q ((items.size : Int) - 2, -1, items.size - 1) s → wpAny (model prog w) A (Builtin.Slice.sliceApplied (.ref sl) (pure (items.size : Int))) Q E s := fun {A E Q} q => by
    unfold Builtin.Slice.sliceApplied Builtin.Slice.sliceFields
    refine wpAny_bind (wpAny_bind (wpAny_field hos hds (x := vl) rfl (wpAny_bind (wpAny_field hos hds (x := .none) rfl (wpAny_bind (wpAny_field hos hds (x := vs) rfl (wpAny_pure ?_)))))))
    refine wpAny_bind (HT.slicePart_ ps ?_)
    show wpAny _ _ (if ((-1 : Int) == 0) = true then _ else _) _ _ s
    rw [if_neg (by decide)]
    refine wpAny_bind (HT.slicePart_ pl (wpAny_bind (slicePart_none (wpAny_bind (wpAny_pure ?_)))))
    show wpAny _ _ (match Builtin.Slice.sliceAdjust (some (-2)) none (-1) (items.size : Int) with | (lo, hi) => pure (lo, (-1 : Int), Builtin.Slice.slicePlaces lo hi (-1))) _ _ s
    rw [adjust_rev2 _ hne]
    show wpAny _ _ (pure ((items.size : Int) - 2, (-1 : Int), Builtin.Slice.slicePlaces ((items.size : Int) - 2) (-1) (-1))) _ _ s
    rw [places_rev2 _ hne]
    exact wpAny_pure q
  refine wpAny_bind (applied ?_)
  have no : ¬ ((((items.size : Int) - 2) == 0 && (-1 : Int) == 1 && items.size - 1 == items.size) = true) := by
    intro q
    rw [Bool.and_eq_true, Bool.and_eq_true] at q
    exact absurd q.1.2 (by decide)
  show wpAny _ _ (if (((items.size : Int) - 2) == 0 && (-1 : Int) == 1 && items.size - 1 == items.size) = true then _ else _) _ _ s
  rw [if_neg no, rev2_pick]
  first
    | exact wpAny_bind (m := Builtin.Tuple.tupleExact _) (wpAny_newObj_type (wpAny_pure ⟨_, rfl, wpAny_pure h⟩) fits)
    | exact wpAny_bind (m := Builtin.Tuple.tupleExact _) (wpAny_newObj_type (wpAny_bind (wpAny_pure (wpAny_pure ⟨_, rfl, wpAny_pure h⟩))) fits)
    | exact wpAny_bind (wpAny_bind (m := Builtin.Tuple.tupleExact _) (wpAny_newObj_type (wpAny_pure (wpAny_pure ⟨_, rfl, wpAny_pure h⟩)) fits))
    | exact wpAny_bind (wpAny_bind (m := Builtin.Tuple.tupleExact _) (wpAny_newObj_type (wpAny_pure ⟨_, rfl, wpAny_pure h⟩) fits))
end
abbrev mRev2 (k m : Nat) (p1 p2 p3 p4 p5 : Pos) : Expr := .Slice (some (.UnaryOp .USub (.Constant (.int 2) m p4) p5)) none (some (.UnaryOp .USub (.Constant (.int 1) k p1) p2)) p3
/-- x[-2::-1] of a tuple -/
theorem pe_rev2A {X : Cx} {e : Expr} {te : TE} {k m : Nat} {p1 p2 p3 p4 p5 pos : Pos} (he : PE X e te) : PE X (.Subscript e (mRev2 k m p1 p2 p3 p4 p5) pos) (fun σ H Q => te σ H fun x H1 => ∃ a xs, x = .ref a ∧
    (SqT X.K H1 a xs ∧ 0 < xs.length ∧ ∀ p, H1 p = none → Q (.ref p) (upd H1 p (.tup (xs.take (xs.length - 1)).reverse)))) := by
  refine ⟨fun pins s σ H Q I h => Subscript_ (thn (he.run pins s σ H _ I h) fun v s1 hh => ?_)⟩
  obtain ⟨x, H1, I1, r1, a, xs, rfl, hx, hne, q⟩ := hh
  obtain rfl : v = Value.ref a := r1
  have minus : PO X (some (.UnaryOp .USub (.Constant (.int 1) k p1) p2)) (tPart (tUn (rU fun i => .int (-i)) (tC (.int 1)))) := po_some (pe_un un_neg pe_int)
  have minus2 : PO X (some (.UnaryOp .USub (.Constant (.int 2) m p4) p5)) (tPart (tUn (rU fun i => .int (-i)) (tC (.int 2)))) := po_some (pe_un un_neg pe_int)
  refine wpAny_Slice (thn (minus2.run pins s1 σ H1 (fun o H2 => o = some (-2) ∧ H2 = H1) I1 ⟨2, rfl, -2, rfl, rfl, rfl⟩) fun vl s2 h2 => ?_)
  obtain ⟨l, H2, I2, pl, rfl, rfl⟩ := h2
  refine thn (po_none.run pins s2 σ H2 (fun o H3 => o = none ∧ H3 = H2) I2 ⟨rfl, rfl⟩) fun vu s3 h3 => ?_
  obtain ⟨u, H3, I3, pu, rfl, rfl⟩ := h3
  refine thn (minus.run pins s3 σ H3 (fun o H4 => o = some (-1) ∧ H4 = H3) I3 ⟨1, rfl, -1, rfl, rfl, rfl⟩) fun vs s4 h4 => ?_
  obtain ⟨o, H4, I4, ps, rfl, rfl⟩ := h4
  have I5 : Inv X pins σ H4 { s4 with heap := s4.heap.push { cls := .type "slice", data := .fields #[vl, vu, vs] } } := I4.kept (t' := s4.toks) fun b ob q => Heap.get?_push_of_some _ q
  show wpAny (model X.prog X.w) X.A (subscriptTail e (mRev2 k m p1 p2 p3 p4 p5) (.ref a) (.ref s4.heap.objs.size)) (EP X pins σ Q) X.xe { s4 with heap := s4.heap.push { cls := .type "slice", data := .fields #[vl, vu, vs] } }
  obtain ⟨its, r, ht, hz⟩ := I5.tuple hx
  have hlen := r.length
  cases pu
  refine tail_any (ops := [.ref a, .ref s4.heap.objs.size]) ht.typeIs PyProof.Rows.slot_tuple_getitem.lookup (getItem_tuple_rev2 ht (Heap.IsSliceOf.new _ vl .none vs) pl ps (by rw [List.size_toArray]; omega) ?_ (by rw [List.size_toArray]; omega)) (by with_unfolding_all rfl)
  have hr := (r.take (its.length - 1)).reverse
  rw [show its.length - 1 = xs.length - 1 by omega] at hr
  have e1 : (its.toArray.toList.take (its.toArray.size - 1)).reverse = (its.take (xs.length - 1)).reverse := by
    rw [List.size_toArray, ← hlen]
  rw [e1]
  exact ⟨.ref _, _, I5.laid (t' := s4.toks) (o := .tup (xs.take (xs.length - 1)).reverse) (fun b ob q => Heap.get?_push_of_some _ q) (Nat.le_refl _) ⟨by rw [List.length_reverse, List.length_take]; omega, _, hr, IsTup.new _ _⟩, rfl, q _ (I5.hok.fresh (Nat.le_refl _))⟩
def isRev2 : Expr → Bool
  | .Slice (some (.UnaryOp .USub (.Constant (.int j) _ _) _)) none (some (.UnaryOp .USub (.Constant (.int i) _ _) _)) _ => i == 1 && j == 2
  | _ => false
theorem isRev2_ok {e : Expr} (h : isRev2 e = true) : ∃ k m p1 p2 p3 p4 p5, e = mRev2 k m p1 p2 p3 p4 p5 := by
  unfold isRev2 at h
  split at h
  · rw [Bool.and_eq_true] at h
    obtain rfl := eq_of_beq h.1
    obtain rfl := eq_of_beq h.2
    exact ⟨_, _, _, _, _, _, _, rfl⟩
  · cases h
/-- [-2::-1] of a tuple that is not empty -/
def rev2D : G1 := fun d S => match d with
  | .tup ds => if 0 < ds.length then some (.tup (ds.take (ds.length - 1)).reverse, S) else none
  | _ => none
theorem de_rev2 {X : Cx} {W : WX} {a s : Expr} {fa : PEx} {pos : Pos} (h : isRev2 s = true) (ha : PE X a (tOf X.K W fa)) : PE X (.Subscript a s pos) (tOf X.K W (eOp1 rev2D fa)) := by
  obtain ⟨k, m, p1, p2, p3, p4, p5, rfl⟩ := isRev2_ok h
  refine PE.imp (pe_rev2A ha) fun σ H Q ⟨ι, S, δ, rs, ro, q⟩ => ⟨ι, S, δ, rs, ro, Post.mono (Post.bind (rel := RD X.K) q) fun v H1 ⟨ι1, S1, x, g1, rs1, rx, q1⟩ => ?_⟩
  have q2 := q1.ofO
  unfold rev2D at q2
  split at q2
  · split at q2
    · rename_i ds hne
      obtain ⟨p, vs, rfl, t1, l1⟩ := rx.tup
      have hl := l1.length
      refine ⟨p, vs, rfl, t1, by omega, fun p' hp => q2.newT rs1 ?_ hp⟩
      rw [← hl]
      exact (l1.take _).reverse
    · exact q2.elim
  · exact q2.elim
end DL
set_option Elab.async false
set_option linter.all false
set_option maxRecDepth 100000
set_option maxHeartbeats 1000000
/-! DRng: a range as a tuple or a list; what is reversed. -/
namespace DL
open PySem L2
open Classical
noncomputable def tupRg1D : G1
  | .int n, S => if RgOk 0 n then some (.tup (rngItems 0 n.toNat 1), S) else none
  | _, _ => none
noncomputable def tupRg2D : G2
  | .int i, .int j, S => if RgOk i j then some (.tup (rngItems i (j - i).toNat 1), S) else none
  | _, _, _ => none
noncomputable def lstRg1D : G1
  | .int n, S => if RgOk 0 n then some (.ref S.length, S ++ [.lst (rngItems 0 n.toNat 1)]) else none
  | _, _ => none
noncomputable def lstRg2D : G2
  | .int i, .int j, S => if RgOk i j then some (.ref S.length, S ++ [.lst (rngItems i (j - i).toNat 1)]) else none
  | _, _, _ => none
def tupRevD : G1 := fun d S => match itemsD d S with
  | some ds => some (.tup ds.reverse, S)
  | none => none
def revItD : List D → SS → Option IT
  | [.ref k], S => match S[k]? with
    | some (.lst ds) => some (ds.reverse, [(k, ds)])
    | _ => none
  | [.tup ds], _ => some (ds.reverse, [])
  | _, _ => none
theorem rds_map {K : PySem.W.Frag} {H : Hp} {ι : List Addr} {α : Type} {f : α → D} {g : α → V} : ∀ (l : List α), (∀ a ∈ l, RD K H ι (f a) (g a)) → RDs K H ι (l.map f) (l.map g)
  | [], _ => RDs.nil
  | a :: l, h => RDs.cons (h a (by simp)) (rds_map l fun b hb => h b (by simp [hb]))
theorem rds_rg {K : PySem.W.Frag} {H : Hp} {ι : List Addr} {i j : Int} : RDs K H ι (rngItems i (j - i).toNat 1) (rgV i j) := by
  refine rds_map _ fun a _ => ?_
  rw [Int.mul_one]
  exact RD.mint
theorem rds_rg0 {K : PySem.W.Frag} {H : Hp} {ι : List Addr} {j : Int} : RDs K H ι (rngItems 0 j.toNat 1) (rgV 0 j) := by
  have := rds_rg (K := K) (H := H) (ι := ι) (i := 0) (j := j)
  rwa [Int.sub_zero] at this
section
variable {X : Cx} {W : WX} {tg a b : Expr} {fa fb : PEx} {p p2 pos pos2 : Pos}
theorem de_tupRg1 (hc : X.calm = true) (hg : Gl X "tuple") (hm : X.mg "tuple" = none) (hg2 : Gl X "range") (hm2 : X.mg "range" = none) (ha : PE X a (tOf X.K W fa)) (na : starEach [a] X.env = (false, eval a X.env) :: starEach [] X.env) :
    PE X (.Call (.Name "tuple" p) [.Call (.Name "range" p2) [a] [] pos2] [] pos) (tOf X.K W (eOp1 tupRg1D fa)) :=
  de_op1 (pe_tupRg hc hg hm (prg_1 hg2 hm2 ha na) rfl) fun x H Q ⟨ι, S, d, rs, rd, q⟩ => by
    unfold tupRg1D at q
    split at q
    · split at q
      · rename_i hr
        rw [rd.int]
        exact ⟨_, rfl, hr, fun q' hq => q.newT rs rds_rg0 hq⟩
      · exact q.elim
    · exact q.elim
theorem de_lstRg1 (hc : X.calm = true) (hg : Gl X "list") (hm : X.mg "list" = none) (hg2 : Gl X "range") (hm2 : X.mg "range" = none) (ha : PE X a (tOf X.K W fa)) (na : starEach [a] X.env = (false, eval a X.env) :: starEach [] X.env) :
    PE X (.Call (.Name "list" p) [.Call (.Name "range" p2) [a] [] pos2] [] pos) (tOf X.K W (eOp1 lstRg1D fa)) :=
  de_op1 (pe_listRg hc hg hm (prg_1 hg2 hm2 ha na) rfl) fun x H Q ⟨ι, S, d, rs, rd, q⟩ => by
    unfold lstRg1D at q
    split at q
    · split at q
      · rename_i hr
        rw [rd.int]
        exact ⟨_, rfl, hr, fun q' hq => q.newL rs rds_rg0 hq⟩
      · exact q.elim
    · exact q.elim
theorem de_tupRg2 (hc : X.calm = true) (hg : Gl X "tuple") (hm : X.mg "tuple" = none) (hg2 : Gl X "range") (hm2 : X.mg "range" = none) (ha : PE X a (tOf X.K W fa)) (hb : PE X b (tOf X.K W fb)) (na : starEach [a, b] X.env = (false, eval a X.env) :: starEach [b] X.env)
    (nb : starEach [b] X.env = (false, eval b X.env) :: starEach [] X.env) (hp : (backTo pos2 (starEach [b] X.env)).any (·.1) = false) : PE X (.Call (.Name "tuple" p) [.Call (.Name "range" p2) [a, b] [] pos2] [] pos) (tOf X.K W (eOp2 tupRg2D fa fb)) :=
  de_op2 (pe_tupRg hc hg hm (prg_2 hg2 hm2 ha hb na nb hp) rfl) fun x y H Q ⟨ι, S, d, e, rs, rd, re, q⟩ => by
    unfold tupRg2D at q
    split at q
    · split at q
      · rename_i hr
        rw [rd.int, re.int]
        exact ⟨_, _, rfl, rfl, hr, fun q' hq => q.newT rs rds_rg hq⟩
      · exact q.elim
    · exact q.elim
theorem de_lstRg2 (hc : X.calm = true) (hg : Gl X "list") (hm : X.mg "list" = none) (hg2 : Gl X "range") (hm2 : X.mg "range" = none) (ha : PE X a (tOf X.K W fa)) (hb : PE X b (tOf X.K W fb)) (na : starEach [a, b] X.env = (false, eval a X.env) :: starEach [b] X.env)
    (nb : starEach [b] X.env = (false, eval b X.env) :: starEach [] X.env) (hp : (backTo pos2 (starEach [b] X.env)).any (·.1) = false) : PE X (.Call (.Name "list" p) [.Call (.Name "range" p2) [a, b] [] pos2] [] pos) (tOf X.K W (eOp2 lstRg2D fa fb)) :=
  de_op2 (pe_listRg hc hg hm (prg_2 hg2 hm2 ha hb na nb hp) rfl) fun x y H Q ⟨ι, S, d, e, rs, rd, re, q⟩ => by
    unfold lstRg2D at q
    split at q
    · split at q
      · rename_i hr
        rw [rd.int, re.int]
        exact ⟨_, _, rfl, rfl, hr, fun q' hq => q.newL rs rds_rg hq⟩
      · exact q.elim
    · exact q.elim
theorem de_tupRev (hc : X.calm = true) (hg : Gl X "tuple") (hm : X.mg "tuple" = none) (hg2 : Gl X "reversed") (hm2 : X.mg "reversed" = none) (ha : PE X a (tOf X.K W fa)) (na : starEach [a] X.env = (false, eval a X.env) :: starEach [] X.env) :
    PE X (.Call (.Name "tuple" p) [.Call (.Name "reversed" p2) [a] [] pos2] [] pos) (tOf X.K W (eOp1 tupRevD fa)) :=
  de_op1 (RT.pe_tupRev hc hg hm hg2 hm2 ha na rfl) fun x H Q ⟨ι, S, d, rs, rd, q⟩ => by
    unfold tupRevD at q
    split at q
    · rename_i ds hs
      obtain ⟨p, vs, rfl, t1, l1⟩ := itemsD_ok rs rd hs
      exact ⟨p, vs, rfl, t1, fun p' hp => q.newT rs l1.reverse hp⟩
    · exact q.elim
theorem rds_rev_get {K : PySem.W.Frag} {H : Hp} {ι : List Addr} {ds : List D} {vs : List V} {i : Nat} {d : D} (r : RDs K H ι ds vs) (h : ds.reverse[i]? = some d) : i < vs.length ∧ ∃ v, vs[vs.length - 1 - i]? = some v ∧ RD K H ι d v := by
  have hl := (List.getElem?_eq_some_iff.mp h).1
  rw [List.length_reverse] at hl
  rw [List.getElem?_reverse hl] at h
  rw [← r.length]
  exact ⟨hl, r.get h⟩
theorem jok_revL {K : PySem.W.Frag} {H0 : Hp} {ι0 : List Addr} {a : Addr} {k n : Nat} {ds : List D} (hk : ι0[k]? = some a) (hn : n = ds.length) : JOk K H0 ι0 (ds.reverse, [(k, ds)]) (Itv K a n) := by
  intro i H ι S g rs gk
  obtain ⟨e, _⟩ := gk
  obtain ⟨vs, h1, h2⟩ := rs.at k _ a e (prefix_get g.pre hk)
  have hl := h2.length
  refine ⟨fun d hd => ?_, fun hl' => by
    have : ds.reverse.length ≤ i := hl'
    rw [List.length_reverse] at this
    show n ≤ i
    omega⟩
  obtain ⟨l1, v, e1, r1⟩ := rds_rev_get h2 hd
  have en : n = vs.length := by omega
  subst en
  refine ⟨⟨l1, vs, v, SqL.of h1, e1⟩, fun x H' y => ?_⟩
  obtain ⟨e2, y2⟩ := y
  subst e2
  have e3 := y2 vs (SqL.of h1)
  rw [e1] at e3
  cases e3
  exact ⟨Gr.refl, rs, r1⟩
theorem jok_revT {K : PySem.W.Frag} {H0 : Hp} {ι0 : List Addr} {a : Addr} {n : Nat} {ds : List D} {vs : List V} (h : SqT K H0 a vs) (r : RDs K H0 ι0 ds vs) (hn : n = vs.length) : JOk K H0 ι0 (ds.reverse, []) (RT.ItvT K a n) := by
  intro i H ι S g rs gk
  have h1 := g.tup a vs h
  have h2 := r.mono g
  have hl := h2.length
  subst hn
  refine ⟨fun d hd => ?_, fun hl' => by
    have : ds.reverse.length ≤ i := hl'
    rw [List.length_reverse] at this
    show vs.length ≤ i
    omega⟩
  obtain ⟨l1, v, e1, r1⟩ := rds_rev_get h2 hd
  refine ⟨⟨l1, vs, v, h1, e1⟩, fun x H' y => ?_⟩
  obtain ⟨e2, y2⟩ := y
  subst e2
  have e3 := y2 vs h1
  rw [e1] at e3
  cases e3
  exact ⟨Gr.refl, rs, r1⟩
theorem di_rev (hg : Gl X "reversed") (hm : X.mg "reversed" = none) (ha : PE X a (tOf X.K W fa)) (hs : starEach [a] X.env = (false, eval a X.env) :: starEach [] X.env) : PI X tg (.Call (.Name "reversed" p) [a] [] pos) (iOf X.K W (iOn revItD (aCons fa aNil))) :=
  PI.imp (RT.pi_revA hg hm ha hs) fun σ H Rr h => by
    obtain ⟨ι, S, δ, rs, ro, q⟩ := h
    refine ⟨ι, S, δ, rs, ro, ?_⟩
    have q' : Post (JOk X.K) X.K W ι H σ ((fa δ S).bind fun x S1 => ofI (revItD [x] S1) S1) Rr := by
      have e : (iOn revItD (aCons fa aNil)) δ S = (fa δ S).bind fun x S1 => ofI (revItD [x] S1) S1 := by
        unfold iOn aCons aNil
        cases fa δ S <;> rfl
      rw [← e]
      exact q
    refine Post.mono (Post.bind (rel := RD X.K) q') fun v H1 ⟨ι1, S1, x, g1, rs1, rx, q1⟩ => ?_
    cases x with
    | ref k =>
      have q1 : Post (JOk X.K) X.K W ι1 H1 σ (ofI (match S1[k]? with
        | some (.lst ds) => some (ds.reverse, [(k, ds)])
        | _ => none) S1) Rr := q1
      split at q1
      · rename_i ds hk
        obtain ⟨a', us, rfl, h0, h1, h2⟩ := rs1.lst hk rx
        exact ⟨a', us, rfl, .inl ⟨SqL.of h1, q1 _ H1 ι1 Gr.refl rs1 (jok_revL h0 h2.length.symm)⟩⟩
      · exact q1.elim
    | tup ds =>
      obtain ⟨a', us, rfl, t1, l1⟩ := rx.tup
      exact ⟨a', us, rfl, .inr ⟨t1, q1 _ H1 ι1 Gr.refl rs1 (jok_revT t1 l1 rfl)⟩⟩
    | _ => exact q1.elim
end
end DL
set_option Elab.async false
set_option linter.all false
set_option maxRecDepth 100000
/-! DAll: every expression at once. -/
namespace DL
open PySem L2

def ixOf : List Str → Str → Nat → Option Nat
  | [], _, _ => none
  | y :: r, x, i => if y = x then some i else ixOf r x (i + 1)
theorem ixOf_ok {x : Str} : ∀ {N : List Str} {i j : Nat}, ixOf N x i = some j → ∃ k, j = i + k ∧ N[k]? = some x
  | [], _, _, h => by cases h
  | y :: r, i, j, h => by
    unfold ixOf at h
    split at h
    · rename_i e
      cases h
      exact ⟨0, rfl, by simp [e]⟩
    · obtain ⟨k, e1, e2⟩ := ixOf_ok h
      exact ⟨k + 1, by omega, by simpa using e2⟩
def noStar : Expr → Bool
  | .Starred .. => false
  | _ => true
theorem star_cons {e : Expr} {es : List Expr} {env : Env} (h : noStar e = true) : starEach (e :: es) env = (false, eval e env) :: starEach es env := by
  cases e <;> first | rfl | (cases h)
theorem star_any {env : Env} {pos : Pos} : ∀ {es : List Expr}, es.all noStar = true → (backTo pos (starEach es env)).any (·.1) = false
  | [], _ => rfl
  | e :: es, h => by
    rw [List.all_cons, Bool.and_eq_true] at h
    rw [star_cons h.1]
    show (false || (backTo pos (starEach es env)).any (·.1)) = false
    rw [star_any h.2]
    rfl
theorem star_all {env : Env} {pos : Pos} : ∀ {es : List Expr}, es.all noStar = true → (backTo pos (starEach es env)).all (fun x => !x.1) = true
  | [], _ => rfl
  | e :: es, h => by
    rw [List.all_cons, Bool.and_eq_true] at h
    rw [star_cons h.1]
    show (true && (backTo pos (starEach es env)).all (fun x => !x.1)) = true
    rw [star_all h.2]
    rfl

/-! ### methods of built-in types -/
structure Mi where
  ty : String
  id : String
  g : D → List D → SS → Option (D × SS)
def rOfM (K : PySem.W.Frag) (g : D → List D → SS → Option (D × SS)) : V → List V → Hp → VK → Prop := fun x xs H Q => ∃ ι S d ds, RelS K H ι S ∧ RD K H ι d x ∧ RDs K H ι ds xs ∧ PostN K ι H (g d ds S) Q
structure MiOk (name : Str) (m : Mi) : Prop where
  pa : PlainAttrs m.ty
  sl : Slot m.ty name m.id
  ty : typeOf (.builtin m.id) = pure (.type "method_descriptor")
  call : ∀ X : Cx, X.calm = true → X.A.guards = some [] → X.A.units + 64 < cLine → MtR X m.id (rOfM X.K m.g)
def isTy (T : String) (d : D) (S : SS) : Bool := match d with
  | .str _ => T == "str"
  | .ref k => match S[k]? with
    | some (.lst _) => T == "list"
    | some (.dct _) => T == "dict"
    | none => false
  | .rls _ => T == "list"
  | _ => false
theorem isTy_ok {K : PySem.W.Frag} {ι : List Addr} {H : Hp} {S : SS} {T : String} {d : D} {v : V} (s : RelS K H ι S) (r : RD K H ι d v) (h : isTy T d S = true) : tyV K T v H := by
  cases d with
  | str z => rw [r.str]; exact (by simpa [isTy] using h : T = "str")
  | rls ds =>
    obtain ⟨a, vs, rfl, h1, _⟩ := r.rls
    exact .inl ⟨by simpa [isTy] using h, vs, h1.sq⟩
  | ref k =>
    simp only [isTy] at h
    split at h
    · rename_i ds e
      obtain ⟨a, vs, rfl, _, h1, _⟩ := s.lst e r
      exact .inl ⟨by simpa using h, vs, SqL.of h1⟩
    · rename_i ds e
      obtain ⟨a, rfl, q⟩ := r.ref
      obtain ⟨vs, h1, _⟩ := s.at k _ a e q
      exact .inr (.inr (.inl ⟨by simpa using h, .inl ⟨vs, h1⟩⟩))
    · cases h
  | _ => simp [isTy] at h
def eMt (m : Mi) (o : PEx) (a : PAs) : PEx := fun δ S => (o δ S).bind fun x S1 => if isTy m.ty x S1 = true then (a δ S1).bind fun xs S2 => R.ofO (m.g x xs S2) else .bad
/-- only a call of super without arguments is looked at -/
def noSup : Expr → Bool
  | .Call (.Name _ _) [] [] _ => false
  | _ => true
theorem base_of {o : Expr} {m : Str} {env : Env} {w : Sem Value} (h : noSup o = true) : attributeBase o m env w = w := by
  unfold attributeBase
  split
  · cases h
  · rfl

section
variable {X : Cx} {W : WX} {o e : Expr} {es : List Expr} {fo : PEx} {f : PAs} {ap pos : Pos} {m : Str} {mi : Mi}
theorem i_mt {σ : St} {H : Hp} {Q : VK} (h : tOf X.K W (eMt mi fo f) σ H Q) : tBM X.K mi.ty (rOfM X.K mi.g) (tOf X.K W fo) (tOfA X.K W f) σ H Q := by
  obtain ⟨ι, S, δ, rs, ro, q⟩ := h
  refine ⟨ι, S, δ, rs, ro, Post.mono (Post.bind (rel := RD X.K) q) fun v H1 ⟨ι1, S1, x, g1, rs1, rx, q1⟩ => ?_⟩
  split at q1
  · rename_i ht
    refine ⟨isTy_ok rs1 rx ht, ι1, S1, δ, rs1, ro.mono g1, Post.mono (Post.bind (rel := RDs X.K) q1) fun vs H2 ⟨ι2, S2, xs, g2, rs2, rxs, q2⟩ => ?_⟩
    exact ⟨ι2, S2, x, xs, rs2, rx.mono g2, rxs, q2.ofO⟩
  · exact q1.elim
theorem de_mt (M : MiOk m mi) (hc : X.calm = true) (gd : X.A.guards = some []) (hu : X.A.units + 64 < cLine) (ho : PE X o (tOf X.K W fo)) (ha : PA X (e :: es) (tOfA X.K W f)) (hs : (e :: es).all noStar = true) (hn : (e :: es).length < 30) (hp : noSup o = true) (hl : (ap.endLine == pos.line) = true) :
    PE X (.Call (.Attribute o m ap) (e :: es) [] pos) (tOf X.K W (eMt mi fo f)) := by
  have hs2 := hs
  rw [List.all_cons, Bool.and_eq_true] at hs2
  refine PE.imp (pe_bm M.pa M.sl M.ty (M.call X hc gd hu) ho ha (base_of hp) ?_ hl (star_cons hs2.1) (star_any hs2.2)) fun _ _ _ h => i_mt h
  rw [star_all hs]
  show (true && true && decide ((e :: es).length + 0 + 0 < 30)) = true
  simpa using hn
theorem de_mt0 (M : MiOk m mi) (hc : X.calm = true) (gd : X.A.guards = some []) (hu : X.A.units + 64 < cLine) (ho : PE X o (tOf X.K W fo)) (hp : noSup o = true) (hl : (ap.endLine == pos.line) = true) :
    PE X (.Call (.Attribute o m ap) [] [] pos) (tOf X.K W (eMt mi fo aNil)) := by
  refine PE.imp (pe_bm0 M.pa M.sl M.ty (M.call X hc gd hu) ho (base_of hp) hl) fun σ H Q h => ?_
  obtain ⟨ι, S, δ, rs, ro, q⟩ := i_mt h
  refine ⟨ι, S, δ, rs, ro, q.mono fun v H1 ⟨ty, ι1, S1, δ1, rs1, ro1, q1⟩ => ⟨ty, q1 [] H1 ι1 Gr.refl rs1 RDs.nil⟩⟩
end

/-! ### all forms -/
def glb (E : SE) (x : Str) : Option GV := match E.sc.names.lookup x with
  | some .globalImplicit => E.G x
  | _ => none
def dName (E : SE) (x : Str) : PEx := match E.sc.names.lookup x with
  | some .globalImplicit => (match E.G x with
    | some (.val d) => eC d
    | some (.bi b) => (match b.v with
      | .type T => eC (.ty T)
      | _ => eBad)
    | _ => eBad)
  | some .local | some .cell | some .free => (match ixOf E.N x 0 with
    | some i => if (x == ("__debug__" : Str) || x == ("__classdict__" : Str)) = true then eBad else eVar i
    | none => eBad)
  | _ => eBad
def dConst : Const → PEx
  | .none => eC .non
  | .bool b => eC (.bl b)
  | .int i => eC (.int i)
  | .str x => eC (.str x)
  | _ => eBad
/-- what may be stored to -/
def slotOf (E : SE) (x : Str) : Option Nat := match E.sc.names.lookup x with
  | some .local => ixOf E.N x 0
  | some .cell => if E.fn x = true then ixOf E.N x 0 else none
  | _ => none
def slotsOf (E : SE) : List Expr → Option (List Nat)
  | [] => some []
  | .Name x _ :: r => match slotOf E x, slotsOf E r with
    | some i, some is => some (i :: is)
    | _, _ => none
  | _ => none
def dCT (E : SE) : Expr → Option CT
  | .Name x _ => (slotOf E x).map .one
  | .Tuple es _ _ => (slotsOf E es).map .many
  | _ => none
def namesOf : Expr → List Str
  | .Name x _ => [x]
  | .Tuple es _ _ => es.filterMap fun | .Name x _ => some x | _ => none
  | _ => []
abbrev EV := PEx × PTs'
def mkV (a : PEx) : EV := (a, tTru a)
def mkB (a : PEx) : EV := (a, tVal a)
def foldV (op : BoolOp) : List EV → PEx
  | [] => eBad
  | [f] => f.1
  | f :: r => match op with
    | .And => eAnd f.1 (foldV op r)
    | .Or => eOr f.1 (foldV op r)
def foldT (op : BoolOp) : List EV → PTs'
  | [] => tBad
  | [f] => f.2
  | f :: r => match op with
    | .And => tAnd' f.2 (foldT op r)
    | .Or => tOr' f.2 (foldT op r)
def argsOf : List EV → PAs
  | [] => aNil
  | f :: r => aCons f.1 (argsOf r)
def cmpF (a : EV) (ops : List CmpOp) (cs : List Expr) (fs : List EV) : EV := match ops, cs, fs with
  | [op], [b], [f] => if behindInMarks op b = true then (eBad, tBad) else mkB (eOp2 (cmpD op) a.1 f.1)
  | [op, op'], [b, c], [f, g] => if lastMarks [op, op'] [b, c] = true then (eBad, tBad) else mkB (eChain (cmpD op) (cmpD op') a.1 f.1 g.1)
  | _, _, _ => (eBad, tBad)
def callF (E : SE) (M : Str → Option Mi) (func : Expr) (args : List Expr) (kws : List Keyword) (pos : Pos) (fo : PEx) (fs : List EV) : PEx := match kws with
  | [] => match func with
    | .Name x _ => match glb E x with
      | some (.bi b) => (match args with
        | [] => eBad
        | _ => if args.all noStar = true then eCB b.g (argsOf fs) else eBad)
      | some (.fn f n) => if args.all noStar = true then eCall f n (argsOf fs) else eBad
      | some (.fnd f n d) => (match args with
        | [] => eBad
        | e :: es => if (e :: es).all noStar = true then (if (e :: es).length = n then eCall f n (argsOf fs) else if (e :: es).length + 1 = n then eCall (fun ds S => f (ds ++ [d]) S) (e :: es).length (argsOf fs) else eBad) else eBad)
      | _ => eBad
    | .Attribute o m ap => match M m with
      | some mi => if args.all noStar = true ∧ args.length < 30 ∧ noSup o = true ∧ (ap.endLine == pos.line) = true then eMt mi fo (argsOf fs) else eBad
      | none => eBad
    | _ => eBad
  | _ => eBad
/-- tuple(range(..)), list(range(..)), tuple(reversed(..)) -/
noncomputable def callX (E : SE) (M : Str → Option Mi) (func : Expr) (args : List Expr) (kws : List Keyword) (pos : Pos) (fo : PEx) (fs gs : List EV) : PEx := match func, args, kws with
  | .Name x _, [.Call (.Name y _) as [] _], [] => match glb E y with
    | some .it => (match glb E x with
      | some (.bi _) => if as.all noStar = true then
          (if x = "tuple" ∧ y = "range" then (match as, gs with
            | [_], [f] => eOp1 tupRg1D f.1
            | [_, _], [f, g] => eOp2 tupRg2D f.1 g.1
            | _, _ => eBad)
          else if x = "list" ∧ y = "range" then (match as, gs with
            | [_], [f] => eOp1 lstRg1D f.1
            | [_, _], [f, g] => eOp2 lstRg2D f.1 g.1
            | _, _ => eBad)
          else if x = "tuple" ∧ y = "reversed" then (match as, gs with
            | [_], [f] => eOp1 tupRevD f.1
            | _, _ => eBad)
          else eBad) else eBad
      | _ => eBad)
    | _ => callF E M func args kws pos fo fs
  | _, _, _ => callF E M func args kws pos fo fs
def plainIx : Expr → Bool
  | .Slice .. => false
  | _ => true
def iterF (E : SE) (tg iter : Expr) (fs : List EV) (fv : PEx) : PIt := match iter with
  | .Call (.Name x _) args [] _ => match glb E x with
    | some .it => if args.all noStar = true then
        (if x = "range" then (match args with
          | [_] => iOn rng1D (argsOf fs)
          | [_, _] => iOn rng2D (argsOf fs)
          | [_, _, _] => iOn rng3D (argsOf fs)
          | _ => iBad)
        else if x = "reversed" then (match args with
          | [_] => iOn revItD (argsOf fs)
          | _ => iBad)
        else match tg with
          | .Tuple .. => if x = "enumerate" then (match args with
              | [_] => iOn enuD (argsOf fs)
              | _ => iBad)
            else if x = "zip" then (match args with
              | [_, _] => iOn zpD (argsOf fs)
              | _ => iBad)
            else iBad
          | _ => iBad) else iBad
    | _ => iVal fv
  | _ => iVal fv
def noSet : Expr → Bool
  | .Set .. => false
  | _ => true
/-- the names in a comprehension's block -/
def blkSE (E : SE) (scope : Scope) : SE := { E with sc := relS scope E.sc, fn := fun x => scope.names.lookup x == some .cell }
def ownOf (E : SE) : List Str → Option (List (Str × Nat))
  | [] => some []
  | x :: r => match ixOf E.N x 0, ownOf E r with
    | some i, some l => some ((x, i) :: l)
    | _, _ => none
def tYes' : PTs' := fun _ S => .ok true S
def testsF : List EV → Option PTs'
  | [] => some tYes'
  | [f] => some f.2
  | _ => none
mutual
noncomputable def dX (M : Str → Option Mi) : Expr → SE → EV
  | .Constant c _ _, _ => mkV (dConst c)
  | .Name x _, E => mkV (dName E x)
  | .BinOp a op b _, E => mkV (eOp2 (binD op) (dX M a E).1 (dX M b E).1)
  | .UnaryOp op a _, E => match op with
    | .USub => mkV (eOp1 negD (dX M a E).1)
    | .Not => (eOp1 notD (dX M a E).1, tNot' (dX M a E).2)
    | _ => (eBad, tBad)
  | .BoolOp op es _, E => (foldV op (dL M es E), foldT op (dL M es E))
  | .IfExp c a b _, E => (eIf (dX M c E).2 (dX M a E).1 (dX M b E).1, tIf' (dX M c E).2 (dX M a E).2 (dX M b E).2)
  | .Compare a ops cs _, E => cmpF (dX M a E) ops cs (dL M cs E)
  | .Tuple es _ _, E => mkV (if es.all noStar = true then eTup (argsOf (dL M es E)) else eBad)
  | .List es _, E => mkV (if es.all noStar = true then eLst (argsOf (dL M es E)) else eBad)
  | .Call func args kws pos, E => mkV (callX E M func args kws pos (dRecv M func E) (dL M args E) (dA1 M args E))
  | .Subscript a s _, E => mkV (match dSl M s E with
    | some (lo, hi) => eSl (dX M a E).1 lo hi
    | none => if plainIx s = true then eOp2 ixD (dX M a E).1 (dX M s E).1 else if isRev s = true then eOp1 revD (dX M a E).1 else if isRev2 s = true then eOp1 rev2D (dX M a E).1 else eBad)
  | .ListComp elt gens scope _, E => mkV (match dGen M gens E (blkSE E scope) with
    | some (tg, iter, it, ct, t) => (match ownOf E (namesOf tg) with
      | some own => if blkC E.N E.sc scope own = true ∧ (∀ i ∈ ct.slots, i ∈ own.map (·.2)) ∧ noSet iter = true then eLc it ct (own.map (·.2)) t (dX M elt (blkSE E scope)).1 else eBad
      | none => eBad)
    | none => eBad)
  | _, _ => (eBad, tBad)
noncomputable def dL (M : Str → Option Mi) : List Expr → SE → List EV
  | [], _ => []
  | e :: es, E => dX M e E :: dL M es E
noncomputable def dA1 (M : Str → Option Mi) : List Expr → SE → List EV
  | [], _ => []
  | e :: _, E => dArgs M e E
noncomputable def dRecv (M : Str → Option Mi) : Expr → SE → PEx
  | .Attribute o _ _, E => (dX M o E).1
  | _, _ => eBad
noncomputable def dSl (M : Str → Option Mi) : Expr → SE → Option (PO' × PO')
  | .Slice lo hi st _, E => match st with
    | none => some (dO M lo E, dO M hi E)
    | some _ => none
  | _, _ => none
noncomputable def dO (M : Str → Option Mi) : Option Expr → SE → PO'
  | none, _ => oNone
  | some e, E => oSome (dX M e E).1
/-- a for's head: its own iterator -/
noncomputable def dArgs (M : Str → Option Mi) : Expr → SE → List EV
  | .Call _ args _ _, E => dL M args E
  | _, _ => []
noncomputable def dGen (M : Str → Option Mi) : List Comprehension → SE → SE → Option (Expr × Expr × PIt × CT × PTs')
  | [g], E, E' => dG1 M g E E'
  | _, _, _ => none
noncomputable def dG1 (M : Str → Option Mi) : Comprehension → SE → SE → Option (Expr × Expr × PIt × CT × PTs')
  | ⟨tg, iter, ifs, a⟩, E, E' => if a = 0 then (match dCT E' tg, testsF (dL M ifs E') with
    | some ct, some t => some (tg, iter, iterF E tg iter (dArgs M iter E) (dX M iter E).1, ct, t)
    | _, _ => none) else none
end
noncomputable def dI (M : Str → Option Mi) (tg iter : Expr) (E : SE) : PIt := iterF E tg iter (dArgs M iter E) (dX M iter E).1
end DL
set_option Elab.async false
set_option linter.all false
set_option maxRecDepth 100000
/-! DSound: the machine agrees with every expression's tree. -/
namespace DL
open PySem L2

def AllE (X : Cx) (W : WX) : List Expr → List EV → Prop
  | [], [] => True
  | e :: es, f :: fs => PE X e (tOf X.K W f.1) ∧ PT X e (tOfT X.K W f.2) ∧ AllE X W es fs
  | _, _ => False
section
variable {X : Cx} {W : WX} {E : SE}
theorem Ctx.kind (C : Ctx X W E) (x : Str) : X.env.kindOf x = E.sc.names.lookup x := by
  unfold Env.kindOf
  rw [C.sc]
theorem dName_ok (C : Ctx X W E) {x : Str} {p : Pos} : PE X (.Name x p) (tOf X.K W (dName E x)) := by
  have hk := C.kind x
  have vis : ∀ i, ixOf E.N x 0 = some i → Vis X.env.scope x → PE X (.Name x p) (tOf X.K W (if (x == ("__debug__" : Str) || x == ("__classdict__" : Str)) = true then eBad else eVar i)) := fun i hi hv => by
    split
    · exact pe_bad
    · rename_i hn
      simp only [Bool.or_eq_true, not_or, Bool.not_eq_true] at hn
      obtain ⟨k, e1, e2⟩ := ixOf_ok hi
      have : i = k := by omega
      subst this
      exact de_var (by rw [C.n]; exact e2) hv hn.1 hn.2
  unfold dName
  split
  · rename_i hl
    have hg : Gl X x := hk.trans hl
    split
    · rename_i d hd
      obtain ⟨h1, u, v, h2, h3, h4⟩ := C.g x _ hd
      exact de_c (pe_glob hg h2 h3 h1) h4
    · rename_i b hb
      obtain ⟨rfl, h2, h3⟩ := C.g x _ hb
      split
      · rename_i T hT
        have hb := h3.boot
        rw [hT] at hb
        exact de_c (pe_bltn (v := .ty T) hg h2 hb rfl h3.nm h3.nd) fun _ _ => RD.mty
      · exact pe_bad
    · exact pe_bad
  · rename_i hl
    split
    · rename_i i hi
      exact vis i hi (.inl (by rw [C.sc]; exact hl))
    · exact pe_bad
  · rename_i hl
    split
    · rename_i i hi
      exact vis i hi (.inr (.inl (by rw [C.sc]; exact hl)))
    · exact pe_bad
  · rename_i hl
    split
    · rename_i i hi
      exact vis i hi (.inr (.inr (by rw [C.sc]; exact hl)))
    · exact pe_bad
  · exact pe_bad
theorem dConst_ok {c : Const} {k : Nat} {p : Pos} : PE X (.Constant c k p) (tOf X.K W (dConst c)) := by
  cases c with
  | none => exact de_c pe_non fun _ _ => RD.mnon
  | bool b => exact de_c pe_bl fun _ _ => RD.mbl
  | int b => exact de_c pe_int fun _ _ => RD.mint
  | str b => exact de_c pe_str fun _ _ => RD.mstr
  | _ => exact pe_bad
theorem foldV_ok {op : BoolOp} {p : Pos} : ∀ {es : List Expr} {fs : List EV}, AllE X W es fs → PE X (.BoolOp op es p) (tOf X.K W (foldV op fs))
  | [], [], _ => pe_bad
  | [e], [f], h => pe_one h.1
  | e :: e2 :: es, f :: f2 :: fs, h => by
    have ih := foldV_ok (op := op) (p := p) h.2.2
    cases op with
    | And => exact de_and h.1 ih
    | Or => exact de_or h.1 ih
  | [], _ :: _, h => h.elim
  | _ :: _, [], h => h.elim
  | [_], _ :: _ :: _, h => h.2.2.elim
  | _ :: _ :: _, [_], h => h.2.2.elim
theorem foldW_ok {op : BoolOp} {p : Pos} : ∀ {es : List Expr} {fs : List EV}, AllE X W es fs → PW X (.BoolOp op es p) (tOfT X.K W (foldT op fs))
  | [], [], _ => pw_bad
  | [e], [f], h => by
    cases op with
    | And => exact pw_and1 h.2.1
    | Or => exact pw_or1 h.2.1
  | e :: e2 :: es, f :: f2 :: fs, h => by
    have ih := foldW_ok (op := op) (p := p) h.2.2
    cases op with
    | And => exact dw_and h.2.1 ih
    | Or => exact dw_or h.2.1 ih
  | [], _ :: _, h => h.elim
  | _ :: _, [], h => h.elim
  | [_], _ :: _ :: _, h => h.2.2.elim
  | _ :: _ :: _, [_], h => h.2.2.elim
theorem argsOf_ok : ∀ {es : List Expr} {fs : List EV}, AllE X W es fs → es.all noStar = true → PA X es (tOfA X.K W (argsOf fs))
  | [], [], _, _ => da_nil
  | e :: es, f :: fs, h, hs => by
    rw [List.all_cons, Bool.and_eq_true] at hs
    exact da_cons h.1 (argsOf_ok h.2.2 hs.2) (star_cons hs.1)
  | [], _ :: _, h, _ => h.elim
  | _ :: _, [], h, _ => h.elim
abbrev EOk (X : Cx) (W : WX) (e : Expr) (f : EV) : Prop := PE X e (tOf X.K W f.1) ∧ PT X e (tOfT X.K W f.2)
theorem ok_bad {e : Expr} : EOk X W e (eBad, tBad) := ⟨pe_bad, pt_bad⟩
theorem cmpF_ok (C : Ctx X W E) {a : Expr} {fa : EV} {ops : List CmpOp} {cs : List Expr} {fs : List EV} {p : Pos} (ha : PE X a (tOf X.K W fa.1)) (hc : AllE X W cs fs) : EOk X W (.Compare a ops cs p) (cmpF fa ops cs fs) := by
  unfold cmpF
  split
  · rename_i op b f
    split
    · exact ok_bad
    · rename_i hm
      have hm : behindInMarks op b = false := by simpa using hm
      exact ⟨de_cmp C.un ha hc.1 hm, dt_cmp C.un ha hc.1 hm⟩
  · rename_i op op' b c f g
    split
    · exact ok_bad
    · rename_i hm
      have hm : lastMarks [op, op'] [b, c] = false := by simpa using hm
      exact ⟨de_chain C.un ha hc.1 hc.2.2.1 hm, dt_chain C.un ha hc.1 hc.2.2.1 hm⟩
  · exact ok_bad
theorem glb_ok (C : Ctx X W E) {x : Str} {g : GV} (h : glb E x = some g) : Gl X x ∧ GOk X x g := by
  unfold glb at h
  split at h
  · rename_i hl
    exact ⟨(C.kind x).trans hl, C.g x g h⟩
  · cases h
theorem callF_ok (C : Ctx X W E) {M : Str → Option Mi} (hM : ∀ n mi, M n = some mi → MiOk n mi) {func : Expr} {args : List Expr} {kws : List Keyword} {pos : Pos} {fo : PEx} {fs : List EV}
    (ho : ∀ o m ap, func = .Attribute o m ap → PE X o (tOf X.K W fo)) (ha : AllE X W args fs) : PE X (.Call func args kws pos) (tOf X.K W (callF E M func args kws pos fo fs)) := by
  unfold callF
  split
  · split
    · rename_i x p
      split
      · rename_i b hb
        obtain ⟨hg, h1, h2, h3⟩ := glb_ok C hb
        split
        · exact pe_bad
        · split
          · rename_i hne hs
            cases args with
            | nil => exact absurd rfl hne
            | cons e es =>
              have hs2 := hs
              rw [List.all_cons, Bool.and_eq_true] at hs2
              exact de_cb h3 h1 h2 hg C.calm C.gd C.un (argsOf_ok ha hs) (star_cons hs2.1) (star_any hs2.2)
          · exact pe_bad
      · rename_i f n hb
        obtain ⟨hg, hdb, fa, fd, ps, k, h1, h2, h3, rfl, h5, h6⟩ := glb_ok C hb
        split
        · rename_i hs
          cases args with
          | nil =>
            cases fs with
            | nil =>
              cases ps with
              | nil => exact de_call0 h3 h5 C.gd h6 C.tk hg h1 h2 hdb
              | cons y ps =>
                refine ⟨fun _ _ _ _ _ _ ⟨ι, S, δ, rs, ro, q⟩ => ?_⟩
                simp [eCall, argsOf, aNil, R.bind] at q
                exact q.elim
            | cons _ _ => exact ha.elim
          | cons e es =>
            have hs2 := hs
            rw [List.all_cons, Bool.and_eq_true] at hs2
            exact de_call h3 h5 C.gd h6 C.tk hg h1 h2 hdb (argsOf_ok ha hs) (star_cons hs2.1) (star_any hs2.2)
        · exact pe_bad
      · rename_i f n d hb
        obtain ⟨hg, hdb, fa, fd, ps, k, h1, h2, h3, rfl, h5, h6, dv, v, h7, h8, h9⟩ := glb_ok C hb
        split
        · exact pe_bad
        · split
          · rename_i hs
            have hs2 := hs
            rw [List.all_cons, Bool.and_eq_true] at hs2
            split
            · exact de_call h3 h5 C.gd h6 C.tk hg h1 h2 hdb (argsOf_ok ha hs) (star_cons hs2.1) (star_any hs2.2)
            · split
              · rename_i hl
                exact de_calld h3 h5 C.gd h7 h8 h9 hl C.tk hg h1 h2 hdb (argsOf_ok ha hs) (star_cons hs2.1) (star_any hs2.2)
              · exact pe_bad
          · exact pe_bad
      · exact pe_bad
    · rename_i o m ap
      split
      · rename_i mi hm
        split
        · rename_i hc
          obtain ⟨c1, c2, c3, c4⟩ := hc
          cases args with
          | nil =>
            cases fs with
            | nil => exact de_mt0 (hM _ _ hm) C.calm C.gd C.un (ho _ _ _ rfl) c3 c4
            | cons _ _ => exact ha.elim
          | cons e es => exact de_mt (hM _ _ hm) C.calm C.gd C.un (ho _ _ _ rfl) (argsOf_ok ha c1) c1 c2 c3 c4
        · exact pe_bad
      · exact pe_bad
    · exact pe_bad
  · exact pe_bad
theorem callX_ok (C : Ctx X W E) {M : Str → Option Mi} (hM : ∀ n mi, M n = some mi → MiOk n mi) {func : Expr} {args : List Expr} {kws : List Keyword} {pos : Pos} {fo : PEx} {fs gs : List EV}
    (ho : ∀ o m ap, func = .Attribute o m ap → PE X o (tOf X.K W fo)) (ha : AllE X W args fs) (hg1 : ∀ f as kws p r, args = .Call f as kws p :: r → AllE X W as gs) : PE X (.Call func args kws pos) (tOf X.K W (callX E M func args kws pos fo fs gs)) := by
  unfold callX
  split
  · rename_i x p y p2 as pos2
    have hga := hg1 _ _ _ _ _ rfl
    split
    · rename_i hy
      obtain ⟨g2, m2⟩ := glb_ok C hy
      have m2 : X.mg y = none := m2
      split
      · rename_i b hb
        obtain ⟨g1, e1, m1, _⟩ := glb_ok C hb
        split
        · rename_i hs
          split
          · rename_i hx
            obtain ⟨rfl, rfl⟩ := hx
            split
            · simp only [List.all_cons, List.all_nil, Bool.and_true] at hs
              exact de_tupRg1 C.calm g1 m1 g2 m2 hga.1 (star_cons hs)
            · simp only [List.all_cons, List.all_nil, Bool.and_true, Bool.and_eq_true] at hs
              exact de_tupRg2 C.calm g1 m1 g2 m2 hga.1 hga.2.2.1 (star_cons hs.1) (star_cons hs.2) (star_any (by simp [hs.2]))
            · exact pe_bad
          · split
            · rename_i hx
              obtain ⟨rfl, rfl⟩ := hx
              split
              · simp only [List.all_cons, List.all_nil, Bool.and_true] at hs
                exact de_lstRg1 C.calm g1 m1 g2 m2 hga.1 (star_cons hs)
              · simp only [List.all_cons, List.all_nil, Bool.and_true, Bool.and_eq_true] at hs
                exact de_lstRg2 C.calm g1 m1 g2 m2 hga.1 hga.2.2.1 (star_cons hs.1) (star_cons hs.2) (star_any (by simp [hs.2]))
              · exact pe_bad
            · split
              · rename_i hx
                obtain ⟨rfl, rfl⟩ := hx
                split
                · simp only [List.all_cons, List.all_nil, Bool.and_true] at hs
                  exact de_tupRev C.calm g1 m1 g2 m2 hga.1 (star_cons hs)
                · exact pe_bad
              · exact pe_bad
        · exact pe_bad
      · exact pe_bad
    · exact callF_ok C hM ho ha
  · exact callF_ok C hM ho ha
theorem iterF_ok (C : Ctx X W E) {tg iter : Expr} {fs : List EV} {fv : PEx} (hv : PE X iter (tOf X.K W fv)) (ha : ∀ f args kws p, iter = .Call f args kws p → AllE X W args fs) : PI X tg iter (iOf X.K W (iterF E tg iter fs fv)) := by
  unfold iterF
  split
  · rename_i x p args pos
    replace ha := ha _ _ _ _ rfl
    split
    · rename_i hb
      obtain ⟨hg, hm⟩ := glb_ok C hb
      have hm : X.mg x = none := hm
      split
      · rename_i hs
        have hp := argsOf_ok ha hs
        split
        · rename_i hx
          subst hx
          split
          · rename_i a
            simp only [List.all_cons, List.all_nil, Bool.and_true] at hs
            exact di_rng1 hg hm hp (star_cons hs)
          · rename_i a b
            simp only [List.all_cons, List.all_nil, Bool.and_true, Bool.and_eq_true] at hs
            exact di_rng2 hg hm hp (by rw [star_cons hs.1, star_cons hs.2]; rfl) (by rw [star_cons hs.2]; rfl)
          · rename_i a b c
            simp only [List.all_cons, List.all_nil, Bool.and_true, Bool.and_eq_true] at hs
            exact di_rng3 hg hm hp (star_cons hs.1) (star_any (by simp [hs.2]))
          · exact pi_bad
        split
        · rename_i hx
          subst hx
          split
          · rename_i a
            simp only [List.all_cons, List.all_nil, Bool.and_true] at hs
            match fs, ha with
            | [f], ha => exact di_rev hg hm ha.1 (star_cons hs)
          · exact pi_bad
        · split
          · split
            · rename_i hx
              subst hx
              split
              · simp only [List.all_cons, List.all_nil, Bool.and_true] at hs
                exact di_enum hg hm hp (star_cons hs)
              · exact pi_bad
            · split
              · rename_i hx
                subst hx
                split
                · simp only [List.all_cons, List.all_nil, Bool.and_true, Bool.and_eq_true] at hs
                  exact di_zip hg hm hp (star_cons hs.1) (star_any (by simp [hs.2]))
                · exact pi_bad
              · exact pi_bad
          · exact pi_bad
      · exact pi_bad
    · exact di_val hv
  · exact di_val hv
theorem ctx_blk (C : Ctx X W E) (s : Shared) (H : Hp) (scope : Scope) (cl : List (Str × Addr)) (Cd : Addr) (fp : List Addr) : Ctx (X.blk s H scope (compEnvC scope cl Cd X.env) fp) W0 (blkSE E scope) where
  n := C.n
  sc := by
    show relabel scope X.env = relS scope E.sc
    rw [← C.sc]
    rfl
  nd := C.nd
  calm := C.calm
  gd := C.gd
  un := C.un
  tk := fun u s' ⟨_, _, _, _, _, _, _, _, _, _, _, _, _, _, _, _, w⟩ => w.elim
  fn := fun x h => h
  g := fun x v h => by
    have := C.g x v h
    cases v <;> exact this
theorem slotOf_ok (C : Ctx X W E) {x : Str} {i : Nat} {p : Pos} (h : slotOf E x = some i) : PG X (.Name x p) (gName i) := by
  unfold slotOf at h
  split at h
  · rename_i hl
    obtain ⟨k, e1, e2⟩ := ixOf_ok h
    have : i = k := by omega
    subst this
    have hl' : X.env.scope.names.lookup x = some .local := by rw [C.sc]; exact hl
    exact pg_name (by rw [C.n]; exact C.nd) (by rw [C.n]; exact e2) (.inl hl') (.inr hl')
  · rename_i hl
    split at h
    · rename_i hf
      obtain ⟨k, e1, e2⟩ := ixOf_ok h
      have : i = k := by omega
      subst this
      have hl' : X.env.scope.names.lookup x = some .cell := by rw [C.sc]; exact hl
      exact pg_name (by rw [C.n]; exact C.nd) (by rw [C.n]; exact e2) (.inr hl') (.inl (C.fn x hf))
    · cases h
  · cases h
theorem slotsOf_ok (C : Ctx X W E) : ∀ {es : List Expr} {is : List Nat}, slotsOf E es = some is → PGs X es (gNs is) ∧ (assignEach es X.env).length = is.length ∧ (assignEach es X.env).findIdx? (·.1) = none
  | [], is, h => by cases h; exact ⟨pgs_nil, rfl, rfl⟩
  | e :: es, is, h => by
    cases e with
    | Name x p =>
      simp only [slotsOf] at h
      split at h
      · rename_i i is' h1 h2
        cases h
        obtain ⟨a, b, c⟩ := slotsOf_ok C h2
        have hs : assignEach (.Name x p :: es) X.env = (false, assign (.Name x p) X.env) :: assignEach es X.env := rfl
        refine ⟨pgs_cons (slotOf_ok C h1) a (by rw [hs]; rfl), by rw [hs, List.length_cons, b]; rfl, ?_⟩
        rw [hs, List.findIdx?_cons, c]
        rfl
      · cases h
    | _ => cases h
theorem dCT_ok (C : Ctx X W E) {tg : Expr} {ct : CT} (h : dCT E tg = some ct) : PG X tg (gC X.K ct) := by
  cases tg with
  | Name x p =>
    simp only [dCT, Option.map_eq_some_iff] at h
    obtain ⟨i, h1, rfl⟩ := h
    exact slotOf_ok C h1
  | Tuple es k p =>
    simp only [dCT, Option.map_eq_some_iff] at h
    obtain ⟨is, h1, rfl⟩ := h
    obtain ⟨a, b, c⟩ := slotsOf_ok C h1
    exact pg_tup C.calm a b c
  | _ => cases h
theorem fold_set {e : Expr} {env : Env} (h : noSet e = true) (x : Value) : foldedSetIterable e env x = pure x := by
  cases e <;> first | rfl | (cases h)
theorem pt_ifexp {c a b : Expr} {t ta tb : PTs'} {p : Pos} (hc : PT X c (tOfT X.K W t)) (ha : PT X a (tOfT X.K W ta)) (hb : PT X b (tOfT X.K W tb)) : PT X (.IfExp c a b p) (tOfT X.K W (tIf' t ta tb)) := by
  refine ⟨fun pins s σ H Q I ⟨ι, S, δ, rs, ro, q⟩ => ?_⟩
  show wpAny (model X.prog X.w) X.A (do
    if ← isTrue c X.env (eval c X.env) then isTrue a X.env (eval a X.env) else isTrue b X.env (eval b X.env)) _ _ s
  refine wpAny_bind (thn (hc.run pins s σ H _ I ⟨ι, S, δ, rs, ro, Post.bind (rel := rB) q⟩) fun k s1 ⟨H1, I1, ι1, S1, k', g1, rs1, e, q1⟩ => ?_)
  have e : k' = k := e
  subst e
  cases k' with
  | true => exact ha.run pins s1 σ H1 Q I1 ⟨ι1, S1, δ, rs1, ro.mono g1, q1⟩
  | false => exact hb.run pins s1 σ H1 Q I1 ⟨ι1, S1, δ, rs1, ro.mono g1, q1⟩
theorem testsF_ok : ∀ {es : List Expr} {fs : List EV} {t : PTs'}, AllE X W es fs → testsF fs = some t → PTs X es (tOfT X.K W t)
  | [], [], t, _, h => by
    cases h
    exact ⟨fun pins s σ H Q I ⟨ι, S, δ, rs, ro, q⟩ => pts_nil.run pins s σ H Q I (q true H ι Gr.refl rs rfl)⟩
  | [e], [f], t, ha, h => by
    cases h
    exact pts_one ha.2.1
  | [], _ :: _, _, ha, _ => ha.elim
  | _ :: _, [], _, ha, _ => ha.elim
  | [_], _ :: _ :: _, _, ha, _ => ha.2.2.elim
  | _ :: _ :: _, [_], _, ha, _ => ha.2.2.elim
  | _ :: _ :: _, _ :: _ :: _, _, _, h => by cases h
theorem plain_ix {e : Expr} (h : plainIx e = true) : PlainIx e := by
  cases e <;> first | (intro _ _; rfl) | (cases h)
theorem ownOf_fst : ∀ {l : List Str} {own : List (Str × Nat)}, ownOf E l = some own → True := fun _ => trivial
end
abbrev MOk (M : Str → Option Mi) : Prop := ∀ n mi, M n = some mi → MiOk n mi
theorem ok_mkV {X : Cx} {W : WX} {e : Expr} {f : PEx} (h : PE X e (tOf X.K W f)) (he : ∀ whole, isTrue e X.env whole = (do let v ← whole; standAt e.pos; holding [v] (truthy v))) : EOk X W e (mkV f) := ⟨h, dt_truth h he⟩
mutual
theorem dX_ok {M : Str → Option Mi} (hM : MOk M) : ∀ (e : Expr) (E : SE) (X : Cx) (W : WX), Ctx X W E → EOk X W e (dX M e E)
  | .Constant c _ _, E, X, W, C => ok_mkV dConst_ok fun _ => rfl
  | .Name x _, E, X, W, C => ok_mkV (dName_ok C) fun _ => rfl
  | .BinOp a op b _, E, X, W, C => ok_mkV (de_bin (dX_ok hM a E X W C).1 (dX_ok hM b E X W C).1) fun _ => rfl
  | .UnaryOp op a p, E, X, W, C => by
    have ih := dX_ok hM a E X W C
    cases op with
    | USub => exact ok_mkV (de_neg ih.1) fun _ => rfl
    | Not => exact ⟨de_not ih.1, dt_not ih.2⟩
    | _ => exact ok_bad
  | .BoolOp op es p, E, X, W, C => ⟨foldV_ok (dL_ok hM es E X W C), (foldW_ok (dL_ok hM es E X W C)).pt⟩
  | .IfExp c a b _, E, X, W, C => by
    have h1 := dX_ok hM c E X W C
    have h2 := dX_ok hM a E X W C
    have h3 := dX_ok hM b E X W C
    exact ⟨de_if h1.2 h2.1 h3.1, pt_ifexp h1.2 h2.2 h3.2⟩
  | .Compare a ops cs _, E, X, W, C => cmpF_ok C (dX_ok hM a E X W C).1 (dL_ok hM cs E X W C)
  | .Tuple es k p, E, X, W, C => by
    have ih := dL_ok hM es E X W C
    refine ok_mkV ?_ fun _ => rfl
    split
    · rename_i hs
      exact de_tup (argsOf_ok ih hs)
    · exact pe_bad
  | .List es p, E, X, W, C => by
    have ih := dL_ok hM es E X W C
    refine ok_mkV ?_ fun _ => rfl
    split
    · rename_i hs
      exact de_lst (argsOf_ok ih hs)
    · exact pe_bad
  | .Call func args kws pos, E, X, W, C => by
    have h1 := dRecv_ok hM func E X W C
    have h2 := dL_ok hM args E X W C
    have h3 := dA1_ok hM args E X W C
    exact ok_mkV (callX_ok C hM h1 h2 h3) fun _ => rfl
  | .Subscript a s _, E, X, W, C => by
    have h1 := dX_ok hM a E X W C
    have h2 := dX_ok hM s E X W C
    have h3 := dSl_ok hM s E X W C
    refine ok_mkV ?_ fun _ => rfl
    cases hs : dSl M s E with
    | none =>
      dsimp only
      split
      · rename_i hp
        exact de_ix h1.1 h2.1 (plain_ix hp)
      · split
        · rename_i hr
          exact de_rev hr h1.1
        · split
          · rename_i hr
            exact de_rev2 hr h1.1
          · exact pe_bad
    | some f =>
      obtain ⟨fl, fh⟩ := f
      obtain ⟨lo, hi, p, rfl, q1, q2⟩ := h3 fl fh hs
      exact de_sl h1.1 q1 q2
  | .ListComp elt gens scope pos, E, X, W, C => by
    have h1 := dGen_ok hM gens E (blkSE E scope)
    have h2 : ∀ X' W', Ctx X' W' (blkSE E scope) → EOk X' W' elt (dX M elt (blkSE E scope)) := fun X' W' C' => dX_ok hM elt (blkSE E scope) X' W' C'
    refine ok_mkV ?_ fun _ => rfl
    cases hg : dGen M gens E (blkSE E scope) with
    | none => exact pe_bad
    | some f =>
      obtain ⟨tg, iter, it, ct, t⟩ := f
      obtain ⟨ifs, rfl, q1, q2, q3⟩ := h1 tg iter it ct t hg
      dsimp only
      split
      · rename_i own ho
        split
        · rename_i hc
          obtain ⟨c1, c2, c3⟩ := hc
          refine PE.imp (pe_lc (own := own) (g := gC X.K ct) (tt := tOfT X.K W0 t) (te := tOf X.K W0 (dX M elt (blkSE E scope)).1) C.calm (by rw [C.n]; exact C.nd) (q2 X W C)
            (blkOk_by (by rw [C.n, C.sc]; exact c1)) (fun s H Cd cl fp => ?_) (fun s H Cd cl fp => ?_) (fun s H Cd cl fp => ?_) (fun x => fold_set c3 x)) fun _ _ _ h => i_lc c2 h
          · exact dCT_ok (ctx_blk C s H scope cl Cd fp) q1
          · exact q3 _ _ (ctx_blk C s H scope cl Cd fp)
          · exact (h2 _ _ (ctx_blk C s H scope cl Cd fp)).1
        · exact pe_bad
      · exact pe_bad
  | .NamedExpr .., _, _, _, _ => ok_bad
  | .Lambda .., _, _, _, _ => ok_bad
  | .Dict .., _, _, _, _ => ok_bad
  | .Set .., _, _, _, _ => ok_bad
  | .SetComp .., _, _, _, _ => ok_bad
  | .DictComp .., _, _, _, _ => ok_bad
  | .GeneratorExp .., _, _, _, _ => ok_bad
  | .Await .., _, _, _, _ => ok_bad
  | .Yield .., _, _, _, _ => ok_bad
  | .YieldFrom .., _, _, _, _ => ok_bad
  | .FormattedValue .., _, _, _, _ => ok_bad
  | .JoinedStr .., _, _, _, _ => ok_bad
  | .Attribute .., _, _, _, _ => ok_bad
  | .Starred .., _, _, _, _ => ok_bad
  | .Slice .., _, _, _, _ => ok_bad
termination_by structural e => e
theorem dL_ok {M : Str → Option Mi} (hM : MOk M) : ∀ (es : List Expr) (E : SE) (X : Cx) (W : WX), Ctx X W E → AllE X W es (dL M es E)
  | [], _, _, _, _ => trivial
  | e :: es, E, X, W, C => by
    have h1 := dX_ok hM e E X W C
    exact ⟨h1.1, h1.2, dL_ok hM es E X W C⟩
termination_by structural e => e
theorem dA1_ok {M : Str → Option Mi} (hM : MOk M) : ∀ (es : List Expr) (E : SE) (X : Cx) (W : WX), Ctx X W E → ∀ f as kws p r, es = .Call f as kws p :: r → AllE X W as (dA1 M es E)
  | [], _, _, _, _, _, _, _, _, _, h => by cases h
  | e :: _, E, X, W, C, _, _, _, _, _, h => by
    have h1 := dArgs_ok hM e E X W C
    cases h
    exact h1 _ _ _ _ rfl
termination_by structural es => es
theorem dRecv_ok {M : Str → Option Mi} (hM : MOk M) : ∀ (e : Expr) (E : SE) (X : Cx) (W : WX), Ctx X W E → ∀ o m ap, e = .Attribute o m ap → PE X o (tOf X.K W (dRecv M e E))
  | .Attribute o m ap, E, X, W, C, _, _, _, h => by
    have h1 := dX_ok hM o E X W C
    cases h
    exact h1.1
  | .Constant .., _, _, _, _, _, _, _, h => by cases h
  | .Name .., _, _, _, _, _, _, _, h => by cases h
  | .BinOp .., _, _, _, _, _, _, _, h => by cases h
  | .UnaryOp .., _, _, _, _, _, _, _, h => by cases h
  | .BoolOp .., _, _, _, _, _, _, _, h => by cases h
  | .IfExp .., _, _, _, _, _, _, _, h => by cases h
  | .Compare .., _, _, _, _, _, _, _, h => by cases h
  | .Tuple .., _, _, _, _, _, _, _, h => by cases h
  | .List .., _, _, _, _, _, _, _, h => by cases h
  | .Call .., _, _, _, _, _, _, _, h => by cases h
  | .Subscript .., _, _, _, _, _, _, _, h => by cases h
  | .ListComp .., _, _, _, _, _, _, _, h => by cases h
  | .NamedExpr .., _, _, _, _, _, _, _, h => by cases h
  | .Lambda .., _, _, _, _, _, _, _, h => by cases h
  | .Dict .., _, _, _, _, _, _, _, h => by cases h
  | .Set .., _, _, _, _, _, _, _, h => by cases h
  | .SetComp .., _, _, _, _, _, _, _, h => by cases h
  | .DictComp .., _, _, _, _, _, _, _, h => by cases h
  | .GeneratorExp .., _, _, _, _, _, _, _, h => by cases h
  | .Await .., _, _, _, _, _, _, _, h => by cases h
  | .Yield .., _, _, _, _, _, _, _, h => by cases h
  | .YieldFrom .., _, _, _, _, _, _, _, h => by cases h
  | .FormattedValue .., _, _, _, _, _, _, _, h => by cases h
  | .JoinedStr .., _, _, _, _, _, _, _, h => by cases h
  | .Starred .., _, _, _, _, _, _, _, h => by cases h
  | .Slice .., _, _, _, _, _, _, _, h => by cases h
termination_by structural e => e
theorem dSl_ok {M : Str → Option Mi} (hM : MOk M) : ∀ (e : Expr) (E : SE) (X : Cx) (W : WX), Ctx X W E → ∀ fl fh, dSl M e E = some (fl, fh) → ∃ lo hi p, e = .Slice lo hi none p ∧ PO2 X W lo fl ∧ PO2 X W hi fh
  | .Slice lo hi st p, E, X, W, C, fl, fh, h => by
    have h1 := dO_ok hM lo E X W C
    have h2 := dO_ok hM hi E X W C
    cases st with
    | none =>
      have h : some (dO M lo E, dO M hi E) = some (fl, fh) := h
      cases h
      exact ⟨lo, hi, p, rfl, h1, h2⟩
    | some _ => cases h
  | .Attribute .., _, _, _, _, _, _, h => by cases h
  | .Constant .., _, _, _, _, _, _, h => by cases h
  | .Name .., _, _, _, _, _, _, h => by cases h
  | .BinOp .., _, _, _, _, _, _, h => by cases h
  | .UnaryOp .., _, _, _, _, _, _, h => by cases h
  | .BoolOp .., _, _, _, _, _, _, h => by cases h
  | .IfExp .., _, _, _, _, _, _, h => by cases h
  | .Compare .., _, _, _, _, _, _, h => by cases h
  | .Tuple .., _, _, _, _, _, _, h => by cases h
  | .List .., _, _, _, _, _, _, h => by cases h
  | .Call .., _, _, _, _, _, _, h => by cases h
  | .Subscript .., _, _, _, _, _, _, h => by cases h
  | .ListComp .., _, _, _, _, _, _, h => by cases h
  | .NamedExpr .., _, _, _, _, _, _, h => by cases h
  | .Lambda .., _, _, _, _, _, _, h => by cases h
  | .Dict .., _, _, _, _, _, _, h => by cases h
  | .Set .., _, _, _, _, _, _, h => by cases h
  | .SetComp .., _, _, _, _, _, _, h => by cases h
  | .DictComp .., _, _, _, _, _, _, h => by cases h
  | .GeneratorExp .., _, _, _, _, _, _, h => by cases h
  | .Await .., _, _, _, _, _, _, h => by cases h
  | .Yield .., _, _, _, _, _, _, h => by cases h
  | .YieldFrom .., _, _, _, _, _, _, h => by cases h
  | .FormattedValue .., _, _, _, _, _, _, h => by cases h
  | .JoinedStr .., _, _, _, _, _, _, h => by cases h
  | .Starred .., _, _, _, _, _, _, h => by cases h
termination_by structural e => e
theorem dO_ok {M : Str → Option Mi} (hM : MOk M) : ∀ (e : Option Expr) (E : SE) (X : Cx) (W : WX), Ctx X W E → PO2 X W e (dO M e E)
  | none, _, _, _, _ => do_none
  | some e, E, X, W, C => do_some (dX_ok hM e E X W C).1
termination_by structural e => e
theorem dArgs_ok {M : Str → Option Mi} (hM : MOk M) : ∀ (e : Expr) (E : SE) (X : Cx) (W : WX), Ctx X W E → ∀ f args kws p, e = .Call f args kws p → AllE X W args (dArgs M e E)
  | .Call f args kws p, E, X, W, C, _, _, _, _, h => by
    have h1 := dL_ok hM args E X W C
    cases h
    exact h1
  | .Attribute .., _, _, _, _, _, _, _, _, h => by cases h
  | .Constant .., _, _, _, _, _, _, _, _, h => by cases h
  | .Name .., _, _, _, _, _, _, _, _, h => by cases h
  | .BinOp .., _, _, _, _, _, _, _, _, h => by cases h
  | .UnaryOp .., _, _, _, _, _, _, _, _, h => by cases h
  | .BoolOp .., _, _, _, _, _, _, _, _, h => by cases h
  | .IfExp .., _, _, _, _, _, _, _, _, h => by cases h
  | .Compare .., _, _, _, _, _, _, _, _, h => by cases h
  | .Tuple .., _, _, _, _, _, _, _, _, h => by cases h
  | .List .., _, _, _, _, _, _, _, _, h => by cases h
  | .Subscript .., _, _, _, _, _, _, _, _, h => by cases h
  | .ListComp .., _, _, _, _, _, _, _, _, h => by cases h
  | .NamedExpr .., _, _, _, _, _, _, _, _, h => by cases h
  | .Lambda .., _, _, _, _, _, _, _, _, h => by cases h
  | .Dict .., _, _, _, _, _, _, _, _, h => by cases h
  | .Set .., _, _, _, _, _, _, _, _, h => by cases h
  | .SetComp .., _, _, _, _, _, _, _, _, h => by cases h
  | .DictComp .., _, _, _, _, _, _, _, _, h => by cases h
  | .GeneratorExp .., _, _, _, _, _, _, _, _, h => by cases h
  | .Await .., _, _, _, _, _, _, _, _, h => by cases h
  | .Yield .., _, _, _, _, _, _, _, _, h => by cases h
  | .YieldFrom .., _, _, _, _, _, _, _, _, h => by cases h
  | .FormattedValue .., _, _, _, _, _, _, _, _, h => by cases h
  | .JoinedStr .., _, _, _, _, _, _, _, _, h => by cases h
  | .Starred .., _, _, _, _, _, _, _, _, h => by cases h
  | .Slice .., _, _, _, _, _, _, _, _, h => by cases h
termination_by structural e => e
theorem dGen_ok {M : Str → Option Mi} (hM : MOk M) : ∀ (gs : List Comprehension) (E E' : SE) (tg iter : Expr) (it : PIt) (ct : CT) (t : PTs'), dGen M gs E E' = some (tg, iter, it, ct, t) →
    ∃ ifs, gs = [⟨tg, iter, ifs, 0⟩] ∧ dCT E' tg = some ct ∧ (∀ X W, Ctx X W E → PI X tg iter (iOf X.K W it)) ∧ ∀ X' W', Ctx X' W' E' → PTs X' ifs (tOfT X'.K W' t)
  | [g], E, E', tg, iter, it, ct, t, h => by
    obtain ⟨ifs, e, q⟩ := dG1_ok hM g E E' tg iter it ct t h
    exact ⟨ifs, by rw [e], q⟩
  | [], _, _, _, _, _, _, _, h => by cases h
  | _ :: _ :: _, _, _, _, _, _, _, _, h => by cases h
termination_by structural gs => gs
theorem dG1_ok {M : Str → Option Mi} (hM : MOk M) : ∀ (g : Comprehension) (E E' : SE) (tg iter : Expr) (it : PIt) (ct : CT) (t : PTs'), dG1 M g E E' = some (tg, iter, it, ct, t) →
    ∃ ifs, g = ⟨tg, iter, ifs, 0⟩ ∧ dCT E' tg = some ct ∧ (∀ X W, Ctx X W E → PI X tg iter (iOf X.K W it)) ∧ ∀ X' W', Ctx X' W' E' → PTs X' ifs (tOfT X'.K W' t)
  | ⟨tg0, iter0, ifs, a⟩, E, E', tg, iter, it, ct, t, h => by
    have h1 : ∀ X W, Ctx X W E → EOk X W iter0 (dX M iter0 E) := fun X W C => dX_ok hM iter0 E X W C
    have h2 : ∀ X W, Ctx X W E → ∀ f args kws p, iter0 = .Call f args kws p → AllE X W args (dArgs M iter0 E) := fun X W C => dArgs_ok hM iter0 E X W C
    have h3 : ∀ X W, Ctx X W E' → AllE X W ifs (dL M ifs E') := fun X W C => dL_ok hM ifs E' X W C
    have hh : (if a = 0 then (match dCT E' tg0, testsF (dL M ifs E') with
      | some ct, some t => some (tg0, iter0, iterF E tg0 iter0 (dArgs M iter0 E) (dX M iter0 E).1, ct, t)
      | _, _ => none) else none) = some (tg, iter, it, ct, t) := h
    split at hh
    · rename_i ha
      subst ha
      split at hh
      · rename_i ct' t' e1 e2
        cases hh
        exact ⟨ifs, rfl, e1, fun X W C => iterF_ok C (h1 X W C).1 (h2 X W C), fun X' W' C' => testsF_ok (h3 X' W' C') e2⟩
      · cases hh
    · cases hh
termination_by structural g => g
end
end DL
set_option Elab.async false
set_option linter.all false
set_option maxRecDepth 100000
/-! DStmt: statements by their trees. -/
namespace DL
open PySem L2
open Classical

inductive RS where
  | nx (δ : Sl) (S : SS)
  | rt (d : D) (S : SS)
  | bk (δ : Sl) (S : SS)
  | ct (δ : Sl) (S : SS)
  | exc (δ : Sl) (C : Addr) (fs : List (Str × D)) (S : SS)
  | bad
abbrev PSt := Sl → SS → RS
def PostS (K : PySem.W.Frag) (W : WX) (ι : List Addr) (H : Hp) (r : RS) (Q : Ends) : Prop :=
  match r with
  | .nx δ S' => ∀ σ' H' ι', Gr K H ι H' ι' → RelS K H' ι' S' → ROs K H' ι' δ σ' → Q.nx σ' H'
  | .bk δ S' => ∀ σ' H' ι', Gr K H ι H' ι' → RelS K H' ι' S' → ROs K H' ι' δ σ' → Q.bk σ' H'
  | .ct δ S' => ∀ σ' H' ι', Gr K H ι H' ι' → RelS K H' ι' S' → ROs K H' ι' δ σ' → Q.ct σ' H'
  | .rt d S' => ∀ v H' ι', Gr K H ι H' ι' → RelS K H' ι' S' → RD K H' ι' d v → Q.rt v H'
  | .exc δ C fs S' => ∀ σ' H' ι' dd fs', Gr K H ι H' ι' → RelS K H' ι' S' → ROs K H' ι' δ σ' → H' dd = some (.xd fs') → RF K H' ι' fs fs' → W (.ref C) (some dd) σ' H'
  | .bad => False
def tOfS (K : PySem.W.Frag) (W : WX) (g : PSt) : TS := fun Q σ H => ∃ ι S δ, RelS K H ι S ∧ ROs K H ι δ σ ∧ PostS K W ι H (g δ S) Q
def RS.seq : RS → PSt → RS
  | .nx δ S, g => g δ S
  | r, _ => r
def R.to {α : Type} (r : R α) (δ : Sl) (k : α → SS → RS) : RS := match r with
  | .ok x S => k x S
  | .exc C fs S => .exc δ C fs S
  | .bad => .bad
@[simp] theorem R.to_ok {α : Type} {x : α} {S : SS} {δ : Sl} {k : α → SS → RS} : (R.ok x S).to δ k = k x S := rfl
@[simp] theorem R.to_exc {α : Type} {C : Addr} {fs : List (Str × D)} {S : SS} {δ : Sl} {k : α → SS → RS} : (R.exc C fs S : R α).to δ k = .exc δ C fs S := rfl
@[simp] theorem R.to_bad {α : Type} {δ : Sl} {k : α → SS → RS} : (R.bad : R α).to δ k = .bad := rfl
@[simp] theorem RS.seq_nx {δ : Sl} {S : SS} {g : PSt} : (RS.nx δ S).seq g = g δ S := rfl
@[simp] theorem RS.seq_rt {d : D} {S : SS} {g : PSt} : (RS.rt d S).seq g = .rt d S := rfl
@[simp] theorem RS.seq_bk {δ : Sl} {S : SS} {g : PSt} : (RS.bk δ S).seq g = .bk δ S := rfl
@[simp] theorem RS.seq_ct {δ : Sl} {S : SS} {g : PSt} : (RS.ct δ S).seq g = .ct δ S := rfl
@[simp] theorem RS.seq_exc {δ : Sl} {C : Addr} {fs : List (Str × D)} {S : SS} {g : PSt} : (RS.exc δ C fs S).seq g = .exc δ C fs S := rfl
@[simp] theorem RS.seq_bad {g : PSt} : RS.bad.seq g = .bad := rfl
section
variable {K : PySem.W.Frag} {W : WX} {ι ι1 : List Addr} {H H1 : Hp}
theorem PostS.later {r : RS} {Q : Ends} (g : Gr K H ι H1 ι1) (h : PostS K W ι H r Q) : PostS K W ι1 H1 r Q := by
  cases r with
  | nx δ S => exact fun σ' H' ι' g' => h σ' H' ι' (g.trans g')
  | bk δ S => exact fun σ' H' ι' g' => h σ' H' ι' (g.trans g')
  | ct δ S => exact fun σ' H' ι' g' => h σ' H' ι' (g.trans g')
  | rt d S => exact fun v H' ι' g' => h v H' ι' (g.trans g')
  | exc δ C fs S => exact fun σ' H' ι' dd fs' g' => h σ' H' ι' dd fs' (g.trans g')
  | bad => exact h
theorem PostS.seq {r : RS} {g : PSt} {Q : Ends} (h : PostS K W ι H (r.seq g) Q) : PostS K W ι H r { Q with nx := tOfS K W g Q } := by
  cases r with
  | nx δ S => exact fun σ' H' ι' g' s ro => ⟨ι', S, δ, s, ro, PostS.later g' h⟩
  | bk δ S => exact h
  | ct δ S => exact h
  | rt d S => exact h
  | exc δ C fs S => exact h
  | bad => exact h
/-- an expression first -/
theorem PostS.to {α β : Type} {rel : Hp → List Addr → α → β → Prop} {r : R α} {δ : Sl} {σ : St} {k : α → SS → RS} {Q : Ends} (h : PostS K W ι H (r.to δ k) Q) (ro : ROs K H ι δ σ) :
    Post rel K W ι H σ r (fun v H1 => ∃ ι1 S1 x, Gr K H ι H1 ι1 ∧ RelS K H1 ι1 S1 ∧ rel H1 ι1 x v ∧ PostS K W ι1 H1 (k x S1) Q) := by
  cases r with
  | ok x S => exact fun v H1 ι1 g s q => ⟨ι1, S, x, g, s, q, PostS.later g h⟩
  | exc C fs S => exact fun H' ι' dd fs' g s e q => h σ H' ι' dd fs' g s (ro.mono g) e q
  | bad => exact h
end

/-! ### the forms -/
def sBad : PSt := fun _ _ => .bad
def sNil : PSt := fun δ S => .nx δ S
def sSeq (a b : PSt) : PSt := fun δ S => (a δ S).seq b
def sDrop (f : PEx) : PSt := fun δ S => (f δ S).to δ fun _ S1 => .nx δ S1
def sRet (f : PEx) : PSt := fun δ S => (f δ S).to δ fun x S1 => .rt x S1
def sRetN : PSt := fun _ S => .rt .non S
def sIf (t : PTs') (a b : PSt) : PSt := fun δ S => (t δ S).to δ fun c S1 => if c = true then a δ S1 else b δ S1
def sAsg (f : PEx) (ct : CT) : PSt := fun δ S => (f δ S).to δ fun x S1 => match bindC ct x δ with
  | some δ' => .nx δ' S1
  | none => .bad
/-- o[i] = v of a list -/
def setD (o i v : D) (S : SS) : Option SS := match o, i with
  | .ref k, .int j => match S[k]? with
    | some (.lst ds) => (ixN ds.length j).map fun n => S.set k (.lst (ds.set n v))
    | _ => none
  | _, _ => none
def sSet (f o i : PEx) : PSt := fun δ S => (f δ S).to δ fun x S1 => (o δ S1).to δ fun y S2 => (i δ S2).to δ fun z S3 => match setD y z x S3 with
  | some S4 => .nx δ S4
  | none => .bad
/-- numbers and texts alone -/
def augD : Operator → G2
  | .Add, .int i, .int j, S => some (.int (i + j), S)
  | .Add, .str x, .str y, S => if x.length + y.length ≤ sizeLine then some (.str (x ++ y), S) else none
  | .Sub, .int i, .int j, S => some (.int (i - j), S)
  | .Mult, .int i, .int j, S => if MulOk i j then some (.int (i * j), S) else none
  | .FloorDiv, .int i, .int j, S => if 0 < j ∧ j < 1073741824 then some (.int (i / j), S) else none
  | _, _, _, _ => none
def sAug (op : Operator) (n : Nat) (f : PEx) : PSt := fun δ S => match δ[n]? with
  | some (some x) => (f δ S).to δ fun y S1 => match augD op x y S1 with
    | some (z, S2) => .nx (δ.set n (some z)) S2
    | none => .bad
  | _ => .bad
noncomputable def forL (gd : Gd) (ct : CT) (body : PSt) : List D → Sl → SS → RS
  | [], δ, S => if gOk gd S then .nx δ S else .bad
  | d :: r, δ, S => if gOk gd S then (match bindC ct d δ with
    | none => .bad
    | some δ1 => match body δ1 S with
      | .nx δ' S' => forL gd ct body r δ' S'
      | .ct δ' S' => forL gd ct body r δ' S'
      | .bk δ' S' => .nx δ' S'
      | x => x) else .bad
noncomputable def sFor (it : PIt) (ct : CT) (body : PSt) : PSt := fun δ S => (it δ S).to δ fun x S1 => forL x.2 ct body x.1 δ S1
def whN (t : PTs') (b : PSt) : Nat → PSt
  | 0 => fun _ _ => .bad
  | n + 1 => fun δ S => (t δ S).to δ fun c S1 => if c = true then (match b δ S1 with
    | .nx δ' S' => whN t b n δ' S'
    | .ct δ' S' => whN t b n δ' S'
    | .bk δ' S' => .nx δ' S'
    | x => x) else .nx δ S1
noncomputable def sWhile (t : PTs') (b : PSt) : PSt := fun δ S => if h : ∃ n, whN t b n δ S ≠ .bad then whN t b (choose h) δ S else .bad
section
variable {t : PTs'} {b : PSt}
theorem whN_up : ∀ (n : Nat) (δ : Sl) (S : SS), whN t b n δ S ≠ .bad → whN t b (n + 1) δ S = whN t b n δ S
  | 0, _, _, h => absurd rfl h
  | n + 1, δ, S, h => by
    show (t δ S).to δ _ = (t δ S).to δ _
    have h : (t δ S).to δ (fun c S1 => if c = true then (match b δ S1 with
      | .nx δ' S' => whN t b n δ' S'
      | .ct δ' S' => whN t b n δ' S'
      | .bk δ' S' => .nx δ' S'
      | x => x) else .nx δ S1) ≠ .bad := h
    cases ht : t δ S with
    | ok c S1 =>
      rw [ht, R.to_ok] at h
      rw [R.to_ok, R.to_ok]
      cases c with
      | true =>
        simp only [if_true] at h ⊢
        cases hb : b δ S1 with
        | nx δ' S' => rw [hb] at h; exact whN_up n δ' S' h
        | ct δ' S' => rw [hb] at h; exact whN_up n δ' S' h
        | _ => rfl
      | false => rfl
    | exc C fs S1 => rfl
    | bad => rfl
theorem whN_le {n : Nat} {δ : Sl} {S : SS} (h : whN t b n δ S ≠ .bad) : ∀ k, whN t b (n + k) δ S = whN t b n δ S
  | 0 => rfl
  | k + 1 => by
    have ih := whN_le h k
    rw [← Nat.add_assoc, whN_up _ _ _ (by rw [ih]; exact h), ih]
theorem sWhile_of {n : Nat} {δ : Sl} {S : SS} {r : RS} (h : whN t b n δ S = r) (hr : r ≠ .bad) : sWhile t b δ S = r := by
  have ex : ∃ n, whN t b n δ S ≠ .bad := ⟨n, by rw [h]; exact hr⟩
  unfold sWhile
  rw [dif_pos ex]
  have h2 := choose_spec ex
  rcases Nat.le_total n (choose ex) with hl | hl
  · obtain ⟨k, e⟩ := Nat.exists_eq_add_of_le hl
    rw [e, whN_le (by rw [h]; exact hr) k, h]
  · obtain ⟨k, e⟩ := Nat.exists_eq_add_of_le hl
    rw [← h, e, whN_le h2 k]
theorem of_sWhile {δ : Sl} {S : SS} (h : sWhile t b δ S ≠ .bad) : ∃ n, whN t b n δ S = sWhile t b δ S := by
  unfold sWhile at h ⊢
  split at h
  · rename_i ex
    rw [dif_pos ex]
    exact ⟨_, rfl⟩
  · exact absurd rfl h
/-- one turn -/
theorem sWhile_eq (δ : Sl) (S : SS) : sWhile t b δ S = (t δ S).to δ fun c S1 => if c = true then (match b δ S1 with
    | .nx δ' S' => sWhile t b δ' S'
    | .ct δ' S' => sWhile t b δ' S'
    | .bk δ' S' => .nx δ' S'
    | x => x) else .nx δ S1 := by
  generalize hr : (t δ S).to δ (fun c S1 => if c = true then (match b δ S1 with
    | .nx δ' S' => sWhile t b δ' S'
    | .ct δ' S' => sWhile t b δ' S'
    | .bk δ' S' => .nx δ' S'
    | x => x) else .nx δ S1) = r
  by_cases hb : r = .bad
  · by_cases hw : sWhile t b δ S = .bad
    · rw [hw, hb]
    · obtain ⟨n, hn⟩ := of_sWhile hw
      cases n with
      | zero => exact absurd hn.symm hw
      | succ n =>
        rw [← hr]
        have hn' : (t δ S).to δ (fun c S1 => if c = true then (match b δ S1 with
          | .nx δ' S' => whN t b n δ' S'
          | .ct δ' S' => whN t b n δ' S'
          | .bk δ' S' => .nx δ' S'
          | x => x) else .nx δ S1) = sWhile t b δ S := hn
        rw [← hn'] at hw ⊢
        cases ht : t δ S with
        | ok c S1 =>
          rw [ht] at hw
          rw [R.to_ok, R.to_ok]
          cases c with
          | true =>
            rw [R.to_ok] at hw
            simp only [if_true] at hw ⊢
            cases hbo : b δ S1 with
            | nx δ' S' => rw [hbo] at hw; exact (sWhile_of rfl hw).symm
            | ct δ' S' => rw [hbo] at hw; exact (sWhile_of rfl hw).symm
            | _ => rfl
          | false => rfl
        | exc C fs S1 => rfl
        | bad => rfl
  · have step : ∃ n, whN t b (n + 1) δ S = r := by
      cases ht : t δ S with
      | ok c S1 =>
        rw [ht, R.to_ok] at hr
        cases c with
        | true =>
          simp only [if_true] at hr
          cases hbo : b δ S1 with
          | nx δ' S' =>
            rw [hbo] at hr
            obtain ⟨n, hn⟩ := of_sWhile (t := t) (b := b) (δ := δ') (S := S') (by rw [show sWhile t b δ' S' = r from hr]; exact hb)
            refine ⟨n, ?_⟩
            show (t δ S).to δ _ = r
            rw [ht, R.to_ok]
            simp only [if_true, hbo]
            rw [hn]
            exact hr
          | ct δ' S' =>
            rw [hbo] at hr
            obtain ⟨n, hn⟩ := of_sWhile (t := t) (b := b) (δ := δ') (S := S') (by rw [show sWhile t b δ' S' = r from hr]; exact hb)
            refine ⟨n, ?_⟩
            show (t δ S).to δ _ = r
            rw [ht, R.to_ok]
            simp only [if_true, hbo]
            rw [hn]
            exact hr
          | _ =>
            rw [hbo] at hr
            refine ⟨0, ?_⟩
            show (t δ S).to δ _ = r
            rw [ht, R.to_ok]
            simp only [if_true, hbo]
            exact hr
        | false =>
          refine ⟨0, ?_⟩
          show (t δ S).to δ _ = r
          rw [ht, R.to_ok]
          exact hr
      | exc C fs S1 =>
        refine ⟨0, ?_⟩
        show (t δ S).to δ _ = r
        rw [ht]
        rw [ht] at hr
        exact hr
      | bad =>
        rw [ht] at hr
        exact absurd hr.symm hb
    obtain ⟨n, hn⟩ := step
    exact sWhile_of hn hb
end

/-! ### the machine agrees -/
section
variable {X : Cx} {W : WX} {a c o i tg : Expr} {fa fo fi : PEx} {t : PTs'} {st : Stmt} {sts : List Stmt} {g g' : PSt} {pos : Pos} {ct : CT} {it : PIt}
theorem ps_bad : PS X st (tOfS X.K W sBad) := ⟨fun _ _ _ _ _ _ ⟨_, _, _, _, _, h⟩ => h.elim⟩
theorem pss_bad : PSs X sts (tOfS X.K W sBad) := ⟨fun _ _ _ _ _ _ ⟨_, _, _, _, _, h⟩ => h.elim⟩
theorem ds_nil : PSs X [] (tOfS X.K W sNil) := PSs.imp pss_nil fun Q σ H ⟨ι, S, δ, rs, ro, q⟩ => q σ H ι Gr.refl rs ro
theorem ds_cons (h1 : PS X st (tOfS X.K W g)) (h2 : PSs X sts (tOfS X.K W g')) : PSs X (st :: sts) (tOfS X.K W (sSeq g g')) :=
  PSs.imp (pss_cons h1 h2) fun Q σ H ⟨ι, S, δ, rs, ro, q⟩ => ⟨ι, S, δ, rs, ro, q.seq⟩
theorem ds_drop (h : PE X a (tOf X.K W fa)) (hs : swapsWith a none pos.line X.env = pure false) : PS X (.Expr a pos) (tOfS X.K W (sDrop fa)) :=
  PS.imp (ps_expr h hs) fun Q σ H ⟨ι, S, δ, rs, ro, q⟩ => ⟨ι, S, δ, rs, ro, (PostS.to (rel := RD X.K) q ro).mono fun v H1 ⟨ι1, S1, x, g1, rs1, rx, q1⟩ => q1 σ H1 ι1 Gr.refl rs1 (ro.mono g1)⟩
theorem ds_ret (h : PE X a (tOf X.K W fa)) : PS X (.Return (some a) pos) (tOfS X.K W (sRet fa)) :=
  PS.imp (ps_ret h) fun Q σ H ⟨ι, S, δ, rs, ro, q⟩ => ⟨ι, S, δ, rs, ro, (PostS.to (rel := RD X.K) q ro).mono fun v H1 ⟨ι1, S1, x, g1, rs1, rx, q1⟩ => q1 v H1 ι1 Gr.refl rs1 rx⟩
theorem ds_retN : PS X (.Return none pos) (tOfS X.K W sRetN) :=
  PS.imp ps_retN fun Q σ H ⟨ι, S, δ, rs, ro, q⟩ => q .non H ι Gr.refl rs RD.mnon
theorem ds_pass : PS X (.Pass pos) (tOfS X.K W sNil) := PS.imp ps_pass fun Q σ H ⟨ι, S, δ, rs, ro, q⟩ => q σ H ι Gr.refl rs ro
theorem ds_brk : PS X (.Break pos) (tOfS X.K W fun δ S => .bk δ S) := PS.imp ps_break fun Q σ H ⟨ι, S, δ, rs, ro, q⟩ => q σ H ι Gr.refl rs ro
theorem ds_cont : PS X (.Continue pos) (tOfS X.K W fun δ S => .ct δ S) := PS.imp ps_continue fun Q σ H ⟨ι, S, δ, rs, ro, q⟩ => q σ H ι Gr.refl rs ro
theorem ds_if {bs bs' : List Stmt} (hc : PT X c (tOfT X.K W t)) (h1 : PSs X bs (tOfS X.K W g)) (h2 : PSs X bs' (tOfS X.K W g')) : PS X (.If c bs bs' pos) (tOfS X.K W (sIf t g g')) :=
  PS.imp (ps_if hc h1 h2) fun Q σ H ⟨ι, S, δ, rs, ro, q⟩ => ⟨ι, S, δ, rs, ro, (PostS.to (rel := rB) q ro).mono fun k H1 ⟨ι1, S1, k', g1, rs1, e, q1⟩ => by
    have e : k' = k := e
    subst e
    cases k' with
    | true => exact ⟨ι1, S1, δ, rs1, ro.mono g1, q1⟩
    | false => exact ⟨ι1, S1, δ, rs1, ro.mono g1, q1⟩⟩
theorem i_asg {σ : St} {H : Hp} {Q : Ends} (h : tOfS X.K W (sAsg fa ct) Q σ H) : tAsg (tOf X.K W fa) (gC X.K ct) Q σ H := by
  obtain ⟨ι, S, δ, rs, ro, q⟩ := h
  refine ⟨ι, S, δ, rs, ro, (PostS.to (rel := RD X.K) q ro).mono fun v H1 ⟨ι1, S1, x, g1, rs1, rx, q1⟩ => ?_⟩
  split at q1
  · rename_i δ' hb
    exact gC_ok hb rx (ro.mono g1) fun σ' ro' _ => q1 σ' H1 ι1 Gr.refl rs1 ro'
  · exact q1.elim
theorem ds_asg (h : PE X a (tOf X.K W fa)) (hg : PG X tg (gC X.K ct)) (hs : swapsWithSole [tg] a pos.line X.env = pure false) (hw : swappedStores [tg] a X.env = pure none) (h1 : (assignEach [tg] X.env).map (·.2) = [assign tg X.env]) : PS X (.Assign [tg] a pos) (tOfS X.K W (sAsg fa ct)) :=
  PS.imp (ps_asg h hg hs hw h1) fun _ _ _ h => i_asg h
theorem ds_set (h : PE X a (tOf X.K W fa)) (ho : PE X o (tOf X.K W fo)) (hi : PE X i (tOf X.K W fi)) {p : Pos} (hs : swapsWithSole [.Subscript o i p] a pos.line X.env = pure false) (hw : swappedStores [.Subscript o i p] a X.env = pure none) (hp : ∀ v, assign (.Subscript o i p) X.env v = (do
      let ov ← holding [v] (eval o X.env)
      let iv ← holding [v, ov] (eval i X.env)
      standAt p
      holding [v, ov, iv] (setItem ov iv v)
      release [v, ov, iv] [])) : PS X (.Assign [.Subscript o i p] a pos) (tOfS X.K W (sSet fa fo fi)) := by
  refine PS.imp (ps_asg h (pg_sub ho hi set_list hp) hs hw rfl) fun Q σ H ⟨ι, S, δ, rs, ro, q⟩ => ⟨ι, S, δ, rs, ro, ?_⟩
  refine (PostS.to (rel := RD X.K) q ro).mono fun v H1 ⟨ι1, S1, x, g1, rs1, rx, q1⟩ => ⟨ι1, S1, δ, rs1, ro.mono g1, ?_⟩
  refine (PostS.to (rel := RD X.K) q1 (ro.mono g1)).mono fun v2 H2 ⟨ι2, S2, y, g2, rs2, ry, q2⟩ => ⟨ι2, S2, δ, rs2, (ro.mono g1).mono g2, ?_⟩
  refine (PostS.to (rel := RD X.K) q2 ((ro.mono g1).mono g2)).mono fun v3 H3 ⟨ι3, S3, z, g3, rs3, rz, q3⟩ => ?_
  have rx3 := (rx.mono g2).mono g3
  have ry3 := ry.mono g3
  unfold setD at q3
  split at q3
  · rename_i S4 hS
    split at hS
    · split at hS
      · rename_i ds hk
        rw [Option.map_eq_some_iff] at hS
        obtain ⟨n, hn, rfl⟩ := hS
        obtain ⟨p', vs, rfl, h0, h1, h2⟩ := rs3.lst hk ry3
        rw [rz.int]
        refine ⟨p', vs, _, n, rfl, rfl, h1, by rw [← h2.length]; exact hn, ?_⟩
        have gw : Gr X.K H3 ι3 (upd H3 p' (.lst (vs.set n v))) ι3 := Gr.write rs3 h0
        exact q3 σ _ ι3 gw (rs3.write (ob := .lst (ds.set n x)) h0 ⟨_, upd_same, (h2.set rx3 n).mono gw⟩) ((((ro.mono g1).mono g2).mono g3).mono gw)
      · cases hS
    · cases hS
  · exact q3.elim
theorem ip_aug {op : Operator} : PIp X op (rOf2 X.K (augD op)) := by
  intro pins s σ H x y v u Q I rx ry h
  obtain ⟨ι, S, d, e, rs, r1, r2, q⟩ := h
  unfold augD at q
  split at q
  · rw [r1.int] at rx
    rw [r2.int] at ry
    exact iop_add pins s σ H _ _ v u Q I rx ry ⟨_, _, rfl, rfl, q.val rs RD.mint⟩
  · split at q
    · rw [r1.str] at rx
      rw [r2.str] at ry
      exact iop_add_str pins s σ H _ _ v u Q I rx ry ⟨_, _, rfl, rfl, by assumption, q.val rs RD.mstr⟩
    · exact q.elim
  · rw [r1.int] at rx
    rw [r2.int] at ry
    exact iop_sub pins s σ H _ _ v u Q I rx ry ⟨_, _, rfl, rfl, q.val rs RD.mint⟩
  · split at q
    · rename_i hm
      rw [r1.int] at rx
      rw [r2.int] at ry
      obtain ⟨t, rfl⟩ := rx
      obtain ⟨t', rfl⟩ := ry
      exact PyProof.Rows.imul_int ⟨.int _, H, I.tok _, ⟨_, rfl⟩, q.val rs RD.mint⟩ (CMulW.ok hm)
    · exact q.elim
  · split at q
    · rename_i hm
      rw [r1.int] at rx
      rw [r2.int] at ry
      exact iop_fdiv pins s σ H _ _ v u Q I rx ry ⟨_, _, rfl, rfl, hm, q.val rs RD.mint⟩
    · exact q.elim
  · exact q.elim
theorem ds_aug {op : Operator} {n : Nat} {x : Str} {p : Pos} (hN : X.N.Nodup) (hi : X.N[n]? = some x) (hx : Loc X.env.scope x) (hf : X.fn x = true ∨ X.env.scope.names.lookup x = some .local) (h : PE X a (tOf X.K W fa)) : PS X (.AugAssign (.Name x p) op a pos) (tOfS X.K W (sAug op n fa)) := by
  refine PS.imp (ps_aug hN hi hx h ip_aug hf) fun Q σ H ⟨ι, S, δ, rs, ro, q⟩ => ?_
  unfold sAug at q
  split at q
  · rename_i d hd
    obtain ⟨v, hv, rv⟩ := ro.2 n d hd
    refine ⟨v, hv, ι, S, δ, rs, ro, (PostS.to (rel := RD X.K) q ro).mono fun u H1 ⟨ι1, S1, y, g1, rs1, ry, q1⟩ => ⟨ι1, S1, d, y, rs1, rv.mono g1, ry, ?_⟩⟩
    split at q1
    · rename_i z S2 hz
      rw [hz]
      exact fun w H' ι' g' rs' rz => q1 _ H' ι' g' rs' (((ro.mono g1).mono g').set rz)
    · exact q1.elim
  · exact q.elim
theorem ds_for (hp : PassesOwn (model X.prog X.w) X.A X.env X.xe) (hc : X.calm = true) (hi : PI X tg i (iOf X.K W it)) (hg : PG X tg (gC X.K ct)) (hb : PSs X sts (tOfS X.K W g)) (hs : ∀ x, foldedSetIterable i X.env x = pure x) : PS X (.For tg i sts [] pos) (tOfS X.K W (sFor it ct g)) := by
  refine PS.imp (ps_for hp hc hi hg hb hs) fun Q σ H ⟨ι, S, δ, rs, ro, q⟩ => ⟨ι, S, δ, rs, ro, ?_⟩
  refine (PostS.to (rel := JOk X.K) q ro).mono fun J H1 ⟨ι1, S1, x, g1, rs1, hJ, q1⟩ => ?_
  obtain ⟨items, gd⟩ := x
  refine ⟨fun n m σ' H' => ∃ ι2 S2 δ2, Gr X.K H1 ι1 H' ι2 ∧ RelS X.K H' ι2 S2 ∧ ROs X.K H' ι2 δ2 σ' ∧ m = items.length - n ∧ n ≤ items.length ∧ PostS X.K W ι2 H' (forL gd ct g (items.drop n) δ2 S2) Q,
    ⟨_, ι1, S1, δ, Gr.refl, rs1, ro.mono g1, rfl, Nat.zero_le _, q1⟩, ?_⟩
  rintro n m σ2 H2 ⟨ι2, S2, δ2, g2, rs2, ro2, rfl, hn, q2⟩
  by_cases hlt : n < items.length
  · right
    rw [List.drop_eq_getElem_cons hlt, forL] at q2
    split at q2
    · rename_i hgd
      have hj := (hJ n H2 ι2 S2 g2 rs2 hgd).1 items[n] (List.getElem?_eq_getElem hlt)
      refine ⟨hj.1, fun σ' H' => ∃ ι3 S3 δ3, Gr X.K H1 ι1 H' ι3 ∧ RelS X.K H' ι3 S3 ∧ ROs X.K H' ι3 δ3 σ' ∧ PostS X.K W ι3 H' (forL gd ct g (items.drop (n + 1)) δ3 S3) Q, fun σ' H' ⟨ι3, S3, δ3, a1, a2, a3, a4⟩ => ⟨_, by omega, ι3, S3, δ3, a1, a2, a3, rfl, hlt, a4⟩, fun xv H' y => ?_⟩
      obtain ⟨g3, rs3, rx⟩ := hj.2 xv H' y
      have q3 := PostS.later g3 q2
      split at q3
      · exact q3.elim
      · rename_i δ3 hb3
        refine gC_ok hb3 rx (ro2.mono g3) fun σ3 ro3 _ => ⟨ι2, S2, δ3, rs3, ro3, ?_⟩
        have g23 := g2.trans g3
        cases hr : g δ3 S2 with
        | nx δ' S' => rw [hr] at q3; exact fun σ' H4 ι4 g4 rs4 ro4 => ⟨ι4, S', δ', g23.trans g4, rs4, ro4, PostS.later g4 q3⟩
        | ct δ' S' => rw [hr] at q3; exact fun σ' H4 ι4 g4 rs4 ro4 => ⟨ι4, S', δ', g23.trans g4, rs4, ro4, PostS.later g4 q3⟩
        | bk δ' S' => rw [hr] at q3; exact q3
        | rt d S' => rw [hr] at q3; exact q3
        | exc δ' C fs S' => rw [hr] at q3; exact q3
        | bad => rw [hr] at q3; exact q3.elim
    · exact q2.elim
  · left
    have e : n = items.length := by omega
    subst e
    rw [List.drop_length, forL] at q2
    split at q2
    · rename_i hgd
      exact ⟨(hJ _ H2 ι2 S2 g2 rs2 hgd).2 (Nat.le_refl _), q2 σ2 H2 ι2 Gr.refl rs2 ro2⟩
    · exact q2.elim
theorem ds_while (hp : PassesOwn (model X.prog X.w) X.A X.env X.xe) (hc : PT X c (tOfT X.K W t)) (hb : PSs X sts (tOfS X.K W g)) : PS X (.While c sts [] pos) (tOfS X.K W (sWhile t g)) := by
  refine PS.imp (ps_while hp hc hb) fun Q σ H ⟨ι, S, δ, rs, ro, q⟩ => ?_
  have hne : sWhile t g δ S ≠ .bad := fun z => by rw [z] at q; exact q
  obtain ⟨n0, hn0⟩ := of_sWhile hne
  rw [← hn0] at q
  refine ⟨fun m σ' H' => ∃ ι2 S2 δ2, RelS X.K H' ι2 S2 ∧ ROs X.K H' ι2 δ2 σ' ∧ PostS X.K W ι2 H' (whN t g m δ2 S2) Q, ⟨n0, ι, S, δ, rs, ro, q⟩, ?_⟩
  rintro m σ2 H2 ⟨ι2, S2, δ2, rs2, ro2, q2⟩
  cases m with
  | zero => exact q2.elim
  | succ m =>
    refine ⟨ι2, S2, δ2, rs2, ro2, (PostS.to (rel := rB) q2 ro2).mono fun k H3 ⟨ι3, S3, k', g3, rs3, e, q3⟩ => ?_⟩
    have e : k' = k := e
    subst e
    cases k' with
    | false => exact q3 σ2 H3 ι3 Gr.refl rs3 (ro2.mono g3)
    | true =>
      simp only [if_true] at q3 ⊢
      refine ⟨fun σ' H' => ∃ ι4 S4 δ4, RelS X.K H' ι4 S4 ∧ ROs X.K H' ι4 δ4 σ' ∧ PostS X.K W ι4 H' (whN t g m δ4 S4) Q, fun σ' H' z => ⟨m, Nat.lt_succ_self m, z⟩, ι3, S3, δ2, rs3, ro2.mono g3, ?_⟩
      cases hr : g δ2 S3 with
      | nx δ' S' => rw [hr] at q3; exact fun σ' H4 ι4 g4 rs4 ro4 => ⟨ι4, S', δ', rs4, ro4, PostS.later g4 q3⟩
      | ct δ' S' => rw [hr] at q3; exact fun σ' H4 ι4 g4 rs4 ro4 => ⟨ι4, S', δ', rs4, ro4, PostS.later g4 q3⟩
      | bk δ' S' => rw [hr] at q3; exact q3
      | rt d S' => rw [hr] at q3; exact q3
      | exc δ' C fs S' => rw [hr] at q3; exact q3
      | bad => rw [hr] at q3; exact q3.elim
end
end DL
set_option Elab.async false
set_option linter.all false
set_option maxRecDepth 100000
set_option maxHeartbeats 2000000
/-! DInit: a class of errors of the text whose __init__ hands its arguments on to the base's and keeps them as fields. -/
namespace DL
open PySem PySem.W PySem.Calls PyProof.Rows PySem.HandSPX
open L2 (Vals RelO RelV V Room Mod relO_put)

def iArg (x : Str) (p : Pos) : Arg := { arg := x, annotation := none, pos := p }
/-- def __init__(self, f) or (self, f, g): super().__init__(f ..); self.f = f .. -/
structure IniPos where
  p : List Pos
def args1 (f : Str) (q : Nat → Pos) : Arguments := { posonlyargs := [], args := [iArg "self" (q 0), iArg f (q 1)], vararg := none, kwonlyargs := [], kw_defaults := [], kwarg := none, defaults := [] }
def args2 (f g : Str) (q : Nat → Pos) : Arguments := { posonlyargs := [], args := [iArg "self" (q 0), iArg f (q 1), iArg g (q 2)], vararg := none, kwonlyargs := [], kw_defaults := [], kwarg := none, defaults := [] }
def supS (q : Nat → Pos) (es : List PySem.Expr) : PySem.Stmt := .Expr (.Call (.Attribute (.Call (.Name "super" (q 3)) [] [] (q 4)) "__init__" (q 5)) es [] (q 6)) (q 7)
def fldS (f : Str) (a b c d : Pos) : PySem.Stmt := .Assign [.Attribute (.Name "self" a) f b] (.Name f c) d
def body1 (f : Str) (q : Nat → Pos) : List PySem.Stmt := [supS q [.Name f (q 8)], fldS f (q 10) (q 11) (q 12) (q 13)]
def body2 (f g : Str) (q : Nat → Pos) : List PySem.Stmt := [supS q [.Name f (q 8), .Name g (q 9)], fldS f (q 10) (q 11) (q 12) (q 13), fldS g (q 14) (q 15) (q 16) (q 17)]

/-- what the written part says of the class at C whose __init__, at fI, is that of the class at D -/
structure ExcT (prog : Program) (K : Frag) (C D fI : Addr) (names : List Str) (ar : Arguments) (bd : List PySem.Stmt) : Prop where
  cls : ∃ nm q N bs bm sn sub ab col dd k0 k1 k2 k3 k5, K.lookup C = some (excClassObj nm q C N bs bm true sn sub ab col dd k0 k1 k2 k3 k5 "ValueError.__new__") ∧ refsVE bm = true
  sa : findIn K (.ref C) "__setattr__" = some (some (.builtin "object.__setattr__"))
  noN : ∀ f ∈ names, findIn K (.ref C) f = some none
  iC : findIn K (.ref C) "__init__" = some (some (.ref fI))
  tC : typeIn K (.ref fI) = some (.type "function")
  fn : ∃ (qual : Str) (scope : Scope) (doc pm ct : Value) (an : Option Addr) (cda cc : Addr) (oc : Value) (od : Option Addr) (osl : Array (Option Value)) (ccl : Value) (cdd : Option Addr) (vs : Array Value) (ccs : Array (Option Value)) (file : Str) (tf : Tok) (cl : Value) (cld : Option Addr) (csl : Array (Option Value)) (cdD : ClassData),
    K.lookup fI = some ⟨oc, od, .func (ksFn "__init__" qual ar bd scope .none .none doc pm an (.ref cda) ct cc), osl⟩ ∧ codeIn K (.ref cda) qual = true ∧
    K.lookup cda = some ⟨ccl, cdd, .fields vs, ccs⟩ ∧ vs[2]? = some (.str file tf) ∧ ((prog.main.file : Str) == file) = true ∧
    K.lookup cc = some ⟨cl, cld, .cell (some (.ref D)), csl⟩ ∧ clsIn K D = some cdD ∧
    scope.kind = .function ∧ scope.isCoroutine = false ∧ scope.isGenerator = false ∧ (∀ x ∈ scope.names, x.2 ≠ .cell) ∧
    scope.names.lookup ("super" : Str) = some .globalImplicit ∧ scope.names.lookup ("__class__" : Str) = some .free ∧ scope.names.lookup ("self" : Str) = some .local ∧ ∀ f ∈ names, scope.names.lookup f = some .local
  hsub : mroIn K C (.ref D) = some true
  top : (prog.main.scope.names.lookup ("super" : Str)).isSome = false
  sup : ks_superIn K C D "__init__" = some (some (.builtin "ValueError.__init__"))
  opq : nsIn K cStatics "thirdparty.any" = some none
  isVE : subIn K (.ref C) (.type "ValueError") = some true

section
variable {prog : Program} {w : World} {A : Around} {E : Value → Shared → Prop} {s : Shared} {K : Frag} {mg mb : Str → Option Value} {C D fI x t0 cda cc L : Addr}
/-- super().__init__(..) within the __init__ of an error at x, the arguments laid anew -/
theorem super_init {qual : Str} {scope : Scope} {bd : List PySem.Stmt} {m : Str → Option Value} {q : Nat → Pos} {es : List PySem.Expr} {vs : List Value} {ar : Arguments} {doc pm ct : Value} {an : Option Addr} {oc : Value} {od : Option Addr} {osl : Array (Option Value)} {ccl : Value} {cdd : Option Addr} {fs : Array Value} {ccs : Array (Option Value)} {file : Str} {tf : Tok} {cl : Value} {cld : Option Addr} {csl : Array (Option Value)} {cdD : ClassData}
    {nm q' : Str} {N : Addr} {bs bm : List Value} {sn : List Str} {sub : List Value} {ab : Bool} {col : Option Bool} {dd : Option Addr} {k0 k1 k2 k3 k5 : Option Value} {Q : Flow → Shared → Prop}
    (hC : K.lookup C = some (excClassObj nm q' C N bs bm true sn sub ab col dd k0 k1 k2 k3 k5 "ValueError.__new__"))
    (X : K.In s.heap) (G : s.heap.Ns mainGlobals mg) (Bn : s.heap.Ns builtinsNs mb) (hmg : mg "super" = none) (hmb : mb "super" = some (.type "super"))
    (hf : K.lookup fI = some ⟨oc, od, .func (ksFn "__init__" qual ar bd scope .none .none doc pm an (.ref cda) ct cc), osl⟩) (har : (ar.posonlyargs ++ ar.args).head? = some (iArg "self" (q 0)))
    (hcode : K.lookup cda = some ⟨ccl, cdd, .fields fs, ccs⟩) (hfs : fs[2]? = some (.str file tf)) (hfile : ((prog.main.file : Str) == file) = true)
    (hcell : K.lookup cc = some ⟨cl, cld, .cell (some (.ref D)), csl⟩) (hD : clsIn K D = some cdD) (hsub : mroIn K C (.ref D) = some true) (htop : (prog.main.scope.names.lookup ("super" : Str)).isSome = false)
    (hsup : ks_superIn K C D "__init__" = some (some (.builtin "ValueError.__init__"))) (hopq : nsIn K cStatics "thirdparty.any" = some none) (hVE : subIn K (.ref C) (.type "ValueError") = some true)
    (hk : scope.kind = .function) (hks : scope.names.lookup ("super" : Str) = some .globalImplicit) (hkc : scope.names.lookup ("__class__" : Str) = some .free) (hka : scope.names.lookup ("self" : Str) = some .local)
    (hns : s.heap.Ns L m) (hself : m "self" = some (.ref x)) (hx : s.heap.get? x = some (excO C t0)) (hz : vs.length ≤ sizeLine)
    (hargs : ∀ (s₁ : Shared) (P : List Value → Shared → Prop), (∀ b o, s.heap.get? b = some o → s₁.heap.get? b = some o) → P vs s₁ → wpAny (model prog w) A (spliced (backTo (q 6) (starEach es (ksEnv qual scope L fI (.ref cda) cc)))) P E s₁)
    {pl : Sem Bool} (he : eval (.Call (.Attribute (.Call (.Name "super" (q 3)) [] [] (q 4)) "__init__" (q 5)) es [] (q 6)) (ksEnv qual scope L fI (.ref cda) cc) = (do
      let ov ← attributeBase (.Call (.Name "super" (q 3)) [] [] (q 4)) "__init__" (ksEnv qual scope L fI (.ref cda) cc) (eval (.Call (.Name "super" (q 3)) [] [] (q 4)) (ksEnv qual scope L fI (.ref cda) cc))
      standAt (q 5).atName
      let (f, first) ← holding [ov] (getMethod ov "__init__" pl)
      callWith (q 6) f first (backTo (q 6) (starEach es (ksEnv qual scope L fI (.ref cda) cc))) []))
    (hst : ∃ e r, es = e :: r ∧ starEach es (ksEnv qual scope L fI (.ref cda) cc) = (false, eval e (ksEnv qual scope L fI (.ref cda) cc)) :: starEach r (ksEnv qual scope L fI (.ref cda) cc) ∧ (backTo (q 6) (starEach r (ksEnv qual scope L fI (.ref cda) cc))).any (·.1) = false)
    (hq : ∀ h' tk t1, (∀ b o, b ≠ x → s.heap.get? b = some o → h'.get? b = some o) → h'.get? x = some (excO C t1) → Q .next { s with heap := h', toks := tk }) :
    _root_.PySem.wpAt (model prog w) A (.func bd (ksEnv qual scope L fI (.ref cda) cc)) (exec (supS q es) (ksEnv qual scope L fI (.ref cda) cc)) Q E s := by
  obtain ⟨e, r, rfl, hs1, hs2⟩ := hst
  obtain ⟨hp, g, d, t, os⟩ := s
  have hX : K.In hp := X
  obtain ⟨oD, hD1, hD2⟩ : ∃ oD, hp.get? D = some oD ∧ oD.data = .cls cdD := by
    unfold clsIn at hD
    split at hD
    · rename_i c d cd' sl ho
      cases hD
      exact ⟨_, hX _ _ ho, rfl⟩
    · cases hD
  have I : InstAt hp x (excO C t0) C none := ⟨hx, rfl, rfl, trivial⟩
  refine ks_wpAt_Expr_any ?_ (by simp [interactive, hk]) rfl
  refine ks_wpAt_MethodCall ?_ he
  refine ks_wpAt_super_base (env := ksEnv qual scope L fI (.ref cda) cc) (show scope.names.lookup _ = _ from hks) (show scope.names.lookup _ = _ from hkc) (by decide) rfl (hX _ _ hf) rfl har rfl (hX _ _ hcode) rfl hfs hfile htop ?_
  refine ks_loadName_global hk hks (loadGlobal_builtin (env := ksEnv qual scope L fI (.ref cda) cc) G hmg Bn hmb ⟨rfl, ?_⟩)
  refine wpAny_loadName_free hk hkc rfl ⟨_, hX _ _ hcell, rfl⟩ ?_
  refine wpAny_loadName_local (env := ksEnv qual scope L fI (.ref cda) cc) (name := "self") hk hka hns hself ?_
  refine ks_wpAny_isType_cls hD1 hD2 ⟨rfl, ?_⟩
  refine ks_wpAny_call_super hD1 hD2 hx rfl (fun c z => by cases z) (looks_mroIn hX hsub) (fun h1 e1 k1 => ?_)
  -- the bound __init__
  have X1 : K.In h1 := hX.keeps k1
  cases hc : clsIn K C with
  | none => unfold ks_superIn at hsup; rw [hc] at hsup; cases hsup
  | some cd =>
    unfold ks_superIn at hsup
    rw [hc] at hsup
    have hI0 : Looks (model prog w) hp (isInstance (.ref x) (.type "ValueError")) true := I.type.andThen (looks_subIn hX hVE)
    have hI : Looks (model prog w) h1 (isInstance (.ref x) (.type "ValueError")) true := hI0.keeps k1
    refine kxs_getMethod kxs_ValueError e1 (looks_opaque X1 hopq) (l₀ := cd.mro) (fun A' Q' E' s' k' z => wpAny_bind ((looks_clsIn X1 hc) A' _ E' s' k' (wpAny_pure z))) rfl X1 hsup hI (ks_ne hX I hc) (by decide) ?_
    generalize hu : h1.objs.size = u
    have k2 : ∀ b o, hp.get? b = some o → (h1.push (kxs_mw "ValueError.__init__" x)).get? b = some o := fun b o z => Heap.get?_push_of_some _ (k1 b o z)
    have e2 : (h1.push (kxs_mw "ValueError.__init__" x)).get? u = some (kxs_mw "ValueError.__init__" x) := by rw [← hu]; exact Heap.get?_push_size _ rfl
    have step : ∀ (s₁ : Shared), s₁ = ⟨h1.push (kxs_mw "ValueError.__init__" x), g, d, t + 1, os⟩ → wpAny (model prog w) A (spliced (backTo (q 6) (starEach (e :: r) (ksEnv qual scope L fI (.ref cda) cc)))) (fun vs' s₂ => KxsAt "ValueError.__init__" u x s₂.heap ∧ wpAny (model prog w) A (call (.ref u) vs') (fun _ => Q .next) E s₂) E s₁ := by
      rintro _ rfl
      refine hargs _ _ k2 ⟨e2, ?_⟩
      -- the call
      refine wpAny_call (codeAny_of_tree ?_)
      show wpAny _ A.in1 (callAny (.ref u) ⟨vs, []⟩) _ _ _
      simp only [callAny]
      refine wpAny_bind (wpAny_load e2 ?_)
      simp only [kxs_mw, show (Value.type "method-wrapper" == Value.type "method" || Value.type "method-wrapper" == Value.type "builtin_function_or_method" || Value.type "method-wrapper" == Value.type "method-wrapper") = true by decide, if_true]
      refine KFB.if_so (by decide) ?_
      have FB := PySem.F.excBase_ValueError
      refine wpAny_bind (check_bound_init FB.toExcCallFacts (k2 _ _ (hX _ _ hC)) (k2 _ _ hx) rfl ?_)
      refine wpAny_bind (wpAny_pure (wpAny_pure ?_))
      refine ⟨plainId_quiet FB.init.plain _, codeAny_builtin FB.initEntry ?_⟩
      exact exc_init_tree (cls := .ref C) (t0 := t0) (dv := none) (c2 := .none) (c3 := .none) (b4 := .bool false) (k2 _ _ hx) hz fun h' kp e' _ => hq h' _ _ (fun b o hb z => kp b o hb (k2 b o z)) e'
    have fin := step _ rfl
    rw [hs1] at fin ⊢
    refine kxs_callWith (i := "ValueError.__init__") (x := x) (by show (false || (backTo (q 6) (starEach r _)).any (·.1)) = false; rw [hs2]; rfl) ?_
    exact evalArgs_plain fin
/-- what the __init__ leaves of the error at x: its own dict holds the fields -/
structure MadeE (h h' : Heap) (x C dx t1 : Addr) (mm : Str → Option Value) : Prop where
  keep : ∀ b o, b ≠ x → h.get? b = some o → h'.get? b = some o
  obj : h'.get? x = some { cls := .ref C, dict := some dx, data := .fields #[.ref t1, .none, .none, .none, .bool false, .none] }
  dnew : ∀ b o, h.get? b = some o → b ≠ dx
  dne : dx ≠ x
  ns : h'.Ns1 dx mm
theorem ld_name {env : Env} {m : Str → Option Value} {y : Str} {pos : Pos} {v : Value} {Q : Value → Shared → Prop} (hn : s.heap.Ns env.locals m) (hv : m y = some v) (hk : env.scope.kind = .function) (hl : env.kindOf y = some .local) (hd : (y == ("__debug__" : Str)) = false) (h : Q v s) :
    wpAny (model prog w) A (eval (.Name y pos) env) Q E s := wpAny_Name (wpAny_loadName_local hk hl hn hv h) hd
theorem ns_but {h1 h2 : Heap} {L x : Addr} {m : Str → Option Value} (hn : h1.Ns L m) (hx : L ≠ x) (k : ∀ b o, b ≠ x → h1.get? b = some o → h2.get? b = some o) : h2.Ns L m := by
  obtain ⟨oL, es, ep, hoL, r⟩ := hn
  exact ⟨oL, es, ep, k _ _ hx hoL, r⟩
theorem in_but {h1 h2 : Heap} {x : Addr} (X : K.In h1) (hx : K.lookup x = none) (k : ∀ b o, b ≠ x → h1.get? b = some o → h2.get? b = some o) : K.In h2 := fun a o e => k a o (fun z => by rw [z, hx] at e; cases e) (X a o e)
/-- self.f = f, the first one -/
theorem fld_first {env : Env} {m : Str → Option Value} {f : Str} {pa pb pc pd : Pos} {v : Value} {t1 : Addr} {Q : Flow → Shared → Prop}
    {nm q' : Str} {N : Addr} {bs bm : List Value} {sn : List Str} {sub : List Value} {ab : Bool} {col : Option Bool} {dd : Option Addr} {k0 k1 k2 k3 k5 : Option Value}
    (hC : K.lookup C = some (excClassObj nm q' C N bs bm true sn sub ab col dd k0 k1 k2 k3 k5 "ValueError.__new__")) (hbm : refsVE bm = true) (sa : findIn K (.ref C) "__setattr__" = some (some (.builtin "object.__setattr__"))) (hno : findIn K (.ref C) f = some none)
    (X : K.In s.heap) (hns : s.heap.Ns env.locals m) (hf : m f = some v) (hs : m "self" = some (.ref x)) (hk : env.scope.kind = .function) (lf : env.kindOf f = some .local) (ls : env.kindOf "self" = some .local) (hd : (f == ("__debug__" : Str)) = false)
    (hx : s.heap.get? x = some (excO C t1)) (hsw : swapsWith (.Name f pc) (some (.Attribute (.Name "self" pa) f pb)) pd.line env = pure false)
    (hq : ∀ h' tk dx, (∀ b o, b ≠ x → s.heap.get? b = some o → h'.get? b = some o) → s.heap.objs.size ≤ dx → dx ≠ x → h'.get? x = some { cls := .ref C, dict := some dx, data := .fields #[.ref t1, .none, .none, .none, .bool false, .none] } → h'.Ns1 dx (fun y => if y = f then some v else none) → Q .next { s with heap := h', toks := tk }) :
    wpAny (model prog w) A (exec (fldS f pa pb pc pd) env) Q E s := by
  have hcl : clsIn K C = some { name := nm, bases := bs, mro := .ref C :: bm, ns := N, qualname := q', hasDict := true, slotNames := sn, subclasses := sub, abstract := ab, collection := col, hasDel := false } := by unfold clsIn; rw [hC] <;> rfl
  refine plainObj_wpAny_Assign_Attribute (ld_name hns hf hk lf hd (ld_name hns hs hk ls (by decide) ?_)) hsw
  obtain ⟨hp, g, d, t, os⟩ := s
  refine set_plain X (ox := excO C t1) (od := none) ⟨hx, rfl, rfl, trivial⟩ sa ?_
  exact exc_osa X hx hcl (show refsVE (.ref C :: bm) = true from hbm) rfl hno fun h' tk dx k dn dne hx' hn => hq h' tk dx k dn dne hx' hn
/-- self.f = f, a further one -/
theorem fld_more {env : Env} {m : Str → Option Value} {f : Str} {pa pb pc pd : Pos} {v : Value} {t1 dx : Addr} {m0 : Str → Option Value} {nl : List Str} {Q : Flow → Shared → Prop}
    {nm q' : Str} {N : Addr} {bs bm : List Value} {sn : List Str} {sub : List Value} {ab : Bool} {col : Option Bool} {dd : Option Addr} {k0 k1 k2 k3 k5 : Option Value}
    (hC : K.lookup C = some (excClassObj nm q' C N bs bm true sn sub ab col dd k0 k1 k2 k3 k5 "ValueError.__new__")) (hbm : refsVE bm = true) (sa : findIn K (.ref C) "__setattr__" = some (some (.builtin "object.__setattr__"))) (hno : findIn K (.ref C) f = some none)
    (X : K.In s.heap) (hns : s.heap.Ns env.locals m) (hf : m f = some v) (hs : m "self" = some (.ref x)) (hk : env.scope.kind = .function) (lf : env.kindOf f = some .local) (ls : env.kindOf "self" = some .local) (hd : (f == ("__debug__" : Str)) = false)
    (hx : s.heap.get? x = some { cls := .ref C, dict := some dx, data := .fields #[.ref t1, .none, .none, .none, .bool false, .none] }) (hn : s.heap.Ns1 dx m0) (hw : Within m0 nl) (hz : nl.length ≤ 1000) (hsw : swapsWith (.Name f pc) (some (.Attribute (.Name "self" pa) f pb)) pd.line env = pure false)
    (hq : ∀ h' tk, (∀ b o, b ≠ dx → s.heap.get? b = some o → h'.get? b = some o) → h'.Ns1 dx (fun y => if y = f then some v else m0 y) → Q .next { s with heap := h', toks := tk }) :
    wpAny (model prog w) A (exec (fldS f pa pb pc pd) env) Q E s := by
  have hcl : clsIn K C = some { name := nm, bases := bs, mro := .ref C :: bm, ns := N, qualname := q', hasDict := true, slotNames := sn, subclasses := sub, abstract := ab, collection := col, hasDel := false } := by unfold clsIn; rw [hC] <;> rfl
  refine plainObj_wpAny_Assign_Attribute (ld_name hns hf hk lf hd (ld_name hns hs hk ls (by decide) ?_)) hsw
  obtain ⟨oD, _, _, hoD, _, _⟩ := hn.count hw
  obtain ⟨hp, g, d, t, os⟩ := s
  refine set_plain X (ox := { cls := .ref C, dict := some dx, data := .fields #[.ref t1, .none, .none, .none, .bool false, .none] }) (od := some oD) ⟨hx, rfl, rfl, hoD⟩ sa ?_
  exact PySem.OEX.osa_old X hx hn hw hz hcl (show refsVE (.ref C :: bm) = true from hbm) rfl hno fun h' tk k hn' => hq h' tk k hn'
theorem run_init1 {f : Str} {q : Nat → Pos} {v : Value} {R : Result → Shared → Prop} (T : ExcT prog K C D fI [f] (args1 f q) (body1 f q)) (X : K.In s.heap) (G : s.heap.Ns mainGlobals mg) (Bn : s.heap.Ns builtinsNs mb) (hmg : mg "super" = none) (hmb : mb "super" = some (.type "super")) (hlim : s.heap.NoLimit)
    (hx : s.heap.get? x = some (excO C t0)) (hxK : K.lookup x = none) (hd : A.depth < recursionLimit) (hfd : (f == ("__debug__" : Str)) = false) (hfs : f ≠ ("self" : Str))
    (hb : ∀ qual scope doc pm an cda ct cc, bindArgs (ksFn "__init__" qual (args1 f q) (body1 f q) scope .none .none doc pm an (.ref cda) ct cc) ⟨[.ref x, v], []⟩ = pure [(("self" : Str), Value.ref x), (f, v)])
    (he : ∀ env : Env, ∃ pl, eval (.Call (.Attribute (.Call (.Name "super" (q 3)) [] [] (q 4)) "__init__" (q 5)) [.Name f (q 8)] [] (q 6)) env = (do
      let ov ← attributeBase (.Call (.Name "super" (q 3)) [] [] (q 4)) "__init__" env (eval (.Call (.Name "super" (q 3)) [] [] (q 4)) env)
      standAt (q 5).atName
      let (f', first) ← holding [ov] (getMethod ov "__init__" pl)
      callWith (q 6) f' first (backTo (q 6) (starEach [.Name f (q 8)] env)) []))
    (hsw : ∀ env, swapsWith (.Name f (q 12)) (some (.Attribute (.Name "self" (q 10)) f (q 11))) (q 13).line env = pure false)
    (hR : ∀ h' tk dx t1, MadeE s.heap h' x C dx t1 (fun y => if y = f then some v else none) → R (.ok (.ret .none)) { s with heap := h', toks := tk }) : codeAny (model prog w) A (.call (.ref fI) ⟨[.ref x, v], []⟩) R s := by
  obtain ⟨nm, q', N, bs, bm, sn, sub, ab, col, dd, k0, k1, k2, k3, k5, hC, hbm⟩ := T.cls
  obtain ⟨qual, scope, doc, pm, ct, an, cda, cc, oc, od, osl, ccl, cdd, fs, ccs, file, tf, cl, cld, csl, cdD, hf, hcd, hcode, hfs2, hfile, hcell, hD, hk, hco, hgen, hnc, hks, hkc, hka, hkf⟩ := T.fn
  have hkf := hkf f (by simp)
  have hsf : (("self" : Str) == f) = false := by simpa using fun e => hfs e.symm
  refine ks_codeAny_call_defAt (fd := ksFn "__init__" qual (args1 f q) (body1 f q) scope .none .none doc pm an (.ref cda) ct cc) (body := body1 f q) (binds := [(("self" : Str), Value.ref x), (f, v)]) hd (X _ _ hf) rfl hlim (codeRec_of X hcd) rfl (BindsTo.of_eq (hb ..)) hnc (fun y hy => ?_) (fun h₀ hns hk₀ => ?_) hco hgen hk
  · simp only [List.mem_cons, List.not_mem_nil, or_false] at hy
    rcases hy with rfl | rfl
    · exact hka
    · exact hkf
  have hXL : s.heap.objs.size ≠ x := fun z => by
    have := Heap.lt_size hx
    rw [z] at this
    exact absurd this (Nat.lt_irrefl _)
  generalize hL : s.heap.objs.size = L at hns hXL ⊢
  have hns : h₀.Ns L (fun y => List.lookup y [(f, v), (("self" : Str), Value.ref x)]) := hns
  have hx0 := hk₀ _ _ hx
  have lf : (fun y => List.lookup y [(f, v), (("self" : Str), Value.ref x)]) f = some v := by simp [List.lookup]
  have ls : (fun y => List.lookup y [(f, v), (("self" : Str), Value.ref x)]) "self" = some (.ref x) := by
    show List.lookup ("self" : Str) [(f, v), (("self" : Str), Value.ref x)] = _
    rw [List.lookup_cons, hsf]
    simp [List.lookup]
  show _root_.PySem.wpAt _ (A.deeper (ksEnv qual scope L fI (.ref cda) cc)) (.func _ (ksEnv qual scope L fI (.ref cda) cc)) (execs (body1 f q) (ksEnv qual scope L fI (.ref cda) cc)) _ _ _
  obtain ⟨pl, he⟩ := he (ksEnv qual scope L fI (.ref cda) cc)
  refine ks_wpAt_execs_cons ?_
  refine super_init (s := { s with heap := h₀, toks := s.toks + 2 }) (vs := [v]) (mb := mb) (mg := mg) hC (X.keeps hk₀) (G.keeps hk₀) (Bn.keeps hk₀) hmg hmb hf rfl hcode hfs2 hfile hcell hD T.hsub T.top T.sup T.opq T.isVE hk hks hkc hka hns ls hx0 (by rw [sizeLine_eq]; exact (by decide : 1 ≤ 16777216)) (fun s₁ P kk hP => ?_) he ⟨_, _, rfl, rfl, rfl⟩ (fun h1 tk1 t1 kk1 e1 => ?_)
  · exact Calls.spliced_cons (ld_name (env := ksEnv qual scope L fI (.ref cda) cc) (hns.keeps kk) lf hk hkf hfd (Calls.spliced_nil hP))
  · have ns1 := ns_but hns hXL kk1
    have X1 : K.In h1 := in_but (X.keeps hk₀) hxK kk1
    refine ks_wpAt_execs_cons (_root_.PySem.wpAt_of_wpAny ?_)
    refine fld_first (s := { s with heap := h1, toks := tk1 }) (env := ksEnv qual scope L fI (.ref cda) cc) hC hbm T.sa (T.noN f (by simp)) X1 ns1 lf ls hk hkf hka hfd e1 (hsw _) fun h2 tk2 dx kk2 dn dne e2 n2 => ?_
    refine _root_.PySem.wpAt_of_wpAny (wpAny_pure ?_)
    refine hR h2 tk2 dx t1 ⟨fun b o hb hbo => kk2 b o hb (kk1 b o hb (hk₀ b o hbo)), e2, fun b o hbo => ?_, dne, n2⟩
    by_cases hbx : b = x
    · rw [hbx]; exact dne.symm
    · exact Nat.ne_of_lt (Nat.lt_of_lt_of_le (Heap.lt_size (kk1 b o hbx (hk₀ b o hbo))) dn)
theorem run_init2 {f g : Str} {q : Nat → Pos} {v v' : Value} {R : Result → Shared → Prop} (T : ExcT prog K C D fI [f, g] (args2 f g q) (body2 f g q)) (X : K.In s.heap) (G : s.heap.Ns mainGlobals mg) (Bn : s.heap.Ns builtinsNs mb) (hmg : mg "super" = none) (hmb : mb "super" = some (.type "super")) (hlim : s.heap.NoLimit)
    (hx : s.heap.get? x = some (excO C t0)) (hxK : K.lookup x = none) (hd : A.depth < recursionLimit) (hfd : (f == ("__debug__" : Str)) = false) (hgd : (g == ("__debug__" : Str)) = false) (hfs : f ≠ ("self" : Str)) (hgs : g ≠ ("self" : Str)) (hfg : f ≠ g)
    (hb : ∀ qual scope doc pm an cda ct cc, bindArgs (ksFn "__init__" qual (args2 f g q) (body2 f g q) scope .none .none doc pm an (.ref cda) ct cc) ⟨[.ref x, v, v'], []⟩ = pure [(("self" : Str), Value.ref x), (f, v), (g, v')])
    (he : ∀ env : Env, ∃ pl, eval (.Call (.Attribute (.Call (.Name "super" (q 3)) [] [] (q 4)) "__init__" (q 5)) [.Name f (q 8), .Name g (q 9)] [] (q 6)) env = (do
      let ov ← attributeBase (.Call (.Name "super" (q 3)) [] [] (q 4)) "__init__" env (eval (.Call (.Name "super" (q 3)) [] [] (q 4)) env)
      standAt (q 5).atName
      let (f', first) ← holding [ov] (getMethod ov "__init__" pl)
      callWith (q 6) f' first (backTo (q 6) (starEach [.Name f (q 8), .Name g (q 9)] env)) []))
    (hsw : ∀ env, swapsWith (.Name f (q 12)) (some (.Attribute (.Name "self" (q 10)) f (q 11))) (q 13).line env = pure false)
    (hsw2 : ∀ env, swapsWith (.Name g (q 16)) (some (.Attribute (.Name "self" (q 14)) g (q 15))) (q 17).line env = pure false)
    (hR : ∀ h' tk dx t1, MadeE s.heap h' x C dx t1 (fun y => if y = g then some v' else if y = f then some v else none) → R (.ok (.ret .none)) { s with heap := h', toks := tk }) : codeAny (model prog w) A (.call (.ref fI) ⟨[.ref x, v, v'], []⟩) R s := by
  obtain ⟨nm, q', N, bs, bm, sn, sub, ab, col, dd, k0, k1, k2, k3, k5, hC, hbm⟩ := T.cls
  obtain ⟨qual, scope, doc, pm, ct, an, cda, cc, oc, od, osl, ccl, cdd, fs, ccs, file, tf, cl, cld, csl, cdD, hf, hcd, hcode, hfs2, hfile, hcell, hD, hk, hco, hgen, hnc, hks, hkc, hka, hkf⟩ := T.fn
  have hkg := hkf g (by simp)
  have hkf := hkf f (by simp)
  have hsg : (("self" : Str) == g) = false := by simpa using fun e => hgs e.symm
  have hfg' : (f == g) = false := by simpa using hfg
  have hsf : (("self" : Str) == f) = false := by simpa using fun e => hfs e.symm
  refine ks_codeAny_call_defAt (fd := ksFn "__init__" qual (args2 f g q) (body2 f g q) scope .none .none doc pm an (.ref cda) ct cc) (body := body2 f g q) (binds := [(("self" : Str), Value.ref x), (f, v), (g, v')]) hd (X _ _ hf) rfl hlim (codeRec_of X hcd) rfl (BindsTo.of_eq (hb ..)) hnc (fun y hy => ?_) (fun h₀ hns hk₀ => ?_) hco hgen hk
  · simp only [List.mem_cons, List.not_mem_nil, or_false] at hy
    rcases hy with rfl | rfl | rfl
    · exact hka
    · exact hkf
    · exact hkg
  have hXL : s.heap.objs.size ≠ x := fun z => by
    have := Heap.lt_size hx
    rw [z] at this
    exact absurd this (Nat.lt_irrefl _)
  generalize hL : s.heap.objs.size = L at hns hXL ⊢
  have hns : h₀.Ns L (fun y => List.lookup y [(g, v'), (f, v), (("self" : Str), Value.ref x)]) := hns
  have hx0 := hk₀ _ _ hx
  have lf : (fun y => List.lookup y [(g, v'), (f, v), (("self" : Str), Value.ref x)]) f = some v := by simp [List.lookup, hfg']
  have lg : (fun y => List.lookup y [(g, v'), (f, v), (("self" : Str), Value.ref x)]) g = some v' := by simp [List.lookup]
  have ls : (fun y => List.lookup y [(g, v'), (f, v), (("self" : Str), Value.ref x)]) "self" = some (.ref x) := by
    show List.lookup ("self" : Str) [(g, v'), (f, v), (("self" : Str), Value.ref x)] = _
    rw [List.lookup_cons, hsg]
    show List.lookup ("self" : Str) [(f, v), (("self" : Str), Value.ref x)] = _
    rw [List.lookup_cons, hsf]
    simp [List.lookup]
  show _root_.PySem.wpAt _ (A.deeper (ksEnv qual scope L fI (.ref cda) cc)) (.func _ (ksEnv qual scope L fI (.ref cda) cc)) (execs (body2 f g q) (ksEnv qual scope L fI (.ref cda) cc)) _ _ _
  obtain ⟨pl, he⟩ := he (ksEnv qual scope L fI (.ref cda) cc)
  refine ks_wpAt_execs_cons ?_
  refine super_init (s := { s with heap := h₀, toks := s.toks + 3 }) (vs := [v, v']) (mb := mb) (mg := mg) hC (X.keeps hk₀) (G.keeps hk₀) (Bn.keeps hk₀) hmg hmb hf rfl hcode hfs2 hfile hcell hD T.hsub T.top T.sup T.opq T.isVE hk hks hkc hka hns ls hx0 (by rw [sizeLine_eq]; exact (by decide : 2 ≤ 16777216)) (fun s₁ P kk hP => ?_) he ⟨_, _, rfl, rfl, rfl⟩ (fun h1 tk1 t1 kk1 e1 => ?_)
  · exact Calls.spliced_cons (ld_name (env := ksEnv qual scope L fI (.ref cda) cc) (hns.keeps kk) lf hk hkf hfd (Calls.spliced_cons (ld_name (env := ksEnv qual scope L fI (.ref cda) cc) (hns.keeps kk) lg hk hkg hgd (Calls.spliced_nil hP))))
  · have ns1 := ns_but hns hXL kk1
    have X1 : K.In h1 := in_but (X.keeps hk₀) hxK kk1
    refine ks_wpAt_execs_cons (_root_.PySem.wpAt_of_wpAny ?_)
    refine fld_first (s := { s with heap := h1, toks := tk1 }) (env := ksEnv qual scope L fI (.ref cda) cc) hC hbm T.sa (T.noN f (by simp)) X1 ns1 lf ls hk hkf hka hfd e1 (hsw _) fun h2 tk2 dx kk2 dn dne e2 n2 => ?_
    have ns2 := ns_but ns1 hXL kk2
    have X2 : K.In h2 := in_but X1 hxK kk2
    have w2 : Within (fun y => if y = f then some v else none) [f] := fun y hy => by
      by_cases e : y = f
      · simp [e]
      · exact absurd (if_neg e) hy
    obtain ⟨oD, _, _, hoD, _, _⟩ := n2.count w2
    have hdK : K.lookup dx = none := by
      cases hz : K.lookup dx with
      | none => rfl
      | some o =>
        have : h1.get? dx = some o := X1 _ _ hz
        exact absurd (Heap.lt_size this) (Nat.not_lt_of_le dn)
    have hxd : x ≠ dx := dne.symm
    refine ks_wpAt_execs_cons (_root_.PySem.wpAt_of_wpAny ?_)
    refine fld_more (s := { s with heap := h2, toks := tk2 }) (env := ksEnv qual scope L fI (.ref cda) cc) (nl := [f]) hC hbm T.sa (T.noN g (by simp)) X2 ns2 lg ls hk hkg hka hgd e2 n2 w2 (show 1 ≤ 1000 by decide) (hsw2 _) fun h3 tk3 kk3 n3 => ?_
    refine _root_.PySem.wpAt_of_wpAny (wpAny_pure ?_)
    refine hR h3 tk3 dx t1 ⟨fun b o hb hbo => ?_, kk3 _ _ hxd e2, fun b o hbo => ?_, dne, n3⟩
    · have h1b := kk1 b o hb (hk₀ b o hbo)
      have : b ≠ dx := Nat.ne_of_lt (Nat.lt_of_lt_of_le (Heap.lt_size h1b) dn)
      exact kk3 b o this (kk2 b o hb h1b)
    by_cases hbx : b = x
    · rw [hbx]; exact dne.symm
    · exact Nat.ne_of_lt (Nat.lt_of_lt_of_le (Heap.lt_size (kk1 b o hbx (hk₀ b o hbo))) dn)
end

section
variable {prog : Program} {w : World} {K : Frag} {mg : Str → Option Value} {base : Heap} {C D fI : Addr}
/-- what is known of one class of errors with one field -/
structure IniT (prog : Program) (K : Frag) (mg : Str → Option Value) (C D fI : Addr) (names : List Str) (ar : Arguments) (bd : List PySem.Stmt) : Prop where
  tx : ExcT prog K C D fI names ar bd
  kC : keepIn K (.ref C) = true
  exC : subIn K (.ref C) (.type "BaseException") = some true
  tyC : typeIn K (.ref C) = some (.type "type")
  sup : mg "super" = none
theorem exg1 {f : Str} {q : Nat → Pos} (T : IniT prog K mg C D fI [f] (args1 f q) (body1 f q)) (hfd : (f == ("__debug__" : Str)) = false) (hfs : f ≠ ("self" : Str))
    (hb : ∀ qual scope doc pm an cda ct cc x v, bindArgs (ksFn "__init__" qual (args1 f q) (body1 f q) scope .none .none doc pm an (.ref cda) ct cc) ⟨[.ref x, v], []⟩ = pure [(("self" : Str), Value.ref x), (f, v)])
    (he : ∀ env : Env, ∃ pl, eval (.Call (.Attribute (.Call (.Name "super" (q 3)) [] [] (q 4)) "__init__" (q 5)) [.Name f (q 8)] [] (q 6)) env = (do
      let ov ← attributeBase (.Call (.Name "super" (q 3)) [] [] (q 4)) "__init__" env (eval (.Call (.Name "super" (q 3)) [] [] (q 4)) env)
      standAt (q 5).atName
      let (f', first) ← holding [ov] (getMethod ov "__init__" pl)
      callWith (q 6) f' first (backTo (q 6) (starEach [.Name f (q 8)] env)) []))
    (hsw : ∀ env, swapsWith (.Name f (q 12)) (some (.Attribute (.Name "self" (q 10)) f (q 11))) (q 13).line env = pure false) : ExcG prog w K mg base C [f] := by
  refine ⟨T.kC, T.exC, T.tyC, by simp, fun A s us vs Q E hr M hbs hl rv hQ => ?_⟩
  obtain ⟨nm, q', N, bs, bm, sn, sub, ab, col, dd, k0, k1, k2, k3, k5, hC, hbm⟩ := T.tx.cls
  obtain ⟨mb, hB, hb2⟩ := M.blt
  match us, hl with
  | [v], _ =>
    cases rv with
    | cons rv rn =>
      cases rn
      obtain ⟨hp, g, dr, tk, os⟩ := s
      have X : K.In hp := M.kin.keeps hbs
      have kk : ∀ b o, hp.get? b = some o → ((hp.push (kdv_tup [v])).push (excO C hp.objs.size)).get? b = some o := fun b o e => Heap.get?_push_of_some _ (Heap.get?_push_of_some _ e)
      have hget : ((hp.push (kdv_tup [v])).push (excO C hp.objs.size)).get? (hp.objs.size + 1) = some (excO C hp.objs.size) := by heap_get
      have hxK : K.lookup (hp.objs.size + 1) = none := by
        cases hz : K.lookup (hp.objs.size + 1) with
        | none => rfl
        | some o => exact absurd (Heap.lt_size (X _ _ hz)) (Nat.not_lt_of_le (Nat.le_succ _))
      have hr1 := hr.make C [v] []
      refine wpAny_call (call_own F.excBase_ValueError (fun Y => refsVE_contains Y bm hbm) (X _ _ hC) (looks_findIn X T.tx.iC) (fun self => bind_fn X self T.tx.tC) (by rw [sizeLine_eq]; exact (by decide : 1 ≤ 16777216))
        (run_init1 (s := ⟨(hp.push (kdv_tup [v])).push (excO C hp.objs.size), g, dr, tk, os⟩) (mb := mb) T.tx (X.keeps kk) ((M.glob.keeps hbs).keeps kk) ((hB.keeps hbs).keeps kk) T.sup ((hb2 _ (by decide)).trans PyProof.Rows.Boot.«super») ((M.nolimit.keeps hbs).keeps kk) hget hxK hr1.depth hfd hfs (fun _ _ _ _ _ _ _ _ => hb _ _ _ _ _ _ _ _ _ _) he hsw fun h' tk' dx t1 m => ?_))
      refine ⟨rfl, hQ h' tk' (hp.objs.size + 1) dx t1 _ ⟨fun b o hbo => m.keep b o (fun z => ?_) (kk b o hbo), Nat.le_succ _, m.obj, fun b o hbo => m.dnew b o (kk b o hbo), m.dne, m.ns⟩ ?_⟩
      · have := Heap.lt_size hbo
        rw [z] at this
        exact absurd this (Nat.not_lt_of_le (Nat.le_succ _))
      · exact relO_put (fs := []) rv fun g => True.intro
theorem exg2 {f g : Str} {q : Nat → Pos} (T : IniT prog K mg C D fI [f, g] (args2 f g q) (body2 f g q)) (hfd : (f == ("__debug__" : Str)) = false) (hgd : (g == ("__debug__" : Str)) = false) (hfs : f ≠ ("self" : Str)) (hgs : g ≠ ("self" : Str)) (hfg : f ≠ g)
    (hb : ∀ qual scope doc pm an cda ct cc x v v', bindArgs (ksFn "__init__" qual (args2 f g q) (body2 f g q) scope .none .none doc pm an (.ref cda) ct cc) ⟨[.ref x, v, v'], []⟩ = pure [(("self" : Str), Value.ref x), (f, v), (g, v')])
    (he : ∀ env : Env, ∃ pl, eval (.Call (.Attribute (.Call (.Name "super" (q 3)) [] [] (q 4)) "__init__" (q 5)) [.Name f (q 8), .Name g (q 9)] [] (q 6)) env = (do
      let ov ← attributeBase (.Call (.Name "super" (q 3)) [] [] (q 4)) "__init__" env (eval (.Call (.Name "super" (q 3)) [] [] (q 4)) env)
      standAt (q 5).atName
      let (f', first) ← holding [ov] (getMethod ov "__init__" pl)
      callWith (q 6) f' first (backTo (q 6) (starEach [.Name f (q 8), .Name g (q 9)] env)) []))
    (hsw : ∀ env, swapsWith (.Name f (q 12)) (some (.Attribute (.Name "self" (q 10)) f (q 11))) (q 13).line env = pure false)
    (hsw2 : ∀ env, swapsWith (.Name g (q 16)) (some (.Attribute (.Name "self" (q 14)) g (q 15))) (q 17).line env = pure false) : ExcG prog w K mg base C [f, g] := by
  refine ⟨T.kC, T.exC, T.tyC, by simp, fun A s us vs Q E hr M hbs hl rv hQ => ?_⟩
  obtain ⟨nm, q', N, bs, bm, sn, sub, ab, col, dd, k0, k1, k2, k3, k5, hC, hbm⟩ := T.tx.cls
  obtain ⟨mb, hB, hb2⟩ := M.blt
  match us, hl with
  | [v, v'], _ =>
    cases rv with
    | cons rv rn =>
      cases rn with
      | cons rv' rn' =>
      cases rn'
      obtain ⟨hp, gg, dr, tk, os⟩ := s
      have X : K.In hp := M.kin.keeps hbs
      have kk : ∀ b o, hp.get? b = some o → ((hp.push (kdv_tup [v, v'])).push (excO C hp.objs.size)).get? b = some o := fun b o e => Heap.get?_push_of_some _ (Heap.get?_push_of_some _ e)
      have hget : ((hp.push (kdv_tup [v, v'])).push (excO C hp.objs.size)).get? (hp.objs.size + 1) = some (excO C hp.objs.size) := by heap_get
      have hxK : K.lookup (hp.objs.size + 1) = none := by
        cases hz : K.lookup (hp.objs.size + 1) with
        | none => rfl
        | some o => exact absurd (Heap.lt_size (X _ _ hz)) (Nat.not_lt_of_le (Nat.le_succ _))
      have hr1 := hr.make C [v, v'] []
      refine wpAny_call (call_own F.excBase_ValueError (fun Y => refsVE_contains Y bm hbm) (X _ _ hC) (looks_findIn X T.tx.iC) (fun self => bind_fn X self T.tx.tC) (by rw [sizeLine_eq]; exact (by decide : 2 ≤ 16777216))
        (run_init2 (s := ⟨(hp.push (kdv_tup [v, v'])).push (excO C hp.objs.size), gg, dr, tk, os⟩) (mb := mb) T.tx (X.keeps kk) ((M.glob.keeps hbs).keeps kk) ((hB.keeps hbs).keeps kk) T.sup ((hb2 _ (by decide)).trans PyProof.Rows.Boot.«super») ((M.nolimit.keeps hbs).keeps kk) hget hxK hr1.depth hfd hgd hfs hgs hfg (fun _ _ _ _ _ _ _ _ => hb _ _ _ _ _ _ _ _ _ _ _) he hsw hsw2 fun h' tk' dx t1 m => ?_))
      refine ⟨rfl, hQ h' tk' (hp.objs.size + 1) dx t1 _ ⟨fun b o hbo => m.keep b o (fun z => ?_) (kk b o hbo), Nat.le_succ _, m.obj, fun b o hbo => m.dnew b o (kk b o hbo), m.dne, m.ns⟩ ?_⟩
      · have := Heap.lt_size hbo
        rw [z] at this
        exact absurd this (Nat.not_lt_of_le (Nat.le_succ _))
      · exact relO_put (f := g) (fs := [(f, _)]) rv' (relO_put (fs := []) rv fun g => True.intro)
end
end DL
set_option Elab.async false
set_option linter.all false
set_option maxRecDepth 100000
set_option maxHeartbeats 2000000
/-! DTry: try with several clauses, each with a name. -/
namespace DL
open PySem L2

abbrev ClT := Value × Nat × (Addr → Value → Option Addr → TS)
/-- what the clauses wish, in turn -/
def wAll (K : PySem.W.Frag) (Wo : WX) (Z : Ends) : List ClT → WX
  | [] => Wo
  | (c, i, ts) :: more => fun cls d σ H => ∃ b, PySem.W.exmOne K cls c = some b ∧ (b = true → ∀ a, H a = none → ts a cls d { nx := fun σ2 H2 => Z.nx (σ2.set i none) H2, rt := Z.rt, bk := fun σ2 H2 => Z.bk (σ2.set i none) H2, ct := fun σ2 H2 => Z.ct (σ2.set i none) H2 } (σ.set i (some (.ref a))) H) ∧ (b = false → wAll K Wo Z more cls d σ H)
inductive ClsOk (X : Cx) : List ExceptHandler → List ClT → Prop
  | nil : ClsOk X [] []
  | cons {x n : Str} {c : Value} {i : Nat} {ts : Addr → Value → Option Addr → TS} {st : Stmt} {sts : List Stmt} {q1 q2 : Pos} {hds : List ExceptHandler} {l : List ClT} (hc : Names X x c) (hi : X.N[i]? = some n) (hl : X.env.kindOf n = some .local)
      (go : ∀ (a : Addr) (oe : Obj) (cls : Value) (d : Option Addr) (pn : List (Addr × Obj)), Zc cls d oe → (∃ vs, oe.data = .fields vs) → PSs (X.suite a ((a, oe) :: pn)) (st :: sts) (ts a cls d)) (r : ClsOk X hds l) :
      ClsOk X (.ExceptHandler (some (.Name x q1)) (some n) (st :: sts) q2 :: hds) ((c, i, ts) :: l)
section
variable {X : Cx} {bd : List Stmt} {hd : ExceptHandler} {hds : List ExceptHandler} {l : List ClT} {pos : Pos} {tb : WX → TS} {Wo : WX}
theorem ps_tryA (hs : X.stack = X.env :: X.outer) (hf : X.env.frame = some X.env.locals) (hN : X.N.Nodup) (tk : Takes X Wo)
    (hb : ∀ (W : WX) (pn : List (Addr × Obj)) (xe : Value → Shared → Prop), Takes (X.tr pn xe) W → PassesOwn (model X.prog X.w) X.A X.env xe → PSs (X.tr pn xe) bd (tb W))
    (hh : ClsOk X (hd :: hds) l) : PS X (.Try bd (hd :: hds) [] [] pos) (fun Z σ H => tb (wAll X.K Wo Z l) Z σ H) := by
  refine ⟨fun pins s σ H Z I0 start => ?_⟩
  have okX := I0.ok
  have frX : X.A.frames = some (X.env :: X.outer) := by rw [okX.frames, hs]
  refine wpAny_Try_except (wpAny_mono ((hb (wAll X.K Wo Z l) (X.pn ++ pins) (fun e s₁ => wpAny (model X.prog X.w) X.A (noteFrame e X.env) (fun _ s₂ => wpAny (model X.prog X.w) X.A (setFlight e none) (fun _ s₃ =>
    wpAny (model X.prog X.w) X.A (handleBy e X.env (hd :: hds)) (SP X pins Z) X.xe s₃) X.xe s₂) X.xe s₁) (fun u sE inE => ?_) PassesOwn.looking).run [] s σ H Z (I0.toTry _) start) (fun fl sT done => ?_) (fun _ _ y => y))
  · obtain ⟨ex, B, sI, pinsE, σE, HE, cls, d, rfl, IE', nb, up1, skyE, nex, osE, bareE, wE⟩ := inE
    have IE : Inv X pins σE HE sI := IE'.ofTry okX
    have skyE2 : Sky B (X.env :: X.outer) ex (Zc cls d) X.env.locals sE.heap := by rw [← hs]; exact skyE
    show wpAny (model X.prog X.w) X.A (noteFrame (.ref ex) X.env) _ _ _
    refine Sky.land Zc.steady frX hf skyE2 fun hL fL upL => ?_
    have IL : Inv X pins σE HE { sE with heap := hL } := IE.landed nb fL.1 (up1.trans upL) osE bareE
    obtain ⟨oL, vL, eL, zL, dL⟩ := fL.there
    have apart : ex ∉ frs (X.env :: X.outer) := fun isIn => by
      obtain ⟨_, o2, e2, no⟩ := fL.2.2.1.mem isIn
      rw [eL] at e2; cases e2
      exact no _ dL
    have apartL : ex ≠ X.env.locals := fun z => apart (List.mem_filterMap.mpr ⟨X.env, List.mem_cons_self, by rw [hf, z]⟩)
    have apartF : ex ∉ X.fs := fun isIn => by
      obtain ⟨en, hen, q⟩ := List.mem_filterMap.mp isIn
      exact apart (List.mem_filterMap.mpr ⟨en, List.mem_cons_of_mem _ hen, q⟩)
    have SL := IL.suite eL dL nex apartL apartF
    have walk : ∀ {hs2 : List ExceptHandler} {l2 : List ClT}, ClsOk X hs2 l2 → wAll X.K Wo Z l2 cls d σE HE →
        wpAny (model X.prog X.w) X.A (handleBy (.ref ex) X.env hs2) (SP X pins Z) X.xe { sE with heap := hL } := by
      intro hs2 l2 cl
      induction cl with
      | nil =>
        intro wish
        refine wpAny_handleBy_nil ?_
        obtain ⟨_, _, _, oX, vX, T, oT, tsT, atX, zX, dX, fieldX, _⟩ := id fL
        unfold PySem.passOn
        refine wpAny_bind (wpAny_field atX dX fieldX ?_)
        rw [if_neg (show ¬ ((Value.ref T == Value.none) = true) from by simp)]
        have last : wpAny (model X.prog X.w) X.A (setFlight (.ref ex) X.env.frame) (fun _ sF => wpAny (model X.prog X.w) X.A (throw (.ref ex) : Sem Flow) (SP X pins Z) X.xe sF) X.xe { sE with heap := hL } := by
          rw [hf]
          exact HandSPX.setFlight_upZ fL fun hF skyF upF => wpAny_throw (tk _ _ ⟨ex, B, sI, pins, σE, HE, cls, d, rfl, IE, nb, (up1.trans upL).trans upF, .inr (.inr (by rw [hs]; exact skyF)), nex, osE, bareE, wish⟩)
        first
          | exact wpAny_bind (wpAny_pure (wpAny_bind last))
          | exact wpAny_bind last
      | @cons x n c i ts st sts q1 q2 hds2 l3 hc hi hl go r ih =>
        intro ⟨b, isB, yes, no⟩
        refine wpAny_handleBy_cons (codeAny_handlers_test ?_) (by intro q; cases q)
        have LT : PySem.W.Looks (model X.prog X.w) hL (typeOf (.ref ex)) cls := fun _ _ _ _ kp q => wpAny_typeOf_ref (kp _ _ eL) (by rw [zL.1]; exact q)
        have LX := PySem.W.exm_one (M := model X.prog X.w) (IL.kIn) LT isB
        have ask : ∀ {Q : Value → Shared → Prop} {E : Value → Shared → Prop}, Q c { sE with heap := hL } → wpAny (model X.prog X.w) (X.A.mark (some (.ref ex))) (eval (.Name x q1) X.env) Q E { sE with heap := hL } := fun {Q E} q => by
          obtain ⟨h1, h2, h3 | ⟨h3, h4, h5⟩⟩ := hc
          · exact ld_glob (X := X.suite ex ((ex, oL) :: (X.pn ++ pins))) SL h1 h3 q h2
          · exact ld_blt (X := X.suite ex ((ex, oL) :: (X.pn ++ pins))) SL h1 h3 h4 q h5 h2
        refine ask (LX.here ?_)
        cases b with
        | true =>
          refine codeAny_handlers_suite_as (HandSPX.lands_againZ fL fun hM fM upM => ?_)
          have IM : Inv X pins σE HE { sE with heap := hM } := IE.landed nb fM.1 ((up1.trans upL).trans upM) osE bareE
          obtain ⟨oM, vM, eM, zM, dM⟩ := fM.there
          refine store_ok (X := X.suite ex ((ex, oM) :: (X.pn ++ pins))) (v := .ref ex) (IM.suite eM dM nex apartL apartF) hN hi (.inl hl) rfl (fun sS IS => ?_) (.inr hl)
          refine wpAny_mono ((go ex oM cls d (X.pn ++ pins) zM ⟨_, dM⟩).run [] sS _ HE _ IS (yes rfl ex nex)) (fun fl2 sU done2 => ?_) (fun _ _ z => False.elim z)
          have close : ∀ {σ6 : St} {H6 : Hp} {Q : Shared → Prop}, Inv (X.suite ex ((ex, oM) :: (X.pn ++ pins))) [] σ6 H6 sU → (∀ s7, Inv X pins (σ6.set i none) H6 s7 → Q s7) →
              wpAny (model X.prog X.w) X.A (do bindName X.env n .none; unbindBehindTheSuite X.env n q2) (fun _ s7 => Q s7) X.xe sU := fun {σ6 H6 Q} S6 hq => gone_ok (S6.unsuite okX) hN hi hl hq
          cases fl2 with
          | ret u =>
            obtain ⟨v6, σ6, H6, S6, r6, q6⟩ := done2
            exact close S6 fun s7 J7 => ⟨v6, _, H6, J7, r6, q6⟩
          | _ =>
            obtain ⟨σ6, H6, S6, q6⟩ := done2
            exact close S6 fun s7 J7 => ⟨_, H6, J7, q6⟩
        | false =>
          show wpAny _ X.A (handleBy (.ref ex) X.env hds2) _ _ _
          exact ih (no rfl)
    exact walk hh wE
  · cases fl with
    | next =>
      obtain ⟨σ2, H2, I2, q⟩ := done
      exact wpAny_execs_nil ⟨σ2, H2, I2.ofTry okX, q⟩
    | ret u =>
      obtain ⟨v, σ2, H2, I2, rv, q⟩ := done
      exact ⟨v, σ2, H2, I2.ofTry okX, rv, q⟩
    | _ =>
      obtain ⟨σ2, H2, I2, q⟩ := done
      exact ⟨σ2, H2, I2.ofTry okX, q⟩
end
end DL
set_option Elab.async false
set_option linter.all false
set_option maxRecDepth 100000
set_option maxHeartbeats 1000000
/-! DHand: what the suites of except clauses do. -/
namespace DL
open PySem L2

/-- which class is below which; which names are no attributes of a class -/
structure Orc where
  sb : Addr → Addr → Option Bool
  fd : Addr → Str → Bool
structure OrcOk (K : PySem.W.Frag) (O : Orc) : Prop where
  sb : ∀ C c b, O.sb C c = some b → PySem.W.exmOne K (.ref C) (.ref c) = some b ∧ PySem.W.kitOne K (.ref C) (.ref c) = some b ∧ ExcC K C
  fd : ∀ C f, O.fd C f = true → PySem.W.findIn K (.ref C) f = some none ∧ XfC K C
def clsOf (E : SE) (x : Str) : Option Addr := match glb E x with
  | some (.ex C _) => some C
  | some (.val (.gl C)) => some C
  | _ => none
def isIsi (E : SE) (x : Str) : Bool := match glb E x with
  | some (.bi b) => (match b.v with
    | .builtin id => id == "isinstance"
    | _ => false)
  | _ => false
def isCall : Expr → Bool
  | .Call .. => true
  | _ => false
def hC : Const → Option D
  | .none => some .non
  | .bool b => some (.bl b)
  | .int i => some (.int i)
  | .str x => some (.str x)
  | _ => none
def hF (O : Orc) (n : Str) (C : Addr) (fs : List (Str × D)) (f : Str) : Expr → Option D
  | .Name x _ => if x = n ∧ O.fd C f = true then fs.lookup f else none
  | _ => none
def hI (O : Orc) (E : SE) (n : Str) (C : Addr) (func : Expr) (args : List Expr) (kws : List Keyword) : Option D := match func, args, kws with
  | .Name g _, [.Name x _, .Name c _], [] => if x = n ∧ isIsi E g = true then (match clsOf E c with
    | some c' => (O.sb C c').map .bl
    | none => none) else none
  | _, _, _ => none
mutual
def hX (O : Orc) (E : SE) (n : Str) (C : Addr) (fs : List (Str × D)) : Expr → Option D
  | .Constant c _ _ => hC c
  | .Attribute o f _ => hF O n C fs f o
  | .Tuple es _ _ => if es.all noStar = true then (match hXs O E n C fs es with
    | some xs => if xs.length ≤ 1000 then some (.tup xs) else none
    | none => none) else none
  | .Call func args kws _ => hI O E n C func args kws
  | .IfExp c a b _ => if isCall c = true then (match hX O E n C fs c with
    | some (.bl true) => hX O E n C fs a
    | some (.bl false) => hX O E n C fs b
    | _ => none) else none
  | _ => none
def hXs (O : Orc) (E : SE) (n : Str) (C : Addr) (fs : List (Str × D)) : List Expr → Option (List D)
  | [] => some []
  | e :: es => match hX O E n C fs e, hXs O E n C fs es with
    | some x, some xs => some (x :: xs)
    | _, _ => none
end
/-- the state within a suite -/
structure HQ (K : PySem.W.Frag) (ι : List Addr) (S : SS) (i : Nat) (a : Addr) (d : Option Addr) (fs : List (Str × D)) (σ : St) (H : Hp) : Prop where
  rs : RelS K H ι S
  sl : σ[i]? = some (some (.ref a))
  xd : ∃ dd fs', d = some dd ∧ H dd = some (.xd fs') ∧ RF K H ι fs fs'
def tH (K : PySem.W.Frag) (i : Nat) (a : Addr) (d : Option Addr) (fs : List (Str × D)) (S : SS) (r : Option D) : TE := fun σ H Q => ∃ ι, HQ K ι S i a d fs σ H ∧ ∃ x, r = some x ∧ ∀ v H' ι', Gr K H ι H' ι' → HQ K ι' S i a d fs σ H' → RD K H' ι' x v → Q v H'
def tHs (K : PySem.W.Frag) (i : Nat) (a : Addr) (d : Option Addr) (fs : List (Str × D)) (S : SS) (r : Option (List D)) : TA := fun σ H Q => ∃ ι, HQ K ι S i a d fs σ H ∧ ∃ x, r = some x ∧ ∀ v H' ι', Gr K H ι H' ι' → HQ K ι' S i a d fs σ H' → RDs K H' ι' x v → Q v H'
section
variable {X : Cx} {W : WX} {E : SE} {O : Orc} {i : Nat} {n : Str} {a C : Addr} {oe : Obj} {d : Option Addr} {pn : List (Addr × Obj)} {fs : List (Str × D)} {S : SS}
theorem HQ.new {K : PySem.W.Frag} {ι : List Addr} {σ : St} {H : Hp} {p : Addr} {vs : List V} (h : HQ K ι S i a d fs σ H) (hp : H p = none) : HQ K ι S i a d fs σ (upd H p (.tup vs)) := by
  obtain ⟨rs, sl, dd, fs', e, hd, rf⟩ := h
  refine ⟨rs.new hp, sl, dd, fs', e, ?_, rf.mono (Gr.new hp)⟩
  rw [upd_ne (fun z => by rw [z, hp] at hd; cases hd)]
  exact hd
/-- isinstance of the caught error, that has fields -/
theorem call_isD {D' : Addr} (T : ExcC X.K D') (hz : Zc (.ref D') d oe) (hf : ∃ vs, oe.data = .fields vs) : CallR (X.suite a ((a, oe) :: pn)) (.builtin "isinstance")
    (fun xs H Q => ∃ (c : V) (cv : Value) (b : Bool) (dd : Addr) (ff : List (Str × V)), xs = [.ref a, c] ∧ (∀ u, RelV c u → u = cv) ∧ d = some dd ∧ H dd = some (.xd ff) ∧ PySem.W.kitOne X.K (.ref D') cv = some b ∧ Q (.bl b) H) := by
  rintro pins s σ H xs us Q I r ⟨c, cv, b, dd, ff, rfl, hcv, ed, edd, kit, q⟩
  cases r with
  | cons r1 r2 =>
    cases r2 with
    | cons r3 r4 =>
      cases r4
      cases r1
      obtain rfl := hcv _ r3
      subst ed
      have here := (I.pin (a, oe) (List.mem_append.mpr (.inl List.mem_cons_self))).1
      obtain ⟨vs, hv⟩ := hf
      have hx : ObjOk X.prog X.w H s.heap dd (.xd ff) := I.hok dd _ edd
      obtain ⟨mA, hns, _⟩ := hx
      obtain ⟨od, ho, _⟩ := lookIn_ns hns
      have J : PySem.W.InstAt s.heap a oe D' (some od) := ⟨here, hz.1, by unfold PySem.W.notCls; rw [hv] <;> rfl, by rw [hz.2]; exact ho⟩
      have hcl : (PySem.W.clsIn X.K D').isSome = true := by
        obtain ⟨cd, h1, _⟩ := PySem.W.any_some T.hd
        rw [h1] <;> rfl
      exact PySem.W.kia_one (PySem.W.kitx_exc hcl T.hg T.hk T.hs T.ha T.hn T.ht T.hm) I.kIn J kit (fun z => nomatch z) fun tk => ⟨.bl b, H, I.kept (t' := tk) fun _ _ z => z, rfl, q⟩
structure HCtx (X : Cx) (W : WX) (E : SE) (O : Orc) (i : Nat) (n : Str) : Prop where
  c : Ctx X W E
  o : OrcOk X.K O
  ix : X.N[i]? = some n
  lc : X.env.scope.names.lookup n = some .local
  n1 : (n == ("__debug__" : Str)) = false
  n2 : (n == ("__classdict__" : Str)) = false
theorem clsOf_ok (c : Ctx X W E) {x : Str} {D' : Addr} (h : clsOf E x = some D') : Gl X x ∧ (x == ("__debug__" : Str)) = false ∧ X.mg x = some (.ref D') := by
  unfold clsOf at h
  split at h
  · rename_i C' f' hb
    cases h
    obtain ⟨g, h1, h2, _⟩ := glb_ok c hb
    exact ⟨g, h1, h2⟩
  · rename_i C' hb
    cases h
    obtain ⟨g, h1, u, v, h2, h3, h4⟩ := glb_ok c hb
    have := h4 (fun _ => none) []
    unfold RD at this
    subst this
    obtain rfl : u = Value.ref D' := h3
    exact ⟨g, h1, h2⟩
  · cases h
theorem isIsi_ok (c : Ctx X W E) {x : Str} (h : isIsi E x = true) : Gl X x ∧ X.mg x = none ∧ bootBuiltins x = some (.builtin "isinstance") ∧ x ≠ "__name__" ∧ (x == ("__debug__" : Str)) = false := by
  unfold isIsi at h
  split at h
  · rename_i b hb
    obtain ⟨g, rfl, h2, h3⟩ := glb_ok c hb
    split at h
    · rename_i id e
      have : id = "isinstance" := by simpa using h
      subst this
      exact ⟨g, h2, by rw [← e]; exact h3.boot, h3.nm, h3.nd⟩
    · cases h
  · cases h
theorem pe_self (h : HCtx X W E O i n) {p : Pos} : PE (X.suite a ((a, oe) :: pn)) (.Name n p) (tVar i) := pe_var (X := X.suite a ((a, oe) :: pn)) h.ix (.inl h.lc) h.n1 h.n2
theorem tH_val {K : PySem.W.Frag} {ι : List Addr} {σ : St} {H : Hp} {x : D} {v : V} {Q : VK} (h : ∀ v H' ι', Gr K H ι H' ι' → HQ K ι' S i a d fs σ H' → RD K H' ι' x v → Q v H') (hq : HQ K ι S i a d fs σ H) (r : RD K H ι x v) : Q v H := h v H ι Gr.refl hq r
theorem pe_none {e : Expr} : PE (X.suite a ((a, oe) :: pn)) e (tH X.K i a d fs S none) := ⟨fun _ _ _ _ _ _ ⟨_, _, _, h, _⟩ => by cases h⟩
theorem h_c {e : Expr} {x : D} {v : V} (hp : PE (X.suite a ((a, oe) :: pn)) e (tC v)) (r : ∀ H ι, RD X.K H ι x v) : PE (X.suite a ((a, oe) :: pn)) e (tH X.K i a d fs S (some x)) :=
  PE.imp hp fun σ H Q ⟨ι, hq, x', e, k⟩ => by cases e; exact k v H ι Gr.refl hq (r H ι)
theorem hI_ok (h : HCtx X W E O i n) (hz : Zc (.ref C) d oe) (hf : ∃ vs, oe.data = .fields vs) {func : Expr} {args : List Expr} {kws : List Keyword} {p : Pos} : PE (X.suite a ((a, oe) :: pn)) (.Call func args kws p) (tH X.K i a d fs S (hI O E n C func args kws)) := by
  unfold hI
  split
  · rename_i g p1 x p2 c p3
    split
    · rename_i hc
      obtain ⟨rfl, h2⟩ := hc
      obtain ⟨g1, g2, g3, g4, g5⟩ := isIsi_ok h.c h2
      split
      · rename_i c' hcl
        obtain ⟨c1, c2, c3⟩ := clsOf_ok h.c hcl
        cases hs : O.sb C c' with
        | none => exact pe_none
        | some b =>
          obtain ⟨_, kit, T⟩ := h.o.sb C c' b hs
          have pa : PA (X.suite a ((a, oe) :: pn)) [.Name x p2, .Name c p3] _ := pa_cons (pe_self h) (pa_cons (pe_glob (X := X.suite a ((a, oe) :: pn)) (v := .ref c') c1 c3 rfl c2) pa_nil rfl) rfl
          refine PE.imp (pe_callB (call_isD T hz hf) g1 g2 g3 pa g4 g5 rfl rfl) fun σ H Q ⟨ι, hq, x', e, k⟩ => ?_
          cases e
          obtain ⟨dd, ff, ed, edd, rf⟩ := hq.xd
          exact ⟨_, hq.sl, _, _, b, dd, ff, rfl, fun u ru => ru, ed, edd, kit, k _ H ι Gr.refl hq RD.mbl⟩
      · exact pe_none
    · exact pe_none
  · exact pe_none
theorem hF_ok (h : HCtx X W E O i n) (hz : Zc (.ref C) d oe) (hf : ∃ vs, oe.data = .fields vs) {o : Expr} {f : Str} {p : Pos} : PE (X.suite a ((a, oe) :: pn)) (.Attribute o f p) (tH X.K i a d fs S (hF O n C fs f o)) := by
  unfold hF
  split
  · rename_i x p2
    split
    · rename_i hc
      obtain ⟨rfl, h2⟩ := hc
      obtain ⟨no, T⟩ := h.o.fd C f h2
      refine PE.imp (pe_xf T no hz hf (pe_self h) rfl) fun σ H Q ⟨ι, hq, x', e, k⟩ => ?_
      obtain ⟨dd, ff, ed, edd, rf⟩ := hq.xd
      obtain ⟨v, hv, rv⟩ := rf.lookup e
      exact ⟨_, hq.sl, rfl, rfl, dd, ff, v, ed, edd, hv, k v H ι Gr.refl hq rv⟩
    · exact pe_none
  · exact pe_none
mutual
theorem hX_ok (h : HCtx X W E O i n) (hz : Zc (.ref C) d oe) (hf : ∃ vs, oe.data = .fields vs) : ∀ e : Expr, PE (X.suite a ((a, oe) :: pn)) e (tH X.K i a d fs S (hX O E n C fs e))
  | .Constant c _ _ => by
    unfold hX hC
    split
    · exact h_c pe_non fun _ _ => RD.mnon
    · exact h_c pe_bl fun _ _ => RD.mbl
    · exact h_c pe_int fun _ _ => RD.mint
    · exact h_c pe_str fun _ _ => RD.mstr
    · exact pe_none
  | .Attribute o f p => by unfold hX; exact hF_ok h hz hf
  | .Call func args kws p => by unfold hX; exact hI_ok h hz hf
  | .Tuple es k p => by
    unfold hX
    split
    · rename_i hs
      have ih := hXs_ok h hz hf es hs
      split
      · rename_i xs hx
        split
        · rename_i hl
          refine PE.imp (pe_tup ih) fun σ H Q ⟨ι, hq, x', e, kk⟩ => ?_
          cases e
          refine ⟨ι, hq, xs, hx, fun vs H1 ι1 g1 hq1 r1 => ⟨by rw [← r1.length, sizeLine_eq]; omega, fun p hp => ?_⟩⟩
          have gn : Gr X.K H1 ι1 (upd H1 p (.tup vs)) ι1 := Gr.new hp
          refine kk (.ref p) _ ι1 (g1.trans gn) (hq1.new hp) ?_
          unfold RD
          exact ⟨p, vs, rfl, .inl (.inl upd_same), r1.mono gn⟩
        · exact pe_none
      · exact pe_none
    · exact pe_none
  | .IfExp c a' b' p => by
    unfold hX
    split
    · rename_i hc
      have ic := hX_ok h hz hf c
      have ia := hX_ok h hz hf a'
      have ib := hX_ok h hz hf b'
      have he : ∀ whole, isTrue c X.env whole = (do let v ← whole; standAt c.pos; holding [v] (truthy v)) := by
        cases c <;> first | (intro _; rfl) | (cases hc)
      have pt := pt_truth (X := X.suite a ((a, oe) :: pn)) ic he
      cases hr : hX O E n C fs c with
      | none => exact pe_none
      | some x =>
        rw [hr] at pt
        cases x with
        | bl k =>
          cases k with
          | true =>
            refine PE.imp (pe_ifExp pt ia ib) fun σ H Q ⟨ι, hq, x', e, kk⟩ => ?_
            refine ⟨ι, hq, _, rfl, fun v H1 ι1 g1 hq1 r1 => ⟨true, ?_, ι1, hq1, x', e, fun v2 H2 ι2 g2 => kk v2 H2 ι2 (g1.trans g2)⟩⟩
            rw [r1.bl]; rfl
          | false =>
            refine PE.imp (pe_ifExp pt ia ib) fun σ H Q ⟨ι, hq, x', e, kk⟩ => ?_
            refine ⟨ι, hq, _, rfl, fun v H1 ι1 g1 hq1 r1 => ⟨false, ?_, ι1, hq1, x', e, fun v2 H2 ι2 g2 => kk v2 H2 ι2 (g1.trans g2)⟩⟩
            rw [r1.bl]; rfl
        | _ => exact pe_none
    · exact pe_none
  | .Name .. | .BoolOp .. | .NamedExpr .. | .BinOp .. | .UnaryOp .. | .Lambda .. | .Dict .. | .Set .. | .ListComp .. | .SetComp .. | .DictComp .. | .GeneratorExp .. | .Await .. | .Yield .. | .YieldFrom .. | .Compare .. | .FormattedValue .. | .JoinedStr .. | .Subscript .. | .Starred .. | .List .. | .Slice .. => by
    unfold hX; exact pe_none
termination_by structural e => e
theorem hXs_ok (h : HCtx X W E O i n) (hz : Zc (.ref C) d oe) (hf : ∃ vs, oe.data = .fields vs) : ∀ es : List Expr, es.all noStar = true → PA (X.suite a ((a, oe) :: pn)) es (tHs X.K i a d fs S (hXs O E n C fs es))
  | [], _ => by
    unfold hXs
    exact PA.imp pa_nil fun σ H Q ⟨ι, hq, x', e, k⟩ => by cases e; exact k [] H ι Gr.refl hq RDs.nil
  | e :: es, hs => by
    rw [List.all_cons, Bool.and_eq_true] at hs
    have i1 := hX_ok h hz hf e
    have i2 := hXs_ok h hz hf es hs.2
    unfold hXs
    split
    · rename_i x xs e1 e2
      rw [e1] at i1
      rw [e2] at i2
      refine PA.imp (pa_cons i1 i2 (star_cons hs.1)) fun σ H Q ⟨ι, hq, x', e, k⟩ => ?_
      cases e
      exact ⟨ι, hq, x, rfl, fun v H1 ι1 g1 hq1 r1 => ⟨ι1, hq1, xs, rfl, fun vs H2 ι2 g2 hq2 r2 => k _ H2 ι2 (g1.trans g2) hq2 (RDs.cons (r1.mono g2) r2)⟩⟩
    · exact ⟨fun _ _ _ _ _ _ _ ⟨_, _, _, h, _⟩ => by cases h⟩
termination_by structural es => es
end
end
end DL
set_option Elab.async false
set_option linter.all false
set_option maxRecDepth 100000
set_option maxHeartbeats 1000000
/-! DRun: raise, try, two names at once; every statement by its tree. -/
namespace DL
open PySem L2

/-! ### raise -/
def sRaise (C : Addr) (fs : List Str) (a : PAs) : PSt := fun δ S => (a δ S).to δ fun xs S1 => if xs.length = fs.length then .exc δ C (fs.zip xs).reverse S1 else .bad
theorem RF.app {K : PySem.W.Frag} {H : Hp} {ι : List Addr} : ∀ {ds es : List (Str × D)} {vs us : List (Str × V)}, RF K H ι ds vs → RF K H ι es us → RF K H ι (ds ++ es) (vs ++ us)
  | [], _, _, _, h, q => by
    have h : _ = _ := h
    subst h
    exact q
  | (k, d) :: ds, es, _, us, h, q => by
    obtain ⟨v, r, rfl, q1, q2⟩ := h
    exact ⟨v, r ++ us, rfl, q1, RF.app q2 q⟩
theorem RF.zip {K : PySem.W.Frag} {H : Hp} {ι : List Addr} : ∀ {fs : List Str} {ds : List D} {vs : List V}, RDs K H ι ds vs → RF K H ι (fs.zip ds).reverse (fs.zip vs).reverse
  | [], ds, vs, h => rfl
  | f :: fs, [], vs, h => by
    unfold RDs at h
    subst h
    exact rfl
  | f :: fs, d :: ds, vs, h => by
    unfold RDs at h
    obtain ⟨v, r, rfl, q, s⟩ := h
    rw [List.zip_cons_cons, List.zip_cons_cons, List.reverse_cons, List.reverse_cons]
    exact RF.app (RF.zip s) ⟨v, [], rfl, q, rfl⟩
section
variable {X : Cx} {W : WX} {E : SE}
theorem pmk_x {C : Addr} {fs : List Str} {x : Str} {e : Expr} {es : List Expr} {ta : TA} {p pos : Pos} (T : ExcG X.prog X.w X.K X.mg X.base C fs) (room : Room 1 X.A) (hg : Gl X x) (hm : X.mg x = some (.ref C)) (hdb : (x == ("__debug__" : Str)) = false) (ha : PA X (e :: es) ta)
    (he : starEach (e :: es) X.env = (false, eval e X.env) :: starEach es X.env) (hpl : (backTo pos (starEach es X.env)).any (·.1) = false) :
    PMk X (.Call (.Name x p) (e :: es) [] pos) (fun σ H Q => ta σ H fun vs H1 => vs.length = fs.length ∧ ∀ d, H1 d = none → Q (.ref C) (some d) (upd H1 d (.xd (fs.zip vs).reverse))) := by
  intro pins s σ H Q I h
  refine wpAny_Call_Name_kw (ld_glob I hg hm ?_ hdb)
  refine PySem.W.callWith_K (h₀ := X.base) I.ok.mod.kin T.kC (thn (ha.run pos pins s σ H _ I h) fun us s1 hh => ?_) he hpl
  obtain ⟨vs, H1, I1, r1, hl, q1⟩ := hh
  refine ⟨I1.kIn, T.go X.A s1 us vs _ _ room I1.ok.mod I1.bk (by rw [← r1.length]; exact hl) r1 fun h' tk ex d t1 mm M rel => ?_⟩
  obtain ⟨hp, g, dr, tok, os⟩ := s1
  obtain ⟨G', g1, g2⟩ := restrict h' fun b => decide (b ≠ ex)
  have gk : ∀ b, b ≠ ex → G'.get? b = h'.get? b := fun b hb => g1 b (decide_eq_true hb)
  have ge : G'.get? ex = none := g2 ex (by simp)
  have old : ∀ b o, hp.get? b = some o → G'.get? b = some o := fun b o q => (gk b (Nat.ne_of_lt (Nat.lt_of_lt_of_le (Heap.lt_size q) M.new))).trans (M.keep b o q)
  have hd1 : hp.get? d = none := by
    cases hz : hp.get? d with
    | none => rfl
    | some o => exact absurd rfl (M.dnew d o hz)
  have hd2 : H1 d = none := I1.hok.gone hd1
  have ob : ObjOk X.prog X.w (upd H1 d (.xd (fs.zip vs).reverse)) G' d (.xd (fs.zip vs).reverse) := ⟨_, M.ns.at (fun o q => (gk d M.dne).trans q), rel⟩
  have J : Inv X pins σ (upd H1 d (.xd (fs.zip vs).reverse)) ⟨G', g, dr, tk, os⟩ := I1.laidN (t' := tk) old hd1 hd2 ob
  refine ⟨ex, _, _, ⟨G', g, dr, tk, os⟩, _, .ref C, some d, rfl, J, fun b o q => ?_, ge, M.obj, ⟨rfl, rfl⟩, rfl, rfl, ?_, rfl, I1.bare, raises_own T.exC T.tC, q1 d hd2⟩
  · by_cases hb : b = ex
    · have q' : G'.get? b = some o := q
      rw [hb, ge] at q'; cases q'
    · exact (gk b hb).symm.trans q
  · rw [upd_ne (Ne.symm M.dne)]
    exact I1.hok.fresh M.new
theorem ds_raise {C : Addr} {fs : List Str} {x : Str} {e : Expr} {es : List Expr} {f : PAs} {p pos pos2 : Pos} (hc : X.calm = true) (tk : Takes X W) (T : ExcG X.prog X.w X.K X.mg X.base C fs) (room : Room 1 X.A) (hg : Gl X x) (hm : X.mg x = some (.ref C)) (hdb : (x == ("__debug__" : Str)) = false) (ha : PA X (e :: es) (tOfA X.K W f))
    (he : starEach (e :: es) X.env = (false, eval e X.env) :: starEach es X.env) (hpl : (backTo pos (starEach es X.env)).any (·.1) = false) : PS X (.Raise (some (.Call (.Name x p) (e :: es) [] pos)) none pos2) (tOfS X.K W (sRaise C fs f)) := by
  refine PS.imp (ps_raise hc tk (pmk_x T room hg hm hdb ha he hpl)) fun Q σ H ⟨ι, S, δ, rs, ro, q⟩ => ⟨ι, S, δ, rs, ro, ?_⟩
  refine (PostS.to (rel := RDs X.K) q ro).mono fun vs H1 ⟨ι1, S1, xs, g1, rs1, rx, q1⟩ => ?_
  split at q1
  · rename_i hl
    refine ⟨by rw [← rx.length]; exact hl, fun d hd => ?_⟩
    have gn : Gr X.K H1 ι1 (upd H1 d (.xd (fs.zip vs).reverse)) ι1 := Gr.new hd
    exact q1 σ _ ι1 d _ gn (rs1.new hd) ((ro.mono g1).mono gn) upd_same (RF.zip (rx.mono gn))
  · exact q1.elim
end

/-! ### try -/
abbrev HSt := Addr → List (Str × D) → PSt
abbrev Cl := Addr × Nat × HSt
def catchL (O : Orc) : List Cl → Addr → List (Str × D) → PSt
  | [], C, fs => fun δ S => .exc δ C fs S
  | (c, i, h) :: r, C, fs => fun δ S => match O.sb C c with
    | some true => if i < δ.length then (match h C fs (δ.set i none) S with
      | .nx δ2 S2 => .nx (δ2.set i none) S2
      | .rt d S2 => .rt d S2
      | _ => .bad) else .bad
    | some false => catchL O r C fs δ S
    | none => .bad
def sTry (O : Orc) (body : PSt) (cl : List Cl) : PSt := fun δ S => match body δ S with
  | .exc δ' C fs S' => catchL O cl C fs δ' S'
  | r => r
def tsOf (K : PySem.W.Frag) (i : Nat) (h : HSt) : Addr → Value → Option Addr → TS := fun a cls d Z σ H => ∃ ι S δ C fs, cls = .ref C ∧ HQ K ι S i a d fs σ H ∧ ROs K H ι δ σ ∧ PostS K W0 ι H (h C fs δ S) Z
def clT (K : PySem.W.Frag) (cl : List Cl) : List ClT := cl.map fun c => (.ref c.1, c.2.1, tsOf K c.2.1 c.2.2)
theorem ROs.hide {K : PySem.W.Frag} {H : Hp} {ι : List Addr} {δ : Sl} {σ : St} {i : Nat} {v : Option V} (r : ROs K H ι δ σ) : ROs K H ι (δ.set i Option.none) (σ.set i v) := by
  refine ⟨by rw [List.length_set, List.length_set, r.1], fun j e he => ?_⟩
  by_cases hj : j = i
  · subst hj
    have hl : j < δ.length := by
      have := (List.getElem?_eq_some_iff.mp he).1
      rwa [List.length_set] at this
    rw [List.getElem?_set_self hl] at he
    cases he
  · rw [List.getElem?_set_ne (Ne.symm hj)] at he ⊢
    exact r.2 j e he
section
variable {X : Cx} {W : WX} {E : SE} {O : Orc}
theorem i_catch {K : PySem.W.Frag} (ok : OrcOk K O) {Z : Ends} {ι : List Addr} {H : Hp} {C : Addr} {fs : List (Str × D)} {δ : Sl} {S : SS} {σ : St} {dd : Addr} {ff : List (Str × V)} (rs : RelS K H ι S) (ro : ROs K H ι δ σ) (hd : H dd = some (.xd ff)) (rf : RF K H ι fs ff) :
    ∀ cl : List Cl, PostS K W ι H (catchL O cl C fs δ S) Z → wAll K W Z (clT K cl) (.ref C) (some dd) σ H
  | [], h => h σ H ι dd ff Gr.refl rs ro hd rf
  | (c, i, hh) :: cl, h => by
    unfold catchL at h
    split at h
    · rename_i hs
      obtain ⟨e1, _, _⟩ := ok.sb C c true hs
      split at h
      · rename_i hi
        refine ⟨true, e1, fun _ a ha => ⟨ι, S, δ.set i none, C, fs, rfl, ⟨rs, ?_, dd, ff, rfl, hd, rf⟩, ro.hide, ?_⟩, fun z => by cases z⟩
        · rw [List.getElem?_set_self (by rw [← ro.1]; exact hi)]
        · show PostS K W0 ι H (hh C fs (δ.set i none) S) _
          cases hr : hh C fs (δ.set i none) S with
          | nx δ2 S2 => rw [hr] at h; exact fun σ' H' ι' g s (r : ROs K H' ι' δ2 σ') => h _ H' ι' g s (ROs.none r)
          | rt d S2 => rw [hr] at h; exact h
          | _ => rw [hr] at h; exact h.elim
      · exact h.elim
    · rename_i hs
      obtain ⟨e1, _, _⟩ := ok.sb C c false hs
      exact ⟨false, e1, (fun z => by cases z), fun _ => i_catch ok rs ro hd rf cl h⟩
    · exact h.elim
theorem ds_try {bd : List Stmt} {hd : ExceptHandler} {hds : List ExceptHandler} {g : PSt} {cl : List Cl} {pos : Pos} (ok : OrcOk X.K O) (hs : X.stack = X.env :: X.outer) (hf : X.env.frame = some X.env.locals) (hN : X.N.Nodup) (tk : Takes X W)
    (hb : ∀ (W : WX) (pn : List (Addr × Obj)) (xe : Value → Shared → Prop), Takes (X.tr pn xe) W → PassesOwn (model X.prog X.w) X.A X.env xe → PSs (X.tr pn xe) bd (tOfS X.K W g)) (hh : ClsOk X (hd :: hds) (clT X.K cl)) :
    PS X (.Try bd (hd :: hds) [] [] pos) (tOfS X.K W (sTry O g cl)) := by
  refine PS.imp (ps_tryA hs hf hN tk hb hh) fun Z σ H ⟨ι, S, δ, rs, ro, q⟩ => ⟨ι, S, δ, rs, ro, ?_⟩
  unfold sTry at q
  cases hr : g δ S with
  | exc δ' C fs S' =>
    rw [hr] at q
    exact fun σ' H' ι' dd ff g' rs' ro' hdd rf => i_catch ok rs' ro' hdd rf cl (PostS.later g' q)
  | nx δ' S' => rw [hr] at q; exact q
  | rt d S' => rw [hr] at q; exact q
  | bk δ' S' => rw [hr] at q; exact q
  | ct δ' S' => rw [hr] at q; exact q
  | bad => rw [hr] at q; exact q.elim
end
def locOf (E : SE) (n : Str) : Option Nat := match E.sc.names.lookup n with
  | some .local => if (n == ("__debug__" : Str) || n == ("__classdict__" : Str)) = true then none else ixOf E.N n 0
  | _ => none
def noComp : Expr → Bool
  | .ListComp .. | .SetComp .. | .DictComp .. => false
  | _ => true
def hS1 (O : Orc) (E : SE) (n : Str) (i : Nat) : Stmt → Option HSt
  | .Return (some e) _ => some fun C fs δ S => match hX O E n C fs e with
    | some x => .rt x S
    | none => .bad
  | .Assign [.Name x _] e _ => if noComp e = true then (match locOf E x with
    | some j => some fun C fs δ S => match hX O E n C fs e with
      | some x => .nx (δ.set j (some x)) S
      | none => .bad
    | none => none) else none
  | .Pass _ => some fun _ _ δ S => .nx δ S
  | _ => none
def hS (O : Orc) (E : SE) (n : Str) (i : Nat) : List Stmt → Option HSt
  | [st] => hS1 O E n i st
  | _ => none
def dCl (O : Orc) (E : SE) : List ExceptHandler → Option (List Cl)
  | [] => some []
  | .ExceptHandler (some (.Name x _)) (some n) bd _ :: r => match clsOf E x, locOf E n with
    | some c, some i => (match hS O E n i bd, dCl O E r with
      | some h, some l => some ((c, i, h) :: l)
      | _, _ => none)
    | _, _ => none
  | _ => none
section
variable {X : Cx} {W : WX} {E : SE} {O : Orc}
theorem locOf_ok (C : Ctx X W E) {n : Str} {i : Nat} (h : locOf E n = some i) : X.N[i]? = some n ∧ X.env.scope.names.lookup n = some .local ∧ (n == ("__debug__" : Str)) = false ∧ (n == ("__classdict__" : Str)) = false := by
  unfold locOf at h
  split at h
  · rename_i hl
    split at h
    · cases h
    · rename_i hn
      simp only [Bool.or_eq_true, not_or, Bool.not_eq_true] at hn
      obtain ⟨k, e1, e2⟩ := ixOf_ok h
      have : i = k := by omega
      subst this
      exact ⟨by rw [C.n]; exact e2, by rw [C.sc]; exact hl, hn.1, hn.2⟩
  · cases h
theorem swaps_no {e : Expr} (h : noComp e = true) (t : Option Expr) (l : Nat) (env : Env) : swapsWith e t l env = pure false := by
  cases e <;> first | rfl | (cases h)
theorem hS_ok (h : HCtx X W E O i n) {st : Stmt} {hh : HSt} (hs : hS1 O E n i st = some hh) (a : Addr) (oe : Obj) (cls : Value) (d : Option Addr) (pn : List (Addr × Obj)) (hz : Zc cls d oe) (hf : ∃ vs, oe.data = .fields vs) : PSs (X.suite a ((a, oe) :: pn)) [st] (tsOf X.K i hh a cls d) := by
  unfold hS1 at hs
  split at hs
  · rename_i e p
    cases hs
    refine ⟨fun pins s σ H Z I q => ?_⟩
    obtain ⟨ι, S, δ, C, fs, rfl, hq, ro, q⟩ := q
    have pe := hX_ok (a := a) (S := S) (fs := fs) (pn := pn) h hz hf e
    refine (PSs.imp (pss_cons (ps_ret (pos := p) pe) pss_nil) fun Q σ H q => ?_ : PSs (X.suite a ((a, oe) :: pn)) [.Return (some e) p] (fun Q σ H => ∃ ι, HQ X.K ι S i a d fs σ H ∧ ∃ δ, ROs X.K H ι δ σ ∧ PostS X.K W0 ι H (match hX O E n C fs e with | some x => RS.rt x S | none => RS.bad) Q)).run pins s σ H Z I ⟨ι, hq, δ, ro, q⟩
    obtain ⟨ι, hq, δ, ro, q⟩ := q
    cases hx : hX O E n C fs e with
    | none => rw [hx] at q; exact q.elim
    | some x =>
      rw [hx] at q
      exact ⟨ι, hq, x, rfl, fun v H' ι' g hq' r => q v H' ι' g hq'.rs r⟩
  · rename_i x p1 e p
    split at hs
    · rename_i hc
      split at hs
      · rename_i j hj
        cases hs
        obtain ⟨l1, l2, l3, l4⟩ := locOf_ok h.c hj
        refine ⟨fun pins s σ H Z I q => ?_⟩
        obtain ⟨ι, S, δ, C, fs, rfl, hq, ro, q⟩ := q
        have pe := hX_ok (a := a) (S := S) (fs := fs) (pn := pn) h hz hf e
        refine (PSs.imp (pss_cons (ps_set (X := X.suite a ((a, oe) :: pn)) (pos := p) (pos' := p1) (by show X.N.Nodup; rw [h.c.n]; exact h.c.nd) l1 (.inl l2) pe (swaps_no hc _ _ _) (.inr l2)) pss_nil) fun Q σ H q => ?_ : PSs (X.suite a ((a, oe) :: pn)) [.Assign [.Name x p1] e p] (fun Q σ H => ∃ ι, HQ X.K ι S i a d fs σ H ∧ ∃ δ, ROs X.K H ι δ σ ∧ PostS X.K W0 ι H (match hX O E n C fs e with | some x => RS.nx (δ.set j (some x)) S | none => RS.bad) Q)).run pins s σ H Z I ⟨ι, hq, δ, ro, q⟩
        obtain ⟨ι, hq, δ, ro, q⟩ := q
        cases hx : hX O E n C fs e with
        | none => rw [hx] at q; exact q.elim
        | some x =>
          rw [hx] at q
          exact ⟨ι, hq, x, rfl, fun v H' ι' g hq' r => q _ H' ι' g hq'.rs ((ro.mono g).set r)⟩
      · cases hs
    · cases hs
  · rename_i p
    cases hs
    refine PSs.imp (pss_cons (ps_pass (pos := p)) pss_nil) fun Q σ H q => ?_
    obtain ⟨ι, S, δ, C, fs, rfl, hq, ro, q⟩ := q
    exact q σ H ι Gr.refl hq.rs ro
  · cases hs
theorem dCl_ok (C : Ctx X W E) (ok : OrcOk X.K O) : ∀ {hds : List ExceptHandler} {cl : List Cl}, dCl O E hds = some cl → ClsOk X hds (clT X.K cl)
  | [], cl, h => by cases h; exact .nil
  | .ExceptHandler (some (.Name x p)) (some n) [st] p2 :: r, cl, h => by
    simp only [dCl] at h
    split at h
    · rename_i c i h1 h2
      split at h
      · rename_i hh l h3 h4
        cases h
        obtain ⟨c1, c2, c3⟩ := clsOf_ok C h1
        obtain ⟨l1, l2, l3, l4⟩ := locOf_ok C h2
        exact .cons (c := .ref c) ⟨c1, c2, .inl c3⟩ l1 l2 (fun a oe cls d pn hz hf => hS_ok ⟨C, ok, l1, l2, l3, l4⟩ h3 a oe cls d pn hz hf) (dCl_ok C ok h4)
      · cases h
    · cases h
  | .ExceptHandler (some (.Name x p)) (some n) [] p2 :: r, cl, h => by
    simp only [dCl] at h
    split at h
    · split at h
      · rename_i h3 h4
        cases h3
      · cases h
    · cases h
  | .ExceptHandler (some (.Name x p)) (some n) (st :: st2 :: sts) p2 :: r, cl, h => by
    simp only [dCl] at h
    split at h
    · split at h
      · rename_i h3 h4
        cases h3
      · cases h
    · cases h
end
end DL
set_option Elab.async false
set_option linter.all false
set_option maxRecDepth 100000
set_option maxHeartbeats 1000000
/-! DPar: two names at once. -/
namespace DL
open PySem L2
def isStar : Expr → Bool
  | .Starred .. => true
  | _ => false
theorem star_no {e : Expr} (h : noStar e = true) : isStar e = false := by cases e <;> first | rfl | (cases h)
theorem sw_pair {x y : Str} {a b : Expr} {px py pt : Pos} {kt : Nat} {k2 : Nat} {pt2 : Pos} {env : Env} (hk : env.scope.kind = .function) (hx : env.scope.names.lookup x = some .local) (hy : env.scope.names.lookup y = some .local) (hl : (py.line == px.line) = true) (hxy : (x == y) = false)
    (ha : noStar a = true) (hb : noStar b = true) (hf : [a, b].all (foldedForSure 8) = false) (hc : [a, b].all (constantsAlone 8) = false) :
    swappedStores [.Tuple [.Name x px, .Name y py] kt pt] (.Tuple [a, b] k2 pt2) env = pure (some [x, y]) := by
  have bk : env.blockKind = .function := by unfold Env.blockKind; rw [hk]; rfl
  have ex : (env.kindOf x == some .local) = true := by unfold Env.kindOf; rw [hx]; rfl
  have ey : (env.kindOf y == some .local) = true := by unfold Env.kindOf; rw [hy]; rfl
  have hll : (py.line == (Expr.Name x px).pos.line) = true := hl
  have nd : ([x, y] : List Str).eraseDups = [x, y] := by
    rw [List.eraseDups_cons]
    have : (y == x) = false := by
      rw [beq_eq_false_iff_ne] at hxy ⊢
      exact fun z => hxy z.symm
    simp [this, List.eraseDups_cons]
  have fm : ∀ f : Expr → Option Str, f (.Name x px) = some x → f (.Name y py) = some y → List.filterMap f [.Name x px, .Name y py] = [x, y] := fun f h1 h2 => by
    rw [List.filterMap_cons, h1, List.filterMap_cons, h2]
    rfl
  have an : ∀ f : Expr → Bool, f a = false → f b = false → [a, b].any f = false := fun f h1 h2 => by simp [h1, h2]
  have ia := star_no ha
  have ib := star_no hb
  unfold swappedStores
  simp only []
  rw [if_neg (by rw [bk]; simp)]
  rw [if_neg (fun z => by
    rw [an] at z
    · cases z
    · exact ia
    · exact ib)]
  have e1 : (List.filterMap (fun t => match t with
      | .Name id pos => if (env.kindOf id == some .local && pos.line == (Option.map (fun x => x.pos.line) [Expr.Name x px, Expr.Name y py].head?).getD 0) = true then some id else none
      | _ => none) [Expr.Name x px, Expr.Name y py]) = [x, y] := by
    refine fm _ ?_ ?_
    · show (if (env.kindOf x == some NameKind.local && px.line == px.line) = true then some x else none) = some x
      rw [ex]
      simp
    · show (if (env.kindOf y == some NameKind.local && py.line == px.line) = true then some y else none) = some y
      rw [ey, hl]
      rfl
  have fin : ∀ names : List Str, names = [x, y] → (if (names.length != [Expr.Name x px, Expr.Name y py].length || names.eraseDups.length != names.length) = true then pure none else if ([a, b].all (foldedForSure 8)) = true then pure none else if ([a, b].all (constantsAlone 8)) = true then (do unsupported "assign.tuple-of-constant-expressions:order-of-the-stores"; pure (some names)) else (pure (some names) : Sem (Option (List Str)))) = pure (some [x, y]) := by
    rintro _ rfl
    rw [nd, hf, hc]
    rfl
  exact fin _ e1
theorem sw_fold {ts : List Expr} {vs : List Expr} {pt : Pos} {kt : Nat} {k2 : Nat} {pt2 : Pos} {env : Env} (hf : vs.all (foldedForSure 8) = true) :
    swappedStores [.Tuple ts kt pt] (.Tuple vs k2 pt2) env = pure none := by
  unfold swappedStores
  simp only [hf]
  split
  · rfl
  split
  · rfl
  split
  · rfl
  rfl
theorem sw_len {ts : List Expr} {vs : List Expr} {pt : Pos} {kt : Nat} {k2 : Nat} {pt2 : Pos} {env : Env} (hf : (ts.length == 2 || ts.length == 3) = false) :
    swappedStores [.Tuple ts kt pt] (.Tuple vs k2 pt2) env = pure none := by
  unfold swappedStores
  simp only [hf]
  rfl
def isTup : Expr → Bool
  | .Tuple .. => true
  | _ => false
theorem sw_non {t v : Expr} {env : Env} (h : isTup v = false) : swappedStores [t] v env = pure none := by
  unfold swappedStores
  cases v <;> first | (cases t <;> rfl) | (exact absurd h (by simp [isTup]))
def sPar (i j : Nat) (fa fb : PEx) : PSt := fun δ S => (fa δ S).to δ fun x S1 => (fb δ S1).to δ fun y S2 => .nx ((δ.set i (some x)).set j (some y)) S2
theorem ds_par {X : Cx} {W : WX} {i j : Nat} {x y : Str} {a b : Expr} {fa fb : PEx} {px py pt pos : Pos} {kt k2 pt2} (hc : X.calm = true) (hN : X.N.Nodup) (hi : X.N[i]? = some x) (hj : X.N[j]? = some y) (hij : i ≠ j)
    (hx : X.env.scope.names.lookup x = some .local) (hy : X.env.scope.names.lookup y = some .local) (ha : PE X a (tOf X.K W fa)) (hb : PE X b (tOf X.K W fb)) (sa : noStar a = true) (sb : noStar b = true)
    (hw : swappedStores [.Tuple [.Name x px, .Name y py] kt pt] (.Tuple [a, b] k2 pt2) X.env = pure (some [x, y])) :
    PS X (.Assign [.Tuple [.Name x px, .Name y py] kt pt] (.Tuple [a, b] k2 pt2) pos) (tOfS X.K W (sPar i j fa fb)) := by
  refine PS.imp (ps_par hc hN hi hj hij hx hy (pa_cons ha (pa_cons hb pa_nil (star_cons sb)) (star_cons sa)) hw rfl) fun Q σ H ⟨ι, S, δ, rs, ro, q⟩ => ⟨ι, S, δ, rs, ro, ?_⟩
  refine (PostS.to (rel := RD X.K) q ro).mono fun v H1 ⟨ι1, S1, x, g1, rs1, rx, q1⟩ => ⟨ι1, S1, δ, rs1, ro.mono g1, ?_⟩
  refine (PostS.to (rel := RD X.K) q1 (ro.mono g1)).mono fun w H2 ⟨ι2, S2, y, g2, rs2, ry, q2⟩ => ⟨v, w, rfl, ?_⟩
  exact q2 _ H2 ι2 Gr.refl rs2 ((((ro.mono g1).mono g2).set (rx.mono g2)).set ry)
end DL
set_option Elab.async false
set_option linter.all false
set_option maxRecDepth 100000
set_option maxHeartbeats 1000000
/-! DStm: every statement by its tree. -/
namespace DL
open PySem L2

structure SCtx (X : Cx) (W : WX) (E : SE) (O : Orc) : Prop where
  c : Ctx X W E
  o : OrcOk X.K O
  po : PassesOwn (model X.prog X.w) X.A X.env X.xe
  st : X.stack = X.env :: X.outer
  fr : X.env.frame = some X.env.locals
  kd : X.env.scope.kind = .function
theorem SCtx.tr {X : Cx} {W W' : WX} {E : SE} {O : Orc} {pn : List (Addr × Obj)} {xe : Value → Shared → Prop} (h : SCtx X W E O) (tk : Takes (X.tr pn xe) W') (po : PassesOwn (model X.prog X.w) X.A X.env xe) : SCtx (X.tr pn xe) W' E O where
  c := ⟨h.c.n, h.c.sc, h.c.nd, h.c.calm, h.c.gd, h.c.un, tk, h.c.fn, fun x v q => by
    have := h.c.g x v q
    cases v <;> exact this⟩
  o := h.o
  po := po
  st := h.st
  fr := h.fr
  kd := h.kd
def isLc : Expr → Bool
  | .ListComp .. => true
  | _ => false
def isPair : List Expr → List Expr → List EV → Option (Str × Str × PEx × PEx)
  | [.Name x px, .Name y py], [a, b], [fa, fb] => if (py.line == px.line) = true ∧ (x == y) = false ∧ noStar a = true ∧ noStar b = true ∧ [a, b].all (foldedForSure 8) = false ∧ [a, b].all (constantsAlone 8) = false then some (x, y, fa.1, fb.1) else none
  | _, _, _ => none
def asgF (E : SE) (t v : Expr) (fv : PEx) (fs : List EV) (fo fi : PEx) : PSt := match t with
  | .Name x _ => if isLc v = true then (match locOf E x with
      | some i => sAsg fv (.one i)
      | none => sBad)
    else if noComp v = true then (match slotOf E x with
      | some i => sAsg fv (.one i)
      | none => sBad) else sBad
  | .Tuple ts _ _ => (match v with
    | .Tuple vs _ _ => (match isPair ts vs fs with
      | some (x, y, fa, fb) => (match locOf E x, locOf E y with
        | some i, some j => if i ≠ j then sPar i j fa fb else sBad
        | _, _ => sBad)
      | none => if (ts.length == 2 || ts.length == 3) = false ∨ vs.all (foldedForSure 8) = true then (match slotsOf E ts with
        | some is => sAsg fv (.many is)
        | none => sBad) else sBad)
    | v => (match slotsOf E ts with
      | some is => sAsg fv (.many is)
      | none => sBad))
  | .Subscript _ i _ => if plainIx i = true then sSet fv fo fi else sBad
  | _ => sBad
def raiseF (E : SE) (func : Expr) (args : List Expr) (kws : List Keyword) (fs : List EV) : PSt := match func, kws with
  | .Name x _, [] => (match glb E x with
    | some (.ex C ns) => (match args with
      | [] => sBad
      | _ => if args.all noStar = true then sRaise C ns (argsOf fs) else sBad)
    | _ => sBad)
  | _, _ => sBad
def subOf (M : Str → Option Mi) (E : SE) : Expr → Expr × Expr := fun e => match e with
  | .Subscript o i _ => (o, i)
  | e => (e, e)
mutual
noncomputable def dS (M : Str → Option Mi) (O : Orc) : Stmt → SE → PSt
  | .Expr a _, E => if noComp a = true then sDrop (dX M a E).1 else sBad
  | .Return v _, E => (match v with
    | some a => sRet (dX M a E).1
    | none => sRetN)
  | .Pass _, _ => sNil
  | .Break _, _ => fun δ S => .bk δ S
  | .Continue _, _ => fun δ S => .ct δ S
  | .If c a b _, E => sIf (dX M c E).2 (dSs M O a E) (dSs M O b E)
  | .Assign ts v _, E => (match ts with
    | [t] => asgF E t v (dX M v E).1 (match v with
      | .Tuple vs _ _ => dL M vs E
      | _ => []) (match t with
      | .Subscript o _ _ => (dX M o E).1
      | _ => eBad) (match t with
      | .Subscript _ i _ => (dX M i E).1
      | _ => eBad)
    | _ => sBad)
  | .AugAssign t op a _, E => (match t with
    | .Name x _ => (match slotOf E x with
      | some n => sAug op n (dX M a E).1
      | none => sBad)
    | _ => sBad)
  | .For tg i sts els _, E => (match els with
    | [] => (match dCT E tg with
      | some ct => if noSet i = true then sFor (dI M tg i E) ct (dSs M O sts E) else sBad
      | none => sBad)
    | _ => sBad)
  | .While t sts els _, E => (match els with
    | [] => sWhile (dX M t E).2 (dSs M O sts E)
    | _ => sBad)
  | .Try bd hds els fin _, E => (match hds, els, fin with
    | hd :: hds, [], [] => (match dCl O E (hd :: hds) with
      | some cl => sTry O (dSs M O bd E) cl
      | none => sBad)
    | _, _, _ => sBad)
  | .Raise e c _, E => (match e, c with
    | some (.Call func args kws _), none => raiseF E func args kws (dL M args E)
    | _, _ => sBad)
  | _, _ => sBad
noncomputable def dSs (M : Str → Option Mi) (O : Orc) : List Stmt → SE → PSt
  | [], _ => sNil
  | st :: sts, E => sSeq (dS M O st E) (dSs M O sts E)
end
section
variable {X : Cx} {W : WX} {E : SE} {O : Orc} {M : Str → Option Mi}
theorem ps_vac {st : Stmt} {g : PSt} (h : ∀ δ S, g δ S = .bad) : PS X st (tOfS X.K W g) := ⟨fun _ _ _ _ _ _ ⟨_, _, _, _, _, q⟩ => by rw [h] at q; exact q.elim⟩
theorem asg_lc (hM : MOk M) (S : SCtx X W E O) {y : Str} {py : Pos} {elt : Expr} {gens : List Comprehension} {scope : Scope} {pos spos : Pos} {i : Nat} (hi : X.N[i]? = some y) (hyl : X.env.scope.names.lookup y = some .local) :
    PS X (.Assign [.Name y py] (.ListComp elt gens scope pos) spos) (tOfS X.K W (sAsg (dX M (.ListComp elt gens scope pos) E).1 (.one i))) := by
  have hN : X.N.Nodup := by rw [S.c.n]; exact S.c.nd
  have bk : X.env.blockKind = .function := by unfold Env.blockKind; rw [S.kd]; rfl
  have ky : X.env.kindOf y = some .local := hyl
  have hsw : swapsWith (.ListComp elt gens scope pos) (some (.Name y py)) spos.line X.env = pure (py.line == pos.line && !(scope.names.any fun (n, k) => n == y && (k == .local || k == .cell))) := by
    unfold swapsWith
    simp only [bk, ky, Expr.pos]
    rfl
  cases hb : (py.line == pos.line && !(scope.names.any fun (n, k) => n == y && (k == .local || k == .cell))) with
  | false =>
    rw [hb] at hsw
    refine PS.imp (ps_set hN hi (.inl hyl) (dX_ok hM (.ListComp elt gens scope pos) E X W S.c).1 hsw (.inr hyl)) fun Q σ H h => i_asg h
  | true =>
    rw [hb] at hsw
    have h1 := dGen_ok hM gens E (blkSE E scope)
    have h2 : ∀ X' W', Ctx X' W' (blkSE E scope) → EOk X' W' elt (dX M elt (blkSE E scope)) := fun X' W' C' => dX_ok hM elt (blkSE E scope) X' W' C'
    have C := S.c
    unfold dX
    cases hg : dGen M gens E (blkSE E scope) with
    | none => exact ps_vac fun _ _ => rfl
    | some f =>
      obtain ⟨tg, iter, it, ct, t⟩ := f
      obtain ⟨ifs, rfl, q1, q2, q3⟩ := h1 tg iter it ct t hg
      dsimp only
      split
      · rename_i own ho
        split
        · rename_i hc
          obtain ⟨c1, c2, c3⟩ := hc
          refine PS.imp (ps_setLc (own := own) (g := gC X.K ct) (tt := tOfT X.K W0 t) (te := tOf X.K W0 (dX M elt (blkSE E scope)).1) C.calm hN hi hyl hsw (q2 X W C)
            (blkOk_by (by rw [C.n, C.sc]; exact c1)) (fun s H Cd cl fp => ?_) (fun s H Cd cl fp => ?_) (fun s H Cd cl fp => ?_) (fun x => fold_set c3 x)) fun _ _ _ h => i_lc c2 (i_asg h)
          · exact dCT_ok (ctx_blk C s H scope cl Cd fp) q1
          · exact q3 _ _ (ctx_blk C s H scope cl Cd fp)
          · exact (h2 _ _ (ctx_blk C s H scope cl Cd fp)).1
        · exact ps_vac fun _ _ => rfl
      · exact ps_vac fun _ _ => rfl
theorem sole_no {t v : Expr} {l : Nat} {env : Env} (h : noComp v = true) : swapsWithSole [t] v l env = pure false := by
  cases v <;> first | rfl | (cases h) | (cases t <;> rfl)
theorem swap_tup {v : Expr} {ts : List Expr} {k : Nat} {p : Pos} {l : Nat} {env : Env} : swapsWithSole [.Tuple ts k p] v l env = pure false := by
  cases v <;> rfl
theorem swap_sub {v o i : Expr} {p : Pos} {l : Nat} {env : Env} : swapsWithSole [.Subscript o i p] v l env = pure false := by
  cases v <;> rfl
theorem many_ok (C : Ctx X W E) {ts : List Expr} {is : List Nat} {k : Nat} {p pos : Pos} {v : Expr} {fv : PEx} (h : slotsOf E ts = some is) (hv : PE X v (tOf X.K W fv)) (hw : swappedStores [.Tuple ts k p] v X.env = pure none) : PS X (.Assign [.Tuple ts k p] v pos) (tOfS X.K W (sAsg fv (.many is))) :=
  ds_asg hv (dCT_ok C (tg := .Tuple ts k p) (by simp [dCT, h])) swap_tup hw rfl
theorem asgF_ok (hM : MOk M) (S : SCtx X W E O) {t v : Expr} {pos : Pos} {fs : List EV} {fo fi : PEx} (hfs : ∀ vs k p, v = .Tuple vs k p → AllE X W vs fs) (hs : ∀ o i p, t = .Subscript o i p → PE X o (tOf X.K W fo) ∧ PE X i (tOf X.K W fi)) :
    PS X (.Assign [t] v pos) (tOfS X.K W (asgF E t v (dX M v E).1 fs fo fi)) := by
  have C := S.c
  have hv := (dX_ok hM v E X W C).1
  have hN : X.N.Nodup := by rw [C.n]; exact C.nd
  unfold asgF
  split
  · rename_i x p
    split
    · rename_i hl
      split
      · rename_i i hi
        obtain ⟨l1, l2, _⟩ := locOf_ok C hi
        cases v with
        | ListComp elt gens scope vp => exact asg_lc hM S l1 l2
        | _ => cases hl
      · exact ps_bad
    · split
      · rename_i hn
        split
        · rename_i i hi
          refine ds_asg hv (slotOf_ok C hi) (sole_no hn) ?_ rfl
          unfold swappedStores
          cases v <;> rfl
        · exact ps_bad
      · exact ps_bad
  · rename_i ts k p
    split
    · rename_i vs k2 p2
      split
      · rename_i x y fa fb hp
        unfold isPair at hp
        split at hp
        · rename_i x' px y' py a b fa' fb' hfs'
          split at hp
          · rename_i hc
            cases hp
            obtain ⟨c1, c2, c3, c4, c5, c6⟩ := hc
            split
            · rename_i i j hi hj
              split
              · rename_i hij
                obtain ⟨l1, l2, _⟩ := locOf_ok C hi
                obtain ⟨m1, m2, _⟩ := locOf_ok C hj
                have hh := hfs _ _ _ rfl
                exact ds_par C.calm hN l1 m1 hij l2 m2 hh.1 hh.2.2.1 c3 c4 (sw_pair S.kd l2 m2 c1 c2 c3 c4 c5 c6)
              · exact ps_bad
            · exact ps_bad
          · cases hp
        · cases hp
      · split
        · rename_i hc
          split
          · rename_i is hi
            refine many_ok C hi hv ?_
            rcases hc with hc | hc
            · exact sw_len hc
            · exact sw_fold hc
          · exact ps_bad
        · exact ps_bad
    · rename_i hnt
      split
      · rename_i is hi
        refine many_ok C hi hv (sw_non ?_)
        cases v <;> first | rfl | (exact absurd rfl (hnt _ _ _))
      · exact ps_bad
  · rename_i o i p
    split
    · rename_i hp
      obtain ⟨h1, h2⟩ := hs _ _ _ rfl
      refine ds_set hv h1 h2 swap_sub ?_ ?_
      · unfold swappedStores
        cases v <;> rfl
      · intro v
        cases i <;> first | rfl | (cases hp)
    · exact ps_bad
  · exact ps_bad
theorem raiseF_ok (S : SCtx X W E O) {func : Expr} {args : List Expr} {kws : List Keyword} {fs : List EV} {pos p : Pos} (ha : AllE X W args fs) : PS X (.Raise (some (.Call func args kws pos)) none p) (tOfS X.K W (raiseF E func args kws fs)) := by
  have C := S.c
  unfold raiseF
  split
  · rename_i x px
    split
    · rename_i c ns hb
      obtain ⟨hg, h1, h2, h3, h4⟩ := glb_ok C hb
      split
      · exact ps_bad
      · split
        · rename_i hne hs
          cases args with
          | nil => exact absurd rfl hne
          | cons e es =>
            have hs2 := hs
            rw [List.all_cons, Bool.and_eq_true] at hs2
            exact ds_raise C.calm C.tk h3 h4 hg h2 h1 (argsOf_ok ha hs) (star_cons hs2.1) (star_any hs2.2)
        · exact ps_bad
    · exact ps_bad
  · exact ps_bad
end
mutual
theorem dS_ok {M : Str → Option Mi} {O : Orc} (hM : MOk M) : ∀ (st : Stmt) (E : SE) (X : Cx) (W : WX), SCtx X W E O → PS X st (tOfS X.K W (dS M O st E))
  | .Expr a p, E, X, W, S => by
    unfold dS
    split
    · rename_i hn
      exact ds_drop (dX_ok hM a E X W S.c).1 (swaps_no hn _ _ _)
    · exact ps_bad
  | .Return v p, E, X, W, S => by
    unfold dS
    cases v with
    | some a => exact ds_ret (dX_ok hM a E X W S.c).1
    | none => exact ds_retN
  | .Pass p, E, X, W, S => ds_pass
  | .Break p, E, X, W, S => ds_brk
  | .Continue p, E, X, W, S => ds_cont
  | .If c a b p, E, X, W, S => ds_if (dX_ok hM c E X W S.c).2 (dSs_ok hM a E X W S) (dSs_ok hM b E X W S)
  | .Assign ts v p, E, X, W, S => by
    unfold dS
    split
    · rename_i t
      refine asgF_ok hM S ?_ ?_
      · rintro vs k p rfl
        exact dL_ok hM vs E X W S.c
      · rintro o i p rfl
        exact ⟨(dX_ok hM o E X W S.c).1, (dX_ok hM i E X W S.c).1⟩
    · exact ps_bad
  | .AugAssign t op a p, E, X, W, S => by
    unfold dS
    split
    · rename_i x px
      split
      · rename_i n hn
        have C := S.c
        have hN : X.N.Nodup := by rw [C.n]; exact C.nd
        have ha := (dX_ok hM a E X W C).1
        unfold slotOf at hn
        split at hn
        · rename_i hl
          obtain ⟨k, e1, e2⟩ := ixOf_ok hn
          have : n = k := by omega
          subst this
          have hl' : X.env.scope.names.lookup x = some .local := by rw [C.sc]; exact hl
          exact ds_aug hN (by rw [C.n]; exact e2) (.inl hl') (.inr hl') ha
        · rename_i hl
          split at hn
          · rename_i hf
            obtain ⟨k, e1, e2⟩ := ixOf_ok hn
            have : n = k := by omega
            subst this
            have hl' : X.env.scope.names.lookup x = some .cell := by rw [C.sc]; exact hl
            exact ds_aug hN (by rw [C.n]; exact e2) (.inr hl') (.inl (C.fn x hf)) ha
          · cases hn
        · cases hn
      · exact ps_bad
    · exact ps_bad
  | .For tg i sts els p, E, X, W, S => by
    have ih := dSs_ok hM sts E X W S
    unfold dS
    split
    · split
      · rename_i ct hct
        split
        · rename_i hn
          exact ds_for S.po S.c.calm (iterF_ok S.c (dX_ok hM i E X W S.c).1 (dArgs_ok hM i E X W S.c)) (dCT_ok S.c hct) ih fun x => fold_set hn x
        · exact ps_bad
      · exact ps_bad
    · exact ps_bad
  | .While t sts els p, E, X, W, S => by
    have ih := dSs_ok hM sts E X W S
    unfold dS
    split
    · exact ds_while S.po (dX_ok hM t E X W S.c).2 ih
    · exact ps_bad
  | .Try bd hds els fin p, E, X, W, S => by
    have ih : ∀ X W, SCtx X W E O → PSs X bd (tOfS X.K W (dSs M O bd E)) := fun X W S => dSs_ok hM bd E X W S
    unfold dS
    split
    · rename_i hd hds'
      split
      · rename_i cl hcl
        refine ds_try S.o S.st S.fr (by rw [S.c.n]; exact S.c.nd) S.c.tk (fun W' pn xe tk po => ih _ _ (S.tr tk po)) (dCl_ok S.c S.o hcl)
      · exact ps_bad
    · exact ps_bad
  | .Raise e c p, E, X, W, S => by
    unfold dS
    split
    · rename_i func args kws pos
      exact raiseF_ok S (dL_ok hM args E X W S.c)
    · exact ps_bad
  | .FunctionDef .., _, _, _, _ => ps_bad
  | .AsyncFunctionDef .., _, _, _, _ => ps_bad
  | .ClassDef .., _, _, _, _ => ps_bad
  | .Delete .., _, _, _, _ => ps_bad
  | .TypeAlias .., _, _, _, _ => ps_bad
  | .AnnAssign .., _, _, _, _ => ps_bad
  | .AsyncFor .., _, _, _, _ => ps_bad
  | .With .., _, _, _, _ => ps_bad
  | .AsyncWith .., _, _, _, _ => ps_bad
  | .Match .., _, _, _, _ => ps_bad
  | .TryStar .., _, _, _, _ => ps_bad
  | .Assert .., _, _, _, _ => ps_bad
  | .Import .., _, _, _, _ => ps_bad
  | .ImportFrom .., _, _, _, _ => ps_bad
  | .Global .., _, _, _, _ => ps_bad
  | .Nonlocal .., _, _, _, _ => ps_bad
termination_by structural st => st
theorem dSs_ok {M : Str → Option Mi} {O : Orc} (hM : MOk M) : ∀ (sts : List Stmt) (E : SE) (X : Cx) (W : WX), SCtx X W E O → PSs X sts (tOfS X.K W (dSs M O sts E))
  | [], E, X, W, S => ds_nil
  | st :: sts, E, X, W, S => ds_cons (dS_ok hM st E X W S) (dSs_ok hM sts E X W S)
termination_by structural sts => sts
end
end DL
set_option Elab.async false
set_option linter.all false
set_option maxRecDepth 100000
set_option maxHeartbeats 1000000
/-! DFun: a def of the text does what its body's tree says; the law's def called. -/
namespace DL
open PySem PySem.Spec PyProof.Rows L2

def startD (n : Nat) (ds : List D) : Sl := ds.map some ++ List.replicate (n - ds.length) none
def endF : RS → R D
  | .rt d S => .ok d S
  | .nx _ S => .ok .non S
  | .exc _ C fs S => .exc C fs S
  | _ => .bad
def fnB (b : PSt) (n : Nat) : Fn := fun ds S => endF (b (startD n ds) S)
noncomputable def fnD (M : Str → Option Mi) (O : Orc) (st : Stmt) (E : SE) : Fn := fnB (dSs M O (defBody st) E) E.N.length
theorem ros_start {K : PySem.W.Frag} {H : Hp} {ι : List Addr} {N : List Str} {ds : List D} {vs : List V} (r : RDs K H ι ds vs) : ROs K H ι (startD N.length ds) (L2.start N vs) := by
  have hl := r.length
  unfold startD L2.start
  refine ⟨by simp [hl], fun i d h => ?_⟩
  by_cases hi : i < ds.length
  · rw [List.getElem?_append_left (by simpa using hi), List.getElem?_map] at h
    cases hd : ds[i]? with
    | none => rw [hd] at h; cases h
    | some x =>
      rw [hd] at h
      cases h
      obtain ⟨v, hv, rv⟩ := r.get hd
      refine ⟨v, ?_, rv⟩
      rw [List.getElem?_append_left (by simpa [hl] using hi), List.getElem?_map, hv]
      rfl
  · rw [List.getElem?_append_right (by simpa using hi), List.getElem?_replicate] at h
    split at h <;> cases h
section
variable {P : Program} {w : World} {K : PySem.W.Frag} {mg : Str → Option Value} {base : Heap}
/-- what every context of the law's defs has -/
structure Same (X : Cx) (P : Program) (w : World) (K : PySem.W.Frag) (mg : Str → Option Value) (base : Heap) (k : Nat) : Prop where
  p : X.prog = P
  w : X.w = w
  K : X.K = K
  mg : X.mg = mg
  b : X.base = base
  r : Room k X.A
/-- a def as it stands, whatever its defaults -/
structure FunE (K : PySem.W.Frag) (x qual : Str) (st : Stmt) (f : Addr) (fd : FuncData) : Prop where
  ex : ∃ (oc : Value) (od : Option Addr) (dV kV doc pm : Value) (an : Option Addr) (cdv ct : Value) (osl : Array (Option Value)),
    fd = PySem.W.fnOf x qual (defArgs st) (defBody st) (defScope st) dV kV doc pm an cdv ct ∧ K.lookup f = some ⟨oc, od, .func fd, osl⟩ ∧ PySem.W.codeIn K cdv qual = true
theorem FunE.of {x qual : Str} {st : Stmt} {f : Addr} {fd : FuncData} (h : L2.Fun K x qual st f fd) : FunE K x qual st f fd := by
  obtain ⟨oc, od, kV, doc, pm, an, cdv, ct, osl, e, lk, hcd⟩ := h.ex
  exact ⟨oc, od, _, kV, doc, pm, an, cdv, ct, osl, e, lk, hcd⟩
theorem fnG_of {f : Addr} {name qual : Str} {st : Stmt} {fd : FuncData} {ps : List Str} {k : Nat} {M : Str → Option Mi} {O : Orc} {E : SE} (hM : MOk M) (hO : OrcOk K O) (F : FunE K name qual st f fd) (hs : E.sc = defScope st) (S : FnScope E.N ps (defScope st))
    (hG : ∀ X : Cx, Same X P w K mg base k → ∀ x v, E.G x = some v → GOk X x v) : FnG P w K mg base (k + 1) f fd ps (fnD M O st E) := by
  obtain ⟨oc, od, dV, kV, doc, pm, an, cdv, ct, osl, rfl, lk, hcd⟩ := F.ex
  refine ⟨fun A outer s H args us vs Q E' hr gd e0 hb r hsp => ?_⟩
  have hl := hsp.1
  have KX : K.In s.heap := e0.mod.kin.keeps fun b o e => (e0.bs b o e).1
  have lim : s.heap.NoLimit := e0.mod.nolimit.keeps fun b o e => (e0.bs b o e).1
  have par : ∀ y ∈ ps.zip us, (defScope st).names.lookup y.1 = some .local ∨ ((defScope st).names.lookup y.1 = some .cell ∧ ((cellsFrom (s.heap.objs.size + 1) (defScope st).names []).lookup y.1).isSome = true) := fun ⟨n, v⟩ hy => by
    rcases S.par n (List.of_mem_zip hy).1 with q | q
    · exact .inl q
    · exact .inr ⟨q, PySem.W.cellsFrom_some _ _ _ (.inl q)⟩
  refine codeAny_call_function hr.depth (KX _ _ lk) rfl S.co S.gen rfl (PySem.W.codeRec_of KX hcd) (hb _ _ _ _ (wpAny_newFunctionEnv_cells S.kind par fun env he s1 x => ?_))
  subst he
  refine ⟨lim.keeps x.toInCall.keep, codeAny_func ?_⟩
  let X : Cx := cxOf (L2.CX P w) P w K mg base E.N qual (defScope st) f cdv A outer s H E'
  have I : Inv X [] (L2.start E.N vs) H s1 := inv_start S hr.hd e0 hl r x
  have room : Room k X.A := hr.deeper _
  have C : Ctx X (fun cls d _ H' => E' cls d H') E :=
    { n := rfl, sc := hs.symm, nd := S.nd, calm := rfl, gd := gd, un := room.units, tk := takes_of rfl rfl rfl rfl, fn := fun _ _ => rfl,
      g := hG X ⟨rfl, rfl, rfl, rfl, rfl, room⟩ }
  have SC : SCtx X (fun cls d _ H' => E' cls d H') E O := ⟨C, hO, passes_of rfl, rfl, rfl, S.kind⟩
  have body := dSs_ok hM (defBody st) E X _ SC
  obtain ⟨_, ι, S0, ds, rs, rd, post⟩ := hsp
  have t0 : tOfS X.K (fun cls d _ H' => E' cls d H') (dSs M O (defBody st) E) { nx := fun _ H' => Q .non H', rt := Q } (L2.start E.N vs) H := by
    refine ⟨ι, S0, startD E.N.length ds, rs, ros_start rd, ?_⟩
    unfold fnD fnB at post
    cases hb : dSs M O (defBody st) E (startD E.N.length ds) S0 with
    | nx δ S' => rw [hb] at post; exact fun σ' H' ι' g s _ => post .non H' ι' g s RD.mnon
    | rt d S' => rw [hb] at post; exact post
    | exc δ C' fs S' => rw [hb] at post; exact fun σ' H' ι' dd fs' g s _ hd rf => post H' ι' dd fs' g s hd rf
    | bk δ S' => rw [hb] at post; exact post.elim
    | ct δ S' => rw [hb] at post; exact post.elim
    | bad => rw [hb] at post; exact post.elim
  refine wpAny_mono (body.run [] s1 (L2.start E.N vs) H _ I t0) (fun fl s' hs => ?_) fun e s' hs => hs
  have fin : ∀ {σ' : L2.St} {H' : Hp} {v : V} {u : Value}, Inv X [] σ' H' s' → RelV v u → Q v H' → CE outer P w H s Q u s' := fun {σ' H' v u} J rv q => ⟨v, H', J.os, J.bare, J.base, J.hok, rv, q⟩
  cases fl with
  | ret u =>
    obtain ⟨v, σ', H', J, rv, q⟩ := hs
    exact fin J rv q
  | next =>
    obtain ⟨σ', H', J, q⟩ := hs
    exact fin (v := V.non) (u := Value.none) J rfl q
  | brk =>
    obtain ⟨_, _, _, q⟩ := hs
    exact False.elim q
  | cont =>
    obtain ⟨_, _, _, q⟩ := hs
    exact False.elim q
/-- the same upon another def that answers alike -/
theorem FnG.as {j : Nat} {f : Addr} {fd : FuncData} {ps : List Str} {g g' : Fn} (F : FnG P w K mg base j f fd ps g) (e : g = g') : FnG P w K mg base j f fd ps g' := e ▸ F
end
theorem hY_only {H : Hp} (h : Only H) : True := trivial
/-- the script -/
theorem law_do {P : Program} {w : World} {K : PySem.W.Frag} {mg mb : Str → Option Value} {k : Nat} {fa a : Addr} {fd : FuncData} {x : Str} {g : Fn} {s₁ : Shared} {vs : List Value} {ns : List Int}
    (KX : K.In s₁.heap) (hns : s₁.heap.Ns mainGlobals mg) (hb : s₁.heap.Ns builtinsNs mb) (hbb : ∀ x : Str, x ≠ "__name__" → mb x = bootBuiltins x) (hlim : s₁.heap.NoLimit) (hg : s₁.gens = #[])
    (ha : s₁.heap.get? a = some { cls := .type "list", data := .seq vs.toArray }) (hi : IntsAre vs ns) (hl : ns.length ≤ sizeLine) (hr : Room k callerA)
    (F : ∀ base : Heap, K.In base → base.Ns mainGlobals mg → FnG P w K mg base k fa fd [x] g) (hbind : ∀ (s : Shared) (u : Value), BindsTo s fd ⟨[u], []⟩ [(x, u)])
    (go : ∃ S', g [.rls (ns.map .int)] [] = .ok (.bl true) S') :
    codeAny (model P w) callerA (.call (.ref fa) ⟨[.ref a], []⟩) (fun r s' => r = .ok (.ret (.bool true)) ∧ OldK s₁.heap s'.heap ∧ s'.os = s₁.os ∧ AllBare s'.gens) s₁ := by
  obtain ⟨S', go⟩ := go
  have rv := vals_ints hi
  have lenV := hi.length
  have rds : ∀ (H : Hp) (l : List Int), RDs K H [] (l.map .int) (l.map V.int) := fun H l => by
    induction l with
    | nil => exact RDs.nil
    | cons i l ih => exact RDs.cons RD.mint ih
  have main : ∀ H : Hp, Only H → FrzL K H a (ns.map V.int) → HOk P w H s₁.heap → (∀ b, H b ≠ none → b = a) → (H a ≠ none → K.lookup a = none) →
      codeAny (model P w) callerA (.call (.ref fa) ⟨[.ref a], []⟩) (fun r s' => r = .ok (.ret (.bool true)) ∧ OldK s₁.heap s'.heap ∧ s'.os = s₁.os ∧ AllBare s'.gens) s₁ := by
    intro H only seqA hok alone inK
    have keepB : ∀ {b : Addr} {o : Obj}, s₁.heap.get? b = some o → H b = none → (hidT s₁.heap H).get? b = some o := fun e n => hidT_get e n
    have dictN : ∀ {b : Addr} {o : Obj} {es : Array DictEntry} {ep : Nat}, s₁.heap.get? b = some o → o.data = .dict es ep → H b = none := fun {b o es ep} e d => by
      cases q : H b with
      | none => rfl
      | some u =>
        obtain rfl := alone b (by rw [q]; simp)
        rw [ha] at e; cases e
        have d' : Data.seq vs.toArray _ = Data.dict es ep := d
        cases d'
    have nsB : ∀ {b : Addr} {m : Str → Option Value}, s₁.heap.Ns b m → (hidT s₁.heap H).Ns b m := fun {b m} ⟨o, es, ep, e, d, r⟩ => ⟨o, es, ep, keepB e (dictN e d), d, r⟩
    have kB : K.In (hidT s₁.heap H) := fun b o e => keepB (KX b o e) (by
      cases q : H b with
      | none => rfl
      | some u =>
        obtain rfl := alone b (by rw [q]; simp)
        rw [inK (by rw [q]; simp)] at e; cases e)
    have hM : Mod K mg (hidT s₁.heap H) := ⟨kB, nsB hns, ⟨mb, nsB hb, hbb⟩, let ⟨mc, h1, h2⟩ := hlim; ⟨mc, nsB h1, h2⟩⟩
    have e0 : Env0 P w K mg (hidT s₁.heap H) callerA [] s₁ H := ⟨rfl, hM, fun b o e => of_hidT e, Nat.le_of_eq (hidT_size _ _), trivial, fun b hb => absurd (show b ∈ ([] : List Addr) from hb) (by simp), hok, .of_eq hg⟩
    have sp : spD K g 1 [V.ref a] H (fun v _ => v = .bl true) fun _ _ _ => False := by
      refine ⟨rfl, [], [], [.rls (ns.map .int)], ⟨rfl, List.nodup_nil, fun k o b e => by simp at e⟩, RDs.cons ?_ RDs.nil, ?_⟩
      · unfold RD
        exact ⟨a, ns.map V.int, rfl, seqA, rds H ns⟩
      · rw [go]
        exact fun v H' ι' _ _ r => r.bl
    refine codeAny_mono ((F _ kB (nsB hns)).go callerA [] s₁ H ⟨[.ref a], []⟩ [.ref a] [.ref a] _ _ hr rfl e0 (hbind s₁ (.ref a)) (.cons rfl .nil) sp) fun r s' h => ?_
    cases r with
    | error e =>
      obtain ⟨_, _, _, _, _, _, _, _, _, _, _, _, z⟩ := h
      exact z.elim
    | ok fl =>
      cases fl with
      | ret u =>
        obtain ⟨v, H', os, bare, un, hok', r', q⟩ := h
        have q' : v = .bl true := q
        subst q'
        obtain rfl : u = Value.bool true := r'
        refine ⟨rfl, OldK.of_keep fun b o e => ?_, os, bare⟩
        cases q : H b with
        | none => exact un.keep b o e q (fun z => absurd (show b ∈ ([] : List Addr) from z) (by simp)) (by simp)
        | some u =>
          rcases only b with z | ⟨ob, xs, z⟩
          · rw [q] at z; cases z
          · obtain ⟨e1, _⟩ := hok b _ z
            obtain ⟨e2, _⟩ := hok' b _ (un.frzs b ob _ z)
            rw [e] at e1; cases e1
            exact e2
      | _ => exact False.elim h
  cases hk : K.lookup a with
  | some o =>
    have e := KX a o hk
    rw [ha] at e
    cases e
    exact main (fun _ => none) (fun _ => .inl rfl) (.inr ⟨_, vs.toArray, _, hk, rfl, rfl, rfl, by rw [List.size_toArray, lenV]; exact hl, by simpa using rv⟩) (fun b u z => by have z' : (none : Option HO) = some u := z; cases z') (fun b z => absurd rfl z) fun z => absurd rfl z
  | none =>
    refine main (fun b => if b = a then some (.frz { cls := .type "list", data := .seq vs.toArray } (.lst (ns.map V.int))) else none) (fun b => ?_) (.inl ⟨{ cls := .type "list", data := .seq vs.toArray }, if_pos rfl⟩) (fun b u z => ?_) (fun b z => ?_) fun _ => hk
    · by_cases hb : b = a
      · exact .inr ⟨_, _, if_pos hb⟩
      · exact .inl (if_neg hb)
    · by_cases hb : b = a
      · have z' := (if_pos hb).symm.trans z
        cases z'
        subst hb
        exact ⟨ha, by rw [List.length_map]; exact hl, vs, _, rv, ha⟩
      · have z' := (if_neg hb).symm.trans z
        cases z'
    · by_cases hb : b = a
      · exact hb
      · exact absurd (if_neg hb) z
/-- the goal that k_head leaves -/
theorem walk_do {l : PySem.W.OpenLaw} {n k : Nat} {q : Program} {loose : List Str} {XP : (Str → Option Value) → Heap → Prop} {YP : World → Heap → Prop} {d : DefRec} {K : Params → PySem.W.Frag} {x : Str}
    (hn : l.most = some n) (hn2 : n ≤ sizeLine) (hdf : d.params.defaults = []) (hr : Room k callerA) (hY : ∀ (w : World) (h : Heap), YP w h → (K w.params).In h)
    (F : ∀ (w : World) (mg : Str → Option Value) (fa : Addr) (h : Heap), YP w h → (K w.params).In h → h.Ns mainGlobals mg → mg d.name = some (.ref fa) →
      ∃ (fd : FuncData) (g : Fn), (∀ (s : Shared) (u : Value), BindsTo s fd ⟨[u], []⟩ [(x, u)]) ∧ (∀ ns : List Int, ns.length ≤ n → ∃ S', g [.rls (ns.map .int)] [] = .ok (.bl true) S') ∧
        ∀ base : Heap, (K w.params).In base → base.Ns mainGlobals mg → FnG l.prog w (K w.params) mg base k fa fd [x] g) :
    PySem.W.WalkO q loose XP YP l.row.toRowW d [] (fun f vs => PySem.call f vs) := by
  refine Att.attach_call hn hdf fun w s₀ s₁ mg mb fa o pm cd doc a vs ns G Y ho hd hcd hmg hobj hints hlen hg => ?_
  have KX := hY w _ Y
  obtain ⟨fd, g, hb, go, hF⟩ := F w mg fa _ Y KX G.T.g hmg
  exact law_do KX G.T.g G.T.b G.T.builtins G.T.nolimit hg hobj hints (Nat.le_trans hlen hn2) hr hF hb (go ns hlen)
end DL
set_option Elab.async false
set_option linter.all false
set_option maxRecDepth 100000
set_option maxHeartbeats 1000000
/-! DMax: max and min of a tuple of whole numbers. -/
namespace DL
open PySem PyProof.Rows L2
section
variable {prog : Program} {w : World} {A : Around} {E : Value → Shared → Prop} {s : Shared} {l : Addr} {xs : Array (Int × Tok)} {its : List Value} {ns : List Int} {Q : Value → Shared → Prop}
theorem iter_anyTup {vs : Array Value} (hl : s.heap.IsTuple l vs)
    (h : ∀ s₂ : Shared, s₂ = { s with heap := s.heap.push { cls := .type "tuple_iterator", data := .fields #[.ref l, .int 0 0] } } →
      (s₂.heap.IsTupleIter s.heap.objs.size l 0 ∧ s₂.heap.IsTuple l vs) → (∀ b ∈ [s.heap.objs.size, l], b < s₂.heap.objs.size) → l ≠ s.heap.objs.size → Q (.ref s.heap.objs.size) s₂) :
    wpAny (model prog w) A (pyIter (.ref l)) Q E s := by
  have hlt : l < s.heap.objs.size := by obtain ⟨_, e, _⟩ := hl; exact Heap.lt_size e
  refine wpAny_pyIter_tuple hl (h _ rfl ⟨⟨_, Heap.get?_push_size _ rfl, rfl, rfl⟩, hl.push _⟩ (fun b hb => ?_) (Nat.ne_of_lt hlt))
  show b < (s.heap.push _).objs.size
  rw [Heap.size_push]
  rcases List.mem_cons.mp hb with rfl | hb
  · exact Nat.lt_succ_self _
  · rcases List.mem_cons.mp hb with rfl | hb
    · exact Nat.lt_succ_of_lt hlt
    · cases hb
theorem old_keptT {h' : Heap} {o : Obj} (hk : ∀ b ob, b ∉ [s.heap.objs.size] → (s.heap.push o).get? b = some ob → h'.get? b = some ob) :
    ∀ b ob, s.heap.get? b = some ob → h'.get? b = some ob := fun b ob e => by
  refine hk b ob (fun hm => ?_) (Heap.get?_push_of_some _ e)
  rcases List.mem_cons.mp hm with e1 | hm
  · exact absurd (e1 ▸ Heap.lt_size e) (Nat.lt_irrefl _)
  · cases hm
theorem max_intTup (hh : A.handled = none) (hl : s.heap.IsTuple l (intItems xs)) (hne : 0 < xs.size)
    (h : ∀ v h' tk, (intItems xs)[argBest (fun i j => decide (numAt xs i > numAt xs j)) (xs.size - 1)]? = some v → (∀ b o, s.heap.get? b = some o → h'.get? b = some o) → Q v { s with heap := h', toks := tk }) :
    wpAny (model prog w) A (call (.builtin "max") [.ref l]) Q E s := by
  refine call_max_walk (iter_anyTup hl fun s₂ e st hfp hlI => ?_)
  subst e
  refine ⟨_, _, _, _, _, _, _, rfl, Walks.tuple (A := A.in1) hh _ l hlI (intItems xs), st, hfp, by simpa [intItems] using hne, CmpOf.ints_gt (numAt xs) (fun _ _ => intItems_at), fun v h' tk hP hk => ?_⟩
  exact h v h' tk (by simpa [intItems] using hP) (old_keptT hk)
theorem min_intTup (hh : A.handled = none) (hl : s.heap.IsTuple l (intItems xs)) (hne : 0 < xs.size)
    (h : ∀ v h' tk, (intItems xs)[argBest (fun i j => decide (numAt xs i < numAt xs j)) (xs.size - 1)]? = some v → (∀ b o, s.heap.get? b = some o → h'.get? b = some o) → Q v { s with heap := h', toks := tk }) :
    wpAny (model prog w) A (call (.builtin "min") [.ref l]) Q E s := by
  refine call_min_walk (iter_anyTup hl fun s₂ e st hfp hlI => ?_)
  subst e
  refine ⟨_, _, _, _, _, _, _, rfl, Walks.tuple (A := A.in1) hh _ l hlI (intItems xs), st, hfp, by simpa [intItems] using hne, CmpOf.ints_lt (numAt xs) (fun _ _ => intItems_at), fun v h' tk hP hk => ?_⟩
  exact h v h' tk (by simpa [intItems] using hP) (old_keptT hk)
theorem max_rawT (hh : A.handled = none) (hl : s.heap.IsTuple l its.toArray) (hi : IntsAre its ns) (hne : 0 < ns.length)
    (h : ∀ h' tk M t', (∀ b o, s.heap.get? b = some o → h'.get? b = some o) → M ∈ ns → (∀ a, a ∈ ns → a ≤ M) → Q (.int M t') { s with heap := h', toks := tk }) : wpAny (model prog w) A (call (.builtin "max") [.ref l]) Q E s := by
  obtain ⟨xs, e⟩ := hi.allInts.items
  have hn : numsOf (intItems xs).toList = ns := by rw [← e]; exact hi.numsOf
  rw [nums_intItems] at hn
  subst hn
  rw [e] at hl
  have hsz : 0 < xs.size := by simpa using hne
  refine max_intTup hh hl hsz fun v h' tk hv hk => ?_
  obtain ⟨t, rfl⟩ := intItems_at hv
  obtain ⟨h1, h2⟩ := argBest_gt (numAt xs) (xs.size - 1)
  refine h h' tk _ t hk ?_ fun a ha => ?_
  · rw [numAt_eq]; exact PySem.getD_mem (by rw [List.length_map, Array.length_toList]; omega)
  · obtain ⟨j, hj, rfl⟩ := mem_getD ha
    rw [List.length_map, Array.length_toList] at hj
    rw [← numAt_eq]; exact h2 j (by omega)
theorem min_rawT (hh : A.handled = none) (hl : s.heap.IsTuple l its.toArray) (hi : IntsAre its ns) (hne : 0 < ns.length)
    (h : ∀ h' tk M t', (∀ b o, s.heap.get? b = some o → h'.get? b = some o) → M ∈ ns → (∀ a, a ∈ ns → M ≤ a) → Q (.int M t') { s with heap := h', toks := tk }) : wpAny (model prog w) A (call (.builtin "min") [.ref l]) Q E s := by
  obtain ⟨xs, e⟩ := hi.allInts.items
  have hn : numsOf (intItems xs).toList = ns := by rw [← e]; exact hi.numsOf
  rw [nums_intItems] at hn
  subst hn
  rw [e] at hl
  have hsz : 0 < xs.size := by simpa using hne
  refine min_intTup hh hl hsz fun v h' tk hv hk => ?_
  obtain ⟨t, rfl⟩ := intItems_at hv
  obtain ⟨h1, h2⟩ := argBest_lt (numAt xs) (xs.size - 1)
  refine h h' tk _ t hk ?_ fun a ha => ?_
  · rw [numAt_eq]; exact PySem.getD_mem (by rw [List.length_map, Array.length_toList]; omega)
  · obtain ⟨j, hj, rfl⟩ := mem_getD ha
    rw [List.length_map, Array.length_toList] at hj
    rw [← numAt_eq]; exact h2 j (by omega)
end
section
variable {X : Cx}
def rMaxT (K : PySem.W.Frag) : List V → Hp → VK → Prop := fun vs H Q => ∃ (a : Addr) (ns : List Int), vs = [V.ref a] ∧ SqT K H a (ns.map V.int) ∧ 0 < ns.length ∧ ∀ m, m ∈ ns → (∀ y, y ∈ ns → y ≤ m) → Q (.int m) H
def rMinT (K : PySem.W.Frag) : List V → Hp → VK → Prop := fun vs H Q => ∃ (a : Addr) (ns : List Int), vs = [V.ref a] ∧ SqT K H a (ns.map V.int) ∧ 0 < ns.length ∧ ∀ m, m ∈ ns → (∀ y, y ∈ ns → m ≤ y) → Q (.int m) H
theorem cr_maxT (hc : X.calm = true) : CallR X (.builtin "max") (rMaxT X.K) := by
  intro pins s σ H vs us Q I r h
  obtain ⟨a, ns, rfl, hs, hne, q⟩ := h
  obtain ⟨its, rv, hl, _⟩ := I.tuple hs
  rw [Vals.ref1 r]
  exact max_rawT (I.ok.hd hc) (show s.heap.IsTuple a its.toArray from hl) rv.ints hne fun h' tk m t' hk h1 h2 => ⟨.int _, H, I.kept hk, ⟨_, rfl⟩, q m h1 h2⟩
theorem cr_minT (hc : X.calm = true) : CallR X (.builtin "min") (rMinT X.K) := by
  intro pins s σ H vs us Q I r h
  obtain ⟨a, ns, rfl, hs, hne, q⟩ := h
  obtain ⟨its, rv, hl, _⟩ := I.tuple hs
  rw [Vals.ref1 r]
  exact min_rawT (I.ok.hd hc) (show s.heap.IsTuple a its.toArray from hl) rv.ints hne fun h' tk m t' hk h1 h2 => ⟨.int _, H, I.kept hk, ⟨_, rfl⟩, q m h1 h2⟩
end
end DL
set_option Elab.async false
set_option linter.all false
set_option maxRecDepth 100000
set_option maxHeartbeats 1000000
/-! DStd: the built-ins by name; append. -/
namespace DL
open PySem L2
def biIsi : Bi := ⟨"isinstance", .builtin "isinstance", isiD⟩
def biAbs : Bi := ⟨"abs", .builtin "abs", one absD⟩
def biLen : Bi := ⟨"len", .builtin "len", one lenD⟩
noncomputable def biRepr : Bi := ⟨"repr", .builtin "repr", one reprD⟩
def biAll : Bi := ⟨"all", .builtin "all", one allD⟩
def biAny : Bi := ⟨"any", .builtin "any", one anyD⟩
def biSum : Bi := ⟨"sum", .builtin "sum", one sumD⟩
def biInt : Bi := ⟨"int", .type "int", one intD⟩
def biStr : Bi := ⟨"str", .type "str", one strD⟩
def biTuple : Bi := ⟨"tuple", .type "tuple", one tupleD⟩
def biList : Bi := ⟨"list", .type "list", one listD⟩
/-- a built-in type, only named -/
def biTy (x : Str) (T : String) : Bi := ⟨x, .type T, fun _ _ => none⟩
theorem CallR.none {X : Cx} {f : Value} : CallR X f (rOfL X.K fun _ _ => none) := fun _ _ _ _ _ _ _ _ _ ⟨_, _, _, _, _, q⟩ => q.elim
theorem ok_isi : BiOk biIsi := ⟨PyProof.Rows.Boot.«isinstance», .inl ⟨_, rfl⟩, by decide, by decide, fun X _ _ _ => cd_isi⟩
theorem ok_abs : BiOk biAbs := ⟨PyProof.Rows.Boot.«abs», .inl ⟨_, rfl⟩, by decide, by decide, fun X _ _ _ => cd_abs.lift⟩
theorem ok_len : BiOk biLen := ⟨PyProof.Rows.Boot.«len», .inl ⟨_, rfl⟩, by decide, by decide, fun X _ _ _ => cd_len.lift⟩
theorem ok_repr : BiOk biRepr := ⟨PyProof.Rows.Boot.«repr», .inl ⟨_, rfl⟩, by decide, by decide, fun X _ h u => (cd_repr h u).lift⟩
theorem ok_all : BiOk biAll := ⟨PyProof.Rows.Boot.«all», .inl ⟨_, rfl⟩, by decide, by decide, fun X h _ _ => (cd_all h).lift⟩
theorem ok_any : BiOk biAny := ⟨PyProof.Rows.Boot.«any», .inl ⟨_, rfl⟩, by decide, by decide, fun X h _ _ => (cd_any h).lift⟩
theorem ok_sum : BiOk biSum := ⟨PyProof.Rows.Boot.«sum», .inl ⟨_, rfl⟩, by decide, by decide, fun X h _ _ => (cd_sum h).lift⟩
theorem ok_int : BiOk biInt := ⟨PyProof.Rows.Boot.«int», .inr ⟨_, rfl⟩, by decide, by decide, fun X _ _ _ => cd_int.lift⟩
theorem ok_str : BiOk biStr := ⟨PyProof.Rows.Boot.«str», .inr ⟨_, rfl⟩, by decide, by decide, fun X _ _ _ => cd_str.lift⟩
theorem ok_tuple : BiOk biTuple := ⟨PyProof.Rows.Boot.«tuple», .inr ⟨_, rfl⟩, by decide, by decide, fun X _ _ _ => cd_tuple.lift⟩
theorem ok_list : BiOk biList := ⟨PyProof.Rows.Boot.«list», .inr ⟨_, rfl⟩, by decide, by decide, fun X _ _ _ => cd_list.lift⟩
theorem ok_bool : BiOk (biTy "bool" "bool") := ⟨PyProof.Rows.Boot.«bool», .inr ⟨_, rfl⟩, by decide, by decide, fun X _ _ _ => CallR.none⟩
theorem ok_dict : BiOk (biTy "dict" "dict") := ⟨PyProof.Rows.Boot.«dict», .inr ⟨_, rfl⟩, by decide, by decide, fun X _ _ _ => CallR.none⟩
/-! min, max -/
def minD : GL
  | [.int i, .int j], S => some (.int (if j < i then j else i), S)
  | [.tup ds], S => match intsD ds with
    | some ns => match ns.min? with
      | some m => some (.int m, S)
      | none => none
    | none => none
  | [d], S => match itemsD d S with
    | some ds => match intsD ds with
      | some ns => match ns.min? with
        | some m => some (.int m, S)
        | none => none
      | none => none
    | none => none
  | _, _ => none
def maxD : GL
  | [.int i, .int j], S => some (.int (if j > i then j else i), S)
  | [.tup ds], S => match intsD ds with
    | some ns => match ns.max? with
      | some m => some (.int m, S)
      | none => none
    | none => none
  | [d], S => match itemsD d S with
    | some ds => match intsD ds with
      | some ns => match ns.max? with
        | some m => some (.int m, S)
        | none => none
      | none => none
    | none => none
  | _, _ => none
theorem cd_min {X : Cx} (hc : X.calm = true) : CallR X (.builtin "min") (rOfL X.K minD) := by
  intro pins s σ H xs us Q I r h
  obtain ⟨ι, S, ds, rs, rd, q⟩ := h
  unfold minD at q
  split at q
  · obtain ⟨v, u, rfl, r1, r2⟩ := rds2 rd
    rw [r1.int, r2.int] at r
    exact call_min2 hc pins s σ H _ us Q I r ⟨_, _, rfl, q.val rs RD.mint⟩
  · obtain ⟨v, rfl, r1⟩ := rds1 rd
    split at q
    · rename_i ns hn
      split at q
      · rename_i m hm
        obtain ⟨a, vs, rfl, h1, h2⟩ := r1.tup
        obtain rfl := intsD_ok h2 hn
        obtain ⟨m1, m2⟩ := List.min?_eq_some_iff.mp hm
        refine cr_minT hc pins s σ H _ us Q I r ⟨a, ns, rfl, h1, List.length_pos_of_mem m1, fun m' e1 e2 => ?_⟩
        have : m' = m := Int.le_antisymm (e2 m m1) (m2 m' e1)
        subst this
        exact q.val rs RD.mint
      · exact q.elim
    · exact q.elim
  · obtain ⟨v, rfl, r1⟩ := rds1 rd
    split at q
    · rename_i es hs
      split at q
      · rename_i ns hn
        split at q
        · rename_i m hm
          obtain ⟨a, vs, rfl, h1, h2⟩ := itemsD_ok rs r1 hs
          obtain rfl := intsD_ok h2 hn
          obtain ⟨m1, m2⟩ := List.min?_eq_some_iff.mp hm
          refine cr_min hc pins s σ H _ us Q I r ⟨a, ns, rfl, h1, List.length_pos_of_mem m1, fun m' e1 e2 => ?_⟩
          have : m' = m := Int.le_antisymm (e2 m m1) (m2 m' e1)
          subst this
          exact q.val rs RD.mint
        · exact q.elim
      · exact q.elim
    · exact q.elim
  · exact q.elim
theorem cd_max {X : Cx} (hc : X.calm = true) : CallR X (.builtin "max") (rOfL X.K maxD) := by
  intro pins s σ H xs us Q I r h
  obtain ⟨ι, S, ds, rs, rd, q⟩ := h
  unfold maxD at q
  split at q
  · obtain ⟨v, u, rfl, r1, r2⟩ := rds2 rd
    rw [r1.int, r2.int] at r
    exact call_max2 hc pins s σ H _ us Q I r ⟨_, _, rfl, q.val rs RD.mint⟩
  · obtain ⟨v, rfl, r1⟩ := rds1 rd
    split at q
    · rename_i ns hn
      split at q
      · rename_i m hm
        obtain ⟨a, vs, rfl, h1, h2⟩ := r1.tup
        obtain rfl := intsD_ok h2 hn
        obtain ⟨m1, m2⟩ := List.max?_eq_some_iff.mp hm
        refine cr_maxT hc pins s σ H _ us Q I r ⟨a, ns, rfl, h1, List.length_pos_of_mem m1, fun m' e1 e2 => ?_⟩
        have : m' = m := Int.le_antisymm (m2 m' e1) (e2 m m1)
        subst this
        exact q.val rs RD.mint
      · exact q.elim
    · exact q.elim
  · obtain ⟨v, rfl, r1⟩ := rds1 rd
    split at q
    · rename_i es hs
      split at q
      · rename_i ns hn
        split at q
        · rename_i m hm
          obtain ⟨a, vs, rfl, h1, h2⟩ := itemsD_ok rs r1 hs
          obtain rfl := intsD_ok h2 hn
          obtain ⟨m1, m2⟩ := List.max?_eq_some_iff.mp hm
          refine cr_max hc pins s σ H _ us Q I r ⟨a, ns, rfl, h1, List.length_pos_of_mem m1, fun m' e1 e2 => ?_⟩
          have : m' = m := Int.le_antisymm (m2 m' e1) (e2 m m1)
          subst this
          exact q.val rs RD.mint
        · exact q.elim
      · exact q.elim
    · exact q.elim
  · exact q.elim
def biMin : Bi := ⟨"min", .builtin "min", minD⟩
def biMax : Bi := ⟨"max", .builtin "max", maxD⟩
theorem ok_min : BiOk biMin := ⟨PyProof.Rows.Boot.«min», .inl ⟨_, rfl⟩, by decide, by decide, fun X h _ _ => cd_min h⟩
theorem ok_max : BiOk biMax := ⟨PyProof.Rows.Boot.«max», .inl ⟨_, rfl⟩, by decide, by decide, fun X h _ _ => cd_max h⟩
/-! append -/
def appD : D → List D → SS → Option (D × SS)
  | .ref k, [x], S => match S[k]? with
    | some (.lst ds) => if ds.length < sizeLine then some (.non, S.set k (.lst (ds ++ [x]))) else none
    | _ => none
  | _, _, _ => none
def miApp : Mi := ⟨"list", "list.append", appD⟩
theorem ok_app : MiOk "append" miApp where
  pa := PySem.F.plainAttrs_list
  sl := PySem.F.slot_list_append
  ty := PySem.F.type_list_append
  call := by
    intro X _ _ _ pins s σ H x xs v us Q I rx rxs h
    refine mt_append pins s σ H x xs v us Q I rx rxs ?_
    obtain ⟨ι, S, d, ds, rs, rd, rds, q⟩ := h
    have q : PostN X.K ι H (appD d ds S) Q := q
    unfold appD at q
    split at q
    · rename_i k y
      split at q
      · rename_i es hk
        split at q
        · rename_i hl
          obtain ⟨a, vs, rfl, h0, h1, h2⟩ := rs.lst hk rd
          unfold RDs at rds
          obtain ⟨w, r', rfl, r1, r2⟩ := rds
          unfold RDs at r2
          subst r2
          refine ⟨a, vs, w, rfl, rfl, h1, by rw [← h2.length]; exact hl, ?_⟩
          have gw : Gr X.K H ι (upd H a (.lst (vs ++ [w]))) ι := Gr.write rs h0
          exact q _ _ ι gw (rs.write (ob := .lst (es ++ [_])) h0 ⟨_, upd_same, (h2.append (RDs.cons r1 RDs.nil)).mono gw⟩) RD.mnon
        · exact q.elim
      · exact q.elim
    · exact q.elim
def stdM : Str → Option Mi := fun m => if m = "append" then some miApp else none
theorem stdM_ok : MOk stdM := fun n mi h => by
  unfold stdM at h
  split at h
  · rename_i e
    cases h
    subst e
    exact ok_app
  · cases h
end DL
set_option Elab.async false
set_option linter.all false
set_option maxRecDepth 100000
/-! DEnd: small words for the laws. -/
namespace DL
open PySem L2
/-- the one statement of a try's clause -/
def hndSt (st : Stmt) (k j : Nat) : Stmt := match (defBody st)[k]? with
  | some (.Try _ hs _ _ _) => (match hs[j]? with
    | some (.ExceptHandler _ _ bd _) => bd.headD (.Pass ⟨0, 0, 0, 0⟩)
    | none => .Pass ⟨0, 0, 0, 0⟩)
  | _ => .Pass ⟨0, 0, 0, 0⟩
end DL
set_option Elab.async false
set_option linter.all false
set_option maxRecDepth 100000
set_option maxHeartbeats 1000000
/-! DLink: from what the text has written to what its defs do. -/
namespace DL
open PySem L2
section
variable {P : Program} {w : World} {K : PySem.W.Frag} {mg : Str → Option Value} {base : Heap}
/-- a def of the text -/
def DefOk (K : PySem.W.Frag) (mg : Str → Option Value) (x : Str) (st : Stmt) (ps : List Str) : Prop := ∃ f fd, mg x = some (.ref f) ∧ PySem.W.keepIn K (.ref f) = true ∧ L2.Fun K x x st f fd ∧ Binds K fd ps [] ∧ ∀ (s : Shared) (us : List Value), us.length = ps.length → BindsTo s fd ⟨us, []⟩ (ps.zip us)
def CalG (P : Program) (w : World) (K : PySem.W.Frag) (mg : Str → Option Value) (base : Heap) (k : Nat) (x : Str) (ps : List Str) (g : Fn) : Prop :=
  ∃ f fd, mg x = some (.ref f) ∧ PySem.W.keepIn K (.ref f) = true ∧ FnG P w K mg base k f fd ps g ∧ Binds K fd ps []
theorem def_ok {x : Str} {st : Stmt} {ps : List Str} {h : Heap} {f : Addr} {oc : Value} {od an : Option Addr} {osl : Array (Option Value)} {kV doc pm cdv ct : Value} (X : K.In h) (G : h.Ns mainGlobals mg) (a : PySem.W.nsIn K mainGlobals x = some (some (.ref f)))
    (l : K.lookup f = some ⟨oc, od, .func (PySem.W.fnOf x x (defArgs st) (defBody st) (defScope st) .none kV doc pm an cdv ct), osl⟩) (c : PySem.W.codeIn K cdv x = true) (k : PySem.W.keepIn K (.ref f) = true)
    (b : ∀ (kV doc pm : Value) (an : Option Addr) (cdv ct : Value) (us : List Value), us.length = ps.length → bindArgs (PySem.W.fnOf x x (defArgs st) (defBody st) (defScope st) .none kV doc pm an cdv ct) ⟨us, []⟩ = pure (ps.zip us)) : DefOk K mg x st ps :=
  ⟨f, _, PySem.W.mg_of X G a, k, fun_mk l c k, (fun_mk l c k).binds b, fun s us hu => .of_eq (b _ _ _ _ _ _ us hu)⟩
theorem cal_of {x : Str} {st : Stmt} {ps : List Str} {k : Nat} {M : Str → Option Mi} {O : Orc} {E : SE} (hM : MOk M) (hO : OrcOk K O) (d : DefOk K mg x st ps) (hs : E.sc = defScope st) (S : FnScope E.N ps (defScope st))
    (hG : ∀ X : Cx, Same X P w K mg base k → ∀ x v, E.G x = some v → GOk X x v) : CalG P w K mg base (k + 1) x ps (fnD M O st E) := by
  obtain ⟨f, fd, h1, h2, h3, h4, _⟩ := d
  exact ⟨f, fd, h1, h2, fnG_of hM hO (.of h3) hs S hG, h4⟩
/-- a def of which nothing is said -/
theorem cal_bad {x : Str} {st : Stmt} {ps : List Str} {k : Nat} (d : DefOk K mg x st ps) : CalG P w K mg base k x ps (fun _ _ => .bad) := by
  obtain ⟨f, fd, h1, h2, h3, h4, _⟩ := d
  exact ⟨f, fd, h1, h2, ⟨fun A outer s H args us vs Q E _ _ _ _ _ ⟨_, _, _, _, _, _, h⟩ => h.elim⟩, h4⟩
/-- a value of the module, whatever the heap -/
def KV (K : PySem.W.Frag) (u : Value) (d : D) : Prop := ∃ v, RelV v u ∧ ∀ H ι, RD K H ι d v
/-- a def whose last parameter has a default -/
def DefOkD (K : PySem.W.Frag) (mg : Str → Option Value) (x : Str) (st : Stmt) (ps : List Str) (d : D) : Prop := ∃ f fd, mg x = some (.ref f) ∧ PySem.W.keepIn K (.ref f) = true ∧ FunE K x x st f fd ∧ Binds K fd ps [] ∧ ∃ dv v, Binds K fd ps [dv] ∧ RelV v dv ∧ ∀ H ι, RD K H ι d v
def CalD (P : Program) (w : World) (K : PySem.W.Frag) (mg : Str → Option Value) (base : Heap) (k : Nat) (x : Str) (ps : List Str) (g : Fn) (d : D) : Prop :=
  ∃ f fd, mg x = some (.ref f) ∧ PySem.W.keepIn K (.ref f) = true ∧ FnG P w K mg base k f fd ps g ∧ Binds K fd ps [] ∧ ∃ dv v, Binds K fd ps [dv] ∧ RelV v dv ∧ ∀ H ι, RD K H ι d v
theorem def_okD {x : Str} {st : Stmt} {ps : List Str} {h : Heap} {f T : Addr} {oc u : Value} {od an dd : Option Addr} {osl sl : Array (Option Value)} {kV doc pm cdv ct : Value} {n : Nat} {d : D} (X : K.In h) (G : h.Ns mainGlobals mg) (a : PySem.W.nsIn K mainGlobals x = some (some (.ref f)))
    (l : K.lookup f = some ⟨oc, od, .func (PySem.W.fnOf x x (defArgs st) (defBody st) (defScope st) (.ref T) kV doc pm an cdv ct), osl⟩) (c : PySem.W.codeIn K cdv x = true) (k : PySem.W.keepIn K (.ref f) = true)
    (lT : K.lookup T = some ⟨.type "tuple", dd, .seq ([u] : List Value).toArray n, sl⟩) (hu : KV K u d)
    (b : ∀ (kV doc pm : Value) (an : Option Addr) (cdv ct : Value) (us : List Value), us.length = ps.length → ∃ k, bindArgs (PySem.W.fnOf x x (defArgs st) (defBody st) (defScope st) (.ref T) kV doc pm an cdv ct) ⟨us, []⟩ = seqItems? (.ref T) >>= k ∧ k (some ([u] : List Value).toArray) = pure (ps.zip us))
    (b2 : ∀ (kV doc pm : Value) (an : Option Addr) (cdv ct : Value) (us : List Value), us.length + 1 = ps.length → ∃ k, bindArgs (PySem.W.fnOf x x (defArgs st) (defBody st) (defScope st) (.ref T) kV doc pm an cdv ct) ⟨us, []⟩ = seqItems? (.ref T) >>= k ∧ k (some ([u] : List Value).toArray) = pure (ps.zip (us ++ [u]))) : DefOkD K mg x st ps d := by
  obtain ⟨v, h1, h2⟩ := hu
  refine ⟨f, _, PySem.W.mg_of X G a, k, ⟨oc, od, _, kV, doc, pm, an, cdv, ct, osl, rfl, l, c⟩, fun s us X' hl => ?_, u, v, fun s us X' hl => ?_, h1, h2⟩
  · rw [List.append_nil] at hl ⊢
    refine BindsTo.of_looks fun M => ?_
    obtain ⟨k, e1, e2⟩ := b kV doc pm an cdv ct us hl
    rw [e1]
    exact looks_items X' lT rfl (.of_pure e2)
  · obtain ⟨k, e1, e2⟩ := b2 kV doc pm an cdv ct us (by simpa using hl)
    refine BindsTo.of_looks fun M => ?_
    rw [e1]
    exact looks_items X' lT rfl (.of_pure e2)
theorem cal_ofD {x : Str} {st : Stmt} {ps : List Str} {k : Nat} {M : Str → Option Mi} {O : Orc} {E : SE} {d : D} (hM : MOk M) (hO : OrcOk K O) (D : DefOkD K mg x st ps d) (hs : E.sc = defScope st) (S : FnScope E.N ps (defScope st))
    (hG : ∀ X : Cx, Same X P w K mg base k → ∀ x v, E.G x = some v → GOk X x v) : CalD P w K mg base (k + 1) x ps (fnD M O st E) d := by
  obtain ⟨f, fd, h1, h2, h3, h4, h5⟩ := D
  exact ⟨f, fd, h1, h2, fnG_of hM hO h3 hs S hG, h4, h5⟩
/-- every entry of a table -/
def GAll (X : Cx) : List (Str × GV) → Prop
  | [] => True
  | p :: r => GOk X p.1 p.2 ∧ GAll X r
theorem GAll.cons {X : Cx} {p : Str × GV} {r : List (Str × GV)} (h : GOk X p.1 p.2) (t : GAll X r) : GAll X (p :: r) := ⟨h, t⟩
theorem GAll.nil {X : Cx} : GAll X [] := trivial
theorem g_list {X : Cx} : ∀ {l : List (Str × GV)}, GAll X l → ∀ x v, List.lookup x l = some v → GOk X x v
  | [], _, x, v, h => by cases h
  | (y, u) :: r, a, x, v, h => by
    rw [List.lookup_cons] at h
    cases hb : x == y with
    | true =>
      rw [hb] at h
      cases h
      rw [eq_of_beq hb]
      exact a.1
    | false =>
      rw [hb] at h
      exact g_list a.2 x v h
theorem gok_bi {X : Cx} {k : Nat} {b : Bi} (S : Same X P w K mg base k) (hm : mg b.name = none) (hb : BiOk b) : GOk X b.name (.bi b) := ⟨rfl, by rw [S.mg]; exact hm, hb⟩
theorem gok_it {X : Cx} {k : Nat} {x : Str} (S : Same X P w K mg base k) (hm : mg x = none) : GOk X x .it := by
  show X.mg x = none
  rw [S.mg]
  exact hm
theorem gok_fn {X : Cx} {j k : Nat} {x : Str} {ps : List Str} {g : Fn} (S : Same X P w K mg base k) (h : CalG P w K mg base j x ps g) (hj : j ≤ k) (hd : (x == ("__debug__" : Str)) = false) : GOk X x (.fn g ps.length) := by
  obtain ⟨f, fd, h1, h2, h3, h4⟩ := h
  obtain ⟨rfl, rfl, rfl, rfl, rfl, r⟩ := S
  exact ⟨hd, f, fd, ps, j, h1, h2, h3, rfl, r.mono hj, h4⟩
theorem gok_fnd {X : Cx} {j k : Nat} {x : Str} {ps : List Str} {g : Fn} {d : D} (S : Same X P w K mg base k) (h : CalD P w K mg base j x ps g d) (hj : j ≤ k) (hd : (x == ("__debug__" : Str)) = false) : GOk X x (.fnd g ps.length d) := by
  obtain ⟨f, fd, h1, h2, h3, h4, h5⟩ := h
  obtain ⟨rfl, rfl, rfl, rfl, rfl, r⟩ := S
  exact ⟨hd, f, fd, ps, j, h1, h2, h3, rfl, r.mono hj, h4, h5⟩
theorem gok_int {X : Cx} {k : Nat} {x : Str} {i : Int} {t : Tok} (S : Same X P w K mg base k) (hm : mg x = some (.int i t)) (hd : (x == ("__debug__" : Str)) = false) : GOk X x (.val (.int i)) :=
  ⟨hd, _, .int i, by rw [S.mg]; exact hm, ⟨t, rfl⟩, fun _ _ => RD.mint⟩
theorem gok_str {X : Cx} {k : Nat} {x : Str} {i : Str} {t : Tok} (S : Same X P w K mg base k) (hm : mg x = some (.str i t)) (hd : (x == ("__debug__" : Str)) = false) : GOk X x (.val (.str i)) :=
  ⟨hd, _, .str i, by rw [S.mg]; exact hm, ⟨t, rfl⟩, fun _ _ => RD.mstr⟩
theorem gok_gl {X : Cx} {k : Nat} {x : Str} {C : Addr} (S : Same X P w K mg base k) (hm : mg x = some (.ref C)) (hd : (x == ("__debug__" : Str)) = false) : GOk X x (.val (.gl C)) :=
  ⟨hd, _, .ref C, by rw [S.mg]; exact hm, rfl, fun _ _ => by unfold RD; rfl⟩
theorem gok_ex {X : Cx} {k : Nat} {x : Str} {C : Addr} {fs : List Str} (S : Same X P w K mg base k) (hk : 1 ≤ k) (hm : mg x = some (.ref C)) (h : ExcG P w K mg base C fs) (hd : (x == ("__debug__" : Str)) = false) : GOk X x (.ex C fs) := by
  obtain ⟨rfl, rfl, rfl, rfl, rfl, r⟩ := S
  exact ⟨hd, hm, h, r.mono hk⟩
def KVs (K : PySem.W.Frag) (us : List Value) (ds : List D) : Prop := ∃ vs, Vals vs us ∧ ∀ H ι, RDs K H ι ds vs
theorem kv_int {i : Int} {t : Tok} : KV K (.int i t) (.int i) := ⟨.int i, ⟨t, rfl⟩, fun _ _ => RD.mint⟩
theorem kv_str {i : Str} {t : Tok} : KV K (.str i t) (.str i) := ⟨.str i, ⟨t, rfl⟩, fun _ _ => RD.mstr⟩
theorem kv_non : KV K .none .non := ⟨.non, rfl, fun _ _ => RD.mnon⟩
theorem kv_bl {b : Bool} : KV K (.bool b) (.bl b) := ⟨.bl b, rfl, fun _ _ => RD.mbl⟩
theorem kvs_nil : KVs K [] [] := ⟨[], .nil, fun _ _ => RDs.nil⟩
theorem kvs_cons {u : Value} {us : List Value} {d : D} {ds : List D} (a : KV K u d) (b : KVs K us ds) : KVs K (u :: us) (d :: ds) := by
  obtain ⟨v, h1, h2⟩ := a
  obtain ⟨vs, h3, h4⟩ := b
  exact ⟨v :: vs, .cons h1 h3, fun H ι => RDs.cons (h2 H ι) (h4 H ι)⟩
theorem kv_tup {a : Addr} {us : List Value} {ds : List D} {n : Nat} {dd : Option Addr} {sl : Array (Option Value)} (l : K.lookup a = some ⟨.type "tuple", dd, .seq us.toArray n, sl⟩) (hz : us.length ≤ sizeLine) (h : KVs K us ds) : KV K (.ref a) (.tup ds) := by
  obtain ⟨vs, h1, h2⟩ := h
  refine ⟨.ref a, rfl, fun H ι => ?_⟩
  unfold RD
  exact ⟨a, vs, rfl, .inr ⟨_, us.toArray, n, l, rfl, rfl, by simpa using hz, by simpa using h1⟩, h2 H ι⟩
theorem gok_kv {X : Cx} {k : Nat} {x : Str} {u : Value} {d : D} (S : Same X P w K mg base k) (hm : mg x = some u) (h : KV K u d) (hd : (x == ("__debug__" : Str)) = false) : GOk X x (.val d) := by
  obtain ⟨v, h1, h2⟩ := h
  obtain ⟨rfl, rfl, rfl, rfl, rfl, r⟩ := S
  exact ⟨hd, u, v, hm, h1, h2⟩
/-- which error is below which class -/
theorem orc_pair {C c : Addr} {b : Bool} (h1 : PySem.W.subIn K (.ref c) (.type "BaseException") = some true) (hd : PySem.W.hasDictIn K c = true) (ht : PySem.W.typeIn K (.ref c) = some (.type "type")) (h : PySem.W.subIn K (.ref C) (.ref c) = some b) (self : PySem.W.subIn K (.ref C) (.ref C) = some true) :
    PySem.W.exmOne K (.ref C) (.ref c) = some b ∧ PySem.W.kitOne K (.ref C) (.ref c) = some b := by
  have e := PySem.W.exm_ref h1 hd ht h
  refine ⟨e, ?_⟩
  unfold PySem.W.kitOne
  split
  · rename_i q
    have q : Value.ref C = Value.ref c := eq_of_beq q
    cases q
    rw [self] at h
    exact h
  · unfold PySem.W.exmOne at e
    rw [if_pos (by rw [h1] <;> rfl)] at e
    exact e
/-- what the written part says of a class of errors that is caught -/
structure ErrK (K : PySem.W.Frag) (C : Addr) : Prop where
  ga : PySem.W.findIn K (.ref C) "__getattribute__" = some (some (.builtin "BaseException.__getattribute__"))
  gg : PySem.W.findIn K (.ref C) "__getattr__" = some none
  ex : PySem.W.subIn K (.ref C) (.type "BaseException") = some true
  hd : PySem.W.hasDictIn K C = true
  cl : PySem.W.findIn K (.ref C) "__class__" = some (some (.builtin "object.__class__"))
  sp : PySem.W.specialIn K (.builtin "object.__class__") "__get__" = some (some (.builtin "getset_descriptor.__get__"))
  tk : PySem.W.takesIn K (.builtin "object.__class__") = some true
  ob : PySem.W.mroIn K C (.type "object") = some true
theorem ErrK.c {C : Addr} (h : ErrK K C) : ExcC K C := ⟨h.ga, h.gg, h.ex, h.hd, h.cl, h.sp, h.tk, h.ob⟩
theorem ErrK.x {C : Addr} (h : ErrK K C) : XfC K C := ⟨h.ga, h.gg, h.ex, h.hd⟩
theorem lit1 {f : Str} {P : Str → Prop} (h : P f) : ∀ g ∈ [f], P g := fun g hg => by simp at hg; subst hg; exact h
theorem lit2 {f f' : Str} {P : Str → Prop} (h : P f) (h' : P f') : ∀ g ∈ [f, f'], P g := fun g hg => by
  simp at hg
  rcases hg with rfl | rfl
  · exact h
  · exact h'
open PySem.HandSPX PySem.W in
/-- a class of errors, from the text -/
theorem ini_mk {prog : Program} {names : List Str} {ar : Arguments} {bd : List PySem.Stmt} {C D fI : Addr} {nm q : Str} {N : Addr} {bs bm : List Value} {sn : List Str} {sub : List Value} {ab : Bool} {col : Option Bool} {dd : Option Addr} {k0 k1 k2 k3 k5 : Option Value}
    {qual : Str} {scope : Scope} {doc pm ct : Value} {an : Option Addr} {cda cc : Addr} {oc : Value} {od : Option Addr} {osl : Array (Option Value)} {ccl : Value} {cdd : Option Addr} {vs : Array Value} {ccs : Array (Option Value)} {file : Str} {tf : Tok} {cl : Value} {cld : Option Addr} {csl : Array (Option Value)} {cdD : ClassData}
    (xC : K.lookup C = some (excClassObj nm q C N bs bm true sn sub ab col dd k0 k1 k2 k3 k5 "ValueError.__new__")) (sa : PySem.W.findIn K (.ref C) "__setattr__" = some (some (.builtin "object.__setattr__")))
    (iC : PySem.W.findIn K (.ref C) "__init__" = some (some (.ref fI))) (tC : PySem.W.typeIn K (.ref fI) = some (.type "function"))
    (lF : K.lookup fI = some ⟨oc, od, .func (ksFn "__init__" qual ar bd scope .none .none doc pm an (.ref cda) ct cc), osl⟩) (cI : PySem.W.codeIn K (.ref cda) qual = true)
    (lcd : K.lookup cda = some ⟨ccl, cdd, .fields vs, ccs⟩) (h2 : vs[2]? = some (.str file tf)) (hfile : ((prog.main.file : Str) == file) = true) (lcc : K.lookup cc = some ⟨cl, cld, .cell (some (.ref D)), csl⟩) (hD : PySem.W.clsIn K D = some cdD)
    (hsub : PySem.W.mroIn K C (.ref D) = some true) (sup : PySem.W.ks_superIn K C D "__init__" = some (some (.builtin "ValueError.__init__"))) (opq : PySem.W.nsIn K cStatics "thirdparty.any" = some none) (isVE : PySem.W.subIn K (.ref C) (.type "ValueError") = some true)
    (kC : PySem.W.keepIn K (.ref C) = true) (exC : PySem.W.subIn K (.ref C) (.type "BaseException") = some true) (tyC : PySem.W.typeIn K (.ref C) = some (.type "type")) (no : ∀ f ∈ names, PySem.W.findIn K (.ref C) f = some none)
    (rv : refsVE bm = true) (s1 : scope.kind = .function) (s2 : scope.isCoroutine = false) (s3 : scope.isGenerator = false) (s4 : ∀ x ∈ scope.names, x.2 ≠ .cell)
    (s5 : scope.names.lookup ("super" : Str) = some .globalImplicit) (s6 : scope.names.lookup ("__class__" : Str) = some .free) (s7 : scope.names.lookup ("self" : Str) = some .local) (s8 : ∀ f ∈ names, scope.names.lookup f = some .local)
    (top : (prog.main.scope.names.lookup ("super" : Str)).isSome = false) (sup0 : mg "super" = none) : IniT prog K mg C D fI names ar bd where
  tx := ⟨⟨_, _, _, _, _, _, _, _, _, _, _, _, _, _, _, xC, rv⟩, sa, no, iC, tC, ⟨qual, scope, doc, pm, ct, an, cda, cc, oc, od, osl, ccl, cdd, vs, ccs, file, tf, cl, cld, csl, cdD, lF, cI, lcd, h2, hfile, lcc, hD, s1, s2, s3, s4, s5, s6, s7, s8⟩, hsub, top, sup, opq, isVE⟩
  kC := kC
  exC := exC
  tyC := tyC
  sup := sup0
end
end DL
set_option Elab.async false
set_option linter.all false
set_option maxRecDepth 100000
set_option maxHeartbeats 1000000
/-! DSat: trees run by rules: what is wanted of a result. -/
namespace DL
open PySem L2
def Sat {α : Type} (r : R α) (P : α → SS → Prop) : Prop := match r with
  | .ok x S => P x S
  | _ => False
def SatO (o : Option (D × SS)) (P : D → SS → Prop) : Prop := match o with
  | some p => P p.1 p.2
  | none => False
def RSat (r : RS) (Pn : Sl → SS → Prop) (Pr : D → SS → Prop) : Prop := match r with
  | .nx δ S => Pn δ S
  | .rt d S => Pr d S
  | _ => False
section
variable {α β : Type} {δ : Sl} {S : SS} {P : D → SS → Prop} {Pn : Sl → SS → Prop} {Pr : D → SS → Prop}
@[simp] theorem sat_ok {x : α} {P : α → SS → Prop} : Sat (.ok x S) P = P x S := (rfl)
@[simp] theorem sat_bad {P : α → SS → Prop} : Sat (.bad : R α) P = False := (rfl)
@[simp] theorem sat_exc {C : Addr} {fs : List (Str × D)} {P : α → SS → Prop} : Sat (.exc C fs S : R α) P = False := (rfl)
@[simp] theorem sat_bind {r : R α} {k : α → SS → R β} {P : β → SS → Prop} : Sat (r.bind k) P = Sat r fun x S => Sat (k x S) P := by cases r <;> rfl
@[simp] theorem sato_some {p : D × SS} : SatO (some p) P = P p.1 p.2 := (rfl)
@[simp] theorem sato_none : SatO none P = False := (rfl)
@[simp] theorem sat_ofO {o : Option (D × SS)} : Sat (R.ofO o) P = SatO o P := by cases o <;> rfl
@[simp] theorem sat_ofT {o : Option Bool} {P : Bool → SS → Prop} : Sat (DL.ofT o S) P = (match o with | some b => P b S | none => False) := by cases o <;> rfl
@[simp] theorem rsat_nx : RSat (.nx δ S) Pn Pr = Pn δ S := (rfl)
@[simp] theorem rsat_rt {d : D} : RSat (.rt d S) Pn Pr = Pr d S := (rfl)
@[simp] theorem rsat_bad : RSat .bad Pn Pr = False := (rfl)
@[simp] theorem rsat_exc {C : Addr} {fs : List (Str × D)} : RSat (.exc δ C fs S) Pn Pr = False := (rfl)
@[simp] theorem rsat_to {r : R α} {k : α → SS → RS} : RSat (r.to δ k) Pn Pr = Sat r fun x S => RSat (k x S) Pn Pr := by cases r <;> rfl
@[simp] theorem rsat_seq {r : RS} {g : PSt} : RSat (r.seq g) Pn Pr = RSat r (fun δ S => RSat (g δ S) Pn Pr) Pr := by cases r <;> rfl
theorem Sat.mono {r : R α} {P P' : α → SS → Prop} (h : Sat r P) (i : ∀ x S, P x S → P' x S) : Sat r P' := by
  cases r with
  | ok x S => exact i _ _ h
  | _ => exact h.elim
theorem RSat.mono {r : RS} {Pn' : Sl → SS → Prop} {Pr' : D → SS → Prop} (h : RSat r Pn Pr) (i : ∀ x S, Pn x S → Pn' x S) (j : ∀ x S, Pr x S → Pr' x S) : RSat r Pn' Pr' := by
  cases r with
  | nx x S => exact i _ _ h
  | rt x S => exact j _ _ h
  | _ => exact h.elim
theorem sat_ex {r : R α} {P : α → SS → Prop} (h : Sat r P) : ∃ x S, r = .ok x S ∧ P x S := by
  cases r with
  | ok x S => exact ⟨x, S, rfl, h⟩
  | _ => exact h.elim
/-- a def -/
theorem sat_fn {b : PSt} {n : Nat} {ds : List D} (h : RSat (b (startD n ds) S) (fun _ S' => P .non S') P) : Sat (fnB b n ds S) P := by
  unfold fnB
  cases hb : b (startD n ds) S with
  | nx x S => rw [hb] at h; exact h
  | rt x S => rw [hb] at h; exact h
  | _ => rw [hb] at h; exact h.elim

/-! ### statements -/
@[simp] theorem s_seq {a b : PSt} : RSat (sSeq a b δ S) Pn Pr = RSat (a δ S) (fun δ S => RSat (b δ S) Pn Pr) Pr := by unfold sSeq; rw [rsat_seq]
@[simp] theorem s_nil : RSat (sNil δ S) Pn Pr = Pn δ S := (rfl)
@[simp] theorem s_drop {f : PEx} : RSat (sDrop f δ S) Pn Pr = Sat (f δ S) fun _ S1 => Pn δ S1 := by unfold sDrop; rw [rsat_to]; rfl
@[simp] theorem s_ret {f : PEx} : RSat (sRet f δ S) Pn Pr = Sat (f δ S) Pr := by unfold sRet; rw [rsat_to]; rfl
@[simp] theorem s_retN : RSat (sRetN δ S) Pn Pr = Pr .non S := (rfl)
@[simp] theorem s_if {t : PTs'} {a b : PSt} : RSat (sIf t a b δ S) Pn Pr = Sat (t δ S) fun c S1 => if c = true then RSat (a δ S1) Pn Pr else RSat (b δ S1) Pn Pr := by
  unfold sIf
  rw [rsat_to]
  congr 1
  funext c S1
  cases c <;> rfl
@[simp] theorem s_asg1 {f : PEx} {i : Nat} : RSat (sAsg f (.one i) δ S) Pn Pr = Sat (f δ S) fun x S1 => Pn (δ.set i (some x)) S1 := by unfold sAsg; rw [rsat_to]; rfl
theorem s_asgN {f : PEx} {is : List Nat} : RSat (sAsg f (.many is) δ S) Pn Pr = Sat (f δ S) fun x S1 => (match bindC (.many is) x δ with
  | some δ' => Pn δ' S1
  | none => False) := by
  unfold sAsg
  rw [rsat_to]
  congr 1
  funext x S1
  cases bindC (.many is) x δ <;> rfl
@[simp] theorem s_par {fa fb : PEx} {i j : Nat} : RSat (sPar i j fa fb δ S) Pn Pr = Sat (fa δ S) fun x S1 => Sat (fb δ S1) fun y S2 => Pn ((δ.set i (some x)).set j (some y)) S2 := by unfold sPar; rw [rsat_to]; congr 1; funext x S1; rw [rsat_to]; rfl
@[simp] theorem s_set {f o i : PEx} : RSat (sSet f o i δ S) Pn Pr = Sat (f δ S) fun x S1 => Sat (o δ S1) fun y S2 => Sat (i δ S2) fun z S3 => (match setD y z x S3 with
  | some S4 => Pn δ S4
  | none => False) := by
  unfold sSet
  rw [rsat_to]; congr 1; funext x S1
  rw [rsat_to]; congr 1; funext y S2
  rw [rsat_to]; congr 1; funext z S3
  cases setD y z x S3 <;> rfl
/-- a try whose body raises nothing -/
theorem s_try {O : Orc} {b : PSt} {cl : List Cl} (h : RSat (b δ S) Pn Pr) : RSat (sTry O b cl δ S) Pn Pr := by
  unfold sTry
  cases hb : b δ S with
  | exc _ _ _ _ => rw [hb] at h; exact h.elim
  | _ => rw [hb] at h; exact h
theorem s_tryX {O : Orc} {b : PSt} {cl : List Cl} {δ' : Sl} {C : Addr} {fs : List (Str × D)} {S' : SS} (hb : b δ S = .exc δ' C fs S') (h : RSat (catchL O cl C fs δ' S') Pn Pr) : RSat (sTry O b cl δ S) Pn Pr := by
  unfold sTry
  rw [hb]
  exact h

/-! ### expressions -/
@[simp] theorem e_var {i : Nat} : Sat (eVar i δ S) P = (match δ[i]? with | some (some d) => P d S | _ => False) := by
  unfold eVar
  cases δ[i]? with
  | none => rfl
  | some o => cases o <;> rfl
@[simp] theorem e_c {d : D} : Sat (eC d δ S) P = P d S := (rfl)
@[simp] theorem e_op1 {g : G1} {a : PEx} : Sat (eOp1 g a δ S) P = Sat (a δ S) fun x S1 => SatO (g x S1) P := by unfold eOp1; rw [sat_bind]; simp only [sat_ofO]
@[simp] theorem e_op2 {g : G2} {a b : PEx} : Sat (eOp2 g a b δ S) P = Sat (a δ S) fun x S1 => Sat (b δ S1) fun y S2 => SatO (g x y S2) P := by unfold eOp2; simp only [sat_bind, sat_ofO]
@[simp] theorem e_if {t : PTs'} {a b : PEx} : Sat (eIf t a b δ S) P = Sat (t δ S) fun c S1 => if c = true then Sat (a δ S1) P else Sat (b δ S1) P := by
  unfold eIf
  rw [sat_bind]
  congr 1
  funext c S1
  cases c <;> rfl
@[simp] theorem a_nil {P : List D → SS → Prop} : Sat (aNil δ S) P = P [] S := (rfl)
@[simp] theorem a_cons {a : PEx} {r : PAs} {P : List D → SS → Prop} : Sat (aCons a r δ S) P = Sat (a δ S) fun x S1 => Sat (r δ S1) fun xs S2 => P (x :: xs) S2 := by unfold aCons; simp only [sat_bind, sat_ok]
theorem e_tup {a : PAs} : Sat (eTup a δ S) P = Sat (a δ S) fun xs S1 => xs.length ≤ sizeLine ∧ P (.tup xs) S1 := by
  unfold eTup
  rw [sat_bind]
  congr 1
  funext xs S1
  split
  · rename_i h
    simp only [h, sat_ok, true_and]
  · rename_i h
    exact propext ⟨fun z => z.elim, fun z => h z.1⟩
theorem e_lst {a : PAs} : Sat (eLst a δ S) P = Sat (a δ S) fun xs S1 => xs.length ≤ sizeLine ∧ P (.ref S1.length) (S1 ++ [.lst xs]) := by
  unfold eLst
  rw [sat_bind]
  congr 1
  funext xs S1
  split
  · rename_i h
    simp only [h, sat_ok, true_and]
  · rename_i h
    exact propext ⟨fun z => z.elim, fun z => h z.1⟩
@[simp] theorem e_cb {g : GL} {a : PAs} : Sat (eCB g a δ S) P = Sat (a δ S) fun xs S1 => SatO (g xs S1) P := by unfold eCB; simp only [sat_bind, sat_ofO]
theorem e_call {f : Fn} {n : Nat} {a : PAs} : Sat (eCall f n a δ S) P = Sat (a δ S) fun xs S1 => xs.length = n ∧ Sat (f xs S1) P := by
  unfold eCall
  rw [sat_bind]
  congr 1
  funext xs S1
  split
  · rename_i h
    simp only [h, true_and]
  · rename_i h
    exact propext ⟨fun z => z.elim, fun z => h z.1⟩
@[simp] theorem e_and {a b : PEx} : Sat (eAnd a b δ S) P = Sat (a δ S) fun x S1 => (match truD x S1 with | some c => if c = true then Sat (b δ S1) P else P x S1 | none => False) := by
  unfold eAnd
  simp only [sat_bind, sat_ofT]
  congr 1
  funext x S1
  cases truD x S1 with
  | none => rfl
  | some c => cases c <;> rfl
@[simp] theorem e_or {a b : PEx} : Sat (eOr a b δ S) P = Sat (a δ S) fun x S1 => (match truD x S1 with | some c => if c = true then P x S1 else Sat (b δ S1) P | none => False) := by
  unfold eOr
  simp only [sat_bind, sat_ofT]
  congr 1
  funext x S1
  cases truD x S1 with
  | none => rfl
  | some c => cases c <;> rfl
@[simp] theorem e_chain {g g' : G2} {a b c : PEx} : Sat (eChain g g' a b c δ S) P = Sat (a δ S) fun x S1 => Sat (b δ S1) fun y S2 => SatO (g x y S2) fun z S3 => (match boolOf z with
  | some k => if k = true then Sat (c δ S3) fun z' S5 => SatO (g' y z' S5) P else P (.bl false) S3
  | none => False) := by
  unfold eChain
  simp only [sat_bind, sat_ofT, sat_ofO]
  congr 1
  funext x S1
  congr 1
  funext y S2
  cases g x y S2 with
  | none => rfl
  | some p =>
    simp only [sato_some]
    cases boolOf p.1 with
    | none => rfl
    | some k =>
      cases k
      · rfl
      · simp only [if_true, sat_bind, sat_ofO]
@[simp] theorem t_tru {a : PEx} {P : Bool → SS → Prop} : Sat (tTru a δ S) P = Sat (a δ S) fun x S1 => (match truD x S1 with | some c => P c S1 | none => False) := by
  unfold tTru
  simp only [sat_bind, sat_ofT]
@[simp] theorem t_val {a : PEx} {P : Bool → SS → Prop} : Sat (tVal a δ S) P = Sat (a δ S) fun x S1 => (match boolOf x with | some c => P c S1 | none => False) := by
  unfold tVal
  simp only [sat_bind, sat_ofT]
@[simp] theorem t_not {t : PTs'} {P : Bool → SS → Prop} : Sat (tNot' t δ S) P = Sat (t δ S) fun c S1 => P (!c) S1 := by unfold tNot'; simp only [sat_bind, sat_ok]
@[simp] theorem t_and {t u : PTs'} {P : Bool → SS → Prop} : Sat (tAnd' t u δ S) P = Sat (t δ S) fun c S1 => if c = true then Sat (u δ S1) P else P false S1 := by
  unfold tAnd'
  rw [sat_bind]
  congr 1
  funext c S1
  cases c <;> rfl
@[simp] theorem t_or {t u : PTs'} {P : Bool → SS → Prop} : Sat (tOr' t u δ S) P = Sat (t δ S) fun c S1 => if c = true then P true S1 else Sat (u δ S1) P := by
  unfold tOr'
  rw [sat_bind]
  congr 1
  funext c S1
  cases c <;> rfl
@[simp] theorem t_if {t a b : PTs'} {P : Bool → SS → Prop} : Sat (tIf' t a b δ S) P = Sat (t δ S) fun c S1 => if c = true then Sat (a δ S1) P else Sat (b δ S1) P := by
  unfold tIf'
  rw [sat_bind]
  congr 1
  funext c S1
  cases c <;> rfl
@[simp] theorem t_yes {P : Bool → SS → Prop} : Sat (tYes' δ S) P = P true S := (rfl)
theorem e_mt {m : Mi} {o : PEx} {a : PAs} : Sat (eMt m o a δ S) P = Sat (o δ S) fun x S1 => isTy m.ty x S1 = true ∧ Sat (a δ S1) fun xs S2 => SatO (m.g x xs S2) P := by
  unfold eMt
  rw [sat_bind]
  congr 1
  funext x S1
  split
  · rename_i h
    simp only [h, sat_bind, sat_ofO, true_and]
  · rename_i h
    simp only [h, false_and, sat_bad, Bool.false_eq_true]
@[simp] theorem o_none {P : Option Int → SS → Prop} : Sat (oNone δ S) P = P none S := (rfl)
@[simp] theorem o_some {a : PEx} {P : Option Int → SS → Prop} : Sat (oSome a δ S) P = Sat (a δ S) fun x S1 => (match intOf x with | some i => P (some i) S1 | none => False) := by
  unfold oSome
  rw [sat_bind]
  congr 1
  funext x S1
  cases intOf x <;> rfl
@[simp] theorem e_sl {a : PEx} {lo hi : PO'} : Sat (eSl a lo hi δ S) P = Sat (a δ S) fun x S1 => Sat (lo δ S1) fun l S2 => Sat (hi δ S2) fun u S3 => SatO (slD l u x S3) P := by unfold eSl; simp only [sat_bind, sat_ofO]
@[simp] theorem it_val {a : PEx} {P : IT → SS → Prop} : Sat (iVal a δ S) P = Sat (a δ S) fun x S1 => (match iterD x S1 with | some it => P it S1 | none => False) := by
  unfold iVal
  rw [sat_bind]
  congr 1
  funext x S1
  cases iterD x S1 <;> rfl
@[simp] theorem it_on {g : List D → SS → Option IT} {a : PAs} {P : IT → SS → Prop} : Sat (iOn g a δ S) P = Sat (a δ S) fun xs S1 => (match g xs S1 with | some it => P it S1 | none => False) := by
  unfold iOn
  rw [sat_bind]
  congr 1
  funext x S1
  cases g x S1 <;> rfl
/-! ### loops -/
theorem forL_inv {gd : Gd} {ct : CT} {body : PSt} (I : Nat → Sl → SS → Prop) : ∀ (l : List D) (i : Nat) (δ : Sl) (S : SS), I i δ S →
    (∀ j d δ S, l[j]? = some d → I (i + j) δ S → gOk gd S ∧ ∃ δ1, bindC ct d δ = some δ1 ∧ RSat (body δ1 S) (I (i + j + 1)) Pr) → (∀ δ S, I (i + l.length) δ S → gOk gd S ∧ Pn δ S) → RSat (forL gd ct body l δ S) Pn Pr
  | [], i, δ, S, h0, hs, he => by
    obtain ⟨h1, h2⟩ := he δ S h0
    unfold forL
    rw [if_pos h1]
    exact h2
  | d :: l, i, δ, S, h0, hs, he => by
    obtain ⟨h1, δ1, h2, h3⟩ := hs 0 d δ S rfl h0
    unfold forL
    rw [if_pos h1, h2]
    have step := forL_inv (gd := gd) (ct := ct) (body := body) I l (i + 1)
    have hs' : ∀ j d δ S, l[j]? = some d → I (i + 1 + j) δ S → gOk gd S ∧ ∃ δ1, bindC ct d δ = some δ1 ∧ RSat (body δ1 S) (I (i + 1 + j + 1)) Pr := fun j d δ S hj hI => by
      have e : i + 1 + j = i + (j + 1) := by omega
      rw [e] at hI ⊢
      exact hs (j + 1) d δ S hj hI
    have e2 : i + 1 + l.length = i + (d :: l).length := by rw [List.length_cons]; omega
    have he' : ∀ δ S, I (i + 1 + l.length) δ S → gOk gd S ∧ Pn δ S := fun δ S hI => he δ S (e2 ▸ hI)
    show RSat (match body δ1 S with
      | .nx δ' S' => forL gd ct body l δ' S'
      | .ct δ' S' => forL gd ct body l δ' S'
      | .bk δ' S' => .nx δ' S'
      | x => x) Pn Pr
    cases hb : body δ1 S with
    | nx δ' S' => rw [hb] at h3; exact step δ' S' h3 hs' he'
    | rt d S' => rw [hb] at h3; exact h3
    | _ => rw [hb] at h3; exact h3.elim
theorem s_for {it : PIt} {ct : CT} {body : PSt} (h : Sat (it δ S) fun x S1 => ∃ I : Nat → Sl → SS → Prop, I 0 δ S1 ∧ (∀ j d δ S, x.1[j]? = some d → I j δ S → gOk x.2 S ∧ ∃ δ1, bindC ct d δ = some δ1 ∧ RSat (body δ1 S) (I (j + 1)) Pr) ∧ (∀ δ S, I x.1.length δ S → gOk x.2 S ∧ Pn δ S)) :
    RSat (sFor it ct body δ S) Pn Pr := by
  unfold sFor
  rw [rsat_to]
  refine h.mono fun x S1 ⟨I, h0, hs, he⟩ => ?_
  exact forL_inv I x.1 0 δ S1 h0 (by simpa using hs) (by simpa using he)
theorem s_forE {it : PIt} {ct : CT} {body : PSt} : RSat (sFor it ct body δ S) Pn Pr = Sat (it δ S) fun x S1 => RSat (forL x.2 ct body x.1 δ S1) Pn Pr := by unfold sFor; rw [rsat_to]
@[simp] theorem forL_nil {gd : Gd} {ct : CT} {body : PSt} : RSat (forL gd ct body [] δ S) Pn Pr = (gOk gd S ∧ Pn δ S) := by
  unfold forL
  split <;> simp_all
theorem s_while {t : PTs'} {b : PSt} (I : Nat → Sl → SS → Prop) (hs : ∀ m δ S, I m δ S → Sat (t δ S) fun c S1 => if c = true then RSat (b δ S1) (fun δ' S' => ∃ m', m' < m ∧ I m' δ' S') Pr else Pn δ S1) :
    ∀ (m : Nat) (δ : Sl) (S : SS), I m δ S → RSat (sWhile t b δ S) Pn Pr := by
  intro m
  induction m using Nat.strongRecOn with
  | ind m ih =>
    intro δ S h
    rw [sWhile_eq, rsat_to]
    refine (hs m δ S h).mono fun c S1 hc => ?_
    cases c with
    | false => exact hc
    | true =>
      simp only [if_true] at hc ⊢
      cases hb : b δ S1 with
      | nx δ' S' =>
        rw [hb] at hc
        obtain ⟨m', hm, hI⟩ := hc
        exact ih m' hm δ' S' hI
      | rt d S' => rw [hb] at hc; exact hc
      | _ => rw [hb] at hc; exact hc.elim
/-- a new list: acc by the turn -/
theorem lc_inv {gd : Gd} {ct : CT} {t : PTs'} {el : PEx} {k : Nat} {P : Unit → SS → Prop} (I : Nat → List D → SS → Prop) (hk : ∀ i acc S, I i acc S → S[k]? = some (.lst acc)) : ∀ (l : List D) (i : Nat) (acc : List D) (S : SS), I i acc S →
    (∀ j d acc S, l[j]? = some d → I (i + j) acc S → gOk gd S ∧ ∃ δ1, bindC ct d δ = some δ1 ∧ Sat (t δ1 S) fun c S1 => if c = true then Sat (el δ1 S1) fun y S2 => ∃ acc2, S2[k]? = some (.lst acc2) ∧ acc2.length < sizeLine ∧ I (i + j + 1) (acc2 ++ [y]) (S2.set k (.lst (acc2 ++ [y]))) else I (i + j + 1) acc S1) →
    (∀ acc S, I (i + l.length) acc S → gOk gd S ∧ P () S) → Sat (lcGo gd ct t el δ k l S) P
  | [], i, acc, S, h0, hs, he => by
    obtain ⟨h1, h2⟩ := he acc S h0
    unfold lcGo
    rw [if_pos h1]
    exact h2
  | d :: l, i, acc, S, h0, hs, he => by
    obtain ⟨h1, δ1, h2, h3⟩ := hs 0 d acc S rfl h0
    have step := lc_inv (gd := gd) (ct := ct) (t := t) (el := el) (P := P) I hk l (i + 1)
    have hs' : ∀ j d acc S, l[j]? = some d → I (i + 1 + j) acc S → gOk gd S ∧ ∃ δ1, bindC ct d δ = some δ1 ∧ Sat (t δ1 S) fun c S1 => if c = true then Sat (el δ1 S1) fun y S2 => ∃ acc2, S2[k]? = some (.lst acc2) ∧ acc2.length < sizeLine ∧ I (i + 1 + j + 1) (acc2 ++ [y]) (S2.set k (.lst (acc2 ++ [y]))) else I (i + 1 + j + 1) acc S1 := fun j d acc S hj hI => by
      have e : i + 1 + j = i + (j + 1) := by omega
      rw [e] at hI ⊢
      exact hs (j + 1) d acc S hj hI
    have e2 : i + 1 + l.length = i + (d :: l).length := by rw [List.length_cons]; omega
    have he' : ∀ acc S, I (i + 1 + l.length) acc S → gOk gd S ∧ P () S := fun acc S hI => he acc S (e2 ▸ hI)
    unfold lcGo
    rw [if_pos h1, h2]
    obtain ⟨c, S1, e1, h4⟩ := sat_ex h3
    show Sat ((t δ1 S).nox.bind fun c S1 => if c = true then (el δ1 S1).nox.bind fun y S2 => (match S2[k]? with
        | some (.lst acc) => if acc.length < sizeLine then lcGo gd ct t el δ k l (S2.set k (.lst (acc ++ [y]))) else .bad
        | _ => .bad) else lcGo gd ct t el δ k l S1) P
    rw [e1]
    simp only [R.nox_ok, sat_bind, sat_ok]
    cases c with
    | false => exact step acc S1 h4 hs' he'
    | true =>
      simp only [if_true] at h4 ⊢
      obtain ⟨y, S2, e2, acc2, h5, h6, h7⟩ := sat_ex h4
      rw [e2]
      simp only [R.nox_ok, sat_bind, sat_ok]
      rw [h5]
      simp only [h6, if_true]
      exact step _ _ h7 hs' he'
theorem e_lc {it : PIt} {ct : CT} {vs : List Nat} {t : PTs'} {el : PEx} (h : Sat (it δ S) fun x S1 => ∃ I : Nat → List D → SS → Prop, (∀ i acc S, I i acc S → S[S1.length]? = some (.lst acc)) ∧ I 0 [] (S1 ++ [.lst []]) ∧
      (∀ j d acc S, x.1[j]? = some d → I j acc S → gOk x.2 S ∧ ∃ δ1, bindC ct d (wipeD δ vs) = some δ1 ∧ Sat (t δ1 S) fun c S1' => if c = true then Sat (el δ1 S1') fun y S2 => ∃ acc2, S2[S1.length]? = some (.lst acc2) ∧ acc2.length < sizeLine ∧ I (j + 1) (acc2 ++ [y]) (S2.set S1.length (.lst (acc2 ++ [y]))) else I (j + 1) acc S1') ∧
      (∀ acc S, I x.1.length acc S → gOk x.2 S ∧ P (.ref S1.length) S)) : Sat (eLc it ct vs t el δ S) P := by
  unfold eLc
  rw [sat_bind]
  refine h.mono fun x S1 ⟨I, hk, h0, hs, he⟩ => ?_
  rw [sat_bind]
  exact lc_inv (P := fun _ S2 => Sat (.ok (.ref S1.length) S2) P) I hk x.1 0 [] _ h0 (by simpa using hs) (by simpa using he)
end
end DL
set_option Elab.async false
set_option linter.all false
set_option maxRecDepth 100000
set_option maxHeartbeats 1000000
/-! DRules: what the operators want of numbers, tuples, lists. -/
namespace DL
open PySem L2
section
variable {S : SS} {P : D → SS → Prop} {i j : Int}
@[simp] theorem so_add : SatO (binD .Add (.int i) (.int j) S) P = P (.int (i + j)) S := (rfl)
@[simp] theorem so_sub : SatO (binD .Sub (.int i) (.int j) S) P = P (.int (i - j)) S := (rfl)
@[simp] theorem so_mul : SatO (binD .Mult (.int i) (.int j) S) P = (MulOk i j ∧ P (.int (i * j)) S) := by
  show SatO (if MulOk i j then some (D.int (i * j), S) else none) P = _
  split
  · rename_i h; simp [h]
  · rename_i h; simp [h]
@[simp] theorem so_fdiv : SatO (binD .FloorDiv (.int i) (.int j) S) P = (DivOk j ∧ P (.int (i.fdiv j)) S) := by
  show SatO (if DivOk j then some (D.int (i.fdiv j), S) else none) P = _
  split
  · rename_i h; simp [h]
  · rename_i h; simp [h]
@[simp] theorem so_mod : SatO (binD .Mod (.int i) (.int j) S) P = (j ≠ 0 ∧ P (.int (i.fmod j)) S) := by
  show SatO (if j ≠ 0 then some (D.int (i.fmod j), S) else none) P = _
  split
  · rename_i h; simp [h]
  · rename_i h; simp at h; simp [h]
@[simp] theorem so_pow : SatO (binD .Pow (.int i) (.int j) S) P = ((0 ≤ j ∧ j ≤ 1000000 ∧ i.natAbs < 2 ^ 64) ∧ P (.int (i ^ j.toNat)) S) := by
  show SatO (if 0 ≤ j ∧ j ≤ 1000000 ∧ i.natAbs < 2 ^ 64 then some (D.int (i ^ j.toNat), S) else none) P = _
  split
  · rename_i h; simp only [sato_some, h, true_and, and_self]
  · rename_i h; simp only [sato_none, h, false_and]
@[simp] theorem so_lt : SatO (cmpD .Lt (.int i) (.int j) S) P = P (.bl (decide (i < j))) S := (rfl)
@[simp] theorem so_le : SatO (cmpD .LtE (.int i) (.int j) S) P = P (.bl (decide (i ≤ j))) S := (rfl)
@[simp] theorem so_gt : SatO (cmpD .Gt (.int i) (.int j) S) P = P (.bl (decide (j < i))) S := (rfl)
@[simp] theorem so_ge : SatO (cmpD .GtE (.int i) (.int j) S) P = P (.bl (decide (j ≤ i))) S := (rfl)
@[simp] theorem so_neg : SatO (negD (.int i) S) P = P (.int (-i)) S := (rfl)
@[simp] theorem so_notb {b : Bool} : SatO (notD (.bl b) S) P = P (.bl (!b)) S := (rfl)
@[simp] theorem so_abs : SatO (one absD [.int i] S) P = P (.int (if i < 0 then -i else i)) S := (rfl)
@[simp] theorem so_int : SatO (one intD [.int i] S) P = P (.int i) S := (rfl)
@[simp] theorem so_lenT {ds : List D} : SatO (one lenD [.tup ds] S) P = P (.int ds.length) S := (rfl)
theorem so_lenL {k : Nat} {ds : List D} (h : S[k]? = some (.lst ds)) : SatO (one lenD [.ref k] S) P = P (.int ds.length) S := by
  unfold one lenD seqD
  simp only [h, sato_some]
theorem so_tupL {k : Nat} {ds : List D} (h : S[k]? = some (.lst ds)) : SatO (one tupleD [.ref k] S) P = P (.tup ds) S := by
  unfold one tupleD seqD
  simp only [h, sato_some]
@[simp] theorem tru_int : truD (.int i) S = some (i != 0) := (rfl)
@[simp] theorem tru_bl {b : Bool} : truD (.bl b) S = some b := (rfl)
@[simp] theorem tru_tup {ds : List D} : truD (.tup ds) S = some (!ds.isEmpty) := (rfl)
@[simp] theorem tru_non : truD .non S = some false := (rfl)
theorem tru_lst {k : Nat} {ds : List D} (h : S[k]? = some (.lst ds)) : truD (.ref k) S = some (!ds.isEmpty) := by unfold truD; simp only [h]
@[simp] theorem boolOf_bl {b : Bool} : boolOf (.bl b) = some b := (rfl)
theorem atI_nat {α : Type} {xs : List α} {k : Nat} : atI xs (k : Int) = xs[k]? := by
  unfold atI ixN
  by_cases h : k < xs.length
  · simp [h]
  · simp [h]
theorem so_ixL {k : Nat} {ds : List D} (h : S[k]? = some (.lst ds)) {n : Nat} {d : D} (hn : ds[n]? = some d) (hi : i = (n : Int)) : SatO (ixD (.ref k) (.int i) S) P = P d S := by
  unfold ixD seqD
  subst hi
  simp only [h, atI_nat, hn]
  rfl
theorem so_ixT {ds : List D} {n : Nat} {d : D} (hn : ds[n]? = some d) (hi : i = (n : Int)) : SatO (ixD (.tup ds) (.int i) S) P = P d S := by
  unfold ixD seqD
  subst hi
  simp only [atI_nat, hn]
  rfl
@[simp] theorem so_ix0 {d : D} {ds : List D} : SatO (ixD (.tup (d :: ds)) (.int 0) S) P = P d S := so_ixT (n := 0) rfl rfl
@[simp] theorem so_ix1 {d e : D} {ds : List D} : SatO (ixD (.tup (d :: e :: ds)) (.int 1) S) P = P e S := so_ixT (n := 1) rfl rfl
@[simp] theorem so_ix2 {d e f : D} {ds : List D} : SatO (ixD (.tup (d :: e :: f :: ds)) (.int 2) S) P = P f S := so_ixT (n := 2) rfl rfl
theorem set_lst {k : Nat} {ds : List D} {n : Nat} {v : D} (h : S[k]? = some (.lst ds)) (hn : n < ds.length) : setD (.ref k) (.int (n : Int)) v S = some (S.set k (.lst (ds.set n v))) := by
  unfold setD
  simp only [h]
  have : ixN ds.length (n : Int) = some n := by
    unfold ixN
    simp [hn]
  rw [this]
  rfl
/-! isinstance -/
theorem so_isi {d : D} {T U : String} {b : Bool} (h : tyD d S = some U) (k : kitB U T = some b) : SatO (isiD [d, .ty T] S) P = P (.bl b) S := by
  unfold isiD
  simp only [h, k, sato_some]
@[simp] theorem isi_int_int : SatO (isiD [.int i, .ty "int"] S) P = P (.bl true) S := so_isi rfl kb_int_int
@[simp] theorem isi_int_bool : SatO (isiD [.int i, .ty "bool"] S) P = P (.bl false) S := so_isi rfl kb_int_bool
@[simp] theorem isi_int_tup : SatO (isiD [.int i, .ty "tuple"] S) P = P (.bl false) S := so_isi rfl kb_int_tup
@[simp] theorem isi_int_str : SatO (isiD [.int i, .ty "str"] S) P = P (.bl false) S := so_isi rfl kb_int_str
@[simp] theorem isi_bl_int {b : Bool} : SatO (isiD [.bl b, .ty "int"] S) P = P (.bl true) S := so_isi rfl kb_bool_int
@[simp] theorem isi_bl_bool {b : Bool} : SatO (isiD [.bl b, .ty "bool"] S) P = P (.bl true) S := so_isi rfl kb_bool_bool
@[simp] theorem isi_bl_tup {b : Bool} : SatO (isiD [.bl b, .ty "tuple"] S) P = P (.bl false) S := so_isi rfl kb_bool_tup
@[simp] theorem isi_bl_str {b : Bool} : SatO (isiD [.bl b, .ty "str"] S) P = P (.bl false) S := so_isi rfl kb_bool_str
@[simp] theorem isi_str_int {x : Str} : SatO (isiD [.str x, .ty "int"] S) P = P (.bl false) S := so_isi rfl kb_str_int
@[simp] theorem isi_str_bool {x : Str} : SatO (isiD [.str x, .ty "bool"] S) P = P (.bl false) S := so_isi rfl kb_str_bool
@[simp] theorem isi_str_tup {x : Str} : SatO (isiD [.str x, .ty "tuple"] S) P = P (.bl false) S := so_isi rfl kb_str_tup
@[simp] theorem isi_str_str {x : Str} : SatO (isiD [.str x, .ty "str"] S) P = P (.bl true) S := so_isi rfl kb_str_str
@[simp] theorem isi_non_int : SatO (isiD [.non, .ty "int"] S) P = P (.bl false) S := so_isi rfl kb_non_int
@[simp] theorem isi_non_bool : SatO (isiD [.non, .ty "bool"] S) P = P (.bl false) S := so_isi rfl kb_non_bool
@[simp] theorem isi_non_tup : SatO (isiD [.non, .ty "tuple"] S) P = P (.bl false) S := so_isi rfl kb_non_tup
@[simp] theorem isi_non_str : SatO (isiD [.non, .ty "str"] S) P = P (.bl false) S := so_isi rfl kb_non_str
@[simp] theorem isi_tup_int {ds : List D} : SatO (isiD [.tup ds, .ty "int"] S) P = P (.bl false) S := so_isi rfl kb_tup_int
@[simp] theorem isi_tup_bool {ds : List D} : SatO (isiD [.tup ds, .ty "bool"] S) P = P (.bl false) S := so_isi rfl kb_tup_bool
@[simp] theorem isi_tup_tup {ds : List D} : SatO (isiD [.tup ds, .ty "tuple"] S) P = P (.bl true) S := so_isi rfl kb_tup_tup
@[simp] theorem isi_tup_str {ds : List D} : SatO (isiD [.tup ds, .ty "str"] S) P = P (.bl false) S := so_isi rfl kb_tup_str
/-! sizes -/
theorem log2_le {n a : Nat} (h : n < 2 ^ a) : n.log2 ≤ a := by
  by_cases h0 : n = 0
  · subst h0; simp
  · exact Nat.le_of_lt ((Nat.log2_lt h0).mpr h)
theorem mulOk {a b : Nat} (hi : i.natAbs < 2 ^ a) (hj : j.natAbs < 2 ^ b) (h : a + b < 1000000) : MulOk i j := by
  unfold MulOk
  have := log2_le hi
  have := log2_le hj
  omega
theorem mulOk64 (hi : i.natAbs < 2 ^ 64) (hj : j.natAbs < 2 ^ 64) : MulOk i j := mulOk hi hj (by decide)
theorem divOk {a : Nat} (h0 : j ≠ 0) (hj : j.natAbs < 2 ^ a) (h : a < 9000) : DivOk j := ⟨h0, Nat.lt_of_le_of_lt (log2_le hj) h⟩
theorem divOk64 (h0 : j ≠ 0) (hj : j.natAbs < 2 ^ 64) : DivOk j := divOk h0 hj (by decide)
theorem le_size {n : Nat} (h : n ≤ 16777216) : n ≤ sizeLine := by rw [sizeLine_eq]; exact h
theorem lt_size {n : Nat} (h : n < 16777216) : n < sizeLine := by rw [sizeLine_eq]; exact h
end
end DL
set_option Elab.async false
set_option linter.all false
set_option maxRecDepth 100000
set_option maxHeartbeats 2000000
/-! DDraw: the numbers that a law draws. -/
namespace DL
open PySem L2
noncomputable def bMore : PSt := (sSeq (sAsg (eOp2 (binD .Mod) (eCB (one intD) (aCons (eOp2 (binD .Add) (eOp2 (binD .Add) (eOp2 (binD .Mult) (eVar 1) (eC (.int 48271))) (eCB (one lenD) (aCons (eVar 0) aNil))) (eC (.int 11))) aNil)) (eC (.int 2147483629))) (.one 2)) (sSeq (sFor (iOn rng1D (aCons (eC (.int 3)) aNil)) (.one 3) (sSeq (sIf (tTru (eVar 0)) (sSeq (sAsg (eOp2 (binD .Add) (eVar 2) (eOp2 ixD (eVar 0) (eOp2 (binD .Mod) (eCB (one intD) (aCons (eOp2 (binD .Add) (eOp2 (binD .Mult) (eVar 1) (eOp2 (binD .Add) (eVar 3) (eC (.int 5)))) (eVar 3)) aNil)) (eCB (one lenD) (aCons (eVar 0) aNil))))) (.one 2)) sNil) sNil) (sSeq (sAsg (eOp2 (binD .Mod) (eCB (one intD) (aCons (eOp2 (binD .Add) (eOp2 (binD .Add) (eOp2 (binD .Mult) (eVar 2) (eC (.int 16807))) (eOp2 (binD .Mult) (eC (.int 69621)) (eVar 3))) (eC (.int 5))) aNil)) (eC (.int 2147483629))) (.one 2)) sNil))) (sSeq (sRet (eOp2 (binD .FloorDiv) (eVar 2) (eC (.int 1009)))) sNil)))
noncomputable def bTake (m : Fn) : PSt := (sSeq (sAsg (eOp2 ixD (eVar 1) (eC (.int 0))) (.one 3)) (sSeq (sSet (eOp2 (binD .Add) (eVar 3) (eC (.int 1))) (eVar 1) (eC (.int 0))) (sSeq (sRet (eOp2 (binD .Mod) (eCB (one intD) (aCons (eIf (tVal (eOp2 (cmpD .Lt) (eVar 3) (eCB (one lenD) (aCons (eVar 0) aNil)))) (eOp2 ixD (eVar 0) (eVar 3)) (eCall m 2 (aCons (eVar 0) (aCons (eVar 3) aNil)))) aNil)) (eVar 2))) sNil)))
noncomputable def bOne (t : Fn) : PSt := (sSeq (sRet (eOp2 ixD (eVar 0) (eCall t 3 (aCons (eVar 1) (aCons (eVar 2) (aCons (eCB (one lenD) (aCons (eVar 0) aNil)) aNil)))))) sNil)

/-- the draws stand at kd, the place at ka: not beyond n -/
structure DA (S : SS) (kd ka n : Nat) : Prop where
  ne : kd ≠ ka
  ex : ∃ (ds : List Int) (p : Nat), S[kd]? = some (.lst (ds.map .int)) ∧ S[ka]? = some (.lst [.int p]) ∧ p ≤ n ∧ (∀ x ∈ ds, 0 ≤ x ∧ x < 2147483647) ∧ ds.length ≤ 4000
/-- the store has grown; what stood stands, but the place -/
structure Up (ka : Nat) (S S' : SS) : Prop where
  len : S.length ≤ S'.length
  get : ∀ k o, k ≠ ka → S[k]? = some o → S'[k]? = some o
theorem Up.refl {ka : Nat} {S : SS} : Up ka S S := ⟨Nat.le_refl _, fun _ _ _ h => h⟩
theorem Up.trans {ka : Nat} {S S' S'' : SS} (a : Up ka S S') (b : Up ka S' S'') : Up ka S S'' := ⟨Nat.le_trans a.len b.len, fun k o h e => b.get k o h (a.get k o h e)⟩
theorem Up.app {ka : Nat} {S : SS} {l : List MO} : Up ka S (S ++ l) := ⟨by simp, fun k o _ e => by
  rw [List.getElem?_append_left]
  · exact e
  · exact (List.getElem?_eq_some_iff.mp e).1⟩
theorem get_app {S : SS} {l : List MO} {k : Nat} {o : MO} (e : S[k]? = some o) : (S ++ l)[k]? = some o := by
  rw [List.getElem?_append_left]
  · exact e
  · exact (List.getElem?_eq_some_iff.mp e).1
theorem get_len {S : SS} {k : Nat} {o : MO} (e : S[k]? = some o) : k < S.length := (List.getElem?_eq_some_iff.mp e).1
theorem get_last {S : SS} {o : MO} : (S ++ [o])[S.length]? = some o := by simp
theorem DA.app {S : SS} {kd ka n : Nat} {l : List MO} (h : DA S kd ka n) : DA (S ++ l) kd ka n := by
  obtain ⟨ne, ds, p, h1, h2, h3⟩ := h
  exact ⟨ne, ds, p, get_app h1, get_app h2, h3⟩
theorem DA.up {S : SS} {kd ka n m : Nat} (h : DA S kd ka n) (hm : n ≤ m) : DA S kd ka m := by
  obtain ⟨ne, ds, p, h1, h2, h3, h4⟩ := h
  exact ⟨ne, ds, p, h1, h2, Nat.le_trans h3 hm, h4⟩
theorem fmod_pos {i j : Int} (h : 0 < j) : i.fmod j = i % j := Int.fmod_eq_emod_of_nonneg i (Int.le_of_lt h)
theorem fdiv_pos {i j : Int} (h : 0 < j) : i.fdiv j = i / j := Int.fdiv_eq_ediv_of_nonneg i (Int.le_of_lt h)
theorem rng3 (S : SS) : rng1D [.int 3] S = some ([.int 0, .int 1, .int 2], []) := by
  show (if small 3 then some (rngItems 0 (3 : Int).toNat 1, []) else none) = _
  rw [if_pos (by decide)]
  rfl
section
variable {S : SS} {P : D → SS → Prop}
theorem more_sat {kd : Nat} {ds : List Int} {p : Nat} (h : S[kd]? = some (.lst (ds.map .int))) (hb : ∀ x ∈ ds, 0 ≤ x ∧ x < 2147483647) (hl : ds.length ≤ 4000) (hp : p ≤ 1000000000000) (k : ∀ r : Int, 0 ≤ r → P (.int r) S) :
    Sat (fnB bMore 4 [.ref kd, .int p] S) P := by
  refine sat_fn ?_
  unfold bMore
  simp [startD, so_lenL h, it_on, rng3]
  refine ⟨mulOk64 (by omega) (by omega), ?_⟩
  refine s_for ?_
  simp [it_on, rng3]
  refine ⟨fun _ δ S' => S' = S ∧ ∃ (m : Int) (o : Option D), δ = [some (.ref kd), some (.int p), some (.int m), o] ∧ 0 ≤ m ∧ m < 2147483629, ⟨rfl, _, _, rfl, ?_, ?_⟩, ?_, ?_⟩
  · rw [fmod_pos (by omega)]; omega
  · rw [fmod_pos (by omega)]; omega
  · rintro j d δ S' hj ⟨rfl, m, o, rfl, h0, h1⟩
    obtain ⟨q, rfl, hq⟩ : ∃ q : Nat, d = .int (q : Int) ∧ q ≤ 2 := by
      match j, hj with
      | 0, hj => exact ⟨0, by simpa using hj.symm, by omega⟩
      | 1, hj => exact ⟨1, by simpa using hj.symm, by omega⟩
      | 2, hj => exact ⟨2, by simpa using hj.symm, by omega⟩
      | n + 3, hj => simp at hj
    refine ⟨trivial, _, rfl, ?_⟩
    simp [tru_lst h, so_lenL h]
    have fin : ∀ m : Int, 0 ≤ m → m < 2147483629 + 2147483647 → MulOk m 16807 ∧ MulOk 69621 (q : Int) ∧ 0 ≤ (m * 16807 + 69621 * (q : Int) + 5).fmod 2147483629 ∧ (m * 16807 + 69621 * (q : Int) + 5).fmod 2147483629 < 2147483629 := fun m a b =>
      ⟨mulOk64 (by omega) (by omega), mulOk64 (by omega) (by omega), by rw [fmod_pos (by omega)]; omega, by rw [fmod_pos (by omega)]; omega⟩
    by_cases he : ds = []
    · simp only [he, if_true, not_true, if_false]
      obtain ⟨f1, f2, f3, f4⟩ := fin m h0 (by omega)
      first
        | exact ⟨f1, f2, f3, f4⟩
        | simp [f1, f2, f3, f4]
    · have hpos : 0 < ds.length := List.length_pos_iff.mpr he
      simp only [he, if_false, not_false_eq_true, if_true]
      have hne : (ds.length : Int) ≠ 0 := by omega
      refine ⟨mulOk64 (by omega) (by omega), trivial, ?_⟩
      have hlt := Int.emod_lt_of_pos ((p : Int) * ((q : Int) + 5) + q) (show (0 : Int) < ds.length by omega)
      have hge := Int.emod_nonneg ((p : Int) * ((q : Int) + 5) + q) hne
      rw [fmod_pos (by omega)]
      obtain ⟨n, hn⟩ := Int.eq_ofNat_of_zero_le hge
      rw [hn] at hlt ⊢
      have hn2 : n < ds.length := by omega
      have hx := hb ds[n] (List.getElem_mem hn2)
      rw [so_ixL h (n := n) (d := .int ds[n]) (by rw [List.getElem?_map, List.getElem?_eq_getElem hn2]; rfl) rfl]
      obtain ⟨f1, f2, f3, f4⟩ := fin (m + ds[n]) (by omega) (by omega)
      simp [f1, f2, f3, f4]
  · rintro δ S' ⟨rfl, m, o, rfl, h0, h1⟩
    refine ⟨trivial, ?_⟩
    simp
    refine ⟨divOk64 (by omega) (by omega), k _ ?_⟩
    rw [fdiv_pos (by omega)]
    omega
/-- the next number below many -/
theorem take_sat {m : Fn} {kd ka n : Nat} {many : Int} (hm : ∀ (S : SS) (ds : List Int) (p : Nat) (P : D → SS → Prop), S[kd]? = some (.lst (ds.map .int)) → (∀ x ∈ ds, 0 ≤ x ∧ x < 2147483647) → ds.length ≤ 4000 → p ≤ 1000000000000 → (∀ r : Int, 0 ≤ r → P (.int r) S) → Sat (m [.ref kd, .int p] S) P)
    (h : DA S kd ka n) (hn : n ≤ 1000000000000) (h0 : 0 < many) (k : ∀ (r : Int) (S' : SS), 0 ≤ r → r < many → Up ka S S' → S'.length = S.length → DA S' kd ka (n + 1) → P (.int r) S') : Sat (fnB (bTake m) 4 [.ref kd, .ref ka, .int many] S) P := by
  obtain ⟨ne, ds, p, h1, h2, h3, h4, h5⟩ := h
  refine sat_fn ?_
  unfold bTake
  have hs : setD (.ref ka) (.int 0) (.int ((p : Int) + 1)) S = some (S.set ka (.lst [.int ((p : Int) + 1)])) := set_lst (n := 0) h2 (by simp)
  have ix0 : ∀ P, SatO (ixD (.ref ka) (.int 0) S) P = P (.int (p : Int)) S := fun P => so_ixL h2 (n := 0) rfl rfl
  simp only [s_seq, s_asg1, e_op2, startD, e_var, e_c, List.map_cons, List.map_nil, List.length_cons, List.length_nil, List.cons_append, List.nil_append, List.getElem?_cons_succ, List.getElem?_cons_zero, ix0]
  simp only [s_set, e_op2, e_var, e_c, so_add, List.set_cons_succ, List.set_cons_zero, List.replicate, Nat.add_sub_cancel_left, List.getElem?_cons_succ, List.getElem?_cons_zero, hs]
  have h1' : (S.set ka (.lst [.int ((p : Int) + 1)]))[kd]? = some (.lst (ds.map .int)) := by rw [List.getElem?_set_ne (Ne.symm ne)]; exact h1
  have h2' : (S.set ka (.lst [.int ((p : Int) + 1)]))[ka]? = some (.lst [.int ((p + 1 : Nat) : Int)]) := by
    rw [List.getElem?_set_self (get_len h2)]
    rfl
  have up : Up ka S (S.set ka (.lst [.int ((p : Int) + 1)])) := ⟨by simp, fun j o hj e => by rw [List.getElem?_set_ne (Ne.symm hj)]; exact e⟩
  have da : DA (S.set ka (.lst [.int ((p : Int) + 1)])) kd ka (n + 1) := ⟨ne, ds, p + 1, h1', h2', by omega, h4, h5⟩
  simp only [s_ret, e_op2, e_cb, a_cons, a_nil, e_if, t_val, e_var, s_nil, List.getElem?_cons_succ, List.getElem?_cons_zero, so_lenL h1', so_lt, boolOf_bl, List.length_map]
  have fin : ∀ r : Int, 0 ≤ r → SatO (one intD [.int r] (S.set ka (.lst [.int ((p : Int) + 1)]))) fun x S1 => SatO (binD .Mod x (.int many) S1) P := fun r hr => by
    simp only [so_int, so_mod]
    exact ⟨by omega, k _ _ (by rw [fmod_pos h0]; exact Int.emod_nonneg _ (by omega)) (by rw [fmod_pos h0]; exact Int.emod_lt_of_pos _ h0) up (by simp) da⟩
  by_cases hp : p < ds.length
  · have hx := h4 ds[p] (List.getElem_mem hp)
    rw [if_pos (by simp; omega)]
    rw [so_ixL h1' (n := p) (d := .int ds[p]) (by rw [List.getElem?_map, List.getElem?_eq_getElem hp]; rfl) rfl]
    exact fin _ hx.1
  · rw [if_neg (by simp; omega)]
    simp only [e_call, a_cons, a_nil, e_var, List.getElem?_cons_succ, List.getElem?_cons_zero, List.length_cons, List.length_nil, true_and]
    exact hm _ ds p _ h1' h4 h5 (by omega) fun r hr => fin r hr
/-- one of the rows -/
theorem one_sat {t : Fn} {kd ka kr n : Nat} {ds : List D} (ht : ∀ (S : SS) (many : Int) (n : Nat) (P : D → SS → Prop), DA S kd ka n → n ≤ 1000000000000 → 0 < many → (∀ (r : Int) (S' : SS), 0 ≤ r → r < many → Up ka S S' → S'.length = S.length → DA S' kd ka (n + 1) → P (.int r) S') → Sat (t [.ref kd, .ref ka, .int many] S) P)
    (h : DA S kd ka n) (hn : n ≤ 1000000000000) (hr : S[kr]? = some (.lst ds)) (hk : kr ≠ ka) (hd : ds ≠ []) (k : ∀ (d : D) (S' : SS), d ∈ ds → Up ka S S' → S'.length = S.length → DA S' kd ka (n + 1) → P d S') : Sat (fnB (bOne t) 3 [.ref kr, .ref kd, .ref ka] S) P := by
  refine sat_fn ?_
  unfold bOne
  simp only [s_seq, s_ret, e_op2, startD, e_var, e_call, e_cb, a_cons, a_nil, List.map_cons, List.map_nil, List.length_cons, List.length_nil, List.cons_append, List.nil_append, List.getElem?_cons_succ, List.getElem?_cons_zero, so_lenL hr, true_and]
  have hpos : 0 < ds.length := List.length_pos_iff.mpr hd
  refine ht S _ n _ h hn (by omega) fun r S' h0 h1 up hl da => ?_
  obtain ⟨q, rfl⟩ := Int.eq_ofNat_of_zero_le h0
  have hq : q < ds.length := by omega
  have hr' := up.get _ _ hk hr
  rw [so_ixL hr' (n := q) (d := ds[q]) (List.getElem?_eq_getElem hq) rfl]
  exact k _ _ (List.getElem_mem hq) up hl da
end
end DL
set_option Elab.async false
set_option linter.all false
set_option maxRecDepth 100000
set_option maxHeartbeats 2000000
/-! DDraws: the draws of a script. -/
namespace DL
open PySem L2
noncomputable def bDraws : PSt := (sSeq (sAsg (eLst aNil) (.one 1)) (sSeq (sFor (iVal (eSl (eVar 0) oNone (oSome (eC (.int 63))))) (.one 2) (sSeq (sAsg (eCB (one absD) (aCons (eVar 2) aNil)) (.one 3)) (sSeq (sIf (tVal (eOp2 (cmpD .GtE) (eVar 3) (eOp2 (binD .Pow) (eC (.int 10)) (eC (.int 18))))) (sSeq (sFor (iOn rng1D (aCons (eC (.int 60)) aNil)) (.one 4) (sSeq (sIf (tVal (eOp2 (cmpD .Gt) (eVar 3) (eC (.int 0)))) (sSeq (sDrop (eMt miApp (eVar 1) (aCons (eOp2 (binD .Mod) (eCB (one intD) (aCons (eVar 3) aNil)) (eC (.int 1009))) aNil))) (sSeq (sAsg (eOp2 (binD .FloorDiv) (eVar 3) (eC (.int 1009))) (.one 3)) sNil)) sNil) sNil)) sNil) (sSeq (sAsg (eOp2 (binD .Mod) (eCB (one intD) (aCons (eOp2 (binD .Add) (eOp2 (binD .Mult) (eVar 3) (eC (.int 48271))) (eC (.int 11))) aNil)) (eC (.int 2147483647))) (.one 5)) (sSeq (sFor (iOn rng1D (aCons (eC (.int 12)) aNil)) (.one 4) (sSeq (sAsg (eOp2 (binD .Mod) (eCB (one intD) (aCons (eOp2 (binD .Add) (eOp2 (binD .Add) (eOp2 (binD .Mult) (eVar 5) (eC (.int 16807))) (eOp2 (binD .Mult) (eC (.int 69621)) (eVar 4))) (eC (.int 5))) aNil)) (eC (.int 2147483629))) (.one 5)) (sSeq (sDrop (eMt miApp (eVar 1) (aCons (eOp2 (binD .FloorDiv) (eVar 5) (eC (.int 1009))) aNil))) sNil))) sNil))) sNil))) (sSeq (sRet (eVar 1)) sNil)))
theorem rng_get {lo c : Int} {n j : Nat} {d : D} (h : (rngItems lo n c)[j]? = some d) : j < n ∧ d = .int (lo + (j : Int) * c) := by
  have h : ((List.range n).map fun i => D.int (lo + (i : Nat) * c))[j]? = some d := h
  rw [List.getElem?_map, Option.map_eq_some_iff] at h
  obtain ⟨k, e, rfl⟩ := h
  obtain ⟨h1, h2⟩ := List.getElem?_eq_some_iff.mp e
  simp at h1 h2
  subst h2
  exact ⟨h1, rfl⟩
theorem rng_len {lo c : Int} {n : Nat} : (rngItems lo n c).length = n := by simp [rngItems]
theorem rng1 {j : Int} {S : SS} (h : small j) : rng1D [.int j] S = some (rngItems 0 j.toNat 1, []) := by
  show (if small j then some (rngItems 0 j.toNat 1, []) else none) = _
  rw [if_pos h]
theorem miApp_g : miApp.g = appD := rfl
theorem app_lst {S : SS} {k : Nat} {ds : List D} {x : D} (h : S[k]? = some (.lst ds)) (hl : ds.length < sizeLine) : appD (.ref k) [x] S = some (.non, S.set k (.lst (ds ++ [x]))) := by
  unfold appD
  simp only [h, hl, if_true]
theorem isTy_lst {S : SS} {k : Nat} {ds : List D} (h : S[k]? = some (.lst ds)) : isTy "list" (.ref k) S = true := by
  unfold isTy
  simp only [h]
  rfl
theorem draws_sat {ns : List Int} {P : D → SS → Prop} (k : ∀ (ds : List Int) (l : List D), (∀ x ∈ ds, 0 ≤ x ∧ x < 2147483647) → ds.length ≤ 4000 → P (.ref 0) [.lst (ds.map .int), .lst l]) : Sat (fnB bDraws 6 [.rls (ns.map .int)] []) P := by
  refine sat_fn ?_
  unfold bDraws
  simp only [s_seq, s_asg1, e_lst, a_nil, startD, List.map_cons, List.map_nil, List.length_cons, List.length_nil, List.cons_append, List.nil_append, List.set_cons_succ, List.set_cons_zero, List.replicate]
  refine ⟨le_size (by decide), ?_⟩
  refine s_for ?_
  simp only [it_val, e_sl, e_var, o_none, o_some, e_c, intOf, List.getElem?_cons_succ, List.getElem?_cons_zero]
  -- the slice
  have hsl : ∀ P, SatO (slD none (some 63) (.rls (ns.map .int)) [.lst []]) P = P (.ref 1) [.lst [], .lst (cutD (ns.map .int) none (some 63))] := fun P => rfl
  rw [hsl]
  generalize hit : cutD (ns.map D.int) none (some 63) = items
  have hitl : items.length ≤ 63 := by
    subst hit
    unfold cutD
    rw [List.length_take]
    have : HT.sIx (ns.map D.int).length (ns.map D.int).length (some 63) ≤ 63 := by
      unfold HT.sIx
      simp only []
      rw [if_neg (by decide)]
      exact Nat.min_le_left _ _
    omega
  have hiti : ∀ d ∈ items, ∃ i : Int, d = .int i := fun d hd => by
    subst hit
    have := List.mem_of_mem_drop (List.mem_of_mem_take hd)
    rw [List.mem_map] at this
    obtain ⟨i, _, rfl⟩ := this
    exact ⟨i, rfl⟩
  have hiter : iterD (.ref 1) [.lst [], .lst items] = some (items, [(1, items)]) := rfl
  rw [hiter]
  refine ⟨fun j δ S => ∃ (ds : List Int) (o2 o3 o4 o5 : Option D), δ = [some (.rls (ns.map .int)), some (.ref 0), o2, o3, o4, o5] ∧ S = [.lst (ds.map .int), .lst items] ∧ (∀ x ∈ ds, 0 ≤ x ∧ x < 2147483647) ∧ ds.length ≤ j * 60, ⟨[], _, _, _, _, rfl, rfl, by simp, by simp⟩, ?_, ?_⟩
  · rintro j d δ S hj ⟨ds, o2, o3, o4, o5, rfl, rfl, hb, hl⟩
    have hj63 : j < 63 := Nat.lt_of_lt_of_le (List.getElem?_eq_some_iff.mp hj).1 hitl
    obtain ⟨c, rfl⟩ := hiti d (List.mem_of_getElem? hj)
    refine ⟨⟨rfl, trivial⟩, _, rfl, ?_⟩
    simp only [s_seq, s_asg1, e_cb, a_cons, a_nil, e_var, e_c, so_abs, s_if, t_val, e_op2, so_pow, so_ge, boolOf_bl, s_nil, List.getElem?_cons_succ, List.getElem?_cons_zero, List.set_cons_succ, List.set_cons_zero]
    refine ⟨by decide, ?_⟩
    generalize hr : (if c < 0 then -c else c) = rest
    have hr0 : 0 ≤ rest := by rw [← hr]; split <;> omega
    by_cases hbig : (10 : Int) ^ (18 : Int).toNat ≤ rest
    · rw [if_pos (by simpa using hbig)]
      refine s_for ?_
      simp only [it_on, a_cons, a_nil, e_c]
      rw [rng1 (by decide)]
      refine ⟨fun q δ S => ∃ (ds2 : List Int) (r : Int) (o4 : Option D), δ = [some (.rls (ns.map .int)), some (.ref 0), some (.int c), some (.int r), o4, o5] ∧ S = [.lst (ds2.map .int), .lst items] ∧ (∀ x ∈ ds2, 0 ≤ x ∧ x < 2147483647) ∧ ds2.length ≤ j * 60 + q ∧ 0 ≤ r, ⟨ds, rest, _, rfl, rfl, hb, by omega, hr0⟩, ?_, ?_⟩
      · rintro q d δ S hq ⟨ds2, r, o4', rfl, rfl, hb2, hl2, h0⟩
        obtain ⟨hq1, rfl⟩ := rng_get hq
        have hq1 : q < 60 := hq1
        refine ⟨trivial, _, rfl, ?_⟩
        simp only [s_seq, s_if, t_val, e_op2, e_var, e_c, so_gt, boolOf_bl, s_nil, s_drop, e_mt, miApp_g, a_cons, a_nil, e_cb, so_int, so_mod, List.getElem?_cons_succ, List.getElem?_cons_zero, List.set_cons_succ, List.set_cons_zero]
        have hS : ([.lst (ds2.map .int), .lst items] : SS)[0]? = some (.lst (ds2.map .int)) := rfl
        by_cases hp : 0 < r
        · rw [if_pos (by simpa using hp)]
          refine ⟨isTy_lst hS, by decide, ?_⟩
          rw [app_lst hS (by rw [List.length_map, sizeLine_eq]; omega)]
          simp only [sato_some, s_asg1, e_op2, e_var, e_c, so_fdiv, s_nil, List.getElem?_cons_succ, List.getElem?_cons_zero, List.set_cons_succ, List.set_cons_zero]
          refine ⟨divOk64 (by decide) (by decide), ds2 ++ [r.fmod 1009], r.fdiv 1009, _, rfl, by simp, ?_, by simp; omega, ?_⟩
          · intro x hx
            rw [List.mem_append] at hx
            rcases hx with hx | hx
            · exact hb2 x hx
            · simp at hx
              subst hx
              rw [fmod_pos (by omega)]
              omega
          · rw [fdiv_pos (by omega)]
            omega
        · rw [if_neg (by simpa using hp)]
          exact ⟨ds2, r, _, rfl, rfl, hb2, by omega, h0⟩
      · rintro δ S ⟨ds2, r, o4', rfl, rfl, hb2, hl2, h0⟩
        refine ⟨trivial, ds2, _, _, _, _, rfl, rfl, hb2, ?_⟩
        have : (rngItems 0 (60 : Int).toNat 1).length = 60 := rng_len
        rw [this] at hl2
        omega
    · rw [if_neg (by simpa using hbig)]
      have hrb : rest < 10 ^ 18 := by
        have : ¬ (10 : Int) ^ 18 ≤ rest := hbig
        omega
      simp only [s_seq, s_asg1, e_op2, e_cb, a_cons, a_nil, e_var, e_c, so_mul, so_add, so_int, so_mod, List.getElem?_cons_succ, List.getElem?_cons_zero, List.set_cons_succ, List.set_cons_zero]
      refine ⟨mulOk64 (by omega) (by omega), by decide, ?_⟩
      refine s_for ?_
      simp only [it_on, a_cons, a_nil, e_c]
      rw [rng1 (by decide)]
      refine ⟨fun q δ S => ∃ (ds2 : List Int) (m : Int) (o4 : Option D), δ = [some (.rls (ns.map .int)), some (.ref 0), some (.int c), some (.int rest), o4, some (.int m)] ∧ S = [.lst (ds2.map .int), .lst items] ∧ (∀ x ∈ ds2, 0 ≤ x ∧ x < 2147483647) ∧ ds2.length ≤ j * 60 + q ∧ 0 ≤ m ∧ m < 2147483647, ⟨ds, _, _, rfl, rfl, hb, by omega, ?_, ?_⟩, ?_, ?_⟩
      · rw [fmod_pos (by omega)]; omega
      · rw [fmod_pos (by omega)]; omega
      · rintro q d δ S hq ⟨ds2, m, o4', rfl, rfl, hb2, hl2, h0, h1⟩
        obtain ⟨hq1, rfl⟩ := rng_get hq
        have hq1 : q < 12 := hq1
        refine ⟨trivial, _, rfl, ?_⟩
        have hS : ([.lst (ds2.map .int), .lst items] : SS)[0]? = some (.lst (ds2.map .int)) := rfl
        simp only [s_seq, s_asg1, e_op2, e_cb, a_cons, a_nil, e_var, e_c, so_mul, so_add, so_int, so_mod, so_fdiv, s_drop, e_mt, miApp_g, s_nil, List.getElem?_cons_succ, List.getElem?_cons_zero, List.set_cons_succ, List.set_cons_zero]
        refine ⟨mulOk64 (by omega) (by omega), mulOk64 (by omega) (by omega), by decide, isTy_lst hS, divOk64 (by decide) (by decide), ?_⟩
        generalize hmm : ((m * 16807 + 69621 * (0 + (q : Int) * 1) + 5).fmod 2147483629) = m2
        have hm2 : 0 ≤ m2 ∧ m2 < 2147483629 := by
          rw [← hmm, fmod_pos (by omega)]
          omega
        rw [app_lst hS (by rw [List.length_map, sizeLine_eq]; omega)]
        refine ⟨ds2 ++ [m2.fdiv 1009], m2, _, rfl, by simp, ?_, by simp; omega, hm2.1, by omega⟩
        intro x hx
        rw [List.mem_append] at hx
        rcases hx with hx | hx
        · exact hb2 x hx
        · simp at hx
          subst hx
          rw [fdiv_pos (by omega)]
          omega
      · rintro δ S ⟨ds2, m, o4', rfl, rfl, hb2, hl2, h0, h1⟩
        refine ⟨trivial, ?_⟩
        have : (rngItems 0 (12 : Int).toNat 1).length = 12 := rng_len
        rw [this] at hl2
        exact ⟨ds2, _, _, _, _, rfl, rfl, hb2, by omega⟩
  · rintro δ S ⟨ds, o2, o3, o4, o5, rfl, rfl, hb, hl⟩
    refine ⟨⟨rfl, trivial⟩, ?_⟩
    simp only [s_seq, s_ret, e_var, s_nil, List.getElem?_cons_succ, List.getElem?_cons_zero]
    refine k ds items hb ?_
    have hl : ds.length ≤ items.length * 60 := hl
    omega
end DL
set_option Elab.async false
set_option linter.all false
set_option maxRecDepth 100000
set_option maxHeartbeats 2000000
/-! DPlain: repr, ==, greatest common divisors. -/
namespace DL
open PySem L2
section
variable {S : SS} {P : D → SS → Prop}
/-- a text with at most n digits and a sign -/
theorem int_len {a : Int} {k : Nat} (hk : 0 < k) (h : a.natAbs < 10 ^ k) : (Str.ofString (toString a)).length ≤ k + 1 := by
  rw [ofString_length]
  have key : ∀ n : Nat, n < 10 ^ k → (Nat.repr n).length ≤ k := fun n hn => (Nat.length_repr_le_iff hk).mpr hn
  cases a with
  | ofNat n =>
    have := key n h
    show (Nat.repr n).length ≤ _
    omega
  | negSucc n =>
    have := key (n + 1) h
    show ("-" ++ Nat.repr (n + 1)).length ≤ _
    rw [String.length_append]
    have : ("-" : String).length = 1 := rfl
    omega
theorem log2_1920 {a : Int} (h : a.natAbs < 2 ^ 1900) : a.natAbs.log2 < 1920 := Nat.lt_of_le_of_lt (log2_le h) (by decide)
theorem repr_any {d : D} {p : PyData} (h : py S d = some p) (ok : reprOk p) : SatO (one reprD [d] S) P = P (.str p.shown) S := by
  unfold one reprD
  simp only [h]
  rw [if_pos ok]
  rfl
/-- tuples of two numbers -/
theorem ok_two {n m : Int} (hn : n.natAbs < 2 ^ 1900) (hm : m.natAbs < 2 ^ 1900) : reprOk (.tuple [.int n, .int m]) := by
  refine ⟨?_, rfl, Nat.le_of_ble_eq_true rfl, ?_⟩
  · show (decide (n.natAbs.log2 < 1920) && (decide (m.natAbs.log2 < 1920) && true)) = true
    rw [decide_eq_true (log2_1920 hn), decide_eq_true (log2_1920 hm)]
    rfl
  · have e : (2 : Nat) ^ 1900 ≤ 10 ^ 600 := by decide +kernel
    have h1 := int_len (a := n) (k := 600) (by decide) (Nat.lt_of_lt_of_le hn e)
    have h2 := int_len (a := m) (k := 600) (by decide) (Nat.lt_of_lt_of_le hm e)
    show (("(" : Str) ++ (Str.ofString (toString n) ++ ", " ++ Str.ofString (toString m)) ++ (")" : Str)).length ≤ sizeLine
    rw [strLen_append, strLen_append, strLen_append, strLen_append]
    have a1 : ("(" : Str).length = 1 := rfl
    have a2 : (")" : Str).length = 1 := rfl
    have a3 : (", " : Str).length = 2 := rfl
    rw [sizeLine_eq]
    omega
theorem repr_two {n m : Int} (hn : n.natAbs < 2 ^ 1900) (hm : m.natAbs < 2 ^ 1900) : SatO (one reprD [.tup [.int n, .int m]] S) P = P (.str (PyData.tuple [.int n, .int m]).shown) S := repr_any rfl (ok_two hn hm)
@[simp] theorem ne_str {x y : Str} : SatO (cmpD .NotEq (.str x) (.str y) S) P = P (.bl (!decide (x = y))) S := (rfl)
@[simp] theorem eq_str {x y : Str} : SatO (cmpD .Eq (.str x) (.str y) S) P = P (.bl (decide (x = y))) S := (rfl)
theorem ne_any {d e : D} {p q : PyData} (h1 : py S d = some p) (h2 : py S e = some q) (hs : ∀ x y, d = .str x → e = .str y → False) (s1 : SeqAt.shaped p = true) (s2 : SeqAt.shaped q = true) : SatO (cmpD .NotEq d e S) P = P (.bl (!PyData.eqv p q)) S := by
  show SatO (neD d e S) P = _
  unfold neD
  split
  · exact (hs _ _ rfl rfl).elim
  · simp only [h1, h2, s1, s2, and_self, if_true, sato_some]
theorem eq_any {d e : D} {p q : PyData} (h1 : py S d = some p) (h2 : py S e = some q) (hs : ∀ x y, d = .str x → e = .str y → False) (s1 : SeqAt.shaped p = true) (s2 : SeqAt.shaped q = true) : SatO (cmpD .Eq d e S) P = P (.bl (PyData.eqv p q)) S := by
  show SatO (eqD d e S) P = _
  unfold eqD
  split
  · exact (hs _ _ rfl rfl).elim
  · simp only [h1, h2, s1, s2, and_self, if_true, sato_some]
@[simp] theorem ne_int {i j : Int} : SatO (cmpD .NotEq (.int i) (.int j) S) P = P (.bl (!(i == j))) S := by
  rw [ne_any (p := .int i) (q := .int j) rfl rfl (fun x y h _ => by cases h) rfl rfl]
  simp only [PyData.eqv]
@[simp] theorem eq_int {i j : Int} : SatO (cmpD .Eq (.int i) (.int j) S) P = P (.bl (i == j)) S := by
  rw [eq_any (p := .int i) (q := .int j) rfl rfl (fun x y h _ => by cases h) rfl rfl]
  simp only [PyData.eqv]

/-! ### the greatest common divisor, by dividing again and again -/
/-- while b > 0: a, b = b, a % b; body given: what it does upon a slot list -/
theorem gcd_loop {b : PSt} {t : PTs'} {Pn : Sl → SS → Prop} {Pr : D → SS → Prop} (δf : Int → Int → Sl)
    (ht : ∀ (x y : Int) (S : SS) (P : Bool → SS → Prop), P (decide (0 < y)) S → Sat (t (δf x y) S) P)
    (hb : ∀ (x y : Int) (S : SS) (Pn : Sl → SS → Prop), 0 ≤ x → 0 < y → Pn (δf y (x % y)) S → RSat (b (δf x y) S) Pn Pr) :
    ∀ (y x : Nat) (S : SS), (Pn (δf (Nat.gcd x y : Nat) 0) S) → RSat (sWhile t b (δf x y) S) Pn Pr := by
  intro y x S h
  refine s_while (fun m δ S' => S' = S ∧ ∃ x' : Nat, δ = δf x' (m : Nat) ∧ Nat.gcd x' m = Nat.gcd x y) (fun m δ S' hI => ?_) y _ S ⟨rfl, x, rfl, rfl⟩
  obtain ⟨rfl, x', rfl, hg⟩ := hI
  refine ht _ _ _ _ ?_
  by_cases hm : 0 < m
  · rw [if_pos (by simpa using hm)]
    refine hb _ _ _ _ (by omega) (by omega) ⟨x' % m, Nat.mod_lt _ hm, rfl, m, by rw [Int.natCast_emod], ?_⟩
    rw [← hg, Nat.gcd_comm x' m]
    exact (Nat.gcd_rec m x').symm ▸ (Nat.gcd_comm _ _)
  · have : m = 0 := by omega
    subst this
    rw [if_neg (by simp)]
    rw [← hg, Nat.gcd_zero_right] at h
    exact h
/-- a list by a function -/
theorem lc_map {it : PIt} {ct : CT} {vs : List Nat} {el : PEx} {δ : Sl} {items : List D} {g : D → D} (hit : Sat (it δ S) fun x S1 => (∀ l, gOk x.2 (S ++ l)) ∧ S1 = S ∧ x.1 = items)
    (hel : ∀ d ∈ items, ∃ δ1, bindC ct d (wipeD δ vs) = some δ1 ∧ ∀ (S' : SS) (P : D → SS → Prop), (∀ l, P (g d) (S' ++ l)) → Sat (el δ1 S') P) (hl : items.length ≤ 100000) (k : ∀ l, P (.ref S.length) (S ++ .lst (items.map g) :: l)) : Sat (eLc it ct vs tYes' el δ S) P := by
  refine e_lc (hit.mono fun x S1 hx => ?_)
  obtain ⟨hgd, rfl, hi⟩ := hx
  subst hi
  refine ⟨fun j acc S' => acc = (x.1.take j).map g ∧ ∃ l, S' = S1 ++ .lst acc :: l, fun i acc S' hI => ?_, ⟨rfl, [], rfl⟩, fun j d acc S' hj hI => ?_, fun acc S' hI => ?_⟩
  · obtain ⟨_, l, rfl⟩ := hI
    simp
  · obtain ⟨rfl, l, rfl⟩ := hI
    obtain ⟨δ1, hb, he⟩ := hel d (List.mem_of_getElem? hj)
    have hjl := (List.getElem?_eq_some_iff.mp hj).1
    refine ⟨hgd _, δ1, hb, ?_⟩
    simp only [t_yes, if_true]
    refine he _ _ fun l2 => ⟨(x.1.take j).map g, by simp, by rw [List.length_map, List.length_take, sizeLine_eq]; omega, ?_, l ++ l2, by simp⟩
    rw [List.take_add_one, hj]
    simp
  · obtain ⟨rfl, l, rfl⟩ := hI
    refine ⟨hgd _, ?_⟩
    rw [List.take_length]
    exact k l
theorem bls_map {α : Type} {f : α → Bool} : ∀ l : List α, blsD (l.map fun a => D.bl (f a)) = some (l.map f)
  | [] => rfl
  | a :: l => by
    show (blsD (l.map fun a => D.bl (f a))).map (f a :: ·) = _
    rw [bls_map l]
    rfl
theorem all_map {α : Type} {f : α → Bool} {l : List α} {k : Nat} (h : S[k]? = some (.lst (l.map fun a => D.bl (f a)))) : SatO (one allD [.ref k] S) P = P (.bl (l.all f)) S := by
  unfold one allD itemsD
  simp only [h, bls_map, sato_some]
  congr 2
  rw [List.all_map]
  rfl
end
end DL
set_option Elab.async false
set_option linter.all false
set_option maxRecDepth 100000
set_option maxHeartbeats 2000000
/-! DTold: the suite that tells an error's reason. -/
namespace DL
open PySem L2
/-- return ("word", e.reason) if isinstance(e, WheelError) else "" -/
def toldB (st : Stmt) (wd f g n c : Str) : Bool := match st with
  | .Return (some (.IfExp (.Call (.Name g' _) [.Name n' _, .Name c' _] [] _) (.Tuple [.Constant (.str wd') _ _, .Attribute (.Name n2 _) f' _] _ _) (.Constant (.str _) _ _) _)) _ => g' == g && n' == n && c' == c && wd' == wd && n2 == n && f' == f
  | _ => false
theorem told_hX {O : Orc} {E : SE} {st : Stmt} {wd f g n c : Str} {i : Nat} {Cr cW : Addr} {x : D} {h : HSt} {δ : Sl} {S : SS} (ht : toldB st wd f g n c = true) (hh : hS1 O E n i st = some h) (hg : isIsi E g = true) (hc : clsOf E c = some cW) (hs : O.sb Cr cW = some true) (hf : O.fd Cr f = true) :
    h Cr [(f, x)] δ S = .rt (.tup [.str wd, x]) S := by
  unfold toldB at ht
  split at ht
  · rename_i g' _ n' _ c' _ _ wd' _ _ n2 _ f' _ _ _ _ _ _ _ _
    simp only [Bool.and_eq_true, beq_iff_eq] at ht
    obtain ⟨⟨⟨⟨⟨rfl, rfl⟩, rfl⟩, rfl⟩, rfl⟩, rfl⟩ := ht
    simp only [hS1, Option.some.injEq] at hh
    subst hh
    simp [hX, hI, hXs, hF, hC, isCall, noStar, hg, hc, hs, hf, List.lookup]
  · cases ht
/-- return ("word", e.f) -/
def toldC (st : Stmt) (wd f n : Str) : Bool := match st with
  | .Return (some (.Tuple [.Constant (.str wd') _ _, .Attribute (.Name n2 _) f' _] _ _)) _ => wd' == wd && n2 == n && f' == f
  | _ => false
theorem told_hY {O : Orc} {E : SE} {st : Stmt} {wd f n : Str} {i : Nat} {Cr : Addr} {x : D} {fs : List (Str × D)} {h : HSt} {δ : Sl} {S : SS} (ht : toldC st wd f n = true) (hh : hS1 O E n i st = some h) (hf : O.fd Cr f = true) (hx : fs.lookup f = some x) :
    h Cr fs δ S = .rt (.tup [.str wd, x]) S := by
  unfold toldC at ht
  split at ht
  · rename_i wd' _ _ n2 _ f' _ _ _ _
    simp only [Bool.and_eq_true, beq_iff_eq] at ht
    obtain ⟨⟨rfl, rfl⟩, rfl⟩ := ht
    simp only [hS1, Option.some.injEq] at hh
    subst hh
    simp [hX, hXs, hF, hC, noStar, hf, hx]
  · cases ht
/-- return ("word", e.f, e.g) -/
def toldE (st : Stmt) (wd f g n : Str) : Bool := match st with
  | .Return (some (.Tuple [.Constant (.str wd') _ _, .Attribute (.Name n2 _) f' _, .Attribute (.Name n3 _) g' _] _ _)) _ => wd' == wd && n2 == n && f' == f && n3 == n && g' == g
  | _ => false
theorem told_hZ {O : Orc} {E : SE} {st : Stmt} {wd f g n : Str} {i : Nat} {Cr : Addr} {x y : D} {fs : List (Str × D)} {h : HSt} {δ : Sl} {S : SS} (ht : toldE st wd f g n = true) (hh : hS1 O E n i st = some h) (hf : O.fd Cr f = true) (hg : O.fd Cr g = true) (hx : fs.lookup f = some x) (hy : fs.lookup g = some y) :
    h Cr fs δ S = .rt (.tup [.str wd, x, y]) S := by
  unfold toldE at ht
  split at ht
  · rename_i wd' _ _ n2 _ f' _ n3 _ g' _ _ _ _
    simp only [Bool.and_eq_true, beq_iff_eq] at ht
    obtain ⟨⟨⟨⟨rfl, rfl⟩, rfl⟩, rfl⟩, rfl⟩ := ht
    simp only [hS1, Option.some.injEq] at hh
    subst hh
    simp [hX, hXs, hF, hC, noStar, hf, hg, hx, hy]
  · cases ht
end DL
set_option Elab.async false
set_option linter.all false
set_option maxRecDepth 100000
set_option maxHeartbeats 2000000
/-! DFrac: fractions in least terms. -/
namespace DL
open PySem L2
/-- the pair in least terms -/
def nu (a b : Int) : Int := (if b < 0 then -a else a) / (Int.gcd a b : Nat)
def de (a b : Int) : Int := (b.natAbs : Int) / (Int.gcd a b : Nat)
def fr (a b : Int) : D := .tup [.int (nu a b), .int (de a b)]
theorem gcd_pos {a b : Int} (h : b ≠ 0) : 0 < Int.gcd a b := Int.gcd_pos_of_ne_zero_right a h
theorem gcd_le {a b : Int} (h : b ≠ 0) : Int.gcd a b ≤ b.natAbs := Int.gcd_le_natAbs_right a h
theorem gcd_l {a b : Int} : ((Int.gcd a b : Nat) : Int) ∣ a := Int.gcd_dvd_left a b
theorem gcd_r {a b : Int} : ((Int.gcd a b : Nat) : Int) ∣ b := Int.gcd_dvd_right a b
theorem fdn {x g : Int} (hg : 0 < g) (hd : g ∣ x) : x.fdiv (-g) = (-x) / g := by
  rw [Int.fdiv_neg (by omega), if_pos hd, fdiv_pos hg, Int.neg_ediv_of_dvd hd]
theorem nu_neg {a b : Int} (h : b < 0) : a.fdiv (-(Int.gcd a b : Nat)) = nu a b := by
  have g0 := gcd_pos (a := a) (b := b) (by omega)
  rw [fdn (by omega) gcd_l]
  unfold nu
  rw [if_pos h]
theorem de_neg' {a b : Int} (h : b < 0) : b.fdiv (-(Int.gcd a b : Nat)) = de a b := by
  have g0 := gcd_pos (a := a) (b := b) (by omega)
  rw [fdn (by omega) gcd_r]
  unfold de
  congr 1
  omega
theorem nu_pos {a b : Int} (h : ¬ b < 0) (h0 : b ≠ 0) : a.fdiv (Int.gcd a b : Nat) = nu a b := by
  have g0 := gcd_pos (a := a) h0
  rw [fdiv_pos (by omega)]
  unfold nu
  rw [if_neg h]
theorem de_pos {a b : Int} (h : ¬ b < 0) (h0 : b ≠ 0) : b.fdiv (Int.gcd a b : Nat) = de a b := by
  have g0 := gcd_pos (a := a) h0
  rw [fdiv_pos (by omega)]
  unfold de
  congr 1
  omega
/-- both numbers of a fraction are small if those are from which it is made -/
theorem nu_le {a b : Int} (h : b ≠ 0) : (nu a b).natAbs ≤ a.natAbs := by
  unfold nu
  have g0 := gcd_pos (a := a) h
  rw [Int.natAbs_ediv_of_dvd]
  · split <;> simp <;> exact Nat.div_le_self _ _
  · split
    · exact Int.dvd_neg.mpr gcd_l
    · exact gcd_l
theorem de_le {a b : Int} (h : b ≠ 0) : (de a b).natAbs ≤ b.natAbs := by
  unfold de
  rw [Int.natAbs_ediv_of_dvd]
  · simp; exact Nat.div_le_self _ _
  · exact Int.dvd_natAbs.mpr gcd_r
theorem de_one {a b : Int} (h : b ≠ 0) : 1 ≤ de a b := by
  unfold de
  have g0 := gcd_pos (a := a) h
  have g1 := gcd_le (a := a) h
  exact (Int.le_ediv_iff_mul_le (by omega)).mpr (by omega)
/-- the same quotient -/
theorem cross {a b : Int} (h : b ≠ 0) : nu a b * b = de a b * a := by
  have g0 := gcd_pos (a := a) h
  obtain ⟨x, hx⟩ := gcd_l (a := a) (b := b)
  obtain ⟨y, hy⟩ := gcd_r (a := a) (b := b)
  generalize hg : ((Int.gcd a b : Nat) : Int) = g at hx hy
  have hg0 : g ≠ 0 := by omega
  by_cases hb : b < 0
  · have e1 : nu a b = -x := by
      unfold nu
      rw [if_pos hb, hg, hx, ← Int.mul_neg, Int.mul_ediv_cancel_left _ hg0]
    have e2 : de a b = -y := by
      unfold de
      rw [hg, show (b.natAbs : Int) = -b by omega]
      conv => lhs; lhs; rw [hy]
      rw [← Int.mul_neg, Int.mul_ediv_cancel_left _ hg0]
    rw [e1, e2]
    conv => lhs; rw [hy]
    conv => rhs; rw [hx]
    grind
  · have e1 : nu a b = x := by
      unfold nu
      rw [if_neg hb, hg]
      conv => lhs; lhs; rw [hx]
      rw [Int.mul_ediv_cancel_left _ hg0]
    have e2 : de a b = y := by
      unfold de
      rw [hg, show (b.natAbs : Int) = b by omega]
      conv => lhs; lhs; rw [hy]
      rw [Int.mul_ediv_cancel_left _ hg0]
    rw [e1, e2]
    conv => lhs; rw [hy]
    conv => rhs; rw [hx]
    grind
/-- it is in least terms -/
theorem co {a b : Int} (h : b ≠ 0) : Int.gcd (nu a b) (de a b) = 1 := by
  have g0 := gcd_pos (a := a) h
  unfold nu de
  have e : ((b.natAbs : Int) / (Int.gcd a b : Nat)).natAbs = b.natAbs / Int.gcd a b := by
    rw [Int.natAbs_ediv_of_dvd (Int.dvd_natAbs.mpr gcd_r)]
    simp
  have e2 : ((if b < 0 then -a else a) / (Int.gcd a b : Nat)).natAbs = a.natAbs / Int.gcd a b := by
    rw [Int.natAbs_ediv_of_dvd]
    · split <;> simp
    · split
      · exact Int.dvd_neg.mpr gcd_l
      · exact gcd_l
  show Nat.gcd _ _ = 1
  rw [e, e2]
  rw [Nat.gcd_div (Int.natAbs_dvd_natAbs.mpr gcd_l |> fun z => by simpa using z) (Int.natAbs_dvd_natAbs.mpr gcd_r |> fun z => by simpa using z)]
  exact Nat.div_self g0
theorem mul_lt {x y : Int} {a b : Nat} (hx : x.natAbs < 2 ^ a) (hy : y.natAbs < 2 ^ b) : (x * y).natAbs < 2 ^ (a + b) := by
  rw [Int.natAbs_mul, Nat.pow_add]
  exact Nat.mul_lt_mul'' hx hy

/-- two pairs with the same quotient have the same least terms -/
theorem fr_eq {a b c d : Int} (hb : 0 < b) (hd : 0 < d) (h : a * d = c * b) : fr a b = fr c d := by
  have key : ∀ a b c d : Int, 0 < b → 0 < d → a * d = c * b → nu a b = nu c d ∧ de a b = de c d := fun a b c d hb hd h => by
    have hb0 : b ≠ 0 := by omega
    have hd0 : d ≠ 0 := by omega
    have c1 := cross (a := a) hb0
    have c2 := cross (a := c) hd0
    have o1 := co (a := a) hb0
    have o2 := co (a := c) hd0
    have p1 := de_one (a := a) hb0
    have p2 := de_one (a := c) hd0
    generalize nu a b = n at *
    generalize de a b = m at *
    generalize nu c d = n' at *
    generalize de c d = m' at *
    -- n * b = m * a, n' * d = m' * c, a * d = c * b: so n * m' = n' * m
    have e : n * m' = n' * m := by
      have h1 : (n * m') * (b * d) = (n' * m) * (b * d) := by
        have x1 : (n * m') * (b * d) = (n * b) * (m' * d) := by grind
        have x2 : (n' * m) * (b * d) = (n' * d) * (m * b) := by grind
        rw [x1, x2, c1, c2]
        have x3 : (m * a) * (m' * d) = (m * m') * (a * d) := by grind
        have x4 : (m' * c) * (m * b) = (m * m') * (c * b) := by grind
        rw [x3, x4, h]
      exact Int.eq_of_mul_eq_mul_right (Int.mul_ne_zero hb0 hd0) h1
    have d1 : m ∣ m' := by
      have : m ∣ n * m' := ⟨n', by rw [e]; exact Int.mul_comm _ _⟩
      have := Int.dvd_gcd_mul_iff_dvd_mul.mpr this
      rw [Int.gcd_comm, o1] at this
      simpa using this
    have d2 : m' ∣ m := by
      have : m' ∣ n' * m := ⟨n, by rw [← e]; exact Int.mul_comm _ _⟩
      have := Int.dvd_gcd_mul_iff_dvd_mul.mpr this
      rw [Int.gcd_comm, o2] at this
      simpa using this
    have em : m = m' := Int.dvd_antisymm (by omega) (by omega) d1 d2
    subst em
    exact ⟨Int.eq_of_mul_eq_mul_right (by omega) e, rfl⟩
  obtain ⟨e1, e2⟩ := key a b c d hb hd h
  unfold fr
  rw [e1, e2]
theorem gcd_one_nu {n m : Int} (hm : 0 < m) (h : Int.gcd n m = 1) : nu n m = n ∧ de n m = m := by
  unfold nu de
  rw [h, if_neg (by omega)]
  constructor
  · simp
  · simp; omega
end DL
set_option Elab.async false
set_option linter.all false
set_option maxRecDepth 100000
set_option maxHeartbeats 1000000
/-! DX: trees run by rules, exceptions told too. -/
namespace DL
open PySem L2
abbrev XQ := Addr → List (Str × D) → SS → Prop
def XSat {α : Type} (r : R α) (P : α → SS → Prop) (X : XQ) : Prop := match r with
  | .ok x S => P x S
  | .exc C fs S => X C fs S
  | .bad => False
def XR (r : RS) (Pn : Sl → SS → Prop) (Pr : D → SS → Prop) (X : Sl → XQ) : Prop := match r with
  | .nx δ S => Pn δ S
  | .rt d S => Pr d S
  | .exc δ C fs S => X δ C fs S
  | _ => False
abbrev noX : XQ := fun _ _ _ => False
section
variable {α β : Type} {δ : Sl} {S : SS} {P : D → SS → Prop} {Pn : Sl → SS → Prop} {Pr : D → SS → Prop} {X : XQ} {Y : Sl → XQ}
@[simp] theorem xsat_ok {x : α} {P : α → SS → Prop} : XSat (.ok x S) P X = P x S := (rfl)
@[simp] theorem xsat_bad {P : α → SS → Prop} : XSat (.bad : R α) P X = False := (rfl)
@[simp] theorem xsat_exc {C : Addr} {fs : List (Str × D)} {P : α → SS → Prop} : XSat (.exc C fs S : R α) P X = X C fs S := (rfl)
@[simp] theorem xsat_bind {r : R α} {k : α → SS → R β} {P : β → SS → Prop} : XSat (r.bind k) P X = XSat r (fun x S => XSat (k x S) P X) X := by cases r <;> rfl
@[simp] theorem xsat_ofO {o : Option (D × SS)} : XSat (R.ofO o) P X = SatO o P := by cases o <;> rfl
@[simp] theorem xsat_ofT {o : Option Bool} {P : Bool → SS → Prop} : XSat (DL.ofT o S) P X = (match o with | some b => P b S | none => False) := by cases o <;> rfl
@[simp] theorem xr_nx : XR (.nx δ S) Pn Pr Y = Pn δ S := (rfl)
@[simp] theorem xr_rt {d : D} : XR (.rt d S) Pn Pr Y = Pr d S := (rfl)
@[simp] theorem xr_bad : XR .bad Pn Pr Y = False := (rfl)
@[simp] theorem xr_exc {C : Addr} {fs : List (Str × D)} : XR (.exc δ C fs S) Pn Pr Y = Y δ C fs S := (rfl)
@[simp] theorem xr_to {r : R α} {k : α → SS → RS} : XR (r.to δ k) Pn Pr Y = XSat r (fun x S => XR (k x S) Pn Pr Y) (Y δ) := by cases r <;> rfl
@[simp] theorem xr_seq {r : RS} {g : PSt} : XR (r.seq g) Pn Pr Y = XR r (fun δ S => XR (g δ S) Pn Pr Y) Pr Y := by cases r <;> rfl
theorem Sat.x {r : R α} {P : α → SS → Prop} (h : Sat r P) : XSat r P X := by
  cases r with
  | ok x S => exact h
  | _ => exact h.elim
theorem XSat.s {r : R α} {P : α → SS → Prop} (h : XSat r P noX) : Sat r P := by
  cases r with
  | ok x S => exact h
  | _ => exact h.elim
theorem XR.s {r : RS} (h : XR r Pn Pr fun _ => noX) : RSat r Pn Pr := by
  cases r with
  | nx x S => exact h
  | rt x S => exact h
  | _ => exact h.elim
theorem RSat.x {r : RS} (h : RSat r Pn Pr) : XR r Pn Pr Y := by
  cases r with
  | nx x S => exact h
  | rt x S => exact h
  | _ => exact h.elim
theorem XSat.mono {r : R α} {P P' : α → SS → Prop} {X' : XQ} (h : XSat r P X) (i : ∀ x S, P x S → P' x S) (j : ∀ c f S, X c f S → X' c f S) : XSat r P' X' := by
  cases r with
  | ok x S => exact i _ _ h
  | exc c f S => exact j _ _ _ h
  | _ => exact h.elim
theorem XR.mono {r : RS} {Pn' : Sl → SS → Prop} {Pr' : D → SS → Prop} {Y' : Sl → XQ} (h : XR r Pn Pr Y) (i : ∀ x S, Pn x S → Pn' x S) (j : ∀ x S, Pr x S → Pr' x S) (l : ∀ δ c f S, Y δ c f S → Y' δ c f S) : XR r Pn' Pr' Y' := by
  cases r with
  | nx x S => exact i _ _ h
  | rt x S => exact j _ _ h
  | exc δ c f S => exact l _ _ _ _ h
  | _ => exact h.elim
/-- a def -/
theorem x_fn {b : PSt} {n : Nat} {ds : List D} (h : XR (b (startD n ds) S) (fun _ S' => P .non S') P (fun _ => X)) : XSat (fnB b n ds S) P X := by
  unfold fnB
  cases hb : b (startD n ds) S with
  | nx x S => rw [hb] at h; exact h
  | rt x S => rw [hb] at h; exact h
  | exc x c f S => rw [hb] at h; exact h
  | _ => rw [hb] at h; exact h.elim

/-! ### statements -/
@[simp] theorem x_seq {a b : PSt} : XR (sSeq a b δ S) Pn Pr Y = XR (a δ S) (fun δ S => XR (b δ S) Pn Pr Y) Pr Y := by unfold sSeq; rw [xr_seq]
@[simp] theorem x_nil : XR (sNil δ S) Pn Pr Y = Pn δ S := (rfl)
@[simp] theorem x_drop {f : PEx} : XR (sDrop f δ S) Pn Pr Y = XSat (f δ S) (fun _ S1 => Pn δ S1) (Y δ) := by unfold sDrop; rw [xr_to]; rfl
@[simp] theorem x_ret {f : PEx} : XR (sRet f δ S) Pn Pr Y = XSat (f δ S) Pr (Y δ) := by unfold sRet; rw [xr_to]; rfl
@[simp] theorem x_retN : XR (sRetN δ S) Pn Pr Y = Pr .non S := (rfl)
@[simp] theorem x_if {t : PTs'} {a b : PSt} : XR (sIf t a b δ S) Pn Pr Y = XSat (t δ S) (fun c S1 => if c = true then XR (a δ S1) Pn Pr Y else XR (b δ S1) Pn Pr Y) (Y δ) := by
  unfold sIf
  rw [xr_to]
  congr 1
  funext c S1
  cases c <;> rfl
@[simp] theorem x_asg1 {f : PEx} {i : Nat} : XR (sAsg f (.one i) δ S) Pn Pr Y = XSat (f δ S) (fun x S1 => Pn (δ.set i (some x)) S1) (Y δ) := by unfold sAsg; rw [xr_to]; rfl
theorem x_asgN {f : PEx} {is : List Nat} : XR (sAsg f (.many is) δ S) Pn Pr Y = XSat (f δ S) (fun x S1 => (match bindC (.many is) x δ with
  | some δ' => Pn δ' S1
  | none => False)) (Y δ) := by
  unfold sAsg
  rw [xr_to]
  congr 1
  funext x S1
  cases bindC (.many is) x δ <;> rfl
@[simp] theorem x_par {fa fb : PEx} {i j : Nat} : XR (sPar i j fa fb δ S) Pn Pr Y = XSat (fa δ S) (fun x S1 => XSat (fb δ S1) (fun y S2 => Pn ((δ.set i (some x)).set j (some y)) S2) (Y δ)) (Y δ) := by unfold sPar; rw [xr_to]; congr 1; funext x S1; rw [xr_to]; rfl
@[simp] theorem x_raise {C : Addr} {fs : List Str} {a : PAs} : XR (sRaise C fs a δ S) Pn Pr Y = XSat (a δ S) (fun xs S1 => xs.length = fs.length ∧ Y δ C (fs.zip xs).reverse S1) (Y δ) := by
  unfold sRaise
  rw [xr_to]
  congr 1
  funext xs S1
  split
  · rename_i h
    simp only [h, xr_exc, true_and]
  · rename_i h
    simp only [h, xr_bad, false_and]
@[simp] theorem x_set {f o i : PEx} : XR (sSet f o i δ S) Pn Pr Y = XSat (f δ S) (fun x S1 => XSat (o δ S1) (fun y S2 => XSat (i δ S2) (fun z S3 => (match setD y z x S3 with
  | some S4 => Pn δ S4
  | none => False)) (Y δ)) (Y δ)) (Y δ) := by
  unfold sSet
  rw [xr_to]; congr 1; funext x S1
  rw [xr_to]; congr 1; funext y S2
  rw [xr_to]; congr 1; funext z S3
  cases setD y z x S3 <;> rfl
/-- a try -/
theorem x_try {O : Orc} {b : PSt} {cl : List Cl} : XR (sTry O b cl δ S) Pn Pr Y = XR (b δ S) Pn Pr (fun δ' C fs S' => XR (catchL O cl C fs δ' S') Pn Pr Y) := by
  unfold sTry
  cases hb : b δ S <;> rfl
/-- caught by the first clause, whose suite returns -/
theorem x_catch {O : Orc} {cl : List Cl} {c C : Addr} {i : Nat} {h : HSt} {fs : List (Str × D)} {d : D} (h1 : O.sb C c = some true) (h2 : i < δ.length) (h3 : h C fs (δ.set i none) S = .rt d S) (k : Pr d S) : XR (catchL O ((c, i, h) :: cl) C fs δ S) Pn Pr Y := by
  unfold catchL
  rw [h1]
  simp only [h2, if_true, h3, xr_rt]
  exact k
/-- not caught by the first clause -/
theorem x_skip {O : Orc} {cl : List Cl} {c C : Addr} {i : Nat} {h : HSt} {fs : List (Str × D)} (h1 : O.sb C c = some false) (k : XR (catchL O cl C fs δ S) Pn Pr Y) : XR (catchL O ((c, i, h) :: cl) C fs δ S) Pn Pr Y := by
  unfold catchL
  rw [h1]
  exact k

/-! ### expressions -/
@[simp] theorem xe_var {i : Nat} : XSat (eVar i δ S) P X = (match δ[i]? with | some (some d) => P d S | _ => False) := by
  unfold eVar
  cases δ[i]? with
  | none => rfl
  | some o => cases o <;> rfl
@[simp] theorem xe_c {d : D} : XSat (eC d δ S) P X = P d S := (rfl)
@[simp] theorem xe_op1 {g : G1} {a : PEx} : XSat (eOp1 g a δ S) P X = XSat (a δ S) (fun x S1 => SatO (g x S1) P) X := by unfold eOp1; rw [xsat_bind]; simp only [xsat_ofO]
@[simp] theorem xe_op2 {g : G2} {a b : PEx} : XSat (eOp2 g a b δ S) P X = XSat (a δ S) (fun x S1 => XSat (b δ S1) (fun y S2 => SatO (g x y S2) P) X) X := by unfold eOp2; simp only [xsat_bind, xsat_ofO]
@[simp] theorem xe_if {t : PTs'} {a b : PEx} : XSat (eIf t a b δ S) P X = XSat (t δ S) (fun c S1 => if c = true then XSat (a δ S1) P X else XSat (b δ S1) P X) X := by
  unfold eIf
  rw [xsat_bind]
  congr 1
  funext c S1
  cases c <;> rfl
@[simp] theorem xa_nil {P : List D → SS → Prop} : XSat (aNil δ S) P X = P [] S := (rfl)
@[simp] theorem xa_cons {a : PEx} {r : PAs} {P : List D → SS → Prop} : XSat (aCons a r δ S) P X = XSat (a δ S) (fun x S1 => XSat (r δ S1) (fun xs S2 => P (x :: xs) S2) X) X := by unfold aCons; simp only [xsat_bind, xsat_ok]
theorem xe_tup {a : PAs} : XSat (eTup a δ S) P X = XSat (a δ S) (fun xs S1 => xs.length ≤ sizeLine ∧ P (.tup xs) S1) X := by
  unfold eTup
  rw [xsat_bind]
  congr 1
  funext xs S1
  split
  · rename_i h
    simp only [h, xsat_ok, true_and]
  · rename_i h
    exact propext ⟨fun z => z.elim, fun z => h z.1⟩
theorem xe_lst {a : PAs} : XSat (eLst a δ S) P X = XSat (a δ S) (fun xs S1 => xs.length ≤ sizeLine ∧ P (.ref S1.length) (S1 ++ [.lst xs])) X := by
  unfold eLst
  rw [xsat_bind]
  congr 1
  funext xs S1
  split
  · rename_i h
    simp only [h, xsat_ok, true_and]
  · rename_i h
    exact propext ⟨fun z => z.elim, fun z => h z.1⟩
@[simp] theorem xe_cb {g : GL} {a : PAs} : XSat (eCB g a δ S) P X = XSat (a δ S) (fun xs S1 => SatO (g xs S1) P) X := by unfold eCB; simp only [xsat_bind, xsat_ofO]
theorem xe_call {f : Fn} {n : Nat} {a : PAs} : XSat (eCall f n a δ S) P X = XSat (a δ S) (fun xs S1 => xs.length = n ∧ XSat (f xs S1) P X) X := by
  unfold eCall
  rw [xsat_bind]
  congr 1
  funext xs S1
  split
  · rename_i h
    simp only [h, true_and]
  · rename_i h
    exact propext ⟨fun z => z.elim, fun z => h z.1⟩
@[simp] theorem xe_and {a b : PEx} : XSat (eAnd a b δ S) P X = XSat (a δ S) (fun x S1 => (match truD x S1 with | some c => if c = true then XSat (b δ S1) P X else P x S1 | none => False)) X := by
  unfold eAnd
  simp only [xsat_bind, xsat_ofT]
  congr 1
  funext x S1
  cases truD x S1 with
  | none => rfl
  | some c => cases c <;> rfl
@[simp] theorem xe_or {a b : PEx} : XSat (eOr a b δ S) P X = XSat (a δ S) (fun x S1 => (match truD x S1 with | some c => if c = true then P x S1 else XSat (b δ S1) P X | none => False)) X := by
  unfold eOr
  simp only [xsat_bind, xsat_ofT]
  congr 1
  funext x S1
  cases truD x S1 with
  | none => rfl
  | some c => cases c <;> rfl
@[simp] theorem xe_chain {g g' : G2} {a b c : PEx} : XSat (eChain g g' a b c δ S) P X = XSat (a δ S) (fun x S1 => XSat (b δ S1) (fun y S2 => SatO (g x y S2) fun z S3 => (match boolOf z with
  | some k => if k = true then XSat (c δ S3) (fun z' S5 => SatO (g' y z' S5) P) X else P (.bl false) S3
  | none => False)) X) X := by
  unfold eChain
  simp only [xsat_bind, xsat_ofT, xsat_ofO]
  congr 1
  funext x S1
  congr 1
  funext y S2
  cases g x y S2 with
  | none => rfl
  | some p =>
    simp only [sato_some]
    cases boolOf p.1 with
    | none => rfl
    | some k =>
      cases k
      · rfl
      · simp only [if_true, xsat_bind, xsat_ofO]
@[simp] theorem xt_tru {a : PEx} {P : Bool → SS → Prop} : XSat (tTru a δ S) P X = XSat (a δ S) (fun x S1 => (match truD x S1 with | some c => P c S1 | none => False)) X := by
  unfold tTru
  simp only [xsat_bind, xsat_ofT]
@[simp] theorem xt_val {a : PEx} {P : Bool → SS → Prop} : XSat (tVal a δ S) P X = XSat (a δ S) (fun x S1 => (match boolOf x with | some c => P c S1 | none => False)) X := by
  unfold tVal
  simp only [xsat_bind, xsat_ofT]
@[simp] theorem xt_not {t : PTs'} {P : Bool → SS → Prop} : XSat (tNot' t δ S) P X = XSat (t δ S) (fun c S1 => P (!c) S1) X := by unfold tNot'; simp only [xsat_bind, xsat_ok]
@[simp] theorem xt_and {t u : PTs'} {P : Bool → SS → Prop} : XSat (tAnd' t u δ S) P X = XSat (t δ S) (fun c S1 => if c = true then XSat (u δ S1) P X else P false S1) X := by
  unfold tAnd'
  rw [xsat_bind]
  congr 1
  funext c S1
  cases c <;> rfl
@[simp] theorem xt_or {t u : PTs'} {P : Bool → SS → Prop} : XSat (tOr' t u δ S) P X = XSat (t δ S) (fun c S1 => if c = true then P true S1 else XSat (u δ S1) P X) X := by
  unfold tOr'
  rw [xsat_bind]
  congr 1
  funext c S1
  cases c <;> rfl
@[simp] theorem xt_if {t a b : PTs'} {P : Bool → SS → Prop} : XSat (tIf' t a b δ S) P X = XSat (t δ S) (fun c S1 => if c = true then XSat (a δ S1) P X else XSat (b δ S1) P X) X := by
  unfold tIf'
  rw [xsat_bind]
  congr 1
  funext c S1
  cases c <;> rfl
@[simp] theorem xt_yes {P : Bool → SS → Prop} : XSat (tYes' δ S) P X = P true S := (rfl)
theorem xe_mt {m : Mi} {o : PEx} {a : PAs} : XSat (eMt m o a δ S) P X = XSat (o δ S) (fun x S1 => isTy m.ty x S1 = true ∧ XSat (a δ S1) (fun xs S2 => SatO (m.g x xs S2) P) X) X := by
  unfold eMt
  rw [xsat_bind]
  congr 1
  funext x S1
  split
  · rename_i h
    simp only [h, xsat_bind, xsat_ofO, true_and]
  · rename_i h
    simp only [h, false_and, xsat_bad, Bool.false_eq_true]
@[simp] theorem xo_none {P : Option Int → SS → Prop} : XSat (oNone δ S) P X = P none S := (rfl)
@[simp] theorem xo_some {a : PEx} {P : Option Int → SS → Prop} : XSat (oSome a δ S) P X = XSat (a δ S) (fun x S1 => (match intOf x with | some i => P (some i) S1 | none => False)) X := by
  unfold oSome
  rw [xsat_bind]
  congr 1
  funext x S1
  cases intOf x <;> rfl
@[simp] theorem xe_sl {a : PEx} {lo hi : PO'} : XSat (eSl a lo hi δ S) P X = XSat (a δ S) (fun x S1 => XSat (lo δ S1) (fun l S2 => XSat (hi δ S2) (fun u S3 => SatO (slD l u x S3) P) X) X) X := by unfold eSl; simp only [xsat_bind, xsat_ofO]
@[simp] theorem xit_val {a : PEx} {P : IT → SS → Prop} : XSat (iVal a δ S) P X = XSat (a δ S) (fun x S1 => (match iterD x S1 with | some it => P it S1 | none => False)) X := by
  unfold iVal
  rw [xsat_bind]
  congr 1
  funext x S1
  cases iterD x S1 <;> rfl
@[simp] theorem xit_on {g : List D → SS → Option IT} {a : PAs} {P : IT → SS → Prop} : XSat (iOn g a δ S) P X = XSat (a δ S) (fun xs S1 => (match g xs S1 with | some it => P it S1 | none => False)) X := by
  unfold iOn
  rw [xsat_bind]
  congr 1
  funext x S1
  cases g x S1 <;> rfl
theorem xe_tup1 {a0 : PEx} : XSat (eTup (aCons a0 aNil) δ S) P X = XSat (a0 δ S) (fun x0 S1 => P (.tup [x0]) S1) X := by
  rw [xe_tup]
  simp only [xa_cons, xa_nil, List.length_cons, List.length_nil, Nat.reduceAdd, Nat.zero_add, le_size (show 1 ≤ 16777216 by decide), true_and]
theorem xe_tup2 {a0 a1 : PEx} : XSat (eTup (aCons a0 (aCons a1 aNil)) δ S) P X = XSat (a0 δ S) (fun x0 S1 => XSat (a1 δ S1) (fun x1 S2 => P (.tup [x0, x1]) S2) X) X := by
  rw [xe_tup]
  simp only [xa_cons, xa_nil, List.length_cons, List.length_nil, Nat.reduceAdd, Nat.zero_add, le_size (show 2 ≤ 16777216 by decide), true_and]
theorem xe_tup3 {a0 a1 a2 : PEx} : XSat (eTup (aCons a0 (aCons a1 (aCons a2 aNil))) δ S) P X = XSat (a0 δ S) (fun x0 S1 => XSat (a1 δ S1) (fun x1 S2 => XSat (a2 δ S2) (fun x2 S3 => P (.tup [x0, x1, x2]) S3) X) X) X := by
  rw [xe_tup]
  simp only [xa_cons, xa_nil, List.length_cons, List.length_nil, Nat.reduceAdd, Nat.zero_add, le_size (show 3 ≤ 16777216 by decide), true_and]
theorem xe_tup4 {a0 a1 a2 a3 : PEx} : XSat (eTup (aCons a0 (aCons a1 (aCons a2 (aCons a3 aNil)))) δ S) P X = XSat (a0 δ S) (fun x0 S1 => XSat (a1 δ S1) (fun x1 S2 => XSat (a2 δ S2) (fun x2 S3 => XSat (a3 δ S3) (fun x3 S4 => P (.tup [x0, x1, x2, x3]) S4) X) X) X) X := by
  rw [xe_tup]
  simp only [xa_cons, xa_nil, List.length_cons, List.length_nil, Nat.reduceAdd, Nat.zero_add, le_size (show 4 ≤ 16777216 by decide), true_and]
theorem xe_tup5 {a0 a1 a2 a3 a4 : PEx} : XSat (eTup (aCons a0 (aCons a1 (aCons a2 (aCons a3 (aCons a4 aNil))))) δ S) P X = XSat (a0 δ S) (fun x0 S1 => XSat (a1 δ S1) (fun x1 S2 => XSat (a2 δ S2) (fun x2 S3 => XSat (a3 δ S3) (fun x3 S4 => XSat (a4 δ S4) (fun x4 S5 => P (.tup [x0, x1, x2, x3, x4]) S5) X) X) X) X) X := by
  rw [xe_tup]
  simp only [xa_cons, xa_nil, List.length_cons, List.length_nil, Nat.reduceAdd, Nat.zero_add, le_size (show 5 ≤ 16777216 by decide), true_and]
theorem xe_tup6 {a0 a1 a2 a3 a4 a5 : PEx} : XSat (eTup (aCons a0 (aCons a1 (aCons a2 (aCons a3 (aCons a4 (aCons a5 aNil)))))) δ S) P X = XSat (a0 δ S) (fun x0 S1 => XSat (a1 δ S1) (fun x1 S2 => XSat (a2 δ S2) (fun x2 S3 => XSat (a3 δ S3) (fun x3 S4 => XSat (a4 δ S4) (fun x4 S5 => XSat (a5 δ S5) (fun x5 S6 => P (.tup [x0, x1, x2, x3, x4, x5]) S6) X) X) X) X) X) X := by
  rw [xe_tup]
  simp only [xa_cons, xa_nil, List.length_cons, List.length_nil, Nat.reduceAdd, Nat.zero_add, le_size (show 6 ≤ 16777216 by decide), true_and]
theorem xe_lst0 : XSat (eLst aNil δ S) P X = P (.ref S.length) (S ++ [.lst []]) := by
  rw [xe_lst]
  simp only [xa_cons, xa_nil, List.length_cons, List.length_nil, Nat.reduceAdd, Nat.zero_add, le_size (show 0 ≤ 16777216 by decide), true_and]
theorem xe_lst1 {a0 : PEx} : XSat (eLst (aCons a0 aNil) δ S) P X = XSat (a0 δ S) (fun x0 S1 => P (.ref S1.length) (S1 ++ [.lst [x0]])) X := by
  rw [xe_lst]
  simp only [xa_cons, xa_nil, List.length_cons, List.length_nil, Nat.reduceAdd, Nat.zero_add, le_size (show 1 ≤ 16777216 by decide), true_and]
theorem xe_lst2 {a0 a1 : PEx} : XSat (eLst (aCons a0 (aCons a1 aNil)) δ S) P X = XSat (a0 δ S) (fun x0 S1 => XSat (a1 δ S1) (fun x1 S2 => P (.ref S2.length) (S2 ++ [.lst [x0, x1]])) X) X := by
  rw [xe_lst]
  simp only [xa_cons, xa_nil, List.length_cons, List.length_nil, Nat.reduceAdd, Nat.zero_add, le_size (show 2 ≤ 16777216 by decide), true_and]
theorem xe_lst3 {a0 a1 a2 : PEx} : XSat (eLst (aCons a0 (aCons a1 (aCons a2 aNil))) δ S) P X = XSat (a0 δ S) (fun x0 S1 => XSat (a1 δ S1) (fun x1 S2 => XSat (a2 δ S2) (fun x2 S3 => P (.ref S3.length) (S3 ++ [.lst [x0, x1, x2]])) X) X) X := by
  rw [xe_lst]
  simp only [xa_cons, xa_nil, List.length_cons, List.length_nil, Nat.reduceAdd, Nat.zero_add, le_size (show 3 ≤ 16777216 by decide), true_and]
theorem xe_lst4 {a0 a1 a2 a3 : PEx} : XSat (eLst (aCons a0 (aCons a1 (aCons a2 (aCons a3 aNil)))) δ S) P X = XSat (a0 δ S) (fun x0 S1 => XSat (a1 δ S1) (fun x1 S2 => XSat (a2 δ S2) (fun x2 S3 => XSat (a3 δ S3) (fun x3 S4 => P (.ref S4.length) (S4 ++ [.lst [x0, x1, x2, x3]])) X) X) X) X := by
  rw [xe_lst]
  simp only [xa_cons, xa_nil, List.length_cons, List.length_nil, Nat.reduceAdd, Nat.zero_add, le_size (show 4 ≤ 16777216 by decide), true_and]
theorem xe_lst5 {a0 a1 a2 a3 a4 : PEx} : XSat (eLst (aCons a0 (aCons a1 (aCons a2 (aCons a3 (aCons a4 aNil))))) δ S) P X = XSat (a0 δ S) (fun x0 S1 => XSat (a1 δ S1) (fun x1 S2 => XSat (a2 δ S2) (fun x2 S3 => XSat (a3 δ S3) (fun x3 S4 => XSat (a4 δ S4) (fun x4 S5 => P (.ref S5.length) (S5 ++ [.lst [x0, x1, x2, x3, x4]])) X) X) X) X) X := by
  rw [xe_lst]
  simp only [xa_cons, xa_nil, List.length_cons, List.length_nil, Nat.reduceAdd, Nat.zero_add, le_size (show 5 ≤ 16777216 by decide), true_and]
theorem xe_lst6 {a0 a1 a2 a3 a4 a5 : PEx} : XSat (eLst (aCons a0 (aCons a1 (aCons a2 (aCons a3 (aCons a4 (aCons a5 aNil)))))) δ S) P X = XSat (a0 δ S) (fun x0 S1 => XSat (a1 δ S1) (fun x1 S2 => XSat (a2 δ S2) (fun x2 S3 => XSat (a3 δ S3) (fun x3 S4 => XSat (a4 δ S4) (fun x4 S5 => XSat (a5 δ S5) (fun x5 S6 => P (.ref S6.length) (S6 ++ [.lst [x0, x1, x2, x3, x4, x5]])) X) X) X) X) X) X := by
  rw [xe_lst]
  simp only [xa_cons, xa_nil, List.length_cons, List.length_nil, Nat.reduceAdd, Nat.zero_add, le_size (show 6 ≤ 16777216 by decide), true_and]
theorem xe_lst7 {a0 a1 a2 a3 a4 a5 a6 : PEx} : XSat (eLst (aCons a0 (aCons a1 (aCons a2 (aCons a3 (aCons a4 (aCons a5 (aCons a6 aNil))))))) δ S) P X = XSat (a0 δ S) (fun x0 S1 => XSat (a1 δ S1) (fun x1 S2 => XSat (a2 δ S2) (fun x2 S3 => XSat (a3 δ S3) (fun x3 S4 => XSat (a4 δ S4) (fun x4 S5 => XSat (a5 δ S5) (fun x5 S6 => XSat (a6 δ S6) (fun x6 S7 => P (.ref S7.length) (S7 ++ [.lst [x0, x1, x2, x3, x4, x5, x6]])) X) X) X) X) X) X) X := by
  rw [xe_lst]
  simp only [xa_cons, xa_nil, List.length_cons, List.length_nil, Nat.reduceAdd, Nat.zero_add, le_size (show 7 ≤ 16777216 by decide), true_and]
theorem xe_lst8 {a0 a1 a2 a3 a4 a5 a6 a7 : PEx} : XSat (eLst (aCons a0 (aCons a1 (aCons a2 (aCons a3 (aCons a4 (aCons a5 (aCons a6 (aCons a7 aNil)))))))) δ S) P X = XSat (a0 δ S) (fun x0 S1 => XSat (a1 δ S1) (fun x1 S2 => XSat (a2 δ S2) (fun x2 S3 => XSat (a3 δ S3) (fun x3 S4 => XSat (a4 δ S4) (fun x4 S5 => XSat (a5 δ S5) (fun x5 S6 => XSat (a6 δ S6) (fun x6 S7 => XSat (a7 δ S7) (fun x7 S8 => P (.ref S8.length) (S8 ++ [.lst [x0, x1, x2, x3, x4, x5, x6, x7]])) X) X) X) X) X) X) X) X := by
  rw [xe_lst]
  simp only [xa_cons, xa_nil, List.length_cons, List.length_nil, Nat.reduceAdd, Nat.zero_add, le_size (show 8 ≤ 16777216 by decide), true_and]
theorem xe_lst9 {a0 a1 a2 a3 a4 a5 a6 a7 a8 : PEx} : XSat (eLst (aCons a0 (aCons a1 (aCons a2 (aCons a3 (aCons a4 (aCons a5 (aCons a6 (aCons a7 (aCons a8 aNil))))))))) δ S) P X = XSat (a0 δ S) (fun x0 S1 => XSat (a1 δ S1) (fun x1 S2 => XSat (a2 δ S2) (fun x2 S3 => XSat (a3 δ S3) (fun x3 S4 => XSat (a4 δ S4) (fun x4 S5 => XSat (a5 δ S5) (fun x5 S6 => XSat (a6 δ S6) (fun x6 S7 => XSat (a7 δ S7) (fun x7 S8 => XSat (a8 δ S8) (fun x8 S9 => P (.ref S9.length) (S9 ++ [.lst [x0, x1, x2, x3, x4, x5, x6, x7, x8]])) X) X) X) X) X) X) X) X) X := by
  rw [xe_lst]
  simp only [xa_cons, xa_nil, List.length_cons, List.length_nil, Nat.reduceAdd, Nat.zero_add, le_size (show 9 ≤ 16777216 by decide), true_and]
theorem xe_lst10 {a0 a1 a2 a3 a4 a5 a6 a7 a8 a9 : PEx} : XSat (eLst (aCons a0 (aCons a1 (aCons a2 (aCons a3 (aCons a4 (aCons a5 (aCons a6 (aCons a7 (aCons a8 (aCons a9 aNil)))))))))) δ S) P X = XSat (a0 δ S) (fun x0 S1 => XSat (a1 δ S1) (fun x1 S2 => XSat (a2 δ S2) (fun x2 S3 => XSat (a3 δ S3) (fun x3 S4 => XSat (a4 δ S4) (fun x4 S5 => XSat (a5 δ S5) (fun x5 S6 => XSat (a6 δ S6) (fun x6 S7 => XSat (a7 δ S7) (fun x7 S8 => XSat (a8 δ S8) (fun x8 S9 => XSat (a9 δ S9) (fun x9 S10 => P (.ref S10.length) (S10 ++ [.lst [x0, x1, x2, x3, x4, x5, x6, x7, x8, x9]])) X) X) X) X) X) X) X) X) X) X := by
  rw [xe_lst]
  simp only [xa_cons, xa_nil, List.length_cons, List.length_nil, Nat.reduceAdd, Nat.zero_add, le_size (show 10 ≤ 16777216 by decide), true_and]
theorem xe_lst11 {a0 a1 a2 a3 a4 a5 a6 a7 a8 a9 a10 : PEx} : XSat (eLst (aCons a0 (aCons a1 (aCons a2 (aCons a3 (aCons a4 (aCons a5 (aCons a6 (aCons a7 (aCons a8 (aCons a9 (aCons a10 aNil))))))))))) δ S) P X = XSat (a0 δ S) (fun x0 S1 => XSat (a1 δ S1) (fun x1 S2 => XSat (a2 δ S2) (fun x2 S3 => XSat (a3 δ S3) (fun x3 S4 => XSat (a4 δ S4) (fun x4 S5 => XSat (a5 δ S5) (fun x5 S6 => XSat (a6 δ S6) (fun x6 S7 => XSat (a7 δ S7) (fun x7 S8 => XSat (a8 δ S8) (fun x8 S9 => XSat (a9 δ S9) (fun x9 S10 => XSat (a10 δ S10) (fun x10 S11 => P (.ref S11.length) (S11 ++ [.lst [x0, x1, x2, x3, x4, x5, x6, x7, x8, x9, x10]])) X) X) X) X) X) X) X) X) X) X) X := by
  rw [xe_lst]
  simp only [xa_cons, xa_nil, List.length_cons, List.length_nil, Nat.reduceAdd, Nat.zero_add, le_size (show 11 ≤ 16777216 by decide), true_and]
theorem xe_lst12 {a0 a1 a2 a3 a4 a5 a6 a7 a8 a9 a10 a11 : PEx} : XSat (eLst (aCons a0 (aCons a1 (aCons a2 (aCons a3 (aCons a4 (aCons a5 (aCons a6 (aCons a7 (aCons a8 (aCons a9 (aCons a10 (aCons a11 aNil)))))))))))) δ S) P X = XSat (a0 δ S) (fun x0 S1 => XSat (a1 δ S1) (fun x1 S2 => XSat (a2 δ S2) (fun x2 S3 => XSat (a3 δ S3) (fun x3 S4 => XSat (a4 δ S4) (fun x4 S5 => XSat (a5 δ S5) (fun x5 S6 => XSat (a6 δ S6) (fun x6 S7 => XSat (a7 δ S7) (fun x7 S8 => XSat (a8 δ S8) (fun x8 S9 => XSat (a9 δ S9) (fun x9 S10 => XSat (a10 δ S10) (fun x10 S11 => XSat (a11 δ S11) (fun x11 S12 => P (.ref S12.length) (S12 ++ [.lst [x0, x1, x2, x3, x4, x5, x6, x7, x8, x9, x10, x11]])) X) X) X) X) X) X) X) X) X) X) X) X := by
  rw [xe_lst]
  simp only [xa_cons, xa_nil, List.length_cons, List.length_nil, Nat.reduceAdd, Nat.zero_add, le_size (show 12 ≤ 16777216 by decide), true_and]
theorem xe_lst13 {a0 a1 a2 a3 a4 a5 a6 a7 a8 a9 a10 a11 a12 : PEx} : XSat (eLst (aCons a0 (aCons a1 (aCons a2 (aCons a3 (aCons a4 (aCons a5 (aCons a6 (aCons a7 (aCons a8 (aCons a9 (aCons a10 (aCons a11 (aCons a12 aNil))))))))))))) δ S) P X = XSat (a0 δ S) (fun x0 S1 => XSat (a1 δ S1) (fun x1 S2 => XSat (a2 δ S2) (fun x2 S3 => XSat (a3 δ S3) (fun x3 S4 => XSat (a4 δ S4) (fun x4 S5 => XSat (a5 δ S5) (fun x5 S6 => XSat (a6 δ S6) (fun x6 S7 => XSat (a7 δ S7) (fun x7 S8 => XSat (a8 δ S8) (fun x8 S9 => XSat (a9 δ S9) (fun x9 S10 => XSat (a10 δ S10) (fun x10 S11 => XSat (a11 δ S11) (fun x11 S12 => XSat (a12 δ S12) (fun x12 S13 => P (.ref S13.length) (S13 ++ [.lst [x0, x1, x2, x3, x4, x5, x6, x7, x8, x9, x10, x11, x12]])) X) X) X) X) X) X) X) X) X) X) X) X) X := by
  rw [xe_lst]
  simp only [xa_cons, xa_nil, List.length_cons, List.length_nil, Nat.reduceAdd, Nat.zero_add, le_size (show 13 ≤ 16777216 by decide), true_and]
theorem xe_lst14 {a0 a1 a2 a3 a4 a5 a6 a7 a8 a9 a10 a11 a12 a13 : PEx} : XSat (eLst (aCons a0 (aCons a1 (aCons a2 (aCons a3 (aCons a4 (aCons a5 (aCons a6 (aCons a7 (aCons a8 (aCons a9 (aCons a10 (aCons a11 (aCons a12 (aCons a13 aNil)))))))))))))) δ S) P X = XSat (a0 δ S) (fun x0 S1 => XSat (a1 δ S1) (fun x1 S2 => XSat (a2 δ S2) (fun x2 S3 => XSat (a3 δ S3) (fun x3 S4 => XSat (a4 δ S4) (fun x4 S5 => XSat (a5 δ S5) (fun x5 S6 => XSat (a6 δ S6) (fun x6 S7 => XSat (a7 δ S7) (fun x7 S8 => XSat (a8 δ S8) (fun x8 S9 => XSat (a9 δ S9) (fun x9 S10 => XSat (a10 δ S10) (fun x10 S11 => XSat (a11 δ S11) (fun x11 S12 => XSat (a12 δ S12) (fun x12 S13 => XSat (a13 δ S13) (fun x13 S14 => P (.ref S14.length) (S14 ++ [.lst [x0, x1, x2, x3, x4, x5, x6, x7, x8, x9, x10, x11, x12, x13]])) X) X) X) X) X) X) X) X) X) X) X) X) X) X := by
  rw [xe_lst]
  simp only [xa_cons, xa_nil, List.length_cons, List.length_nil, Nat.reduceAdd, Nat.zero_add, le_size (show 14 ≤ 16777216 by decide), true_and]
theorem xe_lst15 {a0 a1 a2 a3 a4 a5 a6 a7 a8 a9 a10 a11 a12 a13 a14 : PEx} : XSat (eLst (aCons a0 (aCons a1 (aCons a2 (aCons a3 (aCons a4 (aCons a5 (aCons a6 (aCons a7 (aCons a8 (aCons a9 (aCons a10 (aCons a11 (aCons a12 (aCons a13 (aCons a14 aNil))))))))))))))) δ S) P X = XSat (a0 δ S) (fun x0 S1 => XSat (a1 δ S1) (fun x1 S2 => XSat (a2 δ S2) (fun x2 S3 => XSat (a3 δ S3) (fun x3 S4 => XSat (a4 δ S4) (fun x4 S5 => XSat (a5 δ S5) (fun x5 S6 => XSat (a6 δ S6) (fun x6 S7 => XSat (a7 δ S7) (fun x7 S8 => XSat (a8 δ S8) (fun x8 S9 => XSat (a9 δ S9) (fun x9 S10 => XSat (a10 δ S10) (fun x10 S11 => XSat (a11 δ S11) (fun x11 S12 => XSat (a12 δ S12) (fun x12 S13 => XSat (a13 δ S13) (fun x13 S14 => XSat (a14 δ S14) (fun x14 S15 => P (.ref S15.length) (S15 ++ [.lst [x0, x1, x2, x3, x4, x5, x6, x7, x8, x9, x10, x11, x12, x13, x14]])) X) X) X) X) X) X) X) X) X) X) X) X) X) X) X := by
  rw [xe_lst]
  simp only [xa_cons, xa_nil, List.length_cons, List.length_nil, Nat.reduceAdd, Nat.zero_add, le_size (show 15 ≤ 16777216 by decide), true_and]
theorem xe_lst16 {a0 a1 a2 a3 a4 a5 a6 a7 a8 a9 a10 a11 a12 a13 a14 a15 : PEx} : XSat (eLst (aCons a0 (aCons a1 (aCons a2 (aCons a3 (aCons a4 (aCons a5 (aCons a6 (aCons a7 (aCons a8 (aCons a9 (aCons a10 (aCons a11 (aCons a12 (aCons a13 (aCons a14 (aCons a15 aNil)))))))))))))))) δ S) P X = XSat (a0 δ S) (fun x0 S1 => XSat (a1 δ S1) (fun x1 S2 => XSat (a2 δ S2) (fun x2 S3 => XSat (a3 δ S3) (fun x3 S4 => XSat (a4 δ S4) (fun x4 S5 => XSat (a5 δ S5) (fun x5 S6 => XSat (a6 δ S6) (fun x6 S7 => XSat (a7 δ S7) (fun x7 S8 => XSat (a8 δ S8) (fun x8 S9 => XSat (a9 δ S9) (fun x9 S10 => XSat (a10 δ S10) (fun x10 S11 => XSat (a11 δ S11) (fun x11 S12 => XSat (a12 δ S12) (fun x12 S13 => XSat (a13 δ S13) (fun x13 S14 => XSat (a14 δ S14) (fun x14 S15 => XSat (a15 δ S15) (fun x15 S16 => P (.ref S16.length) (S16 ++ [.lst [x0, x1, x2, x3, x4, x5, x6, x7, x8, x9, x10, x11, x12, x13, x14, x15]])) X) X) X) X) X) X) X) X) X) X) X) X) X) X) X) X := by
  rw [xe_lst]
  simp only [xa_cons, xa_nil, List.length_cons, List.length_nil, Nat.reduceAdd, Nat.zero_add, le_size (show 16 ≤ 16777216 by decide), true_and]
/-! ### loops -/
theorem xforL_inv {gd : Gd} {ct : CT} {body : PSt} (I : Nat → Sl → SS → Prop) : ∀ (l : List D) (i : Nat) (δ : Sl) (S : SS), I i δ S →
    (∀ j d δ S, l[j]? = some d → I (i + j) δ S → gOk gd S ∧ ∃ δ1, bindC ct d δ = some δ1 ∧ XR (body δ1 S) (I (i + j + 1)) Pr Y) → (∀ δ S, I (i + l.length) δ S → gOk gd S ∧ Pn δ S) → XR (forL gd ct body l δ S) Pn Pr Y
  | [], i, δ, S, h0, hs, he => by
    obtain ⟨h1, h2⟩ := he δ S h0
    unfold forL
    rw [if_pos h1]
    exact h2
  | d :: l, i, δ, S, h0, hs, he => by
    obtain ⟨h1, δ1, h2, h3⟩ := hs 0 d δ S rfl h0
    unfold forL
    rw [if_pos h1, h2]
    have step := xforL_inv (gd := gd) (ct := ct) (body := body) I l (i + 1)
    have hs' : ∀ j d δ S, l[j]? = some d → I (i + 1 + j) δ S → gOk gd S ∧ ∃ δ1, bindC ct d δ = some δ1 ∧ XR (body δ1 S) (I (i + 1 + j + 1)) Pr Y := fun j d δ S hj hI => by
      have e : i + 1 + j = i + (j + 1) := by omega
      rw [e] at hI ⊢
      exact hs (j + 1) d δ S hj hI
    have e2 : i + 1 + l.length = i + (d :: l).length := by rw [List.length_cons]; omega
    have he' : ∀ δ S, I (i + 1 + l.length) δ S → gOk gd S ∧ Pn δ S := fun δ S hI => he δ S (e2 ▸ hI)
    show XR (match body δ1 S with
      | .nx δ' S' => forL gd ct body l δ' S'
      | .ct δ' S' => forL gd ct body l δ' S'
      | .bk δ' S' => .nx δ' S'
      | x => x) Pn Pr Y
    cases hb : body δ1 S with
    | nx δ' S' => rw [hb] at h3; exact step δ' S' h3 hs' he'
    | rt d S' => rw [hb] at h3; exact h3
    | exc δ' c f S' => rw [hb] at h3; exact h3
    | _ => rw [hb] at h3; exact h3.elim
theorem x_for {it : PIt} {ct : CT} {body : PSt} (h : XSat (it δ S) (fun x S1 => ∃ I : Nat → Sl → SS → Prop, I 0 δ S1 ∧ (∀ j d δ S, x.1[j]? = some d → I j δ S → gOk x.2 S ∧ ∃ δ1, bindC ct d δ = some δ1 ∧ XR (body δ1 S) (I (j + 1)) Pr Y) ∧ (∀ δ S, I x.1.length δ S → gOk x.2 S ∧ Pn δ S)) (Y δ)) :
    XR (sFor it ct body δ S) Pn Pr Y := by
  unfold sFor
  rw [xr_to]
  refine h.mono (fun x S1 ⟨I, h0, hs, he⟩ => ?_) (fun _ _ _ h => h)
  exact xforL_inv I x.1 0 δ S1 h0 (by simpa using hs) (by simpa using he)
theorem x_while {t : PTs'} {b : PSt} (I : Nat → Sl → SS → Prop) (hs : ∀ m δ S, I m δ S → XSat (t δ S) (fun c S1 => if c = true then XR (b δ S1) (fun δ' S' => ∃ m', m' < m ∧ I m' δ' S') Pr Y else Pn δ S1) (Y δ)) :
    ∀ (m : Nat) (δ : Sl) (S : SS), I m δ S → XR (sWhile t b δ S) Pn Pr Y := by
  intro m
  induction m using Nat.strongRecOn with
  | ind m ih =>
    intro δ S h
    rw [sWhile_eq, xr_to]
    refine (hs m δ S h).mono (fun c S1 hc => ?_) (fun _ _ _ h => h)
    cases c with
    | false => exact hc
    | true =>
      simp only [if_true] at hc ⊢
      cases hb : b δ S1 with
      | nx δ' S' =>
        rw [hb] at hc
        obtain ⟨m', hm, hI⟩ := hc
        exact ih m' hm δ' S' hI
      | rt d S' => rw [hb] at hc; exact hc
      | exc δ' c f S' => rw [hb] at hc; exact hc
      | _ => rw [hb] at hc; exact hc.elim
/-- all of a tuple's entries, tested one by one and refused by the first bad one -/
theorem x_list {r : R D} {P : D → SS → Prop} (h : Sat r P) : XSat r P X := h.x
end
end DL
set_option Elab.async false
set_option linter.all false
set_option maxRecDepth 100000
set_option maxHeartbeats 2000000
/-! DSame: values that are alike in == and in repr. -/
namespace DL
open PySem L2
mutual
def niceD : D → Prop
  | .non | .bl _ => True
  | .int i => i.natAbs < 2 ^ 1900
  | .str x => PyData.strOk x = true ∧ (reprText x).length ≤ 600
  | .tup ds => niceDs ds
  | _ => False
def niceDs : List D → Prop
  | [] => True
  | d :: ds => niceD d ∧ niceDs ds
end
mutual
/-- how long its text can be -/
def wD : D → Nat
  | .tup ds => wDs ds + 3
  | _ => 601
def wDs : List D → Nat
  | [] => 0
  | d :: ds => wD d + 2 + wDs ds
end
mutual
def dpD : D → Nat
  | .tup ds => dpDs ds + 1
  | _ => 0
def dpDs : List D → Nat
  | [] => 0
  | d :: ds => max (dpD d) (dpDs ds)
end
theorem tupleText_len (ts : List Str) : (tupleText ts).length ≤ piled ts + 3 := by
  unfold tupleText
  rw [strLen_append, strLen_append]
  have e1 : ((("(" : String) : Str)).length = 1 := rfl
  have e3 : (((if ts.length == 1 then ",)" else ")" : String) : Str)).length ≤ 2 := by split <;> decide
  rw [e1]
  by_cases h : ts = []
  · subst h
    have : (Str.join ", " []).length = 0 := rfl
    omega
  · have := join_length_add ts h
    omega
mutual
theorem nice_ok : ∀ {d : D}, niceD d → ∃ p, (∀ f, pyI f d = some p) ∧ p.showable = true ∧ p.canLay0 = true ∧ p.depth ≤ dpD d ∧ p.shown.length ≤ wD d ∧ PyData.eqv p p = true
  | .non, _ => ⟨.none, fun _ => rfl, rfl, rfl, Nat.le_refl _, (by decide : (4 : Nat) ≤ 601), rfl⟩
  | .bl b, _ => ⟨.bool b, fun _ => rfl, rfl, rfl, Nat.le_refl _, by cases b <;> (show _ ≤ 601) <;> decide, by cases b <;> rfl⟩
  | .int i, h => by
    have h : i.natAbs < 2 ^ 1900 := h
    have e : (2 : Nat) ^ 1900 ≤ 10 ^ 600 := by decide +kernel
    refine ⟨.int i, fun _ => rfl, ?_, rfl, Nat.le_refl _, int_len (a := i) (k := 600) (by decide) (Nat.lt_of_lt_of_le h e), ?_⟩
    · show decide (i.natAbs.log2 < 1920) = true
      rw [decide_eq_true (log2_1920 h)]
    · show (i == i) = true
      simp
  | .str x, h => by
    have h : PyData.strOk x = true ∧ (reprText x).length ≤ 600 := h
    exact ⟨.str x, fun _ => rfl, rfl, h.1, Nat.le_refl _, Nat.le_trans h.2 (by decide : (600 : Nat) ≤ 601), by show (x == x) = true; simp⟩
  | .tup ds, h => by
    have h : niceDs ds := h
    obtain ⟨ps, h1, h2, h3, h4, h5, h6⟩ := nices_ok h
    refine ⟨.tuple ps, fun f => ?_, h2, h3, ?_, ?_, h6⟩
    · show (pysI f ds).map PyData.tuple = _
      rw [h1 f]
      rfl
    · show PyData.depthAll ps + 1 ≤ dpDs ds + 1
      omega
    · have := tupleText_len (PyData.shownAll ps)
      show (tupleText (PyData.shownAll ps)).length ≤ wDs ds + 3
      omega
  | .rls _, h => h.elim
  | .ref _, h => h.elim
  | .ty _, h => h.elim
  | .gl _, h => h.elim
theorem nices_ok : ∀ {ds : List D}, niceDs ds → ∃ ps, (∀ f, pysI f ds = some ps) ∧ PyData.showableAll ps = true ∧ PyData.canLayAll0 ps = true ∧ PyData.depthAll ps ≤ dpDs ds ∧ piled (PyData.shownAll ps) ≤ wDs ds ∧ PyData.eqvAll ps ps = true
  | [], _ => ⟨[], fun _ => rfl, rfl, rfl, Nat.le_refl _, Nat.le_refl _, rfl⟩
  | d :: ds, h => by
    have h : niceD d ∧ niceDs ds := h
    obtain ⟨p, a1, a2, a3, a4, a5, a6⟩ := nice_ok h.1
    obtain ⟨ps, h1, h2, h3, h4, h5, h6⟩ := nices_ok h.2
    refine ⟨p :: ps, fun f => ?_, ?_, ?_, ?_, ?_, ?_⟩
    · show (match pyI f d, pysI f ds with
        | some p, some ps => some (p :: ps)
        | _, _ => none) = _
      rw [a1 f, h1 f]
    · show (p.showable && PyData.showableAll ps) = true
      rw [a2, h2]; rfl
    · show (p.canLay0 && PyData.canLayAll0 ps) = true
      rw [a3, h3]; rfl
    · show max p.depth (PyData.depthAll ps) ≤ max (dpD d) (dpDs ds)
      omega
    · show piled (p.shown :: PyData.shownAll ps) ≤ wD d + 2 + wDs ds
      rw [piled_cons]
      omega
    · show (PyData.eqv p p && PyData.eqvAll ps ps) = true
      rw [a6, h6]; rfl
end
section
variable {S : SS} {P : D → SS → Prop} {d : D}
structure Nice (d : D) : Prop where
  n : niceD d
  dp : dpD d ≤ 60
  w : wD d ≤ 16777216
theorem nice_eq (h : Nice d) : SatO (cmpD .Eq d d S) P = P (.bl true) S := by
  obtain ⟨p, h1, h2, h3, h4, h5, h6⟩ := nice_ok h.n
  have hd := h.dp
  have sh : SeqAt.shaped p = true := by
    unfold SeqAt.shaped
    rw [h3, decide_eq_true (show p.depth ≤ 64 by omega)]
    rfl
  have hp : py S d = some p := h1 _
  cases d with
  | str x => simp
  | _ => rw [eq_any hp hp (fun x y h _ => by cases h) sh sh, h6]
theorem nice_ne (h : Nice d) : SatO (cmpD .NotEq d d S) P = P (.bl false) S := by
  obtain ⟨p, h1, h2, h3, h4, h5, h6⟩ := nice_ok h.n
  have hd := h.dp
  have sh : SeqAt.shaped p = true := by
    unfold SeqAt.shaped
    rw [h3, decide_eq_true (show p.depth ≤ 64 by omega)]
    rfl
  have hp : py S d = some p := h1 _
  cases d with
  | str x => simp
  | _ => rw [ne_any hp hp (fun x y h _ => by cases h) sh sh, h6]; rfl
theorem nice_repr (h : Nice d) (k : ∀ x, P (.str x) S) : SatO (one reprD [d] S) P := by
  obtain ⟨p, h1, h2, h3, h4, h5, h6⟩ := nice_ok h.n
  rw [repr_any (h1 _) ⟨h2, h3, by have := h.dp; omega, by have := h.w; rw [sizeLine_eq]; omega⟩]
  exact k _
theorem nice_repr2 (h : Nice d) : ∃ x, ∀ (S : SS) (P : D → SS → Prop), SatO (one reprD [d] S) P = P (.str x) S := by
  obtain ⟨p, h1, h2, h3, h4, h5, h6⟩ := nice_ok h.n
  exact ⟨p.shown, fun S P => repr_any (h1 _) ⟨h2, h3, by have := h.dp; omega, by have := h.w; rw [sizeLine_eq]; omega⟩⟩
theorem nice_int {i : Int} {n : Nat} (h : i.natAbs < 2 ^ n) (hn : n ≤ 1900) : niceD (.int i) := Nat.lt_of_lt_of_le h (Nat.pow_le_pow_right (by decide) hn)
theorem niceDs_iff {ds : List D} : niceDs ds ↔ ∀ d ∈ ds, niceD d := by
  induction ds with
  | nil => exact ⟨fun _ d h => by simp at h, fun _ => trivial⟩
  | cons x xs ih =>
    show niceD x ∧ niceDs xs ↔ _
    rw [ih]
    simp
end
end DL
set_option Elab.async false
set_option linter.all false
set_option maxRecDepth 100000
set_option maxHeartbeats 2000000
/-! DPlain2: values out of tuples alone. -/
namespace DL
open PySem L2
mutual
def aP : D → Bool
  | .non | .bl _ | .int _ | .str _ => true
  | .tup ds => decide (ds.length ≤ 100000) && aPs ds
  | _ => false
def aPs : List D → Bool
  | [] => true
  | d :: ds => aP d && aPs ds
end
theorem aPs_all : ∀ {ds : List D}, aPs ds = true → ∀ d ∈ ds, aP d = true
  | d :: ds, h, x, hx => by
    have h : (aP d && aPs ds) = true := h
    rw [Bool.and_eq_true] at h
    rcases List.mem_cons.mp hx with rfl | hx
    · exact h.1
    · exact aPs_all h.2 x hx
theorem aPs_of : ∀ {ds : List D}, (∀ d ∈ ds, aP d = true) → aPs ds = true
  | [], _ => rfl
  | d :: ds, h => by
    show (aP d && aPs ds) = true
    rw [h d (by simp), aPs_of fun x hx => h x (by simp [hx])]
    rfl
theorem aP_tup {ds : List D} (h : aP (.tup ds) = true) : ds.length ≤ 100000 ∧ ∀ d ∈ ds, aP d = true := by
  have h : (decide (ds.length ≤ 100000) && aPs ds) = true := h
  rw [Bool.and_eq_true, decide_eq_true_eq] at h
  exact ⟨h.1, aPs_all h.2⟩
theorem aP_of {ds : List D} (h : ds.length ≤ 100000) (h2 : ∀ d ∈ ds, aP d = true) : aP (.tup ds) = true := by
  show (decide (ds.length ≤ 100000) && aPs ds) = true
  rw [decide_eq_true h, aPs_of h2]
  rfl
end DL
set_option Elab.async false
set_option linter.all false
set_option maxRecDepth 100000
set_option maxHeartbeats 2000000
/-! DDrawX: lists whose entries are drawn. -/
namespace DL
open PySem L2
section
variable {S : SS} {P : D → SS → Prop}
/-- a list whose entries are drawn, each with at most c draws -/
theorem lc_draw {it : PIt} {ct : CT} {vs : List Nat} {el : PEx} {δ : Sl} {kd ka n c L : Nat} {Q : D → Prop}
    (hit : Sat (it δ S) fun x S1 => (∀ S', gOk x.2 S') ∧ Up ka S S1 ∧ DA S1 kd ka n ∧ x.1.length ≤ L) (hL : L ≤ 100000)
    (hel : ∀ (d : D) (S' : SS) (m : Nat), m ≤ n + c * L → Up ka S S' → DA S' kd ka m → ∃ δ1, bindC ct d (wipeD δ vs) = some δ1 ∧ ∀ P : D → SS → Prop, (∀ y S'', Q y → Up ka S' S'' → DA S'' kd ka (m + c) → P y S'') → Sat (el δ1 S') P)
    (k : ∀ (j : Nat) (ys : List D) (S' : SS), S'[j]? = some (.lst ys) → (∀ y ∈ ys, Q y) → ys.length ≤ L → Up ka S S' → DA S' kd ka (n + c * L) → P (.ref j) S') : Sat (eLc it ct vs tYes' el δ S) P := by
  refine e_lc (hit.mono fun x S1 hx => ?_)
  obtain ⟨hgd, hup, hda, hxl⟩ := hx
  have hka : ka < S1.length := by
    obtain ⟨_, _, _, _, h2, _⟩ := hda
    exact get_len h2
  refine ⟨fun j acc S' => S'[S1.length]? = some (.lst acc) ∧ (∀ y ∈ acc, Q y) ∧ acc.length = min j x.1.length ∧ Up ka S S' ∧ DA S' kd ka (n + c * j) ∧ S1.length < S'.length, fun i acc S' hI => hI.1, ?_, fun j d acc S' hj hI => ?_, fun acc S' hI => ?_⟩
  · refine ⟨by simp, by simp, by simp, hup.trans Up.app, hda.app, by simp⟩
  · obtain ⟨h1, h2, h3, h4, h5, h6⟩ := hI
    have hjl := (List.getElem?_eq_some_iff.mp hj).1
    have hcj : c * j ≤ c * L := Nat.mul_le_mul_left c (by omega)
    obtain ⟨δ1, hb, he⟩ := hel d S' (n + c * j) (by omega) h4 h5
    refine ⟨hgd _, δ1, hb, ?_⟩
    simp only [t_yes, if_true]
    refine he _ fun y S2 hy up2 da2 => ⟨acc, up2.get _ _ (by omega) h1, by rw [sizeLine_eq]; omega, ?_, ?_, ?_, ?_, ?_, ?_⟩
    · have := up2.len
      rw [List.getElem?_set_self (by omega)]
    · intro z hz
      rcases List.mem_append.mp hz with hz | hz
      · exact h2 z hz
      · rw [List.mem_singleton.mp hz]
        exact hy
    · rw [List.length_append, h3, List.length_singleton]
      omega
    · have u3 := h4.trans up2
      refine ⟨by rw [List.length_set]; exact u3.len, fun k o hk e => ?_⟩
      have hs : k ≠ S1.length := by
        have := get_len e
        have := hup.len
        omega
      rw [List.getElem?_set_ne (by omega)]
      exact u3.get k o hk e
    · obtain ⟨ne, ds, p, a1, a2, a3⟩ := da2
      have hd1 : kd < S1.length := by
        obtain ⟨_, _, _, b1, _⟩ := hda
        exact get_len b1
      refine ⟨ne, ds, p, by rw [List.getElem?_set_ne (by omega)]; exact a1, by rw [List.getElem?_set_ne (by omega)]; exact a2, ?_⟩
      have : c * (j + 1) = c * j + c := Nat.mul_succ c j
      exact ⟨by omega, a3.2⟩
    · have := up2.len
      rw [List.length_set]
      omega
  · obtain ⟨h1, h2, h3, h4, h5, h6⟩ := hI
    have hcj : c * x.1.length ≤ c * L := Nat.mul_le_mul_left c hxl
    exact ⟨hgd _, k _ _ _ h1 h2 (by rw [h3]; omega) h4 (h5.up (by omega))⟩
theorem nice_list {k : Nat} {xs : List D} (h1 : S[k]? = some (.lst xs)) (h : Nice (.tup xs)) : ∃ ps, py S (.ref k) = some (.list ps) ∧ SeqAt.shaped (.list ps) = true ∧ (∀ f, pysI f xs = some ps) ∧ PyData.eqvAll ps ps = true := by
  obtain ⟨ps, a1, a2, a3, a4, a5, a6⟩ := nices_ok (ds := xs) h.n
  refine ⟨ps, ?_, ?_, a1, a6⟩
  · show lstOf S 4 k = _
    unfold lstOf
    simp only [h1, a1]
    rfl
  · have hd : dpDs xs + 1 ≤ 60 := h.dp
    show (PyData.canLayAll0 ps && decide (PyData.depthAll ps + 1 ≤ 64)) = true
    rw [a3, decide_eq_true (by omega)]
    rfl
theorem nice_eqL {i j : Nat} {xs : List D} (h1 : S[i]? = some (.lst xs)) (h2 : S[j]? = some (.lst xs)) (h : Nice (.tup xs)) : SatO (cmpD .Eq (.ref i) (.ref j) S) P = P (.bl true) S := by
  obtain ⟨ps, a1, a2, a3, a4⟩ := nice_list h1 h
  obtain ⟨qs, b1, b2, b3, b4⟩ := nice_list h2 h
  have : qs = ps := by
    have := (a3 fun _ => none).symm.trans (b3 _)
    injection this with this
    exact this.symm
  subst this
  rw [eq_any a1 b1 (fun x y h _ => by cases h) a2 b2]
  show P (.bl (PyData.eqvAll qs qs)) S = _
  rw [a4]
theorem nice_neL {i j : Nat} {xs : List D} (h1 : S[i]? = some (.lst xs)) (h2 : S[j]? = some (.lst xs)) (h : Nice (.tup xs)) : SatO (cmpD .NotEq (.ref i) (.ref j) S) P = P (.bl false) S := by
  obtain ⟨ps, a1, a2, a3, a4⟩ := nice_list h1 h
  obtain ⟨qs, b1, b2, b3, b4⟩ := nice_list h2 h
  have : qs = ps := by
    have := (a3 fun _ => none).symm.trans (b3 _)
    injection this with this
    exact this.symm
  subst this
  rw [ne_any a1 b1 (fun x y h _ => by cases h) a2 b2]
  show P (.bl (!PyData.eqvAll qs qs)) S = _
  rw [a4]
  rfl
/-- out of each entry's form the list's -/
theorem exs_map {α : Type} {f : α → D} {R : α → Prop} : ∀ {ys : List D}, (∀ y ∈ ys, ∃ q, y = f q ∧ R q) → ∃ ps : List α, ys = ps.map f ∧ (∀ q ∈ ps, R q) ∧ ps.length = ys.length
  | [], _ => ⟨[], rfl, by simp, rfl⟩
  | y :: ys, h => by
    obtain ⟨q, rfl, hq⟩ := h y (by simp)
    obtain ⟨ps, rfl, h2, h3⟩ := exs_map (f := f) (R := R) (ys := ys) fun z hz => h z (by simp [hz])
    refine ⟨q :: ps, rfl, fun x hx => ?_, by simp⟩
    rcases List.mem_cons.mp hx with rfl | hx
    · exact hq
    · exact h2 x hx
theorem so_rep {xs : List D} {k : Int} (h : xs ≠ [] ∧ 2 ≤ k ∧ k ≤ 1000 ∧ xs.length ≤ 1000) : SatO (binD .Mult (.tup xs) (.int k) S) P = P (.tup (List.replicate k.toNat xs).flatten) S := by
  show SatO (mulD (.tup xs) (.int k) S) P = _
  unfold mulD
  simp only [if_pos h]
  rfl
theorem so_repG {xs : List D} {k : Int} (h1 : 1 ≤ k) (h2 : k ≤ 1000) (h3 : xs.length ≤ 1000) : SatO (binD .Mult (.tup xs) (.int k) S) P = P (.tup (List.replicate k.toNat xs).flatten) S := by
  by_cases hx : xs ≠ [] ∧ 2 ≤ k
  · exact so_rep ⟨hx.1, hx.2, h2, h3⟩
  · show SatO (mulD (.tup xs) (.int k) S) P = _
    unfold mulD
    have n1 : ¬ (xs ≠ [] ∧ 2 ≤ k ∧ k ≤ 1000 ∧ xs.length ≤ 1000) := fun z => hx ⟨z.1, z.2.1⟩
    have c : xs = [] ∨ k = 1 := by
      by_cases h0 : xs = []
      · exact .inl h0
      · refine .inr ?_
        have : ¬ 2 ≤ k := fun z => hx ⟨h0, z⟩
        omega
    simp only [if_neg n1]
    rw [if_pos ⟨c, by omega, by omega⟩]
    rcases c with rfl | rfl
    · have : (List.replicate k.toNat ([] : List D)).flatten = [] := by simp
      rw [this]
      rfl
    · have : (List.replicate (1 : Int).toNat xs).flatten = xs := by simp
      rw [this]
      rfl
theorem rep_one {n : Nat} {d : D} : (List.replicate n [d]).flatten = List.replicate n d := by
  induction n with
  | zero => rfl
  | succ n ih => rw [List.replicate_succ, List.flatten_cons, ih]; rfl
theorem xe_tup0 {δ : Sl} {X : XQ} : XSat (eTup aNil δ S) P X = P (.tup []) S := by
  rw [xe_tup]
  simp only [xa_nil, List.length_nil, le_size (show 0 ≤ 16777216 by decide), true_and]
@[simp] theorem so_isnot_tt : SatO (cmpD .IsNot (.bl true) (.bl true) S) P = P (.bl false) S := (rfl)
@[simp] theorem so_isnot_nn : SatO (cmpD .IsNot .non .non S) P = P (.bl false) S := (rfl)
end
end DL
set_option Elab.async false
set_option linter.all false
set_option maxRecDepth 100000
set_option maxHeartbeats 2000000
/-! DText: the texts of numbers and of pairs tell them. -/
namespace DL
open PySem L2
def dval (l : List Nat) : Nat := l.foldl (fun a c => 10 * a + (c - 48)) 0
def dig (n : Nat) : List Nat := (Nat.toDigits 10 n).map Char.toNat
theorem dig_eq (n : Nat) : dig n = if n < 10 then [48 + n] else dig (n / 10) ++ [48 + n % 10] := by
  unfold dig
  rw [Nat.toDigits_eq_if (by decide)]
  split
  · rename_i h
    simp [Nat.toNat_digitChar_of_lt_ten h]
  · rw [List.map_append]
    have : n % 10 < 10 := Nat.mod_lt _ (by decide)
    simp [Nat.toNat_digitChar_of_lt_ten this]
theorem dval_dig (n : Nat) : dval (dig n) = n := by
  induction n using Nat.strongRecOn with
  | ind n ih =>
    rw [dig_eq]
    split
    · show 10 * 0 + (48 + n - 48) = n
      omega
    · have := ih (n / 10) (by omega)
      unfold dval at this ⊢
      rw [List.foldl_append, this]
      show 10 * (n / 10) + (48 + n % 10 - 48) = n
      omega
theorem dig_mem : ∀ (n : Nat), ∀ c ∈ dig n, 48 ≤ c ∧ c ≤ 57 := by
  intro n
  induction n using Nat.strongRecOn with
  | ind n ih =>
    intro c hc
    rw [dig_eq] at hc
    split at hc
    · rw [List.mem_singleton.mp hc]
      omega
    · rcases List.mem_append.mp hc with hc | hc
      · exact ih (n / 10) (by omega) c hc
      · rw [List.mem_singleton.mp hc]
        omega
def itx (i : Int) : List Nat := (Str.ofString (toString i)).cps.toList
theorem txt_ofString (s : String) : (Str.ofString s).cps.toList = s.toList.map Char.toNat := by
  rw [Str.ofString_eq_toList]
theorem itx_nat (n : Nat) : itx (Int.ofNat n) = dig n := by
  unfold itx dig
  rw [txt_ofString]
  show (Nat.repr n).toList.map Char.toNat = _
  rw [Nat.toList_repr]
theorem itx_neg (n : Nat) : itx (Int.negSucc n) = 45 :: dig (n + 1) := by
  unfold itx dig
  rw [txt_ofString]
  show ("-" ++ Nat.repr (n + 1)).toList.map Char.toNat = _
  rw [String.toList_append, List.map_append, Nat.toList_repr]
  rfl
theorem itx_mem {i : Int} {c : Nat} (h : c ∈ itx i) : c = 45 ∨ (48 ≤ c ∧ c ≤ 57) := by
  cases i with
  | ofNat n =>
    rw [itx_nat] at h
    exact .inr (dig_mem n c h)
  | negSucc n =>
    rw [itx_neg] at h
    rcases List.mem_cons.mp h with h | h
    · exact .inl h
    · exact .inr (dig_mem _ c h)
theorem itx_inj {i j : Int} (h : itx i = itx j) : i = j := by
  cases i with
  | ofNat n =>
    cases j with
    | ofNat m =>
      rw [itx_nat, itx_nat] at h
      have := congrArg dval h
      rw [dval_dig, dval_dig] at this
      rw [this]
    | negSucc m =>
      rw [itx_nat, itx_neg] at h
      have := dig_mem n 45 (by rw [h]; simp)
      omega
  | negSucc n =>
    cases j with
    | ofNat m =>
      rw [itx_nat, itx_neg] at h
      have := dig_mem m 45 (by rw [← h]; simp)
      omega
    | negSucc m =>
      rw [itx_neg, itx_neg] at h
      injection h with _ h
      have := congrArg dval h
      rw [dval_dig, dval_dig] at this
      have : n = m := by omega
      rw [this]
theorem txt_append (x y : Str) : (x ++ y).cps.toList = x.cps.toList ++ y.cps.toList := by
  show (x.cps ++ y.cps).toList = _
  simp
theorem pair_txt (a b : Int) : (PyData.tuple [.int a, .int b]).shown.cps.toList = 40 :: (itx a ++ 44 :: 32 :: (itx b ++ [41])) := by
  show (("(" : Str) ++ (Str.ofString (toString a) ++ ", " ++ Str.ofString (toString b)) ++ (")" : Str)).cps.toList = _
  rw [txt_append, txt_append, txt_append, txt_append]
  have a1 : ("(" : Str).cps.toList = [40] := rfl
  have a2 : (")" : Str).cps.toList = [41] := rfl
  have a3 : (", " : Str).cps.toList = [44, 32] := rfl
  rw [a1, a2, a3]
  show [40] ++ (itx a ++ [44, 32] ++ itx b) ++ [41] = _
  simp
/-- two texts up to the first comma -/
theorem cut_inj : ∀ {A B R T : List Nat}, (∀ c ∈ A, c ≠ 44) → (∀ c ∈ B, c ≠ 44) → A ++ 44 :: R = B ++ 44 :: T → A = B ∧ R = T
  | [], [], _, _, _, _, h => by
    injection h with _ h
    exact ⟨rfl, h⟩
  | [], b :: B, _, _, _, hb, h => by
    injection h with h _
    exact absurd h.symm (hb b (by simp))
  | a :: A, [], _, _, ha, _, h => by
    injection h with h _
    exact absurd h (ha a (by simp))
  | a :: A, b :: B, _, _, ha, hb, h => by
    injection h with h1 h2
    obtain ⟨h3, h4⟩ := cut_inj (A := A) (B := B) (fun c hc => ha c (by simp [hc])) (fun c hc => hb c (by simp [hc])) h2
    exact ⟨by rw [h1, h3], h4⟩
theorem itx_comma {i : Int} : ∀ c ∈ itx i, c ≠ 44 := fun c hc => by
  have := itx_mem hc
  omega
theorem pair_inj {a b c d : Int} (h : (PyData.tuple [.int a, .int b]).shown = (PyData.tuple [.int c, .int d]).shown) : a = c ∧ b = d := by
  have h := congrArg (fun s : Str => s.cps.toList) h
  simp only [pair_txt] at h
  injection h with _ h
  obtain ⟨h1, h2⟩ := cut_inj itx_comma itx_comma h
  injection h2 with _ h2
  have h3 := List.append_cancel_right h2
  exact ⟨itx_inj h1, itx_inj h3⟩
/-- a text that no pair of numbers has -/
theorem pair_not1 {a b : Int} {l : List Nat} (h : (PyData.tuple [.int a, .int b]).shown.cps.toList = l) (h0 : ∀ r, l ≠ 40 :: r) : False := by
  rw [pair_txt] at h
  exact h0 _ h.symm
/-- "(" x "," r, r not begun by a blank, or with a sign in x or behind that no number has -/
theorem pair_not2 {a b : Int} {A R : List Nat} (h : (PyData.tuple [.int a, .int b]).shown.cps.toList = 40 :: (A ++ 44 :: R)) (hA : ∀ c ∈ A, c ≠ 44) (h0 : (∃ c ∈ A, c ≠ 45 ∧ ¬ (48 ≤ c ∧ c ≤ 57)) ∨ (∀ r, R ≠ 32 :: r) ∨ (∃ B, R = 32 :: (B ++ [41]) ∧ ∃ c ∈ B, c ≠ 45 ∧ ¬ (48 ≤ c ∧ c ≤ 57))) : False := by
  rw [pair_txt] at h
  injection h with _ h
  obtain ⟨h1, h2⟩ := cut_inj itx_comma hA h
  rcases h0 with ⟨c, hc, h3⟩ | h0 | ⟨B, hB, c, hc, h3⟩
  · rw [← h1] at hc
    have := itx_mem hc
    omega
  · exact h0 _ h2.symm
  · rw [hB] at h2
    injection h2 with _ h2
    have h4 := List.append_cancel_right h2
    rw [← h4] at hc
    have := itx_mem hc
    omega
end DL
set_option Elab.async false
set_option linter.all false
set_option maxRecDepth 100000
set_option maxHeartbeats 2000000
/-! DLc: comprehensions that look at what stands. -/
namespace DL
open PySem L2
section
variable {S : SS} {P : D → SS → Prop}
/-- those that pass, each by a function; what stood stands -/
theorem lc_filtA {it : PIt} {ct : CT} {vs : List Nat} {el : PEx} {t : PTs'} {δ : Sl} {items : List D} {g : D → D} {c : D → Bool} {S0 : SS} (hit : Sat (it δ S) fun x S1 => (∀ l, gOk x.2 (S0 ++ l)) ∧ S1 = S0 ∧ x.1 = items)
    (hel : ∀ d ∈ items, ∃ δ1, bindC ct d (wipeD δ vs) = some δ1 ∧ (∀ (l0 : SS) (P : Bool → SS → Prop), (∀ l, P (c d) (S0 ++ l0 ++ l)) → Sat (t δ1 (S0 ++ l0)) P) ∧ ∀ (l0 : SS) (P : D → SS → Prop), c d = true → (∀ l, P (g d) (S0 ++ l0 ++ l)) → Sat (el δ1 (S0 ++ l0)) P) (hl : items.length ≤ 100000) (k : ∀ l, P (.ref S0.length) (S0 ++ MO.lst ((items.filter c).map g) :: l)) : Sat (eLc it ct vs t el δ S) P := by
  refine e_lc (hit.mono fun x S1 hx => ?_)
  obtain ⟨hgd, rfl, hi⟩ := hx
  subst hi
  refine ⟨fun j acc S' => acc = ((x.1.take j).filter c).map g ∧ ∃ l, S' = S1 ++ .lst acc :: l, fun i acc S' hI => ?_, ⟨rfl, [], rfl⟩, fun j d acc S' hj hI => ?_, fun acc S' hI => ?_⟩
  · obtain ⟨_, l, rfl⟩ := hI
    simp
  · obtain ⟨rfl, l, rfl⟩ := hI
    obtain ⟨δ1, hb, ht, he⟩ := hel d (List.mem_of_getElem? hj)
    have hjl := (List.getElem?_eq_some_iff.mp hj).1
    refine ⟨hgd _, δ1, hb, ?_⟩
    refine ht _ _ fun l2 => ?_
    have ef : (x.1.take (j + 1)).filter c = (x.1.take j).filter c ++ (if c d = true then [d] else []) := by
      rw [List.take_add_one, hj, List.filter_append]
      congr 1
      cases hcd : c d <;> simp [hcd]
    cases hcd : c d with
    | false =>
      simp only [Bool.false_eq_true, if_false]
      refine ⟨by rw [ef, hcd]; simp, l ++ l2, by simp⟩
    | true =>
      simp only [if_true]
      have hlen : (((x.1.take j).filter c).map g).length ≤ 100000 := by
        rw [List.length_map]
        exact Nat.le_trans (List.length_filter_le _ _) (by rw [List.length_take]; omega)
      rw [List.append_assoc]
      refine he _ _ hcd fun l3 => ⟨((x.1.take j).filter c).map g, by simp, by rw [sizeLine_eq]; omega, ?_, l ++ l2 ++ l3, by simp⟩
      rw [ef, hcd]
      simp
  · obtain ⟨rfl, l, rfl⟩ := hI
    refine ⟨hgd _, ?_⟩
    rw [List.take_length]
    exact k l
theorem x_asg2 {δ : Sl} {Y : Sl → XQ} {Pn : Sl → SS → Prop} {f : PEx} {i j : Nat} : XR (sAsg f (.many [i, j]) δ S) Pn P Y = XSat (f δ S) (fun x S1 => match x with
  | .tup [a, b] => Pn ((δ.set i (some a)).set j (some b)) S1
  | _ => False) (Y δ) := by
  rw [x_asgN]
  congr 1
  funext x S1
  unfold DL.bindC
  cases x with
  | tup ds =>
    match ds with
    | [] => rfl
    | [_] => rfl
    | [a, b] => rfl
    | a :: b :: c :: ds' =>
      have hl : ¬ ((a :: b :: c :: ds').length = [i, j].length) := by simp
      show (match (if (a :: b :: c :: ds').length = [i, j].length then some (setsD [i, j] (a :: b :: c :: ds') δ) else none) with
        | some δ' => Pn δ' S1
        | none => False) = False
      rw [if_neg hl]
  | _ => rfl
theorem so_addL' {i j : Nat} {xs ys : List D} (h1 : S[i]? = some (.lst xs)) (h2 : S[j]? = some (.lst ys)) (h : xs.length + ys.length ≤ 16777216) : SatO (binD .Add (.ref i) (.ref j) S) P = P (.ref S.length) (S ++ [.lst (xs ++ ys)]) := by
  show SatO (addD (.ref i) (.ref j) S) P = _
  unfold addD
  simp only [h1, h2]
  rw [if_pos (le_size h)]
  rfl
end
end DL
set_option Elab.async false
set_option linter.all false
set_option maxRecDepth 100000
set_option maxHeartbeats 2000000
/-! DEq: == of two values without booleans. -/
namespace DL
open PySem L2
mutual
def clnD : D → Bool
  | .non | .int _ | .str _ => true
  | .tup ds => clnDs ds
  | _ => false
def clnDs : List D → Bool
  | [] => true
  | d :: ds => clnD d && clnDs ds
end
theorem pysI_cons {f : Nat → Option PyData} {d : D} {ds : List D} {ps : List PyData} (h : pysI f (d :: ds) = some ps) : ∃ p qs, pyI f d = some p ∧ pysI f ds = some qs ∧ ps = p :: qs := by
  have h : (match pyI f d, pysI f ds with
    | some p, some ps => some (p :: ps)
    | _, _ => none) = some ps := h
  split at h
  · rename_i p qs h1 h2
    cases h
    exact ⟨p, qs, h1, h2, rfl⟩
  · cases h
mutual
theorem cln_eqv {f g : Nat → Option PyData} : ∀ {d e : D} {p q : PyData}, clnD d = true → clnD e = true → pyI f d = some p → pyI g e = some q → (PyData.eqv p q = true ↔ d = e)
  | .non, e, p, q, hd, he, h1, h2 => by
    cases h1
    cases e with
    | non => cases h2; exact ⟨fun _ => rfl, fun _ => rfl⟩
    | int _ => cases h2; exact ⟨fun h => (by cases h), fun h => (by cases h)⟩
    | str _ => cases h2; exact ⟨fun h => (by cases h), fun h => (by cases h)⟩
    | tup es =>
      obtain ⟨ps, _, rfl⟩ := Option.map_eq_some_iff.mp (show (pysI g es).map PyData.tuple = some q from h2)
      exact ⟨fun h => (by cases h), fun h => (by cases h)⟩
    | _ => cases he
  | .int i, e, p, q, hd, he, h1, h2 => by
    cases h1
    cases e with
    | non => cases h2; exact ⟨fun h => (by cases h), fun h => (by cases h)⟩
    | int j =>
      cases h2
      show ((i == j) = true) ↔ _
      rw [beq_iff_eq]
      exact ⟨fun h => (by rw [h]), fun h => (by cases h; rfl)⟩
    | str _ => cases h2; exact ⟨fun h => (by cases h), fun h => (by cases h)⟩
    | tup es =>
      obtain ⟨ps, _, rfl⟩ := Option.map_eq_some_iff.mp (show (pysI g es).map PyData.tuple = some q from h2)
      exact ⟨fun h => (by cases h), fun h => (by cases h)⟩
    | _ => cases he
  | .str x, e, p, q, hd, he, h1, h2 => by
    cases h1
    cases e with
    | non => cases h2; exact ⟨fun h => (by cases h), fun h => (by cases h)⟩
    | int j => cases h2; exact ⟨fun h => (by cases h), fun h => (by cases h)⟩
    | str y =>
      cases h2
      show ((x == y) = true) ↔ _
      rw [beq_iff_eq]
      exact ⟨fun h => (by rw [h]), fun h => (by cases h; rfl)⟩
    | tup es =>
      obtain ⟨ps, _, rfl⟩ := Option.map_eq_some_iff.mp (show (pysI g es).map PyData.tuple = some q from h2)
      exact ⟨fun h => (by cases h), fun h => (by cases h)⟩
    | _ => cases he
  | .tup ds, e, p, q, hd, he, h1, h2 => by
    obtain ⟨ps, h3, rfl⟩ := Option.map_eq_some_iff.mp (show (pysI f ds).map PyData.tuple = some p from h1)
    cases e with
    | non => cases h2; exact ⟨fun h => (by cases h), fun h => (by cases h)⟩
    | int j => cases h2; exact ⟨fun h => (by cases h), fun h => (by cases h)⟩
    | str y => cases h2; exact ⟨fun h => (by cases h), fun h => (by cases h)⟩
    | tup es =>
      obtain ⟨qs, h4, rfl⟩ := Option.map_eq_some_iff.mp (show (pysI g es).map PyData.tuple = some q from h2)
      have := clns_eqv (ds := ds) (es := es) hd he h3 h4
      show PyData.eqvAll ps qs = true ↔ _
      rw [this]
      exact ⟨fun h => (by rw [h]), fun h => (by cases h; rfl)⟩
    | _ => cases he
  | .bl _, _, _, _, hd, _, _, _ => by cases hd
  | .rls _, _, _, _, hd, _, _, _ => by cases hd
  | .ref _, _, _, _, hd, _, _, _ => by cases hd
  | .ty _, _, _, _, hd, _, _, _ => by cases hd
  | .gl _, _, _, _, hd, _, _, _ => by cases hd
theorem clns_eqv {f g : Nat → Option PyData} : ∀ {ds es : List D} {ps qs : List PyData}, clnDs ds = true → clnDs es = true → pysI f ds = some ps → pysI g es = some qs → (PyData.eqvAll ps qs = true ↔ ds = es)
  | [], [], ps, qs, _, _, h1, h2 => by
    cases h1; cases h2
    exact ⟨fun _ => rfl, fun _ => rfl⟩
  | [], e :: es, ps, qs, _, _, h1, h2 => by
    obtain ⟨q, qs', _, _, rfl⟩ := pysI_cons h2
    cases h1
    exact ⟨fun h => (by cases h), fun h => (by cases h)⟩
  | d :: ds, [], ps, qs, _, _, h1, h2 => by
    obtain ⟨q, qs', _, _, rfl⟩ := pysI_cons h1
    cases h2
    exact ⟨fun h => (by cases h), fun h => (by cases h)⟩
  | d :: ds, e :: es, ps, qs, hd, he, h1, h2 => by
    obtain ⟨p, ps', a1, a2, rfl⟩ := pysI_cons h1
    obtain ⟨q, qs', b1, b2, rfl⟩ := pysI_cons h2
    have hd : (clnD d && clnDs ds) = true := hd
    have he : (clnD e && clnDs es) = true := he
    rw [Bool.and_eq_true] at hd he
    have r1 := cln_eqv hd.1 he.1 a1 b1
    have r2 := clns_eqv hd.2 he.2 a2 b2
    show (PyData.eqv p q && PyData.eqvAll ps' qs') = true ↔ _
    rw [Bool.and_eq_true, r1, r2]
    exact ⟨fun h => (by rw [h.1, h.2]), fun h => (by cases h; exact ⟨rfl, rfl⟩)⟩
end
theorem clnDs_iff {ds : List D} : clnDs ds = true ↔ ∀ d ∈ ds, clnD d = true := by
  induction ds with
  | nil => exact ⟨fun _ d h => by simp at h, fun _ => rfl⟩
  | cons x xs ih =>
    show (clnD x && clnDs xs) = true ↔ _
    rw [Bool.and_eq_true, ih]
    simp
/-- the same value -/
noncomputable def same (d e : D) : Bool := @decide (d = e) (Classical.propDecidable _)
theorem same_iff {d e : D} : same d e = true ↔ d = e := by unfold same; exact @decide_eq_true_iff _ (Classical.propDecidable _)
theorem same_self {d : D} : same d d = true := same_iff.mpr rfl
theorem same_false {d e : D} (h : d ≠ e) : same d e = false := by
  cases hs : same d e with
  | true => exact absurd (same_iff.mp hs) h
  | false => rfl
section
variable {S : SS} {P : D → SS → Prop} {d e : D}
theorem Nice.shaped (h : Nice d) : ∃ p, py S d = some p ∧ SeqAt.shaped p = true := by
  obtain ⟨p, h1, h2, h3, h4, h5, h6⟩ := nice_ok h.n
  have hd := h.dp
  refine ⟨p, h1 _, ?_⟩
  unfold SeqAt.shaped
  rw [h3, decide_eq_true (show p.depth ≤ 64 by omega)]
  rfl
theorem eq_cln (hd : Nice d) (he : Nice e) (cd : clnD d = true) (ce : clnD e = true) (ns : ∀ x y, d = .str x → e = .str y → False) : SatO (cmpD .Eq d e S) P = P (.bl (same d e)) S := by
  obtain ⟨p, h1, h2⟩ := hd.shaped (S := S)
  obtain ⟨q, h3, h4⟩ := he.shaped (S := S)
  rw [eq_any h1 h3 ns h2 h4]
  have : PyData.eqv p q = same d e := by
    rw [Bool.eq_iff_iff, same_iff]
    exact cln_eqv cd ce h1 h3
  rw [this]
theorem ne_cln (hd : Nice d) (he : Nice e) (cd : clnD d = true) (ce : clnD e = true) (ns : ∀ x y, d = .str x → e = .str y → False) : SatO (cmpD .NotEq d e S) P = P (.bl (!same d e)) S := by
  obtain ⟨p, h1, h2⟩ := hd.shaped (S := S)
  obtain ⟨q, h3, h4⟩ := he.shaped (S := S)
  rw [ne_any h1 h3 ns h2 h4]
  have : PyData.eqv p q = same d e := by
    rw [Bool.eq_iff_iff, same_iff]
    exact cln_eqv cd ce h1 h3
  rw [this]
end
/-! zip -/
theorem zip_all : ∀ {ds es : List D}, ds.length = es.length → ((ds.zip es).all fun p => same p.1 p.2) = same (.tup ds) (.tup es)
  | [], [], _ => same_self.symm
  | [], _ :: _, h => by cases h
  | _ :: _, [], h => by cases h
  | d :: ds, e :: es, h => by
    have ih := zip_all (ds := ds) (es := es) (by simpa using h)
    show (same d e && (ds.zip es).all fun p => same p.1 p.2) = _
    rw [ih, Bool.eq_iff_iff, Bool.and_eq_true, same_iff, same_iff, same_iff]
    constructor
    · rintro ⟨rfl, h2⟩
      cases h2
      rfl
    · intro h
      cases h
      exact ⟨rfl, rfl⟩
end DL
set_option Elab.async false
set_option linter.all false
set_option maxRecDepth 100000
set_option maxHeartbeats 1000000
/-! DBrk: loops that are left by break or go on by continue. -/
namespace DL
open PySem L2
def XB (r : RS) (Pn Pb Pc : Sl → SS → Prop) (Pr : D → SS → Prop) (X : Sl → XQ) : Prop := match r with
  | .nx δ S => Pn δ S
  | .bk δ S => Pb δ S
  | .ct δ S => Pc δ S
  | .rt d S => Pr d S
  | .exc δ C fs S => X δ C fs S
  | .bad => False
section
variable {α β : Type} {δ : Sl} {S : SS} {P : D → SS → Prop} {Pn Pb Pc : Sl → SS → Prop} {Pr : D → SS → Prop} {X : XQ} {Y : Sl → XQ}
theorem XR.b {r : RS} (h : XR r Pn Pr Y) : XB r Pn Pb Pc Pr Y := by
  cases r with
  | nx δ S => exact h
  | rt d S => exact h
  | exc δ c f S => exact h
  | _ => exact h.elim
theorem xb_bk : XB (.bk δ S) Pn Pb Pc Pr Y = Pb δ S := (rfl)
theorem xb_ct : XB (.ct δ S) Pn Pb Pc Pr Y = Pc δ S := (rfl)
theorem xb_nil : XB (sNil δ S) Pn Pb Pc Pr Y = Pn δ S := (rfl)
theorem xb_seq {a b : PSt} : XB (sSeq a b δ S) Pn Pb Pc Pr Y = XB (a δ S) (fun δ S => XB (b δ S) Pn Pb Pc Pr Y) Pb Pc Pr Y := by
  unfold sSeq
  cases a δ S <;> rfl
theorem xb_to {r : R α} {k : α → SS → RS} : XB (r.to δ k) Pn Pb Pc Pr Y = XSat r (fun x S => XB (k x S) Pn Pb Pc Pr Y) (Y δ) := by cases r <;> rfl
theorem xb_if {t : PTs'} {a b : PSt} : XB (sIf t a b δ S) Pn Pb Pc Pr Y = XSat (t δ S) (fun c S1 => if c = true then XB (a δ S1) Pn Pb Pc Pr Y else XB (b δ S1) Pn Pb Pc Pr Y) (Y δ) := by
  unfold sIf
  rw [xb_to]
  congr 1
  funext c S1
  cases c <;> rfl
theorem xb_asg1 {f : PEx} {i : Nat} : XB (sAsg f (.one i) δ S) Pn Pb Pc Pr Y = XSat (f δ S) (fun x S1 => Pn (δ.set i (some x)) S1) (Y δ) := by unfold sAsg; rw [xb_to]; rfl
theorem xb_asgN {f : PEx} {is : List Nat} : XB (sAsg f (.many is) δ S) Pn Pb Pc Pr Y = XSat (f δ S) (fun x S1 => (match bindC (.many is) x δ with
  | some δ' => Pn δ' S1
  | none => False)) (Y δ) := by
  unfold sAsg
  rw [xb_to]
  congr 1
  funext x S1
  cases bindC (.many is) x δ <;> rfl
theorem xb_drop {f : PEx} : XB (sDrop f δ S) Pn Pb Pc Pr Y = XSat (f δ S) (fun _ S1 => Pn δ S1) (Y δ) := by unfold sDrop; rw [xb_to]; rfl
theorem xb_ret {f : PEx} : XB (sRet f δ S) Pn Pb Pc Pr Y = XSat (f δ S) Pr (Y δ) := by unfold sRet; rw [xb_to]; rfl
theorem xb_par {fa fb : PEx} {i j : Nat} : XB (sPar i j fa fb δ S) Pn Pb Pc Pr Y = XSat (fa δ S) (fun x S1 => XSat (fb δ S1) (fun y S2 => Pn ((δ.set i (some x)).set j (some y)) S2) (Y δ)) (Y δ) := by unfold sPar; rw [xb_to]; congr 1; funext x S1; rw [xb_to]; rfl
theorem xforB_inv {gd : Gd} {ct : CT} {body : PSt} (I : Nat → Sl → SS → Prop) : ∀ (l : List D) (i : Nat) (δ : Sl) (S : SS), I i δ S →
    (∀ j d δ S, l[j]? = some d → I (i + j) δ S → gOk gd S ∧ ∃ δ1, bindC ct d δ = some δ1 ∧ XB (body δ1 S) (I (i + j + 1)) Pn (I (i + j + 1)) Pr Y) → (∀ δ S, I (i + l.length) δ S → gOk gd S ∧ Pn δ S) → XR (forL gd ct body l δ S) Pn Pr Y
  | [], i, δ, S, h0, hs, he => by
    obtain ⟨h1, h2⟩ := he δ S h0
    unfold forL
    rw [if_pos h1]
    exact h2
  | d :: l, i, δ, S, h0, hs, he => by
    obtain ⟨h1, δ1, h2, h3⟩ := hs 0 d δ S rfl h0
    unfold forL
    rw [if_pos h1, h2]
    have step := xforB_inv (gd := gd) (ct := ct) (body := body) I l (i + 1)
    have hs' : ∀ j d δ S, l[j]? = some d → I (i + 1 + j) δ S → gOk gd S ∧ ∃ δ1, bindC ct d δ = some δ1 ∧ XB (body δ1 S) (I (i + 1 + j + 1)) Pn (I (i + 1 + j + 1)) Pr Y := fun j d δ S hj hI => by
      have e : i + 1 + j = i + (j + 1) := by omega
      rw [e] at hI ⊢
      exact hs (j + 1) d δ S hj hI
    have e2 : i + 1 + l.length = i + (d :: l).length := by rw [List.length_cons]; omega
    have he' : ∀ δ S, I (i + 1 + l.length) δ S → gOk gd S ∧ Pn δ S := fun δ S hI => he δ S (e2 ▸ hI)
    show XR (match body δ1 S with
      | .nx δ' S' => forL gd ct body l δ' S'
      | .ct δ' S' => forL gd ct body l δ' S'
      | .bk δ' S' => .nx δ' S'
      | x => x) Pn Pr Y
    cases hb : body δ1 S with
    | nx δ' S' => rw [hb] at h3; exact step δ' S' h3 hs' he'
    | ct δ' S' => rw [hb] at h3; exact step δ' S' h3 hs' he'
    | bk δ' S' => rw [hb] at h3; exact h3
    | rt d S' => rw [hb] at h3; exact h3
    | exc δ' c f S' => rw [hb] at h3; exact h3
    | bad => rw [hb] at h3; exact h3.elim
theorem x_forB {it : PIt} {ct : CT} {body : PSt} (h : XSat (it δ S) (fun x S1 => ∃ I : Nat → Sl → SS → Prop, I 0 δ S1 ∧ (∀ j d δ S, x.1[j]? = some d → I j δ S → gOk x.2 S ∧ ∃ δ1, bindC ct d δ = some δ1 ∧ XB (body δ1 S) (I (j + 1)) Pn (I (j + 1)) Pr Y) ∧ (∀ δ S, I x.1.length δ S → gOk x.2 S ∧ Pn δ S)) (Y δ)) :
    XR (sFor it ct body δ S) Pn Pr Y := by
  unfold sFor
  rw [xr_to]
  refine h.mono (fun x S1 ⟨I, h0, hs, he⟩ => ?_) (fun _ _ _ h => h)
  exact xforB_inv I x.1 0 δ S1 h0 (by simpa using hs) (by simpa using he)
theorem x_whileB {t : PTs'} {b : PSt} (I : Nat → Sl → SS → Prop) (hs : ∀ m δ S, I m δ S → XSat (t δ S) (fun c S1 => if c = true then XB (b δ S1) (fun δ' S' => ∃ m', m' < m ∧ I m' δ' S') Pn (fun δ' S' => ∃ m', m' < m ∧ I m' δ' S') Pr Y else Pn δ S1) (Y δ)) :
    ∀ (m : Nat) (δ : Sl) (S : SS), I m δ S → XR (sWhile t b δ S) Pn Pr Y := by
  intro m
  induction m using Nat.strongRecOn with
  | ind m ih =>
    intro δ S h
    rw [sWhile_eq, xr_to]
    refine (hs m δ S h).mono (fun c S1 hc => ?_) (fun _ _ _ h => h)
    cases c with
    | false => exact hc
    | true =>
      simp only [if_true] at hc ⊢
      cases hb : b δ S1 with
      | nx δ' S' =>
        rw [hb] at hc
        obtain ⟨m', hm, hI⟩ := hc
        exact ih m' hm δ' S' hI
      | ct δ' S' =>
        rw [hb] at hc
        obtain ⟨m', hm, hI⟩ := hc
        exact ih m' hm δ' S' hI
      | bk δ' S' => rw [hb] at hc; exact hc
      | rt d S' => rw [hb] at hc; exact hc
      | exc δ' c f S' => rw [hb] at hc; exact hc
      | bad => rw [hb] at hc; exact hc.elim
end
end DL
set_option Elab.async false
set_option linter.all false
set_option maxRecDepth 100000
set_option maxHeartbeats 2000000
/-! DMore: rules that many laws want. -/
namespace DL
open PySem L2
section
variable {S : SS} {P : D → SS → Prop} {X : XQ}
theorem absI (i : Int) : (if i < 0 then -i else i) = (i.natAbs : Int) := by split <;> omega
def isNon : D → Bool
  | .non => true
  | _ => false
theorem so_is_non {d : D} : SatO (cmpD .Is d .non S) P = P (.bl (isNon d)) S := by cases d <;> rfl
theorem so_isnot_non {d : D} : SatO (cmpD .IsNot d .non S) P = P (.bl (!isNon d)) S := by cases d <;> rfl
theorem small_len {n : Nat} (h : n ≤ 1000000) : small (n : Int) := by
  unfold small
  omega
theorem small_lt {i : Int} (h : i.natAbs < 2 ^ 30) : small i := by
  unfold small
  omega
theorem set_last {o o' : MO} : (S ++ [o]).set S.length o' = S ++ [o'] := by simp
theorem set_mid {a b : MO} {l : List MO} : (S ++ a :: l).set S.length b = S ++ b :: l := by simp
theorem get_mid {a : MO} {l : List MO} : (S ++ a :: l)[S.length]? = some a := by simp
theorem iter_ref {k : Nat} {ds : List D} (h : S[k]? = some (.lst ds)) : iterD (.ref k) S = some (ds, [(k, ds)]) := by
  unfold iterD
  simp only [h]
theorem rng1n {n : Nat} (h : n ≤ 1000000) : rng1D [.int (n : Int)] S = some (rngItems 0 n 1, []) := by rw [rng1 (small_len h), Int.toNat_natCast]
theorem rng2n {i j : Int} (hi : i.natAbs < 2 ^ 30) (hj : j.natAbs < 2 ^ 30) : rng2D [.int i, .int j] S = some (rngItems i (j - i).toNat 1, []) := by
  show (if small i ∧ small j then some (rngItems i (j - i).toNat 1, []) else none) = _
  rw [if_pos ⟨small_lt hi, small_lt hj⟩]
theorem bind_many2 {i j : Nat} {a b : D} {δ : Sl} : bindC (.many [i, j]) (.tup [a, b]) δ = some ((δ.set i (some a)).set j (some b)) := (rfl)
theorem bind_many3 {i j k : Nat} {a b c : D} {δ : Sl} : bindC (.many [i, j, k]) (.tup [a, b, c]) δ = some (((δ.set i (some a)).set j (some b)).set k (some c)) := (rfl)
theorem bind_many4 {i j k l : Nat} {a b c d : D} {δ : Sl} : bindC (.many [i, j, k, l]) (.tup [a, b, c, d]) δ = some ((((δ.set i (some a)).set j (some b)).set k (some c)).set l (some d)) := (rfl)
/-- is a list of values the empty list? -/
theorem eqv_nilL {xs : List D} {ps : List PyData} (a3 : pysI (fun _ => none) xs = some ps) : PyData.eqv (.list ps) (.list []) = xs.isEmpty := by
  cases xs with
  | nil =>
    have : ps = [] := by
      have a3 : some [] = some ps := a3
      injection a3 with a3
      exact a3.symm
    subst this
    rfl
  | cons x xs =>
    cases ps with
    | nil =>
      exfalso
      have a3 : (match pyI (fun _ => none) x, pysI (fun _ => none) xs with
        | some p, some ps => some (p :: ps)
        | _, _ => none) = some [] := a3
      split at a3
      · cases a3
      · cases a3
    | cons q qs => rfl
theorem py_nil {j : Nat} (h2 : S[j]? = some (.lst [])) : py S (.ref j) = some (.list []) := by
  show lstOf S 4 j = _
  unfold lstOf
  simp only [h2]
  rfl
theorem ne_nilL {i j : Nat} {xs : List D} (h1 : S[i]? = some (.lst xs)) (h2 : S[j]? = some (.lst [])) (h : Nice (.tup xs)) : SatO (cmpD .NotEq (.ref i) (.ref j) S) P = P (.bl (!xs.isEmpty)) S := by
  obtain ⟨ps, a1, a2, a3, a4⟩ := nice_list h1 h
  rw [ne_any a1 (py_nil h2) (fun x y h _ => by cases h) a2 rfl, eqv_nilL (a3 _)]
theorem eq_nilL {i j : Nat} {xs : List D} (h1 : S[i]? = some (.lst xs)) (h2 : S[j]? = some (.lst [])) (h : Nice (.tup xs)) : SatO (cmpD .Eq (.ref i) (.ref j) S) P = P (.bl xs.isEmpty) S := by
  obtain ⟨ps, a1, a2, a3, a4⟩ := nice_list h1 h
  rw [eq_any a1 (py_nil h2) (fun x y h _ => by cases h) a2 rfl, eqv_nilL (a3 _)]
theorem atI_last {α : Type} {xs : List α} {x : α} : atI (xs ++ [x]) (-1) = some x := by
  have e : ixN (xs ++ [x]).length (-1) = some xs.length := by
    unfold ixN
    rw [if_neg (by decide), if_pos (by simp; omega)]
    simp
    omega
  unfold atI
  rw [e]
  simp
/-- the last of a list -/
theorem so_lastL {k : Nat} {ds : List D} {d : D} (h : S[k]? = some (.lst (ds ++ [d]))) : SatO (ixD (.ref k) (.int (-1)) S) P = P d S := by
  unfold ixD
  have hs : seqD (.ref k) S = some (ds ++ [d]) := by
    unfold seqD
    simp only [h]
  simp only [hs, atI_last]
  rfl
theorem so_lastT {ds : List D} {d : D} : SatO (ixD (.tup (ds ++ [d])) (.int (-1)) S) P = P d S := by
  unfold ixD
  have hs : seqD (.tup (ds ++ [d])) S = some (ds ++ [d]) := rfl
  simp only [hs, atI_last]
  rfl
theorem so_addT {xs ys : List D} (h : xs.length + ys.length ≤ 16777216) : SatO (binD .Add (.tup xs) (.tup ys) S) P = P (.tup (xs ++ ys)) S := by
  show SatO (if xs.length + ys.length ≤ sizeLine then some (D.tup (xs ++ ys), S) else none) P = _
  rw [if_pos (le_size h)]
  rfl
theorem so_addL {i j : Nat} {xs ys : List D} (h1 : S[i]? = some (.lst xs)) (h2 : S[j]? = some (.lst ys)) (h : xs.length + ys.length ≤ 16777216) : SatO (binD .Add (.ref i) (.ref j) S) P = P (.ref S.length) (S ++ [.lst (xs ++ ys)]) := by
  show SatO (addD (.ref i) (.ref j) S) P = _
  unfold addD
  simp only [h1, h2]
  rw [if_pos (le_size h)]
  rfl
theorem any_map {α : Type} {f : α → Bool} {l : List α} {k : Nat} (h : S[k]? = some (.lst (l.map fun a => D.bl (f a)))) : SatO (one anyD [.ref k] S) P = P (.bl (l.any f)) S := by
  unfold one anyD itemsD
  simp only [h, bls_map, sato_some]
  congr 2
  rw [List.any_map]
  rfl
theorem pr_inj {a b c d : Int} (h : D.tup [.int a, .int b] = .tup [.int c, .int d]) : a = c ∧ b = d := by
  injection h with h
  injection h with h1 h2
  injection h2 with h2
  injection h1 with h1
  injection h2 with h2
  exact ⟨h1, h2⟩
/-- a list's truth -/
theorem tru_ref {k : Nat} {ds : List D} (h : S[k]? = some (.lst ds)) : truD (.ref k) S = some (!ds.isEmpty) := by
  unfold truD
  simp only [h]
theorem lc_mapA0 {it : PIt} {ct : CT} {vs : List Nat} {el : PEx} {δ : Sl} {items : List D} {g : D → D} {S0 : SS} (hit : Sat (it δ S) fun x S1 => (∀ l, gOk x.2 (S0 ++ l)) ∧ S1 = S0 ∧ x.1 = items)
    (hel : ∀ d ∈ items, ∃ δ1, bindC ct d (wipeD δ vs) = some δ1 ∧ ∀ (S' : SS) (P : D → SS → Prop), (∀ l, P (g d) (S' ++ l)) → Sat (el δ1 S') P) (hl : items.length ≤ 100000) (k : ∀ l, P (.ref S0.length) (S0 ++ .lst (items.map g) :: l)) : Sat (eLc it ct vs tYes' el δ S) P := by
  refine e_lc (hit.mono fun x S1 hx => ?_)
  obtain ⟨hgd, rfl, hi⟩ := hx
  subst hi
  refine ⟨fun j acc S' => acc = (x.1.take j).map g ∧ ∃ l, S' = S1 ++ .lst acc :: l, fun i acc S' hI => ?_, ⟨rfl, [], rfl⟩, fun j d acc S' hj hI => ?_, fun acc S' hI => ?_⟩
  · obtain ⟨_, l, rfl⟩ := hI
    simp
  · obtain ⟨rfl, l, rfl⟩ := hI
    obtain ⟨δ1, hb, he⟩ := hel d (List.mem_of_getElem? hj)
    have hjl := (List.getElem?_eq_some_iff.mp hj).1
    refine ⟨hgd _, δ1, hb, ?_⟩
    simp only [t_yes, if_true]
    refine he _ _ fun l2 => ⟨(x.1.take j).map g, by simp, by rw [List.length_map, List.length_take, sizeLine_eq]; omega, ?_, l ++ l2, by simp⟩
    rw [List.take_add_one, hj]
    simp
  · obtain ⟨rfl, l, rfl⟩ := hI
    refine ⟨hgd _, ?_⟩
    rw [List.take_length]
    exact k l
theorem lc_mapA {it : PIt} {ct : CT} {vs : List Nat} {el : PEx} {δ : Sl} {items : List D} {g : D → D} (hit : Sat (it δ S) fun x S1 => S1 = S ++ [.lst items] ∧ x = (items, [(S.length, items)]))
    (hel : ∀ d ∈ items, ∃ δ1, bindC ct d (wipeD δ vs) = some δ1 ∧ ∀ (S' : SS) (P : D → SS → Prop), (∀ l, P (g d) (S' ++ l)) → Sat (el δ1 S') P) (hl : items.length ≤ 100000) (k : ∀ l, P (.ref (S ++ [MO.lst items]).length) (S ++ [MO.lst items] ++ MO.lst (items.map g) :: l)) : Sat (eLc it ct vs tYes' el δ S) P :=
  lc_mapA0 (items := items) (g := g) (S0 := S ++ [.lst items]) (hit.mono fun x S1 h => by
    obtain ⟨rfl, rfl⟩ := h
    exact ⟨fun l => ⟨get_app get_last, trivial⟩, rfl, rfl⟩) hel hl k

/-! slices, repeats -/
theorem so_slT {ds : List D} {l u : Option Int} : SatO (slD l u (.tup ds) S) P = P (.tup (cutD ds l u)) S := (rfl)
theorem cut_take {ds : List D} {k : Nat} : cutD ds none (some (k : Int)) = ds.take k := by
  unfold cutD
  rw [HT.sIx_nat]
  have e1 : HT.sIx ds.length 0 none = 0 := rfl
  rw [e1, List.drop_zero, Nat.sub_zero]
  by_cases h : k ≤ ds.length
  · rw [Nat.min_eq_left h]
  · rw [Nat.min_eq_right (by omega), List.take_length, List.take_of_length_le (by omega)]
theorem cut_drop {ds : List D} {k : Nat} : cutD ds (some (k : Int)) none = ds.drop k := by
  unfold cutD
  rw [HT.sIx_nat]
  have e1 : HT.sIx ds.length ds.length none = ds.length := rfl
  rw [e1]
  by_cases h : k ≤ ds.length
  · rw [Nat.min_eq_left h, List.take_of_length_le (by rw [List.length_drop]; omega)]
  · rw [Nat.min_eq_right (by omega), List.drop_length, List.drop_of_length_le (by omega)]
    simp
theorem so_repL {i : Nat} {xs : List D} {k : Int} (h : S[i]? = some (.lst xs)) (h0 : 0 ≤ k ∧ k ≤ 1000 ∧ xs.length ≤ 1000) : SatO (binD .Mult (.ref i) (.int k) S) P = P (.ref S.length) (S ++ [.lst (List.replicate k.toNat xs).flatten]) := by
  show SatO (mulD (.ref i) (.int k) S) P = _
  unfold mulD
  simp only [h]
  have : xs.length * k.toNat ≤ 1000 * 1000 := Nat.mul_le_mul h0.2.2 (by omega)
  rw [if_pos ⟨by omega, by omega, le_size (by omega)⟩]
  rfl
theorem mem_rep {k : Nat} {xs : List D} {d : D} (h : d ∈ (List.replicate k xs).flatten) : d ∈ xs := by
  obtain ⟨l, h1, h2⟩ := List.mem_flatten.mp h
  rw [(List.mem_replicate.mp h1).2] at h2
  exact h2
/-! iterators -/
theorem hit_tup {δ : Sl} {i : Nat} {ds : List D} (h : δ[i]? = some (some (.tup ds))) : XSat (iVal (eVar i) δ S) (fun x S1 => (∀ l, gOk x.2 (S ++ l)) ∧ S1 = S ∧ x.1 = ds) noX := by
  simp only [xit_val, xe_var, h, iterD]
  first
    | exact ⟨fun l => trivial, trivial⟩
    | exact ⟨fun l => trivial, trivial, trivial⟩
theorem hit_rng1 {δ : Sl} {a : PAs} {n : Nat} (hn : n ≤ 1000000) (h : ∀ Q : List D → SS → Prop, Q [.int (n : Int)] S → XSat (a δ S) Q noX) : XSat (iOn rng1D a δ S) (fun x S1 => (∀ l, gOk x.2 (S ++ l)) ∧ S1 = S ∧ x.1 = rngItems 0 n 1) noX := by
  rw [xit_on]
  refine h _ ?_
  rw [rng1n hn]
  exact ⟨fun l => trivial, rfl, rfl⟩
theorem so_minN {i j : Nat} : SatO (minD [.int (i : Int), .int (j : Int)] S) P = P (.int ((min i j : Nat) : Int)) S := by
  show P (.int (if (j : Int) < (i : Int) then (j : Int) else (i : Int))) S = _
  congr 2
  split <;> omega
/-! all, any, filters: over what an iterator gives -/
section
variable {it : PIt} {ct : CT} {vs : List Nat} {el : PEx} {t : PTs'} {δ : Sl} {items : List D} {f : D → Bool}
theorem xc_all (hit : XSat (it δ S) (fun x S1 => (∀ l, gOk x.2 (S ++ l)) ∧ S1 = S ∧ x.1 = items) noX) (hel : ∀ d ∈ items, ∃ δ1, bindC ct d (wipeD δ vs) = some δ1 ∧ ∀ (S' : SS) (Q : D → SS → Prop), (∀ l, Q (.bl (f d)) (S' ++ l)) → XSat (el δ1 S') Q noX) (hl : items.length ≤ 100000) (k : ∀ l, P (.bl (items.all f)) (S ++ l)) :
    XSat (eCB (one allD) (aCons (eLc it ct vs tYes' el) aNil) δ S) P X := by
  simp only [xe_cb, xa_cons, xa_nil]
  refine (lc_map (items := items) (g := fun d => .bl (f d)) (Sat.mono (XSat.s hit) fun _ _ h => h) (fun d hd => ?_) hl fun l => ?_).x
  · obtain ⟨δ1, h1, h2⟩ := hel d hd
    exact ⟨δ1, h1, fun S' Q kk => (h2 S' Q kk).s⟩
  · rw [all_map (l := items) (f := f) (by simp)]
    exact k _
theorem xc_any (hit : XSat (it δ S) (fun x S1 => (∀ l, gOk x.2 (S ++ l)) ∧ S1 = S ∧ x.1 = items) noX) (hel : ∀ d ∈ items, ∃ δ1, bindC ct d (wipeD δ vs) = some δ1 ∧ ∀ (S' : SS) (Q : D → SS → Prop), (∀ l, Q (.bl (f d)) (S' ++ l)) → XSat (el δ1 S') Q noX) (hl : items.length ≤ 100000) (k : ∀ l, P (.bl (items.any f)) (S ++ l)) :
    XSat (eCB (one anyD) (aCons (eLc it ct vs tYes' el) aNil) δ S) P X := by
  simp only [xe_cb, xa_cons, xa_nil]
  refine (lc_map (items := items) (g := fun d => .bl (f d)) (Sat.mono (XSat.s hit) fun _ _ h => h) (fun d hd => ?_) hl fun l => ?_).x
  · obtain ⟨δ1, h1, h2⟩ := hel d hd
    exact ⟨δ1, h1, fun S' Q kk => (h2 S' Q kk).s⟩
  · rw [any_map (l := items) (f := f) (by simp)]
    exact k _
theorem filter_empty {α : Type} {c : α → Bool} {l : List α} : (!(l.filter c).isEmpty) = l.any c := by
  induction l with
  | nil => rfl
  | cons a l ih =>
    rw [List.filter_cons, List.any_cons]
    cases c a with
    | true => simp
    | false => simpa using ih
/-- is there one that passes? -/
theorem xc_some {c : D → Bool} {j : Nat} {Q : Bool → SS → Prop} (hit : XSat (it δ S) (fun x S1 => (∀ l, gOk x.2 (S ++ l)) ∧ S1 = S ∧ x.1 = items) noX) (hel : ∀ d ∈ items, ∃ δ1, bindC ct d (wipeD δ vs) = some δ1 ∧ δ1[j]? = some (some d) ∧ ∀ (S' : SS) (Q : Bool → SS → Prop), (∀ l, Q (c d) (S' ++ l)) → XSat (t δ1 S') Q noX) (hl : items.length ≤ 100000) (k : ∀ l, Q (items.any c) (S ++ l)) :
    XSat (tTru (eLc it ct vs t (eVar j)) δ S) Q X := by
  rw [xt_tru]
  refine (lc_filtA (S0 := S) (items := items) (c := c) (g := fun d => d) (Sat.mono (XSat.s hit) fun _ _ h => h) (fun d hd => ?_) hl fun l => ?_).x
  · obtain ⟨δ1, h1, h2, h3⟩ := hel d hd
    refine ⟨δ1, h1, fun l0 Q kk => (h3 _ Q kk).s, fun l0 P _ kk => XSat.s ?_⟩
    rw [xe_var, h2]
    have := kk []
    rwa [List.append_nil] at this
  · rw [tru_ref (ds := (items.filter c).map fun d => d) (by simp)]
    simp only [List.map_id']
    have := k (MO.lst ((items.filter c).map fun d => d) :: l)
    rw [List.map_id'] at this
    rw [← filter_empty] at this
    exact this
end
end
end DL
set_option Elab.async false
set_option linter.all false
set_option maxRecDepth 100000
set_option maxHeartbeats 2000000
/-! DDem: what is asked of arguments. -/
namespace DL
open PySem L2
section
variable {S : SS} {P : D → SS → Prop} {Pb : Bool → SS → Prop} {X : XQ}
theorem nTup (d : D) : (∃ ds, d = .tup ds) ∨ ∀ ds, d ≠ .tup ds := by
  cases d with
  | tup ds => exact .inl ⟨ds, rfl⟩
  | _ => exact .inr fun _ h => by cases h
theorem isi_ntup {d : D} {Pd : D → SS → Prop} (hp : aP d = true) (h : ∀ ds, d ≠ .tup ds) : SatO (isiD [d, .ty "tuple"] S) Pd = Pd (.bl false) S := by
  cases d with
  | tup ds => exact absurd rfl (h ds)
  | _ => first | (cases hp; done) | simp
def isTupD : D → Bool
  | .tup _ => true
  | _ => false
theorem isi_tupB {d : D} {Pd : D → SS → Prop} (hp : aP d = true) : SatO (isiD [d, .ty "tuple"] S) Pd = Pd (.bl (isTupD d)) S := by
  cases d <;> first | (cases hp; done) | simp [isTupD]
def isStrD : D → Bool
  | .str _ => true
  | _ => false
theorem isi_strB {d : D} {Pd : D → SS → Prop} (hp : aP d = true) : SatO (isiD [d, .ty "str"] S) Pd = Pd (.bl (isStrD d)) S := by
  cases d <;> first | (cases hp; done) | simp [isStrD]
def isBlD : D → Bool
  | .bl _ => true
  | _ => false
theorem isi_blB {d : D} {Pd : D → SS → Prop} (hp : aP d = true) : SatO (isiD [d, .ty "bool"] S) Pd = Pd (.bl (isBlD d)) S := by
  cases d <;> first | (cases hp; done) | simp [isBlD]
/-- a natural number, not to be evaluated -/
@[irreducible] def nI (n : Nat) : Int := n
theorem nI_eq {n : Nat} : nI n = (n : Int) := by unfold nI; rfl
/-- a tuple whose length is within -/
def lenB (lo hi : Int) : D → Bool
  | .tup ds => decide (lo ≤ (ds.length : Int)) && decide ((ds.length : Int) ≤ hi)
  | _ => false
theorem lenB_tup {lo hi : Int} {d : D} (h : lenB lo hi d = true) : ∃ ds, d = .tup ds ∧ lo ≤ ds.length ∧ (ds.length : Int) ≤ hi := by
  unfold lenB at h
  split at h
  · rename_i ds
    rw [Bool.and_eq_true, decide_eq_true_eq, decide_eq_true_eq] at h
    exact ⟨ds, rfl, h⟩
  · cases h
theorem xt_len {d : D} {δ : Sl} {i : Nat} {lo hi : Int} (hp : aP d = true) (hd : δ[i]? = some (some d)) (k : Pb (!lenB lo hi d) S) :
    XSat (tOr' (tNot' (tTru (eCB isiD (aCons (eVar i) (aCons (eC (.ty "tuple")) aNil))))) (tNot' (tVal (eChain (cmpD .LtE) (cmpD .LtE) (eC (.int lo)) (eCB (one lenD) (aCons (eVar i) aNil)) (eC (.int hi))))) δ S) Pb X := by
  simp only [xt_or, xt_not, xt_tru, xt_val, xe_cb, xe_chain, xa_cons, xa_nil, xe_var, xe_c, hd]
  rcases nTup d with ⟨ds, rfl⟩ | hn
  · simp only [isi_tup_tup, tru_bl, Bool.not_true, Bool.false_eq_true, if_false, so_lenT, so_le, boolOf_bl]
    have el : lenB lo hi (.tup ds) = (decide (lo ≤ (ds.length : Int)) && decide ((ds.length : Int) ≤ hi)) := rfl
    rw [el] at k
    by_cases h1 : lo ≤ (ds.length : Int)
    · rw [decide_eq_true h1] at k ⊢
      exact k
    · rw [decide_eq_false h1] at k ⊢
      exact k
  · rw [isi_ntup hp hn]
    have : lenB lo hi d = false := by
      unfold lenB
      split
      · exact absurd rfl (hn _)
      · rfl
    rw [this] at k
    exact k
theorem xt_lenGt {d : D} {δ : Sl} {i : Nat} {hi : Int} (hp : aP d = true) (hd : δ[i]? = some (some d)) (k : Pb (!lenB 0 hi d) S) :
    XSat (tOr' (tNot' (tTru (eCB isiD (aCons (eVar i) (aCons (eC (.ty "tuple")) aNil))))) (tVal (eOp2 (cmpD .Gt) (eCB (one lenD) (aCons (eVar i) aNil)) (eC (.int hi)))) δ S) Pb X := by
  simp only [xt_or, xt_not, xt_tru, xt_val, xe_cb, xe_op2, xa_cons, xa_nil, xe_var, xe_c, hd]
  rcases nTup d with ⟨ds, rfl⟩ | hn
  · simp only [isi_tup_tup, tru_bl, Bool.not_true, Bool.false_eq_true, if_false, so_lenT, so_gt, boolOf_bl]
    have el : lenB 0 hi (.tup ds) = (decide (0 ≤ (ds.length : Int)) && decide ((ds.length : Int) ≤ hi)) := rfl
    rw [el] at k
    rw [decide_eq_true (by omega : (0 : Int) ≤ (ds.length : Int)), Bool.true_and] at k
    by_cases h1 : hi < (ds.length : Int)
    · rw [decide_eq_true h1]
      rw [decide_eq_false (by omega)] at k
      exact k
    · rw [decide_eq_false h1]
      rw [decide_eq_true (by omega)] at k
      exact k
  · rw [isi_ntup hp hn]
    have : lenB 0 hi d = false := by
      unfold lenB
      split
      · exact absurd rfl (hn _)
      · rfl
    rw [this] at k
    exact k
theorem xt_lenNe {d : D} {δ : Sl} {i : Nat} {n : Int} (hp : aP d = true) (hd : δ[i]? = some (some d)) (k : Pb (!lenB n n d) S) :
    XSat (tOr' (tNot' (tTru (eCB isiD (aCons (eVar i) (aCons (eC (.ty "tuple")) aNil))))) (tVal (eOp2 (cmpD .NotEq) (eCB (one lenD) (aCons (eVar i) aNil)) (eC (.int n)))) δ S) Pb X := by
  simp only [xt_or, xt_not, xt_tru, xt_val, xe_cb, xe_op2, xa_cons, xa_nil, xe_var, xe_c, hd]
  rcases nTup d with ⟨ds, rfl⟩ | hn
  · simp only [isi_tup_tup, tru_bl, Bool.not_true, Bool.false_eq_true, if_false, so_lenT, ne_int, boolOf_bl]
    have e : (!((ds.length : Int) == n)) = !lenB n n (.tup ds) := by
      unfold lenB
      congr 1
      rw [Bool.eq_iff_iff]
      simp
      omega
    rw [e]
    exact k
  · rw [isi_ntup hp hn]
    have : lenB n n d = false := by
      unfold lenB
      split
      · exact absurd rfl (hn _)
      · rfl
    rw [this] at k
    exact k
/-- a first entry that passes -/
theorem so_lenN {ds : List D} : SatO (one lenD [.tup ds] S) P = P (.int (nI ds.length)) S := by rw [so_lenT, nI_eq]
theorem find_filter {α : Type} {c : α → Bool} : ∀ {l : List α}, (l.filter c).head? = l.find? c
  | [] => rfl
  | a :: l => by
    rw [List.filter_cons, List.find?_cons]
    cases h : c a with
    | true => rfl
    | false => exact find_filter
theorem so_sumT {ns : List Int} : SatO (one sumD [.tup (ns.map D.int)] S) P = P (.int ns.sum) S := by
  unfold one sumD
  have : ∀ ns : List Int, intsD (ns.map D.int) = some ns := fun ns => by
    induction ns with
    | nil => rfl
    | cons n ns ih =>
      show (intsD (ns.map D.int)).map (n :: ·) = _
      rw [ih]
      rfl
  simp only [this]
  rfl
theorem intsD_map : ∀ ns : List Int, intsD (ns.map D.int) = some ns := fun ns => by
  induction ns with
  | nil => rfl
  | cons n ns ih =>
    show (intsD (ns.map D.int)).map (n :: ·) = _
    rw [ih]
    rfl
theorem so_sumL {k : Nat} {ns : List Int} (h : S[k]? = some (.lst (ns.map D.int))) : SatO (one sumD [.ref k] S) P = P (.int ns.sum) S := by
  unfold one sumD itemsD
  simp only [h, intsD_map]
  rfl
theorem hit_ref {δ : Sl} {i k : Nat} {ds : List D} (h : δ[i]? = some (some (.ref k))) (hk : S[k]? = some (.lst ds)) : XSat (iVal (eVar i) δ S) (fun x S1 => (∀ l, gOk x.2 (S ++ l)) ∧ S1 = S ∧ x.1 = ds) noX := by
  simp only [xit_val, xe_var, h]
  rw [iter_ref hk]
  first
    | exact ⟨fun l => ⟨get_app hk, trivial⟩, rfl, rfl⟩
    | exact ⟨fun l => ⟨get_app hk, trivial⟩, trivial⟩
    | exact ⟨fun l => ⟨get_app hk, trivial⟩, trivial, rfl⟩
    | exact ⟨fun l => ⟨get_app hk, trivial⟩, trivial, trivial⟩
theorem so_min2 {a b : Int} : SatO (minD [.int a, .int b] S) P = P (.int (min a b)) S := by
  show P (.int (if b < a then b else a)) S = _
  congr 2
  split <;> omega
theorem so_max2 {a b : Int} : SatO (maxD [.int a, .int b] S) P = P (.int (max a b)) S := by
  show P (.int (if b > a then b else a)) S = _
  congr 2
  split <;> omega
theorem so_ixL0 {k : Nat} {ds : List D} {d : D} (h : S[k]? = some (.lst ds)) (hn : ds[0]? = some d) : SatO (ixD (.ref k) (.int 0) S) P = P d S := so_ixL h (n := 0) hn rfl
theorem find_range {n j : Nat} {p : Nat → Bool} (hj : j < n) (h : ∀ i, i < j → p i = false) (hp : p j = true) : (List.range n).find? p = some j := by
  rw [List.find?_range_eq_some]
  exact ⟨hp, List.mem_range.mpr hj, fun i hi => by rw [h i hi]; rfl⟩
theorem find_none {n : Nat} {p : Nat → Bool} (h : ∀ i, i < n → p i = false) : (List.range n).find? p = none := by
  rw [List.find?_eq_none]
  intro i hi
  rw [h i (List.mem_range.mp hi)]
  exact Bool.false_ne_true
/-! statements -/
section
variable {Pn : Sl → SS → Prop} {Pr : D → SS → Prop} {Y : Sl → XQ} {δ : Sl}
theorem x_aug {op : Operator} {n : Nat} {f : PEx} {x : D} (h : δ[n]? = some (some x)) : XR (sAug op n f δ S) Pn Pr Y = XSat (f δ S) (fun y S1 => SatO (augD op x y S1) fun z S2 => Pn (δ.set n (some z)) S2) (Y δ) := by
  unfold sAug
  rw [h]
  show XR ((f δ S).to δ _) Pn Pr Y = _
  rw [xr_to]
  congr 1
  funext y S1
  cases augD op x y S1 <;> rfl
theorem so_augA {i j : Int} : SatO (augD .Add (.int i) (.int j) S) P = P (.int (i + j)) S := (rfl)
theorem so_augS {i j : Int} : SatO (augD .Sub (.int i) (.int j) S) P = P (.int (i - j)) S := (rfl)
theorem x_app {i k : Nat} {f : PEx} {ds0 : List D} (hi : δ[i]? = some (some (.ref k))) (h0 : S[k]? = some (.lst ds0)) (h : XSat (f δ S) (fun y S1 => ∃ ds, S1[k]? = some (.lst ds) ∧ ds.length < 16777216 ∧ Pn δ (S1.set k (.lst (ds ++ [y])))) (Y δ)) :
    XR (sDrop (eMt miApp (eVar i) (aCons f aNil)) δ S) Pn Pr Y := by
  rw [x_drop, xe_mt]
  simp only [xe_var, hi]
  refine ⟨isTy_lst h0, ?_⟩
  rw [xa_cons]
  refine h.mono (fun y S1 hy => ?_) fun _ _ _ h => h
  obtain ⟨ds, h1, h2, h3⟩ := hy
  rw [xa_nil, miApp_g, app_lst h1 (lt_size h2)]
  exact h3
theorem x_forT {i : Nat} {ds : List D} {ct : CT} {body : PSt} (I : Nat → Sl → SS → Prop) (hd : δ[i]? = some (some (.tup ds))) (h0 : I 0 δ S) (hs : ∀ j d δ S, ds[j]? = some d → I j δ S → ∃ δ1, bindC ct d δ = some δ1 ∧ XR (body δ1 S) (I (j + 1)) Pr Y) (he : ∀ δ S, I ds.length δ S → Pn δ S) :
    XR (sFor (iVal (eVar i)) ct body δ S) Pn Pr Y := by
  refine x_for ?_
  simp only [xit_val, xe_var, hd, iterD]
  exact ⟨I, h0, fun j d δ S hj hI => ⟨trivial, hs j d δ S hj hI⟩, fun δ S hI => ⟨trivial, he δ S hI⟩⟩
theorem x_forE {i : Nat} {ds : List D} {ct : CT} {body : PSt} (I : Nat → Sl → SS → Prop) (hd : δ[i]? = some (some (.tup ds))) (h0 : I 0 δ S) (hs : ∀ (j : Nat) d δ S, ds[j]? = some d → I j δ S → ∃ δ1, bindC ct (.tup [.int (nI j), d]) δ = some δ1 ∧ XR (body δ1 S) (I (j + 1)) Pr Y) (he : ∀ δ S, I ds.length δ S → Pn δ S) :
    XR (sFor (iOn enuD (aCons (eVar i) aNil)) ct body δ S) Pn Pr Y := by
  refine x_for ?_
  simp only [xit_on, xa_cons, xa_nil, xe_var, hd]
  show ∃ I : Nat → Sl → SS → Prop, I 0 δ S ∧ (∀ j d δ S, (enumItems ds)[j]? = some d → I j δ S → True ∧ ∃ δ1, bindC ct d δ = some δ1 ∧ XR (body δ1 S) (I (j + 1)) Pr Y) ∧ ∀ δ S, I (enumItems ds).length δ S → True ∧ Pn δ S
  refine ⟨I, h0, fun j d δ S hj hI => ⟨trivial, ?_⟩, fun δ S hI => ⟨trivial, he δ S ?_⟩⟩
  · unfold enumItems at hj
    rw [List.getElem?_map, Option.map_eq_some_iff] at hj
    obtain ⟨⟨d0, q⟩, e0, rfl⟩ := hj
    rw [List.getElem?_zipIdx, Option.map_eq_some_iff] at e0
    obtain ⟨d1, e1, e2⟩ := e0
    cases e2
    simp only [Nat.zero_add]
    rw [← nI_eq]
    exact hs j d0 δ S e1 hI
  · have : (enumItems ds).length = ds.length := by simp [enumItems]
    rwa [this] at hI
theorem x_forR {a : PAs} {n : Nat} {ct : CT} {body : PSt} (I : Nat → Sl → SS → Prop) (hn : n ≤ 1000000) (ha : ∀ Q : List D → SS → Prop, Q [.int (nI n)] S → XSat (a δ S) Q (Y δ)) (h0 : I 0 δ S) (hs : ∀ (j : Nat) δ S, j < n → I j δ S → ∃ δ1, bindC ct (.int (nI j)) δ = some δ1 ∧ XR (body δ1 S) (I (j + 1)) Pr Y) (he : ∀ δ S, I n δ S → Pn δ S) :
    XR (sFor (iOn rng1D a) ct body δ S) Pn Pr Y := by
  refine x_for ?_
  rw [xit_on]
  refine ha _ ?_
  rw [nI_eq, rng1n hn]
  refine ⟨I, h0, fun j d δ S hj hI => ⟨trivial, ?_⟩, fun δ S hI => ⟨trivial, he δ S ?_⟩⟩
  · obtain ⟨hj1, rfl⟩ := rng_get hj
    have := hs j δ S hj1 hI
    rw [nI_eq] at this
    simpa using this
  · rwa [rng_len] at hI
theorem x_forR2 {a : PAs} {lo hi : Int} {ct : CT} {body : PSt} (I : Nat → Sl → SS → Prop) (h1 : lo.natAbs < 2 ^ 30) (h2 : hi.natAbs < 2 ^ 30) (ha : ∀ Q : List D → SS → Prop, Q [.int lo, .int hi] S → XSat (a δ S) Q (Y δ)) (h0 : I 0 δ S) (hs : ∀ (j : Nat) δ S, lo + (j : Int) < hi → I j δ S → ∃ δ1, bindC ct (.int (lo + nI j)) δ = some δ1 ∧ XR (body δ1 S) (I (j + 1)) Pr Y) (he : ∀ δ S, I (hi - lo).toNat δ S → Pn δ S) :
    XR (sFor (iOn rng2D a) ct body δ S) Pn Pr Y := by
  refine x_for ?_
  rw [xit_on]
  refine ha _ ?_
  rw [rng2n h1 h2]
  refine ⟨I, h0, fun j d δ S hj hI => ⟨trivial, ?_⟩, fun δ S hI => ⟨trivial, he δ S ?_⟩⟩
  · obtain ⟨hj1, rfl⟩ := rng_get hj
    have := hs j δ S (by omega) hI
    rw [nI_eq] at this
    simpa using this
  · rwa [rng_len] at hI
end
/-! comprehensions, by the turn -/
section
variable {it : PIt} {ct : CT} {vs : List Nat} {el : PEx} {t : PTs'} {δ : Sl} {n : Nat} {f g : Nat → D} {c : Nat → Bool}
theorem lc_filtN (hit : XSat (it δ S) (fun x S1 => (∀ l, gOk x.2 (S ++ l)) ∧ S1 = S ∧ x.1 = (List.range n).map f) noX)
    (hel : ∀ i, i < n → ∃ δ1, bindC ct (f i) (wipeD δ vs) = some δ1 ∧ (∀ (l0 : SS) (Q : Bool → SS → Prop), (∀ l, Q (c i) (S ++ l0 ++ l)) → XSat (t δ1 (S ++ l0)) Q noX) ∧ ∀ (l0 : SS) (Q : D → SS → Prop), c i = true → (∀ l, Q (g i) (S ++ l0 ++ l)) → XSat (el δ1 (S ++ l0)) Q noX)
    (hl : n ≤ 100000) (k : ∀ l, P (.ref S.length) (S ++ MO.lst (((List.range n).filter c).map g) :: l)) : XSat (eLc it ct vs t el δ S) P X := by
  refine Sat.x (e_lc ((XSat.s hit).mono fun x S1 hx => ?_))
  obtain ⟨hgd, rfl, hi⟩ := hx
  rw [hi]
  refine ⟨fun j acc S' => acc = ((List.range j).filter c).map g ∧ ∃ l, S' = S1 ++ .lst acc :: l, fun i acc S' hI => ?_, ⟨rfl, [], rfl⟩, fun j d acc S' hj hI => ?_, fun acc S' hI => ?_⟩
  · obtain ⟨_, l, rfl⟩ := hI
    simp
  · obtain ⟨rfl, l, rfl⟩ := hI
    rw [List.getElem?_map, Option.map_eq_some_iff] at hj
    obtain ⟨i, hi1, rfl⟩ := hj
    obtain ⟨hj1, hj2⟩ := List.getElem?_eq_some_iff.mp hi1
    simp at hj1 hj2
    subst hj2
    obtain ⟨δ1, hb, ht, he⟩ := hel j hj1
    refine ⟨hgd _, δ1, hb, ?_⟩
    refine XSat.s (ht _ _ fun l2 => ?_)
    have ef : (List.range (j + 1)).filter c = (List.range j).filter c ++ (if c j = true then [j] else []) := by
      rw [List.range_succ, List.filter_append]
      congr 1
      cases hcd : c j <;> simp [hcd]
    cases hcd : c j with
    | false =>
      simp only [Bool.false_eq_true, if_false]
      refine ⟨by rw [ef, hcd]; simp, l ++ l2, by simp⟩
    | true =>
      simp only [if_true]
      have hlen : (((List.range j).filter c).map g).length ≤ 100000 := by
        rw [List.length_map]
        exact Nat.le_trans (List.length_filter_le _ _) (by rw [List.length_range]; omega)
      rw [List.append_assoc]
      refine XSat.s (he _ _ hcd fun l3 => ⟨((List.range j).filter c).map g, by simp, by rw [sizeLine_eq]; omega, ?_, l ++ l2 ++ l3, by simp⟩)
      rw [ef, hcd]
      simp
  · obtain ⟨rfl, l, rfl⟩ := hI
    refine ⟨hgd _, ?_⟩
    rw [List.length_map, List.length_range]
    exact k l
theorem lc_mapN (hit : XSat (it δ S) (fun x S1 => (∀ l, gOk x.2 (S ++ l)) ∧ S1 = S ∧ x.1 = (List.range n).map f) noX)
    (hel : ∀ i, i < n → ∃ δ1, bindC ct (f i) (wipeD δ vs) = some δ1 ∧ ∀ (l0 : SS) (Q : D → SS → Prop), (∀ l, Q (g i) (S ++ l0 ++ l)) → XSat (el δ1 (S ++ l0)) Q noX)
    (hl : n ≤ 100000) (k : ∀ l, P (.ref S.length) (S ++ MO.lst ((List.range n).map g) :: l)) : XSat (eLc it ct vs tYes' el δ S) P X := by
  refine lc_filtN (c := fun _ => true) (g := g) hit (fun i hi => ?_) hl fun l => ?_
  · obtain ⟨δ1, h1, h2⟩ := hel i hi
    exact ⟨δ1, h1, fun l0 Q kk => by rw [xt_yes]; have := kk []; rwa [List.append_nil] at this, fun l0 Q _ kk => h2 l0 Q kk⟩
  · have : (List.range n).filter (fun _ => true) = List.range n := by simp
    rw [this]
    exact k l
end
theorem hit_rngN {δ : Sl} {a : PAs} {n : Nat} (hn : n ≤ 1000000) (h : ∀ Q : List D → SS → Prop, Q [.int (nI n)] S → XSat (a δ S) Q noX) : XSat (iOn rng1D a δ S) (fun x S1 => (∀ l, gOk x.2 (S ++ l)) ∧ S1 = S ∧ x.1 = (List.range n).map fun i => D.int (nI i)) noX := by
  rw [xit_on]
  refine h _ ?_
  rw [nI_eq, rng1n hn]
  refine ⟨fun l => trivial, rfl, ?_⟩
  refine List.map_congr_left fun i _ => ?_
  rw [nI_eq]
  congr 1
  omega
theorem hit_rngN2 {δ : Sl} {a : PAs} {lo hi : Int} {n : Nat} (h1 : lo.natAbs < 2 ^ 30) (h2 : hi.natAbs < 2 ^ 30) (hn : (hi - lo).toNat = n) (h : ∀ Q : List D → SS → Prop, Q [.int lo, .int hi] S → XSat (a δ S) Q noX) : XSat (iOn rng2D a δ S) (fun x S1 => (∀ l, gOk x.2 (S ++ l)) ∧ S1 = S ∧ x.1 = (List.range n).map fun i => D.int (lo + nI i)) noX := by
  rw [xit_on]
  refine h _ ?_
  rw [rng2n h1 h2, hn]
  refine ⟨fun l => trivial, rfl, ?_⟩
  refine List.map_congr_left fun i _ => ?_
  rw [nI_eq]
  congr 1
  omega
theorem lc_drawN {it : PIt} {ct : CT} {vs : List Nat} {el : PEx} {δ : Sl} {kd ka n c L : Nat} {Q : D → Prop}
    (hit : Sat (it δ S) fun x S1 => (∀ S', gOk x.2 S') ∧ Up ka S S1 ∧ DA S1 kd ka n ∧ x.1.length = L) (hL : L ≤ 100000)
    (hel : ∀ (d : D) (S' : SS) (m : Nat), m ≤ n + c * L → Up ka S S' → DA S' kd ka m → ∃ δ1, bindC ct d (wipeD δ vs) = some δ1 ∧ ∀ P : D → SS → Prop, (∀ y S'', Q y → Up ka S' S'' → DA S'' kd ka (m + c) → P y S'') → Sat (el δ1 S') P)
    (k : ∀ (j : Nat) (ys : List D) (S' : SS), S'[j]? = some (.lst ys) → (∀ y ∈ ys, Q y) → ys.length = L → Up ka S S' → DA S' kd ka (n + c * L) → P (.ref j) S') : Sat (eLc it ct vs tYes' el δ S) P := by
  refine e_lc (hit.mono fun x S1 hx => ?_)
  obtain ⟨hgd, hup, hda, hxl⟩ := hx
  have hka : ka < S1.length := by
    obtain ⟨_, _, _, _, h2, _⟩ := hda
    exact get_len h2
  refine ⟨fun j acc S' => S'[S1.length]? = some (.lst acc) ∧ (∀ y ∈ acc, Q y) ∧ acc.length = min j x.1.length ∧ Up ka S S' ∧ DA S' kd ka (n + c * j) ∧ S1.length < S'.length, fun i acc S' hI => hI.1, ?_, fun j d acc S' hj hI => ?_, fun acc S' hI => ?_⟩
  · refine ⟨by simp, by simp, by simp, hup.trans Up.app, hda.app, by simp⟩
  · obtain ⟨h1, h2, h3, h4, h5, h6⟩ := hI
    have hjl := (List.getElem?_eq_some_iff.mp hj).1
    have hcj : c * j ≤ c * L := Nat.mul_le_mul_left c (by omega)
    obtain ⟨δ1, hb, he⟩ := hel d S' (n + c * j) (by omega) h4 h5
    refine ⟨hgd _, δ1, hb, ?_⟩
    simp only [t_yes, if_true]
    refine he _ fun y S2 hy up2 da2 => ⟨acc, up2.get _ _ (by omega) h1, by rw [sizeLine_eq]; omega, ?_, ?_, ?_, ?_, ?_, ?_⟩
    · have := up2.len
      rw [List.getElem?_set_self (by omega)]
    · intro z hz
      rcases List.mem_append.mp hz with hz | hz
      · exact h2 z hz
      · rw [List.mem_singleton.mp hz]
        exact hy
    · rw [List.length_append, h3, List.length_singleton]
      omega
    · have u3 := h4.trans up2
      refine ⟨by rw [List.length_set]; exact u3.len, fun k o hk e => ?_⟩
      have hs : k ≠ S1.length := by
        have := get_len e
        have := hup.len
        omega
      rw [List.getElem?_set_ne (by omega)]
      exact u3.get k o hk e
    · obtain ⟨ne, ds, p, a1, a2, a3⟩ := da2
      have hd1 : kd < S1.length := by
        obtain ⟨_, _, _, b1, _⟩ := hda
        exact get_len b1
      refine ⟨ne, ds, p, by rw [List.getElem?_set_ne (by omega)]; exact a1, by rw [List.getElem?_set_ne (by omega)]; exact a2, ?_⟩
      have : c * (j + 1) = c * j + c := Nat.mul_succ c j
      exact ⟨by omega, a3.2⟩
    · have := up2.len
      rw [List.length_set]
      omega
  · obtain ⟨h1, h2, h3, h4, h5, h6⟩ := hI
    have hcj : c * x.1.length ≤ c * L := Nat.mul_le_mul_left c (Nat.le_of_eq hxl)
    exact ⟨hgd _, k _ _ _ h1 h2 (by rw [h3]; omega) h4 (h5.up (by omega))⟩
theorem hit_rngD {δ : Sl} {a : PAs} {n kd ka q : Nat} (hn : n ≤ 1000000) (da : DA S kd ka q) (h : ∀ Q : List D → SS → Prop, Q [.int (nI n)] S → XSat (a δ S) Q noX) : XSat (iOn rng1D a δ S) (fun x S1 => (∀ S', gOk x.2 S') ∧ Up ka S S1 ∧ DA S1 kd ka q ∧ x.1.length = n) noX := by
  rw [xit_on]
  refine h _ ?_
  rw [nI_eq, rng1n hn]
  refine ⟨fun _ => trivial, Up.refl, da, ?_⟩
  exact rng_len
theorem filter_get0 {n m : Nat} {c : Nat → Bool} {g : Nat → D} (h : (List.range n).find? c = some m) : (((List.range n).filter c).map g)[0]? = some (g m) := by
  rw [← find_filter] at h
  cases hf : (List.range n).filter c with
  | nil =>
    rw [hf] at h
    cases h
  | cons a r =>
    rw [hf] at h
    cases h
    rfl
theorem filter_nil {n : Nat} {c : Nat → Bool} (h : (List.range n).find? c = none) : (List.range n).filter c = [] := by
  rw [← find_filter] at h
  cases hf : (List.range n).filter c with
  | nil => rfl
  | cons a r =>
    rw [hf] at h
    cases h
end
end DL
set_option Elab.async false
set_option linter.all false
set_option maxRecDepth 100000
/-! what the text says: the defs of the law, each by its tree -/
namespace K56
open PySem L2 DL
structure CA where
  ArgumentError : Addr
  LogError : Addr

def topS (i : Nat) : PySem.Stmt := (PySem.Challenge.pw_geartrue_k56_whole_striking_works).main.body.getD i (.Pass ⟨0, 0, 0, 0⟩)
def orc (C : CA) : Orc where
  sb := fun D c => if D = C.ArgumentError then (if c = C.ArgumentError then some true else if c = C.LogError then some false else none) else if D = C.LogError then (if c = C.LogError then some true else if c = C.ArgumentError then some false else none) else none
  fd := fun D f => if D = C.ArgumentError then (decide (f ∈ (["reason"] : List Str))) else if D = C.LogError then (decide (f ∈ (["number", "reason"] : List Str))) else false
/-! played -/
abbrev st_played : PySem.Stmt := topS 25
noncomputable def G_played (C : CA) : List (Str × GV) := [("len", .bi biLen)]
noncomputable def E_played (C : CA) : SE := { N := ["wheel", "deeds", "heard", "deed", "place", "hours"], sc := defScope st_played, fn := fun _ => true, G := fun x => List.lookup x (G_played C) }
noncomputable def F_played (C : CA) : Fn := fnD stdM (orc C) st_played (E_played C)
noncomputable def B_played (C : CA) : PSt := (sSeq (sAsg (eTup (aCons (eC (.int 0)) (aCons (eC (.int 0)) aNil))) (.many [4, 5])) (sSeq (sAsg (eLst aNil) (.one 2)) (sSeq (sFor (iVal (eVar 1)) (.one 3) (sSeq (sDrop (eMt miApp (eVar 2) (aCons (eIf (tVal (eOp2 (cmpD .Eq) (eVar 3) (eC (.str "stuck")))) (eC (.int 0)) (eOp2 ixD (eVar 0) (eVar 4))) aNil))) (sSeq (sIf (tVal (eOp2 (cmpD .NotEq) (eVar 3) (eC (.str "stuck")))) (sSeq (sAsg (eOp2 (binD .Mod) (eOp2 (binD .Add) (eVar 4) (eC (.int 1))) (eCB (one lenD) (aCons (eVar 0) aNil))) (.one 4)) sNil) sNil) (sSeq (sIf (tVal (eOp2 (cmpD .NotEq) (eVar 3) (eC (.str "pull")))) (sSeq (sAug .Add 5 (eC (.int 1))) sNil) sNil) sNil)))) (sSeq (sRet (eTup (aCons (eVar 4) (aCons (eVar 5) (aCons (eVar 2) aNil))))) sNil))))
theorem sem_played (C : CA) : F_played C = fnB (B_played C) 6 := by kernel_rfl
/-! demand_deeds -/
abbrev st_demand_deeds : PySem.Stmt := topS 24
noncomputable def G_demand_deeds (C : CA) : List (Str × GV) := [("enumerate", .it), ("isinstance", .bi biIsi), ("str", .bi biStr), ("DEEDS", .val (.tup [(.str "hour"), (.str "stuck"), (.str "pull")])), ("LogError", .ex C.LogError ["number", "reason"]), ("tuple", .bi biTuple), ("len", .bi biLen), ("MAX_HOURS", .val (.int 400)), ("ArgumentError", .ex C.ArgumentError ["reason"])]
noncomputable def E_demand_deeds (C : CA) : SE := { N := ["deeds", "number", "deed"], sc := defScope st_demand_deeds, fn := fun _ => true, G := fun x => List.lookup x (G_demand_deeds C) }
noncomputable def F_demand_deeds (C : CA) : Fn := fnD stdM (orc C) st_demand_deeds (E_demand_deeds C)
noncomputable def B_demand_deeds (C : CA) : PSt := (sSeq (sIf (tOr' (tNot' (tTru (eCB isiD (aCons (eVar 0) (aCons (eC (.ty "tuple")) aNil))))) (tVal (eOp2 (cmpD .Gt) (eCB (one lenD) (aCons (eVar 0) aNil)) (eC (.int 400))))) (sSeq (sRaise C.ArgumentError ["reason"] (aCons (eC (.str "deeds")) aNil)) sNil) sNil) (sSeq (sFor (iOn enuD (aCons (eVar 0) aNil)) (.many [1, 2]) (sSeq (sIf (tOr' (tNot' (tTru (eCB isiD (aCons (eVar 2) (aCons (eC (.ty "str")) aNil))))) (tVal (eOp2 (cmpD .NotIn) (eVar 2) (eC (.tup [(.str "hour"), (.str "stuck"), (.str "pull")]))))) (sSeq (sRaise C.LogError ["number", "reason"] (aCons (eVar 1) (aCons (eC (.str "deed")) aNil))) sNil) sNil) sNil)) sNil))
theorem sem_demand_deeds (C : CA) : F_demand_deeds C = fnB (B_demand_deeds C) 3 := by kernel_rfl
/-! is_integer -/
abbrev st_is_integer : PySem.Stmt := topS 5
noncomputable def G_is_integer (C : CA) : List (Str × GV) := [("isinstance", .bi biIsi), ("int", .bi biInt), ("bool", .bi (biTy "bool" "bool"))]
noncomputable def E_is_integer (C : CA) : SE := { N := ["value"], sc := defScope st_is_integer, fn := fun _ => true, G := fun x => List.lookup x (G_is_integer C) }
noncomputable def F_is_integer (C : CA) : Fn := fnD stdM (orc C) st_is_integer (E_is_integer C)
noncomputable def B_is_integer (C : CA) : PSt := (sSeq (sRet (eAnd (eCB isiD (aCons (eVar 0) (aCons (eC (.ty "int")) aNil))) (eOp1 notD (eCB isiD (aCons (eVar 0) (aCons (eC (.ty "bool")) aNil)))))) sNil)
theorem sem_is_integer (C : CA) : F_is_integer C = fnB (B_is_integer C) 1 := by kernel_rfl
/-! in_range -/
abbrev st_in_range : PySem.Stmt := topS 6
noncomputable def G_in_range (C : CA) : List (Str × GV) := [("is_integer", .fn (F_is_integer C) 1)]
noncomputable def E_in_range (C : CA) : SE := { N := ["value", "least", "most"], sc := defScope st_in_range, fn := fun _ => true, G := fun x => List.lookup x (G_in_range C) }
noncomputable def F_in_range (C : CA) : Fn := fnD stdM (orc C) st_in_range (E_in_range C)
noncomputable def B_in_range (C : CA) : PSt := (sSeq (sRet (eAnd (eCall (F_is_integer C) 1 (aCons (eVar 0) aNil)) (eChain (cmpD .LtE) (cmpD .LtE) (eVar 1) (eVar 0) (eVar 2)))) sNil)
theorem sem_in_range (C : CA) : F_in_range C = fnB (B_in_range C) 3 := by kernel_rfl
/-! demand_wheel -/
abbrev st_demand_wheel : PySem.Stmt := topS 14
noncomputable def G_demand_wheel (C : CA) : List (Str × GV) := [("all", .bi biAll), ("in_range", .fn (F_in_range C) 3), ("MAX_STROKES", .val (.int 24)), ("ArgumentError", .ex C.ArgumentError ["reason"]), ("isinstance", .bi biIsi), ("tuple", .bi biTuple), ("len", .bi biLen), ("MAX_TURN", .val (.int 60))]
noncomputable def E_demand_wheel (C : CA) : SE := { N := ["wheel", "reason", "count"], sc := defScope st_demand_wheel, fn := fun _ => true, G := fun x => List.lookup x (G_demand_wheel C) }
noncomputable def F_demand_wheel (C : CA) : Fn := fnD stdM (orc C) st_demand_wheel (E_demand_wheel C)
noncomputable def B_demand_wheel (C : CA) : PSt := (sSeq (sIf (tOr' (tNot' (tTru (eCB isiD (aCons (eVar 0) (aCons (eC (.ty "tuple")) aNil))))) (tNot' (tVal (eChain (cmpD .LtE) (cmpD .LtE) (eC (.int 1)) (eCB (one lenD) (aCons (eVar 0) aNil)) (eC (.int 60)))))) (sSeq (sRaise C.ArgumentError ["reason"] (aCons (eVar 1) aNil)) sNil) sNil) (sSeq (sIf (tNot' (tTru (eCB (one allD) (aCons (eLc (iVal (eVar 0)) (.one 2) [2] tYes' (eCall (F_in_range C) 3 (aCons (eVar 2) (aCons (eC (.int 1)) (aCons (eC (.int 24)) aNil))))) aNil)))) (sSeq (sRaise C.ArgumentError ["reason"] (aCons (eVar 1) aNil)) sNil) sNil) sNil))
theorem sem_demand_wheel (C : CA) : F_demand_wheel C = fnB (B_demand_wheel C) 3 := by kernel_rfl
/-! struck -/
abbrev st_struck : PySem.Stmt := topS 26
noncomputable def G_struck (C : CA) : List (Str × GV) := [("tuple", .bi biTuple), ("played", .fn (F_played C) 2), ("demand_deeds", .fn (F_demand_deeds C) 1), ("demand_wheel", .fnd (F_demand_wheel C) 2 (.str "wheel"))]
noncomputable def E_struck (C : CA) : SE := { N := ["wheel", "deeds", "place", "hours", "heard"], sc := defScope st_struck, fn := fun _ => true, G := fun x => List.lookup x (G_struck C) }
noncomputable def F_struck (C : CA) : Fn := fnD stdM (orc C) st_struck (E_struck C)
noncomputable def B_struck (C : CA) : PSt := (sSeq (sDrop (eCall (fun ds S => F_demand_wheel C (ds ++ [(.str "wheel")]) S) 1 (aCons (eVar 0) aNil))) (sSeq (sDrop (eCall (F_demand_deeds C) 1 (aCons (eVar 1) aNil))) (sSeq (sAsg (eCall (F_played C) 2 (aCons (eVar 0) (aCons (eVar 1) aNil))) (.many [2, 3, 4])) (sSeq (sRet (eTup (aCons (eVar 2) (aCons (eVar 3) (aCons (eCB (one tupleD) (aCons (eVar 4) aNil)) aNil))))) sNil))))
theorem sem_struck (C : CA) : F_struck C = fnB (B_struck C) 5 := by kernel_rfl
/-! wrong_hours -/
abbrev st_wrong_hours : PySem.Stmt := topS 27
noncomputable def G_wrong_hours (C : CA) : List (Str × GV) := [("tuple", .bi biTuple), ("enumerate", .it), ("len", .bi biLen), ("played", .fn (F_played C) 2), ("demand_deeds", .fn (F_demand_deeds C) 1), ("demand_wheel", .fnd (F_demand_wheel C) 2 (.str "wheel"))]
noncomputable def E_wrong_hours (C : CA) : SE := { N := ["wheel", "deeds", "heard", "found", "hours", "number", "deed"], sc := defScope st_wrong_hours, fn := fun _ => true, G := fun x => List.lookup x (G_wrong_hours C) }
noncomputable def F_wrong_hours (C : CA) : Fn := fnD stdM (orc C) st_wrong_hours (E_wrong_hours C)
noncomputable def B_wrong_hours (C : CA) : PSt := (sSeq (sDrop (eCall (fun ds S => F_demand_wheel C (ds ++ [(.str "wheel")]) S) 1 (aCons (eVar 0) aNil))) (sSeq (sDrop (eCall (F_demand_deeds C) 1 (aCons (eVar 1) aNil))) (sSeq (sAsg (eOp2 ixD (eCall (F_played C) 2 (aCons (eVar 0) (aCons (eVar 1) aNil))) (eC (.int 2))) (.one 2)) (sSeq (sAsg (eLst aNil) (.one 3)) (sSeq (sAsg (eC (.int 0)) (.one 4)) (sSeq (sFor (iOn enuD (aCons (eVar 1) aNil)) (.many [5, 6]) (sSeq (sIf (tVal (eOp2 (cmpD .NotEq) (eVar 6) (eC (.str "pull")))) (sSeq (sIf (tVal (eOp2 (cmpD .NotEq) (eOp2 ixD (eVar 2) (eVar 5)) (eOp2 ixD (eVar 0) (eOp2 (binD .Mod) (eVar 4) (eCB (one lenD) (aCons (eVar 0) aNil)))))) (sSeq (sDrop (eMt miApp (eVar 3) (aCons (eVar 5) aNil))) sNil) sNil) (sSeq (sAug .Add 4 (eC (.int 1))) sNil)) sNil) sNil)) (sSeq (sRet (eCB (one tupleD) (aCons (eVar 3) aNil))) sNil)))))))
theorem sem_wrong_hours (C : CA) : F_wrong_hours C = fnB (B_wrong_hours C) 7 := by kernel_rfl
/-! period_of -/
abbrev st_period_of : PySem.Stmt := topS 21
noncomputable def G_period_of (C : CA) : List (Str × GV) := [("range", .it), ("len", .bi biLen)]
noncomputable def E_period_of (C : CA) : SE := { N := ["wheel", "size", "step"], sc := defScope st_period_of, fn := fun _ => true, G := fun x => List.lookup x (G_period_of C) }
noncomputable def F_period_of (C : CA) : Fn := fnD stdM (orc C) st_period_of (E_period_of C)
noncomputable def B_period_of (C : CA) : PSt := (sSeq (sAsg (eCB (one lenD) (aCons (eVar 0) aNil)) (.one 1)) (sSeq (sFor (iOn rng2D (aCons (eC (.int 1)) (aCons (eVar 1) aNil))) (.one 2) (sSeq (sIf (tAnd' (tVal (eOp2 (cmpD .Eq) (eOp2 (binD .Mod) (eVar 1) (eVar 2)) (eC (.int 0)))) (tVal (eOp2 (cmpD .Eq) (eOp2 (binD .Add) (eSl (eVar 0) (oSome (eVar 2)) oNone) (eSl (eVar 0) oNone (oSome (eVar 2)))) (eVar 0)))) (sSeq (sRet (eVar 2)) sNil) sNil) sNil)) (sSeq (sRet (eVar 1)) sNil)))
theorem sem_period_of (C : CA) : F_period_of C = fnB (B_period_of C) 3 := by kernel_rfl
/-! pulls_needed -/
abbrev st_pulls_needed : PySem.Stmt := topS 28
noncomputable def G_pulls_needed (C : CA) : List (Str × GV) := [("period_of", .fn (F_period_of C) 1), ("played", .fn (F_played C) 2), ("demand_deeds", .fn (F_demand_deeds C) 1), ("demand_wheel", .fnd (F_demand_wheel C) 2 (.str "wheel"))]
noncomputable def E_pulls_needed (C : CA) : SE := { N := ["wheel", "deeds", "place", "hours", "heard"], sc := defScope st_pulls_needed, fn := fun _ => true, G := fun x => List.lookup x (G_pulls_needed C) }
noncomputable def F_pulls_needed (C : CA) : Fn := fnD stdM (orc C) st_pulls_needed (E_pulls_needed C)
noncomputable def B_pulls_needed (C : CA) : PSt := (sSeq (sDrop (eCall (fun ds S => F_demand_wheel C (ds ++ [(.str "wheel")]) S) 1 (aCons (eVar 0) aNil))) (sSeq (sDrop (eCall (F_demand_deeds C) 1 (aCons (eVar 1) aNil))) (sSeq (sAsg (eCall (F_played C) 2 (aCons (eVar 0) (aCons (eVar 1) aNil))) (.many [2, 3, 4])) (sSeq (sRet (eOp2 (binD .Mod) (eOp2 (binD .Sub) (eVar 3) (eVar 2)) (eCall (F_period_of C) 1 (aCons (eVar 0) aNil)))) sNil))))
theorem sem_pulls_needed (C : CA) : F_pulls_needed C = fnB (B_pulls_needed C) 5 := by kernel_rfl
/-! demand_place -/
abbrev st_demand_place : PySem.Stmt := topS 15
noncomputable def G_demand_place (C : CA) : List (Str × GV) := [("in_range", .fn (F_in_range C) 3), ("len", .bi biLen), ("ArgumentError", .ex C.ArgumentError ["reason"])]
noncomputable def E_demand_place (C : CA) : SE := { N := ["wheel", "place"], sc := defScope st_demand_place, fn := fun _ => true, G := fun x => List.lookup x (G_demand_place C) }
noncomputable def F_demand_place (C : CA) : Fn := fnD stdM (orc C) st_demand_place (E_demand_place C)
noncomputable def B_demand_place (C : CA) : PSt := (sSeq (sIf (tNot' (tTru (eCall (F_in_range C) 3 (aCons (eVar 1) (aCons (eC (.int 0)) (aCons (eOp2 (binD .Sub) (eCB (one lenD) (aCons (eVar 0) aNil)) (eC (.int 1))) aNil)))))) (sSeq (sRaise C.ArgumentError ["reason"] (aCons (eC (.str "place")) aNil)) sNil) sNil) sNil)
theorem sem_demand_place (C : CA) : F_demand_place C = fnB (B_demand_place C) 2 := by kernel_rfl
/-! pulls -/
abbrev st_pulls : PySem.Stmt := topS 23
noncomputable def G_pulls (C : CA) : List (Str × GV) := [("period_of", .fn (F_period_of C) 1), ("in_range", .fn (F_in_range C) 3), ("len", .bi biLen), ("ArgumentError", .ex C.ArgumentError ["reason"]), ("demand_place", .fn (F_demand_place C) 2), ("demand_wheel", .fnd (F_demand_wheel C) 2 (.str "wheel"))]
noncomputable def E_pulls (C : CA) : SE := { N := ["wheel", "place", "due"], sc := defScope st_pulls, fn := fun _ => true, G := fun x => List.lookup x (G_pulls C) }
noncomputable def F_pulls (C : CA) : Fn := fnD stdM (orc C) st_pulls (E_pulls C)
noncomputable def B_pulls (C : CA) : PSt := (sSeq (sDrop (eCall (fun ds S => F_demand_wheel C (ds ++ [(.str "wheel")]) S) 1 (aCons (eVar 0) aNil))) (sSeq (sDrop (eCall (F_demand_place C) 2 (aCons (eVar 0) (aCons (eVar 1) aNil)))) (sSeq (sIf (tNot' (tTru (eCall (F_in_range C) 3 (aCons (eVar 2) (aCons (eC (.int 0)) (aCons (eOp2 (binD .Sub) (eCB (one lenD) (aCons (eVar 0) aNil)) (eC (.int 1))) aNil)))))) (sSeq (sRaise C.ArgumentError ["reason"] (aCons (eC (.str "due")) aNil)) sNil) sNil) (sSeq (sRet (eOp2 (binD .Mod) (eOp2 (binD .Sub) (eVar 2) (eVar 1)) (eCall (F_period_of C) 1 (aCons (eVar 0) aNil)))) sNil))))
theorem sem_pulls (C : CA) : F_pulls C = fnB (B_pulls C) 3 := by kernel_rfl
/-! first_unlike -/
abbrev st_first_unlike : PySem.Stmt := topS 29
noncomputable def G_first_unlike (C : CA) : List (Str × GV) := [("range", .it), ("len", .bi biLen), ("in_range", .fn (F_in_range C) 3), ("ArgumentError", .ex C.ArgumentError ["reason"]), ("demand_wheel", .fnd (F_demand_wheel C) 2 (.str "wheel")), ("demand_place", .fn (F_demand_place C) 2)]
noncomputable def E_first_unlike (C : CA) : SE := { N := ["wheel", "place", "other", "spot", "time"], sc := defScope st_first_unlike, fn := fun _ => true, G := fun x => List.lookup x (G_first_unlike C) }
noncomputable def F_first_unlike (C : CA) : Fn := fnD stdM (orc C) st_first_unlike (E_first_unlike C)
noncomputable def B_first_unlike (C : CA) : PSt := (sSeq (sDrop (eCall (fun ds S => F_demand_wheel C (ds ++ [(.str "wheel")]) S) 1 (aCons (eVar 0) aNil))) (sSeq (sDrop (eCall (F_demand_place C) 2 (aCons (eVar 0) (aCons (eVar 1) aNil)))) (sSeq (sDrop (eCall (F_demand_wheel C) 2 (aCons (eVar 2) (aCons (eC (.str "other")) aNil)))) (sSeq (sIf (tNot' (tTru (eCall (F_in_range C) 3 (aCons (eVar 3) (aCons (eC (.int 0)) (aCons (eOp2 (binD .Sub) (eCB (one lenD) (aCons (eVar 2) aNil)) (eC (.int 1))) aNil)))))) (sSeq (sRaise C.ArgumentError ["reason"] (aCons (eC (.str "spot")) aNil)) sNil) sNil) (sSeq (sFor (iOn rng1D (aCons (eOp2 (binD .Mult) (eCB (one lenD) (aCons (eVar 0) aNil)) (eCB (one lenD) (aCons (eVar 2) aNil))) aNil)) (.one 4) (sSeq (sIf (tVal (eOp2 (cmpD .NotEq) (eOp2 ixD (eVar 0) (eOp2 (binD .Mod) (eOp2 (binD .Add) (eVar 1) (eVar 4)) (eCB (one lenD) (aCons (eVar 0) aNil)))) (eOp2 ixD (eVar 2) (eOp2 (binD .Mod) (eOp2 (binD .Add) (eVar 3) (eVar 4)) (eCB (one lenD) (aCons (eVar 2) aNil)))))) (sSeq (sRet (eVar 4)) sNil) sNil) sNil)) (sSeq (sRet (eC .non)) sNil))))))
theorem sem_first_unlike (C : CA) : F_first_unlike C = fnB (B_first_unlike C) 5 := by kernel_rfl
/-! wheel_of -/
abbrev st_wheel_of : PySem.Stmt := topS 17
noncomputable def G_wheel_of (C : CA) : List (Str × GV) := [("tuple", .bi biTuple), ("all", .bi biAll), ("MAX_STROKES", .val (.int 24)), ("ArgumentError", .ex C.ArgumentError ["reason"]), ("zip", .it), ("in_range", .fn (F_in_range C) 3), ("MAX_TURN", .val (.int 60)), ("isinstance", .bi biIsi), ("len", .bi biLen)]
noncomputable def E_wheel_of (C : CA) : SE := { N := ["places", "counts", "before", "after", "place", "count"], sc := defScope st_wheel_of, fn := fun _ => true, G := fun x => List.lookup x (G_wheel_of C) }
noncomputable def F_wheel_of (C : CA) : Fn := fnD stdM (orc C) st_wheel_of (E_wheel_of C)
noncomputable def B_wheel_of (C : CA) : PSt := (sSeq (sIf (tOr' (tNot' (tTru (eCB isiD (aCons (eVar 0) (aCons (eC (.ty "tuple")) aNil))))) (tNot' (tVal (eChain (cmpD .LtE) (cmpD .LtE) (eC (.int 1)) (eCB (one lenD) (aCons (eVar 0) aNil)) (eC (.int 60)))))) (sSeq (sRaise C.ArgumentError ["reason"] (aCons (eC (.str "notches")) aNil)) sNil) sNil) (sSeq (sIf (tNot' (tTru (eCB (one allD) (aCons (eLc (iVal (eVar 0)) (.one 4) [4] tYes' (eCall (F_in_range C) 3 (aCons (eVar 4) (aCons (eC (.int 1)) (aCons (eOp2 (binD .Mult) (eC (.int 60)) (eC (.int 24))) aNil))))) aNil)))) (sSeq (sRaise C.ArgumentError ["reason"] (aCons (eC (.str "notches")) aNil)) sNil) sNil) (sSeq (sAsg (eLc (iOn zpD (aCons (eOp2 (binD .Add) (eTup (aCons (eC (.int 0)) aNil)) (eVar 0)) (aCons (eVar 0) aNil))) (.many [2, 3]) [2, 3] tYes' (eOp2 (binD .Sub) (eVar 3) (eVar 2))) (.one 1)) (sSeq (sIf (tNot' (tTru (eCB (one allD) (aCons (eLc (iVal (eVar 1)) (.one 5) [5] tYes' (eChain (cmpD .LtE) (cmpD .LtE) (eC (.int 1)) (eVar 5) (eC (.int 24)))) aNil)))) (sSeq (sRaise C.ArgumentError ["reason"] (aCons (eC (.str "notches")) aNil)) sNil) sNil) (sSeq (sRet (eCB (one tupleD) (aCons (eVar 1) aNil))) sNil)))))
theorem sem_wheel_of (C : CA) : F_wheel_of C = fnB (B_wheel_of C) 6 := by kernel_rfl
/-! notches -/
abbrev st_notches : PySem.Stmt := topS 16
noncomputable def G_notches (C : CA) : List (Str × GV) := [("tuple", .bi biTuple), ("demand_wheel", .fnd (F_demand_wheel C) 2 (.str "wheel"))]
noncomputable def E_notches (C : CA) : SE := { N := ["wheel", "total", "found", "count"], sc := defScope st_notches, fn := fun _ => true, G := fun x => List.lookup x (G_notches C) }
noncomputable def F_notches (C : CA) : Fn := fnD stdM (orc C) st_notches (E_notches C)
noncomputable def B_notches (C : CA) : PSt := (sSeq (sDrop (eCall (fun ds S => F_demand_wheel C (ds ++ [(.str "wheel")]) S) 1 (aCons (eVar 0) aNil))) (sSeq (sAsg (eC (.int 0)) (.one 1)) (sSeq (sAsg (eLst aNil) (.one 2)) (sSeq (sFor (iVal (eVar 0)) (.one 3) (sSeq (sAug .Add 1 (eVar 3)) (sSeq (sDrop (eMt miApp (eVar 2) (aCons (eVar 1) aNil))) sNil))) (sSeq (sRet (eCB (one tupleD) (aCons (eVar 2) aNil))) sNil)))))
theorem sem_notches (C : CA) : F_notches C = fnB (B_notches C) 4 := by kernel_rfl
/-! period -/
abbrev st_period : PySem.Stmt := topS 22
noncomputable def G_period (C : CA) : List (Str × GV) := [("period_of", .fn (F_period_of C) 1), ("demand_wheel", .fnd (F_demand_wheel C) 2 (.str "wheel"))]
noncomputable def E_period (C : CA) : SE := { N := ["wheel"], sc := defScope st_period, fn := fun _ => true, G := fun x => List.lookup x (G_period C) }
noncomputable def F_period (C : CA) : Fn := fnD stdM (orc C) st_period (E_period C)
noncomputable def B_period (C : CA) : PSt := (sSeq (sDrop (eCall (fun ds S => F_demand_wheel C (ds ++ [(.str "wheel")]) S) 1 (aCons (eVar 0) aNil))) (sSeq (sRet (eCall (F_period_of C) 1 (aCons (eVar 0) aNil))) sNil))
theorem sem_period (C : CA) : F_period C = fnB (B_period C) 1 := by kernel_rfl
/-! strokes_of -/
abbrev st_strokes_of : PySem.Stmt := topS 18
noncomputable def G_strokes_of (C : CA) : List (Str × GV) := [("sum", .bi biSum), ("len", .bi biLen)]
noncomputable def E_strokes_of (C : CA) : SE := { N := ["wheel", "place", "hours", "turns", "rest"], sc := defScope st_strokes_of, fn := fun _ => true, G := fun x => List.lookup x (G_strokes_of C) }
noncomputable def F_strokes_of (C : CA) : Fn := fnD stdM (orc C) st_strokes_of (E_strokes_of C)
noncomputable def B_strokes_of (C : CA) : PSt := (sSeq (sAsg (eOp2 (binD .FloorDiv) (eVar 2) (eCB (one lenD) (aCons (eVar 0) aNil))) (.one 3)) (sSeq (sAsg (eOp2 (binD .Mod) (eVar 2) (eCB (one lenD) (aCons (eVar 0) aNil))) (.one 4)) (sSeq (sRet (eOp2 (binD .Add) (eOp2 (binD .Mult) (eVar 3) (eCB (one sumD) (aCons (eVar 0) aNil))) (eCB (one sumD) (aCons (eSl (eOp2 (binD .Add) (eVar 0) (eVar 0)) (oSome (eVar 1)) (oSome (eOp2 (binD .Add) (eVar 1) (eVar 4)))) aNil)))) sNil)))
theorem sem_strokes_of (C : CA) : F_strokes_of C = fnB (B_strokes_of C) 5 := by kernel_rfl
/-! strokes -/
abbrev st_strokes : PySem.Stmt := topS 19
noncomputable def G_strokes (C : CA) : List (Str × GV) := [("strokes_of", .fn (F_strokes_of C) 3), ("in_range", .fn (F_in_range C) 3), ("MAX_NUMBER", .val (.int 1000000000)), ("ArgumentError", .ex C.ArgumentError ["reason"]), ("demand_place", .fn (F_demand_place C) 2), ("demand_wheel", .fnd (F_demand_wheel C) 2 (.str "wheel"))]
noncomputable def E_strokes (C : CA) : SE := { N := ["wheel", "place", "hours"], sc := defScope st_strokes, fn := fun _ => true, G := fun x => List.lookup x (G_strokes C) }
noncomputable def F_strokes (C : CA) : Fn := fnD stdM (orc C) st_strokes (E_strokes C)
noncomputable def B_strokes (C : CA) : PSt := (sSeq (sDrop (eCall (fun ds S => F_demand_wheel C (ds ++ [(.str "wheel")]) S) 1 (aCons (eVar 0) aNil))) (sSeq (sDrop (eCall (F_demand_place C) 2 (aCons (eVar 0) (aCons (eVar 1) aNil)))) (sSeq (sIf (tNot' (tTru (eCall (F_in_range C) 3 (aCons (eVar 2) (aCons (eC (.int 0)) (aCons (eC (.int 1000000000)) aNil)))))) (sSeq (sRaise C.ArgumentError ["reason"] (aCons (eC (.str "hours")) aNil)) sNil) sNil) (sSeq (sRet (eCall (F_strokes_of C) 3 (aCons (eVar 0) (aCons (eVar 1) (aCons (eVar 2) aNil))))) sNil))))
theorem sem_strokes (C : CA) : F_strokes C = fnB (B_strokes C) 3 := by kernel_rfl
/-! hours_for -/
abbrev st_hours_for : PySem.Stmt := topS 20
noncomputable def G_hours_for (C : CA) : List (Str × GV) := [("strokes_of", .fn (F_strokes_of C) 3), ("sum", .bi biSum), ("len", .bi biLen), ("in_range", .fn (F_in_range C) 3), ("MAX_NUMBER", .val (.int 1000000000)), ("ArgumentError", .ex C.ArgumentError ["reason"]), ("demand_place", .fn (F_demand_place C) 2), ("demand_wheel", .fnd (F_demand_wheel C) 2 (.str "wheel"))]
noncomputable def E_hours_for (C : CA) : SE := { N := ["wheel", "place", "count", "hours"], sc := defScope st_hours_for, fn := fun _ => true, G := fun x => List.lookup x (G_hours_for C) }
noncomputable def F_hours_for (C : CA) : Fn := fnD stdM (orc C) st_hours_for (E_hours_for C)
noncomputable def B_hours_for (C : CA) : PSt := (sSeq (sDrop (eCall (fun ds S => F_demand_wheel C (ds ++ [(.str "wheel")]) S) 1 (aCons (eVar 0) aNil))) (sSeq (sDrop (eCall (F_demand_place C) 2 (aCons (eVar 0) (aCons (eVar 1) aNil)))) (sSeq (sIf (tNot' (tTru (eCall (F_in_range C) 3 (aCons (eVar 2) (aCons (eC (.int 0)) (aCons (eC (.int 1000000000)) aNil)))))) (sSeq (sRaise C.ArgumentError ["reason"] (aCons (eC (.str "count")) aNil)) sNil) sNil) (sSeq (sAsg (eOp2 (binD .Mult) (eOp2 (binD .FloorDiv) (eVar 2) (eCB (one sumD) (aCons (eVar 0) aNil))) (eCB (one lenD) (aCons (eVar 0) aNil))) (.one 3)) (sSeq (sWhile (tVal (eOp2 (cmpD .Lt) (eCall (F_strokes_of C) 3 (aCons (eVar 0) (aCons (eVar 1) (aCons (eVar 3) aNil)))) (eVar 2))) (sSeq (sAug .Add 3 (eC (.int 1))) sNil)) (sSeq (sWhile (tAnd' (tVal (eOp2 (cmpD .Gt) (eVar 3) (eC (.int 0)))) (tVal (eOp2 (cmpD .GtE) (eCall (F_strokes_of C) 3 (aCons (eVar 0) (aCons (eVar 1) (aCons (eOp2 (binD .Sub) (eVar 3) (eC (.int 1))) aNil)))) (eVar 2)))) (sSeq (sAug .Sub 3 (eC (.int 1))) sNil)) (sSeq (sRet (eVar 3)) sNil)))))))
theorem sem_hours_for (C : CA) : F_hours_for C = fnB (B_hours_for C) 4 := by kernel_rfl
/-! _law_told -/
abbrev st_l_told : PySem.Stmt := topS 45
noncomputable def G_l_told (C : CA) : List (Str × GV) := [("LogError", .ex C.LogError ["number", "reason"]), ("ArgumentError", .ex C.ArgumentError ["reason"]), ("struck", .fn (F_struck C) 2), ("wrong_hours", .fn (F_wrong_hours C) 2), ("pulls_needed", .fn (F_pulls_needed C) 2), ("pulls", .fn (F_pulls C) 3), ("first_unlike", .fn (F_first_unlike C) 4), ("wheel_of", .fn (F_wheel_of C) 1), ("notches", .fn (F_notches C) 1), ("period", .fn (F_period C) 1), ("strokes", .fn (F_strokes C) 3), ("hours_for", .fn (F_hours_for C) 3)]
noncomputable def E_l_told (C : CA) : SE := { N := ["which", "one", "two", "three", "four", "e"], sc := defScope st_l_told, fn := fun _ => true, G := fun x => List.lookup x (G_l_told C) }
noncomputable def F_l_told (C : CA) : Fn := fnD stdM (orc C) st_l_told (E_l_told C)
noncomputable def hnd_l_told_0 (C : CA) : HSt := (hS1 (orc C) (E_l_told C) "e" 5 (hndSt st_l_told 0 0)).getD fun _ _ _ _ => .bad
noncomputable def hnd_l_told_1 (C : CA) : HSt := (hS1 (orc C) (E_l_told C) "e" 5 (hndSt st_l_told 0 1)).getD fun _ _ _ _ => .bad
noncomputable def B_l_told (C : CA) : PSt := (sSeq (sTry (orc C) (sSeq (sIf (tVal (eOp2 (cmpD .Lt) (eVar 0) (eC (.int 4)))) (sSeq (sRet (eIf (tVal (eOp2 (cmpD .Eq) (eVar 0) (eC (.int 0)))) (eCall (F_notches C) 1 (aCons (eVar 1) aNil)) (eIf (tVal (eOp2 (cmpD .Eq) (eVar 0) (eC (.int 1)))) (eCall (F_period C) 1 (aCons (eVar 1) aNil)) (eIf (tVal (eOp2 (cmpD .Eq) (eVar 0) (eC (.int 2)))) (eCall (F_strokes C) 3 (aCons (eVar 1) (aCons (eVar 2) (aCons (eVar 3) aNil)))) (eCall (F_hours_for C) 3 (aCons (eVar 1) (aCons (eVar 2) (aCons (eVar 3) aNil)))))))) sNil) sNil) (sSeq (sIf (tVal (eOp2 (cmpD .Lt) (eVar 0) (eC (.int 7)))) (sSeq (sRet (eIf (tVal (eOp2 (cmpD .Eq) (eVar 0) (eC (.int 4)))) (eCall (F_pulls C) 3 (aCons (eVar 1) (aCons (eVar 2) (aCons (eVar 3) aNil)))) (eIf (tVal (eOp2 (cmpD .Eq) (eVar 0) (eC (.int 5)))) (eCall (F_first_unlike C) 4 (aCons (eVar 1) (aCons (eVar 2) (aCons (eVar 3) (aCons (eVar 4) aNil))))) (eCall (F_wheel_of C) 1 (aCons (eVar 1) aNil))))) sNil) sNil) (sSeq (sRet (eIf (tVal (eOp2 (cmpD .Eq) (eVar 0) (eC (.int 7)))) (eCall (F_struck C) 2 (aCons (eVar 1) (aCons (eVar 2) aNil))) (eIf (tVal (eOp2 (cmpD .Eq) (eVar 0) (eC (.int 8)))) (eCall (F_wrong_hours C) 2 (aCons (eVar 1) (aCons (eVar 2) aNil))) (eCall (F_pulls_needed C) 2 (aCons (eVar 1) (aCons (eVar 2) aNil)))))) sNil))) [(C.LogError, 5, hnd_l_told_0 C), (C.ArgumentError, 5, hnd_l_told_1 C)]) sNil)
theorem sem_l_told (C : CA) : F_l_told C = fnB (B_l_told C) 6 := by kernel_rfl
/-! _law_more -/
abbrev st_l_more : PySem.Stmt := topS 32
noncomputable def G_l_more (C : CA) : List (Str × GV) := [("range", .it), ("int", .bi biInt), ("len", .bi biLen)]
noncomputable def E_l_more (C : CA) : SE := { N := ["draws", "place", "mixed", "k"], sc := defScope st_l_more, fn := fun _ => true, G := fun x => List.lookup x (G_l_more C) }
noncomputable def F_l_more (C : CA) : Fn := fnD stdM (orc C) st_l_more (E_l_more C)
noncomputable def B_l_more (C : CA) : PSt := (sSeq (sAsg (eOp2 (binD .Mod) (eCB (one intD) (aCons (eOp2 (binD .Add) (eOp2 (binD .Add) (eOp2 (binD .Mult) (eVar 1) (eC (.int 48271))) (eCB (one lenD) (aCons (eVar 0) aNil))) (eC (.int 11))) aNil)) (eC (.int 2147483629))) (.one 2)) (sSeq (sFor (iOn rng1D (aCons (eC (.int 3)) aNil)) (.one 3) (sSeq (sIf (tTru (eVar 0)) (sSeq (sAsg (eOp2 (binD .Add) (eVar 2) (eOp2 ixD (eVar 0) (eOp2 (binD .Mod) (eCB (one intD) (aCons (eOp2 (binD .Add) (eOp2 (binD .Mult) (eVar 1) (eOp2 (binD .Add) (eVar 3) (eC (.int 5)))) (eVar 3)) aNil)) (eCB (one lenD) (aCons (eVar 0) aNil))))) (.one 2)) sNil) sNil) (sSeq (sAsg (eOp2 (binD .Mod) (eCB (one intD) (aCons (eOp2 (binD .Add) (eOp2 (binD .Add) (eOp2 (binD .Mult) (eVar 2) (eC (.int 16807))) (eOp2 (binD .Mult) (eC (.int 69621)) (eVar 3))) (eC (.int 5))) aNil)) (eC (.int 2147483629))) (.one 2)) sNil))) (sSeq (sRet (eOp2 (binD .FloorDiv) (eVar 2) (eC (.int 1009)))) sNil)))
theorem sem_l_more (C : CA) : F_l_more C = fnB (B_l_more C) 4 := by kernel_rfl
/-! _law_take -/
abbrev st_l_take : PySem.Stmt := topS 33
noncomputable def G_l_take (C : CA) : List (Str × GV) := [("int", .bi biInt), ("len", .bi biLen), ("_law_more", .fn (F_l_more C) 2)]
noncomputable def E_l_take (C : CA) : SE := { N := ["draws", "at", "many", "place"], sc := defScope st_l_take, fn := fun _ => true, G := fun x => List.lookup x (G_l_take C) }
noncomputable def F_l_take (C : CA) : Fn := fnD stdM (orc C) st_l_take (E_l_take C)
noncomputable def B_l_take (C : CA) : PSt := (sSeq (sAsg (eOp2 ixD (eVar 1) (eC (.int 0))) (.one 3)) (sSeq (sSet (eOp2 (binD .Add) (eVar 3) (eC (.int 1))) (eVar 1) (eC (.int 0))) (sSeq (sRet (eOp2 (binD .Mod) (eCB (one intD) (aCons (eIf (tVal (eOp2 (cmpD .Lt) (eVar 3) (eCB (one lenD) (aCons (eVar 0) aNil)))) (eOp2 ixD (eVar 0) (eVar 3)) (eCall (F_l_more C) 2 (aCons (eVar 0) (aCons (eVar 3) aNil)))) aNil)) (eVar 2))) sNil)))
theorem sem_l_take (C : CA) : F_l_take C = fnB (B_l_take C) 4 := by kernel_rfl
/-! _law_one -/
abbrev st_l_one : PySem.Stmt := topS 34
noncomputable def G_l_one (C : CA) : List (Str × GV) := [("_law_take", .fn (F_l_take C) 3), ("len", .bi biLen)]
noncomputable def E_l_one (C : CA) : SE := { N := ["rows", "draws", "at"], sc := defScope st_l_one, fn := fun _ => true, G := fun x => List.lookup x (G_l_one C) }
noncomputable def F_l_one (C : CA) : Fn := fnD stdM (orc C) st_l_one (E_l_one C)
noncomputable def B_l_one (C : CA) : PSt := (sSeq (sRet (eOp2 ixD (eVar 0) (eCall (F_l_take C) 3 (aCons (eVar 1) (aCons (eVar 2) (aCons (eCB (one lenD) (aCons (eVar 0) aNil)) aNil)))))) sNil)
theorem sem_l_one (C : CA) : F_l_one C = fnB (B_l_one C) 3 := by kernel_rfl
/-! _law_same_as -/
abbrev st_l_same_as : PySem.Stmt := topS 35
noncomputable def G_l_same_as (C : CA) : List (Str × GV) := [("repr", .bi biRepr)]
noncomputable def E_l_same_as (C : CA) : SE := { N := ["actual", "due"], sc := defScope st_l_same_as, fn := fun _ => true, G := fun x => List.lookup x (G_l_same_as C) }
noncomputable def F_l_same_as (C : CA) : Fn := fnD stdM (orc C) st_l_same_as (E_l_same_as C)
noncomputable def B_l_same_as (C : CA) : PSt := (sSeq (sRet (eAnd (eOp2 (cmpD .Eq) (eVar 0) (eVar 1)) (eOp2 (cmpD .Eq) (eCB (one reprD) (aCons (eVar 0) aNil)) (eCB (one reprD) (aCons (eVar 1) aNil))))) sNil)
theorem sem_l_same_as (C : CA) : F_l_same_as C = fnB (B_l_same_as C) 2 := by kernel_rfl
/-! _law_turned -/
abbrev st_l_turned : PySem.Stmt := topS 39
noncomputable def G_l_turned (C : CA) : List (Str × GV) := []
noncomputable def E_l_turned (C : CA) : SE := { N := ["wheel", "place"], sc := defScope st_l_turned, fn := fun _ => true, G := fun x => List.lookup x (G_l_turned C) }
noncomputable def F_l_turned (C : CA) : Fn := fnD stdM (orc C) st_l_turned (E_l_turned C)
noncomputable def B_l_turned (C : CA) : PSt := (sSeq (sRet (eOp2 (binD .Add) (eSl (eVar 0) (oSome (eVar 1)) oNone) (eSl (eVar 0) oNone (oSome (eVar 1))))) sNil)
theorem sem_l_turned (C : CA) : F_l_turned C = fnB (B_l_turned C) 2 := by kernel_rfl
/-! _law_pulls -/
abbrev st_l_pulls : PySem.Stmt := topS 42
noncomputable def G_l_pulls (C : CA) : List (Str × GV) := [("range", .it), ("len", .bi biLen), ("_law_turned", .fn (F_l_turned C) 2), ("int", .bi biInt)]
noncomputable def E_l_pulls (C : CA) : SE := { N := ["wheel", "place", "due", "k"], sc := defScope st_l_pulls, fn := fun _ => true, G := fun x => List.lookup x (G_l_pulls C) }
noncomputable def F_l_pulls (C : CA) : Fn := fnD stdM (orc C) st_l_pulls (E_l_pulls C)
noncomputable def B_l_pulls (C : CA) : PSt := (sSeq (sRet (eOp2 ixD (eLc (iOn rng1D (aCons (eCB (one lenD) (aCons (eVar 0) aNil)) aNil)) (.one 3) [3] (tVal (eOp2 (cmpD .Eq) (eCall (F_l_turned C) 2 (aCons (eVar 0) (aCons (eOp2 (binD .Mod) (eCB (one intD) (aCons (eOp2 (binD .Add) (eVar 1) (eVar 3)) aNil)) (eCB (one lenD) (aCons (eVar 0) aNil))) aNil))) (eCall (F_l_turned C) 2 (aCons (eVar 0) (aCons (eVar 2) aNil))))) (eVar 3)) (eC (.int 0)))) sNil)
theorem sem_l_pulls (C : CA) : F_l_pulls C = fnB (B_l_pulls C) 4 := by kernel_rfl
/-! _law_run -/
abbrev st_l_run : PySem.Stmt := topS 44
noncomputable def G_l_run (C : CA) : List (Str × GV) := [("range", .it), ("len", .bi biLen), ("int", .bi biInt), ("isinstance", .bi biIsi), ("str", .bi biStr)]
noncomputable def E_l_run (C : CA) : SE := { N := ["wheel", "deeds", "k", "place", "hours", "heard", "wrong", "told"], sc := defScope st_l_run, fn := fun _ => true, G := fun x => List.lookup x (G_l_run C) }
noncomputable def F_l_run (C : CA) : Fn := fnD stdM (orc C) st_l_run (E_l_run C)
noncomputable def B_l_run (C : CA) : PSt := (sSeq (sAsg (eTup (aCons (eC (.int 0)) (aCons (eC (.int 0)) (aCons (eTup aNil) (aCons (eTup aNil) aNil))))) (.many [3, 4, 5, 6])) (sSeq (sFor (iOn rng1D (aCons (eCB (one lenD) (aCons (eVar 1) aNil)) aNil)) (.one 2) (sSeq (sIf (tOr' (tNot' (tTru (eCB isiD (aCons (eOp2 ixD (eVar 1) (eVar 2)) (aCons (eC (.ty "str")) aNil))))) (tVal (eOp2 (cmpD .NotIn) (eOp2 ixD (eVar 1) (eVar 2)) (eTup (aCons (eC (.str "hour")) (aCons (eC (.str "stuck")) (aCons (eC (.str "pull")) aNil))))))) (sSeq (sRet (eTup (aCons (eC .non) (aCons (eVar 2) aNil)))) sNil) sNil) (sSeq (sAsg (eIf (tVal (eOp2 (cmpD .Eq) (eOp2 ixD (eVar 1) (eVar 2)) (eC (.str "stuck")))) (eC (.int 0)) (eOp2 ixD (eVar 0) (eVar 3))) (.one 7)) (sSeq (sIf (tVal (eOp2 (cmpD .NotEq) (eOp2 ixD (eVar 1) (eVar 2)) (eC (.str "pull")))) (sSeq (sAsg (eIf (tVal (eOp2 (cmpD .NotEq) (eVar 7) (eOp2 ixD (eVar 0) (eOp2 (binD .Mod) (eCB (one intD) (aCons (eVar 4) aNil)) (eCB (one lenD) (aCons (eVar 0) aNil)))))) (eOp2 (binD .Add) (eVar 6) (eTup (aCons (eVar 2) aNil))) (eVar 6)) (.one 6)) (sSeq (sAsg (eOp2 (binD .Add) (eVar 4) (eC (.int 1))) (.one 4)) sNil)) sNil) (sSeq (sAsg (eIf (tVal (eOp2 (cmpD .Eq) (eOp2 ixD (eVar 1) (eVar 2)) (eC (.str "stuck")))) (eVar 3) (eOp2 (binD .Mod) (eCB (one intD) (aCons (eOp2 (binD .Add) (eVar 3) (eC (.int 1))) aNil)) (eCB (one lenD) (aCons (eVar 0) aNil)))) (.one 3)) (sSeq (sAsg (eOp2 (binD .Add) (eVar 5) (eTup (aCons (eVar 7) aNil))) (.one 5)) sNil)))))) (sSeq (sRet (eTup (aCons (eTup (aCons (eVar 3) (aCons (eVar 4) (aCons (eVar 5) aNil)))) (aCons (eVar 6) aNil)))) sNil)))
theorem sem_l_run (C : CA) : F_l_run C = fnB (B_l_run C) 8 := by kernel_rfl
/-! _law_deeds_fit -/
abbrev st_l_deeds_fit : PySem.Stmt := topS 46
noncomputable def G_l_deeds_fit (C : CA) : List (Str × GV) := [("_law_same_as", .fn (F_l_same_as C) 2), ("tuple", .bi biTuple), ("_law_told", .fn (F_l_told C) 5), ("_law_pulls", .fn (F_l_pulls C) 3), ("int", .bi biInt), ("len", .bi biLen), ("_law_run", .fn (F_l_run C) 2)]
noncomputable def E_l_deeds_fit (C : CA) : SE := { N := ["wheel", "deeds", "due", "seen", "wrong", "which"], sc := defScope st_l_deeds_fit, fn := fun _ => true, G := fun x => List.lookup x (G_l_deeds_fit C) }
noncomputable def F_l_deeds_fit (C : CA) : Fn := fnD stdM (orc C) st_l_deeds_fit (E_l_deeds_fit C)
noncomputable def B_l_deeds_fit (C : CA) : PSt := (sSeq (sAsg (eCall (F_l_run C) 2 (aCons (eVar 0) (aCons (eVar 1) aNil))) (.many [3, 4])) (sSeq (sIf (tVal (eOp2 (cmpD .Is) (eVar 3) (eC .non))) (sSeq (sRet (eOp2 (cmpD .Eq) (eLc (iVal (eTup (aCons (eC (.int 7)) (aCons (eC (.int 8)) (aCons (eC (.int 9)) aNil))))) (.one 5) [5] tYes' (eCall (F_l_told C) 5 (aCons (eVar 5) (aCons (eVar 0) (aCons (eVar 1) (aCons (eC .non) (aCons (eC .non) aNil))))))) (eOp2 (binD .Mult) (eLst (aCons (eTup (aCons (eC (.str "log")) (aCons (eVar 4) (aCons (eC (.str "deed")) aNil)))) aNil)) (eC (.int 3))))) sNil) sNil) (sSeq (sAsg (eTup (aCons (eVar 3) (aCons (eVar 4) (aCons (eCall (F_l_pulls C) 3 (aCons (eVar 0) (aCons (eOp2 ixD (eVar 3) (eC (.int 0))) (aCons (eOp2 (binD .Mod) (eCB (one intD) (aCons (eOp2 ixD (eVar 3) (eC (.int 1))) aNil)) (eCB (one lenD) (aCons (eVar 0) aNil))) aNil)))) aNil)))) (.one 2)) (sSeq (sRet (eCall (F_l_same_as C) 2 (aCons (eCB (one tupleD) (aCons (eLc (iVal (eTup (aCons (eC (.int 7)) (aCons (eC (.int 8)) (aCons (eC (.int 9)) aNil))))) (.one 5) [5] tYes' (eCall (F_l_told C) 5 (aCons (eVar 5) (aCons (eVar 0) (aCons (eVar 1) (aCons (eC .non) (aCons (eC .non) aNil))))))) aNil)) (aCons (eVar 2) aNil)))) sNil))))
theorem sem_l_deeds_fit (C : CA) : F_l_deeds_fit C = fnB (B_l_deeds_fit C) 6 := by kernel_rfl
/-! _law_unlike -/
abbrev st_l_unlike : PySem.Stmt := topS 43
noncomputable def G_l_unlike (C : CA) : List (Str × GV) := [("range", .it), ("len", .bi biLen), ("int", .bi biInt)]
noncomputable def E_l_unlike (C : CA) : SE := { N := ["wheel", "place", "other", "spot", "unlike", "k"], sc := defScope st_l_unlike, fn := fun _ => true, G := fun x => List.lookup x (G_l_unlike C) }
noncomputable def F_l_unlike (C : CA) : Fn := fnD stdM (orc C) st_l_unlike (E_l_unlike C)
noncomputable def B_l_unlike (C : CA) : PSt := (sSeq (sAsg (eLc (iOn rng1D (aCons (eOp2 (binD .Mult) (eCB (one lenD) (aCons (eVar 0) aNil)) (eCB (one lenD) (aCons (eVar 2) aNil))) aNil)) (.one 5) [5] (tVal (eOp2 (cmpD .NotEq) (eOp2 ixD (eVar 0) (eOp2 (binD .Mod) (eCB (one intD) (aCons (eOp2 (binD .Add) (eVar 1) (eVar 5)) aNil)) (eCB (one lenD) (aCons (eVar 0) aNil)))) (eOp2 ixD (eVar 2) (eOp2 (binD .Mod) (eCB (one intD) (aCons (eOp2 (binD .Add) (eVar 3) (eVar 5)) aNil)) (eCB (one lenD) (aCons (eVar 2) aNil)))))) (eVar 5)) (.one 4)) (sSeq (sRet (eIf (tTru (eVar 4)) (eOp2 ixD (eVar 4) (eC (.int 0))) (eC .non))) sNil))
theorem sem_l_unlike (C : CA) : F_l_unlike C = fnB (B_l_unlike C) 6 := by kernel_rfl
/-! _law_wheel -/
abbrev st_l_wheel : PySem.Stmt := topS 36
noncomputable def G_l_wheel (C : CA) : List (Str × GV) := [("_law_take", .fn (F_l_take C) 3), ("len", .bi biLen), ("max", .bi biMax), ("tuple", .bi biTuple), ("range", .it), ("_law_one", .fn (F_l_one C) 3), ("MAX_STROKES", .val (.int 24)), ("MAX_TURN", .val (.int 60))]
noncomputable def E_l_wheel (C : CA) : SE := { N := ["draws", "at", "size", "far", "row", "part", "k"], sc := defScope st_l_wheel, fn := fun _ => true, G := fun x => List.lookup x (G_l_wheel C) }
noncomputable def F_l_wheel (C : CA) : Fn := fnD stdM (orc C) st_l_wheel (E_l_wheel C)
noncomputable def B_l_wheel (C : CA) : PSt := (sSeq (sAsg (eOp2 (binD .Add) (eC (.int 1)) (eCall (F_l_take C) 3 (aCons (eVar 0) (aCons (eVar 1) (aCons (eCall (F_l_one C) 3 (aCons (eLst (aCons (eC (.int 1)) (aCons (eC (.int 4)) (aCons (eC (.int 12)) (aCons (eC (.int 60)) aNil))))) (aCons (eVar 0) (aCons (eVar 1) aNil)))) aNil))))) (.one 2)) (sSeq (sAsg (eCall (F_l_one C) 3 (aCons (eLst (aCons (eC (.int 1)) (aCons (eC (.int 3)) (aCons (eC (.int 24)) aNil)))) (aCons (eVar 0) (aCons (eVar 1) aNil)))) (.one 3)) (sSeq (sAsg (eCB (one tupleD) (aCons (eLc (iOn rng1D (aCons (eVar 2) aNil)) (.one 6) [6] tYes' (eOp2 (binD .Add) (eC (.int 1)) (eCall (F_l_take C) 3 (aCons (eVar 0) (aCons (eVar 1) (aCons (eVar 3) aNil)))))) aNil)) (.one 4)) (sSeq (sIf (tVal (eOp2 (cmpD .Eq) (eCall (F_l_take C) 3 (aCons (eVar 0) (aCons (eVar 1) (aCons (eC (.int 2)) aNil)))) (eC (.int 0)))) (sSeq (sAsg (eSl (eVar 4) oNone (oSome (eOp2 (binD .Add) (eC (.int 1)) (eOp2 (binD .FloorDiv) (eVar 2) (eC (.int 3)))))) (.one 5)) (sSeq (sAsg (eSl (eOp2 (binD .Mult) (eVar 5) (eVar 2)) oNone (oSome (eOp2 (binD .Mult) (eCB (one lenD) (aCons (eVar 5) aNil)) (eCB maxD (aCons (eC (.int 1)) (aCons (eOp2 (binD .FloorDiv) (eVar 2) (eCB (one lenD) (aCons (eVar 5) aNil))) aNil)))))) (.one 4)) sNil)) sNil) (sSeq (sRet (eVar 4)) sNil)))))
theorem sem_l_wheel (C : CA) : F_l_wheel C = fnB (B_l_wheel C) 7 := by kernel_rfl
/-! _law_strokes -/
abbrev st_l_strokes : PySem.Stmt := topS 40
noncomputable def G_l_strokes (C : CA) : List (Str × GV) := [("len", .bi biLen), ("sum", .bi biSum), ("int", .bi biInt), ("_law_turned", .fn (F_l_turned C) 2)]
noncomputable def E_l_strokes (C : CA) : SE := { N := ["wheel", "place", "hours", "row"], sc := defScope st_l_strokes, fn := fun _ => true, G := fun x => List.lookup x (G_l_strokes C) }
noncomputable def F_l_strokes (C : CA) : Fn := fnD stdM (orc C) st_l_strokes (E_l_strokes C)
noncomputable def B_l_strokes (C : CA) : PSt := (sSeq (sAsg (eCall (F_l_turned C) 2 (aCons (eVar 0) (aCons (eVar 1) aNil))) (.one 3)) (sSeq (sRet (eOp2 (binD .Add) (eOp2 (binD .Mult) (eOp2 (binD .FloorDiv) (eVar 2) (eCB (one lenD) (aCons (eVar 3) aNil))) (eCB (one sumD) (aCons (eVar 3) aNil))) (eCB (one sumD) (aCons (eSl (eVar 3) oNone (oSome (eOp2 (binD .Mod) (eCB (one intD) (aCons (eVar 2) aNil)) (eCB (one lenD) (aCons (eVar 3) aNil))))) aNil)))) sNil))
theorem sem_l_strokes (C : CA) : F_l_strokes C = fnB (B_l_strokes C) 4 := by kernel_rfl
/-! _law_hours -/
abbrev st_l_hours : PySem.Stmt := topS 41
noncomputable def G_l_hours (C : CA) : List (Str × GV) := [("_law_strokes", .fn (F_l_strokes C) 3), ("sum", .bi biSum), ("len", .bi biLen), ("_law_turned", .fn (F_l_turned C) 2)]
noncomputable def E_l_hours (C : CA) : SE := { N := ["wheel", "place", "count", "row", "hours"], sc := defScope st_l_hours, fn := fun _ => true, G := fun x => List.lookup x (G_l_hours C) }
noncomputable def F_l_hours (C : CA) : Fn := fnD stdM (orc C) st_l_hours (E_l_hours C)
noncomputable def B_l_hours (C : CA) : PSt := (sSeq (sAsg (eCall (F_l_turned C) 2 (aCons (eVar 0) (aCons (eVar 1) aNil))) (.one 3)) (sSeq (sAsg (eOp2 (binD .Mult) (eOp2 (binD .FloorDiv) (eVar 2) (eCB (one sumD) (aCons (eVar 3) aNil))) (eCB (one lenD) (aCons (eVar 3) aNil))) (.one 4)) (sSeq (sWhile (tVal (eOp2 (cmpD .Lt) (eCall (F_l_strokes C) 3 (aCons (eVar 0) (aCons (eVar 1) (aCons (eVar 4) aNil)))) (eVar 2))) (sSeq (sAsg (eOp2 (binD .Add) (eVar 4) (eC (.int 1))) (.one 4)) sNil)) (sSeq (sRet (eVar 4)) sNil))))
theorem sem_l_hours (C : CA) : F_l_hours C = fnB (B_l_hours C) 5 := by kernel_rfl
/-! _law_period -/
abbrev st_l_period : PySem.Stmt := topS 38
noncomputable def G_l_period (C : CA) : List (Str × GV) := [("range", .it), ("len", .bi biLen)]
noncomputable def E_l_period (C : CA) : SE := { N := ["wheel", "k"], sc := defScope st_l_period, fn := fun _ => true, G := fun x => List.lookup x (G_l_period C) }
noncomputable def F_l_period (C : CA) : Fn := fnD stdM (orc C) st_l_period (E_l_period C)
noncomputable def B_l_period (C : CA) : PSt := (sSeq (sRet (eOp2 ixD (eLc (iOn rng2D (aCons (eC (.int 1)) (aCons (eOp2 (binD .Add) (eCB (one lenD) (aCons (eVar 0) aNil)) (eC (.int 1))) aNil))) (.one 1) [1] (tVal (eOp2 (cmpD .Eq) (eOp2 (binD .Add) (eSl (eVar 0) (oSome (eVar 1)) oNone) (eSl (eVar 0) oNone (oSome (eVar 1)))) (eVar 0))) (eVar 1)) (eC (.int 0)))) sNil)
theorem sem_l_period (C : CA) : F_l_period C = fnB (B_l_period C) 2 := by kernel_rfl
/-! _law_sums -/
abbrev st_l_sums : PySem.Stmt := topS 37
noncomputable def G_l_sums (C : CA) : List (Str × GV) := [("tuple", .bi biTuple), ("range", .it), ("len", .bi biLen), ("sum", .bi biSum)]
noncomputable def E_l_sums (C : CA) : SE := { N := ["wheel", "k"], sc := defScope st_l_sums, fn := fun _ => true, G := fun x => List.lookup x (G_l_sums C) }
noncomputable def F_l_sums (C : CA) : Fn := fnD stdM (orc C) st_l_sums (E_l_sums C)
noncomputable def B_l_sums (C : CA) : PSt := (sSeq (sRet (eCB (one tupleD) (aCons (eLc (iOn rng1D (aCons (eCB (one lenD) (aCons (eVar 0) aNil)) aNil)) (.one 1) [1] tYes' (eCB (one sumD) (aCons (eSl (eVar 0) oNone (oSome (eOp2 (binD .Add) (eVar 1) (eC (.int 1))))) aNil))) aNil))) sNil)
theorem sem_l_sums (C : CA) : F_l_sums C = fnB (B_l_sums C) 2 := by kernel_rfl
/-! _law_draws -/
abbrev st_l_draws : PySem.Stmt := topS 31
noncomputable def G_l_draws (C : CA) : List (Str × GV) := [("range", .it), ("int", .bi biInt), ("abs", .bi biAbs)]
noncomputable def E_l_draws (C : CA) : SE := { N := ["script", "draws", "cell", "rest", "k", "mixed"], sc := defScope st_l_draws, fn := fun _ => true, G := fun x => List.lookup x (G_l_draws C) }
noncomputable def F_l_draws (C : CA) : Fn := fnD stdM (orc C) st_l_draws (E_l_draws C)
noncomputable def B_l_draws (C : CA) : PSt := (sSeq (sAsg (eLst aNil) (.one 1)) (sSeq (sFor (iVal (eSl (eVar 0) oNone (oSome (eC (.int 63))))) (.one 2) (sSeq (sAsg (eCB (one absD) (aCons (eVar 2) aNil)) (.one 3)) (sSeq (sIf (tVal (eOp2 (cmpD .GtE) (eVar 3) (eOp2 (binD .Pow) (eC (.int 10)) (eC (.int 18))))) (sSeq (sFor (iOn rng1D (aCons (eC (.int 60)) aNil)) (.one 4) (sSeq (sIf (tVal (eOp2 (cmpD .Gt) (eVar 3) (eC (.int 0)))) (sSeq (sDrop (eMt miApp (eVar 1) (aCons (eOp2 (binD .Mod) (eCB (one intD) (aCons (eVar 3) aNil)) (eC (.int 1009))) aNil))) (sSeq (sAsg (eOp2 (binD .FloorDiv) (eVar 3) (eC (.int 1009))) (.one 3)) sNil)) sNil) sNil)) sNil) (sSeq (sAsg (eOp2 (binD .Mod) (eCB (one intD) (aCons (eOp2 (binD .Add) (eOp2 (binD .Mult) (eVar 3) (eC (.int 48271))) (eC (.int 11))) aNil)) (eC (.int 2147483647))) (.one 5)) (sSeq (sFor (iOn rng1D (aCons (eC (.int 12)) aNil)) (.one 4) (sSeq (sAsg (eOp2 (binD .Mod) (eCB (one intD) (aCons (eOp2 (binD .Add) (eOp2 (binD .Add) (eOp2 (binD .Mult) (eVar 5) (eC (.int 16807))) (eOp2 (binD .Mult) (eC (.int 69621)) (eVar 4))) (eC (.int 5))) aNil)) (eC (.int 2147483629))) (.one 5)) (sSeq (sDrop (eMt miApp (eVar 1) (aCons (eOp2 (binD .FloorDiv) (eVar 5) (eC (.int 1009))) aNil))) sNil))) sNil))) sNil))) (sSeq (sRet (eVar 1)) sNil)))
theorem sem_l_draws (C : CA) : F_l_draws C = fnB (B_l_draws C) 6 := by kernel_rfl
/-! law -/
abbrev st_law : PySem.Stmt := topS 47
noncomputable def G_law (C : CA) : List (Str × GV) := [("_law_told", .fn (F_l_told C) 5), ("_law_one", .fn (F_l_one C) 3), ("MAX_HOURS", .val (.int 400)), ("tuple", .bi biTuple), ("range", .it), ("MAX_TURN", .val (.int 60)), ("MAX_STROKES", .val (.int 24)), ("len", .bi biLen), ("_law_deeds_fit", .fn (F_l_deeds_fit C) 2), ("_law_take", .fn (F_l_take C) 3), ("_law_same_as", .fn (F_l_same_as C) 2), ("_law_unlike", .fn (F_l_unlike C) 4), ("int", .bi biInt), ("_law_wheel", .fn (F_l_wheel C) 2), ("_law_turned", .fn (F_l_turned C) 2), ("_law_pulls", .fn (F_l_pulls C) 3), ("_law_hours", .fn (F_l_hours C) 3), ("_law_strokes", .fn (F_l_strokes C) 3), ("sum", .bi biSum), ("_law_period", .fn (F_l_period C) 1), ("_law_sums", .fn (F_l_sums C) 1), ("_law_draws", .fn (F_l_draws C) 1)]
noncomputable def E_law (C : CA) : SE := { N := ["script", "draws", "at", "wheel", "sums", "turn", "bad", "odd", "late", "rows", "part_1", "ill", "no", "number", "row", "other", "spot", "deeds", "k", "wrong", "place", "due", "which", "reason"], sc := defScope st_law, fn := fun _ => true, G := fun x => List.lookup x (G_law C) }
noncomputable def F_law (C : CA) : Fn := fnD stdM (orc C) st_law (E_law C)
noncomputable def B_law (C : CA) : PSt := (sSeq (sAsg (eCall (F_l_draws C) 1 (aCons (eVar 0) aNil)) (.one 1)) (sSeq (sAsg (eLst (aCons (eC (.int 0)) aNil)) (.one 2)) (sSeq (sAsg (eCall (F_l_wheel C) 2 (aCons (eVar 1) (aCons (eVar 2) aNil))) (.one 3)) (sSeq (sAsg (eCall (F_l_sums C) 1 (aCons (eVar 3) aNil)) (.one 4)) (sSeq (sIf (tNot' (tTru (eCall (F_l_same_as C) 2 (aCons (eTup (aCons (eCall (F_l_told C) 5 (aCons (eC (.int 0)) (aCons (eVar 3) (aCons (eC .non) (aCons (eC .non) (aCons (eC .non) aNil)))))) (aCons (eCall (F_l_told C) 5 (aCons (eC (.int 1)) (aCons (eVar 3) (aCons (eC .non) (aCons (eC .non) (aCons (eC .non) aNil)))))) (aCons (eCall (F_l_told C) 5 (aCons (eC (.int 6)) (aCons (eVar 4) (aCons (eC .non) (aCons (eC .non) (aCons (eC .non) aNil)))))) aNil)))) (aCons (eTup (aCons (eVar 4) (aCons (eCall (F_l_period C) 1 (aCons (eVar 3) aNil)) (aCons (eVar 3) aNil)))) aNil))))) (sSeq (sRet (eC (.bl false))) sNil) sNil) (sSeq (sFor (iOn rng1D (aCons (eC (.int 3)) aNil)) (.one 5) (sSeq (sPar 20 21 (eCall (F_l_take C) 3 (aCons (eVar 1) (aCons (eVar 2) (aCons (eCB (one lenD) (aCons (eVar 3) aNil)) aNil)))) (eCall (F_l_take C) 3 (aCons (eVar 1) (aCons (eVar 2) (aCons (eCB (one lenD) (aCons (eVar 3) aNil)) aNil))))) (sSeq (sAsg (eCall (F_l_one C) 3 (aCons (eLst (aCons (eC (.int 0)) (aCons (eC (.int 1)) (aCons (eC (.int 2)) (aCons (eCB (one lenD) (aCons (eVar 3) aNil)) (aCons (eCB (one sumD) (aCons (eVar 3) aNil)) (aCons (eCall (F_l_take C) 3 (aCons (eVar 1) (aCons (eVar 2) (aCons (eC (.int 500)) aNil)))) (aCons (eC (.int 1000000000)) aNil)))))))) (aCons (eVar 1) (aCons (eVar 2) aNil)))) (.one 13)) (sSeq (sAsg (eTup (aCons (eCall (F_l_strokes C) 3 (aCons (eVar 3) (aCons (eVar 20) (aCons (eVar 13) aNil)))) (aCons (eCall (F_l_hours C) 3 (aCons (eVar 3) (aCons (eVar 20) (aCons (eVar 13) aNil)))) (aCons (eCall (F_l_pulls C) 3 (aCons (eVar 3) (aCons (eVar 20) (aCons (eVar 21) aNil)))) aNil)))) (.one 14)) (sSeq (sIf (tNot' (tTru (eCall (F_l_same_as C) 2 (aCons (eTup (aCons (eCall (F_l_told C) 5 (aCons (eC (.int 2)) (aCons (eVar 3) (aCons (eVar 20) (aCons (eVar 13) (aCons (eC .non) aNil)))))) (aCons (eCall (F_l_told C) 5 (aCons (eC (.int 3)) (aCons (eVar 3) (aCons (eVar 20) (aCons (eVar 13) (aCons (eC .non) aNil)))))) (aCons (eCall (F_l_told C) 5 (aCons (eC (.int 4)) (aCons (eVar 3) (aCons (eVar 20) (aCons (eVar 21) (aCons (eC .non) aNil)))))) aNil)))) (aCons (eVar 14) aNil))))) (sSeq (sRet (eC (.bl false))) sNil) sNil) (sSeq (sAsg (eCall (F_l_one C) 3 (aCons (eLst (aCons (eVar 3) (aCons (eCall (F_l_turned C) 2 (aCons (eVar 3) (aCons (eVar 21) aNil))) (aCons (eIf (tVal (eOp2 (cmpD .LtE) (eOp2 (binD .Mult) (eC (.int 2)) (eCB (one lenD) (aCons (eVar 3) aNil))) (eC (.int 60)))) (eOp2 (binD .Mult) (eVar 3) (eC (.int 2))) (eVar 3)) (aCons (eCall (F_l_wheel C) 2 (aCons (eVar 1) (aCons (eVar 2) aNil))) (aCons (eOp2 (binD .Add) (eSl (eVar 3) oNone (oSome (eOp1 negD (eC (.int 1))))) (eTup (aCons (eOp2 (binD .Add) (eOp2 (binD .Mod) (eCB (one intD) (aCons (eOp2 ixD (eVar 3) (eOp1 negD (eC (.int 1)))) aNil)) (eC (.int 24))) (eC (.int 1))) aNil))) aNil)))))) (aCons (eVar 1) (aCons (eVar 2) aNil)))) (.one 15)) (sSeq (sAsg (eCall (F_l_take C) 3 (aCons (eVar 1) (aCons (eVar 2) (aCons (eCB (one lenD) (aCons (eVar 15) aNil)) aNil)))) (.one 16)) (sSeq (sIf (tNot' (tTru (eCall (F_l_same_as C) 2 (aCons (eCall (F_l_told C) 5 (aCons (eC (.int 5)) (aCons (eVar 3) (aCons (eVar 20) (aCons (eVar 15) (aCons (eVar 16) aNil)))))) (aCons (eCall (F_l_unlike C) 4 (aCons (eVar 3) (aCons (eVar 20) (aCons (eVar 15) (aCons (eVar 16) aNil))))) aNil))))) (sSeq (sRet (eC (.bl false))) sNil) sNil) (sSeq (sAsg (eCB (one tupleD) (aCons (eLc (iOn rng1D (aCons (eCall (F_l_take C) 3 (aCons (eVar 1) (aCons (eVar 2) (aCons (eCall (F_l_one C) 3 (aCons (eLst (aCons (eC (.int 6)) (aCons (eC (.int 40)) (aCons (eOp2 (binD .Add) (eC (.int 400)) (eC (.int 1))) aNil)))) (aCons (eVar 1) (aCons (eVar 2) aNil)))) aNil)))) aNil)) (.one 18) [18] tYes' (eCall (F_l_one C) 3 (aCons (eLst (aCons (eC (.str "hour")) (aCons (eC (.str "hour")) (aCons (eC (.str "hour")) (aCons (eC (.str "stuck")) (aCons (eC (.str "pull")) aNil)))))) (aCons (eVar 1) (aCons (eVar 2) aNil))))) aNil)) (.one 17)) (sSeq (sAsg (eCall (F_l_take C) 3 (aCons (eVar 1) (aCons (eVar 2) (aCons (eOp2 (binD .Add) (eCB (one lenD) (aCons (eVar 17) aNil)) (eC (.int 1))) aNil)))) (.one 18)) (sSeq (sAsg (eOp2 (binD .Add) (eOp2 (binD .Add) (eSl (eVar 17) oNone (oSome (eVar 18))) (eTup (aCons (eCall (F_l_one C) 3 (aCons (eLst (aCons (eC (.str "Hour")) (aCons (eC (.str "")) (aCons (eC .non) (aCons (eC (.int 5)) (aCons (eTup (aCons (eC (.str "hour")) aNil)) (aCons (eC (.bl true)) aNil))))))) (aCons (eVar 1) (aCons (eVar 2) aNil)))) aNil))) (eSl (eVar 17) (oSome (eOp2 (binD .Add) (eVar 18) (eC (.int 1)))) oNone)) (.one 19)) (sSeq (sIf (tOr' (tNot' (tTru (eCall (F_l_deeds_fit C) 2 (aCons (eVar 3) (aCons (eVar 17) aNil))))) (tAnd' (tVal (eOp2 (cmpD .LtE) (eCB (one lenD) (aCons (eVar 19) aNil)) (eC (.int 400)))) (tNot' (tTru (eCall (F_l_deeds_fit C) 2 (aCons (eVar 3) (aCons (eVar 19) aNil))))))) (sSeq (sRet (eC (.bl false))) sNil) sNil) sNil)))))))))))) (sSeq (sAsg (eCall (F_l_one C) 3 (aCons (eLst (aCons (eC .non) (aCons (eC (.int 5)) (aCons (eTup aNil) (aCons (eTup (aCons (eC (.int 0)) aNil)) (aCons (eTup (aCons (eOp2 (binD .Add) (eC (.int 24)) (eC (.int 1))) aNil)) (aCons (eTup (aCons (eC (.bl true)) aNil)) (aCons (eOp2 (binD .Mult) (eTup (aCons (eC (.int 1)) aNil)) (eOp2 (binD .Add) (eC (.int 60)) (eC (.int 1)))) (aCons (eTup (aCons (eC .non) aNil)) aNil))))))))) (aCons (eVar 1) (aCons (eVar 2) aNil)))) (.one 6)) (sSeq (sAsg (eCall (F_l_one C) 3 (aCons (eLst (aCons (eC .non) (aCons (eOp1 negD (eC (.int 1))) (aCons (eC (.bl true)) (aCons (eC (.str "0")) (aCons (eCB (one lenD) (aCons (eVar 3) aNil)) aNil)))))) (aCons (eVar 1) (aCons (eVar 2) aNil)))) (.one 7)) (sSeq (sAsg (eCall (F_l_one C) 3 (aCons (eLst (aCons (eC .non) (aCons (eOp1 negD (eC (.int 1))) (aCons (eC (.bl true)) (aCons (eC (.int 1000000001)) aNil))))) (aCons (eVar 1) (aCons (eVar 2) aNil)))) (.one 8)) (sSeq (sIf (tTru (eLc (iVal (eTup (aCons (eC (.int 0)) (aCons (eC (.int 1)) (aCons (eC (.int 2)) (aCons (eC (.int 3)) (aCons (eC (.int 4)) (aCons (eC (.int 5)) (aCons (eC (.int 7)) (aCons (eC (.int 8)) (aCons (eC (.int 9)) aNil))))))))))) (.one 22) [22] (tVal (eOp2 (cmpD .NotEq) (eCall (F_l_told C) 5 (aCons (eVar 22) (aCons (eVar 6) (aCons (eVar 7) (aCons (eVar 8) (aCons (eVar 8) aNil)))))) (eTup (aCons (eC (.str "argument")) (aCons (eC (.str "wheel")) aNil))))) (eVar 22))) (sSeq (sRet (eC (.bl false))) sNil) sNil) (sSeq (sAsg (eLst (aCons (eCall (F_l_told C) 5 (aCons (eC (.int 2)) (aCons (eVar 3) (aCons (eVar 7) (aCons (eVar 8) (aCons (eC .non) aNil)))))) (aCons (eCall (F_l_told C) 5 (aCons (eC (.int 3)) (aCons (eVar 3) (aCons (eVar 7) (aCons (eVar 8) (aCons (eC .non) aNil)))))) (aCons (eCall (F_l_told C) 5 (aCons (eC (.int 4)) (aCons (eVar 3) (aCons (eVar 7) (aCons (eVar 7) (aCons (eC .non) aNil)))))) (aCons (eCall (F_l_told C) 5 (aCons (eC (.int 5)) (aCons (eVar 3) (aCons (eVar 7) (aCons (eVar 6) (aCons (eVar 7) aNil)))))) aNil))))) (.one 9)) (sSeq (sIf (tVal (eOp2 (cmpD .NotEq) (eVar 9) (eOp2 (binD .Mult) (eLst (aCons (eTup (aCons (eC (.str "argument")) (aCons (eC (.str "place")) aNil))) aNil)) (eC (.int 4))))) (sSeq (sRet (eC (.bl false))) sNil) sNil) (sSeq (sAsg (eLst (aCons (eCall (F_l_told C) 5 (aCons (eC (.int 2)) (aCons (eVar 3) (aCons (eVar 20) (aCons (eVar 8) (aCons (eC .non) aNil)))))) (aCons (eCall (F_l_told C) 5 (aCons (eC (.int 3)) (aCons (eVar 3) (aCons (eVar 20) (aCons (eVar 8) (aCons (eC .non) aNil)))))) aNil))) (.one 10)) (sSeq (sAsg (eOp2 (binD .Add) (eVar 10) (eLst (aCons (eCall (F_l_told C) 5 (aCons (eC (.int 4)) (aCons (eVar 3) (aCons (eVar 20) (aCons (eVar 7) (aCons (eC .non) aNil)))))) (aCons (eCall (F_l_told C) 5 (aCons (eC (.int 5)) (aCons (eVar 3) (aCons (eVar 20) (aCons (eVar 6) (aCons (eVar 7) aNil)))))) (aCons (eCall (F_l_told C) 5 (aCons (eC (.int 5)) (aCons (eVar 3) (aCons (eVar 20) (aCons (eVar 3) (aCons (eVar 7) aNil)))))) aNil))))) (.one 9)) (sSeq (sIf (tVal (eOp2 (cmpD .NotEq) (eVar 9) (eLc (iVal (eLst (aCons (eC (.str "hours")) (aCons (eC (.str "count")) (aCons (eC (.str "due")) (aCons (eC (.str "other")) (aCons (eC (.str "spot")) aNil))))))) (.one 23) [23] tYes' (eTup (aCons (eC (.str "argument")) (aCons (eVar 23) aNil)))))) (sSeq (sRet (eC (.bl false))) sNil) sNil) (sSeq (sAsg (eCall (F_l_one C) 3 (aCons (eLst (aCons (eC .non) (aCons (eC (.int 5)) (aCons (eTup aNil) (aCons (eTup (aCons (eC (.int 0)) aNil)) (aCons (eTup (aCons (eC (.int 1)) (aCons (eC (.int 1)) aNil))) (aCons (eTup (aCons (eC (.int 2)) (aCons (eC (.int 1)) aNil))) (aCons (eTup (aCons (eOp2 (binD .Add) (eC (.int 24)) (eC (.int 1))) aNil)) (aCons (eTup (aCons (eC (.bl true)) aNil)) (aCons (eTup (aCons (eC (.int 1)) (aCons (eC .non) aNil))) (aCons (eOp2 tupRg2D (eC (.int 1)) (eOp2 (binD .Add) (eC (.int 60)) (eC (.int 2)))) aNil))))))))))) (aCons (eVar 1) (aCons (eVar 2) aNil)))) (.one 11)) (sSeq (sAsg (eCall (F_l_one C) 3 (aCons (eLst (aCons (eC .non) (aCons (eC (.int 5)) (aCons (eC (.str "hour")) (aCons (eOp2 (binD .Mult) (eTup (aCons (eC (.str "hour")) aNil)) (eOp2 (binD .Add) (eC (.int 400)) (eC (.int 1)))) aNil))))) (aCons (eVar 1) (aCons (eVar 2) aNil)))) (.one 12)) (sSeq (sIf (tTru (eLc (iVal (eTup (aCons (eC (.int 7)) (aCons (eC (.int 8)) (aCons (eC (.int 9)) aNil))))) (.one 22) [22] (tVal (eOp2 (cmpD .NotEq) (eCall (F_l_told C) 5 (aCons (eVar 22) (aCons (eVar 3) (aCons (eVar 12) (aCons (eC .non) (aCons (eC .non) aNil)))))) (eTup (aCons (eC (.str "argument")) (aCons (eC (.str "deeds")) aNil))))) (eVar 22))) (sSeq (sRet (eC (.bl false))) sNil) sNil) (sSeq (sRet (eOp2 (cmpD .Eq) (eCall (F_l_told C) 5 (aCons (eC (.int 6)) (aCons (eVar 11) (aCons (eC .non) (aCons (eC .non) (aCons (eC .non) aNil)))))) (eTup (aCons (eC (.str "argument")) (aCons (eC (.str "notches")) aNil))))) sNil)))))))))))))))))))
theorem sem_law (C : CA) : F_law C = fnB (B_law C) 24 := by kernel_rfl
end K56
set_option Elab.async false
set_option linter.all false
set_option maxRecDepth 100000
set_option maxHeartbeats 4000000
set_option exponentiation.threshold 10000
namespace K56
open PySem L2 DL
section
variable {C : CA} {S : SS} {P : D → SS → Prop}
/-- a value that isinstance can tell -/
def plain : D → Bool
  | .non | .bl _ | .int _ | .str _ | .tup _ => true
  | _ => false
def isI : D → Bool
  | .int _ => true
  | _ => false
theorem is_integer_sat {d : D} (hp : plain d = true) (k : P (.bl (isI d)) S) : Sat (F_is_integer C [d] S) P := by
  rw [sem_is_integer]
  refine sat_fn ?_
  unfold B_is_integer
  cases d <;> first | (simp [startD]; exact k) | (cases hp)

def isR (d : D) (lo hi : Int) : Bool := match d with
  | .int i => decide (lo ≤ i) && decide (i ≤ hi)
  | _ => false
theorem in_range_sat {d : D} {lo hi : Int} (hp : plain d = true) (k : P (.bl (isR d lo hi)) S) : Sat (F_in_range C [d, .int lo, .int hi] S) P := by
  rw [sem_in_range]
  refine sat_fn ?_
  unfold B_in_range
  simp [startD, e_call]
  refine is_integer_sat hp ?_
  cases d with
  | int i =>
    simp [isI]
    by_cases h : lo ≤ i
    · simp only [h, if_true, so_le]
      simpa [isR, h] using k
    · simp only [h, if_false]
      simpa [isR, h] using k
  | _ => first | (simp [isI]; exact k) | (cases hp)

/-- an equation out of a rule -/
theorem eq_of_sat {r : R D} {x : D} {S' : SS} (h : ∀ P : D → SS → Prop, P x S' → Sat r P) : r = .ok x S' := by
  obtain ⟨y, S2, e, h1, h2⟩ := sat_ex (h (fun y S2 => y = x ∧ S2 = S') ⟨rfl, rfl⟩)
  rw [e, h1, h2]

/-! the draws -/
theorem l_take_sat {kd ka n : Nat} {many : Int} (h : DA S kd ka n) (hn : n ≤ 1000000000000) (h0 : 0 < many) (k : ∀ (r : Int) (S' : SS), 0 ≤ r → r < many → Up ka S S' → S'.length = S.length → DA S' kd ka (n + 1) → P (.int r) S') : Sat (F_l_take C [.ref kd, .ref ka, .int many] S) P := by
  rw [sem_l_take]
  refine take_sat (m := F_l_more C) (fun S ds p P h1 h2 h3 h4 h5 => ?_) h hn h0 k
  rw [sem_l_more]
  exact more_sat h1 h2 h3 h4 h5
theorem l_one_sat {kd ka kr n : Nat} {ds : List D} (h : DA S kd ka n) (hn : n ≤ 1000000000000) (hr : S[kr]? = some (.lst ds)) (hk : kr ≠ ka) (hd : ds ≠ []) (k : ∀ (d : D) (S' : SS), d ∈ ds → Up ka S S' → S'.length = S.length → DA S' kd ka (n + 1) → P d S') : Sat (F_l_one C [.ref kr, .ref kd, .ref ka] S) P := by
  rw [sem_l_one]
  exact one_sat (t := F_l_take C) (fun S many n P h1 h2 h3 h4 => l_take_sat h1 h2 h3 h4) h hn hr hk hd k
/-- one of a list that is made for it -/
theorem one_new {kd ka n : Nat} {ds : List D} (h : DA S kd ka n) (hn : n ≤ 1000000000000) (hd : ds ≠ []) (k : ∀ (d : D) (S' : SS), d ∈ ds → Up ka S S' → DA S' kd ka (n + 1) → P d S') : Sat (F_l_one C [.ref S.length, .ref kd, .ref ka] (S ++ [.lst ds])) P := by
  obtain ⟨ne, dds, p, h1, h2, _⟩ := id h
  refine l_one_sat h.app hn get_last ?_ hd fun d S' hm up hl da => k d S' hm (Up.app.trans up) da
  have := get_len h2
  omega
theorem l_draws_sat {ns : List Int} (k : ∀ (ds : List Int) (l : List D), (∀ x ∈ ds, 0 ≤ x ∧ x < 2147483647) → ds.length ≤ 4000 → P (.ref 0) [.lst (ds.map .int), .lst l]) : Sat (F_l_draws C [.rls (ns.map .int)] []) P := by
  rw [sem_l_draws]
  exact draws_sat k

end
end K56
set_option Elab.async false
set_option linter.all false
set_option maxHeartbeats 1000000
namespace K56
/-! count wheels: the mathematics -/
def rot (ws : List Int) (k : Nat) : List Int := ws.drop k ++ ws.take k
def fw (ws : List Int) (i : Nat) : Int := ws.getD (i % ws.length) 0
theorem rot_len {ws : List Int} {k : Nat} : (rot ws k).length = ws.length := by
  unfold rot
  rw [List.length_append, List.length_drop, List.length_take]
  omega
theorem rot_get {ws : List Int} {k i : Nat} (hk : k ≤ ws.length) (hi : i < ws.length) : (rot ws k)[i]? = some (fw ws (k + i)) := by
  unfold rot fw
  by_cases h : i < ws.length - k
  · rw [List.getElem?_append_left (by rw [List.length_drop]; exact h), List.getElem?_drop, Nat.mod_eq_of_lt (by omega), List.getElem?_eq_getElem (by omega), List.getD_eq_getElem?_getD, List.getElem?_eq_getElem (by omega)]
    rfl
  · rw [List.getElem?_append_right (by rw [List.length_drop]; omega), List.length_drop, List.getElem?_take_of_lt (by omega)]
    have e : (k + i) % ws.length = i - (ws.length - k) := by
      have : k + i = (i - (ws.length - k)) + ws.length := by omega
      rw [this, Nat.add_mod_right, Nat.mod_eq_of_lt (by omega)]
    rw [e, List.getElem?_eq_getElem (by omega), List.getD_eq_getElem?_getD, List.getElem?_eq_getElem (by omega)]
    rfl
theorem rot_zero {ws : List Int} : rot ws 0 = ws := by simp [rot]
theorem rot_all {ws : List Int} : rot ws ws.length = ws := by simp [rot]
theorem fw_len {ws : List Int} {i : Nat} : fw ws (i + ws.length) = fw ws i := by
  unfold fw
  rw [Nat.add_mod_right]
theorem fw_mul {ws : List Int} {i q : Nat} : fw ws (i + ws.length * q) = fw ws i := by
  unfold fw
  rw [Nat.add_mul_mod_self_left]
theorem fw_mod {ws : List Int} {i j : Nat} : fw ws (i % ws.length + j) = fw ws (i + j) := by
  unfold fw
  rw [Nat.mod_add_mod]
/-- steps behind which the wheel goes on alike -/
def Tp (ws : List Int) (t : Nat) : Prop := ∀ i, fw ws (i + t) = fw ws i
theorem tp_len {ws : List Int} : Tp ws ws.length := fun i => fw_len
theorem rot_eq {ws : List Int} {a b : Nat} (ha : a ≤ ws.length) (hb : b ≤ ws.length) : rot ws a = rot ws b ↔ ∀ i, fw ws (a + i) = fw ws (b + i) := by
  constructor
  · intro h i
    by_cases h0 : ws.length = 0
    · have : ws = [] := List.eq_nil_of_length_eq_zero h0
      subst this
      simp [fw]
    · have hi : i % ws.length < ws.length := Nat.mod_lt _ (by omega)
      have e1 := rot_get ha hi
      have e2 := rot_get hb hi
      rw [h, e2] at e1
      have e3 := Option.some.inj e1
      have k : ∀ c, fw ws (c + i % ws.length) = fw ws (c + i) := fun c => by
        unfold fw
        rw [Nat.add_mod_mod]
      rw [k, k] at e3
      exact e3.symm
  · intro h
    refine List.ext_getElem? fun i => ?_
    by_cases hi : i < ws.length
    · rw [rot_get ha hi, rot_get hb hi, h]
    · rw [List.getElem?_eq_none (by rw [rot_len]; omega), List.getElem?_eq_none (by rw [rot_len]; omega)]
theorem rot_tp {ws : List Int} {t : Nat} (ht : t ≤ ws.length) : rot ws t = ws ↔ Tp ws t := by
  have := rot_eq (ws := ws) (a := t) (b := 0) ht (Nat.zero_le _)
  rw [rot_zero] at this
  rw [this]
  constructor
  · intro h i
    have := h i
    rw [Nat.zero_add, Nat.add_comm] at this
    exact this
  · intro h i
    rw [Nat.zero_add, Nat.add_comm]
    exact h i
theorem Tp.mul {ws : List Int} {t : Nat} (h : Tp ws t) : ∀ q, Tp ws (t * q)
  | 0 => fun i => rfl
  | q + 1 => fun i => by
    rw [Nat.mul_succ, ← Nat.add_assoc, h, h.mul q]
theorem Tp.mod {ws : List Int} {t p : Nat} (h : Tp ws t) (hp : Tp ws p) : Tp ws (t % p) := fun i => by
  have e : i + t = i + t % p + p * (t / p) := by
    have := Nat.mod_add_div t p
    omega
  have h1 := h i
  rw [e, (hp.mul _)] at h1
  exact h1
/-- the least such step -/
structure Per (ws : List Int) (p : Nat) : Prop where
  p1 : 1 ≤ p
  pn : p ≤ ws.length
  t : Tp ws p
  l : ∀ q, 1 ≤ q → q < p → ¬ Tp ws q
theorem per_ex {ws : List Int} (h : 1 ≤ ws.length) : ∃ p, Per ws p := by
  have key : ∀ n, (∃ q, q ≤ n ∧ 1 ≤ q ∧ q ≤ ws.length ∧ Tp ws q) → ∃ p, Per ws p := by
    intro n
    induction n using Nat.strongRecOn with
    | ind n ih =>
      rintro ⟨q, q1, q2, q3, q4⟩
      by_cases hl : ∃ r, 1 ≤ r ∧ r < q ∧ Tp ws r
      · obtain ⟨r, r1, r2, r3⟩ := hl
        exact ih r (by omega) ⟨r, Nat.le_refl _, r1, by omega, r3⟩
      · exact ⟨q, q2, q3, q4, fun r r1 r2 r3 => hl ⟨r, r1, r2, r3⟩⟩
  exact key ws.length ⟨ws.length, Nat.le_refl _, h, Nat.le_refl _, tp_len⟩
theorem Per.dvd {ws : List Int} {p t : Nat} (h : Per ws p) (ht : Tp ws t) : t % p = 0 := by
  have h1 := ht.mod h.t
  by_cases h0 : t % p = 0
  · exact h0
  · exact absurd h1 (h.l _ (by omega) (Nat.mod_lt _ (by have := h.p1; omega)))
theorem Per.tp {ws : List Int} {p t : Nat} (h : Per ws p) (ht : t % p = 0) : Tp ws t := by
  have := Nat.mod_add_div t p
  rw [ht, Nat.zero_add] at this
  rw [← this]
  exact h.t.mul _
theorem Per.uniq {ws : List Int} {p q : Nat} (h : Per ws p) (h' : Per ws q) : p = q := by
  rcases Nat.lt_trichotomy p q with c | c | c
  · exact absurd h.t (h'.l _ h.p1 c)
  · exact c
  · exact absurd h'.t (h.l _ h'.p1 c)
/-- two places alike -/
theorem Per.same {ws : List Int} {p a b : Nat} (h : Per ws p) (ha : a ≤ ws.length) (hb : b ≤ ws.length) : rot ws a = rot ws b ↔ a % p = b % p := by
  rw [rot_eq ha hb]
  have p1 := h.p1
  have one : ∀ a b : Nat, a ≤ b → ((∀ i, fw ws (a + i) = fw ws (b + i)) ↔ a % p = b % p) := by
    intro a b hab
    have key : (∀ i, fw ws (a + i) = fw ws (b + i)) ↔ Tp ws (b - a) := by
      constructor
      · intro h i
        have n1 : 1 ≤ ws.length := by have := h
                                      have := Per.pn ‹Per ws p›
                                      omega
        have hle : a ≤ i + ws.length * a := by
          have : 1 * a ≤ ws.length * a := Nat.mul_le_mul_right a n1
          omega
        have e := h (i + ws.length * a - a)
        have e1 : a + (i + ws.length * a - a) = i + ws.length * a := by omega
        have e2 : b + (i + ws.length * a - a) = (i + (b - a)) + ws.length * a := by omega
        rw [e1, e2, fw_mul, fw_mul] at e
        exact e.symm
      · intro h i
        have e := h (a + i)
        have e1 : a + i + (b - a) = b + i := by omega
        rw [e1] at e
        exact e.symm
    rw [key]
    constructor
    · intro ht
      have := h.dvd ht
      have e : b = a + (b - a) := by omega
      rw [e, Nat.add_mod, this, Nat.add_zero, Nat.mod_mod]
    · intro e
      refine h.tp ?_
      exact Nat.sub_mod_eq_zero_of_mod_eq e.symm
  rcases Nat.le_total a b with c | c
  · exact one a b c
  · have := one b a c
    constructor
    · intro h
      exact (this.mp fun i => (h i).symm).symm
    · intro h i
      exact (this.mpr h.symm i).symm
/-! sums -/
def stk (ws : List Int) (place h : Nat) : Int := ((h / ws.length : Nat) : Int) * ws.sum + ((rot ws place).take (h % ws.length)).sum
theorem rot_sum {ws : List Int} {k : Nat} : (rot ws k).sum = ws.sum := by
  unfold rot
  rw [List.sum_append, Int.add_comm, ← List.sum_append, List.take_append_drop]
theorem take_pos {l : List Int} (h : ∀ x ∈ l, 1 ≤ x) {a : Nat} (ha : a < l.length) : (l.take a).sum + 1 ≤ (l.take (a + 1)).sum := by
  rw [List.take_add_one, List.getElem?_eq_getElem ha, List.sum_append]
  have := h _ (List.getElem_mem ha)
  simp
  exact this
theorem take_nonneg {l : List Int} (h : ∀ x ∈ l, 1 ≤ x) : ∀ a, 0 ≤ (l.take a).sum
  | 0 => by simp
  | a + 1 => by
    by_cases ha : a < l.length
    · have := take_pos h ha
      have := take_nonneg h a
      omega
    · rw [List.take_of_length_le (by omega)]
      have := take_nonneg h a
      rw [List.take_of_length_le (by omega)] at this
      exact this
theorem stk_step {ws : List Int} (hn : 1 ≤ ws.length) (hc : ∀ x ∈ ws, 1 ≤ x) {place h : Nat} : stk ws place h + 1 ≤ stk ws place (h + 1) := by
  have hr : ∀ x ∈ rot ws place, 1 ≤ x := fun x hx => by
    unfold rot at hx
    rcases List.mem_append.mp hx with hx | hx
    · exact hc x (List.mem_of_mem_drop hx)
    · exact hc x (List.mem_of_mem_take hx)
  unfold stk
  have hm := Nat.mod_lt h (show 0 < ws.length by omega)
  have e := Nat.div_add_mod h ws.length
  generalize h / ws.length = q at *
  generalize h % ws.length = r at *
  subst e
  have d1 : (ws.length * q + r + 1) / ws.length = q + (r + 1) / ws.length := by rw [Nat.add_assoc, Nat.mul_add_div (by omega)]
  have d2 : (ws.length * q + r + 1) % ws.length = (r + 1) % ws.length := by rw [Nat.add_assoc, Nat.mul_add_mod]
  rw [d1, d2]
  have tp := take_pos hr (a := r) (by rw [rot_len]; exact hm)
  by_cases hl : r + 1 = ws.length
  · rw [hl, Nat.div_self (by omega), Nat.mod_self]
    rw [hl, ← rot_len (ws := ws) (k := place), List.take_length, rot_sum] at tp
    have : ((q + 1 : Nat) : Int) * ws.sum = (q : Int) * ws.sum + ws.sum := by
      rw [Int.natCast_add, Int.add_mul]
      simp
    rw [this]
    simp
    omega
  · rw [Nat.div_eq_of_lt (by omega), Nat.mod_eq_of_lt (by omega)]
    simp
    omega
theorem stk_mono {ws : List Int} (hn : 1 ≤ ws.length) (hc : ∀ x ∈ ws, 1 ≤ x) {place a : Nat} : ∀ d : Nat, stk ws place a + (d : Int) ≤ stk ws place (a + d)
  | 0 => by simp
  | d + 1 => by
    have h1 := stk_mono hn hc (place := place) (a := a) d
    have h2 := stk_step hn hc (place := place) (h := a + d)
    have e : a + (d + 1) = a + d + 1 := by omega
    rw [e]
    omega
theorem stk_turn {ws : List Int} {place q : Nat} (hn : 1 ≤ ws.length) : stk ws place (ws.length * q) = (q : Int) * ws.sum := by
  unfold stk
  rw [Nat.mul_mod_right, Nat.mul_div_cancel_left _ (by omega)]
  simp
/-- the least number of hours -/
structure Hr (ws : List Int) (place : Nat) (c : Int) (h : Nat) : Prop where
  ge : c ≤ stk ws place h
  lt : ∀ j, j < h → stk ws place j < c
theorem Hr.uniq {ws : List Int} {place : Nat} {c : Int} {h h' : Nat} (a : Hr ws place c h) (b : Hr ws place c h') : h = h' := by
  rcases Nat.lt_trichotomy h h' with k | k | k
  · have := b.lt _ k
    have := a.ge
    omega
  · exact k
  · have := a.lt _ k
    have := b.ge
    omega
theorem sum_pos {l : List Int} (h : ∀ x ∈ l, 1 ≤ x) : (l.length : Int) ≤ l.sum := by
  induction l with
  | nil => simp
  | cons a l ih =>
    have := ih fun x hx => h x (by simp [hx])
    have := h a (by simp)
    rw [List.sum_cons, List.length_cons]
    omega
theorem sum_le {l : List Int} (h : ∀ x ∈ l, x ≤ 24) : l.sum ≤ 24 * (l.length : Int) := by
  induction l with
  | nil => simp
  | cons a l ih =>
    have := ih fun x hx => h x (by simp [hx])
    have := h a (by simp)
    rw [List.sum_cons, List.length_cons]
    omega
theorem hr_begin {ws : List Int} {place c : Nat} (hn : 1 ≤ ws.length) (hc : ∀ x ∈ ws, 1 ≤ x) {q : Nat} (hq : (q : Int) = (c : Int) / ws.sum) : ∀ j, j < ws.length * q → stk ws place j < (c : Int) := fun j hj => by
  have h1 := stk_mono hn hc (place := place) (a := j) (ws.length * q - j)
  have e : j + (ws.length * q - j) = ws.length * q := by omega
  rw [e, stk_turn hn, hq] at h1
  have hs := sum_pos hc
  have := Int.ediv_mul_le (c : Int) (show ws.sum ≠ 0 by omega)
  omega
theorem hr_end {ws : List Int} {place c : Nat} (hn : 1 ≤ ws.length) (hc : ∀ x ∈ ws, 1 ≤ x) {q : Nat} (hq : (q : Int) = (c : Int) / ws.sum) : (c : Int) < stk ws place (ws.length * (q + 1)) := by
  rw [stk_turn hn, Int.natCast_add, hq]
  have hs := sum_pos hc
  exact Int.lt_ediv_add_one_mul_self _ (by omega)
theorem hr_ex {ws : List Int} {place c : Nat} (hn : 1 ≤ ws.length) (hc : ∀ x ∈ ws, 1 ≤ x) : ∃ h, Hr ws place c h ∧ h ≤ ws.length * ((c : Int) / ws.sum).toNat + ws.length := by
  have hs := sum_pos hc
  have hq : (((c : Int) / ws.sum).toNat : Int) = (c : Int) / ws.sum := Int.toNat_of_nonneg (Int.ediv_nonneg (by omega) (by omega))
  generalize ((c : Int) / ws.sum).toNat = q at *
  have b := hr_begin (place := place) hn hc hq
  have e := hr_end (place := place) hn hc hq
  have key : ∀ n, (c : Int) ≤ stk ws place n → ∃ h, Hr ws place c h ∧ h ≤ n := by
    intro n
    induction n with
    | zero => exact fun h => ⟨0, ⟨h, fun j hj => absurd hj (Nat.not_lt_zero _)⟩, Nat.le_refl _⟩
    | succ n ih =>
      intro h
      by_cases h2 : (c : Int) ≤ stk ws place n
      · obtain ⟨r, r1, r2⟩ := ih h2
        exact ⟨r, r1, by omega⟩
      · refine ⟨n + 1, ⟨h, fun j hj => ?_⟩, Nat.le_refl _⟩
        have := stk_mono hn hc (place := place) (a := j) (n - j)
        have e : j + (n - j) = n := by omega
        rw [e] at this
        omega
  obtain ⟨h, h1, h2⟩ := key _ (Int.le_of_lt e)
  exact ⟨h, h1, by rw [Nat.mul_succ] at h2; exact h2⟩
/-! how many to pull -/
def pul (p place due : Nat) : Int := ((due : Int) - (place : Int)) % (p : Int)
theorem pul_ok {p place due : Nat} (p1 : 1 ≤ p) : ∃ k : Nat, pul p place due = (k : Int) ∧ k < p ∧ (place + k) % p = due % p ∧ ∀ j, j < k → (place + j) % p ≠ due % p := by
  have h0 := Int.emod_nonneg ((due : Int) - (place : Int)) (show (p : Int) ≠ 0 by omega)
  have h1 := Int.emod_lt_of_pos ((due : Int) - (place : Int)) (show (0 : Int) < p by omega)
  obtain ⟨k, hk⟩ := Int.eq_ofNat_of_zero_le h0
  have lt : k < p := by
    unfold pul at *
    omega
  have e : (place + k) % p = due % p := by
    have : ((place + k : Nat) : Int) % (p : Int) = (due : Int) % (p : Int) := by
      rw [Int.natCast_add, ← hk, Int.add_emod_emod]
      congr 1
      omega
    have h2 : (((place + k) % p : Nat) : Int) = ((due % p : Nat) : Int) := by
      rw [Int.natCast_emod, Int.natCast_emod]
      exact this
    exact Int.ofNat.inj h2
  refine ⟨k, hk, lt, e, fun j hj e2 => ?_⟩
  rw [← e] at e2
  have := Nat.sub_mod_eq_zero_of_mod_eq e2.symm
  have e3 : place + k - (place + j) = k - j := by omega
  rw [e3, Nat.mod_eq_of_lt (by omega)] at this
  omega
end K56
set_option Elab.async false
set_option linter.all false
set_option maxRecDepth 100000
set_option maxHeartbeats 2000000
namespace K56
open PySem L2 DL
section
variable {C : CA} {S : SS} {P : D → SS → Prop} {Pb : Bool → SS → Prop} {X : XQ}
theorem aP_plain {d : D} (h : aP d = true) : plain d = true := by cases d <;> first | rfl | (exact h)
theorem isR_int {d : D} {lo hi : Int} (h : isR d lo hi = true) : ∃ i, d = .int i ∧ lo ≤ i ∧ i ≤ hi := by
  cases d with
  | int i =>
    simp [isR] at h
    exact ⟨i, rfl, h⟩
  | _ => cases h
theorem isR_of {i lo hi : Int} (h1 : lo ≤ i) (h2 : i ≤ hi) : isR (.int i) lo hi = true := by simp [isR, h1, h2]
abbrev AE (C : CA) (X : XQ) (r : Str) (S : SS) : Prop := X C.ArgumentError [("reason", .str r)] S
abbrev LE' (C : CA) (X : XQ) (n : Int) (S : SS) : Prop := X C.LogError [("reason", .str "deed"), ("number", .int n)] S
theorem all_range {ds : List D} {δ : Sl} {i j : Nat} {lo hi : Int} (hd : δ[i]? = some (some (.tup ds))) (hj : j < δ.length) (ha : ∀ d ∈ ds, aP d = true) (hl : ds.length ≤ 100000) (k : ∀ l, Pb (!ds.all fun d => isR d lo hi) (S ++ l)) :
    XSat (tNot' (tTru (eCB (one allD) (aCons (eLc (iVal (eVar i)) (.one j) [j] tYes' (eCall (F_in_range C) 3 (aCons (eVar j) (aCons (eC (.int lo)) (aCons (eC (.int hi)) aNil))))) aNil))) δ S) Pb X := by
  rw [xt_not, xt_tru]
  refine xc_all (items := ds) (f := fun d => isR d lo hi) (hit_tup hd) (fun z hz => ⟨_, rfl, fun S' Q kk => ?_⟩) hl fun l => ?_
  · have hg : ((wipeD δ [j]).set j (some z))[j]? = some (some z) := by
      rw [List.getElem?_set_self]
      simp [wipeD, hj]
    simp only [xe_call, xa_cons, xa_nil, xe_var, hg, xe_c, List.length_cons, List.length_nil, Nat.zero_add, Nat.reduceAdd, true_and]
    refine (in_range_sat (aP_plain (ha z hz)) ?_).x
    have := kk []
    rwa [List.append_nil] at this
  · simp only [tru_bl]
    exact k l
/-! wheels -/
@[irreducible] def wD (ws : List Int) : D := .tup (ws.map .int)
theorem wD_eq {ws : List Int} : wD ws = .tup (ws.map .int) := by unfold wD; rfl
structure Wh (ws : List Int) : Prop where
  l1 : 1 ≤ ws.length
  l2 : ws.length ≤ 60
  c : ∀ x ∈ ws, 1 ≤ x ∧ x ≤ 24
def allR (lo hi : Int) : D → Bool
  | .tup ds => ds.all fun d => isR d lo hi
  | _ => false
def whB (d : D) : Bool := lenB 1 60 d && allR 1 24 d
theorem allR_ints {lo hi : Int} : ∀ {ds : List D}, (ds.all fun d => isR d lo hi) = true → ∃ ws : List Int, ds = ws.map .int ∧ ∀ x ∈ ws, lo ≤ x ∧ x ≤ hi
  | [], _ => ⟨[], rfl, by simp⟩
  | d :: ds, h => by
    rw [List.all_cons, Bool.and_eq_true] at h
    obtain ⟨i, rfl, h1, h2⟩ := isR_int h.1
    obtain ⟨ws, rfl, h3⟩ := allR_ints h.2
    refine ⟨i :: ws, rfl, fun x hx => ?_⟩
    rcases List.mem_cons.mp hx with rfl | hx
    · exact ⟨h1, h2⟩
    · exact h3 x hx
theorem allR_of {lo hi : Int} {ws : List Int} (h : ∀ x ∈ ws, lo ≤ x ∧ x ≤ hi) : allR lo hi (wD ws) = true := by
  rw [wD_eq]
  show ((ws.map D.int).all fun d => isR d lo hi) = true
  rw [List.all_map]
  exact List.all_eq_true.mpr fun x hx => isR_of (h x hx).1 (h x hx).2
theorem wh_of {d : D} (h : whB d = true) : ∃ ws, d = wD ws ∧ Wh ws := by
  unfold whB at h
  rw [Bool.and_eq_true] at h
  obtain ⟨ds, rfl, l1, l2⟩ := lenB_tup h.1
  obtain ⟨ws, rfl, h3⟩ := allR_ints h.2
  rw [List.length_map] at l1 l2
  exact ⟨ws, wD_eq.symm, by omega, by omega, h3⟩
theorem whB_wh {ws : List Int} (h : Wh ws) : whB (wD ws) = true := by
  have := h.l1
  have := h.l2
  unfold whB
  rw [allR_of h.c, Bool.and_true, wD_eq]
  show (decide ((1 : Int) ≤ ((ws.map D.int).length : Int)) && decide (((ws.map D.int).length : Int) ≤ 60)) = true
  rw [List.length_map, decide_eq_true (by omega), decide_eq_true (by omega)]
  rfl
theorem aP_w {ws : List Int} (h : ws.length ≤ 100000)  : aP (wD ws) = true := wD_eq ▸ aP_of (by rw [List.length_map]; exact h) fun d hd => by
  obtain ⟨i, _, rfl⟩ := List.mem_map.mp hd
  rfl
theorem Wh.aP {ws : List Int} (h : Wh ws) : aP (wD ws) = true := aP_w (by have := h.l2; omega)
theorem ix_w {ws : List Int} {n : Nat} {i : Int} (hn : n < ws.length) (hi : i = (n : Int)) : SatO (ixD (wD ws) (.int i) S) P = P (.int (ws.getD n 0)) S :=
  wD_eq ▸ so_ixT (by rw [List.getElem?_map, List.getElem?_eq_getElem hn, List.getD_eq_getElem?_getD, List.getElem?_eq_getElem hn]; rfl) hi
theorem len_w {ws : List Int} : SatO (one lenD [wD ws] S) P = P (.int (nI ws.length)) S := by rw [wD_eq, so_lenT, List.length_map, nI_eq]
theorem demand_wheel_x {d : D} {r : Str} (hp : aP d = true) (x : whB d = false → ∀ l, AE C X r (S ++ l)) (k : whB d = true → ∀ l, P .non (S ++ l)) : XSat (F_demand_wheel C [d, .str r] S) P X := by
  rw [sem_demand_wheel]
  refine x_fn ?_
  unfold B_demand_wheel
  simp only [startD, List.getElem?_cons_succ, List.getElem?_cons_zero, List.set_cons_succ, List.set_cons_zero, List.length_cons, List.length_nil, List.map_cons, List.map_nil, List.cons_append, List.nil_append, List.replicate, Nat.reduceAdd, Nat.zero_add, true_and]
  rw [x_seq, x_if]
  refine xt_len hp rfl ?_
  cases h1 : lenB 1 60 d with
  | false =>
    simp only [Bool.not_false, if_true]
    try simp only [x_seq, x_nil, x_drop, x_ret, x_retN, x_if, x_asg1, x_par, x_raise, xe_var, xe_c, xe_op1, xe_op2, xe_if, xa_nil, xa_cons, xe_call, xe_cb, xe_and, xe_or, xe_chain, xt_tru, xt_val, xt_not, xt_and, xt_or, xt_if, xt_yes, xit_val, xit_on, startD, xe_tup0, xe_tup1, xe_tup2, xe_tup3, xe_tup4, xe_tup5, xe_tup6, xe_lst0, xe_lst1, xe_lst2, xe_lst3, xe_lst4, xe_lst5, xe_lst6, xe_lst7, xe_lst8, xe_lst9, xe_lst10, xe_lst11, xe_lst12, xe_lst13, xe_lst14, xe_lst15, xe_lst16, so_add, so_sub, so_mul, so_fdiv, so_mod, so_lt, so_le, so_gt, so_ge, so_neg, so_notb, so_int, so_lenT, eq_int, ne_int, tru_int, tru_bl, tru_tup, tru_non, boolOf_bl, so_ix0, so_ix1, so_ix2, eq_str, ne_str, List.getElem?_cons_succ, List.getElem?_cons_zero, List.set_cons_succ, List.set_cons_zero, List.length_cons, List.length_nil, List.map_cons, List.map_nil, List.cons_append, List.nil_append, List.replicate, Nat.reduceAdd, Nat.zero_add, true_and]
    have := x (by unfold whB; rw [h1]; rfl) []
    rwa [List.append_nil] at this
  | true =>
    simp only [Bool.not_true, Bool.false_eq_true, if_false, x_nil]
    obtain ⟨ds, rfl, l1, l2⟩ := lenB_tup h1
    obtain ⟨hl, ha⟩ := aP_tup hp
    rw [x_seq, x_if]
    refine all_range rfl (show 2 < 3 by decide) ha hl fun l => ?_
    have e : whB (.tup ds) = ds.all fun d => isR d 1 24 := by
      unfold whB
      rw [h1]
      rfl
    rw [e] at x k
    cases h2 : ds.all fun d => isR d 1 24 with
    | false =>
      simp only [Bool.not_false, if_true]
      try simp only [x_seq, x_nil, x_drop, x_ret, x_retN, x_if, x_asg1, x_par, x_raise, xe_var, xe_c, xe_op1, xe_op2, xe_if, xa_nil, xa_cons, xe_call, xe_cb, xe_and, xe_or, xe_chain, xt_tru, xt_val, xt_not, xt_and, xt_or, xt_if, xt_yes, xit_val, xit_on, startD, xe_tup0, xe_tup1, xe_tup2, xe_tup3, xe_tup4, xe_tup5, xe_tup6, xe_lst0, xe_lst1, xe_lst2, xe_lst3, xe_lst4, xe_lst5, xe_lst6, xe_lst7, xe_lst8, xe_lst9, xe_lst10, xe_lst11, xe_lst12, xe_lst13, xe_lst14, xe_lst15, xe_lst16, so_add, so_sub, so_mul, so_fdiv, so_mod, so_lt, so_le, so_gt, so_ge, so_neg, so_notb, so_int, so_lenT, eq_int, ne_int, tru_int, tru_bl, tru_tup, tru_non, boolOf_bl, so_ix0, so_ix1, so_ix2, eq_str, ne_str, List.getElem?_cons_succ, List.getElem?_cons_zero, List.set_cons_succ, List.set_cons_zero, List.length_cons, List.length_nil, List.map_cons, List.map_nil, List.cons_append, List.nil_append, List.replicate, Nat.reduceAdd, Nat.zero_add, true_and]
      exact x h2 l
    | true =>
      simp only [Bool.not_true, Bool.false_eq_true, if_false, x_nil]
      exact k h2 l
/-- called with its default -/
theorem wheel_x {d : D} (hp : aP d = true) (x : whB d = false → ∀ l, AE C X "wheel" (S ++ l)) (k : whB d = true → ∀ l, P .non (S ++ l)) : XSat ((fun ds S => F_demand_wheel C (ds ++ [.str "wheel"]) S) [d] S) P X := demand_wheel_x hp x k
theorem demand_place_x {ws : List Int} {d : D} (hp : aP d = true) (x : isR d 0 (nI ws.length - 1) = false → AE C X "place" S) (k : isR d 0 (nI ws.length - 1) = true → P .non S) : XSat (F_demand_place C [wD ws, d] S) P X := by
  rw [sem_demand_place]
  refine x_fn ?_
  unfold B_demand_place
  simp only [startD, List.getElem?_cons_succ, List.getElem?_cons_zero, List.set_cons_succ, List.set_cons_zero, List.length_cons, List.length_nil, List.map_cons, List.map_nil, List.cons_append, List.nil_append, List.replicate, Nat.reduceAdd, Nat.zero_add, true_and]
  rw [x_seq, x_if]
  simp only [xt_not, xt_tru, xe_call, xe_op2, xe_cb, xa_cons, xa_nil, xe_var, xe_c, len_w, so_sub, List.getElem?_cons_succ, List.getElem?_cons_zero, List.set_cons_succ, List.set_cons_zero, List.length_cons, List.length_nil, List.map_cons, List.map_nil, List.cons_append, List.nil_append, List.replicate, Nat.reduceAdd, Nat.zero_add, true_and]
  refine (in_range_sat (aP_plain hp) ?_).x
  simp only [tru_bl]
  cases h : isR d 0 (nI ws.length - 1) with
  | false =>
    simp only [Bool.not_false, if_true]
    try simp only [x_seq, x_nil, x_drop, x_ret, x_retN, x_if, x_asg1, x_par, x_raise, xe_var, xe_c, xe_op1, xe_op2, xe_if, xa_nil, xa_cons, xe_call, xe_cb, xe_and, xe_or, xe_chain, xt_tru, xt_val, xt_not, xt_and, xt_or, xt_if, xt_yes, xit_val, xit_on, startD, xe_tup0, xe_tup1, xe_tup2, xe_tup3, xe_tup4, xe_tup5, xe_tup6, xe_lst0, xe_lst1, xe_lst2, xe_lst3, xe_lst4, xe_lst5, xe_lst6, xe_lst7, xe_lst8, xe_lst9, xe_lst10, xe_lst11, xe_lst12, xe_lst13, xe_lst14, xe_lst15, xe_lst16, so_add, so_sub, so_mul, so_fdiv, so_mod, so_lt, so_le, so_gt, so_ge, so_neg, so_notb, so_int, so_lenT, eq_int, ne_int, tru_int, tru_bl, tru_tup, tru_non, boolOf_bl, so_ix0, so_ix1, so_ix2, eq_str, ne_str, List.getElem?_cons_succ, List.getElem?_cons_zero, List.set_cons_succ, List.set_cons_zero, List.length_cons, List.length_nil, List.map_cons, List.map_nil, List.cons_append, List.nil_append, List.replicate, Nat.reduceAdd, Nat.zero_add, true_and]
    exact x h
  | true =>
    simp only [Bool.not_true, Bool.false_eq_true, if_false, x_nil]
    exact k h
/-- a place -/
theorem place_of {n : Nat} {d : D} (h : isR d 0 (nI n - 1) = true) : ∃ p : Nat, d = .int (nI p) ∧ p < n := by
  obtain ⟨i, rfl, h1, h2⟩ := isR_int h
  obtain ⟨p, rfl⟩ := Int.eq_ofNat_of_zero_le h1
  rw [nI_eq] at h2
  exact ⟨p, by rw [nI_eq], by omega⟩
theorem num_of {m : Int} {d : D} (h : isR d 0 m = true) : ∃ p : Nat, d = .int (nI p) ∧ (p : Int) ≤ m := by
  obtain ⟨i, rfl, h1, h2⟩ := isR_int h
  obtain ⟨p, rfl⟩ := Int.eq_ofNat_of_zero_le h1
  exact ⟨p, by rw [nI_eq], h2⟩
/-! notches -/
def sumsL (ws : List Int) : List Int := (List.range ws.length).map fun k => (ws.take (k + 1)).sum
theorem notches_x {d : D} (hp : aP d = true) (x : whB d = false → ∀ l, AE C X "wheel" (S ++ l)) (k : ∀ ws, d = wD ws → Wh ws → ∀ l, P (wD (sumsL ws)) (S ++ l)) : XSat (F_notches C [d] S) P X := by
  rw [sem_notches]
  refine x_fn ?_
  unfold B_notches
  simp only [startD, List.getElem?_cons_succ, List.getElem?_cons_zero, List.set_cons_succ, List.set_cons_zero, List.length_cons, List.length_nil, List.map_cons, List.map_nil, List.cons_append, List.nil_append, List.replicate, Nat.reduceAdd, Nat.zero_add, true_and]
  rw [x_seq, x_drop]
  simp only [xe_call, xa_cons, xa_nil, xe_var, List.getElem?_cons_succ, List.getElem?_cons_zero, List.set_cons_succ, List.set_cons_zero, List.length_cons, List.length_nil, List.map_cons, List.map_nil, List.cons_append, List.nil_append, List.replicate, Nat.reduceAdd, Nat.zero_add, true_and]
  refine wheel_x hp x fun h l => ?_
  obtain ⟨ws, rfl, hw⟩ := wh_of h
  have k := k ws rfl hw
  have l2 := hw.l2
  rw [x_seq]
  simp only [x_asg1, xe_c, List.getElem?_cons_succ, List.getElem?_cons_zero, List.set_cons_succ, List.set_cons_zero, List.length_cons, List.length_nil, List.map_cons, List.map_nil, List.cons_append, List.nil_append, List.replicate, Nat.reduceAdd, Nat.zero_add, true_and]
  rw [x_seq]
  simp only [x_asg1, xe_lst0, List.getElem?_cons_succ, List.getElem?_cons_zero, List.set_cons_succ, List.set_cons_zero, List.length_cons, List.length_nil, List.map_cons, List.map_nil, List.cons_append, List.nil_append, List.replicate, Nat.reduceAdd, Nat.zero_add, true_and]
  rw [x_seq]
  refine x_forT (fun j δ S' => ∃ o, δ = [some (wD ws), some (.int (ws.take j).sum), some (.ref (S ++ l).length), o] ∧ S' = S ++ l ++ [.lst (((List.range j).map fun k => (ws.take (k + 1)).sum).map .int)]) (ds := ws.map .int) (by rw [wD_eq]; rfl) ⟨none, rfl, rfl⟩ ?_ ?_
  · rintro j d δ S' hj ⟨o, rfl, rfl⟩
    rw [List.getElem?_map, Option.map_eq_some_iff] at hj
    obtain ⟨i, hi, rfl⟩ := hj
    have hjl := (List.getElem?_eq_some_iff.mp hi).1
    refine ⟨_, rfl, ?_⟩
    simp only [List.getElem?_cons_succ, List.getElem?_cons_zero, List.set_cons_succ, List.set_cons_zero, List.length_cons, List.length_nil, List.map_cons, List.map_nil, List.cons_append, List.nil_append, List.replicate, Nat.reduceAdd, Nat.zero_add, true_and]
    rw [x_seq, x_aug rfl]
    simp only [xe_var, so_augA, List.getElem?_cons_succ, List.getElem?_cons_zero, List.set_cons_succ, List.set_cons_zero, List.length_cons, List.length_nil, List.map_cons, List.map_nil, List.cons_append, List.nil_append, List.replicate, Nat.reduceAdd, Nat.zero_add, true_and]
    rw [x_seq]
    refine x_app (ds0 := ((List.range j).map fun k => (ws.take (k + 1)).sum).map .int) rfl (by simp) ?_
    simp only [xe_var, List.getElem?_cons_succ, List.getElem?_cons_zero, List.set_cons_succ, List.set_cons_zero, List.length_cons, List.length_nil, List.map_cons, List.map_nil, List.cons_append, List.nil_append, List.replicate, Nat.reduceAdd, Nat.zero_add, true_and]
    refine ⟨((List.range j).map fun k => (ws.take (k + 1)).sum).map .int, by simp, by simp; omega, ?_⟩
    rw [x_nil, set_last]
    have e : (ws.take (j + 1)).sum = (ws.take j).sum + i := by
      rw [List.take_add_one, hi, List.sum_append]
      simp
    refine ⟨some (.int i), by rw [e], ?_⟩
    rw [List.range_succ, List.map_append, List.map_append]
    show S ++ l ++ [MO.lst (_ ++ [.int ((ws.take j).sum + i)])] = S ++ l ++ [MO.lst (_ ++ [.int (ws.take (j + 1)).sum])]
    rw [e]
  · rintro δ S' ⟨o, rfl, rfl⟩
    rw [List.length_map, x_seq]
    simp only [x_ret, xe_cb, xa_cons, xa_nil, xe_var, List.getElem?_cons_succ, List.getElem?_cons_zero, List.set_cons_succ, List.set_cons_zero, List.length_cons, List.length_nil, List.map_cons, List.map_nil, List.cons_append, List.nil_append, List.replicate, Nat.reduceAdd, Nat.zero_add, true_and]
    rw [so_tupL (ds := (sumsL ws).map .int) (by simp [sumsL]), List.append_assoc, ← wD_eq]
    exact k _
/-! the period -/
theorem so_addW {ws us : List Int} (h1 : ws.length ≤ 100000) (h2 : us.length ≤ 100000) : SatO (binD .Add (wD ws) (wD us) S) P = P (wD (ws ++ us)) S := by
  rw [wD_eq, wD_eq, so_addT (by rw [List.length_map, List.length_map]; omega), ← List.map_append, ← wD_eq]
theorem cut_mid {ds : List D} {a b : Nat} : cutD ds (some (a : Int)) (some (b : Int)) = (ds.drop a).take (b - a) := by
  unfold cutD
  rw [HT.sIx_nat, HT.sIx_nat]
  by_cases h : a ≤ ds.length
  · have e1 : min a ds.length = a := Nat.min_eq_left h
    rw [e1]
    by_cases h2 : b ≤ ds.length
    · have e2 : min b ds.length = b := Nat.min_eq_left h2
      rw [e2]
    · have e2 : min b ds.length = ds.length := Nat.min_eq_right (by omega)
      rw [e2, List.take_of_length_le (by rw [List.length_drop]; omega), List.take_of_length_le (by rw [List.length_drop]; omega)]
  · have e1 : min a ds.length = ds.length := Nat.min_eq_right (by omega)
    rw [e1, List.drop_length, List.drop_of_length_le (by omega)]
    simp
theorem sl_drop {ws : List Int} {n : Nat} {i : Int} (hi : i = (n : Int)) : SatO (slD (some i) none (wD ws) S) P = P (wD (ws.drop n)) S := by
  subst hi
  rw [wD_eq, so_slT, cut_drop, ← List.map_drop, ← wD_eq]
theorem sl_take {ws : List Int} {n : Nat} {i : Int} (hi : i = (n : Int)) : SatO (slD none (some i) (wD ws) S) P = P (wD (ws.take n)) S := by
  subst hi
  rw [wD_eq, so_slT, cut_take, ← List.map_take, ← wD_eq]
theorem sl_mid {ws : List Int} {a b : Nat} {i j : Int} (hi : i = (a : Int)) (hj : j = (b : Int)) : SatO (slD (some i) (some j) (wD ws) S) P = P (wD ((ws.drop a).take (b - a))) S := by
  subst hi hj
  rw [wD_eq, so_slT, cut_mid, ← List.map_drop, ← List.map_take, ← wD_eq]
theorem nice_w {ws : List Int} (h : ws.length ≤ 4000) (hs : ∀ x ∈ ws, x.natAbs < 2 ^ 100) : Nice (wD ws) := by
  have hw : ∀ us : List Int, wDs (us.map D.int) = us.length * 603 := fun us => by
    induction us with
    | nil => rfl
    | cons a us ih =>
      show 601 + 2 + wDs (us.map D.int) = (us.length + 1) * 603
      rw [ih]
      omega
  have hd : ∀ us : List Int, dpDs (us.map D.int) = 0 := fun us => by
    induction us with
    | nil => rfl
    | cons a us ih =>
      show max 0 (dpDs (us.map D.int)) = 0
      rw [ih]
      rfl
  rw [wD_eq]
  refine ⟨niceDs_iff.mpr fun d hd => ?_, ?_, ?_⟩
  · obtain ⟨i, hi, rfl⟩ := List.mem_map.mp hd
    exact nice_int (hs i hi) (by decide)
  · show dpDs (ws.map D.int) + 1 ≤ 60
    rw [hd]
    decide
  · show wDs (ws.map D.int) + 3 ≤ 16777216
    rw [hw]
    omega
theorem cln_w {ws : List Int} : clnD (wD ws) = true := wD_eq ▸ clnDs_iff.mpr fun d hd => by
  obtain ⟨i, _, rfl⟩ := List.mem_map.mp hd
  rfl
theorem Wh.nice {ws : List Int} (h : Wh ws) : Nice (wD ws) := nice_w (by have := h.l2; omega) fun x hx => by have := h.c x hx; omega
theorem wD_inj {ws us : List Int} (h : wD ws = wD us) : ws = us := by
  rw [wD_eq, wD_eq] at h
  injection h with h
  exact List.map_inj_right (fun a b h => by injection h) |>.mp h
theorem eq_w {ws us : List Int} (h1 : Nice (wD ws)) (h2 : Nice (wD us)) : SatO (cmpD .Eq (wD ws) (wD us) S) P = P (.bl (decide (ws = us))) S := by
  rw [eq_cln h1 h2 cln_w cln_w (fun x y h _ => by rw [wD_eq] at h; cases h)]
  congr 2
  by_cases h : ws = us
  · rw [h, decide_eq_true rfl]
    exact same_self
  · rw [decide_eq_false h]
    exact same_false fun z => h (wD_inj z)
theorem rot_wh {ws : List Int} (h : Wh ws) (k : Nat) : Wh (rot ws k) := by
  refine ⟨by rw [rot_len]; exact h.l1, by rw [rot_len]; exact h.l2, fun x hx => ?_⟩
  unfold rot at hx
  rcases List.mem_append.mp hx with hx | hx
  · exact h.c x (List.mem_of_mem_drop hx)
  · exact h.c x (List.mem_of_mem_take hx)
theorem period_of_sat {ws : List Int} {p : Nat} (hw : Wh ws) (hp : Per ws p) (k : P (.int (nI p)) S) : Sat (F_period_of C [wD ws] S) P := by
  refine XSat.s ?_
  rw [sem_period_of]
  refine x_fn ?_
  unfold B_period_of
  simp only [startD, List.getElem?_cons_succ, List.getElem?_cons_zero, List.set_cons_succ, List.set_cons_zero, List.length_cons, List.length_nil, List.map_cons, List.map_nil, List.cons_append, List.nil_append, List.replicate, Nat.reduceAdd, Nat.zero_add, true_and]
  have l1 := hw.l1
  have l2 := hw.l2
  have p1 := hp.p1
  have pn := hp.pn
  rw [x_seq]
  simp only [x_asg1, xe_cb, xa_cons, xa_nil, xe_var, len_w, List.getElem?_cons_succ, List.getElem?_cons_zero, List.set_cons_succ, List.set_cons_zero, List.length_cons, List.length_nil, List.map_cons, List.map_nil, List.cons_append, List.nil_append, List.replicate, Nat.reduceAdd, Nat.zero_add, true_and]
  rw [x_seq]
  refine x_forR2 (lo := 1) (hi := nI ws.length) (fun j δ S' => S' = S ∧ j < p ∧ ∃ o, δ = [some (wD ws), some (.int (nI ws.length)), o]) (by decide) (by rw [nI_eq]; omega) (fun Q hQ => by simp only [xa_cons, xa_nil, xe_var, xe_c, List.getElem?_cons_succ, List.getElem?_cons_zero, List.set_cons_succ, List.set_cons_zero, List.length_cons, List.length_nil, List.map_cons, List.map_nil, List.cons_append, List.nil_append, List.replicate, Nat.reduceAdd, Nat.zero_add, true_and]; exact hQ) ⟨rfl, by omega, none, rfl⟩ ?_ ?_
  · rintro j δ S' hj ⟨rfl, hjp, o, rfl⟩
    refine ⟨_, rfl, ?_⟩
    have hi : (1 : Int) + nI j = ((j + 1 : Nat) : Int) := by rw [nI_eq]; omega
    rw [nI_eq] at hj
    generalize hs : (1 : Int) + nI j = s at *
    simp only [List.getElem?_cons_succ, List.getElem?_cons_zero, List.set_cons_succ, List.set_cons_zero, List.length_cons, List.length_nil, List.map_cons, List.map_nil, List.cons_append, List.nil_append, List.replicate, Nat.reduceAdd, Nat.zero_add, true_and]
    rw [x_seq, x_if, xt_and, xt_val]
    simp only [xe_op2, xe_var, xe_c, so_mod, List.getElem?_cons_succ, List.getElem?_cons_zero, List.set_cons_succ, List.set_cons_zero, List.length_cons, List.length_nil, List.map_cons, List.map_nil, List.cons_append, List.nil_append, List.replicate, Nat.reduceAdd, Nat.zero_add, true_and]
    refine ⟨by omega, ?_⟩
    rw [fmod_pos (by omega)]
    simp only [eq_int, boolOf_bl]
    by_cases hd : (nI ws.length % s == 0) = true
    · rw [hd]
      simp only [if_true]
      rw [xt_val]
      simp only [xe_op2, xe_sl, xo_some, xo_none, xe_var, intOf, List.getElem?_cons_succ, List.getElem?_cons_zero, List.set_cons_succ, List.set_cons_zero, List.length_cons, List.length_nil, List.map_cons, List.map_nil, List.cons_append, List.nil_append, List.replicate, Nat.reduceAdd, Nat.zero_add, true_and]
      rw [sl_drop hi, sl_take hi]
      rw [so_addW (by rw [List.length_drop]; omega) (by rw [List.length_take]; omega)]
      have hrw := rot_wh hw (j + 1)
      rw [show ws.drop (j + 1) ++ ws.take (j + 1) = rot ws (j + 1) from rfl, eq_w hrw.nice hw.nice]
      simp only [boolOf_bl]
      by_cases hr : rot ws (j + 1) = ws
      · have ht := (rot_tp (by omega)).mp hr
        have : p ≤ j + 1 := by
          rcases Nat.lt_or_ge (j + 1) p with c | c
          · exact absurd ht (hp.l _ (by omega) c)
          · exact c
        have e : s = nI p := by rw [nI_eq]; omega
        rw [decide_eq_true hr, if_pos rfl]
        try simp only [x_seq, x_nil, x_drop, x_ret, x_retN, x_if, x_asg1, x_par, x_raise, xe_var, xe_c, xe_op1, xe_op2, xe_if, xa_nil, xa_cons, xe_call, xe_cb, xe_and, xe_or, xe_chain, xt_tru, xt_val, xt_not, xt_and, xt_or, xt_if, xt_yes, xit_val, xit_on, startD, xe_tup0, xe_tup1, xe_tup2, xe_tup3, xe_tup4, xe_tup5, xe_tup6, xe_lst0, xe_lst1, xe_lst2, xe_lst3, xe_lst4, xe_lst5, xe_lst6, xe_lst7, xe_lst8, xe_lst9, xe_lst10, xe_lst11, xe_lst12, xe_lst13, xe_lst14, xe_lst15, xe_lst16, so_add, so_sub, so_mul, so_fdiv, so_mod, so_lt, so_le, so_gt, so_ge, so_neg, so_notb, so_int, so_lenT, eq_int, ne_int, tru_int, tru_bl, tru_tup, tru_non, boolOf_bl, so_ix0, so_ix1, so_ix2, eq_str, ne_str, List.getElem?_cons_succ, List.getElem?_cons_zero, List.set_cons_succ, List.set_cons_zero, List.length_cons, List.length_nil, List.map_cons, List.map_nil, List.cons_append, List.nil_append, List.replicate, Nat.reduceAdd, Nat.zero_add, true_and]
        rw [e]
        exact k
      · rw [decide_eq_false hr]
        simp only [Bool.false_eq_true, if_false, x_nil]
        have : j + 1 ≠ p := fun e => hr ((rot_tp (by omega)).mpr (e ▸ hp.t))
        exact ⟨trivial, by omega, _, rfl⟩
    · rw [Bool.not_eq_true] at hd
      rw [hd]
      simp only [Bool.false_eq_true, if_false, x_nil]
      have : j + 1 ≠ p := fun e => by
        have h0 := hp.dvd tp_len
        rw [← e] at h0
        have : (nI ws.length % s == 0) = true := by
          rw [hi, nI_eq, ← Int.natCast_emod, h0]
          rfl
        rw [hd] at this
        cases this
      exact ⟨trivial, by omega, _, rfl⟩
  · rintro δ S' ⟨rfl, hjp, o, rfl⟩
    rw [x_seq]
    simp only [x_ret, xe_var, List.getElem?_cons_succ, List.getElem?_cons_zero, List.set_cons_succ, List.set_cons_zero, List.length_cons, List.length_nil, List.map_cons, List.map_nil, List.cons_append, List.nil_append, List.replicate, Nat.reduceAdd, Nat.zero_add, true_and]
    rw [nI_eq] at hjp
    have : ws.length = p := by omega
    rw [this]
    exact k
end
end K56
set_option Elab.async false
set_option linter.all false
set_option maxRecDepth 100000
set_option maxHeartbeats 2000000
namespace K56
open PySem L2 DL
section
variable {C : CA} {S : SS} {P : D → SS → Prop} {Pb : Bool → SS → Prop} {X : XQ}
theorem period_x {d : D} (hp : aP d = true) (x : whB d = false → ∀ l, AE C X "wheel" (S ++ l)) (k : ∀ ws p, d = wD ws → Wh ws → Per ws p → ∀ l, P (.int (nI p)) (S ++ l)) : XSat (F_period C [d] S) P X := by
  rw [sem_period]
  refine x_fn ?_
  unfold B_period
  simp only [startD, List.getElem?_cons_succ, List.getElem?_cons_zero, List.set_cons_succ, List.set_cons_zero, List.length_cons, List.length_nil, List.map_cons, List.map_nil, List.cons_append, List.nil_append, List.replicate, Nat.reduceAdd, Nat.zero_add, true_and]
  rw [x_seq, x_drop]
  simp only [xe_call, xa_cons, xa_nil, xe_var, List.getElem?_cons_succ, List.getElem?_cons_zero, List.set_cons_succ, List.set_cons_zero, List.length_cons, List.length_nil, List.map_cons, List.map_nil, List.cons_append, List.nil_append, List.replicate, Nat.reduceAdd, Nat.zero_add, true_and]
  refine wheel_x hp x fun h l => ?_
  obtain ⟨ws, rfl, hw⟩ := wh_of h
  obtain ⟨p, pp⟩ := per_ex hw.l1
  rw [x_seq]
  simp only [x_ret, xe_call, xa_cons, xa_nil, xe_var, List.getElem?_cons_succ, List.getElem?_cons_zero, List.set_cons_succ, List.set_cons_zero, List.length_cons, List.length_nil, List.map_cons, List.map_nil, List.cons_append, List.nil_append, List.replicate, Nat.reduceAdd, Nat.zero_add, true_and]
  refine (period_of_sat hw pp ?_).x
  exact k ws p rfl hw pp l
/-! strokes -/
theorem two_take {ws : List Int} {p r : Nat} (hp : p ≤ ws.length) (hr : r ≤ ws.length) : ((ws ++ ws).drop p).take r = (rot ws p).take r := by
  unfold rot
  rw [List.drop_append_of_le_length hp, List.take_append, List.take_append]
  congr 1
  rw [List.length_drop, List.take_take, Nat.min_eq_left (by omega)]
theorem so_sumW {ws : List Int} : SatO (one sumD [wD ws] S) P = P (.int ws.sum) S := by rw [wD_eq, so_sumT]
theorem Wh.sum {ws : List Int} (h : Wh ws) : 1 ≤ ws.sum ∧ ws.sum ≤ 1440 := by
  have h1 := sum_pos fun x hx => (h.c x hx).1
  have h2 := sum_le fun x hx => (h.c x hx).2
  have := h.l1
  have := h.l2
  omega
theorem nI_div {a b : Nat} : nI a / nI b = nI (a / b) := by rw [nI_eq, nI_eq, nI_eq]; rfl
theorem nI_mod {a b : Nat} : nI a % nI b = nI (a % b) := by rw [nI_eq, nI_eq, nI_eq]; rfl
theorem nI_add {a b : Nat} : nI a + nI b = nI (a + b) := by rw [nI_eq, nI_eq, nI_eq]; omega
theorem nI_one {a : Nat} : nI a + 1 = nI (a + 1) := by rw [nI_eq, nI_eq]; omega
theorem nI_pos {a : Nat} (h : 1 ≤ a) : 0 < nI a := by rw [nI_eq]; omega
theorem nI_lt {a : Nat} {n : Nat} (h : a < 2 ^ n) : (nI a).natAbs < 2 ^ n := by rw [nI_eq]; exact h
theorem strokes_of_sat {ws : List Int} {pl h : Nat} (hw : Wh ws) (hp : pl < ws.length) (hh : h < 2 ^ 60) (k : P (.int (stk ws pl h)) S) : Sat (F_strokes_of C [wD ws, .int (nI pl), .int (nI h)] S) P := by
  rw [sem_strokes_of]
  refine XSat.s (x_fn ?_)
  unfold B_strokes_of
  simp only [startD, List.getElem?_cons_succ, List.getElem?_cons_zero, List.set_cons_succ, List.set_cons_zero, List.length_cons, List.length_nil, List.map_cons, List.map_nil, List.cons_append, List.nil_append, List.replicate, Nat.reduceAdd, Nat.zero_add, true_and]
  have l1 := hw.l1
  have l2 := hw.l2
  have np := nI_pos l1
  have lt := nI_lt (a := ws.length) (n := 60) (by omega)
  have ⟨s1, s2⟩ := hw.sum
  rw [x_seq]
  simp only [x_asg1, xe_op2, xe_cb, xa_cons, xa_nil, xe_var, len_w, so_fdiv, List.getElem?_cons_succ, List.getElem?_cons_zero, List.set_cons_succ, List.set_cons_zero, List.length_cons, List.length_nil, List.map_cons, List.map_nil, List.cons_append, List.nil_append, List.replicate, Nat.reduceAdd, Nat.zero_add, true_and]
  refine ⟨divOk64 (by omega) (by omega), ?_⟩
  rw [fdiv_pos np, nI_div, x_seq]
  simp only [x_asg1, xe_op2, xe_cb, xa_cons, xa_nil, xe_var, len_w, so_mod, List.getElem?_cons_succ, List.getElem?_cons_zero, List.set_cons_succ, List.set_cons_zero, List.length_cons, List.length_nil, List.map_cons, List.map_nil, List.cons_append, List.nil_append, List.replicate, Nat.reduceAdd, Nat.zero_add, true_and]
  refine ⟨by omega, ?_⟩
  rw [fmod_pos np, nI_mod, x_seq]
  simp only [x_ret, xe_op2, xe_cb, xa_cons, xa_nil, xe_var, so_sumW, so_mul, List.getElem?_cons_succ, List.getElem?_cons_zero, List.set_cons_succ, List.set_cons_zero, List.length_cons, List.length_nil, List.map_cons, List.map_nil, List.cons_append, List.nil_append, List.replicate, Nat.reduceAdd, Nat.zero_add, true_and]
  have hq : h / ws.length < 2 ^ 60 := Nat.lt_of_le_of_lt (Nat.div_le_self _ _) hh
  have lq := nI_lt hq
  refine ⟨mulOk64 (by omega) (by omega), ?_⟩
  simp only [xe_sl, xo_some, xe_op2, xe_var, so_addW (show ws.length ≤ 100000 by omega) (show ws.length ≤ 100000 by omega), so_add, intOf, List.getElem?_cons_succ, List.getElem?_cons_zero, List.set_cons_succ, List.set_cons_zero, List.length_cons, List.length_nil, List.map_cons, List.map_nil, List.cons_append, List.nil_append, List.replicate, Nat.reduceAdd, Nat.zero_add, true_and]
  rw [sl_mid (a := pl) (b := pl + h % ws.length) nI_eq (by rw [nI_add, nI_eq]), so_sumW, so_add]
  have hm := Nat.mod_lt h (show 0 < ws.length by omega)
  rw [Nat.add_sub_cancel_left, two_take (by omega) (by omega)]
  unfold stk at k
  rw [nI_eq]
  exact k
theorem pulls_end {ws : List Int} {pl u : Nat} {Y : Sl → XQ} {Pn : Sl → SS → Prop} (hw : Wh ws) (k : ∀ p, Per ws p → P (.int (pul p pl u)) S) :
    XR (sSeq (sRet (eOp2 (binD .Mod) (eOp2 (binD .Sub) (eVar 2) (eVar 1)) (eCall (F_period_of C) 1 (aCons (eVar 0) aNil)))) sNil [some (wD ws), some (.int (nI pl)), some (.int (nI u))] S) Pn P Y := by
  obtain ⟨p, pp⟩ := per_ex hw.l1
  rw [x_seq]
  simp only [x_ret, xe_op2, xe_call, xa_cons, xa_nil, xe_var, so_sub, List.getElem?_cons_succ, List.getElem?_cons_zero, List.set_cons_succ, List.set_cons_zero, List.length_cons, List.length_nil, List.map_cons, List.map_nil, List.cons_append, List.nil_append, List.replicate, Nat.reduceAdd, Nat.zero_add, true_and]
  refine (period_of_sat hw pp ?_).x
  rw [so_mod]
  have := nI_pos pp.p1
  refine ⟨by omega, ?_⟩
  rw [fmod_pos this]
  have k := k p pp
  unfold pul at k
  rw [nI_eq, nI_eq, nI_eq]
  exact k
noncomputable def hrL (C : CA) : PSt := (sSeq (sWhile (tVal (eOp2 (cmpD .Lt) (eCall (F_strokes_of C) 3 (aCons (eVar 0) (aCons (eVar 1) (aCons (eVar 3) aNil)))) (eVar 2))) (sSeq (sAug .Add 3 (eC (.int 1))) sNil)) (sSeq (sWhile (tAnd' (tVal (eOp2 (cmpD .Gt) (eVar 3) (eC (.int 0)))) (tVal (eOp2 (cmpD .GtE) (eCall (F_strokes_of C) 3 (aCons (eVar 0) (aCons (eVar 1) (aCons (eOp2 (binD .Sub) (eVar 3) (eC (.int 1))) aNil)))) (eVar 2)))) (sSeq (sAug .Sub 3 (eC (.int 1))) sNil)) (sSeq (sRet (eVar 3)) sNil)))
noncomputable def hrT (C : CA) : PSt := (sSeq (sAsg (eOp2 (binD .Mult) (eOp2 (binD .FloorDiv) (eVar 2) (eCB (one sumD) (aCons (eVar 0) aNil))) (eCB (one lenD) (aCons (eVar 0) aNil))) (.one 3)) (hrL C))
theorem hours_loop {ws : List Int} {pl c h h0 : Nat} {Y : Sl → XQ} {Pn : Sl → SS → Prop} (hw : Wh ws) (hpl : pl < ws.length) (hh : Hr ws pl (c : Int) h) (h0h : h0 ≤ h) (hb : h < 2 ^ 60) (k : P (.int (nI h)) S) :
    XR (hrL C [some (wD ws), some (.int (nI pl)), some (.int (nI c)), some (.int (nI h0))] S) Pn P Y := by
  unfold hrL
  rw [x_seq]
  refine x_while (fun m δ S' => S' = S ∧ ∃ j, δ = [some (wD ws), some (.int (nI pl)), some (.int (nI c)), some (.int (nI j))] ∧ j ≤ h ∧ m = h - j) (fun m δ S' hI => ?_) (h - h0) _ _ ⟨rfl, h0, rfl, h0h, rfl⟩
  obtain ⟨rfl, j, rfl, hj, rfl⟩ := hI
  simp only [xt_val, xe_op2, xe_call, xa_cons, xa_nil, xe_var, List.getElem?_cons_succ, List.getElem?_cons_zero, List.set_cons_succ, List.set_cons_zero, List.length_cons, List.length_nil, List.map_cons, List.map_nil, List.cons_append, List.nil_append, List.replicate, Nat.reduceAdd, Nat.zero_add, true_and]
  refine (strokes_of_sat hw hpl (by omega) ?_).x
  simp only [so_lt, boolOf_bl]
  by_cases hlt : stk ws pl j < nI c
  · rw [decide_eq_true hlt]
    simp only [if_true]
    rw [nI_eq] at hlt
    have : j ≠ h := fun e => by
      have := hh.ge
      rw [← e] at this
      omega
    rw [x_seq, x_aug rfl]
    simp only [xe_c, so_augA, x_nil, List.getElem?_cons_succ, List.getElem?_cons_zero, List.set_cons_succ, List.set_cons_zero, List.length_cons, List.length_nil, List.map_cons, List.map_nil, List.cons_append, List.nil_append, List.replicate, Nat.reduceAdd, Nat.zero_add, true_and]
    exact ⟨h - (j + 1), by omega, j + 1, by rw [nI_one], by omega, rfl⟩
  · rw [decide_eq_false hlt]
    simp only [Bool.false_eq_true, if_false]
    rw [nI_eq] at hlt
    have e3 : j = h := by
      rcases Nat.lt_or_ge j h with c' | c'
      · have := hh.lt j c'
        omega
      · omega
    subst e3
    rw [x_seq]
    refine x_while (fun m δ S2 => S2 = S' ∧ δ = [some (wD ws), some (.int (nI pl)), some (.int (nI c)), some (.int (nI j))]) (fun m δ S2 hI => ?_) 0 _ _ ⟨rfl, rfl⟩
    obtain ⟨rfl, rfl⟩ := hI
    rw [xt_and, xt_val]
    simp only [xe_op2, xe_var, xe_c, so_gt, boolOf_bl, List.getElem?_cons_succ, List.getElem?_cons_zero, List.set_cons_succ, List.set_cons_zero, List.length_cons, List.length_nil, List.map_cons, List.map_nil, List.cons_append, List.nil_append, List.replicate, Nat.reduceAdd, Nat.zero_add, true_and]
    have fin : XR (sSeq (sRet (eVar 3)) sNil [some (wD ws), some (.int (nI pl)), some (.int (nI c)), some (.int (nI j))] S2) Pn P Y := by
      rw [x_seq]
      simp only [x_ret, xe_var, List.getElem?_cons_succ, List.getElem?_cons_zero, List.set_cons_succ, List.set_cons_zero, List.length_cons, List.length_nil, List.map_cons, List.map_nil, List.cons_append, List.nil_append, List.replicate, Nat.reduceAdd, Nat.zero_add, true_and]
      exact k
    by_cases hz : (0 : Int) < nI j
    · rw [decide_eq_true hz]
      simp only [if_true]
      rw [xt_val]
      rw [nI_eq] at hz
      have e4 : nI j - 1 = nI (j - 1) := by rw [nI_eq, nI_eq]; omega
      simp only [xe_op2, xe_call, xa_cons, xa_nil, xe_var, xe_c, so_sub, e4, List.getElem?_cons_succ, List.getElem?_cons_zero, List.set_cons_succ, List.set_cons_zero, List.length_cons, List.length_nil, List.map_cons, List.map_nil, List.cons_append, List.nil_append, List.replicate, Nat.reduceAdd, Nat.zero_add, true_and]
      refine (strokes_of_sat hw hpl (by omega) ?_).x
      have := hh.lt (j - 1) (by omega)
      have e5 : ¬ (nI c ≤ stk ws pl (j - 1)) := by rw [nI_eq]; omega
      simp only [so_ge, boolOf_bl, decide_eq_false e5, Bool.false_eq_true, if_false]
      exact fin
    · rw [decide_eq_false hz]
      simp only [Bool.false_eq_true, if_false]
      exact fin
theorem hours_end {ws : List Int} {pl c h : Nat} {Y : Sl → XQ} {Pn : Sl → SS → Prop} (hw : Wh ws) (hpl : pl < ws.length) (hc : (c : Int) ≤ 1000000000) (hh : Hr ws pl (c : Int) h) (hle : h ≤ ws.length * ((c : Int) / ws.sum).toNat + ws.length) (k : P (.int (nI h)) S) {o : Option D} :
    XR (hrT C [some (wD ws), some (.int (nI pl)), some (.int (nI c)), o] S) Pn P Y := by
  have l1 := hw.l1
  have l2 := hw.l2
  have ⟨s1, s2⟩ := hw.sum
  have hcc : ∀ x ∈ ws, 1 ≤ x := fun x hx => (hw.c x hx).1
  have hq : (((c : Int) / ws.sum).toNat : Int) = (c : Int) / ws.sum := Int.toNat_of_nonneg (Int.ediv_nonneg (by omega) (by omega))
  have hqc : (c : Int) / ws.sum ≤ c := Int.ediv_le_self _ (by omega)
  generalize ((c : Int) / ws.sum).toNat = q at *
  have hb := hr_begin (place := pl) l1 hcc hq
  have hnq : ws.length * q ≤ 60 * 1000000000 := Nat.mul_le_mul l2 (by omega)
  have h0h : ws.length * q ≤ h := by
    rcases Nat.lt_or_ge h (ws.length * q) with c' | c'
    · have := hb h c'
      have := hh.ge
      omega
    · exact c'
  unfold hrT
  rw [x_seq]
  simp only [x_asg1, xe_op2, xe_cb, xa_cons, xa_nil, xe_var, so_sumW, so_fdiv, len_w, so_mul, List.getElem?_cons_succ, List.getElem?_cons_zero, List.set_cons_succ, List.set_cons_zero, List.length_cons, List.length_nil, List.map_cons, List.map_nil, List.cons_append, List.nil_append, List.replicate, Nat.reduceAdd, Nat.zero_add, true_and]
  have lc := nI_lt (a := c) (n := 60) (by omega)
  have ln := nI_lt (a := ws.length) (n := 60) (by omega)
  refine ⟨divOk64 (by omega) (by omega), ?_⟩
  rw [fdiv_pos (by omega)]
  have e1 : nI c / ws.sum = nI q := by rw [nI_eq, nI_eq]; exact hq.symm
  rw [e1]
  refine ⟨mulOk64 (Nat.lt_trans (nI_lt (n := 60) (by omega)) (by decide)) (by omega), ?_⟩
  have e2 : nI q * nI ws.length = nI (ws.length * q) := by rw [nI_eq, nI_eq, nI_eq, Nat.mul_comm]; simp
  rw [e2]
  generalize ws.length * q = h0 at *
  exact hours_loop hw hpl hh h0h (by omega) k
section
variable {d e : D} (hd : aP d = true) (he : aP e = true) (xw : whB d = false → ∀ l, AE C X "wheel" (S ++ l)) (xp : ∀ ws, d = wD ws → Wh ws → isR e 0 (nI ws.length - 1) = false → ∀ l, AE C X "place" (S ++ l))
include hd he xw xp
theorem strokes_x {g : D} (hg : aP g = true) (xh : ∀ ws pl, d = wD ws → e = .int (nI pl) → Wh ws → pl < ws.length → isR g 0 1000000000 = false → ∀ l, AE C X "hours" (S ++ l))
    (k : ∀ ws pl h, d = wD ws → e = .int (nI pl) → g = .int (nI h) → Wh ws → pl < ws.length → h ≤ 1000000000 → ∀ l, P (.int (stk ws pl h)) (S ++ l)) : XSat (F_strokes C [d, e, g] S) P X := by
  rw [sem_strokes]
  refine x_fn ?_
  unfold B_strokes
  simp only [startD, List.getElem?_cons_succ, List.getElem?_cons_zero, List.set_cons_succ, List.set_cons_zero, List.length_cons, List.length_nil, List.map_cons, List.map_nil, List.cons_append, List.nil_append, List.replicate, Nat.reduceAdd, Nat.zero_add, true_and]
  rw [x_seq, x_drop]
  simp only [xe_call, xa_cons, xa_nil, xe_var, List.getElem?_cons_succ, List.getElem?_cons_zero, List.set_cons_succ, List.set_cons_zero, List.length_cons, List.length_nil, List.map_cons, List.map_nil, List.cons_append, List.nil_append, List.replicate, Nat.reduceAdd, Nat.zero_add, true_and]
  refine wheel_x hd xw fun h l => ?_
  obtain ⟨ws, rfl, hw⟩ := wh_of h
  rw [x_seq, x_drop]
  simp only [xe_call, xa_cons, xa_nil, xe_var, List.getElem?_cons_succ, List.getElem?_cons_zero, List.set_cons_succ, List.set_cons_zero, List.length_cons, List.length_nil, List.map_cons, List.map_nil, List.cons_append, List.nil_append, List.replicate, Nat.reduceAdd, Nat.zero_add, true_and]
  refine demand_place_x he (fun h => xp ws rfl hw h l) fun h => ?_
  obtain ⟨pl, rfl, hpl⟩ := place_of h
  rw [x_seq, x_if]
  simp only [xt_not, xt_tru, xe_call, xa_cons, xa_nil, xe_var, xe_c, List.getElem?_cons_succ, List.getElem?_cons_zero, List.set_cons_succ, List.set_cons_zero, List.length_cons, List.length_nil, List.map_cons, List.map_nil, List.cons_append, List.nil_append, List.replicate, Nat.reduceAdd, Nat.zero_add, true_and]
  refine (in_range_sat (aP_plain hg) ?_).x
  simp only [tru_bl]
  cases hr : isR g 0 1000000000 with
  | false =>
    simp only [Bool.not_false, if_true]
    try simp only [x_seq, x_nil, x_drop, x_ret, x_retN, x_if, x_asg1, x_par, x_raise, xe_var, xe_c, xe_op1, xe_op2, xe_if, xa_nil, xa_cons, xe_call, xe_cb, xe_and, xe_or, xe_chain, xt_tru, xt_val, xt_not, xt_and, xt_or, xt_if, xt_yes, xit_val, xit_on, startD, xe_tup0, xe_tup1, xe_tup2, xe_tup3, xe_tup4, xe_tup5, xe_tup6, xe_lst0, xe_lst1, xe_lst2, xe_lst3, xe_lst4, xe_lst5, xe_lst6, xe_lst7, xe_lst8, xe_lst9, xe_lst10, xe_lst11, xe_lst12, xe_lst13, xe_lst14, xe_lst15, xe_lst16, so_add, so_sub, so_mul, so_fdiv, so_mod, so_lt, so_le, so_gt, so_ge, so_neg, so_notb, so_int, so_lenT, eq_int, ne_int, tru_int, tru_bl, tru_tup, tru_non, boolOf_bl, so_ix0, so_ix1, so_ix2, eq_str, ne_str, List.getElem?_cons_succ, List.getElem?_cons_zero, List.set_cons_succ, List.set_cons_zero, List.length_cons, List.length_nil, List.map_cons, List.map_nil, List.cons_append, List.nil_append, List.replicate, Nat.reduceAdd, Nat.zero_add, true_and]
    exact xh ws pl rfl rfl hw hpl hr l
  | true =>
    obtain ⟨h, rfl, hh⟩ := num_of hr
    simp only [Bool.not_true, Bool.false_eq_true, if_false, x_nil]
    rw [x_seq]
    simp only [x_ret, xe_call, xa_cons, xa_nil, xe_var, List.getElem?_cons_succ, List.getElem?_cons_zero, List.set_cons_succ, List.set_cons_zero, List.length_cons, List.length_nil, List.map_cons, List.map_nil, List.cons_append, List.nil_append, List.replicate, Nat.reduceAdd, Nat.zero_add, true_and]
    refine (strokes_of_sat hw hpl (by omega) ?_).x
    exact k ws pl h rfl rfl rfl hw hpl (by omega) l
theorem hours_for_x {g : D} (hg : aP g = true) (xh : ∀ ws pl, d = wD ws → e = .int (nI pl) → Wh ws → pl < ws.length → isR g 0 1000000000 = false → ∀ l, AE C X "count" (S ++ l))
    (k : ∀ ws pl c h, c ≤ 1000000000 → d = wD ws → e = .int (nI pl) → g = .int (nI c) → Wh ws → pl < ws.length → Hr ws pl (c : Int) h → ∀ l, P (.int (nI h)) (S ++ l)) : XSat (F_hours_for C [d, e, g] S) P X := by
  rw [sem_hours_for]
  refine x_fn ?_
  unfold B_hours_for
  simp only [startD, List.getElem?_cons_succ, List.getElem?_cons_zero, List.set_cons_succ, List.set_cons_zero, List.length_cons, List.length_nil, List.map_cons, List.map_nil, List.cons_append, List.nil_append, List.replicate, Nat.reduceAdd, Nat.zero_add, true_and]
  rw [x_seq, x_drop]
  simp only [xe_call, xa_cons, xa_nil, xe_var, List.getElem?_cons_succ, List.getElem?_cons_zero, List.set_cons_succ, List.set_cons_zero, List.length_cons, List.length_nil, List.map_cons, List.map_nil, List.cons_append, List.nil_append, List.replicate, Nat.reduceAdd, Nat.zero_add, true_and]
  refine wheel_x hd xw fun h l => ?_
  obtain ⟨ws, rfl, hw⟩ := wh_of h
  rw [x_seq, x_drop]
  simp only [xe_call, xa_cons, xa_nil, xe_var, List.getElem?_cons_succ, List.getElem?_cons_zero, List.set_cons_succ, List.set_cons_zero, List.length_cons, List.length_nil, List.map_cons, List.map_nil, List.cons_append, List.nil_append, List.replicate, Nat.reduceAdd, Nat.zero_add, true_and]
  refine demand_place_x he (fun h => xp ws rfl hw h l) fun h => ?_
  obtain ⟨pl, rfl, hpl⟩ := place_of h
  rw [x_seq, x_if]
  simp only [xt_not, xt_tru, xe_call, xa_cons, xa_nil, xe_var, xe_c, List.getElem?_cons_succ, List.getElem?_cons_zero, List.set_cons_succ, List.set_cons_zero, List.length_cons, List.length_nil, List.map_cons, List.map_nil, List.cons_append, List.nil_append, List.replicate, Nat.reduceAdd, Nat.zero_add, true_and]
  refine (in_range_sat (aP_plain hg) ?_).x
  simp only [tru_bl]
  cases hr : isR g 0 1000000000 with
  | false =>
    simp only [Bool.not_false, if_true]
    try simp only [x_seq, x_nil, x_drop, x_ret, x_retN, x_if, x_asg1, x_par, x_raise, xe_var, xe_c, xe_op1, xe_op2, xe_if, xa_nil, xa_cons, xe_call, xe_cb, xe_and, xe_or, xe_chain, xt_tru, xt_val, xt_not, xt_and, xt_or, xt_if, xt_yes, xit_val, xit_on, startD, xe_tup0, xe_tup1, xe_tup2, xe_tup3, xe_tup4, xe_tup5, xe_tup6, xe_lst0, xe_lst1, xe_lst2, xe_lst3, xe_lst4, xe_lst5, xe_lst6, xe_lst7, xe_lst8, xe_lst9, xe_lst10, xe_lst11, xe_lst12, xe_lst13, xe_lst14, xe_lst15, xe_lst16, so_add, so_sub, so_mul, so_fdiv, so_mod, so_lt, so_le, so_gt, so_ge, so_neg, so_notb, so_int, so_lenT, eq_int, ne_int, tru_int, tru_bl, tru_tup, tru_non, boolOf_bl, so_ix0, so_ix1, so_ix2, eq_str, ne_str, List.getElem?_cons_succ, List.getElem?_cons_zero, List.set_cons_succ, List.set_cons_zero, List.length_cons, List.length_nil, List.map_cons, List.map_nil, List.cons_append, List.nil_append, List.replicate, Nat.reduceAdd, Nat.zero_add, true_and]
    exact xh ws pl rfl rfl hw hpl hr l
  | true =>
    obtain ⟨c, rfl, hc⟩ := num_of hr
    have hcc : ∀ x ∈ ws, 1 ≤ x := fun x hx => (hw.c x hx).1
    obtain ⟨h, hh, hle⟩ := hr_ex (ws := ws) (place := pl) (c := c) hw.l1 hcc
    simp only [Bool.not_true, Bool.false_eq_true, if_false, x_nil]
    exact hours_end hw hpl hc hh hle (k ws pl c h (by omega) rfl rfl rfl hw hpl hh l)
theorem pulls_x {g : D} (hg : aP g = true) (xh : ∀ ws pl, d = wD ws → e = .int (nI pl) → Wh ws → pl < ws.length → isR g 0 (nI ws.length - 1) = false → ∀ l, AE C X "due" (S ++ l))
    (k : ∀ ws pl u p, d = wD ws → e = .int (nI pl) → g = .int (nI u) → Wh ws → pl < ws.length → u < ws.length → Per ws p → ∀ l, P (.int (pul p pl u)) (S ++ l)) : XSat (F_pulls C [d, e, g] S) P X := by
  rw [sem_pulls]
  refine x_fn ?_
  unfold B_pulls
  simp only [startD, List.getElem?_cons_succ, List.getElem?_cons_zero, List.set_cons_succ, List.set_cons_zero, List.length_cons, List.length_nil, List.map_cons, List.map_nil, List.cons_append, List.nil_append, List.replicate, Nat.reduceAdd, Nat.zero_add, true_and]
  rw [x_seq, x_drop]
  simp only [xe_call, xa_cons, xa_nil, xe_var, List.getElem?_cons_succ, List.getElem?_cons_zero, List.set_cons_succ, List.set_cons_zero, List.length_cons, List.length_nil, List.map_cons, List.map_nil, List.cons_append, List.nil_append, List.replicate, Nat.reduceAdd, Nat.zero_add, true_and]
  refine wheel_x hd xw fun h l => ?_
  obtain ⟨ws, rfl, hw⟩ := wh_of h
  rw [x_seq, x_drop]
  simp only [xe_call, xa_cons, xa_nil, xe_var, List.getElem?_cons_succ, List.getElem?_cons_zero, List.set_cons_succ, List.set_cons_zero, List.length_cons, List.length_nil, List.map_cons, List.map_nil, List.cons_append, List.nil_append, List.replicate, Nat.reduceAdd, Nat.zero_add, true_and]
  refine demand_place_x he (fun h => xp ws rfl hw h l) fun h => ?_
  obtain ⟨pl, rfl, hpl⟩ := place_of h
  rw [x_seq, x_if]
  simp only [xt_not, xt_tru, xe_call, xe_op2, xe_cb, xa_cons, xa_nil, xe_var, xe_c, len_w, so_sub, List.getElem?_cons_succ, List.getElem?_cons_zero, List.set_cons_succ, List.set_cons_zero, List.length_cons, List.length_nil, List.map_cons, List.map_nil, List.cons_append, List.nil_append, List.replicate, Nat.reduceAdd, Nat.zero_add, true_and]
  refine (in_range_sat (aP_plain hg) ?_).x
  simp only [tru_bl]
  cases hr : isR g 0 (nI ws.length - 1) with
  | false =>
    simp only [Bool.not_false, if_true]
    try simp only [x_seq, x_nil, x_drop, x_ret, x_retN, x_if, x_asg1, x_par, x_raise, xe_var, xe_c, xe_op1, xe_op2, xe_if, xa_nil, xa_cons, xe_call, xe_cb, xe_and, xe_or, xe_chain, xt_tru, xt_val, xt_not, xt_and, xt_or, xt_if, xt_yes, xit_val, xit_on, startD, xe_tup0, xe_tup1, xe_tup2, xe_tup3, xe_tup4, xe_tup5, xe_tup6, xe_lst0, xe_lst1, xe_lst2, xe_lst3, xe_lst4, xe_lst5, xe_lst6, xe_lst7, xe_lst8, xe_lst9, xe_lst10, xe_lst11, xe_lst12, xe_lst13, xe_lst14, xe_lst15, xe_lst16, so_add, so_sub, so_mul, so_fdiv, so_mod, so_lt, so_le, so_gt, so_ge, so_neg, so_notb, so_int, so_lenT, eq_int, ne_int, tru_int, tru_bl, tru_tup, tru_non, boolOf_bl, so_ix0, so_ix1, so_ix2, eq_str, ne_str, List.getElem?_cons_succ, List.getElem?_cons_zero, List.set_cons_succ, List.set_cons_zero, List.length_cons, List.length_nil, List.map_cons, List.map_nil, List.cons_append, List.nil_append, List.replicate, Nat.reduceAdd, Nat.zero_add, true_and]
    exact xh ws pl rfl rfl hw hpl hr l
  | true =>
    obtain ⟨u, e, hu⟩ := place_of hr
    simp only [Bool.not_true, Bool.false_eq_true, if_false, x_nil]
    subst e
    exact pulls_end hw fun p pp => k ws pl u p rfl rfl rfl hw hpl hu pp l
end
end
end K56
set_option Elab.async false
set_option linter.all false
set_option maxRecDepth 100000
set_option maxHeartbeats 2000000
namespace K56
open PySem L2 DL
section
variable {C : CA} {S : SS} {P : D → SS → Prop} {Pb : Bool → SS → Prop} {X : XQ} {Y : Sl → XQ} {Pn : Sl → SS → Prop}
/-! the first time unlike -/
def unl (ws : List Int) (pl : Nat) (us : List Int) (sp : Nat) : Option Nat := (List.range (ws.length * us.length)).find? fun k => fw ws (pl + k) != fw us (sp + k)
def oN : Option Nat → D
  | none => .non
  | some k => .int (nI k)
theorem ix_fw {ws : List Int} {i : Nat} (h : 1 ≤ ws.length) : SatO (ixD (wD ws) (.int (nI (i % ws.length))) S) P = P (.int (fw ws i)) S := by
  rw [ix_w (n := i % ws.length) (Nat.mod_lt _ h) nI_eq]
  rfl
theorem unl_end {ws us : List Int} {pl sp : Nat} {o : Option D} (hw : Wh ws) (hu : Wh us) (k : P (oN (unl ws pl us sp)) S) :
    XR (sSeq (sFor (iOn rng1D (aCons (eOp2 (binD .Mult) (eCB (one lenD) (aCons (eVar 0) aNil)) (eCB (one lenD) (aCons (eVar 2) aNil))) aNil)) (.one 4) (sSeq (sIf (tVal (eOp2 (cmpD .NotEq) (eOp2 ixD (eVar 0) (eOp2 (binD .Mod) (eOp2 (binD .Add) (eVar 1) (eVar 4)) (eCB (one lenD) (aCons (eVar 0) aNil)))) (eOp2 ixD (eVar 2) (eOp2 (binD .Mod) (eOp2 (binD .Add) (eVar 3) (eVar 4)) (eCB (one lenD) (aCons (eVar 2) aNil)))))) (sSeq (sRet (eVar 4)) sNil) sNil) sNil)) (sSeq (sRet (eC .non)) sNil)
      [some (wD ws), some (.int (nI pl)), some (wD us), some (.int (nI sp)), o] S) Pn P Y := by
  have l1 := hw.l1
  have l2 := hw.l2
  have m1 := hu.l1
  have m2 := hu.l2
  have hm : ws.length * us.length ≤ 60 * 60 := Nat.mul_le_mul l2 m2
  have lw := nI_lt (a := ws.length) (n := 60) (by omega)
  have lu := nI_lt (a := us.length) (n := 60) (by omega)
  have pw := nI_pos l1
  have pu := nI_pos m1
  rw [x_seq]
  refine x_forR (n := ws.length * us.length) (fun j δ S' => S' = S ∧ (∀ i, i < j → (fw ws (pl + i) != fw us (sp + i)) = false) ∧ ∃ o, δ = [some (wD ws), some (.int (nI pl)), some (wD us), some (.int (nI sp)), o]) (by omega) (fun Q hQ => ?_) ⟨rfl, fun i hi => absurd hi (Nat.not_lt_zero _), o, rfl⟩ ?_ ?_
  · simp only [xa_cons, xa_nil, xe_op2, xe_cb, xe_var, len_w, so_mul, List.getElem?_cons_succ, List.getElem?_cons_zero, List.set_cons_succ, List.set_cons_zero, List.length_cons, List.length_nil, List.map_cons, List.map_nil, List.cons_append, List.nil_append, List.replicate, Nat.reduceAdd, Nat.zero_add, true_and]
    refine ⟨mulOk64 (by omega) (by omega), ?_⟩
    have e : nI ws.length * nI us.length = nI (ws.length * us.length) := by rw [nI_eq, nI_eq, nI_eq]; simp
    rw [e]
    exact hQ
  · rintro j δ S' hj ⟨rfl, hi, o, rfl⟩
    refine ⟨_, rfl, ?_⟩
    simp only [List.getElem?_cons_succ, List.getElem?_cons_zero, List.set_cons_succ, List.set_cons_zero, List.length_cons, List.length_nil, List.map_cons, List.map_nil, List.cons_append, List.nil_append, List.replicate, Nat.reduceAdd, Nat.zero_add, true_and]
    rw [x_seq, x_if, xt_val]
    simp only [xe_op2, xe_cb, xa_cons, xa_nil, xe_var, len_w, so_add, so_mod, nI_add, List.getElem?_cons_succ, List.getElem?_cons_zero, List.set_cons_succ, List.set_cons_zero, List.length_cons, List.length_nil, List.map_cons, List.map_nil, List.cons_append, List.nil_append, List.replicate, Nat.reduceAdd, Nat.zero_add, true_and]
    refine ⟨by omega, ?_⟩
    rw [fmod_pos pw, nI_mod, ix_fw l1]
    refine ⟨by omega, ?_⟩
    rw [fmod_pos pu, nI_mod, ix_fw m1, ne_int]
    simp only [boolOf_bl]
    by_cases h : (fw ws (pl + j) != fw us (sp + j)) = true
    · have h' : (!(fw ws (pl + j) == fw us (sp + j))) = true := h
      rw [if_pos h']
      try simp only [x_seq, x_nil, x_drop, x_ret, x_retN, x_if, x_asg1, x_par, x_raise, xe_var, xe_c, xe_op1, xe_op2, xe_if, xa_nil, xa_cons, xe_call, xe_cb, xe_and, xe_or, xe_chain, xt_tru, xt_val, xt_not, xt_and, xt_or, xt_if, xt_yes, xit_val, xit_on, startD, xe_tup0, xe_tup1, xe_tup2, xe_tup3, xe_tup4, xe_tup5, xe_tup6, xe_lst0, xe_lst1, xe_lst2, xe_lst3, xe_lst4, xe_lst5, xe_lst6, xe_lst7, xe_lst8, xe_lst9, xe_lst10, xe_lst11, xe_lst12, xe_lst13, xe_lst14, xe_lst15, xe_lst16, so_add, so_sub, so_mul, so_fdiv, so_mod, so_lt, so_le, so_gt, so_ge, so_neg, so_notb, so_int, so_lenT, eq_int, ne_int, tru_int, tru_bl, tru_tup, tru_non, boolOf_bl, so_ix0, so_ix1, so_ix2, eq_str, ne_str, List.getElem?_cons_succ, List.getElem?_cons_zero, List.set_cons_succ, List.set_cons_zero, List.length_cons, List.length_nil, List.map_cons, List.map_nil, List.cons_append, List.nil_append, List.replicate, Nat.reduceAdd, Nat.zero_add, true_and]
      have e : unl ws pl us sp = some j := find_range hj hi h
      rw [e] at k
      exact k
    · rw [Bool.not_eq_true] at h
      have h' : (!(fw ws (pl + j) == fw us (sp + j))) = false := h
      rw [h']
      simp only [Bool.false_eq_true, if_false, x_nil]
      refine ⟨trivial, fun i hi' => ?_, _, rfl⟩
      rcases Nat.lt_succ_iff_lt_or_eq.mp hi' with c | rfl
      · exact hi i c
      · exact h
  · rintro δ S' ⟨rfl, hi, o, rfl⟩
    have e : unl ws pl us sp = none := find_none hi
    rw [e] at k
    rw [x_seq]
    simp only [x_ret, xe_c]
    exact k
theorem first_unlike_x {d e f g : D} (hd : aP d = true) (he : aP e = true) (hf : aP f = true) (hg : aP g = true) (xw : whB d = false → ∀ l, AE C X "wheel" (S ++ l)) (xp : ∀ ws, d = wD ws → Wh ws → isR e 0 (nI ws.length - 1) = false → ∀ l, AE C X "place" (S ++ l))
    (xo : ∀ ws pl, d = wD ws → e = .int (nI pl) → Wh ws → pl < ws.length → whB f = false → ∀ l, AE C X "other" (S ++ l)) (xs : ∀ ws pl us, d = wD ws → e = .int (nI pl) → f = wD us → Wh ws → pl < ws.length → Wh us → isR g 0 (nI us.length - 1) = false → ∀ l, AE C X "spot" (S ++ l))
    (k : ∀ ws pl us sp, d = wD ws → e = .int (nI pl) → f = wD us → g = .int (nI sp) → Wh ws → pl < ws.length → Wh us → sp < us.length → ∀ l, P (oN (unl ws pl us sp)) (S ++ l)) : XSat (F_first_unlike C [d, e, f, g] S) P X := by
  rw [sem_first_unlike]
  refine x_fn ?_
  unfold B_first_unlike
  simp only [startD, List.getElem?_cons_succ, List.getElem?_cons_zero, List.set_cons_succ, List.set_cons_zero, List.length_cons, List.length_nil, List.map_cons, List.map_nil, List.cons_append, List.nil_append, List.replicate, Nat.reduceAdd, Nat.zero_add, true_and]
  rw [x_seq, x_drop]
  simp only [xe_call, xa_cons, xa_nil, xe_var, List.getElem?_cons_succ, List.getElem?_cons_zero, List.set_cons_succ, List.set_cons_zero, List.length_cons, List.length_nil, List.map_cons, List.map_nil, List.cons_append, List.nil_append, List.replicate, Nat.reduceAdd, Nat.zero_add, true_and]
  refine wheel_x hd xw fun h l => ?_
  obtain ⟨ws, rfl, hw⟩ := wh_of h
  rw [x_seq, x_drop]
  simp only [xe_call, xa_cons, xa_nil, xe_var, List.getElem?_cons_succ, List.getElem?_cons_zero, List.set_cons_succ, List.set_cons_zero, List.length_cons, List.length_nil, List.map_cons, List.map_nil, List.cons_append, List.nil_append, List.replicate, Nat.reduceAdd, Nat.zero_add, true_and]
  refine demand_place_x he (fun h => xp ws rfl hw h l) fun h => ?_
  obtain ⟨pl, rfl, hpl⟩ := place_of h
  rw [x_seq, x_drop]
  simp only [xe_call, xa_cons, xa_nil, xe_var, xe_c, List.getElem?_cons_succ, List.getElem?_cons_zero, List.set_cons_succ, List.set_cons_zero, List.length_cons, List.length_nil, List.map_cons, List.map_nil, List.cons_append, List.nil_append, List.replicate, Nat.reduceAdd, Nat.zero_add, true_and]
  refine demand_wheel_x hf (fun h l' => ?_) fun h l' => ?_
  · rw [List.append_assoc]
    exact xo ws pl rfl rfl hw hpl h _
  obtain ⟨us, rfl, hu⟩ := wh_of h
  rw [x_seq, x_if]
  simp only [xt_not, xt_tru, xe_call, xe_op2, xe_cb, xa_cons, xa_nil, xe_var, xe_c, len_w, so_sub, List.getElem?_cons_succ, List.getElem?_cons_zero, List.set_cons_succ, List.set_cons_zero, List.length_cons, List.length_nil, List.map_cons, List.map_nil, List.cons_append, List.nil_append, List.replicate, Nat.reduceAdd, Nat.zero_add, true_and]
  refine (in_range_sat (aP_plain hg) ?_).x
  simp only [tru_bl]
  cases hr : isR g 0 (nI us.length - 1) with
  | false =>
    simp only [Bool.not_false, if_true]
    try simp only [x_seq, x_nil, x_drop, x_ret, x_retN, x_if, x_asg1, x_par, x_raise, xe_var, xe_c, xe_op1, xe_op2, xe_if, xa_nil, xa_cons, xe_call, xe_cb, xe_and, xe_or, xe_chain, xt_tru, xt_val, xt_not, xt_and, xt_or, xt_if, xt_yes, xit_val, xit_on, startD, xe_tup0, xe_tup1, xe_tup2, xe_tup3, xe_tup4, xe_tup5, xe_tup6, xe_lst0, xe_lst1, xe_lst2, xe_lst3, xe_lst4, xe_lst5, xe_lst6, xe_lst7, xe_lst8, xe_lst9, xe_lst10, xe_lst11, xe_lst12, xe_lst13, xe_lst14, xe_lst15, xe_lst16, so_add, so_sub, so_mul, so_fdiv, so_mod, so_lt, so_le, so_gt, so_ge, so_neg, so_notb, so_int, so_lenT, eq_int, ne_int, tru_int, tru_bl, tru_tup, tru_non, boolOf_bl, so_ix0, so_ix1, so_ix2, eq_str, ne_str, List.getElem?_cons_succ, List.getElem?_cons_zero, List.set_cons_succ, List.set_cons_zero, List.length_cons, List.length_nil, List.map_cons, List.map_nil, List.cons_append, List.nil_append, List.replicate, Nat.reduceAdd, Nat.zero_add, true_and]
    rw [List.append_assoc]
    exact xs ws pl us rfl rfl rfl hw hpl hu hr _
  | true =>
    obtain ⟨sp, rfl, hsp⟩ := place_of hr
    simp only [Bool.not_true, Bool.false_eq_true, if_false, x_nil]
    refine unl_end hw hu ?_
    rw [List.append_assoc]
    exact k ws pl us sp rfl rfl rfl rfl hw hpl hu hsp _
/-! the wheel of notches -/
def dif (ps : List Int) : List Int := ((0 :: ps).zip ps).map fun p => p.2 - p.1
def toI : D → Int
  | .int i => i
  | _ => 0
def difB : D → Bool
  | .tup ds => (dif (ds.map toI)).all fun x => decide (1 ≤ x) && decide (x ≤ 24)
  | _ => false
def nkB (d : D) : Bool := (lenB 1 60 d && allR 1 1440 d) && difB d
theorem toI_map {ps : List Int} : (ps.map D.int).map toI = ps := by
  rw [List.map_map]
  exact List.map_id'' (fun _ => rfl) _
def gDif : D → D
  | .tup [.int a, .int b] => .int (b - a)
  | d => d
theorem zip_dif {ps : List Int} : (zipItems (.int 0 :: ps.map .int) (ps.map .int)).map gDif = (dif ps).map .int := by
  unfold zipItems dif
  have e : (D.int 0 :: ps.map D.int) = (0 :: ps).map D.int := rfl
  rw [e, List.zip_map, List.map_map, List.map_map, List.map_map]
  rfl
theorem wheel_of_x {d : D} (hp : aP d = true) (x : nkB d = false → ∀ l, AE C X "notches" (S ++ l)) (k : ∀ ps, d = wD ps → nkB d = true → ∀ l, P (wD (dif ps)) (S ++ l)) : XSat (F_wheel_of C [d] S) P X := by
  have x0 : nkB d = false → AE C X "notches" S := fun h => by
    have := x h []
    rwa [List.append_nil] at this
  rw [sem_wheel_of]
  refine x_fn ?_
  unfold B_wheel_of
  simp only [startD, List.getElem?_cons_succ, List.getElem?_cons_zero, List.set_cons_succ, List.set_cons_zero, List.length_cons, List.length_nil, List.map_cons, List.map_nil, List.cons_append, List.nil_append, List.replicate, Nat.reduceAdd, Nat.zero_add, true_and]
  rw [x_seq, x_if]
  refine xt_len hp rfl ?_
  cases h1 : lenB 1 60 d with
  | false =>
    simp only [Bool.not_false, if_true]
    try simp only [x_seq, x_nil, x_drop, x_ret, x_retN, x_if, x_asg1, x_par, x_raise, xe_var, xe_c, xe_op1, xe_op2, xe_if, xa_nil, xa_cons, xe_call, xe_cb, xe_and, xe_or, xe_chain, xt_tru, xt_val, xt_not, xt_and, xt_or, xt_if, xt_yes, xit_val, xit_on, startD, xe_tup0, xe_tup1, xe_tup2, xe_tup3, xe_tup4, xe_tup5, xe_tup6, xe_lst0, xe_lst1, xe_lst2, xe_lst3, xe_lst4, xe_lst5, xe_lst6, xe_lst7, xe_lst8, xe_lst9, xe_lst10, xe_lst11, xe_lst12, xe_lst13, xe_lst14, xe_lst15, xe_lst16, so_add, so_sub, so_mul, so_fdiv, so_mod, so_lt, so_le, so_gt, so_ge, so_neg, so_notb, so_int, so_lenT, eq_int, ne_int, tru_int, tru_bl, tru_tup, tru_non, boolOf_bl, so_ix0, so_ix1, so_ix2, eq_str, ne_str, List.getElem?_cons_succ, List.getElem?_cons_zero, List.set_cons_succ, List.set_cons_zero, List.length_cons, List.length_nil, List.map_cons, List.map_nil, List.cons_append, List.nil_append, List.replicate, Nat.reduceAdd, Nat.zero_add, true_and]
    exact x0 (by unfold nkB; rw [h1]; rfl)
  | true =>
    simp only [Bool.not_true, Bool.false_eq_true, if_false, x_nil]
    obtain ⟨ds, rfl, l1, l2⟩ := lenB_tup h1
    obtain ⟨hl, ha⟩ := aP_tup hp
    rw [x_seq, x_if]
    have all : ∀ Pb : Bool → SS → Prop, (∀ l, Pb (!ds.all fun d => isR d 1 1440) (S ++ l)) → XSat (tNot' (tTru (eCB (one allD) (aCons (eLc (iVal (eVar 0)) (.one 4) [4] tYes' (eCall (F_in_range C) 3 (aCons (eVar 4) (aCons (eC (.int 1)) (aCons (eOp2 (binD .Mult) (eC (.int 60)) (eC (.int 24))) aNil))))) aNil))) [some (.tup ds), none, none, none, none, none] S) Pb X := fun Pb k => by
      rw [xt_not, xt_tru]
      refine xc_all (items := ds) (f := fun d => isR d 1 1440) (hit_tup rfl) (fun z hz => ⟨_, rfl, fun S' Q kk => ?_⟩) hl fun l => ?_
      · simp only [wipeD, xe_call, xa_cons, xa_nil, xe_var, xe_c, xe_op2, so_mul, List.getElem?_cons_succ, List.getElem?_cons_zero, List.set_cons_succ, List.set_cons_zero, List.length_cons, List.length_nil, List.map_cons, List.map_nil, List.cons_append, List.nil_append, List.replicate, Nat.reduceAdd, Nat.zero_add, true_and]
        refine ⟨mulOk64 (by decide) (by decide), ?_⟩
        refine (in_range_sat (aP_plain (ha z hz)) ?_).x
        have := kk []
        rwa [List.append_nil] at this
      · simp only [tru_bl]
        exact k l
    refine all _ fun l => ?_
    cases h2 : ds.all fun d => isR d 1 1440 with
    | false =>
      simp only [Bool.not_false, if_true]
      try simp only [x_seq, x_nil, x_drop, x_ret, x_retN, x_if, x_asg1, x_par, x_raise, xe_var, xe_c, xe_op1, xe_op2, xe_if, xa_nil, xa_cons, xe_call, xe_cb, xe_and, xe_or, xe_chain, xt_tru, xt_val, xt_not, xt_and, xt_or, xt_if, xt_yes, xit_val, xit_on, startD, xe_tup0, xe_tup1, xe_tup2, xe_tup3, xe_tup4, xe_tup5, xe_tup6, xe_lst0, xe_lst1, xe_lst2, xe_lst3, xe_lst4, xe_lst5, xe_lst6, xe_lst7, xe_lst8, xe_lst9, xe_lst10, xe_lst11, xe_lst12, xe_lst13, xe_lst14, xe_lst15, xe_lst16, so_add, so_sub, so_mul, so_fdiv, so_mod, so_lt, so_le, so_gt, so_ge, so_neg, so_notb, so_int, so_lenT, eq_int, ne_int, tru_int, tru_bl, tru_tup, tru_non, boolOf_bl, so_ix0, so_ix1, so_ix2, eq_str, ne_str, List.getElem?_cons_succ, List.getElem?_cons_zero, List.set_cons_succ, List.set_cons_zero, List.length_cons, List.length_nil, List.map_cons, List.map_nil, List.cons_append, List.nil_append, List.replicate, Nat.reduceAdd, Nat.zero_add, true_and]
      refine x ?_ l
      unfold nkB
      rw [show allR 1 1440 (.tup ds) = ds.all fun d => isR d 1 1440 from rfl, h2, Bool.and_false]
      rfl
    | true =>
      obtain ⟨ps, rfl, hps⟩ := allR_ints h2
      have en : nkB (.tup (ps.map .int)) = (dif ps).all fun x => decide (1 ≤ x) && decide (x ≤ 24) := by
        unfold nkB
        rw [h1, show allR 1 1440 (.tup (ps.map .int)) = (ps.map D.int).all fun d => isR d 1 1440 from rfl, h2]
        show ((dif ((ps.map D.int).map toI)).all _) = _
        rw [toI_map]
      rw [List.length_map] at l1 l2 hl
      simp only [Bool.not_true, Bool.false_eq_true, if_false, x_nil]
      rw [x_seq, x_asg1]
      refine Sat.x (lc_map (items := zipItems (.int 0 :: ps.map .int) (ps.map .int)) (g := gDif) ?_ (fun z hz => ?_) (by simp [zipItems]; omega) fun l' => ?_)
      · refine XSat.s ?_
        simp only [xit_on, xa_cons, xa_nil, xe_op2, xe_tup1, xe_c, xe_var, List.getElem?_cons_succ, List.getElem?_cons_zero, List.set_cons_succ, List.set_cons_zero, List.length_cons, List.length_nil, List.map_cons, List.map_nil, List.cons_append, List.nil_append, List.replicate, Nat.reduceAdd, Nat.zero_add, true_and]
        rw [so_addT (by simp; omega)]
        refine ⟨fun l => trivial, ?_⟩
        first
          | exact ⟨rfl, rfl⟩
          | trivial
      · unfold zipItems at hz
        rw [List.mem_map] at hz
        obtain ⟨⟨a, b⟩, hab, rfl⟩ := hz
        have ea : ∃ i, a = .int i := by
          have := (List.of_mem_zip hab).1
          rcases List.mem_cons.mp this with rfl | h
          · exact ⟨0, rfl⟩
          · obtain ⟨i, _, rfl⟩ := List.mem_map.mp h
            exact ⟨i, rfl⟩
        have eb : ∃ i, b = .int i := by
          obtain ⟨i, _, rfl⟩ := List.mem_map.mp (List.of_mem_zip hab).2
          exact ⟨i, rfl⟩
        obtain ⟨i, rfl⟩ := ea
        obtain ⟨j, rfl⟩ := eb
        refine ⟨_, rfl, fun S' Q kk => XSat.s ?_⟩
        simp only [wipeD, setsD, xe_op2, xe_var, so_sub, List.getElem?_cons_succ, List.getElem?_cons_zero, List.set_cons_succ, List.set_cons_zero, List.length_cons, List.length_nil, List.map_cons, List.map_nil, List.cons_append, List.nil_append, List.replicate, Nat.reduceAdd, Nat.zero_add, true_and]
        have := kk []
        rwa [List.append_nil] at this
      · rw [zip_dif]
        have hdl : (dif ps).length ≤ 60 := by
          unfold dif
          simp
          omega
        have hg : (S ++ l ++ MO.lst ((dif ps).map .int) :: l')[(S ++ l).length]? = some (.lst ((dif ps).map .int)) := get_mid
        generalize hS : S ++ l ++ MO.lst ((dif ps).map .int) :: l' = S2 at *
        have hS2 : ∃ l2, S2 = S ++ l2 := ⟨l ++ MO.lst ((dif ps).map .int) :: l', by rw [← hS, List.append_assoc]⟩
        rw [x_seq, x_if, xt_not, xt_tru]
        refine xc_all (items := (dif ps).map .int) (f := fun z => decide (1 ≤ toI z) && decide (toI z ≤ 24)) (hit_ref rfl hg) (fun z hz => ⟨_, rfl, fun S' Q kk => ?_⟩) (by rw [List.length_map]; omega) fun l3 => ?_
        · obtain ⟨i, _, rfl⟩ := List.mem_map.mp hz
          have kk := kk []
          rw [List.append_nil] at kk
          simp only [wipeD, xe_chain, xe_var, xe_c, so_le, boolOf_bl, List.getElem?_cons_succ, List.getElem?_cons_zero, List.set_cons_succ, List.set_cons_zero, List.length_cons, List.length_nil, List.map_cons, List.map_nil, List.cons_append, List.nil_append, List.replicate, Nat.reduceAdd, Nat.zero_add, true_and]
          have kk : Q (.bl (decide (1 ≤ i) && decide (i ≤ 24))) S' := kk
          by_cases h : 1 ≤ i
          · rw [decide_eq_true h] at kk ⊢
            exact kk
          · rw [decide_eq_false h] at kk ⊢
            exact kk
        · simp only [tru_bl]
          have e3 : (((dif ps).map D.int).all fun z => decide (1 ≤ toI z) && decide (toI z ≤ 24)) = (dif ps).all fun x => decide (1 ≤ x) && decide (x ≤ 24) := by
            rw [List.all_map]
            rfl
          rw [e3]
          obtain ⟨l2', rfl⟩ := hS2
          cases h4 : (dif ps).all fun x => decide (1 ≤ x) && decide (x ≤ 24) with
          | false =>
            simp only [Bool.not_false, if_true]
            try simp only [x_seq, x_nil, x_drop, x_ret, x_retN, x_if, x_asg1, x_par, x_raise, xe_var, xe_c, xe_op1, xe_op2, xe_if, xa_nil, xa_cons, xe_call, xe_cb, xe_and, xe_or, xe_chain, xt_tru, xt_val, xt_not, xt_and, xt_or, xt_if, xt_yes, xit_val, xit_on, startD, xe_tup0, xe_tup1, xe_tup2, xe_tup3, xe_tup4, xe_tup5, xe_tup6, xe_lst0, xe_lst1, xe_lst2, xe_lst3, xe_lst4, xe_lst5, xe_lst6, xe_lst7, xe_lst8, xe_lst9, xe_lst10, xe_lst11, xe_lst12, xe_lst13, xe_lst14, xe_lst15, xe_lst16, so_add, so_sub, so_mul, so_fdiv, so_mod, so_lt, so_le, so_gt, so_ge, so_neg, so_notb, so_int, so_lenT, eq_int, ne_int, tru_int, tru_bl, tru_tup, tru_non, boolOf_bl, so_ix0, so_ix1, so_ix2, eq_str, ne_str, List.getElem?_cons_succ, List.getElem?_cons_zero, List.set_cons_succ, List.set_cons_zero, List.length_cons, List.length_nil, List.map_cons, List.map_nil, List.cons_append, List.nil_append, List.replicate, Nat.reduceAdd, Nat.zero_add, true_and]
            rw [List.append_assoc]
            exact x (en.trans h4) _
          | true =>
            simp only [Bool.not_true, Bool.false_eq_true, if_false, x_nil]
            rw [x_seq]
            simp only [x_ret, xe_cb, xa_cons, xa_nil, xe_var, List.getElem?_cons_succ, List.getElem?_cons_zero, List.set_cons_succ, List.set_cons_zero, List.length_cons, List.length_nil, List.map_cons, List.map_nil, List.cons_append, List.nil_append, List.replicate, Nat.reduceAdd, Nat.zero_add, true_and]
            rw [so_tupL (get_app hg), ← wD_eq, List.append_assoc]
            exact k ps wD_eq.symm (en.trans h4) _
end
end K56
set_option Elab.async false
set_option linter.all false
set_option maxRecDepth 100000
set_option maxHeartbeats 2000000
namespace K56
open PySem L2 DL
section
variable {C : CA} {S : SS} {P : D → SS → Prop} {Pb : Bool → SS → Prop} {X : XQ} {Y : Sl → XQ} {Pn : Sl → SS → Prop}
/-! deeds -/
inductive Dd where
  | hour | stuck | pull
  deriving DecidableEq
def dS : Dd → Str
  | .hour => "hour"
  | .stuck => "stuck"
  | .pull => "pull"
def dD (g : Dd) : D := .str (dS g)
@[irreducible] def dsD (gs : List Dd) : D := .tup (gs.map dD)
theorem dsD_eq {gs : List Dd} : dsD gs = .tup (gs.map dD) := by unfold dsD; rfl
def okD : D → Bool
  | .str x => decide (x = ("hour" : Str)) || (decide (x = ("stuck" : Str)) || decide (x = ("pull" : Str)))
  | _ => false
theorem okD_of {d : D} (h : okD d = true) : ∃ g, d = dD g := by
  unfold okD at h
  split at h
  · rw [Bool.or_eq_true, Bool.or_eq_true, decide_eq_true_eq, decide_eq_true_eq, decide_eq_true_eq] at h
    rcases h with rfl | rfl | rfl
    · exact ⟨.hour, rfl⟩
    · exact ⟨.stuck, rfl⟩
    · exact ⟨.pull, rfl⟩
  · cases h
theorem okD_dD (g : Dd) : okD (dD g) = true := by cases g <;> decide +kernel
theorem notIn_deeds {x : Str} : SatO (cmpD .NotIn (.str x) (.tup [.str "hour", .str "stuck", .str "pull"]) S) P = P (.bl (!okD (.str x))) S := by
  show SatO (if True ∧ True then some (D.bl (!([D.str "hour", .str "stuck", .str "pull"].any fun y => eqF y (.str x))), S) else none) P = _
  rw [if_pos ⟨trivial, trivial⟩]
  show P (.bl (!(decide (("hour" : Str) = x) || (decide (("stuck" : Str) = x) || (decide (("pull" : Str) = x) || false))))) S = P (.bl (!(decide (x = ("hour" : Str)) || (decide (x = ("stuck" : Str)) || decide (x = ("pull" : Str)))))) S
  rw [Bool.or_false]
  congr 4
  · exact decide_eq_decide.mpr eq_comm
  · congr 1
    · exact decide_eq_decide.mpr eq_comm
    · exact decide_eq_decide.mpr eq_comm
/-- the test of a deed -/
theorem deed_test {δ : Sl} {i : Nat} {d : D} {a : PEx} (hp : aP d = true) (ha : ∀ Q : D → SS → Prop, Q d S → XSat (a δ S) Q X) (hc : ∀ Q : D → SS → Prop, Q (.tup [.str "hour", .str "stuck", .str "pull"]) S → XSat ((if i = 0 then eC (.tup [.str "hour", .str "stuck", .str "pull"]) else eTup (aCons (eC (.str "hour")) (aCons (eC (.str "stuck")) (aCons (eC (.str "pull")) aNil)))) δ S) Q X) (k : Pb (!okD d) S) :
    XSat (tOr' (tNot' (tTru (eCB isiD (aCons a (aCons (eC (.ty "str")) aNil))))) (tVal (eOp2 (cmpD .NotIn) a (if i = 0 then eC (.tup [.str "hour", .str "stuck", .str "pull"]) else eTup (aCons (eC (.str "hour")) (aCons (eC (.str "stuck")) (aCons (eC (.str "pull")) aNil)))))) δ S) Pb X := by
  rw [xt_or, xt_not, xt_tru]
  simp only [xe_cb, xa_cons, xa_nil]
  refine ha _ ?_
  simp only [xe_c]
  rw [isi_strB hp]
  simp only [tru_bl]
  cases d with
  | str x =>
    simp only [isStrD, Bool.not_true, Bool.false_eq_true, if_false]
    rw [xt_val, xe_op2]
    refine ha _ (hc _ ?_)
    rw [notIn_deeds]
    simp only [boolOf_bl]
    exact k
  | _ => first | (cases hp; done) | exact k
theorem deed_testA {δ : Sl} {d : D} {a : PEx} (hp : aP d = true) (ha : ∀ Q : D → SS → Prop, Q d S → XSat (a δ S) Q X) (k : Pb (!okD d) S) :
    XSat (tOr' (tNot' (tTru (eCB isiD (aCons a (aCons (eC (.ty "str")) aNil))))) (tVal (eOp2 (cmpD .NotIn) a (eC (.tup [.str "hour", .str "stuck", .str "pull"])))) δ S) Pb X :=
  deed_test (i := 0) hp ha (fun Q h => by simp only [if_true, xe_c]; exact h) k
theorem deed_testB {δ : Sl} {d : D} {a : PEx} (hp : aP d = true) (ha : ∀ Q : D → SS → Prop, Q d S → XSat (a δ S) Q X) (k : Pb (!okD d) S) :
    XSat (tOr' (tNot' (tTru (eCB isiD (aCons a (aCons (eC (.ty "str")) aNil))))) (tVal (eOp2 (cmpD .NotIn) a (eTup (aCons (eC (.str "hour")) (aCons (eC (.str "stuck")) (aCons (eC (.str "pull")) aNil)))))) δ S) Pb X :=
  deed_test (i := 1) hp ha (fun Q h => by rw [if_neg (by decide)]; simp only [xe_tup3, xe_c]; exact h) k
theorem all_ok {ds : List D} (h : ∀ (i : Nat) (d : D), ds[i]? = some d → okD d = true) : ∃ gs : List Dd, ds = gs.map dD := by
  induction ds with
  | nil => exact ⟨[], rfl⟩
  | cons d ds ih =>
    obtain ⟨g, rfl⟩ := okD_of (h 0 d rfl)
    obtain ⟨gs, rfl⟩ := ih fun i d hd => h (i + 1) d hd
    exact ⟨g :: gs, rfl⟩
/-- the first that is no deed -/
def Bad (ds : List D) (j : Nat) : Prop := ∃ d, ds[j]? = some d ∧ okD d = false ∧ ∀ (i : Nat) (d : D), i < j → ds[i]? = some d → okD d = true
theorem Bad.uniq {ds : List D} {i j : Nat} (h : Bad ds i) (h' : Bad ds j) : i = j := by
  obtain ⟨d, a1, a2, a3⟩ := h
  obtain ⟨e, b1, b2, b3⟩ := h'
  rcases Nat.lt_trichotomy i j with c | c | c
  · rw [b3 i d c a1] at a2
    cases a2
  · exact c
  · rw [a3 j e c b1] at b2
    cases b2
theorem demand_deeds_x {d : D} (hp : aP d = true) (x1 : lenB 0 400 d = false → ∀ l, AE C X "deeds" (S ++ l)) (x2 : ∀ ds j, d = .tup ds → Bad ds j → ∀ l, LE' C X (nI j) (S ++ l)) (k : ∀ gs, d = dsD gs → gs.length ≤ 400 → ∀ l, P .non (S ++ l)) : XSat (F_demand_deeds C [d] S) P X := by
  have nil : ∀ {Q : SS → Prop}, (∀ l, Q (S ++ l)) → Q S := fun h => by
    have := h []
    rwa [List.append_nil] at this
  rw [sem_demand_deeds]
  refine x_fn ?_
  unfold B_demand_deeds
  simp only [startD, List.getElem?_cons_succ, List.getElem?_cons_zero, List.set_cons_succ, List.set_cons_zero, List.length_cons, List.length_nil, List.map_cons, List.map_nil, List.cons_append, List.nil_append, List.replicate, Nat.reduceAdd, Nat.zero_add, true_and]
  rw [x_seq, x_if]
  refine xt_lenGt hp rfl ?_
  cases h1 : lenB 0 400 d with
  | false =>
    simp only [Bool.not_false, if_true]
    try simp only [x_seq, x_nil, x_drop, x_ret, x_retN, x_if, x_asg1, x_par, x_raise, xe_var, xe_c, xe_op1, xe_op2, xe_if, xa_nil, xa_cons, xe_call, xe_cb, xe_and, xe_or, xe_chain, xt_tru, xt_val, xt_not, xt_and, xt_or, xt_if, xt_yes, xit_val, xit_on, startD, xe_tup0, xe_tup1, xe_tup2, xe_tup3, xe_tup4, xe_tup5, xe_tup6, xe_lst0, xe_lst1, xe_lst2, xe_lst3, xe_lst4, xe_lst5, xe_lst6, xe_lst7, xe_lst8, xe_lst9, xe_lst10, xe_lst11, xe_lst12, xe_lst13, xe_lst14, xe_lst15, xe_lst16, so_add, so_sub, so_mul, so_fdiv, so_mod, so_lt, so_le, so_gt, so_ge, so_neg, so_notb, so_int, so_lenT, eq_int, ne_int, tru_int, tru_bl, tru_tup, tru_non, boolOf_bl, so_ix0, so_ix1, so_ix2, eq_str, ne_str, List.getElem?_cons_succ, List.getElem?_cons_zero, List.set_cons_succ, List.set_cons_zero, List.length_cons, List.length_nil, List.map_cons, List.map_nil, List.cons_append, List.nil_append, List.replicate, Nat.reduceAdd, Nat.zero_add, true_and]
    exact nil (x1 h1)
  | true =>
    simp only [Bool.not_true, Bool.false_eq_true, if_false, x_nil]
    obtain ⟨ds, rfl, l1, l2⟩ := lenB_tup h1
    obtain ⟨hl, ha⟩ := aP_tup hp
    rw [x_seq]
    refine x_forE (ds := ds) (fun j δ S' => S' = S ∧ (∀ (i : Nat) (d : D), i < j → ds[i]? = some d → okD d = true) ∧ ∃ o1 o2, δ = [some (.tup ds), o1, o2]) rfl ⟨rfl, fun i d hi => absurd hi (Nat.not_lt_zero _), none, none, rfl⟩ ?_ ?_
    · rintro j d δ S' hj ⟨rfl, hi, o1, o2, rfl⟩
      refine ⟨_, rfl, ?_⟩
      simp only [setsD, List.getElem?_cons_succ, List.getElem?_cons_zero, List.set_cons_succ, List.set_cons_zero, List.length_cons, List.length_nil, List.map_cons, List.map_nil, List.cons_append, List.nil_append, List.replicate, Nat.reduceAdd, Nat.zero_add, true_and]
      rw [x_seq, x_if]
      refine deed_testA (d := d) (ha d (List.mem_of_getElem? hj)) (fun Q h => by simp only [xe_var, List.getElem?_cons_succ, List.getElem?_cons_zero, List.set_cons_succ, List.set_cons_zero, List.length_cons, List.length_nil, List.map_cons, List.map_nil, List.cons_append, List.nil_append, List.replicate, Nat.reduceAdd, Nat.zero_add, true_and]; exact h) ?_
      cases hk : okD d with
      | false =>
        simp only [Bool.not_false, if_true]
        try simp only [x_seq, x_nil, x_drop, x_ret, x_retN, x_if, x_asg1, x_par, x_raise, xe_var, xe_c, xe_op1, xe_op2, xe_if, xa_nil, xa_cons, xe_call, xe_cb, xe_and, xe_or, xe_chain, xt_tru, xt_val, xt_not, xt_and, xt_or, xt_if, xt_yes, xit_val, xit_on, startD, xe_tup0, xe_tup1, xe_tup2, xe_tup3, xe_tup4, xe_tup5, xe_tup6, xe_lst0, xe_lst1, xe_lst2, xe_lst3, xe_lst4, xe_lst5, xe_lst6, xe_lst7, xe_lst8, xe_lst9, xe_lst10, xe_lst11, xe_lst12, xe_lst13, xe_lst14, xe_lst15, xe_lst16, so_add, so_sub, so_mul, so_fdiv, so_mod, so_lt, so_le, so_gt, so_ge, so_neg, so_notb, so_int, so_lenT, eq_int, ne_int, tru_int, tru_bl, tru_tup, tru_non, boolOf_bl, so_ix0, so_ix1, so_ix2, eq_str, ne_str, List.getElem?_cons_succ, List.getElem?_cons_zero, List.set_cons_succ, List.set_cons_zero, List.length_cons, List.length_nil, List.map_cons, List.map_nil, List.cons_append, List.nil_append, List.replicate, Nat.reduceAdd, Nat.zero_add, true_and]
        exact nil (x2 ds j rfl ⟨d, hj, hk, hi⟩)
      | true =>
        simp only [Bool.not_true, Bool.false_eq_true, if_false, x_nil]
        refine ⟨trivial, fun i e hij he => ?_, _, _, rfl⟩
        rcases Nat.lt_succ_iff_lt_or_eq.mp hij with c | rfl
        · exact hi i e c he
        · rw [hj] at he
          cases he
          exact hk
    · rintro δ S' ⟨rfl, hi, o1, o2, rfl⟩
      rw [x_nil]
      obtain ⟨gs, rfl⟩ := all_ok fun i d hd => hi i d (List.getElem?_eq_some_iff.mp hd).1 hd
      rw [List.length_map] at l2
      exact nil (k gs dsD_eq.symm (by omega))
/-! what is played -/
structure Rs where
  pl : Nat
  hr : Nat
  hd : List Int
  wr : List Int
def stp (ws : List Int) (r : Rs) (g : Dd) : Rs where
  pl := if g = .stuck then r.pl else (r.pl + 1) % ws.length
  hr := if g = .pull then r.hr else r.hr + 1
  hd := r.hd ++ [if g = .stuck then 0 else ws.getD r.pl 0]
  wr := if g = .pull then r.wr else if (if g = .stuck then 0 else ws.getD r.pl 0) = ws.getD (r.hr % ws.length) 0 then r.wr else r.wr ++ [nI r.hd.length]
def run (ws : List Int) (gs : List Dd) : Rs := gs.foldl (stp ws) ⟨0, 0, [], []⟩
theorem run_step {ws : List Int} {gs : List Dd} {j : Nat} {g : Dd} (h : gs[j]? = some g) : run ws (gs.take (j + 1)) = stp ws (run ws (gs.take j)) g := by
  unfold run
  rw [List.take_add_one, h, List.foldl_append]
  rfl
theorem run_hd {ws : List Int} {gs : List Dd} : (run ws gs).hd.length = gs.length := by
  have key : ∀ (gs : List Dd) (r : Rs), ((gs.foldl (stp ws) r).hd.length) = r.hd.length + gs.length := by
    intro gs
    induction gs with
    | nil => intro r; rfl
    | cons g gs ih =>
      intro r
      rw [List.foldl_cons, ih]
      show (r.hd ++ [_]).length + gs.length = _
      simp
      omega
  unfold run
  rw [key]
  simp
theorem run_pl {ws : List Int} (hn : 1 ≤ ws.length) {gs : List Dd} : (run ws gs).pl < ws.length := by
  have key : ∀ (gs : List Dd) (r : Rs), r.pl < ws.length → (gs.foldl (stp ws) r).pl < ws.length := by
    intro gs
    induction gs with
    | nil => exact fun r h => h
    | cons g gs ih =>
      intro r h
      rw [List.foldl_cons]
      refine ih _ ?_
      show (if g = .stuck then r.pl else (r.pl + 1) % ws.length) < _
      split
      · exact h
      · exact Nat.mod_lt _ hn
  exact key gs _ hn
theorem run_pre {ws : List Int} {gs : List Dd} : ∀ r, r.hd <+: (gs.foldl (stp ws) r).hd := by
  induction gs with
  | nil => exact fun r => List.prefix_refl _
  | cons g gs ih =>
    intro r
    rw [List.foldl_cons]
    exact (show r.hd <+: (stp ws r g).hd from List.prefix_append _ _).trans (ih _)
/-- what was heard at a deed -/
theorem run_at {ws : List Int} {gs : List Dd} {j : Nat} {g : Dd} (h : gs[j]? = some g) : (run ws gs).hd[j]? = some (if g = .stuck then 0 else ws.getD (run ws (gs.take j)).pl 0) := by
  have hp : (run ws (gs.take (j + 1))).hd <+: (run ws gs).hd := by
    have e : run ws gs = (gs.drop (j + 1)).foldl (stp ws) (run ws (gs.take (j + 1))) := by
      unfold run
      rw [← List.foldl_append, List.take_append_drop]
    rw [e]
    exact run_pre _
  rw [run_step h] at hp
  refine prefix_get hp ?_
  have hl : (run ws (gs.take j)).hd.length = j := by
    rw [run_hd, List.length_take]
    have := (List.getElem?_eq_some_iff.mp h).1
    omega
  show ((run ws (gs.take j)).hd ++ [_])[j]? = _
  rw [List.getElem?_append_right (by omega), hl, Nat.sub_self]
  rfl
theorem run_hr {ws : List Int} {gs : List Dd} : (run ws gs).hr ≤ gs.length := by
  have key : ∀ (gs : List Dd) (r : Rs), (gs.foldl (stp ws) r).hr ≤ r.hr + gs.length := by
    intro gs
    induction gs with
    | nil => exact fun r => Nat.le_refl _
    | cons g gs ih =>
      intro r
      rw [List.foldl_cons]
      refine Nat.le_trans (ih _) ?_
      show (if g = .pull then r.hr else r.hr + 1) + gs.length ≤ _
      rw [List.length_cons]
      split <;> omega
  refine Nat.le_trans (key gs ⟨0, 0, [], []⟩) ?_
  show 0 + gs.length ≤ _
  omega
theorem eq_dD {g : Dd} {x : Str} : SatO (cmpD .Eq (dD g) (.str x) S) P = P (.bl (decide (dS g = x))) S := eq_str
theorem ne_dD {g : Dd} {x : Str} : SatO (cmpD .NotEq (dD g) (.str x) S) P = P (.bl (!decide (dS g = x))) S := ne_str
theorem dS_stuck {g : Dd} : decide (dS g = ("stuck" : Str)) = decide (g = .stuck) := by cases g <;> decide +kernel
theorem dS_pull {g : Dd} : decide (dS g = ("pull" : Str)) = decide (g = .pull) := by cases g <;> decide +kernel
theorem hit_ds {δ : Sl} {i : Nat} {gs : List Dd} (h : δ[i]? = some (some (dsD gs))) : δ[i]? = some (some (.tup (gs.map dD))) := by rw [h, dsD_eq]
theorem get_dD {gs : List Dd} {j : Nat} {d : D} (h : (gs.map dD)[j]? = some d) : ∃ g, gs[j]? = some g ∧ d = dD g := by
  rw [List.getElem?_map, Option.map_eq_some_iff] at h
  obtain ⟨g, h1, rfl⟩ := h
  exact ⟨g, h1, rfl⟩
theorem played_sat {ws : List Int} {gs : List Dd} (hw : Wh ws) (hg : gs.length ≤ 400) (k : P (.tup [.int (nI (run ws gs).pl), .int (nI (run ws gs).hr), .ref S.length]) (S ++ [.lst ((run ws gs).hd.map .int)])) : Sat (F_played C [wD ws, dsD gs] S) P := by
  rw [sem_played]
  refine XSat.s (x_fn ?_)
  unfold B_played
  simp only [startD, List.getElem?_cons_succ, List.getElem?_cons_zero, List.set_cons_succ, List.set_cons_zero, List.length_cons, List.length_nil, List.map_cons, List.map_nil, List.cons_append, List.nil_append, List.replicate, Nat.reduceAdd, Nat.zero_add, true_and]
  have l1 := hw.l1
  have l2 := hw.l2
  have pw := nI_pos l1
  rw [x_seq, x_asgN]
  simp only [xe_tup2, xe_c, bind_many2, List.getElem?_cons_succ, List.getElem?_cons_zero, List.set_cons_succ, List.set_cons_zero, List.length_cons, List.length_nil, List.map_cons, List.map_nil, List.cons_append, List.nil_append, List.replicate, Nat.reduceAdd, Nat.zero_add, true_and]
  rw [x_seq]
  simp only [x_asg1, xe_lst0, List.getElem?_cons_succ, List.getElem?_cons_zero, List.set_cons_succ, List.set_cons_zero, List.length_cons, List.length_nil, List.map_cons, List.map_nil, List.cons_append, List.nil_append, List.replicate, Nat.reduceAdd, Nat.zero_add, true_and]
  rw [x_seq]
  refine x_forT (ds := gs.map dD) (fun j δ S' => ∃ o, δ = [some (wD ws), some (dsD gs), some (.ref S.length), o, some (.int (nI (run ws (gs.take j)).pl)), some (.int (nI (run ws (gs.take j)).hr))] ∧ S' = S ++ [.lst ((run ws (gs.take j)).hd.map .int)]) (hit_ds rfl) ⟨none, ?_, rfl⟩ ?_ ?_
  · have : nI 0 = 0 := by rw [nI_eq]; rfl
    show _ = [_, _, _, _, some (D.int (nI 0)), some (D.int (nI 0))]
    rw [this]
  · rintro j d δ S' hj ⟨o, rfl, rfl⟩
    obtain ⟨g, hj', rfl⟩ := get_dD hj
    have hjl := (List.getElem?_eq_some_iff.mp hj').1
    have hst := run_step (ws := ws) hj'
    have hpl := run_pl l1 (gs := gs.take j)
    have hhd := run_hd (ws := ws) (gs := gs.take j)
    rw [List.length_take] at hhd
    refine ⟨_, rfl, ?_⟩
    rw [hst]
    generalize run ws (gs.take j) = r at *
    simp only [List.getElem?_cons_succ, List.getElem?_cons_zero, List.set_cons_succ, List.set_cons_zero, List.length_cons, List.length_nil, List.map_cons, List.map_nil, List.cons_append, List.nil_append, List.replicate, Nat.reduceAdd, Nat.zero_add, true_and]
    rw [x_seq]
    refine x_app (ds0 := r.hd.map .int) rfl (by simp) ?_
    have he : ∀ Q : D → SS → Prop, Q (.int (if g = .stuck then 0 else ws.getD r.pl 0)) (S ++ [MO.lst (r.hd.map D.int)]) → XSat (eIf (tVal (eOp2 (cmpD .Eq) (eVar 3) (eC (.str "stuck")))) (eC (.int 0)) (eOp2 ixD (eVar 0) (eVar 4)) [some (wD ws), some (dsD gs), some (.ref S.length), some (dD g), some (.int (nI r.pl)), some (.int (nI r.hr))] (S ++ [MO.lst (r.hd.map D.int)])) Q noX := fun Q h => by
      simp only [xe_if, xt_val, xe_op2, xe_var, xe_c, eq_dD, dS_stuck, boolOf_bl, List.getElem?_cons_succ, List.getElem?_cons_zero, List.set_cons_succ, List.set_cons_zero, List.length_cons, List.length_nil, List.map_cons, List.map_nil, List.cons_append, List.nil_append, List.replicate, Nat.reduceAdd, Nat.zero_add, true_and]
      by_cases hg : g = .stuck
      · rw [if_pos hg] at h
        rw [decide_eq_true hg, if_pos rfl]
        exact h
      · rw [if_neg hg] at h
        rw [decide_eq_false hg, if_neg (by decide), ix_w hpl nI_eq]
        exact h
    refine he _ ⟨r.hd.map .int, by simp, by rw [List.length_map]; omega, ?_⟩
    rw [set_last]
    have eh : r.hd.map D.int ++ [D.int (if g = .stuck then 0 else ws.getD r.pl 0)] = (stp ws r g).hd.map .int := by
      show _ = (r.hd ++ [_]).map D.int
      rw [List.map_append]
      rfl
    rw [eh, x_seq, x_if, xt_val]
    simp only [xe_op2, xe_var, xe_c, ne_dD, dS_stuck, boolOf_bl, List.getElem?_cons_succ, List.getElem?_cons_zero, List.set_cons_succ, List.set_cons_zero, List.length_cons, List.length_nil, List.map_cons, List.map_nil, List.cons_append, List.nil_append, List.replicate, Nat.reduceAdd, Nat.zero_add, true_and]
    have second : ∀ (pl : Int), pl = nI (stp ws r g).pl → XR (sSeq (sIf (tVal (eOp2 (cmpD .NotEq) (eVar 3) (eC (.str "pull")))) (sSeq (sAug .Add 5 (eC (.int 1))) sNil) sNil) sNil [some (wD ws), some (dsD gs), some (.ref S.length), some (dD g), some (.int pl), some (.int (nI r.hr))] (S ++ [MO.lst ((stp ws r g).hd.map D.int)])) (fun δ S' => ∃ o, δ = [some (wD ws), some (dsD gs), some (.ref S.length), o, some (.int (nI (stp ws r g).pl)), some (.int (nI (stp ws r g).hr))] ∧ S' = S ++ [.lst ((stp ws r g).hd.map .int)]) P (fun _ => noX) := by
      rintro pl rfl
      rw [x_seq, x_if, xt_val]
      simp only [xe_op2, xe_var, xe_c, ne_dD, dS_pull, boolOf_bl, List.getElem?_cons_succ, List.getElem?_cons_zero, List.set_cons_succ, List.set_cons_zero, List.length_cons, List.length_nil, List.map_cons, List.map_nil, List.cons_append, List.nil_append, List.replicate, Nat.reduceAdd, Nat.zero_add, true_and]
      by_cases hg : g = .pull
      · rw [decide_eq_true hg]
        simp only [Bool.not_true, Bool.false_eq_true, if_false, x_nil]
        have e : (stp ws r g).hr = r.hr := if_pos hg
        exact ⟨_, by rw [e], by trivial⟩
      · rw [decide_eq_false hg]
        simp only [Bool.not_false, if_true]
        rw [x_seq, x_aug rfl]
        simp only [xe_c, so_augA, x_nil, List.getElem?_cons_succ, List.getElem?_cons_zero, List.set_cons_succ, List.set_cons_zero, List.length_cons, List.length_nil, List.map_cons, List.map_nil, List.cons_append, List.nil_append, List.replicate, Nat.reduceAdd, Nat.zero_add, true_and]
        have e : (stp ws r g).hr = r.hr + 1 := if_neg hg
        exact ⟨_, by rw [e, nI_one], by trivial⟩
    by_cases hg : g = .stuck
    · rw [decide_eq_true hg]
      simp only [Bool.not_true, Bool.false_eq_true, if_false, x_nil]
      have e : (stp ws r g).pl = r.pl := if_pos hg
      exact second _ (by rw [e])
    · rw [decide_eq_false hg]
      simp only [Bool.not_false, if_true]
      rw [x_seq]
      simp only [x_asg1, xe_op2, xe_cb, xa_cons, xa_nil, xe_var, xe_c, so_add, len_w, so_mod, x_nil, List.getElem?_cons_succ, List.getElem?_cons_zero, List.set_cons_succ, List.set_cons_zero, List.length_cons, List.length_nil, List.map_cons, List.map_nil, List.cons_append, List.nil_append, List.replicate, Nat.reduceAdd, Nat.zero_add, true_and]
      refine ⟨by omega, ?_⟩
      rw [fmod_pos pw, nI_one, nI_mod]
      have e : (stp ws r g).pl = (r.pl + 1) % ws.length := if_neg hg
      exact second _ (by rw [e])
  · rintro δ S' ⟨o, rfl, rfl⟩
    rw [List.length_map, List.take_length, x_seq]
    simp only [x_ret, xe_tup3, xe_var, List.getElem?_cons_succ, List.getElem?_cons_zero, List.set_cons_succ, List.set_cons_zero, List.length_cons, List.length_nil, List.map_cons, List.map_nil, List.cons_append, List.nil_append, List.replicate, Nat.reduceAdd, Nat.zero_add, true_and]
    exact k
end
end K56
set_option Elab.async false
set_option linter.all false
set_option maxRecDepth 100000
set_option maxHeartbeats 2000000
namespace K56
open PySem L2 DL
section
variable {C : CA} {S : SS} {P : D → SS → Prop} {Pb : Bool → SS → Prop} {X : XQ} {Y : Sl → XQ} {Pn : Sl → SS → Prop}
theorem stp_wr {ws : List Int} {r : Rs} {u : Dd} : (stp ws r u).wr.length ≤ r.wr.length + 1 := by
  have e : (stp ws r u).wr = if u = .pull then r.wr else if (if u = .stuck then 0 else ws.getD r.pl 0) = ws.getD (r.hr % ws.length) 0 then r.wr else r.wr ++ [nI r.hd.length] := rfl
  rw [e]
  generalize (if u = .stuck then 0 else ws.getD r.pl 0) = a
  split
  · omega
  · split
    · omega
    · simp
section
variable {d e : D} (hd : aP d = true) (he : aP e = true) (xw : whB d = false → ∀ l, AE C X "wheel" (S ++ l)) (x1 : ∀ ws, d = wD ws → Wh ws → lenB 0 400 e = false → ∀ l, AE C X "deeds" (S ++ l)) (x2 : ∀ ws ds j, d = wD ws → Wh ws → e = .tup ds → Bad ds j → ∀ l, LE' C X (nI j) (S ++ l))
include hd he xw x1 x2
theorem struck_x (k : ∀ ws gs, d = wD ws → e = dsD gs → Wh ws → gs.length ≤ 400 → ∀ l, P (.tup [.int (nI (run ws gs).pl), .int (nI (run ws gs).hr), wD (run ws gs).hd]) (S ++ l)) : XSat (F_struck C [d, e] S) P X := by
  rw [sem_struck]
  refine x_fn ?_
  unfold B_struck
  simp only [startD, List.getElem?_cons_succ, List.getElem?_cons_zero, List.set_cons_succ, List.set_cons_zero, List.length_cons, List.length_nil, List.map_cons, List.map_nil, List.cons_append, List.nil_append, List.replicate, Nat.reduceAdd, Nat.zero_add, true_and]
  rw [x_seq, x_drop]
  simp only [xe_call, xa_cons, xa_nil, xe_var, List.getElem?_cons_succ, List.getElem?_cons_zero, List.set_cons_succ, List.set_cons_zero, List.length_cons, List.length_nil, List.map_cons, List.map_nil, List.cons_append, List.nil_append, List.replicate, Nat.reduceAdd, Nat.zero_add, true_and]
  refine wheel_x hd xw fun h l => ?_
  obtain ⟨ws, rfl, hw⟩ := wh_of h
  rw [x_seq, x_drop]
  simp only [xe_call, xa_cons, xa_nil, xe_var, List.getElem?_cons_succ, List.getElem?_cons_zero, List.set_cons_succ, List.set_cons_zero, List.length_cons, List.length_nil, List.map_cons, List.map_nil, List.cons_append, List.nil_append, List.replicate, Nat.reduceAdd, Nat.zero_add, true_and]
  refine demand_deeds_x he (fun h l' => by rw [List.append_assoc]; exact x1 ws rfl hw h _) (fun ds j e1 hb l' => by rw [List.append_assoc]; exact x2 ws ds j rfl hw e1 hb _) fun gs e1 hg l' => ?_
  subst e1
  rw [x_seq, x_asgN]
  simp only [xe_call, xa_cons, xa_nil, xe_var, List.getElem?_cons_succ, List.getElem?_cons_zero, List.set_cons_succ, List.set_cons_zero, List.length_cons, List.length_nil, List.map_cons, List.map_nil, List.cons_append, List.nil_append, List.replicate, Nat.reduceAdd, Nat.zero_add, true_and]
  refine (played_sat hw hg ?_).x
  simp only [bind_many3, List.getElem?_cons_succ, List.getElem?_cons_zero, List.set_cons_succ, List.set_cons_zero, List.length_cons, List.length_nil, List.map_cons, List.map_nil, List.cons_append, List.nil_append, List.replicate, Nat.reduceAdd, Nat.zero_add, true_and]
  rw [x_seq]
  simp only [x_ret, xe_tup3, xe_var, xe_cb, xa_cons, xa_nil, List.getElem?_cons_succ, List.getElem?_cons_zero, List.set_cons_succ, List.set_cons_zero, List.length_cons, List.length_nil, List.map_cons, List.map_nil, List.cons_append, List.nil_append, List.replicate, Nat.reduceAdd, Nat.zero_add, true_and]
  rw [so_tupL (ds := (run ws gs).hd.map .int) (by simp), ← wD_eq, List.append_assoc, List.append_assoc]
  exact k ws gs rfl rfl hw hg _
theorem pulls_needed_x (k : ∀ ws gs p, d = wD ws → e = dsD gs → Wh ws → gs.length ≤ 400 → Per ws p → ∀ l, P (.int (pul p (run ws gs).pl (run ws gs).hr)) (S ++ l)) : XSat (F_pulls_needed C [d, e] S) P X := by
  rw [sem_pulls_needed]
  refine x_fn ?_
  unfold B_pulls_needed
  simp only [startD, List.getElem?_cons_succ, List.getElem?_cons_zero, List.set_cons_succ, List.set_cons_zero, List.length_cons, List.length_nil, List.map_cons, List.map_nil, List.cons_append, List.nil_append, List.replicate, Nat.reduceAdd, Nat.zero_add, true_and]
  rw [x_seq, x_drop]
  simp only [xe_call, xa_cons, xa_nil, xe_var, List.getElem?_cons_succ, List.getElem?_cons_zero, List.set_cons_succ, List.set_cons_zero, List.length_cons, List.length_nil, List.map_cons, List.map_nil, List.cons_append, List.nil_append, List.replicate, Nat.reduceAdd, Nat.zero_add, true_and]
  refine wheel_x hd xw fun h l => ?_
  obtain ⟨ws, rfl, hw⟩ := wh_of h
  rw [x_seq, x_drop]
  simp only [xe_call, xa_cons, xa_nil, xe_var, List.getElem?_cons_succ, List.getElem?_cons_zero, List.set_cons_succ, List.set_cons_zero, List.length_cons, List.length_nil, List.map_cons, List.map_nil, List.cons_append, List.nil_append, List.replicate, Nat.reduceAdd, Nat.zero_add, true_and]
  refine demand_deeds_x he (fun h l' => by rw [List.append_assoc]; exact x1 ws rfl hw h _) (fun ds j e1 hb l' => by rw [List.append_assoc]; exact x2 ws ds j rfl hw e1 hb _) fun gs e1 hg l' => ?_
  subst e1
  rw [x_seq, x_asgN]
  simp only [xe_call, xa_cons, xa_nil, xe_var, List.getElem?_cons_succ, List.getElem?_cons_zero, List.set_cons_succ, List.set_cons_zero, List.length_cons, List.length_nil, List.map_cons, List.map_nil, List.cons_append, List.nil_append, List.replicate, Nat.reduceAdd, Nat.zero_add, true_and]
  refine (played_sat hw hg ?_).x
  simp only [bind_many3, List.getElem?_cons_succ, List.getElem?_cons_zero, List.set_cons_succ, List.set_cons_zero, List.length_cons, List.length_nil, List.map_cons, List.map_nil, List.cons_append, List.nil_append, List.replicate, Nat.reduceAdd, Nat.zero_add, true_and]
  obtain ⟨p, pp⟩ := per_ex hw.l1
  rw [x_seq]
  simp only [x_ret, xe_op2, xe_call, xa_cons, xa_nil, xe_var, so_sub, List.getElem?_cons_succ, List.getElem?_cons_zero, List.set_cons_succ, List.set_cons_zero, List.length_cons, List.length_nil, List.map_cons, List.map_nil, List.cons_append, List.nil_append, List.replicate, Nat.reduceAdd, Nat.zero_add, true_and]
  refine (period_of_sat hw pp ?_).x
  rw [so_mod]
  have := nI_pos pp.p1
  refine ⟨by omega, ?_⟩
  have k := k ws gs p rfl rfl hw hg pp
  unfold pul at k
  rw [fmod_pos this, nI_eq, nI_eq, nI_eq, List.append_assoc, List.append_assoc]
  exact k _
theorem wrong_hours_x (k : ∀ ws gs, d = wD ws → e = dsD gs → Wh ws → gs.length ≤ 400 → ∀ l, P (wD (run ws gs).wr) (S ++ l)) : XSat (F_wrong_hours C [d, e] S) P X := by
  rw [sem_wrong_hours]
  refine x_fn ?_
  unfold B_wrong_hours
  simp only [startD, List.getElem?_cons_succ, List.getElem?_cons_zero, List.set_cons_succ, List.set_cons_zero, List.length_cons, List.length_nil, List.map_cons, List.map_nil, List.cons_append, List.nil_append, List.replicate, Nat.reduceAdd, Nat.zero_add, true_and]
  rw [x_seq, x_drop]
  simp only [xe_call, xa_cons, xa_nil, xe_var, List.getElem?_cons_succ, List.getElem?_cons_zero, List.set_cons_succ, List.set_cons_zero, List.length_cons, List.length_nil, List.map_cons, List.map_nil, List.cons_append, List.nil_append, List.replicate, Nat.reduceAdd, Nat.zero_add, true_and]
  refine wheel_x hd xw fun h l => ?_
  obtain ⟨ws, rfl, hw⟩ := wh_of h
  rw [x_seq, x_drop]
  simp only [xe_call, xa_cons, xa_nil, xe_var, List.getElem?_cons_succ, List.getElem?_cons_zero, List.set_cons_succ, List.set_cons_zero, List.length_cons, List.length_nil, List.map_cons, List.map_nil, List.cons_append, List.nil_append, List.replicate, Nat.reduceAdd, Nat.zero_add, true_and]
  refine demand_deeds_x he (fun h l' => by rw [List.append_assoc]; exact x1 ws rfl hw h _) (fun ds j e1 hb l' => by rw [List.append_assoc]; exact x2 ws ds j rfl hw e1 hb _) fun gs e1 hg l' => ?_
  subst e1
  have k := k ws gs rfl rfl hw hg
  have l1 := hw.l1
  have pw := nI_pos l1
  rw [x_seq]
  simp only [x_asg1, xe_op2, xe_call, xa_cons, xa_nil, xe_var, xe_c, List.getElem?_cons_succ, List.getElem?_cons_zero, List.set_cons_succ, List.set_cons_zero, List.length_cons, List.length_nil, List.map_cons, List.map_nil, List.cons_append, List.nil_append, List.replicate, Nat.reduceAdd, Nat.zero_add, true_and]
  refine (played_sat hw hg ?_).x
  rw [so_ix2]
  have e0 : S ++ l ++ l' = S ++ (l ++ l') := List.append_assoc ..
  rw [e0]
  generalize hS1 : S ++ (l ++ l') = S1 at *
  have kk : ∀ l2, P (wD (run ws gs).wr) (S1 ++ l2) := fun l2 => by
    rw [← hS1, List.append_assoc]
    exact k _
  clear k
  have g1 : ∀ o l3, (S1 ++ [MO.lst ((run ws gs).hd.map D.int)] ++ o :: l3)[S1.length]? = some (.lst ((run ws gs).hd.map D.int)) := fun o l3 => by simp
  generalize hk1 : S1.length = k1 at *
  have hk2 : (S1 ++ [MO.lst ((run ws gs).hd.map D.int)]).length = k1 + 1 := by simp [hk1]
  generalize hS2 : S1 ++ [MO.lst ((run ws gs).hd.map D.int)] = S2 at *
  have kk2 : ∀ l2, P (wD (run ws gs).wr) (S2 ++ l2) := fun l2 => by
    rw [← hS2, List.append_assoc]
    exact kk _
  rw [x_seq]
  simp only [x_asg1, xe_lst0, List.getElem?_cons_succ, List.getElem?_cons_zero, List.set_cons_succ, List.set_cons_zero, List.length_cons, List.length_nil, List.map_cons, List.map_nil, List.cons_append, List.nil_append, List.replicate, Nat.reduceAdd, Nat.zero_add, true_and]
  rw [hk2, x_seq]
  simp only [x_asg1, xe_c, List.getElem?_cons_succ, List.getElem?_cons_zero, List.set_cons_succ, List.set_cons_zero, List.length_cons, List.length_nil, List.map_cons, List.map_nil, List.cons_append, List.nil_append, List.replicate, Nat.reduceAdd, Nat.zero_add, true_and]
  rw [x_seq]
  refine x_forE (ds := gs.map dD) (fun j δ S' => ∃ o1 o2, δ = [some (wD ws), some (dsD gs), some (.ref k1), some (.ref (k1 + 1)), some (.int (nI (run ws (gs.take j)).hr)), o1, o2] ∧ S' = S2 ++ [.lst ((run ws (gs.take j)).wr.map .int)]) (hit_ds rfl) ⟨none, none, ?_, rfl⟩ ?_ ?_
  · have : nI 0 = 0 := by rw [nI_eq]; rfl
    show _ = [_, _, _, _, some (D.int (nI 0)), _, _]
    rw [this]
  · rintro j d δ S' hj ⟨o1, o2, rfl, rfl⟩
    obtain ⟨g, hj', rfl⟩ := get_dD hj
    have hjl := (List.getElem?_eq_some_iff.mp hj').1
    have hst := run_step (ws := ws) hj'
    have hpl := run_pl l1 (gs := gs.take j)
    have hat := run_at (ws := ws) hj'
    have hhd := run_hd (ws := ws) (gs := gs.take j)
    rw [List.length_take] at hhd
    have hwr : (run ws (gs.take j)).wr.length ≤ j := by
      have key : ∀ (us : List Dd) (r : Rs), (us.foldl (stp ws) r).wr.length ≤ r.wr.length + us.length := by
        intro us
        induction us with
        | nil => exact fun r => Nat.le_refl _
        | cons u us ih =>
          intro r
          rw [List.foldl_cons]
          refine Nat.le_trans (ih _) ?_
          have := stp_wr (ws := ws) (r := r) (u := u)
          rw [List.length_cons]
          omega
      have := key (gs.take j) ⟨0, 0, [], []⟩
      have e1 : (run ws (gs.take j)).wr.length ≤ 0 + (gs.take j).length := this
      rw [List.length_take] at e1
      omega
    refine ⟨_, rfl, ?_⟩
    rw [hst]
    have hjd : nI j = nI (run ws (gs.take j)).hd.length := by rw [hhd, Nat.min_eq_left (by omega)]
    generalize run ws (gs.take j) = r at *
    simp only [setsD, List.getElem?_cons_succ, List.getElem?_cons_zero, List.set_cons_succ, List.set_cons_zero, List.length_cons, List.length_nil, List.map_cons, List.map_nil, List.cons_append, List.nil_append, List.replicate, Nat.reduceAdd, Nat.zero_add, true_and]
    rw [x_seq, x_if, xt_val]
    simp only [xe_op2, xe_var, xe_c, ne_dD, dS_pull, boolOf_bl, List.getElem?_cons_succ, List.getElem?_cons_zero, List.set_cons_succ, List.set_cons_zero, List.length_cons, List.length_nil, List.map_cons, List.map_nil, List.cons_append, List.nil_append, List.replicate, Nat.reduceAdd, Nat.zero_add, true_and]
    by_cases hg : g = .pull
    · rw [decide_eq_true hg]
      simp only [Bool.not_true, Bool.false_eq_true, if_false, x_nil]
      have ea : (stp ws r g).hr = r.hr := if_pos hg
      have eb : (stp ws r g).wr = r.wr := if_pos hg
      exact ⟨_, _, by rw [ea], by rw [eb]⟩
    · rw [decide_eq_false hg]
      simp only [Bool.not_false, if_true]
      have ea : (stp ws r g).hr = r.hr + 1 := if_neg hg
      have eb : (stp ws r g).wr = if (if g = .stuck then 0 else ws.getD r.pl 0) = ws.getD (r.hr % ws.length) 0 then r.wr else r.wr ++ [nI r.hd.length] := if_neg hg
      have fin : ∀ (wr : List Int), wr = (stp ws r g).wr → XR (sSeq (sAug .Add 4 (eC (.int 1))) sNil [some (wD ws), some (dsD gs), some (.ref k1), some (.ref (k1 + 1)), some (.int (nI r.hr)), some (.int (nI j)), some (dD g)] (S2 ++ [MO.lst (wr.map D.int)])) (fun δ S' => XR (sNil δ S') (fun δ S' => ∃ o1 o2, δ = [some (wD ws), some (dsD gs), some (.ref k1), some (.ref (k1 + 1)), some (.int (nI (stp ws r g).hr)), o1, o2] ∧ S' = S2 ++ [.lst ((stp ws r g).wr.map .int)]) P (fun _ => X)) P (fun _ => X) := by
        rintro wr rfl
        rw [x_seq, x_aug rfl]
        simp only [xe_c, so_augA, x_nil, List.getElem?_cons_succ, List.getElem?_cons_zero, List.set_cons_succ, List.set_cons_zero, List.length_cons, List.length_nil, List.map_cons, List.map_nil, List.cons_append, List.nil_append, List.replicate, Nat.reduceAdd, Nat.zero_add, true_and]
        exact ⟨_, _, by rw [ea, nI_one], by trivial⟩
      rw [x_seq, x_if, xt_val]
      simp only [xe_op2, xe_cb, xa_cons, xa_nil, xe_var, xe_c, len_w, so_mod, List.getElem?_cons_succ, List.getElem?_cons_zero, List.set_cons_succ, List.set_cons_zero, List.length_cons, List.length_nil, List.map_cons, List.map_nil, List.cons_append, List.nil_append, List.replicate, Nat.reduceAdd, Nat.zero_add, true_and]
      rw [so_ixL (n := j) (d := .int (if g = .stuck then 0 else ws.getD r.pl 0)) (g1 _ []) (by rw [List.getElem?_map, hat]; rfl) nI_eq]
      refine ⟨by omega, ?_⟩
      rw [fmod_pos pw, nI_mod, ix_w (Nat.mod_lt _ l1) nI_eq, ne_int]
      simp only [boolOf_bl]
      generalize (if g = .stuck then 0 else ws.getD r.pl 0) = a at *
      by_cases hne : a = ws.getD (r.hr % ws.length) 0
      · have h1 : (!(a == ws.getD (r.hr % ws.length) 0)) = false := by rw [hne, beq_self_eq_true]; rfl
        rw [h1]
        simp only [Bool.false_eq_true, if_false, x_nil]
        exact fin r.wr (by rw [eb, if_pos hne])
      · have h1 : (!(a == ws.getD (r.hr % ws.length) 0)) = true := by rw [beq_eq_false_iff_ne.mpr hne]; rfl
        rw [h1]
        simp only [if_true]
        rw [x_seq]
        have hS2l : S2.length = k1 + 1 := hk2
        refine x_app (ds0 := r.wr.map .int) (k := k1 + 1) rfl (by rw [← hS2l]; simp) ?_
        simp only [xe_var, List.getElem?_cons_succ, List.getElem?_cons_zero, List.set_cons_succ, List.set_cons_zero, List.length_cons, List.length_nil, List.map_cons, List.map_nil, List.cons_append, List.nil_append, List.replicate, Nat.reduceAdd, Nat.zero_add, true_and]
        refine ⟨r.wr.map .int, by rw [← hS2l]; simp, by rw [List.length_map]; omega, ?_⟩
        rw [← hS2l, set_last, x_nil]
        have e3 : r.wr.map D.int ++ [.int (nI j)] = (stp ws r g).wr.map .int := by
          rw [eb, if_neg hne, List.map_append, hjd]
          rfl
        rw [e3, hS2l]
        exact fin _ rfl
  · rintro δ S' ⟨o1, o2, rfl, rfl⟩
    rw [List.length_map, List.take_length, x_seq]
    simp only [x_ret, xe_cb, xa_cons, xa_nil, xe_var, List.getElem?_cons_succ, List.getElem?_cons_zero, List.set_cons_succ, List.set_cons_zero, List.length_cons, List.length_nil, List.map_cons, List.map_nil, List.cons_append, List.nil_append, List.replicate, Nat.reduceAdd, Nat.zero_add, true_and]
    have hS2l : S2.length = k1 + 1 := hk2
    rw [so_tupL (ds := (run ws gs).wr.map .int) (by rw [← hS2l]; simp), ← wD_eq]
    exact kk2 _
end
end
end K56
set_option Elab.async false
set_option linter.all false
set_option maxRecDepth 100000
set_option maxHeartbeats 2000000
namespace K56
open PySem L2 DL
section
variable {C : CA} {S : SS} {P : D → SS → Prop} {Pb : Bool → SS → Prop} {X : XQ} {Y : Sl → XQ} {Pn : Sl → SS → Prop}
theorem l_turned_sat {ws : List Int} {n : Nat} (hw : Wh ws) (k : P (wD (rot ws n)) S) : Sat (F_l_turned C [wD ws, .int (nI n)] S) P := by
  rw [sem_l_turned]
  refine XSat.s (x_fn ?_)
  unfold B_l_turned
  simp only [startD, List.getElem?_cons_succ, List.getElem?_cons_zero, List.set_cons_succ, List.set_cons_zero, List.length_cons, List.length_nil, List.map_cons, List.map_nil, List.cons_append, List.nil_append, List.replicate, Nat.reduceAdd, Nat.zero_add, true_and]
  have l2 := hw.l2
  rw [x_seq]
  simp only [x_ret, xe_op2, xe_sl, xo_some, xo_none, xe_var, intOf, sl_drop nI_eq, sl_take nI_eq, so_addW (show (ws.drop n).length ≤ 100000 by rw [List.length_drop]; omega) (show (ws.take n).length ≤ 100000 by rw [List.length_take]; omega), List.getElem?_cons_succ, List.getElem?_cons_zero, List.set_cons_succ, List.set_cons_zero, List.length_cons, List.length_nil, List.map_cons, List.map_nil, List.cons_append, List.nil_append, List.replicate, Nat.reduceAdd, Nat.zero_add, true_and]
  exact k
theorem l_strokes_sat {ws : List Int} {pl h : Nat} (hw : Wh ws) (hh : h < 2 ^ 60) (k : P (.int (stk ws pl h)) S) : Sat (F_l_strokes C [wD ws, .int (nI pl), .int (nI h)] S) P := by
  rw [sem_l_strokes]
  refine XSat.s (x_fn ?_)
  unfold B_l_strokes
  simp only [startD, List.getElem?_cons_succ, List.getElem?_cons_zero, List.set_cons_succ, List.set_cons_zero, List.length_cons, List.length_nil, List.map_cons, List.map_nil, List.cons_append, List.nil_append, List.replicate, Nat.reduceAdd, Nat.zero_add, true_and]
  have l1 := hw.l1
  have l2 := hw.l2
  have np := nI_pos l1
  have lt := nI_lt (a := ws.length) (n := 60) (by omega)
  have ⟨s1, s2⟩ := hw.sum
  have hq : h / ws.length < 2 ^ 60 := Nat.lt_of_le_of_lt (Nat.div_le_self _ _) hh
  have lq := nI_lt hq
  rw [x_seq]
  simp only [x_asg1, xe_call, xa_cons, xa_nil, xe_var, List.getElem?_cons_succ, List.getElem?_cons_zero, List.set_cons_succ, List.set_cons_zero, List.length_cons, List.length_nil, List.map_cons, List.map_nil, List.cons_append, List.nil_append, List.replicate, Nat.reduceAdd, Nat.zero_add, true_and]
  refine (l_turned_sat hw ?_).x
  rw [x_seq]
  simp only [x_ret, xe_op2, xe_cb, xe_sl, xo_none, xo_some, xa_cons, xa_nil, xe_var, len_w, rot_len, so_fdiv, so_sumW, rot_sum, so_mul, so_int, so_mod, intOf, List.getElem?_cons_succ, List.getElem?_cons_zero, List.set_cons_succ, List.set_cons_zero, List.length_cons, List.length_nil, List.map_cons, List.map_nil, List.cons_append, List.nil_append, List.replicate, Nat.reduceAdd, Nat.zero_add, true_and]
  refine ⟨divOk64 (by omega) (by omega), ?_⟩
  rw [fdiv_pos np, nI_div]
  refine ⟨mulOk64 (by omega) (by omega), by omega, ?_⟩
  rw [fmod_pos np, nI_mod, sl_take nI_eq, so_sumW, so_add]
  unfold stk at k
  rw [nI_eq]
  exact k
theorem l_hours_sat {ws : List Int} {pl c h : Nat} (hw : Wh ws) (hc : (c : Int) ≤ 1000000000) (hh : Hr ws pl (c : Int) h) (hle : h ≤ ws.length * ((c : Int) / ws.sum).toNat + ws.length) (k : P (.int (nI h)) S) : Sat (F_l_hours C [wD ws, .int (nI pl), .int (nI c)] S) P := by
  rw [sem_l_hours]
  refine XSat.s (x_fn ?_)
  unfold B_l_hours
  simp only [startD, List.getElem?_cons_succ, List.getElem?_cons_zero, List.set_cons_succ, List.set_cons_zero, List.length_cons, List.length_nil, List.map_cons, List.map_nil, List.cons_append, List.nil_append, List.replicate, Nat.reduceAdd, Nat.zero_add, true_and]
  have l1 := hw.l1
  have l2 := hw.l2
  have ⟨s1, s2⟩ := hw.sum
  have hcc : ∀ x ∈ ws, 1 ≤ x := fun x hx => (hw.c x hx).1
  have hq : (((c : Int) / ws.sum).toNat : Int) = (c : Int) / ws.sum := Int.toNat_of_nonneg (Int.ediv_nonneg (by omega) (by omega))
  have hqc : (c : Int) / ws.sum ≤ c := Int.ediv_le_self _ (by omega)
  generalize ((c : Int) / ws.sum).toNat = q at *
  have hb := hr_begin (place := pl) l1 hcc hq
  have hnq : ws.length * q ≤ 60 * 1000000000 := Nat.mul_le_mul l2 (by omega)
  have h0h : ws.length * q ≤ h := by
    rcases Nat.lt_or_ge h (ws.length * q) with c' | c'
    · have := hb h c'
      have := hh.ge
      omega
    · exact c'
  have lc := nI_lt (a := c) (n := 60) (by omega)
  have ln := nI_lt (a := ws.length) (n := 60) (by omega)
  rw [x_seq]
  simp only [x_asg1, xe_call, xa_cons, xa_nil, xe_var, List.getElem?_cons_succ, List.getElem?_cons_zero, List.set_cons_succ, List.set_cons_zero, List.length_cons, List.length_nil, List.map_cons, List.map_nil, List.cons_append, List.nil_append, List.replicate, Nat.reduceAdd, Nat.zero_add, true_and]
  refine (l_turned_sat hw ?_).x
  rw [x_seq]
  simp only [x_asg1, xe_op2, xe_cb, xa_cons, xa_nil, xe_var, so_sumW, rot_sum, so_fdiv, len_w, rot_len, so_mul, List.getElem?_cons_succ, List.getElem?_cons_zero, List.set_cons_succ, List.set_cons_zero, List.length_cons, List.length_nil, List.map_cons, List.map_nil, List.cons_append, List.nil_append, List.replicate, Nat.reduceAdd, Nat.zero_add, true_and]
  refine ⟨divOk64 (by omega) (by omega), ?_⟩
  rw [fdiv_pos (by omega)]
  have e1 : nI c / ws.sum = nI q := by rw [nI_eq, nI_eq]; exact hq.symm
  rw [e1]
  refine ⟨mulOk64 (Nat.lt_trans (nI_lt (n := 60) (by omega)) (by decide)) (by omega), ?_⟩
  have e2 : nI q * nI ws.length = nI (ws.length * q) := by rw [nI_eq, nI_eq, nI_eq, Nat.mul_comm]; simp
  rw [e2, x_seq]
  generalize ws.length * q = h0 at *
  refine x_while (fun m δ S' => S' = S ∧ ∃ j, δ = [some (wD ws), some (.int (nI pl)), some (.int (nI c)), some (wD (rot ws pl)), some (.int (nI j))] ∧ j ≤ h ∧ m = h - j) (fun m δ S' hI => ?_) (h - h0) _ _ ⟨rfl, h0, rfl, h0h, rfl⟩
  obtain ⟨rfl, j, rfl, hj, rfl⟩ := hI
  simp only [xt_val, xe_op2, xe_call, xa_cons, xa_nil, xe_var, List.getElem?_cons_succ, List.getElem?_cons_zero, List.set_cons_succ, List.set_cons_zero, List.length_cons, List.length_nil, List.map_cons, List.map_nil, List.cons_append, List.nil_append, List.replicate, Nat.reduceAdd, Nat.zero_add, true_and]
  refine (l_strokes_sat hw (by omega) ?_).x
  simp only [so_lt, boolOf_bl]
  by_cases hlt : stk ws pl j < nI c
  · rw [decide_eq_true hlt]
    simp only [if_true]
    rw [nI_eq] at hlt
    have : j ≠ h := fun e => by
      have := hh.ge
      rw [← e] at this
      omega
    rw [x_seq]
    simp only [x_asg1, xe_op2, xe_var, xe_c, so_add, x_nil, List.getElem?_cons_succ, List.getElem?_cons_zero, List.set_cons_succ, List.set_cons_zero, List.length_cons, List.length_nil, List.map_cons, List.map_nil, List.cons_append, List.nil_append, List.replicate, Nat.reduceAdd, Nat.zero_add, true_and]
    exact ⟨h - (j + 1), by omega, j + 1, by rw [nI_one], by omega, rfl⟩
  · rw [decide_eq_false hlt]
    simp only [Bool.false_eq_true, if_false]
    rw [nI_eq] at hlt
    have e3 : j = h := by
      rcases Nat.lt_or_ge j h with c' | c'
      · have := hh.lt j c'
        omega
      · omega
    subst e3
    rw [x_seq]
    simp only [x_ret, xe_var, List.getElem?_cons_succ, List.getElem?_cons_zero, List.set_cons_succ, List.set_cons_zero, List.length_cons, List.length_nil, List.map_cons, List.map_nil, List.cons_append, List.nil_append, List.replicate, Nat.reduceAdd, Nat.zero_add, true_and]
    exact k
theorem l_sums_sat {ws : List Int} (hw : Wh ws) (k : ∀ l, P (wD (sumsL ws)) (S ++ l)) : Sat (F_l_sums C [wD ws] S) P := by
  rw [sem_l_sums]
  refine XSat.s (x_fn ?_)
  unfold B_l_sums
  simp only [startD, List.getElem?_cons_succ, List.getElem?_cons_zero, List.set_cons_succ, List.set_cons_zero, List.length_cons, List.length_nil, List.map_cons, List.map_nil, List.cons_append, List.nil_append, List.replicate, Nat.reduceAdd, Nat.zero_add, true_and]
  have l2 := hw.l2
  rw [x_seq, x_ret, xe_cb, xa_cons]
  refine lc_mapN (n := ws.length) (f := fun i => .int (nI i)) (g := fun i => .int (ws.take (i + 1)).sum) (hit_rngN (by omega) fun Q h => by simp only [xa_cons, xa_nil, xe_cb, xe_var, len_w, List.getElem?_cons_succ, List.getElem?_cons_zero, List.set_cons_succ, List.set_cons_zero, List.length_cons, List.length_nil, List.map_cons, List.map_nil, List.cons_append, List.nil_append, List.replicate, Nat.reduceAdd, Nat.zero_add, true_and]; exact h) (fun i hi => ⟨_, rfl, fun l0 Q kk => ?_⟩) (by omega) fun l => ?_
  · simp only [wipeD, xe_cb, xe_sl, xo_none, xo_some, xe_op2, xa_cons, xa_nil, xe_var, xe_c, so_add, intOf, nI_one, sl_take nI_eq, so_sumW, List.getElem?_cons_succ, List.getElem?_cons_zero, List.set_cons_succ, List.set_cons_zero, List.length_cons, List.length_nil, List.map_cons, List.map_nil, List.cons_append, List.nil_append, List.replicate, Nat.reduceAdd, Nat.zero_add, true_and]
    have := kk []
    rwa [List.append_nil] at this
  · rw [xa_nil, so_tupL (ds := (sumsL ws).map .int) (by simp [sumsL]), ← wD_eq]
    exact k _
theorem l_period_sat {ws : List Int} {p : Nat} (hw : Wh ws) (hp : Per ws p) (k : ∀ l, P (.int (nI p)) (S ++ l)) : Sat (F_l_period C [wD ws] S) P := by
  rw [sem_l_period]
  refine XSat.s (x_fn ?_)
  unfold B_l_period
  simp only [startD, List.getElem?_cons_succ, List.getElem?_cons_zero, List.set_cons_succ, List.set_cons_zero, List.length_cons, List.length_nil, List.map_cons, List.map_nil, List.cons_append, List.nil_append, List.replicate, Nat.reduceAdd, Nat.zero_add, true_and]
  have l1 := hw.l1
  have l2 := hw.l2
  have p1 := hp.p1
  have pn := hp.pn
  rw [x_seq, x_ret, xe_op2]
  refine lc_filtN (n := ws.length) (f := fun i => .int (1 + nI i)) (g := fun i => .int (1 + nI i)) (c := fun i => decide (rot ws (i + 1) = ws)) (hit_rngN2 (lo := 1) (hi := nI ws.length + 1) (by decide) (by rw [nI_eq]; omega) (by rw [nI_eq]; omega) fun Q h => by simp only [xa_cons, xa_nil, xe_op2, xe_cb, xe_var, xe_c, len_w, so_add, List.getElem?_cons_succ, List.getElem?_cons_zero, List.set_cons_succ, List.set_cons_zero, List.length_cons, List.length_nil, List.map_cons, List.map_nil, List.cons_append, List.nil_append, List.replicate, Nat.reduceAdd, Nat.zero_add, true_and]; exact h) (fun i hi => ⟨_, rfl, fun l0 Q kk => ?_, fun l0 Q _ kk => ?_⟩) (by omega) fun l => ?_
  · have hrw := rot_wh hw (i + 1)
    have ei : 1 + nI i = ((i + 1 : Nat) : Int) := by rw [nI_eq]; omega
    simp only [wipeD, xt_val, xe_op2, xe_sl, xo_none, xo_some, xe_var, intOf, sl_drop ei, sl_take ei, so_addW (show (ws.drop (i + 1)).length ≤ 100000 by rw [List.length_drop]; omega) (show (ws.take (i + 1)).length ≤ 100000 by rw [List.length_take]; omega), List.getElem?_cons_succ, List.getElem?_cons_zero, List.set_cons_succ, List.set_cons_zero, List.length_cons, List.length_nil, List.map_cons, List.map_nil, List.cons_append, List.nil_append, List.replicate, Nat.reduceAdd, Nat.zero_add, true_and]
    rw [show ws.drop (i + 1) ++ ws.take (i + 1) = rot ws (i + 1) from rfl, eq_w hrw.nice hw.nice]
    have := kk []
    rwa [List.append_nil] at this
  · simp only [wipeD, xe_var, List.getElem?_cons_succ, List.getElem?_cons_zero, List.set_cons_succ, List.set_cons_zero, List.length_cons, List.length_nil, List.map_cons, List.map_nil, List.cons_append, List.nil_append, List.replicate, Nat.reduceAdd, Nat.zero_add, true_and]
    have := kk []
    rwa [List.append_nil] at this
  · have ep : p - 1 + 1 = p := by omega
    have hf : (List.range ws.length).find? (fun i => decide (rot ws (i + 1) = ws)) = some (p - 1) := find_range (by omega) (fun i hi => decide_eq_false fun h => hp.l (i + 1) (by omega) (by omega) ((rot_tp (by omega)).mp h)) (decide_eq_true ((rot_tp (by omega)).mpr (ep.symm ▸ hp.t)))
    rw [xe_c, so_ixL0 get_mid (filter_get0 hf)]
    have : 1 + nI (p - 1) = nI p := by rw [nI_eq, nI_eq]; omega
    rw [this]
    exact k _
theorem l_pulls_sat {ws : List Int} {pl u p : Nat} (hw : Wh ws) (hpl : pl < ws.length) (hu : u < ws.length) (hp : Per ws p) (k : ∀ l, P (.int (pul p pl u)) (S ++ l)) : Sat (F_l_pulls C [wD ws, .int (nI pl), .int (nI u)] S) P := by
  rw [sem_l_pulls]
  refine XSat.s (x_fn ?_)
  unfold B_l_pulls
  simp only [startD, List.getElem?_cons_succ, List.getElem?_cons_zero, List.set_cons_succ, List.set_cons_zero, List.length_cons, List.length_nil, List.map_cons, List.map_nil, List.cons_append, List.nil_append, List.replicate, Nat.reduceAdd, Nat.zero_add, true_and]
  have l1 := hw.l1
  have l2 := hw.l2
  have pn := hp.pn
  have np := nI_pos l1
  rw [x_seq, x_ret, xe_op2]
  refine lc_filtN (n := ws.length) (f := fun i => .int (nI i)) (g := fun i => .int (nI i)) (c := fun i => decide (rot ws ((pl + i) % ws.length) = rot ws u)) (hit_rngN (by omega) fun Q h => by simp only [xa_cons, xa_nil, xe_cb, xe_var, len_w, List.getElem?_cons_succ, List.getElem?_cons_zero, List.set_cons_succ, List.set_cons_zero, List.length_cons, List.length_nil, List.map_cons, List.map_nil, List.cons_append, List.nil_append, List.replicate, Nat.reduceAdd, Nat.zero_add, true_and]; exact h) (fun i hi => ⟨_, rfl, fun l0 Q kk => ?_, fun l0 Q _ kk => ?_⟩) (by omega) fun l => ?_
  · simp only [wipeD, xt_val, xe_op2, xe_call, xe_cb, xa_cons, xa_nil, xe_var, so_add, so_int, len_w, so_mod, nI_add, List.getElem?_cons_succ, List.getElem?_cons_zero, List.set_cons_succ, List.set_cons_zero, List.length_cons, List.length_nil, List.map_cons, List.map_nil, List.cons_append, List.nil_append, List.replicate, Nat.reduceAdd, Nat.zero_add, true_and]
    refine ⟨by omega, ?_⟩
    rw [fmod_pos np, nI_mod]
    refine (l_turned_sat hw ?_).x
    refine (l_turned_sat hw ?_).x
    rw [eq_w (rot_wh hw _).nice (rot_wh hw _).nice]
    have := kk []
    rwa [List.append_nil] at this
  · simp only [wipeD, xe_var, List.getElem?_cons_succ, List.getElem?_cons_zero, List.set_cons_succ, List.set_cons_zero, List.length_cons, List.length_nil, List.map_cons, List.map_nil, List.cons_append, List.nil_append, List.replicate, Nat.reduceAdd, Nat.zero_add, true_and]
    have := kk []
    rwa [List.append_nil] at this
  · obtain ⟨m, e1, e2, e3, e4⟩ := pul_ok (p := p) (place := pl) (due := u) hp.p1
    have hd := hp.dvd tp_len
    have hmm : ∀ i, (pl + i) % ws.length % p = (pl + i) % p := fun i => Nat.mod_mod_of_dvd _ (Nat.dvd_of_mod_eq_zero hd)
    have hs : ∀ i, rot ws ((pl + i) % ws.length) = rot ws u ↔ (pl + i) % p = u % p := fun i => by
      rw [hp.same (Nat.le_of_lt (Nat.mod_lt _ l1)) (Nat.le_of_lt hu), hmm]
    have hf : (List.range ws.length).find? (fun i => decide (rot ws ((pl + i) % ws.length) = rot ws u)) = some m := find_range (by omega) (fun i hi => decide_eq_false fun h => e4 i hi ((hs i).mp h)) (decide_eq_true ((hs m).mpr e3))
    rw [xe_c, so_ixL0 get_mid (filter_get0 hf)]
    rw [e1] at k
    rw [nI_eq]
    exact k _
theorem l_unlike_sat {ws us : List Int} {pl sp : Nat} (hw : Wh ws) (hu : Wh us) (k : ∀ l, P (oN (unl ws pl us sp)) (S ++ l)) : Sat (F_l_unlike C [wD ws, .int (nI pl), wD us, .int (nI sp)] S) P := by
  rw [sem_l_unlike]
  refine XSat.s (x_fn ?_)
  unfold B_l_unlike
  simp only [startD, List.getElem?_cons_succ, List.getElem?_cons_zero, List.set_cons_succ, List.set_cons_zero, List.length_cons, List.length_nil, List.map_cons, List.map_nil, List.cons_append, List.nil_append, List.replicate, Nat.reduceAdd, Nat.zero_add, true_and]
  have l1 := hw.l1
  have l2 := hw.l2
  have m1 := hu.l1
  have m2 := hu.l2
  have hm : ws.length * us.length ≤ 60 * 60 := Nat.mul_le_mul l2 m2
  have lw := nI_lt (a := ws.length) (n := 60) (by omega)
  have lu := nI_lt (a := us.length) (n := 60) (by omega)
  have pw := nI_pos l1
  have pu := nI_pos m1
  rw [x_seq, x_asg1]
  refine lc_filtN (n := ws.length * us.length) (f := fun i => .int (nI i)) (g := fun i => .int (nI i)) (c := fun k => fw ws (pl + k) != fw us (sp + k)) (hit_rngN (by omega) fun Q h => ?_) (fun i hi => ⟨_, rfl, fun l0 Q kk => ?_, fun l0 Q _ kk => ?_⟩) (by omega) fun l => ?_
  · simp only [xa_cons, xa_nil, xe_op2, xe_cb, xe_var, len_w, so_mul, List.getElem?_cons_succ, List.getElem?_cons_zero, List.set_cons_succ, List.set_cons_zero, List.length_cons, List.length_nil, List.map_cons, List.map_nil, List.cons_append, List.nil_append, List.replicate, Nat.reduceAdd, Nat.zero_add, true_and]
    refine ⟨mulOk64 (by omega) (by omega), ?_⟩
    have e : nI ws.length * nI us.length = nI (ws.length * us.length) := by rw [nI_eq, nI_eq, nI_eq]; simp
    rw [e]
    exact h
  · simp only [wipeD, xt_val, xe_op2, xe_cb, xa_cons, xa_nil, xe_var, so_add, so_int, len_w, so_mod, nI_add, List.getElem?_cons_succ, List.getElem?_cons_zero, List.set_cons_succ, List.set_cons_zero, List.length_cons, List.length_nil, List.map_cons, List.map_nil, List.cons_append, List.nil_append, List.replicate, Nat.reduceAdd, Nat.zero_add, true_and]
    refine ⟨by omega, ?_⟩
    rw [fmod_pos pw, nI_mod, ix_fw l1]
    refine ⟨by omega, ?_⟩
    rw [fmod_pos pu, nI_mod, ix_fw m1, ne_int]
    have := kk []
    rwa [List.append_nil] at this
  · simp only [wipeD, xe_var, List.getElem?_cons_succ, List.getElem?_cons_zero, List.set_cons_succ, List.set_cons_zero, List.length_cons, List.length_nil, List.map_cons, List.map_nil, List.cons_append, List.nil_append, List.replicate, Nat.reduceAdd, Nat.zero_add, true_and]
    have := kk []
    rwa [List.append_nil] at this
  · rw [x_seq]
    simp only [x_ret, xe_if, xt_tru, xe_op2, xe_var, xe_c, List.getElem?_cons_succ, List.getElem?_cons_zero, List.set_cons_succ, List.set_cons_zero, List.length_cons, List.length_nil, List.map_cons, List.map_nil, List.cons_append, List.nil_append, List.replicate, Nat.reduceAdd, Nat.zero_add, true_and]
    rw [tru_ref get_mid]
    unfold unl at k
    cases hf : (List.range (ws.length * us.length)).find? (fun k => fw ws (pl + k) != fw us (sp + k)) with
    | none =>
      rw [hf] at k
      rw [filter_nil hf]
      exact k _
    | some m =>
      rw [hf] at k
      have hg := filter_get0 (g := fun i => D.int (nI i)) hf
      have hne : (((List.range (ws.length * us.length)).filter fun k => fw ws (pl + k) != fw us (sp + k)).map fun i => D.int (nI i)).isEmpty = false := by
        cases h0 : ((List.range (ws.length * us.length)).filter fun k => fw ws (pl + k) != fw us (sp + k)).map fun i => D.int (nI i) with
        | nil =>
          rw [h0] at hg
          cases hg
        | cons a r => rfl
      rw [hne]
      simp only [Bool.not_false, if_true]
      rw [so_ixL0 get_mid hg]
      exact k _
end
end K56
set_option Elab.async false
set_option linter.all false
set_option maxRecDepth 100000
set_option maxHeartbeats 2000000
namespace K56
open PySem L2 DL
section
variable {C : CA} {S : SS} {P : D → SS → Prop} {Pb : Bool → SS → Prop} {X : XQ} {Y : Sl → XQ} {Pn : Sl → SS → Prop}
theorem l_same_sat {d : D} (h : Nice d) (k : P (.bl true) S) : Sat (F_l_same_as C [d, d] S) P := by
  rw [sem_l_same_as]
  refine sat_fn ?_
  unfold B_l_same_as
  obtain ⟨x, hx⟩ := nice_repr2 h
  simp [startD, nice_eq h, hx]
  exact k
/-! small values -/
structure NB (d : D) (w p : Nat) : Prop where
  n : niceD d
  w : DL.wD d ≤ w
  p : dpD d ≤ p
theorem NB.nice {d : D} {w p : Nat} (h : NB d w p) (hw : w ≤ 16777216) (hp : p ≤ 60) : Nice d := ⟨h.n, Nat.le_trans h.p hp, Nat.le_trans h.w hw⟩
theorem NB.up {d : D} {w p w' p' : Nat} (h : NB d w p) (hw : w ≤ w') (hp : p ≤ p') : NB d w' p' := ⟨h.n, Nat.le_trans h.w hw, Nat.le_trans h.p hp⟩
theorem nb_int {i : Int} (h : i.natAbs < 2 ^ 100) : NB (.int i) 601 0 := ⟨nice_int h (by decide), Nat.le_refl _, Nat.le_refl _⟩
theorem nb_non : NB .non 601 0 := ⟨trivial, Nat.le_refl _, Nat.le_refl _⟩
theorem nb_tup {ds : List D} {w p : Nat} (h : ∀ d ∈ ds, NB d w p) : NB (.tup ds) (ds.length * (w + 2) + 3) (p + 1) := by
  have key : ∀ ds : List D, (∀ d ∈ ds, NB d w p) → wDs ds ≤ ds.length * (w + 2) ∧ dpDs ds ≤ p := by
    intro ds
    induction ds with
    | nil => exact fun _ => ⟨Nat.zero_le _, Nat.zero_le _⟩
    | cons d ds ih =>
      intro h
      obtain ⟨h1, h2⟩ := ih fun x hx => h x (by simp [hx])
      have hd := h d (by simp)
      have a := hd.w
      have b := hd.p
      constructor
      · show DL.wD d + 2 + wDs ds ≤ (ds.length + 1) * (w + 2)
        rw [Nat.succ_mul]
        omega
      · show max (dpD d) (dpDs ds) ≤ p
        omega
  obtain ⟨h1, h2⟩ := key ds h
  exact ⟨niceDs_iff.mpr fun d hd => (h d hd).n, Nat.add_le_add_right h1 3, Nat.add_le_add_right h2 1⟩
theorem nb_w {ws : List Int} (hs : ∀ x ∈ ws, x.natAbs < 2 ^ 100) : NB (wD ws) (ws.length * 603 + 3) 1 := by
  have := nb_tup (ds := ws.map D.int) (w := 601) (p := 0) fun d hd => by
    obtain ⟨i, hi, rfl⟩ := List.mem_map.mp hd
    exact nb_int (hs i hi)
  rw [List.length_map] at this
  rw [wD_eq]
  exact this
theorem nb_wh {ws : List Int} (h : Wh ws) : NB (wD ws) 40000 1 := (nb_w fun x hx => by have := h.c x hx; omega).up (by have := h.l2; omega) (Nat.le_refl _)
theorem nb_nI {n : Nat} (h : n < 2 ^ 90) : NB (.int (nI n)) 601 0 := nb_int (by rw [nI_eq]; omega)
theorem nb_oN {o : Option Nat} (h : ∀ k, o = some k → k < 2 ^ 90) : NB (oN o) 601 0 := by
  cases o with
  | none => exact nb_non
  | some k => exact nb_nI (h k rfl)
/-! as told -/
abbrev arg (r : Str) : D := .tup [.str "argument", .str r]
abbrev lgd (n : Int) : D := .tup [.str "log", .int n, .str "deed"]
abbrev NE (C : CA) : Prop := C.LogError ≠ C.ArgumentError
theorem orc_self : (orc C).sb C.ArgumentError C.ArgumentError = some true := by simp [orc]
theorem orc_f : (orc C).fd C.ArgumentError "reason" = true := by simp [orc]
theorem orc_ll (hne : NE C) : (orc C).sb C.LogError C.LogError = some true := by simp [orc, hne]
theorem orc_al (hne : NE C) : (orc C).sb C.ArgumentError C.LogError = some false := by simp [orc, hne]
theorem orc_ln (hne : NE C) : (orc C).fd C.LogError "number" = true := by simp [orc, hne]
theorem orc_lr (hne : NE C) : (orc C).fd C.LogError "reason" = true := by simp [orc, hne]
theorem hnd_eq0 (hne : NE C) {x y : D} {δ : Sl} : hnd_l_told_0 C C.LogError [("reason", y), ("number", x)] δ S = .rt (.tup [.str "log", x, y]) S :=
  told_hZ (O := orc C) (E := E_l_told C) (st := hndSt st_l_told 0 0) (wd := "log") (f := "number") (g := "reason") (n := "e") (i := 5) (Cr := C.LogError) (by kernel_rfl) (by kernel_rfl) (orc_ln hne) (orc_lr hne) (by rfl) (by rfl)
theorem hnd_eq1 {x : D} {δ : Sl} : hnd_l_told_1 C C.ArgumentError [("reason", x)] δ S = .rt (.tup [.str "argument", x]) S :=
  told_hY (O := orc C) (E := E_l_told C) (st := hndSt st_l_told 0 1) (wd := "argument") (f := "reason") (n := "e") (i := 5) (Cr := C.ArgumentError) (by kernel_rfl) (by kernel_rfl) orc_f (by rfl)
noncomputable def tB (C : CA) : PSt := (sSeq (sIf (tVal (eOp2 (cmpD .Lt) (eVar 0) (eC (.int 4)))) (sSeq (sRet (eIf (tVal (eOp2 (cmpD .Eq) (eVar 0) (eC (.int 0)))) (eCall (F_notches C) 1 (aCons (eVar 1) aNil)) (eIf (tVal (eOp2 (cmpD .Eq) (eVar 0) (eC (.int 1)))) (eCall (F_period C) 1 (aCons (eVar 1) aNil)) (eIf (tVal (eOp2 (cmpD .Eq) (eVar 0) (eC (.int 2)))) (eCall (F_strokes C) 3 (aCons (eVar 1) (aCons (eVar 2) (aCons (eVar 3) aNil)))) (eCall (F_hours_for C) 3 (aCons (eVar 1) (aCons (eVar 2) (aCons (eVar 3) aNil)))))))) sNil) sNil) (sSeq (sIf (tVal (eOp2 (cmpD .Lt) (eVar 0) (eC (.int 7)))) (sSeq (sRet (eIf (tVal (eOp2 (cmpD .Eq) (eVar 0) (eC (.int 4)))) (eCall (F_pulls C) 3 (aCons (eVar 1) (aCons (eVar 2) (aCons (eVar 3) aNil)))) (eIf (tVal (eOp2 (cmpD .Eq) (eVar 0) (eC (.int 5)))) (eCall (F_first_unlike C) 4 (aCons (eVar 1) (aCons (eVar 2) (aCons (eVar 3) (aCons (eVar 4) aNil))))) (eCall (F_wheel_of C) 1 (aCons (eVar 1) aNil))))) sNil) sNil) (sSeq (sRet (eIf (tVal (eOp2 (cmpD .Eq) (eVar 0) (eC (.int 7)))) (eCall (F_struck C) 2 (aCons (eVar 1) (aCons (eVar 2) aNil))) (eIf (tVal (eOp2 (cmpD .Eq) (eVar 0) (eC (.int 8)))) (eCall (F_wrong_hours C) 2 (aCons (eVar 1) (aCons (eVar 2) aNil))) (eCall (F_pulls_needed C) 2 (aCons (eVar 1) (aCons (eVar 2) aNil)))))) sNil)))
abbrev XT (C : CA) (P : D → SS → Prop) : XQ := fun c fs S' => (c = C.ArgumentError ∧ ∃ r : Str, fs = ([("reason", .str r)] : List (Str × D)) ∧ P (arg r) S') ∨ (c = C.LogError ∧ ∃ n : Int, fs = ([("reason", .str "deed"), ("number", .int n)] : List (Str × D)) ∧ P (lgd n) S')
theorem told_run (ne : NE C) {a b c d e : D} (h : XR (tB C [some a, some b, some c, some d, some e, none] S) (fun _ S' => P .non S') P (fun δ' c fs S' => 5 < δ'.length ∧ XT C P c fs S')) : Sat (F_l_told C [a, b, c, d, e] S) P := by
  rw [sem_l_told]
  refine XSat.s (x_fn ?_)
  show XR ((sSeq (sTry (orc C) (tB C) _) sNil) [some a, some b, some c, some d, some e, none] S) _ _ _
  rw [x_seq, x_try]
  refine h.mono (fun _ _ h => h) (fun _ _ h => h) ?_
  rintro δ' c fs S' ⟨hl, ⟨rfl, r, rfl, hk⟩ | ⟨rfl, r, rfl, hk⟩⟩
  · exact x_skip (orc_al ne) (x_catch orc_self hl hnd_eq1 hk)
  · exact x_catch (orc_ll ne) hl (hnd_eq0 ne) hk
theorem told_0 (ne : NE C) {b c d e : D} (h : XSat (F_notches C [b] S) P (XT C P)) : Sat (F_l_told C [.int 0, b, c, d, e] S) P := by
  refine told_run ne ?_
  unfold tB
  try simp only [x_seq, x_nil, x_drop, x_ret, x_retN, x_if, x_asg1, x_par, x_raise, xe_var, xe_c, xe_op1, xe_op2, xe_if, xa_nil, xa_cons, xe_call, xe_cb, xe_and, xe_or, xe_chain, xt_tru, xt_val, xt_not, xt_and, xt_or, xt_if, xt_yes, xit_val, xit_on, startD, xe_tup0, xe_tup1, xe_tup2, xe_tup3, xe_tup4, xe_tup5, xe_tup6, xe_lst0, xe_lst1, xe_lst2, xe_lst3, xe_lst4, xe_lst5, xe_lst6, xe_lst7, xe_lst8, xe_lst9, xe_lst10, xe_lst11, xe_lst12, xe_lst13, xe_lst14, xe_lst15, xe_lst16, so_add, so_sub, so_mul, so_fdiv, so_mod, so_lt, so_le, so_gt, so_ge, so_neg, so_notb, so_int, so_lenT, eq_int, ne_int, tru_int, tru_bl, tru_tup, tru_non, boolOf_bl, so_ix0, so_ix1, so_ix2, eq_str, ne_str, List.getElem?_cons_succ, List.getElem?_cons_zero, List.set_cons_succ, List.set_cons_zero, List.length_cons, List.length_nil, List.map_cons, List.map_nil, List.cons_append, List.nil_append, List.replicate, Nat.reduceAdd, Nat.zero_add, true_and]
  simp only [Int.reduceBEq, Int.reduceLT, decide_true, decide_false, if_true, if_false, Bool.false_eq_true]
  exact h.mono (fun _ _ h => h) fun _ _ _ h => ⟨by decide, h⟩
theorem told_1 (ne : NE C) {b c d e : D} (h : XSat (F_period C [b] S) P (XT C P)) : Sat (F_l_told C [.int 1, b, c, d, e] S) P := by
  refine told_run ne ?_
  unfold tB
  try simp only [x_seq, x_nil, x_drop, x_ret, x_retN, x_if, x_asg1, x_par, x_raise, xe_var, xe_c, xe_op1, xe_op2, xe_if, xa_nil, xa_cons, xe_call, xe_cb, xe_and, xe_or, xe_chain, xt_tru, xt_val, xt_not, xt_and, xt_or, xt_if, xt_yes, xit_val, xit_on, startD, xe_tup0, xe_tup1, xe_tup2, xe_tup3, xe_tup4, xe_tup5, xe_tup6, xe_lst0, xe_lst1, xe_lst2, xe_lst3, xe_lst4, xe_lst5, xe_lst6, xe_lst7, xe_lst8, xe_lst9, xe_lst10, xe_lst11, xe_lst12, xe_lst13, xe_lst14, xe_lst15, xe_lst16, so_add, so_sub, so_mul, so_fdiv, so_mod, so_lt, so_le, so_gt, so_ge, so_neg, so_notb, so_int, so_lenT, eq_int, ne_int, tru_int, tru_bl, tru_tup, tru_non, boolOf_bl, so_ix0, so_ix1, so_ix2, eq_str, ne_str, List.getElem?_cons_succ, List.getElem?_cons_zero, List.set_cons_succ, List.set_cons_zero, List.length_cons, List.length_nil, List.map_cons, List.map_nil, List.cons_append, List.nil_append, List.replicate, Nat.reduceAdd, Nat.zero_add, true_and]
  simp only [Int.reduceBEq, Int.reduceLT, decide_true, decide_false, if_true, if_false, Bool.false_eq_true]
  exact h.mono (fun _ _ h => h) fun _ _ _ h => ⟨by decide, h⟩
theorem told_2 (ne : NE C) {b c d e : D} (h : XSat (F_strokes C [b, c, d] S) P (XT C P)) : Sat (F_l_told C [.int 2, b, c, d, e] S) P := by
  refine told_run ne ?_
  unfold tB
  try simp only [x_seq, x_nil, x_drop, x_ret, x_retN, x_if, x_asg1, x_par, x_raise, xe_var, xe_c, xe_op1, xe_op2, xe_if, xa_nil, xa_cons, xe_call, xe_cb, xe_and, xe_or, xe_chain, xt_tru, xt_val, xt_not, xt_and, xt_or, xt_if, xt_yes, xit_val, xit_on, startD, xe_tup0, xe_tup1, xe_tup2, xe_tup3, xe_tup4, xe_tup5, xe_tup6, xe_lst0, xe_lst1, xe_lst2, xe_lst3, xe_lst4, xe_lst5, xe_lst6, xe_lst7, xe_lst8, xe_lst9, xe_lst10, xe_lst11, xe_lst12, xe_lst13, xe_lst14, xe_lst15, xe_lst16, so_add, so_sub, so_mul, so_fdiv, so_mod, so_lt, so_le, so_gt, so_ge, so_neg, so_notb, so_int, so_lenT, eq_int, ne_int, tru_int, tru_bl, tru_tup, tru_non, boolOf_bl, so_ix0, so_ix1, so_ix2, eq_str, ne_str, List.getElem?_cons_succ, List.getElem?_cons_zero, List.set_cons_succ, List.set_cons_zero, List.length_cons, List.length_nil, List.map_cons, List.map_nil, List.cons_append, List.nil_append, List.replicate, Nat.reduceAdd, Nat.zero_add, true_and]
  simp only [Int.reduceBEq, Int.reduceLT, decide_true, decide_false, if_true, if_false, Bool.false_eq_true]
  exact h.mono (fun _ _ h => h) fun _ _ _ h => ⟨by decide, h⟩
theorem told_3 (ne : NE C) {b c d e : D} (h : XSat (F_hours_for C [b, c, d] S) P (XT C P)) : Sat (F_l_told C [.int 3, b, c, d, e] S) P := by
  refine told_run ne ?_
  unfold tB
  try simp only [x_seq, x_nil, x_drop, x_ret, x_retN, x_if, x_asg1, x_par, x_raise, xe_var, xe_c, xe_op1, xe_op2, xe_if, xa_nil, xa_cons, xe_call, xe_cb, xe_and, xe_or, xe_chain, xt_tru, xt_val, xt_not, xt_and, xt_or, xt_if, xt_yes, xit_val, xit_on, startD, xe_tup0, xe_tup1, xe_tup2, xe_tup3, xe_tup4, xe_tup5, xe_tup6, xe_lst0, xe_lst1, xe_lst2, xe_lst3, xe_lst4, xe_lst5, xe_lst6, xe_lst7, xe_lst8, xe_lst9, xe_lst10, xe_lst11, xe_lst12, xe_lst13, xe_lst14, xe_lst15, xe_lst16, so_add, so_sub, so_mul, so_fdiv, so_mod, so_lt, so_le, so_gt, so_ge, so_neg, so_notb, so_int, so_lenT, eq_int, ne_int, tru_int, tru_bl, tru_tup, tru_non, boolOf_bl, so_ix0, so_ix1, so_ix2, eq_str, ne_str, List.getElem?_cons_succ, List.getElem?_cons_zero, List.set_cons_succ, List.set_cons_zero, List.length_cons, List.length_nil, List.map_cons, List.map_nil, List.cons_append, List.nil_append, List.replicate, Nat.reduceAdd, Nat.zero_add, true_and]
  simp only [Int.reduceBEq, Int.reduceLT, decide_true, decide_false, if_true, if_false, Bool.false_eq_true]
  exact h.mono (fun _ _ h => h) fun _ _ _ h => ⟨by decide, h⟩
theorem told_4 (ne : NE C) {b c d e : D} (h : XSat (F_pulls C [b, c, d] S) P (XT C P)) : Sat (F_l_told C [.int 4, b, c, d, e] S) P := by
  refine told_run ne ?_
  unfold tB
  try simp only [x_seq, x_nil, x_drop, x_ret, x_retN, x_if, x_asg1, x_par, x_raise, xe_var, xe_c, xe_op1, xe_op2, xe_if, xa_nil, xa_cons, xe_call, xe_cb, xe_and, xe_or, xe_chain, xt_tru, xt_val, xt_not, xt_and, xt_or, xt_if, xt_yes, xit_val, xit_on, startD, xe_tup0, xe_tup1, xe_tup2, xe_tup3, xe_tup4, xe_tup5, xe_tup6, xe_lst0, xe_lst1, xe_lst2, xe_lst3, xe_lst4, xe_lst5, xe_lst6, xe_lst7, xe_lst8, xe_lst9, xe_lst10, xe_lst11, xe_lst12, xe_lst13, xe_lst14, xe_lst15, xe_lst16, so_add, so_sub, so_mul, so_fdiv, so_mod, so_lt, so_le, so_gt, so_ge, so_neg, so_notb, so_int, so_lenT, eq_int, ne_int, tru_int, tru_bl, tru_tup, tru_non, boolOf_bl, so_ix0, so_ix1, so_ix2, eq_str, ne_str, List.getElem?_cons_succ, List.getElem?_cons_zero, List.set_cons_succ, List.set_cons_zero, List.length_cons, List.length_nil, List.map_cons, List.map_nil, List.cons_append, List.nil_append, List.replicate, Nat.reduceAdd, Nat.zero_add, true_and]
  simp only [Int.reduceBEq, Int.reduceLT, decide_true, decide_false, if_true, if_false, Bool.false_eq_true]
  exact h.mono (fun _ _ h => h) fun _ _ _ h => ⟨by decide, h⟩
theorem told_5 (ne : NE C) {b c d e : D} (h : XSat (F_first_unlike C [b, c, d, e] S) P (XT C P)) : Sat (F_l_told C [.int 5, b, c, d, e] S) P := by
  refine told_run ne ?_
  unfold tB
  try simp only [x_seq, x_nil, x_drop, x_ret, x_retN, x_if, x_asg1, x_par, x_raise, xe_var, xe_c, xe_op1, xe_op2, xe_if, xa_nil, xa_cons, xe_call, xe_cb, xe_and, xe_or, xe_chain, xt_tru, xt_val, xt_not, xt_and, xt_or, xt_if, xt_yes, xit_val, xit_on, startD, xe_tup0, xe_tup1, xe_tup2, xe_tup3, xe_tup4, xe_tup5, xe_tup6, xe_lst0, xe_lst1, xe_lst2, xe_lst3, xe_lst4, xe_lst5, xe_lst6, xe_lst7, xe_lst8, xe_lst9, xe_lst10, xe_lst11, xe_lst12, xe_lst13, xe_lst14, xe_lst15, xe_lst16, so_add, so_sub, so_mul, so_fdiv, so_mod, so_lt, so_le, so_gt, so_ge, so_neg, so_notb, so_int, so_lenT, eq_int, ne_int, tru_int, tru_bl, tru_tup, tru_non, boolOf_bl, so_ix0, so_ix1, so_ix2, eq_str, ne_str, List.getElem?_cons_succ, List.getElem?_cons_zero, List.set_cons_succ, List.set_cons_zero, List.length_cons, List.length_nil, List.map_cons, List.map_nil, List.cons_append, List.nil_append, List.replicate, Nat.reduceAdd, Nat.zero_add, true_and]
  simp only [Int.reduceBEq, Int.reduceLT, decide_true, decide_false, if_true, if_false, Bool.false_eq_true]
  exact h.mono (fun _ _ h => h) fun _ _ _ h => ⟨by decide, h⟩
theorem told_6 (ne : NE C) {b c d e : D} (h : XSat (F_wheel_of C [b] S) P (XT C P)) : Sat (F_l_told C [.int 6, b, c, d, e] S) P := by
  refine told_run ne ?_
  unfold tB
  try simp only [x_seq, x_nil, x_drop, x_ret, x_retN, x_if, x_asg1, x_par, x_raise, xe_var, xe_c, xe_op1, xe_op2, xe_if, xa_nil, xa_cons, xe_call, xe_cb, xe_and, xe_or, xe_chain, xt_tru, xt_val, xt_not, xt_and, xt_or, xt_if, xt_yes, xit_val, xit_on, startD, xe_tup0, xe_tup1, xe_tup2, xe_tup3, xe_tup4, xe_tup5, xe_tup6, xe_lst0, xe_lst1, xe_lst2, xe_lst3, xe_lst4, xe_lst5, xe_lst6, xe_lst7, xe_lst8, xe_lst9, xe_lst10, xe_lst11, xe_lst12, xe_lst13, xe_lst14, xe_lst15, xe_lst16, so_add, so_sub, so_mul, so_fdiv, so_mod, so_lt, so_le, so_gt, so_ge, so_neg, so_notb, so_int, so_lenT, eq_int, ne_int, tru_int, tru_bl, tru_tup, tru_non, boolOf_bl, so_ix0, so_ix1, so_ix2, eq_str, ne_str, List.getElem?_cons_succ, List.getElem?_cons_zero, List.set_cons_succ, List.set_cons_zero, List.length_cons, List.length_nil, List.map_cons, List.map_nil, List.cons_append, List.nil_append, List.replicate, Nat.reduceAdd, Nat.zero_add, true_and]
  simp only [Int.reduceBEq, Int.reduceLT, decide_true, decide_false, if_true, if_false, Bool.false_eq_true]
  exact h.mono (fun _ _ h => h) fun _ _ _ h => ⟨by decide, h⟩
theorem told_7 (ne : NE C) {b c d e : D} (h : XSat (F_struck C [b, c] S) P (XT C P)) : Sat (F_l_told C [.int 7, b, c, d, e] S) P := by
  refine told_run ne ?_
  unfold tB
  try simp only [x_seq, x_nil, x_drop, x_ret, x_retN, x_if, x_asg1, x_par, x_raise, xe_var, xe_c, xe_op1, xe_op2, xe_if, xa_nil, xa_cons, xe_call, xe_cb, xe_and, xe_or, xe_chain, xt_tru, xt_val, xt_not, xt_and, xt_or, xt_if, xt_yes, xit_val, xit_on, startD, xe_tup0, xe_tup1, xe_tup2, xe_tup3, xe_tup4, xe_tup5, xe_tup6, xe_lst0, xe_lst1, xe_lst2, xe_lst3, xe_lst4, xe_lst5, xe_lst6, xe_lst7, xe_lst8, xe_lst9, xe_lst10, xe_lst11, xe_lst12, xe_lst13, xe_lst14, xe_lst15, xe_lst16, so_add, so_sub, so_mul, so_fdiv, so_mod, so_lt, so_le, so_gt, so_ge, so_neg, so_notb, so_int, so_lenT, eq_int, ne_int, tru_int, tru_bl, tru_tup, tru_non, boolOf_bl, so_ix0, so_ix1, so_ix2, eq_str, ne_str, List.getElem?_cons_succ, List.getElem?_cons_zero, List.set_cons_succ, List.set_cons_zero, List.length_cons, List.length_nil, List.map_cons, List.map_nil, List.cons_append, List.nil_append, List.replicate, Nat.reduceAdd, Nat.zero_add, true_and]
  simp only [Int.reduceBEq, Int.reduceLT, decide_true, decide_false, if_true, if_false, Bool.false_eq_true]
  exact h.mono (fun _ _ h => h) fun _ _ _ h => ⟨by decide, h⟩
theorem told_8 (ne : NE C) {b c d e : D} (h : XSat (F_wrong_hours C [b, c] S) P (XT C P)) : Sat (F_l_told C [.int 8, b, c, d, e] S) P := by
  refine told_run ne ?_
  unfold tB
  try simp only [x_seq, x_nil, x_drop, x_ret, x_retN, x_if, x_asg1, x_par, x_raise, xe_var, xe_c, xe_op1, xe_op2, xe_if, xa_nil, xa_cons, xe_call, xe_cb, xe_and, xe_or, xe_chain, xt_tru, xt_val, xt_not, xt_and, xt_or, xt_if, xt_yes, xit_val, xit_on, startD, xe_tup0, xe_tup1, xe_tup2, xe_tup3, xe_tup4, xe_tup5, xe_tup6, xe_lst0, xe_lst1, xe_lst2, xe_lst3, xe_lst4, xe_lst5, xe_lst6, xe_lst7, xe_lst8, xe_lst9, xe_lst10, xe_lst11, xe_lst12, xe_lst13, xe_lst14, xe_lst15, xe_lst16, so_add, so_sub, so_mul, so_fdiv, so_mod, so_lt, so_le, so_gt, so_ge, so_neg, so_notb, so_int, so_lenT, eq_int, ne_int, tru_int, tru_bl, tru_tup, tru_non, boolOf_bl, so_ix0, so_ix1, so_ix2, eq_str, ne_str, List.getElem?_cons_succ, List.getElem?_cons_zero, List.set_cons_succ, List.set_cons_zero, List.length_cons, List.length_nil, List.map_cons, List.map_nil, List.cons_append, List.nil_append, List.replicate, Nat.reduceAdd, Nat.zero_add, true_and]
  simp only [Int.reduceBEq, Int.reduceLT, decide_true, decide_false, if_true, if_false, Bool.false_eq_true]
  exact h.mono (fun _ _ h => h) fun _ _ _ h => ⟨by decide, h⟩
theorem told_9 (ne : NE C) {b c d e : D} (h : XSat (F_pulls_needed C [b, c] S) P (XT C P)) : Sat (F_l_told C [.int 9, b, c, d, e] S) P := by
  refine told_run ne ?_
  unfold tB
  try simp only [x_seq, x_nil, x_drop, x_ret, x_retN, x_if, x_asg1, x_par, x_raise, xe_var, xe_c, xe_op1, xe_op2, xe_if, xa_nil, xa_cons, xe_call, xe_cb, xe_and, xe_or, xe_chain, xt_tru, xt_val, xt_not, xt_and, xt_or, xt_if, xt_yes, xit_val, xit_on, startD, xe_tup0, xe_tup1, xe_tup2, xe_tup3, xe_tup4, xe_tup5, xe_tup6, xe_lst0, xe_lst1, xe_lst2, xe_lst3, xe_lst4, xe_lst5, xe_lst6, xe_lst7, xe_lst8, xe_lst9, xe_lst10, xe_lst11, xe_lst12, xe_lst13, xe_lst14, xe_lst15, xe_lst16, so_add, so_sub, so_mul, so_fdiv, so_mod, so_lt, so_le, so_gt, so_ge, so_neg, so_notb, so_int, so_lenT, eq_int, ne_int, tru_int, tru_bl, tru_tup, tru_non, boolOf_bl, so_ix0, so_ix1, so_ix2, eq_str, ne_str, List.getElem?_cons_succ, List.getElem?_cons_zero, List.set_cons_succ, List.set_cons_zero, List.length_cons, List.length_nil, List.map_cons, List.map_nil, List.cons_append, List.nil_append, List.replicate, Nat.reduceAdd, Nat.zero_add, true_and]
  simp only [Int.reduceBEq, Int.reduceLT, decide_true, decide_false, if_true, if_false, Bool.false_eq_true]
  exact h.mono (fun _ _ h => h) fun _ _ _ h => ⟨by decide, h⟩
theorem xa {r : Str} {S' : SS} (h : P (arg r) S') : AE C (XT C P) r S' := .inl ⟨rfl, r, rfl, h⟩
theorem xl {n : Int} {S' : SS} (h : P (lgd n) S') : LE' C (XT C P) n S' := .inr ⟨rfl, n, rfl, h⟩
theorem ft {b : Bool} (h : b = true) (z : b = false) {Q : Prop} : Q := by rw [h] at z; cases z
theorem nI_inj {a b : Nat} (h : D.int (nI a) = .int (nI b)) : a = b := by
  injection h with h
  rw [nI_eq, nI_eq] at h
  omega
theorem place_in {p n : Nat} (h : p < n) : isR (.int (nI p)) 0 (nI n - 1) = true := isR_of (by rw [nI_eq]; omega) (by rw [nI_eq, nI_eq]; omega)
theorem num_in {p : Nat} (h : p ≤ 1000000000) : isR (.int (nI p)) 0 1000000000 = true := isR_of (by rw [nI_eq]; omega) (by rw [nI_eq]; omega)
theorem aP_nI {p : Nat} : aP (.int (nI p)) = true := rfl
section
variable {ws us : List Int} {pl sp u p h c : Nat} {x1 x2 x3 x4 : D} (ne : NE C) (hw : Wh ws)
include ne hw
theorem told_notches (k : ∀ l, P (wD (sumsL ws)) (S ++ l)) : Sat (F_l_told C [.int 0, wD ws, x2, x3, x4] S) P :=
  told_0 ne (notches_x hw.aP (fun z => ft (whB_wh hw) z) fun ws' e _ l => by rw [← wD_inj e]; exact k l)
theorem told_period (hp : Per ws p) (k : ∀ l, P (.int (nI p)) (S ++ l)) : Sat (F_l_told C [.int 1, wD ws, x2, x3, x4] S) P :=
  told_1 ne (period_x hw.aP (fun z => ft (whB_wh hw) z) fun ws' p' e _ hp' l => by
    have e := wD_inj e
    subst e
    rw [hp'.uniq hp]
    exact k l)
theorem told_strokes (hp : pl < ws.length) (hh : h ≤ 1000000000) (k : ∀ l, P (.int (stk ws pl h)) (S ++ l)) : Sat (F_l_told C [.int 2, wD ws, .int (nI pl), .int (nI h), x4] S) P :=
  told_2 ne (strokes_x hw.aP aP_nI (fun z => ft (whB_wh hw) z) (fun ws' e _ z => ft (place_in (wD_inj e ▸ hp)) z) aP_nI (fun _ _ _ _ _ _ z => ft (num_in hh) z) fun ws' pl' h' e1 e2 e3 _ _ _ l => by
    have e1 := wD_inj e1
    have e2 := nI_inj e2
    have e3 := nI_inj e3
    subst e1 e2 e3
    exact k l)
theorem told_hours (hp : pl < ws.length) (hc : c ≤ 1000000000) (hh : Hr ws pl (c : Int) h) (k : ∀ l, P (.int (nI h)) (S ++ l)) : Sat (F_l_told C [.int 3, wD ws, .int (nI pl), .int (nI c), x4] S) P :=
  told_3 ne (hours_for_x hw.aP aP_nI (fun z => ft (whB_wh hw) z) (fun ws' e _ z => ft (place_in (wD_inj e ▸ hp)) z) aP_nI (fun _ _ _ _ _ _ z => ft (num_in hc) z) fun ws' pl' c' h' _ e1 e2 e3 _ _ hh' l => by
    have e1 := wD_inj e1
    have e2 := nI_inj e2
    have e3 := nI_inj e3
    subst e1 e2 e3
    rw [hh'.uniq hh]
    exact k l)
theorem told_pulls (hp : pl < ws.length) (hu : u < ws.length) (pp : Per ws p) (k : ∀ l, P (.int (pul p pl u)) (S ++ l)) : Sat (F_l_told C [.int 4, wD ws, .int (nI pl), .int (nI u), x4] S) P :=
  told_4 ne (pulls_x hw.aP aP_nI (fun z => ft (whB_wh hw) z) (fun ws' e _ z => ft (place_in (wD_inj e ▸ hp)) z) aP_nI (fun ws' _ e _ _ _ z => ft (place_in (wD_inj e ▸ hu)) z) fun ws' pl' u' p' e1 e2 e3 _ _ _ pp' l => by
    have e1 := wD_inj e1
    have e2 := nI_inj e2
    have e3 := nI_inj e3
    subst e1 e2 e3
    rw [pp'.uniq pp]
    exact k l)
theorem told_unlike (hu : Wh us) (hp : pl < ws.length) (hs : sp < us.length) (k : ∀ l, P (oN (unl ws pl us sp)) (S ++ l)) : Sat (F_l_told C [.int 5, wD ws, .int (nI pl), wD us, .int (nI sp)] S) P :=
  told_5 ne (first_unlike_x hw.aP aP_nI hu.aP aP_nI (fun z => ft (whB_wh hw) z) (fun ws' e _ z => ft (place_in (wD_inj e ▸ hp)) z) (fun _ _ _ _ _ _ z => ft (whB_wh hu) z) (fun _ _ us' _ _ e _ _ _ z => ft (place_in (wD_inj e ▸ hs)) z) fun ws' pl' us' sp' e1 e2 e3 e4 _ _ _ _ l => by
    have e1 := wD_inj e1
    have e2 := nI_inj e2
    have e3 := wD_inj e3
    have e4 := nI_inj e4
    subst e1 e2 e3 e4
    exact k l)
end
end
end K56
set_option Elab.async false
set_option linter.all false
set_option maxRecDepth 100000
set_option maxHeartbeats 2000000
namespace K56
open PySem L2 DL
section
variable {C : CA} {S : SS} {P : D → SS → Prop} {Pb : Bool → SS → Prop} {X : XQ} {Y : Sl → XQ} {Pn : Sl → SS → Prop}
/-! the law's own run -/
theorem so_addW1 {ws : List Int} {i : Int} (h : ws.length ≤ 100000) : SatO (binD .Add (wD ws) (.tup [.int i]) S) P = P (wD (ws ++ [i])) S := by
  rw [wD_eq, so_addT (by rw [List.length_map]; simp; omega)]
  have : ws.map D.int ++ [D.int i] = (ws ++ [i]).map .int := by rw [List.map_append]; rfl
  rw [this, ← wD_eq]
def runD (ws : List Int) (gs : List Dd) : D := .tup [.tup [.int (nI (run ws gs).pl), .int (nI (run ws gs).hr), wD (run ws gs).hd], wD (run ws gs).wr]
theorem run_wr {ws : List Int} {gs : List Dd} : (run ws gs).wr.length ≤ gs.length := by
  have key : ∀ (us : List Dd) (r : Rs), (us.foldl (stp ws) r).wr.length ≤ r.wr.length + us.length := by
    intro us
    induction us with
    | nil => exact fun r => Nat.le_refl _
    | cons u us ih =>
      intro r
      rw [List.foldl_cons]
      refine Nat.le_trans (ih _) ?_
      have := stp_wr (ws := ws) (r := r) (u := u)
      rw [List.length_cons]
      omega
  have := key gs ⟨0, 0, [], []⟩
  refine Nat.le_trans this ?_
  show 0 + gs.length ≤ _
  omega
theorem wD_nil : D.tup [] = wD [] := by rw [wD_eq]; rfl
theorem l_run_sat {ws : List Int} {ds : List D} {T : D} (hT : D.tup ds = T) (hw : Wh ws) (ha : ∀ d ∈ ds, aP d = true) (hl : ds.length ≤ 400) (kb : ∀ j, Bad ds j → P (.tup [.non, .int (nI j)]) S) (k : ∀ gs, ds = gs.map dD → P (runD ws gs) S) : Sat (F_l_run C [wD ws, T] S) P := by
  rw [sem_l_run]
  refine XSat.s (x_fn ?_)
  unfold B_l_run
  have l1 := hw.l1
  have l2 := hw.l2
  have pw := nI_pos l1
  simp only [startD, List.getElem?_cons_succ, List.getElem?_cons_zero, List.set_cons_succ, List.set_cons_zero, List.length_cons, List.length_nil, List.map_cons, List.map_nil, List.cons_append, List.nil_append, List.replicate, Nat.reduceAdd, Nat.zero_add, true_and]
  rw [x_seq, x_asgN]
  simp only [xe_tup4, xe_tup0, xe_c, bind_many4, List.getElem?_cons_succ, List.getElem?_cons_zero, List.set_cons_succ, List.set_cons_zero, List.length_cons, List.length_nil, List.map_cons, List.map_nil, List.cons_append, List.nil_append, List.replicate, Nat.reduceAdd, Nat.zero_add, true_and]
  rw [x_seq]
  have z0 : D.int 0 = .int (nI 0) := by rw [nI_eq]; rfl
  refine x_forR (n := ds.length) (fun j δ S' => S' = S ∧ ∃ gs o1 o7, ds.take j = gs.map dD ∧ δ = [some (wD ws), some T, o1, some (.int (nI (run ws gs).pl)), some (.int (nI (run ws gs).hr)), some (wD (run ws gs).hd), some (wD (run ws gs).wr), o7]) (by omega) (fun Q h => by
    simp only [xa_cons, xa_nil, xe_cb, xe_var, List.getElem?_cons_succ, List.getElem?_cons_zero, List.set_cons_succ, List.set_cons_zero, List.length_cons, List.length_nil, List.map_cons, List.map_nil, List.cons_append, List.nil_append, List.replicate, Nat.reduceAdd, Nat.zero_add, true_and]
    rw [← hT, so_lenN]
    exact h) ⟨rfl, [], none, none, rfl, ?_⟩ ?_ ?_
  · rw [z0, wD_nil]
    rfl
  · rintro j δ S' hj ⟨rfl, gs, o1, o7, hgs, rfl⟩
    have hlen : gs.length = j := by
      have := congrArg List.length hgs
      rw [List.length_take, List.length_map] at this
      omega
    have hd := List.getElem?_eq_getElem hj
    generalize ds[j] = d at hd
    have hix : ∀ (S : SS) (Q : D → SS → Prop), Q d S → SatO (ixD T (.int (nI j)) S) Q := fun S Q h => by
      rw [← hT, so_ixT hd nI_eq]
      exact h
    refine ⟨_, rfl, ?_⟩
    simp only [List.getElem?_cons_succ, List.getElem?_cons_zero, List.set_cons_succ, List.set_cons_zero, List.length_cons, List.length_nil, List.map_cons, List.map_nil, List.cons_append, List.nil_append, List.replicate, Nat.reduceAdd, Nat.zero_add, true_and]
    rw [x_seq, x_if]
    refine deed_testB (d := d) (ha d (List.mem_of_getElem? hd)) (fun Q h => by simp only [xe_op2, xe_var, List.getElem?_cons_succ, List.getElem?_cons_zero, List.set_cons_succ, List.set_cons_zero, List.length_cons, List.length_nil, List.map_cons, List.map_nil, List.cons_append, List.nil_append, List.replicate, Nat.reduceAdd, Nat.zero_add, true_and]; exact hix _ _ h) ?_
    cases hk : okD d with
    | false =>
      simp only [Bool.not_false, if_true]
      rw [x_seq]
      simp only [x_ret, xe_tup2, xe_c, xe_var, List.getElem?_cons_succ, List.getElem?_cons_zero, List.set_cons_succ, List.set_cons_zero, List.length_cons, List.length_nil, List.map_cons, List.map_nil, List.cons_append, List.nil_append, List.replicate, Nat.reduceAdd, Nat.zero_add, true_and]
      refine kb j ⟨d, hd, hk, fun i e hij he => ?_⟩
      have : (ds.take j)[i]? = some e := by rw [List.getElem?_take_of_lt hij, he]
      rw [hgs] at this
      obtain ⟨g, _, rfl⟩ := get_dD this
      exact okD_dD g
    | true =>
      obtain ⟨g, rfl⟩ := okD_of hk
      simp only [Bool.not_true, Bool.false_eq_true, if_false, x_nil]
      have hpl := run_pl l1 (gs := gs)
      have hhd := run_hd (ws := ws) (gs := gs)
      have hwr := run_wr (ws := ws) (gs := gs)
      have hst : run ws (gs ++ [g]) = stp ws (run ws gs) g := by unfold run; rw [List.foldl_append]; rfl
      have hta : ds.take (j + 1) = (gs ++ [g]).map dD := by
        rw [List.take_add_one, hd, hgs, List.map_append]
        rfl
      generalize run ws gs = r at *
      have hjd : nI j = nI r.hd.length := by rw [hhd, hlen]
      generalize ht : (if g = .stuck then 0 else ws.getD r.pl 0) = t
      have e_hd : (stp ws r g).hd = r.hd ++ [t] := by rw [← ht]; rfl
      have e_wr : (stp ws r g).wr = if g = .pull then r.wr else if t = ws.getD (r.hr % ws.length) 0 then r.wr else r.wr ++ [nI j] := by rw [← ht, hjd]; rfl
      rw [x_seq, x_asg1]
      have he : ∀ Q : D → SS → Prop, Q (.int t) S' → XSat (eIf (tVal (eOp2 (cmpD .Eq) (eOp2 ixD (eVar 1) (eVar 2)) (eC (.str "stuck")))) (eC (.int 0)) (eOp2 ixD (eVar 0) (eVar 3)) [some (wD ws), some T, some (.int (nI j)), some (.int (nI r.pl)), some (.int (nI r.hr)), some (wD r.hd), some (wD r.wr), o7] S') Q noX := fun Q h => by
        rw [xe_if, xt_val]
        simp only [xe_op2, xe_var, xe_c, List.getElem?_cons_succ, List.getElem?_cons_zero, List.set_cons_succ, List.set_cons_zero, List.length_cons, List.length_nil, List.map_cons, List.map_nil, List.cons_append, List.nil_append, List.replicate, Nat.reduceAdd, Nat.zero_add, true_and]
        refine hix _ _ ?_
        rw [eq_dD, dS_stuck]
        simp only [boolOf_bl]
        by_cases hg : g = .stuck
        · rw [if_pos hg] at ht
          rw [decide_eq_true hg, if_pos rfl, ht]
          exact h
        · rw [if_neg hg] at ht
          rw [decide_eq_false hg, if_neg (by decide), ix_w hpl nI_eq, ht]
          exact h
      refine he _ ?_
      simp only [List.getElem?_cons_succ, List.getElem?_cons_zero, List.set_cons_succ, List.set_cons_zero, List.length_cons, List.length_nil, List.map_cons, List.map_nil, List.cons_append, List.nil_append, List.replicate, Nat.reduceAdd, Nat.zero_add, true_and]
      rw [x_seq, x_if, xt_val]
      simp only [xe_op2, xe_var, xe_c, List.getElem?_cons_succ, List.getElem?_cons_zero, List.set_cons_succ, List.set_cons_zero, List.length_cons, List.length_nil, List.map_cons, List.map_nil, List.cons_append, List.nil_append, List.replicate, Nat.reduceAdd, Nat.zero_add, true_and]
      refine hix _ _ ?_
      rw [ne_dD, dS_pull]
      simp only [boolOf_bl]
      have last : ∀ (hr : Nat) (wr : List Int), hr = (stp ws r g).hr → wr = (stp ws r g).wr → XR (sSeq (sAsg (eIf (tVal (eOp2 (cmpD .Eq) (eOp2 ixD (eVar 1) (eVar 2)) (eC (.str "stuck")))) (eVar 3) (eOp2 (binD .Mod) (eCB (one intD) (aCons (eOp2 (binD .Add) (eVar 3) (eC (.int 1))) aNil)) (eCB (one lenD) (aCons (eVar 0) aNil)))) (.one 3)) (sSeq (sAsg (eOp2 (binD .Add) (eVar 5) (eTup (aCons (eVar 7) aNil))) (.one 5)) sNil) [some (wD ws), some T, some (.int (nI j)), some (.int (nI r.pl)), some (.int (nI hr)), some (wD r.hd), some (wD wr), some (.int t)] S') (fun δ S'' => S'' = S' ∧ ∃ gs o1 o7, ds.take (j + 1) = gs.map dD ∧ δ = [some (wD ws), some T, o1, some (.int (nI (run ws gs).pl)), some (.int (nI (run ws gs).hr)), some (wD (run ws gs).hd), some (wD (run ws gs).wr), o7]) P (fun _ => noX) := by
        rintro hr wr rfl rfl
        have fin : ∀ pl : Int, pl = nI (stp ws r g).pl → XR (sSeq (sAsg (eOp2 (binD .Add) (eVar 5) (eTup (aCons (eVar 7) aNil))) (.one 5)) sNil [some (wD ws), some T, some (.int (nI j)), some (.int pl), some (.int (nI (stp ws r g).hr)), some (wD r.hd), some (wD (stp ws r g).wr), some (.int t)] S') (fun δ S'' => S'' = S' ∧ ∃ gs o1 o7, ds.take (j + 1) = gs.map dD ∧ δ = [some (wD ws), some T, o1, some (.int (nI (run ws gs).pl)), some (.int (nI (run ws gs).hr)), some (wD (run ws gs).hd), some (wD (run ws gs).wr), o7]) P (fun _ => noX) := by
          rintro pl rfl
          rw [x_seq]
          simp only [x_asg1, xe_op2, xe_tup1, xe_var, so_addW1 (show r.hd.length ≤ 100000 by omega), x_nil, List.getElem?_cons_succ, List.getElem?_cons_zero, List.set_cons_succ, List.set_cons_zero, List.length_cons, List.length_nil, List.map_cons, List.map_nil, List.cons_append, List.nil_append, List.replicate, Nat.reduceAdd, Nat.zero_add, true_and]
          exact ⟨gs ++ [g], _, _, hta, by rw [hst, e_hd]⟩
        rw [x_seq, x_asg1, xe_if, xt_val]
        simp only [xe_op2, xe_var, xe_c, List.getElem?_cons_succ, List.getElem?_cons_zero, List.set_cons_succ, List.set_cons_zero, List.length_cons, List.length_nil, List.map_cons, List.map_nil, List.cons_append, List.nil_append, List.replicate, Nat.reduceAdd, Nat.zero_add, true_and]
        refine hix _ _ ?_
        rw [eq_dD, dS_stuck]
        simp only [boolOf_bl]
        by_cases hg : g = .stuck
        · rw [decide_eq_true hg, if_pos rfl]
          have e : (stp ws r g).pl = r.pl := if_pos hg
          exact fin _ (by rw [e])
        · rw [decide_eq_false hg, if_neg (by decide)]
          simp only [xe_cb, xe_op2, xa_cons, xa_nil, xe_var, xe_c, so_add, so_int, len_w, so_mod, List.getElem?_cons_succ, List.getElem?_cons_zero, List.set_cons_succ, List.set_cons_zero, List.length_cons, List.length_nil, List.map_cons, List.map_nil, List.cons_append, List.nil_append, List.replicate, Nat.reduceAdd, Nat.zero_add, true_and]
          refine ⟨by omega, ?_⟩
          rw [fmod_pos pw, nI_one, nI_mod]
          have e : (stp ws r g).pl = (r.pl + 1) % ws.length := if_neg hg
          exact fin _ (by rw [e])
      by_cases hg : g = .pull
      · rw [decide_eq_true hg]
        simp only [Bool.not_true, Bool.false_eq_true, if_false, x_nil]
        have ea : (stp ws r g).hr = r.hr := if_pos hg
        exact last _ _ ea.symm (by rw [e_wr, if_pos hg])
      · rw [decide_eq_false hg]
        simp only [Bool.not_false, if_true]
        have ea : (stp ws r g).hr = r.hr + 1 := if_neg hg
        rw [x_seq, x_asg1, xe_if, xt_val]
        simp only [xe_op2, xe_cb, xa_cons, xa_nil, xe_var, so_int, len_w, so_mod, List.getElem?_cons_succ, List.getElem?_cons_zero, List.set_cons_succ, List.set_cons_zero, List.length_cons, List.length_nil, List.map_cons, List.map_nil, List.cons_append, List.nil_append, List.replicate, Nat.reduceAdd, Nat.zero_add, true_and]
        refine ⟨by omega, ?_⟩
        rw [fmod_pos pw, nI_mod, ix_w (Nat.mod_lt _ l1) nI_eq, ne_int]
        simp only [boolOf_bl]
        have tail : ∀ wr : List Int, wr = (stp ws r g).wr → XR (sSeq (sAsg (eOp2 (binD .Add) (eVar 4) (eC (.int 1))) (.one 4)) sNil [some (wD ws), some T, some (.int (nI j)), some (.int (nI r.pl)), some (.int (nI r.hr)), some (wD r.hd), some (wD wr), some (.int t)] S') (fun δ S'' => XR (sSeq (sAsg (eIf (tVal (eOp2 (cmpD .Eq) (eOp2 ixD (eVar 1) (eVar 2)) (eC (.str "stuck")))) (eVar 3) (eOp2 (binD .Mod) (eCB (one intD) (aCons (eOp2 (binD .Add) (eVar 3) (eC (.int 1))) aNil)) (eCB (one lenD) (aCons (eVar 0) aNil)))) (.one 3)) (sSeq (sAsg (eOp2 (binD .Add) (eVar 5) (eTup (aCons (eVar 7) aNil))) (.one 5)) sNil) δ S'') (fun δ S'' => S'' = S' ∧ ∃ gs o1 o7, ds.take (j + 1) = gs.map dD ∧ δ = [some (wD ws), some T, o1, some (.int (nI (run ws gs).pl)), some (.int (nI (run ws gs).hr)), some (wD (run ws gs).hd), some (wD (run ws gs).wr), o7]) P (fun _ => noX)) P (fun _ => noX) := by
          rintro wr rfl
          rw [x_seq]
          simp only [x_asg1, xe_op2, xe_var, xe_c, so_add, nI_one, x_nil, List.getElem?_cons_succ, List.getElem?_cons_zero, List.set_cons_succ, List.set_cons_zero, List.length_cons, List.length_nil, List.map_cons, List.map_nil, List.cons_append, List.nil_append, List.replicate, Nat.reduceAdd, Nat.zero_add, true_and]
          exact last _ _ ea.symm rfl
        by_cases hne : t = ws.getD (r.hr % ws.length) 0
        · have h1 : (!(t == ws.getD (r.hr % ws.length) 0)) = false := by rw [hne, beq_self_eq_true]; rfl
          rw [h1, if_neg (by decide)]
          exact tail r.wr (by rw [e_wr, if_neg hg, if_pos hne])
        · have h1 : (!(t == ws.getD (r.hr % ws.length) 0)) = true := by rw [beq_eq_false_iff_ne.mpr hne]; rfl
          rw [h1, if_pos rfl]
          simp only [xe_tup1, xe_var, so_addW1 (show r.wr.length ≤ 100000 by omega), List.getElem?_cons_succ, List.getElem?_cons_zero, List.set_cons_succ, List.set_cons_zero, List.length_cons, List.length_nil, List.map_cons, List.map_nil, List.cons_append, List.nil_append, List.replicate, Nat.reduceAdd, Nat.zero_add, true_and]
          exact tail _ (by rw [e_wr, if_neg hg, if_neg hne])
  · rintro δ S' ⟨rfl, gs, o1, o7, hgs, rfl⟩
    rw [List.take_length] at hgs
    rw [x_seq]
    simp only [x_ret, xe_tup3, xe_tup2, xe_var, List.getElem?_cons_succ, List.getElem?_cons_zero, List.set_cons_succ, List.set_cons_zero, List.length_cons, List.length_nil, List.map_cons, List.map_nil, List.cons_append, List.nil_append, List.replicate, Nat.reduceAdd, Nat.zero_add, true_and]
    exact k gs hgs
/-! deeds told -/
section
variable {ws : List Int} {ds : List D} (ne : NE C) (hw : Wh ws) (ha : aP (.tup ds) = true) (hl : ds.length ≤ 400)
include ne hw ha hl
theorem lenB_in : lenB 0 400 (.tup ds) = true := by
  show (decide ((0 : Int) ≤ (ds.length : Int)) && decide ((ds.length : Int) ≤ 400)) = true
  rw [decide_eq_true (by omega), decide_eq_true (by omega)]
  rfl
theorem dsD_tup {gs : List Dd} (h : ds = gs.map dD) {gs' : List Dd} (e : D.tup ds = dsD gs') : gs' = gs := by
  rw [dsD_eq] at e
  injection e with e
  rw [h] at e
  have inj : ∀ a b : Dd, dD a = dD b → a = b := fun a b h => by
    injection h with h
    cases a <;> cases b <;> first | rfl | (exact absurd h (by decide +kernel))
  exact (List.map_inj_right inj).mp e.symm
theorem no_bad {gs : List Dd} (h : ds = gs.map dD) {j : Nat} (hb : Bad ds j) {Q : Prop} : Q := by
  obtain ⟨d, h1, h2, _⟩ := hb
  rw [h] at h1
  obtain ⟨g, _, rfl⟩ := get_dD h1
  rw [okD_dD] at h2
  cases h2
/-- which deeds are told right -/
theorem told_deeds {T : D} (hT : T = .tup ds) {i : Int} (hi : i = 7 ∨ i = 8 ∨ i = 9) {gs : List Dd} {p : Nat} (h : ds = gs.map dD) (hp : Per ws p) (k : ∀ l, P (if i = 7 then .tup [.int (nI (run ws gs).pl), .int (nI (run ws gs).hr), wD (run ws gs).hd] else if i = 8 then wD (run ws gs).wr else .int (pul p (run ws gs).pl (run ws gs).hr)) (S ++ l)) : Sat (F_l_told C [.int i, wD ws, T, .non, .non] S) P := by
  subst hT
  have eq : ∀ {ws' : List Int} {gs' : List Dd}, wD ws = wD ws' → D.tup ds = dsD gs' → ws' = ws ∧ gs' = gs := fun e1 e2 => ⟨(wD_inj e1).symm, dsD_tup ne hw ha hl h e2⟩
  rcases hi with rfl | rfl | rfl
  · refine told_7 ne (struck_x hw.aP ha (fun z => ft (whB_wh hw) z) (fun _ _ _ z => ft (lenB_in ne hw ha hl) z) (fun _ ds' j _ _ e hb => by injection e with e; subst e; exact no_bad ne hw ha hl h hb) fun ws' gs' e1 e2 _ _ l => ?_)
    obtain ⟨rfl, rfl⟩ := eq e1 e2
    exact k l
  · refine told_8 ne (wrong_hours_x hw.aP ha (fun z => ft (whB_wh hw) z) (fun _ _ _ z => ft (lenB_in ne hw ha hl) z) (fun _ ds' j _ _ e hb => by injection e with e; subst e; exact no_bad ne hw ha hl h hb) fun ws' gs' e1 e2 _ _ l => ?_)
    obtain ⟨rfl, rfl⟩ := eq e1 e2
    exact k l
  · refine told_9 ne (pulls_needed_x hw.aP ha (fun z => ft (whB_wh hw) z) (fun _ _ _ z => ft (lenB_in ne hw ha hl) z) (fun _ ds' j _ _ e hb => by injection e with e; subst e; exact no_bad ne hw ha hl h hb) fun ws' gs' p' e1 e2 _ _ pp l => ?_)
    obtain ⟨rfl, rfl⟩ := eq e1 e2
    rw [pp.uniq hp]
    exact k l
theorem told_bad {T : D} (hT : T = .tup ds) {i : Int} (hi : i = 7 ∨ i = 8 ∨ i = 9) {j : Nat} (h : Bad ds j) (k : ∀ l, P (lgd (nI j)) (S ++ l)) : Sat (F_l_told C [.int i, wD ws, T, .non, .non] S) P := by
  subst hT
  have no : ∀ {gs : List Dd} {Q : Prop}, D.tup ds = dsD gs → Q := fun e => by
    rw [dsD_eq] at e
    injection e with e
    exact no_bad ne hw ha hl e h
  have eq : ∀ {ds' : List D} {j' : Nat}, D.tup ds = .tup ds' → Bad ds' j' → j' = j := fun e hb => by
    injection e with e
    subst e
    exact hb.uniq h
  rcases hi with rfl | rfl | rfl
  · exact told_7 ne (struck_x hw.aP ha (fun z => ft (whB_wh hw) z) (fun _ _ _ z => ft (lenB_in ne hw ha hl) z) (fun _ ds' j' _ _ e hb l => by rw [eq e hb]; exact xl (k l)) fun ws' gs' _ e2 _ _ l => no e2)
  · exact told_8 ne (wrong_hours_x hw.aP ha (fun z => ft (whB_wh hw) z) (fun _ _ _ z => ft (lenB_in ne hw ha hl) z) (fun _ ds' j' _ _ e hb l => by rw [eq e hb]; exact xl (k l)) fun ws' gs' _ e2 _ _ l => no e2)
  · exact told_9 ne (pulls_needed_x hw.aP ha (fun z => ft (whB_wh hw) z) (fun _ _ _ z => ft (lenB_in ne hw ha hl) z) (fun _ ds' j' _ _ e hb l => by rw [eq e hb]; exact xl (k l)) fun ws' gs' _ _ e2 _ _ _ l => no e2)
end
end
end K56
set_option Elab.async false
set_option linter.all false
set_option maxRecDepth 100000
set_option maxHeartbeats 2000000
namespace K56
open PySem L2 DL
section
variable {C : CA} {S : SS} {P : D → SS → Prop} {Pb : Bool → SS → Prop} {X : XQ} {Y : Sl → XQ} {Pn : Sl → SS → Prop} {kd ka n : Nat}
theorem pul_mod {p pl h m : Nat} (hd : m % p = 0) : pul p pl (h % m) = pul p pl h := by
  unfold pul
  have h1 : (h : Int) = ((h % m : Nat) : Int) + (p : Int) * (((m / p) * (h / m) : Nat) : Int) := by
    have e1 := Nat.mod_add_div h m
    have e2 := Nat.mod_add_div m p
    rw [hd, Nat.zero_add] at e2
    have e3 : p * ((m / p) * (h / m)) = m * (h / m) := by rw [← Nat.mul_assoc, e2]
    rw [← Int.natCast_mul, e3]
    omega
  have h2 : (h : Int) - (pl : Int) = ((h % m : Nat) : Int) - (pl : Int) + (p : Int) * (((m / p) * (h / m) : Nat) : Int) := by omega
  rw [h2, Int.add_mul_emod_self_left]
theorem nb_run {ws : List Int} {gs : List Dd} (hw : Wh ws) (hg : gs.length ≤ 400) : NB (wD (run ws gs).hd) 250000 1 ∧ NB (wD (run ws gs).wr) 250000 1 ∧ (run ws gs).hr < 2 ^ 90 ∧ (run ws gs).pl < 2 ^ 90 := by
  have h1 := run_hd (ws := ws) (gs := gs)
  have h2 := run_wr (ws := ws) (gs := gs)
  have h3 := run_hr (ws := ws) (gs := gs)
  have h4 := run_pl hw.l1 (gs := gs)
  have h5 := hw.l2
  have ge : ∀ i, (ws.getD i 0).natAbs < 2 ^ 100 := fun i => by
    rw [List.getD_eq_getElem?_getD]
    cases h : ws[i]? with
    | none => exact (by decide : (0 : Int).natAbs < 2 ^ 100)
    | some x =>
      have := hw.c x (List.mem_of_getElem? h)
      show x.natAbs < 2 ^ 100
      omega
  have key : ∀ (us : List Dd) (r : Rs), r.hd.length + us.length ≤ 400 → (∀ x ∈ r.hd, x.natAbs < 2 ^ 100) → (∀ x ∈ r.wr, x.natAbs < 2 ^ 100) → (∀ x ∈ (us.foldl (stp ws) r).hd, x.natAbs < 2 ^ 100) ∧ ∀ x ∈ (us.foldl (stp ws) r).wr, x.natAbs < 2 ^ 100 := by
    intro us
    induction us with
    | nil => exact fun r _ a b => ⟨a, b⟩
    | cons u us ih =>
      intro r hl a b
      rw [List.length_cons] at hl
      rw [List.foldl_cons]
      refine ih _ ?_ (fun x hx => ?_) fun x hx => ?_
      · show (r.hd ++ [_]).length + us.length ≤ 400
        simp
        omega
      · have hx : x ∈ r.hd ++ [if u = .stuck then 0 else ws.getD r.pl 0] := hx
        rcases List.mem_append.mp hx with hx | hx
        · exact a x hx
        · rw [List.mem_singleton.mp hx]
          split
          · decide
          · exact ge _
      · have e : (stp ws r u).wr = if u = .pull then r.wr else if (if u = .stuck then 0 else ws.getD r.pl 0) = ws.getD (r.hr % ws.length) 0 then r.wr else r.wr ++ [nI r.hd.length] := rfl
        rw [e] at hx
        generalize (if u = .stuck then 0 else ws.getD r.pl 0) = a0 at hx
        split at hx
        · exact b x hx
        · split at hx
          · exact b x hx
          · rcases List.mem_append.mp hx with hx | hx
            · exact b x hx
            · rw [List.mem_singleton.mp hx, nI_eq]
              omega
  obtain ⟨k1, k2⟩ := key gs ⟨0, 0, [], []⟩ (by show 0 + gs.length ≤ 400; omega) (fun x hx => by cases hx) (fun x hx => by cases hx)
  refine ⟨(nb_w k1).up ?_ (Nat.le_refl _), (nb_w k2).up ?_ (Nat.le_refl _), by omega, by omega⟩
  · have h1 : (run ws gs).hd.length = gs.length := h1
    show (run ws gs).hd.length * 603 + 3 ≤ 250000
    omega
  · show (run ws gs).wr.length * 603 + 3 ≤ 250000
    omega
theorem bad_or {ds : List D} : (∃ gs : List Dd, ds = gs.map dD) ∨ ∃ j, Bad ds j := by
  induction ds with
  | nil => exact .inl ⟨[], rfl⟩
  | cons d ds ih =>
    cases h : okD d with
    | false => exact .inr ⟨0, d, rfl, h, fun i _ hi => absurd hi (Nat.not_lt_zero _)⟩
    | true =>
      obtain ⟨g, rfl⟩ := okD_of h
      rcases ih with ⟨gs, rfl⟩ | ⟨j, e, h1, h2, h3⟩
      · exact .inl ⟨g :: gs, rfl⟩
      · refine .inr ⟨j + 1, e, h1, h2, fun i x hi hx => ?_⟩
        match i, hx with
        | 0, hx =>
          cases hx
          exact h
        | i + 1, hx => exact h3 i x (by omega) hx
def due3 (ws : List Int) (gs : List Dd) (p : Nat) : List D := [.tup [.int (nI (run ws gs).pl), .int (nI (run ws gs).hr), wD (run ws gs).hd], wD (run ws gs).wr, .int (pul p (run ws gs).pl (run ws gs).hr)]
/-- the three that are told -/
theorem three {T : D} {δ : Sl} {ws : List Int} {X : XQ} {g : D → D} (h0 : δ[0]? = some (some (wD ws))) (h1 : δ[1]? = some (some T)) (hd5 : 5 < δ.length) (ht : ∀ (i : Int) (S : SS) (Q : D → SS → Prop), (i = 7 ∨ i = 8 ∨ i = 9) → (∀ l, Q (g (.int i)) (S ++ l)) → Sat (F_l_told C [.int i, wD ws, T, .non, .non] S) Q) (k : ∀ l, P (.ref S.length) (S ++ .lst [g (.int 7), g (.int 8), g (.int 9)] :: l)) :
    XSat (eLc (iVal (eTup (aCons (eC (.int 7)) (aCons (eC (.int 8)) (aCons (eC (.int 9)) aNil))))) (.one 5) [5] tYes' (eCall (F_l_told C) 5 (aCons (eVar 5) (aCons (eVar 0) (aCons (eVar 1) (aCons (eC .non) (aCons (eC .non) aNil)))))) δ S) P X := by
  refine Sat.x (lc_map (items := [.int 7, .int 8, .int 9]) (g := g) (XSat.s ?_) (fun d hd => ?_) (by decide) k)
  · simp only [xit_val, xe_tup3, xe_c, iterD]
    first
      | exact ⟨fun l => trivial, trivial⟩
      | exact ⟨fun l => trivial, trivial, trivial⟩
      | exact ⟨fun l => trivial, rfl, rfl⟩
  · refine ⟨_, rfl, fun S' Q kk => XSat.s ?_⟩
    have e5 : ((wipeD δ [5]).set 5 (some d))[5]? = some (some d) := by rw [List.getElem?_set_self]; simp [wipeD, hd5]
    have e0 : ((wipeD δ [5]).set 5 (some d))[0]? = some (some (wD ws)) := by
      rw [List.getElem?_set_ne (by decide)]
      show (δ.set 5 none)[0]? = _
      rw [List.getElem?_set_ne (by decide), h0]
    have e1 : ((wipeD δ [5]).set 5 (some d))[1]? = some (some T) := by
      rw [List.getElem?_set_ne (by decide)]
      show (δ.set 5 none)[1]? = _
      rw [List.getElem?_set_ne (by decide), h1]
    simp only [xe_call, xa_cons, xa_nil, xe_var, e5, e0, e1, xe_c, List.length_cons, List.length_nil, Nat.zero_add, Nat.reduceAdd, true_and]
    have hi : ∃ i : Int, d = .int i ∧ (i = 7 ∨ i = 8 ∨ i = 9) := by
      simp only [List.mem_cons, List.not_mem_nil, or_false] at hd
      rcases hd with rfl | rfl | rfl
      · exact ⟨7, rfl, by decide⟩
      · exact ⟨8, rfl, by decide⟩
      · exact ⟨9, rfl, by decide⟩
    obtain ⟨i, rfl, hi⟩ := hi
    exact (ht i S' Q hi kk).x
theorem nice_lgd {j : Nat} (h : j < 2 ^ 90) : NB (lgd (nI j)) 2000 1 := by
  have := nb_tup (ds := [.str "log", .int (nI j), .str "deed"]) (w := 601) (p := 0) fun d hd => by
    simp only [List.mem_cons, List.not_mem_nil, or_false] at hd
    rcases hd with rfl | rfl | rfl
    · exact ⟨⟨by decide +kernel, by decide +kernel⟩, Nat.le_refl _, Nat.le_refl _⟩
    · exact nb_nI h
    · exact ⟨⟨by decide +kernel, by decide +kernel⟩, Nat.le_refl _, Nat.le_refl _⟩
  exact this.up (show 3 * (601 + 2) + 3 ≤ 2000 by decide) (Nat.le_refl _)
theorem nb3 {a b c : D} {w p : Nat} (ha : NB a w p) (hb : NB b w p) (hc : NB c w p) : NB (.tup [a, b, c]) (3 * (w + 2) + 3) (p + 1) := nb_tup (ds := [a, b, c]) fun d hd => by
  simp only [List.mem_cons, List.not_mem_nil, or_false] at hd
  rcases hd with rfl | rfl | rfl <;> assumption
theorem l_deeds_fit_sat {ws : List Int} {ds : List D} {T : D} (ne : NE C) (hT : D.tup ds = T) (hw : Wh ws) (ha : aP (.tup ds) = true) (hl : ds.length ≤ 400) (k : ∀ l, P (.bl true) (S ++ l)) : Sat (F_l_deeds_fit C [wD ws, T] S) P := by
  obtain ⟨_, had⟩ := aP_tup ha
  have l1 := hw.l1
  have l2 := hw.l2
  have pw := nI_pos l1
  rw [sem_l_deeds_fit]
  refine XSat.s (x_fn ?_)
  unfold B_l_deeds_fit
  simp only [startD, List.getElem?_cons_succ, List.getElem?_cons_zero, List.set_cons_succ, List.set_cons_zero, List.length_cons, List.length_nil, List.map_cons, List.map_nil, List.cons_append, List.nil_append, List.replicate, Nat.reduceAdd, Nat.zero_add, true_and]
  rw [x_seq, x_asgN]
  simp only [xe_call, xa_cons, xa_nil, xe_var, List.getElem?_cons_succ, List.getElem?_cons_zero, List.set_cons_succ, List.set_cons_zero, List.length_cons, List.length_nil, List.map_cons, List.map_nil, List.cons_append, List.nil_append, List.replicate, Nat.reduceAdd, Nat.zero_add, true_and]
  refine (l_run_sat hT hw had hl (fun j hb => ?_) fun gs hgs => ?_).x
  · have hj : j < 400 := by
      obtain ⟨d, h1, _⟩ := hb
      have := (List.getElem?_eq_some_iff.mp h1).1
      omega
    have nb := nice_lgd (j := j) (by omega)
    simp only [bind_many2, List.getElem?_cons_succ, List.getElem?_cons_zero, List.set_cons_succ, List.set_cons_zero, List.length_cons, List.length_nil, List.map_cons, List.map_nil, List.cons_append, List.nil_append, List.replicate, Nat.reduceAdd, Nat.zero_add, true_and]
    rw [x_seq, x_if]
    simp only [xt_val, xe_op2, xe_var, xe_c, so_is_non, isNon, boolOf_bl, if_true, List.getElem?_cons_succ, List.getElem?_cons_zero, List.set_cons_succ, List.set_cons_zero, List.length_cons, List.length_nil, List.map_cons, List.map_nil, List.cons_append, List.nil_append, List.replicate, Nat.reduceAdd, Nat.zero_add, true_and]
    rw [x_seq, x_ret, xe_op2]
    refine three (T := T) (ws := ws) (g := fun _ => lgd (nI j)) rfl rfl (show 5 < 6 by decide) (fun i S' Q hi kk => told_bad ne hw ha hl hT.symm hi hb kk) fun l => ?_
    simp only [xe_op2, xe_lst1, xe_tup3, xe_c, xe_var, List.getElem?_cons_succ, List.getElem?_cons_zero, List.set_cons_succ, List.set_cons_zero, List.length_cons, List.length_nil, List.map_cons, List.map_nil, List.cons_append, List.nil_append, List.replicate, Nat.reduceAdd, Nat.zero_add, true_and]
    rw [so_repL (xs := [lgd (nI j)]) get_last ⟨by decide, by decide, show 1 ≤ 1000 by decide⟩]
    have e3 : (List.replicate (3 : Int).toNat [lgd (nI j)]).flatten = [lgd (nI j), lgd (nI j), lgd (nI j)] := rfl
    rw [e3, nice_eqL (xs := [lgd (nI j), lgd (nI j), lgd (nI j)]) (by simp) (by simp) ((nb_tup (w := 2000) (p := 1) fun d hd => by
      simp only [List.mem_cons, List.not_mem_nil, or_false, or_self] at hd
      rw [hd]
      exact nb).nice (show 3 * (2000 + 2) + 3 ≤ 16777216 by decide) (by decide))]
    rw [List.append_assoc, List.append_assoc]
    exact k _
  · have hg : gs.length ≤ 400 := by
      rw [hgs, List.length_map] at hl
      exact hl
    obtain ⟨p, pp⟩ := per_ex hw.l1
    have hpl := run_pl l1 (gs := gs)
    obtain ⟨n1, n2, n3, n4⟩ := nb_run hw hg
    unfold runD
    simp only [bind_many2, List.getElem?_cons_succ, List.getElem?_cons_zero, List.set_cons_succ, List.set_cons_zero, List.length_cons, List.length_nil, List.map_cons, List.map_nil, List.cons_append, List.nil_append, List.replicate, Nat.reduceAdd, Nat.zero_add, true_and]
    rw [x_seq, x_if]
    simp only [xt_val, xe_op2, xe_var, xe_c, so_is_non, isNon, boolOf_bl, Bool.false_eq_true, if_false, x_nil, List.getElem?_cons_succ, List.getElem?_cons_zero, List.set_cons_succ, List.set_cons_zero, List.length_cons, List.length_nil, List.map_cons, List.map_nil, List.cons_append, List.nil_append, List.replicate, Nat.reduceAdd, Nat.zero_add, true_and]
    rw [x_seq, x_asg1]
    simp only [xe_tup3, xe_var, xe_call, xe_op2, xe_cb, xa_cons, xa_nil, xe_c, so_ix0, so_ix1, so_int, len_w, so_mod, List.getElem?_cons_succ, List.getElem?_cons_zero, List.set_cons_succ, List.set_cons_zero, List.length_cons, List.length_nil, List.map_cons, List.map_nil, List.cons_append, List.nil_append, List.replicate, Nat.reduceAdd, Nat.zero_add, true_and]
    refine ⟨by omega, ?_⟩
    rw [fmod_pos pw, nI_mod]
    refine (l_pulls_sat hw hpl (Nat.mod_lt _ l1) pp fun l => ?_).x
    rw [pul_mod (pp.dvd tp_len)]
    have p1 := pp.p1
    have pn := pp.pn
    have hpu : (pul p (run ws gs).pl (run ws gs).hr).natAbs < 2 ^ 100 := by
      obtain ⟨m, e1, e2, _⟩ := pul_ok (p := p) (place := (run ws gs).pl) (due := (run ws gs).hr) p1
      rw [e1]
      omega
    have nd : Nice (.tup (due3 ws gs p)) := by
      have a1 : NB (.tup [.int (nI (run ws gs).pl), .int (nI (run ws gs).hr), wD (run ws gs).hd]) (3 * (250000 + 2) + 3) 2 := nb3 ((nb_nI n4).up (by omega) (by omega)) ((nb_nI n3).up (by omega) (by omega)) n1
      have a2 := nb3 (w := 800000) (p := 2) (a1.up (by omega) (by omega)) (n2.up (by omega) (by omega)) ((nb_int hpu).up (by omega) (by omega))
      exact a2.nice (by omega) (by omega)
    rw [x_seq, x_ret]
    simp only [xe_call, xe_cb, xa_cons, xa_nil, xe_var, List.getElem?_cons_succ, List.getElem?_cons_zero, List.set_cons_succ, List.set_cons_zero, List.length_cons, List.length_nil, List.map_cons, List.map_nil, List.cons_append, List.nil_append, List.replicate, Nat.reduceAdd, Nat.zero_add, true_and]
    refine three (T := T) (ws := ws) (g := fun d => match d with
      | .int i => if i = 7 then .tup [.int (nI (run ws gs).pl), .int (nI (run ws gs).hr), wD (run ws gs).hd] else if i = 8 then wD (run ws gs).wr else .int (pul p (run ws gs).pl (run ws gs).hr)
      | d => d) rfl rfl (show 5 < 6 by decide) (fun i S' Q hi kk => told_deeds ne hw ha hl hT.symm hi hgs pp kk) fun l' => ?_
    rw [so_tupL (ds := due3 ws gs p) (by simp [due3])]
    show XSat (F_l_same_as C [.tup (due3 ws gs p), .tup (due3 ws gs p)] _) P noX
    refine (l_same_sat nd ?_).x
    rw [List.append_assoc]
    exact k _
/-! wheels, drawn -/
theorem l_wheel_sat (h : DA S kd ka n) (hn : n ≤ 100000000000) (k : ∀ ws S', Wh ws → Up ka S S' → DA S' kd ka (n + 100) → P (wD ws) S') : Sat (F_l_wheel C [.ref kd, .ref ka] S) P := by
  rw [sem_l_wheel]
  refine XSat.s (x_fn ?_)
  unfold B_l_wheel
  simp only [startD, List.getElem?_cons_succ, List.getElem?_cons_zero, List.set_cons_succ, List.set_cons_zero, List.length_cons, List.length_nil, List.map_cons, List.map_nil, List.cons_append, List.nil_append, List.replicate, Nat.reduceAdd, Nat.zero_add, true_and]
  rw [x_seq]
  simp only [x_asg1, xe_op2, xe_call, xe_lst4, xa_cons, xa_nil, xe_var, xe_c, List.getElem?_cons_succ, List.getElem?_cons_zero, List.set_cons_succ, List.set_cons_zero, List.length_cons, List.length_nil, List.map_cons, List.map_nil, List.cons_append, List.nil_append, List.replicate, Nat.reduceAdd, Nat.zero_add, true_and]
  refine (one_new h (by omega) (by simp) fun d S1 hm up1 da1 => ?_).x
  have hf : ∃ f : Int, d = .int f ∧ 1 ≤ f ∧ f ≤ 60 := by
    simp only [List.mem_cons, List.not_mem_nil, or_false] at hm
    rcases hm with rfl | rfl | rfl | rfl <;> exact ⟨_, rfl, by decide, by decide⟩
  obtain ⟨f, rfl, f1, f2⟩ := hf
  clear hm
  refine (l_take_sat da1 (by omega) (by omega) fun r S2 r0 r1 up2 len2 da2 => ?_).x
  simp only [so_add]
  obtain ⟨m, hm⟩ : ∃ m : Nat, 1 + r = nI m := ⟨(1 + r).toNat, by rw [nI_eq]; omega⟩
  have m1 : 1 ≤ m ∧ m ≤ 60 := by rw [nI_eq] at hm; omega
  rw [hm, x_seq]
  simp only [x_asg1, xe_call, xe_lst3, xa_cons, xa_nil, xe_var, xe_c, List.getElem?_cons_succ, List.getElem?_cons_zero, List.set_cons_succ, List.set_cons_zero, List.length_cons, List.length_nil, List.map_cons, List.map_nil, List.cons_append, List.nil_append, List.replicate, Nat.reduceAdd, Nat.zero_add, true_and]
  refine (one_new da2 (by omega) (by simp) fun d S3 hm3 up3 da3 => ?_).x
  have hf : ∃ f : Int, d = .int f ∧ 1 ≤ f ∧ f ≤ 24 := by
    simp only [List.mem_cons, List.not_mem_nil, or_false] at hm3
    rcases hm3 with rfl | rfl | rfl <;> exact ⟨_, rfl, by decide, by decide⟩
  obtain ⟨far, rfl, g1, g2⟩ := hf
  clear hm3
  rw [x_seq, x_asg1, xe_cb, xa_cons]
  refine Sat.x (lc_drawN (kd := kd) (ka := ka) (n := n + 1 + 1 + 1) (c := 1) (L := m) (Q := fun d => ∃ i : Int, d = .int i ∧ 1 ≤ i ∧ i ≤ 24) (XSat.s ?_) (by omega) (fun d S' q hq up' da' => ⟨_, rfl, fun Q kk => XSat.s ?_⟩) fun j ys S4 hg hys hyl up4 da4 => ?_)
  · exact hit_rngD (by omega) da3 fun Q h => by simp only [xa_cons, xa_nil, xe_var, List.getElem?_cons_succ, List.getElem?_cons_zero, List.set_cons_succ, List.set_cons_zero, List.length_cons, List.length_nil, List.map_cons, List.map_nil, List.cons_append, List.nil_append, List.replicate, Nat.reduceAdd, Nat.zero_add, true_and]; exact h
  · simp only [wipeD, xe_op2, xe_call, xa_cons, xa_nil, xe_var, xe_c, List.getElem?_cons_succ, List.getElem?_cons_zero, List.set_cons_succ, List.set_cons_zero, List.length_cons, List.length_nil, List.map_cons, List.map_nil, List.cons_append, List.nil_append, List.replicate, Nat.reduceAdd, Nat.zero_add, true_and]
    refine (l_take_sat da' (by omega) (by omega) fun u S5 u0 u1 up5 len5 da5 => ?_).x
    rw [so_add]
    exact kk _ _ ⟨_, rfl, by omega, by omega⟩ up5 da5
  · obtain ⟨ws, rfl, hw, hwl⟩ := exs_map (f := D.int) (R := fun i => 1 ≤ i ∧ i ≤ 24) hys
    have up14 : Up ka S S4 := ((up1.trans up2).trans up3).trans up4
    have da4 := da4.up (m := n + 90) (by omega)
    rw [xa_nil, so_tupL hg, ← wD_eq, x_seq, x_if]
    have hlen : ws.length = m := hwl.trans hyl
    have hwh : Wh ws := ⟨by omega, by omega, hw⟩
    simp only [xt_val, xe_op2, xe_call, xa_cons, xa_nil, xe_var, xe_c, List.getElem?_cons_succ, List.getElem?_cons_zero, List.set_cons_succ, List.set_cons_zero, List.length_cons, List.length_nil, List.map_cons, List.map_nil, List.cons_append, List.nil_append, List.replicate, Nat.reduceAdd, Nat.zero_add, true_and]
    refine (l_take_sat da4 (by omega) (by decide) fun u S5 u0 u1 up5 len5 da5 => ?_).x
    simp only [eq_int, boolOf_bl]
    have fin : ∀ (us : List Int) (o : Option D), Wh us → XR (sSeq (sRet (eVar 4)) sNil [some (.ref kd), some (.ref ka), some (.int (nI m)), some (.int far), some (wD us), o, none] S5) (fun _ S' => P .non S') P (fun _ => noX) := fun us o hu => by
      rw [x_seq]
      simp only [x_ret, xe_var, List.getElem?_cons_succ, List.getElem?_cons_zero, List.set_cons_succ, List.set_cons_zero, List.length_cons, List.length_nil, List.map_cons, List.map_nil, List.cons_append, List.nil_append, List.replicate, Nat.reduceAdd, Nat.zero_add, true_and]
      exact k us S5 hu (up14.trans up5) (da5.up (by omega))
    split
    · rw [x_seq]
      have e1 : 1 + nI m / 3 = ((1 + m / 3 : Nat) : Int) := by rw [nI_eq]; omega
      simp only [x_asg1, xe_sl, xo_none, xo_some, xe_op2, xe_var, xe_c, so_fdiv, so_add, intOf, List.getElem?_cons_succ, List.getElem?_cons_zero, List.set_cons_succ, List.set_cons_zero, List.length_cons, List.length_nil, List.map_cons, List.map_nil, List.cons_append, List.nil_append, List.replicate, Nat.reduceAdd, Nat.zero_add, true_and]
      refine ⟨divOk64 (by decide) (by decide), ?_⟩
      rw [fdiv_pos (by decide), sl_take e1]
      have hp1 : (ws.take (1 + m / 3)).length = min (1 + m / 3) m := by rw [List.length_take, hlen]
      have hpc : ∀ x ∈ ws.take (1 + m / 3), 1 ≤ x ∧ x ≤ 24 := fun x hx => hw x (List.mem_of_mem_take hx)
      generalize ws.take (1 + m / 3) = ps at *
      have hps : 1 ≤ ps.length ∧ ps.length ≤ m := by omega
      rw [x_seq]
      have lm := nI_lt (a := m) (n := 60) (by omega)
      have lp := nI_lt (a := ps.length) (n := 60) (by omega)
      have pp := nI_pos hps.1
      have hq : ps.length * (m / ps.length) ≤ m := Nat.mul_div_le m ps.length
      have hq1 : m / ps.length ≤ m := Nat.div_le_self _ _
      simp only [x_asg1, xe_sl, xo_none, xo_some, xe_op2, xe_cb, xa_cons, xa_nil, xe_var, xe_c, len_w, so_fdiv, so_max2, so_mul, List.getElem?_cons_succ, List.getElem?_cons_zero, List.set_cons_succ, List.set_cons_zero, List.length_cons, List.length_nil, List.map_cons, List.map_nil, List.cons_append, List.nil_append, List.replicate, Nat.reduceAdd, Nat.zero_add, true_and]
      have rep : ∀ Q : D → SS → Prop, Q (wD (List.replicate m ps).flatten) S5 → SatO (binD .Mult (wD ps) (.int (nI m)) S5) Q := fun Q hQ => by
        rw [wD_eq, so_repG (by rw [nI_eq]; omega) (by rw [nI_eq]; omega) (by rw [List.length_map]; omega)]
        have e : (List.replicate (nI m).toNat (ps.map D.int)).flatten = ((List.replicate m ps).flatten).map .int := by
          rw [nI_eq, Int.toNat_natCast, List.map_flatten, List.map_replicate]
        rw [e, ← wD_eq]
        exact hQ
      refine rep _ ?_
      refine ⟨divOk64 (by omega) (by omega), ?_⟩
      rw [fdiv_pos pp, nI_div]
      have em : max 1 (nI (m / ps.length)) = nI (max 1 (m / ps.length)) := by rw [nI_eq, nI_eq]; omega
      rw [em]
      refine ⟨mulOk64 (by omega) (Nat.lt_trans (nI_lt (n := 60) (by omega)) (by decide)), ?_⟩
      simp only [intOf]
      have e2 : nI ps.length * nI (max 1 (m / ps.length)) = ((ps.length * max 1 (m / ps.length) : Nat) : Int) := by rw [nI_eq, nI_eq]; simp
      rw [sl_take e2, x_nil]
      refine fin _ _ ⟨?_, ?_, fun x hx => ?_⟩
      · have hm1 : ps.length * max 1 (m / ps.length) ≤ ps.length * m := Nat.mul_le_mul_left _ (by omega)
        have : 1 * 1 ≤ ps.length * max 1 (m / ps.length) := Nat.mul_le_mul hps.1 (by omega)
        rw [List.length_take, List.length_flatten, List.map_replicate, List.sum_replicate_nat, Nat.mul_comm m]
        omega
      · have : ps.length * max 1 (m / ps.length) ≤ 60 := by
          rcases Nat.le_total 1 (m / ps.length) with c | c
          · rw [Nat.max_eq_right c]
            omega
          · rw [Nat.max_eq_left c]
            omega
        rw [List.length_take]
        omega
      · have hx := List.mem_of_mem_take hx
        obtain ⟨l, h1, h2⟩ := List.mem_flatten.mp hx
        rw [(List.mem_replicate.mp h1).2] at h2
        exact hpc x h2
    · rw [x_nil]
      exact fin ws none hwh
end
end K56
set_option Elab.async false
set_option linter.all false
set_option maxRecDepth 100000
set_option maxHeartbeats 2000000
namespace K56
open PySem L2 DL
section
variable {C : CA} {S : SS} {P : D → SS → Prop} {Pb : Bool → SS → Prop} {X : XQ} {Y : Sl → XQ} {Pn : Sl → SS → Prop} {q : Nat}
/-! the law's pieces -/
noncomputable def w0 (C : CA) : PSt := (sAsg (eCall (F_l_draws C) 1 (aCons (eVar 0) aNil)) (.one 1))
noncomputable def w1 (C : CA) : PSt := (sAsg (eLst (aCons (eC (.int 0)) aNil)) (.one 2))
noncomputable def w2 (C : CA) : PSt := (sAsg (eCall (F_l_wheel C) 2 (aCons (eVar 1) (aCons (eVar 2) aNil))) (.one 3))
noncomputable def w3 (C : CA) : PSt := (sAsg (eCall (F_l_sums C) 1 (aCons (eVar 3) aNil)) (.one 4))
noncomputable def w4 (C : CA) : PSt := (sIf (tNot' (tTru (eCall (F_l_same_as C) 2 (aCons (eTup (aCons (eCall (F_l_told C) 5 (aCons (eC (.int 0)) (aCons (eVar 3) (aCons (eC .non) (aCons (eC .non) (aCons (eC .non) aNil)))))) (aCons (eCall (F_l_told C) 5 (aCons (eC (.int 1)) (aCons (eVar 3) (aCons (eC .non) (aCons (eC .non) (aCons (eC .non) aNil)))))) (aCons (eCall (F_l_told C) 5 (aCons (eC (.int 6)) (aCons (eVar 4) (aCons (eC .non) (aCons (eC .non) (aCons (eC .non) aNil)))))) aNil)))) (aCons (eTup (aCons (eVar 4) (aCons (eCall (F_l_period C) 1 (aCons (eVar 3) aNil)) (aCons (eVar 3) aNil)))) aNil))))) (sSeq (sRet (eC (.bl false))) sNil) sNil)
noncomputable def v0 (C : CA) : PSt := (sPar 20 21 (eCall (F_l_take C) 3 (aCons (eVar 1) (aCons (eVar 2) (aCons (eCB (one lenD) (aCons (eVar 3) aNil)) aNil)))) (eCall (F_l_take C) 3 (aCons (eVar 1) (aCons (eVar 2) (aCons (eCB (one lenD) (aCons (eVar 3) aNil)) aNil)))))
noncomputable def v1 (C : CA) : PSt := (sAsg (eCall (F_l_one C) 3 (aCons (eLst (aCons (eC (.int 0)) (aCons (eC (.int 1)) (aCons (eC (.int 2)) (aCons (eCB (one lenD) (aCons (eVar 3) aNil)) (aCons (eCB (one sumD) (aCons (eVar 3) aNil)) (aCons (eCall (F_l_take C) 3 (aCons (eVar 1) (aCons (eVar 2) (aCons (eC (.int 500)) aNil)))) (aCons (eC (.int 1000000000)) aNil)))))))) (aCons (eVar 1) (aCons (eVar 2) aNil)))) (.one 13))
noncomputable def v2 (C : CA) : PSt := (sAsg (eTup (aCons (eCall (F_l_strokes C) 3 (aCons (eVar 3) (aCons (eVar 20) (aCons (eVar 13) aNil)))) (aCons (eCall (F_l_hours C) 3 (aCons (eVar 3) (aCons (eVar 20) (aCons (eVar 13) aNil)))) (aCons (eCall (F_l_pulls C) 3 (aCons (eVar 3) (aCons (eVar 20) (aCons (eVar 21) aNil)))) aNil)))) (.one 14))
noncomputable def v3 (C : CA) : PSt := (sIf (tNot' (tTru (eCall (F_l_same_as C) 2 (aCons (eTup (aCons (eCall (F_l_told C) 5 (aCons (eC (.int 2)) (aCons (eVar 3) (aCons (eVar 20) (aCons (eVar 13) (aCons (eC .non) aNil)))))) (aCons (eCall (F_l_told C) 5 (aCons (eC (.int 3)) (aCons (eVar 3) (aCons (eVar 20) (aCons (eVar 13) (aCons (eC .non) aNil)))))) (aCons (eCall (F_l_told C) 5 (aCons (eC (.int 4)) (aCons (eVar 3) (aCons (eVar 20) (aCons (eVar 21) (aCons (eC .non) aNil)))))) aNil)))) (aCons (eVar 14) aNil))))) (sSeq (sRet (eC (.bl false))) sNil) sNil)
noncomputable def v4 (C : CA) : PSt := (sAsg (eCall (F_l_one C) 3 (aCons (eLst (aCons (eVar 3) (aCons (eCall (F_l_turned C) 2 (aCons (eVar 3) (aCons (eVar 21) aNil))) (aCons (eIf (tVal (eOp2 (cmpD .LtE) (eOp2 (binD .Mult) (eC (.int 2)) (eCB (one lenD) (aCons (eVar 3) aNil))) (eC (.int 60)))) (eOp2 (binD .Mult) (eVar 3) (eC (.int 2))) (eVar 3)) (aCons (eCall (F_l_wheel C) 2 (aCons (eVar 1) (aCons (eVar 2) aNil))) (aCons (eOp2 (binD .Add) (eSl (eVar 3) oNone (oSome (eOp1 negD (eC (.int 1))))) (eTup (aCons (eOp2 (binD .Add) (eOp2 (binD .Mod) (eCB (one intD) (aCons (eOp2 ixD (eVar 3) (eOp1 negD (eC (.int 1)))) aNil)) (eC (.int 24))) (eC (.int 1))) aNil))) aNil)))))) (aCons (eVar 1) (aCons (eVar 2) aNil)))) (.one 15))
noncomputable def v5 (C : CA) : PSt := (sAsg (eCall (F_l_take C) 3 (aCons (eVar 1) (aCons (eVar 2) (aCons (eCB (one lenD) (aCons (eVar 15) aNil)) aNil)))) (.one 16))
noncomputable def v6 (C : CA) : PSt := (sIf (tNot' (tTru (eCall (F_l_same_as C) 2 (aCons (eCall (F_l_told C) 5 (aCons (eC (.int 5)) (aCons (eVar 3) (aCons (eVar 20) (aCons (eVar 15) (aCons (eVar 16) aNil)))))) (aCons (eCall (F_l_unlike C) 4 (aCons (eVar 3) (aCons (eVar 20) (aCons (eVar 15) (aCons (eVar 16) aNil))))) aNil))))) (sSeq (sRet (eC (.bl false))) sNil) sNil)
noncomputable def v7 (C : CA) : PSt := (sAsg (eCB (one tupleD) (aCons (eLc (iOn rng1D (aCons (eCall (F_l_take C) 3 (aCons (eVar 1) (aCons (eVar 2) (aCons (eCall (F_l_one C) 3 (aCons (eLst (aCons (eC (.int 6)) (aCons (eC (.int 40)) (aCons (eOp2 (binD .Add) (eC (.int 400)) (eC (.int 1))) aNil)))) (aCons (eVar 1) (aCons (eVar 2) aNil)))) aNil)))) aNil)) (.one 18) [18] tYes' (eCall (F_l_one C) 3 (aCons (eLst (aCons (eC (.str "hour")) (aCons (eC (.str "hour")) (aCons (eC (.str "hour")) (aCons (eC (.str "stuck")) (aCons (eC (.str "pull")) aNil)))))) (aCons (eVar 1) (aCons (eVar 2) aNil))))) aNil)) (.one 17))
noncomputable def v8 (C : CA) : PSt := (sAsg (eCall (F_l_take C) 3 (aCons (eVar 1) (aCons (eVar 2) (aCons (eOp2 (binD .Add) (eCB (one lenD) (aCons (eVar 17) aNil)) (eC (.int 1))) aNil)))) (.one 18))
noncomputable def v9 (C : CA) : PSt := (sAsg (eOp2 (binD .Add) (eOp2 (binD .Add) (eSl (eVar 17) oNone (oSome (eVar 18))) (eTup (aCons (eCall (F_l_one C) 3 (aCons (eLst (aCons (eC (.str "Hour")) (aCons (eC (.str "")) (aCons (eC .non) (aCons (eC (.int 5)) (aCons (eTup (aCons (eC (.str "hour")) aNil)) (aCons (eC (.bl true)) aNil))))))) (aCons (eVar 1) (aCons (eVar 2) aNil)))) aNil))) (eSl (eVar 17) (oSome (eOp2 (binD .Add) (eVar 18) (eC (.int 1)))) oNone)) (.one 19))
noncomputable def v10 (C : CA) : PSt := (sIf (tOr' (tNot' (tTru (eCall (F_l_deeds_fit C) 2 (aCons (eVar 3) (aCons (eVar 17) aNil))))) (tAnd' (tVal (eOp2 (cmpD .LtE) (eCB (one lenD) (aCons (eVar 19) aNil)) (eC (.int 400)))) (tNot' (tTru (eCall (F_l_deeds_fit C) 2 (aCons (eVar 3) (aCons (eVar 19) aNil))))))) (sSeq (sRet (eC (.bl false))) sNil) sNil)
noncomputable def vB (C : CA) : PSt := (sSeq (v0 C) (sSeq (v1 C) (sSeq (v2 C) (sSeq (v3 C) (sSeq (v4 C) (sSeq (v5 C) (sSeq (v6 C) (sSeq (v7 C) (sSeq (v8 C) (sSeq (v9 C) (sSeq (v10 C) sNil)))))))))))
noncomputable def w5 (C : CA) : PSt := (sFor (iOn rng1D (aCons (eC (.int 3)) aNil)) (.one 5) (vB C))
noncomputable def w6 (C : CA) : PSt := (sAsg (eCall (F_l_one C) 3 (aCons (eLst (aCons (eC .non) (aCons (eC (.int 5)) (aCons (eTup aNil) (aCons (eTup (aCons (eC (.int 0)) aNil)) (aCons (eTup (aCons (eOp2 (binD .Add) (eC (.int 24)) (eC (.int 1))) aNil)) (aCons (eTup (aCons (eC (.bl true)) aNil)) (aCons (eOp2 (binD .Mult) (eTup (aCons (eC (.int 1)) aNil)) (eOp2 (binD .Add) (eC (.int 60)) (eC (.int 1)))) (aCons (eTup (aCons (eC .non) aNil)) aNil))))))))) (aCons (eVar 1) (aCons (eVar 2) aNil)))) (.one 6))
noncomputable def w7 (C : CA) : PSt := (sAsg (eCall (F_l_one C) 3 (aCons (eLst (aCons (eC .non) (aCons (eOp1 negD (eC (.int 1))) (aCons (eC (.bl true)) (aCons (eC (.str "0")) (aCons (eCB (one lenD) (aCons (eVar 3) aNil)) aNil)))))) (aCons (eVar 1) (aCons (eVar 2) aNil)))) (.one 7))
noncomputable def w8 (C : CA) : PSt := (sAsg (eCall (F_l_one C) 3 (aCons (eLst (aCons (eC .non) (aCons (eOp1 negD (eC (.int 1))) (aCons (eC (.bl true)) (aCons (eC (.int 1000000001)) aNil))))) (aCons (eVar 1) (aCons (eVar 2) aNil)))) (.one 8))
noncomputable def w9 (C : CA) : PSt := (sIf (tTru (eLc (iVal (eTup (aCons (eC (.int 0)) (aCons (eC (.int 1)) (aCons (eC (.int 2)) (aCons (eC (.int 3)) (aCons (eC (.int 4)) (aCons (eC (.int 5)) (aCons (eC (.int 7)) (aCons (eC (.int 8)) (aCons (eC (.int 9)) aNil))))))))))) (.one 22) [22] (tVal (eOp2 (cmpD .NotEq) (eCall (F_l_told C) 5 (aCons (eVar 22) (aCons (eVar 6) (aCons (eVar 7) (aCons (eVar 8) (aCons (eVar 8) aNil)))))) (eTup (aCons (eC (.str "argument")) (aCons (eC (.str "wheel")) aNil))))) (eVar 22))) (sSeq (sRet (eC (.bl false))) sNil) sNil)
noncomputable def w10 (C : CA) : PSt := (sAsg (eLst (aCons (eCall (F_l_told C) 5 (aCons (eC (.int 2)) (aCons (eVar 3) (aCons (eVar 7) (aCons (eVar 8) (aCons (eC .non) aNil)))))) (aCons (eCall (F_l_told C) 5 (aCons (eC (.int 3)) (aCons (eVar 3) (aCons (eVar 7) (aCons (eVar 8) (aCons (eC .non) aNil)))))) (aCons (eCall (F_l_told C) 5 (aCons (eC (.int 4)) (aCons (eVar 3) (aCons (eVar 7) (aCons (eVar 7) (aCons (eC .non) aNil)))))) (aCons (eCall (F_l_told C) 5 (aCons (eC (.int 5)) (aCons (eVar 3) (aCons (eVar 7) (aCons (eVar 6) (aCons (eVar 7) aNil)))))) aNil))))) (.one 9))
noncomputable def w11 (C : CA) : PSt := (sIf (tVal (eOp2 (cmpD .NotEq) (eVar 9) (eOp2 (binD .Mult) (eLst (aCons (eTup (aCons (eC (.str "argument")) (aCons (eC (.str "place")) aNil))) aNil)) (eC (.int 4))))) (sSeq (sRet (eC (.bl false))) sNil) sNil)
noncomputable def w12 (C : CA) : PSt := (sAsg (eLst (aCons (eCall (F_l_told C) 5 (aCons (eC (.int 2)) (aCons (eVar 3) (aCons (eVar 20) (aCons (eVar 8) (aCons (eC .non) aNil)))))) (aCons (eCall (F_l_told C) 5 (aCons (eC (.int 3)) (aCons (eVar 3) (aCons (eVar 20) (aCons (eVar 8) (aCons (eC .non) aNil)))))) aNil))) (.one 10))
noncomputable def w13 (C : CA) : PSt := (sAsg (eOp2 (binD .Add) (eVar 10) (eLst (aCons (eCall (F_l_told C) 5 (aCons (eC (.int 4)) (aCons (eVar 3) (aCons (eVar 20) (aCons (eVar 7) (aCons (eC .non) aNil)))))) (aCons (eCall (F_l_told C) 5 (aCons (eC (.int 5)) (aCons (eVar 3) (aCons (eVar 20) (aCons (eVar 6) (aCons (eVar 7) aNil)))))) (aCons (eCall (F_l_told C) 5 (aCons (eC (.int 5)) (aCons (eVar 3) (aCons (eVar 20) (aCons (eVar 3) (aCons (eVar 7) aNil)))))) aNil))))) (.one 9))
noncomputable def w14 (C : CA) : PSt := (sIf (tVal (eOp2 (cmpD .NotEq) (eVar 9) (eLc (iVal (eLst (aCons (eC (.str "hours")) (aCons (eC (.str "count")) (aCons (eC (.str "due")) (aCons (eC (.str "other")) (aCons (eC (.str "spot")) aNil))))))) (.one 23) [23] tYes' (eTup (aCons (eC (.str "argument")) (aCons (eVar 23) aNil)))))) (sSeq (sRet (eC (.bl false))) sNil) sNil)
noncomputable def w15 (C : CA) : PSt := (sAsg (eCall (F_l_one C) 3 (aCons (eLst (aCons (eC .non) (aCons (eC (.int 5)) (aCons (eTup aNil) (aCons (eTup (aCons (eC (.int 0)) aNil)) (aCons (eTup (aCons (eC (.int 1)) (aCons (eC (.int 1)) aNil))) (aCons (eTup (aCons (eC (.int 2)) (aCons (eC (.int 1)) aNil))) (aCons (eTup (aCons (eOp2 (binD .Add) (eC (.int 24)) (eC (.int 1))) aNil)) (aCons (eTup (aCons (eC (.bl true)) aNil)) (aCons (eTup (aCons (eC (.int 1)) (aCons (eC .non) aNil))) (aCons (eOp2 tupRg2D (eC (.int 1)) (eOp2 (binD .Add) (eC (.int 60)) (eC (.int 2)))) aNil))))))))))) (aCons (eVar 1) (aCons (eVar 2) aNil)))) (.one 11))
noncomputable def w16 (C : CA) : PSt := (sAsg (eCall (F_l_one C) 3 (aCons (eLst (aCons (eC .non) (aCons (eC (.int 5)) (aCons (eC (.str "hour")) (aCons (eOp2 (binD .Mult) (eTup (aCons (eC (.str "hour")) aNil)) (eOp2 (binD .Add) (eC (.int 400)) (eC (.int 1)))) aNil))))) (aCons (eVar 1) (aCons (eVar 2) aNil)))) (.one 12))
noncomputable def w17 (C : CA) : PSt := (sIf (tTru (eLc (iVal (eTup (aCons (eC (.int 7)) (aCons (eC (.int 8)) (aCons (eC (.int 9)) aNil))))) (.one 22) [22] (tVal (eOp2 (cmpD .NotEq) (eCall (F_l_told C) 5 (aCons (eVar 22) (aCons (eVar 3) (aCons (eVar 12) (aCons (eC .non) (aCons (eC .non) aNil)))))) (eTup (aCons (eC (.str "argument")) (aCons (eC (.str "deeds")) aNil))))) (eVar 22))) (sSeq (sRet (eC (.bl false))) sNil) sNil)
noncomputable def w18 (C : CA) : PSt := (sRet (eOp2 (cmpD .Eq) (eCall (F_l_told C) 5 (aCons (eC (.int 6)) (aCons (eVar 11) (aCons (eC .non) (aCons (eC .non) (aCons (eC .non) aNil)))))) (eTup (aCons (eC (.str "argument")) (aCons (eC (.str "notches")) aNil)))))
noncomputable def wT19 (C : CA) : PSt := sNil
noncomputable def wT18 (C : CA) : PSt := sSeq (w18 C) (wT19 C)
noncomputable def wT17 (C : CA) : PSt := sSeq (w17 C) (wT18 C)
noncomputable def wT16 (C : CA) : PSt := sSeq (w16 C) (wT17 C)
noncomputable def wT15 (C : CA) : PSt := sSeq (w15 C) (wT16 C)
noncomputable def wT14 (C : CA) : PSt := sSeq (w14 C) (wT15 C)
noncomputable def wT13 (C : CA) : PSt := sSeq (w13 C) (wT14 C)
noncomputable def wT12 (C : CA) : PSt := sSeq (w12 C) (wT13 C)
noncomputable def wT11 (C : CA) : PSt := sSeq (w11 C) (wT12 C)
noncomputable def wT10 (C : CA) : PSt := sSeq (w10 C) (wT11 C)
noncomputable def wT9 (C : CA) : PSt := sSeq (w9 C) (wT10 C)
noncomputable def wT8 (C : CA) : PSt := sSeq (w8 C) (wT9 C)
noncomputable def wT7 (C : CA) : PSt := sSeq (w7 C) (wT8 C)
noncomputable def wT6 (C : CA) : PSt := sSeq (w6 C) (wT7 C)
noncomputable def wT5 (C : CA) : PSt := sSeq (w5 C) (wT6 C)
noncomputable def wT4 (C : CA) : PSt := sSeq (w4 C) (wT5 C)
noncomputable def wT3 (C : CA) : PSt := sSeq (w3 C) (wT4 C)
noncomputable def wT2 (C : CA) : PSt := sSeq (w2 C) (wT3 C)
noncomputable def wT1 (C : CA) : PSt := sSeq (w1 C) (wT2 C)
noncomputable def wT0 (C : CA) : PSt := sSeq (w0 C) (wT1 C)
theorem wT_eq (C : CA) : B_law C = wT0 C := rfl

abbrev sl (a0 : D) (o3 o4 o5 o6 o7 o8 o9 o10 o11 o12 o13 o14 o15 o16 o17 o18 o19 o20 o21 o22 o23 : Option D) : Sl := [some a0, some (.ref 0), some (.ref 2), o3, o4, o5, o6, o7, o8, o9, o10, o11, o12, o13, o14, o15, o16, o17, o18, o19, o20, o21, o22, o23]
theorem rng_q {n : Nat} (hn : n ≤ 1000000) {Q : IT → SS → Prop} (h : Q (rngItems 0 n 1, []) S) : (match rng1D [.int (nI n)] S with
    | some it => Q it S
    | none => False) := by
  rw [nI_eq, rng1n hn]
  exact h
theorem nat_of {r m : Int} (h0 : 0 ≤ r) (h1 : r < m) : ∃ p : Nat, r = nI p ∧ (p : Int) < m := ⟨r.toNat, by rw [nI_eq]; omega, by omega⟩
theorem sl_dl {ws : List Int} : SatO (slD none (some (-1)) (wD ws) S) P = P (wD (ws.take (ws.length - 1))) S := by
  rw [wD_eq, so_slT]
  have e : cutD (ws.map D.int) none (some (-1)) = (ws.take (ws.length - 1)).map .int := by
    unfold cutD
    have e1 : HT.sIx (ws.map D.int).length 0 none = 0 := rfl
    have e2 : HT.sIx (ws.map D.int).length (ws.map D.int).length (some (-1)) = ws.length - 1 := by
      show ((-1 : Int) + ((ws.map D.int).length : Int)).toNat = _
      rw [List.length_map]
      omega
    rw [e1, e2, List.drop_zero, Nat.sub_zero, List.map_take]
  rw [e, ← wD_eq]
theorem ix_last {ws : List Int} (h : 1 ≤ ws.length) : ∃ x ∈ ws, ∀ (S : SS) (P : D → SS → Prop), SatO (ixD (wD ws) (.int (-1)) S) P = P (.int x) S := by
  have hne : ws ≠ [] := fun e => by subst e; exact absurd h (by decide)
  refine ⟨ws.getLast hne, List.getLast_mem hne, fun S P => ?_⟩
  have e : ws.map D.int = ws.dropLast.map .int ++ [.int (ws.getLast hne)] := by
    have := congrArg (List.map D.int) (List.dropLast_concat_getLast hne)
    rw [List.map_append] at this
    exact this.symm
  rw [wD_eq, e, so_lastT]
theorem aP_dD {g : Dd} : aP (dD g) = true := rfl
theorem other_sat {ws : List Int} {u : Nat} {δ : Sl} (hw : Wh ws) (da : DA S 0 2 q) (hq : q ≤ 10000000000) (h1 : δ[1]? = some (some (.ref 0))) (h2 : δ[2]? = some (some (.ref 2))) (h3 : δ[3]? = some (some (wD ws))) (h21 : δ[21]? = some (some (.int (nI u)))) (k : ∀ us S', Wh us → Up 2 S S' → DA S' 0 2 (q + 101) → P (wD us) S') :
    XSat (eCall (F_l_one C) 3 (aCons (eLst (aCons (eVar 3) (aCons (eCall (F_l_turned C) 2 (aCons (eVar 3) (aCons (eVar 21) aNil))) (aCons (eIf (tVal (eOp2 (cmpD .LtE) (eOp2 (binD .Mult) (eC (.int 2)) (eCB (one lenD) (aCons (eVar 3) aNil))) (eC (.int 60)))) (eOp2 (binD .Mult) (eVar 3) (eC (.int 2))) (eVar 3)) (aCons (eCall (F_l_wheel C) 2 (aCons (eVar 1) (aCons (eVar 2) aNil))) (aCons (eOp2 (binD .Add) (eSl (eVar 3) oNone (oSome (eOp1 negD (eC (.int 1))))) (eTup (aCons (eOp2 (binD .Add) (eOp2 (binD .Mod) (eCB (one intD) (aCons (eOp2 ixD (eVar 3) (eOp1 negD (eC (.int 1)))) aNil)) (eC (.int 24))) (eC (.int 1))) aNil))) aNil)))))) (aCons (eVar 1) (aCons (eVar 2) aNil))) δ S) P X := by
  have l1 := hw.l1
  have l2 := hw.l2
  have ln := nI_lt (a := ws.length) (n := 60) (by omega)
  simp only [xe_call, xe_lst5, xa_cons, xa_nil, xe_var, h1, h2, h3, h21, List.length_cons, List.length_nil, Nat.zero_add, Nat.reduceAdd, true_and]
  refine (l_turned_sat hw ?_).x
  have dbl : ∀ Q : D → SS → Prop, (∀ us, Wh us → Q (wD us) S) → XSat (eIf (tVal (eOp2 (cmpD .LtE) (eOp2 (binD .Mult) (eC (.int 2)) (eCB (one lenD) (aCons (eVar 3) aNil))) (eC (.int 60)))) (eOp2 (binD .Mult) (eVar 3) (eC (.int 2))) (eVar 3) δ S) Q X := fun Q hQ => by
    simp only [xe_if, xt_val, xe_op2, xe_cb, xa_cons, xa_nil, xe_c, xe_var, h3, len_w, so_mul, so_le, boolOf_bl]
    refine ⟨mulOk64 (by decide) (by omega), ?_⟩
    by_cases hc : 2 * nI ws.length ≤ 60
    · rw [if_pos (decide_eq_true hc)]
      rw [nI_eq] at hc
      rw [wD_eq, so_repG (by decide) (by decide) (by rw [List.length_map]; omega)]
      have e : (List.replicate (2 : Int).toNat (ws.map D.int)).flatten = (ws ++ ws).map .int := by
        rw [List.map_append]
        show (List.replicate 2 (ws.map D.int)).flatten = _
        simp [List.replicate]
      rw [e, ← wD_eq]
      refine hQ _ ⟨by rw [List.length_append]; omega, by rw [List.length_append]; omega, fun x hx => ?_⟩
      rcases List.mem_append.mp hx with hx | hx <;> exact hw.c x hx
    · rw [if_neg (by simpa using hc)]
      exact hQ ws hw
  refine dbl _ fun ud hud => ?_
  refine (l_wheel_sat da (by omega) fun uw S1 huw up1 da1 => ?_).x
  simp only [xe_op2, xe_sl, xo_none, xo_some, xe_op1, xe_tup1, xe_cb, xa_cons, xa_nil, xe_c, xe_var, h3, so_neg, intOf, sl_dl]
  obtain ⟨x, hx, hxe⟩ := ix_last l1
  rw [hxe, so_int, so_mod]
  refine ⟨by decide, ?_⟩
  rw [fmod_pos (by decide), so_add, so_addW1 (by rw [List.length_take]; omega)]
  have hlast : Wh (ws.take (ws.length - 1) ++ [x % 24 + 1]) := by
    refine ⟨by rw [List.length_append]; simp, by rw [List.length_append, List.length_take]; simp; omega, fun y hy => ?_⟩
    rcases List.mem_append.mp hy with hy | hy
    · exact hw.c y (List.mem_of_mem_take hy)
    · rw [List.mem_singleton.mp hy]
      omega
  refine (one_new da1 (by omega) (by simp) fun d S2 hm up2 da2 => ?_).x
  simp only [List.mem_cons, List.not_mem_nil, or_false] at hm
  have fin : ∀ us, Wh us → P (wD us) S2 := fun us hu => k us S2 hu (up1.trans up2) da2
  rcases hm with rfl | rfl | rfl | rfl | rfl
  · exact fin _ hw
  · exact fin _ (rot_wh hw _)
  · exact fin _ hud
  · exact fin _ huw
  · exact fin _ hlast
theorem hit_rngU {i : Int} {L kd ka : Nat} {S0 : SS} (h0 : 0 ≤ i) (h1 : i ≤ (L : Int)) (hL : L ≤ 1000000) (up : Up ka S0 S) (da : DA S kd ka q) : (match rng1D [.int i] S with
    | some it => (fun (x : IT) (S1 : SS) => (∀ S', gOk x.2 S') ∧ Up ka S0 S1 ∧ DA S1 kd ka q ∧ x.1.length ≤ L) it S
    | none => False) := by
  obtain ⟨m, rfl⟩ : ∃ m : Nat, i = (m : Int) := ⟨i.toNat, by omega⟩
  rw [rng1n (by omega)]
  refine ⟨fun _ => trivial, up, da, ?_⟩
  show (rngItems 0 m 1).length ≤ L
  rw [rng_len]
  omega
theorem deeds_hit {δ : Sl} {Q : IT → SS → Prop} (da : DA S 0 2 q) (hq : q ≤ 10000000000) (h1 : δ[1]? = some (some (.ref 0))) (h2 : δ[2]? = some (some (.ref 2))) (k : ∀ (i : Int) (S1 : SS), 0 ≤ i → i ≤ 400 → Up 2 S S1 → DA S1 0 2 (q + 1 + 1) → (match rng1D [.int i] S1 with
    | some it => Q it S1
    | none => False)) : XSat (iOn rng1D (aCons (eCall (F_l_take C) 3 (aCons (eVar 1) (aCons (eVar 2) (aCons (eCall (F_l_one C) 3 (aCons (eLst (aCons (eC (.int 6)) (aCons (eC (.int 40)) (aCons (eOp2 (binD .Add) (eC (.int 400)) (eC (.int 1))) aNil)))) (aCons (eVar 1) (aCons (eVar 2) aNil)))) aNil)))) aNil) δ S) Q X := by
  simp only [xit_on, xe_call, xe_lst3, xe_op2, xa_cons, xa_nil, xe_c, xe_var, h1, h2, so_add, List.length_cons, List.length_nil, Nat.zero_add, Nat.reduceAdd, true_and]
  refine (one_new da (by omega) (by simp) fun d S2 hm up2 da2 => ?_).x
  have hf : ∃ f : Int, d = .int f ∧ 1 ≤ f ∧ f ≤ 401 := by
    simp only [List.mem_cons, List.not_mem_nil, or_false] at hm
    rcases hm with rfl | rfl | rfl <;> exact ⟨_, rfl, by decide, by decide⟩
  obtain ⟨f, rfl, f1, f2⟩ := hf
  refine (l_take_sat da2 (by omega) (by omega) fun r S3 r0 r1 up3 len3 da3 => ?_).x
  exact k r S3 r0 (by omega) (up2.trans up3) da3
theorem deeds_sat {δ : Sl} {vs : List Nat} (da : DA S 0 2 q) (hq : q ≤ 10000000000) (h1 : δ[1]? = some (some (.ref 0))) (h2 : δ[2]? = some (some (.ref 2))) (hl : 18 < δ.length) (k : ∀ gs S', gs.length ≤ 400 → Up 2 S S' → DA S' 0 2 (q + 402) → P (dsD gs) S') :
    XSat (eCB (one tupleD) (aCons (eLc (iOn rng1D (aCons (eCall (F_l_take C) 3 (aCons (eVar 1) (aCons (eVar 2) (aCons (eCall (F_l_one C) 3 (aCons (eLst (aCons (eC (.int 6)) (aCons (eC (.int 40)) (aCons (eOp2 (binD .Add) (eC (.int 400)) (eC (.int 1))) aNil)))) (aCons (eVar 1) (aCons (eVar 2) aNil)))) aNil)))) aNil)) (.one 18) [18] tYes' (eCall (F_l_one C) 3 (aCons (eLst (aCons (eC (.str "hour")) (aCons (eC (.str "hour")) (aCons (eC (.str "hour")) (aCons (eC (.str "stuck")) (aCons (eC (.str "pull")) aNil)))))) (aCons (eVar 1) (aCons (eVar 2) aNil))))) aNil) δ S) P X := by
  rw [xe_cb, xa_cons]
  refine Sat.x (lc_draw (kd := 0) (ka := 2) (n := q + 1 + 1) (c := 1) (L := 400) (Q := fun d => ∃ g, d = dD g) (XSat.s ?_) (by omega) (fun d S' m hm up' da' => ⟨_, rfl, fun Q kk => XSat.s ?_⟩) fun j ys S1 hg hys hyl up1 da1 => ?_)
  · exact deeds_hit da hq h1 h2 fun i S1 i0 i1 up da' => hit_rngU i0 i1 (by decide) up da'
  · have g1 : ((wipeD δ [18]).set 18 (some d))[1]? = some (some (.ref 0)) := by
      rw [List.getElem?_set_ne (by decide)]
      show (δ.set 18 none)[1]? = _
      rw [List.getElem?_set_ne (by decide), h1]
    have g2 : ((wipeD δ [18]).set 18 (some d))[2]? = some (some (.ref 2)) := by
      rw [List.getElem?_set_ne (by decide)]
      show (δ.set 18 none)[2]? = _
      rw [List.getElem?_set_ne (by decide), h2]
    simp only [xe_call, xe_lst5, xa_cons, xa_nil, xe_c, xe_var, g1, g2, List.length_cons, List.length_nil, Nat.zero_add, Nat.reduceAdd, true_and]
    refine (one_new da' (by omega) (by simp) fun y S5 hm5 up5 da5 => ?_).x
    refine kk y S5 ?_ up5 da5
    simp only [List.mem_cons, List.not_mem_nil, or_false] at hm5
    rcases hm5 with rfl | rfl | rfl | rfl | rfl
    · exact ⟨.hour, rfl⟩
    · exact ⟨.hour, rfl⟩
    · exact ⟨.hour, rfl⟩
    · exact ⟨.stuck, rfl⟩
    · exact ⟨.pull, rfl⟩
  · obtain ⟨gs, rfl, _, hgl⟩ := exs_map (f := dD) (R := fun _ => True) (ys := ys) fun y hy => by
      obtain ⟨g, rfl⟩ := hys y hy
      exact ⟨g, rfl, trivial⟩
    rw [xa_nil, so_tupL hg, ← dsD_eq]
    exact k gs S1 (by omega) up1 (da1.up (by omega))
theorem slT_take {ds : List D} {n : Nat} {i : Int} (hi : i = (n : Int)) : SatO (slD none (some i) (.tup ds) S) P = P (.tup (ds.take n)) S := by
  subst hi
  rw [so_slT, cut_take]
theorem slT_drop {ds : List D} {n : Nat} {i : Int} (hi : i = (n : Int)) : SatO (slD (some i) none (.tup ds) S) P = P (.tup (ds.drop n)) S := by
  subst hi
  rw [so_slT, cut_drop]
theorem wrong_sat {gs : List Dd} {kk : Nat} {δ : Sl} (da : DA S 0 2 q) (hq : q ≤ 10000000000) (hg : gs.length ≤ 400) (hk : kk ≤ gs.length) (h1 : δ[1]? = some (some (.ref 0))) (h2 : δ[2]? = some (some (.ref 2))) (h17 : δ[17]? = some (some (dsD gs))) (h18 : δ[18]? = some (some (.int (nI kk)))) (k : ∀ ds S', aP (.tup ds) = true → ds.length ≤ 401 → Up 2 S S' → DA S' 0 2 (q + 1) → P (.tup ds) S') :
    XSat (eOp2 (binD .Add) (eOp2 (binD .Add) (eSl (eVar 17) oNone (oSome (eVar 18))) (eTup (aCons (eCall (F_l_one C) 3 (aCons (eLst (aCons (eC (.str "Hour")) (aCons (eC (.str "")) (aCons (eC .non) (aCons (eC (.int 5)) (aCons (eTup (aCons (eC (.str "hour")) aNil)) (aCons (eC (.bl true)) aNil))))))) (aCons (eVar 1) (aCons (eVar 2) aNil)))) aNil))) (eSl (eVar 17) (oSome (eOp2 (binD .Add) (eVar 18) (eC (.int 1)))) oNone) δ S) P X := by
  simp only [xe_op2, xe_sl, xo_none, xo_some, xe_tup1, xe_call, xe_lst6, xa_cons, xa_nil, xe_c, xe_var, h1, h2, h17, h18, so_add, intOf, List.length_cons, List.length_nil, Nat.zero_add, Nat.reduceAdd, true_and]
  rw [dsD_eq, slT_take nI_eq]
  refine (one_new da (by omega) (by simp) fun d S1 hm up1 da1 => ?_).x
  rw [so_addT (by rw [List.length_take, List.length_map]; simp; omega), slT_drop (n := kk + 1) (by rw [nI_eq]; omega), so_addT (by simp; omega)]
  refine k _ S1 (aP_of ?_ fun x hx => ?_) ?_ up1 da1
  · simp
    omega
  · have hd : aP d = true := by
      simp only [List.mem_cons, List.not_mem_nil, or_false] at hm
      rcases hm with rfl | rfl | rfl | rfl | rfl | rfl <;> decide +kernel
    rcases List.mem_append.mp hx with hx | hx
    · rcases List.mem_append.mp hx with hx | hx
      · obtain ⟨g, _, rfl⟩ := List.mem_map.mp (List.mem_of_mem_take hx)
        rfl
      · rw [List.mem_singleton.mp hx]
        exact hd
    · obtain ⟨g, _, rfl⟩ := List.mem_map.mp (List.mem_of_mem_drop hx)
      rfl
  · simp
    omega
end
end K56
set_option Elab.async false
set_option linter.all false
set_option maxRecDepth 100000
set_option maxHeartbeats 2000000
namespace K56
open PySem L2 DL
section
variable {C : CA} {S : SS} {P : D → SS → Prop} {Pb : Bool → SS → Prop} {X : XQ} {Y : Sl → XQ} {Pn : Sl → SS → Prop} {q : Nat}
/-! one turn of the law -/
theorem stk_lt {ws : List Int} {pl h : Nat} (hw : Wh ws) (hh : h ≤ 1000000000) : (stk ws pl h).natAbs < 2 ^ 100 := by
  unfold stk
  have ⟨s1, s2⟩ := hw.sum
  have hr := rot_wh hw pl
  have a1 := sum_pos (l := (rot ws pl).take (h % ws.length)) fun x hx => (hr.c x (List.mem_of_mem_take hx)).1
  have a2 := sum_le (l := (rot ws pl).take (h % ws.length)) fun x hx => (hr.c x (List.mem_of_mem_take hx)).2
  have l2 := hr.l2
  have l3 : ((rot ws pl).take (h % ws.length)).length ≤ 60 := by rw [List.length_take]; omega
  have hd := Nat.div_le_self h ws.length
  have e := Int.natAbs_mul ((h / ws.length : Nat) : Int) ws.sum
  have m : ((h / ws.length : Nat) : Int).natAbs * ws.sum.natAbs ≤ 1000000000 * 1440 := Nat.mul_le_mul (show h / ws.length ≤ 1000000000 by omega) (by omega)
  generalize ((h / ws.length : Nat) : Int) * ws.sum = a at *
  generalize ((rot ws pl).take (h % ws.length)).sum = b at *
  omega
theorem pul_lt {p pl u : Nat} (p1 : 1 ≤ p) (hp : p ≤ 60) : (pul p pl u).natAbs < 2 ^ 100 := by
  obtain ⟨m, e1, e2, _⟩ := pul_ok (p := p) (place := pl) (due := u) p1
  rw [e1]
  omega
theorem unl_lt {ws us : List Int} {pl sp k : Nat} (hw : Wh ws) (hu : Wh us) (h : unl ws pl us sp = some k) : k < 2 ^ 90 := by
  unfold unl at h
  have := List.mem_range.mp (List.mem_of_find?_eq_some h)
  have m : ws.length * us.length ≤ 60 * 60 := Nat.mul_le_mul hw.l2 hu.l2
  omega
theorem num_sat {ws : List Int} {δ : Sl} (hw : Wh ws) (da : DA S 0 2 q) (hq : q ≤ 10000000000) (h1 : δ[1]? = some (some (.ref 0))) (h2 : δ[2]? = some (some (.ref 2))) (h3 : δ[3]? = some (some (wD ws))) (k : ∀ (c : Nat) S', c ≤ 1000000000 → DA S' 0 2 (q + 2) → P (.int (nI c)) S') :
    XSat (eCall (F_l_one C) 3 (aCons (eLst (aCons (eC (.int 0)) (aCons (eC (.int 1)) (aCons (eC (.int 2)) (aCons (eCB (one lenD) (aCons (eVar 3) aNil)) (aCons (eCB (one sumD) (aCons (eVar 3) aNil)) (aCons (eCall (F_l_take C) 3 (aCons (eVar 1) (aCons (eVar 2) (aCons (eC (.int 500)) aNil)))) (aCons (eC (.int 1000000000)) aNil)))))))) (aCons (eVar 1) (aCons (eVar 2) aNil))) δ S) P X := by
  have l2 := hw.l2
  have ⟨s1, s2⟩ := hw.sum
  simp only [xe_call, xe_lst7, xe_cb, xa_cons, xa_nil, xe_c, xe_var, h1, h2, h3, len_w, so_sumW, List.length_cons, List.length_nil, Nat.zero_add, Nat.reduceAdd, true_and]
  refine (l_take_sat da (by omega) (by decide) fun r S1 r0 r1 up1 len1 da1 => ?_).x
  refine (one_new da1 (by omega) (by simp) fun d S2 hm up2 da2 => ?_).x
  have hd : ∃ i : Int, d = .int i ∧ 0 ≤ i ∧ i ≤ 1000000000 := by
    simp only [List.mem_cons, List.not_mem_nil, or_false] at hm
    have e := nI_eq (n := ws.length)
    rcases hm with rfl | rfl | rfl | rfl | rfl | rfl | rfl
    · exact ⟨_, rfl, by decide, by decide⟩
    · exact ⟨_, rfl, by decide, by decide⟩
    · exact ⟨_, rfl, by decide, by decide⟩
    · exact ⟨_, rfl, by omega, by omega⟩
    · exact ⟨_, rfl, by omega, by omega⟩
    · exact ⟨_, rfl, by omega, by omega⟩
    · exact ⟨_, rfl, by decide, by decide⟩
  obtain ⟨i, rfl, i0, i1⟩ := hd
  obtain ⟨c, rfl, hc⟩ := nat_of (m := 1000000001) i0 (by omega)
  exact k c S2 (by omega) da2
theorem t1_sat (ne : NE C) {R : PSt} {ws : List Int} {p : Nat} (hw : Wh ws) (hp : Per ws p) {a0 : D} {o4 o5 o6 o7 o8 o9 o10 o11 o12 o13 o14 o15 o16 o17 o18 o19 o20 o21 o22 o23 : Option D} (da : DA S 0 2 q) (hq : q ≤ 1000000000)
    (k : ∀ S' pl u o13 o14, pl < ws.length → u < ws.length → DA S' 0 2 (q + 4) → XR (R (sl a0 (some (wD ws)) o4 o5 o6 o7 o8 o9 o10 o11 o12 o13 o14 o15 o16 o17 o18 o19 (some (.int (nI pl))) (some (.int (nI u))) o22 o23) S') Pn P Y) :
    XR (sSeq (v0 C) (sSeq (v1 C) (sSeq (v2 C) (sSeq (v3 C) R))) (sl a0 (some (wD ws)) o4 o5 o6 o7 o8 o9 o10 o11 o12 o13 o14 o15 o16 o17 o18 o19 o20 o21 o22 o23) S) Pn P Y := by
  have l1 := hw.l1
  have l2 := hw.l2
  rw [x_seq]
  unfold v0
  have pos := nI_pos l1
  simp only [x_par, xe_call, xe_cb, xa_cons, xa_nil, xe_var, len_w, List.getElem?_cons_succ, List.getElem?_cons_zero, List.set_cons_succ, List.set_cons_zero, List.length_cons, List.length_nil, List.map_cons, List.map_nil, List.cons_append, List.nil_append, List.replicate, Nat.reduceAdd, Nat.zero_add, true_and]
  refine (l_take_sat da (by omega) pos fun r S1 r0 r1 up1 len1 da1 => ?_).x
  obtain ⟨pl, rfl, hpl⟩ := nat_of r0 r1
  refine (l_take_sat da1 (by omega) pos fun r S2 r0' r1' up2 len2 da2 => ?_).x
  obtain ⟨u, rfl, hu⟩ := nat_of r0' r1'
  have hpl : pl < ws.length := by rw [nI_eq] at hpl; omega
  have hu : u < ws.length := by rw [nI_eq] at hu; omega
  rw [x_seq]
  unfold v1
  rw [x_asg1]
  refine num_sat hw da2 (by omega) rfl rfl rfl fun c S3 hc da3 => ?_
  obtain ⟨h, hh, hle⟩ := hr_ex (place := pl) (c := c) l1 fun x hx => (hw.c x hx).1
  have hlt : h < 2 ^ 90 := by
    have ⟨s1, s2⟩ := hw.sum
    have hd : (c : Int) / ws.sum ≤ c := Int.ediv_le_self _ (by omega)
    have m : ws.length * ((c : Int) / ws.sum).toNat ≤ 60 * 1000000000 := Nat.mul_le_mul l2 (by omega)
    omega
  rw [x_seq]
  unfold v2
  simp only [x_asg1, xe_call, xe_tup3, xa_cons, xa_nil, xe_var, List.getElem?_cons_succ, List.getElem?_cons_zero, List.set_cons_succ, List.set_cons_zero, List.length_cons, List.length_nil, List.map_cons, List.map_nil, List.cons_append, List.nil_append, List.replicate, Nat.reduceAdd, Nat.zero_add, true_and]
  refine (l_strokes_sat hw (by omega) ?_).x
  refine (l_hours_sat hw (by omega) hh hle ?_).x
  refine (l_pulls_sat hw hpl hu hp fun l => ?_).x
  rw [x_seq]
  unfold v3
  simp only [x_if, xt_not, xt_tru, xe_call, xe_tup3, xa_cons, xa_nil, xe_var, xe_c, List.getElem?_cons_succ, List.getElem?_cons_zero, List.set_cons_succ, List.set_cons_zero, List.length_cons, List.length_nil, List.map_cons, List.map_nil, List.cons_append, List.nil_append, List.replicate, Nat.reduceAdd, Nat.zero_add, true_and]
  refine (told_strokes ne hw hpl hc fun l1' => ?_).x
  refine (told_hours ne hw hpl hc hh fun l2' => ?_).x
  refine (told_pulls ne hw hpl hu hp fun l3' => ?_).x
  refine (l_same_sat ((nb3 (nb_int (stk_lt hw hc)) (nb_nI hlt) (nb_int (pul_lt hp.p1 (by have := hp.pn; omega)))).nice (by decide) (by decide)) ?_).x
  simp only [tru_bl, Bool.not_true, Bool.false_eq_true, if_false, x_nil]
  exact k _ pl u _ _ hpl hu (da3.app.app.app.app.up (by omega))
theorem t2_sat (ne : NE C) {R : PSt} {ws : List Int} {pl u : Nat} (hw : Wh ws) (hpl : pl < ws.length) {a0 : D} {o4 o5 o6 o7 o8 o9 o10 o11 o12 o13 o14 o15 o16 o17 o18 o19 o22 o23 : Option D} (da : DA S 0 2 q) (hq : q ≤ 1000000000)
    (k : ∀ S' o15 o16, DA S' 0 2 (q + 102) → XR (R (sl a0 (some (wD ws)) o4 o5 o6 o7 o8 o9 o10 o11 o12 o13 o14 o15 o16 o17 o18 o19 (some (.int (nI pl))) (some (.int (nI u))) o22 o23) S') Pn P Y) :
    XR (sSeq (v4 C) (sSeq (v5 C) (sSeq (v6 C) R)) (sl a0 (some (wD ws)) o4 o5 o6 o7 o8 o9 o10 o11 o12 o13 o14 o15 o16 o17 o18 o19 (some (.int (nI pl))) (some (.int (nI u))) o22 o23) S) Pn P Y := by
  rw [x_seq]
  unfold v4
  rw [x_asg1]
  refine other_sat hw da (by omega) rfl rfl rfl rfl fun us S1 hu up1 da1 => ?_
  have l1 := hu.l1
  have pos := nI_pos l1
  rw [x_seq]
  unfold v5
  simp only [x_asg1, xe_call, xe_cb, xa_cons, xa_nil, xe_var, len_w, List.getElem?_cons_succ, List.getElem?_cons_zero, List.set_cons_succ, List.set_cons_zero, List.length_cons, List.length_nil, List.map_cons, List.map_nil, List.cons_append, List.nil_append, List.replicate, Nat.reduceAdd, Nat.zero_add, true_and]
  refine (l_take_sat da1 (by omega) pos fun r S2 r0 r1 up2 len2 da2 => ?_).x
  obtain ⟨sp, rfl, hsp⟩ := nat_of r0 r1
  have hsp : sp < us.length := by rw [nI_eq] at hsp; omega
  rw [x_seq]
  unfold v6
  simp only [x_if, xt_not, xt_tru, xe_call, xa_cons, xa_nil, xe_var, xe_c, List.getElem?_cons_succ, List.getElem?_cons_zero, List.set_cons_succ, List.set_cons_zero, List.length_cons, List.length_nil, List.map_cons, List.map_nil, List.cons_append, List.nil_append, List.replicate, Nat.reduceAdd, Nat.zero_add, true_and]
  refine (told_unlike ne hw hu hpl hsp fun l2' => ?_).x
  refine (l_unlike_sat hw hu fun l3' => ?_).x
  refine (l_same_sat ((nb_oN fun k hk => unl_lt hw hu hk).nice (by decide) (by decide)) ?_).x
  simp only [tru_bl, Bool.not_true, Bool.false_eq_true, if_false, x_nil]
  exact k _ _ _ (da2.app.app.up (by omega))
theorem t3_sat (ne : NE C) {ws : List Int} (hw : Wh ws) {a0 : D} {o4 o5 o6 o7 o8 o9 o10 o11 o12 o13 o14 o15 o16 o17 o18 o19 o20 o21 o22 o23 : Option D} (da : DA S 0 2 q) (hq : q ≤ 1000000000)
    (k : ∀ S' o17 o18 o19, DA S' 0 2 (q + 404) → Pn (sl a0 (some (wD ws)) o4 o5 o6 o7 o8 o9 o10 o11 o12 o13 o14 o15 o16 o17 o18 o19 o20 o21 o22 o23) S') :
    XR (sSeq (v7 C) (sSeq (v8 C) (sSeq (v9 C) (sSeq (v10 C) sNil))) (sl a0 (some (wD ws)) o4 o5 o6 o7 o8 o9 o10 o11 o12 o13 o14 o15 o16 o17 o18 o19 o20 o21 o22 o23) S) Pn P Y := by
  rw [x_seq]
  unfold v7
  rw [x_asg1]
  refine deeds_sat (vs := []) da (by omega) rfl rfl (show 18 < 24 by decide) fun gs S1 hg up1 da1 => ?_
  have ln : SatO (one lenD [dsD gs] S1) = SatO (one lenD [dsD gs] S1) := rfl
  have lend : ∀ (S : SS) (P : D → SS → Prop), SatO (one lenD [dsD gs] S) P = P (.int (nI gs.length)) S := fun S P => by rw [dsD_eq, so_lenN, List.length_map]
  rw [x_seq]
  unfold v8
  simp only [x_asg1, xe_call, xe_op2, xe_cb, xa_cons, xa_nil, xe_var, xe_c, lend, so_add, List.getElem?_cons_succ, List.getElem?_cons_zero, List.set_cons_succ, List.set_cons_zero, List.length_cons, List.length_nil, List.map_cons, List.map_nil, List.cons_append, List.nil_append, List.replicate, Nat.reduceAdd, Nat.zero_add, true_and]
  have pos : 0 < nI gs.length + 1 := by rw [nI_eq]; omega
  refine (l_take_sat da1 (by omega) pos fun r S2 r0 r1 up2 len2 da2 => ?_).x
  obtain ⟨kk, rfl, hkk⟩ := nat_of r0 r1
  have hkk : kk ≤ gs.length := by rw [nI_eq] at hkk; omega
  rw [x_seq]
  unfold v9
  rw [x_asg1]
  refine wrong_sat da2 (by omega) hg hkk rfl rfl rfl rfl fun ds S3 ha hd up3 da3 => ?_
  rw [x_seq]
  unfold v10
  generalize hT : D.tup ds = T
  have lenT : ∀ (S : SS) (P : D → SS → Prop), SatO (one lenD [T] S) P = P (.int (nI ds.length)) S := fun S P => by rw [← hT, so_lenN]
  simp only [x_if, xt_or, xt_and, xt_not, xt_tru, xt_val, xe_call, xe_op2, xe_cb, xa_cons, xa_nil, xe_var, xe_c, List.getElem?_cons_succ, List.getElem?_cons_zero, List.set_cons_succ, List.set_cons_zero, List.length_cons, List.length_nil, List.map_cons, List.map_nil, List.cons_append, List.nil_append, List.replicate, Nat.reduceAdd, Nat.zero_add, true_and]
  have ag : aP (.tup (gs.map dD)) = true := aP_of (by rw [List.length_map]; omega) fun d hd => by
    obtain ⟨g, _, rfl⟩ := List.mem_map.mp hd
    rfl
  refine (l_deeds_fit_sat ne dsD_eq.symm hw ag (by rw [List.length_map]; exact hg) fun l => ?_).x
  simp only [tru_bl, Bool.not_true, Bool.false_eq_true, if_false, lenT, so_le, boolOf_bl]
  by_cases hc : nI ds.length ≤ 400
  · rw [if_pos (decide_eq_true hc)]
    rw [nI_eq] at hc
    refine (l_deeds_fit_sat ne hT hw ha (by omega) fun l' => ?_).x
    simp only [tru_bl, Bool.not_true, Bool.false_eq_true, if_false, x_nil]
    exact k _ _ _ _ (da3.app.app.up (by omega))
  · rw [if_neg (by simpa using hc)]
    simp only [Bool.false_eq_true, if_false, x_nil]
    exact k _ _ _ _ (da3.app.up (by omega))
theorem turn_sat (ne : NE C) {ws : List Int} {p : Nat} (hw : Wh ws) (hp : Per ws p) {a0 : D} {o4 o5 o6 o7 o8 o9 o10 o11 o12 o13 o14 o15 o16 o17 o18 o19 o20 o21 o22 o23 : Option D} (da : DA S 0 2 q) (hq : q ≤ 100000000)
    (k : ∀ S' pl u o13 o14 o15 o16 o17 o18 o19, pl < ws.length → DA S' 0 2 (q + 600) → Pn (sl a0 (some (wD ws)) o4 o5 o6 o7 o8 o9 o10 o11 o12 o13 o14 o15 o16 o17 o18 o19 (some (.int (nI pl))) u o22 o23) S') :
    XR (vB C (sl a0 (some (wD ws)) o4 o5 o6 o7 o8 o9 o10 o11 o12 o13 o14 o15 o16 o17 o18 o19 o20 o21 o22 o23) S) Pn P Y := by
  unfold vB
  refine t1_sat ne hw hp da (by omega) fun S1 pl u _ _ h1 h2 da1 => ?_
  refine t2_sat ne hw h1 da1 (by omega) fun S2 _ _ da2 => ?_
  refine t3_sat ne hw da2 (by omega) fun S3 _ _ _ da3 => ?_
  exact k _ _ _ _ _ _ _ _ _ _ h1 (da3.up (by omega))
end
end K56
set_option Elab.async false
set_option linter.all false
set_option maxRecDepth 100000
set_option maxHeartbeats 2000000
namespace K56
open PySem L2 DL
section
variable {C : CA} {S : SS} {P : D → SS → Prop} {Pb : Bool → SS → Prop} {X : XQ} {Y : Sl → XQ} {Pn : Sl → SS → Prop} {q : Nat}
/-! wheels from notches, told -/
theorem dif_sums {ws : List Int} : dif (sumsL ws) = ws := by
  unfold dif
  refine List.ext_getElem (by simp [sumsL]) fun i h1 h2 => ?_
  rw [List.getElem_map, List.getElem_zip]
  have e1 : (0 :: sumsL ws)[i]'(by simp [sumsL]; omega) = (ws.take i).sum := by
    cases i with
    | zero => rfl
    | succ i => simp [sumsL]
  have e2 : (sumsL ws)[i]'(by simp [sumsL]; omega) = (ws.take (i + 1)).sum := by simp [sumsL]
  show (sumsL ws)[i]'(by simp [sumsL]; omega) - (0 :: sumsL ws)[i]'(by simp [sumsL]; omega) = ws[i]
  rw [e1, e2, List.take_add_one, List.getElem?_eq_getElem h2, List.sum_append]
  simp
  omega
theorem sums_in {ws : List Int} (hw : Wh ws) : ∀ x ∈ sumsL ws, 1 ≤ x ∧ x ≤ 1440 := fun x hx => by
  unfold sumsL at hx
  obtain ⟨k, hk, rfl⟩ := List.mem_map.mp hx
  have hk := List.mem_range.mp hk
  have a1 := sum_pos (l := ws.take (k + 1)) fun x hx => (hw.c x (List.mem_of_mem_take hx)).1
  have a2 := sum_le (l := ws.take (k + 1)) fun x hx => (hw.c x (List.mem_of_mem_take hx)).2
  have l2 := hw.l2
  have e : (ws.take (k + 1)).length = k + 1 := by rw [List.length_take]; omega
  omega
theorem sums_len {ws : List Int} : (sumsL ws).length = ws.length := by simp [sumsL]
theorem nkB_sums {ws : List Int} (hw : Wh ws) : nkB (wD (sumsL ws)) = true := by
  have l1 := hw.l1
  have l2 := hw.l2
  unfold nkB
  rw [allR_of (sums_in hw), Bool.and_true, wD_eq]
  have e1 : lenB 1 60 (.tup ((sumsL ws).map D.int)) = true := by
    show (decide ((1 : Int) ≤ (((sumsL ws).map D.int).length : Int)) && decide ((((sumsL ws).map D.int).length : Int) ≤ 60)) = true
    rw [List.length_map, sums_len, decide_eq_true (by omega), decide_eq_true (by omega)]
    rfl
  rw [e1, Bool.true_and]
  show ((dif (((sumsL ws).map D.int).map toI)).all fun x => decide (1 ≤ x) && decide (x ≤ 24)) = true
  rw [toI_map, dif_sums, List.all_eq_true]
  intro x hx
  have := hw.c x hx
  rw [decide_eq_true this.1, decide_eq_true this.2]
  rfl
theorem nb_sums {ws : List Int} (hw : Wh ws) : NB (wD (sumsL ws)) 40000 1 := (nb_w fun x hx => by have := sums_in hw x hx; omega).up (by rw [sums_len]; have := hw.l2; omega) (Nat.le_refl _)
theorem told_wheel (ne : NE C) {ws : List Int} {x2 x3 x4 : D} (hw : Wh ws) (k : ∀ l, P (wD ws) (S ++ l)) : Sat (F_l_told C [.int 6, wD (sumsL ws), x2, x3, x4] S) P :=
  told_6 ne (wheel_of_x (aP_w (by rw [sums_len]; have := hw.l2; omega)) (fun z => ft (nkB_sums hw) z) fun ps e _ l => by
    rw [← wD_inj e, dif_sums]
    exact k l)
/-! what is refused -/
theorem no_wh {w : D} (h : whB w = false) {ws : List Int} (e : w = wD ws) (hw : Wh ws) {Q : Prop} : Q := by
  rw [e, whB_wh hw] at h
  cases h
theorem bad_wheel (ne : NE C) {i : Int} (hi : D.int i ∈ ([.int 0, .int 1, .int 2, .int 3, .int 4, .int 5, .int 7, .int 8, .int 9] : List D)) {w o t : D} (hw : aP w = true) (hb : whB w = false) (ho : aP o = true) (ht : aP t = true) (k : ∀ l, P (arg "wheel") (S ++ l)) : Sat (F_l_told C [.int i, w, o, t, t] S) P := by
  simp only [List.mem_cons, List.not_mem_nil, or_false, D.int.injEq] at hi
  rcases hi with rfl | rfl | rfl | rfl | rfl | rfl | rfl | rfl | rfl
  · exact told_0 ne (notches_x hw (fun _ l => xa (k l)) fun ws e h => no_wh hb e h)
  · exact told_1 ne (period_x hw (fun _ l => xa (k l)) fun ws _ e h => no_wh hb e h)
  · exact told_2 ne (strokes_x hw ho (fun _ l => xa (k l)) (fun ws e h => no_wh hb e h) ht (fun ws _ e _ h => no_wh hb e h) fun ws _ _ e _ _ h => no_wh hb e h)
  · exact told_3 ne (hours_for_x hw ho (fun _ l => xa (k l)) (fun ws e h => no_wh hb e h) ht (fun ws _ e _ h => no_wh hb e h) fun ws _ _ _ _ e _ _ h => no_wh hb e h)
  · exact told_4 ne (pulls_x hw ho (fun _ l => xa (k l)) (fun ws e h => no_wh hb e h) ht (fun ws _ e _ h => no_wh hb e h) fun ws _ _ _ e _ _ h => no_wh hb e h)
  · exact told_5 ne (first_unlike_x hw ho ht ht (fun _ l => xa (k l)) (fun ws e h => no_wh hb e h) (fun ws _ e _ h => no_wh hb e h) (fun ws _ _ e _ _ h => no_wh hb e h) fun ws _ _ _ e _ _ _ h => no_wh hb e h)
  · exact told_7 ne (struck_x hw ho (fun _ l => xa (k l)) (fun ws e h => no_wh hb e h) (fun ws _ _ e h => no_wh hb e h) fun ws _ e _ h => no_wh hb e h)
  · exact told_8 ne (wrong_hours_x hw ho (fun _ l => xa (k l)) (fun ws e h => no_wh hb e h) (fun ws _ _ e h => no_wh hb e h) fun ws _ e _ h => no_wh hb e h)
  · exact told_9 ne (pulls_needed_x hw ho (fun _ l => xa (k l)) (fun ws e h => no_wh hb e h) (fun ws _ _ e h => no_wh hb e h) fun ws _ _ e _ h => no_wh hb e h)
theorem no_place {ws ws' : List Int} {o : D} {pl : Nat} (hb : isR o 0 (nI ws.length - 1) = false) (e : wD ws = wD ws') (e2 : o = .int (nI pl)) (h : pl < ws'.length) {Q : Prop} : Q := by
  have e := wD_inj e
  subst e
  rw [e2, place_in h] at hb
  cases hb
theorem bad_place (ne : NE C) {ws : List Int} (hw : Wh ws) {i : Int} (hi : i = 2 ∨ i = 3 ∨ i = 4 ∨ i = 5) {o a b : D} (ho : aP o = true) (hb : isR o 0 (nI ws.length - 1) = false) (ha : aP a = true) (hb' : aP b = true) (k : ∀ l, P (arg "place") (S ++ l)) : Sat (F_l_told C [.int i, wD ws, o, a, b] S) P := by
  rcases hi with rfl | rfl | rfl | rfl
  · exact told_2 ne (strokes_x hw.aP ho (fun z => ft (whB_wh hw) z) (fun ws e h z l => xa (k l)) ha (fun ws _ e e2 _ h => no_place hb e e2 h) fun ws _ _ e e2 _ _ h => no_place hb e e2 h)
  · exact told_3 ne (hours_for_x hw.aP ho (fun z => ft (whB_wh hw) z) (fun ws e h z l => xa (k l)) ha (fun ws _ e e2 _ h => no_place hb e e2 h) fun ws _ _ _ _ e e2 _ _ h => no_place hb e e2 h)
  · exact told_4 ne (pulls_x hw.aP ho (fun z => ft (whB_wh hw) z) (fun ws e h z l => xa (k l)) ha (fun ws _ e e2 _ h => no_place hb e e2 h) fun ws _ _ _ e e2 _ _ h => no_place hb e e2 h)
  · exact told_5 ne (first_unlike_x hw.aP ho ha hb' (fun z => ft (whB_wh hw) z) (fun ws e h z l => xa (k l)) (fun ws _ e e2 _ h => no_place hb e e2 h) (fun ws _ _ e e2 _ _ h => no_place hb e e2 h) fun ws _ _ _ e e2 _ _ _ h => no_place hb e e2 h)
theorem pl_ok {ws ws' : List Int} {pl : Nat} (hpl : pl < ws.length) (e : wD ws = wD ws') (z : isR (.int (nI pl)) 0 (nI ws'.length - 1) = false) {Q : Prop} : Q := ft (place_in (wD_inj e ▸ hpl)) z
theorem no_num {d : D} {c : Nat} (hb : isR d 0 1000000000 = false) (e : d = .int (nI c)) (h : c ≤ 1000000000) {Q : Prop} : Q := by
  rw [e, num_in h] at hb
  cases hb
section
variable (ne : NE C) {ws : List Int} {pl : Nat} (hw : Wh ws) (hpl : pl < ws.length) {o b : D}
include ne hw hpl
theorem bad_hours (ho : aP o = true) (hb : isR o 0 1000000000 = false) (k : ∀ l, P (arg "hours") (S ++ l)) : Sat (F_l_told C [.int 2, wD ws, .int (nI pl), o, .non] S) P :=
  told_2 ne (strokes_x hw.aP aP_nI (fun z => ft (whB_wh hw) z) (fun ws e h z => pl_ok hpl e z) ho (fun ws _ e e2 _ h _ l => xa (k l)) fun ws _ _ e e2 e3 _ _ h => no_num hb e3 h)
theorem bad_count (ho : aP o = true) (hb : isR o 0 1000000000 = false) (k : ∀ l, P (arg "count") (S ++ l)) : Sat (F_l_told C [.int 3, wD ws, .int (nI pl), o, .non] S) P := by
  refine told_3 ne (hours_for_x hw.aP aP_nI (fun z => ft (whB_wh hw) z) (fun ws e h z => pl_ok hpl e z) ho (fun ws _ e e2 _ h _ l => xa (k l)) fun ws' pl' c h hc e e2 e3 _ _ _ => no_num hb e3 hc)
theorem bad_due (ho : aP o = true) (hb : isR o 0 (nI ws.length - 1) = false) (k : ∀ l, P (arg "due") (S ++ l)) : Sat (F_l_told C [.int 4, wD ws, .int (nI pl), o, .non] S) P :=
  told_4 ne (pulls_x hw.aP aP_nI (fun z => ft (whB_wh hw) z) (fun ws e h z => pl_ok hpl e z) ho (fun ws _ e e2 _ h _ l => xa (k l)) fun ws _ _ _ e e2 e3 _ _ h => no_place hb e e3 h)
theorem bad_other (ho : aP o = true) (hbp : aP b = true) (hb : whB b = false) (k : ∀ l, P (arg "other") (S ++ l)) : Sat (F_l_told C [.int 5, wD ws, .int (nI pl), b, o] S) P :=
  told_5 ne (first_unlike_x hw.aP aP_nI hbp ho (fun z => ft (whB_wh hw) z) (fun ws e h z => pl_ok hpl e z) (fun ws _ e e2 _ h _ l => xa (k l)) (fun ws _ _ e e2 e3 _ _ h => no_wh hb e3 h) fun ws _ _ _ e e2 e3 _ _ _ h => no_wh hb e3 h)
theorem bad_spot (ho : aP o = true) (hb : isR o 0 (nI ws.length - 1) = false) (k : ∀ l, P (arg "spot") (S ++ l)) : Sat (F_l_told C [.int 5, wD ws, .int (nI pl), wD ws, o] S) P :=
  told_5 ne (first_unlike_x hw.aP aP_nI hw.aP ho (fun z => ft (whB_wh hw) z) (fun ws e h z => pl_ok hpl e z) (fun ws _ e e2 _ h z => ft (whB_wh hw) z) (fun ws _ _ e e2 e3 _ _ h _ l => xa (k l)) fun ws _ _ _ e e2 e3 e4 _ _ _ h => no_place hb e3 e4 h)
end
theorem bad_deeds (ne : NE C) {ws : List Int} (hw : Wh ws) {i : Int} (hi : D.int i ∈ ([.int 7, .int 8, .int 9] : List D)) {o : D} (ho : aP o = true) (hb : lenB 0 400 o = false) (hno : ∀ ds, o = .tup ds → ∃ gs : List Dd, ds = gs.map dD) (k : ∀ l, P (arg "deeds") (S ++ l)) : Sat (F_l_told C [.int i, wD ws, o, .non, .non] S) P := by
  have nb : ∀ {ds : List D} {j : Nat} {Q : Prop}, o = .tup ds → Bad ds j → Q := fun e hb => by
    obtain ⟨gs, rfl⟩ := hno _ e
    obtain ⟨d, h1, h2, _⟩ := hb
    obtain ⟨g, _, rfl⟩ := get_dD h1
    rw [okD_dD] at h2
    cases h2
  have nl : ∀ {gs : List Dd} {Q : Prop}, o = dsD gs → gs.length ≤ 400 → Q := fun {gs} {Q} e hl => by
    rw [e, dsD_eq] at hb
    have : lenB 0 400 (.tup (gs.map dD)) = true := by
      show (decide ((0 : Int) ≤ ((gs.map dD).length : Int)) && decide (((gs.map dD).length : Int) ≤ 400)) = true
      rw [List.length_map, decide_eq_true (by omega), decide_eq_true (by omega)]
      rfl
    rw [this] at hb
    cases hb
  simp only [List.mem_cons, List.not_mem_nil, or_false, D.int.injEq] at hi
  rcases hi with rfl | rfl | rfl
  · exact told_7 ne (struck_x hw.aP ho (fun z => ft (whB_wh hw) z) (fun _ _ _ _ l => xa (k l)) (fun ws _ _ e h e2 hb => nb e2 hb) fun ws _ e e2 h h2 => nl e2 h2)
  · exact told_8 ne (wrong_hours_x hw.aP ho (fun z => ft (whB_wh hw) z) (fun _ _ _ _ l => xa (k l)) (fun ws _ _ e h e2 hb => nb e2 hb) fun ws _ e e2 h h2 => nl e2 h2)
  · exact told_9 ne (pulls_needed_x hw.aP ho (fun z => ft (whB_wh hw) z) (fun _ _ _ _ l => xa (k l)) (fun ws _ _ e h e2 hb => nb e2 hb) fun ws _ _ e e2 h h2 => nl e2 h2)
theorem bad_notches (ne : NE C) {d x2 x3 x4 : D} (hp : aP d = true) (hb : nkB d = false) (k : ∀ l, P (arg "notches") (S ++ l)) : Sat (F_l_told C [.int 6, d, x2, x3, x4] S) P :=
  told_6 ne (wheel_of_x hp (fun _ l => xa (k l)) fun ps e h => ft h hb)
end
end K56
set_option Elab.async false
set_option linter.all false
set_option maxRecDepth 100000
set_option maxHeartbeats 2000000
namespace K56
open PySem L2 DL
section
variable {C : CA} {S : SS} {P : D → SS → Prop} {Pb : Bool → SS → Prop} {X : XQ} {Y : Sl → XQ} {Pn : Sl → SS → Prop} {q : Nat}
/-! the law's last pieces -/
theorem hit_tl {δ : Sl} {a : PAs} {ds : List D} (ha : ∀ Q : List D → SS → Prop, Q ds S → XSat (a δ S) Q noX) (hl : ds.length ≤ 100000) : XSat (iVal (eTup a) δ S) (fun x S1 => (∀ l, gOk x.2 (S ++ l)) ∧ S1 = S ∧ x.1 = ds) noX := by
  simp only [xit_val, xe_tup]
  refine ha _ ⟨by rw [sizeLine_eq]; omega, ?_⟩
  simp only [iterD]
  first
    | exact ⟨fun l => trivial, trivial⟩
    | exact ⟨fun l => trivial, trivial, trivial⟩
    | exact ⟨fun l => trivial, rfl, rfl⟩
theorem nbA {r : Str} (hr : r ∈ (["wheel", "place", "hours", "count", "due", "other", "spot", "deeds", "notches"] : List Str)) : NB (arg r) 2000 1 := by
  simp only [List.mem_cons, List.not_mem_nil, or_false] at hr
  rcases hr with rfl | rfl | rfl | rfl | rfl | rfl | rfl | rfl | rfl
  all_goals exact ⟨⟨⟨by decide +kernel, by decide +kernel⟩, ⟨by decide +kernel, by decide +kernel⟩, trivial⟩, by decide, by decide⟩
theorem niA {r : Str} (hr : r ∈ (["wheel", "place", "hours", "count", "due", "other", "spot", "deeds", "notches"] : List Str)) : Nice (arg r) := (nbA hr).nice (by decide) (by decide)
theorem niL {ds : List D} (h : ds.length ≤ 10) (hd : ∀ d ∈ ds, NB d 2000 1) : Nice (.tup ds) := by
  refine (nb_tup hd).nice ?_ (by decide)
  have := Nat.mul_le_mul_right (2000 + 2) h
  omega
theorem w9_sat (ne : NE C) {a0 w o t d3 : D} {o4 o5 o9 o10 o11 o12 o13 o14 o15 o16 o17 o18 o19 o20 o21 o22 o23 : Option D} (hw : aP w = true) (hb : whB w = false) (ho : aP o = true) (ht : aP t = true)
    (k : ∀ l, Pn (sl a0 (some d3) o4 o5 (some w) (some o) (some t) o9 o10 o11 o12 o13 o14 o15 o16 o17 o18 o19 o20 o21 o22 o23) (S ++ l)) :
    XR (w9 C (sl a0 (some d3) o4 o5 (some w) (some o) (some t) o9 o10 o11 o12 o13 o14 o15 o16 o17 o18 o19 o20 o21 o22 o23) S) Pn P Y := by
  unfold w9
  rw [x_if]
  refine xc_some (items := [.int 0, .int 1, .int 2, .int 3, .int 4, .int 5, .int 7, .int 8, .int 9]) (c := fun _ => false) (hit_tl (fun Q h => by simp only [xa_cons, xa_nil, xe_c]; exact h) (by decide)) (fun d hd => ?_) (by decide) fun l => ?_
  · obtain ⟨i, rfl⟩ : ∃ i, d = .int i := by
      simp only [List.mem_cons, List.not_mem_nil, or_false] at hd
      rcases hd with rfl | rfl | rfl | rfl | rfl | rfl | rfl | rfl | rfl <;> exact ⟨_, rfl⟩
    refine ⟨_, rfl, rfl, fun S' Q kk => ?_⟩
    simp only [wipeD, xt_val, xe_op2, xe_call, xe_tup2, xa_cons, xa_nil, xe_var, xe_c, List.getElem?_cons_succ, List.getElem?_cons_zero, List.set_cons_succ, List.set_cons_zero, List.length_cons, List.length_nil, List.map_cons, List.map_nil, List.cons_append, List.nil_append, List.replicate, Nat.reduceAdd, Nat.zero_add, true_and]
    refine (bad_wheel ne hd hw hb ho ht fun l => ?_).x
    rw [nice_ne (niA (by decide))]
    simp only [boolOf_bl]
    exact kk l
  · have e : ([.int 0, .int 1, .int 2, .int 3, .int 4, .int 5, .int 7, .int 8, .int 9] : List D).any (fun _ => false) = false := rfl
    rw [e]
    simp only [Bool.false_eq_true, if_false, x_nil]
    exact k l
theorem w17_sat (ne : NE C) {a0 no : D} {ws : List Int} {o4 o5 o6 o7 o8 o9 o10 o11 o13 o14 o15 o16 o17 o18 o19 o20 o21 o22 o23 : Option D} (hw : Wh ws) (ho : aP no = true) (hb : lenB 0 400 no = false) (hno : ∀ ds, no = .tup ds → ∃ gs : List Dd, ds = gs.map dD)
    (k : ∀ l, Pn (sl a0 (some (wD ws)) o4 o5 o6 o7 o8 o9 o10 o11 (some no) o13 o14 o15 o16 o17 o18 o19 o20 o21 o22 o23) (S ++ l)) :
    XR (w17 C (sl a0 (some (wD ws)) o4 o5 o6 o7 o8 o9 o10 o11 (some no) o13 o14 o15 o16 o17 o18 o19 o20 o21 o22 o23) S) Pn P Y := by
  unfold w17
  rw [x_if]
  refine xc_some (items := [.int 7, .int 8, .int 9]) (c := fun _ => false) (hit_tl (fun Q h => by simp only [xa_cons, xa_nil, xe_c]; exact h) (by decide)) (fun d hd => ?_) (by decide) fun l => ?_
  · obtain ⟨i, rfl⟩ : ∃ i, d = .int i := by
      simp only [List.mem_cons, List.not_mem_nil, or_false] at hd
      rcases hd with rfl | rfl | rfl <;> exact ⟨_, rfl⟩
    refine ⟨_, rfl, rfl, fun S' Q kk => ?_⟩
    simp only [wipeD, xt_val, xe_op2, xe_call, xe_tup2, xa_cons, xa_nil, xe_var, xe_c, List.getElem?_cons_succ, List.getElem?_cons_zero, List.set_cons_succ, List.set_cons_zero, List.length_cons, List.length_nil, List.map_cons, List.map_nil, List.cons_append, List.nil_append, List.replicate, Nat.reduceAdd, Nat.zero_add, true_and]
    refine (bad_deeds ne hw hd ho hb hno fun l => ?_).x
    rw [nice_ne (niA (by decide))]
    simp only [boolOf_bl]
    exact kk l
  · have e : ([.int 7, .int 8, .int 9] : List D).any (fun _ => false) = false := rfl
    rw [e]
    simp only [Bool.false_eq_true, if_false, x_nil]
    exact k l
/-- the places refused -/
theorem places_sat (ne : NE C) {R : PSt} {a0 w o t : D} {ws : List Int} {o4 o5 o9 o10 o11 o12 o13 o14 o15 o16 o17 o18 o19 o20 o21 o22 o23 : Option D} (hw : Wh ws) (hwp : aP w = true) (ho : aP o = true) (hb : isR o 0 (nI ws.length - 1) = false) (ht : aP t = true)
    (k : ∀ l o9, XR (R (sl a0 (some (wD ws)) o4 o5 (some w) (some o) (some t) o9 o10 o11 o12 o13 o14 o15 o16 o17 o18 o19 o20 o21 o22 o23) (S ++ l)) Pn P Y) :
    XR (sSeq (w10 C) (sSeq (w11 C) R) (sl a0 (some (wD ws)) o4 o5 (some w) (some o) (some t) o9 o10 o11 o12 o13 o14 o15 o16 o17 o18 o19 o20 o21 o22 o23) S) Pn P Y := by
  rw [x_seq]
  unfold w10
  simp only [x_asg1, xe_lst4, xe_call, xa_cons, xa_nil, xe_var, xe_c, List.getElem?_cons_succ, List.getElem?_cons_zero, List.set_cons_succ, List.set_cons_zero, List.length_cons, List.length_nil, List.map_cons, List.map_nil, List.cons_append, List.nil_append, List.replicate, Nat.reduceAdd, Nat.zero_add, true_and]
  refine (bad_place ne hw (.inl rfl) ho hb ht rfl fun l1 => ?_).x
  refine (bad_place ne hw (.inr (.inl rfl)) ho hb ht rfl fun l2 => ?_).x
  refine (bad_place ne hw (.inr (.inr (.inl rfl))) ho hb ho rfl fun l3 => ?_).x
  refine (bad_place ne hw (.inr (.inr (.inr rfl))) ho hb hwp ho fun l4 => ?_).x
  rw [x_seq]
  unfold w11
  simp only [x_if, xt_val, xe_op2, xe_var, xe_lst1, xe_tup2, xe_c, List.getElem?_cons_succ, List.getElem?_cons_zero, List.set_cons_succ, List.set_cons_zero, List.length_cons, List.length_nil, List.map_cons, List.map_nil, List.cons_append, List.nil_append, List.replicate, Nat.reduceAdd, Nat.zero_add, true_and]
  rw [so_repL (xs := [arg "place"]) get_last ⟨by decide, by decide, show 1 ≤ 1000 by decide⟩]
  have e4 : (List.replicate (4 : Int).toNat [arg "place"]).flatten = [arg "place", arg "place", arg "place", arg "place"] := rfl
  rw [e4, nice_neL (xs := [arg "place", arg "place", arg "place", arg "place"]) (by simp) (by simp) (niL (show 4 ≤ 10 by decide) fun d hd => by
    simp only [List.mem_cons, List.not_mem_nil, or_false, or_self] at hd
    rw [hd]
    exact nbA (by decide))]
  simp only [boolOf_bl, Bool.false_eq_true, if_false, x_nil, List.append_assoc]
  exact k _ _
theorem rest_sat (ne : NE C) {R : PSt} {a0 w o t : D} {ws : List Int} {pl : Nat} {o4 o5 o9 o10 o11 o12 o13 o14 o15 o16 o17 o18 o19 o21 o22 o23 : Option D} (hw : Wh ws) (hpl : pl < ws.length) (hwp : aP w = true) (hwb : whB w = false) (ho : aP o = true) (hb : isR o 0 (nI ws.length - 1) = false) (ht : aP t = true) (htb : isR t 0 1000000000 = false)
    (k : ∀ l o9 o10, XR (R (sl a0 (some (wD ws)) o4 o5 (some w) (some o) (some t) o9 o10 o11 o12 o13 o14 o15 o16 o17 o18 o19 (some (.int (nI pl))) o21 o22 o23) (S ++ l)) Pn P Y) :
    XR (sSeq (w12 C) (sSeq (w13 C) (sSeq (w14 C) R)) (sl a0 (some (wD ws)) o4 o5 (some w) (some o) (some t) o9 o10 o11 o12 o13 o14 o15 o16 o17 o18 o19 (some (.int (nI pl))) o21 o22 o23) S) Pn P Y := by
  rw [x_seq]
  unfold w12
  simp only [x_asg1, xe_lst2, xe_call, xa_cons, xa_nil, xe_var, xe_c, List.getElem?_cons_succ, List.getElem?_cons_zero, List.set_cons_succ, List.set_cons_zero, List.length_cons, List.length_nil, List.map_cons, List.map_nil, List.cons_append, List.nil_append, List.replicate, Nat.reduceAdd, Nat.zero_add, true_and]
  refine (bad_hours ne hw hpl ht htb fun l1 => ?_).x
  refine (bad_count ne hw hpl ht htb fun l2 => ?_).x
  rw [x_seq]
  unfold w13
  simp only [x_asg1, xe_op2, xe_lst3, xe_call, xa_cons, xa_nil, xe_var, xe_c, List.getElem?_cons_succ, List.getElem?_cons_zero, List.set_cons_succ, List.set_cons_zero, List.length_cons, List.length_nil, List.map_cons, List.map_nil, List.cons_append, List.nil_append, List.replicate, Nat.reduceAdd, Nat.zero_add, true_and]
  refine (bad_due ne hw hpl ho hb fun l3 => ?_).x
  refine (bad_other ne hw hpl ho hwp hwb fun l4 => ?_).x
  refine (bad_spot ne hw hpl ho hb fun l5 => ?_).x
  rw [so_addL (xs := [arg "hours", arg "count"]) (ys := [arg "due", arg "other", arg "spot"]) (by simp) (by simp) (by decide)]
  rw [x_seq]
  unfold w14
  simp only [x_if, xt_val, xe_op2, xe_var, List.getElem?_cons_succ, List.getElem?_cons_zero, List.set_cons_succ, List.set_cons_zero, List.length_cons, List.length_nil, List.map_cons, List.map_nil, List.cons_append, List.nil_append, List.replicate, Nat.reduceAdd, Nat.zero_add, true_and]
  refine Sat.x (lc_mapA (items := [.str "hours", .str "count", .str "due", .str "other", .str "spot"]) (g := fun d => .tup [.str "argument", d]) (XSat.s ?_) (fun d hd => ⟨_, rfl, fun S' Q kk => XSat.s ?_⟩) (by decide) fun l6 => ?_)
  · simp only [xit_val, xe_lst5, xe_c]
    rw [iter_ref get_last]
    first
      | exact ⟨rfl, rfl⟩
      | exact ⟨trivial, trivial⟩
      | exact ⟨trivial, rfl⟩
      | trivial
  · simp only [wipeD, xe_tup2, xe_c, xe_var, List.getElem?_cons_succ, List.getElem?_cons_zero, List.set_cons_succ, List.set_cons_zero, List.length_cons, List.length_nil, List.map_cons, List.map_nil, List.cons_append, List.nil_append, List.replicate, Nat.reduceAdd, Nat.zero_add, true_and]
    have := kk []
    rwa [List.append_nil] at this
  · have e : (List.map (fun d => D.tup [D.str (Str.ofString "argument"), d]) [.str "hours", .str "count", .str "due", .str "other", .str "spot"]) = [arg "hours", arg "count", arg "due", arg "other", arg "spot"] := rfl
    rw [e, nice_neL (xs := [arg "hours", arg "count", arg "due", arg "other", arg "spot"]) (get_app (get_app get_last)) get_mid (niL (show 5 ≤ 10 by decide) fun d hd => by
      simp only [List.mem_cons, List.not_mem_nil, or_false] at hd
      rcases hd with rfl | rfl | rfl | rfl | rfl <;> exact nbA (by decide))]
    simp only [boolOf_bl, Bool.false_eq_true, if_false, x_nil, List.append_assoc]
    exact k _ _ _
theorem so_tupRg2 {i j : Int} (h : RgOk i j) : SatO (tupRg2D (.int i) (.int j) S) P = P (.tup (rngItems i (j - i).toNat 1)) S := by
  have e : tupRg2D (.int i) (.int j) S = some (.tup (rngItems i (j - i).toNat 1), S) := if_pos h
  rw [e]
  rfl
theorem bad_sat {δ : Sl} (da : DA S 0 2 q) (hq : q ≤ 1000000) (h1 : δ[1]? = some (some (.ref 0))) (h2 : δ[2]? = some (some (.ref 2))) (k : ∀ d S', aP d = true → whB d = false → DA S' 0 2 (q + 1) → P d S') :
    XSat ((eCall (F_l_one C) 3 (aCons (eLst (aCons (eC .non) (aCons (eC (.int 5)) (aCons (eTup aNil) (aCons (eTup (aCons (eC (.int 0)) aNil)) (aCons (eTup (aCons (eOp2 (binD .Add) (eC (.int 24)) (eC (.int 1))) aNil)) (aCons (eTup (aCons (eC (.bl true)) aNil)) (aCons (eOp2 (binD .Mult) (eTup (aCons (eC (.int 1)) aNil)) (eOp2 (binD .Add) (eC (.int 60)) (eC (.int 1)))) (aCons (eTup (aCons (eC .non) aNil)) aNil))))))))) (aCons (eVar 1) (aCons (eVar 2) aNil)))) δ S) P X := by
  simp only [xe_call, xe_lst8, xe_tup0, xe_tup1, xe_op2, xa_cons, xa_nil, xe_c, xe_var, h1, h2, so_add, List.length_cons, List.length_nil, Nat.zero_add, Nat.reduceAdd, true_and]
  rw [so_repG (by decide) (by decide) (by decide)]
  refine (one_new da (by omega) (by simp) fun d S2 hm up2 da2 => ?_).x
  have hd : aP d = true ∧ whB d = false := by
    simp only [List.mem_cons, List.not_mem_nil, or_false] at hm
    rcases hm with rfl | rfl | rfl | rfl | rfl | rfl | rfl | rfl
    all_goals exact ⟨by decide +kernel, by decide +kernel⟩
  exact k d S2 hd.1 hd.2 da2
theorem odd_sat {δ : Sl} {ws : List Int} (da : DA S 0 2 q) (hq : q ≤ 1000000) (h1 : δ[1]? = some (some (.ref 0))) (h2 : δ[2]? = some (some (.ref 2))) (h3 : δ[3]? = some (some (wD ws))) (k : ∀ d S', aP d = true → isR d 0 (nI ws.length - 1) = false → DA S' 0 2 (q + 1) → P d S') :
    XSat ((eCall (F_l_one C) 3 (aCons (eLst (aCons (eC .non) (aCons (eOp1 negD (eC (.int 1))) (aCons (eC (.bl true)) (aCons (eC (.str "0")) (aCons (eCB (one lenD) (aCons (eVar 3) aNil)) aNil)))))) (aCons (eVar 1) (aCons (eVar 2) aNil)))) δ S) P X := by
  simp only [xe_call, xe_lst5, xe_op1, xe_cb, xa_cons, xa_nil, xe_c, xe_var, h1, h2, h3, so_neg, len_w, List.length_cons, List.length_nil, Nat.zero_add, Nat.reduceAdd, true_and]
  refine (one_new da (by omega) (by simp) fun d S2 hm up2 da2 => ?_).x
  have hd : aP d = true ∧ isR d 0 (nI ws.length - 1) = false := by
    simp only [List.mem_cons, List.not_mem_nil, or_false] at hm
    rcases hm with rfl | rfl | rfl | rfl | rfl
    · exact ⟨rfl, rfl⟩
    · exact ⟨rfl, by simp [isR]⟩
    · exact ⟨rfl, rfl⟩
    · exact ⟨rfl, rfl⟩
    · refine ⟨rfl, ?_⟩
      simp only [isR]
      rw [decide_eq_false (show ¬ nI ws.length ≤ nI ws.length - 1 by omega), Bool.and_false]
  exact k d S2 hd.1 hd.2 da2
theorem late_sat {δ : Sl} (da : DA S 0 2 q) (hq : q ≤ 1000000) (h1 : δ[1]? = some (some (.ref 0))) (h2 : δ[2]? = some (some (.ref 2))) (k : ∀ d S', aP d = true → isR d 0 1000000000 = false → DA S' 0 2 (q + 1) → P d S') :
    XSat ((eCall (F_l_one C) 3 (aCons (eLst (aCons (eC .non) (aCons (eOp1 negD (eC (.int 1))) (aCons (eC (.bl true)) (aCons (eC (.int 1000000001)) aNil))))) (aCons (eVar 1) (aCons (eVar 2) aNil)))) δ S) P X := by
  simp only [xe_call, xe_lst4, xe_op1, xa_cons, xa_nil, xe_c, xe_var, h1, h2, so_neg, List.length_cons, List.length_nil, Nat.zero_add, Nat.reduceAdd, true_and]
  refine (one_new da (by omega) (by simp) fun d S2 hm up2 da2 => ?_).x
  have hd : aP d = true ∧ isR d 0 1000000000 = false := by
    simp only [List.mem_cons, List.not_mem_nil, or_false] at hm
    rcases hm with rfl | rfl | rfl | rfl
    all_goals exact ⟨by decide +kernel, by decide +kernel⟩
  exact k d S2 hd.1 hd.2 da2
theorem ill_sat {δ : Sl} (da : DA S 0 2 q) (hq : q ≤ 1000000) (h1 : δ[1]? = some (some (.ref 0))) (h2 : δ[2]? = some (some (.ref 2))) (k : ∀ d S', aP d = true → nkB d = false → DA S' 0 2 (q + 1) → P d S') :
    XSat ((eCall (F_l_one C) 3 (aCons (eLst (aCons (eC .non) (aCons (eC (.int 5)) (aCons (eTup aNil) (aCons (eTup (aCons (eC (.int 0)) aNil)) (aCons (eTup (aCons (eC (.int 1)) (aCons (eC (.int 1)) aNil))) (aCons (eTup (aCons (eC (.int 2)) (aCons (eC (.int 1)) aNil))) (aCons (eTup (aCons (eOp2 (binD .Add) (eC (.int 24)) (eC (.int 1))) aNil)) (aCons (eTup (aCons (eC (.bl true)) aNil)) (aCons (eTup (aCons (eC (.int 1)) (aCons (eC .non) aNil))) (aCons (eOp2 tupRg2D (eC (.int 1)) (eOp2 (binD .Add) (eC (.int 60)) (eC (.int 2)))) aNil))))))))))) (aCons (eVar 1) (aCons (eVar 2) aNil)))) δ S) P X := by
  simp only [xe_call, xe_lst10, xe_tup0, xe_tup1, xe_tup2, xe_op2, xa_cons, xa_nil, xe_c, xe_var, h1, h2, so_add, List.length_cons, List.length_nil, Nat.zero_add, Nat.reduceAdd, true_and]
  rw [so_tupRg2 (by unfold RgOk; decide)]
  refine (one_new da (by omega) (by simp) fun d S2 hm up2 da2 => ?_).x
  have hd : aP d = true ∧ nkB d = false := by
    simp only [List.mem_cons, List.not_mem_nil, or_false] at hm
    rcases hm with rfl | rfl | rfl | rfl | rfl | rfl | rfl | rfl | rfl | rfl
    all_goals exact ⟨by decide +kernel, by decide +kernel⟩
  exact k d S2 hd.1 hd.2 da2
theorem no_sat {δ : Sl} (da : DA S 0 2 q) (hq : q ≤ 1000000) (h1 : δ[1]? = some (some (.ref 0))) (h2 : δ[2]? = some (some (.ref 2))) (k : ∀ d S', aP d = true → lenB 0 400 d = false → (∀ ds, d = .tup ds → ∃ gs : List Dd, ds = gs.map dD) → DA S' 0 2 (q + 1) → P d S') :
    XSat ((eCall (F_l_one C) 3 (aCons (eLst (aCons (eC .non) (aCons (eC (.int 5)) (aCons (eC (.str "hour")) (aCons (eOp2 (binD .Mult) (eTup (aCons (eC (.str "hour")) aNil)) (eOp2 (binD .Add) (eC (.int 400)) (eC (.int 1)))) aNil))))) (aCons (eVar 1) (aCons (eVar 2) aNil)))) δ S) P X := by
  simp only [xe_call, xe_lst4, xe_tup1, xe_op2, xa_cons, xa_nil, xe_c, xe_var, h1, h2, so_add, List.length_cons, List.length_nil, Nat.zero_add, Nat.reduceAdd, true_and]
  rw [so_repG (by decide) (by decide) (by decide)]
  refine (one_new da (by omega) (by simp) fun d S2 hm up2 da2 => ?_).x
  have hd : aP d = true ∧ lenB 0 400 d = false ∧ ∀ ds, d = .tup ds → ∃ gs : List Dd, ds = gs.map dD := by
    simp only [List.mem_cons, List.not_mem_nil, or_false] at hm
    rcases hm with rfl | rfl | rfl | rfl
    · exact ⟨rfl, rfl, fun ds e => by cases e⟩
    · exact ⟨rfl, rfl, fun ds e => by cases e⟩
    · exact ⟨rfl, rfl, fun ds e => by cases e⟩
    · refine ⟨by decide +kernel, by decide +kernel, fun ds e => ?_⟩
      injection e with e
      refine ⟨List.replicate 401 .hour, ?_⟩
      rw [← e, List.map_replicate]
      have er : ∀ (n : Nat) (d : D), (List.replicate n [d]).flatten = List.replicate n d := fun n d => by
        induction n with
        | zero => rfl
        | succ n ih => rw [List.replicate_succ, List.flatten_cons, ih]; rfl
      rw [er]
      rfl
  exact k d S2 hd.1 hd.2.1 hd.2.2 da2
end
end K56
set_option Elab.async false
set_option linter.all false
set_option maxRecDepth 100000
set_option maxHeartbeats 2000000
namespace K56
open PySem L2 DL
section
variable {C : CA} {S : SS} {P : D → SS → Prop} {Pb : Bool → SS → Prop} {X : XQ} {Y : Sl → XQ} {Pn : Sl → SS → Prop} {q : Nat}
/-! the law -/
theorem first_sat (ne : NE C) {ws : List Int} {p : Nat} (hw : Wh ws) (hp : Per ws p) {a0 : D} {o5 o6 o7 o8 o9 o10 o11 o12 o13 o14 o15 o16 o17 o18 o19 o20 o21 o22 o23 : Option D}
    (k : ∀ l, Pn (sl a0 (some (wD ws)) (some (wD (sumsL ws))) o5 o6 o7 o8 o9 o10 o11 o12 o13 o14 o15 o16 o17 o18 o19 o20 o21 o22 o23) (S ++ l)) :
    XR (w4 C (sl a0 (some (wD ws)) (some (wD (sumsL ws))) o5 o6 o7 o8 o9 o10 o11 o12 o13 o14 o15 o16 o17 o18 o19 o20 o21 o22 o23) S) Pn P Y := by
  unfold w4
  simp only [x_if, xt_not, xt_tru, xe_call, xe_tup3, xa_cons, xa_nil, xe_var, xe_c, List.getElem?_cons_succ, List.getElem?_cons_zero, List.set_cons_succ, List.set_cons_zero, List.length_cons, List.length_nil, List.map_cons, List.map_nil, List.cons_append, List.nil_append, List.replicate, Nat.reduceAdd, Nat.zero_add, true_and]
  refine (told_notches ne hw fun l1 => ?_).x
  refine (told_period ne hw hp fun l2 => ?_).x
  refine (told_wheel ne hw fun l3 => ?_).x
  refine (l_period_sat hw hp fun l4 => ?_).x
  have pn := hp.pn
  have l2' := hw.l2
  refine (l_same_sat ((nb3 (nb_sums hw) ((nb_nI (n := p) (by omega)).up (by decide) (by decide)) (nb_wh hw)).nice (by decide) (by decide)) ?_).x
  simp only [tru_bl, Bool.not_true, Bool.false_eq_true, if_false, x_nil, List.append_assoc]
  exact k _
theorem law_true (C : CA) (ne : NE C) (ns : List Int) : ∃ S', F_law C [.rls (ns.map .int)] [] = .ok (.bl true) S' := by
  suffices h : Sat (F_law C [.rls (ns.map .int)] []) fun x _ => x = .bl true by
    obtain ⟨x, S', e, rfl⟩ := sat_ex h
    exact ⟨S', e⟩
  rw [sem_law, wT_eq]
  refine XSat.s (x_fn ?_)
  generalize ha0 : D.rls (ns.map .int) = a0
  simp only [startD, List.getElem?_cons_succ, List.getElem?_cons_zero, List.set_cons_succ, List.set_cons_zero, List.length_cons, List.length_nil, List.map_cons, List.map_nil, List.cons_append, List.nil_append, List.replicate, Nat.reduceAdd, Nat.zero_add, true_and]
  unfold wT0
  rw [x_seq]
  unfold w0
  simp only [x_asg1, xe_call, xa_cons, xa_nil, xe_var, List.getElem?_cons_succ, List.getElem?_cons_zero, List.set_cons_succ, List.set_cons_zero, List.length_cons, List.length_nil, List.map_cons, List.map_nil, List.cons_append, List.nil_append, List.replicate, Nat.reduceAdd, Nat.zero_add, true_and]
  rw [← ha0]
  refine (l_draws_sat fun ds l hb hl => ?_).x
  rw [ha0]
  unfold wT1
  rw [x_seq]
  unfold w1
  simp only [x_asg1, xe_lst1, xe_c, List.getElem?_cons_succ, List.getElem?_cons_zero, List.set_cons_succ, List.set_cons_zero, List.length_cons, List.length_nil, List.map_cons, List.map_nil, List.cons_append, List.nil_append, List.replicate, Nat.reduceAdd, Nat.zero_add, true_and]
  have da0 : DA [.lst (ds.map .int), .lst l, .lst [.int 0]] 0 2 0 := ⟨by decide, ds, 0, rfl, rfl, Nat.le_refl _, hb, hl⟩
  show XR (wT2 C (sl a0 none none none none none none none none none none none none none none none none none none none none none) [.lst (ds.map .int), .lst l, .lst [.int 0]]) _ _ _
  generalize ([.lst (ds.map .int), .lst l, .lst [.int 0]] : SS) = S0 at *
  unfold wT2
  rw [x_seq]
  unfold w2
  simp only [x_asg1, xe_call, xa_cons, xa_nil, xe_var, List.getElem?_cons_succ, List.getElem?_cons_zero, List.set_cons_succ, List.set_cons_zero, List.length_cons, List.length_nil, List.map_cons, List.map_nil, List.cons_append, List.nil_append, List.replicate, Nat.reduceAdd, Nat.zero_add, true_and]
  refine (l_wheel_sat da0 (by decide) fun ws S1 hw up1 da1 => ?_).x
  obtain ⟨p, hp⟩ := per_ex hw.l1
  unfold wT3
  rw [x_seq]
  unfold w3
  simp only [x_asg1, xe_call, xa_cons, xa_nil, xe_var, List.getElem?_cons_succ, List.getElem?_cons_zero, List.set_cons_succ, List.set_cons_zero, List.length_cons, List.length_nil, List.map_cons, List.map_nil, List.cons_append, List.nil_append, List.replicate, Nat.reduceAdd, Nat.zero_add, true_and]
  refine (l_sums_sat hw fun l1 => ?_).x
  unfold wT4
  rw [x_seq]
  refine first_sat ne hw hp fun l2 => ?_
  have da2 := (da1.app (l := l1)).app (l := l2)
  generalize S1 ++ l1 ++ l2 = S2 at *
  unfold wT5
  rw [x_seq]
  unfold w5
  refine x_for ?_
  simp only [xit_val, xit_on, xe_op2, xe_var, xe_c, xa_cons, xa_nil, so_ix0, so_ix1, so_ix2, xe_tup0, xe_tup1, xe_tup2, xe_tup3, xe_tup4, xe_tup5, xe_tup6, List.getElem?_cons_succ, List.getElem?_cons_zero, List.set_cons_succ, List.set_cons_zero, List.length_cons, List.length_nil, List.map_cons, List.map_nil, List.cons_append, List.nil_append, List.replicate, Nat.reduceAdd, Nat.zero_add, true_and]
  rw [show ∀ S, rng1D [.int 3] S = some (rngItems 0 3 1, []) from fun _ => rfl]
  refine ⟨fun j δ S' => DA S' 0 2 (0 + 100 + 600 * j) ∧ ∃ o5 o13 o14 o15 o16 o17 o18 o19 o20 o21, (1 ≤ j → ∃ pl, o20 = some (.int (nI pl)) ∧ pl < ws.length) ∧ δ = sl a0 (some (wD ws)) (some (wD (sumsL ws))) o5 none none none none none none none o13 o14 o15 o16 o17 o18 o19 o20 o21 none none, ⟨da2, _, _, _, _, _, _, _, _, _, _, fun h => absurd h (by decide), rfl⟩, ?_, ?_⟩
  · rintro j d δ S' hj ⟨da', o5, o13, o14, o15, o16, o17, o18, o19, o20, o21, _, rfl⟩
    obtain ⟨hj1, rfl⟩ := rng_get hj
    refine ⟨trivial, _, rfl, ?_⟩
    exact turn_sat ne hw hp da' (by omega) fun S' pl u _ _ _ _ _ _ _ hpl da3 => ⟨da3, _, _, _, _, _, _, _, _, _, _, fun _ => ⟨pl, rfl, hpl⟩, rfl⟩
  · rintro δ S' ⟨da', o5, o13, o14, o15, o16, o17, o18, o19, o20, o21, hh, rfl⟩
    rw [rng_len] at da' hh
    obtain ⟨pl, rfl, hpl⟩ := hh (by decide)
    refine ⟨trivial, ?_⟩
    unfold wT6
    rw [x_seq]
    unfold w6
    rw [x_asg1]
    refine bad_sat da' (by decide) rfl rfl fun w S3 hwp hwb da3 => ?_
    unfold wT7
    rw [x_seq]
    unfold w7
    rw [x_asg1]
    refine odd_sat da3 (by decide) rfl rfl rfl fun o S4 ho hob da4 => ?_
    unfold wT8
    rw [x_seq]
    unfold w8
    rw [x_asg1]
    refine late_sat da4 (by decide) rfl rfl fun t S5 ht htb da5 => ?_
    unfold wT9
    rw [x_seq]
    refine w9_sat ne hwp hwb ho ht fun l3 => ?_
    have da6 := da5.app (l := l3)
    generalize S5 ++ l3 = S6 at *
    unfold wT10 wT11
    refine places_sat ne hw hwp ho hob ht fun l4 o9 => ?_
    have da7 := da6.app (l := l4)
    generalize S6 ++ l4 = S7 at *
    unfold wT12 wT13 wT14
    refine rest_sat ne hw hpl hwp hwb ho hob ht htb fun l5 o9 o10 => ?_
    have da8 := da7.app (l := l5)
    generalize S7 ++ l5 = S8 at *
    unfold wT15
    rw [x_seq]
    unfold w15
    rw [x_asg1]
    refine ill_sat da8 (by decide) rfl rfl fun ill S9 hi hib da9 => ?_
    unfold wT16
    rw [x_seq]
    unfold w16
    rw [x_asg1]
    refine no_sat da9 (by decide) rfl rfl fun no S10 hn hnb hno da10 => ?_
    unfold wT17
    rw [x_seq]
    refine w17_sat ne hw hn hnb hno fun l6 => ?_
    unfold wT18
    rw [x_seq]
    unfold w18
    simp only [x_ret, xe_op2, xe_call, xe_tup2, xa_cons, xa_nil, xe_var, xe_c, List.getElem?_cons_succ, List.getElem?_cons_zero, List.set_cons_succ, List.set_cons_zero, List.length_cons, List.length_nil, List.map_cons, List.map_nil, List.cons_append, List.nil_append, List.replicate, Nat.reduceAdd, Nat.zero_add, true_and]
    refine (bad_notches ne hi hib fun l7 => ?_).x
    rw [nice_eq (niA (by decide))]
end
end K56
set_option Elab.async false
set_option linter.all false
set_option maxRecDepth 100000
namespace K56
open PySem PySem.Spec PyProof.Rows L2 DL
theorem sc_played : FnScope ["wheel", "deeds", "heard", "deed", "place", "hours"] ["wheel", "deeds"] (defScope st_played) := ⟨rfl, rfl, rfl, by decide +kernel, rfl, by decide +kernel, by decide +kernel⟩
theorem sc_demand_deeds : FnScope ["deeds", "number", "deed"] ["deeds"] (defScope st_demand_deeds) := ⟨rfl, rfl, rfl, by decide +kernel, rfl, by decide +kernel, by decide +kernel⟩
theorem sc_is_integer : FnScope ["value"] ["value"] (defScope st_is_integer) := ⟨rfl, rfl, rfl, by decide +kernel, rfl, by decide +kernel, by decide +kernel⟩
theorem sc_in_range : FnScope ["value", "least", "most"] ["value", "least", "most"] (defScope st_in_range) := ⟨rfl, rfl, rfl, by decide +kernel, rfl, by decide +kernel, by decide +kernel⟩
theorem sc_demand_wheel : FnScope ["wheel", "reason", "count"] ["wheel", "reason"] (defScope st_demand_wheel) := ⟨rfl, rfl, rfl, by decide +kernel, rfl, by decide +kernel, by decide +kernel⟩
theorem sc_struck : FnScope ["wheel", "deeds", "place", "hours", "heard"] ["wheel", "deeds"] (defScope st_struck) := ⟨rfl, rfl, rfl, by decide +kernel, rfl, by decide +kernel, by decide +kernel⟩
theorem sc_wrong_hours : FnScope ["wheel", "deeds", "heard", "found", "hours", "number", "deed"] ["wheel", "deeds"] (defScope st_wrong_hours) := ⟨rfl, rfl, rfl, by decide +kernel, rfl, by decide +kernel, by decide +kernel⟩
theorem sc_period_of : FnScope ["wheel", "size", "step"] ["wheel"] (defScope st_period_of) := ⟨rfl, rfl, rfl, by decide +kernel, rfl, by decide +kernel, by decide +kernel⟩
theorem sc_pulls_needed : FnScope ["wheel", "deeds", "place", "hours", "heard"] ["wheel", "deeds"] (defScope st_pulls_needed) := ⟨rfl, rfl, rfl, by decide +kernel, rfl, by decide +kernel, by decide +kernel⟩
theorem sc_demand_place : FnScope ["wheel", "place"] ["wheel", "place"] (defScope st_demand_place) := ⟨rfl, rfl, rfl, by decide +kernel, rfl, by decide +kernel, by decide +kernel⟩
theorem sc_pulls : FnScope ["wheel", "place", "due"] ["wheel", "place", "due"] (defScope st_pulls) := ⟨rfl, rfl, rfl, by decide +kernel, rfl, by decide +kernel, by decide +kernel⟩
theorem sc_first_unlike : FnScope ["wheel", "place", "other", "spot", "time"] ["wheel", "place", "other", "spot"] (defScope st_first_unlike) := ⟨rfl, rfl, rfl, by decide +kernel, rfl, by decide +kernel, by decide +kernel⟩
theorem sc_wheel_of : FnScope ["places", "counts", "before", "after", "place", "count"] ["places"] (defScope st_wheel_of) := ⟨rfl, rfl, rfl, by decide +kernel, rfl, by decide +kernel, by decide +kernel⟩
theorem sc_notches : FnScope ["wheel", "total", "found", "count"] ["wheel"] (defScope st_notches) := ⟨rfl, rfl, rfl, by decide +kernel, rfl, by decide +kernel, by decide +kernel⟩
theorem sc_period : FnScope ["wheel"] ["wheel"] (defScope st_period) := ⟨rfl, rfl, rfl, by decide +kernel, rfl, by decide +kernel, by decide +kernel⟩
theorem sc_strokes_of : FnScope ["wheel", "place", "hours", "turns", "rest"] ["wheel", "place", "hours"] (defScope st_strokes_of) := ⟨rfl, rfl, rfl, by decide +kernel, rfl, by decide +kernel, by decide +kernel⟩
theorem sc_strokes : FnScope ["wheel", "place", "hours"] ["wheel", "place", "hours"] (defScope st_strokes) := ⟨rfl, rfl, rfl, by decide +kernel, rfl, by decide +kernel, by decide +kernel⟩
theorem sc_hours_for : FnScope ["wheel", "place", "count", "hours"] ["wheel", "place", "count"] (defScope st_hours_for) := ⟨rfl, rfl, rfl, by decide +kernel, rfl, by decide +kernel, by decide +kernel⟩
theorem sc_l_told : FnScope ["which", "one", "two", "three", "four", "e"] ["which", "one", "two", "three", "four"] (defScope st_l_told) := ⟨rfl, rfl, rfl, by decide +kernel, rfl, by decide +kernel, by decide +kernel⟩
theorem sc_l_more : FnScope ["draws", "place", "mixed", "k"] ["draws", "place"] (defScope st_l_more) := ⟨rfl, rfl, rfl, by decide +kernel, rfl, by decide +kernel, by decide +kernel⟩
theorem sc_l_take : FnScope ["draws", "at", "many", "place"] ["draws", "at", "many"] (defScope st_l_take) := ⟨rfl, rfl, rfl, by decide +kernel, rfl, by decide +kernel, by decide +kernel⟩
theorem sc_l_one : FnScope ["rows", "draws", "at"] ["rows", "draws", "at"] (defScope st_l_one) := ⟨rfl, rfl, rfl, by decide +kernel, rfl, by decide +kernel, by decide +kernel⟩
theorem sc_l_same_as : FnScope ["actual", "due"] ["actual", "due"] (defScope st_l_same_as) := ⟨rfl, rfl, rfl, by decide +kernel, rfl, by decide +kernel, by decide +kernel⟩
theorem sc_l_turned : FnScope ["wheel", "place"] ["wheel", "place"] (defScope st_l_turned) := ⟨rfl, rfl, rfl, by decide +kernel, rfl, by decide +kernel, by decide +kernel⟩
theorem sc_l_pulls : FnScope ["wheel", "place", "due", "k"] ["wheel", "place", "due"] (defScope st_l_pulls) := ⟨rfl, rfl, rfl, by decide +kernel, rfl, by decide +kernel, by decide +kernel⟩
theorem sc_l_run : FnScope ["wheel", "deeds", "k", "place", "hours", "heard", "wrong", "told"] ["wheel", "deeds"] (defScope st_l_run) := ⟨rfl, rfl, rfl, by decide +kernel, rfl, by decide +kernel, by decide +kernel⟩
theorem sc_l_deeds_fit : FnScope ["wheel", "deeds", "due", "seen", "wrong", "which"] ["wheel", "deeds"] (defScope st_l_deeds_fit) := ⟨rfl, rfl, rfl, by decide +kernel, rfl, by decide +kernel, by decide +kernel⟩
theorem sc_l_unlike : FnScope ["wheel", "place", "other", "spot", "unlike", "k"] ["wheel", "place", "other", "spot"] (defScope st_l_unlike) := ⟨rfl, rfl, rfl, by decide +kernel, rfl, by decide +kernel, by decide +kernel⟩
theorem sc_l_wheel : FnScope ["draws", "at", "size", "far", "row", "part", "k"] ["draws", "at"] (defScope st_l_wheel) := ⟨rfl, rfl, rfl, by decide +kernel, rfl, by decide +kernel, by decide +kernel⟩
theorem sc_l_strokes : FnScope ["wheel", "place", "hours", "row"] ["wheel", "place", "hours"] (defScope st_l_strokes) := ⟨rfl, rfl, rfl, by decide +kernel, rfl, by decide +kernel, by decide +kernel⟩
theorem sc_l_hours : FnScope ["wheel", "place", "count", "row", "hours"] ["wheel", "place", "count"] (defScope st_l_hours) := ⟨rfl, rfl, rfl, by decide +kernel, rfl, by decide +kernel, by decide +kernel⟩
theorem sc_l_period : FnScope ["wheel", "k"] ["wheel"] (defScope st_l_period) := ⟨rfl, rfl, rfl, by decide +kernel, rfl, by decide +kernel, by decide +kernel⟩
theorem sc_l_sums : FnScope ["wheel", "k"] ["wheel"] (defScope st_l_sums) := ⟨rfl, rfl, rfl, by decide +kernel, rfl, by decide +kernel, by decide +kernel⟩
theorem sc_l_draws : FnScope ["script", "draws", "cell", "rest", "k", "mixed"] ["script"] (defScope st_l_draws) := ⟨rfl, rfl, rfl, by decide +kernel, rfl, by decide +kernel, by decide +kernel⟩
theorem sc_law : FnScope ["script", "draws", "at", "wheel", "sums", "turn", "bad", "odd", "late", "rows", "part_1", "ill", "no", "number", "row", "other", "spot", "deeds", "k", "wrong", "place", "due", "which", "reason"] ["script"] (defScope st_law) := ⟨rfl, rfl, rfl, by decide +kernel, rfl, by decide +kernel, by decide +kernel⟩
set_option maxHeartbeats 4000000 in
theorem all_mk {w : World} {K : PySem.W.Frag} {h : Heap} {mg : Str → Option Value} {fa : Addr} (X : K.In h) (G : h.Ns mainGlobals mg) (hfa : mg "law" = some (.ref fa))
    {a_ArgumentError : Addr} {a_LogError : Addr} {fI_ArgumentError : Addr} {nm_ArgumentError : Str} {qn_ArgumentError : Str} {N_ArgumentError : Addr} {bs_ArgumentError : List Value} {bm_ArgumentError : List Value} {sn_ArgumentError : List Str} {sub_ArgumentError : List Value} {ab_ArgumentError : Bool} {col_ArgumentError : Option Bool} {dd_ArgumentError : Option Addr} {k0_ArgumentError : Option Value} {k1_ArgumentError : Option Value} {k2_ArgumentError : Option Value} {k3_ArgumentError : Option Value} {k5_ArgumentError : Option Value} {scope_ArgumentError : Scope} {doc_ArgumentError : Value} {pm_ArgumentError : Value} {ct_ArgumentError : Value} {an_ArgumentError : Option Addr} {cda_ArgumentError : Addr} {cc_ArgumentError : Addr} {oc_ArgumentError : Value} {od_ArgumentError : Option Addr} {osl_ArgumentError : Array (Option Value)} {ccl_ArgumentError : Value} {cdd_ArgumentError : Option Addr} {vs_ArgumentError : Array Value} {ccs_ArgumentError : Array (Option Value)} {file_ArgumentError : Str} {tf_ArgumentError : Tok} {cl_ArgumentError : Value} {cld_ArgumentError : Option Addr} {csl_ArgumentError : Array (Option Value)} {cdD_ArgumentError : ClassData} {D_ArgumentError : Addr} {fI_LogError : Addr} {nm_LogError : Str} {qn_LogError : Str} {N_LogError : Addr} {bs_LogError : List Value} {bm_LogError : List Value} {sn_LogError : List Str} {sub_LogError : List Value} {ab_LogError : Bool} {col_LogError : Option Bool} {dd_LogError : Option Addr} {k0_LogError : Option Value} {k1_LogError : Option Value} {k2_LogError : Option Value} {k3_LogError : Option Value} {k5_LogError : Option Value} {scope_LogError : Scope} {doc_LogError : Value} {pm_LogError : Value} {ct_LogError : Value} {an_LogError : Option Addr} {cda_LogError : Addr} {cc_LogError : Addr} {oc_LogError : Value} {od_LogError : Option Addr} {osl_LogError : Array (Option Value)} {ccl_LogError : Value} {cdd_LogError : Option Addr} {vs_LogError : Array Value} {ccs_LogError : Array (Option Value)} {file_LogError : Str} {tf_LogError : Tok} {cl_LogError : Value} {cld_LogError : Option Addr} {csl_LogError : Array (Option Value)} {cdD_LogError : ClassData} {D_LogError : Addr} {ca_1 : Addr} {cn_1 : Nat} {cd_1 : Option Addr} {cs_1 : Array (Option Value)} {t_2 : Tok} {t_3 : Tok} {t_4 : Tok} {t_5 : Tok} {t_6 : Tok} {t_7 : Tok} {t_8 : Tok} {f_played : Addr} {oc_played kV_played dc_played pm_played cd_played ct_played : Value} {od_played an_played : Option Addr} {sl_played : Array (Option Value)} {f_demand_deeds : Addr} {oc_demand_deeds kV_demand_deeds dc_demand_deeds pm_demand_deeds cd_demand_deeds ct_demand_deeds : Value} {od_demand_deeds an_demand_deeds : Option Addr} {sl_demand_deeds : Array (Option Value)} {f_is_integer : Addr} {oc_is_integer kV_is_integer dc_is_integer pm_is_integer cd_is_integer ct_is_integer : Value} {od_is_integer an_is_integer : Option Addr} {sl_is_integer : Array (Option Value)} {f_in_range : Addr} {oc_in_range kV_in_range dc_in_range pm_in_range cd_in_range ct_in_range : Value} {od_in_range an_in_range : Option Addr} {sl_in_range : Array (Option Value)} {f_demand_wheel : Addr} {oc_demand_wheel kV_demand_wheel dc_demand_wheel pm_demand_wheel cd_demand_wheel ct_demand_wheel : Value} {od_demand_wheel an_demand_wheel : Option Addr} {sl_demand_wheel : Array (Option Value)} {dt_demand_wheel : Addr} {dn_demand_wheel : Nat} {ddd_demand_wheel : Option Addr} {dsl_demand_wheel : Array (Option Value)} {t_9 : Tok} {f_struck : Addr} {oc_struck kV_struck dc_struck pm_struck cd_struck ct_struck : Value} {od_struck an_struck : Option Addr} {sl_struck : Array (Option Value)} {f_wrong_hours : Addr} {oc_wrong_hours kV_wrong_hours dc_wrong_hours pm_wrong_hours cd_wrong_hours ct_wrong_hours : Value} {od_wrong_hours an_wrong_hours : Option Addr} {sl_wrong_hours : Array (Option Value)} {f_period_of : Addr} {oc_period_of kV_period_of dc_period_of pm_period_of cd_period_of ct_period_of : Value} {od_period_of an_period_of : Option Addr} {sl_period_of : Array (Option Value)} {f_pulls_needed : Addr} {oc_pulls_needed kV_pulls_needed dc_pulls_needed pm_pulls_needed cd_pulls_needed ct_pulls_needed : Value} {od_pulls_needed an_pulls_needed : Option Addr} {sl_pulls_needed : Array (Option Value)} {f_demand_place : Addr} {oc_demand_place kV_demand_place dc_demand_place pm_demand_place cd_demand_place ct_demand_place : Value} {od_demand_place an_demand_place : Option Addr} {sl_demand_place : Array (Option Value)} {f_pulls : Addr} {oc_pulls kV_pulls dc_pulls pm_pulls cd_pulls ct_pulls : Value} {od_pulls an_pulls : Option Addr} {sl_pulls : Array (Option Value)} {f_first_unlike : Addr} {oc_first_unlike kV_first_unlike dc_first_unlike pm_first_unlike cd_first_unlike ct_first_unlike : Value} {od_first_unlike an_first_unlike : Option Addr} {sl_first_unlike : Array (Option Value)} {f_wheel_of : Addr} {oc_wheel_of kV_wheel_of dc_wheel_of pm_wheel_of cd_wheel_of ct_wheel_of : Value} {od_wheel_of an_wheel_of : Option Addr} {sl_wheel_of : Array (Option Value)} {f_notches : Addr} {oc_notches kV_notches dc_notches pm_notches cd_notches ct_notches : Value} {od_notches an_notches : Option Addr} {sl_notches : Array (Option Value)} {f_period : Addr} {oc_period kV_period dc_period pm_period cd_period ct_period : Value} {od_period an_period : Option Addr} {sl_period : Array (Option Value)} {f_strokes_of : Addr} {oc_strokes_of kV_strokes_of dc_strokes_of pm_strokes_of cd_strokes_of ct_strokes_of : Value} {od_strokes_of an_strokes_of : Option Addr} {sl_strokes_of : Array (Option Value)} {f_strokes : Addr} {oc_strokes kV_strokes dc_strokes pm_strokes cd_strokes ct_strokes : Value} {od_strokes an_strokes : Option Addr} {sl_strokes : Array (Option Value)} {f_hours_for : Addr} {oc_hours_for kV_hours_for dc_hours_for pm_hours_for cd_hours_for ct_hours_for : Value} {od_hours_for an_hours_for : Option Addr} {sl_hours_for : Array (Option Value)} {f_l_told : Addr} {oc_l_told kV_l_told dc_l_told pm_l_told cd_l_told ct_l_told : Value} {od_l_told an_l_told : Option Addr} {sl_l_told : Array (Option Value)} {f_l_more : Addr} {oc_l_more kV_l_more dc_l_more pm_l_more cd_l_more ct_l_more : Value} {od_l_more an_l_more : Option Addr} {sl_l_more : Array (Option Value)} {f_l_take : Addr} {oc_l_take kV_l_take dc_l_take pm_l_take cd_l_take ct_l_take : Value} {od_l_take an_l_take : Option Addr} {sl_l_take : Array (Option Value)} {f_l_one : Addr} {oc_l_one kV_l_one dc_l_one pm_l_one cd_l_one ct_l_one : Value} {od_l_one an_l_one : Option Addr} {sl_l_one : Array (Option Value)} {f_l_same_as : Addr} {oc_l_same_as kV_l_same_as dc_l_same_as pm_l_same_as cd_l_same_as ct_l_same_as : Value} {od_l_same_as an_l_same_as : Option Addr} {sl_l_same_as : Array (Option Value)} {f_l_turned : Addr} {oc_l_turned kV_l_turned dc_l_turned pm_l_turned cd_l_turned ct_l_turned : Value} {od_l_turned an_l_turned : Option Addr} {sl_l_turned : Array (Option Value)} {f_l_pulls : Addr} {oc_l_pulls kV_l_pulls dc_l_pulls pm_l_pulls cd_l_pulls ct_l_pulls : Value} {od_l_pulls an_l_pulls : Option Addr} {sl_l_pulls : Array (Option Value)} {f_l_run : Addr} {oc_l_run kV_l_run dc_l_run pm_l_run cd_l_run ct_l_run : Value} {od_l_run an_l_run : Option Addr} {sl_l_run : Array (Option Value)} {f_l_deeds_fit : Addr} {oc_l_deeds_fit kV_l_deeds_fit dc_l_deeds_fit pm_l_deeds_fit cd_l_deeds_fit ct_l_deeds_fit : Value} {od_l_deeds_fit an_l_deeds_fit : Option Addr} {sl_l_deeds_fit : Array (Option Value)} {f_l_unlike : Addr} {oc_l_unlike kV_l_unlike dc_l_unlike pm_l_unlike cd_l_unlike ct_l_unlike : Value} {od_l_unlike an_l_unlike : Option Addr} {sl_l_unlike : Array (Option Value)} {f_l_wheel : Addr} {oc_l_wheel kV_l_wheel dc_l_wheel pm_l_wheel cd_l_wheel ct_l_wheel : Value} {od_l_wheel an_l_wheel : Option Addr} {sl_l_wheel : Array (Option Value)} {f_l_strokes : Addr} {oc_l_strokes kV_l_strokes dc_l_strokes pm_l_strokes cd_l_strokes ct_l_strokes : Value} {od_l_strokes an_l_strokes : Option Addr} {sl_l_strokes : Array (Option Value)} {f_l_hours : Addr} {oc_l_hours kV_l_hours dc_l_hours pm_l_hours cd_l_hours ct_l_hours : Value} {od_l_hours an_l_hours : Option Addr} {sl_l_hours : Array (Option Value)} {f_l_period : Addr} {oc_l_period kV_l_period dc_l_period pm_l_period cd_l_period ct_l_period : Value} {od_l_period an_l_period : Option Addr} {sl_l_period : Array (Option Value)} {f_l_sums : Addr} {oc_l_sums kV_l_sums dc_l_sums pm_l_sums cd_l_sums ct_l_sums : Value} {od_l_sums an_l_sums : Option Addr} {sl_l_sums : Array (Option Value)} {f_l_draws : Addr} {oc_l_draws kV_l_draws dc_l_draws pm_l_draws cd_l_draws ct_l_draws : Value} {od_l_draws an_l_draws : Option Addr} {sl_l_draws : Array (Option Value)} {f_law : Addr} {oc_law kV_law dc_law pm_law cd_law ct_law : Value} {od_law an_law : Option Addr} {sl_law : Array (Option Value)}
    (n_ArgumentError : PySem.W.nsIn K mainGlobals "ArgumentError" = some (some (.ref a_ArgumentError)))
    (bx_ArgumentError : PySem.W.subIn K (.ref a_ArgumentError) (.type "BaseException") = some true)
    (hd_ArgumentError : PySem.W.hasDictIn K a_ArgumentError = true)
    (ty_ArgumentError : PySem.W.typeIn K (.ref a_ArgumentError) = some (.type "type"))
    (n_LogError : PySem.W.nsIn K mainGlobals "LogError" = some (some (.ref a_LogError)))
    (bx_LogError : PySem.W.subIn K (.ref a_LogError) (.type "BaseException") = some true)
    (hd_LogError : PySem.W.hasDictIn K a_LogError = true)
    (ty_LogError : PySem.W.typeIn K (.ref a_LogError) = some (.type "type"))
    (spe : PySem.W.specialIn K (.builtin "object.__class__") "__get__" = some (some (.builtin "getset_descriptor.__get__")))
    (tke : PySem.W.takesIn K (.builtin "object.__class__") = some true)
    (opq : PySem.W.nsIn K PySem.cStatics "thirdparty.any" = some none)
    (xC_ArgumentError : K.lookup a_ArgumentError = some (excClassObj nm_ArgumentError qn_ArgumentError a_ArgumentError N_ArgumentError bs_ArgumentError bm_ArgumentError true sn_ArgumentError sub_ArgumentError ab_ArgumentError col_ArgumentError dd_ArgumentError k0_ArgumentError k1_ArgumentError k2_ArgumentError k3_ArgumentError k5_ArgumentError "ValueError.__new__"))
    (sa_ArgumentError : PySem.W.findIn K (.ref a_ArgumentError) "__setattr__" = some (some (.builtin "object.__setattr__")))
    (iC_ArgumentError : PySem.W.findIn K (.ref a_ArgumentError) "__init__" = some (some (.ref fI_ArgumentError)))
    (tC_ArgumentError : PySem.W.typeIn K (.ref fI_ArgumentError) = some (.type "function"))
    (lF_ArgumentError : K.lookup fI_ArgumentError = some ⟨oc_ArgumentError, od_ArgumentError, .func (PySem.W.ksFn "__init__" "ReasonError.__init__" (args1 "reason" (fun n => ([⟨15, 17, 15, 21⟩, ⟨15, 23, 15, 29⟩, ⟨0, 0, 0, 0⟩, ⟨16, 8, 16, 13⟩, ⟨16, 8, 16, 15⟩, ⟨16, 8, 16, 24⟩, ⟨16, 8, 16, 32⟩, ⟨16, 8, 16, 32⟩, ⟨16, 25, 16, 31⟩, ⟨0, 0, 0, 0⟩, ⟨17, 8, 17, 12⟩, ⟨17, 8, 17, 19⟩, ⟨17, 22, 17, 28⟩, ⟨17, 8, 17, 28⟩, ⟨0, 0, 0, 0⟩, ⟨0, 0, 0, 0⟩, ⟨0, 0, 0, 0⟩, ⟨0, 0, 0, 0⟩] : List Pos).getD n ⟨0, 0, 0, 0⟩)) (body1 "reason" (fun n => ([⟨15, 17, 15, 21⟩, ⟨15, 23, 15, 29⟩, ⟨0, 0, 0, 0⟩, ⟨16, 8, 16, 13⟩, ⟨16, 8, 16, 15⟩, ⟨16, 8, 16, 24⟩, ⟨16, 8, 16, 32⟩, ⟨16, 8, 16, 32⟩, ⟨16, 25, 16, 31⟩, ⟨0, 0, 0, 0⟩, ⟨17, 8, 17, 12⟩, ⟨17, 8, 17, 19⟩, ⟨17, 22, 17, 28⟩, ⟨17, 8, 17, 28⟩, ⟨0, 0, 0, 0⟩, ⟨0, 0, 0, 0⟩, ⟨0, 0, 0, 0⟩, ⟨0, 0, 0, 0⟩] : List Pos).getD n ⟨0, 0, 0, 0⟩)) scope_ArgumentError .none .none doc_ArgumentError pm_ArgumentError an_ArgumentError (.ref cda_ArgumentError) ct_ArgumentError cc_ArgumentError), osl_ArgumentError⟩)
    (cI_ArgumentError : PySem.W.codeIn K (.ref cda_ArgumentError) "ReasonError.__init__" = true)
    (lcd_ArgumentError : K.lookup cda_ArgumentError = some ⟨ccl_ArgumentError, cdd_ArgumentError, .fields vs_ArgumentError, ccs_ArgumentError⟩)
    (h2_ArgumentError : vs_ArgumentError[2]? = some (.str file_ArgumentError tf_ArgumentError))
    (hf_ArgumentError : ((PySem.Challenge.pw_geartrue_k56_whole_striking_works.main.file : Str) == file_ArgumentError) = true)
    (lcc_ArgumentError : K.lookup cc_ArgumentError = some ⟨cl_ArgumentError, cld_ArgumentError, .cell (some (.ref D_ArgumentError)), csl_ArgumentError⟩)
    (hD_ArgumentError : PySem.W.clsIn K D_ArgumentError = some cdD_ArgumentError)
    (hsub_ArgumentError : PySem.W.mroIn K a_ArgumentError (.ref D_ArgumentError) = some true)
    (sup_ArgumentError : PySem.W.ks_superIn K a_ArgumentError D_ArgumentError "__init__" = some (some (.builtin "ValueError.__init__")))
    (isVE_ArgumentError : PySem.W.subIn K (.ref a_ArgumentError) (.type "ValueError") = some true)
    (kC_ArgumentError : PySem.W.keepIn K (.ref a_ArgumentError) = true)
    (no_reason_ArgumentError : PySem.W.findIn K (.ref a_ArgumentError) "reason" = some none)
    (rv_ArgumentError : PySem.HandSPX.refsVE bm_ArgumentError = true)
    (s1_ArgumentError : scope_ArgumentError.kind = .function)
    (s2_ArgumentError : scope_ArgumentError.isCoroutine = false)
    (s3_ArgumentError : scope_ArgumentError.isGenerator = false)
    (s4_ArgumentError : ∀ x ∈ scope_ArgumentError.names, x.2 ≠ .cell)
    (s5_ArgumentError : scope_ArgumentError.names.lookup ("super" : Str) = some .globalImplicit)
    (s6_ArgumentError : scope_ArgumentError.names.lookup ("__class__" : Str) = some .free)
    (s7_ArgumentError : scope_ArgumentError.names.lookup ("self" : Str) = some .local)
    (s8_reason_ArgumentError : scope_ArgumentError.names.lookup ("reason" : Str) = some .local)
    (ga_ArgumentError : PySem.W.findIn K (.ref a_ArgumentError) "__getattribute__" = some (some (.builtin "BaseException.__getattribute__")))
    (gg_ArgumentError : PySem.W.findIn K (.ref a_ArgumentError) "__getattr__" = some none)
    (cla_ArgumentError : PySem.W.findIn K (.ref a_ArgumentError) "__class__" = some (some (.builtin "object.__class__")))
    (ob_ArgumentError : PySem.W.mroIn K a_ArgumentError (.type "object") = some true)
    (self_ArgumentError : PySem.W.subIn K (.ref a_ArgumentError) (.ref a_ArgumentError) = some true)
    (sub_ArgumentError_ArgumentError : PySem.W.subIn K (.ref a_ArgumentError) (.ref a_ArgumentError) = some true)
    (sub_ArgumentError_LogError : PySem.W.subIn K (.ref a_ArgumentError) (.ref a_LogError) = some false)
    (xC_LogError : K.lookup a_LogError = some (excClassObj nm_LogError qn_LogError a_LogError N_LogError bs_LogError bm_LogError true sn_LogError sub_LogError ab_LogError col_LogError dd_LogError k0_LogError k1_LogError k2_LogError k3_LogError k5_LogError "ValueError.__new__"))
    (sa_LogError : PySem.W.findIn K (.ref a_LogError) "__setattr__" = some (some (.builtin "object.__setattr__")))
    (iC_LogError : PySem.W.findIn K (.ref a_LogError) "__init__" = some (some (.ref fI_LogError)))
    (tC_LogError : PySem.W.typeIn K (.ref fI_LogError) = some (.type "function"))
    (lF_LogError : K.lookup fI_LogError = some ⟨oc_LogError, od_LogError, .func (PySem.W.ksFn "__init__" "LogError.__init__" (args2 "number" "reason" (fun n => ([⟨22, 17, 22, 21⟩, ⟨22, 23, 22, 29⟩, ⟨22, 31, 22, 37⟩, ⟨23, 8, 23, 13⟩, ⟨23, 8, 23, 15⟩, ⟨23, 8, 23, 24⟩, ⟨23, 8, 23, 40⟩, ⟨23, 8, 23, 40⟩, ⟨23, 25, 23, 31⟩, ⟨23, 33, 23, 39⟩, ⟨24, 8, 24, 12⟩, ⟨24, 8, 24, 19⟩, ⟨24, 22, 24, 28⟩, ⟨24, 8, 24, 28⟩, ⟨25, 8, 25, 12⟩, ⟨25, 8, 25, 19⟩, ⟨25, 22, 25, 28⟩, ⟨25, 8, 25, 28⟩] : List Pos).getD n ⟨0, 0, 0, 0⟩)) (body2 "number" "reason" (fun n => ([⟨22, 17, 22, 21⟩, ⟨22, 23, 22, 29⟩, ⟨22, 31, 22, 37⟩, ⟨23, 8, 23, 13⟩, ⟨23, 8, 23, 15⟩, ⟨23, 8, 23, 24⟩, ⟨23, 8, 23, 40⟩, ⟨23, 8, 23, 40⟩, ⟨23, 25, 23, 31⟩, ⟨23, 33, 23, 39⟩, ⟨24, 8, 24, 12⟩, ⟨24, 8, 24, 19⟩, ⟨24, 22, 24, 28⟩, ⟨24, 8, 24, 28⟩, ⟨25, 8, 25, 12⟩, ⟨25, 8, 25, 19⟩, ⟨25, 22, 25, 28⟩, ⟨25, 8, 25, 28⟩] : List Pos).getD n ⟨0, 0, 0, 0⟩)) scope_LogError .none .none doc_LogError pm_LogError an_LogError (.ref cda_LogError) ct_LogError cc_LogError), osl_LogError⟩)
    (cI_LogError : PySem.W.codeIn K (.ref cda_LogError) "LogError.__init__" = true)
    (lcd_LogError : K.lookup cda_LogError = some ⟨ccl_LogError, cdd_LogError, .fields vs_LogError, ccs_LogError⟩)
    (h2_LogError : vs_LogError[2]? = some (.str file_LogError tf_LogError))
    (hf_LogError : ((PySem.Challenge.pw_geartrue_k56_whole_striking_works.main.file : Str) == file_LogError) = true)
    (lcc_LogError : K.lookup cc_LogError = some ⟨cl_LogError, cld_LogError, .cell (some (.ref D_LogError)), csl_LogError⟩)
    (hD_LogError : PySem.W.clsIn K D_LogError = some cdD_LogError)
    (hsub_LogError : PySem.W.mroIn K a_LogError (.ref D_LogError) = some true)
    (sup_LogError : PySem.W.ks_superIn K a_LogError D_LogError "__init__" = some (some (.builtin "ValueError.__init__")))
    (isVE_LogError : PySem.W.subIn K (.ref a_LogError) (.type "ValueError") = some true)
    (kC_LogError : PySem.W.keepIn K (.ref a_LogError) = true)
    (no_number_LogError : PySem.W.findIn K (.ref a_LogError) "number" = some none)
    (no_reason_LogError : PySem.W.findIn K (.ref a_LogError) "reason" = some none)
    (rv_LogError : PySem.HandSPX.refsVE bm_LogError = true)
    (s1_LogError : scope_LogError.kind = .function)
    (s2_LogError : scope_LogError.isCoroutine = false)
    (s3_LogError : scope_LogError.isGenerator = false)
    (s4_LogError : ∀ x ∈ scope_LogError.names, x.2 ≠ .cell)
    (s5_LogError : scope_LogError.names.lookup ("super" : Str) = some .globalImplicit)
    (s6_LogError : scope_LogError.names.lookup ("__class__" : Str) = some .free)
    (s7_LogError : scope_LogError.names.lookup ("self" : Str) = some .local)
    (s8_number_LogError : scope_LogError.names.lookup ("number" : Str) = some .local)
    (s8_reason_LogError : scope_LogError.names.lookup ("reason" : Str) = some .local)
    (ga_LogError : PySem.W.findIn K (.ref a_LogError) "__getattribute__" = some (some (.builtin "BaseException.__getattribute__")))
    (gg_LogError : PySem.W.findIn K (.ref a_LogError) "__getattr__" = some none)
    (cla_LogError : PySem.W.findIn K (.ref a_LogError) "__class__" = some (some (.builtin "object.__class__")))
    (ob_LogError : PySem.W.mroIn K a_LogError (.type "object") = some true)
    (self_LogError : PySem.W.subIn K (.ref a_LogError) (.ref a_LogError) = some true)
    (sub_LogError_ArgumentError : PySem.W.subIn K (.ref a_LogError) (.ref a_ArgumentError) = some false)
    (sub_LogError_LogError : PySem.W.subIn K (.ref a_LogError) (.ref a_LogError) = some true)
    (top : (PySem.Challenge.pw_geartrue_k56_whole_striking_works.main.scope.names.lookup ("super" : Str)).isSome = false)
    (z_len : PySem.W.nsIn K mainGlobals "len" = some none)
    (z_isinstance : PySem.W.nsIn K mainGlobals "isinstance" = some none)
    (z_str : PySem.W.nsIn K mainGlobals "str" = some none)
    (z_tuple : PySem.W.nsIn K mainGlobals "tuple" = some none)
    (z_int : PySem.W.nsIn K mainGlobals "int" = some none)
    (z_bool : PySem.W.nsIn K mainGlobals "bool" = some none)
    (z_all : PySem.W.nsIn K mainGlobals "all" = some none)
    (z_sum : PySem.W.nsIn K mainGlobals "sum" = some none)
    (z_repr : PySem.W.nsIn K mainGlobals "repr" = some none)
    (z_max : PySem.W.nsIn K mainGlobals "max" = some none)
    (z_abs : PySem.W.nsIn K mainGlobals "abs" = some none)
    (z_enumerate : PySem.W.nsIn K mainGlobals "enumerate" = some none)
    (z_range : PySem.W.nsIn K mainGlobals "range" = some none)
    (z_zip : PySem.W.nsIn K mainGlobals "zip" = some none)
    (z_super : PySem.W.nsIn K mainGlobals "super" = some none)
    (v_DEEDS : PySem.W.nsIn K mainGlobals "DEEDS" = some (some (.ref ca_1)))
    (lt_1 : K.lookup ca_1 = some ⟨.type "tuple", cd_1, .seq ([(.str "hour" t_2), (.str "stuck" t_3), (.str "pull" t_4)] : List Value).toArray cn_1, cs_1⟩)
    (v_MAX_HOURS : PySem.W.nsIn K mainGlobals "MAX_HOURS" = some (some (.int 400 t_5)))
    (v_MAX_STROKES : PySem.W.nsIn K mainGlobals "MAX_STROKES" = some (some (.int 24 t_6)))
    (v_MAX_TURN : PySem.W.nsIn K mainGlobals "MAX_TURN" = some (some (.int 60 t_7)))
    (v_MAX_NUMBER : PySem.W.nsIn K mainGlobals "MAX_NUMBER" = some (some (.int 1000000000 t_8)))
    (a_played : PySem.W.nsIn K mainGlobals "played" = some (some (.ref f_played)))
    (l_played : K.lookup f_played = some ⟨oc_played, od_played, .func (PySem.W.fnOf "played" "played" (defArgs st_played) (defBody st_played) (defScope st_played) .none kV_played dc_played pm_played an_played cd_played ct_played), sl_played⟩)
    (c_played : PySem.W.codeIn K cd_played "played" = true)
    (k_played : PySem.W.keepIn K (.ref f_played) = true)
    (a_demand_deeds : PySem.W.nsIn K mainGlobals "demand_deeds" = some (some (.ref f_demand_deeds)))
    (l_demand_deeds : K.lookup f_demand_deeds = some ⟨oc_demand_deeds, od_demand_deeds, .func (PySem.W.fnOf "demand_deeds" "demand_deeds" (defArgs st_demand_deeds) (defBody st_demand_deeds) (defScope st_demand_deeds) .none kV_demand_deeds dc_demand_deeds pm_demand_deeds an_demand_deeds cd_demand_deeds ct_demand_deeds), sl_demand_deeds⟩)
    (c_demand_deeds : PySem.W.codeIn K cd_demand_deeds "demand_deeds" = true)
    (k_demand_deeds : PySem.W.keepIn K (.ref f_demand_deeds) = true)
    (a_is_integer : PySem.W.nsIn K mainGlobals "is_integer" = some (some (.ref f_is_integer)))
    (l_is_integer : K.lookup f_is_integer = some ⟨oc_is_integer, od_is_integer, .func (PySem.W.fnOf "is_integer" "is_integer" (defArgs st_is_integer) (defBody st_is_integer) (defScope st_is_integer) .none kV_is_integer dc_is_integer pm_is_integer an_is_integer cd_is_integer ct_is_integer), sl_is_integer⟩)
    (c_is_integer : PySem.W.codeIn K cd_is_integer "is_integer" = true)
    (k_is_integer : PySem.W.keepIn K (.ref f_is_integer) = true)
    (a_in_range : PySem.W.nsIn K mainGlobals "in_range" = some (some (.ref f_in_range)))
    (l_in_range : K.lookup f_in_range = some ⟨oc_in_range, od_in_range, .func (PySem.W.fnOf "in_range" "in_range" (defArgs st_in_range) (defBody st_in_range) (defScope st_in_range) .none kV_in_range dc_in_range pm_in_range an_in_range cd_in_range ct_in_range), sl_in_range⟩)
    (c_in_range : PySem.W.codeIn K cd_in_range "in_range" = true)
    (k_in_range : PySem.W.keepIn K (.ref f_in_range) = true)
    (a_demand_wheel : PySem.W.nsIn K mainGlobals "demand_wheel" = some (some (.ref f_demand_wheel)))
    (l_demand_wheel : K.lookup f_demand_wheel = some ⟨oc_demand_wheel, od_demand_wheel, .func (PySem.W.fnOf "demand_wheel" "demand_wheel" (defArgs st_demand_wheel) (defBody st_demand_wheel) (defScope st_demand_wheel) (.ref dt_demand_wheel) kV_demand_wheel dc_demand_wheel pm_demand_wheel an_demand_wheel cd_demand_wheel ct_demand_wheel), sl_demand_wheel⟩)
    (ld_demand_wheel : K.lookup dt_demand_wheel = some ⟨.type "tuple", ddd_demand_wheel, .seq ([(.str "wheel" t_9)] : List Value).toArray dn_demand_wheel, dsl_demand_wheel⟩)
    (c_demand_wheel : PySem.W.codeIn K cd_demand_wheel "demand_wheel" = true)
    (k_demand_wheel : PySem.W.keepIn K (.ref f_demand_wheel) = true)
    (a_struck : PySem.W.nsIn K mainGlobals "struck" = some (some (.ref f_struck)))
    (l_struck : K.lookup f_struck = some ⟨oc_struck, od_struck, .func (PySem.W.fnOf "struck" "struck" (defArgs st_struck) (defBody st_struck) (defScope st_struck) .none kV_struck dc_struck pm_struck an_struck cd_struck ct_struck), sl_struck⟩)
    (c_struck : PySem.W.codeIn K cd_struck "struck" = true)
    (k_struck : PySem.W.keepIn K (.ref f_struck) = true)
    (a_wrong_hours : PySem.W.nsIn K mainGlobals "wrong_hours" = some (some (.ref f_wrong_hours)))
    (l_wrong_hours : K.lookup f_wrong_hours = some ⟨oc_wrong_hours, od_wrong_hours, .func (PySem.W.fnOf "wrong_hours" "wrong_hours" (defArgs st_wrong_hours) (defBody st_wrong_hours) (defScope st_wrong_hours) .none kV_wrong_hours dc_wrong_hours pm_wrong_hours an_wrong_hours cd_wrong_hours ct_wrong_hours), sl_wrong_hours⟩)
    (c_wrong_hours : PySem.W.codeIn K cd_wrong_hours "wrong_hours" = true)
    (k_wrong_hours : PySem.W.keepIn K (.ref f_wrong_hours) = true)
    (a_period_of : PySem.W.nsIn K mainGlobals "period_of" = some (some (.ref f_period_of)))
    (l_period_of : K.lookup f_period_of = some ⟨oc_period_of, od_period_of, .func (PySem.W.fnOf "period_of" "period_of" (defArgs st_period_of) (defBody st_period_of) (defScope st_period_of) .none kV_period_of dc_period_of pm_period_of an_period_of cd_period_of ct_period_of), sl_period_of⟩)
    (c_period_of : PySem.W.codeIn K cd_period_of "period_of" = true)
    (k_period_of : PySem.W.keepIn K (.ref f_period_of) = true)
    (a_pulls_needed : PySem.W.nsIn K mainGlobals "pulls_needed" = some (some (.ref f_pulls_needed)))
    (l_pulls_needed : K.lookup f_pulls_needed = some ⟨oc_pulls_needed, od_pulls_needed, .func (PySem.W.fnOf "pulls_needed" "pulls_needed" (defArgs st_pulls_needed) (defBody st_pulls_needed) (defScope st_pulls_needed) .none kV_pulls_needed dc_pulls_needed pm_pulls_needed an_pulls_needed cd_pulls_needed ct_pulls_needed), sl_pulls_needed⟩)
    (c_pulls_needed : PySem.W.codeIn K cd_pulls_needed "pulls_needed" = true)
    (k_pulls_needed : PySem.W.keepIn K (.ref f_pulls_needed) = true)
    (a_demand_place : PySem.W.nsIn K mainGlobals "demand_place" = some (some (.ref f_demand_place)))
    (l_demand_place : K.lookup f_demand_place = some ⟨oc_demand_place, od_demand_place, .func (PySem.W.fnOf "demand_place" "demand_place" (defArgs st_demand_place) (defBody st_demand_place) (defScope st_demand_place) .none kV_demand_place dc_demand_place pm_demand_place an_demand_place cd_demand_place ct_demand_place), sl_demand_place⟩)
    (c_demand_place : PySem.W.codeIn K cd_demand_place "demand_place" = true)
    (k_demand_place : PySem.W.keepIn K (.ref f_demand_place) = true)
    (a_pulls : PySem.W.nsIn K mainGlobals "pulls" = some (some (.ref f_pulls)))
    (l_pulls : K.lookup f_pulls = some ⟨oc_pulls, od_pulls, .func (PySem.W.fnOf "pulls" "pulls" (defArgs st_pulls) (defBody st_pulls) (defScope st_pulls) .none kV_pulls dc_pulls pm_pulls an_pulls cd_pulls ct_pulls), sl_pulls⟩)
    (c_pulls : PySem.W.codeIn K cd_pulls "pulls" = true)
    (k_pulls : PySem.W.keepIn K (.ref f_pulls) = true)
    (a_first_unlike : PySem.W.nsIn K mainGlobals "first_unlike" = some (some (.ref f_first_unlike)))
    (l_first_unlike : K.lookup f_first_unlike = some ⟨oc_first_unlike, od_first_unlike, .func (PySem.W.fnOf "first_unlike" "first_unlike" (defArgs st_first_unlike) (defBody st_first_unlike) (defScope st_first_unlike) .none kV_first_unlike dc_first_unlike pm_first_unlike an_first_unlike cd_first_unlike ct_first_unlike), sl_first_unlike⟩)
    (c_first_unlike : PySem.W.codeIn K cd_first_unlike "first_unlike" = true)
    (k_first_unlike : PySem.W.keepIn K (.ref f_first_unlike) = true)
    (a_wheel_of : PySem.W.nsIn K mainGlobals "wheel_of" = some (some (.ref f_wheel_of)))
    (l_wheel_of : K.lookup f_wheel_of = some ⟨oc_wheel_of, od_wheel_of, .func (PySem.W.fnOf "wheel_of" "wheel_of" (defArgs st_wheel_of) (defBody st_wheel_of) (defScope st_wheel_of) .none kV_wheel_of dc_wheel_of pm_wheel_of an_wheel_of cd_wheel_of ct_wheel_of), sl_wheel_of⟩)
    (c_wheel_of : PySem.W.codeIn K cd_wheel_of "wheel_of" = true)
    (k_wheel_of : PySem.W.keepIn K (.ref f_wheel_of) = true)
    (a_notches : PySem.W.nsIn K mainGlobals "notches" = some (some (.ref f_notches)))
    (l_notches : K.lookup f_notches = some ⟨oc_notches, od_notches, .func (PySem.W.fnOf "notches" "notches" (defArgs st_notches) (defBody st_notches) (defScope st_notches) .none kV_notches dc_notches pm_notches an_notches cd_notches ct_notches), sl_notches⟩)
    (c_notches : PySem.W.codeIn K cd_notches "notches" = true)
    (k_notches : PySem.W.keepIn K (.ref f_notches) = true)
    (a_period : PySem.W.nsIn K mainGlobals "period" = some (some (.ref f_period)))
    (l_period : K.lookup f_period = some ⟨oc_period, od_period, .func (PySem.W.fnOf "period" "period" (defArgs st_period) (defBody st_period) (defScope st_period) .none kV_period dc_period pm_period an_period cd_period ct_period), sl_period⟩)
    (c_period : PySem.W.codeIn K cd_period "period" = true)
    (k_period : PySem.W.keepIn K (.ref f_period) = true)
    (a_strokes_of : PySem.W.nsIn K mainGlobals "strokes_of" = some (some (.ref f_strokes_of)))
    (l_strokes_of : K.lookup f_strokes_of = some ⟨oc_strokes_of, od_strokes_of, .func (PySem.W.fnOf "strokes_of" "strokes_of" (defArgs st_strokes_of) (defBody st_strokes_of) (defScope st_strokes_of) .none kV_strokes_of dc_strokes_of pm_strokes_of an_strokes_of cd_strokes_of ct_strokes_of), sl_strokes_of⟩)
    (c_strokes_of : PySem.W.codeIn K cd_strokes_of "strokes_of" = true)
    (k_strokes_of : PySem.W.keepIn K (.ref f_strokes_of) = true)
    (a_strokes : PySem.W.nsIn K mainGlobals "strokes" = some (some (.ref f_strokes)))
    (l_strokes : K.lookup f_strokes = some ⟨oc_strokes, od_strokes, .func (PySem.W.fnOf "strokes" "strokes" (defArgs st_strokes) (defBody st_strokes) (defScope st_strokes) .none kV_strokes dc_strokes pm_strokes an_strokes cd_strokes ct_strokes), sl_strokes⟩)
    (c_strokes : PySem.W.codeIn K cd_strokes "strokes" = true)
    (k_strokes : PySem.W.keepIn K (.ref f_strokes) = true)
    (a_hours_for : PySem.W.nsIn K mainGlobals "hours_for" = some (some (.ref f_hours_for)))
    (l_hours_for : K.lookup f_hours_for = some ⟨oc_hours_for, od_hours_for, .func (PySem.W.fnOf "hours_for" "hours_for" (defArgs st_hours_for) (defBody st_hours_for) (defScope st_hours_for) .none kV_hours_for dc_hours_for pm_hours_for an_hours_for cd_hours_for ct_hours_for), sl_hours_for⟩)
    (c_hours_for : PySem.W.codeIn K cd_hours_for "hours_for" = true)
    (k_hours_for : PySem.W.keepIn K (.ref f_hours_for) = true)
    (a_l_told : PySem.W.nsIn K mainGlobals "_law_told" = some (some (.ref f_l_told)))
    (l_l_told : K.lookup f_l_told = some ⟨oc_l_told, od_l_told, .func (PySem.W.fnOf "_law_told" "_law_told" (defArgs st_l_told) (defBody st_l_told) (defScope st_l_told) .none kV_l_told dc_l_told pm_l_told an_l_told cd_l_told ct_l_told), sl_l_told⟩)
    (c_l_told : PySem.W.codeIn K cd_l_told "_law_told" = true)
    (k_l_told : PySem.W.keepIn K (.ref f_l_told) = true)
    (a_l_more : PySem.W.nsIn K mainGlobals "_law_more" = some (some (.ref f_l_more)))
    (l_l_more : K.lookup f_l_more = some ⟨oc_l_more, od_l_more, .func (PySem.W.fnOf "_law_more" "_law_more" (defArgs st_l_more) (defBody st_l_more) (defScope st_l_more) .none kV_l_more dc_l_more pm_l_more an_l_more cd_l_more ct_l_more), sl_l_more⟩)
    (c_l_more : PySem.W.codeIn K cd_l_more "_law_more" = true)
    (k_l_more : PySem.W.keepIn K (.ref f_l_more) = true)
    (a_l_take : PySem.W.nsIn K mainGlobals "_law_take" = some (some (.ref f_l_take)))
    (l_l_take : K.lookup f_l_take = some ⟨oc_l_take, od_l_take, .func (PySem.W.fnOf "_law_take" "_law_take" (defArgs st_l_take) (defBody st_l_take) (defScope st_l_take) .none kV_l_take dc_l_take pm_l_take an_l_take cd_l_take ct_l_take), sl_l_take⟩)
    (c_l_take : PySem.W.codeIn K cd_l_take "_law_take" = true)
    (k_l_take : PySem.W.keepIn K (.ref f_l_take) = true)
    (a_l_one : PySem.W.nsIn K mainGlobals "_law_one" = some (some (.ref f_l_one)))
    (l_l_one : K.lookup f_l_one = some ⟨oc_l_one, od_l_one, .func (PySem.W.fnOf "_law_one" "_law_one" (defArgs st_l_one) (defBody st_l_one) (defScope st_l_one) .none kV_l_one dc_l_one pm_l_one an_l_one cd_l_one ct_l_one), sl_l_one⟩)
    (c_l_one : PySem.W.codeIn K cd_l_one "_law_one" = true)
    (k_l_one : PySem.W.keepIn K (.ref f_l_one) = true)
    (a_l_same_as : PySem.W.nsIn K mainGlobals "_law_same_as" = some (some (.ref f_l_same_as)))
    (l_l_same_as : K.lookup f_l_same_as = some ⟨oc_l_same_as, od_l_same_as, .func (PySem.W.fnOf "_law_same_as" "_law_same_as" (defArgs st_l_same_as) (defBody st_l_same_as) (defScope st_l_same_as) .none kV_l_same_as dc_l_same_as pm_l_same_as an_l_same_as cd_l_same_as ct_l_same_as), sl_l_same_as⟩)
    (c_l_same_as : PySem.W.codeIn K cd_l_same_as "_law_same_as" = true)
    (k_l_same_as : PySem.W.keepIn K (.ref f_l_same_as) = true)
    (a_l_turned : PySem.W.nsIn K mainGlobals "_law_turned" = some (some (.ref f_l_turned)))
    (l_l_turned : K.lookup f_l_turned = some ⟨oc_l_turned, od_l_turned, .func (PySem.W.fnOf "_law_turned" "_law_turned" (defArgs st_l_turned) (defBody st_l_turned) (defScope st_l_turned) .none kV_l_turned dc_l_turned pm_l_turned an_l_turned cd_l_turned ct_l_turned), sl_l_turned⟩)
    (c_l_turned : PySem.W.codeIn K cd_l_turned "_law_turned" = true)
    (k_l_turned : PySem.W.keepIn K (.ref f_l_turned) = true)
    (a_l_pulls : PySem.W.nsIn K mainGlobals "_law_pulls" = some (some (.ref f_l_pulls)))
    (l_l_pulls : K.lookup f_l_pulls = some ⟨oc_l_pulls, od_l_pulls, .func (PySem.W.fnOf "_law_pulls" "_law_pulls" (defArgs st_l_pulls) (defBody st_l_pulls) (defScope st_l_pulls) .none kV_l_pulls dc_l_pulls pm_l_pulls an_l_pulls cd_l_pulls ct_l_pulls), sl_l_pulls⟩)
    (c_l_pulls : PySem.W.codeIn K cd_l_pulls "_law_pulls" = true)
    (k_l_pulls : PySem.W.keepIn K (.ref f_l_pulls) = true)
    (a_l_run : PySem.W.nsIn K mainGlobals "_law_run" = some (some (.ref f_l_run)))
    (l_l_run : K.lookup f_l_run = some ⟨oc_l_run, od_l_run, .func (PySem.W.fnOf "_law_run" "_law_run" (defArgs st_l_run) (defBody st_l_run) (defScope st_l_run) .none kV_l_run dc_l_run pm_l_run an_l_run cd_l_run ct_l_run), sl_l_run⟩)
    (c_l_run : PySem.W.codeIn K cd_l_run "_law_run" = true)
    (k_l_run : PySem.W.keepIn K (.ref f_l_run) = true)
    (a_l_deeds_fit : PySem.W.nsIn K mainGlobals "_law_deeds_fit" = some (some (.ref f_l_deeds_fit)))
    (l_l_deeds_fit : K.lookup f_l_deeds_fit = some ⟨oc_l_deeds_fit, od_l_deeds_fit, .func (PySem.W.fnOf "_law_deeds_fit" "_law_deeds_fit" (defArgs st_l_deeds_fit) (defBody st_l_deeds_fit) (defScope st_l_deeds_fit) .none kV_l_deeds_fit dc_l_deeds_fit pm_l_deeds_fit an_l_deeds_fit cd_l_deeds_fit ct_l_deeds_fit), sl_l_deeds_fit⟩)
    (c_l_deeds_fit : PySem.W.codeIn K cd_l_deeds_fit "_law_deeds_fit" = true)
    (k_l_deeds_fit : PySem.W.keepIn K (.ref f_l_deeds_fit) = true)
    (a_l_unlike : PySem.W.nsIn K mainGlobals "_law_unlike" = some (some (.ref f_l_unlike)))
    (l_l_unlike : K.lookup f_l_unlike = some ⟨oc_l_unlike, od_l_unlike, .func (PySem.W.fnOf "_law_unlike" "_law_unlike" (defArgs st_l_unlike) (defBody st_l_unlike) (defScope st_l_unlike) .none kV_l_unlike dc_l_unlike pm_l_unlike an_l_unlike cd_l_unlike ct_l_unlike), sl_l_unlike⟩)
    (c_l_unlike : PySem.W.codeIn K cd_l_unlike "_law_unlike" = true)
    (k_l_unlike : PySem.W.keepIn K (.ref f_l_unlike) = true)
    (a_l_wheel : PySem.W.nsIn K mainGlobals "_law_wheel" = some (some (.ref f_l_wheel)))
    (l_l_wheel : K.lookup f_l_wheel = some ⟨oc_l_wheel, od_l_wheel, .func (PySem.W.fnOf "_law_wheel" "_law_wheel" (defArgs st_l_wheel) (defBody st_l_wheel) (defScope st_l_wheel) .none kV_l_wheel dc_l_wheel pm_l_wheel an_l_wheel cd_l_wheel ct_l_wheel), sl_l_wheel⟩)
    (c_l_wheel : PySem.W.codeIn K cd_l_wheel "_law_wheel" = true)
    (k_l_wheel : PySem.W.keepIn K (.ref f_l_wheel) = true)
    (a_l_strokes : PySem.W.nsIn K mainGlobals "_law_strokes" = some (some (.ref f_l_strokes)))
    (l_l_strokes : K.lookup f_l_strokes = some ⟨oc_l_strokes, od_l_strokes, .func (PySem.W.fnOf "_law_strokes" "_law_strokes" (defArgs st_l_strokes) (defBody st_l_strokes) (defScope st_l_strokes) .none kV_l_strokes dc_l_strokes pm_l_strokes an_l_strokes cd_l_strokes ct_l_strokes), sl_l_strokes⟩)
    (c_l_strokes : PySem.W.codeIn K cd_l_strokes "_law_strokes" = true)
    (k_l_strokes : PySem.W.keepIn K (.ref f_l_strokes) = true)
    (a_l_hours : PySem.W.nsIn K mainGlobals "_law_hours" = some (some (.ref f_l_hours)))
    (l_l_hours : K.lookup f_l_hours = some ⟨oc_l_hours, od_l_hours, .func (PySem.W.fnOf "_law_hours" "_law_hours" (defArgs st_l_hours) (defBody st_l_hours) (defScope st_l_hours) .none kV_l_hours dc_l_hours pm_l_hours an_l_hours cd_l_hours ct_l_hours), sl_l_hours⟩)
    (c_l_hours : PySem.W.codeIn K cd_l_hours "_law_hours" = true)
    (k_l_hours : PySem.W.keepIn K (.ref f_l_hours) = true)
    (a_l_period : PySem.W.nsIn K mainGlobals "_law_period" = some (some (.ref f_l_period)))
    (l_l_period : K.lookup f_l_period = some ⟨oc_l_period, od_l_period, .func (PySem.W.fnOf "_law_period" "_law_period" (defArgs st_l_period) (defBody st_l_period) (defScope st_l_period) .none kV_l_period dc_l_period pm_l_period an_l_period cd_l_period ct_l_period), sl_l_period⟩)
    (c_l_period : PySem.W.codeIn K cd_l_period "_law_period" = true)
    (k_l_period : PySem.W.keepIn K (.ref f_l_period) = true)
    (a_l_sums : PySem.W.nsIn K mainGlobals "_law_sums" = some (some (.ref f_l_sums)))
    (l_l_sums : K.lookup f_l_sums = some ⟨oc_l_sums, od_l_sums, .func (PySem.W.fnOf "_law_sums" "_law_sums" (defArgs st_l_sums) (defBody st_l_sums) (defScope st_l_sums) .none kV_l_sums dc_l_sums pm_l_sums an_l_sums cd_l_sums ct_l_sums), sl_l_sums⟩)
    (c_l_sums : PySem.W.codeIn K cd_l_sums "_law_sums" = true)
    (k_l_sums : PySem.W.keepIn K (.ref f_l_sums) = true)
    (a_l_draws : PySem.W.nsIn K mainGlobals "_law_draws" = some (some (.ref f_l_draws)))
    (l_l_draws : K.lookup f_l_draws = some ⟨oc_l_draws, od_l_draws, .func (PySem.W.fnOf "_law_draws" "_law_draws" (defArgs st_l_draws) (defBody st_l_draws) (defScope st_l_draws) .none kV_l_draws dc_l_draws pm_l_draws an_l_draws cd_l_draws ct_l_draws), sl_l_draws⟩)
    (c_l_draws : PySem.W.codeIn K cd_l_draws "_law_draws" = true)
    (k_l_draws : PySem.W.keepIn K (.ref f_l_draws) = true)
    (a_law : PySem.W.nsIn K mainGlobals "law" = some (some (.ref f_law)))
    (l_law : K.lookup f_law = some ⟨oc_law, od_law, .func (PySem.W.fnOf "law" "law" (defArgs st_law) (defBody st_law) (defScope st_law) .none kV_law dc_law pm_law an_law cd_law ct_law), sl_law⟩)
    (c_law : PySem.W.codeIn K cd_law "law" = true)
    (k_law : PySem.W.keepIn K (.ref f_law) = true)
    : ∃ (fd : FuncData) (g : Fn), (∀ (s : Shared) (u : Value), BindsTo s fd ⟨[u], []⟩ [(("script" : Str), u)]) ∧ (∃ C : CA, g = F_law C ∧ C = (⟨a_ArgumentError, a_LogError⟩ : CA)) ∧
      ∀ base : Heap, K.In base → base.Ns mainGlobals mg → FnG PySem.Challenge.pw_geartrue_k56_whole_striking_works w K mg base 7 fa fd ["script"] g := by
  have d_played : DefOk K mg "played" st_played ["wheel", "deeds"] := def_ok X G a_played l_played c_played k_played (fun _ _ _ _ _ _ us hl => match us, hl with | [_, _], _ => rfl)
  have d_demand_deeds : DefOk K mg "demand_deeds" st_demand_deeds ["deeds"] := def_ok X G a_demand_deeds l_demand_deeds c_demand_deeds k_demand_deeds (fun _ _ _ _ _ _ us hl => match us, hl with | [_], _ => rfl)
  have d_is_integer : DefOk K mg "is_integer" st_is_integer ["value"] := def_ok X G a_is_integer l_is_integer c_is_integer k_is_integer (fun _ _ _ _ _ _ us hl => match us, hl with | [_], _ => rfl)
  have d_in_range : DefOk K mg "in_range" st_in_range ["value", "least", "most"] := def_ok X G a_in_range l_in_range c_in_range k_in_range (fun _ _ _ _ _ _ us hl => match us, hl with | [_, _, _], _ => rfl)
  have d_demand_wheel : DefOkD K mg "demand_wheel" st_demand_wheel ["wheel", "reason"] (.str "wheel") := def_okD X G a_demand_wheel l_demand_wheel c_demand_wheel k_demand_wheel ld_demand_wheel kv_str (fun _ _ _ _ _ _ us hl => match us, hl with | [_, _], _ => ⟨_, rfl, rfl⟩) (fun _ _ _ _ _ _ us hl => match us, hl with | [_], _ => ⟨_, rfl, rfl⟩)
  have d_struck : DefOk K mg "struck" st_struck ["wheel", "deeds"] := def_ok X G a_struck l_struck c_struck k_struck (fun _ _ _ _ _ _ us hl => match us, hl with | [_, _], _ => rfl)
  have d_wrong_hours : DefOk K mg "wrong_hours" st_wrong_hours ["wheel", "deeds"] := def_ok X G a_wrong_hours l_wrong_hours c_wrong_hours k_wrong_hours (fun _ _ _ _ _ _ us hl => match us, hl with | [_, _], _ => rfl)
  have d_period_of : DefOk K mg "period_of" st_period_of ["wheel"] := def_ok X G a_period_of l_period_of c_period_of k_period_of (fun _ _ _ _ _ _ us hl => match us, hl with | [_], _ => rfl)
  have d_pulls_needed : DefOk K mg "pulls_needed" st_pulls_needed ["wheel", "deeds"] := def_ok X G a_pulls_needed l_pulls_needed c_pulls_needed k_pulls_needed (fun _ _ _ _ _ _ us hl => match us, hl with | [_, _], _ => rfl)
  have d_demand_place : DefOk K mg "demand_place" st_demand_place ["wheel", "place"] := def_ok X G a_demand_place l_demand_place c_demand_place k_demand_place (fun _ _ _ _ _ _ us hl => match us, hl with | [_, _], _ => rfl)
  have d_pulls : DefOk K mg "pulls" st_pulls ["wheel", "place", "due"] := def_ok X G a_pulls l_pulls c_pulls k_pulls (fun _ _ _ _ _ _ us hl => match us, hl with | [_, _, _], _ => rfl)
  have d_first_unlike : DefOk K mg "first_unlike" st_first_unlike ["wheel", "place", "other", "spot"] := def_ok X G a_first_unlike l_first_unlike c_first_unlike k_first_unlike (fun _ _ _ _ _ _ us hl => match us, hl with | [_, _, _, _], _ => rfl)
  have d_wheel_of : DefOk K mg "wheel_of" st_wheel_of ["places"] := def_ok X G a_wheel_of l_wheel_of c_wheel_of k_wheel_of (fun _ _ _ _ _ _ us hl => match us, hl with | [_], _ => rfl)
  have d_notches : DefOk K mg "notches" st_notches ["wheel"] := def_ok X G a_notches l_notches c_notches k_notches (fun _ _ _ _ _ _ us hl => match us, hl with | [_], _ => rfl)
  have d_period : DefOk K mg "period" st_period ["wheel"] := def_ok X G a_period l_period c_period k_period (fun _ _ _ _ _ _ us hl => match us, hl with | [_], _ => rfl)
  have d_strokes_of : DefOk K mg "strokes_of" st_strokes_of ["wheel", "place", "hours"] := def_ok X G a_strokes_of l_strokes_of c_strokes_of k_strokes_of (fun _ _ _ _ _ _ us hl => match us, hl with | [_, _, _], _ => rfl)
  have d_strokes : DefOk K mg "strokes" st_strokes ["wheel", "place", "hours"] := def_ok X G a_strokes l_strokes c_strokes k_strokes (fun _ _ _ _ _ _ us hl => match us, hl with | [_, _, _], _ => rfl)
  have d_hours_for : DefOk K mg "hours_for" st_hours_for ["wheel", "place", "count"] := def_ok X G a_hours_for l_hours_for c_hours_for k_hours_for (fun _ _ _ _ _ _ us hl => match us, hl with | [_, _, _], _ => rfl)
  have d_l_told : DefOk K mg "_law_told" st_l_told ["which", "one", "two", "three", "four"] := def_ok X G a_l_told l_l_told c_l_told k_l_told (fun _ _ _ _ _ _ us hl => match us, hl with | [_, _, _, _, _], _ => rfl)
  have d_l_more : DefOk K mg "_law_more" st_l_more ["draws", "place"] := def_ok X G a_l_more l_l_more c_l_more k_l_more (fun _ _ _ _ _ _ us hl => match us, hl with | [_, _], _ => rfl)
  have d_l_take : DefOk K mg "_law_take" st_l_take ["draws", "at", "many"] := def_ok X G a_l_take l_l_take c_l_take k_l_take (fun _ _ _ _ _ _ us hl => match us, hl with | [_, _, _], _ => rfl)
  have d_l_one : DefOk K mg "_law_one" st_l_one ["rows", "draws", "at"] := def_ok X G a_l_one l_l_one c_l_one k_l_one (fun _ _ _ _ _ _ us hl => match us, hl with | [_, _, _], _ => rfl)
  have d_l_same_as : DefOk K mg "_law_same_as" st_l_same_as ["actual", "due"] := def_ok X G a_l_same_as l_l_same_as c_l_same_as k_l_same_as (fun _ _ _ _ _ _ us hl => match us, hl with | [_, _], _ => rfl)
  have d_l_turned : DefOk K mg "_law_turned" st_l_turned ["wheel", "place"] := def_ok X G a_l_turned l_l_turned c_l_turned k_l_turned (fun _ _ _ _ _ _ us hl => match us, hl with | [_, _], _ => rfl)
  have d_l_pulls : DefOk K mg "_law_pulls" st_l_pulls ["wheel", "place", "due"] := def_ok X G a_l_pulls l_l_pulls c_l_pulls k_l_pulls (fun _ _ _ _ _ _ us hl => match us, hl with | [_, _, _], _ => rfl)
  have d_l_run : DefOk K mg "_law_run" st_l_run ["wheel", "deeds"] := def_ok X G a_l_run l_l_run c_l_run k_l_run (fun _ _ _ _ _ _ us hl => match us, hl with | [_, _], _ => rfl)
  have d_l_deeds_fit : DefOk K mg "_law_deeds_fit" st_l_deeds_fit ["wheel", "deeds"] := def_ok X G a_l_deeds_fit l_l_deeds_fit c_l_deeds_fit k_l_deeds_fit (fun _ _ _ _ _ _ us hl => match us, hl with | [_, _], _ => rfl)
  have d_l_unlike : DefOk K mg "_law_unlike" st_l_unlike ["wheel", "place", "other", "spot"] := def_ok X G a_l_unlike l_l_unlike c_l_unlike k_l_unlike (fun _ _ _ _ _ _ us hl => match us, hl with | [_, _, _, _], _ => rfl)
  have d_l_wheel : DefOk K mg "_law_wheel" st_l_wheel ["draws", "at"] := def_ok X G a_l_wheel l_l_wheel c_l_wheel k_l_wheel (fun _ _ _ _ _ _ us hl => match us, hl with | [_, _], _ => rfl)
  have d_l_strokes : DefOk K mg "_law_strokes" st_l_strokes ["wheel", "place", "hours"] := def_ok X G a_l_strokes l_l_strokes c_l_strokes k_l_strokes (fun _ _ _ _ _ _ us hl => match us, hl with | [_, _, _], _ => rfl)
  have d_l_hours : DefOk K mg "_law_hours" st_l_hours ["wheel", "place", "count"] := def_ok X G a_l_hours l_l_hours c_l_hours k_l_hours (fun _ _ _ _ _ _ us hl => match us, hl with | [_, _, _], _ => rfl)
  have d_l_period : DefOk K mg "_law_period" st_l_period ["wheel"] := def_ok X G a_l_period l_l_period c_l_period k_l_period (fun _ _ _ _ _ _ us hl => match us, hl with | [_], _ => rfl)
  have d_l_sums : DefOk K mg "_law_sums" st_l_sums ["wheel"] := def_ok X G a_l_sums l_l_sums c_l_sums k_l_sums (fun _ _ _ _ _ _ us hl => match us, hl with | [_], _ => rfl)
  have d_l_draws : DefOk K mg "_law_draws" st_l_draws ["script"] := def_ok X G a_l_draws l_l_draws c_l_draws k_l_draws (fun _ _ _ _ _ _ us hl => match us, hl with | [_], _ => rfl)
  have d_law : DefOk K mg "law" st_law ["script"] := def_ok X G a_law l_law c_law k_law (fun _ _ _ _ _ _ us hl => match us, hl with | [_], _ => rfl)
  have m_len := PySem.W.mg_none_of X G z_len
  have m_isinstance := PySem.W.mg_none_of X G z_isinstance
  have m_str := PySem.W.mg_none_of X G z_str
  have m_tuple := PySem.W.mg_none_of X G z_tuple
  have m_int := PySem.W.mg_none_of X G z_int
  have m_bool := PySem.W.mg_none_of X G z_bool
  have m_all := PySem.W.mg_none_of X G z_all
  have m_sum := PySem.W.mg_none_of X G z_sum
  have m_repr := PySem.W.mg_none_of X G z_repr
  have m_max := PySem.W.mg_none_of X G z_max
  have m_abs := PySem.W.mg_none_of X G z_abs
  have m_enumerate := PySem.W.mg_none_of X G z_enumerate
  have m_range := PySem.W.mg_none_of X G z_range
  have m_zip := PySem.W.mg_none_of X G z_zip
  have m_super := PySem.W.mg_none_of X G z_super
  have mv_DEEDS := PySem.W.mg_of X G v_DEEDS
  have mv_MAX_HOURS := PySem.W.mg_of X G v_MAX_HOURS
  have mv_MAX_STROKES := PySem.W.mg_of X G v_MAX_STROKES
  have mv_MAX_TURN := PySem.W.mg_of X G v_MAX_TURN
  have mv_MAX_NUMBER := PySem.W.mg_of X G v_MAX_NUMBER
  have nd_DEEDS : (("DEEDS" : Str) == ("__debug__" : Str)) = false := by decide
  have nd_MAX_HOURS : (("MAX_HOURS" : Str) == ("__debug__" : Str)) = false := by decide
  have nd_MAX_STROKES : (("MAX_STROKES" : Str) == ("__debug__" : Str)) = false := by decide
  have nd_MAX_TURN : (("MAX_TURN" : Str) == ("__debug__" : Str)) = false := by decide
  have nd_MAX_NUMBER : (("MAX_NUMBER" : Str) == ("__debug__" : Str)) = false := by decide
  have nd_ArgumentError : (("ArgumentError" : Str) == ("__debug__" : Str)) = false := by decide
  have nd_LogError : (("LogError" : Str) == ("__debug__" : Str)) = false := by decide
  have mc_ArgumentError := PySem.W.mg_of X G n_ArgumentError
  have mc_LogError := PySem.W.mg_of X G n_LogError
  have ek_ArgumentError : ErrK K a_ArgumentError := ⟨ga_ArgumentError, gg_ArgumentError, bx_ArgumentError, hd_ArgumentError, cla_ArgumentError, spe, tke, ob_ArgumentError⟩
  have ek_LogError : ErrK K a_LogError := ⟨ga_LogError, gg_LogError, bx_LogError, hd_LogError, cla_LogError, spe, tke, ob_LogError⟩
  have O : OrcOk K (orc (⟨a_ArgumentError, a_LogError⟩ : CA)) := by
    constructor
    · intro D c b e
      simp only [orc] at e
      by_cases hD : D = a_ArgumentError
      · have hD := hD.symm; subst hD
        simp only [if_true] at e
        by_cases hc : c = a_ArgumentError
        · have hc := hc.symm; subst hc
          simp only [if_true] at e
          cases e
          obtain ⟨e1, e2⟩ := orc_pair bx_ArgumentError hd_ArgumentError ty_ArgumentError sub_ArgumentError_ArgumentError self_ArgumentError
          exact ⟨e1, e2, ek_ArgumentError.c⟩
        rw [if_neg hc] at e
        by_cases hc : c = a_LogError
        · have hc := hc.symm; subst hc
          simp only [if_true] at e
          cases e
          obtain ⟨e1, e2⟩ := orc_pair bx_LogError hd_LogError ty_LogError sub_ArgumentError_LogError self_ArgumentError
          exact ⟨e1, e2, ek_ArgumentError.c⟩
        rw [if_neg hc] at e
        cases e
      rw [if_neg hD] at e
      by_cases hD : D = a_LogError
      · have hD := hD.symm; subst hD
        simp only [if_true] at e
        by_cases hc : c = a_LogError
        · have hc := hc.symm; subst hc
          simp only [if_true] at e
          cases e
          obtain ⟨e1, e2⟩ := orc_pair bx_LogError hd_LogError ty_LogError sub_LogError_LogError self_LogError
          exact ⟨e1, e2, ek_LogError.c⟩
        rw [if_neg hc] at e
        by_cases hc : c = a_ArgumentError
        · have hc := hc.symm; subst hc
          simp only [if_true] at e
          cases e
          obtain ⟨e1, e2⟩ := orc_pair bx_ArgumentError hd_ArgumentError ty_ArgumentError sub_LogError_ArgumentError self_LogError
          exact ⟨e1, e2, ek_LogError.c⟩
        rw [if_neg hc] at e
        cases e
      rw [if_neg hD] at e
      cases e
    · intro D f e
      simp only [orc] at e
      by_cases hD : D = a_ArgumentError
      · have hD := hD.symm; subst hD
        simp only [if_true] at e
        have e := of_decide_eq_true e
        exact ⟨lit1 (P := fun g => PySem.W.findIn K (.ref a_ArgumentError) g = some none) no_reason_ArgumentError f e, ek_ArgumentError.x⟩
      rw [if_neg hD] at e
      by_cases hD : D = a_LogError
      · have hD := hD.symm; subst hD
        simp only [if_true] at e
        have e := of_decide_eq_true e
        exact ⟨lit2 (P := fun g => PySem.W.findIn K (.ref a_LogError) g = some none) no_number_LogError no_reason_LogError f e, ek_LogError.x⟩
      rw [if_neg hD] at e
      cases e
  obtain ⟨f, fd, h1, h2, F3, b, bt⟩ := d_law
  have ef := hfa.symm.trans h1
  cases ef
  refine ⟨fd, F_law (⟨a_ArgumentError, a_LogError⟩ : CA), fun s u => bt s [u] rfl, ⟨_, rfl, rfl⟩, fun base KB GB => ?_⟩
  have in_ArgumentError : IniT PySem.Challenge.pw_geartrue_k56_whole_striking_works K mg a_ArgumentError D_ArgumentError fI_ArgumentError ["reason"] (args1 "reason" (fun n => ([⟨15, 17, 15, 21⟩, ⟨15, 23, 15, 29⟩, ⟨0, 0, 0, 0⟩, ⟨16, 8, 16, 13⟩, ⟨16, 8, 16, 15⟩, ⟨16, 8, 16, 24⟩, ⟨16, 8, 16, 32⟩, ⟨16, 8, 16, 32⟩, ⟨16, 25, 16, 31⟩, ⟨0, 0, 0, 0⟩, ⟨17, 8, 17, 12⟩, ⟨17, 8, 17, 19⟩, ⟨17, 22, 17, 28⟩, ⟨17, 8, 17, 28⟩, ⟨0, 0, 0, 0⟩, ⟨0, 0, 0, 0⟩, ⟨0, 0, 0, 0⟩, ⟨0, 0, 0, 0⟩] : List Pos).getD n ⟨0, 0, 0, 0⟩)) (body1 "reason" (fun n => ([⟨15, 17, 15, 21⟩, ⟨15, 23, 15, 29⟩, ⟨0, 0, 0, 0⟩, ⟨16, 8, 16, 13⟩, ⟨16, 8, 16, 15⟩, ⟨16, 8, 16, 24⟩, ⟨16, 8, 16, 32⟩, ⟨16, 8, 16, 32⟩, ⟨16, 25, 16, 31⟩, ⟨0, 0, 0, 0⟩, ⟨17, 8, 17, 12⟩, ⟨17, 8, 17, 19⟩, ⟨17, 22, 17, 28⟩, ⟨17, 8, 17, 28⟩, ⟨0, 0, 0, 0⟩, ⟨0, 0, 0, 0⟩, ⟨0, 0, 0, 0⟩, ⟨0, 0, 0, 0⟩] : List Pos).getD n ⟨0, 0, 0, 0⟩)) := ini_mk xC_ArgumentError sa_ArgumentError iC_ArgumentError tC_ArgumentError lF_ArgumentError cI_ArgumentError lcd_ArgumentError h2_ArgumentError hf_ArgumentError lcc_ArgumentError hD_ArgumentError hsub_ArgumentError sup_ArgumentError opq isVE_ArgumentError kC_ArgumentError bx_ArgumentError ty_ArgumentError (lit1 no_reason_ArgumentError) rv_ArgumentError s1_ArgumentError s2_ArgumentError s3_ArgumentError s4_ArgumentError s5_ArgumentError s6_ArgumentError s7_ArgumentError (lit1 s8_reason_ArgumentError) top m_super
  have ex_ArgumentError : ExcG PySem.Challenge.pw_geartrue_k56_whole_striking_works w K mg base a_ArgumentError ["reason"] := exg1 in_ArgumentError (by decide) (by decide) (fun _ _ _ _ _ _ _ _ _ _ => by with_unfolding_all rfl) (fun _ => ⟨_, rfl⟩) (fun _ => rfl)
  have in_LogError : IniT PySem.Challenge.pw_geartrue_k56_whole_striking_works K mg a_LogError D_LogError fI_LogError ["number", "reason"] (args2 "number" "reason" (fun n => ([⟨22, 17, 22, 21⟩, ⟨22, 23, 22, 29⟩, ⟨22, 31, 22, 37⟩, ⟨23, 8, 23, 13⟩, ⟨23, 8, 23, 15⟩, ⟨23, 8, 23, 24⟩, ⟨23, 8, 23, 40⟩, ⟨23, 8, 23, 40⟩, ⟨23, 25, 23, 31⟩, ⟨23, 33, 23, 39⟩, ⟨24, 8, 24, 12⟩, ⟨24, 8, 24, 19⟩, ⟨24, 22, 24, 28⟩, ⟨24, 8, 24, 28⟩, ⟨25, 8, 25, 12⟩, ⟨25, 8, 25, 19⟩, ⟨25, 22, 25, 28⟩, ⟨25, 8, 25, 28⟩] : List Pos).getD n ⟨0, 0, 0, 0⟩)) (body2 "number" "reason" (fun n => ([⟨22, 17, 22, 21⟩, ⟨22, 23, 22, 29⟩, ⟨22, 31, 22, 37⟩, ⟨23, 8, 23, 13⟩, ⟨23, 8, 23, 15⟩, ⟨23, 8, 23, 24⟩, ⟨23, 8, 23, 40⟩, ⟨23, 8, 23, 40⟩, ⟨23, 25, 23, 31⟩, ⟨23, 33, 23, 39⟩, ⟨24, 8, 24, 12⟩, ⟨24, 8, 24, 19⟩, ⟨24, 22, 24, 28⟩, ⟨24, 8, 24, 28⟩, ⟨25, 8, 25, 12⟩, ⟨25, 8, 25, 19⟩, ⟨25, 22, 25, 28⟩, ⟨25, 8, 25, 28⟩] : List Pos).getD n ⟨0, 0, 0, 0⟩)) := ini_mk xC_LogError sa_LogError iC_LogError tC_LogError lF_LogError cI_LogError lcd_LogError h2_LogError hf_LogError lcc_LogError hD_LogError hsub_LogError sup_LogError opq isVE_LogError kC_LogError bx_LogError ty_LogError (lit2 no_number_LogError no_reason_LogError) rv_LogError s1_LogError s2_LogError s3_LogError s4_LogError s5_LogError s6_LogError s7_LogError (lit2 s8_number_LogError s8_reason_LogError) top m_super
  have ex_LogError : ExcG PySem.Challenge.pw_geartrue_k56_whole_striking_works w K mg base a_LogError ["number", "reason"] := exg2 in_LogError (by decide) (by decide) (by decide) (by decide) (by decide) (fun _ _ _ _ _ _ _ _ _ _ _ => by with_unfolding_all rfl) (fun _ => ⟨_, rfl⟩) (fun _ => rfl) (fun _ => rfl)
  have cg_played : CalG PySem.Challenge.pw_geartrue_k56_whole_striking_works w K mg base 1 "played" ["wheel", "deeds"] (F_played (⟨a_ArgumentError, a_LogError⟩ : CA)) := cal_of (k := 0) stdM_ok O d_played rfl sc_played (fun Y S => g_list (l := G_played (⟨a_ArgumentError, a_LogError⟩ : CA)) (.cons (gok_bi S m_len ok_len) .nil))
  have cg_demand_deeds : CalG PySem.Challenge.pw_geartrue_k56_whole_striking_works w K mg base 2 "demand_deeds" ["deeds"] (F_demand_deeds (⟨a_ArgumentError, a_LogError⟩ : CA)) := cal_of (k := 1) stdM_ok O d_demand_deeds rfl sc_demand_deeds (fun Y S => g_list (l := G_demand_deeds (⟨a_ArgumentError, a_LogError⟩ : CA)) (.cons (gok_it S m_enumerate) (.cons (gok_bi S m_isinstance ok_isi) (.cons (gok_bi S m_str ok_str) (.cons (gok_kv S mv_DEEDS (kv_tup lt_1 (by rw [sizeLine_eq]; exact (by decide : 3 ≤ 16777216)) (kvs_cons kv_str (kvs_cons kv_str (kvs_cons kv_str kvs_nil)))) nd_DEEDS) (.cons (gok_ex S (by decide) mc_LogError ex_LogError nd_LogError) (.cons (gok_bi S m_tuple ok_tuple) (.cons (gok_bi S m_len ok_len) (.cons (gok_kv S mv_MAX_HOURS kv_int nd_MAX_HOURS) (.cons (gok_ex S (by decide) mc_ArgumentError ex_ArgumentError nd_ArgumentError) .nil))))))))))
  have cg_is_integer : CalG PySem.Challenge.pw_geartrue_k56_whole_striking_works w K mg base 1 "is_integer" ["value"] (F_is_integer (⟨a_ArgumentError, a_LogError⟩ : CA)) := cal_of (k := 0) stdM_ok O d_is_integer rfl sc_is_integer (fun Y S => g_list (l := G_is_integer (⟨a_ArgumentError, a_LogError⟩ : CA)) (.cons (gok_bi S m_isinstance ok_isi) (.cons (gok_bi S m_int ok_int) (.cons (gok_bi S m_bool ok_bool) .nil))))
  have cg_in_range : CalG PySem.Challenge.pw_geartrue_k56_whole_striking_works w K mg base 2 "in_range" ["value", "least", "most"] (F_in_range (⟨a_ArgumentError, a_LogError⟩ : CA)) := cal_of (k := 1) stdM_ok O d_in_range rfl sc_in_range (fun Y S => g_list (l := G_in_range (⟨a_ArgumentError, a_LogError⟩ : CA)) (.cons (gok_fn S cg_is_integer (by decide) (by decide)) .nil))
  have cg_demand_wheel : CalD PySem.Challenge.pw_geartrue_k56_whole_striking_works w K mg base 3 "demand_wheel" ["wheel", "reason"] (F_demand_wheel (⟨a_ArgumentError, a_LogError⟩ : CA)) (.str "wheel") := cal_ofD (k := 2) stdM_ok O d_demand_wheel rfl sc_demand_wheel (fun Y S => g_list (l := G_demand_wheel (⟨a_ArgumentError, a_LogError⟩ : CA)) (.cons (gok_bi S m_all ok_all) (.cons (gok_fn S cg_in_range (by decide) (by decide)) (.cons (gok_kv S mv_MAX_STROKES kv_int nd_MAX_STROKES) (.cons (gok_ex S (by decide) mc_ArgumentError ex_ArgumentError nd_ArgumentError) (.cons (gok_bi S m_isinstance ok_isi) (.cons (gok_bi S m_tuple ok_tuple) (.cons (gok_bi S m_len ok_len) (.cons (gok_kv S mv_MAX_TURN kv_int nd_MAX_TURN) .nil)))))))))
  have cg_struck : CalG PySem.Challenge.pw_geartrue_k56_whole_striking_works w K mg base 4 "struck" ["wheel", "deeds"] (F_struck (⟨a_ArgumentError, a_LogError⟩ : CA)) := cal_of (k := 3) stdM_ok O d_struck rfl sc_struck (fun Y S => g_list (l := G_struck (⟨a_ArgumentError, a_LogError⟩ : CA)) (.cons (gok_bi S m_tuple ok_tuple) (.cons (gok_fn S cg_played (by decide) (by decide)) (.cons (gok_fn S cg_demand_deeds (by decide) (by decide)) (.cons (gok_fnd S cg_demand_wheel (by decide) (by decide)) .nil)))))
  have cg_wrong_hours : CalG PySem.Challenge.pw_geartrue_k56_whole_striking_works w K mg base 4 "wrong_hours" ["wheel", "deeds"] (F_wrong_hours (⟨a_ArgumentError, a_LogError⟩ : CA)) := cal_of (k := 3) stdM_ok O d_wrong_hours rfl sc_wrong_hours (fun Y S => g_list (l := G_wrong_hours (⟨a_ArgumentError, a_LogError⟩ : CA)) (.cons (gok_bi S m_tuple ok_tuple) (.cons (gok_it S m_enumerate) (.cons (gok_bi S m_len ok_len) (.cons (gok_fn S cg_played (by decide) (by decide)) (.cons (gok_fn S cg_demand_deeds (by decide) (by decide)) (.cons (gok_fnd S cg_demand_wheel (by decide) (by decide)) .nil)))))))
  have cg_period_of : CalG PySem.Challenge.pw_geartrue_k56_whole_striking_works w K mg base 1 "period_of" ["wheel"] (F_period_of (⟨a_ArgumentError, a_LogError⟩ : CA)) := cal_of (k := 0) stdM_ok O d_period_of rfl sc_period_of (fun Y S => g_list (l := G_period_of (⟨a_ArgumentError, a_LogError⟩ : CA)) (.cons (gok_it S m_range) (.cons (gok_bi S m_len ok_len) .nil)))
  have cg_pulls_needed : CalG PySem.Challenge.pw_geartrue_k56_whole_striking_works w K mg base 4 "pulls_needed" ["wheel", "deeds"] (F_pulls_needed (⟨a_ArgumentError, a_LogError⟩ : CA)) := cal_of (k := 3) stdM_ok O d_pulls_needed rfl sc_pulls_needed (fun Y S => g_list (l := G_pulls_needed (⟨a_ArgumentError, a_LogError⟩ : CA)) (.cons (gok_fn S cg_period_of (by decide) (by decide)) (.cons (gok_fn S cg_played (by decide) (by decide)) (.cons (gok_fn S cg_demand_deeds (by decide) (by decide)) (.cons (gok_fnd S cg_demand_wheel (by decide) (by decide)) .nil)))))
  have cg_demand_place : CalG PySem.Challenge.pw_geartrue_k56_whole_striking_works w K mg base 3 "demand_place" ["wheel", "place"] (F_demand_place (⟨a_ArgumentError, a_LogError⟩ : CA)) := cal_of (k := 2) stdM_ok O d_demand_place rfl sc_demand_place (fun Y S => g_list (l := G_demand_place (⟨a_ArgumentError, a_LogError⟩ : CA)) (.cons (gok_fn S cg_in_range (by decide) (by decide)) (.cons (gok_bi S m_len ok_len) (.cons (gok_ex S (by decide) mc_ArgumentError ex_ArgumentError nd_ArgumentError) .nil))))
  have cg_pulls : CalG PySem.Challenge.pw_geartrue_k56_whole_striking_works w K mg base 4 "pulls" ["wheel", "place", "due"] (F_pulls (⟨a_ArgumentError, a_LogError⟩ : CA)) := cal_of (k := 3) stdM_ok O d_pulls rfl sc_pulls (fun Y S => g_list (l := G_pulls (⟨a_ArgumentError, a_LogError⟩ : CA)) (.cons (gok_fn S cg_period_of (by decide) (by decide)) (.cons (gok_fn S cg_in_range (by decide) (by decide)) (.cons (gok_bi S m_len ok_len) (.cons (gok_ex S (by decide) mc_ArgumentError ex_ArgumentError nd_ArgumentError) (.cons (gok_fn S cg_demand_place (by decide) (by decide)) (.cons (gok_fnd S cg_demand_wheel (by decide) (by decide)) .nil)))))))
  have cg_first_unlike : CalG PySem.Challenge.pw_geartrue_k56_whole_striking_works w K mg base 4 "first_unlike" ["wheel", "place", "other", "spot"] (F_first_unlike (⟨a_ArgumentError, a_LogError⟩ : CA)) := cal_of (k := 3) stdM_ok O d_first_unlike rfl sc_first_unlike (fun Y S => g_list (l := G_first_unlike (⟨a_ArgumentError, a_LogError⟩ : CA)) (.cons (gok_it S m_range) (.cons (gok_bi S m_len ok_len) (.cons (gok_fn S cg_in_range (by decide) (by decide)) (.cons (gok_ex S (by decide) mc_ArgumentError ex_ArgumentError nd_ArgumentError) (.cons (gok_fnd S cg_demand_wheel (by decide) (by decide)) (.cons (gok_fn S cg_demand_place (by decide) (by decide)) .nil)))))))
  have cg_wheel_of : CalG PySem.Challenge.pw_geartrue_k56_whole_striking_works w K mg base 3 "wheel_of" ["places"] (F_wheel_of (⟨a_ArgumentError, a_LogError⟩ : CA)) := cal_of (k := 2) stdM_ok O d_wheel_of rfl sc_wheel_of (fun Y S => g_list (l := G_wheel_of (⟨a_ArgumentError, a_LogError⟩ : CA)) (.cons (gok_bi S m_tuple ok_tuple) (.cons (gok_bi S m_all ok_all) (.cons (gok_kv S mv_MAX_STROKES kv_int nd_MAX_STROKES) (.cons (gok_ex S (by decide) mc_ArgumentError ex_ArgumentError nd_ArgumentError) (.cons (gok_it S m_zip) (.cons (gok_fn S cg_in_range (by decide) (by decide)) (.cons (gok_kv S mv_MAX_TURN kv_int nd_MAX_TURN) (.cons (gok_bi S m_isinstance ok_isi) (.cons (gok_bi S m_len ok_len) .nil))))))))))
  have cg_notches : CalG PySem.Challenge.pw_geartrue_k56_whole_striking_works w K mg base 4 "notches" ["wheel"] (F_notches (⟨a_ArgumentError, a_LogError⟩ : CA)) := cal_of (k := 3) stdM_ok O d_notches rfl sc_notches (fun Y S => g_list (l := G_notches (⟨a_ArgumentError, a_LogError⟩ : CA)) (.cons (gok_bi S m_tuple ok_tuple) (.cons (gok_fnd S cg_demand_wheel (by decide) (by decide)) .nil)))
  have cg_period : CalG PySem.Challenge.pw_geartrue_k56_whole_striking_works w K mg base 4 "period" ["wheel"] (F_period (⟨a_ArgumentError, a_LogError⟩ : CA)) := cal_of (k := 3) stdM_ok O d_period rfl sc_period (fun Y S => g_list (l := G_period (⟨a_ArgumentError, a_LogError⟩ : CA)) (.cons (gok_fn S cg_period_of (by decide) (by decide)) (.cons (gok_fnd S cg_demand_wheel (by decide) (by decide)) .nil)))
  have cg_strokes_of : CalG PySem.Challenge.pw_geartrue_k56_whole_striking_works w K mg base 1 "strokes_of" ["wheel", "place", "hours"] (F_strokes_of (⟨a_ArgumentError, a_LogError⟩ : CA)) := cal_of (k := 0) stdM_ok O d_strokes_of rfl sc_strokes_of (fun Y S => g_list (l := G_strokes_of (⟨a_ArgumentError, a_LogError⟩ : CA)) (.cons (gok_bi S m_sum ok_sum) (.cons (gok_bi S m_len ok_len) .nil)))
  have cg_strokes : CalG PySem.Challenge.pw_geartrue_k56_whole_striking_works w K mg base 4 "strokes" ["wheel", "place", "hours"] (F_strokes (⟨a_ArgumentError, a_LogError⟩ : CA)) := cal_of (k := 3) stdM_ok O d_strokes rfl sc_strokes (fun Y S => g_list (l := G_strokes (⟨a_ArgumentError, a_LogError⟩ : CA)) (.cons (gok_fn S cg_strokes_of (by decide) (by decide)) (.cons (gok_fn S cg_in_range (by decide) (by decide)) (.cons (gok_kv S mv_MAX_NUMBER kv_int nd_MAX_NUMBER) (.cons (gok_ex S (by decide) mc_ArgumentError ex_ArgumentError nd_ArgumentError) (.cons (gok_fn S cg_demand_place (by decide) (by decide)) (.cons (gok_fnd S cg_demand_wheel (by decide) (by decide)) .nil)))))))
  have cg_hours_for : CalG PySem.Challenge.pw_geartrue_k56_whole_striking_works w K mg base 4 "hours_for" ["wheel", "place", "count"] (F_hours_for (⟨a_ArgumentError, a_LogError⟩ : CA)) := cal_of (k := 3) stdM_ok O d_hours_for rfl sc_hours_for (fun Y S => g_list (l := G_hours_for (⟨a_ArgumentError, a_LogError⟩ : CA)) (.cons (gok_fn S cg_strokes_of (by decide) (by decide)) (.cons (gok_bi S m_sum ok_sum) (.cons (gok_bi S m_len ok_len) (.cons (gok_fn S cg_in_range (by decide) (by decide)) (.cons (gok_kv S mv_MAX_NUMBER kv_int nd_MAX_NUMBER) (.cons (gok_ex S (by decide) mc_ArgumentError ex_ArgumentError nd_ArgumentError) (.cons (gok_fn S cg_demand_place (by decide) (by decide)) (.cons (gok_fnd S cg_demand_wheel (by decide) (by decide)) .nil)))))))))
  have cg_l_told : CalG PySem.Challenge.pw_geartrue_k56_whole_striking_works w K mg base 5 "_law_told" ["which", "one", "two", "three", "four"] (F_l_told (⟨a_ArgumentError, a_LogError⟩ : CA)) := cal_of (k := 4) stdM_ok O d_l_told rfl sc_l_told (fun Y S => g_list (l := G_l_told (⟨a_ArgumentError, a_LogError⟩ : CA)) (.cons (gok_ex S (by decide) mc_LogError ex_LogError nd_LogError) (.cons (gok_ex S (by decide) mc_ArgumentError ex_ArgumentError nd_ArgumentError) (.cons (gok_fn S cg_struck (by decide) (by decide)) (.cons (gok_fn S cg_wrong_hours (by decide) (by decide)) (.cons (gok_fn S cg_pulls_needed (by decide) (by decide)) (.cons (gok_fn S cg_pulls (by decide) (by decide)) (.cons (gok_fn S cg_first_unlike (by decide) (by decide)) (.cons (gok_fn S cg_wheel_of (by decide) (by decide)) (.cons (gok_fn S cg_notches (by decide) (by decide)) (.cons (gok_fn S cg_period (by decide) (by decide)) (.cons (gok_fn S cg_strokes (by decide) (by decide)) (.cons (gok_fn S cg_hours_for (by decide) (by decide)) .nil)))))))))))))
  have cg_l_more : CalG PySem.Challenge.pw_geartrue_k56_whole_striking_works w K mg base 1 "_law_more" ["draws", "place"] (F_l_more (⟨a_ArgumentError, a_LogError⟩ : CA)) := cal_of (k := 0) stdM_ok O d_l_more rfl sc_l_more (fun Y S => g_list (l := G_l_more (⟨a_ArgumentError, a_LogError⟩ : CA)) (.cons (gok_it S m_range) (.cons (gok_bi S m_int ok_int) (.cons (gok_bi S m_len ok_len) .nil))))
  have cg_l_take : CalG PySem.Challenge.pw_geartrue_k56_whole_striking_works w K mg base 2 "_law_take" ["draws", "at", "many"] (F_l_take (⟨a_ArgumentError, a_LogError⟩ : CA)) := cal_of (k := 1) stdM_ok O d_l_take rfl sc_l_take (fun Y S => g_list (l := G_l_take (⟨a_ArgumentError, a_LogError⟩ : CA)) (.cons (gok_bi S m_int ok_int) (.cons (gok_bi S m_len ok_len) (.cons (gok_fn S cg_l_more (by decide) (by decide)) .nil))))
  have cg_l_one : CalG PySem.Challenge.pw_geartrue_k56_whole_striking_works w K mg base 3 "_law_one" ["rows", "draws", "at"] (F_l_one (⟨a_ArgumentError, a_LogError⟩ : CA)) := cal_of (k := 2) stdM_ok O d_l_one rfl sc_l_one (fun Y S => g_list (l := G_l_one (⟨a_ArgumentError, a_LogError⟩ : CA)) (.cons (gok_fn S cg_l_take (by decide) (by decide)) (.cons (gok_bi S m_len ok_len) .nil)))
  have cg_l_same_as : CalG PySem.Challenge.pw_geartrue_k56_whole_striking_works w K mg base 1 "_law_same_as" ["actual", "due"] (F_l_same_as (⟨a_ArgumentError, a_LogError⟩ : CA)) := cal_of (k := 0) stdM_ok O d_l_same_as rfl sc_l_same_as (fun Y S => g_list (l := G_l_same_as (⟨a_ArgumentError, a_LogError⟩ : CA)) (.cons (gok_bi S m_repr ok_repr) .nil))
  have cg_l_turned : CalG PySem.Challenge.pw_geartrue_k56_whole_striking_works w K mg base 1 "_law_turned" ["wheel", "place"] (F_l_turned (⟨a_ArgumentError, a_LogError⟩ : CA)) := cal_of (k := 0) stdM_ok O d_l_turned rfl sc_l_turned (fun Y S => g_list (l := G_l_turned (⟨a_ArgumentError, a_LogError⟩ : CA)) .nil)
  have cg_l_pulls : CalG PySem.Challenge.pw_geartrue_k56_whole_striking_works w K mg base 2 "_law_pulls" ["wheel", "place", "due"] (F_l_pulls (⟨a_ArgumentError, a_LogError⟩ : CA)) := cal_of (k := 1) stdM_ok O d_l_pulls rfl sc_l_pulls (fun Y S => g_list (l := G_l_pulls (⟨a_ArgumentError, a_LogError⟩ : CA)) (.cons (gok_it S m_range) (.cons (gok_bi S m_len ok_len) (.cons (gok_fn S cg_l_turned (by decide) (by decide)) (.cons (gok_bi S m_int ok_int) .nil)))))
  have cg_l_run : CalG PySem.Challenge.pw_geartrue_k56_whole_striking_works w K mg base 1 "_law_run" ["wheel", "deeds"] (F_l_run (⟨a_ArgumentError, a_LogError⟩ : CA)) := cal_of (k := 0) stdM_ok O d_l_run rfl sc_l_run (fun Y S => g_list (l := G_l_run (⟨a_ArgumentError, a_LogError⟩ : CA)) (.cons (gok_it S m_range) (.cons (gok_bi S m_len ok_len) (.cons (gok_bi S m_int ok_int) (.cons (gok_bi S m_isinstance ok_isi) (.cons (gok_bi S m_str ok_str) .nil))))))
  have cg_l_deeds_fit : CalG PySem.Challenge.pw_geartrue_k56_whole_striking_works w K mg base 6 "_law_deeds_fit" ["wheel", "deeds"] (F_l_deeds_fit (⟨a_ArgumentError, a_LogError⟩ : CA)) := cal_of (k := 5) stdM_ok O d_l_deeds_fit rfl sc_l_deeds_fit (fun Y S => g_list (l := G_l_deeds_fit (⟨a_ArgumentError, a_LogError⟩ : CA)) (.cons (gok_fn S cg_l_same_as (by decide) (by decide)) (.cons (gok_bi S m_tuple ok_tuple) (.cons (gok_fn S cg_l_told (by decide) (by decide)) (.cons (gok_fn S cg_l_pulls (by decide) (by decide)) (.cons (gok_bi S m_int ok_int) (.cons (gok_bi S m_len ok_len) (.cons (gok_fn S cg_l_run (by decide) (by decide)) .nil))))))))
  have cg_l_unlike : CalG PySem.Challenge.pw_geartrue_k56_whole_striking_works w K mg base 1 "_law_unlike" ["wheel", "place", "other", "spot"] (F_l_unlike (⟨a_ArgumentError, a_LogError⟩ : CA)) := cal_of (k := 0) stdM_ok O d_l_unlike rfl sc_l_unlike (fun Y S => g_list (l := G_l_unlike (⟨a_ArgumentError, a_LogError⟩ : CA)) (.cons (gok_it S m_range) (.cons (gok_bi S m_len ok_len) (.cons (gok_bi S m_int ok_int) .nil))))
  have cg_l_wheel : CalG PySem.Challenge.pw_geartrue_k56_whole_striking_works w K mg base 4 "_law_wheel" ["draws", "at"] (F_l_wheel (⟨a_ArgumentError, a_LogError⟩ : CA)) := cal_of (k := 3) stdM_ok O d_l_wheel rfl sc_l_wheel (fun Y S => g_list (l := G_l_wheel (⟨a_ArgumentError, a_LogError⟩ : CA)) (.cons (gok_fn S cg_l_take (by decide) (by decide)) (.cons (gok_bi S m_len ok_len) (.cons (gok_bi S m_max ok_max) (.cons (gok_bi S m_tuple ok_tuple) (.cons (gok_it S m_range) (.cons (gok_fn S cg_l_one (by decide) (by decide)) (.cons (gok_kv S mv_MAX_STROKES kv_int nd_MAX_STROKES) (.cons (gok_kv S mv_MAX_TURN kv_int nd_MAX_TURN) .nil)))))))))
  have cg_l_strokes : CalG PySem.Challenge.pw_geartrue_k56_whole_striking_works w K mg base 2 "_law_strokes" ["wheel", "place", "hours"] (F_l_strokes (⟨a_ArgumentError, a_LogError⟩ : CA)) := cal_of (k := 1) stdM_ok O d_l_strokes rfl sc_l_strokes (fun Y S => g_list (l := G_l_strokes (⟨a_ArgumentError, a_LogError⟩ : CA)) (.cons (gok_bi S m_len ok_len) (.cons (gok_bi S m_sum ok_sum) (.cons (gok_bi S m_int ok_int) (.cons (gok_fn S cg_l_turned (by decide) (by decide)) .nil)))))
  have cg_l_hours : CalG PySem.Challenge.pw_geartrue_k56_whole_striking_works w K mg base 3 "_law_hours" ["wheel", "place", "count"] (F_l_hours (⟨a_ArgumentError, a_LogError⟩ : CA)) := cal_of (k := 2) stdM_ok O d_l_hours rfl sc_l_hours (fun Y S => g_list (l := G_l_hours (⟨a_ArgumentError, a_LogError⟩ : CA)) (.cons (gok_fn S cg_l_strokes (by decide) (by decide)) (.cons (gok_bi S m_sum ok_sum) (.cons (gok_bi S m_len ok_len) (.cons (gok_fn S cg_l_turned (by decide) (by decide)) .nil)))))
  have cg_l_period : CalG PySem.Challenge.pw_geartrue_k56_whole_striking_works w K mg base 1 "_law_period" ["wheel"] (F_l_period (⟨a_ArgumentError, a_LogError⟩ : CA)) := cal_of (k := 0) stdM_ok O d_l_period rfl sc_l_period (fun Y S => g_list (l := G_l_period (⟨a_ArgumentError, a_LogError⟩ : CA)) (.cons (gok_it S m_range) (.cons (gok_bi S m_len ok_len) .nil)))
  have cg_l_sums : CalG PySem.Challenge.pw_geartrue_k56_whole_striking_works w K mg base 1 "_law_sums" ["wheel"] (F_l_sums (⟨a_ArgumentError, a_LogError⟩ : CA)) := cal_of (k := 0) stdM_ok O d_l_sums rfl sc_l_sums (fun Y S => g_list (l := G_l_sums (⟨a_ArgumentError, a_LogError⟩ : CA)) (.cons (gok_bi S m_tuple ok_tuple) (.cons (gok_it S m_range) (.cons (gok_bi S m_len ok_len) (.cons (gok_bi S m_sum ok_sum) .nil)))))
  have cg_l_draws : CalG PySem.Challenge.pw_geartrue_k56_whole_striking_works w K mg base 1 "_law_draws" ["script"] (F_l_draws (⟨a_ArgumentError, a_LogError⟩ : CA)) := cal_of (k := 0) stdM_ok O d_l_draws rfl sc_l_draws (fun Y S => g_list (l := G_l_draws (⟨a_ArgumentError, a_LogError⟩ : CA)) (.cons (gok_it S m_range) (.cons (gok_bi S m_int ok_int) (.cons (gok_bi S m_abs ok_abs) .nil))))
  exact fnG_of (k := 6) stdM_ok O (.of F3) rfl sc_law (fun Y S => g_list (l := G_law (⟨a_ArgumentError, a_LogError⟩ : CA)) (.cons (gok_fn S cg_l_told (by decide) (by decide)) (.cons (gok_fn S cg_l_one (by decide) (by decide)) (.cons (gok_kv S mv_MAX_HOURS kv_int nd_MAX_HOURS) (.cons (gok_bi S m_tuple ok_tuple) (.cons (gok_it S m_range) (.cons (gok_kv S mv_MAX_TURN kv_int nd_MAX_TURN) (.cons (gok_kv S mv_MAX_STROKES kv_int nd_MAX_STROKES) (.cons (gok_bi S m_len ok_len) (.cons (gok_fn S cg_l_deeds_fit (by decide) (by decide)) (.cons (gok_fn S cg_l_take (by decide) (by decide)) (.cons (gok_fn S cg_l_same_as (by decide) (by decide)) (.cons (gok_fn S cg_l_unlike (by decide) (by decide)) (.cons (gok_bi S m_int ok_int) (.cons (gok_fn S cg_l_wheel (by decide) (by decide)) (.cons (gok_fn S cg_l_turned (by decide) (by decide)) (.cons (gok_fn S cg_l_pulls (by decide) (by decide)) (.cons (gok_fn S cg_l_hours (by decide) (by decide)) (.cons (gok_fn S cg_l_strokes (by decide) (by decide)) (.cons (gok_bi S m_sum ok_sum) (.cons (gok_fn S cg_l_period (by decide) (by decide)) (.cons (gok_fn S cg_l_sums (by decide) (by decide)) (.cons (gok_fn S cg_l_draws (by decide) (by decide)) .nil)))))))))))))))))))))))
end K56
open PySem PySem.W PyProof.Rows
set_option maxRecDepth 100000 in
set_option maxHeartbeats 8000000 in
theorem PySem.Challenge.cw_geartrue_k56_whole_striking_works_holds : PySem.Challenge.rw_geartrue_k56_whole_striking_works.Holds := by
  w_on; o_law; k_head; (case hw => w_witness2)
  k_fill
  refine DL.walk_do (n := 63) (k := 7) (x := "script") (by decide +kernel) (by rw [sizeLine_eq]; decide) rfl ⟨rfl, by decide, by decide⟩ (fun w h Y => PySem.W.kIn_of Y) ?F
  case F =>
    intro w mg fa h Y KX G hmg
    have key := by
      refine' K56.all_mk (w := w) KX G hmg ?n_ArgumentError ?bx_ArgumentError ?hd_ArgumentError ?ty_ArgumentError ?n_LogError ?bx_LogError ?hd_LogError ?ty_LogError ?spe ?tke ?opq ?xC_ArgumentError ?sa_ArgumentError ?iC_ArgumentError ?tC_ArgumentError ?lF_ArgumentError ?cI_ArgumentError ?lcd_ArgumentError ?h2_ArgumentError ?hf_ArgumentError ?lcc_ArgumentError ?hD_ArgumentError ?hsub_ArgumentError ?sup_ArgumentError ?isVE_ArgumentError ?kC_ArgumentError ?no_reason_ArgumentError ?rv_ArgumentError ?s1_ArgumentError ?s2_ArgumentError ?s3_ArgumentError ?s4_ArgumentError ?s5_ArgumentError ?s6_ArgumentError ?s7_ArgumentError ?s8_reason_ArgumentError ?ga_ArgumentError ?gg_ArgumentError ?cla_ArgumentError ?ob_ArgumentError ?self_ArgumentError ?sub_ArgumentError_ArgumentError ?sub_ArgumentError_LogError ?xC_LogError ?sa_LogError ?iC_LogError ?tC_LogError ?lF_LogError ?cI_LogError ?lcd_LogError ?h2_LogError ?hf_LogError ?lcc_LogError ?hD_LogError ?hsub_LogError ?sup_LogError ?isVE_LogError ?kC_LogError ?no_number_LogError ?no_reason_LogError ?rv_LogError ?s1_LogError ?s2_LogError ?s3_LogError ?s4_LogError ?s5_LogError ?s6_LogError ?s7_LogError ?s8_number_LogError ?s8_reason_LogError ?ga_LogError ?gg_LogError ?cla_LogError ?ob_LogError ?self_LogError ?sub_LogError_ArgumentError ?sub_LogError_LogError ?top ?z_len ?z_isinstance ?z_str ?z_tuple ?z_int ?z_bool ?z_all ?z_sum ?z_repr ?z_max ?z_abs ?z_enumerate ?z_range ?z_zip ?z_super ?v_DEEDS ?lt_1 ?v_MAX_HOURS ?v_MAX_STROKES ?v_MAX_TURN ?v_MAX_NUMBER ?a_played ?l_played ?c_played ?k_played ?a_demand_deeds ?l_demand_deeds ?c_demand_deeds ?k_demand_deeds ?a_is_integer ?l_is_integer ?c_is_integer ?k_is_integer ?a_in_range ?l_in_range ?c_in_range ?k_in_range ?a_demand_wheel ?l_demand_wheel ?ld_demand_wheel ?c_demand_wheel ?k_demand_wheel ?a_struck ?l_struck ?c_struck ?k_struck ?a_wrong_hours ?l_wrong_hours ?c_wrong_hours ?k_wrong_hours ?a_period_of ?l_period_of ?c_period_of ?k_period_of ?a_pulls_needed ?l_pulls_needed ?c_pulls_needed ?k_pulls_needed ?a_demand_place ?l_demand_place ?c_demand_place ?k_demand_place ?a_pulls ?l_pulls ?c_pulls ?k_pulls ?a_first_unlike ?l_first_unlike ?c_first_unlike ?k_first_unlike ?a_wheel_of ?l_wheel_of ?c_wheel_of ?k_wheel_of ?a_notches ?l_notches ?c_notches ?k_notches ?a_period ?l_period ?c_period ?k_period ?a_strokes_of ?l_strokes_of ?c_strokes_of ?k_strokes_of ?a_strokes ?l_strokes ?c_strokes ?k_strokes ?a_hours_for ?l_hours_for ?c_hours_for ?k_hours_for ?a_l_told ?l_l_told ?c_l_told ?k_l_told ?a_l_more ?l_l_more ?c_l_more ?k_l_more ?a_l_take ?l_l_take ?c_l_take ?k_l_take ?a_l_one ?l_l_one ?c_l_one ?k_l_one ?a_l_same_as ?l_l_same_as ?c_l_same_as ?k_l_same_as ?a_l_turned ?l_l_turned ?c_l_turned ?k_l_turned ?a_l_pulls ?l_l_pulls ?c_l_pulls ?k_l_pulls ?a_l_run ?l_l_run ?c_l_run ?k_l_run ?a_l_deeds_fit ?l_l_deeds_fit ?c_l_deeds_fit ?k_l_deeds_fit ?a_l_unlike ?l_l_unlike ?c_l_unlike ?k_l_unlike ?a_l_wheel ?l_l_wheel ?c_l_wheel ?k_l_wheel ?a_l_strokes ?l_l_strokes ?c_l_strokes ?k_l_strokes ?a_l_hours ?l_l_hours ?c_l_hours ?k_l_hours ?a_l_period ?l_l_period ?c_l_period ?k_l_period ?a_l_sums ?l_l_sums ?c_l_sums ?k_l_sums ?a_l_draws ?l_l_draws ?c_l_draws ?k_l_draws ?a_law ?l_law ?c_law ?k_law
      (case n_ArgumentError => k_is)
      (case bx_ArgumentError => k_is)
      (case hd_ArgumentError => k_is)
      (case ty_ArgumentError => k_is)
      (case n_LogError => k_is)
      (case bx_LogError => k_is)
      (case hd_LogError => k_is)
      (case ty_LogError => k_is)
      (case spe => k_is)
      (case tke => k_is)
      (case opq => k_is)
      (case xC_ArgumentError => k_is)
      (case sa_ArgumentError => k_is)
      (case iC_ArgumentError => k_is)
      (case tC_ArgumentError => k_is)
      (case lF_ArgumentError => k_is)
      (case cI_ArgumentError => k_is)
      (case lcd_ArgumentError => k_is)
      (case h2_ArgumentError => rfl)
      (case hf_ArgumentError => (first | rfl | decide +kernel))
      (case lcc_ArgumentError => k_is)
      (case hD_ArgumentError => k_is)
      (case hsub_ArgumentError => k_is)
      (case sup_ArgumentError => ks_is)
      (case isVE_ArgumentError => k_is)
      (case kC_ArgumentError => k_is)
      (case no_reason_ArgumentError => k_is)
      (case rv_ArgumentError => (first | rfl | decide +kernel))
      (case s1_ArgumentError => rfl)
      (case s2_ArgumentError => rfl)
      (case s3_ArgumentError => rfl)
      (case s4_ArgumentError => decide +kernel)
      (case s5_ArgumentError => decide +kernel)
      (case s6_ArgumentError => decide +kernel)
      (case s7_ArgumentError => decide +kernel)
      (case s8_reason_ArgumentError => decide +kernel)
      (case ga_ArgumentError => k_is)
      (case gg_ArgumentError => k_is)
      (case cla_ArgumentError => k_is)
      (case ob_ArgumentError => k_is)
      (case self_ArgumentError => k_is)
      (case sub_ArgumentError_ArgumentError => k_is)
      (case sub_ArgumentError_LogError => k_is)
      (case xC_LogError => k_is)
      (case sa_LogError => k_is)
      (case iC_LogError => k_is)
      (case tC_LogError => k_is)
      (case lF_LogError => k_is)
      (case cI_LogError => k_is)
      (case lcd_LogError => k_is)
      (case h2_LogError => rfl)
      (case hf_LogError => (first | rfl | decide +kernel))
      (case lcc_LogError => k_is)
      (case hD_LogError => k_is)
      (case hsub_LogError => k_is)
      (case sup_LogError => ks_is)
      (case isVE_LogError => k_is)
      (case kC_LogError => k_is)
      (case no_number_LogError => k_is)
      (case no_reason_LogError => k_is)
      (case rv_LogError => (first | rfl | decide +kernel))
      (case s1_LogError => rfl)
      (case s2_LogError => rfl)
      (case s3_LogError => rfl)
      (case s4_LogError => decide +kernel)
      (case s5_LogError => decide +kernel)
      (case s6_LogError => decide +kernel)
      (case s7_LogError => decide +kernel)
      (case s8_number_LogError => decide +kernel)
      (case s8_reason_LogError => decide +kernel)
      (case ga_LogError => k_is)
      (case gg_LogError => k_is)
      (case cla_LogError => k_is)
      (case ob_LogError => k_is)
      (case self_LogError => k_is)
      (case sub_LogError_ArgumentError => k_is)
      (case sub_LogError_LogError => k_is)
      (case top => (first | rfl | decide +kernel))
      (case z_len => k_is)
      (case z_isinstance => k_is)
      (case z_str => k_is)
      (case z_tuple => k_is)
      (case z_int => k_is)
      (case z_bool => k_is)
      (case z_all => k_is)
      (case z_sum => k_is)
      (case z_repr => k_is)
      (case z_max => k_is)
      (case z_abs => k_is)
      (case z_enumerate => k_is)
      (case z_range => k_is)
      (case z_zip => k_is)
      (case z_super => k_is)
      (case v_DEEDS => k_is)
      (case lt_1 => k_is)
      (case v_MAX_HOURS => k_is)
      (case v_MAX_STROKES => k_is)
      (case v_MAX_TURN => k_is)
      (case v_MAX_NUMBER => k_is)
      (case a_played => k_is)
      (case l_played => k_is)
      (case c_played => k_is)
      (case k_played => k_is)
      (case a_demand_deeds => k_is)
      (case l_demand_deeds => k_is)
      (case c_demand_deeds => k_is)
      (case k_demand_deeds => k_is)
      (case a_is_integer => k_is)
      (case l_is_integer => k_is)
      (case c_is_integer => k_is)
      (case k_is_integer => k_is)
      (case a_in_range => k_is)
      (case l_in_range => k_is)
      (case c_in_range => k_is)
      (case k_in_range => k_is)
      (case a_demand_wheel => k_is)
      (case l_demand_wheel => k_is)
      (case ld_demand_wheel => k_is)
      (case c_demand_wheel => k_is)
      (case k_demand_wheel => k_is)
      (case a_struck => k_is)
      (case l_struck => k_is)
      (case c_struck => k_is)
      (case k_struck => k_is)
      (case a_wrong_hours => k_is)
      (case l_wrong_hours => k_is)
      (case c_wrong_hours => k_is)
      (case k_wrong_hours => k_is)
      (case a_period_of => k_is)
      (case l_period_of => k_is)
      (case c_period_of => k_is)
      (case k_period_of => k_is)
      (case a_pulls_needed => k_is)
      (case l_pulls_needed => k_is)
      (case c_pulls_needed => k_is)
      (case k_pulls_needed => k_is)
      (case a_demand_place => k_is)
      (case l_demand_place => k_is)
      (case c_demand_place => k_is)
      (case k_demand_place => k_is)
      (case a_pulls => k_is)
      (case l_pulls => k_is)
      (case c_pulls => k_is)
      (case k_pulls => k_is)
      (case a_first_unlike => k_is)
      (case l_first_unlike => k_is)
      (case c_first_unlike => k_is)
      (case k_first_unlike => k_is)
      (case a_wheel_of => k_is)
      (case l_wheel_of => k_is)
      (case c_wheel_of => k_is)
      (case k_wheel_of => k_is)
      (case a_notches => k_is)
      (case l_notches => k_is)
      (case c_notches => k_is)
      (case k_notches => k_is)
      (case a_period => k_is)
      (case l_period => k_is)
      (case c_period => k_is)
      (case k_period => k_is)
      (case a_strokes_of => k_is)
      (case l_strokes_of => k_is)
      (case c_strokes_of => k_is)
      (case k_strokes_of => k_is)
      (case a_strokes => k_is)
      (case l_strokes => k_is)
      (case c_strokes => k_is)
      (case k_strokes => k_is)
      (case a_hours_for => k_is)
      (case l_hours_for => k_is)
      (case c_hours_for => k_is)
      (case k_hours_for => k_is)
      (case a_l_told => k_is)
      (case l_l_told => k_is)
      (case c_l_told => k_is)
      (case k_l_told => k_is)
      (case a_l_more => k_is)
      (case l_l_more => k_is)
      (case c_l_more => k_is)
      (case k_l_more => k_is)
      (case a_l_take => k_is)
      (case l_l_take => k_is)
      (case c_l_take => k_is)
      (case k_l_take => k_is)
      (case a_l_one => k_is)
      (case l_l_one => k_is)
      (case c_l_one => k_is)
      (case k_l_one => k_is)
      (case a_l_same_as => k_is)
      (case l_l_same_as => k_is)
      (case c_l_same_as => k_is)
      (case k_l_same_as => k_is)
      (case a_l_turned => k_is)
      (case l_l_turned => k_is)
      (case c_l_turned => k_is)
      (case k_l_turned => k_is)
      (case a_l_pulls => k_is)
      (case l_l_pulls => k_is)
      (case c_l_pulls => k_is)
      (case k_l_pulls => k_is)
      (case a_l_run => k_is)
      (case l_l_run => k_is)
      (case c_l_run => k_is)
      (case k_l_run => k_is)
      (case a_l_deeds_fit => k_is)
      (case l_l_deeds_fit => k_is)
      (case c_l_deeds_fit => k_is)
      (case k_l_deeds_fit => k_is)
      (case a_l_unlike => k_is)
      (case l_l_unlike => k_is)
      (case c_l_unlike => k_is)
      (case k_l_unlike => k_is)
      (case a_l_wheel => k_is)
      (case l_l_wheel => k_is)
      (case c_l_wheel => k_is)
      (case k_l_wheel => k_is)
      (case a_l_strokes => k_is)
      (case l_l_strokes => k_is)
      (case c_l_strokes => k_is)
      (case k_l_strokes => k_is)
      (case a_l_hours => k_is)
      (case l_l_hours => k_is)
      (case c_l_hours => k_is)
      (case k_l_hours => k_is)
      (case a_l_period => k_is)
      (case l_l_period => k_is)
      (case c_l_period => k_is)
      (case k_l_period => k_is)
      (case a_l_sums => k_is)
      (case l_l_sums => k_is)
      (case c_l_sums => k_is)
      (case k_l_sums => k_is)
      (case a_l_draws => k_is)
      (case l_l_draws => k_is)
      (case c_l_draws => k_is)
      (case k_l_draws => k_is)
      (case a_law => k_is)
      (case l_law => k_is)
      (case c_law => k_is)
      (case k_law => k_is)
    obtain ⟨fd, g, hb, ⟨C, rfl, hC⟩, hF⟩ := key
    refine ⟨fd, _, hb, fun ns hn => K56.law_true _ (by rw [hC]; decide +kernel) ns, hF⟩
